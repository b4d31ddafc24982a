import PyProof.Rows.All
import Wide.All
import OpenK.AllK
import Wide.FinOn
import HandS.ForMost
import HandS.Walk
import KE.GoesMore
import HandS.SetFor
import HandS.Strs
import HandS.Conv
import HandS.TupAny
import PyProof.ReprRoads
import PyProof.ReprLen
import HandS.Exc
import HandS.ExcOwn
import HandS.TryOnly
import HandS.TryMany
import HandS.WordsExc
import HandS.ExcInit
import HandS.Star
import HandS.Zip
import HandS.IsInst
import HandS.WordsList
import PySem.Challenge.RW_botheven_k40_whole_colours_and_lots
import HandS.SortInts
import KE.BitLaws
set_option Elab.async false
set_option linter.all false
set_option maxRecDepth 100000
set_option maxHeartbeats 4000000
/-! Botheven k40: the mathematics, with no program in sight. A web: n places, its ties ts. A lot: an ascending list of ties. A colouring: c : Nat → Bool. -/
namespace Bh

/-! ### picked places -/
def selK (f : Nat → Bool) (n : Nat) : List Nat := (List.range n).filter f
theorem selK_succ (f : Nat → Bool) (n : Nat) : selK f (n + 1) = selK f n ++ (if f n = true then [n] else []) := by
  unfold selK
  rw [List.range_succ, List.filter_append]
  congr 1
  by_cases h : f n = true
  · simp [h]
  · simp [h]
theorem selK_zero (f : Nat → Bool) : selK f 0 = [] := rfl
theorem selK_yes {f : Nat → Bool} {n : Nat} (h : f n = true) : selK f (n + 1) = selK f n ++ [n] := by rw [selK_succ, if_pos h]
theorem selK_no {f : Nat → Bool} {n : Nat} (h : f n = false) : selK f (n + 1) = selK f n := by rw [selK_succ, if_neg (by rw [h]; decide), List.append_nil]
theorem mem_selK {f : Nat → Bool} {n k : Nat} : k ∈ selK f n ↔ k < n ∧ f k = true := by
  unfold selK
  rw [List.mem_filter, List.mem_range]
theorem selK_len (f : Nat → Bool) (n : Nat) : (selK f n).length ≤ n := by
  have h := List.length_filter_le f (List.range n)
  rw [List.length_range] at h
  exact h
theorem selK_asc (f : Nat → Bool) (n : Nat) : (selK f n).Pairwise (· < ·) := List.Pairwise.filter f List.pairwise_lt_range
theorem selK_congr {f g : Nat → Bool} {n : Nat} (h : ∀ k, k < n → f k = g k) : selK f n = selK g n := by
  unfold selK
  exact List.filter_congr fun k hk => h k (List.mem_range.mp hk)
theorem selK_inj {f g : Nat → Bool} {n : Nat} (h : selK f n = selK g n) : ∀ k, k < n → f k = g k := fun k hk => by
  have e : k ∈ selK f n ↔ k ∈ selK g n := by rw [h]
  rw [mem_selK, mem_selK] at e
  cases hf : f k <;> cases hg : g k <;> simp_all

/-- two ascending lists of the same items are one -/
theorem asc_ext : ∀ {l m : List Nat}, l.Pairwise (· < ·) → m.Pairwise (· < ·) → (∀ k, k ∈ l ↔ k ∈ m) → l = m
  | [], [], _, _, _ => rfl
  | [], b :: m, _, _, h => absurd ((h b).mpr List.mem_cons_self) (by simp)
  | a :: l, [], _, _, h => absurd ((h a).mp List.mem_cons_self) (by simp)
  | a :: l, b :: m, hl, hm, h => by
    have hl' := List.pairwise_cons.mp hl
    have hm' := List.pairwise_cons.mp hm
    have e : a = b := by
      have h1 := (h a).mp List.mem_cons_self
      have h2 := (h b).mpr List.mem_cons_self
      rcases List.mem_cons.mp h1 with e | e
      · exact e
      · rcases List.mem_cons.mp h2 with e2 | e2
        · exact e2.symm
        · have x := hm'.1 a e
          have y := hl'.1 b e2
          omega
    subst e
    congr 1
    refine asc_ext hl'.2 hm'.2 fun k => ?_
    have hk := h k
    constructor
    · intro q
      rcases List.mem_cons.mp (hk.mp (List.mem_cons_of_mem _ q)) with e | e
      · have x := hl'.1 k q
        omega
      · exact e
    · intro q
      rcases List.mem_cons.mp (hk.mpr (List.mem_cons_of_mem _ q)) with e | e
      · have x := hm'.1 k q
        omega
      · exact e

/-! ### webs, lots, colours -/
abbrev Ties := List (Nat × Nat)
def tie (ts : Ties) (k : Nat) : Nat × Nat := ts.getD k (0, 0)
theorem tie_get {ts : Ties} {k : Nat} {p : Nat × Nat} (h : ts[k]? = some p) : tie ts k = p := by
  unfold tie
  rw [List.getD_eq_getElem?_getD, h]
  rfl
theorem tie_mem {ts : Ties} {k : Nat} (h : k < ts.length) : tie ts k ∈ ts := by
  have e : ts[k]? = some ts[k] := List.getElem?_eq_getElem h
  rw [tie_get e]
  exact List.getElem_mem h
theorem mem_tie {ts : Ties} {p : Nat × Nat} (h : p ∈ ts) : ∃ k, k < ts.length ∧ tie ts k = p := by
  obtain ⟨k, hk, e⟩ := List.getElem_of_mem h
  exact ⟨k, hk, by rw [tie_get (List.getElem?_eq_getElem hk), e]⟩
/-- whether the tie k has unlike ends -/
def dif (ts : Ties) (c : Nat → Bool) (k : Nat) : Bool := c (tie ts k).1 != c (tie ts k).2
def paint (ts : Ties) (c : Nat → Bool) : List Nat := selK (dif ts c) ts.length
structure IsLot (m : Nat) (L : List Nat) : Prop where
  asc : L.Pairwise (· < ·)
  lt : ∀ k ∈ L, k < m
theorem IsLot.sel {m : Nat} (f : Nat → Bool) : IsLot m (selK f m) := ⟨selK_asc f m, fun k h => (mem_selK.mp h).1⟩
theorem IsLot.paint (ts : Ties) (c : Nat → Bool) : IsLot ts.length (paint ts c) := .sel _
theorem IsLot.nil (m : Nat) : IsLot m [] := ⟨.nil, fun _ h => nomatch h⟩
theorem IsLot.eq_sel {m : Nat} {L : List Nat} (h : IsLot m L) : L = selK (fun k => decide (k ∈ L)) m :=
  asc_ext h.asc (selK_asc _ _) fun k => by
    rw [mem_selK, decide_eq_true_iff]
    exact ⟨fun q => ⟨h.lt k q, q⟩, fun q => q.2⟩
theorem IsLot.nodup {m : Nat} {L : List Nat} (h : IsLot m L) : L.Nodup := h.asc.imp fun x => Nat.ne_of_lt x
theorem IsLot.len {m : Nat} {L : List Nat} (h : IsLot m L) : L.length ≤ m := by
  rw [h.eq_sel]
  exact selK_len _ _
/-- a lot is the cut of a colouring just where each tie is in it whose ends are unlike -/
theorem lot_paint {ts : Ties} {c : Nat → Bool} {L : List Nat} (h : IsLot ts.length L) : L = paint ts c ↔ ∀ k, k < ts.length → dif ts c k = decide (k ∈ L) := by
  constructor
  · intro e k hk
    have q : k ∈ L ↔ k ∈ paint ts c := by rw [← e]
    unfold paint at q
    rw [mem_selK] at q
    cases hd : dif ts c k
    · exact (decide_eq_false fun z => by
        have := (q.mp z).2
        rw [hd] at this
        cases this).symm
    · exact (decide_eq_true (q.mpr ⟨hk, hd⟩)).symm
  · intro e
    rw [h.eq_sel]
    exact (selK_congr e).symm

structure WebOk (n : Nat) (ts : Ties) : Prop where
  pos : 1 ≤ n
  small : n ≤ 8
  ends : ∀ p ∈ ts, p.1 < p.2 ∧ p.2 < n
  few : ts.length ≤ 30
  conn : ∀ S : Nat → Prop, S 0 → (∀ p ∈ ts, S p.1 ↔ S p.2) → ∀ q, q < n → S q
theorem WebOk.one {n : Nat} {ts : Ties} (w : WebOk n ts) {k : Nat} (h : k < ts.length) : (tie ts k).1 < n := by
  have := w.ends _ (tie_mem h)
  omega
theorem WebOk.two {n : Nat} {ts : Ties} (w : WebOk n ts) {k : Nat} (h : k < ts.length) : (tie ts k).2 < n := (w.ends _ (tie_mem h)).2
theorem WebOk.ne {n : Nat} {ts : Ties} (w : WebOk n ts) {k : Nat} (h : k < ts.length) : (tie ts k).1 ≠ (tie ts k).2 := by
  have := w.ends _ (tie_mem h)
  omega
/-- colours that make one lot and are alike at the place 0 are alike -/
theorem paint_inj {n : Nat} {ts : Ties} (w : WebOk n ts) {c e : Nat → Bool} (h : paint ts c = paint ts e) (h0 : c 0 = e 0) : ∀ p, p < n → c p = e p := by
  refine w.conn (fun p => c p = e p) h0 fun p hp => ?_
  obtain ⟨k, hk, rfl⟩ := mem_tie hp
  have q := selK_inj h k hk
  unfold dif at q
  constructor
  · intro z
    rw [z] at q
    revert q
    cases e (tie ts k).1 <;> cases c (tie ts k).2 <;> cases e (tie ts k).2 <;> simp
  · intro z
    rw [z] at q
    revert q
    cases c (tie ts k).1 <;> cases e (tie ts k).1 <;> cases e (tie ts k).2 <;> simp
theorem paint_congr {n : Nat} {ts : Ties} (w : WebOk n ts) {c e : Nat → Bool} (h : ∀ p, p < n → c p = e p) : paint ts c = paint ts e :=
  selK_congr fun k hk => by
    unfold dif
    rw [h _ (w.one hk), h _ (w.two hk)]
theorem paint_xor (ts : Ties) (c : Nat → Bool) (b : Bool) : paint ts (fun p => c p != b) = paint ts c := selK_congr fun k _ => by
  show ((c (tie ts k).1 != b) != (c (tie ts k).2 != b)) = (c (tie ts k).1 != c (tie ts k).2)
  cases c (tie ts k).1 <;> cases c (tie ts k).2 <;> cases b <;> rfl

/-! ### parities -/
def hit (ts : Ties) (p k : Nat) : Bool := ((tie ts k).1 == p) != ((tie ts k).2 == p)
/-- whether a lot has an odd number of ends at a place -/
def par (ts : Ties) (L : List Nat) (p : Nat) : Bool := L.foldl (fun b k => b != hit ts p k) false
theorem par_snoc (ts : Ties) (L : List Nat) (k p : Nat) : par ts (L ++ [k]) p = (par ts L p != hit ts p k) := by
  unfold par
  rw [List.foldl_append]
  rfl
def evenB (n : Nat) (ts : Ties) (L : List Nat) : Bool := (List.range n).all fun p => !par ts L p
theorem evenB_iff {n : Nat} {ts : Ties} {L : List Nat} : evenB n ts L = true ↔ ∀ p, p < n → par ts L p = false := by
  unfold evenB
  rw [List.all_eq_true]
  constructor
  · intro h p hp
    have := h p (List.mem_range.mpr hp)
    simpa using this
  · intro h p hp
    rw [h p (List.mem_range.mp hp)]
    rfl
theorem foldl_xor_count (f : Nat → Bool) : ∀ (L : List Nat) (b : Bool), L.foldl (fun b k => b != f k) b = (b != decide ((L.filter f).length % 2 = 1))
  | [], b => by cases b <;> rfl
  | k :: L, b => by
    show L.foldl (fun b k => b != f k) (b != f k) = _
    rw [foldl_xor_count f L]
    cases hk : f k
    · rw [List.filter_cons, hk]
      cases b <;> rfl
    · rw [List.filter_cons, hk]
      show ((b != true) != decide ((L.filter f).length % 2 = 1)) = (b != decide ((k :: L.filter f).length % 2 = 1))
      rw [List.length_cons]
      by_cases q : (L.filter f).length % 2 = 1
      · rw [decide_eq_true q, decide_eq_false (show ¬ (((L.filter f).length + 1) % 2 = 1) by omega)]
        cases b <;> rfl
      · rw [decide_eq_false q, decide_eq_true (show ((L.filter f).length + 1) % 2 = 1 by omega)]
        cases b <;> rfl
theorem par_count (ts : Ties) (L : List Nat) (p : Nat) : par ts L p = decide ((L.filter (hit ts p)).length % 2 = 1) := by
  unfold par
  rw [foldl_xor_count]
  cases decide ((L.filter (hit ts p)).length % 2 = 1) <;> rfl
/-- the parity of the ties of an ascending lot, over all ties -/
def cnt (f : Nat → Bool) : Nat → Bool
  | 0 => false
  | m + 1 => cnt f m != f m
theorem fold_sel (g f : Nat → Bool) : ∀ m, (selK f m).foldl (fun b k => b != g k) false = cnt (fun k => f k && g k) m
  | 0 => rfl
  | m + 1 => by
    rw [selK_succ, List.foldl_append, fold_sel g f m]
    show _ = (cnt (fun k => f k && g k) m != (f m && g m))
    cases hf : f m
    · show cnt (fun k => f k && g k) m = (cnt (fun k => f k && g k) m != false)
      cases cnt (fun k => f k && g k) m <;> rfl
    · rfl
theorem cnt_xor (f g : Nat → Bool) : ∀ m, cnt (fun k => f k != g k) m = (cnt f m != cnt g m)
  | 0 => rfl
  | m + 1 => by
    show (cnt (fun k => f k != g k) m != (f m != g m)) = ((cnt f m != f m) != (cnt g m != g m))
    rw [cnt_xor f g m]
    cases cnt f m <;> cases cnt g m <;> cases f m <;> cases g m <;> rfl
theorem cnt_congr {f g : Nat → Bool} (h : ∀ k, f k = g k) : ∀ m, cnt f m = cnt g m
  | 0 => rfl
  | m + 1 => by
    show (cnt f m != f m) = (cnt g m != g m)
    rw [cnt_congr h m, h m]
/-- the sum of two both-even lots' colours makes a both-even lot -/
theorem even_xor {n : Nat} {ts : Ties} {c e : Nat → Bool} (h1 : evenB n ts (paint ts c) = true) (h2 : evenB n ts (paint ts e) = true) : evenB n ts (paint ts fun p => c p != e p) = true := by
  rw [evenB_iff] at *
  intro p hp
  have a := h1 p hp
  have b := h2 p hp
  unfold par paint at *
  rw [fold_sel] at *
  have e3 : cnt (fun k => dif ts (fun p => c p != e p) k && hit ts p k) ts.length = cnt (fun k => (dif ts c k && hit ts p k) != (dif ts e k && hit ts p k)) ts.length := cnt_congr (fun k => by
    show (((c (tie ts k).1 != e (tie ts k).1) != (c (tie ts k).2 != e (tie ts k).2)) && hit ts p k) = (((c (tie ts k).1 != c (tie ts k).2) && hit ts p k) != ((e (tie ts k).1 != e (tie ts k).2) && hit ts p k))
    cases c (tie ts k).1 <;> cases c (tie ts k).2 <;> cases e (tie ts k).1 <;> cases e (tie ts k).2 <;> cases hit ts p k <;> rfl) _
  rw [e3, cnt_xor, a, b]
  rfl
/-- the ties of just one of two cuts are the cut of the colours' sum -/
theorem mem_paint_xor (ts : Ties) (c e : Nat → Bool) (k : Nat) : k ∈ paint ts (fun p => c p != e p) ↔ (k ∈ paint ts c ∧ k ∉ paint ts e) ∨ (k ∉ paint ts c ∧ k ∈ paint ts e) := by
  unfold paint
  rw [mem_selK, mem_selK, mem_selK]
  by_cases hk : k < ts.length
  · simp only [hk, true_and]
    show ((c (tie ts k).1 != e (tie ts k).1) != (c (tie ts k).2 != e (tie ts k).2)) = true ↔ ((c (tie ts k).1 != c (tie ts k).2) = true ∧ ¬ (e (tie ts k).1 != e (tie ts k).2) = true) ∨ (¬ (c (tie ts k).1 != c (tie ts k).2) = true ∧ (e (tie ts k).1 != e (tie ts k).2) = true)
    generalize c (tie ts k).1 = a1
    generalize c (tie ts k).2 = a2
    generalize e (tie ts k).1 = a3
    generalize e (tie ts k).2 = a4
    revert a1 a2 a3 a4
    decide
  · simp [hk]
theorem paint_const (ts : Ties) : paint ts (fun _ => false) = [] := by
  unfold paint selK
  exact List.filter_eq_nil_iff.mpr fun k _ => by
    show ¬ ((false != false) = true)
    decide
theorem even_nil (n : Nat) (ts : Ties) : evenB n ts [] = true := evenB_iff.mpr fun _ _ => rfl

/-! ### ways and rounds: the parity of the ties with unlike ends along them -/
def odd (ts : Ties) (c : Nat → Bool) (L : List Nat) : Bool := L.foldl (fun b k => b != dif ts c k) false
theorem odd_snoc (ts : Ties) (c : Nat → Bool) (L : List Nat) (k : Nat) : odd ts c (L ++ [k]) = (odd ts c L != dif ts c k) := by
  unfold odd
  rw [List.foldl_append]
  rfl
theorem odd_count (ts : Ties) (c : Nat → Bool) (L : List Nat) : odd ts c L = decide ((L.filter (dif ts c)).length % 2 = 1) := by
  unfold odd
  rw [foldl_xor_count]
  cases decide ((L.filter (dif ts c)).length % 2 = 1) <;> rfl
theorem odd_cons (ts : Ties) (c : Nat → Bool) (L : List Nat) (k : Nat) : odd ts c (k :: L) = (dif ts c k != odd ts c L) := by
  unfold odd
  show L.foldl (fun b k => b != dif ts c k) (false != dif ts c k) = _
  rw [foldl_xor_count, foldl_xor_count]
  cases dif ts c k <;> cases decide ((L.filter (dif ts c)).length % 2 = 1) <;> rfl
theorem odd_perm {ts : Ties} {c : Nat → Bool} {L M : List Nat} (h : L.Perm M) : odd ts c L = odd ts c M := by
  rw [odd_count, odd_count, (h.filter _).length_eq]
end Bh

/-! Botheven k40: the mathematics of the search for sides. -/
namespace Bh
abbrev Sd := Nat → Option Bool
def put (f : Sd) (g : Nat) (b : Bool) : Sd := fun x => if x = g then some b else f x
theorem put_same (f : Sd) (g : Nat) (b : Bool) : put f g b g = some b := if_pos rfl
theorem put_ne (f : Sd) {g x : Nat} (b : Bool) (h : x ≠ g) : put f g b x = f x := if_neg h
theorem put_some (f : Sd) (g : Nat) (b : Bool) {x : Nat} (h : f x ≠ none) : put f g b x ≠ none := by
  by_cases e : x = g
  · subst e
    rw [put_same]
    exact fun z => nomatch z
  · rw [put_ne f b e]
    exact h
/-- how many places below n have no side -/
def nn (f : Sd) : Nat → Nat
  | 0 => 0
  | n + 1 => nn f n + (if (f n).isNone then 1 else 0)
theorem nn_le (f : Sd) : ∀ n, nn f n ≤ n
  | 0 => Nat.le_refl _
  | n + 1 => by
    have := nn_le f n
    show nn f n + (if (f n).isNone then 1 else 0) ≤ n + 1
    split <;> omega
theorem nn_above (f : Sd) (b : Bool) {g : Nat} : ∀ {n : Nat}, n ≤ g → nn (put f g b) n = nn f n
  | 0, _ => rfl
  | n + 1, h => by
    show nn (put f g b) n + (if (put f g b n).isNone then 1 else 0) = nn f n + (if (f n).isNone then 1 else 0)
    rw [nn_above f b (by omega), put_ne f b (by omega)]
theorem nn_put (f : Sd) (b : Bool) {g : Nat} (hg : f g = none) : ∀ {n : Nat}, g < n → nn (put f g b) n + 1 = nn f n
  | 0, h => absurd h (Nat.not_lt_zero _)
  | n + 1, h => by
    show nn (put f g b) n + (if (put f g b n).isNone then 1 else 0) + 1 = nn f n + (if (f n).isNone then 1 else 0)
    by_cases e : g = n
    · subst e
      rw [nn_above f b (Nat.le_refl _), put_same, hg]
      rfl
    · rw [put_ne f b (Ne.symm e), ← nn_put f b hg (show g < n by omega)]
      omega
def start0 : Sd := fun x => if x = 0 then some false else none
theorem nn_start : ∀ n, nn start0 (n + 1) = n
  | 0 => rfl
  | n + 1 => by
    show nn start0 (n + 1) + (if (start0 (n + 1)).isNone then 1 else 0) = n + 1
    rw [nn_start n]
    have e : start0 (n + 1) = none := if_neg (by omega)
    rw [e]
    rfl
structure Dfs (n : Nat) (ts : Ties) (L : List Nat) (f : Sd) (ws : List Nat) : Prop where
  zero : f 0 = some false
  wv : ∀ x ∈ ws, x < n ∧ f x ≠ none
  closed : ∀ x, x < n → f x ≠ none → x ∉ ws → ∀ k, k < ts.length → ((tie ts k).1 = x → f (tie ts k).2 ≠ none) ∧ ((tie ts k).2 = x → f (tie ts k).1 ≠ none)
  ok : ∀ c : Nat → Bool, c 0 = false → L = paint ts c → ∀ x b, x < n → f x = some b → b = c x
structure DfsIn (n : Nat) (ts : Ties) (L : List Nat) (p i : Nat) (f : Sd) (ws : List Nat) : Prop where
  zero : f 0 = some false
  wv : ∀ x ∈ ws, x < n ∧ f x ≠ none
  pv : p < n ∧ f p ≠ none
  closed : ∀ x, x < n → f x ≠ none → x ∉ ws → x ≠ p → ∀ k, k < ts.length → ((tie ts k).1 = x → f (tie ts k).2 ≠ none) ∧ ((tie ts k).2 = x → f (tie ts k).1 ≠ none)
  here : ∀ k, k < i → ((tie ts k).1 = p → f (tie ts k).2 ≠ none) ∧ ((tie ts k).2 = p → f (tie ts k).1 ≠ none)
  ok : ∀ c : Nat → Bool, c 0 = false → L = paint ts c → ∀ x b, x < n → f x = some b → b = c x
section
variable {n : Nat} {ts : Ties} {L : List Nat} {f : Sd} {ws : List Nat} {p i : Nat}
theorem Dfs.init (hn : 1 ≤ n) : Dfs n ts L start0 [0] := by
  have only : ∀ x, start0 x ≠ none → x = 0 := fun x h => by
    by_cases e : x = 0
    · exact e
    · exact absurd (if_neg e) h
  refine ⟨rfl, fun x hx => ?_, fun x _ h hx => ?_, fun c hc _ x b _ h => ?_⟩
  · rw [List.mem_singleton.mp hx]
    exact ⟨hn, fun z => nomatch z⟩
  · exact absurd (List.mem_singleton.mpr (only x h)) hx
  · have e := only x (by rw [h]; exact fun z => nomatch z)
    subst e
    rw [hc]
    exact (Option.some.inj h).symm
theorem Dfs.pop (d : Dfs n ts L f (ws ++ [p])) : DfsIn n ts L p 0 f ws where
  zero := d.zero
  wv := fun x hx => d.wv x (List.mem_append_left _ hx)
  pv := d.wv p (by simp)
  closed := fun x h1 h2 h3 h4 => d.closed x h1 h2 fun z => (List.mem_append.mp z).elim h3 fun z => h4 (List.mem_singleton.mp z)
  here := fun k hk => absurd hk (Nat.not_lt_zero _)
  ok := d.ok
theorem DfsIn.done (d : DfsIn n ts L p ts.length f ws) : Dfs n ts L f ws where
  zero := d.zero
  wv := d.wv
  closed := fun x h1 h2 h3 k hk => by
    by_cases e : x = p
    · subst e
      exact d.here k hk
    · exact d.closed x h1 h2 h3 e k hk
  ok := d.ok
/-- the tie i is looked at: all its ends seen from p have sides -/
theorem DfsIn.skip (d : DfsIn n ts L p i f ws) (h : ((tie ts i).1 = p → f (tie ts i).2 ≠ none) ∧ ((tie ts i).2 = p → f (tie ts i).1 ≠ none)) : DfsIn n ts L p (i + 1) f ws where
  zero := d.zero
  wv := d.wv
  pv := d.pv
  closed := d.closed
  here := fun k hk => by
    by_cases e : k = i
    · subst e
      exact h
    · exact d.here k (by omega)
  ok := d.ok
/-- .. a new place g gets its side -/
theorem DfsIn.add (d : DfsIn n ts L p i f ws) {g : Nat} {b : Bool} (hi : i < ts.length) (hL : IsLot ts.length L) (hg : g < n) (hn : f g = none) (hp : f p = some b)
    (e : ((tie ts i).1 = p ∧ (tie ts i).2 = g) ∨ ((tie ts i).2 = p ∧ (tie ts i).1 = g)) : DfsIn n ts L p (i + 1) (put f g (b != decide (i ∈ L))) (ws ++ [g]) where
  zero := by
    rw [put_ne]
    · exact d.zero
    · intro z
      rw [← z, d.zero] at hn
      cases hn
  wv := fun x hx => by
    rcases List.mem_append.mp hx with h | h
    · exact ⟨(d.wv x h).1, put_some _ _ _ (d.wv x h).2⟩
    · rw [List.mem_singleton.mp h]
      exact ⟨hg, by rw [put_same]; exact fun z => nomatch z⟩
  pv := ⟨d.pv.1, put_some _ _ _ d.pv.2⟩
  closed := fun x h1 h2 h3 h4 k hk => by
    have hx : x ∉ ws := fun z => h3 (List.mem_append_left _ z)
    have hxg : x ≠ g := fun z => h3 (List.mem_append_right _ (by rw [z]; simp))
    rw [put_ne _ _ hxg] at h2
    have q := d.closed x h1 h2 hx h4 k hk
    exact ⟨fun z => put_some _ _ _ (q.1 z), fun z => put_some _ _ _ (q.2 z)⟩
  here := fun k hk => by
    by_cases ek : k = i
    · subst ek
      rcases e with ⟨e1, e2⟩ | ⟨e1, e2⟩
      · refine ⟨fun _ => ?_, fun _ => ?_⟩
        · rw [e2, put_same]
          exact fun z => nomatch z
        · rw [e1]
          exact put_some _ _ _ d.pv.2
      · refine ⟨fun _ => ?_, fun _ => ?_⟩
        · rw [e1]
          exact put_some _ _ _ d.pv.2
        · rw [e2, put_same]
          exact fun z => nomatch z
    · have q := d.here k (by omega)
      exact ⟨fun z => put_some _ _ _ (q.1 z), fun z => put_some _ _ _ (q.2 z)⟩
  ok := fun c h0 hc x b' hx hb => by
    by_cases ex : x = g
    · subst ex
      rw [put_same] at hb
      have eb := (Option.some.inj hb).symm
      have ep := d.ok c h0 hc p b d.pv.1 hp
      have ed := (lot_paint hL).mp hc i hi
      rw [eb, ← ed, ep]
      unfold dif
      rcases e with ⟨e1, e2⟩ | ⟨e1, e2⟩
      · rw [e1, e2]
        cases c p <;> cases c x <;> rfl
      · rw [e1, e2]
        cases c p <;> cases c x <;> rfl
    · rw [put_ne _ _ ex] at hb
      exact d.ok c h0 hc x b' hx hb
/-- nothing waits: every place has a side -/
theorem Dfs.all (d : Dfs n ts L f []) (w : WebOk n ts) : ∀ x, x < n → f x ≠ none := by
  refine w.conn (fun x => f x ≠ none) (by rw [d.zero]; exact fun z => nomatch z) fun p hp => ?_
  obtain ⟨k, hk, rfl⟩ := mem_tie hp
  exact ⟨fun h => (d.closed _ (w.one hk) h (by simp) k hk).1 rfl, fun h => (d.closed _ (w.two hk) h (by simp) k hk).2 rfl⟩
end
end Bh

/-! Botheven k40: the mathematics of the first tree and of ways along it. -/
namespace Bh
/-- some of the ties lead from p to q -/
def Con (ts : Ties) (F : List Nat) (p q : Nat) : Prop := ∀ S : Nat → Prop, S p → (∀ k ∈ F, S (tie ts k).1 ↔ S (tie ts k).2) → S q
section
variable {ts : Ties} {F G : List Nat} {p q r : Nat}
theorem Con.refl (ts : Ties) (F : List Nat) (p : Nat) : Con ts F p p := fun _ h _ => h
theorem Con.trans (a : Con ts F p q) (b : Con ts F q r) : Con ts F p r := fun S h c => b S (a S h c) c
theorem Con.symm (a : Con ts F p q) : Con ts F q p := fun S h c => Classical.byContradiction fun z => a (fun x => ¬ S x) z (fun k hk => ⟨fun y s => y ((c k hk).mpr s), fun y s => y ((c k hk).mp s)⟩) h
theorem Con.mono (a : Con ts F p q) (h : ∀ k ∈ F, k ∈ G) : Con ts G p q := fun S s c => a S s fun k hk => c k (h k hk)
theorem Con.tie {k : Nat} (h : k ∈ F) : Con ts F (tie ts k).1 (tie ts k).2 := fun S s c => (c k h).mp s
end
/-- behind i ties: F is taken, h tells the parts -/
structure Tr (ts : Ties) (i : Nat) (F : List Nat) (h : Nat → Nat) : Prop where
  same : ∀ p q, h p = h q → Con ts F p q
  out : ∀ k, k < i → k ∉ F → Con ts F (tie ts k).1 (tie ts k).2
  lt : ∀ k ∈ F, k < i
  len : F.length ≤ i
theorem Tr.init (ts : Ties) : Tr ts 0 [] fun p => p :=
  ⟨fun p q e => by rw [e]; exact Con.refl _ _ _, fun k hk => absurd hk (Nat.not_lt_zero _), fun k hk => (by cases hk), Nat.le_refl _⟩
theorem Tr.skip {ts : Ties} {i : Nat} {F : List Nat} {h : Nat → Nat} (t : Tr ts i F h) (e : h (tie ts i).1 = h (tie ts i).2) : Tr ts (i + 1) F h where
  same := t.same
  out := fun k hk hF => by
    by_cases z : k = i
    · subst z
      exact t.same _ _ e
    · exact t.out k (by omega) hF
  lt := fun k hk => Nat.lt_succ_of_lt (t.lt k hk)
  len := Nat.le_succ_of_le t.len
theorem Tr.take {ts : Ties} {i : Nat} {F : List Nat} {h : Nat → Nat} (t : Tr ts i F h) : Tr ts (i + 1) (F ++ [i]) (fun p => if h p = h (tie ts i).2 then h (tie ts i).1 else h p) where
  same := fun p q e => by
    have mono : ∀ k ∈ F, k ∈ F ++ [i] := fun k hk => List.mem_append_left _ hk
    have ti : Con ts (F ++ [i]) (tie ts i).1 (tie ts i).2 := Con.tie (by simp)
    have key : ∀ p q, h p = h (tie ts i).2 → h (tie ts i).1 = h q → Con ts (F ++ [i]) p q := fun p q e1 e2 => ((t.same _ _ e1).mono mono).trans (ti.symm.trans ((t.same _ _ e2).mono mono))
    by_cases e1 : h p = h (tie ts i).2 <;> by_cases e2 : h q = h (tie ts i).2
    · exact (t.same p q (e1.trans e2.symm)).mono mono
    · rw [if_pos e1, if_neg e2] at e
      exact key p q e1 e
    · rw [if_neg e1, if_pos e2] at e
      exact (key q p e2 e.symm).symm
    · rw [if_neg e1, if_neg e2] at e
      exact (t.same p q e).mono mono
  out := fun k hk hF => by
    have h1 : k ∉ F := fun z => hF (List.mem_append_left _ z)
    have h2 : k ≠ i := fun z => hF (by rw [z]; simp)
    exact (t.out k (by omega) h1).mono fun k hk => List.mem_append_left _ hk
  lt := fun k hk => by
    rcases List.mem_append.mp hk with z | z
    · exact Nat.lt_succ_of_lt (t.lt k z)
    · rw [List.mem_singleton.mp z]
      exact Nat.lt_succ_self i
  len := by
    rw [List.length_append]
    have : [i].length = 1 := rfl
    have := t.len
    omega
/-! ### ways -/
abbrev Wy := Nat → Option (List Nat)
def putW (a : Wy) (g : Nat) (l : List Nat) : Wy := fun x => if x = g then some l else a x
theorem putW_same (a : Wy) (g : Nat) (l : List Nat) : putW a g l g = some l := if_pos rfl
theorem putW_ne (a : Wy) {g x : Nat} (l : List Nat) (h : x ≠ g) : putW a g l x = a x := if_neg h
theorem putW_some (a : Wy) (g : Nat) (l : List Nat) {x : Nat} (h : a x ≠ none) : putW a g l x ≠ none := by
  by_cases e : x = g
  · subst e
    rw [putW_same]
    exact fun z => nomatch z
  · rw [putW_ne a l e]
    exact h
def nw (a : Wy) : Nat → Nat
  | 0 => 0
  | n + 1 => nw a n + (if (a n).isNone then 1 else 0)
theorem nw_above (a : Wy) (l : List Nat) {g : Nat} : ∀ {n : Nat}, n ≤ g → nw (putW a g l) n = nw a n
  | 0, _ => rfl
  | n + 1, h => by
    show nw (putW a g l) n + (if (putW a g l n).isNone then 1 else 0) = nw a n + (if (a n).isNone then 1 else 0)
    rw [nw_above a l (by omega), putW_ne a l (by omega)]
theorem nw_put (a : Wy) (l : List Nat) {g : Nat} (hg : a g = none) : ∀ {n : Nat}, g < n → nw (putW a g l) n + 1 = nw a n
  | 0, h => absurd h (Nat.not_lt_zero _)
  | n + 1, h => by
    show nw (putW a g l) n + (if (putW a g l n).isNone then 1 else 0) + 1 = nw a n + (if (a n).isNone then 1 else 0)
    by_cases e : g = n
    · subst e
      rw [nw_above a l (Nat.le_refl _), putW_same, hg]
      rfl
    · rw [putW_ne a l (Ne.symm e), ← nw_put a l hg (show g < n by omega)]
      omega
theorem nw_none : ∀ n, nw (fun _ => none) n = n
  | 0 => rfl
  | n + 1 => by
    show nw (fun _ => none) n + 1 = n + 1
    rw [nw_none n]
def way0 (o : Nat) : Wy := putW (fun _ => none) o []
theorem nw_way0 {o n : Nat} (h : o < n) : nw (way0 o) n + 1 = n := by
  unfold way0
  rw [nw_put _ _ rfl h, nw_none]
structure Ways (n : Nat) (ts : Ties) (F : List Nat) (o : Nat) (a : Wy) (ws : List Nat) : Prop where
  zero : a o = some []
  wv : ∀ x ∈ ws, x < n ∧ a x ≠ none
  closed : ∀ x, a x ≠ none → x ∉ ws → ∀ k ∈ F, ((tie ts k).1 = x → a (tie ts k).2 ≠ none) ∧ ((tie ts k).2 = x → a (tie ts k).1 ≠ none)
  ok : ∀ x l, a x = some l → (∀ c, odd ts c l = (c o != c x)) ∧ l.length + 1 + nw a n ≤ n
structure WaysIn (n : Nat) (ts : Ties) (F : List Nat) (o p i : Nat) (a : Wy) (ws : List Nat) : Prop where
  zero : a o = some []
  wv : ∀ x ∈ ws, x < n ∧ a x ≠ none
  pv : p < n ∧ a p ≠ none
  closed : ∀ x, a x ≠ none → x ∉ ws → x ≠ p → ∀ k ∈ F, ((tie ts k).1 = x → a (tie ts k).2 ≠ none) ∧ ((tie ts k).2 = x → a (tie ts k).1 ≠ none)
  here : ∀ k ∈ F.take i, ((tie ts k).1 = p → a (tie ts k).2 ≠ none) ∧ ((tie ts k).2 = p → a (tie ts k).1 ≠ none)
  ok : ∀ x l, a x = some l → (∀ c, odd ts c l = (c o != c x)) ∧ l.length + 1 + nw a n ≤ n
section
variable {n : Nat} {ts : Ties} {F : List Nat} {o p i : Nat} {a : Wy} {ws : List Nat}
theorem Ways.init (h : o < n) : Ways n ts F o (way0 o) [o] := by
  have only : ∀ x, way0 o x ≠ none → x = o := fun x z => by
    by_cases e : x = o
    · exact e
    · exact absurd (putW_ne _ _ e) z
  refine ⟨putW_same _ _ _, fun x hx => ?_, fun x z hx => ?_, fun x l e => ?_⟩
  · rw [List.mem_singleton.mp hx]
    exact ⟨h, by unfold way0; rw [putW_same]; exact fun z => nomatch z⟩
  · exact absurd (List.mem_singleton.mpr (only x z)) hx
  · have ex := only x (by rw [e]; exact fun z => nomatch z)
    subst ex
    unfold way0 at e
    rw [putW_same] at e
    obtain rfl := Option.some.inj e
    refine ⟨fun c => by cases c x <;> rfl, ?_⟩
    have := nw_way0 h
    show 0 + 1 + nw (way0 x) n ≤ n
    omega
theorem Ways.pop (d : Ways n ts F o a (ws ++ [p])) : WaysIn n ts F o p 0 a ws where
  zero := d.zero
  wv := fun x hx => d.wv x (List.mem_append_left _ hx)
  pv := d.wv p (by simp)
  closed := fun x h2 h3 h4 => d.closed x h2 fun z => (List.mem_append.mp z).elim h3 fun z => h4 (List.mem_singleton.mp z)
  here := fun k hk => (by cases hk)
  ok := d.ok
theorem WaysIn.done (d : WaysIn n ts F o p F.length a ws) : Ways n ts F o a ws where
  zero := d.zero
  wv := d.wv
  closed := fun x h2 h3 k hk => by
    by_cases e : x = p
    · subst e
      exact d.here k (by rw [List.take_length]; exact hk)
    · exact d.closed x h2 h3 e k hk
  ok := d.ok
theorem take_mem {t k : Nat} (h : F[i]? = some t) (hk : k ∈ F.take (i + 1)) : k ∈ F.take i ∨ k = t := by
  rw [List.take_add_one, h] at hk
  rcases List.mem_append.mp hk with z | z
  · exact .inl z
  · exact .inr (by simpa using z)
theorem WaysIn.skip {t : Nat} (d : WaysIn n ts F o p i a ws) (ht : F[i]? = some t) (h : ((tie ts t).1 = p → a (tie ts t).2 ≠ none) ∧ ((tie ts t).2 = p → a (tie ts t).1 ≠ none)) : WaysIn n ts F o p (i + 1) a ws where
  zero := d.zero
  wv := d.wv
  pv := d.pv
  closed := d.closed
  here := fun k hk => by
    rcases take_mem ht hk with z | z
    · exact d.here k z
    · subst z
      exact h
  ok := d.ok
theorem WaysIn.add {t g : Nat} {l : List Nat} (d : WaysIn n ts F o p i a ws) (ht : F[i]? = some t) (hg : g < n) (hn : a g = none) (hp : a p = some l)
    (e : ((tie ts t).1 = p ∧ (tie ts t).2 = g) ∨ ((tie ts t).2 = p ∧ (tie ts t).1 = g)) : WaysIn n ts F o p (i + 1) (putW a g (l ++ [t])) (ws ++ [g]) where
  zero := by
    rw [putW_ne]
    · exact d.zero
    · intro z
      rw [← z, d.zero] at hn
      cases hn
  wv := fun x hx => by
    rcases List.mem_append.mp hx with h | h
    · exact ⟨(d.wv x h).1, putW_some _ _ _ (d.wv x h).2⟩
    · rw [List.mem_singleton.mp h]
      exact ⟨hg, by rw [putW_same]; exact fun z => nomatch z⟩
  pv := ⟨d.pv.1, putW_some _ _ _ d.pv.2⟩
  closed := fun x h2 h3 h4 k hk => by
    have hx : x ∉ ws := fun z => h3 (List.mem_append_left _ z)
    have hxg : x ≠ g := fun z => h3 (List.mem_append_right _ (by rw [z]; simp))
    rw [putW_ne _ _ hxg] at h2
    have q := d.closed x h2 hx h4 k hk
    exact ⟨fun z => putW_some _ _ _ (q.1 z), fun z => putW_some _ _ _ (q.2 z)⟩
  here := fun k hk => by
    rcases take_mem ht hk with z | z
    · have q := d.here k z
      exact ⟨fun z => putW_some _ _ _ (q.1 z), fun z => putW_some _ _ _ (q.2 z)⟩
    · subst z
      rcases e with ⟨e1, e2⟩ | ⟨e1, e2⟩
      · refine ⟨fun _ => ?_, fun _ => ?_⟩
        · rw [e2, putW_same]
          exact fun z => nomatch z
        · rw [e1]
          exact putW_some _ _ _ d.pv.2
      · refine ⟨fun _ => ?_, fun _ => ?_⟩
        · rw [e1]
          exact putW_some _ _ _ d.pv.2
        · rw [e2, putW_same]
          exact fun z => nomatch z
  ok := fun x m hx => by
    have hnw := nw_put a (l ++ [t]) hn hg
    by_cases ex : x = g
    · subst ex
      rw [putW_same] at hx
      obtain rfl := Option.some.inj hx
      obtain ⟨o1, o2⟩ := d.ok p l hp
      refine ⟨fun c => ?_, ?_⟩
      · rw [odd_snoc, o1]
        unfold dif
        rcases e with ⟨e1, e2⟩ | ⟨e1, e2⟩
        · rw [e1, e2]
          cases c o <;> cases c p <;> cases c x <;> rfl
        · rw [e1, e2]
          cases c o <;> cases c p <;> cases c x <;> rfl
      · rw [List.length_append]
        have : [t].length = 1 := rfl
        omega
    · rw [putW_ne _ _ ex] at hx
      obtain ⟨o1, o2⟩ := d.ok x m hx
      exact ⟨o1, by omega⟩
/-- nothing waits: what the tree leads to is known -/
theorem Ways.all {q : Nat} (d : Ways n ts F o a []) (h : Con ts F o q) : a q ≠ none := by
  refine h (fun x => a x ≠ none) (by rw [d.zero]; exact fun z => nomatch z) fun k hk => ?_
  exact ⟨fun h => (d.closed _ h (by simp) k hk).1 rfl, fun h => (d.closed _ h (by simp) k hk).2 rfl⟩
end
/-- a tie that is not in the tree, and the way between its ends: a round -/
theorem round_even {ts : Ties} {k : Nat} {l r : List Nat} (h : ∀ c, odd ts c l = (c (tie ts k).1 != c (tie ts k).2)) (hp : r.Perm (k :: l)) (c : Nat → Bool) : odd ts c r = false := by
  rw [odd_perm hp, odd_cons, h c]
  unfold dif
  cases c (tie ts k).1 <;> cases c (tie ts k).2 <;> rfl
/-- a cut has an even number of a round's ties -/
theorem dif_lt {ts : Ties} {c : Nat → Bool} {k : Nat} (h : dif ts c k = true) : k < ts.length := by
  refine Nat.lt_of_not_le fun z => ?_
  have e : tie ts k = (0, 0) := by
    unfold tie
    rw [List.getD_eq_getElem?_getD, List.getElem?_eq_none z]
    rfl
  unfold dif at h
  rw [e] at h
  revert h
  cases c 0 <;> simp
theorem odd_lot {ts : Ties} {c : Nat → Bool} {L r : List Nat} (hL : L = paint ts c) (h : odd ts c r = false) : (r.filter fun k => decide (k ∈ L)).length % 2 = 0 := by
  rw [odd_count] at h
  have e : r.filter (fun k => decide (k ∈ L)) = r.filter (dif ts c) := List.filter_congr fun k hk => by
    rw [hL]
    unfold paint
    rw [Bool.eq_iff_iff, decide_eq_true_iff, mem_selK]
    exact ⟨fun z => z.2, fun z => ⟨dif_lt z, z⟩⟩
  rw [e]
  have z := of_decide_eq_false h
  omega
end Bh

namespace Bh
open PySem PySem.Spec PyProof.Rows L2
/-! enumerate over a tuple -/
theorem new_enumT (a : Addr) (its : Array Value) (n : Nat) (dc : Option Addr) (sl : Array (Option Value)) :
    Meets (Builtin.«enumerate.__new__» ⟨[.type "enumerate", .ref a], []⟩) (fun _ R s => s.heap.get? a = some { cls := .type "tuple", dict := dc, data := .seq its n, slots := sl } ∧
      R (.ok (.ret (.ref (s.heap.push { cls := .type "tuple_iterator", data := .fields #[.ref a, .int 0 0] }).objs.size)))
        { s with heap := (s.heap.push { cls := .type "tuple_iterator", data := .fields #[.ref a, .int 0 0] }).push { cls := .type "enumerate", data := .fields #[.none, .bool false, .ref s.heap.objs.size, rawInt 0, .none, .none] } }) :=
  .of_wp fun prog w A R s h => by
    obtain ⟨hp, g, d, tk, os⟩ := s
    obtain ⟨hl, h⟩ := h
    have hsub := sub_enumerate
    have hT : Heap.IsTuple (Shared.heap ⟨hp, g, d, tk, os⟩) a its := ⟨_, hl, rfl, n, rfl⟩
    wp_walk using AutoSeq1.wpAny_loadPart' hl
    refine wpAny_stack_any fun st => wpAny_pure ?_
    split
    · rename_i c _ _ _ _ _
      cases (c == Value.type "enumerate") <;>
      · wp_walk using AutoSeq1.wpAny_loadPart' hl, wpAny_pyIter_tuple hT
        exact ⟨_, rfl, h⟩
    · wp_walk using AutoSeq1.wpAny_loadPart' hl, wpAny_pyIter_tuple hT
      exact ⟨_, rfl, h⟩

theorem call_enumT {prog : Program} {w : World} {A : Around} {E : Value → Shared → Prop} {s : Shared} {a : Addr} {its : Array Value} {Q : Value → Shared → Prop} (hT : s.heap.IsTuple a its)
    (h : ∀ h', IsEnum h' (s.heap.objs.size + 1) s.heap.objs.size 0 .none → h'.IsTupleIter s.heap.objs.size a 0 → (∀ b o, s.heap.get? b = some o → h'.get? b = some o) →
      Q (.ref (s.heap.objs.size + 1)) { s with heap := h' }) : wpAny (model prog w) A (call (.type "enumerate") [.ref a]) Q E s := by
  obtain ⟨⟨c, dc, dt, sl⟩, hl, hc, n, hd⟩ := hT
  obtain rfl : c = .type "tuple" := hc
  obtain rfl : dt = .seq its n := hd
  have e1 : (s.heap.push { cls := .type "tuple_iterator", data := .fields #[.ref a, .int 0 0] }).objs.size = s.heap.objs.size + 1 := Heap.size_push ..
  have e2 : IsEnum ((s.heap.push { cls := .type "tuple_iterator", data := .fields #[.ref a, .int 0 0] }).push { cls := .type "enumerate", data := .fields #[.none, .bool false, .ref s.heap.objs.size, rawInt 0, .none, .none] })
      (s.heap.objs.size + 1) s.heap.objs.size 0 .none := by
    have z := Heap.get?_push_size (s.heap.push { cls := .type "tuple_iterator", data := .fields #[.ref a, .int 0 0] })
      (o := { cls := .type "enumerate", data := .fields #[.none, .bool false, .ref s.heap.objs.size, rawInt 0, .none, .none] }) rfl
    rw [e1] at z
    exact z
  refine callType_new F.called_enumerate (by decide) (F.typeCall_enumerate_1 _) (F.newCall_enumerate_1 _) (fun obj => F.args_object_init_2 obj _) F.entry_enumerate_new (new_enumT a its n dc sl) ⟨hl, ?_⟩
  show _ ∧ _
  rw [e1]
  exact ⟨⟨_, e2, rfl⟩, h _ e2 ⟨_, Heap.get?_push_of_some _ (Heap.get?_push_size _ rfl), rfl, rfl⟩ fun b o x => Heap.get?_push_of_some _ (Heap.get?_push_of_some _ x)⟩
/-- the tuple at a, each item in a new pair with its number -/
def IteT (K : PySem.W.Frag) (a : Addr) : It :=
  ⟨fun i H => ∃ (xs : List V) (x : V), SqT K H a xs ∧ xs[i]? = some x,
    fun i H v H' => ∃ T x, v = .ref T ∧ H T = none ∧ H' = upd H T (.tup [.int (i : Nat), x]) ∧ ∀ xs, SqT K H a xs → xs[i]? = some x,
    fun i H => ∃ xs : List V, SqT K H a xs ∧ xs.length ≤ i⟩
theorem turn_enumT {P : Program} {w : World} {K : PySem.W.Frag} {elts : List Expr} {kk : Nat} {tpos : Pos} (a e it : Addr) (hai : a ≠ it) (hae : a ≠ e) :
    Turn P w K (.Tuple elts kk tpos) (IteT K a) [e, it] e (fun i h => (∃ old, IsEnum h e it ((i : Nat) : Int) old) ∧ h.IsTupleIter it a i ∧ e ≠ it) where
  mem := by simp
  obj := by
    rintro i h ⟨⟨old, he⟩, ⟨o, ho, hc, hd⟩, _⟩ b hb
    rcases (by simpa using hb : b = e ∨ b = it) with rfl | rfl
    · exact ⟨_, he, fun v q => nomatch q⟩
    · exact ⟨o, ho, fun v q => by rw [hd] at q; cases q⟩
  keep := fun i h h' ⟨⟨old, he⟩, hi, hne⟩ k => ⟨⟨old, k e (by simp) _ he⟩, hi.at fun o q => k it (by simp) o q, hne⟩
  item := by
    intro X hP hw hK hc i pins s σ H E I hf st hg
    subst hP hw hK
    obtain ⟨⟨old, he⟩, hit, hne⟩ := st
    obtain ⟨xs, x, hq, hx⟩ := hg
    obtain ⟨its, rv, p, hz⟩ := I.tuple hq
    obtain ⟨u, hu, ru⟩ := rv.get hx
    have hel : e < s.heap.objs.size := Heap.lt_size he
    have hil : it < s.heap.objs.size := let ⟨_, q, _⟩ := hit; Heap.lt_size q
    have hlt : i < its.toArray.size := by
      have := (List.getElem?_eq_some_iff.mp hu).1
      simpa using this
    refine wpAny_pyNext_enum_itemD (Draws.tuple (show X.A.in1.handled = none from I.ok.hd hc) it a hai its.toArray) he ⟨hit, p⟩ hlt hne (by simp [hne, Ne.symm hae]) fun y h' tk hP ho hst hT hsz hk => ?_
    obtain rfl : y = u := by
      have z : its.toArray[i]? = some y := hP
      rw [List.getElem?_toArray, hu] at z
      exact (Option.some.inj z).symm
    refine ⟨_, rfl, wpAny_letOwnedTupleGo_enum (s := { s with heap := h', toks := tk + 1 }) ho fun h2 he2 sb => ?_⟩
    have hT2 : h2.get? s.heap.objs.size = some { cls := .type "tuple", data := .seq #[.int i tk, y] } := (sb.2 _ (Nat.ne_of_gt hel)).trans hT
    have new : ObjOk X.prog X.w (upd H s.heap.objs.size (.tup [.int (i : Nat), x])) h2 s.heap.objs.size (.tup [.int (i : Nat), x]) :=
      ⟨by show 2 ≤ sizeLine; decide, [.int i tk, y], .cons ⟨_, rfl⟩ (.cons ru .nil), ⟨_, hT2, rfl, _, rfl⟩⟩
    have I1 : Inv X pins σ (upd H s.heap.objs.size (.tup [.int (i : Nat), x])) { s with heap := h2, toks := tk + 1 } :=
      I.turnedNew (ch := [e, it]) (fun b ob hb q => by
        have n1 : b ≠ e := fun z => hb (by simp [z])
        have n2 : b ≠ it := fun z => hb (by simp [z])
        exact (sb.2 b n1).trans (hk b ob n1 n2 q)) hf (Nat.le_refl _) new
    refine ⟨.ref s.heap.objs.size, _, I1, rfl, ⟨_, x, rfl, I.hok.fresh (Nat.le_refl _), rfl, fun ys hy => ?_⟩, ⟨⟨y, ?_⟩, hst.1.at fun o q => (sb.2 it (Ne.symm hne)).trans q, hne⟩, fun b hb => ?_⟩
    · rw [I.tuple_inj hy hq]
      exact hx
    · have z : ((i + 1 : Nat) : Int) = (i : Int) + 1 := by omega
      rw [z]
      exact he2
    · have hb2 : b < s.heap.objs.size := by
        rcases (by simpa using hb : b = e ∨ b = it) with rfl | rfl
        · exact hel
        · exact hil
      rw [upd_ne (Nat.ne_of_lt hb2)]
      exact (hf b hb).1
  done := by
    intro X hP hw hK hc i pins s σ H E I hf st hg
    subst hP hw hK
    obtain ⟨⟨old, he⟩, hit, hne⟩ := st
    obtain ⟨xs, hq, hx⟩ := hg
    obtain ⟨its, rv, p, hz⟩ := I.tuple hq
    obtain ⟨f0, f1, f2, f3, f4, f5⟩ := hf it (by simp)
    have hl := rv.length
    have hsmall : its.toArray.size ≤ i := by simp; omega
    unfold pyNext
    refine wpAny_bind (wpAny_attempt (wpAny_callSpecial?_slot (name := Str.ofString "__next__") (show s.TypeIs (.ref e) "enumerate" from ⟨_, he, rfl⟩) F.slot_enumerate_next
      (wpAny_call_entry F.slot_enumerate_next (show s.TypeIs (.ref e) "enumerate" from ⟨_, he, rfl⟩) F.entry_enumerate_next ?_ (F.args_enumerate_next_1 _))))
    show wpAny _ _ (field (.ref e) 2 >>= _) _ _ _
    refine wpAny_bind (wpAny_field he rfl (x := .ref it) rfl (wpAny_bind (wpAny_nextOf_tuple_end (show X.A.in1.handled = none from I.ok.hd hc) hit p (by simp; omega) fun h' x he' hx' => ?_)))
    obtain ⟨o, ho, hcl⟩ := hx'
    refine wpAny_bind (wpAny_isInstance (T := "StopIteration") (b := true) ⟨o, ho, hcl⟩ isSubtype_stop (wpAny_pure ?_))
    exact ⟨rfl, I.turned (t' := s.toks) (fun b o hb q => he' b o hb q) f0 f1 f3 f4 f5⟩
  self := fun A i s Q E ⟨⟨_, he⟩, _⟩ h => wpAny_pyIter_enum he h
def iEnumT (K : PySem.W.Frag) (ta : TA) : TI := fun σ H R => ta σ H fun vs H1 => ∃ a xs, vs = [.ref a] ∧ SqT K H1 a xs ∧ R (IteT K a) H1
theorem pi_enumT {X : Cx} {e : Expr} {ta : TA} {p pos tpos : Pos} {elts : List Expr} {kk : Nat} (hg : Gl X "enumerate") (hm : X.mg "enumerate" = none) (ha : PA X [e] ta) (hs : starEach [e] X.env = [(false, eval e X.env)] := by rfl) :
    PI X (.Tuple elts kk tpos) (.Call (.Name "enumerate" p) [e] [] pos) (iEnumT X.K ta) := by
  refine ⟨fun pins s σ H R I h => ?_⟩
  refine Call_ (ld_blt I hg hm boot_enumerate (PyProof.Rows.callWith_type1 (thn (ha.run pos pins s σ H _ I h) fun us s1 ⟨vs, H1, I1, r1, q1⟩ => ?_) hs rfl))
  obtain ⟨a, xs, rfl, hq, q⟩ := q1
  cases r1 with
  | cons r rr =>
    cases rr
    cases r
    obtain ⟨its, rv, pt, hz⟩ := I1.tuple hq
    have hal : a < s1.heap.objs.size := pt.lt
    refine call_enumT (show s1.heap.IsTuple a its.toArray from pt) fun h' he hit hk => wpAny_pyIter_enum he ?_
    refine ⟨s1.heap.objs.size + 1, [s1.heap.objs.size + 1, s1.heap.objs.size], _, _, H1, rfl, I1.kept (t' := s1.toks) hk, turn_enumT a (s1.heap.objs.size + 1) s1.heap.objs.size (Nat.ne_of_lt hal) (Nat.ne_of_lt (Nat.lt_succ_of_lt hal)), ⟨⟨.none, he⟩, hit, Nat.succ_ne_self _⟩, fun b hb => ?_, q⟩
    have hle : s1.heap.objs.size ≤ b := by
      rcases (by simpa using hb : b = s1.heap.objs.size + 1 ∨ b = s1.heap.objs.size) with rfl | rfl
      · exact Nat.le_succ _
      · exact Nat.le_refl _
    exact I1.fpOk hle (I1.hok.fresh hle)
theorem walk_enumT {K : PySem.W.Frag} {a : Addr} {xs : List V} : Walk (IteT K a) xs.length (fun H => SqT K H a xs) (YPair (fun i => some (.int (i : Nat))) (fun i => xs[i]?)) :=
  ⟨fun i _ hi q => ⟨xs, xs[i], q, by simp [hi]⟩, fun _ q => ⟨xs, q, Nat.le_refl _⟩, fun i H v H' _ q ⟨T, x, h1, h2, h3, h4⟩ => ⟨T, .int (i : Nat), x, h1, h2, h3, rfl, h4 xs q⟩⟩
end Bh

namespace Bh
open PySem PySem.Spec PyProof.Rows L2
/-! set(xs) of a list of ints, with its order known -/
abbrev set0 (w : World) : Obj := { cls := .type "set", dict := none, data := .set #[] 0 (.fresh 0 0 (!w.params.followText "set-order")) }
section
variable {P : Program} {w : World} {A : Around} {E : Value → Shared → Prop} {s : Shared}
theorem call_setL {l : Addr} {its : Array Value} (ns : List Int) {Q : Value → Shared → Prop} (hh : A.handled = none) (hl : s.heap.IsList l its) (hit : IntsAre its.toList ns) (hb : ns.length + 1 < scanBound)
    (h : ∀ (h' : Heap) (tk c : Nat), SetR w h' s.heap.objs.size (fun j => decide (j ∈ ns)) c → c ≤ ns.length → (∀ b o, s.heap.get? b = some o → h'.get? b = some o) → Q (.ref s.heap.objs.size) { s with heap := h', toks := tk }) :
    wpAny (model P w) A (call (.type "set") [.ref l]) Q E s := by
  have hn : its.size = ns.length := by
    have z := IntsAre.length hit
    rwa [Array.length_toList] at z
  obtain ⟨c, tl, hmro⟩ := F.called_set.mro
  have m1 := F.called_set.made
  have m2 := F.called_set.sub
  have m3 := F.called_set.notType
  have m4 := F.called_set.canCreate
  have m5 := F.typeCall_set_1 (.ref l)
  refine wpAny_call (codeAny_of_tree (show wpAny _ _ (callAny (.type "set") _) _ _ _ from wpAny_pure ⟨Code.quiet_builtin _ (by decide +kernel), codeAny_builtin F.entry_type_call ?_⟩))
  rw [Around.under_plain (weight_type_call_type "set" [.ref l] []) rfl]
  repeat (any_goals (first | assumption | wp_step))
  refine codeAny_mono (code_set_led1 (.ref l) (E := E) (Q₁ := fun o s1 => o = .ref s.heap.objs.size ∧ s1 = { s with heap := s.heap.push (set0 w) }) ⟨rfl, rfl⟩) fun r s1 hr => ?_
  match r, hr with
  | .error e, hr => exact hr
  | .ok .next, hr => exact hr.elim
  | .ok .brk, hr => exact hr.elim
  | .ok .cont, hr => exact hr.elim
  | .ok (.ret o), hr =>
    obtain ⟨rfl, rfl⟩ := hr
    have gS : (s.heap.push (set0 w)).get? s.heap.objs.size = some (set0 w) := Heap.get?_push_size _ rfl
    have tS : Shared.TypeIs { s with heap := s.heap.push (set0 w) } (.ref s.heap.objs.size) "set" := ⟨_, gS, rfl⟩
    have i1 := F.called_set.init.lookup
    have i2 := F.called_set.init.bind (.ref s.heap.objs.size)
    repeat (any_goals (first | assumption | wp_step))
    refine codeAny_mono (codeAny_call_builtin (R := wants (fun r s2 => r = .none ∧ ∃ h' tk c, s2 = { s with heap := h', toks := tk } ∧ SetR w h' s.heap.objs.size (fun j => decide (j ∈ ns)) c ∧ c ≤ ns.length ∧ ∀ b o, s.heap.get? b = some o → h'.get? b = some o) E)
      F.called_set.init.plain F.entry_set_init (check_set_init_1 tS ?_)) fun r2 s2 hr2 => ?_
    · obtain ⟨⟨oc, od, odt, osl⟩, ho, ec, nl, ed⟩ := hl
      obtain rfl : oc = .type "list" := ec
      obtain rfl : odt = .seq its nl := ed
      have gl : (s.heap.push (set0 w)).get? l = some { cls := .type "list", dict := od, data := .seq its nl, slots := osl } := Heap.get?_push_of_some _ ho
      have z1 := F.sub_list_set
      have z2 := F.sub_list_frozenset
      have z3 : (Value.type "list" == Value.type "dict") = false := by decide
      have hl1 : (s.heap.push (set0 w)).IsList l its := ⟨_, gl, rfl, nl, rfl⟩
      have lt : l < s.heap.objs.size := Heap.lt_size ho
      have zs : (s.heap.push (set0 w)).objs.size = s.heap.objs.size + 1 := Heap.size_push ..
      unfold Builtin.«set.__init__» noKeywords Builtin.Frozenset.updateFrom
      generalize hP : pyIter = PI
      wp_walk
      subst hP
      refine wpAny_pyIter_list hl1 (wpAny_bind (wpAny_runValue ?_))
      have hh3 : A.in1.in1.in1.handled = none := by simp [hh]
      have n1 : l ≠ (s.heap.push (set0 w)).objs.size := by
        rw [zs]
        exact Nat.ne_of_lt (Nat.lt_succ_of_lt lt)
      have n2 : s.heap.objs.size ∉ [(s.heap.push (set0 w)).objs.size, l] := by
        rw [zs]
        intro z
        rcases List.mem_cons.mp z with z | z
        · exact absurd z (Nat.ne_of_lt (Nat.lt_succ_self _))
        · exact absurd (List.mem_singleton.mp z) (Nat.ne_of_gt lt)
      have val : ∀ (i : Nat) (v : Value), its[i]? = some v → ∃ k t, ns[i]? = some k ∧ v = .int k t := fun i v hv => by
        have hi : i < ns.length := by
          rw [← hn]
          exact (Array.getElem?_eq_some_iff.mp hv).1
        obtain ⟨t, e⟩ := PyProof.Rows.IntsAre.int_at hit i v (by rw [Array.getElem?_toList]; exact hv)
        refine ⟨ns[i], t, List.getElem?_eq_getElem hi, ?_⟩
        rw [e, List.getD_eq_getElem?_getD, List.getElem?_eq_getElem hi]
        rfl
      refine set_update_ints ((Walks.list hh3 _ l n1 its).toS) s.heap.objs.size n2 ns hn hb val (its.size - 0) 0 _ (by omega) (Nat.zero_le _) ⟨⟨_, Heap.get?_push_size _ rfl, rfl, rfl⟩, hl1.push _⟩
        ⟨0, Nat.le_refl 0, setR_new_at (Heap.get?_push_of_some _ gS)⟩ ?hR
      rintro ⟨h2, g2, d2, t2, o2⟩ c2 hm hc2 hS2
      obtain rfl : g2 = s.gens := hm.gens
      obtain rfl : d2 = s.drawn := hm.drawn
      obtain rfl : o2 = s.os := hm.os
      show wpAny _ _ _ _ _ _
      refine wpAny_pure ?_
      show wpAny _ _ (ret Value.none) _ _ _
      rw [hn] at hc2
      refine wpAny_pure ⟨rfl, h2, t2, c2, rfl, hS2, hc2, fun b o e => hm.heap b o ?_ (Heap.get?_push_of_some _ (Heap.get?_push_of_some _ e))⟩
      have hb0 : b < s.heap.objs.size := Heap.lt_size e
      rw [zs]
      intro z
      rcases List.mem_cons.mp z with z | z
      · exact absurd z (Nat.ne_of_lt hb0)
      · exact absurd (List.mem_singleton.mp z) (Nat.ne_of_lt (Nat.lt_succ_of_lt hb0))
    · match r2, hr2 with
      | .error e, hr2 => exact hr2
      | .ok .next, hr2 => exact hr2.elim
      | .ok .brk, hr2 => exact hr2.elim
      | .ok .cont, hr2 => exact hr2.elim
      | .ok (.ret r), hr2 =>
        obtain ⟨rfl, h2, t2, c2, rfl, a1, a2, a3⟩ := hr2
        repeat (any_goals (first | assumption | wp_step))
        exact h _ _ _ a1 a2 a3
end
def rSetL (K : PySem.W.Frag) (w : World) : List V → Hp → VK → Prop := fun vs H Q => ∃ (a : Addr) (ns : List Int), vs = [V.ref a] ∧ SqL K H a (ns.map V.int) ∧ ns.length ≤ 4000 ∧
  ∀ p c, H p = none → c ≤ ns.length → Q (.ref p) (upd H p (SetO w p (fun j => decide (j ∈ ns)) c))
theorem intsOf : ∀ {ns : List Int} {us : List Value}, Vals (ns.map V.int) us → IntsAre us ns
  | [], _, .nil => .nil
  | n :: ns, _, .cons ⟨t, e⟩ r => by
    subst e
    exact .cons _ _ (intsOf r)
section
variable {X : Cx}
theorem cr_setL (hc : X.calm = true) : CallR X (.type "set") (rSetL X.K X.w) := by
  intro pins s σ H xs us Q I r h
  obtain ⟨a, ns, rfl, hq, hl, q⟩ := h
  obtain ⟨u, rfl, ru⟩ := vals1 r
  cases ru
  obtain ⟨its, rv, pl, hz⟩ := I.list hq
  refine call_setL ns (I.ok.hd hc) pl.isList (by simpa using intsOf rv) (by unfold scanBound; omega) fun h' tk c hS hc' hk => ?_
  exact ⟨.ref _, upd H s.heap.objs.size (SetO X.w s.heap.objs.size (fun j => decide (j ∈ ns)) c), I.laid (t' := tk) hk (Nat.le_refl _) (setO_new hS), rfl, q _ _ (I.hok.fresh (Nat.le_refl _)) hc'⟩
/-! repr of a list or a tuple of plain data, where no repr is under way -/
def rRepr (K : PySem.W.Frag) : List V → Hp → VK → Prop := fun vs H Q => ∃ (a : Addr) (d : PyData), vs = [V.ref a] ∧ Dp K H (.ref a) d ∧ d.showable = true ∧ d.hasDict = false ∧ d.depth ≤ 60 ∧ d.shown.length ≤ sizeLine ∧ Q (.str d.shown) H
theorem cr_repr (hg : X.A.guards = some []) (hu : X.A.units + 64 < cLine) : CallR X (.builtin "repr") (rRepr X.K) := by
  intro pins s σ H xs us Q I r h
  obtain ⟨a, d, rfl, hd, h1, h2, h3, h4, q⟩ := h
  obtain ⟨u, rfl, ru⟩ := vals1 r
  cases ru
  obtain ⟨as, rd⟩ := Dp.reads I d _ _ hd rfl
  exact repr_of_reads' rd h1 (PyData.noDict_hsm h2) hg (by omega) (fun _ _ e => e) (fun h' u tk hk => ⟨.str d.shown, H, I.kept (t' := tk) hk, ⟨u, rfl⟩, q⟩) h4
end
end Bh

namespace Bh
open PySem PySem.Spec PyProof.Rows L2
/-! ### the text, by its places -/
def topS (i : Nat) : Stmt := PySem.Challenge.pw_botheven_k40_whole_colours_and_lots.main.body.getD i (.Pass ⟨0, 0, 0, 0⟩)
abbrev sInit : Stmt := inClass (topS 2) 0
/-! ### Unfit() -/
structure UnfTxt (K : PySem.W.Frag) (mg : Str → Option Value) (B C fI : Addr) : Prop where
  gB : mg "BothError" = some (.ref B)
  gC : mg "Unfit" = some (.ref C)
  cls : ∃ nm q N bs bm sn sub ab col dd k0 k1 k2 k3 k5, K.lookup C = some (excClassObj nm q C N bs bm true sn sub ab col dd k0 k1 k2 k3 k5 "ValueError.__new__") ∧ PySem.HandSPX.refsVE bm = true
  iC : PySem.W.findIn K (.ref C) "__init__" = some (some (.ref fI))
  tI : PySem.W.typeIn K (.ref fI) = some (.type "function")
  kC : PySem.W.keepIn K (.ref C) = true
  exC : PySem.W.subIn K (.ref C) (.type "BaseException") = some true
  tyC : PySem.W.typeIn K (.ref C) = some (.type "type")
  gaB : PySem.W.specialIn K (.ref B) "__getattribute__" = some (some (.builtin "type.__getattribute__"))
  rdB : PySem.W.readsIn K B (.type "type") = true
  fcB : PySem.W.findCls K (.ref B) (.type "type") "__init__" = some (.val (.builtin "ValueError.__init__"))
  te : PySem.W.exmOne K (.ref C) (.ref C) = some true
  fn : ∃ (oc : Value) (od : Option Addr) (kV doc pm : Value) (an : Option Addr) (cdv ct : Value) (osl : Array (Option Value)),
    K.lookup fI = some ⟨oc, od, .func (PySem.W.fnOf "__init__" "Unfit.__init__" (defArgs sInit) (defBody sInit) (defScope sInit) .none kV doc pm an cdv ct), osl⟩ ∧ PySem.W.codeIn K cdv "Unfit.__init__" = true
section
open PySem.W PySem.Calls PySem.HandSPX
variable {prog : Program} {w : World} {A : Around} {E : Value → Shared → Prop} {R : Result → Shared → Prop} {s : Shared} {K : Frag} {mg : Str → Option Value} {B C fI : Addr}
theorem loc1 {M : Model} {name : Str} {scope : Scope} {L a : Addr} {cd : Value} {m : Str → Option Value} {x : Str} {pos : Pos} {v : Value} {Q : Value → Shared → Prop} (hn : s.heap.Ns L m) (hv : m x = some v) (h : Q v s)
    (hk : scope.kind = .function := by rfl) (hl : (envOfC name scope L a cd).kindOf x = some .local := by rfl) (hd : (x == ("__debug__" : Str)) = false := by decide) :
    wpAny M A (eval (.Name x pos) (envOfC name scope L a cd)) Q E s := wpAny_Name (wpAny_loadName_local hk hl hn hv h) hd
/-- __init__ of a fresh exception at x -/
theorem u_init (T : UnfTxt K mg B C fI) {x t0 : Addr} (X : K.In s.heap) (G : s.heap.Ns mainGlobals mg) (hlim : s.heap.NoLimit) (hx : s.heap.get? x = some (excO C t0)) (hroom : A.depth < recursionLimit)
    (hq : ∀ h' tk t1, (∀ b o, b ≠ x → s.heap.get? b = some o → h'.get? b = some o) → h'.get? x = some (excO C t1) → R (.ok (.ret .none)) { s with heap := h', toks := tk }) :
    codeAny (model prog w) A (.call (.ref fI) ⟨[.ref x], []⟩) R s := by
  obtain ⟨oc, od, kV, doc, pm, an, cdv, ct, osl, ho, hcd⟩ := T.fn
  obtain ⟨nm, q, N, bs, bm, sn, sub, ab, col, dd, k0, k1, k2, k3, k5, hC, hbm⟩ := T.cls
  refine Att.call_fn (binds := [("self", .ref x)]) X hlim ho hcd hroom (BindsTo.of_eq (by first | rfl | with_unfolding_all rfl)) (by first | rfl | decide | with_unfolding_all rfl) (fun s₁ IC => ?_) rfl rfl rfl
  have hn := IC.toInCall.ns
  have k : ∀ b o, s.heap.get? b = some o → s₁.heap.get? b = some o := IC.toInCall.keep
  obtain ⟨h₁, tk₁, rfl⟩ := IC.toInCall.same
  show wpAny _ _ (execs _ _) _ _ _
  refine wpAny_execs_cons (wpAny_Expr_any (methodCall_KW ?_))
  refine Calls.Name_function_global rfl (by rfl) (Calls.loadGlobal_global (G.keeps k) T.gB ?_)
  refine method_cls (X.keeps k) T.gaB (cls_value (X.keeps k) T.rdB T.fcB rfl ?_)
  show wpAny _ _ (callWith _ (Value.builtin "ValueError.__init__") [] (backTo _ (starEach (_ :: _) _)) []) _ _ _
  refine PyProof.Rows.callWith_method1 ?_
  show wpAny _ _ (spliced ((false, eval _ _) :: (false, eval _ _) :: [])) _ _ _
  refine Calls.spliced_cons (loc1 hn (by first | rfl | with_unfolding_all rfl | kernel_rfl) (Calls.spliced_cons (Calls.Constant_str (Calls.spliced_nil ?_))))
  refine wpAny_call (init_base F.excBase_ValueError (fun Y => refsVE_contains Y bm hbm) (X.keeps k _ _ hC) (k _ _ hx) (by show 1 ≤ sizeLine; decide) fun h' t1 kk hx' => ?_)
  show wpAny _ _ (execs _ _) _ _ _
  exact wpAny_execs_nil (hq h' _ t1 (fun b o hb e => kk b o hb (k b o e)) hx')
/-- a made Unfit -/
theorem u_made (T : UnfTxt K mg B C fI) (X : K.In s.heap) (G : s.heap.Ns mainGlobals mg) (hlim : s.heap.NoLimit) (hroom : A.depth + 1 < recursionLimit)
    (hq : ∀ h' tk e t1, (∀ b o, s.heap.get? b = some o → h'.get? b = some o) → s.heap.objs.size ≤ e → h'.get? e = some (excO C t1) → R (.ok (.ret (.ref e))) { s with heap := h', toks := tk }) :
    codeAny (model prog w) A (.call (.ref C) ⟨[], []⟩) R s := by
  obtain ⟨nm, q, N, bs, bm, sn, sub, ab, col, dd, k0, k1, k2, k3, k5, hC, hbm⟩ := T.cls
  obtain ⟨hp, g, dr, tk, os⟩ := s
  have k : ∀ b o, hp.get? b = some o → ((hp.push (kdv_tup [])).push (excO C hp.objs.size)).get? b = some o := fun b o e => Heap.get?_push_of_some _ (Heap.get?_push_of_some _ e)
  have hget : ((hp.push (kdv_tup [])).push (excO C hp.objs.size)).get? (hp.objs.size + 1) = some (excO C hp.objs.size) := by heap_get
  refine call_own F.excBase_ValueError (fun X => refsVE_contains X bm hbm) (X _ _ hC) (looks_findIn X T.iC) (fun self => bind_fn X self T.tI) (Nat.zero_le _) ?_
  refine u_init (s := ⟨(hp.push (kdv_tup [])).push (excO C hp.objs.size), g, dr, tk, os⟩) T (X.keeps k) (G.keeps k) (hlim.keeps k) hget ?_ fun h' tk' t1 kk hx => ?_
  · show A.depth + 1 < recursionLimit
    exact hroom
  · exact ⟨rfl, hq h' tk' (hp.objs.size + 1) t1 (fun b o e => kk b o (Nat.ne_of_lt (Nat.lt_succ_of_lt (Heap.lt_size e))) (k b o e)) (Nat.le_succ _) hx⟩
end
section
variable {X : Cx} {B C fI : Addr}
theorem pmk_unfit {p pos : Pos} {k : Nat} (T : UnfTxt X.K X.mg B C fI) (hr : Room k X.A) (hg : Gl X "Unfit" := by rfl) : PMk X (.Call (.Name "Unfit" p) [] [] pos) (fun _ H Q => Q (.ref C) none H) := by
  intro pins s σ H Q I h
  refine wpAny_Call_Name_kw (ld_glob I hg T.gC ?_)
  refine PySem.W.callWith_K0 I.kIn T.kC ?_
  have hlim := I.nolimit
  have G := I.mod.glob.keeps I.bk
  obtain ⟨hp, g, dr, tk, os⟩ := s
  refine wpAny_call (u_made T I.kIn G hlim (by have := hr.dp; omega) fun h' tk' e t1 kk hsz he => ?_)
  show MkP X pins σ Q (.ref e) ⟨h', g, dr, tk', os⟩
  exact ⟨e, _, _, ⟨hp, g, dr, tk', os⟩, H, .ref C, none, rfl, I.tok _, kk, Heap.get?_none_of_le hsz, he, ⟨rfl, rfl⟩, rfl, rfl, I.hok.fresh hsz, rfl, I.bare, raises_own T.exC T.tyC, h⟩
/-- raise Unfit() -/
theorem ps_unfit {p pos pos2 : Pos} {k : Nat} {W : WX} (hc : X.calm = true) (T : UnfTxt X.K X.mg B C fI) (hr : Room k X.A) (tk : Takes X W) (hg : Gl X "Unfit" := by rfl) :
    PS X (.Raise (some (.Call (.Name "Unfit" p) [] [] pos)) none pos2) (fun _ σ H => W (.ref C) none σ H) := ps_raise hc tk (pmk_unfit T hr hg)
end
end Bh

namespace Bh
open PySem PySem.Spec PyProof.Rows L2
/-! a def called where no repr is under way -/
structure FnOkG (P : Program) (w : World) (K : PySem.W.Frag) (mg : Str → Option Value) (base : Heap) (CX : CXT) (k : Nat) (f : Addr) (fd : FuncData) (ps : List Str) (sp : Sp) : Prop where
  len : ∀ vs H Q E, sp vs H Q E → vs.length = ps.length
  run : ∀ (A : Around) (outer : List Env) (s : Shared) (H : Hp) (args : Args) (us : List Value) (vs : List V) (Q : VK) (E : XK), A.guards = some [] → Room k A → Env0 P w K mg base A outer s H →
    BindsTo s fd args (ps.zip us) → Vals vs us → sp vs H Q E → codeAny (model P w) A (.call (.ref f) args) (CR CX outer P w H s Q E) s
section
variable {P : Program} {w : World} {K : PySem.W.Frag} {mg : Str → Option Value} {base : Heap} {CX : CXT}
theorem okG {x qual : Str} {st : Stmt} {f : Addr} {fd : FuncData} {N ps : List Str} {k : Nat} {sp : Sp} (F : Fun K x qual st f fd) (S : FnScope N ps (defScope st)) (len : ∀ vs H Q E, sp vs H Q E → vs.length = ps.length)
    (hb : ∀ (cdv : Value) (A : Around) (outer : List Env) (s : Shared) (H : Hp) (vs : List V) (Q : VK) (E : XK), A.guards = some [] → Room k (A.deeper (envOfC qual (defScope st) s.heap.objs.size f cdv)) → sp vs H Q E →
      ∃ t, PSs (cxOf CX P w K mg base N qual (defScope st) f cdv A outer s H E) (defBody st) t ∧ t { nx := fun _ H' => Q .non H', rt := Q } (start N vs) H) : FnOkG P w K mg base CX (k + 1) f fd ps sp := by
  obtain ⟨oc, od, kV, doc, pm, an, cdv, ct, osl, rfl, lk, hcd⟩ := F.ex
  refine ⟨len, fun A outer s H args us vs Q E hgd hr e0 hbd r hsp => ?_⟩
  have KX : K.In s.heap := e0.mod.kin.keeps fun b o e => (e0.bs b o e).1
  have cells : ∀ y ∈ ps.zip us, (defScope st).names.lookup y.1 = some .local ∨ ((defScope st).names.lookup y.1 = some .cell ∧ ((cellsFrom (s.heap.objs.size + 1) (defScope st).names []).lookup y.1).isSome = true) := by
    rintro ⟨n, v⟩ hy
    exact (S.par n (List.of_mem_zip hy).1).imp id fun q => ⟨q, PySem.W.cellsFrom_some _ _ _ (.inl q)⟩
  refine codeAny_call_function hr.depth (KX _ _ lk) rfl S.co S.gen rfl (PySem.W.codeRec_of KX hcd) (hbd _ _ _ _ (wpAny_newFunctionEnv_cells S.kind cells fun env he s1 x => ?_))
  subst he
  refine ⟨(e0.mod.nolimit.keeps fun b o e => (e0.bs b o e).1).keeps x.toInCall.keep, codeAny_func ?_⟩
  obtain ⟨t, ht, hq⟩ := hb cdv A outer s H vs Q E hgd (hr.deeper _) hsp
  have I := inv_start (CX := CX) (E := E) S hr.hd e0 (len _ _ _ _ hsp) r x
  refine wpAny_mono (ht.run [] s1 (start N vs) H _ I hq) (fun fl s2 hs => ?_) fun e s2 hs => hs
  match fl, hs with
  | .ret u, ⟨v, σ2, H2, J, rv, q⟩ => exact ⟨v, H2, J.os, J.bare, J.base, J.hok, rv, q⟩
  | .next, ⟨σ2, H2, J, q⟩ => exact ⟨.non, H2, J.os, J.bare, J.base, J.hok, rfl, q⟩
  | .brk, ⟨_, _, _, q⟩ => exact q.elim
  | .cont, ⟨_, _, _, q⟩ => exact q.elim
theorem pe_callG {X : Cx} {k : Nat} {f : Addr} {fd : FuncData} {ps : List Str} {sp : Sp} {E : XK} {x : Str} {p pos : Pos} {e : Expr} {es : List Expr} {t : TA} (F : FnOkG X.prog X.w X.K X.mg X.base CX k f fd ps sp) (hgd : X.A.guards = some []) (hr : Room k X.A) (hg : Gl X x)
    (hm : X.mg x = some (.ref f)) (hk : PySem.W.keepIn X.K (.ref f) = true) (hb : Binds X.K fd ps []) (hx : Passes CX X E) (ha : PA X (e :: es) t) (hdb : (x == ("__debug__" : Str)) = false := by decide)
    (he : starEach (e :: es) X.env = (false, eval e X.env) :: starEach es X.env := by rfl) (hpl : (backTo pos (starEach es X.env)).any (·.1) = false := by rfl) : PE X (.Call (.Name x p) (e :: es) [] pos) (tCall sp [] E t) := by
  refine ⟨fun pins s σ H Q I h => wpAny_Call_Name_kw (ld_glob I hg hm ?_ hdb)⟩
  refine PySem.W.callWith_K (h₀ := X.base) I.ok.mod.kin hk (thn (ha.run pos pins s σ H _ I h) fun us s1 ⟨vs, H1, I1, r, q⟩ => ⟨I1.kIn, ?_⟩) he hpl
  have z : sp (vs ++ []) H1 Q E := q
  rw [List.append_nil] at z
  replace q := z
  have hl : (us ++ []).length = ps.length := by
    rw [List.append_nil, ← r.length]
    exact F.len _ _ _ _ q
  have bd := hb s1 us I1.kIn hl
  rw [List.append_nil] at bd
  refine wpAny_call (codeAny_mono (F.run X.A X.stack s1 H1 ⟨us, []⟩ us vs Q E hgd hr I1.env0 bd r q) fun rs s2 h2 => ?_)
  match rs, h2 with
  | .error er, h2 => exact hx pins σ H1 s1 er s2 I1 h2
  | .ok (.ret u), h2 => exact I1.after h2
  | .ok .next, h2 => exact h2.elim
  | .ok .brk, h2 => exact h2.elim
  | .ok .cont, h2 => exact h2.elim
end
/-- the law's own call -/
theorem lawG_call {P : Program} {w : World} {K : PySem.W.Frag} {mg mb : Str → Option Value} {CX : CXT} {k : Nat} {fa a : Addr} {fd : FuncData} {x : Str} {sp : Sp} {s : Shared} {vs : List Value} {ns : List Int}
    (KX : K.In s.heap) (hns : s.heap.Ns mainGlobals mg) (hb : s.heap.Ns builtinsNs mb) (hbb : ∀ x : Str, x ≠ "__name__" → mb x = bootBuiltins x) (hlim : s.heap.NoLimit) (hg : s.gens = #[])
    (ha : s.heap.get? a = some { cls := .type "list", data := .seq vs.toArray }) (hi : IntsAre vs ns) (hl : ns.length ≤ sizeLine) (hr : Room k callerA)
    (F : ∀ base : Heap, K.In base → base.Ns mainGlobals mg → FnOkG P w K mg base CX k fa fd [x] sp) (hbind : ∀ (s : Shared) (u : Value), BindsTo s fd ⟨[u], []⟩ [(x, u)])
    (hsp : ∀ H : Hp, SqL K H a (ns.map V.int) → sp [.ref a] H (fun v _ => v = .bl true) fun _ _ _ => False) (hCX : ∀ H e s', CX [] H s (fun _ _ _ => False) e s' → False) :
    codeAny (model P w) callerA (.call (.ref fa) ⟨[.ref a], []⟩) (fun r s' => r = .ok (.ret (.bool true)) ∧ OldK s.heap s'.heap ∧ s'.os = s.os ∧ AllBare s'.gens) s := by
  have rv := vals_ints hi
  have core : ∀ H : Hp, (∀ b u, H b = some u → b = a ∧ u = .frz { cls := .type "list", data := .seq vs.toArray } (.lst (ns.map V.int)) ∧ K.lookup a = none) → SqL K H a (ns.map V.int) → HOk P w H s.heap →
      codeAny (model P w) callerA (.call (.ref fa) ⟨[.ref a], []⟩) (fun r s' => r = .ok (.ret (.bool true)) ∧ OldK s.heap s'.heap ∧ s'.os = s.os ∧ AllBare s'.gens) s := by
    intro H hO hS ok
    have nD : ∀ {b : Addr} {m : Str → Option Value}, s.heap.Ns b m → (hidT s.heap H).Ns b m := by
      rintro b m ⟨o, es, ep, e, d, r⟩
      refine ⟨o, es, ep, hidT_get e ?_, d, r⟩
      cases q : H b with
      | none => rfl
      | some u =>
        obtain ⟨rfl, _, _⟩ := hO b u q
        rw [ha] at e
        cases e
        cases d
    have kB : K.In (hidT s.heap H) := fun b o e => hidT_get (KX b o e) (by
      cases q : H b with
      | none => rfl
      | some u =>
        obtain ⟨rfl, _, z⟩ := hO b u q
        rw [z] at e
        cases e)
    have lim2 : (hidT s.heap H).NoLimit := let ⟨mc, h1, h2⟩ := hlim; ⟨mc, nD h1, h2⟩
    have e0 : Env0 P w K mg (hidT s.heap H) callerA [] s H :=
      ⟨rfl, ⟨kB, nD hns, ⟨mb, nD hb, hbb⟩, lim2⟩, fun b o e => of_hidT e, Nat.le_of_eq (hidT_size _ _), trivial, fun b z => (by cases z), ok, .of_eq hg⟩
    refine codeAny_mono ((F _ kB (nD hns)).run callerA [] s H ⟨[.ref a], []⟩ [.ref a] [.ref a] _ _ rfl hr e0 (hbind s (.ref a)) (.cons rfl .nil) (hsp H hS)) fun r s' h => ?_
    match r, h with
    | .error e, h => exact (hCX H e s' h).elim
    | .ok .next, h => exact h.elim
    | .ok .brk, h => exact h.elim
    | .ok .cont, h => exact h.elim
    | .ok (.ret u), ⟨v, H', os, bare, un, hok', r', q⟩ =>
      obtain rfl : v = .bl true := q
      obtain rfl : u = Value.bool true := r'
      refine ⟨rfl, OldK.of_keep fun b o e => ?_, os, bare⟩
      cases q : H b with
      | none => exact un.keep b o e q (by intro z; cases z) (by intro z; cases z)
      | some u =>
        obtain ⟨rfl, rfl, _⟩ := hO b u q
        have z := (hok' b _ (un.frzs b _ _ q)).1
        rw [ha] at e
        cases e
        exact z
  cases hk : K.lookup a with
  | some o =>
    have e := KX a o hk
    rw [ha] at e
    cases e
    refine core (fun _ => none) (fun b u z => by cases z) (.inr ⟨_, vs.toArray, _, hk, rfl, rfl, rfl, ?_, by simpa using rv⟩) (fun b u z => by cases z)
    rw [List.size_toArray, hi.length]
    exact hl
  | none =>
    have only : ∀ b u, (if b = a then some (HO.frz { cls := .type "list", data := .seq vs.toArray } (.lst (ns.map V.int))) else none) = some u → b = a ∧ u = .frz { cls := .type "list", data := .seq vs.toArray } (.lst (ns.map V.int)) := fun b u z => by
      by_cases h : b = a
      · rw [if_pos h] at z
        cases z
        exact ⟨h, rfl⟩
      · rw [if_neg h] at z
        cases z
    refine core (fun b => if b = a then some (.frz { cls := .type "list", data := .seq vs.toArray } (.lst (ns.map V.int))) else none) (fun b u z => ⟨(only b u z).1, (only b u z).2, hk⟩) (.inl (.inr ⟨{ cls := .type "list", data := .seq vs.toArray }, if_pos rfl⟩)) fun b u z => ?_
    obtain ⟨rfl, rfl⟩ := only b u z
    exact ⟨ha, by rw [List.length_map]; exact hl, vs, _, rv, ha⟩
/-- the end of the row -/
theorem walkG_of {l : PySem.W.OpenLaw} {n k : Nat} {q : Program} {loose : List Str} {XP : (Str → Option Value) → Heap → Prop} {YP : World → Heap → Prop} {d : DefRec} {K : Params → PySem.W.Frag} {CX : World → CXT} {sp : World → PySem.W.Frag → Sp} {x : Str}
    (hn : l.most = some n) (hn2 : n ≤ sizeLine) (hdf : d.params.defaults = []) (hr : Room k callerA) (hY : ∀ (w : World) (h : Heap), YP w h → (K w.params).In h)
    (F : ∀ (w : World) (mg : Str → Option Value) (fa : Addr) (h : Heap), (K w.params).In h → h.Ns mainGlobals mg → mg d.name = some (.ref fa) →
      ∃ fd : FuncData, (∀ (s : Shared) (u : Value), BindsTo s fd ⟨[u], []⟩ [(x, u)]) ∧ ∀ base : Heap, (K w.params).In base → base.Ns mainGlobals mg → FnOkG l.prog w (K w.params) mg base (CX w) k fa fd [x] (sp w (K w.params)))
    (hsp : ∀ (w : World) (H : Hp) (a : Addr) (ns : List Int), ns.length ≤ n → SqL (K w.params) H a (ns.map V.int) → sp w (K w.params) [.ref a] H (fun v _ => v = .bl true) fun _ _ _ => False)
    (hCX : ∀ (w : World) (H : Hp) (s : Shared) (e : Value) (s' : Shared), CX w [] H s (fun _ _ _ => False) e s' → False) : PySem.W.WalkO q loose XP YP l.row.toRowW d [] (fun f vs => PySem.call f vs) := by
  refine Att.attach_call hn hdf fun w s0 s1 mg mb fa o pm cd doc a vs ns G Y ho hd hcd hmg hobj hints hlen hg => ?_
  obtain ⟨fd, hb, hF⟩ := F w mg fa _ (hY w _ Y) G.T.g hmg
  exact lawG_call (hY w _ Y) G.T.g G.T.b G.T.builtins G.T.nolimit hg hobj hints (Nat.le_trans hlen hn2) hr hF hb (fun H hS => hsp w H a ns hlen hS) fun H e s' => hCX w H s1 e s'
end Bh

namespace Bh
open PySem PySem.Spec PyProof.Rows L2
abbrev St := L2.St
/-! ### data on the heap -/
abbrev nv (l : List Nat) : List V := l.map fun k => V.int (k : Nat)
def bi (b : Bool) : Int := if b then 1 else 0
theorem nv_get {l : List Nat} {i k : Nat} (h : l[i]? = some k) : (nv l)[i]? = some (.int (k : Nat)) := by rw [List.getElem?_map, h]; rfl
theorem nv_of {l : List Nat} {i : Nat} {v : V} (h : (nv l)[i]? = some v) : ∃ k, l[i]? = some k ∧ v = .int (k : Nat) := by
  rw [List.getElem?_map] at h
  cases e : l[i]? with
  | none => rw [e] at h; cases h
  | some k => rw [e] at h; exact ⟨k, rfl, (Option.some.inj h).symm⟩
theorem nv_len (l : List Nat) : (nv l).length = l.length := List.length_map _
theorem nv_snoc (l : List Nat) (k : Nat) : nv l ++ [V.int (k : Nat)] = nv (l ++ [k]) := (List.map_append (f := fun k : Nat => V.int (k : Nat)) (l₁ := l) (l₂ := [k])).symm
theorem Same.seqT {K : PySem.W.Frag} {H H' : Hp} {a : Addr} {xs : List V} (e : Same H H') (h : SqT K H a xs) : SqT K H' a xs := by
  rcases h with (h | ⟨o, h⟩) | h
  · exact .inl (.inl (e _ _ h))
  · exact .inl (.inr ⟨o, e _ _ h⟩)
  · exact .inr h
theorem same_new {H : Hp} {p : Addr} {o : HO} (h : H p = none) : Same H (upd H p o) := fun b x e => by rw [upd_ne (ne_of_none e h)]; exact e
theorem same_own {H H1 : Hp} {p : Addr} {o : HO} (s : Same H H1) (h : H p = none) : Same H (upd H1 p o) := fun b x e => by rw [upd_ne (ne_of_none e h)]; exact s b x e
def NT (K : PySem.W.Frag) (H : Hp) (p : Addr) (l : List Nat) : Prop := SqT K H p (nv l)
structure Web (K : PySem.W.Frag) (H : Hp) (w : Addr) (n : Nat) (ts : Ties) (tp : Addr) (as : List Addr) : Prop where
  top : SqT K H w [.int (n : Nat), .ref tp]
  ties : SqT K H tp (as.map V.ref)
  len : as.length = ts.length
  each : ∀ k a, as[k]? = some a → SqT K H a [.int ((tie ts k).1 : Nat), .int ((tie ts k).2 : Nat)]
theorem Web.same {K : PySem.W.Frag} {H H' : Hp} {w tp : Addr} {n : Nat} {ts : Ties} {as : List Addr} (W : Web K H w n ts tp as) (s : Same H H') : Web K H' w n ts tp as :=
  ⟨Same.seqT s W.top, Same.seqT s W.ties, W.len, fun k a e => Same.seqT s (W.each k a e)⟩
theorem Web.at {K : PySem.W.Frag} {H : Hp} {w tp : Addr} {n : Nat} {ts : Ties} {as : List Addr} (W : Web K H w n ts tp as) {k : Nat} (h : k < ts.length) :
    ∃ a, (as.map V.ref)[k]? = some (.ref a) ∧ SqT K H a [.int ((tie ts k).1 : Nat), .int ((tie ts k).2 : Nat)] := by
  have h' : k < as.length := by rw [W.len]; exact h
  exact ⟨as[k], by rw [List.getElem?_map, List.getElem?_eq_getElem h']; rfl, W.each k _ (List.getElem?_eq_getElem h')⟩
theorem inV_nv (k : Nat) (l : List Nat) : inV (.int (k : Nat)) (nv l) = decide (k ∈ l) := by
  unfold inV
  induction l with
  | nil => rfl
  | cons a l ih =>
    show (eqV (.int (a : Nat)) (.int (k : Nat)) || (nv l).any fun y => eqV y (.int (k : Nat))) = decide (k ∈ a :: l)
    rw [ih]
    have e : eqV (.int (a : Nat)) (.int (k : Nat)) = decide (k = a) := by
      show ((a : Int) == (k : Int)) = decide (k = a)
      rw [Bool.eq_iff_iff, beq_iff_eq, decide_eq_true_iff]
      omega
    rw [e]
    by_cases h1 : k = a
    · simp [h1]
    · by_cases h2 : k ∈ l <;> simp [h1, h2]
theorem flat_nv (l : List Nat) : (nv l).all flatV = true := by
  rw [List.all_eq_true]
  intro v hv
  obtain ⟨k, _, rfl⟩ := List.mem_map.mp hv
  rfl
/-! ### the statements of the text -/
abbrev sIsInt : Stmt := topS 4
abbrev sWithin : Stmt := topS 5
abbrev sLotErr : Stmt := topS 7
abbrev sCutOf : Stmt := topS 8
abbrev sIsEven : Stmt := topS 9
abbrev sSides : Stmt := topS 10
abbrev sIsCut : Stmt := topS 11
abbrev sPlaces : Stmt := topS 12
abbrev sGoal : Stmt := topS 14
abbrev sTree : Stmt := topS 15
abbrev sWay : Stmt := topS 16
abbrev sRounds : Stmt := topS 17
abbrev sParities : Stmt := topS 19
abbrev sFirstOdd : Stmt := topS 20
abbrev sBothErr : Stmt := topS 21
abbrev sEvenCut : Stmt := topS 22
abbrev sLotOf : Stmt := topS 24
abbrev sColours : Stmt := topS 25
abbrev sUrn : Stmt := topS 27
abbrev sTake : Stmt := topS 28
abbrev sPick : Stmt := topS 29
abbrev sMixed : Stmt := topS 30
abbrev sWeb : Stmt := topS 31
abbrev sStars : Stmt := topS 32
abbrev sOutcome : Stmt := topS 33
abbrev sPainted : Stmt := topS 34
abbrev sLEven : Stmt := topS 35
abbrev sPaints : Stmt := topS 36
abbrev sIsTold : Stmt := topS 37
abbrev sLaw : Stmt := topS 38
theorem ne_bl (a b : Bool) : (!decide (V.bl a = V.bl b)) = (a != b) := by cases a <;> cases b <;> rfl
theorem eq_bl (a b : Bool) : decide (V.bl a = V.bl b) = (a == b) := by cases a <;> cases b <;> rfl
theorem cut_small {m : Nat} (h : m ≤ 1000) : m ≤ sizeLine := Nat.le_of_lt (small1000 h)
/-! lists made by a function of the place -/
def gm (f : Nat → V) (n : Nat) : List V := (List.range n).map f
theorem gm_len (f : Nat → V) (n : Nat) : (gm f n).length = n := by unfold gm; rw [List.length_map, List.length_range]
theorem gm_get (f : Nat → V) {n p : Nat} (h : p < n) : (gm f n)[p]? = some (f p) := by
  unfold gm
  rw [List.getElem?_map, List.getElem?_range h]
  rfl
theorem gm_at (f : Nat → V) {n p : Nat} (h : p < n) : atI (gm f n) (p : Nat) = some (f p) := atI_nat (gm_get f h)
theorem gm_ext {xs : List V} {f : Nat → V} {n : Nat} (hl : xs.length = n) (h : ∀ p, p < n → xs[p]? = some (f p)) : xs = gm f n := by
  refine List.ext_getElem? fun i => ?_
  by_cases hi : i < n
  · rw [h i hi, gm_get f hi]
  · rw [List.getElem?_eq_none (by omega), List.getElem?_eq_none (by rw [gm_len]; omega)]
theorem gm_set (f : Nat → V) {n p : Nat} (v : V) (h : p < n) : (gm f n).set p v = gm (fun x => if x = p then v else f x) n := by
  refine gm_ext (by rw [List.length_set, gm_len]) fun i hi => ?_
  by_cases e : p = i
  · subst e
    rw [List.getElem?_set_self (by rw [gm_len]; exact h), if_pos rfl]
  · rw [List.getElem?_set_ne e, gm_get f hi, if_neg (Ne.symm e)]
theorem gm_congr {f g : Nat → V} {n : Nat} (h : ∀ p, p < n → f p = g p) : gm f n = gm g n := gm_ext (gm_len f n) fun p hp => by rw [gm_get f hp, h p hp]
theorem rep_gm (v : V) : ∀ n, (List.replicate n [v]).flatten = gm (fun _ => v) n := fun n => by
  have e : (List.replicate n [v]).flatten = List.replicate n v := by
    induction n with
    | zero => rfl
    | succ n ih => rw [List.replicate_succ, List.flatten_cons, ih, List.replicate_succ]; rfl
  rw [e]
  refine gm_ext (List.length_replicate ..) fun p hp => ?_
  rw [List.getElem?_replicate, if_pos hp]
theorem ixN_nat {n p : Nat} (h : p < n) : ixN n (p : Nat) = some p := by
  unfold ixN
  rw [if_pos (by omega), if_pos (by omega)]
  rfl
theorem gm_bl (f : Nat → Bool) (n : Nat) : gm (fun p => V.bl (f p)) n = ((List.range n).map f).map V.bl := by
  unfold gm
  rw [List.map_map]
  rfl
/-- number, (one, other) -/
abbrev gPair (K : PySem.W.Frag) (i j l : Nat) : TG := gTup K 2 (gCons (gName i) (gCons (gTup K 2 (gCons (gName j) (gCons (gName l) gNil))) gNil))
/-- the slots behind number, (one, other) = the k-th tie -/
abbrev sPair (σ : St) (i j l : Nat) (ts : Ties) (k : Nat) : St := ((σ.set i (some (.int (k : Nat)))).set j (some (.int ((tie ts k).1 : Nat)))).set l (some (.int ((tie ts k).2 : Nat)))
theorem g_pair {K : PySem.W.Frag} {H H' : Hp} {wb tp : Addr} {n k i j l : Nat} {ts : Ties} {as : List Addr} {v : V} {σ : St} {Q : St → Hp → Prop} (W : Web K H wb n ts tp as) (hk : k < ts.length)
    (y : YPair (fun i => some (.int (i : Nat))) (fun i => (as.map V.ref)[i]?) k H v H') (h : Same H H' → Q (sPair σ i j l ts k) H') : gPair K i j l v σ H' Q := by
  obtain ⟨T, x1, x2, rfl, nT, rfl, e1, e2⟩ := y
  obtain ⟨a, ea, hs⟩ := W.at hk
  have z1 : x1 = .int (k : Nat) := (Option.some.inj e1).symm
  have z2 : x2 = .ref a := Option.some.inj (e2.symm.trans ea)
  subst z1 z2
  have s := same_new (o := .tup [.int (k : Nat), .ref a]) nT
  exact ⟨T, _, rfl, SqT.of upd_same, rfl, _, _, rfl, _, _, rfl, a, _, rfl, Same.seqT s hs, rfl, _, _, rfl, _, _, rfl, rfl, rfl, h s⟩
/-- the ties (their numbers, or what te makes of them) that a test picks, as a list -/
theorem lc_sel {K : PySem.W.Frag} {H1 : Hp} {wb tp D : Addr} {n i j l : Nat} {ts : Ties} {as : List Addr} {tt : TT} {te : TE} {vs : List Nat} {σ : St} {Qd : Hp → Prop} (W : Web K H1 wb n ts tp as) (few : ts.length ≤ 1000) (hD : H1 D = none) (f : Nat → Bool)
    (hw : ∀ k, wipe (sPair (wipe σ vs) i j l ts k) vs = wipe σ vs)
    (hs : ∀ k H' (R : Bool → Hp → Prop), k < ts.length → Same H1 H' → (∀ H2, Same H' H2 → R (f k) H2) → tt (sPair (wipe σ vs) i j l ts k) H' R)
    (he : ∀ k H' (R : VK), k < ts.length → Same H1 H' → R (.int (k : Nat)) H' → te (sPair (wipe σ vs) i j l ts k) H' R)
    (hd : ∀ H', Same H1 H' → H' D = some (.lst (nv (selK f ts.length))) → Qd H') :
    ∃ W : Nat → Nat → Hp → Prop, (∃ m, W 0 m (upd H1 D (.lst []))) ∧ ∀ a m H, W a m H →
      ((IteT K tp).stop a H ∧ Qd H) ∨ ((IteT K tp).go a H ∧ ∃ Nx : Hp → Prop, (∀ H', Nx H' → ∃ m', m' < m ∧ W (a + 1) m' H') ∧ ∀ x H', (IteT K tp).yld a H x H' → gPair K i j l x (wipe σ vs) H' fun σ2 H2 => wipe σ2 vs = wipe σ vs ∧ tt σ2 H2 fun b H3 =>
        if b = true then te σ2 H3 fun y H4 => ∃ acc, H4 D = some (.lst acc) ∧ acc.length < sizeLine ∧ Nx (upd H4 D (.lst (acc ++ [y]))) else Nx H3) := by
  have hn : (as.map V.ref).length = ts.length := by rw [List.length_map, W.len]
  have w := walk_enumT (K := K) (a := tp) (xs := as.map V.ref)
  rw [hn] at w
  refine lc_it w (fun a H => Same H1 H ∧ H D = some (.lst (nv (selK f a)))) ⟨same_new hD, upd_same⟩ (fun a H _ p => Same.seqT p.1 W.ties) (fun a x H H' ha p y => ?_) fun H p => hd H p.1 p.2
  refine g_pair (W.same p.1) ha y fun s => ⟨hw a, hs a H' _ ha (p.1.trans s) fun H2 s2 => ?_⟩
  have sH : Same H1 H2 := (p.1.trans s).trans s2
  have eD : H2 D = some (.lst (nv (selK f a))) := s2 _ _ (s _ _ p.2)
  cases hf : f a
  · rw [if_neg Bool.false_ne_true]
    exact ⟨sH, by rw [selK_no hf]; exact eD⟩
  · rw [if_pos rfl]
    refine he a H2 _ ha sH ⟨_, eD, ?_, same_own sH hD, ?_⟩
    · rw [nv_len]
      exact Nat.lt_of_le_of_lt (selK_len f a) (small1000 (by omega))
    · rw [upd_same, nv_snoc, selK_yes hf]
end Bh

namespace Bh
open PySem PySem.Spec PyProof.Rows L2
/-! ### data told: lists held against the empty list -/
def Sm (K : PySem.W.Frag) (H : Hp) (v : V) : Prop := ∃ d, Dp K H v d ∧ d.canLay0 = true ∧ d.depth ≤ 20
theorem sm_int {K : PySem.W.Frag} {H : Hp} (i : Int) : Sm K H (.int i) := ⟨_, .int i, by simp only [PyData.canLay0], by simp only [PyData.depth]; omega⟩
theorem sm_all {K : PySem.W.Frag} {H : Hp} : ∀ {xs : List V}, (∀ v ∈ xs, Sm K H v) → ∃ ds, DpAll K H xs ds ∧ PyData.canLayAll0 ds = true ∧ PyData.depthAll ds ≤ 20 ∧ ds.length = xs.length
  | [], _ => ⟨[], .nil, by simp only [PyData.canLayAll0], by simp only [PyData.depthAll]; omega, rfl⟩
  | v :: xs, h => by
    obtain ⟨d, h1, h2, h3⟩ := h v List.mem_cons_self
    obtain ⟨ds, g1, g2, g3, g4⟩ := sm_all fun u hu => h u (List.mem_cons_of_mem _ hu)
    refine ⟨d :: ds, .cons h1 g1, ?_, ?_, ?_⟩
    · simp only [PyData.canLayAll0, h2, g2, Bool.and_self]
    · simp only [PyData.depthAll]
      omega
    · rw [List.length_cons, List.length_cons, g4]
theorem eqv_nil (ds : List PyData) : PyData.eqv (.list ds) (.list []) = ds.isEmpty := by
  cases ds <;> simp [PyData.eqv, PyData.eqvAll]
def rNeNil (K : PySem.W.Frag) : R2 := fun x y H Q => ∃ a b xs, x = .ref a ∧ y = .ref b ∧ SqL K H a xs ∧ SqL K H b [] ∧ (∀ v ∈ xs, Sm K H v) ∧ Q (.bl (!xs.isEmpty)) H
theorem op_neNil {X : Cx} (hu : X.A.units + 64 < cLine) : OpR X (compareOp .NotEq) (rNeNil X.K) := by
  intro pins s σ H x y v u Q I rx ry h
  obtain ⟨a, b, xs, rfl, rfl, h1, h2, h3, q⟩ := h
  obtain ⟨ds, g1, g2, g3, g4⟩ := sm_all h3
  refine op_neD hu pins s σ H _ _ v u Q I rx ry ⟨.list ds, .list [], .lst h1 g1, .lst h2 .nil, ?_, by rfl, ?_⟩
  · show (PyData.canLay0 (.list ds) && decide (PyData.depth (.list ds) ≤ 64)) = true
    simp only [PyData.canLay0, g2, PyData.depth, Bool.true_and]
    exact decide_eq_true (by omega)
  · rw [eqv_nil]
    have e : ds.isEmpty = xs.isEmpty := by
      cases xs with
      | nil => rw [List.length_nil] at g4; rw [List.length_eq_zero_iff.mp g4]; rfl
      | cons y r => cases ds with
        | nil => simp at g4
        | cons z t => rfl
    rw [e]
    exact q
theorem gm_succ (f : Nat → V) (n : Nat) : gm f (n + 1) = gm f n ++ [f n] := by
  unfold gm
  rw [List.range_succ, List.map_append]
  rfl
abbrev ni (f : Nat → Nat) : Nat → V := fun p => V.int (f p : Nat)
theorem rg_gm (n : Nat) : rgV 0 (n : Nat) = gm (ni fun p => p) n := by
  unfold rgV gm
  have e : ((n : Nat) - 0 : Int).toNat = n := by omega
  rw [e]
  refine List.map_congr_left fun i _ => ?_
  show V.int (0 + (i : Nat)) = V.int (i : Nat)
  rw [Int.zero_add]
theorem eq_nat (a b : Nat) : decide (V.int (a : Nat) = V.int (b : Nat)) = decide (a = b) := by
  rw [decide_eq_decide]
  constructor
  · intro z
    injection z with z
    omega
  · intro z
    rw [z]
theorem sm_nv {K : PySem.W.Frag} {H : Hp} (l : List Nat) : ∀ v ∈ nv l, Sm K H v := fun v hv => by
  obtain ⟨k, _, rfl⟩ := List.mem_map.mp hv
  exact sm_int _
end Bh

namespace Bh
open PySem PySem.Spec PyProof.Rows L2
section
variable {P : Program} {w : World} {K : PySem.W.Frag} {mg : Str → Option Value} {base : Heap}
/-! ### cut_of -/
theorem scCut : FnScope ["web", "places", "number", "one", "other"] ["web", "places"] (defScope sCutOf) := ⟨rfl, rfl, rfl, by decide +kernel, rfl, by decide +kernel, by decide +kernel⟩
def spCut (K : PySem.W.Frag) : Sp := fun vs H Q _ => ∃ (wb p : Addr) (n : Nat) (ts : Ties) (tp : Addr) (as : List Addr) (ps : List Nat), vs = [.ref wb, .ref p] ∧ Web K H wb n ts tp as ∧ NT K H p ps ∧ ts.length ≤ 30 ∧
  ∀ H' q, Same H H' → H' q = some (.tup (nv (paint ts fun x => decide (x ∈ ps)))) → Q (.ref q) H'
theorem ok_cut {f : Addr} {fd : FuncData} {k : Nat} (F : Fun K "cut_of" "cut_of" sCutOf f fd) (me : mg "enumerate" = none) (mt : mg "tuple" = none) : FnOk P w K mg base CX0 (k + 1) f fd ["web", "places"] (spCut K) := by
  refine F.ok scCut (fun vs H Q E h => ?_) (fun cdv A outer s H vs Q E hr h => ?_)
  · obtain ⟨_, _, _, _, _, _, _, rfl, _⟩ := h
    rfl
  · obtain ⟨wb, p, n, ts, tp, as, ps, rfl, W, hp, hl, q⟩ := h
    refine ⟨_, pss_one (ps_ret (pe_callTy call_tuple_of (by rfl) mt (by decide +kernel) (pa_cons
      (pe_lc (own := [("number", 2), ("one", 3), ("other", 4)]) (g := gPair K 2 3 4) (tt := tTest (tOp rNe (tOp (rIn K false) (tVar 3) (tVar 1)) (tOp (rIn K false) (tVar 4) (tVar 1)))) (te := tVar 2) rfl scCut.nd
        (pi_enumT (by rfl) me (pa_cons (pe_ix ix_tup (pv 0) pe_int (fun _ _ => rfl)) pa_nil))
        (blkOk_by (N := ["web", "places", "number", "one", "other"]) (sc := defScope sCutOf) (by decide +kernel))
        (fun _ _ _ _ _ => pg_tup rfl (pgs_cons (pg_name (i := 2) scCut.nd rfl (.inl rfl)) (pgs_cons (pg_tup rfl (pgs_cons (pg_name (i := 3) scCut.nd rfl (.inl rfl)) (pgs_cons (pg_name (i := 4) scCut.nd rfl (.inl rfl)) pgs_nil))) pgs_nil)))
        (fun _ _ _ _ _ => pts_one (pt_cmpR op_ne (pe_cmpR op_in_seq (pv 3) (pv 1) (by rfl)) (pe_cmpR op_in_seq (pv 4) (pv 1) (by rfl)) (nomark _)))
        (fun _ _ _ _ _ => pv 2)) pa_nil))), ?_⟩
    refine ⟨.ref wb, rfl, wb, _, 1, .ref tp, rfl, rfl, W.top, rfl, tp, _, rfl, W.ties, fun D hD => ?_⟩
    refine lc_sel W (by omega) hD (dif ts fun x => decide (x ∈ ps)) (fun _ => rfl) (fun a H1 R ha sm q => ?_) (fun a H1 R ha sm q => ⟨_, rfl, q⟩) fun H1 sm e1 => ?_
    · have hp1 := Same.seqT sm hp
      refine ⟨_, rfl, .ref p, rfl, p, _, rfl, .inr hp1, rfl, flat_nv ps, _, rfl, .ref p, rfl, p, _, rfl, .inr hp1, rfl, flat_nv ps, rfl, _, rfl, ?_⟩
      have e : (!decide (V.bl (inV (.int ((tie ts a).1 : Nat)) (nv ps)) = V.bl (inV (.int ((tie ts a).2 : Nat)) (nv ps)))) = dif ts (fun x => decide (x ∈ ps)) a := by
        rw [inV_nv, inV_nv]
        exact ne_bl _ _
      have z := q H1 (Same.refl _)
      rw [← e] at z
      exact z
    · exact ⟨D, _, rfl, .inl ⟨SqL.of e1, fun t ht => q _ t (sm.trans (same_new ht)) upd_same⟩⟩
end
end Bh

namespace Bh
open PySem PySem.Spec PyProof.Rows L2
section
variable {P : Program} {w : World} {K : PySem.W.Frag} {mg : Str → Option Value} {base : Heap}
/-! ### is_even -/
theorem scEven : FnScope ["web", "lot", "marks", "tie", "place"] ["web", "lot"] (defScope sIsEven) := ⟨rfl, rfl, rfl, by decide +kernel, rfl, by decide +kernel, by decide +kernel⟩
def spEven (K : PySem.W.Frag) : Sp := fun vs H Q _ => ∃ (wb l : Addr) (n : Nat) (ts : Ties) (tp : Addr) (as : List Addr) (L : List Nat), vs = [.ref wb, .ref l] ∧ Web K H wb n ts tp as ∧ WebOk n ts ∧ NT K H l L ∧ IsLot ts.length L ∧
  ∀ H', Same H H' → Q (.bl (evenB n ts L)) H'
theorem tog_par (ts : Ties) (L : List Nat) (k p : Nat) : (if p = (tie ts k).2 then !(if (tie ts k).2 = (tie ts k).1 then !par ts L (tie ts k).1 else par ts L (tie ts k).2) else if p = (tie ts k).1 then !par ts L (tie ts k).1 else par ts L p) = par ts (L ++ [k]) p := by
  rw [par_snoc]
  unfold hit
  by_cases h1 : p = (tie ts k).1 <;> by_cases h2 : p = (tie ts k).2
  · have h3 : (tie ts k).2 = (tie ts k).1 := h2.symm.trans h1
    rw [if_pos h2, if_pos h3, ← h1]
    simp [← h2, ← h1]
  · have h3 : (p == (tie ts k).1) = true := by simpa using h1
    rw [if_neg h2, if_pos h1, ← h1]
    have e1 : ((tie ts k).2 == p) = false := by simpa using Ne.symm h2
    rw [e1]
    simp
  · rw [if_pos h2, ← h2, if_neg h1]
    have e1 : ((tie ts k).1 == p) = false := by simpa using Ne.symm h1
    rw [e1]
    simp
  · rw [if_neg h2, if_neg h1]
    have e1 : ((tie ts k).1 == p) = false := by simpa using Ne.symm h1
    have e2 : ((tie ts k).2 == p) = false := by simpa using Ne.symm h2
    rw [e1, e2]
    simp
theorem ok_even {f : Addr} {fd : FuncData} {k : Nat} (F : Fun K "is_even" "is_even" sIsEven f fd) (ma : mg "any" = none) : FnOk P w K mg base CX0 (k + 1) f fd ["web", "lot"] (spEven K) := by
  refine F.ok scEven (fun vs H Q E h => ?_) (fun cdv A outer s H vs Q E hr h => ?_)
  · obtain ⟨_, _, _, _, _, _, _, rfl, _⟩ := h
    rfl
  · obtain ⟨wb, l, n, ts, tp, as, L, rfl, W, wo, hl, il, q⟩ := h
    refine ⟨_, pss_cons (ps_set (i := 2) scEven.nd rfl (.inl rfl) (pe_op op_rep (pe_lst (pa_cons pe_bl pa_nil)) (pe_ix ix_tup (pv 0) pe_int (fun _ _ => rfl))))
      (pss_cons (ps_for PassesOwn.never rfl (pi_tup (pv 1)) (pg_name (i := 3) scEven.nd rfl (.inl rfl))
        (pss_one (ps_for PassesOwn.never rfl (pi_tup (pe_ix ix_tup (pe_ix ix_tup (pv 0) pe_int (fun _ _ => rfl)) (pv 3) (fun _ _ => rfl))) (pg_name (i := 4) scEven.nd rfl (.inl rfl))
          (pss_one (ps_asg (pe_not (pe_ix ix_list (pv 2) (pv 4) (fun _ _ => rfl))) (pg_sub (pv 2) (pv 4) set_list))))))
      (pss_one (ps_ret (pe_not (pe_callB (cr_any rfl) (by rfl) ma (by decide +kernel) (pa_cons (pv 2) pa_nil)))))), ?_⟩
    have hn8 := wo.small
    -- marks = [False] * web[0]
    refine ⟨by show 1 ≤ sizeLine; decide, fun z hz => ⟨.ref wb, rfl, wb, _, 0, .int (n : Nat), rfl, rfl, Same.seqT (same_new hz) W.top, rfl, z, (n : Nat), _, rfl, rfl, upd_same, by omega, by omega, ?_, fun m hm => ?_⟩⟩
    · show 1 * (n : Int).toNat ≤ sizeLine
      have : (sizeLine : Nat) = 16777216 := sizeLine_eq
      omega
    have e0 : (List.replicate ((n : Nat) : Int).toNat [V.bl false]).flatten = gm (fun p => V.bl (par ts (L.take 0) p)) n := rep_gm _ _
    rw [e0]
    have s1 : Same H (upd H z (.lst [V.bl false])) := same_new hz
    have hm0 : H m = none := s1.free hm
    -- for tie in lot
    refine ⟨.ref l, rfl, l, rfl, ⟨_, Same.seqT (s1.trans (same_new hm)) hl⟩, for_tup (K := K) (a := l) (xs := nv L) (fun i σ H1 => ∃ y3 y4, σ = [some (.ref wb), some (.ref l), some (.ref m), y3, y4] ∧ Same H H1 ∧ H1 m = some (.lst (gm (fun p => V.bl (par ts (L.take i) p)) n)))
      ⟨none, none, rfl, s1.trans (same_new hm), upd_same⟩ (fun i σ H1 _ ⟨_, _, _, sm, _⟩ => Same.seqT sm hl) ?_ ?_⟩
    · rintro i v σ H1 hi ⟨y3, y4, rfl, sm, em⟩
      obtain ⟨t, ht, rfl⟩ := nv_of hi
      have htl : t < ts.length := il.lt t (List.mem_of_getElem? ht)
      obtain ⟨a, ea, sa⟩ := W.at htl
      have b1 := wo.one htl
      have b2 := wo.two htl
      have sa1 := Same.seqT sm sa
      -- for place in web[1][tie]
      refine ⟨.ref wb, rfl, wb, _, 1, .ref tp, rfl, rfl, Same.seqT sm W.top, rfl, _, rfl, tp, _, (t : Nat), .ref a, rfl, rfl, Same.seqT sm W.ties, atI_nat ea, a, rfl, ⟨_, sa1⟩, ?_⟩
      refine for_tup (K := K) (a := a) (xs := [.int ((tie ts t).1 : Nat), .int ((tie ts t).2 : Nat)]) (fun j σ H2 => ∃ y4, σ = [some (.ref wb), some (.ref l), some (.ref m), some (.int (t : Nat)), y4] ∧ Same H H2 ∧
        H2 m = some (.lst (gm (fun p => V.bl (match j with | 0 => par ts (L.take i) p | 1 => if p = (tie ts t).1 then !par ts (L.take i) (tie ts t).1 else par ts (L.take i) p | _ => par ts (L.take (i + 1)) p)) n)))
        ⟨y4, rfl, sm, em⟩ (fun j σ H2 _ ⟨_, _, s2, _⟩ => Same.seqT s2 sa) ?_ ?_
      · rintro j x σ H2 hj ⟨y4, rfl, s2, e2⟩
        match j, hj, e2 with
        | 0, hj, e2 =>
          obtain rfl : V.int ((tie ts t).1 : Nat) = x := Option.some.inj hj
          refine ⟨.ref m, rfl, _, rfl, m, _, _, _, rfl, rfl, SqL.of e2, gm_at _ b1, _, rfl, .ref m, rfl, _, rfl, m, _, _, _, rfl, rfl, e2, by rw [gm_len]; exact ixN_nat b1, _, rfl, same_own s2 hm0, ?_⟩
          rw [upd_same, gm_set _ _ b1]
          refine congrArg (fun z => some (HO.lst z)) (gm_congr fun p _ => ?_)
          show (if p = (tie ts t).1 then V.bl (!par ts (L.take i) (tie ts t).1) else V.bl (par ts (L.take i) p)) = V.bl (if p = (tie ts t).1 then !par ts (L.take i) (tie ts t).1 else par ts (L.take i) p)
          by_cases h : p = (tie ts t).1
          · rw [if_pos h, if_pos h]
          · rw [if_neg h, if_neg h]
        | 1, hj, e2 =>
          obtain rfl : V.int ((tie ts t).2 : Nat) = x := Option.some.inj hj
          refine ⟨.ref m, rfl, _, rfl, m, _, _, _, rfl, rfl, SqL.of e2, gm_at _ b2, _, rfl, .ref m, rfl, _, rfl, m, _, _, _, rfl, rfl, e2, by rw [gm_len]; exact ixN_nat b2, _, rfl, same_own s2 hm0, ?_⟩
          rw [upd_same, gm_set _ _ b2]
          refine congrArg (fun z => some (HO.lst z)) (gm_congr fun p _ => ?_)
          have e : L.take (i + 1) = L.take i ++ [t] := by rw [List.take_add_one, ht]; rfl
          show (if p = (tie ts t).2 then V.bl (!(if (tie ts t).2 = (tie ts t).1 then !par ts (L.take i) (tie ts t).1 else par ts (L.take i) (tie ts t).2)) else V.bl (if p = (tie ts t).1 then !par ts (L.take i) (tie ts t).1 else par ts (L.take i) p)) = V.bl (par ts (L.take (i + 1)) p)
          rw [e, ← tog_par]
          by_cases h : p = (tie ts t).2
          · rw [if_pos h, if_pos h]
          · rw [if_neg h, if_neg h]
        | j + 2, hj, e2 => simp at hj
      · rintro σ H2 ⟨y4, rfl, s2, e2⟩
        exact ⟨_, _, rfl, s2, e2⟩
    · rintro σ H1 ⟨y3, y4, rfl, sm, em⟩
      rw [nv_len, List.take_length, gm_bl] at em
      refine ⟨.ref m, rfl, m, _, rfl, SqL.of em, _, rfl, ?_⟩
      have e : (!((List.range n).map (par ts L)).any id) = evenB n ts L := by
        unfold evenB
        rw [List.any_map, ← List.not_any_eq_all_not]
        rfl
      rw [e]
      exact q H1 sm
end
end Bh

namespace Bh
open PySem PySem.Spec PyProof.Rows L2
def ob : Option Bool → V
  | none => .non
  | some b => .bl b
section
variable {P : Program} {w : World} {K : PySem.W.Frag} {mg : Str → Option Value} {base : Heap}
/-! ### sides_of -/
theorem scSides : FnScope ["web", "lot", "sides", "waiting", "place", "number", "one", "other", "goal"] ["web", "lot"] (defScope sSides) := ⟨rfl, rfl, rfl, by decide +kernel, rfl, by decide +kernel, by decide +kernel⟩
def spSides (K : PySem.W.Frag) : Sp := fun vs H Q _ => ∃ (wb l : Addr) (n : Nat) (ts : Ties) (tp : Addr) (as : List Addr) (L : List Nat), vs = [.ref wb, .ref l] ∧ Web K H wb n ts tp as ∧ WebOk n ts ∧ NT K H l L ∧ IsLot ts.length L ∧
  ∀ (H' : Hp) (p : Addr) (s : Nat → Bool), Same H H' → H' p = some (.lst (gm (fun x => V.bl (s x)) n)) → s 0 = false → (∀ c : Nat → Bool, c 0 = false → L = paint ts c → ∀ x, x < n → s x = c x) → Q (.ref p) H'
/-- one turn of the inner loop -/
def SIn (H0 : Hp) (wb l sd wt : Addr) (n : Nat) (ts : Ties) (L : List Nat) (p m : Nat) : Nat → St → Hp → Prop := fun i σ H => ∃ f ws y5 y6 y7 y8, σ = [some (.ref wb), some (.ref l), some (.ref sd), some (.ref wt), some (.int (p : Nat)), y5, y6, y7, y8] ∧ Same H0 H ∧
  H sd = some (.lst (gm (fun x => ob (f x)) n)) ∧ H wt = some (.lst (nv ws)) ∧ DfsIn n ts L p i f ws ∧ nn f n + ws.length + 1 ≤ m
def SOut (H0 : Hp) (wb l sd wt : Addr) (n : Nat) (ts : Ties) (L : List Nat) : Nat → St → Hp → Prop := fun m σ H => ∃ f ws y4 y5 y6 y7 y8, σ = [some (.ref wb), some (.ref l), some (.ref sd), some (.ref wt), y4, y5, y6, y7, y8] ∧ Same H0 H ∧
  H sd = some (.lst (gm (fun x => ob (f x)) n)) ∧ H wt = some (.lst (nv ws)) ∧ Dfs n ts L f ws ∧ nn f n + ws.length ≤ m ∧ m ≤ 100
theorem put_ob (f : Sd) (g : Nat) (b : Bool) (x : Nat) : (if x = g then V.bl b else ob (f x)) = ob (put f g b x) := by
  unfold put
  by_cases h : x = g
  · rw [if_pos h, if_pos h]
    rfl
  · rw [if_neg h, if_neg h]
theorem ok_sides {f : Addr} {fd : FuncData} {k : Nat} (F : Fun K "sides_of" "sides_of" sSides f fd) (me : mg "enumerate" = none) : FnOk P w K mg base CX0 (k + 1) f fd ["web", "lot"] (spSides K) := by
  refine F.ok scSides (fun vs H Q E h => ?_) (fun cdv A outer s H vs Q E hr h => ?_)
  · obtain ⟨_, _, _, _, _, _, _, rfl, _⟩ := h
    rfl
  · obtain ⟨wb, l, n, ts, tp, as, L, rfl, W, wo, hl, il, q⟩ := h
    refine ⟨_, pss_cons (ps_par (i := 2) (j := 3) rfl scSides.nd rfl rfl (by decide) rfl rfl (pa_cons (pe_op op_rep (pe_lst (pa_cons pe_non pa_nil)) (pe_ix ix_tup (pv 0) pe_int (fun _ _ => rfl))) (pa_cons (pe_lst (pa_cons pe_int pa_nil)) pa_nil)) (by rfl))
      (pss_cons (ps_asg pe_bl (pg_sub (pv 2) pe_int set_list))
      (pss_cons (ps_while PassesOwn.never (pt_cmpR (op_neNil hr.units) (pv 3) (pe_lst pa_nil) (nomark _))
        (pss_cons (ps_set (i := 4) scSides.nd rfl (.inl rfl) (pe_bm0 PySem.F.plainAttrs_list PySem.F.slot_list_pop PySem.F.type_list_pop mt_pop (pv 3)))
        (pss_one (ps_for PassesOwn.never rfl (pi_enumT (by rfl) me (pa_cons (pe_ix ix_tup (pv 0) pe_int (fun _ _ => rfl)) pa_nil))
          (pg_tup rfl (pgs_cons (pg_name (i := 5) scSides.nd rfl (.inl rfl)) (pgs_cons (pg_tup rfl (pgs_cons (pg_name (i := 6) scSides.nd rfl (.inl rfl)) (pgs_cons (pg_name (i := 7) scSides.nd rfl (.inl rfl)) pgs_nil))) pgs_nil)))
          (pss_one (ps_if (pt_cmpR op_in_seq (pv 4) (pe_tup (pa_cons (pv 6) (pa_cons (pv 7) pa_nil))) (by rfl))
            (pss_cons (ps_set (i := 8) scSides.nd rfl (.inl rfl) (pe_ifExp (pt_cmpR op_eq (pv 4) (pv 6) (nomark _)) (pv 7) (pv 6)))
            (pss_one (ps_if (pt_cmpR op_isN (pe_ix ix_list (pv 2) (pv 8) (fun _ _ => rfl)) pe_non (nomark _))
              (pss_cons (ps_asg (pe_cmpR op_ne (pe_ix ix_list (pv 2) (pv 4) (fun _ _ => rfl)) (pe_cmpR op_in_seq (pv 5) (pv 1) (by rfl)) (nomark _)) (pg_sub (pv 2) (pv 8) set_list))
              (pss_one (ps_expr (pe_bm PySem.F.plainAttrs_list PySem.F.slot_list_append PySem.F.type_list_append mt_append (pv 3) (pa_cons (pv 8) pa_nil)))))
              pss_nil)))
            pss_nil))))))
      (pss_one (ps_ret (pv 2))))), ?_⟩
    have hn8 := wo.small
    have hn1 := wo.pos
    have hline : (sizeLine : Nat) = 16777216 := sizeLine_eq
    -- sides, waiting = ([None] * web[0], [0])
    refine ⟨by show 1 ≤ sizeLine; decide, fun z hz => ⟨.ref wb, rfl, wb, _, 0, .int (n : Nat), rfl, rfl, Same.seqT (same_new hz) W.top, rfl, z, (n : Nat), _, rfl, rfl, upd_same, by omega, by omega, ?_, fun sd hsd => ?_⟩⟩
    · show 1 * (n : Int).toNat ≤ sizeLine
      omega
    have e0 : (List.replicate ((n : Nat) : Int).toNat [V.non]).flatten = gm (fun _ => V.non) n := rep_gm _ _
    rw [e0]
    have s1 : Same H (upd H z (.lst [V.non])) := same_new hz
    have s2 := s1.trans (same_new (o := .lst (gm (fun _ => V.non) n)) hsd)
    have fsd : H sd = none := s1.free hsd
    refine ⟨by show 1 ≤ sizeLine; decide, fun wt hwt => ⟨_, _, rfl, ?_⟩⟩
    have s3 := s2.trans (same_new (o := .lst [V.int 0]) hwt)
    have fwt : H wt = none := s2.free hwt
    have nws : wt ≠ sd := fun z => by rw [z, upd_same] at hwt; cases hwt
    -- sides[0] = False
    refine ⟨.ref sd, rfl, sd, _, 0, 0, rfl, rfl, by rw [upd_ne nws.symm, upd_same], by rw [gm_len]; exact ixN_nat hn1, ?_⟩
    rw [gm_set _ _ hn1]
    -- while waiting != []
    refine ⟨SOut H wb l sd wt n ts L, ⟨n, start0, [0], none, none, none, none, none, rfl, same_own s3 fsd, ?_, ?_, Dfs.init hn1, ?_, by omega⟩, ?_⟩
    · rw [upd_same]
      refine congrArg (fun z => some (HO.lst z)) (gm_congr fun p _ => ?_)
      show (if p = 0 then V.bl false else V.non) = ob (if p = 0 then some false else none)
      by_cases h : p = 0
      · rw [if_pos h, if_pos h]
        rfl
      · rw [if_neg h, if_neg h]
        rfl
    · rw [upd_ne nws, upd_same]
      rfl
    · obtain ⟨n', rfl⟩ : ∃ n', n = n' + 1 := ⟨n - 1, by omega⟩
      rw [nn_start]
      show n' + 1 ≤ n' + 1
      omega
    rintro m σ H1 ⟨f, ws, y4, y5, y6, y7, y8, rfl, sm, e1, e2, D, hm, hm2⟩
    refine ⟨.ref wt, rfl, Nat.zero_le _, fun t ht => ⟨wt, t, nv ws, rfl, rfl, SqL.of (by rw [upd_ne (ne_of_none e2 ht)]; exact e2), SqL.of upd_same, sm_nv ws, _, rfl, ?_⟩⟩
    have sm1 : Same H (upd H1 t (.lst [])) := same_own sm (sm.free ht)
    have e1' : (upd H1 t (.lst [])) sd = some (.lst (gm (fun x => ob (f x)) n)) := by rw [upd_ne (ne_of_none e1 ht)]; exact e1
    have e2' : (upd H1 t (.lst [])) wt = some (.lst (nv ws)) := by rw [upd_ne (ne_of_none e2 ht)]; exact e2
    revert sm1 e1' e2'
    generalize upd H1 t (.lst []) = H2
    intro sm1 e1' e2'
    by_cases hws : ws = []
    · subst hws
      refine iteF ?_
      have all := D.all wo
      refine ⟨.ref sd, rfl, q H2 sd (fun x => (f x).getD false) sm1 ?_ ?_ ?_⟩
      · rw [e1']
        refine congrArg (fun z => some (HO.lst z)) (gm_congr fun p hp => ?_)
        cases hf : f p with
        | none => exact absurd hf (all p hp)
        | some b => rfl
      · show (f 0).getD false = false
        rw [D.zero]
        rfl
      · intro c hc0 hc x hx
        show (f x).getD false = c x
        cases hf : f x with
        | none => exact absurd hf (all x hx)
        | some b => exact D.ok c hc0 hc x b hx hf
    · obtain ⟨ws', p, rfl⟩ : ∃ ws' p, ws = ws' ++ [p] := ⟨ws.dropLast, ws.getLast hws, (List.dropLast_concat_getLast hws).symm⟩
      have hne : (!(nv (ws' ++ [p])).isEmpty) = true := by
        cases ws' <;> rfl
      rw [hne]
      refine iteT ?_
      rw [List.length_append] at hm
      have hm' : nn f n + ws'.length + 1 ≤ m := by
        have : [p].length = 1 := rfl
        omega
      refine ⟨SIn H wb l sd wt n ts L p m ts.length, ?_, ?_⟩
      · rintro σ' H' ⟨f', ws2, z5, z6, z7, z8, rfl, s', g1, g2, D', hm3⟩
        exact ⟨m - 1, by omega, f', ws2, _, z5, z6, z7, z8, rfl, s', g1, g2, D'.done, by omega, by omega⟩
      -- place = waiting.pop()
      have hlast : (nv (ws' ++ [p]))[(nv (ws' ++ [p])).length - 1]? = some (.int (p : Nat)) := by
        rw [nv_len, List.length_append]
        show (nv (ws' ++ [p]))[ws'.length + 1 - 1]? = _
        refine nv_get ?_
        simp
      have hdrop : (nv (ws' ++ [p])).dropLast = nv ws' := by
        rw [← nv_snoc]
        exact List.dropLast_concat
      refine ⟨.ref wt, rfl, .inl ⟨rfl, _, SqL.of e2'⟩, wt, _, _, rfl, rfl, e2', hlast, ?_⟩
      rw [hdrop]
      have hlen : (as.map V.ref).length = ts.length := by rw [List.length_map, W.len]
      have wk := walk_enumT (K := K) (a := tp) (xs := as.map V.ref)
      rw [hlen] at wk
      have sm2 : Same H (upd H2 wt (.lst (nv ws'))) := same_own sm1 fwt
      refine ⟨.ref wb, rfl, wb, _, 1, .ref tp, rfl, rfl, Same.seqT sm2 W.top, rfl, tp, _, rfl, Same.seqT sm2 W.ties, ?_⟩
      refine for_it wk (SIn H wb l sd wt n ts L p m) ⟨f, ws', y5, y6, y7, y8, rfl, sm2, by rw [upd_ne nws.symm]; exact e1', upd_same, D.pop, hm'⟩ (fun i σ H3 _ ⟨_, _, _, _, _, _, _, s3, _⟩ => Same.seqT s3 W.ties) (fun i v σ H3 H4 hi hP y => ?_) (fun σ H3 hP => hP)
      obtain ⟨f, ws, z5, z6, z7, z8, rfl, s3, g1, g2, D3, hm3⟩ := hP
      refine g_pair (W.same s3) hi y fun s4 => ?_
      have s34 := s3.trans s4
      have h1 := s4 _ _ g1
      have h2 := s4 _ _ g2
      have o1 := wo.one hi
      have o2 := wo.two hi
      have one_ne := wo.ne hi
      have hp := D3.pv
      -- if place in (one, other)
      refine ⟨.int (p : Nat), rfl, _, rfl, _, rfl, by show 2 ≤ sizeLine; decide, fun t2 ht2 => ⟨t2, _, rfl, .inr (SqT.of upd_same), rfl, rfl, _, rfl, ?_⟩⟩
      have s5 : Same H (upd H4 t2 (.tup [.int ((tie ts i).1 : Nat), .int ((tie ts i).2 : Nat)])) := same_own s34 (s34.free ht2)
      have h1' : (upd H4 t2 (.tup [.int ((tie ts i).1 : Nat), .int ((tie ts i).2 : Nat)])) sd = some (.lst (gm (fun x => ob (f x)) n)) := by rw [upd_ne (ne_of_none h1 ht2)]; exact h1
      have h2' : (upd H4 t2 (.tup [.int ((tie ts i).1 : Nat), .int ((tie ts i).2 : Nat)])) wt = some (.lst (nv ws)) := by rw [upd_ne (ne_of_none h2 ht2)]; exact h2
      revert s5 h1' h2'
      generalize upd H4 t2 (.tup [.int ((tie ts i).1 : Nat), .int ((tie ts i).2 : Nat)]) = H5
      intro s5 h1' h2'
      have ein : inV (.int (p : Nat)) [.int ((tie ts i).1 : Nat), .int ((tie ts i).2 : Nat)] = decide (p ∈ [(tie ts i).1, (tie ts i).2]) := inV_nv p [(tie ts i).1, (tie ts i).2]
      show if inV (.int (p : Nat)) [.int ((tie ts i).1 : Nat), .int ((tie ts i).2 : Nat)] = true then _ else _
      rw [ein]
      -- what follows for the goal g
      have go : ∀ g : Nat, g < n → (((tie ts i).1 = p ∧ (tie ts i).2 = g) ∨ ((tie ts i).2 = p ∧ (tie ts i).1 = g)) → (f g ≠ none → SIn H wb l sd wt n ts L p m (i + 1) [some (.ref wb), some (.ref l), some (.ref sd), some (.ref wt), some (.int (p : Nat)), some (.int (i : Nat)), some (.int ((tie ts i).1 : Nat)), some (.int ((tie ts i).2 : Nat)), some (.int (g : Nat))] H5) ∧
          (∀ b, f p = some b → f g = none → SIn H wb l sd wt n ts L p m (i + 1) [some (.ref wb), some (.ref l), some (.ref sd), some (.ref wt), some (.int (p : Nat)), some (.int (i : Nat)), some (.int ((tie ts i).1 : Nat)), some (.int ((tie ts i).2 : Nat)), some (.int (g : Nat))]
            (upd (upd H5 sd (.lst (gm (fun x => ob (put f g (b != decide (i ∈ L)) x)) n))) wt (.lst (nv (ws ++ [g]))))) := by
        intro g hg eg
        refine ⟨fun hf => ?_, fun b hb hf => ?_⟩
        · refine ⟨f, ws, _, _, _, _, rfl, s5, h1', h2', D3.skip ?_, hm3⟩
          rcases eg with ⟨a1, a2⟩ | ⟨a1, a2⟩
          · refine ⟨fun _ => by rw [a2]; exact hf, fun z => ?_⟩
            exact absurd (a1.trans z.symm) one_ne
          · refine ⟨fun z => ?_, fun _ => by rw [a2]; exact hf⟩
            exact absurd (z.trans a1.symm) one_ne
        · refine ⟨_, ws ++ [g], _, _, _, _, rfl, same_own (same_own s5 fsd) fwt, by rw [upd_ne nws.symm, upd_same], upd_same, D3.add hi il hg hf hb eg, ?_⟩
          have z := nn_put f (b != decide (i ∈ L)) hf hg
          rw [List.length_append]
          have : [g].length = 1 := rfl
          omega
      -- the suite for the goal g
      have suite : ∀ (D : Ends) (g : Nat), (∀ σ9 H9, SIn H wb l sd wt n ts L p m (i + 1) σ9 H9 → D.nx σ9 H9) → g < n → (((tie ts i).1 = p ∧ (tie ts i).2 = g) ∨ ((tie ts i).2 = p ∧ (tie ts i).1 = g)) →
          tIfS (tTest (tOp (fun x y H Q => y = .non ∧ Q (.bl (decide (x = .non))) H) (tOp (rIxL K) (tVar 2) (tVar 8)) (tC .non)))
            (tSeq (tAsg (tOp rNe (tOp (rIxL K) (tVar 2) (tVar 4)) (tOp (rIn K false) (tVar 5) (tVar 1))) (gSub (tVar 2) (tVar 8) L2.rSetL)) (tDrop (tBM K "list" rAppend (tVar 3) (tCons (tVar 8) tNil)))) tNext
            D [some (.ref wb), some (.ref l), some (.ref sd), some (.ref wt), some (.int (p : Nat)), some (.int (i : Nat)), some (.int ((tie ts i).1 : Nat)), some (.int ((tie ts i).2 : Nat)), some (.int (g : Nat))] H5 := by
        intro D g hD hg eg
        obtain ⟨go1, go2⟩ := go g hg eg
        refine ⟨.ref sd, rfl, _, rfl, sd, _, _, _, rfl, rfl, SqL.of h1', gm_at _ hg, rfl, _, rfl, ?_⟩
        cases hf : f g with
        | some b =>
          refine iteF ?_
          exact hD _ _ (go1 (by rw [hf]; exact fun z => nomatch z))
        | none =>
          refine iteT ?_
          obtain ⟨b, hb⟩ : ∃ b, f p = some b := by
            cases e : f p with
            | none => exact absurd e hp.2
            | some b => exact ⟨b, rfl⟩
          have ep : (gm (fun x => ob (f x)) n)[p]? = some (V.bl b) := by rw [gm_get _ hp.1, hb]; rfl
          refine ⟨.ref sd, rfl, _, rfl, sd, _, _, _, rfl, rfl, SqL.of h1', atI_nat ep, _, rfl, .ref l, rfl, l, _, rfl, .inr (Same.seqT s5 hl), rfl, flat_nv L, rfl, .ref sd, rfl, _, rfl, sd, _, _, _, rfl, rfl, h1', by rw [gm_len]; exact ixN_nat hg, ?_⟩
          rw [gm_set _ _ hg]
          have ev : (!decide (V.bl b = V.bl (inV (.int (i : Nat)) (nv L)))) = (b != decide (i ∈ L)) := by rw [inV_nv]; exact ne_bl _ _
          rw [if_neg Bool.false_ne_true]
          rw [ev, gm_congr fun x _ => put_ob f g (b != decide (i ∈ L)) x]
          have hwt5 : (upd H5 sd (.lst (gm (fun x => ob (put f g (b != decide (i ∈ L)) x)) n))) wt = some (.lst (nv ws)) := by rw [upd_ne nws]; exact h2'
          refine ⟨.ref wt, rfl, .inl ⟨rfl, _, SqL.of hwt5⟩, _, rfl, wt, _, _, rfl, rfl, hwt5, ?_, ?_⟩
          · rw [nv_len]
            exact small1000 (by omega)
          · rw [nv_snoc]
            exact hD _ _ (go2 b hb hf)
      by_cases hin : p ∈ [(tie ts i).1, (tie ts i).2]
      · rw [decide_eq_true hin]
        refine iteT ?_
        refine ⟨_, rfl, _, rfl, rfl, _, rfl, ?_⟩
        by_cases h1p : p = (tie ts i).1
        · have e1 : decide (V.int (p : Nat) = V.int ((tie ts i).1 : Nat)) = true := decide_eq_true (by rw [h1p])
          rw [e1]
          refine iteT ?_
          exact ⟨_, rfl, suite _ (tie ts i).2 (fun _ _ z => z) o2 (.inl ⟨h1p.symm, rfl⟩)⟩
        · have h2p : p = (tie ts i).2 := by simpa [h1p] using hin
          have e1 : decide (V.int (p : Nat) = V.int ((tie ts i).1 : Nat)) = false := decide_eq_false fun z => h1p (by injection z with z; omega)
          rw [e1]
          refine iteF ?_
          exact ⟨_, rfl, suite _ (tie ts i).1 (fun _ _ z => z) o1 (.inr ⟨h2p.symm, rfl⟩)⟩
      · rw [decide_eq_false hin]
        refine iteF ?_
        have n1 : (tie ts i).1 ≠ p := fun z => hin (by rw [z]; simp)
        have n2 : (tie ts i).2 ≠ p := fun z => hin (by rw [z]; simp)
        exact ⟨f, ws, _, _, _, _, rfl, s5, h1', h2', D3.skip ⟨fun z => absurd z n1, fun z => absurd z n2⟩, hm3⟩
end
end Bh

namespace Bh
open PySem PySem.Spec PyProof.Rows L2
def CutOf (ts : Ties) (L : List Nat) : Prop := ∃ c : Nat → Bool, c 0 = false ∧ L = paint ts c
section
variable {P : Program} {w : World} {K : PySem.W.Frag} {mg : Str → Option Value} {base : Heap}
/-! ### is_cut -/
theorem scIsCut : FnScope ["web", "lot", "sides", "number", "one", "other"] ["web", "lot"] (defScope sIsCut) := ⟨rfl, rfl, rfl, by decide +kernel, rfl, by decide +kernel, by decide +kernel⟩
def spIsCut (K : PySem.W.Frag) : Sp := fun vs H Q _ => ∃ (wb l : Addr) (n : Nat) (ts : Ties) (tp : Addr) (as : List Addr) (L : List Nat), vs = [.ref wb, .ref l] ∧ Web K H wb n ts tp as ∧ WebOk n ts ∧ NT K H l L ∧ IsLot ts.length L ∧
  ∀ (H' : Hp) (b : Bool), Same H H' → (b = true ↔ CutOf ts L) → Q (.bl b) H'
theorem ok_isCut {f fS : Addr} {fd fdS : FuncData} (F : Fun K "is_cut" "is_cut" sIsCut f fd) (FS : Fun K "sides_of" "sides_of" sSides fS fdS) (bS : L2.Binds K fdS ["web", "lot"] []) (gS : mg "sides_of" = some (.ref fS)) (me : mg "enumerate" = none) :
    FnOk P w K mg base CX0 2 f fd ["web", "lot"] (spIsCut K) := by
  have GS : FnOk P w K mg base CX0 1 fS fdS ["web", "lot"] (spSides K) := ok_sides FS me
  refine F.ok scIsCut (fun vs H Q E h => ?_) (fun cdv A outer s H vs Q E hr h => ?_)
  · obtain ⟨_, _, _, _, _, _, _, rfl, _⟩ := h
    rfl
  · obtain ⟨wb, l, n, ts, tp, as, L, rfl, W, wo, hl, il, q⟩ := h
    refine ⟨_, pss_cons (ps_set (i := 2) scIsCut.nd rfl (.inl rfl) (pe_call GS hr (by rfl) gS FS.kp bS .nil pass0 (pa_cons (pv 0) (pa_cons (pv 1) pa_nil))))
      (pss_cons (ps_for PassesOwn.never rfl (pi_enumT (by rfl) me (pa_cons (pe_ix ix_tup (pv 0) pe_int (fun _ _ => rfl)) pa_nil))
          (pg_tup rfl (pgs_cons (pg_name (i := 3) scIsCut.nd rfl (.inl rfl)) (pgs_cons (pg_tup rfl (pgs_cons (pg_name (i := 4) scIsCut.nd rfl (.inl rfl)) (pgs_cons (pg_name (i := 5) scIsCut.nd rfl (.inl rfl)) pgs_nil))) pgs_nil)))
          (pss_one (ps_if (pt_cmpR op_ne (pe_cmpR op_ne (pe_ix ix_list (pv 2) (pv 4) (fun _ _ => rfl)) (pe_ix ix_list (pv 2) (pv 5) (fun _ _ => rfl)) (nomark _)) (pe_cmpR op_in_seq (pv 3) (pv 1) (by rfl)) (nomark _))
            (pss_one (ps_ret pe_bl)) pss_nil)))
      (pss_one (ps_ret pe_bl))), ?_⟩
    refine ⟨.ref wb, rfl, .ref l, rfl, wb, l, n, ts, tp, as, L, rfl, W, wo, hl, il, fun H1 sd sdf sm1 e1 s0 sc => ?_⟩
    have hlen : (as.map V.ref).length = ts.length := by rw [List.length_map, W.len]
    have wk := walk_enumT (K := K) (a := tp) (xs := as.map V.ref)
    rw [hlen] at wk
    refine ⟨.ref wb, rfl, wb, _, 1, .ref tp, rfl, rfl, Same.seqT sm1 W.top, rfl, tp, _, rfl, Same.seqT sm1 W.ties, ?_⟩
    refine for_it wk (fun i σ H2 => ∃ y3 y4 y5, σ = [some (.ref wb), some (.ref l), some (.ref sd), y3, y4, y5] ∧ Same H H2 ∧ H2 sd = some (.lst (gm (fun x => V.bl (sdf x)) n)) ∧ ∀ k, k < i → dif ts sdf k = decide (k ∈ L))
      ⟨none, none, none, rfl, sm1, e1, fun k hk => absurd hk (Nat.not_lt_zero _)⟩ (fun i σ H3 _ ⟨_, _, _, _, s3, _⟩ => Same.seqT s3 W.ties) (fun i v σ H3 H4 hi hP y => ?_) ?_
    · obtain ⟨z3, z4, z5, rfl, s3, g1, D3⟩ := hP
      refine g_pair (W.same s3) hi y fun s4 => ?_
      have s34 := s3.trans s4
      have h1 := s4 _ _ g1
      have o1 := wo.one hi
      have o2 := wo.two hi
      refine ⟨.ref sd, rfl, _, rfl, sd, _, _, _, rfl, rfl, SqL.of h1, gm_at _ o1, .ref sd, rfl, _, rfl, sd, _, _, _, rfl, rfl, SqL.of h1, gm_at _ o2, rfl, _, rfl, .ref l, rfl, l, _, rfl, .inr (Same.seqT s34 hl), rfl, flat_nv L, rfl, _, rfl, ?_⟩
      rw [if_neg Bool.false_ne_true, inV_nv, ne_bl, ne_bl]
      have ed : (sdf (tie ts i).1 != sdf (tie ts i).2) = dif ts sdf i := rfl
      rw [ed]
      by_cases hd : dif ts sdf i = decide (i ∈ L)
      · rw [hd]
        have : (decide (i ∈ L) != decide (i ∈ L)) = false := by cases decide (i ∈ L) <;> rfl
        rw [this]
        refine iteF ?_
        refine ⟨_, _, _, rfl, s34, h1, fun k hk => ?_⟩
        by_cases e : k = i
        · rw [e]
          exact hd
        · exact D3 k (by omega)
      · have : (dif ts sdf i != decide (i ∈ L)) = true := by
          revert hd
          cases dif ts sdf i <;> cases decide (i ∈ L) <;> simp
        rw [this]
        refine iteT ?_
        refine q H4 false s34 ⟨(fun z => nomatch z), fun ⟨c, c0, hc⟩ => ?_⟩
        refine absurd ?_ hd
        have e := sc c c0 hc
        rw [← (lot_paint il).mp hc i hi]
        unfold dif
        rw [e _ o1, e _ o2]
    · rintro σ H2 ⟨y3, y4, y5, rfl, s2, e2, D2⟩
      exact q H2 true s2 ⟨fun _ => ⟨sdf, s0, (lot_paint il).mpr D2⟩, fun _ => rfl⟩
/-! ### places_of_cut -/
theorem scPlaces : FnScope ["web", "lot", "place", "side"] ["web", "lot"] (defScope sPlaces) := ⟨rfl, rfl, rfl, by decide +kernel, rfl, by decide +kernel, by decide +kernel⟩
def spPlaces (K : PySem.W.Frag) (C : Addr) : Sp := fun vs H Q E => ∃ (wb l : Addr) (n : Nat) (ts : Ties) (tp : Addr) (as : List Addr) (L : List Nat), vs = [.ref wb, .ref l] ∧ Web K H wb n ts tp as ∧ WebOk n ts ∧ NT K H l L ∧ IsLot ts.length L ∧
  (∀ H', Same H H' → ¬ CutOf ts L → E (.ref C) none H') ∧ ∀ (H' : Hp) (p : Addr) (s : Nat → Bool), Same H H' → s 0 = false → L = paint ts s → H' p = some (.tup (nv (selK s n))) → Q (.ref p) H'
theorem ok_places {B C fI : Addr} {f fS fC : Addr} {fd fdS fdC : FuncData} (T : UnfTxt K mg B C fI) (F : Fun K "places_of_cut" "places_of_cut" sPlaces f fd) (FS : Fun K "sides_of" "sides_of" sSides fS fdS) (bS : L2.Binds K fdS ["web", "lot"] []) (gS : mg "sides_of" = some (.ref fS))
    (FC : Fun K "is_cut" "is_cut" sIsCut fC fdC) (bC : L2.Binds K fdC ["web", "lot"] []) (gC : mg "is_cut" = some (.ref fC)) (me : mg "enumerate" = none) (mt : mg "tuple" = none) :
    FnOk P w K mg base (L2.CX P w) 3 f fd ["web", "lot"] (spPlaces K C) := by
  have GS : FnOk P w K mg base CX0 1 fS fdS ["web", "lot"] (spSides K) := ok_sides FS me
  have GC : FnOk P w K mg base CX0 2 fC fdC ["web", "lot"] (spIsCut K) := ok_isCut FC FS bS gS me
  refine F.okX scPlaces (fun vs H Q E h => ?_) (fun cdv A outer s H vs Q E hr h => ?_)
  · obtain ⟨_, _, _, _, _, _, _, rfl, _⟩ := h
    rfl
  · obtain ⟨wb, l, n, ts, tp, as, L, rfl, W, wo, hl, il, qE, q⟩ := h
    refine ⟨_, pss_cons (ps_if (pt_not (pt_val (pe_call GC hr (by rfl) gC FC.kp bC .nil pass0 (pa_cons (pv 0) (pa_cons (pv 1) pa_nil))))) (pss_one (ps_unfit rfl T hr (takes_of rfl rfl rfl rfl))) pss_nil)
      (PSs.nox (pss_one (ps_ret (pe_callTy call_tuple_of (by rfl) mt (by decide +kernel) (pa_cons
      (pe_lc (own := [("place", 2), ("side", 3)]) (g := gTup K 2 (gCons (gName 2) (gCons (gName 3) gNil))) (tt := tB (tVar 3)) (te := tVar 2) rfl scPlaces.nd
        (pi_enum (by rfl) me (pa_cons (pe_call GS (hr.mono (by decide)) (by rfl) gS FS.kp bS .nil pass0 (pa_cons (pv 0) (pa_cons (pv 1) pa_nil))) pa_nil))
        (blkOk_by (N := ["web", "lot", "place", "side"]) (sc := defScope sPlaces) (by decide +kernel))
        (fun _ _ _ _ _ => pg_tup rfl (pgs_cons (pg_name (i := 2) scPlaces.nd rfl (.inl rfl)) (pgs_cons (pg_name (i := 3) scPlaces.nd rfl (.inl rfl)) pgs_nil)))
        (fun _ _ _ _ _ => pts_one (pt_val (pv 3)))
        (fun _ _ _ _ _ => pv 2)) pa_nil))))), ?_⟩
    refine ⟨.ref wb, rfl, .ref l, rfl, wb, l, n, ts, tp, as, L, rfl, W, wo, hl, il, fun H1 b sm1 hb => ⟨b, rfl, ?_⟩⟩
    cases b with
    | false =>
      refine iteT ?_
      exact qE H1 sm1 fun z => nomatch (hb.mpr z)
    | true =>
      refine iteF ?_
      obtain ⟨c, c0, hc⟩ := hb.mp rfl
      refine ⟨.ref wb, rfl, .ref l, rfl, wb, l, n, ts, tp, as, L, rfl, W.same sm1, wo, Same.seqT sm1 hl, il, fun H2 sd sdf sm2 e1 s0 sc => ?_⟩
      have sm := sm1.trans sm2
      refine ⟨sd, _, rfl, SqL.of e1, fun D hD => ?_⟩
      have wk := walk_enum (K := K) (a := sd) (xs := gm (fun x => V.bl (sdf x)) n)
      rw [gm_len] at wk
      have hDs : D ≠ sd := fun z => by rw [z, e1] at hD; cases hD
      refine lc_it wk (fun i H3 => Same H2 H3 ∧ H3 D = some (.lst (nv (selK sdf i)))) ⟨same_new hD, upd_same⟩ (fun i H3 _ p => SqL.of (p.1 _ _ e1)) (fun i x H3 H4 hi p y => ?_) fun H3 p => ?_
      · obtain ⟨T', x1, x2, rfl, nT, rfl, f1, f2⟩ := y
        obtain rfl : V.int (i : Nat) = x1 := Option.some.inj f1
        obtain rfl : V.bl (sdf i) = x2 := Option.some.inj ((gm_get _ hi).symm.trans f2)
        have s4 := p.1.trans (same_new (o := .tup [.int (i : Nat), .bl (sdf i)]) nT)
        have eD : (upd H3 T' (.tup [.int (i : Nat), .bl (sdf i)])) D = some (.lst (nv (selK sdf i))) := by rw [upd_ne (ne_of_none p.2 nT)]; exact p.2
        refine ⟨T', _, rfl, SqT.of upd_same, rfl, _, _, rfl, _, _, rfl, rfl, rfl, _, rfl, sdf i, rfl, ?_⟩
        cases hs : sdf i with
        | false =>
          refine iteF ?_
          exact ⟨by rw [hs] at s4; exact s4, by rw [selK_no hs, ← hs]; exact eD⟩
        | true =>
          refine iteT ?_
          rw [hs] at s4 eD
          refine ⟨_, rfl, _, eD, ?_, same_own s4 hD, ?_⟩
          · rw [nv_len]
            exact Nat.lt_of_le_of_lt (selK_len _ _) (small1000 (by have := wo.small; omega))
          · rw [upd_same, nv_snoc, selK_yes hs]
      · refine ⟨D, _, rfl, .inl ⟨SqL.of p.2, fun t ht => ?_⟩⟩
        have e := sc c c0 hc
        refine q _ t sdf ((sm.trans p.1).trans (same_new ht)) s0 ?_ upd_same
        rw [hc]
        exact (paint_congr wo e).symm
end
end Bh

namespace Bh
open PySem PySem.Spec PyProof.Rows L2
section
variable {P : Program} {w : World} {K : PySem.W.Frag} {mg : Str → Option Value} {base : Heap}
/-! ### is_integer, is_within -/
theorem scIsInt : FnScope ["value"] ["value"] (defScope sIsInt) := ⟨rfl, rfl, rfl, by decide +kernel, rfl, by decide +kernel, by decide +kernel⟩
def spIsInt : Sp := fun vs H Q _ => ∃ i : Int, vs = [.int i] ∧ Q (.bl true) H
theorem ok_isInt {f : Addr} {fd : FuncData} (F : Fun K "is_integer" "is_integer" sIsInt f fd) (mi : mg "isinstance" = none) (mt : mg "int" = none) (mb : mg "bool" = none) : FnOk P w K mg base CX0 1 f fd ["value"] spIsInt := by
  refine F.ok scIsInt (fun vs H Q E h => ?_) (fun cdv A outer s H vs Q E hr h => ?_)
  · obtain ⟨_, rfl, _⟩ := h
    rfl
  · obtain ⟨i, rfl, q⟩ := h
    refine ⟨_, pss_one (ps_ret (pe_and (pe_callB call_isi (by rfl) mi (by decide +kernel) (pa_cons (pv 0) (pa_cons (pe_bltn (v := .ty "int") (by rfl) mt (by decide +kernel) rfl) pa_nil)))
      (pe_one (pe_not (pe_callB call_isi (by rfl) mi (by decide +kernel) (pa_cons (pv 0) (pa_cons (pe_bltn (v := .ty "bool") (by rfl) mb (by decide +kernel) rfl) pa_nil))))))), ?_⟩
    refine ⟨_, rfl, .int i, .ty "int", _, _, true, rfl, .ty _, .base (.int i), kit_ty (by decide +kernel), true, rfl, iteT ?_⟩
    exact ⟨_, rfl, .int i, .ty "bool", _, _, false, rfl, .ty _, .base (.int i), kit_ty (by decide +kernel), false, rfl, q⟩
theorem scWithin : FnScope ["value", "low", "high"] ["value", "low", "high"] (defScope sWithin) := ⟨rfl, rfl, rfl, by decide +kernel, rfl, by decide +kernel, by decide +kernel⟩
def spWithin : Sp := fun vs H Q _ => ∃ i lo hi : Int, vs = [.int i, .int lo, .int hi] ∧ lo ≤ i ∧ i ≤ hi ∧ Q (.bl true) H
theorem ok_within {f fI : Addr} {fd fdI : FuncData} (F : Fun K "is_within" "is_within" sWithin f fd) (FI : Fun K "is_integer" "is_integer" sIsInt fI fdI) (bI : L2.Binds K fdI ["value"] []) (gI : mg "is_integer" = some (.ref fI))
    (mi : mg "isinstance" = none) (mt : mg "int" = none) (mb : mg "bool" = none) : FnOk P w K mg base CX0 2 f fd ["value", "low", "high"] spWithin := by
  have GI : FnOk P w K mg base CX0 1 fI fdI ["value"] spIsInt := ok_isInt FI mi mt mb
  refine F.ok scWithin (fun vs H Q E h => ?_) (fun cdv A outer s H vs Q E hr h => ?_)
  · obtain ⟨_, _, _, rfl, _⟩ := h
    rfl
  · obtain ⟨i, lo, hi, rfl, h1, h2, q⟩ := h
    refine ⟨_, pss_one (ps_ret (pe_and (pe_call GI hr (by rfl) gI FI.kp bI .nil pass0 (pa_cons (pv 0) pa_nil)) (pe_one (pe_chain op_le op_le (pv 1) (pv 0) (pv 2))))), ?_⟩
    refine ⟨_, rfl, i, rfl, true, rfl, iteT ?_⟩
    refine ⟨_, rfl, _, rfl, lo, i, rfl, rfl, true, congrArg V.bl (decide_eq_true h1), iteT ?_⟩
    refine ⟨_, rfl, i, hi, rfl, rfl, ?_⟩
    show Q (.bl (decide (i ≤ hi))) H
    rw [decide_eq_true h2]
    exact q
/-! ### lot_error: a lot is a lot -/
theorem tyx_tup {H : Hp} {a : Addr} {xs : List V} (h : SqT K H a xs) : TyX K H (.ref a) (.type "tuple") := by
  rcases h with (h | ⟨o, h⟩) | ⟨o, _, _, h, c, _⟩
  · exact .base (.tup h)
  · exact .fTuple h
  · exact .kTuple h c
theorem scLotErr : FnScope ["web", "value", "least", "number", "item"] ["web", "value"] (defScope sLotErr) := ⟨rfl, rfl, rfl, by decide +kernel, rfl, by decide +kernel, by decide +kernel⟩
def spLotErr (K : PySem.W.Frag) : Sp := fun vs H Q _ => ∃ (wb l : Addr) (n : Nat) (ts : Ties) (tp : Addr) (as : List Addr) (L : List Nat), vs = [.ref wb, .ref l] ∧ Web K H wb n ts tp as ∧ NT K H l L ∧ IsLot ts.length L ∧
  ∀ H', Same H H' → Q .non H'
theorem ok_lotErr {f fI fW : Addr} {fd fdI fdW : FuncData} (F : Fun K "lot_error" "lot_error" sLotErr f fd) (FI : Fun K "is_integer" "is_integer" sIsInt fI fdI) (bI : L2.Binds K fdI ["value"] []) (gI : mg "is_integer" = some (.ref fI))
    (FW : Fun K "is_within" "is_within" sWithin fW fdW) (bW : L2.Binds K fdW ["value", "low", "high"] []) (gW : mg "is_within" = some (.ref fW))
    (mi : mg "isinstance" = none) (mt : mg "int" = none) (mb : mg "bool" = none) (mtu : mg "tuple" = none) (me : mg "enumerate" = none) (ml : mg "len" = none) : FnOk P w K mg base CX0 3 f fd ["web", "value"] (spLotErr K) := by
  have GW : FnOk P w K mg base CX0 2 fW fdW ["value", "low", "high"] spWithin := ok_within FW FI bI gI mi mt mb
  refine F.ok scLotErr (fun vs H Q E h => ?_) (fun cdv A outer s H vs Q E hr h => ?_)
  · obtain ⟨_, _, _, _, _, _, _, rfl, _⟩ := h
    rfl
  · obtain ⟨wb, l, n, ts, tp, as, L, rfl, W, hl, il, q⟩ := h
    refine ⟨_, pss_cons (ps_if (pt_not (pt_val (pe_callB call_isi (by rfl) mi (by decide +kernel) (pa_cons (pv 1) (pa_cons (pe_bltn (v := .ty "tuple") (by rfl) mtu (by decide +kernel) rfl) pa_nil))))) (pss_one (ps_ret pe_str)) pss_nil)
      (pss_cons (ps_set (i := 2) scLotErr.nd rfl (.inl rfl) pe_int)
      (pss_cons (ps_for PassesOwn.never rfl (pi_enumT (by rfl) me (pa_cons (pv 1) pa_nil)) (pg_tup rfl (pgs_cons (pg_name (i := 3) scLotErr.nd rfl (.inl rfl)) (pgs_cons (pg_name (i := 4) scLotErr.nd rfl (.inl rfl)) pgs_nil)))
        (pss_cons (ps_if (pt_not (pt_val (pe_call GW hr (by rfl) gW FW.kp bW .nil pass0 (pa_cons (pv 4) (pa_cons (pv 2) (pa_cons (pe_op op_sub (pe_callB call_len_seq (by rfl) ml PySem.boot_len (pa_cons (pe_ix ix_tup (pv 0) pe_int (fun _ _ => rfl)) pa_nil)) pe_int) pa_nil))))))
          (pss_one (ps_ret (pe_tup (pa_cons pe_str (pa_cons (pv 3) pa_nil))))) pss_nil)
        (pss_one (ps_set (i := 2) scLotErr.nd rfl (.inl rfl) (pe_op op_add (pv 4) pe_int)))))
      (pss_one (ps_ret pe_non)))), ?_⟩
    refine ⟨_, rfl, .ref l, .ty "tuple", _, _, true, rfl, .ty _, tyx_tup hl, kit_ty (by decide +kernel), true, rfl, iteF ?_⟩
    refine ⟨.ref l, rfl, l, _, rfl, hl, ?_⟩
    have wk := walk_enumT (K := K) (a := l) (xs := nv L)
    rw [nv_len] at wk
    refine for_it wk (fun i σ H1 => ∃ (b : Nat) (y3 y4 : Option V), σ = [some (.ref wb), some (.ref l), some (.int (b : Nat)), y3, y4] ∧ Same H H1 ∧ ∀ j k, i ≤ j → L[j]? = some k → b ≤ k)
      ⟨0, none, none, rfl, Same.refl _, fun _ _ _ _ => Nat.zero_le _⟩ (fun i σ H1 _ ⟨_, _, _, _, sm, _⟩ => Same.seqT sm hl) (fun i v σ H1 H2 hi hP y => ?_) ?_
    · obtain ⟨b, y3, y4, rfl, sm, hb⟩ := hP
      obtain ⟨T, x1, x2, rfl, nT, rfl, e1, e2⟩ := y
      obtain rfl : V.int (i : Nat) = x1 := Option.some.inj e1
      obtain ⟨t, ht, rfl⟩ := nv_of e2
      have s2 := sm.trans (same_new (o := .tup [.int (i : Nat), .int (t : Nat)]) nT)
      have htl := il.lt t (List.mem_of_getElem? ht)
      have hbt := hb i t (Nat.le_refl _) ht
      refine ⟨T, _, rfl, SqT.of upd_same, rfl, _, _, rfl, _, _, rfl, rfl, ?_⟩
      refine ⟨_, rfl, _, rfl, .ref wb, rfl, wb, _, 1, .ref tp, rfl, rfl, Same.seqT s2 W.top, rfl, tp, _, rfl, .inr (Same.seqT s2 W.ties), _, _, rfl, rfl, (t : Nat), (b : Nat), _, rfl, by omega, ?_, true, rfl, iteF ?_⟩
      · rw [List.length_map, W.len]
        omega
      · refine ⟨_, rfl, _, _, rfl, rfl, t + 1, _, _, rfl, s2, fun j k hj hk => ?_⟩
        have h1 : i < L.length := (List.getElem?_eq_some_iff.mp ht).1
        have h2 : j < L.length := (List.getElem?_eq_some_iff.mp hk).1
        have z := List.pairwise_iff_getElem.mp il.asc i j h1 h2 (by omega)
        rw [(List.getElem?_eq_some_iff.mp ht).2, (List.getElem?_eq_some_iff.mp hk).2] at z
        exact z
    · rintro σ H1 ⟨b, y3, y4, rfl, sm, hb⟩
      exact q H1 sm
/-! ### goal_of -/
theorem scGoal : FnScope ["pair", "place"] ["pair", "place"] (defScope sGoal) := ⟨rfl, rfl, rfl, by decide +kernel, rfl, by decide +kernel, by decide +kernel⟩
def spGoal (K : PySem.W.Frag) : Sp := fun vs H Q _ => ∃ (a : Addr) (x y p : Nat), vs = [.ref a, .int (p : Nat)] ∧ SqT K H a [.int (x : Nat), .int (y : Nat)] ∧ Q (.int ((if x = p then y else x : Nat) : Nat)) H
theorem ok_goal {f : Addr} {fd : FuncData} {k : Nat} (F : Fun K "goal_of" "goal_of" sGoal f fd) : FnOk P w K mg base CX0 (k + 1) f fd ["pair", "place"] (spGoal K) := by
  refine F.ok scGoal (fun vs H Q E h => ?_) (fun cdv A outer s H vs Q E hr h => ?_)
  · obtain ⟨_, _, _, _, rfl, _⟩ := h
    rfl
  · obtain ⟨a, x, y, p, rfl, hs, q⟩ := h
    refine ⟨_, pss_one (ps_ret (pe_ifExp (pt_cmpR op_eq (pe_ix ix_tup (pv 0) pe_int (fun _ _ => rfl)) (pv 1) (nomark _)) (pe_ix ix_tup (pv 0) pe_int (fun _ _ => rfl)) (pe_ix ix_tup (pv 0) pe_int (fun _ _ => rfl)))), ?_⟩
    refine ⟨.ref a, rfl, a, _, 0, .int (x : Nat), rfl, rfl, hs, rfl, _, rfl, rfl, _, rfl, ?_⟩
    by_cases h : x = p
    · rw [if_pos h] at q
      rw [decide_eq_true (show V.int (x : Nat) = V.int (p : Nat) by rw [h])]
      exact iteT ⟨.ref a, rfl, a, _, 1, .int (y : Nat), rfl, rfl, hs, rfl, q⟩
    · rw [if_neg h] at q
      rw [decide_eq_false (show ¬ V.int (x : Nat) = V.int (p : Nat) from fun z => h (by injection z with z; omega))]
      exact iteF ⟨.ref a, rfl, a, _, 0, .int (x : Nat), rfl, rfl, hs, rfl, q⟩
end
end Bh

namespace Bh
open PySem PySem.Spec PyProof.Rows L2
section
variable {P : Program} {w : World} {K : PySem.W.Frag} {mg : Str → Option Value} {base : Heap}
/-! ### first_tree -/
theorem scTree : FnScope ["web", "found", "homes", "number", "one", "other", "left", "right", "home"] ["web"] (defScope sTree) := ⟨rfl, rfl, rfl, by decide +kernel, rfl, by decide +kernel, by decide +kernel⟩
def spTree (K : PySem.W.Frag) : Sp := fun vs H Q _ => ∃ (wb : Addr) (n : Nat) (ts : Ties) (tp : Addr) (as : List Addr), vs = [.ref wb] ∧ Web K H wb n ts tp as ∧ WebOk n ts ∧
  ∀ (H' : Hp) (p : Addr) (F : List Nat), Same H H' → H' p = some (.lst (nv F)) → (∀ k ∈ F, k < ts.length) → F.length ≤ ts.length → (∀ k, k < ts.length → k ∉ F → Con ts F (tie ts k).1 (tie ts k).2) → Q (.ref p) H'
theorem ok_tree {f : Addr} {fd : FuncData} {k : Nat} (F : Fun K "first_tree" "first_tree" sTree f fd) (me : mg "enumerate" = none) (ml : mg "list" = none) (mr : mg "range" = none) : FnOk P w K mg base CX0 (k + 1) f fd ["web"] (spTree K) := by
  refine F.ok scTree (fun vs H Q E h => ?_) (fun cdv A outer s H vs Q E hr h => ?_)
  · obtain ⟨_, _, _, _, _, rfl, _⟩ := h
    rfl
  · obtain ⟨wb, n, ts, tp, as, rfl, W, wo, q⟩ := h
    refine ⟨_, pss_cons (ps_par (i := 1) (j := 2) rfl scTree.nd rfl rfl (by decide) rfl rfl (pa_cons (pe_lst pa_nil) (pa_cons (pe_listRg rfl (by rfl) ml (prg_1 (by rfl) mr (pe_ix ix_tup (pv 0) pe_int (fun _ _ => rfl)))) pa_nil)) (by rfl))
      (pss_cons (ps_for PassesOwn.never rfl (pi_enumT (by rfl) me (pa_cons (pe_ix ix_tup (pv 0) pe_int (fun _ _ => rfl)) pa_nil))
          (pg_tup rfl (pgs_cons (pg_name (i := 3) scTree.nd rfl (.inl rfl)) (pgs_cons (pg_tup rfl (pgs_cons (pg_name (i := 4) scTree.nd rfl (.inl rfl)) (pgs_cons (pg_name (i := 5) scTree.nd rfl (.inl rfl)) pgs_nil))) pgs_nil)))
          (pss_cons (ps_asg (pe_tup (pa_cons (pe_ix ix_list (pv 2) (pv 4) (fun _ _ => rfl)) (pa_cons (pe_ix ix_list (pv 2) (pv 5) (fun _ _ => rfl)) pa_nil)))
              (pg_tup rfl (pgs_cons (pg_name (i := 6) scTree.nd rfl (.inr rfl)) (pgs_cons (pg_name (i := 7) scTree.nd rfl (.inr rfl)) pgs_nil))))
          (pss_one (ps_if (pt_cmpR op_ne (pv 6) (pv 7) (nomark _))
            (pss_cons (ps_expr (pe_bm PySem.F.plainAttrs_list PySem.F.slot_list_append PySem.F.type_list_append mt_append (pv 1) (pa_cons (pv 3) pa_nil)))
            (pss_one (ps_setLc (i := 2) (own := [("home", 8)]) (g := gName 8) (tt := tYes) (te := tIf (tTest (tOp rEq (tVar 8) (tVar 7))) (tVar 6) (tVar 8)) (by rfl) scTree.nd rfl rfl (sw_true rfl rfl rfl (by decide +kernel)) (pi_list (pv 2))
              (blkOk_by (N := ["web", "found", "homes", "number", "one", "other", "left", "right", "home"]) (sc := defScope sTree) (by decide +kernel))
              (fun _ _ _ _ _ => pg_name (i := 8) scTree.nd rfl (.inl rfl)) (fun _ _ _ _ _ => pts_nil)
              (fun _ _ _ _ _ => pe_ifExp (pt_cmpR op_eq (pv 8) (pv 7) (nomark _)) (pv 6) (pv 8)))))
            pss_nil))))
      (pss_one (ps_ret (pv 1)))), ?_⟩
    have hn8 := wo.small
    have few := wo.few
    -- found, homes = ([], list(range(web[0])))
    refine ⟨Nat.zero_le _, fun fd hfd => ?_⟩
    have s1 : Same H (upd H fd (.lst [])) := same_new hfd
    refine ⟨.ref wb, rfl, wb, _, 0, .int (n : Nat), rfl, rfl, Same.seqT s1 W.top, rfl, (n : Nat), rfl, RgOk.of_le (by omega) (by omega) (by omega) (by omega), fun hm hhm => ⟨_, _, rfl, ?_⟩⟩
    rw [rg_gm]
    have s2 := s1.trans (same_new (o := .lst (gm (ni fun p => p) n)) hhm)
    have hne : hm ≠ fd := fun z => by rw [z, upd_same] at hhm; cases hhm
    have hlen : (as.map V.ref).length = ts.length := by rw [List.length_map, W.len]
    have wk := walk_enumT (K := K) (a := tp) (xs := as.map V.ref)
    rw [hlen] at wk
    refine ⟨.ref wb, rfl, wb, _, 1, .ref tp, rfl, rfl, Same.seqT s2 W.top, rfl, tp, _, rfl, Same.seqT s2 W.ties, ?_⟩
    refine for_it wk (fun i σ H1 => ∃ (F : List Nat) (h : Nat → Nat) (hm : Addr) (y3 y4 y5 y6 y7 y8 : Option V), σ = [some (.ref wb), some (.ref fd), some (.ref hm), y3, y4, y5, y6, y7, y8] ∧ Same H H1 ∧ H1 fd = some (.lst (nv F)) ∧
        H1 hm = some (.lst (gm (ni h) n)) ∧ hm ≠ fd ∧ Tr ts i F h)
      ⟨[], fun p => p, hm, none, none, none, none, none, none, rfl, s2, by rw [upd_ne hne.symm, upd_same]; rfl, upd_same, hne, Tr.init ts⟩ (fun i σ H3 _ ⟨_, _, _, _, _, _, _, _, _, _, s3, _⟩ => Same.seqT s3 W.ties) (fun i v σ H3 H4 hi hP y => ?_) ?_
    · obtain ⟨F, h, hm, y3, y4, y5, y6, y7, y8, rfl, s3, e1, e2, hne, tr⟩ := hP
      refine g_pair (W.same s3) hi y fun s4 => ?_
      have s34 := s3.trans s4
      have o1 := wo.one hi
      have o2 := wo.two hi
      have g1 := s4 _ _ e1
      have g2 := s4 _ _ e2
      -- left, right = (homes[one], homes[other])
      refine ⟨.ref hm, rfl, _, rfl, hm, _, _, _, rfl, rfl, SqL.of g2, gm_at _ o1, .ref hm, rfl, _, rfl, hm, _, _, _, rfl, rfl, SqL.of g2, gm_at _ o2, by show 2 ≤ sizeLine; decide, fun t ht => ?_⟩
      have s5 : Same H (upd H4 t (.tup [ni h (tie ts i).1, ni h (tie ts i).2])) := same_own s34 (s34.free ht)
      have g1' : (upd H4 t (.tup [ni h (tie ts i).1, ni h (tie ts i).2])) fd = some (.lst (nv F)) := by rw [upd_ne (ne_of_none g1 ht)]; exact g1
      have g2' : (upd H4 t (.tup [ni h (tie ts i).1, ni h (tie ts i).2])) hm = some (.lst (gm (ni h) n)) := by rw [upd_ne (ne_of_none g2 ht)]; exact g2
      refine ⟨t, _, rfl, SqT.of upd_same, rfl, _, _, rfl, _, _, rfl, rfl, ?_⟩
      revert s5 g1' g2'
      generalize upd H4 t (.tup [ni h (tie ts i).1, ni h (tie ts i).2]) = H5
      intro s5 g1' g2'
      -- if left != right
      refine ⟨_, rfl, _, rfl, rfl, _, rfl, ?_⟩
      rw [eq_nat]
      by_cases heq : h (tie ts i).1 = h (tie ts i).2
      · rw [decide_eq_true heq]
        refine iteF ?_
        exact ⟨F, h, hm, _, _, _, _, _, _, rfl, s5, g1', g2', hne, tr.skip heq⟩
      · rw [decide_eq_false heq]
        refine iteT ?_
        refine ⟨.ref fd, rfl, .inl ⟨rfl, _, SqL.of g1'⟩, _, rfl, fd, _, _, rfl, rfl, g1', ?_, ?_⟩
        · rw [nv_len]
          exact small1000 (by have := tr.len; omega)
        · rw [nv_snoc]
          have s6 : Same H (upd H5 fd (.lst (nv (F ++ [i])))) := same_own s5 hfd
          have g3 : (upd H5 fd (.lst (nv (F ++ [i])))) hm = some (.lst (gm (ni h) n)) := by rw [upd_ne hne]; exact g2'
          have g4 : (upd H5 fd (.lst (nv (F ++ [i])))) fd = some (.lst (nv (F ++ [i]))) := upd_same
          revert s6 g3 g4
          generalize upd H5 fd (.lst (nv (F ++ [i]))) = H6
          intro s6 g3 g4
          -- homes = [left if home == right else home for home in homes]
          refine ⟨.ref hm, rfl, hm, rfl, ⟨_, SqL.of g3⟩, fun D hD => ?_⟩
          have wl := walk_list (K := K) (a := hm) (xs := gm (ni h) n)
          rw [gm_len] at wl
          refine lc_it wl (fun j H7 => Same H6 H7 ∧ H7 D = some (.lst (gm (ni fun p => if h p = h (tie ts i).2 then h (tie ts i).1 else h p) j))) ⟨same_new hD, upd_same⟩ (fun j H7 _ p => SqL.of (p.1 _ _ g3)) (fun j x H7 H8 hj p y => ?_) fun H7 p => ?_
          · obtain ⟨rfl, ex⟩ := y
            obtain rfl : ni h j = x := Option.some.inj ((gm_get _ hj).symm.trans ex)
            refine ⟨rfl, ?_⟩
            unfold tYes
            dsimp only
            rw [if_pos rfl]
            refine ⟨_, rfl, _, rfl, rfl, _, rfl, ?_⟩
            rw [eq_nat]
            have fin : ∀ z : Nat, z = (if h j = h (tie ts i).2 then h (tie ts i).1 else h j) → ∃ acc, H8 D = some (.lst acc) ∧ acc.length < sizeLine ∧ (Same H6 (upd H8 D (.lst (acc ++ [V.int (z : Nat)]))) ∧ (upd H8 D (.lst (acc ++ [V.int (z : Nat)]))) D = some (.lst (gm (ni fun p => if h p = h (tie ts i).2 then h (tie ts i).1 else h p) (j + 1)))) := by
              intro z ez
              refine ⟨_, p.2, ?_, same_own p.1 hD, ?_⟩
              · rw [gm_len]
                exact small1000 (by omega)
              · rw [upd_same, gm_succ, ez]
            by_cases hz : h j = h (tie ts i).2
            · rw [decide_eq_true hz]
              refine iteT ⟨_, rfl, ?_⟩
              exact fin _ (if_pos hz).symm
            · rw [decide_eq_false hz]
              refine iteF ⟨_, rfl, ?_⟩
              exact fin _ (if_neg hz).symm
          · refine ⟨F ++ [i], _, D, _, _, _, _, _, _, rfl, s6.trans p.1, p.1 _ _ g4, p.2, (ne_of_none g4 hD).symm, tr.take⟩
    · rintro σ H1 ⟨F, h, hm, y3, y4, y5, y6, y7, y8, rfl, s3, e1, e2, hne, tr⟩
      exact ⟨.ref fd, rfl, q H1 fd F s3 e1 tr.lt tr.len tr.out⟩
end
end Bh

namespace Bh
open PySem PySem.Spec PyProof.Rows L2
/-- the dict of ways -/
structure Known (H : Hp) (wt : Addr) (kvs : List (Key × V)) (a : Wy) (n : Nat) : Prop where
  no : ∀ x, x < n → a x = none → valV kvs (Sum.inl (x : Nat)) = none
  yes : ∀ x l, x < n → a x = some l → ∃ q, valV kvs (Sum.inl (x : Nat)) = some (.ref q) ∧ q ≠ wt ∧ H q = some (.lst (nv l))
  len : kvs.length + nw a n ≤ n
theorem Known.is {H : Hp} {wt : Addr} {kvs : List (Key × V)} {a : Wy} {n x : Nat} (k : Known H wt kvs a n) (hx : x < n) : (valV kvs (Sum.inl (x : Nat))).isSome = (a x).isSome := by
  cases h : a x with
  | none => rw [k.no x hx h]; rfl
  | some l =>
    obtain ⟨q, e, _⟩ := k.yes x l hx h
    rw [e]
    rfl
theorem Known.move {H H' : Hp} {wt : Addr} {kvs : List (Key × V)} {a : Wy} {n : Nat} (k : Known H wt kvs a n) (h : ∀ q l, q ≠ wt → H q = some (.lst (nv l)) → H' q = some (.lst (nv l))) : Known H' wt kvs a n :=
  ⟨k.no, fun x l hx e => let ⟨q, e1, e2, e3⟩ := k.yes x l hx e; ⟨q, e1, e2, h q l e2 e3⟩, k.len⟩
theorem Known.put {H : Hp} {wt q : Addr} {kvs : List (Key × V)} {a : Wy} {n g : Nat} {l : List Nat} (k : Known H wt kvs a n) (hg : g < n) (hn : a g = none) (hq : q ≠ wt) (e : H q = some (.lst (nv l))) : Known H wt (putK kvs (Sum.inl (g : Nat)) (.ref q)) (putW a g l) n where
  no := fun x hx h => by
    by_cases ex : x = g
    · subst ex
      rw [putW_same] at h
      cases h
    · rw [putW_ne _ _ ex] at h
      rw [valV_put, if_neg (fun z => ex (by injection z with z; omega))]
      exact k.no x hx h
  yes := fun x m hx h => by
    by_cases ex : x = g
    · subst ex
      rw [putW_same] at h
      obtain rfl := Option.some.inj h
      exact ⟨q, by rw [valV_put, if_pos rfl], hq, e⟩
    · rw [putW_ne _ _ ex] at h
      rw [valV_put, if_neg (fun z => ex (by injection z with z; omega))]
      exact k.yes x m hx h
  len := by
    have z := nw_put a l hn hg
    have e2 : (putK kvs (Sum.inl (g : Nat)) (V.ref q)).length = kvs.length + 1 := by
      rw [putK_new _ (k.no g hg hn), List.length_append]
      rfl
    have := k.len
    omega
section
variable {P : Program} {w : World} {K : PySem.W.Frag} {mg : Str → Option Value} {base : Heap}
/-! ### way_in_tree -/
theorem scWay : FnScope ["web", "tree", "one", "other", "known", "waiting", "place", "tie", "goal"] ["web", "tree", "one", "other"] (defScope sWay) := ⟨rfl, rfl, rfl, by decide +kernel, rfl, by decide +kernel, by decide +kernel⟩
def spWay (K : PySem.W.Frag) : Sp := fun vs H Q _ => ∃ (wb tr : Addr) (n : Nat) (ts : Ties) (tp : Addr) (as : List Addr) (F : List Nat) (o u : Nat), vs = [.ref wb, .ref tr, .int (o : Nat), .int (u : Nat)] ∧ Web K H wb n ts tp as ∧ WebOk n ts ∧ SqL K H tr (nv F) ∧ (∀ k ∈ F, k < ts.length) ∧
  o < n ∧ u < n ∧ Con ts F o u ∧ ∀ (H' : Hp) (p : Addr) (l : List Nat), Same H H' → H' p = some (.lst (nv l)) → (∀ c, odd ts c l = (c o != c u)) → l.length ≤ n → Q (.ref p) H'
def YIn (H0 : Hp) (wb tr kd wt : Addr) (o u n : Nat) (ts : Ties) (F : List Nat) (p m : Nat) : Nat → St → Hp → Prop := fun i σ H => ∃ a ws kvs y7 y8, σ = [some (.ref wb), some (.ref tr), some (.int (o : Nat)), some (.int (u : Nat)), some (.ref kd), some (.ref wt), some (.int (p : Nat)), y7, y8] ∧ Same H0 H ∧
  H kd = some (.dK kvs) ∧ H wt = some (.lst (nv ws)) ∧ Known H wt kvs a n ∧ WaysIn n ts F o p i a ws ∧ nw a n + ws.length + 1 ≤ m
def YOut (H0 : Hp) (wb tr kd wt : Addr) (o u n : Nat) (ts : Ties) (F : List Nat) : Nat → St → Hp → Prop := fun m σ H => ∃ a ws kvs y6 y7 y8, σ = [some (.ref wb), some (.ref tr), some (.int (o : Nat)), some (.int (u : Nat)), some (.ref kd), some (.ref wt), y6, y7, y8] ∧ Same H0 H ∧
  H kd = some (.dK kvs) ∧ H wt = some (.lst (nv ws)) ∧ Known H wt kvs a n ∧ Ways n ts F o a ws ∧ nw a n + ws.length ≤ m ∧ m ≤ 100
theorem ok_way {f fG : Addr} {fd fdG : FuncData} (F : Fun K "way_in_tree" "way_in_tree" sWay f fd) (FG : Fun K "goal_of" "goal_of" sGoal fG fdG) (bG : L2.Binds K fdG ["pair", "place"] []) (gG : mg "goal_of" = some (.ref fG)) :
    FnOk P w K mg base CX0 2 f fd ["web", "tree", "one", "other"] (spWay K) := by
  have GG : FnOk P w K mg base CX0 1 fG fdG ["pair", "place"] (spGoal K) := ok_goal FG
  refine F.ok scWay (fun vs H Q E h => ?_) (fun cdv A outer s H vs Q E hr h => ?_)
  · obtain ⟨_, _, _, _, _, _, _, _, _, rfl, _⟩ := h
    rfl
  · obtain ⟨wb, tr, n, ts, tp, as, F, o, u, rfl, W, wo, hF, hFl, ho, hu', con, q⟩ := h
    have hu := hu_of hr
    refine ⟨_, pss_cons (ps_par (i := 4) (j := 5) rfl scWay.nd rfl rfl (by decide) rfl rfl (pa_cons (pe_disp (pps_cons (pv 2) (pe_lst pa_nil) pps_nil) (by rfl) (by rfl) (fun z => by cases z) (by decide)) (pa_cons (pe_lst (pa_cons (pv 2) pa_nil)) pa_nil)) (by rfl))
      (pss_cons (ps_while PassesOwn.never (pt_cmp (pc_dnotin hu (pv 3) (pv 4)))
        (pss_cons (ps_set (i := 6) scWay.nd rfl (.inl rfl) (pe_bm0 PySem.F.plainAttrs_list PySem.F.slot_list_pop PySem.F.type_list_pop mt_pop (pv 5)))
        (pss_one (ps_for PassesOwn.never rfl (pi_list (pv 1)) (pg_name (i := 7) scWay.nd rfl (.inl rfl))
          (pss_one (ps_if (pt_cmpR op_in_seq (pv 6) (pe_ix ix_tup (pe_ix ix_tup (pv 0) pe_int (fun _ _ => rfl)) (pv 7) (fun _ _ => rfl)) (by rfl))
            (pss_cons (ps_set (i := 8) scWay.nd rfl (.inl rfl) (pe_call GG hr (by rfl) gG FG.kp bG .nil pass0 (pa_cons (pe_ix ix_tup (pe_ix ix_tup (pv 0) pe_int (fun _ _ => rfl)) (pv 7) (fun _ _ => rfl)) (pa_cons (pv 6) pa_nil))))
            (pss_one (ps_if (pt_cmp (pc_dnotin hu (pv 8) (pv 4)))
              (pss_cons (ps_dput hu (pv 4) (pv 8) (pe_lst (StX.pa_star (pe_dget hu (pv 4) (pv 6) (fun _ _ => rfl)) (pa_cons (pv 7) pa_nil))) rfl)
              (pss_one (ps_expr (pe_bm PySem.F.plainAttrs_list PySem.F.slot_list_append PySem.F.type_list_append mt_append (pv 5) (pa_cons (pv 8) pa_nil)))))
              pss_nil)))
            pss_nil))))))
      (pss_one (ps_ret (pe_dget hu (pv 4) (pv 3) (fun _ _ => rfl))))), ?_⟩
    have hn8 := wo.small
    -- known, waiting = ({one: []}, [one])
    refine fun kd hkd => ?_
    refine ⟨_, rfl, Nat.zero_le _, fun l0 hl0 => ?_⟩
    have nl0 : l0 ≠ kd := fun z => by rw [z, upd_same] at hl0; cases hl0
    refine ⟨by rw [upd_ne nl0.symm]; exact upd_same, [(Sum.inl (o : Nat), .ref l0)], rfl, by show 1 ≤ 15; decide, ?_⟩
    have s1 : Same H (upd H kd (.dK [])) := same_new hkd
    have s2 := s1.trans (same_new (o := .lst []) hl0)
    have s3 : Same H (upd (upd (upd H kd (.dK [])) l0 (.lst [])) kd (.dK (mergeK [] [(Sum.inl (o : Nat), V.ref l0)]))) := same_own s2 hkd
    have el : (upd (upd (upd H kd (.dK [])) l0 (.lst [])) kd (.dK (mergeK [] [(Sum.inl (o : Nat), V.ref l0)]))) l0 = some (.lst (nv [])) := by rw [upd_ne nl0, upd_same]; rfl
    have ek : (upd (upd (upd H kd (.dK [])) l0 (.lst [])) kd (.dK (mergeK [] [(Sum.inl (o : Nat), V.ref l0)]))) kd = some (.dK [(Sum.inl (o : Nat), V.ref l0)]) := upd_same
    revert s3 el ek
    generalize upd (upd (upd H kd (.dK [])) l0 (.lst [])) kd (.dK (mergeK [] [(Sum.inl (o : Nat), V.ref l0)])) = H1
    intro s3 el ek
    refine ⟨_, rfl, by show 1 ≤ sizeLine; decide, fun wt hwt => ⟨_, _, rfl, ?_⟩⟩
    have fwt : H wt = none := s3.free hwt
    have s4 : Same H (upd H1 wt (.lst [.int (o : Nat)])) := same_own s3 fwt
    have nlw : l0 ≠ wt := ne_of_none el hwt
    have nkw : kd ≠ wt := ne_of_none ek hwt
    have el4 : (upd H1 wt (.lst [.int (o : Nat)])) l0 = some (.lst (nv [])) := by rw [upd_ne nlw]; exact el
    have ek4 : (upd H1 wt (.lst [.int (o : Nat)])) kd = some (.dK [(Sum.inl (o : Nat), V.ref l0)]) := by rw [upd_ne nkw]; exact ek
    have kn0 : Known (upd H1 wt (.lst [.int (o : Nat)])) wt [(Sum.inl (o : Nat), V.ref l0)] (way0 o) n := by
      refine ⟨fun x hx h => ?_, fun x l hx h => ?_, ?_⟩
      · by_cases ex : x = o
        · subst ex
          unfold way0 at h
          rw [putW_same] at h
          cases h
        · exact valV_neg fun z => ex (by
            have z' : (Sum.inl ((o : Nat) : Int) : Key) = Sum.inl ((x : Nat) : Int) := z
            injection z' with z'
            omega)
      · by_cases ex : x = o
        · subst ex
          unfold way0 at h
          rw [putW_same] at h
          obtain rfl := Option.some.inj h
          exact ⟨l0, valV_pos rfl, nlw, el4⟩
        · unfold way0 at h
          rw [putW_ne _ _ ex] at h
          cases h
      · have := nw_way0 ho
        show 1 + nw (way0 o) n ≤ n
        omega
    -- while other not in known
    refine ⟨YOut H wb tr kd wt o u n ts F, ⟨n, way0 o, [o], _, none, none, none, rfl, s4, ek4, upd_same, kn0, Ways.init ho, ?_, by omega⟩, ?_⟩
    · have := nw_way0 ho
      show nw (way0 o) n + 1 ≤ n
      omega
    rintro m σ H2 ⟨a, ws, kvs, y6, y7, y8, rfl, sm, e1, e2, kn, D, hm, hm2⟩
    refine ⟨_, rfl, _, rfl, kd, _, rfl, DGet.k (k := Sum.inl (u : Nat)) e1, _, rfl, ?_⟩
    rw [kn.is hu']
    cases hau : a u with
    | some l =>
      refine iteF ?_
      obtain ⟨qa, v1, v2, v3⟩ := kn.yes u l hu' hau
      obtain ⟨o1, o2⟩ := D.ok u l hau
      refine ⟨.ref kd, rfl, _, rfl, kd, .ref qa, rfl, ?_, q H2 qa l sm v3 o1 (by omega)⟩
      have g := DGet.k (k := Sum.inl (u : Nat)) e1
      rw [v1] at g
      exact g
    | none =>
      refine iteT ?_
      by_cases hws : ws = []
      · subst hws
        exact absurd hau (D.all con)
      obtain ⟨ws', p, rfl⟩ : ∃ ws' p, ws = ws' ++ [p] := ⟨ws.dropLast, ws.getLast hws, (List.dropLast_concat_getLast hws).symm⟩
      rw [List.length_append] at hm
      have hm' : nw a n + ws'.length + 1 ≤ m := by
        have : [p].length = 1 := rfl
        omega
      refine ⟨YIn H wb tr kd wt o u n ts F p m F.length, ?_, ?_⟩
      · rintro σ' H' ⟨a', ws2, kv2, z7, z8, rfl, s', g1, g2, k', D', hm3⟩
        exact ⟨m - 1, by omega, a', ws2, kv2, _, z7, z8, rfl, s', g1, g2, k', D'.done, by omega, by omega⟩
      -- place = waiting.pop()
      have hlast : (nv (ws' ++ [p]))[(nv (ws' ++ [p])).length - 1]? = some (.int (p : Nat)) := by
        rw [nv_len, List.length_append]
        show (nv (ws' ++ [p]))[ws'.length + 1 - 1]? = _
        refine nv_get ?_
        simp
      have hdrop : (nv (ws' ++ [p])).dropLast = nv ws' := by
        rw [← nv_snoc]
        exact List.dropLast_concat
      refine ⟨.ref wt, rfl, .inl ⟨rfl, _, SqL.of e2⟩, wt, _, _, rfl, rfl, e2, hlast, ?_⟩
      rw [hdrop]
      have sm2 : Same H (upd H2 wt (.lst (nv ws'))) := same_own sm fwt
      have wl := walk_list (K := K) (a := tr) (xs := nv F)
      rw [nv_len] at wl
      refine ⟨.ref tr, rfl, tr, rfl, ⟨_, sm2.seq hF⟩, ?_⟩
      refine for_it wl (YIn H wb tr kd wt o u n ts F p m) ⟨a, ws', kvs, y7, y8, rfl, sm2, by rw [upd_ne nkw]; exact e1, upd_same, kn.move (fun q l hq e => by rw [upd_ne hq]; exact e), D.pop, hm'⟩ (fun i σ H3 _ ⟨_, _, _, _, _, _, s3, _⟩ => s3.seq hF) (fun i v σ H3 H4 hi hP y => ?_) (fun σ H3 hP => hP)
      obtain ⟨a, ws, kvs, z7, z8, rfl, s3, g1, g2, kn, D3, hm3⟩ := hP
      obtain ⟨rfl, ey⟩ := y
      obtain ⟨t, ht, rfl⟩ := nv_of ey
      have htl : t < ts.length := hFl t (List.mem_of_getElem? ht)
      obtain ⟨ta, ea, sa⟩ := W.at htl
      have sa4 := Same.seqT s3 sa
      have o1 := wo.one htl
      have o2 := wo.two htl
      have one_ne := wo.ne htl
      have hp := D3.pv
      -- if place in web[1][tie]
      refine ⟨_, rfl, .ref wb, rfl, wb, _, 1, .ref tp, rfl, rfl, Same.seqT s3 W.top, rfl, _, rfl, tp, _, (t : Nat), .ref ta, rfl, rfl, Same.seqT s3 W.ties, atI_nat ea, ta, _, rfl, .inr sa4, rfl, rfl, _, rfl, ?_⟩
      rw [if_neg Bool.false_ne_true]
      have ein : inV (.int (p : Nat)) [.int ((tie ts t).1 : Nat), .int ((tie ts t).2 : Nat)] = decide (p ∈ [(tie ts t).1, (tie ts t).2]) := inV_nv p [(tie ts t).1, (tie ts t).2]
      rw [ein]
      by_cases hin : p ∈ [(tie ts t).1, (tie ts t).2]
      · rw [decide_eq_true hin]
        refine iteT ?_
        -- goal = goal_of(web[1][tie], place)
        refine ⟨.ref wb, rfl, wb, _, 1, .ref tp, rfl, rfl, Same.seqT s3 W.top, rfl, _, rfl, tp, _, (t : Nat), .ref ta, rfl, rfl, Same.seqT s3 W.ties, atI_nat ea, _, rfl, ta, (tie ts t).1, (tie ts t).2, p, rfl, sa4, ?_⟩
        obtain ⟨g, eg, hg, eg2⟩ : ∃ g, g = (if (tie ts t).1 = p then (tie ts t).2 else (tie ts t).1) ∧ g < n ∧ (((tie ts t).1 = p ∧ (tie ts t).2 = g) ∨ ((tie ts t).2 = p ∧ (tie ts t).1 = g)) := by
          by_cases h1 : (tie ts t).1 = p
          · exact ⟨_, rfl, by rw [if_pos h1]; exact o2, .inl ⟨h1, by rw [if_pos h1]⟩⟩
          · have h2 : (tie ts t).2 = p := by
              rcases List.mem_cons.mp hin with z | z
              · exact absurd z.symm h1
              · exact (List.mem_singleton.mp z).symm
            exact ⟨_, rfl, by rw [if_neg h1]; exact o1, .inr ⟨h2, by rw [if_neg h1]⟩⟩
        rw [← eg]
        -- if goal not in known
        refine ⟨_, rfl, _, rfl, kd, _, rfl, DGet.k (k := Sum.inl (g : Nat)) g1, _, rfl, ?_⟩
        rw [kn.is hg]
        cases hag : a g with
        | some lg =>
          refine iteF ?_
          refine ⟨a, ws, kvs, _, _, rfl, s3, g1, g2, kn, D3.skip ht ?_, hm3⟩
          have some_g : a g ≠ none := by rw [hag]; exact fun z => nomatch z
          rcases eg2 with ⟨a1, a2⟩ | ⟨a1, a2⟩
          · refine ⟨fun _ => by rw [a2]; exact some_g, fun z => ?_⟩
            exact absurd (a1.trans z.symm) one_ne
          · refine ⟨fun z => ?_, fun _ => by rw [a2]; exact some_g⟩
            exact absurd (z.trans a1.symm) one_ne
        | none =>
          refine iteT ?_
          obtain ⟨lp, hlp⟩ : ∃ lp, a p = some lp := by
            cases e : a p with
            | none => exact absurd e hp.2
            | some b => exact ⟨b, rfl⟩
          obtain ⟨qp, v1, v2, v3⟩ := kn.yes p lp hp.1 hlp
          have gp := DGet.k (k := Sum.inl (p : Nat)) g1
          rw [v1] at gp
          obtain ⟨_, oklen⟩ := D3.ok p lp hlp
          -- known[goal] = [*known[place], tie]
          refine ⟨.ref kd, rfl, _, rfl, kd, .ref qp, rfl, gp, qp, _, rfl, .inr (SqL.of v3), _, rfl, ?_, fun q2 hq2 => ?_⟩
          · rw [List.length_append, nv_len]
            exact cut_small (by show lp.length + 1 ≤ 1000; omega)
          rw [nv_snoc]
          have s5 : Same H (upd H4 q2 (.lst (nv (lp ++ [t])))) := same_own s3 (s3.free hq2)
          have nq2w : q2 ≠ wt := (ne_of_none g2 hq2).symm
          have nq2k : kd ≠ q2 := ne_of_none g1 hq2
          refine ⟨.ref kd, rfl, _, rfl, kd, _, rfl, DPut.k (k := Sum.inl (g : Nat)) (by rw [upd_ne nq2k]; exact g1) (small1000 (by have := kn.len; omega)), ?_⟩
          have kn5 : Known (upd H4 q2 (.lst (nv (lp ++ [t])))) wt kvs a n := kn.move fun q l hq e => by
            rw [upd_ne (ne_of_none e hq2)]
            exact e
          have kn6 := kn5.put (l := lp ++ [t]) hg hag nq2w upd_same
          have g2' : (upd (upd H4 q2 (.lst (nv (lp ++ [t])))) kd (.dK (putK kvs (Sum.inl (g : Nat)) (.ref q2)))) wt = some (.lst (nv ws)) := by
            rw [upd_ne nkw.symm, upd_ne nq2w.symm]
            exact g2
          refine ⟨.ref wt, rfl, .inl ⟨rfl, _, SqL.of g2'⟩, _, rfl, wt, _, _, rfl, rfl, g2', ?_, ?_⟩
          · rw [nv_len]
            exact small1000 (by omega)
          · rw [nv_snoc]
            refine ⟨_, ws ++ [g], _, _, _, rfl, same_own (same_own s5 hkd) fwt, by rw [upd_ne nkw, upd_same], upd_same, kn6.move fun q l hq e => ?_, D3.add ht hg hag hlp eg2, ?_⟩
            · have nqk : q ≠ kd := fun z => by
                rw [z, upd_ne nq2k, g1] at e
                cases e
              rw [upd_ne hq, upd_ne nqk]
              exact e
            · have z := nw_put a (lp ++ [t]) hag hg
              rw [List.length_append]
              have : [g].length = 1 := rfl
              omega
      · rw [decide_eq_false hin]
        refine iteF ?_
        have n1 : (tie ts t).1 ≠ p := fun z => hin (by rw [z]; simp)
        have n2 : (tie ts t).2 ≠ p := fun z => hin (by rw [z]; simp)
        exact ⟨a, ws, kvs, _, _, rfl, s3, g1, g2, kn, D3.skip ht ⟨fun z => absurd z n1, fun z => absurd z n2⟩, hm3⟩
end
end Bh

namespace Bh
open PySem PySem.Spec PyProof.Rows L2
abbrev ci (l : List Nat) : List Int := List.map (fun k : Nat => (k : Int)) l
theorem nv_ci (l : List Nat) : nv l = (ci l).map V.int := by
  show _ = (List.map (fun k : Nat => (k : Int)) l).map V.int
  rw [List.map_map]
  rfl
theorem perm_ci {l : List Nat} {ns : List Int} (h : ns.Perm (ci l)) : ∃ r, ns = ci r ∧ r.Perm l := by
  refine ⟨ns.map Int.toNat, ?_, ?_⟩
  · show ns = (ns.map Int.toNat).map (fun k : Nat => (k : Int))
    rw [List.map_map]
    have e : ns.map ((fun k : Nat => (k : Int)) ∘ Int.toNat) = ns.map id := List.map_congr_left fun z hz => by
      obtain ⟨k, _, rfl⟩ := List.mem_map.mp (h.mem_iff.mp hz)
      rfl
    rw [e, List.map_id]
  · have q := h.map Int.toNat
    rw [List.map_map] at q
    have e : l.map (Int.toNat ∘ fun k : Nat => (k : Int)) = l.map id := List.map_congr_left fun k _ => rfl
    rw [e, List.map_id] at q
    exact q
section
variable {P : Program} {w : World} {K : PySem.W.Frag} {mg : Str → Option Value} {base : Heap}
/-! ### tree_rounds -/
theorem scRounds : FnScope ["web", "tree", "found", "number", "one", "other"] ["web"] (defScope sRounds) := ⟨rfl, rfl, rfl, by decide +kernel, rfl, by decide +kernel, by decide +kernel⟩
def IsRound (K : PySem.W.Frag) (H : Hp) (ts : Ties) (b : Addr) : Prop := ∃ r, NT K H b r ∧ (∀ c, odd ts c r = false) ∧ r.length ≤ 100
theorem IsRound.same {H H' : Hp} {ts : Ties} {b : Addr} (h : IsRound K H ts b) (s : Same H H') : IsRound K H' ts b := let ⟨r, a, b, c⟩ := h; ⟨r, Same.seqT s a, b, c⟩
def spRounds (K : PySem.W.Frag) : Sp := fun vs H Q _ => ∃ (wb : Addr) (n : Nat) (ts : Ties) (tp : Addr) (as : List Addr), vs = [.ref wb] ∧ Web K H wb n ts tp as ∧ WebOk n ts ∧
  ∀ (H' : Hp) (p : Addr) (bs : List Addr), Same H H' → H' p = some (.tup (bs.map V.ref)) → (∀ b ∈ bs, IsRound K H' ts b) → Q (.ref p) H'
theorem ok_rounds {f fT fW fG : Addr} {fd fdT fdW fdG : FuncData} (F : Fun K "tree_rounds" "tree_rounds" sRounds f fd) (FT : Fun K "first_tree" "first_tree" sTree fT fdT) (bT : L2.Binds K fdT ["web"] []) (gT : mg "first_tree" = some (.ref fT))
    (FW : Fun K "way_in_tree" "way_in_tree" sWay fW fdW) (bW : L2.Binds K fdW ["web", "tree", "one", "other"] []) (gW : mg "way_in_tree" = some (.ref fW))
    (FG : Fun K "goal_of" "goal_of" sGoal fG fdG) (bG : L2.Binds K fdG ["pair", "place"] []) (gG : mg "goal_of" = some (.ref fG))
    (me : mg "enumerate" = none) (ml : mg "list" = none) (mr : mg "range" = none) (mt : mg "tuple" = none) (ms : mg "sorted" = none) : FnOk P w K mg base CX0 3 f fd ["web"] (spRounds K) := by
  have GT : FnOk P w K mg base CX0 1 fT fdT ["web"] (spTree K) := ok_tree FT me ml mr
  have GW : FnOk P w K mg base CX0 2 fW fdW ["web", "tree", "one", "other"] (spWay K) := ok_way FW FG bG gG
  refine F.ok scRounds (fun vs H Q E h => ?_) (fun cdv A outer s H vs Q E hr h => ?_)
  · obtain ⟨_, _, _, _, _, rfl, _⟩ := h
    rfl
  · obtain ⟨wb, n, ts, tp, as, rfl, W, wo, q⟩ := h
    refine ⟨_, pss_cons (ps_par (i := 1) (j := 2) rfl scRounds.nd rfl rfl (by decide) rfl rfl (pa_cons (pe_call GT (hr.mono (by decide)) (by rfl) gT FT.kp bT .nil pass0 (pa_cons (pv 0) pa_nil)) (pa_cons (pe_lst pa_nil) pa_nil)) (by rfl))
      (pss_cons (ps_for PassesOwn.never rfl (pi_enumT (by rfl) me (pa_cons (pe_ix ix_tup (pv 0) pe_int (fun _ _ => rfl)) pa_nil))
          (pg_tup rfl (pgs_cons (pg_name (i := 3) scRounds.nd rfl (.inl rfl)) (pgs_cons (pg_tup rfl (pgs_cons (pg_name (i := 4) scRounds.nd rfl (.inl rfl)) (pgs_cons (pg_name (i := 5) scRounds.nd rfl (.inl rfl)) pgs_nil))) pgs_nil)))
          (pss_one (ps_if (pt_cmpR op_notIn_seq (pv 3) (pv 1) (by rfl))
            (pss_one (ps_expr (pe_bm PySem.F.plainAttrs_list PySem.F.slot_list_append PySem.F.type_list_append mt_append (pv 2) (pa_cons
              (pe_callTy call_tuple_of (by rfl) mt (by decide +kernel) (pa_cons (pe_callB cr_sorted (by rfl) ms (by decide +kernel) (pa_cons
                (pe_lst (pa_cons (pv 3) (StX.pa_star (pe_call GW hr (by rfl) gW FW.kp bW .nil pass0 (pa_cons (pv 0) (pa_cons (pv 1) (pa_cons (pv 4) (pa_cons (pv 5) pa_nil))))) pa_nil))) pa_nil)) pa_nil)) pa_nil))))
            pss_nil)))
      (pss_one (ps_ret (pe_callTy call_tuple_of (by rfl) mt (by decide +kernel) (pa_cons (pv 2) pa_nil))))), ?_⟩
    have hn8 := wo.small
    have few := wo.few
    refine ⟨.ref wb, rfl, wb, n, ts, tp, as, rfl, W, wo, fun H1 tr F s1 eF Flt Flen out => ?_⟩
    refine ⟨Nat.zero_le _, fun fd hfd => ⟨_, _, rfl, ?_⟩⟩
    have ffd : H fd = none := s1.free hfd
    have nef : tr ≠ fd := ne_of_none eF hfd
    have s2 : Same H (upd H1 fd (.lst [])) := s1.trans (same_new hfd)
    have hlen : (as.map V.ref).length = ts.length := by rw [List.length_map, W.len]
    have wk := walk_enumT (K := K) (a := tp) (xs := as.map V.ref)
    rw [hlen] at wk
    refine ⟨.ref wb, rfl, wb, _, 1, .ref tp, rfl, rfl, Same.seqT s2 W.top, rfl, tp, _, rfl, Same.seqT s2 W.ties, ?_⟩
    refine for_it wk (fun i σ H3 => ∃ (bs : List Addr) (y3 y4 y5 : Option V), σ = [some (.ref wb), some (.ref tr), some (.ref fd), y3, y4, y5] ∧ Same H H3 ∧ H3 tr = some (.lst (nv F)) ∧ H3 fd = some (.lst (bs.map V.ref)) ∧ bs.length ≤ i ∧ ∀ b ∈ bs, IsRound K H3 ts b)
      ⟨[], none, none, none, rfl, s2, by rw [upd_ne nef]; exact eF, upd_same, Nat.le_refl _, fun b hb => (by cases hb)⟩ (fun i σ H3 _ ⟨_, _, _, _, _, s3, _⟩ => Same.seqT s3 W.ties) (fun i v σ H3 H4 hi hP y => ?_) ?_
    · obtain ⟨bs, y3, y4, y5, rfl, s3, e1, e2, hl, rd⟩ := hP
      refine g_pair (W.same s3) hi y fun s4 => ?_
      have s34 := s3.trans s4
      have g1 := s4 _ _ e1
      have g2 := s4 _ _ e2
      have rd4 : ∀ b ∈ bs, IsRound K H4 ts b := fun b hb => (rd b hb).same s4
      -- if number not in tree
      refine ⟨_, rfl, .ref tr, rfl, tr, _, rfl, .inl (SqL.of g1), rfl, flat_nv F, _, rfl, ?_⟩
      rw [if_pos rfl, inV_nv]
      by_cases hin : i ∈ F
      · rw [decide_eq_true hin]
        refine iteF ?_
        exact ⟨bs, _, _, _, rfl, s34, g1, g2, by omega, rd4⟩
      · rw [decide_eq_false hin]
        refine iteT ?_
        refine ⟨.ref fd, rfl, .inl ⟨rfl, _, SqL.of g2⟩, ?_⟩
        -- way_in_tree(web, tree, one, other)
        refine ⟨_, rfl, .ref wb, rfl, .ref tr, rfl, _, rfl, _, rfl, wb, tr, n, ts, tp, as, F, (tie ts i).1, (tie ts i).2, rfl, W.same s34, wo, SqL.of g1, Flt, wo.one hi, wo.two hi, out i hi hin, fun H5 lp l s5 el hodd hll => ?_⟩
        refine ⟨lp, _, rfl, .inr (SqL.of el), ?_⟩
        have eL : V.int (i : Nat) :: (nv l ++ []) = (ci (i :: l)).map V.int := by
          rw [List.append_nil]
          exact nv_ci (i :: l)
        refine ⟨?_, fun t ht => ?_⟩
        · show (V.int (i : Nat) :: (nv l ++ [])).length ≤ sizeLine
          rw [eL, List.length_map, List.length_map]
          exact cut_small (by show l.length + 1 ≤ 1000; omega)
        have s6 : Same H4 (upd H5 t (.lst (V.int (i : Nat) :: (nv l ++ [])))) := s5.trans (same_new ht)
        have et : (upd H5 t (.lst (V.int (i : Nat) :: (nv l ++ [])))) t = some (.lst ((ci (i :: l)).map V.int)) := by rw [upd_same, eL]
        revert s6 et
        generalize upd H5 t (.lst (V.int (i : Nat) :: (nv l ++ []))) = H6
        intro s6 et
        refine ⟨t, ci (i :: l), rfl, SqL.of et, ?_, fun ns' p perm rising hp => ?_⟩
        · rw [List.length_map]
          show l.length + 1 < 64
          omega
        obtain ⟨r, rfl, hperm⟩ := perm_ci perm
        rw [← nv_ci]
        have s7 : Same H4 (upd H6 p (.lst (nv r))) := s6.trans (same_new hp)
        refine ⟨p, _, rfl, .inl ⟨SqL.of upd_same, fun t2 ht2 => ?_⟩⟩
        have s8 : Same H4 (upd (upd H6 p (.lst (nv r))) t2 (.tup (nv r))) := s7.trans (same_new ht2)
        have et2 : (upd (upd H6 p (.lst (nv r))) t2 (.tup (nv r))) t2 = some (.tup (nv r)) := upd_same
        revert s8 et2
        generalize upd (upd H6 p (.lst (nv r))) t2 (.tup (nv r)) = H8
        intro s8 et2
        refine ⟨fd, _, _, rfl, rfl, s8 _ _ g2, ?_, ?_⟩
        · rw [List.length_map]
          exact small1000 (by omega)
        have s9 : Same H8 H8 := Same.refl _
        have fin : Same H (upd H8 fd (.lst (bs.map V.ref ++ [.ref t2]))) := same_own (s34.trans s8) ffd
        have keep : ∀ {b : Addr}, IsRound K H8 ts b → IsRound K (upd H8 fd (.lst (bs.map V.ref ++ [.ref t2]))) ts b := by
          rintro b ⟨r, a, b', c⟩
          refine ⟨r, ?_, b', c⟩
          have e8 := s8 _ _ g2
          rcases a with (h | ⟨o, h⟩) | h
          · exact .inl (.inl (by rw [upd_ne (ne_of h e8 (by intro z; cases z))]; exact h))
          · exact .inl (.inr ⟨o, by rw [upd_ne (ne_of h e8 (by intro z; cases z))]; exact h⟩)
          · exact .inr h
        refine ⟨bs ++ [t2], _, _, _, rfl, fin, ?_, ?_, ?_, fun b hb => ?_⟩
        · rw [upd_ne nef]
          exact s8 _ _ g1
        · rw [upd_same, List.map_append]
          rfl
        · rw [List.length_append]
          show bs.length + 1 ≤ i + 1
          omega
        · refine keep ?_
          rcases List.mem_append.mp hb with hb | hb
          · exact (rd4 b hb).same s8
          · rw [List.mem_singleton.mp hb]
            refine ⟨r, SqT.of et2, round_even hodd hperm, ?_⟩
            rw [hperm.length_eq]
            show l.length + 1 ≤ 100
            omega
    · rintro σ H3 ⟨bs, y3, y4, y5, rfl, s3, e1, e2, hl, rd⟩
      exact ⟨.ref fd, rfl, fd, _, rfl, .inl ⟨SqL.of e2, fun t ht => q _ t bs (s3.trans (same_new ht)) upd_same fun b hb => (rd b hb).same (same_new ht)⟩⟩
end
end Bh

namespace Bh
open PySem PySem.Spec PyProof.Rows L2
/-! bits -/
def pz (ts : Ties) (L : List Nat) : Nat := L.foldl (fun N k => N ^^^ 2 ^ (tie ts k).1 ^^^ 2 ^ (tie ts k).2) 0
theorem pz_snoc (ts : Ties) (L : List Nat) (k : Nat) : pz ts (L ++ [k]) = pz ts L ^^^ 2 ^ (tie ts k).1 ^^^ 2 ^ (tie ts k).2 := by
  unfold pz
  rw [List.foldl_append]
  rfl
theorem pz_bit (ts : Ties) (p : Nat) : ∀ (L : List Nat) (N : Nat) (b : Bool), N.testBit p = b → (L.foldl (fun N k => N ^^^ 2 ^ (tie ts k).1 ^^^ 2 ^ (tie ts k).2) N).testBit p = L.foldl (fun b k => b != hit ts p k) b
  | [], N, b, h => h
  | k :: L, N, b, h => by
    refine pz_bit ts p L _ _ ?_
    rw [Nat.testBit_xor, Nat.testBit_xor, Nat.testBit_two_pow, Nat.testBit_two_pow, h]
    have e1 : decide ((tie ts k).1 = p) = ((tie ts k).1 == p) := by rw [Bool.eq_iff_iff, decide_eq_true_iff, beq_iff_eq]
    have e2 : decide ((tie ts k).2 = p) = ((tie ts k).2 == p) := by rw [Bool.eq_iff_iff, decide_eq_true_iff, beq_iff_eq]
    rw [e1, e2]
    show (b ^^ ((tie ts k).1 == p) ^^ ((tie ts k).2 == p)) = (b != (((tie ts k).1 == p) != ((tie ts k).2 == p)))
    generalize ((tie ts k).1 == p) = x
    generalize ((tie ts k).2 == p) = y
    cases b <;> cases x <;> cases y <;> rfl
theorem pz_par (ts : Ties) (L : List Nat) (p : Nat) : (pz ts L).testBit p = par ts L p := pz_bit ts p L 0 false (Nat.zero_testBit p)
theorem shl_nat (a : Nat) : (1 : Int) * 2 ^ ((a : Nat) : Int).toNat = ((2 ^ a : Nat) : Int) := by
  rw [Int.one_mul]
  show (2 : Int) ^ a = _
  rw [Int.natCast_pow]
  rfl
theorem xor_nat (a b : Nat) : Builtin.bitXor (a : Nat) (b : Nat) = ((a ^^^ b : Nat) : Int) := Bits.bitXor_pp (Int.natCast_nonneg a) (Int.natCast_nonneg b)
/-- n >> p & 1 -/
theorem bit_at (N p : Nat) : Builtin.bitAnd (((N : Nat) : Int) / 2 ^ ((p : Nat) : Int).toNat) 1 = ((if N.testBit p = true then 1 else 0 : Nat) : Int) := by
  rw [bitAnd_m1]
  have e : ((N : Nat) : Int) / 2 ^ ((p : Nat) : Int).toNat = ((N / 2 ^ p : Nat) : Int) := by
    show ((N : Nat) : Int) / (2 : Int) ^ p = _
    rw [Int.natCast_ediv, Int.natCast_pow]
    rfl
  rw [e]
  have e2 : N.testBit p = decide (N / 2 ^ p % 2 = 1) := Nat.testBit_eq_decide_div_mod_eq
  rw [e2]
  by_cases h : N / 2 ^ p % 2 = 1
  · rw [decide_eq_true h, if_pos rfl]
    omega
  · rw [decide_eq_false h, if_neg (by decide)]
    omega
section
variable {P : Program} {w : World} {K : PySem.W.Frag} {mg : Str → Option Value} {base : Heap}
/-! ### lot_parities -/
theorem scParities : FnScope ["web", "lot", "found", "tie", "one", "other"] ["web", "lot"] (defScope sParities) := ⟨rfl, rfl, rfl, by decide +kernel, rfl, by decide +kernel, by decide +kernel⟩
def spParities (K : PySem.W.Frag) : Sp := fun vs H Q _ => ∃ (wb l : Addr) (n : Nat) (ts : Ties) (tp : Addr) (as : List Addr) (L : List Nat), vs = [.ref wb, .ref l] ∧ Web K H wb n ts tp as ∧ WebOk n ts ∧ NT K H l L ∧ IsLot ts.length L ∧
  Q (.int (pz ts L : Nat)) H
theorem ok_parities {f : Addr} {fd : FuncData} {k : Nat} (F : Fun K "lot_parities" "lot_parities" sParities f fd) : FnOk P w K mg base CX0 (k + 1) f fd ["web", "lot"] (spParities K) := by
  refine F.ok scParities (fun vs H Q E h => ?_) (fun cdv A outer s H vs Q E hr h => ?_)
  · obtain ⟨_, _, _, _, _, _, _, rfl, _⟩ := h
    rfl
  · obtain ⟨wb, l, n, ts, tp, as, L, rfl, W, wo, hl, il, q⟩ := h
    refine ⟨_, pss_cons (ps_set (i := 2) scParities.nd rfl (.inl rfl) pe_int)
      (pss_cons (ps_for PassesOwn.never rfl (pi_tup (pv 1)) (pg_name (i := 3) scParities.nd rfl (.inl rfl))
        (pss_cons (ps_asg (pe_ix ix_tup (pe_ix ix_tup (pv 0) pe_int (fun _ _ => rfl)) (pv 3) (fun _ _ => rfl)) (pg_tup rfl (pgs_cons (pg_name (i := 4) scParities.nd rfl (.inl rfl)) (pgs_cons (pg_name (i := 5) scParities.nd rfl (.inl rfl)) pgs_nil))))
        (pss_one (ps_set (i := 2) scParities.nd rfl (.inl rfl) (pe_op op_xor (pe_op op_xor (pv 2) (pe_op op_shl pe_int (pv 4))) (pe_op op_shl pe_int (pv 5)))))))
      (pss_one (ps_ret (pv 2)))), ?_⟩
    have hn8 := wo.small
    refine ⟨.ref l, rfl, l, rfl, ⟨_, hl⟩, for_tup (K := K) (a := l) (xs := nv L) (fun i σ H1 => ∃ y3 y4 y5, σ = [some (.ref wb), some (.ref l), some (.int (pz ts (L.take i) : Nat)), y3, y4, y5] ∧ H1 = H)
      ⟨none, none, none, rfl, rfl⟩ (fun i σ H1 _ ⟨_, _, _, _, e⟩ => by rw [e]; exact hl) ?_ ?_⟩
    · rintro i v σ H1 hi ⟨y3, y4, y5, rfl, rfl⟩
      obtain ⟨t, ht, rfl⟩ := nv_of hi
      have htl : t < ts.length := il.lt t (List.mem_of_getElem? ht)
      obtain ⟨a, ea, sa⟩ := W.at htl
      have b1 := wo.one htl
      have b2 := wo.two htl
      refine ⟨.ref wb, rfl, wb, _, 1, .ref tp, rfl, rfl, W.top, rfl, _, rfl, tp, _, (t : Nat), .ref a, rfl, rfl, W.ties, atI_nat ea, a, _, rfl, sa, rfl, _, _, rfl, _, _, rfl, rfl, ?_⟩
      refine ⟨_, rfl, _, rfl, _, _, rfl, rfl, ⟨by omega, by omega, by decide⟩, _, _, rfl, rfl, _, rfl, _, _, rfl, rfl, ⟨by omega, by omega, by decide⟩, _, _, rfl, rfl, ?_⟩
      rw [shl_nat, shl_nat]
      dsimp only
      rw [xor_nat, xor_nat]
      have e : L.take (i + 1) = L.take i ++ [t] := by rw [List.take_add_one, ht]; rfl
      refine ⟨some (.int (t : Nat)), some (.int ((tie ts t).1 : Nat)), some (.int ((tie ts t).2 : Nat)), ?_, rfl⟩
      rw [e, pz_snoc]
      rfl
    · rintro σ H1 ⟨y3, y4, y5, rfl, rfl⟩
      rw [nv_len, List.take_length]
      exact ⟨_, rfl, q⟩
/-! ### first_odd -/
theorem scFirstOdd : FnScope ["web", "lot", "parities", "odd", "place"] ["web", "lot"] (defScope sFirstOdd) := ⟨rfl, rfl, rfl, by decide +kernel, rfl, by decide +kernel, by decide +kernel⟩
def spFirstOdd (K : PySem.W.Frag) : Sp := fun vs H Q _ => ∃ (wb l : Addr) (n : Nat) (ts : Ties) (tp : Addr) (as : List Addr) (L : List Nat), vs = [.ref wb, .ref l] ∧ Web K H wb n ts tp as ∧ WebOk n ts ∧ NT K H l L ∧ IsLot ts.length L ∧
  ∀ (H' : Hp) (v : V), Same H H' → (v = .non ↔ evenB n ts L = true) → Q v H'
theorem ok_firstOdd {f fP : Addr} {fd fdP : FuncData} (F : Fun K "first_odd" "first_odd" sFirstOdd f fd) (FP : Fun K "lot_parities" "lot_parities" sParities fP fdP) (bP : L2.Binds K fdP ["web", "lot"] []) (gP : mg "lot_parities" = some (.ref fP)) (mr : mg "range" = none) :
    FnOk P w K mg base CX0 2 f fd ["web", "lot"] (spFirstOdd K) := by
  have GP : FnOk P w K mg base CX0 1 fP fdP ["web", "lot"] (spParities K) := ok_parities FP
  refine F.ok scFirstOdd (fun vs H Q E h => ?_) (fun cdv A outer s H vs Q E hr h => ?_)
  · obtain ⟨_, _, _, _, _, _, _, rfl, _⟩ := h
    rfl
  · obtain ⟨wb, l, n, ts, tp, as, L, rfl, W, wo, hl, il, q⟩ := h
    refine ⟨_, pss_cons (ps_set (i := 2) scFirstOdd.nd rfl (.inr rfl) (pe_call GP hr (by rfl) gP FP.kp bP .nil pass0 (pa_cons (pv 0) (pa_cons (pv 1) pa_nil))))
      (pss_cons (ps_setLc (i := 3) (own := [("place", 4)]) (g := gName 4) (tt := tTest (tOp rEq (tOp (rI0 fun i j => .int (Builtin.bitAnd i j)) (tOp (rI (fun _ j => 0 ≤ j) fun i j => .int (i / 2 ^ j.toNat)) (tVar 2) (tVar 4)) (tC (.int 1))) (tC (.int 1)))) (te := tVar 4) (by rfl) scFirstOdd.nd rfl rfl (sw_true rfl rfl rfl (by decide +kernel))
          (pi_range1 (by rfl) mr (pa_cons (pe_ix ix_tup (pv 0) pe_int (fun _ _ => rfl)) pa_nil))
          (blkOk_by (N := ["web", "lot", "parities", "odd", "place"]) (sc := defScope sFirstOdd) (by decide +kernel))
          (fun _ _ _ _ _ => pg_name (i := 4) scFirstOdd.nd rfl (.inl rfl)) (fun _ _ _ _ _ => pts_one (pt_cmpR op_eq (pe_op op_and (pe_op op_shr (pv 2) (pv 4)) pe_int) pe_int (nomark _))) (fun _ _ _ _ _ => pv 4))
      (pss_one (ps_ret (pe_ifExp (pt_cmpR (op_neNil hr.units) (pv 3) (pe_lst pa_nil) (nomark _)) (pe_ix ix_list (pv 3) pe_int (fun _ _ => rfl)) pe_non)))), ?_⟩
    have hn8 := wo.small
    refine ⟨.ref wb, rfl, .ref l, rfl, wb, l, n, ts, tp, as, L, rfl, W, wo, hl, il, ?_⟩
    refine ⟨.ref wb, rfl, wb, _, 0, .int (n : Nat), rfl, rfl, W.top, rfl, (n : Nat), rfl, by omega, by omega, fun D hD => ?_⟩
    have wr := walk_range (lo := 0) (n := ((n : Nat) : Int).toNat)
    refine lc_it wr (fun i H3 => Same H H3 ∧ H3 D = some (.lst (nv (selK (par ts L) i)))) ⟨same_new hD, upd_same⟩ (fun i H3 _ p => True.intro) (fun i x H3 H4 hi p y => ?_) fun H3 p => ?_
    · obtain ⟨rfl, rfl⟩ := y
      have hi' : i < n := hi
      have e0 : (0 : Int) + ((i : Nat) : Int) = ((i : Nat) : Int) := Int.zero_add _
      show gName 4 (V.int (0 + (i : Nat))) _ _ _
      rw [e0]
      refine ⟨rfl, _, rfl, _, rfl, _, _, rfl, rfl, Int.natCast_nonneg i, _, _, rfl, rfl, rfl, _, rfl, ?_⟩
      have ed : ∀ (b : Bool), decide (V.int ((if b = true then 1 else 0 : Nat) : Int) = V.int 1) = b := by decide
      have e1 : V.int (Builtin.bitAnd (((pz ts L : Nat) : Int) / 2 ^ ((i : Nat) : Int).toNat) 1) = V.int ((if par ts L i = true then 1 else 0 : Nat) : Int) := by rw [bit_at, pz_par]
      have e2 : decide (V.int (Builtin.bitAnd (((pz ts L : Nat) : Int) / 2 ^ ((i : Nat) : Int).toNat) 1) = V.int 1) = par ts L i := (decide_eq_decide.mpr (by rw [e1])).trans (ed _)
      dsimp only
      rw [e2]
      cases hp : par ts L i with
      | false =>
        refine iteF ?_
        exact ⟨p.1, by rw [selK_no hp]; exact p.2⟩
      | true =>
        refine iteT ?_
        refine ⟨_, rfl, _, p.2, ?_, same_own p.1 hD, ?_⟩
        · rw [nv_len]
          exact Nat.lt_of_le_of_lt (selK_len _ _) (small1000 (by omega))
        · rw [upd_same, nv_snoc, selK_yes hp]
    · obtain ⟨s3, e3⟩ := p
      have e3' : H3 D = some (.lst (nv (selK (par ts L) n))) := e3
      refine ⟨.ref D, rfl, Nat.zero_le _, fun z hz => ⟨D, z, _, rfl, rfl, SqL.of (by rw [upd_ne (ne_of_none e3' hz)]; exact e3'), SqL.of upd_same, sm_nv _, _, rfl, ?_⟩⟩
      have s4 : Same H (upd H3 z (.lst [])) := same_own s3 (s3.free hz)
      have e4 : (upd H3 z (.lst [])) D = some (.lst (nv (selK (par ts L) n))) := by rw [upd_ne (ne_of_none e3' hz)]; exact e3'
      cases hs : selK (par ts L) n with
      | nil =>
        refine iteF ?_
        refine q _ .non s4 ⟨fun _ => evenB_iff.mpr fun p hp => ?_, fun _ => rfl⟩
        cases e : par ts L p with
        | false => rfl
        | true =>
          have : p ∈ selK (par ts L) n := mem_selK.mpr ⟨hp, e⟩
          rw [hs] at this
          cases this
      | cons a r =>
        refine iteT ?_
        rw [hs] at e4
        refine ⟨.ref D, rfl, D, _, 0, .int (a : Nat), rfl, rfl, SqL.of e4, atI_nat (j := 0) rfl, q _ _ s4 ⟨(fun z => nomatch z), fun z => ?_⟩⟩
        have ha : a ∈ selK (par ts L) n := by rw [hs]; exact List.mem_cons_self
        obtain ⟨h1, h2⟩ := mem_selK.mp ha
        rw [evenB_iff.mp z a h1] at h2
        cases h2
end
end Bh

namespace Bh
open PySem PySem.Spec PyProof.Rows L2
section
variable {P : Program} {w : World} {K : PySem.W.Frag} {mg : Str → Option Value} {base : Heap}
/-! ### both_error -/
theorem scBoth : FnScope ["web", "value", "error", "place", "lot", "tie"] ["web", "value"] (defScope sBothErr) := ⟨rfl, rfl, rfl, by decide +kernel, rfl, by decide +kernel, by decide +kernel⟩
def spBoth (K : PySem.W.Frag) : Sp := fun vs H Q _ => ∃ (wb l : Addr) (n : Nat) (ts : Ties) (tp : Addr) (as : List Addr) (L : List Nat), vs = [.ref wb, .ref l] ∧ Web K H wb n ts tp as ∧ WebOk n ts ∧ NT K H l L ∧ IsLot ts.length L ∧
  ∀ (H' : Hp) (v : V), Same H H' → (v = .non → evenB n ts L = true) → (evenB n ts L = true → (∃ c, L = paint ts c) → v = .non) → Q v H'
theorem pick_snoc (L r : List Nat) (i k : Nat) (h : r[i]? = some k) : (r.take (i + 1)).filter (fun k => decide (k ∈ L)) = (r.take i).filter (fun k => decide (k ∈ L)) ++ if decide (k ∈ L) = true then [k] else [] := by
  rw [List.take_add_one, h, List.filter_append]
  show _ ++ List.filter _ [k] = _
  rw [List.filter_cons, List.filter_nil]
theorem pick_len (L r : List Nat) (i : Nat) : ((r.take i).filter (fun k => decide (k ∈ L))).length ≤ r.length :=
  Nat.le_trans (List.length_filter_le _ _) (by rw [List.length_take]; exact Nat.min_le_right _ _)
theorem ok_both {f fE fI fN fO fA fR fT fY fG : Addr} {fd fdE fdI fdN fdO fdA fdR fdT fdY fdG : FuncData} (F : Fun K "both_error" "both_error" sBothErr f fd)
    (FE : Fun K "lot_error" "lot_error" sLotErr fE fdE) (bE : L2.Binds K fdE ["web", "value"] []) (gE : mg "lot_error" = some (.ref fE))
    (FI : Fun K "is_integer" "is_integer" sIsInt fI fdI) (bI : L2.Binds K fdI ["value"] []) (gI : mg "is_integer" = some (.ref fI))
    (FN : Fun K "is_within" "is_within" sWithin fN fdN) (bN : L2.Binds K fdN ["value", "low", "high"] []) (gN : mg "is_within" = some (.ref fN))
    (FO : Fun K "first_odd" "first_odd" sFirstOdd fO fdO) (bO : L2.Binds K fdO ["web", "lot"] []) (gO : mg "first_odd" = some (.ref fO))
    (FA : Fun K "lot_parities" "lot_parities" sParities fA fdA) (bA : L2.Binds K fdA ["web", "lot"] []) (gA : mg "lot_parities" = some (.ref fA))
    (FR : Fun K "tree_rounds" "tree_rounds" sRounds fR fdR) (bR : L2.Binds K fdR ["web"] []) (gR : mg "tree_rounds" = some (.ref fR))
    (FT : Fun K "first_tree" "first_tree" sTree fT fdT) (bT : L2.Binds K fdT ["web"] []) (gT : mg "first_tree" = some (.ref fT))
    (FY : Fun K "way_in_tree" "way_in_tree" sWay fY fdY) (bY : L2.Binds K fdY ["web", "tree", "one", "other"] []) (gY : mg "way_in_tree" = some (.ref fY))
    (FG : Fun K "goal_of" "goal_of" sGoal fG fdG) (bG : L2.Binds K fdG ["pair", "place"] []) (gG : mg "goal_of" = some (.ref fG))
    (mi : mg "isinstance" = none) (mt : mg "int" = none) (mb : mg "bool" = none) (mtu : mg "tuple" = none) (me : mg "enumerate" = none) (ml : mg "len" = none) (mli : mg "list" = none) (mr : mg "range" = none) (ms : mg "sorted" = none) :
    FnOk P w K mg base CX0 4 f fd ["web", "value"] (spBoth K) := by
  have GE : FnOk P w K mg base CX0 3 fE fdE ["web", "value"] (spLotErr K) := ok_lotErr FE FI bI gI FN bN gN mi mt mb mtu me ml
  have GO : FnOk P w K mg base CX0 2 fO fdO ["web", "lot"] (spFirstOdd K) := ok_firstOdd FO FA bA gA mr
  have GR : FnOk P w K mg base CX0 3 fR fdR ["web"] (spRounds K) := ok_rounds FR FT bT gT FY bY gY FG bG gG me mli mr mtu ms
  refine F.ok scBoth (fun vs H Q E h => ?_) (fun cdv A outer s H vs Q E hr h => ?_)
  · obtain ⟨_, _, _, _, _, _, _, rfl, _⟩ := h
    rfl
  · obtain ⟨wb, l, n, ts, tp, as, L, rfl, W, wo, hl, il, q⟩ := h
    refine ⟨_, pss_cons (ps_set (i := 2) scBoth.nd rfl (.inl rfl) (pe_call GE hr (by rfl) gE FE.kp bE .nil pass0 (pa_cons (pv 0) (pa_cons (pv 1) pa_nil))))
      (pss_cons (ps_if (pt_cmpR op_notN (pv 2) pe_non (nomark _)) (pss_one (ps_ret (pv 2))) pss_nil)
      (pss_cons (ps_set (i := 3) scBoth.nd rfl (.inl rfl) (pe_call GO (hr.mono (by decide)) (by rfl) gO FO.kp bO .nil pass0 (pa_cons (pv 0) (pa_cons (pv 1) pa_nil))))
      (pss_cons (ps_if (pt_cmpR op_notN (pv 3) pe_non (nomark _)) (pss_one (ps_ret (pe_tup (pa_cons pe_str (pa_cons (pv 3) pa_nil))))) pss_nil)
      (pss_cons (ps_for PassesOwn.never rfl (pi_tup (pe_call GR hr (by rfl) gR FR.kp bR .nil pass0 (pa_cons (pv 0) pa_nil))) (pg_name (i := 4) scBoth.nd rfl (.inl rfl))
        (pss_one (ps_if (pt_cmpR op_eq (pe_op op_mod (pe_callB call_len_seq (by rfl) ml PySem.boot_len (pa_cons
          (pe_lc (own := [("tie", 5)]) (g := gName 5) (tt := tTest (tOp (rIn K false) (tVar 5) (tVar 1))) (te := tVar 5) rfl scBoth.nd (pi_tup (pv 4))
            (blkOk_by (N := ["web", "value", "error", "place", "lot", "tie"]) (sc := defScope sBothErr) (by decide +kernel))
            (fun _ _ _ _ _ => pg_name (i := 5) scBoth.nd rfl (.inl rfl)) (fun _ _ _ _ _ => pts_one (pt_cmpR op_in_seq (pv 5) (pv 1) (by rfl))) (fun _ _ _ _ _ => pv 5)) pa_nil)) pe_int) pe_int (nomark _))
          (pss_one (ps_ret (pe_tup (pa_cons pe_str (pa_cons (pv 4) pa_nil))))) pss_nil)))
      (pss_one (ps_ret pe_non)))))), ?_⟩
    refine ⟨.ref wb, rfl, .ref l, rfl, wb, l, n, ts, tp, as, L, rfl, W, hl, il, fun H1 s1 => ?_⟩
    refine ⟨.non, rfl, rfl, _, rfl, iteF ?_⟩
    refine ⟨.ref wb, rfl, .ref l, rfl, wb, l, n, ts, tp, as, L, rfl, W.same s1, wo, Same.seqT s1 hl, il, fun H2 v s2 hv => ?_⟩
    have s12 := s1.trans s2
    refine ⟨v, rfl, rfl, _, rfl, ?_⟩
    by_cases hn : v = .non
    · rw [decide_eq_true hn]
      refine iteF ?_
      have ev := hv.mp hn
      refine ⟨.ref wb, rfl, wb, n, ts, tp, as, rfl, W.same s12, wo, fun H3 p bs s3 ep rd => ?_⟩
      have s13 := s12.trans s3
      refine ⟨p, rfl, ⟨_, SqT.of ep⟩, for_tup (K := K) (a := p) (xs := bs.map V.ref) (fun i σ H4 => ∃ y4 y5, σ = [some (.ref wb), some (.ref l), some .non, some v, y4, y5] ∧ Same H3 H4) ⟨none, none, rfl, Same.refl _⟩
        (fun i σ H4 _ ⟨_, _, _, s4⟩ => Same.seqT s4 (SqT.of ep)) ?_ ?_⟩
      · rintro i x σ H4 hi ⟨y4, y5, rfl, s4⟩
        obtain ⟨b, hb, rfl⟩ : ∃ b, bs[i]? = some b ∧ V.ref b = x := by
          rw [List.getElem?_map] at hi
          cases e : bs[i]? with
          | none => rw [e] at hi; cases hi
          | some b => rw [e] at hi; exact ⟨b, rfl, Option.some.inj hi⟩
        obtain ⟨r, hr1, hr2, hr3⟩ := (rd b (List.mem_of_getElem? hb)).same s4
        refine ⟨.ref b, rfl, b, rfl, ⟨_, hr1⟩, fun D hD => ?_⟩
        have hl4 := Same.seqT (s13.trans s4) hl
        refine lc_it (walk_tup (K := K) (a := b) (xs := nv r)) (fun j H5 => Same H4 H5 ∧ H5 D = some (.lst (nv ((r.take j).filter fun k => decide (k ∈ L))))) ⟨same_new hD, upd_same⟩ (fun j H5 _ z => Same.seqT z.1 hr1) (fun j x H5 H6 hj z y => ?_) fun H5 z => ?_
        · obtain ⟨rfl, e5⟩ := y
          obtain ⟨t, ht, rfl⟩ := nv_of e5
          refine ⟨rfl, _, rfl, .ref l, rfl, l, _, rfl, .inr (Same.seqT z.1 hl4), rfl, flat_nv L, _, rfl, ?_⟩
          rw [if_neg Bool.false_ne_true, inV_nv]
          have es := pick_snoc L r j t ht
          revert es
          cases hin : decide (t ∈ L) with
          | false =>
            intro es
            refine iteF ?_
            exact ⟨z.1, by rw [es, if_neg Bool.false_ne_true, List.append_nil]; exact z.2⟩
          | true =>
            intro es
            refine iteT ?_
            refine ⟨_, rfl, _, z.2, ?_, same_own z.1 hD, ?_⟩
            · rw [nv_len]
              exact Nat.lt_of_le_of_lt (pick_len _ _ _) (small1000 (by omega))
            · rw [upd_same, nv_snoc, es, if_pos rfl]
        · have z2 := z.2
          rw [nv_len, List.take_length] at z2
          refine ⟨D, _, rfl, .inl (SqL.of z2), _, _, rfl, rfl, (show (0 : Int) < 2 by decide), rfl, _, rfl, ?_⟩
          rw [nv_len]
          have s5 := s13.trans (s4.trans z.1)
          by_cases ho : (r.filter fun k => decide (k ∈ L)).length % 2 = 1
          · rw [decide_eq_true (show V.int (((r.filter fun k => decide (k ∈ L)).length : Nat) % 2) = V.int 1 by congr 1; omega)]
            refine iteT ?_
            refine ⟨_, rfl, (show 2 ≤ sizeLine by decide), fun t ht => q _ _ (s5.trans (same_new ht)) (fun z => nomatch z) fun _ ⟨c, hc⟩ => ?_⟩
            have zz := odd_lot (c := c) hc (hr2 c)
            omega
          · rw [decide_eq_false (show ¬ V.int (((r.filter fun k => decide (k ∈ L)).length : Nat) % 2) = V.int 1 from fun z => ho (by injection z with z; omega))]
            refine iteF ?_
            exact ⟨_, _, rfl, s4.trans z.1⟩
      · rintro σ H4 ⟨y4, y5, rfl, s4⟩
        exact q H4 .non (s13.trans s4) (fun _ => ev) fun _ _ => rfl
    · rw [decide_eq_false hn]
      refine iteT ?_
      refine ⟨v, rfl, (show 2 ≤ sizeLine by decide), fun t ht => q _ _ (s12.trans (same_new ht)) (fun z => nomatch z) fun h _ => absurd (hv.mpr h) hn⟩
end
end Bh

namespace Bh
open PySem PySem.Spec PyProof.Rows L2
/-- colours as they lie in a tuple -/
abbrev cl (c : Nat → Bool) (n : Nat) : List V := gm (fun x => V.int (bi (c x))) n
theorem bi_one (b : Bool) : decide (V.int (bi b) = V.int 1) = b := by cases b <;> rfl
theorem cutOf_any {ts : Ties} {L : List Nat} (h : ∃ c, L = paint ts c) : CutOf ts L := by
  obtain ⟨c, hc⟩ := h
  refine ⟨fun p => c p != c 0, ?_, ?_⟩
  · show (c 0 != c 0) = false
    cases c 0 <;> rfl
  · rw [paint_xor]
    exact hc
section
variable {P : Program} {w : World} {K : PySem.W.Frag} {mg : Str → Option Value} {base : Heap}
/-! ### even_cut -/
theorem scEvenCut : FnScope ["web", "places", "lot"] ["web", "places"] (defScope sEvenCut) := ⟨rfl, rfl, rfl, by decide +kernel, rfl, by decide +kernel, by decide +kernel⟩
def spEvenCut (K : PySem.W.Frag) (C : Addr) : Sp := fun vs H Q E => ∃ (wb p : Addr) (n : Nat) (ts : Ties) (tp : Addr) (as : List Addr) (ps : List Nat), vs = [.ref wb, .ref p] ∧ Web K H wb n ts tp as ∧ WebOk n ts ∧ NT K H p ps ∧
  (∀ H', Same H H' → evenB n ts (paint ts fun x => decide (x ∈ ps)) = false → E (.ref C) none H') ∧
  ∀ H' q, Same H H' → evenB n ts (paint ts fun x => decide (x ∈ ps)) = true → H' q = some (.tup (nv (paint ts fun x => decide (x ∈ ps)))) → Q (.ref q) H'
theorem ok_evenCut {B C fi : Addr} {f fU fV : Addr} {fd fdU fdV : FuncData} (T : UnfTxt K mg B C fi) (F : Fun K "even_cut" "even_cut" sEvenCut f fd) (FU : Fun K "cut_of" "cut_of" sCutOf fU fdU) (bU : L2.Binds K fdU ["web", "places"] []) (gU : mg "cut_of" = some (.ref fU))
    (FV : Fun K "is_even" "is_even" sIsEven fV fdV) (bV : L2.Binds K fdV ["web", "lot"] []) (gV : mg "is_even" = some (.ref fV)) (me : mg "enumerate" = none) (mt : mg "tuple" = none) (ma : mg "any" = none) :
    FnOk P w K mg base (L2.CX P w) 2 f fd ["web", "places"] (spEvenCut K C) := by
  have GU : FnOk P w K mg base CX0 1 fU fdU ["web", "places"] (spCut K) := ok_cut FU me mt
  have GV : FnOk P w K mg base CX0 1 fV fdV ["web", "lot"] (spEven K) := ok_even FV ma
  refine F.okX scEvenCut (fun vs H Q E h => ?_) (fun cdv A outer s H vs Q E hr h => ?_)
  · obtain ⟨_, _, _, _, _, _, _, rfl, _⟩ := h
    rfl
  · obtain ⟨wb, p, n, ts, tp, as, ps, rfl, W, wo, hp, qE, q⟩ := h
    refine ⟨_, pss_cons (ps_set (i := 2) scEvenCut.nd rfl (.inl rfl) (pe_call GU hr (by rfl) gU FU.kp bU .nil pass0 (pa_cons (pv 0) (pa_cons (pv 1) pa_nil))))
      (pss_cons (ps_if (pt_not (pt_val (pe_call GV hr (by rfl) gV FV.kp bV .nil pass0 (pa_cons (pv 0) (pa_cons (pv 2) pa_nil))))) (pss_one (ps_unfit rfl T hr (takes_of rfl rfl rfl rfl))) pss_nil)
      (PSs.nox (pss_one (ps_ret (pv 2))))), ?_⟩
    refine ⟨.ref wb, rfl, .ref p, rfl, wb, p, n, ts, tp, as, ps, rfl, W, hp, wo.few, fun H1 a s1 e1 => ?_⟩
    refine ⟨.ref wb, rfl, .ref a, rfl, wb, a, n, ts, tp, as, _, rfl, W.same s1, wo, SqT.of e1, .paint ts _, fun H2 s2 => ⟨_, rfl, ?_⟩⟩
    cases he : evenB n ts (paint ts fun x => decide (x ∈ ps)) with
    | false =>
      refine iteT ?_
      exact qE H2 (s1.trans s2) he
    | true =>
      refine iteF ?_
      exact ⟨_, rfl, q H2 a (s1.trans s2) he (s2 _ _ e1)⟩
/-! ### lot_of -/
theorem scLotOf : FnScope ["web", "colours", "place", "colour"] ["web", "colours"] (defScope sLotOf) := ⟨rfl, rfl, rfl, by decide +kernel, rfl, by decide +kernel, by decide +kernel⟩
def spLotOf (K : PySem.W.Frag) (C : Addr) : Sp := fun vs H Q E => ∃ (wb p : Addr) (n : Nat) (ts : Ties) (tp : Addr) (as : List Addr) (c : Nat → Bool), vs = [.ref wb, .ref p] ∧ Web K H wb n ts tp as ∧ WebOk n ts ∧ SqT K H p (cl c n) ∧
  (∀ H', Same H H' → evenB n ts (paint ts c) = false → E (.ref C) none H') ∧
  ∀ H' q, Same H H' → evenB n ts (paint ts c) = true → H' q = some (.tup (nv (paint ts c))) → Q (.ref q) H'
theorem ok_lotOf {B C fi : Addr} {f fX fU fV : Addr} {fd fdX fdU fdV : FuncData} (T : UnfTxt K mg B C fi) (F : Fun K "lot_of" "lot_of" sLotOf f fd) (FX : Fun K "even_cut" "even_cut" sEvenCut fX fdX) (bX : L2.Binds K fdX ["web", "places"] []) (gX : mg "even_cut" = some (.ref fX))
    (FU : Fun K "cut_of" "cut_of" sCutOf fU fdU) (bU : L2.Binds K fdU ["web", "places"] []) (gU : mg "cut_of" = some (.ref fU))
    (FV : Fun K "is_even" "is_even" sIsEven fV fdV) (bV : L2.Binds K fdV ["web", "lot"] []) (gV : mg "is_even" = some (.ref fV)) (me : mg "enumerate" = none) (mt : mg "tuple" = none) (ma : mg "any" = none) :
    FnOk P w K mg base (L2.CX P w) 3 f fd ["web", "colours"] (spLotOf K C) := by
  have GX : FnOk P w K mg base (L2.CX P w) 2 fX fdX ["web", "places"] (spEvenCut K C) := ok_evenCut T FX FU bU gU FV bV gV me mt ma
  refine F.okX scLotOf (fun vs H Q E h => ?_) (fun cdv A outer s H vs Q E hr h => ?_)
  · obtain ⟨_, _, _, _, _, _, _, rfl, _⟩ := h
    rfl
  · obtain ⟨wb, p, n, ts, tp, as, c, rfl, W, wo, hp, qE, q⟩ := h
    refine ⟨_, pss_one (ps_ret (pe_call GX hr (by rfl) gX FX.kp bX .nil (passes_call (W := fun cls d _ H => E cls d H) (takes_of rfl rfl rfl rfl) fun _ _ _ _ h => h) (pa_cons (pv 0) (pa_cons (pe_callTy call_tuple_of (by rfl) mt (by decide +kernel) (pa_cons
      (pe_lc (own := [("place", 2), ("colour", 3)]) (g := gTup K 2 (gCons (gName 2) (gCons (gName 3) gNil))) (tt := tTest (tOp rEq (tVar 3) (tC (.int 1)))) (te := tVar 2) rfl scLotOf.nd
        (pi_enumT (by rfl) me (pa_cons (pv 1) pa_nil))
        (blkOk_by (N := ["web", "colours", "place", "colour"]) (sc := defScope sLotOf) (by decide +kernel))
        (fun _ _ _ _ _ => pg_tup rfl (pgs_cons (pg_name (i := 2) scLotOf.nd rfl (.inl rfl)) (pgs_cons (pg_name (i := 3) scLotOf.nd rfl (.inl rfl)) pgs_nil)))
        (fun _ _ _ _ _ => pts_one (pt_cmpR op_eq (pv 3) pe_int (nomark _)))
        (fun _ _ _ _ _ => pv 2)) pa_nil)) pa_nil)))), ?_⟩
    refine ⟨.ref wb, rfl, .ref p, rfl, p, _, rfl, hp, fun D hD => ?_⟩
    have hn8 := wo.small
    have wk := walk_enumT (K := K) (a := p) (xs := cl c n)
    rw [gm_len] at wk
    refine lc_it wk (fun i H3 => Same H H3 ∧ H3 D = some (.lst (nv (selK c i)))) ⟨same_new hD, upd_same⟩ (fun i H3 _ z => Same.seqT z.1 hp) (fun i x H3 H4 hi z y => ?_) fun H3 z => ?_
    · obtain ⟨T', x1, x2, rfl, nT, rfl, f1, f2⟩ := y
      obtain rfl : V.int (i : Nat) = x1 := Option.some.inj f1
      obtain rfl : V.int (bi (c i)) = x2 := Option.some.inj ((gm_get _ hi).symm.trans f2)
      have s4 := z.1.trans (same_new (o := .tup [.int (i : Nat), .int (bi (c i))]) nT)
      have eD : (upd H3 T' (.tup [.int (i : Nat), .int (bi (c i))])) D = some (.lst (nv (selK c i))) := by rw [upd_ne (ne_of_none z.2 nT)]; exact z.2
      refine ⟨T', _, rfl, SqT.of upd_same, rfl, _, _, rfl, _, _, rfl, rfl, rfl, _, rfl, rfl, _, rfl, ?_⟩
      rw [bi_one]
      revert s4 eD
      generalize upd H3 T' (.tup [.int (i : Nat), .int (bi (c i))]) = H5
      intro s4 eD
      cases hs : c i with
      | false =>
        refine iteF ?_
        exact ⟨s4, by rw [selK_no hs]; exact eD⟩
      | true =>
        refine iteT ?_
        refine ⟨_, rfl, _, eD, ?_, same_own s4 hD, ?_⟩
        · rw [nv_len]
          exact Nat.lt_of_le_of_lt (selK_len _ _) (small1000 (by omega))
        · rw [upd_same, nv_snoc, selK_yes hs]
    · refine ⟨D, _, rfl, .inl ⟨SqL.of z.2, fun t ht => ?_⟩⟩
      have s5 := z.1.trans (same_new (o := .tup (nv (selK c n))) ht)
      have e : (paint ts fun x => decide (x ∈ selK c n)) = paint ts c := paint_congr wo fun p hp => by
        rw [Bool.eq_iff_iff, decide_eq_true_iff, mem_selK]
        exact ⟨fun y => y.2, fun y => ⟨hp, y⟩⟩
      refine ⟨wb, t, n, ts, tp, as, _, rfl, W.same s5, wo, SqT.of upd_same, ?_, ?_⟩
      · rw [e]
        exact fun H' s h => qE H' (s5.trans s) h
      · rw [e]
        exact fun H' a s h h2 => q H' a (s5.trans s) h h2
/-! ### colours_of -/
theorem scColours : FnScope ["web", "lot", "places", "place"] ["web", "lot"] (defScope sColours) := ⟨rfl, rfl, rfl, by decide +kernel, rfl, by decide +kernel, by decide +kernel⟩
def spColours (K : PySem.W.Frag) (C : Addr) : Sp := fun vs H Q E => ∃ (wb l : Addr) (n : Nat) (ts : Ties) (tp : Addr) (as : List Addr) (L : List Nat), vs = [.ref wb, .ref l] ∧ Web K H wb n ts tp as ∧ WebOk n ts ∧ NT K H l L ∧ IsLot ts.length L ∧
  (∀ H', Same H H' → ¬ (evenB n ts L = true ∧ CutOf ts L) → E (.ref C) none H') ∧
  ∀ H' p s, Same H H' → evenB n ts L = true → s 0 = false → L = paint ts s → H' p = some (.tup (cl s n)) → Q (.ref p) H'
theorem ok_colours {B C fi : Addr} {f fB fPl : Addr} {fd fdB fdPl : FuncData} (T : UnfTxt K mg B C fi) (F : Fun K "colours_of" "colours_of" sColours f fd) 
    (GB : FnOk P w K mg base CX0 4 fB fdB ["web", "value"] (spBoth K)) (kB : PySem.W.keepIn K (.ref fB) = true) (bB : L2.Binds K fdB ["web", "value"] []) (gB : mg "both_error" = some (.ref fB))
    (GP : FnOk P w K mg base (L2.CX P w) 3 fPl fdPl ["web", "lot"] (spPlaces K C)) (kP : PySem.W.keepIn K (.ref fPl) = true) (bP : L2.Binds K fdPl ["web", "lot"] []) (gP : mg "places_of_cut" = some (.ref fPl))
    (mt : mg "tuple" = none) (mi : mg "int" = none) (mr : mg "range" = none) : FnOk P w K mg base (L2.CX P w) 5 f fd ["web", "lot"] (spColours K C) := by
  refine F.okX scColours (fun vs H Q E h => ?_) (fun cdv A outer s H vs Q E hr h => ?_)
  · obtain ⟨_, _, _, _, _, _, _, rfl, _⟩ := h
    rfl
  · obtain ⟨wb, l, n, ts, tp, as, L, rfl, W, wo, hl, il, qE, q⟩ := h
    have hn8 := wo.small
    refine ⟨_, pss_cons (ps_if (pt_cmpR op_notN (pe_call GB hr (by rfl) gB kB bB .nil pass0 (pa_cons (pv 0) (pa_cons (pv 1) pa_nil))) pe_non (nomark _)) (pss_one (ps_unfit rfl T hr (takes_of rfl rfl rfl rfl))) pss_nil)
      (pss_cons (ps_set (i := 2) scColours.nd rfl (.inr rfl) (pe_call GP (hr.mono (by decide)) (by rfl) gP kP bP .nil (passes_call (W := fun cls d _ H => E cls d H) (takes_of rfl rfl rfl rfl) fun _ _ _ _ h => h) (pa_cons (pv 0) (pa_cons (pv 1) pa_nil))))
      (PSs.nox (pss_one (ps_ret (pe_callTy call_tuple_of (by rfl) mt (by decide +kernel) (pa_cons
        (pe_lc (own := [("place", 3)]) (g := gName 3) (tt := tYes) (te := tCB (fun xs H Q => (∃ i, xs = [V.int i] ∧ Q (.int i) H) ∨ ∃ k, xs = [V.bl k] ∧ Q (.int (if k then 1 else 0)) H) (tCons (tOp (rIn K false) (tVar 3) (tVar 2)) tNil)) rfl scColours.nd
          (pi_range1 (by rfl) mr (pa_cons (pe_ix ix_tup (pv 0) pe_int (fun _ _ => rfl)) pa_nil))
          (blkOk_by (N := ["web", "lot", "places", "place"]) (sc := defScope sColours) (by decide +kernel))
          (fun _ _ _ _ _ => pg_name (i := 3) scColours.nd rfl (.inl rfl))
          (fun _ _ _ _ _ => pts_nil)
          (fun _ _ _ _ _ => pe_callTy call_int1 (by rfl) mi (by decide +kernel) (pa_cons (pe_cmpR op_in_seq (pv 3) (pv 2) (by rfl)) pa_nil))) pa_nil)))))), ?_⟩
    refine ⟨.ref wb, rfl, .ref l, rfl, wb, l, n, ts, tp, as, L, rfl, W, wo, hl, il, fun H1 v s1 hv1 hv2 => ⟨rfl, _, rfl, ?_⟩⟩
    by_cases hv : v = .non
    · rw [decide_eq_true hv]
      refine iteF ?_
      have hev := hv1 hv
      refine ⟨.ref wb, rfl, .ref l, rfl, wb, l, n, ts, tp, as, L, rfl, W.same s1, wo, Same.seqT s1 hl, il, fun H2 s2 nc => qE H2 (s1.trans s2) fun z => nc z.2, fun H2 p s s2 s0 hs ep => ?_⟩
      have s12 := s1.trans s2
      refine ⟨.ref wb, rfl, wb, _, 0, .int (n : Nat), rfl, rfl, Same.seqT s12 W.top, rfl, (n : Nat), rfl, by omega, by omega, fun D hD => ?_⟩
      have wr := walk_range (lo := 0) (n := ((n : Nat) : Int).toNat)
      refine lc_it wr (fun i H3 => Same H2 H3 ∧ H3 D = some (.lst (cl s i))) ⟨same_new hD, upd_same⟩ (fun i H3 _ z => True.intro) (fun i x H3 H4 hi z y => ?_) fun H3 z => ?_
      · obtain ⟨rfl, rfl⟩ := y
        have hi' : i < n := hi
        have e0 : (0 : Int) + ((i : Nat) : Int) = ((i : Nat) : Int) := Int.zero_add _
        show gName 3 (V.int (0 + (i : Nat))) _ _ _
        rw [e0]
        refine ⟨rfl, ?_⟩
        unfold tYes
        dsimp only
        rw [if_pos rfl]
        refine ⟨_, rfl, .ref p, rfl, p, _, rfl, .inr (SqT.of (z.1 _ _ ep)), rfl, flat_nv _, ?_⟩
        rw [if_neg Bool.false_ne_true, inV_nv]
        refine .inr ⟨_, rfl, _, z.2, ?_, same_own z.1 hD, ?_⟩
        · rw [gm_len]
          exact small1000 (by omega)
        · rw [upd_same]
          show _ = some (HO.lst (gm (fun x => V.int (bi (s x))) (i + 1)))
          rw [gm_succ]
          have e : decide (i ∈ selK s n) = s i := by
            rw [Bool.eq_iff_iff, decide_eq_true_iff, mem_selK]
            exact ⟨fun y => y.2, fun y => ⟨hi', y⟩⟩
          rw [e]
          rfl
      · refine ⟨D, _, rfl, .inl ⟨SqL.of z.2, fun t ht => ?_⟩⟩
        exact q _ t s ((s12.trans z.1).trans (same_new ht)) hev s0 hs upd_same
    · rw [decide_eq_false hv]
      refine iteT ?_
      exact qE H1 s1 fun z => hv (hv2 z.1 (let ⟨c, _, hc⟩ := z.2; ⟨c, hc⟩))
end
end Bh

namespace Bh
open PySem PySem.Spec PyProof.Rows L2
/-! ### the urn -/
def Fr (d l : Addr) (H H' : Hp) : Prop := ∀ b o, b ≠ d → b ≠ l → H b = some o → H' b = some o
theorem Fr.refl (d l : Addr) (H : Hp) : Fr d l H H := fun _ _ _ _ e => e
theorem Fr.trans {d l : Addr} {H H' H'' : Hp} (a : Fr d l H H') (b : Fr d l H' H'') : Fr d l H H'' := fun x o h1 h2 e => b x o h1 h2 (a x o h1 h2 e)
theorem Same.fr {d l : Addr} {H H' : Hp} (s : Same H H') : Fr d l H H' := fun x o _ _ e => s x o e
theorem Fr.putD (d l : Addr) (H : Hp) (o : HO) : Fr d l H (upd H d o) := fun x o' h1 _ e => by rw [upd_ne h1]; exact e
theorem Fr.putL (d l : Addr) (H : Hp) (o : HO) : Fr d l H (upd H l o) := fun x o' _ h2 e => by rw [upd_ne h2]; exact e
def UK (l : Addr) (m : Int) : List (Key × V) := [(.inr "deep", .ref l), (.inr "state", .int m)]
def Urn (H : Hp) (d l : Addr) : Prop := ∃ (xs : List Int) (m : Int), H d = some (.dK (UK l m)) ∧ H l = some (.lst (xs.map V.int)) ∧ xs.length ≤ 100
theorem Urn.ne {H : Hp} {d l : Addr} (u : Urn H d l) : d ≠ l := by
  obtain ⟨_, _, e1, e2, _⟩ := u
  intro z
  rw [z, e2] at e1
  cases e1
theorem Urn.same {H H' : Hp} {d l : Addr} (u : Urn H d l) (s : Same H H') : Urn H' d l := let ⟨xs, m, e1, e2, z⟩ := u; ⟨xs, m, s _ _ e1, s _ _ e2, z⟩
/-- an address of something else than the urn -/
theorem Urn.off {H : Hp} {d l b : Addr} (u : Urn H d l) (h : H b = none) : b ≠ d ∧ b ≠ l := by
  obtain ⟨_, _, e1, e2, _⟩ := u
  refine ⟨fun z => ?_, fun z => ?_⟩
  · rw [z, e1] at h
    cases h
  · rw [z, e2] at h
    cases h
theorem Urn.tup {H : Hp} {d l b : Addr} {xs : List V} (u : Urn H d l) (h : H b = some (.tup xs)) : b ≠ d ∧ b ≠ l := by
  obtain ⟨_, _, e1, e2, _⟩ := u
  refine ⟨fun z => ?_, fun z => ?_⟩
  · rw [z, e1] at h
    cases h
  · rw [z, e2] at h
    cases h
theorem Urn.frz {H : Hp} {d l b : Addr} {o : Obj} {x : HO} (u : Urn H d l) (h : H b = some (.frz o x)) : b ≠ d ∧ b ≠ l := by
  obtain ⟨_, _, e1, e2, _⟩ := u
  refine ⟨fun z => ?_, fun z => ?_⟩
  · rw [z, e1] at h
    cases h
  · rw [z, e2] at h
    cases h
theorem Fr.seqT {K : PySem.W.Frag} {H H' : Hp} {d l a : Addr} {xs : List V} (f : Fr d l H H') (u : Urn H d l) (h : SqT K H a xs) : SqT K H' a xs := by
  rcases h with (h | ⟨o, h⟩) | h
  · exact .inl (.inl (f _ _ (u.tup h).1 (u.tup h).2 h))
  · exact .inl (.inr ⟨o, f _ _ (u.frz h).1 (u.frz h).2 h⟩)
  · exact .inr h
/-- kept where it is neither a dict nor a list of ints -/
theorem UK.deep (l : Addr) (m : Int) : valV (UK l m) (.inr "deep") = some (.ref l) := by rfl
theorem UK.state (l : Addr) (m : Int) : valV (UK l m) (.inr "state") = some (.int m) := by rfl
theorem UK.put (l : Addr) (m m' : Int) : putK (UK l m) (.inr "state") (.int m') = UK l m' := by rfl
theorem UK.disp (l : Addr) (m : Int) : mergeK [] [(.inr "deep", .ref l), (.inr "state", .int m)] = UK l m := by rfl
theorem dget_deep {H : Hp} {d l : Addr} {m : Int} (e : H d = some (.dK (UK l m))) : DGet H d (.str "deep") (some (.ref l)) := .inl ⟨_, .inr "deep", .inl e, rfl, (UK.deep l m).symm⟩
theorem dget_state {H : Hp} {d l : Addr} {m : Int} (e : H d = some (.dK (UK l m))) : DGet H d (.str "state") (some (.int m)) := .inl ⟨_, .inr "state", .inl e, rfl, (UK.state l m).symm⟩
theorem dput_state {H : Hp} {d l : Addr} {m m' : Int} (e : H d = some (.dK (UK l m))) : DPut H d (.str "state") (.int m') (upd H d (.dK (UK l m'))) := .inl ⟨_, .inr "state", e, rfl, (show 2 < sizeLine by decide), by rw [UK.put]⟩
section
variable {P : Program} {w : World} {K : PySem.W.Frag} {mg : Str → Option Value} {base : Heap}
/-! ### _law_take -/
theorem scTake : FnScope ["_law_urn_here", "_law_many", "_law_whole", "_law_state"] ["_law_urn_here", "_law_many"] (defScope sTake) := ⟨rfl, rfl, rfl, by decide +kernel, rfl, by decide +kernel, by decide +kernel⟩
def spTake : Sp := fun vs H Q _ => ∃ (d l : Addr) (many : Nat), vs = [.ref d, .int (many : Nat)] ∧ Urn H d l ∧ many ≤ 1000 ∧
  ∀ (H' : Hp) (r : Nat), Fr d l H H' → Urn H' d l → (many < 2 → r = 0) → (2 ≤ many → r < many) → Q (.int (r : Nat)) H'
theorem mod_nat (x : Int) {m : Nat} (h : 0 < m) : ∃ r : Nat, x % (m : Int) = (r : Nat) ∧ r < m := by
  have h1 := Int.emod_nonneg x (show (m : Int) ≠ 0 by omega)
  have h2 := Int.emod_lt_of_pos x (show (0 : Int) < m by omega)
  exact ⟨(x % (m : Int)).toNat, by omega, by omega⟩
theorem ok_take {f : Addr} {fd : FuncData} {k : Nat} (F : Fun K "_law_take" "_law_take" sTake f fd) (mi : mg "int" = none) : FnOk P w K mg base CX0 (k + 1) f fd ["_law_urn_here", "_law_many"] spTake := by
  refine F.ok scTake (fun vs H Q E h => ?_) (fun cdv A outer s H vs Q E hr h => ?_)
  · obtain ⟨_, _, _, rfl, _⟩ := h
    rfl
  · obtain ⟨d, l, many, rfl, U, hm, q⟩ := h
    have hu := hr.units
    have hu1 : (A.deeper (envOfC "_law_take" (defScope sTake) s.heap.objs.size f cdv)).units + 1 < cLine := by omega
    refine ⟨_, pss_cons (ps_if (pt_cmpR op_lt (pv 1) pe_int (nomark _)) (pss_one (ps_ret pe_int)) pss_nil)
      (pss_cons (ps_if (pt_cmpR (op_neNil hu) (pe_dget hu1 (pv 0) pe_str (fun _ _ => rfl)) (pe_lst pa_nil) (nomark _))
        (pss_cons (ps_set (i := 2) scTake.nd rfl (.inl rfl) (pe_bm0 PySem.F.plainAttrs_list PySem.F.slot_list_pop PySem.F.type_list_pop mt_pop (pe_dget hu1 (pv 0) pe_str (fun _ _ => rfl))))
        (pss_cons (ps_if (pt_cmpR op_ge (pv 2) (pv 1) (nomark _))
          (pss_one (ps_expr (pe_bm PySem.F.plainAttrs_list PySem.F.slot_list_append PySem.F.type_list_append mt_append (pe_dget hu1 (pv 0) pe_str (fun _ _ => rfl)) (pa_cons (pe_op op_fdiv (pv 2) (pv 1)) pa_nil)))) pss_nil)
        (pss_one (ps_ret (pe_op op_mod (pe_callTy call_int1 (by rfl) mi (by decide +kernel) (pa_cons (pv 2) pa_nil)) (pv 1)))))) pss_nil)
      (pss_cons (ps_set (i := 3) scTake.nd rfl (.inl rfl) (pe_op op_mod (pe_callTy call_int1 (by rfl) mi (by decide +kernel) (pa_cons (pe_op op_add (pe_op op_mul (pe_dget hu1 (pv 0) pe_str (fun _ _ => rfl)) pe_int) pe_int) pa_nil)) pe_int))
      (pss_cons (ps_dput hu1 (pv 0) pe_str (pv 3) (by rfl))
      (pss_one (ps_ret (pe_op op_mod (pe_callTy call_int1 (by rfl) mi (by decide +kernel) (pa_cons
        (pe_op op_fdiv (pe_op op_mod (pe_callTy call_int1 (by rfl) mi (by decide +kernel) (pa_cons (pe_op op_add (pe_op op_mul (pv 3) (pv 3)) (pe_op op_mul pe_int (pv 3))) pa_nil)) pe_int) pe_int) pa_nil)) (pv 1))))))), ?_⟩
    obtain ⟨xs, m, e1, e2, hx⟩ := U
    have U : Urn H d l := ⟨xs, m, e1, e2, hx⟩
    have ndl := U.ne
    refine ⟨_, rfl, _, _, rfl, rfl, _, rfl, ?_⟩
    by_cases h2 : many < 2
    · rw [decide_eq_true (show ((many : Nat) : Int) < 2 by omega)]
      exact iteT (q H 0 (Fr.refl _ _ _) U (fun _ => rfl) fun z => absurd h2 (by omega))
    · rw [decide_eq_false (show ¬ ((many : Nat) : Int) < 2 by omega)]
      refine iteF ?_
      refine ⟨.ref d, rfl, d, .ref l, rfl, dget_deep e1, Nat.zero_le _, fun z hz => ⟨l, z, _, rfl, rfl, SqL.of (by rw [upd_ne (ne_of_none e2 hz)]; exact e2), SqL.of upd_same, fun v hv => ?_, _, rfl, ?_⟩⟩
      · obtain ⟨i, _, rfl⟩ := List.mem_map.mp hv
        exact sm_int i
      have s1 : Same H (upd H z (.lst [])) := same_new hz
      have U1 := U.same s1
      have f1 := s1 _ _ e1
      have f2 := s1 _ _ e2
      revert s1 U1 f1 f2
      generalize upd H z (.lst []) = H1
      intro s1 U1 f1 f2
      obtain rfl | ⟨ys, y, rfl⟩ := xs.eq_nil_or_concat
      · refine iteF ?_
        refine ⟨.ref d, rfl, d, .int m, rfl, dget_state f1, m, _, rfl, rfl, .inr ⟨by decide, by decide⟩, _, _, rfl, rfl, .inl ⟨_, rfl, _, _, rfl, rfl, (show (0 : Int) < 2305843009213693951 by decide), ?_⟩⟩
        show gName 3 (V.int ((m * 2862933555777941757 + 3037000493) % 2305843009213693951)) _ _ _
        have b1 := Int.emod_nonneg (m * 2862933555777941757 + 3037000493) (show (2305843009213693951 : Int) ≠ 0 by decide)
        have b2 := Int.emod_lt_of_pos (m * 2862933555777941757 + 3037000493) (show (0 : Int) < 2305843009213693951 by decide)
        revert b1 b2
        generalize (m * 2862933555777941757 + 3037000493) % 2305843009213693951 = st
        intro b1 b2
        refine ⟨_, rfl, .ref d, rfl, d, _, rfl, dput_state f1, ?_⟩
        have st64 : -(2 ^ 64) < st ∧ st < 2 ^ 64 := by omega
        refine ⟨_, rfl, _, rfl, _, _, rfl, rfl, .inl st64, _, rfl, _, _, rfl, rfl, .inl ⟨by decide, by decide⟩, _, _, rfl, rfl, .inl ⟨_, rfl, _, _, rfl, rfl, (show (0 : Int) < 2305843009213693921 by decide), _, _, rfl, rfl, (show (0 : Int) < 4194304 ∧ (4194304 : Int) < 1073741824 by decide), .inl ⟨_, rfl, _, rfl, _, _, rfl, rfl, (show (0 : Int) < (many : Nat) by omega), ?_⟩⟩⟩
        obtain ⟨r, er, hrm⟩ := mod_nat ((st * st + 362436069 * st) % 2305843009213693921 / 4194304) (show 0 < many by omega)
        show Q (V.int ((st * st + 362436069 * st) % 2305843009213693921 / 4194304 % (many : Nat))) _
        rw [er]
        refine q _ r ((Same.fr s1).trans (Fr.putD d l H1 _)) ⟨[], st, upd_same, by rw [upd_ne ndl.symm]; exact f2, by decide⟩ (fun z => absurd z h2) fun _ => hrm
      · rw [List.concat_eq_append] at f2 hx
        have e0 : (!(List.map V.int (ys.concat y)).isEmpty) = true := by rw [List.concat_eq_append]; cases ys <;> rfl
        rw [e0]
        refine iteT ?_
        have ed : ((ys ++ [y]).map V.int).dropLast = ys.map V.int := by rw [List.map_append]; exact List.dropLast_concat
        have eg : ((ys ++ [y]).map V.int)[((ys ++ [y]).map V.int).length - 1]? = some (V.int y) := by
          rw [List.length_map, List.length_append, List.getElem?_map]
          show Option.map V.int ((ys ++ [y])[ys.length + 1 - 1]?) = _
          rw [Nat.add_sub_cancel, List.getElem?_concat_length]
          rfl
        have hy : ys.length + 1 ≤ 100 := by rw [List.length_append] at hx; exact hx
        refine ⟨.ref d, rfl, d, .ref l, rfl, dget_deep f1, .inl ⟨rfl, _, SqL.of f2⟩, l, _, _, rfl, rfl, f2, eg, ?_⟩
        rw [ed]
        have g1 : (upd H1 l (.lst (ys.map V.int))) d = some (.dK (UK l m)) := by rw [upd_ne ndl]; exact f1
        have g2 : (upd H1 l (.lst (ys.map V.int))) l = some (.lst (ys.map V.int)) := upd_same
        have F2 : Fr d l H (upd H1 l (.lst (ys.map V.int))) := (Same.fr s1).trans (Fr.putL d l H1 _)
        revert g1 g2 F2
        generalize upd H1 l (.lst (ys.map V.int)) = H2
        intro g1 g2 F2
        obtain ⟨r, er, hrm⟩ := mod_nat y (show 0 < many by omega)
        refine ⟨_, rfl, _, rfl, _, _, rfl, rfl, _, rfl, ?_⟩
        by_cases hge : (many : Int) ≤ y
        · rw [decide_eq_true hge]
          refine iteT ?_
          refine ⟨.ref d, rfl, d, .ref l, rfl, dget_deep g1, .inl ⟨rfl, _, SqL.of g2⟩, _, rfl, _, rfl, _, _, rfl, rfl, ⟨(show (0 : Int) < (many : Nat) by omega), by omega⟩, l, _, _, rfl, rfl, g2, ?_, ?_⟩
          · rw [List.length_map]
            exact small1000 (by omega)
          · refine ⟨_, rfl, .inl ⟨_, rfl, _, rfl, _, _, rfl, rfl, (show (0 : Int) < (many : Nat) by omega), ?_⟩⟩
            show Q (V.int (y % (many : Nat))) _
            rw [er]
            refine q _ r (F2.trans (Fr.putL d l H2 _)) ⟨ys ++ [y / (many : Nat)], m, by rw [upd_ne ndl]; exact g1, ?_, ?_⟩ (fun z => absurd z h2) fun _ => hrm
            · rw [upd_same, List.map_append]
              rfl
            · rw [List.length_append]
              exact hy
        · rw [decide_eq_false hge]
          refine iteF ?_
          refine ⟨_, rfl, .inl ⟨_, rfl, _, rfl, _, _, rfl, rfl, (show (0 : Int) < (many : Nat) by omega), ?_⟩⟩
          show Q (V.int (y % (many : Nat))) _
          rw [er]
          exact q _ r F2 ⟨ys, m, g1, g2, by omega⟩ (fun z => absurd z h2) fun _ => hrm
end
end Bh

namespace Bh
open PySem PySem.Spec PyProof.Rows L2
/-- ties as they lie on the heap: each pair at an address of its own -/
abbrev Ats := List (Addr × Nat × Nat)
abbrev rf (ps : Ats) : List V := ps.map fun p => V.ref p.1
def Pr (H : Hp) (ps : Ats) : Prop := ∀ p ∈ ps, H p.1 = some (.tup [.int (p.2.1 : Nat), .int (p.2.2 : Nat)])
theorem Pr.fr {H H' : Hp} {d l : Addr} {ps : Ats} (h : Pr H ps) (u : Urn H d l) (f : Fr d l H H') : Pr H' ps := fun p hp => f _ _ (u.tup (h p hp)).1 (u.tup (h p hp)).2 (h p hp)
theorem Pr.same {H H' : Hp} {ps : Ats} (h : Pr H ps) (s : Same H H') : Pr H' ps := fun p hp => s _ _ (h p hp)
theorem Pr.putL {H : Hp} {ps : Ats} {a : Addr} {xs ys : List V} (h : Pr H ps) (e : H a = some (.lst xs)) : Pr (upd H a (.lst ys)) ps := fun p hp => by
  have z := h p hp
  rw [upd_ne (ne_of z e (by intro c; cases c))]
  exact z
theorem sm_pair {K : PySem.W.Frag} {H : Hp} {a : Addr} {i j : Int} (h : SqT K H a [.int i, .int j]) : Sm K H (.ref a) :=
  ⟨.tuple [.int i, .int j], .tup h (.cons (.int i) (.cons (.int j) .nil)), by simp only [PyData.canLay0, PyData.canLayAll0]; rfl, by simp only [PyData.depth, PyData.depthAll]; omega⟩
theorem sm_rf {K : PySem.W.Frag} {H : Hp} {ps : Ats} (h : Pr H ps) : ∀ v ∈ rf ps, Sm K H v := fun v hv => by
  obtain ⟨p, hp, rfl⟩ := List.mem_map.mp hv
  exact sm_pair (SqT.of (h p hp))
theorem split_at {α : Type} : ∀ {xs : List α} {k : Nat} {x : α}, xs[k]? = some x → ∃ u v, xs = u ++ x :: v ∧ u.length = k
  | [], k, x, h => by simp at h
  | y :: ys, 0, x, h => ⟨[], ys, by simp at h; rw [h]; rfl, rfl⟩
  | y :: ys, k + 1, x, h => by
    obtain ⟨u, v, e1, e2⟩ := split_at (xs := ys) (k := k) (x := x) (by simpa using h)
    exact ⟨y :: u, v, by rw [e1]; rfl, by rw [← e2]; rfl⟩
theorem erase_at {α : Type} (x : α) (v : List α) : ∀ u : List α, (u ++ x :: v).eraseIdx u.length = u ++ v
  | [] => rfl
  | y :: u => by
    show y :: (u ++ x :: v).eraseIdx u.length = _
    rw [erase_at x v u]
    rfl
theorem seqIx {n r : Nat} (h : r < n) : seqIndex? (r : Nat) n = some r := by
  have z := PySem.StrLaws.seqIndex_nonneg (i := (r : Nat)) (n := n) (Int.natCast_nonneg r) (by omega)
  exact z
section
variable {P : Program} {w : World} {K : PySem.W.Frag} {mg : Str → Option Value} {base : Heap}
/-! ### _law_pick -/
theorem scPick : FnScope ["_law_urn_here", "_law_some"] ["_law_urn_here", "_law_some"] (defScope sPick) := ⟨rfl, rfl, rfl, by decide +kernel, rfl, by decide +kernel, by decide +kernel⟩
def spPick : Sp := fun vs H Q _ => ∃ (d l a : Addr) (xs : List V), vs = [.ref d, .ref a] ∧ Urn H d l ∧ H a = some (.lst xs) ∧ a ≠ l ∧ 0 < xs.length ∧ xs.length ≤ 1000 ∧
  ∀ (H' : Hp) (r : Nat) (v : V), Fr d l H H' → Urn H' d l → xs[r]? = some v → Q v H'
theorem ok_pick {f fK : Addr} {fd fdK : FuncData} (F : Fun K "_law_pick" "_law_pick" sPick f fd) (FK : Fun K "_law_take" "_law_take" sTake fK fdK) (bK : L2.Binds K fdK ["_law_urn_here", "_law_many"] []) (gK : mg "_law_take" = some (.ref fK)) (mi : mg "int" = none) (ml : mg "len" = none) :
    FnOk P w K mg base CX0 2 f fd ["_law_urn_here", "_law_some"] spPick := by
  have GK : FnOk P w K mg base CX0 1 fK fdK ["_law_urn_here", "_law_many"] spTake := ok_take FK mi
  refine F.ok scPick (fun vs H Q E h => ?_) (fun cdv A outer s H vs Q E hr h => ?_)
  · obtain ⟨_, _, _, _, rfl, _⟩ := h
    rfl
  · obtain ⟨d, l, a, xs, rfl, U, ea, nal, hx, hx2, q⟩ := h
    refine ⟨_, pss_one (ps_ret (pe_ix ix_list (pv 1) (pe_call GK hr (by rfl) gK FK.kp bK .nil pass0 (pa_cons (pv 0) (pa_cons (pe_callB call_len_seq (by rfl) ml PySem.boot_len (pa_cons (pv 1) pa_nil)) pa_nil))) (fun _ _ => rfl))), ?_⟩
    refine ⟨.ref a, rfl, .ref d, rfl, .ref a, rfl, a, _, rfl, .inl (SqL.of ea), d, l, xs.length, rfl, U, hx2, fun H1 r F1 U1 r1 r2 => ?_⟩
    have nad : a ≠ d := fun z => by
      obtain ⟨_, _, e1, _⟩ := U
      rw [z, e1] at ea
      cases ea
    have hrl : r < xs.length := by
      by_cases h : xs.length < 2
      · rw [r1 h]
        exact hx
      · exact r2 (by omega)
    exact ⟨a, xs, (r : Nat), xs[r], rfl, rfl, SqL.of (F1 _ _ nad nal ea), atI_nat (List.getElem?_eq_getElem hrl), q H1 r _ F1 U1 (List.getElem?_eq_getElem hrl)⟩
/-! ### _law_mixed -/
theorem scMixed : FnScope ["_law_urn_here", "_law_some", "_law_rest", "_law_found"] ["_law_urn_here", "_law_some"] (defScope sMixed) := ⟨rfl, rfl, rfl, by decide +kernel, rfl, by decide +kernel, by decide +kernel⟩
def spMixed : Sp := fun vs H Q _ => ∃ (d l a : Addr) (ps : Ats), vs = [.ref d, .ref a] ∧ Urn H d l ∧ H a = some (.lst (rf ps)) ∧ a ≠ l ∧ Pr H ps ∧ ps.length ≤ 100 ∧
  ∀ (H' : Hp) (p : Addr) (qs : Ats), Fr d l H H' → Urn H' d l → H' p = some (.lst (rf qs)) → qs.Perm ps → Q (.ref p) H'
def InvMixed (d l a r f : Addr) (H : Hp) (ps : Ats) : Nat → St → Hp → Prop := fun m σ H1 => ∃ (rs fs : Ats), σ = [some (.ref d), some (.ref a), some (.ref r), some (.ref f)] ∧ Fr d l H H1 ∧ Urn H1 d l ∧
  H1 r = some (.lst (rf rs)) ∧ H1 f = some (.lst (rf fs)) ∧ (fs ++ rs).Perm ps ∧ rs.length ≤ m ∧ Pr H1 rs
theorem ok_mixed {f fK : Addr} {fd fdK : FuncData} (F : Fun K "_law_mixed" "_law_mixed" sMixed f fd) (FK : Fun K "_law_take" "_law_take" sTake fK fdK) (bK : L2.Binds K fdK ["_law_urn_here", "_law_many"] []) (gK : mg "_law_take" = some (.ref fK)) (mi : mg "int" = none) (ml : mg "len" = none) (mli : mg "list" = none) :
    FnOk P w K mg base CX0 2 f fd ["_law_urn_here", "_law_some"] spMixed := by
  have GK : FnOk P w K mg base CX0 1 fK fdK ["_law_urn_here", "_law_many"] spTake := ok_take FK mi
  refine F.ok scMixed (fun vs H Q E h => ?_) (fun cdv A outer s H vs Q E hr h => ?_)
  · obtain ⟨_, _, _, _, rfl, _⟩ := h
    rfl
  · obtain ⟨d, l, a, ps, rfl, U, ea, nal, pr, hx, q⟩ := h
    refine ⟨_, pss_cons (ps_par (i := 2) (j := 3) rfl scMixed.nd rfl rfl (by decide) rfl rfl (pa_cons (pe_callTy call_list_of (by rfl) mli (by decide +kernel) (pa_cons (pv 1) pa_nil)) (pa_cons (pe_lst pa_nil) pa_nil)) (by rfl))
      (pss_cons (ps_while PassesOwn.never (pt_cmpR (op_neNil hr.units) (pv 2) (pe_lst pa_nil) (nomark _))
        (pss_one (ps_expr (pe_bm PySem.F.plainAttrs_list PySem.F.slot_list_append PySem.F.type_list_append mt_append (pv 3) (pa_cons
          (pe_bm PySem.F.plainAttrs_list PySem.F.slot_list_pop PySem.F.type_list_pop mt_popAt (pv 2) (pa_cons (pe_call GK hr (by rfl) gK FK.kp bK .nil pass0 (pa_cons (pv 0) (pa_cons (pe_callB call_len_seq (by rfl) ml PySem.boot_len (pa_cons (pv 2) pa_nil)) pa_nil))) pa_nil)) pa_nil)))))
      (pss_one (ps_ret (pv 3)))), ?_⟩
    refine ⟨.ref a, rfl, a, _, rfl, .inl (SqL.of ea), fun r hrn => ?_⟩
    have s1 : Same H (upd H r (.lst (rf ps))) := same_new hrn
    have e1 : (upd H r (.lst (rf ps))) r = some (.lst (rf ps)) := upd_same
    revert s1 e1
    generalize upd H r (.lst (rf ps)) = H1
    intro s1 e1
    refine ⟨Nat.zero_le _, fun f hfn => ⟨_, _, rfl, ?_⟩⟩
    have s2 : Same H (upd H1 f (.lst [])) := s1.trans (same_new hfn)
    have e2 : (upd H1 f (.lst [])) f = some (.lst (rf [])) := upd_same
    have nrf : r ≠ f := ne_of_none e1 hfn
    have e3 : (upd H1 f (.lst [])) r = some (.lst (rf ps)) := by rw [upd_ne nrf]; exact e1
    have offr := U.off hrn
    have offf := (U.same s1).off hfn
    revert s2 e2 e3
    generalize upd H1 f (.lst []) = H2
    intro s2 e2 e3
    refine ⟨InvMixed d l a r f H ps, ⟨ps.length, ps, [], rfl, Same.fr s2, U.same s2, e3, e2, List.Perm.refl _, Nat.le_refl _, pr.same s2⟩, ?_⟩
    rintro m σ H3 ⟨rs, fs, rfl, F3, U3, g1, g2, hp, hm, pr3⟩
    refine ⟨.ref r, rfl, Nat.zero_le _, fun z hz => ⟨r, z, rf rs, rfl, rfl, SqL.of (by rw [upd_ne (ne_of_none g1 hz)]; exact g1), SqL.of upd_same, sm_rf (pr3.same (same_new hz)), _, rfl, ?_⟩⟩
    have s4 : Same H3 (upd H3 z (.lst [])) := same_new hz
    have F4 : Fr d l H (upd H3 z (.lst [])) := F3.trans (Same.fr s4)
    have U4 := U3.same s4
    have g1 := s4 _ _ g1
    have g2 := s4 _ _ g2
    have pr4 := pr3.same s4
    revert F4 U4 g1 g2 pr4
    clear s4 hz
    generalize upd H3 z (.lst []) = H4
    intro F4 U4 g1 g2 pr4
    cases hrs : rs with
    | nil =>
      subst hrs
      refine iteF ?_
      rw [List.append_nil] at hp
      exact ⟨_, rfl, q H4 f fs F4 U4 g2 hp⟩
    | cons x0 r0 =>
      rw [← hrs]
      have e0 : (!(rf rs).isEmpty) = true := by rw [hrs]; rfl
      rw [e0]
      refine iteT ?_
      have hpos : 0 < rs.length := by rw [hrs]; exact Nat.succ_pos _
      have hle : rs.length ≤ 100 := by
        have z := hp.length_eq
        rw [List.length_append] at z
        omega
      refine ⟨InvMixed d l a r f H ps (rs.length - 1), fun σ' H' z => ⟨rs.length - 1, by omega, z⟩, ?_⟩
      refine ⟨.ref f, rfl, .inl ⟨rfl, _, SqL.of g2⟩, .ref r, rfl, .inl ⟨rfl, _, SqL.of g1⟩, .ref d, rfl, .ref r, rfl, r, _, rfl, .inl (SqL.of g1), d, l, rs.length, congrArg (fun z : Nat => [V.ref d, V.int (z : Nat)]) (List.length_map _), U4, by omega, fun H5 k F5 U5 k1 k2 => ?_⟩
      have hk : k < rs.length := by
        by_cases h : rs.length < 2
        · rw [k1 h]
          exact hpos
        · exact k2 (by omega)
      obtain ⟨u, v, euv, eul⟩ := split_at (List.getElem?_eq_getElem hk)
      revert euv
      generalize rs[k] = x
      intro euv
      have h1 := F5 _ _ offr.1 offr.2 g1
      have h2 := F5 _ _ offf.1 offf.2 g2
      have pr5 := pr4.fr U4 F5
      have ek : (rf rs)[k]? = some (.ref x.1) := by
        rw [euv, ← eul, List.getElem?_map, List.getElem?_append_right (Nat.le_refl _), Nat.sub_self]
        rfl
      have ee : (rf rs).eraseIdx k = rf (u ++ v) := by
        rw [euv, ← eul]
        show (List.map _ (u ++ x :: v)).eraseIdx u.length = List.map _ (u ++ v)
        rw [List.map_append, List.map_append, List.map_cons]
        have z := erase_at (V.ref x.1) (v.map fun p => V.ref p.1) (u.map fun p => V.ref p.1)
        rw [List.length_map] at z
        exact z
      refine ⟨r, _, (k : Nat), k, .ref x.1, rfl, rfl, h1, by omega, by omega, seqIx (by rw [List.length_map]; exact hk), ek, ?_⟩
      rw [ee]
      have F6 : Fr d l H (upd H5 r (.lst (rf (u ++ v)))) := fun b o n1 n2 e => by
        rw [upd_ne (ne_of_none e hrn)]
        exact F5 _ _ n1 n2 (F4 _ _ n1 n2 e)
      have U6 : Urn (upd H5 r (.lst (rf (u ++ v)))) d l := by
        obtain ⟨xs, m', y1, y2, y3⟩ := U5
        exact ⟨xs, m', by rw [upd_ne offr.1.symm]; exact y1, by rw [upd_ne offr.2.symm]; exact y2, y3⟩
      have i1 : (upd H5 r (.lst (rf (u ++ v)))) r = some (.lst (rf (u ++ v))) := upd_same
      have i2 : (upd H5 r (.lst (rf (u ++ v)))) f = some (.lst (rf fs)) := by rw [upd_ne nrf.symm]; exact h2
      have pr6 : Pr (upd H5 r (.lst (rf (u ++ v)))) rs := pr5.putL h1
      revert F6 U6 i1 i2 pr6
      generalize upd H5 r (.lst (rf (u ++ v))) = H6
      intro F6 U6 i1 i2 pr6
      have hfl : fs.length ≤ 100 := by
        have z := hp.length_eq
        rw [List.length_append] at z
        omega
      refine ⟨f, _, _, rfl, rfl, i2, by rw [List.length_map]; exact small1000 (by omega), ?_⟩
      have pr7 : Pr (upd H6 f (.lst (rf fs ++ [.ref x.1]))) rs := pr6.putL i2
      refine ⟨u ++ v, fs ++ [x], rfl, ?_, ?_, ?_, ?_, ?_, ?_, fun p hp' => pr7 p ?_⟩
      · intro b o n1 n2 e
        rw [upd_ne (ne_of_none (s1 _ _ e) hfn)]
        exact F6 _ _ n1 n2 e
      · obtain ⟨xs, m', y1, y2, y3⟩ := U6
        exact ⟨xs, m', by rw [upd_ne offf.1.symm]; exact y1, by rw [upd_ne offf.2.symm]; exact y2, y3⟩
      · rw [upd_ne nrf]
        exact i1
      · rw [upd_same]
        show some (HO.lst (List.map _ fs ++ _)) = some (HO.lst (List.map _ (fs ++ [x])))
        rw [List.map_append]
        rfl
      · rw [euv] at hp
        refine List.Perm.trans ?_ hp
        rw [List.append_assoc]
        refine List.Perm.append_left fs ?_
        show (x :: (u ++ v)).Perm (u ++ x :: v)
        exact List.perm_middle.symm
      · rw [euv, List.length_append, List.length_append, List.length_cons]
        omega
      · rw [euv]
        rcases List.mem_append.mp hp' with z | z
        · exact List.mem_append_left _ z
        · exact List.mem_append_right _ (List.mem_cons_of_mem _ z)
end
end Bh

namespace Bh
open PySem PySem.Spec PyProof.Rows L2
theorem Web.fr {K : PySem.W.Frag} {H H' : Hp} {w tp d l : Addr} {n : Nat} {ts : Ties} {as : List Addr} (W : Web K H w n ts tp as) (f : Fr d l H H') (u : Urn H d l) : Web K H' w n ts tp as :=
  ⟨f.seqT u W.top, f.seqT u W.ties, W.len, fun k a e => f.seqT u (W.each k a e)⟩
/-- what is known of the ties drawn so far: they hold the places up to m together -/
structure Drawn (n m : Nat) (ps : Ats) : Prop where
  ends : ∀ p ∈ ps, p.2.1 < p.2.2 ∧ p.2.2 < n
  conn : ∀ S : Nat → Prop, S 0 → (∀ p ∈ ps, S p.2.1 ↔ S p.2.2) → ∀ q, q ≤ m → S q
theorem Drawn.zero (n : Nat) : Drawn n 0 [] := ⟨fun p hp => (by cases hp), fun S h _ q hq => by rw [Nat.le_zero.mp hq]; exact h⟩
theorem Drawn.tree {n m : Nat} {ps : Ats} (h : Drawn n m ps) {a : Addr} {r : Nat} (hr : r < m + 1) (hm : m + 1 < n) : Drawn n (m + 1) (ps ++ [(a, r, m + 1)]) := by
  refine ⟨fun p hp => ?_, fun S s0 hs q hq => ?_⟩
  · rcases List.mem_append.mp hp with z | z
    · exact h.ends p z
    · rw [List.mem_singleton.mp z]
      exact ⟨hr, hm⟩
  · have old := h.conn S s0 fun p hp => hs p (List.mem_append_left _ hp)
    by_cases e : q = m + 1
    · rw [e]
      exact (hs (a, r, m + 1) (List.mem_append_right _ (List.mem_singleton.mpr rfl))).mp (old r (by omega))
    · exact old q (by omega)
theorem Drawn.more {n m : Nat} {ps : Ats} (h : Drawn n m ps) {a : Addr} {x y : Nat} (hx : x < y) (hy : y < n) : Drawn n m (ps ++ [(a, x, y)]) := by
  refine ⟨fun p hp => ?_, fun S s0 hs q hq => h.conn S s0 (fun p hp => hs p (List.mem_append_left _ hp)) q hq⟩
  rcases List.mem_append.mp hp with z | z
  · exact h.ends p z
  · rw [List.mem_singleton.mp z]
    exact ⟨hx, hy⟩
theorem Drawn.web {n m : Nat} {ps qs : Ats} (h : Drawn n m ps) (hp : qs.Perm ps) (h1 : 1 ≤ n) (h8 : n ≤ 8) (hm : n ≤ m + 1) (hl : ps.length ≤ 30) : WebOk n (qs.map (·.2)) := by
  refine ⟨h1, h8, fun p hp' => ?_, by rw [List.length_map, hp.length_eq]; exact hl, fun S s0 hs q hq => h.conn S s0 (fun p hp' => hs p.2 (List.mem_map.mpr ⟨p, hp.mem_iff.mpr hp', rfl⟩)) q (by omega)⟩
  obtain ⟨p', h', rfl⟩ := List.mem_map.mp hp'
  exact h.ends p' (hp.mem_iff.mp h')
theorem two_of {n x r : Nat} (hx : x < n) (hr : r < n - 1) : ∃ y : Nat, (((x : Nat) : Int) + 1 + ((r : Nat) : Int)) % ((n : Nat) : Int) = (y : Nat) ∧ y < n ∧ y ≠ x := by
  by_cases h : x + 1 + r < n
  · exact ⟨x + 1 + r, by rw [Int.emod_eq_of_lt (by omega) (by omega)]; omega, h, by omega⟩
  · refine ⟨x + 1 + r - n, ?_, by omega, by omega⟩
    have e : (((x : Nat) : Int) + 1 + ((r : Nat) : Int)) = ((x + 1 + r - n : Nat) : Int) + ((n : Nat) : Int) := by omega
    rw [e, Int.add_emod_right, Int.emod_eq_of_lt (by omega) (by omega)]
theorem ite_c {b : Bool} {R : VK} {σ : St} {i m : Nat} {H : Hp} (e : σ[i]? = some (some (.int (m : Nat)))) (h : R (.int ((if b then m else 0 : Nat) : Nat)) H) : if b = true then tVar i σ H R else tC (.int 0) σ H R := by
  cases b with
  | false => exact h
  | true => exact ⟨_, e, h⟩
section
variable {P : Program} {w : World} {K : PySem.W.Frag} {mg : Str → Option Value} {base : Heap}
/-! ### _law_web -/
theorem scLWeb : FnScope ["_law_urn_here", "_law_many", "_law_more", "_law_ties", "_law_place", "_law_turn", "_law_one", "_law_two"] ["_law_urn_here", "_law_many", "_law_more"] (defScope sWeb) := ⟨rfl, rfl, rfl, by decide +kernel, rfl, by decide +kernel, by decide +kernel⟩
def spLWeb (K : PySem.W.Frag) : Sp := fun vs H Q _ => ∃ (d l : Addr) (n more : Nat), vs = [.ref d, .int (n : Nat), .int (more : Nat)] ∧ Urn H d l ∧ 1 ≤ n ∧ n ≤ 8 ∧ more ≤ 10 ∧
  ∀ (H' : Hp) (wb tp : Addr) (ts : Ties) (as : List Addr), Fr d l H H' → Urn H' d l → Web K H' wb n ts tp as → WebOk n ts → Q (.ref wb) H'
/-- the ties so far, at tl -/
structure Tl (d l tl : Addr) (H H1 : Hp) (n m : Nat) (ps : Ats) : Prop where
  fr : Fr d l H H1
  urn : Urn H1 d l
  at_ : H1 tl = some (.lst (rf ps))
  pr : Pr H1 ps
  dr : Drawn n m ps
theorem Tl.step {d l tl : Addr} {H H1 H2 : Hp} {n m : Nat} {ps : Ats} (t : Tl d l tl H H1 n m ps) (o : tl ≠ d ∧ tl ≠ l) (f : Fr d l H1 H2) (u : Urn H2 d l) : Tl d l tl H H2 n m ps :=
  ⟨t.fr.trans f, u, f _ _ o.1 o.2 t.at_, t.pr.fr t.urn f, t.dr⟩
theorem Tl.put {d l tl : Addr} {H H1 : Hp} {n m m' : Nat} {ps : Ats} (t : Tl d l tl H H1 n m ps) (o : tl ≠ d ∧ tl ≠ l) (h0 : H tl = none) {T : Addr} {x y : Nat} (nT : H1 T = none) (dr : Drawn n m' (ps ++ [(T, x, y)])) :
    Tl d l tl H (upd (upd H1 T (.tup [.int (x : Nat), .int (y : Nat)])) tl (.lst (rf ps ++ [.ref T]))) n m' (ps ++ [(T, x, y)]) := by
  have s1 : Same H1 (upd H1 T (.tup [.int (x : Nat), .int (y : Nat)])) := same_new nT
  have e1 := s1 _ _ t.at_
  have u1 := t.urn.same s1
  have neT : tl ≠ T := ne_of_none t.at_ nT
  refine ⟨fun b o' n1 n2 e => ?_, ?_, ?_, ?_, dr⟩
  · rw [upd_ne (ne_of_none e h0)]
    exact s1 _ _ (t.fr _ _ n1 n2 e)
  · obtain ⟨xs, m'', y1, y2, y3⟩ := u1
    exact ⟨xs, m'', by rw [upd_ne o.1.symm]; exact y1, by rw [upd_ne o.2.symm]; exact y2, y3⟩
  · rw [upd_same]
    show some (HO.lst (List.map _ ps ++ _)) = some (HO.lst (List.map _ (ps ++ [_])))
    rw [List.map_append]
    rfl
  · refine Pr.putL (fun p hp => ?_) e1
    rcases List.mem_append.mp hp with z | z
    · exact s1 _ _ (t.pr p z)
    · rw [List.mem_singleton.mp z]
      exact upd_same
theorem ok_lweb {f fK fM : Addr} {fd fdK fdM : FuncData} (F : Fun K "_law_web" "_law_web" sWeb f fd) (FK : Fun K "_law_take" "_law_take" sTake fK fdK) (bK : L2.Binds K fdK ["_law_urn_here", "_law_many"] []) (gK : mg "_law_take" = some (.ref fK))
    (FM : Fun K "_law_mixed" "_law_mixed" sMixed fM fdM) (bM : L2.Binds K fdM ["_law_urn_here", "_law_some"] []) (gM : mg "_law_mixed" = some (.ref fM))
    (mi : mg "int" = none) (ml : mg "len" = none) (mli : mg "list" = none) (mr : mg "range" = none) (mt : mg "tuple" = none) (mmin : mg "min" = none) (mmax : mg "max" = none) :
    FnOk P w K mg base CX0 3 f fd ["_law_urn_here", "_law_many", "_law_more"] (spLWeb K) := by
  have GK : FnOk P w K mg base CX0 1 fK fdK ["_law_urn_here", "_law_many"] spTake := ok_take FK mi
  have GM : FnOk P w K mg base CX0 2 fM fdM ["_law_urn_here", "_law_some"] spMixed := ok_mixed FM FK bK gK mi ml mli
  refine F.ok scLWeb (fun vs H Q E h => ?_) (fun cdv A outer s H vs Q E hr h => ?_)
  · obtain ⟨_, _, _, _, rfl, _⟩ := h
    rfl
  · obtain ⟨d, l, n, more, rfl, U, hn1, hn8, hmore, q⟩ := h
    have hr1 := hr.mono (show 1 ≤ 2 by decide)
    refine ⟨_, pss_cons (ps_set (i := 3) scLWeb.nd rfl (.inl rfl) (pe_lst pa_nil))
      (pss_cons (ps_for PassesOwn.never rfl (pi_range2 (by rfl) mr (pa_cons pe_int (pa_cons (pv 1) pa_nil))) (pg_name (i := 4) scLWeb.nd rfl (.inl rfl))
        (pss_one (ps_expr (pe_bm PySem.F.plainAttrs_list PySem.F.slot_list_append PySem.F.type_list_append mt_append (pv 3) (pa_cons
          (pe_tup (pa_cons (pe_call GK hr1 (by rfl) gK FK.kp bK .nil pass0 (pa_cons (pv 0) (pa_cons (pv 4) pa_nil))) (pa_cons (pv 4) pa_nil))) pa_nil)))))
      (pss_cons (ps_for PassesOwn.never rfl (pi_range1 (by rfl) mr (pa_cons (pe_ifExp (pt_cmpR op_gt (pv 1) pe_int (nomark _)) (pv 2) pe_int) pa_nil)) (pg_name (i := 5) scLWeb.nd rfl (.inl rfl))
        (pss_cons (ps_set (i := 6) scLWeb.nd rfl (.inl rfl) (pe_call GK hr1 (by rfl) gK FK.kp bK .nil pass0 (pa_cons (pv 0) (pa_cons (pv 1) pa_nil))))
        (pss_cons (ps_set (i := 7) scLWeb.nd rfl (.inl rfl) (pe_op op_mod (pe_callTy call_int1 (by rfl) mi (by decide +kernel) (pa_cons
          (pe_op op_add (pe_op op_add (pv 6) pe_int) (pe_call GK hr1 (by rfl) gK FK.kp bK .nil pass0 (pa_cons (pv 0) (pa_cons (pe_op op_sub (pv 1) pe_int) pa_nil)))) pa_nil)) (pv 1)))
        (pss_one (ps_expr (pe_bm PySem.F.plainAttrs_list PySem.F.slot_list_append PySem.F.type_list_append mt_append (pv 3) (pa_cons
          (pe_tup (pa_cons (pe_callB (call_min2 rfl) (by rfl) mmin (by decide +kernel) (pa_cons (pv 6) (pa_cons (pv 7) pa_nil))) (pa_cons (pe_callB (call_max2 rfl) (by rfl) mmax (by decide +kernel) (pa_cons (pv 6) (pa_cons (pv 7) pa_nil))) pa_nil))) pa_nil)))))))
      (pss_one (ps_ret (pe_tup (pa_cons (pv 1) (pa_cons (pe_callTy call_tuple_of (by rfl) mt (by decide +kernel) (pa_cons
        (pe_call GM hr (by rfl) gM FM.kp bM .nil pass0 (pa_cons (pv 0) (pa_cons (pv 3) pa_nil))) pa_nil)) pa_nil))))))), ?_⟩
    refine ⟨Nat.zero_le _, fun tl htl => ?_⟩
    have s1 : Same H (upd H tl (.lst [])) := same_new htl
    have off := U.off htl
    have t0 : Tl d l tl H (upd H tl (.lst [])) n 0 [] := ⟨Same.fr s1, U.same s1, upd_same, fun p hp => (by cases hp), .zero n⟩
    revert t0
    generalize upd H tl (.lst []) = H1
    intro t0
    have keep : ∀ {H2 : Hp} {m : Nat} {ps : Ats} {T : Addr} {o : HO}, Tl d l tl H H2 n m ps → H2 T = none → (upd H2 T o) tl = some (.lst (rf ps)) := fun t h => by rw [upd_ne (ne_of_none t.at_ h)]; exact t.at_
    refine ⟨_, rfl, 1, (n : Nat), rfl, by omega, ?_⟩
    refine for_it (walk_range (lo := 1) (n := (((n : Nat) : Int) - 1).toNat)) (fun i σ H2 => ∃ (ps : Ats) (y4 : Option V), σ = [some (.ref d), some (.int (n : Nat)), some (.int (more : Nat)), some (.ref tl), y4, none, none, none] ∧ Tl d l tl H H2 n i ps ∧ ps.length = i)
      ⟨[], none, rfl, t0, rfl⟩ (fun _ _ _ _ _ => True.intro) (fun i v σ H2 H3 hi hP y => ?_) ?_
    · obtain ⟨ps, y4, rfl, t, hl⟩ := hP
      obtain ⟨rfl, rfl⟩ := y
      have hi' : i + 1 < n := by omega
      have e1 : (1 : Int) + ((i : Nat) : Int) = ((i + 1 : Nat) : Int) := by omega
      show gName 4 (V.int (1 + (i : Nat))) _ _ _
      rw [e1]
      refine ⟨.ref tl, rfl, .inl ⟨rfl, _, SqL.of t.at_⟩, .ref d, rfl, .int ((i + 1 : Nat) : Int), rfl, d, l, i + 1, rfl, t.urn, by omega, fun H4 r F4 U4 r1 r2 => ⟨.int ((i + 1 : Nat) : Int), rfl, (show 2 ≤ sizeLine by decide), fun T hT => ?_⟩⟩
      have t4 := t.step off F4 U4
      have hr' : r < i + 1 := by
        by_cases h : i + 1 < 2
        · rw [r1 h]
          omega
        · exact r2 (by omega)
      refine ⟨tl, _, _, rfl, rfl, keep t4 hT, by rw [List.length_map]; exact small1000 (by omega), ps ++ [(T, r, i + 1)], _, rfl, t4.put off htl hT (t4.dr.tree hr' hi'), ?_⟩
      rw [List.length_append, hl]
      rfl
    · rintro σ H2 ⟨ps, y4, rfl, t, hl⟩
      have hm : n ≤ (((n : Nat) : Int) - 1).toNat + 1 := by omega
      have hl2 : ps.length ≤ 8 := by omega
      revert t hm
      generalize (((n : Nat) : Int) - 1).toNat = m at *
      intro t hm
      -- how many more
      refine ⟨_, rfl, _, _, rfl, rfl, _, rfl, ?_⟩
      refine ite_c (m := more) rfl ?_
      have hc : (if decide ((1 : Int) < ((n : Nat) : Int)) then more else 0) ≤ 10 ∧ (1 < n ∨ (if decide ((1 : Int) < ((n : Nat) : Int)) then more else 0) = 0) := by
        by_cases h : 1 < n
        · rw [decide_eq_true (show (1 : Int) < ((n : Nat) : Int) by omega), if_pos rfl]
          exact ⟨hmore, .inl h⟩
        · rw [decide_eq_false (show ¬ (1 : Int) < ((n : Nat) : Int) by omega), if_neg Bool.false_ne_true]
          exact ⟨by omega, .inr rfl⟩
      revert hc
      generalize (if decide ((1 : Int) < ((n : Nat) : Int)) then more else 0) = c
      rintro ⟨hc, hc2⟩
      refine ⟨(c : Nat), rfl, by omega, by omega, ?_⟩
      refine for_it (walk_range (lo := 0) (n := ((c : Nat) : Int).toNat)) (fun i σ H3 => ∃ (qs : Ats) (y5 y6 y7 : Option V), σ = [some (.ref d), some (.int (n : Nat)), some (.int (more : Nat)), some (.ref tl), y4, y5, y6, y7] ∧ Tl d l tl H H3 n m qs ∧ qs.length ≤ 8 + i)
        ⟨ps, none, none, none, rfl, t, by omega⟩ (fun _ _ _ _ _ => True.intro) (fun i v σ H3 H4 hi hP y => ?_) ?_
      · obtain ⟨qs, y5, y6, y7, rfl, t, hq⟩ := hP
        obtain ⟨rfl, rfl⟩ := y
        have hi' : i < c := hi
        have hn2 : 1 < n := by omega
        refine ⟨.ref d, rfl, .int (n : Nat), rfl, d, l, n, rfl, t.urn, by omega, fun H5 x F5 U5 _ hx => ?_⟩
        have t5 := t.step off F5 U5
        have hx := hx (by omega)
        refine ⟨_, rfl, _, _, rfl, rfl, .ref d, rfl, .int (n : Nat), rfl, _, _, rfl, rfl, d, l, n - 1, congrArg (fun z : Int => [V.ref d, V.int z]) (by omega), U5, by omega, fun H6 r F6 U6 r1 r2 => ?_⟩
        have t6 := t5.step off F6 U6
        have hr' : r < n - 1 := by
          by_cases h : n - 1 < 2
          · rw [r1 h]
            omega
          · exact r2 (by omega)
        obtain ⟨z, ez, hz1, hz2⟩ := two_of hx hr'
        refine ⟨_, _, rfl, rfl, .inl ⟨_, rfl, _, rfl, _, _, rfl, rfl, (show (0 : Int) < (n : Nat) by omega), ?_⟩⟩
        show gName 7 (V.int ((((x : Nat) : Int) + 1 + ((r : Nat) : Int)) % ((n : Nat) : Int))) _ _ _
        rw [ez]
        refine ⟨.ref tl, rfl, .inl ⟨rfl, _, SqL.of t6.at_⟩, _, rfl, _, rfl, _, _, rfl, _, rfl, _, rfl, _, _, rfl, (show 2 ≤ sizeLine by decide), fun T hT => ⟨tl, _, _, rfl, rfl, keep t6 hT, by rw [List.length_map]; exact small1000 (by omega), ?_⟩⟩
        have emin : (if ((z : Nat) : Int) < ((x : Nat) : Int) then ((z : Nat) : Int) else ((x : Nat) : Int)) = ((min z x : Nat) : Int) := by
          by_cases h : z < x
          · rw [if_pos (by omega)]
            omega
          · rw [if_neg (by omega)]
            omega
        have emax : (if ((z : Nat) : Int) > ((x : Nat) : Int) then ((z : Nat) : Int) else ((x : Nat) : Int)) = ((max z x : Nat) : Int) := by
          by_cases h : z > x
          · rw [if_pos (by omega)]
            omega
          · rw [if_neg (by omega)]
            omega
        rw [emin, emax]
        refine ⟨qs ++ [(T, min z x, max z x)], _, _, _, rfl, t6.put off htl hT (t6.dr.more (by omega) (by omega)), ?_⟩
        rw [List.length_append]
        show qs.length + 1 ≤ _
        omega
      · rintro σ H3 ⟨qs, y5, y6, y7, rfl, t, hq⟩
        refine ⟨_, rfl, .ref d, rfl, .ref tl, rfl, d, l, tl, qs, rfl, t.urn, t.at_, off.2, t.pr, by omega, fun H4 p rs F4 U4 ep hp => ?_⟩
        have t4 := t.step off F4 U4
        refine ⟨p, _, rfl, .inl ⟨SqL.of ep, fun tp htp => ⟨(show 2 ≤ sizeLine by decide), fun wb hwb => ?_⟩⟩⟩
        have s5 : Same H4 (upd H4 tp (.tup (rf rs))) := same_new htp
        have s6 := s5.trans (same_new (o := .tup [.int (n : Nat), .ref tp]) hwb)
        have etp := (same_new (o := .tup [.int (n : Nat), .ref tp]) hwb) _ _ (show (upd H4 tp (.tup (rf rs))) tp = some (.tup (rf rs)) from upd_same)
        have ewb : (upd (upd H4 tp (.tup (rf rs))) wb (.tup [.int (n : Nat), .ref tp])) wb = some (.tup [.int (n : Nat), .ref tp]) := upd_same
        have pr6 := t4.pr.same s6
        have U6 := U4.same s6
        have F6 := t4.fr.trans (Same.fr s6)
        revert etp ewb pr6 U6 F6
        clear s6 s5 htp hwb
        generalize upd (upd H4 tp (.tup (rf rs))) wb (.tup [.int (n : Nat), .ref tp]) = H6
        intro etp ewb pr6 U6 F6
        refine q H6 wb tp (rs.map (·.2)) (rs.map (·.1)) F6 U6 ⟨SqT.of ewb, ?_, by rw [List.length_map, List.length_map], fun k a ea => ?_⟩ (t4.dr.web hp hn1 hn8 hm (by omega))
        · rw [List.map_map]
          exact SqT.of etp
        · rw [List.getElem?_map] at ea
          cases e : rs[k]? with
          | none =>
            rw [e] at ea
            cases ea
          | some x =>
            rw [e] at ea
            obtain rfl := Option.some.inj ea
            have et : tie (rs.map (·.2)) k = x.2 := by
              unfold tie
              rw [List.getD_eq_getElem?_getD, List.getElem?_map, e]
              rfl
            rw [et]
            exact SqT.of (pr6 x (hp.mem_iff.mp (List.mem_of_getElem? e)))
end
end Bh

namespace Bh
open PySem PySem.Spec PyProof.Rows L2
section
variable {P : Program} {w : World} {K : PySem.W.Frag} {mg : Str → Option Value} {base : Heap}
/-! ### _law_urn -/
theorem scUrn : FnScope ["_law_script", "_law_urn_here", "_law_cell", "_law_own"] ["_law_script"] (defScope sUrn) := ⟨rfl, rfl, rfl, by decide +kernel, rfl, by decide +kernel, by decide +kernel⟩
def spUrn (K : PySem.W.Frag) : Sp := fun vs H Q _ => ∃ (a : Addr) (ns : List Int), vs = [.ref a] ∧ SqL K H a (ns.map V.int) ∧ ns.length ≤ 63 ∧
  ∀ (H' : Hp) (d l : Addr), Same H H' → Urn H' d l → Q (.ref d) H'
theorem cut_int {ns : List Int} {lo hi : Option Int} {i : Nat} {v : V} (h : (cutV (ns.map V.int) lo hi)[i]? = some v) : ∃ x : Int, v = .int x := by
  have z := List.mem_of_getElem? h
  unfold cutV at z
  obtain ⟨x, _, rfl⟩ := List.mem_map.mp (List.mem_of_mem_drop (List.mem_of_mem_take z))
  exact ⟨x, rfl⟩
theorem Same.seqL {K : PySem.W.Frag} {H H' : Hp} {a : Addr} {xs : List V} (e : Same H H') (h : SqL K H a xs) : SqL K H' a xs := by
  rcases h with (h | ⟨o, h⟩) | h
  · exact .inl (.inl (e _ _ h))
  · exact .inl (.inr ⟨o, e _ _ h⟩)
  · exact .inr h
theorem ok_urn {f : Addr} {fd : FuncData} {k : Nat} (F : Fun K "_law_urn" "_law_urn" sUrn f fd) (ml : mg "len" = none) (ma : mg "abs" = none) (mi : mg "int" = none) : FnOk P w K mg base CX0 (k + 1) f fd ["_law_script"] (spUrn K) := by
  refine F.ok scUrn (fun vs H Q E h => ?_) (fun cdv A outer s H vs Q E hr h => ?_)
  · obtain ⟨_, _, rfl, _⟩ := h
    rfl
  · obtain ⟨a, ns, rfl, ha, hn, q⟩ := h
    have hu := hr.units
    have hu1 : (A.deeper (envOfC "_law_urn" (defScope sUrn) s.heap.objs.size f cdv)).units + 1 < cLine := by omega
    refine ⟨_, pss_cons (ps_set (i := 1) scUrn.nd rfl (.inl rfl) (pe_disp (pps_cons pe_str (pe_lst pa_nil) (pps_cons pe_str (pe_op op_add pe_int (pe_callB call_len_seq (by rfl) ml PySem.boot_len (pa_cons (pe_slice sl_list (pv 0) po_none (po_some pe_int)) pa_nil))) pps_nil)) rfl rfl (fun z => nomatch z) (by decide)))
      (pss_cons (ps_for PassesOwn.never rfl (pi_list (pe_slice sl_list (pv 0) po_none (po_some pe_int))) (pg_name (i := 2) scUrn.nd rfl (.inl rfl))
        (pss_cons (ps_if (pt_cmpR op_ge (pe_callB call_abs (by rfl) ma (by decide +kernel) (pa_cons (pv 2) pa_nil)) (pe_op op_pow pe_int pe_int) (nomark _))
          (pss_one (ps_expr (pe_bm PySem.F.plainAttrs_list PySem.F.slot_list_append PySem.F.type_list_append mt_append (pe_dget hu1 (pv 1) pe_str (fun _ _ => rfl)) (pa_cons (pe_callB call_abs (by rfl) ma (by decide +kernel) (pa_cons (pv 2) pa_nil)) pa_nil)))) pss_nil)
        (pss_cons (ps_set (i := 3) scUrn.nd rfl (.inl rfl) (pe_op op_add (pe_op op_mul pe_int (pe_callB call_abs (by rfl) ma (by decide +kernel) (pa_cons (pv 2) pa_nil))) (pe_callTy call_int1 (by rfl) mi (by decide +kernel) (pa_cons (pe_cmpR op_lt (pv 2) pe_int (nomark _)) pa_nil))))
        (pss_one (ps_dput hu1 (pv 1) pe_str (pe_op op_mod (pe_callTy call_int1 (by rfl) mi (by decide +kernel) (pa_cons (pe_op op_add (pe_op op_mul (pe_op op_add (pe_op op_add (pe_dget hu1 (pv 1) pe_str (fun _ _ => rfl)) (pv 3)) pe_int) pe_int) pe_int) pa_nil)) pe_int) (by rfl))))))
      (pss_one (ps_ret (pv 1)))), ?_⟩
    intro d hd
    refine ⟨Nat.zero_le _, fun l hl => ?_⟩
    have s1 : Same H (upd H d (.dK [])) := same_new hd
    have ed : (upd H d (.dK [])) d = some (.dK []) := upd_same
    have ndl : d ≠ l := ne_of_none ed hl
    have hl0 : H l = none := s1.free hl
    have s2 : Same H (upd (upd H d (.dK [])) l (.lst [])) := s1.trans (same_new hl)
    have e2d : (upd (upd H d (.dK [])) l (.lst [])) d = some (.dK []) := by rw [upd_ne ndl]; exact ed
    have e2l : (upd (upd H d (.dK [])) l (.lst [])) l = some (.lst []) := upd_same
    revert s2 e2d e2l
    generalize upd (upd H d (.dK [])) l (.lst []) = H2
    intro s2 e2d e2l
    refine ⟨_, rfl, 63, rfl, a, _, rfl, Same.seqL s2 ha, fun z hz => ⟨z, _, rfl, .inl (SqL.of upd_same), _, _, rfl, rfl, ?_⟩⟩
    have s3 : Same H (upd H2 z (.lst (cutV (ns.map V.int) none (some 63)))) := s2.trans (same_new hz)
    have e3d : (upd H2 z (.lst (cutV (ns.map V.int) none (some 63)))) d = some (.dK []) := by rw [upd_ne (ne_of_none e2d hz)]; exact e2d
    have e3l : (upd H2 z (.lst (cutV (ns.map V.int) none (some 63)))) l = some (.lst []) := by rw [upd_ne (ne_of_none e2l hz)]; exact e2l
    revert s3 e3d e3l
    clear hz
    generalize upd H2 z (.lst (cutV (ns.map V.int) none (some 63))) = H3
    intro s3 e3d e3l
    refine ⟨e3d, [(.inr "deep", .ref l), (.inr "state", .int (149021 + ((cutV (ns.map V.int) none (some 63)).length : Nat)))], rfl, (show 2 ≤ 15 by decide), ?_⟩
    rw [UK.disp]
    generalize (149021 + ((cutV (ns.map V.int) none (some 63)).length : Int)) = m0
    have s4 : Same H (upd H3 d (.dK (UK l m0))) := same_own s3 hd
    have e4d : (upd H3 d (.dK (UK l m0))) d = some (.dK (UK l m0)) := upd_same
    have e4l : (upd H3 d (.dK (UK l m0))) l = some (.lst []) := by rw [upd_ne ndl.symm]; exact e3l
    revert s4 e4d e4l
    generalize upd H3 d (.dK (UK l m0)) = H4
    intro s4 e4d e4l
    refine ⟨_, rfl, 63, rfl, a, _, rfl, Same.seqL s4 ha, fun z hz => ⟨z, rfl, ⟨_, SqL.of upd_same⟩, ?_⟩⟩
    have hcl : (cutV (ns.map V.int) none (some 63)).length ≤ 63 := Nat.le_trans (cutV_length _ _ _) (by rw [List.length_map]; exact hn)
    have s5 : Same H (upd H4 z (.lst (cutV (ns.map V.int) none (some 63)))) := s4.trans (same_new hz)
    have e5z : (upd H4 z (.lst (cutV (ns.map V.int) none (some 63)))) z = some (.lst (cutV (ns.map V.int) none (some 63))) := upd_same
    have e5d : (upd H4 z (.lst (cutV (ns.map V.int) none (some 63)))) d = some (.dK (UK l m0)) := by rw [upd_ne (ne_of_none e4d hz)]; exact e4d
    have e5l : (upd H4 z (.lst (cutV (ns.map V.int) none (some 63)))) l = some (.lst []) := by rw [upd_ne (ne_of_none e4l hz)]; exact e4l
    have nzd := ne_of_none e4d hz
    have nzl := ne_of_none e4l hz
    revert s5 e5z e5d e5l
    generalize upd H4 z (.lst (cutV (ns.map V.int) none (some 63))) = H5
    intro s5 e5z e5d e5l
    refine for_it (walk_list (K := K) (a := z) (xs := cutV (ns.map V.int) none (some 63))) (fun i σ H1 => ∃ (xs : List Int) (m : Int) (y2 y3 : Option V), σ = [some (.ref a), some (.ref d), y2, y3] ∧ Same H H1 ∧ H1 d = some (.dK (UK l m)) ∧ H1 l = some (.lst (xs.map V.int)) ∧ xs.length ≤ i ∧ H1 z = some (.lst (cutV (ns.map V.int) none (some 63))))
      ⟨[], m0, none, none, rfl, s5, e5d, e5l, Nat.le_refl _, e5z⟩ (fun i σ H1 _ ⟨_, _, _, _, _, _, _, _, _, e⟩ => SqL.of e) (fun i v σ H6 H7 hi hP y => ?_) ?_
    · obtain ⟨xs, m, y2, y3, rfl, s6, f1, f2, hx, f3⟩ := hP
      obtain ⟨rfl, ev⟩ := y
      obtain ⟨c, rfl⟩ := cut_int ev
      refine ⟨_, rfl, c, rfl, _, _, rfl, rfl, (show (0 : Int) ≤ 18 ∧ (18 : Int) ≤ 1000000 ∧ (10 : Int).natAbs < 2 ^ 64 by decide), _, _, rfl, rfl, _, rfl, ?_⟩
      generalize hab : (if c < 0 then -c else c) = ab
      have fin : ∀ (H8 : Hp) (zs : List Int) (m' : Int), Same H H8 → H8 l = some (.lst (zs.map V.int)) → zs.length ≤ i + 1 → H8 z = some (.lst (cutV (ns.map V.int) none (some 63))) →
          Same H (upd H8 d (.dK (UK l m'))) ∧ (upd H8 d (.dK (UK l m'))) d = some (.dK (UK l m')) ∧ (upd H8 d (.dK (UK l m'))) l = some (.lst (zs.map V.int)) ∧ zs.length ≤ i + 1 ∧ (upd H8 d (.dK (UK l m'))) z = some (.lst (cutV (ns.map V.int) none (some 63))) :=
        fun H8 zs m' s8 h1 h2 h3 => ⟨same_own s8 hd, upd_same, by rw [upd_ne ndl.symm]; exact h1, h2, by rw [upd_ne nzd.symm]; exact h3⟩
      by_cases hge : (10 : Int) ^ (18 : Int).toNat ≤ ab
      · rw [decide_eq_true hge]
        refine iteT ?_
        have hi63 : i < 63 := by omega
        refine ⟨.ref d, rfl, d, .ref l, rfl, dget_deep f1, .inl ⟨rfl, _, SqL.of f2⟩, _, rfl, c, rfl, l, _, _, rfl, rfl, f2, by rw [List.length_map]; exact small1000 (by omega), ?_⟩
        have s8 : Same H (upd H7 l (.lst (xs.map V.int ++ [V.int (if c < 0 then -c else c)]))) := same_own s6 hl0
        have g1 : (upd H7 l (.lst (xs.map V.int ++ [V.int (if c < 0 then -c else c)]))) d = some (.dK (UK l m)) := by rw [upd_ne ndl]; exact f1
        have g2 : (upd H7 l (.lst (xs.map V.int ++ [V.int (if c < 0 then -c else c)]))) l = some (.lst ((xs ++ [if c < 0 then -c else c]).map V.int)) := by
          rw [upd_same, List.map_append]
          rfl
        have g3 : (upd H7 l (.lst (xs.map V.int ++ [V.int (if c < 0 then -c else c)]))) z = some (.lst (cutV (ns.map V.int) none (some 63))) := by rw [upd_ne nzl.symm]; exact f3
        revert s8 g1 g2 g3
        generalize upd H7 l (.lst (xs.map V.int ++ [V.int (if c < 0 then -c else c)])) = H8
        intro s8 g1 g2 g3
        refine ⟨_, rfl, c, rfl, _, _, rfl, rfl, .inl ⟨by decide, by decide⟩, _, rfl, _, _, rfl, rfl, .inr ⟨_, rfl, _, _, rfl, rfl, ?_⟩⟩
        refine ⟨.ref d, rfl, d, .int m, rfl, dget_state g1, _, rfl, _, _, rfl, rfl, _, _, rfl, rfl, _, _, rfl, rfl, .inr ⟨by decide, by decide⟩, _, _, rfl, rfl, .inl ⟨_, rfl, _, _, rfl, rfl, (show (0 : Int) < 2305843009213693951 by decide), .ref d, rfl, d, _, rfl, dput_state g1, ?_⟩⟩
        exact ⟨_, _, _, _, rfl, fin H8 _ _ s8 g2 (by rw [List.length_append]; show xs.length + 1 ≤ _; omega) g3⟩
      · rw [decide_eq_false hge]
        refine iteF ?_
        refine ⟨_, rfl, c, rfl, _, _, rfl, rfl, .inl ⟨by decide, by decide⟩, _, rfl, _, _, rfl, rfl, .inr ⟨_, rfl, _, _, rfl, rfl, ?_⟩⟩
        refine ⟨.ref d, rfl, d, .int m, rfl, dget_state f1, _, rfl, _, _, rfl, rfl, _, _, rfl, rfl, _, _, rfl, rfl, .inr ⟨by decide, by decide⟩, _, _, rfl, rfl, .inl ⟨_, rfl, _, _, rfl, rfl, (show (0 : Int) < 2305843009213693951 by decide), .ref d, rfl, d, _, rfl, dput_state f1, ?_⟩⟩
        exact ⟨_, _, _, _, rfl, fin H7 _ _ s6 f2 (by omega) f3⟩
    · rintro σ H1 ⟨xs, m, y2, y3, rfl, s6, f1, f2, hx, f3⟩
      exact ⟨_, rfl, q H1 d l s6 ⟨xs, m, f1, f2, by omega⟩⟩
end
end Bh

namespace Bh
open PySem PySem.Spec PyProof.Rows L2
theorem ne_bi (a b : Bool) : (!decide (V.int (bi a) = V.int (bi b))) = (a != b) := by cases a <;> cases b <;> rfl
/-! stars, as numbers -/
def star (ts : Ties) : Nat → Nat → Nat
  | 0, _ => 0
  | i + 1, p => if p = (tie ts i).2 ∨ p = (tie ts i).1 then star ts i p ||| 2 ^ i else star ts i p
theorem star_bit (ts : Ties) (p k : Nat) (hne : ∀ i, (tie ts i).1 = (tie ts i).2 → ts.length ≤ i) : ∀ i, i ≤ ts.length → (star ts i p).testBit k = (decide (k < i) && hit ts p k)
  | 0, _ => by
    show (0 : Nat).testBit k = _
    rw [Nat.zero_testBit]
    simp
  | i + 1, hi => by
    have ih := star_bit ts p k hne i (by omega)
    have hd : (tie ts i).1 ≠ (tie ts i).2 := fun z => by have := hne i z; omega
    have hhit : hit ts p i = decide (p = (tie ts i).2 ∨ p = (tie ts i).1) := by
      unfold hit
      by_cases a : p = (tie ts i).2
      · have b : ¬ (tie ts i).1 = p := fun z => hd (z.trans a)
        rw [decide_eq_true (.inl a)]
        simp [← a, b]
      · by_cases b : p = (tie ts i).1
        · rw [decide_eq_true (.inr b)]
          have a' : ¬ (tie ts i).2 = p := fun z => a z.symm
          simp [← b, a']
        · rw [decide_eq_false (fun z => z.elim a b)]
          have a' : ¬ (tie ts i).2 = p := fun z => a z.symm
          have b' : ¬ (tie ts i).1 = p := fun z => b z.symm
          have c1 : ((tie ts i).1 == p) = false := beq_eq_false_iff_ne.mpr b'
          have c2 : ((tie ts i).2 == p) = false := beq_eq_false_iff_ne.mpr a'
          rw [c1, c2]
          rfl
    show (if p = (tie ts i).2 ∨ p = (tie ts i).1 then star ts i p ||| 2 ^ i else star ts i p).testBit k = _
    by_cases ek : k = i
    · subst ek
      rw [hhit, decide_eq_true (Nat.lt_succ_self k), Bool.true_and]
      by_cases h : p = (tie ts k).2 ∨ p = (tie ts k).1
      · rw [if_pos h, decide_eq_true h, Nat.testBit_or, Nat.testBit_two_pow_self, Bool.or_true]
      · rw [if_neg h, decide_eq_false h, ih, decide_eq_false (Nat.lt_irrefl k), Bool.false_and]
    · have e1 : decide (k < i + 1) = decide (k < i) := by rw [decide_eq_decide]; omega
      rw [e1]
      by_cases h : p = (tie ts i).2 ∨ p = (tie ts i).1
      · rw [if_pos h, Nat.testBit_or, Nat.testBit_two_pow_of_ne (Ne.symm ek), Bool.or_false, ih]
      · rw [if_neg h, ih]
theorem or_nat (a b : Nat) : Builtin.bitOr (a : Nat) (b : Nat) = ((a ||| b : Nat) : Int) := Bits.bitOr_pp (Int.natCast_nonneg a) (Int.natCast_nonneg b)
section
variable {P : Program} {w : World} {K : PySem.W.Frag} {mg : Str → Option Value} {base : Heap}
/-! ### _law_painted -/
theorem scPainted : FnScope ["_law_web_here", "_law_paint", "_law_k", "_law_one", "_law_two"] ["_law_web_here", "_law_paint"] (defScope sPainted) := ⟨rfl, rfl, rfl, by decide +kernel, rfl, by decide +kernel, by decide +kernel⟩
def spPainted (K : PySem.W.Frag) : Sp := fun vs H Q _ => ∃ (wb p : Addr) (n : Nat) (ts : Ties) (tp : Addr) (as : List Addr) (c : Nat → Bool), vs = [.ref wb, .ref p] ∧ Web K H wb n ts tp as ∧ WebOk n ts ∧ SqT K H p (cl c n) ∧
  ∀ H' q, Same H H' → H' q = some (.tup (nv (paint ts c))) → Q (.ref q) H'
theorem ok_painted {f : Addr} {fd : FuncData} {k : Nat} (F : Fun K "_law_painted" "_law_painted" sPainted f fd) (me : mg "enumerate" = none) (mt : mg "tuple" = none) : FnOk P w K mg base CX0 (k + 1) f fd ["_law_web_here", "_law_paint"] (spPainted K) := by
  refine F.ok scPainted (fun vs H Q E h => ?_) (fun cdv A outer s H vs Q E hr h => ?_)
  · obtain ⟨_, _, _, _, _, _, _, rfl, _⟩ := h
    rfl
  · obtain ⟨wb, p, n, ts, tp, as, c, rfl, W, wo, hp, q⟩ := h
    refine ⟨_, pss_one (ps_ret (pe_callTy call_tuple_of (by rfl) mt (by decide +kernel) (pa_cons
      (pe_lc (own := [("_law_k", 2), ("_law_one", 3), ("_law_two", 4)]) (g := gPair K 2 3 4) (tt := tTest (tOp rNe (tOp (rIxT K) (tVar 1) (tVar 3)) (tOp (rIxT K) (tVar 1) (tVar 4)))) (te := tVar 2) rfl scPainted.nd
        (pi_enumT (by rfl) me (pa_cons (pe_ix ix_tup (pv 0) pe_int (fun _ _ => rfl)) pa_nil))
        (blkOk_by (N := ["_law_web_here", "_law_paint", "_law_k", "_law_one", "_law_two"]) (sc := defScope sPainted) (by decide +kernel))
        (fun _ _ _ _ _ => pg_tup rfl (pgs_cons (pg_name (i := 2) scPainted.nd rfl (.inl rfl)) (pgs_cons (pg_tup rfl (pgs_cons (pg_name (i := 3) scPainted.nd rfl (.inl rfl)) (pgs_cons (pg_name (i := 4) scPainted.nd rfl (.inl rfl)) pgs_nil))) pgs_nil)))
        (fun _ _ _ _ _ => pts_one (pt_cmpR op_ne (pe_ix ix_tup (pv 1) (pv 3) (fun _ _ => rfl)) (pe_ix ix_tup (pv 1) (pv 4) (fun _ _ => rfl)) (nomark _)))
        (fun _ _ _ _ _ => pv 2)) pa_nil))), ?_⟩
    refine ⟨.ref wb, rfl, wb, _, 1, .ref tp, rfl, rfl, W.top, rfl, tp, _, rfl, W.ties, fun D hD => ?_⟩
    have few := wo.few
    refine lc_sel W (by omega) hD (dif ts c) (fun _ => rfl) (fun a H1 R ha sm q => ?_) (fun a H1 R ha sm q => ⟨_, rfl, q⟩) fun H1 sm e1 => ?_
    · have hp1 := Same.seqT sm hp
      refine ⟨.ref p, rfl, _, rfl, p, _, _, _, rfl, rfl, hp1, gm_at _ (wo.one ha), .ref p, rfl, _, rfl, p, _, _, _, rfl, rfl, hp1, gm_at _ (wo.two ha), rfl, _, rfl, ?_⟩
      rw [ne_bi]
      exact q H1 (Same.refl _)
    · exact ⟨D, _, rfl, .inl ⟨SqL.of e1, fun t ht => q _ t (sm.trans (same_new ht)) upd_same⟩⟩
/-! ### _law_stars -/
theorem scStars : FnScope ["_law_web_here", "_law_found", "_law_k", "_law_one", "_law_two"] ["_law_web_here"] (defScope sStars) := ⟨rfl, rfl, rfl, by decide +kernel, rfl, by decide +kernel, by decide +kernel⟩
def spStars (K : PySem.W.Frag) : Sp := fun vs H Q _ => ∃ (wb : Addr) (n : Nat) (ts : Ties) (tp : Addr) (as : List Addr), vs = [.ref wb] ∧ Web K H wb n ts tp as ∧ WebOk n ts ∧
  ∀ H' q, Same H H' → H' q = some (.lst (gm (ni (star ts ts.length)) n)) → Q (.ref q) H'
theorem ok_stars {f : Addr} {fd : FuncData} {k : Nat} (F : Fun K "_law_stars" "_law_stars" sStars f fd) (me : mg "enumerate" = none) : FnOk P w K mg base CX0 (k + 1) f fd ["_law_web_here"] (spStars K) := by
  refine F.ok scStars (fun vs H Q E h => ?_) (fun cdv A outer s H vs Q E hr h => ?_)
  · obtain ⟨_, _, _, _, _, rfl, _⟩ := h
    rfl
  · obtain ⟨wb, n, ts, tp, as, rfl, W, wo, q⟩ := h
    refine ⟨_, pss_cons (ps_set (i := 1) scStars.nd rfl (.inl rfl) (pe_op op_rep (pe_lst (pa_cons pe_int pa_nil)) (pe_ix ix_tup (pv 0) pe_int (fun _ _ => rfl))))
      (pss_cons (ps_for PassesOwn.never rfl (pi_enumT (by rfl) me (pa_cons (pe_ix ix_tup (pv 0) pe_int (fun _ _ => rfl)) pa_nil))
          (pg_tup rfl (pgs_cons (pg_name (i := 2) scStars.nd rfl (.inl rfl)) (pgs_cons (pg_tup rfl (pgs_cons (pg_name (i := 3) scStars.nd rfl (.inl rfl)) (pgs_cons (pg_name (i := 4) scStars.nd rfl (.inl rfl)) pgs_nil))) pgs_nil)))
          (pss_one (ps_asg (pe_tup (pa_cons (pe_op op_or (pe_ix ix_list (pv 1) (pv 3) (fun _ _ => rfl)) (pe_op op_shl pe_int (pv 2))) (pa_cons (pe_op op_or (pe_ix ix_list (pv 1) (pv 4) (fun _ _ => rfl)) (pe_op op_shl pe_int (pv 2))) pa_nil)))
            (pg_tup rfl (pgs_cons (pg_sub (pv 1) (pv 3) set_list) (pgs_cons (pg_sub (pv 1) (pv 4) set_list) pgs_nil))))))
      (pss_one (ps_ret (pv 1)))), ?_⟩
    have hn8 := wo.small
    have few := wo.few
    refine ⟨by show 1 ≤ sizeLine; decide, fun z hz => ⟨.ref wb, rfl, wb, _, 0, .int (n : Nat), rfl, rfl, Same.seqT (same_new hz) W.top, rfl, z, (n : Nat), _, rfl, rfl, upd_same, by omega, by omega, ?_, fun m hm => ?_⟩⟩
    · show 1 * (n : Int).toNat ≤ sizeLine
      have : (sizeLine : Nat) = 16777216 := sizeLine_eq
      omega
    have e0 : (List.replicate ((n : Nat) : Int).toNat [V.int 0]).flatten = gm (ni (star ts 0)) n := rep_gm _ _
    rw [e0]
    have s1 : Same H (upd H z (.lst [V.int 0])) := same_new hz
    have hm0 : H m = none := s1.free hm
    have s2 := s1.trans (same_new (o := .lst (gm (ni (star ts 0)) n)) hm)
    have hlen : (as.map V.ref).length = ts.length := by rw [List.length_map, W.len]
    have wk := walk_enumT (K := K) (a := tp) (xs := as.map V.ref)
    rw [hlen] at wk
    refine ⟨.ref wb, rfl, wb, _, 1, .ref tp, rfl, rfl, Same.seqT s2 W.top, rfl, tp, _, rfl, Same.seqT s2 W.ties, ?_⟩
    refine for_it wk (fun i σ H2 => ∃ y2 y3 y4, σ = [some (.ref wb), some (.ref m), y2, y3, y4] ∧ Same H H2 ∧ H2 m = some (.lst (gm (ni (star ts i)) n)))
      ⟨none, none, none, rfl, s2, upd_same⟩ (fun i σ H3 _ ⟨_, _, _, _, s3, _⟩ => Same.seqT s3 W.ties) (fun i v σ H3 H4 hi hP y => ?_) ?_
    · obtain ⟨y2, y3, y4, rfl, s3, g1⟩ := hP
      refine g_pair (W.same s3) hi y fun s4 => ?_
      have s34 := s3.trans s4
      have h1 := s4 _ _ g1
      have o1 := wo.one hi
      have o2 := wo.two hi
      have hne := wo.ne hi
      refine ⟨.ref m, rfl, _, rfl, m, _, _, _, rfl, rfl, SqL.of h1, gm_at _ o1, _, rfl, _, _, rfl, rfl, ⟨by omega, by omega, by decide⟩, _, _, rfl, rfl,
        .ref m, rfl, _, rfl, m, _, _, _, rfl, rfl, SqL.of h1, gm_at _ o2, _, rfl, _, _, rfl, rfl, ⟨by omega, by omega, by decide⟩, _, _, rfl, rfl, (show 2 ≤ sizeLine by decide), fun T hT => ?_⟩
      rw [shl_nat]
      dsimp only
      rw [or_nat, or_nat]
      have s5 := s34.trans (same_new (o := .tup [V.int ((star ts i (tie ts i).1 ||| 2 ^ i : Nat) : Int), V.int ((star ts i (tie ts i).2 ||| 2 ^ i : Nat) : Int)]) hT)
      have h5 := (same_new (o := .tup [V.int ((star ts i (tie ts i).1 ||| 2 ^ i : Nat) : Int), V.int ((star ts i (tie ts i).2 ||| 2 ^ i : Nat) : Int)]) hT) _ _ h1
      refine ⟨T, _, rfl, SqT.of upd_same, rfl, _, _, rfl, .ref m, rfl, _, rfl, m, _, _, _, rfl, rfl, h5, by rw [gm_len]; exact ixN_nat o1, ?_⟩
      rw [gm_set _ _ o1]
      refine ⟨_, _, rfl, .ref m, rfl, _, rfl, m, _, _, _, rfl, rfl, upd_same, by rw [gm_len]; exact ixN_nat o2, ?_⟩
      rw [gm_set _ _ o2]
      refine ⟨rfl, _, _, _, rfl, same_own (same_own s5 hm0) hm0, ?_⟩
      rw [upd_same]
      refine congrArg (fun z => some (HO.lst z)) (gm_congr fun p _ => ?_)
      show (if p = (tie ts i).2 then V.int ((star ts i (tie ts i).2 ||| 2 ^ i : Nat) : Int) else if p = (tie ts i).1 then V.int ((star ts i (tie ts i).1 ||| 2 ^ i : Nat) : Int) else V.int ((star ts i p : Nat) : Int)) = V.int ((if p = (tie ts i).2 ∨ p = (tie ts i).1 then star ts i p ||| 2 ^ i else star ts i p : Nat) : Int)
      by_cases a : p = (tie ts i).2
      · rw [if_pos a, if_pos (.inl a), a]
      · by_cases b : p = (tie ts i).1
        · rw [if_neg a, if_pos b, if_pos (.inr b), b]
        · rw [if_neg a, if_neg b, if_neg (fun z => z.elim a b)]
    · rintro σ H2 ⟨y2, y3, y4, rfl, s2, e2⟩
      exact ⟨_, rfl, q H2 m s2 e2⟩
end
end Bh

namespace Bh
open PySem PySem.Spec PyProof.Rows L2
theorem filt_snoc (f : Nat → Bool) (r : List Nat) (i k : Nat) (h : r[i]? = some k) : (r.take (i + 1)).filter f = (r.take i).filter f ++ if f k = true then [k] else [] := by
  rw [List.take_add_one, h, List.filter_append]
  show _ ++ List.filter _ [k] = _
  rw [List.filter_cons, List.filter_nil]
theorem filt_len (f : Nat → Bool) (r : List Nat) (i : Nat) : ((r.take i).filter f).length ≤ r.length :=
  Nat.le_trans (List.length_filter_le _ _) (by rw [List.length_take]; exact Nat.min_le_right _ _)
theorem ed1 (b : Bool) : decide (V.int ((if b = true then 1 else 0 : Nat) : Int) = V.int 1) = b := by cases b <;> rfl
theorem bit_test (N p : Nat) : decide (V.int (Builtin.bitAnd (((N : Nat) : Int) / 2 ^ ((p : Nat) : Int).toNat) 1) = V.int 1) = N.testBit p := by
  have e1 : V.int (Builtin.bitAnd (((N : Nat) : Int) / 2 ^ ((p : Nat) : Int).toNat) 1) = V.int ((if N.testBit p = true then 1 else 0 : Nat) : Int) := by rw [bit_at]
  exact (decide_eq_decide.mpr (by rw [e1])).trans (ed1 _)
section
variable {P : Program} {w : World} {K : PySem.W.Frag} {mg : Str → Option Value} {base : Heap}
/-! ### _law_is_even -/
theorem scLEven : FnScope ["_law_web_here", "_law_lot", "_law_star", "_law_k"] ["_law_web_here", "_law_lot"] (defScope sLEven) := ⟨rfl, rfl, rfl, by decide +kernel, rfl, by decide +kernel, by decide +kernel⟩
theorem ok_lEven {f fS : Addr} {fd fdS : FuncData} (F : Fun K "_law_is_even" "_law_is_even" sLEven f fd) (FS : Fun K "_law_stars" "_law_stars" sStars fS fdS) (bS : L2.Binds K fdS ["_law_web_here"] []) (gS : mg "_law_stars" = some (.ref fS)) (me : mg "enumerate" = none) (mi : mg "int" = none) (ml : mg "len" = none) :
    FnOk P w K mg base CX0 2 f fd ["_law_web_here", "_law_lot"] (spEven K) := by
  have GS : FnOk P w K mg base CX0 1 fS fdS ["_law_web_here"] (spStars K) := ok_stars FS me
  refine F.ok scLEven (fun vs H Q E h => ?_) (fun cdv A outer s H vs Q E hr h => ?_)
  · obtain ⟨_, _, _, _, _, _, _, rfl, _⟩ := h
    rfl
  · obtain ⟨wb, l, n, ts, tp, as, L, rfl, W, wo, hl, il, q⟩ := h
    refine ⟨_, pss_cons (ps_for PassesOwn.never rfl (pi_list (pe_call GS hr (by rfl) gS FS.kp bS .nil pass0 (pa_cons (pv 0) pa_nil))) (pg_name (i := 2) scLEven.nd rfl (.inr rfl))
        (pss_one (ps_if (pt_cmpR op_eq (pe_op op_mod (pe_callTy call_int1 (by rfl) mi (by decide +kernel) (pa_cons (pe_callB call_len_seq (by rfl) ml PySem.boot_len (pa_cons
          (pe_lc (own := [("_law_k", 3)]) (g := gName 3) (tt := tTest (tOp rEq (tOp (rI0 fun i j => .int (Builtin.bitAnd i j)) (tOp (rI (fun _ j => 0 ≤ j) fun i j => .int (i / 2 ^ j.toNat)) (tVar 2) (tVar 3)) (tC (.int 1))) (tC (.int 1)))) (te := tVar 3) rfl scLEven.nd (pi_tup (pv 1))
            (blkOk_by (N := ["_law_web_here", "_law_lot", "_law_star", "_law_k"]) (sc := defScope sLEven) (by decide +kernel))
            (fun _ _ _ _ _ => pg_name (i := 3) scLEven.nd rfl (.inl rfl)) (fun _ _ _ _ _ => pts_one (pt_cmpR op_eq (pe_op op_and (pe_op op_shr (pv 2) (pv 3)) pe_int) pe_int (nomark _))) (fun _ _ _ _ _ => pv 3)) pa_nil)) pa_nil)) pe_int) pe_int (nomark _))
          (pss_one (ps_ret pe_bl)) pss_nil)))
      (pss_one (ps_ret pe_bl)), ?_⟩
    have few := wo.few
    refine ⟨.ref wb, rfl, wb, n, ts, tp, as, rfl, W, wo, fun H1 a s1 e1 => ⟨a, rfl, ⟨_, SqL.of e1⟩, ?_⟩⟩
    have wk := walk_list (K := K) (a := a) (xs := gm (ni (star ts ts.length)) n)
    rw [gm_len] at wk
    refine for_it wk (fun i σ H2 => ∃ y2 y3, σ = [some (.ref wb), some (.ref l), y2, y3] ∧ Same H1 H2 ∧ ∀ p, p < i → par ts L p = false)
      ⟨none, none, rfl, Same.refl _, fun p hp => absurd hp (Nat.not_lt_zero _)⟩ (fun i σ H3 _ ⟨_, _, _, s3, _⟩ => SqL.of (s3 _ _ e1)) (fun i v σ H3 H4 hi hP y => ?_) ?_
    · obtain ⟨y2, y3, rfl, s3, ev⟩ := hP
      obtain ⟨rfl, hv⟩ := y
      obtain rfl : V.int ((star ts ts.length i : Nat) : Int) = v := Option.some.inj ((gm_get _ hi).symm.trans hv)
      have hl4 := Same.seqT (s1.trans s3) hl
      refine ⟨.ref l, rfl, l, rfl, ⟨_, hl4⟩, fun D hD => ?_⟩
      refine lc_it (walk_tup (K := K) (a := l) (xs := nv L)) (fun j H5 => Same H4 H5 ∧ H5 D = some (.lst (nv ((L.take j).filter (star ts ts.length i).testBit)))) ⟨same_new hD, upd_same⟩ (fun j H5 _ z => Same.seqT z.1 hl4) (fun j x H5 H6 hj z y => ?_) fun H5 z => ?_
      · obtain ⟨rfl, e5⟩ := y
        obtain ⟨t, ht, rfl⟩ := nv_of e5
        refine ⟨rfl, _, rfl, _, rfl, _, _, rfl, rfl, Int.natCast_nonneg t, _, _, rfl, rfl, rfl, _, rfl, ?_⟩
        have e2 := bit_test (star ts ts.length i) t
        dsimp only
        rw [e2]
        have es := filt_snoc (star ts ts.length i).testBit L j t ht
        revert es
        cases hin : (star ts ts.length i).testBit t with
        | false =>
          intro es
          refine iteF ?_
          exact ⟨z.1, by rw [es, if_neg Bool.false_ne_true, List.append_nil]; exact z.2⟩
        | true =>
          intro es
          refine iteT ?_
          refine ⟨_, rfl, _, z.2, ?_, same_own z.1 hD, ?_⟩
          · rw [nv_len]
            have := il.len
            exact Nat.lt_of_le_of_lt (filt_len _ _ _) (small1000 (by omega))
          · rw [upd_same, nv_snoc, es, if_pos rfl]
      · have z2 := z.2
        rw [nv_len, List.take_length] at z2
        have ef : L.filter (star ts ts.length i).testBit = L.filter (hit ts i) := List.filter_congr fun k hk => by
          rw [star_bit ts i k (fun j e => Nat.le_of_not_lt fun h => wo.ne h e) _ (Nat.le_refl _), decide_eq_true (il.lt k hk), Bool.true_and]
        rw [ef] at z2
        refine ⟨D, _, rfl, .inl (SqL.of z2), .inl ⟨_, rfl, _, _, rfl, rfl, (show (0 : Int) < 2 by decide), rfl, _, rfl, ?_⟩⟩
        rw [nv_len]
        have pc := par_count ts L i
        have s5 := (s1.trans s3).trans z.1
        by_cases ho : (L.filter (hit ts i)).length % 2 = 1
        · rw [decide_eq_true (show V.int (((L.filter (hit ts i)).length : Nat) % 2) = V.int 1 by congr 1; omega)]
          refine iteT ?_
          rw [decide_eq_true ho] at pc
          have ne : evenB n ts L = false := by
            cases e : evenB n ts L with
            | false => rfl
            | true =>
              have z := evenB_iff.mp e i hi
              rw [pc] at z
              cases z
          have qq := q H5 s5
          rw [ne] at qq
          exact qq
        · rw [decide_eq_false (show ¬ V.int (((L.filter (hit ts i)).length : Nat) % 2) = V.int 1 from fun z => ho (by injection z with z; omega))]
          refine iteF ?_
          rw [decide_eq_false ho] at pc
          refine ⟨_, _, rfl, s3.trans z.1, fun p hp => ?_⟩
          by_cases e : p = i
          · rw [e]
            exact pc
          · exact ev p (by omega)
    · rintro σ H2 ⟨y2, y3, rfl, s2, ev⟩
      have qq := q H2 (s1.trans s2)
      rw [evenB_iff.mpr ev] at qq
      exact qq
end
end Bh

namespace Bh
open PySem PySem.Spec PyProof.Rows L2
def Pts (K : PySem.W.Frag) (H : Hp) (n : Nat) (ps : List Addr) : Prop := ∀ a ∈ ps, ∃ c, SqT K H a (cl c n)
theorem Pts.same {K : PySem.W.Frag} {H H' : Hp} {n : Nat} {ps : List Addr} (h : Pts K H n ps) (s : Same H H') : Pts K H' n ps := fun a ha => let ⟨c, e⟩ := h a ha; ⟨c, Same.seqT s e⟩
theorem Pts.fr {K : PySem.W.Frag} {H H' : Hp} {n : Nat} {d l : Addr} {ps : List Addr} (h : Pts K H n ps) (u : Urn H d l) (f : Fr d l H H') : Pts K H' n ps := fun a ha => let ⟨c, e⟩ := h a ha; ⟨c, f.seqT u e⟩
/-- what holds a tuple is not what holds a list -/
theorem seqT_put {K : PySem.W.Frag} {H : Hp} {a D : Addr} {xs ys zs : List V} (h : SqT K H a xs) (e : H D = some (.lst ys)) : SqT K (upd H D (.lst zs)) a xs := by
  rcases h with (h | ⟨o, h⟩) | h
  · exact .inl (.inl (by rw [upd_ne (ne_of h e (by intro z; cases z))]; exact h))
  · exact .inl (.inr ⟨o, by rw [upd_ne (ne_of h e (by intro z; cases z))]; exact h⟩)
  · exact .inr h
theorem Pts.put {K : PySem.W.Frag} {H : Hp} {n : Nat} {D : Addr} {ps : List Addr} {ys zs : List V} (h : Pts K H n ps) (e : H D = some (.lst ys)) : Pts K (upd H D (.lst zs)) n ps := fun a ha => let ⟨c, z⟩ := h a ha; ⟨c, seqT_put z e⟩
theorem Fr.own {d l D : Addr} {H H1 : Hp} {o : HO} (f : Fr d l H H1) (h : H D = none) : Fr d l H (upd H1 D o) := fun b x n1 n2 e => by rw [upd_ne (ne_of_none e h)]; exact f b x n1 n2 e
theorem Urn.put {d l D : Addr} {H : Hp} {o : HO} (u : Urn H d l) (h : D ≠ d ∧ D ≠ l) : Urn (upd H D o) d l := by
  obtain ⟨xs, m, y1, y2, y3⟩ := u
  exact ⟨xs, m, by rw [upd_ne h.1.symm]; exact y1, by rw [upd_ne h.2.symm]; exact y2, y3⟩
abbrev rfs (ps : List Addr) : List V := ps.map V.ref
theorem rfs_snoc (ps : List Addr) (a : Addr) : rfs ps ++ [V.ref a] = rfs (ps ++ [a]) := by
  show _ = List.map _ (ps ++ [a])
  rw [List.map_append]
  rfl
theorem rfs_of {ps : List Addr} {i : Nat} {v : V} (h : (rfs ps)[i]? = some v) : ∃ a, ps[i]? = some a ∧ v = .ref a := by
  rw [List.getElem?_map] at h
  cases e : ps[i]? with
  | none => rw [e] at h; cases h
  | some k => rw [e] at h; exact ⟨k, rfl, (Option.some.inj h).symm⟩
theorem cl_snoc (c : Nat → Bool) (n : Nat) (b : Bool) : cl c n ++ [V.int (bi b)] = cl (fun x => if x < n then c x else b) (n + 1) := by
  show _ = gm (fun x => V.int (bi (if x < n then c x else b))) (n + 1)
  rw [gm_succ, if_neg (Nat.lt_irrefl n)]
  congr 1
  exact gm_congr fun p hp => by rw [if_pos hp]
/-- [own + (b,) for own in found] -/
theorem lc_ext {K : PySem.W.Frag} {H1 : Hp} {f D : Addr} {ps : List Addr} {i j : Nat} {z : Int} {σ : St} {vs : List Nat} {Qd : Hp → Prop} (b : Bool) (hz : z = bi b) (hf : H1 f = some (.lst (rfs ps))) (hp : Pts K H1 i ps) (hl : ps.length ≤ 100) (hi : i ≤ 100) (hD : H1 D = none)
    (hw : ∀ v, wipe (List.set (wipe σ vs) j v) vs = wipe σ vs) (hv : ∀ v, (List.set (wipe σ vs) j v)[j]? = some v)
    (hd : ∀ H' qs, Same H1 H' → H' D = some (.lst (rfs qs)) → qs.length = ps.length → Pts K H' (i + 1) qs → Qd H') :
    ∃ W : Nat → Nat → Hp → Prop, (∃ m, W 0 m (upd H1 D (.lst []))) ∧ ∀ a m H, W a m H →
      ((Itl K f).stop a H ∧ Qd H) ∨ ((Itl K f).go a H ∧ ∃ Nx : Hp → Prop, (∀ H', Nx H' → ∃ m', m' < m ∧ W (a + 1) m' H') ∧ ∀ x H', (Itl K f).yld a H x H' → gName j x (wipe σ vs) H' fun σ2 H2 => wipe σ2 vs = wipe σ vs ∧ tYes σ2 H2 fun b H3 =>
        if b = true then tOp (rCatA K) (tVar j) (tTup (tCons (tC (.int z)) tNil)) σ2 H3 fun y H4 => ∃ acc, H4 D = some (.lst acc) ∧ acc.length < sizeLine ∧ Nx (upd H4 D (.lst (acc ++ [y]))) else Nx H3) := by
  have wk := walk_list (K := K) (a := f) (xs := rfs ps)
  rw [List.length_map] at wk
  refine lc_it wk (fun a H => Same H1 H ∧ ∃ qs, H D = some (.lst (rfs qs)) ∧ qs.length = a ∧ Pts K H (i + 1) qs) ⟨same_new hD, [], upd_same, rfl, fun a ha => (by cases ha)⟩ (fun a H _ p => SqL.of (p.1 _ _ hf)) (fun a x H H' ha p y => ?_) fun H p => ?_
  · obtain ⟨s, qs, e, hq, pq⟩ := p
    obtain ⟨rfl, ex⟩ := y
    obtain ⟨c0, e0, rfl⟩ := rfs_of ex
    obtain ⟨c, hc⟩ := hp c0 (List.mem_of_getElem? e0)
    refine ⟨hw _, ?_⟩
    unfold tYes
    dsimp only
    rw [if_pos rfl]
    refine ⟨_, hv _, (show 1 ≤ sizeLine by decide), fun t ht => ?_⟩
    have s2 : Same H1 (upd H' t (.tup [.int z])) := s.trans (same_new ht)
    have et : (upd H' t (.tup [.int z])) t = some (.tup [.int z]) := upd_same
    have eD : (upd H' t (.tup [.int z])) D = some (.lst (rfs qs)) := by rw [upd_ne (ne_of_none e ht)]; exact e
    have pq2 : Pts K (upd H' t (.tup [.int z])) (i + 1) qs := pq.same (same_new ht)
    revert s2 et eD pq2
    generalize upd H' t (.tup [.int z]) = H5
    intro s2 et eD pq2
    have fin : ∀ (H6 : Hp) (p : Addr), Same H5 H6 → SqT K H6 p (cl c i ++ [.int z]) → ∃ acc, H6 D = some (.lst acc) ∧ acc.length < sizeLine ∧ (Same H1 (upd H6 D (.lst (acc ++ [.ref p]))) ∧ ∃ qs', (upd H6 D (.lst (acc ++ [.ref p]))) D = some (.lst (rfs qs')) ∧ qs'.length = a + 1 ∧ Pts K (upd H6 D (.lst (acc ++ [.ref p]))) (i + 1) qs') := by
      intro H6 p s6 h6
      have e6 := s6 _ _ eD
      refine ⟨_, e6, by rw [List.length_map]; exact small1000 (by omega), same_own (s2.trans s6) hD, qs ++ [p], ?_, ?_, fun q hq' => ?_⟩
      · rw [upd_same, rfs_snoc]
      · rw [List.length_append, hq]
        rfl
      · rcases List.mem_append.mp hq' with m | m
        · exact (pq2.same s6).put e6 q m
        · rw [List.mem_singleton.mp m]
          rw [hz, cl_snoc] at h6
          exact ⟨_, seqT_put h6 e6⟩
    have hc5 := Same.seqT s2 hc
    refine ⟨c0, t, _, _, rfl, rfl, hc5, SqT.of et, ?_, fun en => ?_, fun _ en => (by cases en), fun _ _ p hp' => ?_⟩
    · rw [gm_len]
      show i + 1 ≤ sizeLine
      exact Nat.le_of_lt (small1000 (by omega))
    · refine fin H5 t (Same.refl _) ?_
      rw [en]
      exact SqT.of et
    · exact fin _ p (same_new hp') (SqT.of upd_same)
  · obtain ⟨s, qs, e, hq, pq⟩ := p
    exact hd H qs s e hq pq
section
variable {P : Program} {w : World} {K : PySem.W.Frag} {mg : Str → Option Value} {base : Heap}
/-! ### _law_paints -/
theorem scPaints : FnScope ["_law_urn_here", "_law_many", "_law_found", "_law_place", "_law_own", "_law_turn"] ["_law_urn_here", "_law_many"] (defScope sPaints) := ⟨rfl, rfl, rfl, by decide +kernel, rfl, by decide +kernel, by decide +kernel⟩
def spPaints (K : PySem.W.Frag) : Sp := fun vs H Q _ => ∃ (d l : Addr) (n : Nat), vs = [.ref d, .int (n : Nat)] ∧ Urn H d l ∧ n ≤ 8 ∧
  ∀ (H' : Hp) (p : Addr) (ps : List Addr), Fr d l H H' → Urn H' d l → H' p = some (.lst (rfs ps)) → p ≠ l → ps.length ≤ 100 → Pts K H' n ps → Q (.ref p) H'
theorem ok_paints {f fK : Addr} {fd fdK : FuncData} (F : Fun K "_law_paints" "_law_paints" sPaints f fd) (FK : Fun K "_law_take" "_law_take" sTake fK fdK) (bK : L2.Binds K fdK ["_law_urn_here", "_law_many"] []) (gK : mg "_law_take" = some (.ref fK)) (mi : mg "int" = none)
    (mr : mg "range" = none) (mt : mg "tuple" = none) : FnOk P w K mg base CX0 2 f fd ["_law_urn_here", "_law_many"] (spPaints K) := by
  have GK : FnOk P w K mg base CX0 1 fK fdK ["_law_urn_here", "_law_many"] spTake := ok_take FK mi
  refine F.ok scPaints (fun vs H Q E h => ?_) (fun cdv A outer s H vs Q E hr h => ?_)
  · obtain ⟨_, _, _, rfl, _⟩ := h
    rfl
  · obtain ⟨d, l, n, rfl, U, hn8, q⟩ := h
    refine ⟨_, pss_cons (ps_if (pt_cmpR op_lt (pv 1) pe_int (nomark _))
        (pss_cons (ps_set (i := 2) scPaints.nd rfl (.inl rfl) (pe_lst (pa_cons (pe_tup pa_nil) pa_nil)))
        (pss_cons (ps_for PassesOwn.never rfl (pi_range1 (by rfl) mr (pa_cons (pv 1) pa_nil)) (pg_name (i := 3) scPaints.nd rfl (.inl rfl))
          (pss_one (ps_set (i := 2) scPaints.nd rfl (.inl rfl) (pe_op op_cat
            (pe_lc (own := [("_law_own", 4)]) (g := gName 4) (tt := tYes) (te := tOp (rCatA K) (tVar 4) (tTup (tCons (tC (.int 0)) tNil))) rfl scPaints.nd (pi_list (pv 2))
              (blkOk_by (N := ["_law_urn_here", "_law_many", "_law_found", "_law_place", "_law_own", "_law_turn"]) (sc := defScope sPaints) (by decide +kernel))
              (fun _ _ _ _ _ => pg_name (i := 4) scPaints.nd rfl (.inl rfl)) (fun _ _ _ _ _ => pts_nil) (fun _ _ _ _ _ => pe_op op_catA (pv 4) (pe_tup (pa_cons pe_int pa_nil))))
            (pe_lc (own := [("_law_own", 4)]) (g := gName 4) (tt := tYes) (te := tOp (rCatA K) (tVar 4) (tTup (tCons (tC (.int 1)) tNil))) rfl scPaints.nd (pi_list (pv 2))
              (blkOk_by (N := ["_law_urn_here", "_law_many", "_law_found", "_law_place", "_law_own", "_law_turn"]) (sc := defScope sPaints) (by decide +kernel))
              (fun _ _ _ _ _ => pg_name (i := 4) scPaints.nd rfl (.inl rfl)) (fun _ _ _ _ _ => pts_nil) (fun _ _ _ _ _ => pe_op op_catA (pv 4) (pe_tup (pa_cons pe_int pa_nil))))))))
        (pss_one (ps_ret (pv 2))))) pss_nil)
      (pss_one (ps_ret (pe_lc (own := [("_law_turn", 5)]) (g := gName 5) (tt := tYes) (te := tCB (fun xs H Q => ∃ p ys, xs = [.ref p] ∧ ((SqL K H p ys ∧ ∀ l, H l = none → Q (.ref l) (upd H l (.tup ys))) ∨ (SqT K H p ys ∧ Q (.ref p) H))) (tCons (tLc (iRng1 (tCons (tVar 1) tNil)) (gName 3) tYes (tCall spTake [] E0 (tCons (tVar 0) (tCons (tC (.int 2)) tNil))) [3]) tNil)) rfl scPaints.nd (pi_range1 (by rfl) mr (pa_cons pe_int pa_nil))
        (blkOk_by (N := ["_law_urn_here", "_law_many", "_law_found", "_law_place", "_law_own", "_law_turn"]) (sc := defScope sPaints) (by decide +kernel))
        (fun _ _ _ _ _ => pg_name (i := 5) scPaints.nd rfl (.inl rfl)) (fun _ _ _ _ _ => pts_nil)
        (fun _ _ _ _ _ => pe_callTy call_tuple_of (by rfl) mt (by decide +kernel) (pa_cons
          (pe_lc (own := [("_law_place", 3)]) (g := gName 3) (tt := tYes) (te := tCall spTake [] E0 (tCons (tVar 0) (tCons (tC (.int 2)) tNil))) rfl scPaints.nd (pi_range1 (by rfl) mr (pa_cons (pv 1) pa_nil))
            (blkOk_by (N := ["_law_urn_here", "_law_many", "_law_found", "_law_place", "_law_own", "_law_turn"]) (sc := ⟨.function, [(".0", .local), ("_law_turn", .local), ("tuple", .globalImplicit), ("range", .globalImplicit), ("_law_many", .cell), ("_law_urn_here", .cell)], false, false, []⟩) (by decide +kernel))
            (fun _ _ _ _ _ => pg_name (i := 3) scPaints.nd rfl (.inl rfl)) (fun _ _ _ _ _ => pts_nil)
            (fun _ _ _ _ _ => pe_call GK hr (by rfl) gK FK.kp bK .nil pass0 (pa_cons (pv 0) (pa_cons pe_int pa_nil)))) pa_nil))))), ?_⟩
    refine ⟨_, rfl, _, _, rfl, rfl, _, rfl, ?_⟩
    by_cases h6 : n < 6
    · rw [decide_eq_true (show ((n : Nat) : Int) < 6 by omega)]
      refine iteT ?_
      refine ⟨Nat.zero_le _, fun t ht => ⟨(show 1 ≤ sizeLine by decide), fun f0 hf0 => ?_⟩⟩
      have s1 : Same H (upd H t (.tup [])) := same_new ht
      have off0 := (U.same s1).off hf0
      have s2 := s1.trans (same_new (o := .lst [V.ref t]) hf0)
      have p2 : Pts K (upd (upd H t (.tup [])) f0 (.lst [V.ref t])) 0 [t] := fun a ha => by
        rw [List.mem_singleton.mp ha]
        refine ⟨fun _ => false, SqT.of ?_⟩
        rw [upd_ne (ne_of_none (upd_same (a := t) (o := HO.tup [])) hf0)]
        exact upd_same
      have e2 : (upd (upd H t (.tup [])) f0 (.lst [V.ref t])) f0 = some (.lst (rfs [t])) := upd_same
      revert s2 p2 e2
      generalize upd (upd H t (.tup [])) f0 (.lst [V.ref t]) = H2
      intro s2 p2 e2
      refine ⟨_, rfl, (n : Nat), rfl, by omega, by omega, ?_⟩
      refine for_it (walk_range (lo := 0) (n := ((n : Nat) : Int).toNat)) (fun i σ H3 => ∃ (f : Addr) (ps : List Addr) (y3 : Option V), σ = [some (.ref d), some (.int (n : Nat)), some (.ref f), y3, none, none] ∧ Same H H3 ∧ f ≠ l ∧ H3 f = some (.lst (rfs ps)) ∧ ps.length = 2 ^ i ∧ Pts K H3 i ps)
        ⟨f0, [t], none, rfl, s2, off0.2, e2, rfl, p2⟩ (fun _ _ _ _ _ => True.intro) (fun i v σ H3 H4 hi hP y => ?_) ?_
      · obtain ⟨f, ps, y3, rfl, s3, nfl, ef, hps, pp⟩ := hP
        obtain ⟨rfl, rfl⟩ := y
        have hi' : i < n := hi
        have hle : ps.length ≤ 32 := by
          rw [hps]
          exact Nat.pow_le_pow_right (by decide) (show i ≤ 5 by omega)
        refine ⟨.ref f, rfl, f, rfl, ⟨_, SqL.of ef⟩, fun D hD => ?_⟩
        refine lc_ext false rfl ef pp (by omega) (by omega) hD (fun _ => rfl) (fun _ => rfl) fun H5 qs s5 e5 hq pq => ?_
        have ef5 := s5 _ _ ef
        refine ⟨.ref f, rfl, f, rfl, ⟨_, SqL.of ef5⟩, fun D2 hD2 => ?_⟩
        refine lc_ext true rfl ef5 (pp.same s5) (by omega) (by omega) hD2 (fun _ => rfl) (fun _ => rfl) fun H6 rs s6 e6 hr' pr => ?_
        refine ⟨D, D2, _, _, rfl, rfl, s6 _ _ e5, e6, ?_, fun p hp => ?_⟩
        · rw [List.length_map, List.length_map]
          exact Nat.le_of_lt (small1000 (by omega))
        · have s7 : Same H6 (upd H6 p (.lst (rfs qs ++ rfs rs))) := same_new hp
          refine ⟨p, qs ++ rs, _, rfl, ((s3.trans s5).trans s6).trans s7, (U.off (((s3.trans s5).trans s6).free hp)).2, ?_, ?_, fun a ha => ?_⟩
          · rw [upd_same]
            show some (HO.lst (List.map _ qs ++ List.map _ rs)) = some (HO.lst (List.map _ (qs ++ rs)))
            rw [List.map_append]
          · rw [List.length_append, hq, hr', hps, Nat.pow_succ]
            omega
          · rcases List.mem_append.mp ha with m | m
            · exact ((pq.same s6).same s7) a m
            · exact (pr.same s7) a m
      · rintro σ H3 ⟨f, ps, y3, rfl, s3, nfl, ef, hps, pp⟩
        have hle : ps.length ≤ 32 := by
          rw [hps]
          exact Nat.pow_le_pow_right (by decide) (show ((n : Nat) : Int).toNat ≤ 5 by omega)
        exact ⟨_, rfl, q H3 f ps (Same.fr s3) (U.same s3) ef nfl (by omega) pp⟩
    · rw [decide_eq_false (show ¬ ((n : Nat) : Int) < 6 by omega)]
      refine iteF ?_
      refine ⟨24, rfl, by decide, by decide, fun D hD => ?_⟩
      have offD := U.off hD
      refine lc_it (walk_range (lo := 0) (n := (24 : Int).toNat)) (fun i H3 => Fr d l H H3 ∧ Urn H3 d l ∧ ∃ ps, H3 D = some (.lst (rfs ps)) ∧ ps.length = i ∧ Pts K H3 n ps) ⟨Same.fr (same_new hD), U.same (same_new hD), [], upd_same, rfl, fun a ha => (by cases ha)⟩ (fun i H3 _ z => True.intro) (fun i x H3 H4 hi z y => ?_) fun H3 z => ?_
      · obtain ⟨F3, U3, ps, e3, hps, pp⟩ := z
        obtain ⟨rfl, rfl⟩ := y
        have hi' : i < 24 := hi
        refine ⟨rfl, ?_⟩
        unfold tYes
        dsimp only
        rw [if_pos rfl]
        refine ⟨_, rfl, (n : Nat), rfl, by omega, by omega, fun D1 hD1 => ?_⟩
        have offD1 := U3.off hD1
        have nDD : D ≠ D1 := ne_of_none e3 hD1
        refine lc_it (g := gName 3) (tt := tYes) (te := tCall spTake [] E0 (tCons (tVar 0) (tCons (tC (.int 2)) tNil))) (vs := [3]) (walk_range (lo := 0) (n := ((n : Nat) : Int).toNat)) (fun j H5 => Fr d l H4 H5 ∧ Urn H5 d l ∧ ∃ c, H5 D1 = some (.lst (cl c j))) ⟨Same.fr (same_new hD1), U3.same (same_new hD1), fun _ => false, upd_same⟩ (fun i H3 _ z => True.intro) (fun j x H5 H6 hj z y => ?_) fun H5 z => ?_
        · obtain ⟨F5, U5, c, e5⟩ := z
          obtain ⟨rfl, rfl⟩ := y
          have hj' : j < n := hj
          refine ⟨rfl, ?_⟩
          unfold tYes
          dsimp only
          rw [if_pos rfl]
          refine ⟨.ref d, rfl, d, l, 2, rfl, U5, by decide, fun H7 r F7 U7 _ hr2 => ⟨_, F7 _ _ offD1.1 offD1.2 e5, ?_, (F5.trans F7).own hD1, U7.put offD1, fun x => if x < j then c x else (r == 1), ?_⟩⟩
          · rw [gm_len]
            exact small1000 (by omega)
          · have er : V.int (r : Nat) = V.int (bi (r == 1)) := by
              have := hr2 (by decide)
              match r, this with
              | 0, _ => rfl
              | 1, _ => rfl
            rw [upd_same, er, cl_snoc]
        · obtain ⟨F5, U5, c, e5⟩ := z
          refine ⟨D1, _, rfl, .inl ⟨SqL.of e5, fun t ht => ?_⟩⟩
          have s6 : Same H5 (upd H5 t (.tup (cl c n))) := same_new ht
          have e6 := s6 _ _ (F5 _ _ offD.1 offD.2 e3)
          have et : (upd H5 t (.tup (cl c n))) t = some (.tup (cl c n)) := upd_same
          have p6 := (pp.fr U3 F5).same s6
          have F6 := F3.trans (F5.trans (Same.fr s6))
          have U6 := U5.same s6
          show ∃ acc, (upd H5 t (.tup (cl c n))) D = some (.lst acc) ∧ acc.length < sizeLine ∧ (Fr d l H (upd (upd H5 t (.tup (cl c n))) D (.lst (acc ++ [.ref t]))) ∧ Urn (upd (upd H5 t (.tup (cl c n))) D (.lst (acc ++ [.ref t]))) d l ∧ ∃ ps', (upd (upd H5 t (.tup (cl c n))) D (.lst (acc ++ [.ref t]))) D = some (.lst (rfs ps')) ∧ ps'.length = i + 1 ∧ Pts K (upd (upd H5 t (.tup (cl c n))) D (.lst (acc ++ [.ref t]))) n ps')
          revert e6 et p6 F6 U6
          generalize upd H5 t (.tup (cl c n)) = H6
          intro e6 et p6 F6 U6
          refine ⟨_, e6, ?_, F6.own hD, U6.put offD, ps ++ [t], ?_, ?_, fun a ha => ?_⟩
          · rw [List.length_map]
            exact small1000 (by omega)
          · rw [upd_same, rfs_snoc]
          · rw [List.length_append, hps]
            rfl
          · rcases List.mem_append.mp ha with m | m
            · exact p6.put e6 a m
            · rw [List.mem_singleton.mp m]
              exact ⟨c, seqT_put (SqT.of et) e6⟩
      · obtain ⟨F3, U3, ps, e3, hps, pp⟩ := z
        have h24 : (24 : Int).toNat = 24 := rfl
        exact q H3 D ps F3 U3 e3 offD.2 (by omega) pp
end
end Bh

namespace Bh
open PySem PySem.Spec PyProof.Rows L2
/-- f(k = v, ..), by names alone -/
theorem pe_callK0 {X : Cx} {CX : CXT} {k : Nat} {f : Addr} {fd : FuncData} {ps ks : List Str} {sp : Sp} {E : XK} {x : Str} {p pos : Pos} {kws : List Keyword} {tk : TA} {g : List Value → List Value → List Value} {gV : List V → List V → List V}
    (F : FnOk X.prog X.w X.K X.mg X.base CX k f fd ps sp) (hr : Room k X.A) (hg : Gl X x) (hm : X.mg x = some (.ref f)) (hk : PySem.W.keepIn X.K (.ref f) = true) (hb : KBinds X.K fd ps ks g gV) (hx : Passes CX X E) (hkw : PK X kws tk)
    (hall : (backToKw pos (keywordEach kws X.env)).all (·.1.isSome) = true := by rfl) (hks : (backToKw pos (keywordEach kws X.env)).filterMap (·.1) = ks := by rfl) (hdb : (x == ("__debug__" : Str)) = false := by decide)
    (hpl : ((backTo pos (starEach [] X.env)).any (·.1) || (backToKw pos (keywordEach kws X.env)).any (·.1.isNone)) = false := by rfl) : PE X (.Call (.Name x p) [] kws pos) (tCallK sp gV E tNil tk) := by
  refine ⟨fun pins s σ H Q I h => ?_⟩
  refine wpAny_Call_Name_kw (ld_glob I hg hm ?_ hdb)
  refine PySem.W.callWith_KW0 (h₀ := X.base) I.ok.mod.kin hk hall ?_ hpl
  refine thn (hkw.run pos pins s σ H _ I h) fun ws s2 ⟨zs, H2, I2, rz, q2⟩ => ⟨I2.kIn, ?_⟩
  rw [hks]
  exact run_fnk (us := []) (vs := []) F hr hb hx I2 .nil rz q2
/-- two names, the other way round -/
def swG (us ws : List Value) : List Value := match us, ws with
  | [], [a, b] => [b, a]
  | _, _ => []
def swV (vs zs : List V) : List V := match vs, zs with
  | [], [a, b] => [b, a]
  | _, _ => []
theorem sw_rel {vs : List V} {us : List Value} {zs : List V} {ws : List Value} (r : Vals vs us) (rz : Vals zs ws) : Vals (swV vs zs) (swG us ws) := by
  cases r with
  | cons r1 r2 => exact .nil
  | nil =>
    cases rz with
    | nil => exact .nil
    | cons a ra =>
      cases ra with
      | nil => exact .nil
      | cons b rb =>
        cases rb with
        | nil => exact .cons b (.cons a .nil)
        | cons c rc => exact .nil
theorem sw_len {us ws : List Value} (h : (swG us ws).length = 2) : us = [] ∧ ∃ a b, ws = [a, b] := by
  unfold swG at h
  split at h
  · exact ⟨rfl, _, _, rfl⟩
  · cases h
theorem kb_lotOf {K : PySem.W.Frag} {f : Addr} {fd : FuncData} (F : Fun K "lot_of" "lot_of" sLotOf f fd) : KBinds K fd ["web", "colours"] ["colours", "web"] swG swV := by
  obtain ⟨oc, od, kV, doc, pm, an, cdv, ct, osl, rfl, lk, hcd⟩ := F.ex
  refine ⟨fun s us ws _ hl => ?_, sw_rel⟩
  obtain ⟨rfl, a, b, rfl⟩ := sw_len hl
  exact BindsTo.of_eq (by first | rfl | with_unfolding_all rfl)
theorem kb_colours {K : PySem.W.Frag} {f : Addr} {fd : FuncData} (F : Fun K "colours_of" "colours_of" sColours f fd) : KBinds K fd ["web", "lot"] ["lot", "web"] swG swV := by
  obtain ⟨oc, od, kV, doc, pm, an, cdv, ct, osl, rfl, lk, hcd⟩ := F.ex
  refine ⟨fun s us ws _ hl => ?_, sw_rel⟩
  obtain ⟨rfl, a, b, rfl⟩ := sw_len hl
  exact BindsTo.of_eq (by first | rfl | with_unfolding_all rfl)
section
variable {P : Program} {w : World} {K : PySem.W.Frag} {mg : Str → Option Value} {base : Heap}
/-! ### _law_outcome -/
theorem scOut : FnScope ["_law_way", "_law_web_here", "_law_some", "_law_is_named"] ["_law_way", "_law_web_here", "_law_some", "_law_is_named"] (defScope sOutcome) := ⟨rfl, rfl, rfl, by decide +kernel, rfl, by decide +kernel, by decide +kernel⟩
/-- ['unfit'] at q -/
def IsUnfit (H : Hp) (q : Addr) : Prop := H q = some (.lst [.str "unfit"])
/-- ['told', t] at q -/
def IsTold (H : Hp) (q t : Addr) : Prop := H q = some (.lst [.str "told", .ref t])
def spOut (K : PySem.W.Frag) : Sp := fun vs H Q _ => ∃ (wb p : Addr) (n : Nat) (ts : Ties) (tp : Addr) (as : List Addr) (nm : Bool), Web K H wb n ts tp as ∧ WebOk n ts ∧
  ((vs = [.int 0, .ref wb, .ref p, .bl nm] ∧ ∃ c, SqT K H p (cl c n) ∧ ∀ H' q, Same H H' → (evenB n ts (paint ts c) = false → IsUnfit H' q) → (evenB n ts (paint ts c) = true → ∃ t, IsTold H' q t ∧ H' t = some (.tup (nv (paint ts c)))) → Q (.ref q) H') ∨
   (vs = [.int 1, .ref wb, .ref p, .bl nm] ∧ ∃ L, NT K H p L ∧ IsLot ts.length L ∧
     ∀ H' q, Same H H' → (IsUnfit H' q ∧ ¬ (evenB n ts L = true ∧ CutOf ts L)) ∨ (∃ t s, evenB n ts L = true ∧ s 0 = false ∧ L = paint ts s ∧ IsTold H' q t ∧ H' t = some (.tup (cl s n))) → Q (.ref q) H'))
abbrev EW (W : WX) : XK := fun cls d H => ∀ σ, W cls d σ H
def tbOut (K : PySem.W.Frag) (C : Addr) (W : WX) : TS :=
  tSeq (tIfS (tTest (tOp rEq (tVar 0) (tC (.int 0)))) (tRet (tLst (tCons (tC (.str "told")) (tCons (tIf (tB (tVar 3)) (tCallK (spLotOf K C) swV (EW W) tNil (tCons (tVar 2) (tCons (tVar 1) tNil))) (tCall (spLotOf K C) [] (EW W) (tCons (tVar 1) (tCons (tVar 2) tNil)))) tNil)))) tNext)
    (tRet (tLst (tCons (tC (.str "told")) (tCons (tIf (tB (tVar 3)) (tCallK (spColours K C) swV (EW W) tNil (tCons (tVar 2) (tCons (tVar 1) tNil))) (tCall (spColours K C) [] (EW W) (tCons (tVar 1) (tCons (tVar 2) tNil)))) tNil))))
theorem ok_out {B C fi : Addr} {f fL fC : Addr} {fd fdL fdC : FuncData} (T : UnfTxt K mg B C fi) (F : Fun K "_law_outcome" "_law_outcome" sOutcome f fd)
    (GL : FnOk P w K mg base (L2.CX P w) 3 fL fdL ["web", "colours"] (spLotOf K C)) (FL : Fun K "lot_of" "lot_of" sLotOf fL fdL) (bL : L2.Binds K fdL ["web", "colours"] []) (gL : mg "lot_of" = some (.ref fL))
    (GC : FnOk P w K mg base (L2.CX P w) 5 fC fdC ["web", "lot"] (spColours K C)) (FC : Fun K "colours_of" "colours_of" sColours fC fdC) (bC : L2.Binds K fdC ["web", "lot"] []) (gC : mg "colours_of" = some (.ref fC)) :
    FnOk P w K mg base CX0 6 f fd ["_law_way", "_law_web_here", "_law_some", "_law_is_named"] (spOut K) := by
  refine F.ok scOut (fun vs H Q E h => ?_) (fun cdv A outer s H vs Q E hr h => ?_)
  · obtain ⟨_, _, _, _, _, _, _, _, _, ⟨rfl, _⟩ | ⟨rfl, _⟩⟩ := h
    · rfl
    · rfl
  · have hr3 := hr.mono (show 3 ≤ 5 by decide)
    refine ⟨_, pss_one (ps_try_many (tb := tbOut K C) (Wout := fun _ _ _ _ => False) (l := [(.ref C, fun _ _ _ => tRet (tLst (tCons (tC (.str "unfit")) tNil))), (.ref B, fun _ _ _ => tRet (tLst (tCons (tC (.str "other")) tNil)))]) rfl rfl (fun u s' x => by
        obtain ⟨a, B, sI, pins, σ, H, cls, d, e1, I, nb, up, sky, na, os, ag, w⟩ := x
        exact w.elim)
      (fun W pn xe tk po => pss_cons (ps_if (pt_cmpR op_eq (pv 0) pe_int (nomark _))
          (pss_one (ps_ret (pe_lst (pa_cons pe_str (pa_cons (pe_ifExp (pt_val (pv 3))
            (pe_callK0 GL hr3 (by rfl) gL FL.kp (kb_lotOf FL) (passes_call tk fun _ _ _ _ h => h _) (pk_cons (pv 2) (pk_cons (pv 1) pk_nil)))
            (pe_call GL hr3 (by rfl) gL FL.kp bL .nil (passes_call tk fun _ _ _ _ h => h _) (pa_cons (pv 1) (pa_cons (pv 2) pa_nil)))) pa_nil))))) pss_nil)
        (pss_one (ps_ret (pe_lst (pa_cons pe_str (pa_cons (pe_ifExp (pt_val (pv 3))
            (pe_callK0 GC hr (by rfl) gC FC.kp (kb_colours FC) (passes_call tk fun _ _ _ _ h => h _) (pk_cons (pv 2) (pk_cons (pv 1) pk_nil)))
            (pe_call GC hr (by rfl) gC FC.kp bC .nil (passes_call tk fun _ _ _ _ h => h _) (pa_cons (pv 1) (pa_cons (pv 2) pa_nil)))) pa_nil))))))
      (.cons ⟨by rfl, by decide, .inl T.gC⟩ (fun a oe cls d pn _ _ => pss_one (ps_ret (pe_lst (pa_cons pe_str pa_nil))))
        (.cons ⟨by rfl, by decide, .inl T.gB⟩ (fun a oe cls d pn _ _ => pss_one (ps_ret (pe_lst (pa_cons pe_str pa_nil)))) .nil))), ?_⟩
    obtain ⟨wb, p, n, ts, tp, as, nm, W, wo, ⟨rfl, c, hp, q⟩ | ⟨rfl, L, hl, il, q⟩⟩ := h
    · have hE : ∀ H1, Same H H1 → evenB n ts (paint ts c) = false → (EW (wMany K (fun _ _ _ _ => False) { nx := fun _ H' => Q .non H', rt := Q } [(.ref C, fun _ _ _ => tRet (tLst (tCons (tC (.str "unfit")) tNil))), (.ref B, fun _ _ _ => tRet (tLst (tCons (tC (.str "other")) tNil)))])) (.ref C) none H1 := fun H1 s1 ev σ => ⟨true, T.te, fun _ a ha => ⟨(show 1 ≤ sizeLine by decide), fun z hz => q _ z (s1.trans (same_new hz)) (fun _ => upd_same) fun e => by rw [ev] at e; cases e⟩, fun z => nomatch z⟩
      refine ⟨_, rfl, rfl, _, rfl, iteT ?_⟩
      refine ⟨_, rfl, nm, rfl, ?_⟩
      have fin : ∀ H1 t, Same H H1 → evenB n ts (paint ts c) = true → H1 t = some (.tup (nv (paint ts c))) → ([V.str "told", V.ref t].length ≤ sizeLine ∧ ∀ z, H1 z = none → Q (.ref z) (upd H1 z (.lst [.str "told", .ref t]))) := fun H1 t s1 ev et =>
        ⟨(show 2 ≤ sizeLine by decide), fun z hz => q _ z (s1.trans (same_new hz)) (fun e => by rw [ev] at e; cases e) fun _ => ⟨t, upd_same, (same_new hz) _ _ et⟩⟩
      cases nm with
      | true => exact iteT ⟨_, rfl, _, rfl, wb, p, n, ts, tp, as, c, rfl, W, wo, hp, hE, fin⟩
      | false => exact iteF ⟨_, rfl, _, rfl, wb, p, n, ts, tp, as, c, rfl, W, wo, hp, hE, fin⟩
    · have hE : ∀ H1, Same H H1 → ¬ (evenB n ts L = true ∧ CutOf ts L) → (EW (wMany K (fun _ _ _ _ => False) { nx := fun _ H' => Q .non H', rt := Q } [(.ref C, fun _ _ _ => tRet (tLst (tCons (tC (.str "unfit")) tNil))), (.ref B, fun _ _ _ => tRet (tLst (tCons (tC (.str "other")) tNil)))])) (.ref C) none H1 := fun H1 s1 ev σ => ⟨true, T.te, fun _ a ha => ⟨(show 1 ≤ sizeLine by decide), fun z hz => q _ z (s1.trans (same_new hz)) (.inl ⟨upd_same, ev⟩)⟩, fun z => nomatch z⟩
      refine ⟨_, rfl, rfl, _, rfl, iteF ?_⟩
      refine ⟨_, rfl, nm, rfl, ?_⟩
      have fin : ∀ H1 t s, Same H H1 → evenB n ts L = true → s 0 = false → L = paint ts s → H1 t = some (.tup (cl s n)) → ([V.str "told", V.ref t].length ≤ sizeLine ∧ ∀ z, H1 z = none → Q (.ref z) (upd H1 z (.lst [.str "told", .ref t]))) := fun H1 t s s1 ev s0 hs et =>
        ⟨(show 2 ≤ sizeLine by decide), fun z hz => q _ z (s1.trans (same_new hz)) (.inr ⟨t, s, ev, s0, hs, upd_same, (same_new hz) _ _ et⟩)⟩
      cases nm with
      | true => exact iteT ⟨_, rfl, _, rfl, wb, p, n, ts, tp, as, L, rfl, W, wo, hl, il, hE, fin⟩
      | false => exact iteF ⟨_, rfl, _, rfl, wb, p, n, ts, tp, as, L, rfl, W, wo, hl, il, hE, fin⟩
end
end Bh

namespace Bh
open PySem PySem.Spec PyProof.Rows L2
/-! ### data that repr shows and == compares -/
abbrev di (ns : List Int) : List PyData := ns.map PyData.int
structure Fi (d : PyData) (k w : Nat) : Prop where
  sh : d.showable = true
  nod : d.hasDict = false
  lay : d.canLay0 = true
  dep : d.depth ≤ k
  short : d.leavesShort 13 = true
  wt : d.weight ≤ w
structure Fis (ds : List PyData) (k w : Nat) : Prop where
  sh : PyData.showableAll ds = true
  nod : PyData.hasDictAll ds = false
  lay : PyData.canLayAll0 ds = true
  dep : PyData.depthAll ds ≤ k
  short : PyData.leavesShortAll 13 ds = true
  wt : PyData.weightAll ds ≤ w
theorem Fis.nil {k w : Nat} : Fis [] k w := ⟨by simp only [PyData.showableAll], by simp only [PyData.hasDictAll], by simp only [PyData.canLayAll0], by simp only [PyData.depthAll]; omega, by simp only [PyData.leavesShortAll], by simp only [PyData.weightAll]; omega⟩
theorem Fis.cons {d : PyData} {ds : List PyData} {k w v : Nat} (a : Fi d k w) (b : Fis ds k v) : Fis (d :: ds) k (w + 1 + v) := by
  have h1 := a.dep
  have h2 := b.dep
  have h3 := a.wt
  have h4 := b.wt
  refine ⟨?_, ?_, ?_, ?_, ?_, ?_⟩
  · simp only [PyData.showableAll, a.sh, b.sh, Bool.and_self]
  · simp only [PyData.hasDictAll, a.nod, b.nod, Bool.or_self]
  · simp only [PyData.canLayAll0, a.lay, b.lay, Bool.and_self]
  · simp only [PyData.depthAll]
    omega
  · simp only [PyData.leavesShortAll, a.short, b.short, Bool.and_self]
  · simp only [PyData.weightAll]
    omega
theorem Fi.list {ds : List PyData} {k w : Nat} (a : Fis ds k w) : Fi (.list ds) (k + 1) w := by
  have h := a.dep
  refine ⟨?_, ?_, ?_, ?_, ?_, ?_⟩
  · simpa only [PyData.showable] using a.sh
  · simpa only [PyData.hasDict] using a.nod
  · simpa only [PyData.canLay0] using a.lay
  · simp only [PyData.depth]
    omega
  · simpa only [PyData.leavesShort] using a.short
  · simpa only [PyData.weight] using a.wt
theorem Fi.tuple {ds : List PyData} {k w : Nat} (a : Fis ds k w) : Fi (.tuple ds) (k + 1) w := by
  have h := a.dep
  refine ⟨?_, ?_, ?_, ?_, ?_, ?_⟩
  · simpa only [PyData.showable] using a.sh
  · simpa only [PyData.hasDict] using a.nod
  · simpa only [PyData.canLay0] using a.lay
  · simp only [PyData.depth]
    omega
  · simpa only [PyData.leavesShort] using a.short
  · simpa only [PyData.weight] using a.wt
theorem Fi.int {i : Int} {k : Nat} (h : i.natAbs < 1000) : Fi (.int i) k 11 := by
  have hl : i.natAbs.log2 < 10 := by
    by_cases h0 : i.natAbs = 0
    · rw [h0]
      decide
    · exact (Nat.log2_lt h0).mpr (by omega)
  refine ⟨?_, ?_, ?_, ?_, ?_, ?_⟩
  · simp only [PyData.showable, decide_eq_true_eq]
    omega
  · simp only [PyData.hasDict]
  · simp only [PyData.canLay0]
  · simp only [PyData.depth]
    omega
  · simp only [PyData.leavesShort, decide_eq_true_eq]
    exact PyData.shown_int_le (by omega)
  · simp only [PyData.weight]
    split <;> omega
theorem Fis.ints {k : Nat} : ∀ ns : List Int, (∀ n ∈ ns, n.natAbs < 1000) → Fis (di ns) k (12 * ns.length)
  | [], _ => .nil
  | n :: ns, h => by
    have z := Fis.cons (Fi.int (k := k) (h n List.mem_cons_self)) (Fis.ints ns fun m hm => h m (List.mem_cons_of_mem _ hm))
    have e : 11 + 1 + 12 * ns.length = 12 * (n :: ns).length := by rw [List.length_cons]; omega
    rw [e] at z
    exact z
theorem Fi.told {k : Nat} : Fi (.str "told") k 4 := ⟨by simp only [PyData.showable], by simp only [PyData.hasDict], by simp only [PyData.canLay0]; decide +kernel, by simp only [PyData.depth]; omega, by simp only [PyData.leavesShort]; decide +kernel, by simp only [PyData.weight]; decide +kernel⟩
theorem Fi.unfit {k : Nat} : Fi (.str "unfit") k 5 := ⟨by simp only [PyData.showable], by simp only [PyData.hasDict], by simp only [PyData.canLay0]; decide +kernel, by simp only [PyData.depth]; omega, by simp only [PyData.leavesShort]; decide +kernel, by simp only [PyData.weight]; decide +kernel⟩
theorem Fi.shown {d : PyData} {k w : Nat} (h : Fi d k w) (hw : w ≤ 2 ^ 20) : d.shown.length ≤ sizeLine := PyData.shown_fits (by decide) (by decide) h.short (Nat.le_trans h.wt hw)
theorem Fi.shaped {d : PyData} {k w : Nat} (h : Fi d k w) (hk : k ≤ 20) : SeqAt.shaped d = true := by
  show (d.canLay0 && decide (d.depth ≤ 64)) = true
  have := h.dep
  rw [h.lay, decide_eq_true (by omega)]
  rfl
theorem dp_ints {K : PySem.W.Frag} {H : Hp} : ∀ ns : List Int, DpAll K H (ns.map V.int) (di ns)
  | [] => .nil
  | n :: ns => .cons (.int n) (dp_ints ns)
theorem eqv_ints : ∀ ns : List Int, PyData.eqvAll (di ns) (di ns) = true
  | [] => by simp only [List.map_nil, PyData.eqvAll]
  | n :: ns => by
    show PyData.eqvAll (PyData.int n :: di ns) (PyData.int n :: di ns) = true
    simp only [PyData.eqvAll, eqv_ints ns, Bool.and_true]
    simp [PyData.eqv]
/-- what repr needs -/
theorem rp {K : PySem.W.Frag} {H : Hp} {a : Addr} {d : PyData} {k w : Nat} {Q : VK} (hd : Dp K H (.ref a) d) (f : Fi d k w) (hk : k ≤ 20) (hw : w ≤ 2 ^ 20) (q : Q (.str d.shown) H) : rRepr K [V.ref a] H Q :=
  ⟨a, d, rfl, hd, f.sh, f.nod, by have := f.dep; omega, f.shown hw, q⟩
end Bh

namespace Bh
open PySem PySem.Spec PyProof.Rows L2
/-! ### what _law_is_told needs besides -/
def ky (L : List Nat) : List Key := L.map fun k : Nat => Sum.inl (k : Int)
theorem ky_nv (L : List Nat) : (ky L).map kV = nv L := by
  unfold ky
  rw [List.map_map]
  rfl
theorem ky_inj {L M : List Nat} (h : ky L = ky M) : L = M := by
  have z := congrArg (List.map fun k : Key => match k with | .inl i => i.toNat | .inr _ => 0) h
  unfold ky at z
  rw [List.map_map, List.map_map] at z
  have e : ∀ l : List Nat, l.map ((fun k : Key => match k with | .inl i => i.toNat | .inr _ => 0) ∘ fun k : Nat => Sum.inl (k : Int)) = l := fun l => by
    rw [show ((fun k : Key => match k with | .inl i => i.toNat | .inr _ => 0) ∘ fun k : Nat => (Sum.inl (k : Int) : Key)) = id from funext fun k => rfl, List.map_id]
  rw [e, e] at z
  exact z
theorem mem_putK {kvs : List (List Key × V)} {k : List Key} {v : V} {kv : List Key × V} (h : kv ∈ putK kvs k v) : (∃ kv' ∈ kvs, kv.1 = kv'.1) ∨ kv.1 = k := by
  unfold putK at h
  split at h
  · obtain ⟨p, hp, rfl⟩ := List.mem_map.mp h
    refine .inl ⟨p, hp, ?_⟩
    split <;> rfl
  · rcases List.mem_append.mp h with z | z
    · exact .inl ⟨kv, z, rfl⟩
    · rw [List.mem_singleton.mp z]
      exact .inr rfl
theorem valV_none {kvs : List (List Key × V)} {k : List Key} : (∀ kv ∈ kvs, kv.1 ≠ k) → valV kvs k = none := by
  induction kvs with
  | nil => intro _; rfl
  | cons p r ih => intro h; rw [valV_neg (h p List.mem_cons_self)]; exact ih fun kv hkv => h kv (List.mem_cons_of_mem _ hkv)
theorem keys_of {H : Hp} {kvs : List (List Key × V)} {bs : List Addr} (h : IsKeys H kvs bs) : ∀ b ∈ bs, ∃ p ∈ kvs, H b = some (.tup (p.1.map kV)) := by
  unfold IsKeys at h
  induction h with
  | nil => intro b hb; cases hb
  | @cons p c l₁ l₂ h1 h2 ih =>
    intro b hb
    rcases List.mem_cons.mp hb with rfl | hb
    · exact ⟨p, List.mem_cons_self, h1⟩
    · obtain ⟨p', m, e⟩ := ih b hb
      exact ⟨p', List.mem_cons_of_mem _ m, e⟩
theorem keys_len {H : Hp} {kvs : List (List Key × V)} {bs : List Addr} (h : IsKeys H kvs bs) : bs.length = kvs.length := (Paired.length h).symm
/-- the known lots -/
def Kn (n : Nat) (ts : Ties) (kvs : List (List Key × V)) : Prop := ∀ kv ∈ kvs, ∃ L, kv.1 = ky L ∧ evenB n ts L = true ∧ ∃ c, L = paint ts c
theorem Kn.put {n : Nat} {ts : Ties} {kvs : List (List Key × V)} (h : Kn n ts kvs) {L : List Nat} (v : V) (ev : evenB n ts L = true) (c : Nat → Bool) (hc : L = paint ts c) : Kn n ts (putK kvs (ky L) v) := fun kv hkv => by
  rcases mem_putK hkv with ⟨kv', m, e⟩ | e
  · obtain ⟨M, h1, h2⟩ := h kv' m
    exact ⟨M, e.trans h1, h2⟩
  · exact ⟨L, e, ev, c, hc⟩
/-- a key, or the empty lot -/
def IsK (K : PySem.W.Frag) (n : Nat) (ts : Ties) (H : Hp) (b : Addr) : Prop := ∃ L c, NT K H b L ∧ evenB n ts L = true ∧ L = paint ts c
theorem seqT_putD {K : PySem.W.Frag} {H : Hp} {a D : Addr} {xs : List V} {ys zs : List (List Key × V)} (h : SqT K H a xs) (e : H D = some (.dT ys)) : SqT K (upd H D (.dT zs)) a xs := by
  rcases h with (h | ⟨o, h⟩) | h
  · exact .inl (.inl (by rw [upd_ne (ne_of h e (by intro z; cases z))]; exact h))
  · exact .inl (.inr ⟨o, by rw [upd_ne (ne_of h e (by intro z; cases z))]; exact h⟩)
  · exact .inr h
theorem Web.putD {K : PySem.W.Frag} {H : Hp} {w tp D : Addr} {n : Nat} {ts : Ties} {as : List Addr} {ys zs : List (List Key × V)} (W : Web K H w n ts tp as) (e : H D = some (.dT ys)) : Web K (upd H D (.dT zs)) w n ts tp as :=
  ⟨seqT_putD W.top e, seqT_putD W.ties e, W.len, fun k a ea => seqT_putD (W.each k a ea) e⟩
/-- what holds at each turn of the loop -/
structure TI (K : PySem.W.Frag) (H0 : Hp) (d l wb tp kd pa : Addr) (n : Nat) (ts : Ties) (as ps : List Addr) (H : Hp) (kvs : List (List Key × V)) : Prop where
  fr : Fr d l H0 H
  urn : Urn H d l
  web : Web K H wb n ts tp as
  kn : H kd = some (.dT kvs)
  pat : H pa = some (.lst (rfs ps))
  pts : Pts K H n ps
  ok : Kn n ts kvs
section
variable {K : PySem.W.Frag} {H0 H H' : Hp} {d l wb tp kd pa : Addr} {n : Nat} {ts : Ties} {as ps : List Addr} {kvs : List (List Key × V)}
theorem TI.same (t : TI K H0 d l wb tp kd pa n ts as ps H kvs) (s : Same H H') : TI K H0 d l wb tp kd pa n ts as ps H' kvs :=
  ⟨t.fr.trans (Same.fr s), t.urn.same s, t.web.same s, s _ _ t.kn, s _ _ t.pat, t.pts.same s, t.ok⟩
theorem TI.put (t : TI K H0 d l wb tp kd pa n ts as ps H kvs) (h0 : H0 kd = none) {L : List Nat} (v : V) (ev : evenB n ts L = true) (c : Nat → Bool) (hc : L = paint ts c) :
    TI K H0 d l wb tp kd pa n ts as ps (upd H kd (.dT (putK kvs (ky L) v))) (putK kvs (ky L) v) := by
  have e := t.kn
  have o : kd ≠ d ∧ kd ≠ l := by
    obtain ⟨_, _, e1, e2, _⟩ := t.urn
    refine ⟨fun z => ?_, fun z => ?_⟩
    · rw [z, e1] at e
      cases e
    · rw [z, e2] at e
      cases e
  refine ⟨t.fr.own h0, t.urn.put o, t.web.putD e, upd_same, ?_, fun a ha => ?_, t.ok.put v ev c hc⟩
  · rw [upd_ne (ne_of t.pat e (by intro z; cases z))]
    exact t.pat
  · obtain ⟨c, h⟩ := t.pts a ha
    exact ⟨c, seqT_putD h e⟩
end
/-! data -/
abbrev dUn : PyData := .list [.str "unfit"]
abbrev dNs (ns : List Int) : PyData := .tuple (di ns)
abbrev dTo (ns : List Int) : PyData := .list [.str "told", dNs ns]
theorem fi_un : Fi dUn 1 6 := Fi.list (Fis.cons Fi.unfit (Fis.nil (w := 0)))
theorem fi_ns {ns : List Int} (h : ∀ n ∈ ns, n.natAbs < 1000) : Fi (dNs ns) 1 (12 * ns.length) := Fi.tuple (Fis.ints ns h)
theorem fi_to {ns : List Int} (h : ∀ n ∈ ns, n.natAbs < 1000) : Fi (dTo ns) 2 (4 + 1 + (12 * ns.length + 1 + 0)) := Fi.list (Fis.cons Fi.told (Fis.cons (fi_ns h) (Fis.nil (w := 0))))
/-- a value and the data that it tells, fit for repr -/
structure Rp (K : PySem.W.Frag) (H : Hp) (a : Addr) (d : PyData) : Prop where
  dp : Dp K H (.ref a) d
  sh : d.showable = true
  nod : d.hasDict = false
  dep : d.depth ≤ 60
  len : d.shown.length ≤ sizeLine
  shaped : SeqAt.shaped d = true
theorem Rp.of {K : PySem.W.Frag} {H : Hp} {a : Addr} {d : PyData} {k w : Nat} (hd : Dp K H (.ref a) d) (f : Fi d k w) (hk : k ≤ 20) (hw : w ≤ 2 ^ 20) : Rp K H a d :=
  ⟨hd, f.sh, f.nod, by have := f.dep; omega, f.shown hw, f.shaped hk⟩
theorem rp_un {K : PySem.W.Frag} {H : Hp} {a : Addr} (h : IsUnfit H a) : Rp K H a dUn := .of (.lst (SqL.of h) (.cons (.str _) .nil)) fi_un (by decide) (by decide)
theorem ci_small {L : List Nat} {m : Nat} (il : IsLot m L) (hm : m ≤ 100) : ∀ n ∈ ci L, n.natAbs < 1000 := fun n hn => by
  obtain ⟨k, hk, rfl⟩ := List.mem_map.mp hn
  have := il.lt k hk
  show k < 1000
  omega
/-- colours as numbers -/
abbrev cli (c : Nat → Bool) (n : Nat) : List Int := (List.range n).map fun x => bi (c x)
theorem cl_cli (c : Nat → Bool) (n : Nat) : cl c n = (cli c n).map V.int := by
  show gm _ n = _
  unfold gm
  rw [List.map_map]
  rfl
theorem cli_small (c : Nat → Bool) (n : Nat) : ∀ i ∈ cli c n, i.natAbs < 1000 := fun i hi => by
  obtain ⟨k, _, rfl⟩ := List.mem_map.mp hi
  unfold bi
  split <;> decide
theorem cli_len (c : Nat → Bool) (n : Nat) : (cli c n).length = n := by rw [List.length_map, List.length_range]
theorem cli_congr {c e : Nat → Bool} {n : Nat} (h : ∀ p, p < n → c p = e p) : cli c n = cli e n := List.map_congr_left fun p hp => by rw [h p (List.mem_range.mp hp)]
theorem rp_toN {K : PySem.W.Frag} {H : Hp} {q t : Addr} {L : List Nat} {m : Nat} (h : IsTold H q t) (ht : SqT K H t (nv L)) (il : IsLot m L) (hm : m ≤ 100) : Rp K H q (dTo (ci L)) := by
  rw [nv_ci] at ht
  have := il.len
  refine .of (.lst (SqL.of h) (.cons (.str _) (.cons (.tup ht (dp_ints _)) .nil))) (fi_to (ci_small il hm)) (by decide) ?_
  rw [List.length_map]
  omega
theorem rp_toC {K : PySem.W.Frag} {H : Hp} {q t : Addr} {c : Nat → Bool} {n : Nat} (h : IsTold H q t) (ht : SqT K H t (cl c n)) (hn : n ≤ 8) : Rp K H q (dTo (cli c n)) := by
  rw [cl_cli] at ht
  refine .of (.lst (SqL.of h) (.cons (.str _) (.cons (.tup ht (dp_ints _)) .nil))) (fi_to (cli_small c n)) (by decide) ?_
  rw [cli_len]
  omega
theorem rp_C {K : PySem.W.Frag} {H : Hp} {t : Addr} {c : Nat → Bool} {n : Nat} (ht : SqT K H t (cl c n)) (hn : n ≤ 8) : Rp K H t (dNs (cli c n)) := by
  rw [cl_cli] at ht
  refine .of (.tup ht (dp_ints _)) (fi_ns (cli_small c n)) (by decide) ?_
  rw [cli_len]
  omega
theorem rp_N {K : PySem.W.Frag} {H : Hp} {t : Addr} {L : List Nat} {m : Nat} (ht : SqT K H t (nv L)) (il : IsLot m L) (hm : m ≤ 100) : Rp K H t (dNs (ci L)) := by
  rw [nv_ci] at ht
  have := il.len
  refine .of (.tup ht (dp_ints _)) (fi_ns (ci_small il hm)) (by decide) ?_
  rw [List.length_map]
  omega
theorem eqv_un : PyData.eqv dUn dUn = true := by decide +kernel
theorem eqv_toUn (ns : List Int) : PyData.eqv (dTo ns) dUn = false := by
  simp [PyData.eqv, PyData.eqvAll]
theorem eqv_ns (ns : List Int) : PyData.eqv (dNs ns) (dNs ns) = true := by
  simp only [PyData.eqv]
  exact eqv_ints ns
theorem ne_self (x : V) : (!decide (x = x)) = false := by rw [decide_eq_true rfl]; rfl
/-! t + u, whatever the two -/
def rCatU (K : PySem.W.Frag) : R2 := fun x y H Q => ∃ a b xs ys, x = .ref a ∧ y = .ref b ∧ SqT K H a xs ∧ SqT K H b ys ∧ xs.length + ys.length ≤ sizeLine ∧ ∀ p H', Same H H' → SqT K H' p (xs ++ ys) → Q (.ref p) H'
theorem op_catU {X : Cx} : OpR X (binaryOp .Add) (rCatU X.K) := by
  intro pins s σ H x y v u Q I rx ry h
  obtain ⟨a, b, xs, ys, rfl, rfl, ha, hb, hz, q⟩ := h
  refine op_catA pins s σ H _ _ v u Q I rx ry ⟨a, b, xs, ys, rfl, rfl, ha, hb, hz, fun e => ?_, fun _ e => ?_, fun _ _ p hp => q p _ (same_new hp) (SqT.of upd_same)⟩
  · subst e
    exact q b H (Same.refl _) hb
  · subst e
    exact q a H (Same.refl _) (by rw [List.append_nil]; exact ha)
/-! zip of two tuples of one length -/
theorem walk_zipT {K : PySem.W.Frag} {a b : Addr} {xs ys : List V} {n : Nat} (h1 : xs.length = n) (h2 : ys.length = n) : Walk (RZ.ItzT K a b) n (fun H => SqT K H a xs ∧ SqT K H b ys) (YPair (fun i => xs[i]?) (fun i => ys[i]?)) := by
  refine ⟨fun i _ hi q => ⟨xs, ys, xs[i]'(by omega), ys[i]'(by omega), q.1, q.2, List.getElem?_eq_getElem (by omega), List.getElem?_eq_getElem (by omega)⟩, fun _ q => ⟨xs, ys, q.1, q.2, .inl (by omega)⟩, fun i H v H' _ q y => ?_⟩
  obtain ⟨T, x, y', e1, e2, e3, f1, f2⟩ := y
  exact ⟨T, x, y', e1, e2, e3, f1 xs q.1, f2 ys q.2⟩
theorem asc_ci {ns : List Int} {M : List Nat} (ha : ns.Pairwise (· < ·)) (hm : ∀ k, k ∈ ns ↔ k ∈ ci M) : ∃ L, ns = ci L ∧ L.Pairwise (· < ·) ∧ ∀ k, k ∈ L ↔ k ∈ M := by
  have nat : ∀ z ∈ ns, ∃ k : Nat, z = (k : Int) := fun z hz => by
    obtain ⟨k, _, rfl⟩ := List.mem_map.mp ((hm z).mp hz)
    exact ⟨k, rfl⟩
  have e : ns = ci (ns.map Int.toNat) := by
    show ns = List.map (fun k : Nat => (k : Int)) (ns.map Int.toNat)
    rw [List.map_map]
    have e2 : ns.map ((fun k : Nat => (k : Int)) ∘ Int.toNat) = ns.map id := List.map_congr_left fun z hz => by
      obtain ⟨k, rfl⟩ := nat z hz
      rfl
    rw [e2, List.map_id]
  refine ⟨ns.map Int.toNat, e, ?_, fun k => ?_⟩
  · rw [List.pairwise_map]
    refine List.Pairwise.imp_of_mem (fun {a b} ha' hb' h => ?_) ha
    obtain ⟨x, rfl⟩ := nat a ha'
    obtain ⟨y, rfl⟩ := nat b hb'
    show x < y
    omega
  · constructor
    · intro h
      obtain ⟨z, hz, rfl⟩ := List.mem_map.mp h
      obtain ⟨j, hj, rfl⟩ := List.mem_map.mp ((hm z).mp hz)
      exact hj
    · intro h
      exact List.mem_map.mpr ⟨(k : Int), (hm _).mpr (List.mem_map.mpr ⟨k, h, rfl⟩), rfl⟩
theorem bi_add (a b : Bool) : (bi a + bi b) % 2 = bi (a != b) := by cases a <;> cases b <;> rfl
theorem b2i_bi (b : Bool) : (if b = true then (1 : Int) else 0) = bi b := rfl
/-- the sum of two lots -/
theorem sum_lot {n : Nat} {ts : Ties} {L1 L2 L : List Nat} {s1 s2 : Nat → Bool} (h1 : L1 = paint ts s1) (h2 : L2 = paint ts s2) (ha : L.Pairwise (· < ·))
    (hm : ∀ k, k ∈ L ↔ k ∈ (L1 ++ L2).filter fun k => !decide (k ∈ L1) || !decide (k ∈ L2)) : L = paint ts fun x => s1 x != s2 x := by
  refine asc_ext ha (IsLot.paint ts _).asc fun k => ?_
  rw [hm, mem_paint_xor, ← h1, ← h2, List.mem_filter, List.mem_append]
  by_cases a : k ∈ L1 <;> by_cases b : k ∈ L2 <;> simp [a, b]
end Bh

namespace Bh
open PySem PySem.Spec PyProof.Rows L2
abbrev NTld : List Str := ["_law_urn_here", "_law_web_here", "_law_known", "_law_k", "_law_paint", "_law_lot", "_law_due", "_law_plain", "_law_lots", "_law_one", "_law_two", "_law_both", "_law_added", "_law_found", "_law_item", "_law_a", "_law_b"]
abbrev tInt1 (t : TA) : TE := tCB (fun xs H Q => (∃ i, xs = [V.int i] ∧ Q (.int i) H) ∨ ∃ k, xs = [V.bl k] ∧ Q (.int (if k then 1 else 0)) H) t
section
variable {P : Program} {w : World} {K : PySem.W.Frag} {mg : Str → Option Value} {base : Heap}
/-! ### _law_is_told -/
theorem scTold : FnScope NTld ["_law_urn_here", "_law_web_here"] (defScope sIsTold) := ⟨rfl, rfl, rfl, by decide +kernel, rfl, by decide +kernel, by decide +kernel⟩
def spTold (K : PySem.W.Frag) : Sp := fun vs H Q _ => ∃ (d l wb : Addr) (n : Nat) (ts : Ties) (tp : Addr) (as : List Addr), vs = [.ref d, .ref wb] ∧ Urn H d l ∧ Web K H wb n ts tp as ∧ WebOk n ts ∧
  ∀ H', Fr d l H H' → Urn H' d l → Q (.bl true) H'
theorem ok_told {C : Addr} {f fPa fPd fE fO fC fPk fK : Addr} {fd fdPa fdPd fdE fdO fdC fdPk fdK : FuncData} (F : Fun K "_law_is_told" "_law_is_told" sIsTold f fd)
    (GPa : FnOk P w K mg base CX0 2 fPa fdPa ["_law_urn_here", "_law_many"] (spPaints K)) (kPa : PySem.W.keepIn K (.ref fPa) = true) (bPa : L2.Binds K fdPa ["_law_urn_here", "_law_many"] []) (gPa : mg "_law_paints" = some (.ref fPa))
    (GPd : FnOk P w K mg base CX0 1 fPd fdPd ["_law_web_here", "_law_paint"] (spPainted K)) (kPd : PySem.W.keepIn K (.ref fPd) = true) (bPd : L2.Binds K fdPd ["_law_web_here", "_law_paint"] []) (gPd : mg "_law_painted" = some (.ref fPd))
    (GE : FnOk P w K mg base CX0 2 fE fdE ["_law_web_here", "_law_lot"] (spEven K)) (kE : PySem.W.keepIn K (.ref fE) = true) (bE : L2.Binds K fdE ["_law_web_here", "_law_lot"] []) (gE : mg "_law_is_even" = some (.ref fE))
    (GO : FnOk P w K mg base CX0 6 fO fdO ["_law_way", "_law_web_here", "_law_some", "_law_is_named"] (spOut K)) (kO : PySem.W.keepIn K (.ref fO) = true) (bO : L2.Binds K fdO ["_law_way", "_law_web_here", "_law_some", "_law_is_named"] []) (gO : mg "_law_outcome" = some (.ref fO))
    (GC : FnOk P w K mg base (L2.CX P w) 5 fC fdC ["web", "lot"] (spColours K C)) (kC : PySem.W.keepIn K (.ref fC) = true) (bC : L2.Binds K fdC ["web", "lot"] []) (gC : mg "colours_of" = some (.ref fC))
    (GPk : FnOk P w K mg base CX0 2 fPk fdPk ["_law_urn_here", "_law_some"] spPick) (kPk : PySem.W.keepIn K (.ref fPk) = true) (bPk : L2.Binds K fdPk ["_law_urn_here", "_law_some"] []) (gPk : mg "_law_pick" = some (.ref fPk))
    (GK : FnOk P w K mg base CX0 1 fK fdK ["_law_urn_here", "_law_many"] spTake) (kK : PySem.W.keepIn K (.ref fK) = true) (bK : L2.Binds K fdK ["_law_urn_here", "_law_many"] []) (gK : mg "_law_take" = some (.ref fK))
    (me : mg "enumerate" = none) (mre : mg "repr" = none) (mi : mg "int" = none) (mt : mg "tuple" = none) (mli : mg "list" = none) (ms : mg "sorted" = none) (mse : mg "set" = none) (mz : mg "zip" = none) (mr : mg "range" = none) (ml : mg "len" = none) :
    FnOkG P w K mg base CX0 7 f fd ["_law_urn_here", "_law_web_here"] (spTold K) := by
  refine okG F scTold (fun vs H Q E h => ?_) (fun cdv A outer s H vs Q E hgd hr h => ?_)
  · obtain ⟨_, _, _, _, _, _, _, rfl, _⟩ := h
    rfl
  · obtain ⟨d, l, wb, n, ts, tp, as, rfl, U, W, wo, q⟩ := h
    have hu := hr.units
    have hu1 : (A.deeper (envOfC "_law_is_told" (defScope sIsTold) s.heap.objs.size f cdv)).units + 1 < cLine := by omega
    have r1 := hr.mono (show 1 ≤ 6 by decide)
    have r2 := hr.mono (show 2 ≤ 6 by decide)
    have r5 := hr.mono (show 5 ≤ 6 by decide)
    refine ⟨_, PSs.nox (pss_cons (ps_set (i := 2) scTold.nd rfl (.inl rfl) pe_dnewT)
      (pss_cons (ps_for PassesOwn.never rfl (pi_enum (by rfl) me (pa_cons (pe_call GPa r2 (by rfl) gPa kPa bPa .nil pass0 (pa_cons (pv 0) (pa_cons (pe_ix ix_tup (pv 1) pe_int (fun _ _ => rfl)) pa_nil))) pa_nil))
        (pg_tup rfl (pgs_cons (pg_name (i := 3) scTold.nd rfl (.inl rfl)) (pgs_cons (pg_name (i := 4) scTold.nd rfl (.inr rfl)) pgs_nil)))
        (pss_cons (ps_set (i := 5) scTold.nd rfl (.inl rfl) (pe_call GPd r1 (by rfl) gPd kPd bPd .nil pass0 (pa_cons (pv 1) (pa_cons (pv 4) pa_nil))))
        (pss_cons (ps_set (i := 6) scTold.nd rfl (.inl rfl) (pe_ifExp (pt_val (pe_call GE r2 (by rfl) gE kE bE .nil pass0 (pa_cons (pv 1) (pa_cons (pv 5) pa_nil)))) (pe_lst (pa_cons pe_str (pa_cons (pv 5) pa_nil))) (pe_lst (pa_cons pe_str pa_nil))))
        (pss_cons (ps_if (pt_cmpR op_ne
            (pe_callB (cr_repr hgd hu) (by rfl) mre (by decide +kernel) (pa_cons (pe_call GO hr (by rfl) gO kO bO .nil pass0 (pa_cons pe_int (pa_cons (pv 1) (pa_cons (pv 4) (pa_cons (pe_cmpR op_eq (pe_op op_mod (pe_callTy call_int1 (by rfl) mi (by decide +kernel) (pa_cons (pv 3) pa_nil)) pe_int) pe_int (nomark _)) pa_nil))))) pa_nil))
            (pe_callB (cr_repr hgd hu) (by rfl) mre (by decide +kernel) (pa_cons (pv 6) pa_nil)) (nomark _)) (pss_one (ps_ret pe_bl)) pss_nil)
        (pss_one (ps_if (pt_cmpR op_eq (pe_ix ix_list (pv 6) pe_int (fun _ _ => rfl)) pe_str (nomark _))
          (pss_cons (ps_set (i := 7) scTold.nd rfl (.inl rfl) (pe_callTy call_tuple_of (by rfl) mt (by decide +kernel) (pa_cons
            (pe_lc (own := [("_law_item", 14)]) (g := gName 14) (tt := tYes) (te := tInt1 (tCons (tOp rNe (tVar 14) (tOp (rIxT K) (tVar 4) (tC (.int 0)))) tNil)) rfl scTold.nd (pi_tup (pv 4))
              (blkOk_by (N := NTld) (sc := defScope sIsTold) (by decide +kernel)) (fun _ _ _ _ _ => pg_name (i := 14) scTold.nd rfl (.inl rfl)) (fun _ _ _ _ _ => pts_nil)
              (fun _ _ _ _ _ => pe_callTy call_int1 (by rfl) mi (by decide +kernel) (pa_cons (pe_cmpR op_ne (pv 14) (pe_ix ix_tup (pv 4) pe_int (fun _ _ => rfl)) (nomark _)) pa_nil))) pa_nil)))
          (pss_cons (ps_dput hu1 (pv 2) (pv 5) (pv 7) (by rfl))
          (pss_one (ps_if (pt_cmpR op_ne
            (pe_callB (cr_repr hgd hu) (by rfl) mre (by decide +kernel) (pa_cons (pe_call GO hr (by rfl) gO kO bO .nil pass0 (pa_cons pe_int (pa_cons (pv 1) (pa_cons (pv 5) (pa_cons (pe_cmpR op_eq (pv 3) pe_int (nomark _)) pa_nil))))) pa_nil))
            (pe_callB (cr_repr hgd hu) (by rfl) mre (by decide +kernel) (pa_cons (pe_lst (pa_cons pe_str (pa_cons (pv 7) pa_nil))) pa_nil)) (nomark _)) (pss_one (ps_ret pe_bl)) pss_nil)))) pss_nil))))))
      (pss_cons (ps_set (i := 8) scTold.nd rfl (.inl rfl) (pe_callTy (call_list_dT rfl) (by rfl) mli (by decide +kernel) (pa_cons (pv 2) pa_nil)))
      (pss_cons (ps_asg (pe_tup (pa_cons (pe_call GPk r2 (by rfl) gPk kPk bPk .nil pass0 (pa_cons (pv 0) (pa_cons (pe_op op_cat (pv 8) (pe_lst (pa_cons (pe_tup pa_nil) pa_nil))) pa_nil)))
          (pa_cons (pe_call GPk r2 (by rfl) gPk kPk bPk .nil pass0 (pa_cons (pv 0) (pa_cons (pe_op op_cat (pv 8) (pe_lst (pa_cons (pe_tup pa_nil) pa_nil))) pa_nil))) pa_nil)))
          (pg_tup rfl (pgs_cons (pg_name (i := 9) scTold.nd rfl (.inr rfl)) (pgs_cons (pg_name (i := 10) scTold.nd rfl (.inr rfl)) pgs_nil))))
      (pss_cons (ps_set (i := 11) scTold.nd rfl (.inl rfl) (pe_callTy call_tuple_of (by rfl) mt (by decide +kernel) (pa_cons (pe_callB (cr_sortedSet rfl) (by rfl) ms (by decide +kernel) (pa_cons (pe_callTy (cr_setL rfl) (by rfl) mse (by decide +kernel) (pa_cons
          (pe_lc (own := [("_law_k", 3)]) (g := gName 3) (tt := tOr (tTest (tOp (rIn K true) (tVar 3) (tVar 9))) (tTest (tOp (rIn K true) (tVar 3) (tVar 10)))) (te := tVar 3) rfl scTold.nd (pi_tup (pe_op op_catU (pv 9) (pv 10)))
            (blkOk_by (N := NTld) (sc := defScope sIsTold) (by decide +kernel)) (fun _ _ _ _ _ => pg_name (i := 3) scTold.nd rfl (.inl rfl))
            (fun _ _ _ _ _ => pts_one (PW.pt (pw_or (pt_cmpR op_notIn_seq (pv 3) (pv 9) (by rfl)) (pw_or1 (pt_cmpR op_notIn_seq (pv 3) (pv 10) (by rfl))))))
            (fun _ _ _ _ _ => pv 3)) pa_nil)) pa_nil)) pa_nil)))
      (pss_cons (ps_setLc (i := 12) (own := [("_law_a", 15), ("_law_b", 16)]) (g := gTup K 2 (gCons (gName 15) (gCons (gName 16) gNil))) (tt := tYes) (te := tOp (rI (fun _ j => 0 < j) fun i j => .int (i % j)) (tInt1 (tCons (tOp (rI0 fun i j => .int (i + j)) (tVar 15) (tVar 16)) tNil)) (tC (.int 2))) (by rfl) scTold.nd rfl rfl (sw_true rfl rfl rfl (by decide +kernel))
          (RZ.pi_zipA (by rfl) mz (pa_cons (pe_call GC r5 (by rfl) gC kC bC .nil passL (pa_cons (pv 1) (pa_cons (pv 9) pa_nil))) (pa_cons (pe_call GC r5 (by rfl) gC kC bC .nil passL (pa_cons (pv 1) (pa_cons (pv 10) pa_nil))) pa_nil)))
          (blkOk_by (N := NTld) (sc := defScope sIsTold) (by decide +kernel))
          (fun _ _ _ _ _ => pg_tup rfl (pgs_cons (pg_name (i := 15) scTold.nd rfl (.inl rfl)) (pgs_cons (pg_name (i := 16) scTold.nd rfl (.inl rfl)) pgs_nil))) (fun _ _ _ _ _ => pts_nil)
          (fun _ _ _ _ _ => pe_op op_mod (pe_callTy call_int1 (by rfl) mi (by decide +kernel) (pa_cons (pe_op op_add (pv 15) (pv 16)) pa_nil)) pe_int))
      (pss_cons (ps_if (pt_cmpR op_ne
          (pe_callB (cr_repr hgd hu) (by rfl) mre (by decide +kernel) (pa_cons (pe_call GC r5 (by rfl) gC kC bC .nil passL (pa_cons (pv 1) (pa_cons (pv 11) pa_nil))) pa_nil))
          (pe_callB (cr_repr hgd hu) (by rfl) mre (by decide +kernel) (pa_cons (pe_callTy call_tuple_of (by rfl) mt (by decide +kernel) (pa_cons (pv 12) pa_nil)) pa_nil)) (nomark _)) (pss_one (ps_ret pe_bl)) pss_nil)
      (pss_cons (ps_set (i := 5) scTold.nd rfl (.inl rfl) (pe_callTy call_tuple_of (by rfl) mt (by decide +kernel) (pa_cons
          (pe_lc (own := [("_law_k", 3)]) (g := gName 3) (tt := tTest (tOp rEq (tCall spTake [] E0 (tCons (tVar 0) (tCons (tC (.int 2)) tNil))) (tC (.int 0)))) (te := tVar 3) rfl scTold.nd
            (pi_range1 (by rfl) mr (pa_cons (pe_callB call_len_seq (by rfl) ml PySem.boot_len (pa_cons (pe_ix ix_tup (pv 1) pe_int (fun _ _ => rfl)) pa_nil)) pa_nil))
            (blkOk_by (N := NTld) (sc := defScope sIsTold) (by decide +kernel)) (fun _ _ _ _ _ => pg_name (i := 3) scTold.nd rfl (.inl rfl))
            (fun _ _ _ _ _ => pts_one (pt_cmpR op_eq (pe_call GK r1 (by rfl) gK kK bK .nil pass0 (pa_cons (pv 0) (pa_cons pe_int pa_nil))) pe_int (nomark _)))
            (fun _ _ _ _ _ => pv 3)) pa_nil)))
      (pss_cons (ps_set (i := 13) scTold.nd rfl (.inl rfl) (pe_call GO hr (by rfl) gO kO bO .nil pass0 (pa_cons pe_int (pa_cons (pv 1) (pa_cons (pv 5) (pa_cons pe_bl pa_nil))))))
      (pss_cons (ps_if (pt_cmpR (op_eqD hu) (pv 13) (pe_lst (pa_cons pe_str pa_nil)) (nomark _)) (pss_one (ps_ret (pe_cmp (pc_dnotin hu1 (pv 5) (pv 2))))) pss_nil)
      (pss_one (ps_ret (pe_and (pe_cmpR op_eq (pe_ix ix_list (pv 13) pe_int (fun _ _ => rfl)) pe_str (nomark _))
        (pe_and (pe_call GE r2 (by rfl) gE kE bE .nil pass0 (pa_cons (pv 1) (pa_cons (pv 5) pa_nil)))
          (pe_one (pe_cmpR (op_eqD hu) (pe_call GPd r1 (by rfl) gPd kPd bPd .nil pass0 (pa_cons (pv 1) (pa_cons (pe_ix ix_list (pv 13) pe_int (fun _ _ => rfl)) pa_nil))) (pv 5) (nomark _))))))))))))))))), ?_⟩
    have hn8 := wo.small
    have hn1 := wo.pos
    have few := wo.few
    intro kd hkd
    have offk := U.off hkd
    have s1 : Same H (upd H kd (.dT [])) := same_new hkd
    have e1 : (upd H kd (.dT [])) kd = some (.dT []) := upd_same
    have U1 := U.same s1
    have W1 := W.same s1
    revert s1 e1 U1 W1
    generalize upd H kd (.dT []) = H1
    intro s1 e1 U1 W1
    refine ⟨.ref d, rfl, .ref wb, rfl, wb, _, 0, .int (n : Nat), rfl, rfl, W1.top, rfl, d, l, n, rfl, U1, hn8, fun H2 pa ps F2 U2 epa npl hps pp => ?_⟩
    have t0 : TI K H d l wb tp kd pa n ts as ps H2 [] := ⟨(Same.fr s1).trans F2, U2, W1.fr F2 U1, F2 _ _ offk.1 offk.2 e1, epa, pp, fun kv h => (by cases h)⟩
    have wk := walk_enum (K := K) (a := pa) (xs := rfs ps)
    rw [List.length_map] at wk
    refine ⟨pa, _, rfl, SqL.of epa, ?_⟩
    refine for_it wk (fun i σ H3 => ∃ (kvs : List (List Key × V)) (y3 y4 y5 y6 y7 : Option V), σ = [some (.ref d), some (.ref wb), some (.ref kd), y3, y4, y5, y6, y7, none, none, none, none, none, none, none, none, none] ∧ TI K H d l wb tp kd pa n ts as ps H3 kvs ∧ kvs.length ≤ i)
      ⟨[], none, none, none, none, none, rfl, t0, Nat.le_refl _⟩ (fun i σ H3 _ ⟨_, _, _, _, _, _, _, t, _⟩ => SqL.of t.pat) (fun i v σ H3 H4 hi hP y => ?_) ?_
    · obtain ⟨kvs, y3, y4, y5, y6, y7, rfl, t3, hkl⟩ := hP
      obtain ⟨T, x1, x2, rfl, nT, rfl, f1, f2⟩ := y
      obtain rfl : V.int (i : Nat) = x1 := Option.some.inj f1
      obtain ⟨a, ea, rfl⟩ := rfs_of f2
      have s4 : Same H3 (upd H3 T (.tup [.int (i : Nat), .ref a])) := same_new nT
      have eT : (upd H3 T (.tup [.int (i : Nat), .ref a])) T = some (.tup [.int (i : Nat), .ref a]) := upd_same
      have t4 := t3.same s4
      revert eT t4
      clear s4
      generalize upd H3 T (.tup [.int (i : Nat), .ref a]) = H4
      intro eT t4
      obtain ⟨c, hc4⟩ := t4.pts a (List.mem_of_getElem? ea)
      refine ⟨T, _, rfl, SqT.of eT, rfl, _, _, rfl, _, _, rfl, rfl, .ref wb, rfl, .ref a, rfl, wb, a, n, ts, tp, as, c, rfl, t4.web, wo, hc4, fun H5 q5 s5 e5 => ?_⟩
      have t5 := t4.same s5
      refine ⟨.ref wb, rfl, .ref q5, rfl, wb, q5, n, ts, tp, as, paint ts c, rfl, t5.web, wo, SqT.of e5, .paint ts c, fun H6 s6 => ⟨_, rfl, ?_⟩⟩
      have t6 := t5.same s6
      have hc6 := Same.seqT (s5.trans s6) hc4
      have e6 := s6 _ _ e5
      cases he : evenB n ts (paint ts c) with
      | false =>
        refine iteF ?_
        refine ⟨(show 1 ≤ sizeLine by decide), fun du hdu => ?_⟩
        have s7 : Same H6 (upd H6 du (.lst [.str "unfit"])) := same_new hdu
        have e7 : IsUnfit (upd H6 du (.lst [.str "unfit"])) du := upd_same
        have t7 := t6.same s7
        have hc7 := Same.seqT s7 hc6
        revert e7 t7 hc7
        clear s7 hdu
        generalize upd H6 du (.lst [.str "unfit"]) = H7
        intro e7 t7 hc7
        refine ⟨_, rfl, _, rfl, _, rfl, .inl ⟨_, rfl, _, _, rfl, rfl, (show (0 : Int) < 2 by decide), rfl, wb, a, n, ts, tp, as, _, t7.web, wo, .inl ⟨rfl, c, hc7, fun H8 q8 s8 hun _ => ?_⟩⟩⟩
        have r8 := rp_un (K := K) (hun he)
        have r9 := rp_un (K := K) (s8 _ _ e7)
        refine ⟨q8, _, rfl, r8.dp, r8.sh, r8.nod, r8.dep, r8.len, _, rfl, du, _, rfl, r9.dp, r9.sh, r9.nod, r9.dep, r9.len, rfl, _, rfl, ?_⟩
        rw [ne_self]
        refine iteF ?_
        refine ⟨.ref du, rfl, du, _, 0, .str "unfit", rfl, rfl, SqL.of (s8 _ _ e7), atI_nat (j := 0) rfl, rfl, _, rfl, ?_⟩
        rw [decide_eq_false (show ¬ V.str "unfit" = V.str "told" by decide +kernel)]
        refine iteF ?_
        exact ⟨kvs, _, _, _, _, _, rfl, t7.same s8, by omega⟩
      | true =>
        refine iteT ?_
        refine ⟨_, rfl, (show 2 ≤ sizeLine by decide), fun du hdu => ?_⟩
        have s7 : Same H6 (upd H6 du (.lst [.str "told", .ref q5])) := same_new hdu
        have e7 : IsTold (upd H6 du (.lst [.str "told", .ref q5])) du q5 := upd_same
        have t7 := t6.same s7
        have hc7 := Same.seqT s7 hc6
        have eq7 := s7 _ _ e6
        revert e7 t7 hc7 eq7
        clear s7 hdu
        generalize upd H6 du (.lst [.str "told", .ref q5]) = H7
        intro e7 t7 hc7 eq7
        have ilp : IsLot ts.length (paint ts c) := .paint ts c
        refine ⟨_, rfl, _, rfl, _, rfl, .inl ⟨_, rfl, _, _, rfl, rfl, (show (0 : Int) < 2 by decide), rfl, wb, a, n, ts, tp, as, _, t7.web, wo, .inl ⟨rfl, c, hc7, fun H8 q8 s8 _ hto => ?_⟩⟩⟩
        obtain ⟨tt, htt, ett⟩ := hto he
        have r8 := rp_toN (K := K) htt (SqT.of ett) ilp (by omega)
        have r9 := rp_toN (K := K) (s8 _ _ e7) (SqT.of (s8 _ _ eq7)) ilp (by omega)
        refine ⟨q8, _, rfl, r8.dp, r8.sh, r8.nod, r8.dep, r8.len, _, rfl, du, _, rfl, r9.dp, r9.sh, r9.nod, r9.dep, r9.len, rfl, _, rfl, ?_⟩
        rw [ne_self]
        refine iteF ?_
        have t8 := t7.same s8
        have hc8 := Same.seqT s8 hc7
        have eq8 := s8 _ _ eq7
        refine ⟨.ref du, rfl, du, _, 0, .str "told", rfl, rfl, SqL.of (s8 _ _ e7), atI_nat (j := 0) rfl, rfl, _, rfl, ?_⟩
        rw [decide_eq_true (show V.str "told" = V.str "told" from rfl)]
        refine iteT ?_
        clear r8 r9 htt ett e7 t7 hc7 eq7 s8
        -- the plain colours
        refine ⟨.ref a, rfl, a, rfl, ⟨_, hc8⟩, fun D hD => ?_⟩
        have wt := walk_tup (K := K) (a := a) (xs := cl c n)
        rw [gm_len] at wt
        refine lc_it wt (fun j H9 => Same H8 H9 ∧ H9 D = some (.lst (cl (fun x => c x != c 0) j))) ⟨same_new hD, upd_same⟩ (fun j H9 _ z => Same.seqT z.1 hc8) (fun j x H9 H10 hj z y => ?_) fun H9 z => ?_
        · obtain ⟨rfl, ex⟩ := y
          obtain rfl : V.int (bi (c j)) = x := Option.some.inj ((gm_get _ hj).symm.trans ex)
          refine ⟨rfl, ?_⟩
          unfold tYes
          dsimp only
          rw [if_pos rfl]
          refine ⟨_, rfl, .ref a, rfl, a, _, 0, .int (bi (c 0)), rfl, rfl, Same.seqT z.1 hc8, gm_at _ (show 0 < n by omega), rfl, .inr ⟨_, rfl, _, z.2, ?_, same_own z.1 hD, ?_⟩⟩
          · rw [gm_len]
            exact small1000 (by omega)
          · rw [upd_same, ne_bi]
            show _ = some (HO.lst (gm (fun x => V.int (bi (c x != c 0))) (j + 1)))
            rw [gm_succ]
            rfl
        · refine ⟨D, _, rfl, .inl ⟨SqL.of z.2, fun pl hpl => ?_⟩⟩
          have s9 : Same H8 (upd H9 pl (.tup (cl (fun x => c x != c 0) n))) := z.1.trans (same_new hpl)
          have epl : (upd H9 pl (.tup (cl (fun x => c x != c 0) n))) pl = some (.tup (cl (fun x => c x != c 0) n)) := upd_same
          have t9 := t8.same s9
          have eq9 := s9 _ _ eq8
          revert epl t9 eq9
          clear s9 hpl z
          generalize upd H9 pl (.tup (cl (fun x => c x != c 0) n)) = H9'
          intro epl t9 eq9
          have hps100 : kvs.length ≤ 1000 := by omega
          refine ⟨_, rfl, .ref kd, rfl, .ref q5, rfl, kd, _, rfl, DPut.t (k := ky (paint ts c)) t9.kn (by rw [ky_nv]; exact eq9) (small1000 hps100), ?_⟩
          have t10 := t9.put hkd (L := paint ts c) (.ref pl) he c rfl
          have ek := t9.kn
          have epl10 : (upd H9' kd (.dT (putK kvs (ky (paint ts c)) (.ref pl)))) pl = some (.tup (cl (fun x => c x != c 0) n)) := by
            rw [upd_ne (ne_of epl ek (by intro z; cases z))]
            exact epl
          have eq10 : (upd H9' kd (.dT (putK kvs (ky (paint ts c)) (.ref pl)))) q5 = some (.tup (nv (paint ts c))) := by
            rw [upd_ne (ne_of eq9 ek (by intro z; cases z))]
            exact eq9
          have hkl2 := length_putK kvs (ky (paint ts c)) (V.ref pl)
          revert t10 epl10 eq10 hkl2
          generalize upd H9' kd (.dT (putK kvs (ky (paint ts c)) (.ref pl))) = H10
          generalize putK kvs (ky (paint ts c)) (.ref pl) = kvs2
          intro t10 epl10 eq10 hkl2
          refine ⟨_, rfl, _, rfl, _, rfl, rfl, wb, q5, n, ts, tp, as, _, t10.web, wo, .inr ⟨rfl, paint ts c, SqT.of eq10, ilp, fun H11 q11 s11 hh => ?_⟩⟩
          rcases hh with ⟨_, hno⟩ | ⟨tc, sc, _, sc0, hsc, htc, etc⟩
          · exact absurd ⟨he, cutOf_any ⟨c, rfl⟩⟩ hno
          have hcc : ∀ p, p < n → sc p = (c p != c 0) := by
            refine paint_inj wo ?_ ?_
            · rw [← hsc, paint_xor]
            · rw [sc0]
              cases c 0 <;> rfl
          have ra := rp_toC (K := K) htc (SqT.of etc) hn8
          rw [cli_congr hcc] at ra
          refine ⟨q11, _, rfl, ra.dp, ra.sh, ra.nod, ra.dep, ra.len, _, rfl, (show 2 ≤ sizeLine by decide), fun q12 hq12 => ?_⟩
          have s12 : Same H11 (upd H11 q12 (.lst [.str "told", .ref pl])) := same_new hq12
          have rb := rp_toC (K := K) (q := q12) (H := upd H11 q12 (.lst [.str "told", .ref pl])) upd_same (SqT.of (s12 _ _ (s11 _ _ epl10))) hn8
          refine ⟨q12, _, rfl, rb.dp, rb.sh, rb.nod, rb.dep, rb.len, rfl, _, rfl, ?_⟩
          rw [ne_self]
          refine iteF ?_
          exact ⟨kvs2, _, _, _, _, _, rfl, (t10.same s11).same s12, by omega⟩
    · rintro σ H3 ⟨kvs, y3, y4, y5, y6, y7, rfl, t3, hkl⟩
      refine ⟨.ref kd, rfl, kd, kvs, rfl, .inl t3.kn, fun lo bs hlo hk => ?_⟩
      have hbl : bs.length ≤ 100 := by
        rw [keys_len hk]
        omega
      have offlo := t3.urn.off hlo
      have s4 : Same H3 (upd H3 lo (.lst (rfs bs))) := same_new hlo
      have elo : (upd H3 lo (.lst (rfs bs))) lo = some (.lst (rfs bs)) := upd_same
      have t4 := t3.same s4
      have hkeys : ∀ b ∈ bs, IsK K n ts (upd H3 lo (.lst (rfs bs))) b := fun b hb => by
        obtain ⟨p, hp, e⟩ := keys_of hk b hb
        obtain ⟨L, eL, ev, c, hc⟩ := t3.ok p hp
        rw [eL, ky_nv] at e
        exact ⟨L, c, SqT.of (s4 _ _ e), ev, hc⟩
      revert elo t4 hkeys
      clear s4 hk hlo
      generalize upd H3 lo (.lst (rfs bs)) = H4
      intro elo t4 hkeys
      clear t3
      -- the empty lot
      have hnil : ∀ (H5 : Hp) (t : Addr), H5 t = some (.tup []) → IsK K n ts H5 t := fun H5 t e => ⟨[], fun _ => false, SqT.of e, even_nil n ts, (paint_const ts).symm⟩
      have isk_fr : ∀ {Ha Hb : Hp} {b : Addr}, IsK K n ts Ha b → Urn Ha d l → Fr d l Ha Hb → IsK K n ts Hb b := fun ⟨L, c, h1, h2, h3⟩ u f => ⟨L, c, f.seqT u h1, h2, h3⟩
      -- one
      refine ⟨.ref d, rfl, .ref lo, rfl, Nat.zero_le _, fun e0 he0 => ⟨(show 1 ≤ sizeLine by decide), fun z0 hz0 => ?_⟩⟩
      have p1 : ∀ (Hx : Hp) (e0 z0 : Addr), Hx e0 = none → (upd Hx e0 (.tup [])) z0 = none → Same Hx (upd (upd Hx e0 (.tup [])) z0 (.lst [.ref e0])) ∧ (upd (upd Hx e0 (.tup [])) z0 (.lst [.ref e0])) z0 = some (.lst [.ref e0]) ∧ (upd (upd Hx e0 (.tup [])) z0 (.lst [.ref e0])) e0 = some (.tup []) := fun Hx e0 z0 h1 h2 =>
        ⟨(same_new h1).trans (same_new h2), upd_same, by rw [upd_ne (ne_of_none (upd_same (a := e0) (o := HO.tup [])) h2)]; exact upd_same⟩
      obtain ⟨s5, ez, ee⟩ := p1 H4 e0 z0 he0 hz0
      have t5 := t4.same s5
      have elo5 := s5 _ _ elo
      have U4 := t4.urn
      have hkeys5 : ∀ b ∈ bs, IsK K n ts _ b := fun b hb => isk_fr (hkeys b hb) U4 (Same.fr s5)
      revert ez ee t5 elo5 hkeys5
      clear s5 he0 hz0
      generalize upd (upd H4 e0 (.tup [])) z0 (.lst [.ref e0]) = H5
      intro ez ee t5 elo5 hkeys5
      refine ⟨lo, z0, _, _, rfl, rfl, elo5, ez, ?_, fun q1 hq1 => ?_⟩
      · rw [List.length_map]
        exact Nat.le_of_lt (small1000 (by show bs.length + 1 ≤ 1000; omega))
      have offq1 := t5.urn.off hq1
      have s6 : Same H5 (upd H5 q1 (.lst (rfs bs ++ [.ref e0]))) := same_new hq1
      refine ⟨d, l, q1, _, rfl, t5.urn.same s6, upd_same, offq1.2, ?_, ?_, fun H6 r1' v1 F6 U6 hv1 => ?_⟩
      · rw [List.length_append]
        exact Nat.succ_pos _
      · rw [List.length_append, List.length_map]
        show bs.length + 1 ≤ 1000
        omega
      have F56 : Fr d l H5 H6 := (Same.fr s6).trans F6
      have pickd : ∀ (Hx Hy : Hp) (e0 : Addr) (r : Nat) (v : V), Urn Hx d l → Fr d l Hx Hy → (∀ b ∈ bs, IsK K n ts Hx b) → IsK K n ts Hx e0 → (rfs bs ++ [.ref e0])[r]? = some v → ∃ b, v = .ref b ∧ IsK K n ts Hy b := fun Hx Hy e0 r v u f h1 h2 hv => by
        rcases List.mem_append.mp (List.mem_of_getElem? hv) with m | m
        · obtain ⟨b, hb, rfl⟩ := List.mem_map.mp m
          exact ⟨b, rfl, isk_fr (h1 b hb) u f⟩
        · rw [List.mem_singleton.mp m]
          exact ⟨e0, rfl, isk_fr h2 u f⟩
      obtain ⟨b1, rfl, k1⟩ := pickd H5 H6 e0 r1' v1 t5.urn F56 hkeys5 (hnil H5 e0 ee) hv1
      -- two
      have elo6 := F56 _ _ offlo.1 offlo.2 elo5
      have W6 := t5.web.fr F56 t5.urn
      have kd6 := F56 _ _ offk.1 offk.2 t5.kn
      have F06 := t5.fr.trans F56
      have hkeys6 : ∀ b ∈ bs, IsK K n ts H6 b := fun b hb => isk_fr (hkeys5 b hb) t5.urn F56
      refine ⟨.ref d, rfl, .ref lo, rfl, Nat.zero_le _, fun e0 he0 => ⟨(show 1 ≤ sizeLine by decide), fun z0 hz0 => ?_⟩⟩
      obtain ⟨s7, ez, ee⟩ := p1 H6 e0 z0 he0 hz0
      have W7 := W6.same s7
      have U7 := U6.same s7
      have elo7 := s7 _ _ elo6
      have kd7 := s7 _ _ kd6
      have F07 := F06.trans (Same.fr s7)
      have hkeys7 : ∀ b ∈ bs, IsK K n ts _ b := fun b hb => isk_fr (hkeys6 b hb) U6 (Same.fr s7)
      have k17 := isk_fr k1 U6 (Same.fr s7)
      revert ez ee W7 U7 elo7 kd7 F07 hkeys7 k17
      clear s7 he0 hz0
      generalize upd (upd H6 e0 (.tup [])) z0 (.lst [.ref e0]) = H7
      intro ez ee W7 U7 elo7 kd7 F07 hkeys7 k17
      refine ⟨lo, z0, _, _, rfl, rfl, elo7, ez, ?_, fun q2 hq2 => ?_⟩
      · rw [List.length_map]
        exact Nat.le_of_lt (small1000 (by show bs.length + 1 ≤ 1000; omega))
      have offq2 := U7.off hq2
      have s8 : Same H7 (upd H7 q2 (.lst (rfs bs ++ [.ref e0]))) := same_new hq2
      refine ⟨d, l, q2, _, rfl, U7.same s8, upd_same, offq2.2, ?_, ?_, fun H8 r2' v2 F8 U8 hv2 => ?_⟩
      · rw [List.length_append]
        exact Nat.succ_pos _
      · rw [List.length_append, List.length_map]
        show bs.length + 1 ≤ 1000
        omega
      have F78 : Fr d l H7 H8 := (Same.fr s8).trans F8
      obtain ⟨b2, rfl, k2⟩ := pickd H7 H8 e0 r2' v2 U7 F78 hkeys7 (hnil H7 e0 ee) hv2
      have k18 := isk_fr k17 U7 F78
      have W8 := W7.fr F78 U7
      have kd8 := F78 _ _ offk.1 offk.2 kd7
      have F08 := F07.trans F78
      refine ⟨(show 2 ≤ sizeLine by decide), fun T hT => ?_⟩
      have s9 : Same H8 (upd H8 T (.tup [.ref b1, .ref b2])) := same_new hT
      refine ⟨T, _, rfl, SqT.of upd_same, rfl, _, _, rfl, _, _, rfl, rfl, ?_⟩
      obtain ⟨La, c1, n1, ev1, hc1⟩ := isk_fr k18 U8 (Same.fr s9)
      obtain ⟨Lb, c2, n2, ev2, hc2⟩ := isk_fr k2 U8 (Same.fr s9)
      have W9 := W8.same s9
      have U9 := U8.same s9
      have kd9 := s9 _ _ kd8
      have F09 := F08.trans (Same.fr s9)
      revert n1 n2 W9 U9 kd9 F09
      generalize upd H8 T (.tup [.ref b1, .ref b2]) = H9
      intro n1 n2 W9 U9 kd9 F09
      have il1 : IsLot ts.length La := by rw [hc1]; exact .paint ts c1
      have il2 : IsLot ts.length Lb := by rw [hc2]; exact .paint ts c2
      have l1 := il1.len
      have l2 := il2.len
      have hKn := t4.ok
      clear t5 t4 t0 k1 k2 k17 k18 W6 W7 W8 kd6 kd7 kd8 F06 F07 F08 hkeys hkeys5 hkeys6 hkeys7
      -- both
      refine ⟨.ref b1, rfl, .ref b2, rfl, b1, b2, _, _, rfl, rfl, n1, n2, ?_, fun p Hc sc hp => ⟨p, rfl, ⟨_, hp⟩, fun D hD => ?_⟩⟩
      · rw [nv_len, nv_len]
        exact Nat.le_of_lt (small1000 (by omega))
      have hp : SqT K Hc p (nv (La ++ Lb)) := by
        show SqT K Hc p (List.map _ (La ++ Lb))
        rw [List.map_append]
        exact hp
      have n1c := Same.seqT sc n1
      have n2c := Same.seqT sc n2
      refine lc_it (walk_tup (K := K) (a := p) (xs := nv (La ++ Lb))) (fun j H5 => Same Hc H5 ∧ H5 D = some (.lst (nv (((La ++ Lb).take j).filter fun k => !decide (k ∈ La) || !decide (k ∈ Lb))))) ⟨same_new hD, upd_same⟩ (fun j H5 _ z => Same.seqT z.1 hp) (fun j x H5 H6 hj z y => ?_) fun H5 z => ?_
      · obtain ⟨rfl, e5⟩ := y
        obtain ⟨t, ht, rfl⟩ := nv_of e5
        have es := filt_snoc (fun k => !decide (k ∈ La) || !decide (k ∈ Lb)) (La ++ Lb) j t ht
        have yes : (!decide (t ∈ La) || !decide (t ∈ Lb)) = true → ∃ acc, H6 D = some (.lst acc) ∧ acc.length < sizeLine ∧ (Same Hc (upd H6 D (.lst (acc ++ [V.int (t : Nat)]))) ∧ (upd H6 D (.lst (acc ++ [V.int (t : Nat)]))) D = some (.lst (nv (((La ++ Lb).take (j + 1)).filter fun k => !decide (k ∈ La) || !decide (k ∈ Lb))))) := fun hin => by
          refine ⟨_, z.2, ?_, same_own z.1 hD, ?_⟩
          · rw [nv_len]
            refine Nat.lt_of_le_of_lt (filt_len _ _ _) (small1000 ?_)
            rw [List.length_append]
            omega
          · rw [upd_same, nv_snoc, es, if_pos hin]
        refine ⟨rfl, _, rfl, .ref b1, rfl, b1, _, rfl, .inr (Same.seqT z.1 n1c), rfl, flat_nv La, _, rfl, ?_⟩
        rw [if_pos rfl, inV_nv]
        cases ha : decide (t ∈ La) with
        | false =>
          refine iteT ?_
          refine iteT ?_
          exact ⟨_, rfl, yes (by rw [ha]; rfl)⟩
        | true =>
          refine iteF ?_
          refine ⟨_, rfl, .ref b2, rfl, b2, _, rfl, .inr (Same.seqT z.1 n2c), rfl, flat_nv Lb, _, rfl, ?_⟩
          rw [if_pos rfl, inV_nv]
          cases hb : decide (t ∈ Lb) with
          | false =>
            refine iteT ?_
            exact ⟨_, rfl, yes (by rw [ha, hb]; rfl)⟩
          | true =>
            refine iteF ?_
            refine ⟨z.1, ?_⟩
            rw [es, ha, hb, if_neg (by decide), List.append_nil]
            exact z.2
      have z2 := z.2
      rw [nv_len, List.take_length] at z2
      have hML : ((La ++ Lb).filter fun k => !decide (k ∈ La) || !decide (k ∈ Lb)).length ≤ 60 := by
        refine Nat.le_trans (List.length_filter_le _ _) ?_
        rw [List.length_append]
        omega
      have s10 : Same H9 H5 := sc.trans z.1
      rw [nv_ci] at z2
      refine ⟨D, ci _, rfl, SqL.of z2, by rw [List.length_map]; omega, fun se cc hse hcc => ?_⟩
      generalize (cxOf CX0 P w K mg base NTld "_law_is_told" (defScope sIsTold) f cdv A outer s H E).nox.w = w'
      refine ⟨se, _, cc, rfl, upd_same, ?_, fun ns so asc mem _ hso => ⟨so, _, rfl, .inl ⟨SqL.of upd_same, fun bo hbo => ?_⟩⟩⟩
      · rw [List.length_map] at hcc
        omega
      obtain ⟨Lx, rfl, ascx, memx⟩ := asc_ci (M := (La ++ Lb).filter fun k => !decide (k ∈ La) || !decide (k ∈ Lb)) asc fun k => by
        rw [mem k, decide_eq_true_iff]
      clear asc mem
      have s11 := ((s10.trans (same_new (o := SetO w' se (fun j => decide (j ∈ ci ((La ++ Lb).filter fun k => !decide (k ∈ La) || !decide (k ∈ Lb)))) cc) hse)).trans (same_new (o := .lst ((ci Lx).map V.int)) hso)).trans (same_new (o := .tup ((ci Lx).map V.int)) hbo)
      have ebo : (upd (upd (upd H5 se (SetO w' se (fun j => decide (j ∈ ci ((La ++ Lb).filter fun k => !decide (k ∈ La) || !decide (k ∈ Lb)))) cc)) so (.lst ((ci Lx).map V.int))) bo (.tup ((ci Lx).map V.int))) bo = some (.tup (nv Lx)) := by
        rw [nv_ci]
        exact upd_same
      revert s11 ebo
      clear z2 z s10
      generalize upd (upd (upd H5 se (SetO w' se (fun j => decide (j ∈ ci ((La ++ Lb).filter fun k => !decide (k ∈ La) || !decide (k ∈ Lb)))) cc)) so (.lst ((ci Lx).map V.int))) bo (.tup ((ci Lx).map V.int)) = H10
      intro s11 ebo
      have W10 := W9.same s11
      have n1d := Same.seqT s11 n1
      have n2d := Same.seqT s11 n2
      have U10 := U9.same s11
      have kd10 := s11 _ _ kd9
      have F10 := F09.trans (Same.fr s11)
      clear s11 n1c n2c sc hp hD
      -- the colours of one and two
      refine ⟨.ref wb, rfl, .ref b1, rfl, wb, b1, n, ts, tp, as, La, rfl, W10, wo, n1d, il1, fun Hx sx hno => absurd ⟨ev1, cutOf_any ⟨c1, hc1⟩⟩ hno, fun H11 a1 sA s12 _ sA0 hsA ea1 => ?_⟩
      refine ⟨.ref wb, rfl, .ref b2, rfl, wb, b2, n, ts, tp, as, Lb, rfl, W10.same s12, wo, Same.seqT s12 n2d, il2, fun Hx sx hno => absurd ⟨ev2, cutOf_any ⟨c2, hc2⟩⟩ hno, fun H12 a2 sB s13 _ sB0 hsB ea2 => ?_⟩
      have ea1' := s13 _ _ ea1
      have s14 := s12.trans s13
      refine ⟨a1, a2, _, _, rfl, .inr ⟨SqT.of ea1', SqT.of ea2, fun D hD => ?_⟩⟩
      refine lc_it (walk_zipT (K := K) (a := a1) (b := a2) (xs := cl sA n) (ys := cl sB n) (n := n) (gm_len _ _) (gm_len _ _)) (fun j H5 => Same H12 H5 ∧ H5 D = some (.lst (cl (fun x => sA x != sB x) j))) ⟨same_new hD, upd_same⟩ (fun j H5 _ z => ⟨SqT.of (z.1 _ _ ea1'), SqT.of (z.1 _ _ ea2)⟩) (fun j x H5 H6 hj z y => ?_) fun H5 z => ?_
      · obtain ⟨T', x1, x2, rfl, nT', rfl, f1, f2⟩ := y
        obtain rfl : V.int (bi (sA j)) = x1 := Option.some.inj ((gm_get _ hj).symm.trans f1)
        obtain rfl : V.int (bi (sB j)) = x2 := Option.some.inj ((gm_get _ hj).symm.trans f2)
        have s6 : Same H5 (upd H5 T' (.tup [.int (bi (sA j)), .int (bi (sB j))])) := same_new nT'
        have e6 := s6 _ _ z.2
        have s26 := z.1.trans s6
        have eT' : (upd H5 T' (.tup [.int (bi (sA j)), .int (bi (sB j))])) T' = some (.tup [.int (bi (sA j)), .int (bi (sB j))]) := upd_same
        revert s26 e6 eT'
        clear s6
        generalize upd H5 T' (.tup [.int (bi (sA j)), .int (bi (sB j))]) = H6
        intro e6 s26 eT'
        refine ⟨T', _, rfl, SqT.of eT', rfl, _, _, rfl, _, _, rfl, rfl, rfl, ?_⟩
        unfold tYes
        dsimp only
        rw [if_pos rfl]
        refine ⟨_, rfl, _, rfl, _, _, rfl, rfl, .inl ⟨_, rfl, _, _, rfl, rfl, (show (0 : Int) < 2 by decide), _, e6, ?_, same_own s26 hD, ?_⟩⟩
        · rw [gm_len]
          exact small1000 (by omega)
        · rw [upd_same]
          dsimp only
          rw [bi_add]
          show _ = some (HO.lst (gm (fun x => V.int (bi (sA x != sB x))) (j + 1)))
          rw [gm_succ]
      have s15 := s14.trans z.1
      have eD := z.2
      have W11 := W10.same s15
      have U11 := U10.same s15
      have kd11 := s15 _ _ kd10
      have F11 := F10.trans (Same.fr s15)
      have ebo11 := s15 _ _ ebo
      clear z s15 s14 s13 s12 hD
      -- the colours of both
      have hLx : Lx = paint ts fun x => sA x != sB x := sum_lot (n := n) hsA hsB ascx memx
      have ilx : IsLot ts.length Lx := by rw [hLx]; exact .paint ts _
      have evx : evenB n ts Lx = true := by
        rw [hLx]
        refine even_xor ?_ ?_
        · rw [← hsA]
          exact ev1
        · rw [← hsB]
          exact ev2
      refine ⟨.ref wb, rfl, .ref bo, rfl, wb, bo, n, ts, tp, as, Lx, rfl, W11, wo, SqT.of ebo11, ilx, fun Hx sx hno => absurd ⟨evx, cutOf_any ⟨_, hLx⟩⟩ hno, fun H13 a3 sC s16 _ sC0 hsC ea3 => ?_⟩
      have hCC : ∀ p, p < n → sC p = (sA p != sB p) := by
        refine paint_inj wo ?_ ?_
        · rw [← hsC, hLx]
        · rw [sC0, sA0, sB0]
          rfl
      have ra := rp_C (K := K) (SqT.of ea3) hn8
      rw [cli_congr hCC] at ra
      refine ⟨a3, _, rfl, ra.dp, ra.sh, ra.nod, ra.dep, ra.len, _, rfl, D, _, rfl, .inl ⟨SqL.of (s16 _ _ eD), fun tu htu => ?_⟩⟩
      have rb := rp_C (K := K) (H := upd H13 tu (.tup (cl (fun x => sA x != sB x) n))) (t := tu) (SqT.of upd_same) hn8
      refine ⟨tu, _, rfl, rb.dp, rb.sh, rb.nod, rb.dep, rb.len, rfl, _, rfl, ?_⟩
      rw [ne_self]
      refine iteF ?_
      have s17 : Same H5 (upd H13 tu (.tup (cl (fun x => sA x != sB x) n))) := s16.trans (same_new htu)
      have W12 := W11.same s17
      have U12 := U11.same s17
      have kd12 := s17 _ _ kd11
      have F12 := F11.trans (Same.fr s17)
      revert W12 U12 kd12 F12
      clear ra rb s17 s16 htu
      generalize upd H13 tu (.tup (cl (fun x => sA x != sB x) n)) = H14
      intro W12 U12 kd12 F12
      clear W9 W10 W11 U9 U10 U11 kd9 kd10 kd11 F09 F10 F11
      -- a drawn lot
      refine ⟨.ref wb, rfl, wb, _, 1, .ref tp, rfl, rfl, W12.top, rfl, tp, _, rfl, .inr W12.ties, ((as.map V.ref).length : Nat), rfl, by omega, by rw [List.length_map, W12.len]; omega, fun D2 hD2 => ?_⟩
      have offD2 := U12.off hD2
      refine lc_it (walk_range (lo := 0) (n := (((as.map V.ref).length : Nat) : Int).toNat)) (fun j H5 => Fr d l H14 H5 ∧ Urn H5 d l ∧ ∃ L, H5 D2 = some (.lst (nv L)) ∧ IsLot j L) ⟨Same.fr (same_new hD2), U12.same (same_new hD2), [], upd_same, .nil 0⟩ (fun j H5 _ z => True.intro) (fun j x H5 H6 hj z y => ?_) fun H5 z => ?_
      · obtain ⟨F5, U5, L, e5, il5⟩ := z
        obtain ⟨rfl, rfl⟩ := y
        have hj' : j < ts.length := by
          have hj2 : j < (as.map V.ref).length := hj
          rw [List.length_map, W12.len] at hj2
          exact hj2
        have e0 : (0 : Int) + ((j : Nat) : Int) = ((j : Nat) : Int) := Int.zero_add _
        show gName 3 (V.int (0 + (j : Nat))) _ _ _
        rw [e0]
        refine ⟨rfl, .ref d, rfl, d, l, 2, rfl, U5, by decide, fun H7 r F7 U7 _ _ => ⟨rfl, _, rfl, ?_⟩⟩
        have e7 := F7 _ _ offD2.1 offD2.2 e5
        by_cases hr0 : r = 0
        · rw [decide_eq_true (show V.int (r : Nat) = V.int 0 by rw [hr0]; rfl)]
          refine iteT ?_
          refine ⟨_, rfl, _, e7, ?_, (F5.trans F7).own hD2, U7.put offD2, L ++ [j], ?_, ?_, ?_⟩
          · have := il5.len
            rw [nv_len]
            exact small1000 (by omega)
          · rw [upd_same, nv_snoc]
          · rw [List.pairwise_append]
            refine ⟨il5.asc, List.pairwise_singleton _ _, fun p hp q hq => ?_⟩
            rw [List.mem_singleton.mp hq]
            exact il5.lt p hp
          · intro k hk
            rcases List.mem_append.mp hk with m | m
            · have := il5.lt k m
              omega
            · rw [List.mem_singleton.mp m]
              omega
        · rw [decide_eq_false (show ¬ V.int (r : Nat) = V.int 0 from fun z => hr0 (by injection z with z; omega))]
          refine iteF ?_
          exact ⟨F5.trans F7, U7, L, e7, il5.asc, fun k hk => by have := il5.lt k hk; omega⟩
      obtain ⟨F5, U5, L, e5, il5⟩ := z
      have il : IsLot ts.length L := by
        have e : (((as.map V.ref).length : Nat) : Int).toNat = ts.length := by rw [List.length_map, W12.len]; rfl
        rw [e] at il5
        exact il5
      refine ⟨D2, _, rfl, .inl ⟨SqL.of e5, fun lt hlt => ?_⟩⟩
      have s18 : Same H5 (upd H5 lt (.tup (nv L))) := same_new hlt
      have elt : (upd H5 lt (.tup (nv L))) lt = some (.tup (nv L)) := upd_same
      have W13 := (W12.fr F5 U12).same s18
      have U13 := U5.same s18
      have kd13 := s18 _ _ (F5 _ _ offk.1 offk.2 kd12)
      have F13 := (F12.trans F5).trans (Same.fr s18)
      revert elt W13 U13 kd13 F13
      clear s18 hlt e5
      generalize upd H5 lt (.tup (nv L)) = H15
      intro elt W13 U13 kd13 F13
      -- what comes of it
      refine ⟨_, rfl, _, rfl, wb, lt, n, ts, tp, as, false, W13, wo, .inr ⟨rfl, L, SqT.of elt, il, fun H16 qf s19 hh => ?_⟩⟩
      have W14 := W13.same s19
      have U14 := U13.same s19
      have kd14 := s19 _ _ kd13
      have F14 := F13.trans (Same.fr s19)
      have elt14 := s19 _ _ elt
      refine ⟨_, rfl, (show 1 ≤ sizeLine by decide), fun zu hzu => ?_⟩
      have s20 : Same H16 (upd H16 zu (.lst [.str "unfit"])) := same_new hzu
      have ru := rp_un (K := K) (H := upd H16 zu (.lst [.str "unfit"])) (a := zu) upd_same
      rcases hh with ⟨hun, hno⟩ | ⟨tc, sc, hev, sc0, hsc, htc, etc⟩
      · have rf := rp_un (K := K) (s20 _ _ hun)
        refine ⟨dUn, dUn, rf.dp, ru.dp, rf.shaped, ru.shaped, _, rfl, ?_⟩
        rw [eqv_un]
        refine iteT ?_
        have hnone : valV kvs (ky L) = none := valV_none fun kv hkv e => by
          obtain ⟨M, eM, evM, c, hc⟩ := hKn kv hkv
          obtain rfl := ky_inj (eM.symm.trans e)
          exact hno ⟨evM, cutOf_any ⟨c, hc⟩⟩
        have dg := DGet.t (k := ky L) (s20 _ _ kd14) (by rw [ky_nv]; exact s20 _ _ elt14)
        rw [hnone] at dg
        exact ⟨_, rfl, _, rfl, kd, none, rfl, dg, q _ (F14.trans (Same.fr s20)) (U14.same s20)⟩
      · have etc20 := s20 _ _ etc
        have rf := rp_toC (K := K) (s20 _ _ htc) (SqT.of etc20) hn8
        refine ⟨dTo (cli sc n), dUn, rf.dp, ru.dp, rf.shaped, ru.shaped, _, rfl, ?_⟩
        rw [eqv_toUn]
        refine iteF ?_
        have htc20 := s20 _ _ htc
        refine ⟨.ref qf, rfl, qf, _, 0, .str "told", rfl, rfl, SqL.of htc20, atI_nat (j := 0) rfl, rfl, true, congrArg V.bl (decide_eq_true rfl), iteT ?_⟩
        have W15 := W14.same s20
        have elt20 := s20 _ _ elt14
        refine ⟨.ref wb, rfl, .ref lt, rfl, wb, lt, n, ts, tp, as, L, rfl, W15, wo, SqT.of elt20, il, fun H17 s21 => ⟨true, congrArg V.bl hev, iteT ?_⟩⟩
        refine ⟨.ref wb, rfl, .ref qf, rfl, qf, _, 1, .ref tc, rfl, rfl, SqL.of (s21 _ _ htc20), atI_nat (j := 1) rfl, wb, tc, n, ts, tp, as, sc, rfl, W15.same s21, wo, SqT.of (s21 _ _ etc20), fun H18 qp s22 eqp => ?_⟩
        have elt22 := s22 _ _ (s21 _ _ elt20)
        rw [← hsc] at eqp
        have rx := rp_N (K := K) (SqT.of eqp) il (by omega)
        have ry := rp_N (K := K) (SqT.of elt22) il (by omega)
        refine ⟨_, rfl, dNs (ci L), dNs (ci L), rx.dp, ry.dp, rx.shaped, ry.shaped, ?_⟩
        rw [eqv_ns]
        have s23 := (s20.trans s21).trans s22
        exact q _ (F14.trans (Same.fr s23)) (U14.same s23)
end
end Bh

namespace Bh
open PySem PySem.Spec PyProof.Rows L2
abbrev sqT : Ties := [(0, 1), (1, 2), (2, 3), (0, 3)]
theorem sq_ok : WebOk 4 sqT := by
  refine ⟨by decide, by decide, by decide, by decide, fun S s0 hs q hq => ?_⟩
  have h1 : S 1 := (hs (0, 1) (by decide)).mp s0
  have h2 : S 2 := (hs (1, 2) (by decide)).mp h1
  have h3 : S 3 := (hs (2, 3) (by decide)).mp h2
  match q, hq with
  | 0, _ => exact s0
  | 1, _ => exact h1
  | 2, _ => exact h2
  | 3, _ => exact h3
abbrev cA : Nat → Bool := fun x => x == 1 || x == 3
abbrev cB : Nat → Bool := fun x => x == 1
theorem draws (i : Nat) (hi : i < 4) : ∃ a b c : Nat, [V.int 1, V.int 3, V.int 4, V.int 6][i]? = some (V.int (a : Nat)) ∧ [V.int 2, V.int 3, V.int 2, V.int 3][i]? = some (V.int (b : Nat)) ∧ [V.int 3, V.int 5, V.int 6, V.int 6][i]? = some (V.int (c : Nat)) ∧
    1 ≤ a ∧ a + b ≤ 9 ∧ 2 ≤ b ∧ 2 ≤ c ∧ c ≤ 6 := by
  match i, hi with
  | 0, _ => exact ⟨1, 2, 3, rfl, rfl, rfl, by decide, by decide, by decide, by decide, by decide⟩
  | 1, _ => exact ⟨3, 3, 5, rfl, rfl, rfl, by decide, by decide, by decide, by decide, by decide⟩
  | 2, _ => exact ⟨4, 2, 6, rfl, rfl, rfl, by decide, by decide, by decide, by decide, by decide⟩
  | 3, _ => exact ⟨6, 3, 6, rfl, rfl, rfl, by decide, by decide, by decide, by decide, by decide⟩
section
variable {P : Program} {w : World} {K : PySem.W.Frag} {mg : Str → Option Value} {base : Heap}
/-! ### law -/
theorem scLaw : FnScope ["_law_script", "_law_urn_here", "_law_turn", "_law_web_here", "_law_square", "_law_found"] ["_law_script"] (defScope sLaw) := ⟨rfl, rfl, rfl, by decide +kernel, rfl, by decide +kernel, by decide +kernel⟩
def spLaw (K : PySem.W.Frag) : Sp := fun vs H Q _ => ∃ (a : Addr) (ns : List Int), vs = [.ref a] ∧ SqL K H a (ns.map V.int) ∧ ns.length ≤ 63 ∧ ∀ H', Q (.bl true) H'
theorem ok_law {f fU fK fW fT fO : Addr} {fd fdU fdK fdW fdT fdO : FuncData} (F : Fun K "law" "law" sLaw f fd)
    (GU : FnOk P w K mg base CX0 1 fU fdU ["_law_script"] (spUrn K)) (kU : PySem.W.keepIn K (.ref fU) = true) (bU : L2.Binds K fdU ["_law_script"] []) (gU : mg "_law_urn" = some (.ref fU))
    (GK : FnOk P w K mg base CX0 1 fK fdK ["_law_urn_here", "_law_many"] spTake) (kK : PySem.W.keepIn K (.ref fK) = true) (bK : L2.Binds K fdK ["_law_urn_here", "_law_many"] []) (gK : mg "_law_take" = some (.ref fK))
    (GW : FnOk P w K mg base CX0 3 fW fdW ["_law_urn_here", "_law_many", "_law_more"] (spLWeb K)) (kW : PySem.W.keepIn K (.ref fW) = true) (bW : L2.Binds K fdW ["_law_urn_here", "_law_many", "_law_more"] []) (gW : mg "_law_web" = some (.ref fW))
    (GT : FnOkG P w K mg base CX0 7 fT fdT ["_law_urn_here", "_law_web_here"] (spTold K)) (kT : PySem.W.keepIn K (.ref fT) = true) (bT : L2.Binds K fdT ["_law_urn_here", "_law_web_here"] []) (gT : mg "_law_is_told" = some (.ref fT))
    (GO : FnOk P w K mg base CX0 6 fO fdO ["_law_way", "_law_web_here", "_law_some", "_law_is_named"] (spOut K)) (kO : PySem.W.keepIn K (.ref fO) = true) (bO : L2.Binds K fdO ["_law_way", "_law_web_here", "_law_some", "_law_is_named"] []) (gO : mg "_law_outcome" = some (.ref fO))
    (mre : mg "repr" = none) (mr : mg "range" = none) : FnOkG P w K mg base CX0 8 f fd ["_law_script"] (spLaw K) := by
  refine okG F scLaw (fun vs H Q E h => ?_) (fun cdv A outer s H vs Q E hgd hr h => ?_)
  · obtain ⟨_, _, rfl, _⟩ := h
    rfl
  · obtain ⟨a, ns, rfl, ha, hn, q⟩ := h
    have hu := hr.units
    have r1 := hr.mono (show 1 ≤ 7 by decide)
    have r3 := hr.mono (show 3 ≤ 7 by decide)
    have r6 := hr.mono (show 6 ≤ 7 by decide)
    refine ⟨_, PSs.nox (pss_cons (ps_set (i := 1) scLaw.nd rfl (.inl rfl) (pe_call GU r1 (by rfl) gU kU bU .nil pass0 (pa_cons (pv 0) pa_nil)))
      (pss_cons (ps_for PassesOwn.never rfl (pi_range1 (by rfl) mr (pa_cons pe_int pa_nil)) (pg_name (i := 2) scLaw.nd rfl (.inl rfl))
        (pss_cons (ps_set (i := 3) scLaw.nd rfl (.inl rfl) (pe_call GW r3 (by rfl) gW kW bW .nil pass0 (pa_cons (pv 1) (pa_cons
            (pe_op op_add (pe_ix ix_list (pe_lst (pa_cons pe_int (pa_cons pe_int (pa_cons pe_int (pa_cons pe_int pa_nil))))) (pv 2) (fun _ _ => rfl))
              (pe_call GK r1 (by rfl) gK kK bK .nil pass0 (pa_cons (pv 1) (pa_cons (pe_ix ix_list (pe_lst (pa_cons pe_int (pa_cons pe_int (pa_cons pe_int (pa_cons pe_int pa_nil))))) (pv 2) (fun _ _ => rfl)) pa_nil))))
            (pa_cons (pe_call GK r1 (by rfl) gK kK bK .nil pass0 (pa_cons (pv 1) (pa_cons (pe_ix ix_list (pe_lst (pa_cons pe_int (pa_cons pe_int (pa_cons pe_int (pa_cons pe_int pa_nil))))) (pv 2) (fun _ _ => rfl)) pa_nil))) pa_nil)))))
        (pss_one (ps_if (pt_not (pt_val (pe_callG GT hgd hr (by rfl) gT kT bT pass0 (pa_cons (pv 1) (pa_cons (pv 3) pa_nil))))) (pss_one (ps_ret pe_bl)) pss_nil))))
      (pss_cons (ps_set (i := 4) scLaw.nd rfl (.inl rfl) (pe_tup (pa_cons pe_int (pa_cons (pe_tup (pa_cons (pe_tup (pa_cons pe_int (pa_cons pe_int pa_nil))) (pa_cons (pe_tup (pa_cons pe_int (pa_cons pe_int pa_nil))) (pa_cons (pe_tup (pa_cons pe_int (pa_cons pe_int pa_nil))) (pa_cons (pe_tup (pa_cons pe_int (pa_cons pe_int pa_nil))) pa_nil))))) pa_nil))))
      (pss_cons (ps_set (i := 5) scLaw.nd rfl (.inl rfl) (pe_lst (pa_cons
          (pe_call GO r6 (by rfl) gO kO bO .nil pass0 (pa_cons pe_int (pa_cons (pv 4) (pa_cons (pe_tup (pa_cons pe_int (pa_cons pe_int (pa_cons pe_int (pa_cons pe_int pa_nil))))) (pa_cons pe_bl pa_nil))))) (pa_cons
          (pe_call GO r6 (by rfl) gO kO bO .nil pass0 (pa_cons pe_int (pa_cons (pv 4) (pa_cons (pe_tup (pa_cons pe_int (pa_cons pe_int (pa_cons pe_int (pa_cons pe_int pa_nil))))) (pa_cons pe_bl pa_nil))))) pa_nil))))
      (pss_one (ps_ret (pe_cmpR op_eq (pe_callB (cr_repr hgd hu) (by rfl) mre (by decide +kernel) (pa_cons (pv 5) pa_nil))
        (pe_callB (cr_repr hgd hu) (by rfl) mre (by decide +kernel) (pa_cons (pe_lst (pa_cons (pe_lst (pa_cons pe_str (pa_cons (pe_tup (pa_cons pe_int (pa_cons pe_int (pa_cons pe_int (pa_cons pe_int pa_nil))))) pa_nil))) (pa_cons (pe_lst (pa_cons pe_str pa_nil)) pa_nil))) pa_nil)) (nomark _)))))))), ?_⟩
    refine ⟨.ref a, rfl, a, ns, rfl, ha, hn, fun H1 d l s1 U1 => ?_⟩
    refine ⟨4, rfl, by decide, by decide, ?_⟩
    refine for_it (walk_range (lo := 0) (n := (4 : Int).toNat)) (fun i σ H2 => ∃ y2 y3, σ = [some (.ref a), some (.ref d), y2, y3, none, none] ∧ Urn H2 d l) ⟨none, none, rfl, U1⟩ (fun _ _ _ _ _ => True.intro) (fun i v σ H2 H3 hi hP y => ?_) ?_
    · obtain ⟨y2, y3, rfl, U⟩ := hP
      obtain ⟨rfl, rfl⟩ := y
      have hi' : i < 4 := hi
      have e0 : (0 : Int) + ((i : Nat) : Int) = ((i : Nat) : Int) := Int.zero_add _
      show gName 2 (V.int (0 + (i : Nat))) _ _ _
      rw [e0]
      obtain ⟨x, y, z, ex, ey, ez, hx, hxy, hy, hz2, hz⟩ := draws i hi'
      refine ⟨.ref d, rfl, (show 4 ≤ sizeLine by decide), fun la hla => ?_⟩
      have ea : (upd H3 la (.lst [.int 1, .int 3, .int 4, .int 6])) la = some (.lst [.int 1, .int 3, .int 4, .int 6]) := upd_same
      have Ua := U.same (same_new (o := .lst [.int 1, .int 3, .int 4, .int 6]) hla)
      refine ⟨.int (i : Nat), rfl, la, _, (i : Nat), .int (x : Nat), rfl, rfl, SqL.of ea, atI_nat ex, .ref d, rfl, (show 4 ≤ sizeLine by decide), fun lb hlb => ?_⟩
      have eb : (upd (upd H3 la (.lst [.int 1, .int 3, .int 4, .int 6])) lb (.lst [.int 2, .int 3, .int 2, .int 3])) lb = some (.lst [.int 2, .int 3, .int 2, .int 3]) := upd_same
      have Ub := Ua.same (same_new (o := .lst [.int 2, .int 3, .int 2, .int 3]) hlb)
      refine ⟨.int (i : Nat), rfl, lb, _, (i : Nat), .int (y : Nat), rfl, rfl, SqL.of eb, atI_nat ey, d, l, y, rfl, Ub, by omega, fun H4 r F4 U4 _ hr' => ?_⟩
      have hrl := hr' hy
      refine ⟨_, _, rfl, rfl, .ref d, rfl, (show 4 ≤ sizeLine by decide), fun lc hlc => ?_⟩
      have ec : (upd H4 lc (.lst [.int 3, .int 5, .int 6, .int 6])) lc = some (.lst [.int 3, .int 5, .int 6, .int 6]) := upd_same
      have Uc := U4.same (same_new (o := .lst [.int 3, .int 5, .int 6, .int 6]) hlc)
      refine ⟨.int (i : Nat), rfl, lc, _, (i : Nat), .int (z : Nat), rfl, rfl, SqL.of ec, atI_nat ez, d, l, z, rfl, Uc, by omega, fun H5 m F5 U5 _ hm => ?_⟩
      have hml := hm hz2
      refine ⟨d, l, x + r, m, ?_, U5, by omega, by omega, by omega, fun H6 wb tp ts as F6 U6 W wo => ?_⟩
      · have e : (x : Int) + (r : Int) = ((x + r : Nat) : Int) := by omega
        show [V.ref d, V.int ((x : Int) + (r : Int)), V.int (m : Nat)] = _
        rw [e]
      refine ⟨.ref d, rfl, .ref wb, rfl, d, l, wb, _, ts, tp, as, rfl, U6, W, wo, fun H7 F7 U7 => ⟨true, rfl, ?_⟩⟩
      refine iteF ?_
      exact ⟨_, _, rfl, U7⟩
    · rintro σ H2 ⟨y2, y3, rfl, U⟩
      clear U
      refine ⟨(show 2 ≤ sizeLine by decide), fun a0 h0 => ⟨(show 2 ≤ sizeLine by decide), fun a1 h1 => ⟨(show 2 ≤ sizeLine by decide), fun a2 h2 => ⟨(show 2 ≤ sizeLine by decide), fun a3 h3 => ⟨(show 4 ≤ sizeLine by decide), fun tp h4 => ⟨(show 2 ≤ sizeLine by decide), fun sq h5 => ?_⟩⟩⟩⟩⟩⟩
      have W : Web K (upd (upd (upd (upd (upd (upd H2 a0 (.tup [.int 0, .int 1])) a1 (.tup [.int 1, .int 2])) a2 (.tup [.int 2, .int 3])) a3 (.tup [.int 0, .int 3])) tp (.tup [.ref a0, .ref a1, .ref a2, .ref a3])) sq (.tup [.int 4, .ref tp])) sq 4 sqT tp [a0, a1, a2, a3] := by
        have g1 := same_new (o := .tup [.int 1, .int 2]) h1
        have g2 := same_new (o := .tup [.int 2, .int 3]) h2
        have g3 := same_new (o := .tup [.int 0, .int 3]) h3
        have g4 := same_new (o := .tup [.ref a0, .ref a1, .ref a2, .ref a3]) h4
        have g5 := same_new (o := .tup [.int 4, .ref tp]) h5
        have i0 := g5 _ _ (g4 _ _ (g3 _ _ (g2 _ _ (g1 _ _ (upd_same (H := H2) (a := a0) (o := HO.tup [.int 0, .int 1]))))))
        have i1 := g5 _ _ (g4 _ _ (g3 _ _ (g2 _ _ (upd_same (H := upd H2 a0 (.tup [.int 0, .int 1])) (a := a1) (o := HO.tup [.int 1, .int 2])))))
        have i2 := g5 _ _ (g4 _ _ (g3 _ _ (upd_same (H := upd (upd H2 a0 (.tup [.int 0, .int 1])) a1 (.tup [.int 1, .int 2])) (a := a2) (o := HO.tup [.int 2, .int 3]))))
        have i3 := g5 _ _ (g4 _ _ (upd_same (H := upd (upd (upd H2 a0 (.tup [.int 0, .int 1])) a1 (.tup [.int 1, .int 2])) a2 (.tup [.int 2, .int 3])) (a := a3) (o := HO.tup [.int 0, .int 3])))
        have i4 := g5 _ _ (upd_same (H := upd (upd (upd (upd H2 a0 (.tup [.int 0, .int 1])) a1 (.tup [.int 1, .int 2])) a2 (.tup [.int 2, .int 3])) a3 (.tup [.int 0, .int 3])) (a := tp) (o := HO.tup [.ref a0, .ref a1, .ref a2, .ref a3]))
        refine ⟨SqT.of upd_same, SqT.of i4, rfl, fun k b e => ?_⟩
        match k, e with
        | 0, e =>
          obtain rfl := Option.some.inj e
          exact SqT.of i0
        | 1, e =>
          obtain rfl := Option.some.inj e
          exact SqT.of i1
        | 2, e =>
          obtain rfl := Option.some.inj e
          exact SqT.of i2
        | 3, e =>
          obtain rfl := Option.some.inj e
          exact SqT.of i3
        | k + 4, e => simp at e
      revert W
      generalize upd (upd (upd (upd (upd (upd H2 a0 (.tup [.int 0, .int 1])) a1 (.tup [.int 1, .int 2])) a2 (.tup [.int 2, .int 3])) a3 (.tup [.int 0, .int 3])) tp (.tup [.ref a0, .ref a1, .ref a2, .ref a3])) sq (.tup [.int 4, .ref tp]) = H3
      intro W
      -- the first outcome
      refine ⟨.ref sq, rfl, (show 4 ≤ sizeLine by decide), fun p1 hp1 => ?_⟩
      have e1 : SqT K (upd H3 p1 (.tup [.int 0, .int 1, .int 0, .int 1])) p1 (cl cA 4) := SqT.of upd_same
      have W1 := W.same (same_new (o := .tup [.int 0, .int 1, .int 0, .int 1]) hp1)
      refine ⟨sq, p1, 4, sqT, tp, _, false, W1, sq_ok, .inl ⟨rfl, cA, e1, fun H5 q1 s5 _ hto => ?_⟩⟩
      obtain ⟨t1, ht1, et1⟩ := hto (by decide +kernel)
      have W5 := W1.same s5
      refine ⟨.ref sq, rfl, (show 4 ≤ sizeLine by decide), fun p2 hp2 => ?_⟩
      have e2 : SqT K (upd H5 p2 (.tup [.int 0, .int 1, .int 0, .int 0])) p2 (cl cB 4) := SqT.of upd_same
      have s6 : Same H5 (upd H5 p2 (.tup [.int 0, .int 1, .int 0, .int 0])) := same_new hp2
      have W6 := W5.same s6
      refine ⟨sq, p2, 4, sqT, tp, _, false, W6, sq_ok, .inl ⟨rfl, cB, e2, fun H7 q2 s7 hun _ => ?_⟩⟩
      have hu2 := hun (by decide +kernel)
      have s67 := s6.trans s7
      refine ⟨(show 2 ≤ sizeLine by decide), fun fl hfl => ?_⟩
      have s8 : Same H7 (upd H7 fl (.lst [.ref q1, .ref q2])) := same_new hfl
      have efl : (upd H7 fl (.lst [.ref q1, .ref q2])) fl = some (.lst [.ref q1, .ref q2]) := upd_same
      have ht8 := s8 _ _ (s67 _ _ ht1)
      have et8 := s8 _ _ (s67 _ _ et1)
      have hu8 := s8 _ _ hu2
      revert efl ht8 et8 hu8
      clear s8 hfl
      generalize upd H7 fl (.lst [.ref q1, .ref q2]) = H8
      intro efl ht8 et8 hu8
      have hpA : paint sqT cA = [0, 1, 2, 3] := by decide +kernel
      rw [hpA] at et8
      have fid : Fi (.list [dTo (ci [0, 1, 2, 3]), dUn]) 3 100 := by
        have z := Fi.list (Fis.cons (fi_to (ns := ci [0, 1, 2, 3]) (by decide)) (Fis.cons (show Fi dUn 2 6 from ⟨fi_un.sh, fi_un.nod, fi_un.lay, Nat.le_trans fi_un.dep (by decide), fi_un.short, fi_un.wt⟩) (Fis.nil (w := 0))))
        exact ⟨z.sh, z.nod, z.lay, z.dep, z.short, Nat.le_trans z.wt (by decide)⟩
      have ilA : IsLot 4 [0, 1, 2, 3] := ⟨by decide, by decide⟩
      have ra := rp_toN (K := K) ht8 (SqT.of et8) ilA (by decide)
      have rb := rp_un (K := K) hu8
      have rc : Rp K H8 fl (.list [dTo (ci [0, 1, 2, 3]), dUn]) := .of (.lst (SqL.of efl) (.cons ra.dp (.cons rb.dp .nil))) fid (by decide) (by decide)
      refine ⟨_, rfl, fl, _, rfl, rc.dp, rc.sh, rc.nod, rc.dep, rc.len, ?_⟩
      refine ⟨(show 4 ≤ sizeLine by decide), fun tz htz => ⟨(show 2 ≤ sizeLine by decide), fun l1 hl1 => ⟨(show 1 ≤ sizeLine by decide), fun l2 hl2 => ⟨(show 2 ≤ sizeLine by decide), fun l3 hl3 => ?_⟩⟩⟩⟩
      have g1 := same_new (o := .lst [.str "told", .ref tz]) hl1
      have g2 := same_new (o := .lst [.str "unfit"]) hl2
      have g3 := same_new (o := .lst [.ref l1, .ref l2]) hl3
      have iz := g3 _ _ (g2 _ _ (g1 _ _ (upd_same (H := H8) (a := tz) (o := HO.tup [.int 0, .int 1, .int 2, .int 3]))))
      have i1 := g3 _ _ (g2 _ _ (upd_same (H := upd H8 tz (.tup [.int 0, .int 1, .int 2, .int 3])) (a := l1) (o := HO.lst [.str "told", .ref tz])))
      have i2 := g3 _ _ (upd_same (H := upd (upd H8 tz (.tup [.int 0, .int 1, .int 2, .int 3])) l1 (.lst [.str "told", .ref tz])) (a := l2) (o := HO.lst [.str "unfit"]))
      have i3 : (upd (upd (upd (upd H8 tz (.tup [.int 0, .int 1, .int 2, .int 3])) l1 (.lst [.str "told", .ref tz])) l2 (.lst [.str "unfit"])) l3 (.lst [.ref l1, .ref l2])) l3 = some (.lst [.ref l1, .ref l2]) := upd_same
      have rx := rp_toN (K := K) (q := l1) (t := tz) (L := [0, 1, 2, 3]) i1 (SqT.of iz) ilA (by decide)
      have ry := rp_un (K := K) (a := l2) i2
      have rz : Rp K _ l3 (.list [dTo (ci [0, 1, 2, 3]), dUn]) := .of (.lst (SqL.of i3) (.cons rx.dp (.cons ry.dp .nil))) fid (by decide) (by decide)
      refine ⟨l3, _, rfl, rz.dp, rz.sh, rz.nod, rz.dep, rz.len, rfl, ?_⟩
      rw [decide_eq_true rfl]
      exact q _
end
end Bh

namespace Bh
open PySem PySem.Spec PyProof.Rows L2
/-! ### the end: what the program's top has left -/
theorem exm_self {K : PySem.W.Frag} {S : Addr} (h1 : PySem.W.subIn K (.ref S) (.type "BaseException") = some true) (h2 : PySem.W.isClsIn K S = true) (h3 : PySem.W.typeIn K (.ref S) = some (.type "type")) (h4 : PySem.W.subIn K (.ref S) (.ref S) = some true) :
    PySem.W.exmOne K (.ref S) (.ref S) = some true := by
  have e1 : (PySem.W.subIn K (.ref S) (.type "BaseException") == some true) = true := by rw [h1] <;> rfl
  have e2 : ((PySem.W.clsIn K S).isSome && PySem.W.typeIn K (.ref S) == some (.type "type")) = true := by
    have h2' : (PySem.W.clsIn K S).isSome = true := h2
    rw [h2', h3] <;> rfl
  show (if (PySem.W.subIn K (.ref S) (.type "BaseException") == some true) = true then (if ((PySem.W.clsIn K S).isSome && PySem.W.typeIn K (.ref S) == some (.type "type")) = true then PySem.W.subIn K (.ref S) (.ref S) else none) else none) = some true
  rw [if_pos e1, if_pos e2]
  exact h4
theorem all_mk {P : Program} {w : World} {K : PySem.W.Frag} {h : Heap} {mg : Str → Option Value} {fa B C fI fiI fwi fle fcu fev fsi fic fpl fgo ftr fwa fro fpa ffo fbo fec flo fco fur fta fpi fmi fwe fst fou fpd fvn fps fto fla : Addr} (X : K.In h) (Gl : h.Ns mainGlobals mg) (hfa : mg "law" = some (.ref fa))
    {odiI aniI odwi anwi odle anle odcu ancu odev anev odsi ansi odic anic odpl anpl odgo ango odtr antr odwa anwa odro anro odpa anpa odfo anfo odbo anbo odec anec odlo anlo odco anco odur anur odta anta odpi anpi odmi anmi odwe anwe odst anst odou anou odpd anpd odvn anvn odps anps odto anto odla anla od0 an0 : Option Addr} {sliI slwi slle slcu slev slsi slic slpl slgo sltr slwa slro slpa slfo slbo slec sllo slco slur slta slpi slmi slwe slst slou slpd slvn slps slto slla sl0 : Array (Option Value)} {ociI kViI dciI pmiI cdiI ctiI ocwi kVwi dcwi pmwi cdwi ctwi ocle kVle dcle pmle cdle ctle occu kVcu dccu pmcu cdcu ctcu ocev kVev dcev pmev cdev ctev ocsi kVsi dcsi pmsi cdsi ctsi ocic kVic dcic pmic cdic ctic ocpl kVpl dcpl pmpl cdpl ctpl ocgo kVgo dcgo pmgo cdgo ctgo octr kVtr dctr pmtr cdtr cttr ocwa kVwa dcwa pmwa cdwa ctwa ocro kVro dcro pmro cdro ctro ocpa kVpa dcpa pmpa cdpa ctpa ocfo kVfo dcfo pmfo cdfo ctfo ocbo kVbo dcbo pmbo cdbo ctbo ocec kVec dcec pmec cdec ctec oclo kVlo dclo pmlo cdlo ctlo occo kVco dcco pmco cdco ctco ocur kVur dcur pmur cdur ctur octa kVta dcta pmta cdta ctta ocpi kVpi dcpi pmpi cdpi ctpi ocmi kVmi dcmi pmmi cdmi ctmi ocwe kVwe dcwe pmwe cdwe ctwe ocst kVst dcst pmst cdst ctst ocou kVou dcou pmou cdou ctou ocpd kVpd dcpd pmpd cdpd ctpd ocvn kVvn dcvn pmvn cdvn ctvn ocps kVps dcps pmps cdps ctps octo kVto dcto pmto cdto ctto ocla kVla dcla pmla cdla ctla oc0 kV0 dc0 pm0 cd0 ct0 : Value}
    {nm q : Str} {N : Addr} {bs : List Value} {sn : List Str} {sub : List Value} {ab : Bool} {col : Option Bool} {dd : Option Addr} {m0 m1 m2 m3 m5 : Option Value}
    (aB : PySem.W.nsIn K mainGlobals "BothError" = some (some (.ref B))) (aC : PySem.W.nsIn K mainGlobals "Unfit" = some (some (.ref C)))
    (xL : K.lookup C = some (excClassObj nm q C N bs [.ref B, .type "ValueError", .type "Exception", .type "BaseException", .type "object"] true sn sub ab col dd m0 m1 m2 m3 m5 "ValueError.__new__"))
    (i1 : PySem.W.findIn K (.ref C) "__init__" = some (some (.ref fI))) (t1 : PySem.W.typeIn K (.ref fI) = some (.type "function"))
    (l1 : K.lookup fI = some ⟨oc0, od0, .func (PySem.W.fnOf "__init__" "Unfit.__init__" (defArgs sInit) (defBody sInit) (defScope sInit) .none kV0 dc0 pm0 an0 cd0 ct0), sl0⟩) (c1 : PySem.W.codeIn K cd0 "Unfit.__init__" = true)
    (kC : PySem.W.keepIn K (.ref C) = true) (eC : PySem.W.subIn K (.ref C) (.type "BaseException") = some true) (tC : PySem.W.typeIn K (.ref C) = some (.type "type")) (iC : PySem.W.isClsIn K C = true) (sC : PySem.W.subIn K (.ref C) (.ref C) = some true)
    (gaB : PySem.W.specialIn K (.ref B) "__getattribute__" = some (some (.builtin "type.__getattribute__"))) (rdB : PySem.W.readsIn K B (.type "type") = true)
    (fcB : PySem.W.findCls K (.ref B) (.type "type") "__init__" = some (.val (.builtin "ValueError.__init__")))
    (aiI : PySem.W.nsIn K mainGlobals "is_integer" = some (some (.ref fiI))) (liI : K.lookup fiI = some ⟨ociI, odiI, .func (PySem.W.fnOf "is_integer" "is_integer" (defArgs sIsInt) (defBody sIsInt) (defScope sIsInt) .none kViI dciI pmiI aniI cdiI ctiI), sliI⟩) (ciI : PySem.W.codeIn K cdiI "is_integer" = true) (kiI : PySem.W.keepIn K (.ref fiI) = true)
    (awi : PySem.W.nsIn K mainGlobals "is_within" = some (some (.ref fwi))) (lwi : K.lookup fwi = some ⟨ocwi, odwi, .func (PySem.W.fnOf "is_within" "is_within" (defArgs sWithin) (defBody sWithin) (defScope sWithin) .none kVwi dcwi pmwi anwi cdwi ctwi), slwi⟩) (cwi : PySem.W.codeIn K cdwi "is_within" = true) (kwi : PySem.W.keepIn K (.ref fwi) = true)
    (ale : PySem.W.nsIn K mainGlobals "lot_error" = some (some (.ref fle))) (lle : K.lookup fle = some ⟨ocle, odle, .func (PySem.W.fnOf "lot_error" "lot_error" (defArgs sLotErr) (defBody sLotErr) (defScope sLotErr) .none kVle dcle pmle anle cdle ctle), slle⟩) (cle : PySem.W.codeIn K cdle "lot_error" = true) (kle : PySem.W.keepIn K (.ref fle) = true)
    (acu : PySem.W.nsIn K mainGlobals "cut_of" = some (some (.ref fcu))) (lcu : K.lookup fcu = some ⟨occu, odcu, .func (PySem.W.fnOf "cut_of" "cut_of" (defArgs sCutOf) (defBody sCutOf) (defScope sCutOf) .none kVcu dccu pmcu ancu cdcu ctcu), slcu⟩) (ccu : PySem.W.codeIn K cdcu "cut_of" = true) (kcu : PySem.W.keepIn K (.ref fcu) = true)
    (aev : PySem.W.nsIn K mainGlobals "is_even" = some (some (.ref fev))) (lev : K.lookup fev = some ⟨ocev, odev, .func (PySem.W.fnOf "is_even" "is_even" (defArgs sIsEven) (defBody sIsEven) (defScope sIsEven) .none kVev dcev pmev anev cdev ctev), slev⟩) (cev : PySem.W.codeIn K cdev "is_even" = true) (kev : PySem.W.keepIn K (.ref fev) = true)
    (asi : PySem.W.nsIn K mainGlobals "sides_of" = some (some (.ref fsi))) (lsi : K.lookup fsi = some ⟨ocsi, odsi, .func (PySem.W.fnOf "sides_of" "sides_of" (defArgs sSides) (defBody sSides) (defScope sSides) .none kVsi dcsi pmsi ansi cdsi ctsi), slsi⟩) (csi : PySem.W.codeIn K cdsi "sides_of" = true) (ksi : PySem.W.keepIn K (.ref fsi) = true)
    (aic : PySem.W.nsIn K mainGlobals "is_cut" = some (some (.ref fic))) (lic : K.lookup fic = some ⟨ocic, odic, .func (PySem.W.fnOf "is_cut" "is_cut" (defArgs sIsCut) (defBody sIsCut) (defScope sIsCut) .none kVic dcic pmic anic cdic ctic), slic⟩) (cic : PySem.W.codeIn K cdic "is_cut" = true) (kic : PySem.W.keepIn K (.ref fic) = true)
    (apl : PySem.W.nsIn K mainGlobals "places_of_cut" = some (some (.ref fpl))) (lpl : K.lookup fpl = some ⟨ocpl, odpl, .func (PySem.W.fnOf "places_of_cut" "places_of_cut" (defArgs sPlaces) (defBody sPlaces) (defScope sPlaces) .none kVpl dcpl pmpl anpl cdpl ctpl), slpl⟩) (cpl : PySem.W.codeIn K cdpl "places_of_cut" = true) (kpl : PySem.W.keepIn K (.ref fpl) = true)
    (ago : PySem.W.nsIn K mainGlobals "goal_of" = some (some (.ref fgo))) (lgo : K.lookup fgo = some ⟨ocgo, odgo, .func (PySem.W.fnOf "goal_of" "goal_of" (defArgs sGoal) (defBody sGoal) (defScope sGoal) .none kVgo dcgo pmgo ango cdgo ctgo), slgo⟩) (cgo : PySem.W.codeIn K cdgo "goal_of" = true) (kgo : PySem.W.keepIn K (.ref fgo) = true)
    (atr : PySem.W.nsIn K mainGlobals "first_tree" = some (some (.ref ftr))) (ltr : K.lookup ftr = some ⟨octr, odtr, .func (PySem.W.fnOf "first_tree" "first_tree" (defArgs sTree) (defBody sTree) (defScope sTree) .none kVtr dctr pmtr antr cdtr cttr), sltr⟩) (ctr : PySem.W.codeIn K cdtr "first_tree" = true) (ktr : PySem.W.keepIn K (.ref ftr) = true)
    (awa : PySem.W.nsIn K mainGlobals "way_in_tree" = some (some (.ref fwa))) (lwa : K.lookup fwa = some ⟨ocwa, odwa, .func (PySem.W.fnOf "way_in_tree" "way_in_tree" (defArgs sWay) (defBody sWay) (defScope sWay) .none kVwa dcwa pmwa anwa cdwa ctwa), slwa⟩) (cwa : PySem.W.codeIn K cdwa "way_in_tree" = true) (kwa : PySem.W.keepIn K (.ref fwa) = true)
    (aro : PySem.W.nsIn K mainGlobals "tree_rounds" = some (some (.ref fro))) (lro : K.lookup fro = some ⟨ocro, odro, .func (PySem.W.fnOf "tree_rounds" "tree_rounds" (defArgs sRounds) (defBody sRounds) (defScope sRounds) .none kVro dcro pmro anro cdro ctro), slro⟩) (cro : PySem.W.codeIn K cdro "tree_rounds" = true) (kro : PySem.W.keepIn K (.ref fro) = true)
    (apa : PySem.W.nsIn K mainGlobals "lot_parities" = some (some (.ref fpa))) (lpa : K.lookup fpa = some ⟨ocpa, odpa, .func (PySem.W.fnOf "lot_parities" "lot_parities" (defArgs sParities) (defBody sParities) (defScope sParities) .none kVpa dcpa pmpa anpa cdpa ctpa), slpa⟩) (cpa : PySem.W.codeIn K cdpa "lot_parities" = true) (kpa : PySem.W.keepIn K (.ref fpa) = true)
    (afo : PySem.W.nsIn K mainGlobals "first_odd" = some (some (.ref ffo))) (lfo : K.lookup ffo = some ⟨ocfo, odfo, .func (PySem.W.fnOf "first_odd" "first_odd" (defArgs sFirstOdd) (defBody sFirstOdd) (defScope sFirstOdd) .none kVfo dcfo pmfo anfo cdfo ctfo), slfo⟩) (cfo : PySem.W.codeIn K cdfo "first_odd" = true) (kfo : PySem.W.keepIn K (.ref ffo) = true)
    (abo : PySem.W.nsIn K mainGlobals "both_error" = some (some (.ref fbo))) (lbo : K.lookup fbo = some ⟨ocbo, odbo, .func (PySem.W.fnOf "both_error" "both_error" (defArgs sBothErr) (defBody sBothErr) (defScope sBothErr) .none kVbo dcbo pmbo anbo cdbo ctbo), slbo⟩) (cbo : PySem.W.codeIn K cdbo "both_error" = true) (kbo : PySem.W.keepIn K (.ref fbo) = true)
    (aec : PySem.W.nsIn K mainGlobals "even_cut" = some (some (.ref fec))) (lec : K.lookup fec = some ⟨ocec, odec, .func (PySem.W.fnOf "even_cut" "even_cut" (defArgs sEvenCut) (defBody sEvenCut) (defScope sEvenCut) .none kVec dcec pmec anec cdec ctec), slec⟩) (cec : PySem.W.codeIn K cdec "even_cut" = true) (kec : PySem.W.keepIn K (.ref fec) = true)
    (alo : PySem.W.nsIn K mainGlobals "lot_of" = some (some (.ref flo))) (llo : K.lookup flo = some ⟨oclo, odlo, .func (PySem.W.fnOf "lot_of" "lot_of" (defArgs sLotOf) (defBody sLotOf) (defScope sLotOf) .none kVlo dclo pmlo anlo cdlo ctlo), sllo⟩) (clo : PySem.W.codeIn K cdlo "lot_of" = true) (klo : PySem.W.keepIn K (.ref flo) = true)
    (aco : PySem.W.nsIn K mainGlobals "colours_of" = some (some (.ref fco))) (lco : K.lookup fco = some ⟨occo, odco, .func (PySem.W.fnOf "colours_of" "colours_of" (defArgs sColours) (defBody sColours) (defScope sColours) .none kVco dcco pmco anco cdco ctco), slco⟩) (cco : PySem.W.codeIn K cdco "colours_of" = true) (kco : PySem.W.keepIn K (.ref fco) = true)
    (aur : PySem.W.nsIn K mainGlobals "_law_urn" = some (some (.ref fur))) (lur : K.lookup fur = some ⟨ocur, odur, .func (PySem.W.fnOf "_law_urn" "_law_urn" (defArgs sUrn) (defBody sUrn) (defScope sUrn) .none kVur dcur pmur anur cdur ctur), slur⟩) (cur : PySem.W.codeIn K cdur "_law_urn" = true) (kur : PySem.W.keepIn K (.ref fur) = true)
    (ata : PySem.W.nsIn K mainGlobals "_law_take" = some (some (.ref fta))) (lta : K.lookup fta = some ⟨octa, odta, .func (PySem.W.fnOf "_law_take" "_law_take" (defArgs sTake) (defBody sTake) (defScope sTake) .none kVta dcta pmta anta cdta ctta), slta⟩) (cta : PySem.W.codeIn K cdta "_law_take" = true) (kta : PySem.W.keepIn K (.ref fta) = true)
    (api : PySem.W.nsIn K mainGlobals "_law_pick" = some (some (.ref fpi))) (lpi : K.lookup fpi = some ⟨ocpi, odpi, .func (PySem.W.fnOf "_law_pick" "_law_pick" (defArgs sPick) (defBody sPick) (defScope sPick) .none kVpi dcpi pmpi anpi cdpi ctpi), slpi⟩) (cpi : PySem.W.codeIn K cdpi "_law_pick" = true) (kpi : PySem.W.keepIn K (.ref fpi) = true)
    (ami : PySem.W.nsIn K mainGlobals "_law_mixed" = some (some (.ref fmi))) (lmi : K.lookup fmi = some ⟨ocmi, odmi, .func (PySem.W.fnOf "_law_mixed" "_law_mixed" (defArgs sMixed) (defBody sMixed) (defScope sMixed) .none kVmi dcmi pmmi anmi cdmi ctmi), slmi⟩) (cmi : PySem.W.codeIn K cdmi "_law_mixed" = true) (kmi : PySem.W.keepIn K (.ref fmi) = true)
    (awe : PySem.W.nsIn K mainGlobals "_law_web" = some (some (.ref fwe))) (lwe : K.lookup fwe = some ⟨ocwe, odwe, .func (PySem.W.fnOf "_law_web" "_law_web" (defArgs sWeb) (defBody sWeb) (defScope sWeb) .none kVwe dcwe pmwe anwe cdwe ctwe), slwe⟩) (cwe : PySem.W.codeIn K cdwe "_law_web" = true) (kwe : PySem.W.keepIn K (.ref fwe) = true)
    (ast : PySem.W.nsIn K mainGlobals "_law_stars" = some (some (.ref fst))) (lst : K.lookup fst = some ⟨ocst, odst, .func (PySem.W.fnOf "_law_stars" "_law_stars" (defArgs sStars) (defBody sStars) (defScope sStars) .none kVst dcst pmst anst cdst ctst), slst⟩) (cst : PySem.W.codeIn K cdst "_law_stars" = true) (kst : PySem.W.keepIn K (.ref fst) = true)
    (aou : PySem.W.nsIn K mainGlobals "_law_outcome" = some (some (.ref fou))) (lou : K.lookup fou = some ⟨ocou, odou, .func (PySem.W.fnOf "_law_outcome" "_law_outcome" (defArgs sOutcome) (defBody sOutcome) (defScope sOutcome) .none kVou dcou pmou anou cdou ctou), slou⟩) (cou : PySem.W.codeIn K cdou "_law_outcome" = true) (kou : PySem.W.keepIn K (.ref fou) = true)
    (apd : PySem.W.nsIn K mainGlobals "_law_painted" = some (some (.ref fpd))) (lpd : K.lookup fpd = some ⟨ocpd, odpd, .func (PySem.W.fnOf "_law_painted" "_law_painted" (defArgs sPainted) (defBody sPainted) (defScope sPainted) .none kVpd dcpd pmpd anpd cdpd ctpd), slpd⟩) (cpd : PySem.W.codeIn K cdpd "_law_painted" = true) (kpd : PySem.W.keepIn K (.ref fpd) = true)
    (avn : PySem.W.nsIn K mainGlobals "_law_is_even" = some (some (.ref fvn))) (lvn : K.lookup fvn = some ⟨ocvn, odvn, .func (PySem.W.fnOf "_law_is_even" "_law_is_even" (defArgs sLEven) (defBody sLEven) (defScope sLEven) .none kVvn dcvn pmvn anvn cdvn ctvn), slvn⟩) (cvn : PySem.W.codeIn K cdvn "_law_is_even" = true) (kvn : PySem.W.keepIn K (.ref fvn) = true)
    (aps : PySem.W.nsIn K mainGlobals "_law_paints" = some (some (.ref fps))) (lps : K.lookup fps = some ⟨ocps, odps, .func (PySem.W.fnOf "_law_paints" "_law_paints" (defArgs sPaints) (defBody sPaints) (defScope sPaints) .none kVps dcps pmps anps cdps ctps), slps⟩) (cps : PySem.W.codeIn K cdps "_law_paints" = true) (kps : PySem.W.keepIn K (.ref fps) = true)
    (ato : PySem.W.nsIn K mainGlobals "_law_is_told" = some (some (.ref fto))) (lto : K.lookup fto = some ⟨octo, odto, .func (PySem.W.fnOf "_law_is_told" "_law_is_told" (defArgs sIsTold) (defBody sIsTold) (defScope sIsTold) .none kVto dcto pmto anto cdto ctto), slto⟩) (cto : PySem.W.codeIn K cdto "_law_is_told" = true) (kto : PySem.W.keepIn K (.ref fto) = true)
    (ala : PySem.W.nsIn K mainGlobals "law" = some (some (.ref fla))) (lla : K.lookup fla = some ⟨ocla, odla, .func (PySem.W.fnOf "law" "law" (defArgs sLaw) (defBody sLaw) (defScope sLaw) .none kVla dcla pmla anla cdla ctla), slla⟩) (cla : PySem.W.codeIn K cdla "law" = true) (kla : PySem.W.keepIn K (.ref fla) = true)
    (n_isinstance : PySem.W.nsIn K mainGlobals "isinstance" = some none)
    (n_int : PySem.W.nsIn K mainGlobals "int" = some none)
    (n_bool : PySem.W.nsIn K mainGlobals "bool" = some none)
    (n_tuple : PySem.W.nsIn K mainGlobals "tuple" = some none)
    (n_enumerate : PySem.W.nsIn K mainGlobals "enumerate" = some none)
    (n_len : PySem.W.nsIn K mainGlobals "len" = some none)
    (n_any : PySem.W.nsIn K mainGlobals "any" = some none)
    (n_list : PySem.W.nsIn K mainGlobals "list" = some none)
    (n_range : PySem.W.nsIn K mainGlobals "range" = some none)
    (n_sorted : PySem.W.nsIn K mainGlobals "sorted" = some none)
    (n_abs : PySem.W.nsIn K mainGlobals "abs" = some none)
    (n_min : PySem.W.nsIn K mainGlobals "min" = some none)
    (n_max : PySem.W.nsIn K mainGlobals "max" = some none)
    (n_set : PySem.W.nsIn K mainGlobals "set" = some none)
    (n_zip : PySem.W.nsIn K mainGlobals "zip" = some none)
    (n_repr : PySem.W.nsIn K mainGlobals "repr" = some none)
    : ∃ fd : FuncData, (∀ (s : Shared) (u : Value), BindsTo s fd ⟨[u], []⟩ [("_law_script", u)]) ∧ ∀ base : Heap, K.In base → base.Ns mainGlobals mg → FnOkG P w K mg base CX0 8 fa fd ["_law_script"] (spLaw K) := by
  have e := hfa.symm.trans (PySem.W.mg_of X Gl ala)
  cases e
  have T : UnfTxt K mg B C fI := { gB := PySem.W.mg_of X Gl aB, gC := PySem.W.mg_of X Gl aC, cls := ⟨nm, q, N, bs, _, sn, sub, ab, col, dd, m0, m1, m2, m3, m5, xL, rfl⟩, iC := i1, tI := t1, kC := kC, exC := eC, tyC := tC, gaB := gaB, rdB := rdB, fcB := fcB, te := exm_self eC iC tC sC, fn := ⟨_, _, _, _, _, _, _, _, _, l1, c1⟩ }
  have FiI := fun_mk (st := sIsInt) liI ciI kiI
  have biI := FiI.binds (ps := ["value"]) fun _ _ _ _ _ _ us hl => match us, hl with | [_], _ => rfl
  have giI := PySem.W.mg_of X Gl aiI
  have Fwi := fun_mk (st := sWithin) lwi cwi kwi
  have bwi := Fwi.binds (ps := ["value", "low", "high"]) fun _ _ _ _ _ _ us hl => match us, hl with | [_, _, _], _ => rfl
  have gwi := PySem.W.mg_of X Gl awi
  have Fle := fun_mk (st := sLotErr) lle cle kle
  have ble := Fle.binds (ps := ["web", "value"]) fun _ _ _ _ _ _ us hl => match us, hl with | [_, _], _ => rfl
  have gle := PySem.W.mg_of X Gl ale
  have Fcu := fun_mk (st := sCutOf) lcu ccu kcu
  have bcu := Fcu.binds (ps := ["web", "places"]) fun _ _ _ _ _ _ us hl => match us, hl with | [_, _], _ => rfl
  have gcu := PySem.W.mg_of X Gl acu
  have Fev := fun_mk (st := sIsEven) lev cev kev
  have bev := Fev.binds (ps := ["web", "lot"]) fun _ _ _ _ _ _ us hl => match us, hl with | [_, _], _ => rfl
  have gev := PySem.W.mg_of X Gl aev
  have Fsi := fun_mk (st := sSides) lsi csi ksi
  have bsi := Fsi.binds (ps := ["web", "lot"]) fun _ _ _ _ _ _ us hl => match us, hl with | [_, _], _ => rfl
  have gsi := PySem.W.mg_of X Gl asi
  have Fic := fun_mk (st := sIsCut) lic cic kic
  have bic := Fic.binds (ps := ["web", "lot"]) fun _ _ _ _ _ _ us hl => match us, hl with | [_, _], _ => rfl
  have gic := PySem.W.mg_of X Gl aic
  have Fpl := fun_mk (st := sPlaces) lpl cpl kpl
  have bpl := Fpl.binds (ps := ["web", "lot"]) fun _ _ _ _ _ _ us hl => match us, hl with | [_, _], _ => rfl
  have gpl := PySem.W.mg_of X Gl apl
  have Fgo := fun_mk (st := sGoal) lgo cgo kgo
  have bgo := Fgo.binds (ps := ["pair", "place"]) fun _ _ _ _ _ _ us hl => match us, hl with | [_, _], _ => rfl
  have ggo := PySem.W.mg_of X Gl ago
  have Ftr := fun_mk (st := sTree) ltr ctr ktr
  have btr := Ftr.binds (ps := ["web"]) fun _ _ _ _ _ _ us hl => match us, hl with | [_], _ => rfl
  have gtr := PySem.W.mg_of X Gl atr
  have Fwa := fun_mk (st := sWay) lwa cwa kwa
  have bwa := Fwa.binds (ps := ["web", "tree", "one", "other"]) fun _ _ _ _ _ _ us hl => match us, hl with | [_, _, _, _], _ => rfl
  have gwa := PySem.W.mg_of X Gl awa
  have Fro := fun_mk (st := sRounds) lro cro kro
  have bro := Fro.binds (ps := ["web"]) fun _ _ _ _ _ _ us hl => match us, hl with | [_], _ => rfl
  have gro := PySem.W.mg_of X Gl aro
  have Fpa := fun_mk (st := sParities) lpa cpa kpa
  have bpa := Fpa.binds (ps := ["web", "lot"]) fun _ _ _ _ _ _ us hl => match us, hl with | [_, _], _ => rfl
  have gpa := PySem.W.mg_of X Gl apa
  have Ffo := fun_mk (st := sFirstOdd) lfo cfo kfo
  have bfo := Ffo.binds (ps := ["web", "lot"]) fun _ _ _ _ _ _ us hl => match us, hl with | [_, _], _ => rfl
  have gfo := PySem.W.mg_of X Gl afo
  have Fbo := fun_mk (st := sBothErr) lbo cbo kbo
  have bbo := Fbo.binds (ps := ["web", "value"]) fun _ _ _ _ _ _ us hl => match us, hl with | [_, _], _ => rfl
  have gbo := PySem.W.mg_of X Gl abo
  have Fec := fun_mk (st := sEvenCut) lec cec kec
  have bec := Fec.binds (ps := ["web", "places"]) fun _ _ _ _ _ _ us hl => match us, hl with | [_, _], _ => rfl
  have gec := PySem.W.mg_of X Gl aec
  have Flo := fun_mk (st := sLotOf) llo clo klo
  have blo := Flo.binds (ps := ["web", "colours"]) fun _ _ _ _ _ _ us hl => match us, hl with | [_, _], _ => rfl
  have glo := PySem.W.mg_of X Gl alo
  have Fco := fun_mk (st := sColours) lco cco kco
  have bco := Fco.binds (ps := ["web", "lot"]) fun _ _ _ _ _ _ us hl => match us, hl with | [_, _], _ => rfl
  have gco := PySem.W.mg_of X Gl aco
  have Fur := fun_mk (st := sUrn) lur cur kur
  have bur := Fur.binds (ps := ["_law_script"]) fun _ _ _ _ _ _ us hl => match us, hl with | [_], _ => rfl
  have gur := PySem.W.mg_of X Gl aur
  have Fta := fun_mk (st := sTake) lta cta kta
  have bta := Fta.binds (ps := ["_law_urn_here", "_law_many"]) fun _ _ _ _ _ _ us hl => match us, hl with | [_, _], _ => rfl
  have gta := PySem.W.mg_of X Gl ata
  have Fpi := fun_mk (st := sPick) lpi cpi kpi
  have bpi := Fpi.binds (ps := ["_law_urn_here", "_law_some"]) fun _ _ _ _ _ _ us hl => match us, hl with | [_, _], _ => rfl
  have gpi := PySem.W.mg_of X Gl api
  have Fmi := fun_mk (st := sMixed) lmi cmi kmi
  have bmi := Fmi.binds (ps := ["_law_urn_here", "_law_some"]) fun _ _ _ _ _ _ us hl => match us, hl with | [_, _], _ => rfl
  have gmi := PySem.W.mg_of X Gl ami
  have Fwe := fun_mk (st := sWeb) lwe cwe kwe
  have bwe := Fwe.binds (ps := ["_law_urn_here", "_law_many", "_law_more"]) fun _ _ _ _ _ _ us hl => match us, hl with | [_, _, _], _ => rfl
  have gwe := PySem.W.mg_of X Gl awe
  have Fst := fun_mk (st := sStars) lst cst kst
  have bst := Fst.binds (ps := ["_law_web_here"]) fun _ _ _ _ _ _ us hl => match us, hl with | [_], _ => rfl
  have gst := PySem.W.mg_of X Gl ast
  have Fou := fun_mk (st := sOutcome) lou cou kou
  have bou := Fou.binds (ps := ["_law_way", "_law_web_here", "_law_some", "_law_is_named"]) fun _ _ _ _ _ _ us hl => match us, hl with | [_, _, _, _], _ => rfl
  have gou := PySem.W.mg_of X Gl aou
  have Fpd := fun_mk (st := sPainted) lpd cpd kpd
  have bpd := Fpd.binds (ps := ["_law_web_here", "_law_paint"]) fun _ _ _ _ _ _ us hl => match us, hl with | [_, _], _ => rfl
  have gpd := PySem.W.mg_of X Gl apd
  have Fvn := fun_mk (st := sLEven) lvn cvn kvn
  have bvn := Fvn.binds (ps := ["_law_web_here", "_law_lot"]) fun _ _ _ _ _ _ us hl => match us, hl with | [_, _], _ => rfl
  have gvn := PySem.W.mg_of X Gl avn
  have Fps := fun_mk (st := sPaints) lps cps kps
  have bps := Fps.binds (ps := ["_law_urn_here", "_law_many"]) fun _ _ _ _ _ _ us hl => match us, hl with | [_, _], _ => rfl
  have gps := PySem.W.mg_of X Gl aps
  have Fto := fun_mk (st := sIsTold) lto cto kto
  have bto := Fto.binds (ps := ["_law_urn_here", "_law_web_here"]) fun _ _ _ _ _ _ us hl => match us, hl with | [_, _], _ => rfl
  have gto := PySem.W.mg_of X Gl ato
  have Fla := fun_mk (st := sLaw) lla cla kla
  have bla := Fla.binds (ps := ["_law_script"]) fun _ _ _ _ _ _ us hl => match us, hl with | [_], _ => rfl
  have gla := PySem.W.mg_of X Gl ala
  have m_isinstance := PySem.W.mg_none_of X Gl n_isinstance
  have m_int := PySem.W.mg_none_of X Gl n_int
  have m_bool := PySem.W.mg_none_of X Gl n_bool
  have m_tuple := PySem.W.mg_none_of X Gl n_tuple
  have m_enumerate := PySem.W.mg_none_of X Gl n_enumerate
  have m_len := PySem.W.mg_none_of X Gl n_len
  have m_any := PySem.W.mg_none_of X Gl n_any
  have m_list := PySem.W.mg_none_of X Gl n_list
  have m_range := PySem.W.mg_none_of X Gl n_range
  have m_sorted := PySem.W.mg_none_of X Gl n_sorted
  have m_abs := PySem.W.mg_none_of X Gl n_abs
  have m_min := PySem.W.mg_none_of X Gl n_min
  have m_max := PySem.W.mg_none_of X Gl n_max
  have m_set := PySem.W.mg_none_of X Gl n_set
  have m_zip := PySem.W.mg_none_of X Gl n_zip
  have m_repr := PySem.W.mg_none_of X Gl n_repr
  refine ⟨PySem.W.fnOf "law" "law" (defArgs sLaw) (defBody sLaw) (defScope sLaw) .none kVla dcla pmla anla cdla ctla, fun s u => .of_eq rfl, fun base _ _ => ?_⟩
  have Glo := ok_lotOf (P := P) (w := w) (base := base) T Flo Fec bec gec Fcu bcu gcu Fev bev gev m_enumerate m_tuple m_any
  have Gbo := ok_both (P := P) (w := w) (base := base) Fbo Fle ble gle FiI biI giI Fwi bwi gwi Ffo bfo gfo Fpa bpa gpa Fro bro gro Ftr btr gtr Fwa bwa gwa Fgo bgo ggo m_isinstance m_int m_bool m_tuple m_enumerate m_len m_list m_range m_sorted
  have Gpl := ok_places (P := P) (w := w) (base := base) T Fpl Fsi bsi gsi Fic bic gic m_enumerate m_tuple
  have Gco := ok_colours T Fco Gbo kbo bbo gbo Gpl kpl bpl gpl m_tuple m_int m_range
  have Gta : FnOk P w K mg base CX0 1 fta _ ["_law_urn_here", "_law_many"] spTake := ok_take Fta m_int
  have Gpi := ok_pick (P := P) (w := w) (base := base) Fpi Fta bta gta m_int m_len
  have Gwe := ok_lweb (P := P) (w := w) (base := base) Fwe Fta bta gta Fmi bmi gmi m_int m_len m_list m_range m_tuple m_min m_max
  have Gur : FnOk P w K mg base CX0 1 fur _ ["_law_script"] (spUrn K) := ok_urn Fur m_len m_abs m_int
  have Gpd : FnOk P w K mg base CX0 1 fpd _ ["_law_web_here", "_law_paint"] (spPainted K) := ok_painted Fpd m_enumerate m_tuple
  have Gvn := ok_lEven (P := P) (w := w) (base := base) Fvn Fst bst gst m_enumerate m_int m_len
  have Gps := ok_paints (P := P) (w := w) (base := base) Fps Fta bta gta m_int m_range m_tuple
  have Gou := ok_out T Fou Glo Flo blo glo Gco Fco bco gco
  have Gto := ok_told Fto Gps kps bps gps Gpd kpd bpd gpd Gvn kvn bvn gvn Gou kou bou gou Gco kco bco gco Gpi kpi bpi gpi Gta kta bta gta m_enumerate m_repr m_int m_tuple m_list m_sorted m_set m_zip m_range m_len
  exact ok_law Fla Gur kur bur gur Gta kta bta gta Gwe kwe bwe gwe Gto kto bto gto Gou kou bou gou m_repr m_range
end Bh

open PySem PySem.W PyProof.Rows
set_option maxHeartbeats 0 in
theorem PySem.Challenge.cw_botheven_k40_whole_colours_and_lots_holds : PySem.Challenge.rw_botheven_k40_whole_colours_and_lots.Holds := by
  w_on; o_law; k_head; (case hw => w_witness2)
  k_fill
  refine Bh.walkG_of (l := PySem.Challenge.rw_botheven_k40_whole_colours_and_lots) (n := 63) (k := 8) (x := "_law_script") (CX := fun _ => L2.CX0) (sp := fun _ K => Bh.spLaw K) rfl (by decide) rfl ⟨rfl, by decide, by decide⟩ (fun w h Y => PySem.W.kIn_of Y) ?F (fun _ _ a ns hl hS => ⟨a, ns, rfl, hS, hl, fun _ => rfl⟩) (fun _ _ _ _ _ h => h)
  case F =>
    intro w mg fa h KX G hmg
    refine' Bh.all_mk KX G hmg ?aB ?aC ?xL ?i1 ?t1 ?l1 ?c1 ?kC ?eC ?tC ?iC ?sC ?gaB ?rdB ?fcB ?aiI ?liI ?ciI ?kiI ?awi ?lwi ?cwi ?kwi ?ale ?lle ?cle ?kle ?acu ?lcu ?ccu ?kcu ?aev ?lev ?cev ?kev ?asi ?lsi ?csi ?ksi ?aic ?lic ?cic ?kic ?apl ?lpl ?cpl ?kpl ?ago ?lgo ?cgo ?kgo ?atr ?ltr ?ctr ?ktr ?awa ?lwa ?cwa ?kwa ?aro ?lro ?cro ?kro ?apa ?lpa ?cpa ?kpa ?afo ?lfo ?cfo ?kfo ?abo ?lbo ?cbo ?kbo ?aec ?lec ?cec ?kec ?alo ?llo ?clo ?klo ?aco ?lco ?cco ?kco ?aur ?lur ?cur ?kur ?ata ?lta ?cta ?kta ?api ?lpi ?cpi ?kpi ?ami ?lmi ?cmi ?kmi ?awe ?lwe ?cwe ?kwe ?ast ?lst ?cst ?kst ?aou ?lou ?cou ?kou ?apd ?lpd ?cpd ?kpd ?avn ?lvn ?cvn ?kvn ?aps ?lps ?cps ?kps ?ato ?lto ?cto ?kto ?ala ?lla ?cla ?kla ?n_isinstance ?n_int ?n_bool ?n_tuple ?n_enumerate ?n_len ?n_any ?n_list ?n_range ?n_sorted ?n_abs ?n_min ?n_max ?n_set ?n_zip ?n_repr
    (case aB => k_is); (case aC => k_is); (case xL => k_is); (case i1 => k_is); (case t1 => k_is); (case l1 => k_is); (case c1 => k_is); (case kC => k_is)
    (case eC => k_is); (case tC => k_is); (case iC => k_is); (case sC => first | rfl | k_is); (case gaB => k_is); (case rdB => k_is); (case fcB => k_is); (case aiI => k_is)
    (case liI => k_is); (case ciI => k_is); (case kiI => k_is); (case awi => k_is); (case lwi => k_is); (case cwi => k_is); (case kwi => k_is); (case ale => k_is)
    (case lle => k_is); (case cle => k_is); (case kle => k_is); (case acu => k_is); (case lcu => k_is); (case ccu => k_is); (case kcu => k_is); (case aev => k_is)
    (case lev => k_is); (case cev => k_is); (case kev => k_is); (case asi => k_is); (case lsi => k_is); (case csi => k_is); (case ksi => k_is); (case aic => k_is)
    (case lic => k_is); (case cic => k_is); (case kic => k_is); (case apl => k_is); (case lpl => k_is); (case cpl => k_is); (case kpl => k_is); (case ago => k_is)
    (case lgo => k_is); (case cgo => k_is); (case kgo => k_is); (case atr => k_is); (case ltr => k_is); (case ctr => k_is); (case ktr => k_is); (case awa => k_is)
    (case lwa => k_is); (case cwa => k_is); (case kwa => k_is); (case aro => k_is); (case lro => k_is); (case cro => k_is); (case kro => k_is); (case apa => k_is)
    (case lpa => k_is); (case cpa => k_is); (case kpa => k_is); (case afo => k_is); (case lfo => k_is); (case cfo => k_is); (case kfo => k_is); (case abo => k_is)
    (case lbo => k_is); (case cbo => k_is); (case kbo => k_is); (case aec => k_is); (case lec => k_is); (case cec => k_is); (case kec => k_is); (case alo => k_is)
    (case llo => k_is); (case clo => k_is); (case klo => k_is); (case aco => k_is); (case lco => k_is); (case cco => k_is); (case kco => k_is); (case aur => k_is)
    (case lur => k_is); (case cur => k_is); (case kur => k_is); (case ata => k_is); (case lta => k_is); (case cta => k_is); (case kta => k_is); (case api => k_is)
    (case lpi => k_is); (case cpi => k_is); (case kpi => k_is); (case ami => k_is); (case lmi => k_is); (case cmi => k_is); (case kmi => k_is); (case awe => k_is)
    (case lwe => k_is); (case cwe => k_is); (case kwe => k_is); (case ast => k_is); (case lst => k_is); (case cst => k_is); (case kst => k_is); (case aou => k_is)
    (case lou => k_is); (case cou => k_is); (case kou => k_is); (case apd => k_is); (case lpd => k_is); (case cpd => k_is); (case kpd => k_is); (case avn => k_is)
    (case lvn => k_is); (case cvn => k_is); (case kvn => k_is); (case aps => k_is); (case lps => k_is); (case cps => k_is); (case kps => k_is); (case ato => k_is)
    (case lto => k_is); (case cto => k_is); (case kto => k_is); (case ala => k_is); (case lla => k_is); (case cla => k_is); (case kla => k_is); (case n_isinstance => k_is)
    (case n_int => k_is); (case n_bool => k_is); (case n_tuple => k_is); (case n_enumerate => k_is); (case n_len => k_is); (case n_any => k_is); (case n_list => k_is); (case n_range => k_is)
    (case n_sorted => k_is); (case n_abs => k_is); (case n_min => k_is); (case n_max => k_is); (case n_set => k_is); (case n_zip => k_is); (case n_repr => k_is)
#print axioms PySem.Challenge.cw_botheven_k40_whole_colours_and_lots_holds
