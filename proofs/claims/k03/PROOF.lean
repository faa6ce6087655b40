import PyProof.Rows.All
import Wide.All
import OpenK.AllK
import Wide.FinOn
import HandS.ForMost
import HandS.TupMul
import HandS.TupAny
import HandS.ForExc
import HandS.IsInst
import HandS.ExcIs
import HandS.Replace
import KE.RegKIsAll
import PySem.Challenge.RW_whistlehall_k03_good_tunes
set_option Elab.async false
set_option linter.all false
set_option maxRecDepth 100000
set_option maxHeartbeats 4000000
namespace WH
/-! ### halls -/
structure Hall where
  w : Nat
  rooms : List (List Nat)
  lights : List Nat
deriving DecidableEq
def Hall.n (h : Hall) : Nat := h.rooms.length
def Hall.go (h : Hall) (r c : Nat) : Nat := (h.rooms.getD r []).getD c 0
def Hall.lit (h : Hall) (r : Nat) : Nat := h.lights.getD r 0
def Hall.run (h : Hall) (r : Nat) : List Nat → Nat
  | [] => r
  | c :: t => h.run (h.go r c) t
structure Hall.Ok (h : Hall) : Prop where
  w1 : 1 ≤ h.w
  w3 : h.w ≤ 3
  n1 : 1 ≤ h.n
  n600 : h.n ≤ 600
  row : ∀ r ∈ h.rooms, r.length = h.w
  goal : ∀ r ∈ h.rooms, ∀ g ∈ r, g < h.n
  len : h.lights.length = h.n
  lit01 : ∀ l ∈ h.lights, l ≤ 1
theorem getD_mem {α : Type} {l : List α} {i : Nat} {d : α} (h : i < l.length) : l.getD i d ∈ l := by
  rw [List.getD, List.getElem?_eq_getElem h]; exact List.getElem_mem h
theorem getD_get {α : Type} {l : List α} {i : Nat} {d : α} (h : i < l.length) : l[i]? = some (l.getD i d) := by
  rw [List.getD, List.getElem?_eq_getElem h]; rfl
section
variable {h : Hall}
theorem Hall.Ok.room (o : h.Ok) {r : Nat} (hr : r < h.n) : (h.rooms.getD r []).length = h.w := o.row _ (getD_mem hr)
theorem Hall.Ok.go_lt (o : h.Ok) {r c : Nat} (hr : r < h.n) (hc : c < h.w) : h.go r c < h.n := by
  have := o.room hr
  exact o.goal _ (getD_mem hr) _ (getD_mem (by omega))
theorem Hall.Ok.lit_le (o : h.Ok) {r : Nat} (hr : r < h.n) : h.lit r ≤ 1 := o.lit01 _ (getD_mem (by rw [o.len]; exact hr))
theorem Hall.Ok.run_lt (o : h.Ok) : ∀ {t : List Nat} {r : Nat}, r < h.n → (∀ c ∈ t, c < h.w) → h.run r t < h.n
  | [], r, hr, _ => hr
  | c :: t, r, hr, ht => o.run_lt (t := t) (o.go_lt hr (ht c (by simp))) fun d hd => ht d (by simp [hd])
theorem Hall.run_app (h : Hall) : ∀ (t u : List Nat) (r : Nat), h.run r (t ++ u) = h.run (h.run r t) u
  | [], u, r => rfl
  | c :: t, u, r => by simp [Hall.run, Hall.run_app h t u]
end
/-- some tune tells two rooms apart -/
def Dist (h : Hall) (a b : Nat) : Prop := ∃ t : List Nat, (∀ c ∈ t, c < h.w) ∧ h.lit (h.run a t) ≠ h.lit (h.run b t)
theorem dist_lit {h : Hall} {a b : Nat} (e : h.lit a ≠ h.lit b) : Dist h a b := ⟨[], by simp, e⟩
theorem dist_go {h : Hall} {a b c : Nat} (hc : c < h.w) (d : Dist h (h.go a c) (h.go b c)) : Dist h a b := by
  obtain ⟨t, ht, e⟩ := d
  exact ⟨c :: t, by simpa using ⟨hc, ht⟩, e⟩
theorem dist_iff {h : Hall} {a b : Nat} : Dist h a b ↔ h.lit a ≠ h.lit b ∨ ∃ c, c < h.w ∧ Dist h (h.go a c) (h.go b c) := by
  constructor
  · rintro ⟨t, ht, e⟩
    cases t with
    | nil => exact .inl e
    | cons c t => exact .inr ⟨c, ht c (by simp), t, fun d hd => ht d (by simp [hd]), e⟩
  · rintro (e | ⟨c, hc, d⟩)
    · exact dist_lit e
    · exact dist_go hc d
theorem dist_irrefl {h : Hall} {a : Nat} : ¬ Dist h a a := by rintro ⟨t, _, e⟩; exact e rfl
theorem dist_symm {h : Hall} {a b : Nat} (d : Dist h a b) : Dist h b a := by
  obtain ⟨t, ht, e⟩ := d; exact ⟨t, ht, fun q => e q.symm⟩
theorem ndist_trans {h : Hall} {a b c : Nat} (x : ¬ Dist h a b) (y : ¬ Dist h b c) : ¬ Dist h a c := by
  rintro ⟨t, ht, e⟩
  by_cases q : h.lit (h.run a t) = h.lit (h.run b t)
  · exact y ⟨t, ht, fun z => e (q.trans z)⟩
  · exact x ⟨t, ht, q⟩
/-- an equivalence that keeps lights and steps does not part what no tune parts -/
theorem ndist_of {h : Hall} (R : Nat → Nat → Prop) (hl : ∀ a b, R a b → h.lit a = h.lit b) (hg : ∀ a b c, R a b → c < h.w → R (h.go a c) (h.go b c)) {a b : Nat} (r : R a b) : ¬ Dist h a b := by
  rintro ⟨t, ht, e⟩
  induction t generalizing a b with
  | nil => exact e (hl a b r)
  | cons c t ih => exact ih (hg a b c r (ht c (by simp))) (fun d hd => ht d (by simp [hd])) e

/-! ### the table of pairs that are told apart -/
abbrev Tab := List (List Bool)
def tab (T : Tab) (a b : Nat) : Bool := (T.getD a []).getD b false
def setT (T : Tab) (a b : Nat) : Tab := T.set a ((T.getD a []).set b true)
def Sq (n : Nat) (T : Tab) : Prop := T.length = n ∧ ∀ r ∈ T, r.length = n
def cntF (T : Tab) : Nat := (T.map (fun r => r.count false)).sum
theorem Sq.row {n : Nat} {T : Tab} (s : Sq n T) {a : Nat} (ha : a < n) : (T.getD a []).length = n := s.2 _ (getD_mem (by rw [s.1]; exact ha))
theorem Sq.set {n : Nat} {T : Tab} (s : Sq n T) {a b : Nat} (ha : a < n) : Sq n (setT T a b) := by
  refine ⟨by simp [setT, s.1], fun r hr => ?_⟩
  rcases List.mem_or_eq_of_mem_set hr with q | q
  · exact s.2 r q
  · subst q; rw [List.length_set]; exact s.row ha
theorem tab_set {n : Nat} {T : Tab} (s : Sq n T) {a b x y : Nat} (ha : a < n) (hb : b < n) : tab (setT T a b) x y = if x = a ∧ y = b then true else tab T x y := by
  have hl := s.row ha
  unfold tab setT
  by_cases hx : x = a
  · subst hx
    have e1 : (T.set x ((T.getD x []).set b true)).getD x [] = (T.getD x []).set b true := by
      rw [List.getD, List.getElem?_set_self (by rw [s.1]; exact ha)]; rfl
    rw [e1]
    by_cases hy : y = b
    · subst hy
      rw [if_pos ⟨rfl, rfl⟩, List.getD, List.getElem?_set_self (by rw [hl]; exact hb)]; rfl
    · rw [if_neg (fun q => hy q.2), List.getD, List.getElem?_set_ne (Ne.symm hy)]; rfl
  · rw [if_neg (fun q => hx q.1)]
    have e1 : (T.set a ((T.getD a []).set b true)).getD x [] = T.getD x [] := by
      rw [List.getD, List.getElem?_set_ne (Ne.symm hx)]; rfl
    rw [e1]
theorem count_set_lt : ∀ (r : List Bool) (b : Nat), r[b]? = some false → (r.set b true).count false < r.count false
  | [], b, h => by simp at h
  | x :: r, 0, h => by
    simp at h; subst h
    simp
  | x :: r, b + 1, h => by
    have := count_set_lt r b (by simpa using h)
    simp only [List.set_cons_succ, List.count_cons]
    omega
theorem sum_set_lt : ∀ (l : List Nat) (a v v' : Nat), l[a]? = some v → v' < v → (l.set a v').sum < l.sum
  | [], a, v, v', h, _ => by simp at h
  | x :: l, 0, v, v', h, k => by simp at h; subst h; simp; omega
  | x :: l, a + 1, v, v', h, k => by
    have := sum_set_lt l a v v' (by simpa using h) k
    simp; omega
theorem cntF_set {n : Nat} {T : Tab} (s : Sq n T) {a b : Nat} (ha : a < n) (hb : b < n) (f : tab T a b = false) : cntF (setT T a b) < cntF T := by
  have hl := s.row ha
  have e : (T.getD a [])[b]? = some false := by
    have := getD_get (l := T.getD a []) (d := false) (i := b) (by omega)
    rw [this]; exact congrArg some f
  have k := count_set_lt _ _ e
  unfold cntF setT
  rw [List.map_set]
  refine sum_set_lt _ a _ _ ?_ k
  rw [List.getElem?_map, getD_get (l := T) (d := []) (i := a) (by rw [s.1]; exact ha)]; rfl
structure TabInv (h : Hall) (T : Tab) : Prop where
  sq : Sq h.n T
  lit : ∀ a b, a < h.n → b < h.n → h.lit a ≠ h.lit b → tab T a b = true
  dist : ∀ a b, a < h.n → b < h.n → tab T a b = true → Dist h a b
def litTab (h : Hall) : Tab := (List.range h.n).map fun a => (List.range h.n).map fun b => !decide (h.lit a = h.lit b)
theorem getD_map_range {α : Type} (f : Nat → α) {n i : Nat} {d : α} (hi : i < n) : ((List.range n).map f).getD i d = f i := by
  rw [List.getD, List.getElem?_map, List.getElem?_range hi]; rfl
theorem tab_litTab {h : Hall} {a b : Nat} (ha : a < h.n) (hb : b < h.n) : tab (litTab h) a b = !decide (h.lit a = h.lit b) := by
  unfold tab litTab
  rw [getD_map_range _ ha, getD_map_range _ hb]
theorem TabInv.start (h : Hall) : TabInv h (litTab h) := by
  refine ⟨⟨by simp [litTab], fun r hr => ?_⟩, fun a b ha hb e => ?_, fun a b ha hb e => ?_⟩
  · obtain ⟨a, _, rfl⟩ := List.mem_map.mp hr; simp
  · rw [tab_litTab ha hb]; simp [e]
  · rw [tab_litTab ha hb] at e
    exact dist_lit (by simpa using e)
/-- some whistle leads to a pair that is told apart -/
def leads (h : Hall) (T : Tab) (a b : Nat) : Bool := (List.range h.w).any fun c => tab T (h.go a c) (h.go b c)
theorem TabInv.set {h : Hall} {T : Tab} (o : h.Ok) (i : TabInv h T) {a b : Nat} (ha : a < h.n) (hb : b < h.n) (l : leads h T a b = true) : TabInv h (setT T a b) := by
  refine ⟨i.sq.set ha, fun x y hx hy e => ?_, fun x y hx hy e => ?_⟩
  · rw [tab_set i.sq ha hb]; split; rfl; exact i.lit x y hx hy e
  · rw [tab_set i.sq ha hb] at e
    split at e
    · rename_i q; obtain ⟨rfl, rfl⟩ := q
      obtain ⟨c, hc, t⟩ := List.any_eq_true.mp l
      have hc : c < h.w := by simpa using hc
      exact dist_go hc (i.dist _ _ (o.go_lt ha hc) (o.go_lt hb hc) t)
    · exact i.dist x y hx hy e
/-- no turn is left -/
def Still (h : Hall) (T : Tab) (a b : Nat) : Prop := tab T a b = true ∨ leads h T a b = false
theorem TabInv.done {h : Hall} {T : Tab} (o : h.Ok) (i : TabInv h T) (s : ∀ a b, a < h.n → b < h.n → Still h T a b) {a b : Nat} (ha : a < h.n) (hb : b < h.n) : tab T a b = true ↔ Dist h a b := by
  refine ⟨i.dist a b ha hb, fun d => ?_⟩
  cases q : tab T a b with
  | true => rfl
  | false =>
    refine absurd d (ndist_of (fun x y => x < h.n ∧ y < h.n ∧ tab T x y = false) (fun x y ⟨hx, hy, e⟩ => ?_) (fun x y c ⟨hx, hy, e⟩ hc => ?_) ⟨ha, hb, q⟩)
    · by_cases z : h.lit x = h.lit y
      · exact z
      · rw [i.lit x y hx hy z] at e; cases e
    · refine ⟨o.go_lt hx hc, o.go_lt hy hc, ?_⟩
      rcases s x y hx hy with z | z
      · rw [z] at e; cases e
      · have := List.any_eq_false.mp z c (by simpa using hc)
        simpa using this

theorem findIdx_range {p : Nat → Bool} : ∀ (l : List Nat), l.findIdx? p = ((List.range l.length).filter fun k => p (l.getD k 0)).head?
  | [] => rfl
  | a :: l => by
    rw [List.findIdx?_cons, List.length_cons, List.range_succ_eq_map, List.filter_cons]
    have e0 : (a :: l).getD 0 0 = a := rfl
    rw [e0]
    by_cases h : p a = true
    · rw [if_pos h, if_pos h]; rfl
    · rw [if_neg h, if_neg h, findIdx_range l, List.filter_map, List.head?_map]
      rfl
/-! ### rooms by classes, numbered as they are met -/
/-- the place of a room's class among those met, and those met -/
def meet (E : Nat → Nat → Bool) (order : List Nat) (g : Nat) : List Nat × Nat :=
  match order.findIdx? (fun r => E r g) with
  | some k => (order, k)
  | none => (order ++ [g], order.length)
def meetRow (E : Nat → Nat → Bool) : List Nat → List Nat → List Nat → List Nat × List Nat
  | order, row, [] => (order, row)
  | order, row, g :: gs => meetRow E (meet E order g).1 (row ++ [(meet E order g).2]) gs
theorem meetRow_snoc (E : Nat → Nat → Bool) : ∀ (gs : List Nat) (order row : List Nat) (g : Nat), meetRow E order row (gs ++ [g]) = ((meet E (meetRow E order row gs).1 g).1, (meetRow E order row gs).2 ++ [(meet E (meetRow E order row gs).1 g).2])
  | [], order, row, g => rfl
  | x :: gs, order, row, g => by
    show meetRow E _ _ (gs ++ [g]) = _
    rw [meetRow_snoc E gs]; rfl
/-- i rows made -/
def meetAll (E : Nat → Nat → Bool) (h : Hall) : Nat → List Nat × List (List Nat)
  | 0 => ([0], [])
  | i + 1 => (((meetRow E (meetAll E h i).1 [] (h.rooms.getD ((meetAll E h i).1.getD i 0) [])).1), (meetAll E h i).2 ++ [(meetRow E (meetAll E h i).1 [] (h.rooms.getD ((meetAll E h i).1.getD i 0) [])).2])

theorem nodup_le : ∀ (n : Nat) (l : List Nat), l.Nodup → (∀ a ∈ l, a < n) → l.length ≤ n := by
  intro n
  induction n with
  | zero =>
    intro l _ h
    cases l with
    | nil => simp
    | cons a l => exact absurd (h a (by simp)) (by omega)
  | succ n ih =>
    intro l nd h
    have e : (l.erase n).length ≤ n := by
      refine ih _ (nd.erase n) fun a ha => ?_
      have h1 := h a (List.mem_of_mem_erase ha)
      have h2 : a ≠ n := fun q => by subst q; exact absurd ha (List.Nodup.not_mem_erase nd)
      omega
    have := List.length_erase_le (a := n) (l := l)
    by_cases q : n ∈ l
    · rw [List.length_erase_of_mem q] at e; omega
    · rw [List.erase_of_not_mem q] at e; omega
section
variable {E E' : Nat → Nat → Bool} {h : Hall}
theorem findIdx?_congr {α : Type} {p q : α → Bool} : ∀ {l : List α}, (∀ a ∈ l, p a = q a) → l.findIdx? p = l.findIdx? q
  | [], _ => rfl
  | a :: l, hh => by
    rw [List.findIdx?_cons, List.findIdx?_cons, hh a (by simp), findIdx?_congr (l := l) fun b hb => hh b (by simp [hb])]
/-- what holds of those met: rooms, no class twice -/
structure Met (E : Nat → Nat → Bool) (n : Nat) (order : List Nat) : Prop where
  lt : ∀ a ∈ order, a < n
  apart : order.Pairwise (fun a b => E a b = false)
  ne : order ≠ []
theorem Met.nodup {n : Nat} {order : List Nat} (m : Met E n order) (hE : ∀ a, a < n → E a a = true) : order.Nodup := by
  rw [List.nodup_iff_pairwise_ne]
  refine m.apart.imp_of_mem fun {a b} ha hb e q => ?_
  subst q
  rw [hE a (m.lt a ha)] at e; cases e
theorem Met.len {n : Nat} {order : List Nat} (m : Met E n order) (hE : ∀ a, a < n → E a a = true) : order.length ≤ n := nodup_le n order (m.nodup hE) m.lt
theorem Met.meet {n : Nat} {order : List Nat} (m : Met E n order) {g : Nat} (hg : g < n) : Met E n (meet E order g).1 ∧ ∃ more, (WH.meet E order g).1 = order ++ more := by
  unfold WH.meet
  cases q : order.findIdx? (fun r => E r g) with
  | some k => exact ⟨m, [], by simp⟩
  | none =>
    refine ⟨⟨fun a ha => ?_, ?_, by simp⟩, [g], rfl⟩
    · rcases List.mem_append.mp ha with z | z
      · exact m.lt a z
      · have : a = g := by simpa using z
        omega
    · refine List.pairwise_append.mpr ⟨m.apart, by simp, fun a ha b hb => ?_⟩
      have e : b = g := by simpa using hb
      subst e
      have := List.findIdx?_eq_none_iff.mp q a ha
      simpa using this
theorem Met.row {n : Nat} : ∀ (gs : List Nat) {order row : List Nat}, Met E n order → (∀ g ∈ gs, g < n) → Met E n (meetRow E order row gs).1 ∧ ∃ more, (meetRow E order row gs).1 = order ++ more
  | [], order, row, m, _ => ⟨m, [], by simp [meetRow]⟩
  | g :: gs, order, row, m, hg => by
    obtain ⟨m1, more1, e1⟩ := m.meet (hg g (by simp))
    obtain ⟨m2, more2, e2⟩ := Met.row gs (row := row ++ [(WH.meet E order g).2]) m1 fun x hx => hg x (by simp [hx])
    exact ⟨m2, more1 ++ more2, by rw [meetRow, e2, e1, List.append_assoc]⟩
theorem meetRow_len : ∀ (gs order row : List Nat), (meetRow E order row gs).2.length = row.length + gs.length
  | [], order, row => by simp [meetRow]
  | g :: gs, order, row => by rw [meetRow, meetRow_len gs]; simp; omega
theorem room_lt (o : h.Ok) (r : Nat) : ∀ g ∈ h.rooms.getD r [], g < h.n := fun g hg => by
  by_cases hr : r < h.n
  · exact o.goal _ (getD_mem hr) g hg
  · rw [List.getD, List.getElem?_eq_none (Nat.le_of_not_lt hr)] at hg; simp at hg
theorem meetAll_met (o : h.Ok) : ∀ i, Met E h.n (meetAll E h i).1
  | 0 => ⟨fun a ha => by have : a = 0 := by simpa [meetAll] using ha
                         have := o.n1; omega, by simp [meetAll], by simp [meetAll]⟩
  | i + 1 => (Met.row (h.rooms.getD ((meetAll E h i).1.getD i 0) []) (row := []) (meetAll_met o i) (room_lt o _)).1
theorem meetAll_more (o : h.Ok) (i : Nat) : ∃ more, (meetAll E h (i + 1)).1 = (meetAll E h i).1 ++ more :=
  (Met.row (h.rooms.getD ((meetAll E h i).1.getD i 0) []) (row := []) (meetAll_met o i) (room_lt o _)).2
theorem meetAll_rows (i : Nat) : (meetAll E h i).2.length = i := by
  induction i with
  | zero => rfl
  | succ i ih => simp [meetAll, ih]
theorem meet_congr {n : Nat} (c : ∀ a b, a < n → b < n → E a b = E' a b) {order : List Nat} (ho : ∀ a ∈ order, a < n) {g : Nat} (hg : g < n) : meet E order g = meet E' order g := by
  unfold meet
  rw [findIdx?_congr fun a ha => c a g (ho a ha) hg]
theorem meetRow_congr {n : Nat} (c : ∀ a b, a < n → b < n → E a b = E' a b) : ∀ (gs : List Nat) {order row : List Nat}, Met E n order → (∀ g ∈ gs, g < n) → meetRow E order row gs = meetRow E' order row gs
  | [], order, row, m, _ => rfl
  | g :: gs, order, row, m, hg => by
    have hg0 := hg g (by simp)
    rw [meetRow, meetRow, meetRow_congr c gs (m.meet hg0).1 fun x hx => hg x (by simp [hx]), meet_congr c m.lt hg0]
theorem meetAll_congr (o : h.Ok) (c : ∀ a b, a < h.n → b < h.n → E a b = E' a b) : ∀ i, meetAll E h i = meetAll E' h i
  | 0 => rfl
  | i + 1 => by
    have ih := meetAll_congr o c i
    rw [meetAll, meetAll, ← ih, meetRow_congr c _ (meetAll_met o i) (room_lt o _)]
/-- the first number from i on, within f more, for which p holds -/
def firstStop (p : Nat → Bool) : Nat → Nat → Nat
  | 0, i => i
  | f + 1, i => if p i = true then i else firstStop p f (i + 1)
theorem firstStop_eq {p : Nat → Bool} : ∀ {f i k : Nat}, i ≤ k → k ≤ i + f → (∀ j, i ≤ j → j < k → p j = false) → p k = true → firstStop p f i = k
  | 0, i, k, h1, h2, _, _ => by simp [firstStop]; omega
  | f + 1, i, k, h1, h2, h3, h4 => by
    unfold firstStop
    by_cases q : i = k
    · subst q; rw [if_pos h4]
    · rw [if_neg (by rw [h3 i (Nat.le_refl _) (by omega)]; simp)]
      exact firstStop_eq (by omega) (by omega) (fun j hj hk => h3 j (by omega) hk) h4
theorem firstStop_spec {p : Nat → Bool} : ∀ {f i : Nat}, (∃ k, i ≤ k ∧ k ≤ i + f ∧ p k = true) → p (firstStop p f i) = true ∧ (∀ j, i ≤ j → j < firstStop p f i → p j = false) ∧ i ≤ firstStop p f i ∧ firstStop p f i ≤ i + f
  | 0, i, ⟨k, h1, h2, h3⟩ => by
    have : k = i := by omega
    subst this
    exact ⟨h3, fun j hj hk => by simp [firstStop] at hk; omega, by simp [firstStop], by simp [firstStop]⟩
  | f + 1, i, ⟨k, h1, h2, h3⟩ => by
    unfold firstStop
    by_cases q : p i = true
    · rw [if_pos q]; exact ⟨q, fun j hj hk => by omega, Nat.le_refl _, by omega⟩
    · rw [if_neg q]
      have hne : k ≠ i := fun e => by subst e; exact q h3
      obtain ⟨a, b, c, d⟩ := firstStop_spec (p := p) (f := f) (i := i + 1) ⟨k, by omega, by omega, h3⟩
      refine ⟨a, fun j hj hk => ?_, by omega, by omega⟩
      by_cases e : j = i
      · subst e; simpa using q
      · exact b j (by omega) hk
/-- the number of classes that are met -/
def tightN (E : Nat → Nat → Bool) (h : Hall) : Nat := firstStop (fun i => decide ((meetAll E h i).1.length ≤ i)) h.n 0
def tightOf (E : Nat → Nat → Bool) (h : Hall) : Hall := ⟨h.w, (meetAll E h (tightN E h)).2, (meetAll E h (tightN E h)).1.map h.lit⟩
theorem tightN_spec (o : h.Ok) (hE : ∀ a, a < h.n → E a a = true) : (meetAll E h (tightN E h)).1.length = tightN E h ∧ (∀ j, j < tightN E h → j < (meetAll E h j).1.length) ∧ tightN E h ≤ h.n ∧ 1 ≤ tightN E h := by
  obtain ⟨a, b, c, d⟩ := firstStop_spec (p := fun i => decide ((meetAll E h i).1.length ≤ i)) (f := h.n) (i := 0) ⟨h.n, by omega, by omega, by simpa using (meetAll_met (E := E) o h.n).len hE⟩
  have a : (meetAll E h (tightN E h)).1.length ≤ tightN E h := of_decide_eq_true a
  have b : ∀ j, j < tightN E h → j < (meetAll E h j).1.length := fun j hj => Nat.lt_of_not_le (of_decide_eq_false (b j (Nat.zero_le _) hj))
  have pos : 1 ≤ tightN E h := by
    cases q : tightN E h with
    | zero => rw [q] at a; simp [meetAll] at a
    | succ k => omega
  refine ⟨?_, b, by unfold tightN; omega, pos⟩
  cases q : tightN E h with
  | zero => omega
  | succ k =>
    obtain ⟨more, e⟩ := meetAll_more (E := E) o k
    have := b k (by omega)
    rw [q] at a
    have e2 := congrArg List.length e
    rw [List.length_append] at e2
    omega
/-- what a walk that stops at the first such turn has made -/
theorem tightN_eq (o : h.Ok) (hE : ∀ a, a < h.n → E a a = true) {k : Nat} (h1 : ∀ j, j < k → j < (meetAll E h j).1.length) (h2 : (meetAll E h k).1.length ≤ k) : tightN E h = k := by
  obtain ⟨a, b, c, d⟩ := tightN_spec (E := E) o hE
  by_cases q : tightN E h < k
  · have := h1 _ q; omega
  · by_cases z : k < tightN E h
    · have := b k z; omega
    · omega
theorem tightOf_congr (o : h.Ok) (hE : ∀ a, a < h.n → E a a = true) (c : ∀ a b, a < h.n → b < h.n → E a b = E' a b) : tightOf E h = tightOf E' h := by
  have e : tightN E h = tightN E' h := by
    obtain ⟨a, b, _, _⟩ := tightN_spec (E := E) o hE
    refine (tightN_eq o (fun x hx => by rw [← c x x hx hx]; exact hE x hx) (fun j hj => ?_) ?_).symm
    · rw [← meetAll_congr o c]; exact b j hj
    · rw [← meetAll_congr o c]; exact Nat.le_of_eq a
  unfold tightOf
  rw [e, meetAll_congr o c]
end
section
variable {E : Nat → Nat → Bool} {h : Hall}
theorem meet_lt (order : List Nat) (g : Nat) : (meet E order g).2 < (meet E order g).1.length := by
  unfold meet
  cases q : order.findIdx? (fun r => E r g) with
  | some k => exact (List.findIdx?_eq_some_iff_getElem.mp q).1
  | none => simp
theorem meetRow_lt {n : Nat} : ∀ (gs : List Nat) {order row : List Nat}, Met E n order → (∀ g ∈ gs, g < n) → (∀ x ∈ row, x < order.length) → ∀ x ∈ (meetRow E order row gs).2, x < (meetRow E order row gs).1.length
  | [], order, row, m, _, hr => hr
  | g :: gs, order, row, m, hg, hr => by
    obtain ⟨m1, more1, e1⟩ := m.meet (hg g (by simp))
    refine meetRow_lt gs m1 (fun x hx => hg x (by simp [hx])) fun x hx => ?_
    rcases List.mem_append.mp hx with z | z
    · have := hr x z; rw [e1, List.length_append]; omega
    · have : x = (WH.meet E order g).2 := by simpa using z
      rw [this]; exact meet_lt order g
theorem meetAll_mono (o : h.Ok) {i j : Nat} (hij : i ≤ j) : ∃ more, (meetAll E h j).1 = (meetAll E h i).1 ++ more := by
  induction j with
  | zero => have : i = 0 := by omega
            subst this; exact ⟨[], by simp⟩
  | succ j ih =>
    by_cases q : i = j + 1
    · subst q; exact ⟨[], by simp⟩
    · obtain ⟨m1, e1⟩ := ih (by omega)
      obtain ⟨m2, e2⟩ := meetAll_more (E := E) o j
      exact ⟨m1 ++ m2, by rw [e2, e1, List.append_assoc]⟩
theorem meetAll_row_lt (o : h.Ok) : ∀ i, ∀ r ∈ (meetAll E h i).2, ∀ x ∈ r, x < (meetAll E h i).1.length
  | 0, r, hr => by simp [meetAll] at hr
  | i + 1, r, hr => fun x hx => by
    obtain ⟨more, e⟩ := meetAll_more (E := E) o i
    rcases List.mem_append.mp (show r ∈ (meetAll E h i).2 ++ [_] from hr) with z | z
    · have := meetAll_row_lt o i r z x hx
      rw [e, List.length_append]; omega
    · have z := List.mem_singleton.mp z
      subst z
      exact meetRow_lt (E := E) _ (meetAll_met o i) (room_lt o _) (by simp) x hx
theorem meetAll_row_len (o : h.Ok) : ∀ i, i ≤ tightN E h → (∀ a, a < h.n → E a a = true) → ∀ r ∈ (meetAll E h i).2, r.length = h.w
  | 0, _, _, r, hr => by simp [meetAll] at hr
  | i + 1, hi, hE, r, hr => by
    rcases List.mem_append.mp (show r ∈ (meetAll E h i).2 ++ [_] from hr) with z | z
    · exact meetAll_row_len o i (by omega) hE r z
    · have z := List.mem_singleton.mp z
      subst z
      rw [meetRow_len]
      have hlt := (tightN_spec (E := E) o hE).2.1 i (by omega)
      have := (meetAll_met (E := E) o i).lt _ (getD_mem (d := 0) hlt)
      rw [List.length_nil, Nat.zero_add]; exact o.room this
theorem tightOf_ok (o : h.Ok) (hE : ∀ a, a < h.n → E a a = true) : (tightOf E h).Ok := by
  obtain ⟨a, b, c, d⟩ := tightN_spec (E := E) o hE
  have hn : (tightOf E h).n = tightN E h := meetAll_rows _
  refine ⟨o.w1, o.w3, by rw [hn]; exact d, by rw [hn]; exact Nat.le_trans c o.n600, fun r hr => meetAll_row_len o _ (Nat.le_refl _) hE r hr, fun r hr g hg => ?_, ?_, fun l hl => ?_⟩
  · rw [hn, ← a]; exact meetAll_row_lt o _ r hr g hg
  · rw [hn]; show ((meetAll E h (tightN E h)).1.map h.lit).length = _; rw [List.length_map, a]
  · obtain ⟨r, hr, rfl⟩ := List.mem_map.mp hl
    exact o.lit_le ((meetAll_met o _).lt r hr)
theorem tightOf_n (o : h.Ok) (hE : ∀ a, a < h.n → E a a = true) : (tightOf E h).n ≤ h.n := by
  have hn : (tightOf E h).n = tightN E h := meetAll_rows _
  rw [hn]; exact (tightN_spec (E := E) o hE).2.2.1
end
open Classical in
/-- no tune tells them apart -/
noncomputable def same (h : Hall) (a b : Nat) : Bool := decide (¬ Dist h a b)
theorem same_iff {h : Hall} {a b : Nat} : same h a b = true ↔ ¬ Dist h a b := by unfold same; simp
theorem same_refl {h : Hall} (a : Nat) : same h a a = true := same_iff.mpr dist_irrefl
/-- THE TIGHT HALL -/
noncomputable def tightH (h : Hall) : Hall := tightOf (same h) h
open PySem L2

/-! ### data that stands still: Z are the addresses that may turn -/
mutual
def Im (H : Hp) (Z : List Addr) : PyData → V → Prop
  | .none, v => v = .non
  | .bool b, v => v = .bl b
  | .int i, v => v = .int i
  | .str s, v => v = .str s
  | .list ds, v => ∃ a xs, v = .ref a ∧ H a = some (.lst xs) ∧ a ∉ Z ∧ ImAll H Z ds xs
  | .tuple ds, v => ∃ a xs, v = .ref a ∧ H a = some (.tup xs) ∧ a ∉ Z ∧ ImAll H Z ds xs
  | .dict _, _ => False
def ImAll (H : Hp) (Z : List Addr) : List PyData → List V → Prop
  | [], xs => xs = []
  | d :: ds, xs => ∃ x r, xs = x :: r ∧ Im H Z d x ∧ ImAll H Z ds r
end

/-- what is outside of Z is kept -/
def Keep (Z : List Addr) (H H' : Hp) : Prop := ∀ a o, a ∉ Z → H a = some o → H' a = some o

mutual
theorem im_keep {H H' : Hp} {Z Z' : List Addr} (k : Keep Z H H') (z : ∀ a o, a ∉ Z → H a = some o → a ∉ Z') : ∀ (d : PyData) (v : V), Im H Z d v → Im H' Z' d v
  | .none, v, h => h
  | .bool b, v, h => h
  | .int i, v, h => h
  | .str s, v, h => h
  | .list ds, v, h => by
    obtain ⟨a, xs, e, h1, h2, h3⟩ := h
    exact ⟨a, xs, e, k a _ h2 h1, z a _ h2 h1, ims_keep k z ds xs h3⟩
  | .tuple ds, v, h => by
    obtain ⟨a, xs, e, h1, h2, h3⟩ := h
    exact ⟨a, xs, e, k a _ h2 h1, z a _ h2 h1, ims_keep k z ds xs h3⟩
  | .dict _, v, h => h
theorem ims_keep {H H' : Hp} {Z Z' : List Addr} (k : Keep Z H H') (z : ∀ a o, a ∉ Z → H a = some o → a ∉ Z') : ∀ (ds : List PyData) (xs : List V), ImAll H Z ds xs → ImAll H' Z' ds xs
  | [], xs, h => h
  | d :: ds, xs, h => by
    obtain ⟨x, r, e, h1, h2⟩ := h
    exact ⟨x, r, e, im_keep k z d x h1, ims_keep k z ds r h2⟩
end

theorem Im.keep {H H' : Hp} {Z Z' : List Addr} {d : PyData} {v : V} (h : Im H Z d v) (k : Keep Z H H') (z : ∀ a o, a ∉ Z → H a = some o → a ∉ Z') : Im H' Z' d v := im_keep k z d v h
theorem ImAll.keep {H H' : Hp} {Z Z' : List Addr} {d : List PyData} {v : List V} (h : ImAll H Z d v) (k : Keep Z H H') (z : ∀ a o, a ∉ Z → H a = some o → a ∉ Z') : ImAll H' Z' d v := ims_keep k z d v h
/-! no list within -/
mutual
def noL : PyData → Bool
  | .list _ => false
  | .dict _ => false
  | .tuple ds => noLs ds
  | _ => true
def noLs : List PyData → Bool
  | [] => true
  | d :: ds => noL d && noLs ds
end
theorem noLs_iff : ∀ {ds : List PyData}, noLs ds = true ↔ ∀ d ∈ ds, noL d = true
  | [] => by simp [noLs]
  | d :: ds => by simp [noLs, noLs_iff (ds := ds)]

mutual
theorem im_widen {H : Hp} {Z Z' : List Addr} (z : ∀ a ∈ Z', ∀ xs, H a ≠ some (.tup xs)) : ∀ (d : PyData) (v : V), noL d = true → Im H Z d v → Im H Z' d v
  | .none, v, _, h => h
  | .bool b, v, _, h => h
  | .int i, v, _, h => h
  | .str s, v, _, h => h
  | .list ds, v, n, h => by simp [noL] at n
  | .tuple ds, v, n, h => by
    obtain ⟨a, xs, e, h1, h2, h3⟩ := h
    exact ⟨a, xs, e, h1, fun q => z a q _ h1, ims_widen z ds xs (by simpa [noL] using n) h3⟩
  | .dict _, v, _, h => h
theorem ims_widen {H : Hp} {Z Z' : List Addr} (z : ∀ a ∈ Z', ∀ xs, H a ≠ some (.tup xs)) : ∀ (ds : List PyData) (xs : List V), noLs ds = true → ImAll H Z ds xs → ImAll H Z' ds xs
  | [], xs, _, h => h
  | d :: ds, xs, n, h => by
    obtain ⟨x, r, e, h1, h2⟩ := h
    simp only [noLs, Bool.and_eq_true] at n
    exact ⟨x, r, e, im_widen z d x n.1 h1, ims_widen z ds r n.2 h2⟩
end

theorem ImAll.length {H : Hp} {Z : List Addr} : ∀ {ds : List PyData} {xs : List V}, ImAll H Z ds xs → xs.length = ds.length
  | [], xs, h => by have h : xs = [] := h; subst h; rfl
  | d :: ds, xs, h => by
    obtain ⟨x, r, e, _, h2⟩ := h
    subst e
    simp [ImAll.length h2]
theorem ImAll.get {H : Hp} {Z : List Addr} : ∀ {ds : List PyData} {xs : List V} {i : Nat} {d : PyData}, ImAll H Z ds xs → ds[i]? = some d → ∃ x, xs[i]? = some x ∧ Im H Z d x
  | [], xs, i, d, h, e => by simp at e
  | d0 :: ds, xs, i, d, h, e => by
    obtain ⟨x, r, e1, h1, h2⟩ := h
    subst e1
    cases i with
    | zero => simp at e; subst e; exact ⟨x, rfl, h1⟩
    | succ i => simpa using ImAll.get (i := i) (d := d) h2 (by simpa using e)
theorem ImAll.getX {H : Hp} {Z : List Addr} {ds : List PyData} {xs : List V} {i : Nat} {x : V} (h : ImAll H Z ds xs) (e : xs[i]? = some x) : ∃ d, ds[i]? = some d ∧ Im H Z d x := by
  have hi := (List.getElem?_eq_some_iff.mp e).1
  rw [h.length] at hi
  obtain ⟨y, e1, h1⟩ := h.get (List.getElem?_eq_getElem hi)
  rw [e] at e1; cases e1
  exact ⟨_, List.getElem?_eq_getElem hi, h1⟩
theorem ImAll.nil {H : Hp} {Z : List Addr} : ImAll H Z [] [] := rfl
theorem ImAll.cons {H : Hp} {Z : List Addr} {d : PyData} {ds : List PyData} {x : V} {xs : List V} (h : Im H Z d x) (t : ImAll H Z ds xs) : ImAll H Z (d :: ds) (x :: xs) := ⟨x, xs, rfl, h, t⟩
theorem ImAll.app {H : Hp} {Z : List Addr} : ∀ {ds es : List PyData} {xs ys : List V}, ImAll H Z ds xs → ImAll H Z es ys → ImAll H Z (ds ++ es) (xs ++ ys)
  | [], es, xs, ys, h, h' => by have h : xs = [] := h; subst h; exact h'
  | d :: ds, es, xs, ys, h, h' => by
    obtain ⟨x, r, e, h1, h2⟩ := h
    subst e
    exact ⟨x, r ++ ys, rfl, h1, ImAll.app h2 h'⟩
theorem ImAll.snoc {H : Hp} {Z : List Addr} {ds : List PyData} {d : PyData} {xs : List V} {x : V} (h : ImAll H Z ds xs) (h' : Im H Z d x) : ImAll H Z (ds ++ [d]) (xs ++ [x]) := h.app (ImAll.cons h' ImAll.nil)
theorem ImAll.set {H : Hp} {Z : List Addr} {d : PyData} {x : V} (h' : Im H Z d x) : ∀ {ds : List PyData} {xs : List V} (i : Nat), ImAll H Z ds xs → ImAll H Z (ds.set i d) (xs.set i x)
  | [], xs, i, h => by have h : xs = [] := h; subst h; rfl
  | d0 :: ds, xs, i, h => by
    obtain ⟨y, r, e, h1, h2⟩ := h
    subst e
    cases i with
    | zero => exact ⟨x, r, rfl, h', h2⟩
    | succ i => exact ⟨y, r.set i x, rfl, h1, ImAll.set h' i h2⟩
theorem ImAll.drop {H : Hp} {Z : List Addr} : ∀ {ds : List PyData} {xs : List V} (i : Nat), ImAll H Z ds xs → ImAll H Z (ds.drop i) (xs.drop i)
  | ds, xs, 0, h => by simpa using h
  | [], xs, i + 1, h => by have h : xs = [] := h; subst h; rfl
  | d0 :: ds, xs, i + 1, h => by
    obtain ⟨y, r, e, h1, h2⟩ := h
    subst e
    simpa using ImAll.drop i h2
theorem ImAll.take {H : Hp} {Z : List Addr} : ∀ {ds : List PyData} {xs : List V} (i : Nat), ImAll H Z ds xs → ImAll H Z (ds.take i) (xs.take i)
  | ds, xs, 0, h => by simp [ImAll]
  | [], xs, i + 1, h => by have h : xs = [] := h; subst h; rfl
  | d0 :: ds, xs, i + 1, h => by
    obtain ⟨y, r, e, h1, h2⟩ := h
    subst e
    exact ⟨y, r.take i, by simp, h1, ImAll.take i h2⟩
/-- whole numbers -/
abbrev nD (n : Nat) : PyData := .int (n : Int)
abbrev nV (n : Nat) : V := .int (n : Int)
theorem ImAll.ints {H : Hp} {Z : List Addr} : ∀ (ns : List Int), ImAll H Z (ns.map PyData.int) (ns.map V.int)
  | [] => rfl
  | n :: ns => ⟨_, _, rfl, rfl, ImAll.ints ns⟩
theorem ImAll.nats {H : Hp} {Z : List Addr} : ∀ (ns : List Nat), ImAll H Z (ns.map nD) (ns.map nV)
  | [] => rfl
  | n :: ns => ⟨_, _, rfl, rfl, ImAll.nats ns⟩
theorem ImAll.nats_inv {H : Hp} {Z : List Addr} : ∀ {ns : List Nat} {xs : List V}, ImAll H Z (ns.map nD) xs → xs = ns.map nV
  | [], xs, h => h
  | n :: ns, xs, h => by
    obtain ⟨y, r, e, h1, h2⟩ := h
    subst e
    have h1 : y = nV n := h1
    rw [h1, ImAll.nats_inv h2]; rfl
theorem ImAll.ints_inv {H : Hp} {Z : List Addr} : ∀ {ns : List Int} {xs : List V}, ImAll H Z (ns.map PyData.int) xs → xs = ns.map V.int
  | [], xs, h => h
  | n :: ns, xs, h => by
    obtain ⟨y, r, e, h1, h2⟩ := h
    subst e
    have h1 : y = V.int n := h1
    rw [h1, ImAll.ints_inv h2]; rfl
theorem noL_nats (ns : List Nat) : noLs (ns.map nD) = true := by
  rw [noLs_iff]; intro d hd
  obtain ⟨n, _, rfl⟩ := List.mem_map.mp hd
  rfl

/-! ### cells: what a def holds and turns -/
inductive Cell where
  /-- a list of data -/
  | L (l : Addr) (ds : List PyData)
  /-- a list of lists of data -/
  | LL (l : Addr) (rs : List (Addr × List PyData))
  /-- a dict with whole numbers and texts as keys -/
  | DK (l : Addr) (kvs : List (Key × V))
def Cell.fp : Cell → List Addr
  | .L l _ => [l]
  | .LL l rs => l :: rs.map (·.1)
  | .DK l _ => [l]
def fps (cs : List Cell) : List Addr := cs.flatMap Cell.fp
def Cell.ok (H : Hp) (Z : List Addr) : Cell → Prop
  | .L l ds => ∃ xs, H l = some (.lst xs) ∧ ImAll H Z ds xs
  | .LL l rs => H l = some (.lst (rs.map fun r => V.ref r.1)) ∧ ∀ r ∈ rs, ∃ xs, H r.1 = some (.lst xs) ∧ ImAll H Z r.2 xs
  | .DK l kvs => H l = some (.dK kvs)
theorem Cell.ok.keep {H H' : Hp} {Z Z' : List Addr} {c : Cell} (h : c.ok H Z) (k : Keep Z H H') (z : ∀ a o, a ∉ Z → H a = some o → a ∉ Z') (hc : ∀ a ∈ c.fp, ∀ o, H a = some o → H' a = some o) : c.ok H' Z' := by
  cases c with
  | L l ds =>
    obtain ⟨xs, h1, h2⟩ := h
    exact ⟨xs, hc l (by simp [Cell.fp]) _ h1, h2.keep k z⟩
  | LL l rs =>
    obtain ⟨h1, h2⟩ := h
    refine ⟨hc l (by simp [Cell.fp]) _ h1, fun r hr => ?_⟩
    obtain ⟨xs, e, i⟩ := h2 r hr
    exact ⟨xs, hc r.1 (by simp [Cell.fp]; exact .inr ⟨_, hr⟩) _ e, i.keep k z⟩
  | DK l kvs => exact hc l (by simp [Cell.fp]) _ h
theorem Cell.ok.nt {H : Hp} {Z : List Addr} {c : Cell} (h : c.ok H Z) : ∀ a ∈ c.fp, (∃ o, H a = some o) ∧ ∀ xs, H a ≠ some (.tup xs) := by
  intro a ha
  cases c with
  | L l ds =>
    obtain ⟨xs, h1, h2⟩ := h
    have e : a = l := by simpa [Cell.fp] using ha
    subst e
    exact ⟨⟨_, h1⟩, fun ys q => by rw [h1] at q; cases q⟩
  | LL l rs =>
    obtain ⟨h1, h2⟩ := h
    rcases List.mem_cons.mp ha with e | ha
    · subst e
      exact ⟨⟨_, h1⟩, fun ys q => by rw [h1] at q; cases q⟩
    · obtain ⟨r, hr, e⟩ := List.mem_map.mp ha
      obtain ⟨xs, e1, _⟩ := h2 r hr
      subst e
      exact ⟨⟨_, e1⟩, fun ys q => by rw [e1] at q; cases q⟩
  | DK l kvs =>
    have e : a = l := by simpa [Cell.fp] using ha
    subst e
    have h : H a = some (.dK kvs) := h
    exact ⟨⟨_, h⟩, fun ys q => by rw [h] at q; cases q⟩

structure Wd (H0 H : Hp) (cs : List Cell) (ims : List (PyData × V)) : Prop where
  same : Same H0 H
  new : ∀ a ∈ fps cs, H0 a = none
  nd : (fps cs).Nodup
  ok : ∀ c ∈ cs, c.ok H (fps cs)
  im : ∀ p ∈ ims, Im H (fps cs) p.1 p.2

section
variable {H0 H H' : Hp} {cs : List Cell} {ims : List (PyData × V)}
theorem Wd.start {ims : List (PyData × V)} (h : ∀ p ∈ ims, Im H0 [] p.1 p.2) : Wd H0 H0 [] ims := ⟨Same.refl _, fun _ h => by simp [fps] at h, by simp [fps], fun _ h => by simp at h, h⟩
theorem Wd.get (w : Wd H0 H cs ims) (i : Nat) {d : PyData} {v : V} (e : ims[i]? = some (d, v) := by rfl) : Im H (fps cs) d v := w.im _ (List.mem_of_getElem? e)
theorem Wd.cell (w : Wd H0 H cs ims) (i : Nat) {c : Cell} (e : cs[i]? = some c := by rfl) : c.ok H (fps cs) := w.ok _ (List.mem_of_getElem? e)
theorem Wd.list (w : Wd H0 H cs ims) (i : Nat) {l : Addr} {ds : List PyData} (e : cs[i]? = some (.L l ds) := by rfl) : ∃ xs, H l = some (.lst xs) ∧ ImAll H (fps cs) ds xs := w.cell i e
theorem Wd.notTup (w : Wd H0 H cs ims) : ∀ a ∈ fps cs, (∃ o, H a = some o) ∧ ∀ xs, H a ≠ some (.tup xs) := by
  intro a ha
  obtain ⟨c, hc, ha⟩ := List.mem_flatMap.mp ha
  exact (w.ok c hc).nt a ha
theorem Wd.add (w : Wd H0 H cs ims) {d : PyData} {v : V} (h : Im H (fps cs) d v) : Wd H0 H cs ((d, v) :: ims) :=
  ⟨w.same, w.new, w.nd, w.ok, fun p hp => by rcases List.mem_cons.mp hp with rfl | hp; exact h; exact w.im p hp⟩
theorem Wd.less {ims' : List (PyData × V)} (w : Wd H0 H cs ims) (h : ∀ p ∈ ims', p ∈ ims) : Wd H0 H cs ims' := ⟨w.same, w.new, w.nd, w.ok, fun p hp => w.im p (h p hp)⟩
/-- all that is tracked is kept -/
theorem Wd.call (w : Wd H0 H cs ims) (s : Same H H') : Wd H0 H' cs ims := by
  have k : Keep (fps cs) H H' := fun a o _ e => s a o e
  have z : ∀ a o, a ∉ fps cs → H a = some o → a ∉ fps cs := fun a o h _ => h
  exact ⟨w.same.trans s, w.new, w.nd, fun c hc => (w.ok c hc).keep k z fun a _ o e => s a o e, fun p hp => (w.im p hp).keep k z⟩
theorem Wd.adopt (w : Wd H0 H cs ims) {d : PyData} {v : V} (n : noL d = true) (h : Im H [] d v) : Im H (fps cs) d v := im_widen (fun a ha xs => (w.notTup a ha).2 xs) _ _ n h
theorem Wd.adoptAll (w : Wd H0 H cs ims) {ds : List PyData} {vs : List V} (n : noLs ds = true) (h : ImAll H [] ds vs) : ImAll H (fps cs) ds vs := ims_widen (fun a ha xs => (w.notTup a ha).2 xs) _ _ n h
theorem Im.bare {Z : List Addr} {d : PyData} {v : V} (h : Im H Z d v) : Im H [] d v := h.keep (fun _ _ _ e => e) (fun _ _ _ _ => by simp)
theorem ImAll.bare {Z : List Addr} {d : List PyData} {v : List V} (h : ImAll H Z d v) : ImAll H [] d v := h.keep (fun _ _ _ e => e) (fun _ _ _ _ => by simp)
/-- a new object that no cell tells -/
theorem same_new {p : Addr} {o : HO} (hp : H p = none) : Same H (upd H p o) := fun b u e => by rw [upd_ne (ne_of_none e hp)]; exact e
theorem Wd.fresh (w : Wd H0 H cs ims) {p : Addr} (hp : H p = none) : p ∉ fps cs ∧ H0 p = none := by
  refine ⟨fun z => ?_, w.same.free hp⟩
  obtain ⟨o, e⟩ := (w.notTup p z).1
  rw [hp] at e; cases e
theorem Wd.tup (w : Wd H0 H cs ims) {p : Addr} {ds : List PyData} {xs : List V} (hp : H p = none) (h : ImAll H (fps cs) ds xs) : Wd H0 (upd H p (.tup xs)) cs ((.tuple ds, .ref p) :: ims) := by
  have w1 := w.call (same_new (o := .tup xs) hp)
  refine w1.add ⟨p, xs, rfl, upd_same, (w.fresh hp).1, h.keep (fun a o _ e => same_new hp a o e) fun a o h _ => h⟩
/-- a new list that stands still -/
theorem Wd.frz (w : Wd H0 H cs ims) {p : Addr} {ds : List PyData} {xs : List V} (hp : H p = none) (h : ImAll H (fps cs) ds xs) : Wd H0 (upd H p (.lst xs)) cs ((.list ds, .ref p) :: ims) := by
  have w1 := w.call (same_new (o := .lst xs) hp)
  refine w1.add ⟨p, xs, rfl, upd_same, (w.fresh hp).1, h.keep (fun a o _ e => same_new hp a o e) fun a o h _ => h⟩
/-- a new cell -/
theorem Wd.push (w : Wd H0 H cs ims) {p : Addr} {o : HO} {c : Cell} (hp : H p = none) (hfp : c.fp = [p]) (hok : c.ok (upd H p o) (p :: fps cs)) : Wd H0 (upd H p o) (c :: cs) ims := by
  have s := same_new (o := o) hp
  have k : Keep (fps cs) H (upd H p o) := fun a o _ e => s a o e
  have z : ∀ a o, a ∉ fps cs → H a = some o → a ∉ p :: fps cs := fun a o h e q => by
    rcases List.mem_cons.mp q with rfl | q
    · rw [hp] at e; cases e
    · exact h q
  have f := w.fresh hp
  have e : fps (c :: cs) = p :: fps cs := by simp [fps, hfp]
  refine ⟨w.same.trans s, fun a ha => ?_, ?_, fun c' hc => ?_, fun q hq => ?_⟩
  · rw [e] at ha
    rcases List.mem_cons.mp ha with rfl | ha
    · exact f.2
    · exact w.new a ha
  · rw [e]; exact List.nodup_cons.mpr ⟨f.1, w.nd⟩
  · rw [e]
    rcases List.mem_cons.mp hc with rfl | hc
    · exact hok
    · exact (w.ok c' hc).keep k z fun a _ o e => s a o e
  · rw [e]; exact (w.im q hq).keep k z
theorem Wd.pushL (w : Wd H0 H cs ims) {p : Addr} {ds : List PyData} {xs : List V} (hp : H p = none) (h : ImAll H (fps cs) ds xs) : Wd H0 (upd H p (.lst xs)) (.L p ds :: cs) ims := by
  refine w.push hp rfl ⟨xs, upd_same, h.keep (fun a o _ e => same_new hp a o e) fun a o h e q => ?_⟩
  rcases List.mem_cons.mp q with rfl | q
  · rw [hp] at e; cases e
  · exact h q
theorem Wd.pushD (w : Wd H0 H cs ims) {p : Addr} {kvs : List (Key × V)} (hp : H p = none) : Wd H0 (upd H p (.dK kvs)) (.DK p kvs :: cs) ims := w.push hp rfl upd_same
/-- a cell turns; its addresses stay -/
theorem Wd.turn (w : Wd H0 H cs ims) (i : Nat) {c c' : Cell} {l : Addr} {o : HO} (e : cs[i]? = some c) (hl : l ∈ c.fp) (hf : c'.fp = c.fp) (hok : c'.ok (upd H l o) (fps cs)) : Wd H0 (upd H l o) (cs.set i c') ims := by
  have hl' : l ∈ fps cs := List.mem_flatMap.mpr ⟨c, List.mem_of_getElem? e, hl⟩
  have k : Keep (fps cs) H (upd H l o) := fun a u h e => by rw [upd_ne (fun q => by subst q; exact h hl')]; exact e
  have z : ∀ a o, a ∉ fps cs → H a = some o → a ∉ fps cs := fun a o h _ => h
  have ef : fps (cs.set i c') = fps cs := by
    unfold fps
    have : ∀ (l : List Cell) (i : Nat), l[i]? = some c → (l.set i c').flatMap Cell.fp = l.flatMap Cell.fp := by
      intro l
      induction l with
      | nil => intro i h; simp at h
      | cons a r ih =>
        intro i h
        cases i with
        | zero => simp at h; subst h; simp [hf]
        | succ i => simp [ih i (by simpa using h)]
    exact this cs i e
  refine ⟨fun a u q => ?_, fun a ha => w.new a (ef ▸ ha), by rw [ef]; exact w.nd, fun c'' hc => ?_, fun q hq => ?_⟩
  · have n := w.new l hl'
    rw [upd_ne (ne_of_none q n)]
    exact w.same a u q
  · rw [ef]
    obtain ⟨j, hj⟩ := List.getElem?_of_mem hc
    by_cases hij : j = i
    · subst hij
      have hlt : j < cs.length := (List.getElem?_eq_some_iff.mp e).1
      rw [List.getElem?_set_self hlt] at hj
      cases hj
      exact hok
    · rw [List.getElem?_set_ne (Ne.symm hij)] at hj
      have hm := List.mem_of_getElem? hj
      refine (w.ok c'' hm).keep k z fun a ha u q => ?_
      rw [upd_ne ?_]; exact q
      intro z; subst z
      -- two cells share an address
      have nd := w.nd
      unfold fps at nd
      have := List.pairwise_flatMap.mp (List.nodup_iff_pairwise_ne.mp nd)
      have key : ∀ (l : List Cell) (i j : Nat) (c c'' : Cell) (a : Addr), List.Pairwise (fun a₁ a₂ => ∀ x ∈ Cell.fp a₁, ∀ y ∈ Cell.fp a₂, x ≠ y) l → l[i]? = some c → l[j]? = some c'' → j ≠ i → a ∈ c.fp → a ∈ c''.fp → False := by
        intro l i j c c'' a hp h1 h2 hij h3 h4
        rcases Nat.lt_or_gt_of_ne hij with q | q
        · obtain ⟨hi, ei⟩ := List.getElem?_eq_some_iff.mp h1
          obtain ⟨hj, ej⟩ := List.getElem?_eq_some_iff.mp h2
          have := List.pairwise_iff_getElem.mp hp j i hj hi q
          rw [ei, ej] at this
          exact this a h4 a h3 rfl
        · obtain ⟨hi, ei⟩ := List.getElem?_eq_some_iff.mp h1
          obtain ⟨hj, ej⟩ := List.getElem?_eq_some_iff.mp h2
          have := List.pairwise_iff_getElem.mp hp i j hi hj q
          rw [ei, ej] at this
          exact this a h3 a h4 rfl
      exact key cs i j c c'' a this.2 e hj hij hl ha
  · rw [ef]; exact (w.im q hq).keep k z
theorem Wd.keepL (w : Wd H0 H cs ims) {l : Addr} {o : HO} (hl : l ∈ fps cs) {ds : List PyData} {xs : List V} (h : ImAll H (fps cs) ds xs) : ImAll (upd H l o) (fps cs) ds xs :=
  h.keep (fun a u h e => by rw [upd_ne (fun q => by subst q; exact h hl)]; exact e) fun a o h _ => h
theorem Wd.turnL (w : Wd H0 H cs ims) (i : Nat) {l : Addr} {ds ds' : List PyData} {xs : List V} (e : cs[i]? = some (.L l ds)) (h : ImAll H (fps cs) ds' xs) : Wd H0 (upd H l (.lst xs)) (cs.set i (.L l ds')) ims := by
  have hl : l ∈ fps cs := List.mem_flatMap.mpr ⟨_, List.mem_of_getElem? e, by simp [Cell.fp]⟩
  exact w.turn i e (by simp [Cell.fp]) rfl ⟨xs, upd_same, w.keepL hl h⟩
theorem Wd.turnD (w : Wd H0 H cs ims) (i : Nat) {l : Addr} {kvs kvs' : List (Key × V)} (e : cs[i]? = some (.DK l kvs)) : Wd H0 (upd H l (.dK kvs')) (cs.set i (.DK l kvs')) ims :=
  w.turn i e (by simp [Cell.fp]) rfl upd_same
/-- the first cell is let go -/
theorem Wd.pop {c : Cell} (w : Wd H0 H (c :: cs) ims) : Wd H0 H cs ims := by
  have sub : ∀ a, a ∈ fps cs → a ∈ fps (c :: cs) := fun a h => by
    show a ∈ c.fp ++ fps cs
    exact List.mem_append_right _ h
  have k : Keep (fps (c :: cs)) H H := fun _ _ _ e => e
  have z : ∀ a o, a ∉ fps (c :: cs) → H a = some o → a ∉ fps cs := fun a o h _ q => h (sub a q)
  refine ⟨w.same, fun a h => w.new a (sub a h), ?_, fun c' hc => ?_, fun p hp => (w.im p hp).keep k z⟩
  · have := w.nd
    exact (List.nodup_append.mp (show (c.fp ++ fps cs).Nodup from this)).2.1
  · exact (w.ok c' (List.mem_cons_of_mem _ hc)).keep k z fun a _ o e => e
end

/-! ### equality -/
mutual
theorem Im.dp {K : PySem.W.Frag} {H : Hp} {Z : List Addr} : ∀ (d : PyData) (v : V), Im H Z d v → Dp K H v d
  | .none, v, h => by have h : v = .non := h; subst h; exact .non
  | .bool b, v, h => by have h : v = .bl b := h; subst h; exact .bl b
  | .int i, v, h => by have h : v = .int i := h; subst h; exact .int i
  | .str s, v, h => by have h : v = .str s := h; subst h; exact .str s
  | .list ds, v, h => by
    obtain ⟨a, xs, e, h1, h2, h3⟩ := h
    subst e
    exact .lst (SqL.of h1) (ImAll.dp ds xs h3)
  | .tuple ds, v, h => by
    obtain ⟨a, xs, e, h1, h2, h3⟩ := h
    subst e
    exact .tup (SqT.of h1) (ImAll.dp ds xs h3)
  | .dict _, v, h => by cases h
theorem ImAll.dp {K : PySem.W.Frag} {H : Hp} {Z : List Addr} : ∀ (ds : List PyData) (xs : List V), ImAll H Z ds xs → DpAll K H xs ds
  | [], xs, h => by have h : xs = [] := h; subst h; exact .nil
  | d :: ds, xs, h => by
    obtain ⟨x, r, e, h1, h2⟩ := h
    subst e
    exact .cons (Im.dp d x h1) (ImAll.dp ds r h2)
end

theorem Wd.dp {K : PySem.W.Frag} {H0 H : Hp} {cs : List Cell} {ims : List (PyData × V)} (w : Wd H0 H cs ims) (i : Nat) {l : Addr} {ds : List PyData} (e : cs[i]? = some (.L l ds) := by rfl) : Dp K H (.ref l) (.list ds) := by
  obtain ⟨xs, h1, h2⟩ := w.list i e
  exact .lst (SqL.of h1) (ImAll.dp _ _ h2)
/-! ### subscripts by data -/
section
variable {X : Cx}
/-- t[i] of data -/
def rIxI : R2 := fun x y H Q => ∃ (Z : List Addr) (ds : List PyData) (i : Int) (d : PyData), Im H Z (.tuple ds) x ∧ y = .int i ∧ atI ds i = some d ∧ ∀ v, Im H Z d v → Q v H
theorem atI_map {H : Hp} {Z : List Addr} {ds : List PyData} {xs : List V} {i : Int} {d : PyData} (h : ImAll H Z ds xs) (e : atI ds i = some d) : ∃ v, atI xs i = some v ∧ Im H Z d v := by
  unfold atI at e ⊢
  rw [h.length]
  cases q : ixN ds.length i with
  | none => rw [q] at e; cases e
  | some j =>
    rw [q] at e
    exact h.get e
theorem ix_im : IxR X rIxI := by
  have base := ix_tup (X := X)
  intro value slice pins s σ H x y v u Q I rx ry h hs
  obtain ⟨Z, ds, i, d, ⟨a, xs, e1, e2, e3, e4⟩, e5, e6, q⟩ := h
  obtain ⟨w, f1, f2⟩ := atI_map e4 e6
  exact base value slice pins s σ H x y v u Q I rx ry ⟨a, xs, i, w, e1, e5, SqT.of e2, f1, q w f2⟩ hs
end
/-! ### comprehensions that fill a cell -/
theorem wipe_set (σ : St) (j : Nat) (x : Option V) : wipe ((wipe σ [j]).set j x) [j] = wipe σ [j] := by
  show ((σ.set j none).set j x).set j none = σ.set j none
  rw [List.set_set, List.set_set]
section
variable {H0 H1 : Hp} {cs : List Cell} {ims : List (PyData × V)} {tt : TT} {te : TE} {j : Nat} {σ : St} {D : Addr} {Qd : Hp → Prop}
theorem Wd.grow {H : Hp} {acc : List PyData} (w : Wd H0 H (.L D acc :: cs) ims) {d : PyData} {y : V} (h : Im H (fps (.L D acc :: cs)) d y) : ∃ xs, H D = some (.lst xs) ∧ xs.length = acc.length ∧ Wd H0 (upd H D (.lst (xs ++ [y]))) (.L D (acc ++ [d]) :: cs) ims := by
  obtain ⟨xs, e, i⟩ := w.list 0
  exact ⟨xs, e, i.length, w.turnL 0 rfl (i.snoc h)⟩
/-- one turn's wish -/
def CompTurn (H0 : Hp) (cs : List Cell) (ims : List (PyData × V)) (tt : TT) (te : TE) (D : Addr) (g : Nat → List PyData) (i : Nat) (σ : St) (H : Hp) : Prop :=
  ∀ (Qt : V → Hp → Prop) (Qf : Hp → Prop), (∀ y H4 d, Wd H0 H4 (.L D (g i) :: cs) ims → Im H4 (fps (.L D (g i) :: cs)) d y → g (i + 1) = g i ++ [d] → Qt y H4) → (∀ H3, Wd H0 H3 (.L D (g i) :: cs) ims → g (i + 1) = g i → Qf H3) →
    tt σ H fun b H3 => if b = true then te σ H3 Qt else Qf H3
theorem CompTurn.use {g : Nat → List PyData} {i : Nat} {σ' : St} {H : Hp} (h : CompTurn H0 cs ims tt te D g i σ' H) (hl : (g i).length < sizeLine) :
    tt σ' H fun b H3 => if b = true then te σ' H3 fun y H4 => ∃ acc, H4 D = some (.lst acc) ∧ acc.length < sizeLine ∧ Wd H0 (upd H4 D (.lst (acc ++ [y]))) (.L D (g (i + 1)) :: cs) ims else Wd H0 H3 (.L D (g (i + 1)) :: cs) ims := by
  refine h _ _ (fun y H4 d w im e => ?_) (fun H3 w e => ?_)
  · obtain ⟨xs, e1, e2, w'⟩ := w.grow im
    rw [e]
    exact ⟨xs, e1, by omega, w'⟩
  · show Wd H0 H3 (.L D (g (i + 1)) :: cs) ims
    rw [e]; exact w
theorem lc_rangeW (g : Nat → List PyData) {n : Nat} (w : Wd H0 H1 cs ims) (hD : H1 D = none) (h0 : g 0 = []) (hl : ∀ i, i < n → (g i).length < sizeLine)
    (hs : ∀ i H, i < n → Wd H0 H (.L D (g i) :: cs) ims → CompTurn H0 cs ims tt te D g i ((wipe σ [j]).set j (some (nV i))) H) (hd : ∀ H, Wd H0 H (.L D (g n) :: cs) ims → Qd H) :
    ∃ W : Nat → Nat → Hp → Prop, (∃ m, W 0 m (upd H1 D (.lst []))) ∧ ∀ i m H, W i m H →
      ((Itr 0 n).stop i H ∧ Qd H) ∨ ((Itr 0 n).go i H ∧ ∃ Nx : Hp → Prop, (∀ H', Nx H' → ∃ m', m' < m ∧ W (i + 1) m' H') ∧ ∀ x H', (Itr 0 n).yld i H x H' → gName j x (wipe σ [j]) H' fun σ2 H2 => wipe σ2 [j] = wipe σ [j] ∧ tt σ2 H2 fun b H3 =>
        if b = true then te σ2 H3 fun y H4 => ∃ acc, H4 D = some (.lst acc) ∧ acc.length < sizeLine ∧ Nx (upd H4 D (.lst (acc ++ [y]))) else Nx H3) := by
  refine lc_range (fun i H => Wd H0 H (.L D (g i) :: cs) ims) (by rw [h0]; exact w.pushL hD ImAll.nil) (fun i H hi w => ?_) hd
  refine ⟨wipe_set _ _ _, ?_⟩
  have e : V.int (0 + (i : Int)) = nV i := by simp
  rw [e]
  exact (hs i H hi w).use (hl i hi)
theorem lc_listW {K : PySem.W.Frag} {a : Addr} {xs : List V} (g : Nat → List PyData) (w : Wd H0 H1 cs ims) (hD : H1 D = none) (h0 : g 0 = []) (hl : ∀ i, i < xs.length → (g i).length < sizeLine) (hL : ∀ i H, i ≤ xs.length → Wd H0 H (.L D (g i) :: cs) ims → SqL K H a xs)
    (hs : ∀ i x H, xs[i]? = some x → Wd H0 H (.L D (g i) :: cs) ims → CompTurn H0 cs ims tt te D g i ((wipe σ [j]).set j (some x)) H) (hd : ∀ H, Wd H0 H (.L D (g xs.length) :: cs) ims → Qd H) :
    ∃ W : Nat → Nat → Hp → Prop, (∃ m, W 0 m (upd H1 D (.lst []))) ∧ ∀ i m H, W i m H →
      ((Itl K a).stop i H ∧ Qd H) ∨ ((Itl K a).go i H ∧ ∃ Nx : Hp → Prop, (∀ H', Nx H' → ∃ m', m' < m ∧ W (i + 1) m' H') ∧ ∀ x H', (Itl K a).yld i H x H' → gName j x (wipe σ [j]) H' fun σ2 H2 => wipe σ2 [j] = wipe σ [j] ∧ tt σ2 H2 fun b H3 =>
        if b = true then te σ2 H3 fun y H4 => ∃ acc, H4 D = some (.lst acc) ∧ acc.length < sizeLine ∧ Nx (upd H4 D (.lst (acc ++ [y]))) else Nx H3) := by
  refine lc_list (fun i H => Wd H0 H (.L D (g i) :: cs) ims) (by rw [h0]; exact w.pushL hD ImAll.nil) hL (fun i x H hi w => ?_) hd
  exact ⟨wipe_set _ _ _, (hs i x H hi w).use (hl i (List.getElem?_eq_some_iff.mp hi).1)⟩
theorem lc_tupW {K : PySem.W.Frag} {a : Addr} {xs : List V} (g : Nat → List PyData) (w : Wd H0 H1 cs ims) (hD : H1 D = none) (h0 : g 0 = []) (hl : ∀ i, i < xs.length → (g i).length < sizeLine) (hL : ∀ i H, i ≤ xs.length → Wd H0 H (.L D (g i) :: cs) ims → SqT K H a xs)
    (hs : ∀ i x H, xs[i]? = some x → Wd H0 H (.L D (g i) :: cs) ims → CompTurn H0 cs ims tt te D g i ((wipe σ [j]).set j (some x)) H) (hd : ∀ H, Wd H0 H (.L D (g xs.length) :: cs) ims → Qd H) :
    ∃ W : Nat → Nat → Hp → Prop, (∃ m, W 0 m (upd H1 D (.lst []))) ∧ ∀ i m H, W i m H →
      ((Itt K a).stop i H ∧ Qd H) ∨ ((Itt K a).go i H ∧ ∃ Nx : Hp → Prop, (∀ H', Nx H' → ∃ m', m' < m ∧ W (i + 1) m' H') ∧ ∀ x H', (Itt K a).yld i H x H' → gName j x (wipe σ [j]) H' fun σ2 H2 => wipe σ2 [j] = wipe σ [j] ∧ tt σ2 H2 fun b H3 =>
        if b = true then te σ2 H3 fun y H4 => ∃ acc, H4 D = some (.lst acc) ∧ acc.length < sizeLine ∧ Nx (upd H4 D (.lst (acc ++ [y]))) else Nx H3) := by
  refine lc_tup (fun i H => Wd H0 H (.L D (g i) :: cs) ims) (by rw [h0]; exact w.pushL hD ImAll.nil) hL (fun i x H hi w => ?_) hd
  exact ⟨wipe_set _ _ _, (hs i x H hi w).use (hl i (List.getElem?_eq_some_iff.mp hi).1)⟩
/-- no test: each item gives one -/
theorem CompTurn.all {g : Nat → List PyData} {i : Nat} {σ' : St} {H : Hp} (h : ∀ Qt : V → Hp → Prop, (∀ y H4 d, Wd H0 H4 (.L D (g i) :: cs) ims → Im H4 (fps (.L D (g i) :: cs)) d y → g (i + 1) = g i ++ [d] → Qt y H4) → te σ' H Qt) : CompTurn H0 cs ims tYes te D g i σ' H := by
  intro Qt Qf h1 h2
  show if true = true then te σ' H Qt else Qf H
  exact iteT (h Qt h1)
end
theorem map_range_succ {α : Type} (f : Nat → α) (i : Nat) : (List.range (i + 1)).map f = (List.range i).map f ++ [f i] := by
  rw [List.range_succ, List.map_append]; rfl
theorem filter_range_t {α : Type} (p : Nat → Bool) (f : Nat → α) {i : Nat} (h : p i = true) : ((List.range (i + 1)).filter p).map f = ((List.range i).filter p).map f ++ [f i] := by
  rw [List.range_succ, List.filter_append, List.map_append]; simp [h]
theorem filter_range_f {α : Type} (p : Nat → Bool) (f : Nat → α) {i : Nat} (h : p i = false) : ((List.range (i + 1)).filter p).map f = ((List.range i).filter p).map f := by
  rw [List.range_succ, List.filter_append, List.map_append]; simp [h]
theorem filter_len (p : Nat → Bool) (i : Nat) : ((List.range i).filter p).length ≤ i := by
  have := List.length_filter_le p (List.range i)
  rwa [List.length_range] at this
theorem isEmpty_len {α β : Type} {l : List α} {m : List β} (h : l.length = m.length) : l.isEmpty = m.isEmpty := by
  cases l <;> cases m <;> simp_all
theorem sl_small {n : Nat} (h : n ≤ 1000000) : n < sizeLine := Nat.lt_of_le_of_lt h (by decide)
theorem dec_nV (m k : Nat) : decide (nV m = nV k) = decide (m = k) := by
  by_cases h : m = k
  · subst h; simp
  · rw [decide_eq_false h, decide_eq_false]
    intro q; injection q with q; exact h (by omega)
/-! ### calls -/
/-- the def named x stands at the top and keeps its promise -/
structure Cal (P : Program) (w : World) (K : PySem.W.Frag) (mg : Str → Option Value) (base : Heap) (CX : CXT) (k : Nat) (x : Str) (ps : List Str) (sp : Sp) : Prop where
  ex : ∃ f fd, FnOk P w K mg base CX k f fd ps sp ∧ mg x = some (.ref f) ∧ PySem.W.keepIn K (.ref f) = true ∧ Binds K fd ps []
section
variable {X : Cx}
theorem pe_fn {k k' : Nat} {x : Str} {ps : List Str} {sp : Sp} {e : Expr} {es : List Expr} {t : TA} {p pos : Pos} (C : Cal X.prog X.w X.K X.mg X.base CX0 k x ps sp) (hr : Room k' X.A) (hk : k ≤ k') (hg : Gl X x) (ha : PA X (e :: es) t)
    (hd : (x == ("__debug__" : Str)) = false := by decide) (he : starEach (e :: es) X.env = (false, eval e X.env) :: starEach es X.env := by rfl) (hpl : (backTo pos (starEach es X.env)).any (·.1) = false := by rfl) : PE X (.Call (.Name x p) (e :: es) [] pos) (tCall sp [] E0 t) := by
  obtain ⟨f, fd, F, hm, hkp, hb⟩ := C.ex
  exact pe_call F (hr.mono hk) hg hm hkp hb .nil pass0 ha hd he hpl
/-- two ways come together -/
def tJoin (t u : TS) : TS := fun D σ H => ∃ Mid : St → Hp → Prop, t { D with nx := Mid } σ H ∧ ∀ σ' H', Mid σ' H' → u D σ' H'
theorem pss_join {st : Stmt} {rest : List Stmt} {t u : TS} (h1 : PS X st t) (h2 : PSs X rest u) : PSs X (st :: rest) (tJoin t u) := by
  refine ⟨fun pins s σ H D I h => ?_⟩
  obtain ⟨Mid, ht, hu⟩ := h
  refine wpAny_execs_cons (thn (h1.run pins s σ H { D with nx := Mid } I ht) fun f s1 q => ?_)
  cases f with
  | next =>
    obtain ⟨σ', H', I', q⟩ := q
    exact h2.run pins s1 σ' H' D I' (hu σ' H' q)
  | ret v => exact q
  | brk => exact q
  | cont => exact q
end
/-! ### natural numbers -/
def rN (g : Nat → Nat → V) : R2 := fun x y H Q => ∃ n m : Nat, x = nV n ∧ y = nV m ∧ Q (g n m) H
def rNC (C : Nat → Nat → Prop) (g : Nat → Nat → V) : R2 := fun x y H Q => ∃ n m : Nat, x = nV n ∧ y = nV m ∧ C n m ∧ Q (g n m) H
section
variable {X : Cx}
theorem oN_add : OpR X (binaryOp .Add) (rN fun n m => nV (n + m)) := by
  intro pins s σ H x y v u Q I rx ry h
  obtain ⟨n, m, rfl, rfl, q⟩ := h
  refine op_add pins s σ H _ _ v u Q I rx ry ⟨_, _, rfl, rfl, ?_⟩
  show Q (.int ((n : Int) + m)) H
  rw [← Int.natCast_add]; exact q
theorem oN_sub : OpR X (binaryOp .Sub) (rNC (fun n m => m ≤ n) fun n m => nV (n - m)) := by
  intro pins s σ H x y v u Q I rx ry h
  obtain ⟨n, m, rfl, rfl, c, q⟩ := h
  refine op_sub pins s σ H _ _ v u Q I rx ry ⟨_, _, rfl, rfl, ?_⟩
  show Q (.int ((n : Int) - m)) H
  rw [← Int.ofNat_sub c]; exact q
theorem oN_mul : OpR X (binaryOp .Mult) (rNC (fun n _ => n ≤ 1000000000) fun n m => nV (n * m)) := by
  intro pins s σ H x y v u Q I rx ry h
  obtain ⟨n, m, rfl, rfl, c, q⟩ := h
  refine op_mul pins s σ H _ _ v u Q I rx ry ⟨_, _, rfl, rfl, .inl ⟨by omega, by omega⟩, ?_⟩
  show Q (.int ((n : Int) * m)) H
  rw [← Int.natCast_mul]; exact q
theorem oN_mod : OpR X (binaryOp .Mod) (rNC (fun _ m => 0 < m) fun n m => nV (n % m)) := by
  intro pins s σ H x y v u Q I rx ry h
  obtain ⟨n, m, rfl, rfl, c, q⟩ := h
  refine op_mod pins s σ H _ _ v u Q I rx ry ⟨_, _, rfl, rfl, (by show (0 : Int) < _; omega), ?_⟩
  show Q (.int ((n : Int) % m)) H
  rw [← Int.natCast_emod]; exact q
theorem dec_int (m k : Nat) : decide ((m : Int) < (k : Int)) = decide (m < k) := by
  by_cases h : m < k
  · rw [decide_eq_true h, decide_eq_true]; omega
  · rw [decide_eq_false h, decide_eq_false]; omega
theorem dec_inte (m k : Nat) : decide ((m : Int) ≤ (k : Int)) = decide (m ≤ k) := by
  by_cases h : m ≤ k
  · rw [decide_eq_true h, decide_eq_true]; omega
  · rw [decide_eq_false h, decide_eq_false]; omega
theorem oN_lt : OpR X (compareOp .Lt) (rN fun n m => .bl (decide (n < m))) := by
  intro pins s σ H x y v u Q I rx ry h
  obtain ⟨n, m, rfl, rfl, q⟩ := h
  refine op_lt pins s σ H _ _ v u Q I rx ry ⟨_, _, rfl, rfl, ?_⟩
  show Q (.bl (decide ((n : Int) < m))) H
  rw [dec_int]; exact q
theorem oN_le : OpR X (compareOp .LtE) (rN fun n m => .bl (decide (n ≤ m))) := by
  intro pins s σ H x y v u Q I rx ry h
  obtain ⟨n, m, rfl, rfl, q⟩ := h
  refine op_le pins s σ H _ _ v u Q I rx ry ⟨_, _, rfl, rfl, ?_⟩
  show Q (.bl (decide ((n : Int) ≤ m))) H
  rw [dec_inte]; exact q
theorem oN_gt : OpR X (compareOp .Gt) (rN fun n m => .bl (decide (m < n))) := by
  intro pins s σ H x y v u Q I rx ry h
  obtain ⟨n, m, rfl, rfl, q⟩ := h
  refine op_gt pins s σ H _ _ v u Q I rx ry ⟨_, _, rfl, rfl, ?_⟩
  show Q (.bl (decide ((m : Int) < n))) H
  rw [dec_int]; exact q
theorem oN_ge : OpR X (compareOp .GtE) (rN fun n m => .bl (decide (m ≤ n))) := by
  intro pins s σ H x y v u Q I rx ry h
  obtain ⟨n, m, rfl, rfl, q⟩ := h
  refine op_ge pins s σ H _ _ v u Q I rx ry ⟨_, _, rfl, rfl, ?_⟩
  show Q (.bl (decide ((m : Int) ≤ n))) H
  rw [dec_inte]; exact q
theorem oN_eq : OpR X (compareOp .Eq) (rN fun n m => .bl (decide (n = m))) := by
  intro pins s σ H x y v u Q I rx ry h
  obtain ⟨n, m, rfl, rfl, q⟩ := h
  refine op_eq pins s σ H _ _ v u Q I rx ry ⟨rfl, ?_⟩
  rw [dec_nV]; exact q
theorem oN_ne : OpR X (compareOp .NotEq) (rN fun n m => .bl (!decide (n = m))) := by
  intro pins s σ H x y v u Q I rx ry h
  obtain ⟨n, m, rfl, rfl, q⟩ := h
  refine op_ne pins s σ H _ _ v u Q I rx ry ⟨rfl, ?_⟩
  rw [dec_nV]; exact q
/-- range(n) -/
def iRngN (ta : TA) : TI := fun σ H R => ta σ H fun vs H1 => ∃ n : Nat, vs = [nV n] ∧ n ≤ 1000000000 ∧ R (Itr 0 n) H1
theorem pi_rngN {tg a : Expr} {ta : TA} {p pos : Pos} (hg : Gl X "range") (hm : X.mg "range" = none) (ha : PA X [a] ta) (hs : starEach [a] X.env = [(false, eval a X.env)] := by rfl) : PI X tg (.Call (.Name "range" p) [a] [] pos) (iRngN ta) := by
  refine ⟨fun pins s σ H R I h => ?_⟩
  refine PyProof.Rows.Call_ (ld_blt I hg hm PyProof.Rows.boot_range (PyProof.Rows.callWith_type1 (thn (ha.run pos pins s σ H _ I h) fun us s1 ⟨vs, H1, I1, r1, q1⟩ => ?_) hs rfl))
  obtain ⟨n, e, hn, q⟩ := q1
  subst e
  cases r1 with
  | cons r rr =>
    cases rr
    obtain ⟨t, rfl⟩ := r
    exact PySem.call_range_1 (range_it I1 (by omega) (by omega) (by omega) (by omega) (by simpa using q))
end
theorem for_rng {n : Nat} {g : TG} {tb : TS} {D : Ends} {σ : St} {H : Hp} (Pv : Nat → St → Hp → Prop) (h0 : Pv 0 σ H)
    (hs : ∀ i σ H, i < n → Pv i σ H → g (nV i) σ H fun σ2 H2 => tb { D with nx := Pv (i + 1), ct := Pv (i + 1), bk := D.nx } σ2 H2) (hd : ∀ σ H, Pv n σ H → D.nx σ H) :
    ∃ W : Nat → Nat → St → Hp → Prop, (∃ m, W 0 m σ H) ∧ ∀ i m σ H, W i m σ H →
      ((Itr 0 n).stop i H ∧ D.nx σ H) ∨ ((Itr 0 n).go i H ∧ ∃ N : St → Hp → Prop, (∀ σ' H', N σ' H' → ∃ m', m' < m ∧ W (i + 1) m' σ' H') ∧ ∀ x H', (Itr 0 n).yld i H x H' → g x σ H' fun σ2 H2 => tb { D with nx := N, ct := N, bk := D.nx } σ2 H2) := by
  refine for_range Pv h0 (fun i σ H hi p => ?_) hd
  have e : V.int (0 + (i : Int)) = nV i := by simp
  rw [e]
  exact hs i σ H hi p
/-! ### more of cells -/
theorem mem_fps_app {cs cs' : List Cell} {a : Addr} : a ∈ fps (cs ++ cs') ↔ a ∈ fps cs ∨ a ∈ fps cs' := by
  unfold fps; rw [List.flatMap_append, List.mem_append]
theorem fps_cons (c : Cell) (cs : List Cell) : fps (c :: cs) = c.fp ++ fps cs := rfl
/-- no list within the data of a cell -/
def Cell.flat : Cell → Bool
  | .L _ ds => noLs ds
  | .LL _ rs => rs.all fun r => noLs r.2
  | .DK _ _ => true
theorem Cell.ok.widen {H : Hp} {Z Z' : List Addr} {c : Cell} (h : c.ok H Z) (hf : c.flat = true) (z : ∀ a ∈ Z', ∀ xs, H a ≠ some (.tup xs)) : c.ok H Z' := by
  cases c with
  | L l ds =>
    obtain ⟨xs, h1, h2⟩ := h
    exact ⟨xs, h1, ims_widen z ds xs hf h2⟩
  | LL l rs =>
    obtain ⟨h1, h2⟩ := h
    refine ⟨h1, fun r hr => ?_⟩
    obtain ⟨xs, e, i⟩ := h2 r hr
    exact ⟨xs, e, ims_widen z r.2 xs (List.all_eq_true.mp hf r hr) i⟩
  | DK l kvs => exact h
section
variable {H0 H H' : Hp} {cs cs' : List Cell} {ims ims' : List (PyData × V)}
/-- what a called def has made stands beside what stood -/
theorem Wd.join (w : Wd H0 H cs ims) (w' : Wd H H' cs' ims') (hf : ∀ c ∈ cs', c.flat = true) : Wd H0 H' (cs' ++ cs) ims := by
  have d : ∀ a ∈ fps cs', a ∉ fps cs := fun a ha q => by
    obtain ⟨o, e⟩ := (w.notTup a q).1
    rw [w'.new a ha] at e; cases e
  have k : Keep (fps cs) H H' := fun a o _ e => w'.same a o e
  have z : ∀ a o, a ∉ fps cs → H a = some o → a ∉ fps (cs' ++ cs) := fun a o h e q => by
    rcases mem_fps_app.mp q with q | q
    · rw [w'.new a q] at e; cases e
    · exact h q
  have nt : ∀ a ∈ fps (cs' ++ cs), ∀ xs, H' a ≠ some (.tup xs) := fun a ha xs e => by
    rcases mem_fps_app.mp ha with q | q
    · exact (w'.notTup a q).2 xs e
    · obtain ⟨⟨o, e1⟩, e2⟩ := w.notTup a q
      rw [w'.same a o e1] at e
      cases e
      exact e2 xs e1
  refine ⟨w.same.trans w'.same, fun a ha => ?_, ?_, fun c hc => ?_, fun p hp => (w.im p hp).keep k z⟩
  · rcases mem_fps_app.mp ha with q | q
    · exact w.same.free (w'.new a q)
    · exact w.new a q
  · unfold fps; rw [List.flatMap_append]
    exact List.nodup_append.mpr ⟨w'.nd, w.nd, fun a ha b hb e => d a ha (by rw [e]; exact hb)⟩
  · rcases List.mem_append.mp hc with q | q
    · exact (w'.ok c q).widen (hf c q) nt
    · exact (w.ok c q).keep k z fun a _ o e => w'.same a o e
theorem Wd.join1 (w : Wd H0 H cs ims) {c : Cell} (w' : Wd H H' [c] ims') (hf : c.flat = true) : Wd H0 H' (c :: cs) ims := w.join w' (by simpa using hf)
/-- a row of a list of lists -/
theorem Wd.row (w : Wd H0 H cs ims) (i : Nat) {l : Addr} {rs : List (Addr × List PyData)} {a : Nat} {r : Addr × List PyData} (e : cs[i]? = some (.LL l rs)) (er : rs[a]? = some r) :
    H l = some (.lst (rs.map fun r => V.ref r.1)) ∧ (rs.map fun r => V.ref r.1)[a]? = some (.ref r.1) ∧ ∃ xs, H r.1 = some (.lst xs) ∧ ImAll H (fps cs) r.2 xs := by
  obtain ⟨h1, h2⟩ := w.cell i e
  exact ⟨h1, by rw [List.getElem?_map, er]; rfl, h2 r (List.mem_of_getElem? er)⟩
theorem Wd.turnRow (w : Wd H0 H cs ims) (i : Nat) {l : Addr} {rs : List (Addr × List PyData)} {a : Nat} {r : Addr × List PyData} {ds' : List PyData} {xs' : List V} (e : cs[i]? = some (.LL l rs)) (er : rs[a]? = some r) (h : ImAll H (fps cs) ds' xs') :
    Wd H0 (upd H r.1 (.lst xs')) (cs.set i (.LL l (rs.set a (r.1, ds')))) ims := by
  obtain ⟨h1, h2⟩ := w.cell i e
  have hlt : a < rs.length := (List.getElem?_eq_some_iff.mp er).1
  have hr : r.1 ∈ (Cell.LL l rs).fp := by
    show r.1 ∈ l :: rs.map (·.1)
    exact List.mem_cons_of_mem _ (List.mem_map.mpr ⟨r, List.mem_of_getElem? er, rfl⟩)
  have hl : r.1 ∈ fps cs := List.mem_flatMap.mpr ⟨_, List.mem_of_getElem? e, hr⟩
  have nd : (l :: rs.map (·.1)).Nodup := by
    have q := w.nd
    unfold fps at q
    have key : ∀ (cs : List Cell) (i : Nat) (c : Cell), cs[i]? = some c → (cs.flatMap Cell.fp).Nodup → c.fp.Nodup := by
      intro cs
      induction cs with
      | nil => intro i c h; simp at h
      | cons a t ih =>
        intro i c h n
        rw [List.flatMap_cons] at n
        cases i with
        | zero => simp at h; subst h; exact (List.nodup_append.mp n).1
        | succ i => exact ih i c (by simpa using h) (List.nodup_append.mp n).2.1
    exact key cs i _ e q
  have nel : l ≠ r.1 := fun q => (List.nodup_cons.mp nd).1 (by rw [q]; exact List.mem_map.mpr ⟨r, List.mem_of_getElem? er, rfl⟩)
  have em : (rs.set a (r.1, ds')).map (·.1) = rs.map (·.1) := by
    rw [List.map_set]
    apply List.ext_getElem?
    intro j
    by_cases hj : j = a
    · subst hj
      rw [List.getElem?_set_self (by simpa using hlt), List.getElem?_map, er]; rfl
    · rw [List.getElem?_set_ne (Ne.symm hj)]
  refine w.turn i e hr (by show l :: _ = l :: _; rw [em]) ⟨?_, fun r' hr' => ?_⟩
  · rw [upd_ne nel]
    have : (rs.set a (r.1, ds')).map (fun r => V.ref r.1) = rs.map (fun r => V.ref r.1) := by
      have := congrArg (List.map V.ref) em
      simpa [List.map_map, Function.comp_def] using this
    rw [this]; exact h1
  · obtain ⟨j, hj⟩ := List.getElem?_of_mem hr'
    by_cases hja : j = a
    · subst hja
      rw [List.getElem?_set_self hlt] at hj
      cases hj
      exact ⟨xs', upd_same, w.keepL hl h⟩
    · rw [List.getElem?_set_ne (Ne.symm hja)] at hj
      obtain ⟨xs, e1, i1⟩ := h2 r' (List.mem_of_getElem? hj)
      refine ⟨xs, ?_, w.keepL hl i1⟩
      rw [upd_ne ?_]; exact e1
      intro q
      have n2 := (List.nodup_cons.mp nd).2
      have g1 : (rs.map (·.1))[j]? = some r.1 := by rw [List.getElem?_map, hj]; exact congrArg some q
      have g2 : (rs.map (·.1))[a]? = some r.1 := by rw [List.getElem?_map, er]; rfl
      obtain ⟨p1, p2⟩ := List.getElem?_eq_some_iff.mp g1
      obtain ⟨p3, p4⟩ := List.getElem?_eq_some_iff.mp g2
      exact hja ((List.getElem_inj n2).mp (p2.trans p4.symm))
/-- a list goes into a list of lists -/
theorem Wd.absorb {l r : Addr} {rs : List (Addr × List PyData)} {ds : List PyData} (w : Wd H0 H (.L r ds :: .LL l rs :: cs) ims) : Wd H0 (upd H l (.lst ((rs.map fun r => V.ref r.1) ++ [.ref r]))) (.LL l (rs ++ [(r, ds)]) :: cs) ims := by
  obtain ⟨xs, e1, i1⟩ := w.list 0
  obtain ⟨e2, i2⟩ := w.cell 1 (c := .LL l rs) rfl
  have fe : fps (.L r ds :: .LL l rs :: cs) = r :: l :: (rs.map (·.1) ++ fps cs) := rfl
  have fe' : fps (.LL l (rs ++ [(r, ds)]) :: cs) = l :: ((rs ++ [(r, ds)]).map (·.1) ++ fps cs) := rfl
  have mem : ∀ a, a ∈ fps (.LL l (rs ++ [(r, ds)]) :: cs) ↔ a ∈ fps (.L r ds :: .LL l rs :: cs) := fun a => by
    rw [fe, fe']; simp; grind
  have nd := w.nd
  rw [fe] at nd
  have hlr : l ≠ r := fun q => by subst q; simp at nd
  have hl : l ∈ fps (.L r ds :: .LL l rs :: cs) := by rw [fe]; simp
  have k : Keep (fps (.L r ds :: .LL l rs :: cs)) H (upd H l (.lst ((rs.map fun r => V.ref r.1) ++ [.ref r]))) := fun a o h e => by
    rw [upd_ne (fun q => by subst q; exact h hl)]; exact e
  have z : ∀ a o, a ∉ fps (.L r ds :: .LL l rs :: cs) → H a = some o → a ∉ fps (.LL l (rs ++ [(r, ds)]) :: cs) := fun a o h _ q => h ((mem a).mp q)
  refine ⟨fun a o e => ?_, fun a h => w.new a ((mem a).mp h), ?_, fun c hc => ?_, fun p hp => (w.im p hp).keep k z⟩
  · rw [upd_ne (ne_of_none e (w.new l hl))]; exact w.same a o e
  · rw [fe']
    have : (l :: ((rs ++ [(r, ds)]).map (·.1) ++ fps cs)).Perm (r :: l :: (rs.map (·.1) ++ fps cs)) := by
      rw [List.map_append, List.append_assoc]
      refine (List.Perm.cons l ?_).trans (List.Perm.swap r l _)
      exact List.perm_middle
    exact this.nodup_iff.mpr nd
  · rcases List.mem_cons.mp hc with rfl | hc2
    · refine ⟨?_, fun r' hr' => ?_⟩
      · rw [upd_same]; simp
      · rcases List.mem_append.mp hr' with q | q
        · obtain ⟨ys, e3, i3⟩ := i2 r' q
          have : r'.1 ≠ l := fun h => by
            simp only [List.nodup_cons, List.mem_append] at nd
            exact nd.2.1 (.inl (by rw [← h]; exact List.mem_map.mpr ⟨r', q, rfl⟩))
          exact ⟨ys, by rw [upd_ne this]; exact e3, i3.keep k z⟩
        · have q : r' = (r, ds) := by simpa using q
          subst q
          exact ⟨xs, by rw [upd_ne (Ne.symm hlr)]; exact e1, i1.keep k z⟩
    · refine (w.ok c (List.mem_cons_of_mem _ (List.mem_cons_of_mem _ hc2))).keep k z fun a ha o e => ?_
      have hne : a ≠ l := fun q => by
        simp only [List.nodup_cons, List.mem_append] at nd
        exact nd.2.1 (.inr (by rw [← q]; exact List.mem_flatMap.mpr ⟨c, hc2, ha⟩))
      rw [upd_ne hne]; exact e
theorem Wd.pushLL (w : Wd H0 H cs ims) {p : Addr} (hp : H p = none) : Wd H0 (upd H p (.lst [])) (.LL p [] :: cs) ims := w.push hp rfl ⟨upd_same, fun r hr => by simp at hr⟩
end
section
variable {H0 H1 : Hp} {cs : List Cell} {ims : List (PyData × V)} {te : TE} {j : Nat} {σ : St} {D : Addr} {Qd : Hp → Prop}
/-- [ [..] for x in range(n)] -/
theorem lc_rangeLL (f : Nat → List PyData) {n : Nat} (w : Wd H0 H1 cs ims) (hD : H1 D = none) (hn : n ≤ 1000000)
    (hs : ∀ i H rs, i < n → Wd H0 H (.LL D rs :: cs) ims → ∀ Qt : V → Hp → Prop, (∀ r H4, Wd H0 H4 (.L r (f i) :: .LL D rs :: cs) ims → Qt (.ref r) H4) → te ((wipe σ [j]).set j (some (nV i))) H Qt)
    (hd : ∀ H rs, rs.map (·.2) = (List.range n).map f → Wd H0 H (.LL D rs :: cs) ims → Qd H) :
    ∃ W : Nat → Nat → Hp → Prop, (∃ m, W 0 m (upd H1 D (.lst []))) ∧ ∀ i m H, W i m H →
      ((Itr 0 n).stop i H ∧ Qd H) ∨ ((Itr 0 n).go i H ∧ ∃ Nx : Hp → Prop, (∀ H', Nx H' → ∃ m', m' < m ∧ W (i + 1) m' H') ∧ ∀ x H', (Itr 0 n).yld i H x H' → gName j x (wipe σ [j]) H' fun σ2 H2 => wipe σ2 [j] = wipe σ [j] ∧ tYes σ2 H2 fun b H3 =>
        if b = true then te σ2 H3 fun y H4 => ∃ acc, H4 D = some (.lst acc) ∧ acc.length < sizeLine ∧ Nx (upd H4 D (.lst (acc ++ [y]))) else Nx H3) := by
  refine lc_range (fun i H => ∃ rs, rs.map (·.2) = (List.range i).map f ∧ Wd H0 H (.LL D rs :: cs) ims) ⟨[], rfl, w.pushLL hD⟩ (fun i H hi ⟨rs, e, w⟩ => ?_) (fun H ⟨rs, e, w⟩ => hd H rs e w)
  refine ⟨wipe_set _ _ _, ?_⟩
  have en : V.int (0 + (i : Int)) = nV i := by simp
  rw [en, tYes, if_pos rfl]
  refine hs i H rs hi w _ fun r H4 w4 => ?_
  have hl : rs.length = i := by have := congrArg List.length e; simpa using this
  refine ⟨_, (w4.cell 1 (c := .LL D rs) rfl).1, by rw [List.length_map, hl]; exact sl_small (by omega), rs ++ [(r, f i)], ?_, w4.absorb⟩
  rw [List.map_append, e, map_range_succ]; rfl
end
/-! ### rules with the written part named: for use within comprehensions -/
section
variable {X : Cx} {K : PySem.W.Frag}
theorem ixL (h : X.K = K) : IxR X (rIxL K) := by subst h; exact ix_list
theorem lenS (h : X.K = K) : CallR X (.builtin "len") (fun xs H Q => ∃ p ys, xs = [.ref p] ∧ (SqL K H p ys ∨ SqT K H p ys) ∧ Q (nV ys.length) H) := by subst h; exact call_len_seq
theorem tupOf (h : X.K = K) : CallR X (.type "tuple") (fun xs H Q => ∃ p ys, xs = [.ref p] ∧ ((SqL K H p ys ∧ ∀ l, H l = none → Q (.ref l) (upd H l (.tup ys))) ∨ (SqT K H p ys ∧ Q (.ref p) H))) := by subst h; exact call_tuple_of
theorem eqD (h : X.K = K) (hu : X.A.units + 64 < cLine) : OpR X (compareOp .Eq) (rEqD K) := by subst h; exact op_eqD hu
theorem neD (h : X.K = K) (hu : X.A.units + 64 < cLine) : OpR X (compareOp .NotEq) (rNeD K) := by subst h; exact op_neD hu
theorem listOf (h : X.K = K) : CallR X (.type "list") (fun xs H Q => ∃ p ys, xs = [.ref p] ∧ (SqL K H p ys ∨ SqT K H p ys) ∧ ∀ l, H l = none → Q (.ref l) (upd H l (.lst ys))) := by subst h; exact call_list_of
end
/-! ### pairs as targets -/
theorem ixNn {n j : Nat} (hj : j < n) : ixN n (j : Int) = some j := by
  unfold ixN
  rw [if_pos (by omega), if_pos (by omega)]
  simp
theorem wipe2_set (σ : St) {j k : Nat} (x y : Option V) : wipe (((wipe σ [j, k]).set j x).set k y) [j, k] = wipe σ [j, k] := by
  show (((((σ.set k none).set j none).set j x).set k y).set k none).set j none = (σ.set k none).set j none
  rw [List.set_set, List.set_set]
  by_cases h : j = k
  · subst h; simp
  · rw [List.set_comm _ _ h, List.set_set, List.set_set]
section
variable {H0 H1 : Hp} {cs : List Cell} {ims : List (PyData × V)} {tt : TT} {te : TE} {j k : Nat} {σ : St} {D : Addr} {Qd : Hp → Prop}
/-- [.. for c, d in pairs if ..], the pairs a list cell -/
theorem lc_listW2 {K : PySem.W.Frag} {a : Addr} (u v : Nat → PyData) (n : Nat) (g : Nat → List PyData) (i0 : Nat) (w : Wd H0 H1 cs ims) (hD : H1 D = none) (ha : cs[i0]? = some (.L a ((List.range n).map fun i => .tuple [u i, v i]))) (h0 : g 0 = []) (hl : ∀ i, i < n → (g i).length < sizeLine)
    (hs : ∀ i x y H, i < n → Im H (fps (.L D (g i) :: cs)) (u i) x → Im H (fps (.L D (g i) :: cs)) (v i) y → Wd H0 H (.L D (g i) :: cs) ims → CompTurn H0 cs ims tt te D g i (((wipe σ [j, k]).set j (some x)).set k (some y)) H) (hd : ∀ H, Wd H0 H (.L D (g n) :: cs) ims → Qd H) :
    ∃ W : Nat → Nat → Hp → Prop, (∃ m, W 0 m (upd H1 D (.lst []))) ∧ ∀ i m H, W i m H →
      ((Itl K a).stop i H ∧ Qd H) ∨ ((Itl K a).go i H ∧ ∃ Nx : Hp → Prop, (∀ H', Nx H' → ∃ m', m' < m ∧ W (i + 1) m' H') ∧ ∀ x H', (Itl K a).yld i H x H' → gTup K 2 (gCons (gName j) (gCons (gName k) gNil)) x (wipe σ [j, k]) H' fun σ2 H2 => wipe σ2 [j, k] = wipe σ [j, k] ∧ tt σ2 H2 fun b H3 =>
        if b = true then te σ2 H3 fun y H4 => ∃ acc, H4 D = some (.lst acc) ∧ acc.length < sizeLine ∧ Nx (upd H4 D (.lst (acc ++ [y]))) else Nx H3) := by
  obtain ⟨xs, ex, ix⟩ := w.list i0 ha
  have hxl : xs.length = n := by rw [ix.length]; simp
  have w1 : Wd H0 (upd H1 D (.lst [])) (.L D (g 0) :: cs) ims := by rw [h0]; exact w.pushL hD ImAll.nil
  have hL : ∀ i H, Wd H0 H (.L D (g i) :: cs) ims → ∃ xs, H a = some (.lst xs) ∧ ImAll H (fps (.L D (g i) :: cs)) ((List.range n).map fun i => .tuple [u i, v i]) xs := fun i H w => w.list (i0 + 1) (by simpa using ha)
  refine ⟨fun i m H => m = n - i ∧ i ≤ n ∧ Wd H0 H (.L D (g i) :: cs) ims, ⟨n, by simp, Nat.zero_le _, w1⟩, ?_⟩
  rintro i m H ⟨rfl, hi, p⟩
  obtain ⟨ys, ey, iy⟩ := hL i H p
  have hyl : ys.length = n := by rw [iy.length]; simp
  by_cases hlt : i < n
  · refine .inr ⟨⟨ys, ys[i], SqL.of ey, by simp [hyl, hlt]⟩, fun H => Wd H0 H (.L D (g (i + 1)) :: cs) ims, fun H' p' => ⟨n - (i + 1), by omega, rfl, hlt, p'⟩, fun x H' y => ?_⟩
    obtain ⟨e, y⟩ := y
    subst e
    have yi := y ys (SqL.of ey)
    obtain ⟨d, ed, im⟩ := iy.getX yi
    rw [List.getElem?_map, List.getElem?_range hlt] at ed
    cases ed
    obtain ⟨p1, zs, rfl, ez, nz, x1, r1, rfl, m1, x2, r2, rfl, m2, rfl⟩ := im
    refine ⟨p1, [x1, x2], rfl, SqT.of ez, rfl, x1, [x2], rfl, x2, [], rfl, rfl, wipe2_set _ _ _, ?_⟩
    exact (hs i x1 x2 H' hlt m1 m2 p).use (hl i hlt)
  · have e : i = n := by omega
    subst e
    exact .inl ⟨⟨ys, SqL.of ey, by omega⟩, hd H p⟩
end
/-! ### readings laid open, one step -/
section
variable {te ta tb : TE} {g : TG} {u v t : TS} {c : TT} {D : Ends} {σ : St} {H : Hp} {Q : VK} {r : R2}
theorem sq_asg (h : te σ H fun x H1 => g x σ H1 (u D)) : tSeq (tAsg te g) u D σ H := h
theorem at_asg (h : te σ H fun x H1 => g x σ H1 D.nx) : tAsg te g D σ H := h
theorem sq_drop (h : te σ H fun _ H1 => u D σ H1) : tSeq (tDrop te) u D σ H := h
theorem at_drop (h : te σ H fun _ H1 => D.nx σ H1) : tDrop te D σ H := h
theorem at_ret (h : te σ H D.rt) : tRet te D σ H := h
theorem sq_if (h : c σ H fun b H1 => if b = true then t { D with nx := v D } σ H1 else u { D with nx := v D } σ H1) : tSeq (tIfS c t u) v D σ H := h
theorem at_if (h : c σ H fun b H1 => if b = true then t D σ H1 else u D σ H1) : tIfS c t u D σ H := h
theorem x_op (h : ta σ H fun x H1 => tb σ H1 fun y H2 => r x y H2 Q) : tOp r ta tb σ H Q := h
theorem x_test {Q : Bool → Hp → Prop} (h : te σ H fun x H1 => ∃ k, x = .bl k ∧ Q k H1) : tTest te σ H Q := h
theorem x_b {Q : Bool → Hp → Prop} (h : te σ H fun x H1 => ∃ k, x = .bl k ∧ Q k H1) : tB te σ H Q := h
theorem x_not {Q : Bool → Hp → Prop} (h : c σ H fun b H1 => Q (!b) H1) : tNot c σ H Q := h
theorem x_and {d : TT} {Q : Bool → Hp → Prop} (h : c σ H fun b H1 => if b = true then d σ H1 Q else Q false H1) : tAnd c d σ H Q := h
theorem x_or {d : TT} {Q : Bool → Hp → Prop} (h : c σ H fun b H1 => if b = true then Q true H1 else d σ H1 Q) : tOr c d σ H Q := h
theorem x_cb {r : List V → Hp → VK → Prop} {t : TA} (h : t σ H fun vs H1 => r vs H1 Q) : tCB r t σ H Q := h
theorem x_call {sp : Sp} {E : XK} {t : TA} (h : t σ H fun vs H1 => sp (vs ++ []) H1 Q E) : tCall sp [] E t σ H Q := h
theorem x_cons {t : TA} {Q : List V → Hp → Prop} (h : ta σ H fun x H1 => t σ H1 fun xs H2 => Q (x :: xs) H2) : tCons ta t σ H Q := h
theorem x_nil {Q : List V → Hp → Prop} (h : Q [] H) : tNil σ H Q := h
theorem x_var {i : Nat} {x : V} (h : Q x H) (e : σ[i]? = some (some x) := by rfl) : tVar i σ H Q := ⟨x, e, h⟩
theorem x_c {x : V} (h : Q x H) : tC x σ H Q := h
theorem x_tup {t : TA} (h : t σ H fun xs H1 => xs.length ≤ sizeLine ∧ ∀ p, H1 p = none → Q (.ref p) (upd H1 p (.tup xs))) : tTup t σ H Q := h
theorem x_lst {t : TA} (h : t σ H fun xs H1 => xs.length ≤ sizeLine ∧ ∀ p, H1 p = none → Q (.ref p) (upd H1 p (.lst xs))) : tLst t σ H Q := h
theorem x_lcw {wi : TI} {tt : TT} {vs : List Nat} (h : wi σ H fun J H1 => ∀ D, H1 D = none → ∃ W : Nat → Nat → Hp → Prop, (∃ m, W 0 m (upd H1 D (.lst []))) ∧ ∀ i m H, W i m H →
  (J.stop i H ∧ Q (.ref D) H) ∨ (J.go i H ∧ ∃ Nx : Hp → Prop, (∀ H', Nx H' → ∃ m', m' < m ∧ W (i + 1) m' H') ∧ ∀ x H', J.yld i H x H' → g x (wipe σ vs) H' fun σ2 H2 => wipe σ2 vs = wipe σ vs ∧ tt σ2 H2 fun b H3 =>
    if b = true then te σ2 H3 fun y H4 => ∃ acc, H4 D = some (.lst acc) ∧ acc.length < sizeLine ∧ Nx (upd H4 D (.lst (acc ++ [y]))) else Nx H3)) : tLc wi g tt te vs σ H Q := h
theorem x_rng {t : TA} {R : It → Hp → Prop} (h : t σ H fun vs H1 => ∃ n : Nat, vs = [nV n] ∧ n ≤ 1000000000 ∧ R (Itr 0 n) H1) : iRngN t σ H R := h
theorem x_itup {K : PySem.W.Frag} {R : It → Hp → Prop} (h : te σ H fun x H1 => ∃ a, x = .ref a ∧ (∃ xs, SqT K H1 a xs) ∧ R (Itt K a) H1) : iTup K te σ H R := h
theorem x_ilst {K : PySem.W.Frag} {R : It → Hp → Prop} (h : te σ H fun x H1 => ∃ a, x = .ref a ∧ (∃ xs, SqL K H1 a xs) ∧ R (Itl K a) H1) : iList K te σ H R := h
theorem sq_for {wi : TI} (h : wi σ H fun J H1 => ∃ W : Nat → Nat → St → Hp → Prop, (∃ m, W 0 m σ H1) ∧ ∀ i m σ H, W i m σ H → (J.stop i H ∧ u D σ H) ∨ (J.go i H ∧ ∃ N : St → Hp → Prop, (∀ σ' H', N σ' H' → ∃ m', m' < m ∧ W (i + 1) m' σ' H') ∧ ∀ x H', J.yld i H x H' → g x σ H' fun σ2 H2 => t { D with nx := N, ct := N, bk := u D } σ2 H2)) : tSeq (tFor wi g t) u D σ H := h
theorem at_for {wi : TI} (h : wi σ H fun J H1 => ∃ W : Nat → Nat → St → Hp → Prop, (∃ m, W 0 m σ H1) ∧ ∀ i m σ H, W i m σ H → (J.stop i H ∧ D.nx σ H) ∨ (J.go i H ∧ ∃ N : St → Hp → Prop, (∀ σ' H', N σ' H' → ∃ m', m' < m ∧ W (i + 1) m' σ' H') ∧ ∀ x H', J.yld i H x H' → g x σ H' fun σ2 H2 => t { D with nx := N, ct := N, bk := D.nx } σ2 H2)) : tFor wi g t D σ H := h
end
/-! ### the refusals' classes -/
abbrev veTail : List Value := [.type "ValueError", .type "Exception", .type "BaseException", .type "object"]
/-- an own error's class stands at C, under the name x -/
structure XCls (K : PySem.W.Frag) (mg : Str → Option Value) (x : Str) (C : Addr) : Prop where
  g : mg x = some (.ref C)
  e : PySem.W.excIn K C veTail "ValueError.__new__" = true
  k : PySem.W.keepIn K (.ref C) = true
  b : PySem.W.subIn K (.ref C) (.type "BaseException") = some true
  t : PySem.W.typeIn K (.ref C) = some (.type "type")
section
variable {X : Cx} {K : PySem.W.Frag} {mg : Str → Option Value} {C : Addr}
/-- X('..') -/
theorem XCls.mk1 {x m : Str} {j : Nat} {p p2 pos : Pos} (c : XCls X.K X.mg x C) (hg : Gl X x) (hd : (x == ("__debug__" : Str)) = false := by decide) : PMk X (.Call (.Name x p) [.Constant (.str m) j p2] [] pos) (fun _ H Q => Q (.ref C) none H) :=
  pmk_own PySem.F.excBase_ValueError c.e c.g c.k (raises_own c.b c.t) hg hd
theorem XCls.pe {x : Str} {pos : Pos} (c : XCls X.K X.mg x C) (hg : Gl X x) (hd : (x == ("__debug__" : Str)) = false := by decide) : PE X (.Name x pos) (tC (.ref C)) := pe_glob (v := .ref C) hg c.g rfl hd
/-- a call that may raise, what it raises leaves the def -/
theorem pe_fx {k k' : Nat} {x : Str} {ps : List Str} {sp : Sp} {e : Expr} {es : List Expr} {t : TA} {p pos : Pos} {E : XK} (Cc : Cal X.prog X.w X.K X.mg X.base (L2.CX X.prog X.w) k x ps sp) (hr : Room k' X.A) (hk : k ≤ k') (hg : Gl X x) (tk : Takes X fun cls d _ H => E cls d H) (ha : PA X (e :: es) t)
    (hd : (x == ("__debug__" : Str)) = false := by decide) (he : starEach (e :: es) X.env = (false, eval e X.env) :: starEach es X.env := by rfl) (hpl : (backTo pos (starEach es X.env)).any (·.1) = false := by rfl) : PE X (.Call (.Name x p) (e :: es) [] pos) (tCall sp [] E t) := by
  obtain ⟨f, fd, F, hm, hkp, hb⟩ := Cc.ex
  exact pe_call F (hr.mono hk) hg hm hkp hb .nil (passes_call tk fun _ _ _ _ h => h) ha hd he hpl
/-- a call that may raise, in a try -/
theorem pe_fs {k k' : Nat} {x : Str} {ps : List Str} {sp : Sp} {e : Expr} {es : List Expr} {t : TA} {p pos : Pos} {W : WX} (Cc : Cal X.prog X.w X.K X.mg X.base (L2.CX X.prog X.w) k x ps sp) (hr : Room k' X.A) (hk : k ≤ k') (hg : Gl X x) (tk : Takes X W) (ha : PA X (e :: es) t)
    (hd : (x == ("__debug__" : Str)) = false := by decide) (he : starEach (e :: es) X.env = (false, eval e X.env) :: starEach es X.env := by rfl) (hpl : (backTo pos (starEach es X.env)).any (·.1) = false := by rfl) : PE X (.Call (.Name x p) (e :: es) [] pos) (tCallS sp (WE W) t) := by
  obtain ⟨f, fd, F, hm, hkp, hb⟩ := Cc.ex
  exact pe_callS F (hr.mono hk) hg hm hkp hb (fun σ => passAt tk σ) ha hd he hpl
theorem x_callS {sp : Sp} {W : WX} {t : TA} {σ : St} {H : Hp} {Q : VK} (h : t σ H fun vs H1 => sp vs H1 Q (WE W σ)) : tCallS sp (WE W) t σ H Q := h
end

/-! ### isinstance by data -/
def tyN : PyData → String
  | .none => "NoneType"
  | .bool _ => "bool"
  | .int _ => "int"
  | .str _ => "str"
  | .list _ => "list"
  | .tuple _ => "tuple"
  | .dict _ => "dict"
/-- whether a built-in type is, or stands above, that of the data -/
def isT (d : PyData) (T : String) : Bool := T == tyN d || (T == "int" && tyN d == "bool")
theorem Im.ty {K : PySem.W.Frag} {H : Hp} {Z : List Addr} : ∀ {d : PyData} {x : V}, Im H Z d x → TyX K H x (.type (tyN d))
  | .none, x, h => by have h : x = .non := h; subst h; exact .base .non
  | .bool b, x, h => by have h : x = .bl b := h; subst h; exact .base (.bl b)
  | .int i, x, h => by have h : x = .int i := h; subst h; exact .base (.int i)
  | .str s, x, h => by have h : x = .str s := h; subst h; exact .base (.str s)
  | .list ds, x, h => by
    obtain ⟨a, xs, e, h1, _⟩ := h
    subst e; exact .base (.lst h1)
  | .tuple ds, x, h => by
    obtain ⟨a, xs, e, h1, _⟩ := h
    subst e; exact .base (.tup h1)
  | .dict _, x, h => by cases h
theorem kit_isT (d : PyData) (T : String) (hT : T = "int" ∨ T = "bool" ∨ T = "str" ∨ T = "tuple" ∨ T = "list") : kitB (tyN d) T = some (isT d T) := by
  rcases hT with rfl | rfl | rfl | rfl | rfl <;> cases d <;> dsimp only [tyN, isT] <;> decide +kernel
def rIsD (T : String) : List V → Hp → VK → Prop := fun xs H Q => ∃ (Z : List Addr) (d : PyData) (x : V), xs = [x, .ty T] ∧ Im H Z d x ∧ Q (.bl (isT d T)) H
theorem isD {X : Cx} {T : String} (hT : T = "int" ∨ T = "bool" ∨ T = "str" ∨ T = "tuple" ∨ T = "list") : CallR X (.builtin "isinstance") (rIsD T) := by
  intro pins s σ H xs us Q I r h
  obtain ⟨Z, d, x, rfl, im, q⟩ := h
  exact call_isi pins s σ H _ us Q I r ⟨x, .ty T, _, _, _, rfl, .ty T, im.ty, kit_ty (kit_isT d T hT), q⟩
/-! ### isinstance of a caught error -/
/-- what isinstance(e, ..) asks of the error's class; cls, d: what is known of the error that the suite holds at a -/
def rIsX (K : PySem.W.Frag) (cls : Value) (d : Option Addr) (a : Addr) : List V → Hp → VK → Prop := fun xs H Q => ∃ (D : Addr) (c : V) (cv : Value) (b : Bool), cls = .ref D ∧ d = none ∧ ExcC K D ∧ xs = [.ref a, c] ∧ ClsV c cv ∧ PySem.W.kitOne K (.ref D) cv = some b ∧ Q (.bl b) H
theorem isX {X : Cx} {a : Addr} {oe : Obj} {cls : Value} {d : Option Addr} {pn : List (Addr × Obj)} (hz : Zc cls d oe) (hf : ∃ vs, oe.data = .fields vs) : CallR (X.suite a ((a, oe) :: pn)) (.builtin "isinstance") (rIsX X.K cls d a) := by
  intro pins s σ H xs us Q I r h
  obtain ⟨D, c, cv, b, rfl, rfl, C, rfl, kc, e, q⟩ := h
  exact call_isE C hz hf pins s σ H _ us Q I r ⟨c, cv, b, rfl, fun u ru => kc.eq ru, e, q⟩

/-! ### texts -/
def tuneS (t : List Nat) : Str := ⟨(t.map (· + 97)).toArray⟩
theorem tuneS_len (t : List Nat) : (tuneS t).length = t.length := by simp [tuneS, Str.length]
theorem tuneS_cps (t : List Nat) : (tuneS t).cps.toList = t.map (· + 97) := rfl
/-- "abc".index(sign) -/
theorem mt_abc {X : Cx} : MtR X "str.index" (fun x xs H Q => ∃ c : Nat, x = .str "abc" ∧ xs = [.str ⟨#[c + 97]⟩] ∧ c < 3 ∧ Q (nV c) H) := by
  intro pins s σ H x xs v us Q I rx rs h
  obtain ⟨c, rfl, rfl, hc, q⟩ := h
  refine mt_sindex pins s σ H _ _ v us Q I rx rs ?_
  match c, hc with
  | 0, _ => exact ⟨_, _, 0, [], rfl, rfl, by decide +kernel, q⟩
  | 1, _ => exact ⟨_, _, 1, [], rfl, rfl, by decide +kernel, q⟩
  | 2, _ => exact ⟨_, _, 2, [], rfl, rfl, by decide +kernel, q⟩
/-- "abc"[c] -/
theorem ix_abc {X : Cx} : IxR X (fun x y H Q => ∃ c : Nat, x = .str "abc" ∧ y = nV c ∧ c < 3 ∧ Q (.str ⟨#[c + 97]⟩) H) := by
  have base := ix_str (X := X)
  intro value slice pins s σ H x y v u Q I rx ry h hs
  obtain ⟨c, rfl, rfl, hc, q⟩ := h
  refine base value slice pins s σ H _ _ v u Q I rx ry ?_ hs
  match c, hc with
  | 0, _ => exact ⟨_, _, 97, rfl, rfl, by decide +kernel, by decide +kernel, q⟩
  | 1, _ => exact ⟨_, _, 98, rfl, rfl, by decide +kernel, by decide +kernel, q⟩
  | 2, _ => exact ⟨_, _, 99, rfl, rfl, by decide +kernel, by decide +kernel, q⟩
/-- "abc"[:w] -/
theorem sl_abc {X : Cx} : SlR X (fun x lo hi H Q => ∃ w : Nat, x = .str "abc" ∧ lo = none ∧ hi = some (w : Int) ∧ w ≤ 3 ∧ Q (.str (tuneS (List.range w))) H) := by
  have base := sl_str (X := X)
  intro pins s σ H x v vl vu lo hi sl Q I rx hs pl pu h
  obtain ⟨w, rfl, rfl, rfl, hw, q⟩ := h
  refine base pins s σ H _ v vl vu _ _ sl Q I rx hs pl pu ⟨_, rfl, by decide +kernel, ?_⟩
  match w, hw with
  | 0, _ => exact q
  | 1, _ => exact q
  | 2, _ => exact q
  | 3, _ => exact q
/-- for sign in text -/
theorem for_str {x : Str} {g : TG} {tb : TS} {D : Ends} {σ : St} {H : Hp} (Pv : Nat → St → Hp → Prop) (h0 : Pv 0 σ H)
    (hs : ∀ i c σ H, x.cps.toList[i]? = some c → Pv i σ H → g (.str ⟨#[c]⟩) σ H fun σ2 H2 => tb { D with nx := Pv (i + 1), ct := Pv (i + 1), bk := D.nx } σ2 H2) (hd : ∀ σ H, Pv x.cps.toList.length σ H → D.nx σ H) :
    ∃ W : Nat → Nat → St → Hp → Prop, (∃ m, W 0 m σ H) ∧ ∀ i m σ H, W i m σ H →
      ((Its x).stop i H ∧ D.nx σ H) ∨ ((Its x).go i H ∧ ∃ N : St → Hp → Prop, (∀ σ' H', N σ' H' → ∃ m', m' < m ∧ W (i + 1) m' σ' H') ∧ ∀ v H', (Its x).yld i H v H' → g v σ H' fun σ2 H2 => tb { D with nx := N, ct := N, bk := D.nx } σ2 H2) := by
  have el : x.cps.toList.length = x.cps.size := by simp
  rw [el] at hd
  refine ⟨fun i m σ H => m = x.cps.size - i ∧ i ≤ x.cps.size ∧ Pv i σ H, ⟨_, rfl, Nat.zero_le _, h0⟩, ?_⟩
  rintro i m σ H ⟨rfl, hi, p⟩
  by_cases hlt : i < x.cps.size
  · refine .inr ⟨hlt, Pv (i + 1), fun σ' H' p' => ⟨x.cps.size - (i + 1), by omega, rfl, hlt, p'⟩, fun v H' y => ?_⟩
    obtain ⟨e, c, ec, ev⟩ := y
    subst e ev
    exact hs i c σ _ (by simpa using ec) p
  · have e : i = x.cps.size := by omega
    subst e
    exact .inl ⟨Nat.le_refl _, hd σ H p⟩
theorem x_istr {te : TE} {σ : St} {H : Hp} {R : It → Hp → Prop} (h : te σ H fun v H1 => ∃ x, v = .str x ∧ R (Its x) H1) : iStr te σ H R := h
/-- a call of a def that may raise, where it does not -/
theorem pe_f0 {X : Cx} {k k' : Nat} {x : Str} {ps : List Str} {sp : Sp} {e : Expr} {es : List Expr} {t : TA} {p pos : Pos} (Cc : Cal X.prog X.w X.K X.mg X.base (L2.CX X.prog X.w) k x ps sp) (hr : Room k' X.A) (hk : k ≤ k') (hg : Gl X x) (ha : PA X (e :: es) t)
    (hd : (x == ("__debug__" : Str)) = false := by decide) (he : starEach (e :: es) X.env = (false, eval e X.env) :: starEach es X.env := by rfl) (hpl : (backTo pos (starEach es X.env)).any (·.1) = false := by rfl) : PE X (.Call (.Name x p) (e :: es) [] pos) (tCall sp [] E0 t) := by
  obtain ⟨f, fd, F, hm, hkp, hb⟩ := Cc.ex
  exact pe_call F (hr.mono hk) hg hm hkp hb .nil passL ha hd he hpl
def top (i : Nat) : Stmt := PySem.Challenge.pw_whistlehall_k03_good_tunes.main.body.getD i (.Pass ⟨0, 0, 0, 0⟩)
abbrev s_is_within : Stmt := top 5
abbrev s_letters : Stmt := top 6
abbrev s_look_tune : Stmt := top 7
abbrev s_led : Stmt := top 8
abbrev s_has : Stmt := top 9
abbrev s_sorts : Stmt := top 10
abbrev s_tight : Stmt := top 11
abbrev s_built : Stmt := top 12
abbrev s_ways : Stmt := top 14
abbrev s_rank : Stmt := top 15
abbrev s_joints : Stmt := top 18
abbrev s_look_pattern : Stmt := top 19
abbrev s_behind_each : Stmt := top 20
abbrev s_both_lists : Stmt := top 21
abbrev s_Places_x_initx : Stmt := inClass (top 22) 0
abbrev s_Places_single : Stmt := inClass (top 22) 1
abbrev s_Places_follow : Stmt := inClass (top 22) 2
abbrev s_Places_starred : Stmt := inClass (top 22) 3
abbrev s_Places_put : Stmt := inClass (top 22) 4
abbrev s_Places_step : Stmt := inClass (top 22) 5
abbrev s_Places_is_end : Stmt := inClass (top 22) 6
abbrev s_matches : Stmt := top 23
abbrev s_behind : Stmt := top 25
abbrev s_ahead : Stmt := top 26
abbrev s_l_cell : Stmt := top 28
abbrev s_l_mix : Stmt := top 29
abbrev s_l_large : Stmt := top 30
abbrev s_l_hall : Stmt := top 31
abbrev s_l_room : Stmt := top 32
abbrev s_l_good : Stmt := top 33
abbrev s_l_apart : Stmt := top 34
abbrev s_l_tight : Stmt := top 35
abbrev s_l_made : Stmt := top 36
abbrev s_l_tune : Stmt := top 37
abbrev s_l_told : Stmt := top 38
abbrev s_law : Stmt := top 39
/-! ### the law's cells -/
def mix (c : Int) (p m : Nat) : Nat := (c * 48271 % (p : Int) % (m : Int)).toNat
theorem mix_int (c : Int) (p : Nat) {m : Nat} (h : 0 < m) : ((mix c p m : Nat) : Int) = c * 48271 % (p : Int) % (m : Int) := by
  unfold mix
  exact Int.toNat_of_nonneg (Int.emod_nonneg _ (by omega))
theorem mix_lt (c : Int) (p : Nat) {m : Nat} (h : 0 < m) : mix c p m < m := by
  have h1 := mix_int c p h
  have h2 := Int.emod_lt_of_pos (c * 48271 % (p : Int)) (show (0 : Int) < (m : Int) by omega)
  omega
def spCell (K : PySem.W.Frag) : Sp := fun vs H Q _ => ∃ (a : Addr) (ns : List Int) (k : Nat), vs = [.ref a, nV k] ∧ SqL K H a (ns.map V.int) ∧ Q (.int (ns.getD k 0)) H
def spMix : Sp := fun vs H Q _ => ∃ (c : Int) (p m : Nat), vs = [.int c, nV p, nV m] ∧ 0 < p ∧ 0 < m ∧ Q (nV (mix c p m)) H
section
variable {P : Program} {w : World} {K : PySem.W.Frag} {mg : Str → Option Value} {base : Heap}
theorem sc_l_cell : FnScope ["script", "k"] ["script", "k"] (defScope s_l_cell) := ⟨rfl, rfl, rfl, by decide +kernel, rfl, by decide +kernel, by decide +kernel⟩
theorem ok_l_cell {f : Addr} {fd : FuncData} (F : Fun K "_law_cell" "_law_cell" s_l_cell f fd) (len : mg "len" = none) : FnOk P w K mg base CX0 1 f fd ["script", "k"] (spCell K) := by
  refine F.ok sc_l_cell (fun vs H Q E h => ?_) (fun cdv A outer s H vs Q E hr h => ?_)
  · obtain ⟨a, ns, k, rfl, _⟩ := h
    rfl
  · obtain ⟨a, ns, k, rfl, hS, q⟩ := h
    refine ⟨_, pss_cons (ps_if (pt_cmpR op_lt (pv 1) (pe_callB call_len_seq (by rfl) len PySem.boot_len (pa_cons (pv 0) pa_nil)) (nomark _)) (pss_one (ps_ret (pe_ix ix_list (pv 0) (pv 1) (fun _ _ => rfl)))) pss_nil) (pss_one (ps_ret pe_int)), ?_⟩
    refine ⟨_, rfl, _, rfl, a, _, rfl, .inl hS, _, _, rfl, rfl, _, rfl, ?_⟩
    rw [List.length_map]
    refine ite2 (fun c => ?_) (fun c => ?_)
    · have c : k < ns.length := by simpa using c
      refine ⟨_, rfl, _, rfl, a, _, _, _, rfl, rfl, hS, atI_nat (by rw [List.getElem?_map, List.getElem?_eq_getElem c]; rfl), ?_⟩
      have e : ns.getD k 0 = ns[k] := by simp [List.getD, List.getElem?_eq_getElem c]
      rw [← e]; exact q
    · have c : ¬ k < ns.length := by simpa using c
      have e : ns.getD k 0 = 0 := by simp [List.getD, List.getElem?_eq_none (Nat.le_of_not_lt c)]
      rw [e] at q
      exact q
theorem sc_l_mix : FnScope ["cell", "prime", "many"] ["cell", "prime", "many"] (defScope s_l_mix) := ⟨rfl, rfl, rfl, by decide +kernel, rfl, by decide +kernel, by decide +kernel⟩
theorem ok_l_mix {f : Addr} {fd : FuncData} (F : Fun K "_law_mix" "_law_mix" s_l_mix f fd) : FnOk P w K mg base CX0 1 f fd ["cell", "prime", "many"] spMix := by
  refine F.ok sc_l_mix (fun vs H Q E h => ?_) (fun cdv A outer s H vs Q E hr h => ?_)
  · obtain ⟨a, ns, k, rfl, _⟩ := h
    rfl
  · obtain ⟨c, p, m, rfl, hp, hm, q⟩ := h
    refine ⟨_, pss_one (ps_ret (pe_op op_mod (pe_op op_mod (pe_op op_mul (pv 0) pe_int) (pv 1)) (pv 2))), ?_⟩
    refine ⟨_, rfl, _, _, rfl, rfl, .inr ⟨by decide, by decide⟩, _, rfl, _, _, rfl, rfl, (by show (0 : Int) < _; omega), _, rfl, _, _, rfl, rfl, (by show (0 : Int) < _; omega), ?_⟩
    show Q (.int (c * 48271 % (p : Int) % (m : Int))) H
    rw [← mix_int c p hm]
    exact q
end

/-! ### halls -/
def roomD (r : List Nat) : PyData := .tuple (r.map nD)
def Hall.d (h : Hall) : PyData := .tuple [nD h.w, .tuple (h.rooms.map roomD), .tuple (h.lights.map nD)]
def large (ns : List Int) : Bool := decide (mix (ns.getD 0 0 + 7 * ns.length) 9871 8 = 3)
def hMost (ns : List Int) : Nat := if 63 < ns.length then 9 else if large ns = true then 9 else 5
def hW (ns : List Int) (t : Nat) : Nat := [2, 2, 1, 3].getD (mix (ns.getD t 0) 9973 4) 0
def hMany (ns : List Int) (t : Nat) : Nat := 1 + mix (ns.getD t 0) 9967 (hMost ns)
def hRoom (ns : List Int) (t many w k : Nat) : List Nat := (List.range w).map fun (v : Nat) => mix (ns.getD (t + 1 + k % 7) 0 + 29 * (k : Int) * k + 211 * (v : Int) * v) 9949 many
def hLight (ns : List Int) (t k : Nat) : Nat := mix (ns.getD (t + 2 + k % 7) 0 + 37 * (k : Int) * k) 9941 2
def lawHall (ns : List Int) (t : Nat) : Hall := ⟨hW ns t, (List.range (hMany ns t)).map (hRoom ns t (hMany ns t) (hW ns t)), (List.range (hMany ns t)).map (hLight ns t)⟩
theorem hMost_pos (ns : List Int) : 0 < hMost ns := by unfold hMost; split; decide; split <;> decide
theorem hMost_le (ns : List Int) : hMost ns ≤ 9 := by unfold hMost; split; decide; split <;> decide
theorem hMany_pos (ns : List Int) (t : Nat) : 0 < hMany ns t := by unfold hMany; omega
theorem hMany_le (ns : List Int) (t : Nat) : hMany ns t ≤ 9 := by
  have h1 := mix_lt (ns.getD t 0) 9967 (hMost_pos ns)
  have h2 := hMost_le ns
  unfold hMany; omega
theorem hW_get (ns : List Int) (t : Nat) : ([2, 2, 1, 3] : List Nat)[mix (ns.getD t 0) 9973 4]? = some (hW ns t) := by
  have h1 := mix_lt (ns.getD t 0) 9973 (show 0 < 4 by decide)
  unfold hW
  generalize mix (ns.getD t 0) 9973 4 = m at h1
  match m, h1 with
  | 0, _ => rfl
  | 1, _ => rfl
  | 2, _ => rfl
  | 3, _ => rfl
theorem hW_cases (ns : List Int) (t : Nat) : hW ns t = 1 ∨ hW ns t = 2 ∨ hW ns t = 3 := by
  have h := List.mem_of_getElem? (hW_get ns t)
  simp at h
  omega
def spLarge (K : PySem.W.Frag) : Sp := fun vs H Q _ => ∃ (a : Addr) (ns : List Int), vs = [.ref a] ∧ SqL K H a (ns.map V.int) ∧ Q (.bl (large ns)) H
/-- a hall is handed back -/
def spLhall (K : PySem.W.Frag) : Sp := fun vs H Q _ => ∃ (a : Addr) (ns : List Int) (t : Nat), vs = [.ref a, nV t] ∧ SqL K H a (ns.map V.int) ∧ ∀ v H', Same H H' → Im H' [] (lawHall ns t).d v → Q v H'
section
variable {P : Program} {w : World} {K : PySem.W.Frag} {mg : Str → Option Value} {base : Heap}
theorem sc_l_large : FnScope ["script"] ["script"] (defScope s_l_large) := ⟨rfl, rfl, rfl, by decide +kernel, rfl, by decide +kernel, by decide +kernel⟩
theorem ok_l_large {f : Addr} {fd : FuncData} (F : Fun K "_law_large" "_law_large" s_l_large f fd) (len : mg "len" = none)
    (C1 : Cal P w K mg base CX0 1 "_law_cell" ["script", "k"] (spCell K)) (C2 : Cal P w K mg base CX0 1 "_law_mix" ["cell", "prime", "many"] spMix) :
    FnOk P w K mg base CX0 2 f fd ["script"] (spLarge K) := by
  refine F.ok sc_l_large (fun vs H Q E h => ?_) (fun cdv A outer s H vs Q E hr h => ?_)
  · obtain ⟨a, ns, rfl, _⟩ := h
    rfl
  · obtain ⟨a, ns, rfl, hS, q⟩ := h
    refine ⟨_, pss_one (ps_ret (pe_cmpR op_eq (pe_fn C2 hr (by decide) rfl (pa_cons (pe_op op_add (pe_fn C1 hr (by decide) rfl (pa_cons (pv 0) (pa_cons pe_int pa_nil))) (pe_op op_mul pe_int (pe_callB call_len_seq (by rfl) len PySem.boot_len (pa_cons (pv 0) pa_nil)))) (pa_cons pe_int (pa_cons pe_int pa_nil)))) pe_int (nomark _))), ?_⟩
    refine ⟨_, rfl, a, ns, 0, rfl, hS, _, rfl, a, _, rfl, .inl hS, _, _, rfl, rfl, .inl ⟨by decide, by decide⟩, _, _, rfl, rfl, _, 9871, 8, rfl, by decide, by decide, rfl, ?_⟩
    have e := dec_nV (mix (ns.getD 0 0 + 7 * ((ns.map V.int).length : Int)) 9871 8) 3
    show Q (.bl (decide (nV (mix (ns.getD 0 0 + 7 * ((ns.map V.int).length : Int)) 9871 8) = nV 3))) H
    rw [e, List.length_map]
    exact q
theorem sc_l_hall : FnScope ["script", "at", "most", "cell", "whistles", "many", "rooms", "k", "seed", "lights", "w"] ["script", "at"] (defScope s_l_hall) := ⟨rfl, rfl, rfl, by decide +kernel, rfl, by decide +kernel, by decide +kernel⟩
theorem ok_l_hall {f : Addr} {fd : FuncData} (F : Fun K "_law_hall" "_law_hall" s_l_hall f fd) (len : mg "len" = none) (range : mg "range" = none) (tuple : mg "tuple" = none)
    (C1 : Cal P w K mg base CX0 1 "_law_cell" ["script", "k"] (spCell K)) (C2 : Cal P w K mg base CX0 1 "_law_mix" ["cell", "prime", "many"] spMix) (C3 : Cal P w K mg base CX0 2 "_law_large" ["script"] (spLarge K)) :
    FnOk P w K mg base CX0 3 f fd ["script", "at"] (spLhall K) := by
  refine F.ok sc_l_hall (fun vs H Q E h => ?_) (fun cdv A outer s H vs Q E hr h => ?_)
  · obtain ⟨a, ns, t, rfl, _⟩ := h
    rfl
  · obtain ⟨a, ns, t, rfl, hS, q⟩ := h
    refine ⟨_, pss_cons (ps_set (i := 2) sc_l_hall.nd rfl (Or.inl rfl) pe_int)
      (pss_join (ps_if (pt_val (pe_fn C3 hr (by decide) rfl (pa_cons (pv 0) pa_nil))) (pss_one (ps_set (i := 2) sc_l_hall.nd rfl (Or.inl rfl) pe_int)) pss_nil)
      (pss_join (ps_if (pt_cmpR oN_gt (pe_callB call_len_seq (by rfl) len PySem.boot_len (pa_cons (pv 0) pa_nil)) pe_int (nomark _)) (pss_one (ps_set (i := 2) sc_l_hall.nd rfl (Or.inl rfl) pe_int)) pss_nil)
      (pss_cons (ps_set (i := 3) sc_l_hall.nd rfl (Or.inl rfl) (pe_fn C1 hr (by decide) rfl (pa_cons (pv 0) (pa_cons (pv 1) pa_nil))))
      (pss_cons (ps_set (i := 4) sc_l_hall.nd rfl (Or.inl rfl) (pe_ix ix_list (pe_lst (pa_cons pe_int (pa_cons pe_int (pa_cons pe_int (pa_cons pe_int pa_nil))))) (pe_fn C2 hr (by decide) rfl (pa_cons (pv 3) (pa_cons pe_int (pa_cons pe_int pa_nil)))) (fun _ _ => rfl)))
      (pss_cons (ps_set (i := 5) sc_l_hall.nd rfl (Or.inr rfl) (pe_op oN_add pe_int (pe_fn C2 hr (by decide) rfl (pa_cons (pv 3) (pa_cons pe_int (pa_cons (pv 2) pa_nil))))))
      (pss_cons (ps_set (i := 6) sc_l_hall.nd rfl (Or.inl rfl) (pe_lst pa_nil))
      (pss_cons (ps_for PassesOwn.never rfl (pi_rngN rfl range (pa_cons (pv 5) pa_nil)) (pg_name (i := 7) sc_l_hall.nd rfl (Or.inl rfl))
        (pss_cons (ps_set (i := 8) sc_l_hall.nd rfl (Or.inr rfl) (pe_op op_add (pe_fn C1 hr (by decide) rfl (pa_cons (pv 0) (pa_cons (pe_op oN_add (pe_op oN_add (pv 1) pe_int) (pe_op oN_mod (pv 7) pe_int)) pa_nil))) (pe_op op_mul (pe_op op_mul pe_int (pv 7)) (pv 7))))
        (pss_one (ps_expr (pe_bm PySem.F.plainAttrs_list PySem.F.slot_list_append PySem.F.type_list_append mt_append (pv 6) (pa_cons (pe_callTy call_tuple_of (by rfl) tuple (by decide +kernel) (pa_cons
          (pe_lc (own := [("w", 10)]) (g := gName 10) (tt := tYes) rfl sc_l_hall.nd (pi_rngN rfl range (pa_cons (pv 4) pa_nil)) (blkOk_by (N := ["script", "at", "most", "cell", "whistles", "many", "rooms", "k", "seed", "lights", "w"]) (sc := defScope s_l_hall) (by decide +kernel)) (fun _ _ _ _ _ => pg_name (i := 10) sc_l_hall.nd rfl (Or.inl rfl)) (fun _ _ _ _ _ => pts_nil)
            (fun _ _ _ _ _ => pe_fn C2 hr (by decide) rfl (pa_cons (pe_op op_add (pv 8) (pe_op op_mul (pe_op op_mul pe_int (pv 10)) (pv 10))) (pa_cons pe_int (pa_cons (pv 5) pa_nil))))) pa_nil)) pa_nil))))))
      (pss_cons (ps_setLc (i := 9) (own := [("k", 7)]) (g := gName 7) (tt := tYes) rfl sc_l_hall.nd rfl rfl (sw_true rfl rfl rfl (by decide +kernel)) (pi_rngN rfl range (pa_cons (pv 5) pa_nil)) (blkOk_by (N := ["script", "at", "most", "cell", "whistles", "many", "rooms", "k", "seed", "lights", "w"]) (sc := defScope s_l_hall) (by decide +kernel)) (fun _ _ _ _ _ => pg_name (i := 7) sc_l_hall.nd rfl (Or.inl rfl)) (fun _ _ _ _ _ => pts_nil)
            (fun _ _ _ _ _ => pe_fn C2 hr (by decide) rfl (pa_cons (pe_op op_add (pe_fn C1 hr (by decide) rfl (pa_cons (pv 0) (pa_cons (pe_op oN_add (pe_op oN_add (pv 1) pe_int) (pe_op oN_mod (pv 7) pe_int)) pa_nil))) (pe_op op_mul (pe_op op_mul pe_int (pv 7)) (pv 7))) (pa_cons pe_int (pa_cons pe_int pa_nil)))))
      (pss_one (ps_ret (pe_tup (pa_cons (pv 4) (pa_cons (pe_callTy call_tuple_of (by rfl) tuple (by decide +kernel) (pa_cons (pv 6) pa_nil)) (pa_cons (pe_callTy call_tuple_of (by rfl) tuple (by decide +kernel) (pa_cons (pv 9) pa_nil)) pa_nil)))))))))))))), ?_⟩
    -- most = 5; if _law_large(script): most = 9
    refine ⟨fun σ' H' => σ' = [some (.ref a), some (nV t), some (nV (if large ns = true then 9 else 5)), none, none, none, none, none, none, none, none] ∧ H = H', ⟨_, rfl, a, ns, rfl, hS, _, rfl, ?_⟩, ?_⟩
    · refine ite2 (fun c => ?_) (fun c => ?_)
      · rw [if_pos c]; exact ⟨rfl, rfl⟩
      · rw [if_neg c]; exact ⟨rfl, rfl⟩
    rintro _ _ ⟨rfl, rfl⟩
    refine ⟨fun σ' H' => σ' = [some (.ref a), some (nV t), some (nV (hMost ns)), none, none, none, none, none, none, none, none] ∧ H = H', ⟨_, rfl, a, _, rfl, .inl hS, _, 63, rfl, rfl, _, rfl, ?_⟩, ?_⟩
    · refine ite2 (fun c => ?_) (fun c => ?_)
      · have c : 63 < ns.length := by simpa using c
        refine ⟨?_, rfl⟩
        rw [hMost, if_pos c]; rfl
      · have c : ¬ 63 < ns.length := by simpa using c
        refine ⟨?_, rfl⟩
        rw [hMost, if_neg c]
    rintro _ _ ⟨rfl, rfl⟩
    -- cell, whistles, many, rooms
    refine ⟨_, rfl, _, rfl, a, ns, t, rfl, hS, ?_⟩
    refine ⟨(by show 4 ≤ sizeLine; decide), fun l hl => ?_⟩
    refine ⟨_, rfl, _, 9973, 4, rfl, by decide, by decide, l, _, _, nV (hW ns t), rfl, rfl, SqL.of upd_same, atI_nat (xs := ([2, 2, 1, 3] : List Nat).map nV) (by rw [List.getElem?_map, hW_get]; rfl), ?_⟩
    refine ⟨_, rfl, _, rfl, _, 9967, hMost ns, rfl, by decide, hMost_pos ns, 1, _, rfl, rfl, ?_⟩
    refine ⟨Nat.zero_le _, fun lr hlr => ?_⟩
    have s1 := same_new (o := .lst (([2, 2, 1, 3] : List Nat).map nV)) hl
    have w0 : Wd H (upd H l (.lst (([2, 2, 1, 3] : List Nat).map nV))) [] [] := (Wd.start (by simp)).call s1
    have w1 : Wd H _ [.L lr []] [] := w0.pushL hlr ImAll.nil
    -- for k in range(many)
    refine ⟨_, rfl, hMany ns t, rfl, by have := hMany_le ns t; omega, for_rng (fun i σ H' => ∃ (v7 v8 : Option V), σ = [some (.ref a), some (nV t), some (nV (hMost ns)), some (.int (ns.getD t 0)), some (nV (hW ns t)), some (nV (hMany ns t)), some (.ref lr), v7, v8, none, none] ∧
      Wd H H' [.L lr ((List.range i).map fun k => roomD (hRoom ns t (hMany ns t) (hW ns t) k))] []) ⟨none, none, rfl, w1⟩ ?_ ?_⟩
    · rintro i σ H' hi ⟨v7, v8, rfl, w2⟩
      have hm := hMany_le ns t
      refine ⟨_, rfl, _, rfl, _, 1, rfl, rfl, _, rfl, _, 7, rfl, rfl, (by show 0 < 7; decide), _, _, rfl, rfl, a, ns, _, rfl, w2.same.seq hS, _, rfl, _, _, rfl, rfl, .inl ⟨by decide, by decide⟩, _, rfl, _, _, rfl, rfl, .inl ⟨by omega, by omega⟩, _, _, rfl, rfl, ?_⟩
      obtain ⟨xs, hx, ix⟩ := w2.list 0
      refine ⟨_, rfl, .inl ⟨rfl, _, SqL.of hx⟩, _, rfl, hW ns t, rfl, by rcases hW_cases ns t with h | h | h <;> omega, fun D hD => lc_rangeW (fun j => ((List.range j).map fun (v : Nat) => mix (ns.getD (t + 1 + i % 7) 0 + 29 * (i : Int) * i + 211 * (v : Int) * v) 9949 (hMany ns t)).map nD) w2 hD rfl
        (fun j hj => by rw [List.length_map, List.length_map, List.length_range]; exact sl_small (by rcases hW_cases ns t with h | h | h <;> omega)) (fun j H3 hj w3 => CompTurn.all fun Qt k => ?_) (fun H3 w3 => ?_)⟩
      · have hj : j < 10 := by rcases hW_cases ns t with h | h | h <;> omega
        refine ⟨_, rfl, _, rfl, _, _, rfl, rfl, .inl ⟨by decide, by decide⟩, _, rfl, _, _, rfl, rfl, .inl ⟨by omega, by omega⟩, _, _, rfl, rfl, _, rfl, _, 9949, hMany ns t, rfl, by decide, hMany_pos ns t, ?_⟩
        refine k _ _ (nD _) w3 rfl ?_
        rw [map_range_succ, List.map_append]
        rfl
      · obtain ⟨ys, hy, iy⟩ := w3.list 0
        refine ⟨D, _, rfl, .inl ⟨SqL.of hy, fun p hp => ?_⟩⟩
        have w4 := w3.tup hp iy
        obtain ⟨xs', hx', ix'⟩ := w4.list 1
        refine ⟨lr, _, _, rfl, rfl, hx', ?_, ?_⟩
        · rw [ix'.length, List.length_map, List.length_range]; exact sl_small (by omega)
        · refine ⟨_, _, rfl, ?_⟩
          have w5 := (w4.turnL 1 rfl (ix'.snoc (w4.get 0))).pop.less (ims' := []) (by simp)
          rw [map_range_succ]
          exact w5
    · rintro σ H' ⟨v7, v8, rfl, w2⟩
      have hm := hMany_le ns t
      -- lights
      refine ⟨_, rfl, hMany ns t, rfl, by omega, fun D hD => lc_rangeW (fun j => ((List.range j).map (hLight ns t)).map nD) w2 hD rfl
        (fun j hj => by rw [List.length_map, List.length_map, List.length_range]; exact sl_small (by omega)) (fun j H3 hj w3 => CompTurn.all fun Qt k => ?_) (fun H3 w3 => ?_)⟩
      · refine ⟨_, rfl, _, rfl, _, 2, rfl, rfl, _, rfl, _, 7, rfl, rfl, (by show 0 < 7; decide), _, _, rfl, rfl, a, ns, _, rfl, w3.same.seq hS, _, rfl, _, _, rfl, rfl, .inl ⟨by decide, by decide⟩, _, rfl, _, _, rfl, rfl, .inl ⟨by omega, by omega⟩, _, _, rfl, rfl, _, 9941, 2, rfl, by decide, by decide, ?_⟩
        refine k _ _ (nD _) w3 rfl ?_
        rw [map_range_succ, List.map_append]
        rfl
      · -- return
        obtain ⟨ys, hy, iy⟩ := w3.list 1
        refine ⟨_, rfl, _, rfl, lr, _, rfl, .inl ⟨SqL.of hy, fun p hp => ?_⟩⟩
        have w4 := w3.tup hp iy
        obtain ⟨zs, hz, iz⟩ := w4.list 0
        refine ⟨_, rfl, D, _, rfl, .inl ⟨SqL.of hz, fun p2 hp2 => ?_⟩⟩
        have w5 := w4.tup hp2 iz
        refine ⟨(by show 3 ≤ sizeLine; decide), fun p3 hp3 => ?_⟩
        have w6 := w5.tup hp3 (ImAll.cons (d := nD (hW ns t)) rfl (ImAll.cons (w5.get 1) (ImAll.cons (w5.get 0) ImAll.nil)))
        refine q _ _ w6.same ?_
        have h := (w6.get 0).bare
        unfold Hall.d lawHall
        rw [List.map_map]
        exact h
end
/-! ### what a hall tells, read -/
section
variable {h : Hall} {H : Hp} {Z : List Addr} {x : V} {σ : St} {Q : VK}
theorem at_rooms {r : Nat} (hr : r < h.n) : atI (h.rooms.map roomD) (r : Int) = some (roomD (h.rooms.getD r [])) := atI_nat (by rw [List.getElem?_map, getD_get (d := []) hr]; rfl)
theorem at_room (o : h.Ok) {r c : Nat} (hr : r < h.n) (hc : c < h.w) : atI ((h.rooms.getD r []).map nD) (c : Int) = some (nD (h.go r c)) := atI_nat (by rw [List.getElem?_map, getD_get (d := 0) (by rw [o.room hr]; exact hc)]; rfl)
theorem at_lit (o : h.Ok) {r : Nat} (hr : r < h.n) : atI (h.lights.map nD) (r : Int) = some (nD (h.lit r)) := atI_nat (by rw [List.getElem?_map, getD_get (d := 0) (by rw [o.len]; exact hr)]; rfl)
/-- hall[2][r] -/
theorem t_lit {i j r : Nat} (o : h.Ok) (hI : Im H Z h.d x) (hr : r < h.n) (q : Q (nV (h.lit r)) H) (e0 : σ[i]? = some (some x) := by rfl) (e1 : σ[j]? = some (some (nV r)) := by rfl) : tOp rIxI (tOp rIxI (tVar i) (tC (.int 2))) (tVar j) σ H Q :=
  ⟨_, e0, Z, _, 2, _, hI, rfl, rfl, fun v1 h1 => ⟨_, e1, Z, _, _, _, h1, rfl, at_lit o hr, fun v2 h2 => by cases h2; exact q⟩⟩
/-- hall[1][r][c] -/
theorem t_go {i j k r c : Nat} (o : h.Ok) (hI : Im H Z h.d x) (hr : r < h.n) (hc : c < h.w) (q : Q (nV (h.go r c)) H) (e0 : σ[i]? = some (some x) := by rfl) (e1 : σ[j]? = some (some (nV r)) := by rfl) (e2 : σ[k]? = some (some (nV c)) := by rfl) :
    tOp rIxI (tOp rIxI (tOp rIxI (tVar i) (tC (.int 1))) (tVar j)) (tVar k) σ H Q :=
  ⟨_, e0, Z, _, 1, _, hI, rfl, rfl, fun v1 h1 => ⟨_, e1, Z, _, _, _, h1, rfl, at_rooms hr, fun v2 h2 => ⟨_, e2, Z, _, _, _, h2, rfl, at_room o hr hc, fun v3 h3 => by cases h3; exact q⟩⟩⟩
/-- hall[0] -/
theorem t_w {i : Nat} (hI : Im H Z h.d x) (q : Q (nV h.w) H) (e0 : σ[i]? = some (some x) := by rfl) : tOp rIxI (tVar i) (tC (.int 0)) σ H Q :=
  ⟨_, e0, Z, _, 0, _, hI, rfl, rfl, fun v1 h1 => by cases h1; exact q⟩
/-- len(hall[1]) -/
theorem t_n {K : PySem.W.Frag} {i : Nat} (hI : Im H Z h.d x) (q : Q (nV h.n) H) (e0 : σ[i]? = some (some x) := by rfl) : tCB (fun xs H Q => ∃ p ys, xs = [.ref p] ∧ (SqL K H p ys ∨ SqT K H p ys) ∧ Q (nV ys.length) H) (tCons (tOp rIxI (tVar i) (tC (.int 1))) tNil) σ H Q :=
  ⟨_, e0, Z, _, 1, _, hI, rfl, rfl, fun v1 h1 => by
    obtain ⟨a, xs, rfl, e, _, im⟩ := h1
    refine ⟨a, xs, rfl, .inr (SqT.of e), ?_⟩
    rw [im.length, List.length_map]; exact q⟩
end
def tabD (T : Tab) : List (List PyData) := T.map fun r => r.map PyData.bool
/-- the table of pairs that are told apart is handed back -/
def spApart : Sp := fun vs H Q _ => ∃ (h : Hall) (hv : V), vs = [hv] ∧ h.Ok ∧ h.n ≤ 1000 ∧ Im H [] h.d hv ∧ ∀ (l : Addr) (rs : List (Addr × List PyData)) (T : Tab) (H' : Hp), Wd H H' [.LL l rs] [] → rs.map (·.2) = tabD T → Sq h.n T → (∀ a b, a < h.n → b < h.n → (tab T a b = true ↔ Dist h a b)) → Q (.ref l) H'
section
variable {H0 H : Hp} {cs : List Cell} {ims : List (PyData × V)} {K : PySem.W.Frag} {σ : St} {Q : VK}
theorem row_of {rs : List (Addr × List PyData)} {T : Tab} {n a : Nat} (e : rs.map (·.2) = tabD T) (sq : Sq n T) (ha : a < n) : ∃ r, rs[a]? = some r ∧ r.2 = (T.getD a []).map PyData.bool := by
  have h1 : (rs.map (·.2))[a]? = some ((T.getD a []).map PyData.bool) := by
    rw [e, tabD, List.getElem?_map, getD_get (d := []) (by rw [sq.1]; exact ha)]; rfl
  rw [List.getElem?_map] at h1
  cases q : rs[a]? with
  | none => rw [q] at h1; cases h1
  | some r => rw [q] at h1; exact ⟨r, rfl, Option.some.inj h1⟩
/-- table[a][b] -/
theorem t_tab {l : Addr} {rs : List (Addr × List PyData)} {T : Tab} {n a b i j k : Nat} (m : Nat) (w : Wd H0 H cs ims) (ec : cs[m]? = some (.LL l rs)) (e : rs.map (·.2) = tabD T) (sq : Sq n T) (ha : a < n) (hb : b < n) (q : Q (.bl (tab T a b)) H) (e0 : σ[i]? = some (some (.ref l)) := by rfl) (e1 : σ[j]? = some (some (nV a)) := by rfl) (e2 : σ[k]? = some (some (nV b)) := by rfl) :
    tOp (rIxL K) (tOp (rIxL K) (tVar i) (tVar j)) (tVar k) σ H Q := by
  obtain ⟨r, er, e3⟩ := row_of e sq ha
  obtain ⟨f1, f2, xs, f3, f4⟩ := w.row m ec er
  rw [e3] at f4
  obtain ⟨x, ex, ix⟩ := f4.get (i := b) (d := .bool (tab T a b)) (by rw [List.getElem?_map, getD_get (d := false) (by rw [sq.row ha]; exact hb)]; rfl)
  cases ix
  exact ⟨_, e0, _, e1, l, _, _, _, rfl, rfl, SqL.of f1, atI_nat f2, _, e2, r.1, _, _, _, rfl, rfl, SqL.of f3, atI_nat ex, q⟩
theorem tabD_set {T : Tab} {rs : List (Addr × List PyData)} {n a b : Nat} {r : Addr × List PyData} (e : rs.map (·.2) = tabD T) (sq : Sq n T) (ha : a < n) (er : rs[a]? = some r) : (rs.set a (r.1, ((T.getD a []).set b true).map PyData.bool)).map (·.2) = tabD (setT T a b) := by
  simp only [tabD] at e ⊢
  rw [List.map_set (f := fun x : Addr × List PyData => x.2), e, setT, List.map_set (f := fun r : List Bool => r.map PyData.bool)]
end
/-- what holds within a sweep: g tells whether a pair has been set -/
structure Sweep (h : Hall) (F0 : Nat) (T : Tab) (g : Bool) (P : Nat → Nat → Prop) : Prop where
  inv : TabInv h T
  lt : g = true → cntF T < F0
  le : g = false → cntF T = F0
  still : g = false → ∀ a b, P a b → Still h T a b
theorem Sweep.mono {h : Hall} {F0 : Nat} {T : Tab} {g : Bool} {P P' : Nat → Nat → Prop} (s : Sweep h F0 T g P) (k : g = false → ∀ a b, P' a b → P a b) : Sweep h F0 T g P' := ⟨s.inv, s.lt, s.le, fun e a b p => s.still e a b (k e a b p)⟩
section
variable {P : Program} {w : World} {K : PySem.W.Frag} {mg : Str → Option Value} {base : Heap}
theorem sc_l_apart : FnScope ["hall", "many", "table", "b", "a", "go", "pairs", "w", "c", "d"] ["hall"] (defScope s_l_apart) := ⟨rfl, rfl, rfl, by decide +kernel, rfl, by decide +kernel, by decide +kernel⟩
theorem ok_l_apart {f : Addr} {fd : FuncData} (F : Fun K "_law_apart" "_law_apart" s_l_apart f fd) (g_len : mg "len" = none) (g_range : mg "range" = none) :
    FnOk P w K mg base CX0 1 f fd ["hall"] spApart := by
  refine F.ok sc_l_apart (fun vs H Q E h => ?_) (fun cdv A outer s H vs Q E hr h => ?_)
  · obtain ⟨h, hv, rfl, _⟩ := h
    rfl
  · obtain ⟨h, hv, rfl, o, hn, hI, q⟩ := h
    refine ⟨_, (pss_cons (ps_set (i := 1) sc_l_apart.nd rfl (Or.inr rfl) (pe_callB (lenS (K := K) rfl) (by rfl) g_len PySem.boot_len (pa_cons (pe_ix ix_im (pv 0) pe_int (fun _ _ => rfl)) pa_nil)))
      (pss_cons (ps_set (i := 2) sc_l_apart.nd rfl (Or.inr rfl) (pe_lc (own := [("a", 4)]) (g := (gName 4)) (tt := tYes) rfl sc_l_apart.nd (pi_rngN rfl g_range (pa_cons (pv 1) pa_nil)) (blkOk_by (by kernel_rfl)) (fun _ _ _ _ _ => (pg_name (i := 4) sc_l_apart.nd rfl (by first | exact Or.inl rfl | exact Or.inr rfl))) (fun _ _ _ _ _ => pts_nil) (fun _ _ _ _ _ => (pe_lc (own := [("b", 3)]) (g := (gName 3)) (tt := tYes) rfl sc_l_apart.nd (pi_rngN rfl g_range (pa_cons (pv 1) pa_nil)) (blkOk_by (by kernel_rfl)) (fun _ _ _ _ _ => (pg_name (i := 3) sc_l_apart.nd rfl (by first | exact Or.inl rfl | exact Or.inr rfl))) (fun _ _ _ _ _ => pts_nil) (fun _ _ _ _ _ => (pe_cmpR oN_ne (pe_ix ix_im (pe_ix ix_im (pv 0) pe_int (fun _ _ => rfl)) (pv 4) (fun _ _ => rfl)) (pe_ix ix_im (pe_ix ix_im (pv 0) pe_int (fun _ _ => rfl)) (pv 3) (fun _ _ => rfl)) (nomark _)))))))
      (pss_cons (ps_set (i := 5) sc_l_apart.nd rfl (Or.inl rfl) pe_bl)
      (pss_cons (ps_while PassesOwn.never (pt_val (pv 5))
        (pss_cons (ps_set (i := 5) sc_l_apart.nd rfl (Or.inl rfl) pe_bl)
        (pss_one (ps_for PassesOwn.never rfl (pi_rngN rfl g_range (pa_cons (pv 1) pa_nil)) (pg_name (i := 4) sc_l_apart.nd rfl (by first | exact Or.inl rfl | exact Or.inr rfl))
          (pss_one (ps_for PassesOwn.never rfl (pi_rngN rfl g_range (pa_cons (pv 1) pa_nil)) (pg_name (i := 3) sc_l_apart.nd rfl (by first | exact Or.inl rfl | exact Or.inr rfl))
            (pss_cons (ps_setLc (i := 6) (own := [("w", 7)]) (g := (gName 7)) (tt := tYes) rfl sc_l_apart.nd rfl rfl (sw_true rfl rfl rfl (by decide +kernel)) (pi_rngN rfl g_range (pa_cons (pe_ix ix_im (pv 0) pe_int (fun _ _ => rfl)) pa_nil)) (blkOk_by (by kernel_rfl)) (fun _ _ _ _ _ => (pg_name (i := 7) sc_l_apart.nd rfl (by first | exact Or.inl rfl | exact Or.inr rfl))) (fun _ _ _ _ _ => pts_nil) (fun _ _ _ _ _ => (pe_tup (pa_cons (pe_ix ix_im (pe_ix ix_im (pe_ix ix_im (pv 0) pe_int (fun _ _ => rfl)) (pv 4) (fun _ _ => rfl)) (pv 7) (fun _ _ => rfl)) (pa_cons (pe_ix ix_im (pe_ix ix_im (pe_ix ix_im (pv 0) pe_int (fun _ _ => rfl)) (pv 3) (fun _ _ => rfl)) (pv 7) (fun _ _ => rfl)) pa_nil)))))
            (pss_one (ps_if (PW.pt (pw_and (pt_not (pt_val (pe_ix (ixL (K := K) rfl) (pe_ix (ixL (K := K) rfl) (pv 2) (pv 4) (fun _ _ => rfl)) (pv 3) (fun _ _ => rfl)))) (pw_and1 (pt_truth (pe_lc (own := [("c", 8), ("d", 9)]) (g := (gTup K 2 (gCons (gName 8) (gCons (gName 9) gNil)))) rfl sc_l_apart.nd (pi_list (pv 6)) (blkOk_by (by kernel_rfl)) (fun _ _ _ _ _ => (pg_tup rfl (pgs_cons (pg_name (i := 8) sc_l_apart.nd rfl (by first | exact Or.inl rfl | exact Or.inr rfl)) (pgs_cons (pg_name (i := 9) sc_l_apart.nd rfl (by first | exact Or.inl rfl | exact Or.inr rfl)) pgs_nil)))) (fun _ _ _ _ _ => (pts_one (pt_val (pe_ix (ixL (K := K) rfl) (pe_ix (ixL (K := K) rfl) (pv 2) (pv 8) (fun _ _ => rfl)) (pv 9) (fun _ _ => rfl))))) (fun _ _ _ _ _ => pe_int)) (by intro _; rfl)))))
              (pss_cons (ps_asg pe_bl (pg_sub (pe_ix (ixL (K := K) rfl) (pv 2) (pv 4) (fun _ _ => rfl)) (pv 3) set_list))
              (pss_one (ps_set (i := 5) sc_l_apart.nd rfl (Or.inl rfl) pe_bl)))
              pss_nil)))))))))
      (pss_one (ps_ret (pv 2))))))), ?_⟩
    have w0 : Wd H H [] [(h.d, hv)] := Wd.start (by simpa using hI)
    -- many = len(hall[1])
    refine sq_asg (t_n hI ?_)
    -- table
    refine ⟨_, rfl, h.n, rfl, by omega, fun D hD => lc_rangeLL (fun a => ((List.range h.n).map fun b => !decide (h.lit a = h.lit b)).map PyData.bool) w0 hD (by omega) (fun a H1 rs ha w1 Qt k => ?_) (fun H1 rs ers w1 => ?_)⟩
    · refine ⟨_, rfl, h.n, rfl, by omega, fun D2 hD2 => lc_rangeW (fun j => ((List.range j).map fun b => !decide (h.lit a = h.lit b)).map PyData.bool) w1 hD2 rfl (fun j hj => by simp; exact sl_small (by omega)) (fun b H2 hb w2 => CompTurn.all fun Qt k2 => ?_) (fun H2 w2 => k D2 H2 w2)⟩
      refine x_op (t_lit o (w2.get 0) ha (t_lit o (w2.get 0) hb ⟨_, _, rfl, rfl, ?_⟩))
      refine k2 _ _ (.bool _) w2 rfl ?_
      rw [map_range_succ, List.map_append]; rfl
    have ers : rs.map (·.2) = tabD (litTab h) := by rw [ers, tabD, litTab, List.map_map]; rfl
    -- while go
    refine ⟨fun m σ H' => ∃ (T : Tab) (rs : List (Addr × List PyData)) (g : Bool) (v3 v4 v6 : Option V), σ = [some hv, some (nV h.n), some (.ref D), v3, v4, some (.bl g), v6, none, none, none] ∧ Wd H H' [.LL D rs] [(h.d, hv)] ∧ rs.map (·.2) = tabD T ∧ TabInv h T ∧ (g = false → ∀ a b, a < h.n → b < h.n → Still h T a b) ∧ m = 2 * cntF T + (if g = true then 1 else 0),
      ⟨_, litTab h, rs, true, none, none, none, rfl, w1, ers, TabInv.start h, (fun e => by cases e), rfl⟩, ?_⟩
    rintro m σ H2 ⟨T, rs, g, v3, v4, v6, rfl, w2, ers, ti, still, rfl⟩
    refine ⟨_, rfl, _, rfl, ?_⟩
    refine ite2 (fun c => ?_) (fun c => ?_)
    · subst c
      refine ⟨_, fun σ' H' hN => hN, ?_⟩
      -- go = False; for a: for b:
      refine ⟨_, rfl, h.n, rfl, by omega, for_rng (fun i σ H' => ∃ (T' : Tab) (rs : List (Addr × List PyData)) (g : Bool) (v3 v4 v6 : Option V), σ = [some hv, some (nV h.n), some (.ref D), v3, v4, some (.bl g), v6, none, none, none] ∧ Wd H H' [.LL D rs] [(h.d, hv)] ∧ rs.map (·.2) = tabD T' ∧ Sweep h (cntF T) T' g (fun a b => a < i ∧ b < h.n))
        ⟨T, rs, false, v3, v4, v6, rfl, w2, ers, ⟨ti, (fun e => by cases e), fun _ => rfl, fun _ a b p => by omega⟩⟩ ?_ ?_⟩
      · rintro a σ H3 ha ⟨T1, rs1, g1, u3, u4, u6, rfl, w3, ers1, sw1⟩
        refine ⟨_, rfl, h.n, rfl, by omega, for_rng (fun j σ H' => ∃ (T' : Tab) (rs : List (Addr × List PyData)) (g : Bool) (v3 v6 : Option V), σ = [some hv, some (nV h.n), some (.ref D), v3, some (nV a), some (.bl g), v6, none, none, none] ∧ Wd H H' [.LL D rs] [(h.d, hv)] ∧ rs.map (·.2) = tabD T' ∧ Sweep h (cntF T) T' g (fun x y => (x < a ∧ y < h.n) ∨ (x = a ∧ y < j)))
          ⟨T1, rs1, g1, u3, u6, rfl, w3, ers1, sw1.mono fun _ x y p => by omega⟩ ?_ ?_⟩
        · rintro b σ H4 hb ⟨T2, rs2, g2, z3, z6, rfl, w4, ers2, sw2⟩
          -- pairs
          refine sq_asg (x_lcw (x_rng (x_cons (t_w (w4.get 0) ⟨h.w, rfl, by have := o.w3; omega, fun Dp hDp => lc_rangeW (fun j => (List.range j).map fun c => .tuple [nD (h.go a c), nD (h.go b c)]) w4 hDp rfl (fun j hj => by simp; exact sl_small (by have := o.w3; omega)) (fun c H5 hc w5 => CompTurn.all fun Qt k2 => ?_) (fun H5 w5 => ?_)⟩))))
          · refine x_tup (x_cons (t_go o (w5.get 0) ha hc (x_cons (t_go o (w5.get 0) hb hc ⟨(by show 2 ≤ sizeLine; decide), fun p hp => ?_⟩))))
            have w6 := w5.tup hp (ImAll.cons (d := nD (h.go a c)) rfl (ImAll.cons (d := nD (h.go b c)) rfl ImAll.nil))
            exact k2 _ _ _ (w6.less (by simp)) (w6.get 0) (map_range_succ _ _)
          · -- if not table[a][b] and [..]
            refine at_if (x_and (x_not (x_b (t_tab 1 w5 rfl ers2 sw2.inv.sq ha hb ⟨_, rfl, ?_⟩))))
            have skip : tab T2 a b = true ∨ leads h T2 a b = false → ∀ H', Wd H H' [.LL D rs2] [(h.d, hv)] → ∀ v6, ∃ (T' : Tab) (rs : List (Addr × List PyData)) (g : Bool) (v3 v6' : Option V), [some hv, some (nV h.n), some (.ref D), some (nV b), some (nV a), some (.bl g2), v6, none, none, none] = [some hv, some (nV h.n), some (.ref D), v3, some (nV a), some (.bl g), v6', none, none, none] ∧ Wd H H' [.LL D rs] [(h.d, hv)] ∧ rs.map (·.2) = tabD T' ∧ Sweep h (cntF T) T' g (fun x y => (x < a ∧ y < h.n) ∨ (x = a ∧ y < b + 1)) := fun st H' w' v6 => by
              refine ⟨T2, rs2, g2, _, v6, rfl, w', ers2, ⟨sw2.inv, sw2.lt, sw2.le, fun e x y p => ?_⟩⟩
              by_cases q : x = a ∧ y = b
              · obtain ⟨rfl, rfl⟩ := q; exact st
              · exact sw2.still e x y (by omega)
            refine ite2 (fun c => ?_) (fun c => ?_)
            · have c : tab T2 a b = false := by simpa using c
              refine ⟨_, rfl, Dp, rfl, ⟨_, SqL.of (w5.list 0).choose_spec.1⟩, fun D2 hD2 => lc_listW2 (fun c => nD (h.go a c)) (fun c => nD (h.go b c)) h.w (fun j => ((List.range j).filter fun c => tab T2 (h.go a c) (h.go b c)).map fun _ => nD 1) 0 w5 hD2 rfl rfl
                (fun j hj => by
                  rw [List.length_map]
                  have := List.length_filter_le (fun c => tab T2 (h.go a c) (h.go b c)) (List.range j)
                  rw [List.length_range] at this
                  exact sl_small (by have := o.w3; omega)) (fun c x y H6 hc ix iy w6 => ?_) (fun H6 w6 => ?_)⟩
              · cases ix; cases iy
                intro Qt Qf k1 k2
                refine x_b (t_tab 2 w6 rfl ers2 sw2.inv.sq (o.go_lt ha hc) (o.go_lt hb hc) ⟨_, rfl, ?_⟩)
                refine ite2 (fun e => ?_) (fun e => ?_)
                · exact k1 _ _ (nD 1) w6 rfl (filter_range_t _ _ e)
                · exact k2 _ w6 (filter_range_f _ _ (by simpa using e))
              · obtain ⟨ys, ey, iy⟩ := w6.list 0
                have ele : (!ys.isEmpty) = leads h T2 a b := by
                  have e1 : ys.isEmpty = (((List.range h.w).filter fun c => tab T2 (h.go a c) (h.go b c)).map fun _ => nD 1).isEmpty := by
                    exact isEmpty_len iy.length
                  rw [e1, leads]
                  cases q : (List.range h.w).any fun c => tab T2 (h.go a c) (h.go b c) with
                  | true =>
                    obtain ⟨c, hc, t⟩ := List.any_eq_true.mp q
                    have : c ∈ (List.range h.w).filter fun c => tab T2 (h.go a c) (h.go b c) := List.mem_filter.mpr ⟨hc, t⟩
                    cases z : (List.range h.w).filter fun c => tab T2 (h.go a c) (h.go b c) with
                    | nil => rw [z] at this; simp at this
                    | cons x r => rfl
                  | false =>
                    have : (List.range h.w).filter (fun c => tab T2 (h.go a c) (h.go b c)) = [] := by
                      rw [List.filter_eq_nil_iff]
                      intro c hc
                      exact List.any_eq_false.mp q c hc
                    rw [this]; rfl
                refine ⟨_, .inl ⟨_, SqL.of ey, rfl⟩, ?_⟩
                rw [ele]
                refine ite2 (fun l => ?_) (fun l => ?_)
                · -- table[a][b] = True; go = True
                  have w7 := w6.pop.pop
                  obtain ⟨r, er, e3⟩ := row_of ers2 sw2.inv.sq ha
                  obtain ⟨f1, f2, xs, f3, f4⟩ := w7.row 0 rfl er
                  rw [e3] at f4
                  refine ⟨_, rfl, _, rfl, D, _, _, _, rfl, rfl, SqL.of f1, atI_nat f2, _, rfl, r.1, xs, _, b, rfl, rfl, f3, ixNn (by rw [f4.length, List.length_map, sw2.inv.sq.row ha]; exact hb), ?_⟩
                  have w8 := w7.turnRow 0 (ds' := ((T2.getD a []).set b true).map PyData.bool) (xs' := xs.set b (.bl true)) rfl er (by rw [List.map_set]; exact ImAll.set (d := .bool true) (x := .bl true) rfl b f4)
                  exact ⟨setT T2 a b, _, true, _, _, rfl, w8, tabD_set ers2 sw2.inv.sq ha er, ⟨sw2.inv.set o ha hb l, fun _ => by
                    have h1 := cntF_set sw2.inv.sq ha hb c
                    cases eg : g2 with
                    | true => have := sw2.lt eg; omega
                    | false => have := sw2.le eg; omega, (fun e => by cases e), (fun e => by cases e)⟩⟩
                · exact skip (.inr (by simpa using l)) _ w6.pop.pop _
            · exact skip (.inl (by simpa using c)) _ w5.pop _
        · rintro σ H4 ⟨T2, rs2, g2, z3, z6, rfl, w4, ers2, sw2⟩
          exact ⟨T2, rs2, g2, _, _, _, rfl, w4, ers2, sw2.mono fun _ x y p => by omega⟩
      · rintro σ H3 ⟨T1, rs1, g1, u3, u4, u6, rfl, w3, ers1, sw1⟩
        refine ⟨2 * cntF T1 + (if g1 = true then 1 else 0), ?_, T1, rs1, g1, u3, u4, u6, rfl, w3, ers1, sw1.inv, fun e a b ha hb => sw1.still e a b ⟨ha, hb⟩, rfl⟩
        cases g1 with
        | true => have := sw1.lt rfl; simp; omega
        | false => have := sw1.le rfl; simp; omega
    · have c : g = false := by simpa using c
      subst c
      exact ⟨_, rfl, q D rs T H2 (w2.less (by simp)) ers ti.sq fun a b ha hb => ti.done o (fun x y hx hy => still rfl x y hx hy) ha hb⟩
end
def spLtight : Sp := fun vs H Q _ => ∃ (h : Hall) (hv : V), vs = [hv] ∧ h.Ok ∧ h.n ≤ 1000 ∧ Im H [] h.d hv ∧ ∀ v H', Same H H' → Im H' [] (tightH h).d v → Q v H'
theorem noLs_bools : ∀ r : List Bool, noLs (r.map PyData.bool) = true
  | [] => rfl
  | b :: r => by simp [noLs, noL, noLs_bools r]
theorem flat_tab {l : Addr} {rs : List (Addr × List PyData)} {T : Tab} (e : rs.map (·.2) = tabD T) : (Cell.LL l rs).flat = true := by
  show (rs.all fun r => noLs r.2) = true
  rw [List.all_eq_true]
  intro r hr
  have : r.2 ∈ tabD T := by rw [← e]; exact List.mem_map.mpr ⟨r, hr, rfl⟩
  obtain ⟨x, _, ex⟩ := List.mem_map.mp this
  rw [← ex]; exact noLs_bools x
theorem Im.nats {H : Hp} {Z : List Addr} {r : List Nat} {a : Addr} (h : Im H Z (roomD r) (.ref a)) : H a = some (.tup (r.map nV)) := by
  obtain ⟨b, xs, e, h1, _, h3⟩ := h
  cases e
  rw [h1, h3.nats_inv]
theorem ImAll.natsS {H : Hp} {Z : List Addr} (om : List Nat) (g : Nat) : ImAll H Z ((om ++ [g]).map nD) (om.map nV ++ [nV g]) := by
  rw [List.map_append]; exact ImAll.snoc (d := nD g) (x := nV g) (ImAll.nats om) rfl
/-- a list of numbers that stands in a cell -/
theorem Wd.nats {H0 H : Hp} {cs : List Cell} {ims : List (PyData × V)} (w : Wd H0 H cs ims) (i : Nat) {l : Addr} {ns : List Nat} (e : cs[i]? = some (.L l (ns.map nD)) := by rfl) : H l = some (.lst (ns.map nV)) := by
  obtain ⟨xs, h1, h2⟩ := w.list i e
  rw [h1, h2.nats_inv]
section
variable {P : Program} {w : World} {K : PySem.W.Frag} {mg : Str → Option Value} {base : Heap}
theorem sc_l_tight : FnScope ["hall", "table", "order", "rooms", "row", "goal", "same", "k", "room"] ["hall"] (defScope s_l_tight) := ⟨rfl, rfl, rfl, by decide +kernel, rfl, by decide +kernel, by decide +kernel⟩
theorem ok_l_tight {f : Addr} {fd : FuncData} (F : Fun K "_law_tight" "_law_tight" s_l_tight f fd) (g_len : mg "len" = none) (g_range : mg "range" = none) (g_tuple : mg "tuple" = none)
    (C_l_apart : Cal P w K mg base CX0 1 "_law_apart" ["hall"] spApart) :
    FnOk P w K mg base CX0 2 f fd ["hall"] spLtight := by
  refine F.ok sc_l_tight (fun vs H Q E h => ?_) (fun cdv A outer s H vs Q E hr h => ?_)
  · obtain ⟨h, hv, rfl, _⟩ := h
    rfl
  · obtain ⟨h, hv, rfl, o, hn, hI, q⟩ := h
    refine ⟨_, (pss_cons (ps_set (i := 1) sc_l_tight.nd rfl (Or.inr rfl) (pe_fn C_l_apart hr (by decide) rfl (pa_cons (pv 0) pa_nil)))
      (pss_cons (ps_set (i := 2) sc_l_tight.nd rfl (Or.inr rfl) (pe_lst (pa_cons pe_int pa_nil)))
      (pss_cons (ps_set (i := 3) sc_l_tight.nd rfl (Or.inl rfl) (pe_lst pa_nil))
      (pss_cons (ps_while PassesOwn.never (pt_cmpR oN_lt (pe_callB (lenS (K := K) rfl) (by rfl) g_len PySem.boot_len (pa_cons (pv 3) pa_nil)) (pe_callB (lenS (K := K) rfl) (by rfl) g_len PySem.boot_len (pa_cons (pv 2) pa_nil)) (nomark _))
        (pss_cons (ps_set (i := 4) sc_l_tight.nd rfl (Or.inl rfl) (pe_lst pa_nil))
        (pss_cons (ps_for PassesOwn.never rfl (pi_tup (pe_ix ix_im (pe_ix ix_im (pv 0) pe_int (fun _ _ => rfl)) (pe_ix (ixL (K := K) rfl) (pv 2) (pe_callB (lenS (K := K) rfl) (by rfl) g_len PySem.boot_len (pa_cons (pv 3) pa_nil)) (fun _ _ => rfl)) (fun _ _ => rfl))) (pg_name (i := 5) sc_l_tight.nd rfl (by first | exact Or.inl rfl | exact Or.inr rfl))
          (pss_cons (ps_setLc (i := 6) (own := [("k", 7)]) (g := (gName 7)) rfl sc_l_tight.nd rfl rfl (sw_true rfl rfl rfl (by decide +kernel)) (pi_rngN rfl g_range (pa_cons (pe_callB (lenS (K := K) rfl) (by rfl) g_len PySem.boot_len (pa_cons (pv 2) pa_nil)) pa_nil)) (blkOk_by (by kernel_rfl)) (fun _ _ _ _ _ => (pg_name (i := 7) sc_l_tight.nd rfl (by first | exact Or.inl rfl | exact Or.inr rfl))) (fun _ _ _ _ _ => (pts_one (pt_not (pt_val (pe_ix (ixL (K := K) rfl) (pe_ix (ixL (K := K) rfl) (pv 1) (pe_ix (ixL (K := K) rfl) (pv 2) (pv 7) (fun _ _ => rfl)) (fun _ _ => rfl)) (pv 5) (fun _ _ => rfl)))))) (fun _ _ _ _ _ => (pv 7)))
          (pss_one (ps_if (pt_truth (pv 6) (by intro _; rfl))
            (pss_one (ps_expr (pe_bm PySem.F.plainAttrs_list PySem.F.slot_list_append PySem.F.type_list_append mt_append (pv 4) (pa_cons (pe_ix (ixL (K := K) rfl) (pv 6) pe_int (fun _ _ => rfl)) pa_nil))))
            (pss_cons (ps_expr (pe_bm PySem.F.plainAttrs_list PySem.F.slot_list_append PySem.F.type_list_append mt_append (pv 4) (pa_cons (pe_callB (lenS (K := K) rfl) (by rfl) g_len PySem.boot_len (pa_cons (pv 2) pa_nil)) pa_nil)))
            (pss_one (ps_expr (pe_bm PySem.F.plainAttrs_list PySem.F.slot_list_append PySem.F.type_list_append mt_append (pv 2) (pa_cons (pv 5) pa_nil)))))))))
        (pss_one (ps_expr (pe_bm PySem.F.plainAttrs_list PySem.F.slot_list_append PySem.F.type_list_append mt_append (pv 3) (pa_cons (pe_callTy (tupOf (K := K) rfl) (by rfl) g_tuple (by decide +kernel) (pa_cons (pv 4) pa_nil)) pa_nil)))))))
      (pss_one (ps_ret (pe_tup (pa_cons (pe_ix ix_im (pv 0) pe_int (fun _ _ => rfl)) (pa_cons (pe_callTy (tupOf (K := K) rfl) (by rfl) g_tuple (by decide +kernel) (pa_cons (pv 3) pa_nil)) (pa_cons (pe_callTy (tupOf (K := K) rfl) (by rfl) g_tuple (by decide +kernel) (pa_cons (pe_lc (own := [("room", 8)]) (g := (gName 8)) (tt := tYes) rfl sc_l_tight.nd (pi_list (pv 2)) (blkOk_by (by kernel_rfl)) (fun _ _ _ _ _ => (pg_name (i := 8) sc_l_tight.nd rfl (by first | exact Or.inl rfl | exact Or.inr rfl))) (fun _ _ _ _ _ => pts_nil) (fun _ _ _ _ _ => (pe_ix ix_im (pe_ix ix_im (pv 0) pe_int (fun _ _ => rfl)) (pv 8) (fun _ _ => rfl)))) pa_nil)) pa_nil)))))))))), ?_⟩
    have w0 : Wd H H [] [(h.d, hv)] := Wd.start (by simpa using hI)
    refine ⟨_, rfl, h, hv, rfl, o, hn, hI, fun l rs T H1 wT ers sq hT => ?_⟩
    have w1 : Wd H H1 [.LL l rs] [(h.d, hv)] := w0.join1 wT (flat_tab ers)
    refine ⟨(by show 1 ≤ sizeLine; decide), fun lo hlo => ?_⟩
    have w2 : Wd H _ [.L lo ([0].map nD), .LL l rs] [(h.d, hv)] := w1.pushL hlo (ImAll.nats [0])
    refine ⟨Nat.zero_le _, fun lr hlr => ?_⟩
    have w3 : Wd H _ [.L lr [], .L lo ([0].map nD), .LL l rs] [(h.d, hv)] := w2.pushL hlr ImAll.nil
    let Ee : Nat → Nat → Bool := fun r g => !tab T r g
    have hE : ∀ a, a < h.n → Ee a a = true := fun a ha => by
      show (!tab T a a) = true
      cases e : tab T a a with
      | false => rfl
      | true => exact absurd ((hT a a ha ha).mp e) dist_irrefl
    have hEs : ∀ a b, a < h.n → b < h.n → Ee a b = same h a b := fun a b ha hb => by
      show (!tab T a b) = same h a b
      cases e : tab T a b with
      | false => exact (same_iff.mpr fun d => by rw [(hT a b ha hb).mpr d] at e; cases e).symm
      | true =>
        cases e2 : same h a b with
        | false => rfl
        | true => exact absurd ((hT a b ha hb).mp e) (same_iff.mp e2)
    refine ⟨fun m σ H' => ∃ (i : Nat) (v4 v5 v6 : Option V), m = h.n - i ∧ i ≤ h.n ∧ (∀ j, j < i → j < (meetAll Ee h j).1.length) ∧ σ = [some hv, some (.ref l), some (.ref lo), some (.ref lr), v4, v5, v6, none, none] ∧
      Wd H H' [.L lr ((meetAll Ee h i).2.map roomD), .L lo ((meetAll Ee h i).1.map nD), .LL l rs] [(h.d, hv)], ⟨_, 0, none, none, none, rfl, Nat.zero_le _, fun j hj => by omega, rfl, w3⟩, ?_⟩
    rintro m σ H2 ⟨i, v4, v5, v6, rfl, hi, hlt, rfl, w4⟩
    obtain ⟨xr, er, ir⟩ := w4.list 0
    have eo := w4.nats 1
    refine ⟨_, rfl, lr, _, rfl, .inl (SqL.of er), _, rfl, lo, _, rfl, .inl (SqL.of eo), _, _, rfl, rfl, _, rfl, ?_⟩
    rw [ir.length, List.length_map, List.length_map, meetAll_rows]
    refine ite2 (fun c => ?_) (fun c => ?_)
    · have c : i < (meetAll Ee h i).1.length := by simpa using c
      have hin : i < h.n := Nat.lt_of_lt_of_le c ((meetAll_met o i).len hE)
      refine ⟨_, fun σ' H' hN => hN, ?_⟩
      -- row = []
      refine ⟨Nat.zero_le _, fun lw hlw => ?_⟩
      have w5 := w4.pushL (ds := ([] : List Nat).map nD) (xs := []) hlw ImAll.nil
      have hro : (meetAll Ee h i).1.getD i 0 < h.n := (meetAll_met o i).lt _ (getD_mem c)
      have eo5 := w5.nats 2
      obtain ⟨xr5, er5, ir5⟩ := w5.list 1
      -- for goal in hall[1][order[len(rooms)]]
      refine ⟨_, rfl, _, _, 1, _, w5.get 0, rfl, rfl, fun v1 h1 => ⟨_, rfl, _, rfl, lr, _, rfl, .inl (SqL.of er5), lo, _, _, nV ((meetAll Ee h i).1.getD i 0), rfl, rfl, SqL.of eo5, ?_, _, _, _, _, h1, rfl, at_rooms hro, fun v2 h2 => ?_⟩⟩
      · rw [ir5.length, List.length_map, meetAll_rows]
        exact atI_nat (by rw [List.getElem?_map, getD_get (d := 0) c]; rfl)
      have w6 := w5.add h2
      obtain ⟨ag, xg, rfl, eg, _, ig⟩ := h2
      have exg := ig.nats_inv
      subst exg
      refine ⟨ag, rfl, ⟨_, SqT.of eg⟩, for_tup (K := K) (a := ag) (xs := (h.rooms.getD ((meetAll Ee h i).1.getD i 0) []).map nV) (fun j σ H' => ∃ (v5 v6 : Option V), σ = [some hv, some (.ref l), some (.ref lo), some (.ref lr), some (.ref lw), v5, v6, none, none] ∧
        Wd H H' [.L lw ((meetRow Ee (meetAll Ee h i).1 [] ((h.rooms.getD ((meetAll Ee h i).1.getD i 0) []).take j)).2.map nD), .L lr ((meetAll Ee h i).2.map roomD), .L lo ((meetRow Ee (meetAll Ee h i).1 [] ((h.rooms.getD ((meetAll Ee h i).1.getD i 0) []).take j)).1.map nD), .LL l rs] [(roomD (h.rooms.getD ((meetAll Ee h i).1.getD i 0) []), .ref ag), (h.d, hv)])
        ⟨v5, v6, rfl, w6⟩ (fun j σ H' _ ⟨_, _, _, w7⟩ => SqT.of (Im.nats (w7.get 0))) ?_ ?_⟩
      · rintro j x σ H3 hx ⟨u5, u6, rfl, w7⟩
        obtain ⟨g, eg2, rfl⟩ : ∃ g, (h.rooms.getD ((meetAll Ee h i).1.getD i 0) [])[j]? = some g ∧ x = nV g := by
          rw [List.getElem?_map] at hx
          cases e : (h.rooms.getD ((meetAll Ee h i).1.getD i 0) [])[j]? with
          | none => rw [e] at hx; cases hx
          | some g => rw [e] at hx; exact ⟨g, rfl, (Option.some.inj hx).symm⟩
        have hg : g < h.n := room_lt o _ g (List.mem_of_getElem? eg2)
        have etk : (h.rooms.getD ((meetAll Ee h i).1.getD i 0) []).take (j + 1) = (h.rooms.getD ((meetAll Ee h i).1.getD i 0) []).take j ++ [g] := by
          rw [List.take_add_one, eg2]; rfl
        have hmet := (Met.row (E := Ee) ((h.rooms.getD ((meetAll Ee h i).1.getD i 0) []).take j) (row := []) (meetAll_met o i) fun y hy => room_lt o _ y (List.mem_of_mem_take hy)).1
        have hrl := meetRow_len (E := Ee) ((h.rooms.getD ((meetAll Ee h i).1.getD i 0) []).take j) (meetAll Ee h i).1 []
        have hrl3 : (meetRow Ee (meetAll Ee h i).1 [] ((h.rooms.getD ((meetAll Ee h i).1.getD i 0) []).take j)).2.length ≤ 3 := by
          rw [hrl, List.length_take, o.room hro]; have := o.w3; simp; omega
        rw [etk, meetRow_snoc]
        generalize hom : (meetRow Ee (meetAll Ee h i).1 [] ((h.rooms.getD ((meetAll Ee h i).1.getD i 0) []).take j)).1 = om at *
        generalize hrw : (meetRow Ee (meetAll Ee h i).1 [] ((h.rooms.getD ((meetAll Ee h i).1.getD i 0) []).take j)).2 = rw2 at *
        have eo7 := w7.nats 2
        have homl := hmet.len hE
        -- same = [..]
        refine ⟨_, rfl, lo, _, rfl, .inl (SqL.of eo7), om.length, by rw [List.length_map], by omega, fun Ds hDs => lc_rangeW (fun j => ((List.range j).filter fun k => Ee (om.getD k 0) g).map nD) w7 hDs rfl (fun j hj => by rw [List.length_map]; exact sl_small (Nat.le_trans (filter_len _ _) (by omega))) (fun k H4 hk w8 => ?_) (fun H4 w8 => ?_)⟩
        · intro Qt Qf k1 k2
          have hok : om.getD k 0 < h.n := hmet.lt _ (getD_mem hk)
          obtain ⟨r, err, e3⟩ := row_of ers sq hok
          obtain ⟨f1, f2, xs, f3, f4⟩ := w8.row 4 rfl err
          rw [e3] at f4
          obtain ⟨y, ey, iy⟩ := f4.get (i := g) (d := .bool (tab T (om.getD k 0) g)) (by rw [List.getElem?_map, getD_get (d := false) (by rw [sq.row hok]; exact hg)]; rfl)
          cases iy
          have eo8 := w8.nats 3
          refine ⟨_, rfl, _, rfl, _, rfl, lo, _, _, nV (om.getD k 0), rfl, rfl, SqL.of eo8, atI_nat (by rw [List.getElem?_map, getD_get (d := 0) hk]; rfl), l, _, _, _, rfl, rfl, SqL.of f1, atI_nat f2, _, rfl, r.1, _, _, _, rfl, rfl, SqL.of f3, atI_nat ey, _, rfl, ?_⟩
          refine ite2 (fun e => ?_) (fun e => ?_)
          · exact ⟨_, rfl, k1 _ _ (nD k) w8 rfl (filter_range_t _ _ e)⟩
          · exact k2 _ w8 (filter_range_f _ _ (by simpa [Ee] using e))
        · have es := w8.nats 0
          have hfi := findIdx_range (p := fun r => Ee r g) om
          refine ⟨_, rfl, _, .inl ⟨_, SqL.of es, rfl⟩, ?_⟩
          cases hf : (List.range om.length).filter fun k => Ee (om.getD k 0) g with
          | nil =>
            rw [hf] at hfi
            have em : meet Ee om g = (om ++ [g], om.length) := by unfold meet; rw [hfi]; rfl
            refine iteF ?_
            obtain ⟨xw, ew, iw⟩ := w8.list 1
            refine ⟨_, rfl, .inl ⟨rfl, _, SqL.of ew⟩, _, rfl, lo, _, rfl, .inl (SqL.of (w8.nats 3)), lw, _, _, rfl, rfl, ew, ?_, ?_⟩
            · rw [iw.length, List.length_map]; exact sl_small (by omega)
            have w9 := w8.turnL 1 (ds' := (rw2 ++ [om.length]).map nD) (xs := xw ++ [nV (om.map nV).length]) rfl (by rw [List.map_append, List.length_map]; exact iw.snoc rfl)
            have eo9 := w9.nats 3
            refine ⟨_, rfl, .inl ⟨rfl, _, SqL.of eo9⟩, _, rfl, lo, _, _, rfl, rfl, eo9, ?_, ?_⟩
            · rw [List.length_map]; exact sl_small (by omega)
            have w10 := w9.turnL 3 (ds' := (om ++ [g]).map nD) (xs := om.map nV ++ [nV g]) rfl (ImAll.natsS om g)
            rw [em]
            exact ⟨_, _, rfl, w10.pop⟩
          | cons k0 rest =>
            rw [hf] at hfi
            have em : meet Ee om g = (om, k0) := by unfold meet; rw [hfi]; rfl
            refine iteT ?_
            obtain ⟨xw, ew, iw⟩ := w8.list 1
            rw [hf] at es
            refine ⟨_, rfl, .inl ⟨rfl, _, SqL.of ew⟩, _, rfl, Ds, _, _, nV k0, rfl, rfl, SqL.of es, atI_nat (j := 0) rfl, lw, _, _, rfl, rfl, ew, ?_, ?_⟩
            · rw [iw.length, List.length_map]; exact sl_small (by omega)
            have w9 := w8.turnL 1 (ds' := (rw2 ++ [k0]).map nD) (xs := xw ++ [nV k0]) rfl (by rw [List.map_append]; exact iw.snoc rfl)
            rw [em]
            exact ⟨_, _, rfl, w9.pop⟩
      · rintro σ H3 ⟨u5, u6, rfl, w7⟩
        rw [List.length_map, List.take_length] at w7
        -- rooms.append(tuple(row))
        obtain ⟨xr7, er7, ir7⟩ := w7.list 1
        obtain ⟨xw7, ew7, iw7⟩ := w7.list 0
        refine ⟨_, rfl, .inl ⟨rfl, _, SqL.of er7⟩, _, rfl, lw, _, rfl, .inl ⟨SqL.of ew7, fun p hp => ?_⟩⟩
        have w8 := w7.tup hp iw7
        obtain ⟨xr8, er8, ir8⟩ := w8.list 1
        refine ⟨lr, _, _, rfl, rfl, er8, ?_, ?_⟩
        · rw [ir8.length, List.length_map, meetAll_rows]; exact sl_small (by omega)
        have w9 := (w8.turnL 1 rfl (ir8.snoc (w8.get 0))).pop
        refine ⟨h.n - (i + 1), by omega, i + 1, _, _, _, rfl, hin, fun j hj => ?_, rfl, ?_⟩
        · by_cases e : j = i
          · subst e; exact c
          · exact hlt j (by omega)
        · have e2 : (meetAll Ee h (i + 1)).2.map roomD = (meetAll Ee h i).2.map roomD ++ [roomD (meetRow Ee (meetAll Ee h i).1 [] (h.rooms.getD ((meetAll Ee h i).1.getD i 0) [])).2] := by
            rw [meetAll, List.map_append]; rfl
          rw [e2]
          exact w9.less (by simp)
    · have c : (meetAll Ee h i).1.length ≤ i := by simpa using c
      have ek := tightN_eq o hE hlt c
      have et : tightOf Ee h = tightH h := tightOf_congr o hE hEs
      -- return
      obtain ⟨xr4, er4, ir4⟩ := w4.list 0
      refine at_ret (x_tup (x_cons (t_w (w4.get 0) ⟨_, rfl, lr, _, rfl, .inl ⟨SqL.of er4, fun p hp => ?_⟩⟩)))
      have w5 := w4.tup hp ir4
      have eo5 := w5.nats 1
      refine ⟨_, rfl, lo, rfl, ⟨_, SqL.of eo5⟩, fun D hD => lc_listW (K := K) (xs := (meetAll Ee h i).1.map nV) (fun j => (((meetAll Ee h i).1.map h.lit).take j).map nD) w5 hD rfl (fun j hj => ?_) (fun j H3 hj w6 => SqL.of (w6.nats 2)) (fun j x H3 hx w6 => CompTurn.all fun Qt k => ?_) (fun H3 w6 => ?_)⟩
      · rw [List.length_map] at hj
        rw [List.length_map, List.length_take, List.length_map]
        have := (meetAll_met (E := Ee) o i).len hE
        exact sl_small (by omega)
      · obtain ⟨r, er2, rfl⟩ : ∃ r, (meetAll Ee h i).1[j]? = some r ∧ x = nV r := by
          rw [List.getElem?_map] at hx
          cases e : (meetAll Ee h i).1[j]? with
          | none => rw [e] at hx; cases hx
          | some g => rw [e] at hx; exact ⟨g, rfl, (Option.some.inj hx).symm⟩
        refine t_lit o (w6.get 1) ((meetAll_met o i).lt r (List.mem_of_getElem? er2)) ?_
        refine k _ _ (nD (h.lit r)) w6 rfl ?_
        show ((((meetAll Ee h i).1.map h.lit).take (j + 1)).map nD) = _
        rw [List.take_add_one, List.getElem?_map, er2, List.map_append]; rfl
      · have e7 : (((meetAll Ee h i).1.map h.lit).take ((meetAll Ee h i).1.map nV).length) = (meetAll Ee h i).1.map h.lit := by
          rw [List.length_map]
          exact List.take_of_length_le (by rw [List.length_map]; exact Nat.le_refl _)
        rw [e7] at w6
        obtain ⟨xl, el, il⟩ := w6.list 0
        refine ⟨D, _, rfl, .inl ⟨SqL.of el, fun p2 hp2 => ?_⟩⟩
        have w7 := w6.tup hp2 il
        refine ⟨(by show 3 ≤ sizeLine; decide), fun p3 hp3 => ?_⟩
        have w8 := w7.tup hp3 (ImAll.cons (d := nD h.w) rfl (ImAll.cons (w7.get 1) (ImAll.cons (w7.get 0) ImAll.nil)))
        refine q _ _ w8.same ?_
        have h8 := (w8.get 0).bare
        rw [← et, tightOf, ek]
        exact h8
end
/-! ### the law's halls are halls -/
theorem lawHall_n (ns : List Int) (t : Nat) : (lawHall ns t).n = hMany ns t := by
  show ((List.range (hMany ns t)).map _).length = _
  rw [List.length_map, List.length_range]
theorem lawHall_ok (ns : List Int) (t : Nat) : (lawHall ns t).Ok := by
  have hn := lawHall_n ns t
  have h1 := hMany_pos ns t
  have h2 := hMany_le ns t
  refine ⟨?_, ?_, by omega, by omega, fun r hr => ?_, fun r hr g hg => ?_, ?_, fun l hl => ?_⟩
  · show 1 ≤ hW ns t
    rcases hW_cases ns t with h | h | h <;> omega
  · show hW ns t ≤ 3
    rcases hW_cases ns t with h | h | h <;> omega
  · obtain ⟨k, _, rfl⟩ := List.mem_map.mp hr
    show ((List.range (hW ns t)).map _).length = hW ns t
    rw [List.length_map, List.length_range]
  · obtain ⟨k, _, rfl⟩ := List.mem_map.mp hr
    obtain ⟨v, _, rfl⟩ := List.mem_map.mp hg
    rw [hn]; exact mix_lt _ _ h1
  · show ((List.range (hMany ns t)).map _).length = _
    rw [List.length_map, List.length_range, hn]
  · obtain ⟨k, _, rfl⟩ := List.mem_map.mp hl
    have : mix _ _ 2 < 2 := mix_lt (ns.getD (t + 2 + k % 7) 0 + 37 * (k : Int) * k) 9941 (m := 2) (by decide)
    exact Nat.le_of_lt_succ this
theorem tightH_ok {h : Hall} (o : h.Ok) : (tightH h).Ok := tightOf_ok o fun a _ => same_refl a
theorem tightH_n {h : Hall} (o : h.Ok) : (tightH h).n ≤ h.n := tightOf_n o fun a _ => same_refl a
theorem noL_rooms : ∀ rs : List (List Nat), noLs (rs.map roomD) = true
  | [] => rfl
  | r :: rs => by
    show (noLs (r.map nD) && noLs (rs.map roomD)) = true
    rw [noL_nats, noL_rooms rs]; rfl
theorem noL_hall (h : Hall) : noL h.d = true := by
  show (true && (noLs (h.rooms.map roomD) && (noLs (h.lights.map nD) && true))) = true
  rw [noL_rooms, noL_nats]; rfl
/-- the tight hall of the law's hall -/
def spLmade (K : PySem.W.Frag) : Sp := fun vs H Q _ => ∃ (a : Addr) (ns : List Int) (t : Nat), vs = [.ref a, nV t] ∧ SqL K H a (ns.map V.int) ∧ ∀ v H', Same H H' → Im H' [] (tightH (lawHall ns t)).d v → Q v H'
section
variable {P : Program} {w : World} {K : PySem.W.Frag} {mg : Str → Option Value} {base : Heap}
theorem sc_l_made : FnScope ["script", "at"] ["script", "at"] (defScope s_l_made) := ⟨rfl, rfl, rfl, by decide +kernel, rfl, by decide +kernel, by decide +kernel⟩
theorem ok_l_made {f : Addr} {fd : FuncData} (F : Fun K "_law_made" "_law_made" s_l_made f fd) (C_l_hall : Cal P w K mg base CX0 3 "_law_hall" ["script", "at"] (spLhall K)) (C_l_tight : Cal P w K mg base CX0 2 "_law_tight" ["hall"] spLtight) :
    FnOk P w K mg base CX0 4 f fd ["script", "at"] (spLmade K) := by
  refine F.ok sc_l_made (fun vs H Q E h => ?_) (fun cdv A outer s H vs Q E hr h => ?_)
  · obtain ⟨_, _, _, rfl, _⟩ := h
    rfl
  · obtain ⟨a, ns, t, rfl, hS, q⟩ := h
    refine ⟨_, (pss_one (ps_ret (pe_fn C_l_tight hr (by decide) rfl (pa_cons (pe_fn C_l_hall hr (by decide) rfl (pa_cons (pv 0) (pa_cons (pv 1) pa_nil))) pa_nil)))), ?_⟩
    refine ⟨_, rfl, _, rfl, a, ns, t, rfl, hS, fun v H1 s1 im => ?_⟩
    refine ⟨_, v, rfl, lawHall_ok ns t, by rw [lawHall_n]; have := hMany_le ns t; omega, im, fun v2 H2 s2 im2 => q v2 H2 (s1.trans s2) im2⟩
end
/-! ### tunes -/
def okTune (w : Nat) : PyData → Bool
  | .str z => z.cps.toList.all fun c => decide (97 ≤ c ∧ c < 97 + w)
  | _ => false
theorem okTune_tune {w : Nat} {t : List Nat} (h : ∀ c ∈ t, c < w) : okTune w (.str (tuneS t)) = true := by
  show (tuneS t).cps.toList.all _ = true
  rw [tuneS_cps, List.all_map, List.all_eq_true]
  intro c hc
  have := h c hc
  simp; omega
theorem mem_letters {w c : Nat} : c ∈ (tuneS (List.range w)).cps.toList ↔ 97 ≤ c ∧ c < 97 + w := by
  rw [tuneS_cps, List.mem_map]
  constructor
  · rintro ⟨a, ha, rfl⟩
    have : a < w := by simpa using ha
    omega
  · rintro ⟨h1, h2⟩
    exact ⟨c - 97, by simp; omega, by omega⟩
def spLetters : Sp := fun vs H Q _ => ∃ w : Nat, vs = [nV w] ∧ w ≤ 3 ∧ Q (.str (tuneS (List.range w))) H
def spLookTune (C : Addr) : Sp := fun vs H Q E => ∃ (Z : List Addr) (d : PyData) (x : V) (w : Nat), vs = [x, nV w] ∧ Im H Z d x ∧ w ≤ 3 ∧ (okTune w d = true → Q .non H) ∧ (okTune w d = false → E (.ref C) none H)
def spLed : Sp := fun vs H Q _ => ∃ (Z : List Addr) (h : Hall) (hv : V) (r : Nat) (t : List Nat), vs = [hv, nV r, .str (tuneS t)] ∧ h.Ok ∧ Im H Z h.d hv ∧ r < h.n ∧ (∀ c ∈ t, c < h.w) ∧ Q (nV (h.run r t)) H
/-- whether a tune is good -/
def Hall.good (h : Hall) (t : List Nat) : Bool := decide (h.lit (h.run 0 t) = 1)
def spHas (C : Addr) : Sp := fun vs H Q E => ∃ (Z : List Addr) (h : Hall) (hv : V) (Z' : List Addr) (d : PyData) (x : V), vs = [hv, x] ∧ h.Ok ∧ Im H Z h.d hv ∧ Im H Z' d x ∧
  (∀ t, d = .str (tuneS t) → (∀ c ∈ t, c < h.w) → Q (.bl (h.good t)) H) ∧ (okTune h.w d = false → E (.ref C) none H)
def spLgood : Sp := fun vs H Q _ => ∃ (Z : List Addr) (h : Hall) (hv : V) (t : List Nat), vs = [hv, .str (tuneS t)] ∧ h.Ok ∧ Im H Z h.d hv ∧ (∀ c ∈ t, c < h.w) ∧ Q (.bl (h.good t)) H
/-- a text of whistles alone is a tune -/
theorem okTune_inv {w : Nat} {z : Str} (h : okTune w (.str z) = true) : ∃ t, z = tuneS t ∧ ∀ c ∈ t, c < w := by
  have h : z.cps.toList.all (fun c => decide (97 ≤ c ∧ c < 97 + w)) = true := h
  rw [List.all_eq_true] at h
  refine ⟨z.cps.toList.map (· - 97), ?_, fun c hc => ?_⟩
  · obtain ⟨⟨l⟩⟩ := z
    unfold tuneS
    congr 1
    show Array.mk l = _
    rw [List.map_map]
    have : l.map ((fun x => x + 97) ∘ fun x => x - 97) = l := by
      conv => rhs; rw [← List.map_id l]
      refine List.map_congr_left fun c hc => ?_
      have := h c hc
      simp at this
      simp; omega
    simp only [this]
  · obtain ⟨a, ha, rfl⟩ := List.mem_map.mp hc
    have := h a ha
    simp at this
    omega
def lawTune (ns : List Int) (t w most : Nat) : List Nat := (List.range (mix (ns.getD t 0) 9931 (most + 1))).map fun (k : Nat) => mix (ns.getD t 0 + ((41 * k * k : Nat) : Int)) 9923 w
theorem lawTune_lt (ns : List Int) (t most : Nat) {w : Nat} (hw : 0 < w) : ∀ c ∈ lawTune ns t w most, c < w := fun c hc => by
  obtain ⟨k, _, rfl⟩ := List.mem_map.mp hc
  exact mix_lt _ _ hw
theorem lawTune_len (ns : List Int) (t w most : Nat) : (lawTune ns t w most).length ≤ most := by
  unfold lawTune
  rw [List.length_map, List.length_range]
  exact Nat.le_of_lt_succ (mix_lt (ns.getD t 0) 9931 (Nat.succ_pos most))
def spLtune (K : PySem.W.Frag) : Sp := fun vs H Q _ => ∃ (a : Addr) (ns : List Int) (t w most : Nat), vs = [.ref a, nV t, nV w, nV most] ∧ SqL K H a (ns.map V.int) ∧ 1 ≤ w ∧ w ≤ 3 ∧ most ≤ 1000 ∧ ∀ H', Same H H' → Q (.str (tuneS (lawTune ns t w most))) H'
theorem joinL_ones : ∀ t : List Nat, TL.joinL [] (t.map fun c => [c + 97]) = t.map (· + 97)
  | [] => rfl
  | [c] => rfl
  | c :: d :: t => by
    have := joinL_ones (d :: t)
    show [c + 97] ++ ([] ++ TL.joinL [] ((d :: t).map fun c => [c + 97])) = _
    rw [this]; rfl
theorem str_ext {x y : Str} (h : x.cps.toList = y.cps.toList) : x = y := by
  obtain ⟨⟨a⟩⟩ := x
  obtain ⟨⟨b⟩⟩ := y
  have : a = b := h
  subst this; rfl
theorem join_ones (t : List Nat) : Txt.join "" (t.map fun c => (⟨#[c + 97]⟩ : Str)) = tuneS t := by
  refine str_ext ?_
  rw [TL.join_eq]
  have h := TL.tl_join "" (t.map fun c => (⟨#[c + 97]⟩ : Str))
  rw [List.map_map] at h
  exact h.trans (joinL_ones t)
section
variable {P : Program} {w : World} {K : PySem.W.Frag} {mg : Str → Option Value} {base : Heap}
theorem sc_letters : FnScope ["whistles"] ["whistles"] (defScope s_letters) := ⟨rfl, rfl, rfl, by decide +kernel, rfl, by decide +kernel, by decide +kernel⟩
theorem ok_letters {f : Addr} {fd : FuncData} (F : Fun K "letters" "letters" s_letters f fd) : FnOk P w K mg base CX0 1 f fd ["whistles"] spLetters := by
  refine F.ok sc_letters (fun vs H Q E h => ?_) (fun cdv A outer s H vs Q E hr h => ?_)
  · obtain ⟨_, rfl, _⟩ := h
    rfl
  · obtain ⟨w, rfl, hw, q⟩ := h
    refine ⟨_, (pss_one (ps_ret (pe_slice sl_abc pe_str po_none (po_some (pv 0))))), ?_⟩
    exact ⟨_, rfl, _, rfl, w, rfl, rfl, rfl, hw, q⟩
theorem sc_look_tune : FnScope ["tune", "whistles", "sign"] ["tune", "whistles"] (defScope s_look_tune) := ⟨rfl, rfl, rfl, by decide +kernel, rfl, by decide +kernel, by decide +kernel⟩
theorem ok_look_tune {f cT : Addr} {fd : FuncData} (F : Fun K "look_tune" "look_tune" s_look_tune f fd) (g_isinstance : mg "isinstance" = none) (g_str : mg "str" = none) (X_BadTune : XCls K mg "BadTune" cT) (C_letters : Cal P w K mg base CX0 1 "letters" ["whistles"] spLetters) :
    FnOk P w K mg base (L2.CX P w) 2 f fd ["tune", "whistles"] (spLookTune cT) := by
  refine F.okX sc_look_tune (fun vs H Q E h => ?_) (fun cdv A outer s H vs Q E hr h => ?_)
  · obtain ⟨_, _, _, _, rfl, _⟩ := h
    rfl
  · obtain ⟨Z, d, x, w, rfl, im, hw, q1, q2⟩ := h
    refine ⟨_, (pss_cons (ps_if (pt_not (pt_val (pe_callB (isD (T := "str") (by decide)) (by rfl) g_isinstance (by decide +kernel) (pa_cons (pv 0) (pa_cons (pe_bltn (v := .ty "str") (by rfl) g_str (by decide +kernel) rfl) pa_nil)))))
        (pss_one (ps_raise rfl (takes_of rfl rfl rfl rfl) (X_BadTune.mk1 rfl)))
        pss_nil)
      (pss_one (ps_for (passes_of rfl) rfl (pi_str (pv 0)) (pg_name (i := 2) sc_look_tune.nd rfl (by first | exact Or.inl rfl | exact Or.inr rfl))
        (pss_one (ps_if (pt_cmpR op_notIn_sign (pv 2) (pe_fn C_letters hr (by decide) rfl (pa_cons (pv 1) pa_nil)) rfl)
          (pss_one (ps_raise rfl (takes_of rfl rfl rfl rfl) (X_BadTune.mk1 rfl)))
          pss_nil))))), ?_⟩
    refine ⟨_, rfl, Z, d, x, rfl, im, _, rfl, ?_⟩
    have noS : (∀ z, d ≠ .str z) → isT d "str" = false ∧ okTune w d = false := fun hn => by
      cases d with
      | str z => exact absurd rfl (hn z)
      | _ => exact ⟨by dsimp only [isT, tyN]; decide +kernel, rfl⟩
    by_cases hs : ∃ z, d = .str z
    · obtain ⟨z, rfl⟩ := hs
      have im : x = .str z := im
      subst im
      have e1 : isT (.str z) "str" = true := by dsimp only [isT, tyN]; decide +kernel
      rw [e1]
      refine iteF ?_
      refine ⟨_, rfl, z, rfl, for_str (fun i σ H' => ∃ v2, σ = [some (.str z), some (nV w), v2] ∧ H = H' ∧ (z.cps.toList.take i).all (fun c => decide (97 ≤ c ∧ c < 97 + w)) = true) ⟨none, rfl, rfl, by simp⟩ ?_ ?_⟩
      · rintro i c σ H' hc ⟨v2, rfl, rfl, hall⟩
        refine ⟨_, rfl, _, rfl, w, rfl, hw, c, _, rfl, rfl, _, rfl, ?_⟩
        refine ite2 (fun e => ?_) (fun e => ?_)
        · refine q2 ?_
          show z.cps.toList.all _ = false
          rw [List.all_eq_false]
          refine ⟨c, List.mem_of_getElem? hc, ?_⟩
          have e : ¬ c ∈ (tuneS (List.range w)).cps.toList := by simpa using e
          rw [mem_letters] at e
          simpa using e
        · refine ⟨_, rfl, rfl, ?_⟩
          have e : c ∈ (tuneS (List.range w)).cps.toList := by simpa using e
          rw [mem_letters] at e
          rw [List.take_add_one, hc, List.all_append, hall]
          simpa using e
      · rintro σ H' ⟨v2, rfl, rfl, hall⟩
        rw [List.take_length] at hall
        exact q1 hall
    · obtain ⟨e1, e2⟩ := noS fun z e => hs ⟨z, e⟩
      rw [e1]
      exact iteT (q2 e2)
theorem sc_led : FnScope ["hall", "room", "tune", "sign"] ["hall", "room", "tune"] (defScope s_led) := ⟨rfl, rfl, rfl, by decide +kernel, rfl, by decide +kernel, by decide +kernel⟩
theorem ok_led {f : Addr} {fd : FuncData} (F : Fun K "led" "led" s_led f fd) : FnOk P w K mg base CX0 1 f fd ["hall", "room", "tune"] spLed := by
  refine F.ok sc_led (fun vs H Q E h => ?_) (fun cdv A outer s H vs Q E hr h => ?_)
  · obtain ⟨_, _, _, _, _, rfl, _⟩ := h
    rfl
  · obtain ⟨Z, h, hv, r, t, rfl, o, hI, hr0, ht, q⟩ := h
    refine ⟨_, (pss_cons (ps_for PassesOwn.never rfl (pi_str (pv 2)) (pg_name (i := 3) sc_led.nd rfl (by first | exact Or.inl rfl | exact Or.inr rfl))
        (pss_one (ps_set (i := 1) sc_led.nd rfl (Or.inl rfl) (pe_ix ix_im (pe_ix ix_im (pe_ix ix_im (pv 0) pe_int (fun _ _ => rfl)) (pv 1) (fun _ _ => rfl)) (pe_m1 PySem.F.slot_str_index PySem.F.type_str_index mt_abc pe_str (pv 3)) (fun _ _ => rfl)))))
      (pss_one (ps_ret (pv 1)))), ?_⟩
    refine ⟨_, rfl, tuneS t, rfl, for_str (fun i σ H' => ∃ v3, σ = [some hv, some (nV (h.run r (t.take i))), some (.str (tuneS t)), v3] ∧ H = H') ⟨none, rfl, rfl⟩ ?_ ?_⟩
    · rintro i c σ H' hc ⟨v3, rfl, rfl⟩
      rw [tuneS_cps, List.getElem?_map] at hc
      cases e : t[i]? with
      | none => rw [e] at hc; cases hc
      | some d =>
        rw [e] at hc
        have hc : d + 97 = c := Option.some.inj hc
        subst hc
        have hd : d < h.w := ht d (List.mem_of_getElem? e)
        have hrun : h.run r (t.take i) < h.n := o.run_lt hr0 fun x hx => ht x (List.mem_of_mem_take hx)
        have w3 := o.w3
        refine ⟨_, rfl, Z, _, 1, _, hI, rfl, rfl, fun v1 h1 => ⟨_, rfl, Z, _, _, _, h1, rfl, at_rooms hrun, fun v2 h2 => ⟨⟨_, rfl⟩, _, rfl, d, rfl, rfl, by omega, Z, _, _, _, h2, rfl, at_room o hrun hd, fun v4 h4 => ?_⟩⟩⟩
        have h4 : v4 = nV (h.go (h.run r (t.take i)) d) := h4
        subst h4
        refine ⟨some (.str ⟨#[d + 97]⟩), ?_, rfl⟩
        rw [List.take_add_one, e, Hall.run_app]
        rfl
    · rintro σ H' ⟨v3, rfl, rfl⟩
      refine ⟨_, rfl, ?_⟩
      rw [tuneS_cps, List.length_map, List.take_length]
      exact q
theorem sc_has : FnScope ["hall", "tune"] ["hall", "tune"] (defScope s_has) := ⟨rfl, rfl, rfl, by decide +kernel, rfl, by decide +kernel, by decide +kernel⟩
theorem ok_has {f cT : Addr} {fd : FuncData} (F : Fun K "has" "has" s_has f fd) (C_look_tune : Cal P w K mg base (L2.CX P w) 2 "look_tune" ["tune", "whistles"] (spLookTune cT)) (C_led : Cal P w K mg base CX0 1 "led" ["hall", "room", "tune"] spLed) :
    FnOk P w K mg base (L2.CX P w) 3 f fd ["hall", "tune"] (spHas cT) := by
  refine F.okX sc_has (fun vs H Q E h => ?_) (fun cdv A outer s H vs Q E hr h => ?_)
  · obtain ⟨_, _, _, _, _, _, rfl, _⟩ := h
    rfl
  · obtain ⟨Z, h, hv, Z', d, x, rfl, o, hI, im, q1, q2⟩ := h
    refine ⟨_, (pss_cons (ps_expr (pe_fx C_look_tune hr (by decide) rfl (takes_of rfl rfl rfl rfl) (pa_cons (pv 1) (pa_cons (pe_ix ix_im (pv 0) pe_int (fun _ _ => rfl)) pa_nil))))
      (pss_one (ps_ret (pe_cmpR oN_eq (pe_ix ix_im (pe_ix ix_im (pv 0) pe_int (fun _ _ => rfl)) (pe_fn C_led hr (by decide) rfl (pa_cons (pv 0) (pa_cons pe_int (pa_cons (pv 1) pa_nil)))) (fun _ _ => rfl)) pe_int (nomark _))))), ?_⟩
    refine sq_drop (x_call (x_cons (x_var (x_cons (t_w hI ⟨Z', d, x, h.w, rfl, im, o.w3, fun e => ?_, q2⟩)))))
    cases d with
    | str z =>
      obtain ⟨t, rfl, ht⟩ := okTune_inv e
      have im : x = .str (tuneS t) := im
      subst im
      refine ⟨_, rfl, Z, _, 2, _, hI, rfl, rfl, fun v1 h1 => ⟨_, rfl, _, rfl, Z, h, hv, 0, t, rfl, o, hI, o.n1, ht, Z, _, _, _, h1, rfl, at_lit o (o.run_lt o.n1 ht), fun v2 h2 => ?_⟩⟩
      have h2 : v2 = nV (h.lit (h.run 0 t)) := h2
      subst h2
      exact ⟨_, 1, rfl, rfl, q1 t rfl ht⟩
    | _ => cases e
theorem sc_l_room : FnScope ["hall", "room", "tune", "sign"] ["hall", "room", "tune"] (defScope s_l_room) := ⟨rfl, rfl, rfl, by decide +kernel, rfl, by decide +kernel, by decide +kernel⟩
theorem ok_l_room {f : Addr} {fd : FuncData} (F : Fun K "_law_room" "_law_room" s_l_room f fd) : FnOk P w K mg base CX0 1 f fd ["hall", "room", "tune"] spLed := by
  refine F.ok sc_l_room (fun vs H Q E h => ?_) (fun cdv A outer s H vs Q E hr h => ?_)
  · obtain ⟨_, _, _, _, _, rfl, _⟩ := h
    rfl
  · obtain ⟨Z, h, hv, r, t, rfl, o, hI, hr0, ht, q⟩ := h
    refine ⟨_, (pss_cons (ps_for PassesOwn.never rfl (pi_str (pv 2)) (pg_name (i := 3) sc_l_room.nd rfl (by first | exact Or.inl rfl | exact Or.inr rfl))
        (pss_one (ps_set (i := 1) sc_l_room.nd rfl (Or.inl rfl) (pe_ix ix_im (pe_ix ix_im (pe_ix ix_im (pv 0) pe_int (fun _ _ => rfl)) (pv 1) (fun _ _ => rfl)) (pe_m1 PySem.F.slot_str_index PySem.F.type_str_index mt_abc pe_str (pv 3)) (fun _ _ => rfl)))))
      (pss_one (ps_ret (pv 1)))), ?_⟩
    refine ⟨_, rfl, tuneS t, rfl, for_str (fun i σ H' => ∃ v3, σ = [some hv, some (nV (h.run r (t.take i))), some (.str (tuneS t)), v3] ∧ H = H') ⟨none, rfl, rfl⟩ ?_ ?_⟩
    · rintro i c σ H' hc ⟨v3, rfl, rfl⟩
      rw [tuneS_cps, List.getElem?_map] at hc
      cases e : t[i]? with
      | none => rw [e] at hc; cases hc
      | some d =>
        rw [e] at hc
        have hc : d + 97 = c := Option.some.inj hc
        subst hc
        have hd : d < h.w := ht d (List.mem_of_getElem? e)
        have hrun : h.run r (t.take i) < h.n := o.run_lt hr0 fun x hx => ht x (List.mem_of_mem_take hx)
        have w3 := o.w3
        refine ⟨_, rfl, Z, _, 1, _, hI, rfl, rfl, fun v1 h1 => ⟨_, rfl, Z, _, _, _, h1, rfl, at_rooms hrun, fun v2 h2 => ⟨⟨_, rfl⟩, _, rfl, d, rfl, rfl, by omega, Z, _, _, _, h2, rfl, at_room o hrun hd, fun v4 h4 => ?_⟩⟩⟩
        have h4 : v4 = nV (h.go (h.run r (t.take i)) d) := h4
        subst h4
        refine ⟨some (.str ⟨#[d + 97]⟩), ?_, rfl⟩
        rw [List.take_add_one, e, Hall.run_app]
        rfl
    · rintro σ H' ⟨v3, rfl, rfl⟩
      refine ⟨_, rfl, ?_⟩
      rw [tuneS_cps, List.length_map, List.take_length]
      exact q
theorem sc_l_good : FnScope ["hall", "tune"] ["hall", "tune"] (defScope s_l_good) := ⟨rfl, rfl, rfl, by decide +kernel, rfl, by decide +kernel, by decide +kernel⟩
theorem ok_l_good {f : Addr} {fd : FuncData} (F : Fun K "_law_good" "_law_good" s_l_good f fd) (C_l_room : Cal P w K mg base CX0 1 "_law_room" ["hall", "room", "tune"] spLed) : FnOk P w K mg base CX0 2 f fd ["hall", "tune"] spLgood := by
  refine F.ok sc_l_good (fun vs H Q E h => ?_) (fun cdv A outer s H vs Q E hr h => ?_)
  · obtain ⟨_, _, _, _, rfl, _⟩ := h
    rfl
  · obtain ⟨Z, h, hv, t, rfl, o, hI, ht, q⟩ := h
    refine ⟨_, (pss_one (ps_ret (pe_cmpR oN_eq (pe_ix ix_im (pe_ix ix_im (pv 0) pe_int (fun _ _ => rfl)) (pe_fn C_l_room hr (by decide) rfl (pa_cons (pv 0) (pa_cons pe_int (pa_cons (pv 1) pa_nil)))) (fun _ _ => rfl)) pe_int (nomark _)))), ?_⟩
    refine ⟨_, rfl, Z, _, 2, _, hI, rfl, rfl, fun v1 h1 => ⟨_, rfl, _, rfl, Z, h, hv, 0, t, rfl, o, hI, o.n1, ht, Z, _, _, _, h1, rfl, at_lit o (o.run_lt o.n1 ht), fun v2 h2 => ?_⟩⟩
    have h2 : v2 = nV (h.lit (h.run 0 t)) := h2
    subst h2
    exact ⟨_, 1, rfl, rfl, q⟩
theorem sc_l_tune : FnScope ["script", "at", "whistles", "most", "cell", "size", "k"] ["script", "at", "whistles", "most"] (defScope s_l_tune) := ⟨rfl, rfl, rfl, by decide +kernel, rfl, by decide +kernel, by decide +kernel⟩
theorem ok_l_tune {f : Addr} {fd : FuncData} (F : Fun K "_law_tune" "_law_tune" s_l_tune f fd) (g_range : mg "range" = none) (C_l_cell : Cal P w K mg base CX0 1 "_law_cell" ["script", "k"] (spCell K)) (C_l_mix : Cal P w K mg base CX0 1 "_law_mix" ["cell", "prime", "many"] spMix) :
    FnOk P w K mg base CX0 2 f fd ["script", "at", "whistles", "most"] (spLtune K) := by
  refine F.ok sc_l_tune (fun vs H Q E h => ?_) (fun cdv A outer s H vs Q E hr h => ?_)
  · obtain ⟨_, _, _, _, _, rfl, _⟩ := h
    rfl
  · obtain ⟨a, ns, t, wh, most, rfl, hS, w1, w3, hm, q⟩ := h
    refine ⟨_, (pss_cons (ps_set (i := 4) sc_l_tune.nd rfl (Or.inr rfl) (pe_fn C_l_cell hr (by decide) rfl (pa_cons (pv 0) (pa_cons (pv 1) pa_nil))))
      (pss_cons (ps_set (i := 5) sc_l_tune.nd rfl (Or.inl rfl) (pe_fn C_l_mix hr (by decide) rfl (pa_cons (pv 4) (pa_cons pe_int (pa_cons (pe_op oN_add (pv 3) pe_int) pa_nil)))))
      (pss_one (ps_ret (pe_join pe_str (pe_lc (own := [("k", 6)]) (g := (gName 6)) (tt := tYes) rfl sc_l_tune.nd (pi_rngN rfl g_range (pa_cons (pv 5) pa_nil)) (blkOk_by (by kernel_rfl)) (fun _ _ _ _ _ => (pg_name (i := 6) sc_l_tune.nd rfl (by first | exact Or.inl rfl | exact Or.inr rfl))) (fun _ _ _ _ _ => pts_nil) (fun _ _ _ _ _ => (pe_ix ix_abc pe_str (pe_fn C_l_mix hr (by decide) rfl (pa_cons (pe_op op_add (pv 4) (pe_op oN_mul (pe_op oN_mul pe_int (pv 6)) (pv 6))) (pa_cons pe_int (pa_cons (pv 2) pa_nil)))) (fun _ _ => rfl))))))))), ?_⟩
    have w0 : Wd H H [] [] := Wd.start (by simp)
    have hsz : mix (ns.getD t 0) 9931 (most + 1) < most + 1 := mix_lt (ns.getD t 0) 9931 (Nat.succ_pos most)
    refine ⟨_, rfl, _, rfl, a, ns, t, rfl, hS, _, rfl, _, rfl, _, 1, rfl, rfl, _, 9931, most + 1, rfl, by decide, Nat.succ_pos _, ⟨_, rfl⟩, _, rfl, _, rfl, by omega, fun D hD => lc_rangeW (fun j => ((List.range j).map fun (k : Nat) => mix (ns.getD t 0 + ((41 * k * k : Nat) : Int)) 9923 wh).map fun c => .str ⟨#[c + 97]⟩) w0 hD rfl
      (fun j hj => by rw [List.length_map, List.length_map, List.length_range]; exact sl_small (by omega)) (fun j H3 hj w2 => CompTurn.all fun Qt k => ?_) (fun H3 w2 => ?_)⟩
    · refine ⟨_, rfl, _, rfl, 41, _, rfl, rfl, (by show 41 ≤ 1000000000; decide), _, rfl, _, _, rfl, rfl, (by show 41 * j ≤ 1000000000; omega), _, _, rfl, rfl, _, rfl, _, 9923, wh, rfl, by decide, w1, _, rfl, rfl, Nat.lt_of_lt_of_le (mix_lt _ _ w1) w3, ?_⟩
      refine k _ _ (.str _) w2 rfl ?_
      rw [map_range_succ, List.map_append]; rfl
    · obtain ⟨xs, ex, ix⟩ := w2.list 0
      have exs : xs = ((lawTune ns t wh most).map fun c => (⟨#[c + 97]⟩ : Str)).map V.str := by
        have key : ∀ (l : List Nat) (xs : List V), ImAll H3 (fps [.L D (((List.range (mix (ns.getD t 0) 9931 (most + 1))).map fun (k : Nat) => mix (ns.getD t 0 + ((41 * k * k : Nat) : Int)) 9923 wh).map fun c => .str ⟨#[c + 97]⟩)]) (l.map fun c => .str ⟨#[c + 97]⟩) xs → xs = (l.map fun c => (⟨#[c + 97]⟩ : Str)).map V.str := by
          intro l
          induction l with
          | nil => intro xs h; exact h
          | cons c l ih =>
            intro xs h
            obtain ⟨x, r, rfl, h1, h2⟩ := h
            have h1 : x = .str ⟨#[c + 97]⟩ := h1
            rw [h1, ih r h2]; rfl
        exact key _ _ ix
      subst exs
      refine ⟨_, D, _, rfl, rfl, .inl (SqL.of ex), ?_, ?_⟩
      · have hl := lawTune_len ns t wh most
        have e1 : (((lawTune ns t wh most).map fun c => (⟨#[c + 97]⟩ : Str)).map (·.length)).sum = (lawTune ns t wh most).length := by
          generalize lawTune ns t wh most = l
          induction l with
          | nil => rfl
          | cons c l ih => simp only [List.map_cons, List.sum_cons, ih, List.length_cons]; simp [Str.length]; omega
        have e2 : Str.length (Str.ofString "") = 0 := rfl
        rw [e1, e2]
        omega
      · have e : Txt.join (Str.ofString "") ((lawTune ns t wh most).map fun c => (⟨#[c + 97]⟩ : Str)) = tuneS (lawTune ns t wh most) := join_ones _
        show Q (.str (Txt.join "" _)) H3
        rw [e]
        exact q H3 w2.same
end
/-! ### numbers within bounds; patterns -/
def withinD (d : PyData) (lo hi : Int) : Bool := match d with
  | .int i => decide (lo ≤ i ∧ i ≤ hi)
  | _ => false
def spWithin : Sp := fun vs H Q _ => ∃ (Z : List Addr) (d : PyData) (x : V) (lo hi : Int), vs = [x, .int lo, .int hi] ∧ Im H Z d x ∧ Q (.bl (withinD d lo hi)) H
def patSign (w c : Nat) : Bool := [33, 46, 42, 124, 40, 41].contains c || decide (97 ≤ c ∧ c < 97 + w)
def ind (c k : Nat) : Int := if decide (c = k) = true then 1 else 0
def patTurn (w c : Nat) (deep : Int) (last : Nat) : Option (Int × Nat) :=
  if patSign w c = false then none else
  if ([40, 124].contains last && [42, 124, 41].contains c) = true then none else
  if deep + ind c 40 - ind c 41 < 0 then none else some (deep + ind c 40 - ind c 41, c)
def patRun (w : Nat) : List Nat → Int → Nat → Option (Int × Nat)
  | [], deep, last => some (deep, last)
  | c :: cs, deep, last => (patTurn w c deep last).bind fun p => patRun w cs p.1 p.2
def patCodes (w : Nat) (l : List Nat) : Bool := match patRun w l 0 40 with
  | some (deep, last) => decide (deep = 0) && ![40, 124].contains last
  | none => false
/-- a pattern of so many whistles -/
def patOk (d dw : PyData) : Bool := match d, dw with
  | .str z, .int w => decide (1 ≤ w ∧ w ≤ 3) && (decide (1 ≤ z.length ∧ z.length ≤ 2000) && patCodes w.toNat z.cps.toList)
  | _, _ => false
def sizeD : PyData → Prop
  | .str z => z.length ≤ 1000000
  | _ => True
def spLookPat (C : Addr) : Sp := fun vs H Q E => ∃ (Z Z' : List Addr) (d dw : PyData) (x y : V), vs = [x, y] ∧ Im H Z d x ∧ Im H Z' dw y ∧ sizeD d ∧ (patOk d dw = true → Q .non H) ∧ (patOk d dw = false → E (.ref C) none H)
theorem dec_sign (c k : Nat) (s : Str) (e : s = ⟨#[k]⟩) : decide (V.str ⟨#[c]⟩ = V.str s) = decide (c = k) := by
  subst e
  by_cases h : c = k
  · subst h; simp
  · rw [decide_eq_false h, decide_eq_false]
    intro q; injection q with q; injection q with q
    simp at q; exact h q
theorem patRun_app (w : Nat) : ∀ (l m : List Nat) (deep : Int) (last : Nat), patRun w (l ++ m) deep last = (patRun w l deep last).bind fun p => patRun w m p.1 p.2
  | [], m, deep, last => rfl
  | c :: l, m, deep, last => by
    rw [List.cons_append, patRun, patRun, Option.bind_assoc]
    congr 1
    funext p
    exact patRun_app w l m _ _
theorem patOk_si (z : Str) (i : Int) : patOk (.str z) (.int i) = (decide (1 ≤ i ∧ i ≤ 3) && (decide (1 ≤ z.length ∧ z.length ≤ 2000) && patCodes i.toNat z.cps.toList)) := rfl
theorem mem_psigns {w c : Nat} : decide (c ∈ ((Str.ofString "!.*|()") ++ tuneS (List.range w)).cps.toList) = patSign w c := by
  have e : ((Str.ofString "!.*|()") ++ tuneS (List.range w)).cps.toList = [33, 46, 42, 124, 40, 41] ++ (tuneS (List.range w)).cps.toList := by
    have h := TL.tl_append (Str.ofString "!.*|()") (tuneS (List.range w))
    exact h
  rw [e]
  unfold patSign
  by_cases h : c ∈ (tuneS (List.range w)).cps.toList
  · have h2 := mem_letters.mp h
    rw [decide_eq_true (List.mem_append_right _ h), decide_eq_true h2, Bool.or_true]
  · have h2 := fun q => h (mem_letters.mpr q)
    rw [decide_eq_false h2, Bool.or_false]
    by_cases h3 : c ∈ [33, 46, 42, 124, 40, 41]
    · rw [decide_eq_true (List.mem_append_left _ h3)]
      exact (List.contains_iff_mem.mpr h3).symm
    · rw [decide_eq_false (fun q => by rcases List.mem_append.mp q with z | z; exact h3 z; exact h z)]
      cases q : [33, 46, 42, 124, 40, 41].contains c with
      | false => rfl
      | true => exact absurd (List.contains_iff_mem.mp q) h3
theorem mem_lit (c : Nat) (s : Str) (l : List Nat) (e : s.cps.toList = l) : decide (c ∈ s.cps.toList) = l.contains c := by
  rw [e]
  cases q : l.contains c with
  | true => exact decide_eq_true (List.contains_iff_mem.mp q)
  | false => exact decide_eq_false fun h => by rw [List.contains_iff_mem.mpr h] at q; cases q
section
variable {P : Program} {w : World} {K : PySem.W.Frag} {mg : Str → Option Value} {base : Heap}
theorem sc_is_within : FnScope ["thing", "low", "high"] ["thing", "low", "high"] (defScope s_is_within) := ⟨rfl, rfl, rfl, by decide +kernel, rfl, by decide +kernel, by decide +kernel⟩
theorem ok_is_within {f : Addr} {fd : FuncData} (F : Fun K "is_within" "is_within" s_is_within f fd) (g_isinstance : mg "isinstance" = none) (g_int : mg "int" = none) (g_bool : mg "bool" = none) : FnOk P w K mg base CX0 1 f fd ["thing", "low", "high"] spWithin := by
  refine F.ok sc_is_within (fun vs H Q E h => ?_) (fun cdv A outer s H vs Q E hr h => ?_)
  · obtain ⟨_, _, _, _, _, rfl, _⟩ := h
    rfl
  · obtain ⟨Z, d, x, lo, hi, rfl, im, q⟩ := h
    refine ⟨_, (pss_one (ps_ret (pe_and (pe_callB (isD (T := "int") (by decide)) (by rfl) g_isinstance (by decide +kernel) (pa_cons (pv 0) (pa_cons (pe_bltn (v := .ty "int") (by rfl) g_int (by decide +kernel) rfl) pa_nil))) (pe_and (pe_not (pe_callB (isD (T := "bool") (by decide)) (by rfl) g_isinstance (by decide +kernel) (pa_cons (pv 0) (pa_cons (pe_bltn (v := .ty "bool") (by rfl) g_bool (by decide +kernel) rfl) pa_nil)))) (pe_one (pe_chain op_le op_le (pv 1) (pv 0) (pv 2))))))), ?_⟩
    refine ⟨_, rfl, Z, d, x, rfl, im, _, rfl, ?_⟩
    cases d with
    | int i =>
      have im : x = .int i := im
      subst im
      refine iteT ⟨_, rfl, Z, .int i, _, rfl, rfl, _, rfl, _, rfl, iteT ?_⟩
      refine ⟨_, rfl, _, rfl, _, _, rfl, rfl, _, rfl, ?_⟩
      by_cases h1 : lo ≤ i
      · rw [decide_eq_true h1]
        refine iteT ⟨_, rfl, _, _, rfl, rfl, ?_⟩
        have e : withinD (.int i) lo hi = decide (i ≤ hi) := by simp [withinD, h1]
        rw [e] at q; exact q
      · rw [decide_eq_false h1]
        refine iteF ?_
        have e : withinD (.int i) lo hi = false := by simp [withinD, h1]
        rw [e] at q; exact q
    | bool b => exact iteT ⟨_, rfl, Z, .bool b, _, rfl, im, _, rfl, _, rfl, iteF q⟩
    | none => exact iteF q
    | str z => exact iteF q
    | list z => exact iteF q
    | tuple z => exact iteF q
    | dict z => exact iteF q
theorem sc_look_pattern : FnScope ["pattern", "whistles", "deep", "last", "sign"] ["pattern", "whistles"] (defScope s_look_pattern) := ⟨rfl, rfl, rfl, by decide +kernel, rfl, by decide +kernel, by decide +kernel⟩
theorem ok_look_pattern {f cP : Addr} {fd : FuncData} (F : Fun K "look_pattern" "look_pattern" s_look_pattern f fd) (g_isinstance : mg "isinstance" = none) (g_str : mg "str" = none) (g_len : mg "len" = none) (g_int : mg "int" = none) (g_MOST : ∃ t, mg "MOST_SIGNS" = some (.int 2000 t)) (X_BadPattern : XCls K mg "BadPattern" cP)
    (C_letters : Cal P w K mg base CX0 1 "letters" ["whistles"] spLetters) (C_is_within : Cal P w K mg base CX0 1 "is_within" ["thing", "low", "high"] spWithin) :
    FnOk P w K mg base (L2.CX P w) 2 f fd ["pattern", "whistles"] (spLookPat cP) := by
  obtain ⟨tM, g_MOST_SIGNS⟩ := g_MOST
  refine F.okX sc_look_pattern (fun vs H Q E h => ?_) (fun cdv A outer s H vs Q E hr h => ?_)
  · obtain ⟨_, _, _, _, _, _, rfl, _⟩ := h
    rfl
  · obtain ⟨Z, Z', d, dw, x, y, rfl, im, imw, sz, q1, q2⟩ := h
    refine ⟨_, (pss_cons (ps_if (PW.pt (pw_or (pt_not (pt_val (pe_callB (isD (T := "str") (by decide)) (by rfl) g_isinstance (by decide +kernel) (pa_cons (pv 0) (pa_cons (pe_bltn (v := .ty "str") (by rfl) g_str (by decide +kernel) rfl) pa_nil))))) (pw_or (pt_not (pt_chain oN_le oN_le pe_int (pe_callB call_len_str (by rfl) g_len (by decide +kernel) (pa_cons (pv 0) pa_nil)) (pe_glob (v := .int 2000) rfl g_MOST_SIGNS ⟨_, rfl⟩))) (pw_or1 (pt_not (pt_val (pe_fn C_is_within hr (by decide) rfl (pa_cons (pv 1) (pa_cons pe_int (pa_cons pe_int pa_nil))))))))))
        (pss_one (ps_raise rfl (takes_of rfl rfl rfl rfl) (X_BadPattern.mk1 rfl)))
        pss_nil)
      (pss_cons (ps_set (i := 2) sc_look_pattern.nd rfl (Or.inl rfl) pe_int)
      (pss_cons (ps_set (i := 3) sc_look_pattern.nd rfl (Or.inl rfl) pe_str)
      (pss_cons (ps_for (passes_of rfl) rfl (pi_str (pv 0)) (pg_name (i := 4) sc_look_pattern.nd rfl (by first | exact Or.inl rfl | exact Or.inr rfl))
        (pss_cons (ps_if (pt_cmpR op_notIn_sign (pv 4) (pe_op op_add_str pe_str (pe_fn C_letters hr (by decide) rfl (pa_cons (pv 1) pa_nil))) rfl)
          (pss_one (ps_raise rfl (takes_of rfl rfl rfl rfl) (X_BadPattern.mk1 rfl)))
          pss_nil)
        (pss_join (ps_if (PW.pt (pw_and (pt_cmpR op_in_sign (pv 3) pe_str rfl) (pw_and1 (pt_cmpR op_in_sign (pv 4) pe_str rfl))))
          (pss_one (ps_raise rfl (takes_of rfl rfl rfl rfl) (X_BadPattern.mk1 rfl)))
          pss_nil)
        (pss_cons (ps_set (i := 2) sc_look_pattern.nd rfl (Or.inl rfl) (pe_op op_sub (pe_op op_add (pv 2) (pe_callTy call_int1 (by rfl) g_int (by decide +kernel) (pa_cons (pe_cmpR op_eq (pv 4) pe_str (nomark _)) pa_nil))) (pe_callTy call_int1 (by rfl) g_int (by decide +kernel) (pa_cons (pe_cmpR op_eq (pv 4) pe_str (nomark _)) pa_nil))))
        (pss_cons (ps_if (pt_cmpR op_lt (pv 2) pe_int (nomark _))
          (pss_one (ps_raise rfl (takes_of rfl rfl rfl rfl) (X_BadPattern.mk1 rfl)))
          pss_nil)
        (pss_one (ps_set (i := 3) sc_look_pattern.nd rfl (Or.inl rfl) (pv 4))))))))
      (pss_one (ps_if (PW.pt (pw_or (pt_cmpR op_ne (pv 2) pe_int (nomark _)) (pw_or1 (pt_cmpR op_in_sign (pv 3) pe_str rfl))))
        (pss_one (ps_raise rfl (takes_of rfl rfl rfl rfl) (X_BadPattern.mk1 rfl)))
        pss_nil)))))), ?_⟩
    refine ⟨_, rfl, Z, d, x, rfl, im, _, rfl, ?_⟩
    cases d with
    | str z =>
      have im : x = .str z := im
      subst im
      have sz : z.length ≤ 1000000 := sz
      have e1 : isT (.str z) "str" = true := by dsimp only [isT, tyN]; decide +kernel
      rw [e1]
      refine iteF ?_
      refine ⟨_, rfl, _, rfl, Nat.le_of_lt (sl_small sz), 1, z.length, rfl, rfl, _, rfl, ?_⟩
      have bad : patOk (.str z) dw = false → E (.ref cP) none H := q2
      refine ite2 (fun c1 => ?_) (fun c1 => ?_)
      · refine ⟨z.length, 2000, rfl, rfl, _, rfl, ?_⟩
        refine ite2 (fun c2 => ?_) (fun c2 => ?_)
        · have c2 : ¬ z.length ≤ 2000 := by simpa using c2
          refine iteT (bad ?_)
          cases dw with
          | int i => simp [patOk, c2]
          | _ => rfl
        have c1 : 1 ≤ z.length := by simpa using c1
        have c2 : z.length ≤ 2000 := by simpa using c2
        refine ⟨_, rfl, Z', dw, y, 1, 3, rfl, imw, _, rfl, ?_⟩
        cases hwd : withinD dw 1 3 with
        | false =>
          refine iteT (bad ?_)
          cases dw with
          | int i =>
            have : decide (1 ≤ i ∧ i ≤ 3) = false := hwd
            rw [patOk_si, this]; rfl
          | _ => rfl
        | true =>
          refine iteF ?_
          cases dw with
          | int i =>
            have hi : 1 ≤ i ∧ i ≤ 3 := of_decide_eq_true hwd
            have imw : y = .int i := imw
            obtain ⟨wn, rfl⟩ : ∃ wn : Nat, i = wn := ⟨i.toNat, by omega⟩
            subst imw
            have hpo : patOk (.str z) (.int wn) = patCodes wn z.cps.toList := by
              rw [patOk_si, decide_eq_true hi, decide_eq_true (show 1 ≤ z.length ∧ z.length ≤ 2000 from ⟨c1, c2⟩)]; rfl
            rw [hpo] at q1 bad
            -- deep = 0; last = '('; for sign in pattern
            refine ⟨_, rfl, z, rfl, for_str (fun j σ H' => ∃ (dp : Int) (ls : Nat) (v4 : Option V), σ = [some (.str z), some (nV wn), some (.int dp), some (.str ⟨#[ls]⟩), v4] ∧ H = H' ∧ patRun wn (z.cps.toList.take j) 0 40 = some (dp, ls)) ⟨0, 40, none, rfl, rfl, by simp [patRun]⟩ ?_ ?_⟩
            · rintro j c σ H' hc ⟨dp, ls, v4, rfl, rfl, hrun⟩
              have hsplit : z.cps.toList = z.cps.toList.take j ++ c :: z.cps.toList.drop (j + 1) := by
                obtain ⟨hlt, ee⟩ := List.getElem?_eq_some_iff.mp hc
                rw [← ee, ← List.drop_eq_getElem_cons hlt, List.take_append_drop]
              have fails : patTurn wn c dp ls = none → patCodes wn z.cps.toList = false := fun hn => by
                have h2 := patRun_app wn (z.cps.toList.take j) (c :: z.cps.toList.drop (j + 1)) 0 40
                rw [hrun, ← hsplit, Option.bind_some, patRun, hn] at h2
                unfold patCodes
                rw [h2]; rfl
              have step : z.cps.toList.take (j + 1) = z.cps.toList.take j ++ [c] := by rw [List.take_add_one, hc]; rfl
              refine ⟨_, rfl, _, rfl, wn, rfl, by omega, _, _, rfl, rfl, ?_, c, _, rfl, rfl, _, rfl, ?_⟩
              · have e1 : Str.length (Str.ofString "!.*|()") = 6 := rfl
                rw [e1, tuneS_len, List.length_range]
                exact Nat.le_of_lt (sl_small (by omega))
              rw [mem_psigns]
              refine ite2 (fun d1 => ?_) (fun d1 => ?_)
              · refine bad (fails ?_)
                rw [patTurn, if_pos (by simpa using d1)]
              have d1 : patSign wn c = true := by simpa using d1
              -- if last in '(|' and sign in '*|)'
              refine ⟨fun σ' H' => σ' = [some (.str z), some (nV wn), some (.int dp), some (.str ⟨#[ls]⟩), some (.str ⟨#[c]⟩)] ∧ H = H' ∧ ([40, 124].contains ls && [42, 124, 41].contains c) = false, ⟨_, rfl, ls, _, rfl, rfl, _, rfl, ?_⟩, ?_⟩
              · rw [mem_lit ls (Str.ofString "(|") [40, 124] rfl]
                refine ite2 (fun d2 => ?_) (fun d2 => ?_)
                · refine ⟨_, rfl, c, _, rfl, rfl, _, rfl, ?_⟩
                  rw [mem_lit c (Str.ofString "*|)") [42, 124, 41] rfl]
                  refine ite2 (fun d3 => ?_) (fun d3 => ?_)
                  · refine bad (fails ?_)
                    rw [patTurn, if_neg (by rw [d1]; simp), if_pos (by rw [d2, d3]; rfl)]
                  · exact ⟨rfl, rfl, by rw [d2]; simpa using d3⟩
                · refine iteF ⟨rfl, rfl, ?_⟩
                  have d2 : [40, 124].contains ls = false := by simpa using d2
                  rw [d2]; rfl
              rintro _ _ ⟨rfl, rfl, d2⟩
              -- deep
              refine ⟨_, rfl, _, rfl, rfl, .inr ⟨_, rfl, _, _, rfl, rfl, _, rfl, rfl, .inr ⟨_, rfl, _, _, rfl, rfl, ?_⟩⟩⟩
              rw [dec_sign c 40 (Str.ofString "(") rfl, dec_sign c 41 (Str.ofString ")") rfl]
              refine ⟨_, rfl, _, _, rfl, rfl, _, rfl, ?_⟩
              refine ite2 (fun d3 => ?_) (fun d3 => ?_)
              · have d3 : dp + ind c 40 - ind c 41 < 0 := of_decide_eq_true d3
                refine bad (fails ?_)
                rw [patTurn, if_neg (by rw [d1]; simp), if_neg (by rw [d2]; simp), if_pos d3]
              · have d3 : ¬ dp + ind c 40 - ind c 41 < 0 := fun q => d3 (decide_eq_true q)
                refine ⟨_, rfl, dp + ind c 40 - ind c 41, c, _, rfl, rfl, ?_⟩
                rw [step, patRun_app, hrun, Option.bind_some, patRun, patTurn, if_neg (by rw [d1]; simp), if_neg (by rw [d2]; simp), if_neg d3]
                rfl
            · rintro σ H' ⟨dp, ls, v4, rfl, rfl, hrun⟩
              rw [List.take_length] at hrun
              have hpc : patCodes wn z.cps.toList = (decide (dp = 0) && ![40, 124].contains ls) := by unfold patCodes; rw [hrun]
              rw [hpc] at q1 bad
              refine ⟨_, rfl, rfl, _, rfl, ?_⟩
              refine ite2 (fun d1 => ?_) (fun d1 => ?_)
              · refine iteT (bad ?_)
                have : ¬ dp = 0 := fun q => by subst q; simp at d1
                rw [decide_eq_false this]; rfl
              · have d0 : dp = 0 := by
                  by_cases q : dp = 0
                  · exact q
                  · exact absurd (by simpa using q) d1
                refine ⟨_, rfl, ls, _, rfl, rfl, _, rfl, ?_⟩
                rw [mem_lit ls (Str.ofString "(|") [40, 124] rfl]
                refine ite2 (fun d2 => ?_) (fun d2 => ?_)
                · refine bad ?_
                  rw [d2, decide_eq_true d0]; rfl
                · refine q1 ?_
                  have d2 : [40, 124].contains ls = false := by simpa using d2
                  rw [d2, decide_eq_true d0]; rfl
          | _ => cases hwd
      · have c1 : ¬ 1 ≤ z.length := by simpa using c1
        refine ⟨_, rfl, iteT (iteT (bad ?_))⟩
        cases dw with
        | int i => simp [patOk, c1]
        | _ => rfl
    | none => exact iteT (iteT (q2 rfl))
    | bool z => exact iteT (iteT (q2 rfl))
    | int z => exact iteT (iteT (q2 rfl))
    | list z => exact iteT (iteT (q2 rfl))
    | tuple z => exact iteT (iteT (q2 rfl))
    | dict z => exact iteT (iteT (q2 rfl))
end
/-! ### what is no tune is refused -/
def spBadT (C : Addr) : Sp := fun vs H _ E => ∃ (Z : List Addr) (h : Hall) (hv : V) (Z' : List Addr) (d : PyData) (x : V), vs = [hv, x] ∧ h.Ok ∧ Im H Z h.d hv ∧ Im H Z' d x ∧ okTune h.w d = false ∧ E (.ref C) none H
def spMatB (cP cT : Addr) : Sp := fun vs H _ E => ∃ (Z Z' : List Addr) (dp d : PyData) (w : Nat) (p x : V), vs = [p, nV w, x] ∧ Im H Z dp p ∧ Im H Z' d x ∧ w ≤ 3 ∧ sizeD dp ∧ (patOk dp (nD w) = false → E (.ref cP) none H) ∧ okTune w d = false ∧ (patOk dp (nD w) = true → E (.ref cT) none H)
section
variable {P : Program} {w : World} {K : PySem.W.Frag} {mg : Str → Option Value} {base : Heap}
theorem sc_behind0 : FnScope ["hall", "tune"] ["hall", "tune"] (defScope s_behind) := ⟨rfl, rfl, rfl, by decide +kernel, rfl, by decide +kernel, by decide +kernel⟩
theorem ok_behind0 {f cT : Addr} {fd : FuncData} (F : Fun K "behind" "behind" s_behind f fd) (C_look_tune : Cal P w K mg base (L2.CX P w) 2 "look_tune" ["tune", "whistles"] (spLookTune cT)) : FnOk P w K mg base (L2.CX P w) 3 f fd ["hall", "tune"] (spBadT cT) := by
  refine F.okX sc_behind0 (fun vs H Q E h => ?_) (fun cdv A outer s H vs Q E hr h => ?_)
  · obtain ⟨_, _, _, _, _, _, rfl, _⟩ := h
    rfl
  · obtain ⟨Z, h, hv, Z', d, x, rfl, o, hI, im, hb, q⟩ := h
    refine ⟨_, pss_cons (ps_expr (pe_fx C_look_tune hr (by decide) rfl (takes_of rfl rfl rfl rfl) (pa_cons (pv 1) (pa_cons (pe_ix ix_im (pv 0) pe_int (fun _ _ => rfl)) pa_nil)))) pss_never, ?_⟩
    exact sq_drop (x_call (x_cons (x_var (x_cons (t_w hI ⟨Z', d, x, h.w, rfl, im, o.w3, (fun e => by rw [hb] at e; cases e), fun _ => q⟩)))))
theorem sc_ahead0 : FnScope ["hall", "tune"] ["hall", "tune"] (defScope s_ahead) := ⟨rfl, rfl, rfl, by decide +kernel, rfl, by decide +kernel, by decide +kernel⟩
theorem ok_ahead0 {f cT : Addr} {fd : FuncData} (F : Fun K "ahead" "ahead" s_ahead f fd) (C_look_tune : Cal P w K mg base (L2.CX P w) 2 "look_tune" ["tune", "whistles"] (spLookTune cT)) : FnOk P w K mg base (L2.CX P w) 3 f fd ["hall", "tune"] (spBadT cT) := by
  refine F.okX sc_ahead0 (fun vs H Q E h => ?_) (fun cdv A outer s H vs Q E hr h => ?_)
  · obtain ⟨_, _, _, _, _, _, rfl, _⟩ := h
    rfl
  · obtain ⟨Z, h, hv, Z', d, x, rfl, o, hI, im, hb, q⟩ := h
    refine ⟨_, pss_cons (ps_expr (pe_fx C_look_tune hr (by decide) rfl (takes_of rfl rfl rfl rfl) (pa_cons (pv 1) (pa_cons (pe_ix ix_im (pv 0) pe_int (fun _ _ => rfl)) pa_nil)))) pss_never, ?_⟩
    exact sq_drop (x_call (x_cons (x_var (x_cons (t_w hI ⟨Z', d, x, h.w, rfl, im, o.w3, (fun e => by rw [hb] at e; cases e), fun _ => q⟩)))))
theorem sc_rank0 : FnScope ["hall", "tune"] ["hall", "tune"] (defScope s_rank) := ⟨rfl, rfl, rfl, by decide +kernel, rfl, by decide +kernel, by decide +kernel⟩
theorem ok_rank0 {f cT : Addr} {fd : FuncData} (F : Fun K "rank" "rank" s_rank f fd) (C_look_tune : Cal P w K mg base (L2.CX P w) 2 "look_tune" ["tune", "whistles"] (spLookTune cT)) : FnOk P w K mg base (L2.CX P w) 3 f fd ["hall", "tune"] (spBadT cT) := by
  refine F.okX sc_rank0 (fun vs H Q E h => ?_) (fun cdv A outer s H vs Q E hr h => ?_)
  · obtain ⟨_, _, _, _, _, _, rfl, _⟩ := h
    rfl
  · obtain ⟨Z, h, hv, Z', d, x, rfl, o, hI, im, hb, q⟩ := h
    refine ⟨_, pss_cons (ps_expr (pe_fx C_look_tune hr (by decide) rfl (takes_of rfl rfl rfl rfl) (pa_cons (pv 1) (pa_cons (pe_ix ix_im (pv 0) pe_int (fun _ _ => rfl)) pa_nil)))) pss_never, ?_⟩
    exact sq_drop (x_call (x_cons (x_var (x_cons (t_w hI ⟨Z', d, x, h.w, rfl, im, o.w3, (fun e => by rw [hb] at e; cases e), fun _ => q⟩)))))
theorem sc_matches0 : FnScope ["pattern", "whistles", "tune"] ["pattern", "whistles", "tune"] (defScope s_matches) := ⟨rfl, rfl, rfl, by decide +kernel, rfl, by decide +kernel, by decide +kernel⟩
theorem ok_matches0 {f cT cP : Addr} {fd : FuncData} (F : Fun K "matches" "matches" s_matches f fd) (C_look_tune : Cal P w K mg base (L2.CX P w) 2 "look_tune" ["tune", "whistles"] (spLookTune cT)) (C_look_pattern : Cal P w K mg base (L2.CX P w) 2 "look_pattern" ["pattern", "whistles"] (spLookPat cP)) :
    FnOk P w K mg base (L2.CX P w) 3 f fd ["pattern", "whistles", "tune"] (spMatB cP cT) := by
  refine F.okX sc_matches0 (fun vs H Q E h => ?_) (fun cdv A outer s H vs Q E hr h => ?_)
  · obtain ⟨_, _, _, _, _, _, _, rfl, _⟩ := h
    rfl
  · obtain ⟨Z, Z', dp, d, wn, p, x, rfl, imp, im, hw, sz, q1, hb, q2⟩ := h
    refine ⟨_, pss_cons (ps_expr (pe_fx C_look_pattern hr (by decide) rfl (takes_of rfl rfl rfl rfl) (pa_cons (pv 0) (pa_cons (pv 1) pa_nil)))) (pss_cons (ps_expr (pe_fx C_look_tune hr (by decide) rfl (takes_of rfl rfl rfl rfl) (pa_cons (pv 2) (pa_cons (pv 1) pa_nil)))) pss_never), ?_⟩
    refine ⟨_, rfl, _, rfl, Z, [], dp, nD wn, p, nV wn, rfl, imp, rfl, sz, fun e => ?_, q1⟩
    exact ⟨_, rfl, _, rfl, Z', d, x, wn, rfl, im, hw, (fun e => by rw [hb] at e; cases e), fun _ => q2 e⟩
/-- what isinstance says of an error of the class at D -/
structure Told (K : PySem.W.Frag) (cH cT cP D : Addr) (t p : Bool) : Prop where
  xm : PySem.W.exmOne K (.ref D) (.ref cH) = some true
  ex : ExcC K D
  kT : PySem.W.kitOne K (.ref D) (.ref cT) = some t
  kP : PySem.W.kitOne K (.ref D) (.ref cP) = some p
  kV : PySem.W.kitOne K (.ref D) (.type "ValueError") = some true
def spTold3 : Sp := fun vs H Q _ => ∃ (Z : List Addr) (h : Hall) (hv : V) (Z' : List Addr) (d : PyData) (x : V) (way : Nat), vs = [hv, x, nV way] ∧ h.Ok ∧ Im H Z h.d hv ∧ Im H Z' d x ∧ okTune h.w d = false ∧ way ≤ 6 ∧ ∀ l H', Wd H H' [.L l [.bool (!decide (way = 4)), .bool (decide (way = 4)), .bool true]] [] → Q (.ref l) H'
theorem sc_l_told : FnScope ["hall", "tune", "way", "e"] ["hall", "tune", "way"] (defScope s_l_told) := ⟨rfl, rfl, rfl, by decide +kernel, rfl, by decide +kernel, by decide +kernel⟩
theorem ok_l_told {f cH cT cP : Addr} {fd : FuncData} (F : Fun K "_law_told" "_law_told" s_l_told f fd) (g_isinstance : mg "isinstance" = none) (g_ValueError : mg "ValueError" = none) (X_HallError : XCls K mg "HallError" cH) (X_BadTune : XCls K mg "BadTune" cT) (X_BadPattern : XCls K mg "BadPattern" cP)
    (tT : Told K cH cT cP cT true false) (tP : Told K cH cT cP cP false true)
    (C_has : Cal P w K mg base (L2.CX P w) 3 "has" ["hall", "tune"] (spHas cT)) (C_behind : Cal P w K mg base (L2.CX P w) 3 "behind" ["hall", "tune"] (spBadT cT)) (C_ahead : Cal P w K mg base (L2.CX P w) 3 "ahead" ["hall", "tune"] (spBadT cT)) (C_rank : Cal P w K mg base (L2.CX P w) 3 "rank" ["hall", "tune"] (spBadT cT))
    (C_matches : Cal P w K mg base (L2.CX P w) 3 "matches" ["pattern", "whistles", "tune"] (spMatB cP cT)) :
    FnOk P w K mg base CX0 4 f fd ["hall", "tune", "way"] spTold3 := by
  refine F.ok sc_l_told (fun vs H Q E h => ?_) (fun cdv A outer s H vs Q E hr h => ?_)
  · obtain ⟨_, _, _, _, _, _, _, rfl, _⟩ := h
    rfl
  · obtain ⟨Z, h, hv, Z', d, x, way, rfl, o, hI, im, hb, hw, q⟩ := h
    refine ⟨_, (pss_cons (ps_try_as (i := 3) rfl rfl sc_l_told.nd rfl rfl ⟨rfl, by decide, Or.inl X_HallError.g⟩ takes0 (fun W pn xe tk po =>
        (pss_one (ps_if (pt_cmpR oN_eq (pv 2) pe_int (nomark _))
          (pss_one (ps_expr (pe_fs C_has hr (by decide) rfl tk (pa_cons (pv 0) (pa_cons (pv 1) pa_nil)))))
          (pss_one (ps_if (pt_cmpR oN_eq (pv 2) pe_int (nomark _))
            (pss_one (ps_expr (pe_fs C_behind hr (by decide) rfl tk (pa_cons (pv 0) (pa_cons (pv 1) pa_nil)))))
            (pss_one (ps_if (pt_cmpR oN_eq (pv 2) pe_int (nomark _))
              (pss_one (ps_expr (pe_fs C_ahead hr (by decide) rfl tk (pa_cons (pv 0) (pa_cons (pv 1) pa_nil)))))
              (pss_one (ps_if (pt_cmpR oN_eq (pv 2) pe_int (nomark _))
                (pss_one (ps_expr (pe_fs C_rank hr (by decide) rfl tk (pa_cons (pv 0) (pa_cons (pv 1) pa_nil)))))
                (pss_one (ps_expr (pe_fs C_matches hr (by decide) rfl tk (pa_cons (pe_ix (ixL (K := K) rfl) (pe_lst (pa_cons pe_str (pa_cons pe_str (pa_cons pe_str pa_nil)))) (pe_op oN_sub (pv 2) pe_int) (fun _ _ => rfl)) (pa_cons (pe_ix ix_im (pv 0) pe_int (fun _ _ => rfl)) (pa_cons (pv 1) pa_nil))))))))))))))) (fun a oe cls d pn hz hf =>
        (pss_one (ps_ret (pe_lst (pa_cons (pe_callB (isX hz hf) (by rfl) g_isinstance (by decide +kernel) (pa_cons (pv 3) (pa_cons (X_BadTune.pe rfl) pa_nil))) (pa_cons (pe_callB (isX hz hf) (by rfl) g_isinstance (by decide +kernel) (pa_cons (pv 3) (pa_cons (X_BadPattern.pe rfl) pa_nil))) (pa_cons (pe_callB (isX hz hf) (by rfl) g_isinstance (by decide +kernel) (pa_cons (pv 3) (pa_cons (pe_bltn (v := .ty "ValueError") (by rfl) g_ValueError (by decide +kernel) rfl) pa_nil))) pa_nil))))))))
      (pss_one (ps_ret (pe_lst pa_nil)))), ?_⟩
    have hw1 := o.w1
    have hw3 := o.w3
    have hbt : ∀ t, d = .str (tuneS t) → (∀ c ∈ t, c < h.w) → False := fun t e ht => by
      subst e
      rw [okTune_tune ht] at hb; cases hb
    match way, hw with
    | 0, _ =>
      refine ⟨_, rfl, _, 0, rfl, rfl, _, rfl, iteT ⟨_, rfl, _, rfl, Z, h, hv, Z', d, x, rfl, o, hI, im, fun t e ht => (hbt t e ht).elim, fun _ => ?_⟩⟩
      refine ⟨true, tT.xm, fun _ a ha => ?_, fun z => nomatch z⟩
      exact ⟨_, rfl, cT, _, _, _, rfl, rfl, tT.ex, rfl, .own _, tT.kT, _, rfl, cT, _, _, _, rfl, rfl, tT.ex, rfl, .own _, tT.kP, _, rfl, cT, _, _, _, rfl, rfl, tT.ex, rfl, .ty _, tT.kV, (by show 3 ≤ sizeLine; decide), fun l hl => q l _ ((Wd.start (by simp)).pushL hl ⟨_, _, rfl, rfl, _, _, rfl, rfl, _, _, rfl, rfl, rfl⟩)⟩
    | 1, _ =>
      refine ⟨_, rfl, _, 0, rfl, rfl, _, rfl, iteF ⟨_, rfl, _, 1, rfl, rfl, _, rfl, iteT ⟨_, rfl, _, rfl, Z, h, hv, Z', d, x, rfl, o, hI, im, hb, ?_⟩⟩⟩
      refine ⟨true, tT.xm, fun _ a ha => ?_, fun z => nomatch z⟩
      exact ⟨_, rfl, cT, _, _, _, rfl, rfl, tT.ex, rfl, .own _, tT.kT, _, rfl, cT, _, _, _, rfl, rfl, tT.ex, rfl, .own _, tT.kP, _, rfl, cT, _, _, _, rfl, rfl, tT.ex, rfl, .ty _, tT.kV, (by show 3 ≤ sizeLine; decide), fun l hl => q l _ ((Wd.start (by simp)).pushL hl ⟨_, _, rfl, rfl, _, _, rfl, rfl, _, _, rfl, rfl, rfl⟩)⟩
    | 2, _ =>
      refine ⟨_, rfl, _, 0, rfl, rfl, _, rfl, iteF ⟨_, rfl, _, 1, rfl, rfl, _, rfl, iteF ⟨_, rfl, _, 2, rfl, rfl, _, rfl, iteT ⟨_, rfl, _, rfl, Z, h, hv, Z', d, x, rfl, o, hI, im, hb, ?_⟩⟩⟩⟩
      refine ⟨true, tT.xm, fun _ a ha => ?_, fun z => nomatch z⟩
      exact ⟨_, rfl, cT, _, _, _, rfl, rfl, tT.ex, rfl, .own _, tT.kT, _, rfl, cT, _, _, _, rfl, rfl, tT.ex, rfl, .own _, tT.kP, _, rfl, cT, _, _, _, rfl, rfl, tT.ex, rfl, .ty _, tT.kV, (by show 3 ≤ sizeLine; decide), fun l hl => q l _ ((Wd.start (by simp)).pushL hl ⟨_, _, rfl, rfl, _, _, rfl, rfl, _, _, rfl, rfl, rfl⟩)⟩
    | 3, _ =>
      refine ⟨_, rfl, _, 0, rfl, rfl, _, rfl, iteF ⟨_, rfl, _, 1, rfl, rfl, _, rfl, iteF ⟨_, rfl, _, 2, rfl, rfl, _, rfl, iteF ⟨_, rfl, _, 3, rfl, rfl, _, rfl, iteT ⟨_, rfl, _, rfl, Z, h, hv, Z', d, x, rfl, o, hI, im, hb, ?_⟩⟩⟩⟩⟩
      refine ⟨true, tT.xm, fun _ a ha => ?_, fun z => nomatch z⟩
      exact ⟨_, rfl, cT, _, _, _, rfl, rfl, tT.ex, rfl, .own _, tT.kT, _, rfl, cT, _, _, _, rfl, rfl, tT.ex, rfl, .own _, tT.kP, _, rfl, cT, _, _, _, rfl, rfl, tT.ex, rfl, .ty _, tT.kV, (by show 3 ≤ sizeLine; decide), fun l hl => q l _ ((Wd.start (by simp)).pushL hl ⟨_, _, rfl, rfl, _, _, rfl, rfl, _, _, rfl, rfl, rfl⟩)⟩
    | 4, _ =>
      refine ⟨_, rfl, _, 0, rfl, rfl, _, rfl, iteF ⟨_, rfl, _, 1, rfl, rfl, _, rfl, iteF ⟨_, rfl, _, 2, rfl, rfl, _, rfl, iteF ⟨_, rfl, _, 3, rfl, rfl, _, rfl, iteF ?_⟩⟩⟩⟩
      refine ⟨(by show 3 ≤ sizeLine; decide), fun l0 hl0 => ?_⟩
      have w1 : Wd H (upd H l0 (.lst [.str (Str.ofString "("), .str (Str.ofString "."), .str (Str.ofString "a*")])) [] [] := (Wd.start (by simp)).call (same_new hl0)
      have hI1 := (hI.bare).keep (H' := upd H l0 (.lst [.str (Str.ofString "("), .str (Str.ofString "."), .str (Str.ofString "a*")])) (Z' := []) (fun a o _ e => same_new hl0 a o e) (fun _ _ _ _ => by simp)
      have im1 := (im.bare).keep (H' := upd H l0 (.lst [.str (Str.ofString "("), .str (Str.ofString "."), .str (Str.ofString "a*")])) (Z' := []) (fun a o _ e => same_new hl0 a o e) (fun _ _ _ _ => by simp)
      refine ⟨_, rfl, 4, 4, rfl, rfl, Nat.le_refl _, l0, _, _, _, rfl, rfl, SqL.of upd_same, rfl, _, rfl, [], _, 0, _, hI1, rfl, rfl, fun v1 h1 => ?_⟩
      cases h1
      refine ⟨_, rfl, [], [], .str (Str.ofString "("), d, h.w, _, x, rfl, rfl, im1, hw3, (by show Str.length _ ≤ 1000000; decide +kernel), fun _ => ?_, hb, fun e => ?_⟩
      · refine ⟨true, tP.xm, fun _ a ha => ?_, fun z => nomatch z⟩
        refine ⟨_, rfl, cP, _, _, _, rfl, rfl, tP.ex, rfl, .own _, tP.kT, _, rfl, cP, _, _, _, rfl, rfl, tP.ex, rfl, .own _, tP.kP, _, rfl, cP, _, _, _, rfl, rfl, tP.ex, rfl, .ty _, tP.kV, (by show 3 ≤ sizeLine; decide), fun l hl => q l _ (w1.pushL hl ⟨_, _, rfl, rfl, _, _, rfl, rfl, _, _, rfl, rfl, rfl⟩)⟩
      · have : patOk (.str (Str.ofString "(")) (nD h.w) = false := by
          rcases (by omega : h.w = 1 ∨ h.w = 2 ∨ h.w = 3) with e | e | e <;> rw [e] <;> decide +kernel
        rw [this] at e; cases e
    | 5, _ =>
      refine ⟨_, rfl, _, 0, rfl, rfl, _, rfl, iteF ⟨_, rfl, _, 1, rfl, rfl, _, rfl, iteF ⟨_, rfl, _, 2, rfl, rfl, _, rfl, iteF ⟨_, rfl, _, 3, rfl, rfl, _, rfl, iteF ?_⟩⟩⟩⟩
      refine ⟨(by show 3 ≤ sizeLine; decide), fun l0 hl0 => ?_⟩
      have w1 : Wd H (upd H l0 (.lst [.str (Str.ofString "("), .str (Str.ofString "."), .str (Str.ofString "a*")])) [] [] := (Wd.start (by simp)).call (same_new hl0)
      have hI1 := (hI.bare).keep (H' := upd H l0 (.lst [.str (Str.ofString "("), .str (Str.ofString "."), .str (Str.ofString "a*")])) (Z' := []) (fun a o _ e => same_new hl0 a o e) (fun _ _ _ _ => by simp)
      have im1 := (im.bare).keep (H' := upd H l0 (.lst [.str (Str.ofString "("), .str (Str.ofString "."), .str (Str.ofString "a*")])) (Z' := []) (fun a o _ e => same_new hl0 a o e) (fun _ _ _ _ => by simp)
      refine ⟨_, rfl, 5, 4, rfl, rfl, by decide, l0, _, _, _, rfl, rfl, SqL.of upd_same, rfl, _, rfl, [], _, 0, _, hI1, rfl, rfl, fun v1 h1 => ?_⟩
      cases h1
      refine ⟨_, rfl, [], [], .str (Str.ofString "."), d, h.w, _, x, rfl, rfl, im1, hw3, (by show Str.length _ ≤ 1000000; decide +kernel), fun e => ?_, hb, fun _ => ?_⟩
      · have : patOk (.str (Str.ofString ".")) (nD h.w) = true := by
          rcases (by omega : h.w = 1 ∨ h.w = 2 ∨ h.w = 3) with e | e | e <;> rw [e] <;> decide +kernel
        rw [this] at e; cases e
      · refine ⟨true, tT.xm, fun _ a ha => ?_, fun z => nomatch z⟩
        refine ⟨_, rfl, cT, _, _, _, rfl, rfl, tT.ex, rfl, .own _, tT.kT, _, rfl, cT, _, _, _, rfl, rfl, tT.ex, rfl, .own _, tT.kP, _, rfl, cT, _, _, _, rfl, rfl, tT.ex, rfl, .ty _, tT.kV, (by show 3 ≤ sizeLine; decide), fun l hl => q l _ (w1.pushL hl ⟨_, _, rfl, rfl, _, _, rfl, rfl, _, _, rfl, rfl, rfl⟩)⟩
    | 6, _ =>
      refine ⟨_, rfl, _, 0, rfl, rfl, _, rfl, iteF ⟨_, rfl, _, 1, rfl, rfl, _, rfl, iteF ⟨_, rfl, _, 2, rfl, rfl, _, rfl, iteF ⟨_, rfl, _, 3, rfl, rfl, _, rfl, iteF ?_⟩⟩⟩⟩
      refine ⟨(by show 3 ≤ sizeLine; decide), fun l0 hl0 => ?_⟩
      have w1 : Wd H (upd H l0 (.lst [.str (Str.ofString "("), .str (Str.ofString "."), .str (Str.ofString "a*")])) [] [] := (Wd.start (by simp)).call (same_new hl0)
      have hI1 := (hI.bare).keep (H' := upd H l0 (.lst [.str (Str.ofString "("), .str (Str.ofString "."), .str (Str.ofString "a*")])) (Z' := []) (fun a o _ e => same_new hl0 a o e) (fun _ _ _ _ => by simp)
      have im1 := (im.bare).keep (H' := upd H l0 (.lst [.str (Str.ofString "("), .str (Str.ofString "."), .str (Str.ofString "a*")])) (Z' := []) (fun a o _ e => same_new hl0 a o e) (fun _ _ _ _ => by simp)
      refine ⟨_, rfl, 6, 4, rfl, rfl, by decide, l0, _, _, _, rfl, rfl, SqL.of upd_same, rfl, _, rfl, [], _, 0, _, hI1, rfl, rfl, fun v1 h1 => ?_⟩
      cases h1
      refine ⟨_, rfl, [], [], .str (Str.ofString "a*"), d, h.w, _, x, rfl, rfl, im1, hw3, (by show Str.length _ ≤ 1000000; decide +kernel), fun e => ?_, hb, fun _ => ?_⟩
      · have : patOk (.str (Str.ofString "a*")) (nD h.w) = true := by
          rcases (by omega : h.w = 1 ∨ h.w = 2 ∨ h.w = 3) with e | e | e <;> rw [e] <;> decide +kernel
        rw [this] at e; cases e
      · refine ⟨true, tT.xm, fun _ a ha => ?_, fun z => nomatch z⟩
        refine ⟨_, rfl, cT, _, _, _, rfl, rfl, tT.ex, rfl, .own _, tT.kT, _, rfl, cT, _, _, _, rfl, rfl, tT.ex, rfl, .own _, tT.kP, _, rfl, cT, _, _, _, rfl, rfl, tT.ex, rfl, .ty _, tT.kV, (by show 3 ≤ sizeLine; decide), fun l hl => q l _ (w1.pushL hl ⟨_, _, rfl, rfl, _, _, rfl, rfl, _, _, rfl, rfl, rfl⟩)⟩
end
def spLaw (K : PySem.W.Frag) : Sp := fun vs H Q _ => ∃ (a : Addr) (ns : List Int), vs = [.ref a] ∧ SqL K H a (ns.map V.int) ∧ ns.length ≤ 63 ∧ ∀ H', Q (.bl true) H'
theorem okTune_app {w : Nat} {x y : Str} : okTune w (.str (x ++ y)) = (okTune w (.str x) && okTune w (.str y)) := by
  show (x ++ y).cps.toList.all _ = _
  have h := TL.tl_append x y
  have h : (x ++ y).cps.toList = x.cps.toList ++ y.cps.toList := h
  rw [h, List.all_append]; rfl
section
variable {P : Program} {w : World} {K : PySem.W.Frag} {mg : Str → Option Value} {base : Heap}
theorem sc_law : FnScope ["script", "hall", "tune", "odd", "bad", "way", "found"] ["script"] (defScope s_law) := ⟨rfl, rfl, rfl, by decide +kernel, rfl, by decide +kernel, by decide +kernel⟩
theorem ok_law {f cT : Addr} {fd : FuncData} (F : Fun K "law" "law" s_law f fd) (g_isinstance : mg "isinstance" = none) (g_bool : mg "bool" = none)
    (C_l_made : Cal P w K mg base CX0 4 "_law_made" ["script", "at"] (spLmade K)) (C_l_tune : Cal P w K mg base CX0 2 "_law_tune" ["script", "at", "whistles", "most"] (spLtune K)) (C_l_cell : Cal P w K mg base CX0 1 "_law_cell" ["script", "k"] (spCell K)) (C_l_told : Cal P w K mg base CX0 4 "_law_told" ["hall", "tune", "way"] spTold3)
    (C_has : Cal P w K mg base (L2.CX P w) 3 "has" ["hall", "tune"] (spHas cT)) (C_l_good : Cal P w K mg base CX0 2 "_law_good" ["hall", "tune"] spLgood) :
    FnOk P w K mg base CX0 5 f fd ["script"] (spLaw K) := by
  refine F.ok sc_law (fun vs H Q E h => ?_) (fun cdv A outer s H vs Q E hr h => ?_)
  · obtain ⟨_, _, rfl, _⟩ := h
    rfl
  · obtain ⟨a, ns, rfl, hS, hlen, q⟩ := h
    refine ⟨_, (pss_cons (ps_set (i := 1) sc_law.nd rfl (Or.inr rfl) (pe_fn C_l_made hr (by decide) rfl (pa_cons (pv 0) (pa_cons pe_int pa_nil))))
      (pss_cons (ps_set (i := 2) sc_law.nd rfl (Or.inl rfl) (pe_fn C_l_tune hr (by decide) rfl (pa_cons (pv 0) (pa_cons pe_int (pa_cons (pe_ix ix_im (pv 1) pe_int (fun _ _ => rfl)) (pa_cons pe_int pa_nil))))))
      (pss_cons (ps_if (pt_cmpR op_eq (pe_op op_mod (pe_fn C_l_cell hr (by decide) rfl (pa_cons (pv 0) (pa_cons pe_int pa_nil))) pe_int) pe_int (nomark _))
        (pss_cons (ps_set (i := 3) sc_law.nd rfl (Or.inl rfl) (pe_lst (pa_cons (pe_op op_add_str (pv 2) pe_str) (pa_cons (pe_op op_add_str pe_str (pv 2)) (pa_cons (pe_op op_add_str (pv 2) pe_str) (pa_cons pe_non (pa_cons pe_int (pa_cons (pe_lst (pa_cons pe_str pa_nil)) (pa_cons (pe_tup (pa_cons pe_str pa_nil)) (pa_cons (pe_op op_add_str (pv 2) (pe_ix ix_str pe_str (pe_ix ix_im (pv 1) pe_int (fun _ _ => rfl)) (fun _ _ => rfl))) pa_nil))))))))))
        (pss_cons (ps_set (i := 4) sc_law.nd rfl (Or.inr rfl) (pe_ix (ixL (K := K) rfl) (pv 3) (pe_op op_mod (pe_fn C_l_cell hr (by decide) rfl (pa_cons (pv 0) (pa_cons pe_int pa_nil))) pe_int) (fun _ _ => rfl)))
        (pss_cons (ps_if (pt_cmpR (neD (K := K) rfl hr.units) (pe_fn C_l_told hr (by decide) rfl (pa_cons (pv 1) (pa_cons (pv 4) (pa_cons pe_int pa_nil)))) (pe_lst (pa_cons pe_bl (pa_cons pe_bl (pa_cons pe_bl pa_nil)))) (nomark _))
          (pss_one (ps_ret pe_bl))
          pss_nil)
        (pss_one (ps_ret (pe_cmpR (eqD (K := K) rfl hr.units) (pe_lc (own := [("way", 5)]) (g := (gName 5)) rfl sc_law.nd (pi_list (pe_lst (pa_cons pe_int (pa_cons pe_int (pa_cons pe_int (pa_cons pe_int (pa_cons pe_int (pa_cons pe_int pa_nil)))))))) (blkOk_by (by kernel_rfl)) (fun _ _ _ _ _ => (pg_name (i := 5) sc_law.nd rfl (by first | exact Or.inl rfl | exact Or.inr rfl))) (fun _ _ _ _ _ => (pts_one (pt_cmpR (neD (K := K) rfl hr.units) (pe_fn C_l_told hr (by decide) rfl (pa_cons (pv 1) (pa_cons (pv 4) (pa_cons (pv 5) pa_nil)))) (pe_lst (pa_cons pe_bl (pa_cons pe_bl (pa_cons pe_bl pa_nil)))) (nomark _)))) (fun _ _ _ _ _ => (pv 5))) (pe_lst pa_nil) (nomark _)))))))
        pss_nil)
      (pss_cons (ps_set (i := 6) sc_law.nd rfl (Or.inl rfl) (pe_f0 C_has hr (by decide) rfl (pa_cons (pv 1) (pa_cons (pv 2) pa_nil))))
      (pss_one (ps_ret (pe_and (pe_callB (isD (T := "bool") (by decide)) (by rfl) g_isinstance (by decide +kernel) (pa_cons (pv 6) (pa_cons (pe_bltn (v := .ty "bool") (by rfl) g_bool (by decide +kernel) rfl) pa_nil))) (pe_one (pe_cmpR op_eq (pv 6) (pe_fn C_l_good hr (by decide) rfl (pa_cons (pv 1) (pa_cons (pv 2) pa_nil))) (nomark _)))))))))), ?_⟩
    have oh := tightH_ok (lawHall_ok ns 2)
    generalize hdef : tightH (lawHall ns 2) = h at oh
    have hw1 := oh.w1
    have hw3 := oh.w3
    have w0 : Wd H H [] [] := Wd.start (by simp)
    refine ⟨_, rfl, a, ns, 2, rfl, hS, fun hv H1 s1 im1 => ?_⟩
    rw [hdef] at im1
    have w1 : Wd H H1 [] [(h.d, hv)] := (w0.call s1).add im1
    refine sq_asg (x_call (x_cons (x_var (x_cons (x_c (x_cons (t_w (w1.get 0) ⟨a, ns, 0, h.w, 40, rfl, w1.same.seq hS, hw1, hw3, by decide, fun H2 s2 => ?_⟩)))))))
    have w2 := w1.call s2
    have htl := lawTune_lt ns 0 40 (w := h.w) (by omega)
    have hln := lawTune_len ns 0 h.w 40
    generalize lawTune ns 0 h.w 40 = t at htl hln
    refine ⟨_, rfl, a, ns, 1, rfl, w2.same.seq hS, _, _, rfl, rfl, (by show (0 : Int) < 4; decide), rfl, _, rfl, ?_⟩
    refine ite2 (fun c => ?_) (fun c => ?_)
    · -- what is no tune
      have hsl : ∀ n, n ≤ 100 → n ≤ sizeLine := fun n hn => Nat.le_of_lt (sl_small (by omega))
      refine ⟨_, rfl, _, _, rfl, rfl, hsl _ (by rw [tuneS_len]; show _ + 1 ≤ 100; omega), _, rfl, _, _, rfl, rfl, hsl _ (by rw [tuneS_len]; show 1 + _ ≤ 100; omega), _, rfl, _, _, rfl, rfl, hsl _ (by rw [tuneS_len]; show _ + 1 ≤ 100; omega), (by show 1 ≤ sizeLine; decide), fun la hla => ?_⟩
      have w3 := w2.frz hla (ds := [.str (Str.ofString "a")]) (xs := [.str (Str.ofString "a")]) ⟨_, _, rfl, rfl, rfl⟩
      refine ⟨(by show 1 ≤ sizeLine; decide), fun ta hta => ?_⟩
      have w4 := w3.tup hta (ds := [.str (Str.ofString "a")]) (xs := [.str (Str.ofString "a")]) ⟨_, _, rfl, rfl, rfl⟩
      refine ⟨_, rfl, _, rfl, _, _, 0, _, w4.get 2, rfl, rfl, fun v1 h1 => ?_⟩
      cases h1
      have hab : ∃ k, k = 97 + h.w ∧ atI (Str.ofString "abcd").cps.toList ((h.w : Nat) : Int) = some k := by
        rcases (by omega : h.w = 1 ∨ h.w = 2 ∨ h.w = 3) with e | e | e <;> rw [e] <;> exact ⟨_, rfl, by decide +kernel⟩
      obtain ⟨kc, hkc, hat⟩ := hab
      refine ⟨_, _, kc, rfl, rfl, (by decide +kernel), hat, tuneS t, ⟨#[kc]⟩, rfl, rfl, hsl _ (by rw [tuneS_len]; show _ + 1 ≤ 100; omega), (by show 8 ≤ sizeLine; decide), fun lo hlo => ?_⟩
      have w5 := w4.pushL hlo (ds := [.str (tuneS t ++ Str.ofString "d"), .str (Str.ofString "A" ++ tuneS t), .str (tuneS t ++ Str.ofString " "), .none, .int 0, .list [.str (Str.ofString "a")], .tuple [.str (Str.ofString "a")], .str (tuneS t ++ (⟨#[kc]⟩ : Str))])
        (xs := [.str (tuneS t ++ Str.ofString "d"), .str (Str.ofString "A" ++ tuneS t), .str (tuneS t ++ Str.ofString " "), .non, .int 0, .ref la, .ref ta, .str (tuneS t ++ (⟨#[kc]⟩ : Str))])
        ⟨_, _, rfl, rfl, _, _, rfl, rfl, _, _, rfl, rfl, _, _, rfl, rfl, _, _, rfl, rfl, _, _, rfl, w4.get 1, _, _, rfl, w4.get 0, _, _, rfl, rfl, rfl⟩
      have bad : ∀ d ∈ ([.str (tuneS t ++ Str.ofString "d"), .str (Str.ofString "A" ++ tuneS t), .str (tuneS t ++ Str.ofString " "), .none, .int 0, .list [.str (Str.ofString "a")], .tuple [.str (Str.ofString "a")], .str (tuneS t ++ (⟨#[kc]⟩ : Str))] : List PyData), okTune h.w d = false := by
        have e1 : okTune h.w (.str (Str.ofString "d")) = false := by
          rcases (by omega : h.w = 1 ∨ h.w = 2 ∨ h.w = 3) with e | e | e <;> rw [e] <;> decide +kernel
        have e2 : okTune h.w (.str (Str.ofString "A")) = false := by
          rcases (by omega : h.w = 1 ∨ h.w = 2 ∨ h.w = 3) with e | e | e <;> rw [e] <;> decide +kernel
        have e3 : okTune h.w (.str (Str.ofString " ")) = false := by
          rcases (by omega : h.w = 1 ∨ h.w = 2 ∨ h.w = 3) with e | e | e <;> rw [e] <;> decide +kernel
        have e4 : okTune h.w (.str ⟨#[kc]⟩) = false := by
          rw [hkc]
          show ([97 + h.w] : List Nat).all (fun c => decide (97 ≤ c ∧ c < 97 + h.w)) = false
          simp
        intro d hd
        simp only [List.mem_cons, List.not_mem_nil, or_false] at hd
        rcases hd with rfl | rfl | rfl | rfl | rfl | rfl | rfl | rfl
        · rw [okTune_app, e1, Bool.and_false]
        · rw [okTune_app, e2, Bool.false_and]
        · rw [okTune_app, e3, Bool.and_false]
        · rfl
        · rfl
        · rfl
        · rfl
        · rw [okTune_app, e4, Bool.and_false]
      -- bad = odd[..]
      obtain ⟨xs5, ex5, ix5⟩ := w5.list 0
      have hk : ∃ k : Nat, ns.getD 0 0 % 8 = (k : Int) ∧ k < 8 := ⟨(ns.getD 0 0 % 8).toNat, by omega, by omega⟩
      obtain ⟨k, hk1, hk8⟩ := hk
      obtain ⟨d, ed, hdm⟩ : ∃ d, ([.str (tuneS t ++ Str.ofString "d"), .str (Str.ofString "A" ++ tuneS t), .str (tuneS t ++ Str.ofString " "), .none, .int 0, .list [.str (Str.ofString "a")], .tuple [.str (Str.ofString "a")], .str (tuneS t ++ (⟨#[kc]⟩ : Str))] : List PyData)[k]? = some d ∧ okTune h.w d = false := by
        have hlt : k < ([.str (tuneS t ++ Str.ofString "d"), .str (Str.ofString "A" ++ tuneS t), .str (tuneS t ++ Str.ofString " "), .none, .int 0, .list [.str (Str.ofString "a")], .tuple [.str (Str.ofString "a")], .str (tuneS t ++ (⟨#[kc]⟩ : Str))] : List PyData).length := hk8
        exact ⟨_, List.getElem?_eq_getElem hlt, bad _ (List.getElem_mem hlt)⟩
      obtain ⟨x, ex, im⟩ := ix5.get ed
      refine ⟨_, rfl, _, rfl, a, ns, 0, rfl, w5.same.seq hS, _, _, rfl, rfl, (by show (0 : Int) < 8; decide), lo, _, _, x, rfl, rfl, SqL.of ex5, ?_, ?_⟩
      · rw [hk1]; exact atI_nat ex
      have w6 := w5.add im
      refine ⟨_, rfl, _, rfl, _, h, hv, _, d, x, 4, rfl, oh, w6.get 3, w6.get 0, hdm, by decide, fun l4 H6 w4' => ?_⟩
      have w7 := w6.join1 w4' rfl
      refine ⟨(by show 3 ≤ sizeLine; decide), fun l5 hl5 => ?_⟩
      have w8 := w7.pushL hl5 (ds := [.bool false, .bool true, .bool true]) (xs := [.bl false, .bl true, .bl true]) ⟨_, _, rfl, rfl, _, _, rfl, rfl, _, _, rfl, rfl, rfl⟩
      refine ⟨_, _, w8.dp 1, w8.dp 0, by decide +kernel, by decide +kernel, _, rfl, ?_⟩
      refine iteF ?_
      -- [way for way in [..] if ..] == []
      refine ⟨(by show 6 ≤ sizeLine; decide), fun lw hlw => ?_⟩
      have w9 := w8.pushL hlw (ds := [0, 1, 2, 3, 5, 6].map nD) (xs := [0, 1, 2, 3, 5, 6].map nV) (ImAll.nats _)
      refine ⟨lw, rfl, ⟨_, SqL.of (w9.nats 0)⟩, fun D hD => lc_listW (K := K) (xs := [0, 1, 2, 3, 5, 6].map nV) (fun _ => []) w9 hD rfl (fun _ _ => (by show 0 < sizeLine; decide)) (fun i H' _ w' => SqL.of (w'.nats 1)) (fun i y H' hy w' => ?_) (fun H' w' => ?_)⟩
      · intro Qt Qf k1 k2
        obtain ⟨way, rfl, hw6, hw4⟩ : ∃ way, y = nV way ∧ way ≤ 6 ∧ ¬ way = 4 := by
          have := List.mem_of_getElem? hy
          obtain ⟨z, hz, rfl⟩ := List.mem_map.mp this
          simp at hz
          exact ⟨z, rfl, by omega, by omega⟩
        refine ⟨_, rfl, _, rfl, _, rfl, _, h, hv, _, d, x, way, rfl, oh, w'.get 3, w'.get 0, hdm, hw6, fun l6 H7 w6' => ?_⟩
        have w10 := w'.join1 w6' rfl
        refine ⟨(by show 3 ≤ sizeLine; decide), fun l7 hl7 => ?_⟩
        have w11 := w10.pushL hl7 (ds := [.bool true, .bool false, .bool true]) (xs := [.bl true, .bl false, .bl true]) ⟨_, _, rfl, rfl, _, _, rfl, rfl, _, _, rfl, rfl, rfl⟩
        refine ⟨_, _, w11.dp 1, w11.dp 0, by rw [decide_eq_false hw4]; decide +kernel, by decide +kernel, _, rfl, ?_⟩
        rw [decide_eq_false hw4]
        exact iteF (k2 _ w11.pop.pop rfl)
      · refine ⟨Nat.zero_le _, fun l8 hl8 => ?_⟩
        have w10 := w'.pushL hl8 (ds := []) (xs := []) ImAll.nil
        refine ⟨_, _, w10.dp 1, w10.dp 0, by decide +kernel, by decide +kernel, ?_⟩
        have e0 : PyData.eqv (.list []) (.list []) = true := by decide +kernel
        show Q (.bl (PyData.eqv (.list []) (.list []))) _
        rw [e0]
        exact q _
    · -- a tune
      refine ⟨_, rfl, _, rfl, _, h, hv, [], .str (tuneS t), _, rfl, oh, w2.get 0, rfl, fun u e hu => ?_, fun e => ?_⟩
      · refine ⟨_, rfl, [], .bool (h.good u), _, rfl, rfl, _, rfl, iteT ⟨_, rfl, _, rfl, _, rfl, _, h, hv, t, rfl, oh, w2.get 0, htl, rfl, ?_⟩⟩
        have eu : tuneS u = tuneS t := by injection e with e; exact e.symm
        have : h.good u = h.good t := by
          have e2 : u = t := by
            have := congrArg (fun z : Str => z.cps.toList.map (· - 97)) eu
            simpa [tuneS, List.map_map, Function.comp_def] using this
          rw [e2]
        rw [this]
        show Q (.bl (decide (V.bl (h.good t) = V.bl (h.good t)))) H2
        rw [decide_eq_true rfl]
        exact q _
      · rw [okTune_tune htl] at e; cases e
end
/-! ### the end -/
theorem kit_self {K : PySem.W.Frag} {D : Addr} : PySem.W.kitOne K (.ref D) (.ref D) = some true := by unfold PySem.W.kitOne; rw [if_pos (beq_self_eq_true _)]
theorem all_mk {l : PySem.W.OpenLaw} {w : World} {K : PySem.W.Frag} {h : Heap} {mg : Str → Option Value} {fa f1 f2 f3 f4 f5 f6 f7 f8 f9 f10 f11 f12 f13 f14 f15 f16 f17 f18 f19 f20 f21 f22 eHallError eBadTune eBadPattern : Addr} (X : K.In h) (G : h.Ns mainGlobals mg) (hfa : mg "law" = some (.ref fa))
    {od1 an1 : Option Addr} {sl1 : Array (Option Value)} {oc1 kV1 dc1 pm1 cd1 ct1 : Value}
    {od2 an2 : Option Addr} {sl2 : Array (Option Value)} {oc2 kV2 dc2 pm2 cd2 ct2 : Value}
    {od3 an3 : Option Addr} {sl3 : Array (Option Value)} {oc3 kV3 dc3 pm3 cd3 ct3 : Value}
    {od4 an4 : Option Addr} {sl4 : Array (Option Value)} {oc4 kV4 dc4 pm4 cd4 ct4 : Value}
    {od5 an5 : Option Addr} {sl5 : Array (Option Value)} {oc5 kV5 dc5 pm5 cd5 ct5 : Value}
    {od6 an6 : Option Addr} {sl6 : Array (Option Value)} {oc6 kV6 dc6 pm6 cd6 ct6 : Value}
    {od7 an7 : Option Addr} {sl7 : Array (Option Value)} {oc7 kV7 dc7 pm7 cd7 ct7 : Value}
    {od8 an8 : Option Addr} {sl8 : Array (Option Value)} {oc8 kV8 dc8 pm8 cd8 ct8 : Value}
    {od9 an9 : Option Addr} {sl9 : Array (Option Value)} {oc9 kV9 dc9 pm9 cd9 ct9 : Value}
    {od10 an10 : Option Addr} {sl10 : Array (Option Value)} {oc10 kV10 dc10 pm10 cd10 ct10 : Value}
    {od11 an11 : Option Addr} {sl11 : Array (Option Value)} {oc11 kV11 dc11 pm11 cd11 ct11 : Value}
    {od12 an12 : Option Addr} {sl12 : Array (Option Value)} {oc12 kV12 dc12 pm12 cd12 ct12 : Value}
    {od13 an13 : Option Addr} {sl13 : Array (Option Value)} {oc13 kV13 dc13 pm13 cd13 ct13 : Value}
    {od14 an14 : Option Addr} {sl14 : Array (Option Value)} {oc14 kV14 dc14 pm14 cd14 ct14 : Value}
    {od15 an15 : Option Addr} {sl15 : Array (Option Value)} {oc15 kV15 dc15 pm15 cd15 ct15 : Value}
    {od16 an16 : Option Addr} {sl16 : Array (Option Value)} {oc16 kV16 dc16 pm16 cd16 ct16 : Value}
    {od17 an17 : Option Addr} {sl17 : Array (Option Value)} {oc17 kV17 dc17 pm17 cd17 ct17 : Value}
    {od18 an18 : Option Addr} {sl18 : Array (Option Value)} {oc18 kV18 dc18 pm18 cd18 ct18 : Value}
    {od19 an19 : Option Addr} {sl19 : Array (Option Value)} {oc19 kV19 dc19 pm19 cd19 ct19 : Value}
    {od20 an20 : Option Addr} {sl20 : Array (Option Value)} {oc20 kV20 dc20 pm20 cd20 ct20 : Value}
    {od21 an21 : Option Addr} {sl21 : Array (Option Value)} {oc21 kV21 dc21 pm21 cd21 ct21 : Value}
    {od22 an22 : Option Addr} {sl22 : Array (Option Value)} {oc22 kV22 dc22 pm22 cd22 ct22 : Value}
    {tkMOST_SIGNS : Tok}
    (a1 : PySem.W.nsIn K mainGlobals "_law_cell" = some (some (.ref f1))) (l1 : K.lookup f1 = some ⟨oc1, od1, .func (PySem.W.fnOf "_law_cell" "_law_cell" (defArgs s_l_cell) (defBody s_l_cell) (defScope s_l_cell) .none kV1 dc1 pm1 an1 cd1 ct1), sl1⟩) (c1 : PySem.W.codeIn K cd1 "_law_cell" = true) (k1 : PySem.W.keepIn K (.ref f1) = true)
    (a2 : PySem.W.nsIn K mainGlobals "_law_mix" = some (some (.ref f2))) (l2 : K.lookup f2 = some ⟨oc2, od2, .func (PySem.W.fnOf "_law_mix" "_law_mix" (defArgs s_l_mix) (defBody s_l_mix) (defScope s_l_mix) .none kV2 dc2 pm2 an2 cd2 ct2), sl2⟩) (c2 : PySem.W.codeIn K cd2 "_law_mix" = true) (k2 : PySem.W.keepIn K (.ref f2) = true)
    (a3 : PySem.W.nsIn K mainGlobals "_law_large" = some (some (.ref f3))) (l3 : K.lookup f3 = some ⟨oc3, od3, .func (PySem.W.fnOf "_law_large" "_law_large" (defArgs s_l_large) (defBody s_l_large) (defScope s_l_large) .none kV3 dc3 pm3 an3 cd3 ct3), sl3⟩) (c3 : PySem.W.codeIn K cd3 "_law_large" = true) (k3 : PySem.W.keepIn K (.ref f3) = true)
    (a4 : PySem.W.nsIn K mainGlobals "_law_hall" = some (some (.ref f4))) (l4 : K.lookup f4 = some ⟨oc4, od4, .func (PySem.W.fnOf "_law_hall" "_law_hall" (defArgs s_l_hall) (defBody s_l_hall) (defScope s_l_hall) .none kV4 dc4 pm4 an4 cd4 ct4), sl4⟩) (c4 : PySem.W.codeIn K cd4 "_law_hall" = true) (k4 : PySem.W.keepIn K (.ref f4) = true)
    (a5 : PySem.W.nsIn K mainGlobals "_law_apart" = some (some (.ref f5))) (l5 : K.lookup f5 = some ⟨oc5, od5, .func (PySem.W.fnOf "_law_apart" "_law_apart" (defArgs s_l_apart) (defBody s_l_apart) (defScope s_l_apart) .none kV5 dc5 pm5 an5 cd5 ct5), sl5⟩) (c5 : PySem.W.codeIn K cd5 "_law_apart" = true) (k5 : PySem.W.keepIn K (.ref f5) = true)
    (a6 : PySem.W.nsIn K mainGlobals "_law_tight" = some (some (.ref f6))) (l6 : K.lookup f6 = some ⟨oc6, od6, .func (PySem.W.fnOf "_law_tight" "_law_tight" (defArgs s_l_tight) (defBody s_l_tight) (defScope s_l_tight) .none kV6 dc6 pm6 an6 cd6 ct6), sl6⟩) (c6 : PySem.W.codeIn K cd6 "_law_tight" = true) (k6 : PySem.W.keepIn K (.ref f6) = true)
    (a7 : PySem.W.nsIn K mainGlobals "_law_made" = some (some (.ref f7))) (l7 : K.lookup f7 = some ⟨oc7, od7, .func (PySem.W.fnOf "_law_made" "_law_made" (defArgs s_l_made) (defBody s_l_made) (defScope s_l_made) .none kV7 dc7 pm7 an7 cd7 ct7), sl7⟩) (c7 : PySem.W.codeIn K cd7 "_law_made" = true) (k7 : PySem.W.keepIn K (.ref f7) = true)
    (a8 : PySem.W.nsIn K mainGlobals "_law_tune" = some (some (.ref f8))) (l8 : K.lookup f8 = some ⟨oc8, od8, .func (PySem.W.fnOf "_law_tune" "_law_tune" (defArgs s_l_tune) (defBody s_l_tune) (defScope s_l_tune) .none kV8 dc8 pm8 an8 cd8 ct8), sl8⟩) (c8 : PySem.W.codeIn K cd8 "_law_tune" = true) (k8 : PySem.W.keepIn K (.ref f8) = true)
    (a9 : PySem.W.nsIn K mainGlobals "_law_room" = some (some (.ref f9))) (l9 : K.lookup f9 = some ⟨oc9, od9, .func (PySem.W.fnOf "_law_room" "_law_room" (defArgs s_l_room) (defBody s_l_room) (defScope s_l_room) .none kV9 dc9 pm9 an9 cd9 ct9), sl9⟩) (c9 : PySem.W.codeIn K cd9 "_law_room" = true) (k9 : PySem.W.keepIn K (.ref f9) = true)
    (a10 : PySem.W.nsIn K mainGlobals "_law_good" = some (some (.ref f10))) (l10 : K.lookup f10 = some ⟨oc10, od10, .func (PySem.W.fnOf "_law_good" "_law_good" (defArgs s_l_good) (defBody s_l_good) (defScope s_l_good) .none kV10 dc10 pm10 an10 cd10 ct10), sl10⟩) (c10 : PySem.W.codeIn K cd10 "_law_good" = true) (k10 : PySem.W.keepIn K (.ref f10) = true)
    (a11 : PySem.W.nsIn K mainGlobals "letters" = some (some (.ref f11))) (l11 : K.lookup f11 = some ⟨oc11, od11, .func (PySem.W.fnOf "letters" "letters" (defArgs s_letters) (defBody s_letters) (defScope s_letters) .none kV11 dc11 pm11 an11 cd11 ct11), sl11⟩) (c11 : PySem.W.codeIn K cd11 "letters" = true) (k11 : PySem.W.keepIn K (.ref f11) = true)
    (a12 : PySem.W.nsIn K mainGlobals "look_tune" = some (some (.ref f12))) (l12 : K.lookup f12 = some ⟨oc12, od12, .func (PySem.W.fnOf "look_tune" "look_tune" (defArgs s_look_tune) (defBody s_look_tune) (defScope s_look_tune) .none kV12 dc12 pm12 an12 cd12 ct12), sl12⟩) (c12 : PySem.W.codeIn K cd12 "look_tune" = true) (k12 : PySem.W.keepIn K (.ref f12) = true)
    (a13 : PySem.W.nsIn K mainGlobals "led" = some (some (.ref f13))) (l13 : K.lookup f13 = some ⟨oc13, od13, .func (PySem.W.fnOf "led" "led" (defArgs s_led) (defBody s_led) (defScope s_led) .none kV13 dc13 pm13 an13 cd13 ct13), sl13⟩) (c13 : PySem.W.codeIn K cd13 "led" = true) (k13 : PySem.W.keepIn K (.ref f13) = true)
    (a14 : PySem.W.nsIn K mainGlobals "has" = some (some (.ref f14))) (l14 : K.lookup f14 = some ⟨oc14, od14, .func (PySem.W.fnOf "has" "has" (defArgs s_has) (defBody s_has) (defScope s_has) .none kV14 dc14 pm14 an14 cd14 ct14), sl14⟩) (c14 : PySem.W.codeIn K cd14 "has" = true) (k14 : PySem.W.keepIn K (.ref f14) = true)
    (a15 : PySem.W.nsIn K mainGlobals "is_within" = some (some (.ref f15))) (l15 : K.lookup f15 = some ⟨oc15, od15, .func (PySem.W.fnOf "is_within" "is_within" (defArgs s_is_within) (defBody s_is_within) (defScope s_is_within) .none kV15 dc15 pm15 an15 cd15 ct15), sl15⟩) (c15 : PySem.W.codeIn K cd15 "is_within" = true) (k15 : PySem.W.keepIn K (.ref f15) = true)
    (a16 : PySem.W.nsIn K mainGlobals "look_pattern" = some (some (.ref f16))) (l16 : K.lookup f16 = some ⟨oc16, od16, .func (PySem.W.fnOf "look_pattern" "look_pattern" (defArgs s_look_pattern) (defBody s_look_pattern) (defScope s_look_pattern) .none kV16 dc16 pm16 an16 cd16 ct16), sl16⟩) (c16 : PySem.W.codeIn K cd16 "look_pattern" = true) (k16 : PySem.W.keepIn K (.ref f16) = true)
    (a17 : PySem.W.nsIn K mainGlobals "behind" = some (some (.ref f17))) (l17 : K.lookup f17 = some ⟨oc17, od17, .func (PySem.W.fnOf "behind" "behind" (defArgs s_behind) (defBody s_behind) (defScope s_behind) .none kV17 dc17 pm17 an17 cd17 ct17), sl17⟩) (c17 : PySem.W.codeIn K cd17 "behind" = true) (k17 : PySem.W.keepIn K (.ref f17) = true)
    (a18 : PySem.W.nsIn K mainGlobals "ahead" = some (some (.ref f18))) (l18 : K.lookup f18 = some ⟨oc18, od18, .func (PySem.W.fnOf "ahead" "ahead" (defArgs s_ahead) (defBody s_ahead) (defScope s_ahead) .none kV18 dc18 pm18 an18 cd18 ct18), sl18⟩) (c18 : PySem.W.codeIn K cd18 "ahead" = true) (k18 : PySem.W.keepIn K (.ref f18) = true)
    (a19 : PySem.W.nsIn K mainGlobals "rank" = some (some (.ref f19))) (l19 : K.lookup f19 = some ⟨oc19, od19, .func (PySem.W.fnOf "rank" "rank" (defArgs s_rank) (defBody s_rank) (defScope s_rank) .none kV19 dc19 pm19 an19 cd19 ct19), sl19⟩) (c19 : PySem.W.codeIn K cd19 "rank" = true) (k19 : PySem.W.keepIn K (.ref f19) = true)
    (a20 : PySem.W.nsIn K mainGlobals "matches" = some (some (.ref f20))) (l20 : K.lookup f20 = some ⟨oc20, od20, .func (PySem.W.fnOf "matches" "matches" (defArgs s_matches) (defBody s_matches) (defScope s_matches) .none kV20 dc20 pm20 an20 cd20 ct20), sl20⟩) (c20 : PySem.W.codeIn K cd20 "matches" = true) (k20 : PySem.W.keepIn K (.ref f20) = true)
    (a21 : PySem.W.nsIn K mainGlobals "_law_told" = some (some (.ref f21))) (l21 : K.lookup f21 = some ⟨oc21, od21, .func (PySem.W.fnOf "_law_told" "_law_told" (defArgs s_l_told) (defBody s_l_told) (defScope s_l_told) .none kV21 dc21 pm21 an21 cd21 ct21), sl21⟩) (c21 : PySem.W.codeIn K cd21 "_law_told" = true) (k21 : PySem.W.keepIn K (.ref f21) = true)
    (a22 : PySem.W.nsIn K mainGlobals "law" = some (some (.ref f22))) (l22 : K.lookup f22 = some ⟨oc22, od22, .func (PySem.W.fnOf "law" "law" (defArgs s_law) (defBody s_law) (defScope s_law) .none kV22 dc22 pm22 an22 cd22 ct22), sl22⟩) (c22 : PySem.W.codeIn K cd22 "law" = true) (k22 : PySem.W.keepIn K (.ref f22) = true)
    (x1HallError : PySem.W.nsIn K mainGlobals "HallError" = some (some (.ref eHallError))) (x2HallError : PySem.W.excIn K eHallError veTail "ValueError.__new__" = true) (x3HallError : PySem.W.keepIn K (.ref eHallError) = true) (x4HallError : PySem.W.subIn K (.ref eHallError) (.type "BaseException") = some true) (x5HallError : PySem.W.typeIn K (.ref eHallError) = some (.type "type"))
    (x1BadTune : PySem.W.nsIn K mainGlobals "BadTune" = some (some (.ref eBadTune))) (x2BadTune : PySem.W.excIn K eBadTune veTail "ValueError.__new__" = true) (x3BadTune : PySem.W.keepIn K (.ref eBadTune) = true) (x4BadTune : PySem.W.subIn K (.ref eBadTune) (.type "BaseException") = some true) (x5BadTune : PySem.W.typeIn K (.ref eBadTune) = some (.type "type"))
    (x1BadPattern : PySem.W.nsIn K mainGlobals "BadPattern" = some (some (.ref eBadPattern))) (x2BadPattern : PySem.W.excIn K eBadPattern veTail "ValueError.__new__" = true) (x3BadPattern : PySem.W.keepIn K (.ref eBadPattern) = true) (x4BadPattern : PySem.W.subIn K (.ref eBadPattern) (.type "BaseException") = some true) (x5BadPattern : PySem.W.typeIn K (.ref eBadPattern) = some (.type "type"))
    (y1BadTune : PySem.W.findIn K (.ref eBadTune) "__getattribute__" = some (some (.builtin "BaseException.__getattribute__"))) (y2BadTune : PySem.W.findIn K (.ref eBadTune) "__getattr__" = some none) (y4BadTune : PySem.W.hasDictIn K eBadTune = true) (y5BadTune : PySem.W.findIn K (.ref eBadTune) "__class__" = some (some (.builtin "object.__class__"))) (y8BadTune : PySem.W.mroIn K eBadTune (.type "object") = some true)
    (y1BadPattern : PySem.W.findIn K (.ref eBadPattern) "__getattribute__" = some (some (.builtin "BaseException.__getattribute__"))) (y2BadPattern : PySem.W.findIn K (.ref eBadPattern) "__getattr__" = some none) (y4BadPattern : PySem.W.hasDictIn K eBadPattern = true) (y5BadPattern : PySem.W.findIn K (.ref eBadPattern) "__class__" = some (some (.builtin "object.__class__"))) (y8BadPattern : PySem.W.mroIn K eBadPattern (.type "object") = some true)
    (y6 : PySem.W.specialIn K (.builtin "object.__class__") "__get__" = some (some (.builtin "getset_descriptor.__get__"))) (y7 : PySem.W.takesIn K (.builtin "object.__class__") = some true)
    (sBadTune_HallError : PySem.W.subIn K (.ref eBadTune) (.ref eHallError) = some true)
    (sBadPattern_HallError : PySem.W.subIn K (.ref eBadPattern) (.ref eHallError) = some true)
    (dHallError : PySem.W.hasDictIn K eHallError = true)
    (tBadTune_BadTune : PySem.W.kitOne K (.ref eBadTune) (.ref eBadTune) = some true)
    (tBadTune_BadPattern : PySem.W.kitOne K (.ref eBadTune) (.ref eBadPattern) = some false)
    (tBadTune_ValueError : PySem.W.kitOne K (.ref eBadTune) (.type "ValueError") = some true)
    (tBadPattern_BadTune : PySem.W.kitOne K (.ref eBadPattern) (.ref eBadTune) = some false)
    (tBadPattern_BadPattern : PySem.W.kitOne K (.ref eBadPattern) (.ref eBadPattern) = some true)
    (tBadPattern_ValueError : PySem.W.kitOne K (.ref eBadPattern) (.type "ValueError") = some true)
    (mMOST_SIGNS : PySem.W.nsIn K mainGlobals "MOST_SIGNS" = some (some (.int 2000 tkMOST_SIGNS)))
    (zlen : PySem.W.nsIn K mainGlobals "len" = some none)
    (zrange : PySem.W.nsIn K mainGlobals "range" = some none)
    (ztuple : PySem.W.nsIn K mainGlobals "tuple" = some none)
    (zisinstance : PySem.W.nsIn K mainGlobals "isinstance" = some none)
    (zstr : PySem.W.nsIn K mainGlobals "str" = some none)
    (zint : PySem.W.nsIn K mainGlobals "int" = some none)
    (zbool : PySem.W.nsIn K mainGlobals "bool" = some none)
    (zValueError : PySem.W.nsIn K mainGlobals "ValueError" = some none) :
    ∃ fd : FuncData, (∀ (s : Shared) (v : Value), BindsTo s fd ⟨[v], []⟩ [("script", v)]) ∧ ∀ base : Heap, K.In base → base.Ns mainGlobals mg → FnOk l.prog w K mg base CX0 5 fa fd ["script"] (spLaw K) := by
  have e := hfa.symm.trans (PySem.W.mg_of X G a22)
  cases e
  have g_len : mg "len" = none := PySem.W.mg_none_of X G zlen
  have g_range : mg "range" = none := PySem.W.mg_none_of X G zrange
  have g_tuple : mg "tuple" = none := PySem.W.mg_none_of X G ztuple
  have g_isinstance : mg "isinstance" = none := PySem.W.mg_none_of X G zisinstance
  have g_str : mg "str" = none := PySem.W.mg_none_of X G zstr
  have g_int : mg "int" = none := PySem.W.mg_none_of X G zint
  have g_bool : mg "bool" = none := PySem.W.mg_none_of X G zbool
  have g_ValueError : mg "ValueError" = none := PySem.W.mg_none_of X G zValueError
  have g_MOST_SIGNS : ∃ t, mg "MOST_SIGNS" = some (.int 2000 t) := ⟨_, PySem.W.mg_of X G mMOST_SIGNS⟩
  have X_HallError : XCls K mg "HallError" eHallError := ⟨PySem.W.mg_of X G x1HallError, x2HallError, x3HallError, x4HallError, x5HallError⟩
  have X_BadTune : XCls K mg "BadTune" eBadTune := ⟨PySem.W.mg_of X G x1BadTune, x2BadTune, x3BadTune, x4BadTune, x5BadTune⟩
  have X_BadPattern : XCls K mg "BadPattern" eBadPattern := ⟨PySem.W.mg_of X G x1BadPattern, x2BadPattern, x3BadPattern, x4BadPattern, x5BadPattern⟩
  have E_BadTune : ExcC K eBadTune := ⟨y1BadTune, y2BadTune, x4BadTune, y4BadTune, y5BadTune, y6, y7, y8BadTune⟩
  have E_BadPattern : ExcC K eBadPattern := ⟨y1BadPattern, y2BadPattern, x4BadPattern, y4BadPattern, y5BadPattern, y6, y7, y8BadPattern⟩
  have M_BadTune_HallError : PySem.W.exmOne K (.ref eBadTune) (.ref eHallError) = some true := PySem.W.exm_ref x4HallError dHallError x5HallError sBadTune_HallError
  have M_BadPattern_HallError : PySem.W.exmOne K (.ref eBadPattern) (.ref eHallError) = some true := PySem.W.exm_ref x4HallError dHallError x5HallError sBadPattern_HallError
  have tT : Told K eHallError eBadTune eBadPattern eBadTune true false := ⟨M_BadTune_HallError, E_BadTune, tBadTune_BadTune, tBadTune_BadPattern, tBadTune_ValueError⟩
  have tP : Told K eHallError eBadTune eBadPattern eBadPattern false true := ⟨M_BadPattern_HallError, E_BadPattern, tBadPattern_BadTune, tBadPattern_BadPattern, tBadPattern_ValueError⟩
  have F1 := fun_mk (st := s_l_cell) l1 c1 k1
  have F2 := fun_mk (st := s_l_mix) l2 c2 k2
  have F3 := fun_mk (st := s_l_large) l3 c3 k3
  have F4 := fun_mk (st := s_l_hall) l4 c4 k4
  have F5 := fun_mk (st := s_l_apart) l5 c5 k5
  have F6 := fun_mk (st := s_l_tight) l6 c6 k6
  have F7 := fun_mk (st := s_l_made) l7 c7 k7
  have F8 := fun_mk (st := s_l_tune) l8 c8 k8
  have F9 := fun_mk (st := s_l_room) l9 c9 k9
  have F10 := fun_mk (st := s_l_good) l10 c10 k10
  have F11 := fun_mk (st := s_letters) l11 c11 k11
  have F12 := fun_mk (st := s_look_tune) l12 c12 k12
  have F13 := fun_mk (st := s_led) l13 c13 k13
  have F14 := fun_mk (st := s_has) l14 c14 k14
  have F15 := fun_mk (st := s_is_within) l15 c15 k15
  have F16 := fun_mk (st := s_look_pattern) l16 c16 k16
  have F17 := fun_mk (st := s_behind) l17 c17 k17
  have F18 := fun_mk (st := s_ahead) l18 c18 k18
  have F19 := fun_mk (st := s_rank) l19 c19 k19
  have F20 := fun_mk (st := s_matches) l20 c20 k20
  have F21 := fun_mk (st := s_l_told) l21 c21 k21
  have F22 := fun_mk (st := s_law) l22 c22 k22
  refine ⟨PySem.W.fnOf "law" "law" (defArgs s_law) (defBody s_law) (defScope s_law) .none kV22 dc22 pm22 an22 cd22 ct22, fun s v => .of_eq rfl, fun base _ _ => ?_⟩
  have C_l_cell : Cal l.prog w K mg base CX0 1 "_law_cell" ["script", "k"] (spCell K) := ⟨_, _, ok_l_cell F1 g_len, PySem.W.mg_of X G a1, k1, F1.binds (ps := ["script", "k"]) fun _ _ _ _ _ _ us hl => match us, hl with | [_, _], _ => rfl⟩
  have C_l_mix : Cal l.prog w K mg base CX0 1 "_law_mix" ["cell", "prime", "many"] spMix := ⟨_, _, ok_l_mix F2 , PySem.W.mg_of X G a2, k2, F2.binds (ps := ["cell", "prime", "many"]) fun _ _ _ _ _ _ us hl => match us, hl with | [_, _, _], _ => rfl⟩
  have C_l_large : Cal l.prog w K mg base CX0 2 "_law_large" ["script"] (spLarge K) := ⟨_, _, ok_l_large F3 g_len C_l_cell C_l_mix, PySem.W.mg_of X G a3, k3, F3.binds (ps := ["script"]) fun _ _ _ _ _ _ us hl => match us, hl with | [_], _ => rfl⟩
  have C_l_hall : Cal l.prog w K mg base CX0 3 "_law_hall" ["script", "at"] (spLhall K) := ⟨_, _, ok_l_hall F4 g_len g_range g_tuple C_l_cell C_l_mix C_l_large, PySem.W.mg_of X G a4, k4, F4.binds (ps := ["script", "at"]) fun _ _ _ _ _ _ us hl => match us, hl with | [_, _], _ => rfl⟩
  have C_l_apart : Cal l.prog w K mg base CX0 1 "_law_apart" ["hall"] spApart := ⟨_, _, ok_l_apart F5 g_len g_range, PySem.W.mg_of X G a5, k5, F5.binds (ps := ["hall"]) fun _ _ _ _ _ _ us hl => match us, hl with | [_], _ => rfl⟩
  have C_l_tight : Cal l.prog w K mg base CX0 2 "_law_tight" ["hall"] spLtight := ⟨_, _, ok_l_tight F6 g_len g_range g_tuple C_l_apart, PySem.W.mg_of X G a6, k6, F6.binds (ps := ["hall"]) fun _ _ _ _ _ _ us hl => match us, hl with | [_], _ => rfl⟩
  have C_l_made : Cal l.prog w K mg base CX0 4 "_law_made" ["script", "at"] (spLmade K) := ⟨_, _, ok_l_made F7 C_l_hall C_l_tight, PySem.W.mg_of X G a7, k7, F7.binds (ps := ["script", "at"]) fun _ _ _ _ _ _ us hl => match us, hl with | [_, _], _ => rfl⟩
  have C_l_tune : Cal l.prog w K mg base CX0 2 "_law_tune" ["script", "at", "whistles", "most"] (spLtune K) := ⟨_, _, ok_l_tune F8 g_range C_l_cell C_l_mix, PySem.W.mg_of X G a8, k8, F8.binds (ps := ["script", "at", "whistles", "most"]) fun _ _ _ _ _ _ us hl => match us, hl with | [_, _, _, _], _ => rfl⟩
  have C_l_room : Cal l.prog w K mg base CX0 1 "_law_room" ["hall", "room", "tune"] spLed := ⟨_, _, ok_l_room F9 , PySem.W.mg_of X G a9, k9, F9.binds (ps := ["hall", "room", "tune"]) fun _ _ _ _ _ _ us hl => match us, hl with | [_, _, _], _ => rfl⟩
  have C_l_good : Cal l.prog w K mg base CX0 2 "_law_good" ["hall", "tune"] spLgood := ⟨_, _, ok_l_good F10 C_l_room, PySem.W.mg_of X G a10, k10, F10.binds (ps := ["hall", "tune"]) fun _ _ _ _ _ _ us hl => match us, hl with | [_, _], _ => rfl⟩
  have C_letters : Cal l.prog w K mg base CX0 1 "letters" ["whistles"] spLetters := ⟨_, _, ok_letters F11 , PySem.W.mg_of X G a11, k11, F11.binds (ps := ["whistles"]) fun _ _ _ _ _ _ us hl => match us, hl with | [_], _ => rfl⟩
  have C_look_tune : Cal l.prog w K mg base (L2.CX l.prog w) 2 "look_tune" ["tune", "whistles"] (spLookTune eBadTune) := ⟨_, _, ok_look_tune F12 g_isinstance g_str X_BadTune C_letters, PySem.W.mg_of X G a12, k12, F12.binds (ps := ["tune", "whistles"]) fun _ _ _ _ _ _ us hl => match us, hl with | [_, _], _ => rfl⟩
  have C_led : Cal l.prog w K mg base CX0 1 "led" ["hall", "room", "tune"] spLed := ⟨_, _, ok_led F13 , PySem.W.mg_of X G a13, k13, F13.binds (ps := ["hall", "room", "tune"]) fun _ _ _ _ _ _ us hl => match us, hl with | [_, _, _], _ => rfl⟩
  have C_has : Cal l.prog w K mg base (L2.CX l.prog w) 3 "has" ["hall", "tune"] (spHas eBadTune) := ⟨_, _, ok_has F14 C_look_tune C_led, PySem.W.mg_of X G a14, k14, F14.binds (ps := ["hall", "tune"]) fun _ _ _ _ _ _ us hl => match us, hl with | [_, _], _ => rfl⟩
  have C_is_within : Cal l.prog w K mg base CX0 1 "is_within" ["thing", "low", "high"] spWithin := ⟨_, _, ok_is_within F15 g_isinstance g_int g_bool, PySem.W.mg_of X G a15, k15, F15.binds (ps := ["thing", "low", "high"]) fun _ _ _ _ _ _ us hl => match us, hl with | [_, _, _], _ => rfl⟩
  have C_look_pattern : Cal l.prog w K mg base (L2.CX l.prog w) 2 "look_pattern" ["pattern", "whistles"] (spLookPat eBadPattern) := ⟨_, _, ok_look_pattern F16 g_isinstance g_str g_len g_int g_MOST_SIGNS X_BadPattern C_letters C_is_within, PySem.W.mg_of X G a16, k16, F16.binds (ps := ["pattern", "whistles"]) fun _ _ _ _ _ _ us hl => match us, hl with | [_, _], _ => rfl⟩
  have C_behind : Cal l.prog w K mg base (L2.CX l.prog w) 3 "behind" ["hall", "tune"] (spBadT eBadTune) := ⟨_, _, ok_behind0 F17 C_look_tune, PySem.W.mg_of X G a17, k17, F17.binds (ps := ["hall", "tune"]) fun _ _ _ _ _ _ us hl => match us, hl with | [_, _], _ => rfl⟩
  have C_ahead : Cal l.prog w K mg base (L2.CX l.prog w) 3 "ahead" ["hall", "tune"] (spBadT eBadTune) := ⟨_, _, ok_ahead0 F18 C_look_tune, PySem.W.mg_of X G a18, k18, F18.binds (ps := ["hall", "tune"]) fun _ _ _ _ _ _ us hl => match us, hl with | [_, _], _ => rfl⟩
  have C_rank : Cal l.prog w K mg base (L2.CX l.prog w) 3 "rank" ["hall", "tune"] (spBadT eBadTune) := ⟨_, _, ok_rank0 F19 C_look_tune, PySem.W.mg_of X G a19, k19, F19.binds (ps := ["hall", "tune"]) fun _ _ _ _ _ _ us hl => match us, hl with | [_, _], _ => rfl⟩
  have C_matches : Cal l.prog w K mg base (L2.CX l.prog w) 3 "matches" ["pattern", "whistles", "tune"] (spMatB eBadPattern eBadTune) := ⟨_, _, ok_matches0 F20 C_look_tune C_look_pattern, PySem.W.mg_of X G a20, k20, F20.binds (ps := ["pattern", "whistles", "tune"]) fun _ _ _ _ _ _ us hl => match us, hl with | [_, _, _], _ => rfl⟩
  have C_l_told : Cal l.prog w K mg base CX0 4 "_law_told" ["hall", "tune", "way"] spTold3 := ⟨_, _, ok_l_told F21 g_isinstance g_ValueError X_HallError X_BadTune X_BadPattern tT tP C_has C_behind C_ahead C_rank C_matches, PySem.W.mg_of X G a21, k21, F21.binds (ps := ["hall", "tune", "way"]) fun _ _ _ _ _ _ us hl => match us, hl with | [_, _, _], _ => rfl⟩
  exact ok_law F22 g_isinstance g_bool C_l_made C_l_tune C_l_cell C_l_told C_has C_l_good
theorem walk {l : PySem.W.OpenLaw} {q : Program} {loose : List Str} {XP : (Str → Option Value) → Heap → Prop} {YP : World → Heap → Prop} {d : DefRec} {K : Params → PySem.W.Frag} (hn : l.most = some 63) (hdf : d.params.defaults = [])
    (hY : ∀ (w : World) (h : Heap), YP w h → (K w.params).In h)
    (F : ∀ (w : World) (mg : Str → Option Value) (fa : Addr) (h : Heap), (K w.params).In h → h.Ns mainGlobals mg → mg d.name = some (.ref fa) →
      ∃ fd : FuncData, (∀ (s : Shared) (u : Value), BindsTo s fd ⟨[u], []⟩ [("script", u)]) ∧ ∀ base : Heap, (K w.params).In base → base.Ns mainGlobals mg → FnOk l.prog w (K w.params) mg base CX0 5 fa fd ["script"] (spLaw (K w.params))) :
    PySem.W.WalkO q loose XP YP l.row.toRowW d [] (fun f vs => PySem.call f vs) :=
  L2.walk_of (n := 63) (k := 5) (x := "script") (CX := fun _ => CX0) (sp := fun w => spLaw (K w.params)) hn (by decide) hdf ⟨rfl, by decide, by decide⟩ hY F (fun _ _ a ns hl _ hS => ⟨a, ns, rfl, hS, hl, fun _ => rfl⟩) fun _ _ _ _ _ z => z
end WH

open PySem PySem.W PyProof.Rows in
set_option maxRecDepth 100000 in
set_option maxHeartbeats 0 in
theorem PySem.Challenge.cw_whistlehall_k03_good_tunes_holds : PySem.Challenge.rw_whistlehall_k03_good_tunes.Holds := by
  w_on; o_law; k_head; (case hw => w_witness2)
  k_fill
  refine WH.walk (l := PySem.Challenge.rw_whistlehall_k03_good_tunes) rfl rfl (fun w h Y => by first | exact PySem.W.kIn_of Y | exact PySem.W.km_in_of Y) ?F
  case F =>
    intro w mg fa h KX G hmg
    refine' WH.all_mk KX G hmg ?a1 ?l1 ?c1 ?k1 ?a2 ?l2 ?c2 ?k2 ?a3 ?l3 ?c3 ?k3 ?a4 ?l4 ?c4 ?k4 ?a5 ?l5 ?c5 ?k5 ?a6 ?l6 ?c6 ?k6 ?a7 ?l7 ?c7 ?k7 ?a8 ?l8 ?c8 ?k8 ?a9 ?l9 ?c9 ?k9 ?a10 ?l10 ?c10 ?k10 ?a11 ?l11 ?c11 ?k11 ?a12 ?l12 ?c12 ?k12 ?a13 ?l13 ?c13 ?k13 ?a14 ?l14 ?c14 ?k14 ?a15 ?l15 ?c15 ?k15 ?a16 ?l16 ?c16 ?k16 ?a17 ?l17 ?c17 ?k17 ?a18 ?l18 ?c18 ?k18 ?a19 ?l19 ?c19 ?k19 ?a20 ?l20 ?c20 ?k20 ?a21 ?l21 ?c21 ?k21 ?a22 ?l22 ?c22 ?k22 ?x1HallError ?x2HallError ?x3HallError ?x4HallError ?x5HallError ?x1BadTune ?x2BadTune ?x3BadTune ?x4BadTune ?x5BadTune ?x1BadPattern ?x2BadPattern ?x3BadPattern ?x4BadPattern ?x5BadPattern ?y1BadTune ?y2BadTune ?y4BadTune ?y5BadTune ?y8BadTune ?y1BadPattern ?y2BadPattern ?y4BadPattern ?y5BadPattern ?y8BadPattern ?y6 ?y7 ?sBadTune_HallError ?sBadPattern_HallError ?dHallError ?tBadTune_BadTune ?tBadTune_BadPattern ?tBadTune_ValueError ?tBadPattern_BadTune ?tBadPattern_BadPattern ?tBadPattern_ValueError ?mMOST_SIGNS ?zlen ?zrange ?ztuple ?zisinstance ?zstr ?zint ?zbool ?zValueError
    (case a1 => k_is)
    (case l1 => k_is)
    (case c1 => k_is)
    (case k1 => k_is)
    (case a2 => k_is)
    (case l2 => k_is)
    (case c2 => k_is)
    (case k2 => k_is)
    (case a3 => k_is)
    (case l3 => k_is)
    (case c3 => k_is)
    (case k3 => k_is)
    (case a4 => k_is)
    (case l4 => k_is)
    (case c4 => k_is)
    (case k4 => k_is)
    (case a5 => k_is)
    (case l5 => k_is)
    (case c5 => k_is)
    (case k5 => k_is)
    (case a6 => k_is)
    (case l6 => k_is)
    (case c6 => k_is)
    (case k6 => k_is)
    (case a7 => k_is)
    (case l7 => k_is)
    (case c7 => k_is)
    (case k7 => k_is)
    (case a8 => k_is)
    (case l8 => k_is)
    (case c8 => k_is)
    (case k8 => k_is)
    (case a9 => k_is)
    (case l9 => k_is)
    (case c9 => k_is)
    (case k9 => k_is)
    (case a10 => k_is)
    (case l10 => k_is)
    (case c10 => k_is)
    (case k10 => k_is)
    (case a11 => k_is)
    (case l11 => k_is)
    (case c11 => k_is)
    (case k11 => k_is)
    (case a12 => k_is)
    (case l12 => k_is)
    (case c12 => k_is)
    (case k12 => k_is)
    (case a13 => k_is)
    (case l13 => k_is)
    (case c13 => k_is)
    (case k13 => k_is)
    (case a14 => k_is)
    (case l14 => k_is)
    (case c14 => k_is)
    (case k14 => k_is)
    (case a15 => k_is)
    (case l15 => k_is)
    (case c15 => k_is)
    (case k15 => k_is)
    (case a16 => k_is)
    (case l16 => k_is)
    (case c16 => k_is)
    (case k16 => k_is)
    (case a17 => k_is)
    (case l17 => k_is)
    (case c17 => k_is)
    (case k17 => k_is)
    (case a18 => k_is)
    (case l18 => k_is)
    (case c18 => k_is)
    (case k18 => k_is)
    (case a19 => k_is)
    (case l19 => k_is)
    (case c19 => k_is)
    (case k19 => k_is)
    (case a20 => k_is)
    (case l20 => k_is)
    (case c20 => k_is)
    (case k20 => k_is)
    (case a21 => k_is)
    (case l21 => k_is)
    (case c21 => k_is)
    (case k21 => k_is)
    (case a22 => k_is)
    (case l22 => k_is)
    (case c22 => k_is)
    (case k22 => k_is)
    (case x1HallError => k_is)
    (case x2HallError => first | k_exc | k_is)
    (case x3HallError => k_is)
    (case x4HallError => k_is)
    (case x5HallError => k_is)
    (case x1BadTune => k_is)
    (case x2BadTune => first | k_exc | k_is)
    (case x3BadTune => k_is)
    (case x4BadTune => k_is)
    (case x5BadTune => k_is)
    (case x1BadPattern => k_is)
    (case x2BadPattern => first | k_exc | k_is)
    (case x3BadPattern => k_is)
    (case x4BadPattern => k_is)
    (case x5BadPattern => k_is)
    (case y1BadTune => k_is)
    (case y2BadTune => k_is)
    (case y4BadTune => k_is)
    (case y5BadTune => k_is)
    (case y8BadTune => k_is)
    (case y1BadPattern => k_is)
    (case y2BadPattern => k_is)
    (case y4BadPattern => k_is)
    (case y5BadPattern => k_is)
    (case y8BadPattern => k_is)
    (case y6 => k_is)
    (case y7 => k_is)
    (case sBadTune_HallError => first | rfl | k_is)
    (case sBadPattern_HallError => first | rfl | k_is)
    (case dHallError => k_is)
    (case tBadTune_BadTune => first | exact WH.kit_self | kit_is)
    (case tBadTune_BadPattern => first | exact WH.kit_self | kit_is)
    (case tBadTune_ValueError => first | exact WH.kit_self | kit_is)
    (case tBadPattern_BadTune => first | exact WH.kit_self | kit_is)
    (case tBadPattern_BadPattern => first | exact WH.kit_self | kit_is)
    (case tBadPattern_ValueError => first | exact WH.kit_self | kit_is)
    (case mMOST_SIGNS => k_is)
    (case zlen => k_is)
    (case zrange => k_is)
    (case ztuple => k_is)
    (case zisinstance => k_is)
    (case zstr => k_is)
    (case zint => k_is)
    (case zbool => k_is)
    (case zValueError => k_is)
