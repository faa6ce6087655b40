import PyProof.Rows.All
import Wide.All
import OpenK.AllK
import Wide.FinOn
import HandS.Lambda
import HandS.Nested
import HandS.EndTab
import HandS.ForMost
import HandS.TupMul
import HandS.TupAny
import HandS.ForExc
import HandS.IsInst
import HandS.ExcIs
import HandS.Replace
import KE.RegKIsAll
import KE.KDictKeyed
import KE.KeyNested
import HandS.ReCall
import HandS.Walk
import KE.GoesEnum
import HandS.Deep
import HandS.DictTup
import HandS.SetFor
import HandS.Strs
import HandS.Conv
import KE.SortData
import KE.GoesZip
import HandS.Zip
import HandS.RevTup
import HandS.Rev
import HandS.MapJoin
import PySem.Challenge.RW_whistlehall_k18_whole_patterns_of_halls
set_option Elab.async false
set_option linter.all false
set_option maxRecDepth 100000
set_option maxHeartbeats 4000000
namespace WH
/-! ### halls -/
structure Hall where
  w : Nat
  rooms : List (List Nat)
  lights : List Nat
deriving DecidableEq
def Hall.n (h : Hall) : Nat := h.rooms.length
def Hall.go (h : Hall) (r c : Nat) : Nat := (h.rooms.getD r []).getD c 0
def Hall.lit (h : Hall) (r : Nat) : Nat := h.lights.getD r 0
def Hall.run (h : Hall) (r : Nat) : List Nat → Nat
  | [] => r
  | c :: t => h.run (h.go r c) t
structure Hall.Ok (h : Hall) : Prop where
  w1 : 1 ≤ h.w
  w3 : h.w ≤ 3
  n1 : 1 ≤ h.n
  n600 : h.n ≤ 600
  row : ∀ r ∈ h.rooms, r.length = h.w
  goal : ∀ r ∈ h.rooms, ∀ g ∈ r, g < h.n
  len : h.lights.length = h.n
  lit01 : ∀ l ∈ h.lights, l ≤ 1
theorem getD_mem {α : Type} {l : List α} {i : Nat} {d : α} (h : i < l.length) : l.getD i d ∈ l := by
  rw [List.getD, List.getElem?_eq_getElem h]; exact List.getElem_mem h
theorem getD_get {α : Type} {l : List α} {i : Nat} {d : α} (h : i < l.length) : l[i]? = some (l.getD i d) := by
  rw [List.getD, List.getElem?_eq_getElem h]; rfl
section
variable {h : Hall}
theorem Hall.Ok.room (o : h.Ok) {r : Nat} (hr : r < h.n) : (h.rooms.getD r []).length = h.w := o.row _ (getD_mem hr)
theorem Hall.Ok.go_lt (o : h.Ok) {r c : Nat} (hr : r < h.n) (hc : c < h.w) : h.go r c < h.n := by
  have := o.room hr
  exact o.goal _ (getD_mem hr) _ (getD_mem (by omega))
theorem Hall.Ok.lit_le (o : h.Ok) {r : Nat} (hr : r < h.n) : h.lit r ≤ 1 := o.lit01 _ (getD_mem (by rw [o.len]; exact hr))
theorem Hall.Ok.run_lt (o : h.Ok) : ∀ {t : List Nat} {r : Nat}, r < h.n → (∀ c ∈ t, c < h.w) → h.run r t < h.n
  | [], r, hr, _ => hr
  | c :: t, r, hr, ht => o.run_lt (t := t) (o.go_lt hr (ht c (by simp))) fun d hd => ht d (by simp [hd])
theorem Hall.run_app (h : Hall) : ∀ (t u : List Nat) (r : Nat), h.run r (t ++ u) = h.run (h.run r t) u
  | [], u, r => rfl
  | c :: t, u, r => by simp [Hall.run, Hall.run_app h t u]
end
/-- some tune tells two rooms apart -/
def Dist (h : Hall) (a b : Nat) : Prop := ∃ t : List Nat, (∀ c ∈ t, c < h.w) ∧ h.lit (h.run a t) ≠ h.lit (h.run b t)
theorem dist_lit {h : Hall} {a b : Nat} (e : h.lit a ≠ h.lit b) : Dist h a b := ⟨[], by simp, e⟩
theorem dist_go {h : Hall} {a b c : Nat} (hc : c < h.w) (d : Dist h (h.go a c) (h.go b c)) : Dist h a b := by
  obtain ⟨t, ht, e⟩ := d
  exact ⟨c :: t, by simpa using ⟨hc, ht⟩, e⟩
theorem dist_iff {h : Hall} {a b : Nat} : Dist h a b ↔ h.lit a ≠ h.lit b ∨ ∃ c, c < h.w ∧ Dist h (h.go a c) (h.go b c) := by
  constructor
  · rintro ⟨t, ht, e⟩
    cases t with
    | nil => exact .inl e
    | cons c t => exact .inr ⟨c, ht c (by simp), t, fun d hd => ht d (by simp [hd]), e⟩
  · rintro (e | ⟨c, hc, d⟩)
    · exact dist_lit e
    · exact dist_go hc d
theorem dist_irrefl {h : Hall} {a : Nat} : ¬ Dist h a a := by rintro ⟨t, _, e⟩; exact e rfl
theorem dist_symm {h : Hall} {a b : Nat} (d : Dist h a b) : Dist h b a := by
  obtain ⟨t, ht, e⟩ := d; exact ⟨t, ht, fun q => e q.symm⟩
theorem ndist_trans {h : Hall} {a b c : Nat} (x : ¬ Dist h a b) (y : ¬ Dist h b c) : ¬ Dist h a c := by
  rintro ⟨t, ht, e⟩
  by_cases q : h.lit (h.run a t) = h.lit (h.run b t)
  · exact y ⟨t, ht, fun z => e (q.trans z)⟩
  · exact x ⟨t, ht, q⟩
/-- an equivalence that keeps lights and steps does not part what no tune parts -/
theorem ndist_of {h : Hall} (R : Nat → Nat → Prop) (hl : ∀ a b, R a b → h.lit a = h.lit b) (hg : ∀ a b c, R a b → c < h.w → R (h.go a c) (h.go b c)) {a b : Nat} (r : R a b) : ¬ Dist h a b := by
  rintro ⟨t, ht, e⟩
  induction t generalizing a b with
  | nil => exact e (hl a b r)
  | cons c t ih => exact ih (hg a b c r (ht c (by simp))) (fun d hd => ht d (by simp [hd])) e

/-! ### the table of pairs that are told apart -/
abbrev Tab := List (List Bool)
def tab (T : Tab) (a b : Nat) : Bool := (T.getD a []).getD b false
def setT (T : Tab) (a b : Nat) : Tab := T.set a ((T.getD a []).set b true)
def Sq (n : Nat) (T : Tab) : Prop := T.length = n ∧ ∀ r ∈ T, r.length = n
def cntF (T : Tab) : Nat := (T.map (fun r => r.count false)).sum
theorem Sq.row {n : Nat} {T : Tab} (s : Sq n T) {a : Nat} (ha : a < n) : (T.getD a []).length = n := s.2 _ (getD_mem (by rw [s.1]; exact ha))
theorem Sq.set {n : Nat} {T : Tab} (s : Sq n T) {a b : Nat} (ha : a < n) : Sq n (setT T a b) := by
  refine ⟨by simp [setT, s.1], fun r hr => ?_⟩
  rcases List.mem_or_eq_of_mem_set hr with q | q
  · exact s.2 r q
  · subst q; rw [List.length_set]; exact s.row ha
theorem tab_set {n : Nat} {T : Tab} (s : Sq n T) {a b x y : Nat} (ha : a < n) (hb : b < n) : tab (setT T a b) x y = if x = a ∧ y = b then true else tab T x y := by
  have hl := s.row ha
  unfold tab setT
  by_cases hx : x = a
  · subst hx
    have e1 : (T.set x ((T.getD x []).set b true)).getD x [] = (T.getD x []).set b true := by
      rw [List.getD, List.getElem?_set_self (by rw [s.1]; exact ha)]; rfl
    rw [e1]
    by_cases hy : y = b
    · subst hy
      rw [if_pos ⟨rfl, rfl⟩, List.getD, List.getElem?_set_self (by rw [hl]; exact hb)]; rfl
    · rw [if_neg (fun q => hy q.2), List.getD, List.getElem?_set_ne (Ne.symm hy)]; rfl
  · rw [if_neg (fun q => hx q.1)]
    have e1 : (T.set a ((T.getD a []).set b true)).getD x [] = T.getD x [] := by
      rw [List.getD, List.getElem?_set_ne (Ne.symm hx)]; rfl
    rw [e1]
theorem count_set_lt : ∀ (r : List Bool) (b : Nat), r[b]? = some false → (r.set b true).count false < r.count false
  | [], b, h => by simp at h
  | x :: r, 0, h => by
    simp at h; subst h
    simp
  | x :: r, b + 1, h => by
    have := count_set_lt r b (by simpa using h)
    simp only [List.set_cons_succ, List.count_cons]
    omega
theorem sum_set_lt : ∀ (l : List Nat) (a v v' : Nat), l[a]? = some v → v' < v → (l.set a v').sum < l.sum
  | [], a, v, v', h, _ => by simp at h
  | x :: l, 0, v, v', h, k => by simp at h; subst h; simp; omega
  | x :: l, a + 1, v, v', h, k => by
    have := sum_set_lt l a v v' (by simpa using h) k
    simp; omega
theorem cntF_set {n : Nat} {T : Tab} (s : Sq n T) {a b : Nat} (ha : a < n) (hb : b < n) (f : tab T a b = false) : cntF (setT T a b) < cntF T := by
  have hl := s.row ha
  have e : (T.getD a [])[b]? = some false := by
    have := getD_get (l := T.getD a []) (d := false) (i := b) (by omega)
    rw [this]; exact congrArg some f
  have k := count_set_lt _ _ e
  unfold cntF setT
  rw [List.map_set]
  refine sum_set_lt _ a _ _ ?_ k
  rw [List.getElem?_map, getD_get (l := T) (d := []) (i := a) (by rw [s.1]; exact ha)]; rfl
structure TabInv (h : Hall) (T : Tab) : Prop where
  sq : Sq h.n T
  lit : ∀ a b, a < h.n → b < h.n → h.lit a ≠ h.lit b → tab T a b = true
  dist : ∀ a b, a < h.n → b < h.n → tab T a b = true → Dist h a b
def litTab (h : Hall) : Tab := (List.range h.n).map fun a => (List.range h.n).map fun b => !decide (h.lit a = h.lit b)
theorem getD_map_range {α : Type} (f : Nat → α) {n i : Nat} {d : α} (hi : i < n) : ((List.range n).map f).getD i d = f i := by
  rw [List.getD, List.getElem?_map, List.getElem?_range hi]; rfl
theorem tab_litTab {h : Hall} {a b : Nat} (ha : a < h.n) (hb : b < h.n) : tab (litTab h) a b = !decide (h.lit a = h.lit b) := by
  unfold tab litTab
  rw [getD_map_range _ ha, getD_map_range _ hb]
theorem TabInv.start (h : Hall) : TabInv h (litTab h) := by
  refine ⟨⟨by simp [litTab], fun r hr => ?_⟩, fun a b ha hb e => ?_, fun a b ha hb e => ?_⟩
  · obtain ⟨a, _, rfl⟩ := List.mem_map.mp hr; simp
  · rw [tab_litTab ha hb]; simp [e]
  · rw [tab_litTab ha hb] at e
    exact dist_lit (by simpa using e)
/-- some whistle leads to a pair that is told apart -/
def leads (h : Hall) (T : Tab) (a b : Nat) : Bool := (List.range h.w).any fun c => tab T (h.go a c) (h.go b c)
theorem TabInv.set {h : Hall} {T : Tab} (o : h.Ok) (i : TabInv h T) {a b : Nat} (ha : a < h.n) (hb : b < h.n) (l : leads h T a b = true) : TabInv h (setT T a b) := by
  refine ⟨i.sq.set ha, fun x y hx hy e => ?_, fun x y hx hy e => ?_⟩
  · rw [tab_set i.sq ha hb]; split; rfl; exact i.lit x y hx hy e
  · rw [tab_set i.sq ha hb] at e
    split at e
    · rename_i q; obtain ⟨rfl, rfl⟩ := q
      obtain ⟨c, hc, t⟩ := List.any_eq_true.mp l
      have hc : c < h.w := by simpa using hc
      exact dist_go hc (i.dist _ _ (o.go_lt ha hc) (o.go_lt hb hc) t)
    · exact i.dist x y hx hy e
/-- no turn is left -/
def Still (h : Hall) (T : Tab) (a b : Nat) : Prop := tab T a b = true ∨ leads h T a b = false
theorem TabInv.done {h : Hall} {T : Tab} (o : h.Ok) (i : TabInv h T) (s : ∀ a b, a < h.n → b < h.n → Still h T a b) {a b : Nat} (ha : a < h.n) (hb : b < h.n) : tab T a b = true ↔ Dist h a b := by
  refine ⟨i.dist a b ha hb, fun d => ?_⟩
  cases q : tab T a b with
  | true => rfl
  | false =>
    refine absurd d (ndist_of (fun x y => x < h.n ∧ y < h.n ∧ tab T x y = false) (fun x y ⟨hx, hy, e⟩ => ?_) (fun x y c ⟨hx, hy, e⟩ hc => ?_) ⟨ha, hb, q⟩)
    · by_cases z : h.lit x = h.lit y
      · exact z
      · rw [i.lit x y hx hy z] at e; cases e
    · refine ⟨o.go_lt hx hc, o.go_lt hy hc, ?_⟩
      rcases s x y hx hy with z | z
      · rw [z] at e; cases e
      · have := List.any_eq_false.mp z c (by simpa using hc)
        simpa using this

theorem findIdx_range {p : Nat → Bool} : ∀ (l : List Nat), l.findIdx? p = ((List.range l.length).filter fun k => p (l.getD k 0)).head?
  | [] => rfl
  | a :: l => by
    rw [List.findIdx?_cons, List.length_cons, List.range_succ_eq_map, List.filter_cons]
    have e0 : (a :: l).getD 0 0 = a := rfl
    rw [e0]
    by_cases h : p a = true
    · rw [if_pos h, if_pos h]; rfl
    · rw [if_neg h, if_neg h, findIdx_range l, List.filter_map, List.head?_map]
      rfl
/-! ### rooms by classes, numbered as they are met -/
/-- the place of a room's class among those met, and those met -/
def meet (E : Nat → Nat → Bool) (order : List Nat) (g : Nat) : List Nat × Nat :=
  match order.findIdx? (fun r => E r g) with
  | some k => (order, k)
  | none => (order ++ [g], order.length)
def meetRow (E : Nat → Nat → Bool) : List Nat → List Nat → List Nat → List Nat × List Nat
  | order, row, [] => (order, row)
  | order, row, g :: gs => meetRow E (meet E order g).1 (row ++ [(meet E order g).2]) gs
theorem meetRow_snoc (E : Nat → Nat → Bool) : ∀ (gs : List Nat) (order row : List Nat) (g : Nat), meetRow E order row (gs ++ [g]) = ((meet E (meetRow E order row gs).1 g).1, (meetRow E order row gs).2 ++ [(meet E (meetRow E order row gs).1 g).2])
  | [], order, row, g => rfl
  | x :: gs, order, row, g => by
    show meetRow E _ _ (gs ++ [g]) = _
    rw [meetRow_snoc E gs]; rfl
/-- i rows made -/
def meetAll (E : Nat → Nat → Bool) (h : Hall) : Nat → List Nat × List (List Nat)
  | 0 => ([0], [])
  | i + 1 => (((meetRow E (meetAll E h i).1 [] (h.rooms.getD ((meetAll E h i).1.getD i 0) [])).1), (meetAll E h i).2 ++ [(meetRow E (meetAll E h i).1 [] (h.rooms.getD ((meetAll E h i).1.getD i 0) [])).2])

theorem nodup_le : ∀ (n : Nat) (l : List Nat), l.Nodup → (∀ a ∈ l, a < n) → l.length ≤ n := by
  intro n
  induction n with
  | zero =>
    intro l _ h
    cases l with
    | nil => simp
    | cons a l => exact absurd (h a (by simp)) (by omega)
  | succ n ih =>
    intro l nd h
    have e : (l.erase n).length ≤ n := by
      refine ih _ (nd.erase n) fun a ha => ?_
      have h1 := h a (List.mem_of_mem_erase ha)
      have h2 : a ≠ n := fun q => by subst q; exact absurd ha (List.Nodup.not_mem_erase nd)
      omega
    have := List.length_erase_le (a := n) (l := l)
    by_cases q : n ∈ l
    · rw [List.length_erase_of_mem q] at e; omega
    · rw [List.erase_of_not_mem q] at e; omega
section
variable {E E' : Nat → Nat → Bool} {h : Hall}
theorem findIdx?_congr {α : Type} {p q : α → Bool} : ∀ {l : List α}, (∀ a ∈ l, p a = q a) → l.findIdx? p = l.findIdx? q
  | [], _ => rfl
  | a :: l, hh => by
    rw [List.findIdx?_cons, List.findIdx?_cons, hh a (by simp), findIdx?_congr (l := l) fun b hb => hh b (by simp [hb])]
/-- what holds of those met: rooms, no class twice -/
structure Met (E : Nat → Nat → Bool) (n : Nat) (order : List Nat) : Prop where
  lt : ∀ a ∈ order, a < n
  apart : order.Pairwise (fun a b => E a b = false)
  ne : order ≠ []
theorem Met.nodup {n : Nat} {order : List Nat} (m : Met E n order) (hE : ∀ a, a < n → E a a = true) : order.Nodup := by
  rw [List.nodup_iff_pairwise_ne]
  refine m.apart.imp_of_mem fun {a b} ha hb e q => ?_
  subst q
  rw [hE a (m.lt a ha)] at e; cases e
theorem Met.len {n : Nat} {order : List Nat} (m : Met E n order) (hE : ∀ a, a < n → E a a = true) : order.length ≤ n := nodup_le n order (m.nodup hE) m.lt
theorem Met.meet {n : Nat} {order : List Nat} (m : Met E n order) {g : Nat} (hg : g < n) : Met E n (meet E order g).1 ∧ ∃ more, (WH.meet E order g).1 = order ++ more := by
  unfold WH.meet
  cases q : order.findIdx? (fun r => E r g) with
  | some k => exact ⟨m, [], by simp⟩
  | none =>
    refine ⟨⟨fun a ha => ?_, ?_, by simp⟩, [g], rfl⟩
    · rcases List.mem_append.mp ha with z | z
      · exact m.lt a z
      · have : a = g := by simpa using z
        omega
    · refine List.pairwise_append.mpr ⟨m.apart, by simp, fun a ha b hb => ?_⟩
      have e : b = g := by simpa using hb
      subst e
      have := List.findIdx?_eq_none_iff.mp q a ha
      simpa using this
theorem Met.row {n : Nat} : ∀ (gs : List Nat) {order row : List Nat}, Met E n order → (∀ g ∈ gs, g < n) → Met E n (meetRow E order row gs).1 ∧ ∃ more, (meetRow E order row gs).1 = order ++ more
  | [], order, row, m, _ => ⟨m, [], by simp [meetRow]⟩
  | g :: gs, order, row, m, hg => by
    obtain ⟨m1, more1, e1⟩ := m.meet (hg g (by simp))
    obtain ⟨m2, more2, e2⟩ := Met.row gs (row := row ++ [(WH.meet E order g).2]) m1 fun x hx => hg x (by simp [hx])
    exact ⟨m2, more1 ++ more2, by rw [meetRow, e2, e1, List.append_assoc]⟩
theorem meetRow_len : ∀ (gs order row : List Nat), (meetRow E order row gs).2.length = row.length + gs.length
  | [], order, row => by simp [meetRow]
  | g :: gs, order, row => by rw [meetRow, meetRow_len gs]; simp; omega
theorem room_lt (o : h.Ok) (r : Nat) : ∀ g ∈ h.rooms.getD r [], g < h.n := fun g hg => by
  by_cases hr : r < h.n
  · exact o.goal _ (getD_mem hr) g hg
  · rw [List.getD, List.getElem?_eq_none (Nat.le_of_not_lt hr)] at hg; simp at hg
theorem meetAll_met (o : h.Ok) : ∀ i, Met E h.n (meetAll E h i).1
  | 0 => ⟨fun a ha => by have : a = 0 := by simpa [meetAll] using ha
                         have := o.n1; omega, by simp [meetAll], by simp [meetAll]⟩
  | i + 1 => (Met.row (h.rooms.getD ((meetAll E h i).1.getD i 0) []) (row := []) (meetAll_met o i) (room_lt o _)).1
theorem meetAll_more (o : h.Ok) (i : Nat) : ∃ more, (meetAll E h (i + 1)).1 = (meetAll E h i).1 ++ more :=
  (Met.row (h.rooms.getD ((meetAll E h i).1.getD i 0) []) (row := []) (meetAll_met o i) (room_lt o _)).2
theorem meetAll_rows (i : Nat) : (meetAll E h i).2.length = i := by
  induction i with
  | zero => rfl
  | succ i ih => simp [meetAll, ih]
theorem meet_congr {n : Nat} (c : ∀ a b, a < n → b < n → E a b = E' a b) {order : List Nat} (ho : ∀ a ∈ order, a < n) {g : Nat} (hg : g < n) : meet E order g = meet E' order g := by
  unfold meet
  rw [findIdx?_congr fun a ha => c a g (ho a ha) hg]
theorem meetRow_congr {n : Nat} (c : ∀ a b, a < n → b < n → E a b = E' a b) : ∀ (gs : List Nat) {order row : List Nat}, Met E n order → (∀ g ∈ gs, g < n) → meetRow E order row gs = meetRow E' order row gs
  | [], order, row, m, _ => rfl
  | g :: gs, order, row, m, hg => by
    have hg0 := hg g (by simp)
    rw [meetRow, meetRow, meetRow_congr c gs (m.meet hg0).1 fun x hx => hg x (by simp [hx]), meet_congr c m.lt hg0]
theorem meetAll_congr (o : h.Ok) (c : ∀ a b, a < h.n → b < h.n → E a b = E' a b) : ∀ i, meetAll E h i = meetAll E' h i
  | 0 => rfl
  | i + 1 => by
    have ih := meetAll_congr o c i
    rw [meetAll, meetAll, ← ih, meetRow_congr c _ (meetAll_met o i) (room_lt o _)]
/-- the first number from i on, within f more, for which p holds -/
def firstStop (p : Nat → Bool) : Nat → Nat → Nat
  | 0, i => i
  | f + 1, i => if p i = true then i else firstStop p f (i + 1)
theorem firstStop_eq {p : Nat → Bool} : ∀ {f i k : Nat}, i ≤ k → k ≤ i + f → (∀ j, i ≤ j → j < k → p j = false) → p k = true → firstStop p f i = k
  | 0, i, k, h1, h2, _, _ => by simp [firstStop]; omega
  | f + 1, i, k, h1, h2, h3, h4 => by
    unfold firstStop
    by_cases q : i = k
    · subst q; rw [if_pos h4]
    · rw [if_neg (by rw [h3 i (Nat.le_refl _) (by omega)]; simp)]
      exact firstStop_eq (by omega) (by omega) (fun j hj hk => h3 j (by omega) hk) h4
theorem firstStop_spec {p : Nat → Bool} : ∀ {f i : Nat}, (∃ k, i ≤ k ∧ k ≤ i + f ∧ p k = true) → p (firstStop p f i) = true ∧ (∀ j, i ≤ j → j < firstStop p f i → p j = false) ∧ i ≤ firstStop p f i ∧ firstStop p f i ≤ i + f
  | 0, i, ⟨k, h1, h2, h3⟩ => by
    have : k = i := by omega
    subst this
    exact ⟨h3, fun j hj hk => by simp [firstStop] at hk; omega, by simp [firstStop], by simp [firstStop]⟩
  | f + 1, i, ⟨k, h1, h2, h3⟩ => by
    unfold firstStop
    by_cases q : p i = true
    · rw [if_pos q]; exact ⟨q, fun j hj hk => by omega, Nat.le_refl _, by omega⟩
    · rw [if_neg q]
      have hne : k ≠ i := fun e => by subst e; exact q h3
      obtain ⟨a, b, c, d⟩ := firstStop_spec (p := p) (f := f) (i := i + 1) ⟨k, by omega, by omega, h3⟩
      refine ⟨a, fun j hj hk => ?_, by omega, by omega⟩
      by_cases e : j = i
      · subst e; simpa using q
      · exact b j (by omega) hk
/-- the number of classes that are met -/
def tightN (E : Nat → Nat → Bool) (h : Hall) : Nat := firstStop (fun i => decide ((meetAll E h i).1.length ≤ i)) h.n 0
def tightOf (E : Nat → Nat → Bool) (h : Hall) : Hall := ⟨h.w, (meetAll E h (tightN E h)).2, (meetAll E h (tightN E h)).1.map h.lit⟩
theorem tightN_spec (o : h.Ok) (hE : ∀ a, a < h.n → E a a = true) : (meetAll E h (tightN E h)).1.length = tightN E h ∧ (∀ j, j < tightN E h → j < (meetAll E h j).1.length) ∧ tightN E h ≤ h.n ∧ 1 ≤ tightN E h := by
  obtain ⟨a, b, c, d⟩ := firstStop_spec (p := fun i => decide ((meetAll E h i).1.length ≤ i)) (f := h.n) (i := 0) ⟨h.n, by omega, by omega, by simpa using (meetAll_met (E := E) o h.n).len hE⟩
  have a : (meetAll E h (tightN E h)).1.length ≤ tightN E h := of_decide_eq_true a
  have b : ∀ j, j < tightN E h → j < (meetAll E h j).1.length := fun j hj => Nat.lt_of_not_le (of_decide_eq_false (b j (Nat.zero_le _) hj))
  have pos : 1 ≤ tightN E h := by
    cases q : tightN E h with
    | zero => rw [q] at a; simp [meetAll] at a
    | succ k => omega
  refine ⟨?_, b, by unfold tightN; omega, pos⟩
  cases q : tightN E h with
  | zero => omega
  | succ k =>
    obtain ⟨more, e⟩ := meetAll_more (E := E) o k
    have := b k (by omega)
    rw [q] at a
    have e2 := congrArg List.length e
    rw [List.length_append] at e2
    omega
/-- what a walk that stops at the first such turn has made -/
theorem tightN_eq (o : h.Ok) (hE : ∀ a, a < h.n → E a a = true) {k : Nat} (h1 : ∀ j, j < k → j < (meetAll E h j).1.length) (h2 : (meetAll E h k).1.length ≤ k) : tightN E h = k := by
  obtain ⟨a, b, c, d⟩ := tightN_spec (E := E) o hE
  by_cases q : tightN E h < k
  · have := h1 _ q; omega
  · by_cases z : k < tightN E h
    · have := b k z; omega
    · omega
theorem tightOf_congr (o : h.Ok) (hE : ∀ a, a < h.n → E a a = true) (c : ∀ a b, a < h.n → b < h.n → E a b = E' a b) : tightOf E h = tightOf E' h := by
  have e : tightN E h = tightN E' h := by
    obtain ⟨a, b, _, _⟩ := tightN_spec (E := E) o hE
    refine (tightN_eq o (fun x hx => by rw [← c x x hx hx]; exact hE x hx) (fun j hj => ?_) ?_).symm
    · rw [← meetAll_congr o c]; exact b j hj
    · rw [← meetAll_congr o c]; exact Nat.le_of_eq a
  unfold tightOf
  rw [e, meetAll_congr o c]
end
section
variable {E : Nat → Nat → Bool} {h : Hall}
theorem meet_lt (order : List Nat) (g : Nat) : (meet E order g).2 < (meet E order g).1.length := by
  unfold meet
  cases q : order.findIdx? (fun r => E r g) with
  | some k => exact (List.findIdx?_eq_some_iff_getElem.mp q).1
  | none => simp
theorem meetRow_lt {n : Nat} : ∀ (gs : List Nat) {order row : List Nat}, Met E n order → (∀ g ∈ gs, g < n) → (∀ x ∈ row, x < order.length) → ∀ x ∈ (meetRow E order row gs).2, x < (meetRow E order row gs).1.length
  | [], order, row, m, _, hr => hr
  | g :: gs, order, row, m, hg, hr => by
    obtain ⟨m1, more1, e1⟩ := m.meet (hg g (by simp))
    refine meetRow_lt gs m1 (fun x hx => hg x (by simp [hx])) fun x hx => ?_
    rcases List.mem_append.mp hx with z | z
    · have := hr x z; rw [e1, List.length_append]; omega
    · have : x = (WH.meet E order g).2 := by simpa using z
      rw [this]; exact meet_lt order g
theorem meetAll_mono (o : h.Ok) {i j : Nat} (hij : i ≤ j) : ∃ more, (meetAll E h j).1 = (meetAll E h i).1 ++ more := by
  induction j with
  | zero => have : i = 0 := by omega
            subst this; exact ⟨[], by simp⟩
  | succ j ih =>
    by_cases q : i = j + 1
    · subst q; exact ⟨[], by simp⟩
    · obtain ⟨m1, e1⟩ := ih (by omega)
      obtain ⟨m2, e2⟩ := meetAll_more (E := E) o j
      exact ⟨m1 ++ m2, by rw [e2, e1, List.append_assoc]⟩
theorem meetAll_row_lt (o : h.Ok) : ∀ i, ∀ r ∈ (meetAll E h i).2, ∀ x ∈ r, x < (meetAll E h i).1.length
  | 0, r, hr => by simp [meetAll] at hr
  | i + 1, r, hr => fun x hx => by
    obtain ⟨more, e⟩ := meetAll_more (E := E) o i
    rcases List.mem_append.mp (show r ∈ (meetAll E h i).2 ++ [_] from hr) with z | z
    · have := meetAll_row_lt o i r z x hx
      rw [e, List.length_append]; omega
    · have z := List.mem_singleton.mp z
      subst z
      exact meetRow_lt (E := E) _ (meetAll_met o i) (room_lt o _) (by simp) x hx
theorem meetAll_row_len (o : h.Ok) : ∀ i, i ≤ tightN E h → (∀ a, a < h.n → E a a = true) → ∀ r ∈ (meetAll E h i).2, r.length = h.w
  | 0, _, _, r, hr => by simp [meetAll] at hr
  | i + 1, hi, hE, r, hr => by
    rcases List.mem_append.mp (show r ∈ (meetAll E h i).2 ++ [_] from hr) with z | z
    · exact meetAll_row_len o i (by omega) hE r z
    · have z := List.mem_singleton.mp z
      subst z
      rw [meetRow_len]
      have hlt := (tightN_spec (E := E) o hE).2.1 i (by omega)
      have := (meetAll_met (E := E) o i).lt _ (getD_mem (d := 0) hlt)
      rw [List.length_nil, Nat.zero_add]; exact o.room this
theorem tightOf_ok (o : h.Ok) (hE : ∀ a, a < h.n → E a a = true) : (tightOf E h).Ok := by
  obtain ⟨a, b, c, d⟩ := tightN_spec (E := E) o hE
  have hn : (tightOf E h).n = tightN E h := meetAll_rows _
  refine ⟨o.w1, o.w3, by rw [hn]; exact d, by rw [hn]; exact Nat.le_trans c o.n600, fun r hr => meetAll_row_len o _ (Nat.le_refl _) hE r hr, fun r hr g hg => ?_, ?_, fun l hl => ?_⟩
  · rw [hn, ← a]; exact meetAll_row_lt o _ r hr g hg
  · rw [hn]; show ((meetAll E h (tightN E h)).1.map h.lit).length = _; rw [List.length_map, a]
  · obtain ⟨r, hr, rfl⟩ := List.mem_map.mp hl
    exact o.lit_le ((meetAll_met o _).lt r hr)
theorem tightOf_n (o : h.Ok) (hE : ∀ a, a < h.n → E a a = true) : (tightOf E h).n ≤ h.n := by
  have hn : (tightOf E h).n = tightN E h := meetAll_rows _
  rw [hn]; exact (tightN_spec (E := E) o hE).2.2.1
end
open Classical in
/-- no tune tells them apart -/
noncomputable def same (h : Hall) (a b : Nat) : Bool := decide (¬ Dist h a b)
theorem same_iff {h : Hall} {a b : Nat} : same h a b = true ↔ ¬ Dist h a b := by unfold same; simp
theorem same_refl {h : Hall} (a : Nat) : same h a a = true := same_iff.mpr dist_irrefl
/-- THE TIGHT HALL -/
noncomputable def tightH (h : Hall) : Hall := tightOf (same h) h
/-! ### rooms sorted by what they tell -/
abbrev Mark := Nat × List Nat
def markOf (h : Hall) (f : List Nat) (a : Nat) : Mark := (f.getD a 0, (h.rooms.getD a []).map fun g => f.getD g 0)
/-- marks met, and the numbers given, ahead of room i -/
structure Pass (h : Hall) (f : List Nat) (i : Nat) (ms : List Mark) (more : List Nat) : Prop where
  len : more.length = i
  nd : ms.Nodup
  num : ∀ a, a < i → ms[more.getD a 0]? = some (markOf h f a)
  hit : ∀ j, j < ms.length → ∃ a, a < i ∧ more.getD a 0 = j
section
variable {h : Hall} {f : List Nat}
theorem Pass.start : Pass h f 0 [] [] := ⟨rfl, by simp, fun a ha => by omega, fun j hj => by simp at hj⟩
theorem getD_snoc {l : List Nat} {x a : Nat} (ha : a < l.length) : (l ++ [x]).getD a 0 = l.getD a 0 := by
  rw [List.getD, List.getD, List.getElem?_append_left ha]
theorem getD_last {l : List Nat} {x : Nat} : (l ++ [x]).getD l.length 0 = x := by
  rw [List.getD, List.getElem?_append_right (Nat.le_refl _)]; simp
theorem Pass.new {i : Nat} {ms : List Mark} {more : List Nat} (p : Pass h f i ms more) (n : markOf h f i ∉ ms) : Pass h f (i + 1) (ms ++ [markOf h f i]) (more ++ [ms.length]) := by
  refine ⟨by simp [p.len], ?_, fun a ha => ?_, fun j hj => ?_⟩
  · rw [List.nodup_append]
    refine ⟨p.nd, by simp, fun x hx y hy e => ?_⟩
    have : y = markOf h f i := by simpa using hy
    subst this; subst e; exact n hx
  · by_cases q : a < i
    · rw [getD_snoc (by rw [p.len]; exact q)]
      have := p.num a q
      rw [List.getElem?_append_left (List.getElem?_eq_some_iff.mp this).1]; exact this
    · have : a = i := by omega
      subst this
      have e : (more ++ [ms.length]).getD a 0 = ms.length := by rw [← p.len]; exact getD_last
      rw [e, List.getElem?_append_right (Nat.le_refl _)]; simp
  · rw [List.length_append] at hj
    by_cases q : j < ms.length
    · obtain ⟨a, ha, e⟩ := p.hit j q
      exact ⟨a, by omega, by rw [getD_snoc (by rw [p.len]; exact ha)]; exact e⟩
    · refine ⟨i, by omega, ?_⟩
      have e : (more ++ [ms.length]).getD i 0 = ms.length := by rw [← p.len]; exact getD_last
      rw [e]; simp at hj; omega
theorem Pass.old {i k : Nat} {ms : List Mark} {more : List Nat} (p : Pass h f i ms more) (e : ms[k]? = some (markOf h f i)) : Pass h f (i + 1) ms (more ++ [k]) := by
  refine ⟨by simp [p.len], p.nd, fun a ha => ?_, fun j hj => ?_⟩
  · by_cases q : a < i
    · rw [getD_snoc (by rw [p.len]; exact q)]; exact p.num a q
    · have : a = i := by omega
      subst this
      have e2 : (more ++ [k]).getD a 0 = k := by rw [← p.len]; exact getD_last
      rw [e2]; exact e
  · obtain ⟨a, ha, e⟩ := p.hit j hj
    exact ⟨a, by omega, by rw [getD_snoc (by rw [p.len]; exact ha)]; exact e⟩
theorem Pass.iff {i : Nat} {ms : List Mark} {more : List Nat} (p : Pass h f i ms more) {a b : Nat} (ha : a < i) (hb : b < i) : more.getD a 0 = more.getD b 0 ↔ markOf h f a = markOf h f b := by
  have ea := p.num a ha
  have eb := p.num b hb
  constructor
  · intro e; rw [e, eb] at ea; exact (Option.some.inj ea).symm
  · intro e
    rw [← e, ← ea] at eb
    exact ((List.getElem?_inj (List.getElem?_eq_some_iff.mp ea).1 p.nd).mp eb.symm)
theorem Pass.few {i : Nat} {ms : List Mark} {more : List Nat} (p : Pass h f i ms more) : ms.length ≤ i := by
  -- each mark has a room
  have key : ∃ g : Nat → Nat, ∀ j, j < ms.length → g j < i ∧ more.getD (g j) 0 = j := ⟨fun j => if hj : j < ms.length then Classical.choose (p.hit j hj) else 0, fun j hj => by
    simp only [hj, dif_pos]; exact Classical.choose_spec (p.hit j hj)⟩
  obtain ⟨g, hg⟩ := key
  have nd : ((List.range ms.length).map g).Nodup := by
    rw [List.nodup_iff_pairwise_ne, List.pairwise_map]
    refine (List.nodup_iff_pairwise_ne.mp List.nodup_range).imp_of_mem fun {x y} hx hy hne e => hne ?_
    rw [← (hg x (by simpa using hx)).2, ← (hg y (by simpa using hy)).2, e]
  have := nodup_le i _ nd fun a ha => by
    obtain ⟨j, hj, rfl⟩ := List.mem_map.mp ha
    exact (hg j (by simpa using hj)).1
  simpa using this
end
theorem picks {c : Nat} {r : Nat → Nat} {c' : Nat} (hit : ∀ j, j < c → ∃ i, i < c' ∧ r i = j) : c ≤ c' ∧ ∀ a b, a < c' → b < c' → a ≠ b → r a = r b → r a < c → c + 1 ≤ c' := by
  obtain ⟨g, hg⟩ : ∃ g : Nat → Nat, ∀ j, j < c → g j < c' ∧ r (g j) = j := ⟨fun j => if hj : j < c then Classical.choose (hit j hj) else 0, fun j hj => by
    simp only [hj, dif_pos]; exact Classical.choose_spec (hit j hj)⟩
  have nd : ∀ g : Nat → Nat, (∀ j, j < c → r (g j) = j) → ((List.range c).map g).Nodup := fun g hg => by
    rw [List.nodup_iff_pairwise_ne, List.pairwise_map]
    refine (List.nodup_iff_pairwise_ne.mp List.nodup_range).imp_of_mem fun {x y} hx hy hne e => hne ?_
    rw [← hg x (by simpa using hx), ← hg y (by simpa using hy), e]
  refine ⟨?_, fun a b ha hb hab e hc => ?_⟩
  · have := nodup_le c' _ (nd g fun j hj => (hg j hj).2) fun a ha => by
      obtain ⟨j, hj, rfl⟩ := List.mem_map.mp ha
      exact (hg j (by simpa using hj)).1
    simpa using this
  · let g' : Nat → Nat := fun j => if g j = b then a else g j
    have h' : ∀ j, j < c → g' j < c' ∧ r (g' j) = j ∧ g' j ≠ b := fun j hj => by
      show (if g j = b then a else g j) < c' ∧ r (if g j = b then a else g j) = j ∧ (if g j = b then a else g j) ≠ b
      by_cases q : g j = b
      · rw [if_pos q]; exact ⟨ha, by rw [e, ← q]; exact (hg j hj).2, hab⟩
      · rw [if_neg q]; exact ⟨(hg j hj).1, (hg j hj).2, q⟩
    have n2 : (b :: (List.range c).map g').Nodup := by
      rw [List.nodup_cons]
      refine ⟨fun z => ?_, nd g' fun j hj => (h' j hj).2.1⟩
      obtain ⟨j, hj, e2⟩ := List.mem_map.mp z
      exact (h' j (by simpa using hj)).2.2 e2
    have := nodup_le c' _ n2 fun x hx => by
      rcases List.mem_cons.mp hx with z | z
      · subst z; exact hb
      · obtain ⟨j, hj, rfl⟩ := List.mem_map.mp z
        exact (h' j (by simpa using hj)).1
    simpa using this
/-- what holds at the head of each turn: many numbers so far, or none yet -/
structure Srt (h : Hall) (f : List Nat) (many : Nat) : Prop where
  len : f.length = h.n
  coarse : ∀ a b, a < h.n → b < h.n → ¬ Dist h a b → f.getD a 0 = f.getD b 0
  lit : ∀ a b, a < h.n → b < h.n → f.getD a 0 = f.getD b 0 → h.lit a = h.lit b
  all : ∀ j, j < many → ∃ a, a < h.n ∧ f.getD a 0 = j
  lt : many ≠ 0 → ∀ a, a < h.n → f.getD a 0 < many
section
variable {h : Hall} {f : List Nat} {many : Nat}
theorem Srt.start (o : h.Ok) : Srt h h.lights 0 := ⟨o.len, fun a b ha hb d => by
    by_cases q : h.lit a = h.lit b
    · exact q
    · exact absurd (dist_lit q) d, fun a b ha hb e => e, fun j hj => by omega, fun q => absurd rfl q⟩
theorem mark_iff (o : h.Ok) {a b : Nat} (ha : a < h.n) (hb : b < h.n) : markOf h f a = markOf h f b ↔ f.getD a 0 = f.getD b 0 ∧ ∀ c, c < h.w → f.getD (h.go a c) 0 = f.getD (h.go b c) 0 := by
  have la := o.room ha
  have lb := o.room hb
  unfold markOf
  constructor
  · intro e
    injection e with e1 e2
    refine ⟨e1, fun c hc => ?_⟩
    have := congrArg (fun l => l[c]?) e2
    simp only [List.getElem?_map, getD_get (l := h.rooms.getD a []) (d := 0) (i := c) (by omega), getD_get (l := h.rooms.getD b []) (d := 0) (i := c) (by omega), Option.map_some] at this
    exact Option.some.inj this
  · rintro ⟨e1, e2⟩
    rw [e1]
    congr 1
    apply List.ext_getElem?
    intro c
    rw [List.getElem?_map, List.getElem?_map]
    by_cases hc : c < h.w
    · rw [getD_get (l := h.rooms.getD a []) (d := 0) (by omega), getD_get (l := h.rooms.getD b []) (d := 0) (by omega)]
      exact congrArg some (e2 c hc)
    · rw [List.getElem?_eq_none (by omega), List.getElem?_eq_none (by omega)]
theorem ndist_go {a b c : Nat} (d : ¬ Dist h a b) (hc : c < h.w) : ¬ Dist h (h.go a c) (h.go b c) := fun q => d (dist_go hc q)
theorem Srt.next (o : h.Ok) (s : Srt h f many) {ms : List Mark} {more : List Nat} (p : Pass h f h.n ms more) : Srt h more ms.length := by
  refine ⟨p.len, fun a b ha hb d => (p.iff ha hb).mpr ((mark_iff o ha hb).mpr ⟨s.coarse a b ha hb d, fun c hc => s.coarse _ _ (o.go_lt ha hc) (o.go_lt hb hc) (ndist_go d hc)⟩), fun a b ha hb e => s.lit a b ha hb ((mark_iff o ha hb).mp ((p.iff ha hb).mp e)).1, fun j hj => ?_, fun _ a ha => (List.getElem?_eq_some_iff.mp (p.num a ha)).1⟩
  obtain ⟨a, ha, e⟩ := p.hit j hj
  exact ⟨a, ha, e⟩
/-- a room of each new number -/
theorem Srt.rep (o : h.Ok) (s : Srt h f many) {ms : List Mark} {more : List Nat} (p : Pass h f h.n ms more) : ∃ rep : Nat → Nat, (∀ i, i < ms.length → rep i < h.n ∧ more.getD (rep i) 0 = i) ∧ (∀ j, j < many → ∃ i, i < ms.length ∧ f.getD (rep i) 0 = j) := by
  refine ⟨fun i => if hi : i < ms.length then Classical.choose (p.hit i hi) else 0, fun i hi => by
    simp only [hi, dif_pos]; exact Classical.choose_spec (p.hit i hi), fun j hj => ?_⟩
  obtain ⟨a, ha, e⟩ := s.all j hj
  have hlt := (List.getElem?_eq_some_iff.mp (p.num a ha)).1
  refine ⟨more.getD a 0, hlt, ?_⟩
  simp only [hlt, dif_pos]
  obtain ⟨h1, h2⟩ := Classical.choose_spec (p.hit _ hlt)
  rw [← e]
  exact ((mark_iff o h1 ha).mp ((p.iff h1 ha).mp h2)).1
theorem Srt.le (o : h.Ok) (s : Srt h f many) {ms : List Mark} {more : List Nat} (p : Pass h f h.n ms more) : many ≤ ms.length := by
  obtain ⟨rep, h1, h2⟩ := s.rep o p
  exact (picks (r := fun i => f.getD (rep i) 0) h2).1
/-- as many numbers as before: nothing is told apart any more -/
theorem Srt.done (o : h.Ok) (s : Srt h f many) {ms : List Mark} {more : List Nat} (p : Pass h f h.n ms more) (e : ms.length = many) {a b : Nat} (ha : a < h.n) (hb : b < h.n) : more.getD a 0 = more.getD b 0 ↔ ¬ Dist h a b := by
  have n1 := o.n1
  have pos : many ≠ 0 := fun q => by
    have := (List.getElem?_eq_some_iff.mp (p.num 0 (by omega))).1
    omega
  obtain ⟨rep, h1, h2⟩ := s.rep o p
  have inj := (picks (r := fun i => f.getD (rep i) 0) h2).2
  have back : ∀ a b, a < h.n → b < h.n → f.getD a 0 = f.getD b 0 → more.getD a 0 = more.getD b 0 := fun a b ha hb e2 => by
    have la := (List.getElem?_eq_some_iff.mp (p.num a ha)).1
    have lb := (List.getElem?_eq_some_iff.mp (p.num b hb)).1
    by_cases q : more.getD a 0 = more.getD b 0
    · exact q
    · exfalso
      have ra := h1 _ la
      have rb := h1 _ lb
      have fa : f.getD (rep (more.getD a 0)) 0 = f.getD a 0 := ((mark_iff o ra.1 ha).mp ((p.iff ra.1 ha).mp ra.2)).1
      have fb : f.getD (rep (more.getD b 0)) 0 = f.getD b 0 := ((mark_iff o rb.1 hb).mp ((p.iff rb.1 hb).mp rb.2)).1
      have := inj _ _ la lb q (by show f.getD (rep _) 0 = f.getD (rep _) 0; rw [fa, fb, e2]) (by show f.getD (rep _) 0 < many; rw [fa]; exact s.lt pos a ha)
      omega
  constructor
  · intro e2
    refine ndist_of (fun x y => x < h.n ∧ y < h.n ∧ more.getD x 0 = more.getD y 0) (fun x y ⟨hx, hy, q⟩ => (s.next o p).lit x y hx hy q) (fun x y c ⟨hx, hy, q⟩ hc => ⟨o.go_lt hx hc, o.go_lt hy hc, ?_⟩) ⟨ha, hb, e2⟩
    exact back _ _ (o.go_lt hx hc) (o.go_lt hy hc) (((mark_iff o hx hy).mp ((p.iff hx hy).mp q)).2 c hc)
  · exact (s.next o p).coarse a b ha hb
end
/-! ### the tight hall has the same good tunes, and is one for all halls of the same good tunes -/
section
variable {E : Nat → Nat → Bool} {h : Hall}
theorem meet_ok {order : List Nat} {g : Nat} (hg : E g g = true) : (∃ more, (meet E order g).1 = order ++ more) ∧ ∃ r, (meet E order g).1[(meet E order g).2]? = some r ∧ E r g = true := by
  unfold meet
  cases q : order.findIdx? (fun r => E r g) with
  | some k =>
    obtain ⟨hk, e, _⟩ := List.findIdx?_eq_some_iff_getElem.mp q
    exact ⟨⟨[], by simp⟩, order[k], List.getElem?_eq_getElem hk, e⟩
  | none => exact ⟨⟨[g], rfl⟩, g, by simp, hg⟩
theorem meetRow_ok : ∀ (gs order row : List Nat), (∀ g ∈ gs, E g g = true) → (∃ more, (meetRow E order row gs).1 = order ++ more) ∧
    ∃ ks, (meetRow E order row gs).2 = row ++ ks ∧ ks.length = gs.length ∧ ∀ j k g : Nat, ks[j]? = some k → gs[j]? = some g → ∃ r, (meetRow E order row gs).1[k]? = some r ∧ E r g = true
  | [], order, row, _ => ⟨⟨[], by simp [meetRow]⟩, [], by simp [meetRow], rfl, fun j k g e => by simp at e⟩
  | g :: gs, order, row, hg => by
    obtain ⟨⟨m1, e1⟩, r, er, hr⟩ := meet_ok (E := E) (order := order) (hg g (by simp))
    obtain ⟨⟨m2, e2⟩, ks, e3, hl, hk⟩ := meetRow_ok gs (meet E order g).1 (row ++ [(meet E order g).2]) fun x hx => hg x (by simp [hx])
    refine ⟨⟨m1 ++ m2, by rw [meetRow, e2, e1, List.append_assoc]⟩, (meet E order g).2 :: ks, by rw [meetRow, e3, List.append_assoc]; rfl, by simp [hl], fun j k g' ej eg => ?_⟩
    rw [meetRow]
    cases j with
    | zero =>
      simp at ej eg
      subst ej eg
      refine ⟨r, ?_, hr⟩
      rw [e2, List.getElem?_append_left (List.getElem?_eq_some_iff.mp er).1]; exact er
    | succ j => exact hk j k g' (by simpa using ej) (by simpa using eg)
theorem meetAll_row (o : h.Ok) (hE : ∀ a, a < h.n → E a a = true) : ∀ (i j : Nat), j < i → ∃ row, (meetAll E h i).2[j]? = some row ∧ row.length = (h.rooms.getD ((meetAll E h j).1.getD j 0) []).length ∧
    ∀ c k g : Nat, row[c]? = some k → (h.rooms.getD ((meetAll E h j).1.getD j 0) [])[c]? = some g → ∃ r, (meetAll E h i).1[k]? = some r ∧ E r g = true
  | 0, j, hj => by omega
  | i + 1, j, hj => by
    have hl := meetAll_rows (E := E) (h := h) i
    by_cases q : j < i
    · obtain ⟨row, e1, e2, e3⟩ := meetAll_row o hE i j q
      refine ⟨row, ?_, e2, fun c k g ec eg => ?_⟩
      · show ((meetAll E h i).2 ++ [_])[j]? = _
        rw [List.getElem?_append_left (by omega)]; exact e1
      · obtain ⟨r, er, hr⟩ := e3 c k g ec eg
        obtain ⟨more, em⟩ := meetAll_more (E := E) o i
        exact ⟨r, by rw [em, List.getElem?_append_left (List.getElem?_eq_some_iff.mp er).1]; exact er, hr⟩
    · have : j = i := by omega
      subst this
      obtain ⟨_, ks, e3, hl2, hk⟩ := meetRow_ok (E := E) (h.rooms.getD ((meetAll E h j).1.getD j 0) []) (meetAll E h j).1 [] fun g hg => hE g (room_lt o _ g hg)
      refine ⟨ks, ?_, hl2, fun c k g ec eg => hk c k g ec eg⟩
      show ((meetAll E h j).2 ++ [(meetRow E (meetAll E h j).1 [] (h.rooms.getD ((meetAll E h j).1.getD j 0) [])).2])[j]? = _
      rw [e3, List.getElem?_append_right (by omega), hl]; simp
end
section
variable {h : Hall}
/-- the rooms of which the tight hall's are -/
noncomputable def repOf (h : Hall) : List Nat := (meetAll (same h) h (tightN (same h) h)).1
theorem rep_len (o : h.Ok) : (repOf h).length = (tightH h).n := by
  rw [repOf, (tightN_spec o fun a _ => same_refl a).1]
  exact (meetAll_rows _).symm
theorem rep_lt (o : h.Ok) {i : Nat} (hi : i < (tightH h).n) : (repOf h).getD i 0 < h.n := (meetAll_met o _).lt _ (getD_mem (by rw [← rep_len o] at hi; exact hi))
theorem rep_lit (o : h.Ok) {i : Nat} (hi : i < (tightH h).n) : (tightH h).lit i = h.lit ((repOf h).getD i 0) := by
  rw [← rep_len o] at hi
  show ((repOf h).map h.lit).getD i 0 = _
  rw [List.getD, List.getElem?_map, getD_get (l := repOf h) (d := 0) hi]; rfl
theorem rep_zero (o : h.Ok) : (repOf h).getD 0 0 = 0 := by
  obtain ⟨more, e⟩ := meetAll_mono (E := same h) o (i := 0) (j := tightN (same h) h) (Nat.zero_le _)
  rw [repOf, e]; rfl
theorem rep_go (o : h.Ok) {i c : Nat} (hi : i < (tightH h).n) (hc : c < h.w) : (tightH h).go i c < (tightH h).n ∧ ¬ Dist h ((repOf h).getD ((tightH h).go i c) 0) (h.go ((repOf h).getD i 0) c) := by
  have hE : ∀ a, a < h.n → same h a a = true := fun a _ => same_refl a
  have ht := tightOf_ok o hE
  have hN : (tightH h).n = tightN (same h) h := meetAll_rows _
  have hi' : i < tightN (same h) h := by omega
  obtain ⟨row, e1, e2, e3⟩ := meetAll_row (E := same h) o hE (tightN (same h) h) i hi'
  have hpre : (meetAll (same h) h i).1.getD i 0 = (repOf h).getD i 0 := by
    obtain ⟨more, e⟩ := meetAll_mono (E := same h) o (i := i) (j := tightN (same h) h) (by omega)
    have := (tightN_spec (E := same h) o hE).2.1 i hi'
    rw [repOf, e, List.getD, List.getD, List.getElem?_append_left this]
  have hlt : (repOf h).getD i 0 < h.n := rep_lt o hi
  rw [hpre] at e2 e3
  have hrow : (tightH h).rooms.getD i [] = row := by
    show (meetAll (same h) h (tightN (same h) h)).2.getD i [] = row
    rw [List.getD, e1]; rfl
  have hw := o.room hlt
  have hgo : row[c]? = some ((tightH h).go i c) := by
    show row[c]? = some (((tightH h).rooms.getD i []).getD c 0)
    rw [hrow]; exact getD_get (by omega)
  obtain ⟨r, er, hr⟩ := e3 c _ (h.go ((repOf h).getD i 0) c) hgo (getD_get (by omega))
  have er' : (repOf h)[(tightH h).go i c]? = some r := er
  refine ⟨by rw [← rep_len o]; exact (List.getElem?_eq_some_iff.mp er').1, ?_⟩
  rw [List.getD, er']
  exact same_iff.mp hr
theorem rep_run (o : h.Ok) : ∀ (t : List Nat) {i a : Nat}, (∀ c ∈ t, c < h.w) → i < (tightH h).n → ¬ Dist h ((repOf h).getD i 0) a → (tightH h).run i t < (tightH h).n ∧ ¬ Dist h ((repOf h).getD ((tightH h).run i t) 0) (h.run a t)
  | [], i, a, _, hi, d => ⟨hi, d⟩
  | c :: t, i, a, ht, hi, d => by
    have hc := ht c (by simp)
    obtain ⟨h1, h2⟩ := rep_go o hi hc
    exact rep_run o t (fun x hx => ht x (by simp [hx])) h1 (ndist_trans h2 fun q => d (dist_go hc q))
/-- a tune leads to the same light -/
theorem tight_run (o : h.Ok) {t : List Nat} (ht : ∀ c ∈ t, c < h.w) : (tightH h).lit ((tightH h).run 0 t) = h.lit (h.run 0 t) := by
  have n1 := (tightOf_ok o fun a _ => same_refl (h := h) a).n1
  obtain ⟨h1, h2⟩ := rep_run o t (i := 0) (a := 0) ht n1 (by rw [rep_zero o]; exact dist_irrefl)
  rw [rep_lit o h1]
  by_cases q : h.lit ((repOf h).getD ((tightH h).run 0 t) 0) = h.lit (h.run 0 t)
  · exact q
  · exact absurd (dist_lit q) h2
end
/-! two halls of the same good tunes -/
def Alike (h g : Hall) (a b : Nat) : Prop := ∀ t : List Nat, (∀ c ∈ t, c < h.w) → h.lit (h.run a t) = g.lit (g.run b t)
section
variable {h g : Hall}
theorem Alike.go (hw : h.w = g.w) {a b c : Nat} (r : Alike h g a b) (hc : c < h.w) : Alike h g (h.go a c) (g.go b c) := fun t ht => r (c :: t) (by simpa using ⟨hc, ht⟩)
theorem Alike.same (hw : h.w = g.w) {a b a' b' : Nat} (r : Alike h g a b) (r' : Alike h g a' b') : WH.same h a a' = WH.same g b b' := by
  have : Dist h a a' ↔ Dist g b b' := by
    constructor
    · rintro ⟨t, ht, e⟩
      exact ⟨t, fun c hc => by rw [← hw]; exact ht c hc, fun q => e (by rw [r t ht, r' t ht, q])⟩
    · rintro ⟨t, ht, e⟩
      have ht' : ∀ c ∈ t, c < h.w := fun c hc => by rw [hw]; exact ht c hc
      exact ⟨t, ht', fun q => e (by rw [← r t ht', ← r' t ht', q])⟩
  unfold WH.same
  by_cases q : Dist h a a'
  · simp [q, this.mp q]
  · have q2 : ¬ Dist g b b' := fun z => q (this.mpr z)
    simp [q, q2]
def RL (R : Nat → Nat → Prop) (l m : List Nat) : Prop := l.length = m.length ∧ ∀ i, R (l.getD i 0) (m.getD i 0)
theorem RL.snoc {R : Nat → Nat → Prop} {l m : List Nat} {x y : Nat} (r : RL R l m) (e : R x y) (z : R 0 0) : RL R (l ++ [x]) (m ++ [y]) := by
  refine ⟨by simp [r.1], fun i => ?_⟩
  have hl := r.1
  by_cases q : i < l.length
  · have := r.2 i
    rw [List.getD, List.getD] at this ⊢
    rw [List.getElem?_append_left q, List.getElem?_append_left (by omega)]; exact this
  · by_cases q2 : i = l.length
    · subst q2
      rw [List.getD, List.getD, List.getElem?_append_right (Nat.le_refl _), List.getElem?_append_right (by omega)]
      simpa [hl] using e
    · rw [List.getD, List.getD, List.getElem?_eq_none (by simp; omega), List.getElem?_eq_none (by simp; omega)]; exact z
theorem meet_alike (hw : h.w = g.w) (z : Alike h g 0 0) {l m : List Nat} (r : RL (Alike h g) l m) {x y : Nat} (e : Alike h g x y) : RL (Alike h g) (meet (same h) l x).1 (meet (same g) m y).1 ∧ (meet (same h) l x).2 = (meet (same g) m y).2 := by
  have hf : l.findIdx? (fun a => same h a x) = m.findIdx? (fun b => same g b y) := by
    rw [findIdx_range, findIdx_range, r.1]
    congr 1
    refine List.filter_congr fun k _ => ?_
    exact (r.2 k).same hw e
  unfold meet
  rw [hf]
  cases m.findIdx? (fun b => same g b y) with
  | some k => exact ⟨r, rfl⟩
  | none => exact ⟨r.snoc e z, r.1⟩
theorem meetRow_alike (hw : h.w = g.w) (z : Alike h g 0 0) : ∀ (xs ys : List Nat) {l m row : List Nat}, xs.length = ys.length → (∀ i, Alike h g (xs.getD i 0) (ys.getD i 0)) → RL (Alike h g) l m → RL (Alike h g) (meetRow (same h) l row xs).1 (meetRow (same g) m row ys).1 ∧ (meetRow (same h) l row xs).2 = (meetRow (same g) m row ys).2
  | [], [], l, m, row, _, _, r => ⟨r, rfl⟩
  | [], _ :: _, _, _, _, e, _, _ => by simp at e
  | _ :: _, [], _, _, _, e, _, _ => by simp at e
  | x :: xs, y :: ys, l, m, row, hl, hr, r => by
    have hxy : Alike h g x y := hr 0
    obtain ⟨r1, e1⟩ := meet_alike hw z r hxy
    rw [meetRow, meetRow, e1]
    exact meetRow_alike hw z xs ys (by simpa using hl) (fun i => by have := hr (i + 1); simpa using this) r1
theorem room_alike (o : h.Ok) (o' : g.Ok) (hw : h.w = g.w) (z : Alike h g 0 0) {a b : Nat} (ha : a < h.n) (hb : b < g.n) (r : Alike h g a b) : (h.rooms.getD a []).length = (g.rooms.getD b []).length ∧ ∀ i, Alike h g ((h.rooms.getD a []).getD i 0) ((g.rooms.getD b []).getD i 0) := by
  have e1 := o.room ha
  have e2 := o'.room hb
  refine ⟨by omega, fun i => ?_⟩
  by_cases q : i < h.w
  · exact r.go hw q
  · have q1 : ¬ i < (h.rooms.getD a []).length := by omega
    have q2 : ¬ i < (g.rooms.getD b []).length := by omega
    have f1 : (h.rooms.getD a []).getD i 0 = 0 := by rw [List.getD_eq_getElem?_getD, List.getElem?_eq_none (Nat.le_of_not_lt q1)]; rfl
    have f2 : (g.rooms.getD b []).getD i 0 = 0 := by rw [List.getD_eq_getElem?_getD, List.getElem?_eq_none (Nat.le_of_not_lt q2)]; rfl
    rw [f1, f2]; exact z
theorem getD_lt {l : List Nat} {n i : Nat} (h : ∀ a ∈ l, a < n) (hn : 0 < n) : l.getD i 0 < n := by
  by_cases q : i < l.length
  · exact h _ (getD_mem q)
  · rw [List.getD, List.getElem?_eq_none (by omega)]; exact hn
theorem meetAll_alike (o : h.Ok) (o' : g.Ok) (hw : h.w = g.w) (z : Alike h g 0 0) : ∀ i, RL (Alike h g) (meetAll (same h) h i).1 (meetAll (same g) g i).1 ∧ (meetAll (same h) h i).2 = (meetAll (same g) g i).2
  | 0 => ⟨⟨rfl, fun i => by
      cases i with
      | zero => exact z
      | succ i => exact z⟩, rfl⟩
  | i + 1 => by
    obtain ⟨r, e⟩ := meetAll_alike o o' hw z i
    have n1 := o.n1
    have n2 := o'.n1
    have ra := room_alike o o' hw z (getD_lt (meetAll_met (E := same h) o i).lt n1) (getD_lt (meetAll_met (E := same g) o' i).lt n2) (r.2 i)
    obtain ⟨r1, e1⟩ := meetRow_alike hw z _ _ (row := []) ra.1 ra.2 r
    refine ⟨r1, ?_⟩
    show (meetAll (same h) h i).2 ++ [_] = (meetAll (same g) g i).2 ++ [_]
    rw [e, e1]
/-- one tight hall -/
theorem tight_one (o : h.Ok) (o' : g.Ok) (hw : h.w = g.w) (z : Alike h g 0 0) : tightH h = tightH g := by
  have al := meetAll_alike o o' hw z
  obtain ⟨a, b, _, _⟩ := tightN_spec (E := same h) o fun a _ => same_refl a
  have eN : tightN (same g) g = tightN (same h) h := tightN_eq o' (fun a _ => same_refl a) (fun j hj => by rw [← (al j).1.1]; exact b j hj) (by rw [← (al _).1.1]; exact Nat.le_of_eq a)
  unfold tightH tightOf
  rw [eN, (al _).2, hw]
  congr 1
  apply List.ext_getElem?
  intro i
  obtain ⟨hl, hr⟩ := (al (tightN (same h) h)).1
  rw [List.getElem?_map, List.getElem?_map]
  by_cases q : i < (meetAll (same h) h (tightN (same h) h)).1.length
  · rw [getD_get (d := 0) q, getD_get (d := 0) (by omega : i < (meetAll (same g) g (tightN (same h) h)).1.length)]
    exact congrArg some (hr i [] (by simp))
  · rw [List.getElem?_eq_none (by omega), List.getElem?_eq_none (by omega)]; rfl
theorem tight_iff (o : h.Ok) (o' : g.Ok) (hw : h.w = g.w) : tightH h = tightH g ↔ Alike h g 0 0 := by
  refine ⟨fun e t ht => ?_, tight_one o o' hw⟩
  rw [← tight_run o ht, ← tight_run o' (fun c hc => by rw [← hw]; exact ht c hc), e]
end
/-! ### pairs of rooms that a tune leads to -/
theorem nodup_pairs {n m : Nat} {l : List (Nat × Nat)} (nd : l.Nodup) (h : ∀ p ∈ l, p.1 < n ∧ p.2 < m) : l.length ≤ n * m := by
  have n2 : (l.map fun p => p.1 * m + p.2).Nodup := by
    rw [List.nodup_iff_pairwise_ne, List.pairwise_map]
    refine (List.nodup_iff_pairwise_ne.mp nd).imp_of_mem fun {x y} hx hy hne e => hne ?_
    have hx' := h x hx
    have hy' := h y hy
    have hm : 0 < m := by omega
    have e1 : x.2 = y.2 := by
      have := congrArg (· % m) e
      simp only [Nat.mul_add_mod_self_right, Nat.mod_eq_of_lt hx'.2, Nat.mod_eq_of_lt hy'.2] at this
      exact this
    have e2 : x.1 = y.1 := by
      have h3 : x.1 * m = y.1 * m := by omega
      exact Nat.eq_of_mul_eq_mul_right hm h3
    exact Prod.ext e2 e1
  have := nodup_le (n * m) _ n2 fun a ha => by
    obtain ⟨p, hp, rfl⟩ := List.mem_map.mp ha
    obtain ⟨h1, h2⟩ := h p hp
    have h3 : (p.1 + 1) * m ≤ n * m := Nat.mul_le_mul_right _ h1
    have h4 : (p.1 + 1) * m = p.1 * m + m := by rw [Nat.add_mul, Nat.one_mul]
    omega
  simpa using this
structure Bfs (h g : Hall) (met : List (Nat × Nat)) (i c : Nat) : Prop where
  zero : (0, 0) ∈ met
  nd : met.Nodup
  lt : ∀ p ∈ met, p.1 < h.n ∧ p.2 < g.n
  reach : ∀ p ∈ met, ∃ t : List Nat, (∀ c ∈ t, c < h.w) ∧ p = (h.run 0 t, g.run 0 t)
  le : i ≤ met.length
  done : ∀ k p, k < i → met[k]? = some p → h.lit p.1 = g.lit p.2 ∧ ∀ c, c < h.w → (h.go p.1 c, g.go p.2 c) ∈ met
  now : ∀ p c', met[i]? = some p → c' < c → (h.go p.1 c', g.go p.2 c') ∈ met
section
variable {h g : Hall} {met : List (Nat × Nat)} {i c : Nat}
theorem Bfs.start (o : h.Ok) (o' : g.Ok) : Bfs h g [(0, 0)] 0 0 :=
  ⟨by simp, by simp, fun p hp => by have : p = (0, 0) := by simpa using hp
                                    subst this; exact ⟨o.n1, o'.n1⟩, fun p hp => ⟨[], by simp, by
    have : p = (0, 0) := by simpa using hp
    rw [this]; rfl⟩, Nat.zero_le _, fun k p hk => by omega, fun p c' _ hc => by omega⟩
theorem Bfs.len (b : Bfs h g met i c) : met.length ≤ h.n * g.n := nodup_pairs b.nd b.lt
/-- a step leads to a pair that is met already -/
theorem Bfs.old (b : Bfs h g met i c) {p : Nat × Nat} (e : met[i]? = some p) (m : (h.go p.1 c, g.go p.2 c) ∈ met) : Bfs h g met i (c + 1) :=
  ⟨b.zero, b.nd, b.lt, b.reach, b.le, b.done, fun p' c' e' hc => by
    by_cases q : c' = c
    · subst q; rw [e] at e'; cases e'; exact m
    · exact b.now p' c' e' (by omega)⟩
theorem run_snoc (h : Hall) (t : List Nat) (c r : Nat) : h.run r (t ++ [c]) = h.go (h.run r t) c := by rw [Hall.run_app]; rfl
theorem Bfs.new (o : h.Ok) (o' : g.Ok) (hw : h.w = g.w) (b : Bfs h g met i c) {p : Nat × Nat} (hi : met[i]? = some p) (hc : c < h.w) (m : (h.go p.1 c, g.go p.2 c) ∉ met) : Bfs h g (met ++ [(h.go p.1 c, g.go p.2 c)]) i (c + 1) := by
  have hm := List.mem_of_getElem? hi
  have hlt := (List.getElem?_eq_some_iff.mp hi).1
  have get : ∀ k, k ≤ i → (met ++ [(h.go p.1 c, g.go p.2 c)])[k]? = met[k]? := fun k hk => List.getElem?_append_left (by omega)
  refine ⟨List.mem_append_left _ b.zero, ?_, fun q hq => ?_, fun q hq => ?_, by rw [List.length_append]; have := b.le; omega, fun k q hk e => ?_, fun q c' e hc' => ?_⟩
  · rw [List.nodup_append]
    refine ⟨b.nd, by simp, fun x hx y hy e => ?_⟩
    have : y = (h.go p.1 c, g.go p.2 c) := by simpa using hy
    subst this; subst e; exact m hx
  · rcases List.mem_append.mp hq with z | z
    · exact b.lt q z
    · have : q = (h.go p.1 c, g.go p.2 c) := by simpa using z
      subst this
      exact ⟨o.go_lt (b.lt p hm).1 hc, o'.go_lt (b.lt p hm).2 (by omega)⟩
  · rcases List.mem_append.mp hq with z | z
    · exact b.reach q z
    · have : q = (h.go p.1 c, g.go p.2 c) := by simpa using z
      subst this
      obtain ⟨t, ht, e⟩ := b.reach p hm
      refine ⟨t ++ [c], fun x hx => ?_, ?_⟩
      · rcases List.mem_append.mp hx with y | y
        · exact ht x y
        · have : x = c := by simpa using y
          omega
      · rw [run_snoc, run_snoc, e]
  · rw [get k (by omega)] at e
    obtain ⟨h1, h2⟩ := b.done k q hk e
    exact ⟨h1, fun c hc => List.mem_append_left _ (h2 c hc)⟩
  · rw [get i (Nat.le_refl _), hi] at e
    cases e
    by_cases z : c' = c
    · subst z; simp
    · exact List.mem_append_left _ (b.now p c' hi (by omega))
theorem Bfs.next (b : Bfs h g met i c) {p : Nat × Nat} (e : met[i]? = some p) (hc : h.w ≤ c) (l : h.lit p.1 = g.lit p.2) : Bfs h g met (i + 1) 0 :=
  ⟨b.zero, b.nd, b.lt, b.reach, (List.getElem?_eq_some_iff.mp e).1, fun k q hk ek => by
    by_cases z : k = i
    · subst z; rw [e] at ek; cases ek; exact ⟨l, fun c' hc' => b.now p c' e (by omega)⟩
    · exact b.done k q (by omega) ek, fun p c' _ hc => by omega⟩
theorem Bfs.alike (b : Bfs h g met i c) (hw : h.w = g.w) (hi : met.length ≤ i) : Alike h g 0 0 := by
  have step : ∀ p ∈ met, h.lit p.1 = g.lit p.2 ∧ ∀ c, c < h.w → (h.go p.1 c, g.go p.2 c) ∈ met := fun p hp => by
    obtain ⟨k, hk⟩ := List.getElem?_of_mem hp
    exact b.done k p (by have := (List.getElem?_eq_some_iff.mp hk).1; omega) hk
  have key : ∀ (t : List Nat) (x y : Nat), (x, y) ∈ met → (∀ c ∈ t, c < h.w) → h.lit (h.run x t) = g.lit (g.run y t) := by
    intro t
    induction t with
    | nil => intro x y m _; exact (step _ m).1
    | cons c t ih => intro x y m ht; exact ih _ _ ((step _ m).2 c (ht c (by simp))) fun d hd => ht d (by simp [hd])
  exact fun t ht => key t 0 0 b.zero ht
theorem Bfs.unlike (b : Bfs h g met i c) {p : Nat × Nat} (e : met[i]? = some p) (l : h.lit p.1 ≠ g.lit p.2) : ¬ Alike h g 0 0 := fun al => by
  obtain ⟨t, ht, q⟩ := b.reach p (List.mem_of_getElem? e)
  subst q
  exact l (al t ht)
end
/-! ### things that whistles lead to one another -/
structure Sys (κ : Type) where
  w : Nat
  k0 : κ
  go : κ → Nat → κ
  lit : κ → Bool
section
variable {κ : Type}
def Sys.run (S : Sys κ) (k : κ) : List Nat → κ
  | [] => k
  | c :: t => S.run (S.go k c) t
theorem Sys.run_app (S : Sys κ) : ∀ (t u : List Nat) (k : κ), S.run k (t ++ u) = S.run (S.run k t) u
  | [], u, k => rfl
  | c :: t, u, k => by simp [Sys.run, Sys.run_app S t u]
/-- the things among which all goes on -/
structure Sys.In (S : Sys κ) (U : List κ) : Prop where
  z : S.k0 ∈ U
  go : ∀ k ∈ U, ∀ c, c < S.w → S.go k c ∈ U
theorem Sys.In.run {S : Sys κ} {U : List κ} (i : S.In U) : ∀ {t : List Nat} {k : κ}, k ∈ U → (∀ c ∈ t, c < S.w) → S.run k t ∈ U
  | [], k, hk, _ => hk
  | c :: t, k, hk, ht => i.run (t := t) (i.go k hk c (ht c (by simp))) fun d hd => ht d (by simp [hd])
theorem nodup_sub_len [DecidableEq κ] : ∀ (l U : List κ), l.Nodup → (∀ a ∈ l, a ∈ U) → l.length ≤ U.length
  | [], U, _, _ => Nat.zero_le _
  | a :: l, U, nd, h => by
    have ⟨n1, n2⟩ := List.nodup_cons.mp nd
    have ha := h a (by simp)
    have ih := nodup_sub_len l (U.erase a) n2 fun b hb => (List.mem_erase_of_ne (fun e => n1 (by rw [← e]; exact hb))).mpr (h b (by simp [hb]))
    rw [List.length_erase_of_mem ha] at ih
    have : 0 < U.length := List.length_pos_of_mem ha
    simp only [List.length_cons]
    omega
/-- the things met so far, and the rows told -/
structure BInv (S : Sys κ) (U om : List κ) (rows : List (List Nat)) : Prop where
  nd : om.Nodup
  sub : ∀ k ∈ om, k ∈ U
  z : om[0]? = some S.k0
  le : rows.length ≤ om.length
  row : ∀ (j : Nat) (r : List Nat), rows[j]? = some r → r.length = S.w ∧ ∃ k, om[j]? = some k ∧ ∀ c, c < S.w → ∃ p, r[c]? = some p ∧ om[p]? = some (S.go k c)
structure RInv (S : Sys κ) (om : List κ) (k : κ) (r : List Nat) : Prop where
  at_ : ∀ c, c < r.length → ∃ p, r[c]? = some p ∧ om[p]? = some (S.go k c)
variable {S : Sys κ} {U om : List κ} {rows : List (List Nat)} {k g : κ} {r : List Nat}
theorem BInv.start (i : S.In U) : BInv S U [S.k0] [] := ⟨by simp, by simpa using i.z, rfl, Nat.zero_le _, fun j r e => by simp at e⟩
theorem get_app {α : Type} {l m : List α} {i : Nat} {x : α} (e : l[i]? = some x) : (l ++ m)[i]? = some x := by
  rw [List.getElem?_append_left (List.getElem?_eq_some_iff.mp e).1]; exact e
theorem BInv.grow (b : BInv S U om rows) (hg : g ∈ U) (n : g ∉ om) : BInv S U (om ++ [g]) rows := by
  refine ⟨?_, fun k hk => ?_, get_app b.z, by have := b.le; simp; omega, fun j r e => ?_⟩
  · rw [List.nodup_append]
    exact ⟨b.nd, by simp, fun x hx y hy => by simp at hy; subst hy; exact fun e => n (by rw [← e]; exact hx)⟩
  · rcases List.mem_append.mp hk with h | h
    · exact b.sub k h
    · simp at h; subst h; exact hg
  · obtain ⟨h1, k, h2, h3⟩ := b.row j r e
    refine ⟨h1, k, get_app h2, fun c hc => ?_⟩
    obtain ⟨p, a1, a2⟩ := h3 c hc
    exact ⟨p, a1, get_app a2⟩
theorem RInv.start : RInv S om k [] := ⟨fun c hc => by simp at hc⟩
theorem RInv.grow (b : RInv S om k r) : RInv S (om ++ [g]) k r := ⟨fun c hc => by
  obtain ⟨p, a1, a2⟩ := b.at_ c hc
  exact ⟨p, a1, get_app a2⟩⟩
theorem RInv.put (b : RInv S om k r) {p : Nat} (e : om[p]? = some (S.go k r.length)) : RInv S om k (r ++ [p]) := ⟨fun c hc => by
  by_cases h : c < r.length
  · obtain ⟨p, a1, a2⟩ := b.at_ c h
    exact ⟨p, get_app a1, a2⟩
  · have : c = r.length := by simp at hc; omega
    subst this
    exact ⟨p, by simp, e⟩⟩
theorem BInv.next (b : BInv S U om rows) (hk : om[rows.length]? = some k) (q : RInv S om k r) (hr : r.length = S.w) : BInv S U om (rows ++ [r]) := by
  have hlt := (List.getElem?_eq_some_iff.mp hk).1
  refine ⟨b.nd, b.sub, b.z, by simp; omega, fun j r' e => ?_⟩
  by_cases h : j < rows.length
  · rw [List.getElem?_append_left h] at e
    exact b.row j r' e
  · rw [List.getElem?_append_right (by omega)] at e
    have hj : j = rows.length := by
      have := (List.getElem?_eq_some_iff.mp e).1
      simp at this; omega
    subst hj
    simp at e
    subst e
    exact ⟨hr, k, hk, fun c hc => q.at_ c (by omega)⟩
theorem BInv.len [DecidableEq κ] (b : BInv S U om rows) : om.length ≤ U.length := nodup_sub_len om U b.nd b.sub
/-- the hall that is told -/
def sysHall (S : Sys κ) (om : List κ) (rows : List (List Nat)) : Hall := ⟨S.w, rows, om.map fun k => (S.lit k).toNat⟩
theorem BInv.go (b : BInv S U om rows) (hl : rows.length = om.length) {j c : Nat} {k : κ} (hj : om[j]? = some k) (hc : c < S.w) : om[(sysHall S om rows).go j c]? = some (S.go k c) := by
  have hlt := (List.getElem?_eq_some_iff.mp hj).1
  have er := getD_get (d := []) (show j < rows.length by omega)
  obtain ⟨h1, k', h2, h3⟩ := b.row j _ er
  rw [hj] at h2; cases h2
  obtain ⟨p, a1, a2⟩ := h3 c hc
  have : (sysHall S om rows).go j c = p := by
    show (rows.getD j []).getD c 0 = p
    rw [List.getD_eq_getElem?_getD, a1]; rfl
  rw [this]; exact a2
theorem BInv.runs (b : BInv S U om rows) (hl : rows.length = om.length) : ∀ (t : List Nat) {j : Nat} {k : κ}, om[j]? = some k → (∀ c ∈ t, c < S.w) → om[(sysHall S om rows).run j t]? = some (S.run k t)
  | [], j, k, hj, _ => hj
  | c :: t, j, k, hj, ht => b.runs hl t (b.go hl hj (ht c (by simp))) fun d hd => ht d (by simp [hd])
theorem BInv.hall (b : BInv S U om rows) (hl : rows.length = om.length) (w1 : 1 ≤ S.w) (w3 : S.w ≤ 3) (h6 : om.length ≤ 600) : (sysHall S om rows).Ok ∧ ∀ t, (∀ c ∈ t, c < S.w) → (sysHall S om rows).lit ((sysHall S om rows).run 0 t) = (S.lit (S.run S.k0 t)).toNat := by
  have h0 := (List.getElem?_eq_some_iff.mp b.z).1
  refine ⟨⟨w1, w3, by show 1 ≤ rows.length; omega, by show rows.length ≤ 600; omega, fun r hr => ?_, fun r hr g hg => ?_, ?_, fun l hl => ?_⟩, fun t ht => ?_⟩
  · obtain ⟨j, e⟩ := List.getElem?_of_mem hr
    exact (b.row j r e).1
  · obtain ⟨j, e⟩ := List.getElem?_of_mem hr
    obtain ⟨h1, k, h2, h3⟩ := b.row j r e
    obtain ⟨c, ec⟩ := List.getElem?_of_mem hg
    have hc := (List.getElem?_eq_some_iff.mp ec).1
    obtain ⟨p, a1, a2⟩ := h3 c (by omega)
    rw [ec] at a1; cases a1
    show g < rows.length
    rw [hl]; exact (List.getElem?_eq_some_iff.mp a2).1
  · show (om.map _).length = rows.length
    rw [List.length_map]; exact hl.symm
  · obtain ⟨k, _, rfl⟩ := List.mem_map.mp hl
    cases S.lit k <;> decide
  · have e := b.runs hl t b.z ht
    show (om.map fun k => (S.lit k).toNat).getD ((sysHall S om rows).run 0 t) 0 = _
    rw [List.getD_eq_getElem?_getD, List.getElem?_map, e]; rfl
end
/-! ### tunes numbered in order -/
def num (w : Nat) (t : List Nat) : Nat := t.foldl (fun n c => n * w + c + 1) 0
theorem num_nil (w : Nat) : num w [] = 0 := rfl
theorem num_snoc (w : Nat) (t : List Nat) (c : Nat) : num w (t ++ [c]) = num w t * w + c + 1 := by simp [num]
/-- a tune of w whistles -/
def Val (w : Nat) (t : List Nat) : Prop := ∀ c ∈ t, c < w
theorem Val.nil (w : Nat) : Val w [] := fun c h => by simp at h
theorem Val.snoc {w : Nat} {t : List Nat} {c : Nat} (h : Val w t) (hc : c < w) : Val w (t ++ [c]) := fun d hd => by
  rcases List.mem_append.mp hd with z | z
  · exact h d z
  · simp at z; omega
theorem Val.of_snoc {w : Nat} {t : List Nat} {c : Nat} (h : Val w (t ++ [c])) : Val w t ∧ c < w := ⟨fun d hd => h d (by simp [hd]), h c (by simp)⟩
theorem snoc_cases (t : List Nat) : t = [] ∨ ∃ u c, t = u ++ [c] := by
  rcases List.eq_nil_or_concat t with h | ⟨u, c, h⟩
  · exact .inl h
  · exact .inr ⟨u, c, by rw [h, List.concat_eq_append]⟩
theorem lt_mul {a b w c d : Nat} (hd : d < w) (h : a < b) : a * w + d + 1 < b * w + c + 1 := by
  have := Nat.mul_le_mul_right w (Nat.succ_le_of_lt h)
  rw [Nat.succ_mul] at this
  omega
theorem num_inj {w : Nat} : ∀ {n : Nat} {t u : List Nat}, t.length ≤ n → Val w t → Val w u → num w t = num w u → t = u := by
  intro n
  induction n with
  | zero =>
    intro t u hn ht hu e
    have : t = [] := List.length_eq_zero_iff.mp (by omega)
    subst this
    rcases snoc_cases u with rfl | ⟨v, c, rfl⟩
    · rfl
    · rw [num_snoc, num_nil] at e; omega
  | succ n ih =>
    intro t u hn ht hu e
    rcases snoc_cases t with rfl | ⟨s, d, rfl⟩
    · rcases snoc_cases u with rfl | ⟨v, c, rfl⟩
      · rfl
      · rw [num_snoc, num_nil] at e; omega
    · rcases snoc_cases u with rfl | ⟨v, c, rfl⟩
      · rw [num_snoc, num_nil] at e; omega
      · obtain ⟨h1, h2⟩ := ht.of_snoc
        obtain ⟨h3, h4⟩ := hu.of_snoc
        rw [num_snoc, num_snoc] at e
        have hs : num w s = num w v := by
          rcases Nat.lt_trichotomy (num w s) (num w v) with q | q | q
          · have := lt_mul (c := c) h2 q; omega
          · exact q
          · have := lt_mul (c := d) h4 q; omega
        have hd : d = c := by rw [hs] at e; omega
        have := ih (t := s) (u := v) (by simp at hn; omega) h1 h3 hs
        rw [this, hd]
theorem num_eq {w : Nat} {t u : List Nat} (ht : Val w t) (hu : Val w u) (e : num w t = num w u) : t = u := num_inj (Nat.le_refl _) ht hu e
/-- the order by lengths, then as texts -/
def Before (t u : List Nat) : Prop := t.length < u.length ∨ (t.length = u.length ∧ t < u)
theorem lt_snoc {t u : List Nat} {c d : Nat} (h : t.length = u.length) : t ++ [c] < u ++ [d] ↔ t < u ∨ (t = u ∧ c < d) := by
  induction t generalizing u with
  | nil =>
    have : u = [] := List.length_eq_zero_iff.mp (by simpa using h.symm)
    subst this
    simp [List.cons_lt_cons_iff]
  | cons a t ih =>
    cases u with
    | nil => simp at h
    | cons b u =>
      have := ih (u := u) (by simpa using h)
      simp only [List.cons_append, List.cons_lt_cons_iff, this, List.cons.injEq]
      constructor
      · rintro (q | ⟨rfl, q | ⟨rfl, q⟩⟩)
        · exact .inl (.inl q)
        · exact .inl (.inr ⟨rfl, q⟩)
        · exact .inr ⟨⟨rfl, rfl⟩, q⟩
      · rintro ((q | ⟨rfl, q⟩) | ⟨⟨rfl, rfl⟩, q⟩)
        · exact .inl q
        · exact .inr ⟨rfl, .inl q⟩
        · exact .inr ⟨rfl, .inr ⟨rfl, q⟩⟩
theorem num_shorter {w : Nat} : ∀ {n : Nat} {t u : List Nat}, t.length ≤ n → Val w t → Val w u → t.length < u.length → num w t < num w u := by
  intro n
  induction n with
  | zero =>
    intro t u hn ht hu e
    have : t = [] := List.length_eq_zero_iff.mp (by omega)
    subst this
    rcases snoc_cases u with rfl | ⟨v, c, rfl⟩
    · simp at e
    · rw [num_snoc, num_nil]; omega
  | succ n ih =>
    intro t u hn ht hu e
    rcases snoc_cases t with rfl | ⟨s, d, rfl⟩
    · rcases snoc_cases u with rfl | ⟨v, c, rfl⟩
      · simp at e
      · rw [num_snoc, num_nil]; omega
    · rcases snoc_cases u with rfl | ⟨v, c, rfl⟩
      · simp at e
      · obtain ⟨h1, h2⟩ := ht.of_snoc
        obtain ⟨h3, h4⟩ := hu.of_snoc
        rw [num_snoc, num_snoc]
        exact lt_mul h2 (ih (by simp at hn; omega) h1 h3 (by simpa using e))
theorem num_lt_same {w : Nat} : ∀ {n : Nat} {t u : List Nat}, t.length ≤ n → Val w t → Val w u → t.length = u.length → (num w t < num w u ↔ t < u) := by
  intro n
  induction n with
  | zero =>
    intro t u hn ht hu e
    have h1 : t = [] := List.length_eq_zero_iff.mp (by omega)
    have h2 : u = [] := List.length_eq_zero_iff.mp (by omega)
    subst h1; subst h2; simp
  | succ n ih =>
    intro t u hn ht hu e
    rcases snoc_cases t with rfl | ⟨s, d, rfl⟩
    · have h2 : u = [] := List.length_eq_zero_iff.mp (by simpa using e.symm)
      subst h2; simp
    · rcases snoc_cases u with rfl | ⟨v, c, rfl⟩
      · simp at e
      · obtain ⟨h1, h2⟩ := ht.of_snoc
        obtain ⟨h3, h4⟩ := hu.of_snoc
        have el : s.length = v.length := by simpa using e
        rw [num_snoc, num_snoc, lt_snoc el, ← ih (t := s) (u := v) (by simp at hn; omega) h1 h3 el]
        constructor
        · intro q
          rcases Nat.lt_trichotomy (num w s) (num w v) with z | z | z
          · exact .inl z
          · exact .inr ⟨num_eq h1 h3 z, by rw [z] at q; omega⟩
          · have := lt_mul (c := d) h4 z; omega
        · rintro (z | ⟨rfl, z⟩)
          · exact lt_mul h2 z
          · omega
theorem before_iff {w : Nat} {t u : List Nat} (ht : Val w t) (hu : Val w u) : Before t u ↔ num w t < num w u := by
  constructor
  · rintro (h | ⟨h1, h2⟩)
    · exact num_shorter (Nat.le_refl _) ht hu h
    · exact (num_lt_same (Nat.le_refl _) ht hu h1).mpr h2
  · intro h
    rcases Nat.lt_trichotomy t.length u.length with q | q | q
    · exact .inl q
    · exact .inr ⟨q, (num_lt_same (Nat.le_refl _) ht hu q).mp h⟩
    · have := num_shorter (Nat.le_refl _) hu ht q; omega
/-! ### the first tunes that lead to things, in order -/
section
variable {κ : Type} {S : Sys κ} {U : List κ} {om : List (κ × List Nat)}
/-- what is met, i: how many are gone through, c: how many whistles of the i-th, cand: the number of the next tune to be tried -/
structure FInv (S : Sys κ) (U : List κ) (om : List (κ × List Nat)) (cand : Nat) : Prop where
  nd : (om.map (·.1)).Nodup
  sub : ∀ p ∈ om, p.1 ∈ U
  val : ∀ p ∈ om, Val S.w p.2
  run : ∀ p ∈ om, S.run S.k0 p.2 = p.1
  lt : ∀ p ∈ om, num S.w p.2 < cand
  up : ∀ (i j : Nat) (p q : κ × List Nat), i < j → om[i]? = some p → om[j]? = some q → num S.w p.2 < num S.w q.2
  cov : ∀ u, Val S.w u → num S.w u < cand → ∃ p ∈ om, p.1 = S.run S.k0 u ∧ num S.w p.2 ≤ num S.w u
theorem FInv.start (i : S.In U) : FInv S U [(S.k0, [])] 1 := by
  refine ⟨by simp, by simpa using i.z, by simpa using Val.nil _, by simp [Sys.run], by simp [num_nil], fun a b p q h e1 e2 => ?_, fun u hu h => ⟨(S.k0, []), by simp, ?_⟩⟩
  · have h1 := (List.getElem?_eq_some_iff.mp e2).1
    simp at h1; omega
  · have : u = [] := num_eq hu (Val.nil _) (by rw [num_nil]; omega)
    subst this
    exact ⟨rfl, Nat.le_refl _⟩
theorem FInv.idx (f : FInv S U om cand) {i : Nat} {p q : κ × List Nat} (hp : om[i]? = some p) (hq : q ∈ om) (h : num S.w q.2 < num S.w p.2) : ∃ j, j < i ∧ om[j]? = some q := by
  obtain ⟨j, ej⟩ := List.getElem?_of_mem hq
  rcases Nat.lt_trichotomy j i with z | z | z
  · exact ⟨j, z, ej⟩
  · subst z; rw [hp] at ej; cases ej; omega
  · have := f.up i j p q z hp ej; omega
variable {k : κ} {t : List Nat} {i c cand : Nat}
/-- the goal is known -/
theorem FInv.old (f : FInv S U om (num S.w t * S.w + c + 1)) (hi : (k, t) ∈ om) (hc : c < S.w) (hm : S.go k c ∈ om.map (·.1)) : FInv S U om (num S.w t * S.w + (c + 1) + 1) := by
  refine ⟨f.nd, f.sub, f.val, f.run, fun p hp => by have := f.lt p hp; omega, f.up, fun u hu h => ?_⟩
  by_cases z : num S.w u < num S.w t * S.w + c + 1
  · exact f.cov u hu z
  · have e : u = t ++ [c] := num_eq hu ((f.val _ hi).snoc hc) (by rw [num_snoc]; omega)
    obtain ⟨p, hp, ep⟩ := List.mem_map.mp hm
    refine ⟨p, hp, ?_, by have := f.lt p hp; omega⟩
    rw [ep, e, Sys.run_app, f.run _ hi]; rfl
/-- the goal is new -/
theorem FInv.new (f : FInv S U om (num S.w t * S.w + c + 1)) (hi : (k, t) ∈ om) (hc : c < S.w) (hU : S.go k c ∈ U) (hm : S.go k c ∉ om.map (·.1)) : FInv S U (om ++ [(S.go k c, t ++ [c])]) (num S.w t * S.w + (c + 1) + 1) := by
  have er : S.run S.k0 (t ++ [c]) = S.go k c := by rw [Sys.run_app, f.run _ hi]; rfl
  have en : num S.w (t ++ [c]) = num S.w t * S.w + c + 1 := num_snoc _ _ _
  have all : ∀ {Pr : κ × List Nat → Prop}, (∀ p ∈ om, Pr p) → Pr (S.go k c, t ++ [c]) → ∀ p ∈ om ++ [(S.go k c, t ++ [c])], Pr p := fun h1 h2 p hp => by
    rcases List.mem_append.mp hp with z | z
    · exact h1 p z
    · simp at z; subst z; exact h2
  refine ⟨?_, all f.sub hU, all f.val ((f.val _ hi).snoc hc), all f.run er, all (fun p hp => by have := f.lt p hp; omega) (by rw [en]; omega), fun a b p q h e1 e2 => ?_, fun u hu h => ?_⟩
  · rw [List.map_append, List.nodup_append]
    exact ⟨f.nd, by simp, fun x hx y hy => by simp at hy; subst hy; exact fun e => hm (by rw [← e]; exact hx)⟩
  · have hb := (List.getElem?_eq_some_iff.mp e2).1
    simp at hb
    have ha : a < om.length := by omega
    rw [List.getElem?_append_left ha] at e1
    by_cases z : b < om.length
    · rw [List.getElem?_append_left z] at e2
      exact f.up a b p q h e1 e2
    · have : b = om.length := by omega
      subst this
      simp at e2; subst e2
      rw [en]
      exact f.lt p (List.mem_of_getElem? e1)
  · by_cases z : num S.w u < num S.w t * S.w + c + 1
    · obtain ⟨p, hp, h1, h2⟩ := f.cov u hu z
      exact ⟨p, by simp [hp], h1, h2⟩
    · have e : u = t ++ [c] := num_eq hu ((f.val _ hi).snoc hc) (by rw [num_snoc]; omega)
      exact ⟨(S.go k c, t ++ [c]), by simp, by rw [e]; exact er.symm, by rw [e]; exact Nat.le_refl _⟩
/-- one is gone through, the next one comes -/
theorem FInv.next (f : FInv S U om (num S.w t * S.w + S.w + 1)) (hi : om[i]? = some (k, t)) {k' : κ} {t' : List Nat} (hi' : om[i + 1]? = some (k', t')) : FInv S U om (num S.w t' * S.w + 0 + 1) := by
  have lt' := f.up i (i + 1) _ _ (by omega) hi hi'
  have lt' : num S.w t < num S.w t' := lt'
  have big : num S.w t * S.w + S.w + 1 ≤ num S.w t' * S.w + 0 + 1 := by
    have := Nat.mul_le_mul_right S.w (Nat.succ_le_of_lt lt')
    rw [Nat.succ_mul] at this; omega
  refine ⟨f.nd, f.sub, f.val, f.run, fun p hp => by have := f.lt p hp; omega, f.up, fun u hu h => ?_⟩
  by_cases z : num S.w u < num S.w t * S.w + S.w + 1
  · exact f.cov u hu z
  · rcases snoc_cases u with rfl | ⟨v, d, rfl⟩
    · rw [num_nil] at z; omega
    · obtain ⟨hv, hd⟩ := hu.of_snoc
      rw [num_snoc] at z h ⊢
      have v1 : num S.w t < num S.w v := by
        rcases Nat.lt_or_ge (num S.w t) (num S.w v) with q | q
        · exact q
        · have := Nat.mul_le_mul_right S.w q; omega
      have v2 : num S.w v < num S.w t' := by
        rcases Nat.lt_or_ge (num S.w v) (num S.w t') with q | q
        · exact q
        · have := Nat.mul_le_mul_right S.w q; omega
      have lt2 := f.lt _ (List.mem_of_getElem? hi')
      obtain ⟨p, hp, e1, e2⟩ := f.cov v hv (by have : num S.w t' < _ := lt2; omega)
      obtain ⟨j, hj, ej⟩ := f.idx hi' hp (by show num S.w p.2 < num S.w t'; omega)
      -- p is one of the former: its children are known
      have pt : num S.w p.2 ≤ num S.w t := by
        by_cases q : j = i
        · subst q; rw [hi] at ej; cases ej; exact Nat.le_refl _
        · exact Nat.le_of_lt (f.up j i p _ (by omega) ej hi)
      have hpv := f.val p hp
      obtain ⟨p2, hp2, e3, e4⟩ := f.cov (p.2 ++ [d]) (hpv.snoc hd) (by
        rw [num_snoc]
        have := Nat.mul_le_mul_right S.w pt; omega)
      refine ⟨p2, hp2, ?_, ?_⟩
      · rw [e3, Sys.run_app, Sys.run_app, f.run p hp, e1]
      · rw [num_snoc] at e4
        have := Nat.mul_le_mul_right S.w e2
        omega
/-- the first that is of the kind -/
theorem FInv.found (f : FInv S U om cand) (hi : om[i]? = some (k, t)) (no : ∀ j p, j < i → om[j]? = some p → S.lit p.1 = false) {u : List Nat} (hu : Val S.w u) (hl : S.lit (S.run S.k0 u) = true) : num S.w t ≤ num S.w u := by
  rcases Nat.lt_or_ge (num S.w u) (num S.w t) with q | q
  · have lt2 : num S.w t < cand := f.lt _ (List.mem_of_getElem? hi)
    obtain ⟨p, hp, e1, e2⟩ := f.cov u hu (by omega)
    obtain ⟨j, hj, ej⟩ := f.idx hi hp (by show num S.w p.2 < num S.w t; omega)
    have := no j p hj ej
    rw [e1, hl] at this; cases this
  · exact q
/-- none is of the kind -/
theorem FInv.none (f : FInv S U om (num S.w t * S.w + S.w + 1)) (hi : om[i]? = some (k, t)) (hl : om.length = i + 1) (no : ∀ p ∈ om, S.lit p.1 = false) : ∀ u, Val S.w u → S.lit (S.run S.k0 u) = false := by
  have key : ∀ (n : Nat) (u : List Nat), u.length ≤ n → Val S.w u → ∃ p ∈ om, p.1 = S.run S.k0 u := by
    intro n
    induction n with
    | zero =>
      intro u hn hu
      obtain ⟨p, hp, e, _⟩ := f.cov u hu (by
        have : u = [] := List.length_eq_zero_iff.mp (by omega)
        rw [this, num_nil]; omega)
      exact ⟨p, hp, e⟩
    | succ n ih =>
      intro u hn hu
      rcases snoc_cases u with rfl | ⟨v, d, rfl⟩
      · exact ih [] (by simp) hu
      · obtain ⟨hv, hd⟩ := hu.of_snoc
        obtain ⟨p, hp, e⟩ := ih v (by simp at hn; omega) hv
        obtain ⟨j, ej⟩ := List.getElem?_of_mem hp
        have hj := (List.getElem?_eq_some_iff.mp ej).1
        have pt : num S.w p.2 ≤ num S.w t := by
          by_cases q : j = i
          · subst q; rw [hi] at ej; cases ej; exact Nat.le_refl _
          · exact Nat.le_of_lt (f.up j i p _ (by omega) ej hi)
        obtain ⟨p2, hp2, e3, _⟩ := f.cov (p.2 ++ [d]) ((f.val p hp).snoc hd) (by
          rw [num_snoc]
          have := Nat.mul_le_mul_right S.w pt; omega)
        exact ⟨p2, hp2, by rw [e3, Sys.run_app, Sys.run_app, f.run p hp, e]⟩
  intro u hu
  obtain ⟨p, hp, e⟩ := key _ u (Nat.le_refl _) hu
  rw [← e]; exact no p hp
end

/-! ### the next tune -/
theorem num_carry {w : Nat} (hw : 1 ≤ w) {u v : List Nat} (h : num w v = num w u + 1) : ∀ m, num w (v ++ List.replicate m 0) = num w (u ++ List.replicate m (w - 1)) + 1
  | 0 => by simpa using h
  | m + 1 => by
    have ih := num_carry hw h m
    rw [List.replicate_succ', List.replicate_succ', ← List.append_assoc, ← List.append_assoc, num_snoc, num_snoc, ih, Nat.succ_mul]
    omega
theorem Val.app {w : Nat} {t u : List Nat} (h : Val w t) (h' : Val w u) : Val w (t ++ u) := fun c hc => (List.mem_append.mp hc).elim (h c) (h' c)
theorem Val.rep {w c : Nat} (hc : c < w) (m : Nat) : Val w (List.replicate m c) := fun d hd => by
  rw [List.eq_of_mem_replicate hd]; exact hc
theorem Val.take {w : Nat} {t : List Nat} (h : Val w t) (n : Nat) : Val w (t.take n) := fun c hc => h c (List.mem_of_mem_take hc)
theorem Val.drop {w : Nat} {t : List Nat} (h : Val w t) (n : Nat) : Val w (t.drop n) := fun c hc => h c (List.mem_of_mem_drop hc)
/-- all signs are the last one -/
theorem next_long {w : Nat} (hw : 1 ≤ w) (m : Nat) : num w (List.replicate (m + 1) 0) = num w (List.replicate m (w - 1)) + 1 := by
  have := num_carry hw (u := []) (v := [0]) (by simp [num]) m
  simpa [List.replicate_succ] using this
theorem next_step {w : Nat} (hw : 1 ≤ w) (t : List Nat) (c m : Nat) : num w (t ++ [c + 1] ++ List.replicate m 0) = num w (t ++ [c] ++ List.replicate m (w - 1)) + 1 := num_carry hw (by rw [num_snoc, num_snoc]; omega) m
section
variable {E : Nat → Nat → Bool} {h : Hall}
theorem meetRow_pre : ∀ (gs order row : List Nat), ∃ more, (meetRow E order row gs).2 = row ++ more
  | [], order, row => ⟨[], by simp [meetRow]⟩
  | g :: gs, order, row => by
    obtain ⟨more, e⟩ := meetRow_pre gs (meet E order g).1 (row ++ [(meet E order g).2])
    exact ⟨(meet E order g).2 :: more, by rw [meetRow, e]; simp⟩
theorem meet_src {order : List Nat} {g p : Nat} (h1 : order.length ≤ p) (h2 : p < (meet E order g).1.length) : p = (meet E order g).2 := by
  unfold meet at h2 ⊢
  cases e : order.findIdx? (fun r => E r g) with
  | some k => rw [e] at h2; simp at h2; omega
  | none => rw [e] at h2; simp at h2 ⊢; omega
theorem meetRow_src : ∀ (gs order row : List Nat) (p : Nat), order.length ≤ p → p < (meetRow E order row gs).1.length → p ∈ (meetRow E order row gs).2
  | [], order, row, p, h1, h2 => by simp [meetRow] at h2; omega
  | g :: gs, order, row, p, h1, h2 => by
    rw [meetRow] at h2 ⊢
    by_cases q : (meet E order g).1.length ≤ p
    · exact meetRow_src gs _ _ p q h2
    · have := meet_src (E := E) (g := g) h1 (by omega)
      obtain ⟨more, e⟩ := meetRow_pre (E := E) gs (meet E order g).1 (row ++ [(meet E order g).2])
      rw [e, this]; simp
theorem meetAll_src (o : h.Ok) : ∀ (i p : Nat), 1 ≤ p → p < (meetAll E h i).1.length → ∃ j row, j < i ∧ (meetAll E h i).2[j]? = some row ∧ p ∈ row ∧ (meetAll E h j).1.length ≤ p
  | 0, p, h1, h2 => by simp [meetAll] at h2; omega
  | i + 1, p, h1, h2 => by
    by_cases q : p < (meetAll E h i).1.length
    · obtain ⟨j, row, a, b, c, d⟩ := meetAll_src o i p h1 q
      refine ⟨j, row, by omega, ?_, c, d⟩
      rw [meetAll]
      exact get_app b
    · refine ⟨i, (meetRow E (meetAll E h i).1 [] (h.rooms.getD ((meetAll E h i).1.getD i 0) [])).2, by omega, ?_, ?_, by omega⟩
      · rw [meetAll]
        have := meetAll_rows (E := E) (h := h) i
        simp only
        rw [List.getElem?_append_right (by omega), this]
        simp
      · rw [meetAll] at h2
        exact meetRow_src _ _ _ p (by omega) h2
theorem tight_reach (o : h.Ok) : ∀ (n p : Nat), p ≤ n → p < (tightH h).n → ∃ t, Val h.w t ∧ (tightH h).run 0 t = p := by
  have hE : ∀ a, a < h.n → same h a a = true := fun a _ => same_refl a
  obtain ⟨s1, s2, s3, s4⟩ := tightN_spec (E := same h) o hE
  have hok : (tightH h).Ok := tightOf_ok o hE
  have hn : (tightH h).n = tightN (same h) h := meetAll_rows _
  intro n
  induction n with
  | zero =>
    intro p hp hlt
    exact ⟨[], Val.nil _, by have : p = 0 := by omega
                             rw [this]; rfl⟩
  | succ n ih =>
    intro p hp hlt
    by_cases h0 : p = 0
    · exact ⟨[], Val.nil _, by rw [h0]; rfl⟩
    · obtain ⟨j, row, hj, er, hm, hl⟩ := meetAll_src (E := same h) o (tightN (same h) h) p (by omega) (by omega)
      have hjl := s2 j hj
      obtain ⟨t, ht, et⟩ := ih j (by omega) (by omega)
      obtain ⟨c, ec⟩ := List.getElem?_of_mem hm
      have hrow : row ∈ (tightH h).rooms := List.mem_of_getElem? er
      have hc : c < h.w := by
        have := (List.getElem?_eq_some_iff.mp ec).1
        rw [hok.row row hrow] at this
        exact this
      refine ⟨t ++ [c], ht.snoc hc, ?_⟩
      rw [Hall.run_app, et]
      show (((tightH h).rooms.getD j []).getD c 0) = p
      rw [show (tightH h).rooms.getD j [] = row from by rw [List.getD_eq_getElem?_getD]; rw [show (tightH h).rooms[j]? = some row from er]; rfl, List.getD_eq_getElem?_getD, ec]; rfl
end
/-! ### how many tunes of a length lead to the light -/
def waysL (h : Hall) : Nat → List Nat
  | 0 => h.lights
  | n + 1 => h.rooms.map fun room => (room.map fun g => (waysL h n).getD g 0).sum
/-- over all words of a length -/
def cntL (w : Nat) : Nat → (List Nat → Nat) → Nat
  | 0, f => f []
  | n + 1, f => ((List.range w).map fun c => cntL w n fun t => f (c :: t)).sum
theorem waysL_len {h : Hall} (o : h.Ok) : ∀ n, (waysL h n).length = h.n
  | 0 => o.len
  | n + 1 => by show (h.rooms.map _).length = _; rw [List.length_map]; rfl
theorem map_getD (r : List Nat) (f : Nat → Nat) : (List.range r.length).map (fun c => f (r.getD c 0)) = r.map f := by
  apply List.ext_getElem?
  intro i
  rw [List.getElem?_map, List.getElem?_map]
  by_cases hi : i < r.length
  · rw [List.getElem?_range hi, getD_get (d := 0) hi]; rfl
  · rw [List.getElem?_eq_none (by simp; omega), List.getElem?_eq_none (by omega)]; rfl
theorem waysL_cnt {h : Hall} (o : h.Ok) : ∀ (n : Nat) {r : Nat}, r < h.n → (waysL h n).getD r 0 = cntL h.w n fun t => h.lit (h.run r t)
  | 0, r, hr => rfl
  | n + 1, r, hr => by
    show (h.rooms.map fun room => (room.map fun g => (waysL h n).getD g 0).sum).getD r 0 = _
    rw [List.getD_eq_getElem?_getD, List.getElem?_map, getD_get (d := []) hr]
    show ((h.rooms.getD r []).map fun g => (waysL h n).getD g 0).sum = ((List.range h.w).map fun c => cntL h.w n fun t => h.lit (h.run r (c :: t))).sum
    have e : (List.range h.w).map (fun c => cntL h.w n fun t => h.lit (h.run r (c :: t))) = (List.range h.w).map fun c => (waysL h n).getD ((h.rooms.getD r []).getD c 0) 0 := by
      refine List.map_congr_left fun c hc => ?_
      exact (waysL_cnt o n (o.go_lt hr (List.mem_range.mp hc))).symm
    rw [e, ← o.room hr]
    exact congrArg List.sum (map_getD (h.rooms.getD r []) fun g => (waysL h n).getD g 0).symm
theorem cntL_congr {w : Nat} : ∀ (n : Nat) {f g : List Nat → Nat}, (∀ t, Val w t → t.length = n → f t = g t) → cntL w n f = cntL w n g
  | 0, f, g, h => h [] (Val.nil _) rfl
  | n + 1, f, g, h => by
    show ((List.range w).map _).sum = ((List.range w).map _).sum
    congr 1
    refine List.map_congr_left fun c hc => cntL_congr n fun t ht hl => h (c :: t) (fun d hd => ?_) (by simp [hl])
    rcases List.mem_cons.mp hd with rfl | hd
    · exact List.mem_range.mp hc
    · exact ht d hd
/-! ### sets of numbers below n, rising -/
def setN (n : Nat) (p : Nat → Bool) : List Nat := (List.range n).filter p
theorem mem_setN {n x : Nat} {p : Nat → Bool} : x ∈ setN n p ↔ x < n ∧ p x = true := by
  unfold setN; rw [List.mem_filter, List.mem_range]
theorem setN_len (n : Nat) (p : Nat → Bool) : (setN n p).length ≤ n := by
  have := List.length_filter_le p (List.range n)
  rw [List.length_range] at this; exact this
def subsN : Nat → List (List Nat)
  | 0 => [[]]
  | n + 1 => subsN n ++ (subsN n).map fun l => l ++ [n]
theorem subsN_len : ∀ n, (subsN n).length = 2 ^ n
  | 0 => rfl
  | n + 1 => by simp [subsN, subsN_len n, Nat.pow_succ]; omega
theorem setN_sub (p : Nat → Bool) : ∀ n, setN n p ∈ subsN n
  | 0 => by simp [setN, subsN]
  | n + 1 => by
    have ih := setN_sub p n
    unfold setN at ih ⊢
    rw [List.range_succ, List.filter_append]
    unfold subsN
    cases e : p n with
    | false => rw [show [n].filter p = [] by simp [e], List.append_nil]; exact List.mem_append_left _ ih
    | true => rw [show [n].filter p = [n] by simp [e]]; exact List.mem_append_right _ (List.mem_map.mpr ⟨_, ih, rfl⟩)
theorem subsN_lt : ∀ {n : Nat} {l : List Nat}, l ∈ subsN n → ∀ x ∈ l, x < n
  | 0, l, h, x, hx => by simp [subsN] at h; subst h; simp at hx
  | n + 1, l, h, x, hx => by
    unfold subsN at h
    rcases List.mem_append.mp h with h | h
    · exact Nat.lt_succ_of_lt (subsN_lt h x hx)
    · obtain ⟨m, hm, rfl⟩ := List.mem_map.mp h
      rcases List.mem_append.mp hx with q | q
      · exact Nat.lt_succ_of_lt (subsN_lt hm x q)
      · simp at q; omega
theorem subsN_len_le : ∀ {n : Nat} {l : List Nat}, l ∈ subsN n → l.length ≤ n
  | 0, l, h => by simp [subsN] at h; subst h; simp
  | n + 1, l, h => by
    unfold subsN at h
    rcases List.mem_append.mp h with h | h
    · exact Nat.le_succ_of_le (subsN_len_le h)
    · obtain ⟨m, hm, rfl⟩ := List.mem_map.mp h
      have := subsN_len_le hm
      simp; omega
theorem setN_asc (n : Nat) (p : Nat → Bool) : (setN n p).Pairwise (· < ·) := List.Pairwise.filter _ List.pairwise_lt_range
theorem asc_ext : ∀ {l m : List Int}, l.Pairwise (· < ·) → m.Pairwise (· < ·) → (∀ x, x ∈ l ↔ x ∈ m) → l = m
  | [], [], _, _, _ => rfl
  | [], b :: m, _, _, h => absurd ((h b).mpr (by simp)) (by simp)
  | a :: l, [], _, _, h => absurd ((h a).mp (by simp)) (by simp)
  | a :: l, b :: m, hl, hm, h => by
    obtain ⟨la, pl⟩ := List.pairwise_cons.mp hl
    obtain ⟨mb, pm⟩ := List.pairwise_cons.mp hm
    have e : a = b := by
      rcases List.mem_cons.mp ((h a).mp (by simp)) with e | e
      · exact e
      · rcases List.mem_cons.mp ((h b).mpr (by simp)) with e' | e'
        · exact e'.symm
        · have := mb a e; have := la b e'; omega
    subst e
    refine congrArg (a :: ·) (asc_ext pl pm fun x => ?_)
    constructor
    · intro hx
      rcases List.mem_cons.mp ((h x).mp (List.mem_cons_of_mem _ hx)) with e | e
      · have := la x hx; omega
      · exact e
    · intro hx
      rcases List.mem_cons.mp ((h x).mpr (List.mem_cons_of_mem _ hx)) with e | e
      · have := mb x hx; omega
      · exact e
theorem asc_set {ns : List Int} {n : Nat} {p : Nat → Bool} (h : ns.Pairwise (· < ·)) (m : ∀ k : Int, k ∈ ns ↔ ∃ x : Nat, x < n ∧ p x = true ∧ k = (x : Int)) : ns = (setN n p).map Int.ofNat := by
  refine asc_ext h (List.pairwise_map.mpr ((setN_asc n p).imp fun {a b} z => by show (a : Int) < b; omega)) fun k => ?_
  rw [m, List.mem_map]
  constructor
  · rintro ⟨x, a, b, c⟩; exact ⟨x, mem_setN.mpr ⟨a, b⟩, c.symm⟩
  · rintro ⟨x, a, c⟩; obtain ⟨a, b⟩ := mem_setN.mp a; exact ⟨x, a, b, c.symm⟩
theorem setN_congr {n : Nat} {p q : Nat → Bool} (h : ∀ x, x < n → p x = q x) : setN n p = setN n q := by
  unfold setN
  exact List.filter_congr fun x hx => h x (List.mem_range.mp hx)
/-! ### what whistles do to rooms -/
def goalsL (h : Hall) (rs : List Nat) (c : Nat) : List Nat := setN h.n fun x => rs.any fun r => decide (h.go r c = x)
def withL (n : Nat) (rs : List Nat) (r : Nat) : List Nat := setN n fun x => decide (x ∈ rs ∨ x = r)
def brightL (h : Hall) (rs : List Nat) : Bool := rs.any fun r => decide (h.lit r = 1)
def cameL (h : Hall) (rs : List Nat) (c : Nat) : List Nat := setN h.n fun x => decide (h.go x c ∈ rs)
theorem mem_goalsL {h : Hall} (o : h.Ok) {rs : List Nat} {c x : Nat} (hr : ∀ r ∈ rs, r < h.n) (hc : c < h.w) : x ∈ goalsL h rs c ↔ ∃ r ∈ rs, h.go r c = x := by
  unfold goalsL
  rw [mem_setN]
  simp only [List.any_eq_true, decide_eq_true_eq]
  constructor
  · rintro ⟨_, r, a, b⟩; exact ⟨r, a, b⟩
  · rintro ⟨r, a, b⟩; exact ⟨by rw [← b]; exact o.go_lt (hr r a) hc, r, a, b⟩
theorem mem_withL {n : Nat} {rs : List Nat} {r x : Nat} (hs : ∀ r ∈ rs, r < n) (hr : r < n) : x ∈ withL n rs r ↔ x ∈ rs ∨ x = r := by
  unfold withL
  rw [mem_setN]
  simp only [decide_eq_true_eq]
  constructor
  · rintro ⟨_, a⟩; exact a
  · intro a; refine ⟨?_, a⟩
    rcases a with a | a
    · exact hs x a
    · omega
theorem mem_cameL {h : Hall} {rs : List Nat} {c x : Nat} : x ∈ cameL h rs c ↔ x < h.n ∧ h.go x c ∈ rs := by
  unfold cameL; rw [mem_setN]; simp
theorem brightL_iff {h : Hall} {rs : List Nat} : brightL h rs = true ↔ ∃ r ∈ rs, h.lit r = 1 := by
  unfold brightL; simp
/-- a tune cut in two: good in the one, leading to x in the other -/
def Cut (h g : Hall) (t : List Nat) (x : Nat) : Prop := ∃ u v, t = u ++ v ∧ h.lit (h.run 0 u) = 1 ∧ g.run 0 v = x
theorem cut_nil {h g : Hall} {x : Nat} : Cut h g [] x ↔ h.lit 0 = 1 ∧ x = 0 := by
  constructor
  · rintro ⟨u, v, e, a, b⟩
    obtain ⟨rfl, rfl⟩ := List.append_eq_nil_iff.mp e.symm
    exact ⟨a, b.symm⟩
  · rintro ⟨a, rfl⟩; exact ⟨[], [], rfl, a, rfl⟩
theorem cut_snoc {h g : Hall} {t : List Nat} {c x : Nat} : Cut h g (t ++ [c]) x ↔ (∃ r, Cut h g t r ∧ g.go r c = x) ∨ (h.lit (h.run 0 (t ++ [c])) = 1 ∧ x = 0) := by
  constructor
  · rintro ⟨u, v, e, a, b⟩
    rcases List.eq_nil_or_concat v with rfl | ⟨v', d, rfl⟩
    · right
      rw [List.append_nil] at e
      exact ⟨by rw [e]; exact a, b.symm⟩
    · left
      rw [List.concat_eq_append, ← List.append_assoc] at e
      obtain ⟨rfl, e2⟩ := List.append_inj' e rfl
      obtain rfl : c = d := by simpa using e2
      refine ⟨g.run 0 v', ⟨u, v', rfl, a, rfl⟩, ?_⟩
      rw [List.concat_eq_append, Hall.run_app] at b
      exact b
  · rintro (⟨r, ⟨u, v, rfl, a, b⟩, e⟩ | ⟨a, rfl⟩)
    · refine ⟨u, v ++ [c], by simp, a, ?_⟩
      rw [Hall.run_app, b]; exact e
    · exact ⟨t ++ [c], [], by simp, a, rfl⟩
/-! ### tunes cut into good ones -/
inductive Star (G : List Nat → Prop) : List Nat → Prop
  | nil : Star G []
  | app {u v : List Nat} : Star G u → G v → Star G (u ++ v)
theorem Star.last {G : List Nat → Prop} {t : List Nat} (s : Star G t) : t ≠ [] → ∃ u v, t = u ++ v ∧ Star G u ∧ G v ∧ v ≠ [] := by
  induction s with
  | nil => intro h; exact absurd rfl h
  | @app u v su gv ih =>
    intro h
    by_cases e : v = []
    · subst e
      rw [List.append_nil] at h ⊢
      exact ih h
    · exact ⟨u, v, rfl, su, gv, e⟩
theorem Star.one {G : List Nat → Prop} {t : List Nat} (g : G t) : Star G t := Star.app Star.nil g
theorem Star.more {G : List Nat → Prop} {t u : List Nat} (s : Star G t) (r : Star G u) : Star G (t ++ u) := by
  induction r with
  | nil => rw [List.append_nil]; exact s
  | app _ g ih => rw [← List.append_assoc]; exact Star.app ih g
theorem Star.twice {G : List Nat → Prop} {t : List Nat} (s : Star (Star G) t) : Star G t := by
  induction s with
  | nil => exact Star.nil
  | app _ g ih => exact ih.more g
theorem Star.imp {G G' : List Nat → Prop} {t : List Nat} (s : Star G t) : (∀ u v w, t = u ++ v ++ w → G v → G' v) → Star G' t := by
  induction s with
  | nil => intro _; exact Star.nil
  | @app u v _ g ih => intro h; exact Star.app (ih fun a b c e => h a b (c ++ v) (by rw [e]; simp)) (h u v [] (by simp) g)
theorem star_congr {w : Nat} {G G' : List Nat → Prop} {t : List Nat} (ht : Val w t) (h : ∀ u, Val w u → (G u ↔ G' u)) : Star G t ↔ Star G' t := by
  constructor
  · intro s
    exact s.imp fun u v x e g => (h v fun c hc => ht c (by rw [e]; simp [hc])).mp g
  · intro s
    exact s.imp fun u v x e g => (h v fun c hc => ht c (by rw [e]; simp [hc])).mpr g
def Good (h : Hall) (t : List Nat) : Prop := h.lit (h.run 0 t) = 1
/-- some good ones, then on the way to x -/
def OnWay (h : Hall) (t : List Nat) (x : Nat) : Prop := ∃ u v, t = u ++ v ∧ Star (Good h) u ∧ h.run 0 v = x
theorem run_snoc' (h : Hall) (t : List Nat) (c r : Nat) : h.run r (t ++ [c]) = h.go (h.run r t) c := by rw [Hall.run_app]; rfl
theorem onWay_nil {h : Hall} {x : Nat} : OnWay h [] x ↔ x = 0 := by
  constructor
  · rintro ⟨u, v, e, _, b⟩
    obtain ⟨rfl, rfl⟩ := List.append_eq_nil_iff.mp e.symm
    exact b.symm
  · rintro rfl; exact ⟨[], [], rfl, Star.nil, rfl⟩
theorem star_snoc {h : Hall} {t : List Nat} {c : Nat} : Star (Good h) (t ++ [c]) ↔ ∃ r, OnWay h t r ∧ h.lit (h.go r c) = 1 := by
  constructor
  · intro s
    obtain ⟨u, v, e, su, gv, nv⟩ := s.last (by simp)
    rcases snoc_cases v with rfl | ⟨v', d, rfl⟩
    · exact absurd rfl nv
    · rw [← List.append_assoc] at e
      obtain ⟨rfl, e2⟩ := List.append_inj' e rfl
      obtain rfl : c = d := by simpa using e2
      refine ⟨_, ⟨u, v', rfl, su, rfl⟩, ?_⟩
      have : h.lit (h.run 0 (v' ++ [c])) = 1 := gv
      rwa [run_snoc'] at this
  · rintro ⟨r, ⟨u, v, rfl, su, e⟩, l⟩
    rw [List.append_assoc]
    refine Star.app su ?_
    show h.lit (h.run 0 (v ++ [c])) = 1
    rw [run_snoc', e]; exact l
theorem onWay_snoc {h : Hall} {t : List Nat} {c x : Nat} : OnWay h (t ++ [c]) x ↔ (∃ r, OnWay h t r ∧ h.go r c = x) ∨ (Star (Good h) (t ++ [c]) ∧ x = 0) := by
  constructor
  · rintro ⟨u, v, e, a, b⟩
    rcases snoc_cases v with rfl | ⟨v', d, rfl⟩
    · right
      rw [List.append_nil] at e
      exact ⟨by rw [e]; exact a, b.symm⟩
    · left
      rw [← List.append_assoc] at e
      obtain ⟨rfl, e2⟩ := List.append_inj' e rfl
      obtain rfl : c = d := by simpa using e2
      refine ⟨h.run 0 v', ⟨u, v', rfl, a, rfl⟩, ?_⟩
      rw [run_snoc'] at b
      exact b
  · rintro (⟨r, ⟨u, v, rfl, a, b⟩, e⟩ | ⟨a, rfl⟩)
    · refine ⟨u, v ++ [c], by simp, a, ?_⟩
      rw [run_snoc', b]; exact e
    · exact ⟨t ++ [c], [], by simp, a, rfl⟩
theorem star_bright {h : Hall} {t : List Nat} : Star (Good h) t ↔ t = [] ∨ ∃ x, OnWay h t x ∧ h.lit x = 1 := by
  constructor
  · intro s
    by_cases e : t = []
    · exact .inl e
    · obtain ⟨u, v, rfl, su, gv, _⟩ := s.last e
      exact .inr ⟨_, ⟨u, v, rfl, su, rfl⟩, gv⟩
  · rintro (rfl | ⟨x, ⟨u, v, rfl, su, rfl⟩, l⟩)
    · exact Star.nil
    · exact Star.app su l
/-! ### the ends up to which a tune is cut -/
open Classical in
noncomputable def endsL (G : List Nat → Prop) (t : List Nat) (e : Nat) : List Nat := (List.range (e + 1)).filter fun j => decide (Star G (t.take j))
theorem mem_endsL {G : List Nat → Prop} {t : List Nat} {e j : Nat} : j ∈ endsL G t e ↔ j ≤ e ∧ Star G (t.take j) := by
  unfold endsL
  simp only [List.mem_filter, List.mem_range, decide_eq_true_eq]
  constructor <;> (rintro ⟨a, b⟩; exact ⟨by omega, b⟩)
theorem endsL_zero {G : List Nat → Prop} {t : List Nat} : endsL G t 0 = [0] := by
  unfold endsL
  simp [Star.nil]
theorem endsL_succ {G : List Nat → Prop} {t : List Nat} {e : Nat} [Decidable (Star G (t.take (e + 1)))] : endsL G t (e + 1) = endsL G t e ++ (if Star G (t.take (e + 1)) then [e + 1] else []) := by
  unfold endsL
  rw [List.range_succ, List.filter_append]
  congr 1
  by_cases c : Star G (t.take (e + 1)) <;> simp [c]
theorem endsL_len {G : List Nat → Prop} {t : List Nat} {e : Nat} : (endsL G t e).length ≤ e + 1 := by
  unfold endsL
  exact Nat.le_trans (List.length_filter_le _ _) (by simp)
/-- an end is good just if from a good one before it a good tune leads to it -/
theorem star_take {G : List Nat → Prop} {t : List Nat} {e : Nat} (he : e + 1 ≤ t.length) : Star G (t.take (e + 1)) ↔ ∃ k ∈ endsL G t e, G ((t.take (e + 1)).drop k) := by
  constructor
  · intro s
    obtain ⟨u, v, eq, su, gv, nv⟩ := s.last (fun z => by have := congrArg List.length z; rw [List.length_take, List.length_nil] at this; omega)
    have hl := congrArg List.length eq
    rw [List.length_take, List.length_append, Nat.min_eq_left he] at hl
    have hv : 0 < v.length := List.length_pos_iff.mpr nv
    refine ⟨u.length, mem_endsL.mpr ⟨by omega, ?_⟩, ?_⟩
    · have : t.take u.length = u := by
        have := congrArg (List.take u.length) eq
        rw [List.take_take, List.take_left, Nat.min_eq_left (by omega)] at this
        exact this
      rw [this]; exact su
    · rw [eq, List.drop_left]; exact gv
  · rintro ⟨k, hk, g⟩
    obtain ⟨h1, h2⟩ := mem_endsL.mp hk
    have e1 : t.take (e + 1) = t.take k ++ (t.take (e + 1)).drop k := by
      have := List.take_append_drop k (t.take (e + 1))
      rw [List.take_take, Nat.min_eq_left (by omega)] at this
      exact this.symm
    rw [e1]
    exact Star.app h2 g
/-- the rooms to which a tune leads from all -/
def imgL (h : Hall) (t : List Nat) : List Nat := setN h.n fun x => (List.range h.n).any fun r => decide (h.run r t = x)
theorem mem_imgL {h : Hall} (o : h.Ok) {t : List Nat} (ht : Val h.w t) {x : Nat} : x ∈ imgL h t ↔ ∃ r, r < h.n ∧ h.run r t = x := by
  unfold imgL
  rw [mem_setN]
  simp only [List.any_eq_true, List.mem_range, decide_eq_true_eq]
  constructor
  · rintro ⟨_, r, a, b⟩; exact ⟨r, a, b⟩
  · rintro ⟨r, a, b⟩; exact ⟨by rw [← b]; exact o.run_lt a ht, r, a, b⟩
def gath (h : Hall) (t : List Nat) : Bool := decide ((imgL h t).length = 1)
theorem setN_ext {n : Nat} {p q : Nat → Bool} (h : ∀ x, x ∈ setN n p ↔ x ∈ setN n q) : setN n p = setN n q := setN_congr fun x hx => by
  have := h x
  rw [mem_setN, mem_setN] at this
  cases e : p x <;> cases e' : q x <;> simp_all
theorem img_nil {h : Hall} : imgL h [] = List.range h.n := by
  unfold imgL setN
  refine List.filter_eq_self.mpr fun x hx => ?_
  rw [List.any_eq_true]
  exact ⟨x, hx, by simp [Hall.run]⟩
theorem img_snoc {h : Hall} (o : h.Ok) {t : List Nat} {c : Nat} (ht : Val h.w t) (hc : c < h.w) : goalsL h (imgL h t) c = imgL h (t ++ [c]) := by
  refine setN_ext fun x => ?_
  show x ∈ goalsL h (imgL h t) c ↔ x ∈ imgL h (t ++ [c])
  rw [mem_goalsL o (show ∀ r ∈ imgL h t, r < h.n from fun r hr => (mem_setN.mp hr).1) hc, mem_imgL o (ht.snoc hc)]
  simp only [mem_imgL o ht]
  constructor
  · rintro ⟨_, ⟨r, a, rfl⟩, b⟩; exact ⟨r, a, by rw [Hall.run_app]; exact b⟩
  · rintro ⟨r, a, b⟩; exact ⟨_, ⟨r, a, rfl⟩, by rw [Hall.run_app] at b; exact b⟩
theorem nodup_len_eq {α : Type} [DecidableEq α] {l m : List α} (nl : l.Nodup) (nm : m.Nodup) (h : ∀ x, x ∈ l ↔ x ∈ m) : l.length = m.length :=
  Nat.le_antisymm (nodup_sub_len l m nl fun a ha => (h a).mp ha) (nodup_sub_len m l nm fun a ha => (h a).mpr ha)
theorem asc_nodup {l : List Nat} (h : l.Pairwise (· < ·)) : l.Nodup := h.imp fun {a b} z => by omega
/-! ### patterns: their signs, and how they are read -/
inductive Pa where
  | sg (c : Nat)
  | star (p : Pa)
  | cat (p q : Pa)
  | alt (p q : Pa)
def Pa.post : Pa → List Nat
  | .sg c => [c]
  | .star p => p.post ++ [42]
  | .cat p q => p.post ++ q.post ++ [38]
  | .alt p q => p.post ++ q.post ++ [124]
def LSg (c : Nat) (w : List Nat) : Prop := if c = 33 then False else if c = 46 then w = [] else w = [c]
def LCat (L M : List Nat → Prop) (w : List Nat) : Prop := ∃ u v, w = u ++ v ∧ L u ∧ M v
def Pa.Lang : Pa → List Nat → Prop
  | .sg c => LSg c
  | .star p => Star p.Lang
  | .cat p q => LCat p.Lang q.Lang
  | .alt p q => fun w => p.Lang w ∨ q.Lang w
/-! the signs with & between -/
def jsep (p c : Nat) : Bool := ![42, 124, 41].contains c && ![40, 124].contains p
def jtok (p : Option Nat) (c : Nat) : List Nat := match p with
  | none => [c]
  | some p => if jsep p c = true then [38, c] else [c]
def jgo : Option Nat → List Nat → List Nat
  | _, [] => []
  | p, c :: l => jtok p c ++ jgo (some c) l
def jointsL (l : List Nat) : List Nat := jgo none l
theorem jgo_snoc (c : Nat) : ∀ (l : List Nat) (p : Option Nat), jgo p (l ++ [c]) = jgo p l ++ jtok (match l.getLast? with | none => p | some d => some d) c
  | [], p => by simp [jgo]
  | d :: l, p => by
    rw [List.cons_append, jgo, jgo, jgo_snoc c l (some d), List.append_assoc]
    cases l with
    | nil => rfl
    | cons e l =>
      rw [List.getLast?_cons_cons]
      cases q : (e :: l).getLast? with
      | none => simp at q
      | some z => rfl
theorem joints_snoc (l : List Nat) (c : Nat) : jointsL (l ++ [c]) = jointsL l ++ jtok l.getLast? c := by
  unfold jointsL
  rw [jgo_snoc]
  cases l.getLast? <;> rfl
theorem jtok_len (p : Option Nat) (c : Nat) : (jtok p c).length ≤ 2 := by
  unfold jtok
  split
  · simp
  · split <;> simp
theorem jgo_len : ∀ (l : List Nat) (p : Option Nat), (jgo p l).length ≤ 2 * l.length
  | [], p => by simp [jgo]
  | c :: l, p => by
    have h1 := jgo_len l (some c)
    have h2 := jtok_len p c
    rw [jgo, List.length_append, List.length_cons]
    omega
/-! in the order in which they are worked out -/
def strN (c : Nat) : Nat := if c = 124 then 1 else if c = 38 then 2 else if c = 42 then 3 else 0
def isOp (c : Nat) : Bool := [124, 38, 42].contains c
def popTo : List Nat → List Nat × List Nat
  | [] => ([], [])
  | c :: h => if c = 40 then ([], c :: h) else (c :: (popTo h).1, (popTo h).2)
def popGe (s : Nat) : List Nat → List Nat × List Nat
  | [] => ([], [])
  | c :: h => if c ≠ 40 ∧ s ≤ strN c then (c :: (popGe s h).1, (popGe s h).2) else ([], c :: h)
abbrev SY := List Nat × List Nat
def syStep (q : SY) (c : Nat) : SY :=
  if c = 40 then (q.1, 40 :: q.2)
  else if c = 41 then (q.1 ++ (popTo q.2).1, (popTo q.2).2.tail)
  else if isOp c = true then (q.1 ++ (popGe (strN c) q.2).1, c :: (popGe (strN c) q.2).2)
  else (q.1 ++ [c], q.2)
def syRun (l : List Nat) : SY := l.foldl syStep ([], [])
def rpnL (l : List Nat) : List Nat := (syRun (jointsL l)).1 ++ (syRun (jointsL l)).2
/-- each bracket that shuts has one that is open -/
def SyOk (t : List Nat) : Prop := ∀ i, t[i]? = some 41 → 40 ∈ (syRun (t.take i)).2
/-! frames: one for each bracket that is open -/
structure Frm where
  al : Option Pa
  ca : Option Pa
  cu : Option (Pa × Bool)
def f0 : Frm := ⟨none, none, none⟩
def oPost : Option Pa → List Nat
  | none => []
  | some p => p.post
def curPost : Option (Pa × Bool) → List Nat
  | none => []
  | some (p, _) => p.post
def Frm.post (f : Frm) : List Nat := oPost f.al ++ oPost f.ca ++ curPost f.cu
def Frm.held (f : Frm) : List Nat := (match f.cu with | some (_, true) => [42] | _ => []) ++ (match f.ca with | some _ => [38] | none => []) ++ (match f.al with | some _ => [124] | none => [])
def fsPost : List Frm → List Nat
  | [] => []
  | f :: fs => fsPost fs ++ f.post
def fsHeld : List Frm → List Nat
  | [] => []
  | [f] => f.held
  | f :: fs => f.held ++ 40 :: fsHeld fs
def clo (x : Pa × Bool) : Pa := if x.2 = true then .star x.1 else x.1
def withCat : Option Pa → Pa → Pa
  | none, x => x
  | some c, x => .cat c x
def withAlt : Option Pa → Pa → Pa
  | none, x => x
  | some c, x => .alt c x
def amp (f : Frm) : Frm := match f.cu with
  | none => f
  | some x => ⟨f.al, some (withCat f.ca (clo x)), none⟩
def mstep : List Frm → Nat → Option (List Frm)
  | [], _ => none
  | f :: fs, c =>
    if c = 42 then match f.cu with
      | none => none
      | some x => some (⟨f.al, f.ca, some (clo x, true)⟩ :: fs)
    else if c = 124 then match f.cu with
      | none => none
      | some x => some (⟨some (withAlt f.al (withCat f.ca (clo x))), none, none⟩ :: fs)
    else if c = 41 then match f.cu, fs with
      | some x, g :: fs => some (⟨g.al, g.ca, some (withAlt f.al (withCat f.ca (clo x)), false)⟩ :: fs)
      | _, _ => none
    else if c = 40 then some (f0 :: amp f :: fs)
    else some (⟨(amp f).al, (amp f).ca, some (.sg c, false)⟩ :: fs)
def mrun : List Frm → List Nat → Option (List Frm)
  | fs, [] => some fs
  | fs, c :: l => (mstep fs c).bind fun gs => mrun gs l
theorem mrun_app : ∀ (l m : List Nat) (fs : List Frm), mrun fs (l ++ m) = (mrun fs l).bind fun gs => mrun gs m
  | [], m, fs => rfl
  | c :: l, m, fs => by
    rw [List.cons_append, mrun, mrun, Option.bind_assoc]
    congr 1
    funext gs
    exact mrun_app l m gs
def parse (l : List Nat) : Option Pa := match mrun [f0] l with
  | some [f] => f.cu.map fun x => withAlt f.al (withCat f.ca (clo x))
  | _ => none
/-! the machine of the two stacks goes along -/
theorem fsHeld_cons (f : Frm) (fs : List Frm) : ∃ r, fsHeld (f :: fs) = f.held ++ r ∧ (r = [] ∨ ∃ r', r = 40 :: r') := by
  cases fs with
  | nil => exact ⟨[], by simp [fsHeld], .inl rfl⟩
  | cons g fs => exact ⟨_, by rw [fsHeld]; simp, .inr ⟨_, rfl⟩⟩
theorem fsHeld_swap {f g : Frm} {fs : List Frm} {r : List Nat} (e : fsHeld (f :: fs) = f.held ++ r) : fsHeld (g :: fs) = g.held ++ r := by
  cases fs with
  | nil =>
    have : r = [] := by simpa [fsHeld] using e
    subst this; simp [fsHeld]
  | cons h fs =>
    rw [fsHeld] at e
    have := List.append_cancel_left e
    rw [fsHeld, this]
    · simp
    · simp
theorem popGe_stop {s : Nat} {r : List Nat} (h : r = [] ∨ ∃ r', r = 40 :: r') : popGe s r = ([], r) := by
  rcases h with rfl | ⟨r', rfl⟩
  · rfl
  · rw [popGe, if_neg (by simp)]
theorem popTo_stop {r : List Nat} : popTo (40 :: r) = ([], 40 :: r) := by rw [popTo, if_pos rfl]
theorem clo_post (x : Pa × Bool) : (clo x).post = x.1.post ++ (match x with | (_, true) => [42] | _ => []) := by
  obtain ⟨p, b⟩ := x
  cases b <;> simp [clo, Pa.post]
theorem cur_held (x : Pa × Bool) : (match some x with | some (_, true) => [42] | _ => ([] : List Nat)) = (match x with | (_, true) => [42] | _ => []) := by
  obtain ⟨p, b⟩ := x
  cases b <;> rfl
/-- what is held within a frame is popped for a joint -/
theorem pop_amp {f : Frm} {x : Pa × Bool} {r : List Nat} (hc : f.cu = some x) (hr : r = [] ∨ ∃ r', r = 40 :: r') : oPost f.al ++ oPost f.ca ++ x.1.post ++ (popGe 2 (f.held ++ r)).1 = (amp f).post ∧ 38 :: (popGe 2 (f.held ++ r)).2 = (amp f).held ++ r := by
  obtain ⟨al, ca, cu⟩ := f
  have hc : cu = some x := hc
  subst hc
  obtain ⟨p, b⟩ := x
  cases b <;> cases ca <;> cases al <;> simp [amp, Frm.post, Frm.held, popGe, strN, popGe_stop hr, clo, withCat, oPost, curPost, Pa.post]
theorem pop_star {f : Frm} {x : Pa × Bool} {r : List Nat} (hc : f.cu = some x) (hr : r = [] ∨ ∃ r', r = 40 :: r') : f.post ++ (popGe 3 (f.held ++ r)).1 = (Frm.mk f.al f.ca (some (clo x, true))).post ∧ 42 :: (popGe 3 (f.held ++ r)).2 = (Frm.mk f.al f.ca (some (clo x, true))).held ++ r := by
  obtain ⟨al, ca, cu⟩ := f
  have hc : cu = some x := hc
  subst hc
  obtain ⟨p, b⟩ := x
  cases b <;> cases ca <;> cases al <;> simp [Frm.post, Frm.held, popGe, strN, popGe_stop hr, clo, withCat, oPost, curPost, Pa.post]
theorem pop_alt {f : Frm} {x : Pa × Bool} {r : List Nat} (hc : f.cu = some x) (hr : r = [] ∨ ∃ r', r = 40 :: r') : f.post ++ (popGe 1 (f.held ++ r)).1 = (Frm.mk (some (withAlt f.al (withCat f.ca (clo x)))) none none).post ∧ 124 :: (popGe 1 (f.held ++ r)).2 = (Frm.mk (some (withAlt f.al (withCat f.ca (clo x)))) none none).held ++ r := by
  obtain ⟨al, ca, cu⟩ := f
  have hc : cu = some x := hc
  subst hc
  obtain ⟨p, b⟩ := x
  cases b <;> cases ca <;> cases al <;> simp [Frm.post, Frm.held, popGe, strN, popGe_stop hr, clo, withCat, withAlt, oPost, curPost, Pa.post]
theorem pop_shut {f : Frm} {x : Pa × Bool} {r : List Nat} (hc : f.cu = some x) : f.post ++ (popTo (f.held ++ 40 :: r)).1 = (withAlt f.al (withCat f.ca (clo x))).post ∧ (popTo (f.held ++ 40 :: r)).2 = 40 :: r := by
  obtain ⟨al, ca, cu⟩ := f
  have hc : cu = some x := hc
  subst hc
  obtain ⟨p, b⟩ := x
  cases b <;> cases ca <;> cases al <;> simp [Frm.post, Frm.held, popTo, clo, withCat, withAlt, oPost, curPost, Pa.post]
theorem all_post {f : Frm} {x : Pa × Bool} (hc : f.cu = some x) : f.post ++ f.held = (withAlt f.al (withCat f.ca (clo x))).post := by
  obtain ⟨al, ca, cu⟩ := f
  have hc : cu = some x := hc
  subst hc
  obtain ⟨p, b⟩ := x
  cases b <;> cases ca <;> cases al <;> simp [Frm.post, Frm.held, clo, withCat, withAlt, oPost, curPost, Pa.post]
/-- the frames below the first wait -/
def Wait : List Frm → Prop
  | [] => False
  | _ :: fs => ∀ g ∈ fs, g.cu = none
/-- whether something stands ahead that a joint may follow -/
def Ahead (fs : List Frm) (p : Option Nat) : Prop := ∃ f r, fs = f :: r ∧ (f.cu.isSome = true ↔ ∃ d, p = some d ∧ [40, 124].contains d = false)
theorem amp_post {f : Frm} : (amp f).cu = none := by
  unfold amp
  split
  · assumption
  · rfl
theorem go_along {fs gs : List Frm} {p : Option Nat} {c : Nat} (hc : c ≠ 38) (W : Wait fs) (A : Ahead fs p) (e : mstep fs c = some gs) :
    (jtok p c).foldl syStep (fsPost fs, fsHeld fs) = (fsPost gs, fsHeld gs) ∧ Wait gs ∧ Ahead gs (some c) ∧ (c = 41 → jtok p c = [41] ∧ 40 ∈ fsHeld fs) := by
  obtain ⟨f, fs, rfl, hA⟩ := A
  obtain ⟨r, er, hr⟩ := fsHeld_cons f fs
  have W : ∀ g ∈ fs, g.cu = none := W
  unfold mstep at e
  dsimp only at e
  by_cases h1 : c = 42
  · subst h1
    rw [if_pos rfl] at e
    cases hx : f.cu with
    | none => rw [hx] at e; cases e
    | some x =>
      rw [hx] at e
      cases e
      have jt : jtok p 42 = [42] := by unfold jtok; cases p <;> simp [jsep]
      obtain ⟨a, b⟩ := pop_star hx hr
      refine ⟨?_, W, ⟨_, _, rfl, by simp⟩, fun z => by cases z⟩
      rw [jt, List.foldl_cons, List.foldl_nil]
      unfold syStep
      rw [if_neg (by decide), if_neg (by decide), if_pos (by decide), er]
      dsimp only
      rw [show strN 42 = 3 from rfl, b, fsHeld_swap er, fsPost, fsPost, List.append_assoc, a]
  rw [if_neg h1] at e
  by_cases h2 : c = 124
  · subst h2
    rw [if_pos rfl] at e
    cases hx : f.cu with
    | none => rw [hx] at e; cases e
    | some x =>
      rw [hx] at e
      cases e
      have jt : jtok p 124 = [124] := by unfold jtok; cases p <;> simp [jsep]
      obtain ⟨a, b⟩ := pop_alt hx hr
      refine ⟨?_, W, ⟨_, _, rfl, by simp⟩, fun z => by cases z⟩
      rw [jt, List.foldl_cons, List.foldl_nil]
      unfold syStep
      rw [if_neg (by decide), if_neg (by decide), if_pos (by decide), er]
      dsimp only
      rw [show strN 124 = 1 from rfl, b, fsHeld_swap er, fsPost, fsPost, List.append_assoc, a]
  rw [if_neg h2] at e
  by_cases h3 : c = 41
  · subst h3
    rw [if_pos rfl] at e
    cases hx : f.cu with
    | none => rw [hx] at e; cases e
    | some x =>
      rw [hx] at e
      cases fs with
      | nil => cases e
      | cons g fs =>
        cases e
        have jt : jtok p 41 = [41] := by unfold jtok; cases p <;> simp [jsep]
        have eh : fsHeld (f :: g :: fs) = f.held ++ 40 :: fsHeld (g :: fs) := by rw [fsHeld]; simp
        obtain ⟨a, b⟩ := pop_shut (r := fsHeld (g :: fs)) hx
        have hg := W g (by simp)
        refine ⟨?_, fun k hk => W k (by simp [hk]), ⟨_, _, rfl, by simp⟩, fun _ => ⟨jt, by rw [eh]; simp⟩⟩
        rw [jt, List.foldl_cons, List.foldl_nil]
        unfold syStep
        rw [if_neg (by decide), if_pos rfl, eh]
        dsimp only
        rw [b, fsPost, fsPost, fsPost, List.append_assoc, a]
        obtain ⟨r2, er2, _⟩ := fsHeld_cons g fs
        rw [List.tail_cons, er2, fsHeld_swap er2]
        simp [Frm.post, Frm.held, hg, curPost]
  rw [if_neg h3] at e
  -- an operand, or a bracket that opens: a joint ahead of it, if need be
  have jt : jtok p c = (if f.cu.isSome = true then [38, c] else [c]) := by
    unfold jtok
    cases p with
    | none =>
      have : f.cu.isSome = false := by
        cases q : f.cu.isSome with
        | false => rfl
        | true => obtain ⟨_, z, _⟩ := hA.mp q; cases z
      rw [this]; rfl
    | some d =>
      dsimp only
      by_cases q : f.cu.isSome = true
      · obtain ⟨d', z, zz⟩ := hA.mp q
        cases z
        rw [if_pos q, if_pos]
        unfold jsep
        rw [zz]
        simp [h1, h2, h3]
      · rw [if_neg q, if_neg]
        intro z
        apply q
        refine hA.mpr ⟨d, rfl, ?_⟩
        unfold jsep at z
        simp only [Bool.and_eq_true, Bool.not_eq_true'] at z
        exact z.2
  have joint : (jtok p c).foldl syStep (fsPost (f :: fs), fsHeld (f :: fs)) = syStep (fsPost (amp f :: fs), fsHeld (amp f :: fs)) c := by
    rw [jt]
    cases hx : f.cu with
    | none =>
      have : amp f = f := by unfold amp; rw [hx]
      rw [this]; rfl
    | some x =>
      obtain ⟨a, b⟩ := pop_amp hx hr
      rw [if_pos (show (some x).isSome = true from rfl), List.foldl_cons, List.foldl_cons, List.foldl_nil]
      congr 1
      conv => lhs; unfold syStep
      rw [if_neg (by decide), if_neg (by decide), if_pos (by decide), er]
      dsimp only
      rw [show strN 38 = 2 from rfl, b, fsHeld_swap er, fsPost, fsPost, List.append_assoc]
      congr 2
      rw [← a, Frm.post, hx]
      rfl
  by_cases h4 : c = 40
  · subst h4
    rw [if_pos rfl] at e
    cases e
    refine ⟨?_, ?_, ⟨_, _, rfl, by simp [f0]⟩, fun z => by cases z⟩
    · rw [joint]
      unfold syStep
      rw [if_pos rfl]
      simp [fsPost, fsHeld, f0, Frm.post, Frm.held, oPost, curPost]
    · intro g hg
      rcases List.mem_cons.mp hg with rfl | hg
      · exact amp_post
      · exact W g hg
  rw [if_neg h4] at e
  cases e
  refine ⟨?_, W, ⟨_, _, rfl, by simp [h4, h2]⟩, fun z => absurd z h3⟩
  rw [joint]
  obtain ⟨r2, er2, hr2⟩ := fsHeld_cons (amp f) fs
  have nop : isOp c = false := by unfold isOp; simp [h1, h2, hc]
  unfold syStep
  rw [if_neg h4, if_neg h3, if_neg (by rw [nop]; decide), er2, fsHeld_swap er2]
  have := amp_post (f := f)
  simp [fsPost, Frm.post, Frm.held, this, curPost, Pa.post]
theorem along {l : List Nat} : ∀ {fs gs : List Frm} {p : Option Nat}, (∀ c ∈ l, c ≠ 38) → Wait fs → Ahead fs p → mrun fs l = some gs →
    (jgo p l).foldl syStep (fsPost fs, fsHeld fs) = (fsPost gs, fsHeld gs) ∧ Wait gs ∧ ∀ i, (jgo p l)[i]? = some 41 → 40 ∈ (((jgo p l).take i).foldl syStep (fsPost fs, fsHeld fs)).2 := by
  induction l with
  | nil =>
    intro fs gs p _ W A e
    cases e
    exact ⟨rfl, W, fun i z => by simp [jgo] at z⟩
  | cons c l ih =>
    intro fs gs p h W A e
    rw [mrun] at e
    cases q : mstep fs c with
    | none => rw [q] at e; cases e
    | some fs1 =>
      rw [q] at e
      obtain ⟨a1, a2, a3, a4⟩ := go_along (h c (by simp)) W A q
      obtain ⟨b1, b2, b3⟩ := ih (fun d hd => h d (by simp [hd])) a2 a3 e
      refine ⟨?_, b2, fun i z => ?_⟩
      · rw [jgo, List.foldl_append, a1]; exact b1
      · rw [jgo] at z ⊢
        by_cases hi : i < (jtok p c).length
        · rw [List.getElem?_append_left hi] at z
          rw [List.take_append_of_le_length (Nat.le_of_lt hi)]
          by_cases hc : c = 41
          · obtain ⟨j1, j2⟩ := a4 hc
            rw [j1] at hi ⊢
            have : i = 0 := by simpa using hi
            subst this
            exact j2
          · exfalso
            have hm := List.mem_of_getElem? z
            unfold jtok at hm
            split at hm
            · simp at hm; exact hc hm.symm
            · split at hm
              · simp at hm; exact hc hm.symm
              · simp at hm; exact hc hm.symm
        · rw [List.getElem?_append_right (Nat.le_of_not_lt hi)] at z
          rw [List.take_append, List.take_of_length_le (Nat.le_of_not_lt hi), List.foldl_append, a1]
          exact b3 _ z
theorem parse_rpn {l : List Nat} {p : Pa} (h : ∀ c ∈ l, c ≠ 38) (e : parse l = some p) : rpnL l = p.post ∧ SyOk (jointsL l) := by
  unfold parse at e
  cases q : mrun [f0] l with
  | none => rw [q] at e; cases e
  | some gs =>
    rw [q] at e
    obtain ⟨a, b, c⟩ := along (p := none) h (fs := [f0]) (show ∀ g ∈ ([] : List Frm), g.cu = none from fun g hg => by simp at hg) ⟨f0, [], rfl, by simp [f0]⟩ q
    refine ⟨?_, c⟩
    match gs, e with
    | [f], e =>
      dsimp only at e
      cases hx : f.cu with
      | none => rw [hx] at e; cases e
      | some x =>
        rw [hx] at e
        cases e
        have a : syRun (jointsL l) = (fsPost [f], fsHeld [f]) := a
        unfold rpnL
        rw [a]
        simp only [fsPost, fsHeld, List.nil_append]
        exact all_post hx
    | [], e => cases e
    | _ :: _ :: _, e => cases e
/-! ### texts and the tunes that they tell -/
theorem amp_none {f : Frm} (h : f.cu = none) : amp f = f := by unfold amp; rw [h]
theorem amp_amp (f : Frm) : amp (amp f) = amp f := amp_none amp_post
def isStart (c : Nat) : Bool := ![42, 124, 41, 38].contains c
theorem start_ne {c : Nat} (h : isStart c = true) : c ≠ 42 ∧ c ≠ 124 ∧ c ≠ 41 ∧ c ≠ 38 := by
  unfold isStart at h
  simp at h
  exact h
theorem mstep_amp {f : Frm} {fs : List Frm} {c : Nat} (h : isStart c = true) : mstep (f :: fs) c = mstep (amp f :: fs) c := by
  obtain ⟨a, b, d, _⟩ := start_ne h
  simp only [mstep, if_neg a, if_neg b, if_neg d, amp_amp]
/-- begins with an operand or a bracket that opens -/
def Starts (t : List Nat) : Prop := ∃ c l, t = c :: l ∧ isStart c = true
theorem mrun_amp {f : Frm} {fs : List Frm} {t : List Nat} (h : Starts t) : mrun (f :: fs) t = mrun (amp f :: fs) t := by
  obtain ⟨c, l, rfl, h⟩ := h
  rw [mrun, mrun, mstep_amp h]
def OCat (o : Option Pa) (L : List Nat → Prop) : List Nat → Prop := match o with
  | none => L
  | some c => LCat c.Lang L
def OAlt (o : Option Pa) (L : List Nat → Prop) : List Nat → Prop := match o with
  | none => L
  | some c => fun w => c.Lang w ∨ L w
theorem LCat.congr {L L' M M' : List Nat → Prop} (h : ∀ w, L w ↔ L' w) (k : ∀ w, M w ↔ M' w) (w : List Nat) : LCat L M w ↔ LCat L' M' w := by
  constructor
  · rintro ⟨u, v, e, a, b⟩; exact ⟨u, v, e, (h u).mp a, (k v).mp b⟩
  · rintro ⟨u, v, e, a, b⟩; exact ⟨u, v, e, (h u).mpr a, (k v).mpr b⟩
theorem LCat.assoc {L M N : List Nat → Prop} (w : List Nat) : LCat (LCat L M) N w ↔ LCat L (LCat M N) w := by
  constructor
  · rintro ⟨u, v, e, ⟨a, b, e2, h1, h2⟩, h3⟩; exact ⟨a, b ++ v, by rw [e, e2, List.append_assoc], h1, b, v, rfl, h2, h3⟩
  · rintro ⟨u, v, e, h1, ⟨a, b, e2, h2, h3⟩⟩; exact ⟨u ++ a, b, by rw [e, e2, List.append_assoc], ⟨u, a, rfl, h1, h2⟩, h3⟩
theorem OCat.congr {o : Option Pa} {L L' : List Nat → Prop} (h : ∀ w, L w ↔ L' w) (w : List Nat) : OCat o L w ↔ OCat o L' w := by
  cases o with
  | none => exact h w
  | some c => exact LCat.congr (fun _ => Iff.rfl) h w
theorem OAlt.congr {o : Option Pa} {L L' : List Nat → Prop} (h : ∀ w, L w ↔ L' w) (w : List Nat) : OAlt o L w ↔ OAlt o L' w := by
  cases o with
  | none => exact h w
  | some c => exact or_congr Iff.rfl (h w)
theorem lang_cat (o : Option Pa) (x : Pa) : (withCat o x).Lang = OCat o x.Lang := by cases o <;> rfl
theorem lang_alt (o : Option Pa) (x : Pa) : (withAlt o x).Lang = OAlt o x.Lang := by cases o <;> rfl
structure AtomT (t : List Nat) (L : List Nat → Prop) : Prop where
  st : Starts t
  run : ∀ f fs, f.cu = none → ∃ x : Pa × Bool, mrun (f :: fs) t = some (⟨f.al, f.ca, some x⟩ :: fs) ∧ ∀ w, (clo x).Lang w ↔ L w
structure CatT (t : List Nat) (L : List Nat → Prop) : Prop where
  st : Starts t
  run : ∀ f fs, f.cu = none → ∃ (c : Option Pa) (x : Pa × Bool), mrun (f :: fs) t = some (⟨f.al, c, some x⟩ :: fs) ∧ ∀ w, (withCat c (clo x)).Lang w ↔ OCat f.ca L w
structure AltT (t : List Nat) (L : List Nat → Prop) : Prop where
  st : Starts t
  run : ∀ f fs, f.cu = none → f.ca = none → ∃ (a c : Option Pa) (x : Pa × Bool), mrun (f :: fs) t = some (⟨a, c, some x⟩ :: fs) ∧ ∀ w, (withAlt a (withCat c (clo x))).Lang w ↔ OAlt f.al L w
theorem AtomT.cat {t : List Nat} {L : List Nat → Prop} (h : AtomT t L) : CatT t L := ⟨h.st, fun f fs hf => by
  obtain ⟨x, e, hx⟩ := h.run f fs hf
  refine ⟨f.ca, x, e, fun w => ?_⟩
  rw [lang_cat]
  exact OCat.congr hx w⟩
theorem CatT.alt {t : List Nat} {L : List Nat → Prop} (h : CatT t L) : AltT t L := ⟨h.st, fun f fs hf hc => by
  obtain ⟨c, x, e, hx⟩ := h.run f fs hf
  rw [hc] at hx
  refine ⟨f.al, c, x, e, fun w => ?_⟩
  rw [lang_alt]
  exact OAlt.congr hx w⟩
theorem Starts.app {t u : List Nat} (h : Starts t) : Starts (t ++ u) := by
  obtain ⟨c, l, rfl, h⟩ := h
  exact ⟨c, l ++ u, rfl, h⟩
theorem CatT.app {t u : List Nat} {L M : List Nat → Prop} (h : CatT t L) (k : CatT u M) : CatT (t ++ u) (LCat L M) := ⟨h.st.app, fun f fs hf => by
  obtain ⟨c, x, e, hx⟩ := h.run f fs hf
  obtain ⟨c2, y, e2, hy⟩ := k.run (amp ⟨f.al, c, some x⟩) fs amp_post
  refine ⟨c2, y, ?_, fun w => ?_⟩
  · rw [mrun_app, e]
    show mrun _ u = _
    rw [mrun_amp k.st, e2]
    rfl
  · rw [hy]
    show LCat (withCat c (clo x)).Lang M w ↔ _
    rw [LCat.congr (hx) (fun _ => Iff.rfl) w]
    cases f.ca with
    | none => exact Iff.rfl
    | some c => exact LCat.assoc w⟩
theorem AltT.bar {t u : List Nat} {L M : List Nat → Prop} (h : AltT t L) (k : AltT u M) : AltT (t ++ 124 :: u) (fun w => L w ∨ M w) := ⟨h.st.app, fun f fs hf hc => by
  obtain ⟨a, c, x, e, hx⟩ := h.run f fs hf hc
  obtain ⟨a2, c2, y, e2, hy⟩ := k.run ⟨some (withAlt a (withCat c (clo x))), none, none⟩ fs rfl rfl
  refine ⟨a2, c2, y, ?_, fun w => ?_⟩
  · rw [mrun_app, e]
    show mrun (⟨a, c, some x⟩ :: fs) (124 :: u) = _
    rw [mrun]
    exact e2
  · rw [hy]
    show (withAlt a (withCat c (clo x))).Lang w ∨ M w ↔ _
    rw [hx w]
    cases f.al with
    | none => exact Iff.rfl
    | some c => exact or_assoc⟩
theorem AltT.brack {t : List Nat} {L : List Nat → Prop} (h : AltT t L) : AtomT (40 :: (t ++ [41])) L := ⟨⟨40, _, rfl, by decide⟩, fun f fs hf => by
  obtain ⟨a, c, x, e, hx⟩ := h.run f0 (amp f :: fs) rfl rfl
  refine ⟨(withAlt a (withCat c (clo x)), false), ?_, fun w => hx w⟩
  rw [mrun]
  show mrun (f0 :: amp f :: fs) (t ++ [41]) = _
  rw [mrun_app, e]
  show some _ = _
  rw [amp_none hf]⟩
theorem Star.iff {G G' : List Nat → Prop} (h : ∀ w, G w ↔ G' w) (w : List Nat) : Star G w ↔ Star G' w := ⟨fun s => s.imp fun _ v _ _ g => (h v).mp g, fun s => s.imp fun _ v _ _ g => (h v).mpr g⟩
theorem AtomT.star {t : List Nat} {L : List Nat → Prop} (h : AtomT t L) : AtomT (t ++ [42]) (Star L) := ⟨h.st.app, fun f fs hf => by
  obtain ⟨x, e, hx⟩ := h.run f fs hf
  refine ⟨(clo x, true), ?_, fun w => ?_⟩
  · rw [mrun_app, e]; rfl
  · show Star (clo x).Lang w ↔ _
    exact Star.iff hx w⟩
theorem AtomT.sign {c : Nat} (h : isStart c = true) (h4 : c ≠ 40) : AtomT [c] (LSg c) := ⟨⟨c, [], rfl, h⟩, fun f fs hf => by
  obtain ⟨a, b, d, _⟩ := start_ne h
  refine ⟨(.sg c, false), ?_, fun w => Iff.rfl⟩
  rw [mrun]
  simp only [mstep, if_neg a, if_neg b, if_neg d, if_neg h4, amp_none hf]
  rfl⟩
theorem AltT.parse {t : List Nat} {L : List Nat → Prop} (h : AltT t L) : ∃ p, parse t = some p ∧ ∀ w, p.Lang w ↔ L w := by
  obtain ⟨a, c, x, e, hx⟩ := h.run f0 [] rfl rfl
  refine ⟨withAlt a (withCat c (clo x)), ?_, hx⟩
  unfold WH.parse
  rw [e]
  rfl
theorem AltT.congr {t : List Nat} {L M : List Nat → Prop} (h : AltT t L) (e : ∀ w, L w ↔ M w) : AltT t M := ⟨h.st, fun f fs a b => by
  obtain ⟨x, c, y, e1, e2⟩ := h.run f fs a b
  exact ⟨x, c, y, e1, fun w => (e2 w).trans (OAlt.congr e w)⟩⟩
theorem CatT.congr {t : List Nat} {L M : List Nat → Prop} (h : CatT t L) (e : ∀ w, L w ↔ M w) : CatT t M := ⟨h.st, fun f fs a => by
  obtain ⟨c, y, e1, e2⟩ := h.run f fs a
  exact ⟨c, y, e1, fun w => (e2 w).trans (OCat.congr e w)⟩⟩
theorem AtomT.congr {t : List Nat} {L M : List Nat → Prop} (h : AtomT t L) (e : ∀ w, L w ↔ M w) : AtomT t M := ⟨h.st, fun f fs a => by
  obtain ⟨y, e1, e2⟩ := h.run f fs a
  exact ⟨y, e1, fun w => (e2 w).trans (e w)⟩⟩
/-! the law's own texts -/
mutual
def Pa.text : Pa → Bool → List Nat
  | .sg c, _ => [c]
  | .star p, _ => p.text false ++ [42]
  | .cat p q, b => if b = true then p.inner ++ q.inner else 40 :: (p.inner ++ q.inner ++ [41])
  | .alt p q, b => if b = true then p.text true ++ 124 :: q.text true else 40 :: (p.text true ++ 124 :: q.text true ++ [41])
def Pa.inner : Pa → List Nat
  | .sg c => [c]
  | .star p => p.text false ++ [42]
  | .cat p q => p.inner ++ q.inner
  | .alt p q => 40 :: (p.text true ++ 124 :: q.text true ++ [41])
end
/-- its signs are signs of a pattern that stand for themselves -/
def Pa.Sgs (S : Nat → Prop) : Pa → Prop
  | .sg c => S c
  | .star p => p.Sgs S
  | .cat p q => p.Sgs S ∧ q.Sgs S
  | .alt p q => p.Sgs S ∧ q.Sgs S
def Own (c : Nat) : Prop := isStart c = true ∧ c ≠ 40
theorem text_ok : ∀ (p : Pa), p.Sgs Own → AtomT (p.text false) p.Lang ∧ CatT p.inner p.Lang ∧ AltT (p.text true) p.Lang
  | .sg c, h => by
    have a : AtomT [c] (LSg c) := AtomT.sign h.1 h.2
    simp only [Pa.text, Pa.inner]
    exact ⟨a, a.cat, a.cat.alt⟩
  | .star p, h => by
    obtain ⟨a, _, _⟩ := text_ok p h
    simp only [Pa.text, Pa.inner]
    exact ⟨a.star, a.star.cat, a.star.cat.alt⟩
  | .cat p q, h => by
    obtain ⟨_, b, _⟩ := text_ok p h.1
    obtain ⟨_, b', _⟩ := text_ok q h.2
    have k := b.app b'
    simp only [Pa.text, Pa.inner, if_true, if_neg (show ¬ false = true by decide)]
    exact ⟨k.alt.brack, k, k.alt⟩
  | .alt p q, h => by
    obtain ⟨_, _, b⟩ := text_ok p h.1
    obtain ⟨_, _, b'⟩ := text_ok q h.2
    have k := b.bar b'
    simp only [Pa.text, Pa.inner, if_true, if_neg (show ¬ false = true by decide)]
    exact ⟨k.brack, k.brack.cat, k⟩
theorem text_alt (p : Pa) (h : p.Sgs Own) (b : Bool) : AltT (p.text b) p.Lang := by
  cases b with
  | true => exact (text_ok p h).2.2
  | false => exact (text_ok p h).1.cat.alt
/-! ### the places of whistles in a pattern -/
def topN (l : List Nat) : Nat := l.foldr (fun a b => max (a + 1) b) 0
theorem lt_topN : ∀ {l : List Nat} {x : Nat}, x ∈ l → x < topN l
  | a :: l, x, h => by
    show x < max (a + 1) (topN l)
    rcases List.mem_cons.mp h with rfl | h
    · omega
    · have := lt_topN h; omega
/-- each once, rising -/
def srtU (l : List Nat) : List Nat := setN (topN l) fun x => decide (x ∈ l)
theorem mem_srtU {l : List Nat} {x : Nat} : x ∈ srtU l ↔ x ∈ l := by
  unfold srtU
  rw [mem_setN, decide_eq_true_iff]
  exact ⟨fun h => h.2, fun h => ⟨lt_topN h, h⟩⟩
abbrev Asc (l : List Nat) : Prop := l.Pairwise (· < ·)
theorem srtU_asc (l : List Nat) : Asc (srtU l) := setN_asc _ _
theorem asc_len' (n : Nat) : ∀ {l : List Nat} {m : Nat}, Asc l → (∀ x ∈ l, m ≤ x ∧ x < n) → l.length ≤ n - m
  | [], m, _, _ => Nat.zero_le _
  | a :: l, m, h, k => by
    obtain ⟨h1, h2⟩ := List.pairwise_cons.mp h
    have ha := k a (by simp)
    have ih := asc_len' n (l := l) (m := a + 1) h2 fun x hx => ⟨h1 x hx, (k x (by simp [hx])).2⟩
    rw [List.length_cons]
    omega
theorem asc_len (n : Nat) {l : List Nat} (h : Asc l) (k : ∀ x ∈ l, x < n) : l.length ≤ n := by
  have := asc_len' n (m := 0) h fun x hx => ⟨Nat.zero_le _, k x hx⟩
  omega
def bothL (a b : List Nat) : List Nat := srtU (a ++ b)
theorem mem_bothL {a b : List Nat} {x : Nat} : x ∈ bothL a b ↔ x ∈ a ∨ x ∈ b := by unfold bothL; rw [mem_srtU, List.mem_append]
structure Pl where
  sg : List Nat
  nx : List (List Nat)
abbrev Part := Bool × List Nat × List Nat
def isLet (c : Nat) : Bool := !(decide (c = 33) || decide (c = 46))
def oneP (s : Pl) (c : Nat) : Pl × Part := if isLet c = true then (⟨s.sg ++ [c], s.nx ++ [[]]⟩, (false, [s.sg.length], [s.sg.length])) else (s, (decide (c = 46), [], []))
def followL (nx : List (List Nat)) (ones others : List Nat) : List (List Nat) := ones.foldl (fun nx o => nx.set o (bothL (nx.getD o []) others)) nx
def starP (s : Pl) (x : Part) : Pl × Part := (⟨s.sg, followL s.nx x.2.2 x.2.1⟩, (true, x.2.1, x.2.2))
def altP (s : Pl) (x y : Part) : Pl × Part := (s, (x.1 || y.1, bothL x.2.1 y.2.1, bothL x.2.2 y.2.2))
def catP (s : Pl) (x y : Part) : Pl × Part := (⟨s.sg, followL s.nx x.2.2 y.2.1⟩, (x.1 && y.1, if x.1 = true then bothL x.2.1 y.2.1 else x.2.1, if y.1 = true then bothL y.2.2 x.2.2 else y.2.2))
def putP (s : Pl) (x y : Part) (c : Nat) : Pl × Part := if c = 124 then altP s x y else catP s x y
abbrev PS2 := Pl × List Part
def plStep (s : PS2) (c : Nat) : Option PS2 :=
  if c = 42 then match s.2 with
    | x :: r => some ((starP s.1 x).1, (starP s.1 x).2 :: r)
    | [] => none
  else if c = 38 ∨ c = 124 then match s.2 with
    | y :: x :: r => some ((putP s.1 x y c).1, (putP s.1 x y c).2 :: r)
    | _ => none
  else some ((oneP s.1 c).1, (oneP s.1 c).2 :: s.2)
def plRun : PS2 → List Nat → Option PS2
  | s, [] => some s
  | s, c :: l => (plStep s c).bind fun t => plRun t l
theorem plRun_app : ∀ (l m : List Nat) (s : PS2), plRun s (l ++ m) = (plRun s l).bind fun t => plRun t m
  | [], m, s => rfl
  | c :: l, m, s => by
    rw [List.cons_append, plRun, plRun, Option.bind_assoc]
    congr 1
    funext t
    exact plRun_app l m t
def Pa.gl : Pa → Pl → Pl × Part
  | .sg c, s => oneP s c
  | .star p, s => starP (p.gl s).1 (p.gl s).2
  | .cat p q, s => catP (q.gl (p.gl s).1).1 (p.gl s).2 (q.gl (p.gl s).1).2
  | .alt p q, s => altP (q.gl (p.gl s).1).1 (p.gl s).2 (q.gl (p.gl s).1).2
/-- its signs stand for themselves -/
def Self (c : Nat) : Prop := c ≠ 42 ∧ c ≠ 38 ∧ c ≠ 124
theorem plRun_post : ∀ (p : Pa) (s : Pl) (st : List Part), p.Sgs Self → plRun (s, st) p.post = some ((p.gl s).1, (p.gl s).2 :: st)
  | .sg c, s, st, h => by
    have h : c ≠ 42 ∧ c ≠ 38 ∧ c ≠ 124 := h
    simp [Pa.post, plRun, plStep, h.1, h.2.1, h.2.2, Pa.gl]
  | .star p, s, st, h => by
    rw [Pa.post, plRun_app, plRun_post p s st h]
    simp [plRun, plStep, Pa.gl]
  | .cat p q, s, st, h => by
    rw [Pa.post, plRun_app, plRun_app, plRun_post p s st h.1]
    simp only [Option.bind_some]
    rw [plRun_post q _ _ h.2]
    simp [plRun, plStep, Pa.gl, putP]
  | .alt p q, s, st, h => by
    rw [Pa.post, plRun_app, plRun_app, plRun_post p s st h.1]
    simp only [Option.bind_some]
    rw [plRun_post q _ _ h.2]
    simp [plRun, plStep, Pa.gl, putP]
/-! what holds at each turn -/
structure LstOk (n : Nat) (l : List Nat) : Prop where
  asc : Asc l
  lt : ∀ x ∈ l, x < n
theorem LstOk.len {n : Nat} {l : List Nat} (h : LstOk n l) : l.length ≤ n := asc_len n h.asc h.lt
theorem LstOk.mono {n m : Nat} {l : List Nat} (h : LstOk n l) (k : n ≤ m) : LstOk m l := ⟨h.asc, fun x hx => Nat.lt_of_lt_of_le (h.lt x hx) k⟩
theorem LstOk.nil (n : Nat) : LstOk n [] := ⟨List.Pairwise.nil, fun x h => by simp at h⟩
theorem LstOk.both {n : Nat} {a b : List Nat} (h : LstOk n a) (k : LstOk n b) : LstOk n (bothL a b) := ⟨srtU_asc _, fun x hx => by
  rcases mem_bothL.mp hx with z | z
  · exact h.lt x z
  · exact k.lt x z⟩
structure PartOk (n : Nat) (x : Part) : Prop where
  fst : LstOk n x.2.1
  lst : LstOk n x.2.2
structure PlOk (s : Pl) : Prop where
  len : s.nx.length = s.sg.length
  row : ∀ r ∈ s.nx, LstOk s.sg.length r
theorem follow_len (others : List Nat) : ∀ (ones : List Nat) (nx : List (List Nat)), (followL nx ones others).length = nx.length
  | [], nx => rfl
  | o :: ones, nx => by
    show (followL (nx.set o _) ones others).length = _
    rw [follow_len others ones, List.length_set]
theorem getD_row {n : Nat} {nx : List (List Nat)} (h : ∀ r ∈ nx, LstOk n r) (o : Nat) : LstOk n (nx.getD o []) := by
  rw [List.getD_eq_getElem?_getD]
  cases e : nx[o]? with
  | none => exact LstOk.nil n
  | some r => exact h r (List.mem_of_getElem? e)
theorem follow_row {n : Nat} {others : List Nat} (ho : LstOk n others) : ∀ (ones : List Nat) (nx : List (List Nat)), (∀ r ∈ nx, LstOk n r) → ∀ r ∈ followL nx ones others, LstOk n r
  | [], nx, h => h
  | o :: ones, nx, h => by
    show ∀ r ∈ followL (nx.set o _) ones others, LstOk n r
    refine follow_row ho ones _ fun r hr => ?_
    rcases List.mem_or_eq_of_mem_set hr with z | z
    · exact h r z
    · rw [z]; exact (getD_row h o).both ho
theorem PlOk.follow {s : Pl} (h : PlOk s) {others : List Nat} (ho : LstOk s.sg.length others) (ones : List Nat) : PlOk ⟨s.sg, followL s.nx ones others⟩ := ⟨by rw [follow_len]; exact h.len, follow_row ho ones _ h.row⟩
/-- signs, rows, parts -/
structure PSOk (s : PS2) : Prop where
  pl : PlOk s.1
  pt : ∀ x ∈ s.2, PartOk s.1.sg.length x
theorem PSOk.start : PSOk (⟨[], []⟩, []) := ⟨⟨rfl, fun r h => by simp at h⟩, fun x h => by simp at h⟩
theorem PSOk.one {s : PS2} (h : PSOk s) (c : Nat) : PSOk ((oneP s.1 c).1, (oneP s.1 c).2 :: s.2) := by
  unfold oneP
  split
  · refine ⟨⟨by simp [h.pl.len], fun r hr => ?_⟩, fun x hx => ?_⟩
    · rcases List.mem_append.mp hr with z | z
      · exact (h.pl.row r z).mono (by simp)
      · simp at z; subst z; exact LstOk.nil _
    · rcases List.mem_cons.mp hx with rfl | hx
      · constructor <;> exact ⟨by simp, fun x hx => by simp at hx ⊢; omega⟩
      · exact ⟨(h.pt x hx).fst.mono (by simp), (h.pt x hx).lst.mono (by simp)⟩
  · refine ⟨h.pl, fun x hx => ?_⟩
    rcases List.mem_cons.mp hx with rfl | hx
    · exact ⟨LstOk.nil _, LstOk.nil _⟩
    · exact h.pt x hx
theorem PSOk.step {s t : PS2} {c : Nat} (h : PSOk s) (e : plStep s c = some t) : PSOk t := by
  obtain ⟨s, st⟩ := s
  unfold plStep at e
  split at e
  · cases st with
    | nil => cases e
    | cons x r =>
      cases e
      have hx := h.pt x (by simp)
      refine ⟨h.pl.follow hx.fst _, fun y hy => ?_⟩
      rcases List.mem_cons.mp hy with rfl | hy
      · exact ⟨hx.fst, hx.lst⟩
      · exact h.pt y (by simp [hy])
  · split at e
    · match st, e with
      | y :: x :: r, e =>
        cases e
        have hx := h.pt x (by simp)
        have hy := h.pt y (by simp)
        unfold putP
        split
        · refine ⟨h.pl, fun z hz => ?_⟩
          rcases List.mem_cons.mp hz with rfl | hz
          · exact ⟨hx.fst.both hy.fst, hx.lst.both hy.lst⟩
          · exact h.pt z (by simp [hz])
        · refine ⟨h.pl.follow hy.fst _, fun z hz => ?_⟩
          rcases List.mem_cons.mp hz with rfl | hz
          · refine ⟨?_, ?_⟩
            · show LstOk _ (if x.1 = true then _ else _)
              split
              · exact hx.fst.both hy.fst
              · exact hx.fst
            · show LstOk _ (if y.1 = true then _ else _)
              split
              · exact hy.lst.both hx.lst
              · exact hy.lst
          · exact h.pt z (by simp [hz])
    · cases e
      exact h.one c
theorem PSOk.run : ∀ {l : List Nat} {s t : PS2}, PSOk s → plRun s l = some t → PSOk t
  | [], s, t, h, e => by cases e; exact h
  | c :: l, s, t, h, e => by
    rw [plRun] at e
    cases q : plStep s c with
    | none => rw [q] at e; cases e
    | some u => rw [q] at e; exact PSOk.run (h.step q) e
/-- how many whistles stand in the signs -/
def letN (l : List Nat) : Nat := (l.filter fun c => isLet c && ![42, 38, 124].contains c).length
theorem plStep_sg {s t : PS2} {c : Nat} (e : plStep s c = some t) : t.1.sg.length = s.1.sg.length + letN [c] := by
  obtain ⟨s, st⟩ := s
  unfold plStep at e
  split at e
  · rename_i hc
    subst hc
    cases st with
    | nil => cases e
    | cons x r => cases e; simp [starP, letN]
  · split at e
    · rename_i hc
      have : letN [c] = 0 := by rcases hc with rfl | rfl <;> simp [letN]
      match st, e with
      | y :: x :: r, e =>
        cases e
        rw [this]
        simp only [putP]
        split <;> rfl
    · rename_i h1 h2
      cases e
      simp only [oneP]
      have h3 : c ≠ 38 ∧ c ≠ 124 := ⟨fun z => h2 (.inl z), fun z => h2 (.inr z)⟩
      split
      · rename_i h
        simp [letN, h, h1, h3.1, h3.2]
      · rename_i h
        simp [letN, h]
theorem letN_cons (c : Nat) (l : List Nat) : letN (c :: l) = letN [c] + letN l := by
  unfold letN
  rw [show c :: l = [c] ++ l from rfl, List.filter_append, List.length_append]
theorem letN_app (l m : List Nat) : letN (l ++ m) = letN l + letN m := by
  unfold letN
  rw [List.filter_append, List.length_append]
theorem plRun_sg : ∀ {l : List Nat} {s t : PS2}, plRun s l = some t → t.1.sg.length = s.1.sg.length + letN l
  | [], s, t, e => by cases e; rfl
  | c :: l, s, t, e => by
    rw [plRun] at e
    cases q : plStep s c with
    | none => rw [q] at e; cases e
    | some u =>
      rw [q] at e
      rw [plRun_sg e, plStep_sg q, letN_cons c l]
      omega
/-! which places may stand first, last, behind which -/
def Pa.sz : Pa → Nat
  | .sg c => if isLet c = true then 1 else 0
  | .star p => p.sz
  | .cat p q => p.sz + q.sz
  | .alt p q => p.sz + q.sz
def Pa.sgn : Pa → List Nat
  | .sg c => if isLet c = true then [c] else []
  | .star p => p.sgn
  | .cat p q => p.sgn ++ q.sgn
  | .alt p q => p.sgn ++ q.sgn
theorem sgn_len : ∀ p : Pa, p.sgn.length = p.sz
  | .sg c => by unfold Pa.sgn Pa.sz; split <;> rfl
  | .star p => sgn_len p
  | .cat p q => by rw [Pa.sgn, Pa.sz, List.length_append, sgn_len p, sgn_len q]
  | .alt p q => by rw [Pa.sgn, Pa.sz, List.length_append, sgn_len p, sgn_len q]
def Pa.nul : Pa → Bool
  | .sg c => decide (c = 46)
  | .star _ => true
  | .cat p q => p.nul && q.nul
  | .alt p q => p.nul || q.nul
def Pa.Fst : Pa → Nat → Nat → Prop
  | .sg c, n, j => isLet c = true ∧ j = n
  | .star p, n, j => p.Fst n j
  | .cat p q, n, j => p.Fst n j ∨ (p.nul = true ∧ q.Fst (n + p.sz) j)
  | .alt p q, n, j => p.Fst n j ∨ q.Fst (n + p.sz) j
def Pa.Lst : Pa → Nat → Nat → Prop
  | .sg c, n, j => isLet c = true ∧ j = n
  | .star p, n, j => p.Lst n j
  | .cat p q, n, j => q.Lst (n + p.sz) j ∨ (q.nul = true ∧ p.Lst n j)
  | .alt p q, n, j => p.Lst n j ∨ q.Lst (n + p.sz) j
def Pa.Fol : Pa → Nat → Nat → Nat → Prop
  | .sg _, _, _, _ => False
  | .star p, n, i, j => p.Fol n i j ∨ (p.Lst n i ∧ p.Fst n j)
  | .cat p q, n, i, j => p.Fol n i j ∨ q.Fol (n + p.sz) i j ∨ (p.Lst n i ∧ q.Fst (n + p.sz) j)
  | .alt p q, n, i, j => p.Fol n i j ∨ q.Fol (n + p.sz) i j
theorem fst_in : ∀ (p : Pa) {n j : Nat}, p.Fst n j → n ≤ j ∧ j < n + p.sz
  | .sg c, n, j, h => by obtain ⟨a, rfl⟩ := h; rw [Pa.sz, if_pos a]; omega
  | .star p, n, j, h => fst_in p h
  | .cat p q, n, j, h => by
    rw [Pa.sz]
    rcases h with h | ⟨_, h⟩
    · have := fst_in p h; omega
    · have := fst_in q h; omega
  | .alt p q, n, j, h => by
    rw [Pa.sz]
    rcases h with h | h
    · have := fst_in p h; omega
    · have := fst_in q h; omega
theorem lst_in : ∀ (p : Pa) {n j : Nat}, p.Lst n j → n ≤ j ∧ j < n + p.sz
  | .sg c, n, j, h => by obtain ⟨a, rfl⟩ := h; rw [Pa.sz, if_pos a]; omega
  | .star p, n, j, h => lst_in p h
  | .cat p q, n, j, h => by
    rw [Pa.sz]
    rcases h with h | ⟨_, h⟩
    · have := lst_in q h; omega
    · have := lst_in p h; omega
  | .alt p q, n, j, h => by
    rw [Pa.sz]
    rcases h with h | h
    · have := lst_in p h; omega
    · have := lst_in q h; omega
theorem fol_in : ∀ (p : Pa) {n i j : Nat}, p.Fol n i j → (n ≤ i ∧ i < n + p.sz) ∧ n ≤ j ∧ j < n + p.sz
  | .sg c, n, i, j, h => h.elim
  | .star p, n, i, j, h => by
    rcases h with h | ⟨h, k⟩
    · exact fol_in p h
    · exact ⟨lst_in p h, fst_in p k⟩
  | .cat p q, n, i, j, h => by
    rw [Pa.sz]
    rcases h with h | h | ⟨h, k⟩
    · have := fol_in p h; omega
    · have := fol_in q h; omega
    · have := lst_in p h; have := fst_in q k; omega
  | .alt p q, n, i, j, h => by
    rw [Pa.sz]
    rcases h with h | h
    · have := fol_in p h; omega
    · have := fol_in q h; omega
/-! the program's tables tell just this -/
theorem getD_set {nx : List (List Nat)} {o i : Nat} {r : List Nat} : (nx.set o r).getD i [] = if o = i ∧ o < nx.length then r else nx.getD i [] := by
  rw [List.getD_eq_getElem?_getD, List.getD_eq_getElem?_getD, List.getElem?_set]
  by_cases h : o = i
  · subst h
    by_cases k : o < nx.length
    · simp [k]
    · simp [k]
  · simp [h]
theorem mem_follow (others : List Nat) {i j : Nat} : ∀ (ones : List Nat) (nx : List (List Nat)), j ∈ (followL nx ones others).getD i [] ↔ j ∈ nx.getD i [] ∨ (i ∈ ones ∧ i < nx.length ∧ j ∈ others)
  | [], nx => by simp [followL]
  | o :: ones, nx => by
    show j ∈ (followL (nx.set o (bothL (nx.getD o []) others)) ones others).getD i [] ↔ _
    rw [mem_follow others ones, getD_set, List.length_set]
    by_cases h : o = i ∧ o < nx.length
    · obtain ⟨rfl, h⟩ := h
      rw [if_pos ⟨rfl, h⟩, mem_bothL]
      constructor
      · rintro ((a | a) | ⟨_, _, a⟩)
        · exact .inl a
        · exact .inr ⟨by simp, h, a⟩
        · exact .inr ⟨by simp, h, a⟩
      · rintro (a | ⟨_, _, a⟩)
        · exact .inl (.inl a)
        · exact .inl (.inr a)
    · rw [if_neg h]
      constructor
      · rintro (a | ⟨a, b, c⟩)
        · exact .inl a
        · exact .inr ⟨by simp [a], b, c⟩
      · rintro (a | ⟨a, b, c⟩)
        · exact .inl a
        · rcases List.mem_cons.mp a with rfl | a
          · exact absurd ⟨rfl, b⟩ h
          · exact .inr ⟨a, b, c⟩
structure GlOk (p : Pa) (s : Pl) (r : Pl × Part) : Prop where
  sg : r.1.sg = s.sg ++ p.sgn
  len : r.1.nx.length = r.1.sg.length
  nul : r.2.1 = p.nul
  fst : ∀ j, j ∈ r.2.2.1 ↔ p.Fst s.sg.length j
  lst : ∀ j, j ∈ r.2.2.2 ↔ p.Lst s.sg.length j
  old : ∀ i j, i < s.sg.length → (j ∈ r.1.nx.getD i [] ↔ j ∈ s.nx.getD i [])
  new : ∀ i j, s.sg.length ≤ i → (j ∈ r.1.nx.getD i [] ↔ p.Fol s.sg.length i j)
theorem gl_ok : ∀ (p : Pa) (s : Pl), s.nx.length = s.sg.length → GlOk p s (p.gl s)
  | .sg c, s, h => by
    unfold Pa.gl oneP
    split
    · rename_i hc
      refine ⟨by simp [Pa.sgn, hc], by simp [h], ?_, fun j => by simp [Pa.Fst, hc], fun j => by simp [Pa.Lst, hc], fun i j hi => ?_, fun i j hi => ?_⟩
      · have : c ≠ 46 := by unfold isLet at hc; simp at hc; exact hc.2
        simp [Pa.nul, this]
      · rw [List.getD_eq_getElem?_getD, List.getD_eq_getElem?_getD, List.getElem?_append_left (by rw [h]; exact hi)]
      · rw [List.getD_eq_getElem?_getD, List.getElem?_append_right (by rw [h]; exact hi)]
        cases e : ([[]] : List (List Nat))[i - s.nx.length]? with
        | none => simp [Pa.Fol]
        | some r =>
          have := List.mem_of_getElem? e
          simp at this
          subst this
          simp [Pa.Fol]
    · rename_i hc
      refine ⟨by simp [Pa.sgn, hc], h, rfl, fun j => by simp [Pa.Fst, hc], fun j => by simp [Pa.Lst, hc], fun i j hi => Iff.rfl, fun i j hi => ?_⟩
      rw [List.getD_eq_getElem?_getD, List.getElem?_eq_none (by rw [h]; exact hi)]
      simp [Pa.Fol]
  | .star p, s, h => by
    have a := gl_ok p s h
    unfold Pa.gl starP
    have hl : ∀ i, p.Lst s.sg.length i → i < (p.gl s).1.nx.length := fun i hi => by
      rw [a.len, a.sg, List.length_append, sgn_len]; exact (lst_in p hi).2
    refine ⟨a.sg, by rw [follow_len]; exact a.len, rfl, a.fst, a.lst, fun i j hi => ?_, fun i j hi => ?_⟩
    · rw [mem_follow, a.old i j hi, a.lst]
      constructor
      · rintro (z | ⟨z, _⟩)
        · exact z
        · have := (lst_in p z).1; omega
      · exact .inl
    · rw [mem_follow, a.new i j hi, a.lst, a.fst]
      show _ ↔ p.Fol _ i j ∨ _
      constructor
      · rintro (z | ⟨z, _, k⟩)
        · exact .inl z
        · exact .inr ⟨z, k⟩
      · rintro (z | ⟨z, k⟩)
        · exact .inl z
        · exact .inr ⟨z, hl i z, k⟩
  | .cat p q, s, h => by
    have a := gl_ok p s h
    have b := gl_ok q (p.gl s).1 a.len
    have e : (p.gl s).1.sg.length = s.sg.length + p.sz := by rw [a.sg, List.length_append, sgn_len]
    have bf := b.fst
    have bl := b.lst
    have bo := b.old
    have bn := b.new
    rw [e] at bf bl bo bn
    unfold Pa.gl catP
    have hl : ∀ i, p.Lst s.sg.length i → i < (q.gl (p.gl s).1).1.nx.length := fun i hi => by
      rw [b.len, b.sg, List.length_append, e]; have := (lst_in p hi).2; omega
    refine ⟨by rw [b.sg, a.sg, List.append_assoc]; rfl, by rw [follow_len]; exact b.len, by simp only [a.nul, b.nul]; rfl, fun j => ?_, fun j => ?_, fun i j hi => ?_, fun i j hi => ?_⟩
    · show j ∈ (if (p.gl s).2.1 = true then _ else _) ↔ p.Fst _ j ∨ (p.nul = true ∧ q.Fst _ j)
      rw [a.nul]
      split
      · rename_i hn
        rw [mem_bothL, a.fst, bf]
        simp [hn]
      · rename_i hn
        rw [a.fst]
        simp [hn]
    · show j ∈ (if (q.gl (p.gl s).1).2.1 = true then _ else _) ↔ q.Lst _ j ∨ (q.nul = true ∧ p.Lst _ j)
      rw [b.nul]
      split
      · rename_i hn
        rw [mem_bothL, a.lst, bl]
        simp [hn]
      · rename_i hn
        rw [bl]
        simp [hn]
    · rw [mem_follow, bo i j (by omega), a.old i j hi, a.lst]
      constructor
      · rintro (z | ⟨z, _⟩)
        · exact z
        · have := (lst_in p z).1; omega
      · exact .inl
    · rw [mem_follow, a.lst, bf]
      show _ ↔ p.Fol _ i j ∨ q.Fol _ i j ∨ (p.Lst _ i ∧ q.Fst _ j)
      by_cases hi2 : i < s.sg.length + p.sz
      · rw [bo i j hi2, a.new i j hi]
        constructor
        · rintro (z | ⟨z, _, k⟩)
          · exact .inl z
          · exact .inr (.inr ⟨z, k⟩)
        · rintro (z | z | ⟨z, k⟩)
          · exact .inl z
          · have := (fol_in q z).1; omega
          · exact .inr ⟨z, hl i z, k⟩
      · rw [bn i j (by omega)]
        constructor
        · rintro (z | ⟨z, _, k⟩)
          · exact .inr (.inl z)
          · exact .inr (.inr ⟨z, k⟩)
        · rintro (z | z | ⟨z, k⟩)
          · have := (fol_in p z).1; omega
          · exact .inl z
          · exact .inr ⟨z, hl i z, k⟩
  | .alt p q, s, h => by
    have a := gl_ok p s h
    have b := gl_ok q (p.gl s).1 a.len
    have e : (p.gl s).1.sg.length = s.sg.length + p.sz := by rw [a.sg, List.length_append, sgn_len]
    have bf := b.fst
    have bl := b.lst
    have bo := b.old
    have bn := b.new
    rw [e] at bf bl bo bn
    unfold Pa.gl altP
    refine ⟨by rw [b.sg, a.sg, List.append_assoc]; rfl, b.len, by simp only [a.nul, b.nul]; rfl, fun j => ?_, fun j => ?_, fun i j hi => ?_, fun i j hi => ?_⟩
    · rw [mem_bothL, a.fst, bf]; exact Iff.rfl
    · rw [mem_bothL, a.lst, bl]; exact Iff.rfl
    · exact (bo i j (by omega)).trans (a.old i j hi)
    · show j ∈ (q.gl (p.gl s).1).1.nx.getD i [] ↔ p.Fol _ i j ∨ q.Fol _ i j
      by_cases hi2 : i < s.sg.length + p.sz
      · rw [bo i j hi2, a.new i j hi]
        constructor
        · exact .inl
        · rintro (z | z)
          · exact z
          · have := (fol_in q z).1; omega
      · rw [bn i j (by omega)]
        constructor
        · exact .inr
        · rintro (z | z)
          · have := (fol_in p z).1; omega
          · exact z
/-! ### the tunes along the places are the pattern's -/
/-- on from a place along w, to one that may be last -/
def AccP (sg : List Nat) (F : Nat → Nat → Prop) (L : Nat → Prop) : Nat → List Nat → Prop
  | i, [] => L i
  | i, c :: w => ∃ j, F i j ∧ sg[j]? = some c ∧ AccP sg F L j w
/-- a tune of a pattern whose places begin at n -/
def InP (sg : List Nat) (p : Pa) (n : Nat) : List Nat → Prop
  | [] => p.nul = true
  | c :: w => ∃ j, p.Fst n j ∧ sg[j]? = some c ∧ AccP sg (p.Fol n) (p.Lst n) j w
def Ext (sg : List Nat) (p : Pa) (n : Nat) : Prop := ∀ k, k < p.sz → sg[n + k]? = p.sgn[k]?
theorem ext_l {sg : List Nat} {p q : Pa} {n : Nat} (h : ∀ k, k < p.sz + q.sz → sg[n + k]? = (p.sgn ++ q.sgn)[k]?) : Ext sg p n := fun k hk => by
  rw [h k (by omega), List.getElem?_append_left (by rw [sgn_len]; exact hk)]
theorem ext_r {sg : List Nat} {p q : Pa} {n : Nat} (h : ∀ k, k < p.sz + q.sz → sg[n + k]? = (p.sgn ++ q.sgn)[k]?) : Ext sg q (n + p.sz) := fun k hk => by
  rw [Nat.add_assoc, h (p.sz + k) (by omega), List.getElem?_append_right (by rw [sgn_len]; omega), sgn_len, Nat.add_sub_cancel_left]
section
variable {sg : List Nat}
theorem AccP.congr {F F' : Nat → Nat → Prop} {L L' : Nat → Prop} {S : Nat → Prop} (hS : ∀ i j, S i → F i j → S j) (hS' : ∀ i j, S i → F' i j → S j) (hF : ∀ i j, S i → (F i j ↔ F' i j)) (hL : ∀ i, S i → (L i ↔ L' i)) : ∀ (w : List Nat) {i : Nat}, S i → (AccP sg F L i w ↔ AccP sg F' L' i w)
  | [], i, h => hL i h
  | c :: w, i, h => by
    constructor
    · rintro ⟨j, a, b, d⟩; exact ⟨j, (hF i j h).mp a, b, (AccP.congr hS hS' hF hL w (hS i j h a)).mp d⟩
    · rintro ⟨j, a, b, d⟩; exact ⟨j, (hF i j h).mpr a, b, (AccP.congr hS hS' hF hL w (hS' i j h a)).mpr d⟩
/-- one behind the other: on from a place of the first -/
theorem acc_cat {p q : Pa} {n : Nat} : ∀ (w : List Nat) {i : Nat}, (n ≤ i ∧ i < n + p.sz) → (AccP sg ((Pa.cat p q).Fol n) ((Pa.cat p q).Lst n) i w ↔ ∃ u v, w = u ++ v ∧ AccP sg (p.Fol n) (p.Lst n) i u ∧ InP sg q (n + p.sz) v)
  | [], i, h => by
    show q.Lst _ i ∨ (q.nul = true ∧ p.Lst n i) ↔ _
    constructor
    · rintro (z | ⟨z, k⟩)
      · have := lst_in q z; omega
      · exact ⟨[], [], rfl, k, z⟩
    · rintro ⟨u, v, e, a, b⟩
      obtain ⟨rfl, rfl⟩ := List.append_eq_nil_iff.mp e.symm
      exact .inr ⟨b, a⟩
  | c :: w, i, h => by
    constructor
    · rintro ⟨j, a, b, d⟩
      rcases a with a | a | ⟨a, k⟩
      · obtain ⟨u, v, rfl, h1, h2⟩ := (acc_cat w (fol_in p a).2).mp d
        exact ⟨c :: u, v, rfl, ⟨j, a, b, h1⟩, h2⟩
      · have := (fol_in q a).1; omega
      · have hj := fst_in q k
        refine ⟨[], c :: w, rfl, a, j, k, b, ?_⟩
        refine (AccP.congr (S := fun i => n + p.sz ≤ i) (fun i j hi z => ?_) (fun i j hi z => (fol_in q z).2.1) (fun i j hi => ?_) (fun i hi => ?_) w hj.1).mp d
        · rcases z with z | z | ⟨z, _⟩
          · have := (fol_in p z).1; omega
          · exact (fol_in q z).2.1
          · have := lst_in p z; omega
        · show p.Fol n i j ∨ q.Fol _ i j ∨ (p.Lst n i ∧ q.Fst _ j) ↔ _
          constructor
          · rintro (z | z | ⟨z, _⟩)
            · have := (fol_in p z).1; omega
            · exact z
            · have := lst_in p z; omega
          · exact fun z => .inr (.inl z)
        · show q.Lst _ i ∨ (q.nul = true ∧ p.Lst n i) ↔ _
          constructor
          · rintro (z | ⟨_, z⟩)
            · exact z
            · have := lst_in p z; omega
          · exact .inl
    · rintro ⟨u, v, e, a, b⟩
      cases u with
      | nil =>
        rw [List.nil_append] at e
        subst e
        obtain ⟨j, h1, h2, h3⟩ := b
        have hj := fst_in q h1
        refine ⟨j, .inr (.inr ⟨a, h1⟩), h2, ?_⟩
        refine (AccP.congr (S := fun i => n + p.sz ≤ i) (fun i j hi z => ?_) (fun i j hi z => (fol_in q z).2.1) (fun i j hi => ?_) (fun i hi => ?_) w hj.1).mpr h3
        · rcases z with z | z | ⟨z, _⟩
          · have := (fol_in p z).1; omega
          · exact (fol_in q z).2.1
          · have := lst_in p z; omega
        · show p.Fol n i j ∨ q.Fol _ i j ∨ (p.Lst n i ∧ q.Fst _ j) ↔ _
          constructor
          · rintro (z | z | ⟨z, _⟩)
            · have := (fol_in p z).1; omega
            · exact z
            · have := lst_in p z; omega
          · exact fun z => .inr (.inl z)
        · show q.Lst _ i ∨ (q.nul = true ∧ p.Lst n i) ↔ _
          constructor
          · rintro (z | ⟨_, z⟩)
            · exact z
            · have := lst_in p z; omega
          · exact .inl
      | cons d u =>
        rw [List.cons_append] at e
        injection e with e1 e2
        subst e1
        subst e2
        obtain ⟨j, h1, h2, h3⟩ := a
        exact ⟨j, .inl h1, h2, (acc_cat (u ++ v) (fol_in p h1).2).mpr ⟨u, v, rfl, h3, b⟩⟩
theorem in_cat {p q : Pa} {n : Nat} (w : List Nat) : InP sg (.cat p q) n w ↔ LCat (InP sg p n) (InP sg q (n + p.sz)) w := by
  have right : ∀ {i : Nat} (w : List Nat), n + p.sz ≤ i → (AccP sg ((Pa.cat p q).Fol n) ((Pa.cat p q).Lst n) i w ↔ AccP sg (q.Fol (n + p.sz)) (q.Lst (n + p.sz)) i w) := fun {i} w hi => by
    refine AccP.congr (S := fun i => n + p.sz ≤ i) (fun i j hi z => ?_) (fun i j hi z => (fol_in q z).2.1) (fun i j hi => ?_) (fun i hi => ?_) w hi
    · rcases z with z | z | ⟨z, _⟩
      · have := (fol_in p z).1; omega
      · exact (fol_in q z).2.1
      · have := lst_in p z; omega
    · show p.Fol n i j ∨ q.Fol _ i j ∨ (p.Lst n i ∧ q.Fst _ j) ↔ _
      constructor
      · rintro (z | z | ⟨z, _⟩)
        · have := (fol_in p z).1; omega
        · exact z
        · have := lst_in p z; omega
      · exact fun z => .inr (.inl z)
    · show q.Lst _ i ∨ (q.nul = true ∧ p.Lst n i) ↔ _
      constructor
      · rintro (z | ⟨_, z⟩)
        · exact z
        · have := lst_in p z; omega
      · exact .inl
  cases w with
  | nil =>
    show (p.nul && q.nul) = true ↔ _
    rw [Bool.and_eq_true]
    constructor
    · rintro ⟨a, b⟩; exact ⟨[], [], rfl, a, b⟩
    · rintro ⟨u, v, e, a, b⟩
      obtain ⟨rfl, rfl⟩ := List.append_eq_nil_iff.mp e.symm
      exact ⟨a, b⟩
  | cons c w =>
    constructor
    · rintro ⟨j, a | ⟨z, a⟩, b, d⟩
      · obtain ⟨u, v, rfl, h1, h2⟩ := (acc_cat w (fst_in p a)).mp d
        exact ⟨c :: u, v, rfl, ⟨j, a, b, h1⟩, h2⟩
      · exact ⟨[], c :: w, rfl, z, j, a, b, (right w (fst_in q a).1).mp d⟩
    · rintro ⟨u, v, e, a, b⟩
      cases u with
      | nil =>
        rw [List.nil_append] at e
        subst e
        obtain ⟨j, h1, h2, h3⟩ := b
        exact ⟨j, .inr ⟨a, h1⟩, h2, (right w (fst_in q h1).1).mpr h3⟩
      | cons d u =>
        rw [List.cons_append] at e
        injection e with e1 e2
        subst e1
        subst e2
        obtain ⟨j, h1, h2, h3⟩ := a
        exact ⟨j, .inl h1, h2, (acc_cat _ (fst_in p h1)).mpr ⟨u, v, rfl, h3, b⟩⟩
theorem in_alt {p q : Pa} {n : Nat} (w : List Nat) : InP sg (.alt p q) n w ↔ InP sg p n w ∨ InP sg q (n + p.sz) w := by
  have left : ∀ {i : Nat} (w : List Nat), i < n + p.sz → (AccP sg ((Pa.alt p q).Fol n) ((Pa.alt p q).Lst n) i w ↔ AccP sg (p.Fol n) (p.Lst n) i w) := fun {i} w hi => by
    refine AccP.congr (S := fun i => i < n + p.sz) (fun i j hi z => ?_) (fun i j hi z => (fol_in p z).2.2) (fun i j hi => ?_) (fun i hi => ?_) w hi
    · rcases z with z | z
      · exact (fol_in p z).2.2
      · have := (fol_in q z).1; omega
    · show p.Fol n i j ∨ q.Fol _ i j ↔ _
      constructor
      · rintro (z | z)
        · exact z
        · have := (fol_in q z).1; omega
      · exact .inl
    · show p.Lst n i ∨ q.Lst _ i ↔ _
      constructor
      · rintro (z | z)
        · exact z
        · have := lst_in q z; omega
      · exact .inl
  have right : ∀ {i : Nat} (w : List Nat), n + p.sz ≤ i → (AccP sg ((Pa.alt p q).Fol n) ((Pa.alt p q).Lst n) i w ↔ AccP sg (q.Fol (n + p.sz)) (q.Lst (n + p.sz)) i w) := fun {i} w hi => by
    refine AccP.congr (S := fun i => n + p.sz ≤ i) (fun i j hi z => ?_) (fun i j hi z => (fol_in q z).2.1) (fun i j hi => ?_) (fun i hi => ?_) w hi
    · rcases z with z | z
      · have := (fol_in p z).1; omega
      · exact (fol_in q z).2.1
    · show p.Fol n i j ∨ q.Fol _ i j ↔ _
      constructor
      · rintro (z | z)
        · have := (fol_in p z).1; omega
        · exact z
      · exact .inr
    · show p.Lst n i ∨ q.Lst _ i ↔ _
      constructor
      · rintro (z | z)
        · have := lst_in p z; omega
        · exact z
      · exact .inr
  cases w with
  | nil =>
    show (p.nul || q.nul) = true ↔ _
    rw [Bool.or_eq_true]
    exact Iff.rfl
  | cons c w =>
    constructor
    · rintro ⟨j, a | a, b, d⟩
      · exact .inl ⟨j, a, b, (left w (fst_in p a).2).mp d⟩
      · exact .inr ⟨j, a, b, (right w (fst_in q a).1).mp d⟩
    · rintro (⟨j, a, b, d⟩ | ⟨j, a, b, d⟩)
      · exact ⟨j, .inl a, b, (left w (fst_in p a).2).mpr d⟩
      · exact ⟨j, .inr a, b, (right w (fst_in q a).1).mpr d⟩
/-- a star: to the end of one round, then more rounds -/
theorem Star.cons {G : List Nat → Prop} {u v : List Nat} (g : G u) (s : Star G v) : Star G (u ++ v) := (Star.one g).more s
theorem Star.first {G : List Nat → Prop} {t : List Nat} (s : Star G t) : t ≠ [] → ∃ u v, t = u ++ v ∧ G u ∧ u ≠ [] ∧ Star G v := by
  induction s with
  | nil => intro h; exact absurd rfl h
  | @app u v su gv ih =>
    intro h
    by_cases e : u = []
    · subst e
      exact ⟨v, [], by simp, gv, by simpa using h, Star.nil⟩
    · obtain ⟨a, b, rfl, h1, h2, h3⟩ := ih e
      exact ⟨a, b ++ v, by simp, h1, h2, Star.app h3 gv⟩
theorem acc_star {p : Pa} {n : Nat} : ∀ (w : List Nat) {i : Nat}, AccP sg ((Pa.star p).Fol n) ((Pa.star p).Lst n) i w → ∃ u v, w = u ++ v ∧ AccP sg (p.Fol n) (p.Lst n) i u ∧ Star (InP sg p n) v
  | [], i, h => ⟨[], [], rfl, h, Star.nil⟩
  | c :: w, i, h => by
    obtain ⟨j, a, b, d⟩ := h
    obtain ⟨u, v, rfl, h1, h2⟩ := acc_star w d
    rcases a with a | ⟨a, k⟩
    · exact ⟨c :: u, v, rfl, ⟨j, a, b, h1⟩, h2⟩
    · exact ⟨[], c :: u ++ v, rfl, a, Star.cons (u := c :: u) ⟨j, k, b, h1⟩ h2⟩
theorem star_acc {p : Pa} {n : Nat} : ∀ (N : Nat) (u v : List Nat) {i : Nat}, (u ++ v).length ≤ N → AccP sg (p.Fol n) (p.Lst n) i u → Star (InP sg p n) v → AccP sg ((Pa.star p).Fol n) ((Pa.star p).Lst n) i (u ++ v)
  | N, c :: u, v, i, hN, a, s => by
    obtain ⟨j, h1, h2, h3⟩ := a
    cases N with
    | zero => simp at hN
    | succ N => exact ⟨j, .inl h1, h2, star_acc N u v (by simp at hN ⊢; omega) h3 s⟩
  | N, [], v, i, hN, a, s => by
    by_cases e : v = []
    · subst e; exact a
    · obtain ⟨x, y, rfl, g, nx, s2⟩ := s.first e
      cases x with
      | nil => exact absurd rfl nx
      | cons c x =>
        obtain ⟨j, h1, h2, h3⟩ := g
        cases N with
        | zero => simp at hN
        | succ N => exact ⟨j, .inr ⟨a, h1⟩, h2, star_acc N x y (by simp at hN ⊢; omega) h3 s2⟩
theorem in_star {p : Pa} {n : Nat} (w : List Nat) : InP sg (.star p) n w ↔ Star (InP sg p n) w := by
  cases w with
  | nil => exact ⟨fun _ => Star.nil, fun _ => rfl⟩
  | cons c w =>
    constructor
    · rintro ⟨j, a, b, d⟩
      obtain ⟨u, v, rfl, h1, h2⟩ := acc_star w d
      exact Star.cons (u := c :: u) ⟨j, a, b, h1⟩ h2
    · intro s
      obtain ⟨x, y, e, g, nx, s2⟩ := s.first (by simp)
      cases x with
      | nil => exact absurd rfl nx
      | cons d x =>
        rw [List.cons_append] at e
        injection e with e1 e2
        subst e1
        subst e2
        obtain ⟨j, h1, h2, h3⟩ := g
        exact ⟨j, h1, h2, star_acc _ x y (Nat.le_refl _) h3 s2⟩
theorem in_lang : ∀ (p : Pa) {n : Nat}, Ext sg p n → ∀ w, InP sg p n w ↔ p.Lang w
  | .sg c, n, h, w => by
    show _ ↔ LSg c w
    by_cases hc : isLet c = true
    · have e : c ≠ 33 ∧ c ≠ 46 := by unfold isLet at hc; simp at hc; exact hc
      have hs : sg[n]? = some c := by
        have := h 0 (by rw [Pa.sz, if_pos hc]; decide)
        rw [Pa.sgn, if_pos hc] at this
        exact this
      unfold LSg
      rw [if_neg e.1, if_neg e.2]
      cases w with
      | nil =>
        show decide (c = 46) = true ↔ _
        simp [e.2]
      | cons d w =>
        constructor
        · rintro ⟨j, ⟨_, rfl⟩, b, k⟩
          rw [hs] at b
          cases b
          cases w with
          | nil => rfl
          | cons x w => obtain ⟨_, z, _⟩ := k; exact z.elim
        · intro z
          injection z with z1 z2
          subst z1
          subst z2
          exact ⟨n, ⟨hc, rfl⟩, hs, ⟨hc, rfl⟩⟩
    · have e : c = 33 ∨ c = 46 := by
        unfold isLet at hc
        simp only [Bool.not_eq_true', Bool.not_eq_false, Bool.or_eq_true, decide_eq_true_eq] at hc
        exact hc
      cases w with
      | nil =>
        show decide (c = 46) = true ↔ _
        unfold LSg
        rcases e with rfl | rfl <;> simp
      | cons d w =>
        constructor
        · rintro ⟨j, ⟨z, _⟩, _⟩; exact absurd z hc
        · unfold LSg
          rcases e with rfl | rfl <;> simp
  | .star p, n, h, w => (in_star w).trans (Star.iff (in_lang p h) w)
  | .cat p q, n, h, w => (in_cat w).trans (LCat.congr (in_lang p (ext_l h)) (in_lang q (ext_r h)) w)
  | .alt p q, n, h, w => (in_alt w).trans (or_congr (in_lang p (ext_l h) w) (in_lang q (ext_r h) w))
end
/-! ### the sets of places, sign by sign -/
def someL (M : Pl) (x : Part) : Option (List Nat) → List Nat
  | none => x.2.1
  | some S => S.flatMap fun i => M.nx.getD i []
def pickL (M : Pl) (x : Part) (h : Option (List Nat)) (c : Nat) : List Nat := (someL M x h).filter fun j => decide (M.sg[j]? = some c)
def stepL (M : Pl) (x : Part) (h : Option (List Nat)) (c : Nat) : List Nat := srtU (pickL M x h c)
def endL (x : Part) : Option (List Nat) → Bool
  | none => x.1
  | some S => S.any fun j => decide (j ∈ x.2.2)
def runL (M : Pl) (x : Part) (h : Option (List Nat)) (w : List Nat) : Option (List Nat) := w.foldl (fun h c => some (stepL M x h c)) h
theorem run_acc {M : Pl} {x : Part} {F : Nat → Nat → Prop} {L : Nat → Prop} (hF : ∀ i j, j ∈ M.nx.getD i [] ↔ F i j) (hL : ∀ j, j ∈ x.2.2 ↔ L j) : ∀ (w S : List Nat), endL x (runL M x (some S) w) = true ↔ ∃ i ∈ S, AccP M.sg F L i w
  | [], S => by
    show (S.any fun j => decide (j ∈ x.2.2)) = true ↔ _
    rw [List.any_eq_true]
    constructor
    · rintro ⟨j, a, b⟩; exact ⟨j, a, (hL j).mp (of_decide_eq_true b)⟩
    · rintro ⟨j, a, b⟩; exact ⟨j, a, decide_eq_true ((hL j).mpr b)⟩
  | c :: w, S => by
    show endL x (runL M x (some (stepL M x (some S) c)) w) = true ↔ _
    rw [run_acc hF hL w]
    constructor
    · rintro ⟨j, a, b⟩
      obtain ⟨h1, h2⟩ := List.mem_filter.mp (mem_srtU.mp a)
      obtain ⟨i, hi, k⟩ := List.mem_flatMap.mp h1
      exact ⟨i, hi, j, (hF i j).mp k, of_decide_eq_true h2, b⟩
    · rintro ⟨i, hi, j, a, b, d⟩
      exact ⟨j, mem_srtU.mpr (List.mem_filter.mpr ⟨List.mem_flatMap.mpr ⟨i, hi, (hF i j).mpr a⟩, decide_eq_true b⟩), d⟩
def Pa.M (p : Pa) : Pl := (p.gl ⟨[], []⟩).1
def Pa.X (p : Pa) : Part := (p.gl ⟨[], []⟩).2
theorem run_lang (p : Pa) (w : List Nat) : endL p.X (runL p.M p.X none w) = true ↔ p.Lang w := by
  have g := gl_ok p ⟨[], []⟩ rfl
  have hF : ∀ i j, j ∈ p.M.nx.getD i [] ↔ p.Fol 0 i j := fun i j => g.new i j (Nat.zero_le _)
  have hL : ∀ j, j ∈ p.X.2.2 ↔ p.Lst 0 j := g.lst
  have e : Ext p.M.sg p 0 := fun k _ => by
    have : p.M.sg = p.sgn := by show (p.gl ⟨[], []⟩).1.sg = _; rw [g.sg]; rfl
    rw [this, Nat.zero_add]
  rw [← in_lang p e w]
  cases w with
  | nil =>
    show p.X.1 = true ↔ p.nul = true
    rw [show p.X.1 = p.nul from g.nul]
  | cons c w =>
    show endL p.X (runL p.M p.X (some (stepL p.M p.X none c)) w) = true ↔ _
    rw [run_acc hF hL]
    constructor
    · rintro ⟨j, a, b⟩
      obtain ⟨h1, h2⟩ := List.mem_filter.mp (mem_srtU.mp a)
      exact ⟨j, (g.fst j).mp h1, of_decide_eq_true h2, b⟩
    · rintro ⟨j, a, b, d⟩
      exact ⟨j, mem_srtU.mpr (List.mem_filter.mpr ⟨(g.fst j).mpr a, decide_eq_true b⟩), d⟩
theorem M_sg (p : Pa) : p.M.sg = p.sgn := by
  have g := gl_ok p ⟨[], []⟩ rfl
  show (p.gl ⟨[], []⟩).1.sg = _
  rw [g.sg]; rfl
theorem M_ok (p : Pa) (h : p.Sgs Self) : PlOk p.M ∧ PartOk p.M.sg.length p.X := by
  have := PSOk.start.run (plRun_post p ⟨[], []⟩ [] h)
  exact ⟨this.pl, this.pt _ (by simp [Pa.X])⟩
theorem letN_post : ∀ p : Pa, p.Sgs Self → letN p.post = p.sz
  | .sg c, h => by
    have h : c ≠ 42 ∧ c ≠ 38 ∧ c ≠ 124 := h
    unfold Pa.post Pa.sz letN
    by_cases hc : isLet c = true
    · simp [hc, h.1, h.2.1, h.2.2]
    · simp [hc]
  | .star p, h => by rw [Pa.post, letN_app, letN_post p h]; rfl
  | .cat p q, h => by rw [Pa.post, letN_app, letN_app, letN_post p h.1, letN_post q h.2]; rfl
  | .alt p q, h => by rw [Pa.post, letN_app, letN_app, letN_post p h.1, letN_post q h.2]; rfl
/-! ### what is read has the signs of its text -/
def sgS (S : Nat → Prop) (f : Frm) : Prop := (∀ p, f.al = some p → p.Sgs S) ∧ (∀ p, f.ca = some p → p.Sgs S) ∧ ∀ x, f.cu = some x → x.1.Sgs S
theorem clo_sgs {S : Nat → Prop} {x : Pa × Bool} (h : x.1.Sgs S) : (clo x).Sgs S := by unfold clo; split <;> exact h
theorem all_sgs {S : Nat → Prop} {f : Frm} (h : sgS S f) {x : Pa × Bool} (e : f.cu = some x) : (withCat f.ca (clo x)).Sgs S ∧ (withAlt f.al (withCat f.ca (clo x))).Sgs S := by
  have h1 := clo_sgs (h.2.2 x e)
  have h2 : (withCat f.ca (clo x)).Sgs S := by
    cases q : f.ca with
    | none => exact h1
    | some c => exact ⟨h.2.1 c q, h1⟩
  refine ⟨h2, ?_⟩
  cases q : f.al with
  | none => exact h2
  | some a => exact ⟨h.1 a q, h2⟩
theorem amp_sgs {S : Nat → Prop} {f : Frm} (h : sgS S f) : sgS S (amp f) := by
  unfold amp
  cases q : f.cu with
  | none => exact h
  | some x => exact ⟨h.1, fun p e => (by cases e; exact (all_sgs h q).1), fun x e => by cases e⟩
theorem step_sgs {S : Nat → Prop} {fs gs : List Frm} {c : Nat} (h : ∀ f ∈ fs, sgS S f) (hc : c ≠ 42 → c ≠ 124 → c ≠ 41 → c ≠ 40 → S c) (e : mstep fs c = some gs) : ∀ f ∈ gs, sgS S f := by
  cases fs with
  | nil => cases e
  | cons f fs =>
    have hf := h f (by simp)
    unfold mstep at e
    dsimp only at e
    by_cases h1 : c = 42
    · rw [if_pos h1] at e
      cases q : f.cu with
      | none => rw [q] at e; cases e
      | some x =>
        rw [q] at e
        cases e
        intro g hg
        rcases List.mem_cons.mp hg with rfl | hg
        · exact ⟨hf.1, hf.2.1, fun y e => by cases e; exact clo_sgs (hf.2.2 x q)⟩
        · exact h g (by simp [hg])
    rw [if_neg h1] at e
    by_cases h2 : c = 124
    · rw [if_pos h2] at e
      cases q : f.cu with
      | none => rw [q] at e; cases e
      | some x =>
        rw [q] at e
        cases e
        intro g hg
        rcases List.mem_cons.mp hg with rfl | hg
        · exact ⟨fun p e => (by cases e; exact (all_sgs hf q).2), fun p e => (by cases e), fun y e => by cases e⟩
        · exact h g (by simp [hg])
    rw [if_neg h2] at e
    by_cases h3 : c = 41
    · rw [if_pos h3] at e
      cases q : f.cu with
      | none => rw [q] at e; cases e
      | some x =>
        rw [q] at e
        cases fs with
        | nil => cases e
        | cons g fs =>
          cases e
          have hg := h g (by simp)
          intro k hk
          rcases List.mem_cons.mp hk with rfl | hk
          · exact ⟨hg.1, hg.2.1, fun y e => by cases e; exact (all_sgs hf q).2⟩
          · exact h k (by simp [hk])
    rw [if_neg h3] at e
    by_cases h4 : c = 40
    · rw [if_pos h4] at e
      cases e
      intro g hg
      rcases List.mem_cons.mp hg with rfl | hg
      · exact ⟨fun p e => (by cases e), fun p e => (by cases e), fun y e => by cases e⟩
      rcases List.mem_cons.mp hg with rfl | hg
      · exact amp_sgs hf
      · exact h g (by simp [hg])
    rw [if_neg h4] at e
    cases e
    intro g hg
    rcases List.mem_cons.mp hg with rfl | hg
    · exact ⟨(amp_sgs hf).1, (amp_sgs hf).2.1, fun y e => by cases e; exact hc h1 h2 h3 h4⟩
    · exact h g (by simp [hg])
theorem run_sgs {S : Nat → Prop} : ∀ {l : List Nat} {fs gs : List Frm}, (∀ f ∈ fs, sgS S f) → (∀ c ∈ l, c ≠ 42 → c ≠ 124 → c ≠ 41 → c ≠ 40 → S c) → mrun fs l = some gs → ∀ f ∈ gs, sgS S f
  | [], fs, gs, h, _, e => by cases e; exact h
  | c :: l, fs, gs, h, k, e => by
    rw [mrun] at e
    cases q : mstep fs c with
    | none => rw [q] at e; cases e
    | some f1 => rw [q] at e; exact run_sgs (step_sgs h (k c (by simp)) q) (fun d hd => k d (by simp [hd])) e
theorem parse_frame {l : List Nat} {p : Pa} (e : parse l = some p) : ∃ f x, mrun [f0] l = some [f] ∧ f.cu = some x ∧ p = withAlt f.al (withCat f.ca (clo x)) := by
  unfold parse at e
  cases q : mrun [f0] l with
  | none => rw [q] at e; cases e
  | some gs =>
    rw [q] at e
    match gs, e with
    | [f], e =>
      dsimp only at e
      cases hx : f.cu with
      | none => rw [hx] at e; cases e
      | some x => rw [hx] at e; exact ⟨f, x, rfl, hx, (Option.some.inj e).symm⟩
    | [], e => cases e
    | _ :: _ :: _, e => cases e
theorem parse_sgs {S : Nat → Prop} {l : List Nat} {p : Pa} (h : ∀ c ∈ l, c ≠ 42 → c ≠ 124 → c ≠ 41 → c ≠ 40 → S c) (e : parse l = some p) : p.Sgs S := by
  obtain ⟨f, x, e1, e2, rfl⟩ := parse_frame e
  have := run_sgs (fs := [f0]) (fun g hg => by
    simp at hg; subst hg
    exact ⟨fun p e => (by cases e), fun p e => (by cases e), fun y e => by cases e⟩) h e1 f (by simp)
  exact (all_sgs this e2).2
/-! and as many whistles -/
def oSz : Option Pa → Nat
  | none => 0
  | some p => p.sz
def cSz : Option (Pa × Bool) → Nat
  | none => 0
  | some x => x.1.sz
def Frm.sz (f : Frm) : Nat := oSz f.al + oSz f.ca + cSz f.cu
def fsSz : List Frm → Nat
  | [] => 0
  | f :: fs => f.sz + fsSz fs
def letS (c : Nat) : Nat := if isLet c = true ∧ c ≠ 42 ∧ c ≠ 124 ∧ c ≠ 41 ∧ c ≠ 40 then 1 else 0
def letC (l : List Nat) : Nat := l.foldr (fun c n => letS c + n) 0
theorem letC_cons (c : Nat) (l : List Nat) : letC (c :: l) = letS c + letC l := rfl
theorem letC_le : ∀ l : List Nat, letC l ≤ l.length
  | [] => Nat.le_refl _
  | c :: l => by
    have h1 := letC_le l
    rw [letC_cons, List.length_cons]
    have : letS c ≤ 1 := by unfold letS; split <;> omega
    omega
theorem letC_app : ∀ l m : List Nat, letC (l ++ m) = letC l + letC m
  | [], m => by simp [letC]
  | c :: l, m => by rw [List.cons_append, letC_cons, letC_cons, letC_app l m]; omega
theorem clo_sz (x : Pa × Bool) : (clo x).sz = x.1.sz := by unfold clo; split <;> rfl
theorem cat_sz (o : Option Pa) (x : Pa) : (withCat o x).sz = oSz o + x.sz := by cases o <;> simp [withCat, Pa.sz, oSz]
theorem alt_sz (o : Option Pa) (x : Pa) : (withAlt o x).sz = oSz o + x.sz := by cases o <;> simp [withAlt, Pa.sz, oSz]
theorem amp_sz (f : Frm) : (amp f).sz = f.sz := by
  unfold amp
  cases q : f.cu with
  | none => rfl
  | some x => simp [Frm.sz, q, oSz, cSz, cat_sz, clo_sz]; omega
theorem step_sz {fs gs : List Frm} {c : Nat} (e : mstep fs c = some gs) : fsSz gs ≤ fsSz fs + letS c := by
  cases fs with
  | nil => cases e
  | cons f fs =>
    unfold mstep at e
    dsimp only at e
    by_cases h1 : c = 42
    · rw [if_pos h1] at e
      have hl : letS c = 0 := by unfold letS; rw [if_neg (fun z => z.2.1 h1)]
      cases q : f.cu with
      | none => rw [q] at e; cases e
      | some x =>
        rw [q] at e
        cases e
        simp [fsSz, Frm.sz, q, cSz, clo_sz, hl]
    rw [if_neg h1] at e
    by_cases h2 : c = 124
    · rw [if_pos h2] at e
      have hl : letS c = 0 := by unfold letS; rw [if_neg (fun z => z.2.2.1 h2)]
      cases q : f.cu with
      | none => rw [q] at e; cases e
      | some x =>
        rw [q] at e
        cases e
        simp [fsSz, Frm.sz, q, cSz, oSz, clo_sz, cat_sz, alt_sz, hl]
        omega
    rw [if_neg h2] at e
    by_cases h3 : c = 41
    · rw [if_pos h3] at e
      have hl : letS c = 0 := by unfold letS; rw [if_neg (fun z => z.2.2.2.1 h3)]
      cases q : f.cu with
      | none => rw [q] at e; cases e
      | some x =>
        rw [q] at e
        cases fs with
        | nil => cases e
        | cons g fs =>
          cases e
          simp [fsSz, Frm.sz, q, cSz, clo_sz, cat_sz, alt_sz, hl]
          omega
    rw [if_neg h3] at e
    by_cases h4 : c = 40
    · rw [if_pos h4] at e
      have hl : letS c = 0 := by unfold letS; rw [if_neg (fun z => z.2.2.2.2 h4)]
      cases e
      have : f0.sz = 0 := rfl
      simp [fsSz, amp_sz, hl, this]
    rw [if_neg h4] at e
    cases e
    have hx := amp_sz f
    have hn := amp_post (f := f)
    unfold Frm.sz at hx
    rw [hn] at hx
    have hs : (Pa.sg c).sz = letS c := by
      unfold Pa.sz letS
      by_cases hc : isLet c = true
      · rw [if_pos hc, if_pos ⟨hc, h1, h2, h3, h4⟩]
      · rw [if_neg hc, if_neg (fun z => hc z.1)]
    simp only [fsSz, Frm.sz, cSz, hs] at hx ⊢
    omega
theorem run_sz : ∀ {l : List Nat} {fs gs : List Frm}, mrun fs l = some gs → fsSz gs ≤ fsSz fs + letC l
  | [], fs, gs, e => by cases e; exact Nat.le_add_right _ _
  | c :: l, fs, gs, e => by
    rw [mrun] at e
    cases q : mstep fs c with
    | none => rw [q] at e; cases e
    | some f1 =>
      rw [q] at e
      have h1 := step_sz q
      have h2 := run_sz e
      rw [letC_cons]
      omega
theorem parse_sz {l : List Nat} {p : Pa} (e : parse l = some p) : p.sz ≤ letC l := by
  obtain ⟨f, x, e1, e2, rfl⟩ := parse_frame e
  have h : f.sz + 0 ≤ 0 + letC l := run_sz e1
  unfold Frm.sz at h
  rw [e2] at h
  have h : oSz f.al + oSz f.ca + x.1.sz + 0 ≤ 0 + letC l := h
  rw [alt_sz, cat_sz, clo_sz]
  omega
/-! ### ways through a table of tunes, and a node gone by -/
abbrev Lg := List Nat → Prop
inductive Via (T : Nat → Nat → Lg) (N : Nat → Prop) : Nat → Nat → Lg
  | one {i j : Nat} {u : List Nat} : T i j u → Via T N i j u
  | step {i m j : Nat} {u v : List Nat} : T i m u → N m → Via T N m j v → Via T N i j (u ++ v)
/-- the table without k -/
def goneT (T : Nat → Nat → Lg) (k : Nat) (i j : Nat) : Lg := fun w => T i j w ∨ LCat (LCat (T i k) (Star (T k k))) (T k j) w
section
variable {T : Nat → Nat → Lg} {N : Nat → Prop} {k : Nat}
def OrK (N : Nat → Prop) (k : Nat) (m : Nat) : Prop := N m ∨ m = k
theorem via_loop {j : Nat} {s v : List Nat} (hs : Star (T k k) s) (p : Via T (OrK N k) k j v) : Via T (OrK N k) k j (s ++ v) := by
  induction hs generalizing v with
  | nil => exact p
  | @app u x _ g ih =>
    rw [List.append_assoc]
    exact ih (.step g (.inr rfl) p)
theorem via_back {i j : Nat} {w : List Nat} (p : Via (goneT T k) N i j w) : Via T (OrK N k) i j w := by
  induction p with
  | one h =>
    rcases h with h | ⟨_, v, rfl, ⟨u, s, rfl, h1, h2⟩, h3⟩
    · exact .one h
    · rw [List.append_assoc]
      exact .step h1 (.inr rfl) (via_loop h2 (.one h3))
  | step h hm _ ih =>
    rcases h with h | ⟨_, v, rfl, ⟨u, s, rfl, h1, h2⟩, h3⟩
    · exact .step h (.inl hm) ih
    · rw [List.append_assoc, List.append_assoc]
      refine .step h1 (.inr rfl) ?_
      exact via_loop h2 (.step h3 (.inl hm) ih)
/-- what leaves k -/
def OutK (T : Nat → Nat → Lg) (N : Nat → Prop) (k j : Nat) (w : List Nat) : Prop := ∃ s v, w = s ++ v ∧ Star (T k k) s ∧ (T k j v ∨ ∃ m a b, v = a ++ b ∧ T k m a ∧ N m ∧ Via (goneT T k) N m j b)
theorem via_forth {i j : Nat} {w : List Nat} (hj : j ≠ k) (hN : ¬ N k) (p : Via T (OrK N k) i j w) : (i ≠ k → Via (goneT T k) N i j w) ∧ (i = k → OutK T N k j w) := by
  induction p with
  | @one i j u h => exact ⟨fun _ => .one (.inl h), fun e => ⟨[], u, rfl, Star.nil, .inl (by rw [← e]; exact h)⟩⟩
  | @step i m j u v h hm p ih =>
    obtain ⟨ih1, ih2⟩ := ih hj
    by_cases e : m = k
    · obtain ⟨s, r, rfl, hs, hr⟩ := ih2 e
      refine ⟨fun hi => ?_, fun hi => ?_⟩
      · rcases hr with hr | ⟨m', a, b, rfl, ha, hm', hb⟩
        · refine .one (.inr ⟨u ++ s, r, by rw [List.append_assoc], ⟨u, s, rfl, ?_, hs⟩, hr⟩)
          rw [← e]; exact h
        · have : u ++ (s ++ (a ++ b)) = (u ++ s ++ a) ++ b := by simp
          rw [this]
          refine .step (.inr ⟨u ++ s, a, rfl, ⟨u, s, rfl, ?_, hs⟩, ha⟩) hm' hb
          rw [← e]; exact h
      · refine ⟨u ++ s, r, by rw [List.append_assoc], ?_, hr⟩
        refine Star.cons ?_ hs
        rw [e, hi] at h
        exact h
    · have hN2 : N m := hm.resolve_right e
      refine ⟨fun hi => .step (.inl h) hN2 (ih1 e), fun hi => ?_⟩
      refine ⟨[], u ++ v, rfl, Star.nil, .inr ⟨m, u, v, rfl, ?_, hN2, ih1 e⟩⟩
      rw [← hi]; exact h
theorem via_gone {i j : Nat} {w : List Nat} (hi : i ≠ k) (hj : j ≠ k) (hN : ¬ N k) : Via T (OrK N k) i j w ↔ Via (goneT T k) N i j w := ⟨fun p => (via_forth hj hN p).1 hi, via_back⟩
theorem via_none {i j : Nat} {w : List Nat} : Via T (fun _ => False) i j w ↔ T i j w := by
  constructor
  · intro p
    cases p with
    | one h => exact h
    | step _ h _ => exact h.elim
  · exact .one
theorem Via.iff {N' : Nat → Prop} (h : ∀ m, N m ↔ N' m) {i j : Nat} {w : List Nat} : Via T N i j w ↔ Via T N' i j w := by
  have e : N = N' := funext fun m => propext (h m)
  rw [e]
theorem Via.congr {T' : Nat → Nat → Lg} (h : ∀ i j w, T i j w ↔ T' i j w) {i j : Nat} {w : List Nat} : Via T N i j w ↔ Via T' N i j w := by
  have e : T = T' := funext fun i => funext fun j => funext fun w => propext (h i j w)
  rw [e]
end
/-! the hall's own table: 0 is the beginning, e the end -/
def T0 (h : Hall) (e : Nat) (i j : Nat) : Lg := fun w =>
  (i = 0 ∧ j = 1 ∧ w = []) ∨ (∃ a c, a < h.n ∧ c < h.w ∧ i = a + 1 ∧ j = h.go a c + 1 ∧ w = [c + 97]) ∨ (∃ a, a < h.n ∧ i = a + 1 ∧ j = e ∧ h.lit a = 1 ∧ w = [])
def tunC (t : List Nat) : List Nat := t.map (· + 97)
theorem go_lt {h : Hall} (o : h.Ok) {a c : Nat} (ha : a < h.n) (hc : c < h.w) : h.go a c < h.n := o.run_lt (t := [c]) ha (fun d hd => by simp at hd; omega)
theorem via_room {h : Hall} (o : h.Ok) {e : Nat} (he : h.n < e) {w : List Nat} {i j : Nat} (p : Via (T0 h e) (fun m => 1 ≤ m ∧ m ≤ h.n) i j w) : j = e → ∀ a, i = a + 1 → a < h.n → ∃ t, Val h.w t ∧ w = tunC t ∧ h.lit (h.run a t) = 1 := by
  induction p with
  | @one i j u hT =>
    intro hj a ha hn
    rcases hT with ⟨z, _⟩ | ⟨b, c, hb, hc, _, z, _⟩ | ⟨b, hb, z, _, hl, rfl⟩
    · omega
    · have := go_lt o hb hc; omega
    · have : a = b := by omega
      subst this
      exact ⟨[], fun c hc => by simp at hc, rfl, hl⟩
  | @step i m j u v hT hm p ih =>
    intro hj a ha hn
    rcases hT with ⟨z, _⟩ | ⟨b, c, hb, hc, z, z2, rfl⟩ | ⟨b, hb, _, z, _⟩
    · omega
    · have : a = b := by omega
      subst this
      obtain ⟨t, ht, rfl, hl⟩ := ih hj _ z2 (go_lt o hb hc)
      refine ⟨c :: t, fun d hd => ?_, rfl, hl⟩
      rcases List.mem_cons.mp hd with rfl | hd
      · exact hc
      · exact ht d hd
    · omega
theorem room_via {h : Hall} (o : h.Ok) {e : Nat} (he : h.n < e) : ∀ (t : List Nat) (a : Nat), a < h.n → Val h.w t → h.lit (h.run a t) = 1 → Via (T0 h e) (fun m => 1 ≤ m ∧ m ≤ h.n) (a + 1) e (tunC t)
  | [], a, ha, _, hl => .one (.inr (.inr ⟨a, ha, rfl, rfl, hl, rfl⟩))
  | c :: t, a, ha, ht, hl => by
    have hc : c < h.w := ht c (by simp)
    have hg := go_lt o ha hc
    exact .step (u := [c + 97]) (.inr (.inl ⟨a, c, ha, hc, rfl, rfl, rfl⟩)) ⟨by omega, by omega⟩ (room_via o he t _ hg (fun d hd => ht d (by simp [hd])) hl)
theorem via_begin {h : Hall} (o : h.Ok) {e : Nat} (he : h.n < e) {w : List Nat} {i j : Nat} (p : Via (T0 h e) (fun m => 1 ≤ m ∧ m ≤ h.n) i j w) (hi : i = 0) (hj : j = e) : ∃ t, Val h.w t ∧ w = tunC t ∧ h.lit (h.run 0 t) = 1 := by
  have n1 := o.n1
  cases p with
  | one hT =>
    rcases hT with ⟨_, z, _⟩ | ⟨b, c, hb, hc, z, _⟩ | ⟨b, hb, z, _⟩ <;> omega
  | step hT hm p =>
    rcases hT with ⟨_, z, rfl⟩ | ⟨b, c, hb, hc, z, _⟩ | ⟨b, hb, z, _⟩
    · rw [List.nil_append]
      exact via_room o he p hj 0 z n1
    · omega
    · omega
theorem via_hall {h : Hall} (o : h.Ok) {e : Nat} (he : h.n < e) {w : List Nat} : Via (T0 h e) (fun m => 1 ≤ m ∧ m ≤ h.n) 0 e w ↔ ∃ t, Val h.w t ∧ w = tunC t ∧ h.lit (h.run 0 t) = 1 := by
  have n1 := o.n1
  constructor
  · exact fun p => via_begin o he p rfl rfl
  · rintro ⟨t, ht, rfl, hl⟩
    exact .step (u := []) (.inl ⟨rfl, rfl, rfl⟩) ⟨Nat.le_refl _, n1⟩ (room_via o he t 0 n1 ht hl)
open PySem L2

/-! ### data that stands still: Z are the addresses that may turn -/
mutual
def Im (H : Hp) (Z : List Addr) : PyData → V → Prop
  | .none, v => v = .non
  | .bool b, v => v = .bl b
  | .int i, v => v = .int i
  | .str s, v => v = .str s
  | .list ds, v => ∃ a xs, v = .ref a ∧ H a = some (.lst xs) ∧ a ∉ Z ∧ ImAll H Z ds xs
  | .tuple ds, v => ∃ a xs, v = .ref a ∧ H a = some (.tup xs) ∧ a ∉ Z ∧ ImAll H Z ds xs
  | .dict _, _ => False
def ImAll (H : Hp) (Z : List Addr) : List PyData → List V → Prop
  | [], xs => xs = []
  | d :: ds, xs => ∃ x r, xs = x :: r ∧ Im H Z d x ∧ ImAll H Z ds r
end

/-! ### what is kept: all but the tables of code objects, which may grow -/
/-- the tables of code objects that may grow, each with the name that its code objects bear -/
class Tb where
  T : List (Addr × Str)
/-- no table -/
def notTab : HO → Bool
  | .tbl _ => false
  | _ => true
/-- no table, and not known to the object -/
def plain : HO → Bool
  | .tbl _ => false
  | .frz _ _ => false
  | _ => true
theorem notTab_iff {o : HO} : notTab o = true ↔ ∀ ps, o ≠ .tbl ps := by
  cases o <;> simp [notTab]
structure Sm [Tb] (H H' : Hp) : Prop where
  keep : ∀ b o, H b = some o → notTab o = true → H' b = some o
  tab : ∀ b ps, H b = some (.tbl ps) → ∃ ps', H' b = some (.tbl ps')
  tabs : LamX.Tabs Tb.T H → LamX.Tabs Tb.T H'
variable [Tb] -- from here on
theorem Sm.of {H H' : Hp} (h : ∀ b o, H b = some o → H' b = some o) : Sm H H' := ⟨fun b o e _ => h b o e, fun b ps e => ⟨ps, h b _ e⟩, fun t => t.ext h⟩
theorem Sm.refl (H : Hp) : Sm H H := .of fun _ _ e => e
theorem Sm.trans {H H1 H2 : Hp} (a : Sm H H1) (b : Sm H1 H2) : Sm H H2 :=
  ⟨fun c o e n => b.keep c o (a.keep c o e n) n, fun c ps e => let ⟨ps', e'⟩ := a.tab c ps e; b.tab c ps' e', fun t => b.tabs (a.tabs t)⟩
theorem Sm.some {H H' : Hp} (s : Sm H H') {b : Addr} {o : HO} (e : H b = Option.some o) : ∃ o', H' b = Option.some o' := by
  cases q : notTab o with
  | true => exact ⟨o, s.keep b o e q⟩
  | false =>
    cases o with
    | tbl ps => obtain ⟨ps', e'⟩ := s.tab b ps e; exact ⟨_, e'⟩
    | _ => cases q
theorem Sm.free {H H' : Hp} (s : Sm H H') {l : Addr} (h : H' l = none) : H l = none := by
  cases q : H l with
  | none => rfl
  | some o =>
    obtain ⟨o', e⟩ := s.some q
    rw [h] at e; cases e
theorem Sm.seq {K : PySem.W.Frag} {H H' : Hp} {a : Addr} {xs : List V} (s : Sm H H') (h : SqL K H a xs) : SqL K H' a xs := by
  rcases h with (q | ⟨o, q⟩) | q
  · exact .inl (.inl (s.keep _ _ q rfl))
  · exact .inl (.inr ⟨o, s.keep _ _ q rfl⟩)
  · exact .inr q
/-- what is outside of Z is kept -/
def Keep (Z : List Addr) (H H' : Hp) : Prop := ∀ a o, a ∉ Z → H a = some o → plain o = true → H' a = some o
theorem plain_nt {o : HO} (h : plain o = true) : notTab o = true := by cases o <;> first | rfl | cases h

mutual
theorem im_keep {H H' : Hp} {Z Z' : List Addr} (k : Keep Z H H') (z : ∀ a o, a ∉ Z → H a = some o → a ∉ Z') : ∀ (d : PyData) (v : V), Im H Z d v → Im H' Z' d v
  | .none, v, h => h
  | .bool b, v, h => h
  | .int i, v, h => h
  | .str s, v, h => h
  | .list ds, v, h => by
    obtain ⟨a, xs, e, h1, h2, h3⟩ := h
    exact ⟨a, xs, e, k a _ h2 h1 rfl, z a _ h2 h1, ims_keep k z ds xs h3⟩
  | .tuple ds, v, h => by
    obtain ⟨a, xs, e, h1, h2, h3⟩ := h
    exact ⟨a, xs, e, k a _ h2 h1 rfl, z a _ h2 h1, ims_keep k z ds xs h3⟩
  | .dict _, v, h => h
theorem ims_keep {H H' : Hp} {Z Z' : List Addr} (k : Keep Z H H') (z : ∀ a o, a ∉ Z → H a = some o → a ∉ Z') : ∀ (ds : List PyData) (xs : List V), ImAll H Z ds xs → ImAll H' Z' ds xs
  | [], xs, h => h
  | d :: ds, xs, h => by
    obtain ⟨x, r, e, h1, h2⟩ := h
    exact ⟨x, r, e, im_keep k z d x h1, ims_keep k z ds r h2⟩
end

theorem Im.keep {H H' : Hp} {Z Z' : List Addr} {d : PyData} {v : V} (h : Im H Z d v) (k : Keep Z H H') (z : ∀ a o, a ∉ Z → H a = some o → a ∉ Z') : Im H' Z' d v := im_keep k z d v h
theorem ImAll.keep {H H' : Hp} {Z Z' : List Addr} {d : List PyData} {v : List V} (h : ImAll H Z d v) (k : Keep Z H H') (z : ∀ a o, a ∉ Z → H a = some o → a ∉ Z') : ImAll H' Z' d v := ims_keep k z d v h
/-! no list within -/
mutual
def noL : PyData → Bool
  | .list _ => false
  | .dict _ => false
  | .tuple ds => noLs ds
  | _ => true
def noLs : List PyData → Bool
  | [] => true
  | d :: ds => noL d && noLs ds
end
theorem noLs_iff : ∀ {ds : List PyData}, noLs ds = true ↔ ∀ d ∈ ds, noL d = true
  | [] => by simp [noLs]
  | d :: ds => by simp [noLs, noLs_iff (ds := ds)]

mutual
theorem im_widen {H : Hp} {Z Z' : List Addr} (z : ∀ a ∈ Z', ∀ xs, H a ≠ some (.tup xs)) : ∀ (d : PyData) (v : V), noL d = true → Im H Z d v → Im H Z' d v
  | .none, v, _, h => h
  | .bool b, v, _, h => h
  | .int i, v, _, h => h
  | .str s, v, _, h => h
  | .list ds, v, n, h => by simp [noL] at n
  | .tuple ds, v, n, h => by
    obtain ⟨a, xs, e, h1, h2, h3⟩ := h
    exact ⟨a, xs, e, h1, fun q => z a q _ h1, ims_widen z ds xs (by simpa [noL] using n) h3⟩
  | .dict _, v, _, h => h
theorem ims_widen {H : Hp} {Z Z' : List Addr} (z : ∀ a ∈ Z', ∀ xs, H a ≠ some (.tup xs)) : ∀ (ds : List PyData) (xs : List V), noLs ds = true → ImAll H Z ds xs → ImAll H Z' ds xs
  | [], xs, _, h => h
  | d :: ds, xs, n, h => by
    obtain ⟨x, r, e, h1, h2⟩ := h
    simp only [noLs, Bool.and_eq_true] at n
    exact ⟨x, r, e, im_widen z d x n.1 h1, ims_widen z ds r n.2 h2⟩
end

theorem ImAll.length {H : Hp} {Z : List Addr} : ∀ {ds : List PyData} {xs : List V}, ImAll H Z ds xs → xs.length = ds.length
  | [], xs, h => by have h : xs = [] := h; subst h; rfl
  | d :: ds, xs, h => by
    obtain ⟨x, r, e, _, h2⟩ := h
    subst e
    simp [ImAll.length h2]
theorem ImAll.get {H : Hp} {Z : List Addr} : ∀ {ds : List PyData} {xs : List V} {i : Nat} {d : PyData}, ImAll H Z ds xs → ds[i]? = some d → ∃ x, xs[i]? = some x ∧ Im H Z d x
  | [], xs, i, d, h, e => by simp at e
  | d0 :: ds, xs, i, d, h, e => by
    obtain ⟨x, r, e1, h1, h2⟩ := h
    subst e1
    cases i with
    | zero => simp at e; subst e; exact ⟨x, rfl, h1⟩
    | succ i => simpa using ImAll.get (i := i) (d := d) h2 (by simpa using e)
theorem ImAll.getX {H : Hp} {Z : List Addr} {ds : List PyData} {xs : List V} {i : Nat} {x : V} (h : ImAll H Z ds xs) (e : xs[i]? = some x) : ∃ d, ds[i]? = some d ∧ Im H Z d x := by
  have hi := (List.getElem?_eq_some_iff.mp e).1
  rw [h.length] at hi
  obtain ⟨y, e1, h1⟩ := h.get (List.getElem?_eq_getElem hi)
  rw [e] at e1; cases e1
  exact ⟨_, List.getElem?_eq_getElem hi, h1⟩
theorem ImAll.nil {H : Hp} {Z : List Addr} : ImAll H Z [] [] := rfl
theorem ImAll.cons {H : Hp} {Z : List Addr} {d : PyData} {ds : List PyData} {x : V} {xs : List V} (h : Im H Z d x) (t : ImAll H Z ds xs) : ImAll H Z (d :: ds) (x :: xs) := ⟨x, xs, rfl, h, t⟩
theorem ImAll.app {H : Hp} {Z : List Addr} : ∀ {ds es : List PyData} {xs ys : List V}, ImAll H Z ds xs → ImAll H Z es ys → ImAll H Z (ds ++ es) (xs ++ ys)
  | [], es, xs, ys, h, h' => by have h : xs = [] := h; subst h; exact h'
  | d :: ds, es, xs, ys, h, h' => by
    obtain ⟨x, r, e, h1, h2⟩ := h
    subst e
    exact ⟨x, r ++ ys, rfl, h1, ImAll.app h2 h'⟩
theorem ImAll.snoc {H : Hp} {Z : List Addr} {ds : List PyData} {d : PyData} {xs : List V} {x : V} (h : ImAll H Z ds xs) (h' : Im H Z d x) : ImAll H Z (ds ++ [d]) (xs ++ [x]) := h.app (ImAll.cons h' ImAll.nil)
theorem ImAll.set {H : Hp} {Z : List Addr} {d : PyData} {x : V} (h' : Im H Z d x) : ∀ {ds : List PyData} {xs : List V} (i : Nat), ImAll H Z ds xs → ImAll H Z (ds.set i d) (xs.set i x)
  | [], xs, i, h => by have h : xs = [] := h; subst h; rfl
  | d0 :: ds, xs, i, h => by
    obtain ⟨y, r, e, h1, h2⟩ := h
    subst e
    cases i with
    | zero => exact ⟨x, r, rfl, h', h2⟩
    | succ i => exact ⟨y, r.set i x, rfl, h1, ImAll.set h' i h2⟩
theorem ImAll.drop {H : Hp} {Z : List Addr} : ∀ {ds : List PyData} {xs : List V} (i : Nat), ImAll H Z ds xs → ImAll H Z (ds.drop i) (xs.drop i)
  | ds, xs, 0, h => by simpa using h
  | [], xs, i + 1, h => by have h : xs = [] := h; subst h; rfl
  | d0 :: ds, xs, i + 1, h => by
    obtain ⟨y, r, e, h1, h2⟩ := h
    subst e
    simpa using ImAll.drop i h2
theorem ImAll.take {H : Hp} {Z : List Addr} : ∀ {ds : List PyData} {xs : List V} (i : Nat), ImAll H Z ds xs → ImAll H Z (ds.take i) (xs.take i)
  | ds, xs, 0, h => by simp [ImAll]
  | [], xs, i + 1, h => by have h : xs = [] := h; subst h; rfl
  | d0 :: ds, xs, i + 1, h => by
    obtain ⟨y, r, e, h1, h2⟩ := h
    subst e
    exact ⟨y, r.take i, by simp, h1, ImAll.take i h2⟩
/-- whole numbers -/
abbrev nD (n : Nat) : PyData := .int (n : Int)
abbrev nV (n : Nat) : V := .int (n : Int)
theorem ImAll.ints {H : Hp} {Z : List Addr} : ∀ (ns : List Int), ImAll H Z (ns.map PyData.int) (ns.map V.int)
  | [] => rfl
  | n :: ns => ⟨_, _, rfl, rfl, ImAll.ints ns⟩
theorem ImAll.nats {H : Hp} {Z : List Addr} : ∀ (ns : List Nat), ImAll H Z (ns.map nD) (ns.map nV)
  | [] => rfl
  | n :: ns => ⟨_, _, rfl, rfl, ImAll.nats ns⟩
theorem ImAll.nats_inv {H : Hp} {Z : List Addr} : ∀ {ns : List Nat} {xs : List V}, ImAll H Z (ns.map nD) xs → xs = ns.map nV
  | [], xs, h => h
  | n :: ns, xs, h => by
    obtain ⟨y, r, e, h1, h2⟩ := h
    subst e
    have h1 : y = nV n := h1
    rw [h1, ImAll.nats_inv h2]; rfl
theorem ImAll.ints_inv {H : Hp} {Z : List Addr} : ∀ {ns : List Int} {xs : List V}, ImAll H Z (ns.map PyData.int) xs → xs = ns.map V.int
  | [], xs, h => h
  | n :: ns, xs, h => by
    obtain ⟨y, r, e, h1, h2⟩ := h
    subst e
    have h1 : y = V.int n := h1
    rw [h1, ImAll.ints_inv h2]; rfl
theorem noL_nats (ns : List Nat) : noLs (ns.map nD) = true := by
  rw [noLs_iff]; intro d hd
  obtain ⟨n, _, rfl⟩ := List.mem_map.mp hd
  rfl

/-! ### cells: what a def holds and turns -/
inductive Cell where
  /-- a list of data -/
  | L (l : Addr) (ds : List PyData)
  /-- a list of lists of data -/
  | LL (l : Addr) (rs : List (Addr × List PyData))
  /-- a dict with whole numbers and texts as keys -/
  | DK (l : Addr) (kvs : List (Key × V))
  /-- any other thing that may turn, and data that it leans on -/
  | X (l : Addr) (o : HO) (ims : List (PyData × V))
def Cell.fp : Cell → List Addr
  | .L l _ => [l]
  | .LL l rs => l :: rs.map (·.1)
  | .DK l _ => [l]
  | .X l _ _ => [l]
def fps (cs : List Cell) : List Addr := cs.flatMap Cell.fp
def Cell.ok (H : Hp) (Z : List Addr) : Cell → Prop
  | .L l ds => ∃ xs, H l = some (.lst xs) ∧ ImAll H Z ds xs
  | .LL l rs => H l = some (.lst (rs.map fun r => V.ref r.1)) ∧ ∀ r ∈ rs, ∃ xs, H r.1 = some (.lst xs) ∧ ImAll H Z r.2 xs
  | .DK l kvs => H l = some (.dK kvs)
  | .X l o ims => H l = some o ∧ ((∀ xs, o ≠ .tup xs) ∧ plain o = true ∧ ∀ q, o ≠ LamX.CodeO l q) ∧ ∀ p ∈ ims, Im H Z p.1 p.2
theorem Cell.ok.keep {H H' : Hp} {Z Z' : List Addr} {c : Cell} (h : c.ok H Z) (k : Keep Z H H') (z : ∀ a o, a ∉ Z → H a = some o → a ∉ Z') (hc : ∀ a ∈ c.fp, ∀ o, H a = some o → plain o = true → H' a = some o) : c.ok H' Z' := by
  cases c with
  | L l ds =>
    obtain ⟨xs, h1, h2⟩ := h
    exact ⟨xs, hc l (by simp [Cell.fp]) _ h1 rfl, h2.keep k z⟩
  | LL l rs =>
    obtain ⟨h1, h2⟩ := h
    refine ⟨hc l (by simp [Cell.fp]) _ h1 rfl, fun r hr => ?_⟩
    obtain ⟨xs, e, i⟩ := h2 r hr
    exact ⟨xs, hc r.1 (by simp [Cell.fp]; exact .inr ⟨_, hr⟩) _ e rfl, i.keep k z⟩
  | DK l kvs => exact hc l (by simp [Cell.fp]) _ h rfl
  | X l o ims => exact ⟨hc l (by simp [Cell.fp]) _ h.1 h.2.1.2.1, h.2.1, fun p hp => (h.2.2 p hp).keep k z⟩
theorem Cell.ok.nt {H : Hp} {Z : List Addr} {c : Cell} (h : c.ok H Z) : ∀ a ∈ c.fp, (∃ o, H a = some o) ∧ ∀ xs, H a ≠ some (.tup xs) := by
  intro a ha
  cases c with
  | L l ds =>
    obtain ⟨xs, h1, h2⟩ := h
    have e : a = l := by simpa [Cell.fp] using ha
    subst e
    exact ⟨⟨_, h1⟩, fun ys q => by rw [h1] at q; cases q⟩
  | LL l rs =>
    obtain ⟨h1, h2⟩ := h
    rcases List.mem_cons.mp ha with e | ha
    · subst e
      exact ⟨⟨_, h1⟩, fun ys q => by rw [h1] at q; cases q⟩
    · obtain ⟨r, hr, e⟩ := List.mem_map.mp ha
      obtain ⟨xs, e1, _⟩ := h2 r hr
      subst e
      exact ⟨⟨_, e1⟩, fun ys q => by rw [e1] at q; cases q⟩
  | DK l kvs =>
    have e : a = l := by simpa [Cell.fp] using ha
    subst e
    have h : H a = some (.dK kvs) := h
    exact ⟨⟨_, h⟩, fun ys q => by rw [h] at q; cases q⟩
  | X l o ims =>
    have e : a = l := by simpa [Cell.fp] using ha
    subst e
    exact ⟨⟨_, h.1⟩, fun ys q => h.2.1.1 ys (Option.some.inj (h.1.symm.trans q))⟩

structure Wd (H0 H : Hp) (cs : List Cell) (ims : List (PyData × V)) : Prop where
  same : Sm H0 H
  new : ∀ a ∈ fps cs, H0 a = none
  nd : (fps cs).Nodup
  ok : ∀ c ∈ cs, c.ok H (fps cs)
  im : ∀ p ∈ ims, Im H (fps cs) p.1 p.2

section
variable {H0 H H' : Hp} {cs : List Cell} {ims : List (PyData × V)}
theorem Wd.start {ims : List (PyData × V)} (h : ∀ p ∈ ims, Im H0 [] p.1 p.2) : Wd H0 H0 [] ims := ⟨Sm.refl _, fun _ h => by simp [fps] at h, by simp [fps], fun _ h => by simp at h, h⟩
theorem Wd.get (w : Wd H0 H cs ims) (i : Nat) {d : PyData} {v : V} (e : ims[i]? = some (d, v) := by rfl) : Im H (fps cs) d v := w.im _ (List.mem_of_getElem? e)
theorem Wd.cell (w : Wd H0 H cs ims) (i : Nat) {c : Cell} (e : cs[i]? = some c := by rfl) : c.ok H (fps cs) := w.ok _ (List.mem_of_getElem? e)
theorem Wd.list (w : Wd H0 H cs ims) (i : Nat) {l : Addr} {ds : List PyData} (e : cs[i]? = some (.L l ds) := by rfl) : ∃ xs, H l = some (.lst xs) ∧ ImAll H (fps cs) ds xs := w.cell i e
theorem Wd.notTup (w : Wd H0 H cs ims) : ∀ a ∈ fps cs, (∃ o, H a = some o) ∧ ∀ xs, H a ≠ some (.tup xs) := by
  intro a ha
  obtain ⟨c, hc, ha⟩ := List.mem_flatMap.mp ha
  exact (w.ok c hc).nt a ha
theorem Wd.add (w : Wd H0 H cs ims) {d : PyData} {v : V} (h : Im H (fps cs) d v) : Wd H0 H cs ((d, v) :: ims) :=
  ⟨w.same, w.new, w.nd, w.ok, fun p hp => by rcases List.mem_cons.mp hp with rfl | hp; exact h; exact w.im p hp⟩
theorem Wd.less {ims' : List (PyData × V)} (w : Wd H0 H cs ims) (h : ∀ p ∈ ims', p ∈ ims) : Wd H0 H cs ims' := ⟨w.same, w.new, w.nd, w.ok, fun p hp => w.im p (h p hp)⟩
/-- all that is tracked is kept -/
theorem Wd.call (w : Wd H0 H cs ims) (s : Sm H H') : Wd H0 H' cs ims := by
  have k : Keep (fps cs) H H' := fun a o _ e n => s.keep a o e (plain_nt n)
  have z : ∀ a o, a ∉ fps cs → H a = some o → a ∉ fps cs := fun a o h _ => h
  exact ⟨w.same.trans s, w.new, w.nd, fun c hc => (w.ok c hc).keep k z fun a _ o e n => s.keep a o e (plain_nt n), fun p hp => (w.im p hp).keep k z⟩
theorem Wd.adopt (w : Wd H0 H cs ims) {d : PyData} {v : V} (n : noL d = true) (h : Im H [] d v) : Im H (fps cs) d v := im_widen (fun a ha xs => (w.notTup a ha).2 xs) _ _ n h
theorem Wd.adoptAll (w : Wd H0 H cs ims) {ds : List PyData} {vs : List V} (n : noLs ds = true) (h : ImAll H [] ds vs) : ImAll H (fps cs) ds vs := ims_widen (fun a ha xs => (w.notTup a ha).2 xs) _ _ n h
theorem Im.bare {Z : List Addr} {d : PyData} {v : V} (h : Im H Z d v) : Im H [] d v := h.keep (fun _ _ _ e _ => e) (fun _ _ _ _ => by simp)
theorem ImAll.bare {Z : List Addr} {d : List PyData} {v : List V} (h : ImAll H Z d v) : ImAll H [] d v := h.keep (fun _ _ _ e _ => e) (fun _ _ _ _ => by simp)
/-- a new object that no cell tells -/
theorem new_at {p : Addr} {o : HO} (hp : H p = none) : ∀ b u, H b = some u → upd H p o b = some u := fun b u e => by rw [upd_ne (ne_of_none e hp)]; exact e
theorem same_new {p : Addr} {o : HO} (hp : H p = none) : Sm H (upd H p o) := .of (new_at hp)
theorem Wd.fresh (w : Wd H0 H cs ims) {p : Addr} (hp : H p = none) : p ∉ fps cs ∧ H0 p = none := by
  refine ⟨fun z => ?_, w.same.free hp⟩
  obtain ⟨o, e⟩ := (w.notTup p z).1
  rw [hp] at e; cases e
theorem Wd.tup (w : Wd H0 H cs ims) {p : Addr} {ds : List PyData} {xs : List V} (hp : H p = none) (h : ImAll H (fps cs) ds xs) : Wd H0 (upd H p (.tup xs)) cs ((.tuple ds, .ref p) :: ims) := by
  have w1 := w.call (same_new (o := .tup xs) hp)
  refine w1.add ⟨p, xs, rfl, upd_same, (w.fresh hp).1, h.keep (fun a o _ e _ => new_at hp a o e) fun a o h _ => h⟩
/-- a new list that stands still -/
theorem Wd.frz (w : Wd H0 H cs ims) {p : Addr} {ds : List PyData} {xs : List V} (hp : H p = none) (h : ImAll H (fps cs) ds xs) : Wd H0 (upd H p (.lst xs)) cs ((.list ds, .ref p) :: ims) := by
  have w1 := w.call (same_new (o := .lst xs) hp)
  refine w1.add ⟨p, xs, rfl, upd_same, (w.fresh hp).1, h.keep (fun a o _ e _ => new_at hp a o e) fun a o h _ => h⟩
/-- a new cell -/
theorem Wd.push (w : Wd H0 H cs ims) {p : Addr} {o : HO} {c : Cell} (hp : H p = none) (hfp : c.fp = [p]) (hok : c.ok (upd H p o) (p :: fps cs)) : Wd H0 (upd H p o) (c :: cs) ims := by
  have s := same_new (o := o) hp
  have k : Keep (fps cs) H (upd H p o) := fun a o _ e n => s.keep a o e (plain_nt n)
  have z : ∀ a o, a ∉ fps cs → H a = some o → a ∉ p :: fps cs := fun a o h e q => by
    rcases List.mem_cons.mp q with rfl | q
    · rw [hp] at e; cases e
    · exact h q
  have f := w.fresh hp
  have e : fps (c :: cs) = p :: fps cs := by simp [fps, hfp]
  refine ⟨w.same.trans s, fun a ha => ?_, ?_, fun c' hc => ?_, fun q hq => ?_⟩
  · rw [e] at ha
    rcases List.mem_cons.mp ha with rfl | ha
    · exact f.2
    · exact w.new a ha
  · rw [e]; exact List.nodup_cons.mpr ⟨f.1, w.nd⟩
  · rw [e]
    rcases List.mem_cons.mp hc with rfl | hc
    · exact hok
    · exact (w.ok c' hc).keep k z fun a _ o e n => s.keep a o e (plain_nt n)
  · rw [e]; exact (w.im q hq).keep k z
theorem Wd.pushL (w : Wd H0 H cs ims) {p : Addr} {ds : List PyData} {xs : List V} (hp : H p = none) (h : ImAll H (fps cs) ds xs) : Wd H0 (upd H p (.lst xs)) (.L p ds :: cs) ims := by
  refine w.push hp rfl ⟨xs, upd_same, h.keep (fun a o _ e _ => new_at hp a o e) fun a o h e q => ?_⟩
  rcases List.mem_cons.mp q with rfl | q
  · rw [hp] at e; cases e
  · exact h q
theorem Wd.pushD (w : Wd H0 H cs ims) {p : Addr} {kvs : List (Key × V)} (hp : H p = none) : Wd H0 (upd H p (.dK kvs)) (.DK p kvs :: cs) ims := w.push hp rfl upd_same
/-- an address that is new and no table is turned -/
theorem Sm.setAt {l : Addr} {o u : HO} (s : Sm H0 H) (n : H0 l = none) (hl : H l = Option.some u) (hu : ∀ ps, u ≠ .tbl ps) (hc : ∀ q, u ≠ LamX.CodeO l q) : Sm H0 (upd H l o) := by
  refine ⟨fun b v e q => ?_, fun b ps e => ?_, fun t p hp => ?_⟩
  · rw [upd_ne (ne_of_none e n)]; exact s.keep b v e q
  · rw [upd_ne (ne_of_none e n)]; exact s.tab b ps e
  · obtain ⟨ps, h1, h2, h3⟩ := s.tabs t p hp
    have ne : p.1 ≠ l := fun z => by rw [z, hl] at h1; exact hu ps (Option.some.inj h1)
    refine ⟨ps, by rw [upd_ne ne]; exact h1, h2, fun pos cv hcv => ?_⟩
    obtain ⟨c, e1, e2⟩ := h3 pos cv hcv
    have ne2 : c ≠ l := fun z => by rw [z, hl] at e2; exact hc _ (Option.some.inj e2)
    exact ⟨c, e1, by rw [upd_ne ne2]; exact e2⟩
theorem Cell.ok.nx {Z : List Addr} {c : Cell} (h : c.ok H Z) {a : Addr} (ha : a ∈ c.fp) : ∃ u, H a = some u ∧ plain u = true ∧ (∀ q, u ≠ LamX.CodeO a q) := by
  have nl : ∀ xs q, HO.lst xs ≠ LamX.CodeO a q := fun xs q e => by unfold LamX.CodeO at e; cases e
  cases c with
  | L l ds =>
    obtain ⟨xs, h1, h2⟩ := h
    have e : a = l := by simpa [Cell.fp] using ha
    subst e
    exact ⟨_, h1, rfl, nl _⟩
  | LL l rs =>
    obtain ⟨h1, h2⟩ := h
    rcases List.mem_cons.mp ha with e | ha
    · subst e
      exact ⟨_, h1, rfl, nl _⟩
    · obtain ⟨r, hr, e⟩ := List.mem_map.mp ha
      obtain ⟨xs, e1, _⟩ := h2 r hr
      subst e
      exact ⟨_, e1, rfl, nl _⟩
  | DK l kvs =>
    have e : a = l := by simpa [Cell.fp] using ha
    subst e
    exact ⟨_, h, rfl, fun q e => by unfold LamX.CodeO at e; cases e⟩
  | X l o ims =>
    have e : a = l := by simpa [Cell.fp] using ha
    subst e
    exact ⟨_, h.1, h.2.1.2.1, h.2.1.2.2⟩
theorem Wd.updSm (w : Wd H0 H cs ims) {l : Addr} {o : HO} (hl : l ∈ fps cs) : Sm H0 (upd H l o) := by
  obtain ⟨c, hc, ha⟩ := List.mem_flatMap.mp hl
  obtain ⟨u, e1, e2, e3⟩ := (w.ok c hc).nx ha
  exact w.same.setAt (w.new l hl) e1 (notTab_iff.mp (plain_nt e2)) e3
/-- a cell turns; its addresses stay -/
theorem Wd.turn (w : Wd H0 H cs ims) (i : Nat) {c c' : Cell} {l : Addr} {o : HO} (e : cs[i]? = some c) (hl : l ∈ c.fp) (hf : c'.fp = c.fp) (hok : c'.ok (upd H l o) (fps cs)) : Wd H0 (upd H l o) (cs.set i c') ims := by
  have hl' : l ∈ fps cs := List.mem_flatMap.mpr ⟨c, List.mem_of_getElem? e, hl⟩
  have k : Keep (fps cs) H (upd H l o) := fun a u h e _ => by rw [upd_ne (fun q => by subst q; exact h hl')]; exact e
  have z : ∀ a o, a ∉ fps cs → H a = some o → a ∉ fps cs := fun a o h _ => h
  have ef : fps (cs.set i c') = fps cs := by
    unfold fps
    have : ∀ (l : List Cell) (i : Nat), l[i]? = some c → (l.set i c').flatMap Cell.fp = l.flatMap Cell.fp := by
      intro l
      induction l with
      | nil => intro i h; simp at h
      | cons a r ih =>
        intro i h
        cases i with
        | zero => simp at h; subst h; simp [hf]
        | succ i => simp [ih i (by simpa using h)]
    exact this cs i e
  refine ⟨w.updSm hl', fun a ha => w.new a (ef ▸ ha), by rw [ef]; exact w.nd, fun c'' hc => ?_, fun q hq => ?_⟩
  · rw [ef]
    obtain ⟨j, hj⟩ := List.getElem?_of_mem hc
    by_cases hij : j = i
    · subst hij
      have hlt : j < cs.length := (List.getElem?_eq_some_iff.mp e).1
      rw [List.getElem?_set_self hlt] at hj
      cases hj
      exact hok
    · rw [List.getElem?_set_ne (Ne.symm hij)] at hj
      have hm := List.mem_of_getElem? hj
      refine (w.ok c'' hm).keep k z fun a ha u q _ => ?_
      rw [upd_ne ?_]; exact q
      intro z; subst z
      -- two cells share an address
      have nd := w.nd
      unfold fps at nd
      have := List.pairwise_flatMap.mp (List.nodup_iff_pairwise_ne.mp nd)
      have key : ∀ (l : List Cell) (i j : Nat) (c c'' : Cell) (a : Addr), List.Pairwise (fun a₁ a₂ => ∀ x ∈ Cell.fp a₁, ∀ y ∈ Cell.fp a₂, x ≠ y) l → l[i]? = some c → l[j]? = some c'' → j ≠ i → a ∈ c.fp → a ∈ c''.fp → False := by
        intro l i j c c'' a hp h1 h2 hij h3 h4
        rcases Nat.lt_or_gt_of_ne hij with q | q
        · obtain ⟨hi, ei⟩ := List.getElem?_eq_some_iff.mp h1
          obtain ⟨hj, ej⟩ := List.getElem?_eq_some_iff.mp h2
          have := List.pairwise_iff_getElem.mp hp j i hj hi q
          rw [ei, ej] at this
          exact this a h4 a h3 rfl
        · obtain ⟨hi, ei⟩ := List.getElem?_eq_some_iff.mp h1
          obtain ⟨hj, ej⟩ := List.getElem?_eq_some_iff.mp h2
          have := List.pairwise_iff_getElem.mp hp i j hi hj q
          rw [ei, ej] at this
          exact this a h3 a h4 rfl
      exact key cs i j c c'' a this.2 e hj hij hl ha
  · rw [ef]; exact (w.im q hq).keep k z
theorem Wd.keepL (w : Wd H0 H cs ims) {l : Addr} {o : HO} (hl : l ∈ fps cs) {ds : List PyData} {xs : List V} (h : ImAll H (fps cs) ds xs) : ImAll (upd H l o) (fps cs) ds xs :=
  h.keep (fun a u h e _ => by rw [upd_ne (fun q => by subst q; exact h hl)]; exact e) fun a o h _ => h
theorem Wd.turnL (w : Wd H0 H cs ims) (i : Nat) {l : Addr} {ds ds' : List PyData} {xs : List V} (e : cs[i]? = some (.L l ds)) (h : ImAll H (fps cs) ds' xs) : Wd H0 (upd H l (.lst xs)) (cs.set i (.L l ds')) ims := by
  have hl : l ∈ fps cs := List.mem_flatMap.mpr ⟨_, List.mem_of_getElem? e, by simp [Cell.fp]⟩
  exact w.turn i e (by simp [Cell.fp]) rfl ⟨xs, upd_same, w.keepL hl h⟩
theorem Wd.turnD (w : Wd H0 H cs ims) (i : Nat) {l : Addr} {kvs kvs' : List (Key × V)} (e : cs[i]? = some (.DK l kvs)) : Wd H0 (upd H l (.dK kvs')) (cs.set i (.DK l kvs')) ims :=
  w.turn i e (by simp [Cell.fp]) rfl upd_same
/-- the first cell is let go -/
theorem Wd.pop {c : Cell} (w : Wd H0 H (c :: cs) ims) : Wd H0 H cs ims := by
  have sub : ∀ a, a ∈ fps cs → a ∈ fps (c :: cs) := fun a h => by
    show a ∈ c.fp ++ fps cs
    exact List.mem_append_right _ h
  have k : Keep (fps (c :: cs)) H H := fun _ _ _ e _ => e
  have z : ∀ a o, a ∉ fps (c :: cs) → H a = some o → a ∉ fps cs := fun a o h _ q => h (sub a q)
  refine ⟨w.same, fun a h => w.new a (sub a h), ?_, fun c' hc => ?_, fun p hp => (w.im p hp).keep k z⟩
  · have := w.nd
    exact (List.nodup_append.mp (show (c.fp ++ fps cs).Nodup from this)).2.1
  · exact (w.ok c' (List.mem_cons_of_mem _ hc)).keep k z fun a _ o e _ => e
end

/-! ### equality -/
mutual
theorem Im.dp {K : PySem.W.Frag} {H : Hp} {Z : List Addr} : ∀ (d : PyData) (v : V), Im H Z d v → Dp K H v d
  | .none, v, h => by have h : v = .non := h; subst h; exact .non
  | .bool b, v, h => by have h : v = .bl b := h; subst h; exact .bl b
  | .int i, v, h => by have h : v = .int i := h; subst h; exact .int i
  | .str s, v, h => by have h : v = .str s := h; subst h; exact .str s
  | .list ds, v, h => by
    obtain ⟨a, xs, e, h1, h2, h3⟩ := h
    subst e
    exact .lst (SqL.of h1) (ImAll.dp ds xs h3)
  | .tuple ds, v, h => by
    obtain ⟨a, xs, e, h1, h2, h3⟩ := h
    subst e
    exact .tup (SqT.of h1) (ImAll.dp ds xs h3)
  | .dict _, v, h => by cases h
theorem ImAll.dp {K : PySem.W.Frag} {H : Hp} {Z : List Addr} : ∀ (ds : List PyData) (xs : List V), ImAll H Z ds xs → DpAll K H xs ds
  | [], xs, h => by have h : xs = [] := h; subst h; exact .nil
  | d :: ds, xs, h => by
    obtain ⟨x, r, e, h1, h2⟩ := h
    subst e
    exact .cons (Im.dp d x h1) (ImAll.dp ds r h2)
end

theorem Wd.dp {K : PySem.W.Frag} {H0 H : Hp} {cs : List Cell} {ims : List (PyData × V)} (w : Wd H0 H cs ims) (i : Nat) {l : Addr} {ds : List PyData} (e : cs[i]? = some (.L l ds) := by rfl) : Dp K H (.ref l) (.list ds) := by
  obtain ⟨xs, h1, h2⟩ := w.list i e
  exact .lst (SqL.of h1) (ImAll.dp _ _ h2)
/-! ### subscripts by data -/
section
variable {X : Cx}
/-- t[i] of data -/
def rIxI : R2 := fun x y H Q => ∃ (Z : List Addr) (ds : List PyData) (i : Int) (d : PyData), Im H Z (.tuple ds) x ∧ y = .int i ∧ atI ds i = some d ∧ ∀ v, Im H Z d v → Q v H
theorem atI_map {H : Hp} {Z : List Addr} {ds : List PyData} {xs : List V} {i : Int} {d : PyData} (h : ImAll H Z ds xs) (e : atI ds i = some d) : ∃ v, atI xs i = some v ∧ Im H Z d v := by
  unfold atI at e ⊢
  rw [h.length]
  cases q : ixN ds.length i with
  | none => rw [q] at e; cases e
  | some j =>
    rw [q] at e
    exact h.get e
theorem ix_im : IxR X rIxI := by
  have base := ix_tup (X := X)
  intro value slice pins s σ H x y v u Q I rx ry h hs
  obtain ⟨Z, ds, i, d, ⟨a, xs, e1, e2, e3, e4⟩, e5, e6, q⟩ := h
  obtain ⟨w, f1, f2⟩ := atI_map e4 e6
  exact base value slice pins s σ H x y v u Q I rx ry ⟨a, xs, i, w, e1, e5, SqT.of e2, f1, q w f2⟩ hs
end
/-! ### comprehensions that fill a cell -/
theorem wipe_set (σ : St) (j : Nat) (x : Option V) : wipe ((wipe σ [j]).set j x) [j] = wipe σ [j] := by
  show ((σ.set j none).set j x).set j none = σ.set j none
  rw [List.set_set, List.set_set]
section
variable {H0 H1 : Hp} {cs : List Cell} {ims : List (PyData × V)} {tt : TT} {te : TE} {j : Nat} {σ : St} {D : Addr} {Qd : Hp → Prop}
theorem Wd.grow {H : Hp} {acc : List PyData} (w : Wd H0 H (.L D acc :: cs) ims) {d : PyData} {y : V} (h : Im H (fps (.L D acc :: cs)) d y) : ∃ xs, H D = some (.lst xs) ∧ xs.length = acc.length ∧ Wd H0 (upd H D (.lst (xs ++ [y]))) (.L D (acc ++ [d]) :: cs) ims := by
  obtain ⟨xs, e, i⟩ := w.list 0
  exact ⟨xs, e, i.length, w.turnL 0 rfl (i.snoc h)⟩
/-- one turn's wish -/
def CompTurn (H0 : Hp) (cs : List Cell) (ims : List (PyData × V)) (tt : TT) (te : TE) (D : Addr) (g : Nat → List PyData) (i : Nat) (σ : St) (H : Hp) : Prop :=
  ∀ (Qt : V → Hp → Prop) (Qf : Hp → Prop), (∀ y H4 d, Wd H0 H4 (.L D (g i) :: cs) ims → Im H4 (fps (.L D (g i) :: cs)) d y → g (i + 1) = g i ++ [d] → Qt y H4) → (∀ H3, Wd H0 H3 (.L D (g i) :: cs) ims → g (i + 1) = g i → Qf H3) →
    tt σ H fun b H3 => if b = true then te σ H3 Qt else Qf H3
theorem CompTurn.use {g : Nat → List PyData} {i : Nat} {σ' : St} {H : Hp} (h : CompTurn H0 cs ims tt te D g i σ' H) (hl : (g i).length < sizeLine) :
    tt σ' H fun b H3 => if b = true then te σ' H3 fun y H4 => ∃ acc, H4 D = some (.lst acc) ∧ acc.length < sizeLine ∧ Wd H0 (upd H4 D (.lst (acc ++ [y]))) (.L D (g (i + 1)) :: cs) ims else Wd H0 H3 (.L D (g (i + 1)) :: cs) ims := by
  refine h _ _ (fun y H4 d w im e => ?_) (fun H3 w e => ?_)
  · obtain ⟨xs, e1, e2, w'⟩ := w.grow im
    rw [e]
    exact ⟨xs, e1, by omega, w'⟩
  · show Wd H0 H3 (.L D (g (i + 1)) :: cs) ims
    rw [e]; exact w
theorem lc_rangeW (g : Nat → List PyData) {n : Nat} (w : Wd H0 H1 cs ims) (hD : H1 D = none) (h0 : g 0 = []) (hl : ∀ i, i < n → (g i).length < sizeLine)
    (hs : ∀ i H, i < n → Wd H0 H (.L D (g i) :: cs) ims → CompTurn H0 cs ims tt te D g i ((wipe σ [j]).set j (some (nV i))) H) (hd : ∀ H, Wd H0 H (.L D (g n) :: cs) ims → Qd H) :
    ∃ W : Nat → Nat → Hp → Prop, (∃ m, W 0 m (upd H1 D (.lst []))) ∧ ∀ i m H, W i m H →
      ((Itr 0 n).stop i H ∧ Qd H) ∨ ((Itr 0 n).go i H ∧ ∃ Nx : Hp → Prop, (∀ H', Nx H' → ∃ m', m' < m ∧ W (i + 1) m' H') ∧ ∀ x H', (Itr 0 n).yld i H x H' → gName j x (wipe σ [j]) H' fun σ2 H2 => wipe σ2 [j] = wipe σ [j] ∧ tt σ2 H2 fun b H3 =>
        if b = true then te σ2 H3 fun y H4 => ∃ acc, H4 D = some (.lst acc) ∧ acc.length < sizeLine ∧ Nx (upd H4 D (.lst (acc ++ [y]))) else Nx H3) := by
  refine lc_range (fun i H => Wd H0 H (.L D (g i) :: cs) ims) (by rw [h0]; exact w.pushL hD ImAll.nil) (fun i H hi w => ?_) hd
  refine ⟨wipe_set _ _ _, ?_⟩
  have e : V.int (0 + (i : Int)) = nV i := by simp
  rw [e]
  exact (hs i H hi w).use (hl i hi)
theorem lc_listW {K : PySem.W.Frag} {a : Addr} {xs : List V} (g : Nat → List PyData) (w : Wd H0 H1 cs ims) (hD : H1 D = none) (h0 : g 0 = []) (hl : ∀ i, i < xs.length → (g i).length < sizeLine) (hL : ∀ i H, i ≤ xs.length → Wd H0 H (.L D (g i) :: cs) ims → SqL K H a xs)
    (hs : ∀ i x H, xs[i]? = some x → Wd H0 H (.L D (g i) :: cs) ims → CompTurn H0 cs ims tt te D g i ((wipe σ [j]).set j (some x)) H) (hd : ∀ H, Wd H0 H (.L D (g xs.length) :: cs) ims → Qd H) :
    ∃ W : Nat → Nat → Hp → Prop, (∃ m, W 0 m (upd H1 D (.lst []))) ∧ ∀ i m H, W i m H →
      ((Itl K a).stop i H ∧ Qd H) ∨ ((Itl K a).go i H ∧ ∃ Nx : Hp → Prop, (∀ H', Nx H' → ∃ m', m' < m ∧ W (i + 1) m' H') ∧ ∀ x H', (Itl K a).yld i H x H' → gName j x (wipe σ [j]) H' fun σ2 H2 => wipe σ2 [j] = wipe σ [j] ∧ tt σ2 H2 fun b H3 =>
        if b = true then te σ2 H3 fun y H4 => ∃ acc, H4 D = some (.lst acc) ∧ acc.length < sizeLine ∧ Nx (upd H4 D (.lst (acc ++ [y]))) else Nx H3) := by
  refine lc_list (fun i H => Wd H0 H (.L D (g i) :: cs) ims) (by rw [h0]; exact w.pushL hD ImAll.nil) hL (fun i x H hi w => ?_) hd
  exact ⟨wipe_set _ _ _, (hs i x H hi w).use (hl i (List.getElem?_eq_some_iff.mp hi).1)⟩
theorem lc_tupW {K : PySem.W.Frag} {a : Addr} {xs : List V} (g : Nat → List PyData) (w : Wd H0 H1 cs ims) (hD : H1 D = none) (h0 : g 0 = []) (hl : ∀ i, i < xs.length → (g i).length < sizeLine) (hL : ∀ i H, i ≤ xs.length → Wd H0 H (.L D (g i) :: cs) ims → SqT K H a xs)
    (hs : ∀ i x H, xs[i]? = some x → Wd H0 H (.L D (g i) :: cs) ims → CompTurn H0 cs ims tt te D g i ((wipe σ [j]).set j (some x)) H) (hd : ∀ H, Wd H0 H (.L D (g xs.length) :: cs) ims → Qd H) :
    ∃ W : Nat → Nat → Hp → Prop, (∃ m, W 0 m (upd H1 D (.lst []))) ∧ ∀ i m H, W i m H →
      ((Itt K a).stop i H ∧ Qd H) ∨ ((Itt K a).go i H ∧ ∃ Nx : Hp → Prop, (∀ H', Nx H' → ∃ m', m' < m ∧ W (i + 1) m' H') ∧ ∀ x H', (Itt K a).yld i H x H' → gName j x (wipe σ [j]) H' fun σ2 H2 => wipe σ2 [j] = wipe σ [j] ∧ tt σ2 H2 fun b H3 =>
        if b = true then te σ2 H3 fun y H4 => ∃ acc, H4 D = some (.lst acc) ∧ acc.length < sizeLine ∧ Nx (upd H4 D (.lst (acc ++ [y]))) else Nx H3) := by
  refine lc_tup (fun i H => Wd H0 H (.L D (g i) :: cs) ims) (by rw [h0]; exact w.pushL hD ImAll.nil) hL (fun i x H hi w => ?_) hd
  exact ⟨wipe_set _ _ _, (hs i x H hi w).use (hl i (List.getElem?_eq_some_iff.mp hi).1)⟩
/-- no test: each item gives one -/
theorem CompTurn.all {g : Nat → List PyData} {i : Nat} {σ' : St} {H : Hp} (h : ∀ Qt : V → Hp → Prop, (∀ y H4 d, Wd H0 H4 (.L D (g i) :: cs) ims → Im H4 (fps (.L D (g i) :: cs)) d y → g (i + 1) = g i ++ [d] → Qt y H4) → te σ' H Qt) : CompTurn H0 cs ims tYes te D g i σ' H := by
  intro Qt Qf h1 h2
  show if true = true then te σ' H Qt else Qf H
  exact iteT (h Qt h1)
end
theorem map_range_succ {α : Type} (f : Nat → α) (i : Nat) : (List.range (i + 1)).map f = (List.range i).map f ++ [f i] := by
  rw [List.range_succ, List.map_append]; rfl
theorem filter_range_t {α : Type} (p : Nat → Bool) (f : Nat → α) {i : Nat} (h : p i = true) : ((List.range (i + 1)).filter p).map f = ((List.range i).filter p).map f ++ [f i] := by
  rw [List.range_succ, List.filter_append, List.map_append]; simp [h]
theorem filter_range_f {α : Type} (p : Nat → Bool) (f : Nat → α) {i : Nat} (h : p i = false) : ((List.range (i + 1)).filter p).map f = ((List.range i).filter p).map f := by
  rw [List.range_succ, List.filter_append, List.map_append]; simp [h]
theorem filter_len (p : Nat → Bool) (i : Nat) : ((List.range i).filter p).length ≤ i := by
  have := List.length_filter_le p (List.range i)
  rwa [List.length_range] at this
theorem isEmpty_len {α β : Type} {l : List α} {m : List β} (h : l.length = m.length) : l.isEmpty = m.isEmpty := by
  cases l <;> cases m <;> simp_all
theorem sl_small {n : Nat} (h : n ≤ 1000000) : n < sizeLine := Nat.lt_of_le_of_lt h (by decide)
theorem dec_nV (m k : Nat) : decide (nV m = nV k) = decide (m = k) := by
  by_cases h : m = k
  · subst h; simp
  · rw [decide_eq_false h, decide_eq_false]
    intro q; injection q with q; exact h (by omega)
/-! ### calls -/
/-- the def named x stands at the top and keeps its promise -/
structure Cal (P : Program) (w : World) (K : PySem.W.Frag) (mg : Str → Option Value) (base : Heap) (CX : CXT) (k : Nat) (x : Str) (ps : List Str) (sp : Sp) : Prop where
  ex : ∃ f fd, FnOk P w K mg base CX k f fd ps sp ∧ mg x = some (.ref f) ∧ PySem.W.keepIn K (.ref f) = true ∧ Binds K fd ps []
section
variable {X : Cx}
theorem pe_fn {k k' : Nat} {x : Str} {ps : List Str} {sp : Sp} {e : Expr} {es : List Expr} {t : TA} {p pos : Pos} (C : Cal X.prog X.w X.K X.mg X.base CX0 k x ps sp) (hr : Room k' X.A) (hk : k ≤ k') (hg : Gl X x) (ha : PA X (e :: es) t)
    (hd : (x == ("__debug__" : Str)) = false := by decide) (he : starEach (e :: es) X.env = (false, eval e X.env) :: starEach es X.env := by rfl) (hpl : (backTo pos (starEach es X.env)).any (·.1) = false := by rfl) : PE X (.Call (.Name x p) (e :: es) [] pos) (tCall sp [] E0 t) := by
  obtain ⟨f, fd, F, hm, hkp, hb⟩ := C.ex
  exact pe_call F (hr.mono hk) hg hm hkp hb .nil pass0 ha hd he hpl
/-- two ways come together -/
def tJoin (t u : TS) : TS := fun D σ H => ∃ Mid : St → Hp → Prop, t { D with nx := Mid } σ H ∧ ∀ σ' H', Mid σ' H' → u D σ' H'
theorem pss_join {st : Stmt} {rest : List Stmt} {t u : TS} (h1 : PS X st t) (h2 : PSs X rest u) : PSs X (st :: rest) (tJoin t u) := by
  refine ⟨fun pins s σ H D I h => ?_⟩
  obtain ⟨Mid, ht, hu⟩ := h
  refine wpAny_execs_cons (thn (h1.run pins s σ H { D with nx := Mid } I ht) fun f s1 q => ?_)
  cases f with
  | next =>
    obtain ⟨σ', H', I', q⟩ := q
    exact h2.run pins s1 σ' H' D I' (hu σ' H' q)
  | ret v => exact q
  | brk => exact q
  | cont => exact q
end
/-! ### natural numbers -/
def rN (g : Nat → Nat → V) : R2 := fun x y H Q => ∃ n m : Nat, x = nV n ∧ y = nV m ∧ Q (g n m) H
def rNC (C : Nat → Nat → Prop) (g : Nat → Nat → V) : R2 := fun x y H Q => ∃ n m : Nat, x = nV n ∧ y = nV m ∧ C n m ∧ Q (g n m) H
section
variable {X : Cx}
theorem oN_add : OpR X (binaryOp .Add) (rN fun n m => nV (n + m)) := by
  intro pins s σ H x y v u Q I rx ry h
  obtain ⟨n, m, rfl, rfl, q⟩ := h
  refine op_add pins s σ H _ _ v u Q I rx ry ⟨_, _, rfl, rfl, ?_⟩
  show Q (.int ((n : Int) + m)) H
  rw [← Int.natCast_add]; exact q
theorem oN_sub : OpR X (binaryOp .Sub) (rNC (fun n m => m ≤ n) fun n m => nV (n - m)) := by
  intro pins s σ H x y v u Q I rx ry h
  obtain ⟨n, m, rfl, rfl, c, q⟩ := h
  refine op_sub pins s σ H _ _ v u Q I rx ry ⟨_, _, rfl, rfl, ?_⟩
  show Q (.int ((n : Int) - m)) H
  rw [← Int.ofNat_sub c]; exact q
theorem oN_mul : OpR X (binaryOp .Mult) (rNC (fun n _ => n ≤ 1000000000) fun n m => nV (n * m)) := by
  intro pins s σ H x y v u Q I rx ry h
  obtain ⟨n, m, rfl, rfl, c, q⟩ := h
  refine op_mul pins s σ H _ _ v u Q I rx ry ⟨_, _, rfl, rfl, .inl ⟨by omega, by omega⟩, ?_⟩
  show Q (.int ((n : Int) * m)) H
  rw [← Int.natCast_mul]; exact q
theorem oN_mod : OpR X (binaryOp .Mod) (rNC (fun _ m => 0 < m) fun n m => nV (n % m)) := by
  intro pins s σ H x y v u Q I rx ry h
  obtain ⟨n, m, rfl, rfl, c, q⟩ := h
  refine op_mod pins s σ H _ _ v u Q I rx ry ⟨_, _, rfl, rfl, (by show (0 : Int) < _; omega), ?_⟩
  show Q (.int ((n : Int) % m)) H
  rw [← Int.natCast_emod]; exact q
theorem dec_int (m k : Nat) : decide ((m : Int) < (k : Int)) = decide (m < k) := by
  by_cases h : m < k
  · rw [decide_eq_true h, decide_eq_true]; omega
  · rw [decide_eq_false h, decide_eq_false]; omega
theorem dec_inte (m k : Nat) : decide ((m : Int) ≤ (k : Int)) = decide (m ≤ k) := by
  by_cases h : m ≤ k
  · rw [decide_eq_true h, decide_eq_true]; omega
  · rw [decide_eq_false h, decide_eq_false]; omega
theorem oN_lt : OpR X (compareOp .Lt) (rN fun n m => .bl (decide (n < m))) := by
  intro pins s σ H x y v u Q I rx ry h
  obtain ⟨n, m, rfl, rfl, q⟩ := h
  refine op_lt pins s σ H _ _ v u Q I rx ry ⟨_, _, rfl, rfl, ?_⟩
  show Q (.bl (decide ((n : Int) < m))) H
  rw [dec_int]; exact q
theorem oN_le : OpR X (compareOp .LtE) (rN fun n m => .bl (decide (n ≤ m))) := by
  intro pins s σ H x y v u Q I rx ry h
  obtain ⟨n, m, rfl, rfl, q⟩ := h
  refine op_le pins s σ H _ _ v u Q I rx ry ⟨_, _, rfl, rfl, ?_⟩
  show Q (.bl (decide ((n : Int) ≤ m))) H
  rw [dec_inte]; exact q
theorem oN_gt : OpR X (compareOp .Gt) (rN fun n m => .bl (decide (m < n))) := by
  intro pins s σ H x y v u Q I rx ry h
  obtain ⟨n, m, rfl, rfl, q⟩ := h
  refine op_gt pins s σ H _ _ v u Q I rx ry ⟨_, _, rfl, rfl, ?_⟩
  show Q (.bl (decide ((m : Int) < n))) H
  rw [dec_int]; exact q
theorem oN_ge : OpR X (compareOp .GtE) (rN fun n m => .bl (decide (m ≤ n))) := by
  intro pins s σ H x y v u Q I rx ry h
  obtain ⟨n, m, rfl, rfl, q⟩ := h
  refine op_ge pins s σ H _ _ v u Q I rx ry ⟨_, _, rfl, rfl, ?_⟩
  show Q (.bl (decide ((m : Int) ≤ n))) H
  rw [dec_inte]; exact q
theorem oN_eq : OpR X (compareOp .Eq) (rN fun n m => .bl (decide (n = m))) := by
  intro pins s σ H x y v u Q I rx ry h
  obtain ⟨n, m, rfl, rfl, q⟩ := h
  refine op_eq pins s σ H _ _ v u Q I rx ry ⟨rfl, ?_⟩
  rw [dec_nV]; exact q
theorem oN_ne : OpR X (compareOp .NotEq) (rN fun n m => .bl (!decide (n = m))) := by
  intro pins s σ H x y v u Q I rx ry h
  obtain ⟨n, m, rfl, rfl, q⟩ := h
  refine op_ne pins s σ H _ _ v u Q I rx ry ⟨rfl, ?_⟩
  rw [dec_nV]; exact q
/-- range(n) -/
def iRngN (ta : TA) : TI := fun σ H R => ta σ H fun vs H1 => ∃ n : Nat, vs = [nV n] ∧ n ≤ 1000000000 ∧ R (Itr 0 n) H1
theorem pi_rngN {tg a : Expr} {ta : TA} {p pos : Pos} (hg : Gl X "range") (hm : X.mg "range" = none) (ha : PA X [a] ta) (hs : starEach [a] X.env = [(false, eval a X.env)] := by rfl) : PI X tg (.Call (.Name "range" p) [a] [] pos) (iRngN ta) := by
  refine ⟨fun pins s σ H R I h => ?_⟩
  refine PyProof.Rows.Call_ (ld_blt I hg hm PyProof.Rows.boot_range (PyProof.Rows.callWith_type1 (thn (ha.run pos pins s σ H _ I h) fun us s1 ⟨vs, H1, I1, r1, q1⟩ => ?_) hs rfl))
  obtain ⟨n, e, hn, q⟩ := q1
  subst e
  cases r1 with
  | cons r rr =>
    cases rr
    obtain ⟨t, rfl⟩ := r
    exact PySem.call_range_1 (range_it I1 (by omega) (by omega) (by omega) (by omega) (by simpa using q))
end
theorem for_rng {n : Nat} {g : TG} {tb : TS} {D : Ends} {σ : St} {H : Hp} (Pv : Nat → St → Hp → Prop) (h0 : Pv 0 σ H)
    (hs : ∀ i σ H, i < n → Pv i σ H → g (nV i) σ H fun σ2 H2 => tb { D with nx := Pv (i + 1), ct := Pv (i + 1), bk := D.nx } σ2 H2) (hd : ∀ σ H, Pv n σ H → D.nx σ H) :
    ∃ W : Nat → Nat → St → Hp → Prop, (∃ m, W 0 m σ H) ∧ ∀ i m σ H, W i m σ H →
      ((Itr 0 n).stop i H ∧ D.nx σ H) ∨ ((Itr 0 n).go i H ∧ ∃ N : St → Hp → Prop, (∀ σ' H', N σ' H' → ∃ m', m' < m ∧ W (i + 1) m' σ' H') ∧ ∀ x H', (Itr 0 n).yld i H x H' → g x σ H' fun σ2 H2 => tb { D with nx := N, ct := N, bk := D.nx } σ2 H2) := by
  refine for_range Pv h0 (fun i σ H hi p => ?_) hd
  have e : V.int (0 + (i : Int)) = nV i := by simp
  rw [e]
  exact hs i σ H hi p
/-! ### more of cells -/
theorem mem_fps_app {cs cs' : List Cell} {a : Addr} : a ∈ fps (cs ++ cs') ↔ a ∈ fps cs ∨ a ∈ fps cs' := by
  unfold fps; rw [List.flatMap_append, List.mem_append]
theorem fps_cons (c : Cell) (cs : List Cell) : fps (c :: cs) = c.fp ++ fps cs := rfl
/-- no list within the data of a cell -/
def Cell.flat : Cell → Bool
  | .L _ ds => noLs ds
  | .LL _ rs => rs.all fun r => noLs r.2
  | .DK _ _ => true
  | .X _ _ ims => ims.all fun p => noL p.1
theorem Cell.ok.widen {H : Hp} {Z Z' : List Addr} {c : Cell} (h : c.ok H Z) (hf : c.flat = true) (z : ∀ a ∈ Z', ∀ xs, H a ≠ some (.tup xs)) : c.ok H Z' := by
  cases c with
  | L l ds =>
    obtain ⟨xs, h1, h2⟩ := h
    exact ⟨xs, h1, ims_widen z ds xs hf h2⟩
  | LL l rs =>
    obtain ⟨h1, h2⟩ := h
    refine ⟨h1, fun r hr => ?_⟩
    obtain ⟨xs, e, i⟩ := h2 r hr
    exact ⟨xs, e, ims_widen z r.2 xs (List.all_eq_true.mp hf r hr) i⟩
  | DK l kvs => exact h
  | X l o ims => exact ⟨h.1, h.2.1, fun p hp => im_widen z _ _ (List.all_eq_true.mp hf p hp) (h.2.2 p hp)⟩
section
variable {H0 H H' : Hp} {cs cs' : List Cell} {ims ims' : List (PyData × V)}
/-- what a called def has made stands beside what stood -/
theorem Wd.join (w : Wd H0 H cs ims) (w' : Wd H H' cs' ims') (hf : ∀ c ∈ cs', c.flat = true) : Wd H0 H' (cs' ++ cs) ims := by
  have d : ∀ a ∈ fps cs', a ∉ fps cs := fun a ha q => by
    obtain ⟨o, e⟩ := (w.notTup a q).1
    rw [w'.new a ha] at e; cases e
  have k : Keep (fps cs) H H' := fun a o _ e n => w'.same.keep a o e (plain_nt n)
  have z : ∀ a o, a ∉ fps cs → H a = some o → a ∉ fps (cs' ++ cs) := fun a o h e q => by
    rcases mem_fps_app.mp q with q | q
    · rw [w'.new a q] at e; cases e
    · exact h q
  have nt : ∀ a ∈ fps (cs' ++ cs), ∀ xs, H' a ≠ some (.tup xs) := fun a ha xs e => by
    rcases mem_fps_app.mp ha with q | q
    · exact (w'.notTup a q).2 xs e
    · obtain ⟨⟨o, e1⟩, e2⟩ := w.notTup a q
      obtain ⟨c, hc, hac⟩ := List.mem_flatMap.mp q
      obtain ⟨u, e3, e4, _⟩ := (w.ok c hc).nx hac
      rw [e1] at e3; cases e3
      rw [w'.same.keep a o e1 (plain_nt e4)] at e
      cases e
      exact e2 xs e1
  refine ⟨w.same.trans w'.same, fun a ha => ?_, ?_, fun c hc => ?_, fun p hp => (w.im p hp).keep k z⟩
  · rcases mem_fps_app.mp ha with q | q
    · exact w.same.free (w'.new a q)
    · exact w.new a q
  · unfold fps; rw [List.flatMap_append]
    exact List.nodup_append.mpr ⟨w'.nd, w.nd, fun a ha b hb e => d a ha (by rw [e]; exact hb)⟩
  · rcases List.mem_append.mp hc with q | q
    · exact (w'.ok c q).widen (hf c q) nt
    · exact (w.ok c q).keep k z fun a _ o e n => w'.same.keep a o e (plain_nt n)
theorem Wd.join1 (w : Wd H0 H cs ims) {c : Cell} (w' : Wd H H' [c] ims') (hf : c.flat = true) : Wd H0 H' (c :: cs) ims := w.join w' (by simpa using hf)
/-- a row of a list of lists -/
theorem Wd.row (w : Wd H0 H cs ims) (i : Nat) {l : Addr} {rs : List (Addr × List PyData)} {a : Nat} {r : Addr × List PyData} (e : cs[i]? = some (.LL l rs)) (er : rs[a]? = some r) :
    H l = some (.lst (rs.map fun r => V.ref r.1)) ∧ (rs.map fun r => V.ref r.1)[a]? = some (.ref r.1) ∧ ∃ xs, H r.1 = some (.lst xs) ∧ ImAll H (fps cs) r.2 xs := by
  obtain ⟨h1, h2⟩ := w.cell i e
  exact ⟨h1, by rw [List.getElem?_map, er]; rfl, h2 r (List.mem_of_getElem? er)⟩
theorem Wd.turnRow (w : Wd H0 H cs ims) (i : Nat) {l : Addr} {rs : List (Addr × List PyData)} {a : Nat} {r : Addr × List PyData} {ds' : List PyData} {xs' : List V} (e : cs[i]? = some (.LL l rs)) (er : rs[a]? = some r) (h : ImAll H (fps cs) ds' xs') :
    Wd H0 (upd H r.1 (.lst xs')) (cs.set i (.LL l (rs.set a (r.1, ds')))) ims := by
  obtain ⟨h1, h2⟩ := w.cell i e
  have hlt : a < rs.length := (List.getElem?_eq_some_iff.mp er).1
  have hr : r.1 ∈ (Cell.LL l rs).fp := by
    show r.1 ∈ l :: rs.map (·.1)
    exact List.mem_cons_of_mem _ (List.mem_map.mpr ⟨r, List.mem_of_getElem? er, rfl⟩)
  have hl : r.1 ∈ fps cs := List.mem_flatMap.mpr ⟨_, List.mem_of_getElem? e, hr⟩
  have nd : (l :: rs.map (·.1)).Nodup := by
    have q := w.nd
    unfold fps at q
    have key : ∀ (cs : List Cell) (i : Nat) (c : Cell), cs[i]? = some c → (cs.flatMap Cell.fp).Nodup → c.fp.Nodup := by
      intro cs
      induction cs with
      | nil => intro i c h; simp at h
      | cons a t ih =>
        intro i c h n
        rw [List.flatMap_cons] at n
        cases i with
        | zero => simp at h; subst h; exact (List.nodup_append.mp n).1
        | succ i => exact ih i c (by simpa using h) (List.nodup_append.mp n).2.1
    exact key cs i _ e q
  have nel : l ≠ r.1 := fun q => (List.nodup_cons.mp nd).1 (by rw [q]; exact List.mem_map.mpr ⟨r, List.mem_of_getElem? er, rfl⟩)
  have em : (rs.set a (r.1, ds')).map (·.1) = rs.map (·.1) := by
    rw [List.map_set]
    apply List.ext_getElem?
    intro j
    by_cases hj : j = a
    · subst hj
      rw [List.getElem?_set_self (by simpa using hlt), List.getElem?_map, er]; rfl
    · rw [List.getElem?_set_ne (Ne.symm hj)]
  refine w.turn i e hr (by show l :: _ = l :: _; rw [em]) ⟨?_, fun r' hr' => ?_⟩
  · rw [upd_ne nel]
    have : (rs.set a (r.1, ds')).map (fun r => V.ref r.1) = rs.map (fun r => V.ref r.1) := by
      have := congrArg (List.map V.ref) em
      simpa [List.map_map, Function.comp_def] using this
    rw [this]; exact h1
  · obtain ⟨j, hj⟩ := List.getElem?_of_mem hr'
    by_cases hja : j = a
    · subst hja
      rw [List.getElem?_set_self hlt] at hj
      cases hj
      exact ⟨xs', upd_same, w.keepL hl h⟩
    · rw [List.getElem?_set_ne (Ne.symm hja)] at hj
      obtain ⟨xs, e1, i1⟩ := h2 r' (List.mem_of_getElem? hj)
      refine ⟨xs, ?_, w.keepL hl i1⟩
      rw [upd_ne ?_]; exact e1
      intro q
      have n2 := (List.nodup_cons.mp nd).2
      have g1 : (rs.map (·.1))[j]? = some r.1 := by rw [List.getElem?_map, hj]; exact congrArg some q
      have g2 : (rs.map (·.1))[a]? = some r.1 := by rw [List.getElem?_map, er]; rfl
      obtain ⟨p1, p2⟩ := List.getElem?_eq_some_iff.mp g1
      obtain ⟨p3, p4⟩ := List.getElem?_eq_some_iff.mp g2
      exact hja ((List.getElem_inj n2).mp (p2.trans p4.symm))
/-- a list goes into a list of lists -/
theorem Wd.absorb {l r : Addr} {rs : List (Addr × List PyData)} {ds : List PyData} (w : Wd H0 H (.L r ds :: .LL l rs :: cs) ims) : Wd H0 (upd H l (.lst ((rs.map fun r => V.ref r.1) ++ [.ref r]))) (.LL l (rs ++ [(r, ds)]) :: cs) ims := by
  obtain ⟨xs, e1, i1⟩ := w.list 0
  obtain ⟨e2, i2⟩ := w.cell 1 (c := .LL l rs) rfl
  have fe : fps (.L r ds :: .LL l rs :: cs) = r :: l :: (rs.map (·.1) ++ fps cs) := rfl
  have fe' : fps (.LL l (rs ++ [(r, ds)]) :: cs) = l :: ((rs ++ [(r, ds)]).map (·.1) ++ fps cs) := rfl
  have mem : ∀ a, a ∈ fps (.LL l (rs ++ [(r, ds)]) :: cs) ↔ a ∈ fps (.L r ds :: .LL l rs :: cs) := fun a => by
    rw [fe, fe']; simp; grind
  have nd := w.nd
  rw [fe] at nd
  have hlr : l ≠ r := fun q => by subst q; simp at nd
  have hl : l ∈ fps (.L r ds :: .LL l rs :: cs) := by rw [fe]; simp
  have k : Keep (fps (.L r ds :: .LL l rs :: cs)) H (upd H l (.lst ((rs.map fun r => V.ref r.1) ++ [.ref r]))) := fun a o h e _ => by
    rw [upd_ne (fun q => by subst q; exact h hl)]; exact e
  have z : ∀ a o, a ∉ fps (.L r ds :: .LL l rs :: cs) → H a = some o → a ∉ fps (.LL l (rs ++ [(r, ds)]) :: cs) := fun a o h _ q => h ((mem a).mp q)
  refine ⟨w.updSm hl, fun a h => w.new a ((mem a).mp h), ?_, fun c hc => ?_, fun p hp => (w.im p hp).keep k z⟩
  · rw [fe']
    have : (l :: ((rs ++ [(r, ds)]).map (·.1) ++ fps cs)).Perm (r :: l :: (rs.map (·.1) ++ fps cs)) := by
      rw [List.map_append, List.append_assoc]
      refine (List.Perm.cons l ?_).trans (List.Perm.swap r l _)
      exact List.perm_middle
    exact this.nodup_iff.mpr nd
  · rcases List.mem_cons.mp hc with rfl | hc2
    · refine ⟨?_, fun r' hr' => ?_⟩
      · rw [upd_same]; simp
      · rcases List.mem_append.mp hr' with q | q
        · obtain ⟨ys, e3, i3⟩ := i2 r' q
          have : r'.1 ≠ l := fun h => by
            simp only [List.nodup_cons, List.mem_append] at nd
            exact nd.2.1 (.inl (by rw [← h]; exact List.mem_map.mpr ⟨r', q, rfl⟩))
          exact ⟨ys, by rw [upd_ne this]; exact e3, i3.keep k z⟩
        · have q : r' = (r, ds) := by simpa using q
          subst q
          exact ⟨xs, by rw [upd_ne (Ne.symm hlr)]; exact e1, i1.keep k z⟩
    · refine (w.ok c (List.mem_cons_of_mem _ (List.mem_cons_of_mem _ hc2))).keep k z fun a ha o e _ => ?_
      have hne : a ≠ l := fun q => by
        simp only [List.nodup_cons, List.mem_append] at nd
        exact nd.2.1 (.inr (by rw [← q]; exact List.mem_flatMap.mpr ⟨c, hc2, ha⟩))
      rw [upd_ne hne]; exact e
theorem Wd.pushLL (w : Wd H0 H cs ims) {p : Addr} (hp : H p = none) : Wd H0 (upd H p (.lst [])) (.LL p [] :: cs) ims := w.push hp rfl ⟨upd_same, fun r hr => by simp at hr⟩
end
section
variable {H0 H1 : Hp} {cs : List Cell} {ims : List (PyData × V)} {te : TE} {j : Nat} {σ : St} {D : Addr} {Qd : Hp → Prop}
/-- [ [..] for x in range(n)] -/
theorem lc_rangeLL (f : Nat → List PyData) {n : Nat} (w : Wd H0 H1 cs ims) (hD : H1 D = none) (hn : n ≤ 1000000)
    (hs : ∀ i H rs, i < n → Wd H0 H (.LL D rs :: cs) ims → ∀ Qt : V → Hp → Prop, (∀ r H4, Wd H0 H4 (.L r (f i) :: .LL D rs :: cs) ims → Qt (.ref r) H4) → te ((wipe σ [j]).set j (some (nV i))) H Qt)
    (hd : ∀ H rs, rs.map (·.2) = (List.range n).map f → Wd H0 H (.LL D rs :: cs) ims → Qd H) :
    ∃ W : Nat → Nat → Hp → Prop, (∃ m, W 0 m (upd H1 D (.lst []))) ∧ ∀ i m H, W i m H →
      ((Itr 0 n).stop i H ∧ Qd H) ∨ ((Itr 0 n).go i H ∧ ∃ Nx : Hp → Prop, (∀ H', Nx H' → ∃ m', m' < m ∧ W (i + 1) m' H') ∧ ∀ x H', (Itr 0 n).yld i H x H' → gName j x (wipe σ [j]) H' fun σ2 H2 => wipe σ2 [j] = wipe σ [j] ∧ tYes σ2 H2 fun b H3 =>
        if b = true then te σ2 H3 fun y H4 => ∃ acc, H4 D = some (.lst acc) ∧ acc.length < sizeLine ∧ Nx (upd H4 D (.lst (acc ++ [y]))) else Nx H3) := by
  refine lc_range (fun i H => ∃ rs, rs.map (·.2) = (List.range i).map f ∧ Wd H0 H (.LL D rs :: cs) ims) ⟨[], rfl, w.pushLL hD⟩ (fun i H hi ⟨rs, e, w⟩ => ?_) (fun H ⟨rs, e, w⟩ => hd H rs e w)
  refine ⟨wipe_set _ _ _, ?_⟩
  have en : V.int (0 + (i : Int)) = nV i := by simp
  rw [en, tYes, if_pos rfl]
  refine hs i H rs hi w _ fun r H4 w4 => ?_
  have hl : rs.length = i := by have := congrArg List.length e; simpa using this
  refine ⟨_, (w4.cell 1 (c := .LL D rs) rfl).1, by rw [List.length_map, hl]; exact sl_small (by omega), rs ++ [(r, f i)], ?_, w4.absorb⟩
  rw [List.map_append, e, map_range_succ]; rfl
end
/-! ### rules with the written part named: for use within comprehensions -/
section
variable {X : Cx} {K : PySem.W.Frag}
theorem ixL (h : X.K = K) : IxR X (rIxL K) := by subst h; exact ix_list
theorem lenS (h : X.K = K) : CallR X (.builtin "len") (fun xs H Q => ∃ p ys, xs = [.ref p] ∧ (SqL K H p ys ∨ SqT K H p ys) ∧ Q (nV ys.length) H) := by subst h; exact call_len_seq
theorem tupOf (h : X.K = K) : CallR X (.type "tuple") (fun xs H Q => ∃ p ys, xs = [.ref p] ∧ ((SqL K H p ys ∧ ∀ l, H l = none → Q (.ref l) (upd H l (.tup ys))) ∨ (SqT K H p ys ∧ Q (.ref p) H))) := by subst h; exact call_tuple_of
theorem eqD (h : X.K = K) (hu : X.A.units + 64 < cLine) : OpR X (compareOp .Eq) (rEqD K) := by subst h; exact op_eqD hu
theorem neD (h : X.K = K) (hu : X.A.units + 64 < cLine) : OpR X (compareOp .NotEq) (rNeD K) := by subst h; exact op_neD hu
theorem listOf (h : X.K = K) : CallR X (.type "list") (fun xs H Q => ∃ p ys, xs = [.ref p] ∧ (SqL K H p ys ∨ SqT K H p ys) ∧ ∀ l, H l = none → Q (.ref l) (upd H l (.lst ys))) := by subst h; exact call_list_of
end
/-! ### pairs as targets -/
theorem ixNn {n j : Nat} (hj : j < n) : ixN n (j : Int) = some j := by
  unfold ixN
  rw [if_pos (by omega), if_pos (by omega)]
  simp
theorem wipe2_set (σ : St) {j k : Nat} (x y : Option V) : wipe (((wipe σ [j, k]).set j x).set k y) [j, k] = wipe σ [j, k] := by
  show (((((σ.set k none).set j none).set j x).set k y).set k none).set j none = (σ.set k none).set j none
  rw [List.set_set, List.set_set]
  by_cases h : j = k
  · subst h; simp
  · rw [List.set_comm _ _ h, List.set_set, List.set_set]
section
variable {H0 H1 : Hp} {cs : List Cell} {ims : List (PyData × V)} {tt : TT} {te : TE} {j k : Nat} {σ : St} {D : Addr} {Qd : Hp → Prop}
/-- [.. for c, d in pairs if ..], the pairs a list cell -/
theorem lc_listW2 {K : PySem.W.Frag} {a : Addr} (u v : Nat → PyData) (n : Nat) (g : Nat → List PyData) (i0 : Nat) (w : Wd H0 H1 cs ims) (hD : H1 D = none) (ha : cs[i0]? = some (.L a ((List.range n).map fun i => .tuple [u i, v i]))) (h0 : g 0 = []) (hl : ∀ i, i < n → (g i).length < sizeLine)
    (hs : ∀ i x y H, i < n → Im H (fps (.L D (g i) :: cs)) (u i) x → Im H (fps (.L D (g i) :: cs)) (v i) y → Wd H0 H (.L D (g i) :: cs) ims → CompTurn H0 cs ims tt te D g i (((wipe σ [j, k]).set j (some x)).set k (some y)) H) (hd : ∀ H, Wd H0 H (.L D (g n) :: cs) ims → Qd H) :
    ∃ W : Nat → Nat → Hp → Prop, (∃ m, W 0 m (upd H1 D (.lst []))) ∧ ∀ i m H, W i m H →
      ((Itl K a).stop i H ∧ Qd H) ∨ ((Itl K a).go i H ∧ ∃ Nx : Hp → Prop, (∀ H', Nx H' → ∃ m', m' < m ∧ W (i + 1) m' H') ∧ ∀ x H', (Itl K a).yld i H x H' → gTup K 2 (gCons (gName j) (gCons (gName k) gNil)) x (wipe σ [j, k]) H' fun σ2 H2 => wipe σ2 [j, k] = wipe σ [j, k] ∧ tt σ2 H2 fun b H3 =>
        if b = true then te σ2 H3 fun y H4 => ∃ acc, H4 D = some (.lst acc) ∧ acc.length < sizeLine ∧ Nx (upd H4 D (.lst (acc ++ [y]))) else Nx H3) := by
  obtain ⟨xs, ex, ix⟩ := w.list i0 ha
  have hxl : xs.length = n := by rw [ix.length]; simp
  have w1 : Wd H0 (upd H1 D (.lst [])) (.L D (g 0) :: cs) ims := by rw [h0]; exact w.pushL hD ImAll.nil
  have hL : ∀ i H, Wd H0 H (.L D (g i) :: cs) ims → ∃ xs, H a = some (.lst xs) ∧ ImAll H (fps (.L D (g i) :: cs)) ((List.range n).map fun i => .tuple [u i, v i]) xs := fun i H w => w.list (i0 + 1) (by simpa using ha)
  refine ⟨fun i m H => m = n - i ∧ i ≤ n ∧ Wd H0 H (.L D (g i) :: cs) ims, ⟨n, by simp, Nat.zero_le _, w1⟩, ?_⟩
  rintro i m H ⟨rfl, hi, p⟩
  obtain ⟨ys, ey, iy⟩ := hL i H p
  have hyl : ys.length = n := by rw [iy.length]; simp
  by_cases hlt : i < n
  · refine .inr ⟨⟨ys, ys[i], SqL.of ey, by simp [hyl, hlt]⟩, fun H => Wd H0 H (.L D (g (i + 1)) :: cs) ims, fun H' p' => ⟨n - (i + 1), by omega, rfl, hlt, p'⟩, fun x H' y => ?_⟩
    obtain ⟨e, y⟩ := y
    subst e
    have yi := y ys (SqL.of ey)
    obtain ⟨d, ed, im⟩ := iy.getX yi
    rw [List.getElem?_map, List.getElem?_range hlt] at ed
    cases ed
    obtain ⟨p1, zs, rfl, ez, nz, x1, r1, rfl, m1, x2, r2, rfl, m2, rfl⟩ := im
    refine ⟨p1, [x1, x2], rfl, SqT.of ez, rfl, x1, [x2], rfl, x2, [], rfl, rfl, wipe2_set _ _ _, ?_⟩
    exact (hs i x1 x2 H' hlt m1 m2 p).use (hl i hlt)
  · have e : i = n := by omega
    subst e
    exact .inl ⟨⟨ys, SqL.of ey, by omega⟩, hd H p⟩
end
/-! ### readings laid open, one step -/
section
variable {te ta tb : TE} {g : TG} {u v t : TS} {c : TT} {D : Ends} {σ : St} {H : Hp} {Q : VK} {r : R2}
theorem sq_asg (h : te σ H fun x H1 => g x σ H1 (u D)) : tSeq (tAsg te g) u D σ H := h
theorem at_asg (h : te σ H fun x H1 => g x σ H1 D.nx) : tAsg te g D σ H := h
theorem sq_drop (h : te σ H fun _ H1 => u D σ H1) : tSeq (tDrop te) u D σ H := h
theorem at_drop (h : te σ H fun _ H1 => D.nx σ H1) : tDrop te D σ H := h
theorem at_ret (h : te σ H D.rt) : tRet te D σ H := h
theorem sq_if (h : c σ H fun b H1 => if b = true then t { D with nx := v D } σ H1 else u { D with nx := v D } σ H1) : tSeq (tIfS c t u) v D σ H := h
theorem at_if (h : c σ H fun b H1 => if b = true then t D σ H1 else u D σ H1) : tIfS c t u D σ H := h
theorem x_op (h : ta σ H fun x H1 => tb σ H1 fun y H2 => r x y H2 Q) : tOp r ta tb σ H Q := h
theorem x_test {Q : Bool → Hp → Prop} (h : te σ H fun x H1 => ∃ k, x = .bl k ∧ Q k H1) : tTest te σ H Q := h
theorem x_b {Q : Bool → Hp → Prop} (h : te σ H fun x H1 => ∃ k, x = .bl k ∧ Q k H1) : tB te σ H Q := h
theorem x_not {Q : Bool → Hp → Prop} (h : c σ H fun b H1 => Q (!b) H1) : tNot c σ H Q := h
theorem x_and {d : TT} {Q : Bool → Hp → Prop} (h : c σ H fun b H1 => if b = true then d σ H1 Q else Q false H1) : tAnd c d σ H Q := h
theorem x_or {d : TT} {Q : Bool → Hp → Prop} (h : c σ H fun b H1 => if b = true then Q true H1 else d σ H1 Q) : tOr c d σ H Q := h
theorem x_cb {r : List V → Hp → VK → Prop} {t : TA} (h : t σ H fun vs H1 => r vs H1 Q) : tCB r t σ H Q := h
theorem x_call {sp : Sp} {E : XK} {t : TA} (h : t σ H fun vs H1 => sp (vs ++ []) H1 Q E) : tCall sp [] E t σ H Q := h
theorem x_cons {t : TA} {Q : List V → Hp → Prop} (h : ta σ H fun x H1 => t σ H1 fun xs H2 => Q (x :: xs) H2) : tCons ta t σ H Q := h
theorem x_nil {Q : List V → Hp → Prop} (h : Q [] H) : tNil σ H Q := h
theorem x_var {i : Nat} {x : V} (h : Q x H) (e : σ[i]? = some (some x) := by rfl) : tVar i σ H Q := ⟨x, e, h⟩
theorem x_c {x : V} (h : Q x H) : tC x σ H Q := h
theorem x_tup {t : TA} (h : t σ H fun xs H1 => xs.length ≤ sizeLine ∧ ∀ p, H1 p = none → Q (.ref p) (upd H1 p (.tup xs))) : tTup t σ H Q := h
theorem x_lst {t : TA} (h : t σ H fun xs H1 => xs.length ≤ sizeLine ∧ ∀ p, H1 p = none → Q (.ref p) (upd H1 p (.lst xs))) : tLst t σ H Q := h
theorem x_lcw {wi : TI} {tt : TT} {vs : List Nat} (h : wi σ H fun J H1 => ∀ D, H1 D = none → ∃ W : Nat → Nat → Hp → Prop, (∃ m, W 0 m (upd H1 D (.lst []))) ∧ ∀ i m H, W i m H →
  (J.stop i H ∧ Q (.ref D) H) ∨ (J.go i H ∧ ∃ Nx : Hp → Prop, (∀ H', Nx H' → ∃ m', m' < m ∧ W (i + 1) m' H') ∧ ∀ x H', J.yld i H x H' → g x (wipe σ vs) H' fun σ2 H2 => wipe σ2 vs = wipe σ vs ∧ tt σ2 H2 fun b H3 =>
    if b = true then te σ2 H3 fun y H4 => ∃ acc, H4 D = some (.lst acc) ∧ acc.length < sizeLine ∧ Nx (upd H4 D (.lst (acc ++ [y]))) else Nx H3)) : tLc wi g tt te vs σ H Q := h
theorem x_rng {t : TA} {R : It → Hp → Prop} (h : t σ H fun vs H1 => ∃ n : Nat, vs = [nV n] ∧ n ≤ 1000000000 ∧ R (Itr 0 n) H1) : iRngN t σ H R := h
theorem x_itup {K : PySem.W.Frag} {R : It → Hp → Prop} (h : te σ H fun x H1 => ∃ a, x = .ref a ∧ (∃ xs, SqT K H1 a xs) ∧ R (Itt K a) H1) : iTup K te σ H R := h
theorem x_ilst {K : PySem.W.Frag} {R : It → Hp → Prop} (h : te σ H fun x H1 => ∃ a, x = .ref a ∧ (∃ xs, SqL K H1 a xs) ∧ R (Itl K a) H1) : iList K te σ H R := h
theorem sq_for {wi : TI} (h : wi σ H fun J H1 => ∃ W : Nat → Nat → St → Hp → Prop, (∃ m, W 0 m σ H1) ∧ ∀ i m σ H, W i m σ H → (J.stop i H ∧ u D σ H) ∨ (J.go i H ∧ ∃ N : St → Hp → Prop, (∀ σ' H', N σ' H' → ∃ m', m' < m ∧ W (i + 1) m' σ' H') ∧ ∀ x H', J.yld i H x H' → g x σ H' fun σ2 H2 => t { D with nx := N, ct := N, bk := u D } σ2 H2)) : tSeq (tFor wi g t) u D σ H := h
theorem at_for {wi : TI} (h : wi σ H fun J H1 => ∃ W : Nat → Nat → St → Hp → Prop, (∃ m, W 0 m σ H1) ∧ ∀ i m σ H, W i m σ H → (J.stop i H ∧ D.nx σ H) ∨ (J.go i H ∧ ∃ N : St → Hp → Prop, (∀ σ' H', N σ' H' → ∃ m', m' < m ∧ W (i + 1) m' σ' H') ∧ ∀ x H', J.yld i H x H' → g x σ H' fun σ2 H2 => t { D with nx := N, ct := N, bk := D.nx } σ2 H2)) : tFor wi g t D σ H := h
end
/-! ### the refusals' classes -/
abbrev veTail : List Value := [.type "ValueError", .type "Exception", .type "BaseException", .type "object"]
/-- an own error's class stands at C, under the name x -/
structure XCls (K : PySem.W.Frag) (mg : Str → Option Value) (x : Str) (C : Addr) : Prop where
  g : mg x = some (.ref C)
  e : PySem.W.excIn K C veTail "ValueError.__new__" = true
  k : PySem.W.keepIn K (.ref C) = true
  b : PySem.W.subIn K (.ref C) (.type "BaseException") = some true
  t : PySem.W.typeIn K (.ref C) = some (.type "type")
section
variable {X : Cx} {K : PySem.W.Frag} {mg : Str → Option Value} {C : Addr}
/-- X('..') -/
theorem XCls.mk1 {x m : Str} {j : Nat} {p p2 pos : Pos} (c : XCls X.K X.mg x C) (hg : Gl X x) (hd : (x == ("__debug__" : Str)) = false := by decide) : PMk X (.Call (.Name x p) [.Constant (.str m) j p2] [] pos) (fun _ H Q => Q (.ref C) none H) :=
  pmk_own PySem.F.excBase_ValueError c.e c.g c.k (raises_own c.b c.t) hg hd
theorem XCls.pe {x : Str} {pos : Pos} (c : XCls X.K X.mg x C) (hg : Gl X x) (hd : (x == ("__debug__" : Str)) = false := by decide) : PE X (.Name x pos) (tC (.ref C)) := pe_glob (v := .ref C) hg c.g rfl hd
/-- a call that may raise, what it raises leaves the def -/
theorem pe_fx {k k' : Nat} {x : Str} {ps : List Str} {sp : Sp} {e : Expr} {es : List Expr} {t : TA} {p pos : Pos} {E : XK} (Cc : Cal X.prog X.w X.K X.mg X.base (L2.CX X.prog X.w) k x ps sp) (hr : Room k' X.A) (hk : k ≤ k') (hg : Gl X x) (tk : Takes X fun cls d _ H => E cls d H) (ha : PA X (e :: es) t)
    (hd : (x == ("__debug__" : Str)) = false := by decide) (he : starEach (e :: es) X.env = (false, eval e X.env) :: starEach es X.env := by rfl) (hpl : (backTo pos (starEach es X.env)).any (·.1) = false := by rfl) : PE X (.Call (.Name x p) (e :: es) [] pos) (tCall sp [] E t) := by
  obtain ⟨f, fd, F, hm, hkp, hb⟩ := Cc.ex
  exact pe_call F (hr.mono hk) hg hm hkp hb .nil (passes_call tk fun _ _ _ _ h => h) ha hd he hpl
/-- a call that may raise, in a try -/
theorem pe_fs {k k' : Nat} {x : Str} {ps : List Str} {sp : Sp} {e : Expr} {es : List Expr} {t : TA} {p pos : Pos} {W : WX} (Cc : Cal X.prog X.w X.K X.mg X.base (L2.CX X.prog X.w) k x ps sp) (hr : Room k' X.A) (hk : k ≤ k') (hg : Gl X x) (tk : Takes X W) (ha : PA X (e :: es) t)
    (hd : (x == ("__debug__" : Str)) = false := by decide) (he : starEach (e :: es) X.env = (false, eval e X.env) :: starEach es X.env := by rfl) (hpl : (backTo pos (starEach es X.env)).any (·.1) = false := by rfl) : PE X (.Call (.Name x p) (e :: es) [] pos) (tCallS sp (WE W) t) := by
  obtain ⟨f, fd, F, hm, hkp, hb⟩ := Cc.ex
  exact pe_callS F (hr.mono hk) hg hm hkp hb (fun σ => passAt tk σ) ha hd he hpl
theorem x_callS {sp : Sp} {W : WX} {t : TA} {σ : St} {H : Hp} {Q : VK} (h : t σ H fun vs H1 => sp vs H1 Q (WE W σ)) : tCallS sp (WE W) t σ H Q := h
end

/-! ### isinstance by data -/
def tyN : PyData → String
  | .none => "NoneType"
  | .bool _ => "bool"
  | .int _ => "int"
  | .str _ => "str"
  | .list _ => "list"
  | .tuple _ => "tuple"
  | .dict _ => "dict"
/-- whether a built-in type is, or stands above, that of the data -/
def isT (d : PyData) (T : String) : Bool := T == tyN d || (T == "int" && tyN d == "bool")
theorem Im.ty {K : PySem.W.Frag} {H : Hp} {Z : List Addr} : ∀ {d : PyData} {x : V}, Im H Z d x → TyX K H x (.type (tyN d))
  | .none, x, h => by have h : x = .non := h; subst h; exact .base .non
  | .bool b, x, h => by have h : x = .bl b := h; subst h; exact .base (.bl b)
  | .int i, x, h => by have h : x = .int i := h; subst h; exact .base (.int i)
  | .str s, x, h => by have h : x = .str s := h; subst h; exact .base (.str s)
  | .list ds, x, h => by
    obtain ⟨a, xs, e, h1, _⟩ := h
    subst e; exact .base (.lst h1)
  | .tuple ds, x, h => by
    obtain ⟨a, xs, e, h1, _⟩ := h
    subst e; exact .base (.tup h1)
  | .dict _, x, h => by cases h
theorem kit_isT (d : PyData) (T : String) (hT : T = "int" ∨ T = "bool" ∨ T = "str" ∨ T = "tuple" ∨ T = "list") : kitB (tyN d) T = some (isT d T) := by
  rcases hT with rfl | rfl | rfl | rfl | rfl <;> cases d <;> dsimp only [tyN, isT] <;> decide +kernel
def rIsD (T : String) : List V → Hp → VK → Prop := fun xs H Q => ∃ (Z : List Addr) (d : PyData) (x : V), xs = [x, .ty T] ∧ Im H Z d x ∧ Q (.bl (isT d T)) H
theorem isD {X : Cx} {T : String} (hT : T = "int" ∨ T = "bool" ∨ T = "str" ∨ T = "tuple" ∨ T = "list") : CallR X (.builtin "isinstance") (rIsD T) := by
  intro pins s σ H xs us Q I r h
  obtain ⟨Z, d, x, rfl, im, q⟩ := h
  exact call_isi pins s σ H _ us Q I r ⟨x, .ty T, _, _, _, rfl, .ty T, im.ty, kit_ty (kit_isT d T hT), q⟩
/-! ### isinstance of a caught error -/
/-- what isinstance(e, ..) asks of the error's class; cls, d: what is known of the error that the suite holds at a -/
def rIsX (K : PySem.W.Frag) (cls : Value) (d : Option Addr) (a : Addr) : List V → Hp → VK → Prop := fun xs H Q => ∃ (D : Addr) (c : V) (cv : Value) (b : Bool), cls = .ref D ∧ d = none ∧ ExcC K D ∧ xs = [.ref a, c] ∧ ClsV c cv ∧ PySem.W.kitOne K (.ref D) cv = some b ∧ Q (.bl b) H
theorem isX {X : Cx} {a : Addr} {oe : Obj} {cls : Value} {d : Option Addr} {pn : List (Addr × Obj)} (hz : Zc cls d oe) (hf : ∃ vs, oe.data = .fields vs) : CallR (X.suite a ((a, oe) :: pn)) (.builtin "isinstance") (rIsX X.K cls d a) := by
  intro pins s σ H xs us Q I r h
  obtain ⟨D, c, cv, b, rfl, rfl, C, rfl, kc, e, q⟩ := h
  exact call_isE C hz hf pins s σ H _ us Q I r ⟨c, cv, b, rfl, fun u ru => kc.eq ru, e, q⟩

/-! ### texts -/
def tuneS (t : List Nat) : Str := ⟨(t.map (· + 97)).toArray⟩
theorem tuneS_len (t : List Nat) : (tuneS t).length = t.length := by simp [tuneS, Str.length]
theorem tuneS_cps (t : List Nat) : (tuneS t).cps.toList = t.map (· + 97) := rfl
/-- "abc".index(sign) -/
theorem mt_abc {X : Cx} : MtR X "str.index" (fun x xs H Q => ∃ c : Nat, x = .str "abc" ∧ xs = [.str ⟨#[c + 97]⟩] ∧ c < 3 ∧ Q (nV c) H) := by
  intro pins s σ H x xs v us Q I rx rs h
  obtain ⟨c, rfl, rfl, hc, q⟩ := h
  refine mt_sindex pins s σ H _ _ v us Q I rx rs ?_
  match c, hc with
  | 0, _ => exact ⟨_, _, 0, [], rfl, rfl, by decide +kernel, q⟩
  | 1, _ => exact ⟨_, _, 1, [], rfl, rfl, by decide +kernel, q⟩
  | 2, _ => exact ⟨_, _, 2, [], rfl, rfl, by decide +kernel, q⟩
/-- "abc"[c] -/
theorem ix_abc {X : Cx} : IxR X (fun x y H Q => ∃ c : Nat, x = .str "abc" ∧ y = nV c ∧ c < 3 ∧ Q (.str ⟨#[c + 97]⟩) H) := by
  have base := ix_str (X := X)
  intro value slice pins s σ H x y v u Q I rx ry h hs
  obtain ⟨c, rfl, rfl, hc, q⟩ := h
  refine base value slice pins s σ H _ _ v u Q I rx ry ?_ hs
  match c, hc with
  | 0, _ => exact ⟨_, _, 97, rfl, rfl, by decide +kernel, by decide +kernel, q⟩
  | 1, _ => exact ⟨_, _, 98, rfl, rfl, by decide +kernel, by decide +kernel, q⟩
  | 2, _ => exact ⟨_, _, 99, rfl, rfl, by decide +kernel, by decide +kernel, q⟩
/-- "abc"[:w] -/
theorem sl_abc {X : Cx} : SlR X (fun x lo hi H Q => ∃ w : Nat, x = .str "abc" ∧ lo = none ∧ hi = some (w : Int) ∧ w ≤ 3 ∧ Q (.str (tuneS (List.range w))) H) := by
  have base := sl_str (X := X)
  intro pins s σ H x v vl vu lo hi sl Q I rx hs pl pu h
  obtain ⟨w, rfl, rfl, rfl, hw, q⟩ := h
  refine base pins s σ H _ v vl vu _ _ sl Q I rx hs pl pu ⟨_, rfl, by decide +kernel, ?_⟩
  match w, hw with
  | 0, _ => exact q
  | 1, _ => exact q
  | 2, _ => exact q
  | 3, _ => exact q
/-- for sign in text -/
theorem for_str {x : Str} {g : TG} {tb : TS} {D : Ends} {σ : St} {H : Hp} (Pv : Nat → St → Hp → Prop) (h0 : Pv 0 σ H)
    (hs : ∀ i c σ H, x.cps.toList[i]? = some c → Pv i σ H → g (.str ⟨#[c]⟩) σ H fun σ2 H2 => tb { D with nx := Pv (i + 1), ct := Pv (i + 1), bk := D.nx } σ2 H2) (hd : ∀ σ H, Pv x.cps.toList.length σ H → D.nx σ H) :
    ∃ W : Nat → Nat → St → Hp → Prop, (∃ m, W 0 m σ H) ∧ ∀ i m σ H, W i m σ H →
      ((Its x).stop i H ∧ D.nx σ H) ∨ ((Its x).go i H ∧ ∃ N : St → Hp → Prop, (∀ σ' H', N σ' H' → ∃ m', m' < m ∧ W (i + 1) m' σ' H') ∧ ∀ v H', (Its x).yld i H v H' → g v σ H' fun σ2 H2 => tb { D with nx := N, ct := N, bk := D.nx } σ2 H2) := by
  have el : x.cps.toList.length = x.cps.size := by simp
  rw [el] at hd
  refine ⟨fun i m σ H => m = x.cps.size - i ∧ i ≤ x.cps.size ∧ Pv i σ H, ⟨_, rfl, Nat.zero_le _, h0⟩, ?_⟩
  rintro i m σ H ⟨rfl, hi, p⟩
  by_cases hlt : i < x.cps.size
  · refine .inr ⟨hlt, Pv (i + 1), fun σ' H' p' => ⟨x.cps.size - (i + 1), by omega, rfl, hlt, p'⟩, fun v H' y => ?_⟩
    obtain ⟨e, c, ec, ev⟩ := y
    subst e ev
    exact hs i c σ _ (by simpa using ec) p
  · have e : i = x.cps.size := by omega
    subst e
    exact .inl ⟨Nat.le_refl _, hd σ H p⟩
theorem x_istr {te : TE} {σ : St} {H : Hp} {R : It → Hp → Prop} (h : te σ H fun v H1 => ∃ x, v = .str x ∧ R (Its x) H1) : iStr te σ H R := h
/-- a call of a def that may raise, where it does not -/
theorem pe_f0 {X : Cx} {k k' : Nat} {x : Str} {ps : List Str} {sp : Sp} {e : Expr} {es : List Expr} {t : TA} {p pos : Pos} (Cc : Cal X.prog X.w X.K X.mg X.base (L2.CX X.prog X.w) k x ps sp) (hr : Room k' X.A) (hk : k ≤ k') (hg : Gl X x) (ha : PA X (e :: es) t)
    (hd : (x == ("__debug__" : Str)) = false := by decide) (he : starEach (e :: es) X.env = (false, eval e X.env) :: starEach es X.env := by rfl) (hpl : (backTo pos (starEach es X.env)).any (·.1) = false := by rfl) : PE X (.Call (.Name x p) (e :: es) [] pos) (tCall sp [] E0 t) := by
  obtain ⟨f, fd, F, hm, hkp, hb⟩ := Cc.ex
  exact pe_call F (hr.mono hk) hg hm hkp hb .nil passL ha hd he hpl
/-! ### dicts whose keys are numbers, None and tuples of such: at the model's own level -/
/-- a key's own value -/
structure IsK (h : Heap) (k : NestedKey) (u : Value) : Prop where
  is : NestedIs h k u
  deep : k.depth ≤ 8
  nos : ∀ x t, u ≠ .str x t
abbrev Ent := NestedKey × Value × Value
def entD (w : World) (x : Ent) : DictEntry := ⟨x.1.hash w, x.2.1, x.2.2⟩
section
variable {prog : Program} {w : World} {A : Around} {E : Value → Shared → Prop} {s : Shared}
theorem wp_if {α : Type} {c : Prop} [Decidable c] {x y : Sem α} {Q : α → Shared → Prop} (h1 : c → wpAny (model prog w) A x Q E s) (h2 : ¬ c → wpAny (model prog w) A y Q E s) : wpAny (model prog w) A (if c then x else y) Q E s := by
  by_cases h : c
  · rw [if_pos h]; exact h1 h
  · rw [if_neg h]; exact h2 h
theorem isK_hash {k : NestedKey} {u : Value} {Q : Int → Shared → Prop} (hu : A.units + 8 < cLine) (i : IsK s.heap k u) (h : Q (k.hash w) { s with toks := s.toks + k.draws }) : wpAny (model prog w) A (pyHash u) Q E s :=
  pyHash_key k u A s Q i.is (by have := i.deep; omega) h
theorem isK_eq {k k' : NestedKey} {u u' : Value} {Q : Bool → Shared → Prop} (hu : A.units + 8 < cLine) (i : IsK s.heap k u) (i' : IsK s.heap k' u') (h : Q (decide (k = k')) s) : wpAny (model prog w) A (eqBool u u') Q E s :=
  eqAt_key k k' A s u u' i.is i'.is (by have := i.deep; have := i'.deep; omega) _ _ _ _ (by rw [← NestedKey.decide_eq]; exact h)
theorem mayTell_no {k : NestedKey} {u : Value} {stored : List Value} {Q : Bool → Shared → Prop} (i : IsK s.heap k u) (hs : ∀ v ∈ stored, ∃ k', IsK s.heap k' v) (h : Q false s) : wpAny (model prog w) A (tableMayTell u stored) Q E s := by
  unfold tableMayTell
  split
  · exact wpAny_pure h
  · refine wpAny_bind (quiet_key k u 8 s i.is i.deep A E _ ?_)
    simp only [Bool.not_true, Bool.false_eq_true, if_false]
    refine wpAny_bind (wpAny_forIn_list _ (fun rest r s' => s' = s ∧ r = (none, ()) ∧ ∀ v ∈ rest, ∃ k', IsK s.heap k' v) _ (fun v rest r s' hh => ?_) (fun r s' hh => ?_) _ _ ⟨rfl, rfl, hs⟩)
    · obtain ⟨rfl, rfl, hr⟩ := hh
      obtain ⟨k', i'⟩ := hr v (by simp)
      refine wpAny_bind (quiet_key k' v 8 s' i'.is i'.deep A E _ ?_)
      simp only [Bool.not_true, Bool.false_eq_true, if_false]
      exact wpAny_pure ⟨rfl, rfl, fun z hz => hr z (by simp [hz])⟩
    · obtain ⟨rfl, rfl, _⟩ := hh
      exact wpAny_pure h
/-- what stands of the places that are left: those ahead of i are gone by -/
theorem dictFind_v {d : Addr} {u : Value} {o : Obj} {es : Array DictEntry} {ep : Nat} {xs : List Ent} {k : NestedKey} {Q : Option Nat → Shared → Prop} (hu : A.units + 8 < cLine) (ik : IsK s.heap k u)
    (ho : s.heap.get? d = some o) (hd : o.data = .dict es ep) (he : es.toList = xs.map (entD w)) (his : ∀ x ∈ xs, IsK s.heap x.1 x.2.1) (hn : (xs.map (·.1)).Nodup)
    (h0 : (∀ (j : Nat) (p : Value × Value), xs[j]? ≠ some (k, p)) → Q none s) (h1 : ∀ (j : Nat) (p : Value × Value), xs[j]? = some (k, p) → Q (some j) s) :
    wpAny (model prog w) A (dictFind d u (k.hash w)) Q E s := by
  have esz : es.size = xs.length := by rw [← Array.length_toList, he, List.length_map]
  have eat : ∀ j : Nat, es[j]? = (xs[j]?).map (entD w) := fun j => by rw [← Array.getElem?_toList, he, List.getElem?_map]
  have ent : ∀ j : Nat, j < es.size → ∃ x : Ent, xs[j]? = some x ∧ es[j]? = some (entD w x) ∧ IsK s.heap x.1 x.2.1 := fun j hj => by
    have hx : xs[j]? = some (xs[j]'(by omega)) := List.getElem?_eq_getElem _
    exact ⟨_, hx, by rw [eat j, hx]; rfl, his _ (List.getElem_mem _)⟩
  have uniq : ∀ (i j : Nat) (p q : Value × Value), xs[i]? = some (k, p) → xs[j]? = some (k, q) → i = j := fun i j p q hi hj => by
    have a1 : (xs.map (·.1))[i]? = some k := by rw [List.getElem?_map, hi]; rfl
    have a2 : (xs.map (·.1))[j]? = some k := by rw [List.getElem?_map, hj]; rfl
    exact (List.getElem?_inj (List.getElem?_eq_some_iff.mp a1).1 hn).mp (a1.trans a2.symm)
  let pl := placesWithHash es.size (fun i => es[i]?.map (·.hash)) (k.hash w)
  have plm : ∀ i, i ∈ pl ↔ i < es.size ∧ (es[i]?.map (·.hash)) = some (k.hash w) := fun i => by
    show i ∈ placesWithHash _ _ _ ↔ _
    unfold placesWithHash
    rw [List.mem_filter, List.mem_range, beq_iff_eq]
  have inpl : ∀ (j : Nat) (p : Value × Value), xs[j]? = some (k, p) → j ∈ pl := fun j p hj => by
    rw [plm]
    have : j < xs.length := (List.getElem?_eq_some_iff.mp hj).1
    exact ⟨by omega, by rw [eat j, hj]; rfl⟩
  have sto : ∀ v ∈ pl.filterMap (fun i => es[i]?.map (·.key)), ∃ k', IsK s.heap k' v := fun v hv => by
    obtain ⟨i, hi, e⟩ := List.mem_filterMap.mp hv
    obtain ⟨x, _, ex, ix⟩ := ent i ((plm i).mp hi).1
    rw [ex] at e
    cases e
    exact ⟨x.1, ix⟩
  have plnd : pl.Nodup := by
    show (placesWithHash _ _ _).Nodup
    unfold placesWithHash
    exact List.nodup_range.filter _
  have plsz : ∀ i ∈ pl, i < es.size := fun i hi => ((plm i).mp hi).1
  -- the plain walk
  have plain : wpAny (model prog w) A (dictWalkPlain d u (k.hash w) es pl) Q E s := by
    unfold dictWalkPlain
    refine wpAny_bind (wpAny_forIn_list _ (fun rest b s' => s' = s ∧ b = (none, ()) ∧ (∀ (j : Nat) (p : Value × Value), xs[j]? = some (k, p) → j ∈ rest) ∧ ∀ i ∈ rest, i < es.size) _ (fun x rest b s' hh => ?_) (fun b s' hh => ?_) _ _ ⟨rfl, rfl, inpl, plsz⟩)
    · obtain ⟨rfl, rfl, hall, hsz⟩ := hh
      obtain ⟨y, hy, ey, iy⟩ := ent x (hsz x (by simp))
      have on : y.1 ≠ k → ∀ (j : Nat) (p : Value × Value), xs[j]? = some (k, p) → j ∈ rest := fun hne j p hj => by
        rcases List.mem_cons.mp (hall j p hj) with e | e
        · subst e; rw [hy] at hj; cases hj; exact absurd rfl hne
        · exact e
      rw [ey]
      dsimp only [entD]
      by_cases hh : (y.1.hash w == k.hash w) = true
      · rw [if_pos hh]
        refine wpAny_bind (wpAny_dictEpoch ho hd (wpAny_bind (isK_eq hu iy ik (wpAny_bind (wpAny_dictEpoch ho hd ?_)))))
        rw [if_neg (by simp)]
        by_cases hk : y.1 = k
        · rw [decide_eq_true hk, if_pos rfl]
          refine wpAny_bind (wpAny_rule (wpAny_pure ?_))
          exact wpAny_pure (h1 x y.2 (by rw [hy, ← hk]))
        · rw [decide_eq_false hk, if_neg Bool.false_ne_true]
          exact wpAny_bind (wpAny_rule (wpAny_pure ⟨rfl, rfl, on hk, fun i hi => hsz i (by simp [hi])⟩))
      · rw [if_neg hh]
        exact wpAny_pure ⟨rfl, rfl, on fun e => hh (by rw [e]; simp), fun i hi => hsz i (by simp [hi])⟩
    · obtain ⟨rfl, rfl, hall, _⟩ := hh
      exact wpAny_pure (h0 fun j p hj => by have := hall j p hj; simp at this)
  unfold dictFind
  try with_reducible refine wpAny_holding ?_
  refine wpAny_bind (wpAny_dictEntries ho hd ?_)
  have noHash : ¬ (es.any fun e => e.key == u && e.hash != k.hash w) = true := by
    rw [← Array.any_toList, he, List.any_map, List.any_eq_true]
    rintro ⟨x, hx, hc⟩
    simp only [Function.comp_apply, entD, Bool.and_eq_true, beq_iff_eq, bne_iff_ne, ne_eq] at hc
    refine hc.2 ?_
    have := his x hx
    rw [hc.1] at this
    rw [NestedIs.inj _ _ _ this.is ik.is]
  have hform : u = .none ∨ (∃ b, u = .bool b) ∨ (∃ i t, u = .int i t) ∨ ∃ a, u = .ref a := by
    cases ik.is with
    | text x t => exact absurd rfl (ik.nos x t)
    | none => exact .inl rfl
    | bool e => exact .inr (.inl ⟨_, rfl⟩)
    | int i t => exact .inr (.inr (.inl ⟨_, _, rfl⟩))
    | tup a1 a2 a3 a4 => exact .inr (.inr (.inr ⟨_, rfl⟩))
  rcases hform with rfl | ⟨b, rfl⟩ | ⟨i, t, rfl⟩ | ⟨a, rfl⟩
  all_goals
    try dsimp only
    first
      | rw [if_neg noHash]
      | skip
    refine wp_if (fun _ => plain) fun _ => ?_
    refine wp_if (fun _ => wpAny_bind (wpAny_pure ?_)) fun _ => wpAny_bind (mayTell_no ik sto ?_)
    all_goals
      try dsimp only
      rw [if_neg (by simp)]
      refine wpAny_bind (wpAny_forIn_list _ (fun rest b s' => s' = s ∧ ∃ hit, b = (none, hit) ∧ ((hit = none ∧ ∀ (j : Nat) (p : Value × Value), xs[j]? = some (k, p) → j ∈ rest) ∨ ∃ (j : Nat) (p : Value × Value), hit = some j ∧ xs[j]? = some (k, p) ∧ j ∉ rest) ∧ (∀ i ∈ rest, i < es.size) ∧ rest.Nodup) _ (fun x rest b s' hh => ?_) (fun b s' hh => ?_) _ _ ⟨rfl, none, rfl, .inl ⟨rfl, inpl⟩, plsz, plnd⟩)
      · obtain ⟨rfl, hit, rfl, hH, hsz, hnd⟩ := hh
        obtain ⟨y, hy, ey, iy⟩ := ent x (hsz x (by simp))
        obtain ⟨nx, ndr⟩ := List.nodup_cons.mp hnd
        have hsz' : ∀ i ∈ rest, i < es.size := fun i hi => hsz i (by simp [hi])
        have on : y.1 ≠ k → ((hit = none ∧ ∀ (j : Nat) (p : Value × Value), xs[j]? = some (k, p) → j ∈ rest) ∨ ∃ (j : Nat) (p : Value × Value), hit = some j ∧ xs[j]? = some (k, p) ∧ j ∉ rest) := fun hne => by
          rcases hH with ⟨e1, hall⟩ | ⟨j, p, e1, e2, e3⟩
          · refine .inl ⟨e1, fun j p hj => ?_⟩
            rcases List.mem_cons.mp (hall j p hj) with e | e
            · subst e; rw [hy] at hj; cases hj; exact absurd rfl hne
            · exact e
          · exact .inr ⟨j, p, e1, e2, fun z => e3 (by simp [z])⟩
        rw [ey]
        dsimp only [entD]
        by_cases hh : (y.1.hash w == k.hash w) = true
        · rw [if_pos hh]
          refine wpAny_bind (wpAny_dictEpoch ho hd (wpAny_bind (isK_eq hu iy ik (wpAny_bind (wpAny_dictEpoch ho hd ?_)))))
          rw [if_neg (by simp)]
          by_cases hk : y.1 = k
          · have hxk : xs[x]? = some (k, y.2) := by rw [hy, ← hk]
            rw [decide_eq_true hk, if_pos rfl]
            rcases hH with ⟨rfl, hall⟩ | ⟨j, p, e1, e2, e3⟩
            · rw [if_neg (by simp)]
              refine wpAny_bind (wpAny_rule ?_)
              split
              · exact wpAny_pure (wpAny_pure (h1 x _ hxk))
              · exact wpAny_pure ⟨rfl, some x, rfl, .inr ⟨x, _, rfl, hxk, nx⟩, hsz', ndr⟩
            · exact absurd (by rw [uniq j x _ _ e2 hxk]; simp) e3
          · rw [decide_eq_false hk, if_neg Bool.false_ne_true]
            refine wpAny_bind (wpAny_rule ?_)
            rw [if_neg (by simp)]
            exact wpAny_pure ⟨rfl, hit, rfl, on hk, hsz', ndr⟩
        · rw [if_neg hh]
          exact wpAny_pure ⟨rfl, hit, rfl, on fun e => hh (by rw [e]; simp), hsz', ndr⟩
      · obtain ⟨rfl, hit, rfl, hH, _, _⟩ := hh
        rcases hH with ⟨rfl, hall⟩ | ⟨j, p, rfl, e2, _⟩
        · exact wpAny_pure (h0 fun j p hj => by have := hall j p hj; simp at this)
        · exact wpAny_pure (h1 j p e2)

/-- the dict at d, its pairs in order -/
def DOf (w : World) (h : Heap) (d : Addr) (xs : List Ent) : Prop := ∃ o es ep, h.get? d = some o ∧ o.ExactDict ∧ o.data = .dict es ep ∧ es.toList = xs.map (entD w) ∧ (xs.map (·.1)).Nodup
def KeysIn (h : Heap) (xs : List Ent) : Prop := ∀ x ∈ xs, IsK h x.1 x.2.1
def valE (xs : List Ent) (k : NestedKey) : Option Value := (xs.find? fun x => decide (x.1 = k)).map (·.2.2)
def setE (xs : List Ent) (k : NestedKey) (v : Value) : List Ent := xs.map fun x => if x.1 = k then (x.1, x.2.1, v) else x
theorem DOf.typeIs {d : Addr} {xs : List Ent} (x : DOf w s.heap d xs) : s.TypeIs (.ref d) "dict" := let ⟨o, _, _, ho, hc, _⟩ := x; ⟨o, ho, hc.1⟩
theorem valE_none {xs : List Ent} {k : NestedKey} (h : ∀ (j : Nat) (p : Value × Value), xs[j]? ≠ some (k, p)) : valE xs k = none := by
  unfold valE
  rw [List.find?_eq_none.mpr]; rfl
  intro x hx
  obtain ⟨j, hj⟩ := List.getElem?_of_mem hx
  simp only [decide_eq_true_eq]
  rintro rfl
  exact h j x.2 hj
theorem valE_some : ∀ {xs : List Ent} {k : NestedKey} {j : Nat} {p : Value × Value}, (xs.map (·.1)).Nodup → xs[j]? = some (k, p) → valE xs k = some p.2
  | [], k, j, p, _, h => by simp at h
  | x :: xs, k, 0, p, hn, h => by
    have h : x = (k, p) := by simpa using h
    subst h
    simp [valE]
  | x :: xs, k, j + 1, p, hn, h => by
    have h : xs[j]? = some (k, p) := by simpa using h
    simp only [List.map_cons, List.nodup_cons] at hn
    have ne : x.1 ≠ k := fun e => hn.1 (by rw [e]; exact List.mem_map.mpr ⟨(k, p), List.mem_of_getElem? h, rfl⟩)
    have := valE_some hn.2 h
    unfold valE at this ⊢
    rw [List.find?_cons_of_neg (by simpa using ne)]
    exact this
theorem setE_get : ∀ {xs : List Ent} {k : NestedKey} {j : Nat} {p : Value × Value} (v : Value), (xs.map (·.1)).Nodup → xs[j]? = some (k, p) → setE xs k v = xs.set j (k, p.1, v)
  | [], k, j, p, v, _, h => by simp at h
  | x :: xs, k, 0, p, v, hn, h => by
    have h : x = (k, p) := by simpa using h
    subst h
    simp only [List.map_cons, List.nodup_cons] at hn
    have : ∀ y ∈ xs, (if y.1 = k then (y.1, y.2.1, v) else y) = y := fun y hy => if_neg fun e => hn.1 (by rw [← e]; exact List.mem_map.mpr ⟨y, hy, rfl⟩)
    simp only [setE, List.map_cons, if_true, List.set_cons_zero]
    rw [List.map_congr_left this]; simp
  | x :: xs, k, j + 1, p, v, hn, h => by
    have h : xs[j]? = some (k, p) := by simpa using h
    simp only [List.map_cons, List.nodup_cons] at hn
    have ne : x.1 ≠ k := fun e => hn.1 (by rw [e]; exact List.mem_map.mpr ⟨(k, p), List.mem_of_getElem? h, rfl⟩)
    have := setE_get v hn.2 h
    unfold setE at this ⊢
    rw [List.map_cons, if_neg ne, this]; rfl
theorem dget_v {d : Addr} {u : Value} {xs : List Ent} {k : NestedKey} {Q : Option Value → Shared → Prop} (hu : A.units + 8 < cLine) (ik : IsK s.heap k u) (D : DOf w s.heap d xs) (ks : KeysIn s.heap xs)
    (h : ∀ t, Q (valE xs k) { s with toks := t }) : wpAny (model prog w) A (dictGet d u) Q E s := by
  obtain ⟨o, es, ep, ho, _, hd, he, hn⟩ := D
  unfold dictGet
  try with_reducible refine wpAny_holding ?_
  refine wpAny_bind (isK_hash hu ik (wpAny_bind (dictFind_v (s := { s with toks := s.toks + k.draws }) hu ik ho hd he ks hn (fun no => ?_) fun j p hj => ?_)))
  · have := h (s.toks + k.draws)
    rw [valE_none no] at this
    exact wpAny_pure this
  · refine wpAny_bind (wpAny_dictEntries (s := { s with toks := s.toks + k.draws }) ho hd ?_)
    have ej : es[j]? = some (entD w (k, p)) := by rw [← Array.getElem?_toList, he, List.getElem?_map, hj]; rfl
    rw [ej]
    have := h (s.toks + k.draws)
    rw [valE_some hn hj] at this
    exact wpAny_pure this
theorem dadd_ok {d : Addr} {u v : Value} {o : Obj} {es : Array DictEntry} {ep : Nat} {xs : List Ent} {k : NestedKey} (he : es.toList = xs.map (entD w)) (hn : (xs.map (·.1)).Nodup) (no : ∀ (j : Nat) (p : Value × Value), xs[j]? ≠ some (k, p)) :
    (es.push ⟨k.hash w, u, v⟩).toList = (xs ++ [(k, u, v)]).map (entD w) ∧ ((xs ++ [(k, u, v)]).map (·.1)).Nodup := by
  refine ⟨by simp [he, entD], ?_⟩
  rw [List.map_append, List.nodup_append]
  refine ⟨hn, by simp, fun x hx y hy => ?_⟩
  obtain ⟨z, hz, rfl⟩ := List.mem_map.mp hx
  obtain ⟨j, hj⟩ := List.getElem?_of_mem hz
  have hy : y = k := by simpa using hy
  subst hy
  intro e
  exact no j z.2 (by rw [hj, ← e])
theorem dset_v {d : Addr} {u v : Value} {xs : List Ent} {k : NestedKey} {Q : Unit → Shared → Prop} (hu : A.units + 8 < cLine) (hz : xs.length ≤ sizeLine) (ik : IsK s.heap k u) (D : DOf w s.heap d xs) (ks : KeysIn s.heap xs)
    (h0 : valE xs k = none → ∀ h' t, DOf w h' d (xs ++ [(k, u, v)]) → Heap.SameBut d s.heap h' → Q () { s with heap := h', toks := t })
    (h1 : ∀ x, valE xs k = some x → ∀ h' t, DOf w h' d (setE xs k v) → Heap.SameBut d s.heap h' → Q () { s with heap := h', toks := t }) : wpAny (model prog w) A (dictSet d u v) Q E s := by
  obtain ⟨o, es, ep, ho, hc, hd, he, hn⟩ := D
  have esz : es.size = xs.length := by rw [← Array.length_toList, he, List.length_map]
  unfold dictSet
  try with_reducible refine wpAny_holding ?_
  refine wpAny_bind (isK_hash hu ik ?_)
  unfold dictSetHashed
  try with_reducible refine wpAny_holding ?_
  refine wpAny_bind (dictFind_v (s := { s with toks := s.toks + k.draws }) hu ik ho hd he ks hn (fun no => ?_) fun j p hj => ?_)
  · obtain ⟨a1, a2⟩ := dadd_ok (d := d) (o := o) (ep := ep) (u := u) (v := v) he hn no
    exact wpAny_bind (wpAny_rule (wpAny_updateDictKeys (hz := by omega) (s := { s with toks := s.toks + k.draws }) ho hd (h0 (valE_none no) _ _ ⟨_, _, ep + 1, Heap.get?_update_self _ ho (Obj.isFreed_of_dict (Obj.data_mapDictKeys hd _)), hc.mapDictKeys _, Obj.data_mapDictKeys hd _, a1, a2⟩ (Heap.SameBut.update ..))))
  · refine wpAny_bind (wpAny_rule (wpAny_bind (wpAny_updateDict (s := { s with toks := s.toks + k.draws }) ho hd (wpAny_point (h1 _ (valE_some hn hj) _ _ ⟨_, _, ep, Heap.get?_update_self _ ho (Obj.isFreed_of_dict (Obj.data_mapDict hd _)), hc.mapDict _, Obj.data_mapDict hd _, ?_, ?_⟩ (Heap.SameBut.update ..))))))
    · rw [setE_get v hn hj]
      have hlt : j < xs.length := (List.getElem?_eq_some_iff.mp hj).1
      apply List.ext_getElem?
      intro i
      rw [Array.getElem?_toList, List.getElem?_map]
      by_cases hi : i = j
      · subst hi
        have ej : es[i]? = some (entD w (k, p)) := by rw [← Array.getElem?_toList, he, List.getElem?_map, hj]; rfl
        rw [List.getElem?_set_self hlt]
        simp [Array.getElem?_modify, ej, entD]
      · rw [List.getElem?_set_ne (Ne.symm hi)]
        have ej : es[i]? = (xs[i]?).map (entD w) := by rw [← Array.getElem?_toList, he, List.getElem?_map]
        simp [Array.getElem?_modify, ej, Ne.symm hi]
    · unfold setE
      rw [List.map_map]
      have : ((fun x => x.1) ∘ fun x : Ent => if x.1 = k then (x.1, x.2.1, v) else x) = fun x : Ent => x.1 := by
        funext x; simp only [Function.comp]; split <;> rfl
      rw [this]; exact hn
theorem dsetdef_v {d : Addr} {u v : Value} {xs : List Ent} {k : NestedKey} {Q : Value → Shared → Prop} (hu : A.units + 8 < cLine) (hz : xs.length ≤ sizeLine) (ik : IsK s.heap k u) (D : DOf w s.heap d xs) (ks : KeysIn s.heap xs)
    (h0 : valE xs k = none → ∀ h' t, DOf w h' d (xs ++ [(k, u, v)]) → Heap.SameBut d s.heap h' → Q v { s with heap := h', toks := t })
    (h1 : ∀ x, valE xs k = some x → ∀ t, Q x { s with toks := t }) : wpAny (model prog w) A (dictSetDefault d u v) Q E s := by
  obtain ⟨o, es, ep, ho, hc, hd, he, hn⟩ := D
  have esz : es.size = xs.length := by rw [← Array.length_toList, he, List.length_map]
  unfold dictSetDefault
  try with_reducible refine wpAny_holding ?_
  refine wpAny_bind (isK_hash hu ik ?_)
  refine wpAny_bind (dictFind_v (s := { s with toks := s.toks + k.draws }) hu ik ho hd he ks hn (fun no => ?_) fun j p hj => ?_)
  · obtain ⟨a1, a2⟩ := dadd_ok (d := d) (o := o) (ep := ep) (u := u) (v := v) he hn no
    exact wpAny_bind (wpAny_rule (wpAny_bind (wpAny_updateDictKeys (hz := by omega) (s := { s with toks := s.toks + k.draws }) ho hd (wpAny_pure (h0 (valE_none no) _ _ ⟨_, _, ep + 1, Heap.get?_update_self _ ho (Obj.isFreed_of_dict (Obj.data_mapDictKeys hd _)), hc.mapDictKeys _, Obj.data_mapDictKeys hd _, a1, a2⟩ (Heap.SameBut.update ..))))))
  · refine wpAny_bind (wpAny_dictEntries (s := { s with toks := s.toks + k.draws }) ho hd ?_)
    have ej : es[j]? = some (entD w (k, p)) := by rw [← Array.getElem?_toList, he, List.getElem?_map, hj]; rfl
    rw [ej]
    exact wpAny_bind (wpAny_rule (wpAny_pure (h1 _ (valE_some hn hj) _)))
end
/-! ### the dict's roads -/
section
variable {prog : Program} {w : World} {A : Around} {E : Value → Shared → Prop} {s : Shared} {d : Addr} {u v : Value} {xs : List Ent} {k : NestedKey}
theorem contains_v {Q : Bool → Shared → Prop} (hu : A.units + 9 < cLine) (hd : (d == sysModules) = false) (ik : IsK s.heap k u) (D : DOf w s.heap d xs) (ks : KeysIn s.heap xs)
    (h : ∀ t, Q (valE xs k).isSome { s with toks := t }) : wpAny (model prog w) A (contains (.ref d) u) Q E s := by
  unfold contains
  try with_reducible refine wpAny_holding ?_
  refine wpAny_bind (wpAny_specialOf D.typeIs slot_dict_contains.lookup (wp_if (fun z => ?_) fun _ => ?_))
  · exact absurd z (by rw [beq_builtin_none]; decide)
  refine wpAny_bind (wpAny_callSpecialUnlessNone?_slot (name := Str.ofString "__contains__") D.typeIs slot_dict_contains (wpAny_call_entry slot_dict_contains D.typeIs entry_dict_contains ?_ (args_dict_contains _ _)))
  refine wpAny_bind (m := dictGet d u) (dget_v (A := A.in1) (by show A.units + 1 + 8 < cLine; omega) ik D ks fun t => ?_)
  have h := h t
  cases e : valE xs k with
  | some p => rw [e] at h; exact wpAny_pure ⟨_, rfl, wpAny_truthy_bool h⟩
  | none =>
    rw [e] at h
    exact wpAny_bind (wpAny_pendingKey_other hd (wpAny_pure ⟨_, rfl, wpAny_truthy_bool h⟩))
theorem in_v {Q : Value → Shared → Prop} (hu : A.units + 9 < cLine) (hd : (d == sysModules) = false) (ik : IsK s.heap k u) (D : DOf w s.heap d xs) (ks : KeysIn s.heap xs)
    (h : ∀ t, Q (.bool (valE xs k).isSome) { s with toks := t }) : wpAny (model prog w) A (compareOp .In u (.ref d)) Q E s :=
  wpAny_bind (m := contains (.ref d) u) (contains_v hu hd ik D ks fun t => wpAny_pure (h t))
theorem notIn_v {Q : Value → Shared → Prop} (hu : A.units + 9 < cLine) (hd : (d == sysModules) = false) (ik : IsK s.heap k u) (D : DOf w s.heap d xs) (ks : KeysIn s.heap xs)
    (h : ∀ t, Q (.bool (!(valE xs k).isSome)) { s with toks := t }) : wpAny (model prog w) A (compareOp .NotIn u (.ref d)) Q E s :=
  wpAny_bind (m := contains (.ref d) u) (contains_v hu hd ik D ks fun t => wpAny_pure (h t))
theorem getItem_v {x : Value} {Q : Value → Shared → Prop} (hu : A.units + 9 < cLine) (ik : IsK s.heap k u) (D : DOf w s.heap d xs) (ks : KeysIn s.heap xs) (e : valE xs k = some x)
    (h : ∀ t, Q x { s with toks := t }) : wpAny (model prog w) A (getItem (.ref d) u) Q E s := by
  unfold getItem
  try with_reducible refine wpAny_holding ?_
  refine wpAny_bind (wpAny_sequenceKey D.typeIs (by decide) (wpAny_bind (wpAny_callSpecial?_slot (name := Str.ofString "__getitem__") D.typeIs slot_dict_getitem (wpAny_call_entry slot_dict_getitem D.typeIs entry_dict_getitem ?_ (args_dict_getitem _ _)))))
  refine wpAny_bind (m := dictGet d u) (dget_v (A := A.in1) (by show A.units + 1 + 8 < cLine; omega) ik D ks fun t => ?_)
  rw [e]
  exact wpAny_pure ⟨x, rfl, wpAny_pure (h t)⟩
theorem setItem_v {Q : Unit → Shared → Prop} (hu : A.units + 9 < cLine) (hz : xs.length ≤ sizeLine) (ik : IsK s.heap k u) (D : DOf w s.heap d xs) (ks : KeysIn s.heap xs)
    (h0 : valE xs k = none → ∀ h' t, DOf w h' d (xs ++ [(k, u, v)]) → Heap.SameBut d s.heap h' → Q () { s with heap := h', toks := t })
    (h1 : ∀ x, valE xs k = some x → ∀ h' t, DOf w h' d (setE xs k v) → Heap.SameBut d s.heap h' → Q () { s with heap := h', toks := t }) : wpAny (model prog w) A (setItem (.ref d) u v) Q E s := by
  unfold setItem
  try with_reducible refine wpAny_holding ?_
  refine wpAny_bind (wpAny_sequenceKey D.typeIs (by decide) (wpAny_bind (wpAny_callSpecial?_slot (name := Str.ofString "__setitem__") D.typeIs slot_dict_setitem (wpAny_call_entry slot_dict_setitem D.typeIs entry_dict_setitem ?_ (args_dict_setitem _ _ _)))))
  refine wpAny_bind (wpAny_notOrdered_dict D.typeIs ?_)
  exact wpAny_bind (m := dictSet d u v) (dset_v (by show A.units + 1 + 8 < cLine; omega) hz ik D ks (fun e h' t a b => wpAny_pure ⟨.none, rfl, wpAny_pure (h0 e h' t a b)⟩) fun x e h' t a b => wpAny_pure ⟨.none, rfl, wpAny_pure (h1 x e h' t a b)⟩)
theorem setdefault_v {Q : Value → Shared → Prop} (hu : A.units + 9 < cLine) (hd : (d == sysModules) = false) (hz : xs.length ≤ sizeLine) (ik : IsK s.heap k u) (D : DOf w s.heap d xs) (ks : KeysIn s.heap xs)
    (h0 : valE xs k = none → ∀ h' t, DOf w h' d (xs ++ [(k, u, v)]) → Heap.SameBut d s.heap h' → Q v { s with heap := h', toks := t })
    (h1 : ∀ x, valE xs k = some x → ∀ t, Q x { s with toks := t }) : wpAny (model prog w) A (call (.builtin "dict.setdefault") [.ref d, u, v]) Q E s := by
  refine wpAny_call_entry F.slot_dict_setdefault D.typeIs F.entry_dict_setdefault ?_ (F.args_dict_setdefault_3 _ _ _)
  unfold Builtin.«dict.setdefault»
  refine wpAny_bind ?_
  unfold Builtin.Dict.keyAndDefault
  refine wpAny_bind (wpAny_notOrdered_dict D.typeIs (wpAny_pure (wp_if (fun z => ?_) fun _ => ?_)))
  · rw [hd] at z; cases z
  exact wpAny_bind (m := dictSetDefault d u v) (dsetdef_v (by show A.units + 1 + 8 < cLine; omega) hz ik D ks (fun e h' t a b => wpAny_pure ⟨_, rfl, h0 e h' t a b⟩) fun x e t => wpAny_pure ⟨_, rfl, h1 x e t⟩)
theorem len_v {Q : Value → Shared → Prop} (hd : (d == sysModules) = false) (hz : xs.length ≤ sizeLine) (D : DOf w s.heap d xs) (h : ∀ t t', Q (.int xs.length t) { s with toks := t' }) : wpAny (model prog w) A (call (.builtin "len") [.ref d]) Q E s := by
  obtain ⟨o, es, ep, ho, hc, hdat, he, hn⟩ := id D
  have esz : es.size = xs.length := by rw [← Array.length_toList, he, List.length_map]
  have hs := line63
  refine Calls.call_function_entry kind_len plain_len entry_len (args_len1 _) ?_
  unfold Builtin.«len»
  refine wpAny_bind (m := oneArg "len" _) (wpAny_pure ?_)
  refine wpAny_bind (wpAny_callSpecial?_slot (name := Str.ofString "__len__") D.typeIs F.slot_dict_len (wpAny_call_entry F.slot_dict_len D.typeIs F.entry_dict_len ?_ (F.args_dict_len_1 _)))
  refine wpAny_bind (m := dictSize d) ?_
  unfold dictSize
  refine wpAny_bind (wpAny_dictEntries ho hdat (wpAny_pure ?_))
  refine wpAny_bind (wpAny_pendingCount_other hd ?_)
  refine wpAny_ret_mkInt ?_
  refine wpAny_bind (wpAny_holding (wpAny_pure ?_))
  refine wpAny_bind (wpAny_letGo (wp_if (fun z => ?_) fun _ => wp_if (fun z => ?_) fun _ => ?_))
  · exfalso; omega
  · exfalso; omega
  refine wpAny_bind (wpAny_mkInt (wpAny_pure ⟨_, rfl, ?_⟩))
  rw [Nat.add_zero, esz]
  exact h _ _
end
/-! ### a key as data -/
mutual
def kD : NestedKey → PyData
  | .none => .none
  | .num i => .int i
  | .text x => .str x
  | .tup ks => .tuple (kDs ks)
def kDs : List NestedKey → List PyData
  | [] => []
  | k :: ks => kD k :: kDs ks
end
mutual
theorem noL_kD : ∀ k, noL (kD k) = true
  | .none => rfl
  | .num i => rfl
  | .text x => rfl
  | .tup ks => by simp only [kD, noL]; exact noL_kDs ks
theorem noL_kDs : ∀ ks, noLs (kDs ks) = true
  | [] => rfl
  | k :: ks => by simp only [kDs, noLs, noL_kD k, noL_kDs ks, Bool.and_self]
end
def KOk (k : NestedKey) : Prop := k.depth ≤ 8 ∧ ∀ x, k ≠ .text x
section
variable {P : Program} {w : World} {H : Hp} {h : Heap} {Z : List Addr}
mutual
theorem im_is (ok : HOk P w H h) : ∀ (k : NestedKey) (v : V) (u : Value), Im H Z (kD k) v → RelV v u → NestedIs h k u
  | .none, v, u, m, r => by
    have m : v = .non := m
    subst m
    cases (show u = Value.none from r)
    exact .none
  | .num i, v, u, m, r => by
    have m : v = .int i := m
    subst m
    obtain ⟨t, rfl⟩ := (show ∃ t, u = Value.int i t from r)
    exact .int i t
  | .text x, v, u, m, r => by
    have m : v = .str x := m
    subst m
    obtain ⟨t, rfl⟩ := (show ∃ t, u = Value.str x t from r)
    exact .text x t
  | .tup ks, v, u, m, r => by
    obtain ⟨a, xs, e, h1, h2, h3⟩ := (show ∃ a xs, v = .ref a ∧ H a = some (.tup xs) ∧ a ∉ Z ∧ ImAll H Z (kDs ks) xs from m)
    subst e
    cases (show u = Value.ref a from r)
    obtain ⟨_, its, rv, o, e1, e2, n, e3⟩ := (show ObjOk P w H h a (.tup xs) from ok a _ h1)
    exact .tup e1 e2 e3 (by simpa using ims_is ok ks xs its h3 rv)
theorem ims_is (ok : HOk P w H h) : ∀ (ks : List NestedKey) (vs : List V) (us : List Value), ImAll H Z (kDs ks) vs → Vals vs us → NestedAll h ks us
  | [], vs, us, m, r => by
    have m : vs = [] := m
    subst m
    cases r
    exact .nil
  | k :: ks, vs, us, m, r => by
    obtain ⟨x, t, e, m1, m2⟩ := (show ∃ x t, vs = x :: t ∧ Im H Z (kD k) x ∧ ImAll H Z (kDs ks) t from m)
    subst e
    cases r with
    | cons r1 r2 => exact .cons (im_is ok k x _ m1 r1) (ims_is ok ks t _ m2 r2)
end
theorem im_isK (ok : HOk P w H h) {k : NestedKey} {v : V} {u : Value} (m : Im H Z (kD k) v) (r : RelV v u) (hk : KOk k) : IsK h k u :=
  ⟨im_is ok k v u m r, hk.1, fun x t e => by
    subst e
    have := im_is ok k v _ m r
    cases this
    exact hk.2 x rfl⟩
end
/-! ### the dict as a thing of the heap -/
abbrev KA := NestedKey × V × V
def relE (p : KA) (q : Ent) : Prop := p.1 = q.1 ∧ RelV p.2.1 q.2.1 ∧ RelV p.2.2 q.2.2
def DictO (w : World) (d : Addr) (t : List KA) : HO := .ext fun h => t.length ≤ sizeLine ∧ (d == sysModules) = false ∧ ∃ xs, Paired relE t xs ∧ DOf w h d xs
def valK (t : List KA) (k : NestedKey) : Option V := (t.find? fun x => decide (x.1 = k)).map (·.2.2)
structure DAt (w : World) (H : Hp) (Z : List Addr) (a : Addr) (t : List KA) : Prop where
  at' : H a = some (DictO w a t)
  ks : ∀ x ∈ t, Im H Z (kD x.1) x.2.1 ∧ KOk x.1
theorem DOf.at' {w : World} {h h' : Heap} {d : Addr} {xs : List Ent} (x : DOf w h d xs) (k : ∀ o, h.get? d = some o → h'.get? d = some o) : DOf w h' d xs := let ⟨o, es, ep, ho, r⟩ := x; ⟨o, es, ep, k o ho, r⟩
theorem dictO_ok {P : Program} {w : World} {H : Hp} {h : Heap} {d : Addr} {t : List KA} {xs : List Ent} (hz : t.length ≤ sizeLine) (hd : (d == sysModules) = false) (r : Paired relE t xs) (D : DOf w h d xs) : ObjOk P w H h d (DictO w d t) :=
  ⟨⟨hz, hd, xs, r, D⟩, let ⟨o, _, _, ho, _⟩ := D; ⟨o, ho⟩, fun h1 h2 ⟨a, b, xs, r, D⟩ k => ⟨a, b, xs, r, D.at' k⟩⟩
theorem rel_val {k : NestedKey} : ∀ {t : List KA} {xs : List Ent}, Paired relE t xs → RelO (valK t k) (valE xs k)
  | _, _, .nil => True.intro
  | _, _, .cons (a := p) (b := q) h r => by
    have ih := rel_val (k := k) r
    unfold valK valE at ih ⊢
    rw [List.find?_cons, List.find?_cons, h.1]
    by_cases e : q.1 = k
    · simp only [e, decide_true]; exact h.2.2
    · simp only [e, decide_false]; exact ih
section
variable {X : Cx} {w : World} {pins : List (Addr × Obj)} {σ : St} {H : Hp} {s : Shared} {a : Addr} {t : List KA} {Z : List Addr}
theorem keys_in {P : Program} (ok : HOk P w H s.heap) : ∀ {t : List KA} {xs : List Ent}, Paired relE t xs → (∀ x ∈ t, Im H Z (kD x.1) x.2.1 ∧ KOk x.1) → KeysIn s.heap xs
  | _, _, .nil, _ => fun x h => by simp at h
  | _, _, .cons (a := p) (b := q) h r, hk => fun x hx => by
    rcases List.mem_cons.mp hx with rfl | hx
    · obtain ⟨m, k⟩ := hk p (by simp)
      rw [← h.1]
      exact im_isK ok m h.2.1 k
    · exact keys_in ok r (fun y hy => hk y (by simp [hy])) x hx
theorem DAt.raw (D : DAt X.w H Z a t) (I : Inv X pins σ H s) : t.length ≤ sizeLine ∧ (a == sysModules) = false ∧ ∃ xs, Paired relE t xs ∧ DOf X.w s.heap a xs ∧ KeysIn s.heap xs := by
  obtain ⟨⟨hz, hd, xs, r, D'⟩, _⟩ := (show ObjOk X.prog X.w H s.heap a (DictO X.w a t) from I.hok a _ D.at')
  exact ⟨hz, hd, xs, r, D', keys_in I.hok r D.ks⟩
theorem ty_dictK : TyOk X "dict" (fun x H => ∃ a t, x = .ref a ∧ H a = some (DictO X.w a t)) := by
  intro pins σ H s x v I r ty
  obtain ⟨a, t, rfl, e⟩ := ty
  cases r
  obtain ⟨⟨hz, hd, xs, r, D'⟩, _⟩ := (show ObjOk X.prog X.w H s.heap a (DictO X.w a t) from I.hok a _ e)
  refine ⟨D'.typeIs, fun b e => ?_⟩
  cases e
  obtain ⟨o, _, _, ho, hc, _⟩ := D'
  exact ⟨o, ho, hc.2.1⟩
end
/-! ### rules -/
def rKIn (w : World) (g : Bool → Bool) : R2 := fun y x H Q => ∃ (Z Z' : List Addr) (a : Addr) (t : List KA) (k : NestedKey), x = .ref a ∧ DAt w H Z a t ∧ Im H Z' (kD k) y ∧ KOk k ∧ Q (.bl (g (valK t k).isSome)) H
def rKGet (w : World) : R2 := fun x y H Q => ∃ (Z Z' : List Addr) (a : Addr) (t : List KA) (k : NestedKey) (v : V), x = .ref a ∧ DAt w H Z a t ∧ Im H Z' (kD k) y ∧ KOk k ∧ valK t k = some v ∧ Q v H
/-- d[y] = v, y not in d -/
def sKPut (w : World) (td ty tv : TE) : TS := fun D σ H => tv σ H fun v H1 => td σ H1 fun x H2 => ty σ H2 fun y H3 => ∃ (Z Z' : List Addr) (a : Addr) (t : List KA) (k : NestedKey), x = .ref a ∧ DAt w H3 Z a t ∧ Im H3 Z' (kD k) y ∧ KOk k ∧ valK t k = none ∧ t.length < sizeLine ∧ D.nx σ (upd H3 a (DictO w a (t ++ [(k, y, v)])))
def rKDef (w : World) : V → List V → Hp → VK → Prop := fun x xs H Q => ∃ (Z Z' : List Addr) (a : Addr) (t : List KA) (k : NestedKey) (y v : V), x = .ref a ∧ xs = [y, v] ∧ DAt w H Z a t ∧ Im H Z' (kD k) y ∧ KOk k ∧ t.length < sizeLine ∧
  (valK t k = none → Q v (upd H a (DictO w a (t ++ [(k, y, v)])))) ∧ ∀ z, valK t k = some z → Q z H
def rKLen (w : World) : List V → Hp → VK → Prop := fun xs H Q => ∃ (Z : List Addr) (a : Addr) (t : List KA), xs = [.ref a] ∧ DAt w H Z a t ∧ Q (nV t.length) H
section
variable {X : Cx} {w : World}
theorem oK_in (hw : X.w = w) (hu : X.A.units + 64 < cLine) : OpR X (compareOp .In) (rKIn w id) := by
  subst hw
  intro pins s σ H y x v u Q I ry rx h
  obtain ⟨Z, Z', a, t, k, rfl, D, m, hk, q⟩ := h
  cases rx
  obtain ⟨hz, hd, xs, r, D', ks⟩ := D.raw I
  refine in_v (by omega) hd (im_isK I.hok m ry hk) D' ks fun tk => ⟨_, H, I.tok _, ?_, q⟩
  show Value.bool _ = Value.bool _
  rw [← (rel_val (k := k) r).isSome_eq]; rfl
theorem oK_notin (hw : X.w = w) (hu : X.A.units + 64 < cLine) : OpR X (compareOp .NotIn) (rKIn w not) := by
  subst hw
  intro pins s σ H y x v u Q I ry rx h
  obtain ⟨Z, Z', a, t, k, rfl, D, m, hk, q⟩ := h
  cases rx
  obtain ⟨hz, hd, xs, r, D', ks⟩ := D.raw I
  refine notIn_v (by omega) hd (im_isK I.hok m ry hk) D' ks fun tk => ⟨_, H, I.tok _, ?_, q⟩
  show Value.bool _ = Value.bool _
  rw [← (rel_val (k := k) r).isSome_eq]
theorem ixK (hw : X.w = w) (hu : X.A.units + 64 < cLine) : IxR X (rKGet w) := by
  subst hw
  intro value slice pins s σ H x y v u Q I rx ry h hs
  obtain ⟨Z, Z', a, t, k, z, rfl, D, m, hk, e, q⟩ := h
  cases rx
  obtain ⟨hz, hd, xs, r, D', ks⟩ := D.raw I
  obtain ⟨z', e', rz⟩ := RelO.some_of (v := z) (o := valE xs k) (by rw [← e]; exact rel_val r)
  have hT := D'.typeIs (s := s)
  unfold PyProof.Rows.subscriptTail
  refine wpAny_bind ?_
  rw [getitemInPython_of_ne hT.not_modules]
  refine wpAny_bind (wpAny_specialOf hT PySem.F.slot_dict_getitem.lookup ?_)
  have fin : wpAny (model X.prog X.w) X.A (subscripted slice false (.ref a) u) (fun r s₃ => wpAny (model X.prog X.w) X.A (letTemporaryGo value (.ref a) r >>= fun _ => pure r) (EP X pins σ Q) X.xe s₃) X.xe s := by
    rw [hs]
    exact wpAny_operating (getItem_v (by omega) (im_isK I.hok m ry hk) D' ks e' fun tk => wpAny_bind (wpAny_letTemporaryGo (wpAny_pure ⟨z, H, I.tok _, rz, q⟩)))
  first
    | exact wpAny_pure (wpAny_bind fin)
    | exact wpAny_bind (wpAny_pure (wpAny_bind fin))
    | exact wpAny_bind fin
theorem put_at {pins : List (Addr × Obj)} {σ : St} {H : Hp} {s : Shared} {a : Addr} {t : List KA} {Z : List Addr} {h' : Heap} {tk : Nat} {xs : List Ent} {k : NestedKey} {y v : V} {u x : Value} (I : Inv X pins σ H s) (D : DAt X.w H Z a t) (hz : t.length < sizeLine)
    (hd : (a == sysModules) = false) (r : Paired relE t xs) (ry : RelV y u) (rv : RelV v x) (D' : DOf X.w h' a (xs ++ [(k, u, x)])) (hs : Heap.SameBut a s.heap h') : Inv X pins σ (upd H a (DictO X.w a (t ++ [(k, y, v)]))) { s with heap := h', toks := tk } := by
  refine d_write I (by rw [D.at']; exact True.intro) hs (let ⟨o, _, _, ho, _⟩ := D'; ⟨o, ho⟩) (dictO_ok ?_ hd (Paired.snoc r ⟨rfl, ry, rv⟩) D')
  rw [List.length_append]; exact hz
theorem ps_kput (hw : X.w = w) (hu : X.A.units + 64 < cLine) {o i value : Expr} {pos pos' : Pos} {td ty tv : TE} (ho : PE X o td) (hi : PE X i ty) (hv : PE X value tv) (hs : swapsWith value (some (.Subscript o i pos')) pos.line X.env = pure false) :
    PS X (.Assign [.Subscript o i pos'] value pos) (sKPut w td ty tv) := by
  subst hw
  refine ⟨fun pins s σ H D I h => ?_⟩
  refine wpAny_Assign_Subscript (thn (hv.run pins s σ H _ I h) fun r s1 ⟨v, H1, I1, rv, q1⟩ => thn (ho.run pins s1 σ H1 _ I1 q1) fun u s2 ⟨x, H2, I2, rx, q2⟩ => thn (hi.run pins s2 σ H2 _ I2 q2) fun iv s3 ⟨y, H3, I3, ry, Z, Z', a, t, k, ex, DA, m, hk, e, hl, q3⟩ => ?_) hs
  subst ex
  obtain rfl : u = Value.ref a := rx
  obtain ⟨hz, hd, xs, rr, D', ks⟩ := DA.raw I3
  have el : xs.length ≤ sizeLine := by rw [← Paired.length rr]; exact hz
  refine setItem_v (by omega) el (im_isK I3.hok m ry hk) D' ks (fun _ h' tk a b => ⟨σ, _, put_at I3 DA hl hd rr ry rv a b, q3⟩) fun z ez => ?_
  have := rel_val (k := k) rr
  rw [e, ez] at this
  exact this.elim
theorem mt_kdef (hw : X.w = w) (hu : X.A.units + 64 < cLine) : MtR X "dict.setdefault" (rKDef w) := by
  subst hw
  intro pins s σ H x xs v us Q I rx rxs h
  obtain ⟨Z, Z', a, t, k, y, z, rfl, rfl, D, m, hk, hl, q0, q1⟩ := h
  cases rx
  obtain ⟨u1, u2, rfl, r1, r2⟩ := vals2 rxs
  obtain ⟨hz, hd, es, rr, D', ks⟩ := D.raw I
  have el : es.length ≤ sizeLine := by rw [← Paired.length rr]; exact hz
  have rel := rel_val (k := k) rr
  refine setdefault_v (by omega) hd el (im_isK I.hok m r1 hk) D' ks (fun e h' tk a b => ?_) fun x e tk => ?_
  · have en : valK t k = none := by
      rw [e] at rel
      cases q : valK t k with
      | none => rfl
      | some _ => rw [q] at rel; exact rel.elim
    exact ⟨z, _, put_at I D hl hd rr r1 r2 a b, r2, q0 en⟩
  · rw [e] at rel
    cases q : valK t k with
    | none => rw [q] at rel; exact rel.elim
    | some z' =>
      rw [q] at rel
      exact ⟨z', H, I.tok _, rel, q1 z' q⟩
theorem call_klen (hw : X.w = w) : CallR X (.builtin "len") (rKLen w) := by
  subst hw
  intro pins s σ H xs us Q I r h
  obtain ⟨Z, a, t, rfl, D, q⟩ := h
  obtain ⟨u, rfl, rx⟩ := vals1 r
  cases rx
  obtain ⟨hz, hd, es, rr, D', ks⟩ := D.raw I
  have el : es.length ≤ sizeLine := by rw [← Paired.length rr]; exact hz
  exact len_v hd el D' fun t1 t2 => ⟨nV t.length, H, I.tok _, ⟨t1, by rw [Paired.length rr]⟩, q⟩
/-- {} -/
def tKNew (w : World) : TE := fun _ H Q => ∀ p, H p = none → Q (.ref p) (upd H p (DictO w p []))
theorem dof_empty {w : World} (h : Heap) : DOf w (h.push { cls := .type "dict", data := .dict #[] }) h.objs.size [] := ⟨_, #[], 0, Heap.get?_push_size _ rfl, ⟨rfl, rfl, rfl⟩, rfl, rfl, List.nodup_nil⟩
theorem I_newD {pins : List (Addr × Obj)} {σ : St} {H : Hp} {s : Shared} (I : Inv X pins σ H s) : Inv X pins σ (upd H s.heap.objs.size (DictO X.w s.heap.objs.size [])) { s with heap := s.heap.push { cls := .type "dict", data := .dict #[] } } :=
  I.laid (t' := s.toks) (fun _ _ q => Heap.get?_push_of_some _ q) (Nat.le_refl _) (dictO_ok (Nat.zero_le _) (beq_eq_false_iff_ne.mpr (Ne.symm (Nat.ne_of_lt I.big))) .nil (dof_empty s.heap))
theorem pe_knew (hw : X.w = w) {pos : Pos} : PE X (.Dict [] [] pos) (tKNew w) := by
  subst hw
  exact ⟨fun pins s σ H Q I h => wpAny_Dict_empty ⟨.ref s.heap.objs.size, _, I_newD I, rfl, h _ (I.hok.fresh (Nat.le_refl _))⟩⟩
/-- {x: y} -/
def tKOne (w : World) (tk tv : TE) : TE := fun σ H Q => ∀ p, H p = none → tk σ (upd H p (DictO w p [])) fun x H1 => tv σ H1 fun y H2 => ∃ (Z : List Addr) (k : NestedKey), H2 p = some (DictO w p []) ∧ Im H2 Z (kD k) x ∧ KOk k ∧ Q (.ref p) (upd H2 p (DictO w p [(k, x, y)]))
theorem pe_kone (hw : X.w = w) (hu : X.A.units + 64 < cLine) {pos : Pos} {ke ve : Expr} {tk tv : TE} (hk : PE X ke tk) (hv : PE X ve tv) : PE X (.Dict [some ke] [ve] pos) (tKOne w tk tv) := by
  subst hw
  refine ⟨fun pins s σ H Q I h => ?_⟩
  rw [arm_eval_Dict, zip_pairTrees [some ke] [ve] X.env pos rfl rfl, dictDisplay_pairs _ (by simp [pairTrees]) (by simp [pairTrees])]
  refine wpAny_bind (wpAny_standAt (wpAny_bind ?_))
  unfold subDict
  refine wpAny_bind (wpAny_alloc ?_)
  refine wpAny_bind (wpAny_holding ?_)
  rw [if_pos (by simp [pairTrees])]
  have hn := I.hok.fresh (Nat.le_refl s.heap.objs.size)
  have I1 := I_newD I
  refine wpAny_bind (pairTrees_cons_walk (thn (hk.run pins _ σ _ _ I1 (h _ hn)) fun kv s1 ⟨x, H1, I2, rx, q1⟩ => thn (hv.run pins s1 σ H1 _ I2 q1) fun vv s2 ⟨y, H2, I3, ry, Z, k, e2, m, kok, q2⟩ => pairTrees_nil_walk ?_))
  have D : DAt X.w H2 Z s.heap.objs.size [] := ⟨e2, fun x hx => by simp at hx⟩
  obtain ⟨hz, hd, es, rr, D', ks⟩ := D.raw I3
  cases rr
  refine wpAny_holding (wpAny_bind ?_)
  rw [List.forIn_cons]
  refine wpAny_bind (wpAny_bind (dset_v (by omega) (Nat.zero_le _) (im_isK I3.hok m rx kok) D' ks (fun _ h' tk a b => wpAny_pure ?_) fun z ez => by simp [valE] at ez))
  exact wpAny_pure (wpAny_pure (wpAny_pure (wpAny_pure ⟨V.ref s.heap.objs.size, _, put_at (t := []) I3 D (by simp [sizeLine_eq]) hd .nil rx ry a b, rfl, q2⟩)))
end
/-! ### enumerate over a tuple, over a text -/
abbrev enO (i : Addr) : Obj := { cls := .type "enumerate", data := .fields #[.none, .bool false, .ref i, rawInt 0, .none, .none] }
theorem en_new {v : Value} {o : Obj} {H : Heap → Prop} (B : Begins v o H) :
    Meets (Builtin.«enumerate.__new__» ⟨[.type "enumerate", v], []⟩) (fun _ R s => H s.heap ∧ R (.ok (.ret (.ref (s.heap.push o).objs.size))) { s with heap := (s.heap.push o).push (enO s.heap.objs.size) }) :=
  .of_wp fun prog w A R s hh => by
    obtain ⟨hp, g, d, tk, os⟩ := s
    obtain ⟨h1, h⟩ := hh
    have hsub := sub_enumerate
    have q1 : ∀ {A' : Around} {E : Value → Shared → Prop} {Q : Value → Shared → Prop}, Q (.ref hp.objs.size) ⟨hp.push o, g, d, tk, os⟩ → wpAny (model prog w) A' (pyIter v) Q E ⟨hp, g, d, tk, os⟩ := fun q => B.iter prog w _ _ ⟨hp, g, d, tk, os⟩ _ h1 q
    wp_walk using q1
    refine wpAny_stack_any fun st => wpAny_pure ?_
    split
    · rename_i c _ _ _ _ _
      cases (c == Value.type "enumerate") <;> (wp_walk using q1; exact ⟨_, rfl, h⟩)
    · wp_walk using q1; exact ⟨_, rfl, h⟩
theorem en_begins {prog : Program} {w : World} {A : Around} {E : Value → Shared → Prop} {s : Shared} {v : Value} {o : Obj} {H : Heap → Prop} {Q : Value → Shared → Prop} (B : Begins v o H) (h1 : H s.heap)
    (h : ∀ h', IsEnum h' (s.heap.objs.size + 1) s.heap.objs.size 0 .none → h'.get? s.heap.objs.size = some o → (∀ b o, s.heap.get? b = some o → h'.get? b = some o) → Q (.ref (s.heap.objs.size + 1)) { s with heap := h' }) :
    wpAny (model prog w) A (call (.type "enumerate") [v]) Q E s := by
  refine callType_new F.called_enumerate (by decide) (F.typeCall_enumerate_1 _) (F.newCall_enumerate_1 _) (fun obj => F.args_object_init_2 obj _) F.entry_enumerate_new (en_new B) ⟨h1, ?_⟩
  have hz : (s.heap.push o).objs.size = s.heap.objs.size + 1 := Heap.size_push ..
  have he : IsEnum ((s.heap.push o).push (enO s.heap.objs.size)) (s.heap.objs.size + 1) s.heap.objs.size 0 .none := by
    have := Heap.get?_push_size (s.heap.push o) (o := enO s.heap.objs.size) rfl
    rw [hz] at this; exact this
  show _ ∧ _
  rw [hz]
  exact ⟨⟨_, he, rfl⟩, h _ he (Heap.get?_push_of_some _ (Heap.get?_push_size _ B.free)) fun b o x => Heap.get?_push_of_some _ (Heap.get?_push_of_some _ x)⟩
/-- the tuple at a, each item in a new pair with its number -/
def ItE (K : PySem.W.Frag) (a : Addr) : It :=
  ⟨fun i H => ∃ (xs : List V) (x : V), SqT K H a xs ∧ xs[i]? = some x, fun i H v H' => ∃ T x, v = .ref T ∧ H T = none ∧ H' = upd H T (.tup [nV i, x]) ∧ ∀ xs, SqT K H a xs → xs[i]? = some x, fun i H => ∃ xs : List V, SqT K H a xs ∧ xs.length = i⟩
/-- the signs of a text -/
def ItES (z : Str) : It :=
  ⟨fun i _ => i < z.cps.size, fun i H v H' => ∃ T c, v = .ref T ∧ H T = none ∧ z.cps[i]? = some c ∧ H' = upd H T (.tup [nV i, .str ⟨#[c]⟩]), fun i _ => z.cps.size = i⟩
section
variable {P : Program} {w : World} {K : PySem.W.Frag} {elts : List Expr} {kk : Nat} {tpos : Pos}
theorem en_item {X : Cx} {e it : Addr} {fp : List Addr} {n i : Nat} {PP : Nat → Value → Prop} {Sx : Nat → Heap → Prop} {pins : List (Addr × Obj)} {σ : St} {H : Hp} {s : Shared} {E : Value → Shared → Prop} {old : Value} {R : V → Hp → Heap → Prop}
    (D : Draws X.prog X.w X.A.in1 it fp n PP Sx) (I : Inv X pins σ H s) (hf : ∀ b ∈ [e, it], FpOk X pins H b) (he : IsEnum s.heap e it (i : Int) old) (st : Sx i s.heap) (hi : i < n) (hne : e ≠ it) (hef : e ∉ fp)
    (hR : ∀ x u h', PP i u → RelV x u → H s.heap.objs.size = none → (∃ old, IsEnum h' e it ((i + 1 : Nat) : Int) old) → Sx (i + 1) h' → R (.ref s.heap.objs.size) (upd H s.heap.objs.size (.tup [nV i, x])) h') (hx : ∀ u, PP i u → ∃ x, RelV x u) :
    wpAny (model X.prog X.w) X.A (pyNext (.ref e)) (fun r s1 => ∃ u, r = some u ∧
      wpAny (model X.prog X.w) X.A (letOwnedTupleGo (.Tuple elts kk tpos) (.ref e) u) (fun _ s2 => ∃ x H', Inv X pins σ H' s2 ∧ RelV x u ∧ R x H' s2.heap ∧ ∀ b ∈ [e, it], H' b = none) E s1) E s := by
  have hel : e < s.heap.objs.size := Heap.lt_size he
  have hil : it < s.heap.objs.size := by obtain ⟨_, q⟩ := D.live _ _ st; exact Heap.lt_size q
  refine wpAny_pyNext_enum_itemD D he st hi hne hef fun u h' tk pu ho st' hT hsz hk => ?_
  obtain ⟨x, ru⟩ := hx u pu
  refine ⟨_, rfl, wpAny_letOwnedTupleGo_enum (s := { s with heap := h', toks := tk + 1 }) ho fun h'' he' sb => ?_⟩
  have hT2 : h''.get? s.heap.objs.size = some { cls := .type "tuple", data := .seq #[.int i tk, u] } := (sb.2 _ (Nat.ne_of_gt hel)).trans hT
  have new : ObjOk X.prog X.w (upd H s.heap.objs.size (.tup [nV i, x])) h'' s.heap.objs.size (.tup [nV i, x]) := ⟨by show 2 ≤ sizeLine; decide, [.int i tk, u], .cons ⟨_, rfl⟩ (.cons ru .nil), ⟨_, hT2, rfl, _, rfl⟩⟩
  have I1 : Inv X pins σ (upd H s.heap.objs.size (.tup [nV i, x])) { s with heap := h'', toks := tk + 1 } :=
    I.turnedNew (ch := [e, it]) (fun b ob hb q => (sb.2 b (fun z => hb (by simp [z]))).trans (hk b ob (fun z => hb (by simp [z])) (fun z => hb (by simp [z])) q)) hf (Nat.le_refl _) new
  refine ⟨.ref s.heap.objs.size, _, I1, rfl, hR x u h'' pu ru (I.hok.fresh (Nat.le_refl _)) ⟨u, ?_⟩ (D.frame _ _ _ st' fun b hb o y => (sb.2 b fun q => hef (q ▸ hb)).trans y), fun b hb => ?_⟩
  · have e1 : ((i + 1 : Nat) : Int) = (i : Int) + 1 := by omega
    rw [e1]; exact he'
  · have hb' : b < s.heap.objs.size := by
      have e' : b = e ∨ b = it := by simpa using hb
      rcases e' with z | z
      · rw [z]; exact hel
      · rw [z]; exact hil
    rw [upd_ne (Nat.ne_of_lt hb')]
    exact (hf b hb).1
theorem turn_enT (a e it : Addr) (hae : a ≠ e) (hai : a ≠ it) : Turn P w K (.Tuple elts kk tpos) (ItE K a) [e, it] e (fun i h => (∃ old, IsEnum h e it ((i : Nat) : Int) old) ∧ h.IsTupleIter it a i ∧ e ≠ it) where
  mem := by simp
  obj := fun i h st b hb => by
    obtain ⟨⟨old, he⟩, ⟨o, ho, hc, hd⟩, _⟩ := st
    have e' : b = e ∨ b = it := by simpa using hb
    rcases e' with z | z
    · rw [z]; exact ⟨_, he, fun v q => nomatch q⟩
    · rw [z]; exact ⟨o, ho, fun v q => by rw [hd] at q; cases q⟩
  keep := fun i h h' st k => let ⟨⟨old, he⟩, hi, hne⟩ := st; ⟨⟨old, k e (by simp) _ he⟩, hi.at fun o q => k it (by simp) o q, hne⟩
  item := by
    intro X hP hw hK hc i pins s σ H E I hf st hg
    subst hP hw hK
    obtain ⟨⟨old, he⟩, hit, hne⟩ := st
    obtain ⟨xs, x, hq, hx⟩ := hg
    obtain ⟨its, rv, p, hz⟩ := I.tuple hq
    obtain ⟨u, hu, ru⟩ := rv.get hx
    have hi : i < its.toArray.size := by
      have := (List.getElem?_eq_some_iff.mp hu).1
      simpa using this
    have hgu : its.toArray[i]? = some u := by simpa using hu
    have := en_item (elts := elts) (kk := kk) (tpos := tpos) (E := E) (R := fun v H' h' => (ItE X.K a).yld i H v H' ∧ (∃ old, IsEnum h' e it ((i + 1 : Nat) : Int) old) ∧ h'.IsTupleIter it a (i + 1) ∧ e ≠ it)
      (Draws.tuple (prog := X.prog) (w := X.w) (A := X.A.in1) (I.ok.hd hc) it a hai its.toArray) I hf he ⟨hit, p⟩ hi hne (by simp; exact ⟨hne, Ne.symm hae⟩) (fun y v h' pv ry hn hen st' => ?_) (fun v pv => ?_)
    · refine wpAny_mono this (fun r s1 ⟨v, e1, q⟩ => ⟨v, e1, wpAny_mono q (fun _ s2 ⟨y, H', I', ry, ⟨r1, r2⟩, f⟩ => ⟨y, H', I', ry, r1, r2, f⟩) fun _ _ z => z⟩) fun _ _ z => z
    · have pv : its.toArray[i]? = some v := pv
      rw [hgu] at pv; cases pv
      refine ⟨⟨_, y, rfl, hn, rfl, fun ys hy => ?_⟩, hen, st'.1, hne⟩
      rw [I.tuple_inj hy hq, hx, RelV.inj ru ry]
    · have pv : its.toArray[i]? = some v := pv
      rw [hgu] at pv; cases pv
      exact ⟨x, ru⟩
  done := by
    intro X hP hw hK hc i pins s σ H E I hf st hg
    subst hP hw hK
    obtain ⟨⟨old, he⟩, hit, hne⟩ := st
    obtain ⟨xs, hq, hx⟩ := hg
    obtain ⟨its, rv, p, hz⟩ := I.tuple hq
    obtain ⟨f0, f1, f2, f3, f4, f5⟩ := hf it (by simp)
    have hl : its.toArray.size = i := by have := rv.length; simp; omega
    refine wpAny_pyNext_enum_endD (Draws.tuple (prog := X.prog) (w := X.w) (A := X.A.in1) (I.ok.hd hc) it a hai its.toArray) he (by rw [hl]; exact ⟨hit, p⟩) fun h' eb => ⟨rfl, I.turned (t' := s.toks) (fun b o hb q => eb b o hb q) f0 f1 f3 f4 f5⟩
  self := fun A i s Q E st h => let ⟨⟨_, he⟩, _⟩ := st; wpAny_pyIter_enum he h
theorem turn_enS (z : Str) (t : Tok) (e it : Addr) : Turn P w K (.Tuple elts kk tpos) (ItES z) [e, it] e (fun i h => (∃ old, IsEnum h e it ((i : Nat) : Int) old) ∧ h.IsStrIter it (strIterType z) z t i ∧ e ≠ it) where
  mem := by simp
  obj := fun i h st b hb => by
    obtain ⟨⟨old, he⟩, ⟨o, ho, hc, hd⟩, _⟩ := st
    have e' : b = e ∨ b = it := by simpa using hb
    rcases e' with z | z
    · rw [z]; exact ⟨_, he, fun v q => nomatch q⟩
    · rw [z]; exact ⟨o, ho, fun v q => by rw [hd] at q; cases q⟩
  keep := fun i h h' st k => by
    obtain ⟨⟨old, he⟩, ⟨o, ho, r⟩, hne⟩ := st
    exact ⟨⟨old, k e (by simp) _ he⟩, ⟨o, k it (by simp) o ho, r⟩, hne⟩
  item := by
    intro X hP hw hK hc i pins s σ H E I hf st hg
    subst hP hw hK
    obtain ⟨⟨old, he⟩, hit, hne⟩ := st
    have := en_item (elts := elts) (kk := kk) (tpos := tpos) (E := E) (R := fun v H' h' => (ItES z).yld i H v H' ∧ (∃ old, IsEnum h' e it ((i + 1 : Nat) : Int) old) ∧ h'.IsStrIter it (strIterType z) z t (i + 1) ∧ e ≠ it)
      (Draws.text (prog := X.prog) (w := X.w) (A := X.A.in1) (I.ok.hd hc) it z t) I hf he hit hg hne (by simp; exact hne) (fun y v h' pv ry hn hen st' => ?_) (fun v pv => ?_)
    · refine wpAny_mono this (fun r s1 ⟨v, e1, q⟩ => ⟨v, e1, wpAny_mono q (fun _ s2 ⟨y, H', I', ry, ⟨r1, r2⟩, f⟩ => ⟨y, H', I', ry, r1, r2, f⟩) fun _ _ z => z⟩) fun _ _ z => z
    · obtain ⟨c, u, hc', rfl⟩ := pv
      have ey : y = .str ⟨#[c]⟩ := RelV.inj ry (show RelV (.str ⟨#[c]⟩) (.str ⟨#[c]⟩ u) from ⟨u, rfl⟩)
      exact ⟨⟨_, c, rfl, hn, hc', by rw [ey]⟩, hen, st', hne⟩
    · obtain ⟨c, u, hc', rfl⟩ := pv
      exact ⟨.str ⟨#[c]⟩, u, rfl⟩
  done := by
    intro X hP hw hK hc i pins s σ H E I hf st hg
    subst hP hw hK
    obtain ⟨⟨old, he⟩, hit, hne⟩ := st
    obtain ⟨f0, f1, f2, f3, f4, f5⟩ := hf it (by simp)
    have hg : z.cps.size = i := hg
    refine wpAny_pyNext_enum_endD (Draws.text (prog := X.prog) (w := X.w) (A := X.A.in1) (I.ok.hd hc) it z t) he (by rw [hg]; exact hit) fun h' eb => ⟨rfl, I.turned (t' := s.toks) (fun b o hb q => eb b o hb q) f0 f1 f3 f4 f5⟩
  self := fun A i s Q E st h => let ⟨⟨_, he⟩, _⟩ := st; wpAny_pyIter_enum he h
end
/-- enumerate of a tuple; of a text -/
def iEnT (K : PySem.W.Frag) (ta : TA) : TI := fun σ H R => ta σ H fun vs H1 => ∃ a xs, vs = [.ref a] ∧ SqT K H1 a xs ∧ R (ItE K a) H1
def iEnS (ta : TA) : TI := fun σ H R => ta σ H fun vs H1 => ∃ z, vs = [.str z] ∧ R (ItES z) H1
section
variable {X : Cx} {e : Expr} {ta : TA} {p pos tpos : Pos} {elts : List Expr} {kk : Nat}
theorem en_fp {pins : List (Addr × Obj)} {σ : St} {H : Hp} {s : Shared} (I : Inv X pins σ H s) : ∀ b ∈ [s.heap.objs.size + 1, s.heap.objs.size], FpOk X pins H b := fun b hb => by
  have e' : b = s.heap.objs.size + 1 ∨ b = s.heap.objs.size := by simpa using hb
  have hle : s.heap.objs.size ≤ b := by
    rcases e' with z | z
    · rw [z]; exact Nat.le_add_right _ _
    · rw [z]; exact Nat.le_refl _
  exact I.fpOk hle (I.hok.fresh hle)
theorem pi_enT (hg : Gl X "enumerate") (hm : X.mg "enumerate" = none) (ha : PA X [e] ta) (hs : starEach [e] X.env = [(false, eval e X.env)] := by rfl) : PI X (.Tuple elts kk tpos) (.Call (.Name "enumerate" p) [e] [] pos) (iEnT X.K ta) := by
  refine ⟨fun pins s σ H R I h => ?_⟩
  refine PyProof.Rows.Call_ (ld_blt I hg hm PyProof.Rows.boot_enumerate (PyProof.Rows.callWith_type1 (thn (ha.run pos pins s σ H _ I h) fun us s1 ⟨vs, H1, I1, r1, a, xs, ex, hq, q⟩ => ?_) hs rfl))
  subst ex
  obtain ⟨u, rfl, rx⟩ := vals1 r1
  cases rx
  obtain ⟨its, rv, p', hz⟩ := I1.tuple hq
  have hlt := p'.lt
  refine en_begins (begins_tuple a its.toArray) p' fun h' he hit hk => wpAny_pyIter_enum he ?_
  exact ⟨s1.heap.objs.size + 1, [s1.heap.objs.size + 1, s1.heap.objs.size], _, _, H1, rfl, I1.kept (t' := s1.toks) hk, turn_enT a (s1.heap.objs.size + 1) s1.heap.objs.size (Nat.ne_of_lt (Nat.lt_succ_of_lt hlt)) (Nat.ne_of_lt hlt), ⟨⟨.none, he⟩, ⟨_, hit, rfl, rfl⟩, Nat.succ_ne_self _⟩, en_fp I1, q⟩
theorem pi_enS (hg : Gl X "enumerate") (hm : X.mg "enumerate" = none) (ha : PA X [e] ta) (hs : starEach [e] X.env = [(false, eval e X.env)] := by rfl) : PI X (.Tuple elts kk tpos) (.Call (.Name "enumerate" p) [e] [] pos) (iEnS ta) := by
  refine ⟨fun pins s σ H R I h => ?_⟩
  refine PyProof.Rows.Call_ (ld_blt I hg hm PyProof.Rows.boot_enumerate (PyProof.Rows.callWith_type1 (thn (ha.run pos pins s σ H _ I h) fun us s1 ⟨vs, H1, I1, r1, z, ex, q⟩ => ?_) hs rfl))
  subst ex
  obtain ⟨u, rfl, rx⟩ := vals1 r1
  obtain ⟨t, rfl⟩ := rx
  refine en_begins (begins_text z t) trivial fun h' he hit hk => wpAny_pyIter_enum he ?_
  exact ⟨s1.heap.objs.size + 1, [s1.heap.objs.size + 1, s1.heap.objs.size], _, _, H1, rfl, I1.kept (t' := s1.toks) hk, turn_enS z t (s1.heap.objs.size + 1) s1.heap.objs.size, ⟨⟨.none, he⟩, ⟨_, hit, rfl, rfl⟩, Nat.succ_ne_self _⟩, en_fp I1, q⟩
end
/-! ### dicts as cells -/
def dCell (W : World) (a : Addr) (t : List KA) : Cell := .X a (DictO W a t) (t.map fun x => (kD x.1, x.2.1))
theorem dictO_nc {W : World} {a : Addr} {t : List KA} (q : Str) : DictO W a t ≠ LamX.CodeO a q := fun e => by
  unfold DictO LamX.CodeO at e
  have e2 := HO.ext.inj e
  let o1 : Obj := { cls := .none, data := .fields #[.none, .str q default] }
  let h0 : Heap := { objs := Array.replicate (a + 1) o1 }
  have g : h0.get? a = some o1 := by
    have : h0.objs[a]? = some o1 := by simp [h0, Array.getElem?_replicate]
    unfold Heap.get?; rw [this]
  have e3 := congrFun e2 h0
  have h2 : ∃ (oc : Obj) (vs : Array Value) (t : Tok), h0.get? a = some oc ∧ oc.data = .fields vs ∧ vs[1]? = some (.str q t) := ⟨o1, _, _, g, rfl, rfl⟩
  rw [← e3] at h2
  obtain ⟨_, _, xs, _, ob, es, ep, hg, _, hd, _⟩ := h2
  rw [g] at hg; cases hg
  cases hd
theorem dictO_nt {W : World} {a : Addr} {t : List KA} : (∀ xs, DictO W a t ≠ .tup xs) ∧ plain (DictO W a t) = true ∧ ∀ q, DictO W a t ≠ LamX.CodeO a q := ⟨fun xs e => (nomatch e), rfl, dictO_nc⟩
section
variable {W : World} {H0 H : Hp} {cs : List Cell} {ims : List (PyData × V)} {a : Addr} {t : List KA}
theorem Wd.dAt (w : Wd H0 H cs ims) (i : Nat) (hk : ∀ x ∈ t, KOk x.1) (e : cs[i]? = some (dCell W a t) := by rfl) : DAt W H (fps cs) a t := by
  obtain ⟨h1, _, h3⟩ := (show (Cell.X a (DictO W a t) (t.map fun x => (kD x.1, x.2.1))).ok H (fps cs) from w.cell i e)
  exact ⟨h1, fun x hx => ⟨h3 (kD x.1, x.2.1) (List.mem_map.mpr ⟨x, hx, rfl⟩), hk x hx⟩⟩
theorem Wd.keep1 (w : Wd H0 H cs ims) {l : Addr} {o : HO} (hl : l ∈ fps cs) {d : PyData} {x : V} (h : Im H (fps cs) d x) : Im (upd H l o) (fps cs) d x :=
  h.keep (fun a u h e _ => by rw [upd_ne (fun q => by subst q; exact h hl)]; exact e) fun a o h _ => h
theorem Wd.dPut (w : Wd H0 H cs ims) (i : Nat) {k : NestedKey} {y v : V} (h : Im H (fps cs) (kD k) y) (e : cs[i]? = some (dCell W a t) := by rfl) :
    Wd H0 (upd H a (DictO W a (t ++ [(k, y, v)]))) (cs.set i (dCell W a (t ++ [(k, y, v)]))) ims := by
  have hl : a ∈ fps cs := List.mem_flatMap.mpr ⟨_, List.mem_of_getElem? e, by simp [dCell, Cell.fp]⟩
  obtain ⟨h1, _, h3⟩ := (show (Cell.X a (DictO W a t) (t.map fun x => (kD x.1, x.2.1))).ok H (fps cs) from w.cell i e)
  refine w.turn i e (by simp [dCell, Cell.fp]) rfl ⟨upd_same, dictO_nt, fun p hp => ?_⟩
  rw [List.map_append] at hp
  rcases List.mem_append.mp hp with q | q
  · exact w.keep1 hl (h3 p q)
  · have q : p = (kD k, y) := by simpa using q
    subst q
    exact w.keep1 hl h
theorem Wd.pushDict (w : Wd H0 H cs ims) {p : Addr} (hp : H p = none) : Wd H0 (upd H p (DictO W p [])) (dCell W p [] :: cs) ims := w.push hp rfl ⟨upd_same, dictO_nt, fun q hq => by simp at hq⟩
end
/-- a dict that gives each key its place -/
theorem valK_from {k : NestedKey} : ∀ {t : List KA} {c : Nat}, t.map (·.2.2) = (List.range' c t.length).map nV → valK t k = ((t.map (·.1)).findIdx? (fun x => decide (x = k))).map fun i => nV (c + i)
  | [], c, _ => rfl
  | x :: t, c, h => by
    rw [List.length_cons, List.range'_succ, List.map_cons, List.map_cons] at h
    injection h with h1 h2
    have ih := valK_from (k := k) h2
    unfold valK at ih ⊢
    rw [List.map_cons, List.findIdx?_cons, List.find?_cons]
    by_cases e : x.1 = k
    · simp [e, h1]
    · simp only [e, decide_false, Bool.false_eq_true, if_false]
      rw [ih]
      cases (t.map (·.1)).findIdx? (fun x => decide (x = k)) with
      | none => rfl
      | some i => show some (nV (c + 1 + i)) = some (nV (c + (i + 1))); rw [show c + 1 + i = c + (i + 1) from by omega]
theorem valK_idx {k : NestedKey} {t : List KA} {ks : List NestedKey} (h1 : t.map (·.1) = ks) (h2 : t.map (·.2.2) = (List.range ks.length).map nV) : valK t k = (ks.findIdx? (fun x => decide (x = k))).map nV := by
  have hl : ks.length = t.length := by rw [← h1, List.length_map]
  rw [List.range_eq_range', hl] at h2
  rw [valK_from h2, h1]
  cases ks.findIdx? (fun x => decide (x = k)) with
  | none => rfl
  | some i => show some (nV (0 + i)) = some (nV i); rw [Nat.zero_add]
/-- for i, x in enumerate(a tuple) -/
theorem for_enT {K : PySem.W.Frag} {a : Addr} {xs : List V} {j k : Nat} {tb : TS} {D : Ends} {σ : St} {H : Hp} (Pv : Nat → St → Hp → Prop) (h0 : Pv 0 σ H) (hl : ∀ i σ H, i ≤ xs.length → Pv i σ H → SqT K H a xs)
    (hs : ∀ i x σ H T, xs[i]? = some x → Pv i σ H → H T = none → tb { D with nx := Pv (i + 1), ct := Pv (i + 1), bk := D.nx } ((σ.set j (some (nV i))).set k (some x)) (upd H T (.tup [nV i, x]))) (hd : ∀ σ H, Pv xs.length σ H → D.nx σ H) :
    ∃ W : Nat → Nat → St → Hp → Prop, (∃ m, W 0 m σ H) ∧ ∀ i m σ H, W i m σ H →
      ((ItE K a).stop i H ∧ D.nx σ H) ∨ ((ItE K a).go i H ∧ ∃ N : St → Hp → Prop, (∀ σ' H', N σ' H' → ∃ m', m' < m ∧ W (i + 1) m' σ' H') ∧ ∀ x H', (ItE K a).yld i H x H' → gTup K 2 (gCons (gName j) (gCons (gName k) gNil)) x σ H' fun σ2 H2 => tb { D with nx := N, ct := N, bk := D.nx } σ2 H2) := by
  refine ⟨fun i m σ H => m = xs.length - i ∧ i ≤ xs.length ∧ Pv i σ H, ⟨xs.length, by simp, Nat.zero_le _, h0⟩, ?_⟩
  rintro i m σ H ⟨rfl, hi, p⟩
  have q := hl i σ H hi p
  by_cases hlt : i < xs.length
  · refine .inr ⟨⟨xs, xs[i], q, by simp [hlt]⟩, Pv (i + 1), fun σ' H' p' => ⟨xs.length - (i + 1), by omega, rfl, hlt, p'⟩, fun v H' y => ?_⟩
    obtain ⟨T, x, rfl, hT, rfl, hx⟩ := y
    exact ⟨T, [nV i, x], rfl, SqT.of upd_same, rfl, _, _, rfl, _, _, rfl, rfl, hs i x σ H T (hx xs q) p hT⟩
  · have e : i = xs.length := by omega
    subst e
    exact .inl ⟨⟨xs, q, rfl⟩, hd σ H p⟩
/-- for i, c in enumerate(a text) -/
theorem for_enS {K : PySem.W.Frag} {z : Str} {j k : Nat} {tb : TS} {D : Ends} {σ : St} {H : Hp} (Pv : Nat → St → Hp → Prop) (h0 : Pv 0 σ H)
    (hs : ∀ i c σ H T, z.cps[i]? = some c → Pv i σ H → H T = none → tb { D with nx := Pv (i + 1), ct := Pv (i + 1), bk := D.nx } ((σ.set j (some (nV i))).set k (some (.str ⟨#[c]⟩))) (upd H T (.tup [nV i, .str ⟨#[c]⟩]))) (hd : ∀ σ H, Pv z.cps.size σ H → D.nx σ H) :
    ∃ W : Nat → Nat → St → Hp → Prop, (∃ m, W 0 m σ H) ∧ ∀ i m σ H, W i m σ H →
      ((ItES z).stop i H ∧ D.nx σ H) ∨ ((ItES z).go i H ∧ ∃ N : St → Hp → Prop, (∀ σ' H', N σ' H' → ∃ m', m' < m ∧ W (i + 1) m' σ' H') ∧ ∀ x H', (ItES z).yld i H x H' → gTup K 2 (gCons (gName j) (gCons (gName k) gNil)) x σ H' fun σ2 H2 => tb { D with nx := N, ct := N, bk := D.nx } σ2 H2) := by
  refine ⟨fun i m σ H => m = z.cps.size - i ∧ i ≤ z.cps.size ∧ Pv i σ H, ⟨z.cps.size, by simp, Nat.zero_le _, h0⟩, ?_⟩
  rintro i m σ H ⟨rfl, hi, p⟩
  by_cases hlt : i < z.cps.size
  · refine .inr ⟨hlt, Pv (i + 1), fun σ' H' p' => ⟨z.cps.size - (i + 1), by omega, rfl, hlt, p'⟩, fun v H' y => ?_⟩
    obtain ⟨T, c, rfl, hT, hc, rfl⟩ := y
    exact ⟨T, [nV i, .str ⟨#[c]⟩], rfl, SqT.of upd_same, rfl, _, _, rfl, _, _, rfl, rfl, hs i c σ H T hc p hT⟩
  · have e : i = z.cps.size := by omega
    subst e
    exact .inl ⟨rfl, hd σ H p⟩
/-- the same, the items as data -/
theorem for_enD {K : PySem.W.Frag} {a : Addr} {n : Nat} {j k : Nat} {tb : TS} {D : Ends} {σ : St} {H : Hp} (Pv : Nat → St → Hp → Prop) (h0 : Pv 0 σ H) (hl : ∀ i σ H, i ≤ n → Pv i σ H → ∃ xs, H a = some (.tup xs) ∧ xs.length = n)
    (hs : ∀ i x xs σ H T, i < n → H a = some (.tup xs) → xs[i]? = some x → Pv i σ H → H T = none → tb { D with nx := Pv (i + 1), ct := Pv (i + 1), bk := D.nx } ((σ.set j (some (nV i))).set k (some x)) (upd H T (.tup [nV i, x]))) (hd : ∀ σ H, Pv n σ H → D.nx σ H) :
    ∃ W : Nat → Nat → St → Hp → Prop, (∃ m, W 0 m σ H) ∧ ∀ i m σ H, W i m σ H →
      ((ItE K a).stop i H ∧ D.nx σ H) ∨ ((ItE K a).go i H ∧ ∃ N : St → Hp → Prop, (∀ σ' H', N σ' H' → ∃ m', m' < m ∧ W (i + 1) m' σ' H') ∧ ∀ x H', (ItE K a).yld i H x H' → gTup K 2 (gCons (gName j) (gCons (gName k) gNil)) x σ H' fun σ2 H2 => tb { D with nx := N, ct := N, bk := D.nx } σ2 H2) := by
  refine ⟨fun i m σ H => m = n - i ∧ i ≤ n ∧ Pv i σ H, ⟨n, by simp, Nat.zero_le _, h0⟩, ?_⟩
  rintro i m σ H ⟨rfl, hi, p⟩
  obtain ⟨xs, q, hn⟩ := hl i σ H hi p
  by_cases hlt : i < n
  · refine .inr ⟨⟨xs, xs[i], SqT.of q, by simp⟩, Pv (i + 1), fun σ' H' p' => ⟨n - (i + 1), by omega, rfl, hlt, p'⟩, fun v H' y => ?_⟩
    obtain ⟨T, x, rfl, hT, rfl, hx⟩ := y
    exact ⟨T, [nV i, x], rfl, SqT.of upd_same, rfl, _, _, rfl, _, _, rfl, rfl, hs i x xs σ H T hlt q (hx xs (SqT.of q)) p hT⟩
  · have e : i = n := by omega
    subst e
    exact .inl ⟨⟨xs, SqT.of q, hn⟩, hd σ H p⟩
theorem for_tupD {K : PySem.W.Frag} {a : Addr} {n : Nat} {g : TG} {tb : TS} {D : Ends} {σ : St} {H : Hp} (Pv : Nat → St → Hp → Prop) (h0 : Pv 0 σ H) (hl : ∀ i σ H, i ≤ n → Pv i σ H → ∃ xs, H a = some (.tup xs) ∧ xs.length = n)
    (hs : ∀ i x xs σ H, i < n → H a = some (.tup xs) → xs[i]? = some x → Pv i σ H → g x σ H fun σ2 H2 => tb { D with nx := Pv (i + 1), ct := Pv (i + 1), bk := D.nx } σ2 H2) (hd : ∀ σ H, Pv n σ H → D.nx σ H) :
    ∃ W : Nat → Nat → St → Hp → Prop, (∃ m, W 0 m σ H) ∧ ∀ i m σ H, W i m σ H →
      ((Itt K a).stop i H ∧ D.nx σ H) ∨ ((Itt K a).go i H ∧ ∃ N : St → Hp → Prop, (∀ σ' H', N σ' H' → ∃ m', m' < m ∧ W (i + 1) m' σ' H') ∧ ∀ x H', (Itt K a).yld i H x H' → g x σ H' fun σ2 H2 => tb { D with nx := N, ct := N, bk := D.nx } σ2 H2) := by
  refine ⟨fun i m σ H => m = n - i ∧ i ≤ n ∧ Pv i σ H, ⟨n, by simp, Nat.zero_le _, h0⟩, ?_⟩
  rintro i m σ H ⟨rfl, hi, p⟩
  obtain ⟨xs, q, hn⟩ := hl i σ H hi p
  by_cases hlt : i < n
  · refine .inr ⟨⟨xs, xs[i], SqT.of q, by simp⟩, Pv (i + 1), fun σ' H' p' => ⟨n - (i + 1), by omega, rfl, hlt, p'⟩, fun x H' y => ?_⟩
    obtain ⟨e, y⟩ := y
    subst e
    exact hs i x xs σ _ hlt q (y xs (SqT.of q)) p
  · have e : i = n := by omega
    subst e
    exact .inl ⟨⟨xs, SqT.of q, by omega⟩, hd σ H p⟩
theorem Im.tupLen {H : Hp} {Z : List Addr} {ds : List PyData} {a : Addr} (h : Im H Z (.tuple ds) (.ref a)) : ∃ xs, H a = some (.tup xs) ∧ xs.length = ds.length := by
  obtain ⟨b, xs, e, h1, _, h3⟩ := h
  cases e
  exact ⟨xs, h1, h3.length⟩
theorem Im.item {H : Hp} {Z : List Addr} {ds : List PyData} {a : Addr} {xs : List V} {i : Nat} {d : PyData} {x : V} (h : Im H Z (.tuple ds) (.ref a)) (e : H a = some (.tup xs)) (ed : ds[i]? = some d) (ex : xs[i]? = some x) : Im H Z d x := by
  obtain ⟨b, ys, e1, h1, _, h3⟩ := h
  cases e1
  rw [e] at h1; cases h1
  obtain ⟨y, ey, iy⟩ := h3.get ed
  rw [ex] at ey; cases ey
  exact iy
/-- some cells are let go -/
theorem fps_sub {cs cs' : List Cell} (s : cs'.Sublist cs) : (fps cs').Sublist (fps cs) := by
  induction s with
  | slnil => exact .slnil
  | cons a s ih => exact ih.trans (List.sublist_append_right _ _)
  | cons_cons a s ih => exact (List.Sublist.refl _).append ih
theorem Wd.sub {H0 H : Hp} {cs cs' : List Cell} {ims : List (PyData × V)} (w : Wd H0 H cs ims) (s : cs'.Sublist cs) : Wd H0 H cs' ims := by
  have f := fps_sub s
  have k : Keep (fps cs) H H := fun _ _ _ e _ => e
  have z : ∀ a o, a ∉ fps cs → H a = some o → a ∉ fps cs' := fun a o h _ q => h (f.subset q)
  exact ⟨w.same, fun a h => w.new a (f.subset h), w.nd.sublist f, fun c hc => (w.ok c (s.subset hc)).keep k z fun a _ o e _ => e, fun p hp => (w.im p hp).keep k z⟩
section
variable {H0 H1 : Hp} {cs : List Cell} {ims : List (PyData × V)} {tt : TT} {te : TE} {j k : Nat} {σ : St} {D : Addr} {Qd : Hp → Prop}
/-- [.. for x in t], t a tuple of data -/
theorem lc_tupD {K : PySem.W.Frag} {a : Addr} {ds : List PyData} (g : Nat → List PyData) (i0 : Nat) (w : Wd H0 H1 cs ims) (hD : H1 D = none) (ha : ims[i0]? = some (.tuple ds, .ref a)) (h0 : g 0 = []) (hl : ∀ i, i < ds.length → (g i).length < sizeLine)
    (hs : ∀ i x d H, ds[i]? = some d → Im H (fps (.L D (g i) :: cs)) d x → Wd H0 H (.L D (g i) :: cs) ims → CompTurn H0 cs ims tt te D g i ((wipe σ [j]).set j (some x)) H) (hd : ∀ H, Wd H0 H (.L D (g ds.length) :: cs) ims → Qd H) :
    ∃ W : Nat → Nat → Hp → Prop, (∃ m, W 0 m (upd H1 D (.lst []))) ∧ ∀ i m H, W i m H →
      ((Itt K a).stop i H ∧ Qd H) ∨ ((Itt K a).go i H ∧ ∃ Nx : Hp → Prop, (∀ H', Nx H' → ∃ m', m' < m ∧ W (i + 1) m' H') ∧ ∀ x H', (Itt K a).yld i H x H' → gName j x (wipe σ [j]) H' fun σ2 H2 => wipe σ2 [j] = wipe σ [j] ∧ tt σ2 H2 fun b H3 =>
        if b = true then te σ2 H3 fun y H4 => ∃ acc, H4 D = some (.lst acc) ∧ acc.length < sizeLine ∧ Nx (upd H4 D (.lst (acc ++ [y]))) else Nx H3) := by
  refine ⟨fun i m H => m = ds.length - i ∧ i ≤ ds.length ∧ Wd H0 H (.L D (g i) :: cs) ims, ⟨_, rfl, Nat.zero_le _, by rw [h0]; exact w.pushL hD ImAll.nil⟩, ?_⟩
  rintro i m H ⟨rfl, hi, p⟩
  obtain ⟨xs, ex, el⟩ := (p.get i0 ha).tupLen
  by_cases hlt : i < ds.length
  · refine .inr ⟨⟨xs, xs[i], SqT.of ex, by simp⟩, fun H => Wd H0 H (.L D (g (i + 1)) :: cs) ims, fun H' p' => ⟨ds.length - (i + 1), by omega, rfl, hlt, p'⟩, fun x H' y => ?_⟩
    obtain ⟨e, y⟩ := y
    subst e
    have ed := List.getElem?_eq_getElem hlt
    exact ⟨wipe_set _ _ _, (hs i x _ H' ed ((p.get i0 ha).item ex ed (y xs (SqT.of ex))) p).use (hl i hlt)⟩
  · have e : i = ds.length := by omega
    subst e
    exact .inl ⟨⟨xs, SqT.of ex, by omega⟩, hd H p⟩
/-- [.. for i, x in enumerate(t)] -/
theorem lc_enD {K : PySem.W.Frag} {a : Addr} {ds : List PyData} (g : Nat → List PyData) (i0 : Nat) (w : Wd H0 H1 cs ims) (hD : H1 D = none) (ha : ims[i0]? = some (.tuple ds, .ref a)) (h0 : g 0 = []) (hl : ∀ i, i < ds.length → (g i).length < sizeLine)
    (hs : ∀ i x d H, ds[i]? = some d → Im H (fps (.L D (g i) :: cs)) d x → Wd H0 H (.L D (g i) :: cs) ims → CompTurn H0 cs ims tt te D g i (((wipe σ [j, k]).set j (some (nV i))).set k (some x)) H) (hd : ∀ H, Wd H0 H (.L D (g ds.length) :: cs) ims → Qd H) :
    ∃ W : Nat → Nat → Hp → Prop, (∃ m, W 0 m (upd H1 D (.lst []))) ∧ ∀ i m H, W i m H →
      ((ItE K a).stop i H ∧ Qd H) ∨ ((ItE K a).go i H ∧ ∃ Nx : Hp → Prop, (∀ H', Nx H' → ∃ m', m' < m ∧ W (i + 1) m' H') ∧ ∀ x H', (ItE K a).yld i H x H' → gTup K 2 (gCons (gName j) (gCons (gName k) gNil)) x (wipe σ [j, k]) H' fun σ2 H2 => wipe σ2 [j, k] = wipe σ [j, k] ∧ tt σ2 H2 fun b H3 =>
        if b = true then te σ2 H3 fun y H4 => ∃ acc, H4 D = some (.lst acc) ∧ acc.length < sizeLine ∧ Nx (upd H4 D (.lst (acc ++ [y]))) else Nx H3) := by
  refine ⟨fun i m H => m = ds.length - i ∧ i ≤ ds.length ∧ Wd H0 H (.L D (g i) :: cs) ims, ⟨_, rfl, Nat.zero_le _, by rw [h0]; exact w.pushL hD ImAll.nil⟩, ?_⟩
  rintro i m H ⟨rfl, hi, p⟩
  obtain ⟨xs, ex, el⟩ := (p.get i0 ha).tupLen
  by_cases hlt : i < ds.length
  · refine .inr ⟨⟨xs, xs[i], SqT.of ex, by simp⟩, fun H => Wd H0 H (.L D (g (i + 1)) :: cs) ims, fun H' p' => ⟨ds.length - (i + 1), by omega, rfl, hlt, p'⟩, fun v H' y => ?_⟩
    obtain ⟨T, x, rfl, hT, rfl, hx⟩ := y
    have ed := List.getElem?_eq_getElem hlt
    have p' := p.call (same_new (o := .tup [nV i, x]) hT)
    have ex' := new_at (o := .tup [nV i, x]) hT a _ ex
    refine ⟨T, [nV i, x], rfl, SqT.of upd_same, rfl, _, _, rfl, _, _, rfl, rfl, wipe2_set _ _ _, ?_⟩
    exact (hs i x _ _ ed ((p'.get i0 ha).item ex' ed (hx xs (SqT.of ex))) p').use (hl i hlt)
  · have e : i = ds.length := by omega
    subst e
    exact .inl ⟨⟨xs, SqT.of ex, el⟩, hd H p⟩
end
theorem sq_to {t u : TS} {D : Ends} {σ : St} {H : Hp} (h : t { D with nx := u D } σ H) : tSeq t u D σ H := h
/-! ### x in l, by data -/
section
variable {X : Cx} {K : PySem.W.Frag}
theorem slL (h : X.K = K) : SlR X (rSlL K) := by subst h; exact sl_list
theorem slT (h : X.K = K) : SlR X (rSlA K) := by subst h; exact sl_tupA
theorem catT (h : X.K = K) : OpR X (binaryOp .Add) (rCatA K) := by subst h; exact op_catA
theorem repT (h : X.K = K) : OpR X (binaryOp .Mult) (rRepT K) := by subst h; exact op_repT
theorem inDK (h : X.K = K) {k : Nat} (r : Room k X.A) : OpR X (compareOp .In) (rInD K) := by subst h; exact op_inD (by have := r.un; omega)
theorem notInDK (h : X.K = K) {k : Nat} (r : Room k X.A) : OpR X (compareOp .NotIn) (rNotInD K) := by subst h; exact op_notInD (by have := r.un; omega)
end
/-! ### data out of data: nothing turns -/
section
variable {H0 H : Hp} {ims : List (PyData × V)} {K : PySem.W.Frag} {Q : VK} {ds es : List PyData} {x y : V}
def cutD (ds : List PyData) (lo hi : Option Int) : List PyData := (ds.drop (HT.sIx ds.length 0 lo)).take (HT.sIx ds.length ds.length hi - HT.sIx ds.length 0 lo)
theorem d_tup (w : Wd H0 H [] ims) {xs : List V} (i : ImAll H [] ds xs) (hz : ds.length ≤ 1000000) (q : ∀ v H', Wd H0 H' [] ((.tuple ds, v) :: ims) → Q v H') : xs.length ≤ sizeLine ∧ ∀ p, H p = none → Q (.ref p) (upd H p (.tup xs)) :=
  ⟨by rw [i.length]; exact Nat.le_of_lt (sl_small hz), fun p hp => q _ _ (w.tup hp i)⟩
theorem d_lst (w : Wd H0 H [] ims) {xs : List V} (i : ImAll H [] ds xs) (hz : ds.length ≤ 1000000) (q : ∀ v H', Wd H0 H' [] ((.list ds, v) :: ims) → Q v H') : xs.length ≤ sizeLine ∧ ∀ p, H p = none → Q (.ref p) (upd H p (.lst xs)) :=
  ⟨by rw [i.length]; exact Nat.le_of_lt (sl_small hz), fun p hp => q _ _ (w.frz hp i)⟩
theorem d_cat (w : Wd H0 H [] ims) (ia : Im H [] (.tuple ds) x) (ib : Im H [] (.tuple es) y) (hz : ds.length + es.length ≤ 1000000) (q : ∀ v H', Wd H0 H' [] ((.tuple (ds ++ es), v) :: ims) → Q v H') : rCatA K x y H Q := by
  obtain ⟨a, xs, rfl, ea, _, ja⟩ := id ia
  obtain ⟨b, ys, rfl, eb, _, jb⟩ := id ib
  refine ⟨a, b, xs, ys, rfl, rfl, SqT.of ea, SqT.of eb, by rw [ja.length, jb.length]; exact Nat.le_of_lt (sl_small hz), fun e => ?_, fun _ e => ?_, fun _ _ p hp => q _ _ (w.tup hp (ja.app jb))⟩
  · have : ds = [] := List.length_eq_zero_iff.mp (by rw [← ja.length, e]; rfl)
    subst this
    exact q _ _ (w.add ib)
  · have : es = [] := List.length_eq_zero_iff.mp (by rw [← jb.length, e]; rfl)
    subst this
    refine q _ _ (w.add ?_)
    rw [List.append_nil]; exact ia
theorem d_cut (w : Wd H0 H [] ims) {lo hi : Option Int} (ia : Im H [] (.tuple ds) x) (q : ∀ v H', Wd H0 H' [] ((.tuple (cutD ds lo hi), v) :: ims) → Q v H') : rSlA K x lo hi H Q := by
  obtain ⟨a, xs, rfl, ea, _, ja⟩ := id ia
  have hl := ja.length
  refine ⟨a, xs, rfl, SqT.of ea, fun e => ?_, fun _ p hp => ?_⟩
  · rw [hl] at e
    refine q _ _ (w.add ?_)
    have : cutD ds lo hi = ds := by
      unfold cutD
      rw [e.1, e.2, List.drop_zero, Nat.sub_zero, List.take_length]
    rw [this]; exact ia
  · refine q _ _ (w.tup hp ?_)
    unfold cutV cutD
    rw [hl]
    exact (ja.drop _).take _
theorem d_lcat (w : Wd H0 H [] ims) (ia : Im H [] (.list ds) x) (ib : Im H [] (.list es) y) (hz : ds.length + es.length ≤ 1000000) (q : ∀ v H', Wd H0 H' [] ((.list (ds ++ es), v) :: ims) → Q v H') : rCat x y H Q := by
  obtain ⟨a, xs, rfl, ea, _, ja⟩ := id ia
  obtain ⟨b, ys, rfl, eb, _, jb⟩ := id ib
  exact ⟨a, b, xs, ys, rfl, rfl, ea, eb, by rw [ja.length, jb.length]; exact Nat.le_of_lt (sl_small hz), fun p hp => q _ _ (w.frz hp (ja.app jb))⟩
theorem d_ix (w : Wd H0 H [] ims) {i : Int} {d : PyData} (ia : Im H [] (.list ds) x) (e : atI ds i = some d) (q : ∀ v, Wd H0 H [] ((d, v) :: ims) → Q v H) : rIxL K x (.int i) H Q := by
  obtain ⟨a, xs, rfl, ea, _, ja⟩ := id ia
  obtain ⟨v, e1, iv⟩ := atI_map ja e
  exact ⟨a, xs, i, v, rfl, rfl, SqL.of ea, e1, q v (w.add iv)⟩
/-- list(t) -/
theorem d_list (w : Wd H0 H [] ims) (ia : Im H [] (.tuple ds) x) (q : ∀ v H', Wd H0 H' [] ((.list ds, v) :: ims) → Q v H') : ∃ p ys, [x] = [.ref p] ∧ (SqL K H p ys ∨ SqT K H p ys) ∧ ∀ l, H l = none → Q (.ref l) (upd H l (.lst ys)) := by
  obtain ⟨a, xs, rfl, ea, _, ja⟩ := id ia
  exact ⟨a, xs, rfl, .inr (SqT.of ea), fun l hl => q _ _ (w.frz hl ja)⟩
theorem d_rep (w : Wd H0 H [] ims) {k : Nat} (ia : Im H [] (.tuple ds) x) (hne : ds ≠ []) (hk : 2 ≤ k) (hk2 : k ≤ 1000) (hz : ds.length ≤ 1000) (q : ∀ v H', Wd H0 H' [] ((.tuple (List.replicate k ds).flatten, v) :: ims) → Q v H') : rRepT K x (.int (k : Int)) H Q := by
  obtain ⟨a, xs, rfl, ea, _, ja⟩ := id ia
  refine ⟨a, k, xs, rfl, rfl, SqT.of ea, fun e => hne (List.length_eq_zero_iff.mp (by rw [← ja.length, e]; rfl)), by omega, by omega, by rw [ja.length]; exact hz, fun p hp => ?_⟩
  refine q _ _ (w.tup hp ?_)
  show ImAll H [] _ (List.replicate k xs).flatten
  clear hk hk2 q
  induction k with
  | zero => exact ImAll.nil
  | succ k ih => rw [List.replicate_succ, List.replicate_succ, List.flatten_cons, List.flatten_cons]; exact ja.app ih
end
/-! ### number keys, and marks -/
theorem kok_num (i : Int) : KOk (.num i) := ⟨by simp [NestedKey.depth], fun x e => nomatch e⟩
/-! ### objects that stand still for a while -/
def frzO (o : Obj) : HO := .frz o (.ext fun _ => True)
abbrev Fz := List (Addr × Obj)
def icy (F : Fz) (H : Hp) : Hp := fun b => match F.lookup b with
  | some o => some (frzO o)
  | none => H b
def thaw (F : Fz) (H : Hp) : Hp := fun b => match F.lookup b with
  | some _ => none
  | none => H b
def Held (F : Fz) (H : Hp) : Prop := ∀ b o, F.lookup b = some o → H b = some (frzO o)
def Free (F : Fz) (H : Hp) : Prop := ∀ b o, F.lookup b = some o → H b = none
section
variable {F : Fz} {H H' : Hp} {b : Addr} {o : Obj} {u : HO}
theorem icy_in (e : F.lookup b = some o) : icy F H b = some (frzO o) := by unfold icy; rw [e]
theorem icy_out (e : F.lookup b = none) : icy F H b = H b := by unfold icy; rw [e]
theorem thaw_in (e : F.lookup b = some o) : thaw F H b = none := by unfold thaw; rw [e]
theorem thaw_out (e : F.lookup b = none) : thaw F H b = H b := by unfold thaw; rw [e]
theorem held_icy : Held F (icy F H) := fun _ _ e => icy_in e
theorem free_thaw : Free F (thaw F H) := fun _ _ e => thaw_in e
theorem Free.out (f : Free F H) (e : H b = some u) : F.lookup b = none := by
  cases q : F.lookup b with
  | none => rfl
  | some o => rw [f b o q] at e; cases e
theorem Held.out (h : Held F H) (e : H b = some u) (n : plain u = true) : F.lookup b = none := by
  cases q : F.lookup b with
  | none => rfl
  | some o => rw [h b o q] at e; cases e; cases n
theorem Held.outN (h : Held F H) (e : H b = none) : F.lookup b = none := by
  cases q : F.lookup b with
  | none => rfl
  | some o => rw [h b o q] at e; cases e
theorem icy_keep (f : Free F H) (e : H b = some u) : icy F H b = some u := by rw [icy_out (f.out e)]; exact e
theorem thaw_keep (h : Held F H) (e : H b = some u) (n : plain u = true) : thaw F H b = some u := by rw [thaw_out (h.out e n)]; exact e
theorem codeO_plain {c : Addr} {q : Str} : plain (LamX.CodeO c q) = true := rfl
theorem tabs_plain {T : List (Addr × Str)} (t : LamX.Tabs T H) (k : ∀ b u, H b = some u → (plain u = true ∨ ∃ ps, u = .tbl ps) → H' b = some u) : LamX.Tabs T H' := fun p hp => by
  obtain ⟨ps, h1, h2, h3⟩ := t p hp
  refine ⟨ps, k _ _ h1 (.inr ⟨_, rfl⟩), h2, fun pos cv hcv => ?_⟩
  obtain ⟨c, e1, e2⟩ := h3 pos cv hcv
  exact ⟨c, e1, k _ _ e2 (.inl codeO_plain)⟩
theorem Held.outT (h : Held F H) (e : H b = some u) (n : plain u = true ∨ ∃ ps, u = .tbl ps) : F.lookup b = none := by
  rcases n with n | ⟨ps, rfl⟩
  · exact h.out e n
  · cases q : F.lookup b with
    | none => rfl
    | some o => rw [h b o q] at e; cases e
theorem Sm.warm (f : Free F H) (s : Sm (icy F H) H') : Sm H (thaw F H') := by
  have hd : Held F H' := fun b o e => s.keep b _ (icy_in e) rfl
  refine ⟨fun b u e n => ?_, fun b ps e => ?_, fun t => ?_⟩
  · rw [thaw_out (f.out e)]
    exact s.keep b u (icy_keep f e) n
  · rw [thaw_out (f.out e)]
    exact s.tab b ps (icy_keep f e)
  · exact tabs_plain (s.tabs (t.ext fun b u e => icy_keep f e)) fun b u e n => by rw [thaw_out (hd.outT e n)]; exact e
theorem Sm.cold (h : Held F H) (f : Free F H') (s : Sm (thaw F H) H') : Sm H (icy F H') := by
  refine ⟨fun b u e n => ?_, fun b ps e => ?_, fun t => ?_⟩
  · cases q : F.lookup b with
    | none => rw [icy_out q]; exact s.keep b u (by rw [thaw_out q]; exact e) n
    | some o => rw [icy_in q, ← h b o q]; exact e
  · have q := h.outT e (.inr ⟨_, rfl⟩)
    rw [icy_out q]
    exact s.tab b ps (by rw [thaw_out q]; exact e)
  · exact (s.tabs (tabs_plain t fun b u e n => by rw [thaw_out (h.outT e n)]; exact e)).ext fun b u e => icy_keep f e
theorem Im.warm {Z : List Addr} {d : PyData} {v : V} (h : Held F H) (i : Im H Z d v) : Im (thaw F H) Z d v := i.keep (fun a o _ e n => thaw_keep h e n) fun _ _ h _ => h
theorem Im.cold {Z : List Addr} {d : PyData} {v : V} (f : Free F H) (i : Im H Z d v) : Im (icy F H) Z d v := i.keep (fun a o _ e _ => icy_keep f e) fun _ _ h _ => h
theorem Im.sm {d : PyData} {v : V} (s : Sm H H') (i : Im H [] d v) : Im H' [] d v := i.keep (fun a o _ e n => s.keep a o e (plain_nt n)) fun _ _ h _ => h
/-! ### the abstract heap is held -/
theorem hok_icy {P : Program} {w : World} {h : Heap} (x : HOk P w H h) (f : Free F H) (g : ∀ b o, F.lookup b = some o → h.get? b = some o) : HOk P w (icy F H) h := fun a u e => by
  cases q : F.lookup a with
  | some o =>
    rw [icy_in q] at e; cases e
    exact ⟨g a o q, True.intro, ⟨o, g a o q⟩, fun _ _ _ _ => True.intro⟩
  | none =>
    rw [icy_out q] at e
    exact (x a u e).stay (fun _ _ _ z => z) (fun b z => icy_keep f z) fun b xs z => icy_keep f z
theorem hok_thaw {P : Program} {w : World} {h : Heap} (x : HOk P w H h) (hd : Held F H) : HOk P w (thaw F H) h := fun a u e => by
  cases q : F.lookup a with
  | some o => rw [thaw_in q] at e; cases e
  | none =>
    rw [thaw_out q] at e
    exact (x a u e).stay (fun _ _ _ z => z) (fun b z => thaw_keep hd z rfl) fun b xs z => thaw_keep hd z rfl
theorem held_get {P : Program} {w : World} {h : Heap} (x : HOk P w H h) (hd : Held F H) (e : F.lookup b = some o) : h.get? b = some o := (x b _ (hd b o e)).1
section
variable {P : Program} {w : World} {K : PySem.W.Frag} {mg : Str → Option Value} {base : Heap} {A : Around} {outer : List Env} {s : Shared}
theorem env0_icy (e : Env0 P w K mg base A outer s H) (f : Free F H) (g : ∀ b o, F.lookup b = some o → s.heap.get? b = some o ∧ base.get? b = none ∧ b ∉ frs outer) : Env0 P w K mg base A outer s (icy F H) := by
  refine ⟨e.frames, e.mod, fun b o q => ⟨(e.bs b o q).1, ?_⟩, e.bsz, e.funs, fun b q => ?_, hok_icy e.hok f fun b o z => (g b o z).1, e.bare⟩
  · cases z : F.lookup b with
    | none => rw [icy_out z]; exact (e.bs b o q).2
    | some u => rw [(g b u z).2.1] at q; cases q
  · cases z : F.lookup b with
    | none => rw [icy_out z]; exact e.frf b q
    | some u => exact absurd q (g b u z).2.2
theorem env0_thaw (e : Env0 P w K mg base A outer s H) (hd : Held F H) : Env0 P w K mg base A outer s (thaw F H) := by
  refine ⟨e.frames, e.mod, fun b o q => ⟨(e.bs b o q).1, ?_⟩, e.bsz, e.funs, fun b q => ?_, hok_thaw e.hok hd, e.bare⟩
  · have z := (e.bs b o q).2
    rw [thaw_out (hd.outN z)]; exact z
  · have z := e.frf b q
    rw [thaw_out (hd.outN z)]; exact z
/-- behind a call: what was frozen for it is let go -/
theorem ce_thaw {Q Q' : VK} {u : Value} {s' : Shared} (f : Free F H) (g : ∀ b o, F.lookup b = some o → s.heap.get? b = some o) (c : CE outer P w (icy F H) s Q u s') (q : ∀ v H', Held F H' → Q v H' → Q' v (thaw F H')) : CE outer P w H s Q' u s' := by
  obtain ⟨v, H', os, ba, un, hk, r, z⟩ := c
  have hd : Held F H' := fun b o e => un.frzs b _ _ (icy_in e)
  have look : ∀ {b o}, s.heap.get? b = some o → F.lookup b = some o ∨ F.lookup b = none := fun {b o} e => by
    cases z : F.lookup b with
    | none => exact .inr rfl
    | some o' => rw [g b o' z] at e; cases e; exact .inl rfl
  refine ⟨v, thaw F H', os, ba, ⟨fun b o e n h1 h2 => ?_, fun b o e n h1 h2 => ?_, fun b o e n h1 => ?_, fun b o e h1 => un.there b o e h1, fun b xs e => ?_, fun b ob t e => ?_, fun b ps e => ?_⟩, hok_thaw hk hd, r, q v H' hd z⟩
  · rcases look e with k | k
    · exact held_get hk hd k
    · exact un.keep b o e (by rw [icy_out k]; exact n) h1 h2
  · rcases look e with k | k
    · exact ⟨_, held_get hk hd k⟩
    · exact un.slot b o e (by rw [icy_out k]; exact n) h1 h2
  · rcases look e with k | k
    · exact thaw_in k
    · rw [thaw_out k]; exact un.free b o e (by rw [icy_out k]; exact n) h1
  · rw [thaw_out (f.out e)]; exact un.tups b xs (icy_keep f e)
  · rw [thaw_out (f.out e)]; exact un.frzs b ob t (icy_keep f e)
  · rw [thaw_out (f.out e)]; exact un.tbls b ps (icy_keep f e)
end
end
/-! ### closures -/
/-- a code object, or an instance that stands still -/
inductive CN where
  | code (q : Str)
  | obj (C dx : Addr) (fs : List (Str × V))
def CN.ho (c : Addr) : CN → HO
  | .code q => LamX.CodeO c q
  | .obj C dx fs => .ins C dx fs
instance : Coe String CN := ⟨fun s => .code s⟩
theorem CN.flat (c : Addr) (n : CN) : plain (n.ho c) = true := by cases n <;> rfl
/-- the objects G stand still, the code objects cs stand, and the data D -/
structure Stand (G : Fz) (cs : List (Addr × CN)) (D : List (PyData × V)) (H : Hp) : Prop where
  held : Held G H
  code : ∀ p ∈ cs, H p.1 = some (p.2.ho p.1)
  im : ∀ p ∈ D, Im H [] p.1 p.2
section
variable {F G G' : Fz} {cs cs' : List (Addr × CN)} {D D' : List (PyData × V)} {H H' : Hp}
theorem Stand.sm (t : Stand G cs D H) (s : Sm H H') : Stand G cs D H' := ⟨fun b o e => s.keep b _ (t.held b o e) rfl, fun p hp => s.keep _ _ (t.code p hp) (plain_nt (CN.flat _ _)), fun p hp => (t.im p hp).sm s⟩
theorem Stand.warm (t : Stand G cs D H) (h : Held F H) (d : ∀ b o, G.lookup b = some o → F.lookup b = none) : Stand G cs D (thaw F H) :=
  ⟨fun b o e => by rw [thaw_out (d b o e)]; exact t.held b o e, fun p hp => thaw_keep h (t.code p hp) (CN.flat _ _), fun p hp => (t.im p hp).warm h⟩
theorem Stand.cold (t : Stand G cs D H) (f : Free F H) : Stand G cs D (icy F H) := ⟨fun b o e => icy_keep f (t.held b o e), fun p hp => icy_keep f (t.code p hp), fun p hp => (t.im p hp).cold f⟩
/-- what stood ahead of a freezing is apart from it -/
theorem Stand.apart (t : Stand G cs D H) (f : Free F H) : ∀ b o, G.lookup b = some o → F.lookup b = none := fun b o e => f.out (t.held b o e)
theorem lookup_app {b : Addr} {o : Obj} (e : (G ++ G').lookup b = some o) : G.lookup b = some o ∨ G'.lookup b = some o := by
  rw [List.lookup_append] at e
  cases q : G.lookup b with
  | none => rw [q] at e; exact .inr e
  | some u => rw [q] at e; exact .inl e
theorem Stand.add (t : Stand G cs D H) (t' : Stand G' cs' D' H) : Stand (G ++ G') (cs ++ cs') (D ++ D') H :=
  ⟨fun b o e => (lookup_app e).elim (t.held b o) (t'.held b o), fun p hp => (List.mem_append.mp hp).elim (t.code p) (t'.code p), fun p hp => (List.mem_append.mp hp).elim (t.im p) (t'.im p)⟩
theorem Stand.right (t : Stand (G ++ G') (cs ++ cs') (D ++ D') H) (d : ∀ b o, G'.lookup b = some o → G.lookup b = none) : Stand G' cs' D' H :=
  ⟨fun b o e => t.held b o (by rw [List.lookup_append, d b o e]; exact e), fun p hp => t.code p (List.mem_append_right _ hp), fun p hp => t.im p (List.mem_append_right _ hp)⟩
end
/-- the function object at f, one of G, keeps its promise wherever G and cs stand -/
structure CloOk (P : Program) (w : World) (K : PySem.W.Frag) (mg : Str → Option Value) (base : Heap) (k : Nat) (f : Addr) (G : Fz) (cs : List (Addr × CN)) (D : List (PyData × V)) (sp : Sp) : Prop where
  fn : ∃ oc od fd sl, G.lookup f = some ⟨oc, od, .func fd, sl⟩
  run : ∀ (A : Around) (outer : List Env) (s : Shared) (H : Hp) (us : List Value) (vs : List V) (Q : VK), Room k A → Env0 P w K mg base A outer s H → Stand G cs D H → Vals vs us → sp vs H Q E0 →
    codeAny (model P w) A (.call (.ref f) ⟨us, []⟩) (CR CX0 outer P w H s Q E0) s
theorem CloOk.mono {P : Program} {w : World} {K : PySem.W.Frag} {mg : Str → Option Value} {base : Heap} {j k : Nat} {f : Addr} {G : Fz} {cs : List (Addr × CN)} {D : List (PyData × V)} {sp : Sp} (C : CloOk P w K mg base j f G cs D sp) (h : j ≤ k) : CloOk P w K mg base k f G cs D sp :=
  ⟨C.fn, fun A outer s H us vs Q hr => C.run A outer s H us vs Q (hr.mono h)⟩
/-- x(..), x a name that holds a closure -/
def tClo (P : Program) (w : World) (K : PySem.W.Frag) (mg : Str → Option Value) (base : Heap) (k i : Nat) (t : TA) : TE := fun σ H Q =>
  ∃ f G cs D sp, σ[i]? = some (some (.ref f)) ∧ CloOk P w K mg base k f G cs D sp ∧ Stand G cs D H ∧ t σ H fun vs H1 => Stand G cs D H1 ∧ sp vs H1 Q E0
section
variable {X : Cx}
theorem fnAt_held {P : Program} {w : World} {G : Fz} {cs : List (Addr × CN)} {D : List (PyData × V)} {H : Hp} {h : Heap} {f : Addr} (x : HOk P w H h) (t : Stand G cs D H) (fn : ∃ oc od fd sl, G.lookup f = some ⟨oc, od, .func fd, sl⟩) : PySem.W.FnAt f h := by
  obtain ⟨oc, od, fd, sl, e⟩ := fn
  exact ⟨oc, od, fd, sl, held_get x t.held e⟩
theorem pe_clo {P : Program} {w : World} {K : PySem.W.Frag} {mg : Str → Option Value} {base : Heap} {k k' i : Nat} {x : Str} {e : Expr} {es : List Expr} {t : TA} {p pos : Pos} (hX : X.prog = P ∧ X.w = w ∧ X.K = K ∧ X.mg = mg ∧ X.base = base) (hr : Room k' X.A) (hk : k ≤ k') (hN : X.N[i]? = some x) (hv : Vis X.env.scope x) (ha : PA X (e :: es) t)
    (hd : (x == ("__debug__" : Str)) = false := by decide) (hcd : (x == ("__classdict__" : Str)) = false := by decide)
    (he : starEach (e :: es) X.env = (false, eval e X.env) :: starEach es X.env := by rfl) (hpl : (backTo pos (starEach es X.env)).any (·.1) = false := by rfl) :
    PE X (.Call (.Name x p) (e :: es) [] pos) (tClo P w K mg base k i t) := by
  obtain ⟨rfl, rfl, rfl, rfl, rfl⟩ := hX
  refine ⟨fun pins s σ H Q I h => ?_⟩
  obtain ⟨f, G, cs, D, sp, h1, C, st, ht⟩ := h
  have pv := (pe_var (pos := p) hN hv hd hcd).run pins s σ H (fun v H1 => v = .ref f ∧ H1 = H) I ⟨_, h1, rfl, rfl⟩
  refine wpAny_Call_Name_kw (thn pv fun u s1 ⟨v, H1, I1, r1, ev, eH⟩ => ?_)
  subst ev
  subst eH
  obtain rfl : u = Value.ref f := r1
  refine PySem.W.callWith_F (first := []) (fnAt_held I1.hok st C.fn) (thn (ha.run pos pins s1 σ H1 _ I1 ht) fun us s2 ⟨vs, H2, I2, r, st2, q⟩ => ⟨fnAt_held I2.hok st2 C.fn, ?_⟩) he hpl
  have rc := C.run X.A X.stack s2 H2 us vs Q (hr.mono hk) I2.env0 st2 r q
  refine wpAny_call (codeAny_mono rc fun res s3 hq => ?_)
  match res, hq with
  | .ok (.ret _), hq => exact I2.after hq
end

/-! ### making a lambda -/
/-- the function object of a lambda -/
abbrev lamO (q : Str) (params : Arguments) (body : Expr) (scope : Scope) (cells : List (Str × Addr)) (pm : Value) (c : Addr) (ct : Value) : Obj := PySem.W.kla_obj "<lambda>" q params body scope (cloFrom cells scope.names []) pm c ct
/-- the lambda stands still from now on -/
def tLamM (q : Str) (params : Arguments) (body : Expr) (scope : Scope) (cells : List (Str × Addr)) : TE := fun σ H Q => LamX.Tabs Tb.T H ∧ ∀ (f c : Addr) (pm ct : Value) (H1 : Hp),
  Sm H H1 → H f = none → H1 f = some (frzO (lamO q params body scope cells pm c ct)) → H1 c = some (LamX.CodeO c q) → Q (.ref f) H1
section
variable {X : Cx} {pins : List (Addr × Obj)} {σ : St} {H : Hp} {s : Shared}
/-- a new object is tracked as one that stands still -/
theorem inv_frz {o : Obj} {t' : Nat} (I : Inv X pins σ H s) (nf : ∀ z, o.data = z → z ≠ .freed) : Inv X pins σ (upd H s.heap.objs.size (frzO o)) { s with heap := s.heap.push o, toks := t' } := by
  have g : (s.heap.push o).get? s.heap.objs.size = some o := by
    cases o with
    | mk cl di da sl =>
      cases da with
      | freed => exact absurd rfl (nf _ rfl)
      | _ => exact Heap.get?_push_size _ rfl
  exact I.laid (a := s.heap.objs.size) (fun b u e => Heap.get?_push_of_some _ e) (Nat.le_refl _) ⟨g, True.intro, ⟨o, g⟩, fun _ _ _ _ => True.intro⟩
theorem lam_mk {c P : Addr} {q : Str} {params : Arguments} {body : Expr} {scope : Scope} {pos : Pos} {E Q : Value → Shared → Prop} (I : Inv X pins σ H s) (TB : LamX.TabB X.base X.mg c P) (hcode : X.env.code = .ref c) (hq : X.env.qual ++ "<lambda>" = q)
    (hm : (P, q) ∈ Tb.T) (hu : ∀ p ∈ Tb.T, p.1 = P → p.2 = q) (hT : LamX.Tabs Tb.T H) (hdef : defaultsOf params X.env = ([], [])) (hfree : ∀ y ∈ scope.names, y.2 = .free → ∃ c, X.env.cells.lookup y.1 = some c)
    (h : ∀ (f c1 : Addr) (pm ct : Value) (H1 : Hp) (s1 : Shared), Inv X pins σ (upd H1 f (frzO (lamO q params body scope X.env.cells pm c1 ct))) s1 → Sm H H1 → H1 f = none → H1 c1 = some (LamX.CodeO c1 q) → Q (.ref f) s1) :
    wpAny (model X.prog X.w) X.A (eval (.Lambda params body scope pos) X.env) Q E s := by
  subst hq
  obtain ⟨ps, aP, tri, am⟩ := hT _ hm
  refine PySem.W.kla_eval hdef ?_
  have oP : s.heap.get? P = some { cls := .none, data := .fields ps } := I.hok P _ aP
  have bP : s.heap.BuiltinsAt X.mg P := TB.bm.keeps I.bk
  cases hit : codeAmong pos ps.toList with
  | some cv =>
    obtain ⟨c1, rfl, co⟩ := am pos cv hit
    refine PySem.W.kla_makeFunctionHit (c := c) (closure_ok hfree) I.ok.glob (I.mod.glob.keeps I.bk) hcode (TB.code.keeps I.bk) oP tri hit bP fun ct h1 tk kp sz => ?_
    have I1 : Inv X pins σ H { s with heap := h1, toks := tk } := I.kept kp
    exact h _ c1 _ ct H _ (inv_frz (t' := tk) I1 (fun z e => by rw [← e]; exact fun z => nomatch z)) (Sm.refl _) (I1.hok.fresh (Nat.le_refl _)) co
  | none =>
    refine PySem.W.kla_makeFunction (c := c) (closure_ok hfree) I.ok.glob (I.mod.glob.keeps I.bk) hcode (TB.code.keeps I.bk) oP tri hit TB.gP bP fun c1 ct h1 tk kp ge lt rec tb => ?_
    obtain ⟨c2, oc, vs, t, e2, g2, d2, v2⟩ := rec
    cases e2
    have nC : H c1 = none := I.hok.fresh ge
    have I1 := LamX.inv_table (t' := tk) (more := #[rawInt pos.line, rawInt pos.col, .ref c1]) (h' := h1) I aP kp tb ge ⟨oc, vs, t, g2, d2, v2⟩
    have eL : (ps ++ #[rawInt pos.line, rawInt pos.col, .ref c1]).toList = ps.toList ++ [rawInt pos.line, rawInt pos.col, .ref c1] := by simp
    generalize hps : ps ++ #[rawInt pos.line, rawInt pos.col, .ref c1] = ps1 at I1 eL
    have old : ∀ b u, b ≠ P → H b = some u → upd (upd H P (.tbl ps1)) c1 (LamX.CodeO c1 (X.env.qual ++ "<lambda>")) b = some u := fun b u nb e => by
      rw [upd_ne (ne_of_none e nC), upd_ne nb]; exact e
    have atP : upd (upd H P (.tbl ps1)) c1 (LamX.CodeO c1 (X.env.qual ++ "<lambda>")) P = some (.tbl ps1) := by
      rw [upd_ne (ne_of_none aP nC), upd_same]
    have codes : ∀ c0 q0, H c0 = some (LamX.CodeO c0 q0) → upd (upd H P (.tbl ps1)) c1 (LamX.CodeO c1 (X.env.qual ++ "<lambda>")) c0 = some (LamX.CodeO c0 q0) := fun c0 q0 e =>
      old c0 _ (fun z => by rw [z, aP] at e; exact LamX.codeO_ne ps (Option.some.inj e).symm) e
    have sm : Sm H (upd (upd H P (.tbl ps1)) c1 (LamX.CodeO c1 (X.env.qual ++ "<lambda>"))) := by
      refine ⟨fun b u e n => old b u (fun z => by rw [z, aP] at e; cases e; cases n) e, fun b ps2 e => ?_, fun t p hp => ?_⟩
      · by_cases z : b = P
        · exact ⟨ps1, by rw [z]; exact atP⟩
        · exact ⟨ps2, old b _ z e⟩
      · obtain ⟨ps3, a1, a2, a3⟩ := t p hp
        by_cases z : p.1 = P
        · have e3 : ps3 = ps := by rw [z, aP] at a1; cases a1; rfl
          subst e3
          refine ⟨ps1, by rw [z]; exact atP, by rw [eL]; exact PySem.TriplesOk_snoc _ _ _ _ a2, fun pos' cv hcv => ?_⟩
          rw [eL] at hcv
          rcases LamX.among_app _ a2 hcv with y | y
          · obtain ⟨c0, k1, k2⟩ := a3 pos' cv y
            exact ⟨c0, k1, codes c0 _ k2⟩
          · refine ⟨c1, y, ?_⟩
            rw [hu p hp z]; exact upd_same
        · refine ⟨ps3, old _ _ z a1, a2, fun pos' cv hcv => ?_⟩
          obtain ⟨c0, k1, k2⟩ := a3 pos' cv hcv
          exact ⟨c0, k1, codes c0 _ k2⟩
    exact h _ c1 _ ct _ _ (inv_frz (t' := tk) I1 (fun z e => by rw [← e]; exact fun z => nomatch z)) sm (I1.hok.fresh (Nat.le_refl _)) upd_same
theorem pe_lam {c P : Addr} {q : Str} {params : Arguments} {body : Expr} {scope : Scope} {pos : Pos} (TB : LamX.TabB X.base X.mg c P) (hcode : X.env.code = .ref c) (hq : X.env.qual ++ "<lambda>" = q) (hm : (P, q) ∈ Tb.T) (hu : ∀ p ∈ Tb.T, p.1 = P → p.2 = q)
    (hdef : defaultsOf params X.env = ([], [])) (hfree : ∀ y ∈ scope.names, y.2 = .free → X.env.scope.names.lookup y.1 = some .cell) : PE X (.Lambda params body scope pos) (tLamM q params body scope X.env.cells) := by
  refine ⟨fun pins s σ H Q I h => ?_⟩
  obtain ⟨hT, h⟩ := h
  exact lam_mk I TB hcode hq hm hu hT hdef (fun y hy e => I.ok.has _ (.inl (hfree y hy e))) fun f c1 pm ct H1 s1 I1 sm fn co => ⟨.ref f, _, I1, rfl, h f c1 pm ct _ (sm.trans (same_new fn)) (sm.free fn) upd_same ((same_new fn).keep _ _ co rfl)⟩
end
/-! ### a call while the caller's cells stand still -/
/-- F tells the cells of the names, with what they hold -/
structure CapsF (F : Fz) (cells : List (Str × Addr)) (caps : List (Str × V)) : Prop where
  inj : ∀ x y c, cells.lookup x = some c → cells.lookup y = some c → x = y
  has : ∀ p ∈ caps, ∃ c o u, cells.lookup p.1 = some c ∧ F.lookup c = some o ∧ o.data = .cell (some u) ∧ RelV p.2 u
theorem CapsF.sub {F : Fz} {cells : List (Str × Addr)} {caps caps' : List (Str × V)} (c : CapsF F cells caps) (h : ∀ p ∈ caps', p ∈ caps) : CapsF F cells caps' := ⟨c.inj, fun p hp => c.has p (h p hp)⟩
/-- what the named slots hold -/
def capsOf (σ : St) : List (Str × Nat) → List (Str × V)
  | [] => []
  | (x, i) :: r => match σ[i]? with
    | some (some v) => (x, v) :: capsOf σ r
    | _ => capsOf σ r
theorem capsOf_mem {σ : St} {p : Str × V} : ∀ {l : List (Str × Nat)}, p ∈ capsOf σ l → ∃ i, (p.1, i) ∈ l ∧ σ[i]? = some (some p.2)
  | [], h => by simp [capsOf] at h
  | (x, i) :: r, h => by
    unfold capsOf at h
    split at h
    · rename_i v e
      rcases List.mem_cons.mp h with rfl | h
      · exact ⟨i, List.mem_cons_self, e⟩
      · obtain ⟨j, a, b⟩ := capsOf_mem h
        exact ⟨j, List.mem_cons_of_mem _ a, b⟩
    · obtain ⟨j, a, b⟩ := capsOf_mem h
      exact ⟨j, List.mem_cons_of_mem _ a, b⟩
def tCallF (cells : List (Str × Addr)) (nsl : List (Str × Nat)) (sp : Sp) (t : TA) : TE := fun σ H Q => t σ H fun vs H1 => ∀ F, CapsF F cells (capsOf σ nsl) → Free F H1 → sp vs (icy F H1) (fun v H2 => Held F H2 → Q v (thaw F H2)) E0
section
variable {X : Cx} {pins : List (Addr × Obj)} {σ : St} {H : Hp} {s : Shared}
/-- the cells of some names, as they stand -/
def cellsNow (cells : List (Str × Addr)) (h : Heap) : List (Str × Nat) → Fz
  | [] => []
  | (x, _) :: r => match cells.lookup x with
    | none => cellsNow cells h r
    | some c => match h.get? c with
      | none => cellsNow cells h r
      | some o => (c, o) :: cellsNow cells h r
theorem cellsNow_look {cells : List (Str × Addr)} {h : Heap} {b : Addr} {o : Obj} : ∀ {l : List (Str × Nat)}, (cellsNow cells h l).lookup b = some o → h.get? b = some o ∧ ∃ x i, (x, i) ∈ l ∧ cells.lookup x = some b
  | [], e => by simp [cellsNow] at e
  | (x, i) :: r, e => by
    have ih := cellsNow_look (cells := cells) (h := h) (b := b) (o := o) (l := r)
    have go : (cellsNow cells h r).lookup b = some o → h.get? b = some o ∧ ∃ y j, (y, j) ∈ (x, i) :: r ∧ cells.lookup y = some b := fun e => by
      obtain ⟨a, y, j, m, k⟩ := ih e
      exact ⟨a, y, j, List.mem_cons_of_mem _ m, k⟩
    unfold cellsNow at e
    split at e
    · exact go e
    · rename_i c hc
      split at e
      · exact go e
      · rename_i ob ho
        rw [List.lookup_cons] at e
        by_cases z : b = c
        · subst z
          simp at e
          subst e
          exact ⟨ho, x, i, List.mem_cons_self, hc⟩
        · rw [beq_false_of_ne z] at e
          exact go e
theorem cellsNow_has {cells : List (Str × Addr)} {h : Heap} {x : Str} {i : Nat} {c : Addr} {o : Obj} (hc : cells.lookup x = some c) (ho : h.get? c = some o) : ∀ {l : List (Str × Nat)}, (x, i) ∈ l → (cellsNow cells h l).lookup c = some o
  | [], m => by simp at m
  | (y, j) :: r, m => by
    unfold cellsNow
    rcases List.mem_cons.mp m with e | m
    · cases e
      simp [hc, ho]
    · have ih := cellsNow_has hc ho m
      split
      · exact ih
      · rename_i c2 hc2
        split
        · exact ih
        · rename_i o2 ho2
          rw [List.lookup_cons]
          by_cases z : c = c2
          · subst z
            rw [ho] at ho2; cases ho2
            simp
          · rw [beq_false_of_ne z]
            exact ih
theorem Inv.caps (I : Inv X pins σ H s) (nsl : List (Str × Nat)) (hn : ∀ p ∈ nsl, X.N[p.2]? = some p.1 ∧ X.env.scope.names.lookup p.1 = some .cell) (hfn : ∀ p ∈ nsl, X.fn p.1 = true) :
    CapsF (cellsNow X.env.cells s.heap nsl) X.env.cells (capsOf σ nsl) ∧ Free (cellsNow X.env.cells s.heap nsl) H ∧
    ∀ b o, (cellsNow X.env.cells s.heap nsl).lookup b = some o → s.heap.get? b = some o ∧ X.base.get? b = none ∧ b ∉ frs X.stack ∧ X.s_0.heap.objs.size ≤ b := by
  refine ⟨⟨I.ok.inj, fun p hp => ?_⟩, fun b o e => ?_, fun b o e => ?_⟩
  · obtain ⟨i, m, e⟩ := capsOf_mem hp
    obtain ⟨h1, h2⟩ := hn _ m
    obtain ⟨ns, _, hl⟩ := I.loc
    obtain ⟨u, rv, k⟩ := hl i p.1 p.2 h1 e (.inr (.inl h2))
    have h2 : X.env.kindOf p.1 = some .cell := h2
    rcases k with ⟨k, _⟩ | ⟨_, c, hc, o, ho, hd⟩
    · rw [h2] at k; cases k
    · exact ⟨c, o, u, hc, cellsNow_has hc ho m, hd, rv⟩
  · obtain ⟨_, x, i, m, hc⟩ := cellsNow_look e
    exact I.freeC x b hc
  · obtain ⟨g, x, i, m, hc⟩ := cellsNow_look e
    have ab := I.ok.cab x b (hfn _ m) hc
    refine ⟨g, ?_, fun z => ?_, ab⟩
    · cases q : X.base.get? b with
      | none => rfl
      | some u => exact absurd (Nat.lt_of_lt_of_le (Heap.lt_size q) (Nat.le_trans I.ok.bsz ab)) (Nat.lt_irrefl _)
    · rcases List.mem_cons.mp (I.stkSub b z) with y | y
      · exact I.cne x b hc y
      · obtain ⟨_, o2, ho2, _⟩ := I.ok.funs.mem y
        exact absurd (Nat.lt_of_lt_of_le (Heap.lt_size ho2) ab) (Nat.lt_irrefl _)
def nslB (N : List Str) (sc : Scope) (nsl : List (Str × Nat)) : Bool := nsl.all fun p => decide (N[p.2]? = some p.1) && decide (sc.names.lookup p.1 = some .cell)
theorem nsl_by {N : List Str} {sc : Scope} {nsl : List (Str × Nat)} (h : nslB N sc nsl = true) : ∀ p ∈ nsl, N[p.2]? = some p.1 ∧ sc.names.lookup p.1 = some .cell := fun p hp => by
  have z := List.all_eq_true.mp h p hp
  simpa using z
theorem pe_fnF {k k' : Nat} {x : Str} {ps : List Str} {sp : Sp} {e : Expr} {es : List Expr} {t : TA} {p pos : Pos} (nsl : List (Str × Nat)) (C : Cal X.prog X.w X.K X.mg X.base CX0 k x ps sp) (hr : Room k' X.A) (hk : k ≤ k') (hg : Gl X x) (ha : PA X (e :: es) t)
    (hnB : nslB X.N X.env.scope nsl = true) (hfn : ∀ p ∈ nsl, X.fn p.1 = true)
    (hd : (x == ("__debug__" : Str)) = false := by decide) (he : starEach (e :: es) X.env = (false, eval e X.env) :: starEach es X.env := by rfl) (hpl : (backTo pos (starEach es X.env)).any (·.1) = false := by rfl) :
    PE X (.Call (.Name x p) (e :: es) [] pos) (tCallF X.env.cells nsl sp t) := by
  obtain ⟨f, fd, F, hm, hkp, hb⟩ := C.ex
  refine ⟨fun pins s σ H Q I h => ?_⟩
  refine wpAny_Call_Name_kw (ld_glob I hg hm ?_ hd)
  refine PySem.W.callWith_K (h₀ := X.base) I.ok.mod.kin hkp (thn (ha.run pos pins s σ H _ I h) fun us s1 ⟨vs, H1, I1, r, q⟩ => ⟨I1.kIn, ?_⟩) he hpl
  obtain ⟨cf, fr, at_⟩ := Inv.caps I1 nsl (nsl_by hnB) hfn
  have q1 := q _ cf fr
  have hl : us.length = ps.length := by rw [← r.length]; exact F.len _ _ _ _ q1
  have e0 := env0_icy I1.env0 fr fun b o z => ⟨(at_ b o z).1, (at_ b o z).2.1, (at_ b o z).2.2.1⟩
  have bt : BindsTo s1 fd ⟨us, []⟩ (ps.zip us) := by
    have z := hb s1 us I1.kIn (by rw [List.append_nil]; exact hl)
    rw [List.append_nil] at z
    exact z
  refine wpAny_call (codeAny_mono (F.run X.A X.stack s1 _ ⟨us, []⟩ us vs _ _ (hr.mono hk) e0 bt r q1) fun res s2 hq => ?_)
  match res, hq with
  | .ok (.ret _), hq => exact I1.after (ce_thaw fr (fun b o z => (at_ b o z).1) hq fun v H2 hd z => z hd)
end

/-- a lambda captures cells of its maker -/
def lamFreeB (sc scope : Scope) : Bool := scope.names.all fun y => !decide (y.2 = .free) || decide (sc.names.lookup y.1 = some .cell)
theorem lamFree_by {sc scope : Scope} (h : lamFreeB sc scope = true) : ∀ y ∈ scope.names, y.2 = .free → sc.names.lookup y.1 = some .cell := fun y hy e => by
  have z := List.all_eq_true.mp h y hy
  simp only [Bool.or_eq_true, Bool.not_eq_true', decide_eq_false_iff_not, decide_eq_true_eq] at z
  exact z.elim (fun q => absurd e q) id
/-! ### a lambda's promise, by its body -/
abbrev lamF (q : Str) (params : Arguments) (scope : Scope) (cells : List (Str × Addr)) (c : Addr) : NdefX.NF := ⟨"<lambda>", q, params, [], scope, cloFrom cells scope.names [], c⟩
/-- the context of a lambda's body -/
abbrev lamX (P : Program) (w : World) (K : PySem.W.Frag) (mg : Str → Option Value) (base : Heap) (N : List Str) (q : Str) (params : Arguments) (scope : Scope) (cells : List (Str × Addr)) (c f : Addr) (A : Around) (outer : List Env) (s : Shared) (H : Hp) : Cx :=
  NdefX.ncx CX0 P w K mg base N (lamF q params scope cells c) f A outer s H E0
theorem clo_lam {P : Program} {w : World} {K : PySem.W.Frag} {mg : Str → Option Value} {base : Heap} {k : Nat} {N ps : List Str} {q : Str} {params : Arguments} {body : Expr} {scope : Scope} {cells : List (Str × Addr)} {caps : List (Str × V)} {pm ct : Value} {c f : Addr} {F G : Fz} {cs : List (Addr × CN)} {D : List (PyData × V)} {sp : Sp}
    (S : NdefX.NScope N ps (caps.map (·.1)) scope) (cf : CapsF F cells caps) (lkf : G.lookup f = some (lamO q params body scope cells pm c ct)) (lkF : ∀ b o, F.lookup b = some o → G.lookup b = some o) (hc : (c, CN.code q) ∈ cs)
    (hb : ∀ us : List Value, us.length = ps.length → bindArgs (PySem.W.kla_fn "<lambda>" q params body scope (cloFrom cells scope.names []) pm (.ref c) ct) ⟨us, []⟩ = pure (ps.zip us))
    (len : ∀ vs H Q E, sp vs H Q E → vs.length = ps.length)
    (hbody : ∀ (A : Around) (outer : List Env) (s : Shared) (H : Hp) (vs : List V) (Q : VK), Room k (A.deeper (NdefX.envF (lamF q params scope cells c) f s.heap.objs.size)) → Stand G cs D H → Held F H → sp vs H Q E0 →
      ∃ t, PE (lamX P w K mg base N q params scope cells c f A outer s (thaw F H)) body t ∧ t (NdefX.startF N vs (caps.map fun p => some p.2)) (thaw F H) fun v H' => Free F H' → Q v (icy F H')) :
    CloOk P w K mg base (k + 1) f G cs D sp := by
  refine ⟨⟨_, _, _, _, lkf⟩, fun A outer s H us vs Q hr e0 st r hsp => ?_⟩
  have hl := len _ _ _ _ hsp
  have KX : K.In s.heap := e0.mod.kin.keeps fun b o e => (e0.bs b o e).1
  have hd : Held F H := fun b o e => st.held b o (lkF b o e)
  have gf := held_get e0.hok st.held lkf
  have nl : s.heap.NoLimit := e0.mod.nolimit.keeps fun b o e => (e0.bs b o e).1
  refine PySem.W.kla_callFunE hr.depth gf rfl S.co S.gen rfl (NdefX.codeO_at e0.hok (st.code _ hc)) ?_
  rw [hb us (by rw [← r.length]; exact hl)]
  refine wpAny_pure (wpAny_newFunctionEnv S.nocell (fun ⟨n, _⟩ hy => S.par n (List.of_mem_zip hy).1) (fun h1 ns sb => ⟨nl.fresh _ sb, ?_⟩) S.kind)
  have kp : ∀ b o, s.heap.get? b = some o → h1.get? b = some o := fun b o e => sb.extBut b o (Nat.ne_of_lt (Heap.lt_size e)) (Heap.get?_push_of_some _ e)
  obtain ⟨t, ht, hq⟩ := hbody A outer s H vs Q (hr.deeper _) st hd hsp
  have clo : ∀ y b, (cloFrom cells scope.names []).lookup y = some b → ∃ p ∈ caps, p.1 = y ∧ cells.lookup y = some b := fun y b e => by
    rcases cloFrom_mem (PySem.mem_of_lookup e) with z | ⟨z1, z2⟩
    · cases z
    · obtain ⟨p, hp, ey⟩ := List.mem_map.mp (S.free _ z1 rfl)
      obtain ⟨b1, o, u, e1, _⟩ := cf.has p hp
      have ey : p.1 = y := ey
      rw [ey] at e1
      refine ⟨p, hp, ey, ?_⟩
      rw [z2, e1]; rfl
  have CA : NdefX.CellsAt (cloFrom cells scope.names []) (caps.map (·.1)) (caps.map fun p => some p.2) s.heap (thaw F H) := by
    refine ⟨by simp, fun y b e => ?_, fun x y b e1 e2 => ?_, fun i y e => ?_⟩
    · obtain ⟨p, hp, ey, ec⟩ := clo y b e
      obtain ⟨b1, o, u, e1, e2, e3, _⟩ := cf.has p hp
      rw [ey, ec] at e1; cases e1
      exact ⟨thaw_in e2, _, o, held_get e0.hok hd e2, e3⟩
    · obtain ⟨_, _, _, c1⟩ := clo x b e1
      obtain ⟨_, _, _, c2⟩ := clo y b e2
      exact cf.inj x y b c1 c2
    · obtain ⟨p, hp, ey⟩ : ∃ p, caps[i]? = some p ∧ p.1 = y := by
        rw [List.getElem?_map] at e
        cases q : caps[i]? with
        | none => rw [q] at e; cases e
        | some p => rw [q] at e; exact ⟨p, rfl, by simpa using e⟩
      obtain ⟨b1, o, u, e1, e2, e3, e4⟩ := cf.has p (List.mem_of_getElem? hp)
      have hfr : (y, NameKind.free) ∈ scope.names := PySem.mem_of_lookup (S.frk y (List.mem_of_getElem? e))
      obtain ⟨b2, hb2⟩ := mem_lookup (cloFrom_has (cells := cells) (acc := []) hfr)
      obtain ⟨_, _, _, c2⟩ := clo y b2 hb2
      have eb : b1 = b2 := by rw [ey, c2] at e1; exact (Option.some.inj e1).symm
      refine ⟨b2, hb2, fun v ev => ?_⟩
      rw [eb] at e2
      rw [List.getElem?_map, hp] at ev
      cases ev
      exact ⟨u, e4, o, held_get e0.hok hd e2, e3⟩
  have J := NdefX.inv_startN (CX := CX0) (F := lamF q params scope cells c) (f := f) (E := E0) (tk := s.toks + (ps.zip us).length) S hr.hd (env0_thaw e0 hd) hl r CA ns kp
  refine PySem.W.kla_codeExpr (wpAny_mono (ht.run [] _ _ (thaw F H) _ J hq) (fun v s2 hs => ?_) fun e s2 hs => hs)
  obtain ⟨v2, H2, J2, rv, z⟩ := hs
  have un : Un (frs outer) [] (thaw F H) H2 s.heap s2.heap := J2.base
  have fr : Free F H2 := fun b o e => un.free b o (held_get e0.hok hd e) (thaw_in e) (by simp)
  have nofr : ∀ b o, F.lookup b = some o → b ∉ frs outer := fun b o e y => by
    have q := e0.frf b y
    rw [hd b o e] at q; cases q
  refine ⟨v2, icy F H2, J2.os, J2.bare, ⟨fun b o e n h1 h2 => ?_, fun b o e n h1 h2 => ?_, fun b o e n h1 => ?_, fun b o e h1 => un.there b o e h1, fun b xs e => ?_, fun b ob t e => ?_, fun b qs e => ?_⟩, hok_icy J2.hok fr (fun b o e => un.keep b o (held_get e0.hok hd e) (thaw_in e) (nofr b o e) (by simp)), rv, z fr⟩
  · exact un.keep b o e (by rw [thaw_out (hd.outN n)]; exact n) h1 h2
  · exact un.slot b o e (by rw [thaw_out (hd.outN n)]; exact n) h1 h2
  · rw [icy_out (hd.outN n)]
    exact un.free b o e (by rw [thaw_out (hd.outN n)]; exact n) h1
  · have q := hd.outT e (.inl rfl)
    rw [icy_out q]; exact un.tups b xs (by rw [thaw_out q]; exact e)
  · cases q : F.lookup b with
    | none => rw [icy_out q]; exact un.frzs b ob t (by rw [thaw_out q]; exact e)
    | some o => rw [icy_in q, ← hd b o q]; exact e
  · have q := hd.outT e (.inr ⟨_, rfl⟩)
    rw [icy_out q]; exact un.tbls b qs (by rw [thaw_out q]; exact e)
/-! ### defs that make lambdas -/
section
variable {P : Program} {w : World} {K : PySem.W.Frag} {mg : Str → Option Value} {base : Heap} {x qual : Str} {st : Stmt} {f : Addr} {fd : FuncData} {N ps : List Str} {k : Nat} {sp : Sp}
/-- the def's code object is told -/
theorem ok_c (F : Fun K x qual st f fd) (S : FnScope N ps (defScope st)) (len : ∀ vs H Q E, sp vs H Q E → vs.length = ps.length)
    (hbody : ∀ (A : Around) (outer : List Env) (s : Shared) (H : Hp) (vs : List V) (Q : VK) (E : XK), Room k (A.deeper (PyProof.Rows.envOfC qual (defScope st) s.heap.objs.size f fd.code)) → sp vs H Q E →
      ∃ t, PSs (cxOf CX0 P w K mg base N qual (defScope st) f fd.code A outer s H E).nox (defBody st) t ∧ t { nx := fun _ H' => Q .non H', rt := Q } (L2.start N vs) H) : FnOk P w K mg base CX0 (k + 1) f fd ps sp := by
  obtain ⟨oc, od, kV, doc, pm, an, cdv, ct, osl, rfl, lk, hcd⟩ := F.ex
  refine fn_of lk hcd S len fun A outer s H vs Q E hr z => ?_
  obtain ⟨t, ht, hq⟩ := hbody A outer s H vs Q E hr z
  exact ⟨t, ht.nox, hq⟩
theorem ok_cX (F : Fun K x qual st f fd) (S : FnScope N ps (defScope st)) (len : ∀ vs H Q E, sp vs H Q E → vs.length = ps.length)
    (hbody : ∀ (A : Around) (outer : List Env) (s : Shared) (H : Hp) (vs : List V) (Q : VK) (E : XK), Room k (A.deeper (PyProof.Rows.envOfC qual (defScope st) s.heap.objs.size f fd.code)) → sp vs H Q E →
      ∃ t, PSs (cxOf (L2.CX P w) P w K mg base N qual (defScope st) f fd.code A outer s H E) (defBody st) t ∧ t { nx := fun _ H' => Q .non H', rt := Q } (L2.start N vs) H) : FnOk P w K mg base (L2.CX P w) (k + 1) f fd ps sp := by
  obtain ⟨oc, od, kV, doc, pm, an, cdv, ct, osl, rfl, lk, hcd⟩ := F.ex
  exact fn_of lk hcd S len fun A outer s H vs Q E hr z => hbody A outer s H vs Q E hr z
end

section
variable {H0 H1 : Hp} {cs : List Cell} {ims : List (PyData × V)} {tt : TT} {te : TE} {j : Nat} {σ : St} {D : Addr} {Qd : Hp → Prop}
/-- [.. for x in l], l a list cell of data -/
theorem lc_listD {K : PySem.W.Frag} {a : Addr} {ds : List PyData} (g : Nat → List PyData) (i0 : Nat) (w : Wd H0 H1 cs ims) (hD : H1 D = none) (ha : cs[i0]? = some (.L a ds)) (h0 : g 0 = []) (hl : ∀ i, i < ds.length → (g i).length < sizeLine)
    (hs : ∀ i x d H, ds[i]? = some d → Im H (fps (.L D (g i) :: cs)) d x → Wd H0 H (.L D (g i) :: cs) ims → CompTurn H0 cs ims tt te D g i ((wipe σ [j]).set j (some x)) H) (hd : ∀ H, Wd H0 H (.L D (g ds.length) :: cs) ims → Qd H) :
    ∃ W : Nat → Nat → Hp → Prop, (∃ m, W 0 m (upd H1 D (.lst []))) ∧ ∀ i m H, W i m H →
      ((Itl K a).stop i H ∧ Qd H) ∨ ((Itl K a).go i H ∧ ∃ Nx : Hp → Prop, (∀ H', Nx H' → ∃ m', m' < m ∧ W (i + 1) m' H') ∧ ∀ x H', (Itl K a).yld i H x H' → gName j x (wipe σ [j]) H' fun σ2 H2 => wipe σ2 [j] = wipe σ [j] ∧ tt σ2 H2 fun b H3 =>
        if b = true then te σ2 H3 fun y H4 => ∃ acc, H4 D = some (.lst acc) ∧ acc.length < sizeLine ∧ Nx (upd H4 D (.lst (acc ++ [y]))) else Nx H3) := by
  have w1 : Wd H0 (upd H1 D (.lst [])) (.L D (g 0) :: cs) ims := by rw [h0]; exact w.pushL hD ImAll.nil
  have hL : ∀ i H, Wd H0 H (.L D (g i) :: cs) ims → ∃ xs, H a = some (.lst xs) ∧ ImAll H (fps (.L D (g i) :: cs)) ds xs := fun i H w => w.list (i0 + 1) (by simpa using ha)
  refine ⟨fun i m H => m = ds.length - i ∧ i ≤ ds.length ∧ Wd H0 H (.L D (g i) :: cs) ims, ⟨ds.length, by simp, Nat.zero_le _, w1⟩, ?_⟩
  rintro i m H ⟨rfl, hi, p⟩
  obtain ⟨ys, ey, iy⟩ := hL i H p
  have hyl := iy.length
  by_cases hlt : i < ds.length
  · refine .inr ⟨⟨ys, ys[i], SqL.of ey, by simp [hyl, hlt]⟩, fun H => Wd H0 H (.L D (g (i + 1)) :: cs) ims, fun H' p' => ⟨ds.length - (i + 1), by omega, rfl, hlt, p'⟩, fun x H' y => ?_⟩
    obtain ⟨e, y⟩ := y
    subst e
    obtain ⟨d, ed, im⟩ := iy.getX (y ys (SqL.of ey))
    exact ⟨wipe_set _ _ _, (hs i x d H' ed im p).use (hl i hlt)⟩
  · have e : i = ds.length := by omega
    subst e
    exact .inl ⟨⟨ys, SqL.of ey, by omega⟩, hd H p⟩
end
/-! ### (n, text) < (m, text) -/
def pairLt (a : Int) (x : Str) (c : Int) (y : Str) : Bool := if a = c then (if (x == y) = true then false else decide (x.cps.toList < y.cps.toList)) else decide (a < c)
section
open PySem.SeqAt
open PySem.AutoSeq1 (wpAny_loadPart')
open PySem.MeetsSeq PySem.MeetsSeq2 PySem.MeetsSeq3
theorem tuple_lt_is (l b : Addr) (n n2 : Nat) (dd dd2 : Option Addr) (sl sl2 : Array (Option Value)) (a c : Int) (ta tc : Tok) (x y : Str) (tx ty : Tok) :
    Meets (Builtin.«tuple.__lt__» ⟨[.ref l, .ref b], []⟩) (fun _ R s => s.heap.get? l = some { cls := .type "tuple", dict := dd, data := .seq #[.int a ta, .str x tx] n, slots := sl } ∧
      s.heap.get? b = some { cls := .type "tuple", dict := dd2, data := .seq #[.int c tc, .str y ty] n2, slots := sl2 } ∧ R (.ok (.ret (.bool (pairLt a x c y)))) s) :=
  .of_wp fun prog w A R s h => by
    obtain ⟨hp, g, d, tk, os⟩ := s
    obtain ⟨hl, hb, h⟩ := h
    have f2 := AutoSeq1.sub_tuple_tuple
    wp_walk using wpAny_loadPart' hl, wpAny_loadPart' hb, wpAny_forIn_list _ (fun rest z s' => z.1 = none ∧ s' = ⟨hp, g, d, tk, os⟩ ∧
      (rest = [(Value.int a ta, Value.int c tc), (Value.str x tx, Value.str y ty)] ∨ (rest = [(Value.str x tx, Value.str y ty)] ∧ a = c) ∨ (rest = [] ∧ a = c ∧ (x == y) = true))) _
    case turn =>
      rintro ⟨p, q⟩ rest z s' ⟨hz, rfl, hr⟩
      rcases hr with hr | ⟨hr, e⟩ | ⟨hr, _⟩
      · injection hr with h1 h2
        injection h1 with h3 h4
        subst h3 h4 h2
        obtain ⟨e, he, hiff⟩ := HT.eqAt_int A.in1 ⟨hp, g, d, tk, os⟩ a ta c tc
        refine wpAny_bind (he prog w _ _ ?_)
        cases e with
        | true =>
          wp_walk
          exact ⟨rfl, rfl, .inr (.inl ⟨rfl, hiff.mp rfl⟩)⟩
        | false =>
          have ne : a ≠ c := fun z => Bool.false_ne_true (hiff.mpr z)
          have hri := HT.rcLt_int A.in1 ⟨hp, g, d, tk, os⟩ a ta c tc prog w
          wp_walk using hri
          exact ⟨_, rfl, by rw [pairLt, if_neg ne] at h; simpa using h⟩
      · injection hr with h1 h2
        injection h1 with h3 h4
        subst h3 h4 h2 e
        have he := SeqAt.EqAt.str_str (A := A.in1) (s := ⟨hp, g, d, tk, os⟩) x tx y ty
        refine wpAny_bind (he prog w _ _ ?_)
        cases ex : (x == y) with
        | true =>
          wp_walk
          exact ⟨rfl, rfl, .inr (.inr ⟨rfl, rfl, by first | exact rfl | exact ex⟩)⟩
        | false =>
          have hri := DT.rcLt_str A.in1 ⟨hp, g, d, tk, os⟩ x tx y ty prog w
          wp_walk using hri
          exact ⟨_, rfl, by rw [pairLt, if_pos rfl, ex] at h; simpa using h⟩
      · cases hr
    case fin =>
      rintro ⟨b1, b2⟩ s' ⟨hz, rfl, hr⟩
      rcases hr with hr | ⟨hr, e⟩ | ⟨_, e, ex⟩
      · cases hr
      · cases hr
      · simp only at hz
        subst hz
        rw [pairLt, if_pos e, if_pos ex] at h
        wp_walk
        exact ⟨_, rfl, by simpa [Builtin.Tuple.tupleCompareSizes] using h⟩
    case h => exact ⟨rfl, rfl, .inl rfl⟩
end
def rLtP (K : PySem.W.Frag) : R2 := fun x y H Q => ∃ (p q : Addr) (a c : Int) (s t : Str), x = .ref p ∧ y = .ref q ∧ SqT K H p [.int a, .str s] ∧ SqT K H q [.int c, .str t] ∧ Q (.bl (pairLt a s c t)) H
theorem op_ltP {X : Cx} {K : PySem.W.Frag} (hK : X.K = K) (hu : X.A.units + 64 < cLine) : OpR X (compareOp .Lt) (rLtP K) := by
  subst hK
  intro pins s σ H x y v u Q I rx ry h
  obtain ⟨p, q, a, c, x1, y1, rfl, rfl, hp, hq, z⟩ := h
  cases rx
  cases ry
  obtain ⟨i1, r1, t1, _⟩ := I.tuple hp
  obtain ⟨i2, r2, t2, _⟩ := I.tuple hq
  cases r1 with
  | cons ra rr =>
    cases rr with
    | cons rb rn =>
      cases rn
      cases r2 with
      | cons rc rr2 =>
        cases rr2 with
        | cons rd rn2 =>
          cases rn2
          obtain ⟨ta, rfl⟩ := ra
          obtain ⟨tx, rfl⟩ := rb
          obtain ⟨tc, rfl⟩ := rc
          obtain ⟨ty, rfl⟩ := rd
          obtain ⟨⟨cl, dd, da, sl⟩, ho, hc, n, hd⟩ := id t1
          obtain ⟨⟨cl2, dd2, da2, sl2⟩, ho2, hc2, n2, hd2⟩ := id t2
          simp only at hc hd hc2 hd2
          subst hc hd hc2 hd2
          exact richCompare_meets_room (op := .Lt) ⟨_, ho, rfl⟩ ⟨_, ho2, rfl⟩ PySem.F.slot_tuple_lt PySem.F.entry_tuple_lt (PySem.F.args_tuple_lt_2 _ _) (tuple_lt_is p q n n2 dd dd2 sl sl2 a c ta tc x1 y1 tx ty)
            ⟨ho, ho2, show Value.bool (pairLt a x1 c y1) ≠ Value.notImplemented ∧ _ from ⟨(fun z => nomatch z), ⟨.bl (pairLt a x1 c y1), H, I, rfl, z⟩⟩⟩ (by omega)

/-! ### text * n -/
def repS (z : Str) (n : Nat) : Str := ⟨(List.replicate n z.cps.toList).flatten.toArray⟩
theorem foldl_cps (z : Str) : ∀ (n : Nat) (acc : Array Nat), (List.replicate n z.cps).foldl (· ++ ·) acc = acc ++ (List.replicate n z.cps.toList).flatten.toArray
  | 0, acc => by simp
  | n + 1, acc => by
    rw [List.replicate_succ, List.foldl_cons, foldl_cps z n, List.replicate_succ, List.flatten_cons]
    apply Array.toList_inj.mp
    simp
theorem repS_one (z : Str) : repS z 1 = z := by
  unfold repS
  cases z with
  | mk cps => simp
theorem repS_nil {z : Str} (h : z.length = 0) (n : Nat) : repS z n = z := by
  cases z with
  | mk cps =>
    have : cps = #[] := Array.eq_empty_of_size_eq_zero h
    subst this
    unfold repS
    congr 1
    simp
theorem repS_len (z : Str) (n : Nat) : (repS z n).length = n * z.length := by
  show ((List.replicate n z.cps.toList).flatten.toArray).size = n * z.cps.size
  simp [List.length_flatten, List.sum_replicate_nat]
def rMulS : R2 := fun x y H Q => ∃ (z : Str) (n : Nat), x = .str z ∧ y = nV n ∧ z.length * n ≤ 1000000 ∧ n ≤ 1000000 ∧ Q (.str (repS z n)) H
theorem op_mul_str {X : Cx} : OpR X (binaryOp .Mult) rMulS := by
  intro pins s σ H x y v u Q I rx ry h
  obtain ⟨z, n, rfl, rfl, hz, hn, q⟩ := h
  obtain ⟨t, rfl⟩ := rx
  obtain ⟨t', rfl⟩ := ry
  have hb : (decide ((n : Int) < -(2 ^ 63 : Int)) || decide ((n : Int) ≥ 2 ^ 63)) = false := by
    rw [decide_eq_false (by omega), decide_eq_false (by omega)]; rfl
  have sl : sizeLine ≥ 1000000 := by decide
  refine PySem.P.mul_str hb (fun h1 h2 => ?_) (fun h1 h2 => ?_) ?_
  · have h3 : ¬ (n : Int) = 1 := by simp at h2; omega
    intro h4
    have hpos : (0 : Int) < n := by omega
    have := Int.le_ediv_of_mul_le hpos (a := (z.length : Int)) (b := (2 ^ 63 - 1)) (by
      have : ((z.length * n : Nat) : Int) ≤ 1000000 := by omega
      rw [Int.natCast_mul] at this
      omega)
    omega
  · unfold Builtin.Str.tooLong
    have : (n : Int).toNat = n := by simp
    rw [this]
    exact decide_eq_false (by omega)
  · by_cases h0 : (n : Int) < 1
    · have : n = 0 := by omega
      subst this
      rw [if_pos h0]
      refine ⟨by decide, .str (repS z 0), H, I.tok _, ⟨s.toks, ?_⟩, q⟩
      rfl
    · rw [if_neg h0]
      cases h1 : ((n : Int) == 1 || z.length == 0) with
      | true =>
        rw [if_pos rfl]
        have e : repS z n = z := by
          simp only [Bool.or_eq_true, beq_iff_eq] at h1
          rcases h1 with h1 | h1
          · have : n = 1 := by omega
            subst this
            exact repS_one z
          · exact repS_nil h1 n
        rw [e] at q
        exact ⟨.str z, H, I, ⟨_, rfl⟩, q⟩
      | false =>
        rw [if_neg Bool.false_ne_true]
        have e : (⟨(List.replicate (n : Int).toNat z.cps).foldl (· ++ ·) #[]⟩ : Str) = repS z n := by
          rw [foldl_cps]; simp [repS]
        rw [e]
        refine ⟨?_, .str (repS z n), H, I.tok _, ⟨_, rfl⟩, q⟩
        rw [repS_len, Nat.mul_comm]; omega
theorem repS_tune (c n : Nat) : repS ⟨#[c + 97]⟩ n = tuneS (List.replicate n c) := by
  unfold repS tuneS
  congr 1
  have : ∀ n, (List.replicate n [c + 97]).flatten = List.replicate n (c + 97) := by
    intro n
    induction n with
    | zero => rfl
    | succ n ih => simp [List.replicate_succ, ih]
  rw [show (⟨#[c + 97]⟩ : Str).cps.toList = [c + 97] from rfl, this, List.map_replicate]
/-- signs.index(sign) -/
theorem mt_let {X : Cx} : MtR X "str.index" (fun x xs H Q => ∃ w c : Nat, x = .str (tuneS (List.range w)) ∧ xs = [.str ⟨#[c + 97]⟩] ∧ w ≤ 3 ∧ c < w ∧ Q (nV c) H) := by
  intro pins s σ H x xs v us Q I rx rs h
  obtain ⟨w, c, rfl, rfl, hw, hc, q⟩ := h
  refine mt_sindex pins s σ H _ _ v us Q I rx rs ?_
  match w, hw, c, hc with
  | 1, _, 0, _ => exact ⟨_, _, 0, [], rfl, rfl, by decide +kernel, q⟩
  | 2, _, 0, _ => exact ⟨_, _, 0, [], rfl, rfl, by decide +kernel, q⟩
  | 2, _, 1, _ => exact ⟨_, _, 1, [], rfl, rfl, by decide +kernel, q⟩
  | 3, _, 0, _ => exact ⟨_, _, 0, [], rfl, rfl, by decide +kernel, q⟩
  | 3, _, 1, _ => exact ⟨_, _, 1, [], rfl, rfl, by decide +kernel, q⟩
  | 3, _, 2, _ => exact ⟨_, _, 2, [], rfl, rfl, by decide +kernel, q⟩
/-- tune[i] -/
theorem at_tune {t : List Nat} {i c : Nat} (h : t[i]? = some c) : atI (tuneS t).cps.toList (i : Int) = some (c + 97) := atI_nat (by rw [tuneS_cps, List.getElem?_map, h]; rfl)
theorem cutS_head (t : List Nat) (n : Nat) : cutS (tuneS t) none (some (n : Int)) = tuneS (t.take n) := by
  have e0 : HT.sIx (tuneS t).length 0 none = 0 := rfl
  have e1 : HT.sIx (tuneS t).length (tuneS t).length (some (n : Int)) = min n t.length := by
    rw [tuneS_len]; unfold HT.sIx; simp; omega
  unfold cutS
  rw [e0, e1, tuneS_cps, List.drop_zero, Nat.sub_zero]
  unfold tuneS
  congr 1
  rw [← List.map_take]
  by_cases h : n ≤ t.length
  · rw [Nat.min_eq_left h]
  · rw [Nat.min_eq_right (by omega), List.take_length, List.take_of_length_le (by omega)]
theorem cutS_tail (t : List Nat) (n : Nat) : cutS (tuneS t) (some (n : Int)) none = tuneS (t.drop n) := by
  have e1 : HT.sIx (tuneS t).length (tuneS t).length none = t.length := by rw [tuneS_len]; rfl
  have e0 : HT.sIx (tuneS t).length 0 (some (n : Int)) = min n t.length := by
    rw [tuneS_len]; unfold HT.sIx; simp; omega
  unfold cutS
  rw [e0, e1, tuneS_cps]
  unfold tuneS
  congr 1
  rw [← List.map_drop, ← List.map_take]
  by_cases h : n ≤ t.length
  · rw [Nat.min_eq_left h, List.take_of_length_le (by rw [List.length_drop]; omega)]
  · rw [Nat.min_eq_right (by omega), List.drop_length, List.drop_of_length_le (by omega)]; simp

/-! ### iterables with the written part named -/
section
variable {X : Cx} {K : PySem.W.Frag} {tg e : Expr} {te : TE}
theorem piT (hK : X.K = K) (h : PE X e te) : PI X tg e (iTup K te) := by subst hK; exact pi_tup h
theorem piL (hK : X.K = K) (h : PE X e te) : PI X tg e (iList K te) := by subst hK; exact pi_list h
end

section
variable {H0 H1 : Hp} {cs : List Cell} {ims : List (PyData × V)} {tt : TT} {te : TE} {j : Nat} {σ : St} {D : Addr} {Qd : Hp → Prop}
/-- [.. for sign in text] -/
theorem lc_strD {z : Str} (g : Nat → List PyData) (w : Wd H0 H1 cs ims) (hD : H1 D = none) (h0 : g 0 = []) (hl : ∀ i, i < z.cps.size → (g i).length < sizeLine)
    (hs : ∀ i c H, z.cps[i]? = some c → Wd H0 H (.L D (g i) :: cs) ims → CompTurn H0 cs ims tt te D g i ((wipe σ [j]).set j (some (.str ⟨#[c]⟩))) H) (hd : ∀ H, Wd H0 H (.L D (g z.cps.size) :: cs) ims → Qd H) :
    ∃ W : Nat → Nat → Hp → Prop, (∃ m, W 0 m (upd H1 D (.lst []))) ∧ ∀ i m H, W i m H →
      ((Its z).stop i H ∧ Qd H) ∨ ((Its z).go i H ∧ ∃ Nx : Hp → Prop, (∀ H', Nx H' → ∃ m', m' < m ∧ W (i + 1) m' H') ∧ ∀ x H', (Its z).yld i H x H' → gName j x (wipe σ [j]) H' fun σ2 H2 => wipe σ2 [j] = wipe σ [j] ∧ tt σ2 H2 fun b H3 =>
        if b = true then te σ2 H3 fun y H4 => ∃ acc, H4 D = some (.lst acc) ∧ acc.length < sizeLine ∧ Nx (upd H4 D (.lst (acc ++ [y]))) else Nx H3) := by
  have w1 : Wd H0 (upd H1 D (.lst [])) (.L D (g 0) :: cs) ims := by rw [h0]; exact w.pushL hD ImAll.nil
  refine ⟨fun i m H => m = z.cps.size - i ∧ i ≤ z.cps.size ∧ Wd H0 H (.L D (g i) :: cs) ims, ⟨z.cps.size, by simp, Nat.zero_le _, w1⟩, ?_⟩
  rintro i m H ⟨rfl, hi, p⟩
  by_cases hlt : i < z.cps.size
  · refine .inr ⟨hlt, fun H => Wd H0 H (.L D (g (i + 1)) :: cs) ims, fun H' p' => ⟨z.cps.size - (i + 1), by omega, rfl, hlt, p'⟩, fun x H' y => ?_⟩
    obtain ⟨e, c, ec, ev⟩ := y
    subst e ev
    exact ⟨wipe_set _ _ _, (hs i c _ ec p).use (hl i hlt)⟩
  · have e : i = z.cps.size := by omega
    subst e
    exact .inl ⟨Nat.le_refl _, hd H p⟩
end
/-! ### tuple * n, n any -/
section
open PySem.AutoSeq1 (wpAny_loadPart')
theorem mul_one (l : Addr) (items : Array Value) (n : Nat) (dd : Option Addr) (sl : Array (Option Value)) (u : Tok) :
    Meets (Builtin.«tuple.__mul__» ⟨[.ref l, .int 1 u], []⟩) (fun _ R s => s.heap.get? l = some { cls := .type "tuple", dict := dd, data := .seq items n, slots := sl } ∧ R (.ok (.ret (.ref l))) s) :=
  .of_wp fun prog w A R s h => by
    obtain ⟨hp, g, d, tk, os⟩ := s
    obtain ⟨hl, h⟩ := h
    have f1 := AutoSeq1.idx_int
    wp_walk using wpAny_loadPart' hl
    exact ⟨_, rfl, h⟩
theorem mul_zero (l : Addr) (items : Array Value) (n : Nat) (dd : Option Addr) (sl : Array (Option Value)) (u : Tok) (hne : items.isEmpty = false) :
    Meets (Builtin.«tuple.__mul__» ⟨[.ref l, .int 0 u], []⟩) (fun _ R s => s.heap.get? l = some { cls := .type "tuple", dict := dd, data := .seq items n, slots := sl } ∧
      R (.ok (.ret (Value.ref s.heap.objs.size))) { s with heap := s.heap.push { cls := Value.type "tuple", data := Data.seq #[] }, toks := s.toks }) :=
  .of_wp fun prog w A R s h => by
    obtain ⟨hp, g, d, tk, os⟩ := s
    obtain ⟨hl, h⟩ := h
    have f1 := AutoSeq1.idx_int
    have c1 : (items.isEmpty || (0 : Int) == 1) = false := by rw [hne]; rfl
    wp_walk using wpAny_loadPart' hl
    repeat (first
      | (refine wpAny_ite_false (decide_eq_false (by rw [c1]; exact Bool.false_ne_true)) ?_; wp_walk using wpAny_loadPart' hl))
    exact ⟨_, rfl, h⟩
end
/-- t * n, t not empty: n = 1 gives t itself -/
def rRepN (K : PySem.W.Frag) : R2 := fun x y H Q => ∃ (l : Addr) (k : Nat) (xs : List V), x = .ref l ∧ y = nV k ∧ SqT K H l xs ∧ xs ≠ [] ∧ k ≤ 1000 ∧ xs.length ≤ 1000 ∧ (k = 1 → Q (.ref l) H) ∧ (k ≠ 1 → ∀ p, H p = none → Q (.ref p) (upd H p (.tup (List.replicate k xs).flatten)))
theorem op_repN {X : Cx} {K : PySem.W.Frag} (hK : X.K = K) : OpR X (binaryOp .Mult) (rRepN K) := by
  subst hK
  intro pins s σ H x y v u Q I rx ry h
  obtain ⟨l, k, xs, rfl, rfl, hT, hne, hk, hz, q1, q2⟩ := h
  by_cases h2 : 2 ≤ k
  · exact op_repT pins s σ H _ _ v u Q I rx ry ⟨l, (k : Int), xs, rfl, rfl, hT, hne, by omega, by omega, hz, by rw [Int.toNat_natCast]; exact q2 (by omega)⟩
  cases rx
  obtain ⟨t, rfl⟩ := ry
  obtain ⟨its, r, ⟨⟨cls, dd, data, sl⟩, ho, hc, n, hd⟩, hs⟩ := I.tuple hT
  simp only at hc hd
  subst hc hd
  have hle : its.length = xs.length := r.length.symm
  by_cases h1 : k = 1
  · subst h1
    exact wpAny_binaryOp_repeat_ref (T := "tuple") (U := "int") (by decide) ⟨_, ho, rfl⟩ (fun s' => typeIs_int s' _ t) noFill_tuple_mul F.fills_int_mul F.slot_int_rmul repeat_tuple F.slot_int_index.lookup
      (call_meets F.slot_int_rmul (typeIs_int s _ t) F.entry_int_rmul (F.args_int_rmul_2 _ _) (int_rmul_tuple _ t l its.toArray n dd sl)
        ⟨ho, rfl, ⟨_, ho, rfl⟩, call_meets F.slot_tuple_mul ⟨_, ho, rfl⟩ F.entry_tuple_mul (F.args_tuple_mul_2 _ _) (mul_one l its.toArray n dd sl t) ⟨ho, ⟨.ref l, H, I, rfl, q1 rfl⟩⟩⟩)
  · have h0 : k = 0 := by omega
    subst h0
    have hi : its.toArray.isEmpty = false := by
      cases its with
      | nil => exact absurd (List.eq_nil_of_length_eq_zero hle.symm) hne
      | cons a b => rfl
    refine wpAny_binaryOp_repeat_ref (T := "tuple") (U := "int") (by decide) ⟨_, ho, rfl⟩ (fun s' => typeIs_int s' _ t) noFill_tuple_mul F.fills_int_mul F.slot_int_rmul repeat_tuple F.slot_int_index.lookup
      (call_meets F.slot_int_rmul (typeIs_int s _ t) F.entry_int_rmul (F.args_int_rmul_2 _ _) (int_rmul_tuple _ t l its.toArray n dd sl)
        ⟨ho, rfl, ⟨_, ho, rfl⟩, call_meets F.slot_tuple_mul ⟨_, ho, rfl⟩ F.entry_tuple_mul (F.args_tuple_mul_2 _ _) (mul_zero l its.toArray n dd sl t hi) ⟨ho, ?_⟩⟩)
    refine ⟨.ref s.heap.objs.size, _, I.laid (t' := s.toks) (o := .tup []) (fun b ob q => Heap.get?_push_of_some _ q) (Nat.le_refl _) ?_, rfl, q2 (by omega) _ (I.hok.fresh (Nat.le_refl _))⟩
    exact ⟨Nat.zero_le _, [], .nil, PyProof.Rows.IsTup.new _ _⟩
/-- t * n of data -/
theorem d_repN {K : PySem.W.Frag} {H0 H : Hp} {cs : List Cell} {ims : List (PyData × V)} {ds : List PyData} {x : V} {Q : VK} (w : Wd H0 H cs ims) {k : Nat} (ia : Im H (fps cs) (.tuple ds) x) (hne : ds ≠ []) (hk2 : k ≤ 1000) (hz : ds.length ≤ 1000) (q : ∀ v H', Wd H0 H' cs ((.tuple (List.replicate k ds).flatten, v) :: ims) → Q v H') : rRepN K x (nV k) H Q := by
  obtain ⟨a, xs, rfl, ea, na, ja⟩ := id ia
  have hl := ja.length
  refine ⟨a, k, xs, rfl, rfl, SqT.of ea, fun e => hne (List.length_eq_zero_iff.mp (by rw [← hl, e]; rfl)), hk2, by omega, fun e => ?_, fun ne p hp => ?_⟩
  · subst e
    refine q _ _ (w.add ?_)
    simpa using ia
  · refine q _ _ (w.tup hp ?_)
    clear q hk2 ne
    induction k with
    | zero => exact ImAll.nil
    | succ k ih =>
      rw [List.replicate_succ, List.replicate_succ, List.flatten_cons, List.flatten_cons]
      exact ja.app ih
/-! ### set(xs), xs a list of ints, with its order told -/
section
open PySem.Spec PyProof.Rows
variable {P : Program} {w : World} {A : Around} {E : Value → Shared → Prop} {s : Shared}
/-- the empty set -/
abbrev eSet (w : World) : Obj := { cls := .type "set", dict := none, data := .set #[] 0 (.fresh 0 0 (!w.params.followText "set-order")) }
/-- the set of these numbers, made at the heap's end -/
abbrev SetTo (w : World) (s : Shared) (ns : List Int) (h' : Heap) (c : Nat) : Prop := SetR w h' s.heap.objs.size (fun j => decide (j ∈ ns)) c ∧ c ≤ ns.length ∧ ∀ b o, s.heap.get? b = some o → h'.get? b = some o
theorem call_set_lstI {l : Addr} {items : Array Value} (ns : List Int) {Q : Value → Shared → Prop} (hh : A.handled = none) (hl : s.heap.IsList l items) (hit : IntsAre items.toList ns) (hb : ns.length + 1 < scanBound)
    (h : ∀ (h' : Heap) (tk c : Nat), SetTo w s ns h' c → Q (.ref s.heap.objs.size) { s with heap := h', toks := tk }) : wpAny (model P w) A (call (.type "set") [.ref l]) Q E s := by
  have hsz : items.size = ns.length := by
    have q := IntsAre.length hit
    rwa [Array.length_toList] at q
  have hS : (s.heap.push (eSet w)).get? s.heap.objs.size = some (eSet w) := Heap.get?_push_size _ rfl
  have hT : Shared.TypeIs { s with heap := s.heap.push (eSet w) } (.ref s.heap.objs.size) "set" := ⟨_, hS, rfl⟩
  obtain ⟨c, tl, hmro⟩ := F.called_set.mro
  have hmade := F.called_set.made
  have hsub := F.called_set.sub
  refine wpAny_call (codeAny_of_tree ?_)
  show wpAny _ _ (callAny (.type "set") _) _ _ _
  refine wpAny_pure ⟨Code.quiet_builtin _ (by decide +kernel), codeAny_builtin F.entry_type_call ?_⟩
  rw [Around.under_plain (weight_type_call_type "set" [.ref l] []) rfl]
  have h1 := F.called_set.notType
  have h2 := F.called_set.canCreate
  have hct := F.typeCall_set_1 (.ref l)
  repeat (any_goals (first | assumption | wp_step))
  refine codeAny_mono (code_set_led1 (.ref l) (E := E) (Q₁ := fun obj s₁ => obj = .ref s.heap.objs.size ∧ s₁ = { s with heap := s.heap.push (eSet w) }) ⟨rfl, rfl⟩) fun r s₁ hr => ?_
  match r, hr with
  | .error e, hr => exact hr
  | .ok (.ret obj), hr =>
    obtain ⟨rfl, rfl⟩ := hr
    have hli := F.called_set.init.lookup
    have hbi := F.called_set.init.bind (.ref s.heap.objs.size)
    repeat (any_goals (first | assumption | wp_step))
    refine codeAny_mono (codeAny_call_builtin (R := wants (fun r s₂ => r = .none ∧ ∃ h' tk c, s₂ = { s with heap := h', toks := tk } ∧ SetTo w s ns h' c) E) F.called_set.init.plain F.entry_set_init (check_set_init_1 hT ?_)) fun r₂ s₂ hr₂ => ?_
    · have hl1 : (s.heap.push (eSet w)).IsList l items := hl.push _
      have hlS : l < s.heap.objs.size := by
        obtain ⟨o, e, _⟩ := hl
        exact Heap.lt_size e
      obtain ⟨o', e', c', n', d'⟩ := hl1
      obtain ⟨ocls, odict, odata, oslots⟩ := o'
      dsimp only at c' d'
      subst c'; subst d'
      have hl1 : (s.heap.push (eSet w)).IsList l items := hl.push _
      have f1 := F.sub_list_set
      have f2 := F.sub_list_frozenset
      have f3 : (Value.type "list" == Value.type "dict") = false := by decide
      unfold Builtin.«set.__init__» noKeywords Builtin.Frozenset.updateFrom
      generalize hPI : pyIter = PI
      wp_walk
      subst hPI
      refine wpAny_pyIter_list hl1 (wpAny_bind (wpAny_runValue ?_))
      have hz : (s.heap.push (eSet w)).objs.size = s.heap.objs.size + 1 := Heap.size_push ..
      have hI : l ≠ (s.heap.push (eSet w)).objs.size := by rw [hz]; exact Nat.ne_of_lt (Nat.lt_succ_of_lt hlS)
      refine set_update_ints ((Walks.list (show A.in1.in1.in1.handled = none by simp [hh]) _ l hI items).toS) s.heap.objs.size (by rw [hz]; simp only [List.mem_cons, List.not_mem_nil, or_false, not_or]; exact ⟨Nat.ne_of_lt (Nat.lt_succ_self _), Nat.ne_of_gt hlS⟩) ns hsz hb (fun i v hv => ?_) (items.size - 0) 0 _ (by omega) (Nat.zero_le _)
        ⟨⟨_, Heap.get?_push_size _ rfl, rfl, rfl⟩, (hl1.push _)⟩ ⟨0, Nat.le_refl 0, setR_new_at (Heap.get?_push_of_some _ hS)⟩ fun s' c' hm hc' hS' => ?_
      · have hi : i < ns.length := by rw [← hsz]; exact (Array.getElem?_eq_some_iff.mp hv).1
        obtain ⟨t, e⟩ := IntsAre.int_at hit i v (by rw [Array.getElem?_toList]; exact hv)
        refine ⟨ns[i], t, List.getElem?_eq_getElem hi, ?_⟩
        rw [e, List.getD_eq_getElem?_getD, List.getElem?_eq_getElem hi] <;> rfl
      · obtain ⟨h', g2, d', tk', os'⟩ := s'
        obtain rfl : g2 = s.gens := hm.gens
        obtain rfl : d' = s.drawn := hm.drawn
        obtain rfl : os' = s.os := hm.os
        show wpAny _ _ _ _ _ _
        refine wpAny_pure ?_
        show wpAny _ _ (ret Value.none) _ _ _
        refine wpAny_pure ⟨rfl, h', tk', c', rfl, hS', by omega, fun b o e => ?_⟩
        have hb0 : b < s.heap.objs.size := Heap.lt_size e
        exact hm.heap b o (by rw [hz]; simp only [List.mem_cons, List.not_mem_nil, or_false, not_or]; exact ⟨Nat.ne_of_lt hb0, Nat.ne_of_lt (Nat.lt_succ_of_lt hb0)⟩) (Heap.get?_push_of_some _ (Heap.get?_push_of_some _ e))
    · match r₂, hr₂ with
      | .error e, hr₂ => exact hr₂
      | .ok (.ret r), hr₂ =>
        obtain ⟨rfl, h', tk, c', rfl, hx⟩ := hr₂
        repeat (any_goals (first | assumption | wp_step))
        exact h _ _ _ hx
end
section
variable {X : Cx}
def rSetOfI (K : PySem.W.Frag) (w : World) : List V → Hp → VK → Prop := fun xs H Q => ∃ (l : Addr) (ns : List Int), xs = [V.ref l] ∧ SqL K H l (ns.map V.int) ∧ ns.length < 4095 ∧
  ∀ (a : Addr) (c : Nat), H a = none → c ≤ ns.length → Q (.ref a) (upd H a (SetO w a (fun j => decide (j ∈ ns)) c))
theorem cr_setOfI (hc : X.calm = true) : CallR X (.type "set") (rSetOfI X.K X.w) := by
  intro pins s σ H vs us Q I r h
  obtain ⟨l, ns, rfl, hq, hn, q⟩ := h
  rw [Vals.ref1 r]
  obtain ⟨its, r, pl, hz⟩ := I.list hq
  refine call_set_lstI ns (I.ok.hd hc) pl.isList (by simpa using r.ints) (by unfold scanBound; omega) fun h' tk c ⟨hS, hcl, hk⟩ => ?_
  have hf : H s.heap.objs.size = none := I.hok.fresh (Nat.le_refl _)
  refine ⟨.ref _, upd H s.heap.objs.size (SetO X.w s.heap.objs.size (fun j => decide (j ∈ ns)) c), ?_, rfl, q _ c hf hcl⟩
  exact I.call (ch := []) (Un.laid hk (Nat.le_refl _) hf) (I.hok.laid hk (Nat.le_refl _) (setO_new hS)) I.bare (fun _ z => nomatch z)
theorem setOfI {K : PySem.W.Frag} {w : World} (h : X.K = K) (hw : X.w = w) (hc : X.calm = true) : CallR X (.type "set") (rSetOfI K w) := by subst h; subst hw; exact cr_setOfI hc
theorem sortedSetI {w : World} (hw : X.w = w) (hc : X.calm = true) : CallR X (.builtin "sorted") (rSortedSet w) := by subst hw; exact cr_sortedSet hc
theorem inS {K : PySem.W.Frag} (h : X.K = K) : OpR X (compareOp .In) (rIn K false) := by subst h; exact op_in_seq
theorem notInS {K : PySem.W.Frag} (h : X.K = K) : OpR X (compareOp .NotIn) (rIn K true) := by subst h; exact op_notIn_seq
/-- len of a set of ints -/
def rLenSet (w : World) : List V → Hp → VK → Prop := fun vs H Q => ∃ (a : Addr) (S : Int → Bool) (n : Nat), vs = [V.ref a] ∧ H a = some (SetO w a S n) ∧
  ∀ ks : List Int, ks.Nodup → (∀ k : Int, k ∈ ks ↔ S k = true) → ks.length = n → Q (nV n) H
theorem cr_lenSet {w : World} (hw : X.w = w) : CallR X (.builtin "len") (rLenSet w) := by
  subst hw
  intro pins s σ H vs us Q I r h
  obtain ⟨a, S, n, rfl, ha, q⟩ := h
  rw [Vals.ref1 r]
  obtain ⟨o, es, ep, t, ho, hex, hd, g, nd, hm, hb, hf, hn, hr, hl⟩ := setO_get I ha
  refine call_len_set ho hex hd hf (by unfold scanBound at hb; omega) ⟨nV n, H, I.tok _, ⟨_, by rw [hn]⟩, q _ nd (fun k => (hm k).symm) (by rw [List.length_map, Array.length_toList, hn])⟩
end
/-! ### sorted(s), s a set of whole numbers, any number of them -/
def rSortedSetA (w : World) : List V → Hp → VK → Prop := fun vs H Q => ∃ (a : Addr) (S : Int → Bool) (n : Nat), vs = [V.ref a] ∧ H a = some (SetO w a S n) ∧
  ∀ (ns : List Int) (p : Addr), ns.Pairwise (· < ·) → (∀ k : Int, k ∈ ns ↔ S k = true) → ns.length = n → H p = none → Q (.ref p) (upd H p (.lst (ns.map V.int)))
section
open PySem.W PyProof.Rows
variable {X : Cx}
theorem ints_alike (ns : List Int) : PySem.W.AllAlike (ns.map PyData.int) := PySem.W.AllAlike.of fun b b' => by simp [PySem.W.alike]
theorem ints_sortable' (ns : List Int) : PySem.W.Sortable (ns.map PyData.int) := Sortable.others fun b => ⟨by simp, by simp⟩
theorem each_int {vs : List Value} {ns : List Int} (h : IntsAre vs ns) : EachIs (fun u b => ∃ tk, u = Value.int b tk) vs ns := by
  induction h with
  | nil => exact .nil
  | cons k tk _ ih => exact .cons ⟨tk, rfl⟩ ih
theorem vals_int {out : List Value} {ns : List Int} (h : EachIs (fun u b => ∃ tk, u = Value.int b tk) out ns) : Vals (ns.map V.int) out := by
  induction h with
  | nil => exact .nil
  | cons h _ ih => exact .cons h ih
theorem cr_sortedSetA (hc : X.calm = true) (hu : X.A.units + 64 < cLine) : CallR X (.builtin "sorted") (rSortedSetA X.w) := by
  intro pins s σ H vs us Q I r h
  obtain ⟨a, S, n, rfl, ha, q⟩ := h
  rw [Vals.ref1 r]
  obtain ⟨o, es, ep, t, ho, hex, hd, g, nd, hm, hb, hf, hn, hr, hl⟩ := setO_get I ha
  refine Calls.call_function_entry kind_sorted plain_sorted entry_sorted (args_sorted1 _) ?_
  unfold Builtin.«sorted»
  refine wpAny_bind (m := checkCount "sorted" 1 1 _) (wpAny_pure ?_)
  refine wpAny_bind (collect_set (A := X.A.in1) (I.ok.hd hc) ⟨o, ho, hex.1, hd⟩ hf hb hr hl fun s1 us k1 hz g1 o1 pm => ?_)
  have hul : us.length = n := by rw [pm.length_eq, List.length_map, Array.length_toList]; exact hn
  have hI : IntsAre us (us.map Builtin.Re.reRawOf) := ints_of us fun v hv => by
    obtain ⟨e, he, z⟩ := List.mem_map.mp (pm.mem_iff.mp hv)
    obtain ⟨k, tk, h1, _⟩ := g e he
    exact ⟨k, tk, by rw [← z]; exact h1⟩
  have pk : (us.map Builtin.Re.reRawOf).Perm (es.toList.map keyOf) := by
    have z := pm.map Builtin.Re.reRawOf
    rw [List.map_map] at z
    exact z
  generalize us.map Builtin.Re.reRawOf = ks at hI pk
  have hkl : ks.length = n := by rw [← IntsAre.length hI]; exact hul
  have hnb : n < 4096 := by rw [← hn]; exact hb
  have hsl : n ≤ sizeLine := by rw [sizeLine_eq]; omega
  have ee := each_int hI
  refine wpAny_bind (wpAny_newList ?_ (by rw [hul]; exact hsl))
  have hoL : (s1.heap.push (seqObj "list" us.toArray 0)).get? s1.heap.objs.size = some (seqObj "list" us.toArray 0) := Heap.get?_push_size _ rfl
  refine wpAny_bind (wpAny_holding (list_sort_data (enc := PyData.int) hoL ee (ee.mono fun u b ⟨tk, z⟩ => ⟨[], by rw [z]; exact .int _ _, by simp⟩) (ints_alike ks) (ints_sortable' ks) (by omega) (fun b hb => by
    have : (PyData.int b).depth = 0 := by simp [PyData.depth]
    rw [this]
    simp only [Around.in1_units]
    omega) fun out hout eo => ?_))
  obtain ⟨c, hco⟩ := sortedHeap_at (vs := us) (out := out.toArray) hoL
  have pm2 : (ks.mergeSort (dataLe false PyData.int)).Perm (es.toList.map keyOf) := (List.mergeSort_perm _ _).trans pk
  have srt : (ks.mergeSort (dataLe false PyData.int)).Pairwise (· ≤ ·) := by
    have el : dataLe false PyData.int = fun a b : Int => decide (a ≤ b) := dataLe_int (β := Int) id
    have := List.pairwise_mergeSort (le := dataLe false PyData.int) (by rw [el]; intro a b c h1 h2; simp at h1 h2 ⊢; omega) (by rw [el]; intro a b; simp; omega) ks
    refine this.imp fun {a b} z => ?_
    rw [el] at z
    simpa using z
  generalize ks.mergeSort (dataLe false PyData.int) = ms at pm2 srt eo
  have hml : ms.length = n := by rw [pm2.length_eq, List.length_map, Array.length_toList]; exact hn
  have hp := I.hok.fresh (a := s1.heap.objs.size) hz
  refine wpAny_pure ⟨_, rfl, .ref s1.heap.objs.size, upd H s1.heap.objs.size (.lst (ms.map V.int)), ?_, rfl, q ms _ (lt_of_le_nodup ms srt (pm2.nodup_iff.mpr nd)) (fun k => by rw [pm2.mem_iff, ← hm k]) hml hp⟩
  have kk : ∀ b u, s.heap.get? b = some u → (sortedHeap (s1.heap.push (seqObj "list" us.toArray 0)) s1.heap.objs.size us out.toArray).get? b = some u := fun b u e => by
    have z := k1 b u e
    have hlt := Heap.lt_size z
    rw [sortedHeap_old (Nat.ne_of_lt hlt) (by rw [size_push']; exact Nat.lt_succ_of_lt hlt)]
    exact Heap.get?_push_of_some _ z
  have J : Inv X pins σ (upd H s1.heap.objs.size (.lst (ms.map V.int))) { s with heap := sortedHeap (s1.heap.push (seqObj "list" us.toArray 0)) s1.heap.objs.size us out.toArray, gens := s1.gens, drawn := s1.drawn, toks := s1.toks } :=
    I.call (ch := []) (Un.laid kk hz hp) (I.hok.laid kk hz ⟨by rw [List.length_map, hml]; exact hsl, out, c, vals_int eo, hco⟩) (by rw [g1]; exact I.bare) (fun _ z => nomatch z)
  cases s1
  obtain rfl := o1
  exact J
theorem sortedSetA {w : World} (hw : X.w = w) (hc : X.calm = true) {k : Nat} (r : Room k X.A) : CallR X (.builtin "sorted") (rSortedSetA w) := by subst hw; exact cr_sortedSetA hc (by have := r.un; omega)
end
/-! ### zip(a text, a tuple) -/
def ItzS (K : PySem.W.Frag) (z : Str) (a : Addr) : It :=
  ⟨fun i H => ∃ (ys : List V) (c : Nat) (y : V), SqT K H a ys ∧ z.cps[i]? = some c ∧ ys[i]? = some y,
    fun i H v H' => ∃ T c y, v = .ref T ∧ H T = none ∧ H' = upd H T (.tup [.str ⟨#[c]⟩, y]) ∧ z.cps[i]? = some c ∧ ∀ ys, SqT K H a ys → ys[i]? = some y,
    fun i H => ∃ ys : List V, SqT K H a ys ∧ i ≤ z.cps.size ∧ i ≤ ys.length ∧ (i = z.cps.size ∨ i = ys.length)⟩
section
open PySem.Spec PyProof.Rows
theorem zs_apart (n a : Nat) (ha : a < n) : ZipSep2 (n + 4) (n + 2) (n + 3) n (n + 1) [n] [n + 1, a] := by
  have h1 : (n + 2 : Nat) ≠ n + 4 := by omega
  have h2 : (n + 3 : Nat) ≠ n + 4 := by omega
  have h3 : (n + 2 : Nat) ≠ n + 3 := by omega
  have h4 : (n + 2 : Nat) ≠ n := by omega
  have h5 : (n + 4 : Nat) ≠ n := by omega
  have h6 : (n + 3 : Nat) ≠ n := by omega
  have h7 : (n + 2 : Nat) ≠ n + 1 := by omega
  have h8 : (n + 4 : Nat) ≠ n + 1 ∧ (n + 4 : Nat) ≠ a := by omega
  have h9 : (n + 3 : Nat) ≠ n + 1 ∧ (n + 3 : Nat) ≠ a := by omega
  have h10 : (n : Nat) ≠ n + 1 ∧ (n : Nat) ≠ a := by omega
  have h11 : (n + 1 : Nat) ≠ n := by omega
  have m2 : ∀ {x y z : Nat}, x ≠ y ∧ x ≠ z → x ∉ [y, z] := fun h => by simp only [List.mem_cons, List.not_mem_nil, or_false, not_or]; exact h
  have m1 : ∀ {x y : Nat}, x ≠ y → x ∉ [y] := fun h => by simp only [List.mem_cons, List.not_mem_nil, or_false]; exact h
  exact ⟨h1, h2, h3, h4, List.mem_cons_self, m1 h5, m1 h6, h7, List.mem_cons_self, m2 h8, m2 h9, m2 h10, m1 h11⟩
theorem turn_zipS {P : Program} {w : World} {K : PySem.W.Frag} {elts : List Expr} {kk : Nat} {tpos : Pos} {z : Str} {t : Tok} {a zz TI TO i1 i2 : Addr} (S : ZipSep2 zz TI TO i1 i2 [i1] [i2, a]) (ha2 : a ≠ i2) :
    Turn P w K (.Tuple elts kk tpos) (ItzS K z a) [zz, TI, TO, i1, i2] zz (fun i h => IsZip h zz TI TO .none ∧ IsTupOf2 h TI (.ref i1) (.ref i2) ∧ (∃ x y, IsTupOf2 h TO x y) ∧ h.IsStrIter i1 (strIterType z) z t i ∧ h.IsTupleIter i2 a i) where
  mem := by simp
  obj := fun i h st c hc => by
    obtain ⟨hz, hTI, ⟨x, y, hTO⟩, ⟨o1, e1, _, d1⟩, ⟨o2, e2, _, d2⟩⟩ := st
    have e' : c = zz ∨ c = TI ∨ c = TO ∨ c = i1 ∨ c = i2 := by simpa using hc
    rcases e' with q | q | q | q | q
    · rw [q]; exact ⟨_, hz, fun v q => nomatch q⟩
    · rw [q]; exact ⟨_, hTI, fun v q => nomatch q⟩
    · rw [q]; exact ⟨_, hTO, fun v q => nomatch q⟩
    · rw [q]; exact ⟨o1, e1, fun v q => by rw [d1] at q; cases q⟩
    · rw [q]; exact ⟨o2, e2, fun v q => by rw [d2] at q; cases q⟩
  keep := fun i h h' st k => by
    obtain ⟨hz, hTI, ⟨x, y, hTO⟩, ⟨o, ho, r⟩, h2⟩ := st
    exact ⟨k zz (by simp) _ hz, k TI (by simp) _ hTI, ⟨x, y, k TO (by simp) _ hTO⟩, ⟨o, k i1 (by simp) o ho, r⟩, h2.at fun o q => k i2 (by simp) o q⟩
  item := by
    intro X hP hw hK hc i pins s σ H E I hf st hg
    subst hP hw hK
    obtain ⟨hz, hTI, ⟨x0, y0, hTO⟩, h1, h2⟩ := st
    obtain ⟨ys, c, y, hqy, hx, hy⟩ := hg
    obtain ⟨its2, rv2, p2, _⟩ := I.tuple hqy
    obtain ⟨u2, hu2, ru2⟩ := rv2.get hy
    have hzl : zz < s.heap.objs.size := Heap.lt_size hz
    have hu2' : its2.toArray[i]? = some u2 := by simpa using hu2
    have hlt1 : i < z.cps.size := (Array.getElem?_eq_some_iff.mp hx).1
    have hlt2 : i < its2.toArray.size := (Array.getElem?_eq_some_iff.mp hu2').1
    refine wpAny_pyNext_zipD2_item S (Draws.text (prog := X.prog) (w := X.w) (A := X.A.in1) (I.ok.hd hc) i1 z t) (Draws.tuple (prog := X.prog) (w := X.w) (A := X.A.in1) (I.ok.hd hc) i2 a ha2 its2.toArray) hz hTI hTO h1 ⟨h2, p2⟩ hlt1 hlt2 fun x1 x2 h' tk px1 px2 z' TO' h1' h2' hT hsz hk => ?_
    obtain ⟨c', u, hc', rfl⟩ := px1
    rw [hx] at hc'; cases hc'
    have px2 : its2.toArray[i]? = some x2 := px2
    rw [hu2'] at px2; cases px2
    refine ⟨_, rfl, wpAny_letOwnedTupleGo_zip (s := { s with heap := h', toks := tk }) z' fun h'' z'' sb => ?_⟩
    have hT2 : h''.get? s.heap.objs.size = some { cls := .type "tuple", data := .seq #[.str ⟨#[c]⟩ u, u2] } := (sb.2 _ (Nat.ne_of_gt hzl)).trans hT
    have new : ObjOk X.prog X.w (upd H s.heap.objs.size (.tup [.str ⟨#[c]⟩, y])) h'' s.heap.objs.size (.tup [.str ⟨#[c]⟩, y]) :=
      ⟨by show 2 ≤ sizeLine; decide, [.str ⟨#[c]⟩ u, u2], .cons ⟨_, rfl⟩ (.cons ru2 .nil), ⟨_, hT2, rfl, _, rfl⟩⟩
    have I1 : Inv X pins σ (upd H s.heap.objs.size (.tup [.str ⟨#[c]⟩, y])) { s with heap := h'', toks := tk } :=
      I.turnedNew (t' := tk) (ch := [zz, TI, TO, i1, i2]) (fun c o hb q => (sb.2 c (fun q' => hb (by simp [q']))).trans (hk c o (fun q' => hb (by simp [q'])) (fun q' => hb (by simp [q'])) (fun q' => hb (by simp [q'])) (fun q' => hb (by simp [q'])) q)) hf (Nat.le_refl _) new
    refine ⟨.ref s.heap.objs.size, _, I1, rfl, ⟨_, c, y, rfl, I.hok.fresh (Nat.le_refl _), rfl, hx, fun l hl => by rw [I.tuple_inj hl hqy]; exact hy⟩, ⟨z'', ?_, ⟨.str ⟨#[c]⟩ u, u2, ?_⟩, ?_, ?_⟩, fun c hcm => ?_⟩
    · exact (sb.2 _ S.TIz).trans (hk _ _ S.TIz S.TITO S.TIi1 S.TIi2 hTI)
    · exact (sb.2 _ S.TOz).trans TO'
    · obtain ⟨o, ho, r⟩ := h1'
      exact ⟨o, (sb.2 _ S.zi1.symm).trans ho, r⟩
    · exact h2'.1.at fun o q => (sb.2 _ S.zi2.symm).trans q
    · have hlt : c < s.heap.objs.size := by
        have e' : c = zz ∨ c = TI ∨ c = TO ∨ c = i1 ∨ c = i2 := by simpa using hcm
        rcases e' with q | q | q | q | q
        · rw [q]; exact hzl
        · rw [q]; exact Heap.lt_size hTI
        · rw [q]; exact Heap.lt_size hTO
        · rw [q]; obtain ⟨_, e1, _⟩ := h1; exact Heap.lt_size e1
        · rw [q]; obtain ⟨_, e2, _⟩ := h2; exact Heap.lt_size e2
      rw [upd_ne (Nat.ne_of_lt hlt)]
      exact (hf c hcm).1
  done := by
    intro X hP hw hK hc i pins s σ H E I hf st hg
    subst hP hw hK
    obtain ⟨hz, hTI, ⟨x0, y0, hTO⟩, h1, h2⟩ := st
    obtain ⟨ys, hqy, l1, l2, hend⟩ := hg
    obtain ⟨its2, rv2, p2, _⟩ := I.tuple hqy
    have hl := rv2.length
    have hs : its2.toArray.size = ys.length := by rw [List.size_toArray]; omega
    exact wpAny_pyNext_zipD2_end S (Draws.text (prog := X.prog) (w := X.w) (A := X.A.in1) (I.ok.hd hc) i1 z t) (Draws.tuple (prog := X.prog) (w := X.w) (A := X.A.in1) (I.ok.hd hc) i2 a ha2 its2.toArray) hz hTI hTO h1 ⟨h2, p2⟩ l1 (by omega) (by omega) fun h' tk hk => ⟨rfl, I.turnedL (t' := tk) (ch := [zz, TI, TO, i1, i2]) (fun c o hb q =>
      hk c o (fun q' => hb (by simp [q'])) (fun q' => hb (by simp [q'])) (fun q' => hb (by simp [q'])) (fun q' => hb (by simp [q'])) q) hf⟩
  self := fun A i s Q E st h => wpAny_pyIter_zip st.1 h
end
def iZipS (K : PySem.W.Frag) (ta : TA) : TI := fun σ H R => ta σ H fun vs H1 => ∃ (z : Str) (a : Addr) (ys : List V), vs = [.str z, .ref a] ∧ SqT K H1 a ys ∧ R (ItzS K z a) H1
section
open PySem.Spec PyProof.Rows
theorem pi_zipS {X : Cx} {e e2 : Expr} {ta : TA} {p pos tpos : Pos} {elts : List Expr} {kk : Nat} (hg : Gl X "zip") (hm : X.mg "zip" = none) (ha : PA X [e, e2] ta)
    (hs : starEach [e, e2] X.env = (false, eval e X.env) :: starEach [e2] X.env := by rfl) (hpl : (backTo pos (starEach [e2] X.env)).any (·.1) = false := by rfl) :
    PI X (.Tuple elts kk tpos) (.Call (.Name "zip" p) [e, e2] [] pos) (iZipS X.K ta) := by
  refine ⟨fun pins s σ H R I h => ?_⟩
  refine Call_ (ld_blt I hg hm PyProof.Rows.boot_zip (PyProof.Rows.callWith_type1 (thn (ha.run pos pins s σ H _ I h) fun us s1 ⟨vs, H1, I1, r1, q1⟩ => ?_) hs hpl))
  obtain ⟨z, a, ys, ex, hqy, q⟩ := q1
  subst ex
  cases r1 with
  | cons r rr =>
    cases rr with
    | cons r' rr =>
      cases rr
      obtain ⟨t, rfl⟩ := r
      cases r'
      have fresh5 : ∀ c, c ∈ [s1.heap.objs.size + 4, s1.heap.objs.size + 2, s1.heap.objs.size + 3, s1.heap.objs.size, s1.heap.objs.size + 1] → FpOk X pins H1 c := fun c hcm => by
        have e' : c = s1.heap.objs.size + 4 ∨ c = s1.heap.objs.size + 2 ∨ c = s1.heap.objs.size + 3 ∨ c = s1.heap.objs.size ∨ c = s1.heap.objs.size + 1 := by simpa using hcm
        have hle : s1.heap.objs.size ≤ c := by
          rcases e' with z | z | z | z | z
          · rw [z]; exact Nat.le_add_right _ _
          · rw [z]; exact Nat.le_add_right _ _
          · rw [z]; exact Nat.le_add_right _ _
          · rw [z]; exact Nat.le_refl _
          · rw [z]; exact Nat.le_add_right _ _
        exact I1.fpOk hle (I1.hok.fresh hle)
      obtain ⟨its2, rv2, p2, _⟩ := I1.tuple hqy
      have hlt : a < s1.heap.objs.size := p2.lt
      refine zip_begins2 (begins_text z t) (begins_tuple a its2.toArray) trivial p2 fun h' hz hTI hTO h1 h2 hsz hk => wpAny_pyIter_zip hz ?_
      have I2 : Inv X pins σ H1 { s1 with heap := h' } := I1.kept (t' := s1.toks) hk
      exact ⟨s1.heap.objs.size + 4, [s1.heap.objs.size + 4, s1.heap.objs.size + 2, s1.heap.objs.size + 3, s1.heap.objs.size, s1.heap.objs.size + 1], _, _, H1, rfl, I2, turn_zipS (z := z) (t := t) (zs_apart s1.heap.objs.size a hlt) (Nat.ne_of_lt (Nat.lt_succ_of_lt hlt)), ⟨hz, hTI, ⟨_, _, hTO⟩, ⟨_, h1, rfl, rfl⟩, ⟨_, h2, rfl, rfl⟩⟩, fresh5, q⟩
end
theorem for_zipS {K : PySem.W.Frag} {z : Str} {a : Addr} {ys : List V} {j k : Nat} {tb : TS} {D : Ends} {σ : St} {H : Hp} (hz : ys.length ≤ z.cps.size) (Pv : Nat → St → Hp → Prop) (h0 : Pv 0 σ H) (hl : ∀ i σ H, i ≤ ys.length → Pv i σ H → SqT K H a ys)
    (hs : ∀ i c y σ H T, z.cps[i]? = some c → ys[i]? = some y → Pv i σ H → H T = none → tb { D with nx := Pv (i + 1), ct := Pv (i + 1), bk := D.nx } ((σ.set j (some (.str ⟨#[c]⟩))).set k (some y)) (upd H T (.tup [.str ⟨#[c]⟩, y]))) (hd : ∀ σ H, Pv ys.length σ H → D.nx σ H) :
    ∃ W : Nat → Nat → St → Hp → Prop, (∃ m, W 0 m σ H) ∧ ∀ i m σ H, W i m σ H →
      ((ItzS K z a).stop i H ∧ D.nx σ H) ∨ ((ItzS K z a).go i H ∧ ∃ N : St → Hp → Prop, (∀ σ' H', N σ' H' → ∃ m', m' < m ∧ W (i + 1) m' σ' H') ∧ ∀ x H', (ItzS K z a).yld i H x H' → gTup K 2 (gCons (gName j) (gCons (gName k) gNil)) x σ H' fun σ2 H2 => tb { D with nx := N, ct := N, bk := D.nx } σ2 H2) := by
  refine ⟨fun i m σ H => m = ys.length - i ∧ i ≤ ys.length ∧ Pv i σ H, ⟨ys.length, by simp, Nat.zero_le _, h0⟩, ?_⟩
  rintro i m σ H ⟨rfl, hi, p⟩
  have q := hl i σ H hi p
  by_cases hlt : i < ys.length
  · have hlz : i < z.cps.size := by omega
    refine .inr ⟨⟨ys, z.cps[i], ys[i], q, Array.getElem?_eq_getElem hlz, List.getElem?_eq_getElem hlt⟩, Pv (i + 1), fun σ' H' p' => ⟨ys.length - (i + 1), by omega, rfl, hlt, p'⟩, fun v H' y => ?_⟩
    obtain ⟨T, c, y, rfl, hT, rfl, hc, hy⟩ := y
    exact ⟨T, [.str ⟨#[c]⟩, y], rfl, SqT.of upd_same, rfl, _, _, rfl, _, _, rfl, rfl, hs i c y σ H T hc (hy ys q) p hT⟩
  · have e : i = ys.length := by omega
    subst e
    exact .inl ⟨⟨ys, q, hz, Nat.le_refl _, .inr rfl⟩, hd σ H p⟩
/-! ### methods and makers of a class -/
structure Mth (P : Program) (w : World) (K : PySem.W.Frag) (mg : Str → Option Value) (base : Heap) (k : Nat) (C : Addr) (m : Str) (ps : List Str) (sp : Sp) : Prop where
  ex : ∃ (f : Addr) (fd : FuncData), Cls K C ∧ Meth K C m f ∧ FnOk P w K mg base CX0 k f fd ps sp ∧ Binds K fd ps []
structure Mkr (P : Program) (w : World) (K : PySem.W.Frag) (mg : Str → Option Value) (base : Heap) (k : Nat) (x : Str) (C : Addr) (ps : List Str) (sp : Sp) : Prop where
  ex : ∃ (f : Addr) (fd : FuncData), Mk K C f ∧ FnOk P w K mg base CX0 k f fd ps sp ∧ mg x = some (.ref C) ∧ Binds K fd ps []
section
variable {X : Cx} {j k : Nat} {C : Addr} {m x : Str} {ps : List Str} {sp : Sp} {o e : Expr} {es : List Expr} {ta : TE} {t : TA} {apos pos p : Pos}
theorem pe_mth {pl : Sem Bool} (c : Mth X.prog X.w X.K X.mg X.base k C m ps sp) (hr : Room j X.A) (hk : k ≤ j) (he : PE X o ta) (ha : PA X (e :: es) t) (hst : starEach (e :: es) X.env = (false, eval e X.env) :: starEach es X.env := by rfl)
    (hpl : (backTo pos (starEach es X.env)).any (·.1) = false := by rfl) (ht : eval (.Call (.Attribute o m apos) (e :: es) [] pos) X.env = (do let ov ← eval o X.env; standAt apos.atName; let (f, first) ← holding [ov] (getMethod ov m pl); callWith pos f first (backTo pos (starEach (e :: es) X.env)) (backToKw pos (keywordEach [] X.env))) := by rfl) : PE X (.Call (.Attribute o m apos) (e :: es) [] pos) (tMeth C m sp [] E0 ta t) := by
  obtain ⟨f, fd, hc, hm, F, b⟩ := c.ex
  exact pe_meth he hc hm F (hr.mono hk) b .nil pass0 ha hst hpl ht
theorem pe_fldK {K : PySem.W.Frag} {f : Str} (h : X.K = K) (he : PE X e ta) (hb : attributeBase e f X.env (eval e X.env) = eval e X.env) : PE X (.Attribute e f pos) (tFld K ta f) := by subst h; exact pe_fld he hb
theorem pe_mkr (c : Mkr X.prog X.w X.K X.mg X.base k x C ps sp) (hr : Room j X.A) (hk : k + 1 ≤ j) (hg : Gl X x) (ha : PA X (e :: es) t) (hdb : (x == ("__debug__" : Str)) = false := by decide)
    (he : starEach (e :: es) X.env = (false, eval e X.env) :: starEach es X.env := by rfl) (hpl : (backTo pos (starEach es X.env)).any (·.1) = false := by rfl) : PE X (.Call (.Name x p) (e :: es) [] pos) (tMake C sp [] E0 t) := by
  obtain ⟨f, fd, M, F, hm, b⟩ := c.ex
  exact pe_make M F (hr.mono hk) hg hm b .nil pass0 ha hdb he hpl
end
section
open PySem.Spec PyProof.Rows RT
/-! ### reversed(text) -/
omit [Tb] in
theorem norev_str : typeLookup (.type "str") "__reversed__" = pure none := by rw [typeLookup_type, builtinLookup_eq_fast]; kernel_rfl
omit [Tb] in
theorem get_strT : typeLookup (.type "str") "__getitem__" = pure (some (.builtin "str.__getitem__")) := by rw [typeLookup_type, builtinLookup_eq_fast]; kernel_rfl
omit [Tb] in
theorem nolen_rt : typeLookup (.type "reversed") "__len__" = pure none := by rw [typeLookup_type, builtinLookup_eq_fast]; kernel_rfl
omit [Tb] in
theorem hint_rt : typeLookup (.type "reversed") "__length_hint__" = pure (some (.builtin "reversed.__length_hint__")) := by rw [typeLookup_type, builtinLookup_eq_fast]; kernel_rfl
def rsObj (z : Str) (t : Tok) (i : Int) : Obj := { cls := .type "reversed", data := .fields #[.str z t, rawInt i] }
def IsRs (h : Heap) (a : Addr) (z : Str) (t : Tok) (i : Int) : Prop := ∃ o, h.get? a = some o ∧ o.cls = .type "reversed" ∧ o.data = .fields #[.str z t, rawInt i]
omit [Tb] in
theorem IsRs.at {h h' : Heap} {a : Addr} {z : Str} {t : Tok} {i : Int} (x : IsRs h a z t i) (e : ∀ o, h.get? a = some o → h'.get? a = some o) : IsRs h' a z t i := let ⟨o, ho, r⟩ := x; ⟨o, e _ ho, r⟩
section
variable {prog : Program} {w : World} {A : Around} {E : Value → Shared → Prop} {s : Shared} {z : Str} {t : Tok}
omit [Tb] in
theorem IsRs.typeIs {a : Addr} {i : Int} (x : IsRs s.heap a z t i) : s.TypeIs (.ref a) "reversed" := let ⟨o, ho, hc, _⟩ := x; ⟨o, ho, hc⟩
omit [Tb] in
theorem code_reversed_str {Q₁ : Value → Shared → Prop} (hz : z.length < 2 ^ 63)
    (h : ∀ k, Q₁ (.ref s.heap.objs.size) { s with heap := s.heap.push (rsObj z t ((z.length : Int) - 1)), toks := k }) :
    codeAny (model prog w) A (.call (.builtin "reversed.__new__") ⟨[.type "reversed", .str z t], []⟩) (wants Q₁ E) s := by
  have hT : s.TypeIs (.str z t) "str" := typeIs_str _ _ _
  refine codeAny_of_tree ?_
  show wpAny _ A.in1 (do checkBuiltinCall "reversed.__new__" ⟨[.type "reversed", .str z t], []⟩; again (.builtin "reversed.__new__" ⟨[.type "reversed", .str z t], []⟩)) _ _ s
  refine wpAny_bind (wpAny_of_eq (F.newCall_reversed_1 _) (wpAny_pure ⟨plainId_quiet F.plain_reversed_new _, codeAny_builtin F.entry_reversed_new ?_⟩))
  rw [Around.under_plainId F.plain_reversed_new _]
  unfold Builtin.«reversed.__new__»
  refine wpAny_bind (wpAny_of_eq (newClass_reversed _) ?_)
  try dsimp only
  refine wpAny_bind (wpAny_of_eq (a := ()) (by first | rfl | kernel_rfl) ?_)
  try dsimp only
  refine wpAny_bind (wpAny_of_eq (a := ()) (by first | rfl | kernel_rfl) ?_)
  try dsimp only
  refine wpAny_bind (wpAny_specialOf hT norev_str ?_)
  try dsimp only
  refine wpAny_bind ?_
  wp_delta
  refine wpAny_bind (wpAny_isInstance (T := "str") (U := "dict") (b := false) hT PySem.F.sub_str_dict ?_)
  try dsimp only
  try rw [if_neg Bool.false_ne_true]
  try dsimp only
  refine wpAny_bind (wpAny_specialOf hT get_strT ?_)
  try dsimp only
  try rw [if_pos (by decide +kernel)]
  refine wpAny_pure ?_
  try dsimp only
  try rw [if_neg (by decide)]
  try dsimp only
  refine wpAny_bind (len_str (by omega) ?_)
  refine wpAny_bind (wpAny_of_eq (a := some ((z.length : Nat) : Int)) rfl ?_)
  try dsimp only
  refine wpAny_bind ?_
  show wpAny _ _ (newObj (.type "reversed") (.fields #[.str z t, rawInt ((z.length : Int) - 1)])) _ _ _
  refine wpAny_newObj_type ?_
  exact wpAny_pure (h _)
omit [Tb] in
theorem call_reversed_str {Q : Value → Shared → Prop} (hz : z.length < 2 ^ 63)
    (h : ∀ k, Q (.ref s.heap.objs.size) { s with heap := s.heap.push (rsObj z t ((z.length : Int) - 1)), toks := k }) : wpAny (model prog w) A (call (.type "reversed") [.str z t]) Q E s := by
  refine callType_codes (Q₁ := fun obj s₁ => s₁.TypeIs obj "reversed" ∧ Q obj s₁) called_rt (F.typeCall_reversed_1 _) F.entry_object_init
    (code_reversed_str (A := A.in1) hz fun k => ⟨⟨_, Heap.get?_push_size _ rfl, rfl⟩, h k⟩) fun obj s₁ h₁ => ?_
  exact ⟨h₁.1, F.args_object_init_2 obj _, object_init_meets called_rt.init.lookup called_rt.made (by decide) prog w A.in1 _ s₁ ⟨h₁.1, rfl, h₁.2⟩⟩
omit [Tb] in
theorem next_rs_item {it : Addr} {i c : Nat} {Q : Option Value → Shared → Prop} (hit : IsRs s.heap it z t (i : Int)) (hx : z.cps[i]? = some c) (hsz : z.length ≤ sizeLine)
    (hQ : ∀ h' k tk, IsRs h' it z t ((i : Int) - 1) → Heap.SameBut it s.heap h' → Q (some (.str ⟨#[c]⟩ tk)) { s with heap := h', toks := k }) : wpAny (model prog w) A (pyNext (.ref it)) Q E s := by
  obtain ⟨o, ho, hc, hd⟩ := id hit
  have hi : i < z.length := (Array.getElem?_eq_some_iff.mp hx).1
  have hT : s.TypeIs (.str z t) "str" := typeIs_str _ _ _
  rw [sizeLine_eq] at hsz
  unfold pyNext
  refine wpAny_bind (wpAny_attempt (wpAny_callSpecial?_slot (name := Str.ofString "__next__") hit.typeIs slot_rt_next
    (wpAny_call_entry slot_rt_next hit.typeIs entry_rt_next ?_ (args_rt_next _))))
  unfold Builtin.«reversed.__next__»
  refine wpAny_bind (wpAny_of_eq (a := (Value.ref it, [])) rfl ?_)
  try dsimp only
  refine wpAny_bind (wpAny_field ho hd (x := .str z t) rfl ?_)
  try dsimp only
  refine wpAny_bind (wpAny_field ho hd (x := rawInt (i : Int)) rfl ?_)
  show wpAny _ _ (if (i : Int) < 0 then _ else _) _ _ s
  rw [if_neg (by omega)]
  try dsimp only
  refine wpAny_bind (wpAny_specialOf hT get_strT ?_)
  try dsimp only
  try rw [if_neg (by decide)]
  try dsimp only
  refine wpAny_bind (wpAny_mkInt ?_)
  refine wpAny_bind (wpAny_attempt ?_)
  have fin : seqIndex? (i : Int) z.length = some i := seqIndex_of (by omega) (by omega)
  refine PyProof.Rows.getItem_str (s := { s with toks := s.toks + 1 }) (c := c) (by simp; omega) (by rw [fin]; exact hx) ?_
  try dsimp only
  refine wpAny_bind (wpAny_field (s := { s with toks := s.toks + 1 + 1 }) ho hd (x := rawInt (i : Int)) rfl ?_)
  try dsimp only
  refine wpAny_bind (wpAny_setField (s := { s with toks := s.toks + 1 + 1 }) ho hd (by simp) ?_)
  first
  | refine wpAny_pure ⟨_, rfl, wpAny_pure (hQ _ _ _ ?_ (Heap.SameBut.update ..))⟩
  | refine wpAny_bind (wpAny_pure (wpAny_pure ⟨_, rfl, wpAny_pure (hQ _ _ _ ?_ (Heap.SameBut.update ..))⟩))
  exact ⟨_, Heap.get?_update_self _ ho (Obj.isFreed_of_fields (Obj.data_mapFields hd _)), (Obj.cls_mapFields ..).trans hc, by
    rw [Obj.data_mapFields hd]; simp⟩
omit [Tb] in
theorem next_rs_end {it : Addr} {Q : Option Value → Shared → Prop} (hh : A.handled = none) (hit : IsRs s.heap it z t (-1))
    (hQ : ∀ h', Heap.ExtBut it s.heap h' → Q none { s with heap := h' }) : wpAny (model prog w) A (pyNext (.ref it)) Q E s := by
  obtain ⟨o, ho, hc, hd⟩ := id hit
  unfold pyNext
  refine wpAny_bind (wpAny_attempt (wpAny_callSpecial?_slot (name := Str.ofString "__next__") hit.typeIs slot_rt_next
    (wpAny_call_entry slot_rt_next hit.typeIs entry_rt_next ?_ (args_rt_next _))))
  unfold Builtin.«reversed.__next__»
  refine wpAny_bind (wpAny_of_eq (a := (Value.ref it, [])) rfl ?_)
  try dsimp only
  refine wpAny_bind (wpAny_field ho hd (x := .str z t) rfl ?_)
  try dsimp only
  refine wpAny_bind (wpAny_field ho hd (x := rawInt (-1)) rfl ?_)
  show wpAny _ _ (if (-1 : Int) < 0 then _ else _) _ _ s
  rw [if_pos (by decide)]
  try dsimp only
  refine wpAny_bind (wpAny_rule ?_)
  refine wpAny_bind ?_
  wp_delta
  refine wpAny_bind (wpAny_setField ho hd (by simp) ?_)
  have ho2 := Heap.get?_update_self (Obj.mapFields (·.setIfInBounds 1 (rawInt (-1)))) ho (Obj.isFreed_of_fields (Obj.data_mapFields hd _))
  refine wpAny_setField (s := { s with heap := s.heap.update it (Obj.mapFields (·.setIfInBounds 1 (rawInt (-1)))) }) ho2 (Obj.data_mapFields hd _) (by simp) ?_
  try dsimp only
  first
  | show wpAny _ _ (newExc (.type "StopIteration") [] >>= _) _ _ _
  | (refine wpAny_bind ?_; show wpAny _ _ (newExc (.type "StopIteration") [] >>= _) _ _ _)
  | (refine wpAny_bind ?_; wp_delta; show wpAny _ _ (newExc (.type "StopIteration") [] >>= _) _ _ _)
  refine wpAny_bind ?_
  simp only [newExc, newTuple]
  refine wpAny_bind (wpAny_newObj_type ?_ (by size_fits))
  refine wpAny_bind (m := firstArgMember _ _) (wpAny_of_eq (a := Value.none) (by first | rfl | (simp only [firstArgMember]; rfl)) ?_)
  refine wpAny_newObj_type ?_ (by size_fits)
  simp only [raiseNew]
  refine wpAny_bind (wpAny_handled ?_)
  first | rw [show A.in1.handled = none from hh] | rw [hh]
  refine wpAny_bind (wpAny_pure (wpAny_throw ?_))
  refine wpAny_bind (wpAny_isInstance (T := "StopIteration") (b := true) ⟨_, Heap.get?_push_size _ rfl, rfl⟩ isSubtype_stop ?_)
  refine wpAny_pure (hQ _ ?_)
  refine ((?_ : Heap.ExtBut it s.heap _).push _).push _
  exact fun b ob hb e => (Heap.get?_update_other _ _ (Ne.symm hb)).trans ((Heap.get?_update_other _ _ (Ne.symm hb)).trans e)
omit [Tb] in
theorem iter_rs {it : Addr} {i : Int} {Q : Value → Shared → Prop} (hit : IsRs s.heap it z t i) (h : Q (.ref it) s) : wpAny (model prog w) A (pyIter (.ref it)) Q E s := by
  refine wpAny_pyIter_slot hit.typeIs slot_rt_iter (wpAny_call_entry slot_rt_iter hit.typeIs entry_rt_iter ?_ (args_rt_iter _))
  show wpAny _ _ (ret (.ref it)) _ _ s
  exact wpAny_pure ⟨_, rfl, "reversed", _, hit.typeIs, slot_rt_next.lookup, h⟩
end
omit [Tb] in
theorem slot_rt_hint : Slot "reversed" "__length_hint__" "reversed.__length_hint__" :=
  .of (owner := "reversed") (n := "__length_hint__") (by rw [typeLookup_type, builtinLookup_eq_fast]; kernel_rfl) (by decide +kernel) (by decide +kernel) (by decide +kernel)
    (by first | exact .inl (by decide +kernel) | exact .inr (by decide +kernel)) (by rw [isSubtype_type]; kernel_rfl)
omit [Tb] in
theorem entry_rt_hint : entryFor table "reversed.__length_hint__" = some Builtin.«reversed.__length_hint__» := entryFor_of_tree (by kernel_rfl)
omit [Tb] in
theorem args_rt_hint (a : Value) : argsOk "reversed.__length_hint__" ⟨[a], []⟩ := by
  unfold argsOk; rw [signature?_of (id := "reversed.__length_hint__") (n := ['_', '_', 't', 'n', 'i', 'h', '_', 'h', 't', 'g', 'n', 'e', 'l', '_', '_']) (o := ['d', 'e', 's', 'r', 'e', 'v', 'e', 'r']) (by kernel_rfl) owner_rt]; kernel_rfl
omit [Tb] in
theorem walks_rs {prog : Program} {w : World} {A : Around} {z : Str} {t : Tok} (hh : A.handled = none) (I : Addr) (hsz : z.length ≤ sizeLine) :
    Walks prog w A I [I] [I] z.length (fun i v => ∃ c tk, z.cps[z.length - 1 - i]? = some c ∧ v = .str ⟨#[c]⟩ tk) (fun i h => i ≤ z.length ∧ IsRs h I z t ((z.length : Int) - 1 - (i : Int))) where
  sub := fun b hb => hb
  frame := fun _ _ _ x hk => ⟨x.1, x.2.at fun o e => hk I (by simp) o e⟩
  item := fun i s Q E hi x hQ => by
    have e : (z.length : Int) - 1 - (i : Int) = ((z.length - 1 - i : Nat) : Int) := by omega
    have hit := x.2
    rw [e] at hit
    have hl : z.length - 1 - i < z.cps.size := by show z.length - 1 - i < z.length; omega
    have hx : z.cps[z.length - 1 - i]? = some (z.cps[z.length - 1 - i]'hl) := Array.getElem?_eq_getElem hl
    refine next_rs_item hit hx hsz fun h' k tk hit' hs' => ?_
    have e2 : ((z.length - 1 - i : Nat) : Int) - 1 = (z.length : Int) - 1 - ((i + 1 : Nat) : Int) := by omega
    rw [e2] at hit'
    exact hQ _ h' k ⟨_, tk, hx, rfl⟩ ⟨hi, hit'⟩ fun b o hb eo => hs'.extBut b o (fun h => hb (by simp [h])) eo
  done := fun s Q E x hQ => by
    have e : (z.length : Int) - 1 - (z.length : Int) = -1 := by omega
    have hit := x.2
    rw [e] at hit
    exact next_rs_end hh hit fun h' he' => hQ h' s.toks fun b o hb eo => he' b o (fun h => hb (by simp [h])) eo
  self := fun _ _ _ _ x hQ => iter_rs x.2 hQ
section
variable {prog : Program} {w : World} {A : Around} {E : Value → Shared → Prop} {s : Shared} {z : Str} {t : Tok} {I : Addr}
omit [Tb] in
theorem hint_rs {Q : Bool → Shared → Prop} (hit : IsRs s.heap I z t ((z.length : Int) - 1)) (hz : z.length ≤ 1000000) (h : ∀ k, s.toks ≤ k → Q ((z.length : Int) != 0) { s with toks := k }) :
    wpAny (model prog w) A (Builtin.List.listLengthHint (.ref I)) Q E s := by
  have hT : s.TypeIs (.ref I) "reversed" := hit.typeIs
  obtain ⟨o, ho, hc, hd⟩ := id hit
  unfold Builtin.List.listLengthHint
  refine wpAny_bind (wpAny_specialOf hT nolen_rt ?_)
  show wpAny _ A (specialOf (Value.ref I) (Str.ofString "__length_hint__") >>= _) _ _ _
  refine wpAny_bind (wpAny_specialOf hT hint_rt ?_)
  generalize hid : ("reversed.__length_hint__" : String) = id0
  wp_delta
  rw [show splitId id0 = some ("reversed", "__length_hint__") from by subst hid; decide +kernel]
  subst hid
  refine wpAny_bind (wpAny_isInstance (b := true) hT (by rw [isSubtype_type]; kernel_rfl) ?_)
  rw [if_neg (by decide)]
  rw [if_neg (by decide +kernel)]
  refine wpAny_bind (wpAny_rule ?_)
  refine wpAny_bind (wpAny_of_eq (slot_rt_hint.bind (.ref I)) ?_)
  try dsimp only
  refine wpAny_bind (wpAny_attempt (wpAny_call_entry slot_rt_hint hT entry_rt_hint ?_ (args_rt_hint _)))
  unfold Builtin.«reversed.__length_hint__»
  refine wpAny_bind (wpAny_of_eq (a := Value.ref I) rfl ?_)
  try dsimp only
  refine wpAny_bind (wpAny_field ho hd (x := .str z t) rfl ?_)
  try dsimp only
  rw [show (Value.str z t == Value.none) = false from rfl, if_neg Bool.false_ne_true]
  refine wpAny_bind (len_str (by omega) ?_)
  refine wpAny_bind (wpAny_of_eq (a := some ((z.length : Nat) : Int)) rfl ?_)
  try dsimp only
  refine wpAny_bind (wpAny_field (s := { s with toks := s.toks + 1 + 1 }) ho hd (x := rawInt ((z.length : Int) - 1)) rfl ?_)
  show wpAny _ _ (if ((z.length : Nat) : Int) < ((z.length : Int) - 1) + 1 then _ else _) _ _ _
  rw [if_neg (by omega)]
  unfold retInt
  refine wpAny_bind (wpAny_mkInt ?_)
  refine wpAny_pure ⟨_, rfl, ?_⟩
  try dsimp only
  refine wpAny_bind (wpAny_of_eq (a := some ((z.length : Int) - 1 + 1)) rfl ?_)
  try dsimp only
  have e1 : (z.length : Int) - 1 + 1 = (z.length : Int) := by omega
  rw [e1]
  rw [if_neg (by unfold Builtin.List.listFitsIndex; simp; omega), if_neg (by omega), if_neg (by unfold Builtin.List.listTooLong; rw [sizeLine_eq]; simp; omega)]
  exact wpAny_pure (h _ (by omega))
omit [Tb] in
theorem collect_rs {Q : List Value → Shared → Prop} (hh : A.handled = none) (hit : IsRs s.heap I z t ((z.length : Int) - 1)) (hz : z.length ≤ 1000000)
    (hQ : ∀ (h' : Heap) (tk : Nat) (acc : Array Value), (∀ b o, b ≠ I → s.heap.get? b = some o → h'.get? b = some o) → ItemsOf (fun i v => ∃ c tk, z.cps[z.length - 1 - i]? = some c ∧ v = .str ⟨#[c]⟩ tk) acc z.length → Q acc.toList { s with heap := h', toks := tk }) :
    wpAny (model prog w) A (collect (.ref I)) Q E s := by
  have hsl : z.length ≤ sizeLine := by rw [sizeLine_eq]; omega
  have W := (walks_rs (prog := prog) (w := w) (A := A.in1) (z := z) (t := t) hh I hsl).toS
  obtain ⟨oi, hoi, _⟩ := id hit
  have hSI : s.heap.objs.size ≠ I := Nat.ne_of_gt (Heap.lt_size hoi)
  have hSf : s.heap.objs.size ∉ [I] := by simp only [List.mem_cons, List.not_mem_nil, or_false]; exact hSI
  unfold collect
  refine wpAny_bind (wpAny_runValue (codeAny_builtin F.entry_proto_collect ?_))
  rw [Around.under_plainId F.plain_proto_collect _]
  show wpAny _ A.in1 (newList [] >>= fun l' => again (.builtin "list.__iadd__" ⟨[l', .ref I], []⟩)) _ _ s
  refine wpAny_bind (wpAny_newObj_type ?_)
  refine wpAny_pure ⟨plainId_quiet F.plain_list_iadd _, codeAny_builtin F.entry_list_iadd ?_⟩
  rw [Around.under_plainId F.plain_list_iadd _]
  have hS₁ : (s.heap.push { cls := .type "list", data := .seq ([] : List Value).toArray }).get? s.heap.objs.size = some { cls := .type "list", data := .seq ([] : List Value).toArray } := Heap.get?_push_size _ rfl
  have hit1 : IsRs (s.heap.push { cls := .type "list", data := .seq ([] : List Value).toArray }) I z t ((z.length : Int) - 1) := hit.at fun o e => Heap.get?_push_of_some _ e
  have hT : ({ s with heap := s.heap.push { cls := .type "list", data := .seq ([] : List Value).toArray } } : Shared).TypeIs (.ref I) "reversed" := IsRs.typeIs (s := { s with heap := s.heap.push { cls := .type "list", data := .seq ([] : List Value).toArray } }) hit1
  have h1 : Builtin.List.listSameRef (.ref s.heap.objs.size) (.ref I) = false := by simp [Builtin.List.listSameRef, hSI]
  show wpAny _ A.in1 (Builtin.List.listExtendWith (.ref s.heap.objs.size) (.ref I) (.ref s.heap.objs.size)) _ _ _
  unfold Builtin.List.listExtendWith
  refine wpAny_bind (wpAny_typeOf hT ?_)
  rw [if_neg (by rw [h1]; decide)]
  refine wpAny_bind (iter_rs (s := { s with heap := s.heap.push { cls := .type "list", data := .seq ([] : List Value).toArray } }) hit1 ?_)
  refine wpAny_bind (wpAny_holding ?_)
  refine hint_rs (s := { s with heap := s.heap.push { cls := .type "list", data := .seq ([] : List Value).toArray } }) hit1 hz fun k hk => ?_
  have e0 : ((z.length : Nat) : Int) - 1 - ((0 : Nat) : Int) = (z.length : Int) - 1 := by omega
  by_cases c : z.length = 0
  · rw [show (((z.length : Nat) : Int) != 0) = false from by rw [c]; rfl]
    rw [if_neg (by decide +kernel)]
    refine wpAny_pure ⟨plainId_quiet F.plain_extend_loop _, codeAny_extend_loopS W hsl _ hSf _ z.length 0 _ _ _ rfl (Nat.zero_le _) ⟨Nat.zero_le _, by rw [e0]; exact hit1⟩ hS₁ (ItemsOf.nil _) fun s' acc' c' hm hS' hacc => ?_⟩
    show wpAny _ A (load s.heap.objs.size >>= _) _ _ s'
    refine wpAny_bind (wpAny_load hS' ?_)
    refine wpAny_pure ?_
    rw [Moved.eq_with hm]
    refine hQ s'.heap s'.toks acc' (fun b o hb e => hm.heap b o (fun hmem => ?_) (Heap.get?_push_of_some _ e)) hacc
    rcases List.mem_cons.mp hmem with e' | hmem
    · exact absurd (Heap.lt_size e) (by rw [e']; exact Nat.lt_irrefl _)
    · exact hb (List.mem_singleton.mp hmem)
  · rw [show (((z.length : Nat) : Int) != 0) = true from by rw [bne_iff_ne]; omega]
    rw [if_pos (by rfl)]
    refine wpAny_bind (wpAny_rule ?_)
    refine wpAny_bind ?_
    show wpAny _ A.in1 (updateSeq s.heap.objs.size (·.push .none) >>= fun _ => updateSeq s.heap.objs.size (·.pop)) _ _ _
    refine wpAny_bind (wpAny_updateSeq hS₁ rfl ?_)
    have hS₂ := Heap.get?_update_self (Obj.mapSeq (·.push Value.none)) hS₁ rfl
    refine wpAny_updateSeq hS₂ rfl ?_
    have hS₃ := Heap.get?_update_self (Obj.mapSeq (·.pop)) hS₂ rfl
    have oth : ∀ b o, b ≠ s.heap.objs.size → (s.heap.push { cls := .type "list", data := .seq ([] : List Value).toArray }).get? b = some o →
        (((s.heap.push { cls := .type "list", data := .seq ([] : List Value).toArray }).update s.heap.objs.size (Obj.mapSeq (·.push Value.none))).update s.heap.objs.size (Obj.mapSeq (·.pop))).get? b = some o :=
      fun b o hb e => (Heap.get?_update_other _ _ (Ne.symm hb)).trans ((Heap.get?_update_other _ _ (Ne.symm hb)).trans e)
    refine wpAny_pure ⟨plainId_quiet F.plain_extend_loop _, codeAny_extend_loopS W hsl _ hSf _ z.length 0 _ _ _ rfl (Nat.zero_le _) ⟨Nat.zero_le _, by rw [e0]; exact hit1.at fun o e => oth I o (Ne.symm hSI) e⟩ hS₃ (ItemsOf.nil _) fun s' acc' c' hm hS' hacc => ?_⟩
    show wpAny _ A (load s.heap.objs.size >>= _) _ _ s'
    refine wpAny_bind (wpAny_load hS' ?_)
    refine wpAny_pure ?_
    rw [Moved.eq_with hm]
    refine hQ s'.heap s'.toks acc' (fun b o hb e => ?_) hacc
    have hbS : b ≠ s.heap.objs.size := Nat.ne_of_lt (Heap.lt_size e)
    refine hm.heap b o (fun hmem => ?_) (oth b o hbS (Heap.get?_push_of_some _ e))
    rcases List.mem_cons.mp hmem with e' | hmem
    · exact hbS e'
    · exact hb (List.mem_singleton.mp hmem)
/-- the text read from its end -/
def revS (z : Str) : Str := ⟨z.cps.toList.reverse.toArray⟩
def oneS (z : Str) : List Str := z.cps.toList.reverse.map fun c => (⟨#[c]⟩ : Str)
omit [Tb] in
theorem strsAre_of : ∀ (vs : List Value) (ys : List Str), vs.length = ys.length → (∀ (i : Nat) (v : Value), vs[i]? = some v → ∃ (y : Str) (t : Tok), ys[i]? = some y ∧ v = Value.str y t) → StrsAre vs ys
  | [], [], _, _ => .nil
  | [], _ :: _, h, _ => absurd h (by simp)
  | _ :: _, [], h, _ => absurd h (by simp)
  | v :: vs, y :: ys, h, k => by
    obtain ⟨y', t, hy, rfl⟩ := k 0 v rfl
    obtain rfl : y = y' := Option.some.inj hy
    exact .cons y t (strsAre_of vs ys (by simpa using h) fun i v' hv => k (i + 1) v' (by simpa using hv))
omit [Tb] in
theorem sum_ones (l : List Nat) : ((l.map fun c => (⟨#[c]⟩ : Str)).map (·.length)).sum = l.length := by
  induction l with
  | nil => rfl
  | cons c l ih => rw [List.map_cons, List.map_cons, List.sum_cons, ih]; show 1 + l.length = l.length + 1; omega
omit [Tb] in
theorem join_rs {x : Str} {tx : Tok} {Q : Value → Shared → Prop} (hh : A.handled = none) (hit : IsRs s.heap I z t ((z.length : Int) - 1)) (hz : z.length ≤ 1000000) (hx : x.length = 0)
    (hq : ∀ h' t' k, (∀ b o, b ≠ I → s.heap.get? b = some o → h'.get? b = some o) → Q (.str (Txt.join x (oneS z)) t') { s with heap := h', toks := k }) :
    wpAny (model prog w) A (call (.builtin "str.join") [.str x tx, .ref I]) Q E s := by
  refine wpAny_call (codeAny_call_builtin F.slot_str_join.plain F.entry_str_join (F.slot_str_join.check _ _ _ _ _ _ _ _ (typeIs_str _ _ _) (F.args_str_join_2 _ _) ?_))
  rw [join_tree_other]
  refine wpAny_bind (wpAny_typeOf hit.typeIs ?_)
  show wpAny _ A.in1 ((pyIter (.ref I)).tryCatch _ >>= fun it => collect it >>= fun items => joinTail x items) _ _ s
  refine wpAny_bind (wpAny_tryCatch (iter_rs hit ?_))
  refine wpAny_bind (collect_rs (A := A.in1) hh hit hz fun h' tk acc hk hacc => ?_)
  have hsz : z.cps.toList.length = z.length := by rw [Array.length_toList]; rfl
  have hP : StrsAre acc.toList (oneS z) := by
    refine strsAre_of _ _ ?_ fun i v hv => ?_
    · rw [Array.length_toList, hacc.1]; unfold oneS; rw [List.length_map, List.length_reverse, hsz]
    · have hv' : acc[i]? = some v := by rw [← Array.getElem?_toList]; exact hv
      have hi : i < z.length := by
        have := (Array.getElem?_eq_some_iff.mp hv').1
        rw [hacc.1] at this; exact this
      obtain ⟨c, tk', hc, rfl⟩ := hacc.2 i v hv'
      refine ⟨⟨#[c]⟩, tk', ?_, rfl⟩
      unfold oneS
      rw [List.getElem?_map, List.getElem?_reverse (by rw [hsz]; exact hi), hsz, Array.getElem?_toList, hc]; rfl
  obtain ⟨l, hl, ht⟩ := strsAre_values hP
  rw [hl]
  have hok' : JoinOk x (l.map (·.1)) = true := joinOk_of (by
    rw [ht, hx, Nat.mul_zero, Nat.add_zero]
    unfold oneS
    rw [sum_ones, List.length_reverse, hsz]; omega)
  unfold JoinOk at hok'
  rw [Bool.not_eq_true'] at hok'
  have g : Gives (joinTail x (strValues l)) (joinMade x l) := by
    have g0 := gives_joinTail x l hok'
    cases l with
    | nil => exact g0
    | cons p r => cases r with
      | nil => exact g0
      | cons q r' => exact g0
  refine g prog w A (wants Q E) _ (post_join l ⟨joinFit_length hok', fun t' k => ?_⟩)
  rw [ht]
  exact hq h' t' k hk
end
section
variable {X : Cx}
def tJoinRev (to te : TE) : TE := fun σ H Q => to σ H fun x H1 => (∃ a, x = .str a) ∧ te σ H1 fun y H2 => ∃ a z : Str, x = .str a ∧ a.length = 0 ∧ y = .str z ∧ z.length ≤ 1000000 ∧ Q (.str (Txt.join a (oneS z))) H2
theorem pe_joinRev {o e : Expr} {to te : TE} {apos pos p pos2 : Pos} (hc : X.calm = true) (ho : PE X o to) (hg : Gl X "reversed") (hm : X.mg "reversed" = none) (he : PE X e te)
    (hs1 : starEach [.Call (.Name "reversed" p) [e] [] pos2] X.env = [(false, eval (.Call (.Name "reversed" p) [e] [] pos2) X.env)] := by rfl)
    (hs : starEach [e] X.env = (false, eval e X.env) :: starEach [] X.env := by rfl)
    (hbase : attributeBase o "join" X.env (eval o X.env) = eval o X.env := by rfl) (hline : (apos.endLine == pos.line) = true := by rfl) :
    PE X (.Call (.Attribute o "join" apos) [.Call (.Name "reversed" p) [e] [] pos2] [] pos) (tJoinRev to te) := by
  refine ⟨fun pins s σ H Q I h => ?_⟩
  refine PySem.Call_method1 hbase hs1 hline (thn (ho.run pins s σ H _ I h) fun v s1 ⟨x, H1, I1, r1, q1⟩ => ?_)
  obtain ⟨⟨a, rfl⟩, q1⟩ := q1
  obtain ⟨t, rfl⟩ := _root_.id r1
  refine ⟨"str", _, F.plainAttrs_str, F.slot_str_join, F.type_str_join, typeIs_str _ _ _, (fun _ e => nomatch e), Calls.callWith_builtin rfl (Calls.evalArgs_plain (Calls.spliced_cons ?_))⟩
  refine Call_ (ld_blt I1 hg hm PyProof.Rows.boot_reversed (PyProof.Rows.callWith_type1 (args_cons (thn (he.run pins s1 σ H1 _ I1 q1) fun u s2 ⟨y, H2, I2, r2, q2⟩ => args_nil ?_) hs) hs rfl))
  obtain ⟨a', z, ea, ha0, rfl, hz, q⟩ := q2
  cases ea
  obtain ⟨t2, rfl⟩ := r2
  refine call_reversed_str (by omega) fun k => Calls.spliced_nil ?_
  refine join_rs (s := { s2 with heap := s2.heap.push (rsObj z t2 ((z.length : Int) - 1)), toks := k }) (I2.ok.hd hc) ⟨_, Heap.get?_push_size _ rfl, rfl, rfl⟩ hz ha0 fun h' t' k' hk => ?_
  exact ⟨.str _, H2, I2.kept (t' := k') (fun b o e => hk b o (Nat.ne_of_lt (Heap.lt_size e)) (Heap.get?_push_of_some _ e)), ⟨t', rfl⟩, q⟩
end
end
/-! ### a def that hands back a lambda: its cells stand still from then on -/
theorem fn_lam {P : Program} {w : World} {K : PySem.W.Frag} {mg : Str → Option Value} {base : Heap} {x qual q : Str} {st : Stmt} {f c Pt : Addr} {fd : FuncData} {N ps : List Str} {sp : Sp} {params : Arguments} {body : Expr} {scope : Scope} {pos rpos : Pos}
    (F : Fun K x qual st f fd) (S : FnScope N ps (defScope st)) (hbd : defBody st = [.Return (some (.Lambda params body scope pos)) rpos]) (TB : LamX.TabB base mg c Pt) (hc : fd.code = .ref c)
    (hq : qual ++ ".<locals>." ++ "<lambda>" = q) (hT : (Pt, q) ∈ Tb.T) (hU : ∀ p ∈ Tb.T, p.1 = Pt → p.2 = q) (hdef : ∀ env, defaultsOf params env = ([], [])) (hfree : lamFreeB (defScope st) scope = true) (nsl : List (Str × Nat)) (hB : nslB N (defScope st) nsl = true)
    (len : ∀ vs H Q E, sp vs H Q E → vs.length = ps.length)
    (hsp : ∀ vs H Q E, sp vs H Q E → LamX.Tabs Tb.T H ∧ ∀ (f1 c1 : Addr) (pm ct : Value) (H1 : Hp) (cells : List (Str × Addr)) (Fc : Fz), Sm H H1 → H f1 = none → H1 f1 = some (frzO (lamO q params body scope cells pm c1 ct)) → H1 c1 = some (LamX.CodeO c1 q) → CapsF Fc cells (capsOf (L2.start N vs) nsl) → Free Fc H1 → Q (.ref f1) (icy Fc H1)) :
    FnOk P w K mg base CX0 1 f fd ps sp := by
  obtain ⟨oc, od, kV, doc, pm0, an, cdv, ct0, osl, rfl, lk, hcd⟩ := F.ex
  have hc : cdv = .ref c := hc
  refine ⟨len, fun A outer s H args us vs Q E hr e0 hb r z => ?_⟩
  obtain ⟨tb, z⟩ := hsp vs H Q E z |> fun y => y
  have hl := len _ _ _ _ ‹sp vs H Q E›
  have bk : ∀ b o, base.get? b = some o → s.heap.get? b = some o := fun b o e => (e0.bs b o e).1
  have KX : K.In s.heap := e0.mod.kin.keeps bk
  have kinds : ∀ y ∈ ps.zip us, (defScope st).names.lookup y.1 = some .local ∨ ((defScope st).names.lookup y.1 = some .cell ∧ ((cellsFrom (s.heap.objs.size + 1) (defScope st).names []).lookup y.1).isSome = true) := fun ⟨n, v⟩ hy =>
    (S.par n (List.of_mem_zip hy).1).elim .inl fun y => .inr ⟨y, PySem.W.cellsFrom_some _ _ _ (.inl y)⟩
  refine codeAny_call_function hr.depth (KX _ _ lk) rfl S.co S.gen rfl (PySem.W.codeRec_of KX hcd) (hb _ _ _ _ ?_)
  refine wpAny_newFunctionEnv_cells S.kind kinds fun env he s1 inC => ?_
  subst he
  refine ⟨(e0.mod.nolimit.keeps bk).keeps inC.toInCall.keep, codeAny_func ?_⟩
  have I : Inv (cxOf CX0 P w K mg base N qual (defScope st) f cdv A outer s H E) [] (L2.start N vs) H s1 := inv_start S hr.hd e0 hl r inC
  show wpAny _ _ (execs (defBody st) _) _ _ _
  rw [hbd]
  refine wpAny_execs_cons (wpAny_Return_some (lam_mk I TB hc hq hT hU tb (hdef _) (fun y hy e => I.ok.has _ (.inl (lamFree_by hfree y hy e))) fun f1 c1 pm ct H1 s2 I1 sm fn co => ?_))
  obtain ⟨cf, fr, at_⟩ := Inv.caps I1 nsl (nsl_by hB) (fun _ _ => rfl)
  have un : Un (frs outer) [] H _ s.heap s2.heap := I1.base
  have nof : ∀ b o, s.heap.get? b = some o → (cellsNow (cxOf CX0 P w K mg base N qual (defScope st) f cdv A outer s H E).env.cells s2.heap nsl).lookup b = none := fun b o e => by
    cases q : (cellsNow (cxOf CX0 P w K mg base N qual (defScope st) f cdv A outer s H E).env.cells s2.heap nsl).lookup b with
    | none => rfl
    | some u => exact absurd (Nat.lt_of_lt_of_le (Heap.lt_size e) (at_ b u q).2.2.2) (Nat.lt_irrefl _)
  refine ⟨.ref f1, icy _ _, I1.os, I1.bare, ⟨fun b o e n h1 h2 => un.keep b o e n h1 h2, fun b o e n h1 h2 => un.slot b o e n h1 h2, fun b o e n h1 => by rw [icy_out (nof b o e)]; exact un.free b o e n h1, fun b o e h1 => un.there b o e h1, fun b xs e => icy_keep fr (un.tups b xs e), fun b ob t e => icy_keep fr (un.frzs b ob t e), fun b qs e => ?_⟩,
    hok_icy I1.hok fr (fun b o e => (at_ b o e).1), rfl, z f1 c1 pm ct _ _ _ (sm.trans (same_new fn)) (sm.free fn) upd_same ((same_new fn).keep _ _ co rfl) cf fr⟩
  obtain ⟨more, y⟩ := un.tbls b qs e
  exact ⟨more, icy_keep fr y⟩
/-! ### the end of a law over makers of lambdas -/
theorem tab_uniq {T : List (Addr × Str)} {P : Addr} {q : Str} (nd : (T.map (·.1)).Nodup) (hm : (P, q) ∈ T) : ∀ p ∈ T, p.1 = P → p.2 = q := by
  induction T with
  | nil => simp at hm
  | cons a T ih =>
    rw [List.map_cons, List.nodup_cons] at nd
    intro p hp e
    rcases List.mem_cons.mp hm with z | z <;> rcases List.mem_cons.mp hp with y | y
    · rw [y, ← z]
    · exact absurd (List.mem_map.mpr ⟨p, y, by rw [e, ← z]⟩) nd.1
    · exact absurd (List.mem_map.mpr ⟨_, z, by rw [← e, y]⟩) nd.1
    · exact ih nd.2 z p y e
theorem tabIn_of {K : PySem.W.Frag} {x : Str} {f c P : Addr} {o1 o2 : Value} {d1 d2 : Option Addr} {s1 s2 : Array (Option Value)} {fd : FuncData} {vs : Array Value} (h1 : PySem.W.nsIn K mainGlobals x = some (some (.ref f))) (h2 : K.lookup f = some ⟨o1, d1, .func fd, s1⟩) (h3 : fd.code = .ref c)
    (h4 : K.lookup c = some ⟨o2, d2, .fields vs, s2⟩) (h5 : vs[11]? = some (.ref P)) : PySem.W.tabIn K x = some (c, P) := by
  unfold PySem.W.tabIn
  simp only [h1, h2, h3, h4, h5]
/-- the tables as the top has left them -/
def TopTabs (q : Program) (K : PySem.W.Frag) (h : Heap) : Prop := ∀ (y : Str) (c P : Addr), ((PyProof.Rows.recsOf q).any fun e => e.name == y) = true → PySem.W.tabIn K y = some (c, P) → PySem.W.CodeHd h c P ∧ h.get? P = some { cls := .none, data := .fields #[] }
omit [Tb] in
theorem walk_T {l : PySem.W.OpenLaw} {n k : Nat} {q : Program} {loose : List Str} {XP : (Str → Option Value) → Heap → Prop} {YP : World → Heap → Prop} {d : DefRec} {K : Params → PySem.W.Frag} {CX : World → CXT} {x : Str}
    (hn : l.most = some n) (hn2 : n ≤ sizeLine) (hdf : d.params.defaults = []) (hr : Room k callerA) (hY : ∀ (w : World) (h : Heap), YP w h → (K w.params).In h)
    (F : ∀ (w : World) (mg : Str → Option Value) (fa : Addr) (h : Heap), (K w.params).In h → h.Ns mainGlobals mg → mg d.name = some (.ref fa) → TopTabs q (K w.params) h → LamX.LawAtS l w (K w.params) (CX w) k n x mg fa h)
    (no : ∀ (w : World) (H : Hp) (s : Shared) (e : Value) (s' : Shared), CX w [] H s (fun _ _ _ => False) e s' → False) : PySem.W.WalkO q loose XP YP l.row.toRowW d [] (fun f vs => PySem.call f vs) := by
  refine Att.attach_callB hn hdf fun w s0 s1 mg mb fa o pm cd doc a vs ns G Y _ _ _ hm hobj hi hl hb hg => ?_
  have X := hY w _ Y
  obtain ⟨fd, cs, sp, t1, t2, t3, t4, t5, t6⟩ := F w mg fa _ X G.T.g hm fun y c P hy e => by
    obtain ⟨d2, z⟩ := Option.isSome_iff_exists.mp (List.find?_isSome.mpr (List.any_eq_true.mp hy))
    exact PySem.W.tab_of G.T X z e
  exact LamX.law_callTs X G.T.g G.T.b G.T.builtins G.T.nolimit hg t1 t2 t3 G.T.bmain hobj hi (Nat.le_trans hl hn2) hr t6 t4 (fun H z z2 => t5 H a ns hl hb z z2) fun H e s' => no w H s1 e s'
def top (i : Nat) : Stmt := PySem.Challenge.pw_whistlehall_k18_whole_patterns_of_halls.main.body.getD i (.Pass ⟨0, 0, 0, 0⟩)
abbrev s_is_within : Stmt := top 6
abbrev s_letters : Stmt := top 7
abbrev s_look_tune : Stmt := top 8
abbrev s_sorts : Stmt := top 9
abbrev s_tight : Stmt := top 10
abbrev s_built : Stmt := top 11
abbrev s_joints : Stmt := top 16
abbrev s_look_pattern : Stmt := top 17
abbrev s_behind_each : Stmt := top 18
abbrev s_both_lists : Stmt := top 19
abbrev s_Places_x_initx : Stmt := inClass (top 20) 0
abbrev s_Places_single : Stmt := inClass (top 20) 1
abbrev s_Places_follow : Stmt := inClass (top 20) 2
abbrev s_Places_starred : Stmt := inClass (top 20) 3
abbrev s_Places_put : Stmt := inClass (top 20) 4
abbrev s_Places_step : Stmt := inClass (top 20) 5
abbrev s_Places_is_end : Stmt := inClass (top 20) 6
abbrev s_matches : Stmt := top 21
abbrev s_hall_of : Stmt := top 22
abbrev s_one_of : Stmt := top 23
abbrev s_then : Stmt := top 24
abbrev s_any_of : Stmt := top 25
abbrev s_straight : Stmt := top 26
abbrev s_without : Stmt := top 27
abbrev s_pattern_of : Stmt := top 28
abbrev s_l_cell : Stmt := top 30
abbrev s_l_mix : Stmt := top 31
abbrev s_l_large : Stmt := top 32
abbrev s_l_hall : Stmt := top 33
abbrev s_l_room : Stmt := top 34
abbrev s_l_good : Stmt := top 35
abbrev s_l_apart : Stmt := top 36
abbrev s_l_tight : Stmt := top 37
abbrev s_l_tune : Stmt := top 38
abbrev s_l_ring : Stmt := top 39
abbrev s_l_three : Stmt := top 40
abbrev s_l_told : Stmt := top 41
abbrev s_l_once : Stmt := top 42
abbrev s_law : Stmt := top 43
/-! ### the law's cells -/
def mix (c : Int) (p m : Nat) : Nat := (c * 48271 % (p : Int) % (m : Int)).toNat
theorem mix_int (c : Int) (p : Nat) {m : Nat} (h : 0 < m) : ((mix c p m : Nat) : Int) = c * 48271 % (p : Int) % (m : Int) := by
  unfold mix
  exact Int.toNat_of_nonneg (Int.emod_nonneg _ (by omega))
theorem mix_lt (c : Int) (p : Nat) {m : Nat} (h : 0 < m) : mix c p m < m := by
  have h1 := mix_int c p h
  have h2 := Int.emod_lt_of_pos (c * 48271 % (p : Int)) (show (0 : Int) < (m : Int) by omega)
  omega
def spCell (K : PySem.W.Frag) : Sp := fun vs H Q _ => ∃ (a : Addr) (ns : List Int) (k : Nat), vs = [.ref a, nV k] ∧ SqL K H a (ns.map V.int) ∧ Q (.int (ns.getD k 0)) H
def spMix : Sp := fun vs H Q _ => ∃ (c : Int) (p m : Nat), vs = [.int c, nV p, nV m] ∧ 0 < p ∧ 0 < m ∧ Q (nV (mix c p m)) H
section
variable {P : Program} {w : World} {K : PySem.W.Frag} {mg : Str → Option Value} {base : Heap}
theorem sc_l_cell : FnScope ["script", "k"] ["script", "k"] (defScope s_l_cell) := ⟨rfl, rfl, rfl, by decide +kernel, rfl, by decide +kernel, by decide +kernel⟩
theorem ok_l_cell {f : Addr} {fd : FuncData} (F : Fun K "_law_cell" "_law_cell" s_l_cell f fd) (len : mg "len" = none) : FnOk P w K mg base CX0 1 f fd ["script", "k"] (spCell K) := by
  refine F.ok sc_l_cell (fun vs H Q E h => ?_) (fun cdv A outer s H vs Q E hr h => ?_)
  · obtain ⟨a, ns, k, rfl, _⟩ := h
    rfl
  · obtain ⟨a, ns, k, rfl, hS, q⟩ := h
    refine ⟨_, pss_cons (ps_if (pt_cmpR op_lt (pv 1) (pe_callB call_len_seq (by rfl) len PySem.boot_len (pa_cons (pv 0) pa_nil)) (nomark _)) (pss_one (ps_ret (pe_ix ix_list (pv 0) (pv 1) (fun _ _ => rfl)))) pss_nil) (pss_one (ps_ret pe_int)), ?_⟩
    refine ⟨_, rfl, _, rfl, a, _, rfl, .inl hS, _, _, rfl, rfl, _, rfl, ?_⟩
    rw [List.length_map]
    refine ite2 (fun c => ?_) (fun c => ?_)
    · have c : k < ns.length := by simpa using c
      refine ⟨_, rfl, _, rfl, a, _, _, _, rfl, rfl, hS, atI_nat (by rw [List.getElem?_map, List.getElem?_eq_getElem c]; rfl), ?_⟩
      have e : ns.getD k 0 = ns[k] := by simp [List.getD, List.getElem?_eq_getElem c]
      rw [← e]; exact q
    · have c : ¬ k < ns.length := by simpa using c
      have e : ns.getD k 0 = 0 := by simp [List.getD, List.getElem?_eq_none (Nat.le_of_not_lt c)]
      rw [e] at q
      exact q
theorem sc_l_mix : FnScope ["cell", "prime", "many"] ["cell", "prime", "many"] (defScope s_l_mix) := ⟨rfl, rfl, rfl, by decide +kernel, rfl, by decide +kernel, by decide +kernel⟩
theorem ok_l_mix {f : Addr} {fd : FuncData} (F : Fun K "_law_mix" "_law_mix" s_l_mix f fd) : FnOk P w K mg base CX0 1 f fd ["cell", "prime", "many"] spMix := by
  refine F.ok sc_l_mix (fun vs H Q E h => ?_) (fun cdv A outer s H vs Q E hr h => ?_)
  · obtain ⟨a, ns, k, rfl, _⟩ := h
    rfl
  · obtain ⟨c, p, m, rfl, hp, hm, q⟩ := h
    refine ⟨_, pss_one (ps_ret (pe_op op_mod (pe_op op_mod (pe_op op_mul (pv 0) pe_int) (pv 1)) (pv 2))), ?_⟩
    refine ⟨_, rfl, _, _, rfl, rfl, .inr ⟨by decide, by decide⟩, _, rfl, _, _, rfl, rfl, (by show (0 : Int) < _; omega), _, rfl, _, _, rfl, rfl, (by show (0 : Int) < _; omega), ?_⟩
    show Q (.int (c * 48271 % (p : Int) % (m : Int))) H
    rw [← mix_int c p hm]
    exact q
end

/-! ### halls -/
def roomD (r : List Nat) : PyData := .tuple (r.map nD)
def Hall.d (h : Hall) : PyData := .tuple [nD h.w, .tuple (h.rooms.map roomD), .tuple (h.lights.map nD)]
def large (ns : List Int) : Bool := decide (mix (ns.getD 0 0 + 7 * ns.length) 9871 8 = 3)
def hMost (ns : List Int) : Nat := if 63 < ns.length then 9 else if large ns = true then 9 else 5
def hW (ns : List Int) (t : Nat) : Nat := [2, 2, 1, 3].getD (mix (ns.getD t 0) 9973 4) 0
def hMany (ns : List Int) (t : Nat) : Nat := 1 + mix (ns.getD t 0) 9967 (hMost ns)
def hRoom (ns : List Int) (t many w k : Nat) : List Nat := (List.range w).map fun (v : Nat) => mix (ns.getD (t + 1 + k % 7) 0 + 29 * (k : Int) * k + 211 * (v : Int) * v) 9949 many
def hLight (ns : List Int) (t k : Nat) : Nat := mix (ns.getD (t + 2 + k % 7) 0 + 37 * (k : Int) * k) 9941 2
def lawHall (ns : List Int) (t : Nat) : Hall := ⟨hW ns t, (List.range (hMany ns t)).map (hRoom ns t (hMany ns t) (hW ns t)), (List.range (hMany ns t)).map (hLight ns t)⟩
theorem hMost_pos (ns : List Int) : 0 < hMost ns := by unfold hMost; split; decide; split <;> decide
theorem hMost_le (ns : List Int) : hMost ns ≤ 9 := by unfold hMost; split; decide; split <;> decide
theorem hMany_pos (ns : List Int) (t : Nat) : 0 < hMany ns t := by unfold hMany; omega
theorem hMany_le (ns : List Int) (t : Nat) : hMany ns t ≤ 9 := by
  have h1 := mix_lt (ns.getD t 0) 9967 (hMost_pos ns)
  have h2 := hMost_le ns
  unfold hMany; omega
theorem hW_get (ns : List Int) (t : Nat) : ([2, 2, 1, 3] : List Nat)[mix (ns.getD t 0) 9973 4]? = some (hW ns t) := by
  have h1 := mix_lt (ns.getD t 0) 9973 (show 0 < 4 by decide)
  unfold hW
  generalize mix (ns.getD t 0) 9973 4 = m at h1
  match m, h1 with
  | 0, _ => rfl
  | 1, _ => rfl
  | 2, _ => rfl
  | 3, _ => rfl
theorem hW_cases (ns : List Int) (t : Nat) : hW ns t = 1 ∨ hW ns t = 2 ∨ hW ns t = 3 := by
  have h := List.mem_of_getElem? (hW_get ns t)
  simp at h
  omega
def spLarge (K : PySem.W.Frag) : Sp := fun vs H Q _ => ∃ (a : Addr) (ns : List Int), vs = [.ref a] ∧ SqL K H a (ns.map V.int) ∧ Q (.bl (large ns)) H
/-- a hall is handed back -/
def spLhall (K : PySem.W.Frag) : Sp := fun vs H Q _ => ∃ (a : Addr) (ns : List Int) (t : Nat), vs = [.ref a, nV t] ∧ SqL K H a (ns.map V.int) ∧ ∀ v H', Sm H H' → Im H' [] (lawHall ns t).d v → Q v H'
section
variable {P : Program} {w : World} {K : PySem.W.Frag} {mg : Str → Option Value} {base : Heap}
theorem sc_l_large : FnScope ["script"] ["script"] (defScope s_l_large) := ⟨rfl, rfl, rfl, by decide +kernel, rfl, by decide +kernel, by decide +kernel⟩
theorem ok_l_large {f : Addr} {fd : FuncData} (F : Fun K "_law_large" "_law_large" s_l_large f fd) (len : mg "len" = none)
    (C1 : Cal P w K mg base CX0 1 "_law_cell" ["script", "k"] (spCell K)) (C2 : Cal P w K mg base CX0 1 "_law_mix" ["cell", "prime", "many"] spMix) :
    FnOk P w K mg base CX0 2 f fd ["script"] (spLarge K) := by
  refine F.ok sc_l_large (fun vs H Q E h => ?_) (fun cdv A outer s H vs Q E hr h => ?_)
  · obtain ⟨a, ns, rfl, _⟩ := h
    rfl
  · obtain ⟨a, ns, rfl, hS, q⟩ := h
    refine ⟨_, pss_one (ps_ret (pe_cmpR op_eq (pe_fn C2 hr (by decide) rfl (pa_cons (pe_op op_add (pe_fn C1 hr (by decide) rfl (pa_cons (pv 0) (pa_cons pe_int pa_nil))) (pe_op op_mul pe_int (pe_callB call_len_seq (by rfl) len PySem.boot_len (pa_cons (pv 0) pa_nil)))) (pa_cons pe_int (pa_cons pe_int pa_nil)))) pe_int (nomark _))), ?_⟩
    refine ⟨_, rfl, a, ns, 0, rfl, hS, _, rfl, a, _, rfl, .inl hS, _, _, rfl, rfl, .inl ⟨by decide, by decide⟩, _, _, rfl, rfl, _, 9871, 8, rfl, by decide, by decide, rfl, ?_⟩
    have e := dec_nV (mix (ns.getD 0 0 + 7 * ((ns.map V.int).length : Int)) 9871 8) 3
    show Q (.bl (decide (nV (mix (ns.getD 0 0 + 7 * ((ns.map V.int).length : Int)) 9871 8) = nV 3))) H
    rw [e, List.length_map]
    exact q
theorem sc_l_hall : FnScope ["script", "at", "most", "cell", "whistles", "many", "rooms", "k", "seed", "lights", "w"] ["script", "at"] (defScope s_l_hall) := ⟨rfl, rfl, rfl, by decide +kernel, rfl, by decide +kernel, by decide +kernel⟩
theorem ok_l_hall {f : Addr} {fd : FuncData} (F : Fun K "_law_hall" "_law_hall" s_l_hall f fd) (len : mg "len" = none) (range : mg "range" = none) (tuple : mg "tuple" = none)
    (C1 : Cal P w K mg base CX0 1 "_law_cell" ["script", "k"] (spCell K)) (C2 : Cal P w K mg base CX0 1 "_law_mix" ["cell", "prime", "many"] spMix) (C3 : Cal P w K mg base CX0 2 "_law_large" ["script"] (spLarge K)) :
    FnOk P w K mg base CX0 3 f fd ["script", "at"] (spLhall K) := by
  refine F.ok sc_l_hall (fun vs H Q E h => ?_) (fun cdv A outer s H vs Q E hr h => ?_)
  · obtain ⟨a, ns, t, rfl, _⟩ := h
    rfl
  · obtain ⟨a, ns, t, rfl, hS, q⟩ := h
    refine ⟨_, pss_cons (ps_set (i := 2) sc_l_hall.nd rfl (Or.inl rfl) pe_int)
      (pss_join (ps_if (pt_val (pe_fn C3 hr (by decide) rfl (pa_cons (pv 0) pa_nil))) (pss_one (ps_set (i := 2) sc_l_hall.nd rfl (Or.inl rfl) pe_int)) pss_nil)
      (pss_join (ps_if (pt_cmpR oN_gt (pe_callB call_len_seq (by rfl) len PySem.boot_len (pa_cons (pv 0) pa_nil)) pe_int (nomark _)) (pss_one (ps_set (i := 2) sc_l_hall.nd rfl (Or.inl rfl) pe_int)) pss_nil)
      (pss_cons (ps_set (i := 3) sc_l_hall.nd rfl (Or.inl rfl) (pe_fn C1 hr (by decide) rfl (pa_cons (pv 0) (pa_cons (pv 1) pa_nil))))
      (pss_cons (ps_set (i := 4) sc_l_hall.nd rfl (Or.inl rfl) (pe_ix ix_list (pe_lst (pa_cons pe_int (pa_cons pe_int (pa_cons pe_int (pa_cons pe_int pa_nil))))) (pe_fn C2 hr (by decide) rfl (pa_cons (pv 3) (pa_cons pe_int (pa_cons pe_int pa_nil)))) (fun _ _ => rfl)))
      (pss_cons (ps_set (i := 5) sc_l_hall.nd rfl (Or.inr rfl) (pe_op oN_add pe_int (pe_fn C2 hr (by decide) rfl (pa_cons (pv 3) (pa_cons pe_int (pa_cons (pv 2) pa_nil))))))
      (pss_cons (ps_set (i := 6) sc_l_hall.nd rfl (Or.inl rfl) (pe_lst pa_nil))
      (pss_cons (ps_for PassesOwn.never rfl (pi_rngN rfl range (pa_cons (pv 5) pa_nil)) (pg_name (i := 7) sc_l_hall.nd rfl (Or.inl rfl))
        (pss_cons (ps_set (i := 8) sc_l_hall.nd rfl (Or.inr rfl) (pe_op op_add (pe_fn C1 hr (by decide) rfl (pa_cons (pv 0) (pa_cons (pe_op oN_add (pe_op oN_add (pv 1) pe_int) (pe_op oN_mod (pv 7) pe_int)) pa_nil))) (pe_op op_mul (pe_op op_mul pe_int (pv 7)) (pv 7))))
        (pss_one (ps_expr (pe_bm PySem.F.plainAttrs_list PySem.F.slot_list_append PySem.F.type_list_append mt_append (pv 6) (pa_cons (pe_callTy call_tuple_of (by rfl) tuple (by decide +kernel) (pa_cons
          (pe_lc (own := [("w", 10)]) (g := gName 10) (tt := tYes) rfl sc_l_hall.nd (pi_rngN rfl range (pa_cons (pv 4) pa_nil)) (blkOk_by (N := ["script", "at", "most", "cell", "whistles", "many", "rooms", "k", "seed", "lights", "w"]) (sc := defScope s_l_hall) (by decide +kernel)) (fun _ _ _ _ _ => pg_name (i := 10) sc_l_hall.nd rfl (Or.inl rfl)) (fun _ _ _ _ _ => pts_nil)
            (fun _ _ _ _ _ => pe_fn C2 hr (by decide) rfl (pa_cons (pe_op op_add (pv 8) (pe_op op_mul (pe_op op_mul pe_int (pv 10)) (pv 10))) (pa_cons pe_int (pa_cons (pv 5) pa_nil))))) pa_nil)) pa_nil))))))
      (pss_cons (ps_setLc (i := 9) (own := [("k", 7)]) (g := gName 7) (tt := tYes) rfl sc_l_hall.nd rfl rfl (sw_true rfl rfl rfl (by decide +kernel)) (pi_rngN rfl range (pa_cons (pv 5) pa_nil)) (blkOk_by (N := ["script", "at", "most", "cell", "whistles", "many", "rooms", "k", "seed", "lights", "w"]) (sc := defScope s_l_hall) (by decide +kernel)) (fun _ _ _ _ _ => pg_name (i := 7) sc_l_hall.nd rfl (Or.inl rfl)) (fun _ _ _ _ _ => pts_nil)
            (fun _ _ _ _ _ => pe_fn C2 hr (by decide) rfl (pa_cons (pe_op op_add (pe_fn C1 hr (by decide) rfl (pa_cons (pv 0) (pa_cons (pe_op oN_add (pe_op oN_add (pv 1) pe_int) (pe_op oN_mod (pv 7) pe_int)) pa_nil))) (pe_op op_mul (pe_op op_mul pe_int (pv 7)) (pv 7))) (pa_cons pe_int (pa_cons pe_int pa_nil)))))
      (pss_one (ps_ret (pe_tup (pa_cons (pv 4) (pa_cons (pe_callTy call_tuple_of (by rfl) tuple (by decide +kernel) (pa_cons (pv 6) pa_nil)) (pa_cons (pe_callTy call_tuple_of (by rfl) tuple (by decide +kernel) (pa_cons (pv 9) pa_nil)) pa_nil)))))))))))))), ?_⟩
    -- most = 5; if _law_large(script): most = 9
    refine ⟨fun σ' H' => σ' = [some (.ref a), some (nV t), some (nV (if large ns = true then 9 else 5)), none, none, none, none, none, none, none, none] ∧ H = H', ⟨_, rfl, a, ns, rfl, hS, _, rfl, ?_⟩, ?_⟩
    · refine ite2 (fun c => ?_) (fun c => ?_)
      · rw [if_pos c]; exact ⟨rfl, rfl⟩
      · rw [if_neg c]; exact ⟨rfl, rfl⟩
    rintro _ _ ⟨rfl, rfl⟩
    refine ⟨fun σ' H' => σ' = [some (.ref a), some (nV t), some (nV (hMost ns)), none, none, none, none, none, none, none, none] ∧ H = H', ⟨_, rfl, a, _, rfl, .inl hS, _, 63, rfl, rfl, _, rfl, ?_⟩, ?_⟩
    · refine ite2 (fun c => ?_) (fun c => ?_)
      · have c : 63 < ns.length := by simpa using c
        refine ⟨?_, rfl⟩
        rw [hMost, if_pos c]; rfl
      · have c : ¬ 63 < ns.length := by simpa using c
        refine ⟨?_, rfl⟩
        rw [hMost, if_neg c]
    rintro _ _ ⟨rfl, rfl⟩
    -- cell, whistles, many, rooms
    refine ⟨_, rfl, _, rfl, a, ns, t, rfl, hS, ?_⟩
    refine ⟨(by show 4 ≤ sizeLine; decide), fun l hl => ?_⟩
    refine ⟨_, rfl, _, 9973, 4, rfl, by decide, by decide, l, _, _, nV (hW ns t), rfl, rfl, SqL.of upd_same, atI_nat (xs := ([2, 2, 1, 3] : List Nat).map nV) (by rw [List.getElem?_map, hW_get]; rfl), ?_⟩
    refine ⟨_, rfl, _, rfl, _, 9967, hMost ns, rfl, by decide, hMost_pos ns, 1, _, rfl, rfl, ?_⟩
    refine ⟨Nat.zero_le _, fun lr hlr => ?_⟩
    have s1 := same_new (o := .lst (([2, 2, 1, 3] : List Nat).map nV)) hl
    have w0 : Wd H (upd H l (.lst (([2, 2, 1, 3] : List Nat).map nV))) [] [] := (Wd.start (by simp)).call s1
    have w1 : Wd H _ [.L lr []] [] := w0.pushL hlr ImAll.nil
    -- for k in range(many)
    refine ⟨_, rfl, hMany ns t, rfl, by have := hMany_le ns t; omega, for_rng (fun i σ H' => ∃ (v7 v8 : Option V), σ = [some (.ref a), some (nV t), some (nV (hMost ns)), some (.int (ns.getD t 0)), some (nV (hW ns t)), some (nV (hMany ns t)), some (.ref lr), v7, v8, none, none] ∧
      Wd H H' [.L lr ((List.range i).map fun k => roomD (hRoom ns t (hMany ns t) (hW ns t) k))] []) ⟨none, none, rfl, w1⟩ ?_ ?_⟩
    · rintro i σ H' hi ⟨v7, v8, rfl, w2⟩
      have hm := hMany_le ns t
      refine ⟨_, rfl, _, rfl, _, 1, rfl, rfl, _, rfl, _, 7, rfl, rfl, (by show 0 < 7; decide), _, _, rfl, rfl, a, ns, _, rfl, w2.same.seq hS, _, rfl, _, _, rfl, rfl, .inl ⟨by decide, by decide⟩, _, rfl, _, _, rfl, rfl, .inl ⟨by omega, by omega⟩, _, _, rfl, rfl, ?_⟩
      obtain ⟨xs, hx, ix⟩ := w2.list 0
      refine ⟨_, rfl, .inl ⟨rfl, _, SqL.of hx⟩, _, rfl, hW ns t, rfl, by rcases hW_cases ns t with h | h | h <;> omega, fun D hD => lc_rangeW (fun j => ((List.range j).map fun (v : Nat) => mix (ns.getD (t + 1 + i % 7) 0 + 29 * (i : Int) * i + 211 * (v : Int) * v) 9949 (hMany ns t)).map nD) w2 hD rfl
        (fun j hj => by rw [List.length_map, List.length_map, List.length_range]; exact sl_small (by rcases hW_cases ns t with h | h | h <;> omega)) (fun j H3 hj w3 => CompTurn.all fun Qt k => ?_) (fun H3 w3 => ?_)⟩
      · have hj : j < 10 := by rcases hW_cases ns t with h | h | h <;> omega
        refine ⟨_, rfl, _, rfl, _, _, rfl, rfl, .inl ⟨by decide, by decide⟩, _, rfl, _, _, rfl, rfl, .inl ⟨by omega, by omega⟩, _, _, rfl, rfl, _, rfl, _, 9949, hMany ns t, rfl, by decide, hMany_pos ns t, ?_⟩
        refine k _ _ (nD _) w3 rfl ?_
        rw [map_range_succ, List.map_append]
        rfl
      · obtain ⟨ys, hy, iy⟩ := w3.list 0
        refine ⟨D, _, rfl, .inl ⟨SqL.of hy, fun p hp => ?_⟩⟩
        have w4 := w3.tup hp iy
        obtain ⟨xs', hx', ix'⟩ := w4.list 1
        refine ⟨lr, _, _, rfl, rfl, hx', ?_, ?_⟩
        · rw [ix'.length, List.length_map, List.length_range]; exact sl_small (by omega)
        · refine ⟨_, _, rfl, ?_⟩
          have w5 := (w4.turnL 1 rfl (ix'.snoc (w4.get 0))).pop.less (ims' := []) (by simp)
          rw [map_range_succ]
          exact w5
    · rintro σ H' ⟨v7, v8, rfl, w2⟩
      have hm := hMany_le ns t
      -- lights
      refine ⟨_, rfl, hMany ns t, rfl, by omega, fun D hD => lc_rangeW (fun j => ((List.range j).map (hLight ns t)).map nD) w2 hD rfl
        (fun j hj => by rw [List.length_map, List.length_map, List.length_range]; exact sl_small (by omega)) (fun j H3 hj w3 => CompTurn.all fun Qt k => ?_) (fun H3 w3 => ?_)⟩
      · refine ⟨_, rfl, _, rfl, _, 2, rfl, rfl, _, rfl, _, 7, rfl, rfl, (by show 0 < 7; decide), _, _, rfl, rfl, a, ns, _, rfl, w3.same.seq hS, _, rfl, _, _, rfl, rfl, .inl ⟨by decide, by decide⟩, _, rfl, _, _, rfl, rfl, .inl ⟨by omega, by omega⟩, _, _, rfl, rfl, _, 9941, 2, rfl, by decide, by decide, ?_⟩
        refine k _ _ (nD _) w3 rfl ?_
        rw [map_range_succ, List.map_append]
        rfl
      · -- return
        obtain ⟨ys, hy, iy⟩ := w3.list 1
        refine ⟨_, rfl, _, rfl, lr, _, rfl, .inl ⟨SqL.of hy, fun p hp => ?_⟩⟩
        have w4 := w3.tup hp iy
        obtain ⟨zs, hz, iz⟩ := w4.list 0
        refine ⟨_, rfl, D, _, rfl, .inl ⟨SqL.of hz, fun p2 hp2 => ?_⟩⟩
        have w5 := w4.tup hp2 iz
        refine ⟨(by show 3 ≤ sizeLine; decide), fun p3 hp3 => ?_⟩
        have w6 := w5.tup hp3 (ImAll.cons (d := nD (hW ns t)) rfl (ImAll.cons (w5.get 1) (ImAll.cons (w5.get 0) ImAll.nil)))
        refine q _ _ w6.same ?_
        have h := (w6.get 0).bare
        unfold Hall.d lawHall
        rw [List.map_map]
        exact h
end
/-! ### what a hall tells, read -/
section
variable {h : Hall} {H : Hp} {Z : List Addr} {x : V} {σ : St} {Q : VK}
theorem at_rooms {r : Nat} (hr : r < h.n) : atI (h.rooms.map roomD) (r : Int) = some (roomD (h.rooms.getD r [])) := atI_nat (by rw [List.getElem?_map, getD_get (d := []) hr]; rfl)
theorem at_room (o : h.Ok) {r c : Nat} (hr : r < h.n) (hc : c < h.w) : atI ((h.rooms.getD r []).map nD) (c : Int) = some (nD (h.go r c)) := atI_nat (by rw [List.getElem?_map, getD_get (d := 0) (by rw [o.room hr]; exact hc)]; rfl)
theorem at_lit (o : h.Ok) {r : Nat} (hr : r < h.n) : atI (h.lights.map nD) (r : Int) = some (nD (h.lit r)) := atI_nat (by rw [List.getElem?_map, getD_get (d := 0) (by rw [o.len]; exact hr)]; rfl)
/-- hall[2][r] -/
theorem t_lit {i j r : Nat} (o : h.Ok) (hI : Im H Z h.d x) (hr : r < h.n) (q : Q (nV (h.lit r)) H) (e0 : σ[i]? = some (some x) := by rfl) (e1 : σ[j]? = some (some (nV r)) := by rfl) : tOp rIxI (tOp rIxI (tVar i) (tC (.int 2))) (tVar j) σ H Q :=
  ⟨_, e0, Z, _, 2, _, hI, rfl, rfl, fun v1 h1 => ⟨_, e1, Z, _, _, _, h1, rfl, at_lit o hr, fun v2 h2 => by cases h2; exact q⟩⟩
/-- hall[1][r][c] -/
theorem t_go {i j k r c : Nat} (o : h.Ok) (hI : Im H Z h.d x) (hr : r < h.n) (hc : c < h.w) (q : Q (nV (h.go r c)) H) (e0 : σ[i]? = some (some x) := by rfl) (e1 : σ[j]? = some (some (nV r)) := by rfl) (e2 : σ[k]? = some (some (nV c)) := by rfl) :
    tOp rIxI (tOp rIxI (tOp rIxI (tVar i) (tC (.int 1))) (tVar j)) (tVar k) σ H Q :=
  ⟨_, e0, Z, _, 1, _, hI, rfl, rfl, fun v1 h1 => ⟨_, e1, Z, _, _, _, h1, rfl, at_rooms hr, fun v2 h2 => ⟨_, e2, Z, _, _, _, h2, rfl, at_room o hr hc, fun v3 h3 => by cases h3; exact q⟩⟩⟩
/-- hall[0] -/
theorem t_w {i : Nat} (hI : Im H Z h.d x) (q : Q (nV h.w) H) (e0 : σ[i]? = some (some x) := by rfl) : tOp rIxI (tVar i) (tC (.int 0)) σ H Q :=
  ⟨_, e0, Z, _, 0, _, hI, rfl, rfl, fun v1 h1 => by cases h1; exact q⟩
/-- len(hall[1]) -/
theorem t_n {K : PySem.W.Frag} {i : Nat} (hI : Im H Z h.d x) (q : Q (nV h.n) H) (e0 : σ[i]? = some (some x) := by rfl) : tCB (fun xs H Q => ∃ p ys, xs = [.ref p] ∧ (SqL K H p ys ∨ SqT K H p ys) ∧ Q (nV ys.length) H) (tCons (tOp rIxI (tVar i) (tC (.int 1))) tNil) σ H Q :=
  ⟨_, e0, Z, _, 1, _, hI, rfl, rfl, fun v1 h1 => by
    obtain ⟨a, xs, rfl, e, _, im⟩ := h1
    refine ⟨a, xs, rfl, .inr (SqT.of e), ?_⟩
    rw [im.length, List.length_map]; exact q⟩
end
def tabD (T : Tab) : List (List PyData) := T.map fun r => r.map PyData.bool
/-- the table of pairs that are told apart is handed back -/
def spApart : Sp := fun vs H Q _ => ∃ (h : Hall) (hv : V), vs = [hv] ∧ h.Ok ∧ h.n ≤ 1000 ∧ Im H [] h.d hv ∧ ∀ (l : Addr) (rs : List (Addr × List PyData)) (T : Tab) (H' : Hp), Wd H H' [.LL l rs] [] → rs.map (·.2) = tabD T → Sq h.n T → (∀ a b, a < h.n → b < h.n → (tab T a b = true ↔ Dist h a b)) → Q (.ref l) H'
section
variable {H0 H : Hp} {cs : List Cell} {ims : List (PyData × V)} {K : PySem.W.Frag} {σ : St} {Q : VK}
theorem row_of {rs : List (Addr × List PyData)} {T : Tab} {n a : Nat} (e : rs.map (·.2) = tabD T) (sq : Sq n T) (ha : a < n) : ∃ r, rs[a]? = some r ∧ r.2 = (T.getD a []).map PyData.bool := by
  have h1 : (rs.map (·.2))[a]? = some ((T.getD a []).map PyData.bool) := by
    rw [e, tabD, List.getElem?_map, getD_get (d := []) (by rw [sq.1]; exact ha)]; rfl
  rw [List.getElem?_map] at h1
  cases q : rs[a]? with
  | none => rw [q] at h1; cases h1
  | some r => rw [q] at h1; exact ⟨r, rfl, Option.some.inj h1⟩
/-- table[a][b] -/
theorem t_tab {l : Addr} {rs : List (Addr × List PyData)} {T : Tab} {n a b i j k : Nat} (m : Nat) (w : Wd H0 H cs ims) (ec : cs[m]? = some (.LL l rs)) (e : rs.map (·.2) = tabD T) (sq : Sq n T) (ha : a < n) (hb : b < n) (q : Q (.bl (tab T a b)) H) (e0 : σ[i]? = some (some (.ref l)) := by rfl) (e1 : σ[j]? = some (some (nV a)) := by rfl) (e2 : σ[k]? = some (some (nV b)) := by rfl) :
    tOp (rIxL K) (tOp (rIxL K) (tVar i) (tVar j)) (tVar k) σ H Q := by
  obtain ⟨r, er, e3⟩ := row_of e sq ha
  obtain ⟨f1, f2, xs, f3, f4⟩ := w.row m ec er
  rw [e3] at f4
  obtain ⟨x, ex, ix⟩ := f4.get (i := b) (d := .bool (tab T a b)) (by rw [List.getElem?_map, getD_get (d := false) (by rw [sq.row ha]; exact hb)]; rfl)
  cases ix
  exact ⟨_, e0, _, e1, l, _, _, _, rfl, rfl, SqL.of f1, atI_nat f2, _, e2, r.1, _, _, _, rfl, rfl, SqL.of f3, atI_nat ex, q⟩
theorem tabD_set {T : Tab} {rs : List (Addr × List PyData)} {n a b : Nat} {r : Addr × List PyData} (e : rs.map (·.2) = tabD T) (sq : Sq n T) (ha : a < n) (er : rs[a]? = some r) : (rs.set a (r.1, ((T.getD a []).set b true).map PyData.bool)).map (·.2) = tabD (setT T a b) := by
  simp only [tabD] at e ⊢
  rw [List.map_set (f := fun x : Addr × List PyData => x.2), e, setT, List.map_set (f := fun r : List Bool => r.map PyData.bool)]
end
/-- what holds within a sweep: g tells whether a pair has been set -/
structure Sweep (h : Hall) (F0 : Nat) (T : Tab) (g : Bool) (P : Nat → Nat → Prop) : Prop where
  inv : TabInv h T
  lt : g = true → cntF T < F0
  le : g = false → cntF T = F0
  still : g = false → ∀ a b, P a b → Still h T a b
theorem Sweep.mono {h : Hall} {F0 : Nat} {T : Tab} {g : Bool} {P P' : Nat → Nat → Prop} (s : Sweep h F0 T g P) (k : g = false → ∀ a b, P' a b → P a b) : Sweep h F0 T g P' := ⟨s.inv, s.lt, s.le, fun e a b p => s.still e a b (k e a b p)⟩
section
variable {P : Program} {w : World} {K : PySem.W.Frag} {mg : Str → Option Value} {base : Heap}
theorem sc_l_apart : FnScope ["hall", "many", "table", "b", "a", "go", "pairs", "w", "c", "d"] ["hall"] (defScope s_l_apart) := ⟨rfl, rfl, rfl, by decide +kernel, rfl, by decide +kernel, by decide +kernel⟩
theorem ok_l_apart {f : Addr} {fd : FuncData} (F : Fun K "_law_apart" "_law_apart" s_l_apart f fd) (g_len : mg "len" = none) (g_range : mg "range" = none) :
    FnOk P w K mg base CX0 1 f fd ["hall"] spApart := by
  refine F.ok sc_l_apart (fun vs H Q E h => ?_) (fun cdv A outer s H vs Q E hr h => ?_)
  · obtain ⟨h, hv, rfl, _⟩ := h
    rfl
  · obtain ⟨h, hv, rfl, o, hn, hI, q⟩ := h
    refine ⟨_, (pss_cons (ps_set (i := 1) sc_l_apart.nd rfl (Or.inr rfl) (pe_callB (lenS (K := K) rfl) (by rfl) g_len PySem.boot_len (pa_cons (pe_ix ix_im (pv 0) pe_int (fun _ _ => rfl)) pa_nil)))
      (pss_cons (ps_set (i := 2) sc_l_apart.nd rfl (Or.inr rfl) (pe_lc (own := [("a", 4)]) (g := (gName 4)) (tt := tYes) rfl sc_l_apart.nd (pi_rngN rfl g_range (pa_cons (pv 1) pa_nil)) (blkOk_by (by kernel_rfl)) (fun _ _ _ _ _ => (pg_name (i := 4) sc_l_apart.nd rfl (by first | exact Or.inl rfl | exact Or.inr rfl))) (fun _ _ _ _ _ => pts_nil) (fun _ _ _ _ _ => (pe_lc (own := [("b", 3)]) (g := (gName 3)) (tt := tYes) rfl sc_l_apart.nd (pi_rngN rfl g_range (pa_cons (pv 1) pa_nil)) (blkOk_by (by kernel_rfl)) (fun _ _ _ _ _ => (pg_name (i := 3) sc_l_apart.nd rfl (by first | exact Or.inl rfl | exact Or.inr rfl))) (fun _ _ _ _ _ => pts_nil) (fun _ _ _ _ _ => (pe_cmpR oN_ne (pe_ix ix_im (pe_ix ix_im (pv 0) pe_int (fun _ _ => rfl)) (pv 4) (fun _ _ => rfl)) (pe_ix ix_im (pe_ix ix_im (pv 0) pe_int (fun _ _ => rfl)) (pv 3) (fun _ _ => rfl)) (nomark _)))))))
      (pss_cons (ps_set (i := 5) sc_l_apart.nd rfl (Or.inl rfl) pe_bl)
      (pss_cons (ps_while PassesOwn.never (pt_val (pv 5))
        (pss_cons (ps_set (i := 5) sc_l_apart.nd rfl (Or.inl rfl) pe_bl)
        (pss_one (ps_for PassesOwn.never rfl (pi_rngN rfl g_range (pa_cons (pv 1) pa_nil)) (pg_name (i := 4) sc_l_apart.nd rfl (by first | exact Or.inl rfl | exact Or.inr rfl))
          (pss_one (ps_for PassesOwn.never rfl (pi_rngN rfl g_range (pa_cons (pv 1) pa_nil)) (pg_name (i := 3) sc_l_apart.nd rfl (by first | exact Or.inl rfl | exact Or.inr rfl))
            (pss_cons (ps_setLc (i := 6) (own := [("w", 7)]) (g := (gName 7)) (tt := tYes) rfl sc_l_apart.nd rfl rfl (sw_true rfl rfl rfl (by decide +kernel)) (pi_rngN rfl g_range (pa_cons (pe_ix ix_im (pv 0) pe_int (fun _ _ => rfl)) pa_nil)) (blkOk_by (by kernel_rfl)) (fun _ _ _ _ _ => (pg_name (i := 7) sc_l_apart.nd rfl (by first | exact Or.inl rfl | exact Or.inr rfl))) (fun _ _ _ _ _ => pts_nil) (fun _ _ _ _ _ => (pe_tup (pa_cons (pe_ix ix_im (pe_ix ix_im (pe_ix ix_im (pv 0) pe_int (fun _ _ => rfl)) (pv 4) (fun _ _ => rfl)) (pv 7) (fun _ _ => rfl)) (pa_cons (pe_ix ix_im (pe_ix ix_im (pe_ix ix_im (pv 0) pe_int (fun _ _ => rfl)) (pv 3) (fun _ _ => rfl)) (pv 7) (fun _ _ => rfl)) pa_nil)))))
            (pss_one (ps_if (PW.pt (pw_and (pt_not (pt_val (pe_ix (ixL (K := K) rfl) (pe_ix (ixL (K := K) rfl) (pv 2) (pv 4) (fun _ _ => rfl)) (pv 3) (fun _ _ => rfl)))) (pw_and1 (pt_truth (pe_lc (own := [("c", 8), ("d", 9)]) (g := (gTup K 2 (gCons (gName 8) (gCons (gName 9) gNil)))) rfl sc_l_apart.nd (pi_list (pv 6)) (blkOk_by (by kernel_rfl)) (fun _ _ _ _ _ => (pg_tup rfl (pgs_cons (pg_name (i := 8) sc_l_apart.nd rfl (by first | exact Or.inl rfl | exact Or.inr rfl)) (pgs_cons (pg_name (i := 9) sc_l_apart.nd rfl (by first | exact Or.inl rfl | exact Or.inr rfl)) pgs_nil)))) (fun _ _ _ _ _ => (pts_one (pt_val (pe_ix (ixL (K := K) rfl) (pe_ix (ixL (K := K) rfl) (pv 2) (pv 8) (fun _ _ => rfl)) (pv 9) (fun _ _ => rfl))))) (fun _ _ _ _ _ => pe_int)) (by intro _; rfl)))))
              (pss_cons (ps_asg pe_bl (pg_sub (pe_ix (ixL (K := K) rfl) (pv 2) (pv 4) (fun _ _ => rfl)) (pv 3) set_list))
              (pss_one (ps_set (i := 5) sc_l_apart.nd rfl (Or.inl rfl) pe_bl)))
              pss_nil)))))))))
      (pss_one (ps_ret (pv 2))))))), ?_⟩
    have w0 : Wd H H [] [(h.d, hv)] := Wd.start (by simpa using hI)
    -- many = len(hall[1])
    refine sq_asg (t_n hI ?_)
    -- table
    refine ⟨_, rfl, h.n, rfl, by omega, fun D hD => lc_rangeLL (fun a => ((List.range h.n).map fun b => !decide (h.lit a = h.lit b)).map PyData.bool) w0 hD (by omega) (fun a H1 rs ha w1 Qt k => ?_) (fun H1 rs ers w1 => ?_)⟩
    · refine ⟨_, rfl, h.n, rfl, by omega, fun D2 hD2 => lc_rangeW (fun j => ((List.range j).map fun b => !decide (h.lit a = h.lit b)).map PyData.bool) w1 hD2 rfl (fun j hj => by simp; exact sl_small (by omega)) (fun b H2 hb w2 => CompTurn.all fun Qt k2 => ?_) (fun H2 w2 => k D2 H2 w2)⟩
      refine x_op (t_lit o (w2.get 0) ha (t_lit o (w2.get 0) hb ⟨_, _, rfl, rfl, ?_⟩))
      refine k2 _ _ (.bool _) w2 rfl ?_
      rw [map_range_succ, List.map_append]; rfl
    have ers : rs.map (·.2) = tabD (litTab h) := by rw [ers, tabD, litTab, List.map_map]; rfl
    -- while go
    refine ⟨fun m σ H' => ∃ (T : Tab) (rs : List (Addr × List PyData)) (g : Bool) (v3 v4 v6 : Option V), σ = [some hv, some (nV h.n), some (.ref D), v3, v4, some (.bl g), v6, none, none, none] ∧ Wd H H' [.LL D rs] [(h.d, hv)] ∧ rs.map (·.2) = tabD T ∧ TabInv h T ∧ (g = false → ∀ a b, a < h.n → b < h.n → Still h T a b) ∧ m = 2 * cntF T + (if g = true then 1 else 0),
      ⟨_, litTab h, rs, true, none, none, none, rfl, w1, ers, TabInv.start h, (fun e => by cases e), rfl⟩, ?_⟩
    rintro m σ H2 ⟨T, rs, g, v3, v4, v6, rfl, w2, ers, ti, still, rfl⟩
    refine ⟨_, rfl, _, rfl, ?_⟩
    refine ite2 (fun c => ?_) (fun c => ?_)
    · subst c
      refine ⟨_, fun σ' H' hN => hN, ?_⟩
      -- go = False; for a: for b:
      refine ⟨_, rfl, h.n, rfl, by omega, for_rng (fun i σ H' => ∃ (T' : Tab) (rs : List (Addr × List PyData)) (g : Bool) (v3 v4 v6 : Option V), σ = [some hv, some (nV h.n), some (.ref D), v3, v4, some (.bl g), v6, none, none, none] ∧ Wd H H' [.LL D rs] [(h.d, hv)] ∧ rs.map (·.2) = tabD T' ∧ Sweep h (cntF T) T' g (fun a b => a < i ∧ b < h.n))
        ⟨T, rs, false, v3, v4, v6, rfl, w2, ers, ⟨ti, (fun e => by cases e), fun _ => rfl, fun _ a b p => by omega⟩⟩ ?_ ?_⟩
      · rintro a σ H3 ha ⟨T1, rs1, g1, u3, u4, u6, rfl, w3, ers1, sw1⟩
        refine ⟨_, rfl, h.n, rfl, by omega, for_rng (fun j σ H' => ∃ (T' : Tab) (rs : List (Addr × List PyData)) (g : Bool) (v3 v6 : Option V), σ = [some hv, some (nV h.n), some (.ref D), v3, some (nV a), some (.bl g), v6, none, none, none] ∧ Wd H H' [.LL D rs] [(h.d, hv)] ∧ rs.map (·.2) = tabD T' ∧ Sweep h (cntF T) T' g (fun x y => (x < a ∧ y < h.n) ∨ (x = a ∧ y < j)))
          ⟨T1, rs1, g1, u3, u6, rfl, w3, ers1, sw1.mono fun _ x y p => by omega⟩ ?_ ?_⟩
        · rintro b σ H4 hb ⟨T2, rs2, g2, z3, z6, rfl, w4, ers2, sw2⟩
          -- pairs
          refine sq_asg (x_lcw (x_rng (x_cons (t_w (w4.get 0) ⟨h.w, rfl, by have := o.w3; omega, fun Dp hDp => lc_rangeW (fun j => (List.range j).map fun c => .tuple [nD (h.go a c), nD (h.go b c)]) w4 hDp rfl (fun j hj => by simp; exact sl_small (by have := o.w3; omega)) (fun c H5 hc w5 => CompTurn.all fun Qt k2 => ?_) (fun H5 w5 => ?_)⟩))))
          · refine x_tup (x_cons (t_go o (w5.get 0) ha hc (x_cons (t_go o (w5.get 0) hb hc ⟨(by show 2 ≤ sizeLine; decide), fun p hp => ?_⟩))))
            have w6 := w5.tup hp (ImAll.cons (d := nD (h.go a c)) rfl (ImAll.cons (d := nD (h.go b c)) rfl ImAll.nil))
            exact k2 _ _ _ (w6.less (by simp)) (w6.get 0) (map_range_succ _ _)
          · -- if not table[a][b] and [..]
            refine at_if (x_and (x_not (x_b (t_tab 1 w5 rfl ers2 sw2.inv.sq ha hb ⟨_, rfl, ?_⟩))))
            have skip : tab T2 a b = true ∨ leads h T2 a b = false → ∀ H', Wd H H' [.LL D rs2] [(h.d, hv)] → ∀ v6, ∃ (T' : Tab) (rs : List (Addr × List PyData)) (g : Bool) (v3 v6' : Option V), [some hv, some (nV h.n), some (.ref D), some (nV b), some (nV a), some (.bl g2), v6, none, none, none] = [some hv, some (nV h.n), some (.ref D), v3, some (nV a), some (.bl g), v6', none, none, none] ∧ Wd H H' [.LL D rs] [(h.d, hv)] ∧ rs.map (·.2) = tabD T' ∧ Sweep h (cntF T) T' g (fun x y => (x < a ∧ y < h.n) ∨ (x = a ∧ y < b + 1)) := fun st H' w' v6 => by
              refine ⟨T2, rs2, g2, _, v6, rfl, w', ers2, ⟨sw2.inv, sw2.lt, sw2.le, fun e x y p => ?_⟩⟩
              by_cases q : x = a ∧ y = b
              · obtain ⟨rfl, rfl⟩ := q; exact st
              · exact sw2.still e x y (by omega)
            refine ite2 (fun c => ?_) (fun c => ?_)
            · have c : tab T2 a b = false := by simpa using c
              refine ⟨_, rfl, Dp, rfl, ⟨_, SqL.of (w5.list 0).choose_spec.1⟩, fun D2 hD2 => lc_listW2 (fun c => nD (h.go a c)) (fun c => nD (h.go b c)) h.w (fun j => ((List.range j).filter fun c => tab T2 (h.go a c) (h.go b c)).map fun _ => nD 1) 0 w5 hD2 rfl rfl
                (fun j hj => by
                  rw [List.length_map]
                  have := List.length_filter_le (fun c => tab T2 (h.go a c) (h.go b c)) (List.range j)
                  rw [List.length_range] at this
                  exact sl_small (by have := o.w3; omega)) (fun c x y H6 hc ix iy w6 => ?_) (fun H6 w6 => ?_)⟩
              · cases ix; cases iy
                intro Qt Qf k1 k2
                refine x_b (t_tab 2 w6 rfl ers2 sw2.inv.sq (o.go_lt ha hc) (o.go_lt hb hc) ⟨_, rfl, ?_⟩)
                refine ite2 (fun e => ?_) (fun e => ?_)
                · exact k1 _ _ (nD 1) w6 rfl (filter_range_t _ _ e)
                · exact k2 _ w6 (filter_range_f _ _ (by simpa using e))
              · obtain ⟨ys, ey, iy⟩ := w6.list 0
                have ele : (!ys.isEmpty) = leads h T2 a b := by
                  have e1 : ys.isEmpty = (((List.range h.w).filter fun c => tab T2 (h.go a c) (h.go b c)).map fun _ => nD 1).isEmpty := by
                    exact isEmpty_len iy.length
                  rw [e1, leads]
                  cases q : (List.range h.w).any fun c => tab T2 (h.go a c) (h.go b c) with
                  | true =>
                    obtain ⟨c, hc, t⟩ := List.any_eq_true.mp q
                    have : c ∈ (List.range h.w).filter fun c => tab T2 (h.go a c) (h.go b c) := List.mem_filter.mpr ⟨hc, t⟩
                    cases z : (List.range h.w).filter fun c => tab T2 (h.go a c) (h.go b c) with
                    | nil => rw [z] at this; simp at this
                    | cons x r => rfl
                  | false =>
                    have : (List.range h.w).filter (fun c => tab T2 (h.go a c) (h.go b c)) = [] := by
                      rw [List.filter_eq_nil_iff]
                      intro c hc
                      exact List.any_eq_false.mp q c hc
                    rw [this]; rfl
                refine ⟨_, .inl ⟨_, SqL.of ey, rfl⟩, ?_⟩
                rw [ele]
                refine ite2 (fun l => ?_) (fun l => ?_)
                · -- table[a][b] = True; go = True
                  have w7 := w6.pop.pop
                  obtain ⟨r, er, e3⟩ := row_of ers2 sw2.inv.sq ha
                  obtain ⟨f1, f2, xs, f3, f4⟩ := w7.row 0 rfl er
                  rw [e3] at f4
                  refine ⟨_, rfl, _, rfl, D, _, _, _, rfl, rfl, SqL.of f1, atI_nat f2, _, rfl, r.1, xs, _, b, rfl, rfl, f3, ixNn (by rw [f4.length, List.length_map, sw2.inv.sq.row ha]; exact hb), ?_⟩
                  have w8 := w7.turnRow 0 (ds' := ((T2.getD a []).set b true).map PyData.bool) (xs' := xs.set b (.bl true)) rfl er (by rw [List.map_set]; exact ImAll.set (d := .bool true) (x := .bl true) rfl b f4)
                  exact ⟨setT T2 a b, _, true, _, _, rfl, w8, tabD_set ers2 sw2.inv.sq ha er, ⟨sw2.inv.set o ha hb l, fun _ => by
                    have h1 := cntF_set sw2.inv.sq ha hb c
                    cases eg : g2 with
                    | true => have := sw2.lt eg; omega
                    | false => have := sw2.le eg; omega, (fun e => by cases e), (fun e => by cases e)⟩⟩
                · exact skip (.inr (by simpa using l)) _ w6.pop.pop _
            · exact skip (.inl (by simpa using c)) _ w5.pop _
        · rintro σ H4 ⟨T2, rs2, g2, z3, z6, rfl, w4, ers2, sw2⟩
          exact ⟨T2, rs2, g2, _, _, _, rfl, w4, ers2, sw2.mono fun _ x y p => by omega⟩
      · rintro σ H3 ⟨T1, rs1, g1, u3, u4, u6, rfl, w3, ers1, sw1⟩
        refine ⟨2 * cntF T1 + (if g1 = true then 1 else 0), ?_, T1, rs1, g1, u3, u4, u6, rfl, w3, ers1, sw1.inv, fun e a b ha hb => sw1.still e a b ⟨ha, hb⟩, rfl⟩
        cases g1 with
        | true => have := sw1.lt rfl; simp; omega
        | false => have := sw1.le rfl; simp; omega
    · have c : g = false := by simpa using c
      subst c
      exact ⟨_, rfl, q D rs T H2 (w2.less (by simp)) ers ti.sq fun a b ha hb => ti.done o (fun x y hx hy => still rfl x y hx hy) ha hb⟩
end
def spLtight : Sp := fun vs H Q _ => ∃ (h : Hall) (hv : V), vs = [hv] ∧ h.Ok ∧ h.n ≤ 1000 ∧ Im H [] h.d hv ∧ ∀ v H', Sm H H' → Im H' [] (tightH h).d v → Q v H'
theorem noLs_bools : ∀ r : List Bool, noLs (r.map PyData.bool) = true
  | [] => rfl
  | b :: r => by simp [noLs, noL, noLs_bools r]
theorem flat_tab {l : Addr} {rs : List (Addr × List PyData)} {T : Tab} (e : rs.map (·.2) = tabD T) : (Cell.LL l rs).flat = true := by
  show (rs.all fun r => noLs r.2) = true
  rw [List.all_eq_true]
  intro r hr
  have : r.2 ∈ tabD T := by rw [← e]; exact List.mem_map.mpr ⟨r, hr, rfl⟩
  obtain ⟨x, _, ex⟩ := List.mem_map.mp this
  rw [← ex]; exact noLs_bools x
theorem Im.nats {H : Hp} {Z : List Addr} {r : List Nat} {a : Addr} (h : Im H Z (roomD r) (.ref a)) : H a = some (.tup (r.map nV)) := by
  obtain ⟨b, xs, e, h1, _, h3⟩ := h
  cases e
  rw [h1, h3.nats_inv]
theorem ImAll.natsS {H : Hp} {Z : List Addr} (om : List Nat) (g : Nat) : ImAll H Z ((om ++ [g]).map nD) (om.map nV ++ [nV g]) := by
  rw [List.map_append]; exact ImAll.snoc (d := nD g) (x := nV g) (ImAll.nats om) rfl
/-- a list of numbers that stands in a cell -/
theorem Wd.nats {H0 H : Hp} {cs : List Cell} {ims : List (PyData × V)} (w : Wd H0 H cs ims) (i : Nat) {l : Addr} {ns : List Nat} (e : cs[i]? = some (.L l (ns.map nD)) := by rfl) : H l = some (.lst (ns.map nV)) := by
  obtain ⟨xs, h1, h2⟩ := w.list i e
  rw [h1, h2.nats_inv]
section
variable {P : Program} {w : World} {K : PySem.W.Frag} {mg : Str → Option Value} {base : Heap}
theorem sc_l_tight : FnScope ["hall", "table", "order", "rooms", "row", "goal", "same", "k", "room"] ["hall"] (defScope s_l_tight) := ⟨rfl, rfl, rfl, by decide +kernel, rfl, by decide +kernel, by decide +kernel⟩
theorem ok_l_tight {f : Addr} {fd : FuncData} (F : Fun K "_law_tight" "_law_tight" s_l_tight f fd) (g_len : mg "len" = none) (g_range : mg "range" = none) (g_tuple : mg "tuple" = none)
    (C_l_apart : Cal P w K mg base CX0 1 "_law_apart" ["hall"] spApart) :
    FnOk P w K mg base CX0 2 f fd ["hall"] spLtight := by
  refine F.ok sc_l_tight (fun vs H Q E h => ?_) (fun cdv A outer s H vs Q E hr h => ?_)
  · obtain ⟨h, hv, rfl, _⟩ := h
    rfl
  · obtain ⟨h, hv, rfl, o, hn, hI, q⟩ := h
    refine ⟨_, (pss_cons (ps_set (i := 1) sc_l_tight.nd rfl (Or.inr rfl) (pe_fn C_l_apart hr (by decide) rfl (pa_cons (pv 0) pa_nil)))
      (pss_cons (ps_set (i := 2) sc_l_tight.nd rfl (Or.inr rfl) (pe_lst (pa_cons pe_int pa_nil)))
      (pss_cons (ps_set (i := 3) sc_l_tight.nd rfl (Or.inl rfl) (pe_lst pa_nil))
      (pss_cons (ps_while PassesOwn.never (pt_cmpR oN_lt (pe_callB (lenS (K := K) rfl) (by rfl) g_len PySem.boot_len (pa_cons (pv 3) pa_nil)) (pe_callB (lenS (K := K) rfl) (by rfl) g_len PySem.boot_len (pa_cons (pv 2) pa_nil)) (nomark _))
        (pss_cons (ps_set (i := 4) sc_l_tight.nd rfl (Or.inl rfl) (pe_lst pa_nil))
        (pss_cons (ps_for PassesOwn.never rfl (pi_tup (pe_ix ix_im (pe_ix ix_im (pv 0) pe_int (fun _ _ => rfl)) (pe_ix (ixL (K := K) rfl) (pv 2) (pe_callB (lenS (K := K) rfl) (by rfl) g_len PySem.boot_len (pa_cons (pv 3) pa_nil)) (fun _ _ => rfl)) (fun _ _ => rfl))) (pg_name (i := 5) sc_l_tight.nd rfl (by first | exact Or.inl rfl | exact Or.inr rfl))
          (pss_cons (ps_setLc (i := 6) (own := [("k", 7)]) (g := (gName 7)) rfl sc_l_tight.nd rfl rfl (sw_true rfl rfl rfl (by decide +kernel)) (pi_rngN rfl g_range (pa_cons (pe_callB (lenS (K := K) rfl) (by rfl) g_len PySem.boot_len (pa_cons (pv 2) pa_nil)) pa_nil)) (blkOk_by (by kernel_rfl)) (fun _ _ _ _ _ => (pg_name (i := 7) sc_l_tight.nd rfl (by first | exact Or.inl rfl | exact Or.inr rfl))) (fun _ _ _ _ _ => (pts_one (pt_not (pt_val (pe_ix (ixL (K := K) rfl) (pe_ix (ixL (K := K) rfl) (pv 1) (pe_ix (ixL (K := K) rfl) (pv 2) (pv 7) (fun _ _ => rfl)) (fun _ _ => rfl)) (pv 5) (fun _ _ => rfl)))))) (fun _ _ _ _ _ => (pv 7)))
          (pss_one (ps_if (pt_truth (pv 6) (by intro _; rfl))
            (pss_one (ps_expr (pe_bm PySem.F.plainAttrs_list PySem.F.slot_list_append PySem.F.type_list_append mt_append (pv 4) (pa_cons (pe_ix (ixL (K := K) rfl) (pv 6) pe_int (fun _ _ => rfl)) pa_nil))))
            (pss_cons (ps_expr (pe_bm PySem.F.plainAttrs_list PySem.F.slot_list_append PySem.F.type_list_append mt_append (pv 4) (pa_cons (pe_callB (lenS (K := K) rfl) (by rfl) g_len PySem.boot_len (pa_cons (pv 2) pa_nil)) pa_nil)))
            (pss_one (ps_expr (pe_bm PySem.F.plainAttrs_list PySem.F.slot_list_append PySem.F.type_list_append mt_append (pv 2) (pa_cons (pv 5) pa_nil)))))))))
        (pss_one (ps_expr (pe_bm PySem.F.plainAttrs_list PySem.F.slot_list_append PySem.F.type_list_append mt_append (pv 3) (pa_cons (pe_callTy (tupOf (K := K) rfl) (by rfl) g_tuple (by decide +kernel) (pa_cons (pv 4) pa_nil)) pa_nil)))))))
      (pss_one (ps_ret (pe_tup (pa_cons (pe_ix ix_im (pv 0) pe_int (fun _ _ => rfl)) (pa_cons (pe_callTy (tupOf (K := K) rfl) (by rfl) g_tuple (by decide +kernel) (pa_cons (pv 3) pa_nil)) (pa_cons (pe_callTy (tupOf (K := K) rfl) (by rfl) g_tuple (by decide +kernel) (pa_cons (pe_lc (own := [("room", 8)]) (g := (gName 8)) (tt := tYes) rfl sc_l_tight.nd (pi_list (pv 2)) (blkOk_by (by kernel_rfl)) (fun _ _ _ _ _ => (pg_name (i := 8) sc_l_tight.nd rfl (by first | exact Or.inl rfl | exact Or.inr rfl))) (fun _ _ _ _ _ => pts_nil) (fun _ _ _ _ _ => (pe_ix ix_im (pe_ix ix_im (pv 0) pe_int (fun _ _ => rfl)) (pv 8) (fun _ _ => rfl)))) pa_nil)) pa_nil)))))))))), ?_⟩
    have w0 : Wd H H [] [(h.d, hv)] := Wd.start (by simpa using hI)
    refine ⟨_, rfl, h, hv, rfl, o, hn, hI, fun l rs T H1 wT ers sq hT => ?_⟩
    have w1 : Wd H H1 [.LL l rs] [(h.d, hv)] := w0.join1 wT (flat_tab ers)
    refine ⟨(by show 1 ≤ sizeLine; decide), fun lo hlo => ?_⟩
    have w2 : Wd H _ [.L lo ([0].map nD), .LL l rs] [(h.d, hv)] := w1.pushL hlo (ImAll.nats [0])
    refine ⟨Nat.zero_le _, fun lr hlr => ?_⟩
    have w3 : Wd H _ [.L lr [], .L lo ([0].map nD), .LL l rs] [(h.d, hv)] := w2.pushL hlr ImAll.nil
    let Ee : Nat → Nat → Bool := fun r g => !tab T r g
    have hE : ∀ a, a < h.n → Ee a a = true := fun a ha => by
      show (!tab T a a) = true
      cases e : tab T a a with
      | false => rfl
      | true => exact absurd ((hT a a ha ha).mp e) dist_irrefl
    have hEs : ∀ a b, a < h.n → b < h.n → Ee a b = same h a b := fun a b ha hb => by
      show (!tab T a b) = same h a b
      cases e : tab T a b with
      | false => exact (same_iff.mpr fun d => by rw [(hT a b ha hb).mpr d] at e; cases e).symm
      | true =>
        cases e2 : same h a b with
        | false => rfl
        | true => exact absurd ((hT a b ha hb).mp e) (same_iff.mp e2)
    refine ⟨fun m σ H' => ∃ (i : Nat) (v4 v5 v6 : Option V), m = h.n - i ∧ i ≤ h.n ∧ (∀ j, j < i → j < (meetAll Ee h j).1.length) ∧ σ = [some hv, some (.ref l), some (.ref lo), some (.ref lr), v4, v5, v6, none, none] ∧
      Wd H H' [.L lr ((meetAll Ee h i).2.map roomD), .L lo ((meetAll Ee h i).1.map nD), .LL l rs] [(h.d, hv)], ⟨_, 0, none, none, none, rfl, Nat.zero_le _, fun j hj => by omega, rfl, w3⟩, ?_⟩
    rintro m σ H2 ⟨i, v4, v5, v6, rfl, hi, hlt, rfl, w4⟩
    obtain ⟨xr, er, ir⟩ := w4.list 0
    have eo := w4.nats 1
    refine ⟨_, rfl, lr, _, rfl, .inl (SqL.of er), _, rfl, lo, _, rfl, .inl (SqL.of eo), _, _, rfl, rfl, _, rfl, ?_⟩
    rw [ir.length, List.length_map, List.length_map, meetAll_rows]
    refine ite2 (fun c => ?_) (fun c => ?_)
    · have c : i < (meetAll Ee h i).1.length := by simpa using c
      have hin : i < h.n := Nat.lt_of_lt_of_le c ((meetAll_met o i).len hE)
      refine ⟨_, fun σ' H' hN => hN, ?_⟩
      -- row = []
      refine ⟨Nat.zero_le _, fun lw hlw => ?_⟩
      have w5 := w4.pushL (ds := ([] : List Nat).map nD) (xs := []) hlw ImAll.nil
      have hro : (meetAll Ee h i).1.getD i 0 < h.n := (meetAll_met o i).lt _ (getD_mem c)
      have eo5 := w5.nats 2
      obtain ⟨xr5, er5, ir5⟩ := w5.list 1
      -- for goal in hall[1][order[len(rooms)]]
      refine ⟨_, rfl, _, _, 1, _, w5.get 0, rfl, rfl, fun v1 h1 => ⟨_, rfl, _, rfl, lr, _, rfl, .inl (SqL.of er5), lo, _, _, nV ((meetAll Ee h i).1.getD i 0), rfl, rfl, SqL.of eo5, ?_, _, _, _, _, h1, rfl, at_rooms hro, fun v2 h2 => ?_⟩⟩
      · rw [ir5.length, List.length_map, meetAll_rows]
        exact atI_nat (by rw [List.getElem?_map, getD_get (d := 0) c]; rfl)
      have w6 := w5.add h2
      obtain ⟨ag, xg, rfl, eg, _, ig⟩ := h2
      have exg := ig.nats_inv
      subst exg
      refine ⟨ag, rfl, ⟨_, SqT.of eg⟩, for_tup (K := K) (a := ag) (xs := (h.rooms.getD ((meetAll Ee h i).1.getD i 0) []).map nV) (fun j σ H' => ∃ (v5 v6 : Option V), σ = [some hv, some (.ref l), some (.ref lo), some (.ref lr), some (.ref lw), v5, v6, none, none] ∧
        Wd H H' [.L lw ((meetRow Ee (meetAll Ee h i).1 [] ((h.rooms.getD ((meetAll Ee h i).1.getD i 0) []).take j)).2.map nD), .L lr ((meetAll Ee h i).2.map roomD), .L lo ((meetRow Ee (meetAll Ee h i).1 [] ((h.rooms.getD ((meetAll Ee h i).1.getD i 0) []).take j)).1.map nD), .LL l rs] [(roomD (h.rooms.getD ((meetAll Ee h i).1.getD i 0) []), .ref ag), (h.d, hv)])
        ⟨v5, v6, rfl, w6⟩ (fun j σ H' _ ⟨_, _, _, w7⟩ => SqT.of (Im.nats (w7.get 0))) ?_ ?_⟩
      · rintro j x σ H3 hx ⟨u5, u6, rfl, w7⟩
        obtain ⟨g, eg2, rfl⟩ : ∃ g, (h.rooms.getD ((meetAll Ee h i).1.getD i 0) [])[j]? = some g ∧ x = nV g := by
          rw [List.getElem?_map] at hx
          cases e : (h.rooms.getD ((meetAll Ee h i).1.getD i 0) [])[j]? with
          | none => rw [e] at hx; cases hx
          | some g => rw [e] at hx; exact ⟨g, rfl, (Option.some.inj hx).symm⟩
        have hg : g < h.n := room_lt o _ g (List.mem_of_getElem? eg2)
        have etk : (h.rooms.getD ((meetAll Ee h i).1.getD i 0) []).take (j + 1) = (h.rooms.getD ((meetAll Ee h i).1.getD i 0) []).take j ++ [g] := by
          rw [List.take_add_one, eg2]; rfl
        have hmet := (Met.row (E := Ee) ((h.rooms.getD ((meetAll Ee h i).1.getD i 0) []).take j) (row := []) (meetAll_met o i) fun y hy => room_lt o _ y (List.mem_of_mem_take hy)).1
        have hrl := meetRow_len (E := Ee) ((h.rooms.getD ((meetAll Ee h i).1.getD i 0) []).take j) (meetAll Ee h i).1 []
        have hrl3 : (meetRow Ee (meetAll Ee h i).1 [] ((h.rooms.getD ((meetAll Ee h i).1.getD i 0) []).take j)).2.length ≤ 3 := by
          rw [hrl, List.length_take, o.room hro]; have := o.w3; simp; omega
        rw [etk, meetRow_snoc]
        generalize hom : (meetRow Ee (meetAll Ee h i).1 [] ((h.rooms.getD ((meetAll Ee h i).1.getD i 0) []).take j)).1 = om at *
        generalize hrw : (meetRow Ee (meetAll Ee h i).1 [] ((h.rooms.getD ((meetAll Ee h i).1.getD i 0) []).take j)).2 = rw2 at *
        have eo7 := w7.nats 2
        have homl := hmet.len hE
        -- same = [..]
        refine ⟨_, rfl, lo, _, rfl, .inl (SqL.of eo7), om.length, by rw [List.length_map], by omega, fun Ds hDs => lc_rangeW (fun j => ((List.range j).filter fun k => Ee (om.getD k 0) g).map nD) w7 hDs rfl (fun j hj => by rw [List.length_map]; exact sl_small (Nat.le_trans (filter_len _ _) (by omega))) (fun k H4 hk w8 => ?_) (fun H4 w8 => ?_)⟩
        · intro Qt Qf k1 k2
          have hok : om.getD k 0 < h.n := hmet.lt _ (getD_mem hk)
          obtain ⟨r, err, e3⟩ := row_of ers sq hok
          obtain ⟨f1, f2, xs, f3, f4⟩ := w8.row 4 rfl err
          rw [e3] at f4
          obtain ⟨y, ey, iy⟩ := f4.get (i := g) (d := .bool (tab T (om.getD k 0) g)) (by rw [List.getElem?_map, getD_get (d := false) (by rw [sq.row hok]; exact hg)]; rfl)
          cases iy
          have eo8 := w8.nats 3
          refine ⟨_, rfl, _, rfl, _, rfl, lo, _, _, nV (om.getD k 0), rfl, rfl, SqL.of eo8, atI_nat (by rw [List.getElem?_map, getD_get (d := 0) hk]; rfl), l, _, _, _, rfl, rfl, SqL.of f1, atI_nat f2, _, rfl, r.1, _, _, _, rfl, rfl, SqL.of f3, atI_nat ey, _, rfl, ?_⟩
          refine ite2 (fun e => ?_) (fun e => ?_)
          · exact ⟨_, rfl, k1 _ _ (nD k) w8 rfl (filter_range_t _ _ e)⟩
          · exact k2 _ w8 (filter_range_f _ _ (by simpa [Ee] using e))
        · have es := w8.nats 0
          have hfi := findIdx_range (p := fun r => Ee r g) om
          refine ⟨_, rfl, _, .inl ⟨_, SqL.of es, rfl⟩, ?_⟩
          cases hf : (List.range om.length).filter fun k => Ee (om.getD k 0) g with
          | nil =>
            rw [hf] at hfi
            have em : meet Ee om g = (om ++ [g], om.length) := by unfold meet; rw [hfi]; rfl
            refine iteF ?_
            obtain ⟨xw, ew, iw⟩ := w8.list 1
            refine ⟨_, rfl, .inl ⟨rfl, _, SqL.of ew⟩, _, rfl, lo, _, rfl, .inl (SqL.of (w8.nats 3)), lw, _, _, rfl, rfl, ew, ?_, ?_⟩
            · rw [iw.length, List.length_map]; exact sl_small (by omega)
            have w9 := w8.turnL 1 (ds' := (rw2 ++ [om.length]).map nD) (xs := xw ++ [nV (om.map nV).length]) rfl (by rw [List.map_append, List.length_map]; exact iw.snoc rfl)
            have eo9 := w9.nats 3
            refine ⟨_, rfl, .inl ⟨rfl, _, SqL.of eo9⟩, _, rfl, lo, _, _, rfl, rfl, eo9, ?_, ?_⟩
            · rw [List.length_map]; exact sl_small (by omega)
            have w10 := w9.turnL 3 (ds' := (om ++ [g]).map nD) (xs := om.map nV ++ [nV g]) rfl (ImAll.natsS om g)
            rw [em]
            exact ⟨_, _, rfl, w10.pop⟩
          | cons k0 rest =>
            rw [hf] at hfi
            have em : meet Ee om g = (om, k0) := by unfold meet; rw [hfi]; rfl
            refine iteT ?_
            obtain ⟨xw, ew, iw⟩ := w8.list 1
            rw [hf] at es
            refine ⟨_, rfl, .inl ⟨rfl, _, SqL.of ew⟩, _, rfl, Ds, _, _, nV k0, rfl, rfl, SqL.of es, atI_nat (j := 0) rfl, lw, _, _, rfl, rfl, ew, ?_, ?_⟩
            · rw [iw.length, List.length_map]; exact sl_small (by omega)
            have w9 := w8.turnL 1 (ds' := (rw2 ++ [k0]).map nD) (xs := xw ++ [nV k0]) rfl (by rw [List.map_append]; exact iw.snoc rfl)
            rw [em]
            exact ⟨_, _, rfl, w9.pop⟩
      · rintro σ H3 ⟨u5, u6, rfl, w7⟩
        rw [List.length_map, List.take_length] at w7
        -- rooms.append(tuple(row))
        obtain ⟨xr7, er7, ir7⟩ := w7.list 1
        obtain ⟨xw7, ew7, iw7⟩ := w7.list 0
        refine ⟨_, rfl, .inl ⟨rfl, _, SqL.of er7⟩, _, rfl, lw, _, rfl, .inl ⟨SqL.of ew7, fun p hp => ?_⟩⟩
        have w8 := w7.tup hp iw7
        obtain ⟨xr8, er8, ir8⟩ := w8.list 1
        refine ⟨lr, _, _, rfl, rfl, er8, ?_, ?_⟩
        · rw [ir8.length, List.length_map, meetAll_rows]; exact sl_small (by omega)
        have w9 := (w8.turnL 1 rfl (ir8.snoc (w8.get 0))).pop
        refine ⟨h.n - (i + 1), by omega, i + 1, _, _, _, rfl, hin, fun j hj => ?_, rfl, ?_⟩
        · by_cases e : j = i
          · subst e; exact c
          · exact hlt j (by omega)
        · have e2 : (meetAll Ee h (i + 1)).2.map roomD = (meetAll Ee h i).2.map roomD ++ [roomD (meetRow Ee (meetAll Ee h i).1 [] (h.rooms.getD ((meetAll Ee h i).1.getD i 0) [])).2] := by
            rw [meetAll, List.map_append]; rfl
          rw [e2]
          exact w9.less (by simp)
    · have c : (meetAll Ee h i).1.length ≤ i := by simpa using c
      have ek := tightN_eq o hE hlt c
      have et : tightOf Ee h = tightH h := tightOf_congr o hE hEs
      -- return
      obtain ⟨xr4, er4, ir4⟩ := w4.list 0
      refine at_ret (x_tup (x_cons (t_w (w4.get 0) ⟨_, rfl, lr, _, rfl, .inl ⟨SqL.of er4, fun p hp => ?_⟩⟩)))
      have w5 := w4.tup hp ir4
      have eo5 := w5.nats 1
      refine ⟨_, rfl, lo, rfl, ⟨_, SqL.of eo5⟩, fun D hD => lc_listW (K := K) (xs := (meetAll Ee h i).1.map nV) (fun j => (((meetAll Ee h i).1.map h.lit).take j).map nD) w5 hD rfl (fun j hj => ?_) (fun j H3 hj w6 => SqL.of (w6.nats 2)) (fun j x H3 hx w6 => CompTurn.all fun Qt k => ?_) (fun H3 w6 => ?_)⟩
      · rw [List.length_map] at hj
        rw [List.length_map, List.length_take, List.length_map]
        have := (meetAll_met (E := Ee) o i).len hE
        exact sl_small (by omega)
      · obtain ⟨r, er2, rfl⟩ : ∃ r, (meetAll Ee h i).1[j]? = some r ∧ x = nV r := by
          rw [List.getElem?_map] at hx
          cases e : (meetAll Ee h i).1[j]? with
          | none => rw [e] at hx; cases hx
          | some g => rw [e] at hx; exact ⟨g, rfl, (Option.some.inj hx).symm⟩
        refine t_lit o (w6.get 1) ((meetAll_met o i).lt r (List.mem_of_getElem? er2)) ?_
        refine k _ _ (nD (h.lit r)) w6 rfl ?_
        show ((((meetAll Ee h i).1.map h.lit).take (j + 1)).map nD) = _
        rw [List.take_add_one, List.getElem?_map, er2, List.map_append]; rfl
      · have e7 : (((meetAll Ee h i).1.map h.lit).take ((meetAll Ee h i).1.map nV).length) = (meetAll Ee h i).1.map h.lit := by
          rw [List.length_map]
          exact List.take_of_length_le (by rw [List.length_map]; exact Nat.le_refl _)
        rw [e7] at w6
        obtain ⟨xl, el, il⟩ := w6.list 0
        refine ⟨D, _, rfl, .inl ⟨SqL.of el, fun p2 hp2 => ?_⟩⟩
        have w7 := w6.tup hp2 il
        refine ⟨(by show 3 ≤ sizeLine; decide), fun p3 hp3 => ?_⟩
        have w8 := w7.tup hp3 (ImAll.cons (d := nD h.w) rfl (ImAll.cons (w7.get 1) (ImAll.cons (w7.get 0) ImAll.nil)))
        refine q _ _ w8.same ?_
        have h8 := (w8.get 0).bare
        rw [← et, tightOf, ek]
        exact h8
end
/-! ### the law's halls are halls -/
theorem lawHall_n (ns : List Int) (t : Nat) : (lawHall ns t).n = hMany ns t := by
  show ((List.range (hMany ns t)).map _).length = _
  rw [List.length_map, List.length_range]
theorem lawHall_ok (ns : List Int) (t : Nat) : (lawHall ns t).Ok := by
  have hn := lawHall_n ns t
  have h1 := hMany_pos ns t
  have h2 := hMany_le ns t
  refine ⟨?_, ?_, by omega, by omega, fun r hr => ?_, fun r hr g hg => ?_, ?_, fun l hl => ?_⟩
  · show 1 ≤ hW ns t
    rcases hW_cases ns t with h | h | h <;> omega
  · show hW ns t ≤ 3
    rcases hW_cases ns t with h | h | h <;> omega
  · obtain ⟨k, _, rfl⟩ := List.mem_map.mp hr
    show ((List.range (hW ns t)).map _).length = hW ns t
    rw [List.length_map, List.length_range]
  · obtain ⟨k, _, rfl⟩ := List.mem_map.mp hr
    obtain ⟨v, _, rfl⟩ := List.mem_map.mp hg
    rw [hn]; exact mix_lt _ _ h1
  · show ((List.range (hMany ns t)).map _).length = _
    rw [List.length_map, List.length_range, hn]
  · obtain ⟨k, _, rfl⟩ := List.mem_map.mp hl
    have : mix _ _ 2 < 2 := mix_lt (ns.getD (t + 2 + k % 7) 0 + 37 * (k : Int) * k) 9941 (m := 2) (by decide)
    exact Nat.le_of_lt_succ this
theorem tightH_ok {h : Hall} (o : h.Ok) : (tightH h).Ok := tightOf_ok o fun a _ => same_refl a
theorem tightH_n {h : Hall} (o : h.Ok) : (tightH h).n ≤ h.n := tightOf_n o fun a _ => same_refl a
theorem noL_rooms : ∀ rs : List (List Nat), noLs (rs.map roomD) = true
  | [] => rfl
  | r :: rs => by
    show (noLs (r.map nD) && noLs (rs.map roomD)) = true
    rw [noL_nats, noL_rooms rs]; rfl
theorem noL_hall (h : Hall) : noL h.d = true := by
  show (true && (noLs (h.rooms.map roomD) && (noLs (h.lights.map nD) && true))) = true
  rw [noL_rooms, noL_nats]; rfl
/-- the tight hall of the law's hall -/
def spLmade (K : PySem.W.Frag) : Sp := fun vs H Q _ => ∃ (a : Addr) (ns : List Int) (t : Nat), vs = [.ref a, nV t] ∧ SqL K H a (ns.map V.int) ∧ ∀ v H', Sm H H' → Im H' [] (tightH (lawHall ns t)).d v → Q v H'
section
variable {P : Program} {w : World} {K : PySem.W.Frag} {mg : Str → Option Value} {base : Heap}
end
/-! ### halls as data: equality -/
theorem eqv_nats : ∀ (a b : List Nat), PyData.eqvAll (a.map nD) (b.map nD) = decide (a = b)
  | [], [] => rfl
  | [], _ :: _ => rfl
  | _ :: _, [] => rfl
  | x :: a, y :: b => by
    rw [List.map_cons, List.map_cons, PyData.eqvAll, eqv_nats a b]
    show (((x : Int) == (y : Int)) && _) = _
    by_cases e : x = y
    · subst e; simp
    · have : ((x : Int) == (y : Int)) = false := by simp; omega
      rw [this]; simp [e]
theorem eqv_rooms : ∀ (a b : List (List Nat)), PyData.eqvAll (a.map roomD) (b.map roomD) = decide (a = b)
  | [], [] => rfl
  | [], _ :: _ => rfl
  | _ :: _, [] => rfl
  | x :: a, y :: b => by
    rw [List.map_cons, List.map_cons, PyData.eqvAll, eqv_rooms a b]
    show (PyData.eqvAll (x.map nD) (y.map nD) && _) = _
    rw [eqv_nats]
    by_cases e : x = y
    · subst e; simp
    · simp [e]
theorem eqv_hall (a b : Hall) : PyData.eqv a.d b.d = decide (a = b) := by
  show (((a.w : Int) == (b.w : Int)) && (PyData.eqvAll (a.rooms.map roomD) (b.rooms.map roomD) && (PyData.eqvAll (a.lights.map nD) (b.lights.map nD) && true))) = _
  rw [eqv_rooms, eqv_nats]
  cases a with | mk w r l => cases b with | mk w' r' l' =>
  by_cases e : w = w'
  · subst e
    by_cases e2 : r = r'
    · subst e2
      by_cases e3 : l = l'
      · subst e3; simp
      · simp [e3]
    · simp [e2]
  · have : ((w : Int) == (w' : Int)) = false := by simp; omega
    simp [this, e]
theorem canLay_nats : ∀ a : List Nat, PyData.canLayAll0 (a.map nD) = true
  | [] => rfl
  | x :: a => by rw [List.map_cons, PyData.canLayAll0, canLay_nats a]; rfl
theorem canLay_rooms : ∀ a : List (List Nat), PyData.canLayAll0 (a.map roomD) = true
  | [] => rfl
  | x :: a => by
    rw [List.map_cons, PyData.canLayAll0, canLay_rooms a]
    show (PyData.canLayAll0 (x.map nD) && true) = true
    rw [canLay_nats]; rfl
theorem dep_nats : ∀ a : List Nat, PyData.depthAll (a.map nD) = 0
  | [] => rfl
  | x :: a => by rw [List.map_cons, PyData.depthAll, dep_nats a]; rfl
theorem dep_rooms : ∀ a : List (List Nat), PyData.depthAll (a.map roomD) ≤ 1
  | [] => by simp [PyData.depthAll]
  | x :: a => by
    rw [List.map_cons, PyData.depthAll]
    have := dep_rooms a
    have e : PyData.depth (roomD x) = 1 := by show PyData.depthAll (x.map nD) + 1 = 1; rw [dep_nats]
    omega
theorem shaped_hall (a : Hall) : SeqAt.shaped a.d = true := by
  unfold SeqAt.shaped
  rw [Bool.and_eq_true]
  refine ⟨?_, decide_eq_true ?_⟩
  · show (true && (PyData.canLayAll0 (a.rooms.map roomD) && (PyData.canLayAll0 (a.lights.map nD) && true))) = true
    rw [canLay_rooms, canLay_nats]; rfl
  · show max 0 (max (PyData.depthAll (a.rooms.map roomD) + 1) (max (PyData.depthAll (a.lights.map nD) + 1) 0)) + 1 ≤ 64
    have := dep_rooms a.rooms
    rw [dep_nats]; omega
/-! pairs of numbers -/
def pairD (p : Nat × Nat) : PyData := .tuple [nD p.1, nD p.2]
theorem eqv_pair (a b : Nat × Nat) : PyData.eqv (pairD a) (pairD b) = decide (a = b) := by
  show (((a.1 : Int) == (b.1 : Int)) && (((a.2 : Int) == (b.2 : Int)) && true)) = _
  cases a with | mk x y => cases b with | mk x' y' =>
  by_cases e : x = x'
  · subst e
    by_cases e2 : y = y'
    · subst e2; simp
    · have : ((y : Int) == (y' : Int)) = false := by simp; omega
      simp [this, e2]
  · have : ((x : Int) == (x' : Int)) = false := by simp; omega
    simp [this, e]
theorem any_pairs (l : List (Nat × Nat)) (p : Nat × Nat) : ((l.map pairD).any fun z => PyData.eqv z (pairD p)) = decide (p ∈ l) := by
  rw [List.any_map]
  by_cases e : p ∈ l
  · rw [decide_eq_true e, List.any_eq_true]
    exact ⟨p, e, by simp [eqv_pair]⟩
  · rw [decide_eq_false e, List.any_eq_false]
    intro x hx
    simp only [Function.comp_apply, eqv_pair, decide_eq_true_eq]
    rintro rfl
    exact e hx
theorem shaped_pair (p : Nat × Nat) : SeqAt.shaped (pairD p) = true := by rfl
theorem pairs_lay : ∀ l : List (Nat × Nat), PyData.canLayAll0 (l.map pairD) = true
  | [] => rfl
  | x :: l => by rw [List.map_cons, PyData.canLayAll0, pairs_lay l]; rfl
theorem pairs_dep : ∀ l : List (Nat × Nat), PyData.depthAll (l.map pairD) ≤ 1
  | [] => by simp [PyData.depthAll]
  | x :: l => by
    rw [List.map_cons, PyData.depthAll]
    have := pairs_dep l
    have e : PyData.depth (pairD x) = 1 := rfl
    omega
theorem shaped_pairs (l : List (Nat × Nat)) : SeqAt.shaped (.list (l.map pairD)) = true := by
  unfold SeqAt.shaped
  rw [Bool.and_eq_true]
  refine ⟨pairs_lay l, decide_eq_true ?_⟩
  show PyData.depthAll (l.map pairD) + 1 ≤ 64
  have := pairs_dep l
  omega
theorem noL_pairs : ∀ l : List (Nat × Nat), noLs (l.map pairD) = true
  | [] => rfl
  | x :: l => by rw [List.map_cons, noLs, noL_pairs l]; rfl
/-- numbers of rooms, the same just for those that no tune tells apart -/
def spSorts : Sp := fun vs H Q _ => ∃ (h : Hall) (hv : V), vs = [hv] ∧ h.Ok ∧ Im H [] h.d hv ∧ ∀ (l : Addr) (fs : List Nat) (H' : Hp), Wd H H' [.L l (fs.map nD)] [] → fs.length = h.n → (∀ a b, a < h.n → b < h.n → (fs.getD a 0 = fs.getD b 0 ↔ ¬ Dist h a b)) → Q (.ref l) H'
def kMark (m : Mark) : NestedKey := .tup [.num (m.1 : Nat), .tup (m.2.map fun x : Nat => .num x)]
theorem kDs_nums : ∀ ns : List Nat, kDs (ns.map fun x : Nat => .num x) = ns.map nD
  | [] => rfl
  | n :: ns => by rw [List.map_cons, kDs, kDs_nums ns]; rfl
theorem depth_nums : ∀ ns : List Nat, NestedKey.depthAll (ns.map fun x : Nat => .num x) ≤ 1
  | [] => by simp [NestedKey.depthAll]
  | n :: ns => by
    have := depth_nums ns
    simp only [List.map_cons, NestedKey.depthAll, NestedKey.depth]; omega
theorem kok_mark (m : Mark) : KOk (kMark m) := by
  refine ⟨?_, fun x e => nomatch e⟩
  have := depth_nums m.2
  simp only [kMark, NestedKey.depth, NestedKey.depthAll]; omega
theorem nums_inj : ∀ {a b : List Nat}, a.map (fun x : Nat => NestedKey.num x) = b.map (fun x : Nat => NestedKey.num x) → a = b
  | [], [], _ => rfl
  | [], _ :: _, e => by simp at e
  | _ :: _, [], e => by simp at e
  | a :: as, b :: bs, e => by
    rw [List.map_cons, List.map_cons] at e
    injection e with e1 e2
    injection e1 with e1
    have : a = b := by omega
    rw [this, nums_inj e2]
theorem kMark_inj {a b : Mark} (e : kMark a = kMark b) : a = b := by
  unfold kMark at e
  injection e with e
  injection e with e1 e2
  injection e1 with e1
  injection e2 with e2 _
  injection e2 with e2
  have h1 : a.1 = b.1 := by omega
  have h2 := nums_inj e2
  cases a; cases b
  simp only at h1 h2
  rw [h1, h2]
theorem valK_marks {t : List KA} {ms : List Mark} (h1 : t.map (·.1) = ms.map kMark) (h2 : t.map (·.2.2) = (List.range ms.length).map nV) (nd : ms.Nodup) (m : Mark) : (m ∉ ms ∧ valK t (kMark m) = none) ∨ ∃ k, ms[k]? = some m ∧ valK t (kMark m) = some (nV k) := by
  have e := valK_idx (k := kMark m) h1 (by rw [List.length_map]; exact h2)
  rw [e, List.findIdx?_map]
  cases q : ms.findIdx? ((fun x => decide (x = kMark m)) ∘ kMark) with
  | none =>
    refine .inl ⟨fun hm => ?_, rfl⟩
    have := List.findIdx?_eq_none_iff.mp q m hm
    simp at this
  | some k =>
    obtain ⟨hk, h3, _⟩ := List.findIdx?_eq_some_iff_getElem.mp q
    have : kMark ms[k] = kMark m := by simpa using h3
    exact .inr ⟨k, by rw [List.getElem?_eq_getElem hk, kMark_inj this], rfl⟩
section
variable {P : Program} {w : World} {K : PySem.W.Frag} {mg : Str → Option Value} {base : Heap}
theorem sc_sorts : FnScope ["hall", "found", "many", "marks", "more", "at", "room", "mark", "goal"] ["hall"] (defScope s_sorts) := ⟨rfl, rfl, rfl, by decide +kernel, rfl, by decide +kernel, by decide +kernel⟩
theorem ok_sorts {f : Addr} {fd : FuncData} (F : Fun K "sorts" "sorts" s_sorts f fd) (g_len : mg "len" = none) (g_list : mg "list" = none) (g_tuple : mg "tuple" = none) (g_enumerate : mg "enumerate" = none) :
    FnOk P w K mg base CX0 1 f fd ["hall"] spSorts := by
  refine F.ok sc_sorts (fun vs H Q E h => ?_) (fun cdv A outer s H vs Q E hr h => ?_)
  · obtain ⟨h, hv, rfl, _⟩ := h
    rfl
  · obtain ⟨h, hv, rfl, o, hI, q⟩ := h
    refine ⟨_, (pss_cons (ps_set (i := 1) sc_sorts.nd rfl (Or.inr rfl) (pe_callTy (listOf (K := K) rfl) (by rfl) g_list (by decide +kernel) (pa_cons (pe_ix ix_im (pv 0) pe_int (fun _ _ => rfl)) pa_nil)))
      (pss_cons (ps_set (i := 2) sc_sorts.nd rfl (Or.inl rfl) pe_int)
      (pss_one (ps_while PassesOwn.never (pt_val pe_bl)
        (pss_cons (ps_set (i := 3) sc_sorts.nd rfl (Or.inl rfl) (pe_knew (w := w) rfl))
        (pss_cons (ps_set (i := 4) sc_sorts.nd rfl (Or.inl rfl) (pe_lst pa_nil))
        (pss_cons (ps_for PassesOwn.never rfl (pi_enT (by rfl) g_enumerate (pa_cons (pe_ix ix_im (pv 0) pe_int (fun _ _ => rfl)) pa_nil)) (pg_tup rfl (pgs_cons (pg_name (i := 5) sc_sorts.nd rfl (by first | exact Or.inl rfl | exact Or.inr rfl)) (pgs_cons (pg_name (i := 6) sc_sorts.nd rfl (by first | exact Or.inl rfl | exact Or.inr rfl)) pgs_nil)))
          (pss_cons (ps_set (i := 7) sc_sorts.nd rfl (Or.inl rfl) (pe_tup (pa_cons (pe_ix (ixL (K := K) rfl) (pv 1) (pv 5) (fun _ _ => rfl)) (pa_cons (pe_callTy (tupOf (K := K) rfl) (by rfl) g_tuple (by decide +kernel) (pa_cons (pe_lc (own := [("goal", 8)]) (g := (gName 8)) (tt := tYes) rfl sc_sorts.nd (pi_tup (pv 6)) (blkOk_by (by kernel_rfl)) (fun _ _ _ _ _ => (pg_name (i := 8) sc_sorts.nd rfl (by first | exact Or.inl rfl | exact Or.inr rfl))) (fun _ _ _ _ _ => pts_nil) (fun _ _ _ _ _ => (pe_ix (ixL (K := K) rfl) (pv 1) (pv 8) (fun _ _ => rfl)))) pa_nil)) pa_nil))))
          (pss_one (ps_expr (pe_bm PySem.F.plainAttrs_list PySem.F.slot_list_append PySem.F.type_list_append mt_append (pv 4) (pa_cons (pe_mG ty_dictK PySem.F.plainAttrs_dict PySem.F.slot_dict_setdefault PySem.F.type_dict_setdefault (mt_kdef (w := w) rfl hr.units) (pv 3) (pa_cons (pv 7) (pa_cons (pe_callB (call_klen (w := w) rfl) (by rfl) g_len PySem.boot_len (pa_cons (pv 3) pa_nil)) pa_nil))) pa_nil))))))
        (pss_cons (ps_set (i := 1) sc_sorts.nd rfl (Or.inr rfl) (pv 4))
        (pss_cons (ps_if (pt_cmpR oN_eq (pe_callB (call_klen (w := w) rfl) (by rfl) g_len PySem.boot_len (pa_cons (pv 3) pa_nil)) (pv 2) (nomark _))
          (pss_one (ps_ret (pv 1)))
          pss_nil)
        (pss_one (ps_set (i := 2) sc_sorts.nd rfl (Or.inl rfl) (pe_callB (call_klen (w := w) rfl) (by rfl) g_len PySem.boot_len (pa_cons (pv 3) pa_nil))))))))))))), ?_⟩
    have w0 : Wd H H [] [(h.d, hv)] := Wd.start (by simpa using hI)
    have n600 := o.n600
    -- found = list(hall[2])
    refine ⟨_, rfl, _, _, 2, _, hI, rfl, rfl, fun v1 h1 => ?_⟩
    obtain ⟨al, xl, rfl, el, _, il⟩ := h1
    have exl := il.nats_inv
    subst exl
    refine ⟨al, _, rfl, .inr (SqT.of el), fun lf hlf => ?_⟩
    have w1 : Wd H _ [.L lf (h.lights.map nD)] [(h.d, hv)] := w0.pushL hlf (ImAll.nats h.lights)
    -- while True
    refine ⟨fun m σ H' => ∃ (fs : List Nat) (many : Nat) (lf : Addr) (v3 v4 v5 v6 v7 : Option V), m = h.n - many ∧ Srt h fs many ∧ σ = [some hv, some (.ref lf), some (nV many), v3, v4, v5, v6, v7, none] ∧ Wd H H' [.L lf (fs.map nD)] [(h.d, hv)],
      ⟨_, h.lights, 0, lf, none, none, none, none, none, rfl, Srt.start o, rfl, w1⟩, ?_⟩
    rintro m σ H2 ⟨fs, many, lf, v3, v4, v5, v6, v7, rfl, srt, rfl, w2⟩
    refine ⟨true, rfl, iteT ?_⟩
    refine ⟨_, fun σ' H' hN => hN, fun pm hpm => ?_⟩
    have w3 := w2.pushDict (W := w) hpm
    refine ⟨Nat.zero_le _, fun lm hlm => ?_⟩
    have w4 := w3.pushL (ds := ([] : List Nat).map nD) (xs := []) hlm ImAll.nil
    -- for at, room in enumerate(hall[1])
    refine ⟨_, rfl, _, _, 1, _, w4.get 0, rfl, rfl, fun v1 h1 => ?_⟩
    have w5 := w4.add h1
    obtain ⟨ar, xr, rfl, er, _, _⟩ := h1
    refine ⟨ar, xr, rfl, SqT.of er, for_enD (K := K) (a := ar) (n := h.n) (fun i σ H' => ∃ (ms : List Mark) (more : List Nat) (t : List KA) (v5 v6 v7 : Option V), σ = [some hv, some (.ref lf), some (nV many), some (.ref pm), some (.ref lm), v5, v6, v7, none] ∧
      Pass h fs i ms more ∧ t.map (·.1) = ms.map kMark ∧ t.map (·.2.2) = (List.range ms.length).map nV ∧ Wd H H' [.L lm (more.map nD), dCell w pm t, .L lf (fs.map nD)] [(.tuple (h.rooms.map roomD), .ref ar), (h.d, hv)])
      ⟨[], [], [], v5, v6, v7, rfl, Pass.start, rfl, rfl, w5⟩ (fun i σ H' _ ⟨_, _, _, _, _, _, _, _, _, _, w6⟩ => ?_) ?_ ?_⟩
    · obtain ⟨xs, e1, e2⟩ := (w6.get 0).tupLen
      exact ⟨xs, e1, by rw [e2, List.length_map]; rfl⟩
    · rintro i x xs σ H3 T hi eT ex ⟨ms, more, t, u5, u6, u7, rfl, ps, ht1, ht2, w6⟩ hT
      have ix := (w6.get 0).item (i := i) (d := roomD (h.rooms.getD i [])) eT (by rw [List.getElem?_map, getD_get (d := []) hi]; rfl) ex
      have w7 := (w6.add ix).call (same_new (o := .tup [nV i, x]) hT)
      have hkt : ∀ y ∈ t, KOk y.1 := fun y hy => by
        have : y.1 ∈ ms.map kMark := by rw [← ht1]; exact List.mem_map.mpr ⟨y, hy, rfl⟩
        obtain ⟨m, _, em⟩ := List.mem_map.mp this
        rw [← em]; exact kok_mark m
      have htl : t.length = ms.length := by have := congrArg List.length ht1; simpa using this
      have few := ps.few
      -- mark
      refine ⟨_, rfl, _, rfl, lf, _, _, nV (fs.getD i 0), rfl, rfl, SqL.of (w7.nats 2), atI_nat (by rw [List.getElem?_map, getD_get (d := 0) (by rw [srt.len]; exact hi)]; rfl), ?_⟩
      obtain ⟨ag, xg, rfl, eg, _, ig⟩ := w7.get 0
      have exg := ig.nats_inv
      subst exg
      refine ⟨_, rfl, ag, rfl, ⟨_, SqT.of eg⟩, fun D hD => lc_tupW (K := K) (xs := (h.rooms.getD i []).map nV) (fun j => (((h.rooms.getD i []).map fun g => fs.getD g 0).take j).map nD) w7 hD rfl (fun j hj => ?_) (fun j H4 hj w8 => SqT.of (Im.nats (w8.get 0))) (fun j y H4 hy w8 => CompTurn.all fun Qt k => ?_) (fun H4 w8 => ?_)⟩
      · rw [List.length_map, o.room hi] at hj
        rw [List.length_map, List.length_take]
        have := o.w3
        exact sl_small (by omega)
      · obtain ⟨g, eg2, rfl⟩ : ∃ g, (h.rooms.getD i [])[j]? = some g ∧ y = nV g := by
          rw [List.getElem?_map] at hy
          cases e : (h.rooms.getD i [])[j]? with
          | none => rw [e] at hy; cases hy
          | some g => rw [e] at hy; exact ⟨g, rfl, (Option.some.inj hy).symm⟩
        have hg : g < h.n := room_lt o _ g (List.mem_of_getElem? eg2)
        refine ⟨_, rfl, _, rfl, lf, _, _, nV (fs.getD g 0), rfl, rfl, SqL.of (w8.nats 3), atI_nat (by rw [List.getElem?_map, getD_get (d := 0) (by rw [srt.len]; exact hg)]; rfl), ?_⟩
        refine k _ _ (nD (fs.getD g 0)) w8 rfl ?_
        show ((((h.rooms.getD i []).map fun g => fs.getD g 0).take (j + 1)).map nD) = _
        rw [List.take_add_one, List.getElem?_map, eg2, List.map_append]; rfl
      · have e7 : (((h.rooms.getD i []).map fun g => fs.getD g 0).take ((h.rooms.getD i []).map nV).length) = (h.rooms.getD i []).map fun g => fs.getD g 0 := by
          rw [List.length_map]
          exact List.take_of_length_le (by rw [List.length_map]; exact Nat.le_refl _)
        rw [e7] at w8
        obtain ⟨xl, el, il⟩ := w8.list 0
        refine ⟨D, _, rfl, .inl ⟨SqL.of el, fun p2 hp2 => ?_⟩⟩
        have w9 := w8.tup hp2 il
        refine ⟨(by show 2 ≤ sizeLine; decide), fun p3 hp3 => ?_⟩
        have w10 := (w9.tup hp3 (ImAll.cons (d := nD (fs.getD i 0)) rfl (ImAll.cons (w9.get 0) ImAll.nil))).pop
        have eK : kD (kMark (markOf h fs i)) = .tuple [nD (fs.getD i 0), .tuple (((h.rooms.getD i []).map fun g => fs.getD g 0).map nD)] := by
          show PyData.tuple [_, PyData.tuple (kDs _)] = _
          rw [kDs_nums]; rfl
        have imK := w10.get 0
        rw [← eK] at imK
        have dA := w10.dAt (W := w) 1 (t := t) hkt
        obtain ⟨xm, em, im⟩ := w10.list 0
        have hml : xm.length < sizeLine := by rw [im.length, List.length_map, ps.len]; exact sl_small (by omega)
        have w11 := w10.less (ims' := [(.tuple (h.rooms.map roomD), .ref ar), (h.d, hv)]) (by intro p hp; simp at hp ⊢; rcases hp with rfl | rfl <;> simp)
        refine ⟨_, rfl, .inl ⟨rfl, _, SqL.of em⟩, _, rfl, ⟨pm, t, rfl, dA.at'⟩, _, rfl, _, rfl, _, pm, t, rfl, dA, _, _, pm, t, kMark (markOf h fs i), _, _, rfl, rfl, dA, imK, kok_mark _, sl_small (by omega), fun en => ?_, fun z ez => ?_⟩
        · rcases valK_marks ht1 ht2 ps.nd (markOf h fs i) with ⟨nm, _⟩ | ⟨k, _, e2⟩
          · have w12 := w11.dPut (W := w) 1 (t := t) (v := nV t.length) imK
            obtain ⟨xm2, em2, im2⟩ := w12.list 0
            have hml2 : xm2.length < sizeLine := by rw [im2.length, List.length_map, ps.len]; exact sl_small (by omega)
            refine ⟨lm, _, _, rfl, rfl, em2, hml2, ?_⟩
            have w13 := w12.turnL 0 (ds' := (more ++ [t.length]).map nD) (xs := xm2 ++ [nV t.length]) rfl (by rw [List.map_append]; exact ImAll.snoc (d := nD t.length) (x := nV t.length) im2 rfl)
            exact ⟨_, more ++ [t.length], _, _, _, _, rfl, by rw [htl]; exact ps.new nm, by rw [List.map_append, List.map_append, ht1]; rfl, by rw [List.map_append, ht2, List.length_append, List.length_singleton, List.range_succ, List.map_append, ← htl]; rfl, w13⟩
          · rw [en] at e2; cases e2
        · rcases valK_marks ht1 ht2 ps.nd (markOf h fs i) with ⟨_, e2⟩ | ⟨k, ek, e2⟩
          · rw [ez] at e2; cases e2
          · rw [ez] at e2; cases e2
            refine ⟨lm, _, _, rfl, rfl, em, hml, ?_⟩
            have w13 := w11.turnL 0 (ds' := (more ++ [k]).map nD) (xs := xm ++ [nV k]) rfl (by rw [List.map_append]; exact im.snoc rfl)
            exact ⟨_, _, _, _, _, _, rfl, ps.old ek, ht1, ht2, w13⟩
    · rintro σ H3 ⟨ms, more, t, u5, u6, u7, rfl, ps, ht1, ht2, w6⟩
      have hkt : ∀ y ∈ t, KOk y.1 := fun y hy => by
        have : y.1 ∈ ms.map kMark := by rw [← ht1]; exact List.mem_map.mpr ⟨y, hy, rfl⟩
        obtain ⟨m, _, em⟩ := List.mem_map.mp this
        rw [← em]; exact kok_mark m
      have htl : t.length = ms.length := by have := congrArg List.length ht1; simpa using this
      have dA := w6.dAt (W := w) 1 (t := t) hkt
      have w7 : Wd H H3 [.L lm (more.map nD)] [(h.d, hv)] := (w6.sub (cs' := [.L lm (more.map nD)]) (by simp)).less (by simp)
      refine ⟨_, rfl, _, rfl, _, pm, t, rfl, dA, _, rfl, _, _, rfl, rfl, _, rfl, ?_⟩
      refine ite2 (fun c => ?_) (fun c => ?_)
      · have c : t.length = many := by simpa using c
        exact ⟨_, rfl, q lm more H3 (w7.less (by simp)) ps.len fun a b ha hb => srt.done o ps (by omega) ha hb⟩
      · have c : t.length ≠ many := by simpa using c
        refine ⟨_, rfl, _, pm, t, rfl, dA, ?_⟩
        have le := srt.le o ps
        have few := ps.few
        have mp : h.n - ms.length < h.n - many := by omega
        refine ⟨h.n - t.length, by rw [htl]; exact mp, more, t.length, lm, _, _, _, _, _, rfl, by rw [htl]; exact srt.next o ps, rfl, w7⟩
end
/-- the tight hall is handed back -/
def spTight : Sp := fun vs H Q _ => ∃ (h : Hall) (hv : V), vs = [hv] ∧ h.Ok ∧ Im H [] h.d hv ∧ ∀ v H', Sm H H' → Im H' [] (tightH h).d v → Q v H'
def kN (n : Nat) : NestedKey := .num n
theorem kok_N (n : Nat) : KOk (kN n) := kok_num _
theorem valK_place {t : List KA} {om fs : List Nat} (h1 : t.map (·.1) = om.map (fun r => kN (fs.getD r 0))) (h2 : t.map (·.2.2) = (List.range om.length).map nV) (g : Nat) : valK t (kN (fs.getD g 0)) = (om.findIdx? (fun r => decide (fs.getD r 0 = fs.getD g 0))).map nV := by
  rw [valK_idx h1 (by rw [List.length_map]; exact h2), List.findIdx?_map]
  congr 1
  refine findIdx?_congr fun r _ => ?_
  show decide (kN (fs.getD r 0) = kN (fs.getD g 0)) = _
  by_cases e : fs.getD r 0 = fs.getD g 0
  · rw [decide_eq_true e, decide_eq_true (by rw [e])]
  · rw [decide_eq_false e, decide_eq_false fun q => e (by unfold kN at q; injection q with q; omega)]
theorem keys_place {t : List KA} {om fs : List Nat} (h1 : t.map (·.1) = om.map (fun r => kN (fs.getD r 0))) : ∀ y ∈ t, KOk y.1 := fun y hy => by
  have : y.1 ∈ om.map (fun r => kN (fs.getD r 0)) := by rw [← h1]; exact List.mem_map.mpr ⟨y, hy, rfl⟩
  obtain ⟨m, _, em⟩ := List.mem_map.mp this
  rw [← em]; exact kok_N _
theorem find_last {om : List Nat} {g : Nat} {p : Nat → Bool} (h : om.findIdx? p = none) (hg : p g = true) : (om ++ [g]).findIdx? p = some om.length := by
  rw [List.findIdx?_append, h]; simp [hg]
section
variable {P : Program} {w : World} {K : PySem.W.Frag} {mg : Str → Option Value} {base : Heap}
theorem sc_tight : FnScope ["hall", "sort", "order", "place", "rooms", "at", "row", "goal", "room"] ["hall"] (defScope s_tight) := ⟨rfl, rfl, rfl, by decide +kernel, rfl, by decide +kernel, by decide +kernel⟩
theorem ok_tight {f : Addr} {fd : FuncData} (F : Fun K "tight" "tight" s_tight f fd) (g_len : mg "len" = none) (g_range : mg "range" = none) (g_tuple : mg "tuple" = none)
    (C_sorts : Cal P w K mg base CX0 1 "sorts" ["hall"] spSorts) :
    FnOk P w K mg base CX0 2 f fd ["hall"] spTight := by
  refine F.ok sc_tight (fun vs H Q E h => ?_) (fun cdv A outer s H vs Q E hr h => ?_)
  · obtain ⟨h, hv, rfl, _⟩ := h
    rfl
  · obtain ⟨h, hv, rfl, o, hI, q⟩ := h
    refine ⟨_, (pss_cons (ps_set (i := 1) sc_tight.nd rfl (Or.inl rfl) (pe_fn C_sorts hr (by decide) rfl (pa_cons (pv 0) pa_nil)))
      (pss_cons (ps_set (i := 2) sc_tight.nd rfl (Or.inl rfl) (pe_lst (pa_cons pe_int pa_nil)))
      (pss_cons (ps_set (i := 3) sc_tight.nd rfl (Or.inl rfl) (pe_kone (w := w) rfl hr.units (pe_ix (ixL (K := K) rfl) (pv 1) pe_int (fun _ _ => rfl)) pe_int))
      (pss_cons (ps_set (i := 4) sc_tight.nd rfl (Or.inl rfl) (pe_lst pa_nil))
      (pss_join (ps_for PassesOwn.never rfl (pi_rngN rfl g_range (pa_cons (pe_callB (lenS (K := K) rfl) (by rfl) g_len PySem.boot_len (pa_cons (pe_ix ix_im (pv 0) pe_int (fun _ _ => rfl)) pa_nil)) pa_nil)) (pg_name (i := 5) sc_tight.nd rfl (by first | exact Or.inl rfl | exact Or.inr rfl))
        (pss_cons (ps_if (pt_cmpR oN_eq (pv 5) (pe_callB (lenS (K := K) rfl) (by rfl) g_len PySem.boot_len (pa_cons (pv 2) pa_nil)) (nomark _))
          (pss_one ps_break)
          pss_nil)
        (pss_cons (ps_set (i := 6) sc_tight.nd rfl (Or.inl rfl) (pe_lst pa_nil))
        (pss_cons (ps_for PassesOwn.never rfl (pi_tup (pe_ix ix_im (pe_ix ix_im (pv 0) pe_int (fun _ _ => rfl)) (pe_ix (ixL (K := K) rfl) (pv 2) (pv 5) (fun _ _ => rfl)) (fun _ _ => rfl))) (pg_name (i := 7) sc_tight.nd rfl (by first | exact Or.inl rfl | exact Or.inr rfl))
          (pss_join (ps_if (pt_cmpR (oK_notin (w := w) rfl hr.units) (pe_ix (ixL (K := K) rfl) (pv 1) (pv 7) (fun _ _ => rfl)) (pv 3) rfl)
            (pss_cons (ps_kput (w := w) rfl hr.units (pv 3) (pe_ix (ixL (K := K) rfl) (pv 1) (pv 7) (fun _ _ => rfl)) (pe_callB (lenS (K := K) rfl) (by rfl) g_len PySem.boot_len (pa_cons (pv 2) pa_nil)) rfl)
            (pss_one (ps_expr (pe_bm PySem.F.plainAttrs_list PySem.F.slot_list_append PySem.F.type_list_append mt_append (pv 2) (pa_cons (pv 7) pa_nil)))))
            pss_nil)
          (pss_one (ps_expr (pe_bm PySem.F.plainAttrs_list PySem.F.slot_list_append PySem.F.type_list_append mt_append (pv 6) (pa_cons (pe_ix (ixK (w := w) rfl hr.units) (pv 3) (pe_ix (ixL (K := K) rfl) (pv 1) (pv 7) (fun _ _ => rfl)) (fun _ _ => rfl)) pa_nil))))))
        (pss_one (ps_expr (pe_bm PySem.F.plainAttrs_list PySem.F.slot_list_append PySem.F.type_list_append mt_append (pv 4) (pa_cons (pe_callTy (tupOf (K := K) rfl) (by rfl) g_tuple (by decide +kernel) (pa_cons (pv 6) pa_nil)) pa_nil))))))))
      (pss_one (ps_ret (pe_tup (pa_cons (pe_ix ix_im (pv 0) pe_int (fun _ _ => rfl)) (pa_cons (pe_callTy (tupOf (K := K) rfl) (by rfl) g_tuple (by decide +kernel) (pa_cons (pv 4) pa_nil)) (pa_cons (pe_callTy (tupOf (K := K) rfl) (by rfl) g_tuple (by decide +kernel) (pa_cons (pe_lc (own := [("room", 8)]) (g := (gName 8)) (tt := tYes) rfl sc_tight.nd (pi_list (pv 2)) (blkOk_by (by kernel_rfl)) (fun _ _ _ _ _ => (pg_name (i := 8) sc_tight.nd rfl (by first | exact Or.inl rfl | exact Or.inr rfl))) (fun _ _ _ _ _ => pts_nil) (fun _ _ _ _ _ => (pe_ix ix_im (pe_ix ix_im (pv 0) pe_int (fun _ _ => rfl)) (pv 8) (fun _ _ => rfl)))) pa_nil)) pa_nil))))))))))), ?_⟩
    have w0 : Wd H H [] [(h.d, hv)] := Wd.start (by simpa using hI)
    have n600 := o.n600
    have n1 := o.n1
    refine ⟨_, rfl, h, hv, rfl, o, hI, fun ls fs H1 wS hfl hfs => ?_⟩
    have w1 : Wd H H1 [.L ls (fs.map nD)] [(h.d, hv)] := w0.join1 wS (noL_nats fs)
    refine ⟨(by show 1 ≤ sizeLine; decide), fun lo hlo => ?_⟩
    have w2 : Wd H _ [.L lo ([0].map nD), .L ls (fs.map nD)] [(h.d, hv)] := w1.pushL hlo (ImAll.nats [0])
    have at_sort : ∀ g, g < h.n → atI (fs.map nV) (g : Int) = some (nV (fs.getD g 0)) := fun g hg => atI_nat (by rw [List.getElem?_map, getD_get (d := 0) (by rw [hfl]; exact hg)]; rfl)
    -- place = {sort[0]: 0}
    intro pp hpp
    have w3 := w2.pushDict (W := w) hpp
    refine ⟨_, rfl, ls, _, _, nV (fs.getD 0 0), rfl, rfl, SqL.of (w3.nats 2), at_sort 0 (by omega), [], kN (fs.getD 0 0), upd_same, rfl, kok_N _, ?_⟩
    have w4 := w3.dPut (W := w) 0 (t := []) (k := kN (fs.getD 0 0)) (y := nV (fs.getD 0 0)) (v := nV 0) rfl
    refine ⟨Nat.zero_le _, fun lr hlr => ?_⟩
    have w5 := w4.pushL (ds := ([] : List (List Nat)).map roomD) (xs := []) hlr ImAll.nil
    let Ee : Nat → Nat → Bool := fun r g => decide (fs.getD r 0 = fs.getD g 0)
    have hE : ∀ a, a < h.n → Ee a a = true := fun a ha => decide_eq_true rfl
    have hEs : ∀ a b, a < h.n → b < h.n → Ee a b = same h a b := fun a b ha hb => by
      have := hfs a b ha hb
      show decide (fs.getD a 0 = fs.getD b 0) = same h a b
      cases e : same h a b with
      | true => exact decide_eq_true (this.mpr (same_iff.mp e))
      | false => exact decide_eq_false fun z => by rw [same_iff.mpr (this.mp z)] at e; cases e
    have up : ∀ i, (∀ j, j < i → j < (meetAll Ee h j).1.length) → i ≤ (meetAll Ee h i).1.length := fun i hlt => by
      cases i with
      | zero => exact Nat.zero_le _
      | succ j =>
        obtain ⟨more, e⟩ := meetAll_more (E := Ee) o j
        have := hlt j (by omega)
        rw [e, List.length_append]; omega
    -- for at in range(len(hall[1]))
    refine ⟨fun σ H' => ∃ (t : List KA) (v5 v6 v7 : Option V), σ = [some hv, some (.ref ls), some (.ref lo), some (.ref pp), some (.ref lr), v5, v6, v7, none] ∧
      Wd H H' [.L lr ((meetAll Ee h (tightN Ee h)).2.map roomD), dCell w pp t, .L lo ((meetAll Ee h (tightN Ee h)).1.map nD), .L ls (fs.map nD)] [(h.d, hv)], ?_, ?_⟩
    · refine at_for (x_rng (x_cons (t_n (w5.get 0) ⟨h.n, rfl, by omega, for_rng (fun i σ H' => ∃ (t : List KA) (v5 v6 v7 : Option V), (∀ j, j < i → j < (meetAll Ee h j).1.length) ∧ σ = [some hv, some (.ref ls), some (.ref lo), some (.ref pp), some (.ref lr), v5, v6, v7, none] ∧
        t.map (·.1) = (meetAll Ee h i).1.map (fun r => kN (fs.getD r 0)) ∧ t.map (·.2.2) = (List.range (meetAll Ee h i).1.length).map nV ∧
        Wd H H' [.L lr ((meetAll Ee h i).2.map roomD), dCell w pp t, .L lo ((meetAll Ee h i).1.map nD), .L ls (fs.map nD)] [(h.d, hv)])
        ⟨_, none, none, none, fun j hj => by omega, rfl, rfl, rfl, w5⟩ ?_ ?_⟩)))
      · rintro i σ H2 hi ⟨t, v5, v6, v7, hlt, rfl, ht1, ht2, w6⟩
        have eo := w6.nats 2
        refine ⟨_, rfl, _, rfl, lo, _, rfl, .inl (SqL.of eo), _, _, rfl, rfl, _, rfl, ?_⟩
        rw [List.length_map]
        refine ite2 (fun c => ?_) (fun c => ?_)
        · have c : i = (meetAll Ee h i).1.length := by simpa using c
          have ek : tightN Ee h = i := tightN_eq o hE hlt (by omega)
          refine ⟨t, _, _, _, rfl, ?_⟩
          rw [ek]; exact w6
        · have c : i ≠ (meetAll Ee h i).1.length := by simpa using c
          have c : i < (meetAll Ee h i).1.length := by have := up i hlt; omega
          have hro : (meetAll Ee h i).1.getD i 0 < h.n := (meetAll_met o i).lt _ (getD_mem c)
          -- row = []
          refine ⟨Nat.zero_le _, fun lw hlw => ?_⟩
          have w7 := w6.pushL (ds := ([] : List Nat).map nD) (xs := []) hlw ImAll.nil
          refine ⟨_, rfl, _, _, 1, _, w7.get 0, rfl, rfl, fun v1 h1 => ⟨_, rfl, _, rfl, lo, _, _, nV ((meetAll Ee h i).1.getD i 0), rfl, rfl, SqL.of (w7.nats 3), atI_nat (by rw [List.getElem?_map, getD_get (d := 0) c]; rfl), _, _, _, _, h1, rfl, at_rooms hro, fun v2 h2 => ?_⟩⟩
          have w8 := w7.add h2
          obtain ⟨ag, xg, rfl, eg, _, ig⟩ := h2
          have exg := ig.nats_inv
          subst exg
          refine ⟨ag, rfl, ⟨_, SqT.of eg⟩, for_tup (K := K) (a := ag) (xs := (h.rooms.getD ((meetAll Ee h i).1.getD i 0) []).map nV) (fun j σ H' => ∃ (t : List KA) (v7 : Option V), σ = [some hv, some (.ref ls), some (.ref lo), some (.ref pp), some (.ref lr), some (nV i), some (.ref lw), v7, none] ∧
            t.map (·.1) = (meetRow Ee (meetAll Ee h i).1 [] ((h.rooms.getD ((meetAll Ee h i).1.getD i 0) []).take j)).1.map (fun r => kN (fs.getD r 0)) ∧ t.map (·.2.2) = (List.range (meetRow Ee (meetAll Ee h i).1 [] ((h.rooms.getD ((meetAll Ee h i).1.getD i 0) []).take j)).1.length).map nV ∧
            Wd H H' [.L lw ((meetRow Ee (meetAll Ee h i).1 [] ((h.rooms.getD ((meetAll Ee h i).1.getD i 0) []).take j)).2.map nD), .L lr ((meetAll Ee h i).2.map roomD), dCell w pp t, .L lo ((meetRow Ee (meetAll Ee h i).1 [] ((h.rooms.getD ((meetAll Ee h i).1.getD i 0) []).take j)).1.map nD), .L ls (fs.map nD)] [(roomD (h.rooms.getD ((meetAll Ee h i).1.getD i 0) []), .ref ag), (h.d, hv)])
            ⟨t, v7, rfl, ht1, ht2, w8⟩ (fun j σ H' _ ⟨_, _, _, _, _, w9⟩ => SqT.of (Im.nats (w9.get 0))) ?_ ?_⟩
          · rintro j x σ H3 hx ⟨t, u7, rfl, ht1, ht2, w9⟩
            obtain ⟨g, eg2, rfl⟩ : ∃ g, (h.rooms.getD ((meetAll Ee h i).1.getD i 0) [])[j]? = some g ∧ x = nV g := by
              rw [List.getElem?_map] at hx
              cases e : (h.rooms.getD ((meetAll Ee h i).1.getD i 0) [])[j]? with
              | none => rw [e] at hx; cases hx
              | some g => rw [e] at hx; exact ⟨g, rfl, (Option.some.inj hx).symm⟩
            have hg : g < h.n := room_lt o _ g (List.mem_of_getElem? eg2)
            have etk : (h.rooms.getD ((meetAll Ee h i).1.getD i 0) []).take (j + 1) = (h.rooms.getD ((meetAll Ee h i).1.getD i 0) []).take j ++ [g] := by
              rw [List.take_add_one, eg2]; rfl
            have hmet := (Met.row (E := Ee) ((h.rooms.getD ((meetAll Ee h i).1.getD i 0) []).take j) (row := []) (meetAll_met o i) fun y hy => room_lt o _ y (List.mem_of_mem_take hy)).1
            have hrl := meetRow_len (E := Ee) ((h.rooms.getD ((meetAll Ee h i).1.getD i 0) []).take j) (meetAll Ee h i).1 []
            have hrl3 : (meetRow Ee (meetAll Ee h i).1 [] ((h.rooms.getD ((meetAll Ee h i).1.getD i 0) []).take j)).2.length ≤ 3 := by
              rw [hrl, List.length_take, o.room hro]; have := o.w3; simp; omega
            rw [etk, meetRow_snoc]
            generalize hom : (meetRow Ee (meetAll Ee h i).1 [] ((h.rooms.getD ((meetAll Ee h i).1.getD i 0) []).take j)).1 = om at *
            generalize hrw : (meetRow Ee (meetAll Ee h i).1 [] ((h.rooms.getD ((meetAll Ee h i).1.getD i 0) []).take j)).2 = rw2 at *
            have homl := hmet.len hE
            have htl : t.length = om.length := by have := congrArg List.length ht1; simpa using this
            have dA := w9.dAt (W := w) 2 (t := t) (keys_place ht1)
            have hva := valK_place ht1 ht2 g
            -- if sort[goal] not in place
            refine ⟨fun σ H' => ∃ (t : List KA), [some hv, some (.ref ls), some (.ref lo), some (.ref pp), some (.ref lr), some (nV i), some (.ref lw), some (nV g), none] = σ ∧
              t.map (·.1) = (meet Ee om g).1.map (fun r => kN (fs.getD r 0)) ∧ t.map (·.2.2) = (List.range (meet Ee om g).1.length).map nV ∧ valK t (kN (fs.getD g 0)) = some (nV (meet Ee om g).2) ∧
              Wd H H' [.L lw (rw2.map nD), .L lr ((meetAll Ee h i).2.map roomD), dCell w pp t, .L lo ((meet Ee om g).1.map nD), .L ls (fs.map nD)] [(roomD (h.rooms.getD ((meetAll Ee h i).1.getD i 0) []), .ref ag), (h.d, hv)], ?_, ?_⟩
            · refine ⟨_, rfl, _, rfl, ls, _, _, nV (fs.getD g 0), rfl, rfl, SqL.of (w9.nats 4), at_sort g hg, _, rfl, _, [], pp, t, kN (fs.getD g 0), rfl, dA, rfl, kok_N _, _, rfl, ?_⟩
              rw [hva]
              cases hf : om.findIdx? (fun r => decide (fs.getD r 0 = fs.getD g 0)) with
              | some k =>
                have em : meet Ee om g = (om, k) := by unfold meet; rw [show om.findIdx? (fun r => Ee r g) = some k from hf]
                refine iteF ?_
                rw [hf] at hva
                rw [em]
                exact ⟨t, rfl, ht1, ht2, hva, w9⟩
              | none =>
                have em : meet Ee om g = (om ++ [g], om.length) := by unfold meet; rw [show om.findIdx? (fun r => Ee r g) = none from hf]
                refine iteT ?_
                rw [hf] at hva
                refine ⟨_, rfl, lo, _, rfl, .inl (SqL.of (w9.nats 3)), _, rfl, _, rfl, _, rfl, ls, _, _, nV (fs.getD g 0), rfl, rfl, SqL.of (w9.nats 4), at_sort g hg, _, [], pp, t, kN (fs.getD g 0), rfl, dA, rfl, kok_N _, hva, sl_small (by omega), ?_⟩
                rw [List.length_map]
                have w10 := w9.dPut (W := w) 2 (t := t) (k := kN (fs.getD g 0)) (y := nV (fs.getD g 0)) (v := nV om.length) rfl
                have eo10 := w10.nats 3
                refine ⟨_, rfl, .inl ⟨rfl, _, SqL.of eo10⟩, _, rfl, lo, _, _, rfl, rfl, eo10, by rw [List.length_map]; exact sl_small (by omega), ?_⟩
                have w11 := w10.turnL 3 (ds' := (om ++ [g]).map nD) (xs := om.map nV ++ [nV g]) rfl (ImAll.natsS om g)
                rw [em]
                have k1 : (t ++ [(kN (fs.getD g 0), nV (fs.getD g 0), nV om.length)]).map (·.1) = (om ++ [g]).map (fun r => kN (fs.getD r 0)) := by rw [List.map_append, List.map_append, ht1]; rfl
                have k2 : (t ++ [(kN (fs.getD g 0), nV (fs.getD g 0), nV om.length)]).map (·.2.2) = (List.range (om ++ [g]).length).map nV := by
                  rw [List.map_append, ht2, List.length_append, List.length_singleton, List.range_succ, List.map_append]; rfl
                refine ⟨_, rfl, k1, k2, ?_, w11⟩
                rw [valK_place k1 k2 g, find_last hf (by simp)]; rfl
            · rintro σ H4 ⟨t', rfl, ht1', ht2', hv', w10⟩
              have dA' := w10.dAt (W := w) 2 (t := t') (keys_place ht1')
              obtain ⟨xw, ew, iw⟩ := w10.list 0
              refine ⟨_, rfl, .inl ⟨rfl, _, SqL.of ew⟩, _, rfl, _, rfl, _, rfl, ls, _, _, nV (fs.getD g 0), rfl, rfl, SqL.of (w10.nats 4), at_sort g hg, _, [], pp, t', kN (fs.getD g 0), _, rfl, dA', rfl, kok_N _, hv', lw, _, _, rfl, rfl, ew, by rw [iw.length, List.length_map]; exact sl_small (by omega), ?_⟩
              have w11 := w10.turnL 0 (ds' := (rw2 ++ [(meet Ee om g).2]).map nD) (xs := xw ++ [nV (meet Ee om g).2]) rfl (by rw [List.map_append]; exact ImAll.snoc (d := nD (meet Ee om g).2) (x := nV (meet Ee om g).2) iw rfl)
              exact ⟨t', _, rfl, ht1', ht2', w11⟩
          · rintro σ H3 ⟨t, u7, rfl, ht1, ht2, w9⟩
            rw [List.length_map, List.take_length] at w9 ht1 ht2
            -- rooms.append(tuple(row))
            obtain ⟨xr7, er7, ir7⟩ := w9.list 1
            obtain ⟨xw7, ew7, iw7⟩ := w9.list 0
            refine ⟨_, rfl, .inl ⟨rfl, _, SqL.of er7⟩, _, rfl, lw, _, rfl, .inl ⟨SqL.of ew7, fun p hp => ?_⟩⟩
            have w10 := w9.tup hp iw7
            obtain ⟨xr8, er8, ir8⟩ := w10.list 1
            refine ⟨lr, _, _, rfl, rfl, er8, ?_, ?_⟩
            · rw [ir8.length, List.length_map, meetAll_rows]; exact sl_small (by omega)
            have w11 := (w10.turnL 1 rfl (ir8.snoc (w10.get 0))).pop
            refine ⟨t, _, _, _, fun j hj => ?_, rfl, ht1, ht2, ?_⟩
            · by_cases e : j = i
              · subst e; exact c
              · exact hlt j (by omega)
            · have e2 : (meetAll Ee h (i + 1)).2.map roomD = (meetAll Ee h i).2.map roomD ++ [roomD (meetRow Ee (meetAll Ee h i).1 [] (h.rooms.getD ((meetAll Ee h i).1.getD i 0) [])).2] := by
                rw [meetAll, List.map_append]; rfl
              rw [e2]
              exact w11.less (by simp)
      · rintro σ H2 ⟨t, v5, v6, v7, hlt, rfl, ht1, ht2, w6⟩
        have ek : tightN Ee h = h.n := tightN_eq o hE hlt ((meetAll_met o _).len hE)
        refine ⟨t, _, _, _, rfl, ?_⟩
        rw [ek]; exact w6
    · rintro σ H2 ⟨t, v5, v6, v7, rfl, w4⟩
      have et : tightOf Ee h = tightH h := tightOf_congr o hE hEs
      have et2 : (tightH h).d = .tuple [nD h.w, .tuple ((meetAll Ee h (tightN Ee h)).2.map roomD), .tuple (((meetAll Ee h (tightN Ee h)).1.map h.lit).map nD)] := by rw [← et]; rfl
      have hlen := (tightN_spec (E := Ee) o hE).1
      have hle := (tightN_spec (E := Ee) o hE).2.2.1
      have hmet := meetAll_met (E := Ee) o (tightN Ee h)
      generalize tightN Ee h = i at *
      obtain ⟨xr4, er4, ir4⟩ := w4.list 0
      refine at_ret (x_tup (x_cons (t_w (w4.get 0) ⟨_, rfl, lr, _, rfl, .inl ⟨SqL.of er4, fun p hp => ?_⟩⟩)))
      have w5 := w4.tup hp ir4
      have eo5 := w5.nats 2
      refine ⟨_, rfl, lo, rfl, ⟨_, SqL.of eo5⟩, fun D hD => lc_listW (K := K) (xs := (meetAll Ee h i).1.map nV) (fun j => (((meetAll Ee h i).1.map h.lit).take j).map nD) w5 hD rfl (fun j hj => ?_) (fun j H3 hj w6 => SqL.of (w6.nats 3)) (fun j x H3 hx w6 => CompTurn.all fun Qt k => ?_) (fun H3 w6 => ?_)⟩
      · rw [List.length_map] at hj
        rw [List.length_map, List.length_take, List.length_map]
        exact sl_small (by omega)
      · obtain ⟨r, er2, rfl⟩ : ∃ r, (meetAll Ee h i).1[j]? = some r ∧ x = nV r := by
          rw [List.getElem?_map] at hx
          cases e : (meetAll Ee h i).1[j]? with
          | none => rw [e] at hx; cases hx
          | some g => rw [e] at hx; exact ⟨g, rfl, (Option.some.inj hx).symm⟩
        refine t_lit o (w6.get 1) (hmet.lt r (List.mem_of_getElem? er2)) ?_
        refine k _ _ (nD (h.lit r)) w6 rfl ?_
        show ((((meetAll Ee h i).1.map h.lit).take (j + 1)).map nD) = _
        rw [List.take_add_one, List.getElem?_map, er2, List.map_append]; rfl
      · have e7 : (((meetAll Ee h i).1.map h.lit).take ((meetAll Ee h i).1.map nV).length) = (meetAll Ee h i).1.map h.lit := by
          rw [List.length_map]
          exact List.take_of_length_le (by rw [List.length_map]; exact Nat.le_refl _)
        rw [e7] at w6
        obtain ⟨xl, el, il⟩ := w6.list 0
        refine ⟨D, _, rfl, .inl ⟨SqL.of el, fun p2 hp2 => ?_⟩⟩
        have w7 := w6.tup hp2 il
        refine ⟨(by show 3 ≤ sizeLine; decide), fun p3 hp3 => ?_⟩
        have w8 := w7.tup hp3 (ImAll.cons (d := nD h.w) rfl (ImAll.cons (w7.get 1) (ImAll.cons (w7.get 0) ImAll.nil)))
        refine q _ _ w8.same ?_
        rw [et2]
        exact (w8.get 0).bare
end
/-! ### tunes -/
def okTune (w : Nat) : PyData → Bool
  | .str z => z.cps.toList.all fun c => decide (97 ≤ c ∧ c < 97 + w)
  | _ => false
theorem okTune_tune {w : Nat} {t : List Nat} (h : ∀ c ∈ t, c < w) : okTune w (.str (tuneS t)) = true := by
  show (tuneS t).cps.toList.all _ = true
  rw [tuneS_cps, List.all_map, List.all_eq_true]
  intro c hc
  have := h c hc
  simp; omega
theorem mem_letters {w c : Nat} : c ∈ (tuneS (List.range w)).cps.toList ↔ 97 ≤ c ∧ c < 97 + w := by
  rw [tuneS_cps, List.mem_map]
  constructor
  · rintro ⟨a, ha, rfl⟩
    have : a < w := by simpa using ha
    omega
  · rintro ⟨h1, h2⟩
    exact ⟨c - 97, by simp; omega, by omega⟩
def spLetters : Sp := fun vs H Q _ => ∃ w : Nat, vs = [nV w] ∧ w ≤ 3 ∧ Q (.str (tuneS (List.range w))) H
def spLookTune (C : Addr) : Sp := fun vs H Q E => ∃ (Z : List Addr) (d : PyData) (x : V) (w : Nat), vs = [x, nV w] ∧ Im H Z d x ∧ w ≤ 3 ∧ (okTune w d = true → Q .non H) ∧ (okTune w d = false → E (.ref C) none H)
def spLed : Sp := fun vs H Q _ => ∃ (Z : List Addr) (h : Hall) (hv : V) (r : Nat) (t : List Nat), vs = [hv, nV r, .str (tuneS t)] ∧ h.Ok ∧ Im H Z h.d hv ∧ r < h.n ∧ (∀ c ∈ t, c < h.w) ∧ Q (nV (h.run r t)) H
/-- whether a tune is good -/
def Hall.good (h : Hall) (t : List Nat) : Bool := decide (h.lit (h.run 0 t) = 1)
def spHas (C : Addr) : Sp := fun vs H Q E => ∃ (Z : List Addr) (h : Hall) (hv : V) (Z' : List Addr) (d : PyData) (x : V), vs = [hv, x] ∧ h.Ok ∧ Im H Z h.d hv ∧ Im H Z' d x ∧
  (∀ t, d = .str (tuneS t) → (∀ c ∈ t, c < h.w) → Q (.bl (h.good t)) H) ∧ (okTune h.w d = false → E (.ref C) none H)
def spLgood : Sp := fun vs H Q _ => ∃ (Z : List Addr) (h : Hall) (hv : V) (t : List Nat), vs = [hv, .str (tuneS t)] ∧ h.Ok ∧ Im H Z h.d hv ∧ (∀ c ∈ t, c < h.w) ∧ Q (.bl (h.good t)) H
/-- a text of whistles alone is a tune -/
theorem okTune_inv {w : Nat} {z : Str} (h : okTune w (.str z) = true) : ∃ t, z = tuneS t ∧ ∀ c ∈ t, c < w := by
  have h : z.cps.toList.all (fun c => decide (97 ≤ c ∧ c < 97 + w)) = true := h
  rw [List.all_eq_true] at h
  refine ⟨z.cps.toList.map (· - 97), ?_, fun c hc => ?_⟩
  · obtain ⟨⟨l⟩⟩ := z
    unfold tuneS
    congr 1
    show Array.mk l = _
    rw [List.map_map]
    have : l.map ((fun x => x + 97) ∘ fun x => x - 97) = l := by
      conv => rhs; rw [← List.map_id l]
      refine List.map_congr_left fun c hc => ?_
      have := h c hc
      simp at this
      simp; omega
    simp only [this]
  · obtain ⟨a, ha, rfl⟩ := List.mem_map.mp hc
    have := h a ha
    simp at this
    omega
def lawTune (ns : List Int) (t w most : Nat) : List Nat := (List.range (mix (ns.getD t 0) 9931 (most + 1))).map fun (k : Nat) => mix (ns.getD t 0 + ((41 * k * k : Nat) : Int)) 9923 w
theorem lawTune_lt (ns : List Int) (t most : Nat) {w : Nat} (hw : 0 < w) : ∀ c ∈ lawTune ns t w most, c < w := fun c hc => by
  obtain ⟨k, _, rfl⟩ := List.mem_map.mp hc
  exact mix_lt _ _ hw
theorem lawTune_len (ns : List Int) (t w most : Nat) : (lawTune ns t w most).length ≤ most := by
  unfold lawTune
  rw [List.length_map, List.length_range]
  exact Nat.le_of_lt_succ (mix_lt (ns.getD t 0) 9931 (Nat.succ_pos most))
def spLtune (K : PySem.W.Frag) : Sp := fun vs H Q _ => ∃ (a : Addr) (ns : List Int) (t w most : Nat), vs = [.ref a, nV t, nV w, nV most] ∧ SqL K H a (ns.map V.int) ∧ 1 ≤ w ∧ w ≤ 3 ∧ most ≤ 1000 ∧ ∀ H', Sm H H' → Q (.str (tuneS (lawTune ns t w most))) H'
theorem joinL_ones : ∀ t : List Nat, TL.joinL [] (t.map fun c => [c + 97]) = t.map (· + 97)
  | [] => rfl
  | [c] => rfl
  | c :: d :: t => by
    have := joinL_ones (d :: t)
    show [c + 97] ++ ([] ++ TL.joinL [] ((d :: t).map fun c => [c + 97])) = _
    rw [this]; rfl
theorem str_ext {x y : Str} (h : x.cps.toList = y.cps.toList) : x = y := by
  obtain ⟨⟨a⟩⟩ := x
  obtain ⟨⟨b⟩⟩ := y
  have : a = b := h
  subst this; rfl
theorem join_ones (t : List Nat) : Txt.join "" (t.map fun c => (⟨#[c + 97]⟩ : Str)) = tuneS t := by
  refine str_ext ?_
  rw [TL.join_eq]
  have h := TL.tl_join "" (t.map fun c => (⟨#[c + 97]⟩ : Str))
  rw [List.map_map] at h
  exact h.trans (joinL_ones t)
section
variable {P : Program} {w : World} {K : PySem.W.Frag} {mg : Str → Option Value} {base : Heap}
theorem sc_letters : FnScope ["whistles"] ["whistles"] (defScope s_letters) := ⟨rfl, rfl, rfl, by decide +kernel, rfl, by decide +kernel, by decide +kernel⟩
theorem ok_letters {f : Addr} {fd : FuncData} (F : Fun K "letters" "letters" s_letters f fd) : FnOk P w K mg base CX0 1 f fd ["whistles"] spLetters := by
  refine F.ok sc_letters (fun vs H Q E h => ?_) (fun cdv A outer s H vs Q E hr h => ?_)
  · obtain ⟨_, rfl, _⟩ := h
    rfl
  · obtain ⟨w, rfl, hw, q⟩ := h
    refine ⟨_, (pss_one (ps_ret (pe_slice sl_abc pe_str po_none (po_some (pv 0))))), ?_⟩
    exact ⟨_, rfl, _, rfl, w, rfl, rfl, rfl, hw, q⟩
theorem sc_look_tune : FnScope ["tune", "whistles", "sign"] ["tune", "whistles"] (defScope s_look_tune) := ⟨rfl, rfl, rfl, by decide +kernel, rfl, by decide +kernel, by decide +kernel⟩
theorem ok_look_tune {f cT : Addr} {fd : FuncData} (F : Fun K "look_tune" "look_tune" s_look_tune f fd) (g_isinstance : mg "isinstance" = none) (g_str : mg "str" = none) (X_BadTune : XCls K mg "BadTune" cT) (C_letters : Cal P w K mg base CX0 1 "letters" ["whistles"] spLetters) :
    FnOk P w K mg base (L2.CX P w) 2 f fd ["tune", "whistles"] (spLookTune cT) := by
  refine F.okX sc_look_tune (fun vs H Q E h => ?_) (fun cdv A outer s H vs Q E hr h => ?_)
  · obtain ⟨_, _, _, _, rfl, _⟩ := h
    rfl
  · obtain ⟨Z, d, x, w, rfl, im, hw, q1, q2⟩ := h
    refine ⟨_, (pss_cons (ps_if (pt_not (pt_val (pe_callB (isD (T := "str") (by decide)) (by rfl) g_isinstance (by decide +kernel) (pa_cons (pv 0) (pa_cons (pe_bltn (v := .ty "str") (by rfl) g_str (by decide +kernel) rfl) pa_nil)))))
        (pss_one (ps_raise rfl (takes_of rfl rfl rfl rfl) (X_BadTune.mk1 rfl)))
        pss_nil)
      (pss_one (ps_for (passes_of rfl) rfl (pi_str (pv 0)) (pg_name (i := 2) sc_look_tune.nd rfl (by first | exact Or.inl rfl | exact Or.inr rfl))
        (pss_one (ps_if (pt_cmpR op_notIn_sign (pv 2) (pe_fn C_letters hr (by decide) rfl (pa_cons (pv 1) pa_nil)) rfl)
          (pss_one (ps_raise rfl (takes_of rfl rfl rfl rfl) (X_BadTune.mk1 rfl)))
          pss_nil))))), ?_⟩
    refine ⟨_, rfl, Z, d, x, rfl, im, _, rfl, ?_⟩
    have noS : (∀ z, d ≠ .str z) → isT d "str" = false ∧ okTune w d = false := fun hn => by
      cases d with
      | str z => exact absurd rfl (hn z)
      | _ => exact ⟨by dsimp only [isT, tyN]; decide +kernel, rfl⟩
    by_cases hs : ∃ z, d = .str z
    · obtain ⟨z, rfl⟩ := hs
      have im : x = .str z := im
      subst im
      have e1 : isT (.str z) "str" = true := by dsimp only [isT, tyN]; decide +kernel
      rw [e1]
      refine iteF ?_
      refine ⟨_, rfl, z, rfl, for_str (fun i σ H' => ∃ v2, σ = [some (.str z), some (nV w), v2] ∧ H = H' ∧ (z.cps.toList.take i).all (fun c => decide (97 ≤ c ∧ c < 97 + w)) = true) ⟨none, rfl, rfl, by simp⟩ ?_ ?_⟩
      · rintro i c σ H' hc ⟨v2, rfl, rfl, hall⟩
        refine ⟨_, rfl, _, rfl, w, rfl, hw, c, _, rfl, rfl, _, rfl, ?_⟩
        refine ite2 (fun e => ?_) (fun e => ?_)
        · refine q2 ?_
          show z.cps.toList.all _ = false
          rw [List.all_eq_false]
          refine ⟨c, List.mem_of_getElem? hc, ?_⟩
          have e : ¬ c ∈ (tuneS (List.range w)).cps.toList := by simpa using e
          rw [mem_letters] at e
          simpa using e
        · refine ⟨_, rfl, rfl, ?_⟩
          have e : c ∈ (tuneS (List.range w)).cps.toList := by simpa using e
          rw [mem_letters] at e
          rw [List.take_add_one, hc, List.all_append, hall]
          simpa using e
      · rintro σ H' ⟨v2, rfl, rfl, hall⟩
        rw [List.take_length] at hall
        exact q1 hall
    · obtain ⟨e1, e2⟩ := noS fun z e => hs ⟨z, e⟩
      rw [e1]
      exact iteT (q2 e2)
theorem sc_l_room : FnScope ["hall", "room", "tune", "sign"] ["hall", "room", "tune"] (defScope s_l_room) := ⟨rfl, rfl, rfl, by decide +kernel, rfl, by decide +kernel, by decide +kernel⟩
theorem ok_l_room {f : Addr} {fd : FuncData} (F : Fun K "_law_room" "_law_room" s_l_room f fd) : FnOk P w K mg base CX0 1 f fd ["hall", "room", "tune"] spLed := by
  refine F.ok sc_l_room (fun vs H Q E h => ?_) (fun cdv A outer s H vs Q E hr h => ?_)
  · obtain ⟨_, _, _, _, _, rfl, _⟩ := h
    rfl
  · obtain ⟨Z, h, hv, r, t, rfl, o, hI, hr0, ht, q⟩ := h
    refine ⟨_, (pss_cons (ps_for PassesOwn.never rfl (pi_str (pv 2)) (pg_name (i := 3) sc_l_room.nd rfl (by first | exact Or.inl rfl | exact Or.inr rfl))
        (pss_one (ps_set (i := 1) sc_l_room.nd rfl (Or.inl rfl) (pe_ix ix_im (pe_ix ix_im (pe_ix ix_im (pv 0) pe_int (fun _ _ => rfl)) (pv 1) (fun _ _ => rfl)) (pe_m1 PySem.F.slot_str_index PySem.F.type_str_index mt_abc pe_str (pv 3)) (fun _ _ => rfl)))))
      (pss_one (ps_ret (pv 1)))), ?_⟩
    refine ⟨_, rfl, tuneS t, rfl, for_str (fun i σ H' => ∃ v3, σ = [some hv, some (nV (h.run r (t.take i))), some (.str (tuneS t)), v3] ∧ H = H') ⟨none, rfl, rfl⟩ ?_ ?_⟩
    · rintro i c σ H' hc ⟨v3, rfl, rfl⟩
      rw [tuneS_cps, List.getElem?_map] at hc
      cases e : t[i]? with
      | none => rw [e] at hc; cases hc
      | some d =>
        rw [e] at hc
        have hc : d + 97 = c := Option.some.inj hc
        subst hc
        have hd : d < h.w := ht d (List.mem_of_getElem? e)
        have hrun : h.run r (t.take i) < h.n := o.run_lt hr0 fun x hx => ht x (List.mem_of_mem_take hx)
        have w3 := o.w3
        refine ⟨_, rfl, Z, _, 1, _, hI, rfl, rfl, fun v1 h1 => ⟨_, rfl, Z, _, _, _, h1, rfl, at_rooms hrun, fun v2 h2 => ⟨⟨_, rfl⟩, _, rfl, d, rfl, rfl, by omega, Z, _, _, _, h2, rfl, at_room o hrun hd, fun v4 h4 => ?_⟩⟩⟩
        have h4 : v4 = nV (h.go (h.run r (t.take i)) d) := h4
        subst h4
        refine ⟨some (.str ⟨#[d + 97]⟩), ?_, rfl⟩
        rw [List.take_add_one, e, Hall.run_app]
        rfl
    · rintro σ H' ⟨v3, rfl, rfl⟩
      refine ⟨_, rfl, ?_⟩
      rw [tuneS_cps, List.length_map, List.take_length]
      exact q
theorem sc_l_good : FnScope ["hall", "tune"] ["hall", "tune"] (defScope s_l_good) := ⟨rfl, rfl, rfl, by decide +kernel, rfl, by decide +kernel, by decide +kernel⟩
theorem ok_l_good {f : Addr} {fd : FuncData} (F : Fun K "_law_good" "_law_good" s_l_good f fd) (C_l_room : Cal P w K mg base CX0 1 "_law_room" ["hall", "room", "tune"] spLed) : FnOk P w K mg base CX0 2 f fd ["hall", "tune"] spLgood := by
  refine F.ok sc_l_good (fun vs H Q E h => ?_) (fun cdv A outer s H vs Q E hr h => ?_)
  · obtain ⟨_, _, _, _, rfl, _⟩ := h
    rfl
  · obtain ⟨Z, h, hv, t, rfl, o, hI, ht, q⟩ := h
    refine ⟨_, (pss_one (ps_ret (pe_cmpR oN_eq (pe_ix ix_im (pe_ix ix_im (pv 0) pe_int (fun _ _ => rfl)) (pe_fn C_l_room hr (by decide) rfl (pa_cons (pv 0) (pa_cons pe_int (pa_cons (pv 1) pa_nil)))) (fun _ _ => rfl)) pe_int (nomark _)))), ?_⟩
    refine ⟨_, rfl, Z, _, 2, _, hI, rfl, rfl, fun v1 h1 => ⟨_, rfl, _, rfl, Z, h, hv, 0, t, rfl, o, hI, o.n1, ht, Z, _, _, _, h1, rfl, at_lit o (o.run_lt o.n1 ht), fun v2 h2 => ?_⟩⟩
    have h2 : v2 = nV (h.lit (h.run 0 t)) := h2
    subst h2
    exact ⟨_, 1, rfl, rfl, q⟩
theorem sc_l_tune : FnScope ["script", "at", "whistles", "most", "cell", "size", "k"] ["script", "at", "whistles", "most"] (defScope s_l_tune) := ⟨rfl, rfl, rfl, by decide +kernel, rfl, by decide +kernel, by decide +kernel⟩
theorem ok_l_tune {f : Addr} {fd : FuncData} (F : Fun K "_law_tune" "_law_tune" s_l_tune f fd) (g_range : mg "range" = none) (C_l_cell : Cal P w K mg base CX0 1 "_law_cell" ["script", "k"] (spCell K)) (C_l_mix : Cal P w K mg base CX0 1 "_law_mix" ["cell", "prime", "many"] spMix) :
    FnOk P w K mg base CX0 2 f fd ["script", "at", "whistles", "most"] (spLtune K) := by
  refine F.ok sc_l_tune (fun vs H Q E h => ?_) (fun cdv A outer s H vs Q E hr h => ?_)
  · obtain ⟨_, _, _, _, _, rfl, _⟩ := h
    rfl
  · obtain ⟨a, ns, t, wh, most, rfl, hS, w1, w3, hm, q⟩ := h
    refine ⟨_, (pss_cons (ps_set (i := 4) sc_l_tune.nd rfl (Or.inr rfl) (pe_fn C_l_cell hr (by decide) rfl (pa_cons (pv 0) (pa_cons (pv 1) pa_nil))))
      (pss_cons (ps_set (i := 5) sc_l_tune.nd rfl (Or.inl rfl) (pe_fn C_l_mix hr (by decide) rfl (pa_cons (pv 4) (pa_cons pe_int (pa_cons (pe_op oN_add (pv 3) pe_int) pa_nil)))))
      (pss_one (ps_ret (pe_join pe_str (pe_lc (own := [("k", 6)]) (g := (gName 6)) (tt := tYes) rfl sc_l_tune.nd (pi_rngN rfl g_range (pa_cons (pv 5) pa_nil)) (blkOk_by (by kernel_rfl)) (fun _ _ _ _ _ => (pg_name (i := 6) sc_l_tune.nd rfl (by first | exact Or.inl rfl | exact Or.inr rfl))) (fun _ _ _ _ _ => pts_nil) (fun _ _ _ _ _ => (pe_ix ix_abc pe_str (pe_fn C_l_mix hr (by decide) rfl (pa_cons (pe_op op_add (pv 4) (pe_op oN_mul (pe_op oN_mul pe_int (pv 6)) (pv 6))) (pa_cons pe_int (pa_cons (pv 2) pa_nil)))) (fun _ _ => rfl))))))))), ?_⟩
    have w0 : Wd H H [] [] := Wd.start (by simp)
    have hsz : mix (ns.getD t 0) 9931 (most + 1) < most + 1 := mix_lt (ns.getD t 0) 9931 (Nat.succ_pos most)
    refine ⟨_, rfl, _, rfl, a, ns, t, rfl, hS, _, rfl, _, rfl, _, 1, rfl, rfl, _, 9931, most + 1, rfl, by decide, Nat.succ_pos _, ⟨_, rfl⟩, _, rfl, _, rfl, by omega, fun D hD => lc_rangeW (fun j => ((List.range j).map fun (k : Nat) => mix (ns.getD t 0 + ((41 * k * k : Nat) : Int)) 9923 wh).map fun c => .str ⟨#[c + 97]⟩) w0 hD rfl
      (fun j hj => by rw [List.length_map, List.length_map, List.length_range]; exact sl_small (by omega)) (fun j H3 hj w2 => CompTurn.all fun Qt k => ?_) (fun H3 w2 => ?_)⟩
    · refine ⟨_, rfl, _, rfl, 41, _, rfl, rfl, (by show 41 ≤ 1000000000; decide), _, rfl, _, _, rfl, rfl, (by show 41 * j ≤ 1000000000; omega), _, _, rfl, rfl, _, rfl, _, 9923, wh, rfl, by decide, w1, _, rfl, rfl, Nat.lt_of_lt_of_le (mix_lt _ _ w1) w3, ?_⟩
      refine k _ _ (.str _) w2 rfl ?_
      rw [map_range_succ, List.map_append]; rfl
    · obtain ⟨xs, ex, ix⟩ := w2.list 0
      have exs : xs = ((lawTune ns t wh most).map fun c => (⟨#[c + 97]⟩ : Str)).map V.str := by
        have key : ∀ (l : List Nat) (xs : List V), ImAll H3 (fps [.L D (((List.range (mix (ns.getD t 0) 9931 (most + 1))).map fun (k : Nat) => mix (ns.getD t 0 + ((41 * k * k : Nat) : Int)) 9923 wh).map fun c => .str ⟨#[c + 97]⟩)]) (l.map fun c => .str ⟨#[c + 97]⟩) xs → xs = (l.map fun c => (⟨#[c + 97]⟩ : Str)).map V.str := by
          intro l
          induction l with
          | nil => intro xs h; exact h
          | cons c l ih =>
            intro xs h
            obtain ⟨x, r, rfl, h1, h2⟩ := h
            have h1 : x = .str ⟨#[c + 97]⟩ := h1
            rw [h1, ih r h2]; rfl
        exact key _ _ ix
      subst exs
      refine ⟨_, D, _, rfl, rfl, .inl (SqL.of ex), ?_, ?_⟩
      · have hl := lawTune_len ns t wh most
        have e1 : (((lawTune ns t wh most).map fun c => (⟨#[c + 97]⟩ : Str)).map (·.length)).sum = (lawTune ns t wh most).length := by
          generalize lawTune ns t wh most = l
          induction l with
          | nil => rfl
          | cons c l ih => simp only [List.map_cons, List.sum_cons, ih, List.length_cons]; simp [Str.length]; omega
        have e2 : Str.length (Str.ofString "") = 0 := rfl
        rw [e1, e2]
        omega
      · have e : Txt.join (Str.ofString "") ((lawTune ns t wh most).map fun c => (⟨#[c + 97]⟩ : Str)) = tuneS (lawTune ns t wh most) := join_ones _
        show Q (.str (Txt.join "" _)) H3
        rw [e]
        exact q H3 w2.same
end
theorem tight_idem {h : Hall} (o : h.Ok) : tightH (tightH h) = tightH h := tight_one (tightH_ok o) o rfl fun t ht => tight_run o ht
theorem tuneS_inj {t u : List Nat} (e : tuneS t = tuneS u) : t = u := by
  have := congrArg (fun z : Str => z.cps.toList.map (· - 97)) e
  simpa [tuneS, List.map_map, Function.comp_def] using this
theorem tuneS_app (t u : List Nat) : tuneS t ++ tuneS u = tuneS (t ++ u) := str_ext (by
  rw [show (tuneS t ++ tuneS u).cps = (tuneS t).cps ++ (tuneS u).cps from rfl, Array.toList_append]
  show t.map (· + 97) ++ u.map (· + 97) = (t ++ u).map (· + 97)
  rw [List.map_append])
theorem range_tune {w i c : Nat} (h : (tuneS (List.range w)).cps[i]? = some c) : i < w ∧ c = i + 97 := by
  have h : ((List.range w).map (· + 97)).toArray[i]? = some c := h
  rw [List.getElem?_toArray, List.getElem?_map] at h
  cases e : (List.range w)[i]? with
  | none => rw [e] at h; cases h
  | some d =>
    rw [e] at h
    obtain ⟨h1, h2⟩ := List.getElem?_eq_some_iff.mp e
    simp at h1 h2
    simp at h
    exact ⟨h1, by omega⟩
/-- the promise of a law over makers of lambdas -/
def spLawT (K : PySem.W.Frag) : Sp := fun vs H Q _ => ∃ (a : Addr) (ns : List Int), vs = [.ref a] ∧ SqL K H a (ns.map V.int) ∧ ns.length ≤ 63 ∧ LamX.Tabs Tb.T H ∧ ∀ H', Q (.bl true) H'
/-- the level of closures -/
abbrev kC : Nat := 9
/-- a step of closures -/
def spStep (S : Sys NestedKey) (U : List NestedKey) : Sp := fun vs H Q _ => ∃ (k : NestedKey) (x : V) (c : Nat), vs = [x, nV c] ∧ Im H [] (kD k) x ∧ k ∈ U ∧ c < S.w ∧ ∀ v H', Sm H H' → Im H' [] (kD (S.go k c)) v → Q v H'
def spLit (S : Sys NestedKey) (U : List NestedKey) : Sp := fun vs H Q _ => ∃ (k : NestedKey) (x : V), vs = [x] ∧ Im H [] (kD k) x ∧ k ∈ U ∧ ∀ H', Sm H H' → Q (.bl (S.lit k)) H'
/-- what is handed to built and first_with -/
structure SysAt (P : Program) (w : World) (K : PySem.W.Frag) (mg : Str → Option Value) (base : Heap) (S : Sys NestedKey) (U : List NestedKey) (v0 : V) (fs fb : Addr) (H : Hp) : Prop where
  w1 : 1 ≤ S.w
  w3 : S.w ≤ 3
  inU : S.In U
  ok : ∀ k ∈ U, KOk k
  st : Im H [] (kD S.k0) v0
  fs : ∃ G cs D, CloOk P w K mg base kC fs G cs D (spStep S U) ∧ Stand G cs D H
  fb : ∃ G cs D, CloOk P w K mg base kC fb G cs D (spLit S U) ∧ Stand G cs D H
theorem SysAt.sm {P : Program} {w : World} {K : PySem.W.Frag} {mg : Str → Option Value} {base : Heap} {S : Sys NestedKey} {U : List NestedKey} {v0 : V} {fs fb : Addr} {H H' : Hp} (a : SysAt P w K mg base S U v0 fs fb H) (s : Sm H H') : SysAt P w K mg base S U v0 fs fb H' :=
  ⟨a.w1, a.w3, a.inU, a.ok, a.st.sm s, let ⟨G, cs, D, x, y⟩ := a.fs; ⟨G, cs, D, x, y.sm s⟩, let ⟨G, cs, D, x, y⟩ := a.fb; ⟨G, cs, D, x, y.sm s⟩⟩
/-- the hall h has the tunes of the system -/
def HasLang (h : Hall) (S : Sys NestedKey) : Prop := h.w = S.w ∧ ∀ t, (∀ c ∈ t, c < S.w) → h.lit (h.run 0 t) = (S.lit (S.run S.k0 t)).toNat
def spBuilt (P : Program) (w : World) (K : PySem.W.Frag) (mg : Str → Option Value) (base : Heap) : Sp := fun vs H Q _ => ∃ (S : Sys NestedKey) (U : List NestedKey) (v0 : V) (fs fb : Addr), vs = [nV S.w, v0, .ref fs, .ref fb] ∧ U.length ≤ 600 ∧ SysAt P w K mg base S U v0 fs fb H ∧
  ∀ h : Hall, h.Ok → HasLang h S → h.n ≤ U.length → ∀ v H', Sm H H' → Im H' [] (tightH h).d v → Q v H'
theorem valK_at {t : List KA} {om : List NestedKey} (h1 : t.map (·.1) = om) (h2 : t.map (·.2.2) = (List.range om.length).map nV) (nd : om.Nodup) {p : Nat} {k : NestedKey} (e : om[p]? = some k) : valK t k = some (nV p) := by
  rw [valK_idx h1 h2]
  have : om.findIdx? (fun x => decide (x = k)) = some p := by
    rw [List.findIdx?_eq_some_iff_getElem]
    obtain ⟨hp, ep⟩ := List.getElem?_eq_some_iff.mp e
    refine ⟨hp, by simp [ep], fun j hj => ?_⟩
    simp only [decide_eq_true_eq]
    intro ej
    have := (List.getElem_inj nd).mp (ej.trans ep.symm)
    omega
  rw [this]; rfl
theorem valK_no {t : List KA} {om : List NestedKey} (h1 : t.map (·.1) = om) {k : NestedKey} (n : k ∉ om) : valK t k = none := by
  unfold valK
  rw [List.find?_eq_none.mpr]; rfl
  intro x hx
  simp only [decide_eq_true_eq]
  intro e
  exact n (by rw [← h1, ← e]; exact List.mem_map.mpr ⟨x, hx, rfl⟩)
theorem noL_keys (om : List NestedKey) : noLs (om.map kD) = true := by
  rw [noLs_iff]; intro d hd
  obtain ⟨k, _, rfl⟩ := List.mem_map.mp hd
  exact noL_kD k
section
variable {P : Program} {w : World} {K : PySem.W.Frag} {mg : Str → Option Value} {base : Heap}
theorem sc_built : FnScope ["whistles", "start", "step", "is_bright", "order", "place", "rooms", "at", "row", "whistle", "goal", "thing"] ["whistles", "start", "step", "is_bright"] (defScope s_built) := ⟨rfl, rfl, rfl, by decide +kernel, rfl, by decide +kernel, by decide +kernel⟩
theorem ok_built {f : Addr} {fd : FuncData} (F : Fun K "built" "built" s_built f fd) (g_len : mg "len" = none) (g_range : mg "range" = none) (g_tuple : mg "tuple" = none) (g_int : mg "int" = none)
    (C_tight : Cal P w K mg base CX0 2 "tight" ["hall"] spTight) : FnOk P w K mg base CX0 10 f fd ["whistles", "start", "step", "is_bright"] (spBuilt P w K mg base) := by
  refine F.ok sc_built (fun vs H Q E h => ?_) (fun cdv A outer s H vs Q E hr h => ?_)
  · obtain ⟨S, U, v0, fs, fb, rfl, _⟩ := h
    rfl
  · obtain ⟨S, U, v0, fs, fb, rfl, hU, sa, q⟩ := h
    refine ⟨_, (pss_cons (ps_set (i := 4) sc_built.nd rfl (Or.inl rfl) (pe_lst (pa_cons (pv 1) pa_nil)))
      (pss_cons (ps_set (i := 5) sc_built.nd rfl (Or.inl rfl) (pe_kone (w := w) rfl hr.units (pv 1) pe_int))
      (pss_cons (ps_set (i := 6) sc_built.nd rfl (Or.inl rfl) (pe_lst pa_nil))
      (pss_cons (ps_set (i := 7) sc_built.nd rfl (Or.inl rfl) pe_int)
      (pss_cons (ps_while PassesOwn.never (pt_cmpR oN_lt (pv 7) (pe_callB (lenS (K := K) rfl) (by rfl) g_len PySem.boot_len (pa_cons (pv 4) pa_nil)) (nomark _))
        (pss_cons (ps_set (i := 8) sc_built.nd rfl (Or.inl rfl) (pe_lst pa_nil))
        (pss_cons (ps_for PassesOwn.never rfl (pi_rngN rfl g_range (pa_cons (pv 0) pa_nil)) (pg_name (i := 9) sc_built.nd rfl (by first | exact Or.inl rfl | exact Or.inr rfl))
          (pss_cons (ps_set (i := 10) sc_built.nd rfl (Or.inl rfl) (pe_clo (P := P) (w := w) (K := K) (mg := mg) (base := base) (k := kC) (i := 2) ⟨rfl, rfl, rfl, rfl, rfl⟩ hr (by decide) rfl (by first | exact Or.inl rfl | exact Or.inr (Or.inl rfl) | exact Or.inr (Or.inr rfl)) (pa_cons (pe_ix (ixL (K := K) rfl) (pv 4) (pv 7) (fun _ _ => rfl)) (pa_cons (pv 9) pa_nil))))
          (pss_join (ps_if (pt_cmpR (oK_notin (w := w) rfl hr.units) (pv 10) (pv 5) rfl)
            (pss_cons (ps_kput (w := w) rfl hr.units (pv 5) (pv 10) (pe_callB (lenS (K := K) rfl) (by rfl) g_len PySem.boot_len (pa_cons (pv 4) pa_nil)) rfl)
            (pss_one (ps_expr (pe_bm PySem.F.plainAttrs_list PySem.F.slot_list_append PySem.F.type_list_append mt_append (pv 4) (pa_cons (pv 10) pa_nil)))))
            pss_nil)
          (pss_one (ps_expr (pe_bm PySem.F.plainAttrs_list PySem.F.slot_list_append PySem.F.type_list_append mt_append (pv 8) (pa_cons (pe_ix (ixK (w := w) rfl hr.units) (pv 5) (pv 10) (fun _ _ => rfl)) pa_nil)))))))
        (pss_cons (ps_expr (pe_bm PySem.F.plainAttrs_list PySem.F.slot_list_append PySem.F.type_list_append mt_append (pv 6) (pa_cons (pe_callTy (tupOf (K := K) rfl) (by rfl) g_tuple (by decide +kernel) (pa_cons (pv 8) pa_nil)) pa_nil)))
        (pss_one (ps_set (i := 7) sc_built.nd rfl (Or.inl rfl) (pe_op oN_add (pv 7) pe_int)))))))
      (pss_one (ps_ret (pe_fn C_tight hr (by decide) rfl (pa_cons (pe_tup (pa_cons (pv 0) (pa_cons (pe_callTy (tupOf (K := K) rfl) (by rfl) g_tuple (by decide +kernel) (pa_cons (pv 6) pa_nil)) (pa_cons (pe_callTy (tupOf (K := K) rfl) (by rfl) g_tuple (by decide +kernel) (pa_cons (pe_lc (own := [("thing", 11)]) (g := (gName 11)) (tt := tYes) rfl sc_built.nd (pi_list (pv 4)) (blkOk_by (by kernel_rfl)) (fun _ _ _ _ _ => (pg_name (i := 11) sc_built.nd rfl (by first | exact Or.inl rfl | exact Or.inr rfl))) (fun _ _ _ _ _ => pts_nil) (fun _ _ _ _ _ => (pe_callTy call_int1 (by rfl) g_int (by decide +kernel) (pa_cons (pe_clo (P := P) (w := w) (K := K) (mg := mg) (base := base) (k := kC) (i := 3) ⟨rfl, rfl, rfl, rfl, rfl⟩ hr (by decide) rfl (by first | exact Or.inl rfl | exact Or.inr (Or.inl rfl) | exact Or.inr (Or.inr rfl)) (pa_cons (pv 11) pa_nil)) pa_nil)))) pa_nil)) pa_nil)))) pa_nil))))))))), ?_⟩
    have w0 : Wd H H [] [(kD S.k0, v0)] := Wd.start (by simpa using sa.st)
    have w1 := sa.w1
    have w3 := sa.w3
    have keyOk : ∀ {om : List NestedKey} {rows : List (List Nat)} {t : List KA}, BInv S U om rows → t.map (·.1) = om → ∀ y ∈ t, KOk y.1 := fun bi ht y hy => sa.ok _ (bi.sub _ (by rw [← ht]; exact List.mem_map.mpr ⟨y, hy, rfl⟩))
    refine ⟨_, rfl, (by show 1 ≤ sizeLine; decide), fun lo hlo => ?_⟩
    have w2 := w0.pushL hlo (ds := [S.k0].map kD) (xs := [v0]) (ImAll.cons (w0.get 0) ImAll.nil)
    intro pp hpp
    have w4 := w2.pushDict (W := w) hpp
    refine ⟨_, rfl, _, S.k0, upd_same, w4.get 0, sa.ok _ sa.inU.z, ?_⟩
    have w5 := w4.dPut (W := w) 0 (t := []) (k := S.k0) (y := v0) (v := nV 0) (w4.get 0)
    refine ⟨Nat.zero_le _, fun lr hlr => ?_⟩
    have w6 := w5.pushL (ds := ([] : List (List Nat)).map roomD) (xs := []) hlr ImAll.nil
    refine ⟨fun m σ H' => ∃ (om : List NestedKey) (rows : List (List Nat)) (t : List KA) (v8 v9 v10 : Option V), BInv S U om rows ∧ m = U.length - rows.length ∧
      σ = [some (nV S.w), some v0, some (.ref fs), some (.ref fb), some (.ref lo), some (.ref pp), some (.ref lr), some (nV rows.length), v8, v9, v10, none] ∧ t.map (·.1) = om ∧ t.map (·.2.2) = (List.range om.length).map nV ∧
      Wd H H' [.L lr (rows.map roomD), dCell w pp t, .L lo (om.map kD)] [(kD S.k0, v0)], ⟨U.length, [S.k0], [], _, none, none, none, BInv.start sa.inU, rfl, rfl, rfl, rfl, w6⟩, ?_⟩
    rintro m σ H1 ⟨om, rows, t, v8, v9, v10, bi, rfl, rfl, ht1, ht2, w6⟩
    obtain ⟨xo, eo, io⟩ := w6.list 2
    refine ⟨_, rfl, _, rfl, lo, _, rfl, .inl (SqL.of eo), _, _, rfl, rfl, _, rfl, ?_⟩
    rw [io.length, List.length_map]
    have hol := bi.len
    refine ite2 (fun c => ?_) (fun c => ?_)
    · have c : rows.length < om.length := by simpa using c
      refine ⟨_, fun σ' H' hN => hN, ?_⟩
      refine ⟨Nat.zero_le _, fun lw hlw => ?_⟩
      have w7 := w6.pushL (ds := ([] : List Nat).map nD) (xs := []) hlw ImAll.nil
      have ek := getD_get (d := S.k0) c
      generalize om.getD rows.length S.k0 = k at ek
      have hkU := bi.sub k (List.mem_of_getElem? ek)
      refine ⟨_, rfl, S.w, rfl, by omega, for_rng (fun j σ H' => ∃ (om' : List NestedKey) (r : List Nat) (t : List KA) (v9 v10 : Option V), BInv S U om' rows ∧ om'[rows.length]? = some k ∧ RInv S om' k r ∧ r.length = j ∧
        σ = [some (nV S.w), some v0, some (.ref fs), some (.ref fb), some (.ref lo), some (.ref pp), some (.ref lr), some (nV rows.length), some (.ref lw), v9, v10, none] ∧ t.map (·.1) = om' ∧ t.map (·.2.2) = (List.range om'.length).map nV ∧
        Wd H H' [.L lw (r.map nD), .L lr (rows.map roomD), dCell w pp t, .L lo (om'.map kD)] [(kD S.k0, v0)]) ⟨om, [], t, v9, v10, bi, ek, RInv.start, rfl, rfl, ht1, ht2, w7⟩ ?_ ?_⟩
      · rintro j σ H2 hj ⟨om', r, t, v9, v10, bi, ek, ri, rl, rfl, ht1, ht2, w8⟩
        obtain ⟨G, cs, DD, C, st⟩ := sa.fs
        obtain ⟨xo, eo, io⟩ := w8.list 3
        obtain ⟨xk, exk, ixk⟩ := io.get (i := rows.length) (d := kD k) (by rw [List.getElem?_map, ek]; rfl)
        refine ⟨fs, G, cs, DD, _, rfl, C, st.sm w8.same, _, rfl, _, rfl, lo, _, _, xk, rfl, rfl, SqL.of eo, atI_nat exk, _, rfl, st.sm w8.same, k, xk, j, rfl, ixk.bare, hkU, hj, fun vg H3 s3 ig => ?_⟩
        have w9 := (w8.call s3).add ((w8.call s3).adopt (noL_kD _) ig)
        have hgU := sa.inU.go k hkU j hj
        have hol' := bi.len
        have dA := w9.dAt (W := w) 2 (t := t) (keyOk bi ht1)
        have htl : t.length = om'.length := by rw [← ht1, List.length_map]
        refine ⟨fun σ H' => ∃ (om'' : List NestedKey) (t' : List KA) (p : Nat), BInv S U om'' rows ∧ om''[rows.length]? = some k ∧ RInv S om'' k r ∧ om''[p]? = some (S.go k j) ∧
          [some (nV S.w), some v0, some (.ref fs), some (.ref fb), some (.ref lo), some (.ref pp), some (.ref lr), some (nV rows.length), some (.ref lw), some (nV j), some vg, none] = σ ∧ t'.map (·.1) = om'' ∧ t'.map (·.2.2) = (List.range om''.length).map nV ∧
          Wd H H' [.L lw (r.map nD), .L lr (rows.map roomD), dCell w pp t', .L lo (om''.map kD)] [(kD (S.go k j), vg), (kD S.k0, v0)], ?_, ?_⟩
        · refine ⟨_, rfl, _, rfl, _, _, pp, t, S.go k j, rfl, dA, w9.get 0, sa.ok _ hgU, _, rfl, ?_⟩
          by_cases hm : S.go k j ∈ om'
          · obtain ⟨p, ep⟩ := List.getElem?_of_mem hm
            rw [valK_at ht1 ht2 bi.nd ep]
            exact iteF ⟨om', t, p, bi, ek, ri, ep, rfl, ht1, ht2, w9⟩
          · rw [valK_no ht1 hm]
            refine iteT ?_
            obtain ⟨xo9, eo9, io9⟩ := w9.list 3
            refine ⟨_, rfl, lo, _, rfl, .inl (SqL.of eo9), _, rfl, _, rfl, _, _, pp, t, S.go k j, rfl, dA, w9.get 0, sa.ok _ hgU, valK_no ht1 hm, sl_small (by omega), ?_⟩
            rw [io9.length, List.length_map]
            have w10 := w9.dPut (W := w) 2 (t := t) (k := S.go k j) (y := vg) (v := nV om'.length) (w9.get 0)
            obtain ⟨xo10, eo10, io10⟩ := w10.list 3
            refine ⟨_, rfl, .inl ⟨rfl, _, SqL.of eo10⟩, _, rfl, lo, _, _, rfl, rfl, eo10, by rw [io10.length, List.length_map]; exact sl_small (by omega), ?_⟩
            have w11 := w10.turnL 3 (ds' := (om' ++ [S.go k j]).map kD) (xs := xo10 ++ [vg]) rfl (by rw [List.map_append]; exact io10.snoc (w10.get 0))
            refine ⟨om' ++ [S.go k j], _, om'.length, bi.grow hgU hm, get_app ek, ri.grow, by simp, rfl, by rw [List.map_append, ht1]; rfl, ?_, w11⟩
            rw [List.map_append, ht2, List.length_append, List.length_singleton, List.range_succ, List.map_append]; rfl
        · rintro σ H4 ⟨om'', t', p, bi', ek', ri', ep, rfl, ht1', ht2', w10⟩
          have dA' := w10.dAt (W := w) 2 (t := t') (keyOk bi' ht1')
          obtain ⟨xw, ew, iw⟩ := w10.list 0
          refine ⟨_, rfl, .inl ⟨rfl, _, SqL.of ew⟩, _, rfl, _, rfl, _, _, pp, t', S.go k j, _, rfl, dA', w10.get 0, sa.ok _ hgU, valK_at ht1' ht2' bi'.nd ep, lw, _, _, rfl, rfl, ew, by rw [iw.length, List.length_map]; exact sl_small (by omega), ?_⟩
          have w11 := w10.turnL 0 (ds' := (r ++ [p]).map nD) (xs := xw ++ [nV p]) rfl (by rw [List.map_append]; exact ImAll.snoc (d := nD p) (x := nV p) iw rfl)
          exact ⟨om'', r ++ [p], t', _, _, bi', ek', ri'.put (by rw [rl]; exact ep), by simp [rl], rfl, ht1', ht2', w11.less (by simp)⟩
      · rintro σ H3 ⟨om', r, t, v9, v10, bi', ek', ri, rl, rfl, ht1, ht2, w8⟩
        obtain ⟨xr7, er7, ir7⟩ := w8.list 1
        obtain ⟨xw7, ew7, iw7⟩ := w8.list 0
        refine ⟨_, rfl, .inl ⟨rfl, _, SqL.of er7⟩, _, rfl, lw, _, rfl, .inl ⟨SqL.of ew7, fun p hp => ?_⟩⟩
        have w10 := w8.tup hp iw7
        obtain ⟨xr8, er8, ir8⟩ := w10.list 1
        refine ⟨lr, _, _, rfl, rfl, er8, ?_, ?_⟩
        · rw [ir8.length, List.length_map]; exact sl_small (by omega)
        have w11 := (w10.turnL 1 rfl (ir8.snoc (w10.get 0))).pop
        refine ⟨_, rfl, rows.length, 1, rfl, rfl, ?_⟩
        refine ⟨U.length - (rows ++ [r]).length, ?_, om', rows ++ [r], t, some (.ref lw), v9, v10, bi'.next ek' ri rl, rfl, ?_, ht1, ht2, ?_⟩
        · rw [List.length_append, List.length_singleton]; omega
        · rw [List.length_append, List.length_singleton]; rfl
        · rw [List.map_append]; exact w11.less (by simp)
    · have c : om.length ≤ rows.length := by simpa using c
      have hl : rows.length = om.length := by have := bi.le; omega
      obtain ⟨hok, hlang⟩ := bi.hall hl w1 w3 (by omega)
      obtain ⟨xr, er, ir⟩ := w6.list 0
      refine ⟨_, rfl, _, rfl, lr, _, rfl, .inl ⟨SqL.of er, fun p hp => ?_⟩⟩
      have w7 := w6.tup hp ir
      obtain ⟨xo7, eo7, io7⟩ := w7.list 2
      refine ⟨_, rfl, lo, rfl, ⟨_, SqL.of eo7⟩, fun D hD => lc_listD (K := K) (ds := om.map kD) (fun j => ((om.map fun k => (S.lit k).toNat).take j).map nD) 2 w7 hD rfl rfl (fun j hj => ?_) (fun j x d H3 hx ix w8 => CompTurn.all fun Qt kk => ?_) (fun H3 w8 => ?_)⟩
      · rw [List.length_map, List.length_take, List.length_map]; exact sl_small (by omega)
      · obtain ⟨k, ek, rfl⟩ : ∃ k, om[j]? = some k ∧ d = kD k := by
          rw [List.getElem?_map] at hx
          cases e : om[j]? with
          | none => rw [e] at hx; cases hx
          | some k => rw [e] at hx; exact ⟨k, rfl, (Option.some.inj hx).symm⟩
        obtain ⟨G, cs, DD, C, st⟩ := sa.fb
        refine ⟨fb, G, cs, DD, _, rfl, C, st.sm w8.same, _, rfl, st.sm w8.same, k, x, rfl, ix.bare, bi.sub k (List.mem_of_getElem? ek), fun H4 s4 => .inr ⟨S.lit k, rfl, ?_⟩⟩
        refine kk _ _ (nD (S.lit k).toNat) (w8.call s4) ?_ ?_
        · cases S.lit k <;> rfl
        · show (((om.map fun k => (S.lit k).toNat).take (j + 1)).map nD) = _
          rw [List.take_add_one, List.getElem?_map, ek, List.map_append]; rfl
      · have e7 : ((om.map fun k => (S.lit k).toNat).take (om.map kD).length) = om.map fun k => (S.lit k).toNat := List.take_of_length_le (by rw [List.length_map, List.length_map]; exact Nat.le_refl _)
        rw [e7] at w8
        obtain ⟨xl, el, il⟩ := w8.list 0
        refine ⟨D, _, rfl, .inl ⟨SqL.of el, fun p2 hp2 => ?_⟩⟩
        have w9 := w8.tup hp2 il
        refine ⟨(by show 3 ≤ sizeLine; decide), fun p3 hp3 => ?_⟩
        have w10 := w9.tup hp3 (ImAll.cons (d := nD S.w) rfl (ImAll.cons (w9.get 1) (ImAll.cons (w9.get 0) ImAll.nil)))
        exact ⟨sysHall S om rows, .ref p3, rfl, hok, (w10.get 0).bare, fun v H5 s5 i5 => q _ hok ⟨rfl, hlang⟩ (by show rows.length ≤ _; omega) v H5 (w10.same.trans s5) i5⟩
end
/-- the number of a key -/
def numK : NestedKey → Nat
  | .num i => i.toNat
  | _ => 0
theorem numK_N (n : Nat) : numK (kN n) = n := by simp [numK, kN]
/-- the rooms of a hall, from one of them on -/
def hallSys (h : Hall) (r : Nat) : Sys NestedKey := ⟨h.w, kN r, fun k c => kN (h.go (numK k) c), fun k => decide (h.lit (numK k) = 1)⟩
def roomsU (h : Hall) : List NestedKey := (List.range h.n).map kN
theorem mem_roomsU {h : Hall} {k : NestedKey} : k ∈ roomsU h ↔ ∃ r, r < h.n ∧ k = kN r := by
  unfold roomsU; rw [List.mem_map]
  exact ⟨fun ⟨r, a, b⟩ => ⟨r, List.mem_range.mp a, b.symm⟩, fun ⟨r, a, b⟩ => ⟨r, List.mem_range.mpr a, b.symm⟩⟩
theorem hallSys_in {h : Hall} (o : h.Ok) {r : Nat} (hr : r < h.n) : (hallSys h r).In (roomsU h) := by
  refine ⟨mem_roomsU.mpr ⟨r, hr, rfl⟩, fun k hk c hc => ?_⟩
  obtain ⟨r, hr, rfl⟩ := mem_roomsU.mp hk
  exact mem_roomsU.mpr ⟨_, o.go_lt hr hc, by show kN (h.go (numK (kN r)) c) = _; rw [numK_N]⟩
theorem hallSys_run {h : Hall} {s : Nat} : ∀ (t : List Nat) (r : Nat), (hallSys h s).run (kN r) t = kN (h.run r t)
  | [], r => rfl
  | c :: t, r => by
    show (hallSys h s).run (kN (h.go (numK (kN r)) c)) t = _
    rw [numK_N]; exact hallSys_run t _
theorem lit_bit {h : Hall} (o : h.Ok) {r : Nat} (hr : r < h.n) : (decide (h.lit r = 1)).toNat = h.lit r := by
  have := o.lit_le hr
  by_cases e : h.lit r = 1
  · simp [e]
  · have : h.lit r = 0 := by omega
    simp [this]
theorem hallSys_lang {h g : Hall} (o : h.Ok) {r : Nat} (hr : r < h.n) (l : HasLang g (hallSys h r)) : g.w = h.w ∧ ∀ t, (∀ c ∈ t, c < h.w) → g.lit (g.run 0 t) = h.lit (h.run r t) := by
  refine ⟨l.1, fun t ht => ?_⟩
  have e := l.2 t ht
  rw [show (hallSys h r).k0 = kN r from rfl, hallSys_run] at e
  rw [e]
  show (decide (h.lit (numK (kN (h.run r t))) = 1)).toNat = _
  rw [numK_N, lit_bit o (o.run_lt hr ht)]
theorem stand_lam {F : Fz} {f c : Addr} {o : Obj} {q : Str} {D : List (PyData × V)} {H : Hp} (hf : H f = some (frzO o)) (hc : H c = some (LamX.CodeO c q)) (hD : ∀ p ∈ D, Im H [] p.1 p.2) (fr : Free F H) : Stand ((f, o) :: F) [(c, CN.code q)] D (icy F H) := by
  refine ⟨fun b u e => ?_, fun p hp => ?_, fun p hp => (hD p hp).cold fr⟩
  · rw [List.lookup_cons] at e
    by_cases z : b = f
    · subst z
      simp at e; subst e
      exact icy_keep fr hf
    · rw [beq_false_of_ne z] at e
      exact icy_in e
  · have : p = (c, CN.code q) := by simpa using hp
    subst this
    exact icy_keep fr hc
theorem lk_self {F : Fz} {f : Addr} {o : Obj} : ((f, o) :: F).lookup f = some o := by rw [List.lookup_cons, beq_self_eq_true]
theorem lk_rest {F : Fz} {f : Addr} {o : Obj} {H : Hp} (hf : H f = some (frzO o)) (fr : Free F H) : ∀ b u, F.lookup b = some u → ((f, o) :: F).lookup b = some u := fun b u e => by
  rw [List.lookup_cons]
  by_cases z : b = f
  · rw [z, fr.out hf] at e; cases e
  · rw [beq_false_of_ne z]; exact e
/-- behind a tune: some hall of the tunes that are good with it ahead of them -/
def spBehind (C : Addr) : Sp := fun vs H Q E => ∃ (h : Hall) (hv : V) (t : List Nat), vs = [hv, .str (tuneS t)] ∧ h.Ok ∧ Im H [] h.d hv ∧ (∀ c ∈ t, c < h.w) ∧ LamX.Tabs Tb.T H ∧
  ∀ g : Hall, g.Ok → g.w = h.w → (∀ u, (∀ c ∈ u, c < h.w) → g.lit (g.run 0 u) = h.lit (h.run 0 (t ++ u))) → ∀ v H', Sm H H' → Im H' [] (tightH g).d v → Q v H'
def aheadH (h : Hall) (t : List Nat) : Hall := ⟨h.w, h.rooms, (List.range h.n).map fun r => h.lit (h.run r t)⟩
theorem aheadH_ok {h : Hall} (o : h.Ok) {t : List Nat} (ht : ∀ c ∈ t, c < h.w) : (aheadH h t).Ok := by
  refine ⟨o.w1, o.w3, o.n1, o.n600, o.row, o.goal, by simp [aheadH, Hall.n], fun l hl => ?_⟩
  obtain ⟨r, hr, rfl⟩ := List.mem_map.mp hl
  exact o.lit_le (o.run_lt (List.mem_range.mp hr) ht)
theorem aheadH_run {h : Hall} (t : List Nat) : ∀ (u : List Nat) (r : Nat), (aheadH h t).run r u = h.run r u
  | [], r => rfl
  | c :: u, r => aheadH_run t u _
theorem aheadH_lit {h : Hall} (o : h.Ok) (t : List Nat) {u : List Nat} (hu : ∀ c ∈ u, c < h.w) : (aheadH h t).lit ((aheadH h t).run 0 u) = h.lit (h.run 0 (u ++ t)) := by
  rw [aheadH_run, Hall.run_app]
  show ((List.range h.n).map fun r => h.lit (h.run r t)).getD _ 0 = _
  rw [getD_map_range _ (o.run_lt o.n1 hu)]
def spAhead : Sp := fun vs H Q E => ∃ (h : Hall) (hv : V) (t : List Nat), vs = [hv, .str (tuneS t)] ∧ h.Ok ∧ Im H [] h.d hv ∧ (∀ c ∈ t, c < h.w) ∧ ∀ v H', Sm H H' → Im H' [] (tightH (aheadH h t)).d v → Q v H'
section
variable {P : Program} {w : World} {K : PySem.W.Frag} {mg : Str → Option Value} {base : Heap}
end
/-! ### numbers within bounds -/
def withinD (d : PyData) (lo hi : Int) : Bool := match d with
  | .int i => decide (lo ≤ i ∧ i ≤ hi)
  | _ => false
def spWithin : Sp := fun vs H Q _ => ∃ (Z : List Addr) (d : PyData) (x : V) (lo hi : Int), vs = [x, .int lo, .int hi] ∧ Im H Z d x ∧ Q (.bl (withinD d lo hi)) H
section
variable {P : Program} {w : World} {K : PySem.W.Frag} {mg : Str → Option Value} {base : Heap}
theorem sc_is_within : FnScope ["thing", "low", "high"] ["thing", "low", "high"] (defScope s_is_within) := ⟨rfl, rfl, rfl, by decide +kernel, rfl, by decide +kernel, by decide +kernel⟩
theorem ok_is_within {f : Addr} {fd : FuncData} (F : Fun K "is_within" "is_within" s_is_within f fd) (g_isinstance : mg "isinstance" = none) (g_int : mg "int" = none) (g_bool : mg "bool" = none) : FnOk P w K mg base CX0 1 f fd ["thing", "low", "high"] spWithin := by
  refine F.ok sc_is_within (fun vs H Q E h => ?_) (fun cdv A outer s H vs Q E hr h => ?_)
  · obtain ⟨_, _, _, _, _, rfl, _⟩ := h
    rfl
  · obtain ⟨Z, d, x, lo, hi, rfl, im, q⟩ := h
    refine ⟨_, (pss_one (ps_ret (pe_and (pe_callB (isD (T := "int") (by decide)) (by rfl) g_isinstance (by decide +kernel) (pa_cons (pv 0) (pa_cons (pe_bltn (v := .ty "int") (by rfl) g_int (by decide +kernel) rfl) pa_nil))) (pe_and (pe_not (pe_callB (isD (T := "bool") (by decide)) (by rfl) g_isinstance (by decide +kernel) (pa_cons (pv 0) (pa_cons (pe_bltn (v := .ty "bool") (by rfl) g_bool (by decide +kernel) rfl) pa_nil)))) (pe_one (pe_chain op_le op_le (pv 1) (pv 0) (pv 2))))))), ?_⟩
    refine ⟨_, rfl, Z, d, x, rfl, im, _, rfl, ?_⟩
    cases d with
    | int i =>
      have im : x = .int i := im
      subst im
      refine iteT ⟨_, rfl, Z, .int i, _, rfl, rfl, _, rfl, _, rfl, iteT ?_⟩
      refine ⟨_, rfl, _, rfl, _, _, rfl, rfl, _, rfl, ?_⟩
      by_cases h1 : lo ≤ i
      · rw [decide_eq_true h1]
        refine iteT ⟨_, rfl, _, _, rfl, rfl, ?_⟩
        have e : withinD (.int i) lo hi = decide (i ≤ hi) := by simp [withinD, h1]
        rw [e] at q; exact q
      · rw [decide_eq_false h1]
        refine iteF ?_
        have e : withinD (.int i) lo hi = false := by simp [withinD, h1]
        rw [e] at q; exact q
    | bool b => exact iteT ⟨_, rfl, Z, .bool b, _, rfl, im, _, rfl, _, rfl, iteF q⟩
    | none => exact iteF q
    | str z => exact iteF q
    | list z => exact iteF q
    | tuple z => exact iteF q
    | dict z => exact iteF q
end
/-! ### numbers within bounds; patterns -/
def patSign (w c : Nat) : Bool := [33, 46, 42, 124, 40, 41].contains c || decide (97 ≤ c ∧ c < 97 + w)
def ind (c k : Nat) : Int := if decide (c = k) = true then 1 else 0
def patTurn (w c : Nat) (deep : Int) (last : Nat) : Option (Int × Nat) :=
  if patSign w c = false then none else
  if ([40, 124].contains last && [42, 124, 41].contains c) = true then none else
  if deep + ind c 40 - ind c 41 < 0 then none else some (deep + ind c 40 - ind c 41, c)
def patRun (w : Nat) : List Nat → Int → Nat → Option (Int × Nat)
  | [], deep, last => some (deep, last)
  | c :: cs, deep, last => (patTurn w c deep last).bind fun p => patRun w cs p.1 p.2
def patCodes (w : Nat) (l : List Nat) : Bool := match patRun w l 0 40 with
  | some (deep, last) => decide (deep = 0) && ![40, 124].contains last
  | none => false
/-- a pattern of so many whistles -/
def patOk (d dw : PyData) : Bool := match d, dw with
  | .str z, .int w => decide (1 ≤ w ∧ w ≤ 3) && (decide (1 ≤ z.length ∧ z.length ≤ 2000) && patCodes w.toNat z.cps.toList)
  | _, _ => false
def sizeD : PyData → Prop
  | .str z => z.length ≤ 1000000
  | _ => True
def spLookPat (C : Addr) : Sp := fun vs H Q E => ∃ (Z Z' : List Addr) (d dw : PyData) (x y : V), vs = [x, y] ∧ Im H Z d x ∧ Im H Z' dw y ∧ sizeD d ∧ (patOk d dw = true → Q .non H) ∧ (patOk d dw = false → E (.ref C) none H)
theorem dec_sign (c k : Nat) (s : Str) (e : s = ⟨#[k]⟩) : decide (V.str ⟨#[c]⟩ = V.str s) = decide (c = k) := by
  subst e
  by_cases h : c = k
  · subst h; simp
  · rw [decide_eq_false h, decide_eq_false]
    intro q; injection q with q; injection q with q
    simp at q; exact h q
theorem patRun_app (w : Nat) : ∀ (l m : List Nat) (deep : Int) (last : Nat), patRun w (l ++ m) deep last = (patRun w l deep last).bind fun p => patRun w m p.1 p.2
  | [], m, deep, last => rfl
  | c :: l, m, deep, last => by
    rw [List.cons_append, patRun, patRun, Option.bind_assoc]
    congr 1
    funext p
    exact patRun_app w l m _ _
theorem patOk_si (z : Str) (i : Int) : patOk (.str z) (.int i) = (decide (1 ≤ i ∧ i ≤ 3) && (decide (1 ≤ z.length ∧ z.length ≤ 2000) && patCodes i.toNat z.cps.toList)) := rfl
theorem mem_psigns {w c : Nat} : decide (c ∈ ((Str.ofString "!.*|()") ++ tuneS (List.range w)).cps.toList) = patSign w c := by
  have e : ((Str.ofString "!.*|()") ++ tuneS (List.range w)).cps.toList = [33, 46, 42, 124, 40, 41] ++ (tuneS (List.range w)).cps.toList := by
    have h := TL.tl_append (Str.ofString "!.*|()") (tuneS (List.range w))
    exact h
  rw [e]
  unfold patSign
  by_cases h : c ∈ (tuneS (List.range w)).cps.toList
  · have h2 := mem_letters.mp h
    rw [decide_eq_true (List.mem_append_right _ h), decide_eq_true h2, Bool.or_true]
  · have h2 := fun q => h (mem_letters.mpr q)
    rw [decide_eq_false h2, Bool.or_false]
    by_cases h3 : c ∈ [33, 46, 42, 124, 40, 41]
    · rw [decide_eq_true (List.mem_append_left _ h3)]
      exact (List.contains_iff_mem.mpr h3).symm
    · rw [decide_eq_false (fun q => by rcases List.mem_append.mp q with z | z; exact h3 z; exact h z)]
      cases q : [33, 46, 42, 124, 40, 41].contains c with
      | false => rfl
      | true => exact absurd (List.contains_iff_mem.mp q) h3
theorem mem_lit (c : Nat) (s : Str) (l : List Nat) (e : s.cps.toList = l) : decide (c ∈ s.cps.toList) = l.contains c := by
  rw [e]
  cases q : l.contains c with
  | true => exact decide_eq_true (List.contains_iff_mem.mp q)
  | false => exact decide_eq_false fun h => by rw [List.contains_iff_mem.mpr h] at q; cases q
section
variable {P : Program} {w : World} {K : PySem.W.Frag} {mg : Str → Option Value} {base : Heap}
theorem sc_look_pattern : FnScope ["pattern", "whistles", "deep", "last", "sign"] ["pattern", "whistles"] (defScope s_look_pattern) := ⟨rfl, rfl, rfl, by decide +kernel, rfl, by decide +kernel, by decide +kernel⟩
theorem ok_look_pattern {f cP : Addr} {fd : FuncData} (F : Fun K "look_pattern" "look_pattern" s_look_pattern f fd) (g_isinstance : mg "isinstance" = none) (g_str : mg "str" = none) (g_len : mg "len" = none) (g_int : mg "int" = none) (g_MOST : ∃ t, mg "MOST_SIGNS" = some (.int 2000 t)) (X_BadPattern : XCls K mg "BadPattern" cP)
    (C_letters : Cal P w K mg base CX0 1 "letters" ["whistles"] spLetters) (C_is_within : Cal P w K mg base CX0 1 "is_within" ["thing", "low", "high"] spWithin) :
    FnOk P w K mg base (L2.CX P w) 2 f fd ["pattern", "whistles"] (spLookPat cP) := by
  obtain ⟨tM, g_MOST_SIGNS⟩ := g_MOST
  refine F.okX sc_look_pattern (fun vs H Q E h => ?_) (fun cdv A outer s H vs Q E hr h => ?_)
  · obtain ⟨_, _, _, _, _, _, rfl, _⟩ := h
    rfl
  · obtain ⟨Z, Z', d, dw, x, y, rfl, im, imw, sz, q1, q2⟩ := h
    refine ⟨_, (pss_cons (ps_if (PW.pt (pw_or (pt_not (pt_val (pe_callB (isD (T := "str") (by decide)) (by rfl) g_isinstance (by decide +kernel) (pa_cons (pv 0) (pa_cons (pe_bltn (v := .ty "str") (by rfl) g_str (by decide +kernel) rfl) pa_nil))))) (pw_or (pt_not (pt_chain oN_le oN_le pe_int (pe_callB call_len_str (by rfl) g_len (by decide +kernel) (pa_cons (pv 0) pa_nil)) (pe_glob (v := .int 2000) rfl g_MOST_SIGNS ⟨_, rfl⟩))) (pw_or1 (pt_not (pt_val (pe_fn C_is_within hr (by decide) rfl (pa_cons (pv 1) (pa_cons pe_int (pa_cons pe_int pa_nil))))))))))
        (pss_one (ps_raise rfl (takes_of rfl rfl rfl rfl) (X_BadPattern.mk1 rfl)))
        pss_nil)
      (pss_cons (ps_set (i := 2) sc_look_pattern.nd rfl (Or.inl rfl) pe_int)
      (pss_cons (ps_set (i := 3) sc_look_pattern.nd rfl (Or.inl rfl) pe_str)
      (pss_cons (ps_for (passes_of rfl) rfl (pi_str (pv 0)) (pg_name (i := 4) sc_look_pattern.nd rfl (by first | exact Or.inl rfl | exact Or.inr rfl))
        (pss_cons (ps_if (pt_cmpR op_notIn_sign (pv 4) (pe_op op_add_str pe_str (pe_fn C_letters hr (by decide) rfl (pa_cons (pv 1) pa_nil))) rfl)
          (pss_one (ps_raise rfl (takes_of rfl rfl rfl rfl) (X_BadPattern.mk1 rfl)))
          pss_nil)
        (pss_join (ps_if (PW.pt (pw_and (pt_cmpR op_in_sign (pv 3) pe_str rfl) (pw_and1 (pt_cmpR op_in_sign (pv 4) pe_str rfl))))
          (pss_one (ps_raise rfl (takes_of rfl rfl rfl rfl) (X_BadPattern.mk1 rfl)))
          pss_nil)
        (pss_cons (ps_set (i := 2) sc_look_pattern.nd rfl (Or.inl rfl) (pe_op op_sub (pe_op op_add (pv 2) (pe_callTy call_int1 (by rfl) g_int (by decide +kernel) (pa_cons (pe_cmpR op_eq (pv 4) pe_str (nomark _)) pa_nil))) (pe_callTy call_int1 (by rfl) g_int (by decide +kernel) (pa_cons (pe_cmpR op_eq (pv 4) pe_str (nomark _)) pa_nil))))
        (pss_cons (ps_if (pt_cmpR op_lt (pv 2) pe_int (nomark _))
          (pss_one (ps_raise rfl (takes_of rfl rfl rfl rfl) (X_BadPattern.mk1 rfl)))
          pss_nil)
        (pss_one (ps_set (i := 3) sc_look_pattern.nd rfl (Or.inl rfl) (pv 4))))))))
      (pss_one (ps_if (PW.pt (pw_or (pt_cmpR op_ne (pv 2) pe_int (nomark _)) (pw_or1 (pt_cmpR op_in_sign (pv 3) pe_str rfl))))
        (pss_one (ps_raise rfl (takes_of rfl rfl rfl rfl) (X_BadPattern.mk1 rfl)))
        pss_nil)))))), ?_⟩
    refine ⟨_, rfl, Z, d, x, rfl, im, _, rfl, ?_⟩
    cases d with
    | str z =>
      have im : x = .str z := im
      subst im
      have sz : z.length ≤ 1000000 := sz
      have e1 : isT (.str z) "str" = true := by dsimp only [isT, tyN]; decide +kernel
      rw [e1]
      refine iteF ?_
      refine ⟨_, rfl, _, rfl, Nat.le_of_lt (sl_small sz), 1, z.length, rfl, rfl, _, rfl, ?_⟩
      have bad : patOk (.str z) dw = false → E (.ref cP) none H := q2
      refine ite2 (fun c1 => ?_) (fun c1 => ?_)
      · refine ⟨z.length, 2000, rfl, rfl, _, rfl, ?_⟩
        refine ite2 (fun c2 => ?_) (fun c2 => ?_)
        · have c2 : ¬ z.length ≤ 2000 := by simpa using c2
          refine iteT (bad ?_)
          cases dw with
          | int i => simp [patOk, c2]
          | _ => rfl
        have c1 : 1 ≤ z.length := by simpa using c1
        have c2 : z.length ≤ 2000 := by simpa using c2
        refine ⟨_, rfl, Z', dw, y, 1, 3, rfl, imw, _, rfl, ?_⟩
        cases hwd : withinD dw 1 3 with
        | false =>
          refine iteT (bad ?_)
          cases dw with
          | int i =>
            have : decide (1 ≤ i ∧ i ≤ 3) = false := hwd
            rw [patOk_si, this]; rfl
          | _ => rfl
        | true =>
          refine iteF ?_
          cases dw with
          | int i =>
            have hi : 1 ≤ i ∧ i ≤ 3 := of_decide_eq_true hwd
            have imw : y = .int i := imw
            obtain ⟨wn, rfl⟩ : ∃ wn : Nat, i = wn := ⟨i.toNat, by omega⟩
            subst imw
            have hpo : patOk (.str z) (.int wn) = patCodes wn z.cps.toList := by
              rw [patOk_si, decide_eq_true hi, decide_eq_true (show 1 ≤ z.length ∧ z.length ≤ 2000 from ⟨c1, c2⟩)]; rfl
            rw [hpo] at q1 bad
            -- deep = 0; last = '('; for sign in pattern
            refine ⟨_, rfl, z, rfl, for_str (fun j σ H' => ∃ (dp : Int) (ls : Nat) (v4 : Option V), σ = [some (.str z), some (nV wn), some (.int dp), some (.str ⟨#[ls]⟩), v4] ∧ H = H' ∧ patRun wn (z.cps.toList.take j) 0 40 = some (dp, ls)) ⟨0, 40, none, rfl, rfl, by simp [patRun]⟩ ?_ ?_⟩
            · rintro j c σ H' hc ⟨dp, ls, v4, rfl, rfl, hrun⟩
              have hsplit : z.cps.toList = z.cps.toList.take j ++ c :: z.cps.toList.drop (j + 1) := by
                obtain ⟨hlt, ee⟩ := List.getElem?_eq_some_iff.mp hc
                rw [← ee, ← List.drop_eq_getElem_cons hlt, List.take_append_drop]
              have fails : patTurn wn c dp ls = none → patCodes wn z.cps.toList = false := fun hn => by
                have h2 := patRun_app wn (z.cps.toList.take j) (c :: z.cps.toList.drop (j + 1)) 0 40
                rw [hrun, ← hsplit, Option.bind_some, patRun, hn] at h2
                unfold patCodes
                rw [h2]; rfl
              have step : z.cps.toList.take (j + 1) = z.cps.toList.take j ++ [c] := by rw [List.take_add_one, hc]; rfl
              refine ⟨_, rfl, _, rfl, wn, rfl, by omega, _, _, rfl, rfl, ?_, c, _, rfl, rfl, _, rfl, ?_⟩
              · have e1 : Str.length (Str.ofString "!.*|()") = 6 := rfl
                rw [e1, tuneS_len, List.length_range]
                exact Nat.le_of_lt (sl_small (by omega))
              rw [mem_psigns]
              refine ite2 (fun d1 => ?_) (fun d1 => ?_)
              · refine bad (fails ?_)
                rw [patTurn, if_pos (by simpa using d1)]
              have d1 : patSign wn c = true := by simpa using d1
              -- if last in '(|' and sign in '*|)'
              refine ⟨fun σ' H' => σ' = [some (.str z), some (nV wn), some (.int dp), some (.str ⟨#[ls]⟩), some (.str ⟨#[c]⟩)] ∧ H = H' ∧ ([40, 124].contains ls && [42, 124, 41].contains c) = false, ⟨_, rfl, ls, _, rfl, rfl, _, rfl, ?_⟩, ?_⟩
              · rw [mem_lit ls (Str.ofString "(|") [40, 124] rfl]
                refine ite2 (fun d2 => ?_) (fun d2 => ?_)
                · refine ⟨_, rfl, c, _, rfl, rfl, _, rfl, ?_⟩
                  rw [mem_lit c (Str.ofString "*|)") [42, 124, 41] rfl]
                  refine ite2 (fun d3 => ?_) (fun d3 => ?_)
                  · refine bad (fails ?_)
                    rw [patTurn, if_neg (by rw [d1]; simp), if_pos (by rw [d2, d3]; rfl)]
                  · exact ⟨rfl, rfl, by rw [d2]; simpa using d3⟩
                · refine iteF ⟨rfl, rfl, ?_⟩
                  have d2 : [40, 124].contains ls = false := by simpa using d2
                  rw [d2]; rfl
              rintro _ _ ⟨rfl, rfl, d2⟩
              -- deep
              refine ⟨_, rfl, _, rfl, rfl, .inr ⟨_, rfl, _, _, rfl, rfl, _, rfl, rfl, .inr ⟨_, rfl, _, _, rfl, rfl, ?_⟩⟩⟩
              rw [dec_sign c 40 (Str.ofString "(") rfl, dec_sign c 41 (Str.ofString ")") rfl]
              refine ⟨_, rfl, _, _, rfl, rfl, _, rfl, ?_⟩
              refine ite2 (fun d3 => ?_) (fun d3 => ?_)
              · have d3 : dp + ind c 40 - ind c 41 < 0 := of_decide_eq_true d3
                refine bad (fails ?_)
                rw [patTurn, if_neg (by rw [d1]; simp), if_neg (by rw [d2]; simp), if_pos d3]
              · have d3 : ¬ dp + ind c 40 - ind c 41 < 0 := fun q => d3 (decide_eq_true q)
                refine ⟨_, rfl, dp + ind c 40 - ind c 41, c, _, rfl, rfl, ?_⟩
                rw [step, patRun_app, hrun, Option.bind_some, patRun, patTurn, if_neg (by rw [d1]; simp), if_neg (by rw [d2]; simp), if_neg d3]
                rfl
            · rintro σ H' ⟨dp, ls, v4, rfl, rfl, hrun⟩
              rw [List.take_length] at hrun
              have hpc : patCodes wn z.cps.toList = (decide (dp = 0) && ![40, 124].contains ls) := by unfold patCodes; rw [hrun]
              rw [hpc] at q1 bad
              refine ⟨_, rfl, rfl, _, rfl, ?_⟩
              refine ite2 (fun d1 => ?_) (fun d1 => ?_)
              · refine iteT (bad ?_)
                have : ¬ dp = 0 := fun q => by subst q; simp at d1
                rw [decide_eq_false this]; rfl
              · have d0 : dp = 0 := by
                  by_cases q : dp = 0
                  · exact q
                  · exact absurd (by simpa using q) d1
                refine ⟨_, rfl, ls, _, rfl, rfl, _, rfl, ?_⟩
                rw [mem_lit ls (Str.ofString "(|") [40, 124] rfl]
                refine ite2 (fun d2 => ?_) (fun d2 => ?_)
                · refine bad ?_
                  rw [d2, decide_eq_true d0]; rfl
                · refine q1 ?_
                  have d2 : [40, 124].contains ls = false := by simpa using d2
                  rw [d2, decide_eq_true d0]; rfl
          | _ => cases hwd
      · have c1 : ¬ 1 ≤ z.length := by simpa using c1
        refine ⟨_, rfl, iteT (iteT (bad ?_))⟩
        cases dw with
        | int i => simp [patOk, c1]
        | _ => rfl
    | none => exact iteT (iteT (q2 rfl))
    | bool z => exact iteT (iteT (q2 rfl))
    | int z => exact iteT (iteT (q2 rfl))
    | list z => exact iteT (iteT (q2 rfl))
    | tuple z => exact iteT (iteT (q2 rfl))
    | dict z => exact iteT (iteT (q2 rfl))
end
/-! ### the signs of a pattern with joints, and in the order in which they are worked out -/
abbrev sgD (c : Nat) : PyData := .str ⟨#[c]⟩
abbrev sgV (c : Nat) : V := .str ⟨#[c]⟩
theorem hu_of {k : Nat} {A : Around} (r : Room k A) : A.units + 1 < cLine := by have := r.un; omega
theorem sgs_ims {H : Hp} {Z : List Addr} : ∀ (l : List Nat), ImAll H Z (l.map sgD) (l.map sgV)
  | [] => rfl
  | _ :: l => ⟨_, _, rfl, rfl, sgs_ims l⟩
theorem sgs_inv {H : Hp} {Z : List Addr} : ∀ {l : List Nat} {xs : List V}, ImAll H Z (l.map sgD) xs → xs = l.map sgV
  | [], xs, h => h
  | c :: l, xs, h => by
    obtain ⟨y, r, e, h1, h2⟩ := h
    subst e
    have h1 : y = sgV c := h1
    rw [h1, sgs_inv h2]; rfl
def spJoints : Sp := fun vs H Q _ => ∃ l : List Nat, vs = [.str (SX.S l)] ∧ l.length ≤ 100000 ∧ ∀ a H', Wd H H' [.L a ((jointsL l).map sgD)] [] → Q (.ref a) H'
section
variable {P : Program} {w : World} {K : PySem.W.Frag} {mg : Str → Option Value} {base : Heap}
theorem sc_joints : FnScope ["pattern", "found", "at", "sign"] ["pattern"] (defScope s_joints) := ⟨rfl, rfl, rfl, by decide +kernel, rfl, by decide +kernel, by decide +kernel⟩
theorem ok_joints {f : Addr} {fd : FuncData} (F : Fun K "joints" "joints" s_joints f fd) (g_enumerate : mg "enumerate" = none) : FnOk P w K mg base CX0 1 f fd ["pattern"] spJoints := by
  refine F.ok sc_joints (fun vs H Q E h => ?_) (fun cdv A outer s H vs Q E hr h => ?_)
  · obtain ⟨_, rfl, _⟩ := h
    rfl
  · obtain ⟨l, rfl, hl, q⟩ := h
    refine ⟨_, (pss_cons (ps_set (i := 1) sc_joints.nd rfl (Or.inl rfl) (pe_lst pa_nil))
      (pss_cons (ps_for PassesOwn.never rfl (pi_enS (by rfl) g_enumerate (pa_cons (pv 0) pa_nil)) (pg_tup rfl (pgs_cons (pg_name (i := 2) sc_joints.nd rfl (by first | exact Or.inl rfl | exact Or.inr rfl)) (pgs_cons (pg_name (i := 3) sc_joints.nd rfl (by first | exact Or.inl rfl | exact Or.inr rfl)) pgs_nil)))
        (pss_join (ps_if (PW.pt (pw_and (pt_cmpR oN_gt (pv 2) pe_int (nomark _)) (pw_and (pt_cmpR op_notIn_sign (pv 3) pe_str rfl) (pw_and1 (pt_cmpR op_notIn_sign (pe_ix ix_str (pv 0) (pe_op oN_sub (pv 2) pe_int) (fun _ _ => rfl)) pe_str rfl)))))
          (pss_one (ps_expr (pe_bm PySem.F.plainAttrs_list PySem.F.slot_list_append PySem.F.type_list_append mt_append (pv 1) (pa_cons pe_str pa_nil))))
          pss_nil)
        (pss_one (ps_expr (pe_bm PySem.F.plainAttrs_list PySem.F.slot_list_append PySem.F.type_list_append mt_append (pv 1) (pa_cons (pv 3) pa_nil))))))
      (pss_one (ps_ret (pv 1))))), ?_⟩
    have w0 : Wd H H [] [] := Wd.start (by simp)
    refine ⟨Nat.zero_le _, fun lf hlf => ?_⟩
    have w1 := w0.pushL (ds := ([] : List Nat).map sgD) (xs := []) hlf ImAll.nil
    have ln : (SX.S l).cps.size = l.length := SX.S_len l
    refine ⟨_, rfl, SX.S l, rfl, for_enS (K := K) (fun i σ H' => ∃ z2 z3 : Option V, σ = [some (.str (SX.S l)), some (.ref lf), z2, z3] ∧ Wd H H' [.L lf ((jointsL (l.take i)).map sgD)] []) ⟨none, none, rfl, w1⟩ (fun i c σ H' T hc pv hT => ?_) (fun σ H' pv => ?_)⟩
    · obtain ⟨z2, z3, rfl, w2⟩ := pv
      have hc : l[i]? = some c := by
        have : (SX.S l).cps.toList[i]? = some c := by rw [Array.getElem?_toList]; exact hc
        exact this
      have hi := (List.getElem?_eq_some_iff.mp hc).1
      have w3 := w2.call (same_new (o := .tup [nV i, .str ⟨#[c]⟩]) hT)
      generalize upd H' T _ = H3 at w3 ⊢
      have et : l.take (i + 1) = l.take i ++ [c] := by rw [List.take_add_one, hc]; rfl
      have jl := jgo_len (l.take i) none
      rw [List.length_take] at jl
      have jl : (jointsL (l.take i)).length ≤ 2 * min i l.length := jl
      -- the last one is added behind either way
      have fin : ∀ (ds : List Nat) H4, ds.length ≤ 2 * i + 1 → ds ++ [c] = jointsL (l.take (i + 1)) → Wd H H4 [.L lf (ds.map sgD)] [] →
          (tDrop (tBM K "list" rAppend (tVar 1) (tCons (tVar 3) tNil))) { nx := fun σ H' => ∃ z2 z3 : Option V, σ = [some (.str (SX.S l)), some (.ref lf), z2, z3] ∧ Wd H H' [.L lf ((jointsL (l.take (i + 1))).map sgD)] [], rt := Q } [some (.str (SX.S l)), some (.ref lf), some (nV i), some (sgV c)] H4 := by
        intro ds H4 hds e w4
        obtain ⟨xs, ex, jx⟩ := w4.list 0
        refine ⟨_, rfl, .inl ⟨rfl, _, SqL.of ex⟩, _, rfl, lf, _, _, rfl, rfl, ex, by rw [jx.length, List.length_map]; exact sl_small (by omega), ?_⟩
        have w5 := w4.turnL 0 (ds' := (jointsL (l.take (i + 1))).map sgD) (xs := xs ++ [sgV c]) rfl (by
          rw [← e, List.map_append]; exact jx.snoc rfl)
        exact ⟨_, _, rfl, w5⟩
      have js := joints_snoc (l.take i) c
      rw [← et] at js
      refine ⟨fun σ H4 => ∃ ds : List Nat, ds.length ≤ 2 * i + 1 ∧ ds ++ [c] = jointsL (l.take (i + 1)) ∧ σ = [some (.str (SX.S l)), some (.ref lf), some (nV i), some (sgV c)] ∧ Wd H H4 [.L lf (ds.map sgD)] [], ?_, ?_⟩
      · by_cases i0 : 0 < i
        · have hp : i - 1 < l.length := by omega
          have gl : (l.take i).getLast? = some l[i - 1] := by
            rw [List.getLast?_eq_getElem?, List.length_take, show min i l.length = i by omega, List.getElem?_take_of_lt (by omega), List.getElem?_eq_getElem hp]
          rw [gl] at js
          have stay : jsep l[i - 1] c = false → jointsL (l.take i) ++ [c] = jointsL (l.take (i + 1)) := fun z => by
            rw [js]; unfold jtok; simp [z]
          refine ⟨_, rfl, i, 0, rfl, rfl, _, rfl, ?_⟩
          rw [decide_eq_true i0]
          refine iteT ⟨_, rfl, c, _, rfl, rfl, _, rfl, ?_⟩
          rw [mem_lit c _ [42, 124, 41] (by decide +kernel)]
          cases h1 : [42, 124, 41].contains c with
          | true => exact iteF (iteF ⟨_, by omega, stay (by unfold jsep; rw [h1]; rfl), rfl, w3⟩)
          | false =>
            refine iteT ⟨_, rfl, _, rfl, i, 1, rfl, rfl, i0, _, ((i - 1 : Nat) : Int), l[i - 1], rfl, rfl, by rw [SX.S_len]; exact Nat.le_of_lt (sl_small (by omega)), atI_nat (List.getElem?_eq_getElem hp), l[i - 1], _, rfl, rfl, _, rfl, ?_⟩
            rw [mem_lit _ _ [40, 124] (by decide +kernel)]
            cases h2 : [40, 124].contains l[i - 1] with
            | true => exact iteF ⟨_, by omega, stay (by unfold jsep; rw [h1, h2]; rfl), rfl, w3⟩
            | false =>
              obtain ⟨xs, ex, jx⟩ := w3.list 0
              refine iteT ⟨_, rfl, .inl ⟨rfl, _, SqL.of ex⟩, lf, _, _, rfl, rfl, ex, by rw [jx.length, List.length_map]; exact sl_small (by omega), ?_⟩
              have w4 := w3.turnL 0 (ds' := (jointsL (l.take i) ++ [38]).map sgD) (xs := xs ++ [.str (Str.ofString "&")]) rfl (by
                rw [List.map_append]; exact jx.snoc (show _ = _ by decide +kernel))
              refine ⟨_, by rw [List.length_append]; simp only [List.length_cons, List.length_nil]; omega, ?_, rfl, w4⟩
              have hj : jsep l[i - 1] c = true := by unfold jsep; rw [h1, h2]; rfl
              rw [js]
              simp [jtok, hj]
        · have i0 : i = 0 := by omega
          subst i0
          refine ⟨_, rfl, 0, 0, rfl, rfl, _, rfl, iteF (iteF ⟨_, by omega, ?_, rfl, w3⟩)⟩
          rw [js]; rfl
      · rintro σ H4 ⟨ds, h1, h2, rfl, w4⟩
        exact fin ds H4 h1 h2 w4
    · obtain ⟨z2, z3, rfl, w2⟩ := pv
      rw [ln, List.take_length] at w2
      exact ⟨_, rfl, q _ _ w2⟩
end
def strK : List (Key × V) := [(.inr (Str.ofString "|"), .int 1), (.inr (Str.ofString "&"), .int 2), (.inr (Str.ofString "*"), .int 3)]
theorem strK_at (c : Nat) : valV strK (.inr ⟨#[c]⟩) = if isOp c = true then some (nV (strN c)) else none := by
  have e1 : (Str.ofString "|") = ⟨#[124]⟩ := by decide +kernel
  have e2 : (Str.ofString "&") = ⟨#[38]⟩ := by decide +kernel
  have e3 : (Str.ofString "*") = ⟨#[42]⟩ := by decide +kernel
  unfold strK
  rw [e1, e2, e3]
  by_cases h1 : c = 124
  · subst h1; rw [valV_pos rfl]; rfl
  have n1 : ¬ ((Sum.inr ⟨#[124]⟩ : Key) = .inr ⟨#[c]⟩) := fun z => h1 (by simpa using z.symm)
  rw [valV_neg n1]
  by_cases h2 : c = 38
  · subst h2; rw [valV_pos rfl]; rfl
  have n2 : ¬ ((Sum.inr ⟨#[38]⟩ : Key) = .inr ⟨#[c]⟩) := fun z => h2 (by simpa using z.symm)
  rw [valV_neg n2]
  by_cases h3 : c = 42
  · subst h3; rw [valV_pos rfl]; rfl
  have n3 : ¬ ((Sum.inr ⟨#[42]⟩ : Key) = .inr ⟨#[c]⟩) := fun z => h3 (by simpa using z.symm)
  rw [valV_neg n3, valV_nil, if_neg (by unfold isOp; simp [h1, h2, h3])]
theorem sgs_noL (l : List Nat) : noLs (l.map sgD) = true := by
  rw [noLs_iff]; intro d hd
  obtain ⟨n, _, rfl⟩ := List.mem_map.mp hd
  rfl
theorem popTo_len : ∀ h : List Nat, (popTo h).1.length + (popTo h).2.length = h.length
  | [] => rfl
  | c :: h => by
    have ih := popTo_len h
    unfold popTo
    split
    · simp
    · simp only [List.length_cons]; omega
theorem popGe_len (s : Nat) : ∀ h : List Nat, (popGe s h).1.length + (popGe s h).2.length = h.length
  | [] => rfl
  | c :: h => by
    have ih := popGe_len s h
    unfold popGe
    split
    · simp only [List.length_cons]; omega
    · simp
theorem sy_len (q : SY) (c : Nat) : (syStep q c).1.length + (syStep q c).2.length ≤ q.1.length + q.2.length + 1 := by
  unfold syStep
  split
  · simp only [List.length_cons]; omega
  · split
    · have := popTo_len q.2
      simp only [List.length_append, List.length_tail]; omega
    · split
      · have := popGe_len (strN c) q.2
        simp only [List.length_append, List.length_cons]; omega
      · simp only [List.length_append, List.length_cons, List.length_nil]; omega
theorem syF_len : ∀ (t : List Nat) (q : SY), (t.foldl syStep q).1.length + (t.foldl syStep q).2.length ≤ q.1.length + q.2.length + t.length
  | [], q => Nat.le_refl _
  | c :: t, q => by
    have h1 := syF_len t (syStep q c)
    have h2 := sy_len q c
    rw [List.foldl_cons, List.length_cons]
    omega
theorem syRun_len (t : List Nat) : (syRun t).1.length + (syRun t).2.length ≤ t.length := by
  have h := syF_len t ([], [])
  have h : (syRun t).1.length + (syRun t).2.length ≤ 0 + 0 + t.length := h
  omega
def HeldOk (h : List Nat) : Prop := ∀ d ∈ h, d = 40 ∨ isOp d = true
theorem popTo_sub : ∀ {h : List Nat} {d : Nat}, d ∈ (popTo h).2 → d ∈ h
  | [], d, z => z
  | c :: h, d, z => by
    unfold popTo at z
    split at z
    · exact z
    · exact List.mem_cons_of_mem _ (popTo_sub z)
theorem popGe_sub {s : Nat} : ∀ {h : List Nat} {d : Nat}, d ∈ (popGe s h).2 → d ∈ h
  | [], d, z => z
  | c :: h, d, z => by
    unfold popGe at z
    split at z
    · exact List.mem_cons_of_mem _ (popGe_sub z)
    · exact z
theorem HeldOk.step {q : SY} (h : HeldOk q.2) (c : Nat) : HeldOk (syStep q c).2 := by
  unfold syStep
  split
  · intro d hd
    rcases List.mem_cons.mp hd with z | z
    · exact .inl z
    · exact h d z
  · split
    · exact fun d hd => h d (popTo_sub (List.mem_of_mem_tail hd))
    · split
      · rename_i ho
        intro d hd
        rcases List.mem_cons.mp hd with z | z
        · exact .inr (by rw [z]; exact ho)
        · exact h d (popGe_sub z)
      · exact h
theorem syF_held : ∀ (t : List Nat) (q : SY), HeldOk q.2 → HeldOk (t.foldl syStep q).2
  | [], q, h => h
  | c :: t, q, h => by rw [List.foldl_cons]; exact syF_held t _ (h.step c)
theorem syRun_held (t : List Nat) : HeldOk (syRun t).2 := syF_held t _ fun d hd => by simp at hd
theorem atI_last {α : Type} (xs : List α) (x : α) : atI (xs ++ [x]) (-1) = some x := by
  unfold atI ixN
  rw [if_neg (by decide), if_pos (by rw [List.length_append]; simp only [List.length_cons, List.length_nil]; omega)]
  show (xs ++ [x])[(-1 + ((xs ++ [x]).length : Int)).toNat]? = some x
  have e : (-1 + ((xs ++ [x]).length : Int)).toNat = xs.length := by
    rw [List.length_append]; simp only [List.length_cons, List.length_nil]; omega
  rw [e]
  simp
def spBehindEach : Sp := fun vs H Q _ => ∃ l : List Nat, vs = [.str (SX.S l)] ∧ l.length ≤ 2000 ∧ SyOk (jointsL l) ∧ ∀ a H', Wd H H' [.L a ((rpnL l).map sgD)] [] → Q (.ref a) H'
section
variable {P : Program} {w : World} {K : PySem.W.Frag} {mg : Str → Option Value} {base : Heap}
theorem sc_behind_each : FnScope ["pattern", "strength", "found", "held", "sign"] ["pattern"] (defScope s_behind_each) := ⟨rfl, rfl, rfl, by decide +kernel, rfl, by decide +kernel, by decide +kernel⟩
theorem ok_behind_each {f : Addr} {fd : FuncData} (F : Fun K "behind_each" "behind_each" s_behind_each f fd) (C_joints : Cal P w K mg base CX0 1 "joints" ["pattern"] spJoints) : FnOk P w K mg base CX0 2 f fd ["pattern"] spBehindEach := by
  refine F.ok sc_behind_each (fun vs H Q E h => ?_) (fun cdv A outer s H vs Q E hr h => ?_)
  · obtain ⟨_, rfl, _⟩ := h
    rfl
  · obtain ⟨l, rfl, hl, hok, q⟩ := h
    refine ⟨_, (pss_cons (ps_set (i := 1) sc_behind_each.nd rfl (Or.inl rfl) (pe_disp (pps_cons pe_str pe_int (pps_cons pe_str pe_int (pps_cons pe_str pe_int pps_nil))) rfl rfl (by simp) (by decide)))
      (pss_cons (ps_set (i := 2) sc_behind_each.nd rfl (Or.inl rfl) (pe_lst pa_nil))
      (pss_cons (ps_set (i := 3) sc_behind_each.nd rfl (Or.inl rfl) (pe_lst pa_nil))
      (pss_cons (ps_for PassesOwn.never rfl (pi_list (pe_fn C_joints hr (by decide) rfl (pa_cons (pv 0) pa_nil))) (pg_name (i := 4) sc_behind_each.nd rfl (by first | exact Or.inl rfl | exact Or.inr rfl))
        (pss_one (ps_if (pt_cmpR op_eq (pv 4) pe_str (nomark _))
          (pss_one (ps_expr (pe_bm PySem.F.plainAttrs_list PySem.F.slot_list_append PySem.F.type_list_append mt_append (pv 3) (pa_cons (pv 4) pa_nil))))
          (pss_one (ps_if (pt_cmpR op_eq (pv 4) pe_str (nomark _))
            (pss_cons (ps_while PassesOwn.never (pt_cmpR op_ne (pe_ix (ixL (K := K) rfl) (pv 3) (pe_un un_neg pe_int) (fun _ _ => rfl)) pe_str (nomark _))
              (pss_one (ps_expr (pe_bm PySem.F.plainAttrs_list PySem.F.slot_list_append PySem.F.type_list_append mt_append (pv 2) (pa_cons (pe_bm0 PySem.F.plainAttrs_list PySem.F.slot_list_pop PySem.F.type_list_pop mt_pop (pv 3)) pa_nil)))))
            (pss_one (ps_expr (pe_bm0 PySem.F.plainAttrs_list PySem.F.slot_list_pop PySem.F.type_list_pop mt_pop (pv 3)))))
            (pss_one (ps_if (pt_cmp (pc_din (hu_of hr) (pv 4) (pv 1)))
              (pss_cons (ps_while PassesOwn.never (PW.pt (pw_and (pt_truth (pv 3) (by intro _; rfl)) (pw_and (pt_cmpR op_ne (pe_ix (ixL (K := K) rfl) (pv 3) (pe_un un_neg pe_int) (fun _ _ => rfl)) pe_str (nomark _)) (pw_and1 (pt_cmpR oN_ge (pe_dget (hu_of hr) (pv 1) (pe_ix (ixL (K := K) rfl) (pv 3) (pe_un un_neg pe_int) (fun _ _ => rfl)) (fun _ _ => rfl)) (pe_dget (hu_of hr) (pv 1) (pv 4) (fun _ _ => rfl)) (nomark _))))))
                (pss_one (ps_expr (pe_bm PySem.F.plainAttrs_list PySem.F.slot_list_append PySem.F.type_list_append mt_append (pv 2) (pa_cons (pe_bm0 PySem.F.plainAttrs_list PySem.F.slot_list_pop PySem.F.type_list_pop mt_pop (pv 3)) pa_nil)))))
              (pss_one (ps_expr (pe_bm PySem.F.plainAttrs_list PySem.F.slot_list_append PySem.F.type_list_append mt_append (pv 3) (pa_cons (pv 4) pa_nil)))))
              (pss_one (ps_expr (pe_bm PySem.F.plainAttrs_list PySem.F.slot_list_append PySem.F.type_list_append mt_append (pv 2) (pa_cons (pv 4) pa_nil)))))))))))
      (pss_cons (ps_expr (pe_bm0 PySem.F.plainAttrs_list PySem.F.slot_list_reverse PySem.F.type_list_reverse mt_reverse (pv 3)))
      (pss_one (ps_ret (pe_op op_cat (pv 2) (pv 3))))))))), ?_⟩
    have w0 : Wd H H [] [] := Wd.start (by simp)
    refine fun ls hls => ?_
    have w1 := w0.pushD (kvs := []) hls
    refine ⟨upd_same, [(.inr (Str.ofString "|"), .int 1), (.inr (Str.ofString "&"), .int 2), (.inr (Str.ofString "*"), .int 3)], rfl, by decide, ?_⟩
    have em : mergeK [] [(.inr (Str.ofString "|"), .int 1), (.inr (Str.ofString "&"), .int 2), (.inr (Str.ofString "*"), .int 3)] = strK := by decide +kernel
    rw [em]
    have w2 := w1.turnD 0 (kvs' := strK) rfl
    generalize upd (upd H ls (.dK [])) ls _ = H2 at w2 ⊢
    refine ⟨Nat.zero_le _, fun lf hlf => ?_⟩
    have w3 := w2.pushL (ds := ([] : List Nat).map sgD) (xs := []) hlf ImAll.nil
    generalize upd H2 lf _ = H3 at w3 ⊢
    refine ⟨Nat.zero_le _, fun lh hlh => ?_⟩
    have w4 := w3.pushL (ds := ([] : List Nat).map sgD) (xs := []) hlh ImAll.nil
    generalize upd H3 lh _ = H4 at w4 ⊢
    refine ⟨_, rfl, l, rfl, by omega, fun lt H5 w5 => ?_⟩
    have w6 := w4.join1 w5 (sgs_noL _)
    have jl : (jointsL l).length ≤ 2 * l.length := jgo_len l none
    obtain ⟨xt, et, jt⟩ := w6.list 0
    obtain rfl := sgs_inv jt
    refine ⟨lt, rfl, ⟨_, SqL.of et⟩, for_list (K := K) (a := lt) (xs := (jointsL l).map sgV) (fun i σ H' => ∃ z4 : Option V, σ = [some (.str (SX.S l)), some (.ref ls), some (.ref lf), some (.ref lh), z4] ∧ Wd H H' [.L lt ((jointsL l).map sgD), .L lh ((syRun ((jointsL l).take i)).2.reverse.map sgD), .L lf ((syRun ((jointsL l).take i)).1.map sgD), .DK ls strK] [])
      ⟨none, rfl, w6⟩ (fun i σ H' _ pv => ?_) (fun i x σ H' hx pv => ?_) (fun σ H' pv => ?_)⟩
    · obtain ⟨z4, rfl, w7⟩ := pv
      obtain ⟨xs, ex, jx⟩ := w7.list 0
      obtain rfl := sgs_inv jx
      exact SqL.of ex
    · obtain ⟨z4, rfl, w7⟩ := pv
      obtain ⟨c, hc, rfl⟩ : ∃ c, (jointsL l)[i]? = some c ∧ x = sgV c := by
        rw [List.getElem?_map] at hx
        cases e : (jointsL l)[i]? with
        | none => rw [e] at hx; cases hx
        | some c => rw [e] at hx; exact ⟨c, rfl, (Option.some.inj hx).symm⟩
      have hi := (List.getElem?_eq_some_iff.mp hc).1
      have es : syRun ((jointsL l).take (i + 1)) = syStep (syRun ((jointsL l).take i)) c := by
        unfold syRun
        rw [List.take_add_one, hc, List.foldl_append]; rfl
      have hq := syRun_len ((jointsL l).take i)
      have ho := hok i
      have hh := syRun_held ((jointsL l).take i)
      rw [hc] at ho
      rw [List.length_take] at hq
      generalize syRun ((jointsL l).take i) = s0 at w7 es hq ho hh
      obtain ⟨F0, h0⟩ := s0
      have hq : F0.length + h0.length ≤ min i (jointsL l).length := hq
      have ho : c = 41 → 40 ∈ h0 := fun z => ho (by rw [z])
      have w7 : Wd H H' [.L lt ((jointsL l).map sgD), .L lh (h0.reverse.map sgD), .L lf (F0.map sgD), .DK ls strK] [] := w7
      have pp : ∀ (F r : List Nat) (d : Nat) (H8 : Hp) (D : Ends), F.length + r.length ≤ 10000 → Wd H H8 [.L lt ((jointsL l).map sgD), .L lh ((d :: r).reverse.map sgD), .L lf (F.map sgD), .DK ls strK] [] →
          (∀ H9, Wd H H9 [.L lt ((jointsL l).map sgD), .L lh (r.reverse.map sgD), .L lf ((F ++ [d]).map sgD), .DK ls strK] [] → D.nx [some (.str (SX.S l)), some (.ref ls), some (.ref lf), some (.ref lh), some (sgV c)] H9) →
          (tDrop (tBM K "list" rAppend (tVar 2) (tCons (tBM0 K "list" rPop (tVar 3)) tNil))) D [some (.str (SX.S l)), some (.ref ls), some (.ref lf), some (.ref lh), some (sgV c)] H8 := by
        intro F r d H8 D hz w8 k
        obtain ⟨xf, ef, jf⟩ := w8.list 2
        obtain ⟨xh, eh, jh⟩ := w8.list 1
        obtain rfl := sgs_inv jh
        have exh : ((d :: r).reverse.map sgV) = r.reverse.map sgV ++ [sgV d] := by rw [List.reverse_cons, List.map_append]; rfl
        rw [exh] at eh
        refine ⟨_, rfl, .inl ⟨rfl, _, SqL.of ef⟩, _, rfl, .inl ⟨rfl, _, SqL.of eh⟩, lh, _, sgV d, rfl, rfl, eh, by simp, ?_⟩
        rw [List.dropLast_concat]
        have w9 := w8.turnL 1 (ds' := r.reverse.map sgD) (xs := r.reverse.map sgV) rfl (sgs_ims _)
        generalize upd H8 lh _ = H9 at w9 ⊢
        obtain ⟨xf, ef, jf⟩ := w9.list 2
        refine ⟨lf, _, _, rfl, rfl, ef, by rw [jf.length, List.length_map]; exact sl_small (by omega), ?_⟩
        have w10 := w9.turnL 2 (ds' := (F ++ [d]).map sgD) (xs := xf ++ [sgV d]) rfl (by rw [List.map_append]; exact jf.snoc rfl)
        exact k _ w10
      -- c == "("
      refine ⟨_, rfl, rfl, _, rfl, ?_⟩
      rw [dec_sign c 40 _ (by decide +kernel)]
      refine ite2 (fun e => ?_) (fun n40 => ?_)
      · obtain rfl : c = 40 := by simpa using e
        obtain ⟨xh, eh, jh⟩ := w7.list 1
        refine ⟨_, rfl, .inl ⟨rfl, _, SqL.of eh⟩, _, rfl, lh, _, _, rfl, rfl, eh, by rw [jh.length, List.length_map, List.length_reverse]; exact sl_small (by omega), ?_⟩
        have w8 := w7.turnL 1 (ds' := ((40 :: h0).reverse).map sgD) (xs := xh ++ [sgV 40]) rfl (by
          rw [List.reverse_cons, List.map_append]; exact jh.snoc rfl)
        refine ⟨_, rfl, ?_⟩
        rw [es]
        exact w8
      have n40 : c ≠ 40 := by simpa using n40
      refine ⟨_, rfl, rfl, _, rfl, ?_⟩
      rw [dec_sign c 41 _ (by decide +kernel)]
      refine ite2 (fun e => ?_) (fun n41 => ?_)
      · obtain rfl : c = 41 := by simpa using e
        have wh : ∀ D : Ends, (∀ σ H', (∃ (F h : List Nat), F = F0 ++ (popTo h0).1 ∧ h = (popTo h0).2 ∧ (∃ r, h = 40 :: r) ∧ σ = [some (.str (SX.S l)), some (.ref ls), some (.ref lf), some (.ref lh), some (sgV 41)] ∧ Wd H H' [.L lt ((jointsL l).map sgD), .L lh (h.reverse.map sgD), .L lf (F.map sgD), .DK ls strK] []) → D.nx σ H') → (tWhile (tTest (tOp rNe (tOp (rIxL K) (tVar 3) (tUn (rU fun i => V.int (-i)) (tC (V.int 1)))) (tC (V.str (Str.ofString "("))))) (tDrop (tBM K "list" rAppend (tVar 2) (tCons (tBM0 K "list" rPop (tVar 3)) tNil))))
            D [some (.str (SX.S l)), some (.ref ls), some (.ref lf), some (.ref lh), some (sgV 41)] H' := by
          intro D kD
          refine ⟨fun m σ H' => ∃ (F h : List Nat), m = h.length ∧ 40 ∈ h ∧ F ++ (popTo h).1 = F0 ++ (popTo h0).1 ∧ (popTo h).2 = (popTo h0).2 ∧ σ = [some (.str (SX.S l)), some (.ref ls), some (.ref lf), some (.ref lh), some (sgV 41)] ∧ Wd H H' [.L lt ((jointsL l).map sgD), .L lh (h.reverse.map sgD), .L lf (F.map sgD), .DK ls strK] [],
            ⟨_, F0, h0, rfl, ho rfl, rfl, rfl, rfl, w7⟩, ?_⟩
          rintro m σ H8 ⟨F, h, rfl, m40, e1, e2, rfl, w8⟩
          cases h with
          | nil => simp at m40
          | cons d r =>
            obtain ⟨xh, eh, jh⟩ := w8.list 1
            obtain rfl := sgs_inv jh
            have exh : ((d :: r).reverse.map sgV) = r.reverse.map sgV ++ [sgV d] := by rw [List.reverse_cons, List.map_append]; rfl
            refine ⟨_, rfl, 1, rfl, lh, _, -1, sgV d, rfl, rfl, SqL.of eh, by rw [exh]; exact atI_last _ _, ?_⟩
            have hz : F.length + (d :: r).length ≤ 10000 := by
              have a1 := congrArg List.length e1
              have a2 := congrArg List.length e2
              rw [List.length_append, List.length_append] at a1
              have a3 := popTo_len (d :: r)
              have a4 := popTo_len h0
              omega
            refine ⟨rfl, _, rfl, ?_⟩
            rw [dec_sign d 40 _ (by decide +kernel)]
            by_cases hd : d = 40
            · rw [decide_eq_true hd]
              subst hd
              rw [popTo_stop] at e1 e2
              exact iteF (kD _ _ ⟨F, 40 :: r, by rw [← e1]; simp, e2, ⟨r, rfl⟩, rfl, w8⟩)
            · rw [decide_eq_false hd]
              refine iteT ⟨_, fun σ' H' z => z, pp F r d H8 _ (by simp only [List.length_cons] at hz; omega) w8 fun H9 w9 => ?_⟩
              rw [popTo, if_neg hd] at e1 e2
              refine ⟨_, (by rw [List.length_cons]; exact Nat.lt_succ_self _), F ++ [d], r, rfl, ?_, by rw [← e1]; simp, e2, rfl, w9⟩
              rcases List.mem_cons.mp m40 with z | z
              · exact absurd z.symm hd
              · exact z
        refine sq_to (wh _ fun σ H8 hm => ?_)
        obtain ⟨F, h, rfl, eh0, ⟨r, rfl⟩, rfl, w8⟩ := hm
        obtain ⟨xh, eh, jh⟩ := w8.list 1
        obtain rfl := sgs_inv jh
        have exh : ((40 :: r).reverse.map sgV) = r.reverse.map sgV ++ [sgV 40] := by rw [List.reverse_cons, List.map_append]; rfl
        rw [exh] at eh
        refine ⟨_, rfl, .inl ⟨rfl, _, SqL.of eh⟩, lh, _, sgV 40, rfl, rfl, eh, by simp, ?_⟩
        rw [List.dropLast_concat]
        have w9 := w8.turnL 1 (ds' := r.reverse.map sgD) (xs := r.reverse.map sgV) rfl (sgs_ims _)
        refine ⟨_, rfl, ?_⟩
        rw [es]
        have e9 : syStep (F0, h0) 41 = (F0 ++ (popTo h0).1, r) := by
          unfold syStep
          rw [if_neg (by decide), if_pos rfl, ← eh0]; rfl
        rw [e9]
        exact w9
      have n41 : c ≠ 41 := by simpa using n41
      -- c in strength
      have dk : ∀ {H8 : Hp} {cs : List Cell}, Wd H H8 cs [] → Cell.DK ls strK ∈ cs → ∀ d : Nat, DGet H8 ls (sgV d) (if isOp d = true then some (nV (strN d)) else none) := fun {H8 cs} w8 hm d => by
        have e : H8 ls = some (.dK strK) := w8.ok _ hm
        have := DGet.k (k := .inr ⟨#[d]⟩) e
        rw [strK_at] at this
        exact this
      refine ⟨_, rfl, _, rfl, ls, _, rfl, dk w7 (by simp) c, _, rfl, ?_⟩
      by_cases hop : isOp c = true
      · rw [if_pos hop]
        refine iteT ?_
        have wh : ∀ D : Ends, (∀ σ H8, (∃ (F h : List Nat), F = F0 ++ (popGe (strN c) h0).1 ∧ h = (popGe (strN c) h0).2 ∧ σ = [some (.str (SX.S l)), some (.ref ls), some (.ref lf), some (.ref lh), some (sgV c)] ∧ Wd H H8 [.L lt ((jointsL l).map sgD), .L lh (h.reverse.map sgD), .L lf (F.map sgD), .DK ls strK] []) → D.nx σ H8) →
            tWhile (tAnd (fun σ H_1 Q => tVar 3 σ H_1 fun x H' => ∃ k, TruV K x H' k ∧ Q k H') (tAnd (tTest (tOp rNe (tOp (rIxL K) (tVar 3) (tUn (rU fun i => V.int (-i)) (tC (V.int 1)))) (tC (V.str (Str.ofString "("))))) (tTest (tOp (rN fun n m => V.bl (decide (m ≤ n))) (tDGet (tVar 1) (tOp (rIxL K) (tVar 3) (tUn (rU fun i => V.int (-i)) (tC (V.int 1))))) (tDGet (tVar 1) (tVar 4))))))
              (tDrop (tBM K "list" rAppend (tVar 2) (tCons (tBM0 K "list" rPop (tVar 3)) tNil))) D [some (.str (SX.S l)), some (.ref ls), some (.ref lf), some (.ref lh), some (sgV c)] H' := by
          intro D kD
          refine ⟨fun m σ H' => ∃ (F h : List Nat), m = h.length ∧ HeldOk h ∧ F ++ (popGe (strN c) h).1 = F0 ++ (popGe (strN c) h0).1 ∧ (popGe (strN c) h).2 = (popGe (strN c) h0).2 ∧ σ = [some (.str (SX.S l)), some (.ref ls), some (.ref lf), some (.ref lh), some (sgV c)] ∧ Wd H H' [.L lt ((jointsL l).map sgD), .L lh (h.reverse.map sgD), .L lf (F.map sgD), .DK ls strK] [],
            ⟨_, F0, h0, rfl, hh, rfl, rfl, rfl, w7⟩, ?_⟩
          rintro m σ H8 ⟨F, h, rfl, hk, e1, e2, rfl, w8⟩
          obtain ⟨xh, eh, jh⟩ := w8.list 1
          obtain rfl := sgs_inv jh
          refine ⟨_, rfl, _, .inl ⟨_, SqL.of eh, rfl⟩, ?_⟩
          cases h with
          | nil => exact iteF (iteF (kD _ _ ⟨F, [], by rw [← e1]; simp [popGe], by rw [← e2]; rfl, rfl, w8⟩))
          | cons d r =>
            have hz : F.length + (d :: r).length ≤ 10000 := by
              have a1 := congrArg List.length e1
              have a2 := congrArg List.length e2
              rw [List.length_append, List.length_append] at a1
              have a3 := popGe_len (strN c) (d :: r)
              have a4 := popGe_len (strN c) h0
              omega
            have exh : ((d :: r).reverse.map sgV) = r.reverse.map sgV ++ [sgV d] := by rw [List.reverse_cons, List.map_append]; rfl
            rw [show (!((d :: r).reverse.map sgV).isEmpty) = true by rw [exh]; simp]
            refine iteT ⟨_, rfl, 1, rfl, lh, _, -1, sgV d, rfl, rfl, SqL.of eh, by rw [exh]; exact atI_last _ _, rfl, _, rfl, ?_⟩
            rw [dec_sign d 40 _ (by decide +kernel)]
            by_cases hd : d = 40
            · rw [decide_eq_true hd]
              have e9 : popGe (strN c) (d :: r) = ([], d :: r) := by rw [popGe, if_neg (fun z => z.1 hd)]
              rw [e9] at e1 e2
              exact iteF (iteF (kD _ _ ⟨F, d :: r, by rw [← e1]; simp, e2, rfl, w8⟩))
            · rw [decide_eq_false hd]
              have hdo : isOp d = true := (hk d (by simp)).resolve_left hd
              have g1 := dk w8 (by simp) d
              rw [if_pos hdo] at g1
              have g2 := dk w8 (by simp) c
              rw [if_pos hop] at g2
              refine iteT ⟨_, rfl, _, rfl, 1, rfl, lh, _, -1, sgV d, rfl, rfl, SqL.of eh, by rw [exh]; exact atI_last _ _, ls, _, rfl, g1, _, rfl, _, rfl, ls, _, rfl, g2, _, _, rfl, rfl, _, rfl, ?_⟩
              by_cases hs : strN c ≤ strN d
              · rw [decide_eq_true hs]
                have e9 : popGe (strN c) (d :: r) = (d :: (popGe (strN c) r).1, (popGe (strN c) r).2) := by rw [popGe, if_pos ⟨hd, hs⟩]
                rw [e9] at e1 e2
                refine iteT ⟨_, fun σ' H' z => z, pp F r d H8 _ (by simp only [List.length_cons] at hz; omega) w8 fun H9 w9 => ?_⟩
                exact ⟨_, (by rw [List.length_cons]; exact Nat.lt_succ_self _), F ++ [d], r, rfl, fun x hx => hk x (by simp [hx]), by rw [← e1]; simp, e2, rfl, w9⟩
              · rw [decide_eq_false hs]
                have e9 : popGe (strN c) (d :: r) = ([], d :: r) := by rw [popGe, if_neg (fun z => hs z.2)]
                rw [e9] at e1 e2
                exact iteF (kD _ _ ⟨F, d :: r, by rw [← e1]; simp, e2, rfl, w8⟩)
        refine sq_to (wh _ fun σ H8 hm => ?_)
        obtain ⟨F, h, rfl, rfl, rfl, w8⟩ := hm
        obtain ⟨xh, eh, jh⟩ := w8.list 1
        have a4 := popGe_len (strN c) h0
        refine ⟨_, rfl, .inl ⟨rfl, _, SqL.of eh⟩, _, rfl, lh, _, _, rfl, rfl, eh, by rw [jh.length, List.length_map, List.length_reverse]; exact sl_small (by omega), ?_⟩
        have er : ((c :: (popGe (strN c) h0).2).reverse).map sgD = (popGe (strN c) h0).2.reverse.map sgD ++ [sgD c] := by rw [List.reverse_cons, List.map_append]; rfl
        have w9 := w8.turnL 1 (ds' := ((c :: (popGe (strN c) h0).2).reverse).map sgD) (xs := xh ++ [sgV c]) rfl (by
          rw [er]; exact jh.snoc (d := sgD c) (show Im _ _ (sgD c) (sgV c) from rfl))
        refine ⟨_, rfl, ?_⟩
        rw [es]
        have e9 : syStep (F0, h0) c = (F0 ++ (popGe (strN c) h0).1, c :: (popGe (strN c) h0).2) := by
          unfold syStep
          rw [if_neg n40, if_neg n41, if_pos hop]
        rw [e9]
        exact w9
      · rw [if_neg hop]
        refine iteF ?_
        obtain ⟨xf, ef, jf⟩ := w7.list 2
        refine ⟨_, rfl, .inl ⟨rfl, _, SqL.of ef⟩, _, rfl, lf, _, _, rfl, rfl, ef, by rw [jf.length, List.length_map]; exact sl_small (by omega), ?_⟩
        have w8 := w7.turnL 2 (ds' := (F0 ++ [c]).map sgD) (xs := xf ++ [sgV c]) rfl (by rw [List.map_append]; exact jf.snoc rfl)
        refine ⟨_, rfl, ?_⟩
        rw [es]
        have e9 : syStep (F0, h0) c = (F0 ++ [c], h0) := by
          unfold syStep
          rw [if_neg n40, if_neg n41, if_neg hop]
        rw [e9]
        exact w8
    · obtain ⟨z4, rfl, w7⟩ := pv
      rw [List.length_map, List.take_length] at w7
      obtain ⟨xh, eh, jh⟩ := w7.list 1
      obtain rfl := sgs_inv jh
      refine ⟨_, rfl, .inl ⟨rfl, _, SqL.of eh⟩, lh, _, rfl, rfl, eh, ?_⟩
      have w8 := w7.turnL 1 (ds' := (syRun (jointsL l)).2.map sgD) (xs := ((syRun (jointsL l)).2.reverse.map sgV).reverse) rfl (by
        rw [← List.map_reverse, List.reverse_reverse]; exact sgs_ims _)
      generalize upd H' lh _ = H8 at w8 ⊢
      obtain ⟨xh, eh, jh⟩ := w8.list 1
      obtain ⟨xf, ef, jf⟩ := w8.list 2
      have hq := syRun_len (jointsL l)
      refine ⟨_, rfl, _, rfl, lf, lh, _, _, rfl, rfl, ef, eh, by rw [jf.length, jh.length, List.length_map, List.length_map]; exact Nat.le_of_lt (sl_small (by omega)), fun p hp => ?_⟩
      have w9 := w8.pushL (ds := (rpnL l).map sgD) hp (by unfold rpnL; rw [List.map_append]; exact jf.app jh)
      exact q _ _ (w9.sub ((List.nil_sublist _).cons₂ _))
end
/-! ### places: lists of numbers, parts, the object -/
abbrev rowD (l : List Nat) : PyData := .list (l.map nD)
abbrev partD (x : Part) : PyData := .tuple [.bool x.1, rowD x.2.1, rowD x.2.2]
theorem Im.row {H : Hp} {Z : List Addr} {l : List Nat} {v : V} (h : Im H Z (rowD l) v) : ∃ a, v = .ref a ∧ H a = some (.lst (l.map nV)) ∧ a ∉ Z := by
  obtain ⟨a, xs, rfl, e, n, j⟩ := h
  obtain rfl := j.nats_inv
  exact ⟨a, rfl, e, n⟩
theorem row_im {H : Hp} {Z : List Addr} {l : List Nat} {a : Addr} (e : H a = some (.lst (l.map nV))) (n : a ∉ Z) : Im H Z (rowD l) (.ref a) := ⟨a, _, rfl, e, n, ImAll.nats l⟩
def spBoth : Sp := fun vs H Q _ => ∃ (Z Z' : List Addr) (a b : List Nat) (va vb : V), vs = [va, vb] ∧ Im H Z (rowD a) va ∧ Im H Z' (rowD b) vb ∧ a.length + b.length < 4095 ∧ ∀ p H', Sm H H' → H p = none → H' p = some (.lst ((bothL a b).map nV)) → Q (.ref p) H'
section
variable {P : Program} {w : World} {K : PySem.W.Frag} {mg : Str → Option Value} {base : Heap}
theorem sc_both_lists : FnScope ["one", "two"] ["one", "two"] (defScope s_both_lists) := ⟨rfl, rfl, rfl, by decide +kernel, rfl, by decide +kernel, by decide +kernel⟩
theorem ok_both_lists {f : Addr} {fd : FuncData} (F : Fun K "both_lists" "both_lists" s_both_lists f fd) (g_sorted : mg "sorted" = none) (g_set : mg "set" = none) : FnOk P w K mg base CX0 1 f fd ["one", "two"] spBoth := by
  refine F.ok sc_both_lists (fun vs H Q E h => ?_) (fun cdv A outer s H vs Q E hr h => ?_)
  · obtain ⟨_, _, _, _, _, _, rfl, _⟩ := h
    rfl
  · obtain ⟨Z, Z', a, b, va, vb, rfl, ia, ib, hz, q⟩ := h
    refine ⟨_, (pss_one (ps_ret (pe_callB (sortedSetA (w := w) rfl rfl hr) (by rfl) g_sorted (by decide +kernel) (pa_cons (pe_callTy (setOfI (K := K) (w := w) rfl rfl rfl) (by rfl) g_set (by decide +kernel) (pa_cons (pe_op op_cat (pv 0) (pv 1)) pa_nil)) pa_nil)))), ?_⟩
    obtain ⟨pa, rfl, ea, _⟩ := ia.row
    obtain ⟨pb, rfl, eb, _⟩ := ib.row
    refine ⟨_, rfl, _, rfl, pa, pb, _, _, rfl, rfl, ea, eb, by rw [List.length_map, List.length_map]; exact Nat.le_of_lt (sl_small (by omega)), fun p1 hp1 => ?_⟩
    have s1 := same_new (o := .lst (a.map nV ++ b.map nV)) hp1
    have e1 := upd_same (H := H) (a := p1) (o := .lst (a.map nV ++ b.map nV))
    generalize upd H p1 _ = H1 at s1 e1 ⊢
    have em : a.map nV ++ b.map nV = ((a ++ b).map Int.ofNat).map V.int := by rw [List.map_map, List.map_append]; rfl
    rw [em] at e1
    refine ⟨p1, _, rfl, SqL.of e1, by rw [List.length_map, List.length_append]; exact hz, fun p2 c hp2 hc => ?_⟩
    have s2 := same_new (o := SetO w p2 (fun j => decide (j ∈ (a ++ b).map Int.ofNat)) c) hp2
    refine ⟨p2, _, c, rfl, upd_same, fun ns p3 h1 h2 h3 hp3 => ?_⟩
    obtain rfl : ns = (bothL a b).map Int.ofNat := asc_set h1 fun k => by
      rw [h2, decide_eq_true_iff, List.mem_map]
      constructor
      · rintro ⟨x, h4, h5⟩; exact ⟨x, lt_topN h4, decide_eq_true h4, h5.symm⟩
      · rintro ⟨x, _, h4, h5⟩; exact ⟨x, of_decide_eq_true h4, h5.symm⟩
    generalize upd H1 p2 _ = H2 at s2 hp3 ⊢
    have s3 := same_new (o := .lst (((bothL a b).map Int.ofNat).map V.int)) hp3
    refine q p3 _ (s1.trans (s2.trans s3)) ((s1.trans s2).free hp3) ?_
    rw [upd_same, List.map_map]
    rfl
end
/-! the object's fields -/
theorem f_ns : ¬ (("next" : Str) = "signs") := by decide +kernel
theorem f_sn : ¬ (("signs" : Str) = "next") := by decide +kernel
theorem f_sw : ¬ (("signs" : Str) = "whole") := by decide +kernel
theorem f_nw : ¬ (("next" : Str) = "whole") := by decide +kernel
def fs2 (sg nx : Addr) : List (Str × V) := putF "next" (.ref nx) (putF "signs" (.ref sg) [])
def fs3 (sg nx : Addr) (wv : V) : List (Str × V) := putF "whole" wv (fs2 sg nx)
theorem fs2_signs (sg nx : Addr) : (fs2 sg nx).lookup ("signs" : Str) = some (.ref sg) := by
  unfold fs2; rw [lookup_putF, if_neg f_sn, lookup_putF, if_pos rfl]
theorem fs2_next (sg nx : Addr) : (fs2 sg nx).lookup ("next" : Str) = some (.ref nx) := by
  unfold fs2; rw [lookup_putF, if_pos rfl]
theorem fs2_no (sg nx : Addr) {m : Str} (h1 : ¬ m = "next") (h2 : ¬ m = "signs") : (fs2 sg nx).lookup m = none := by
  unfold fs2; rw [lookup_putF, if_neg h1, lookup_putF, if_neg h2]
  all_goals rfl
theorem fs3_signs (sg nx : Addr) (wv : V) : (fs3 sg nx wv).lookup ("signs" : Str) = some (.ref sg) := by
  unfold fs3; rw [lookup_putF, if_neg f_sw, fs2_signs]
theorem fs3_next (sg nx : Addr) (wv : V) : (fs3 sg nx wv).lookup ("next" : Str) = some (.ref nx) := by
  unfold fs3; rw [lookup_putF, if_neg f_nw, fs2_next]
theorem fs3_whole (sg nx : Addr) (wv : V) : (fs3 sg nx wv).lookup ("whole" : Str) = some wv := by
  unfold fs3; rw [lookup_putF, if_pos rfl]
theorem fs3_no (sg nx : Addr) (wv : V) {m : Str} (h0 : ¬ m = "whole") (h1 : ¬ m = "next") (h2 : ¬ m = "signs") : (fs3 sg nx wv).lookup m = none := by
  unfold fs3; rw [lookup_putF, if_neg h0, fs2_no _ _ h1 h2]
/-- the class -/
structure PlT (K : PySem.W.Frag) (C : Addr) : Prop where
  cl : Cls K C
  nS : NoAttr K C "signs"
  nN : NoAttr K C "next"
  nW : NoAttr K C "whole"
abbrev PC (C x dx sgA nxA : Addr) (s : Pl) (cs : List Cell) : List Cell := .X x (.ins C dx (fs2 sgA nxA)) [] :: .L sgA (s.sg.map sgD) :: .L nxA (s.nx.map rowD) :: cs
theorem Wd.obj {H0 H : Hp} {cs : List Cell} {ims : List (PyData × V)} (w : Wd H0 H cs ims) (i : Nat) {x : Addr} {o : HO} {ds : List (PyData × V)} (e : cs[i]? = some (.X x o ds) := by rfl) : H x = some o := (w.cell i e).1
/-- a list that a callee has made stands still -/
theorem Wd.made {H0 H H' : Hp} {cs : List Cell} {ims : List (PyData × V)} (w : Wd H0 H cs ims) (s : Sm H H') {p : Addr} {l : List Nat} (hp : H p = none) (e : H' p = some (.lst (l.map nV))) : Wd H0 H' cs ((rowD l, .ref p) :: ims) :=
  (w.call s).add (row_im e (w.fresh hp).1)
theorem ixN_nat {n o : Nat} (h : o < n) : ixN n (o : Int) = some o := by
  unfold ixN
  rw [if_pos (by omega), if_pos (by omega)]; rfl
theorem rows_at {nx : List (List Nat)} {o : Nat} (h : o < nx.length) : (nx.map rowD)[o]? = some (rowD (nx.getD o [])) := by
  rw [List.getElem?_map, List.getElem?_eq_getElem h, List.getD_eq_getElem?_getD, List.getElem?_eq_getElem h]; rfl
def spFollow (C : Addr) : Sp := fun vs H Q _ => ∃ (H0 : Hp) (cs : List Cell) (ims : List (PyData × V)) (x dx sgA nxA : Addr) (s : Pl) (ones others : List Nat) (ov tv : V) (n : Nat), vs = [.ref x, ov, tv] ∧ Wd H0 H (PC C x dx sgA nxA s cs) ims ∧
  Im H (fps (PC C x dx sgA nxA s cs)) (rowD ones) ov ∧ Im H (fps (PC C x dx sgA nxA s cs)) (rowD others) tv ∧ (∀ o ∈ ones, o < s.nx.length) ∧ (∀ r ∈ s.nx, LstOk n r) ∧ LstOk n others ∧ n ≤ 2000 ∧
  ∀ H', Wd H0 H' (PC C x dx sgA nxA ⟨s.sg, followL s.nx ones others⟩ cs) ims → Q .non H'
theorem follow_snoc (nx : List (List Nat)) (ones : List Nat) (o : Nat) (others : List Nat) : followL nx (ones ++ [o]) others = (followL nx ones others).set o (bothL ((followL nx ones others).getD o []) others) := by
  unfold followL; rw [List.foldl_append]; rfl
section
variable {P : Program} {w : World} {K : PySem.W.Frag} {mg : Str → Option Value} {base : Heap}
theorem sc_Places_follow : FnScope ["self", "ones", "others", "one"] ["self", "ones", "others"] (defScope s_Places_follow) := ⟨rfl, rfl, rfl, by decide +kernel, rfl, by decide +kernel, by decide +kernel⟩
theorem ok_follow {f C : Addr} {fd : FuncData} (F : Fun K "follow" "Places.follow" s_Places_follow f fd) (T : PlT K C) (C_both_lists : Cal P w K mg base CX0 1 "both_lists" ["one", "two"] spBoth) : FnOk P w K mg base CX0 2 f fd ["self", "ones", "others"] (spFollow C) := by
  refine F.ok sc_Places_follow (fun vs H Q E h => ?_) (fun cdv A outer s H vs Q E hr h => ?_)
  · obtain ⟨_, _, _, _, _, _, _, _, _, _, _, _, _, rfl, _⟩ := h
    rfl
  · obtain ⟨H0, cs, ims, x, dx, sgA, nxA, s, ones, others, ov, tv, n, rfl, w0, io, it, hones, hrow, hoth, hn, q⟩ := h
    refine ⟨_, (pss_one (ps_for PassesOwn.never rfl (pi_list (pv 1)) (pg_name (i := 3) sc_Places_follow.nd rfl (by first | exact Or.inl rfl | exact Or.inr rfl))
        (pss_one (ps_asg (pe_fn C_both_lists hr (by decide) rfl (pa_cons (pe_ix (ixL (K := K) rfl) (pe_fld (pv 0) rfl) (pv 3) (fun _ _ => rfl)) (pa_cons (pv 2) pa_nil))) (pg_sub (pe_fld (pv 0) rfl) (pv 3) set_list))))), ?_⟩
    have w1 := (w0.add io).add it
    obtain ⟨ao, rfl, eo, _⟩ := io.row
    refine ⟨_, rfl, ao, rfl, ⟨_, SqL.of eo⟩, for_list (K := K) (a := ao) (xs := ones.map nV) (fun i σ H' => ∃ z3 : Option V, σ = [some (.ref x), some (.ref ao), some tv, z3] ∧ Wd H0 H' (PC C x dx sgA nxA ⟨s.sg, followL s.nx (ones.take i) others⟩ cs) ((rowD others, tv) :: (rowD ones, .ref ao) :: ims))
      ⟨none, rfl, w1⟩ (fun i σ H' _ pv => ?_) (fun i y σ H' hy pv => ?_) (fun σ H' pv => ?_)⟩
    · obtain ⟨z3, rfl, w2⟩ := pv
      obtain ⟨a2, e2, e3, _⟩ := (w2.get 1).row
      cases e2
      exact SqL.of e3
    · obtain ⟨z3, rfl, w2⟩ := pv
      obtain ⟨o, ho, rfl⟩ : ∃ o, ones[i]? = some o ∧ y = nV o := by
        rw [List.getElem?_map] at hy
        cases e : ones[i]? with
        | none => rw [e] at hy; cases hy
        | some c => rw [e] at hy; exact ⟨c, rfl, (Option.some.inj hy).symm⟩
      have ho2 := hones o (List.mem_of_getElem? ho)
      have hl : o < (followL s.nx (ones.take i) others).length := by rw [follow_len]; exact ho2
      have hr1 : LstOk n ((followL s.nx (ones.take i) others).getD o []) := getD_row (follow_row hoth _ _ hrow) o
      have hb1 := hr1.len
      have hb2 := hoth.len
      have hx := w2.obj 0
      obtain ⟨xn, en, jn⟩ := w2.list 2
      obtain ⟨y, ey, iy⟩ := jn.get (rows_at hl)
      refine ⟨_, rfl, x, C, dx, _, _, rfl, hx, T.cl, T.nN, fs2_next _ _, _, rfl, nxA, xn, (o : Int), y, rfl, rfl, SqL.of en, atI_nat ey, _, rfl, _, _, _, _, y, tv, rfl, iy, w2.get 0, (by show ((followL s.nx (ones.take i) others).getD o []).length + others.length < 4095; omega), fun p H3 s3 hp e3 => ?_⟩
      have w3 := w2.made s3 hp e3
      obtain ⟨xn, en, jn⟩ := w3.list 2
      have hxl : xn.length = (followL s.nx (ones.take i) others).length := by rw [jn.length, List.length_map]
      refine ⟨_, rfl, x, C, dx, _, _, rfl, w3.obj 0, T.cl, T.nN, fs2_next _ _, _, rfl, nxA, xn, (o : Int), o, rfl, rfl, en, ixN_nat (by rw [hxl]; exact hl), ?_⟩
      have w4 := w3.turnL 2 (ds' := ((followL s.nx (ones.take (i + 1)) others).map rowD)) (xs := xn.set o (.ref p)) rfl (by
        have et : ones.take (i + 1) = ones.take i ++ [o] := by rw [List.take_add_one, ho]; rfl
        rw [et, follow_snoc, List.map_set]
        exact jn.set (w3.get 0) o)
      exact ⟨_, rfl, w4.less fun p hp => by simp at hp ⊢; rcases hp with z | z | z <;> simp [z]⟩
    · obtain ⟨z3, rfl, w2⟩ := pv
      rw [List.length_map, List.take_length] at w2
      exact q _ (w2.less fun p hp => by simp [hp])
end
def spSingle (C : Addr) : Sp := fun vs H Q _ => ∃ (H0 : Hp) (cs : List Cell) (ims : List (PyData × V)) (x dx sgA nxA : Addr) (s : Pl) (c : Nat), vs = [.ref x, sgV c] ∧ Wd H0 H (PC C x dx sgA nxA s cs) ims ∧ s.nx.length = s.sg.length ∧ s.sg.length ≤ 10000 ∧
  ∀ v H', Wd H0 H' (PC C x dx sgA nxA (oneP s c).1 cs) ((partD (oneP s c).2, v) :: ims) → Q v H'
def spStarred (C : Addr) : Sp := fun vs H Q _ => ∃ (H0 : Hp) (cs : List Cell) (ims : List (PyData × V)) (x dx sgA nxA : Addr) (s : Pl) (pt : Part) (pv : V), vs = [.ref x, pv] ∧ Wd H0 H (PC C x dx sgA nxA s cs) ims ∧ Im H (fps (PC C x dx sgA nxA s cs)) (partD pt) pv ∧
  PlOk s ∧ PartOk s.sg.length pt ∧ s.sg.length ≤ 2000 ∧ ∀ v H', Wd H0 H' (PC C x dx sgA nxA (starP s pt).1 cs) ((partD (starP s pt).2, v) :: ims) → Q v H'
def spPut (C : Addr) : Sp := fun vs H Q _ => ∃ (H0 : Hp) (cs : List Cell) (ims : List (PyData × V)) (x dx sgA nxA : Addr) (s : Pl) (p1 p2 : Part) (v1 v2 : V) (c : Nat), vs = [.ref x, v1, v2, sgV c] ∧ Wd H0 H (PC C x dx sgA nxA s cs) ims ∧ Im H (fps (PC C x dx sgA nxA s cs)) (partD p1) v1 ∧ Im H (fps (PC C x dx sgA nxA s cs)) (partD p2) v2 ∧
  PlOk s ∧ PartOk s.sg.length p1 ∧ PartOk s.sg.length p2 ∧ s.sg.length ≤ 2000 ∧ ∀ v H', Wd H0 H' (PC C x dx sgA nxA (putP s p1 p2 c).1 cs) ((partD (putP s p1 p2 c).2, v) :: ims) → Q v H'
theorem fo_follow (sg nx : Addr) : (fs2 sg nx).lookup ("follow" : Str) = none := fs2_no _ _ (by decide +kernel) (by decide +kernel)
theorem fo_starred (sg nx : Addr) : (fs2 sg nx).lookup ("starred" : Str) = none := fs2_no _ _ (by decide +kernel) (by decide +kernel)
theorem fo_put (sg nx : Addr) : (fs2 sg nx).lookup ("put" : Str) = none := fs2_no _ _ (by decide +kernel) (by decide +kernel)
theorem fo_single (sg nx : Addr) : (fs2 sg nx).lookup ("single" : Str) = none := fs2_no _ _ (by decide +kernel) (by decide +kernel)
/-- part[1], part[2] -/
theorem part_1 {x : Part} : atI [PyData.bool x.1, rowD x.2.1, rowD x.2.2] 1 = some (rowD x.2.1) := rfl
section
variable {P : Program} {w : World} {K : PySem.W.Frag} {mg : Str → Option Value} {base : Heap}
theorem sc_Places_starred : FnScope ["self", "part"] ["self", "part"] (defScope s_Places_starred) := ⟨rfl, rfl, rfl, by decide +kernel, rfl, by decide +kernel, by decide +kernel⟩
theorem ok_starred {f C : Addr} {fd : FuncData} (F : Fun K "starred" "Places.starred" s_Places_starred f fd) (T : PlT K C) (M_follow : Mth P w K mg base 2 C "follow" ["self", "ones", "others"] (spFollow C)) : FnOk P w K mg base CX0 3 f fd ["self", "part"] (spStarred C) := by
  refine F.ok sc_Places_starred (fun vs H Q E h => ?_) (fun cdv A outer s H vs Q E hr h => ?_)
  · obtain ⟨_, _, _, _, _, _, _, _, _, _, rfl, _⟩ := h
    rfl
  · obtain ⟨H0, cs, ims, x, dx, sgA, nxA, s, pt, xv, rfl, w0, ip, pl, hpt, hn, q⟩ := h
    refine ⟨_, (pss_cons (ps_expr (pe_mth M_follow hr (by decide) (pv 0) (pa_cons (pe_ix ix_im (pv 1) pe_int (fun _ _ => rfl)) (pa_cons (pe_ix ix_im (pv 1) pe_int (fun _ _ => rfl)) pa_nil))))
      (pss_one (ps_ret (pe_tup (pa_cons pe_bl (pa_cons (pe_ix ix_im (pv 1) pe_int (fun _ _ => rfl)) (pa_cons (pe_ix ix_im (pv 1) pe_int (fun _ _ => rfl)) pa_nil))))))), ?_⟩
    have w1 := w0.add ip
    refine ⟨_, rfl, x, dx, _, rfl, w1.obj 0, fo_follow _ _, _, rfl, _, _, 2, _, w1.get 0, rfl, rfl, fun v2 i2 => ⟨_, rfl, _, _, 1, _, w1.get 0, rfl, rfl, fun v1 i1 => ?_⟩⟩
    have w2 := (w1.add i2).add i1
    refine ⟨H0, cs, _, x, dx, sgA, nxA, s, pt.2.2, pt.2.1, v2, v1, s.sg.length, rfl, w2, w2.get 1, w2.get 0, fun o ho => by rw [pl.len]; exact hpt.lst.lt o ho, pl.row, hpt.fst, hn, fun H3 w3 => ?_⟩
    refine ⟨_, rfl, _, _, 1, _, w3.get 2, rfl, rfl, fun v3 i3 => ⟨_, rfl, _, _, 2, _, w3.get 2, rfl, rfl, fun v4 i4 => ?_⟩⟩
    have w4 := (w3.add i3).add i4
    refine ⟨(by show 3 ≤ sizeLine; decide), fun p hp => ?_⟩
    have w5 := w4.tup hp (ds := [.bool true, rowD pt.2.1, rowD pt.2.2]) (ImAll.cons rfl (ImAll.cons (w4.get 1) (ImAll.cons (w4.get 0) ImAll.nil)))
    refine q _ _ (w5.less fun p hp => ?_)
    rcases List.mem_cons.mp hp with z | z
    · rw [z]; exact List.mem_cons_self
    · simp [z]
theorem sc_Places_single : FnScope ["self", "sign"] ["self", "sign"] (defScope s_Places_single) := ⟨rfl, rfl, rfl, by decide +kernel, rfl, by decide +kernel, by decide +kernel⟩
theorem ok_single {f C : Addr} {fd : FuncData} (F : Fun K "single" "Places.single" s_Places_single f fd) (T : PlT K C) (g_len : mg "len" = none) : FnOk P w K mg base CX0 3 f fd ["self", "sign"] (spSingle C) := by
  refine F.ok sc_Places_single (fun vs H Q E h => ?_) (fun cdv A outer s H vs Q E hr h => ?_)
  · obtain ⟨_, _, _, _, _, _, _, _, _, rfl, _⟩ := h
    rfl
  · obtain ⟨H0, cs, ims, x, dx, sgA, nxA, s, c, rfl, w0, hl, hn, q⟩ := h
    refine ⟨_, (pss_cons (ps_if (PW.pt (pw_or (pt_cmpR op_eq (pv 1) pe_str (nomark _)) (pw_or1 (pt_cmpR op_eq (pv 1) pe_str (nomark _)))))
        (pss_one (ps_ret (pe_tup (pa_cons (pe_cmpR op_eq (pv 1) pe_str (nomark _)) (pa_cons (pe_lst pa_nil) (pa_cons (pe_lst pa_nil) pa_nil))))))
        pss_nil)
      (pss_cons (ps_expr (pe_bm PySem.F.plainAttrs_list PySem.F.slot_list_append PySem.F.type_list_append mt_append (pe_fld (pv 0) rfl) (pa_cons (pv 1) pa_nil)))
      (pss_cons (ps_expr (pe_bm PySem.F.plainAttrs_list PySem.F.slot_list_append PySem.F.type_list_append mt_append (pe_fld (pv 0) rfl) (pa_cons (pe_lst pa_nil) pa_nil)))
      (pss_one (ps_ret (pe_tup (pa_cons pe_bl (pa_cons (pe_lst (pa_cons (pe_op oN_sub (pe_callB (lenS (K := K) rfl) (by rfl) g_len PySem.boot_len (pa_cons (pe_fld (pv 0) rfl) pa_nil)) pe_int) pa_nil)) (pa_cons (pe_lst (pa_cons (pe_op oN_sub (pe_callB (lenS (K := K) rfl) (by rfl) g_len PySem.boot_len (pa_cons (pe_fld (pv 0) rfl) pa_nil)) pe_int) pa_nil)) pa_nil))))))))), ?_⟩
    have none : isLet c = false → (tRet (tTup (tCons (tOp rEq (tVar 1) (tC (V.str (Str.ofString ".")))) (tCons (tLst tNil) (tCons (tLst tNil) tNil))))) { nx := fun _ H' => Q .non H', rt := Q } [some (.ref x), some (sgV c)] H := by
      intro hc
      refine ⟨_, rfl, rfl, Nat.zero_le _, fun p1 hp1 => ?_⟩
      rw [dec_sign c 46 _ (by decide +kernel)]
      have w1 := w0.frz (ds := ([] : List Nat).map nD) (xs := []) hp1 ImAll.nil
      generalize upd H p1 _ = H1 at w1 ⊢
      refine ⟨Nat.zero_le _, fun p2 hp2 => ?_⟩
      have w2 := w1.frz (ds := ([] : List Nat).map nD) (xs := []) hp2 ImAll.nil
      generalize upd H1 p2 _ = H2 at w2 ⊢
      refine ⟨(by show 3 ≤ sizeLine; decide), fun p hp => ?_⟩
      have w3 := w2.tup hp (ds := [.bool (decide (c = 46)), rowD [], rowD []]) (ImAll.cons rfl (ImAll.cons (w2.get 1) (ImAll.cons (w2.get 0) ImAll.nil)))
      have e : oneP s c = (s, (decide (c = 46), [], [])) := by unfold oneP; rw [if_neg (by rw [hc]; decide)]
      rw [e] at q
      refine q _ _ (w3.less fun p hp => ?_)
      rcases List.mem_cons.mp hp with z | z
      · rw [z]; exact List.mem_cons_self
      · simp [z]
    refine ⟨_, rfl, rfl, _, rfl, ?_⟩
    rw [dec_sign c 33 _ (by decide +kernel)]
    by_cases h1 : c = 33
    · rw [decide_eq_true h1]
      exact iteT (iteT (none (by subst h1; rfl)))
    rw [decide_eq_false h1]
    refine iteF ⟨_, rfl, rfl, _, rfl, ?_⟩
    rw [dec_sign c 46 _ (by decide +kernel)]
    by_cases h2 : c = 46
    · rw [decide_eq_true h2]
      exact iteT (none (by subst h2; rfl))
    rw [decide_eq_false h2]
    refine iteF ?_
    have hc : isLet c = true := by unfold isLet; simp [h1, h2]
    have e : oneP s c = (⟨s.sg ++ [c], s.nx ++ [[]]⟩, (false, [s.sg.length], [s.sg.length])) := by unfold oneP; rw [if_pos hc]
    rw [e] at q
    obtain ⟨xs, es, js⟩ := w0.list 1
    refine ⟨_, rfl, x, C, dx, _, _, rfl, w0.obj 0, T.cl, T.nS, fs2_signs _ _, .inl ⟨rfl, _, SqL.of es⟩, _, rfl, sgA, _, _, rfl, rfl, es, by rw [js.length, List.length_map]; exact sl_small (by omega), ?_⟩
    have w1 := w0.turnL 1 (ds' := (s.sg ++ [c]).map sgD) (xs := xs ++ [sgV c]) rfl (by rw [List.map_append]; exact js.snoc (d := sgD c) (show Im _ _ (sgD c) (sgV c) from rfl))
    generalize upd H sgA _ = H1 at w1 ⊢
    obtain ⟨xn, en, jn⟩ := w1.list 2
    refine ⟨_, rfl, x, C, dx, _, _, rfl, w1.obj 0, T.cl, T.nN, fs2_next _ _, .inl ⟨rfl, _, SqL.of en⟩, Nat.zero_le _, fun p1 hp1 => ?_⟩
    have w2 := w1.frz (ds := ([] : List Nat).map nD) (xs := []) hp1 ImAll.nil
    generalize upd H1 p1 _ = H2 at w2 ⊢
    obtain ⟨xn, en, jn⟩ := w2.list 2
    refine ⟨nxA, _, _, rfl, rfl, en, by rw [jn.length, List.length_map]; exact sl_small (by omega), ?_⟩
    have emr : (s.nx ++ [[]]).map rowD = s.nx.map rowD ++ [rowD []] := by rw [List.map_append]; rfl
    have w3 := w2.turnL 2 (ds' := (s.nx ++ [[]]).map rowD) (xs := xn ++ [.ref p1]) rfl (by rw [emr]; exact jn.snoc (w2.get 0))
    generalize upd H2 nxA _ = H3 at w3 ⊢
    obtain ⟨xs, es, js⟩ := w3.list 1
    have hl3 : xs.length = s.sg.length + 1 := by rw [js.length, List.length_map, List.length_append]; rfl
    refine ⟨_, rfl, x, C, dx, _, _, rfl, w3.obj 0, T.cl, T.nS, fs2_signs _ _, sgA, _, rfl, .inl (SqL.of es), xs.length, 1, rfl, rfl, by rw [hl3]; omega, (by show 1 ≤ sizeLine; decide), fun p2 hp2 => ?_⟩
    rw [hl3]
    dsimp only
    rw [Nat.add_sub_cancel]
    have w4 := w3.frz (ds := [s.sg.length].map nD) (xs := [nV s.sg.length]) hp2 (ImAll.nats [s.sg.length])
    generalize upd H3 p2 _ = H4 at w4 ⊢
    obtain ⟨xs, es, js⟩ := w4.list 1
    have hl4 : xs.length = s.sg.length + 1 := by rw [js.length, List.length_map, List.length_append]; rfl
    refine ⟨_, rfl, x, C, dx, _, _, rfl, w4.obj 0, T.cl, T.nS, fs2_signs _ _, sgA, _, rfl, .inl (SqL.of es), xs.length, 1, rfl, rfl, by rw [hl4]; omega, (by show 1 ≤ sizeLine; decide), fun p3 hp3 => ?_⟩
    rw [hl4]
    dsimp only
    rw [Nat.add_sub_cancel]
    have w5 := w4.frz (ds := [s.sg.length].map nD) (xs := [nV s.sg.length]) hp3 (ImAll.nats [s.sg.length])
    generalize upd H4 p3 _ = H5 at w5 ⊢
    refine ⟨(by show 3 ≤ sizeLine; decide), fun p hp => ?_⟩
    have w6 := w5.tup hp (ds := [.bool false, rowD [s.sg.length], rowD [s.sg.length]]) (ImAll.cons rfl (ImAll.cons (w5.get 1) (ImAll.cons (w5.get 0) ImAll.nil)))
    refine q _ _ (w6.less fun p hp => ?_)
    rcases List.mem_cons.mp hp with z | z
    · rw [z]; exact List.mem_cons_self
    · simp [z]
end
section
variable {P : Program} {w : World} {K : PySem.W.Frag} {mg : Str → Option Value} {base : Heap}
theorem sc_Places_put : FnScope ["self", "one", "two", "sign", "starts", "stops"] ["self", "one", "two", "sign"] (defScope s_Places_put) := ⟨rfl, rfl, rfl, by decide +kernel, rfl, by decide +kernel, by decide +kernel⟩
theorem ok_put {f C : Addr} {fd : FuncData} (F : Fun K "put" "Places.put" s_Places_put f fd) (T : PlT K C) (g_list : mg "list" = none) (C_both_lists : Cal P w K mg base CX0 1 "both_lists" ["one", "two"] spBoth) (M_follow : Mth P w K mg base 2 C "follow" ["self", "ones", "others"] (spFollow C)) : FnOk P w K mg base CX0 3 f fd ["self", "one", "two", "sign"] (spPut C) := by
  refine F.ok sc_Places_put (fun vs H Q E h => ?_) (fun cdv A outer s H vs Q E hr h => ?_)
  · obtain ⟨_, _, _, _, _, _, _, _, _, _, _, _, _, rfl, _⟩ := h
    rfl
  · obtain ⟨H0, cs, ims, x, dx, sgA, nxA, s, ⟨b1, f1, z1⟩, ⟨b2, f2, z2⟩, v1, v2, c, rfl, w0, i1, i2, pl, h1, h2, hn, q⟩ := h
    refine ⟨_, (pss_cons (ps_if (pt_cmpR op_eq (pv 3) pe_str (nomark _))
        (pss_one (ps_ret (pe_tup (pa_cons (pe_or (pe_ix ix_im (pv 1) pe_int (fun _ _ => rfl)) (pe_one (pe_ix ix_im (pv 2) pe_int (fun _ _ => rfl)))) (pa_cons (pe_fn C_both_lists hr (by decide) rfl (pa_cons (pe_ix ix_im (pv 1) pe_int (fun _ _ => rfl)) (pa_cons (pe_ix ix_im (pv 2) pe_int (fun _ _ => rfl)) pa_nil))) (pa_cons (pe_fn C_both_lists hr (by decide) rfl (pa_cons (pe_ix ix_im (pv 1) pe_int (fun _ _ => rfl)) (pa_cons (pe_ix ix_im (pv 2) pe_int (fun _ _ => rfl)) pa_nil))) pa_nil))))))
        pss_nil)
      (pss_cons (ps_expr (pe_mth M_follow hr (by decide) (pv 0) (pa_cons (pe_ix ix_im (pv 1) pe_int (fun _ _ => rfl)) (pa_cons (pe_ix ix_im (pv 2) pe_int (fun _ _ => rfl)) pa_nil))))
      (pss_cons (ps_set (i := 4) sc_Places_put.nd rfl (Or.inl rfl) (pe_callTy (listOf (K := K) rfl) (by rfl) g_list (by decide +kernel) (pa_cons (pe_ix ix_im (pv 1) pe_int (fun _ _ => rfl)) pa_nil)))
      (pss_cons (ps_set (i := 5) sc_Places_put.nd rfl (Or.inl rfl) (pe_callTy (listOf (K := K) rfl) (by rfl) g_list (by decide +kernel) (pa_cons (pe_ix ix_im (pv 2) pe_int (fun _ _ => rfl)) pa_nil)))
      (pss_join (ps_if (pt_val (pe_ix ix_im (pv 1) pe_int (fun _ _ => rfl)))
        (pss_one (ps_set (i := 4) sc_Places_put.nd rfl (Or.inl rfl) (pe_fn C_both_lists hr (by decide) rfl (pa_cons (pv 4) (pa_cons (pe_ix ix_im (pv 2) pe_int (fun _ _ => rfl)) pa_nil)))))
        pss_nil)
      (pss_join (ps_if (pt_val (pe_ix ix_im (pv 2) pe_int (fun _ _ => rfl)))
        (pss_one (ps_set (i := 5) sc_Places_put.nd rfl (Or.inl rfl) (pe_fn C_both_lists hr (by decide) rfl (pa_cons (pv 5) (pa_cons (pe_ix ix_im (pv 1) pe_int (fun _ _ => rfl)) pa_nil)))))
        pss_nil)
      (pss_one (ps_ret (pe_tup (pa_cons (pe_and (pe_ix ix_im (pv 1) pe_int (fun _ _ => rfl)) (pe_one (pe_ix ix_im (pv 2) pe_int (fun _ _ => rfl)))) (pa_cons (pv 4) (pa_cons (pv 5) pa_nil)))))))))))), ?_⟩
    have w1 := (w0.add i1).add i2
    have l11 : f1.length ≤ _ := h1.fst.len
    have l12 : z1.length ≤ _ := h1.lst.len
    have l21 : f2.length ≤ _ := h2.fst.len
    have l22 : z2.length ≤ _ := h2.lst.len
    refine ⟨_, rfl, rfl, _, rfl, ?_⟩
    rw [dec_sign c 124 _ (by decide +kernel)]
    by_cases hc : c = 124
    · rw [decide_eq_true hc]
      refine iteT ?_
      have tor : ∀ (Q2 : VK), Q2 (.bl (b1 || b2)) H → tOrV (tOp rIxI (tVar 1) (tC (V.int 0))) (tOp rIxI (tVar 2) (tC (V.int 0))) [some (.ref x), some v1, some v2, some (sgV c), none, none] H Q2 := by
        intro Q2 k
        refine ⟨_, rfl, _, _, 0, _, w1.get 1, rfl, rfl, fun a ia => ?_⟩
        obtain rfl : a = .bl b1 := ia
        cases b1 with
        | true => exact ⟨_, rfl, iteT k⟩
        | false => exact ⟨_, rfl, iteF ⟨_, rfl, _, _, 0, _, w1.get 0, rfl, rfl, fun a ia => by obtain rfl : a = .bl b2 := ia; exact k⟩⟩
      refine at_ret (x_tup (x_cons (tor _ ?_)))
      refine ⟨_, rfl, _, _, 1, _, w1.get 1, rfl, rfl, fun a1 ia1 => ⟨_, rfl, _, _, 1, _, w1.get 0, rfl, rfl, fun a2 ia2 => ?_⟩⟩
      refine ⟨_, _, f1, f2, a1, a2, rfl, ia1, ia2, by omega, fun p3 H3 s3 hp3 e3 => ?_⟩
      have w3 := w1.made s3 hp3 e3
      refine ⟨_, rfl, _, _, 2, _, w3.get 2, rfl, rfl, fun a3 ia3 => ⟨_, rfl, _, _, 2, _, w3.get 1, rfl, rfl, fun a4 ia4 => ?_⟩⟩
      refine ⟨_, _, z1, z2, a3, a4, rfl, ia3, ia4, by omega, fun p4 H4 s4 hp4 e4 => ?_⟩
      have w4 := w3.made s4 hp4 e4
      refine ⟨(by show 3 ≤ sizeLine; decide), fun p hp => ?_⟩
      have w5 := w4.tup hp (ds := [.bool (b1 || b2), rowD (bothL f1 f2), rowD (bothL z1 z2)]) (ImAll.cons rfl (ImAll.cons (w4.get 1) (ImAll.cons (w4.get 0) ImAll.nil)))
      have e : putP s (b1, f1, z1) (b2, f2, z2) c = altP s (b1, f1, z1) (b2, f2, z2) := by unfold putP; rw [if_pos hc]
      rw [e] at q
      refine q _ _ (w5.less fun p hp => ?_)
      rcases List.mem_cons.mp hp with z | z
      · rw [z]; exact List.mem_cons_self
      · simp [z]
    rw [decide_eq_false hc]
    refine iteF ?_
    have e : putP s (b1, f1, z1) (b2, f2, z2) c = catP s (b1, f1, z1) (b2, f2, z2) := by unfold putP; rw [if_neg hc]
    rw [e] at q
    refine ⟨_, rfl, x, dx, _, rfl, w1.obj 0, fo_follow _ _, _, rfl, _, _, 2, _, w1.get 1, rfl, rfl, fun a1 ia1 => ⟨_, rfl, _, _, 1, _, w1.get 0, rfl, rfl, fun a2 ia2 => ?_⟩⟩
    have w2 := (w1.add ia1).add ia2
    refine ⟨H0, cs, _, x, dx, sgA, nxA, s, z1, f2, a1, a2, s.sg.length, rfl, w2, w2.get 1, w2.get 0, fun o ho => by rw [pl.len]; exact h1.lst.lt o ho, pl.row, h2.fst, hn, fun H3 w3' => ?_⟩
    have w3 : Wd H0 H3 _ ((partD (b2, f2, z2), v2) :: (partD (b1, f1, z1), v1) :: ims) := w3'.less fun p hp => by
      rcases List.mem_cons.mp hp with z | z
      · rw [z]; simp
      · rcases List.mem_cons.mp z with z | z
        · rw [z]; simp
        · simp [z]
    refine ⟨_, rfl, _, _, 1, _, w3.get 1, rfl, rfl, fun a3 ia3 => ?_⟩
    obtain ⟨q3, rfl, e3, _⟩ := ia3.row
    refine ⟨q3, _, rfl, .inl (SqL.of e3), fun q4 hq4 => ?_⟩
    have w4 := w3.frz (ds := f1.map nD) (xs := f1.map nV) hq4 (ImAll.nats f1)
    generalize upd H3 q4 _ = H4 at w4 ⊢
    refine ⟨_, rfl, _, _, 2, _, w4.get 1, rfl, rfl, fun a5 ia5 => ?_⟩
    obtain ⟨q5, rfl, e5, _⟩ := ia5.row
    refine ⟨q5, _, rfl, .inl (SqL.of e5), fun q6 hq6 => ?_⟩
    have w6 := w4.frz (ds := z2.map nD) (xs := z2.map nV) hq6 (ImAll.nats z2)
    generalize upd H4 q6 _ = H6 at w6 ⊢
    refine ⟨fun σ H' => ∃ a : V, σ = [some (.ref x), some v1, some v2, some (sgV c), some a, some (.ref q6)] ∧ Wd H0 H' (PC C x dx sgA nxA ⟨s.sg, followL s.nx z1 f2⟩ cs) ((rowD (if b1 = true then bothL f1 f2 else f1), a) :: (rowD z2, .ref q6) :: (partD (b2, f2, z2), v2) :: (partD (b1, f1, z1), v1) :: ims), ?_, ?_⟩
    · refine ⟨_, rfl, _, _, 0, _, w6.get 3, rfl, rfl, fun a ia => ?_⟩
      obtain rfl : a = .bl b1 := ia
      refine ⟨_, rfl, ?_⟩
      cases b1 with
      | true =>
        refine iteT ⟨_, rfl, _, rfl, _, _, 1, _, w6.get 2, rfl, rfl, fun a7 ia7 => ?_⟩
        refine ⟨_, _, f1, f2, .ref q4, a7, rfl, w6.get 1, ia7, by omega, fun p7 H7 s7 hp7 e7 => ?_⟩
        have w7 := w6.made s7 hp7 e7
        refine ⟨_, rfl, w7.less fun p hp => ?_⟩
        rcases List.mem_cons.mp hp with z | z
        · rw [z]; simp
        · rcases List.mem_cons.mp z with z | z
          · rw [z]; simp
          · simp [z]
      | false =>
        refine iteF ⟨_, rfl, w6.less fun p hp => ?_⟩
        rcases List.mem_cons.mp hp with z | z
        · rw [z]; simp
        · rcases List.mem_cons.mp z with z | z
          · rw [z]; simp
          · simp [z]
    · rintro σ H7 ⟨a, rfl, w7⟩
      refine ⟨fun σ H' => ∃ b : V, σ = [some (.ref x), some v1, some v2, some (sgV c), some a, some b] ∧ Wd H0 H' (PC C x dx sgA nxA ⟨s.sg, followL s.nx z1 f2⟩ cs) ((rowD (if b2 = true then bothL z2 z1 else z2), b) :: (rowD (if b1 = true then bothL f1 f2 else f1), a) :: (partD (b2, f2, z2), v2) :: (partD (b1, f1, z1), v1) :: ims), ?_, ?_⟩
      · refine ⟨_, rfl, _, _, 0, _, w7.get 2, rfl, rfl, fun a' ia => ?_⟩
        obtain rfl : a' = .bl b2 := ia
        refine ⟨_, rfl, ?_⟩
        cases b2 with
        | true =>
          refine iteT ⟨_, rfl, _, rfl, _, _, 2, _, w7.get 3, rfl, rfl, fun a7 ia7 => ?_⟩
          refine ⟨_, _, z2, z1, .ref q6, a7, rfl, w7.get 1, ia7, by omega, fun p8 H8 s8 hp8 e8 => ?_⟩
          have w8 := w7.made s8 hp8 e8
          refine ⟨_, rfl, w8.less fun p hp => ?_⟩
          rcases List.mem_cons.mp hp with z | z
          · rw [z]; simp
          · rcases List.mem_cons.mp z with z | z
            · rw [z]; simp
            · simp [z]
        | false =>
          refine iteF ⟨_, rfl, w7.less fun p hp => ?_⟩
          rcases List.mem_cons.mp hp with z | z
          · rw [z]; simp
          · rcases List.mem_cons.mp z with z | z
            · rw [z]; simp
            · simp [z]
      · rintro σ H8 ⟨b, rfl, w8⟩
        have tand : ∀ (Q2 : VK), Q2 (.bl (b1 && b2)) H8 → tAndV (tOp rIxI (tVar 1) (tC (V.int 0))) (tOp rIxI (tVar 2) (tC (V.int 0))) [some (.ref x), some v1, some v2, some (sgV c), some a, some b] H8 Q2 := by
          intro Q2 k
          refine ⟨_, rfl, _, _, 0, _, w8.get 3, rfl, rfl, fun a ia => ?_⟩
          obtain rfl : a = .bl b1 := ia
          cases b1 with
          | false => exact ⟨_, rfl, iteF k⟩
          | true => exact ⟨_, rfl, iteT ⟨_, rfl, _, _, 0, _, w8.get 2, rfl, rfl, fun a ia => by obtain rfl : a = .bl b2 := ia; exact k⟩⟩
        refine at_ret (x_tup (x_cons (tand _ ?_)))
        refine ⟨_, rfl, _, rfl, (by show 3 ≤ sizeLine; decide), fun p hp => ?_⟩
        have w9 := w8.tup hp (ds := [.bool (b1 && b2), rowD (if b1 = true then bothL f1 f2 else f1), rowD (if b2 = true then bothL z2 z1 else z2)]) (ImAll.cons rfl (ImAll.cons (w8.get 1) (ImAll.cons (w8.get 0) ImAll.nil)))
        refine q _ _ (w9.less fun p hp => ?_)
        rcases List.mem_cons.mp hp with z | z
        · rw [z]; exact List.mem_cons_self
        · simp [z]
end
theorem fs2_len (sg nx : Addr) : (fs2 sg nx).length < 1000 := by
  show (if ("signs" : Str) = "next" then [(("signs" : Str), V.ref nx)] else (("signs" : Str), V.ref sg) :: putF "next" (V.ref nx) []).length < 1000
  rw [if_neg f_sn]
  show 2 < 1000
  decide
/-- the places of a pattern, made -/
def PlAt (C : Addr) (p : Pa) (x : Addr) (H : Hp) : Prop := ∃ (dx sg nx : Addr) (wv : V), H x = some (.ins C dx (fs3 sg nx wv)) ∧ Im H [] (.list (p.M.sg.map sgD)) (.ref sg) ∧ Im H [] (.list (p.M.nx.map rowD)) (.ref nx) ∧ Im H [] (partD p.X) wv
theorem PlAt.sm {C : Addr} {p : Pa} {x : Addr} {H H' : Hp} (h : PlAt C p x H) (s : Sm H H') : PlAt C p x H' := by
  obtain ⟨dx, sg, nx, wv, h1, h2, h3, h4⟩ := h
  exact ⟨dx, sg, nx, wv, s.keep _ _ h1 rfl, h2.sm s, h3.sm s, h4.sm s⟩
def spInit (C : Addr) : Sp := fun vs H Q _ => ∃ (H0 : Hp) (x dx : Addr) (l : List Nat) (p : Pa), vs = [.ref x, .str (SX.S l)] ∧ Wd H0 H [.X x (.ins C dx []) []] [] ∧ l.length ≤ 2000 ∧ parse l = some p ∧ (∀ c ∈ l, c ≠ 38) ∧ ∀ H', Sm H0 H' → PlAt C p x H' → Q .non H'
theorem Wd.perm {H0 H : Hp} {cs cs' : List Cell} {ims : List (PyData × V)} (w : Wd H0 H cs ims) (h : cs'.Perm cs) : Wd H0 H cs' ims := by
  have hf : (fps cs').Perm (fps cs) := h.flatMap_right Cell.fp
  have z : ∀ a o, a ∉ fps cs → H a = some o → a ∉ fps cs' := fun a o n _ q => n (hf.mem_iff.mp q)
  exact ⟨w.same, fun a ha => w.new a (hf.mem_iff.mp ha), hf.nodup_iff.mpr w.nd, fun c hc => (w.ok c (h.mem_iff.mp hc)).keep (fun _ _ _ e _ => e) z fun _ _ _ e _ => e, fun p hp => (w.im p hp).keep (fun _ _ _ e _ => e) z⟩
theorem ins_ok {x C dx : Addr} {fs : List (Str × V)} : (∀ xs, HO.ins C dx fs ≠ .tup xs) ∧ plain (HO.ins C dx fs) = true ∧ ∀ q, HO.ins C dx fs ≠ LamX.CodeO x q := ⟨fun _ e => (nomatch e), rfl, fun q e => by unfold LamX.CodeO at e; cases e⟩
/-- a field is written -/
theorem Wd.turnX {H0 H : Hp} {cs : List Cell} {ims : List (PyData × V)} (w : Wd H0 H cs ims) (i : Nat) {x C dx C' dx' : Addr} {fs fs' : List (Str × V)} (e : cs[i]? = some (.X x (.ins C dx fs) [])) : Wd H0 (upd H x (.ins C' dx' fs')) (cs.set i (.X x (.ins C' dx' fs') [])) ims :=
  w.turn i e (by simp [Cell.fp]) rfl ⟨upd_same, ins_ok, fun q hq => by simp at hq⟩
theorem ims_snoc {H : Hp} {Z : List Addr} : ∀ {ds : List PyData} {d : PyData} {xs : List V}, ImAll H Z (ds ++ [d]) xs → ∃ ys y, xs = ys ++ [y] ∧ ImAll H Z ds ys ∧ Im H Z d y
  | [], d, xs, h => by
    obtain ⟨y, r, rfl, h1, h2⟩ := h
    have h2 : r = [] := h2
    subst h2
    exact ⟨[], y, rfl, rfl, h1⟩
  | e :: ds, d, xs, h => by
    obtain ⟨y, r, rfl, h1, h2⟩ := h
    obtain ⟨ys, z, rfl, h3, h4⟩ := ims_snoc h2
    exact ⟨y :: ys, z, rfl, ⟨y, ys, rfl, h1, h3⟩, h4⟩
theorem d_pop {H0 H : Hp} {cs : List Cell} {ims : List (PyData × V)} (w : Wd H0 H cs ims) (i : Nat) {l : Addr} {ds : List PyData} {d : PyData} (e : cs[i]? = some (.L l (ds ++ [d]))) {Q : VK} (k : ∀ y H', Wd H0 H' (cs.set i (.L l ds)) ((d, y) :: ims) → Q y H') : rPop (.ref l) [] H Q := by
  obtain ⟨xs, ex, jx⟩ := w.list i e
  obtain ⟨ys, y, rfl, h1, h2⟩ := ims_snoc jx
  refine ⟨l, _, y, rfl, rfl, ex, by simp, ?_⟩
  rw [List.dropLast_concat]
  exact k y _ ((w.add h2).turnL i e h1)
theorem d_append {H0 H : Hp} {cs : List Cell} {ims : List (PyData × V)} (w : Wd H0 H cs ims) (i : Nat) {l : Addr} {ds : List PyData} {d : PyData} {y : V} (e : cs[i]? = some (.L l ds)) (im : Im H (fps cs) d y) (hz : ds.length ≤ 1000000) {Q : VK} (k : ∀ H', Wd H0 H' (cs.set i (.L l (ds ++ [d]))) ims → Q .non H') : rAppend (.ref l) [y] H Q := by
  obtain ⟨xs, ex, jx⟩ := w.list i e
  exact ⟨l, xs, y, rfl, rfl, ex, by rw [jx.length]; exact sl_small hz, k _ (w.turnL i e (jx.snoc im))⟩
theorem d_ty {K : PySem.W.Frag} {H0 H : Hp} {cs : List Cell} {ims : List (PyData × V)} (w : Wd H0 H cs ims) (i : Nat) {l : Addr} {ds : List PyData} (e : cs[i]? = some (.L l ds)) : tyV K "list" (.ref l) H := by
  obtain ⟨xs, ex, _⟩ := w.list i e
  exact .inl ⟨rfl, _, SqL.of ex⟩
theorem plRun_pre {s t : PS2} {l : List Nat} (e : plRun s l = some t) (i : Nat) : ∃ u, plRun s (l.take i) = some u := by
  rw [← List.take_append_drop i l, plRun_app] at e
  cases q : plRun s (l.take i) with
  | none => rw [q] at e; cases e
  | some u => exact ⟨u, rfl⟩
theorem plRun_next {s t u : PS2} {l : List Nat} {i c : Nat} (e : plRun s l = some t) (hc : l[i]? = some c) (q : plRun s (l.take i) = some u) : ∃ v, plStep u c = some v ∧ plRun s (l.take (i + 1)) = some v := by
  obtain ⟨v, hv⟩ := plRun_pre e (i + 1)
  have et : l.take (i + 1) = l.take i ++ [c] := by rw [List.take_add_one, hc]; rfl
  have h2 := hv
  rw [et, plRun_app, q] at h2
  simp only [Option.bind_some, plRun] at h2
  cases z : plStep u c with
  | none => rw [z] at h2; cases h2
  | some v' => rw [z] at h2; exact ⟨v', rfl, by rw [hv]; exact h2.symm⟩
theorem plStep_st {s t : PS2} {c : Nat} (e : plStep s c = some t) : t.2.length ≤ s.2.length + 1 := by
  obtain ⟨s, st⟩ := s
  unfold plStep at e
  split at e
  · cases st with
    | nil => cases e
    | cons x r => cases e; simp
  · split at e
    · match st, e with
      | y :: x :: r, e => cases e; simp
    · cases e; simp
theorem plRun_st : ∀ {l : List Nat} {s t : PS2}, plRun s l = some t → t.2.length ≤ s.2.length + l.length
  | [], s, t, e => by cases e; simp
  | c :: l, s, t, e => by
    rw [plRun] at e
    cases q : plStep s c with
    | none => rw [q] at e; cases e
    | some u =>
      rw [q] at e
      have h1 := plRun_st e
      have h2 := plStep_st q
      rw [List.length_cons]
      omega
section
variable {P : Program} {w : World} {K : PySem.W.Frag} {mg : Str → Option Value} {base : Heap}
theorem sc_Places_x_initx : FnScope ["self", "pattern", "held", "sign", "two"] ["self", "pattern"] (defScope s_Places_x_initx) := ⟨rfl, rfl, rfl, by decide +kernel, rfl, by decide +kernel, by decide +kernel⟩
theorem ok_init {f C : Addr} {fd : FuncData} (F : Fun K "__init__" "Places.__init__" s_Places_x_initx f fd) (T : PlT K C) (C_behind_each : Cal P w K mg base CX0 2 "behind_each" ["pattern"] spBehindEach)
    (M_single : Mth P w K mg base 3 C "single" ["self", "sign"] (spSingle C)) (M_starred : Mth P w K mg base 3 C "starred" ["self", "part"] (spStarred C)) (M_put : Mth P w K mg base 3 C "put" ["self", "one", "two", "sign"] (spPut C)) : FnOk P w K mg base CX0 4 f fd ["self", "pattern"] (spInit C) := by
  refine F.ok sc_Places_x_initx (fun vs H Q E h => ?_) (fun cdv A outer s H vs Q E hr h => ?_)
  · obtain ⟨_, _, _, _, _, rfl, _⟩ := h
    rfl
  · obtain ⟨H0, x, dx, l, p, rfl, w0, hl, hp, h38, q⟩ := h
    refine ⟨_, (pss_cons (ps_fld (pv 0) (pe_lst pa_nil) rfl)
      (pss_cons (ps_fld (pv 0) (pe_lst pa_nil) rfl)
      (pss_cons (ps_set (i := 2) sc_Places_x_initx.nd rfl (Or.inl rfl) (pe_lst pa_nil))
      (pss_cons (ps_for PassesOwn.never rfl (pi_list (pe_fn C_behind_each hr (by decide) rfl (pa_cons (pv 1) pa_nil))) (pg_name (i := 3) sc_Places_x_initx.nd rfl (by first | exact Or.inl rfl | exact Or.inr rfl))
        (pss_one (ps_if (pt_cmpR op_eq (pv 3) pe_str (nomark _))
          (pss_one (ps_expr (pe_bm PySem.F.plainAttrs_list PySem.F.slot_list_append PySem.F.type_list_append mt_append (pv 2) (pa_cons (pe_mth M_starred hr (by decide) (pv 0) (pa_cons (pe_bm0 PySem.F.plainAttrs_list PySem.F.slot_list_pop PySem.F.type_list_pop mt_pop (pv 2)) pa_nil)) pa_nil))))
          (pss_one (ps_if (PW.pt (pw_or (pt_cmpR op_eq (pv 3) pe_str (nomark _)) (pw_or1 (pt_cmpR op_eq (pv 3) pe_str (nomark _)))))
            (pss_cons (ps_set (i := 4) sc_Places_x_initx.nd rfl (Or.inl rfl) (pe_bm0 PySem.F.plainAttrs_list PySem.F.slot_list_pop PySem.F.type_list_pop mt_pop (pv 2)))
            (pss_one (ps_expr (pe_bm PySem.F.plainAttrs_list PySem.F.slot_list_append PySem.F.type_list_append mt_append (pv 2) (pa_cons (pe_mth M_put hr (by decide) (pv 0) (pa_cons (pe_bm0 PySem.F.plainAttrs_list PySem.F.slot_list_pop PySem.F.type_list_pop mt_pop (pv 2)) (pa_cons (pv 4) (pa_cons (pv 3) pa_nil)))) pa_nil)))))
            (pss_one (ps_expr (pe_bm PySem.F.plainAttrs_list PySem.F.slot_list_append PySem.F.type_list_append mt_append (pv 2) (pa_cons (pe_mth M_single hr (by decide) (pv 0) (pa_cons (pv 3) pa_nil)) pa_nil)))))))))
      (pss_one (ps_fld (pv 0) (pe_bm0 PySem.F.plainAttrs_list PySem.F.slot_list_pop PySem.F.type_list_pop mt_pop (pv 2)) rfl)))))), ?_⟩
    refine ⟨Nat.zero_le _, fun sgA hsg => ?_⟩
    have w1 := w0.pushL (ds := ([] : List Nat).map sgD) (xs := []) hsg ImAll.nil
    generalize upd H sgA _ = H1 at w1 ⊢
    refine ⟨_, rfl, x, C, dx, [], rfl, w1.obj 1, T.cl, T.nS, (by show 0 < 1000; decide), ?_⟩
    have w2 := w1.turnX 1 (C' := C) (dx' := dx) (fs' := putF "signs" (.ref sgA) []) rfl
    generalize upd H1 x _ = H2 at w2 ⊢
    refine ⟨Nat.zero_le _, fun nxA hnx => ?_⟩
    have w3 := w2.pushL (ds := ([] : List (List Nat)).map rowD) (xs := []) hnx ImAll.nil
    generalize upd H2 nxA _ = H3 at w3 ⊢
    refine ⟨_, rfl, x, C, dx, _, rfl, w3.obj 2, T.cl, T.nN, (by show 1 < 1000; decide), ?_⟩
    have w4 := w3.turnX 2 (C' := C) (dx' := dx) (fs' := fs2 sgA nxA) rfl
    show tSeq _ _ _ _ (upd H3 x (.ins C dx (fs2 sgA nxA)))
    generalize upd H3 x _ = H4 at w4 ⊢
    refine ⟨Nat.zero_le _, fun hA hhA => ?_⟩
    have w5 := w4.pushL (ds := ([] : List Part).map partD) (xs := []) hhA ImAll.nil
    generalize upd H4 hA _ = H5 at w5 ⊢
    have w6 : Wd H0 H5 (PC C x dx sgA nxA ⟨[], []⟩ [.L hA (([] : List Part).reverse.map partD)]) [] := w5.perm (by
      refine List.Perm.trans (List.reverse_perm _).symm ?_
      exact List.Perm.refl _)
    have hsg : p.Sgs Self := parse_sgs (fun c _ h1 h2 h3 h4 => ⟨h1, h38 c (by assumption), h2⟩) hp
    obtain ⟨er, sy⟩ := parse_rpn h38 hp
    have run := plRun_post p ⟨[], []⟩ [] hsg
    have psz : p.sz ≤ 2000 := Nat.le_trans (parse_sz hp) (Nat.le_trans (letC_le l) hl)
    refine ⟨_, rfl, l, rfl, hl, sy, fun tA H6 w7 => ?_⟩
    have w8 := w6.join1 w7 (sgs_noL _)
    have w8 : Wd H0 H6 (PC C x dx sgA nxA ⟨[], []⟩ [.L hA (([] : List Part).reverse.map partD), .L tA (p.post.map sgD)]) [] := by
      rw [er] at w8
      refine w8.perm ?_
      exact (List.perm_append_comm (l₁ := PC C x dx sgA nxA ⟨[], []⟩ [.L hA (([] : List Part).reverse.map partD)]) (l₂ := [.L tA (p.post.map sgD)]))
    have lt : (p.post).length ≤ 10000 := by
      rw [← er]
      have h1 := syRun_len (jointsL l)
      have h2 : (jointsL l).length ≤ 2 * l.length := jgo_len l none
      unfold rpnL
      rw [List.length_append]; omega
    obtain ⟨xt, et, jt⟩ := w8.list 4
    obtain rfl := sgs_inv jt
    refine ⟨tA, rfl, ⟨_, SqL.of et⟩, for_list (K := K) (a := tA) (xs := p.post.map sgV) (fun i σ H' => ∃ (s : Pl) (st : List Part) (z3 z4 : Option V), plRun (⟨[], []⟩, []) (p.post.take i) = some (s, st) ∧ σ = [some (.ref x), some (.str (SX.S l)), some (.ref hA), z3, z4] ∧
      Wd H0 H' (PC C x dx sgA nxA s [.L hA (st.reverse.map partD), .L tA (p.post.map sgD)]) [])
      ⟨_, _, none, none, rfl, rfl, w8⟩ (fun i σ H' _ pv => ?_) (fun i y σ H' hy pv => ?_) (fun σ H' pv => ?_)⟩
    · obtain ⟨s, st, z3, z4, _, rfl, w9⟩ := pv
      obtain ⟨xs, ex, jx⟩ := w9.list 4
      obtain rfl := sgs_inv jx
      exact SqL.of ex
    · obtain ⟨s, st, z3, z4, e0, rfl, w9⟩ := pv
      obtain ⟨c, hc, rfl⟩ : ∃ c, p.post[i]? = some c ∧ y = sgV c := by
        rw [List.getElem?_map] at hy
        cases e : p.post[i]? with
        | none => rw [e] at hy; cases hy
        | some c => rw [e] at hy; exact ⟨c, rfl, (Option.some.inj hy).symm⟩
      obtain ⟨⟨s2, st2⟩, e1, e2⟩ := plRun_next run hc e0
      have ok := PSOk.start.run e0
      have okl : s.nx.length = s.sg.length := ok.pl.len
      have hs : s.sg.length ≤ 2000 := by
        have h1 : s.sg.length = 0 + letN (p.post.take i) := plRun_sg e0
        have h2 := letN_post p hsg
        have h3 : letN p.post = letN (p.post.take i) + letN (p.post.drop i) := by rw [← letN_app, List.take_append_drop]
        omega
      have hst : st.length ≤ 10000 := by
        have h1 : st.length ≤ 0 + (p.post.take i).length := plRun_st e0
        rw [List.length_take] at h1
        omega
      refine ⟨_, rfl, rfl, _, rfl, ?_⟩
      rw [dec_sign c 42 _ (by decide +kernel)]
      unfold plStep at e1
      by_cases h1 : c = 42
      · rw [decide_eq_true h1]
        rw [if_pos h1] at e1
        refine iteT ?_
        cases st with
        | nil => cases e1
        | cons pt r =>
          cases e1
          have w10 : Wd H0 H' (PC C x dx sgA nxA s [.L hA (r.reverse.map partD ++ [partD pt]), .L tA (p.post.map sgD)]) [] := by
            rw [List.reverse_cons, List.map_append] at w9; exact w9
          refine ⟨_, rfl, d_ty w10 3 rfl, _, rfl, x, dx, _, rfl, w10.obj 0, fo_starred _ _, _, rfl, d_ty w10 3 rfl, d_pop w10 3 rfl fun yv H11 w11 => ?_⟩
          refine ⟨H0, _, _, x, dx, sgA, nxA, s, pt, yv, rfl, w11, w11.get 0, ok.pl, ok.pt pt (by simp), hs, fun v H12 w12 => ?_⟩
          refine x_nil (d_append w12 3 rfl (w12.get 0) (by rw [List.length_map, List.length_reverse]; simp only [List.length_cons] at hst; omega) fun H13 w13 => ?_)
          refine ⟨_, _, _, _, e2, rfl, ?_⟩
          rw [List.reverse_cons, List.map_append]
          exact w13.less (by simp)
      rw [decide_eq_false h1]
      rw [if_neg h1] at e1
      refine iteF ?_
      have two : (c = 38 ∨ c = 124) → (tSeq (tAsg (tBM0 K "list" rPop (tVar 2)) (gName 4)) (tDrop (tBM K "list" rAppend (tVar 2) (tCons (tMeth C (Str.ofString "put") (spPut C) [] E0 (tVar 0) (tCons (tBM0 K "list" rPop (tVar 2)) (tCons (tVar 4) (tCons (tVar 3) tNil)))) tNil)))) { nx := fun σ H' => ∃ (s : Pl) (st : List Part) (z3 z4 : Option V), plRun (⟨[], []⟩, []) (p.post.take (i + 1)) = some (s, st) ∧ σ = [some (.ref x), some (.str (SX.S l)), some (.ref hA), z3, z4] ∧ Wd H0 H' (PC C x dx sgA nxA s [.L hA (st.reverse.map partD), .L tA (p.post.map sgD)]) [], rt := Q } [some (.ref x), some (.str (SX.S l)), some (.ref hA), some (sgV c), z4] H' := by
        intro h2
        rw [if_pos h2] at e1
        match st, e1 with
        | y2 :: x1 :: r, e1 =>
          cases e1
          have w10 : Wd H0 H' (PC C x dx sgA nxA s [.L hA ((r.reverse.map partD ++ [partD x1]) ++ [partD y2]), .L tA (p.post.map sgD)]) [] := by
            rw [List.reverse_cons, List.reverse_cons, List.map_append, List.map_append] at w9; exact w9
          refine ⟨_, rfl, d_ty w10 3 rfl, d_pop w10 3 rfl fun yv H11 w11 => ?_⟩
          refine ⟨_, rfl, d_ty w11 3 rfl, _, rfl, x, dx, _, rfl, w11.obj 0, fo_put _ _, _, rfl, d_ty w11 3 rfl, d_pop w11 3 rfl fun xv H12 w12 => ?_⟩
          refine ⟨_, rfl, _, rfl, H0, _, _, x, dx, sgA, nxA, s, x1, y2, xv, yv, c, rfl, w12, w12.get 0, w12.get 1, ok.pl, ok.pt x1 (by simp), ok.pt y2 (by simp), hs, fun v H13 w13 => ?_⟩
          refine x_nil (d_append w13 3 rfl (w13.get 0) (by rw [List.length_map, List.length_reverse]; simp only [List.length_cons] at hst; omega) fun H14 w14 => ?_)
          refine ⟨_, _, _, _, e2, rfl, ?_⟩
          rw [List.reverse_cons, List.map_append]
          exact w14.less (by simp)
      refine ⟨_, rfl, rfl, _, rfl, ?_⟩
      rw [dec_sign c 38 _ (by decide +kernel)]
      by_cases h2 : c = 38
      · rw [decide_eq_true h2]
        exact iteT (iteT (two (.inl h2)))
      rw [decide_eq_false h2]
      refine iteF ⟨_, rfl, rfl, _, rfl, ?_⟩
      rw [dec_sign c 124 _ (by decide +kernel)]
      by_cases h3 : c = 124
      · rw [decide_eq_true h3]
        exact iteT (two (.inr h3))
      rw [decide_eq_false h3]
      rw [if_neg (fun z => z.elim h2 h3)] at e1
      cases e1
      refine iteF ?_
      refine ⟨_, rfl, d_ty w9 3 rfl, _, rfl, x, dx, _, rfl, w9.obj 0, fo_single _ _, _, rfl, H0, _, _, x, dx, sgA, nxA, s, c, rfl, w9, okl, by omega, fun v H12 w12 => ?_⟩
      refine x_nil (d_append w12 3 rfl (w12.get 0) (by rw [List.length_map, List.length_reverse]; omega) fun H13 w13 => ?_)
      refine ⟨_, _, _, _, e2, rfl, ?_⟩
      rw [List.reverse_cons, List.map_append]
      exact w13.less (by simp)
    · obtain ⟨s, st, z3, z4, e0, rfl, w9⟩ := pv
      rw [List.length_map, List.take_length, run] at e0
      cases e0
      have w10 : Wd H0 H' (PC C x dx sgA nxA p.M [.L hA ([] ++ [partD p.X]), .L tA (p.post.map sgD)]) [] := w9
      refine ⟨_, rfl, d_ty w10 3 rfl, d_pop w10 3 rfl fun wv H11 w11 => ?_⟩
      refine ⟨_, rfl, x, C, dx, _, rfl, w11.obj 0, T.cl, T.nW, (fs2_len _ _), ?_⟩
      have w12 := w11.turnX 0 (C' := C) (dx' := dx) (fs' := fs3 sgA nxA wv) rfl
      show Q .non (upd H11 x (.ins C dx (fs3 sgA nxA wv)))
      generalize upd H11 x _ = H12 at w12 ⊢
      obtain ⟨xs, es, js⟩ := w12.list 1
      obtain ⟨xn, en, jn⟩ := w12.list 2
      exact q _ w12.same ⟨dx, sgA, nxA, wv, w12.obj 0, ⟨sgA, xs, rfl, es, by simp, js.bare⟩, ⟨nxA, xn, rfl, en, by simp, jn.bare⟩, (w12.get 0).bare⟩
end
def spGoals : Sp := fun vs H Q _ => ∃ (h : Hall) (hv rv : V) (rs : List Nat) (c : Nat), vs = [hv, rv, nV c] ∧ h.Ok ∧ Im H [] h.d hv ∧ Im H [] (.tuple (rs.map nD)) rv ∧ rs.length ≤ 60 ∧ (∀ r ∈ rs, r < h.n) ∧ c < h.w ∧ ∀ v H', Sm H H' → Im H' [] (.tuple ((goalsL h rs c).map nD)) v → Q v H'
def spWithRoom : Sp := fun vs H Q _ => ∃ (rv : V) (rs : List Nat) (r n : Nat), vs = [rv, nV r] ∧ Im H [] (.tuple (rs.map nD)) rv ∧ rs.length ≤ 60 ∧ (∀ r ∈ rs, r < n) ∧ r < n ∧ ∀ v H', Sm H H' → Im H' [] (.tuple ((withL n rs r).map nD)) v → Q v H'
def spSomeBright : Sp := fun vs H Q _ => ∃ (h : Hall) (hv rv : V) (rs : List Nat), vs = [hv, rv] ∧ h.Ok ∧ Im H [] h.d hv ∧ Im H [] (.tuple (rs.map nD)) rv ∧ rs.length ≤ 60 ∧ (∀ r ∈ rs, r < h.n) ∧ ∀ H', Sm H H' → Q (.bl (brightL h rs)) H'
theorem shaped_natsL (l : List Nat) : SeqAt.shaped (.list (l.map nD)) = true := by
  unfold SeqAt.shaped
  rw [Bool.and_eq_true]
  refine ⟨canLay_nats l, decide_eq_true ?_⟩
  show PyData.depthAll (l.map nD) + 1 ≤ 64
  rw [dep_nats]; omega
theorem inV_natsT (k : Nat) : ∀ l : List Nat, inV (nV k) (l.map nV) = decide (k ∈ l)
  | [] => rfl
  | a :: l => by
    have ih := inV_natsT k l
    unfold inV at ih ⊢
    simp only [List.map_cons, List.any_cons, ih]
    by_cases e : a = k
    · subst e; simp [eqV]
    · have e2 : ¬ k = a := fun z => e z.symm
      have e3 : ¬ (a : Int) = (k : Int) := by omega
      simp [eqV, e2, e3]
theorem get_nats {rs : List Nat} {j : Nat} {d : PyData} (hx : (rs.map nD)[j]? = some d) : ∃ r, rs[j]? = some r ∧ d = nD r := by
  rw [List.getElem?_map] at hx
  cases e : rs[j]? with
  | none => rw [e] at hx; cases hx
  | some r => rw [e] at hx; exact ⟨r, rfl, (Option.some.inj hx).symm⟩
/-- a room and rooms, the first one too if the former is bright -/
def enterL (h : Hall) (n a : Nat) (rs : List Nat) : List Nat := if h.lit a = 1 then withL n rs 0 else rs
def roundL (h : Hall) (rs : List Nat) : List Nat := if brightL h rs = true then withL h.n rs 0 else rs
def spEntered : Sp := fun vs H Q _ => ∃ (h : Hall) (hv rv : V) (rs : List Nat) (a n : Nat), vs = [hv, nV a, rv] ∧ h.Ok ∧ Im H [] h.d hv ∧ a < h.n ∧ Im H [] (.tuple (rs.map nD)) rv ∧ rs.length ≤ 60 ∧ 0 < n ∧ (∀ r ∈ rs, r < n) ∧ ∀ v H', Sm H H' → Im H' [] (.tuple [nD a, .tuple ((enterL h n a rs).map nD)]) v → Q v H'
def spRound : Sp := fun vs H Q _ => ∃ (h : Hall) (hv rv : V) (rs : List Nat), vs = [hv, rv] ∧ h.Ok ∧ Im H [] h.d hv ∧ Im H [] (.tuple (rs.map nD)) rv ∧ rs.length ≤ 60 ∧ (∀ r ∈ rs, r < h.n) ∧ ∀ v H', Sm H H' → Im H' [] (.tuple ((roundL h rs).map nD)) v → Q v H'
def spCame : Sp := fun vs H Q _ => ∃ (h : Hall) (hv rv : V) (rs : List Nat) (c : Nat), vs = [hv, rv, nV c] ∧ h.Ok ∧ Im H [] h.d hv ∧ Im H [] (.tuple (rs.map nD)) rv ∧ c < h.w ∧ ∀ v H', Sm H H' → Im H' [] (.tuple ((cameL h rs c).map nD)) v → Q v H'
section
variable {P : Program} {w : World} {K : PySem.W.Frag} {mg : Str → Option Value} {base : Heap}
theorem set_tup {H0 H1 : Hp} {cs : List Cell} {ims : List (PyData × V)} (w1 : Wd H0 H1 cs ims) {l : Addr} {L : List Nat} (hl : SqL K H1 l (L.map nV)) (h60 : L.length < 64) {n : Nat} {p : Nat → Bool} (hp : ∀ x, x ∈ L ↔ x < n ∧ p x = true) {Q : VK}
    (q : ∀ v H', Sm H0 H' → Im H' [] (.tuple ((setN n p).map nD)) v → Q v H') :
    rSetOfI K w [.ref l] H1 fun x H2 => rSortedSet w [x] H2 fun y H3 => ∃ p ys, [y] = [.ref p] ∧ ((SqL K H3 p ys ∧ ∀ l, H3 l = none → Q (.ref l) (upd H3 l (.tup ys))) ∨ (SqT K H3 p ys ∧ Q (.ref p) H3)) := by
  refine ⟨l, L.map Int.ofNat, rfl, by rw [List.map_map]; exact hl, by rw [List.length_map]; omega, fun a c ha hc => ?_⟩
  rw [List.length_map] at hc
  have w2 := w1.call (same_new (o := SetO w a (fun j => decide (j ∈ L.map Int.ofNat)) c) ha)
  refine ⟨a, _, c, rfl, upd_same, by omega, fun ns p3 h1 h2 h3 hp3 => ?_⟩
  obtain rfl : ns = (setN n p).map Int.ofNat := asc_set h1 fun k => by
    rw [h2, decide_eq_true_iff, List.mem_map]
    constructor
    · rintro ⟨x, a, b⟩; exact ⟨x, ((hp x).mp a).1, ((hp x).mp a).2, b.symm⟩
    · rintro ⟨x, a, b, c⟩; exact ⟨x, (hp x).mpr ⟨a, b⟩, c.symm⟩
  generalize upd H1 a _ = H2 at w2 hp3 ⊢
  have w3 := w2.call (same_new (o := .lst (((setN n p).map Int.ofNat).map V.int)) hp3)
  have e3 := upd_same (H := H2) (a := p3) (o := .lst (((setN n p).map Int.ofNat).map V.int))
  generalize upd H2 p3 _ = H3 at w3 e3 ⊢
  refine ⟨p3, _, rfl, .inl ⟨SqL.of e3, fun p4 hp4 => ?_⟩⟩
  rw [List.map_map]
  have w4 := w3.tup hp4 (ds := (setN n p).map nD) (xs := (setN n p).map nV) (ImAll.nats _)
  exact q _ _ w4.same (w4.get 0).bare
end
/-! ### keys of rooms -/
def natK : NestedKey → Nat
  | .num i => i.toNat
  | _ => 0
def natsK : NestedKey → List Nat
  | .tup ks => ks.map natK
  | _ => []
def kR (rs : List Nat) : NestedKey := .tup (rs.map fun r : Nat => NestedKey.num (r : Int))
theorem natsK_R (rs : List Nat) : natsK (kR rs) = rs := by
  show (rs.map fun r : Nat => NestedKey.num (r : Int)).map natK = rs
  rw [List.map_map]
  conv => rhs; rw [← List.map_id rs]
  exact List.map_congr_left fun r _ => rfl
theorem kDs_nats : ∀ rs : List Nat, kDs (rs.map fun r : Nat => NestedKey.num (r : Int)) = rs.map nD
  | [] => by simp [kDs]
  | r :: rs => by rw [List.map_cons, kDs, kDs_nats rs]; simp [kD, nD]
theorem kD_R (rs : List Nat) : kD (kR rs) = .tuple (rs.map nD) := by
  show PyData.tuple (kDs _) = _
  rw [kDs_nats]
def kRS (a : Nat) (rs : List Nat) : NestedKey := .tup [.num (a : Int), kR rs]
def rsA : NestedKey → Nat
  | .tup (k :: _) => natK k
  | _ => 0
def rsR : NestedKey → List Nat
  | .tup [_, k] => natsK k
  | _ => []
theorem rsA_ (a : Nat) (rs : List Nat) : rsA (kRS a rs) = a := rfl
theorem rsR_ (a : Nat) (rs : List Nat) : rsR (kRS a rs) = rs := natsK_R rs
theorem kD_RS (a : Nat) (rs : List Nat) : kD (kRS a rs) = .tuple [nD a, .tuple (rs.map nD)] := by
  rw [← kD_R]; rfl
theorem dep_nums : ∀ rs : List Nat, NestedKey.depthAll (rs.map fun r : Nat => NestedKey.num (r : Int)) ≤ 1
  | [] => by simp [NestedKey.depthAll]
  | r :: rs => by
    have := dep_nums rs
    rw [List.map_cons, NestedKey.depthAll]
    have : NestedKey.depth (.num (r : Int)) ≤ 1 := by simp [NestedKey.depth]
    omega
theorem kok_R (rs : List Nat) : KOk (kR rs) := ⟨by
  have := dep_nums rs
  show NestedKey.depth (.tup _) ≤ 8
  rw [NestedKey.depth]; omega, fun x e => nomatch e⟩
theorem kok_RS (a : Nat) (rs : List Nat) : KOk (kRS a rs) := ⟨by
  have := dep_nums rs
  show NestedKey.depth (.tup _) ≤ 8
  simp only [NestedKey.depth, NestedKey.depthAll, kR]; omega, fun x e => nomatch e⟩
def chSys (h g : Hall) : Sys NestedKey := ⟨h.w, kRS 0 (enterL h g.n 0 []), fun k c => kRS (h.go (rsA k) c) (enterL h g.n (h.go (rsA k) c) (goalsL g (rsR k) c)), fun k => brightL g (rsR k)⟩
def chU (h g : Hall) : List NestedKey := (List.range h.n).flatMap fun a => (subsN g.n).map fun rs => kRS a rs
theorem mem_chU {h g : Hall} {k : NestedKey} : k ∈ chU h g ↔ ∃ a rs, a < h.n ∧ rs ∈ subsN g.n ∧ k = kRS a rs := by
  unfold chU
  simp only [List.mem_flatMap, List.mem_map, List.mem_range]
  constructor
  · rintro ⟨a, ha, rs, hr, rfl⟩; exact ⟨a, rs, ha, hr, rfl⟩
  · rintro ⟨a, rs, ha, hr, rfl⟩; exact ⟨a, ha, rs, hr, rfl⟩
theorem chU_len (h g : Hall) : (chU h g).length = h.n * 2 ^ g.n := by
  unfold chU
  have : ∀ n : Nat, ((List.range n).flatMap fun a => (subsN g.n).map fun rs => kRS a rs).length = n * 2 ^ g.n := fun n => by
    induction n with
    | zero => simp
    | succ n ih => rw [List.range_succ, List.flatMap_append, List.length_append, ih]; simp [subsN_len, Nat.succ_mul]
  exact this h.n
theorem subsN_nil : ∀ n, [] ∈ subsN n
  | 0 => by simp [subsN]
  | n + 1 => by unfold subsN; exact List.mem_append_left _ (subsN_nil n)
theorem enterL_sub {h : Hall} {n a : Nat} {rs : List Nat} (hr : rs ∈ subsN n) : enterL h n a rs ∈ subsN n := by
  unfold enterL
  split
  · exact setN_sub _ n
  · exact hr
theorem chSys_in {h g : Hall} (o : h.Ok) : (chSys h g).In (chU h g) := by
  refine ⟨mem_chU.mpr ⟨0, _, o.n1, enterL_sub (subsN_nil _), rfl⟩, fun k hk c hc => ?_⟩
  obtain ⟨a, rs, ha, hr, rfl⟩ := mem_chU.mp hk
  refine mem_chU.mpr ⟨h.go a c, enterL h g.n (h.go a c) (goalsL g rs c), o.go_lt ha hc, enterL_sub (setN_sub _ _), ?_⟩
  show kRS (h.go (rsA (kRS a rs)) c) (enterL h g.n (h.go (rsA (kRS a rs)) c) (goalsL g (rsR (kRS a rs)) c)) = _
  rw [rsA_, rsR_]
theorem mem_enterL {h : Hall} {n a : Nat} {rs : List Nat} {x : Nat} (hn : 0 < n) (hs : ∀ r ∈ rs, r < n) : x ∈ enterL h n a rs ↔ x ∈ rs ∨ (h.lit a = 1 ∧ x = 0) := by
  unfold enterL
  by_cases c : h.lit a = 1
  · rw [if_pos c, mem_withL hs hn]; simp [c]
  · rw [if_neg c]; simp [c]
theorem eq_snoc_ind {P : List Nat → Prop} (h0 : P []) (hs : ∀ t c, P t → P (t ++ [c])) : ∀ t, P t := fun t => by
  have : ∀ (n : Nat) (t : List Nat), t.length = n → P t := fun n => by
    induction n with
    | zero => intro t e; rw [List.length_eq_zero_iff.mp e]; exact h0
    | succ n ih =>
      intro t e
      rcases List.eq_nil_or_concat t with rfl | ⟨u, c, rfl⟩
      · exact h0
      · rw [List.concat_eq_append] at e ⊢
        exact hs u c (ih u (by simp at e; exact e))
  exact this _ t rfl
theorem chSys_run {h g : Hall} (o : h.Ok) (og : g.Ok) (hw : h.w = g.w) : ∀ t, Val h.w t → ∃ rs, rs ∈ subsN g.n ∧ (chSys h g).run (chSys h g).k0 t = kRS (h.run 0 t) rs ∧ ∀ x, x ∈ rs ↔ Cut h g t x := by
  refine eq_snoc_ind (fun _ => ⟨_, enterL_sub (subsN_nil _), rfl, fun x => ?_⟩) fun t c ih hv => ?_
  · rw [mem_enterL og.n1 (by simp), cut_nil]; simp
  · have ht : Val h.w t := fun d hd => hv d (by simp [hd])
    have hc : c < h.w := hv c (by simp)
    obtain ⟨rs, hr, e, m⟩ := ih ht
    have hl := subsN_lt hr
    refine ⟨enterL h g.n (h.go (h.run 0 t) c) (goalsL g rs c), enterL_sub (setN_sub _ _), ?_, fun x => ?_⟩
    · rw [Sys.run_app, e, run_snoc]
      show kRS (h.go (rsA (kRS (h.run 0 t) rs)) c) (enterL h g.n (h.go (rsA (kRS (h.run 0 t) rs)) c) (goalsL g (rsR (kRS (h.run 0 t) rs)) c)) = _
      rw [rsA_, rsR_]
    · rw [mem_enterL og.n1 (show ∀ r ∈ goalsL g rs c, r < g.n from fun r hr => (mem_setN.mp hr).1), mem_goalsL og hl (by rw [← hw]; exact hc), cut_snoc, run_snoc]
      constructor
      · rintro (⟨r, a, b⟩ | z)
        · exact .inl ⟨r, (m r).mp a, b⟩
        · exact .inr z
      · rintro (⟨r, a, b⟩ | z)
        · exact .inl ⟨r, (m r).mpr a, b⟩
        · exact .inr z
/-- some cut of the tune is good in the one and in the other -/
def CutGood (h g : Hall) (t : List Nat) : Prop := ∃ u v, t = u ++ v ∧ h.lit (h.run 0 u) = 1 ∧ g.lit (g.run 0 v) = 1
theorem chSys_lit {h g : Hall} (o : h.Ok) (og : g.Ok) (hw : h.w = g.w) {t : List Nat} (ht : Val h.w t) : (chSys h g).lit ((chSys h g).run (chSys h g).k0 t) = true ↔ CutGood h g t := by
  obtain ⟨rs, hr, e, m⟩ := chSys_run o og hw t ht
  rw [e]
  show brightL g (rsR (kRS (h.run 0 t) rs)) = true ↔ _
  rw [rsR_, brightL_iff]
  constructor
  · rintro ⟨r, a, b⟩
    obtain ⟨u, v, e1, e2, e3⟩ := (m r).mp a
    exact ⟨u, v, e1, e2, by rw [e3]; exact b⟩
  · rintro ⟨u, v, e1, e2, e3⟩
    exact ⟨_, (m _).mpr ⟨u, v, e1, e2, rfl⟩, e3⟩
/-! ### from places to places -/
def hereD : Option (List Nat) → PyData
  | none => .none
  | some S => .tuple (S.map nD)
def HereOk (p : Pa) : Option (List Nat) → Prop
  | none => True
  | some S => ∀ i ∈ S, i < p.M.nx.length
def spStepM (C : Addr) : Sp := fun vs H Q _ => ∃ (x : Addr) (p : Pa) (h : Option (List Nat)) (hv : V) (c : Nat), vs = [.ref x, hv, sgV c] ∧ PlAt C p x H ∧ p.Sgs Self ∧ Im H [] (hereD h) hv ∧ HereOk p h ∧ (someL p.M p.X h).length < 4095 ∧
  ∀ v H', Sm H H' → Im H' [] (.tuple ((stepL p.M p.X h c).map nD)) v → Q v H'
def spEndM (C : Addr) : Sp := fun vs H Q _ => ∃ (x : Addr) (p : Pa) (h : Option (List Nat)) (hv : V), vs = [.ref x, hv] ∧ PlAt C p x H ∧ Im H [] (hereD h) hv ∧ (∀ S, h = some S → S.length ≤ 10000) ∧ ∀ H', Sm H H' → Q (.bl (endL p.X h)) H'
section
variable {P : Program} {w : World} {K : PySem.W.Frag} {mg : Str → Option Value} {base : Heap}
theorem sc_Places_step : FnScope ["self", "here", "sign", "some", "place"] ["self", "here", "sign"] (defScope s_Places_step) := ⟨rfl, rfl, rfl, by decide +kernel, rfl, by decide +kernel, by decide +kernel⟩
theorem ok_step {f C : Addr} {fd : FuncData} (F : Fun K "step" "Places.step" s_Places_step f fd) (T : PlT K C) (g_tuple : mg "tuple" = none) (g_sorted : mg "sorted" = none) (g_set : mg "set" = none) : FnOk P w K mg base CX0 2 f fd ["self", "here", "sign"] (spStepM C) := by
  refine F.ok sc_Places_step (fun vs H Q E h => ?_) (fun cdv A outer s H vs Q E hr h => ?_)
  · obtain ⟨_, _, _, _, _, rfl, _⟩ := h
    rfl
  · obtain ⟨x, p, h, hv, c, rfl, pl, hsg, ih, hok, hz, q⟩ := h
    refine ⟨_, (pss_join (ps_if (pt_cmpR op_isN (pv 1) pe_non (nomark _))
        (pss_one (ps_set (i := 3) sc_Places_step.nd rfl (Or.inl rfl) (pe_ix ix_im (pe_fld (pv 0) rfl) pe_int (fun _ _ => rfl))))
        (pss_cons (ps_set (i := 3) sc_Places_step.nd rfl (Or.inl rfl) (pe_lst pa_nil))
        (pss_one (ps_for PassesOwn.never rfl (pi_tup (pv 1)) (pg_name (i := 4) sc_Places_step.nd rfl (by first | exact Or.inl rfl | exact Or.inr rfl))
          (pss_one (ps_set (i := 3) sc_Places_step.nd rfl (Or.inl rfl) (pe_op op_cat (pv 3) (pe_ix (ixL (K := K) rfl) (pe_fld (pv 0) rfl) (pv 4) (fun _ _ => rfl)))))))))
      (pss_one (ps_ret (pe_callTy (tupOf (K := K) rfl) (by rfl) g_tuple (by decide +kernel) (pa_cons (pe_callB (sortedSetA (w := w) rfl rfl hr) (by rfl) g_sorted (by decide +kernel) (pa_cons (pe_callTy (setOfI (K := K) (w := w) rfl rfl rfl) (by rfl) g_set (by decide +kernel) (pa_cons (pe_lc (own := [("place", 4)]) (g := (gName 4)) rfl sc_Places_step.nd (pi_list (pv 3)) (blkOk_by (by kernel_rfl)) (fun _ _ _ _ _ => (pg_name (i := 4) sc_Places_step.nd rfl (by first | exact Or.inl rfl | exact Or.inr rfl))) (fun _ _ _ _ _ => (pts_one (pt_cmpR op_eq (pe_ix (ixL (K := K) rfl) (pe_fldK (K := K) rfl (pv 0) rfl) (pv 4) (fun _ _ => rfl)) (pv 2) (nomark _)))) (fun _ _ _ _ _ => (pv 4))) pa_nil)) pa_nil)) pa_nil))))), ?_⟩
    have w0 : Wd H H [] [(hereD h, hv)] := Wd.start (by simpa using ih)
    obtain ⟨pok, xok⟩ := M_ok p hsg
    obtain ⟨dx, sgA, nxA, wv, hx, isg, inx, iw⟩ := id pl
    refine ⟨fun σ H' => ∃ (a : Addr) (z4 : Option V), σ = [some (.ref x), some hv, some (sgV c), some (.ref a), z4] ∧ Sm H H' ∧ H' a = some (.lst ((someL p.M p.X h).map nV)), ?_, ?_⟩
    · refine ⟨_, rfl, rfl, _, rfl, ?_⟩
      cases h with
      | none =>
        have ih : hv = .non := ih
        subst ih
        rw [decide_eq_true rfl]
        refine iteT ⟨_, rfl, x, C, dx, _, _, rfl, hx, T.cl, T.nW, fs3_whole _ _ _, _, _, 1, _, iw, rfl, rfl, fun v1 i1 => ?_⟩
        obtain ⟨a, rfl, ea, _⟩ := i1.row
        exact ⟨a, _, rfl, Sm.refl _, ea⟩
      | some S =>
        obtain ⟨ah, xh, rfl, eh, _, jh⟩ := id ih
        obtain rfl := jh.nats_inv
        rw [decide_eq_false (by intro z; cases z)]
        refine iteF ⟨Nat.zero_le _, fun b0 hb0 => ?_⟩
        have s0 := same_new (o := .lst []) hb0
        have e0 := upd_same (H := H) (a := b0) (o := .lst [])
        generalize upd H b0 _ = H1 at s0 e0 ⊢
        have hok : ∀ i ∈ S, i < p.M.nx.length := hok
        have hz : (S.flatMap fun i => p.M.nx.getD i []).length < 4095 := hz
        refine ⟨_, rfl, ah, rfl, ⟨_, SqT.of (s0.keep _ _ eh rfl)⟩, for_tup (K := K) (a := ah) (xs := S.map nV) (fun i σ H' => ∃ (b : Addr) (z4 : Option V), σ = [some (.ref x), some (.ref ah), some (sgV c), some (.ref b), z4] ∧ Sm H H' ∧ H' b = some (.lst (((S.take i).flatMap fun i => p.M.nx.getD i []).map nV)))
          ⟨b0, none, rfl, s0, e0⟩ (fun i σ H' _ pv => ?_) (fun i y σ H' hy pv => ?_) (fun σ H' pv => ?_)⟩
        · obtain ⟨b, z4, rfl, s1, _⟩ := pv
          exact SqT.of (s1.keep _ _ eh rfl)
        · obtain ⟨b, z4, rfl, s1, e1⟩ := pv
          obtain ⟨o, ho, rfl⟩ : ∃ o, S[i]? = some o ∧ y = nV o := by
            rw [List.getElem?_map] at hy
            cases e : S[i]? with
            | none => rw [e] at hy; cases hy
            | some c => rw [e] at hy; exact ⟨c, rfl, (Option.some.inj hy).symm⟩
          obtain ⟨an, xn, ean, en, _, jn⟩ := inx.sm s1
          cases ean
          obtain ⟨y, ey, iy⟩ := jn.get (rows_at (hok o (List.mem_of_getElem? ho)))
          obtain ⟨ay, rfl, eay, _⟩ := iy.row
          have et : S.take (i + 1) = S.take i ++ [o] := by rw [List.take_add_one, ho]; rfl
          have el : ((S.take i).flatMap fun i => p.M.nx.getD i []).length + (p.M.nx.getD o []).length ≤ 4095 := by
            have h1 : (S.flatMap fun i => p.M.nx.getD i []).length = ((S.take (i + 1)).flatMap fun i => p.M.nx.getD i []).length + ((S.drop (i + 1)).flatMap fun i => p.M.nx.getD i []).length := by
              rw [← List.length_append, ← List.flatMap_append, List.take_append_drop]
            rw [et, List.flatMap_append, List.length_append] at h1
            simp only [List.flatMap_cons, List.flatMap_nil, List.append_nil] at h1
            omega
          refine ⟨_, rfl, _, rfl, x, C, dx, _, _, rfl, s1.keep _ _ hx rfl, T.cl, T.nN, fs3_next _ _ _, _, rfl, nxA, _, (o : Int), _, rfl, rfl, SqL.of en, atI_nat ey, b, ay, _, _, rfl, rfl, e1, eay, by rw [List.length_map, List.length_map]; exact Nat.le_of_lt (sl_small (by omega)), fun b2 hb2 => ?_⟩
          refine ⟨b2, _, rfl, s1.trans (same_new hb2), ?_⟩
          rw [upd_same, et, List.flatMap_append, List.map_append]
          simp
        · obtain ⟨b, z4, rfl, s1, e1⟩ := pv
          rw [List.length_map, List.take_length] at e1
          exact ⟨b, z4, rfl, s1, e1⟩
    · rintro σ H1 ⟨a, z4, rfl, s1, e1⟩
      have w1 : Wd H H1 [] [(rowD (someL p.M p.X h), .ref a)] := ((Wd.start (by simp)).call s1).add (row_im e1 (by simp [fps]))
      have lt : ∀ j ∈ someL p.M p.X h, j < p.M.sg.length := by
        intro j hj
        cases h with
        | none => exact xok.fst.lt j hj
        | some S =>
          obtain ⟨i, _, hk⟩ := List.mem_flatMap.mp hj
          exact (getD_row pok.row i).lt j hk
      generalize hL : someL p.M p.X h = L at *
      refine ⟨_, rfl, a, rfl, ⟨_, SqL.of e1⟩, fun D hD => lc_listW (K := K) (a := a) (xs := L.map nV) (fun j => ((L.take j).filter fun k => decide (p.M.sg[k]? = some c)).map nD) w1 hD rfl (fun j hj => ?_) (fun j H2 hj w2 => ?_) (fun j y H2 hy w2 => ?_) (fun H2 w2 => ?_)⟩
      · have := List.length_filter_le (fun k => decide (p.M.sg[k]? = some c)) (L.take j)
        rw [List.length_take] at this
        rw [List.length_map]
        exact sl_small (by omega)
      · obtain ⟨a2, e2, e3, _⟩ := (w2.get 0).row
        cases e2
        exact SqL.of e3
      · obtain ⟨o, ho, rfl⟩ : ∃ o, L[j]? = some o ∧ y = nV o := by
          rw [List.getElem?_map] at hy
          cases e : L[j]? with
          | none => rw [e] at hy; cases hy
          | some c => rw [e] at hy; exact ⟨c, rfl, (Option.some.inj hy).symm⟩
        have hol := lt o (List.mem_of_getElem? ho)
        obtain ⟨as, xs, eas, es, _, js⟩ := isg.sm w2.same
        cases eas
        obtain rfl := sgs_inv js
        have et : L.take (j + 1) = L.take j ++ [o] := by rw [List.take_add_one, ho]; rfl
        intro Qt Qf k1 k2
        refine ⟨_, rfl, x, C, dx, _, _, rfl, w2.same.keep _ _ hx rfl, T.cl, T.nS, fs3_signs _ _ _, _, rfl, sgA, _, (o : Int), sgV p.M.sg[o], rfl, rfl, SqL.of es, atI_nat (by rw [List.getElem?_map, List.getElem?_eq_getElem hol]; rfl), _, rfl, rfl, _, rfl, ?_⟩
        rw [dec_sign p.M.sg[o] c ⟨#[c]⟩ rfl]
        by_cases hc : p.M.sg[o] = c
        · rw [decide_eq_true hc]
          refine iteT ⟨_, rfl, k1 _ _ (nD o) w2 rfl ?_⟩
          dsimp only
          rw [et, List.filter_append, List.map_append]
          simp [List.getElem?_eq_getElem hol, hc]
        · rw [decide_eq_false hc]
          refine iteF (k2 _ w2 ?_)
          dsimp only
          rw [et, List.filter_append, List.map_append]
          simp [List.getElem?_eq_getElem hol, hc]
      · rw [List.length_map, List.take_length] at w2
        have ep : L.filter (fun k => decide (p.M.sg[k]? = some c)) = pickL p.M p.X h c := by unfold pickL; rw [hL]
        rw [ep] at w2
        have hpl : (pickL p.M p.X h c).length < 4095 := by
          rw [← ep]
          have := List.length_filter_le (fun k => decide (p.M.sg[k]? = some c)) L
          omega
        obtain ⟨xd, ed, jd⟩ := w2.list 0
        obtain rfl := jd.nats_inv
        refine ⟨D, (pickL p.M p.X h c).map Int.ofNat, rfl, by rw [List.map_map]; exact SqL.of ed, by rw [List.length_map]; exact hpl, fun p2 n2 hp2 hn2 => ?_⟩
        have s2 := same_new (o := SetO w p2 (fun j => decide (j ∈ (pickL p.M p.X h c).map Int.ofNat)) n2) hp2
        refine ⟨p2, _, n2, rfl, upd_same, fun ns p3 h1 h2 h3 hp3 => ?_⟩
        obtain rfl : ns = (stepL p.M p.X h c).map Int.ofNat := asc_set h1 fun k => by
          rw [h2, decide_eq_true_iff, List.mem_map]
          constructor
          · rintro ⟨x, h4, h5⟩; exact ⟨x, lt_topN h4, decide_eq_true h4, h5.symm⟩
          · rintro ⟨x, _, h4, h5⟩; exact ⟨x, of_decide_eq_true h4, h5.symm⟩
        generalize upd H2 p2 _ = H3 at s2 hp3 ⊢
        have s3 := same_new (o := .lst (((stepL p.M p.X h c).map Int.ofNat).map V.int)) hp3
        have e3 := upd_same (H := H3) (a := p3) (o := .lst (((stepL p.M p.X h c).map Int.ofNat).map V.int))
        generalize upd H3 p3 _ = H4 at s3 e3 ⊢
        rw [List.map_map] at e3
        refine ⟨p3, _, rfl, .inl ⟨SqL.of e3, fun p4 hp4 => ?_⟩⟩
        refine q _ _ (w2.same.trans (s2.trans (s3.trans (same_new hp4)))) ⟨p4, _, rfl, upd_same, by simp, ImAll.nats _⟩
theorem sc_Places_is_end : FnScope ["self", "here", "place"] ["self", "here"] (defScope s_Places_is_end) := ⟨rfl, rfl, rfl, by decide +kernel, rfl, by decide +kernel, by decide +kernel⟩
theorem ok_is_end {f C : Addr} {fd : FuncData} (F : Fun K "is_end" "Places.is_end" s_Places_is_end f fd) (T : PlT K C) : FnOk P w K mg base CX0 2 f fd ["self", "here"] (spEndM C) := by
  refine F.ok sc_Places_is_end (fun vs H Q E h => ?_) (fun cdv A outer s H vs Q E hr h => ?_)
  · obtain ⟨_, _, _, _, rfl, _⟩ := h
    rfl
  · obtain ⟨x, p, h, hv, rfl, pl, ih, hz, q⟩ := h
    refine ⟨_, (pss_cons (ps_if (pt_cmpR op_isN (pv 1) pe_non (nomark _))
        (pss_one (ps_ret (pe_ix ix_im (pe_fld (pv 0) rfl) pe_int (fun _ _ => rfl))))
        pss_nil)
      (pss_one (ps_ret (pe_cmpR (neD (K := K) rfl hr.units) (pe_lc (own := [("place", 2)]) (g := (gName 2)) rfl sc_Places_is_end.nd (pi_tup (pv 1)) (blkOk_by (by kernel_rfl)) (fun _ _ _ _ _ => (pg_name (i := 2) sc_Places_is_end.nd rfl (by first | exact Or.inl rfl | exact Or.inr rfl))) (fun _ _ _ _ _ => (pts_one (pt_cmpR (inS (K := K) rfl) (pv 2) (pe_ix ix_im (pe_fldK (K := K) rfl (pv 0) rfl) pe_int (fun _ _ => rfl)) rfl))) (fun _ _ _ _ _ => (pv 2))) (pe_lst pa_nil) (nomark _))))), ?_⟩
    obtain ⟨dx, sgA, nxA, wv, hx, isg, inx, iw⟩ := id pl
    refine ⟨_, rfl, rfl, _, rfl, ?_⟩
    cases h with
    | none =>
      have ih : hv = .non := ih
      subst ih
      rw [decide_eq_true rfl]
      refine iteT ⟨_, rfl, x, C, dx, _, _, rfl, hx, T.cl, T.nW, fs3_whole _ _ _, _, _, 0, _, iw, rfl, rfl, fun v1 i1 => ?_⟩
      obtain rfl : v1 = .bl p.X.1 := i1
      exact q _ (Sm.refl _)
    | some S =>
      obtain ⟨ah, xh, rfl, eh, _, jh⟩ := id ih
      obtain rfl := jh.nats_inv
      have hz := hz S rfl
      rw [decide_eq_false (by intro z; cases z)]
      have w0 : Wd H H [] [(.tuple (S.map nD), .ref ah)] := Wd.start (fun p hp => by simp at hp; subst hp; exact ih)
      refine iteF ⟨_, rfl, ah, rfl, ⟨_, SqT.of eh⟩, fun D hD => lc_tupD (K := K) (ds := S.map nD) (fun j => ((S.take j).filter fun k => decide (k ∈ p.X.2.2)).map nD) 0 w0 hD rfl rfl (fun j hj => ?_) (fun j y d H2 hy iy w2 => ?_) (fun H2 w2 => ?_)⟩
      · have := List.length_filter_le (fun k => decide (k ∈ p.X.2.2)) (S.take j)
        rw [List.length_take] at this
        rw [List.length_map]
        exact sl_small (by omega)
      · obtain ⟨o, ho, rfl⟩ := get_nats hy
        cases iy
        have et : S.take (j + 1) = S.take j ++ [o] := by rw [List.take_add_one, ho]; rfl
        intro Qt Qf k1 k2
        refine ⟨_, rfl, _, rfl, x, C, dx, _, _, rfl, w2.same.keep _ _ hx rfl, T.cl, T.nW, fs3_whole _ _ _, _, _, 2, _, iw.sm w2.same, rfl, rfl, fun v1 i1 => ?_⟩
        obtain ⟨a1, rfl, e1, _⟩ := i1.row
        refine ⟨a1, _, rfl, .inl (SqL.of e1), rfl, by simp [flatV], _, rfl, ?_⟩
        rw [if_neg (by decide), inV_natsT]
        by_cases hc : o ∈ p.X.2.2
        · rw [decide_eq_true hc]
          refine iteT ⟨_, rfl, k1 _ _ (nD o) w2 rfl ?_⟩
          dsimp only
          rw [et, List.filter_append, List.map_append]
          simp [hc]
        · rw [decide_eq_false hc]
          refine iteF (k2 _ w2 ?_)
          dsimp only
          rw [et, List.filter_append, List.map_append]
          simp [hc]
      · rw [List.length_map, List.take_length] at w2
        refine ⟨(by show 0 ≤ sizeLine; decide), fun b hb => ?_⟩
        have w3 := w2.pushL hb (ds := []) (xs := []) ImAll.nil
        refine ⟨_, _, w3.dp 1, w3.dp 0, shaped_natsL _, shaped_natsL [], ?_⟩
        have e : PyData.eqv (.list ((S.filter fun k => decide (k ∈ p.X.2.2)).map nD)) (.list ([].map nD)) = decide ((S.filter fun k => decide (k ∈ p.X.2.2)) = []) := eqv_nats _ []
        show Q (.bl (!PyData.eqv (.list ((S.filter fun k => decide (k ∈ p.X.2.2)).map nD)) (.list ([].map nD)))) _
        rw [e]
        have e2 : (!decide ((S.filter fun k => decide (k ∈ p.X.2.2)) = [])) = endL p.X (some S) := by
          rw [Bool.eq_iff_iff]
          show _ ↔ (S.any fun j => decide (j ∈ p.X.2.2)) = true
          simp
        rw [e2]
        exact q _ w3.same
end
/-! ### what look_pattern lets by can be read -/
theorem patTurn_some {w c last last' : Nat} {deep deep' : Int} (e : patTurn w c deep last = some (deep', last')) : patSign w c = true ∧ ([40, 124].contains last && [42, 124, 41].contains c) = false ∧ last' = c ∧ deep' = deep + ind c 40 - ind c 41 ∧ 0 ≤ deep' := by
  unfold patTurn at e
  split at e
  · cases e
  · rename_i h1
    split at e
    · cases e
    · rename_i h2
      split at e
      · cases e
      · rename_i h3
        cases e
        exact ⟨by simpa using h1, by simpa using h2, rfl, rfl, by omega⟩
/-- the frames that are open, and whether something stands ahead -/
def Opened (fs : List Frm) (deep : Int) (last : Nat) : Prop := ∃ f r, fs = f :: r ∧ (fs.length : Int) = deep + 1 ∧ (f.cu.isSome = true ↔ [40, 124].contains last = false)
theorem opened_step {w c last last' : Nat} {deep deep' : Int} {fs : List Frm} (o : Opened fs deep last) (e : patTurn w c deep last = some (deep', last')) : ∃ gs, mstep fs c = some gs ∧ Opened gs deep' last' := by
  obtain ⟨h1, h2, rfl, rfl, h5⟩ := patTurn_some e
  obtain ⟨f, r, rfl, hl, hc⟩ := o
  unfold mstep
  dsimp only
  have cur : [42, 124, 41].contains last' = true → ∃ x, f.cu = some x := fun z => by
    rw [z, Bool.and_true] at h2
    exact Option.isSome_iff_exists.mp (hc.mpr h2)
  by_cases k1 : last' = 42
  · subst k1
    obtain ⟨x, ex⟩ := cur (by decide)
    rw [if_pos rfl, ex]
    exact ⟨_, rfl, _, _, rfl, by simp [ind] at hl ⊢; omega, by simp⟩
  rw [if_neg k1]
  by_cases k2 : last' = 124
  · subst k2
    obtain ⟨x, ex⟩ := cur (by decide)
    rw [if_pos rfl, ex]
    exact ⟨_, rfl, _, _, rfl, by simp [ind] at hl ⊢; omega, by simp⟩
  rw [if_neg k2]
  by_cases k3 : last' = 41
  · subst k3
    obtain ⟨x, ex⟩ := cur (by decide)
    rw [if_pos rfl, ex]
    cases r with
    | nil => simp [ind] at hl h5; omega
    | cons g r => exact ⟨_, rfl, _, _, rfl, by simp [ind] at hl ⊢; omega, by simp⟩
  rw [if_neg k3]
  by_cases k4 : last' = 40
  · subst k4
    rw [if_pos rfl]
    exact ⟨_, rfl, _, _, rfl, by simp [ind] at hl ⊢; omega, by simp [f0]⟩
  rw [if_neg k4]
  exact ⟨_, rfl, _, _, rfl, by simp [ind, k3, k4] at hl ⊢; omega, by simp [k2, k4]⟩
theorem opened_run {w : Nat} : ∀ {l : List Nat} {last last' : Nat} {deep deep' : Int} {fs : List Frm}, Opened fs deep last → patRun w l deep last = some (deep', last') → ∃ gs, mrun fs l = some gs ∧ Opened gs deep' last'
  | [], last, last', deep, deep', fs, o, e => by cases e; exact ⟨fs, rfl, o⟩
  | c :: l, last, last', deep, deep', fs, o, e => by
    rw [patRun] at e
    cases q : patTurn w c deep last with
    | none => rw [q] at e; cases e
    | some p =>
      rw [q] at e
      obtain ⟨gs, g1, g2⟩ := opened_step o q
      obtain ⟨hs, k1, k2⟩ := opened_run g2 e
      exact ⟨hs, by rw [mrun, g1]; exact k1, k2⟩
theorem patRun_signs {w : Nat} : ∀ {l : List Nat} {last : Nat} {deep : Int} {q : Int × Nat}, patRun w l deep last = some q → ∀ c ∈ l, patSign w c = true
  | [], last, deep, q, _, c, hc => by simp at hc
  | d :: l, last, deep, q, e, c, hc => by
    rw [patRun] at e
    cases z : patTurn w d deep last with
    | none => rw [z] at e; cases e
    | some p =>
      rw [z] at e
      rcases List.mem_cons.mp hc with rfl | hc
      · exact (patTurn_some z).1
      · exact patRun_signs e c hc
theorem codes_run {w : Nat} {l : List Nat} (h : patCodes w l = true) : ∃ last, patRun w l 0 40 = some (0, last) ∧ [40, 124].contains last = false := by
  unfold patCodes at h
  cases e : patRun w l 0 40 with
  | none => rw [e] at h; cases h
  | some q =>
    rw [e] at h
    obtain ⟨deep, last⟩ := q
    simp only [Bool.and_eq_true, decide_eq_true_eq, Bool.not_eq_true'] at h
    exact ⟨last, by rw [h.1], h.2⟩
theorem codes_parse {w : Nat} {l : List Nat} (h : patCodes w l = true) : (∃ p, parse l = some p) ∧ ∀ c ∈ l, patSign w c = true := by
  obtain ⟨last, e, hl⟩ := codes_run h
  refine ⟨?_, patRun_signs e⟩
  obtain ⟨gs, g1, f, r, rfl, g2, g3⟩ := opened_run (fs := [f0]) ⟨f0, [], rfl, rfl, by simp [f0]⟩ e
  have : r = [] := by
    simp only [List.length_cons] at g2
    exact List.length_eq_zero_iff.mp (by omega)
  subst this
  obtain ⟨x, ex⟩ := Option.isSome_iff_exists.mp (g3.mpr hl)
  unfold parse
  rw [g1]
  exact ⟨_, by dsimp only; rw [ex]; rfl⟩
theorem sign_ne {w c : Nat} (hw : w ≤ 3) (h : patSign w c = true) : c ≠ 38 := by
  rintro rfl
  unfold patSign at h
  simp at h
/-- the lists that step goes through are short enough -/
def Fits (p : Pa) (ws : List Nat) : Prop := ∀ u v, ws = u ++ v → v ≠ [] → (someL p.M p.X (runL p.M p.X none u)).length < 4095
theorem runL_snoc (M : Pl) (x : Part) (h : Option (List Nat)) (u : List Nat) (c : Nat) : runL M x h (u ++ [c]) = some (stepL M x (runL M x h u) c) := by
  unfold runL; rw [List.foldl_append]; rfl
theorem step_lt {p : Pa} (h : p.Sgs Self) {s : Option (List Nat)} {c j : Nat} (hj : j ∈ stepL p.M p.X s c) : j < p.M.sg.length := by
  obtain ⟨pok, xok⟩ := M_ok p h
  obtain ⟨h1, _⟩ := List.mem_filter.mp (mem_srtU.mp hj)
  cases s with
  | none => exact xok.fst.lt j h1
  | some S =>
    obtain ⟨i, _, hk⟩ := List.mem_flatMap.mp h1
    exact (getD_row pok.row i).lt j hk
theorem run_here {p : Pa} (h : p.Sgs Self) (u : List Nat) : ∀ S, runL p.M p.X none u = some S → LstOk p.M.sg.length S := by
  intro S e
  rcases snoc_cases u with rfl | ⟨v, c, rfl⟩
  · cases e
  · rw [runL_snoc] at e
    cases e
    exact ⟨srtU_asc _, fun j hj => step_lt h hj⟩
theorem fits_small {p : Pa} (h : p.Sgs Self) (hs : p.sz ≤ 63) (ws : List Nat) : Fits p ws := by
  intro u v _ _
  obtain ⟨pok, xok⟩ := M_ok p h
  have e : p.M.sg.length = p.sz := by rw [M_sg, sgn_len]
  rw [e] at xok
  cases q : runL p.M p.X none u with
  | none =>
    have := xok.fst.len
    show (p.X.2.1).length < 4095
    omega
  | some S =>
    have hS := run_here h u S q
    rw [e] at hS
    have h1 := hS.len
    have h2 : ∀ T : List Nat, (T.flatMap fun i => p.M.nx.getD i []).length ≤ 63 * T.length := by
      intro T
      induction T with
      | nil => simp
      | cons a T ih =>
        have := (getD_row (n := p.M.sg.length) (M_ok p h).1.row a).len
        rw [e] at this
        simp only [List.flatMap_cons, List.length_append, List.length_cons]
        omega
    have h3 := h2 S
    show (S.flatMap fun i => p.M.nx.getD i []).length < 4095
    omega
def tuneC (t : List Nat) : List Nat := t.map (· + 97)
/-- whether a tune is one of a pattern, as the program finds it -/
def accB (p : Pa) (ws : List Nat) : Bool := endL p.X (runL p.M p.X none ws)
theorem accB_iff (p : Pa) (ws : List Nat) : accB p ws = true ↔ p.Lang ws := run_lang p ws
def spMatches (cP : Addr) : Sp := fun vs H Q E => ∃ (d dw : PyData) (x y : V) (t : List Nat), vs = [x, y, .str (tuneS t)] ∧ Im H [] d x ∧ Im H [] dw y ∧ sizeD d ∧ (patOk d dw = false → E (.ref cP) none H) ∧
  (patOk d dw = true → ∃ (l : List Nat) (wn : Nat) (p : Pa), d = .str (SX.S l) ∧ dw = nD wn ∧ parse l = some p ∧ (∀ c ∈ t, c < wn) ∧ Fits p (tuneC t) ∧ ∀ H', Sm H H' → Q (.bl (accB p (tuneC t))) H')
theorem patOk_inv {l : List Nat} {wn : Nat} (h : patOk (.str (SX.S l)) (nD wn) = true) : (1 ≤ wn ∧ wn ≤ 3) ∧ (1 ≤ l.length ∧ l.length ≤ 2000) ∧ patCodes wn l = true := by
  rw [patOk_si] at h
  simp only [Bool.and_eq_true, decide_eq_true_eq] at h
  have e : (SX.S l).length = l.length := SX.S_len l
  rw [e] at h
  exact ⟨by omega, h.2.1, h.2.2⟩
theorem sgs_self {wn : Nat} {l : List Nat} {p : Pa} (hw : wn ≤ 3) (hs : ∀ c ∈ l, patSign wn c = true) (e : parse l = some p) : p.Sgs Self := parse_sgs (fun c hc h1 h2 h3 h4 => ⟨h1, sign_ne hw (hs c hc), h2⟩) e
theorem ft_step (sg nx : Addr) (wv : V) : (fs3 sg nx wv).lookup ("step" : Str) = none := fs3_no _ _ _ (by decide +kernel) (by decide +kernel) (by decide +kernel)
theorem ft_is_end (sg nx : Addr) (wv : V) : (fs3 sg nx wv).lookup ("is_end" : Str) = none := fs3_no _ _ _ (by decide +kernel) (by decide +kernel) (by decide +kernel)
theorem run_hok {p : Pa} (h : p.Sgs Self) (u : List Nat) : HereOk p (runL p.M p.X none u) := by
  cases e : runL p.M p.X none u with
  | none => trivial
  | some S =>
    intro i hi
    rw [(M_ok p h).1.len]
    exact (run_here h u S e).lt i hi
/-- Places(..) -/
theorem make_pl {C : Addr} {H : Hp} {l : List Nat} {p : Pa} {x dx : Addr} {Q : VK} {E : XK} (hx : H x = none) (hdx : H dx = none) (nd : dx ≠ x) (hl : l.length ≤ 2000) (hp : parse l = some p) (h38 : ∀ c ∈ l, c ≠ 38) (k : ∀ H', Sm H H' → PlAt C p x H' → Q .non H') : spInit C [.ref x, .str (SX.S l)] (upd (upd H dx (.own x)) x (.ins C dx [])) Q E := by
  have w0 : Wd H H [] [] := Wd.start (by simp)
  have w1 := w0.call (same_new (o := .own x) hdx)
  have hx1 : upd H dx (.own x) x = none := by rw [upd_ne nd.symm]; exact hx
  have w2 : Wd H _ [.X x (.ins C dx []) []] [] := w1.push hx1 rfl ⟨upd_same, ins_ok, fun q hq => by simp at hq⟩
  exact ⟨H, x, dx, l, p, rfl, w2, hl, hp, h38, k⟩
section
variable {P : Program} {w : World} {K : PySem.W.Frag} {mg : Str → Option Value} {base : Heap}
theorem sc_matches : FnScope ["pattern", "whistles", "tune", "places", "here", "sign"] ["pattern", "whistles", "tune"] (defScope s_matches) := ⟨rfl, rfl, rfl, by decide +kernel, rfl, by decide +kernel, by decide +kernel⟩
theorem ok_matches {f cP cT C : Addr} {fd : FuncData} (F : Fun K "matches" "matches" s_matches f fd) (C_look_pattern : Cal P w K mg base (L2.CX P w) 2 "look_pattern" ["pattern", "whistles"] (spLookPat cP)) (C_look_tune : Cal P w K mg base (L2.CX P w) 2 "look_tune" ["tune", "whistles"] (spLookTune cT))
    (K_Places : Mkr P w K mg base 4 "Places" C ["self", "pattern"] (spInit C)) (M_step : Mth P w K mg base 2 C "step" ["self", "here", "sign"] (spStepM C)) (M_is_end : Mth P w K mg base 2 C "is_end" ["self", "here"] (spEndM C)) : FnOk P w K mg base (L2.CX P w) 6 f fd ["pattern", "whistles", "tune"] (spMatches cP) := by
  refine F.okX sc_matches (fun vs H Q E h => ?_) (fun cdv A outer s H vs Q E hr h => ?_)
  · obtain ⟨_, _, _, _, _, rfl, _⟩ := h
    rfl
  · obtain ⟨d, dw, x, y, t, rfl, ix, iy, hz, q1, q2⟩ := h
    refine ⟨_, (pss_cons (ps_expr (pe_fx C_look_pattern hr (by decide) rfl (takes_of rfl rfl rfl rfl) (pa_cons (pv 0) (pa_cons (pv 1) pa_nil))))
      (pss_cons (ps_expr (pe_fx C_look_tune hr (by decide) rfl (takes_of rfl rfl rfl rfl) (pa_cons (pv 2) (pa_cons (pv 1) pa_nil))))
      (pss_cons (ps_set (i := 3) sc_matches.nd rfl (Or.inl rfl) (pe_mkr K_Places hr (by decide) rfl (pa_cons (pv 0) pa_nil)))
      (pss_cons (ps_set (i := 4) sc_matches.nd rfl (Or.inl rfl) pe_non)
      (pss_cons (ps_for (passes_of rfl) rfl (pi_str (pv 2)) (pg_name (i := 5) sc_matches.nd rfl (by first | exact Or.inl rfl | exact Or.inr rfl))
        (pss_one (ps_set (i := 4) sc_matches.nd rfl (Or.inl rfl) (pe_mth M_step hr (by decide) (pv 3) (pa_cons (pv 4) (pa_cons (pv 5) pa_nil))))))
      (pss_one (ps_ret (pe_mth M_is_end hr (by decide) (pv 3) (pa_cons (pv 4) pa_nil))))))))), ?_⟩
    refine ⟨_, rfl, _, rfl, [], [], d, dw, x, y, rfl, ix, iy, hz, fun ok => ?_, q1⟩
    obtain ⟨l, wn, p, rfl, rfl, hp, ht, hf, q⟩ := q2 ok
    obtain ⟨hw, hl, hcod⟩ := patOk_inv ok
    obtain ⟨_, hsn⟩ := codes_parse hcod
    have h38 : ∀ c ∈ l, c ≠ 38 := fun c hc => sign_ne hw.2 (hsn c hc)
    have hsg := sgs_self hw.2 hsn hp
    obtain rfl : x = .str (SX.S l) := ix
    obtain rfl : y = nV wn := iy
    refine ⟨_, rfl, _, rfl, [], .str (tuneS t), _, wn, rfl, rfl, hw.2, fun _ => ?_, fun e => by rw [okTune_tune ht] at e; cases e⟩
    refine ⟨_, rfl, fun px dx hpx hdx nd => make_pl hpx hdx nd hl.2 hp h38 fun H1 s1 pl1 => ⟨rfl, ?_⟩⟩
    have lc : ∀ (i c : Nat), (tuneS t).cps.toList[i]? = some c → (tuneC t)[i]? = some c := fun i c z => z
    have ll : (tuneS t).cps.toList.length = (tuneC t).length := rfl
    refine ⟨_, rfl, tuneS t, rfl, for_str (fun i σ H' => ∃ (hv : V) (z5 : Option V), σ = [some (.str (SX.S l)), some (nV wn), some (.str (tuneS t)), some (.ref px), some hv, z5] ∧ Sm H H' ∧ PlAt C p px H' ∧ Im H' [] (hereD (runL p.M p.X none ((tuneC t).take i))) hv)
      ⟨_, none, rfl, s1, pl1, rfl⟩ (fun i c σ H' hc pv => ?_) (fun σ H' pv => ?_)⟩
    · obtain ⟨hv, z5, rfl, s2, pl2, i2⟩ := pv
      have hc := lc i c hc
      obtain ⟨dx2, sg2, nx2, wv2, hx2, _⟩ := id pl2
      have et : (tuneC t).take (i + 1) = (tuneC t).take i ++ [c] := by rw [List.take_add_one, hc]; rfl
      have hi := (List.getElem?_eq_some_iff.mp hc).1
      refine ⟨_, rfl, px, dx2, _, rfl, hx2, ft_step _ _ _, _, rfl, _, rfl, px, p, _, hv, c, rfl, pl2, hsg, i2, run_hok hsg _, hf _ ((tuneC t).drop i) (List.take_append_drop i _).symm (fun z => ?_), fun v H3 s3 i3 => ?_⟩
      · have := congrArg List.length z
        rw [List.length_drop, List.length_nil] at this
        omega
      · refine ⟨v, _, rfl, s2.trans s3, pl2.sm s3, ?_⟩
        rw [et, runL_snoc]
        exact i3
    · obtain ⟨hv, z5, rfl, s2, pl2, i2⟩ := pv
      rw [ll, List.take_length] at i2
      obtain ⟨dx2, sg2, nx2, wv2, hx2, _⟩ := id pl2
      refine ⟨_, rfl, px, dx2, _, rfl, hx2, ft_is_end _ _ _, _, rfl, px, p, _, hv, rfl, pl2, i2, fun S e => ?_, fun H3 s3 => q _ (s2.trans s3)⟩
      have h1 := (run_here hsg _ S e).len
      have h2 : p.M.sg.length = p.sz := by rw [M_sg, sgn_len]
      have h3 := parse_sz hp
      have h4 := letC_le l
      omega
end
/-! ### the law's own patterns -/
def paD : Pa → PyData
  | .sg c => .tuple [.str (Str.ofString "one"), sgD c]
  | .star p => .tuple [.str (Str.ofString "star"), paD p]
  | .cat p q => .tuple [.str (Str.ofString "chain"), paD p, paD q]
  | .alt p q => .tuple [.str (Str.ofString "choice"), paD p, paD q]
def litsL (w : Nat) : List Nat := (List.replicate 3 ((List.range w).map (· + 97))).flatten ++ [33, 46]
def signP (w : Nat) (cell : Int) : Nat := (litsL w).getD (mix cell 9967 (3 * w + 2)) 0
def partP (w : Nat) : Nat → Int → Pa
  | 0, cell => .sg (signP w cell)
  | d + 1, cell => if mix cell 9973 9 < 3 then .sg (signP w cell)
    else if mix cell 9973 9 < 5 then .star (partP w d (cell * 3 + 7))
    else if mix cell 9973 9 < 7 then .cat (partP w d (cell * 3 + 7)) (partP w d (cell * 5 + 11))
    else .alt (partP w d (cell * 3 + 7)) (partP w d (cell * 5 + 11))
theorem lits_len (w : Nat) : (litsL w).length = 3 * w + 2 := by
  unfold litsL
  simp [List.replicate]
  omega
theorem sign_get (w : Nat) (cell : Int) : (litsL w)[mix cell 9967 (3 * w + 2)]? = some (signP w cell) := by
  have h := mix_lt cell 9967 (show 0 < 3 * w + 2 by omega)
  unfold signP
  rw [List.getD_eq_getElem?_getD, List.getElem?_eq_getElem (by rw [lits_len]; exact h)]
  rfl
def spPart (n : Nat) : Sp := fun vs H Q _ => ∃ (cell : Int) (w d : Nat), vs = [.int cell, nV w, nV d] ∧ 1 ≤ w ∧ w ≤ 3 ∧ d < n ∧ ∀ v H', Sm H H' → Im H' [] (paD (partP w d cell)) v → Q v H'
section
variable {P : Program} {w : World} {K : PySem.W.Frag} {mg : Str → Option Value} {base : Heap}
end
def Pa.dep : Pa → Nat
  | .sg _ => 0
  | .star p => p.dep + 1
  | .cat p q => max p.dep q.dep + 1
  | .alt p q => max p.dep q.dep + 1
theorem text_len : ∀ (p : Pa) (n : Nat), p.dep ≤ n → (∀ b, (p.text b).length + 3 ≤ 4 * 2 ^ n) ∧ p.inner.length + 3 ≤ 4 * 2 ^ n
  | .sg c, n, h => by
    have : 1 ≤ 2 ^ n := Nat.one_le_two_pow
    constructor
    · intro b; simp [Pa.text]; omega
    · simp [Pa.inner]; omega
  | .star p, n, h => by
    rw [Pa.dep] at h
    obtain ⟨m, rfl⟩ : ∃ m, n = m + 1 := ⟨n - 1, by omega⟩
    have h1 := (text_len p m (by omega)).1 false
    have : 2 ^ (m + 1) = 2 * 2 ^ m := by rw [Nat.pow_succ]; omega
    constructor
    · intro b; simp [Pa.text]; omega
    · simp [Pa.inner]; omega
  | .cat p q, n, h => by
    rw [Pa.dep] at h
    obtain ⟨m, rfl⟩ : ∃ m, n = m + 1 := ⟨n - 1, by omega⟩
    have h1 := (text_len p m (by omega)).2
    have h2 := (text_len q m (by omega)).2
    have : 2 ^ (m + 1) = 2 * 2 ^ m := by rw [Nat.pow_succ]; omega
    constructor
    · intro b; cases b <;> simp [Pa.text] <;> omega
    · simp [Pa.inner]; omega
  | .alt p q, n, h => by
    rw [Pa.dep] at h
    obtain ⟨m, rfl⟩ : ∃ m, n = m + 1 := ⟨n - 1, by omega⟩
    have h1 := (text_len p m (by omega)).1 true
    have h2 := (text_len q m (by omega)).1 true
    have : 2 ^ (m + 1) = 2 * 2 ^ m := by rw [Nat.pow_succ]; omega
    constructor
    · intro b; cases b <;> simp [Pa.text] <;> omega
    · simp [Pa.inner]; omega
theorem text_small {p : Pa} {n : Nat} (h : p.dep < n) (hn : n ≤ 15) : (∀ b, (p.text b).length ≤ 200000) ∧ p.inner.length ≤ 200000 := by
  obtain ⟨a, b⟩ := text_len p 15 (by omega)
  have : 4 * 2 ^ 15 ≤ 200000 := by decide
  exact ⟨fun x => by have := a x; omega, by omega⟩
theorem inner_text (p : Pa) : p.inner = (match p with | .alt _ _ => p.text false | _ => p.text true) := by
  cases p <;> simp [Pa.inner, Pa.text]
def spText (n : Nat) : Sp := fun vs H Q _ => ∃ (p : Pa) (v : V) (b : Bool), vs = [v, .bl b] ∧ Im H [] (paD p) v ∧ p.dep < n ∧ n ≤ 15 ∧ ∀ H', Sm H H' → Q (.str (SX.S (p.text b))) H'
def spInner (n : Nat) : Sp := fun vs H Q _ => ∃ (p : Pa) (v : V), vs = [v] ∧ Im H [] (paD p) v ∧ p.dep < n ∧ n ≤ 15 ∧ ∀ H', Sm H H' → Q (.str (SX.S p.inner)) H'
def tagP : Pa → Str
  | .sg _ => Str.ofString "one"
  | .star _ => Str.ofString "star"
  | .cat _ _ => Str.ofString "chain"
  | .alt _ _ => Str.ofString "choice"
/-- part[0] == s -/
theorem t_tag {H : Hp} {Z : List Addr} {p : Pa} {v : V} {s : Str} {b : Bool} {i : Nat} {σ : St} {Q : Bool → Hp → Prop} (ip : Im H Z (paD p) v) (e0 : σ[i]? = some (some v)) (hb : decide (V.str (tagP p) = V.str s) = b) (q : Q b H) : tTest (tOp rEq (tOp rIxI (tVar i) (tC (.int 0))) (tC (.str s))) σ H Q := by
  subst hb
  refine ⟨_, e0, ?_⟩
  cases p with
  | sg c => exact ⟨Z, _, 0, _, ip, rfl, rfl, fun a ia => by obtain rfl : a = .str _ := ia; exact ⟨rfl, _, rfl, q⟩⟩
  | star p => exact ⟨Z, _, 0, _, ip, rfl, rfl, fun a ia => by obtain rfl : a = .str _ := ia; exact ⟨rfl, _, rfl, q⟩⟩
  | cat p r => exact ⟨Z, _, 0, _, ip, rfl, rfl, fun a ia => by obtain rfl : a = .str _ := ia; exact ⟨rfl, _, rfl, q⟩⟩
  | alt p r => exact ⟨Z, _, 0, _, ip, rfl, rfl, fun a ia => by obtain rfl : a = .str _ := ia; exact ⟨rfl, _, rfl, q⟩⟩
section
variable {P : Program} {w : World} {K : PySem.W.Frag} {mg : Str → Option Value} {base : Heap}
end
open Classical in
noncomputable def starB (h : Hall) (t : List Nat) : Bool := decide (Star (Good h) t)
theorem starB_iff {h : Hall} {t : List Nat} : starB h t = true ↔ Star (Good h) t := by unfold starB; simp
def spLcut : Sp := fun vs H Q _ => ∃ (h : Hall) (hv : V) (t : List Nat), vs = [hv, .str (tuneS t)] ∧ h.Ok ∧ Im H [] h.d hv ∧ Val h.w t ∧ t.length ≤ 1000 ∧ ∀ H', Sm H H' → Q (.bl (starB h t)) H'
theorem cutS_mid (t : List Nat) (i j : Nat) : cutS (tuneS t) (some (i : Int)) (some (j : Int)) = tuneS ((t.take j).drop i) := by
  have e1 : HT.sIx (tuneS t).length (tuneS t).length (some (j : Int)) = min j t.length := by
    rw [tuneS_len]; unfold HT.sIx; simp; omega
  have e0 : HT.sIx (tuneS t).length 0 (some (i : Int)) = min i t.length := by
    rw [tuneS_len]; unfold HT.sIx; simp; omega
  unfold cutS
  rw [e0, e1, tuneS_cps]
  unfold tuneS
  congr 1
  rw [← List.map_drop, ← List.map_take, List.drop_take]
  by_cases h : i ≤ t.length
  · rw [Nat.min_eq_left h]
    by_cases h2 : j ≤ t.length
    · rw [Nat.min_eq_left h2]
    · rw [Nat.min_eq_right (by omega), List.take_of_length_le (by rw [List.length_drop]; omega), List.take_of_length_le (by rw [List.length_drop]; omega)]
  · rw [Nat.min_eq_right (show t.length ≤ i by omega), List.drop_of_length_le (Nat.le_refl _), List.drop_of_length_le (show t.length ≤ i by omega)]
    simp
theorem good_dec {h : Hall} {t : List Nat} : h.good t = true ↔ Good h t := by unfold Hall.good Good; simp
section
variable {P : Program} {w : World} {K : PySem.W.Frag} {mg : Str → Option Value} {base : Heap}
end
def LT (p : Pa) (t : List Nat) : Prop := p.Lang (tuneC t)
open Classical in
noncomputable def fitB (p : Pa) (t : List Nat) : Bool := decide (LT p t)
theorem fitB_iff {p : Pa} {t : List Nat} : fitB p t = true ↔ LT p t := by unfold fitB; simp
theorem tuneC_inj {t u : List Nat} (e : tuneC t = tuneC u) : t = u := by
  have := congrArg (fun z : List Nat => z.map (· - 97)) e
  simpa [tuneC, List.map_map, Function.comp_def] using this
theorem tuneC_app {t u v : List Nat} (e : tuneC t = u ++ v) : ∃ k, k ≤ t.length ∧ u = tuneC (t.take k) ∧ v = tuneC (t.drop k) := by
  have hl := congrArg List.length e
  rw [tuneC, List.length_map, List.length_append] at hl
  refine ⟨u.length, by omega, ?_, ?_⟩
  · have := congrArg (List.take u.length) e
    rw [List.take_left'  rfl, tuneC, ← List.map_take] at this
    exact this.symm
  · have := congrArg (List.drop u.length) e
    rw [List.drop_left' rfl, tuneC, ← List.map_drop] at this
    exact this.symm
theorem tuneC_cat (t u : List Nat) : tuneC (t ++ u) = tuneC t ++ tuneC u := by unfold tuneC; rw [List.map_append]
theorem LT_cat {p q : Pa} {t : List Nat} : LT (.cat p q) t ↔ ∃ k, k ≤ t.length ∧ LT p (t.take k) ∧ LT q (t.drop k) := by
  constructor
  · rintro ⟨u, v, e, a, b⟩
    obtain ⟨k, hk, rfl, rfl⟩ := tuneC_app e
    exact ⟨k, hk, a, b⟩
  · rintro ⟨k, hk, a, b⟩
    exact ⟨_, _, by rw [← tuneC_cat, List.take_append_drop], a, b⟩
theorem LT_star {p : Pa} {t : List Nat} : LT (.star p) t ↔ Star (LT p) t := by
  constructor
  · intro s
    have : ∀ (ws : List Nat), Star p.Lang ws → ∀ t, ws = tuneC t → Star (LT p) t := by
      intro ws s
      induction s with
      | nil =>
        intro t e
        have : t = [] := tuneC_inj e.symm
        subst this
        exact Star.nil
      | @app u v su gv ih =>
        intro t e
        obtain ⟨k, hk, rfl, rfl⟩ := tuneC_app e.symm
        rw [← List.take_append_drop k t]
        exact Star.app (ih _ rfl) gv
    exact this _ s t rfl
  · intro s
    show Star p.Lang (tuneC t)
    induction s with
    | nil => exact Star.nil
    | app _ g ih => rw [tuneC_cat]; exact Star.app ih g
theorem dec_tune (t : List Nat) (c : Nat) : decide (V.str (tuneS t) = V.str ⟨#[c]⟩) = decide (tuneC t = [c]) := by
  rw [Bool.eq_iff_iff, decide_eq_true_iff, decide_eq_true_iff]
  constructor
  · intro z
    injection z with z
    have := congrArg (fun x : Str => x.cps.toList) z
    exact this
  · intro z
    congr 1
    exact str_ext z
theorem dec_empty (t : List Nat) : decide (V.str (tuneS t) = V.str (Str.ofString "")) = decide (t = []) := by
  rw [Bool.eq_iff_iff, decide_eq_true_iff, decide_eq_true_iff]
  constructor
  · intro z
    injection z with z
    have h : (tuneS t).cps.toList = (Str.ofString "").cps.toList := congrArg (fun x : Str => x.cps.toList) z
    have e0 : (Str.ofString "").cps.toList = [] := by decide +kernel
    rw [e0] at h
    have h : t.map (· + 97) = [] := h
    simpa using h
  · rintro rfl
    congr 1
noncomputable def spFits (n : Nat) : Sp := fun vs H Q _ => ∃ (p : Pa) (v : V) (t : List Nat), vs = [v, .str (tuneS t)] ∧ Im H [] (paD p) v ∧ p.dep < n ∧ t.length ≤ 1000 ∧ ∀ H', Sm H H' → Q (.bl (fitB p t)) H'
section
variable {P : Program} {w : World} {K : PySem.W.Frag} {mg : Str → Option Value} {base : Heap}
end
/-! ### the law's patterns are let by, and read as they were meant -/
def SgOk (w c : Nat) : Prop := c = 33 ∨ c = 46 ∨ (97 ≤ c ∧ c < 97 + w)
theorem Sgs.imp {S T : Nat → Prop} (h : ∀ c, S c → T c) : ∀ (p : Pa), p.Sgs S → p.Sgs T
  | .sg c, k => h c k
  | .star p, k => Sgs.imp h p k
  | .cat p q, k => ⟨Sgs.imp h p k.1, Sgs.imp h q k.2⟩
  | .alt p q, k => ⟨Sgs.imp h p k.1, Sgs.imp h q k.2⟩
theorem sgok_ne {w c : Nat} (hw : w ≤ 3) (h : SgOk w c) : c ≠ 42 ∧ c ≠ 124 ∧ c ≠ 41 ∧ c ≠ 38 ∧ c ≠ 40 := by
  unfold SgOk at h
  omega
theorem sgok_own {w c : Nat} (hw : w ≤ 3) (h : SgOk w c) : Own c := by
  obtain ⟨a, b, d, e, g⟩ := sgok_ne hw h
  refine ⟨?_, g⟩
  unfold isStart
  simp [a, b, d, e]
theorem sgok_sign {w c : Nat} (h : SgOk w c) : patSign w c = true := by
  unfold patSign
  rcases h with rfl | rfl | h
  · simp
  · simp
  · rw [decide_eq_true h, Bool.or_true]
theorem lits_ok {w c : Nat} (h : c ∈ litsL w) : SgOk w c := by
  unfold litsL at h
  rcases List.mem_append.mp h with h | h
  · obtain ⟨l, hl, hc⟩ := List.mem_flatten.mp h
    have := (List.mem_replicate.mp hl).2
    subst this
    obtain ⟨d, hd, rfl⟩ := List.mem_map.mp hc
    have := List.mem_range.mp hd
    unfold SgOk
    omega
  · simp at h
    rcases h with rfl | rfl
    · exact .inl rfl
    · exact .inr (.inl rfl)
theorem signP_ok (w : Nat) (cell : Int) : SgOk w (signP w cell) := lits_ok (List.mem_of_getElem? (sign_get w cell))
theorem partP_ok (w : Nat) : ∀ (d : Nat) (cell : Int), (partP w d cell).Sgs (SgOk w) ∧ (partP w d cell).dep ≤ d
  | 0, cell => ⟨signP_ok w cell, Nat.le_refl _⟩
  | d + 1, cell => by
    obtain ⟨a1, a2⟩ := partP_ok w d (cell * 3 + 7)
    obtain ⟨b1, b2⟩ := partP_ok w d (cell * 5 + 11)
    unfold partP
    split
    · exact ⟨signP_ok w cell, Nat.zero_le _⟩
    · split
      · exact ⟨a1, by rw [Pa.dep]; omega⟩
      · split
        · exact ⟨⟨a1, b1⟩, by rw [Pa.dep]; omega⟩
        · exact ⟨⟨a1, b1⟩, by rw [Pa.dep]; omega⟩
/-- a text goes by, whatever stands ahead of it -/
def Runs (w : Nat) (t : List Nat) : Prop := ∀ (deep : Int) (last : Nat), 0 ≤ deep → ∃ z, patRun w t deep last = some (deep, z) ∧ [40, 124].contains z = false
theorem turn_ok {w c last : Nat} {deep : Int} (h1 : patSign w c = true) (h2 : ([40, 124].contains last && [42, 124, 41].contains c) = false) (h3 : 0 ≤ deep + ind c 40 - ind c 41) : patTurn w c deep last = some (deep + ind c 40 - ind c 41, c) := by
  unfold patTurn
  rw [if_neg (by rw [h1]; decide), if_neg (by rw [h2]; decide), if_neg (by omega)]
theorem Runs.sign {w c : Nat} (hw : w ≤ 3) (h : SgOk w c) : Runs w [c] := fun deep last hd => by
  obtain ⟨a, b, d, e, g⟩ := sgok_ne hw h
  have i1 : ind c 40 = 0 := by unfold ind; simp [g]
  have i2 : ind c 41 = 0 := by unfold ind; simp [d]
  refine ⟨c, ?_, by simp [g, b]⟩
  rw [patRun, turn_ok (sgok_sign h) (by simp [a, b, d]) (by omega)]
  simp only [Option.bind_some, patRun]
  rw [i1, i2]
  congr 2
  omega
theorem Runs.app {w : Nat} {t u : List Nat} (h : Runs w t) (k : Runs w u) : Runs w (t ++ u) := fun deep last hd => by
  obtain ⟨z, e, _⟩ := h deep last hd
  obtain ⟨y, e2, h2⟩ := k deep z hd
  exact ⟨y, by rw [patRun_app, e]; exact e2, h2⟩
theorem Runs.star {w : Nat} {t : List Nat} (h : Runs w t) : Runs w (t ++ [42]) := fun deep last hd => by
  obtain ⟨z, e, hz⟩ := h deep last hd
  refine ⟨42, ?_, by decide⟩
  rw [patRun_app, e]
  simp only [Option.bind_some]
  rw [patRun, turn_ok (by unfold patSign; simp) (by rw [hz]; rfl) (by unfold ind; simp; omega)]
  simp [patRun, ind]
theorem Runs.bar {w : Nat} {t u : List Nat} (h : Runs w t) (k : Runs w u) : Runs w (t ++ 124 :: u) := fun deep last hd => by
  obtain ⟨z, e, hz⟩ := h deep last hd
  obtain ⟨y, e2, h2⟩ := k deep 124 hd
  refine ⟨y, ?_, h2⟩
  rw [patRun_app, e]
  simp only [Option.bind_some]
  rw [patRun, turn_ok (by unfold patSign; simp) (by rw [hz]; rfl) (by unfold ind; simp; omega)]
  simp only [Option.bind_some]
  have : deep + ind 124 40 - ind 124 41 = deep := by unfold ind; simp
  rw [this]
  exact e2
theorem Runs.brack {w : Nat} {t : List Nat} (h : Runs w t) : Runs w (40 :: (t ++ [41])) := fun deep last hd => by
  obtain ⟨z, e, hz⟩ := h (deep + 1) 40 (by omega)
  refine ⟨41, ?_, by decide⟩
  rw [patRun, turn_ok (by unfold patSign; simp) (by simp) (by unfold ind; simp; omega)]
  simp only [Option.bind_some]
  have : deep + ind 40 40 - ind 40 41 = deep + 1 := by unfold ind; simp
  rw [this, patRun_app, e]
  simp only [Option.bind_some]
  rw [patRun, turn_ok (by unfold patSign; simp) (by rw [hz]; rfl) (by unfold ind; simp; omega)]
  simp [patRun, ind]
theorem text_runs {w : Nat} (hw : w ≤ 3) : ∀ p : Pa, p.Sgs (SgOk w) → (∀ b, Runs w (p.text b)) ∧ Runs w p.inner
  | .sg c, h => by
    have a : Runs w [c] := Runs.sign hw h
    simp only [Pa.text, Pa.inner]
    exact ⟨fun _ => a, a⟩
  | .star p, h => by
    have a := (text_runs hw p h).1 false
    simp only [Pa.text, Pa.inner]
    exact ⟨fun _ => a.star, a.star⟩
  | .cat p q, h => by
    have k := (text_runs hw p h.1).2.app (text_runs hw q h.2).2
    simp only [Pa.inner]
    refine ⟨fun b => ?_, k⟩
    cases b <;> simp only [Pa.text, if_true, if_neg (show ¬ false = true by decide)]
    · exact k.brack
    · exact k
  | .alt p q, h => by
    have k := ((text_runs hw p h.1).1 true).bar ((text_runs hw q h.2).1 true)
    simp only [Pa.inner]
    refine ⟨fun b => ?_, k.brack⟩
    cases b <;> simp only [Pa.text, if_true, if_neg (show ¬ false = true by decide)]
    · exact k.brack
    · exact k
theorem Runs.codes {w : Nat} {t : List Nat} (h : Runs w t) : patCodes w t = true := by
  obtain ⟨z, e, hz⟩ := h 0 40 (by decide)
  unfold patCodes
  rw [e]
  dsimp only
  rw [hz]
  rfl
theorem starts_len {t : List Nat} (h : Starts t) : 1 ≤ t.length := by
  obtain ⟨c, l, rfl, _⟩ := h
  simp
theorem patOk_of {w : Nat} {t : List Nat} (h1 : 1 ≤ w) (h3 : w ≤ 3) (hl : 1 ≤ t.length) (hz : t.length ≤ 2000) (h : patCodes w t = true) : patOk (.str (SX.S t)) (nD w) = true := by
  rw [patOk_si]
  simp only [Bool.and_eq_true, decide_eq_true_eq]
  have e : (SX.S t).length = t.length := SX.S_len t
  rw [e]
  exact ⟨by omega, ⟨hl, hz⟩, h⟩
/-- a text that tells tunes is let by and read so -/
structure PatT (w : Nat) (t : List Nat) (L : List Nat → Prop) : Prop where
  ok : patOk (.str (SX.S t)) (nD w) = true
  len : t.length ≤ 2000
  ex : ∃ p, parse t = some p ∧ p.Sgs Self ∧ p.sz ≤ letC t ∧ ∀ ws, p.Lang ws ↔ L ws
theorem patT_of {w : Nat} {t : List Nat} {L : List Nat → Prop} (h1 : 1 ≤ w) (h3 : w ≤ 3) (hz : t.length ≤ 2000) (r : Runs w t) (a : AltT t L) : PatT w t L := by
  have ok := patOk_of h1 h3 (starts_len a.st) hz r.codes
  obtain ⟨p, e, hp⟩ := a.parse
  exact ⟨ok, hz, p, e, sgs_self h3 (codes_parse r.codes).2 e, parse_sz e, hp⟩
theorem text_patT {w : Nat} {p : Pa} (h1 : 1 ≤ w) (h3 : w ≤ 3) (hs : p.Sgs (SgOk w)) (hd : p.dep ≤ 8) (b : Bool) : PatT w (p.text b) p.Lang := by
  have hl := (text_len p 8 hd).1 b
  have : 4 * 2 ^ 8 = 1024 := by decide
  exact patT_of h1 h3 (by omega) ((text_runs h3 p hs).1 b) (text_alt p (Sgs.imp (fun c hc => sgok_own h3 hc) p hs) b)
/-! ### the system of a pattern -/
def abcN (l : List Nat) : List Nat := l.filter fun c => [97, 98, 99].contains c
theorem letS_abc {w c : Nat} (hw : w ≤ 3) (h : patSign w c = true) : letS c ≤ (abcN [c]).length := by
  unfold patSign at h
  unfold letS isLet abcN
  simp only [Bool.or_eq_true, decide_eq_true_eq] at h
  rcases h with h | h
  · simp at h
    rcases h with rfl | rfl | rfl | rfl | rfl | rfl <;> simp
  · have : c = 97 ∨ c = 98 ∨ c = 99 := by omega
    rcases this with rfl | rfl | rfl <;> simp
theorem letC_abc {w : Nat} (hw : w ≤ 3) : ∀ {l : List Nat}, (∀ c ∈ l, patSign w c = true) → letC l ≤ (abcN l).length
  | [], _ => Nat.le_refl _
  | c :: l, h => by
    have h1 := letS_abc hw (h c (by simp))
    have h2 := letC_abc hw (l := l) fun d hd => h d (by simp [hd])
    have e : abcN (c :: l) = abcN [c] ++ abcN l := by unfold abcN; rw [← List.filter_append]; rfl
    rw [letC_cons, e, List.length_append]
    omega
def hereK : NestedKey → Option (List Nat)
  | .none => none
  | k => some (natsK k)
theorem hereK_R (rs : List Nat) : hereK (kR rs) = some rs := by
  show some (natsK (kR rs)) = _
  rw [natsK_R]
def ptSys (p : Pa) (w : Nat) : Sys NestedKey := ⟨w, .none, fun k c => kR (stepL p.M p.X (hereK k) (c + 97)), fun k => endL p.X (hereK k)⟩
def ptU (n : Nat) : List NestedKey := .none :: (subsN n).map kR
theorem mem_ptU {n : Nat} {k : NestedKey} : k ∈ ptU n ↔ k = .none ∨ ∃ rs, rs ∈ subsN n ∧ k = kR rs := by
  unfold ptU
  simp only [List.mem_cons, List.mem_map]
  constructor
  · rintro (a | ⟨rs, a, rfl⟩)
    · exact .inl a
    · exact .inr ⟨rs, a, rfl⟩
  · rintro (a | ⟨rs, a, rfl⟩)
    · exact .inl a
    · exact .inr ⟨rs, a, rfl⟩
theorem ptU_len (n : Nat) : (ptU n).length = 2 ^ n + 1 := by unfold ptU; simp [subsN_len]
theorem asc_extN : ∀ {l m : List Nat}, Asc l → Asc m → (∀ x, x ∈ l ↔ x ∈ m) → l = m
  | [], [], _, _, _ => rfl
  | [], b :: m, _, _, h => absurd ((h b).mpr (by simp)) (by simp)
  | a :: l, [], _, _, h => absurd ((h a).mp (by simp)) (by simp)
  | a :: l, b :: m, hl, hm, h => by
    obtain ⟨la, pl⟩ := List.pairwise_cons.mp hl
    obtain ⟨mb, pm⟩ := List.pairwise_cons.mp hm
    have e : a = b := by
      rcases List.mem_cons.mp ((h a).mp (by simp)) with e | e
      · exact e
      · rcases List.mem_cons.mp ((h b).mpr (by simp)) with e' | e'
        · exact e'.symm
        · have := mb a e; have := la b e'; omega
    subst e
    congr 1
    refine asc_extN pl pm fun x => ⟨fun hx => ?_, fun hx => ?_⟩
    · rcases List.mem_cons.mp ((h x).mp (by simp [hx])) with e | e
      · have := la x hx; omega
      · exact e
    · rcases List.mem_cons.mp ((h x).mpr (by simp [hx])) with e | e
      · have := mb x hx; omega
      · exact e
theorem lst_subs {n : Nat} {l : List Nat} (h : LstOk n l) : l ∈ subsN n := by
  have e : l = setN n (fun x => decide (x ∈ l)) := asc_extN h.asc (setN_asc _ _) fun x => by
    rw [mem_setN, decide_eq_true_iff]
    exact ⟨fun z => ⟨h.lt x z, z⟩, fun z => z.2⟩
  rw [e]
  exact setN_sub _ _
theorem M_len (p : Pa) : p.M.sg.length = p.sz := by rw [M_sg, sgn_len]
theorem step_subs {p : Pa} (h : p.Sgs Self) (s : Option (List Nat)) (c : Nat) : stepL p.M p.X s c ∈ subsN p.sz := lst_subs ⟨srtU_asc _, fun j hj => by rw [← M_len]; exact step_lt h hj⟩
theorem ptSys_in {p : Pa} (h : p.Sgs Self) (w : Nat) : (ptSys p w).In (ptU p.sz) := ⟨mem_ptU.mpr (.inl rfl), fun k hk c hc => mem_ptU.mpr (.inr ⟨_, step_subs h _ _, rfl⟩)⟩
theorem ptSys_run (p : Pa) (w : Nat) : ∀ t : List Nat, hereK ((ptSys p w).run (ptSys p w).k0 t) = runL p.M p.X none (tuneC t) := by
  refine eq_snoc_ind rfl fun t c ih => ?_
  rw [Sys.run_app, tuneC_cat]
  show hereK (kR (stepL p.M p.X (hereK ((ptSys p w).run (ptSys p w).k0 t)) (c + 97))) = runL p.M p.X none (tuneC t ++ [c + 97])
  rw [hereK_R, ih, runL_snoc]
theorem ptSys_lit (p : Pa) (w : Nat) (t : List Nat) : (ptSys p w).lit ((ptSys p w).run (ptSys p w).k0 t) = true ↔ LT p t := by
  show endL p.X (hereK ((ptSys p w).run (ptSys p w).k0 t)) = true ↔ _
  rw [ptSys_run]
  exact accB_iff p (tuneC t)
theorem some_small {p : Pa} (h : p.Sgs Self) (hs : p.sz ≤ 63) (s : Option (List Nat)) (hS : ∀ S, s = some S → S.length ≤ 63) : (someL p.M p.X s).length < 4095 := by
  obtain ⟨pok, xok⟩ := M_ok p h
  have e := M_len p
  cases s with
  | none =>
    have := xok.fst.len
    show (p.X.2.1).length < 4095
    omega
  | some S =>
    have h1 := hS S rfl
    have h2 : ∀ T : List Nat, (T.flatMap fun i => p.M.nx.getD i []).length ≤ 63 * T.length := by
      intro T
      induction T with
      | nil => simp
      | cons a T ih =>
        have := (getD_row (n := p.M.sg.length) pok.row a).len
        simp only [List.flatMap_cons, List.length_append, List.length_cons]
        omega
    have h3 := h2 S
    show (S.flatMap fun i => p.M.nx.getD i []).length < 4095
    omega
def HallP (cP cB : Addr) (d dw : PyData) (H : Hp) (Q : VK) (E : XK) : Prop := (patOk d dw = false → E (.ref cP) none H) ∧ (patOk d dw = true → ∃ (l : List Nat) (wn : Nat) (p : Pa), d = .str (SX.S l) ∧ dw = nD wn ∧ parse l = some p ∧ (8 < (abcN l).length → ∀ H', Sm H H' → E (.ref cB) none H') ∧
  ((abcN l).length ≤ 8 → ∀ k : Hall, k.Ok → k.w = wn → k.n ≤ 2 ^ (abcN l).length + 1 → (∀ t, Val wn t → (k.lit (k.run 0 t) = 1 ↔ LT p t)) → ∀ v H', Sm H H' → Im H' [] (tightH k).d v → Q v H'))
def spHallOf (cP cB : Addr) : Sp := fun vs H Q E => ∃ (d dw : PyData) (x y : V), vs = [x, y] ∧ Im H [] d x ∧ Im H [] dw y ∧ sizeD d ∧ LamX.Tabs Tb.T H ∧ HallP cP cB d dw H Q E
theorem stand_lamO {F : Fz} {f c px C dx : Addr} {o : Obj} {q : Str} {fs : List (Str × V)} {D : List (PyData × V)} {H : Hp} (hf : H f = some (frzO o)) (hc : H c = some (LamX.CodeO c q)) (hx : H px = some (.ins C dx fs)) (hD : ∀ p ∈ D, Im H [] p.1 p.2) (fr : Free F H) : Stand ((f, o) :: F) [(c, CN.code q), (px, CN.obj C dx fs)] D (icy F H) := by
  have s0 := stand_lam hf hc hD fr
  refine ⟨s0.held, fun p hp => ?_, s0.im⟩
  rcases List.mem_cons.mp hp with rfl | hp
  · exact icy_keep fr hc
  · rw [List.mem_singleton] at hp
    subst hp
    exact icy_keep fr hx
section
variable {P : Program} {w : World} {K : PySem.W.Frag} {mg : Str → Option Value} {base : Heap}
theorem sc_hall_of : FnScope ["pattern", "whistles", "sign", "places"] ["pattern", "whistles"] (defScope s_hall_of) := ⟨rfl, rfl, rfl, by decide +kernel, rfl, by decide +kernel, by decide +kernel⟩
theorem ok_hall_of {f cP cB C c Pt : Addr} {fd : FuncData} (F : Fun K "hall_of" "hall_of" s_hall_of f fd) (TB : LamX.TabB base mg c Pt) (hc : fd.code = .ref c) (hT : (Pt, ("hall_of.<locals>.<lambda>" : Str)) ∈ Tb.T) (hU : ∀ p ∈ Tb.T, p.1 = Pt → p.2 = "hall_of.<locals>.<lambda>") (g_len : mg "len" = none) (g_MOST_LETTERS : ∃ t, mg "MOST_LETTERS" = some (.int 8 t)) (X_TooBig : XCls K mg "TooBig" cB)
    (C_look_pattern : Cal P w K mg base (L2.CX P w) 2 "look_pattern" ["pattern", "whistles"] (spLookPat cP)) (K_Places : Mkr P w K mg base 4 "Places" C ["self", "pattern"] (spInit C)) (M_step : Mth P w K mg base 2 C "step" ["self", "here", "sign"] (spStepM C)) (M_is_end : Mth P w K mg base 2 C "is_end" ["self", "here"] (spEndM C))
    (C_built : Cal P w K mg base CX0 10 "built" ["whistles", "start", "step", "is_bright"] (spBuilt P w K mg base)) : FnOk P w K mg base (L2.CX P w) 11 f fd ["pattern", "whistles"] (spHallOf cP cB) := by
  refine ok_cX F sc_hall_of (fun vs H Q E h => ?_) (fun A outer s H vs Q E hr h => ?_)
  · obtain ⟨_, _, _, _, rfl, _⟩ := h
    rfl
  · obtain ⟨d, dw, x, y, rfl, ix, iy, hz, hTabs, q1, q2⟩ := h
    obtain ⟨tM, g_MOST_LETTERS⟩ := g_MOST_LETTERS
    refine ⟨_, (pss_cons (ps_expr (pe_fx C_look_pattern hr (by decide) rfl (takes_of rfl rfl rfl rfl) (pa_cons (pv 0) (pa_cons (pv 1) pa_nil))))
      (pss_cons (ps_if (pt_cmpR oN_gt (pe_callB (lenS (K := K) rfl) (by rfl) g_len PySem.boot_len (pa_cons (pe_lc (own := [("sign", 2)]) (g := (gName 2)) rfl sc_hall_of.nd (pi_str (pv 0)) (blkOk_by (by kernel_rfl)) (fun _ _ _ _ _ => (pg_name (i := 2) sc_hall_of.nd rfl (by first | exact Or.inl rfl | exact Or.inr rfl))) (fun _ _ _ _ _ => (pts_one (pt_cmpR op_in_sign (pv 2) pe_str rfl))) (fun _ _ _ _ _ => (pv 2))) pa_nil)) (pe_glob (v := .int 8) rfl g_MOST_LETTERS ⟨_, rfl⟩) (nomark _))
        (pss_one (ps_raise rfl (takes_of rfl rfl rfl rfl) (X_TooBig.mk1 rfl)))
        pss_nil)
      (pss_cons (ps_set (i := 3) sc_hall_of.nd rfl (Or.inr rfl) (pe_mkr K_Places hr (by decide) rfl (pa_cons (pv 0) pa_nil)))
      (pss_one (ps_ret (pe_fnF [("places", 3)] C_built hr (by decide) rfl (pa_cons (pv 1) (pa_cons pe_non (pa_cons (pe_lam TB hc (by rfl) hT hU rfl (lamFree_by (by kernel_rfl))) (pa_cons (pe_lam TB hc (by rfl) hT hU rfl (lamFree_by (by kernel_rfl))) pa_nil)))) (by kernel_rfl) (fun _ _ => rfl))))))), ?_⟩
    refine ⟨_, rfl, _, rfl, [], [], d, dw, x, y, rfl, ix, iy, hz, fun ok => ?_, q1⟩
    obtain ⟨l, wn, p, rfl, rfl, hp, qB, qH⟩ := q2 ok
    obtain ⟨hw, hl, hcod⟩ := patOk_inv ok
    obtain ⟨_, hsn⟩ := codes_parse hcod
    have h38 : ∀ c ∈ l, c ≠ 38 := fun c hc => sign_ne hw.2 (hsn c hc)
    have hsg := sgs_self hw.2 hsn hp
    have hsz : p.sz ≤ (abcN l).length := Nat.le_trans (parse_sz hp) (letC_abc hw.2 hsn)
    obtain rfl : x = .str (SX.S l) := ix
    obtain rfl : y = nV wn := iy
    have w0 : Wd H H [] [] := Wd.start (by simp)
    have ln : (SX.S l).cps.size = l.length := SX.S_len l
    have habc : ∀ c, decide (c ∈ (Str.ofString "abc").cps.toList) = [97, 98, 99].contains c := fun c => mem_lit c _ [97, 98, 99] (by decide +kernel)
    refine ⟨_, rfl, _, rfl, fun D hD => lc_strD (z := SX.S l) (fun j => (abcN (l.take j)).map sgD) w0 hD rfl (fun j hj => ?_) (fun j c H1 hc w1 => ?_) (fun H1 w1 => ?_)⟩
    · have := List.length_filter_le (fun c => [97, 98, 99].contains c) (l.take j)
      rw [List.length_take] at this
      rw [List.length_map]
      exact sl_small (by unfold abcN; omega)
    · intro Qt Qf k1 k2
      have hcl : l[j]? = some c := by
        have : (SX.S l).cps.toList[j]? = some c := by rw [Array.getElem?_toList]; exact hc
        exact this
      refine ⟨_, rfl, c, _, rfl, rfl, _, rfl, ?_⟩
      rw [habc]
      refine ite2 (fun z => ?_) (fun z => ?_)
      · refine ⟨_, rfl, k1 _ _ (sgD c) w1 rfl ?_⟩
        dsimp only
        unfold abcN
        rw [List.take_add_one, hcl, List.filter_append, List.map_append]
        simp only [Option.toList, List.filter_cons, z, if_true, List.filter_nil]
        rfl
      · refine k2 _ w1 ?_
        dsimp only
        unfold abcN
        rw [List.take_add_one, hcl, List.filter_append, List.map_append]
        simp only [Option.toList, List.filter_cons, z, List.filter_nil]
        simp
    · rw [ln, List.take_length] at w1
      obtain ⟨xs, ex, ixs⟩ := w1.list 0
      refine ⟨D, _, rfl, .inl (SqL.of ex), _, 8, rfl, rfl, _, rfl, ?_⟩
      rw [ixs.length, List.length_map]
      refine ite2 (fun z => ?_) (fun z => ?_)
      · exact qB (of_decide_eq_true z) _ w1.same
      have hn8 : (abcN l).length ≤ 8 := by
        have : ¬ 8 < (abcN l).length := fun y => z (decide_eq_true y)
        omega
      have s1 := w1.same
      refine ⟨_, rfl, fun px dx0 hpx hdx nd => make_pl hpx hdx nd hl.2 hp h38 fun H2 s2 pl2 => ⟨rfl, ?_⟩⟩
      have s02 := s1.trans s2
      obtain ⟨dx, sgA, nxA, wv, hx, isg, inx, iw⟩ := id pl2
      refine ⟨_, rfl, s02.tabs hTabs, fun f1 c1 pm1 ct1 H3 a1 n1 hf1 hc1 => ⟨(s02.trans a1).tabs hTabs, fun f2 c2 pm2 ct2 H4 a2 n2 hf2 hc2 F cf fr => ?_⟩⟩
      replace hf1 := a2.keep f1 _ hf1 rfl
      replace hc1 := a2.keep c1 _ hc1 rfl
      have a3 := a1.trans a2
      have hx4 := a3.keep _ _ hx rfl
      have isg4 := isg.sm a3
      have inx4 := inx.sm a3
      have iw4 := iw.sm a3
      have plx : ∀ {G : Fz} {c : Addr} {H : Hp}, Stand G [(c, "hall_of.<locals>.<lambda>"), (px, CN.obj C dx (fs3 sgA nxA wv))] [(.list (p.M.sg.map sgD), .ref sgA), (.list (p.M.nx.map rowD), .ref nxA), (partD p.X, wv)] H → Held F H → PlAt C p px (thaw F H) := fun {G c H} st hd =>
        ⟨dx, sgA, nxA, wv, thaw_keep hd (st.code (px, CN.obj C dx (fs3 sgA nxA wv)) (by simp)) rfl, (st.im (.list (p.M.sg.map sgD), .ref sgA) (by simp)).warm hd, (st.im (.list (p.M.nx.map rowD), .ref nxA) (by simp)).warm hd, (st.im (partD p.X, wv) (by simp)).warm hd⟩
      have hso : ∀ {k : NestedKey}, k ∈ ptU p.sz → HereOk p (hereK k) ∧ (someL p.M p.X (hereK k)).length < 4095 ∧ (∀ S, hereK k = some S → S.length ≤ 10000) ∧ kD k = hereD (hereK k) := fun {k} hk => by
        rcases mem_ptU.mp hk with rfl | ⟨rs, hrs, rfl⟩
        · exact ⟨trivial, some_small hsg (by omega) _ (fun S e => by cases e), fun S e => (by cases e), rfl⟩
        · have hl2 := subsN_len_le hrs
          rw [hereK_R]
          refine ⟨fun i hi => ?_, some_small hsg (by omega) _ (fun S e => by cases e; omega), fun S e => (by cases e; omega), kD_R rs⟩
          rw [(M_ok p hsg).1.len, M_len]
          exact subsN_lt hrs i hi
      have C1 : CloOk P w K mg base kC f1 _ [(c1, "hall_of.<locals>.<lambda>"), (px, CN.obj C dx (fs3 sgA nxA wv))] [(.list (p.M.sg.map sgD), .ref sgA), (.list (p.M.nx.map rowD), .ref nxA), (partD p.X, wv)] (spStep (ptSys p wn) (ptU p.sz)) := (clo_lam (k := 4) (N := ["here", "whistle", "places"]) (ps := ["here", "whistle"]) (caps := [("places", .ref px)]) (NdefX.nscope_by (by kernel_rfl)) cf lk_self (lk_rest hf1 fr) (by simp) (fun us hl => match us, hl with | [_, _], _ => rfl) (fun vs H Q E z => by obtain ⟨_, _, _, rfl, _⟩ := z; rfl)
        (fun A outer s H vs Q hr st hd z => ⟨_, (pe_mth M_step hr (by decide) (pv 2) (pa_cons (pv 0) (pa_cons (pe_ix ix_abc pe_str (pv 1) (fun _ _ => rfl)) pa_nil))), by
          obtain ⟨k, x, c, rfl, ix, hk, hc, q⟩ := z
          have hc : c < wn := hc
          have pl := plx st hd
          obtain ⟨h1, h2, h3, h4⟩ := hso hk
          obtain ⟨dx2, sg2, nx2, wv2, hx2, _⟩ := id pl
          rw [h4] at ix
          refine ⟨_, rfl, px, dx2, _, rfl, hx2, ft_step _ _ _, _, rfl, _, rfl, c, rfl, rfl, by have := hw.2; omega, px, p, hereK k, x, c + 97, rfl, pl, hsg, ix.warm hd, h1, h2, fun v2 H2 s2 i2 fr' => ?_⟩
          refine q _ _ (Sm.cold hd fr' s2) (Im.cold fr' ?_)
          show Im _ [] (kD (kR (stepL p.M p.X (hereK k) (c + 97)))) _
          rw [kD_R]
          exact i2⟩)).mono (by decide)
      have C2 : CloOk P w K mg base kC f2 _ [(c2, "hall_of.<locals>.<lambda>"), (px, CN.obj C dx (fs3 sgA nxA wv))] [(.list (p.M.sg.map sgD), .ref sgA), (.list (p.M.nx.map rowD), .ref nxA), (partD p.X, wv)] (spLit (ptSys p wn) (ptU p.sz)) := (clo_lam (k := 3) (N := ["here", "places"]) (ps := ["here"]) (caps := [("places", .ref px)]) (NdefX.nscope_by (by kernel_rfl)) cf lk_self (lk_rest hf2 fr) (by simp) (fun us hl => match us, hl with | [_], _ => rfl) (fun vs H Q E z => by obtain ⟨_, _, rfl, _⟩ := z; rfl)
        (fun A outer s H vs Q hr st hd z => ⟨_, (pe_mth M_is_end hr (by decide) (pv 1) (pa_cons (pv 0) pa_nil)), by
          obtain ⟨k, x, rfl, ix, hk, q⟩ := z
          have pl := plx st hd
          obtain ⟨h1, h2, h3, h4⟩ := hso hk
          obtain ⟨dx2, sg2, nx2, wv2, hx2, _⟩ := id pl
          rw [h4] at ix
          exact ⟨_, rfl, px, dx2, _, rfl, hx2, ft_is_end _ _ _, _, rfl, px, p, hereK k, x, rfl, pl, ix.warm hd, h3, fun H2 s2 fr' => q _ (Sm.cold hd fr' s2)⟩⟩)).mono (by decide)
      refine ⟨ptSys p wn, ptU p.sz, .non, f1, f2, rfl, ?_, ⟨hw.1, hw.2, ptSys_in hsg wn, fun k hk => ?_, rfl, ⟨_, _, _, C1, stand_lamO hf1 hc1 hx4 (by simpa using ⟨isg4, inx4, iw4⟩) fr⟩, ⟨_, _, _, C2, stand_lamO hf2 hc2 hx4 (by simpa using ⟨isg4, inx4, iw4⟩) fr⟩⟩, fun k ok lk kn v H5 s5 i5 hd => ?_⟩
      · rw [ptU_len]
        have h1 : 2 ^ p.sz ≤ 2 ^ 8 := Nat.pow_le_pow_right (by decide) (by omega)
        omega
      · rcases mem_ptU.mp hk with rfl | ⟨rs, hrs, rfl⟩
        · exact ⟨by decide, fun x e => nomatch e⟩
        · exact kok_R rs
      · rw [ptU_len] at kn
        have hpw : 2 ^ p.sz ≤ 2 ^ (abcN l).length := Nat.pow_le_pow_right (by decide) hsz
        refine qH hn8 k ok lk.1 (by omega) (fun t ht => ?_) v _ ((s02.trans a3).trans (Sm.warm fr s5)) (i5.warm hd)
        rw [lk.2 t ht, ← ptSys_lit p wn t]
        cases (ptSys p wn).lit _ <;> simp
end
/-! ### pairs of rooms -/
def kP (a b : Nat) : NestedKey := .tup [.num a, .num b]
def fstK : NestedKey → Nat
  | .tup [.num a, _] => a.toNat
  | _ => 0
def sndK : NestedKey → Nat
  | .tup [_, .num b] => b.toNat
  | _ => 0
theorem fst_P (a b : Nat) : fstK (kP a b) = a := by simp [fstK, kP]
theorem snd_P (a b : Nat) : sndK (kP a b) = b := by simp [sndK, kP]
theorem kok_P (a b : Nat) : KOk (kP a b) := ⟨by simp [kP, NestedKey.depth, NestedKey.depthAll], fun x e => nomatch e⟩
theorem kD_P (a b : Nat) : kD (kP a b) = .tuple [nD a, nD b] := rfl
def pairSys (h g : Hall) (lit : Nat → Nat → Bool) : Sys NestedKey := ⟨h.w, kP 0 0, fun k c => kP (h.go (fstK k) c) (g.go (sndK k) c), fun k => lit (fstK k) (sndK k)⟩
def pairsU (h g : Hall) : List NestedKey := (List.range h.n).flatMap fun a => (List.range g.n).map fun b => kP a b
theorem mem_pairsU {h g : Hall} {k : NestedKey} : k ∈ pairsU h g ↔ ∃ a b, a < h.n ∧ b < g.n ∧ k = kP a b := by
  unfold pairsU
  rw [List.mem_flatMap]
  constructor
  · rintro ⟨a, ha, hb⟩
    obtain ⟨b, hb', rfl⟩ := List.mem_map.mp hb
    exact ⟨a, b, List.mem_range.mp ha, List.mem_range.mp hb', rfl⟩
  · rintro ⟨a, b, ha, hb, rfl⟩
    exact ⟨a, List.mem_range.mpr ha, List.mem_map.mpr ⟨b, List.mem_range.mpr hb, rfl⟩⟩
theorem pairsU_len (h g : Hall) : (pairsU h g).length = h.n * g.n := by
  unfold pairsU
  have : ∀ (n : Nat), ((List.range n).flatMap fun a => (List.range g.n).map fun b => kP a b).length = n * g.n := by
    intro n
    induction n with
    | zero => simp
    | succ n ih => rw [List.range_succ, List.flatMap_append, List.length_append, ih]; simp [Nat.succ_mul]
  exact this h.n
theorem pairSys_in {h g : Hall} {lit : Nat → Nat → Bool} (o : h.Ok) (o' : g.Ok) (hw : h.w = g.w) : (pairSys h g lit).In (pairsU h g) := by
  refine ⟨mem_pairsU.mpr ⟨0, 0, o.n1, o'.n1, rfl⟩, fun k hk c hc => ?_⟩
  obtain ⟨a, b, ha, hb, rfl⟩ := mem_pairsU.mp hk
  have hc : c < h.w := hc
  refine mem_pairsU.mpr ⟨h.go a c, g.go b c, o.go_lt ha hc, o'.go_lt hb (by rw [← hw]; exact hc), ?_⟩
  show kP (h.go (fstK (kP a b)) c) (g.go (sndK (kP a b)) c) = _
  rw [fst_P, snd_P]
theorem pairSys_run {h g : Hall} {lit : Nat → Nat → Bool} : ∀ (t : List Nat) (a b : Nat), (pairSys h g lit).run (kP a b) t = kP (h.run a t) (g.run b t)
  | [], a, b => rfl
  | c :: t, a, b => by
    show (pairSys h g lit).run (kP (h.go (fstK (kP a b)) c) (g.go (sndK (kP a b)) c)) t = _
    rw [fst_P, snd_P]; exact pairSys_run t _ _
theorem pairSys_lit {h g : Hall} {lit : Nat → Nat → Bool} (t : List Nat) : (pairSys h g lit).lit ((pairSys h g lit).run (pairSys h g lit).k0 t) = lit (h.run 0 t) (g.run 0 t) := by
  rw [show (pairSys h g lit).k0 = kP 0 0 from rfl, pairSys_run]
  show lit (fstK _) (sndK _) = _
  rw [fst_P, snd_P]
/-- a choice of two truths -/
def spChoose (op : Bool → Bool → Bool) : Sp := fun vs H Q _ => ∃ a b : Bool, vs = [.bl a, .bl b] ∧ ∀ H', Sm H H' → Q (.bl (op a b)) H'
def spLookAlike (cU : Addr) : Sp := fun vs H Q E => ∃ (h g : Hall) (hv gv : V), vs = [hv, gv] ∧ Im H [] h.d hv ∧ Im H [] g.d gv ∧ (h.w = g.w → Q .non H) ∧ (h.w ≠ g.w → E (.ref cU) none H)
/-- what the functions of sets promise -/
def SetP (op : Bool → Bool → Bool) (cU cB : Addr) (h g : Hall) (H : Hp) (Q : VK) (E : XK) : Prop :=
  (h.w ≠ g.w → ∀ H', Sm H H' → E (.ref cU) none H') ∧ (h.w = g.w → 600 < h.n * g.n → ∀ H', Sm H H' → E (.ref cB) none H') ∧
  (h.w = g.w → h.n * g.n ≤ 600 → ∀ k : Hall, k.Ok → k.w = h.w → k.n ≤ h.n * g.n → (∀ t, Val h.w t → k.lit (k.run 0 t) = (op (h.good t) (g.good t)).toNat) → ∀ v H', Sm H H' → Im H' [] (tightH k).d v → Q v H')
def spJoined (P : Program) (w : World) (K : PySem.W.Frag) (mg : Str → Option Value) (base : Heap) (cU cB : Addr) : Sp := fun vs H Q E => ∃ (op : Bool → Bool → Bool) (h g : Hall) (hv gv : V) (fc : Addr) (G : Fz) (cs : List (Addr × CN)) (D : List (PyData × V)),
  vs = [hv, gv, .ref fc] ∧ h.Ok ∧ g.Ok ∧ Im H [] h.d hv ∧ Im H [] g.d gv ∧ LamX.Tabs Tb.T H ∧ CloOk P w K mg base 1 fc G cs D (spChoose op) ∧ Stand G cs D H ∧ SetP op cU cB h g H Q E
def spSet (op : Bool → Bool → Bool) (cU cB : Addr) : Sp := fun vs H Q E => ∃ (h g : Hall) (hv gv : V), vs = [hv, gv] ∧ h.Ok ∧ g.Ok ∧ Im H [] h.d hv ∧ Im H [] g.d gv ∧ LamX.Tabs Tb.T H ∧ SetP op cU cB h g H Q E
theorem lk_left {F G : Fz} {b : Addr} {o : Obj} (e : F.lookup b = some o) : (F ++ G).lookup b = some o := by rw [List.lookup_append, e]; rfl
theorem SetP.sm {op : Bool → Bool → Bool} {cU cB : Addr} {h g : Hall} {H H' : Hp} {Q : VK} {E : XK} (p : SetP op cU cB h g H Q E) (s : Sm H H') : SetP op cU cB h g H' Q E :=
  ⟨fun a H2 s2 => p.1 a H2 (s.trans s2), fun a b H2 s2 => p.2.1 a b H2 (s.trans s2), fun a b k ok kw kn kl v H2 s2 => p.2.2 a b k ok kw kn kl v H2 (s.trans s2)⟩
theorem lk_one {f : Addr} {o : Obj} {H : Hp} (hf : H f = some (frzO o)) : [(f, o)].lookup f = some o := lk_self
theorem stand_one {f c : Addr} {o : Obj} {q : Str} {H : Hp} (hf : H f = some (frzO o)) (hc : H c = some (LamX.CodeO c q)) : Stand [(f, o)] [(c, CN.code q)] [] H := by
  refine ⟨fun b u e => ?_, fun p hp => ?_, fun p hp => by simp at hp⟩
  · rw [List.lookup_cons] at e
    by_cases z : b = f
    · subst z
      simp at e; subst e
      exact hf
    · rw [beq_false_of_ne z] at e
      cases e
  · have : p = (c, CN.code q) := by simpa using hp
    subst this
    exact hc
/-- the other tunes -/
def otherH (h : Hall) : Hall := ⟨h.w, h.rooms, h.lights.map fun l => 1 - l⟩
theorem otherH_ok {h : Hall} (o : h.Ok) : (otherH h).Ok := by
  refine ⟨o.w1, o.w3, o.n1, o.n600, o.row, o.goal, by show (h.lights.map _).length = h.n; rw [List.length_map]; exact o.len, fun l hl => ?_⟩
  obtain ⟨x, _, rfl⟩ := List.mem_map.mp hl
  omega
theorem otherH_run {h : Hall} : ∀ (u : List Nat) (r : Nat), (otherH h).run r u = h.run r u
  | [], r => rfl
  | c :: u, r => otherH_run u _
theorem otherH_lit {h : Hall} (o : h.Ok) {u : List Nat} (hu : Val h.w u) : (otherH h).lit ((otherH h).run 0 u) = (!h.good u).toNat := by
  rw [otherH_run]
  have hr := o.run_lt o.n1 hu
  have hl := o.lit_le hr
  show (h.lights.map fun l => 1 - l).getD (h.run 0 u) 0 = _
  rw [List.getD_eq_getElem?_getD, List.getElem?_map, getD_get (d := 0) (by rw [o.len]; exact hr)]
  show 1 - h.lit (h.run 0 u) = (!decide (h.lit (h.run 0 u) = 1)).toNat
  by_cases e : h.lit (h.run 0 u) = 1
  · rw [e]; rfl
  · have : h.lit (h.run 0 u) = 0 := by omega
    rw [this]; rfl
def spOther : Sp := fun vs H Q _ => ∃ (h : Hall) (hv : V), vs = [hv] ∧ h.Ok ∧ Im H [] h.d hv ∧ ∀ v H', Sm H H' → Im H' [] (tightH (otherH h)).d v → Q v H'
section
variable {h g : Hall} {Z Z' : List Addr} {H : Hp} {x y : V} {σ : St} {Q : VK}
/-- one[2][pair[c]] -/
theorem t_plit {i j c r s a : Nat} (o : h.Ok) (hI : Im H Z h.d x) (hp : Im H Z' (.tuple [nD r, nD s]) y) (hk : ([nD r, nD s] : List PyData)[c]? = some (nD a)) (hr : a < h.n) (q : Q (nV (h.lit a)) H) (e0 : σ[i]? = some (some x) := by rfl) (e1 : σ[j]? = some (some y) := by rfl) :
    tOp rIxI (tOp rIxI (tVar i) (tC (.int 2))) (tOp rIxI (tVar j) (tC (.int (c : Int)))) σ H Q := by
  refine ⟨x, e0, Z, _, 2, _, hI, rfl, rfl, fun v1 h1 => ⟨y, e1, Z', _, c, _, hp, rfl, atI_nat hk, fun v2 h2 => ?_⟩⟩
  cases h2
  exact ⟨Z, _, _, _, h1, rfl, at_lit o hr, fun v3 h3 => by cases h3; exact q⟩
/-- one[1][pair[c]][whistle] -/
theorem t_pgo {i j k c r s a d : Nat} (o : h.Ok) (hI : Im H Z h.d x) (hp : Im H Z' (.tuple [nD r, nD s]) y) (hk : ([nD r, nD s] : List PyData)[c]? = some (nD a)) (hr : a < h.n) (hd : d < h.w) (q : Q (nV (h.go a d)) H) (e0 : σ[i]? = some (some x) := by rfl) (e1 : σ[j]? = some (some y) := by rfl) (e2 : σ[k]? = some (some (nV d)) := by rfl) :
    tOp rIxI (tOp rIxI (tOp rIxI (tVar i) (tC (.int 1))) (tOp rIxI (tVar j) (tC (.int (c : Int))))) (tVar k) σ H Q := by
  refine ⟨x, e0, Z, _, 1, _, hI, rfl, rfl, fun v1 h1 => ⟨y, e1, Z', _, c, _, hp, rfl, atI_nat hk, fun v2 h2 => ?_⟩⟩
  cases h2
  exact ⟨Z, _, _, _, h1, rfl, at_rooms hr, fun v3 h3 => ⟨_, e2, Z, _, _, _, h3, rfl, at_room o hr hd, fun v4 h4 => by cases h4; exact q⟩⟩
end
section
variable {P : Program} {w : World} {K : PySem.W.Frag} {mg : Str → Option Value} {base : Heap}
end
def bD (bs : List Bool) : List PyData := bs.map PyData.bool
theorem bD_eqv (a b : List Bool) : PyData.eqv (.list (bD a)) (.list (bD b)) = decide (a = b) := by
  show PyData.eqvAll (a.map PyData.bool) (b.map PyData.bool) = _
  induction a generalizing b with
  | nil => cases b <;> rfl
  | cons x a ih =>
    cases b with
    | nil => rfl
    | cons y b =>
      show ((x == y) && PyData.eqvAll (a.map PyData.bool) (b.map PyData.bool)) = _
      rw [ih b]
      cases x <;> cases y <;> simp
theorem bD_shaped (a : List Bool) : SeqAt.shaped (.list (bD a)) = true := by
  unfold SeqAt.shaped
  rw [Bool.and_eq_true]
  have h1 : PyData.canLayAll0 (bD a) = true := by
    induction a with
    | nil => rfl
    | cons x a ih => show (true && PyData.canLayAll0 (bD a)) = true; rw [ih]; rfl
  have h2 : PyData.depthAll (bD a) = 0 := by
    induction a with
    | nil => rfl
    | cons x a ih => show max 0 (PyData.depthAll (bD a)) = 0; rw [ih (by rw [show PyData.canLayAll0 (bD (x :: a)) = (true && PyData.canLayAll0 (bD a)) from rfl] at h1; simpa using h1)]; rfl
  exact ⟨h1, decide_eq_true (by show PyData.depthAll (bD a) + 1 ≤ 64; omega)⟩
theorem bD_im {H : Hp} {Z : List Addr} : ∀ bs : List Bool, ImAll H Z (bD bs) (bs.map V.bl)
  | [] => rfl
  | b :: bs => ⟨_, _, rfl, rfl, bD_im bs⟩
theorem noL_bD (bs : List Bool) : (Cell.L l (bD bs)).flat = true := noLs_bools bs
/-- the hall k has the tunes that a choice of two tells -/
structure OpH (op : Bool → Bool → Bool) (h g k : Hall) : Prop where
  ok : k.Ok
  w : k.w = h.w
  n : k.n ≤ h.n * g.n
  lang : ∀ t, Val h.w t → k.lit (k.run 0 t) = (op (h.good t) (g.good t)).toNat
theorem OpH.good {op : Bool → Bool → Bool} {h g k : Hall} (x : OpH op h g k) {t : List Nat} (ht : Val h.w t) : (tightH k).good t = op (h.good t) (g.good t) := by
  have e : (tightH k).good t = decide ((op (h.good t) (g.good t)).toNat = 1) := by
    rw [← x.lang t ht, ← tight_run x.ok (by rw [x.w]; exact ht)]; rfl
  rw [e]
  cases op (h.good t) (g.good t) <;> rfl
theorem SetP.no {op : Bool → Bool → Bool} {cU cB : Addr} {h g : Hall} {H : Hp} {Q : VK} {E : XK} (hw : h.w = g.w) (hn : h.n * g.n ≤ 600) (q : ∀ k, OpH op h g k → ∀ v H', Sm H H' → Im H' [] (tightH k).d v → Q v H') : SetP op cU cB h g H Q E :=
  ⟨fun z => absurd hw z, fun _ z => by omega, fun _ _ k ok kw kn kl => q k ⟨ok, kw, kn, kl⟩⟩
/-- a tight hall and its tunes -/
structure TL (h : Hall) (w : Nat) (f : List Nat → Bool) : Prop where
  ok : h.Ok
  tight : tightH h = h
  hw : h.w = w
  lang : ∀ t, Val w t → h.good t = f t
theorem lit_good {h : Hall} (o : h.Ok) {t : List Nat} (ht : Val h.w t) : h.lit (h.run 0 t) = (h.good t).toNat := (lit_bit o (o.run_lt o.n1 ht)).symm
theorem TL.eq {h g : Hall} {w : Nat} {f f' : List Nat → Bool} (a : TL h w f) (b : TL g w f') (e : ∀ t, Val w t → f t = f' t) : h = g := by
  rw [← a.tight, ← b.tight]
  refine tight_one a.ok b.ok (a.hw.trans b.hw.symm) fun t ht => ?_
  have ht : Val w t := by rw [← a.hw]; exact ht
  rw [lit_good a.ok (by rw [a.hw]; exact ht), lit_good b.ok (by rw [b.hw]; exact ht), a.lang t ht, b.lang t ht, e t ht]
theorem TL.of {k : Hall} {w : Nat} {f : List Nat → Bool} (o : k.Ok) (hw : k.w = w) (l : ∀ t, Val w t → k.lit (k.run 0 t) = (f t).toNat) : TL (tightH k) w f := by
  refine ⟨tightH_ok o, tight_idem o, hw, fun t ht => ?_⟩
  have e : (tightH k).good t = decide ((f t).toNat = 1) := by
    rw [← l t ht, ← tight_run o (by rw [hw]; exact ht)]; rfl
  rw [e]
  cases f t <;> rfl
theorem set_call {op : Bool → Bool → Bool} {cU cB : Addr} {h g : Hall} {w : Nat} {f f' : List Nat → Bool} {hv gv : V} {H : Hp} {Q : VK} {m m' : Nat} (a : TL h w f) (b : TL g w f') (ha : h.n ≤ m) (hb : g.n ≤ m') (hn : m * m' ≤ 600) (ih : Im H [] h.d hv) (ig : Im H [] g.d gv) (tb : LamX.Tabs Tb.T H)
    (q : ∀ y v H', TL y w (fun t => op (f t) (f' t)) → y.n ≤ m * m' → Sm H H' → Im H' [] y.d v → Q v H') : spSet op cU cB [hv, gv] H Q E0 := by
  have hmm := Nat.mul_le_mul ha hb
  refine ⟨h, g, hv, gv, rfl, a.ok, b.ok, ih, ig, tb, SetP.no (a.hw.trans b.hw.symm) (by omega) fun k x v H' s i => ?_⟩
  refine q (tightH k) v H' (TL.of x.ok (x.w.trans a.hw) fun t ht => ?_) (Nat.le_trans (tightH_n x.ok) (Nat.le_trans x.n hmm)) s i
  rw [x.lang t (by rw [a.hw]; exact ht), a.lang t ht, b.lang t ht]
theorem other_call {h : Hall} {w : Nat} {f : List Nat → Bool} {hv : V} {H : Hp} {Q : VK} {m : Nat} (a : TL h w f) (ha : h.n ≤ m) (ih : Im H [] h.d hv)
    (q : ∀ y v H', TL y w (fun t => !f t) → y.n ≤ m → Sm H H' → Im H' [] y.d v → Q v H') : spOther [hv] H Q E0 := by
  refine ⟨h, hv, rfl, a.ok, ih, fun v H' s i => ?_⟩
  refine q _ v H' (TL.of (otherH_ok a.ok) a.hw fun t ht => ?_) (Nat.le_trans (tightH_n (otherH_ok a.ok)) ha) s i
  rw [otherH_lit a.ok (by rw [a.hw]; exact ht), a.lang t ht]
/-! ### halls of patterns, put together -/
theorem abcN_app (l m : List Nat) : abcN (l ++ m) = abcN l ++ abcN m := by unfold abcN; rw [List.filter_append]
theorem abcN_cons (c : Nat) (l : List Nat) : (abcN (c :: l)).length ≤ 1 + (abcN l).length := by
  unfold abcN
  rw [List.filter_cons]
  split <;> simp <;> omega
theorem abcN_skip {c : Nat} (h : [97, 98, 99].contains c = false) (l : List Nat) : abcN (c :: l) = abcN l := by
  unfold abcN
  rw [List.filter_cons, h]
  simp
theorem abc_text : ∀ (p : Pa) (n : Nat), p.dep ≤ n → (∀ b, (abcN (p.text b)).length ≤ 2 ^ n) ∧ (abcN p.inner).length ≤ 2 ^ n
  | .sg c, n, h => by
    have h0 : 1 ≤ 2 ^ n := Nat.one_le_two_pow
    have h1 := abcN_cons c []
    have h2 : (abcN []).length = 0 := rfl
    constructor
    · intro b; simp only [Pa.text]; omega
    · simp only [Pa.inner]; omega
  | .star p, n, h => by
    rw [Pa.dep] at h
    have h1 := (abc_text p n (by omega)).1 false
    have e : abcN [42] = [] := rfl
    constructor
    · intro b; simp only [Pa.text, abcN_app, e, List.append_nil]; exact h1
    · simp only [Pa.inner, abcN_app, e, List.append_nil]; exact h1
  | .cat p q, n, h => by
    rw [Pa.dep] at h
    obtain ⟨m, rfl⟩ : ∃ m, n = m + 1 := ⟨n - 1, by omega⟩
    have h1 := (abc_text p m (by omega)).2
    have h2 := (abc_text q m (by omega)).2
    have hp : 2 ^ (m + 1) = 2 * 2 ^ m := by rw [Nat.pow_succ]; omega
    have e : abcN [41] = [] := rfl
    constructor
    · intro b
      cases b <;> simp only [Pa.text, if_true, if_neg (show ¬ false = true by decide), abcN_skip (show [97, 98, 99].contains 40 = false by decide), abcN_app, e, List.append_nil, List.length_append] <;> omega
    · simp only [Pa.inner, abcN_app, List.length_append]; omega
  | .alt p q, n, h => by
    rw [Pa.dep] at h
    obtain ⟨m, rfl⟩ : ∃ m, n = m + 1 := ⟨n - 1, by omega⟩
    have h1 := (abc_text p m (by omega)).1 true
    have h2 := (abc_text q m (by omega)).1 true
    have hp : 2 ^ (m + 1) = 2 * 2 ^ m := by rw [Nat.pow_succ]; omega
    have e : abcN [41] = [] := rfl
    constructor
    · intro b
      cases b <;> simp only [Pa.text, if_true, if_neg (show ¬ false = true by decide), abcN_skip (show [97, 98, 99].contains 40 = false by decide), abcN_skip (show [97, 98, 99].contains 124 = false by decide), abcN_app, e, List.append_nil, List.length_append] <;> omega
    · simp only [Pa.inner, abcN_skip (show [97, 98, 99].contains 40 = false by decide), abcN_skip (show [97, 98, 99].contains 124 = false by decide), abcN_app, e, List.append_nil, List.length_append]; omega
/-- hall_of of a pattern that is let by, with few whistles -/
theorem hall_call {cP cB : Addr} {l : List Nat} {wn m : Nat} {L : List Nat → Prop} {f : List Nat → Bool} {H : Hp} {Q : VK} (pt : PatT wn l L) (hf : ∀ t, Val wn t → (f t = true ↔ L (tuneC t))) (hm : (abcN l).length ≤ m) (h8 : m ≤ 8) (tb : LamX.Tabs Tb.T H)
    (q : ∀ y v H', TL y wn f → y.n ≤ 2 ^ m + 1 → Sm H H' → Im H' [] y.d v → Q v H') : spHallOf cP cB [.str (SX.S l), nV wn] H Q E0 := by
  obtain ⟨ok, hz, p, hp, hsg, hsz, hL⟩ := pt
  refine ⟨.str (SX.S l), nD wn, _, _, rfl, rfl, rfl, ?_, tb, fun z => (by rw [ok] at z; cases z), fun _ => ⟨l, wn, p, rfl, rfl, hp, fun z => by omega, fun _ k kok kw kn kl v H' s i => ?_⟩⟩
  · show (SX.S l).length ≤ 1000000
    rw [SX.S_len]; omega
  · have hpw : 2 ^ (abcN l).length ≤ 2 ^ m := Nat.pow_le_pow_right (by decide) hm
    refine q (tightH k) v H' (TL.of kok kw fun t ht => ?_) (Nat.le_trans (tightH_n kok) (by omega)) s i
    have h1 := kl t ht
    have h2 : f t = true ↔ k.lit (k.run 0 t) = 1 := by rw [hf t ht, h1]; exact (hL _).symm
    have hle := kok.lit_le (kok.run_lt kok.n1 (t := t) (by rw [kw]; exact ht))
    have : k.lit (k.run 0 t) = 0 ∨ k.lit (k.run 0 t) = 1 := by omega
    rcases this with e | e
    · rw [e] at h2 ⊢
      cases q : f t with
      | false => rfl
      | true => exact absurd (h2.mp q) (by decide)
    · rw [e] at h2 ⊢
      rw [h2.mpr rfl]; rfl
/-! ### patterns put together as texts -/
def oneOfL (a b : List Nat) : List Nat := if a = [33] ∨ a = b then b else if b = [33] then a else 40 :: (a ++ 124 :: b ++ [41])
def thenL (a b : List Nat) : List Nat := if a = [33] ∨ b = [33] then [33] else if a = [46] then b else if b = [46] then a else a ++ b
def anyOfL (a : List Nat) : List Nat := if a = [33] ∨ a = [46] then [46] else if a.length = 1 then a ++ [42] else 40 :: (a ++ [41]) ++ [42]
theorem CatT.uniq {t : List Nat} {L M : Lg} (h : CatT t L) (k : CatT t M) (w : List Nat) : L w ↔ M w := by
  obtain ⟨c, x, e, hx⟩ := h.run f0 [] rfl
  obtain ⟨c', x', e', hx'⟩ := k.run f0 [] rfl
  rw [e] at e'
  injection e' with e'
  injection e' with e' _
  have h1 : c = c' := congrArg Frm.ca e'
  have h2 : some x = some x' := congrArg Frm.cu e'
  cases h1
  cases h2
  exact (hx w).symm.trans (hx' w)
/-- a text that tells tunes and goes by -/
structure RE (w : Nat) (t : List Nat) (L : Lg) : Prop where
  cat : CatT t L
  run : Runs w t
section
variable {w : Nat} {a b : List Nat} {L M : Lg}
theorem RE.congr (h : RE w a L) (e : ∀ x, L x ↔ M x) : RE w a M := ⟨h.cat.congr e, h.run⟩
theorem re_sign (hw : w ≤ 3) {c : Nat} (hc : SgOk w c) : RE w [c] (LSg c) := ⟨(AtomT.sign (sgok_own hw hc).1 (sgok_own hw hc).2).cat, Runs.sign hw hc⟩
theorem re_none (hw : w ≤ 3) : RE w [33] (fun _ => False) := (re_sign hw (.inl rfl)).congr fun x => by unfold LSg; rw [if_pos rfl]
theorem re_eps (hw : w ≤ 3) : RE w [46] (fun x => x = []) := (re_sign hw (.inr (.inl rfl))).congr fun x => by unfold LSg; rw [if_neg (by decide), if_pos rfl]
theorem re_one (hw : w ≤ 3) (ha : RE w a L) (hb : RE w b M) : RE w (oneOfL a b) (fun x => L x ∨ M x) := by
  unfold oneOfL
  by_cases h1 : a = [33] ∨ a = b
  · rw [if_pos h1]
    rcases h1 with rfl | rfl
    · refine hb.congr fun x => ?_
      have := ha.cat.uniq (re_none hw).cat x
      simp [this]
    · refine hb.congr fun x => ?_
      have := ha.cat.uniq hb.cat x
      simp [this]
  · rw [if_neg h1]
    by_cases h2 : b = [33]
    · rw [if_pos h2]
      subst h2
      refine ha.congr fun x => ?_
      have := hb.cat.uniq (re_none hw).cat x
      simp [this]
    · rw [if_neg h2]
      exact ⟨(ha.cat.alt.bar hb.cat.alt).brack.cat, (ha.run.bar hb.run).brack⟩
theorem re_then (hw : w ≤ 3) (ha : RE w a L) (hb : RE w b M) : RE w (thenL a b) (LCat L M) := by
  unfold thenL
  by_cases h1 : a = [33] ∨ b = [33]
  · rw [if_pos h1]
    refine (re_none hw).congr fun x => ⟨fun z => z.elim, ?_⟩
    rintro ⟨u, v, _, x1, x2⟩
    rcases h1 with rfl | rfl
    · exact (ha.cat.uniq (re_none hw).cat u).mp x1
    · exact (hb.cat.uniq (re_none hw).cat v).mp x2
  · rw [if_neg h1]
    by_cases h2 : a = [46]
    · rw [if_pos h2]
      subst h2
      refine hb.congr fun x => ⟨fun z => ⟨[], x, rfl, (ha.cat.uniq (re_eps hw).cat []).mpr rfl, z⟩, ?_⟩
      rintro ⟨u, v, rfl, x1, x2⟩
      have : u = [] := (ha.cat.uniq (re_eps hw).cat u).mp x1
      subst this
      exact x2
    · rw [if_neg h2]
      by_cases h3 : b = [46]
      · rw [if_pos h3]
        subst h3
        refine ha.congr fun x => ⟨fun z => ⟨x, [], (List.append_nil x).symm, z, (hb.cat.uniq (re_eps hw).cat []).mpr rfl⟩, ?_⟩
        rintro ⟨u, v, rfl, x1, x2⟩
        have : v = [] := (hb.cat.uniq (re_eps hw).cat v).mp x2
        subst this
        rw [List.append_nil]; exact x1
      · rw [if_neg h3]
        exact ⟨ha.cat.app hb.cat, ha.run.app hb.run⟩
theorem cat_one {c : Nat} (h : CatT [c] L) : c ≠ 40 ∧ isStart c = true := by
  obtain ⟨d, l, e, hs⟩ := h.st
  injection e with e1 e2
  subst e1
  refine ⟨fun z => ?_, hs⟩
  subst z
  obtain ⟨c, x, e, _⟩ := h.run f0 [] rfl
  have : (mrun [f0] [40]).map List.length = some 2 := rfl
  rw [e] at this
  cases this
theorem star_nil {G : Lg} (hG : ∀ x, G x → x = []) {x : List Nat} (s : Star G x) : x = [] := by
  induction s with
  | nil => rfl
  | app _ g ih => rw [ih, hG _ g]; rfl
theorem re_any (hw : w ≤ 3) (ha : RE w a L) : RE w (anyOfL a) (Star L) := by
  unfold anyOfL
  by_cases h1 : a = [33] ∨ a = [46]
  · rw [if_pos h1]
    refine (re_eps hw).congr fun x => ⟨fun z => by rw [z]; exact Star.nil, fun s => star_nil (fun y hy => ?_) s⟩
    rcases h1 with rfl | rfl
    · exact ((ha.cat.uniq (re_none hw).cat y).mp hy).elim
    · exact (ha.cat.uniq (re_eps hw).cat y).mp hy
  · rw [if_neg h1]
    by_cases h2 : a.length = 1
    · rw [if_pos h2]
      match a, h2 with
      | [c], _ =>
        obtain ⟨c40, cs⟩ := cat_one ha.cat
        have at1 : AtomT [c] (LSg c) := AtomT.sign cs c40
        have at2 : AtomT [c] L := at1.congr fun x => at1.cat.uniq ha.cat x
        exact ⟨at2.star.cat, ha.run.star⟩
    · rw [if_neg h2]
      exact ⟨ha.cat.alt.brack.star.cat, ha.run.brack.star⟩
end
/-! lengths and whistles -/
theorem one_len (a b : List Nat) : (oneOfL a b).length ≤ a.length + b.length + 3 := by
  unfold oneOfL
  split
  · omega
  · split
    · omega
    · simp only [List.length_cons, List.length_append, List.length_nil]; omega
theorem then_len (a b : List Nat) : (thenL a b).length ≤ a.length + b.length + 1 := by
  unfold thenL
  split
  · simp
  · split
    · omega
    · split
      · omega
      · rw [List.length_append]; omega
theorem any_len (a : List Nat) : (anyOfL a).length ≤ a.length + 3 := by
  unfold anyOfL
  split
  · simp
  · split
    · rw [List.length_append]; simp
    · simp only [List.length_cons, List.length_append, List.length_nil]; omega
abbrev nL (a : List Nat) : Nat := (abcN a).length
theorem one_let (a b : List Nat) : nL (oneOfL a b) ≤ nL a + nL b := by
  unfold oneOfL nL
  split
  · omega
  · split
    · omega
    · rw [abcN_skip (by decide), abcN_app, abcN_app, abcN_skip (by decide)]
      simp only [List.length_append]
      have : (abcN [41]).length = 0 := rfl
      omega
theorem then_let (a b : List Nat) : nL (thenL a b) ≤ nL a + nL b := by
  unfold thenL nL
  split
  · have : (abcN [33]).length = 0 := rfl
    omega
  · split
    · omega
    · split
      · omega
      · rw [abcN_app, List.length_append]; omega
theorem any_let (a : List Nat) : nL (anyOfL a) ≤ nL a := by
  unfold anyOfL nL
  split
  · have : (abcN [46]).length = 0 := rfl
    omega
  · split
    · rw [abcN_app, List.length_append]
      have : (abcN [42]).length = 0 := rfl
      omega
    · rw [abcN_app, abcN_skip (by decide), abcN_app]
      simp only [List.length_append]
      have h1 : (abcN [41]).length = 0 := rfl
      have h2 : (abcN [42]).length = 0 := rfl
      omega
/-! the tables -/
def stG (T : Nat → Nat → List Nat) (k i j : Nat) : List Nat := oneOfL (T i j) (thenL (thenL (T i k) (anyOfL (T k k))) (T k j))
theorem stG_re {w : Nat} (hw : w ≤ 3) {S : Nat → Nat → List Nat} {T : Nat → Nat → Lg} (h : ∀ i j, RE w (S i j) (T i j)) (k i j : Nat) : RE w (stG S k i j) (goneT T k i j) :=
  re_one hw (h i j) (re_then hw (re_then hw (h i k) (re_any hw (h k k))) (h k j))
theorem stG_let (S : Nat → Nat → List Nat) (k i j : Nat) : nL (stG S k i j) ≤ nL (S i j) + nL (S i k) + nL (S k k) + nL (S k j) := by
  have h1 := one_let (S i j) (thenL (thenL (S i k) (anyOfL (S k k))) (S k j))
  have h2 := then_let (thenL (S i k) (anyOfL (S k k))) (S k j)
  have h3 := then_let (S i k) (anyOfL (S k k))
  have h4 := any_let (S k k)
  unfold stG
  omega
theorem stG_len (S : Nat → Nat → List Nat) {n : Nat} (h : ∀ i j, (S i j).length ≤ n) (k i j : Nat) : (stG S k i j).length ≤ 4 * n + 8 := by
  have h1 := one_len (S i j) (thenL (thenL (S i k) (anyOfL (S k k))) (S k j))
  have h2 := then_len (thenL (S i k) (anyOfL (S k k))) (S k j)
  have h3 := then_len (S i k) (anyOfL (S k k))
  have h4 := any_len (S k k)
  have a1 := h i j
  have a2 := h i k
  have a3 := h k k
  have a4 := h k j
  unfold stG
  omega
def elimS (S : Nat → Nat → List Nat) : Nat → Nat → Nat → List Nat
  | 0 => S
  | m + 1 => elimS (stG S (m + 1)) m
def elimT (T : Nat → Nat → Lg) : Nat → Nat → Nat → Lg
  | 0 => T
  | m + 1 => elimT (goneT T (m + 1)) m
theorem elim_re {w : Nat} (hw : w ≤ 3) : ∀ (m : Nat) {S : Nat → Nat → List Nat} {T : Nat → Nat → Lg}, (∀ i j, RE w (S i j) (T i j)) → ∀ i j, RE w (elimS S m i j) (elimT T m i j)
  | 0, S, T, h => h
  | m + 1, S, T, h => elim_re hw m fun i j => stG_re hw h (m + 1) i j
theorem elim_via {e : Nat} : ∀ (m : Nat) {T : Nat → Nat → Lg} {w : List Nat}, m < e → (Via T (fun x => 1 ≤ x ∧ x ≤ m) 0 e w ↔ elimT T m 0 e w)
  | 0, T, w, _ => by
    rw [Via.iff (N' := fun _ => False) (fun x => ⟨fun z => by omega, fun z => z.elim⟩)]
    exact via_none
  | m + 1, T, w, he => by
    rw [Via.iff (N' := OrK (fun x => 1 ≤ x ∧ x ≤ m) (m + 1)) (fun x => by unfold OrK; omega)]
    rw [via_gone (by omega) (by omega) (by omega)]
    exact elim_via m (by omega)
/-! ### the hall's own table, as texts -/
def edgeF (h : Hall) (a b : Nat) (s : List Nat) (c : Nat) : List Nat := if h.go a c = b then oneOfL s [c + 97] else s
def edgeS (h : Hall) (a b : Nat) : Nat → List Nat
  | 0 => [33]
  | m + 1 => edgeF h a b (edgeS h a b m) m
def st0 (h : Hall) (e i j : Nat) : List Nat :=
  if i = 0 then (if j = 1 then [46] else [33])
  else if i ≤ h.n then (if j = e then (if h.lit (i - 1) = 1 then [46] else [33]) else if 1 ≤ j ∧ j ≤ h.n then edgeS h (i - 1) (j - 1) h.w else [33])
  else [33]
theorem edge_re {h : Hall} (hw : h.w ≤ 3) (a b : Nat) : ∀ m, m ≤ h.w → RE h.w (edgeS h a b m) (fun w => ∃ c, c < m ∧ h.go a c = b ∧ w = [c + 97])
  | 0, _ => (re_none hw).congr fun x => ⟨fun z => z.elim, fun ⟨c, z, _⟩ => absurd z (Nat.not_lt_zero _)⟩
  | m + 1, hm => by
    have ih := edge_re hw a b m (by omega)
    unfold edgeS edgeF
    have hs : SgOk h.w (m + 97) := .inr (.inr ⟨by omega, by omega⟩)
    have r1 : RE h.w [m + 97] (fun x => x = [m + 97]) := (re_sign hw hs).congr fun x => by
      unfold LSg
      rw [if_neg (by omega), if_neg (by omega)]
    split
    · rename_i hg
      refine (re_one hw ih r1).congr fun x => ?_
      constructor
      · rintro (⟨c, h1, h2, h3⟩ | h1)
        · exact ⟨c, by omega, h2, h3⟩
        · exact ⟨m, by omega, hg, h1⟩
      · rintro ⟨c, h1, h2, h3⟩
        by_cases hc : c = m
        · subst hc; exact .inr h3
        · exact .inl ⟨c, by omega, h2, h3⟩
    · rename_i hg
      refine ih.congr fun x => ?_
      constructor
      · rintro ⟨c, h1, h2, h3⟩; exact ⟨c, by omega, h2, h3⟩
      · rintro ⟨c, h1, h2, h3⟩
        by_cases hc : c = m
        · subst hc; exact absurd h2 hg
        · exact ⟨c, by omega, h2, h3⟩
theorem st0_re {h : Hall} (o : h.Ok) {e : Nat} (he : h.n < e) (i j : Nat) : RE h.w (st0 h e i j) (T0 h e i j) := by
  have hw := o.w3
  unfold st0
  by_cases i0 : i = 0
  · subst i0
    rw [if_pos rfl]
    by_cases j1 : j = 1
    · rw [if_pos j1]
      refine (re_eps hw).congr fun x => ⟨fun z => .inl ⟨rfl, j1, z⟩, ?_⟩
      rintro (⟨_, _, z⟩ | ⟨b, c, _, _, z, _⟩ | ⟨b, _, z, _⟩)
      · exact z
      · omega
      · omega
    · rw [if_neg j1]
      refine (re_none hw).congr fun x => ⟨fun z => z.elim, ?_⟩
      rintro (⟨_, z, _⟩ | ⟨b, c, _, _, z, _⟩ | ⟨b, _, z, _⟩)
      · exact j1 z
      · omega
      · omega
  rw [if_neg i0]
  by_cases hi : i ≤ h.n
  · rw [if_pos hi]
    by_cases je : j = e
    · rw [if_pos je]
      by_cases hl : h.lit (i - 1) = 1
      · rw [if_pos hl]
        refine (re_eps hw).congr fun x => ⟨fun z => .inr (.inr ⟨i - 1, by omega, by omega, je, hl, z⟩), ?_⟩
        rintro (⟨z, _⟩ | ⟨b, c, hb, hc, _, z, _⟩ | ⟨b, _, _, _, _, z⟩)
        · omega
        · have := go_lt o hb hc; omega
        · exact z
      · rw [if_neg hl]
        refine (re_none hw).congr fun x => ⟨fun z => z.elim, ?_⟩
        rintro (⟨z, _⟩ | ⟨b, c, hb, hc, _, z, _⟩ | ⟨b, _, z, _, z2, _⟩)
        · omega
        · have := go_lt o hb hc; omega
        · exact hl (by rw [z]; exact z2)
    · rw [if_neg je]
      by_cases hj : 1 ≤ j ∧ j ≤ h.n
      · rw [if_pos hj]
        refine (edge_re hw (i - 1) (j - 1) h.w (Nat.le_refl _)).congr fun x => ?_
        constructor
        · rintro ⟨c, h1, h2, h3⟩
          exact .inr (.inl ⟨i - 1, c, by omega, h1, by omega, by omega, h3⟩)
        · rintro (⟨z, _⟩ | ⟨b, c, hb, hc, z, z2, z3⟩ | ⟨b, _, _, z, _⟩)
          · omega
          · have : b = i - 1 := by omega
            subst this
            exact ⟨c, hc, by omega, z3⟩
          · exact absurd z je
      · rw [if_neg hj]
        refine (re_none hw).congr fun x => ⟨fun z => z.elim, ?_⟩
        rintro (⟨z, _⟩ | ⟨b, c, hb, hc, z, z2, z3⟩ | ⟨b, _, _, z, _⟩)
        · omega
        · have := go_lt o hb hc; omega
        · exact je z
  · rw [if_neg hi]
    refine (re_none hw).congr fun x => ⟨fun z => z.elim, ?_⟩
    rintro (⟨z, _⟩ | ⟨b, c, hb, hc, z, _⟩ | ⟨b, hb, z, _⟩)
    · omega
    · omega
    · omega
def patOf (h : Hall) : List Nat := elimS (st0 h (h.n + 1)) h.n 0 (h.n + 1)
def hallL (h : Hall) : Lg := fun w => ∃ t, Val h.w t ∧ w = tunC t ∧ h.lit (h.run 0 t) = 1
theorem patOf_re {h : Hall} (o : h.Ok) : RE h.w (patOf h) (hallL h) := by
  refine (elim_re o.w3 h.n (fun i j => st0_re o (Nat.lt_succ_self _) i j) 0 (h.n + 1)).congr fun x => ?_
  rw [← elim_via h.n (Nat.lt_succ_self _)]
  exact via_hall o (Nat.lt_succ_self _)
/-! how long, and how many whistles -/
theorem edge_len (h : Hall) (a b : Nat) : ∀ m, (edgeS h a b m).length ≤ 1 + 4 * m
  | 0 => by simp [edgeS]
  | m + 1 => by
    have ih := edge_len h a b m
    have h1 := one_len (edgeS h a b m) [m + 97]
    unfold edgeS edgeF
    split
    · simp only [List.length_cons, List.length_nil] at h1; omega
    · omega
theorem st0_len {h : Hall} (o : h.Ok) (e i j : Nat) : (st0 h e i j).length ≤ 13 := by
  have := edge_len h (i - 1) (j - 1) h.w
  have := o.w3
  unfold st0
  split
  · split <;> simp
  · split
    · split
      · split <;> simp
      · split
        · omega
        · simp
    · simp
theorem elim1 (S : Nat → Nat → List Nat) : elimS S 1 = stG S 1 := rfl
theorem elim2 (S : Nat → Nat → List Nat) : elimS S 2 = stG (stG S 2) 1 := rfl
theorem elim3 (S : Nat → Nat → List Nat) : elimS S 3 = stG (stG (stG S 3) 2) 1 := rfl
theorem patOf_len {h : Hall} (o : h.Ok) (hn : h.n ≤ 3) : (patOf h).length ≤ 1000 := by
  have h0 := st0_len o (h.n + 1)
  unfold patOf
  have n1 := o.n1
  have : h.n = 1 ∨ h.n = 2 ∨ h.n = 3 := by omega
  rcases this with e | e | e <;> rw [e] at h0 ⊢
  · have a1 := stG_len _ h0 1 0 (1 + 1)
    rw [elim1]
    omega
  · have a1 := fun i j => stG_len _ h0 2 i j
    have a2 := stG_len _ a1 1 0 (2 + 1)
    rw [elim2]
    omega
  · have a1 := fun i j => stG_len _ h0 3 i j
    have a2 := fun i j => stG_len _ a1 2 i j
    have a3 := stG_len _ a2 1 0 (3 + 1)
    rw [elim3]
    omega
theorem edge_let (h : Hall) (a b : Nat) : ∀ m, nL (edgeS h a b m) ≤ ((List.range m).filter fun c => decide (h.go a c = b)).length
  | 0 => by simp [edgeS, nL, abcN]
  | m + 1 => by
    have ih := edge_let h a b m
    have h1 := one_let (edgeS h a b m) [m + 97]
    have h2 : nL [m + 97] ≤ 1 := by
      have := abcN_cons (m + 97) []
      have e : (abcN []).length = 0 := rfl
      unfold nL
      omega
    rw [List.range_succ, List.filter_append, List.length_append]
    unfold edgeS edgeF
    split
    · rename_i hg
      have : ([m].filter fun c => decide (h.go a c = b)).length = 1 := by simp [hg]
      omega
    · omega
theorem row_sum (f : Nat → Nat) : ∀ (m n : Nat), (∀ c, c < m → f c < n) → ((List.range n).map fun b => ((List.range m).filter fun c => decide (f c = b)).length).sum = m
  | 0, n, h => by
    clear h
    simp only [List.range_zero, List.filter_nil, List.length_nil]
    induction n with
    | zero => rfl
    | succ n ih => rw [List.range_succ, List.map_append, List.sum_append, ih]; rfl
  | m + 1, n, h => by
    have ih := row_sum f m n fun c hc => h c (by omega)
    have hm := h m (by omega)
    have e : ∀ b, ((List.range (m + 1)).filter fun c => decide (f c = b)).length = ((List.range m).filter fun c => decide (f c = b)).length + (if f m = b then 1 else 0) := fun b => by
      rw [List.range_succ, List.filter_append, List.length_append]
      congr 1
      by_cases z : f m = b <;> simp [z]
    have e2 : ∀ n, ((List.range n).map fun b => ((List.range (m + 1)).filter fun c => decide (f c = b)).length).sum = ((List.range n).map fun b => ((List.range m).filter fun c => decide (f c = b)).length).sum + (if f m < n then 1 else 0) := by
      intro n
      induction n with
      | zero => rfl
      | succ n ih2 =>
        rw [show List.range (n + 1) = List.range n ++ [n] from List.range_succ, List.map_append, List.map_append, List.sum_append, List.sum_append, ih2]
        simp only [List.map_cons, List.map_nil, List.sum_cons, List.sum_nil]
        rw [e n]
        by_cases z1 : f m < n
        · rw [if_pos z1, if_pos (show f m < n + 1 by omega), if_neg (show ¬ f m = n by omega)]; omega
        · by_cases z2 : f m = n
          · rw [if_neg z1, if_pos z2, if_pos (show f m < n + 1 by omega)]; omega
          · rw [if_neg z1, if_neg z2, if_neg (show ¬ f m < n + 1 by omega)]; omega
    rw [e2 n, ih, if_pos hm]
theorem patOf_let {h : Hall} (o : h.Ok) (hn : h.n ≤ 3) : nL (patOf h) ≤ 60 := by
  have n1 := o.n1
  have w3 := o.w3
  have row : ∀ a, a < h.n → ((List.range h.n).map fun b => ((List.range h.w).filter fun c => decide (h.go a c = b)).length).sum = h.w := fun a ha => row_sum (h.go a) h.w h.n fun c hc => go_lt o ha hc
  have cell : ∀ a b, a < h.n → b < h.n → nL (st0 h (h.n + 1) (a + 1) (b + 1)) ≤ ((List.range h.w).filter fun c => decide (h.go a c = b)).length := fun a b ha hb => by
    have : st0 h (h.n + 1) (a + 1) (b + 1) = edgeS h a b h.w := by
      unfold st0
      rw [if_neg (by omega), if_pos (by omega), if_neg (by omega), if_pos ⟨by omega, by omega⟩]
      rfl
    rw [this]
    exact edge_let h a b h.w
  have last : ∀ i, nL (st0 h (h.n + 1) i (h.n + 1)) = 0 := fun i => by
    unfold st0
    split
    · split <;> rfl
    · split
      · rw [if_pos rfl]; split <;> rfl
      · rfl
  have z0 : ∀ j, j ≠ 1 → st0 h (h.n + 1) 0 j = [33] := fun j hj => by unfold st0; rw [if_pos rfl, if_neg hj]
  have z1 : st0 h (h.n + 1) 0 1 = [46] := by unfold st0; rw [if_pos rfl, if_pos rfl]
  have z0l : nL [33] = 0 := rfl
  have z1l : nL [46] = 0 := rfl
  -- the beginning's row stays
  have stay : ∀ (S : Nat → Nat → List Nat) (k j : Nat), S 0 k = [33] → stG S k 0 j = S 0 j := fun S k j e => by
    unfold stG
    rw [e]
    have e1 : thenL [33] (anyOfL (S k k)) = [33] := by unfold thenL; rw [if_pos (.inl rfl)]
    have e2 : thenL [33] (S k j) = [33] := by unfold thenL; rw [if_pos (.inl rfl)]
    rw [e1, e2]
    unfold oneOfL
    by_cases z : S 0 j = [33]
    · rw [if_pos (.inl z), z]
    · rw [if_neg (fun y => y.elim z z), if_pos rfl]
  unfold patOf
  generalize hS : st0 h (h.n + 1) = S at *
  have : h.n = 1 ∨ h.n = 2 ∨ h.n = 3 := by omega
  rcases this with e | e | e <;> rw [e] at row cell last ⊢
  · rw [elim1]
    have a1 := stG_let S 1 0 (1 + 1)
    have r1 := row 0 (by decide)
    have c1 : nL (S 1 1) ≤ _ := cell 0 0 (by decide) (by decide)
    generalize (List.range h.w) = R at *
    simp only [List.range_succ, List.range_zero, List.nil_append, List.map_cons, List.map_nil, List.sum_cons, List.sum_nil] at r1
    have l1 := last 0
    have l2 := last 1
    rw [z1, z1l] at a1
    omega
  · rw [elim2]
    have a1 := stG_let (stG S 2) 1 0 (2 + 1)
    have e02 : S 0 2 = [33] := z0 2 (by decide)
    rw [stay S 2 (2 + 1) e02, stay S 2 1 e02, z1, z1l, z0 (2 + 1) (by decide), z0l] at a1
    have b11 := stG_let S 2 1 1
    have b1e := stG_let S 2 1 (2 + 1)
    have r1 := row 0 (by decide)
    have r2 := row 1 (by decide)
    have c11 : nL (S 1 1) ≤ _ := cell 0 0 (by decide) (by decide)
    have c12 : nL (S 1 2) ≤ _ := cell 0 1 (by decide) (by decide)
    have c21 : nL (S 2 1) ≤ _ := cell 1 0 (by decide) (by decide)
    have c22 : nL (S 2 2) ≤ _ := cell 1 1 (by decide) (by decide)
    have l1 := last 1
    have l2 := last 2
    generalize (List.range h.w) = R at *
    simp only [List.range_succ, List.range_zero, List.nil_append, List.cons_append, List.map_cons, List.map_nil, List.sum_cons, List.sum_nil] at r1 r2
    omega
  · rw [elim3]
    have a1 := stG_let (stG (stG S 3) 2) 1 0 (3 + 1)
    have e03 : S 0 3 = [33] := z0 3 (by decide)
    have e02 : stG S 3 0 2 = [33] := by rw [stay S 3 2 e03]; exact z0 2 (by decide)
    rw [stay (stG S 3) 2 (3 + 1) e02, stay (stG S 3) 2 1 e02, stay S 3 (3 + 1) e03, stay S 3 1 e03, z1, z1l, z0 (3 + 1) (by decide), z0l] at a1
    have d11 := stG_let (stG S 3) 2 1 1
    have d1e := stG_let (stG S 3) 2 1 (3 + 1)
    have b11 := stG_let S 3 1 1
    have b12 := stG_let S 3 1 2
    have b21 := stG_let S 3 2 1
    have b22 := stG_let S 3 2 2
    have b1e := stG_let S 3 1 (3 + 1)
    have b2e := stG_let S 3 2 (3 + 1)
    have r1 := row 0 (by decide)
    have r2 := row 1 (by decide)
    have r3 := row 2 (by decide)
    have c11 : nL (S 1 1) ≤ _ := cell 0 0 (by decide) (by decide)
    have c12 : nL (S 1 2) ≤ _ := cell 0 1 (by decide) (by decide)
    have c13 : nL (S 1 3) ≤ _ := cell 0 2 (by decide) (by decide)
    have c21 : nL (S 2 1) ≤ _ := cell 1 0 (by decide) (by decide)
    have c22 : nL (S 2 2) ≤ _ := cell 1 1 (by decide) (by decide)
    have c23 : nL (S 2 3) ≤ _ := cell 1 2 (by decide) (by decide)
    have c31 : nL (S 3 1) ≤ _ := cell 2 0 (by decide) (by decide)
    have c32 : nL (S 3 2) ≤ _ := cell 2 1 (by decide) (by decide)
    have c33 : nL (S 3 3) ≤ _ := cell 2 2 (by decide) (by decide)
    have l1 := last 1
    have l2 := last 2
    have l3 := last 3
    generalize (List.range h.w) = R at *
    simp only [List.range_succ, List.range_zero, List.nil_append, List.cons_append, List.map_cons, List.map_nil, List.sum_cons, List.sum_nil] at r1 r2 r3
    omega
/-! ### patterns of halls -/
def spOneOf : Sp := fun vs H Q _ => ∃ a b : List Nat, vs = [.str (SX.S a), .str (SX.S b)] ∧ a.length ≤ 100000 ∧ b.length ≤ 100000 ∧ Q (.str (SX.S (oneOfL a b))) H
def spThen : Sp := fun vs H Q _ => ∃ a b : List Nat, vs = [.str (SX.S a), .str (SX.S b)] ∧ a.length ≤ 100000 ∧ b.length ≤ 100000 ∧ Q (.str (SX.S (thenL a b))) H
def spAnyOf : Sp := fun vs H Q _ => ∃ a : List Nat, vs = [.str (SX.S a)] ∧ a.length ≤ 100000 ∧ Q (.str (SX.S (anyOfL a))) H
theorem S_inj {a b : List Nat} (e : SX.S a = SX.S b) : a = b := congrArg (fun x : Str => x.cps.toList) e
theorem dec_S (a b : List Nat) (s : Str) (e : s = SX.S b) : decide (V.str (SX.S a) = V.str s) = decide (a = b) := by
  subst e
  rw [Bool.eq_iff_iff, decide_eq_true_iff, decide_eq_true_iff]
  exact ⟨fun z => S_inj (by injection z), fun z => by rw [z]⟩
theorem S_sz {a b : List Nat} (h : a.length + b.length ≤ 1000000) : (SX.S a).length + (SX.S b).length ≤ sizeLine := by rw [SX.S_len, SX.S_len]; exact Nat.le_of_lt (sl_small h)
section
variable {P : Program} {w : World} {K : PySem.W.Frag} {mg : Str → Option Value} {base : Heap}
theorem sc_one_of : FnScope ["one", "two"] ["one", "two"] (defScope s_one_of) := ⟨rfl, rfl, rfl, by decide +kernel, rfl, by decide +kernel, by decide +kernel⟩
theorem ok_one_of {f : Addr} {fd : FuncData} (F : Fun K "one_of" "one_of" s_one_of f fd) : FnOk P w K mg base CX0 1 f fd ["one", "two"] spOneOf := by
  refine F.ok sc_one_of (fun vs H Q E h => ?_) (fun cdv A outer s H vs Q E hr h => ?_)
  · obtain ⟨_, _, rfl, _⟩ := h
    rfl
  · obtain ⟨a, b, rfl, la, lb, q⟩ := h
    refine ⟨_, (pss_cons (ps_if (PW.pt (pw_or (pt_cmpR op_eq (pv 0) pe_str (nomark _)) (pw_or1 (pt_cmpR op_eq (pv 0) (pv 1) (nomark _)))))
        (pss_one (ps_ret (pv 1)))
        pss_nil)
      (pss_cons (ps_if (pt_cmpR op_eq (pv 1) pe_str (nomark _))
        (pss_one (ps_ret (pv 0)))
        pss_nil)
      (pss_one (ps_ret (pe_op op_add_str (pe_op op_add_str (pe_op op_add_str (pe_op op_add_str pe_str (pv 0)) pe_str) (pv 1)) pe_str))))), ?_⟩
    have e33 : (Str.ofString "!") = SX.S [33] := by decide +kernel
    have e40 : (Str.ofString "(") = SX.S [40] := by decide +kernel
    have e41 : (Str.ofString ")") = SX.S [41] := by decide +kernel
    have e124 : (Str.ofString "|") = SX.S [124] := by decide +kernel
    unfold oneOfL at q
    refine ⟨_, rfl, rfl, _, rfl, ?_⟩
    rw [dec_S a [33] _ e33]
    by_cases h1 : a = [33]
    · rw [decide_eq_true h1]
      rw [if_pos (.inl h1)] at q
      exact iteT (iteT ⟨_, rfl, q⟩)
    rw [decide_eq_false h1]
    refine iteF ⟨_, rfl, _, rfl, rfl, _, rfl, ?_⟩
    rw [dec_S a b _ rfl]
    by_cases h2 : a = b
    · rw [decide_eq_true h2]
      rw [if_pos (.inr h2)] at q
      exact iteT ⟨_, rfl, q⟩
    rw [decide_eq_false h2]
    rw [if_neg (fun z => z.elim h1 h2)] at q
    refine iteF ⟨_, rfl, rfl, _, rfl, ?_⟩
    rw [dec_S b [33] _ e33]
    by_cases h3 : b = [33]
    · rw [decide_eq_true h3]
      rw [if_pos h3] at q
      exact iteT ⟨_, rfl, q⟩
    rw [decide_eq_false h3]
    rw [if_neg h3] at q
    refine iteF ⟨_, rfl, _, _, rfl, rfl, by rw [e40]; exact S_sz (by simp only [List.length_cons, List.length_nil]; omega), ?_⟩
    rw [e40, SX.S_cat]
    refine ⟨_, _, rfl, rfl, by rw [e124]; exact S_sz (by simp only [List.length_append, List.length_cons, List.length_nil]; omega), ?_⟩
    rw [e124, SX.S_cat]
    refine ⟨_, rfl, _, _, rfl, rfl, S_sz (by simp only [List.length_append, List.length_cons, List.length_nil]; omega), ?_⟩
    rw [SX.S_cat]
    refine ⟨_, _, rfl, rfl, by rw [e41]; exact S_sz (by simp only [List.length_append, List.length_cons, List.length_nil]; omega), ?_⟩
    rw [e41, SX.S_cat]
    have e : [40] ++ a ++ [124] ++ b ++ [41] = 40 :: (a ++ 124 :: b ++ [41]) := by simp
    rw [e]
    exact q
theorem sc_then : FnScope ["one", "two"] ["one", "two"] (defScope s_then) := ⟨rfl, rfl, rfl, by decide +kernel, rfl, by decide +kernel, by decide +kernel⟩
theorem ok_then {f : Addr} {fd : FuncData} (F : Fun K "then" "then" s_then f fd) : FnOk P w K mg base CX0 1 f fd ["one", "two"] spThen := by
  refine F.ok sc_then (fun vs H Q E h => ?_) (fun cdv A outer s H vs Q E hr h => ?_)
  · obtain ⟨_, _, rfl, _⟩ := h
    rfl
  · obtain ⟨a, b, rfl, la, lb, q⟩ := h
    refine ⟨_, (pss_cons (ps_if (PW.pt (pw_or (pt_cmpR op_eq (pv 0) pe_str (nomark _)) (pw_or1 (pt_cmpR op_eq (pv 1) pe_str (nomark _)))))
        (pss_one (ps_ret pe_str))
        pss_nil)
      (pss_cons (ps_if (pt_cmpR op_eq (pv 0) pe_str (nomark _))
        (pss_one (ps_ret (pv 1)))
        pss_nil)
      (pss_cons (ps_if (pt_cmpR op_eq (pv 1) pe_str (nomark _))
        (pss_one (ps_ret (pv 0)))
        pss_nil)
      (pss_one (ps_ret (pe_op op_add_str (pv 0) (pv 1))))))), ?_⟩
    have e33 : (Str.ofString "!") = SX.S [33] := by decide +kernel
    have e46 : (Str.ofString ".") = SX.S [46] := by decide +kernel
    unfold thenL at q
    refine ⟨_, rfl, rfl, _, rfl, ?_⟩
    rw [dec_S a [33] _ e33]
    by_cases h1 : a = [33]
    · rw [decide_eq_true h1]
      rw [if_pos (.inl h1), ← e33] at q
      exact iteT (iteT q)
    rw [decide_eq_false h1]
    refine iteF ⟨_, rfl, rfl, _, rfl, ?_⟩
    rw [dec_S b [33] _ e33]
    by_cases h2 : b = [33]
    · rw [decide_eq_true h2]
      rw [if_pos (.inr h2), ← e33] at q
      exact iteT q
    rw [decide_eq_false h2]
    rw [if_neg (fun z => z.elim h1 h2)] at q
    refine iteF ⟨_, rfl, rfl, _, rfl, ?_⟩
    rw [dec_S a [46] _ e46]
    by_cases h3 : a = [46]
    · rw [decide_eq_true h3]
      rw [if_pos h3] at q
      exact iteT ⟨_, rfl, q⟩
    rw [decide_eq_false h3]
    rw [if_neg h3] at q
    refine iteF ⟨_, rfl, rfl, _, rfl, ?_⟩
    rw [dec_S b [46] _ e46]
    by_cases h4 : b = [46]
    · rw [decide_eq_true h4]
      rw [if_pos h4] at q
      exact iteT ⟨_, rfl, q⟩
    rw [decide_eq_false h4]
    rw [if_neg h4] at q
    refine iteF ⟨_, rfl, _, rfl, _, _, rfl, rfl, S_sz (by omega), ?_⟩
    rw [SX.S_cat]
    exact q
theorem sc_any_of : FnScope ["one"] ["one"] (defScope s_any_of) := ⟨rfl, rfl, rfl, by decide +kernel, rfl, by decide +kernel, by decide +kernel⟩
theorem ok_any_of {f : Addr} {fd : FuncData} (F : Fun K "any_of" "any_of" s_any_of f fd) (g_len : mg "len" = none) : FnOk P w K mg base CX0 1 f fd ["one"] spAnyOf := by
  refine F.ok sc_any_of (fun vs H Q E h => ?_) (fun cdv A outer s H vs Q E hr h => ?_)
  · obtain ⟨_, rfl, _⟩ := h
    rfl
  · obtain ⟨a, rfl, la, q⟩ := h
    refine ⟨_, (pss_cons (ps_if (PW.pt (pw_or (pt_cmpR op_eq (pv 0) pe_str (nomark _)) (pw_or1 (pt_cmpR op_eq (pv 0) pe_str (nomark _)))))
        (pss_one (ps_ret pe_str))
        pss_nil)
      (pss_cons (ps_if (pt_cmpR oN_eq (pe_callB call_len_str (by rfl) g_len (by decide +kernel) (pa_cons (pv 0) pa_nil)) pe_int (nomark _))
        (pss_one (ps_ret (pe_op op_add_str (pv 0) pe_str)))
        pss_nil)
      (pss_one (ps_ret (pe_op op_add_str (pe_op op_add_str pe_str (pv 0)) pe_str))))), ?_⟩
    have e33 : (Str.ofString "!") = SX.S [33] := by decide +kernel
    have e46 : (Str.ofString ".") = SX.S [46] := by decide +kernel
    have e40 : (Str.ofString "(") = SX.S [40] := by decide +kernel
    have e42 : (Str.ofString "*") = SX.S [42] := by decide +kernel
    have e442 : (Str.ofString ")*") = SX.S [41, 42] := by decide +kernel
    unfold anyOfL at q
    refine ⟨_, rfl, rfl, _, rfl, ?_⟩
    rw [dec_S a [33] _ e33]
    by_cases h1 : a = [33]
    · rw [decide_eq_true h1]
      rw [if_pos (.inl h1), ← e46] at q
      exact iteT (iteT q)
    rw [decide_eq_false h1]
    refine iteF ⟨_, rfl, rfl, _, rfl, ?_⟩
    rw [dec_S a [46] _ e46]
    by_cases h2 : a = [46]
    · rw [decide_eq_true h2]
      rw [if_pos (.inr h2), ← e46] at q
      exact iteT q
    rw [decide_eq_false h2]
    rw [if_neg (fun z => z.elim h1 h2)] at q
    have ln : (SX.S a).length = a.length := SX.S_len a
    refine iteF ⟨_, rfl, _, rfl, by rw [ln]; exact Nat.le_of_lt (sl_small (by omega)), (SX.S a).length, 1, rfl, rfl, _, rfl, ?_⟩
    rw [ln]
    by_cases h3 : a.length = 1
    · rw [decide_eq_true h3]
      rw [if_pos h3] at q
      refine iteT ⟨_, rfl, _, _, rfl, rfl, by rw [e42]; exact S_sz (by simp only [List.length_cons, List.length_nil]; omega), ?_⟩
      rw [e42, SX.S_cat]
      exact q
    rw [decide_eq_false h3]
    rw [if_neg h3] at q
    refine iteF ⟨_, rfl, _, _, rfl, rfl, by rw [e40]; exact S_sz (by simp only [List.length_cons, List.length_nil]; omega), ?_⟩
    rw [e40, SX.S_cat]
    refine ⟨_, _, rfl, rfl, by rw [e442]; exact S_sz (by simp only [List.length_append, List.length_cons, List.length_nil]; omega), ?_⟩
    rw [e442, SX.S_cat]
    have e : [40] ++ a ++ [41, 42] = 40 :: (a ++ [41]) ++ [42] := by simp
    rw [e]
    exact q
end
abbrev txD (t : List Nat) : PyData := .str (SX.S t)
abbrev rowS (r : List (List Nat)) : PyData := .list (r.map txD)
abbrev tbD (rows : List (List (List Nat))) : PyData := .list (rows.map rowS)
def gt (rows : List (List (List Nat))) (i j : Nat) : List Nat := (rows.getD i []).getD j []
def leftL (n k : Nat) : List Nat := (List.range n).filter fun a => !decide (a = k)
def cellL (rows : List (List (List Nat))) (k i j : Nat) : List Nat := oneOfL (gt rows i j) (thenL (thenL (gt rows i k) (anyOfL (gt rows k k))) (gt rows k j))
def withoutL (rows : List (List (List Nat))) (n k : Nat) : List (List (List Nat)) := (leftL n k).map fun i => (leftL n k).map fun j => cellL rows k i j
def spWithout : Sp := fun vs H Q _ => ∃ (rows : List (List (List Nat))) (x : V) (n k : Nat), vs = [x, nV k] ∧ Im H [] (tbD rows) x ∧ rows.length = n ∧ (∀ r ∈ rows, r.length = n) ∧ (∀ r ∈ rows, ∀ t ∈ r, t.length ≤ 5000) ∧ n ≤ 10 ∧ k < n ∧ ∀ v H', Sm H H' → Im H' [] (tbD (withoutL rows n k)) v → Q v H'
theorem txs_inv {H : Hp} {Z : List Addr} : ∀ {r : List (List Nat)} {xs : List V}, ImAll H Z (r.map txD) xs → xs = r.map fun t => V.str (SX.S t)
  | [], xs, h => h
  | t :: r, xs, h => by
    obtain ⟨y, s, e, h1, h2⟩ := h
    subst e
    have h1 : y = V.str (SX.S t) := h1
    rw [h1, txs_inv h2]; rfl
theorem txs_ims {H : Hp} {Z : List Addr} : ∀ (r : List (List Nat)), ImAll H Z (r.map txD) (r.map fun t => V.str (SX.S t))
  | [] => rfl
  | _ :: r => ⟨_, _, rfl, rfl, txs_ims r⟩
/-- table[i][j] -/
theorem tab_at {H : Hp} {Z : List Addr} {rows : List (List (List Nat))} {x : V} {n i j : Nat} (im : Im H Z (tbD rows) x) (hl : rows.length = n) (hr : ∀ r ∈ rows, r.length = n) (hi : i < n) (hj : j < n) : ∃ (l : Addr) (xs : List V) (l2 : Addr) (ys : List V), x = .ref l ∧ H l = some (.lst xs) ∧ xs.length = n ∧ xs[i]? = some (.ref l2) ∧ H l2 = some (.lst ys) ∧ ys[j]? = some (.str (SX.S (gt rows i j))) := by
  obtain ⟨l, xs, rfl, e, _, jx⟩ := im
  have hi2 : i < rows.length := by omega
  have er : rows[i]? = some (rows.getD i []) := getD_get hi2
  obtain ⟨y, ey, iy⟩ := jx.get (i := i) (d := rowS (rows.getD i [])) (by rw [List.getElem?_map, er]; rfl)
  obtain ⟨l2, ys, rfl, e2, _, jy⟩ := iy
  obtain rfl := txs_inv jy
  have hrl : (rows.getD i []).length = n := hr _ (getD_mem hi2)
  refine ⟨l, xs, l2, _, rfl, e, by rw [jx.length, List.length_map]; exact hl, ey, e2, ?_⟩
  rw [List.getElem?_map, getD_get (d := []) (by rw [hrl]; exact hj)]
  rfl
theorem gt_len {rows : List (List (List Nat))} {n i j m : Nat} (hl : rows.length = n) (hr : ∀ r ∈ rows, r.length = n) (hz : ∀ r ∈ rows, ∀ t ∈ r, t.length ≤ m) (hi : i < n) (hj : j < n) : (gt rows i j).length ≤ m := by
  have hm : rows.getD i [] ∈ rows := getD_mem (by omega)
  exact hz _ hm _ (getD_mem (by rw [hr _ hm]; exact hj))
/-- a list stands still from now on -/
theorem Wd.freeze {H0 H : Hp} {cs : List Cell} {ims : List (PyData × V)} {D : Addr} {ds : List PyData} (w : Wd H0 H (.L D ds :: cs) ims) : Wd H0 H cs ((.list ds, .ref D) :: ims) := by
  obtain ⟨xs, e, j⟩ := w.list 0
  refine w.pop.add ⟨D, xs, rfl, e, ?_, j.keep (fun _ _ _ e _ => e) fun a o h _ q => h (List.mem_cons_of_mem _ q)⟩
  have nd := w.nd
  exact (List.nodup_cons.mp nd).1
theorem im_nats {H : Hp} {Z : List Addr} {ns : List Nat} {D : Addr} (im : Im H Z (.list (ns.map nD)) (.ref D)) : H D = some (.lst (ns.map nV)) := by
  obtain ⟨_, xs, e, e1, _, j⟩ := im
  cases e
  rw [e1, j.nats_inv]
section
variable {P : Program} {w : World} {K : PySem.W.Frag} {mg : Str → Option Value} {base : Heap}
theorem sc_without : FnScope ["table", "by", "turn", "left", "at", "found", "one", "to", "two"] ["table", "by"] (defScope s_without) := ⟨rfl, rfl, rfl, by decide +kernel, rfl, by decide +kernel, by decide +kernel⟩
theorem ok_without {f : Addr} {fd : FuncData} (F : Fun K "without" "without" s_without f fd) (g_len : mg "len" = none) (g_range : mg "range" = none) (C_any_of : Cal P w K mg base CX0 1 "any_of" ["one"] spAnyOf) (C_then : Cal P w K mg base CX0 1 "then" ["one", "two"] spThen) (C_one_of : Cal P w K mg base CX0 1 "one_of" ["one", "two"] spOneOf) : FnOk P w K mg base CX0 2 f fd ["table", "by"] spWithout := by
  refine F.ok sc_without (fun vs H Q E h => ?_) (fun cdv A outer s H vs Q E hr h => ?_)
  · obtain ⟨_, _, _, _, rfl, _⟩ := h
    rfl
  · obtain ⟨rows, x, n, k, rfl, ix, hl, hrow, hz, hn, hk, q⟩ := h
    refine ⟨_, (pss_cons (ps_set (i := 2) sc_without.nd rfl (Or.inl rfl) (pe_fn C_any_of hr (by decide) rfl (pa_cons (pe_ix (ixL (K := K) rfl) (pe_ix (ixL (K := K) rfl) (pv 0) (pv 1) (fun _ _ => rfl)) (pv 1) (fun _ _ => rfl)) pa_nil)))
      (pss_cons (ps_setLc (i := 3) (own := [("at", 4)]) (g := (gName 4)) rfl sc_without.nd rfl rfl (sw_true rfl rfl rfl (by decide +kernel)) (pi_rngN rfl g_range (pa_cons (pe_callB (lenS (K := K) rfl) (by rfl) g_len PySem.boot_len (pa_cons (pv 0) pa_nil)) pa_nil)) (blkOk_by (by kernel_rfl)) (fun _ _ _ _ _ => (pg_name (i := 4) sc_without.nd rfl (by first | exact Or.inl rfl | exact Or.inr rfl))) (fun _ _ _ _ _ => (pts_one (pt_cmpR oN_ne (pv 4) (pv 1) (nomark _)))) (fun _ _ _ _ _ => (pv 4)))
      (pss_cons (ps_set (i := 5) sc_without.nd rfl (Or.inl rfl) (pe_lst pa_nil))
      (pss_cons (ps_for PassesOwn.never rfl (pi_list (pv 3)) (pg_name (i := 6) sc_without.nd rfl (by first | exact Or.inl rfl | exact Or.inr rfl))
        (pss_cons (ps_set (i := 7) sc_without.nd rfl (Or.inr rfl) (pe_fn C_then hr (by decide) rfl (pa_cons (pe_ix (ixL (K := K) rfl) (pe_ix (ixL (K := K) rfl) (pv 0) (pv 6) (fun _ _ => rfl)) (pv 1) (fun _ _ => rfl)) (pa_cons (pv 2) pa_nil))))
        (pss_one (ps_expr (pe_bm PySem.F.plainAttrs_list PySem.F.slot_list_append PySem.F.type_list_append mt_append (pv 5) (pa_cons (pe_lc (own := [("two", 8)]) (g := (gName 8)) (tt := tYes) rfl sc_without.nd (pi_list (pv 3)) (blkOk_by (by kernel_rfl)) (fun _ _ _ _ _ => (pg_name (i := 8) sc_without.nd rfl (by first | exact Or.inl rfl | exact Or.inr rfl))) (fun _ _ _ _ _ => pts_nil) (fun _ _ _ _ _ => (pe_fn C_one_of hr (by decide) rfl (pa_cons (pe_ix (ixL (K := K) rfl) (pe_ix (ixL (K := K) rfl) (pv 0) (pv 6) (fun _ _ => rfl)) (pv 8) (fun _ _ => rfl)) (pa_cons (pe_fn C_then hr (by decide) rfl (pa_cons (pv 7) (pa_cons (pe_ix (ixL (K := K) rfl) (pe_ix (ixL (K := K) rfl) (pv 0) (pv 1) (fun _ _ => rfl)) (pv 8) (fun _ _ => rfl)) pa_nil))) pa_nil))))) pa_nil))))))
      (pss_one (ps_ret (pv 5))))))), ?_⟩
    have w0 : Wd H H [] [(tbD rows, x)] := Wd.start (fun p hp => by simp at hp; subst hp; exact ix)
    obtain ⟨l, xs, l2, ys, ex, el, hxl, e1, e2, e3⟩ := tab_at ix hl hrow hk hk
    subst ex
    have hkk := gt_len hl hrow hz hk hk
    refine ⟨_, rfl, _, rfl, l, _, (k : Int), _, rfl, rfl, SqL.of el, atI_nat e1, _, rfl, l2, _, (k : Int), _, rfl, rfl, SqL.of e2, atI_nat e3, gt rows k k, rfl, by omega, ?_⟩
    have hta := any_len (gt rows k k)
    -- left
    refine ⟨_, rfl, l, _, rfl, .inl (SqL.of el), xs.length, rfl, by omega, fun D hD => lc_rangeW (fun j => (leftL j k).map nD) w0 hD rfl (fun j hj => ?_) (fun j H1 hj w1 => ?_) (fun H1 w1 => ?_)⟩
    · rw [List.length_map]; exact sl_small (Nat.le_trans (filter_len _ _) (by omega))
    · intro Qt Qf k1 k2
      refine ⟨_, rfl, _, rfl, j, k, rfl, rfl, _, rfl, ?_⟩
      refine ite2 (fun z => ?_) (fun z => ?_)
      · exact ⟨_, rfl, k1 _ _ (nD j) w1 rfl (filter_range_t _ _ z)⟩
      · exact k2 _ w1 (filter_range_f _ _ (by simpa using z))
    · rw [hxl] at w1
      have hlm : ∀ a ∈ leftL n k, a < n := fun a ha => List.mem_range.mp (List.mem_filter.mp ha).1
      have hll : (leftL n k).length ≤ n := Nat.le_trans (List.length_filter_le _ _) (by rw [List.length_range]; exact Nat.le_refl _)
      refine ⟨Nat.zero_le _, fun fA hfA => ?_⟩
      have w2 := w1.freeze.pushL hfA (ds := (((leftL n k).take 0).map fun i => (leftL n k).map fun j => cellL rows k i j).map rowS) (xs := []) ImAll.nil
      generalize upd H1 fA _ = H2 at w2 ⊢
      have eD := im_nats (w2.get 0)
      refine ⟨_, rfl, D, rfl, ⟨_, SqL.of eD⟩, for_list (K := K) (a := D) (xs := (leftL n k).map nV) (fun i σ H' => ∃ z6 z7 z8 : Option V, σ = [some (.ref l), some (nV k), some (.str (SX.S (anyOfL (gt rows k k)))), some (.ref D), none, some (.ref fA), z6, z7, z8] ∧
        Wd H H' [.L fA ((((leftL n k).take i).map fun i => (leftL n k).map fun j => cellL rows k i j).map rowS)] [(.list ((leftL n k).map nD), .ref D), (tbD rows, .ref l)])
        ⟨_, _, _, rfl, w2⟩ (fun i σ H' _ ⟨_, _, _, _, w3⟩ => SqL.of (im_nats (w3.get 0))) (fun i y σ H' hy ⟨z6, z7, z8, hσ, w3⟩ => ?_) (fun σ H' ⟨z6, z7, z8, hσ, w3⟩ => ?_)⟩
      · subst hσ
        obtain ⟨o, ho, rfl⟩ : ∃ o, (leftL n k)[i]? = some o ∧ y = nV o := by
          rw [List.getElem?_map] at hy
          cases e : (leftL n k)[i]? with
          | none => rw [e] at hy; cases hy
          | some c => rw [e] at hy; exact ⟨c, rfl, (Option.some.inj hy).symm⟩
        have hon := hlm o (List.mem_of_getElem? ho)
        obtain ⟨_, xs1, l3, ys3, ex, el, _, e1, e2, e3⟩ := tab_at (w3.get 1) hl hrow hon hk
        cases ex
        have hok := gt_len hl hrow hz hon hk
        refine ⟨_, rfl, _, rfl, l, _, (o : Int), _, rfl, rfl, SqL.of el, atI_nat e1, _, rfl, l3, _, (k : Int), _, rfl, rfl, SqL.of e2, atI_nat e3, _, rfl, gt rows o k, anyOfL (gt rows k k), rfl, by omega, by omega, ?_⟩
        have hto := then_len (gt rows o k) (anyOfL (gt rows k k))
        have eD := im_nats (w3.get 0)
        refine ⟨_, rfl, d_ty w3 0 rfl, _, rfl, D, rfl, ⟨_, SqL.of eD⟩, fun R hR => ?_⟩
        refine lc_listW (fun j => (((leftL n k).take j).map fun b => cellL rows k o b).map txD) w3 hR rfl (fun j hj => ?_) (fun j H4 _ w4 => SqL.of (im_nats (w4.get 0))) (fun j y H4 hy w4 => ?_) (fun H4 w4 => ?_)
        · rw [List.length_map, List.length_map, List.length_take]
          rw [List.length_map] at hj
          exact sl_small (by omega)
        · intro Qt Qf k1 _
          obtain ⟨b, hb, rfl⟩ : ∃ o, (leftL n k)[j]? = some o ∧ y = nV o := by
            rw [List.getElem?_map] at hy
            cases e : (leftL n k)[j]? with
            | none => rw [e] at hy; cases hy
            | some c => rw [e] at hy; exact ⟨c, rfl, (Option.some.inj hy).symm⟩
          have hbn := hlm b (List.mem_of_getElem? hb)
          obtain ⟨_, xs1, l3, ys3, ex, el, _, e1, e2, e3⟩ := tab_at (w4.get 1) hl hrow hon hbn
          cases ex
          obtain ⟨_, xs2, l4, ys4, ex, el2, _, e4, e5, e6⟩ := tab_at (w4.get 1) hl hrow hk hbn
          cases ex
          have hob := gt_len hl hrow hz hon hbn
          have hkb := gt_len hl hrow hz hk hbn
          have htt := then_len (thenL (gt rows o k) (anyOfL (gt rows k k))) (gt rows k b)
          refine iteT (B := Qf H4) ⟨_, rfl, _, rfl, l, _, (o : Int), _, rfl, rfl, SqL.of el, atI_nat e1, _, rfl, l3, _, (b : Int), _, rfl, rfl, SqL.of e2, atI_nat e3, ?_⟩
          refine ⟨_, rfl, _, rfl, _, rfl, l, _, (k : Int), _, rfl, rfl, SqL.of el2, atI_nat e4, _, rfl, l4, _, (b : Int), _, rfl, rfl, SqL.of e5, atI_nat e6, thenL (gt rows o k) (anyOfL (gt rows k k)), gt rows k b, rfl, by omega, by omega, ?_⟩
          refine ⟨gt rows o b, _, rfl, by omega, by omega, ?_⟩
          refine k1 _ _ (txD (cellL rows k o b)) w4 rfl ?_
          show (((leftL n k).take (j + 1)).map fun b => cellL rows k o b).map txD = (((leftL n k).take j).map fun b => cellL rows k o b).map txD ++ [txD (cellL rows k o b)]
          rw [List.take_add_one, hb]
          simp
        · rw [List.length_map, List.take_length] at w4
          have w5 := w4.freeze
          refine x_nil (d_append w5 0 rfl (w5.get 0) (by rw [List.length_map, List.length_map, List.length_take]; omega) fun H5 w6 => ?_)
          refine ⟨_, _, _, rfl, ?_⟩
          rw [List.take_add_one, ho]
          simp only [Option.toList_some, List.map_append, List.map_cons, List.map_nil]
          exact w6.less (by simp)
      · subst hσ
        rw [List.length_map, List.take_length] at w3
        exact ⟨_, rfl, q _ _ w3.same (w3.freeze.get 0)⟩
end/-- the table by its places -/
def rowsF (S : Nat → Nat → List Nat) (m : Nat) : List (List (List Nat)) := (List.range m).map fun i => (List.range m).map fun j => S i j
def setF (S : Nat → Nat → List Nat) (a b : Nat) (t : List Nat) : Nat → Nat → List Nat := fun i j => if i = a ∧ j = b then t else S i j
def dsF (S : Nat → Nat → List Nat) (m i : Nat) : List PyData := (List.range m).map fun j => txD (S i j)
def RsF (rs : List (Addr × List PyData)) (S : Nat → Nat → List Nat) (m : Nat) : Prop := rs.map (·.2) = (List.range m).map (dsF S m)
theorem RsF.row {rs : List (Addr × List PyData)} {S : Nat → Nat → List Nat} {m a : Nat} (e : RsF rs S m) (ha : a < m) : ∃ r, rs[a]? = some r ∧ r.2 = dsF S m a := by
  have h : (rs.map (·.2))[a]? = some (dsF S m a) := by rw [e, List.getElem?_map, List.getElem?_range ha]; rfl
  rw [List.getElem?_map] at h
  cases q : rs[a]? with
  | none => rw [q] at h; cases h
  | some r => rw [q] at h; exact ⟨r, rfl, Option.some.inj h⟩
theorem RsF.set {rs : List (Addr × List PyData)} {S : Nat → Nat → List Nat} {m a b : Nat} {t : List Nat} {x : Addr} (e : RsF rs S m) (ha : a < m) : RsF (rs.set a (x, (dsF S m a).set b (txD t))) (setF S a b t) m := by
  unfold RsF at *
  rw [List.map_set, e]
  apply List.ext_getElem?
  intro i
  rw [List.getElem?_set]
  by_cases hi : i < m
  · rw [List.length_map, List.length_range, List.getElem?_map, List.getElem?_map, List.getElem?_range hi]
    by_cases h : a = i
    · subst h
      rw [if_pos rfl, if_pos ha]
      refine congrArg some ?_
      apply List.ext_getElem?
      intro j
      unfold dsF
      rw [List.getElem?_set, List.getElem?_map, List.getElem?_map]
      by_cases hj : j < m
      · rw [List.length_map, List.length_range, List.getElem?_range hj]
        by_cases h2 : b = j
        · subst h2
          rw [if_pos rfl, if_pos hj]
          show _ = some (txD (if a = a ∧ b = b then t else S a b))
          rw [if_pos ⟨rfl, rfl⟩]
        · rw [if_neg h2]
          show some (txD (S a j)) = some (txD (if a = a ∧ j = b then t else S a j))
          rw [if_neg (fun z => h2 z.2.symm)]
      · have e1 : (List.range m)[j]? = none := List.getElem?_eq_none (by rw [List.length_range]; omega)
        rw [e1, List.length_map, List.length_range]
        by_cases h2 : b = j
        · subst h2; rw [if_pos rfl, if_neg hj]; rfl
        · rw [if_neg h2]; rfl
    · rw [if_neg h]
      show some (dsF S m i) = some (dsF (setF S a b t) m i)
      refine congrArg some (List.map_congr_left fun j _ => ?_)
      show txD (S i j) = txD (if i = a ∧ j = b then t else S i j)
      rw [if_neg (fun z => h z.1.symm)]
  · have e1 : (List.range m)[i]? = none := List.getElem?_eq_none (by rw [List.length_range]; omega)
    rw [List.getElem?_map, List.getElem?_map, e1, if_neg (by omega)]; rfl
theorem rowsF_d (S : Nat → Nat → List Nat) (m : Nat) : tbD (rowsF S m) = .list ((List.range m).map fun i => .list (dsF S m i)) := by
  unfold tbD rowsF dsF rowS
  simp only [List.map_map]
  refine congrArg PyData.list (List.map_congr_left fun i _ => ?_)
  show PyData.list (((List.range m).map fun j => S i j).map txD) = _
  rw [List.map_map]; rfl
theorem ll_im {H0 H : Hp} {D : Addr} {rs : List (Addr × List PyData)} {ims : List (PyData × V)} (w : Wd H0 H [.LL D rs] ims) : Im H [] (.list (rs.map fun r => .list r.2)) (.ref D) := by
  obtain ⟨e, h2⟩ := w.cell 0 (c := .LL D rs) rfl
  refine ⟨D, _, rfl, e, by simp, ?_⟩
  have key : ∀ (l : List (Addr × List PyData)), (∀ r ∈ l, ∃ xs, H r.1 = some (.lst xs) ∧ ImAll H (fps [.LL D rs]) r.2 xs) → ImAll H [] (l.map fun r => PyData.list r.2) (l.map fun r => V.ref r.1) := by
    intro l
    induction l with
    | nil => intro _; exact ImAll.nil
    | cons r t ih =>
      intro h
      obtain ⟨xs, ex, jx⟩ := h r (by simp)
      exact ImAll.cons ⟨r.1, xs, rfl, ex, by simp, jx.keep (fun _ _ _ e _ => e) fun a o h _ q => by simp at q⟩ (ih fun r hr => h r (by simp [hr]))
  exact key rs h2
theorem abcS_at {c cc : Nat} (h : (Str.ofString "abc").cps[c]? = some cc) : cc = c + 97 := by
  have hl : c < 3 := (Array.getElem?_eq_some_iff.mp h).1
  match c, hl with
  | 0, _ => exact (Option.some.inj h).symm
  | 1, _ => exact (Option.some.inj h).symm
  | 2, _ => exact (Option.some.inj h).symm
theorem tb_get {H0 H : Hp} {D : Addr} {rs : List (Addr × List PyData)} {ims : List (PyData × V)} {S : Nat → Nat → List Nat} {m a b : Nat} (w : Wd H0 H [.LL D rs] ims) (e : RsF rs S m) (ha : a < m) (hb : b < m) :
    ∃ (vs xs : List V) (r : Addr), H D = some (.lst vs) ∧ vs[a]? = some (.ref r) ∧ H r = some (.lst xs) ∧ xs.length = m ∧ xs[b]? = some (.str (SX.S (S a b))) ∧
      ∀ t, ∃ rs', RsF rs' (setF S a b t) m ∧ Wd H0 (upd H r (.lst (xs.set b (.str (SX.S t))))) [.LL D rs'] ims := by
  obtain ⟨r, er, e2⟩ := e.row ha
  obtain ⟨f1, f2, xs, f3, f4⟩ := w.row 0 rfl er
  rw [e2] at f4
  have hl : xs.length = m := by rw [f4.length]; unfold dsF; rw [List.length_map, List.length_range]
  obtain ⟨y, ey, iy⟩ := f4.get (i := b) (d := txD (S a b)) (by unfold dsF; rw [List.getElem?_map, List.getElem?_range hb]; rfl)
  have iy : y = V.str (SX.S (S a b)) := iy
  subst iy
  exact ⟨_, xs, r.1, f1, f2, f3, hl, ey, fun t => ⟨_, e.set ha, w.turnRow 0 (ds' := (dsF S m a).set b (txD t)) (xs' := xs.set b (.str (SX.S t))) rfl er (ImAll.set (d := txD t) (x := .str (SX.S t)) rfl b f4)⟩⟩
def spStraight : Sp := fun vs H Q _ => ∃ (h : Hall) (hv : V), vs = [hv] ∧ h.Ok ∧ h.n ≤ 3 ∧ Im H [] h.d hv ∧ ∀ v H', Sm H H' → Im H' [] (tbD (rowsF (st0 h (h.n + 1)) (h.n + 2))) v → Q v H'
/-- behind so many rooms -/
def stA (h : Hall) (k i j : Nat) : List Nat := if i ≤ k then st0 h (h.n + 1) i j else [33]
/-- within a room -/
def stB (h : Hall) (k c i j : Nat) : List Nat := if i = k + 1 then (if 1 ≤ j ∧ j ≤ h.n then edgeS h k (j - 1) c else [33]) else stA h k i j
theorem stA_0 (h : Hall) (a b : Nat) : setF (fun _ _ => [33]) 0 1 [46] a b = stA h 0 a b := by
  unfold setF stA st0
  by_cases ha : a = 0
  · subst ha
    by_cases hb : b = 1
    · rw [if_pos ⟨rfl, hb⟩, if_pos (Nat.le_refl _), if_pos rfl, if_pos hb]
    · rw [if_neg (fun z => hb z.2), if_pos (Nat.le_refl _), if_pos rfl, if_neg hb]
  · rw [if_neg (fun z => ha z.1), if_neg (by omega)]
theorem stB_0 (h : Hall) (k a b : Nat) : stA h k a b = stB h k 0 a b := by
  unfold stB
  by_cases ha : a = k + 1
  · subst ha
    rw [if_pos rfl]
    unfold stA edgeS
    rw [if_neg (by omega)]
    split <;> rfl
  · rw [if_neg ha]
theorem stB_s (h : Hall) {k c g : Nat} (eg : g = h.go k c) (hg : g < h.n) (a b : Nat) : (if a = k + 1 ∧ b = g + 1 then oneOfL (stB h k c (k + 1) (g + 1)) [c + 97] else stB h k c a b) = stB h k (c + 1) a b := by
  unfold stB
  by_cases ha : a = k + 1
  · subst ha
    rw [if_pos rfl, if_pos rfl, if_pos rfl]
    by_cases hb : b = g + 1
    · subst hb
      rw [if_pos ⟨rfl, rfl⟩, if_pos ⟨by omega, by omega⟩, if_pos ⟨by omega, by omega⟩]
      show _ = edgeF h k (g + 1 - 1) _ c
      unfold edgeF
      rw [if_pos (by omega)]
    · rw [if_neg (fun z => hb z.2)]
      by_cases hb2 : 1 ≤ b ∧ b ≤ h.n
      · rw [if_pos hb2, if_pos hb2]
        show _ = edgeF h k (b - 1) _ c
        unfold edgeF
        rw [if_neg (by omega)]
      · rw [if_neg hb2, if_neg hb2]
  · rw [if_neg (fun z => ha z.1), if_neg ha, if_neg ha]
theorem st0_s (h : Hall) {k : Nat} (hk : k < h.n) (b : Nat) : st0 h (h.n + 1) (k + 1) b = if b = h.n + 1 then (if h.lit k = 1 then [46] else [33]) else if 1 ≤ b ∧ b ≤ h.n then edgeS h k (b - 1) h.w else [33] := by
  unfold st0
  rw [if_neg (show ¬ k + 1 = 0 by omega), if_pos (show k + 1 ≤ h.n by omega), show k + 1 - 1 = k by omega]
theorem stA_s (h : Hall) {k : Nat} (hk : k < h.n) (a b : Nat) : (if (a = k + 1 ∧ b = h.n + 1) ∧ h.lit k = 1 then [46] else stB h k h.w a b) = stA h (k + 1) a b := by
  unfold stB
  by_cases ha : a = k + 1
  · subst ha
    rw [show stA h (k + 1) (k + 1) b = st0 h (h.n + 1) (k + 1) b from if_pos (Nat.le_refl _), st0_s h hk, if_pos rfl]
    by_cases hb : b = h.n + 1
    · rw [if_pos hb]
      by_cases hl : h.lit k = 1
      · rw [if_pos ⟨⟨rfl, hb⟩, hl⟩, if_pos hl]
      · rw [if_neg (fun z => hl z.2), if_neg hl, if_neg (by omega)]
    · rw [if_neg (fun z => hb z.1.2), if_neg hb]
  · rw [if_neg (fun z => ha z.1.1), if_neg ha]
    unfold stA
    by_cases h2 : a ≤ k
    · rw [if_pos h2, if_pos (by omega)]
    · rw [if_neg h2, if_neg (by omega)]
theorem stA_n (h : Hall) (a b : Nat) (ha : a < h.n + 2) : stA h h.n a b = st0 h (h.n + 1) a b := by
  unfold stA
  by_cases h2 : a ≤ h.n
  · rw [if_pos h2]
  · rw [if_neg h2]
    unfold st0
    rw [if_neg (by omega), if_neg h2]
theorem rowsF_congr {S T : Nat → Nat → List Nat} {m : Nat} (e : ∀ a b, a < m → b < m → S a b = T a b) : rowsF S m = rowsF T m :=
  List.map_congr_left fun i hi => List.map_congr_left fun j hj => e i j (List.mem_range.mp hi) (List.mem_range.mp hj)
section
variable {P : Program} {w : World} {K : PySem.W.Frag} {mg : Str → Option Value} {base : Heap}
theorem sc_straight : FnScope ["hall", "many", "found", "goal", "room", "at", "sign"] ["hall"] (defScope s_straight) := ⟨rfl, rfl, rfl, by decide +kernel, rfl, by decide +kernel, by decide +kernel⟩
theorem ok_straight {f : Addr} {fd : FuncData} (F : Fun K "straight" "straight" s_straight f fd) (g_len : mg "len" = none) (g_range : mg "range" = none) (g_zip : mg "zip" = none) (g_enumerate : mg "enumerate" = none) (C_one_of : Cal P w K mg base CX0 1 "one_of" ["one", "two"] spOneOf) : FnOk P w K mg base CX0 2 f fd ["hall"] spStraight := by
  refine F.ok sc_straight (fun vs H Q E h => ?_) (fun cdv A outer s H vs Q E hr h => ?_)
  · obtain ⟨_, _, rfl, _⟩ := h
    rfl
  · obtain ⟨h, hv, rfl, o, hn, hI, q⟩ := h
    refine ⟨_, (pss_cons (ps_set (i := 1) sc_straight.nd rfl (Or.inr rfl) (pe_callB (lenS (K := K) rfl) (by rfl) g_len PySem.boot_len (pa_cons (pe_ix ix_im (pv 0) pe_int (fun _ _ => rfl)) pa_nil)))
      (pss_cons (ps_setLc (i := 2) (own := [("room", 4)]) (g := (gName 4)) (tt := tYes) rfl sc_straight.nd rfl rfl (sw_true rfl rfl rfl (by decide +kernel)) (pi_rngN rfl g_range (pa_cons (pe_op oN_add (pv 1) pe_int) pa_nil)) (blkOk_by (by kernel_rfl)) (fun _ _ _ _ _ => (pg_name (i := 4) sc_straight.nd rfl (by first | exact Or.inl rfl | exact Or.inr rfl))) (fun _ _ _ _ _ => pts_nil) (fun _ _ _ _ _ => (pe_lc (own := [("goal", 3)]) (g := (gName 3)) (tt := tYes) rfl sc_straight.nd (pi_rngN rfl g_range (pa_cons (pe_op oN_add (pv 1) pe_int) pa_nil)) (blkOk_by (by kernel_rfl)) (fun _ _ _ _ _ => (pg_name (i := 3) sc_straight.nd rfl (by first | exact Or.inl rfl | exact Or.inr rfl))) (fun _ _ _ _ _ => pts_nil) (fun _ _ _ _ _ => pe_str))))
      (pss_cons (ps_asg pe_str (pg_sub (pe_ix (ixL (K := K) rfl) (pv 2) pe_int (fun _ _ => rfl)) pe_int set_list))
      (pss_cons (ps_for PassesOwn.never rfl (pi_enT (by rfl) g_enumerate (pa_cons (pe_ix ix_im (pv 0) pe_int (fun _ _ => rfl)) pa_nil)) (pg_tup rfl (pgs_cons (pg_name (i := 5) sc_straight.nd rfl (by first | exact Or.inl rfl | exact Or.inr rfl)) (pgs_cons (pg_name (i := 4) sc_straight.nd rfl (by first | exact Or.inl rfl | exact Or.inr rfl)) pgs_nil)))
        (pss_cons (ps_for PassesOwn.never rfl (pi_zipS (by rfl) g_zip (pa_cons pe_str (pa_cons (pv 4) pa_nil))) (pg_tup rfl (pgs_cons (pg_name (i := 6) sc_straight.nd rfl (by first | exact Or.inl rfl | exact Or.inr rfl)) (pgs_cons (pg_name (i := 3) sc_straight.nd rfl (by first | exact Or.inl rfl | exact Or.inr rfl)) pgs_nil)))
          (pss_one (ps_asg (pe_fn C_one_of hr (by decide) rfl (pa_cons (pe_ix (ixL (K := K) rfl) (pe_ix (ixL (K := K) rfl) (pv 2) (pe_op oN_add (pv 5) pe_int) (fun _ _ => rfl)) (pe_op oN_add (pv 3) pe_int) (fun _ _ => rfl)) (pa_cons (pv 6) pa_nil))) (pg_sub (pe_ix (ixL (K := K) rfl) (pv 2) (pe_op oN_add (pv 5) pe_int) (fun _ _ => rfl)) (pe_op oN_add (pv 3) pe_int) set_list))))
        (pss_one (ps_if (pt_cmpR oN_eq (pe_ix ix_im (pe_ix ix_im (pv 0) pe_int (fun _ _ => rfl)) (pv 5) (fun _ _ => rfl)) pe_int (nomark _))
          (pss_one (ps_asg pe_str (pg_sub (pe_ix (ixL (K := K) rfl) (pv 2) (pe_op oN_add (pv 5) pe_int) (fun _ _ => rfl)) (pe_op oN_add (pv 1) pe_int) set_list)))
          pss_nil))))
      (pss_one (ps_ret (pv 2))))))), ?_⟩
    have w0 : Wd H H [] [(h.d, hv)] := Wd.start (by simpa using hI)
    have n1 := o.n1
    have hw3 := o.w3
    have e33 : (Str.ofString "!") = SX.S [33] := by decide +kernel
    have e46 : (Str.ofString ".") = SX.S [46] := by decide +kernel
    refine sq_asg (t_n hI ?_)
    refine ⟨_, rfl, h.n, 2, rfl, rfl, h.n + 2, rfl, by omega, fun D hD => lc_rangeLL (fun a => dsF (fun _ _ => [33]) (h.n + 2) a) w0 hD (by omega) (fun a H1 rs ha w1 Qt k => ?_) (fun H1 rs ers w1 => ?_)⟩
    · refine ⟨_, rfl, h.n, 2, rfl, rfl, h.n + 2, rfl, by omega, fun D2 hD2 => lc_rangeW (fun j => (List.range j).map fun _ => txD [33]) w1 hD2 rfl (fun j hj => by rw [List.length_map, List.length_range]; exact sl_small (by omega)) (fun c H2 hc w2 => CompTurn.all fun Qt k2 => ?_) (fun H2 w2 => k _ _ w2)⟩
      show Qt (.str (Str.ofString "!")) H2
      rw [e33]
      exact k2 _ _ (txD [33]) w2 rfl (map_range_succ _ _)
    obtain ⟨vs, xs, r, f1, f2, f3, f4, _, f6⟩ := tb_get (a := 0) (b := 1) w1 ers (by omega) (by omega)
    refine ⟨_, rfl, D, vs, (0 : Int), _, rfl, rfl, SqL.of f1, atI_nat f2, r, xs, (1 : Int), 1, rfl, rfl, f3, (by rw [f4]; exact ixNn (j := 1) (by omega)), ?_⟩
    rw [e46]
    obtain ⟨rs1, ers1, w2⟩ := f6 [46]
    generalize upd H1 r _ = H2 at w2 ⊢
    refine ⟨_, rfl, _, _, 1, _, w2.get 0, rfl, rfl, fun vr jr => ?_⟩
    have w3 := w2.add jr
    obtain ⟨ar, xr, rfl, er, _, _⟩ := jr
    refine ⟨ar, _, rfl, SqT.of er, for_enD (K := K) (n := h.n) (fun i σ H' => ∃ (S : Nat → Nat → List Nat) (rs : List (Addr × List PyData)) (z3 z4 z5 z6 : Option V), σ = [some hv, some (nV h.n), some (.ref D), z3, z4, z5, z6] ∧ Wd H H' [.LL D rs] [(.tuple (h.rooms.map roomD), .ref ar), (h.d, hv)] ∧ RsF rs S (h.n + 2) ∧ ∀ a b, S a b = stA h i a b)
      ⟨_, _, _, _, _, _, rfl, w3, ers1, stA_0 h⟩ ?_ ?_ ?_⟩
    · rintro i σ H2 _ ⟨S, rs, z3, z4, z5, z6, rfl, w3, _, _⟩
      obtain ⟨a', xs', e', ea, _, jj⟩ := w3.get 0
      cases e'
      exact ⟨xs', ea, by rw [jj.length, List.length_map]; rfl⟩
    · rintro i x xs σ H2 T hi hxs hx ⟨S, rs, z3, z4, z5, z6, rfl, w3, ers, eS⟩ hT
      obtain ⟨a', xs', e', ea, _, jj⟩ := w3.get 0
      cases e'
      rw [ea] at hxs
      cases hxs
      obtain ⟨d, hd, ix⟩ := jj.getX hx
      have edi : h.rooms[i]? = some (h.rooms.getD i []) := getD_get (d := []) hi
      rw [List.getElem?_map, edi] at hd
      obtain rfl := Option.some.inj hd
      have w4 := (w3.add ix).call (same_new (o := .tup [nV i, x]) hT)
      generalize upd H2 T _ = H4 at w4 ⊢
      have hroom := o.room hi
      obtain ⟨ag, xg, rfl, eg, _, jg⟩ := w4.get 0
      obtain rfl := jg.nats_inv
      refine ⟨_, rfl, _, ag, _, rfl, SqT.of eg, for_zipS (K := K) (ys := (h.rooms.getD i []).map nV) (by rw [List.length_map, hroom]; exact hw3) (fun c σ H' => ∃ (S : Nat → Nat → List Nat) (rs : List (Addr × List PyData)) (z3 z6 : Option V), σ = [some hv, some (nV h.n), some (.ref D), z3, some (.ref ag), some (nV i), z6] ∧ Wd H H' [.LL D rs] [(roomD (h.rooms.getD i []), .ref ag), (.tuple (h.rooms.map roomD), .ref ar), (h.d, hv)] ∧ RsF rs S (h.n + 2) ∧ ∀ a b, S a b = stB h i c a b)
        ⟨S, rs, _, _, rfl, w4, ers, fun a b => by rw [eS]; exact stB_0 h i a b⟩ (fun c σ H' _ ⟨_, _, _, _, _, w5, _⟩ => SqT.of (Im.nats (w5.get 0))) ?_ ?_⟩
      · rintro c cc y σ H5 T hc hy ⟨S, rs, z3, z6, rfl, w5, ers, eS⟩ hT
        obtain ⟨g, eg, rfl⟩ : ∃ g, (h.rooms.getD i [])[c]? = some g ∧ y = nV g := by
          rw [List.getElem?_map] at hy
          cases e : (h.rooms.getD i [])[c]? with
          | none => rw [e] at hy; cases hy
          | some g => rw [e] at hy; exact ⟨g, rfl, (Option.some.inj hy).symm⟩
        have hcw : c < h.w := by rw [← hroom]; exact (List.getElem?_eq_some_iff.mp eg).1
        have eg2 : g = h.go i c := by
          show g = (h.rooms.getD i []).getD c 0
          rw [List.getD_eq_getElem?_getD, eg]; rfl
        have hg : g < h.n := by rw [eg2]; exact o.go_lt hi hcw
        have ecc : cc = c + 97 := abcS_at hc
        subst ecc
        have w6 := w5.call (same_new (o := .tup [.str ⟨#[c + 97]⟩, nV g]) hT)
        generalize upd H5 T _ = H6 at w6 ⊢
        obtain ⟨vs, xs, r, f1, f2, f3, f4, f5, f6⟩ := tb_get (a := i + 1) (b := g + 1) w6 ers (by omega) (by omega)
        have hS : (S (i + 1) (g + 1)).length ≤ 100 := by
          rw [eS]
          unfold stB
          rw [if_pos rfl, if_pos ⟨by omega, by omega⟩]
          have := edge_len h i (g + 1 - 1) c
          omega
        have hz := one_len (S (i + 1) (g + 1)) [c + 97]
        refine ⟨_, rfl, _, rfl, i, 1, rfl, rfl, D, vs, _, _, rfl, rfl, SqL.of f1, atI_nat f2, _, rfl, g, 1, rfl, rfl, r, xs, _, _, rfl, rfl, SqL.of f3, atI_nat f5, _, rfl, S (i + 1) (g + 1), [c + 97], rfl, by omega, (by show 1 ≤ 100000; decide), ?_⟩
        refine ⟨_, rfl, _, rfl, i, 1, rfl, rfl, D, vs, _, _, rfl, rfl, SqL.of f1, atI_nat f2, _, rfl, g, 1, rfl, rfl, r, xs, _, g + 1, rfl, rfl, f3, (by rw [f4]; exact ixNn (by omega)), ?_⟩
        obtain ⟨rs2, ers2, w7⟩ := f6 (oneOfL (S (i + 1) (g + 1)) [c + 97])
        refine ⟨_, rs2, _, _, rfl, w7, ers2, fun a b => ?_⟩
        show (if a = i + 1 ∧ b = g + 1 then oneOfL (S (i + 1) (g + 1)) [c + 97] else S a b) = _
        rw [eS, eS]
        exact stB_s h eg2 hg a b
      · rintro σ H5 ⟨S, rs, z3, z6, rfl, w5, ers, eS⟩
        rw [List.length_map, hroom] at eS
        refine t_lit o (w5.get 2) hi ?_
        refine ⟨_, _, rfl, rfl, _, rfl, ite2 (fun e => ?_) (fun e => ?_)⟩
        · have e : h.lit i = 1 := by simpa using e
          obtain ⟨vs, xs, r, f1, f2, f3, f4, f5, f6⟩ := tb_get (a := i + 1) (b := h.n + 1) w5 ers (by omega) (by omega)
          refine ⟨_, rfl, _, rfl, i, 1, rfl, rfl, D, vs, _, _, rfl, rfl, SqL.of f1, atI_nat f2, _, rfl, h.n, 1, rfl, rfl, r, xs, _, h.n + 1, rfl, rfl, f3, (by rw [f4]; exact ixNn (by omega)), ?_⟩
          obtain ⟨rs2, ers2, w7⟩ := f6 [46]
          refine ⟨_, rs2, _, _, _, _, rfl, w7.less (by simp), ers2, fun a b => ?_⟩
          rw [← stA_s h hi]
          show (if a = i + 1 ∧ b = h.n + 1 then [46] else S a b) = _
          rw [eS]
          by_cases z : a = i + 1 ∧ b = h.n + 1
          · rw [if_pos z, if_pos ⟨z, e⟩]
          · rw [if_neg z, if_neg (fun y => z y.1)]
        · have e : ¬ h.lit i = 1 := by simpa using e
          refine ⟨S, rs, _, _, _, _, rfl, w5.less (by simp), ers, fun a b => ?_⟩
          rw [← stA_s h hi, eS, if_neg (fun y => e y.2)]
    · rintro σ H2 ⟨S, rs, z3, z4, z5, z6, rfl, w3, ers, eS⟩
      refine ⟨_, rfl, q _ _ w3.same ?_⟩
      have hi := ll_im w3
      rw [← rowsF_congr (S := S) (fun a b ha _ => by rw [eS, stA_n h a b ha]), rowsF_d]
      have e : (rs.map fun r => PyData.list r.2) = (List.range (h.n + 2)).map fun i => .list (dsF S (h.n + 2) i) := by
        have := congrArg (List.map PyData.list) ers
        rw [List.map_map, List.map_map] at this
        exact this
      rw [← e]
      exact hi
end
/-- the table when rooms behind k are gone -/
def ndL (k e : Nat) : List Nat := List.range (k + 1) ++ [e]
def rowsE (S : Nat → Nat → List Nat) (k e : Nat) : List (List (List Nat)) := (ndL k e).map fun i => (ndL k e).map fun j => S i j
theorem ndL_len (k e : Nat) : (ndL k e).length = k + 2 := by unfold ndL; rw [List.length_append, List.length_range]; rfl
theorem rowsE_len (S : Nat → Nat → List Nat) (k e : Nat) : (rowsE S k e).length = k + 2 := by unfold rowsE; rw [List.length_map, ndL_len]
theorem rowsE_row {S : Nat → Nat → List Nat} {k e : Nat} : ∀ r ∈ rowsE S k e, r.length = k + 2 := by
  intro r hr
  obtain ⟨i, _, rfl⟩ := List.mem_map.mp hr
  rw [List.length_map, ndL_len]
theorem rowsE_sz {S : Nat → Nat → List Nat} {k e m : Nat} (h : ∀ i j, (S i j).length ≤ m) : ∀ r ∈ rowsE S k e, ∀ t ∈ r, t.length ≤ m := by
  intro r hr t ht
  obtain ⟨i, _, rfl⟩ := List.mem_map.mp hr
  obtain ⟨j, _, rfl⟩ := List.mem_map.mp ht
  exact h i j
theorem rowsF_N (S : Nat → Nat → List Nat) (n : Nat) : rowsF S (n + 2) = rowsE S n (n + 1) := by
  have e : ndL n (n + 1) = List.range (n + 2) := by unfold ndL; rw [← List.range_succ]
  unfold rowsE rowsF
  rw [e]
theorem without_N (S : Nat → Nat → List Nat) {k : Nat} (e : Nat) (h1 : 1 ≤ k) (h3 : k ≤ 3) : withoutL (rowsE S k e) (k + 2) k = rowsE (stG S k) (k - 1) e := by
  match k, h1, h3 with
  | 1, _, _ => rfl
  | 2, _, _ => rfl
  | 3, _, _ => rfl
theorem elimS_s (S : Nat → Nat → List Nat) {k : Nat} (h1 : 1 ≤ k) : elimS S k = elimS (stG S k) (k - 1) := by
  match k, h1 with
  | k + 1, _ => rfl
def spPatOf (cB : Addr) : Sp := fun vs H Q E => ∃ (h : Hall) (hv : V), vs = [hv] ∧ h.Ok ∧ Im H [] h.d hv ∧ (h.n ≤ 3 → ∀ H', Sm H H' → Q (.str (SX.S (patOf h))) H') ∧ (3 < h.n → E (.ref cB) none H)
section
variable {P : Program} {w : World} {K : PySem.W.Frag} {mg : Str → Option Value} {base : Heap}
theorem sc_pattern_of : FnScope ["hall", "table"] ["hall"] (defScope s_pattern_of) := ⟨rfl, rfl, rfl, by decide +kernel, rfl, by decide +kernel, by decide +kernel⟩
theorem ok_pattern_of {f cB : Addr} {fd : FuncData} (F : Fun K "pattern_of" "pattern_of" s_pattern_of f fd) (g_len : mg "len" = none) (g_MOST_ROOMS : ∃ t, mg "MOST_ROOMS" = some (.int 3 t)) (X_TooBig : XCls K mg "TooBig" cB) (C_straight : Cal P w K mg base CX0 2 "straight" ["hall"] spStraight) (C_without : Cal P w K mg base CX0 2 "without" ["table", "by"] spWithout) : FnOk P w K mg base (L2.CX P w) 3 f fd ["hall"] (spPatOf cB) := by
  refine F.okX sc_pattern_of (fun vs H Q E h => ?_) (fun cdv A outer s H vs Q E hr h => ?_)
  · obtain ⟨_, _, rfl, _⟩ := h
    rfl
  · obtain ⟨h, hv, rfl, o, hI, q1, q2⟩ := h
    obtain ⟨tM, g_MOST_ROOMS⟩ := g_MOST_ROOMS
    refine ⟨_, (pss_cons (ps_if (pt_cmpR oN_gt (pe_callB (lenS (K := K) rfl) (by rfl) g_len PySem.boot_len (pa_cons (pe_ix ix_im (pv 0) pe_int (fun _ _ => rfl)) pa_nil)) (pe_glob (v := .int 3) rfl g_MOST_ROOMS ⟨_, rfl⟩) (nomark _))
        (pss_one (ps_raise rfl (takes_of rfl rfl rfl rfl) (X_TooBig.mk1 rfl)))
        pss_nil)
      (pss_cons (ps_set (i := 1) sc_pattern_of.nd rfl (Or.inl rfl) (pe_fn C_straight hr (by decide) rfl (pa_cons (pv 0) pa_nil)))
      (pss_cons (ps_while (passes_of rfl) (pt_cmpR oN_gt (pe_callB (lenS (K := K) rfl) (by rfl) g_len PySem.boot_len (pa_cons (pv 1) pa_nil)) pe_int (nomark _))
        (pss_one (ps_set (i := 1) sc_pattern_of.nd rfl (Or.inl rfl) (pe_fn C_without hr (by decide) rfl (pa_cons (pv 1) (pa_cons (pe_op oN_sub (pe_callB (lenS (K := K) rfl) (by rfl) g_len PySem.boot_len (pa_cons (pv 1) pa_nil)) pe_int) pa_nil))))))
      (pss_one (ps_ret (pe_ix (ixL (K := K) rfl) (pe_ix (ixL (K := K) rfl) (pv 1) pe_int (fun _ _ => rfl)) pe_int (fun _ _ => rfl))))))), ?_⟩
    have n1 := o.n1
    refine x_test (x_op (t_n hI ⟨h.n, 3, rfl, rfl, _, rfl, ?_⟩))
    refine ite2 (fun c => q2 (by simpa using c)) (fun c => ?_)
    have hn : h.n ≤ 3 := by simpa using c
    have q1 := q1 hn
    refine ⟨_, rfl, h, hv, rfl, o, hn, hI, fun tv H1 s1 it => ?_⟩
    rw [rowsF_N] at it
    -- while
    refine ⟨fun m σ H' => ∃ (S : Nat → Nat → List Nat) (tv : V) (k : Nat), σ = [some hv, some tv] ∧ Sm H H' ∧ Im H' [] (tbD (rowsE S k (h.n + 1))) tv ∧ k ≤ 3 ∧ elimS S k 0 (h.n + 1) = patOf h ∧ (∀ i j, (S i j).length ≤ [1000, 248, 60, 13].getD k 0) ∧ m = k, ⟨_, st0 h (h.n + 1), tv, h.n, rfl, s1, it, hn, rfl, fun i j => ?_, rfl⟩, ?_⟩
    · exact Nat.le_trans (st0_len o (h.n + 1) i j) (by
        match h.n, hn with
        | 0, _ => decide
        | 1, _ => decide
        | 2, _ => decide
        | 3, _ => decide)
    rintro m σ H2 ⟨S, tv, k, rfl, s2, it, hk, eP, hS, rfl⟩
    have it2 := it
    obtain ⟨l, xs, rfl, e1, _, jx⟩ := it2
    have hxl : xs.length = m + 2 := by rw [jx.length, List.length_map, rowsE_len]
    refine ⟨_, rfl, l, xs, rfl, .inl (SqL.of e1), xs.length, 2, rfl, rfl, _, rfl, ite2 (fun c => ?_) (fun c => ?_)⟩
    · have c : 2 < xs.length := by simpa using c
      refine ⟨_, fun σ' H' hN => hN, ?_⟩
      refine ⟨_, rfl, _, rfl, l, xs, rfl, .inl (SqL.of e1), xs.length, 2, rfl, rfl, by omega, rowsE S m (h.n + 1), .ref l, m + 2, m, (by rw [hxl]; rfl), it, rowsE_len _ _ _, rowsE_row, rowsE_sz (fun i j => Nat.le_trans (hS i j) ?_), by omega, by omega, fun v H3 s3 i3 => ?_⟩
      · match m, hk with
        | 0, _ => decide
        | 1, _ => decide
        | 2, _ => decide
        | 3, _ => decide
      · rw [without_N S _ (by omega) hk] at i3
        refine ⟨m - 1, by omega, stG S m, v, m - 1, rfl, s2.trans s3, i3, by omega, ?_, fun i j => ?_, rfl⟩
        · rw [← elimS_s S (by omega)]; exact eP
        · have h1 := stG_len S hS m i j
          refine Nat.le_trans h1 ?_
          have hm : 1 ≤ m := by omega
          clear h1 hS i3 it e1 eP jx hxl
          match m, hm, hk with
          | 1, _, _ => decide
          | 2, _, _ => decide
          | 3, _, _ => decide
    · have c : ¬ 2 < xs.length := by simpa using c
      have hm : m = 0 := by omega
      subst hm
      obtain ⟨_, xs1, l3, ys3, ex, el, _, e1, e2, e3⟩ := tab_at (i := 0) (j := 1) it (rowsE_len _ _ _) rowsE_row (by omega) (by omega)
      cases ex
      refine ⟨_, rfl, l, _, (0 : Int), _, rfl, rfl, SqL.of el, atI_nat e1, l3, _, (1 : Int), _, rfl, rfl, SqL.of e2, atI_nat e3, ?_⟩
      have e : gt (rowsE S 0 (h.n + 1)) 0 1 = patOf h := by rw [← eP]; rfl
      rw [e]
      exact q1 _ s2
end
/-- cut to m rooms -/
def cutL (m : Nat) (h : Hall) : List (List Nat) := (h.rooms.take m).map fun r => r.map (· % m)
def cutR (m : Nat) (h : Hall) : List (List Nat) := cutL m h ++ List.replicate (m - (cutL m h).length) ((cutL m h).getD 0 [])
def cutH (m : Nat) (h : Hall) : Hall := ⟨h.w, cutR m h, ((List.replicate m h.lights).flatten).take m⟩
theorem cutL_len {m : Nat} {h : Hall} : (cutL m h).length = min m h.n := by unfold cutL; rw [List.length_map, List.length_take]; rfl
theorem cutR_len (m : Nat) (h : Hall) : (cutR m h).length = m := by
  have := cutL_len (m := m) (h := h)
  unfold cutR; rw [List.length_append, List.length_replicate]; omega
theorem cutL_row {m : Nat} {h : Hall} (o : h.Ok) (hm : 0 < m) : ∀ r ∈ cutL m h, r.length = h.w ∧ ∀ g ∈ r, g < m := fun r hr => by
  obtain ⟨x, hx, rfl⟩ := List.mem_map.mp hr
  refine ⟨by rw [List.length_map]; exact o.row x (List.mem_of_mem_take hx), fun g hg => ?_⟩
  obtain ⟨y, _, rfl⟩ := List.mem_map.mp hg
  exact Nat.mod_lt _ hm
theorem cutR_row {m : Nat} {h : Hall} (o : h.Ok) (hm : 0 < m) : ∀ r ∈ cutR m h, r.length = h.w ∧ ∀ g ∈ r, g < m := fun r hr => by
  rcases List.mem_append.mp hr with z | z
  · exact cutL_row o hm r z
  · rw [List.eq_of_mem_replicate z]
    have hl := cutL_len (m := m) (h := h)
    have n1 := o.n1
    exact cutL_row o hm _ (getD_mem (by omega))
theorem cutH_n (m : Nat) (h : Hall) : (cutH m h).n = m := cutR_len m h
theorem flat_len (m : Nat) (l : List Nat) : (List.replicate m l).flatten.length = m * l.length := by
  induction m with
  | zero => simp
  | succ m ih => rw [List.replicate_succ, List.flatten_cons, List.length_append, ih, Nat.succ_mul]; omega
theorem cutH_ok {m : Nat} {h : Hall} (o : h.Ok) (hm : 0 < m) (h6 : m ≤ 600) : (cutH m h).Ok := by
  refine ⟨o.w1, o.w3, by rw [cutH_n]; exact hm, by rw [cutH_n]; exact h6, fun r hr => (cutR_row o hm r hr).1, fun r hr g hg => by rw [cutH_n]; exact (cutR_row o hm r hr).2 g hg, ?_, fun l hl => ?_⟩
  · rw [cutH_n]
    show (((List.replicate m h.lights).flatten).take m).length = m
    rw [List.length_take, flat_len, o.len]
    have : m * 1 ≤ m * h.n := Nat.mul_le_mul_left _ o.n1
    omega
  · have h1 := List.mem_of_mem_take hl
    obtain ⟨x, hx, hy⟩ := List.mem_flatten.mp h1
    rw [List.eq_of_mem_replicate hx] at hy
    exact o.lit01 l hy
theorem map_flat (m : Nat) (l : List Nat) : (List.replicate m (l.map nD)).flatten = ((List.replicate m l).flatten).map nD := by
  rw [List.map_flatten, List.map_replicate]
theorem cutD_take (ds : List PyData) (n : Nat) : cutD ds none (some (n : Int)) = ds.take n := by
  have e0 : HT.sIx ds.length 0 none = 0 := rfl
  have e1 : HT.sIx ds.length ds.length (some (n : Int)) = min n ds.length := by
    unfold HT.sIx
    simp
    omega
  unfold cutD
  rw [e0, e1, List.drop_zero, Nat.sub_zero]
  by_cases h : n ≤ ds.length
  · rw [Nat.min_eq_left h]
  · rw [Nat.min_eq_right (by omega), List.take_length, List.take_of_length_le (by omega)]
def spCut (m : Nat) : Sp := fun vs H Q _ => ∃ (h : Hall) (hv : V), vs = [hv] ∧ h.Ok ∧ Im H [] h.d hv ∧ ∀ v H', Sm H H' → Im H' [] (tightH (cutH m h)).d v → Q v H'
section
variable {P : Program} {w : World} {K : PySem.W.Frag} {mg : Str → Option Value} {base : Heap}
theorem sc_l_three : FnScope ["hall", "rooms", "goal", "room"] ["hall"] (defScope s_l_three) := ⟨rfl, rfl, rfl, by decide +kernel, rfl, by decide +kernel, by decide +kernel⟩
theorem ok_l_three {f : Addr} {fd : FuncData} (F : Fun K "_law_three" "_law_three" s_l_three f fd) (g_len : mg "len" = none) (g_tuple : mg "tuple" = none) (C_l_tight : Cal P w K mg base CX0 2 "_law_tight" ["hall"] spLtight) : FnOk P w K mg base CX0 3 f fd ["hall"] (spCut 3) := by
  refine F.ok sc_l_three (fun vs H Q E h => ?_) (fun cdv A outer s H vs Q E hr h => ?_)
  · obtain ⟨_, _, rfl, _⟩ := h
    rfl
  · obtain ⟨h, hv, rfl, o, hI, q⟩ := h
    refine ⟨_, (pss_cons (ps_setLc (i := 1) (own := [("room", 3)]) (g := (gName 3)) (tt := tYes) rfl sc_l_three.nd rfl rfl (sw_true rfl rfl rfl (by decide +kernel)) (pi_tup (pe_slice (slT (K := K) rfl) (pe_ix ix_im (pv 0) pe_int (fun _ _ => rfl)) po_none (po_some pe_int))) (blkOk_by (by kernel_rfl)) (fun _ _ _ _ _ => (pg_name (i := 3) sc_l_three.nd rfl (by first | exact Or.inl rfl | exact Or.inr rfl))) (fun _ _ _ _ _ => pts_nil) (fun _ _ _ _ _ => (pe_callTy (tupOf (K := K) rfl) (by rfl) g_tuple (by decide +kernel) (pa_cons (pe_lc (own := [("goal", 2)]) (g := (gName 2)) (tt := tYes) rfl sc_l_three.nd (piT (K := K) rfl (pv 3)) (blkOk_by (by kernel_rfl)) (fun _ _ _ _ _ => (pg_name (i := 2) sc_l_three.nd rfl (by first | exact Or.inl rfl | exact Or.inr rfl))) (fun _ _ _ _ _ => pts_nil) (fun _ _ _ _ _ => (pe_op oN_mod (pv 2) pe_int))) pa_nil))))
      (pss_cons (ps_while PassesOwn.never (pt_cmpR oN_lt (pe_callB (lenS (K := K) rfl) (by rfl) g_len PySem.boot_len (pa_cons (pv 1) pa_nil)) pe_int (nomark _))
        (pss_one (ps_expr (pe_bm PySem.F.plainAttrs_list PySem.F.slot_list_append PySem.F.type_list_append mt_append (pv 1) (pa_cons (pe_ix (ixL (K := K) rfl) (pv 1) pe_int (fun _ _ => rfl)) pa_nil)))))
      (pss_one (ps_ret (pe_fn C_l_tight hr (by decide) rfl (pa_cons (pe_tup (pa_cons (pe_ix ix_im (pv 0) pe_int (fun _ _ => rfl)) (pa_cons (pe_callTy (tupOf (K := K) rfl) (by rfl) g_tuple (by decide +kernel) (pa_cons (pv 1) pa_nil)) (pa_cons (pe_slice (slT (K := K) rfl) (pe_op (op_repN (K := K) rfl) (pe_ix ix_im (pv 0) pe_int (fun _ _ => rfl)) pe_int) po_none (po_some pe_int)) pa_nil)))) pa_nil)))))), ?_⟩
    have w0 : Wd H H [] [(h.d, hv)] := Wd.start (by simpa using hI)
    have n6 := o.n600
    have n1 := o.n1
    have w3 := o.w3
    have hcl := cutL_len (m := 3) (h := h)
    -- rooms = [..]
    refine sq_asg (x_lcw (x_itup ?_))
    refine ⟨_, rfl, _, _, 1, _, hI, rfl, rfl, fun vr jr => ⟨3, rfl, ?_⟩⟩
    have w1 := w0.add jr
    refine d_cut w1 (ds := h.rooms.map roomD) (w1.get 0) fun v2 H2 w2 => ?_
    have ect : cutD (h.rooms.map roomD) none (some ((3 : Nat) : Int)) = (h.rooms.take 3).map roomD := by rw [cutD_take, List.map_take]
    rw [show (some (3 : Int)) = some ((3 : Nat) : Int) from rfl, ect] at w2
    obtain ⟨a2, x2, rfl, e2, _, j2⟩ := w2.get 0
    refine ⟨a2, rfl, ⟨_, SqT.of e2⟩, fun D hD => lc_tupD (K := K) (ds := (h.rooms.take 3).map roomD) (fun j => ((cutL 3 h).take j).map roomD) 0 w2 hD rfl rfl (fun j hj => ?_) (fun j x d H3 hx ix w3 => CompTurn.all fun Qt k => ?_) (fun H3 w3 => ?_)⟩
    · rw [List.length_map, List.length_take]; exact sl_small (by omega)
    · obtain ⟨room, em, rfl⟩ : ∃ room, (h.rooms.take 3)[j]? = some room ∧ d = roomD room := by
        rw [List.getElem?_map] at hx
        cases e : (h.rooms.take 3)[j]? with
        | none => rw [e] at hx; cases hx
        | some m => rw [e] at hx; exact ⟨m, rfl, (Option.some.inj hx).symm⟩
      have hm : room ∈ h.rooms := List.mem_of_mem_take (List.mem_of_getElem? em)
      have hml := o.row room hm
      have w4 := w3.add ix
      obtain ⟨ag, xg, rfl, eg, _, jg⟩ := ix
      have := jg.nats_inv
      subst this
      refine ⟨_, rfl, ag, rfl, ⟨_, SqT.of eg⟩, fun D2 hD2 => lc_tupW (K := K) (xs := room.map nV) (fun j => ((room.map (· % 3)).take j).map nD) w4 hD2 rfl (fun i hi => ?_) (fun i H4 hi w5 => SqT.of (Im.nats (w5.get 0))) (fun i x H4 hx2 w5 => CompTurn.all fun Qt2 k2 => ?_) (fun H4 w5 => ?_)⟩
      · rw [List.length_map, List.length_take, List.length_map]; exact sl_small (by omega)
      · obtain ⟨g, eg2, rfl⟩ : ∃ g, room[i]? = some g ∧ x = nV g := by
          rw [List.getElem?_map] at hx2
          cases e : room[i]? with
          | none => rw [e] at hx2; cases hx2
          | some g => rw [e] at hx2; exact ⟨g, rfl, (Option.some.inj hx2).symm⟩
        refine ⟨_, rfl, g, 3, rfl, rfl, (by show 0 < 3; decide), ?_⟩
        refine k2 _ _ (nD (g % 3)) w5 rfl ?_
        show (((room.map (· % 3)).take (i + 1)).map nD) = _
        rw [List.take_add_one, List.getElem?_map, eg2, List.map_append]; rfl
      · rw [List.length_map, List.take_of_length_le (by rw [List.length_map]; exact Nat.le_refl _)] at w5
        obtain ⟨xs, ex, ixs⟩ := w5.list 0
        refine ⟨D2, _, rfl, .inl ⟨SqL.of ex, fun p hp => ?_⟩⟩
        have w6 := (w5.tup hp ixs).pop
        refine k _ _ (roomD (room.map (· % 3))) (w6.less (by intro p hp; exact List.mem_cons_of_mem _ (List.mem_cons_of_mem _ hp))) (w6.get 0) ?_
        show (((cutL 3 h).take (j + 1)).map roomD) = _
        rw [List.take_add_one]
        unfold cutL
        rw [List.getElem?_map, em, List.map_append]; rfl
    · have e3 : (cutL 3 h).take ((h.rooms.take 3).map roomD).length = cutL 3 h := List.take_of_length_le (by unfold cutL; rw [List.length_map, List.length_map]; exact Nat.le_refl _)
      rw [e3] at w3
      have w3 := w3.less (ims' := [(h.d, hv)]) (by simp)
      -- while
      refine ⟨fun m σ H' => ∃ i, m = 3 - (cutL 3 h ++ List.replicate i ((cutL 3 h).getD 0 [])).length ∧ (cutL 3 h ++ List.replicate i ((cutL 3 h).getD 0 [])).length ≤ 3 ∧ σ = [some hv, some (.ref D), none, none] ∧ Wd H H' [.L D ((cutL 3 h ++ List.replicate i ((cutL 3 h).getD 0 [])).map roomD)] [(h.d, hv)], ⟨_, 0, rfl, by simp; omega, rfl, by simpa using w3⟩, ?_⟩
      rintro m σ H4 ⟨i, rfl, hle, rfl, w4⟩
      obtain ⟨xs, ex, ixs⟩ := w4.list 0
      refine ⟨_, rfl, D, _, rfl, .inl (SqL.of ex), _, 3, rfl, rfl, _, rfl, ?_⟩
      rw [ixs.length, List.length_map]
      have ell : (cutL 3 h ++ List.replicate i ((cutL 3 h).getD 0 [])).length = (cutL 3 h).length + i := by rw [List.length_append, List.length_replicate]
      refine ite2 (fun c => ?_) (fun c => ?_)
      · have c : (cutL 3 h ++ List.replicate i ((cutL 3 h).getD 0 [])).length < 3 := by simpa using c
        refine ⟨_, fun σ' H' hN => hN, ?_⟩
        have e0 : ((cutL 3 h ++ List.replicate i ((cutL 3 h).getD 0 [])).map roomD)[0]? = some (roomD ((cutL 3 h).getD 0 [])) := by
          rw [List.getElem?_map, get_app (getD_get (d := []) (show 0 < (cutL 3 h).length by omega))]; rfl
        obtain ⟨x0, ex0, ix0⟩ := ixs.get e0
        refine ⟨_, rfl, .inl ⟨rfl, _, SqL.of ex⟩, _, rfl, D, _, 0, x0, rfl, rfl, SqL.of ex, atI_nat (j := 0) ex0, D, _, _, rfl, rfl, ex, by rw [ixs.length, List.length_map]; exact sl_small (by omega), ?_⟩
        have w5 := w4.turnL 0 (ds' := (cutL 3 h ++ List.replicate (i + 1) ((cutL 3 h).getD 0 [])).map roomD) (xs := xs ++ [x0]) rfl (by
          have := ixs.snoc ix0
          rw [show (cutL 3 h ++ List.replicate (i + 1) ((cutL 3 h).getD 0 [])).map roomD = (cutL 3 h ++ List.replicate i ((cutL 3 h).getD 0 [])).map roomD ++ [roomD ((cutL 3 h).getD 0 [])] from by rw [List.replicate_succ', ← List.append_assoc, List.map_append]; rfl]
          exact this)
        refine ⟨_, ?_, i + 1, rfl, ?_, rfl, w5⟩
        · rw [List.length_append, List.length_replicate]; omega
        · rw [List.length_append, List.length_replicate]; omega
      · have c : 3 ≤ (cutL 3 h ++ List.replicate i ((cutL 3 h).getD 0 [])).length := by simpa using c
        have ei : i = 3 - (cutL 3 h).length := by omega
        have er : cutL 3 h ++ List.replicate i ((cutL 3 h).getD 0 []) = cutR 3 h := by rw [ei]; rfl
        rw [er] at ixs w4
        refine ⟨_, rfl, _, _, 0, _, (w4.get 0).bare, rfl, rfl, fun v1 h1 => ?_⟩
        cases h1
        refine ⟨_, rfl, D, _, rfl, .inl ⟨SqL.of ex, fun p hp => ?_⟩⟩
        have w5 := (w4.tup hp ixs).pop
        refine ⟨_, rfl, _, _, 2, _, w5.get 1, rfl, rfl, fun v3 h3 => ?_⟩
        have w6 := w5.add h3
        refine x_c ?_
        refine d_repN (K := K) (k := 3) w6 (ds := h.lights.map nD) (w6.get 0) (fun e => ?_) (by decide) (by rw [List.length_map, o.len]; omega) fun v7 H7 w7 => ⟨3, rfl, ?_⟩
        · have := congrArg List.length e
          rw [List.length_map, o.len] at this
          simp at this; omega
        rw [map_flat] at w7
        refine d_cut w7 (w7.get 0) fun v8 H8 w8 => ?_
        rw [show (some (3 : Int)) = some ((3 : Nat) : Int) from rfl, cutD_take, ← List.map_take] at w8
        refine ⟨(by show 3 ≤ sizeLine; decide), fun p9 hp9 => ?_⟩
        have w9 := w8.tup hp9 (ImAll.cons (d := nD h.w) (x := nV h.w) rfl (ImAll.cons (w8.get 3) (ImAll.cons (w8.get 0) ImAll.nil)))
        exact ⟨cutH 3 h, .ref p9, rfl, cutH_ok o (by decide) (by decide), by rw [cutH_n]; decide, w9.get 0, fun v H5 s5 i5 => q v H5 (w9.same.trans s5) i5⟩
end
def ringH (m w : Nat) : Hall := ⟨w, (List.range m).map fun k => List.replicate w ((k + 1) % m), 1 :: List.replicate (m - 1) 0⟩
theorem ringH_n (m w : Nat) : (ringH m w).n = m := by show ((List.range m).map _).length = m; rw [List.length_map, List.length_range]
theorem ringH_ok {m w : Nat} (hm : 1 ≤ m) (h6 : m ≤ 600) (w1 : 1 ≤ w) (w3 : w ≤ 3) : (ringH m w).Ok := by
  refine ⟨w1, w3, by rw [ringH_n]; exact hm, by rw [ringH_n]; exact h6, fun r hr => ?_, fun r hr g hg => ?_, ?_, fun l hl => ?_⟩
  · obtain ⟨k, _, rfl⟩ := List.mem_map.mp hr
    exact List.length_replicate
  · obtain ⟨k, _, rfl⟩ := List.mem_map.mp hr
    rw [List.eq_of_mem_replicate hg, ringH_n]
    exact Nat.mod_lt _ hm
  · rw [ringH_n]
    show (1 :: List.replicate (m - 1) 0).length = m
    rw [List.length_cons, List.length_replicate]; omega
  · rcases List.mem_cons.mp hl with rfl | hl
    · decide
    · rw [List.eq_of_mem_replicate hl]; decide
theorem ring_go {m w k c : Nat} (hk : k < m) (hc : c < w) : (ringH m w).go k c = (k + 1) % m := by
  show (((List.range m).map fun k => List.replicate w ((k + 1) % m)).getD k []).getD c 0 = _
  rw [getD_map_range _ hk, List.getD_eq_getElem?_getD, List.getElem?_replicate, if_pos hc]; rfl
theorem ring_run {m w : Nat} : ∀ (t : List Nat) {k : Nat}, k < m → Val w t → (ringH m w).run k t = (k + t.length) % m
  | [], k, hk, _ => by show k = (k + 0) % m; rw [Nat.add_zero, Nat.mod_eq_of_lt hk]
  | c :: t, k, hk, ht => by
    show (ringH m w).run ((ringH m w).go k c) t = _
    rw [ring_go hk (ht c (by simp)), ring_run t (Nat.mod_lt _ (by omega)) fun d hd => ht d (by simp [hd])]
    rw [List.length_cons, Nat.mod_add_mod]; congr 1; omega
def spRing : Sp := fun vs H Q _ => ∃ m w : Nat, vs = [nV m, nV w] ∧ 1 ≤ m ∧ m ≤ 600 ∧ 1 ≤ w ∧ w ≤ 3 ∧ ∀ v H', Sm H H' → Im H' [] (ringH m w).d v → Q v H'
theorem flat_rep1 {α : Type} (n : Nat) (x : α) : (List.replicate n [x]).flatten = List.replicate n x := by
  induction n with
  | zero => rfl
  | succ n ih => rw [List.replicate_succ, List.flatten_cons, ih]; rfl
section
variable {P : Program} {w : World} {K : PySem.W.Frag} {mg : Str → Option Value} {base : Heap}
theorem sc_l_ring : FnScope ["many", "whistles", "rooms", "k"] ["many", "whistles"] (defScope s_l_ring) := ⟨rfl, rfl, rfl, by decide +kernel, rfl, by decide +kernel, by decide +kernel⟩
theorem ok_l_ring {f : Addr} {fd : FuncData} (F : Fun K "_law_ring" "_law_ring" s_l_ring f fd) (g_tuple : mg "tuple" = none) (g_range : mg "range" = none) : FnOk P w K mg base CX0 1 f fd ["many", "whistles"] spRing := by
  refine F.ok sc_l_ring (fun vs H Q E h => ?_) (fun cdv A outer s H vs Q E hr h => ?_)
  · obtain ⟨_, _, rfl, _⟩ := h
    rfl
  · obtain ⟨m, w', rfl, m1, m6, w1, w3, q⟩ := h
    refine ⟨_, (pss_cons (ps_setLc (i := 2) (own := [("k", 3)]) (g := (gName 3)) (tt := tYes) rfl sc_l_ring.nd rfl rfl (sw_true rfl rfl rfl (by decide +kernel)) (pi_rngN rfl g_range (pa_cons (pv 0) pa_nil)) (blkOk_by (by kernel_rfl)) (fun _ _ _ _ _ => (pg_name (i := 3) sc_l_ring.nd rfl (by first | exact Or.inl rfl | exact Or.inr rfl))) (fun _ _ _ _ _ => pts_nil) (fun _ _ _ _ _ => (pe_op (op_repN (K := K) rfl) (pe_tup (pa_cons (pe_op oN_mod (pe_op oN_add (pv 3) pe_int) (pv 0)) pa_nil)) (pv 1))))
      (pss_one (ps_ret (pe_tup (pa_cons (pv 1) (pa_cons (pe_callTy (tupOf (K := K) rfl) (by rfl) g_tuple (by decide +kernel) (pa_cons (pv 2) pa_nil)) (pa_cons (pe_op (catT (K := K) rfl) (pe_tup (pa_cons pe_int pa_nil)) (pe_op (op_repN (K := K) rfl) (pe_tup (pa_cons pe_int pa_nil)) (pe_op oN_sub (pv 0) pe_int))) pa_nil))))))), ?_⟩
    have w0 : Wd H H [] [] := Wd.start (by simp)
    refine ⟨_, rfl, m, rfl, by omega, fun D hD => lc_rangeW (fun j => (List.range j).map fun k => roomD (List.replicate w' ((k + 1) % m))) w0 hD rfl (fun j hj => ?_) (fun j H1 hj w1 => CompTurn.all fun Qt k => ?_) (fun H1 w1 => ?_)⟩
    · rw [List.length_map, List.length_range]; exact sl_small (by omega)
    · refine ⟨_, rfl, j, 1, rfl, rfl, _, rfl, _, m, rfl, rfl, by omega, (by show 1 ≤ sizeLine; decide), fun p hp => ?_⟩
      have w2 := w1.tup hp (ds := [nD ((j + 1) % m)]) (xs := [nV ((j + 1) % m)]) (ImAll.cons rfl ImAll.nil)
      refine ⟨_, rfl, d_repN (K := K) (k := w') w2 (w2.get 0) (by simp) (by omega) (by simp) fun v H3 w3 => ?_⟩
      rw [flat_rep1, ← List.map_replicate] at w3
      refine k _ _ (roomD (List.replicate w' ((j + 1) % m))) (w3.less (by simp)) (w3.get 0) ?_
      exact map_range_succ _ j
    · obtain ⟨xs, ex, ixs⟩ := w1.list 0
      refine ⟨_, rfl, _, rfl, D, _, rfl, .inl ⟨SqL.of ex, fun p hp => ?_⟩⟩
      have w2 := (w1.tup hp ixs).pop
      refine ⟨(by show 1 ≤ sizeLine; decide), fun p1 hp1 => ?_⟩
      have w3 := w2.tup hp1 (ds := [nD 1]) (xs := [nV 1]) (ImAll.cons rfl ImAll.nil)
      refine ⟨(by show 1 ≤ sizeLine; decide), fun p2 hp2 => ?_⟩
      have w4 := w3.tup hp2 (ds := [nD 0]) (xs := [nV 0]) (ImAll.cons rfl ImAll.nil)
      refine ⟨_, rfl, m, 1, rfl, rfl, m1, d_repN (K := K) (k := m - 1) w4 (w4.get 0) (by simp) (by omega) (by simp) fun v H5 w5 => ?_⟩
      rw [flat_rep1, ← List.map_replicate] at w5
      refine d_cat (K := K) w5 (w5.get 2) (w5.get 0) (by rw [List.length_map, List.length_replicate]; simp; omega) fun v6 H6 w6 => ?_
      refine ⟨(by show 3 ≤ sizeLine; decide), fun p7 hp7 => ?_⟩
      have w7 := w6.tup hp7 (ImAll.cons (d := nD w') (x := nV w') rfl (ImAll.cons (w6.get 4) (ImAll.cons (w6.get 0) ImAll.nil)))
      refine q _ _ w7.same ?_
      have := w7.get 0
      rw [show (ringH m w').d = .tuple [nD w', .tuple ((List.range m).map fun k => roomD (List.replicate w' ((k + 1) % m))), .tuple ([nD 1] ++ (List.replicate (m - 1) 0).map nD)] from by
        unfold Hall.d ringH
        rw [List.map_map]; rfl]
      exact this
end
/-- what isinstance says of an error of the class at D -/
structure ToldB (K : PySem.W.Frag) (cH cB : Addr) : Prop where
  xm : PySem.W.exmOne K (.ref cB) (.ref cH) = some true
  ex : ExcC K cB
  kB : PySem.W.kitOne K (.ref cB) (.ref cB) = some true
  kV : PySem.W.kitOne K (.ref cB) (.type "ValueError") = some true
def spTold18 : Sp := fun vs H Q _ => ∃ (h : Hall) (hv : V), vs = [hv] ∧ h.Ok ∧ Im H [] h.d hv ∧ (3 < h.n → ∀ l H', Wd H H' [.L l (bD [true, true])] [] → Q (.ref l) H') ∧ (h.n ≤ 3 → ∀ H', Sm H H' → Q (.str (SX.S (patOf h))) H')
/-! the pattern as a text -/
theorem pat_T {h : Hall} (o : h.Ok) (hn : h.n ≤ 3) : PatT h.w (patOf h) (hallL h) :=
  patT_of o.w1 o.w3 (Nat.le_trans (patOf_len o hn) (by decide)) (patOf_re o).run (patOf_re o).cat.alt
theorem pat_good {h : Hall} {t : List Nat} (ht : Val h.w t) : h.good t = true ↔ hallL h (tuneC t) := by
  unfold Hall.good
  rw [decide_eq_true_iff]
  constructor
  · exact fun z => ⟨t, ht, rfl, z⟩
  · rintro ⟨u, _, e, z⟩
    have e : t.map (· + 97) = u.map (· + 97) := e
    have : t = u := List.map_inj_right (fun a b z => by omega) |>.mp e
    rw [this]; exact z
theorem pat_1 {h : Hall} (o : h.Ok) (hn : h.n ≤ 3) : 1 ≤ (patOf h).length := (patOk_inv (pat_T o hn).ok).2.1.1
/-- matches says what the hall says -/
theorem pat_call {cP : Addr} {h : Hall} {t : List Nat} {H : Hp} {Q : VK} (o : h.Ok) (hn : h.n ≤ 3) (ht : Val h.w t) (q : ∀ H', Sm H H' → Q (.bl (h.good t)) H') : spMatches cP [.str (SX.S (patOf h)), nV h.w, .str (tuneS t)] H Q E0 := by
  obtain ⟨ok, hz, p, e, hsg, hsz, hL⟩ := pat_T o hn
  have h63 : p.sz ≤ 63 := by
    obtain ⟨hw, _, hcod⟩ := patOk_inv ok
    have h1 := letC_abc hw.2 (codes_parse hcod).2
    have h2 : (abcN (patOf h)).length ≤ 60 := patOf_let o hn
    omega
  refine ⟨.str (SX.S (patOf h)), nD h.w, _, _, t, rfl, rfl, rfl, ?_, fun z => (by rw [ok] at z; cases z), fun _ => ⟨patOf h, h.w, p, rfl, rfl, e, ht, fits_small hsg h63 _, fun H5 s5 => ?_⟩⟩
  · show (SX.S (patOf h)).length ≤ 1000000
    rw [SX.S_len]; omega
  · have eg : accB p (tuneC t) = h.good t := by rw [Bool.eq_iff_iff, accB_iff, hL, pat_good ht]
    rw [eg]
    exact q _ s5
section
variable {P : Program} {w : World} {K : PySem.W.Frag} {mg : Str → Option Value} {base : Heap}
theorem sc_l_told : FnScope ["hall", "e"] ["hall"] (defScope s_l_told) := ⟨rfl, rfl, rfl, by decide +kernel, rfl, by decide +kernel, by decide +kernel⟩
theorem ok_l_told {f cH cB : Addr} {fd : FuncData} (F : Fun K "_law_told" "_law_told" s_l_told f fd) (g_isinstance : mg "isinstance" = none) (g_ValueError : mg "ValueError" = none) (X_HallError : XCls K mg "HallError" cH) (X_TooBig : XCls K mg "TooBig" cB) (tB : ToldB K cH cB)
    (C_pattern_of : Cal P w K mg base (L2.CX P w) 3 "pattern_of" ["hall"] (spPatOf cB)) : FnOk P w K mg base CX0 4 f fd ["hall"] spTold18 := by
  refine F.ok sc_l_told (fun vs H Q E h => ?_) (fun cdv A outer s H vs Q E hr h => ?_)
  · obtain ⟨_, _, rfl, _⟩ := h
    rfl
  · obtain ⟨h, hv, rfl, o, hI, q1, q2⟩ := h
    refine ⟨_, (pss_one (ps_try_as (i := 1) rfl rfl sc_l_told.nd rfl rfl ⟨rfl, by decide, Or.inl X_HallError.g⟩ takes0 (fun W pn xe tk po =>
        (pss_one (ps_ret (pe_fs C_pattern_of hr (by decide) rfl tk (pa_cons (pv 0) pa_nil))))) (fun a oe cls d pn hz hf =>
        (pss_one (ps_ret (pe_lst (pa_cons (pe_callB (isX hz hf) (by rfl) g_isinstance (by decide +kernel) (pa_cons (pv 1) (pa_cons (X_TooBig.pe rfl) pa_nil))) (pa_cons (pe_callB (isX hz hf) (by rfl) g_isinstance (by decide +kernel) (pa_cons (pv 1) (pa_cons (pe_bltn (v := .ty "ValueError") (by rfl) g_ValueError (by decide +kernel) rfl) pa_nil))) pa_nil)))))))), ?_⟩
    have w0 : Wd H H [] [] := Wd.start (by simp)
    refine ⟨_, rfl, h, hv, rfl, o, hI, fun n8 => q2 n8, fun n8 => ?_⟩
    refine ⟨true, tB.xm, fun _ a ha => ?_, fun z => nomatch z⟩
    exact ⟨_, rfl, cB, _, _, _, rfl, rfl, tB.ex, rfl, .own _, tB.kB, _, rfl, cB, _, _, _, rfl, rfl, tB.ex, rfl, .ty _, tB.kV, (by show 2 ≤ sizeLine; decide), fun l hl => q1 n8 l _ (w0.pushL hl ⟨_, _, rfl, rfl, _, _, rfl, rfl, rfl⟩)⟩
end
def spOnce (K : PySem.W.Frag) : Sp := fun vs H Q _ => ∃ (a : Addr) (ns : List Int), vs = [.ref a] ∧ SqL K H a (ns.map V.int) ∧ LamX.Tabs Tb.T H ∧ ∀ H', Sm H H' → Q (.bl true) H'
section
variable {P : Program} {w : World} {K : PySem.W.Frag} {mg : Str → Option Value} {base : Heap}
theorem sc_law : FnScope ["script", "one"] ["script"] (defScope s_law) := ⟨rfl, rfl, rfl, by decide +kernel, rfl, by decide +kernel, by decide +kernel⟩
theorem ok_law {f : Addr} {fd : FuncData} (F : Fun K "law" "law" s_law f fd) (C_l_once : Cal P w K mg base CX0 20 "_law_once" ["script"] (spOnce K)) : FnOk P w K mg base CX0 21 f fd ["script"] (spLawT K) := by
  refine F.ok sc_law (fun vs H Q E h => ?_) (fun cdv A outer s H vs Q E hr h => ?_)
  · obtain ⟨_, _, rfl, _⟩ := h
    rfl
  · obtain ⟨a, ns, rfl, hS, hlen, hTab, q⟩ := h
    refine ⟨_, (pss_one (ps_ret (pe_and (pe_fn C_l_once hr (by decide) rfl (pa_cons (pv 0) pa_nil)) (pe_one (pe_fn C_l_once hr (by decide) rfl (pa_cons (pe_lc (own := [("one", 1)]) (g := (gName 1)) (tt := tYes) rfl sc_law.nd (pi_list (pv 0)) (blkOk_by (by kernel_rfl)) (fun _ _ _ _ _ => (pg_name (i := 1) sc_law.nd rfl (by first | exact Or.inl rfl | exact Or.inr rfl))) (fun _ _ _ _ _ => pts_nil) (fun _ _ _ _ _ => (pe_op op_add (pv 1) pe_int))) pa_nil)))))), ?_⟩
    refine ⟨_, rfl, a, ns, rfl, hS, hTab, fun H1 s1 => ⟨true, rfl, iteT ?_⟩⟩
    have y : Wd H1 H1 [] [] := Wd.start (by simp)
    have hS1 := s1.seq hS
    refine ⟨_, rfl, a, rfl, ⟨_, hS1⟩, fun D hD => lc_listW (K := K) (xs := ns.map V.int) (fun j => ((ns.map (· + 1)).take j).map PyData.int) y hD rfl (fun j hj => ?_) (fun j H2 hj w2 => w2.same.seq hS1) (fun j x H2 hx w2 => CompTurn.all fun Qt k => ?_) (fun H2 w2 => ?_)⟩
    · rw [List.length_map, List.length_take, List.length_map]; exact sl_small (by omega)
    · obtain ⟨n, en, rfl⟩ : ∃ n, ns[j]? = some n ∧ x = V.int n := by
        rw [List.getElem?_map] at hx
        cases e : ns[j]? with
        | none => rw [e] at hx; cases hx
        | some n => rw [e] at hx; exact ⟨n, rfl, (Option.some.inj hx).symm⟩
      refine ⟨_, rfl, _, _, rfl, rfl, ?_⟩
      refine k _ _ (.int (n + 1)) w2 rfl ?_
      show (((ns.map (· + 1)).take (j + 1)).map PyData.int) = _
      rw [List.take_add_one, List.getElem?_map, en, List.map_append]; rfl
    · rw [List.length_map, List.take_of_length_le (by rw [List.length_map]; exact Nat.le_refl _)] at w2
      obtain ⟨xs, ex, ix⟩ := w2.list 0
      have := ix.ints_inv
      subst this
      exact ⟨D, ns.map (· + 1), rfl, SqL.of ex, w2.same.tabs (s1.tabs hTab), fun H3 s3 => q H3⟩
end
theorem rep_a {m : Nat} (h : m ≤ 4) : repS (Str.ofString "a") m = tuneS (List.replicate m 0) := by
  match m, h with
  | 0, _ => decide +kernel
  | 1, _ => decide +kernel
  | 2, _ => decide +kernel
  | 3, _ => decide +kernel
  | 4, _ => decide +kernel
theorem val_a {w : Nat} (h : 1 ≤ w) (m : Nat) : Val w (List.replicate m 0) := fun c hc => by rw [List.eq_of_mem_replicate hc]; omega
theorem ring_a {m w : Nat} (h1 : 1 ≤ m) (_h3 : m ≤ 3) (w1 : 1 ≤ w) : (ringH m w).good (List.replicate m 0) = true := by
  unfold Hall.good
  rw [ring_run _ (by omega) (val_a w1 m), List.length_replicate, Nat.zero_add, Nat.mod_self]
  exact decide_eq_true rfl
theorem ring_b {m w : Nat} (h1 : 1 ≤ m) (h3 : m ≤ 3) (w1 : 1 ≤ w) : (ringH m w).good (List.replicate (m + 1) 0) = decide (m = 1) := by
  unfold Hall.good
  rw [ring_run _ (by omega) (val_a w1 (m + 1)), List.length_replicate, Nat.zero_add]
  match m, h1, h3 with
  | 1, _, _ => exact decide_eq_true rfl
  | 2, _, _ => exact decide_eq_false (fun z => by cases z)
  | 3, _, _ => exact decide_eq_false (fun z => by cases z)
section
variable {P : Program} {w : World} {K : PySem.W.Frag} {mg : Str → Option Value} {base : Heap}
theorem sc_l_once : FnScope ["script", "hall", "text", "at", "tune", "sign", "many", "told"] ["script"] (defScope s_l_once) := ⟨rfl, rfl, rfl, by decide +kernel, rfl, by decide +kernel, by decide +kernel⟩
theorem ok_l_once {f cB cP : Addr} {fd : FuncData} (F : Fun K "_law_once" "_law_once" s_l_once f fd) (g_isinstance : mg "isinstance" = none) (g_str : mg "str" = none) (g_range : mg "range" = none) (g_len : mg "len" = none)
    (C_l_cell : Cal P w K mg base CX0 1 "_law_cell" ["script", "k"] (spCell K)) (C_l_hall : Cal P w K mg base CX0 3 "_law_hall" ["script", "at"] (spLhall K)) (C_l_three : Cal P w K mg base CX0 3 "_law_three" ["hall"] (spCut 3)) (C_l_tune : Cal P w K mg base CX0 2 "_law_tune" ["script", "at", "whistles", "most"] (spLtune K)) (C_l_good : Cal P w K mg base CX0 2 "_law_good" ["hall", "tune"] spLgood)
    (C_l_ring : Cal P w K mg base CX0 1 "_law_ring" ["many", "whistles"] spRing) (C_l_told : Cal P w K mg base CX0 4 "_law_told" ["hall"] spTold18) (C_pattern_of : Cal P w K mg base (L2.CX P w) 3 "pattern_of" ["hall"] (spPatOf cB)) (C_matches : Cal P w K mg base (L2.CX P w) 6 "matches" ["pattern", "whistles", "tune"] (spMatches cP))
    (C_hall_of : Cal P w K mg base (L2.CX P w) 11 "hall_of" ["pattern", "whistles"] (spHallOf cP cB)) : FnOk P w K mg base CX0 20 f fd ["script"] (spOnce K) := by
  refine F.ok sc_l_once (fun vs H Q E h => ?_) (fun cdv A outer s H vs Q E hr h => ?_)
  · obtain ⟨_, _, rfl, _⟩ := h
    rfl
  · obtain ⟨a, ns, rfl, hS, hTab, q⟩ := h
    refine ⟨_, (pss_cons (ps_set (i := 1) sc_l_once.nd rfl (Or.inl rfl) (pe_fn C_l_three hr (by decide) rfl (pa_cons (pe_fn C_l_hall hr (by decide) rfl (pa_cons (pv 0) (pa_cons pe_int pa_nil))) pa_nil)))
      (pss_cons (ps_set (i := 2) sc_l_once.nd rfl (Or.inl rfl) (pe_f0 C_pattern_of hr (by decide) rfl (pa_cons (pv 1) pa_nil)))
      (pss_cons (ps_if (PW.pt (pw_or (pt_not (pt_val (pe_callB (isD (T := "str") (by decide)) (by rfl) g_isinstance (by decide +kernel) (pa_cons (pv 2) (pa_cons (pe_bltn (v := .ty "str") (by rfl) g_str (by decide +kernel) rfl) pa_nil))))) (pw_or1 (pt_not (pt_chain oN_le oN_le pe_int (pe_callB call_len_str (by rfl) g_len (by decide +kernel) (pa_cons (pv 2) pa_nil)) pe_int)))))
        (pss_one (ps_ret pe_bl))
        pss_nil)
      (pss_cons (ps_for PassesOwn.never rfl (pi_rngN rfl g_range (pa_cons pe_int pa_nil)) (pg_name (i := 3) sc_l_once.nd rfl (by first | exact Or.inl rfl | exact Or.inr rfl))
        (pss_cons (ps_set (i := 4) sc_l_once.nd rfl (Or.inl rfl) (pe_fn C_l_tune hr (by decide) rfl (pa_cons (pv 0) (pa_cons (pv 3) (pa_cons (pe_ix ix_im (pv 1) pe_int (fun _ _ => rfl)) (pa_cons pe_int pa_nil))))))
        (pss_one (ps_if (pt_cmpR op_ne (pe_f0 C_matches hr (by decide) rfl (pa_cons (pv 2) (pa_cons (pe_ix ix_im (pv 1) pe_int (fun _ _ => rfl)) (pa_cons (pv 4) pa_nil)))) (pe_fn C_l_good hr (by decide) rfl (pa_cons (pv 1) (pa_cons (pv 4) pa_nil))) (nomark _))
          (pss_one (ps_ret pe_bl))
          pss_nil))))
      (pss_join (ps_if (PW.pt (pw_and (pt_cmpR oN_le (pe_callB (lenS (K := K) rfl) (by rfl) g_len PySem.boot_len (pa_cons (pe_lc (own := [("sign", 5)]) (g := (gName 5)) rfl sc_l_once.nd (pi_str (pv 2)) (blkOk_by (by kernel_rfl)) (fun _ _ _ _ _ => (pg_name (i := 5) sc_l_once.nd rfl (by first | exact Or.inl rfl | exact Or.inr rfl))) (fun _ _ _ _ _ => (pts_one (pt_cmpR op_in_sign (pv 5) pe_str rfl))) (fun _ _ _ _ _ => (pv 5))) pa_nil)) pe_int (nomark _)) (pw_and1 (pt_cmpR (neD (K := K) rfl hr.units) (pe_f0 C_hall_of hr (by decide) rfl (pa_cons (pv 2) (pa_cons (pe_ix ix_im (pv 1) pe_int (fun _ _ => rfl)) pa_nil))) (pv 1) (nomark _)))))
        (pss_one (ps_ret pe_bl))
        pss_nil)
      (pss_cons (ps_set (i := 6) sc_l_once.nd rfl (Or.inl rfl) (pe_op op_add pe_int (pe_op op_mod (pe_fn C_l_cell hr (by decide) rfl (pa_cons (pv 0) (pa_cons pe_int pa_nil))) pe_int)))
      (pss_cons (ps_set (i := 7) sc_l_once.nd rfl (Or.inl rfl) (pe_fn C_l_told hr (by decide) rfl (pa_cons (pe_fn C_l_ring hr (by decide) rfl (pa_cons (pv 6) (pa_cons (pe_ix ix_im (pv 1) pe_int (fun _ _ => rfl)) pa_nil))) pa_nil)))
      (pss_cons (ps_if (pt_cmpR op_gt (pv 6) pe_int (nomark _))
        (pss_one (ps_ret (pe_cmpR (eqD (K := K) rfl hr.units) (pv 7) (pe_lst (pa_cons pe_bl (pa_cons pe_bl pa_nil))) (nomark _))))
        pss_nil)
      (pss_one (ps_ret (pe_or (pe_and (pe_f0 C_matches hr (by decide) rfl (pa_cons (pv 7) (pa_cons (pe_ix ix_im (pv 1) pe_int (fun _ _ => rfl)) (pa_cons (pe_op op_mul_str pe_str (pv 6)) pa_nil)))) (pe_one (pe_not (pe_f0 C_matches hr (by decide) rfl (pa_cons (pv 7) (pa_cons (pe_ix ix_im (pv 1) pe_int (fun _ _ => rfl)) (pa_cons (pe_op op_mul_str pe_str (pe_op op_add (pv 6) pe_int)) pa_nil))))))) (pe_one (pe_cmpR op_eq (pv 6) pe_int (nomark _)))))))))))))), ?_⟩
    have o0 := lawHall_ok ns 3
    have oc : (cutH 3 (lawHall ns 3)).Ok := cutH_ok o0 (by decide) (by decide)
    have o := tightH_ok oc
    have hti := tight_idem oc
    have hn : (tightH (cutH 3 (lawHall ns 3))).n ≤ 3 := Nat.le_trans (tightH_n oc) (by rw [cutH_n]; exact Nat.le_refl _)
    refine ⟨_, rfl, a, ns, 3, rfl, hS, fun u1 H1 s1 k1 => ⟨_, u1, rfl, o0, k1, fun hv H2 s2 i2 => ?_⟩⟩
    generalize tightH (cutH 3 (lawHall ns 3)) = h at *
    have w2 : Wd H H2 [] [(h.d, hv)] := (((Wd.start (by simp)).call s1).call s2).add i2
    refine ⟨_, rfl, h, hv, rfl, o, w2.get 0, fun _ H3 s3 => ?_, fun z => by omega⟩
    have w3 := w2.call s3
    have l1 := pat_1 o hn
    have l2 := patOf_len o hn
    have ln : (SX.S (patOf h)).length = (patOf h).length := SX.S_len _
    refine ⟨_, rfl, [], .str (SX.S (patOf h)), _, rfl, rfl, _, rfl, iteF ?_⟩
    refine ⟨_, rfl, _, rfl, by rw [ln]; exact Nat.le_of_lt (sl_small (by omega)), ?_⟩
    refine ⟨1, _, rfl, rfl, _, rfl, ?_⟩
    rw [show decide (1 ≤ (SX.S (patOf h)).length) = true from decide_eq_true (by rw [ln]; exact l1)]
    refine iteT ⟨_, 2000, rfl, rfl, _, rfl, ?_⟩
    rw [show decide ((SX.S (patOf h)).length ≤ 2000) = true from decide_eq_true (by rw [ln]; omega)]
    refine iteF ?_
    -- two tunes
    refine ⟨2, rfl, by decide, for_rng (fun i σ H' => ∃ z3 z4 : Option V, σ = [some (.ref a), some hv, some (.str (SX.S (patOf h))), z3, z4, none, none, none] ∧ Wd H H' [] [(h.d, hv)]) ⟨none, none, rfl, w3⟩ ?_ ?_⟩
    · rintro i σ H4 hi ⟨z3, z4, rfl, w4⟩
      refine ⟨_, rfl, _, rfl, t_w (w4.get 0) ⟨a, ns, i, h.w, 12, rfl, w4.same.seq hS, o.w1, o.w3, by decide, fun H5 s5 => ?_⟩⟩
      have w5 := w4.call s5
      have hu : Val h.w _ := lawTune_lt ns i 12 o.w1
      generalize lawTune ns i h.w 12 = u at hu
      refine ⟨_, rfl, t_w (w5.get 0) ⟨_, rfl, x_nil ?_⟩⟩
      refine pat_call o hn hu fun H6 s6 => ?_
      have w6 := w5.call s6
      refine ⟨_, rfl, _, rfl, [], h, hv, u, rfl, o, w6.get 0, hu, rfl, _, rfl, ?_⟩
      rw [decide_eq_true rfl]
      exact iteF ⟨_, _, rfl, w6⟩
    rintro σ H4 ⟨z3, z4, rfl, w4⟩
    -- the hall again
    refine ⟨fun σ H' => σ = [some (.ref a), some hv, some (.str (SX.S (patOf h))), z3, z4, none, none, none] ∧ Wd H H' [] [(h.d, hv)], ?_, ?_⟩
    · have lnc : (SX.S (patOf h)).cps.size = (patOf h).length := SX.S_len _
      have habc : ∀ c, decide (c ∈ (Str.ofString "abc").cps.toList) = [97, 98, 99].contains c := fun c => mem_lit c _ [97, 98, 99] (by decide +kernel)
      have pT := pat_T o hn
      refine ⟨_, rfl, _, rfl, fun D hD => lc_strD (z := SX.S (patOf h)) (fun j => (abcN ((patOf h).take j)).map sgD) w4 hD rfl (fun j hj => ?_) (fun j c H1 hc w1 => ?_) (fun H1 w1 => ?_)⟩
      · have := List.length_filter_le (fun c => [97, 98, 99].contains c) ((patOf h).take j)
        rw [List.length_take] at this
        rw [List.length_map]
        exact sl_small (by unfold abcN; omega)
      · intro Qt Qf k1 k2
        have hcl : (patOf h)[j]? = some c := by
          have : (SX.S (patOf h)).cps.toList[j]? = some c := by rw [Array.getElem?_toList]; exact hc
          exact this
        refine ⟨_, rfl, c, _, rfl, rfl, _, rfl, ?_⟩
        rw [habc]
        refine ite2 (fun z => ?_) (fun z => ?_)
        · refine ⟨_, rfl, k1 _ _ (sgD c) w1 rfl ?_⟩
          dsimp only
          unfold abcN
          rw [List.take_add_one, hcl, List.filter_append, List.map_append]
          simp only [Option.toList, List.filter_cons, z, if_true, List.filter_nil]
          rfl
        · refine k2 _ w1 ?_
          dsimp only
          unfold abcN
          rw [List.take_add_one, hcl, List.filter_append, List.map_append]
          simp only [Option.toList, List.filter_cons, z, List.filter_nil]
          simp
      · rw [lnc, List.take_length] at w1
        obtain ⟨xs, ex, ixs⟩ := w1.list 0
        refine ⟨D, _, rfl, .inl (SqL.of ex), _, 8, rfl, rfl, _, rfl, ?_⟩
        rw [ixs.length, List.length_map]
        replace w1 := w1.pop
        refine ite2 (fun z => ?_) (fun z => iteF ⟨rfl, w1⟩)
        have h8 : (abcN (patOf h)).length ≤ 8 := of_decide_eq_true z
        have TH : TL h h.w h.good := ⟨o, hti, rfl, fun _ _ => rfl⟩
        refine ⟨_, rfl, t_w (w1.get 0) (hall_call (f := h.good) pT (fun t ht => pat_good ht) h8 (by decide) (w1.same.tabs hTab) fun y v H5 T _ s5 i5 => ?_)⟩
        have w5 := w1.call s5
        refine ⟨_, rfl, _, _, i5.dp, (w5.get 0).dp, shaped_hall _, shaped_hall _, _, rfl, ?_⟩
        rw [eqv_hall, decide_eq_true (T.eq TH fun _ _ => rfl)]
        exact iteF ⟨rfl, w5⟩
    rintro σ H5 ⟨rfl, w8⟩
    -- many
    refine ⟨_, rfl, a, ns, 2, rfl, w8.same.seq hS, _, _, rfl, rfl, (by show (0 : Int) < 12; decide), _, _, rfl, rfl, ?_⟩
    have em : (1 + ns.getD 2 0 % 12 : Int) = ((1 + (ns.getD 2 0 % 12).toNat : Nat) : Int) := by omega
    have m1 : 1 ≤ 1 + (ns.getD 2 0 % 12).toNat := by omega
    have m12 : 1 + (ns.getD 2 0 % 12).toNat ≤ 12 := by omega
    rw [show (fun i j : Int => V.int (i + j)) 1 (ns.getD 2 0 % 12) = nV (1 + (ns.getD 2 0 % 12).toNat) from congrArg V.int em]
    generalize 1 + (ns.getD 2 0 % 12).toNat = m at m1 m12
    have oR := ringH_ok m1 (show m ≤ 600 by omega) o.w1 o.w3
    refine ⟨_, rfl, t_w (w8.get 0) ⟨m, h.w, rfl, m1, by omega, o.w1, o.w3, fun vr H9 s9 i9 => ?_⟩⟩
    have w9 := w8.call s9
    refine ⟨_, vr, rfl, oR, i9, fun n4 l H10 y10 => ?_, fun n4 H10 s10 => ?_⟩
    · rw [ringH_n] at n4
      refine ⟨_, rfl, _, _, rfl, rfl, _, rfl, ?_⟩
      rw [show decide ((3 : Int) < ((m : Nat) : Int)) = true from decide_eq_true (by omega)]
      refine iteT ⟨_, rfl, (by show 2 ≤ sizeLine; decide), fun p hp => ?_⟩
      have y11 := y10.pushL hp (ds := bD [true, true]) (xs := [.bl true, .bl true]) (bD_im [true, true])
      refine ⟨_, _, y11.dp 1, y11.dp 0, bD_shaped _, bD_shaped _, ?_⟩
      rw [bD_eqv]
      exact q _ (w9.same.trans y11.same)
    · have n5 := n4
      rw [ringH_n] at n5
      have w10 := w9.call s10
      refine ⟨_, rfl, _, _, rfl, rfl, _, rfl, ?_⟩
      rw [show decide ((3 : Int) < ((m : Nat) : Int)) = false from decide_eq_false (by omega)]
      refine iteF ⟨_, rfl, t_w (w10.get 0) ?_⟩
      refine ⟨_, rfl, _, m, rfl, rfl, (by show 1 * m ≤ 1000000; omega), by omega, ?_⟩
      rw [rep_a (by omega)]
      refine x_nil (pat_call oR n4 (val_a o.w1 m) fun H11 s11 => ?_)
      rw [ring_a m1 n5 o.w1]
      have w11 := w10.call s11
      refine ⟨true, rfl, iteT ?_⟩
      refine ⟨_, rfl, t_w (w11.get 0) ⟨_, rfl, _, _, rfl, rfl, _, m + 1, rfl, rfl, (by show 1 * (m + 1) ≤ 1000000; omega), by omega, ?_⟩⟩
      rw [rep_a (by omega)]
      refine x_nil (pat_call oR n4 (val_a o.w1 (m + 1)) fun H12 s12 => ?_)
      rw [ring_b m1 n5 o.w1]
      have w12 := w11.call s12
      by_cases c : m = 1
      · rw [decide_eq_true c]
        refine ⟨_, rfl, false, rfl, iteF ⟨_, rfl, rfl, ?_⟩⟩
        rw [show decide (V.int (m : Int) = V.int 1) = true from decide_eq_true (by rw [c]; rfl)]
        exact q _ w12.same
      · rw [decide_eq_false c]
        exact ⟨_, rfl, true, rfl, iteT (q _ w12.same)⟩
end
/-! ### the end -/
omit [Tb] in
theorem kit_self {K : PySem.W.Frag} {D : Addr} : PySem.W.kitOne K (.ref D) (.ref D) = some true := by unfold PySem.W.kitOne; rw [if_pos (beq_self_eq_true _)]
omit [Tb] in
theorem all_mk {l : PySem.W.OpenLaw} {q : Program} {w : World} {K : PySem.W.Frag} {h : Heap} {mg : Str → Option Value} {fa cPlaces f1 f2 f3 f4 f5 f6 f7 f8 f9 f10 f11 f12 f13 f14 f15 f16 f17 f18 f19 f20 f21 f22 f23 f24 f25 f26 f27 f28 f29 f30 f31 f32 f33 f34 f35 f36 f37 f38 f39 tc_hall_of tp_hall_of eHallError eBadTune eBadPattern eTooBig : Addr} (X : K.In h) (G : h.Ns mainGlobals mg) (hfa : mg "law" = some (.ref fa))
    {od1 an1 : Option Addr} {sl1 : Array (Option Value)} {oc1 kV1 dc1 pm1 ct1 : Value}
    {cd1 : Value}
    {od2 an2 : Option Addr} {sl2 : Array (Option Value)} {oc2 kV2 dc2 pm2 ct2 : Value}
    {cd2 : Value}
    {od3 an3 : Option Addr} {sl3 : Array (Option Value)} {oc3 kV3 dc3 pm3 ct3 : Value}
    {cd3 : Value}
    {od4 an4 : Option Addr} {sl4 : Array (Option Value)} {oc4 kV4 dc4 pm4 ct4 : Value}
    {cd4 : Value}
    {od5 an5 : Option Addr} {sl5 : Array (Option Value)} {oc5 kV5 dc5 pm5 ct5 : Value}
    {cd5 : Value}
    {od6 an6 : Option Addr} {sl6 : Array (Option Value)} {oc6 kV6 dc6 pm6 ct6 : Value}
    {cd6 : Value}
    {od7 an7 : Option Addr} {sl7 : Array (Option Value)} {oc7 kV7 dc7 pm7 ct7 : Value}
    {cd7 : Value}
    {od8 an8 : Option Addr} {sl8 : Array (Option Value)} {oc8 kV8 dc8 pm8 ct8 : Value}
    {cd8 : Value}
    {od9 an9 : Option Addr} {sl9 : Array (Option Value)} {oc9 kV9 dc9 pm9 ct9 : Value}
    {cd9 : Value}
    {od10 an10 : Option Addr} {sl10 : Array (Option Value)} {oc10 kV10 dc10 pm10 ct10 : Value}
    {cd10 : Value}
    {od11 an11 : Option Addr} {sl11 : Array (Option Value)} {oc11 kV11 dc11 pm11 ct11 : Value}
    {cd11 : Value}
    {od12 an12 : Option Addr} {sl12 : Array (Option Value)} {oc12 kV12 dc12 pm12 ct12 : Value}
    {cd12 : Value}
    {od13 an13 : Option Addr} {sl13 : Array (Option Value)} {oc13 kV13 dc13 pm13 ct13 : Value}
    {cd13 : Value}
    {od14 an14 : Option Addr} {sl14 : Array (Option Value)} {oc14 kV14 dc14 pm14 ct14 : Value}
    {cd14 : Value}
    {od15 an15 : Option Addr} {sl15 : Array (Option Value)} {oc15 kV15 dc15 pm15 ct15 : Value}
    {cd15 : Value}
    {od16 an16 : Option Addr} {sl16 : Array (Option Value)} {oc16 kV16 dc16 pm16 ct16 : Value}
    {cd16 : Value}
    {od17 an17 : Option Addr} {sl17 : Array (Option Value)} {oc17 kV17 dc17 pm17 ct17 : Value}
    {cd17 : Value}
    {od18 an18 : Option Addr} {sl18 : Array (Option Value)} {oc18 kV18 dc18 pm18 ct18 : Value}
    {cd18 : Value}
    {od19 an19 : Option Addr} {sl19 : Array (Option Value)} {oc19 kV19 dc19 pm19 ct19 : Value}
    {cd19 : Value}
    {od20 an20 : Option Addr} {sl20 : Array (Option Value)} {oc20 kV20 dc20 pm20 ct20 : Value}
    {cd20 : Value}
    {od21 an21 : Option Addr} {sl21 : Array (Option Value)} {oc21 kV21 dc21 pm21 ct21 : Value}
    {cd21 : Value}
    {od22 an22 : Option Addr} {sl22 : Array (Option Value)} {oc22 kV22 dc22 pm22 ct22 : Value}
    {cd22 : Value}
    {od23 an23 : Option Addr} {sl23 : Array (Option Value)} {oc23 kV23 dc23 pm23 ct23 : Value}
    {cd23 : Value}
    {od24 an24 : Option Addr} {sl24 : Array (Option Value)} {oc24 kV24 dc24 pm24 ct24 : Value}
    {cd24 : Value}
    {od25 an25 : Option Addr} {sl25 : Array (Option Value)} {oc25 kV25 dc25 pm25 ct25 : Value}
    {cd25 : Value}
    {od26 an26 : Option Addr} {sl26 : Array (Option Value)} {oc26 kV26 dc26 pm26 ct26 : Value}
    {cd26 : Value}
    {od27 an27 : Option Addr} {sl27 : Array (Option Value)} {oc27 kV27 dc27 pm27 ct27 : Value}
    {cd27 : Value}
    {od28 an28 : Option Addr} {sl28 : Array (Option Value)} {oc28 kV28 dc28 pm28 ct28 : Value}
    {cd28 : Value}
    {od29 an29 : Option Addr} {sl29 : Array (Option Value)} {oc29 kV29 dc29 pm29 ct29 : Value}
    {od30 an30 : Option Addr} {sl30 : Array (Option Value)} {oc30 kV30 dc30 pm30 ct30 : Value}
    {cd30 : Value}
    {od31 an31 : Option Addr} {sl31 : Array (Option Value)} {oc31 kV31 dc31 pm31 ct31 : Value}
    {cd31 : Value}
    {od32 an32 : Option Addr} {sl32 : Array (Option Value)} {oc32 kV32 dc32 pm32 ct32 : Value}
    {cd32 : Value}
    {od33 an33 : Option Addr} {sl33 : Array (Option Value)} {oc33 kV33 dc33 pm33 ct33 : Value}
    {cd33 : Value}
    {od34 an34 : Option Addr} {sl34 : Array (Option Value)} {oc34 kV34 dc34 pm34 ct34 : Value}
    {cd34 : Value}
    {od35 an35 : Option Addr} {sl35 : Array (Option Value)} {oc35 kV35 dc35 pm35 ct35 : Value}
    {cd35 : Value}
    {od36 an36 : Option Addr} {sl36 : Array (Option Value)} {oc36 kV36 dc36 pm36 ct36 : Value}
    {cd36 : Value}
    {od37 an37 : Option Addr} {sl37 : Array (Option Value)} {oc37 kV37 dc37 pm37 ct37 : Value}
    {cd37 : Value}
    {od38 an38 : Option Addr} {sl38 : Array (Option Value)} {oc38 kV38 dc38 pm38 ct38 : Value}
    {cd38 : Value}
    {od39 an39 : Option Addr} {sl39 : Array (Option Value)} {oc39 kV39 dc39 pm39 ct39 : Value}
    {cd39 : Value}
    {tko_hall_of : Value} {tkd_hall_of : Option Addr} {tkv_hall_of : Array Value} {tks_hall_of : Array (Option Value)}
    {tkMOST_SIGNS : Tok}
    {tkMOST_LETTERS : Tok}
    {tkMOST_ROOMS : Tok}
    (bPlaces_ns : PySem.W.nsIn K mainGlobals "Places" = some (some (.ref cPlaces))) (bPlaces_pg : PySem.W.plainGet K cPlaces Str.empty = true) (bPlaces_hd : PySem.W.hasDictIn K cPlaces = true) (bPlaces_po : PySem.W.plainOver K cPlaces = true) (bPlaces_sa : PySem.W.findIn K (.ref cPlaces) "__setattr__" = some (some (.builtin "object.__setattr__"))) (bPlaces_mk : PySem.W.makesIn K cPlaces = true) (bPlaces_kc : PySem.W.keepIn K (.ref cPlaces) = true)
    (bPlaces_f_signs : PySem.W.findIn K (.ref cPlaces) "signs" = some none)
    (bPlaces_f_next : PySem.W.findIn K (.ref cPlaces) "next" = some none)
    (bPlaces_f_whole : PySem.W.findIn K (.ref cPlaces) "whole" = some none)
    (a1 : PySem.W.nsIn K mainGlobals "_law_cell" = some (some (.ref f1))) (l1 : K.lookup f1 = some ⟨oc1, od1, .func (PySem.W.fnOf "_law_cell" "_law_cell" (defArgs s_l_cell) (defBody s_l_cell) (defScope s_l_cell) .none kV1 dc1 pm1 an1 cd1 ct1), sl1⟩) (c1 : PySem.W.codeIn K cd1 "_law_cell" = true) (k1 : PySem.W.keepIn K (.ref f1) = true)
    (a2 : PySem.W.nsIn K mainGlobals "_law_mix" = some (some (.ref f2))) (l2 : K.lookup f2 = some ⟨oc2, od2, .func (PySem.W.fnOf "_law_mix" "_law_mix" (defArgs s_l_mix) (defBody s_l_mix) (defScope s_l_mix) .none kV2 dc2 pm2 an2 cd2 ct2), sl2⟩) (c2 : PySem.W.codeIn K cd2 "_law_mix" = true) (k2 : PySem.W.keepIn K (.ref f2) = true)
    (a3 : PySem.W.nsIn K mainGlobals "_law_large" = some (some (.ref f3))) (l3 : K.lookup f3 = some ⟨oc3, od3, .func (PySem.W.fnOf "_law_large" "_law_large" (defArgs s_l_large) (defBody s_l_large) (defScope s_l_large) .none kV3 dc3 pm3 an3 cd3 ct3), sl3⟩) (c3 : PySem.W.codeIn K cd3 "_law_large" = true) (k3 : PySem.W.keepIn K (.ref f3) = true)
    (a4 : PySem.W.nsIn K mainGlobals "_law_hall" = some (some (.ref f4))) (l4 : K.lookup f4 = some ⟨oc4, od4, .func (PySem.W.fnOf "_law_hall" "_law_hall" (defArgs s_l_hall) (defBody s_l_hall) (defScope s_l_hall) .none kV4 dc4 pm4 an4 cd4 ct4), sl4⟩) (c4 : PySem.W.codeIn K cd4 "_law_hall" = true) (k4 : PySem.W.keepIn K (.ref f4) = true)
    (a5 : PySem.W.nsIn K mainGlobals "_law_apart" = some (some (.ref f5))) (l5 : K.lookup f5 = some ⟨oc5, od5, .func (PySem.W.fnOf "_law_apart" "_law_apart" (defArgs s_l_apart) (defBody s_l_apart) (defScope s_l_apart) .none kV5 dc5 pm5 an5 cd5 ct5), sl5⟩) (c5 : PySem.W.codeIn K cd5 "_law_apart" = true) (k5 : PySem.W.keepIn K (.ref f5) = true)
    (a6 : PySem.W.nsIn K mainGlobals "_law_tight" = some (some (.ref f6))) (l6 : K.lookup f6 = some ⟨oc6, od6, .func (PySem.W.fnOf "_law_tight" "_law_tight" (defArgs s_l_tight) (defBody s_l_tight) (defScope s_l_tight) .none kV6 dc6 pm6 an6 cd6 ct6), sl6⟩) (c6 : PySem.W.codeIn K cd6 "_law_tight" = true) (k6 : PySem.W.keepIn K (.ref f6) = true)
    (a7 : PySem.W.nsIn K mainGlobals "_law_three" = some (some (.ref f7))) (l7 : K.lookup f7 = some ⟨oc7, od7, .func (PySem.W.fnOf "_law_three" "_law_three" (defArgs s_l_three) (defBody s_l_three) (defScope s_l_three) .none kV7 dc7 pm7 an7 cd7 ct7), sl7⟩) (c7 : PySem.W.codeIn K cd7 "_law_three" = true) (k7 : PySem.W.keepIn K (.ref f7) = true)
    (a8 : PySem.W.nsIn K mainGlobals "_law_tune" = some (some (.ref f8))) (l8 : K.lookup f8 = some ⟨oc8, od8, .func (PySem.W.fnOf "_law_tune" "_law_tune" (defArgs s_l_tune) (defBody s_l_tune) (defScope s_l_tune) .none kV8 dc8 pm8 an8 cd8 ct8), sl8⟩) (c8 : PySem.W.codeIn K cd8 "_law_tune" = true) (k8 : PySem.W.keepIn K (.ref f8) = true)
    (a9 : PySem.W.nsIn K mainGlobals "_law_room" = some (some (.ref f9))) (l9 : K.lookup f9 = some ⟨oc9, od9, .func (PySem.W.fnOf "_law_room" "_law_room" (defArgs s_l_room) (defBody s_l_room) (defScope s_l_room) .none kV9 dc9 pm9 an9 cd9 ct9), sl9⟩) (c9 : PySem.W.codeIn K cd9 "_law_room" = true) (k9 : PySem.W.keepIn K (.ref f9) = true)
    (a10 : PySem.W.nsIn K mainGlobals "_law_good" = some (some (.ref f10))) (l10 : K.lookup f10 = some ⟨oc10, od10, .func (PySem.W.fnOf "_law_good" "_law_good" (defArgs s_l_good) (defBody s_l_good) (defScope s_l_good) .none kV10 dc10 pm10 an10 cd10 ct10), sl10⟩) (c10 : PySem.W.codeIn K cd10 "_law_good" = true) (k10 : PySem.W.keepIn K (.ref f10) = true)
    (a11 : PySem.W.nsIn K mainGlobals "sorts" = some (some (.ref f11))) (l11 : K.lookup f11 = some ⟨oc11, od11, .func (PySem.W.fnOf "sorts" "sorts" (defArgs s_sorts) (defBody s_sorts) (defScope s_sorts) .none kV11 dc11 pm11 an11 cd11 ct11), sl11⟩) (c11 : PySem.W.codeIn K cd11 "sorts" = true) (k11 : PySem.W.keepIn K (.ref f11) = true)
    (a12 : PySem.W.nsIn K mainGlobals "tight" = some (some (.ref f12))) (l12 : K.lookup f12 = some ⟨oc12, od12, .func (PySem.W.fnOf "tight" "tight" (defArgs s_tight) (defBody s_tight) (defScope s_tight) .none kV12 dc12 pm12 an12 cd12 ct12), sl12⟩) (c12 : PySem.W.codeIn K cd12 "tight" = true) (k12 : PySem.W.keepIn K (.ref f12) = true)
    (a13 : PySem.W.nsIn K mainGlobals "built" = some (some (.ref f13))) (l13 : K.lookup f13 = some ⟨oc13, od13, .func (PySem.W.fnOf "built" "built" (defArgs s_built) (defBody s_built) (defScope s_built) .none kV13 dc13 pm13 an13 cd13 ct13), sl13⟩) (c13 : PySem.W.codeIn K cd13 "built" = true) (k13 : PySem.W.keepIn K (.ref f13) = true)
    (a14 : PySem.W.nsIn K mainGlobals "letters" = some (some (.ref f14))) (l14 : K.lookup f14 = some ⟨oc14, od14, .func (PySem.W.fnOf "letters" "letters" (defArgs s_letters) (defBody s_letters) (defScope s_letters) .none kV14 dc14 pm14 an14 cd14 ct14), sl14⟩) (c14 : PySem.W.codeIn K cd14 "letters" = true) (k14 : PySem.W.keepIn K (.ref f14) = true)
    (a15 : PySem.W.nsIn K mainGlobals "look_tune" = some (some (.ref f15))) (l15 : K.lookup f15 = some ⟨oc15, od15, .func (PySem.W.fnOf "look_tune" "look_tune" (defArgs s_look_tune) (defBody s_look_tune) (defScope s_look_tune) .none kV15 dc15 pm15 an15 cd15 ct15), sl15⟩) (c15 : PySem.W.codeIn K cd15 "look_tune" = true) (k15 : PySem.W.keepIn K (.ref f15) = true)
    (a16 : PySem.W.nsIn K mainGlobals "is_within" = some (some (.ref f16))) (l16 : K.lookup f16 = some ⟨oc16, od16, .func (PySem.W.fnOf "is_within" "is_within" (defArgs s_is_within) (defBody s_is_within) (defScope s_is_within) .none kV16 dc16 pm16 an16 cd16 ct16), sl16⟩) (c16 : PySem.W.codeIn K cd16 "is_within" = true) (k16 : PySem.W.keepIn K (.ref f16) = true)
    (a17 : PySem.W.nsIn K mainGlobals "look_pattern" = some (some (.ref f17))) (l17 : K.lookup f17 = some ⟨oc17, od17, .func (PySem.W.fnOf "look_pattern" "look_pattern" (defArgs s_look_pattern) (defBody s_look_pattern) (defScope s_look_pattern) .none kV17 dc17 pm17 an17 cd17 ct17), sl17⟩) (c17 : PySem.W.codeIn K cd17 "look_pattern" = true) (k17 : PySem.W.keepIn K (.ref f17) = true)
    (a18 : PySem.W.nsIn K mainGlobals "joints" = some (some (.ref f18))) (l18 : K.lookup f18 = some ⟨oc18, od18, .func (PySem.W.fnOf "joints" "joints" (defArgs s_joints) (defBody s_joints) (defScope s_joints) .none kV18 dc18 pm18 an18 cd18 ct18), sl18⟩) (c18 : PySem.W.codeIn K cd18 "joints" = true) (k18 : PySem.W.keepIn K (.ref f18) = true)
    (a19 : PySem.W.nsIn K mainGlobals "behind_each" = some (some (.ref f19))) (l19 : K.lookup f19 = some ⟨oc19, od19, .func (PySem.W.fnOf "behind_each" "behind_each" (defArgs s_behind_each) (defBody s_behind_each) (defScope s_behind_each) .none kV19 dc19 pm19 an19 cd19 ct19), sl19⟩) (c19 : PySem.W.codeIn K cd19 "behind_each" = true) (k19 : PySem.W.keepIn K (.ref f19) = true)
    (a20 : PySem.W.nsIn K mainGlobals "both_lists" = some (some (.ref f20))) (l20 : K.lookup f20 = some ⟨oc20, od20, .func (PySem.W.fnOf "both_lists" "both_lists" (defArgs s_both_lists) (defBody s_both_lists) (defScope s_both_lists) .none kV20 dc20 pm20 an20 cd20 ct20), sl20⟩) (c20 : PySem.W.codeIn K cd20 "both_lists" = true) (k20 : PySem.W.keepIn K (.ref f20) = true)
    (a21 : PySem.W.findIn K (.ref cPlaces) "follow" = some (some (.ref f21))) (i21 : PySem.W.isFn K (.ref f21) = true) (l21 : K.lookup f21 = some ⟨oc21, od21, .func (PySem.W.fnOf "follow" "Places.follow" (defArgs s_Places_follow) (defBody s_Places_follow) (defScope s_Places_follow) .none kV21 dc21 pm21 an21 cd21 ct21), sl21⟩) (c21 : PySem.W.codeIn K cd21 "Places.follow" = true) (k21 : PySem.W.keepIn K (.ref f21) = true)
    (a22 : PySem.W.findIn K (.ref cPlaces) "single" = some (some (.ref f22))) (i22 : PySem.W.isFn K (.ref f22) = true) (l22 : K.lookup f22 = some ⟨oc22, od22, .func (PySem.W.fnOf "single" "Places.single" (defArgs s_Places_single) (defBody s_Places_single) (defScope s_Places_single) .none kV22 dc22 pm22 an22 cd22 ct22), sl22⟩) (c22 : PySem.W.codeIn K cd22 "Places.single" = true) (k22 : PySem.W.keepIn K (.ref f22) = true)
    (a23 : PySem.W.findIn K (.ref cPlaces) "starred" = some (some (.ref f23))) (i23 : PySem.W.isFn K (.ref f23) = true) (l23 : K.lookup f23 = some ⟨oc23, od23, .func (PySem.W.fnOf "starred" "Places.starred" (defArgs s_Places_starred) (defBody s_Places_starred) (defScope s_Places_starred) .none kV23 dc23 pm23 an23 cd23 ct23), sl23⟩) (c23 : PySem.W.codeIn K cd23 "Places.starred" = true) (k23 : PySem.W.keepIn K (.ref f23) = true)
    (a24 : PySem.W.findIn K (.ref cPlaces) "put" = some (some (.ref f24))) (i24 : PySem.W.isFn K (.ref f24) = true) (l24 : K.lookup f24 = some ⟨oc24, od24, .func (PySem.W.fnOf "put" "Places.put" (defArgs s_Places_put) (defBody s_Places_put) (defScope s_Places_put) .none kV24 dc24 pm24 an24 cd24 ct24), sl24⟩) (c24 : PySem.W.codeIn K cd24 "Places.put" = true) (k24 : PySem.W.keepIn K (.ref f24) = true)
    (a25 : PySem.W.findIn K (.ref cPlaces) "__init__" = some (some (.ref f25))) (i25 : PySem.W.isFn K (.ref f25) = true) (l25 : K.lookup f25 = some ⟨oc25, od25, .func (PySem.W.fnOf "__init__" "Places.__init__" (defArgs s_Places_x_initx) (defBody s_Places_x_initx) (defScope s_Places_x_initx) .none kV25 dc25 pm25 an25 cd25 ct25), sl25⟩) (c25 : PySem.W.codeIn K cd25 "Places.__init__" = true) (k25 : PySem.W.keepIn K (.ref f25) = true)
    (a26 : PySem.W.findIn K (.ref cPlaces) "step" = some (some (.ref f26))) (i26 : PySem.W.isFn K (.ref f26) = true) (l26 : K.lookup f26 = some ⟨oc26, od26, .func (PySem.W.fnOf "step" "Places.step" (defArgs s_Places_step) (defBody s_Places_step) (defScope s_Places_step) .none kV26 dc26 pm26 an26 cd26 ct26), sl26⟩) (c26 : PySem.W.codeIn K cd26 "Places.step" = true) (k26 : PySem.W.keepIn K (.ref f26) = true)
    (a27 : PySem.W.findIn K (.ref cPlaces) "is_end" = some (some (.ref f27))) (i27 : PySem.W.isFn K (.ref f27) = true) (l27 : K.lookup f27 = some ⟨oc27, od27, .func (PySem.W.fnOf "is_end" "Places.is_end" (defArgs s_Places_is_end) (defBody s_Places_is_end) (defScope s_Places_is_end) .none kV27 dc27 pm27 an27 cd27 ct27), sl27⟩) (c27 : PySem.W.codeIn K cd27 "Places.is_end" = true) (k27 : PySem.W.keepIn K (.ref f27) = true)
    (a28 : PySem.W.nsIn K mainGlobals "matches" = some (some (.ref f28))) (l28 : K.lookup f28 = some ⟨oc28, od28, .func (PySem.W.fnOf "matches" "matches" (defArgs s_matches) (defBody s_matches) (defScope s_matches) .none kV28 dc28 pm28 an28 cd28 ct28), sl28⟩) (c28 : PySem.W.codeIn K cd28 "matches" = true) (k28 : PySem.W.keepIn K (.ref f28) = true)
    (a29 : PySem.W.nsIn K mainGlobals "hall_of" = some (some (.ref f29))) (l29 : K.lookup f29 = some ⟨oc29, od29, .func (PySem.W.fnOf "hall_of" "hall_of" (defArgs s_hall_of) (defBody s_hall_of) (defScope s_hall_of) .none kV29 dc29 pm29 an29 (.ref tc_hall_of) ct29), sl29⟩) (c29 : PySem.W.codeIn K (.ref tc_hall_of) "hall_of" = true) (k29 : PySem.W.keepIn K (.ref f29) = true)
    (a30 : PySem.W.nsIn K mainGlobals "one_of" = some (some (.ref f30))) (l30 : K.lookup f30 = some ⟨oc30, od30, .func (PySem.W.fnOf "one_of" "one_of" (defArgs s_one_of) (defBody s_one_of) (defScope s_one_of) .none kV30 dc30 pm30 an30 cd30 ct30), sl30⟩) (c30 : PySem.W.codeIn K cd30 "one_of" = true) (k30 : PySem.W.keepIn K (.ref f30) = true)
    (a31 : PySem.W.nsIn K mainGlobals "then" = some (some (.ref f31))) (l31 : K.lookup f31 = some ⟨oc31, od31, .func (PySem.W.fnOf "then" "then" (defArgs s_then) (defBody s_then) (defScope s_then) .none kV31 dc31 pm31 an31 cd31 ct31), sl31⟩) (c31 : PySem.W.codeIn K cd31 "then" = true) (k31 : PySem.W.keepIn K (.ref f31) = true)
    (a32 : PySem.W.nsIn K mainGlobals "any_of" = some (some (.ref f32))) (l32 : K.lookup f32 = some ⟨oc32, od32, .func (PySem.W.fnOf "any_of" "any_of" (defArgs s_any_of) (defBody s_any_of) (defScope s_any_of) .none kV32 dc32 pm32 an32 cd32 ct32), sl32⟩) (c32 : PySem.W.codeIn K cd32 "any_of" = true) (k32 : PySem.W.keepIn K (.ref f32) = true)
    (a33 : PySem.W.nsIn K mainGlobals "straight" = some (some (.ref f33))) (l33 : K.lookup f33 = some ⟨oc33, od33, .func (PySem.W.fnOf "straight" "straight" (defArgs s_straight) (defBody s_straight) (defScope s_straight) .none kV33 dc33 pm33 an33 cd33 ct33), sl33⟩) (c33 : PySem.W.codeIn K cd33 "straight" = true) (k33 : PySem.W.keepIn K (.ref f33) = true)
    (a34 : PySem.W.nsIn K mainGlobals "without" = some (some (.ref f34))) (l34 : K.lookup f34 = some ⟨oc34, od34, .func (PySem.W.fnOf "without" "without" (defArgs s_without) (defBody s_without) (defScope s_without) .none kV34 dc34 pm34 an34 cd34 ct34), sl34⟩) (c34 : PySem.W.codeIn K cd34 "without" = true) (k34 : PySem.W.keepIn K (.ref f34) = true)
    (a35 : PySem.W.nsIn K mainGlobals "pattern_of" = some (some (.ref f35))) (l35 : K.lookup f35 = some ⟨oc35, od35, .func (PySem.W.fnOf "pattern_of" "pattern_of" (defArgs s_pattern_of) (defBody s_pattern_of) (defScope s_pattern_of) .none kV35 dc35 pm35 an35 cd35 ct35), sl35⟩) (c35 : PySem.W.codeIn K cd35 "pattern_of" = true) (k35 : PySem.W.keepIn K (.ref f35) = true)
    (a36 : PySem.W.nsIn K mainGlobals "_law_ring" = some (some (.ref f36))) (l36 : K.lookup f36 = some ⟨oc36, od36, .func (PySem.W.fnOf "_law_ring" "_law_ring" (defArgs s_l_ring) (defBody s_l_ring) (defScope s_l_ring) .none kV36 dc36 pm36 an36 cd36 ct36), sl36⟩) (c36 : PySem.W.codeIn K cd36 "_law_ring" = true) (k36 : PySem.W.keepIn K (.ref f36) = true)
    (a37 : PySem.W.nsIn K mainGlobals "_law_told" = some (some (.ref f37))) (l37 : K.lookup f37 = some ⟨oc37, od37, .func (PySem.W.fnOf "_law_told" "_law_told" (defArgs s_l_told) (defBody s_l_told) (defScope s_l_told) .none kV37 dc37 pm37 an37 cd37 ct37), sl37⟩) (c37 : PySem.W.codeIn K cd37 "_law_told" = true) (k37 : PySem.W.keepIn K (.ref f37) = true)
    (a38 : PySem.W.nsIn K mainGlobals "_law_once" = some (some (.ref f38))) (l38 : K.lookup f38 = some ⟨oc38, od38, .func (PySem.W.fnOf "_law_once" "_law_once" (defArgs s_l_once) (defBody s_l_once) (defScope s_l_once) .none kV38 dc38 pm38 an38 cd38 ct38), sl38⟩) (c38 : PySem.W.codeIn K cd38 "_law_once" = true) (k38 : PySem.W.keepIn K (.ref f38) = true)
    (a39 : PySem.W.nsIn K mainGlobals "law" = some (some (.ref f39))) (l39 : K.lookup f39 = some ⟨oc39, od39, .func (PySem.W.fnOf "law" "law" (defArgs s_law) (defBody s_law) (defScope s_law) .none kV39 dc39 pm39 an39 cd39 ct39), sl39⟩) (c39 : PySem.W.codeIn K cd39 "law" = true) (k39 : PySem.W.keepIn K (.ref f39) = true)
    (tk_hall_of : K.lookup tc_hall_of = some ⟨tko_hall_of, tkd_hall_of, .fields tkv_hall_of, tks_hall_of⟩) (tv_hall_of : tkv_hall_of[11]? = some (.ref tp_hall_of)) (tn_hall_of : K.lookup tp_hall_of = none)
    (td : [tp_hall_of].Nodup)
    (Tt : TopTabs q K h)
    (tr_hall_of : ((PyProof.Rows.recsOf q).any fun e => e.name == ("hall_of" : Str)) = true)
    (x1HallError : PySem.W.nsIn K mainGlobals "HallError" = some (some (.ref eHallError))) (x2HallError : PySem.W.excIn K eHallError veTail "ValueError.__new__" = true) (x3HallError : PySem.W.keepIn K (.ref eHallError) = true) (x4HallError : PySem.W.subIn K (.ref eHallError) (.type "BaseException") = some true) (x5HallError : PySem.W.typeIn K (.ref eHallError) = some (.type "type"))
    (x1BadTune : PySem.W.nsIn K mainGlobals "BadTune" = some (some (.ref eBadTune))) (x2BadTune : PySem.W.excIn K eBadTune veTail "ValueError.__new__" = true) (x3BadTune : PySem.W.keepIn K (.ref eBadTune) = true) (x4BadTune : PySem.W.subIn K (.ref eBadTune) (.type "BaseException") = some true) (x5BadTune : PySem.W.typeIn K (.ref eBadTune) = some (.type "type"))
    (x1BadPattern : PySem.W.nsIn K mainGlobals "BadPattern" = some (some (.ref eBadPattern))) (x2BadPattern : PySem.W.excIn K eBadPattern veTail "ValueError.__new__" = true) (x3BadPattern : PySem.W.keepIn K (.ref eBadPattern) = true) (x4BadPattern : PySem.W.subIn K (.ref eBadPattern) (.type "BaseException") = some true) (x5BadPattern : PySem.W.typeIn K (.ref eBadPattern) = some (.type "type"))
    (x1TooBig : PySem.W.nsIn K mainGlobals "TooBig" = some (some (.ref eTooBig))) (x2TooBig : PySem.W.excIn K eTooBig veTail "ValueError.__new__" = true) (x3TooBig : PySem.W.keepIn K (.ref eTooBig) = true) (x4TooBig : PySem.W.subIn K (.ref eTooBig) (.type "BaseException") = some true) (x5TooBig : PySem.W.typeIn K (.ref eTooBig) = some (.type "type"))
    (y1TooBig : PySem.W.findIn K (.ref eTooBig) "__getattribute__" = some (some (.builtin "BaseException.__getattribute__"))) (y2TooBig : PySem.W.findIn K (.ref eTooBig) "__getattr__" = some none) (y4TooBig : PySem.W.hasDictIn K eTooBig = true) (y5TooBig : PySem.W.findIn K (.ref eTooBig) "__class__" = some (some (.builtin "object.__class__"))) (y8TooBig : PySem.W.mroIn K eTooBig (.type "object") = some true)
    (y6 : PySem.W.specialIn K (.builtin "object.__class__") "__get__" = some (some (.builtin "getset_descriptor.__get__"))) (y7 : PySem.W.takesIn K (.builtin "object.__class__") = some true)
    (sTooBig_HallError : PySem.W.subIn K (.ref eTooBig) (.ref eHallError) = some true)
    (dHallError : PySem.W.hasDictIn K eHallError = true)
    (tTooBig_TooBig : PySem.W.kitOne K (.ref eTooBig) (.ref eTooBig) = some true)
    (tTooBig_ValueError : PySem.W.kitOne K (.ref eTooBig) (.type "ValueError") = some true)
    (mMOST_SIGNS : PySem.W.nsIn K mainGlobals "MOST_SIGNS" = some (some (.int 2000 tkMOST_SIGNS)))
    (mMOST_LETTERS : PySem.W.nsIn K mainGlobals "MOST_LETTERS" = some (some (.int 8 tkMOST_LETTERS)))
    (mMOST_ROOMS : PySem.W.nsIn K mainGlobals "MOST_ROOMS" = some (some (.int 3 tkMOST_ROOMS)))
    (zlen : PySem.W.nsIn K mainGlobals "len" = some none)
    (zrange : PySem.W.nsIn K mainGlobals "range" = some none)
    (ztuple : PySem.W.nsIn K mainGlobals "tuple" = some none)
    (zlist : PySem.W.nsIn K mainGlobals "list" = some none)
    (zenumerate : PySem.W.nsIn K mainGlobals "enumerate" = some none)
    (zisinstance : PySem.W.nsIn K mainGlobals "isinstance" = some none)
    (zint : PySem.W.nsIn K mainGlobals "int" = some none)
    (zstr : PySem.W.nsIn K mainGlobals "str" = some none)
    (zbool : PySem.W.nsIn K mainGlobals "bool" = some none)
    (zsorted : PySem.W.nsIn K mainGlobals "sorted" = some none)
    (zset : PySem.W.nsIn K mainGlobals "set" = some none)
    (zzip : PySem.W.nsIn K mainGlobals "zip" = some none)
    (zValueError : PySem.W.nsIn K mainGlobals "ValueError" = some none) :
    LamX.LawAtS l w K CX0 21 63 "script" mg fa h := by
  letI iT : Tb := ⟨[(tp_hall_of, ("hall_of.<locals>.<lambda>" : Str))]⟩
  have e := hfa.symm.trans (PySem.W.mg_of X G a39)
  cases e
  have g_len : mg "len" = none := PySem.W.mg_none_of X G zlen
  have g_range : mg "range" = none := PySem.W.mg_none_of X G zrange
  have g_tuple : mg "tuple" = none := PySem.W.mg_none_of X G ztuple
  have g_list : mg "list" = none := PySem.W.mg_none_of X G zlist
  have g_enumerate : mg "enumerate" = none := PySem.W.mg_none_of X G zenumerate
  have g_isinstance : mg "isinstance" = none := PySem.W.mg_none_of X G zisinstance
  have g_int : mg "int" = none := PySem.W.mg_none_of X G zint
  have g_str : mg "str" = none := PySem.W.mg_none_of X G zstr
  have g_bool : mg "bool" = none := PySem.W.mg_none_of X G zbool
  have g_sorted : mg "sorted" = none := PySem.W.mg_none_of X G zsorted
  have g_set : mg "set" = none := PySem.W.mg_none_of X G zset
  have g_zip : mg "zip" = none := PySem.W.mg_none_of X G zzip
  have g_ValueError : mg "ValueError" = none := PySem.W.mg_none_of X G zValueError
  have g_MOST_SIGNS : ∃ t, mg "MOST_SIGNS" = some (.int 2000 t) := ⟨_, PySem.W.mg_of X G mMOST_SIGNS⟩
  have g_MOST_LETTERS : ∃ t, mg "MOST_LETTERS" = some (.int 8 t) := ⟨_, PySem.W.mg_of X G mMOST_LETTERS⟩
  have g_MOST_ROOMS : ∃ t, mg "MOST_ROOMS" = some (.int 3 t) := ⟨_, PySem.W.mg_of X G mMOST_ROOMS⟩
  have X_HallError : XCls K mg "HallError" eHallError := ⟨PySem.W.mg_of X G x1HallError, x2HallError, x3HallError, x4HallError, x5HallError⟩
  have X_BadTune : XCls K mg "BadTune" eBadTune := ⟨PySem.W.mg_of X G x1BadTune, x2BadTune, x3BadTune, x4BadTune, x5BadTune⟩
  have X_BadPattern : XCls K mg "BadPattern" eBadPattern := ⟨PySem.W.mg_of X G x1BadPattern, x2BadPattern, x3BadPattern, x4BadPattern, x5BadPattern⟩
  have X_TooBig : XCls K mg "TooBig" eTooBig := ⟨PySem.W.mg_of X G x1TooBig, x2TooBig, x3TooBig, x4TooBig, x5TooBig⟩
  have E_TooBig : ExcC K eTooBig := ⟨y1TooBig, y2TooBig, x4TooBig, y4TooBig, y5TooBig, y6, y7, y8TooBig⟩
  have M_TooBig_HallError : PySem.W.exmOne K (.ref eTooBig) (.ref eHallError) = some true := PySem.W.exm_ref x4HallError dHallError x5HallError sTooBig_HallError
  have tB : ToldB K eHallError eTooBig := ⟨M_TooBig_HallError, E_TooBig, tTooBig_TooBig, tTooBig_ValueError⟩
  have T_Places : PlT K cPlaces := ⟨⟨bPlaces_pg, bPlaces_hd, bPlaces_po, bPlaces_sa⟩, bPlaces_f_signs, bPlaces_f_next, bPlaces_f_whole⟩
  have F1 := fun_mk (st := s_l_cell) l1 c1 k1
  have F2 := fun_mk (st := s_l_mix) l2 c2 k2
  have F3 := fun_mk (st := s_l_large) l3 c3 k3
  have F4 := fun_mk (st := s_l_hall) l4 c4 k4
  have F5 := fun_mk (st := s_l_apart) l5 c5 k5
  have F6 := fun_mk (st := s_l_tight) l6 c6 k6
  have F7 := fun_mk (st := s_l_three) l7 c7 k7
  have F8 := fun_mk (st := s_l_tune) l8 c8 k8
  have F9 := fun_mk (st := s_l_room) l9 c9 k9
  have F10 := fun_mk (st := s_l_good) l10 c10 k10
  have F11 := fun_mk (st := s_sorts) l11 c11 k11
  have F12 := fun_mk (st := s_tight) l12 c12 k12
  have F13 := fun_mk (st := s_built) l13 c13 k13
  have F14 := fun_mk (st := s_letters) l14 c14 k14
  have F15 := fun_mk (st := s_look_tune) l15 c15 k15
  have F16 := fun_mk (st := s_is_within) l16 c16 k16
  have F17 := fun_mk (st := s_look_pattern) l17 c17 k17
  have F18 := fun_mk (st := s_joints) l18 c18 k18
  have F19 := fun_mk (st := s_behind_each) l19 c19 k19
  have F20 := fun_mk (st := s_both_lists) l20 c20 k20
  have F21 := fun_mk (st := s_Places_follow) l21 c21 k21
  have F22 := fun_mk (st := s_Places_single) l22 c22 k22
  have F23 := fun_mk (st := s_Places_starred) l23 c23 k23
  have F24 := fun_mk (st := s_Places_put) l24 c24 k24
  have F25 := fun_mk (st := s_Places_x_initx) l25 c25 k25
  have F26 := fun_mk (st := s_Places_step) l26 c26 k26
  have F27 := fun_mk (st := s_Places_is_end) l27 c27 k27
  have F28 := fun_mk (st := s_matches) l28 c28 k28
  have F29 := fun_mk (st := s_hall_of) l29 c29 k29
  have F30 := fun_mk (st := s_one_of) l30 c30 k30
  have F31 := fun_mk (st := s_then) l31 c31 k31
  have F32 := fun_mk (st := s_any_of) l32 c32 k32
  have F33 := fun_mk (st := s_straight) l33 c33 k33
  have F34 := fun_mk (st := s_without) l34 c34 k34
  have F35 := fun_mk (st := s_pattern_of) l35 c35 k35
  have F36 := fun_mk (st := s_l_ring) l36 c36 k36
  have F37 := fun_mk (st := s_l_told) l37 c37 k37
  have F38 := fun_mk (st := s_l_once) l38 c38 k38
  have F39 := fun_mk (st := s_law) l39 c39 k39
  have hc_law : True := trivial
  have tb_hall_of : PySem.W.tabIn K "hall_of" = some (tc_hall_of, tp_hall_of) := tabIn_of a29 l29 rfl tk_hall_of tv_hall_of
  have hc_hall_of := PySem.W.law_code X G tb_hall_of (PySem.W.mg_of X G a29) (X _ _ l29) rfl
  have hT_hall_of : (tp_hall_of, ("hall_of.<locals>.<lambda>" : Str)) ∈ Tb.T := by show _ ∈ [(tp_hall_of, ("hall_of.<locals>.<lambda>" : Str))]; simp
  have hU_hall_of := tab_uniq (T := Tb.T) (show (List.map _ [(tp_hall_of, ("hall_of.<locals>.<lambda>" : Str))]).Nodup from td) hT_hall_of
  have tt : ∀ p ∈ [(tc_hall_of, tp_hall_of)], PySem.W.CodeHd h p.1 p.2 ∧ h.get? p.2 = some { cls := .none, data := .fields #[] } := by
    intro p hp; simp only [List.mem_cons, List.not_mem_nil, or_false] at hp
    rcases hp with rfl
    · exact Tt _ _ _ tr_hall_of tb_hall_of
  have tn : ∀ p ∈ [(tc_hall_of, tp_hall_of)], K.lookup p.2 = none := by
    intro p hp; simp only [List.mem_cons, List.not_mem_nil, or_false] at hp
    rcases hp with rfl
    · exact tn_hall_of
  refine ⟨PySem.W.fnOf "law" "law" (defArgs s_law) (defBody s_law) (defScope s_law) .none kV39 dc39 pm39 an39 cd39 ct39, [(tc_hall_of, tp_hall_of)], spLawT K, fun p hp => (tt p hp).2, tn, fun p hp => (tt p hp).1, fun s v => .of_eq rfl, fun H a ns hl _ hz hS => ⟨a, ns, rfl, hS, hl, ?_, fun _ => rfl⟩, fun base _ _ TBs => ?_⟩
  · intro p hp
    have hp : p ∈ [(tp_hall_of, ("hall_of.<locals>.<lambda>" : Str))] := hp
    simp only [List.mem_cons, List.not_mem_nil, or_false] at hp
    rcases hp with rfl
    · exact LamX.TabS.nil (hz (tc_hall_of, tp_hall_of) (by simp))
  have TB_hall_of := TBs (tc_hall_of, tp_hall_of) (by simp)
  have C_l_cell : Cal l.prog w K mg base CX0 1 "_law_cell" ["script", "k"] (spCell K) := ⟨_, _, ok_l_cell F1 g_len, PySem.W.mg_of X G a1, k1, F1.binds (ps := ["script", "k"]) fun _ _ _ _ _ _ us hl => match us, hl with | [_, _], _ => rfl⟩
  have C_l_mix : Cal l.prog w K mg base CX0 1 "_law_mix" ["cell", "prime", "many"] spMix := ⟨_, _, ok_l_mix F2 , PySem.W.mg_of X G a2, k2, F2.binds (ps := ["cell", "prime", "many"]) fun _ _ _ _ _ _ us hl => match us, hl with | [_, _, _], _ => rfl⟩
  have C_l_large : Cal l.prog w K mg base CX0 2 "_law_large" ["script"] (spLarge K) := ⟨_, _, ok_l_large F3 g_len C_l_cell C_l_mix, PySem.W.mg_of X G a3, k3, F3.binds (ps := ["script"]) fun _ _ _ _ _ _ us hl => match us, hl with | [_], _ => rfl⟩
  have C_l_hall : Cal l.prog w K mg base CX0 3 "_law_hall" ["script", "at"] (spLhall K) := ⟨_, _, ok_l_hall F4 g_len g_range g_tuple C_l_cell C_l_mix C_l_large, PySem.W.mg_of X G a4, k4, F4.binds (ps := ["script", "at"]) fun _ _ _ _ _ _ us hl => match us, hl with | [_, _], _ => rfl⟩
  have C_l_apart : Cal l.prog w K mg base CX0 1 "_law_apart" ["hall"] spApart := ⟨_, _, ok_l_apart F5 g_len g_range, PySem.W.mg_of X G a5, k5, F5.binds (ps := ["hall"]) fun _ _ _ _ _ _ us hl => match us, hl with | [_], _ => rfl⟩
  have C_l_tight : Cal l.prog w K mg base CX0 2 "_law_tight" ["hall"] spLtight := ⟨_, _, ok_l_tight F6 g_len g_range g_tuple C_l_apart, PySem.W.mg_of X G a6, k6, F6.binds (ps := ["hall"]) fun _ _ _ _ _ _ us hl => match us, hl with | [_], _ => rfl⟩
  have C_l_three : Cal l.prog w K mg base CX0 3 "_law_three" ["hall"] (spCut 3) := ⟨_, _, ok_l_three F7 g_len g_tuple C_l_tight, PySem.W.mg_of X G a7, k7, F7.binds (ps := ["hall"]) fun _ _ _ _ _ _ us hl => match us, hl with | [_], _ => rfl⟩
  have C_l_tune : Cal l.prog w K mg base CX0 2 "_law_tune" ["script", "at", "whistles", "most"] (spLtune K) := ⟨_, _, ok_l_tune F8 g_range C_l_cell C_l_mix, PySem.W.mg_of X G a8, k8, F8.binds (ps := ["script", "at", "whistles", "most"]) fun _ _ _ _ _ _ us hl => match us, hl with | [_, _, _, _], _ => rfl⟩
  have C_l_room : Cal l.prog w K mg base CX0 1 "_law_room" ["hall", "room", "tune"] spLed := ⟨_, _, ok_l_room F9 , PySem.W.mg_of X G a9, k9, F9.binds (ps := ["hall", "room", "tune"]) fun _ _ _ _ _ _ us hl => match us, hl with | [_, _, _], _ => rfl⟩
  have C_l_good : Cal l.prog w K mg base CX0 2 "_law_good" ["hall", "tune"] spLgood := ⟨_, _, ok_l_good F10 C_l_room, PySem.W.mg_of X G a10, k10, F10.binds (ps := ["hall", "tune"]) fun _ _ _ _ _ _ us hl => match us, hl with | [_, _], _ => rfl⟩
  have C_sorts : Cal l.prog w K mg base CX0 1 "sorts" ["hall"] spSorts := ⟨_, _, ok_sorts F11 g_len g_list g_tuple g_enumerate, PySem.W.mg_of X G a11, k11, F11.binds (ps := ["hall"]) fun _ _ _ _ _ _ us hl => match us, hl with | [_], _ => rfl⟩
  have C_tight : Cal l.prog w K mg base CX0 2 "tight" ["hall"] spTight := ⟨_, _, ok_tight F12 g_len g_range g_tuple C_sorts, PySem.W.mg_of X G a12, k12, F12.binds (ps := ["hall"]) fun _ _ _ _ _ _ us hl => match us, hl with | [_], _ => rfl⟩
  have C_built : Cal l.prog w K mg base CX0 10 "built" ["whistles", "start", "step", "is_bright"] (spBuilt l.prog w K mg base) := ⟨_, _, ok_built F13 g_len g_range g_tuple g_int C_tight, PySem.W.mg_of X G a13, k13, F13.binds (ps := ["whistles", "start", "step", "is_bright"]) fun _ _ _ _ _ _ us hl => match us, hl with | [_, _, _, _], _ => rfl⟩
  have C_letters : Cal l.prog w K mg base CX0 1 "letters" ["whistles"] spLetters := ⟨_, _, ok_letters F14 , PySem.W.mg_of X G a14, k14, F14.binds (ps := ["whistles"]) fun _ _ _ _ _ _ us hl => match us, hl with | [_], _ => rfl⟩
  have C_look_tune : Cal l.prog w K mg base (L2.CX l.prog w) 2 "look_tune" ["tune", "whistles"] (spLookTune eBadTune) := ⟨_, _, ok_look_tune F15 g_isinstance g_str X_BadTune C_letters, PySem.W.mg_of X G a15, k15, F15.binds (ps := ["tune", "whistles"]) fun _ _ _ _ _ _ us hl => match us, hl with | [_, _], _ => rfl⟩
  have C_is_within : Cal l.prog w K mg base CX0 1 "is_within" ["thing", "low", "high"] spWithin := ⟨_, _, ok_is_within F16 g_isinstance g_int g_bool, PySem.W.mg_of X G a16, k16, F16.binds (ps := ["thing", "low", "high"]) fun _ _ _ _ _ _ us hl => match us, hl with | [_, _, _], _ => rfl⟩
  have C_look_pattern : Cal l.prog w K mg base (L2.CX l.prog w) 2 "look_pattern" ["pattern", "whistles"] (spLookPat eBadPattern) := ⟨_, _, ok_look_pattern F17 g_isinstance g_str g_len g_int g_MOST_SIGNS X_BadPattern C_letters C_is_within, PySem.W.mg_of X G a17, k17, F17.binds (ps := ["pattern", "whistles"]) fun _ _ _ _ _ _ us hl => match us, hl with | [_, _], _ => rfl⟩
  have C_joints : Cal l.prog w K mg base CX0 1 "joints" ["pattern"] spJoints := ⟨_, _, ok_joints F18 g_enumerate, PySem.W.mg_of X G a18, k18, F18.binds (ps := ["pattern"]) fun _ _ _ _ _ _ us hl => match us, hl with | [_], _ => rfl⟩
  have C_behind_each : Cal l.prog w K mg base CX0 2 "behind_each" ["pattern"] spBehindEach := ⟨_, _, ok_behind_each F19 C_joints, PySem.W.mg_of X G a19, k19, F19.binds (ps := ["pattern"]) fun _ _ _ _ _ _ us hl => match us, hl with | [_], _ => rfl⟩
  have C_both_lists : Cal l.prog w K mg base CX0 1 "both_lists" ["one", "two"] spBoth := ⟨_, _, ok_both_lists F20 g_sorted g_set, PySem.W.mg_of X G a20, k20, F20.binds (ps := ["one", "two"]) fun _ _ _ _ _ _ us hl => match us, hl with | [_, _], _ => rfl⟩
  have M_follow : Mth l.prog w K mg base 2 cPlaces "follow" ["self", "ones", "others"] (spFollow cPlaces) := ⟨_, _, T_Places.cl, ⟨a21, i21, k21⟩, ok_follow F21 T_Places C_both_lists, F21.binds (ps := ["self", "ones", "others"]) fun _ _ _ _ _ _ us hl => match us, hl with | [_, _, _], _ => rfl⟩
  have M_single : Mth l.prog w K mg base 3 cPlaces "single" ["self", "sign"] (spSingle cPlaces) := ⟨_, _, T_Places.cl, ⟨a22, i22, k22⟩, ok_single F22 T_Places g_len, F22.binds (ps := ["self", "sign"]) fun _ _ _ _ _ _ us hl => match us, hl with | [_, _], _ => rfl⟩
  have M_starred : Mth l.prog w K mg base 3 cPlaces "starred" ["self", "part"] (spStarred cPlaces) := ⟨_, _, T_Places.cl, ⟨a23, i23, k23⟩, ok_starred F23 T_Places M_follow, F23.binds (ps := ["self", "part"]) fun _ _ _ _ _ _ us hl => match us, hl with | [_, _], _ => rfl⟩
  have M_put : Mth l.prog w K mg base 3 cPlaces "put" ["self", "one", "two", "sign"] (spPut cPlaces) := ⟨_, _, T_Places.cl, ⟨a24, i24, k24⟩, ok_put F24 T_Places g_list C_both_lists M_follow, F24.binds (ps := ["self", "one", "two", "sign"]) fun _ _ _ _ _ _ us hl => match us, hl with | [_, _, _, _], _ => rfl⟩
  have K_Places : Mkr l.prog w K mg base 4 "Places" cPlaces ["self", "pattern"] (spInit cPlaces) := ⟨_, _, ⟨bPlaces_mk, a25, i25, bPlaces_kc⟩, ok_init F25 T_Places C_behind_each M_single M_starred M_put, PySem.W.mg_of X G bPlaces_ns, F25.binds (ps := ["self", "pattern"]) fun _ _ _ _ _ _ us hl => match us, hl with | [_, _], _ => rfl⟩
  have M_step : Mth l.prog w K mg base 2 cPlaces "step" ["self", "here", "sign"] (spStepM cPlaces) := ⟨_, _, T_Places.cl, ⟨a26, i26, k26⟩, ok_step F26 T_Places g_tuple g_sorted g_set, F26.binds (ps := ["self", "here", "sign"]) fun _ _ _ _ _ _ us hl => match us, hl with | [_, _, _], _ => rfl⟩
  have M_is_end : Mth l.prog w K mg base 2 cPlaces "is_end" ["self", "here"] (spEndM cPlaces) := ⟨_, _, T_Places.cl, ⟨a27, i27, k27⟩, ok_is_end F27 T_Places, F27.binds (ps := ["self", "here"]) fun _ _ _ _ _ _ us hl => match us, hl with | [_, _], _ => rfl⟩
  have C_matches : Cal l.prog w K mg base (L2.CX l.prog w) 6 "matches" ["pattern", "whistles", "tune"] (spMatches eBadPattern) := ⟨_, _, ok_matches F28 C_look_pattern C_look_tune K_Places M_step M_is_end, PySem.W.mg_of X G a28, k28, F28.binds (ps := ["pattern", "whistles", "tune"]) fun _ _ _ _ _ _ us hl => match us, hl with | [_, _, _], _ => rfl⟩
  have C_hall_of : Cal l.prog w K mg base (L2.CX l.prog w) 11 "hall_of" ["pattern", "whistles"] (spHallOf eBadPattern eTooBig) := ⟨_, _, ok_hall_of F29 TB_hall_of hc_hall_of hT_hall_of hU_hall_of g_len g_MOST_LETTERS X_TooBig C_look_pattern K_Places M_step M_is_end C_built, PySem.W.mg_of X G a29, k29, F29.binds (ps := ["pattern", "whistles"]) fun _ _ _ _ _ _ us hl => match us, hl with | [_, _], _ => rfl⟩
  have C_one_of : Cal l.prog w K mg base CX0 1 "one_of" ["one", "two"] spOneOf := ⟨_, _, ok_one_of F30 , PySem.W.mg_of X G a30, k30, F30.binds (ps := ["one", "two"]) fun _ _ _ _ _ _ us hl => match us, hl with | [_, _], _ => rfl⟩
  have C_then : Cal l.prog w K mg base CX0 1 "then" ["one", "two"] spThen := ⟨_, _, ok_then F31 , PySem.W.mg_of X G a31, k31, F31.binds (ps := ["one", "two"]) fun _ _ _ _ _ _ us hl => match us, hl with | [_, _], _ => rfl⟩
  have C_any_of : Cal l.prog w K mg base CX0 1 "any_of" ["one"] spAnyOf := ⟨_, _, ok_any_of F32 g_len, PySem.W.mg_of X G a32, k32, F32.binds (ps := ["one"]) fun _ _ _ _ _ _ us hl => match us, hl with | [_], _ => rfl⟩
  have C_straight : Cal l.prog w K mg base CX0 2 "straight" ["hall"] spStraight := ⟨_, _, ok_straight F33 g_len g_range g_zip g_enumerate C_one_of, PySem.W.mg_of X G a33, k33, F33.binds (ps := ["hall"]) fun _ _ _ _ _ _ us hl => match us, hl with | [_], _ => rfl⟩
  have C_without : Cal l.prog w K mg base CX0 2 "without" ["table", "by"] spWithout := ⟨_, _, ok_without F34 g_len g_range C_any_of C_then C_one_of, PySem.W.mg_of X G a34, k34, F34.binds (ps := ["table", "by"]) fun _ _ _ _ _ _ us hl => match us, hl with | [_, _], _ => rfl⟩
  have C_pattern_of : Cal l.prog w K mg base (L2.CX l.prog w) 3 "pattern_of" ["hall"] (spPatOf eTooBig) := ⟨_, _, ok_pattern_of F35 g_len g_MOST_ROOMS X_TooBig C_straight C_without, PySem.W.mg_of X G a35, k35, F35.binds (ps := ["hall"]) fun _ _ _ _ _ _ us hl => match us, hl with | [_], _ => rfl⟩
  have C_l_ring : Cal l.prog w K mg base CX0 1 "_law_ring" ["many", "whistles"] spRing := ⟨_, _, ok_l_ring F36 g_tuple g_range, PySem.W.mg_of X G a36, k36, F36.binds (ps := ["many", "whistles"]) fun _ _ _ _ _ _ us hl => match us, hl with | [_, _], _ => rfl⟩
  have C_l_told : Cal l.prog w K mg base CX0 4 "_law_told" ["hall"] spTold18 := ⟨_, _, ok_l_told F37 g_isinstance g_ValueError X_HallError X_TooBig tB C_pattern_of, PySem.W.mg_of X G a37, k37, F37.binds (ps := ["hall"]) fun _ _ _ _ _ _ us hl => match us, hl with | [_], _ => rfl⟩
  have C_l_once : Cal l.prog w K mg base CX0 20 "_law_once" ["script"] (spOnce K) := ⟨_, _, ok_l_once F38 g_isinstance g_str g_range g_len C_l_cell C_l_hall C_l_three C_l_tune C_l_good C_l_ring C_l_told C_pattern_of C_matches C_hall_of, PySem.W.mg_of X G a38, k38, F38.binds (ps := ["script"]) fun _ _ _ _ _ _ us hl => match us, hl with | [_], _ => rfl⟩
  exact ok_law F39 C_l_once
end WH

open PySem PySem.W PyProof.Rows in
set_option maxRecDepth 100000 in
set_option maxHeartbeats 0 in
theorem PySem.Challenge.cw_whistlehall_k18_whole_patterns_of_halls_holds : PySem.Challenge.rw_whistlehall_k18_whole_patterns_of_halls.Holds := by
  w_on; o_law; k_head; (case hw => w_witness2)
  k_fill
  refine WH.walk_T (n := 63) (k := 21) (x := "script") (CX := fun _ => L2.CX0) (l := PySem.Challenge.rw_whistlehall_k18_whole_patterns_of_halls) rfl (by decide) rfl ⟨rfl, by decide, by decide⟩ (fun w h Y => by first | exact PySem.W.kIn_of Y | exact PySem.W.km_in_of Y) ?F (fun _ _ _ _ _ z => z)
  case F =>
    intro w mg fa h KX G hmg Tt
    refine' WH.all_mk KX G hmg ?bPlaces_ns ?bPlaces_pg ?bPlaces_hd ?bPlaces_po ?bPlaces_sa ?bPlaces_mk ?bPlaces_kc ?bPlaces_f_signs ?bPlaces_f_next ?bPlaces_f_whole ?a1 ?l1 ?c1 ?k1 ?a2 ?l2 ?c2 ?k2 ?a3 ?l3 ?c3 ?k3 ?a4 ?l4 ?c4 ?k4 ?a5 ?l5 ?c5 ?k5 ?a6 ?l6 ?c6 ?k6 ?a7 ?l7 ?c7 ?k7 ?a8 ?l8 ?c8 ?k8 ?a9 ?l9 ?c9 ?k9 ?a10 ?l10 ?c10 ?k10 ?a11 ?l11 ?c11 ?k11 ?a12 ?l12 ?c12 ?k12 ?a13 ?l13 ?c13 ?k13 ?a14 ?l14 ?c14 ?k14 ?a15 ?l15 ?c15 ?k15 ?a16 ?l16 ?c16 ?k16 ?a17 ?l17 ?c17 ?k17 ?a18 ?l18 ?c18 ?k18 ?a19 ?l19 ?c19 ?k19 ?a20 ?l20 ?c20 ?k20 ?a21 ?i21 ?l21 ?c21 ?k21 ?a22 ?i22 ?l22 ?c22 ?k22 ?a23 ?i23 ?l23 ?c23 ?k23 ?a24 ?i24 ?l24 ?c24 ?k24 ?a25 ?i25 ?l25 ?c25 ?k25 ?a26 ?i26 ?l26 ?c26 ?k26 ?a27 ?i27 ?l27 ?c27 ?k27 ?a28 ?l28 ?c28 ?k28 ?a29 ?l29 ?c29 ?k29 ?a30 ?l30 ?c30 ?k30 ?a31 ?l31 ?c31 ?k31 ?a32 ?l32 ?c32 ?k32 ?a33 ?l33 ?c33 ?k33 ?a34 ?l34 ?c34 ?k34 ?a35 ?l35 ?c35 ?k35 ?a36 ?l36 ?c36 ?k36 ?a37 ?l37 ?c37 ?k37 ?a38 ?l38 ?c38 ?k38 ?a39 ?l39 ?c39 ?k39 ?tk_hall_of ?tv_hall_of ?tn_hall_of ?td Tt ?tr_hall_of ?x1HallError ?x2HallError ?x3HallError ?x4HallError ?x5HallError ?x1BadTune ?x2BadTune ?x3BadTune ?x4BadTune ?x5BadTune ?x1BadPattern ?x2BadPattern ?x3BadPattern ?x4BadPattern ?x5BadPattern ?x1TooBig ?x2TooBig ?x3TooBig ?x4TooBig ?x5TooBig ?y1TooBig ?y2TooBig ?y4TooBig ?y5TooBig ?y8TooBig ?y6 ?y7 ?sTooBig_HallError ?dHallError ?tTooBig_TooBig ?tTooBig_ValueError ?mMOST_SIGNS ?mMOST_LETTERS ?mMOST_ROOMS ?zlen ?zrange ?ztuple ?zlist ?zenumerate ?zisinstance ?zint ?zstr ?zbool ?zsorted ?zset ?zzip ?zValueError
    (case bPlaces_ns => k_is)
    (case bPlaces_pg => k_is)
    (case bPlaces_hd => k_is)
    (case bPlaces_po => k_is)
    (case bPlaces_sa => k_is)
    (case bPlaces_mk => k_is)
    (case bPlaces_kc => k_is)
    (case bPlaces_f_signs => k_is)
    (case bPlaces_f_next => k_is)
    (case bPlaces_f_whole => k_is)
    (case a1 => k_is)
    (case l1 => k_is)
    (case c1 => k_is)
    (case k1 => k_is)
    (case a2 => k_is)
    (case l2 => k_is)
    (case c2 => k_is)
    (case k2 => k_is)
    (case a3 => k_is)
    (case l3 => k_is)
    (case c3 => k_is)
    (case k3 => k_is)
    (case a4 => k_is)
    (case l4 => k_is)
    (case c4 => k_is)
    (case k4 => k_is)
    (case a5 => k_is)
    (case l5 => k_is)
    (case c5 => k_is)
    (case k5 => k_is)
    (case a6 => k_is)
    (case l6 => k_is)
    (case c6 => k_is)
    (case k6 => k_is)
    (case a7 => k_is)
    (case l7 => k_is)
    (case c7 => k_is)
    (case k7 => k_is)
    (case a8 => k_is)
    (case l8 => k_is)
    (case c8 => k_is)
    (case k8 => k_is)
    (case a9 => k_is)
    (case l9 => k_is)
    (case c9 => k_is)
    (case k9 => k_is)
    (case a10 => k_is)
    (case l10 => k_is)
    (case c10 => k_is)
    (case k10 => k_is)
    (case a11 => k_is)
    (case l11 => k_is)
    (case c11 => k_is)
    (case k11 => k_is)
    (case a12 => k_is)
    (case l12 => k_is)
    (case c12 => k_is)
    (case k12 => k_is)
    (case a13 => k_is)
    (case l13 => k_is)
    (case c13 => k_is)
    (case k13 => k_is)
    (case a14 => k_is)
    (case l14 => k_is)
    (case c14 => k_is)
    (case k14 => k_is)
    (case a15 => k_is)
    (case l15 => k_is)
    (case c15 => k_is)
    (case k15 => k_is)
    (case a16 => k_is)
    (case l16 => k_is)
    (case c16 => k_is)
    (case k16 => k_is)
    (case a17 => k_is)
    (case l17 => k_is)
    (case c17 => k_is)
    (case k17 => k_is)
    (case a18 => k_is)
    (case l18 => k_is)
    (case c18 => k_is)
    (case k18 => k_is)
    (case a19 => k_is)
    (case l19 => k_is)
    (case c19 => k_is)
    (case k19 => k_is)
    (case a20 => k_is)
    (case l20 => k_is)
    (case c20 => k_is)
    (case k20 => k_is)
    (case a21 => k_is)
    (case i21 => k_is)
    (case l21 => k_is)
    (case c21 => k_is)
    (case k21 => k_is)
    (case a22 => k_is)
    (case i22 => k_is)
    (case l22 => k_is)
    (case c22 => k_is)
    (case k22 => k_is)
    (case a23 => k_is)
    (case i23 => k_is)
    (case l23 => k_is)
    (case c23 => k_is)
    (case k23 => k_is)
    (case a24 => k_is)
    (case i24 => k_is)
    (case l24 => k_is)
    (case c24 => k_is)
    (case k24 => k_is)
    (case a25 => k_is)
    (case i25 => k_is)
    (case l25 => k_is)
    (case c25 => k_is)
    (case k25 => k_is)
    (case a26 => k_is)
    (case i26 => k_is)
    (case l26 => k_is)
    (case c26 => k_is)
    (case k26 => k_is)
    (case a27 => k_is)
    (case i27 => k_is)
    (case l27 => k_is)
    (case c27 => k_is)
    (case k27 => k_is)
    (case a28 => k_is)
    (case l28 => k_is)
    (case c28 => k_is)
    (case k28 => k_is)
    (case a29 => k_is)
    (case l29 => k_is)
    (case c29 => k_is)
    (case k29 => k_is)
    (case a30 => k_is)
    (case l30 => k_is)
    (case c30 => k_is)
    (case k30 => k_is)
    (case a31 => k_is)
    (case l31 => k_is)
    (case c31 => k_is)
    (case k31 => k_is)
    (case a32 => k_is)
    (case l32 => k_is)
    (case c32 => k_is)
    (case k32 => k_is)
    (case a33 => k_is)
    (case l33 => k_is)
    (case c33 => k_is)
    (case k33 => k_is)
    (case a34 => k_is)
    (case l34 => k_is)
    (case c34 => k_is)
    (case k34 => k_is)
    (case a35 => k_is)
    (case l35 => k_is)
    (case c35 => k_is)
    (case k35 => k_is)
    (case a36 => k_is)
    (case l36 => k_is)
    (case c36 => k_is)
    (case k36 => k_is)
    (case a37 => k_is)
    (case l37 => k_is)
    (case c37 => k_is)
    (case k37 => k_is)
    (case a38 => k_is)
    (case l38 => k_is)
    (case c38 => k_is)
    (case k38 => k_is)
    (case a39 => k_is)
    (case l39 => k_is)
    (case c39 => k_is)
    (case k39 => k_is)
    (case tk_hall_of => k_is)
    (case tv_hall_of => rfl)
    (case tn_hall_of => kernel_rfl)
    (case td => decide)
    (case tr_hall_of => kernel_rfl)
    (case x1HallError => k_is)
    (case x2HallError => first | k_exc | k_is)
    (case x3HallError => k_is)
    (case x4HallError => k_is)
    (case x5HallError => k_is)
    (case x1BadTune => k_is)
    (case x2BadTune => first | k_exc | k_is)
    (case x3BadTune => k_is)
    (case x4BadTune => k_is)
    (case x5BadTune => k_is)
    (case x1BadPattern => k_is)
    (case x2BadPattern => first | k_exc | k_is)
    (case x3BadPattern => k_is)
    (case x4BadPattern => k_is)
    (case x5BadPattern => k_is)
    (case x1TooBig => k_is)
    (case x2TooBig => first | k_exc | k_is)
    (case x3TooBig => k_is)
    (case x4TooBig => k_is)
    (case x5TooBig => k_is)
    (case y1TooBig => k_is)
    (case y2TooBig => k_is)
    (case y4TooBig => k_is)
    (case y5TooBig => k_is)
    (case y8TooBig => k_is)
    (case y6 => k_is)
    (case y7 => k_is)
    (case sTooBig_HallError => first | rfl | k_is)
    (case dHallError => k_is)
    (case tTooBig_TooBig => first | exact WH.kit_self | kit_is)
    (case tTooBig_ValueError => first | exact WH.kit_self | kit_is)
    (case mMOST_SIGNS => k_is)
    (case mMOST_LETTERS => k_is)
    (case mMOST_ROOMS => k_is)
    (case zlen => k_is)
    (case zrange => k_is)
    (case ztuple => k_is)
    (case zlist => k_is)
    (case zenumerate => k_is)
    (case zisinstance => k_is)
    (case zint => k_is)
    (case zstr => k_is)
    (case zbool => k_is)
    (case zsorted => k_is)
    (case zset => k_is)
    (case zzip => k_is)
    (case zValueError => k_is)
