import PyProof.Rows.All
import Wide.All
import OpenK.AllK
import Wide.FinOn
import HandS.ForMost
import HandS.Exc
import HandS.TryOnly
import HandS.ExcOwn
import HandS.WordsExc
import HandS.Star
import HandS.TupAny
import HandS.TupLe
import HandS.TupSets
import HandS.TupLen
import HandS.Conv
import HandS.IsInst
import HandS.SortKw
import HandS.Zip
import HandS.Lambda
import HandS.EndTab
import HandS.Wide
import HandS.Walk
import HandS.SortInts
import HandS.Flow
import HandS.Deep
import HandS.Style
import KE.KDictDisplayH
import KE.KSortTupG
import KE.GoesNew
import PySem.Challenge.RW_stoopers_k43_whole_seasons
set_option Elab.async false
set_option linter.all false
section
set_option autoImplicit false
/-! The plain mathematics: webs, stoops, what comes of what, boxes, labels. -/
namespace Ks
abbrev Ties := List (Nat × Nat)
def Adj (ts : Ties) (p q : Nat) : Prop := (p, q) ∈ ts ∨ (q, p) ∈ ts
theorem Adj.symm {ts : Ties} {p q : Nat} (h : Adj ts p q) : Adj ts q p := h.elim .inr .inl
/-- the height of a person -/
abbrev at_ (h : List Int) (p : Nat) : Int := h.getD p 0
def Stp (ts : Ties) (h : List Int) (p q : Nat) : Prop := Adj ts p q ∧ at_ h q < at_ h p
def aft (h : List Int) (p q : Nat) : List Int := h.set p (at_ h q)
def Step (ts : Ties) (h g : List Int) : Prop := ∃ p q, Stp ts h p q ∧ g = aft h p q
/-- ties join persons below n -/
def Below (n : Nat) (ts : Ties) : Prop := ∀ t ∈ ts, t.1 < t.2 ∧ t.2 < n
theorem Below.adj {n : Nat} {ts : Ties} (b : Below n ts) {p q : Nat} (h : Adj ts p q) : p < n ∧ q < n ∧ p ≠ q := by
  rcases h with h | h
  · have := b _ h
    simp only at this
    omega
  · have := b _ h
    simp only at this
    omega
theorem aft_length (h : List Int) (p q : Nat) : (aft h p q).length = h.length := by simp [aft]
theorem at_set (h : List Int) (p r : Nat) (v : Int) (hp : p < h.length) : at_ (h.set p v) r = if r = p then v else at_ h r := by
  unfold at_
  simp only [List.getD_eq_getElem?_getD, List.getElem?_set]
  by_cases e : p = r
  · subst e; simp [hp]
  · have : ¬ r = p := fun z => e z.symm
    simp [e, this]
theorem at_aft (h : List Int) (p q r : Nat) (hp : p < h.length) : at_ (aft h p q) r = if r = p then at_ h q else at_ h r := at_set h p r _ hp
theorem ext_at {h g : List Int} (hl : h.length = g.length) (e : ∀ i, i < h.length → at_ h i = at_ g i) : h = g := by
  apply List.ext_getElem hl
  intro i h1 h2
  have := e i h1
  unfold at_ at this
  simpa [List.getD_eq_getElem?_getD, List.getElem?_eq_getElem h1, List.getElem?_eq_getElem h2] using this
/-! ### what comes of what -/
inductive Comes (ts : Ties) : List Int → List Int → Prop where
  | refl (h : List Int) : Comes ts h h
  | head {h k g : List Int} : Step ts h k → Comes ts k g → Comes ts h g
theorem Comes.tail {ts : Ties} {h k g : List Int} (c : Comes ts h k) (s : Step ts k g) : Comes ts h g := by
  induction c with
  | refl h => exact .head s (.refl _)
  | head s' _ ih => exact .head s' (ih s)
theorem Step.length {ts : Ties} {h g : List Int} (s : Step ts h g) : g.length = h.length := by
  obtain ⟨p, q, _, rfl⟩ := s
  exact aft_length _ _ _
theorem Comes.length {ts : Ties} {h g : List Int} (c : Comes ts h g) : g.length = h.length := by
  induction c with
  | refl => rfl
  | head s _ ih => rw [ih, s.length]
/-- labels' costs: what S reaches, and what stoops from there reach -/
inductive Ext (ts : Ties) (S : List Int → Nat → Prop) : List Int → Nat → Prop where
  | base {x : List Int} {c : Nat} : S x c → Ext ts S x c
  | step {x y : List Int} {c : Nat} : Ext ts S x c → Step ts x y → Ext ts S y (c + 1)
theorem Ext.of_comes {ts : Ties} {S : List Int → Nat → Prop} {y x : List Int} (h : Comes ts y x) : (∃ c, Ext ts S y c) → ∃ c, Ext ts S x c := by
  induction h with
  | refl => exact id
  | head s _ ih => exact fun ⟨c, e⟩ => ih ⟨c + 1, .step e s⟩
theorem Ext.to_comes {ts : Ties} {S : List Int → Nat → Prop} {x : List Int} {c : Nat} (h : Ext ts S x c) : ∃ y d, S y d ∧ Comes ts y x := by
  induction h with
  | base s => exact ⟨_, _, s, .refl _⟩
  | step _ s ih =>
    obtain ⟨y, d, a, b⟩ := ih
    exact ⟨y, d, a, b.tail s⟩
/-- what is reached in all webs, one after the other, with how many stoops -/
def Sn (h0 : List Int) (ws : List Ties) : Nat → List Int → Nat → Prop
  | 0 => fun x c => x = h0 ∧ c = 0
  | i + 1 => Ext (ws.getD i []) (Sn h0 ws i)
/-- the set of it -/
def Rn (h0 : List Int) (ws : List Ties) (i : Nat) (x : List Int) : Prop := ∃ c, Sn h0 ws i x c
theorem Rn_zero (h0 : List Int) (ws : List Ties) (x : List Int) : Rn h0 ws 0 x ↔ x = h0 := ⟨fun ⟨_, h, _⟩ => h, fun h => ⟨0, h, rfl⟩⟩
theorem Rn_succ (h0 : List Int) (ws : List Ties) (i : Nat) (x : List Int) : Rn h0 ws (i + 1) x ↔ ∃ y, Rn h0 ws i y ∧ Comes (ws.getD i []) y x := by
  constructor
  · rintro ⟨c, h⟩
    obtain ⟨y, d, a, b⟩ := Ext.to_comes (show Ext _ _ x c from h)
    exact ⟨y, ⟨d, a⟩, b⟩
  · rintro ⟨y, ⟨d, a⟩, b⟩
    exact Ext.of_comes (S := Sn h0 ws i) b ⟨d, .base a⟩
/-! ### the box of heights in which all happens -/
def InBox (h k : List Int) : Prop := k.length = h.length ∧ ∀ i, i < h.length → at_ k i ∈ h ∧ at_ k i ≤ at_ h i
theorem at_mem {h : List Int} {i : Nat} (hi : i < h.length) : at_ h i ∈ h := by
  unfold at_
  rw [List.getD_eq_getElem?_getD, List.getElem?_eq_getElem hi]
  exact List.getElem_mem hi
theorem InBox.refl (h : List Int) : InBox h h := ⟨rfl, fun i hi => ⟨at_mem hi, Int.le_refl _⟩⟩
theorem InBox.step {ts : Ties} {h k g : List Int} (b : InBox h k) (w : Below h.length ts) (s : Step ts k g) : InBox h g := by
  obtain ⟨p, q, ⟨ha, hl⟩, rfl⟩ := s
  obtain ⟨hp, hq, _⟩ := w.adj ha
  refine ⟨(aft_length _ _ _).trans b.1, fun i hi => ?_⟩
  rw [at_aft k p q i (by rw [b.1]; exact hp)]
  by_cases e : i = p
  · rw [if_pos e]
    exact ⟨(b.2 q hq).1, by have := (b.2 p hp).2; rw [e]; omega⟩
  · rw [if_neg e]
    exact b.2 i hi
theorem InBox.comes {ts : Ties} {h k g : List Int} (w : Below h.length ts) (c : Comes ts k g) : InBox h k → InBox h g := by
  induction c with
  | refl => exact id
  | head s _ ih => exact fun b => ih (b.step w s)
def opts (h : List Int) (x : Int) : List Int := ([-1, 0, 1, 2, 3] : List Int).filter fun v => decide (v ∈ h) && decide (v ≤ x)
def boxA (h : List Int) : List Int → List (List Int)
  | [] => [[]]
  | x :: l => (opts h x).flatMap fun v => (boxA h l).map (v :: ·)
def lens (h : List Int) : List Int → Nat
  | [] => 1
  | x :: l => (opts h x).length * lens h l
theorem flatMap_len {α β : Type} (l : List α) (f : α → List β) (m : Nat) (h : ∀ a, (f a).length = m) : (l.flatMap f).length = l.length * m := by
  induction l with
  | nil => simp
  | cons a r ih => rw [List.flatMap_cons, List.length_append, ih, h, List.length_cons, Nat.succ_mul]; omega
theorem boxA_len (h l : List Int) : (boxA h l).length = lens h l := by
  induction l with
  | nil => rfl
  | cons x l ih => rw [boxA, lens, flatMap_len _ _ (lens h l) (fun a => by rw [List.length_map, ih])]
def box (h : List Int) : List (List Int) := boxA h h
/-- heights as the law draws them -/
def Small (h : List Int) : Prop := h.length ≤ 4 ∧ ∀ x ∈ h, x ∈ ([-1, 0, 1, 2, 3] : List Int)
theorem mem_boxA (h : List Int) (hs : ∀ x ∈ h, x ∈ ([-1, 0, 1, 2, 3] : List Int)) : ∀ (l k : List Int), k.length = l.length → (∀ i, i < l.length → at_ k i ∈ h ∧ at_ k i ≤ at_ l i) → k ∈ boxA h l
  | [], k, e, _ => by
    have : k = [] := List.length_eq_zero_iff.mp e
    rw [this]; exact List.mem_singleton.mpr rfl
  | x :: l, [], e, _ => by simp at e
  | x :: l, v :: k, e, c => by
    rw [boxA, List.mem_flatMap]
    have c0 := c 0 (by simp)
    have c0' : v ∈ h ∧ v ≤ x := by simpa [at_] using c0
    refine ⟨v, ?_, ?_⟩
    · unfold opts
      rw [List.mem_filter]
      exact ⟨hs v c0'.1, by simp [c0'.1, c0'.2]⟩
    · rw [List.mem_map]
      refine ⟨k, mem_boxA h hs l k (by simpa using e) (fun i hi => ?_), rfl⟩
      have := c (i + 1) (by simp; omega)
      simpa [at_] using this
theorem mem_box {h k : List Int} (s : Small h) (b : InBox h k) : k ∈ box h := mem_boxA h s.2 h k b.1 b.2
def allL : Nat → List (List Int)
  | 0 => [[]]
  | n + 1 => (allL n).flatMap fun l => ([-1, 0, 1, 2, 3] : List Int).map (· :: l)
theorem mem_allL : ∀ (h : List Int), (∀ x ∈ h, x ∈ ([-1, 0, 1, 2, 3] : List Int)) → h ∈ allL h.length
  | [], _ => List.mem_singleton.mpr rfl
  | x :: l, hs => by
    rw [List.length_cons, allL, List.mem_flatMap]
    exact ⟨l, mem_allL l (fun y hy => hs y (List.mem_cons_of_mem _ hy)), List.mem_map.mpr ⟨x, hs x List.mem_cons_self, rfl⟩⟩
theorem lens_all : ∀ n ∈ List.range 5, ∀ h ∈ allL n, lens h h ≤ 24 := by decide +kernel
theorem box_len {h : List Int} (s : Small h) : (box h).length ≤ 24 := by
  unfold box
  rw [boxA_len]
  exact lens_all h.length (List.mem_range.mpr (by have := s.1; omega)) h (mem_allL h s.2)
theorem nodup_len {α : Type} [DecidableEq α] : ∀ {l m : List α}, l.Nodup → (∀ x ∈ l, x ∈ m) → l.length ≤ m.length
  | [], m, _, _ => Nat.zero_le _
  | a :: l, m, nd, sub => by
    have ha : a ∈ m := sub a List.mem_cons_self
    have nd' := List.nodup_cons.mp nd
    have ih : l.length ≤ (m.erase a).length := nodup_len nd'.2 fun x hx => by
      have hne : x ≠ a := fun e => nd'.1 (e ▸ hx)
      exact (List.mem_erase_of_ne hne).mpr (sub x (List.mem_cons_of_mem _ hx))
    have e := List.length_erase_of_mem ha
    have : 0 < m.length := List.length_pos_of_mem ha
    rw [List.length_cons]
    omega
theorem few {h : List Int} (s : Small h) {l : List (List Int)} (nd : l.Nodup) (hb : ∀ x ∈ l, InBox h x) : l.length ≤ 24 :=
  Nat.le_trans (nodup_len nd fun x hx => mem_box s (hb x hx)) (box_len s)
/-! ### sums fall -/
theorem sum_set : ∀ (h : List Int) (p : Nat) (v : Int), p < h.length → (h.set p v).sum = h.sum - at_ h p + v
  | [], p, v, hp => by simp at hp
  | x :: l, 0, v, _ => by simp [at_]; omega
  | x :: l, p + 1, v, hp => by
    have ih := sum_set l p v (by simpa using hp)
    simp only [List.set_cons_succ, List.sum_cons]
    rw [ih]
    have : at_ (x :: l) (p + 1) = at_ l p := by simp [at_]
    rw [this]; omega
theorem sum_step {ts : Ties} {h g : List Int} (w : Below h.length ts) (s : Step ts h g) : g.sum + 1 ≤ h.sum := by
  obtain ⟨p, q, ⟨ha, hl⟩, rfl⟩ := s
  obtain ⟨hp, _, _⟩ := w.adj ha
  unfold aft
  rw [sum_set _ _ _ hp]
  omega
theorem sum_ge : ∀ (h : List Int), (∀ x ∈ h, -1 ≤ x ∧ x ≤ 3) → -(h.length : Int) ≤ h.sum ∧ h.sum ≤ 3 * (h.length : Int)
  | [], _ => by simp
  | x :: l, hs => by
    have ih := sum_ge l fun y hy => hs y (List.mem_cons_of_mem _ hy)
    have hx := hs x List.mem_cons_self
    simp only [List.sum_cons, List.length_cons]
    omega
theorem small_bd {h : List Int} (s : Small h) : ∀ x ∈ h, -1 ≤ x ∧ x ≤ 3 := fun x hx => by
  have := s.2 x hx
  simp only [List.mem_cons, List.not_mem_nil, or_false] at this
  omega
theorem mem_at {h : List Int} {x : Int} (hx : x ∈ h) : ∃ i, i < h.length ∧ at_ h i = x := by
  obtain ⟨i, hi, e⟩ := List.getElem_of_mem hx
  refine ⟨i, hi, ?_⟩
  unfold at_
  rw [List.getD_eq_getElem?_getD, List.getElem?_eq_getElem hi]
  exact e
theorem InBox.vals {h k : List Int} (b : InBox h k) : ∀ x ∈ k, x ∈ h := fun x hx => by
  obtain ⟨i, hi, e⟩ := mem_at hx
  rw [← e]
  exact (b.2 i (by rw [← b.1]; exact hi)).1
/-- a label's cost is small -/
theorem Sn_ok {h0 : List Int} {ws : List Ties} (hw : ∀ i, Below h0.length (ws.getD i [])) : ∀ (i : Nat) (x : List Int) (c : Nat), Sn h0 ws i x c → InBox h0 x ∧ x.sum + c ≤ h0.sum := by
  intro i
  induction i with
  | zero =>
    rintro x c ⟨rfl, rfl⟩
    exact ⟨InBox.refl _, by omega⟩
  | succ i ih =>
    intro x c h
    replace h : Ext (ws.getD i []) (Sn h0 ws i) x c := h
    have hw' : Below h0.length (ws.getD i []) := hw i
    generalize hS : ws.getD i [] = ts at h hw'
    clear hS
    induction h with
    | base s => exact ih _ _ s
    | step e s ih2 =>
      obtain ⟨b, l⟩ := ih2
      refine ⟨b.step hw' s, ?_⟩
      have := sum_step (by rw [b.1]; exact hw') s
      omega
theorem Sn_small {h0 : List Int} (sm : Small h0) {ws : List Ties} (hw : ∀ i, Below h0.length (ws.getD i [])) {i : Nat} {x : List Int} {c : Nat} (h : Sn h0 ws i x c) : c ≤ 16 := by
  obtain ⟨b, l⟩ := Sn_ok hw i x c h
  have h1 := sum_ge h0 (small_bd sm)
  have h2 := sum_ge x fun y hy => small_bd sm y (b.vals y hy)
  have e : x.length = h0.length := b.1
  have := sm.1
  rw [e] at h2
  omega
end Ks
namespace Ks
/-! ### a search: what is known, what is still to be looked at -/
inductive Star {α : Type} (R : α → α → Prop) (a : α) : α → Prop where
  | refl : Star R a a
  | tail {x y : α} : Star R a x → R x y → Star R a y
theorem Star.comes {ts : Ties} {h g : List Int} (s : Star (Step ts) h g) : Comes ts h g := by
  induction s with
  | refl => exact .refl _
  | tail _ r ih => exact ih.tail r
theorem Star.head {α : Type} {R : α → α → Prop} {a b x : α} (r : R a b) (s : Star R b x) : Star R a x := by
  induction s with
  | refl => exact .tail .refl r
  | tail _ r' ih => exact .tail ih r'
theorem Comes.star {ts : Ties} {h g : List Int} (c : Comes ts h g) : Star (Step ts) h g := by
  induction c with
  | refl => exact .refl
  | head s _ ih => exact .head s ih
structure Clo {α : Type} (R : α → α → Prop) (a : α) (K F : α → Prop) (T : α → α → Prop) : Prop where
  sound : ∀ x, K x → Star R a x
  start : K a
  front : ∀ x, F x → K x
  closed : ∀ x, K x → F x ∨ ∀ y, R x y → K y ∨ T x y
theorem Clo.init {α : Type} {R : α → α → Prop} {a : α} : Clo R a (fun x => x = a) (fun x => x = a) (fun _ _ => False) :=
  ⟨fun x h => h ▸ .refl, rfl, fun _ h => h, fun _ h => .inl h⟩
theorem Clo.done {α : Type} {R : α → α → Prop} {a : α} {K F : α → Prop} {T : α → α → Prop} (c : Clo R a K F T) (hF : ∀ x, ¬ F x) (hT : ∀ x y, ¬ T x y) (x : α) : K x ↔ Star R a x := by
  refine ⟨c.sound x, fun s => ?_⟩
  induction s with
  | refl => exact c.start
  | tail _ r ih =>
    rcases c.closed _ ih with h | h
    · exact absurd h (hF _)
    · exact (h _ r).resolve_right (hT _ _)
/-- one is taken from the front: all that comes of it is to be looked at -/
theorem Clo.take {α : Type} {R : α → α → Prop} {a now : α} {K F F' : α → Prop} {T : α → α → Prop} (c : Clo R a K F fun _ _ => False) (hF : ∀ x, F x → F' x ∨ x = now) (hF' : ∀ x, F' x → F x) (hT : ∀ y, R now y → T now y) : Clo R a K F' T :=
  ⟨c.sound, c.start, fun x h => c.front x (hF' x h), fun x h => by
    rcases c.closed x h with q | q
    · rcases hF x q with r | r
      · exact .inl r
      · exact .inr fun y hy => .inr (by rw [r] at hy ⊢; exact hT y hy)
    · exact .inr fun y hy => .inl ((q y hy).resolve_right id)⟩
/-- what comes of now is known already, or does not count -/
theorem Clo.skip {α : Type} {R : α → α → Prop} {a : α} {K F : α → Prop} {T T' : α → α → Prop} (c : Clo R a K F T) (hT : ∀ x y, R x y → T x y → K y ∨ T' x y) : Clo R a K F T' :=
  ⟨c.sound, c.start, c.front, fun x h => (c.closed x h).imp id fun q y hy => (q y hy).elim .inl fun t => hT x y hy t⟩
/-- a new one -/
theorem Clo.add {α : Type} {R : α → α → Prop} {a now z : α} {K K' F F' : α → Prop} {T T' : α → α → Prop} (c : Clo R a K F T) (hk : K now) (hr : R now z) (hK : ∀ x, K' x ↔ K x ∨ x = z) (hF : ∀ x, F' x ↔ F x ∨ x = z) (hT : ∀ x y, T x y → K' y ∨ T' x y) : Clo R a K' F' T' :=
  ⟨fun x h => ((hK x).mp h).elim (c.sound x) fun e => e ▸ (c.sound _ hk).tail hr, (hK a).mpr (.inl c.start), fun x h => ((hF x).mp h).elim (fun q => (hK x).mpr (.inl (c.front x q))) fun e => (hK x).mpr (.inr e),
    fun x h => by
      rcases (hK x).mp h with q | q
      · rcases c.closed x q with r | r
        · exact .inl ((hF x).mpr (.inl r))
        · exact .inr fun y hy => (r y hy).elim (fun k => .inl ((hK y).mpr (.inl k))) (hT x y)
      · exact .inl ((hF x).mpr (.inr q))⟩
/-! ### labels -/
abbrev Lb := List Int → Option Nat
def Exact (L : Lb) (S : List Int → Nat → Prop) : Prop := (∀ x c, L x = some c → S x c) ∧ ∀ x c, S x c → ∃ d, d ≤ c ∧ L x = some d
theorem Exact.eq {L L' : Lb} {S : List Int → Nat → Prop} (a : Exact L S) (b : Exact L' S) (x : List Int) : L x = L' x := by
  cases e : L x with
  | none =>
    cases e' : L' x with
    | none => rfl
    | some c =>
      obtain ⟨d, _, h⟩ := a.2 x c (b.1 x c e')
      rw [e] at h; cases h
  | some c =>
    obtain ⟨d, hd, h⟩ := b.2 x c (a.1 x c e)
    obtain ⟨d', hd', h'⟩ := a.2 x d (b.1 x d h)
    rw [e] at h'; cases h'
    rw [h]
    congr 1
    omega
theorem Exact.some_iff {L : Lb} {S : List Int → Nat → Prop} (a : Exact L S) (x : List Int) : (L x).isSome = true ↔ ∃ c, S x c := by
  constructor
  · intro h
    obtain ⟨c, e⟩ := Option.isSome_iff_exists.mp h
    exact ⟨c, a.1 x c e⟩
  · rintro ⟨c, h⟩
    obtain ⟨d, _, e⟩ := a.2 x c h
    rw [e]; rfl
structure Lab (ts : Ties) (S : List Int → Nat → Prop) (L : Lb) (F : List Int → Prop) (T : List Int → List Int → Prop) : Prop where
  sound : ∀ x c, L x = some c → Ext ts S x c
  base : ∀ x c, S x c → ∃ d, d ≤ c ∧ L x = some d
  front : ∀ x, F x → ∃ c, L x = some c
  closed : ∀ x c, L x = some c → F x ∨ ∀ y, Step ts x y → (∃ d, d ≤ c + 1 ∧ L y = some d) ∨ T x y
theorem Lab.init {ts : Ties} {S : List Int → Nat → Prop} {L : Lb} {F : List Int → Prop} (e : Exact L S) (hF : ∀ x, F x ↔ ∃ c, L x = some c) : Lab ts S L F fun _ _ => False :=
  ⟨fun x c h => .base (e.1 x c h), e.2, fun x h => (hF x).mp h, fun x c h => .inl ((hF x).mpr ⟨c, h⟩)⟩
theorem Lab.done {ts : Ties} {S : List Int → Nat → Prop} {L : Lb} {F : List Int → Prop} {T : List Int → List Int → Prop} (l : Lab ts S L F T) (hF : ∀ x, ¬ F x) (hT : ∀ x y, ¬ T x y) : Exact L (Ext ts S) := by
  refine ⟨l.sound, fun x c h => ?_⟩
  induction h with
  | base s => exact l.base _ _ s
  | step _ s ih =>
    obtain ⟨d, hd, e⟩ := ih
    rcases l.closed _ _ e with q | q
    · exact absurd q (hF _)
    · obtain ⟨d', hd', e'⟩ := (q _ s).resolve_right (hT _ _)
      exact ⟨d', by omega, e'⟩
theorem Lab.take {ts : Ties} {S : List Int → Nat → Prop} {L : Lb} {F F' : List Int → Prop} {T : List Int → List Int → Prop} {now : List Int} (l : Lab ts S L F fun _ _ => False) (hF : ∀ x, F x → F' x ∨ x = now) (hF' : ∀ x, F' x → F x) (hT : ∀ y, Step ts now y → T now y) : Lab ts S L F' T :=
  ⟨l.sound, l.base, fun x h => l.front x (hF' x h), fun x c h => by
    rcases l.closed x c h with q | q
    · rcases hF x q with r | r
      · exact .inl r
      · exact .inr fun y hy => .inr (by rw [r] at hy ⊢; exact hT y hy)
    · exact .inr fun y hy => .inl ((q y hy).resolve_right id)⟩
theorem Lab.skip {ts : Ties} {S : List Int → Nat → Prop} {L : Lb} {F : List Int → Prop} {T T' : List Int → List Int → Prop} (l : Lab ts S L F T) (hT : ∀ x y c, L x = some c → T x y → (∃ d, d ≤ c + 1 ∧ L y = some d) ∨ T' x y) : Lab ts S L F T' :=
  ⟨l.sound, l.base, l.front, fun x c h => (l.closed x c h).imp id fun q y hy => (q y hy).elim .inl fun t => hT x y c h t⟩
theorem Lab.put {ts : Ties} {S : List Int → Nat → Prop} {L L' : Lb} {F F' : List Int → Prop} {T T' : List Int → List Int → Prop} {now z : List Int} {c : Nat} (l : Lab ts S L F T) (hn : L now = some c) (hs : Step ts now z) (hlt : ∀ d, L z = some d → c + 1 ≤ d)
    (hL : ∀ x, L' x = if x = z then some (c + 1) else L x) (hF : ∀ x, F' x ↔ F x ∨ x = z) (hT : ∀ x y, T x y → (x = now ∧ y = z) ∨ T' x y) (hne : now ≠ z) : Lab ts S L' F' T' := by
  have hz : L' z = some (c + 1) := by rw [hL, if_pos rfl]
  have low : ∀ x d, L x = some d → ∃ d', d' ≤ d ∧ L' x = some d' := fun x d h => by
    by_cases e : x = z
    · subst e
      exact ⟨c + 1, hlt d h, hz⟩
    · exact ⟨d, Nat.le_refl _, by rw [hL, if_neg e, h]⟩
  refine ⟨fun x d h => ?_, fun x d h => ?_, fun x h => ?_, fun x d h => ?_⟩
  · by_cases e : x = z
    · subst e
      rw [hz] at h; cases h
      exact .step (l.sound _ _ hn) hs
    · rw [hL, if_neg e] at h
      exact l.sound x d h
  · obtain ⟨d1, h1, e1⟩ := l.base x d h
    obtain ⟨d2, h2, e2⟩ := low x d1 e1
    exact ⟨d2, by omega, e2⟩
  · rcases (hF x).mp h with q | q
    · obtain ⟨d, e⟩ := l.front x q
      obtain ⟨d', _, e'⟩ := low x d e
      exact ⟨d', e'⟩
    · exact ⟨c + 1, by rw [q, hz]⟩
  · by_cases e : x = z
    · exact .inl ((hF x).mpr (.inr e))
    · rw [hL, if_neg e] at h
      rcases l.closed x d h with q | q
      · exact .inl ((hF x).mpr (.inl q))
      · refine .inr fun y hy => ?_
        rcases q y hy with ⟨d1, h1, e1⟩ | t
        · obtain ⟨d2, h2, e2⟩ := low y d1 e1
          exact .inl ⟨d2, by omega, e2⟩
        · rcases hT x y t with ⟨rfl, rfl⟩ | t'
          · rw [hn] at h; cases h
            exact .inl ⟨c + 1, Nat.le_refl _, hz⟩
          · exact .inr t'
/-- how much the labels can still fall -/
def pot (U : List (List Int)) (L : Lb) : Nat := (U.map fun k => (L k).getD 1000).sum
theorem pot_le {U : List (List Int)} {L L' : Lb} (h : ∀ x, (L' x).getD 1000 ≤ (L x).getD 1000) : pot U L' ≤ pot U L := by
  unfold pot
  induction U with
  | nil => exact Nat.le_refl _
  | cons k r ih => simp only [List.map_cons, List.sum_cons]; have := h k; omega
theorem pot_lt {U : List (List Int)} {L L' : Lb} {z : List Int} (hz : z ∈ U) (h : ∀ x, (L' x).getD 1000 ≤ (L x).getD 1000) (hl : (L' z).getD 1000 + 1 ≤ (L z).getD 1000) : pot U L' + 1 ≤ pot U L := by
  unfold pot
  induction U with
  | nil => cases hz
  | cons k r ih =>
    simp only [List.map_cons, List.sum_cons]
    rcases List.mem_cons.mp hz with e | e
    · subst e
      have := pot_le (U := r) h
      unfold pot at this
      omega
    · have := ih e
      have := h k
      omega
/-- a stoop is counted where it lessens the label -/
theorem put_pot {U : List (List Int)} {L L' : Lb} {z : List Int} {c : Nat} (hz : z ∈ U) (hc : c ≤ 16) (hlt : ∀ d, L z = some d → c + 1 < d) (hL : ∀ x, L' x = if x = z then some (c + 1) else L x) : pot U L' + 1 ≤ pot U L := by
  have h2 : (L' z).getD 1000 + 1 ≤ (L z).getD 1000 := by
    rw [hL, if_pos rfl]
    cases e : L z with
    | none => simp; omega
    | some d => have := hlt d e; simp; omega
  refine pot_lt hz (fun x => ?_) h2
  by_cases e : x = z
  · rw [e]; omega
  · rw [hL, if_neg e]; exact Nat.le_refl _
/-! ### the criterion -/
def Open (h g : List Int) (v : Int) (p : Nat) : Prop := p < h.length ∧ v ≤ at_ h p ∧ at_ g p ≤ v
/-- one ties on, within the open ones -/
def Hop (ts : Ties) (h g : List Int) (v : Int) (p q : Nat) : Prop := Adj ts p q ∧ Open h g v q
def Crit (ts : Ties) (h g : List Int) : Prop := ∀ p, p < h.length → Open h g (at_ g p) p ∧ ∃ q, Star (Hop ts h g (at_ g p)) p q ∧ at_ h q = at_ g p
theorem Star.mono {α : Type} {R R' : α → α → Prop} {a x : α} (h : ∀ x y, R x y → R' x y) (s : Star R a x) : Star R' a x := by
  induction s with
  | refl => exact .refl
  | tail _ r ih => exact .tail ih (h _ _ r)
theorem Star.sat {α : Type} {R : α → α → Prop} {P : α → Prop} {a x : α} (ha : P a) (h : ∀ x y, R x y → P y) (s : Star R a x) : P x := by
  cases s with
  | refl => exact ha
  | tail _ r => exact h _ _ r
theorem crit_refl (ts : Ties) (h : List Int) : Crit ts h h := fun p hp => ⟨⟨hp, Int.le_refl _, Int.le_refl _⟩, p, .refl, rfl⟩
theorem crit_step {ts : Ties} {h k g : List Int} (w : Below h.length ts) (s : Step ts h k) (c : Crit ts k g) : Crit ts h g := by
  obtain ⟨p, q, ⟨ha, hl⟩, rfl⟩ := s
  obtain ⟨hp, hq, hne⟩ := w.adj ha
  have lk : (aft h p q).length = h.length := aft_length _ _ _
  have atk : ∀ r, at_ (aft h p q) r = if r = p then at_ h q else at_ h r := fun r => at_aft h p q r hp
  have le : ∀ r, at_ (aft h p q) r ≤ at_ h r := fun r => by
    rw [atk]; split
    · rename_i e; rw [e]; omega
    · exact Int.le_refl _
  have op : ∀ v r, Open (aft h p q) g v r → Open h g v r := fun v r ⟨a, b, c⟩ => ⟨by rw [← lk]; exact a, by have := le r; omega, c⟩
  intro r hr
  obtain ⟨o, x, sx, ex⟩ := c r (by rw [lk]; exact hr)
  have s1 : Star (Hop ts h g (at_ g r)) r x := sx.mono fun a b ⟨h1, h2⟩ => ⟨h1, op _ _ h2⟩
  refine ⟨op _ _ o, ?_⟩
  by_cases e : x = p
  · subst e
    rw [atk, if_pos rfl] at ex
    have og := (c q (by rw [lk]; exact hq)).1
    have h1 : at_ g q ≤ at_ (aft h x q) q := og.2.1
    rw [atk, if_neg (fun z => hne z.symm)] at h1
    exact ⟨q, s1.tail ⟨ha, hq, by omega, by omega⟩, ex⟩
  · rw [atk, if_neg e] at ex
    exact ⟨x, s1, ex⟩
theorem crit_of_comes {ts : Ties} {h g : List Int} (w : Below h.length ts) (c : Comes ts h g) : Crit ts h g := by
  induction c with
  | refl => exact crit_refl _ _
  | head s _ ih => exact crit_step w s (ih (by rw [s.length]; exact w))
/-- somewhere on the way from above v to v one is above v and the next at v -/
theorem drop_on {ts : Ties} {h g : List Int} {v : Int} {p q : Nat} (hp : v < at_ h p ∧ at_ g p ≤ v) (s : Star (Hop ts h g v) p q) : (v < at_ h q ∧ at_ g q ≤ v) ∨ ∃ a b, Adj ts a b ∧ v < at_ h a ∧ at_ g a ≤ v ∧ at_ h b = v ∧ at_ g b ≤ v := by
  induction s with
  | refl => exact .inl hp
  | tail _ r ih =>
    rename_i x y _
    rcases ih with ih | ih
    · obtain ⟨h1, h2, h3, h4⟩ := r
      by_cases e : at_ h y = v
      · exact .inr ⟨x, y, h1, ih.1, ih.2, e, h4⟩
      · exact .inl ⟨by omega, h4⟩
    · exact .inr ih
theorem greatest (P : Nat → Prop) [DecidablePred P] (f : Nat → Int) : ∀ n, (∃ p, p < n ∧ P p) → ∃ p, p < n ∧ P p ∧ ∀ r, r < n → P r → f r ≤ f p
  | 0, h => by obtain ⟨p, hp, _⟩ := h; omega
  | n + 1, h => by
    by_cases e : ∃ p, p < n ∧ P p
    · obtain ⟨p, hp, pp, hm⟩ := greatest P f n e
      by_cases en : P n ∧ f p < f n
      · refine ⟨n, by omega, en.1, fun r hr pr => ?_⟩
        by_cases er : r = n
        · rw [er]; exact Int.le_refl _
        · have := hm r (by omega) pr; omega
      · refine ⟨p, by omega, pp, fun r hr pr => ?_⟩
        by_cases er : r = n
        · rw [er] at pr ⊢
          by_cases el : f p < f n
          · exact absurd ⟨pr, el⟩ en
          · omega
        · exact hm r (by omega) pr
    · obtain ⟨p, hp, pp⟩ := h
      have ep : p = n := by
        by_cases z : p < n
        · exact absurd ⟨p, z, pp⟩ e
        · omega
      subst ep
      refine ⟨p, hp, pp, fun r hr pr => ?_⟩
      by_cases er : r = p
      · rw [er]; exact Int.le_refl _
      · exact absurd ⟨r, by omega, pr⟩ e
theorem comes_of_crit {ts : Ties} {g : List Int} : ∀ (m : Nat) (h : List Int), Below h.length ts → g.length = h.length → (h.sum - g.sum).toNat ≤ m → (∀ i, i < h.length → at_ g i ≤ at_ h i) → Crit ts h g → Comes ts h g := by
  intro m
  induction m using Nat.strongRecOn with
  | _ m ih =>
    intro h w hl hm hle c
    by_cases hex : ∃ p, p < h.length ∧ at_ g p < at_ h p
    · obtain ⟨p, hp, pp, hmax⟩ := greatest (fun p => at_ g p < at_ h p) (fun p => at_ g p) h.length hex
      obtain ⟨op, q, sq, eq⟩ := c p hp
      have h0 : ∃ a b, Adj ts a b ∧ at_ g p < at_ h a ∧ at_ g a ≤ at_ g p ∧ at_ h b = at_ g p ∧ at_ g b ≤ at_ g p := by
        rcases drop_on ⟨pp, Int.le_refl _⟩ sq with z | z
        · omega
        · exact z
      obtain ⟨a, b, ha, a1, a2, b1, b2⟩ := h0
      obtain ⟨la, lb, hne⟩ := w.adj ha
      have st : Step ts h (aft h a b) := ⟨a, b, ⟨ha, by omega⟩, rfl⟩
      have lk : (aft h a b).length = h.length := aft_length _ _ _
      have atk : ∀ r, at_ (aft h a b) r = if r = a then at_ h b else at_ h r := fun r => at_aft h a b r la
      have sf := sum_step w st
      have hge : ∀ i, i < (aft h a b).length → at_ g i ≤ at_ (aft h a b) i := fun i hi => by
        rw [atk]; split
        · rename_i e; rw [e]; omega
        · exact hle i (by rw [← lk]; exact hi)
      have sumle : ∀ (x y : List Int), x.length = y.length → (∀ i, i < y.length → at_ x i ≤ at_ y i) → x.sum ≤ y.sum := by
        intro x
        induction x with
        | nil => intro y e _; have : y = [] := List.length_eq_zero_iff.mp e.symm; rw [this]; exact Int.le_refl _
        | cons u x ihx =>
          intro y e z
          cases y with
          | nil => simp at e
          | cons v y =>
            have z0 := z 0 (by simp)
            have z0 : u ≤ v := by simpa [at_] using z0
            have := ihx y (by simpa using e) fun i hi => by
              have := z (i + 1) (by simp; omega)
              simpa [at_] using this
            simp only [List.sum_cons]; omega
      have sg : g.sum ≤ (aft h a b).sum := sumle _ _ (by rw [lk]; exact hl) hge
      refine .head st (ih ((aft h a b).sum - g.sum).toNat (by omega) (aft h a b) (by rw [lk]; exact w) (by rw [lk]; exact hl) (Nat.le_refl _) hge ?_)
      intro r hr
      rw [lk] at hr
      obtain ⟨or_, x, sx, ex⟩ := c r hr
      by_cases hw : at_ g r ≤ at_ g p
      · have opi : ∀ y, Open h g (at_ g r) y → Open (aft h a b) g (at_ g r) y := fun y ⟨h1, h2, h3⟩ => by
          refine ⟨by rw [lk]; exact h1, ?_, h3⟩
          rw [atk]; split
          · omega
          · exact h2
        refine ⟨opi _ or_, x, sx.mono fun u v ⟨h1, h2⟩ => ⟨h1, opi _ h2⟩, ?_⟩
        rw [atk]; split
        · rename_i e; rw [e] at ex; omega
        · exact ex
      · have er : at_ h r = at_ g r := by
          have h1 := hle r hr
          by_cases z : at_ g r < at_ h r
          · exact absurd (hmax r hr z) hw
          · omega
        have hra : r ≠ a := fun z => by rw [z] at hw; omega
        refine ⟨⟨by rw [lk]; exact hr, ?_, Int.le_refl _⟩, r, .refl, ?_⟩
        · rw [atk, if_neg hra, er]; exact Int.le_refl _
        · rw [atk, if_neg hra, er]
    · have e : h = g := by
        refine ext_at hl.symm fun i hi => ?_
        have h1 := hle i hi
        by_cases z : at_ g i < at_ h i
        · exact absurd ⟨i, hi, z⟩ hex
        · omega
      rw [e]
      exact .refl _
theorem crit_iff {ts : Ties} {h g : List Int} (w : Below h.length ts) (hl : g.length = h.length) : Crit ts h g ↔ Comes ts h g :=
  ⟨fun c => comes_of_crit _ h w hl (Nat.le_refl _) (fun i hi => (c i hi).1.2.1) c, crit_of_comes w⟩
end Ks
end
section
set_option maxRecDepth 100000
namespace Ks
open PySem PySem.Spec PyProof.Rows L2
def topS (i : Nat) : Stmt := PySem.Challenge.pw_stoopers_k43_whole_seasons.main.body.getD i (.Pass ⟨0, 0, 0, 0⟩)
abbrev sIsInt : Stmt := topS 9
abbrev nIsInt : List Str := ["value"]
theorem scIsInt : FnScope nIsInt ["value"] (defScope sIsInt) := ⟨rfl, rfl, rfl, by decide +kernel, rfl, by decide +kernel, by decide +kernel⟩
abbrev sIsFrom : Stmt := topS 10
abbrev nIsFrom : List Str := ["value", "least", "most"]
theorem scIsFrom : FnScope nIsFrom ["value", "least", "most"] (defScope sIsFrom) := ⟨rfl, rfl, rfl, by decide +kernel, rfl, by decide +kernel, by decide +kernel⟩
abbrev sIsHeight : Stmt := topS 11
abbrev nIsHeight : List Str := ["value"]
theorem scIsHeight : FnScope nIsHeight ["value"] (defScope sIsHeight) := ⟨rfl, rfl, rfl, by decide +kernel, rfl, by decide +kernel, by decide +kernel⟩
abbrev sIsTie : Stmt := topS 12
abbrev nIsTie : List Str := ["value", "many"]
theorem scIsTie : FnScope nIsTie ["value", "many"] (defScope sIsTie) := ⟨rfl, rfl, rfl, by decide +kernel, rfl, by decide +kernel, by decide +kernel⟩
abbrev sNeedWeb : Stmt := topS 13
abbrev nNeedWeb : List Str := ["value", "many", "ties", "index", "tie"]
theorem scNeedWeb : FnScope nNeedWeb ["value"] (defScope sNeedWeb) := ⟨rfl, rfl, rfl, by decide +kernel, rfl, by decide +kernel, by decide +kernel⟩
abbrev sNeedHeights : Stmt := topS 14
abbrev nNeedHeights : List Str := ["web", "value", "index", "height"]
theorem scNeedHeights : FnScope nNeedHeights ["web", "value"] (defScope sNeedHeights) := ⟨rfl, rfl, rfl, by decide +kernel, rfl, by decide +kernel, by decide +kernel⟩
abbrev sTiedTo : Stmt := topS 15
abbrev nTiedTo : List Str := ["web", "person", "found", "one", "other"]
theorem scTiedTo : FnScope nTiedTo ["web", "person"] (defScope sTiedTo) := ⟨rfl, rfl, rfl, by decide +kernel, rfl, by decide +kernel, by decide +kernel⟩
abbrev sHanging : Stmt := topS 16
abbrev nHanging : List Str := ["web", "person", "lot", "found", "edge", "here", "other"]
theorem scHanging : FnScope nHanging ["web", "person", "lot"] (defScope sHanging) := ⟨rfl, rfl, rfl, by decide +kernel, rfl, by decide +kernel, by decide +kernel⟩
abbrev sEverybody : Stmt := topS 17
abbrev nEverybody : List Str := ["web"]
theorem scEverybody : FnScope nEverybody ["web"] (defScope sEverybody) := ⟨rfl, rfl, rfl, by decide +kernel, rfl, by decide +kernel, by decide +kernel⟩
abbrev sOpenAt : Stmt := topS 19
abbrev nOpenAt : List Str := ["heights", "goal", "height", "one"]
theorem scOpenAt : FnScope nOpenAt ["heights", "goal", "height"] (defScope sOpenAt) := ⟨rfl, rfl, rfl, by decide +kernel, rfl, by decide +kernel, by decide +kernel⟩
abbrev sNextOf : Stmt := topS 21
abbrev nNextOf : List Str := ["web", "heights", "found", "person", "one"]
theorem scNextOf : FnScope nNextOf ["web", "heights"] (defScope sNextOf) := ⟨rfl, rfl, rfl, by decide +kernel, rfl, by decide +kernel, by decide +kernel⟩
abbrev sAfter : Stmt := topS 22
abbrev nAfter : List Str := ["heights", "person", "other"]
theorem scAfter : FnScope nAfter ["heights", "person", "other"] (defScope sAfter) := ⟨rfl, rfl, rfl, by decide +kernel, rfl, by decide +kernel, by decide +kernel⟩
abbrev sPieceOf : Stmt := topS 24
abbrev nPieceOf : List Str := ["web", "heights", "goal", "person", "some"]
theorem scPieceOf : FnScope nPieceOf ["web", "heights", "goal", "person"] (defScope sPieceOf) := ⟨rfl, rfl, rfl, by decide +kernel, rfl, by decide +kernel, by decide +kernel⟩
abbrev sSourcesOf : Stmt := topS 25
abbrev nSourcesOf : List Str := ["web", "heights", "goal", "person", "one"]
theorem scSourcesOf : FnScope nSourcesOf ["web", "heights", "goal", "person"] (defScope sSourcesOf) := ⟨rfl, rfl, rfl, by decide +kernel, rfl, by decide +kernel, by decide +kernel⟩
abbrev sIsReached : Stmt := topS 26
abbrev nIsReached : List Str := ["web", "heights", "goal", "person"]
theorem scIsReached : FnScope nIsReached ["web", "heights", "goal"] (defScope sIsReached) := ⟨rfl, rfl, rfl, by decide +kernel, rfl, by decide +kernel, by decide +kernel⟩
abbrev sAllOf : Stmt := topS 29
abbrev nAllOf : List Str := ["web", "heights", "known", "edge", "now", "person", "other", "told"]
theorem scAllOf : FnScope nAllOf ["web", "heights"] (defScope sAllOf) := ⟨rfl, rfl, rfl, by decide +kernel, rfl, by decide +kernel, by decide +kernel⟩
abbrev sNeedSeasons : Stmt := topS 32
abbrev nNeedSeasons : List Str := ["value", "index", "web"]
theorem scNeedSeasons : FnScope nNeedSeasons ["value"] (defScope sNeedSeasons) := ⟨rfl, rfl, rfl, by decide +kernel, rfl, by decide +kernel, by decide +kernel⟩
abbrev sIsWeb : Stmt := topS 33
abbrev nIsWeb : List Str := ["value"]
theorem scIsWeb : FnScope nIsWeb ["value"] (defScope sIsWeb) := ⟨rfl, rfl, rfl, by decide +kernel, rfl, by decide +kernel, by decide +kernel⟩
abbrev sSeasonOutcomes : Stmt := topS 34
abbrev nSeasonOutcomes : List Str := ["webs", "heights", "some", "web", "later", "now", "told"]
theorem scSeasonOutcomes : FnScope nSeasonOutcomes ["webs", "heights"] (defScope sSeasonOutcomes) := ⟨rfl, rfl, rfl, by decide +kernel, rfl, by decide +kernel, by decide +kernel⟩
abbrev sSeasonComes : Stmt := topS 35
abbrev nSeasonComes : List Str := ["webs", "heights", "goal", "some", "web", "later", "now", "told"]
theorem scSeasonComes : FnScope nSeasonComes ["webs", "heights", "goal"] (defScope sSeasonComes) := ⟨rfl, rfl, rfl, by decide +kernel, rfl, by decide +kernel, by decide +kernel⟩
abbrev sSeasonFewest : Stmt := topS 36
abbrev nSeasonFewest : List Str := ["webs", "heights", "goal", "web", "now", "later", "told", "person", "other", "new", "best"]
theorem scSeasonFewest : FnScope nSeasonFewest ["webs", "heights", "goal"] (defScope sSeasonFewest) := ⟨rfl, rfl, rfl, by decide +kernel, rfl, by decide +kernel, by decide +kernel⟩
abbrev sSeasonLows : Stmt := topS 37
abbrev nSeasonLows : List Str := ["webs", "heights", "some", "one", "told"]
theorem scSeasonLows : FnScope nSeasonLows ["webs", "heights"] (defScope sSeasonLows) := ⟨rfl, rfl, rfl, by decide +kernel, rfl, by decide +kernel, by decide +kernel⟩
abbrev sSeasonCount : Stmt := topS 38
abbrev nSeasonCount : List Str := ["webs", "heights"]
theorem scSeasonCount : FnScope nSeasonCount ["webs", "heights"] (defScope sSeasonCount) := ⟨rfl, rfl, rfl, by decide +kernel, rfl, by decide +kernel, by decide +kernel⟩
abbrev sLTaken : Stmt := topS 40
abbrev nLTaken : List Str := ["_law_row", "_law_many", "_law_found", "_law_cell"]
theorem scLTaken : FnScope nLTaken ["_law_row", "_law_many"] (defScope sLTaken) := ⟨rfl, rfl, rfl, by decide +kernel, rfl, by decide +kernel, by decide +kernel⟩
abbrev sLPick : Stmt := topS 41
abbrev nLPick : List Str := ["_law_row", "_law_things"]
theorem scLPick : FnScope nLPick ["_law_row", "_law_things"] (defScope sLPick) := ⟨rfl, rfl, rfl, by decide +kernel, rfl, by decide +kernel, by decide +kernel⟩
abbrev sLAlike : Stmt := topS 42
abbrev nLAlike : List Str := ["_law_found", "_law_due", "_law_k"]
theorem scLAlike : FnScope nLAlike ["_law_found", "_law_due"] (defScope sLAlike) := ⟨rfl, rfl, rfl, by decide +kernel, rfl, by decide +kernel, by decide +kernel⟩
abbrev sLIs : Stmt := topS 43
abbrev nLIs : List Str := ["_law_found", "_law_due"]
theorem scLIs : FnScope nLIs ["_law_found", "_law_due"] (defScope sLIs) := ⟨rfl, rfl, rfl, by decide +kernel, rfl, by decide +kernel, by decide +kernel⟩
abbrev sLWeb : Stmt := topS 44
abbrev nLWeb : List Str := ["_law_row", "_law_most", "_law_more", "_law_many", "_law_ties_here", "_law_person", "_law_turn", "_law_one"]
theorem scLWeb : FnScope nLWeb ["_law_row", "_law_most", "_law_more"] (defScope sLWeb) := ⟨rfl, rfl, rfl, by decide +kernel, rfl, by decide +kernel, by decide +kernel⟩
abbrev sLHeights : Stmt := topS 45
abbrev nLHeights : List Str := ["_law_row", "_law_many", "_law_high", "_law_one"]
theorem scLHeights : FnScope nLHeights ["_law_row", "_law_many", "_law_high"] (defScope sLHeights) := ⟨rfl, rfl, rfl, by decide +kernel, rfl, by decide +kernel, by decide +kernel⟩
abbrev sLTies : Stmt := topS 46
abbrev nLTies : List Str := ["_law_web_here", "_law_person", "_law_one", "_law_other"]
theorem scLTies : FnScope nLTies ["_law_web_here", "_law_person"] (defScope sLTies) := ⟨rfl, rfl, rfl, by decide +kernel, rfl, by decide +kernel, by decide +kernel⟩
abbrev sLStoops : Stmt := topS 47
abbrev nLStoops : List Str := ["_law_web_here", "_law_heights_here", "_law_found", "_law_person", "_law_one"]
theorem scLStoops : FnScope nLStoops ["_law_web_here", "_law_heights_here"] (defScope sLStoops) := ⟨rfl, rfl, rfl, by decide +kernel, rfl, by decide +kernel, by decide +kernel⟩
abbrev sLAfter : Stmt := topS 48
abbrev nLAfter : List Str := ["_law_heights_here", "_law_pair"]
theorem scLAfter : FnScope nLAfter ["_law_heights_here", "_law_pair"] (defScope sLAfter) := ⟨rfl, rfl, rfl, by decide +kernel, rfl, by decide +kernel, by decide +kernel⟩
abbrev sLDrawn : Stmt := topS 49
abbrev nLDrawn : List Str := ["_law_row", "_law_web_here", "_law_heights_here", "_law_most", "_law_now", "_law_found", "_law_turn", "_law_some", "_law_pair"]
theorem scLDrawn : FnScope nLDrawn ["_law_row", "_law_web_here", "_law_heights_here", "_law_most"] (defScope sLDrawn) := ⟨rfl, rfl, rfl, by decide +kernel, rfl, by decide +kernel, by decide +kernel⟩
abbrev sLGoal : Stmt := topS 50
abbrev nLGoal : List Str := ["_law_row", "_law_web_here", "_law_heights_here", "_law_one"]
theorem scLGoal : FnScope nLGoal ["_law_row", "_law_web_here", "_law_heights_here"] (defScope sLGoal) := ⟨rfl, rfl, rfl, by decide +kernel, rfl, by decide +kernel, by decide +kernel⟩
abbrev sLaw : Stmt := topS 51
abbrev nLaw : List Str := ["_law_script", "_law_row", "_law_first", "_law_many", "_law_webs", "_law_turn", "_law_other", "_law_ties_here", "_law_a", "_law_b", "_law_heights_here", "_law_best", "_law_web_here", "_law_edge", "_law_now", "_law_pair", "_law_told", "_law_some", "_law_goal_here", "_law_at"]
theorem scLaw : FnScope nLaw ["_law_script"] (defScope sLaw) := ⟨rfl, rfl, rfl, by decide +kernel, rfl, by decide +kernel, by decide +kernel⟩
end Ks
end
section
set_option maxRecDepth 100000
namespace Ks
open PySem PySem.Spec PyProof.Rows L2
theorem same_upd {H : Hp} {p : Addr} {o : HO} (h : H p = none) : Same H (upd H p o) := fun b x e => by
  rw [upd_ne (ne_of_none e h)]
  exact e
/-- what stood in H stands still; o is written at p, which H knows not -/
theorem _root_.L2.Same.put {H H1 : Hp} {p : Addr} {o : HO} (s : Same H H1) (h : H p = none) : Same H (upd H1 p o) := fun b x e => by
  rw [upd_ne (ne_of_none e h)]
  exact s _ _ e
theorem _root_.L2.Same.new {H H1 : Hp} {p : Addr} {o : HO} (s : Same H H1) (h : H1 p = none) : Same H (upd H1 p o) := s.trans (same_upd h)
abbrev natV (n : Nat) : V := .int (n : Int)
/-- heights at a -/
def HtAt (H : Hp) (a : Addr) (h : List Int) : Prop := H a = some (.tup (h.map V.int))
/-- a pair of persons at a -/
def PrAt (H : Hp) (a : Addr) (t : Nat × Nat) : Prop := H a = some (.tup [natV t.1, natV t.2])
/-- a tuple of pairs at a -/
def PrsAt (H : Hp) (a : Addr) (ts : List (Nat × Nat)) : Prop := ∃ qs : List Addr, H a = some (.tup (qs.map V.ref)) ∧ Paired (PrAt H) qs ts
def WebAt (H : Hp) (a : Addr) (n : Nat) (ts : Ties) : Prop := ∃ b, H a = some (.tup [natV n, .ref b]) ∧ PrsAt H b ts
section
variable {H H' : Hp} {a : Addr}
theorem HtAt.same {h : List Int} (x : HtAt H a h) (s : Same H H') : HtAt H' a h := s _ _ x
theorem PrAt.same {t : Nat × Nat} (x : PrAt H a t) (s : Same H H') : PrAt H' a t := s _ _ x
theorem PrsAt.same {ts : List (Nat × Nat)} (x : PrsAt H a ts) (s : Same H H') : PrsAt H' a ts := by
  obtain ⟨qs, h, p⟩ := x
  exact ⟨qs, s _ _ h, L2.Paired.mapP p fun _ _ q => q.same s⟩
theorem WebAt.same {n : Nat} {ts : Ties} (x : WebAt H a n ts) (s : Same H H') : WebAt H' a n ts := by
  obtain ⟨b, h, p⟩ := x
  exact ⟨b, s _ _ h, p.same s⟩
end
theorem paired_at {α β : Type} {R : α → β → Prop} {l₁ : List α} {l₂ : List β} {i : Nat} {x : α} (p : Paired R l₁ l₂) (e : l₁[i]? = some x) : ∃ y, l₂[i]? = some y ∧ R x y := by
  induction p generalizing i with
  | nil => exact absurd e (by simp)
  | cons r _ ih =>
    cases i with
    | zero =>
      rw [List.getElem?_cons_zero] at e ⊢
      cases e
      exact ⟨_, rfl, r⟩
    | succ i =>
      rw [List.getElem?_cons_succ] at e ⊢
      exact ih e
theorem ref_at {qs : List Addr} {i : Nat} {x : V} (h : (qs.map V.ref)[i]? = some x) : ∃ q, qs[i]? = some q ∧ x = .ref q := by
  rw [List.getElem?_map, Option.map_eq_some_iff] at h
  obtain ⟨q, hq, hx⟩ := h
  exact ⟨q, hq, hx.symm⟩
/-- the neighbors, tie by tie -/
def adjs (p : Nat) (ts : Ties) : List Nat := ts.filterMap fun t => if p = t.1 then some t.2 else if p = t.2 then some t.1 else none
theorem mem_adjs {p q : Nat} {ts : Ties} (hb : ∀ t ∈ ts, t.1 < t.2) : q ∈ adjs p ts ↔ Adj ts p q := by
  unfold adjs Adj
  rw [List.mem_filterMap]
  constructor
  · rintro ⟨t, ht, e⟩
    have := hb t ht
    split at e
    · rename_i h; cases e; left; rw [h]; exact ht
    · split at e
      · rename_i h1 h; cases e; right; rw [h]; exact ht
      · cases e
  · rintro (h | h)
    · exact ⟨_, h, by simp⟩
    · have := hb _ h
      simp only at this
      have hne : ¬ p = q := by omega
      exact ⟨_, h, by simp [hne]⟩
theorem adjs_len (p : Nat) (ts : Ties) : (adjs p ts).length ≤ ts.length := List.length_filterMap_le _ _
theorem adjs_take {p i : Nat} {ts : Ties} {t : Nat × Nat} (h : ts[i]? = some t) : adjs p (ts.take (i + 1)) = adjs p (ts.take i) ++ (if p = t.1 then [t.2] else if p = t.2 then [t.1] else []) := by
  unfold adjs
  rw [List.take_add_one, h, Option.toList, List.filterMap_append]
  congr 1
  simp only [List.filterMap_cons, List.filterMap_nil]
  split <;> rename_i h1
  · split at h1
    · cases h1
    · rename_i h2
      split at h1
      · cases h1
      · rename_i h3; simp [h2, h3]
  · split at h1
    · cases h1; simp [*]
    · rename_i h2
      split at h1
      · rename_i h3; cases h1; rw [if_neg h2, if_pos h3]
      · cases h1
theorem natV_list (ns : List Nat) : ns.map natV = (ns.map fun n : Nat => (n : Int)).map V.int := by rw [List.map_map]; rfl
/-- a list of ints below is a list of persons -/
theorem perm_nats {ns : List Nat} {ms : List Int} (h : ms.Perm (ns.map fun n : Nat => (n : Int))) : ∃ ks : List Nat, ms = ks.map (fun n : Nat => (n : Int)) ∧ ks.Perm ns := by
  refine ⟨ms.map Int.toNat, ?_, ?_⟩
  · rw [List.map_map]
    have : ∀ m ∈ ms, ((fun n : Nat => (n : Int)) ∘ Int.toNat) m = m := fun m hm => by
      obtain ⟨n, _, e⟩ := List.mem_map.mp (h.mem_iff.mp hm)
      rw [← e]; simp
    conv => lhs; rw [← List.map_id ms]
    exact List.map_congr_left fun m hm => (this m hm).symm
  · have := h.map Int.toNat
    rw [List.map_map] at this
    have e : (Int.toNat ∘ fun n : Nat => (n : Int)) = id := by funext n; simp
    rwa [e, List.map_id] at this
theorem inV_pair {p a b : Nat} : inV (natV p) [natV a, natV b] = true ↔ p = a ∨ p = b := by
  show ((decide ((a : Int) = (p : Int)) || (decide ((b : Int) = (p : Int)) || false)) = true) ↔ _
  simp only [Bool.or_eq_true, decide_eq_true_eq, Bool.or_false]
  omega
/-- facts of the text's names: the built-ins are the built-ins -/
structure Blt (mg : Str → Option Value) : Prop where
  len : mg "len" = none
  tuple : mg "tuple" = none
  list : mg "list" = none
  range : mg "range" = none
  sorted : mg "sorted" = none
  isinstance : mg "isinstance" = none
  int : mg "int" = none
  bool : mg "bool" = none
  str : mg "str" = none
  enumerate : mg "enumerate" = none
  all : mg "all" = none
  any : mg "any" = none
  min : mg "min" = none
section
variable {P : Program} {w : World} {K : PySem.W.Frag} {mg : Str → Option Value} {base : Heap}
/-! ### tied_to -/
def spTied (K : PySem.W.Frag) : Sp := fun vs H Q _ => ∃ (a : Addr) (n : Nat) (ts : Ties) (p : Nat), vs = [.ref a, natV p] ∧ WebAt H a n ts ∧ Below n ts ∧ ts.length ≤ 20 ∧
  ∀ (H' : Hp) (l : Addr) (ns : List Nat), Same H H' → H l = none → H' l = some (.lst (ns.map natV)) → (∀ q, q ∈ ns ↔ Adj ts p q) → ns.length ≤ 20 → Q (.ref l) H'
theorem ok_tied {f : Addr} {fd : FuncData} {k : Nat} (F : Fun K "tied_to" "tied_to" sTiedTo f fd) (B : Blt mg) : FnOk P w K mg base CX0 (k + 1) f fd ["web", "person"] (spTied K) := by
  refine F.ok scTiedTo (fun vs H Q E h => ?_) (fun cdv A outer s H vs Q E hr h => ?_)
  · obtain ⟨a, n, ts, p, rfl, _⟩ := h
    rfl
  · obtain ⟨a, n, ts, p, rfl, ⟨b, hw, qs, hb, hq⟩, bel, few, q⟩ := h
    refine ⟨_, pss_cons (ps_set (i := 2) scTiedTo.nd rfl (.inl rfl) (pe_lst pa_nil))
      (pss_cons (ps_for PassesOwn.never rfl (pi_tup (pe_ix ix_tup (pv 0) pe_int (fun _ _ => rfl)))
          (pg_tup rfl (pgs_cons (pg_name (i := 3) scTiedTo.nd rfl (.inl rfl)) (pgs_cons (pg_name (i := 4) scTiedTo.nd rfl (.inl rfl)) pgs_nil)))
        (pss_one (ps_if (pt_cmpR op_in_seq (pv 1) (pe_tup (pa_cons (pv 3) (pa_cons (pv 4) pa_nil))) rfl)
          (pss_one (ps_expr (pe_bm PySem.F.plainAttrs_list PySem.F.slot_list_append PySem.F.type_list_append mt_append (pv 2) (pa_cons (pe_op op_sub (pe_op op_add (pv 3) (pv 4)) (pv 1)) pa_nil))))
          pss_nil)))
      (pss_one (ps_ret (pe_callB cr_sorted (by rfl) B.sorted (by decide +kernel) (pa_cons (pv 2) pa_nil))))), ?_⟩
    -- found = []
    refine ⟨Nat.zero_le _, fun o no => ?_⟩
    have s1 : Same H (upd H o (.lst [])) := same_upd no
    refine ⟨.ref a, rfl, a, _, 1, .ref b, rfl, rfl, .of (s1 _ _ hw), rfl, b, rfl, ⟨_, .of (s1 _ _ hb)⟩, for_tup (xs := qs.map V.ref)
      (fun i σ H' => ∃ y3 y4, σ = [some (.ref a), some (natV p), some (.ref o), y3, y4] ∧ Same H H' ∧ H' o = some (.lst ((adjs p (ts.take i)).map natV))) ?_ ?_ ?_ ?_⟩
    · exact ⟨none, none, rfl, s1, upd_same⟩
    · rintro i σ H' _ ⟨_, _, _, sm, _⟩
      exact .of (sm _ _ hb)
    · rintro i x σ H' hx ⟨y3, y4, rfl, sm, ho⟩
      obtain ⟨t, ht, rfl⟩ := ref_at hx
      obtain ⟨pr, hpr, et⟩ := paired_at hq ht
      have hlen : (adjs p (ts.take i)).length ≤ 20 := Nat.le_trans (adjs_len _ _) (by rw [List.length_take]; omega)
      have hbt := bel pr (List.mem_of_getElem? hpr)
      -- one, other = the tie
      refine ⟨t, _, rfl, .of (sm _ _ et), rfl, _, _, rfl, _, _, rfl, rfl, ?_⟩
      -- if person in (one, other)
      refine ⟨natV p, rfl, natV pr.1, rfl, natV pr.2, rfl, (by show 2 ≤ sizeLine; decide), fun T nT => ⟨T, _, rfl, .inr (.of upd_same), rfl, rfl, _, rfl, ?_⟩⟩
      have nTo : o ≠ T := ne_of_none ho nT
      have ho' : (upd H' T (.tup [natV pr.1, natV pr.2])) o = some (.lst ((adjs p (ts.take i)).map natV)) := by rw [upd_ne nTo]; exact ho
      refine ite2 (fun hc => ?_) (fun hc => ?_)
      · have hc := inV_pair.mp hc
        refine ⟨.ref o, rfl, .inl ⟨rfl, _, .of ho'⟩, natV pr.1, rfl, natV pr.2, rfl, _, _, rfl, rfl, natV p, rfl, _, _, rfl, rfl, o, _, _, rfl, rfl, ho', ?_, ?_⟩
        · rw [List.length_map]; exact small1000 (by omega)
        · refine ⟨_, _, rfl, (sm.new nT).put no, ?_⟩
          rw [upd_same, adjs_take hpr]
          rcases hc with e | e
          · rw [if_pos e, List.map_append]
            have : (((pr.1 : Nat) : Int) + ((pr.2 : Nat) : Int) - ((p : Nat) : Int)) = ((pr.2 : Nat) : Int) := by omega
            show some (HO.lst (_ ++ [V.int _])) = _
            rw [this]; rfl
          · rw [if_neg (by omega), if_pos e, List.map_append]
            have : (((pr.1 : Nat) : Int) + ((pr.2 : Nat) : Int) - ((p : Nat) : Int)) = ((pr.1 : Nat) : Int) := by omega
            show some (HO.lst (_ ++ [V.int _])) = _
            rw [this]; rfl
      · have hc : ¬ (p = pr.1 ∨ p = pr.2) := fun z => hc (inV_pair.mpr z)
        refine ⟨_, _, rfl, sm.new nT, ?_⟩
        rw [ho', adjs_take hpr, if_neg (fun z => hc (.inl z)), if_neg (fun z => hc (.inr z)), List.append_nil]
    · rintro σ H' ⟨y3, y4, rfl, sm, ho⟩
      have hql : qs.length = ts.length := Paired.length hq
      rw [List.length_map, hql, List.take_length] at ho
      -- return sorted(found)
      have hlen : (adjs p ts).length ≤ 20 := Nat.le_trans (adjs_len _ _) few
      refine ⟨.ref o, rfl, o, (adjs p ts).map (fun n : Nat => (n : Int)), rfl, ?_, ?_, fun ms l pm _ nl => ?_⟩
      · rw [← natV_list]; exact .of ho
      · rw [List.length_map]; omega
      · obtain ⟨ks, rfl, pk⟩ := perm_nats pm
        refine q _ l ks (sm.new nl) (sm.free nl) (by rw [upd_same, natV_list]) (fun r => ?_) (by rw [pk.length_eq]; exact hlen)
        rw [pk.mem_iff, mem_adjs fun t ht => (bel t ht).1]
end
end Ks
end
section
set_option maxRecDepth 100000
namespace Ks
open PySem PySem.Spec PyProof.Rows L2
open StX (pa_star)
/-- a def of the module -/
structure Dn (K : PySem.W.Frag) (mg : Str → Option Value) (x : Str) (st : Stmt) (ps : List Str) (f : Addr) (fd : FuncData) : Prop where
  F : Fun K x x st f fd
  g : mg x = some (.ref f)
  b : Binds K fd ps []
theorem at_ht {h : List Int} {p : Nat} (hp : p < h.length) : atI (h.map V.int) (p : Int) = some (.int (at_ h p)) := by
  apply atI_nat
  rw [List.getElem?_map, List.getElem?_eq_getElem hp]
  unfold at_
  rw [List.getD_eq_getElem?_getD, List.getElem?_eq_getElem hp]
  rfl
/-- all tuples are kept -/
def KeepT (H H' : Hp) : Prop := ∀ b xs, H b = some (.tup xs) → H' b = some (.tup xs)
theorem _root_.L2.Same.keepT {H H' : Hp} (s : Same H H') : KeepT H H' := fun b xs h => s b _ h
theorem KeepT.trans {H H1 H2 : Hp} (a : KeepT H H1) (b : KeepT H1 H2) : KeepT H H2 := fun c xs h => b c xs (a c xs h)
theorem KeepT.refl (H : Hp) : KeepT H H := fun _ _ h => h
theorem KeepT.new {H H1 : Hp} {p : Addr} {o : HO} (a : KeepT H H1) (h : H1 p = none) : KeepT H (upd H1 p o) := a.trans (same_upd h).keepT
theorem KeepT.lst {H H1 : Hp} {p : Addr} {o : HO} {xs : List V} (a : KeepT H H1) (h : H1 p = some (.lst xs)) : KeepT H (upd H1 p o) := a.trans fun b ys e => by
  rw [upd_ne (ne_of e h (by intro z; cases z))]; exact e
theorem KeepT.dT {H H1 : Hp} {p : Addr} {o : HO} {kvs : List (List Key × V)} (a : KeepT H H1) (h : H1 p = some (.dT kvs)) : KeepT H (upd H1 p o) := a.trans fun b ys e => by
  rw [upd_ne (ne_of e h (by intro z; cases z))]; exact e
section
variable {H H' : Hp} {a : Addr}
theorem HtAt.kt {h : List Int} (x : HtAt H a h) (s : KeepT H H') : HtAt H' a h := s _ _ x
theorem PrAt.kt {t : Nat × Nat} (x : PrAt H a t) (s : KeepT H H') : PrAt H' a t := s _ _ x
theorem PrsAt.kt {ts : List (Nat × Nat)} (x : PrsAt H a ts) (s : KeepT H H') : PrsAt H' a ts := by
  obtain ⟨qs, h, p⟩ := x
  exact ⟨qs, s _ _ h, L2.Paired.mapP p fun _ _ q => q.kt s⟩
theorem WebAt.kt {n : Nat} {ts : Ties} (x : WebAt H a n ts) (s : KeepT H H') : WebAt H' a n ts := by
  obtain ⟨b, h, p⟩ := x
  exact ⟨b, s _ _ h, p.kt s⟩
theorem pairs_kt {qs : List Addr} {prs : List (Nat × Nat)} (x : Paired (PrAt H) qs prs) (s : KeepT H H') : Paired (PrAt H') qs prs := L2.Paired.mapP x fun _ _ q => q.kt s
end
structure WebOk (H : Hp) (a : Addr) (n : Nat) (ts : Ties) : Prop where
  at' : WebAt H a n ts
  below : Below n ts
  few : ts.length ≤ 20
  small : n ≤ 8
theorem WebOk.same {H H' : Hp} {a : Addr} {n : Nat} {ts : Ties} (x : WebOk H a n ts) (s : Same H H') : WebOk H' a n ts := ⟨x.at'.same s, x.below, x.few, x.small⟩
theorem rgV_nat (n : Nat) : rgV 0 (n : Int) = (List.range n).map natV := by
  unfold rgV
  simp
theorem line8 {n : Nat} (h : n ≤ 1000) : n ≤ sizeLine := Nat.le_of_lt (small1000 h)
section
variable {P : Program} {w : World} {K : PySem.W.Frag} {mg : Str → Option Value} {base : Heap}
/-! ### everybody -/
def spEvery (K : PySem.W.Frag) : Sp := fun vs H Q _ => ∃ (a : Addr) (n : Nat) (x : V), vs = [.ref a] ∧ H a = some (.tup [natV n, x]) ∧ n ≤ 8 ∧
  ∀ (H' : Hp) (t : Addr), Same H H' → H' t = some (.tup ((List.range n).map natV)) → Q (.ref t) H'
theorem ok_every {f : Addr} {fd : FuncData} {k : Nat} (F : Fun K "everybody" "everybody" sEverybody f fd) (B : Blt mg) : FnOk P w K mg base CX0 (k + 1) f fd ["web"] (spEvery K) := by
  refine F.ok scEverybody (fun vs H Q E h => ?_) (fun cdv A outer s H vs Q E hr h => ?_)
  · obtain ⟨a, n, x, rfl, _⟩ := h
    rfl
  · obtain ⟨a, n, x, rfl, ha, hn, q⟩ := h
    refine ⟨_, pss_one (ps_ret (pe_tupRg rfl (by rfl) B.tuple (prg_1 (by rfl) B.range (pe_ix ix_tup (pv 0) pe_int (fun _ _ => rfl))))), ?_⟩
    refine ⟨.ref a, rfl, a, _, 0, natV n, rfl, rfl, .of ha, rfl, n, rfl, .of_le (Int.le_refl _) (by omega) (by decide) (by omega), fun t nt => ?_⟩
    exact q _ t (same_upd nt) (by rw [upd_same, rgV_nat])
/-! ### after -/
def spAfter (K : PySem.W.Frag) : Sp := fun vs H Q _ => ∃ (b : Addr) (h : List Int) (p o : Nat), vs = [.ref b, natV p, natV o] ∧ HtAt H b h ∧ p < h.length ∧ o < h.length ∧ h.length ≤ 8 ∧
  ∀ (H' : Hp) (t : Addr), Same H H' → HtAt H' t (aft h p o) → Q (.ref t) H'
theorem set_cut (h : List Int) (p : Nat) (v : Int) (hp : p < h.length) : h.set p v = h.take p ++ ([v] ++ (h.drop (p + 1) ++ [])) := by
  rw [List.set_eq_take_append_cons_drop, if_pos hp]
  simp
theorem sIx_to {n p : Nat} (hp : p ≤ n) (d : Nat) : HT.sIx n d (some (p : Int)) = p := by
  rw [HT.sIx_nat]; omega
theorem cut_to {xs : List V} {p : Nat} (hp : p ≤ xs.length) : cutV xs none (some (p : Int)) = xs.take p := by
  unfold cutV
  rw [HT.sIx_none, sIx_to hp]
  simp
theorem cut_from {xs : List V} {p : Nat} (hp : p ≤ xs.length) : cutV xs (some (p : Int)) none = xs.drop p := by
  unfold cutV
  rw [HT.sIx_none, sIx_to hp, List.take_of_length_le (by rw [List.length_drop]; omega)]
theorem ok_after {f : Addr} {fd : FuncData} {k : Nat} (F : Fun K "after" "after" sAfter f fd) : FnOk P w K mg base CX0 (k + 1) f fd ["heights", "person", "other"] (spAfter K) := by
  refine F.ok scAfter (fun vs H Q E h => ?_) (fun cdv A outer s H vs Q E hr h => ?_)
  · obtain ⟨b, h, p, o, rfl, _⟩ := h
    rfl
  · obtain ⟨b, h, p, o, rfl, hb, hp, ho, h8, q⟩ := h
    refine ⟨_, pss_one (ps_ret (pe_tup (pa_star (pe_slice sl_tupA (pv 0) po_none (po_some (pv 1))) (pa_cons (pe_ix ix_tup (pv 0) (pv 2) (fun _ _ => rfl))
      (pa_star (pe_slice sl_tupA (pv 0) (po_some (pe_op op_add (pv 1) pe_int)) po_none) pa_nil))))), ?_⟩
    have hl : (h.map V.int).length = h.length := List.length_map _
    -- *heights[:person]
    refine ⟨.ref b, rfl, natV p, rfl, p, rfl, b, _, rfl, .of hb, fun z => ?_, fun _ x nx => ?_⟩
    · exfalso
      have z2 := z.2
      rw [sIx_to (by rw [hl]; omega), hl] at z2
      omega
    have s1 := same_upd (o := .tup (cutV (h.map V.int) none (some (p : Int)))) nx
    refine ⟨x, _, rfl, .inl (.of upd_same), ?_⟩
    -- heights[other]
    refine ⟨.ref b, rfl, natV o, rfl, b, _, o, _, rfl, rfl, .of (s1 _ _ hb), at_ht ho, ?_⟩
    -- *heights[person + 1:]
    refine ⟨.ref b, rfl, natV p, rfl, p, 1, rfl, rfl, (p : Int) + 1, rfl, b, _, rfl, .of (s1 _ _ hb), fun z => ?_, fun _ y ny => ?_⟩
    · exfalso
      have z1 := z.1
      rw [show ((p : Int) + 1) = ((p + 1 : Nat) : Int) by simp, sIx_to (by rw [hl]; omega)] at z1
      omega
    have s2 := s1.new (o := .tup (cutV (h.map V.int) (some ((p : Int) + 1)) none)) ny
    refine ⟨y, _, rfl, .inl (.of upd_same), ?_, fun t nt => q _ t (s2.new nt) ?_⟩
    · simp only [List.length_append, List.length_cons, List.length_nil]
      have h1 := cutV_length (h.map V.int) none (some (p : Int))
      have h2 := cutV_length (h.map V.int) (some ((p : Int) + 1)) none
      rw [hl] at h1 h2
      exact line8 (by omega)
    · unfold HtAt
      rw [upd_same, show ((p : Int) + 1) = ((p + 1 : Nat) : Int) by simp, cut_to (by rw [hl]; omega), cut_from (by rw [hl]; omega), aft, set_cut h p _ hp]
      simp only [List.map_append, List.map_take, List.map_drop, List.map_cons, List.map_nil]
      rfl
/-! ### next_of -/
/-- the stoops of one person, the neighbors in a row -/
def stps (h : List Int) (p : Nat) (ns : List Nat) : List (Nat × Nat) := (ns.filter fun o => decide (at_ h o < at_ h p)).map fun o => (p, o)
theorem stps_take {h : List Int} {p i o : Nat} {ns : List Nat} (e : ns[i]? = some o) : stps h p (ns.take (i + 1)) = stps h p (ns.take i) ++ (if at_ h o < at_ h p then [(p, o)] else []) := by
  unfold stps
  rw [List.take_add_one, e, Option.toList, List.filter_append, List.map_append]
  congr 1
  by_cases c : at_ h o < at_ h p
  · have d : decide (at_ h o < at_ h p) = true := decide_eq_true c
    rw [if_pos c, List.filter_cons, if_pos d]; rfl
  · have d : ¬ decide (at_ h o < at_ h p) = true := fun z => c (of_decide_eq_true z)
    rw [if_neg c, List.filter_cons, if_neg d]; rfl
theorem mem_stps {h : List Int} {p : Nat} {ns : List Nat} {pr : Nat × Nat} : pr ∈ stps h p ns ↔ pr.1 = p ∧ pr.2 ∈ ns ∧ at_ h pr.2 < at_ h p := by
  unfold stps
  rw [List.mem_map]
  constructor
  · rintro ⟨o, ho, rfl⟩
    have := List.mem_filter.mp ho
    exact ⟨rfl, this.1, by simpa using this.2⟩
  · rintro ⟨rfl, h1, h2⟩
    exact ⟨pr.2, List.mem_filter.mpr ⟨h1, by simpa using h2⟩, rfl⟩
theorem stps_len (h : List Int) (p : Nat) (ns : List Nat) : (stps h p ns).length ≤ ns.length := by
  unfold stps
  rw [List.length_map]
  exact List.length_filter_le _ _
/-- a list of pairs at a -/
def PrsL (H : Hp) (a : Addr) (prs : List (Nat × Nat)) : Prop := ∃ qs : List Addr, H a = some (.lst (qs.map V.ref)) ∧ Paired (PrAt H) qs prs
theorem PrsL.keep {H H' : Hp} {a : Addr} {prs : List (Nat × Nat)} (x : PrsL H a prs) (s : Same H H') : PrsL H' a prs := by
  obtain ⟨qs, h, p⟩ := x
  exact ⟨qs, s _ _ h, L2.Paired.mapP p fun _ _ q => q.same s⟩
theorem paired_snoc {α β : Type} {R : α → β → Prop} : ∀ {l₁ : List α} {l₂ : List β} {a : α} {b : β}, Paired R l₁ l₂ → R a b → Paired R (l₁ ++ [a]) (l₂ ++ [b])
  | _, _, _, _, .nil, r => .cons r .nil
  | _, _, _, _, .cons q t, r => .cons q (paired_snoc t r)
theorem paired_app {α β : Type} {R : α → β → Prop} : ∀ {l₁ k₁ : List α} {l₂ k₂ : List β}, Paired R l₁ l₂ → Paired R k₁ k₂ → Paired R (l₁ ++ k₁) (l₂ ++ k₂)
  | _, _, _, _, .nil, r => r
  | _, _, _, _, .cons q t, r => .cons q (paired_app t r)
theorem nat_at {ns : List Nat} {i : Nat} {x : V} (h : (ns.map natV)[i]? = some x) : ∃ o, ns[i]? = some o ∧ x = natV o := by
  rw [List.getElem?_map, Option.map_eq_some_iff] at h
  obtain ⟨q, hq, hx⟩ := h
  exact ⟨q, hq, hx.symm⟩
theorem range_at {n i o : Nat} (h : (List.range n)[i]? = some o) : o = i ∧ i < n := by
  obtain ⟨h1, e⟩ := List.getElem?_eq_some_iff.mp h
  rw [List.getElem_range] at e
  rw [List.length_range] at h1
  exact ⟨e.symm, h1⟩
def spNext (K : PySem.W.Frag) : Sp := fun vs H Q _ => ∃ (a b : Addr) (n : Nat) (ts : Ties) (h : List Int), vs = [.ref a, .ref b] ∧ WebOk H a n ts ∧ HtAt H b h ∧ h.length = n ∧
  ∀ (H' : Hp) (t : Addr) (prs : List (Nat × Nat)), Same H H' → PrsAt H' t prs → (∀ pr, pr ∈ prs ↔ Stp ts h pr.1 pr.2) → prs.length ≤ 160 → Q (.ref t) H'
theorem ok_next {f fE fT : Addr} {fd fdE fdT : FuncData} {k : Nat} (F : Fun K "next_of" "next_of" sNextOf f fd) (B : Blt mg) (DE : Dn K mg "everybody" sEverybody ["web"] fE fdE) (DT : Dn K mg "tied_to" sTiedTo ["web", "person"] fT fdT) :
    FnOk P w K mg base CX0 (k + 2) f fd ["web", "heights"] (spNext K) := by
  have GE : FnOk P w K mg base CX0 (k + 1) fE fdE ["web"] (spEvery K) := ok_every DE.F B
  have GT : FnOk P w K mg base CX0 (k + 1) fT fdT ["web", "person"] (spTied K) := ok_tied DT.F B
  refine F.ok scNextOf (fun vs H Q E h => ?_) (fun cdv A outer s H vs Q E hr h => ?_)
  · obtain ⟨a, b, n, ts, h, rfl, _⟩ := h
    rfl
  · obtain ⟨a, b, n, ts, h, rfl, W, hb, hl, q⟩ := h
    refine ⟨_, pss_cons (ps_set (i := 2) scNextOf.nd rfl (.inl rfl) (pe_lst pa_nil))
      (pss_cons (ps_for PassesOwn.never rfl (pi_tup (pe_call GE hr (by rfl) DE.g DE.F.kp DE.b .nil pass0 (pa_cons (pv 0) pa_nil))) (pg_name (i := 3) scNextOf.nd rfl (.inr rfl))
        (pss_one (ps_expr (pe_bm PySem.F.plainAttrs_list PySem.F.slot_list_extend PySem.F.type_list_extend mt_extend (pv 2) (pa_cons
          (pe_lc (own := [("one", 4)]) (g := gName 4) (tt := tTest (tOp (rI0 fun i j => .bl (decide (i < j))) (tOp (rIxT K) (tVar 1) (tVar 4)) (tOp (rIxT K) (tVar 1) (tVar 3)))) rfl scNextOf.nd (pi_list (pe_call GT hr (by rfl) DT.g DT.F.kp DT.b .nil pass0 (pa_cons (pv 0) (pa_cons (pv 3) pa_nil))))
            (blkOk_by (N := nNextOf) (sc := defScope sNextOf) (by decide +kernel))
            (fun _ _ _ _ _ => pg_name (i := 4) scNextOf.nd rfl (.inl rfl))
            (fun _ _ _ _ _ => pts_one (pt_cmpR op_lt (pe_ix ix_tup (pv 1) (pv 4) (fun _ _ => rfl)) (pe_ix ix_tup (pv 1) (pv 3) (fun _ _ => rfl)) (nomark _)))
            (fun _ _ _ _ _ => pe_tup (pa_cons (pv 3) (pa_cons (pv 4) pa_nil)))) pa_nil)))))
      (pss_one (ps_ret (pe_callTy call_tuple_of (by rfl) B.tuple (by decide +kernel) (pa_cons (pv 2) pa_nil))))), ?_⟩
    -- found = []
    refine ⟨Nat.zero_le _, fun o no => ?_⟩
    have s1 : Same H (upd H o (.lst [])) := same_upd no
    obtain ⟨wb, hwa, hwp⟩ := id W.at'
    -- everybody(web)
    refine ⟨.ref a, rfl, a, n, _, rfl, s1 _ _ hwa, W.small, fun H2 t s2 ht => ?_⟩
    have s12 := s1.trans s2
    have ho2 : H2 o = some (.lst []) := s2 _ _ upd_same
    refine ⟨t, rfl, ⟨_, .of ht⟩, for_tup (xs := (List.range n).map natV)
      (fun i σ H' => ∃ y3 y4 prs, σ = [some (.ref a), some (.ref b), some (.ref o), y3, y4] ∧ Same H H' ∧ H' t = some (.tup ((List.range n).map natV)) ∧ PrsL H' o prs ∧ prs.length ≤ 20 * i ∧ ∀ pr, pr ∈ prs ↔ pr.1 < i ∧ Stp ts h pr.1 pr.2) ?_ ?_ ?_ ?_⟩
    · exact ⟨none, none, [], rfl, s12, ht, ⟨[], ho2, .nil⟩, by simp, fun pr => by simp⟩
    · rintro i σ H' _ ⟨_, _, _, _, _, ht', _⟩
      exact .of ht'
    · rintro i x σ H' hx ⟨y3, y4, prs, rfl, sm, ht', ⟨qs, ho, hq⟩, hlen, hmem⟩
      obtain ⟨p, hp, rfl⟩ := nat_at hx
      obtain ⟨rfl, hin⟩ := range_at hp
      -- found.extend([..])
      refine ⟨.ref o, rfl, .inl ⟨rfl, _, .of ho⟩, ?_⟩
      -- tied_to(web, person)
      refine ⟨.ref a, rfl, natV p, rfl, a, n, ts, p, rfl, (W.same sm).at', W.below, W.few, fun H3 l ns s3 nl hl3 hns hnl => ?_⟩
      refine ⟨l, rfl, ⟨_, .of hl3⟩, fun D nD => ?_⟩
      have smD : Same H H3 := sm.trans s3
      have nlD : l ≠ D := ne_of_none hl3 nD
      have noD : o ≠ D := ne_of_none (s3 _ _ ho) nD
      have ntD : t ≠ D := ne_of_none (s3 _ _ ht') nD
      refine lc_list (xs := ns.map natV) (fun j H4 => Same H' H4 ∧ H4 l = some (.lst (ns.map natV)) ∧ PrsL H4 D (stps h p (ns.take j))) ?_ ?_ ?_ ?_
      · exact ⟨s3.new nD, by rw [upd_ne nlD]; exact hl3, [], upd_same, .nil⟩
      · rintro j H4 _ ⟨_, h4, _⟩
        exact .of h4
      · rintro j x H4 hx4 ⟨s4, hl4, q4, hD4, hp4⟩
        obtain ⟨r, hr4, rfl⟩ := nat_at hx4
        have hadj : Adj ts p r := (hns r).mp (List.mem_of_getElem? hr4)
        obtain ⟨_, hrn, _⟩ := W.below.adj hadj
        have hb4 : HtAt H4 b h := (hb.same sm).same s4
        refine ⟨rfl, .ref b, rfl, natV r, rfl, b, _, r, _, rfl, rfl, .of hb4, at_ht (by omega), .ref b, rfl, natV p, rfl, b, _, p, _, rfl, rfl, .of hb4, at_ht (by omega), _, _, rfl, rfl, _, rfl, ite2 (fun hc => ?_) (fun hc => ?_)⟩
        · have hc := of_decide_eq_true hc
          refine ⟨natV p, rfl, natV r, rfl, (by show 2 ≤ sizeLine; decide), fun T nT => ?_⟩
          have nDT : D ≠ T := ne_of_none hD4 nT
          refine ⟨_, by rw [upd_ne nDT]; exact hD4, ?_, ?_⟩
          · rw [List.length_map, Paired.length hp4]
            exact small1000 (Nat.le_trans (stps_len _ _ _) (by rw [List.length_take]; omega))
          · have hD5 : (upd H4 T (.tup [natV p, natV r])) D = some (.lst (q4.map V.ref)) := by rw [upd_ne nDT]; exact hD4
            refine ⟨(s4.new nT).put (s3.free nD), by rw [upd_ne nlD, upd_ne (ne_of_none hl4 nT)]; exact hl4, q4 ++ [T], by rw [upd_same, List.map_append]; rfl, ?_⟩
            rw [stps_take hr4, if_pos hc]
            refine paired_snoc (pairs_kt hp4 (((KeepT.refl _).new nT).lst hD5)) ?_
            show upd _ _ _ T = _
            rw [upd_ne nDT.symm, upd_same]
        · have hc : ¬ at_ h r < at_ h p := fun z => hc (decide_eq_true z)
          refine ⟨s4, hl4, q4, hD4, ?_⟩
          rw [stps_take hr4, if_neg hc, List.append_nil]
          exact hp4
      · rintro H4 ⟨s4, hl4, q4, hD4, hp4⟩
        rw [List.length_map, List.take_length] at hp4
        have ho4 : H4 o = some (.lst (qs.map V.ref)) := s4 _ _ ho
        have hsl := stps_len h p ns
        have hnoD : D ≠ o := noD.symm
        refine ⟨o, D, _, _, rfl, rfl, ho4, hD4, ?_, ?_⟩
        · rw [List.length_map, List.length_map, Paired.length hq, Paired.length hp4]
          exact line8 (by have := W.small; omega)
        · refine ⟨_, _, prs ++ stps h p ns, rfl, (sm.trans s4).put no, ?_, ⟨qs ++ q4, by rw [upd_same, List.map_append], ?_⟩, ?_, fun pr => ?_⟩
          · rw [upd_ne (ne_of ht' ho (by intro z; cases z))]
            exact s4 _ _ ht'
          · exact paired_app (pairs_kt hq (s4.keepT.lst ho4)) (pairs_kt hp4 ((KeepT.refl _).lst ho4))
          · rw [List.length_append]; omega
          · rw [List.mem_append, hmem, mem_stps, hns]
            constructor
            · rintro (⟨h1, h2⟩ | ⟨h1, h2, h3⟩)
              · exact ⟨by omega, h2⟩
              · rw [h1]; exact ⟨by omega, h2, h3⟩
            · rintro ⟨h1, h2, h3⟩
              by_cases e : pr.1 < p
              · exact .inl ⟨e, h2, h3⟩
              · have e : pr.1 = p := by omega
                rw [e] at h2 h3
                exact .inr ⟨e, h2, h3⟩
    · rintro σ H' ⟨y3, y4, prs, rfl, sm, ht', ⟨qs, ho, hq⟩, hlen, hmem⟩
      rw [List.length_map, List.length_range] at hlen hmem
      -- return tuple(found)
      refine ⟨.ref o, rfl, o, _, rfl, .inl ⟨.of ho, fun r nr => ?_⟩⟩
      refine q _ r prs (sm.new nr) ⟨qs, upd_same, pairs_kt hq ((KeepT.refl _).new nr)⟩ (fun pr => ?_) (by have := W.small; omega)
      rw [hmem]
      exact ⟨fun z => z.2, fun z => ⟨(W.below.adj z.1).1, z⟩⟩
end
end Ks
end
section
set_option maxRecDepth 100000
namespace Ks
open PySem PySem.Spec PyProof.Rows L2
open StX (pa_star)
/-! ### == [] and != [] -/
/-- the items are data of small depth -/
def Dat (K : PySem.W.Frag) (H : Hp) (xs : List V) : Prop := ∃ ds : List PyData, DpAll K H xs ds ∧ PyData.canLayAll0 ds = true ∧ PyData.depthAll ds ≤ 60
theorem dat_nil {K : PySem.W.Frag} {H : Hp} : Dat K H [] := ⟨[], .nil, rfl, by decide⟩
theorem dat_cons {K : PySem.W.Frag} {H : Hp} {x : V} {xs : List V} {d : PyData} (h : Dp K H x d) (hc : d.canLay0 = true) (hd : d.depth ≤ 60) (t : Dat K H xs) : Dat K H (x :: xs) := by
  obtain ⟨ds, a, b, c⟩ := t
  refine ⟨d :: ds, .cons h a, ?_, ?_⟩
  · simp [PyData.canLayAll0, hc, b]
  · simp only [PyData.depthAll]; omega
theorem dat_ints {K : PySem.W.Frag} {H : Hp} : ∀ ns : List Int, Dat K H (ns.map V.int)
  | [] => dat_nil
  | n :: ns => dat_cons (.int n) rfl (show (0 : Nat) ≤ 60 by decide) (dat_ints ns)
theorem dat_nats {K : PySem.W.Frag} {H : Hp} (ns : List Nat) : Dat K H (ns.map natV) := by
  rw [natV_list]; exact dat_ints _
theorem dp_ht {K : PySem.W.Frag} {H : Hp} {a : Addr} {h : List Int} (x : HtAt H a h) : Dp K H (.ref a) (.tuple (h.map PyData.int)) := by
  refine .tup (.of x) ?_
  clear x
  induction h with
  | nil => exact .nil
  | cons i r ih => exact .cons (.int i) ih
theorem lay_ints : ∀ h : List Int, PyData.canLayAll0 (h.map PyData.int) = true ∧ PyData.depthAll (h.map PyData.int) = 0
  | [] => ⟨rfl, rfl⟩
  | i :: r => by
    obtain ⟨a, b⟩ := lay_ints r
    refine ⟨?_, ?_⟩
    · show (true && PyData.canLayAll0 (r.map PyData.int)) = true
      rw [a]; rfl
    · show max 0 (PyData.depthAll (r.map PyData.int)) = 0
      rw [b]; rfl
theorem lay_ht (h : List Int) : (PyData.tuple (h.map PyData.int)).canLay0 = true ∧ (PyData.tuple (h.map PyData.int)).depth ≤ 60 := by
  obtain ⟨a, b⟩ := lay_ints h
  refine ⟨a, ?_⟩
  show PyData.depthAll (h.map PyData.int) + 1 ≤ 60
  rw [b]; decide
theorem dat_hts {K : PySem.W.Frag} {H : Hp} : ∀ {qs : List Addr} {ks : List (List Int)}, Paired (HtAt H) qs ks → Dat K H (qs.map V.ref)
  | _, _, .nil => dat_nil
  | _, _, .cons r t => dat_cons (dp_ht r) (lay_ht _).1 (lay_ht _).2 (dat_hts t)
theorem prs_ht {H : Hp} {a : Addr} {t : Nat × Nat} (x : PrAt H a t) : HtAt H a [(t.1 : Int), (t.2 : Int)] := x
theorem dat_prs {K : PySem.W.Frag} {H : Hp} : ∀ {qs : List Addr} {ks : List (Nat × Nat)}, Paired (PrAt H) qs ks → Dat K H (qs.map V.ref)
  | _, _, .nil => dat_nil
  | _, _, .cons r t => dat_cons (dp_ht (prs_ht r)) (lay_ht _).1 (lay_ht _).2 (dat_prs t)
theorem shaped_l {ds : List PyData} (h1 : PyData.canLayAll0 ds = true) (h2 : PyData.depthAll ds ≤ 60) : SeqAt.shaped (.list ds) = true := by
  have a : (PyData.list ds).canLay0 = true := h1
  have b : (PyData.list ds).depth ≤ 64 := by show PyData.depthAll ds + 1 ≤ 64; omega
  unfold SeqAt.shaped
  rw [a, decide_eq_true b]; rfl
theorem shaped_t {ds : List PyData} (h1 : PyData.canLayAll0 ds = true) (h2 : PyData.depthAll ds ≤ 60) : SeqAt.shaped (.tuple ds) = true := by
  have a : (PyData.tuple ds).canLay0 = true := h1
  have b : (PyData.tuple ds).depth ≤ 64 := by show PyData.depthAll ds + 1 ≤ 64; omega
  unfold SeqAt.shaped
  rw [a, decide_eq_true b]; rfl
theorem dpAll_len {K : PySem.W.Frag} {H : Hp} : ∀ {xs : List V} {ds : List PyData}, DpAll K H xs ds → xs.isEmpty = ds.isEmpty
  | _, _, .nil => rfl
  | _, _, .cons _ _ => rfl
theorem eqvAll_nil : ∀ ds : List PyData, PyData.eqvAll ds [] = ds.isEmpty
  | [] => by simp [PyData.eqvAll]
  | _ :: _ => by simp [PyData.eqvAll]
def rNeEL (K : PySem.W.Frag) : R2 := fun x y H Q => ∃ a b xs, x = .ref a ∧ y = .ref b ∧ SqL K H a xs ∧ SqL K H b [] ∧ Dat K H xs ∧ Q (.bl (!xs.isEmpty)) H
def rEqEL (K : PySem.W.Frag) : R2 := fun x y H Q => ∃ a b xs, x = .ref a ∧ y = .ref b ∧ SqL K H a xs ∧ SqL K H b [] ∧ Dat K H xs ∧ Q (.bl xs.isEmpty) H
def rNeET (K : PySem.W.Frag) : R2 := fun x y H Q => ∃ a b xs, x = .ref a ∧ y = .ref b ∧ SqT K H a xs ∧ SqT K H b [] ∧ Dat K H xs ∧ Q (.bl (!xs.isEmpty)) H
section
variable {X : Cx}
theorem op_neEL (hu : X.A.units + 64 < cLine) : OpR X (compareOp .NotEq) (rNeEL X.K) := by
  intro pins s σ H x y v u Q I rx ry h
  obtain ⟨a, b, xs, rfl, rfl, ha, hb, ⟨ds, h1, h2, h3⟩, q⟩ := h
  refine op_neD hu pins s σ H _ _ v u Q I rx ry ⟨.list ds, .list [], .lst ha h1, .lst hb .nil, shaped_l h2 h3, shaped_l rfl (by decide), ?_⟩
  have e : PyData.eqv (.list ds) (.list []) = xs.isEmpty := by
    rw [dpAll_len h1, ← eqvAll_nil]; simp [PyData.eqv]
  rw [e]; exact q
theorem op_eqEL (hu : X.A.units + 64 < cLine) : OpR X (compareOp .Eq) (rEqEL X.K) := by
  intro pins s σ H x y v u Q I rx ry h
  obtain ⟨a, b, xs, rfl, rfl, ha, hb, ⟨ds, h1, h2, h3⟩, q⟩ := h
  refine op_eqD hu pins s σ H _ _ v u Q I rx ry ⟨.list ds, .list [], .lst ha h1, .lst hb .nil, shaped_l h2 h3, shaped_l rfl (by decide), ?_⟩
  have e : PyData.eqv (.list ds) (.list []) = xs.isEmpty := by
    rw [dpAll_len h1, ← eqvAll_nil]; simp [PyData.eqv]
  rw [e]; exact q
theorem op_neET (hu : X.A.units + 64 < cLine) : OpR X (compareOp .NotEq) (rNeET X.K) := by
  intro pins s σ H x y v u Q I rx ry h
  obtain ⟨a, b, xs, rfl, rfl, ha, hb, ⟨ds, h1, h2, h3⟩, q⟩ := h
  refine op_neD hu pins s σ H _ _ v u Q I rx ry ⟨.tuple ds, .tuple [], .tup ha h1, .tup hb .nil, shaped_t h2 h3, shaped_t rfl (by decide), ?_⟩
  have e : PyData.eqv (.tuple ds) (.tuple []) = xs.isEmpty := by
    rw [dpAll_len h1, ← eqvAll_nil]; simp [PyData.eqv]
  rw [e]; exact q
end
theorem inV_nats {p : Nat} {ns : List Nat} : inV (natV p) (ns.map natV) = true ↔ p ∈ ns := by
  unfold inV
  rw [List.any_eq_true]
  constructor
  · rintro ⟨y, hy, e⟩
    obtain ⟨m, hm, rfl⟩ := List.mem_map.mp hy
    have e : decide ((m : Int) = (p : Int)) = true := e
    have e := of_decide_eq_true e
    have : m = p := by omega
    exact this ▸ hm
  · intro h
    refine ⟨natV p, List.mem_map.mpr ⟨p, h, rfl⟩, ?_⟩
    show decide ((p : Int) = (p : Int)) = true
    simp
theorem flat_nats (ns : List Nat) : (ns.map natV).all flatV = true := by
  rw [List.all_map, List.all_eq_true]
  intro n _; rfl
section
variable {P : Program} {w : World} {K : PySem.W.Frag} {mg : Str → Option Value} {base : Heap}
/-! ### open_at -/
instance (h g : List Int) (v : Int) : DecidablePred (Open h g v) := fun p => by unfold Open; exact inferInstance
/-- the open ones below i -/
def opens (h g : List Int) (v : Int) (i : Nat) : List Nat := (List.range i).filter fun p => decide (Open h g v p)
theorem mem_opens {h g : List Int} {v : Int} {p : Nat} : p ∈ opens h g v h.length ↔ Open h g v p := by
  unfold opens
  rw [List.mem_filter, List.mem_range, decide_eq_true_eq]
  exact ⟨fun z => z.2, fun z => ⟨z.1, z⟩⟩
theorem opens_succ {h g : List Int} {v : Int} {i : Nat} : opens h g v (i + 1) = opens h g v i ++ (if Open h g v i then [i] else []) := by
  unfold opens
  rw [List.range_succ, List.filter_append]
  congr 1
  by_cases c : Open h g v i
  · have d : decide (Open h g v i) = true := decide_eq_true c
    rw [if_pos c, List.filter_cons, if_pos d]; rfl
  · have d : ¬ decide (Open h g v i) = true := fun z => c (of_decide_eq_true z)
    rw [if_neg c, List.filter_cons, if_neg d]; rfl
theorem opens_len (h g : List Int) (v : Int) (i : Nat) : (opens h g v i).length ≤ i := by
  have := List.length_filter_le (fun p => decide (Open h g v p)) (List.range i)
  rw [List.length_range] at this
  exact this
def spOpen (K : PySem.W.Frag) : Sp := fun vs H Q _ => ∃ (b c : Addr) (h g : List Int) (v : Int), vs = [.ref b, .ref c, .int v] ∧ HtAt H b h ∧ HtAt H c g ∧ g.length = h.length ∧ h.length ≤ 8 ∧
  ∀ (H' : Hp) (l : Addr), Same H H' → H l = none → H' l = some (.lst ((opens h g v h.length).map natV)) → Q (.ref l) H'
theorem ok_open {f : Addr} {fd : FuncData} {k : Nat} (F : Fun K "open_at" "open_at" sOpenAt f fd) (B : Blt mg) : FnOk P w K mg base CX0 (k + 1) f fd ["heights", "goal", "height"] (spOpen K) := by
  refine F.ok scOpenAt (fun vs H Q E h => ?_) (fun cdv A outer s H vs Q E hr h => ?_)
  · obtain ⟨b, c, h, g, v, rfl, _⟩ := h
    rfl
  · obtain ⟨b, c, h, g, v, rfl, hb, hc, hgl, h8, q⟩ := h
    refine ⟨_, pss_one (ps_ret (pe_lc (own := [("one", 3)]) (g := gName 3) (te := tVar 3) (tt := tTest (tChain (rI0 fun i j => .bl (decide (j ≤ i))) (rI0 fun i j => .bl (decide (j ≤ i))) (tOp (rIxT K) (tVar 0) (tVar 3)) (tVar 2) (tOp (rIxT K) (tVar 1) (tVar 3)))) rfl scOpenAt.nd
      (pi_range1 rfl B.range (pa_cons (pe_callB call_len_seq (by rfl) B.len PySem.boot_len (pa_cons (pv 0) pa_nil)) pa_nil))
      (blkOk_by (N := nOpenAt) (sc := defScope sOpenAt) (by decide +kernel))
      (fun _ _ _ _ _ => pg_name (i := 3) scOpenAt.nd rfl (.inl rfl))
      (fun _ _ _ _ _ => pts_one (pt_chain op_ge op_ge (pe_ix ix_tup (pv 0) (pv 3) (fun _ _ => rfl)) (pv 2) (pe_ix ix_tup (pv 1) (pv 3) (fun _ _ => rfl))))
      (fun _ _ _ _ _ => pv 3))), ?_⟩
    refine ⟨.ref b, rfl, b, _, rfl, .inr (.of hb), _, rfl, ?_, ?_, fun D nD => ?_⟩
    · rw [List.length_map]; omega
    · rw [List.length_map]; omega
    have en : (((h.map V.int).length : Nat) : Int).toNat = h.length := by rw [List.length_map]; simp
    rw [en]
    refine lc_range (fun i H1 => Same H H1 ∧ H1 D = some (.lst ((opens h g v i).map natV))) ?_ ?_ ?_
    · exact ⟨same_upd nD, by rw [upd_same]; rfl⟩
    · rintro i H1 hi ⟨s1, hD⟩
      have ei : (0 : Int) + ((i : Nat) : Int) = ((i : Nat) : Int) := by omega
      have hx : ((opens h g v i).map natV).length < sizeLine := by
        rw [List.length_map]; exact small1000 (Nat.le_trans (opens_len _ _ _ _) (by omega))
      refine ⟨rfl, .ref b, rfl, _, rfl, b, _, _, .int (at_ h i), rfl, rfl, .of (s1 _ _ hb), by rw [ei]; exact at_ht hi, .int v, rfl, _, _, rfl, rfl, _, rfl, ite2 (fun hc1 => ?_) (fun hc1 => ?_)⟩
      · have hc1 : v ≤ at_ h i := of_decide_eq_true hc1
        refine ⟨.ref c, rfl, _, rfl, c, _, _, .int (at_ g i), rfl, rfl, .of (s1 _ _ hc), by rw [ei]; exact at_ht (by omega), _, _, rfl, rfl, _, rfl, ite2 (fun hc2 => ?_) (fun hc2 => ?_)⟩
        · have hc2 : at_ g i ≤ v := of_decide_eq_true hc2
          refine ⟨_, rfl, _, hD, hx, s1.put nD, ?_⟩
          rw [upd_same, opens_succ, if_pos ⟨hi, hc1, hc2⟩, List.map_append, ei]; rfl
        · have hc2 : ¬ at_ g i ≤ v := fun z => hc2 (decide_eq_true z)
          refine ⟨s1, ?_⟩
          rw [hD, opens_succ, if_neg (fun z => hc2 z.2.2), List.append_nil]
      · have hc1 : ¬ v ≤ at_ h i := fun z => hc1 (decide_eq_true z)
        refine ⟨_, rfl, iteF ⟨s1, ?_⟩⟩
        rw [hD, opens_succ, if_neg (fun z => hc1 z.2.1), List.append_nil]
    · rintro H1 ⟨s1, hD⟩
      exact q H1 D s1 nD hD
end
end Ks
end
section
set_option maxRecDepth 100000
namespace Ks
open PySem PySem.Spec PyProof.Rows L2
/-- what a walk over a dict with tuple keys gathers: the keys' addresses -/
theorem gathered {P : Program} {w : World} {es : Array DictEntry} {xs : List (List Key × Addr × Value)} {got : Array Value} (he : es.toList = xs.map (entryOfKey (tupleKind (mixKind P w))))
    (hg : ItemsOf (fun j v => ∃ en : DictEntry, es[j]? = some en ∧ v = en.key) got es.size) : got.toList = (xs.map fun x => x.2.1).map Value.ref := by
  have hlen : got.toList.length = xs.length := by rw [Array.length_toList, hg.1, size_of_entries he]
  refine List.ext_getElem (by rw [hlen, List.length_map, List.length_map]) fun j hj _ => ?_
  have hjx : j < xs.length := by omega
  obtain ⟨en, e1, e2⟩ := hg.2 j got.toList[j] (by rw [← Array.getElem?_toList, List.getElem?_eq_getElem hj])
  rw [entry_at he j, List.getElem?_eq_getElem hjx] at e1
  have e1 := Option.some.inj e1
  rw [e2, ← e1, List.getElem_map, List.getElem_map]
  rfl
end Ks
end
section
set_option maxRecDepth 100000
namespace Ks
open PySem PySem.Spec PyProof.Rows L2
open StX (pa_star)
theorem last_of {α : Type} {l : List α} (h : l ≠ []) : ∃ r x, l = r ++ [x] := ⟨l.dropLast, l.getLast h, (List.dropLast_concat_getLast h).symm⟩
theorem mem_drop {α : Type} {l : List α} {j : Nat} {o y : α} (h : l[j]? = some o) : y ∈ l.drop j ↔ y = o ∨ y ∈ l.drop (j + 1) := by
  obtain ⟨h1, e⟩ := List.getElem?_eq_some_iff.mp h
  rw [List.drop_eq_getElem_cons h1, e, List.mem_cons]
theorem isEmpty_map {α β : Type} (f : α → β) (l : List α) : (l.map f).isEmpty = l.isEmpty := by cases l <;> rfl
theorem pop_at {xs : List V} {y : V} : (xs ++ [y])[(xs ++ [y]).length - 1]? = some y := by simp
section
variable {P : Program} {w : World} {K : PySem.W.Frag} {mg : Str → Option Value} {base : Heap}
/-! ### hanging -/
def HopL (ts : Ties) (lot : List Nat) (x y : Nat) : Prop := Adj ts x y ∧ y ∈ lot
def spHang (K : PySem.W.Frag) : Sp := fun vs H Q _ => ∃ (a l : Addr) (n : Nat) (ts : Ties) (p : Nat) (lot : List Nat), vs = [.ref a, natV p, .ref l] ∧ WebOk H a n ts ∧ H l = some (.lst (lot.map natV)) ∧ p < n ∧ (∀ x ∈ lot, x < n) ∧
  ∀ (H' : Hp) (t : Addr) (fs : List Nat), Same H H' → H' t = some (.tup (fs.map natV)) → (∀ x, x ∈ fs ↔ Star (HopL ts lot) p x) → fs.length ≤ 8 → Q (.ref t) H'
theorem ok_hang {f fT : Addr} {fd fdT : FuncData} {k : Nat} (F : Fun K "hanging" "hanging" sHanging f fd) (B : Blt mg) (DT : Dn K mg "tied_to" sTiedTo ["web", "person"] fT fdT) :
    FnOk P w K mg base CX0 (k + 2) f fd ["web", "person", "lot"] (spHang K) := by
  have GT : FnOk P w K mg base CX0 (k + 1) fT fdT ["web", "person"] (spTied K) := ok_tied DT.F B
  refine F.ok scHanging (fun vs H Q E h => ?_) (fun cdv A outer s H vs Q E hr h => ?_)
  · obtain ⟨a, l, n, ts, p, lot, rfl, _⟩ := h
    rfl
  · obtain ⟨a, l, n, ts, p, lot, rfl, W, hl, hp, hlot, q⟩ := h
    refine ⟨_, pss_cons (ps_par (i := 3) (j := 4) (by rfl) scHanging.nd rfl rfl (by decide) rfl rfl (pa_cons (pe_lst (pa_cons (pv 1) pa_nil)) (pa_cons (pe_lst (pa_cons (pv 1) pa_nil)) pa_nil)) (by rfl))
      (pss_cons (ps_while PassesOwn.never (pt_cmpR (op_neEL hr.units) (pv 4) (pe_lst pa_nil) (nomark _))
        (pss_cons (ps_set (i := 5) scHanging.nd rfl (.inl rfl) (pe_bm0 PySem.F.plainAttrs_list PySem.F.slot_list_pop PySem.F.type_list_pop mt_pop (pv 4)))
          (pss_one (ps_for PassesOwn.never rfl (pi_list (pe_call GT hr (by rfl) DT.g DT.F.kp DT.b .nil pass0 (pa_cons (pv 0) (pa_cons (pv 5) pa_nil)))) (pg_name (i := 6) scHanging.nd rfl (.inl rfl))
            (pss_one (ps_if (PW.pt (pw_and (pt_cmpR op_in_seq (pv 6) (pv 2) rfl) (pw_and1 (pt_cmpR op_notIn_seq (pv 6) (pv 3) rfl))))
              (pss_cons (ps_expr (pe_bm PySem.F.plainAttrs_list PySem.F.slot_list_append PySem.F.type_list_append mt_append (pv 3) (pa_cons (pv 6) pa_nil)))
                (pss_one (ps_expr (pe_bm PySem.F.plainAttrs_list PySem.F.slot_list_append PySem.F.type_list_append mt_append (pv 4) (pa_cons (pv 6) pa_nil)))))
              pss_nil))))))
      (pss_one (ps_ret (pe_callTy call_tuple_of (by rfl) B.tuple (by decide +kernel) (pa_cons (pe_callB cr_sorted (by rfl) B.sorted (by decide +kernel) (pa_cons (pv 3) pa_nil)) pa_nil))))), ?_⟩
    -- found, edge = [person], [person]
    refine ⟨natV p, rfl, (by show 1 ≤ sizeLine; decide), fun fo nfo => ⟨natV p, rfl, (by show 1 ≤ sizeLine; decide), fun ed ned => ⟨_, _, rfl, ?_⟩⟩⟩
    have s1 := same_upd (o := .lst [natV p]) nfo
    have s2 := s1.new (o := .lst [natV p]) ned
    have ned0 : H ed = none := s1.free ned
    have nfe : fo ≠ ed := fun z => by rw [z, upd_same] at ned; cases ned
    refine ⟨fun m σ H1 => ∃ (y5 y6 : Option V) (fs es : List Nat), σ = [some (.ref a), some (natV p), some (.ref l), some (.ref fo), some (.ref ed), y5, y6] ∧ Same H H1 ∧ H1 fo = some (.lst (fs.map natV)) ∧ H1 ed = some (.lst (es.map natV)) ∧
        Clo (HopL ts lot) p (· ∈ fs) (· ∈ es) (fun _ _ => False) ∧ fs.Nodup ∧ (∀ x ∈ fs, x < n) ∧ es.length + (8 - fs.length) ≤ m ∧ es.length ≤ fs.length, ⟨8, none, none, [p], [p], rfl, s2, ?_, upd_same, ?_, by simp, by simpa using hp, by simp, by simp⟩, fun m σ H1 h1 => ?_⟩
    · rw [upd_ne nfe, upd_same]; rfl
    · refine ⟨fun x h => ?_, by simp, fun x h => h, fun x h => .inl h⟩
      have : x = p := by simpa using h
      rw [this]; exact .refl
    · obtain ⟨y5, y6, fs, es, rfl, sm, hfo, hed, clo, nd, bd, hm, hef⟩ := h1
      have len8 : ∀ {fs : List Nat}, fs.Nodup → (∀ x ∈ fs, x < n) → fs.length ≤ 8 := fun nd bd => by
        have := nodup_len nd (m := List.range n) fun x hx => List.mem_range.mpr (bd x hx)
        rw [List.length_range] at this
        have := W.small
        omega
      -- while edge != []
      refine ⟨.ref ed, rfl, Nat.zero_le _, fun e0 ne0 => ⟨ed, e0, es.map natV, rfl, rfl, .of (by rw [upd_ne (ne_of_none hed ne0)]; exact hed), .of upd_same, dat_nats _, _, rfl, ?_⟩⟩
      have sm' := sm.new (o := .lst []) ne0
      have hfo' : (upd H1 e0 (.lst [])) fo = some (.lst (fs.map natV)) := by rw [upd_ne (ne_of_none hfo ne0)]; exact hfo
      have hed' : (upd H1 e0 (.lst [])) ed = some (.lst (es.map natV)) := by rw [upd_ne (ne_of_none hed ne0)]; exact hed
      generalize upd H1 e0 (.lst []) = H2 at sm' hfo' hed' ⊢
      rw [isEmpty_map]
      cases hes : es.isEmpty with
      | true =>
        refine iteF ?_
        have es0 : es = [] := List.isEmpty_iff.mp hes
        subst es0
        -- return tuple(sorted(found))
        have fl := len8 nd bd
        refine ⟨.ref fo, rfl, fo, fs.map (fun n : Nat => (n : Int)), rfl, by rw [← natV_list]; exact .of hfo', by rw [List.length_map]; omega, fun ms l2 pm _ nl => ?_⟩
        obtain ⟨ks, rfl, pk⟩ := perm_nats pm
        refine ⟨l2, _, rfl, .inl ⟨.of upd_same, fun t nt => ?_⟩⟩
        refine q _ t ks ((sm'.new nl).new nt) (by rw [upd_same, natV_list]) (fun x => ?_) (by rw [pk.length_eq]; exact fl)
        rw [pk.mem_iff]
        exact clo.done (fun x h => by simp at h) (fun _ _ h => h) x
      | false =>
        refine iteT ⟨fun σ' H' => ∃ m', m' < m ∧ _, fun σ' H' h => h, ?_⟩
        obtain ⟨er, here, rfl⟩ := last_of (l := es) (fun z => by rw [z] at hes; simp at hes)
        rw [List.map_append] at hed'
        have hhere : here ∈ fs := clo.front here (by simp)
        have hhn := bd here hhere
        -- here = edge.pop()
        refine ⟨.ref ed, rfl, .inl ⟨rfl, _, .of hed'⟩, ed, _, natV here, rfl, rfl, hed', pop_at, ?_⟩
        have hfo3 : (upd H2 ed (.lst ((er.map natV ++ [here].map natV).dropLast))) fo = some (.lst (fs.map natV)) := by rw [upd_ne nfe]; exact hfo'
        have hed3 : (upd H2 ed (.lst ((er.map natV ++ [here].map natV).dropLast))) ed = some (.lst (er.map natV)) := by rw [upd_same]; simp
        have sm3 : Same H (upd H2 ed (.lst ((er.map natV ++ [here].map natV).dropLast))) := sm'.put ned0
        generalize upd H2 ed (.lst ((er.map natV ++ [here].map natV).dropLast)) = H3 at sm3 hfo3 hed3 ⊢
        -- for other in tied_to(web, here)
        refine ⟨.ref a, rfl, natV here, rfl, a, n, ts, here, rfl, (W.same sm3).at', W.below, W.few, fun H4 lb ns s4 nlb hlb hns hnl => ?_⟩
        refine ⟨lb, rfl, ⟨_, .of hlb⟩, ?_⟩
        have sm4 : Same H H4 := sm3.trans s4
        have nlf : lb ≠ fo := fun z => by rw [z, hfo3] at nlb; cases nlb
        have nle : lb ≠ ed := fun z => by rw [z, hed3] at nlb; cases nlb
        refine for_list (xs := ns.map natV) (fun j σ H5 => ∃ (y6 : Option V) (fs es : List Nat), σ = [some (.ref a), some (natV p), some (.ref l), some (.ref fo), some (.ref ed), some (natV here), y6] ∧ Same H H5 ∧ H5 lb = some (.lst (ns.map natV)) ∧ H5 fo = some (.lst (fs.map natV)) ∧ H5 ed = some (.lst (es.map natV)) ∧
          Clo (HopL ts lot) p (· ∈ fs) (· ∈ es) (fun x y => x = here ∧ y ∈ ns.drop j) ∧ here ∈ fs ∧ fs.Nodup ∧ (∀ x ∈ fs, x < n) ∧ es.length + (8 - fs.length) + 1 ≤ m ∧ es.length ≤ fs.length) ?_ ?_ ?_ ?_
        · refine ⟨y6, fs, er, rfl, sm4, hlb, s4 _ _ hfo3, s4 _ _ hed3, ?_, hhere, nd, bd, ?_, ?_⟩
          · refine clo.take (now := here) (fun x hx => ?_) (fun x hx => ?_) (fun y hy => ⟨rfl, ?_⟩)
            · rcases List.mem_append.mp hx with z | z
              · exact .inl z
              · exact .inr (List.mem_singleton.mp z)
            · exact List.mem_append_left _ hx
            · rw [List.drop_zero]; exact (hns y).mpr hy.1
          · rw [List.length_append, List.length_singleton] at hm; omega
          · rw [List.length_append, List.length_singleton] at hef; omega
        · rintro j σ H5 _ ⟨_, _, _, _, _, h5, _⟩
          exact .of h5
        · rintro j x σ H5 hx ⟨y6, fs, es, rfl, sm5, hlb5, hfo5, hed5, clo, hhere, nd, bd, hm, hef⟩
          obtain ⟨o, ho, rfl⟩ := nat_at hx
          have hadj : Adj ts here o := (hns o).mp (List.mem_of_getElem? ho)
          have hon : o < n := (W.below.adj hadj).2.1
          have f8 := len8 nd bd
          -- if other in lot and other not in found
          refine ⟨natV o, rfl, .ref l, rfl, l, _, rfl, .inl (.of (sm5 _ _ hl)), rfl, flat_nats _, _, rfl, ite2 (fun c1 => ?_) (fun c1 => ?_)⟩
          · have c1 := inV_nats.mp c1
            refine ⟨natV o, rfl, .ref fo, rfl, fo, _, rfl, .inl (.of hfo5), rfl, flat_nats _, _, rfl, ite2 (fun c2 => ?_) (fun c2 => ?_)⟩
            · have c2 : o ∉ fs := fun z => by
                have := inV_nats.mpr z
                simp only [if_true, this] at c2
                simp at c2
              -- found.append(other); edge.append(other)
              refine ⟨.ref fo, rfl, .inl ⟨rfl, _, .of hfo5⟩, natV o, rfl, fo, _, _, rfl, rfl, hfo5, by rw [List.length_map]; exact small1000 (by omega), ?_⟩
              have hed6 : (upd H5 fo (.lst (fs.map natV ++ [natV o]))) ed = some (.lst (es.map natV)) := by rw [upd_ne nfe.symm]; exact hed5
              refine ⟨.ref ed, rfl, .inl ⟨rfl, _, .of hed6⟩, natV o, rfl, ed, _, _, rfl, rfl, hed6, ?_, ?_⟩
              · rw [List.length_map]; exact small1000 (by omega)
              · refine ⟨_, fs ++ [o], es ++ [o], rfl, (sm5.put nfo).put ned0, ?_, ?_, ?_, ?_, List.mem_append_left _ hhere, ?_, ?_, ?_, by simp only [List.length_append, List.length_singleton]; omega⟩
                · rw [upd_ne nle, upd_ne nlf]; exact hlb5
                · rw [upd_ne nfe, upd_same, List.map_append]; rfl
                · rw [upd_same, List.map_append]; rfl
                · refine clo.add (now := here) (z := o) hhere ⟨hadj, c1⟩ (fun x => ?_) (fun x => ?_) (fun x y ⟨h1, h2⟩ => ?_)
                  · simp [List.mem_append]
                  · simp [List.mem_append]
                  · rcases (mem_drop ho).mp h2 with z | z
                    · left; rw [z]; simp
                    · exact .inr ⟨h1, z⟩
                · exact List.nodup_append.mpr ⟨nd, by simp, fun a ha b hb => by rw [List.mem_singleton.mp hb]; exact fun z => c2 (z ▸ ha)⟩
                · intro x hx
                  rcases List.mem_append.mp hx with z | z
                  · exact bd x z
                  · rw [List.mem_singleton.mp z]; exact hon
                · have nd' : (fs ++ [o]).Nodup := List.nodup_append.mpr ⟨nd, by simp, fun a ha b hb => by rw [List.mem_singleton.mp hb]; exact fun z => c2 (z ▸ ha)⟩
                  have := len8 nd' (fun x hx => by
                    rcases List.mem_append.mp hx with z | z
                    · exact bd x z
                    · rw [List.mem_singleton.mp z]; exact hon)
                  simp only [List.length_append, List.length_singleton] at this ⊢
                  omega
            · have c2 : o ∈ fs := by
                by_cases z : o ∈ fs
                · exact z
                · exfalso
                  apply c2
                  have : ¬ inV (natV o) (fs.map natV) = true := fun e => z (inV_nats.mp e)
                  simp only [if_true, this]
                  simp
              refine ⟨_, fs, es, rfl, sm5, hlb5, hfo5, hed5, clo.skip (fun x y hr ⟨h1, h2⟩ => ?_), hhere, nd, bd, hm, hef⟩
              rcases (mem_drop ho).mp h2 with z | z
              · left; rw [z]; exact c2
              · exact .inr ⟨h1, z⟩
          · have c1 : o ∉ lot := fun z => c1 (inV_nats.mpr z)
            refine iteF ⟨_, fs, es, rfl, sm5, hlb5, hfo5, hed5, clo.skip (fun x y hr ⟨h1, h2⟩ => ?_), hhere, nd, bd, hm, hef⟩
            rcases (mem_drop ho).mp h2 with z | z
            · rw [z] at hr; exact absurd hr.2 c1
            · exact .inr ⟨h1, z⟩
        · rintro σ H5 ⟨y6, fs, es, rfl, sm5, hlb5, hfo5, hed5, clo, hhere, nd, bd, hm, hef⟩
          refine ⟨m - 1, by omega, _, _, fs, es, rfl, sm5, hfo5, hed5, clo.skip (fun x y hr ⟨h1, h2⟩ => ?_), nd, bd, by omega, hef⟩
          rw [List.length_map, List.drop_length] at h2
          cases h2
end
end Ks
end
section
set_option maxRecDepth 100000
namespace Ks
open PySem PySem.Spec PyProof.Rows L2
open StX (pa_star)
section
variable {P : Program} {w : World} {K : PySem.W.Frag} {mg : Str → Option Value} {base : Heap}
theorem hopL_opens {ts : Ties} {h g : List Int} {v : Int} {p x : Nat} : Star (HopL ts (opens h g v h.length)) p x ↔ Star (Hop ts h g v) p x :=
  ⟨fun s => s.mono fun a b ⟨h1, h2⟩ => ⟨h1, mem_opens.mp h2⟩, fun s => s.mono fun a b ⟨h1, h2⟩ => ⟨h1, mem_opens.mpr h2⟩⟩
/-! ### piece_of -/
/-- a web, heights and a goal of as many persons -/
structure Three (H : Hp) (a b c : Addr) (n : Nat) (ts : Ties) (h g : List Int) : Prop where
  W : WebOk H a n ts
  hb : HtAt H b h
  hc : HtAt H c g
  hl : h.length = n
  gl : g.length = n
theorem Three.same {H H' : Hp} {a b c : Addr} {n : Nat} {ts : Ties} {h g : List Int} (x : Three H a b c n ts h g) (s : Same H H') : Three H' a b c n ts h g := ⟨x.W.same s, x.hb.same s, x.hc.same s, x.hl, x.gl⟩
def InPiece (ts : Ties) (h g : List Int) (p x : Nat) : Prop := Open h g (at_ g p) p ∧ Star (Hop ts h g (at_ g p)) p x
def spPiece (K : PySem.W.Frag) : Sp := fun vs H Q _ => ∃ (a b c : Addr) (n : Nat) (ts : Ties) (h g : List Int) (p : Nat), vs = [.ref a, .ref b, .ref c, natV p] ∧ Three H a b c n ts h g ∧ p < n ∧
  ∀ (H' : Hp) (t : Addr) (fs : List Nat), Same H H' → H' t = some (.tup (fs.map natV)) → (∀ x, x ∈ fs ↔ InPiece ts h g p x) → fs.length ≤ 8 → Q (.ref t) H'
theorem ok_piece {f fO fH fT : Addr} {fd fdO fdH fdT : FuncData} {k : Nat} (F : Fun K "piece_of" "piece_of" sPieceOf f fd) (B : Blt mg) (DO : Dn K mg "open_at" sOpenAt ["heights", "goal", "height"] fO fdO)
    (DH : Dn K mg "hanging" sHanging ["web", "person", "lot"] fH fdH) (DT : Dn K mg "tied_to" sTiedTo ["web", "person"] fT fdT) : FnOk P w K mg base CX0 (k + 3) f fd ["web", "heights", "goal", "person"] (spPiece K) := by
  have GO : FnOk P w K mg base CX0 (k + 2) fO fdO ["heights", "goal", "height"] (spOpen K) := ok_open DO.F B
  have GH : FnOk P w K mg base CX0 (k + 2) fH fdH ["web", "person", "lot"] (spHang K) := ok_hang DH.F B DT
  refine F.ok scPieceOf (fun vs H Q E h => ?_) (fun cdv A outer s H vs Q E hr h => ?_)
  · obtain ⟨a, b, c, n, ts, h, g, p, rfl, _⟩ := h
    rfl
  · obtain ⟨a, b, c, n, ts, h, g, p, rfl, T, hp, q⟩ := h
    refine ⟨_, pss_cons (ps_set (i := 4) scPieceOf.nd rfl (.inl rfl) (pe_call GO hr (by rfl) DO.g DO.F.kp DO.b .nil pass0 (pa_cons (pv 1) (pa_cons (pv 2) (pa_cons (pe_ix ix_tup (pv 2) (pv 3) (fun _ _ => rfl)) pa_nil)))))
      (pss_one (ps_ret (pe_ifExp (pt_cmpR op_in_seq (pv 3) (pv 4) rfl) (pe_call GH hr (by rfl) DH.g DH.F.kp DH.b .nil pass0 (pa_cons (pv 0) (pa_cons (pv 3) (pa_cons (pv 4) pa_nil)))) (pe_tup pa_nil)))), ?_⟩
    refine ⟨.ref b, rfl, .ref c, rfl, .ref c, rfl, natV p, rfl, c, _, p, .int (at_ g p), rfl, rfl, .of T.hc, at_ht (by rw [T.gl]; exact hp), ?_⟩
    refine ⟨b, c, h, g, at_ g p, rfl, T.hb, T.hc, by rw [T.gl, T.hl], by rw [T.hl]; exact T.W.small, fun H1 l s1 nl hl1 => ?_⟩
    have ol := opens_len h g (at_ g p) h.length
    refine ⟨natV p, rfl, .ref l, rfl, l, _, rfl, .inl (.of hl1), rfl, flat_nats _, _, rfl, ite2 (fun c1 => ?_) (fun c1 => ?_)⟩
    · have c1 := mem_opens.mp (inV_nats.mp c1)
      refine ⟨.ref a, rfl, natV p, rfl, .ref l, rfl, a, l, n, ts, p, _, rfl, T.W.same s1, hl1, hp, fun x hx => ?_, fun H2 t fs s2 ht hm h8 => ?_⟩
      · have := (mem_opens.mp hx).1
        rw [T.hl] at this; exact this
      · refine q _ t fs (s1.trans s2) ht (fun x => ?_) h8
        rw [hm, hopL_opens]
        exact ⟨fun z => ⟨c1, z⟩, fun z => z.2⟩
    · have c1 : ¬ Open h g (at_ g p) p := fun z => c1 (inV_nats.mpr (mem_opens.mpr z))
      refine ⟨Nat.zero_le _, fun t nt => ?_⟩
      refine q _ t [] (s1.new nt) (by rw [upd_same]; rfl) (fun x => ?_) (by simp)
      exact ⟨fun z => (by cases z), fun z => absurd z.1 c1⟩
/-! ### sources_of -/
def spSrc (K : PySem.W.Frag) : Sp := fun vs H Q _ => ∃ (a b c : Addr) (n : Nat) (ts : Ties) (h g : List Int) (p : Nat), vs = [.ref a, .ref b, .ref c, natV p] ∧ Three H a b c n ts h g ∧ p < n ∧
  ∀ (H' : Hp) (t : Addr) (fs : List Nat), Same H H' → H' t = some (.tup (fs.map natV)) → (∀ x, x ∈ fs ↔ InPiece ts h g p x ∧ at_ h x = at_ g p) → Q (.ref t) H'
def srcs (h g : List Int) (p : Nat) (fs : List Nat) : List Nat := fs.filter fun x => decide (at_ h x = at_ g p)
theorem srcs_take {h g : List Int} {p i o : Nat} {fs : List Nat} (e : fs[i]? = some o) : srcs h g p (fs.take (i + 1)) = srcs h g p (fs.take i) ++ (if at_ h o = at_ g p then [o] else []) := by
  unfold srcs
  rw [List.take_add_one, e, Option.toList, List.filter_append]
  congr 1
  by_cases c : at_ h o = at_ g p
  · have d : decide (at_ h o = at_ g p) = true := decide_eq_true c
    rw [if_pos c, List.filter_cons, if_pos d]; rfl
  · have d : ¬ decide (at_ h o = at_ g p) = true := fun z => c (of_decide_eq_true z)
    rw [if_neg c, List.filter_cons, if_neg d]; rfl
theorem ok_src {f fP fO fH fT : Addr} {fd fdP fdO fdH fdT : FuncData} {k : Nat} (F : Fun K "sources_of" "sources_of" sSourcesOf f fd) (B : Blt mg) (DP : Dn K mg "piece_of" sPieceOf ["web", "heights", "goal", "person"] fP fdP) (DO : Dn K mg "open_at" sOpenAt ["heights", "goal", "height"] fO fdO)
    (DH : Dn K mg "hanging" sHanging ["web", "person", "lot"] fH fdH) (DT : Dn K mg "tied_to" sTiedTo ["web", "person"] fT fdT) : FnOk P w K mg base CX0 (k + 4) f fd ["web", "heights", "goal", "person"] (spSrc K) := by
  have GP : FnOk P w K mg base CX0 (k + 3) fP fdP ["web", "heights", "goal", "person"] (spPiece K) := ok_piece DP.F B DO DH DT
  refine F.ok scSourcesOf (fun vs H Q E h => ?_) (fun cdv A outer s H vs Q E hr h => ?_)
  · obtain ⟨a, b, c, n, ts, h, g, p, rfl, _⟩ := h
    rfl
  · obtain ⟨a, b, c, n, ts, h, g, p, rfl, T, hp, q⟩ := h
    refine ⟨_, pss_one (ps_ret (pe_callTy call_tuple_of (by rfl) B.tuple (by decide +kernel) (pa_cons
      (pe_lc (own := [("one", 4)]) (g := gName 4) (te := tVar 4) (tt := tTest (tOp rEq (tOp (rIxT K) (tVar 1) (tVar 4)) (tOp (rIxT K) (tVar 2) (tVar 3)))) rfl scSourcesOf.nd
        (pi_tup (pe_call GP hr (by rfl) DP.g DP.F.kp DP.b .nil pass0 (pa_cons (pv 0) (pa_cons (pv 1) (pa_cons (pv 2) (pa_cons (pv 3) pa_nil))))))
        (blkOk_by (N := nSourcesOf) (sc := defScope sSourcesOf) (by decide +kernel))
        (fun _ _ _ _ _ => pg_name (i := 4) scSourcesOf.nd rfl (.inl rfl))
        (fun _ _ _ _ _ => pts_one (pt_cmpR op_eq (pe_ix ix_tup (pv 1) (pv 4) (fun _ _ => rfl)) (pe_ix ix_tup (pv 2) (pv 3) (fun _ _ => rfl)) (nomark _)))
        (fun _ _ _ _ _ => pv 4)) pa_nil))), ?_⟩
    refine ⟨.ref a, rfl, .ref b, rfl, .ref c, rfl, natV p, rfl, a, b, c, n, ts, h, g, p, rfl, T, hp, fun H1 t fs s1 ht hm h8 => ?_⟩
    refine ⟨t, rfl, ⟨_, .of ht⟩, fun D nD => ?_⟩
    have ntD : t ≠ D := ne_of_none ht nD
    refine lc_tup (xs := fs.map natV) (fun i H2 => Same H H2 ∧ H2 t = some (.tup (fs.map natV)) ∧ H2 D = some (.lst ((srcs h g p (fs.take i)).map natV))) ?_ ?_ ?_ ?_
    · exact ⟨s1.new nD, by rw [upd_ne ntD]; exact ht, by rw [upd_same]; rfl⟩
    · rintro i H2 _ ⟨_, h2, _⟩
      exact .of h2
    · rintro i x H2 hx ⟨s2, ht2, hD⟩
      obtain ⟨o, ho, rfl⟩ := nat_at hx
      have hin := (hm o).mp (List.mem_of_getElem? ho)
      have hon : o < h.length := (hin.2.sat (P := fun x => x < h.length) (by rw [T.hl]; exact hp) fun a b ⟨_, z⟩ => z.1)
      have T2 := T.same s2
      refine ⟨rfl, .ref b, rfl, natV o, rfl, b, _, o, .int (at_ h o), rfl, rfl, .of T2.hb, at_ht hon, .ref c, rfl, natV p, rfl, c, _, p, .int (at_ g p), rfl, rfl, .of T2.hc, at_ht (by rw [T.gl]; exact hp), rfl, _, rfl, ite2 (fun c1 => ?_) (fun c1 => ?_)⟩
      · have c1 : at_ h o = at_ g p := V.int.inj (of_decide_eq_true c1)
        refine ⟨_, rfl, _, hD, ?_, s2.put (s1.free nD), ?_, ?_⟩
        · rw [List.length_map]
          have := List.length_filter_le (fun x => decide (at_ h x = at_ g p)) (fs.take i)
          rw [List.length_take] at this
          exact small1000 (by unfold srcs; omega)
        · rw [upd_ne ntD]; exact ht2
        · rw [upd_same, srcs_take ho, if_pos c1, List.map_append]; rfl
      · have c1 : ¬ at_ h o = at_ g p := fun z => c1 (decide_eq_true (by rw [z]))
        refine ⟨s2, ht2, ?_⟩
        rw [hD, srcs_take ho, if_neg c1, List.append_nil]
    · rintro H2 ⟨s2, ht2, hD⟩
      rw [List.length_map, List.take_length] at hD
      refine ⟨D, _, rfl, .inl ⟨.of hD, fun r nr => ?_⟩⟩
      refine q _ r (srcs h g p fs) (s2.new nr) (by rw [upd_same]) (fun x => ?_)
      unfold srcs
      rw [List.mem_filter, decide_eq_true_eq, hm]
/-! ### is_reached -/
def spReach (K : PySem.W.Frag) : Sp := fun vs H Q _ => ∃ (a b c : Addr) (n : Nat) (ts : Ties) (h g : List Int), vs = [.ref a, .ref b, .ref c] ∧ Three H a b c n ts h g ∧
  ∀ (H' : Hp) (r : Bool), Same H H' → (r = true ↔ Comes ts h g) → Q (.bl r) H'
theorem ok_reach {f fE fS fP fO fH fT : Addr} {fd fdE fdS fdP fdO fdH fdT : FuncData} {k : Nat} (F : Fun K "is_reached" "is_reached" sIsReached f fd) (B : Blt mg) (DE : Dn K mg "everybody" sEverybody ["web"] fE fdE) (DS : Dn K mg "sources_of" sSourcesOf ["web", "heights", "goal", "person"] fS fdS)
    (DP : Dn K mg "piece_of" sPieceOf ["web", "heights", "goal", "person"] fP fdP) (DO : Dn K mg "open_at" sOpenAt ["heights", "goal", "height"] fO fdO) (DH : Dn K mg "hanging" sHanging ["web", "person", "lot"] fH fdH) (DT : Dn K mg "tied_to" sTiedTo ["web", "person"] fT fdT) :
    FnOk P w K mg base CX0 (k + 5) f fd ["web", "heights", "goal"] (spReach K) := by
  have GE : FnOk P w K mg base CX0 (k + 4) fE fdE ["web"] (spEvery K) := ok_every DE.F B
  have GS : FnOk P w K mg base CX0 (k + 4) fS fdS ["web", "heights", "goal", "person"] (spSrc K) := ok_src DS.F B DP DO DH DT
  refine F.ok scIsReached (fun vs H Q E h => ?_) (fun cdv A outer s H vs Q E hr h => ?_)
  · obtain ⟨a, b, c, n, ts, h, g, rfl, _⟩ := h
    rfl
  · obtain ⟨a, b, c, n, ts, h, g, rfl, T, q⟩ := h
    refine ⟨_, pss_one (ps_ret (pe_callB (cr_all rfl) (by rfl) B.all (by decide +kernel) (pa_cons
      (pe_lc (own := [("person", 3)]) (g := gName 3) (tt := tYes) (te := tOp (rNeET K) (tCall (spSrc K) [] E0 (tCons (tVar 0) (tCons (tVar 1) (tCons (tVar 2) (tCons (tVar 3) tNil))))) (tTup tNil)) rfl scIsReached.nd
        (pi_tup (pe_call GE hr (by rfl) DE.g DE.F.kp DE.b .nil pass0 (pa_cons (pv 0) pa_nil)))
        (blkOk_by (N := nIsReached) (sc := defScope sIsReached) (by decide +kernel))
        (fun _ _ _ _ _ => pg_name (i := 3) scIsReached.nd rfl (.inl rfl))
        (fun _ _ _ _ _ => pts_nil)
        (fun _ _ _ _ _ => pe_cmpR (op_neET hr.units) (pe_call GS hr (by rfl) DS.g DS.F.kp DS.b .nil pass0 (pa_cons (pv 0) (pa_cons (pv 1) (pa_cons (pv 2) (pa_cons (pv 3) pa_nil))))) (pe_tup pa_nil) (nomark _))) pa_nil))), ?_⟩
    obtain ⟨wb, hwa, _⟩ := id T.W.at'
    refine ⟨.ref a, rfl, a, n, _, rfl, hwa, T.W.small, fun H1 t s1 ht => ?_⟩
    refine ⟨t, rfl, ⟨_, .of ht⟩, fun D nD => ?_⟩
    have ntD : t ≠ D := ne_of_none ht nD
    refine lc_tup (xs := (List.range n).map natV) (fun i H2 => Same H H2 ∧ H2 t = some (.tup ((List.range n).map natV)) ∧ ∃ bs : List Bool, H2 D = some (.lst (bs.map V.bl)) ∧ bs.length = i ∧ ∀ p r, bs[p]? = some r → (r = true ↔ (Open h g (at_ g p) p ∧ ∃ q, Star (Hop ts h g (at_ g p)) p q ∧ at_ h q = at_ g p))) ?_ ?_ ?_ ?_
    · exact ⟨s1.new nD, by rw [upd_ne ntD]; exact ht, [], by rw [upd_same]; rfl, rfl, fun p r e => by simp at e⟩
    · rintro i H2 _ ⟨_, h2, _⟩
      exact .of h2
    · rintro i x H2 hx ⟨s2, ht2, bs, hD, hbl, hbs⟩
      obtain ⟨p, hp, rfl⟩ := nat_at hx
      obtain ⟨rfl, hpn⟩ := range_at hp
      refine ⟨rfl, ?_⟩
      refine ⟨.ref a, rfl, .ref b, rfl, .ref c, rfl, natV p, rfl, a, b, c, n, ts, h, g, p, rfl, T.same s2, hpn, fun H3 u fs s3 hu hm => ?_⟩
      refine ⟨Nat.zero_le _, fun e ne => ?_⟩
      have s3' := s3.new (o := .tup []) ne
      refine ⟨u, e, fs.map natV, rfl, rfl, .of (by rw [upd_ne (ne_of_none hu ne)]; exact hu), .of upd_same, dat_nats _, bs.map V.bl, s3' _ _ hD, ?_, (s2.trans s3').put (s1.free nD), ?_, bs ++ [!(fs.map natV).isEmpty], ?_, by simp [hbl], fun r v hv => ?_⟩
      · rw [List.length_map, hbl]; have := T.W.small; exact small1000 (by omega)
      · rw [upd_ne ntD]; exact s3' _ _ ht2
      · rw [upd_same, List.map_append]; rfl
      · by_cases er : r < p
        · rw [List.getElem?_append_left (by omega)] at hv
          exact hbs r v hv
        · have er' : r = p := by
            have := (List.getElem?_eq_some_iff.mp hv).1
            simp [hbl] at this
            omega
          subst er'
          rw [← hbl, List.getElem?_append_right (Nat.le_refl _), Nat.sub_self] at hv
          have hv : (!(fs.map natV).isEmpty) = v := Option.some.inj hv
          rw [← hv, isEmpty_map]
          constructor
          · intro z
            cases fs with
            | nil => simp at z
            | cons x fs =>
              obtain ⟨⟨h1, h2⟩, h3⟩ := (hm x).mp List.mem_cons_self
              exact ⟨h1, x, h2, h3⟩
          · rintro ⟨h1, x, h2, h3⟩
            have := (hm x).mpr ⟨⟨h1, h2⟩, h3⟩
            cases fs with
            | nil => cases this
            | cons _ _ => rfl
    · rintro H2 ⟨s2, ht2, bs, hD, hbl, hbs⟩
      rw [List.length_map, List.length_range] at hbl
      refine ⟨D, bs, rfl, .of hD, ?_⟩
      refine q _ _ s2 ?_
      rw [← crit_iff (by rw [T.hl]; exact T.W.below) (by rw [T.gl, T.hl]), List.all_eq_true]
      constructor
      · intro z p hp
        have hp' : p < bs.length := by rw [hbl, ← T.hl]; exact hp
        exact (hbs p bs[p] (List.getElem?_eq_getElem hp')).mp (z _ (List.getElem_mem hp'))
      · intro z r hr
        obtain ⟨p, hp, e⟩ := List.getElem_of_mem hr
        have := (hbs p bs[p] (List.getElem?_eq_getElem hp)).mpr (z p (by rw [T.hl, ← hbl]; exact hp))
        rw [e] at this; exact this
end
end Ks
end
section
set_option maxRecDepth 100000
namespace Ks
open PySem PySem.Spec PyProof.Rows L2
open PyProof.Rows.G (tupKeyC tupKindC isTupObj)
/-! ### {t: v}, t a tuple -/
def tDispT (tk tv : TE) : TE := fun σ H Q => ∀ p, H p = none → tk σ (upd H p (.dT [])) fun x H1 => tv σ H1 fun y H2 => H2 p = some (.dT []) ∧ ∃ (b : Addr) (k : List Key), x = .ref b ∧ H2 b = some (.tup (k.map kV)) ∧ Q (.ref p) (upd H2 p (.dT [(k, y)]))
theorem pe_dispT {X : Cx} {ke ve : Expr} {tk tv : TE} {pos : Pos} (hu : X.A.units + 1 < cLine) (hk : PE X ke tk) (hv : PE X ve tv) : PE X (.Dict [some ke] [ve] pos) (tDispT tk tv) := by
  refine ⟨fun pins s σ H Q I q => ?_⟩
  have fresh0 : H s.heap.objs.size = none := I.hok.fresh (Nat.le_refl _)
  have I1 := I.laid (a := s.heap.objs.size) (o := .dT []) (h' := s.heap.push { cls := .type "dict", data := .dict #[] }) (t' := s.toks) (fun _ _ q => Heap.get?_push_of_some _ q) (Nat.le_refl _) (dt_empty s.heap I.big)
  have hshape := zip_pairTrees [some ke] [ve] X.env pos rfl rfl
  have hne : pairTrees [some ke] [ve] X.env pos ≠ [] := fun z => by cases z
  have hlen : (pairTrees [some ke] [ve] X.env pos).length ≤ 15 := by
    show 1 ≤ 15
    decide
  rw [arm_eval_Dict, hshape, dictDisplay_pairs (pairTrees [some ke] [ve] X.env pos) hne (Nat.lt_of_le_of_lt hlen (by decide))]
  refine wpAny_bind (wpAny_standAt (wpAny_bind (wpAny_subDictH (knd := tupleKind (mixKind X.prog X.w)) (show X.A.units < cLine by omega) hlen ?_)))
  refine pairTrees_cons_walk (thn (hk.run pins _ σ _ _ I1 (q _ fresh0)) fun u s1 ⟨x, H1, I2, rx, q1⟩ => thn (hv.run pins s1 σ H1 _ I2 q1) fun w2 s2 ⟨y, H2, I3, ry, e, b, k, ex, eb, q2⟩ => pairTrees_nil_walk ?_)
  subst ex
  obtain rfl : u = Value.ref b := rx
  obtain ⟨z, hd, xs0, r0, dd⟩ := dt_of I3.hok e
  cases r0
  refine ⟨[(k, b, w2)], ⟨rfl, rfl, key_of I3.hok eb, trivial⟩, dd, fun h' tk dd' hs => wpAny_pure ⟨.ref s.heap.objs.size, _, ?_, rfl, q2⟩⟩
  obtain ⟨qo, es, ep, hq, h2, h3, h4, _, h5⟩ := dd'
  refine d_write (t' := tk) I3 (by rw [e]; exact True.intro) hs ⟨qo, hq⟩ ⟨by rw [sizeLine_eq]; simp, hd, [(k, b, w2)], .cons ⟨rfl, ?_, ry⟩ .nil, qo, es, ep, hq, h2, h3, h4, h5⟩
  show upd H2 s.heap.objs.size (.dT [(k, y)]) b = some (.tup (k.map kV))
  rw [upd_ne (ne_of eb e (fun z => nomatch z))]
  exact eb
/-! ### the order of tuples of ints -/
def Asc (a b : List Int) : Prop := lexLt itemOrd (b.map Sum.inl) (a.map Sum.inl) = false
theorem inl_inj {a b : List Int} (h : a.map (Sum.inl : Int → Int ⊕ List Nat) = b.map Sum.inl) : a = b := by
  have := congrArg (List.map fun x : Int ⊕ List Nat => x.elim id fun _ => 0) h
  rw [List.map_map, List.map_map] at this
  have e : ((fun x : Int ⊕ List Nat => x.elim id fun _ => (0 : Int)) ∘ Sum.inl) = id := rfl
  rwa [e, List.map_id, List.map_id] at this
theorem Asc.antisymm {a b : List Int} (h1 : Asc a b) (h2 : Asc b a) : a = b := inl_inj ((listOrd itemOrd).total _ _ h2 h1)

/-! ### sorted of tuples of ints -/
def refA : Value → Addr | .ref a => a | _ => 0
/-- the ints of the tuple at a -/
def intV : V → Int
  | .int i => i
  | _ => 0
def keyA (H : Hp) (a : Addr) : List Int := match H a with
  | some (.tup xs) => xs.map intV
  | _ => []
theorem keyA_of {H : Hp} {a : Addr} {k : List Int} (h : HtAt H a k) : keyA H a = k := by
  have h : H a = some (.tup (k.map V.int)) := h
  unfold keyA
  rw [h]
  show (k.map V.int).map _ = k
  rw [List.map_map]
  conv => rhs; rw [← List.map_id k]
  exact List.map_congr_left fun i _ => rfl
theorem keys_of {H : Hp} : ∀ {qs : List Addr} {ks : List (List Int)}, Paired (HtAt H) qs ks → ks = qs.map (keyA H)
  | _, _, .nil => rfl
  | _, _, .cons r t => by rw [List.map_cons, keyA_of r, ← keys_of t]
theorem paired_mem {α β : Type} {R : α → β → Prop} : ∀ {l₁ : List α} {l₂ : List β} {x : α}, Paired R l₁ l₂ → x ∈ l₁ → ∃ y, y ∈ l₂ ∧ R x y
  | _, _, _, .nil, h => by cases h
  | _, _, x, .cons r t, h => by
    cases List.mem_cons.mp h with
    | inl e => exact ⟨_, List.mem_cons_self, e ▸ r⟩
    | inr e =>
      obtain ⟨y, h1, h2⟩ := paired_mem t e
      exact ⟨y, List.mem_cons_of_mem _ h1, h2⟩
theorem paired_of {H : Hp} : ∀ {qs : List Addr}, (∀ q ∈ qs, ∃ k, HtAt H q k) → Paired (HtAt H) qs (qs.map (keyA H))
  | [], _ => .nil
  | q :: qs, h => by
    obtain ⟨k, hk⟩ := h q List.mem_cons_self
    refine .cons ?_ (paired_of fun x hx => h x (List.mem_cons_of_mem _ hx))
    rw [keyA_of hk]
    exact hk
theorem paired_memR {α β : Type} {R : α → β → Prop} : ∀ {l₁ : List α} {l₂ : List β} {y : β}, Paired R l₁ l₂ → y ∈ l₂ → ∃ x, x ∈ l₁ ∧ R x y
  | _, _, _, .nil, h => by cases h
  | _, _, y, .cons r t, h => by
    cases List.mem_cons.mp h with
    | inl e => exact ⟨_, List.mem_cons_self, e ▸ r⟩
    | inr e =>
      obtain ⟨x, h1, h2⟩ := paired_memR t e
      exact ⟨x, List.mem_cons_of_mem _ h1, h2⟩
abbrev noTx : Nat → Bool := fun _ => false
theorem tupItems_ints : ∀ {us : List Value} {k : List Int} (i : Nat), Vals (k.map V.int) us → tupItems noTx i us = some (k.map Sum.inl)
  | _, [], _, .nil => rfl
  | _, n :: k, i, .cons r t => by
    obtain ⟨tk, rfl⟩ := r
    show (if noTx i = true then none else (tupItems noTx (i + 1) _).map (Sum.inl n :: ·)) = _
    rw [if_neg (by simp), tupItems_ints (i + 1) t]
    rfl
section
variable {X : Cx} {pins : List (Addr × Obj)} {σ : L2.St} {H : Hp} {s : Shared}
theorem ht_raw (I : L2.Inv X pins σ H s) {q : Addr} {k : List Int} (h : HtAt H q k) : ∃ (o : Obj) (us : List Value) (n : Nat), s.heap.get? q = some o ∧ o.cls = .type "tuple" ∧ o.data = .seq us.toArray n ∧ Vals (k.map V.int) us := by
  obtain ⟨_, its, rv, o, ho, hc, n, hd⟩ := I.hok q _ h
  exact ⟨o, its, n, ho, hc, hd, rv⟩
theorem ht_key (I : L2.Inv X pins σ H s) {q : Addr} {k : List Int} (h : HtAt H q k) : tupKeyC s.heap noTx (.ref q) = some (k.map Sum.inl) := by
  obtain ⟨o, us, n, ho, hc, hd, rv⟩ := ht_raw I h
  unfold tupKeyC
  have h1 : isTupObj s.heap (.ref q) = true := by
    unfold isTupObj
    simp only [ho, hc]
    rfl
  rw [if_pos h1]
  unfold tupKey
  simp only [ho, hd]
  exact tupItems_ints 0 rv
theorem ht_tup (I : L2.Inv X pins σ H s) {q : Addr} {k : List Int} (h : HtAt H q k) (hne : k ≠ []) : ∃ f, TupOf s.heap noTx (.ref q) f := by
  obtain ⟨o, us, n, ho, hc, hd, rv⟩ := ht_raw I h
  cases k with
  | nil => exact absurd rfl hne
  | cons i k =>
    cases rv with
    | cons r t =>
      obtain ⟨tk, rfl⟩ := r
      exact ⟨_, q, o, _, n, rfl, ho, hc, hd, by simp, fun _ => ⟨i, tk, rfl⟩, fun z => by simp at z⟩
theorem ht_tups (I : L2.Inv X pins σ H s) : ∀ {qs : List Addr}, (∀ q ∈ qs, ∃ k, HtAt H q k ∧ k ≠ []) → ∃ fs, TupsOf s.heap noTx (qs.map Value.ref) fs
  | [], _ => ⟨[], .nil⟩
  | q :: qs, h => by
    obtain ⟨k, hk, hne⟩ := h q List.mem_cons_self
    obtain ⟨f, hf⟩ := ht_tup I hk hne
    obtain ⟨fs, hfs⟩ := ht_tups I fun x hx => h x (List.mem_cons_of_mem _ hx)
    exact ⟨f :: fs, .cons hf hfs⟩
/-- what comes of the sort, over the raw list -/
theorem sorted_out (I : L2.Inv X pins σ H s) {qs : List Addr} {ks : List (List Int)} (hp : Paired (HtAt H) qs ks) {arr : Array Keyed} (h1 : arr.Perm (pairsOf (qs.map Value.ref))) (h2 : SortedToK (tupKindC s.heap noTx) arr (pairsOf (qs.map Value.ref)).size) :
    ∃ (qs' : List Addr) (ks' : List (List Int)), (arr.map (·.2)).toList = qs'.map Value.ref ∧ qs'.Perm qs ∧ ks'.Perm ks ∧ Paired (HtAt H) qs' ks' ∧ ks'.Pairwise Asc := by
  have pl : arr.toList.Perm ((qs.map Value.ref).zip (qs.map Value.ref)) := by
    rw [← pairsOf_toList]
    exact Array.perm_iff_toList_perm.mp h1
  have pm : (arr.toList.map (·.2)).Perm (qs.map Value.ref) := by
    have := pl.map (·.2)
    rwa [List.map_snd_zip (by simp)] at this
  have hal : ∀ p ∈ arr.toList, ∃ q, q ∈ qs ∧ p = (Value.ref q, Value.ref q) := fun p hp' => by
    obtain ⟨e1, e2⟩ := mem_zip_self (pl.mem_iff.mp hp')
    obtain ⟨q, hq, e⟩ := List.mem_map.mp e2
    refine ⟨q, hq, ?_⟩
    have : p = (p.1, p.2) := rfl
    rw [this, ← e1, ← e]
  have eout : arr.toList.map (·.2) = (arr.toList.map fun p => refA p.2).map Value.ref := by
    rw [List.map_map]
    refine List.map_congr_left fun p hp' => ?_
    obtain ⟨q, _, e⟩ := hal p hp'
    rw [e]; rfl
  have pq : (arr.toList.map fun p => refA p.2).Perm qs := by
    have := pm.map refA
    rw [List.map_map, List.map_map] at this
    have e : (refA ∘ Value.ref) = id := rfl
    rw [e, List.map_id] at this
    exact this
  have hqs : ∀ q ∈ (arr.toList.map fun p => refA p.2), ∃ k, HtAt H q k := fun q hq => by
    obtain ⟨k, _, hk⟩ := paired_mem hp (pq.mem_iff.mp hq)
    exact ⟨k, hk⟩
  refine ⟨arr.toList.map fun p => refA p.2, (arr.toList.map fun p => refA p.2).map (keyA H), by rw [Array.toList_map, eout], pq, ?_, paired_of hqs, ?_⟩
  · rw [keys_of hp]; exact pq.map _
  · rw [List.map_map, List.pairwise_iff_getElem]
    intro i j hi hj hij
    rw [List.length_map] at hi hj
    have hsz : (pairsOf (qs.map Value.ref)).size = arr.size := by
      have := pl.length_eq
      rw [← pairsOf_toList] at this
      simpa using this.symm
    have hs := h2 i j (Nat.le_of_lt hij) (by rw [hsz]; simpa using hj)
    have kk : ∀ (m : Nat) (hm : m < arr.toList.length), KK (tupKindC s.heap noTx) arr m = (keyA H (refA (arr.toList[m]).2)).map Sum.inl := fun m hm => by
      unfold KK
      have e1 : arr[m]? = some arr.toList[m] := by rw [← Array.getElem?_toList]; exact List.getElem?_eq_getElem hm
      rw [e1]
      obtain ⟨q, hq, e⟩ := hal _ (List.getElem_mem hm)
      obtain ⟨k, _, hk⟩ := paired_mem hp hq
      rw [e]
      show (tupKeyC s.heap noTx (.ref q)).getD _ = _
      rw [ht_key I hk]
      show k.map Sum.inl = (keyA H q).map Sum.inl
      rw [keyA_of hk]
    have hs : lexLt itemOrd (KK (tupKindC s.heap noTx) arr j) (KK (tupKindC s.heap noTx) arr i) = false := hs
    rw [kk i hi, kk j hj] at hs
    rw [List.getElem_map, List.getElem_map]
    exact hs
end
def rSortHt (K : PySem.W.Frag) : List V → Hp → VK → Prop := fun vs H Q => ∃ (a : Addr) (qs : List Addr) (ks : List (List Int)), vs = [.ref a] ∧ SqL K H a (qs.map V.ref) ∧ Paired (HtAt H) qs ks ∧ (∀ k ∈ ks, k ≠ []) ∧
  ∀ (p : Addr) (qs' : List Addr) (ks' : List (List Int)), H p = none → qs'.Perm qs → ks'.Perm ks → Paired (HtAt H) qs' ks' → ks'.Pairwise Asc → Q (.ref p) (upd H p (.lst (qs'.map V.ref)))
theorem vals_refs' : ∀ bs : List Addr, Vals (bs.map V.ref) (bs.map Value.ref)
  | [] => .nil
  | _ :: r => .cons rfl (vals_refs' r)
theorem cr_sortHt {X : Cx} : CallR X (.builtin "sorted") (rSortHt X.K) := by
  intro pins s σ H vs us Q I r h
  obtain ⟨a, qs, ks, rfl, hs, hp, hne, q⟩ := h
  obtain ⟨its, rv, hl, hz⟩ := I.list hs
  rw [Vals.ref1 r]
  have ei : its = qs.map Value.ref := refs_at rv
  subst ei
  have hex : ∀ q ∈ qs, ∃ k, HtAt H q k ∧ k ≠ [] := fun q hq => by
    obtain ⟨k, hk, h⟩ := paired_mem hp hq
    exact ⟨k, h, hne k hk⟩
  obtain ⟨fs, hfs⟩ := ht_tups I hex
  refine PyProof.Rows.G.sorted_tups (shape := noTx) hl.isList hfs (fun v hv => ?_) (by rw [List.length_map] at hz ⊢; exact hz) fun st h1 h2 _ => ?_
  · obtain ⟨q, hq, rfl⟩ := List.mem_map.mp hv
    obtain ⟨k, hk, _⟩ := hex q hq
    exact ⟨_, ht_key I hk⟩
  · obtain ⟨qs', ks', e1, p1, p2, p3, p4⟩ := sorted_out I hp h1 h2
    obtain ⟨ep, he'⟩ := PyProof.Rows.sortedAll_at s.heap (qs.map Value.ref) ((arrOf st).map (·.2))
    have hlen : (qs'.map V.ref).length ≤ sizeLine := by
      rw [List.length_map, p1.length_eq]
      rw [List.length_map] at hz
      exact hz
    refine ⟨.ref _, upd H (s.heap.objs.size + 1) (.lst (qs'.map V.ref)), I.laid (t' := s.toks) (fun _ _ => PyProof.Rows.sortedAll_old) (Nat.le_succ _) ⟨hlen, qs'.map Value.ref, ep, vals_refs' _, ?_⟩, rfl, q _ _ _ (I.hok.fresh (Nat.le_succ _)) p1 p2 p3 p4⟩
    rw [← e1, Array.toArray_toList]
    exact he'
end Ks
end
section
set_option maxRecDepth 100000
namespace Ks
open PySem PySem.Spec PyProof.Rows L2
open PyProof.Rows.G (tupKeyC tupKindC isTupObj)
theorem kV_inl (k : List Int) : (k.map (Sum.inl : Int → Key)).map kV = k.map V.int := by
  rw [List.map_map]; rfl
theorem keys_addr {H : Hp} : ∀ {kvs : List (List Key × V)} {bs : List Addr} {ks : List (List Int)}, IsKeys H kvs bs → kvs.map (·.1) = ks.map (fun k => k.map Sum.inl) → Paired (HtAt H) bs ks
  | _, _, [], .nil, _ => .nil
  | _, _, _ :: _, .nil, e => nomatch e
  | _, _, [], .cons _ _, e => nomatch e
  | _, _, k :: ks, .cons r t, e => by
    have e1 : _ = k.map (Sum.inl : Int → Key) := (List.cons.inj e).1
    dsimp only at e1
    refine .cons ?_ (keys_addr t (List.cons.inj e).2)
    have r := r
    rw [e1, kV_inl] at r
    exact r
/-- sorted(d): the keys of the dict d, heights, in a new list that ascends -/
def rSortHtD (K : PySem.W.Frag) : List V → Hp → VK → Prop := fun vs H Q => ∃ (d : Addr) (kvs : List (List Key × V)) (ks : List (List Int)), vs = [.ref d] ∧ Rd H d (.dT kvs) ∧ kvs.map (·.1) = ks.map (fun k => k.map Sum.inl) ∧ (∀ k ∈ ks, k ≠ []) ∧
  ∀ (p : Addr) (qs' : List Addr) (ks' : List (List Int)), H p = none → ks'.Perm ks → Paired (HtAt H) qs' ks' → ks'.Pairwise Asc → Q (.ref p) (upd H p (.lst (qs'.map V.ref)))
theorem cr_sortHtD {X : Cx} (calm : X.calm = true) : CallR X (.builtin "sorted") (rSortHtD X.K) := by
  rintro pins s σ H xs us Q I rel ⟨d, kvs, ks, rfl, hd, hks, hne, q⟩
  obtain ⟨_, rfl, rv⟩ := rel.one
  cases rv
  obtain ⟨hz, hsys, trip, hpair, o, es, ep, ho, hex, hdata, hent, _⟩ := (hd.ok I.hok : ObjOk X.prog X.w H s.heap d (.dT kvs))
  have few : es.size ≤ sizeLine := by
    rw [size_of_entries hent, ← Paired.length hpair]; exact hz
  have hbs := keys_addr (isKeys_of hpair) hks
  refine Calls.call_function_entry kind_sorted plain_sorted entry_sorted (args_sorted1 _) ?_
  unfold Builtin.«sorted»
  -- the keys are gathered
  refine wpAny_bind (m := checkCount "sorted" _ _ _) (wpAny_pure (wpAny_bind (PySem.W.kdu_collect (A := X.A.in1) (kdl_raw hsys hex hdata) (I.ok.hd calm) ho few fun h1 t1 got kp hg => ?_)))
  rw [gathered hent hg]
  generalize (trip.map fun x => x.2.1) = qs at hbs
  have hql : qs.length ≤ sizeLine := by
    have := congrArg List.length hks
    rw [List.length_map, List.length_map] at this
    rw [Paired.length hbs, ← this]; exact hz
  have J : L2.Inv X pins σ H { s with heap := h1, toks := t1 } := I.kept kp
  -- a new list of them is made
  refine wpAny_bind (wpAny_newList ?_ (by rw [List.length_map]; exact hql))
  have kp1 : ∀ b u, h1.get? b = some u → (h1.push (seqObj "list" (qs.map Value.ref).toArray 0)).get? b = some u := fun _ _ e => Heap.get?_push_of_some _ e
  have atL : (h1.push (seqObj "list" (qs.map Value.ref).toArray 0)).get? h1.objs.size = some (seqObj "list" (qs.map Value.ref).toArray 0) := Heap.get?_push_size _ rfl
  have J1 : L2.Inv X pins σ H { s with heap := h1.push (seqObj "list" (qs.map Value.ref).toArray 0), toks := t1 } := J.kept kp1
  have full : ∀ b ∈ qs, ∃ k, HtAt H b k ∧ k ≠ [] := fun b hb => (paired_mem hbs hb).elim fun k z => ⟨k, z.2, hne k z.1⟩
  obtain ⟨fs, hfs⟩ := ht_tups J1 full
  -- and sorted in its place
  show wpAny (model X.prog X.w) _ _ _ _ { s with heap := h1.push (seqObj "list" (qs.map Value.ref).toArray 0), toks := t1 }
  refine wpAny_bind (wpAny_holding (wpAny_call_entry slot_list_sort ⟨_, atL, rfl⟩ entry_list_sort (G.list_sort_tups (shape := noTx) (s := { s with heap := h1.push (seqObj "list" (qs.map Value.ref).toArray 0), toks := t1 }) atL hfs ?keys (by rw [List.length_map]; exact hql) ?out) (args_list_sort _)))
  case keys =>
    intro v hv
    obtain ⟨b, hb, rfl⟩ := List.mem_map.mp hv
    obtain ⟨k, hk, _⟩ := full b hb
    exact ⟨_, ht_key J1 hk⟩
  case out =>
    intro st p1 p2 _
    refine ⟨_, rfl, ?_⟩
    obtain ⟨qs', ks', e1, r1, r2, r3, r4⟩ := sorted_out J1 hbs p1 p2
    obtain ⟨ep', at'⟩ := sortedHeap_at (vs := qs.map Value.ref) (out := (arrOf st).map (·.2)) atL
    have kp2 : ∀ b u, h1.get? b = some u → (sortedHeap (h1.push (seqObj "list" (qs.map Value.ref).toArray 0)) h1.objs.size (qs.map Value.ref) ((arrOf st).map (·.2))).get? b = some u := fun b u e => by
      have lt := Heap.lt_size e
      rw [sortedHeap_old (Nat.ne_of_lt lt) (by rw [size_push']; exact Nat.lt_succ_of_lt lt)]
      exact kp1 b u e
    have ok : ObjOk X.prog X.w (upd H h1.objs.size (.lst (qs'.map V.ref))) (sortedHeap (h1.push (seqObj "list" (qs.map Value.ref).toArray 0)) h1.objs.size (qs.map Value.ref) ((arrOf st).map (·.2))) h1.objs.size (.lst (qs'.map V.ref)) :=
      ⟨by rw [List.length_map, r1.length_eq]; exact hql, qs'.map Value.ref, ep', vals_refs' _, by rw [← e1, Array.toArray_toList]; exact at'⟩
    exact wpAny_pure ⟨_, rfl, .ref h1.objs.size, _, J.laid (t' := t1) kp2 (Nat.le_refl _) ok, rfl, q _ _ _ (J.hok.fresh (Nat.le_refl _)) r2 r3 r4⟩
end Ks
end
section
set_option maxRecDepth 100000
set_option maxHeartbeats 1000000
namespace Ks
open PySem PySem.Spec PyProof.Rows L2 LamX
open PyProof.Rows.G (tupKeyC tupKindC isTupObj)
/-! ### sorted(best, key=lambda told: best[told]) -/
abbrev lamPs (p : Pos) : Arguments := { posonlyargs := [], args := [{ arg := "told", annotation := none, pos := p }], vararg := none, kwonlyargs := [], kw_defaults := [], kwarg := none, defaults := [] }
abbrev lamBd (p1 p2 p3 : Pos) : Expr := .Subscript (.Name "best" p1) (.Name "told" p2) p3
abbrev lamSc : Scope := { kind := .function, names := [(PySem.Str.ofString "told", .local), (PySem.Str.ofString "best", .free)], isGenerator := false, isCoroutine := false, more := [] }
theorem lam_turn {prog : Program} {w : World} {A : Around} {h₀ : Heap} {L : Addr} {m : Str → Option Value} {need : List (Addr × Obj)} {s : Shared} {f c' cb d b : Addr} {qual : Str} {pm ctv : Value} {cl : List (Str × Addr)} {p0 p1 p2 p3 : Pos}
    {H : Hp} {kvs : List (List Key × V)} {k : List Key} {i : Int}
    (hroom : A.depth < recursionLimit) (hu : A.units + 10 < cLine) (F : Fr h₀ L s.heap m) (N : News h₀ L s.heap need) (hlim : s.heap.NoLimit)
    (ho : s.heap.get? f = some (PySem.W.kla_obj "<lambda>" qual (lamPs p0) (lamBd p1 p2 p3) lamSc cl pm c' ctv)) (hcd : s.heap.CodeRec (.ref c') qual)
    (hcl : cl.lookup ("best" : Str) = some cb) (hcell : s.heap.IsCell cb (some (.ref d))) (hok : HOk prog w H s.heap) (hd : H d = some (.dT kvs)) (hb : H b = some (.tup (k.map kV))) (hv : valV kvs k = some (.int i)) :
    wpAny (model prog w) A (call (.ref f) [.ref b]) (KskEnd h₀ L m need i s) (fun _ _ => False) s := by
  refine wpAny_call (codeAny_mono (R := fun r s' => ∃ v, r = .ok (.ret v) ∧ KskEnd h₀ L m need i s v s') ?_ fun r s' hq => ?_)
  · refine PySem.W.kla_callFunE hroom ho rfl rfl rfl rfl hcd ?_
    have hbind : bindArgs (PySem.W.kla_fn "<lambda>" qual (lamPs p0) (lamBd p1 p2 p3) lamSc cl pm (.ref c') ctv) ⟨[.ref b], []⟩ = pure [(("told" : Str), Value.ref b)] := by rfl
    rw [hbind]
    refine wpAny_pure (wpAny_newFunctionEnv (fun y hy => ?_) (fun y hy => ?_) (fun h₁ hns hsb => ⟨hlim.fresh _ hsb, ?_⟩) rfl)
    · have hy : y ∈ lamSc.names := hy
      have h0 : ∀ y ∈ lamSc.names, y.2 ≠ NameKind.cell := by decide +kernel
      exact h0 y hy
    · obtain rfl : y = (("told" : Str), Value.ref b) := List.mem_singleton.mp hy
      rfl
    show codeAny _ _ (.expr (lamBd p1 p2 p3) (PySem.W.envX qual lamSc s.heap.objs.size f (.ref c') cl)) _ _
    have hk₁ : ∀ b u, s.heap.get? b = some u → h₁.get? b = some u := fun b u e => hsb.extBut b u (Nat.ne_of_lt (Heap.lt_size e)) (Heap.get?_push_of_some _ e)
    have hok₁ : HOk prog w H h₁ := hok.kept hk₁
    obtain ⟨z, hds, xs, rel, dd⟩ := dt_of hok₁ hd
    obtain ⟨w', hw, rw'⟩ := RelO.some_of (v := .int i) (o := (atKey xs k).map (·.2)) (by rw [← hv]; exact rel.val k)
    obtain ⟨en, hen, hen2⟩ := Option.map_eq_some_iff.mp hw
    obtain ⟨t, rfl⟩ := rw'
    refine PySem.W.kla_codeExpr (wpAny_mono (E := fun _ _ => False) ?_ (fun v s' hq => hq) fun _ _ z => z.elim)
    refine subD_of PySem.F.slot_dict_getitem.lookup (fun _ _ => rfl) ?_
    obtain ⟨oc, hoc, hdc⟩ := hcell
    have hcell₁ : h₁.IsCell cb (some (.ref d)) := ⟨oc, hk₁ _ _ hoc, hdc⟩
    refine wpAny_Name (wpAny_loadName_free (c := cb) (v := .ref d) rfl rfl hcl hcell₁ ?_ (by decide)) (by decide)
    refine wpAny_Name (wpAny_loadName_local (m := fun y => ([(("told" : Str), Value.ref b)] : List (Str × Value)).reverse.lookup y) rfl rfl hns rfl ?_) (by decide)
    refine ⟨dd.typeIs, wpAny_getItem_heap (tupleKind_room_in1 (show A.units + 3 + 1 < cLine by omega)) (key_of hok₁ hb) dd hen ?_⟩
    rw [hen2]
    refine ⟨_, rfl, h₁, _, t, rfl, rfl, ⟨?_, fun b o e => hk₁ b o (F.keep b o e), F.above⟩, fun q hq => ⟨hk₁ _ _ (N q hq).1, (N q hq).2⟩⟩
    obtain ⟨oL, es, ep, hoL, r⟩ := F.ns
    exact ⟨oL, es, ep, hk₁ _ _ hoL, r⟩
  · obtain ⟨v, rfl, hq⟩ := hq
    exact hq

def tSortLam (T : List (Addr × Str)) (i : Nat) : TE := fun σ H Q => Tabs T H ∧ ∃ (d : Addr) (kvs : List (List Key × V)) (ks : List (List Int)) (g : List Int → Int), σ[i]? = some (some (.ref d)) ∧ H d = some (.dT kvs) ∧ kvs.map (·.1) = ks.map (fun k => k.map Sum.inl) ∧
  (∀ k ∈ ks, valV kvs (k.map Sum.inl) = some (.int (g k))) ∧ ks.length < 64 ∧
  ∀ (H1 : Hp) (p : Addr) (qs' : List Addr) (ks' : List (List Int)), ExtN H H1 → Tabs T H1 → H1 p = none → ks'.Perm ks → Paired (HtAt H1) qs' ks' → Q (.ref p) (upd H1 p (.lst (qs'.map V.ref)))
theorem pe_sortedLam {X : Cx} {T : List (Addr × Str)} {c P : Addr} {i : Nat} {ps pb p0 p1 p2 p3 lpos kpos pos : Pos} (hc : X.calm = true) (hg : Gl X "sorted") (hm : X.mg "sorted" = none) (hN : X.N[i]? = some ("best" : Str)) (hv : X.env.scope.names.lookup ("best" : Str) = some NameKind.cell)
    (TB : TabB X.base X.mg c P) (hcode : X.env.code = .ref c) (hmT : (P, X.env.qual ++ "<lambda>") ∈ T) (huT : ∀ p ∈ T, p.1 = P → p.2 = X.env.qual ++ "<lambda>") (hr : Room 1 X.A)
    (hd0 : defaultsOf (lamPs p0) X.env = ([], []) := by rfl) :
    PE X (.Call (.Name "sorted" ps) [.Name "best" pb] [⟨some "key", .Lambda (lamPs p0) (lamBd p1 p2 p3) lamSc lpos, kpos⟩] pos) (tSortLam T i) := by
  refine ⟨fun pins s σ H Q I h => ?_⟩
  obtain ⟨hT, d, kvs, ks, g, hσ, hd, hks, hval, h64, q⟩ := h
  have hvis : Vis X.env.scope "best" := .inr (.inl hv)
  refine wpAny_Call_Name_kw (ld_blt I hg hm (by decide +kernel : bootBuiltins "sorted" = some (.builtin "sorted")) ?_ (by decide) (by decide))
  refine PyProof.Rows.callWith_kw (thn ((pa_cons (pe_var (pos := pb) hN hvis) pa_nil).run pos pins s σ H (fun vs H1 => vs = [V.ref d] ∧ H1 = H) I ⟨.ref d, hσ, rfl, rfl⟩) fun us s1 h1 => ?_)
  obtain ⟨vs, H0, I0, r0, rfl, rfl⟩ := h1
  obtain rfl := Vals.ref1 r0
  show wpAny _ _ (evalAll ((do let v ← eval (.Lambda (lamPs p0) (lamBd p1 p2 p3) lamSc lpos) X.env; standAt pos; pure v) :: [])) _ _ s1
  refine wpAny_evalAll_cons (wpAny_bind (lam_make2 (T := T) I0 TB hcode hmT huT hT hd0 (fun y hy e => ?_) fun f c' pm ctv H1 s' I1 eN T1 hf hfn hfr hco => wpAny_bind (wpAny_standAt (wpAny_pure (wpAny_evalAll_nil ?_)))))
  · have hy : y ∈ [(PySem.Str.ofString "told", NameKind.local), (PySem.Str.ofString "best", NameKind.free)] := hy
    rcases List.mem_cons.mp hy with z | z
    · rw [z] at e; cases e
    · rw [List.mem_singleton.mp z]
      exact I0.ok.has _ (.inl hv)
  show wpAny _ _ (call (.builtin "sorted") [.ref d] [(Str.ofString "key", .ref f)]) _ _ s'
  -- what is known at s'
  have hd1 : H1 d = some (.dT kvs) := eN _ _ hd (fun ps z => by cases z)
  obtain ⟨m, hns, hlk⟩ := id I1.loc
  obtain ⟨cb, hcb, hcell⟩ : ∃ cb, X.env.cells.lookup ("best" : Str) = some cb ∧ s'.heap.IsCell cb (some (.ref d)) := by
    obtain ⟨u, ru, l⟩ := hlk i "best" (.ref d) hN hσ hvis
    obtain rfl : u = Value.ref d := ru
    rcases l with ⟨hk, _⟩ | ⟨_, cb, h1, h2⟩
    · have hk : X.env.scope.names.lookup ("best" : Str) = some NameKind.local := hk
      rw [hv] at hk; cases hk
    · exact ⟨cb, h1, h2⟩
  have hcl : (cloFrom X.env.cells lamSc.names []).lookup ("best" : Str) = some cb := by
    show ([((PySem.Str.ofString "best" : Str), (X.env.cells.lookup (PySem.Str.ofString "best")).getD 0)] : List (Str × Addr)).lookup ("best" : Str) = some cb
    have e : X.env.cells.lookup (PySem.Str.ofString "best") = some cb := hcb
    rw [e]
    rfl
  obtain ⟨⟨oc, cvs, ct, hoc, hdc, hvc⟩, _, _⟩ := I1.hok c' _ hco
  have nL : ∀ {b : Addr} {o : HO}, H1 b = some o → b ≠ X.env.locals := fun {b o} e z => by rw [z, I1.free] at e; cases e
  have nfL : f ≠ X.env.locals := fun z => by
    obtain ⟨oL, es, ep, hoL, hdL, _⟩ := hns
    rw [← z, hf] at hoL
    cases hoL
    cases hdL
  obtain ⟨z, hs, xs, pr, o, es, ep, ho, hx, hdt, he, hn⟩ := (show ObjOk X.prog X.w H1 s'.heap d (.dT kvs) from I1.hok d _ hd1)
  have les : es.size = ks.length := by
    have := congrArg List.length hks
    rw [List.length_map, List.length_map] at this
    rw [size_of_entries he, ← Paired.length pr, this]
  have hbs : Paired (HtAt H1) (xs.map fun x => x.2.1) ks := keys_addr (isKeys_of pr) hks
  refine call_function_entry_kw kind_sorted plain_sorted entry_sorted (ksk_s1 _ _) ?_
  unfold Builtin.«sorted»
  refine wpAny_bind (m := checkCount "sorted" _ _ _) (wpAny_pure (wpAny_bind (PySem.W.kdu_collect (A := X.A.in1) (kdl_raw hs hx hdt) (I1.ok.hd hc) ho (by rw [les, sizeLine_eq]; omega) fun h1 tk1 acc hk hacc => ?_)))
  have ea := gathered he hacc
  have I2 : L2.Inv X pins σ H1 { s' with heap := h1, toks := tk1 } := I1.kept hk
  generalize hqs : (xs.map fun x => x.2.1) = qs at ea hbs
  have hql : qs.length = ks.length := Paired.length hbs
  have hal : acc.toList.length = qs.length := by rw [ea, List.length_map]
  refine wpAny_bind (wpAny_newList ?_ (by rw [hal, hql, sizeLine_eq]; omega))
  rw [ea]
  have hoL : (h1.push (seqObj "list" (qs.map Value.ref).toArray 0)).get? h1.objs.size = some (seqObj "list" (qs.map Value.ref).toArray 0) := Heap.get?_push_size _ rfl
  show wpAny _ _ _ _ _ { s' with heap := h1.push (seqObj "list" (qs.map Value.ref).toArray 0), toks := tk1 }
  obtain ⟨m2, F2⟩ := I2.fr
  have N2 : News X.base X.env.locals h1 (allNews X.base h1 X.env.locals) := news_all
  have kp : ∀ b o, h1.get? b = some o → (h1.push (seqObj "list" (qs.map Value.ref).toArray 0)).get? b = some o := fun b o e => Heap.get?_push_of_some _ e
  have hL : X.env.locals < h1.objs.size := I2.lt
  have base_no : ∀ {b : Addr}, h1.objs.size ≤ b → X.base.get? b = none := fun {b} e => by
    cases q : X.base.get? b with
    | none => rfl
    | some u => exact absurd (Nat.lt_of_lt_of_le (Heap.lt_size (I2.bk b u q)) e) (Nat.lt_irrefl _)
  -- all that stood at h1 stands in what the walk leaves
  have hall : ∀ {h : Heap} {mm : Str → Option Value} {more : List (Addr × Obj)}, Fr X.base X.env.locals h mm → News X.base X.env.locals h more → (∀ p ∈ allNews X.base h1 X.env.locals, p ∈ more) → ∀ b o, b ≠ X.env.locals → h1.get? b = some o → h.get? b = some o := fun {h mm more} F N hm b o hb e => by
    cases q : X.base.get? b with
    | some u =>
      have e2 : h1.get? b = some u := I2.bk b u q
      rw [e2] at e
      obtain rfl : u = o := Option.some.inj e
      exact F.keep b u q
    | none => exact (N (b, o) (hm _ (mem_allNews hb q e))).1
  have hokOf : ∀ {h : Heap}, (∀ b o, b ≠ X.env.locals → h1.get? b = some o → h.get? b = some o) → HOk X.prog X.w H1 h := fun {h} k a o e => (I2.hok a o e).stay (fun b u hb q => k b u (by
      rcases hb with z | z
      · rw [z]; exact nL e
      · exact nL z) q) (fun _ q => q) fun _ _ q => q
  refine wpAny_bind (wpAny_holding (wpAny_call_entry_kw slot_list_sort ⟨_, hoL, rfl⟩ entry_list_sort ?body (ksk_l1 _ _)))
  case body =>
    show wpAny _ X.A.in1.in1 (Builtin.«list.sort» ⟨[.ref h1.objs.size], [(Str.ofString "key", .ref f)]⟩) _ _ _
    rw [ksk_t1]
    refine ksk_sort (kz := ks.map g) (F2.kept kp) (N2.grown kp) hoL (Nat.ne_of_gt hL) (base_no (Nat.le_refl _)) (fun p hp => Nat.ne_of_lt (Heap.lt_size (N2 p hp).1)) (by rw [List.length_map, List.length_map, hql]) (by rw [List.length_map]; omega)
      (fun j v k hv hk2 h tk own F N => ?_) fun h' tk out cc F' N' k' => ⟨_, rfl, ?_⟩
    · -- one item's key
      obtain ⟨qa, hqa, rfl⟩ : ∃ qa, qs[j]? = some qa ∧ v = .ref qa := by
        rw [List.getElem?_map] at hv
        cases e : qs[j]? with
        | none => rw [e] at hv; cases hv
        | some qa => rw [e] at hv; exact ⟨qa, rfl, (Option.some.inj hv).symm⟩
      obtain ⟨key, hkey, hht⟩ := paired_at hbs hqa
      obtain rfl : k = g key := by
        rw [List.getElem?_map, hkey] at hk2
        exact (Option.some.inj hk2).symm
      have ha := hall F N fun p hp => List.mem_append_left _ hp
      have hok' := hokOf ha
      obtain ⟨ocb, hocb, hdcb⟩ := hcell
      refine lam_turn (s := { s' with heap := h, toks := tk }) (cb := cb) (d := d) (H := H1) (kvs := kvs) (k := key.map Sum.inl) ?_ ?_ F N (I1.ok.mod.nolimit.keeps F.keep) (ha _ _ nfL (hk _ _ hf)) ⟨c', oc, cvs, ct, rfl, ha _ _ (nL hco) (hk _ _ hoc), hdc, hvc⟩ hcl ⟨ocb, ha _ _ (I1.cne _ _ hcb) (hk _ _ hocb), hdcb⟩ hok' hd1 (by rw [kV_inl]; exact hht) (hval key (List.mem_of_getElem? hkey))
      · exact hr.depth
      · have := hr.units
        show X.A.units + 1 + 1 + 10 < cLine
        omega
    · -- the list is sorted
      have ha := hall F' N' fun p hp => List.mem_cons_of_mem _ hp
      have hok' := hokOf ha
      obtain ⟨ps', pp, eo, _⟩ := k'
      have po : out.toList.Perm (qs.map Value.ref) := by
        have := pp.map Prod.snd
        rw [List.map_snd_zip (by rw [List.length_map, List.length_map, hql]; exact Nat.le_refl _)] at this
        rw [eo]; exact this
      have er : out.toList = (out.toList.map refA).map Value.ref := by
        rw [List.map_map]
        conv => lhs; rw [← List.map_id out.toList]
        refine List.map_congr_left fun v hv => ?_
        obtain ⟨a, _, rfl⟩ := List.mem_map.mp (po.mem_iff.mp hv)
        rfl
      have pq : (out.toList.map refA).Perm qs := by
        have := po.map refA
        rw [List.map_map] at this
        have e : (refA ∘ Value.ref) = id := rfl
        rw [e, List.map_id] at this
        exact this
      have hpair : Paired (HtAt H1) (out.toList.map refA) ((out.toList.map refA).map (keyA H1)) := paired_of fun a h => by
        obtain ⟨kk, _, h⟩ := paired_mem hbs (pq.mem_iff.mp h)
        exact ⟨kk, h⟩
      have pk : ((out.toList.map refA).map (keyA H1)).Perm ks := by
        rw [keys_of hbs]; exact pq.map _
      have na : H1 h1.objs.size = none := I2.hok.fresh (Nat.le_refl _)
      have haL : h'.get? h1.objs.size = some (seqObj "list" out cc) := (N' _ List.mem_cons_self).1
      have J : L2.Inv X pins σ (upd H1 h1.objs.size (.lst ((out.toList.map refA).map V.ref))) { s' with heap := h', toks := tk } := by
        refine Inv.step (s := { s' with heap := h1, toks := tk1 }) (g' := s'.gens) (d' := s'.drawn) (ch := []) I2 (fun b z => absurd z (by simp)) (fun b o hb _ _ e n => ha b o hb e) (fun b o hb _ _ e n => ⟨o.slots, ha b o hb e⟩) (fun b o _ e n => ?_) (fun b o _ e => ?_) (fun b xs e => ?_) (fun b o u e => ?_) (fun b ps e => ⟨#[], ?_⟩) (fun m' hm' => ?_) (fun b u e => ?_) I2.bare
        · rw [upd_ne (Nat.ne_of_lt (Heap.lt_size e))]; exact n
        · by_cases hb : b = X.env.locals
          · obtain ⟨oL, _, _, hoL', _⟩ := F'.ns
            exact ⟨oL, by rw [hb]; exact hoL'⟩
          · exact ⟨o, ha b o hb e⟩
        · rw [upd_ne (ne_of_none e na)]; exact e
        · rw [upd_ne (ne_of_none e na)]; exact e
        · rw [upd_ne (ne_of_none e na), e]; simp
        · have e1 := Heap.Ns.eq_nsMap hm'
          have e2 := Heap.Ns.eq_nsMap F2.ns
          rw [e1.trans e2.symm]
          exact F'.ns
        · by_cases hb : b = h1.objs.size
          · rw [hb, upd_same] at e
            cases e
            rw [hb]
            refine ⟨?_, (out.toList.map refA).map Value.ref, cc, vals_refs' _, ?_⟩
            · rw [List.length_map, pq.length_eq, sizeLine_eq]; omega
            · rw [← er, Array.toArray_toList]; exact haL
          · rw [upd_ne hb] at e
            refine (hok' b u e).stay (fun b u _ q => q) (fun b q => ?_) fun b xs q => ?_
            · rw [upd_ne (ne_of_none q na)]; exact q
            · rw [upd_ne (ne_of_none q na)]; exact q
      exact wpAny_pure ⟨_, rfl, .ref h1.objs.size, _, J, rfl, q H1 _ _ _ eN T1 na pk hpair⟩
end Ks
end
section
set_option maxRecDepth 100000
/-! enumerate of a tuple -/
namespace Ks
open PySem PySem.Spec PyProof.Rows L2
/-- what enumerate(..) makes: an object that draws from the iterator at i -/
abbrev enO (i : Addr) : Obj := { cls := .type "enumerate", data := .fields #[.none, .bool false, .ref i, rawInt 0, .none, .none] }
set_option maxHeartbeats 1000000 in
theorem en_new {v : Value} {o : Obj} {G : Heap → Prop} (B : Begins v o G) :
    Meets (Builtin.«enumerate.__new__» ⟨[.type "enumerate", v], []⟩) fun _ R z => G z.heap ∧ R (.ok (.ret (.ref (z.heap.push o).objs.size))) { z with heap := (z.heap.push o).push (enO z.heap.objs.size) } := by
  refine .of_wp fun p u B' post z hz => ?_
  rcases z with ⟨hp, gs, dr, tk, os⟩
  rcases hz with ⟨hG, hR⟩
  have known := sub_enumerate
  have come : ∀ {B2 : Around} {E2 Q2 : Value → Shared → Prop}, Q2 (.ref hp.objs.size) ⟨hp.push o, gs, dr, tk, os⟩ → wpAny (model p u) B2 (pyIter v) Q2 E2 ⟨hp, gs, dr, tk, os⟩ := fun k => B.iter p u _ _ _ _ hG k
  wp_walk using come
  refine wpAny_stack_any fun _ => ?_
  refine wpAny_pure ?_
  split
  · rename_i c1 _ _ _ _ _
    cases c1 == Value.type "enumerate" <;> (wp_walk using come; exact ⟨_, rfl, hR⟩)
  · wp_walk using come
    exact ⟨_, rfl, hR⟩
/-- the call: two new objects, the iterator and what draws from it -/
theorem en_call {p : Program} {u : World} {A : Around} {E Q : Value → Shared → Prop} {s : Shared} {v : Value} {o : Obj} {G : Heap → Prop} (B : Begins v o G) (hG : G s.heap)
    (k : Q (.ref (s.heap.objs.size + 1)) { s with heap := (s.heap.push o).push (enO s.heap.objs.size) }) : wpAny (model p u) A (call (.type "enumerate") [v]) Q E s := by
  have sz : (s.heap.push o).objs.size = s.heap.objs.size + 1 := Heap.size_push ..
  have at1 : ((s.heap.push o).push (enO s.heap.objs.size)).get? (s.heap.objs.size + 1) = some (enO s.heap.objs.size) := by
    rw [← sz]; exact Heap.get?_push_size _ rfl
  refine callType_new F.called_enumerate (by decide) (F.typeCall_enumerate_1 v) (F.newCall_enumerate_1 v) (fun x => F.args_object_init_2 x v) F.entry_enumerate_new (en_new B) ⟨hG, ?_⟩
  rw [sz]
  exact ⟨⟨_, at1, rfl⟩, k⟩
/-- the tuple xs at a: each item with its place, in a new pair -/
def Iten (K : PySem.W.Frag) (a : Addr) (xs : List V) : It where
  go i H := SqT K H a xs ∧ i < xs.length
  yld i H v H' := ∃ (T : Addr) (x : V), xs[i]? = some x ∧ v = .ref T ∧ H T = none ∧ H' = upd H T (.tup [.int (i : Nat), x])
  stop i H := SqT K H a xs ∧ i = xs.length
/-- e draws from the iterator j, which is at the i-th item of a -/
def EnSt (a e j : Addr) (i : Nat) (h : Heap) : Prop := (∃ old, IsEnum h e j (0 + (i : Int)) old) ∧ h.IsTupleIter j a i ∧ (e ≠ j ∧ a ≠ j ∧ e ≠ a)
theorem two_of {e j b : Addr} (h : b ∈ [e, j]) : b = e ∨ b = j := by
  rcases List.mem_cons.mp h with z | z
  · exact .inl z
  · exact .inr (List.mem_singleton.mp z)
theorem en_goes {X : Cx} (hc : X.calm = true) {pins : List (Addr × Obj)} {σ : L2.St} {H : Hp} {s : Shared} (I : L2.Inv X pins σ H s) {elts : List Expr} {kk : Nat} {tpos : Pos} {a e j : Addr} (items : Array Value) (h1 : e ≠ j) (h2 : a ≠ j) (h3 : e ≠ a) :
    GoesN X.prog X.w X.A (.Tuple elts kk tpos) e [e, j, a] [e, j] items.size (fun i h₀ v h => ∃ (T : Addr) (t : Tok) (x : Value), v = .ref T ∧ h₀.objs.size ≤ T ∧ items[i]? = some x ∧ h.IsTuple T #[.int (0 + (i : Int)) t, x])
      (fun i h => (∃ old, IsEnum h e j (0 + (i : Int)) old) ∧ h.IsTupleIter j a i ∧ h.IsTuple a items) :=
  GoesN.enumFrom 0 (Draws.tuple (prog := X.prog) (w := X.w) (A := X.A.in1) (I.ok.hd hc) j a h2 items) e h1 (by simp [h1, h3]) (by simp)
theorem turn_en {P : Program} {w : World} {K : PySem.W.Frag} {elts : List Expr} {kk : Nat} {tpos : Pos} {a e j : Addr} {xs : List V} : Turn P w K (.Tuple elts kk tpos) (Iten K a xs) [e, j] e (EnSt a e j) := by
  refine ⟨List.mem_cons_self, ?_, ?_, ?_, ?_, ?_⟩
  · rintro i h ⟨⟨old, he⟩, ⟨oj, hj, _, dj⟩, _⟩ b hb
    rcases two_of hb with rfl | rfl
    · exact ⟨_, he, nofun⟩
    · exact ⟨oj, hj, fun v z => by rw [dj] at z; cases z⟩
  · rintro i h h' ⟨⟨old, he⟩, hj, ne⟩ kp
    exact ⟨⟨old, kp e List.mem_cons_self _ he⟩, hj.at fun o z => kp j (List.mem_cons_of_mem _ (List.mem_singleton.mpr rfl)) o z, ne⟩
  · rintro X rfl rfl rfl calm i pins s σ H E I free ⟨hen, hj, n1, n2, n3⟩ ⟨hq, hi⟩
    obtain ⟨us, rv, ht, _⟩ := I.tuple hq
    have hlen : xs.length = us.length := rv.length
    refine wpAny_mono ((en_goes (elts := elts) (kk := kk) (tpos := tpos) calm I us.toArray n1 n2 n3).goes i s (fun v z => ∃ x H', L2.Inv X pins σ H' z ∧ L2.RelV x v ∧ (Iten X.K a xs).yld i H x H' ∧ EnSt a e j (i + 1) z.heap ∧ ∀ b ∈ [e, j], H' b = none) E (by rw [List.size_toArray]; omega) ⟨hen, hj, ht⟩ fun v h' tk Y st kp _ => ?_) (fun _ _ z => z) fun _ _ z => z
    obtain ⟨T, t, y, rfl, hT, hy, hTt⟩ := Y
    obtain ⟨hen', hj', _⟩ := st
    obtain ⟨y', ey, ry⟩ := rv.get (List.getElem?_eq_getElem hi)
    obtain rfl : y = y' := by
      have hy : us[i]? = some y := by simpa using hy
      rw [ey] at hy
      exact (Option.some.inj hy).symm
    rw [Int.zero_add] at hTt
    have pair : ObjOk X.prog X.w (upd H T (.tup [.int (i : Nat), xs[i]])) h' T (.tup [.int (i : Nat), xs[i]]) := ⟨by show 2 ≤ sizeLine; decide, _, .cons ⟨t, rfl⟩ (.cons ry .nil), hTt⟩
    refine ⟨.ref T, upd H T (.tup [.int (i : Nat), xs[i]]), I.turnedNew (t' := tk) kp free hT pair, rfl, ⟨T, xs[i], List.getElem?_eq_getElem hi, rfl, I.hok.fresh hT, rfl⟩, ⟨hen', hj', n1, n2, n3⟩, fun b hb => ?_⟩
    have old : ∃ o, s.heap.get? b = some o := by
      rcases two_of hb with rfl | rfl
      · exact hen.elim fun _ z => ⟨_, z⟩
      · exact hj.elim fun o z => ⟨o, z.1⟩
    obtain ⟨ob, hob⟩ := old
    have := Heap.lt_size hob
    rw [upd_ne (Nat.ne_of_lt (Nat.lt_of_lt_of_le this hT))]
    exact (free b hb).1
  · rintro X rfl rfl rfl calm i pins s σ H E I free ⟨hen, hj, n1, n2, n3⟩ ⟨hq, rfl⟩
    obtain ⟨us, rv, ht, _⟩ := I.tuple hq
    have hlen : xs.length = us.toArray.size := by rw [List.size_toArray, rv.length]
    rw [hlen] at hen hj
    exact wpAny_mono ((en_goes (elts := elts) (kk := kk) (tpos := tpos) calm I us.toArray n1 n2 n3).stops s (fun z => L2.Inv X pins σ H z) E ⟨hen, hj, ht⟩ fun h' tk kp _ => I.turnedL (t' := tk) kp free) (fun _ _ z => z) fun _ _ z => z
  · rintro A i s Q E ⟨⟨_, he⟩, _⟩ k
    exact wpAny_pyIter_enum he k
def iEnumT (K : PySem.W.Frag) (ta : TA) : TI := fun σ H R => ta σ H fun vs H1 => ∃ a xs, vs = [.ref a] ∧ SqT K H1 a xs ∧ R (Iten K a xs) H1
theorem pi_enumT {X : Cx} {arg : Expr} {ta : TA} {p pos tpos : Pos} {elts : List Expr} {kk : Nat} (hg : Gl X "enumerate") (hm : X.mg "enumerate" = none) (ha : PA X [arg] ta) (hs : starEach [arg] X.env = [(false, eval arg X.env)] := by rfl) :
    PI X (.Tuple elts kk tpos) (.Call (.Name "enumerate" p) [arg] [] pos) (iEnumT X.K ta) := by
  constructor
  intro pins s σ H R I hR
  have args := ha.run pos pins s σ H _ I hR
  refine Call_ (ld_blt I hg hm boot_enumerate (PyProof.Rows.callWith_type1 (thn args ?_) hs rfl))
  rintro us z ⟨vs, H1, J, rv, a, xs, rfl, hq, k⟩
  obtain rfl : us = [.ref a] := Vals.ref1 rv
  obtain ⟨its, _, ht, _⟩ := J.tuple hq
  obtain ⟨oa, hoa, _⟩ := id ht
  have la := Heap.lt_size hoa
  refine en_call (begins_tuple a its.toArray) ht ?_
  have sz : (z.heap.push { cls := .type "tuple_iterator", data := .fields #[.ref a, .int 0 0] }).objs.size = z.heap.objs.size + 1 := Heap.size_push ..
  have h1 : ((z.heap.push { cls := .type "tuple_iterator", data := .fields #[.ref a, .int 0 0] }).push (enO z.heap.objs.size)).get? (z.heap.objs.size + 1) = some (enO z.heap.objs.size) := by
    rw [← sz]; exact Heap.get?_push_size _ rfl
  have h0 : ((z.heap.push { cls := .type "tuple_iterator", data := .fields #[.ref a, .int 0 0] }).push (enO z.heap.objs.size)).get? z.heap.objs.size = some { cls := .type "tuple_iterator", data := .fields #[.ref a, .int 0 0] } :=
    Heap.get?_push_of_some _ (Heap.get?_push_size _ rfl)
  have J2 := J.kept (h' := (z.heap.push { cls := .type "tuple_iterator", data := .fields #[.ref a, .int 0 0] }).push (enO z.heap.objs.size)) (t' := z.toks) fun b o q => Heap.get?_push_of_some _ (Heap.get?_push_of_some _ q)
  have hE : IsEnum ((z.heap.push { cls := .type "tuple_iterator", data := .fields #[.ref a, .int 0 0] }).push (enO z.heap.objs.size)) (z.heap.objs.size + 1) z.heap.objs.size 0 .none := h1
  refine wpAny_pyIter_enum hE ⟨z.heap.objs.size + 1, [z.heap.objs.size + 1, z.heap.objs.size], EnSt a _ _, _, H1, rfl, J2, turn_en, ⟨⟨_, h1⟩, ⟨_, h0, rfl, rfl⟩, Nat.succ_ne_self _, Nat.ne_of_lt la, Nat.ne_of_gt (Nat.lt_succ_of_lt la)⟩, fun b hb => ?_, k⟩
  have young : z.heap.objs.size ≤ b := by
    rcases two_of hb with rfl | rfl
    · exact Nat.le_succ _
    · exact Nat.le_refl _
  exact J.fpOk young (J.hok.fresh young)
/-- for i, x in enumerate(t): one turn has the new pair -/
theorem for_enumT {K : PySem.W.Frag} {a : Addr} {xs : List V} {g : TG} {tb : TS} {D : Ends} {σ : L2.St} {H : Hp} (Pv : Nat → L2.St → Hp → Prop) (h0 : Pv 0 σ H) (hl : ∀ i σ H, i ≤ xs.length → Pv i σ H → SqT K H a xs)
    (hs : ∀ i x T σ H, xs[i]? = some x → Pv i σ H → H T = none → g (.ref T) σ (upd H T (.tup [.int (i : Nat), x])) fun σ2 H2 => tb { D with nx := Pv (i + 1), ct := Pv (i + 1), bk := D.nx } σ2 H2) (hd : ∀ σ H, Pv xs.length σ H → D.nx σ H) :
    ∃ W : Nat → Nat → L2.St → Hp → Prop, (∃ m, W 0 m σ H) ∧ ∀ i m σ H, W i m σ H → ((Iten K a xs).stop i H ∧ D.nx σ H) ∨
      ((Iten K a xs).go i H ∧ ∃ N : L2.St → Hp → Prop, (∀ σ' H', N σ' H' → ∃ m', m' < m ∧ W (i + 1) m' σ' H') ∧ ∀ x H', (Iten K a xs).yld i H x H' → g x σ H' fun σ2 H2 => tb { D with nx := N, ct := N, bk := D.nx } σ2 H2) := by
  refine ⟨fun i m σ H => i + m = xs.length ∧ Pv i σ H, ⟨xs.length, Nat.zero_add _, h0⟩, fun i m σ H ⟨him, p⟩ => ?_⟩
  have q := hl i σ H (by omega) p
  rcases Nat.eq_zero_or_pos m with rfl | hm
  · have him : i = xs.length := him
    subst him
    exact .inl ⟨⟨q, rfl⟩, hd σ H p⟩
  · refine .inr ⟨⟨q, by omega⟩, Pv (i + 1), fun σ' H' p' => ⟨m - 1, by omega, by omega, p'⟩, ?_⟩
    rintro _ _ ⟨T, x, hx, rfl, nT, rfl⟩
    exact hs i x T σ H hx p nT
end Ks
end
section
set_option maxRecDepth 100000
namespace Ks
open PySem PySem.Spec PyProof.Rows L2
theorem bb_int : bootBuiltins "int" = some (.type "int") := by decide +kernel
theorem bb_bool : bootBuiltins "bool" = some (.type "bool") := by decide +kernel
theorem bb_tuple : bootBuiltins "tuple" = some (.type "tuple") := by decide +kernel
theorem bb_list : bootBuiltins "list" = some (.type "list") := by decide +kernel
theorem bb_str : bootBuiltins "str" = some (.type "str") := by decide +kernel
theorem bb_isi : bootBuiltins "isinstance" = some (.builtin "isinstance") := by decide +kernel
theorem k_ii {K : PySem.W.Frag} : PySem.W.kitOne K (.type "int") (.type "int") = some true := kit_ty (by decide +kernel)
theorem k_ib {K : PySem.W.Frag} : PySem.W.kitOne K (.type "int") (.type "bool") = some false := kit_ty (by decide +kernel)
theorem k_tt {K : PySem.W.Frag} : PySem.W.kitOne K (.type "tuple") (.type "tuple") = some true := kit_ty (by decide +kernel)
section
variable {P : Program} {w : World} {K : PySem.W.Frag} {mg : Str → Option Value} {base : Heap}
/-! ### is_int, is_from, is_height -/
def spIsInt (K : PySem.W.Frag) : Sp := fun vs H Q _ => ∃ i : Int, vs = [.int i] ∧ Q (.bl true) H
theorem ok_isInt {f : Addr} {fd : FuncData} {k : Nat} (F : Fun K "is_int" "is_int" sIsInt f fd) (B : Blt mg) : FnOk P w K mg base CX0 (k + 1) f fd ["value"] (spIsInt K) := by
  refine F.ok scIsInt (fun vs H Q E h => ?_) (fun cdv A outer s H vs Q E hr h => ?_)
  · obtain ⟨i, rfl, _⟩ := h
    rfl
  · obtain ⟨i, rfl, q⟩ := h
    refine ⟨_, pss_one (ps_ret (pe_and (pe_callB call_isi (by rfl) B.isinstance bb_isi (pa_cons (pv 0) (pa_cons (pe_bltn (v := .ty "int") (by rfl) B.int bb_int rfl) pa_nil)))
      (pe_one (pe_not (pe_callB call_isi (by rfl) B.isinstance bb_isi (pa_cons (pv 0) (pa_cons (pe_bltn (v := .ty "bool") (by rfl) B.bool bb_bool rfl) pa_nil))))))), ?_⟩
    refine ⟨.int i, rfl, .int i, .ty "int", .type "int", .type "int", true, rfl, .ty _, .base (.int i), k_ii, true, rfl, iteT ?_⟩
    exact ⟨.int i, rfl, .int i, .ty "bool", .type "int", .type "bool", false, rfl, .ty _, .base (.int i), k_ib, false, rfl, q⟩
def spIsFrom (K : PySem.W.Frag) : Sp := fun vs H Q _ => ∃ v lo hi : Int, vs = [.int v, .int lo, .int hi] ∧ lo ≤ v ∧ v ≤ hi ∧ Q (.bl true) H
theorem ok_isFrom {f fI : Addr} {fd fdI : FuncData} {k : Nat} (F : Fun K "is_from" "is_from" sIsFrom f fd) (B : Blt mg) (DI : Dn K mg "is_int" sIsInt ["value"] fI fdI) : FnOk P w K mg base CX0 (k + 2) f fd ["value", "least", "most"] (spIsFrom K) := by
  have GI : FnOk P w K mg base CX0 (k + 1) fI fdI ["value"] (spIsInt K) := ok_isInt DI.F B
  refine F.ok scIsFrom (fun vs H Q E h => ?_) (fun cdv A outer s H vs Q E hr h => ?_)
  · obtain ⟨v, lo, hi, rfl, _⟩ := h
    rfl
  · obtain ⟨v, lo, hi, rfl, h1, h2, q⟩ := h
    refine ⟨_, pss_one (ps_ret (pe_and (pe_call GI hr (by rfl) DI.g DI.F.kp DI.b .nil pass0 (pa_cons (pv 0) pa_nil)) (pe_one (pe_chain op_le op_le (pv 1) (pv 0) (pv 2))))), ?_⟩
    refine ⟨.int v, rfl, v, rfl, true, rfl, iteT ?_⟩
    refine ⟨.int lo, rfl, .int v, rfl, lo, v, rfl, rfl, _, rfl, ?_⟩
    rw [decide_eq_true h1]
    refine iteT ⟨.int hi, rfl, v, hi, rfl, rfl, ?_⟩
    show Q (.bl (decide (v ≤ hi))) H
    rw [decide_eq_true h2]
    exact q
def spIsHeight (K : PySem.W.Frag) : Sp := fun vs H Q _ => ∃ v : Int, vs = [.int v] ∧ -1000 ≤ v ∧ v ≤ 1000 ∧ Q (.bl true) H
theorem ok_isHeight {f fF fI : Addr} {fd fdF fdI : FuncData} {k : Nat} {t : Tok} (F : Fun K "is_height" "is_height" sIsHeight f fd) (B : Blt mg) (DF : Dn K mg "is_from" sIsFrom ["value", "least", "most"] fF fdF) (DI : Dn K mg "is_int" sIsInt ["value"] fI fdI)
    (gM : mg "MOST_HEIGHT" = some (.int 1000 t)) : FnOk P w K mg base CX0 (k + 3) f fd ["value"] (spIsHeight K) := by
  have GF : FnOk P w K mg base CX0 (k + 2) fF fdF ["value", "least", "most"] (spIsFrom K) := ok_isFrom DF.F B DI
  refine F.ok scIsHeight (fun vs H Q E h => ?_) (fun cdv A outer s H vs Q E hr h => ?_)
  · obtain ⟨v, rfl, _⟩ := h
    rfl
  · obtain ⟨v, rfl, h1, h2, q⟩ := h
    refine ⟨_, pss_one (ps_ret (pe_call GF hr (by rfl) DF.g DF.F.kp DF.b .nil pass0 (pa_cons (pv 0) (pa_cons (pe_un un_neg (pe_glob (v := .int 1000) (by rfl) gM ⟨_, rfl⟩)) (pa_cons (pe_glob (v := .int 1000) (by rfl) gM ⟨_, rfl⟩) pa_nil))))), ?_⟩
    exact ⟨.int v, rfl, 1000, rfl, v, -1000, 1000, rfl, h1, h2, q⟩
/-! ### is_tie -/
def spIsTie (K : PySem.W.Frag) : Sp := fun vs H Q _ => ∃ (a : Addr) (t : Nat × Nat) (n : Nat), vs = [.ref a, natV n] ∧ PrAt H a t ∧ t.1 < t.2 ∧ t.2 < n ∧ Q (.bl true) H
theorem ok_isTie {f fF fI : Addr} {fd fdF fdI : FuncData} {k : Nat} (F : Fun K "is_tie" "is_tie" sIsTie f fd) (B : Blt mg) (DF : Dn K mg "is_from" sIsFrom ["value", "least", "most"] fF fdF) (DI : Dn K mg "is_int" sIsInt ["value"] fI fdI) :
    FnOk P w K mg base CX0 (k + 3) f fd ["value", "many"] (spIsTie K) := by
  have GF : FnOk P w K mg base CX0 (k + 2) fF fdF ["value", "least", "most"] (spIsFrom K) := ok_isFrom DF.F B DI
  refine F.ok scIsTie (fun vs H Q E h => ?_) (fun cdv A outer s H vs Q E hr h => ?_)
  · obtain ⟨a, t, n, rfl, _⟩ := h
    rfl
  · obtain ⟨a, t, n, rfl, ha, h1, h2, q⟩ := h
    refine ⟨_, pss_cons (ps_if (PW.pt (pw_or (pt_not (pt_val (pe_callB call_isi (by rfl) B.isinstance bb_isi (pa_cons (pv 0) (pa_cons (pe_bltn (v := .ty "tuple") (by rfl) B.tuple bb_tuple rfl) pa_nil)))))
        (pw_or1 (pt_cmpR op_ne (pe_callB call_len_seq (by rfl) B.len PySem.boot_len (pa_cons (pv 0) pa_nil)) pe_int (nomark _))))) (pss_one ps_never) pss_nil)
      (pss_one (ps_ret (pe_and (pe_call GF hr (by rfl) DF.g DF.F.kp DF.b .nil pass0 (pa_cons (pe_ix ix_tup (pv 0) pe_int (fun _ _ => rfl)) (pa_cons pe_int (pa_cons (pe_op op_sub (pv 1) pe_int) pa_nil))))
        (pe_and (pe_call GF hr (by rfl) DF.g DF.F.kp DF.b .nil pass0 (pa_cons (pe_ix ix_tup (pv 0) pe_int (fun _ _ => rfl)) (pa_cons pe_int (pa_cons (pe_op op_sub (pv 1) pe_int) pa_nil))))
          (pe_one (pe_cmpR op_lt (pe_ix ix_tup (pv 0) pe_int (fun _ _ => rfl)) (pe_ix ix_tup (pv 0) pe_int (fun _ _ => rfl)) (nomark _))))))), ?_⟩
    refine ⟨.ref a, rfl, .ref a, .ty "tuple", .type "tuple", .type "tuple", true, rfl, .ty _, .base (.tup ha), k_tt, true, rfl, ?_⟩
    refine iteF ⟨.ref a, rfl, a, _, rfl, .inr (.of ha), rfl, _, rfl, iteF ?_⟩
    refine ⟨.ref a, rfl, a, _, 0, natV t.1, rfl, rfl, .of ha, rfl, natV n, rfl, n, 1, rfl, rfl, t.1, 0, _, rfl, by omega, by omega, true, rfl, iteT ?_⟩
    refine ⟨.ref a, rfl, a, _, 1, natV t.2, rfl, rfl, .of ha, rfl, natV n, rfl, n, 1, rfl, rfl, t.2, 0, _, rfl, by omega, by omega, true, rfl, iteT ?_⟩
    refine ⟨.ref a, rfl, a, _, 0, natV t.1, rfl, rfl, .of ha, rfl, .ref a, rfl, a, _, 1, natV t.2, rfl, rfl, .of ha, rfl, t.1, t.2, rfl, rfl, ?_⟩
    show Q (.bl (decide ((t.1 : Int) < (t.2 : Int)))) H
    rw [decide_eq_true (by omega)]
    exact q
/-! ### need_web -/
/-- ties ascend -/
def Rising (ts : Ties) : Prop := ∀ i a b, ts[i]? = some a → ts[i + 1]? = some b → a.1 < b.1 ∨ (a.1 = b.1 ∧ a.2 < b.2)
theorem le_pair {a b : Nat × Nat} (h : a.1 < b.1 ∨ (a.1 = b.1 ∧ a.2 < b.2)) : Ob.lexAt (fun j => decide (([(b.1 : Int), (b.2 : Int)] : List Int).getD j 0 = ([(a.1 : Int), (a.2 : Int)] : List Int).getD j 0)) (fun j => decide (([(b.1 : Int), (b.2 : Int)] : List Int).getD j 0 ≤ ([(a.1 : Int), (a.2 : Int)] : List Int).getD j 0)) (decide (([(b.1 : Int), (b.2 : Int)] : List Int).length ≤ ([(a.1 : Int), (a.2 : Int)] : List Int).length)) 0 (min ([(b.1 : Int), (b.2 : Int)] : List Int).length ([(a.1 : Int), (a.2 : Int)] : List Int).length) = false := by
  show (if decide ((b.1 : Int) = (a.1 : Int)) = true then (if decide ((b.2 : Int) = (a.2 : Int)) = true then _ else decide ((b.2 : Int) ≤ (a.2 : Int))) else decide ((b.1 : Int) ≤ (a.1 : Int))) = false
  rcases h with h | ⟨h1, h2⟩
  · rw [decide_eq_false (by omega : ¬ (b.1 : Int) = (a.1 : Int)), if_neg Bool.false_ne_true]
    exact decide_eq_false (by omega)
  · rw [decide_eq_true (by omega : (b.1 : Int) = (a.1 : Int)), if_pos rfl, decide_eq_false (by omega : ¬ (b.2 : Int) = (a.2 : Int)), if_neg Bool.false_ne_true]
    exact decide_eq_false (by omega)
/-- a web that passes -/
structure WebFine (H : Hp) (a : Addr) (n : Nat) (ts : Ties) : Prop where
  ok : WebOk H a n ts
  pos : 1 ≤ n
  rise : Rising ts
theorem WebFine.same {H H' : Hp} {a : Addr} {n : Nat} {ts : Ties} (x : WebFine H a n ts) (s : Same H H') : WebFine H' a n ts := ⟨x.ok.same s, x.pos, x.rise⟩
def spNeedWeb (K : PySem.W.Frag) : Sp := fun vs H Q _ => ∃ (a : Addr) (n : Nat) (ts : Ties), vs = [.ref a] ∧ WebFine H a n ts ∧ ∀ H', Same H H' → Q .non H'
theorem ok_needWeb {f fT fF fI : Addr} {fd fdT fdF fdI : FuncData} {k : Nat} {t : Tok} (F : Fun K "need_web" "need_web" sNeedWeb f fd) (B : Blt mg) (DT : Dn K mg "is_tie" sIsTie ["value", "many"] fT fdT) (DF : Dn K mg "is_from" sIsFrom ["value", "least", "most"] fF fdF) (DI : Dn K mg "is_int" sIsInt ["value"] fI fdI)
    (gM : mg "MOST_PERSONS" = some (.int 8 t)) : FnOk P w K mg base CX0 (k + 4) f fd ["value"] (spNeedWeb K) := by
  have GT : FnOk P w K mg base CX0 (k + 3) fT fdT ["value", "many"] (spIsTie K) := ok_isTie DT.F B DF DI
  have GF : FnOk P w K mg base CX0 (k + 3) fF fdF ["value", "least", "most"] (spIsFrom K) := ok_isFrom DF.F B DI
  refine F.ok scNeedWeb (fun vs H Q E h => ?_) (fun cdv A outer s H vs Q E hr h => ?_)
  · obtain ⟨a, n, ts, rfl, _⟩ := h
    rfl
  · obtain ⟨a, n, ts, rfl, W, q⟩ := h
    refine ⟨_, pss_cons (ps_if (PW.pt (pw_or (pt_not (pt_val (pe_callB call_isi (by rfl) B.isinstance bb_isi (pa_cons (pv 0) (pa_cons (pe_bltn (v := .ty "tuple") (by rfl) B.tuple bb_tuple rfl) pa_nil)))))
        (pw_or1 (pt_cmpR op_ne (pe_callB call_len_seq (by rfl) B.len PySem.boot_len (pa_cons (pv 0) pa_nil)) pe_int (nomark _))))) (pss_one ps_never) pss_nil)
      (pss_cons (ps_asg (pv 0) (pg_tup (by rfl) (pgs_cons (pg_name (i := 1) scNeedWeb.nd rfl (.inl rfl)) (pgs_cons (pg_name (i := 2) scNeedWeb.nd rfl (.inl rfl)) pgs_nil))))
      (pss_cons (ps_if (PW.pt (pw_or (pt_not (pt_val (pe_call GF hr (by rfl) DF.g DF.F.kp DF.b .nil pass0 (pa_cons (pv 1) (pa_cons pe_int (pa_cons (pe_glob (v := .int 8) (by rfl) gM ⟨_, rfl⟩) pa_nil))))))
        (pw_or1 (pt_not (pt_val (pe_callB call_isi (by rfl) B.isinstance bb_isi (pa_cons (pv 2) (pa_cons (pe_bltn (v := .ty "tuple") (by rfl) B.tuple bb_tuple rfl) pa_nil)))))))) (pss_one ps_never) pss_nil)
      (pss_one (ps_for PassesOwn.never rfl (pi_enumT (by rfl) B.enumerate (pa_cons (pv 2) pa_nil)) (pg_tup rfl (pgs_cons (pg_name (i := 3) scNeedWeb.nd rfl (.inl rfl)) (pgs_cons (pg_name (i := 4) scNeedWeb.nd rfl (.inl rfl)) pgs_nil)))
        (pss_one (ps_if (PW.pt (pw_or (pt_not (pt_val (pe_call GT hr (by rfl) DT.g DT.F.kp DT.b .nil pass0 (pa_cons (pv 4) (pa_cons (pv 1) pa_nil)))))
          (pw_or1 (PW.pt (pw_and (pt_cmpR op_gt (pv 3) pe_int (nomark _)) (pw_and1 (pt_cmpR (op_leT hr.units0) (pv 4) (pe_ix ix_tup (pv 2) (pe_op op_sub (pv 3) pe_int) (fun _ _ => rfl)) (nomark _)))))))) (pss_one ps_never) pss_nil)))))), ?_⟩
    obtain ⟨b, ha, qs, hb, hq⟩ := id W.ok.at'
    refine ⟨.ref a, rfl, .ref a, .ty "tuple", .type "tuple", .type "tuple", true, rfl, .ty _, .base (.tup ha), k_tt, true, rfl, ?_⟩
    refine iteF ⟨.ref a, rfl, a, _, rfl, .inr (.of ha), rfl, _, rfl, iteF ?_⟩
    refine ⟨.ref a, rfl, a, _, rfl, .of ha, rfl, _, _, rfl, _, _, rfl, rfl, ?_⟩
    have := W.ok.small
    have := W.pos
    refine ⟨natV n, rfl, n, 1, 8, rfl, by omega, by omega, true, rfl, ?_⟩
    refine iteF ⟨.ref b, rfl, .ref b, .ty "tuple", .type "tuple", .type "tuple", true, rfl, .ty _, .base (.tup hb), k_tt, true, rfl, iteF ?_⟩
    refine ⟨.ref b, rfl, b, _, rfl, .of hb, for_enumT (xs := qs.map V.ref) (fun i σ H' => ∃ y3 y4, σ = [some (.ref a), some (natV n), some (.ref b), y3, y4] ∧ Same H H') ?_ ?_ ?_ ?_⟩
    · exact ⟨none, none, rfl, Same.refl H⟩
    · rintro i σ H' _ ⟨_, _, _, sm⟩
      exact .of (sm _ _ hb)
    · rintro i x T σ H' hx ⟨y3, y4, rfl, sm⟩ nT
      obtain ⟨qa, hqa, rfl⟩ := ref_at hx
      obtain ⟨pr, hpr, et⟩ := paired_at hq hqa
      have smT := sm.new (o := .tup [.int ((i : Nat) : Int), .ref qa]) nT
      have hbt := W.ok.below pr (List.mem_of_getElem? hpr)
      refine ⟨T, _, rfl, .of upd_same, rfl, _, _, rfl, _, _, rfl, rfl, ?_⟩
      refine ⟨.ref qa, rfl, natV n, rfl, qa, pr, n, rfl, et.same smT, hbt.1, hbt.2, true, rfl, iteF ?_⟩
      refine ⟨.int (i : Int), rfl, i, 0, rfl, rfl, _, rfl, ite2 (fun hi => ?_) (fun hi => ?_)⟩
      · have hi : (0 : Int) < (i : Int) := of_decide_eq_true hi
        obtain ⟨j, rfl⟩ : ∃ j, i = j + 1 := ⟨i - 1, by omega⟩
        have hj : j < qs.length := by
          have := (List.getElem?_eq_some_iff.mp hqa).1
          omega
        obtain ⟨pr0, hpr0, et0⟩ := paired_at hq (List.getElem?_eq_getElem hj)
        refine ⟨.ref qa, rfl, .ref b, rfl, .int ((j + 1 : Nat) : Int), rfl, ((j + 1 : Nat) : Int), 1, rfl, rfl, b, _, _, .ref qs[j], rfl, rfl, .of (smT _ _ hb), ?_, ?_⟩
        · have e : (((j + 1 : Nat) : Int) - 1) = ((j : Nat) : Int) := by omega
          rw [e]
          apply atI_nat
          rw [List.getElem?_map, List.getElem?_eq_getElem hj]; rfl
        · refine ⟨qa, qs[j], [(pr.1 : Int), (pr.2 : Int)], [(pr0.1 : Int), (pr0.2 : Int)], rfl, rfl, .of (smT _ _ et), .of (smT _ _ et0), _, rfl, ?_⟩
          rw [le_pair (W.rise j pr0 pr hpr0 hpr)]
          exact iteF ⟨_, _, rfl, smT⟩
      · exact iteF ⟨_, _, rfl, smT⟩
    · rintro σ H' ⟨_, _, _, sm⟩
      exact q H' sm
/-! ### need_heights -/
def Fit (h : List Int) : Prop := ∀ x ∈ h, -1000 ≤ x ∧ x ≤ 1000
def spNeedHeights (K : PySem.W.Frag) : Sp := fun vs H Q _ => ∃ (a b : Addr) (n : Nat) (x : V) (h : List Int), vs = [.ref a, .ref b] ∧ H a = some (.tup [natV n, x]) ∧ HtAt H b h ∧ h.length = n ∧ Fit h ∧ ∀ H', Same H H' → Q .non H'
theorem ok_needHeights {f fH fF fI : Addr} {fd fdH fdF fdI : FuncData} {k : Nat} {t : Tok} (F : Fun K "need_heights" "need_heights" sNeedHeights f fd) (B : Blt mg) (DH : Dn K mg "is_height" sIsHeight ["value"] fH fdH) (DF : Dn K mg "is_from" sIsFrom ["value", "least", "most"] fF fdF) (DI : Dn K mg "is_int" sIsInt ["value"] fI fdI)
    (gM : mg "MOST_HEIGHT" = some (.int 1000 t)) : FnOk P w K mg base CX0 (k + 4) f fd ["web", "value"] (spNeedHeights K) := by
  have GH : FnOk P w K mg base CX0 (k + 3) fH fdH ["value"] (spIsHeight K) := ok_isHeight DH.F B DF DI gM
  refine F.ok scNeedHeights (fun vs H Q E h => ?_) (fun cdv A outer s H vs Q E hr h => ?_)
  · obtain ⟨a, b, n, x, h, rfl, _⟩ := h
    rfl
  · obtain ⟨a, b, n, x, h, rfl, ha, hb, hl, hf, q⟩ := h
    refine ⟨_, pss_cons (ps_if (PW.pt (pw_or (pt_not (pt_val (pe_callB call_isi (by rfl) B.isinstance bb_isi (pa_cons (pv 1) (pa_cons (pe_bltn (v := .ty "tuple") (by rfl) B.tuple bb_tuple rfl) pa_nil)))))
        (pw_or1 (pt_cmpR op_ne (pe_callB call_len_seq (by rfl) B.len PySem.boot_len (pa_cons (pv 1) pa_nil)) (pe_ix ix_tup (pv 0) pe_int (fun _ _ => rfl)) (nomark _))))) (pss_one ps_never) pss_nil)
      (pss_one (ps_for PassesOwn.never rfl (pi_enumT (by rfl) B.enumerate (pa_cons (pv 1) pa_nil)) (pg_tup rfl (pgs_cons (pg_name (i := 2) scNeedHeights.nd rfl (.inl rfl)) (pgs_cons (pg_name (i := 3) scNeedHeights.nd rfl (.inl rfl)) pgs_nil)))
        (pss_one (ps_if (pt_not (pt_val (pe_call GH hr (by rfl) DH.g DH.F.kp DH.b .nil pass0 (pa_cons (pv 3) pa_nil)))) (pss_one ps_never) pss_nil)))), ?_⟩
    refine ⟨.ref b, rfl, .ref b, .ty "tuple", .type "tuple", .type "tuple", true, rfl, .ty _, .base (.tup hb), k_tt, true, rfl, ?_⟩
    refine iteF ⟨.ref b, rfl, b, _, rfl, .inr (.of hb), .ref a, rfl, a, _, 0, natV n, rfl, rfl, .of ha, rfl, rfl, _, rfl, ?_⟩
    rw [List.length_map, hl, decide_eq_true rfl]
    refine iteF ⟨.ref b, rfl, b, _, rfl, .of hb, for_enumT (xs := h.map V.int) (fun i σ H' => ∃ y2 y3, σ = [some (.ref a), some (.ref b), y2, y3] ∧ Same H H') ?_ ?_ ?_ ?_⟩
    · exact ⟨none, none, rfl, Same.refl H⟩
    · rintro i σ H' _ ⟨_, _, _, sm⟩
      exact .of (sm _ _ hb)
    · rintro i v T σ H' hv ⟨y2, y3, rfl, sm⟩ nT
      obtain ⟨z, hz, rfl⟩ := List.mem_map.mp (List.mem_of_getElem? hv)
      obtain ⟨h1, h2⟩ := hf z hz
      refine ⟨T, _, rfl, .of upd_same, rfl, _, _, rfl, _, _, rfl, rfl, ?_⟩
      refine ⟨.int z, rfl, z, rfl, h1, h2, true, rfl, iteF ⟨_, _, rfl, sm.new nT⟩⟩
    · rintro σ H' ⟨_, _, _, sm⟩
      exact q H' sm
/-! ### is_web -/
def spIsWeb (K : PySem.W.Frag) : Sp := fun vs H Q _ => ∃ (a : Addr) (n : Nat) (ts : Ties), vs = [.ref a] ∧ WebFine H a n ts ∧ ∀ H', Same H H' → Q (.bl true) H'
theorem ok_isWeb {f fN fT fF fI : Addr} {fd fdN fdT fdF fdI : FuncData} {k : Nat} {t : Tok} (F : Fun K "is_web" "is_web" sIsWeb f fd) (B : Blt mg) (DN : Dn K mg "need_web" sNeedWeb ["value"] fN fdN) (DT : Dn K mg "is_tie" sIsTie ["value", "many"] fT fdT) (DF : Dn K mg "is_from" sIsFrom ["value", "least", "most"] fF fdF) (DI : Dn K mg "is_int" sIsInt ["value"] fI fdI)
    (gM : mg "MOST_PERSONS" = some (.int 8 t)) : FnOk P w K mg base CX0 (k + 5) f fd ["value"] (spIsWeb K) := by
  have GN : FnOk P w K mg base CX0 (k + 4) fN fdN ["value"] (spNeedWeb K) := ok_needWeb DN.F B DT DF DI gM
  refine F.ok scIsWeb (fun vs H Q E h => ?_) (fun cdv A outer s H vs Q E hr h => ?_)
  · obtain ⟨a, n, ts, rfl, _⟩ := h
    rfl
  · obtain ⟨a, n, ts, rfl, W, q⟩ := h
    refine ⟨_, pss_cons (ps_try_thru0 (pss_one (ps_expr (pe_call GN hr (by rfl) DN.g DN.F.kp DN.b .nil pass0 (pa_cons (pv 0) pa_nil))))) (pss_one (ps_ret pe_bl)), ?_⟩
    exact ⟨.ref a, rfl, a, n, ts, rfl, W, fun H' sm => q H' sm⟩
/-! ### need_seasons -/
/-- the webs of the seasons, in a tuple at a -/
structure Seas (H : Hp) (a : Addr) (n : Nat) (ws : List Ties) (as : List Addr) : Prop where
  at' : H a = some (.tup (as.map V.ref))
  webs : Paired (fun b ts => WebFine H b n ts) as ws
  one : 1 ≤ ws.length
  few : ws.length ≤ 5
theorem Seas.same {H H' : Hp} {a : Addr} {n : Nat} {ws : List Ties} {as : List Addr} (x : Seas H a n ws as) (s : Same H H') : Seas H' a n ws as := ⟨s _ _ x.at', L2.Paired.mapP x.webs fun _ _ q => q.same s, x.one, x.few⟩
theorem Seas.len {H : Hp} {a : Addr} {n : Nat} {ws : List Ties} {as : List Addr} (x : Seas H a n ws as) : as.length = ws.length := Paired.length x.webs
def spNeedSeasons (K : PySem.W.Frag) : Sp := fun vs H Q _ => ∃ (a : Addr) (n : Nat) (ws : List Ties) (as : List Addr), vs = [.ref a] ∧ Seas H a n ws as ∧ ∀ H', Same H H' → Q .non H'
theorem ok_needSeasons {f fW fN fT fF fI : Addr} {fd fdW fdN fdT fdF fdI : FuncData} {k : Nat} {t t2 : Tok} (F : Fun K "need_seasons" "need_seasons" sNeedSeasons f fd) (B : Blt mg) (DW : Dn K mg "is_web" sIsWeb ["value"] fW fdW) (DN : Dn K mg "need_web" sNeedWeb ["value"] fN fdN) (DT : Dn K mg "is_tie" sIsTie ["value", "many"] fT fdT) (DF : Dn K mg "is_from" sIsFrom ["value", "least", "most"] fF fdF) (DI : Dn K mg "is_int" sIsInt ["value"] fI fdI)
    (gM : mg "MOST_PERSONS" = some (.int 8 t)) (gS : mg "MOST_SEASONS" = some (.int 5 t2)) : FnOk P w K mg base CX0 (k + 6) f fd ["value"] (spNeedSeasons K) := by
  have GW : FnOk P w K mg base CX0 (k + 5) fW fdW ["value"] (spIsWeb K) := ok_isWeb DW.F B DN DT DF DI gM
  refine F.ok scNeedSeasons (fun vs H Q E h => ?_) (fun cdv A outer s H vs Q E hr h => ?_)
  · obtain ⟨a, n, ws, as, rfl, _⟩ := h
    rfl
  · obtain ⟨a, n, ws, as, rfl, S, q⟩ := h
    refine ⟨_, pss_cons (ps_if (PW.pt (pw_or (pt_not (pt_val (pe_callB call_isi (by rfl) B.isinstance bb_isi (pa_cons (pv 0) (pa_cons (pe_bltn (v := .ty "tuple") (by rfl) B.tuple bb_tuple rfl) pa_nil)))))
        (pw_or1 (pt_not (pt_chain op_le op_le pe_int (pe_callB call_len_seq (by rfl) B.len PySem.boot_len (pa_cons (pv 0) pa_nil)) (pe_glob (v := .int 5) (by rfl) gS ⟨_, rfl⟩)))))) (pss_one ps_never) pss_nil)
      (pss_one (ps_for PassesOwn.never rfl (pi_enumT (by rfl) B.enumerate (pa_cons (pv 0) pa_nil)) (pg_tup rfl (pgs_cons (pg_name (i := 1) scNeedSeasons.nd rfl (.inl rfl)) (pgs_cons (pg_name (i := 2) scNeedSeasons.nd rfl (.inl rfl)) pgs_nil)))
        (pss_one (ps_if (PW.pt (pw_or (pt_not (pt_val (pe_call GW hr (by rfl) DW.g DW.F.kp DW.b .nil pass0 (pa_cons (pv 2) pa_nil))))
          (pw_or1 (pt_cmpR op_ne (pe_ix ix_tup (pv 2) pe_int (fun _ _ => rfl)) (pe_ix ix_tup (pe_ix ix_tup (pv 0) pe_int (fun _ _ => rfl)) pe_int (fun _ _ => rfl)) (nomark _))))) (pss_one ps_never) pss_nil)))), ?_⟩
    have hl := S.len
    have h1 := S.one
    have h5 := S.few
    refine ⟨.ref a, rfl, .ref a, .ty "tuple", .type "tuple", .type "tuple", true, rfl, .ty _, .base (.tup S.at'), k_tt, true, rfl, ?_⟩
    refine iteF ⟨.ref a, rfl, a, _, rfl, .inr (.of S.at'), 1, _, rfl, rfl, _, rfl, ?_⟩
    rw [List.length_map, hl, decide_eq_true (by omega : (1 : Int) ≤ (ws.length : Int))]
    refine iteT ⟨_, 5, rfl, rfl, _, rfl, ?_⟩
    rw [decide_eq_true (by omega : (ws.length : Int) ≤ 5)]
    refine iteF ⟨.ref a, rfl, a, _, rfl, .of S.at', for_enumT (xs := as.map V.ref) (fun i σ H' => ∃ y1 y2, σ = [some (.ref a), y1, y2] ∧ Same H H') ?_ ?_ ?_ ?_⟩
    · exact ⟨none, none, rfl, Same.refl H⟩
    · rintro i σ H' _ ⟨_, _, _, sm⟩
      exact .of (sm _ _ S.at')
    · rintro i v T σ H' hv ⟨y1, y2, rfl, sm⟩ nT
      obtain ⟨b, hb, rfl⟩ := ref_at hv
      obtain ⟨ts, hts, W⟩ := paired_at S.webs hb
      have smT := sm.new (o := .tup [.int ((i : Nat) : Int), .ref b]) nT
      have hpos : 0 < as.length := by omega
      obtain ⟨ts0, hts0, W0⟩ := paired_at S.webs (List.getElem?_eq_getElem hpos)
      refine ⟨T, _, rfl, .of upd_same, rfl, _, _, rfl, _, _, rfl, rfl, ?_⟩
      refine ⟨.ref b, rfl, b, n, ts, rfl, W.same smT, fun H2 s2 => ?_⟩
      have sm2 := smT.trans s2
      obtain ⟨c, hc, _⟩ := id W.ok.at'
      obtain ⟨c0, hc0, _⟩ := id W0.ok.at'
      refine ⟨true, rfl, iteF ⟨.ref b, rfl, b, _, 0, natV n, rfl, rfl, .of (sm2 _ _ hc), rfl, .ref a, rfl, a, _, 0, .ref as[0], rfl, rfl, .of (sm2 _ _ S.at'), ?_, as[0], _, 0, natV n, rfl, rfl, .of (sm2 _ _ hc0), rfl, rfl, _, rfl, ?_⟩⟩
      · apply atI_nat (j := 0)
        rw [List.getElem?_map, List.getElem?_eq_getElem hpos]; rfl
      · rw [decide_eq_true rfl]
        exact iteF ⟨_, _, rfl, sm2⟩
    · rintro σ H' ⟨_, _, _, sm⟩
      exact q H' sm
end
end Ks
end
section
set_option maxRecDepth 100000
/-! dicts whose keys are heights -/
namespace Ks
open PySem PySem.Spec PyProof.Rows L2
abbrev DI := List (List Int × V)
def enc (D : DI) : List (List Key × V) := D.map fun p => (p.1.map Sum.inl, p.2)
theorem key_inj {a b : List Int} (h : a.map (Sum.inl : Int → Key) = b.map Sum.inl) : a = b := by
  have := congrArg (List.map fun x : Key => x.elim id fun _ => 0) h
  rw [List.map_map, List.map_map] at this
  have e : ((fun x : Key => x.elim id fun _ => (0 : Int)) ∘ Sum.inl) = id := rfl
  rwa [e, List.map_id, List.map_id] at this
theorem enc_keys (D : DI) : (enc D).map (·.1) = (D.map (·.1)).map fun k => k.map Sum.inl := by
  unfold enc
  rw [List.map_map, List.map_map]; rfl
theorem enc_len (D : DI) : (enc D).length = D.length := List.length_map _
theorem valV_enc (k : List Int) : ∀ D : DI, valV (enc D) (k.map Sum.inl) = valV D k
  | [] => rfl
  | p :: D => by
    show valV ((p.1.map Sum.inl, p.2) :: enc D) _ = _
    by_cases e : p.1 = k
    · rw [valV_pos e, valV_pos (p := (p.1.map Sum.inl, p.2)) (by rw [e])]
    · rw [valV_neg e, valV_neg (p := (p.1.map Sum.inl, p.2)) (fun z => e (key_inj z))]
      exact valV_enc k D
theorem any_enc (k : List Int) (D : DI) : ((enc D).any fun kv => decide (kv.1 = k.map Sum.inl)) = D.any fun kv => decide (kv.1 = k) := by
  rw [valV_any, valV_any, valV_enc]
theorem putK_enc (D : DI) (k : List Int) (v : V) : putK (enc D) (k.map Sum.inl) v = enc (putK D k v) := by
  unfold putK
  rw [any_enc]
  split
  · unfold enc
    rw [List.map_map, List.map_map]
    refine List.map_congr_left fun p _ => ?_
    show (if p.1.map Sum.inl = k.map Sum.inl then (p.1.map Sum.inl, v) else (p.1.map Sum.inl, p.2)) = _
    by_cases e : p.1 = k
    · rw [if_pos (by rw [e])]
      show _ = ((if p.1 = k then (p.1, v) else p).1.map Sum.inl, (if p.1 = k then (p.1, v) else p).2)
      rw [if_pos e]
    · rw [if_neg (fun z => e (key_inj z))]
      show _ = ((if p.1 = k then (p.1, v) else p).1.map Sum.inl, (if p.1 = k then (p.1, v) else p).2)
      rw [if_neg e]
  · unfold enc
    rw [List.map_append]; rfl
theorem mem_keys {D : DI} {k : List Int} : k ∈ D.map (·.1) ↔ (valV D k).isSome = true := by
  rw [← valV_any, List.any_eq_true]
  constructor
  · intro h
    obtain ⟨p, hp, e⟩ := List.mem_map.mp h
    exact ⟨p, hp, decide_eq_true e⟩
  · rintro ⟨p, hp, e⟩
    exact List.mem_map.mpr ⟨p, hp, of_decide_eq_true e⟩
theorem keys_putK (D : DI) (k : List Int) (v : V) : (putK D k v).map (·.1) = if (valV D k).isSome = true then D.map (·.1) else D.map (·.1) ++ [k] := by
  unfold putK
  rw [valV_any]
  split
  · rw [List.map_map]
    refine List.map_congr_left fun p _ => ?_
    show (if p.1 = k then (p.1, v) else p).1 = p.1
    split <;> rfl
  · rw [List.map_append]; rfl
theorem nd_put {D : DI} {k : List Int} {v : V} (h : (D.map (·.1)).Nodup) : ((putK D k v).map (·.1)).Nodup := by
  rw [keys_putK]
  split
  · exact h
  · rename_i hn
    exact List.nodup_append.mpr ⟨h, by simp, fun a ha b hb => by
      rw [List.mem_singleton.mp hb]
      exact fun z => hn (mem_keys.mp (z ▸ ha))⟩
theorem some_put {D : DI} {k j : List Int} {v : V} : (valV (putK D k v) j).isSome = true ↔ (valV D j).isSome = true ∨ j = k := by
  rw [valV_put]
  split
  · rename_i e; simp [e]
  · rename_i e; simp [e]
theorem dget_ht {H : Hp} {a b : Addr} {D : DI} {k : List Int} (e : H a = some (.dT (enc D))) (eb : HtAt H b k) : DGet H a (.ref b) (valV D k) := by
  rw [← valV_enc]
  exact DGet.t e (by rw [kV_inl]; exact eb)
theorem dput_ht {H : Hp} {a b : Addr} {D : DI} {k : List Int} {v : V} (e : H a = some (.dT (enc D))) (eb : HtAt H b k) (hl : D.length < sizeLine) : DPut H a (.ref b) v (upd H a (.dT (enc (putK D k v)))) := by
  rw [← putK_enc]
  exact DPut.t e (by rw [kV_inl]; exact eb) (by rw [enc_len]; exact hl)
theorem hts_kt {H H' : Hp} {qs : List Addr} {ks : List (List Int)} (x : Paired (HtAt H) qs ks) (s : KeepT H H') : Paired (HtAt H') qs ks := L2.Paired.mapP x fun _ _ q => q.kt s
theorem bb_sorted : bootBuiltins "sorted" = some (.builtin "sorted") := by decide +kernel
theorem paired_last {α β : Type} {R : α → β → Prop} : ∀ {l₁ : List α} {l₂ : List β}, Paired R l₁ l₂ → l₁ ≠ [] → ∃ r x s y, l₁ = r ++ [x] ∧ l₂ = s ++ [y] ∧ Paired R r s ∧ R x y
  | _, _, .nil, h => absurd rfl h
  | _, _, .cons (l₁ := []) q .nil, _ => ⟨[], _, [], _, rfl, rfl, .nil, q⟩
  | _, _, .cons (l₁ := c :: l₁) q t, _ => by
    obtain ⟨r, x, s, y, e1, e2, p, q'⟩ := paired_last t (by simp)
    exact ⟨_ :: r, x, _ :: s, y, by rw [e1]; rfl, by rw [e2]; rfl, .cons q p, q'⟩
section
variable {P : Program} {w : World} {K : PySem.W.Frag} {mg : Str → Option Value} {base : Heap}
/-! ### all_of -/
def spAll (K : PySem.W.Frag) : Sp := fun vs H Q _ => ∃ (a b : Addr) (n : Nat) (ts : Ties) (h0 h : List Int), vs = [.ref a, .ref b] ∧ WebOk H a n ts ∧ HtAt H b h ∧ h0.length = n ∧ 1 ≤ n ∧ Small h0 ∧ InBox h0 h ∧
  ∀ (H' : Hp) (l : Addr) (qs : List Addr) (ks : List (List Int)), Same H H' → H l = none → H' l = some (.lst (qs.map V.ref)) → Paired (HtAt H') qs ks → (∀ k, k ∈ ks ↔ Comes ts h k) → Q (.ref l) H'
theorem ok_all {f fN fA fE fT : Addr} {fd fdN fdA fdE fdT : FuncData} {k : Nat} {tk : Tok} (F : Fun K "all_of" "all_of" sAllOf f fd) (B : Blt mg) (DN : Dn K mg "next_of" sNextOf ["web", "heights"] fN fdN) (DA : Dn K mg "after" sAfter ["heights", "person", "other"] fA fdA)
    (DE : Dn K mg "everybody" sEverybody ["web"] fE fdE) (DT : Dn K mg "tied_to" sTiedTo ["web", "person"] fT fdT) (gM : mg "MOST_OUTCOMES" = some (.int 5000 tk)) : FnOk P w K mg base CX0 (k + 3) f fd ["web", "heights"] (spAll K) := by
  have GN : FnOk P w K mg base CX0 (k + 2) fN fdN ["web", "heights"] (spNext K) := ok_next DN.F B DE DT
  have GA : FnOk P w K mg base CX0 (k + 2) fA fdA ["heights", "person", "other"] (spAfter K) := ok_after DA.F
  refine F.ok scAllOf (fun vs H Q E h => ?_) (fun cdv A outer s H vs Q E hr h => ?_)
  · obtain ⟨a, b, n, ts, h0, h, rfl, _⟩ := h
    rfl
  · obtain ⟨a, b, n, ts, h0, h, rfl, W, hb, hn, h1, sm0, box0, q⟩ := h
    have hu := hu_of hr
    refine ⟨_, pss_cons (ps_par (i := 2) (j := 3) (by rfl) scAllOf.nd rfl rfl (by decide) rfl rfl (pa_cons (pe_dispT hu (pv 1) pe_bl) (pa_cons (pe_lst (pa_cons (pv 1) pa_nil)) pa_nil)) (by rfl))
      (pss_cons (ps_while PassesOwn.never (pt_cmpR (op_neEL hr.units) (pv 3) (pe_lst pa_nil) (nomark _))
        (pss_cons (ps_set (i := 4) scAllOf.nd rfl (.inl rfl) (pe_bm0 PySem.F.plainAttrs_list PySem.F.slot_list_pop PySem.F.type_list_pop mt_pop (pv 3)))
        (pss_cons (ps_for PassesOwn.never rfl (pi_tup (pe_call GN hr (by rfl) DN.g DN.F.kp DN.b .nil pass0 (pa_cons (pv 0) (pa_cons (pv 4) pa_nil)))) (pg_tup rfl (pgs_cons (pg_name (i := 5) scAllOf.nd rfl (.inl rfl)) (pgs_cons (pg_name (i := 6) scAllOf.nd rfl (.inl rfl)) pgs_nil)))
          (pss_cons (ps_set (i := 7) scAllOf.nd rfl (.inl rfl) (pe_call GA hr (by rfl) DA.g DA.F.kp DA.b .nil pass0 (pa_cons (pv 4) (pa_cons (pv 5) (pa_cons (pv 6) pa_nil)))))
          (pss_one (ps_if (pt_cmp (pc_dnotin hu (pv 7) (pv 2)))
            (pss_cons (ps_dput hu (pv 2) (pv 7) pe_bl rfl)
            (pss_one (ps_expr (pe_bm PySem.F.plainAttrs_list PySem.F.slot_list_append PySem.F.type_list_append mt_append (pv 3) (pa_cons (pv 7) pa_nil)))))
            pss_nil))))
        (pss_one (ps_if (pt_cmpR op_gt (pe_callB call_len_dT (by rfl) B.len PySem.boot_len (pa_cons (pv 2) pa_nil)) (pe_glob (v := .int 5000) (by rfl) gM ⟨_, rfl⟩) (nomark _)) (pss_one ps_never) pss_nil)))))
      (pss_one (ps_ret (pe_callB (cr_sortHtD rfl) (by rfl) B.sorted bb_sorted (pa_cons (pv 2) pa_nil))))), ?_⟩
    have hlen : h.length = n := box0.1.trans hn
    have below : Below h0.length ts := by rw [hn]; exact W.below
    have kbox : ∀ {x : List Int}, Star (Step ts) h x → InBox h0 x := fun s => InBox.comes below s.comes box0
    -- known, edge = {heights: True}, [heights]
    refine fun d nd_ => ⟨.ref b, rfl, upd_same, b, h.map Sum.inl, rfl, by rw [upd_ne (ne_of_none hb nd_), kV_inl]; exact hb, ?_⟩
    refine ⟨.ref b, rfl, (by show 1 ≤ sizeLine; decide), fun e ne => ⟨_, _, rfl, ?_⟩⟩
    have ned : e ≠ d := fun z => by rw [z, upd_same] at ne; cases ne
    have ne0 : H e = none := by rw [upd_ne ned, upd_ne ned] at ne; exact ne
    have s1 : Same H (upd (upd (upd H d (.dT [])) d (.dT [(h.map Sum.inl, .bl true)])) e (.lst [.ref b])) := (((Same.refl H).put nd_).put nd_).put ne0
    refine ⟨fun m σ H1 => ∃ (y4 y5 y6 y7 : Option V) (D : DI) (es : List (List Int)) (qe : List Addr), σ = [some (.ref a), some (.ref b), some (.ref d), some (.ref e), y4, y5, y6, y7] ∧ Same H H1 ∧ H1 d = some (.dT (enc D)) ∧ H1 e = some (.lst (qe.map V.ref)) ∧ Paired (HtAt H1) qe es ∧
        Clo (Step ts) h (fun x => (valV D x).isSome = true) (· ∈ es) (fun _ _ => False) ∧ (D.map (·.1)).Nodup ∧ es.length + (24 - D.length) ≤ m ∧ es.length ≤ D.length,
      ⟨24, none, none, none, none, [(h, .bl true)], [h], [b], rfl, s1, ?_, upd_same, .cons (s1 _ _ hb) .nil, ?_, by simp, by simp, by simp⟩, fun m σ H1 hw => ?_⟩
    · rw [upd_ne ned.symm, upd_same]; rfl
    · refine ⟨fun x hx => ?_, ?_, fun x hx => ?_, fun x hx => .inl ?_⟩
      · have : x ∈ ([(h, V.bl true)] : DI).map (·.1) := mem_keys.mpr hx
        have : x = h := by simpa using this
        rw [this]; exact .refl
      · exact mem_keys.mp (by simp)
      · have hx : x = h := by simpa using hx
        rw [hx]; exact mem_keys.mp (by simp)
      · have : x ∈ ([(h, V.bl true)] : DI).map (·.1) := mem_keys.mpr hx
        have : x = h := by simpa using this
        simp [this]
    · obtain ⟨y4, y5, y6, y7, D, es, qe, rfl, sm, hd, he, hqe, clo, nd0, hm, hed⟩ := hw
      have few24 : ∀ {D : DI}, (D.map (·.1)).Nodup → (∀ x, (valV D x).isSome = true → Star (Step ts) h x) → D.length ≤ 24 := fun {D} nd so => by
        have := few sm0 nd fun x hx => kbox (so x (mem_keys.mp hx))
        rw [List.length_map] at this
        exact this
      have d24 := few24 nd0 clo.sound
      -- while edge != []
      refine ⟨.ref e, rfl, Nat.zero_le _, fun z nz => ⟨e, z, qe.map V.ref, rfl, rfl, .of (by rw [upd_ne (ne_of_none he nz)]; exact he), .of upd_same, dat_hts (hts_kt hqe ((KeepT.refl _).new nz)), _, rfl, ?_⟩⟩
      have sm' := sm.new (o := .lst []) nz
      have hd' : (upd H1 z (.lst [])) d = some (.dT (enc D)) := by rw [upd_ne (ne_of_none hd nz)]; exact hd
      have he' : (upd H1 z (.lst [])) e = some (.lst (qe.map V.ref)) := by rw [upd_ne (ne_of_none he nz)]; exact he
      have hqe' : Paired (HtAt (upd H1 z (.lst []))) qe es := hts_kt hqe ((KeepT.refl _).new nz)
      generalize upd H1 z (.lst []) = H2 at sm' hd' he' hqe' ⊢
      rw [isEmpty_map]
      have hql : qe.length = es.length := Paired.length hqe
      cases hes : qe.isEmpty with
      | true =>
        refine iteF ?_
        have qe0 : qe = [] := List.isEmpty_iff.mp hes
        have es0 : es = [] := List.length_eq_zero_iff.mp (by rw [← hql, qe0]; rfl)
        subst es0
        -- return sorted(known)
        refine ⟨.ref d, rfl, d, enc D, D.map (·.1), rfl, .inl hd', enc_keys D, fun k hk => ?_, fun l qs' ks' nl pk pp _ => ?_⟩
        · have := (kbox (clo.sound k (mem_keys.mp hk))).1
          rw [hn] at this
          intro z; rw [z] at this; simp at this; omega
        · refine q _ l qs' ks' (sm'.new nl) (sm'.free nl) upd_same (hts_kt pp ((KeepT.refl _).new nl)) fun k => ?_
          rw [pk.mem_iff, mem_keys]
          have := clo.done (fun x h => by simp at h) (fun _ _ h => h) k
          rw [this]
          exact ⟨fun z => z.comes, fun z => z.star⟩
      | false =>
        refine iteT ⟨fun σ' H' => ∃ m', m' < m ∧ _, fun σ' H' h => h, ?_⟩
        obtain ⟨qr, bn, er, now, rfl, rfl, hqr, hbn⟩ := paired_last hqe' (fun z => by rw [z] at hes; simp at hes)
        rw [List.map_append] at he'
        have hnow : (valV D now).isSome = true := clo.front now (by simp)
        have nowbox := kbox (clo.sound now hnow)
        have ne3 : d ≠ e := ne_of hd' he' (by intro z; cases z)
        -- now = edge.pop()
        refine ⟨.ref e, rfl, .inl ⟨rfl, _, .of he'⟩, e, _, .ref bn, rfl, rfl, he', pop_at, ?_⟩
        have hd3 : (upd H2 e (.lst ((qr.map V.ref ++ [bn].map V.ref).dropLast))) d = some (.dT (enc D)) := by rw [upd_ne ne3]; exact hd'
        have he3 : (upd H2 e (.lst ((qr.map V.ref ++ [bn].map V.ref).dropLast))) e = some (.lst (qr.map V.ref)) := by rw [upd_same]; simp
        have sm3 : Same H (upd H2 e (.lst ((qr.map V.ref ++ [bn].map V.ref).dropLast))) := sm'.put ne0
        have kt3 : KeepT H2 (upd H2 e (.lst ((qr.map V.ref ++ [bn].map V.ref).dropLast))) := (KeepT.refl _).lst he'
        have hqr3 := hts_kt hqr kt3
        have hbn3 : HtAt _ bn now := hbn.kt kt3
        generalize upd H2 e (.lst ((qr.map V.ref ++ [bn].map V.ref).dropLast)) = H3 at sm3 hd3 he3 hqr3 hbn3 ⊢
        -- for person, other in next_of(web, now)
        refine ⟨.ref a, rfl, .ref bn, rfl, a, bn, n, ts, now, rfl, W.same sm3, hbn3, by rw [nowbox.1, hn], fun H4 t prs s4 ht hprs _ => ?_⟩
        obtain ⟨qp, htp, hqp⟩ := ht
        have sm4 : Same H H4 := sm3.trans s4
        refine ⟨t, rfl, ⟨_, .of htp⟩, for_tup (xs := qp.map V.ref) (fun j σ H5 => ∃ (y5 y6 y7 : Option V) (D : DI) (es : List (List Int)) (qe : List Addr), σ = [some (.ref a), some (.ref b), some (.ref d), some (.ref e), some (.ref bn), y5, y6, y7] ∧ Same H H5 ∧ H5 t = some (.tup (qp.map V.ref)) ∧ Paired (PrAt H5) qp prs ∧ HtAt H5 bn now ∧ H5 d = some (.dT (enc D)) ∧ H5 e = some (.lst (qe.map V.ref)) ∧ Paired (HtAt H5) qe es ∧
          Clo (Step ts) h (fun x => (valV D x).isSome = true) (· ∈ es) (fun x y => x = now ∧ y ∈ (prs.drop j).map fun pr => aft now pr.1 pr.2) ∧ (valV D now).isSome = true ∧ (D.map (·.1)).Nodup ∧ es.length + (24 - D.length) + 1 ≤ m ∧ es.length ≤ D.length) ?_ ?_ ?_ ?_⟩
        · rw [List.length_append, List.length_singleton] at hm hed
          refine ⟨y5, y6, y7, D, er, qr, rfl, sm4, htp, hqp, hbn3.same s4, s4 _ _ hd3, s4 _ _ he3, hts_kt hqr3 s4.keepT, ?_, hnow, nd0, by omega, by omega⟩
          refine clo.take (now := now) (fun x hx => ?_) (fun x hx => ?_) (fun y hy => ⟨rfl, ?_⟩)
          · rcases List.mem_append.mp hx with z | z
            · exact .inl z
            · exact .inr (List.mem_singleton.mp z)
          · exact List.mem_append_left _ hx
          · obtain ⟨p, o, hs, rfl⟩ := hy
            rw [List.drop_zero]
            exact List.mem_map.mpr ⟨(p, o), (hprs (p, o)).mpr hs, rfl⟩
        · rintro j σ H5 _ ⟨_, _, _, _, _, _, _, _, h5, _⟩
          exact .of h5
        · rintro j x σ H5 hx ⟨y5, y6, y7, D, es, qe, rfl, sm5, htp5, hqp5, hbn5, hd5, he5, hqe5, clo, hnow, nd, hm, hed⟩
          obtain ⟨qa, hqa, rfl⟩ := ref_at hx
          obtain ⟨pr, hpr, hpa⟩ := paired_at hqp5 hqa
          have hst : Stp ts now pr.1 pr.2 := (hprs pr).mp (List.mem_of_getElem? hpr)
          obtain ⟨hp1, hp2, _⟩ := W.below.adj hst.1
          have hstep : Step ts now (aft now pr.1 pr.2) := ⟨pr.1, pr.2, hst, rfl⟩
          have nlen : now.length = n := by rw [nowbox.1, hn]
          -- person, other = ..; told = after(now, person, other)
          refine ⟨qa, _, rfl, .of hpa, rfl, _, _, rfl, _, _, rfl, rfl, ?_⟩
          refine ⟨.ref bn, rfl, natV pr.1, rfl, natV pr.2, rfl, bn, now, pr.1, pr.2, rfl, hbn5, by omega, by omega, by have := W.small; omega, fun H6 u s6 hu6 => ?_⟩
          have sm6 := sm5.trans s6
          have hd6 := s6 _ _ hd5
          have he6 := s6 _ _ he5
          have hdrop : ∀ y, y ∈ (prs.drop j).map (fun pr => aft now pr.1 pr.2) ↔ y = aft now pr.1 pr.2 ∨ y ∈ (prs.drop (j + 1)).map (fun pr => aft now pr.1 pr.2) := fun y => by
            obtain ⟨h1, e1⟩ := List.getElem?_eq_some_iff.mp hpr
            rw [List.drop_eq_getElem_cons h1, e1, List.map_cons, List.mem_cons]
          -- if told not in known
          refine ⟨.ref u, rfl, .ref d, rfl, d, valV D (aft now pr.1 pr.2), rfl, dget_ht hd6 hu6, _, rfl, ?_⟩
          cases hv : valV D (aft now pr.1 pr.2) with
          | some v =>
            refine iteF ⟨_, _, _, D, es, qe, rfl, sm6, s6 _ _ htp5, pairs_kt hqp5 s6.keepT, hbn5.same s6, hd6, he6, hts_kt hqe5 s6.keepT, clo.skip (fun x y _ ⟨h1, h2⟩ => ?_), hnow, nd, hm, hed⟩
            rcases (hdrop y).mp h2 with z | z
            · left; rw [z, hv]; rfl
            · exact .inr ⟨h1, z⟩
          | none =>
            have d24 := few24 nd clo.sound
            refine iteT ?_
            -- known[told] = True
            refine ⟨.ref d, rfl, .ref u, rfl, d, _, rfl, dput_ht hd6 hu6 (small1000 (by omega)), ?_⟩
            have he7 : (upd H6 d (.dT (enc (putK D (aft now pr.1 pr.2) (.bl true))))) e = some (.lst (qe.map V.ref)) := by rw [upd_ne ne3.symm]; exact he6
            have kt7 : KeepT H6 (upd H6 d (.dT (enc (putK D (aft now pr.1 pr.2) (.bl true))))) := (KeepT.refl _).dT hd6
            have kt8 := kt7.lst (o := .lst (qe.map V.ref ++ [V.ref u])) he7
            -- edge.append(told)
            refine ⟨.ref e, rfl, .inl ⟨rfl, _, .of he7⟩, .ref u, rfl, e, _, _, rfl, rfl, he7, ?_, ?_⟩
            · rw [List.length_map, Paired.length hqe5]; exact small1000 (by omega)
            · have kt58 := s6.keepT.trans kt8
              have hlen : (putK D (aft now pr.1 pr.2) (.bl true)).length = D.length + 1 := by
                have := congrArg List.length (keys_putK D (aft now pr.1 pr.2) (.bl true))
                rw [hv] at this
                simpa using this
              refine ⟨_, _, _, putK D (aft now pr.1 pr.2) (.bl true), es ++ [aft now pr.1 pr.2], qe ++ [u], rfl, (sm6.put nd_).put ne0, kt58 _ _ htp5, pairs_kt hqp5 kt58, hbn5.kt kt58, ?_, ?_, ?_, ?_, ?_, nd_put nd, ?_, ?_⟩
              · rw [upd_ne ne3, upd_same]
              · rw [upd_same, List.map_append]; rfl
              · exact paired_snoc (hts_kt hqe5 kt58) (hu6.kt kt8)
              · refine clo.add (now := now) (z := aft now pr.1 pr.2) hnow hstep (fun x => some_put) (fun x => by simp) (fun x y ⟨h1, h2⟩ => ?_)
                rcases (hdrop y).mp h2 with z | z
                · left; exact some_put.mpr (.inr z)
                · exact .inr ⟨h1, z⟩
              · exact some_put.mpr (.inl hnow)
              · have d24' : (putK D (aft now pr.1 pr.2) (.bl true)).length ≤ 24 := few24 (nd_put nd) fun x hx => by
                  rcases some_put.mp hx with z | z
                  · exact clo.sound x z
                  · rw [z]; exact (clo.sound now hnow).tail hstep
                rw [List.length_append, List.length_singleton]
                omega
              · rw [List.length_append, List.length_singleton]; omega
        · rintro σ H5 ⟨y5, y6, y7, D, es, qe, rfl, sm5, htp5, hqp5, hbn5, hd5, he5, hqe5, clo, hnow, nd, hm, hed⟩
          have d24 := few24 nd clo.sound
          -- if len(known) > MOST_OUTCOMES
          refine ⟨.ref d, rfl, d, enc D, rfl, hd5, _, 5000, rfl, rfl, _, rfl, ?_⟩
          rw [enc_len, decide_eq_false (by omega)]
          refine iteF ⟨m - 1, by omega, _, _, _, _, D, es, qe, rfl, sm5, hd5, he5, hqe5, clo.skip (fun x y hr ⟨h1, h2⟩ => ?_), nd, by omega, hed⟩
          rw [List.length_map, Paired.length hqp5, List.drop_length] at h2
          cases h2
end
end Ks
end
section
set_option maxRecDepth 100000
namespace Ks
open PySem PySem.Spec PyProof.Rows L2
structure Txt (K : PySem.W.Frag) (mg : Str → Option Value) : Type where
  B : Blt mg
  aIsInt : Addr
  fIsInt : FuncData
  DIsInt : Dn K mg "is_int" sIsInt ["value"] aIsInt fIsInt
  aIsFrom : Addr
  fIsFrom : FuncData
  DIsFrom : Dn K mg "is_from" sIsFrom ["value", "least", "most"] aIsFrom fIsFrom
  aIsHeight : Addr
  fIsHeight : FuncData
  DIsHeight : Dn K mg "is_height" sIsHeight ["value"] aIsHeight fIsHeight
  aIsTie : Addr
  fIsTie : FuncData
  DIsTie : Dn K mg "is_tie" sIsTie ["value", "many"] aIsTie fIsTie
  aNeedWeb : Addr
  fNeedWeb : FuncData
  DNeedWeb : Dn K mg "need_web" sNeedWeb ["value"] aNeedWeb fNeedWeb
  aNeedHeights : Addr
  fNeedHeights : FuncData
  DNeedHeights : Dn K mg "need_heights" sNeedHeights ["web", "value"] aNeedHeights fNeedHeights
  aTiedTo : Addr
  fTiedTo : FuncData
  DTiedTo : Dn K mg "tied_to" sTiedTo ["web", "person"] aTiedTo fTiedTo
  aHanging : Addr
  fHanging : FuncData
  DHanging : Dn K mg "hanging" sHanging ["web", "person", "lot"] aHanging fHanging
  aEverybody : Addr
  fEverybody : FuncData
  DEverybody : Dn K mg "everybody" sEverybody ["web"] aEverybody fEverybody
  aOpenAt : Addr
  fOpenAt : FuncData
  DOpenAt : Dn K mg "open_at" sOpenAt ["heights", "goal", "height"] aOpenAt fOpenAt
  aNextOf : Addr
  fNextOf : FuncData
  DNextOf : Dn K mg "next_of" sNextOf ["web", "heights"] aNextOf fNextOf
  aAfter : Addr
  fAfter : FuncData
  DAfter : Dn K mg "after" sAfter ["heights", "person", "other"] aAfter fAfter
  aPieceOf : Addr
  fPieceOf : FuncData
  DPieceOf : Dn K mg "piece_of" sPieceOf ["web", "heights", "goal", "person"] aPieceOf fPieceOf
  aSourcesOf : Addr
  fSourcesOf : FuncData
  DSourcesOf : Dn K mg "sources_of" sSourcesOf ["web", "heights", "goal", "person"] aSourcesOf fSourcesOf
  aIsReached : Addr
  fIsReached : FuncData
  DIsReached : Dn K mg "is_reached" sIsReached ["web", "heights", "goal"] aIsReached fIsReached
  aAllOf : Addr
  fAllOf : FuncData
  DAllOf : Dn K mg "all_of" sAllOf ["web", "heights"] aAllOf fAllOf
  aNeedSeasons : Addr
  fNeedSeasons : FuncData
  DNeedSeasons : Dn K mg "need_seasons" sNeedSeasons ["value"] aNeedSeasons fNeedSeasons
  aIsWeb : Addr
  fIsWeb : FuncData
  DIsWeb : Dn K mg "is_web" sIsWeb ["value"] aIsWeb fIsWeb
  aSeasonOutcomes : Addr
  fSeasonOutcomes : FuncData
  DSeasonOutcomes : Dn K mg "season_outcomes" sSeasonOutcomes ["webs", "heights"] aSeasonOutcomes fSeasonOutcomes
  aSeasonComes : Addr
  fSeasonComes : FuncData
  DSeasonComes : Dn K mg "season_comes" sSeasonComes ["webs", "heights", "goal"] aSeasonComes fSeasonComes
  aSeasonFewest : Addr
  fSeasonFewest : FuncData
  DSeasonFewest : Dn K mg "season_fewest" sSeasonFewest ["webs", "heights", "goal"] aSeasonFewest fSeasonFewest
  aSeasonLows : Addr
  fSeasonLows : FuncData
  DSeasonLows : Dn K mg "season_lows" sSeasonLows ["webs", "heights"] aSeasonLows fSeasonLows
  aSeasonCount : Addr
  fSeasonCount : FuncData
  DSeasonCount : Dn K mg "season_count" sSeasonCount ["webs", "heights"] aSeasonCount fSeasonCount
  aLTaken : Addr
  fLTaken : FuncData
  DLTaken : Dn K mg "_law_taken" sLTaken ["_law_row", "_law_many"] aLTaken fLTaken
  aLPick : Addr
  fLPick : FuncData
  DLPick : Dn K mg "_law_pick" sLPick ["_law_row", "_law_things"] aLPick fLPick
  aLAlike : Addr
  fLAlike : FuncData
  DLAlike : Dn K mg "_law_alike" sLAlike ["_law_found", "_law_due"] aLAlike fLAlike
  aLIs : Addr
  fLIs : FuncData
  DLIs : Dn K mg "_law_is" sLIs ["_law_found", "_law_due"] aLIs fLIs
  aLWeb : Addr
  fLWeb : FuncData
  DLWeb : Dn K mg "_law_web" sLWeb ["_law_row", "_law_most", "_law_more"] aLWeb fLWeb
  aLHeights : Addr
  fLHeights : FuncData
  DLHeights : Dn K mg "_law_heights" sLHeights ["_law_row", "_law_many", "_law_high"] aLHeights fLHeights
  aLTies : Addr
  fLTies : FuncData
  DLTies : Dn K mg "_law_ties" sLTies ["_law_web_here", "_law_person"] aLTies fLTies
  aLStoops : Addr
  fLStoops : FuncData
  DLStoops : Dn K mg "_law_stoops" sLStoops ["_law_web_here", "_law_heights_here"] aLStoops fLStoops
  aLAfter : Addr
  fLAfter : FuncData
  DLAfter : Dn K mg "_law_after" sLAfter ["_law_heights_here", "_law_pair"] aLAfter fLAfter
  aLDrawn : Addr
  fLDrawn : FuncData
  DLDrawn : Dn K mg "_law_drawn" sLDrawn ["_law_row", "_law_web_here", "_law_heights_here", "_law_most"] aLDrawn fLDrawn
  aLGoal : Addr
  fLGoal : FuncData
  DLGoal : Dn K mg "_law_goal" sLGoal ["_law_row", "_law_web_here", "_law_heights_here"] aLGoal fLGoal
  tMP : Tok
  gMP : mg "MOST_PERSONS" = some (.int 8 tMP)
  tMH : Tok
  gMH : mg "MOST_HEIGHT" = some (.int 1000 tMH)
  tMO : Tok
  gMO : mg "MOST_OUTCOMES" = some (.int 5000 tMO)
  tMS : Tok
  gMS : mg "MOST_SEASONS" = some (.int 5 tMS)
section
variable {P : Program} {w : World} {K : PySem.W.Frag} {mg : Str → Option Value} {base : Heap}
theorem Txt.GNeedSeasons (T : Txt K mg) : FnOk P w K mg base CX0 6 T.aNeedSeasons T.fNeedSeasons ["value"] (spNeedSeasons K) := ok_needSeasons (k := 0) T.DNeedSeasons.F T.B T.DIsWeb T.DNeedWeb T.DIsTie T.DIsFrom T.DIsInt T.gMP T.gMS
theorem Txt.GNeedHeights (T : Txt K mg) : FnOk P w K mg base CX0 6 T.aNeedHeights T.fNeedHeights ["web", "value"] (spNeedHeights K) := ok_needHeights (k := 2) T.DNeedHeights.F T.B T.DIsHeight T.DIsFrom T.DIsInt T.gMH
theorem Txt.GAllOf (T : Txt K mg) : FnOk P w K mg base CX0 6 T.aAllOf T.fAllOf ["web", "heights"] (spAll K) := ok_all (k := 3) T.DAllOf.F T.B T.DNextOf T.DAfter T.DEverybody T.DTiedTo T.gMO
theorem Txt.GNextOf (T : Txt K mg) : FnOk P w K mg base CX0 6 T.aNextOf T.fNextOf ["web", "heights"] (spNext K) := ok_next (k := 4) T.DNextOf.F T.B T.DEverybody T.DTiedTo
theorem Txt.GAfter (T : Txt K mg) : FnOk P w K mg base CX0 6 T.aAfter T.fAfter ["heights", "person", "other"] (spAfter K) := ok_after (k := 5) T.DAfter.F
theorem Txt.GIsReached (T : Txt K mg) : FnOk P w K mg base CX0 6 T.aIsReached T.fIsReached ["web", "heights", "goal"] (spReach K) := ok_reach (k := 1) T.DIsReached.F T.B T.DEverybody T.DSourcesOf T.DPieceOf T.DOpenAt T.DHanging T.DTiedTo
end
end Ks
end
section
set_option maxRecDepth 100000
namespace Ks
open PySem PySem.Spec PyProof.Rows L2
/-- where the seasons begin -/
structure Start (H : Hp) (wa b : Addr) (n : Nat) (ws : List Ties) (as : List Addr) (h : List Int) : Prop where
  S : Seas H wa n ws as
  hb : HtAt H b h
  hl : h.length = n
  sm : Small h
section
variable {H H' : Hp} {wa b : Addr} {n : Nat} {ws : List Ties} {as : List Addr} {h : List Int}
theorem Start.same (x : Start H wa b n ws as h) (s : Same H H') : Start H' wa b n ws as h := ⟨x.S.same s, x.hb.same s, x.hl, x.sm⟩
theorem paired_at2 {α β : Type} {R : α → β → Prop} {l₁ : List α} {l₂ : List β} {i : Nat} {y : β} (p : Paired R l₁ l₂) (e : l₂[i]? = some y) : ∃ x, l₁[i]? = some x ∧ R x y := by
  have hi := (List.getElem?_eq_some_iff.mp e).1
  rw [← Paired.length p] at hi
  obtain ⟨z, hz, r⟩ := paired_at p (List.getElem?_eq_getElem hi)
  rw [e] at hz
  cases hz
  exact ⟨_, List.getElem?_eq_getElem hi, r⟩
theorem Start.below (x : Start H wa b n ws as h) (i : Nat) : Below h.length (ws.getD i []) := by
  rw [x.hl, List.getD_eq_getElem?_getD]
  cases e : ws[i]? with
  | none => intro t ht; cases ht
  | some ts =>
    obtain ⟨c, _, W⟩ := paired_at2 x.S.webs e
    exact W.ok.below
theorem Start.pos (x : Start H wa b n ws as h) : 1 ≤ n := by
  have h1 := x.S.one
  obtain ⟨c, _, W⟩ := paired_at2 x.S.webs (List.getElem?_eq_getElem (show 0 < ws.length by omega))
  exact W.pos
theorem Start.box (x : Start H wa b n ws as h) {i : Nat} {k : List Int} (r : Rn h ws i k) : InBox h k := by
  obtain ⟨c, r⟩ := r
  exact (Sn_ok x.below i k c r).1
theorem Start.fit (x : Start H wa b n ws as h) : Fit h := fun z hz => by
  have := small_bd x.sm z hz
  omega
/-- the web of a season -/
theorem Start.web (x : Start H wa b n ws as h) {i : Nat} {c : Addr} (e : as[i]? = some c) : WebFine H c n (ws.getD i []) := by
  obtain ⟨ts, e2, W⟩ := paired_at x.S.webs e
  rw [List.getD_eq_getElem?_getD, e2]
  exact W
theorem Start.few (x : Start H wa b n ws as h) {D : DI} (nd : (D.map (·.1)).Nodup) (hb : ∀ k, (valV D k).isSome = true → InBox h k) : D.length ≤ 24 := by
  have := Ks.few x.sm nd fun k hk => hb k (mem_keys.mp hk)
  rw [List.length_map] at this
  exact this
theorem Start.first (x : Start H wa b n ws as h) : ∃ c, as[0]? = some c ∧ ∃ e, H c = some (.tup [natV n, .ref e]) := by
  have h1 := x.S.one
  have hl := x.S.len
  have hp : 0 < as.length := by omega
  obtain ⟨ts, _, W⟩ := paired_at x.S.webs (List.getElem?_eq_getElem hp)
  obtain ⟨e, he, _⟩ := W.ok.at'
  exact ⟨as[0], List.getElem?_eq_getElem hp, e, he⟩
end
theorem mem_take {α : Type} {l : List α} {j : Nat} {o y : α} (h : l[j]? = some o) : y ∈ l.take (j + 1) ↔ y ∈ l.take j ∨ y = o := by
  rw [List.take_add_one, h, Option.toList, List.mem_append, List.mem_singleton]
theorem enc_at {D : DI} {i : Nat} {k : List Key} {v : V} (h : (enc D)[i]? = some (k, v)) : ∃ y, D[i]? = some (y, v) ∧ k = y.map Sum.inl := by
  unfold enc at h
  rw [List.getElem?_map, Option.map_eq_some_iff] at h
  obtain ⟨p, hp, e⟩ := h
  cases e
  exact ⟨p.1, hp, rfl⟩
section
variable {P : Program} {w : World} {K : PySem.W.Frag} {mg : Str → Option Value} {base : Heap}
/-! ### season_outcomes -/
def spSO (K : PySem.W.Frag) : Sp := fun vs H Q _ => ∃ (wa b : Addr) (n : Nat) (ws : List Ties) (as : List Addr) (h : List Int), vs = [.ref wa, .ref b] ∧ Start H wa b n ws as h ∧
  ∀ (H' : Hp) (l : Addr) (qs : List Addr) (ks : List (List Int)), Same H H' → H l = none → H' l = some (.lst (qs.map V.ref)) → Paired (HtAt H') qs ks → (∀ k, k ∈ ks ↔ Rn h ws ws.length k) → ks.Nodup → ks.Pairwise Asc → Q (.ref l) H'
theorem ok_so (T : Txt K mg) : FnOk P w K mg base CX0 7 T.aSeasonOutcomes T.fSeasonOutcomes ["webs", "heights"] (spSO K) := by
  refine T.DSeasonOutcomes.F.ok scSeasonOutcomes (fun vs H Q E h => ?_) (fun cdv A outer s H vs Q E hr h => ?_)
  · obtain ⟨wa, b, n, ws, as, h, rfl, _⟩ := h
    rfl
  · obtain ⟨wa, b, n, ws, as, h, rfl, S, q⟩ := h
    have hu := hu_of hr
    have B := T.B
    refine ⟨_, pss_cons (ps_expr (pe_call T.GNeedSeasons hr (by rfl) T.DNeedSeasons.g T.DNeedSeasons.F.kp T.DNeedSeasons.b .nil pass0 (pa_cons (pv 0) pa_nil)))
      (pss_cons (ps_expr (pe_call T.GNeedHeights hr (by rfl) T.DNeedHeights.g T.DNeedHeights.F.kp T.DNeedHeights.b .nil pass0 (pa_cons (pe_ix ix_tup (pv 0) pe_int (fun _ _ => rfl)) (pa_cons (pv 1) pa_nil))))
      (pss_cons (ps_set (i := 2) scSeasonOutcomes.nd rfl (.inl rfl) (pe_dispT hu (pv 1) pe_bl))
      (pss_cons (ps_for PassesOwn.never rfl (pi_tup (pv 0)) (pg_name (i := 3) scSeasonOutcomes.nd rfl (.inl rfl))
        (pss_cons (ps_set (i := 4) scSeasonOutcomes.nd rfl (.inl rfl) pe_dnewT)
        (pss_cons (ps_lock (ps_for PassesOwn.never rfl (pi_keys (pv 2)) (pg_name (i := 5) scSeasonOutcomes.nd rfl (.inl rfl))
          (pss_one (ps_for PassesOwn.never rfl (pi_list (pe_call T.GAllOf hr (by rfl) T.DAllOf.g T.DAllOf.F.kp T.DAllOf.b .nil pass0 (pa_cons (pv 3) (pa_cons (pv 5) pa_nil)))) (pg_name (i := 6) scSeasonOutcomes.nd rfl (.inl rfl))
            (pss_one (ps_dput hu (pv 4) (pv 6) pe_bl rfl))))))
        (pss_one (ps_set (i := 2) scSeasonOutcomes.nd rfl (.inl rfl) (pv 4))))))
      (pss_one (ps_ret (pe_callB (cr_sortHtD rfl) (by rfl) B.sorted bb_sorted (pa_cons (pv 2) pa_nil))))))), ?_⟩
    -- need_seasons(webs); need_heights(webs[0], heights)
    refine ⟨.ref wa, rfl, wa, n, ws, as, rfl, S.S, fun Ha sa => ?_⟩
    obtain ⟨c0, hc0, e0, he0⟩ := S.first
    refine ⟨.ref wa, rfl, wa, _, 0, .ref c0, rfl, rfl, .of (sa _ _ S.S.at'), atI_nat (j := 0) (by rw [List.getElem?_map, hc0]; rfl), .ref b, rfl, c0, b, n, _, h, rfl, sa _ _ he0, S.hb.same sa, S.hl, S.fit, fun Hb sb => ?_⟩
    have sab := sa.trans sb
    -- some = {heights: True}
    refine fun d nd => ⟨.ref b, rfl, upd_same, b, h.map Sum.inl, rfl, by rw [upd_ne (ne_of_none (sab _ _ S.hb) nd), kV_inl]; exact sab _ _ S.hb, ?_⟩
    have nd0 : H d = none := sab.free nd
    have s1 : Same H (upd (upd Hb d (.dT [])) d (.dT [(h.map Sum.inl, .bl true)])) := (sab.put nd0).put nd0
    -- for web in webs
    refine ⟨.ref wa, rfl, wa, rfl, ⟨_, .of (s1 _ _ S.S.at')⟩, for_tup (xs := as.map V.ref) (fun i σ H1 => ∃ (y3 y4 y5 y6 : Option V) (d : Addr) (D : DI), σ = [some (.ref wa), some (.ref b), some (.ref d), y3, y4, y5, y6] ∧ Same H H1 ∧ H d = none ∧ H1 d = some (.dT (enc D)) ∧ (D.map (·.1)).Nodup ∧ ∀ k, (valV D k).isSome = true ↔ Rn h ws i k) ?_ ?_ ?_ ?_⟩
    · refine ⟨none, none, none, none, d, [(h, .bl true)], rfl, s1, nd0, upd_same, by simp, fun k => ?_⟩
      rw [Rn_zero, ← mem_keys]; simp
    · rintro i σ H1 _ ⟨_, _, _, _, _, _, _, sm, _⟩
      exact .of (sm _ _ S.S.at')
    · rintro i x σ H1 hx ⟨y3, y4, y5, y6, d, D, rfl, sm, nd, hd, hnd, hD⟩
      obtain ⟨c, hc, rfl⟩ := ref_at hx
      have W := (S.web hc).same sm
      have d24 := S.few hnd fun k hk => S.box ((hD k).mp hk)
      -- later = {}
      refine fun e ne => ?_
      have ne0 : H e = none := sm.free ne
      have hde : d ≠ e := ne_of_none hd ne
      have sm2 := sm.put (o := .dT []) ne0
      have hd2 : (upd H1 e (.dT [])) d = some (.dT (enc D)) := by rw [upd_ne hde]; exact hd
      -- for now in some
      refine ⟨d, _, hd2, trivial, fun od => ?_⟩
      refine ⟨.ref d, rfl, d, od, rfl, .inr ⟨enc D, upd_same, ?_⟩⟩
      refine for_it walk_keysT (fun j σ H3 => ∃ (y5 y6 : Option V) (D2 : DI), σ = [some (.ref wa), some (.ref b), some (.ref d), some (.ref c), some (.ref e), y5, y6] ∧ Same H H3 ∧ H3 d = some (.frz od (.dT (enc D))) ∧ H3 e = some (.dT (enc D2)) ∧ (D2.map (·.1)).Nodup ∧
        ∀ k, (valV D2 k).isSome = true ↔ ∃ y, y ∈ (D.take j).map (·.1) ∧ Comes (ws.getD i []) y k) ?_ ?_ ?_ ?_
      · refine ⟨y5, y6, [], rfl, sm2.put nd, upd_same, by rw [upd_ne hde.symm, upd_same]; rfl, by simp, fun k => ?_⟩
        simp [valV_nil]
      · rintro j σ H3 _ ⟨_, _, _, _, _, h3, _⟩
        exact h3
      · rintro j x σ H3 H3' hj ⟨y5, y6, D2, rfl, sm3, hd3, he3, hnd2, hD2⟩ ⟨rfl, kk, v, qa, hkk, rfl, hqa⟩
        obtain ⟨y, hy, rfl⟩ := enc_at hkk
        rw [kV_inl] at hqa
        have yin : (valV D y).isSome = true := mem_keys.mp (List.mem_map.mpr ⟨_, List.mem_of_getElem? hy, rfl⟩)
        have ybox := S.box ((hD y).mp yin)
        have bel := S.below i
        -- for told in all_of(web, now)
        refine ⟨.ref c, rfl, .ref qa, rfl, c, qa, n, ws.getD i [], h, y, rfl, (S.web hc).ok.same sm3, hqa, S.hl, S.pos, S.sm, ybox, fun H4 l qs ks s4 nl hl hqs hks => ?_⟩
        have sm4 := sm3.trans s4
        refine ⟨l, rfl, ⟨_, .of hl⟩, for_list (xs := qs.map V.ref) (fun r σ H5 => ∃ (y6 : Option V) (D3 : DI), σ = [some (.ref wa), some (.ref b), some (.ref d), some (.ref c), some (.ref e), some (.ref qa), y6] ∧ Same H H5 ∧ H5 d = some (.frz od (.dT (enc D))) ∧ H5 e = some (.dT (enc D3)) ∧ H5 l = some (.lst (qs.map V.ref)) ∧ Paired (HtAt H5) qs ks ∧ (D3.map (·.1)).Nodup ∧
          ∀ k, (valV D3 k).isSome = true ↔ (valV D2 k).isSome = true ∨ k ∈ ks.take r) ?_ ?_ ?_ ?_⟩
        · exact ⟨y6, D2, rfl, sm4, s4 _ _ hd3, s4 _ _ he3, hl, hqs, hnd2, fun k => by simp⟩
        · rintro r σ H5 _ ⟨_, _, _, _, _, _, h5, _⟩
          exact .of h5
        · rintro r x σ H5 hx5 ⟨y6, D3, rfl, sm5, hd5, he5, hl5, hqs5, hnd3, hD3⟩
          obtain ⟨qb, hqb, rfl⟩ := ref_at hx5
          obtain ⟨kb, hkb, hht⟩ := paired_at hqs5 hqb
          have hb24 : ∀ {D3 : DI} {r : Nat}, (∀ k, (valV D3 k).isSome = true ↔ (valV D2 k).isSome = true ∨ k ∈ ks.take r) → (D3.map (·.1)).Nodup → D3.length ≤ 24 := fun {D3 r} hD3 hnd3 => S.few hnd3 fun k hk => by
            rcases (hD3 k).mp hk with z | z
            · obtain ⟨y', hy', hc'⟩ := (hD2 k).mp z
              have : (valV D y').isSome = true := mem_keys.mp (by
                obtain ⟨p, hp, e⟩ := List.mem_map.mp hy'
                exact List.mem_map.mpr ⟨p, List.mem_of_mem_take hp, e⟩)
              exact InBox.comes bel hc' (S.box ((hD y').mp this))
            · exact InBox.comes bel ((hks k).mp (List.mem_of_mem_take z)) ybox
          have := hb24 hD3 hnd3
          -- later[told] = True
          refine ⟨.ref e, rfl, .ref qb, rfl, e, _, rfl, dput_ht he5 hht (small1000 (by omega)), ?_⟩
          have kt : KeepT H5 (upd H5 e (.dT (enc (putK D3 kb (.bl true))))) := (KeepT.refl _).dT he5
          refine ⟨_, putK D3 kb (.bl true), rfl, sm5.put ne0, ?_, upd_same, ?_, hts_kt hqs5 kt, nd_put hnd3, fun k => ?_⟩
          · rw [upd_ne hde]; exact hd5
          · rw [upd_ne (ne_of hl5 he5 (by intro z; cases z))]; exact hl5
          · rw [some_put, hD3, mem_take hkb, or_assoc]
        · rintro σ H5 ⟨y6, D3, rfl, sm5, hd5, he5, hl5, hqs5, hnd3, hD3⟩
          rw [List.length_map, Paired.length hqs5, List.take_length] at hD3
          refine ⟨_, _, D3, rfl, sm5, hd5, he5, hnd3, fun k => ?_⟩
          rw [hD3, hD2, hks]
          constructor
          · rintro (⟨y', h1, h2⟩ | h2)
            · obtain ⟨p, hp, e⟩ := List.mem_map.mp h1
              exact ⟨y', List.mem_map.mpr ⟨p, (mem_take hy).mpr (.inl hp), e⟩, h2⟩
            · exact ⟨y, List.mem_map.mpr ⟨_, (mem_take hy).mpr (.inr rfl), rfl⟩, h2⟩
          · rintro ⟨y', h1, h2⟩
            obtain ⟨p, hp, e⟩ := List.mem_map.mp h1
            rcases (mem_take hy).mp hp with z | z
            · exact .inl ⟨y', List.mem_map.mpr ⟨p, z, e⟩, h2⟩
            · rw [z] at e
              have e : y = y' := e
              rw [← e] at h2
              exact .inr h2
      · rintro σ H3 ⟨y5, y6, D2, rfl, sm3, hd3, he3, hnd2, hD2⟩
        rw [enc_len, List.take_length] at hD2
        refine ⟨hd3, ?_⟩
        -- some = later
        refine ⟨.ref e, rfl, _, _, _, _, e, D2, rfl, sm3.put nd, ne0, by rw [upd_ne hde.symm]; exact he3, hnd2, fun k => ?_⟩
        rw [hD2, Rn_succ]
        constructor
        · rintro ⟨y, h1, h2⟩
          exact ⟨y, (hD y).mp (mem_keys.mp h1), h2⟩
        · rintro ⟨y, h1, h2⟩
          exact ⟨y, mem_keys.mpr ((hD y).mpr h1), h2⟩
    · rintro σ H1 ⟨y3, y4, y5, y6, d, D, rfl, sm, nd, hd, hnd, hD⟩
      rw [List.length_map, S.S.len] at hD
      -- return sorted(some)
      refine ⟨.ref d, rfl, d, enc D, D.map (·.1), rfl, .inl hd, enc_keys D, fun k hk => ?_, fun l qs' ks' nl pk pp hasc => ?_⟩
      · have := (S.box ((hD k).mp (mem_keys.mp hk))).1
        have hp := S.pos
        rw [S.hl] at this
        intro z; rw [z] at this; simp at this; omega
      · refine q _ l qs' ks' (sm.new nl) (sm.free nl) upd_same (hts_kt pp ((KeepT.refl _).new nl)) (fun k => ?_) (pk.nodup_iff.mpr hnd) hasc
        rw [pk.mem_iff, mem_keys, hD]
end
end Ks
end
section
set_option maxRecDepth 100000
namespace Ks
open PySem PySem.Spec PyProof.Rows L2
section
variable {P : Program} {w : World} {K : PySem.W.Frag} {mg : Str → Option Value} {base : Heap}
theorem Txt.GSO (T : Txt K mg) : FnOk P w K mg base CX0 7 T.aSeasonOutcomes T.fSeasonOutcomes ["webs", "heights"] (spSO K) := ok_so T
/-! ### season_count -/
def spSC (K : PySem.W.Frag) : Sp := fun vs H Q _ => ∃ (wa b : Addr) (n : Nat) (ws : List Ties) (as : List Addr) (h : List Int), vs = [.ref wa, .ref b] ∧ Start H wa b n ws as h ∧
  ∀ (H' : Hp) (ks : List (List Int)), Same H H' → (∀ k, k ∈ ks ↔ Rn h ws ws.length k) → ks.Nodup → ks.Pairwise Asc → Q (natV ks.length) H'
theorem ok_sc (T : Txt K mg) : FnOk P w K mg base CX0 8 T.aSeasonCount T.fSeasonCount ["webs", "heights"] (spSC K) := by
  refine T.DSeasonCount.F.ok scSeasonCount (fun vs H Q E h => ?_) (fun cdv A outer s H vs Q E hr h => ?_)
  · obtain ⟨wa, b, n, ws, as, h, rfl, _⟩ := h
    rfl
  · obtain ⟨wa, b, n, ws, as, h, rfl, S, q⟩ := h
    have B := T.B
    have hr6 : Room 6 _ := hr.mono (by decide)
    refine ⟨_, pss_cons (ps_expr (pe_call T.GNeedSeasons hr6 (by rfl) T.DNeedSeasons.g T.DNeedSeasons.F.kp T.DNeedSeasons.b .nil pass0 (pa_cons (pv 0) pa_nil)))
      (pss_cons (ps_expr (pe_call T.GNeedHeights hr6 (by rfl) T.DNeedHeights.g T.DNeedHeights.F.kp T.DNeedHeights.b .nil pass0 (pa_cons (pe_ix ix_tup (pv 0) pe_int (fun _ _ => rfl)) (pa_cons (pv 1) pa_nil))))
      (pss_one (ps_ret (pe_callB call_len_seq (by rfl) B.len PySem.boot_len (pa_cons (pe_call T.GSO hr (by rfl) T.DSeasonOutcomes.g T.DSeasonOutcomes.F.kp T.DSeasonOutcomes.b .nil pass0 (pa_cons (pv 0) (pa_cons (pv 1) pa_nil))) pa_nil))))), ?_⟩
    refine ⟨.ref wa, rfl, wa, n, ws, as, rfl, S.S, fun Ha sa => ?_⟩
    obtain ⟨c0, hc0, e0, he0⟩ := S.first
    refine ⟨.ref wa, rfl, wa, _, 0, .ref c0, rfl, rfl, .of (sa _ _ S.S.at'), atI_nat (j := 0) (by rw [List.getElem?_map, hc0]; rfl), .ref b, rfl, c0, b, n, _, h, rfl, sa _ _ he0, S.hb.same sa, S.hl, S.fit, fun Hb sb => ?_⟩
    have sab := sa.trans sb
    refine ⟨.ref wa, rfl, .ref b, rfl, wa, b, n, ws, as, h, rfl, S.same sab, fun H' l qs ks s' nl hl hqs hks nd asc => ?_⟩
    refine ⟨l, _, rfl, .inl (.of hl), ?_⟩
    rw [List.length_map, Paired.length hqs]
    exact q H' ks (sab.trans s') hks nd asc
/-! ### season_lows -/
/-- at each place the least height of the outcomes -/
def Lows (h : List Int) (ws : List Ties) (ms : List Int) : Prop := ms.length = h.length ∧ ∀ i, i < h.length → (∃ k, Rn h ws ws.length k ∧ at_ ms i = at_ k i) ∧ ∀ k, Rn h ws ws.length k → at_ ms i ≤ at_ k i
theorem Lows.eq {h : List Int} {ws : List Ties} {ms ms' : List Int} (a : Lows h ws ms) (b : Lows h ws ms') : ms = ms' := by
  refine ext_at (a.1.trans b.1.symm) fun i hi => ?_
  rw [a.1] at hi
  obtain ⟨⟨k, r, e⟩, l⟩ := a.2 i hi
  obtain ⟨⟨k', r', e'⟩, l'⟩ := b.2 i hi
  have h1 := l k' r'
  have h2 := l' k r
  omega
def spSL (K : PySem.W.Frag) : Sp := fun vs H Q _ => ∃ (wa b : Addr) (n : Nat) (ws : List Ties) (as : List Addr) (h : List Int), vs = [.ref wa, .ref b] ∧ Start H wa b n ws as h ∧
  ∀ (H' : Hp) (t : Addr) (ms : List Int), Same H H' → HtAt H' t ms → Lows h ws ms → Q (.ref t) H'
theorem Rn_start {h : List Int} {ws : List Ties} (i : Nat) : Rn h ws i h := by
  induction i with
  | zero => exact (Rn_zero h ws h).mpr rfl
  | succ i ih => exact (Rn_succ h ws i h).mpr ⟨h, ih, .refl _⟩
theorem bb_min : bootBuiltins "min" = some (.builtin "min") := by decide +kernel
/-- the i-th heights of some -/
theorem col_at {ks : List (List Int)} {j i : Nat} {k : List Int} (e : ks[j]? = some k) : (ks.take (j + 1)).map (fun k => at_ k i) = (ks.take j).map (fun k => at_ k i) ++ [at_ k i] := by
  rw [List.take_add_one, e, Option.toList, List.map_append]; rfl
theorem ok_sl (T : Txt K mg) : FnOk P w K mg base CX0 8 T.aSeasonLows T.fSeasonLows ["webs", "heights"] (spSL K) := by
  refine T.DSeasonLows.F.ok scSeasonLows (fun vs H Q E h => ?_) (fun cdv A outer s H vs Q E hr h => ?_)
  · obtain ⟨wa, b, n, ws, as, h, rfl, _⟩ := h
    rfl
  · obtain ⟨wa, b, n, ws, as, h, rfl, S, q⟩ := h
    have B := T.B
    have hr6 : Room 6 _ := hr.mono (by decide)
    refine ⟨_, pss_cons (ps_expr (pe_call T.GNeedSeasons hr6 (by rfl) T.DNeedSeasons.g T.DNeedSeasons.F.kp T.DNeedSeasons.b .nil pass0 (pa_cons (pv 0) pa_nil)))
      (pss_cons (ps_expr (pe_call T.GNeedHeights hr6 (by rfl) T.DNeedHeights.g T.DNeedHeights.F.kp T.DNeedHeights.b .nil pass0 (pa_cons (pe_ix ix_tup (pv 0) pe_int (fun _ _ => rfl)) (pa_cons (pv 1) pa_nil))))
      (pss_cons (ps_set (i := 2) scSeasonLows.nd rfl (.inr rfl) (pe_call T.GSO hr (by rfl) T.DSeasonOutcomes.g T.DSeasonOutcomes.F.kp T.DSeasonOutcomes.b .nil pass0 (pa_cons (pv 0) (pa_cons (pv 1) pa_nil))))
      (pss_one (ps_ret (pe_callTy call_tuple_of (by rfl) B.tuple (by decide +kernel) (pa_cons
        (pe_lc (own := [("one", 3)]) (g := gName 3) (tt := tYes) (te := tCB (rMin K) (tCons (tLc (iList K (tVar 2)) (gName 4) tYes (tOp (rIxT K) (tVar 4) (tVar 3)) [4]) tNil)) rfl scSeasonLows.nd
          (pi_range1 rfl B.range (pa_cons (pe_callB call_len_seq (by rfl) B.len PySem.boot_len (pa_cons (pv 1) pa_nil)) pa_nil))
          (blkOk_by (N := nSeasonLows) (sc := defScope sSeasonLows) (by decide +kernel))
          (fun _ _ _ _ _ => pg_name (i := 3) scSeasonLows.nd rfl (.inr rfl))
          (fun _ _ _ _ _ => pts_nil)
          (fun _ _ _ _ _ => pe_callB (cr_min rfl) (by rfl) B.min bb_min (pa_cons
            (pe_lc (own := [("told", 4)]) (g := gName 4) (tt := tYes) (te := tOp (rIxT K) (tVar 4) (tVar 3)) rfl scSeasonLows.nd
              (pi_list (pv 2)) (blkOk_by (N := nSeasonLows) (by kernel_rfl))
              (fun _ _ _ _ _ => pg_name (i := 4) scSeasonLows.nd rfl (.inl rfl))
              (fun _ _ _ _ _ => pts_nil)
              (fun _ _ _ _ _ => pe_ix ix_tup (pv 4) (pv 3) (fun _ _ => rfl))) pa_nil))) pa_nil)))))), ?_⟩
    refine ⟨.ref wa, rfl, wa, n, ws, as, rfl, S.S, fun Ha sa => ?_⟩
    obtain ⟨c0, hc0, e0, he0⟩ := S.first
    refine ⟨.ref wa, rfl, wa, _, 0, .ref c0, rfl, rfl, .of (sa _ _ S.S.at'), atI_nat (j := 0) (by rw [List.getElem?_map, hc0]; rfl), .ref b, rfl, c0, b, n, _, h, rfl, sa _ _ he0, S.hb.same sa, S.hl, S.fit, fun Hb sb => ?_⟩
    have sab := sa.trans sb
    refine ⟨.ref wa, rfl, .ref b, rfl, wa, b, n, ws, as, h, rfl, S.same sab, fun Hc l qs ks sc nl hl hqs hks nd asc => ?_⟩
    have sm := sab.trans sc
    have h4 := S.sm.1
    -- range(len(heights))
    refine ⟨.ref b, rfl, b, _, rfl, .inr (.of (sm _ _ S.hb)), _, rfl, ?_, ?_, fun D nD => ?_⟩
    · rw [List.length_map]; omega
    · rw [List.length_map]; omega
    have en : (((h.map V.int).length : Nat) : Int).toNat = h.length := by rw [List.length_map]; simp
    rw [en]
    have nlD : l ≠ D := ne_of_none hl nD
    have ks24 : ks.length ≤ 24 := few S.sm nd fun k hk => S.box ((hks k).mp hk)
    refine lc_range (fun i H1 => Same Hc H1 ∧ ∃ ms : List Int, H1 D = some (.lst (ms.map V.int)) ∧ ms.length = i ∧ ∀ j, j < i → (∃ k, Rn h ws ws.length k ∧ at_ ms j = at_ k j) ∧ ∀ k, Rn h ws ws.length k → at_ ms j ≤ at_ k j) ?_ ?_ ?_
    · exact ⟨same_upd nD, [], by rw [upd_same]; rfl, rfl, fun j hj => by omega⟩
    · rintro i H1 hi ⟨s1, ms, hD, hml, hms⟩
      have ei : (0 : Int) + ((i : Nat) : Int) = ((i : Nat) : Int) := by omega
      have hl1 := s1 _ _ hl
      refine ⟨rfl, ?_⟩
      -- [told[one] for told in some]
      refine ⟨.ref l, rfl, l, rfl, ⟨_, .of hl1⟩, fun D2 nD2 => ?_⟩
      have nlD2 : l ≠ D2 := ne_of_none hl1 nD2
      have nDD2 : D ≠ D2 := ne_of_none hD nD2
      refine lc_list (xs := qs.map V.ref) (fun j H2 => Same H1 H2 ∧ H2 D2 = some (.lst (((ks.take j).map fun k => at_ k i).map V.int))) ?_ ?_ ?_ ?_
      · exact ⟨same_upd nD2, by rw [upd_same]; rfl⟩
      · rintro j H2 _ ⟨s2, _⟩
        exact .of (s2 _ _ hl1)
      · rintro j x H2 hx ⟨s2, hD2⟩
        obtain ⟨qa, hqa, rfl⟩ := ref_at hx
        obtain ⟨k, hk, hht⟩ := paired_at hqs hqa
        have hht2 : HtAt H2 qa k := (hht.same s1).same s2
        have hkl : k.length = h.length := (S.box ((hks k).mp (List.mem_of_getElem? hk))).1
        refine ⟨rfl, ?_⟩
        refine ⟨.ref qa, rfl, _, rfl, qa, _, _, .int (at_ k i), rfl, rfl, .of hht2, by rw [ei]; exact at_ht (by omega), _, hD2, ?_, s2.put nD2, ?_⟩
        · rw [List.length_map, List.length_map, List.length_take]; exact small1000 (by omega)
        · rw [upd_same, col_at hk, List.map_append]; rfl
      · rintro H2 ⟨s2, hD2⟩
        rw [List.length_map, Paired.length hqs, List.take_length] at hD2
        refine ⟨D2, ks.map fun k => at_ k i, rfl, .of hD2, ?_, fun m hm hle => ?_⟩
        · rw [List.length_map]
          exact List.length_pos_of_mem ((hks h).mpr (Rn_start _))
        · refine ⟨_, s2 _ _ hD, ?_, (s1.trans s2).put nD, ms ++ [m], by rw [upd_same, List.map_append]; rfl, by simp [hml], fun j hj => ?_⟩
          · rw [List.length_map, hml]; exact small1000 (by omega)
          · by_cases e : j < i
            · have : at_ (ms ++ [m]) j = at_ ms j := by
                unfold at_
                simp only [List.getD_eq_getElem?_getD, List.getElem?_append_left (by omega : j < ms.length)]
              rw [this]
              exact hms j e
            · have e : j = i := by omega
              subst e
              have : at_ (ms ++ [m]) j = m := by
                unfold at_
                rw [List.getD_eq_getElem?_getD, List.getElem?_append_right (by omega), hml, Nat.sub_self]
                rfl
              rw [this]
              obtain ⟨k, hk, e⟩ := List.mem_map.mp hm
              exact ⟨⟨k, (hks k).mp hk, e.symm⟩, fun k' hk' => hle _ (List.mem_map.mpr ⟨k', (hks k').mpr hk', rfl⟩)⟩
    · rintro H1 ⟨s1, ms, hD, hml, hms⟩
      refine ⟨D, _, rfl, .inl ⟨.of hD, fun t nt => ?_⟩⟩
      exact q _ t ms ((sm.trans s1).new nt) upd_same ⟨hml, hms⟩
end
end Ks
end
section
set_option maxRecDepth 100000
namespace Ks
open PySem PySem.Spec PyProof.Rows L2
section
variable {P : Program} {w : World} {K : PySem.W.Frag} {mg : Str → Option Value} {base : Heap}
/-! ### season_comes (the loops are printed from season_outcomes' by gen_k10.py) -/
theorem sIx_neg1 {n d : Nat} (h : 1 ≤ n) : HT.sIx n d (some (-1)) = n - 1 := by
  show (if (-1 : Int) < 0 then ((-1 : Int) + (n : Int)).toNat else min (-1 : Int).toNat n) = n - 1
  rw [if_pos (by decide)]
  omega
theorem bb_any : bootBuiltins "any" = some (.builtin "any") := by decide +kernel
def spSM (K : PySem.W.Frag) : Sp := fun vs H Q _ => ∃ (wa b c : Addr) (n : Nat) (ws : List Ties) (as : List Addr) (h g : List Int), vs = [.ref wa, .ref b, .ref c] ∧ Start H wa b n ws as h ∧ HtAt H c g ∧ g.length = n ∧ Fit g ∧
  ∀ (H' : Hp) (r : Bool), Same H H' → (r = true ↔ Rn h ws ws.length g) → Q (.bl r) H'
theorem ok_sm (T : Txt K mg) : FnOk P w K mg base CX0 7 T.aSeasonComes T.fSeasonComes ["webs", "heights", "goal"] (spSM K) := by
  refine T.DSeasonComes.F.ok scSeasonComes (fun vs H Q E h => ?_) (fun cdv A outer s H vs Q E hr h => ?_)
  · obtain ⟨wa, b, c, n, ws, as, h, g, rfl, _⟩ := h
    rfl
  · obtain ⟨wa, b, c, n, ws, as, h, g, rfl, S, hg, hgl, hgf, q⟩ := h
    have hu := hu_of hr
    have B := T.B
    refine ⟨_, pss_cons (ps_expr (pe_call T.GNeedSeasons hr (by rfl) T.DNeedSeasons.g T.DNeedSeasons.F.kp T.DNeedSeasons.b .nil pass0 (pa_cons (pv 0) pa_nil)))
      (pss_cons (ps_expr (pe_call T.GNeedHeights hr (by rfl) T.DNeedHeights.g T.DNeedHeights.F.kp T.DNeedHeights.b .nil pass0 (pa_cons (pe_ix ix_tup (pv 0) pe_int (fun _ _ => rfl)) (pa_cons (pv 1) pa_nil))))
      (pss_cons (ps_expr (pe_call T.GNeedHeights hr (by rfl) T.DNeedHeights.g T.DNeedHeights.F.kp T.DNeedHeights.b .nil pass0 (pa_cons (pe_ix ix_tup (pv 0) pe_int (fun _ _ => rfl)) (pa_cons (pv 2) pa_nil))))
      (pss_cons (ps_set (i := 3) scSeasonComes.nd rfl (.inl rfl) (pe_dispT hu (pv 1) pe_bl))
      (pss_cons (ps_for PassesOwn.never rfl (pi_tup (pe_slice sl_tupA (pv 0) po_none (po_some (pe_un un_neg pe_int)))) (pg_name (i := 4) scSeasonComes.nd rfl (.inl rfl))
        (pss_cons (ps_set (i := 5) scSeasonComes.nd rfl (.inl rfl) pe_dnewT)
        (pss_cons (ps_lock (ps_for PassesOwn.never rfl (pi_keys (pv 3)) (pg_name (i := 6) scSeasonComes.nd rfl (.inl rfl))
          (pss_one (ps_for PassesOwn.never rfl (pi_list (pe_call T.GAllOf hr (by rfl) T.DAllOf.g T.DAllOf.F.kp T.DAllOf.b .nil pass0 (pa_cons (pv 4) (pa_cons (pv 6) pa_nil)))) (pg_name (i := 7) scSeasonComes.nd rfl (.inl rfl))
            (pss_one (ps_dput hu (pv 5) (pv 7) pe_bl rfl))))))
        (pss_one (ps_set (i := 3) scSeasonComes.nd rfl (.inl rfl) (pv 5))))))
      (pss_one (ps_ret (pe_callB (cr_any rfl) (by rfl) B.any bb_any (pa_cons
        (pe_lock (pe_lc (own := [("now", 6)]) (g := gName 6) (tt := tYes) (te := tCall (spReach K) [] E0 (tCons (tOp (rIxT K) (tVar 0) (tUn (rU fun i => .int (-i)) (tC (.int 1)))) (tCons (tVar 6) (tCons (tVar 2) tNil)))) rfl scSeasonComes.nd
          (pi_keys (pv 3))
          (blkOk_by (N := nSeasonComes) (sc := defScope sSeasonComes) (by decide +kernel))
          (fun _ _ _ _ _ => pg_name (i := 6) scSeasonComes.nd rfl (.inl rfl))
          (fun _ _ _ _ _ => pts_nil)
          (fun _ _ _ _ _ => pe_call T.GIsReached hr (by rfl) T.DIsReached.g T.DIsReached.F.kp T.DIsReached.b .nil pass0 (pa_cons (pe_ix ix_tup (pv 0) (pe_un un_neg pe_int) (fun _ _ => rfl)) (pa_cons (pv 6) (pa_cons (pv 2) pa_nil)))))) pa_nil)))))))), ?_⟩
    -- need_seasons(webs); need_heights(webs[0], heights); need_heights(webs[0], goal)
    refine ⟨.ref wa, rfl, wa, n, ws, as, rfl, S.S, fun Ha sa => ?_⟩
    obtain ⟨c0, hc0, e0, he0⟩ := S.first
    refine ⟨.ref wa, rfl, wa, _, 0, .ref c0, rfl, rfl, .of (sa _ _ S.S.at'), atI_nat (j := 0) (by rw [List.getElem?_map, hc0]; rfl), .ref b, rfl, c0, b, n, _, h, rfl, sa _ _ he0, S.hb.same sa, S.hl, S.fit, fun Hb1 sb1 => ?_⟩
    have sab1 := sa.trans sb1
    refine ⟨.ref wa, rfl, wa, _, 0, .ref c0, rfl, rfl, .of (sab1 _ _ S.S.at'), atI_nat (j := 0) (by rw [List.getElem?_map, hc0]; rfl), .ref c, rfl, c0, c, n, _, g, rfl, sab1 _ _ he0, hg.same sab1, hgl, hgf, fun Hb sb => ?_⟩
    have sab := sab1.trans sb
    -- some = {heights: True}
    refine fun d nd => ⟨.ref b, rfl, upd_same, b, h.map Sum.inl, rfl, by rw [upd_ne (ne_of_none (sab _ _ S.hb) nd), kV_inl]; exact sab _ _ S.hb, ?_⟩
    have s1 : Same Hb (upd (upd Hb d (.dT [])) d (.dT [(h.map Sum.inl, .bl true)])) := ((Same.refl Hb).put nd).put nd
    have hl0 := S.S.len
    have h10 := S.S.one
    obtain ⟨ar, cl, rfl⟩ := last_of (l := as) (fun z => by rw [z] at hl0; simp at hl0; omega)
    have hpre : ∀ {i : Nat} {cw : Addr}, ar[i]? = some cw → (ar ++ [cl])[i]? = some cw := fun {i cw} e => by
      rw [List.getElem?_append_left (List.getElem?_eq_some_iff.mp e).1]; exact e
    have hlar : ws.length = ar.length + 1 := by rw [← hl0, List.length_append, List.length_singleton]
    -- webs[:-1]
    have hlen : ((ar ++ [cl]).map V.ref).length = ar.length + 1 := by rw [List.length_map, List.length_append, List.length_singleton]
    refine ⟨.ref wa, rfl, 1, rfl, -1, rfl, wa, _, rfl, .of (s1 _ _ (sab _ _ S.S.at')), fun z => ?_, fun _ tw ntw => ?_⟩
    · exfalso
      have z2 := z.2
      rw [sIx_neg1 (by rw [hlen]; omega), hlen] at z2
      omega
    have hcut : cutV ((ar ++ [cl]).map V.ref) none (some (-1)) = ar.map V.ref := by
      unfold cutV
      rw [HT.sIx_none, sIx_neg1 (by rw [hlen]; omega), hlen, List.map_append]
      simp
    have ntwb : Hb tw = none := s1.free ntw
    have ntwd : tw ≠ d := fun z => by rw [z, upd_same] at ntw; cases ntw
    generalize hH0 : upd Hb tw (.tup (ar.map V.ref)) = H0
    have sb0 : Same Hb H0 := by rw [← hH0]; exact same_upd ntwb
    have S' : Start H0 wa b n ws (ar ++ [cl]) h := (S.same sab).same sb0
    have htw0 : H0 tw = some (.tup (ar.map V.ref)) := by rw [← hH0, upd_same]
    have nd0 : H0 d = none := by rw [← hH0, upd_ne ntwd.symm]; exact nd
    have s2 : Same H0 (upd (upd (upd Hb d (.dT [])) d (.dT [(h.map Sum.inl, .bl true)])) tw (.tup (cutV ((ar ++ [cl]).map V.ref) none (some (-1))))) := fun x o e => by
      rw [hcut]
      by_cases hx : x = tw
      · rw [hx, htw0] at e; rw [hx, upd_same]; exact e
      · rw [← hH0, upd_ne hx] at e
        rw [upd_ne hx]
        exact s1 _ _ e
    have hd1 : (upd (upd (upd Hb d (.dT [])) d (.dT [(h.map Sum.inl, .bl true)])) tw (.tup (cutV ((ar ++ [cl]).map V.ref) none (some (-1))))) d = some (.dT (enc [(h, .bl true)])) := by
      rw [upd_ne ntwd.symm, upd_same]; rfl
    -- for web in webs
    refine ⟨tw, rfl, ⟨_, .of (s2 _ _ htw0)⟩, for_tup (xs := ar.map V.ref) (fun i σ H1 => ∃ (y3 y4 y5 y6 : Option V) (d : Addr) (D : DI), σ = [some (.ref wa), some (.ref b), some (.ref c), some (.ref d), y3, y4, y5, y6] ∧ Same H0 H1 ∧ H0 d = none ∧ H1 d = some (.dT (enc D)) ∧ (D.map (·.1)).Nodup ∧ ∀ k, (valV D k).isSome = true ↔ Rn h ws i k) ?_ ?_ ?_ ?_⟩
    · refine ⟨none, none, none, none, d, [(h, .bl true)], rfl, s2, nd0, hd1, by simp, fun k => ?_⟩
      rw [Rn_zero, ← mem_keys]; simp
    · rintro i σ H1 _ ⟨_, _, _, _, _, _, _, sm, _⟩
      exact .of (sm _ _ htw0)
    · rintro i x σ H1 hx ⟨y3, y4, y5, y6, d, D, rfl, sm, nd, hd, hnd, hD⟩
      obtain ⟨cw, hcr, rfl⟩ := ref_at hx
      have hc : (ar ++ [cl])[i]? = some cw := hpre hcr
      have W := (S'.web hc).same sm
      have d24 := S'.few hnd fun k hk => S'.box ((hD k).mp hk)
      -- later = {}
      refine fun e ne => ?_
      have ne0 : H0 e = none := sm.free ne
      have hde : d ≠ e := ne_of_none hd ne
      have sm2 := sm.put (o := .dT []) ne0
      have hd2 : (upd H1 e (.dT [])) d = some (.dT (enc D)) := by rw [upd_ne hde]; exact hd
      -- for now in some
      refine ⟨d, _, hd2, trivial, fun od => ?_⟩
      refine ⟨.ref d, rfl, d, od, rfl, .inr ⟨enc D, upd_same, ?_⟩⟩
      refine for_it walk_keysT (fun j σ H3 => ∃ (y5 y6 : Option V) (D2 : DI), σ = [some (.ref wa), some (.ref b), some (.ref c), some (.ref d), some (.ref cw), some (.ref e), y5, y6] ∧ Same H0 H3 ∧ H3 d = some (.frz od (.dT (enc D))) ∧ H3 e = some (.dT (enc D2)) ∧ (D2.map (·.1)).Nodup ∧
        ∀ k, (valV D2 k).isSome = true ↔ ∃ y, y ∈ (D.take j).map (·.1) ∧ Comes (ws.getD i []) y k) ?_ ?_ ?_ ?_
      · refine ⟨y5, y6, [], rfl, sm2.put nd, upd_same, by rw [upd_ne hde.symm, upd_same]; rfl, by simp, fun k => ?_⟩
        simp [valV_nil]
      · rintro j σ H3 _ ⟨_, _, _, _, _, h3, _⟩
        exact h3
      · rintro j x σ H3 H3' hj ⟨y5, y6, D2, rfl, sm3, hd3, he3, hnd2, hD2⟩ ⟨rfl, kk, v, qa, hkk, rfl, hqa⟩
        obtain ⟨y, hy, rfl⟩ := enc_at hkk
        rw [kV_inl] at hqa
        have yin : (valV D y).isSome = true := mem_keys.mp (List.mem_map.mpr ⟨_, List.mem_of_getElem? hy, rfl⟩)
        have ybox := S'.box ((hD y).mp yin)
        have bel := S'.below i
        -- for told in all_of(web, now)
        refine ⟨.ref cw, rfl, .ref qa, rfl, cw, qa, n, ws.getD i [], h, y, rfl, (S'.web hc).ok.same sm3, hqa, S'.hl, S'.pos, S'.sm, ybox, fun H4 l qs ks s4 nl hl hqs hks => ?_⟩
        have sm4 := sm3.trans s4
        refine ⟨l, rfl, ⟨_, .of hl⟩, for_list (xs := qs.map V.ref) (fun r σ H5 => ∃ (y6 : Option V) (D3 : DI), σ = [some (.ref wa), some (.ref b), some (.ref c), some (.ref d), some (.ref cw), some (.ref e), some (.ref qa), y6] ∧ Same H0 H5 ∧ H5 d = some (.frz od (.dT (enc D))) ∧ H5 e = some (.dT (enc D3)) ∧ H5 l = some (.lst (qs.map V.ref)) ∧ Paired (HtAt H5) qs ks ∧ (D3.map (·.1)).Nodup ∧
          ∀ k, (valV D3 k).isSome = true ↔ (valV D2 k).isSome = true ∨ k ∈ ks.take r) ?_ ?_ ?_ ?_⟩
        · exact ⟨y6, D2, rfl, sm4, s4 _ _ hd3, s4 _ _ he3, hl, hqs, hnd2, fun k => by simp⟩
        · rintro r σ H5 _ ⟨_, _, _, _, _, _, h5, _⟩
          exact .of h5
        · rintro r x σ H5 hx5 ⟨y6, D3, rfl, sm5, hd5, he5, hl5, hqs5, hnd3, hD3⟩
          obtain ⟨qb, hqb, rfl⟩ := ref_at hx5
          obtain ⟨kb, hkb, hht⟩ := paired_at hqs5 hqb
          have hb24 : ∀ {D3 : DI} {r : Nat}, (∀ k, (valV D3 k).isSome = true ↔ (valV D2 k).isSome = true ∨ k ∈ ks.take r) → (D3.map (·.1)).Nodup → D3.length ≤ 24 := fun {D3 r} hD3 hnd3 => S'.few hnd3 fun k hk => by
            rcases (hD3 k).mp hk with z | z
            · obtain ⟨y', hy', hc'⟩ := (hD2 k).mp z
              have : (valV D y').isSome = true := mem_keys.mp (by
                obtain ⟨p, hp, e⟩ := List.mem_map.mp hy'
                exact List.mem_map.mpr ⟨p, List.mem_of_mem_take hp, e⟩)
              exact InBox.comes bel hc' (S'.box ((hD y').mp this))
            · exact InBox.comes bel ((hks k).mp (List.mem_of_mem_take z)) ybox
          have := hb24 hD3 hnd3
          -- later[told] = True
          refine ⟨.ref e, rfl, .ref qb, rfl, e, _, rfl, dput_ht he5 hht (small1000 (by omega)), ?_⟩
          have kt : KeepT H5 (upd H5 e (.dT (enc (putK D3 kb (.bl true))))) := (KeepT.refl _).dT he5
          refine ⟨_, putK D3 kb (.bl true), rfl, sm5.put ne0, ?_, upd_same, ?_, hts_kt hqs5 kt, nd_put hnd3, fun k => ?_⟩
          · rw [upd_ne hde]; exact hd5
          · rw [upd_ne (ne_of hl5 he5 (by intro z; cases z))]; exact hl5
          · rw [some_put, hD3, mem_take hkb, or_assoc]
        · rintro σ H5 ⟨y6, D3, rfl, sm5, hd5, he5, hl5, hqs5, hnd3, hD3⟩
          rw [List.length_map, Paired.length hqs5, List.take_length] at hD3
          refine ⟨_, _, D3, rfl, sm5, hd5, he5, hnd3, fun k => ?_⟩
          rw [hD3, hD2, hks]
          constructor
          · rintro (⟨y', h1, h2⟩ | h2)
            · obtain ⟨p, hp, e⟩ := List.mem_map.mp h1
              exact ⟨y', List.mem_map.mpr ⟨p, (mem_take hy).mpr (.inl hp), e⟩, h2⟩
            · exact ⟨y, List.mem_map.mpr ⟨_, (mem_take hy).mpr (.inr rfl), rfl⟩, h2⟩
          · rintro ⟨y', h1, h2⟩
            obtain ⟨p, hp, e⟩ := List.mem_map.mp h1
            rcases (mem_take hy).mp hp with z | z
            · exact .inl ⟨y', List.mem_map.mpr ⟨p, z, e⟩, h2⟩
            · rw [z] at e
              have e : y = y' := e
              rw [← e] at h2
              exact .inr h2
      · rintro σ H3 ⟨y5, y6, D2, rfl, sm3, hd3, he3, hnd2, hD2⟩
        rw [enc_len, List.take_length] at hD2
        refine ⟨hd3, ?_⟩
        -- some = later
        refine ⟨.ref e, rfl, _, _, _, _, e, D2, rfl, sm3.put nd, ne0, by rw [upd_ne hde.symm]; exact he3, hnd2, fun k => ?_⟩
        rw [hD2, Rn_succ]
        constructor
        · rintro ⟨y, h1, h2⟩
          exact ⟨y, (hD y).mp (mem_keys.mp h1), h2⟩
        · rintro ⟨y, h1, h2⟩
          exact ⟨y, mem_keys.mpr ((hD y).mpr h1), h2⟩
    · rintro σ H1 ⟨y3, y4, y5, y6, d, D, rfl, sm, nd, hd, hnd, hD⟩
      rw [List.length_map] at hD
      have d24 := S'.few hnd fun k hk => S'.box ((hD k).mp hk)
      have hcl : (ar ++ [cl])[ar.length]? = some cl := by rw [List.getElem?_append_right (Nat.le_refl _), Nat.sub_self]; rfl
      have gb0 : HtAt H0 c g := (hg.same sab).same sb0
      -- any([is_reached(webs[-1], now, goal) for now in some])
      refine ⟨d, _, hd, trivial, fun od => ?_⟩
      refine ⟨.ref d, rfl, d, od, rfl, .inr ⟨enc D, upd_same, fun L nL => ?_⟩⟩
      have ndL : d ≠ L := fun z => by rw [← z, upd_same] at nL; cases nL
      have nL0 : H0 L = none := (sm.put nd).free nL
      refine lc_it walk_keysT (fun j H3 => Same H0 H3 ∧ H3 d = some (.frz od (.dT (enc D))) ∧ ∃ bs : List Bool, H3 L = some (.lst (bs.map V.bl)) ∧ bs.length = j ∧ (bs.any id = true ↔ ∃ y, y ∈ (D.take j).map (·.1) ∧ Comes (ws.getD ar.length []) y g)) ?_ ?_ ?_ ?_
      · refine ⟨(sm.put nd).new nL, by rw [upd_ne ndL, upd_same], [], by rw [upd_same]; rfl, rfl, ?_⟩
        simp
      · rintro j H3 _ ⟨_, h3, _⟩
        exact h3
      · rintro j x H3 H3' hj ⟨sm3, hd3, bs, hL3, hbl, hbs⟩ ⟨rfl, kk, v, qa, hkk, rfl, hqa⟩
        rw [enc_len] at hj
        obtain ⟨y, hy, rfl⟩ := enc_at hkk
        rw [kV_inl] at hqa
        have yin : (valV D y).isSome = true := mem_keys.mp (List.mem_map.mpr ⟨_, List.mem_of_getElem? hy, rfl⟩)
        have ybox := S'.box ((hD y).mp yin)
        refine ⟨rfl, ?_⟩
        refine ⟨.ref wa, rfl, 1, rfl, wa, _, -1, .ref cl, rfl, rfl, .of (sm3 _ _ S'.S.at'), by rw [List.map_append]; exact atI_last _ _, .ref qa, rfl, .ref c, rfl, cl, qa, c, n, ws.getD ar.length [], y, g, rfl, ⟨(S'.web hcl).ok.same sm3, hqa, gb0.same sm3, by rw [ybox.1]; exact S'.hl, hgl⟩, fun H4 r s4 hr4 => ?_⟩
        refine ⟨_, s4 _ _ hL3, ?_, (sm3.trans s4).put nL0, ?_, bs ++ [r], by rw [upd_same, List.map_append]; rfl, by simp [hbl], ?_⟩
        · rw [List.length_map, hbl]; exact small1000 (by omega)
        · rw [upd_ne ndL]; exact s4 _ _ hd3
        · rw [List.any_append, Bool.or_eq_true, hbs]
          have e1 : [r].any id = true ↔ r = true := by simp
          rw [e1, hr4]
          constructor
          · rintro (⟨y', h1, h2⟩ | h2)
            · obtain ⟨p, hp, e⟩ := List.mem_map.mp h1
              exact ⟨y', List.mem_map.mpr ⟨p, (mem_take hy).mpr (.inl hp), e⟩, h2⟩
            · exact ⟨y, List.mem_map.mpr ⟨_, (mem_take hy).mpr (.inr rfl), rfl⟩, h2⟩
          · rintro ⟨y', h1, h2⟩
            obtain ⟨p, hp, e⟩ := List.mem_map.mp h1
            rcases (mem_take hy).mp hp with z | z
            · exact .inl ⟨y', List.mem_map.mpr ⟨p, z, e⟩, h2⟩
            · rw [z] at e
              have e : y = y' := e
              rw [← e] at h2
              exact .inr h2
      · rintro H3 ⟨sm3, hd3, bs, hL3, hbl, hbs⟩
        rw [enc_len, List.take_length] at hbs
        refine ⟨hd3, L, bs, rfl, .of (by rw [upd_ne ndL.symm]; exact hL3), ?_⟩
        refine q _ _ ((sab.trans sb0).trans (sm3.put nd)) ?_
        rw [hbs, hlar, Rn_succ]
        constructor
        · rintro ⟨y, h1, h2⟩
          exact ⟨y, (hD y).mp (mem_keys.mp h1), h2⟩
        · rintro ⟨y, h1, h2⟩
          exact ⟨y, mem_keys.mpr ((hD y).mpr h1), h2⟩
end
end Ks
end
section
set_option maxRecDepth 100000
namespace Ks
open PySem PySem.Spec PyProof.Rows L2 LamX
/-! ### season_fewest -/
/-- a def whose code object stands at c -/
def FunC (K : PySem.W.Frag) (x : Str) (st : Stmt) (f : Addr) (fd : FuncData) (c : Addr) : Prop :=
  ∃ (oc : Value) (od : Option Addr) (kV doc pm : Value) (an : Option Addr) (ct : Value) (osl : Array (Option Value)),
    fd = PySem.W.fnOf x x (defArgs st) (defBody st) (defScope st) .none kV doc pm an (.ref c) ct ∧ K.lookup f = some ⟨oc, od, .func fd, osl⟩ ∧ PySem.W.codeIn K (.ref c) x = true
theorem FunC.ok {P : Program} {w : World} {K : PySem.W.Frag} {mg : Str → Option Value} {base : Heap} {x : Str} {st : Stmt} {f c : Addr} {fd : FuncData} {N ps : List Str} {k : Nat} {sp : Sp} (F : FunC K x st f fd c) (S : FnScope N ps (defScope st)) (len : ∀ vs H Q E, sp vs H Q E → vs.length = ps.length)
    (hbody : ∀ (A : Around) (outer : List Env) (s : Shared) (H : Hp) (vs : List V) (Q : VK) (E : XK), Room k (A.deeper (envOfC x (defScope st) s.heap.objs.size f (.ref c))) → sp vs H Q E →
      ∃ t, PSs (cxOf CX0 P w K mg base N x (defScope st) f (.ref c) A outer s H E).nox (defBody st) t ∧ t { nx := fun _ H' => Q .non H', rt := Q } (L2.start N vs) H) : FnOk P w K mg base CX0 (k + 1) f fd ps sp := by
  obtain ⟨oc, od, kV, doc, pm, an, ct, osl, rfl, lk, hcd⟩ := F
  refine fn_of lk hcd S len fun A outer s H vs Q E hr hsp => ?_
  obtain ⟨t, h, q⟩ := hbody A outer s H vs Q E hr hsp
  exact ⟨t, h.nox, q⟩
/-- the heap without its tables -/
def noTbl (H : Hp) : Hp := fun b => match H b with
  | some (.tbl _) => none
  | x => x
theorem noTbl_of {H : Hp} {b : Addr} {o : HO} (h : noTbl H b = some o) : H b = some o ∧ ∀ ps, o ≠ .tbl ps := by
  unfold noTbl at h
  split at h
  · cases h
  · rename_i hn
    exact ⟨h, fun ps z => hn ps (by rw [h, z])⟩
theorem noTbl_at {H : Hp} {b : Addr} {o : HO} (h : H b = some o) (hn : ∀ ps, o ≠ .tbl ps) : noTbl H b = some o := by
  unfold noTbl
  rw [h]
  cases o with
  | tbl ps => exact absurd rfl (hn ps)
  | _ => rfl
theorem noTbl_none {H : Hp} {b : Addr} (h : H b = none) : noTbl H b = none := by
  unfold noTbl
  rw [h]
theorem ExtN.same {H H' : Hp} (e : ExtN H H') : Same (noTbl H) H' := fun b o h => e b o (noTbl_of h).1 (noTbl_of h).2
theorem same_ext {H H1 H2 : Hp} (s : Same (noTbl H) H1) (e : ExtN H1 H2) : Same (noTbl H) H2 := fun b o h => e b o (s b o h) (noTbl_of h).2
/-- tables and code objects are kept -/
def KeepB (H H' : Hp) : Prop := ∀ b o, H b = some o → (∃ ps, o = .tbl ps) ∨ (∃ φ, o = .ext φ) → H' b = some o
theorem _root_.L2.Same.keepB {H H' : Hp} (s : Same H H') : KeepB H H' := fun b o h _ => s b o h
theorem KeepB.trans {H H1 H2 : Hp} (a : KeepB H H1) (b : KeepB H1 H2) : KeepB H H2 := fun c o h k => b c o (a c o h k) k
theorem keepB_dT {H : Hp} {p : Addr} {o : HO} {kvs : List (List Key × V)} (h : H p = some (.dT kvs)) : KeepB H (upd H p o) := fun b u e k => by
  have : b ≠ p := fun z => by
    rw [z, h] at e
    rcases k with ⟨_, rfl⟩ | ⟨_, rfl⟩ <;> cases e
  rw [upd_ne this]; exact e
theorem keepB_lst {H : Hp} {p : Addr} {o : HO} {xs : List V} (h : H p = some (.lst xs)) : KeepB H (upd H p o) := fun b u e k => by
  have : b ≠ p := fun z => by
    rw [z, h] at e
    rcases k with ⟨_, rfl⟩ | ⟨_, rfl⟩ <;> cases e
  rw [upd_ne this]; exact e
theorem tabs_kb {T : List (Addr × Str)} {H H' : Hp} (t : Tabs T H) (k : KeepB H H') : Tabs T H' := fun p hp => by
  obtain ⟨ps, h1, h2, h3⟩ := t p hp
  refine ⟨ps, k _ _ h1 (.inl ⟨_, rfl⟩), h2, fun pos cv hc => ?_⟩
  obtain ⟨c, e1, e2⟩ := h3 pos cv hc
  exact ⟨c, e1, k _ _ e2 (.inr ⟨_, rfl⟩)⟩
/-- the dict tells the labels -/
def Lbl (D : DI) (L : Lb) : Prop := ∀ k, valV D k = (L k).map natV
def putL (L : Lb) (z : List Int) (c : Nat) : Lb := fun x => if x = z then some c else L x
theorem Lbl.put {D : DI} {L : Lb} (l : Lbl D L) (z : List Int) (c : Nat) : Lbl (putK D z (natV c)) (putL L z c) := fun k => by
  rw [valV_put]
  unfold putL
  by_cases e : k = z
  · rw [if_pos e, if_pos e]; rfl
  · rw [if_neg e, if_neg e]; exact l k
theorem Lbl.isSome {D : DI} {L : Lb} (l : Lbl D L) (k : List Int) : (valV D k).isSome = (L k).isSome := by rw [l k, Option.isSome_map]
theorem map_const_sum (U : List (List Int)) (c : Nat) : (U.map fun _ => c).sum = U.length * c := by
  induction U with
  | nil => simp
  | cons k r ih => rw [List.map_cons, List.sum_cons, ih, List.length_cons, Nat.succ_mul]; omega
theorem pot_max {U : List (List Int)} {L : Lb} (hU : U.length ≤ 24) (hL : ∀ x c, L x = some c → c ≤ 16) : pot U L ≤ 24000 := by
  have : ∀ V : List (List Int), pot V L ≤ V.length * 1000 := fun V => by
    unfold pot
    induction V with
    | nil => simp
    | cons k r ih =>
      rw [List.map_cons, List.sum_cons, List.length_cons, Nat.succ_mul]
      have : (L k).getD 1000 ≤ 1000 := by
        cases e : L k with
        | none => simp
        | some c => have := hL k c e; simp; omega
      omega
  have := this U
  have : U.length * 1000 ≤ 24 * 1000 := Nat.mul_le_mul_right _ hU
  omega
theorem WebFine.kt {H H' : Hp} {a : Addr} {n : Nat} {ts : Ties} (x : WebFine H a n ts) (s : KeepT H H') : WebFine H' a n ts := ⟨⟨x.ok.at'.kt s, x.ok.below, x.ok.few, x.ok.small⟩, x.pos, x.rise⟩
theorem keepT_of {H H1 : Hp} (s : Same (noTbl H) H1) : KeepT H H1 := fun b xs e => s b _ (noTbl_at e (fun ps z => by cases z))
theorem lab_init_exact {h : List Int} {ws : List Ties} : Exact (putL (fun _ => none) h 0) (Sn h ws 0) := by
  refine ⟨fun x c e => ?_, fun x c e => ?_⟩
  · unfold putL at e
    split at e
    · rename_i hx; cases e; exact ⟨hx, rfl⟩
    · cases e
  · obtain ⟨rfl, rfl⟩ := e
    exact ⟨0, Nat.le_refl _, by unfold putL; rw [if_pos rfl]⟩
theorem ne_step {ts : Ties} {n : Nat} {x y : List Int} (w : Below n ts) (hx : x.length = n) (s : Step ts x y) : x ≠ y := fun e => by
  have := sum_step (by rw [hx]; exact w) s
  rw [← e] at this
  omega
section
variable {P : Program} {w : World} {K : PySem.W.Frag} {mg : Str → Option Value} {base : Heap}
def spSF (K : PySem.W.Frag) (TT : List (Addr × Str)) : Sp := fun vs H Q _ => ∃ (wa b c : Addr) (n : Nat) (ws : List Ties) (as : List Addr) (h g : List Int), vs = [.ref wa, .ref b, .ref c] ∧ Start H wa b n ws as h ∧ HtAt H c g ∧ g.length = n ∧ Fit g ∧ Tabs TT H ∧
  ∀ (H' : Hp) (L : Lb), Same (noTbl H) H' → Exact L (Sn h ws ws.length) → Q (((L g).map natV).getD .non) H'
theorem ok_sf (T : Txt K mg) {cc cP : Addr} (FC : FunC K "season_fewest" sSeasonFewest T.aSeasonFewest T.fSeasonFewest cc) (TB : TabB base mg cc cP) {TT : List (Addr × Str)} (hmT : (cP, ("season_fewest.<locals>.<lambda>" : Str)) ∈ TT) (huT : ∀ p ∈ TT, p.1 = cP → p.2 = ("season_fewest.<locals>.<lambda>" : Str)) :
    FnOk P w K mg base CX0 7 T.aSeasonFewest T.fSeasonFewest ["webs", "heights", "goal"] (spSF K TT) := by
  refine FC.ok scSeasonFewest (fun vs H Q E h => ?_) (fun A outer s H vs Q E hr h => ?_)
  · obtain ⟨wa, b, c, n, ws, as, h, g, rfl, _⟩ := h
    rfl
  · obtain ⟨wa, b, c, n, ws, as, h, g, rfl, S, hg, hgl, hgf, hT, q⟩ := h
    have hu := hu_of hr
    have B := T.B
    have hr1 : Room 1 _ := hr.mono (by decide)
    refine ⟨_, pss_cons (ps_expr (pe_call T.GNeedSeasons hr (by rfl) T.DNeedSeasons.g T.DNeedSeasons.F.kp T.DNeedSeasons.b .nil pass0 (pa_cons (pv 0) pa_nil)))
      (pss_cons (ps_expr (pe_call T.GNeedHeights hr (by rfl) T.DNeedHeights.g T.DNeedHeights.F.kp T.DNeedHeights.b .nil pass0 (pa_cons (pe_ix ix_tup (pv 0) pe_int (fun _ _ => rfl)) (pa_cons (pv 1) pa_nil))))
      (pss_cons (ps_expr (pe_call T.GNeedHeights hr (by rfl) T.DNeedHeights.g T.DNeedHeights.F.kp T.DNeedHeights.b .nil pass0 (pa_cons (pe_ix ix_tup (pv 0) pe_int (fun _ _ => rfl)) (pa_cons (pv 2) pa_nil))))
      (pss_cons (ps_set (i := 10) scSeasonFewest.nd rfl (.inr rfl) (pe_dispT hu (pv 1) pe_int))
      (pss_cons (ps_for PassesOwn.never rfl (pi_tup (pv 0)) (pg_name (i := 3) scSeasonFewest.nd rfl (.inl rfl))
        (pss_cons (ps_set (i := 4) scSeasonFewest.nd rfl (.inl rfl) (pe_sortedLam (i := 10) (T := TT) rfl (by rfl) B.sorted rfl rfl TB rfl hmT huT hr1))
        (pss_one (ps_while PassesOwn.never (pt_cmpR (op_neEL hr.units) (pv 4) (pe_lst pa_nil) (nomark _))
          (pss_cons (ps_set (i := 5) scSeasonFewest.nd rfl (.inl rfl) (pe_lst pa_nil))
          (pss_cons (ps_for PassesOwn.never rfl (pi_list (pv 4)) (pg_name (i := 6) scSeasonFewest.nd rfl (.inl rfl))
            (pss_one (ps_for PassesOwn.never rfl (pi_tup (pe_call T.GNextOf hr (by rfl) T.DNextOf.g T.DNextOf.F.kp T.DNextOf.b .nil pass0 (pa_cons (pv 3) (pa_cons (pv 6) pa_nil)))) (pg_tup rfl (pgs_cons (pg_name (i := 7) scSeasonFewest.nd rfl (.inl rfl)) (pgs_cons (pg_name (i := 8) scSeasonFewest.nd rfl (.inl rfl)) pgs_nil)))
              (pss_cons (ps_set (i := 9) scSeasonFewest.nd rfl (.inl rfl) (pe_call T.GAfter hr (by rfl) T.DAfter.g T.DAfter.F.kp T.DAfter.b .nil pass0 (pa_cons (pv 6) (pa_cons (pv 7) (pa_cons (pv 8) pa_nil)))))
              (pss_one (ps_if (pt_cmpR op_gt (pe_dget2 hu (pv 10) (pv 9) (pe_op op_pow pe_int pe_int) ⟨rfl, rfl, rfl, rfl⟩) (pe_op op_add (pe_dget hu (pv 10) (pv 6) (fun _ _ => rfl)) pe_int) (nomark _))
                (pss_cons (ps_dput hu (pv 10) (pv 9) (pe_op op_add (pe_dget hu (pv 10) (pv 6) (fun _ _ => rfl)) pe_int) rfl)
                (pss_one (ps_expr (pe_bm PySem.F.plainAttrs_list PySem.F.slot_list_append PySem.F.type_list_append mt_append (pv 5) (pa_cons (pv 9) pa_nil)))))
                pss_nil))))))
          (pss_one (ps_set (i := 4) scSeasonFewest.nd rfl (.inl rfl) (pv 5)))))))))
      (pss_one (ps_ret (pe_dget1 hu (pv 10) (pv 2) ⟨rfl, rfl, rfl, rfl⟩))))))), ?_⟩
    refine ⟨.ref wa, rfl, wa, n, ws, as, rfl, S.S, fun Ha sa => ?_⟩
    obtain ⟨c0, hc0, e0, he0⟩ := S.first
    refine ⟨.ref wa, rfl, wa, _, 0, .ref c0, rfl, rfl, .of (sa _ _ S.S.at'), atI_nat (j := 0) (by rw [List.getElem?_map, hc0]; rfl), .ref b, rfl, c0, b, n, _, h, rfl, sa _ _ he0, S.hb.same sa, S.hl, S.fit, fun Hb1 sb1 => ?_⟩
    have sab1 := sa.trans sb1
    refine ⟨.ref wa, rfl, wa, _, 0, .ref c0, rfl, rfl, .of (sab1 _ _ S.S.at'), atI_nat (j := 0) (by rw [List.getElem?_map, hc0]; rfl), .ref c, rfl, c0, c, n, _, g, rfl, sab1 _ _ he0, hg.same sab1, hgl, hgf, fun Hb sb => ?_⟩
    have sab := sab1.trans sb
    -- best = {heights: 0}
    refine fun d nd => ⟨.ref b, rfl, upd_same, b, h.map Sum.inl, rfl, by rw [upd_ne (ne_of_none (sab _ _ S.hb) nd), kV_inl]; exact sab _ _ S.hb, ?_⟩
    have nd00 : noTbl H d = none := noTbl_none (sab.free nd)
    have sn : Same (noTbl H) Hb := fun x o e => sab x o (noTbl_of e).1
    have s1 : Same (noTbl H) (upd (upd Hb d (.dT [])) d (.dT [(h.map Sum.inl, .int 0)])) := (sn.put nd00).put nd00
    have T1 : Tabs TT (upd (upd Hb d (.dT [])) d (.dT [(h.map Sum.inl, .int 0)])) := tabs_kb hT (sab.keepB.trans ((same_upd nd).keepB.trans (keepB_dT upd_same)))
    have at0 : ∀ {H1 : Hp}, Same (noTbl H) H1 → H1 wa = some (.tup (as.map V.ref)) := fun s => keepT_of s _ _ S.S.at'
    -- for web in webs
    refine ⟨.ref wa, rfl, wa, rfl, ⟨_, .of (at0 s1)⟩, for_tup (xs := as.map V.ref) (fun i σ H1 => ∃ (y3 y4 y5 y6 y7 y8 y9 : Option V) (D : DI) (L : Lb), σ = [some (.ref wa), some (.ref b), some (.ref c), y3, y4, y5, y6, y7, y8, y9, some (.ref d)] ∧ Same (noTbl H) H1 ∧ Tabs TT H1 ∧ H1 d = some (.dT (enc D)) ∧ (D.map (·.1)).Nodup ∧ Lbl D L ∧ Exact L (Sn h ws i)) ?_ ?_ ?_ ?_⟩
    · refine ⟨none, none, none, none, none, none, none, putK [] h (natV 0), putL (fun _ => none) h 0, rfl, s1, T1, upd_same, nd_put (by simp), Lbl.put (fun k => rfl) h 0, lab_init_exact⟩
    · rintro i σ H1 _ ⟨_, _, _, _, _, _, _, _, _, _, sm, _⟩
      exact .of (at0 sm)
    · rintro i x σ H1 hx ⟨y3, y4, y5, y6, y7, y8, y9, D, L, rfl, sm, hT1, hd, hnd, hL, hE⟩
      obtain ⟨cw, hcw, rfl⟩ := ref_at hx
      have Wf := S.web hcw
      have bel : Below h.length (ws.getD i []) := S.below i
      have snd : ∀ {L : Lb} {F : List Int → Prop} {TD : List Int → List Int → Prop}, Lab (ws.getD i []) (Sn h ws i) L F TD → ∀ x c, L x = some c → InBox h x ∧ c ≤ 16 := fun l x c e => by
        have h1 : Sn h ws (i + 1) x c := l.sound x c e
        exact ⟨(Sn_ok S.below (i + 1) x c h1).1, Sn_small S.sm S.below h1⟩
      have few24 : ∀ {D : DI} {L : Lb} {F : List Int → Prop} {TD : List Int → List Int → Prop}, (D.map (·.1)).Nodup → Lbl D L → Lab (ws.getD i []) (Sn h ws i) L F TD → D.length ≤ 24 := fun {D L F TD} nd hl l => S.few nd fun k hk => by
        rw [hl.isSome] at hk
        obtain ⟨c, e⟩ := Option.isSome_iff_exists.mp hk
        exact (snd l k c e).1
      have lab0 : Lab (ws.getD i []) (Sn h ws i) L (fun x => ∃ c, L x = some c) (fun _ _ => False) := Lab.init hE fun x => Iff.rfl
      have d24 := few24 hnd hL lab0
      -- now = sorted(best, key=..)
      refine ⟨hT1, d, enc D, D.map (·.1), fun k => (((L k).getD 0 : Nat) : Int), rfl, hd, enc_keys D, fun k hk => ?_, by rw [List.length_map]; omega, fun H2 pn qs ks e2 hT2 npn pk pq => ?_⟩
      · rw [valV_enc, hL k]
        have := mem_keys.mp hk
        rw [hL.isSome] at this
        obtain ⟨cc, e⟩ := Option.isSome_iff_exists.mp this
        show (L k).map natV = some (V.int (((L k).getD 0 : Nat) : Int)); rw [e]; rfl
      have sm2 := same_ext sm e2
      have npn0 : noTbl H pn = none := sm2.free npn
      have hd2 : H2 d = some (.dT (enc D)) := e2 _ _ hd (fun ps z => by cases z)
      have ndpn : d ≠ pn := ne_of_none hd2 npn
      refine ⟨fun m σ H3 => ∃ (y5 y6 y7 y8 y9 : Option V) (pn : Addr) (qs : List Addr) (es : List (List Int)) (D : DI) (L : Lb), σ = [some (.ref wa), some (.ref b), some (.ref c), some (.ref cw), some (.ref pn), y5, y6, y7, y8, y9, some (.ref d)] ∧ Same (noTbl H) H3 ∧ Tabs TT H3 ∧ H3 d = some (.dT (enc D)) ∧ (D.map (·.1)).Nodup ∧ Lbl D L ∧
          H3 pn = some (.lst (qs.map V.ref)) ∧ noTbl H pn = none ∧ Paired (HtAt H3) qs es ∧ Lab (ws.getD i []) (Sn h ws i) L (· ∈ es) (fun _ _ => False) ∧ es.length + pot (box h) L ≤ m ∧ es.length + pot (box h) L ≤ 24100,
        ⟨ks.length + pot (box h) L, y5, y6, y7, y8, y9, pn, qs, ks, D, L, rfl, sm2.put npn0, tabs_kb hT2 (same_upd npn).keepB, by rw [upd_ne ndpn]; exact hd2, hnd, hL, upd_same, npn0, hts_kt pq ((KeepT.refl _).new npn), ?_, Nat.le_refl _, ?_⟩, fun m σ H3 hw => ?_⟩
      · refine Lab.init hE fun x => ?_
        rw [pk.mem_iff, mem_keys, hL.isSome, Option.isSome_iff_exists]
      · have := pk.length_eq
        rw [List.length_map] at this
        have := pot_max (box_len S.sm) fun x c e => (snd lab0 x c e).2
        omega
      · obtain ⟨y5, y6, y7, y8, y9, pn, qs, es, D, L, rfl, sm3, hT3, hd3, hnd3, hL3, hpn, npn0, hqs, lab, hm, hab⟩ := hw
        -- while now != []
        refine ⟨.ref pn, rfl, Nat.zero_le _, fun z nz => ⟨pn, z, qs.map V.ref, rfl, rfl, .of (by rw [upd_ne (ne_of_none hpn nz)]; exact hpn), .of upd_same, dat_hts (hts_kt hqs ((KeepT.refl _).new nz)), _, rfl, ?_⟩⟩
        have sm4 := sm3.new (o := .lst []) nz
        have hT4 : Tabs TT (upd H3 z (.lst [])) := tabs_kb hT3 (same_upd nz).keepB
        have hd4 : (upd H3 z (.lst [])) d = some (.dT (enc D)) := by rw [upd_ne (ne_of_none hd3 nz)]; exact hd3
        have hpn4 : (upd H3 z (.lst [])) pn = some (.lst (qs.map V.ref)) := by rw [upd_ne (ne_of_none hpn nz)]; exact hpn
        have hqs4 : Paired (HtAt (upd H3 z (.lst []))) qs es := hts_kt hqs ((KeepT.refl _).new nz)
        generalize upd H3 z (.lst []) = H4 at sm4 hT4 hd4 hpn4 hqs4 ⊢
        rw [isEmpty_map]
        have hql : qs.length = es.length := Paired.length hqs
        cases hes : qs.isEmpty with
        | true =>
          have qe0 : qs = [] := List.isEmpty_iff.mp hes
          have es0 : es = [] := List.length_eq_zero_iff.mp (by rw [← hql, qe0]; rfl)
          subst es0
          refine iteF ⟨_, _, _, _, _, _, _, D, L, rfl, sm4, hT4, hd4, hnd3, hL3, ?_⟩
          exact lab.done (fun x h => by simp at h) fun _ _ h => h
        | false =>
          have hpos : 1 ≤ es.length := by
            rw [← hql]
            cases qs with
            | nil => simp at hes
            | cons _ _ => simp
          refine iteT ⟨fun σ' H' => ∃ m', m' < m ∧ _, fun σ' H' h => h, ?_⟩
          -- later = []
          refine ⟨Nat.zero_le _, fun pl npl => ?_⟩
          have npl0 : noTbl H pl = none := sm4.free npl
          have nppl : pn ≠ pl := ne_of_none hpn4 npl
          have ndpl : d ≠ pl := ne_of_none hd4 npl
          have ndpn : d ≠ pn := ne_of hd4 hpn4 (by intro z; cases z)
          -- for told in now
          refine ⟨.ref pn, rfl, pn, rfl, ⟨_, .of (by rw [upd_ne nppl]; exact hpn4)⟩, for_list (xs := qs.map V.ref) (fun j σ H5 => ∃ (y6 y7 y8 y9 : Option V) (ql : List Addr) (ls : List (List Int)) (D : DI) (L : Lb), σ = [some (.ref wa), some (.ref b), some (.ref c), some (.ref cw), some (.ref pn), some (.ref pl), y6, y7, y8, y9, some (.ref d)] ∧ Same (noTbl H) H5 ∧ Tabs TT H5 ∧ H5 d = some (.dT (enc D)) ∧ (D.map (·.1)).Nodup ∧ Lbl D L ∧
            H5 pn = some (.lst (qs.map V.ref)) ∧ Paired (HtAt H5) qs es ∧ H5 pl = some (.lst (ql.map V.ref)) ∧ Paired (HtAt H5) ql ls ∧ Lab (ws.getD i []) (Sn h ws i) L (fun x => x ∈ es.drop j ∨ x ∈ ls) (fun _ _ => False) ∧ ls.length + pot (box h) L + 1 ≤ m ∧ ls.length + pot (box h) L ≤ 24100) ?_ ?_ ?_ ?_⟩
          · refine ⟨y6, y7, y8, y9, [], [], D, L, rfl, sm4.put npl0, tabs_kb hT4 (same_upd npl).keepB, by rw [upd_ne ndpl]; exact hd4, hnd3, hL3, by rw [upd_ne nppl]; exact hpn4, hts_kt hqs4 ((KeepT.refl _).new npl), upd_same, .nil, ?_, by simp; omega, by simp; omega⟩
            refine ⟨lab.sound, lab.base, fun x hx => ?_, fun x cc e => ?_⟩
            · rcases hx with z | z
              · exact lab.front x (by simpa using z)
              · cases z
            · rcases lab.closed x cc e with z | z
              · exact .inl (.inl (by simpa using z))
              · exact .inr z
          · rintro j σ H5 _ ⟨_, _, _, _, _, _, _, _, _, _, _, _, _, _, h5, _⟩
            exact .of h5
          · rintro j x σ H5 hx ⟨y6, y7, y8, y9, ql, ls, D, L, rfl, sm5, hT5, hd5, hnd5, hL5, hpn5, hqs5, hpl5, hqls5, lab, hm5, hab5⟩
            obtain ⟨qt, hqt, rfl⟩ := ref_at hx
            obtain ⟨tk, htk, hht⟩ := paired_at hqs5 hqt
            obtain ⟨hj1, hj2⟩ := List.getElem?_eq_some_iff.mp htk
            have hdropj : ∀ y, y ∈ es.drop j ↔ y = tk ∨ y ∈ es.drop (j + 1) := fun y => mem_drop htk
            obtain ⟨ct, hct⟩ := lab.front tk (.inl ((hdropj tk).mpr (.inl rfl)))
            have tbox := (snd lab tk ct hct).1
            have tlen : tk.length = n := by rw [tbox.1, S.hl]
            -- for person, other in next_of(web, told)
            refine ⟨.ref cw, rfl, .ref qt, rfl, cw, qt, n, ws.getD i [], tk, rfl, (Wf.kt (keepT_of sm5)).ok, hht, tlen, fun H6 t prs s6 ht hprs _ => ?_⟩
            obtain ⟨qp, htp, hqp⟩ := ht
            refine ⟨t, rfl, ⟨_, .of htp⟩, for_tup (xs := qp.map V.ref) (fun r σ H7 => ∃ (y7 y8 y9 : Option V) (ql : List Addr) (ls : List (List Int)) (D : DI) (L : Lb) (ct : Nat), σ = [some (.ref wa), some (.ref b), some (.ref c), some (.ref cw), some (.ref pn), some (.ref pl), some (.ref qt), y7, y8, y9, some (.ref d)] ∧ Same (noTbl H) H7 ∧ Tabs TT H7 ∧ H7 d = some (.dT (enc D)) ∧ (D.map (·.1)).Nodup ∧ Lbl D L ∧
              H7 pn = some (.lst (qs.map V.ref)) ∧ Paired (HtAt H7) qs es ∧ H7 pl = some (.lst (ql.map V.ref)) ∧ Paired (HtAt H7) ql ls ∧ Lab (ws.getD i []) (Sn h ws i) L (fun x => x ∈ es.drop (j + 1) ∨ x ∈ ls) (fun x y => x = tk ∧ y ∈ (prs.drop r).map fun pr => aft tk pr.1 pr.2) ∧ ls.length + pot (box h) L + 1 ≤ m ∧ ls.length + pot (box h) L ≤ 24100 ∧
              H7 t = some (.tup (qp.map V.ref)) ∧ Paired (PrAt H7) qp prs ∧ HtAt H7 qt tk ∧ L tk = some ct) ?_ ?_ ?_ ?_⟩
            · refine ⟨y7, y8, y9, ql, ls, D, L, ct, rfl, sm5.trans s6, tabs_kb hT5 s6.keepB, s6 _ _ hd5, hnd5, hL5, s6 _ _ hpn5, hts_kt hqs5 s6.keepT, s6 _ _ hpl5, hts_kt hqls5 s6.keepT, ?_, hm5, hab5, htp, hqp, hht.same s6, hct⟩
              refine lab.take (now := tk) (fun x hx => ?_) (fun x hx => ?_) (fun y hy => ⟨rfl, ?_⟩)
              · rcases hx with z | z
                · rcases (hdropj x).mp z with z | z
                  · exact .inr z
                  · exact .inl (.inl z)
                · exact .inl (.inr z)
              · rcases hx with z | z
                · exact .inl ((hdropj x).mpr (.inr z))
                · exact .inr z
              · obtain ⟨p, o, hs, rfl⟩ := hy
                rw [List.drop_zero]
                exact List.mem_map.mpr ⟨(p, o), (hprs (p, o)).mpr hs, rfl⟩
            · rintro r σ H7 _ ⟨_, _, _, _, _, _, _, _, _, _, _, _, _, _, _, _, _, _, _, _, _, h7, _⟩
              exact .of h7
            · rintro r x σ H7 hx7 ⟨y7, y8, y9, ql, ls, D, L, ct, rfl, sm7, hT7, hd7, hnd7, hL7, hpn7, hqs7, hpl7, hqls7, lab, hm7, hab7, htp7, hqp7, hht7, hct⟩
              obtain ⟨qa, hqa, rfl⟩ := ref_at hx7
              obtain ⟨pr, hpr, hpa⟩ := paired_at hqp7 hqa
              have hst : Stp (ws.getD i []) tk pr.1 pr.2 := (hprs pr).mp (List.mem_of_getElem? hpr)
              obtain ⟨hp1, hp2, _⟩ := bel.adj hst.1
              rw [S.hl] at hp1 hp2
              have hstep : Step (ws.getD i []) tk (aft tk pr.1 pr.2) := ⟨pr.1, pr.2, hst, rfl⟩
              have h4 := S.sm.1
              have hl4 := S.hl
              have c16 := (snd lab tk ct hct).2
              -- person, other = ..; new = after(told, person, other)
              refine ⟨qa, _, rfl, .of hpa, rfl, _, _, rfl, _, _, rfl, rfl, ?_⟩
              refine ⟨.ref qt, rfl, natV pr.1, rfl, natV pr.2, rfl, qt, tk, pr.1, pr.2, rfl, hht7, by omega, by omega, by omega, fun H8 u s8 hu8 => ?_⟩
              have sm8 := sm7.trans s8
              have hd8 := s8 _ _ hd7
              have hpl8 := s8 _ _ hpl7
              have hdrop : ∀ y, y ∈ (prs.drop r).map (fun pr => aft tk pr.1 pr.2) ↔ y = aft tk pr.1 pr.2 ∨ y ∈ (prs.drop (r + 1)).map (fun pr => aft tk pr.1 pr.2) := fun y => by
                obtain ⟨h1, e1⟩ := List.getElem?_eq_some_iff.mp hpr
                rw [List.drop_eq_getElem_cons h1, e1, List.map_cons, List.mem_cons]
              have hvt : valV D tk = some (natV ct) := by rw [hL7 tk, hct]; rfl
              have gt_ : DGet H8 d (.ref qt) (some (natV ct)) := by rw [← hvt]; exact dget_ht hd8 (hht7.same s8)
              -- if best.get(new, 10 ** 6) > best[told] + 1
              refine ⟨.ref d, rfl, d, rfl, .inr ⟨_, .inl hd8⟩, .ref u, rfl, 10, 6, rfl, rfl, ⟨by decide, by decide, by decide⟩, valV D (aft tk pr.1 pr.2), dget_ht hd8 hu8, .ref d, rfl, .ref qt, rfl, d, natV ct, rfl, gt_, (ct : Int), 1, rfl, rfl, ?_⟩
              have nez : tk ≠ aft tk pr.1 pr.2 := ne_step (by exact bel) (by exact tbox.1) hstep
              have zbox : aft tk pr.1 pr.2 ∈ box h := mem_box S.sm (tbox.step bel hstep)
              have d24 := few24 hnd7 hL7 lab
              have nepd : pl ≠ d := (ne_of hpl8 hd8 (by intro z; cases z))
              have nepn : pn ≠ pl := nppl
              have sk : ∀ dd, L (aft tk pr.1 pr.2) = some dd → dd ≤ ct + 1 → Lab (ws.getD i []) (Sn h ws i) L (fun x => x ∈ es.drop (j + 1) ∨ x ∈ ls) (fun x y => x = tk ∧ y ∈ (prs.drop (r + 1)).map fun pr => aft tk pr.1 pr.2) := fun dd hdd hle => lab.skip fun x y cx hx ⟨h1, h2⟩ => by
                rcases (hdrop y).mp h2 with z | z
                · left
                  rw [h1, hct] at hx; cases hx
                  exact ⟨dd, hle, by rw [z]; exact hdd⟩
                · exact .inr ⟨h1, z⟩
              by_cases hcond : ∀ dd, L (aft tk pr.1 pr.2) = some dd → ct + 1 < dd
              · -- the label is lessened
                have key : ∃ dv : Int, ((L (aft tk pr.1 pr.2)).map natV).getD (V.int ((10:Int) ^ (6:Int).toNat)) = .int dv ∧ (ct : Int) + 1 < dv := by
                  cases e : L (aft tk pr.1 pr.2) with
                  | none => exact ⟨(10:Int) ^ (6:Int).toNat, rfl, by have : ((10:Int) ^ (6:Int).toNat) = 1000000 := by decide
                                                                     omega⟩
                  | some dd => exact ⟨dd, rfl, by have := hcond dd e; omega⟩
                obtain ⟨dv, e1, e2⟩ := key
                rw [hL7, e1]
                refine ⟨_, _, rfl, rfl, ?_⟩
                have lab9 : Lab (ws.getD i []) (Sn h ws i) (putL L (aft tk pr.1 pr.2) (ct + 1)) (fun x => x ∈ es.drop (j + 1) ∨ x ∈ ls ++ [aft tk pr.1 pr.2]) (fun x y => x = tk ∧ y ∈ (prs.drop (r + 1)).map fun pr => aft tk pr.1 pr.2) := by
                  refine lab.put hct hstep (fun dd e => by have := hcond dd e; omega) (fun x => rfl) (fun x => ?_) (fun x y ⟨h1, h2⟩ => ?_) nez
                  · rw [List.mem_append, List.mem_singleton, or_assoc]
                  · rcases (hdrop y).mp h2 with z | z
                    · exact .inl ⟨h1, z⟩
                    · exact .inr ⟨h1, z⟩
                have hpot : pot (box h) (putL L (aft tk pr.1 pr.2) (ct + 1)) + 1 ≤ pot (box h) L := put_pot zbox c16 hcond (fun x => rfl)
                have hls : ql.length = ls.length := Paired.length hqls7
                refine ⟨decide ((ct : Int) + 1 < dv), rfl, ?_⟩
                rw [decide_eq_true e2]
                refine iteT ?_
                -- best[new] = best[told] + 1
                refine ⟨.ref d, rfl, .ref qt, rfl, d, natV ct, rfl, gt_, (ct : Int), 1, rfl, rfl, .ref d, rfl, .ref u, rfl, d, _, rfl, dput_ht (v := natV (ct + 1)) hd8 hu8 (small1000 (by omega)), ?_⟩
                have hpl9 : (upd H8 d (.dT (enc (putK D (aft tk pr.1 pr.2) (natV (ct + 1)))))) pl = some (.lst (ql.map V.ref)) := by rw [upd_ne nepd]; exact hpl8
                have kt9 : KeepT H8 (upd H8 d (.dT (enc (putK D (aft tk pr.1 pr.2) (natV (ct + 1)))))) := (KeepT.refl _).dT hd8
                have kt10 := kt9.lst (o := .lst (ql.map V.ref ++ [V.ref u])) hpl9
                have kt710 := s8.keepT.trans kt10
                -- later.append(new)
                refine ⟨.ref pl, rfl, .inl ⟨rfl, _, .of hpl9⟩, .ref u, rfl, pl, _, _, rfl, rfl, hpl9, ?_, ?_⟩
                · rw [List.length_map, hls]
                  exact Nat.lt_of_lt_of_le (show ls.length < 24101 by omega) (by decide)
                · have hct' : putL L (aft tk pr.1 pr.2) (ct + 1) tk = some ct := by
                    unfold putL
                    rw [if_neg nez]; exact hct
                  refine ⟨_, _, _, ql ++ [u], ls ++ [aft tk pr.1 pr.2], putK D (aft tk pr.1 pr.2) (natV (ct + 1)), putL L (aft tk pr.1 pr.2) (ct + 1), ct, rfl, (sm8.put nd00).put npl0, tabs_kb hT7 (s8.keepB.trans ((keepB_dT hd8).trans (keepB_lst hpl9))), ?_, nd_put hnd7, hL7.put _ _, ?_, hts_kt hqs7 kt710, ?_, paired_snoc (hts_kt hqls7 kt710) (hu8.kt kt10), lab9, ?_, ?_, kt710 _ _ htp7, pairs_kt hqp7 kt710, hht7.kt kt710, hct'⟩
                  · rw [upd_ne nepd.symm, upd_same]
                  · rw [upd_ne nepn, upd_ne ndpn.symm]; exact s8 _ _ hpn7
                  · rw [upd_same, List.map_append]; rfl
                  · rw [List.length_append, List.length_singleton]; omega
                  · rw [List.length_append, List.length_singleton]; omega
              · -- not lessened
                have key : ∃ dd, L (aft tk pr.1 pr.2) = some dd ∧ dd ≤ ct + 1 := by
                  cases e : L (aft tk pr.1 pr.2) with
                  | none => exact absurd (fun dd h => by rw [e] at h; cases h) hcond
                  | some dd => exact ⟨dd, rfl, Nat.le_of_not_lt fun z => hcond fun dd' h => by rw [e] at h; cases h; exact z⟩
                obtain ⟨dd, e1, e2⟩ := key
                rw [hL7, e1]
                refine ⟨_, _, rfl, rfl, ?_⟩
                have e2 : ¬ (ct : Int) + 1 < (dd : Int) := by omega
                refine ⟨decide ((ct : Int) + 1 < (dd : Int)), rfl, ?_⟩
                rw [decide_eq_false e2]
                refine iteF ⟨_, _, _, ql, ls, D, L, ct, rfl, sm8, tabs_kb hT7 s8.keepB, hd8, hnd7, hL7, s8 _ _ hpn7, hts_kt hqs7 s8.keepT, hpl8, hts_kt hqls7 s8.keepT, sk dd e1 (by omega), hm7, hab7, s8 _ _ htp7, pairs_kt hqp7 s8.keepT, hht7.same s8, hct⟩
            · rintro σ H7 ⟨y7, y8, y9, ql, ls, D, L, ct, rfl, sm7, hT7, hd7, hnd7, hL7, hpn7, hqs7, hpl7, hqls7, lab, hm7, hab7, htp7, hqp7, hht7, hct⟩
              rw [List.length_map, Paired.length hqp7] at lab
              refine ⟨_, _, _, _, ql, ls, D, L, rfl, sm7, hT7, hd7, hnd7, hL7, hpn7, hqs7, hpl7, hqls7, lab.skip (fun x y cx hx ⟨h1, h2⟩ => by rw [List.drop_length] at h2; simp at h2), hm7, hab7⟩
          · rintro σ H5 ⟨y6, y7, y8, y9, ql, ls, D, L, rfl, sm5, hT5, hd5, hnd5, hL5, hpn5, hqs5, hpl5, hqls5, lab, hm5, hab5⟩
            rw [List.length_map, Paired.length hqs5] at lab
            -- now = later
            refine ⟨.ref pl, rfl, ls.length + pot (box h) L, by omega, _, _, _, _, _, pl, ql, ls, D, L, rfl, sm5, hT5, hd5, hnd5, hL5, hpl5, npl0, hqls5, ?_, Nat.le_refl _, by omega⟩
            refine ⟨lab.sound, lab.base, fun x hx => lab.front x (.inr hx), fun x cc e => ?_⟩
            rcases lab.closed x cc e with (z | z) | z
            · rw [List.drop_length] at z; cases z
            · exact .inl z
            · exact .inr z
    · rintro σ H1 ⟨y3, y4, y5, y6, y7, y8, y9, D, L, rfl, sm, hT1, hd, hnd, hL, hE⟩
      rw [List.length_map, S.S.len] at hE
      refine ⟨.ref d, rfl, d, rfl, .inr ⟨_, .inl hd⟩, .ref c, rfl, valV D g, dget_ht hd (hg.kt (keepT_of sm)), ?_⟩
      rw [hL g]
      exact q _ _ sm hE
end
end Ks
end
section
set_option maxRecDepth 100000
namespace Ks
open PySem PySem.Spec PyProof.Rows L2
/-! ### the draws -/
/-- a list that the text holds itself: to be read in the empty heap, too -/
def Held (K : PySem.W.Frag) (a : Addr) (xs : List V) : Prop := SqL K (fun _ => none) a xs
theorem Held.any {K : PySem.W.Frag} {a : Addr} {xs : List V} (x : Held K a xs) (H : Hp) : SqL K H a xs := by
  rcases x with (y | ⟨_, y⟩) | y
  · cases y
  · cases y
  · exact .inr y
/-- what is written at r does not change the list at a -/
def Apart (K : PySem.W.Frag) (a r : Addr) (xs : List V) : Prop := Held K a xs ∨ a ≠ r
/-- the row of the draws: the script, the place, the mixed number, the rest -/
def RowAt (K : PySem.W.Frag) (H : Hp) (r sc : Addr) (ns : List Int) : Prop := ∃ (pos mix rest : Int), H r = some (.lst [.ref sc, .int pos, .int mix, .int rest]) ∧ SqL K H sc (ns.map V.int) ∧ 0 ≤ pos ∧ Apart K sc r (ns.map V.int)
/-- all but the row stays -/
def Kp (r : Addr) (H H' : Hp) : Prop := ∀ b o, b ≠ r → H b = some o → H' b = some o
theorem Kp.refl {r : Addr} {H : Hp} : Kp r H H := fun _ _ _ e => e
theorem Kp.trans {r : Addr} {H H1 H2 : Hp} (a : Kp r H H1) (b : Kp r H1 H2) : Kp r H H2 := fun c o n e => b c o n (a c o n e)
theorem _root_.L2.Same.kp {r : Addr} {H H' : Hp} (s : Same H H') : Kp r H H' := fun b o _ e => s b o e
theorem kp_upd {r : Addr} {H : Hp} {o : HO} : Kp r H (upd H r o) := fun b u n e => by rw [upd_ne n]; exact e
theorem Kp.set {r : Addr} {H H1 : Hp} {o : HO} (a : Kp r H H1) : Kp r H (upd H1 r o) := a.trans kp_upd
theorem Kp.new {r p : Addr} {H H1 : Hp} {o : HO} (a : Kp r H H1) (h : H1 p = none) : Kp r H (upd H1 p o) := a.trans (same_upd h).kp
theorem Kp.put {r p : Addr} {H H1 : Hp} {o : HO} (a : Kp r H H1) (h : H p = none) : Kp r H (upd H1 p o) := fun b u n e => by
  rw [upd_ne (ne_of_none e h)]; exact a b u n e
theorem SqL.kp {K : PySem.W.Frag} {r a : Addr} {H H' : Hp} {xs : List V} (h : SqL K H a xs) (k : Kp r H H') (n : Apart K a r xs) : SqL K H' a xs := by
  rcases n with n | n
  · exact n.any H'
  · rcases h with (h | ⟨o, h⟩) | h
    · exact .inl (.inl (k _ _ n h))
    · exact .inl (.inr ⟨o, k _ _ n h⟩)
    · exact .inr h
theorem RowAt.same {K : PySem.W.Frag} {H H' : Hp} {r sc : Addr} {ns : List Int} (x : RowAt K H r sc ns) (s : Same H H') : RowAt K H' r sc ns := by
  obtain ⟨pos, mix, rest, h1, h2, h3, h4⟩ := x
  exact ⟨pos, mix, rest, s _ _ h1, SqL.kp h2 (s.kp (r := r)) h4, h3, h4⟩
theorem RowAt.ne {K : PySem.W.Frag} {H : Hp} {r sc D : Addr} {ns : List Int} (x : RowAt K H r sc ns) (h : H D = none) : D ≠ r := fun z => by
  obtain ⟨pos, mix, rest, h1, _⟩ := x
  rw [z, h1] at h; cases h
/-- a change of what was not there at first -/
theorem RowAt.put {K : PySem.W.Frag} {H H1 : Hp} {r sc p : Addr} {ns : List Int} {o : HO} (x0 : RowAt K H r sc ns) (x : RowAt K H1 r sc ns) (h : H p = none) : RowAt K (upd H1 p o) r sc ns := by
  have np := x0.ne h
  obtain ⟨_, _, _, _, h0, _⟩ := x0
  obtain ⟨pos, mix, rest, h1, h2, h3, h4⟩ := x
  refine ⟨pos, mix, rest, by rw [upd_ne np.symm]; exact h1, ?_, h3, h4⟩
  rcases h0 with (h0 | ⟨o, h0⟩) | h0
  · exact SqL.kp h2 (kp_upd (r := p)) (.inr (ne_of_none h0 h))
  · exact SqL.kp h2 (kp_upd (r := p)) (.inr (ne_of_none h0 h))
  · exact .inr h0
theorem row_set {K : PySem.W.Frag} {H : Hp} {r sc : Addr} {ns : List Int} {pos mix rest : Int} (h2 : SqL K H sc (ns.map V.int)) (h3 : 0 ≤ pos) (h4 : Apart K sc r (ns.map V.int)) : RowAt K (L2.upd H r (.lst [.ref sc, .int pos, .int mix, .int rest])) r sc ns :=
  ⟨pos, mix, rest, upd_same, SqL.kp h2 kp_upd h4, h3, h4⟩
section
variable {P : Program} {w : World} {K : PySem.W.Frag} {mg : Str → Option Value} {base : Heap}
def spTaken (K : PySem.W.Frag) : Sp := fun vs H Q _ => ∃ (r sc : Addr) (ns : List Int) (m : Int), vs = [.ref r, .int m] ∧ RowAt K H r sc ns ∧ 0 < m ∧ m < 1000000 ∧
  ∀ (H' : Hp) (v : Nat), (v : Int) < m → Kp r H H' → RowAt K H' r sc ns → Q (natV v) H'
theorem mod_nat {i m : Int} (h : 0 < m) : ∃ v : Nat, (v : Int) < m ∧ i % m = (v : Int) :=
  ⟨(i % m).toNat, by have := Int.emod_lt_of_pos i h; have := Int.emod_nonneg i (show m ≠ 0 by omega); omega, by have := Int.emod_nonneg i (show m ≠ 0 by omega); omega⟩
theorem ok_taken {f : Addr} {fd : FuncData} {k : Nat} (F : Fun K "_law_taken" "_law_taken" sLTaken f fd) (B : Blt mg) : FnOk P w K mg base CX0 (k + 1) f fd ["_law_row", "_law_many"] (spTaken K) := by
  refine F.ok scLTaken (fun vs H Q E h => ?_) (fun cdv A outer s H vs Q E hr h => ?_)
  · obtain ⟨r, sc, ns, m, rfl, _⟩ := h
    rfl
  · obtain ⟨r, sc, ns, m, rfl, ⟨pos, mix, rest, h1, h2, h3, h4⟩, m1, m2, q⟩ := h
    refine ⟨_, pss_cons (ps_if (pt_cmpR op_gt (pe_ix ix_list (pv 0) pe_int (fun _ _ => rfl)) pe_int (nomark _))
        (pss_cons (ps_set (i := 2) scLTaken.nd rfl (.inl rfl) (pe_op op_mod (pe_callTy call_int1 (by rfl) B.int bb_int (pa_cons (pe_ix ix_list (pv 0) pe_int (fun _ _ => rfl)) pa_nil)) (pv 1)))
        (pss_cons (ps_asg (pe_op op_fdiv (pe_ix ix_list (pv 0) pe_int (fun _ _ => rfl)) (pv 1)) (pg_sub (pv 0) pe_int set_list))
        (pss_one (ps_ret (pv 2)))))
        pss_nil)
      (pss_cons (ps_asg (pe_op op_add (pe_ix ix_list (pv 0) pe_int (fun _ _ => rfl)) pe_int) (pg_sub (pv 0) pe_int set_list))
      (pss_cons (ps_if (pt_cmpR op_gt (pe_ix ix_list (pv 0) pe_int (fun _ _ => rfl)) (pe_callB call_len_seq (by rfl) B.len PySem.boot_len (pa_cons (pe_ix ix_list (pv 0) pe_int (fun _ _ => rfl)) pa_nil)) (nomark _))
        (pss_cons (ps_asg (pe_op op_mod (pe_callTy call_int1 (by rfl) B.int bb_int (pa_cons (pe_op op_add (pe_op op_mul (pe_ix ix_list (pv 0) pe_int (fun _ _ => rfl)) pe_int) pe_int) pa_nil)) pe_int) (pg_sub (pv 0) pe_int set_list))
        (pss_one (ps_ret (pe_op op_mod (pe_callTy call_int1 (by rfl) B.int bb_int (pa_cons (pe_op op_fdiv (pe_ix ix_list (pv 0) pe_int (fun _ _ => rfl)) pe_int) pa_nil)) (pv 1)))))
        pss_nil)
      (pss_cons (ps_set (i := 3) scLTaken.nd rfl (.inl rfl) (pe_ix ix_list (pe_ix ix_list (pv 0) pe_int (fun _ _ => rfl)) (pe_op op_sub (pe_ix ix_list (pv 0) pe_int (fun _ _ => rfl)) pe_int) (fun _ _ => rfl)))
      (pss_cons (ps_asg (pe_op op_mod (pe_callTy call_int1 (by rfl) B.int bb_int (pa_cons (pe_op op_add (pe_op op_add (pe_op op_mul (pe_ix ix_list (pv 0) pe_int (fun _ _ => rfl)) pe_int) (pv 3)) pe_int) pa_nil)) pe_int) (pg_sub (pv 0) pe_int set_list))
      (pss_cons (ps_if (pt_cmpR op_ge (pv 3) (pe_op op_pow pe_int pe_int) (nomark _))
        (pss_one (ps_asg (pe_op op_fdiv (pv 3) (pv 1)) (pg_sub (pv 0) pe_int set_list))) pss_nil)
      (pss_one (ps_ret (pe_op op_mod (pe_callTy call_int1 (by rfl) B.int bb_int (pa_cons (pv 3) pa_nil)) (pv 1))))))))), ?_⟩
    refine ⟨.ref r, rfl, r, _, 3, .int rest, rfl, rfl, .of h1, rfl, rest, 0, rfl, rfl, ?_⟩
    show ∃ k, V.bl (decide ((0 : Int) < rest)) = V.bl k ∧ _
    by_cases c1 : (0 : Int) < rest
    · refine ⟨true, by rw [decide_eq_true c1], iteT ?_⟩
      obtain ⟨v, hv, e⟩ := mod_nat (i := rest) m1
      refine ⟨.ref r, rfl, r, _, 3, .int rest, rfl, rfl, .of h1, rfl, .inl ⟨rest, rfl, .int m, rfl, rest, m, rfl, rfl, m1, ?_⟩⟩
      refine ⟨.ref r, rfl, r, _, 3, .int rest, rfl, rfl, .of h1, rfl, .int m, rfl, rest, m, rfl, rfl, ⟨m1, by omega⟩, .ref r, rfl, r, _, 3, 3, rfl, rfl, h1, rfl, .int (rest % m), rfl, ?_⟩
      rw [e]
      exact q _ v hv kp_upd (row_set h2 h3 h4)
    · refine ⟨false, by rw [decide_eq_false c1], iteF ?_⟩
      -- row[1] += 1
      refine ⟨.ref r, rfl, r, _, 1, .int pos, rfl, rfl, .of h1, rfl, pos, 1, rfl, rfl, .ref r, rfl, r, _, 1, 1, rfl, rfl, h1, rfl, ?_⟩
      have e1 : (upd H r (.lst [.ref sc, .int (pos + 1), .int mix, .int rest])) r = some (.lst [.ref sc, .int (pos + 1), .int mix, .int rest]) := upd_same
      have s1 : SqL K (upd H r (.lst [.ref sc, .int (pos + 1), .int mix, .int rest])) sc (ns.map V.int) := SqL.kp h2 kp_upd h4
      have k1 : Kp r H (upd H r (.lst [.ref sc, .int (pos + 1), .int mix, .int rest])) := kp_upd
      refine ⟨.ref r, rfl, r, _, 1, .int (pos + 1), rfl, rfl, .of e1, rfl, .ref r, rfl, r, _, 0, .ref sc, rfl, rfl, .of e1, rfl, sc, _, rfl, .inl s1, pos + 1, _, rfl, rfl, ?_⟩
      rw [List.length_map]
      show ∃ k, V.bl (decide (((ns.length : Nat) : Int) < pos + 1)) = V.bl k ∧ _
      by_cases c2 : ((ns.length : Nat) : Int) < pos + 1
      · refine ⟨true, by rw [decide_eq_true c2], iteT ?_⟩
        obtain ⟨v, hv, e⟩ := mod_nat (i := (mix * 48271 + 11) % 2147483647 / 7) m1
        refine ⟨.ref r, rfl, r, _, 2, .int mix, rfl, rfl, .of e1, rfl, mix, 48271, rfl, rfl, .inr ⟨by decide, by decide⟩, _, 11, rfl, rfl, .inl ⟨_, rfl, _, 2147483647, rfl, rfl, (show (0 : Int) < 2147483647 by decide), .ref r, rfl, r, _, 2, 2, rfl, rfl, e1, rfl, ?_⟩⟩
        refine ⟨.ref r, rfl, r, _, 2, .int ((mix * 48271 + 11) % 2147483647), rfl, rfl, .of upd_same, rfl, _, 7, rfl, rfl, ⟨by decide, by decide⟩, .inl ⟨_, rfl, .int m, rfl, _, m, rfl, rfl, m1, ?_⟩⟩
        show Q (.int ((mix * 48271 + 11) % 2147483647 / 7 % m)) _
        rw [e]
        exact q _ v hv k1.set (row_set s1 (by omega) h4)
      · refine ⟨false, by rw [decide_eq_false c2], iteF ?_⟩
        have hp : pos.toNat < ns.length := by omega
        have hat : atI (ns.map V.int) (pos + 1 - 1) = some (.int (ns[pos.toNat])) := by
          have : pos + 1 - 1 = ((pos.toNat : Nat) : Int) := by omega
          rw [this]
          exact atI_nat (by rw [List.getElem?_map, List.getElem?_eq_getElem hp]; rfl)
        generalize ns[pos.toNat] = cell at hat
        obtain ⟨v, hv, e⟩ := mod_nat (i := cell) m1
        refine ⟨.ref r, rfl, r, _, 0, .ref sc, rfl, rfl, .of e1, rfl, .ref r, rfl, r, _, 1, .int (pos + 1), rfl, rfl, .of e1, rfl, pos + 1, 1, rfl, rfl, sc, _, pos + 1 - 1, .int cell, rfl, rfl, s1, hat, ?_⟩
        refine ⟨.ref r, rfl, r, _, 2, .int mix, rfl, rfl, .of e1, rfl, mix, 48271, rfl, rfl, .inr ⟨by decide, by decide⟩, .int cell, rfl, _, cell, rfl, rfl, _, 11, rfl, rfl, .inl ⟨_, rfl, _, 2147483647, rfl, rfl, (show (0 : Int) < 2147483647 by decide), .ref r, rfl, r, _, 2, 2, rfl, rfl, e1, rfl, ?_⟩⟩
        refine ⟨.int cell, rfl, 10, 18, rfl, rfl, ⟨by decide, by decide, by decide⟩, cell, _, rfl, rfl, ?_⟩
        show ∃ k, V.bl (decide ((10 : Int) ^ (18 : Int).toNat ≤ cell)) = V.bl k ∧ _
        by_cases c3 : (10 : Int) ^ (18 : Int).toNat ≤ cell
        · refine ⟨true, by rw [decide_eq_true c3], iteT ?_⟩
          refine ⟨.int cell, rfl, .int m, rfl, cell, m, rfl, rfl, ⟨m1, by omega⟩, .ref r, rfl, r, _, 3, 3, rfl, rfl, upd_same, rfl, ?_⟩
          refine ⟨.int cell, rfl, .inl ⟨cell, rfl, .int m, rfl, cell, m, rfl, rfl, m1, ?_⟩⟩
          show Q (.int (cell % m)) _
          rw [e]
          exact q _ v hv k1.set.set (row_set (SqL.kp s1 kp_upd h4) (by omega) h4)
        · refine ⟨false, by rw [decide_eq_false c3], iteF ?_⟩
          refine ⟨.int cell, rfl, .inl ⟨cell, rfl, .int m, rfl, cell, m, rfl, rfl, m1, ?_⟩⟩
          show Q (.int (cell % m)) _
          rw [e]
          exact q _ v hv k1.set (row_set s1 (by omega) h4)
end
end Ks
end
section
set_option maxRecDepth 100000
namespace Ks
open PySem PySem.Spec PyProof.Rows L2
theorem SqT.kp {K : PySem.W.Frag} {r a : Addr} {H H' : Hp} {xs : List V} (h : SqT K H a xs) (k : Kp r H H') (n : a ≠ r) : SqT K H' a xs := by
  rcases h with (h | ⟨o, h⟩) | h
  · exact .inl (.inl (k _ _ n h))
  · exact .inl (.inr ⟨o, k _ _ n h⟩)
  · exact .inr h
section
variable {P : Program} {w : World} {K : PySem.W.Frag} {mg : Str → Option Value} {base : Heap}
/-! ### _law_pick -/
def spPick (K : PySem.W.Frag) : Sp := fun vs H Q _ => ∃ (r sc t : Addr) (ns : List Int) (xs : List V), vs = [.ref r, .ref t] ∧ RowAt K H r sc ns ∧ (SqL K H t xs ∨ SqT K H t xs) ∧ t ≠ r ∧ 0 < xs.length ∧ xs.length < 1000000 ∧
  ∀ (H' : Hp) (j : Nat) (x : V), xs[j]? = some x → Kp r H H' → RowAt K H' r sc ns → Q x H'
theorem ok_pick {f fT : Addr} {fd fdT : FuncData} {k : Nat} (F : Fun K "_law_pick" "_law_pick" sLPick f fd) (B : Blt mg) (DT : Dn K mg "_law_taken" sLTaken ["_law_row", "_law_many"] fT fdT) : FnOk P w K mg base CX0 (k + 2) f fd ["_law_row", "_law_things"] (spPick K) := by
  have GT : FnOk P w K mg base CX0 (k + 1) fT fdT ["_law_row", "_law_many"] (spTaken K) := ok_taken DT.F B
  refine F.ok scLPick (fun vs H Q E h => ?_) (fun cdv A outer s H vs Q E hr h => ?_)
  · obtain ⟨r, sc, t, ns, xs, rfl, _⟩ := h
    rfl
  · obtain ⟨r, sc, t, ns, xs, rfl, hrow, hxs, hne, h0, h1, q⟩ := h
    refine ⟨_, pss_one (ps_ret (pe_ix ix_seq (pv 1) (pe_call GT hr (by rfl) DT.g DT.F.kp DT.b .nil pass0 (pa_cons (pv 0) (pa_cons (pe_callB call_len_seq (by rfl) B.len PySem.boot_len (pa_cons (pv 1) pa_nil)) pa_nil))) (fun _ _ => rfl))), ?_⟩
    refine ⟨.ref t, rfl, .ref r, rfl, .ref t, rfl, t, xs, rfl, hxs, r, sc, ns, _, rfl, hrow, by omega, by omega, fun H' v hv kp hrow' => ?_⟩
    have hv' : v < xs.length := by omega
    have e : xs[v]? = some xs[v] := List.getElem?_eq_getElem hv'
    rcases hxs with hx | hx
    · exact .inl ⟨t, xs, v, _, rfl, rfl, SqL.kp hx kp (.inr hne), atI_nat e, q H' v _ e kp hrow'⟩
    · exact .inr (.inl ⟨t, xs, v, _, rfl, rfl, SqT.kp hx kp hne, atI_nat e, q H' v _ e kp hrow'⟩)
/-! ### _law_alike -/
/-- the same data -/
def Alk (H : Hp) : Nat → V → V → Prop
  | 0, x, y => (x = .non ∧ y = .non) ∨ ∃ i, x = .int i ∧ y = .int i
  | d + 1, x, y => ((x = .non ∧ y = .non) ∨ ∃ i, x = .int i ∧ y = .int i) ∨
    ∃ (a b : Addr) (xs ys : List V), x = .ref a ∧ y = .ref b ∧ ((H a = some (.lst xs) ∧ H b = some (.lst ys)) ∨ (H a = some (.tup xs) ∧ H b = some (.tup ys))) ∧ xs.length = ys.length ∧ ys.length ≤ 100 ∧
      ∀ (i : Nat) (x y : V), xs[i]? = some x → ys[i]? = some y → Alk H d x y
theorem Alk.same {H H' : Hp} (s : Same H H') {d : Nat} : ∀ {x y : V}, Alk H d x y → Alk H' d x y := by
  induction d with
  | zero => exact fun h => h
  | succ d ih =>
    rintro x y (h | ⟨a, b, xs, ys, e1, e2, h, l, l2, r⟩)
    · exact .inl h
    · exact .inr ⟨a, b, xs, ys, e1, e2, h.imp (fun ⟨p, q⟩ => ⟨s _ _ p, s _ _ q⟩) (fun ⟨p, q⟩ => ⟨s _ _ p, s _ _ q⟩), l, l2, fun i x y h1 h2 => ih (r i x y h1 h2)⟩
theorem kitAny_no {K : PySem.W.Frag} {t c : Value} {cs : List Value} {r : Bool} (h : PySem.W.kitOne K t c = some false) (hr : PySem.W.kitAny K t cs = some r) : PySem.W.kitAny K t (c :: cs) = some r := kitAny_cons h (fun _ => hr) (fun z => by cases z)
theorem kitAny_yes {K : PySem.W.Frag} {t c : Value} {cs : List Value} (h : PySem.W.kitOne K t c = some true) : PySem.W.kitAny K t (c :: cs) = some true := kitAny_cons h (fun z => by cases z) (fun _ => rfl)
def tyS (b : Bool) : String := if b then "list" else "tuple"
/-- a list, a tuple -/
def Sq (H : Hp) (a : Addr) (b : Bool) (xs : List V) : Prop := H a = some (if b then .lst xs else .tup xs)
theorem Sq.same {H H' : Hp} {a : Addr} {b : Bool} {xs : List V} (h : Sq H a b xs) (s : Same H H') : Sq H' a b xs := s _ _ h
theorem Sq.ty {K : PySem.W.Frag} {H : Hp} {a : Addr} {b : Bool} {xs : List V} (h : Sq H a b xs) : TyX K H (.ref a) (.type (tyS b)) := by
  cases b with
  | true => exact .base (.lst h)
  | false => exact .base (.tup h)
theorem Sq.any {K : PySem.W.Frag} (b : Bool) : PySem.W.kitAny K (.type (tyS b)) [.type "tuple", .type "list"] = some true := by
  cases b with
  | true => exact kitAny_no (kit_ty (by decide +kernel)) (kitAny_yes (kit_ty (by decide +kernel)))
  | false => exact kitAny_yes (kit_ty (by decide +kernel))
theorem Sq.one {K : PySem.W.Frag} (b : Bool) : PySem.W.kitOne K (.type (tyS b)) (.type "list") = some b := by
  cases b with
  | true => exact kit_ty (by decide +kernel)
  | false => exact kit_ty (by decide +kernel)
theorem Sq.sq {K : PySem.W.Frag} {H : Hp} {a : Addr} {b : Bool} {xs : List V} (h : Sq H a b xs) : SqL K H a xs ∨ SqT K H a xs := by
  cases b with
  | true => exact .inl (.of h)
  | false => exact .inr (.of h)
theorem Sq.ix {K : PySem.W.Frag} {H : Hp} {a : Addr} {b : Bool} {xs : List V} {i : Nat} {x : V} {Q : VK} (h : Sq H a b xs) (e : xs[i]? = some x) (q : Q x H) : rIx K (.ref a) (.int (i : Int)) H Q := by
  cases b with
  | true => exact .inl ⟨a, xs, i, x, rfl, rfl, .of h, atI_nat e, q⟩
  | false => exact .inr (.inl ⟨a, xs, i, x, rfl, rfl, .of h, atI_nat e, q⟩)
def spAlike (K : PySem.W.Frag) (d : Nat) : Sp := fun vs H Q _ => ∃ x y, vs = [x, y] ∧ Alk H d x y ∧ ∀ H', Same H H' → Q (.bl true) H'
/-- an int, or None -/
theorem flat_no {K : PySem.W.Frag} {H : Hp} {y : V} (h : y = .non ∨ ∃ i, y = .int i) : ∃ t : Value, TyX K H y t ∧ PySem.W.kitAny K t [.type "tuple", .type "list"] = some false ∧ PySem.W.kitOne K t (.type "str") = some false := by
  rcases h with rfl | ⟨i, rfl⟩
  · exact ⟨_, .base .non, kitAny_no (kit_ty (by decide +kernel)) (kitAny_no (kit_ty (by decide +kernel)) kitAny_nil), kit_ty (by decide +kernel)⟩
  · exact ⟨_, .base (.int i), kitAny_no (kit_ty (by decide +kernel)) (kitAny_no (kit_ty (by decide +kernel)) kitAny_nil), kit_ty (by decide +kernel)⟩
theorem flat_alk {x y : V} (h : (x = .non ∧ y = .non) ∨ ∃ i, x = .int i ∧ y = .int i) : x = y ∧ (y = .non ∨ ∃ i, y = .int i) := by
  rcases h with ⟨rfl, rfl⟩ | ⟨i, rfl, rfl⟩
  · exact ⟨rfl, .inl rfl⟩
  · exact ⟨rfl, .inr ⟨i, rfl⟩⟩
theorem cls2 : Paired ClsV [V.ty "tuple", V.ty "list"] [Value.type "tuple", Value.type "list"] := .cons (.ty _) (.cons (.ty _) .nil)
theorem ok_alike {f : Addr} {fd : FuncData} (D : Dn K mg "_law_alike" sLAlike ["_law_found", "_law_due"] f fd) (B : Blt mg) : ∀ d : Nat, FnOk P w K mg base CX0 (d + 1) f fd ["_law_found", "_law_due"] (spAlike K d) := by
  have F := D.F
  intro d
  induction d with
  | zero =>
    refine F.ok scLAlike (fun vs H Q E h => ?_) (fun cdv A outer s H vs Q E hr h => ?_)
    · obtain ⟨x, y, rfl, _⟩ := h
      rfl
    · obtain ⟨x, y, rfl, hA, q⟩ := h
      refine ⟨_, pss_cons (ps_if (pt_val (pe_callB call_isiT (by rfl) B.isinstance bb_isi (pa_cons (pv 1) (pa_cons (pe_tup (pa_cons (pe_bltn (v := .ty "tuple") (by rfl) B.tuple bb_tuple rfl) (pa_cons (pe_bltn (v := .ty "list") (by rfl) B.list bb_list rfl) pa_nil))) pa_nil))))
          (pss_cons ps_never (pss_cons ps_never (pss_one ps_never)))
          pss_nil)
        (pss_cons (ps_if (PW.pt (pw_or (pt_cmpR op_isN (pv 1) pe_non (nomark _)) (pw_or1 (pt_val (pe_callB call_isi (by rfl) B.isinstance bb_isi (pa_cons (pv 1) (pa_cons (pe_bltn (v := .ty "str") (by rfl) B.str bb_str rfl) pa_nil)))))))
          (pss_one (ps_ret (pe_and (pe_cmpR op_eq (pv 0) (pv 1) (nomark _)) (pe_one (pe_cmpR op_eq (pe_callB call_isi (by rfl) B.isinstance bb_isi (pa_cons (pv 0) (pa_cons (pe_bltn (v := .ty "str") (by rfl) B.str bb_str rfl) pa_nil))) (pe_callB call_isi (by rfl) B.isinstance bb_isi (pa_cons (pv 1) (pa_cons (pe_bltn (v := .ty "str") (by rfl) B.str bb_str rfl) pa_nil))) (nomark _))))))
          pss_nil)
        (pss_one (ps_ret (pe_and (pe_callB call_isi (by rfl) B.isinstance bb_isi (pa_cons (pv 0) (pa_cons (pe_bltn (v := .ty "int") (by rfl) B.int bb_int rfl) pa_nil)))
          (pe_and (pe_cmpR op_eq (pe_callB call_isi (by rfl) B.isinstance bb_isi (pa_cons (pv 0) (pa_cons (pe_bltn (v := .ty "bool") (by rfl) B.bool bb_bool rfl) pa_nil))) (pe_callB call_isi (by rfl) B.isinstance bb_isi (pa_cons (pv 1) (pa_cons (pe_bltn (v := .ty "bool") (by rfl) B.bool bb_bool rfl) pa_nil))) (nomark _))
            (pe_one (pe_cmpR op_eq (pv 0) (pv 1) (nomark _)))))))), ?_⟩
      refine ⟨y, rfl, by decide, fun p np => ?_⟩
      obtain ⟨exy, fl⟩ := flat_alk hA
      subst exy
      obtain ⟨ty, hty, kA, kS⟩ := flat_no (K := K) (H := upd H p (.tup [V.ty "tuple", V.ty "list"])) fl
      have sm : Same H (upd H p (.tup [V.ty "tuple", V.ty "list"])) := same_upd np
      refine ⟨x, p, [V.ty "tuple", V.ty "list"], ty, _, false, rfl, upd_same, cls2, hty, kA, false, rfl, iteF ?_⟩
      rcases fl with rfl | ⟨i, rfl⟩
      · refine ⟨.non, rfl, rfl, true, rfl, iteT (iteT ?_)⟩
        refine ⟨.non, rfl, .non, rfl, rfl, true, rfl, iteT ?_⟩
        exact ⟨.non, rfl, .non, .ty "str", ty, .type "str", false, rfl, .ty _, hty, kS, .non, rfl, .non, .ty "str", ty, .type "str", false, rfl, .ty _, hty, kS, rfl, q _ sm⟩
      · refine ⟨.int i, rfl, rfl, false, rfl, iteF ?_⟩
        refine ⟨.int i, rfl, .int i, .ty "str", ty, .type "str", false, rfl, .ty _, hty, kS, false, rfl, iteF ?_⟩
        refine ⟨.int i, rfl, .int i, .ty "int", .type "int", .type "int", true, rfl, .ty _, .base (.int i), k_ii, true, rfl, iteT ?_⟩
        refine ⟨.int i, rfl, .int i, .ty "bool", .type "int", .type "bool", false, rfl, .ty _, .base (.int i), k_ib, .int i, rfl, .int i, .ty "bool", .type "int", .type "bool", false, rfl, .ty _, .base (.int i), k_ib, rfl, true, rfl, iteT ?_⟩
        refine ⟨.int i, rfl, .int i, rfl, rfl, ?_⟩
        show Q (.bl (decide (V.int i = V.int i))) _
        rw [decide_eq_true rfl]
        exact q _ sm
  | succ d ih =>
    refine F.ok scLAlike (fun vs H Q E h => ?_) (fun cdv A outer s H vs Q E hr h => ?_)
    · obtain ⟨x, y, rfl, _⟩ := h
      rfl
    · obtain ⟨x, y, rfl, hA, q⟩ := h
      refine ⟨_, pss_cons (ps_if (pt_val (pe_callB call_isiT (by rfl) B.isinstance bb_isi (pa_cons (pv 1) (pa_cons (pe_tup (pa_cons (pe_bltn (v := .ty "tuple") (by rfl) B.tuple bb_tuple rfl) (pa_cons (pe_bltn (v := .ty "list") (by rfl) B.list bb_list rfl) pa_nil))) pa_nil))))
          (pss_cons (ps_if (PW.pt (pw_or (pt_not (pt_val (pe_callB call_isiT (by rfl) B.isinstance bb_isi (pa_cons (pv 0) (pa_cons (pe_tup (pa_cons (pe_bltn (v := .ty "tuple") (by rfl) B.tuple bb_tuple rfl) (pa_cons (pe_bltn (v := .ty "list") (by rfl) B.list bb_list rfl) pa_nil))) pa_nil)))))
            (pw_or1 (pt_cmpR op_ne (pe_callB call_isi (by rfl) B.isinstance bb_isi (pa_cons (pv 0) (pa_cons (pe_bltn (v := .ty "list") (by rfl) B.list bb_list rfl) pa_nil))) (pe_callB call_isi (by rfl) B.isinstance bb_isi (pa_cons (pv 1) (pa_cons (pe_bltn (v := .ty "list") (by rfl) B.list bb_list rfl) pa_nil))) (nomark _)))))
            (pss_one (ps_ret pe_bl)) pss_nil)
          (pss_cons (ps_if (pt_cmpR op_ne (pe_callB call_len_seq (by rfl) B.len PySem.boot_len (pa_cons (pv 0) pa_nil)) (pe_callB call_len_seq (by rfl) B.len PySem.boot_len (pa_cons (pv 1) pa_nil)) (nomark _))
            (pss_one (ps_ret pe_bl)) pss_nil)
          (pss_one (ps_ret (pe_cmpR (op_eqEL hr.units) (pe_lc (own := [("_law_k", 2)]) (g := gName 2) (tt := tNot (tB (tCall (spAlike K d) [] E0 (tCons (tOp (rIx K) (tVar 0) (tVar 2)) (tCons (tOp (rIx K) (tVar 1) (tVar 2)) tNil))))) (te := tVar 2) rfl scLAlike.nd
            (pi_range1 rfl B.range (pa_cons (pe_callB call_len_seq (by rfl) B.len PySem.boot_len (pa_cons (pv 1) pa_nil)) pa_nil))
            (blkOk_by (N := nLAlike) (sc := defScope sLAlike) (by decide +kernel))
            (fun _ _ _ _ _ => pg_name (i := 2) scLAlike.nd rfl (.inl rfl))
            (fun _ _ _ _ _ => pts_one (pt_not (pt_val (pe_call ih hr (by rfl) D.g D.F.kp D.b .nil pass0 (pa_cons (pe_ix ix_seq (pv 0) (pv 2) (fun _ _ => rfl)) (pa_cons (pe_ix ix_seq (pv 1) (pv 2) (fun _ _ => rfl)) pa_nil))))))
            (fun _ _ _ _ _ => pv 2)) (pe_lst pa_nil) (nomark _))))))
          pss_nil)
        (pss_cons (ps_if (PW.pt (pw_or (pt_cmpR op_isN (pv 1) pe_non (nomark _)) (pw_or1 (pt_val (pe_callB call_isi (by rfl) B.isinstance bb_isi (pa_cons (pv 1) (pa_cons (pe_bltn (v := .ty "str") (by rfl) B.str bb_str rfl) pa_nil)))))))
          (pss_one (ps_ret (pe_and (pe_cmpR op_eq (pv 0) (pv 1) (nomark _)) (pe_one (pe_cmpR op_eq (pe_callB call_isi (by rfl) B.isinstance bb_isi (pa_cons (pv 0) (pa_cons (pe_bltn (v := .ty "str") (by rfl) B.str bb_str rfl) pa_nil))) (pe_callB call_isi (by rfl) B.isinstance bb_isi (pa_cons (pv 1) (pa_cons (pe_bltn (v := .ty "str") (by rfl) B.str bb_str rfl) pa_nil))) (nomark _))))))
          pss_nil)
        (pss_one (ps_ret (pe_and (pe_callB call_isi (by rfl) B.isinstance bb_isi (pa_cons (pv 0) (pa_cons (pe_bltn (v := .ty "int") (by rfl) B.int bb_int rfl) pa_nil)))
          (pe_and (pe_cmpR op_eq (pe_callB call_isi (by rfl) B.isinstance bb_isi (pa_cons (pv 0) (pa_cons (pe_bltn (v := .ty "bool") (by rfl) B.bool bb_bool rfl) pa_nil))) (pe_callB call_isi (by rfl) B.isinstance bb_isi (pa_cons (pv 1) (pa_cons (pe_bltn (v := .ty "bool") (by rfl) B.bool bb_bool rfl) pa_nil))) (nomark _))
            (pe_one (pe_cmpR op_eq (pv 0) (pv 1) (nomark _)))))))), ?_⟩
      refine ⟨y, rfl, by decide, fun p np => ?_⟩
      rcases hA with hF | ⟨a, b, xs, ys, rfl, rfl, hab, hl, hl2, hrec⟩
      · obtain ⟨exy, fl⟩ := flat_alk hF
        subst exy
        obtain ⟨ty, hty, kA, kS⟩ := flat_no (K := K) (H := upd H p (.tup [V.ty "tuple", V.ty "list"])) fl
        have sm : Same H (upd H p (.tup [V.ty "tuple", V.ty "list"])) := same_upd np
        refine ⟨x, p, [V.ty "tuple", V.ty "list"], ty, _, false, rfl, upd_same, cls2, hty, kA, false, rfl, iteF ?_⟩
        rcases fl with rfl | ⟨i, rfl⟩
        · refine ⟨.non, rfl, rfl, true, rfl, iteT (iteT ?_)⟩
          refine ⟨.non, rfl, .non, rfl, rfl, true, rfl, iteT ?_⟩
          exact ⟨.non, rfl, .non, .ty "str", ty, .type "str", false, rfl, .ty _, hty, kS, .non, rfl, .non, .ty "str", ty, .type "str", false, rfl, .ty _, hty, kS, rfl, q _ sm⟩
        · refine ⟨.int i, rfl, rfl, false, rfl, iteF ?_⟩
          refine ⟨.int i, rfl, .int i, .ty "str", ty, .type "str", false, rfl, .ty _, hty, kS, false, rfl, iteF ?_⟩
          refine ⟨.int i, rfl, .int i, .ty "int", .type "int", .type "int", true, rfl, .ty _, .base (.int i), k_ii, true, rfl, iteT ?_⟩
          refine ⟨.int i, rfl, .int i, .ty "bool", .type "int", .type "bool", false, rfl, .ty _, .base (.int i), k_ib, .int i, rfl, .int i, .ty "bool", .type "int", .type "bool", false, rfl, .ty _, .base (.int i), k_ib, rfl, true, rfl, iteT ?_⟩
          refine ⟨.int i, rfl, .int i, rfl, rfl, ?_⟩
          show Q (.bl (decide (V.int i = V.int i))) _
          rw [decide_eq_true rfl]
          exact q _ sm
      · have hsq : ∃ c : Bool, Sq H a c xs ∧ Sq H b c ys := by
          rcases hab with ⟨h1, h2⟩ | ⟨h1, h2⟩
          · exact ⟨true, h1, h2⟩
          · exact ⟨false, h1, h2⟩
        obtain ⟨c, ha, hb⟩ := hsq
        have sm1 : Same H (upd H p (.tup [V.ty "tuple", V.ty "list"])) := same_upd np
        refine ⟨.ref b, p, [V.ty "tuple", V.ty "list"], _, _, true, rfl, upd_same, cls2, (hb.same sm1).ty, Sq.any c, true, rfl, iteT ?_⟩
        -- not isinstance(found, ..) or ..
        refine ⟨.ref a, rfl, by decide, fun p2 np2 => ?_⟩
        have sm2 := sm1.trans (same_upd (o := .tup [V.ty "tuple", V.ty "list"]) np2)
        have ha2 := ha.same sm2
        have hb2 := hb.same sm2
        refine ⟨.ref a, p2, [V.ty "tuple", V.ty "list"], _, _, true, rfl, upd_same, cls2, ha2.ty, Sq.any c, true, rfl, iteF ?_⟩
        refine ⟨.ref a, rfl, .ref a, .ty "list", _, .type "list", c, rfl, .ty _, ha2.ty, Sq.one c, .ref b, rfl, .ref b, .ty "list", _, .type "list", c, rfl, .ty _, hb2.ty, Sq.one c, rfl, ?_⟩
        rw [decide_eq_true rfl]
        refine ⟨false, rfl, iteF ?_⟩
        -- the lengths
        refine ⟨.ref a, rfl, a, xs, rfl, ha2.sq, .ref b, rfl, b, ys, rfl, hb2.sq, rfl, ?_⟩
        rw [hl, decide_eq_true rfl]
        refine ⟨false, rfl, iteF ?_⟩
        -- the comprehension
        refine ⟨.ref b, rfl, b, ys, rfl, hb2.sq, _, rfl, by omega, by omega, fun D nD => ?_⟩
        have en : ((ys.length : Nat) : Int).toNat = ys.length := by simp
        rw [en]
        refine lc_range (fun i H1 => Same H H1 ∧ H1 D = some (.lst [])) ?_ ?_ ?_
        · exact ⟨sm2.new nD, upd_same⟩
        · rintro i H1 hi ⟨s1, hD⟩
          have ei : (0 : Int) + ((i : Nat) : Int) = ((i : Nat) : Int) := by omega
          have e1 : xs[i]? = some (xs[i]'(by omega)) := List.getElem?_eq_getElem (by omega)
          have e2 : ys[i]? = some ys[i] := List.getElem?_eq_getElem hi
          refine ⟨rfl, ?_⟩
          refine ⟨.ref a, rfl, _, rfl, ?_⟩
          rw [ei]
          refine (ha.same s1).ix e1 ?_
          refine ⟨.ref b, rfl, _, rfl, ?_⟩
          refine (hb.same s1).ix e2 ?_
          refine ⟨_, _, rfl, (hrec i _ _ e1 e2).same s1, fun H2 s2 => ⟨true, rfl, iteF ⟨s1.trans s2, s2 _ _ hD⟩⟩⟩
        · rintro H1 ⟨s1, hD⟩
          refine ⟨by decide, fun z nz => ?_⟩
          refine ⟨D, z, [], rfl, rfl, .of (by rw [upd_ne (ne_of_none hD nz)]; exact hD), .of upd_same, dat_nil, ?_⟩
          exact q _ (s1.new nz)
end
end Ks
end
section
set_option maxRecDepth 100000
namespace Ks
open PySem PySem.Spec PyProof.Rows L2
section
variable {P : Program} {w : World} {K : PySem.W.Frag} {mg : Str → Option Value} {base : Heap}
/-! ### _law_is -/
def spIs (K : PySem.W.Frag) : Sp := fun vs H Q _ => ∃ c : Bool, vs = [.bl c, .bl c] ∧ Q (.bl true) H
theorem ok_is {f : Addr} {fd : FuncData} {k : Nat} (F : Fun K "_law_is" "_law_is" sLIs f fd) (B : Blt mg) : FnOk P w K mg base CX0 (k + 1) f fd ["_law_found", "_law_due"] (spIs K) := by
  refine F.ok scLIs (fun vs H Q E h => ?_) (fun cdv A outer s H vs Q E hr h => ?_)
  · obtain ⟨c, rfl, _⟩ := h
    rfl
  · obtain ⟨c, rfl, q⟩ := h
    refine ⟨_, pss_one (ps_ret (pe_and (pe_callB call_isi (by rfl) B.isinstance bb_isi (pa_cons (pv 0) (pa_cons (pe_bltn (v := .ty "bool") (by rfl) B.bool bb_bool rfl) pa_nil))) (pe_one (pe_cmpR op_eq (pv 0) (pv 1) (nomark _))))), ?_⟩
    refine ⟨.bl c, rfl, .bl c, .ty "bool", .type "bool", .type "bool", true, rfl, .ty _, .base (.bl c), kit_ty (by decide +kernel), true, rfl, iteT ?_⟩
    refine ⟨.bl c, rfl, .bl c, rfl, rfl, ?_⟩
    show Q (.bl (decide (V.bl c = V.bl c))) H
    rw [decide_eq_true rfl]
    exact q
/-! ### _law_heights -/
def hs5 : List Int := [-1, 0, 1, 2, 3]
def spHeights (K : PySem.W.Frag) : Sp := fun vs H Q _ => ∃ (r sc : Addr) (ns : List Int) (n : Nat), vs = [.ref r, natV n, .int 5] ∧ RowAt K H r sc ns ∧ n ≤ 4 ∧
  ∀ (H' : Hp) (b : Addr) (h : List Int), Kp r H H' → RowAt K H' r sc ns → HtAt H' b h → h.length = n → (∀ x ∈ h, x ∈ ([-1, 0, 1, 2, 3] : List Int)) → Q (.ref b) H'
theorem five {v : Nat} (h : (v : Int) < 5) : (v : Int) - 5 / 3 ∈ ([-1, 0, 1, 2, 3] : List Int) := by
  have : (5 : Int) / 3 = 1 := by decide
  rw [this]
  have : v = 0 ∨ v = 1 ∨ v = 2 ∨ v = 3 ∨ v = 4 := by omega
  rcases this with rfl | rfl | rfl | rfl | rfl <;> decide
theorem ok_heights {f fT : Addr} {fd fdT : FuncData} {k : Nat} (F : Fun K "_law_heights" "_law_heights" sLHeights f fd) (B : Blt mg) (DT : Dn K mg "_law_taken" sLTaken ["_law_row", "_law_many"] fT fdT) : FnOk P w K mg base CX0 (k + 2) f fd ["_law_row", "_law_many", "_law_high"] (spHeights K) := by
  have GT : FnOk P w K mg base CX0 (k + 1) fT fdT ["_law_row", "_law_many"] (spTaken K) := ok_taken DT.F B
  refine F.ok scLHeights (fun vs H Q E h => ?_) (fun cdv A outer s H vs Q E hr h => ?_)
  · obtain ⟨r, sc, ns, n, rfl, _⟩ := h
    rfl
  · obtain ⟨r, sc, ns, n, rfl, hrow, hn, q⟩ := h
    refine ⟨_, pss_one (ps_ret (pe_callTy call_tuple_of (by rfl) B.tuple (by decide +kernel) (pa_cons
      (pe_lc (own := [("_law_one", 3)]) (g := gName 3) (tt := tYes) (te := tOp (rI0 fun i j => .int (i - j)) (tCall (spTaken K) [] E0 (tCons (tVar 0) (tCons (tVar 2) tNil))) (tOp (rI CDiv fun i j => .int (i / j)) (tVar 2) (tC (.int 3)))) rfl scLHeights.nd
        (pi_range1 rfl B.range (pa_cons (pv 1) pa_nil))
        (blkOk_by (N := nLHeights) (sc := defScope sLHeights) (by decide +kernel))
        (fun _ _ _ _ _ => pg_name (i := 3) scLHeights.nd rfl (.inl rfl))
        (fun _ _ _ _ _ => pts_nil)
        (fun _ _ _ _ _ => pe_op op_sub (pe_call GT hr (by rfl) DT.g DT.F.kp DT.b .nil pass0 (pa_cons (pv 0) (pa_cons (pv 2) pa_nil))) (pe_op op_fdiv (pv 2) pe_int))) pa_nil))), ?_⟩
    refine ⟨natV n, rfl, n, rfl, by omega, by omega, fun D nD => ?_⟩
    have en : ((n : Nat) : Int).toNat = n := by simp
    rw [en]
    refine lc_range (fun i H1 => Kp r H H1 ∧ RowAt K H1 r sc ns ∧ ∃ hs : List Int, H1 D = some (.lst (hs.map V.int)) ∧ hs.length = i ∧ ∀ x ∈ hs, x ∈ ([-1, 0, 1, 2, 3] : List Int)) ?_ ?_ ?_
    · exact ⟨Kp.refl.new nD, hrow.put hrow nD, [], upd_same, rfl, fun x hx => by cases hx⟩
    · rintro i H1 hi ⟨k1, row1, hs, hD, hl, hx⟩
      refine ⟨rfl, ?_⟩
      refine ⟨.ref r, rfl, .int 5, rfl, r, sc, ns, 5, rfl, row1, by decide, by decide, fun H2 v hv k2 row2 => ?_⟩
      refine ⟨.int 5, rfl, 5, 3, rfl, rfl, ⟨by decide, by decide⟩, _, _, rfl, rfl, ?_⟩
      have hD2 := k2 _ _ (hrow.ne nD) hD
      refine ⟨_, hD2, ?_, (k1.trans k2).put nD, hrow.put row2 nD, hs ++ [(v : Int) - 5 / 3], ?_, by simp [hl], fun x hx' => ?_⟩
      · rw [List.length_map]; exact small1000 (by omega)
      · rw [upd_same, List.map_append]; rfl
      · rcases List.mem_append.mp hx' with z | z
        · exact hx x z
        · rw [List.mem_singleton.mp z]; exact five hv
    · rintro H1 ⟨k1, row1, hs, hD, hl, hx⟩
      refine ⟨D, _, rfl, .inl ⟨.of hD, fun b nb => ?_⟩⟩
      exact q _ b hs (k1.new nb) (row1.put row1 nb) upd_same hl hx
/-! ### _law_after -/
def spLAfter (K : PySem.W.Frag) : Sp := fun vs H Q _ => ∃ (b c : Addr) (h : List Int) (p o : Nat), vs = [.ref b, .ref c] ∧ HtAt H b h ∧ PrAt H c (p, o) ∧ p < h.length ∧ o < h.length ∧ h.length ≤ 8 ∧
  ∀ (H' : Hp) (t : Addr), Same H H' → HtAt H' t (aft h p o) → Q (.ref t) H'
theorem catA {H : Hp} {a b : Addr} {xs ys : List V} {Q : VK} (ha : H a = some (.tup xs)) (hb : H b = some (.tup ys)) (hz : xs.length + ys.length ≤ sizeLine) (q : ∀ (H' : Hp) (t : Addr), Same H H' → H' t = some (.tup (xs ++ ys)) → Q (.ref t) H') : rCatA K (.ref a) (.ref b) H Q := by
  refine ⟨a, b, xs, ys, rfl, rfl, .of ha, .of hb, hz, fun e => ?_, fun _ e => ?_, fun _ _ p np => q _ p (same_upd np) upd_same⟩
  · subst e; exact q H b (fun _ _ h => h) hb
  · subst e; exact q H a (fun _ _ h => h) (by rw [List.append_nil]; exact ha)
theorem ok_lafter {f : Addr} {fd : FuncData} {k : Nat} (F : Fun K "_law_after" "_law_after" sLAfter f fd) : FnOk P w K mg base CX0 (k + 1) f fd ["_law_heights_here", "_law_pair"] (spLAfter K) := by
  refine F.ok scLAfter (fun vs H Q E h => ?_) (fun cdv A outer s H vs Q E hr h => ?_)
  · obtain ⟨b, c, h, p, o, rfl, _⟩ := h
    rfl
  · obtain ⟨b, c, h, p, o, rfl, hb, hc, hp, ho, h8, q⟩ := h
    refine ⟨_, pss_one (ps_ret (pe_op op_catA (pe_op op_catA (pe_slice sl_tupA (pv 0) po_none (po_some (pe_ix ix_tup (pv 1) pe_int (fun _ _ => rfl)))) (pe_tup (pa_cons (pe_ix ix_tup (pv 0) (pe_ix ix_tup (pv 1) pe_int (fun _ _ => rfl)) (fun _ _ => rfl)) pa_nil)))
      (pe_slice sl_tupA (pv 0) (po_some (pe_op op_add (pe_ix ix_tup (pv 1) pe_int (fun _ _ => rfl)) pe_int)) po_none))), ?_⟩
    have hl : (h.map V.int).length = h.length := List.length_map _
    -- heights[:pair[0]]
    refine ⟨.ref b, rfl, .ref c, rfl, c, _, 0, natV p, rfl, rfl, .of hc, rfl, p, rfl, b, _, rfl, .of hb, fun z => ?_, fun _ x nx => ?_⟩
    · exfalso
      have z2 := z.2
      rw [sIx_to (by rw [hl]; omega), hl] at z2
      omega
    have s1 := same_upd (o := .tup (cutV (h.map V.int) none (some (p : Int)))) nx
    -- (heights[pair[1]],)
    refine ⟨.ref b, rfl, .ref c, rfl, c, _, 1, natV o, rfl, rfl, .of (s1 _ _ hc), rfl, b, _, o, _, rfl, rfl, .of (s1 _ _ hb), at_ht ho, Nat.le_trans (by decide : 1 ≤ 1000) (line8 (Nat.le_refl _)), fun y ny => ?_⟩
    have s2 := s1.new (o := .tup [V.int (at_ h o)]) ny
    have c1 := cut_to (xs := h.map V.int) (p := p) (by rw [hl]; omega)
    have c2 := cut_from (xs := h.map V.int) (p := p + 1) (by rw [hl]; omega)
    refine catA (by rw [upd_ne (ne_of_none upd_same ny)]; exact upd_same) upd_same ?_ fun H3 t s3 ht => ?_
    · have h1 := cutV_length (h.map V.int) none (some (p : Int))
      rw [hl] at h1
      exact line8 (by simp only [List.length_cons, List.length_nil]; omega)
    have s23 := s2.trans s3
    -- heights[pair[0] + 1:]
    refine ⟨.ref b, rfl, .ref c, rfl, c, _, 0, natV p, rfl, rfl, .of (s23 _ _ hc), rfl, p, 1, rfl, rfl, (p : Int) + 1, rfl, b, _, rfl, .of (s23 _ _ hb), fun z => ?_, fun _ v nv => ?_⟩
    · exfalso
      have z1 := z.1
      rw [show ((p : Int) + 1) = ((p + 1 : Nat) : Int) by simp, sIx_to (by rw [hl]; omega)] at z1
      omega
    have s4 := s23.new (o := .tup (cutV (h.map V.int) (some ((p : Int) + 1)) none)) nv
    refine catA (by rw [upd_ne (ne_of_none ht nv)]; exact ht) upd_same ?_ fun H5 t5 s5 ht5 => q H5 t5 (s4.trans s5) ?_
    · have h1 := cutV_length (h.map V.int) none (some (p : Int))
      have h2 := cutV_length (h.map V.int) (some ((p : Int) + 1)) none
      rw [hl] at h1 h2
      exact line8 (by simp only [List.length_append, List.length_cons, List.length_nil]; omega)
    · unfold HtAt
      rw [ht5, show ((p : Int) + 1) = ((p + 1 : Nat) : Int) by simp, c1, c2, aft, set_cut h p _ hp]
      simp only [List.map_append, List.map_take, List.map_drop, List.map_cons, List.map_nil, List.append_assoc, List.append_nil, List.singleton_append, List.cons_append, List.nil_append]
/-! ### _law_ties -/
def spLTies (K : PySem.W.Frag) : Sp := fun vs H Q _ => ∃ (a : Addr) (n : Nat) (ts : Ties) (p : Nat), vs = [.ref a, natV p] ∧ WebAt H a n ts ∧ Below n ts ∧ ts.length ≤ 20 ∧
  ∀ (H' : Hp) (l : Addr) (ns : List Nat), Same H H' → H l = none → H' l = some (.lst (ns.map natV)) → (∀ q, q ∈ ns ↔ Adj ts p q) → ns.length ≤ 20 → Q (.ref l) H'
theorem ok_lties {f : Addr} {fd : FuncData} {k : Nat} (F : Fun K "_law_ties" "_law_ties" sLTies f fd) (B : Blt mg) : FnOk P w K mg base CX0 (k + 1) f fd ["_law_web_here", "_law_person"] (spLTies K) := by
  refine F.ok scLTies (fun vs H Q E h => ?_) (fun cdv A outer s H vs Q E hr h => ?_)
  · obtain ⟨a, n, ts, p, rfl, _⟩ := h
    rfl
  · obtain ⟨a, n, ts, p, rfl, hw, hb, h20, q⟩ := h
    obtain ⟨b, hw, qs, hbt, hq⟩ := hw
    refine ⟨_, pss_one (ps_ret (pe_callB cr_sorted (by rfl) B.sorted bb_sorted (pa_cons
      (pe_lc (own := [("_law_one", 2), ("_law_other", 3)]) (g := gTup K 2 (gCons (gName 2) (gCons (gName 3) gNil))) (tt := tTest (tOp (rIn K false) (tVar 1) (tTup (tCons (tVar 2) (tCons (tVar 3) tNil))))) (te := tOp (rI0 fun i j => .int (i - j)) (tOp (rI0 fun i j => .int (i + j)) (tVar 2) (tVar 3)) (tVar 1)) rfl scLTies.nd
        (pi_tup (pe_ix ix_tup (pv 0) pe_int (fun _ _ => rfl)))
        (blkOk_by (N := nLTies) (sc := defScope sLTies) (by decide +kernel))
        (fun _ _ _ _ _ => pg_tup rfl (pgs_cons (pg_name (i := 2) scLTies.nd rfl (.inl rfl)) (pgs_cons (pg_name (i := 3) scLTies.nd rfl (.inl rfl)) pgs_nil)))
        (fun _ _ _ _ _ => pts_one (pt_cmpR op_in_seq (pv 1) (pe_tup (pa_cons (pv 2) (pa_cons (pv 3) pa_nil))) rfl))
        (fun _ _ _ _ _ => pe_op op_sub (pe_op op_add (pv 2) (pv 3)) (pv 1))) pa_nil))), ?_⟩
    refine ⟨.ref a, rfl, a, _, 1, .ref b, rfl, rfl, .of hw, rfl, b, rfl, ⟨_, .of hbt⟩, fun D nD => ?_⟩
    have nbD : b ≠ D := ne_of_none hbt nD
    refine lc_tup (xs := qs.map V.ref) (fun i H' => Same H H' ∧ H' D = some (.lst ((adjs p (ts.take i)).map natV))) ?_ ?_ ?_ ?_
    · exact ⟨same_upd nD, upd_same⟩
    · rintro i H' _ ⟨sm, _⟩
      exact .of (sm _ _ hbt)
    · rintro i x H' hx ⟨sm, hD⟩
      obtain ⟨t, ht, rfl⟩ := ref_at hx
      obtain ⟨pr, hpr, et⟩ := paired_at hq ht
      have hlen : (adjs p (ts.take i)).length ≤ 20 := Nat.le_trans (adjs_len _ _) (by rw [List.length_take]; omega)
      have hbp := hb pr (List.mem_of_getElem? hpr)
      refine ⟨t, _, rfl, .of (sm _ _ et), rfl, _, _, rfl, _, _, rfl, rfl, rfl, ?_⟩
      refine ⟨natV p, rfl, natV pr.1, rfl, natV pr.2, rfl, (by show 2 ≤ sizeLine; decide), fun T nT => ⟨T, _, rfl, .inr (.of upd_same), rfl, rfl, _, rfl, ?_⟩⟩
      have nTD : D ≠ T := ne_of_none hD nT
      have hD' : (upd H' T (.tup [natV pr.1, natV pr.2])) D = some (.lst ((adjs p (ts.take i)).map natV)) := by rw [upd_ne nTD]; exact hD
      refine ite2 (fun hc => ?_) (fun hc => ?_)
      · have hc := inV_pair.mp hc
        refine ⟨natV pr.1, rfl, natV pr.2, rfl, _, _, rfl, rfl, natV p, rfl, _, _, rfl, rfl, _, hD', ?_, (sm.new nT).put nD, ?_⟩
        · rw [List.length_map]; exact small1000 (by omega)
        · rw [upd_same, adjs_take hpr]
          rcases hc with e | e
          · rw [if_pos e, List.map_append]
            have : (((pr.1 : Nat) : Int) + ((pr.2 : Nat) : Int) - ((p : Nat) : Int)) = ((pr.2 : Nat) : Int) := by omega
            show some (HO.lst (_ ++ [V.int _])) = _
            rw [this]; rfl
          · rw [if_neg (by omega), if_pos e, List.map_append]
            have : (((pr.1 : Nat) : Int) + ((pr.2 : Nat) : Int) - ((p : Nat) : Int)) = ((pr.1 : Nat) : Int) := by omega
            show some (HO.lst (_ ++ [V.int _])) = _
            rw [this]; rfl
      · have hc : ¬ (p = pr.1 ∨ p = pr.2) := fun z => hc (inV_pair.mpr z)
        refine ⟨sm.new nT, ?_⟩
        rw [hD', adjs_take hpr, if_neg (fun z => hc (.inl z)), if_neg (fun z => hc (.inr z)), List.append_nil]
    · rintro H' ⟨sm, hD⟩
      rw [List.length_map, Paired.length hq, List.take_length] at hD
      have hlen : (adjs p ts).length ≤ 20 := Nat.le_trans (adjs_len _ _) h20
      refine ⟨D, (adjs p ts).map (fun n : Nat => (n : Int)), rfl, ?_, ?_, fun ms l pm _ nl => ?_⟩
      · rw [← natV_list]; exact .of hD
      · rw [List.length_map]; omega
      · obtain ⟨ks, rfl, pk⟩ := perm_nats pm
        refine q _ l ks (sm.new nl) (sm.free nl) (by rw [upd_same, natV_list]) (fun r => ?_) (by rw [pk.length_eq]; exact hlen)
        rw [pk.mem_iff, mem_adjs fun t ht => (hb t ht).1]
/-! ### _law_stoops -/
def spStoops (K : PySem.W.Frag) : Sp := fun vs H Q _ => ∃ (a b : Addr) (n : Nat) (ts : Ties) (h : List Int), vs = [.ref a, .ref b] ∧ WebOk H a n ts ∧ HtAt H b h ∧ h.length = n ∧
  ∀ (H' : Hp) (l : Addr) (prs : List (Nat × Nat)), Same H H' → H l = none → PrsL H' l prs → (∀ pr, pr ∈ prs ↔ Stp ts h pr.1 pr.2) → prs.length ≤ 160 → Q (.ref l) H'
theorem ok_stoops {f fT : Addr} {fd fdT : FuncData} {k : Nat} (F : Fun K "_law_stoops" "_law_stoops" sLStoops f fd) (B : Blt mg) (DT : Dn K mg "_law_ties" sLTies ["_law_web_here", "_law_person"] fT fdT) :
    FnOk P w K mg base CX0 (k + 2) f fd ["_law_web_here", "_law_heights_here"] (spStoops K) := by
  have GT : FnOk P w K mg base CX0 (k + 1) fT fdT ["_law_web_here", "_law_person"] (spLTies K) := ok_lties DT.F B
  refine F.ok scLStoops (fun vs H Q E h => ?_) (fun cdv A outer s H vs Q E hr h => ?_)
  · obtain ⟨a, b, n, ts, h, rfl, _⟩ := h
    rfl
  · obtain ⟨a, b, n, ts, h, rfl, W, hb, hl, q⟩ := h
    refine ⟨_, pss_cons (ps_set (i := 2) scLStoops.nd rfl (.inl rfl) (pe_lst pa_nil))
      (pss_cons (ps_for PassesOwn.never rfl (pi_range1 rfl B.range (pa_cons (pe_ix ix_tup (pv 0) pe_int (fun _ _ => rfl)) pa_nil)) (pg_name (i := 3) scLStoops.nd rfl (.inr rfl))
        (pss_one (ps_set (i := 2) scLStoops.nd rfl (.inl rfl) (pe_op op_cat (pv 2)
          (pe_lc (own := [("_law_one", 4)]) (g := gName 4) (tt := tTest (tOp (rI0 fun i j => .bl (decide (i < j))) (tOp (rIxT K) (tVar 1) (tVar 4)) (tOp (rIxT K) (tVar 1) (tVar 3)))) rfl scLStoops.nd (pi_list (pe_call GT hr (by rfl) DT.g DT.F.kp DT.b .nil pass0 (pa_cons (pv 0) (pa_cons (pv 3) pa_nil))))
            (blkOk_by (N := nLStoops) (sc := defScope sLStoops) (by decide +kernel))
            (fun _ _ _ _ _ => pg_name (i := 4) scLStoops.nd rfl (.inl rfl))
            (fun _ _ _ _ _ => pts_one (pt_cmpR op_lt (pe_ix ix_tup (pv 1) (pv 4) (fun _ _ => rfl)) (pe_ix ix_tup (pv 1) (pv 3) (fun _ _ => rfl)) (nomark _)))
            (fun _ _ _ _ _ => pe_tup (pa_cons (pv 3) (pa_cons (pv 4) pa_nil))))))))
      (pss_one (ps_ret (pv 2)))), ?_⟩
    -- found = []
    refine ⟨Nat.zero_le _, fun o no => ?_⟩
    have s1 : Same H (upd H o (.lst [])) := same_upd no
    obtain ⟨wb, hwa, hwp⟩ := id W.at'
    refine ⟨.ref a, rfl, a, _, 0, natV n, rfl, rfl, .of (s1 _ _ hwa), rfl, n, rfl, by have := W.small; omega, by have := W.small; omega, ?_⟩
    have en : ((n : Nat) : Int).toNat = n := by simp
    rw [en]
    refine for_range (fun i σ H' => ∃ o y3 y4 prs, σ = [some (.ref a), some (.ref b), some (.ref o), y3, y4] ∧ Same H H' ∧ H o = none ∧ PrsL H' o prs ∧ prs.length ≤ 20 * i ∧ ∀ pr, pr ∈ prs ↔ pr.1 < i ∧ Stp ts h pr.1 pr.2) ?_ ?_ ?_
    · exact ⟨o, none, none, [], rfl, s1, no, ⟨[], upd_same, .nil⟩, by simp, fun pr => by simp⟩
    · rintro p σ H' hin ⟨o, y3, y4, prs, rfl, sm, no, ⟨qs, ho, hq⟩, hlen, hmem⟩
      have ei : (0 : Int) + ((p : Nat) : Int) = ((p : Nat) : Int) := by omega
      rw [ei]
      refine ⟨.ref o, rfl, ?_⟩
      -- _law_ties(web, person)
      refine ⟨.ref a, rfl, natV p, rfl, a, n, ts, p, rfl, (W.same sm).at', W.below, W.few, fun H3 l ns s3 nl hl3 hns hnl => ?_⟩
      refine ⟨l, rfl, ⟨_, .of hl3⟩, fun D nD => ?_⟩
      have smD : Same H H3 := sm.trans s3
      have nlD : l ≠ D := ne_of_none hl3 nD
      have noD : o ≠ D := ne_of_none (s3 _ _ ho) nD
      refine lc_list (xs := ns.map natV) (fun j H4 => Same H' H4 ∧ H4 l = some (.lst (ns.map natV)) ∧ PrsL H4 D (stps h p (ns.take j))) ?_ ?_ ?_ ?_
      · exact ⟨s3.new nD, by rw [upd_ne nlD]; exact hl3, [], upd_same, .nil⟩
      · rintro j H4 _ ⟨_, h4, _⟩
        exact .of h4
      · rintro j x H4 hx4 ⟨s4, hl4, q4, hD4, hp4⟩
        obtain ⟨r, hr4, rfl⟩ := nat_at hx4
        have hadj : Adj ts p r := (hns r).mp (List.mem_of_getElem? hr4)
        obtain ⟨_, hrn, _⟩ := W.below.adj hadj
        have hb4 : HtAt H4 b h := (hb.same sm).same s4
        refine ⟨rfl, .ref b, rfl, natV r, rfl, b, _, r, _, rfl, rfl, .of hb4, at_ht (by omega), .ref b, rfl, natV p, rfl, b, _, p, _, rfl, rfl, .of hb4, at_ht (by omega), _, _, rfl, rfl, _, rfl, ite2 (fun hc => ?_) (fun hc => ?_)⟩
        · have hc := of_decide_eq_true hc
          refine ⟨natV p, rfl, natV r, rfl, (by show 2 ≤ sizeLine; decide), fun T nT => ?_⟩
          have nDT : D ≠ T := ne_of_none hD4 nT
          refine ⟨_, by rw [upd_ne nDT]; exact hD4, ?_, ?_⟩
          · rw [List.length_map, Paired.length hp4]
            exact small1000 (Nat.le_trans (stps_len _ _ _) (by rw [List.length_take]; omega))
          · have hD5 : (upd H4 T (.tup [natV p, natV r])) D = some (.lst (q4.map V.ref)) := by rw [upd_ne nDT]; exact hD4
            refine ⟨(s4.new nT).put (s3.free nD), by rw [upd_ne nlD, upd_ne (ne_of_none hl4 nT)]; exact hl4, q4 ++ [T], by rw [upd_same, List.map_append]; rfl, ?_⟩
            rw [stps_take hr4, if_pos hc]
            refine paired_snoc (pairs_kt hp4 (((KeepT.refl _).new nT).lst hD5)) ?_
            show upd _ _ _ T = _
            rw [upd_ne nDT.symm, upd_same]
        · have hc : ¬ at_ h r < at_ h p := fun z => hc (decide_eq_true z)
          refine ⟨s4, hl4, q4, hD4, ?_⟩
          rw [stps_take hr4, if_neg hc, List.append_nil]
          exact hp4
      · rintro H4 ⟨s4, hl4, q4, hD4, hp4⟩
        rw [List.length_map, List.take_length] at hp4
        have ho4 : H4 o = some (.lst (qs.map V.ref)) := s4 _ _ ho
        have hsl := stps_len h p ns
        have n8 := W.small
        refine ⟨o, D, _, _, rfl, rfl, ho4, hD4, ?_, fun o2 no2 => ?_⟩
        · rw [List.length_map, List.length_map, Paired.length hq, Paired.length hp4]
          exact line8 (by omega)
        · refine ⟨o2, _, _, prs ++ stps h p ns, rfl, (sm.trans s4).new no2, (sm.trans s4).free no2, ⟨qs ++ q4, by rw [upd_same, List.map_append], ?_⟩, ?_, fun pr => ?_⟩
          · exact paired_app (pairs_kt hq (s4.keepT.new no2)) (pairs_kt hp4 ((KeepT.refl _).new no2))
          · rw [List.length_append]; omega
          · rw [List.mem_append, hmem, mem_stps, hns]
            constructor
            · rintro (⟨h1, h2⟩ | ⟨h1, h2, h3⟩)
              · exact ⟨by omega, h2⟩
              · rw [h1]; exact ⟨by omega, h2, h3⟩
            · rintro ⟨h1, h2, h3⟩
              by_cases e : pr.1 < p
              · exact .inl ⟨e, h2, h3⟩
              · have e : pr.1 = p := by omega
                rw [e] at h2 h3
                exact .inr ⟨e, h2, h3⟩
    · rintro σ H' ⟨o, y3, y4, prs, rfl, sm, no, hp, hlen, hmem⟩
      refine ⟨.ref o, rfl, q _ o prs sm no hp (fun pr => ?_) (by have := W.small; omega)⟩
      rw [hmem]
      refine ⟨fun z => z.2, fun z => ⟨?_, z⟩⟩
      exact (W.below.adj z.1).1
end
end Ks
end
section
set_option maxRecDepth 100000
namespace Ks
open PySem PySem.Spec PyProof.Rows L2
theorem RowAt.new {K : PySem.W.Frag} {H : Hp} {r sc p : Addr} {ns : List Int} {o : HO} (x : RowAt K H r sc ns) (h : H p = none) : RowAt K (upd H p o) r sc ns := x.put x h
theorem InBox.len {h k : List Int} (b : InBox h k) : k.length = h.length := b.1
section
variable {P : Program} {w : World} {K : PySem.W.Frag} {mg : Str → Option Value} {base : Heap}
/-- what the draws keep -/
theorem Kp.keepT {r : Addr} {H H' : Hp} (k : Kp r H H') {xs : List V} (hr : H r = some (.lst xs)) : KeepT H H' := fun b ys e => k b _ (ne_of e hr (by intro z; cases z)) e
theorem RowAt.keepT {r sc : Addr} {ns : List Int} {H H' : Hp} (x : RowAt K H r sc ns) (k : Kp r H H') : KeepT H H' := by
  obtain ⟨_, _, _, h1, _⟩ := x
  exact k.keepT h1
theorem WebOk.kt {H H' : Hp} {a : Addr} {n : Nat} {ts : Ties} (x : WebOk H a n ts) (s : KeepT H H') : WebOk H' a n ts := ⟨x.at'.kt s, x.below, x.few, x.small⟩
/-! ### _law_drawn -/
def spDrawn (K : PySem.W.Frag) : Sp := fun vs H Q _ => ∃ (r sc a b : Addr) (ns : List Int) (n : Nat) (ts : Ties) (h : List Int) (m : Nat), vs = [.ref r, .ref a, .ref b, natV m] ∧ RowAt K H r sc ns ∧ WebOk H a n ts ∧ HtAt H b h ∧ h.length = n ∧ m ≤ 20 ∧
  ∀ (H' : Hp) (t x c : Addr) (g : List Int), Kp r H H' → RowAt K H' r sc ns → H' t = some (.tup [.ref x, .ref c]) → HtAt H' c g → InBox h g → Q (.ref t) H'
theorem ok_drawn {f fS fT fP fA fK : Addr} {fd fdS fdT fdP fdA fdK : FuncData} {k : Nat} (F : Fun K "_law_drawn" "_law_drawn" sLDrawn f fd) (B : Blt mg) (DS : Dn K mg "_law_stoops" sLStoops ["_law_web_here", "_law_heights_here"] fS fdS) (DT : Dn K mg "_law_ties" sLTies ["_law_web_here", "_law_person"] fT fdT)
    (DP : Dn K mg "_law_pick" sLPick ["_law_row", "_law_things"] fP fdP) (DK : Dn K mg "_law_taken" sLTaken ["_law_row", "_law_many"] fK fdK) (DA : Dn K mg "_law_after" sLAfter ["_law_heights_here", "_law_pair"] fA fdA) :
    FnOk P w K mg base CX0 (k + 3) f fd ["_law_row", "_law_web_here", "_law_heights_here", "_law_most"] (spDrawn K) := by
  have GS : FnOk P w K mg base CX0 (k + 2) fS fdS ["_law_web_here", "_law_heights_here"] (spStoops K) := ok_stoops DS.F B DT
  have GP : FnOk P w K mg base CX0 (k + 2) fP fdP ["_law_row", "_law_things"] (spPick K) := ok_pick DP.F B DK
  have GA : FnOk P w K mg base CX0 (k + 2) fA fdA ["_law_heights_here", "_law_pair"] (spLAfter K) := ok_lafter (k := k + 1) DA.F
  refine F.ok scLDrawn (fun vs H Q E h => ?_) (fun cdv A outer s H vs Q E hr h => ?_)
  · obtain ⟨r, sc, a, b, ns, n, ts, h, m, rfl, _⟩ := h
    rfl
  · obtain ⟨r, sc, a, b, ns, n, ts, h, m, rfl, row, W, hb, hl, hm, q⟩ := h
    refine ⟨_, pss_cons (ps_par (i := 4) (j := 5) rfl scLDrawn.nd rfl rfl (by decide) rfl rfl (pa_cons (pv 2) (pa_cons (pe_tup pa_nil) pa_nil)) rfl)
      (pss_cons (ps_for PassesOwn.never rfl (pi_range1 rfl B.range (pa_cons (pv 3) pa_nil)) (pg_name (i := 6) scLDrawn.nd rfl (.inl rfl))
        (pss_cons (ps_set (i := 7) scLDrawn.nd rfl (.inl rfl) (pe_call GS hr (by rfl) DS.g DS.F.kp DS.b .nil pass0 (pa_cons (pv 1) (pa_cons (pv 4) pa_nil))))
        (pss_one (ps_if (pt_cmpR (op_neEL hr.units) (pv 7) (pe_lst pa_nil) (nomark _))
          (pss_cons (ps_set (i := 8) scLDrawn.nd rfl (.inl rfl) (pe_call GP hr (by rfl) DP.g DP.F.kp DP.b .nil pass0 (pa_cons (pv 0) (pa_cons (pv 7) pa_nil))))
          (pss_one (ps_par (i := 4) (j := 5) rfl scLDrawn.nd rfl rfl (by decide) rfl rfl (pa_cons (pe_call GA hr (by rfl) DA.g DA.F.kp DA.b .nil pass0 (pa_cons (pv 4) (pa_cons (pv 8) pa_nil))) (pa_cons (pe_op op_catA (pv 5) (pe_tup (pa_cons (pv 8) pa_nil))) pa_nil)) rfl)))
          pss_nil))))
      (pss_one (ps_ret (pe_tup (pa_cons (pv 5) (pa_cons (pv 4) pa_nil)))))), ?_⟩
    refine ⟨.ref b, rfl, Nat.zero_le _, fun x0 nx0 => ⟨_, _, rfl, ?_⟩⟩
    have s0 := same_upd (o := .tup []) nx0
    refine ⟨natV m, rfl, m, rfl, by omega, by omega, ?_⟩
    have en : ((m : Nat) : Int).toNat = m := by simp
    rw [en]
    refine for_range (fun i σ H1 => ∃ (c x : Addr) (y6 y7 y8 : Option V) (g : List Int) (xs : List V), σ = [some (.ref r), some (.ref a), some (.ref b), some (natV m), some (.ref c), some (.ref x), y6, y7, y8] ∧ Kp r H H1 ∧ RowAt K H1 r sc ns ∧ HtAt H1 c g ∧ InBox h g ∧ H1 x = some (.tup xs) ∧ xs.length ≤ i) ?_ ?_ ?_
    · refine ⟨b, x0, none, none, none, h, [], rfl, s0.kp, row.new nx0, hb.same s0, ⟨rfl, fun i hi => ⟨?_, Int.le_refl _⟩⟩, upd_same, Nat.le_refl _⟩
      exact at_mem hi
    · rintro i σ H1 hi ⟨c, x, y6, y7, y8, g, xs, rfl, k1, row1, hc, hg, hx, hxl⟩
      have W1 := W.kt (row.keepT k1)
      have gl : g.length = n := by rw [hg.1, hl]
      -- some = stoops(web, now)
      refine ⟨.ref a, rfl, .ref c, rfl, a, c, n, ts, g, rfl, W1, hc, gl, fun H2 l prs s2 nl ⟨qs, hll, hq⟩ hp hpl => ?_⟩
      have row2 := row1.same s2
      have k2 := k1.trans s2.kp
      -- some != []
      refine ⟨.ref l, rfl, Nat.zero_le _, fun z nz => ⟨l, z, qs.map V.ref, rfl, rfl, .of (by rw [upd_ne (ne_of_none hll nz)]; exact hll), .of upd_same, dat_prs (pairs_kt hq ((KeepT.refl _).new nz)), _, rfl, ?_⟩⟩
      have s3 := s2.new (o := .lst []) nz
      have row3 := row2.new (o := .lst []) nz
      have k3 := k2.new (o := .lst []) nz
      have hll3 : (upd H2 z (.lst [])) l = some (.lst (qs.map V.ref)) := by rw [upd_ne (ne_of_none hll nz)]; exact hll
      have hq3 : Paired (PrAt (upd H2 z (.lst []))) qs prs := pairs_kt hq ((KeepT.refl _).new nz)
      generalize upd H2 z (.lst []) = H3 at s3 row3 k3 hll3 hq3 ⊢
      rw [isEmpty_map]
      cases hes : qs.isEmpty with
      | true =>
        refine iteF ⟨c, x, _, _, _, g, xs, rfl, k3, row3, hc.same s3, hg, s3 _ _ hx, by omega⟩
      | false =>
        have hql : qs.length = prs.length := Paired.length hq
        have hpos : 0 < qs.length := by
          cases qs with
          | nil => simp at hes
          | cons _ _ => simp
        refine iteT ?_
        refine ⟨.ref r, rfl, .ref l, rfl, r, sc, l, ns, qs.map V.ref, rfl, row3, .inl (.of hll3), row1.ne nl, by rw [List.length_map]; exact hpos, by rw [List.length_map]; omega, fun H4 j y hy k4 row4 => ?_⟩
        obtain ⟨pa, hpa, rfl⟩ := ref_at hy
        obtain ⟨pr, hpr, hat⟩ := paired_at hq3 hpa
        have hst : Stp ts g pr.1 pr.2 := (hp pr).mp (List.mem_of_getElem? hpr)
        have kt4 := row3.keepT k4
        obtain ⟨hp1, hp2, _⟩ := W.below.adj hst.1
        have n8 := W.small
        -- now, found = after(now, pair), found + (pair,)
        refine ⟨.ref c, rfl, .ref pa, rfl, c, pa, g, pr.1, pr.2, rfl, (hc.same s3).kt kt4, hat.kt kt4, by omega, by omega, by omega, fun H5 t s5 ht5 => ?_⟩
        have hx5 : H5 x = some (.tup xs) := s5 _ _ (kt4 _ _ (s3 _ _ hx))
        refine ⟨.ref x, rfl, .ref pa, rfl, (by show 1 ≤ sizeLine; decide), fun y ny => ?_⟩
        refine catA (by rw [upd_ne (ne_of_none hx5 ny)]; exact hx5) upd_same (line8 (by simp only [List.length_cons, List.length_nil]; omega)) fun H6 t6 s6 ht6 => ?_
        have s56 := (s5.new (o := .tup [V.ref pa]) ny).trans s6
        refine ⟨_, _, rfl, t, t6, _, _, _, aft g pr.1 pr.2, _, rfl, (k3.trans k4).trans s56.kp, row4.same s56, (ht5.same (same_upd ny)).same s6, hg.step (by rw [hl]; exact W.below) ⟨pr.1, pr.2, hst, rfl⟩, ht6, ?_⟩
        simp only [List.length_append, List.length_cons, List.length_nil]
        omega
    · rintro σ H1 ⟨c, x, y6, y7, y8, g, xs, rfl, k1, row1, hc, hg, hx, hxl⟩
      refine ⟨.ref x, rfl, .ref c, rfl, (by show 2 ≤ sizeLine; decide), fun t nt => ?_⟩
      exact q _ t x c g (k1.new nt) (row1.new nt) upd_same (hc.kt ((KeepT.refl _).new nt)) hg
end
end Ks
end
section
set_option maxRecDepth 100000
namespace Ks
open PySem PySem.Spec PyProof.Rows L2
theorem InBox.mem {h g : List Int} (b : InBox h g) : ∀ x ∈ g, x ∈ h := fun x hx => by
  obtain ⟨i, hi, e⟩ := List.getElem_of_mem hx
  have := (b.2 i (by rw [← b.1]; exact hi)).1
  unfold at_ at this
  rw [List.getD_eq_getElem?_getD, List.getElem?_eq_getElem hi] at this
  rw [← e]; exact this
section
variable {P : Program} {w : World} {K : PySem.W.Frag} {mg : Str → Option Value} {base : Heap}
/-! ### _law_goal -/
def spGoal (K : PySem.W.Frag) : Sp := fun vs H Q _ => ∃ (r sc a b : Addr) (ns : List Int) (n : Nat) (ts : Ties) (h : List Int), vs = [.ref r, .ref a, .ref b] ∧ RowAt K H r sc ns ∧ WebOk H a n ts ∧ HtAt H b h ∧ h.length = n ∧ 1 ≤ n ∧
  ∀ (H' : Hp) (c : Addr) (g : List Int), Kp r H H' → RowAt K H' r sc ns → HtAt H' c g → g.length = n → (∀ x ∈ g, x ∈ h) → Q (.ref c) H'
theorem ok_goal {f fD fS fT fP fA fK : Addr} {fd fdD fdS fdT fdP fdA fdK : FuncData} {k : Nat} (F : Fun K "_law_goal" "_law_goal" sLGoal f fd) (B : Blt mg) (DD : Dn K mg "_law_drawn" sLDrawn ["_law_row", "_law_web_here", "_law_heights_here", "_law_most"] fD fdD) (DS : Dn K mg "_law_stoops" sLStoops ["_law_web_here", "_law_heights_here"] fS fdS) (DT : Dn K mg "_law_ties" sLTies ["_law_web_here", "_law_person"] fT fdT)
    (DP : Dn K mg "_law_pick" sLPick ["_law_row", "_law_things"] fP fdP) (DK : Dn K mg "_law_taken" sLTaken ["_law_row", "_law_many"] fK fdK) (DA : Dn K mg "_law_after" sLAfter ["_law_heights_here", "_law_pair"] fA fdA) :
    FnOk P w K mg base CX0 (k + 4) f fd ["_law_row", "_law_web_here", "_law_heights_here"] (spGoal K) := by
  have GD : FnOk P w K mg base CX0 (k + 3) fD fdD ["_law_row", "_law_web_here", "_law_heights_here", "_law_most"] (spDrawn K) := ok_drawn DD.F B DS DT DP DK DA
  have GP : FnOk P w K mg base CX0 (k + 3) fP fdP ["_law_row", "_law_things"] (spPick K) := ok_pick (k := k + 1) DP.F B DK
  have GK : FnOk P w K mg base CX0 (k + 3) fK fdK ["_law_row", "_law_many"] (spTaken K) := ok_taken (k := k + 2) DK.F B
  refine F.ok scLGoal (fun vs H Q E h => ?_) (fun cdv A outer s H vs Q E hr h => ?_)
  · obtain ⟨r, sc, a, b, ns, n, ts, h, rfl, _⟩ := h
    rfl
  · obtain ⟨r, sc, a, b, ns, n, ts, h, rfl, row, W, hb, hl, hn, q⟩ := h
    refine ⟨_, pss_cons (ps_if (pt_cmpR op_gt (pe_call GK hr (by rfl) DK.g DK.F.kp DK.b .nil pass0 (pa_cons (pv 0) (pa_cons pe_int pa_nil))) pe_int (nomark _))
        (pss_one (ps_ret (pe_ix ix_tup (pe_call GD hr (by rfl) DD.g DD.F.kp DD.b .nil pass0 (pa_cons (pv 0) (pa_cons (pv 1) (pa_cons (pv 2) (pa_cons (pe_call GK hr (by rfl) DK.g DK.F.kp DK.b .nil pass0 (pa_cons (pv 0) (pa_cons pe_int pa_nil))) pa_nil))))) pe_int (fun _ _ => rfl))))
        pss_nil)
      (pss_one (ps_ret (pe_callTy call_tuple_of (by rfl) B.tuple (by decide +kernel) (pa_cons
        (pe_lc (own := [("_law_one", 3)]) (g := gName 3) (tt := tYes) (te := tCall (spPick K) [] E0 (tCons (tVar 0) (tCons (tVar 2) tNil))) rfl scLGoal.nd
          (pi_tup (pv 2))
          (blkOk_by (N := nLGoal) (sc := defScope sLGoal) (by decide +kernel))
          (fun _ _ _ _ _ => pg_name (i := 3) scLGoal.nd rfl (.inl rfl))
          (fun _ _ _ _ _ => pts_nil)
          (fun _ _ _ _ _ => pe_call GP hr (by rfl) DP.g DP.F.kp DP.b .nil pass0 (pa_cons (pv 0) (pa_cons (pv 2) pa_nil)))) pa_nil)))), ?_⟩
    refine ⟨.ref r, rfl, r, sc, ns, 3, rfl, row, by decide, by decide, fun H1 v hv k1 row1 => ?_⟩
    have kt1 := row.keepT k1
    refine ⟨_, _, rfl, rfl, _, rfl, ite2 (fun hc => ?_) (fun hc => ?_)⟩
    · refine ⟨.ref r, rfl, .ref a, rfl, .ref b, rfl, .ref r, rfl, r, sc, ns, 9, rfl, row1, by decide, by decide, fun H2 v2 hv2 k2 row2 => ?_⟩
      have kt2 := kt1.trans (row1.keepT k2)
      refine ⟨r, sc, a, b, ns, n, ts, h, v2, rfl, row2, W.kt kt2, hb.kt kt2, hl, by omega, fun H3 t x c g k3 row3 ht hg hi => ?_⟩
      exact ⟨t, _, 1, .ref c, rfl, rfl, .of ht, rfl, q _ c g ((k1.trans k2).trans k3) row3 hg (by rw [hi.1, hl]) hi.mem⟩
    · have hb1 := hb.kt kt1
      have n8 := W.small
      have hbr : b ≠ r := by
        obtain ⟨_, _, _, h1, _⟩ := row
        exact ne_of hb h1 (by intro z; cases z)
      refine ⟨.ref b, rfl, b, rfl, ⟨_, .of hb1⟩, fun D nD => ?_⟩
      refine lc_tup (xs := h.map V.int) (fun i H2 => Kp r H1 H2 ∧ RowAt K H2 r sc ns ∧ ∃ g : List Int, H2 D = some (.lst (g.map V.int)) ∧ g.length = i ∧ ∀ x ∈ g, x ∈ h) ?_ ?_ ?_ ?_
      · exact ⟨Kp.refl.new nD, row1.new nD, [], upd_same, rfl, fun x hx => by cases hx⟩
      · rintro i H2 _ ⟨k2, row2, _⟩
        exact .of (row1.keepT k2 _ _ hb1)
      · rintro i x H2 hx ⟨k2, row2, g, hD, hgl, hg⟩
        have hih : i < h.length := by
          have := (List.getElem?_eq_some_iff.mp hx).1
          rw [List.length_map] at this
          exact this
        refine ⟨rfl, ?_⟩
        refine ⟨.ref r, rfl, .ref b, rfl, r, sc, b, ns, h.map V.int, rfl, row2, .inr (.of (row1.keepT k2 _ _ hb1)), hbr, by rw [List.length_map]; omega, by rw [List.length_map]; omega, fun H3 j y hy k3 row3 => ?_⟩
        rw [List.getElem?_map] at hy
        cases e : h[j]? with
        | none => rw [e] at hy; cases hy
        | some z =>
          rw [e] at hy
          obtain rfl : V.int z = y := Option.some.inj hy
          have hD3 := k3 _ _ (row1.ne nD) hD
          refine ⟨_, hD3, ?_, (k2.trans k3).put nD, row1.put row3 nD, g ++ [z], by rw [upd_same, List.map_append]; rfl, by simp [hgl], fun x hx => ?_⟩
          · rw [List.length_map]; exact small1000 (by omega)
          · rcases List.mem_append.mp hx with w | w
            · exact hg x w
            · rw [List.mem_singleton.mp w]; exact List.mem_of_getElem? e
      · rintro H2 ⟨k2, row2, g, hD, hgl, hg⟩
        rw [List.length_map] at hgl
        refine ⟨D, _, rfl, .inl ⟨.of hD, fun c nc => ?_⟩⟩
        exact q _ c g ((k1.trans k2).new nc) (row2.new nc) upd_same (by rw [hgl, hl]) hg
end
end Ks
end
section
set_option maxRecDepth 100000
namespace Ks
open PySem PySem.Spec PyProof.Rows L2
/-! ### _law_web -/
def PLt (a b : Nat × Nat) : Prop := a.1 < b.1 ∨ (a.1 = b.1 ∧ a.2 < b.2)
theorem rising_of {ts : Ties} (h : ts.Pairwise PLt) : Rising ts := fun i a b ha hb => by
  obtain ⟨h1, e1⟩ := List.getElem?_eq_some_iff.mp ha
  obtain ⟨h2, e2⟩ := List.getElem?_eq_some_iff.mp hb
  have := List.pairwise_iff_getElem.mp h i (i + 1) h1 h2 (Nat.lt_succ_self _)
  rw [e1, e2] at this
  exact this
abbrev pk (t : Nat × Nat) : List Int := [(t.1 : Int), (t.2 : Int)]
theorem asc_pair {a b : Nat × Nat} (h : Asc (pk a) (pk b)) (hne : pk a ≠ pk b) : PLt a b := by
  have h : ((decide ((b.1 : Int) < (a.1 : Int))) || (!(decide ((a.1 : Int) < (b.1 : Int))) && ((decide ((b.2 : Int) < (a.2 : Int))) || (!(decide ((a.2 : Int) < (b.2 : Int))) && false)))) = false := h
  rw [Bool.or_eq_false_iff] at h
  obtain ⟨h1, h2⟩ := h
  have h1 := of_decide_eq_false h1
  unfold PLt
  by_cases e : a.1 = b.1
  · refine .inr ⟨e, ?_⟩
    have e' : (a.1 : Int) = (b.1 : Int) := by omega
    rw [decide_eq_false (by omega : ¬ (a.1 : Int) < (b.1 : Int)), Bool.not_false, Bool.true_and, Bool.or_eq_false_iff] at h2
    have h3 := of_decide_eq_false h2.1
    by_cases e2 : a.2 = b.2
    · exact absurd (by unfold pk; rw [e, e2]) hne
    · omega
  · exact .inl (by omega)
/-- a key that is a tie -/
def TieK (n : Nat) (k : List Int) : Prop := ∃ t : Nat × Nat, k = pk t ∧ t.1 < t.2 ∧ t.2 < n
theorem keys_ok {n : Nat} {D : DI} {k : List Int} {v : V} (h : ∀ j ∈ D.map (·.1), TieK n j) (hk : TieK n k) : ∀ j ∈ (putK D k v).map (·.1), TieK n j := fun j hj => by
  rw [keys_putK] at hj
  split at hj
  · exact h j hj
  · rcases List.mem_append.mp hj with z | z
    · exact h j z
    · rw [List.mem_singleton.mp z]; exact hk
theorem len_put {D : DI} {k : List Int} {v : V} : (putK D k v).length ≤ D.length + 1 := by
  have := congrArg List.length (keys_putK D k v)
  rw [List.length_map] at this
  rw [this]
  split
  · rw [List.length_map]; omega
  · rw [List.length_append, List.length_map, List.length_singleton]; exact Nat.le_refl _
theorem pk_list {n : Nat} : ∀ {ks : List (List Int)}, (∀ k ∈ ks, TieK n k) → ∃ ts : Ties, ks = ts.map pk ∧ Below n ts
  | [], _ => ⟨[], rfl, fun t ht => by cases ht⟩
  | k :: ks, h => by
    obtain ⟨t, e, h1, h2⟩ := h k List.mem_cons_self
    obtain ⟨ts, e2, b⟩ := pk_list (ks := ks) fun j hj => h j (List.mem_cons_of_mem _ hj)
    refine ⟨t :: ts, by rw [e, e2, List.map_cons], fun s hs => ?_⟩
    rcases List.mem_cons.mp hs with z | z
    · rw [z]; exact ⟨h1, h2⟩
    · exact b s z
theorem pk_paired {H : Hp} : ∀ {qs : List Addr} {ts : Ties}, Paired (HtAt H) qs (ts.map pk) → Paired (PrAt H) qs ts
  | _, [], .nil => .nil
  | _, _ :: _, .cons r t => .cons r (pk_paired t)
theorem web_end {H : Hp} {n : Nat} {D : DI} {qs : List Addr} {ks : List (List Int)} (hk : ∀ k ∈ D.map (·.1), TieK n k) (nd : (D.map (·.1)).Nodup) (p : ks.Perm (D.map (·.1))) (pp : Paired (HtAt H) qs ks) (asc : ks.Pairwise Asc) :
    ∃ ts : Ties, Paired (PrAt H) qs ts ∧ Below n ts ∧ ts.Pairwise PLt ∧ ts.length = D.length := by
  obtain ⟨ts, rfl, b⟩ := pk_list (n := n) (ks := ks) fun k h => hk k (p.mem_iff.mp h)
  refine ⟨ts, pk_paired pp, b, ?_, ?_⟩
  · have nd' : (ts.map pk).Pairwise (· ≠ ·) := p.nodup_iff.mpr nd
    rw [List.pairwise_iff_getElem] at nd' asc ⊢
    intro i j hi hj hij
    have h1 := nd' i j (by rw [List.length_map]; exact hi) (by rw [List.length_map]; exact hj) hij
    have h2 := asc i j (by rw [List.length_map]; exact hi) (by rw [List.length_map]; exact hj) hij
    rw [List.getElem_map, List.getElem_map] at h1 h2
    exact asc_pair h2 h1
  · have := p.length_eq
    rw [List.length_map, List.length_map] at this
    exact this
theorem Kp.free {K : PySem.W.Frag} {r sc p : Addr} {H H1 : Hp} {ns : List Int} (k : Kp r H H1) (x : RowAt K H1 r sc ns) (h : H1 p = none) : H p = none := by
  have ne := x.ne h
  cases e : H p with
  | none => rfl
  | some o =>
    have := k _ _ ne e
    rw [h] at this; cases this
section
variable {P : Program} {w : World} {K : PySem.W.Frag} {mg : Str → Option Value} {base : Heap}
def spLWeb (K : PySem.W.Frag) : Sp := fun vs H Q _ => ∃ (r sc : Addr) (ns : List Int), vs = [.ref r, .int 4, .int 2] ∧ RowAt K H r sc ns ∧
  ∀ (H' : Hp) (t : Addr) (n : Nat) (ts : Ties), Kp r H H' → RowAt K H' r sc ns → WebFine H' t n ts → n ≤ 4 → ts.Pairwise PLt → Q (.ref t) H'
theorem ok_lweb {f fT : Addr} {fd fdT : FuncData} {k : Nat} (F : Fun K "_law_web" "_law_web" sLWeb f fd) (B : Blt mg) (DT : Dn K mg "_law_taken" sLTaken ["_law_row", "_law_many"] fT fdT) : FnOk P w K mg base CX0 (k + 2) f fd ["_law_row", "_law_most", "_law_more"] (spLWeb K) := by
  have GT : FnOk P w K mg base CX0 (k + 1) fT fdT ["_law_row", "_law_many"] (spTaken K) := ok_taken DT.F B
  refine F.ok scLWeb (fun vs H Q E h => ?_) (fun cdv A outer s H vs Q E hr h => ?_)
  · obtain ⟨r, sc, ns, rfl, _⟩ := h
    rfl
  · obtain ⟨r, sc, ns, rfl, row, q⟩ := h
    have hu := hu_of hr
    refine ⟨_, pss_cons (ps_set (i := 3) scLWeb.nd rfl (.inl rfl) (pe_op op_add pe_int (pe_call GT hr (by rfl) DT.g DT.F.kp DT.b .nil pass0 (pa_cons (pv 0) (pa_cons (pv 1) pa_nil)))))
      (pss_cons (ps_set (i := 4) scLWeb.nd rfl (.inl rfl) pe_dnewT)
      (pss_cons (ps_for PassesOwn.never rfl (pi_range2 rfl B.range (pa_cons pe_int (pa_cons (pv 3) pa_nil))) (pg_name (i := 5) scLWeb.nd rfl (.inl rfl))
        (pss_one (ps_if (pt_cmpR op_gt (pe_call GT hr (by rfl) DT.g DT.F.kp DT.b .nil pass0 (pa_cons (pv 0) (pa_cons pe_int pa_nil))) pe_int (nomark _))
          (pss_one (ps_dput hu (pv 4) (pe_tup (pa_cons (pe_call GT hr (by rfl) DT.g DT.F.kp DT.b .nil pass0 (pa_cons (pv 0) (pa_cons (pv 5) pa_nil))) (pa_cons (pv 5) pa_nil))) pe_bl rfl))
          pss_nil)))
      (pss_cons (ps_for PassesOwn.never rfl (pi_range1 rfl B.range (pa_cons (pe_ifExp (pt_cmpR op_gt (pv 3) pe_int (nomark _)) (pe_call GT hr (by rfl) DT.g DT.F.kp DT.b .nil pass0 (pa_cons (pv 0) (pa_cons (pe_op op_add (pv 2) pe_int) pa_nil))) pe_int) pa_nil)) (pg_name (i := 6) scLWeb.nd rfl (.inl rfl))
        (pss_cons (ps_set (i := 7) scLWeb.nd rfl (.inl rfl) (pe_call GT hr (by rfl) DT.g DT.F.kp DT.b .nil pass0 (pa_cons (pv 0) (pa_cons (pe_op op_sub (pv 3) pe_int) pa_nil))))
        (pss_one (ps_dput hu (pv 4) (pe_tup (pa_cons (pv 7) (pa_cons (pe_op op_add (pe_op op_add (pv 7) pe_int) (pe_call GT hr (by rfl) DT.g DT.F.kp DT.b .nil pass0 (pa_cons (pv 0) (pa_cons (pe_op op_sub (pe_op op_sub (pv 3) pe_int) (pv 7)) pa_nil)))) pa_nil))) pe_bl rfl))))
      (pss_one (ps_ret (pe_tup (pa_cons (pv 3) (pa_cons (pe_callTy call_tuple_of (by rfl) B.tuple (by decide +kernel) (pa_cons (pe_callB cr_sortHt (by rfl) B.sorted bb_sorted (pa_cons (pe_callTy (call_list_dT rfl) (by rfl) B.list (by decide +kernel) (pa_cons (pv 4) pa_nil)) pa_nil)) pa_nil)) pa_nil)))))))), ?_⟩
    -- many = 1 + taken(row, most)
    refine ⟨.ref r, rfl, .int 4, rfl, r, sc, ns, 4, rfl, row, by decide, by decide, fun H1 v hv k1 row1 => ?_⟩
    have hv4 : v ≤ 3 := by omega
    refine ⟨1, (v : Int), rfl, rfl, ?_⟩
    -- ties_here = {}
    refine fun d nd => ?_
    have nd0 : H d = none := k1.free row1 nd
    have ndr : d ≠ r := row1.ne nd
    -- for person in range(1, many)
    refine ⟨natV (1 + v), rfl, 1, 1 + (v : Int), rfl, ⟨by omega, by omega, by omega, by omega⟩, ?_⟩
    have en : (1 + (v : Int) - 1).toNat = v := by omega
    rw [en]
    refine for_range (fun i σ H3 => ∃ (y5 y6 y7 : Option V) (D : DI), σ = [some (.ref r), some (.int 4), some (.int 2), some (natV (1 + v)), some (.ref d), y5, y6, y7] ∧ Kp r H H3 ∧ RowAt K H3 r sc ns ∧ H3 d = some (.dT (enc D)) ∧ (D.map (·.1)).Nodup ∧ (∀ j ∈ D.map (·.1), TieK (1 + v) j) ∧ D.length ≤ i) ?_ ?_ ?_
    · exact ⟨none, none, none, [], rfl, k1.new nd, row1.new nd, upd_same, by simp, fun j hj => (by cases hj), Nat.le_refl _⟩
    · rintro i σ H3 hi ⟨y5, y6, y7, D, rfl, k3, row3, hd3, nd3, hks3, hl3⟩
      -- if taken(row, 7) > 0
      refine ⟨.ref r, rfl, r, sc, ns, 7, rfl, row3, by decide, by decide, fun H4 c hc k4 row4 => ?_⟩
      have hd4 := k4 _ _ ndr hd3
      refine ⟨_, _, rfl, rfl, _, rfl, ite2 (fun _ => ?_) (fun _ => ?_)⟩
      · refine ⟨.ref d, rfl, .ref r, rfl, .int (1 + (i : Int)), rfl, r, sc, ns, 1 + (i : Int), rfl, row4, by omega, by omega, fun H5 a ha k5 row5 => ?_⟩
        have hd5 := k5 _ _ ndr hd4
        refine ⟨.int (1 + (i : Int)), rfl, (by show 2 ≤ sizeLine; decide), fun T nT => ?_⟩
        have hd6 : (upd H5 T (.tup [natV a, .int (1 + (i : Int))])) d = some (.dT (enc D)) := by rw [upd_ne (ne_of_none hd5 nT)]; exact hd5
        refine ⟨d, _, rfl, dput_ht (k := [(a : Int), 1 + (i : Int)]) hd6 upd_same (small1000 (by omega)), ?_⟩
        refine ⟨_, _, _, putK D [(a : Int), 1 + (i : Int)] (.bl true), rfl, (((k3.trans k4).trans k5).new nT).put nd0, row.put (row5.new nT) nd0, upd_same, nd_put nd3, keys_ok hks3 ⟨(a, 1 + i), ?_, ?_, ?_⟩, ?_⟩
        · show [_, _] = [_, _]
          rw [show (((1 + i : Nat)) : Int) = 1 + (i : Int) by omega]
        · show a < 1 + i
          omega
        · show 1 + i < 1 + v
          omega
        · exact Nat.le_trans len_put (by omega)
      · exact ⟨_, _, _, D, rfl, k3.trans k4, row4, hd4, nd3, hks3, by omega⟩
    · rintro σ H3 ⟨y5, y6, y7, D, rfl, k3, row3, hd3, nd3, hks3, hl3⟩
      -- for turn in range(taken(row, more + 1) if many > 1 else 0)
      refine ⟨natV (1 + v), rfl, _, _, rfl, rfl, _, rfl, ite2 (fun hc => ?_) (fun hc => ?_)⟩
      · have hc : (1 : Int) < ((1 + v : Nat) : Int) := of_decide_eq_true hc
        refine ⟨.ref r, rfl, .int 2, rfl, 2, 1, rfl, rfl, r, sc, ns, 2 + 1, rfl, row3, by decide, by decide, fun H4 m hm k4 row4 => ?_⟩
        refine ⟨(m : Int), rfl, by omega, by omega, ?_⟩
        have em : ((m : Nat) : Int).toNat = m := by simp
        rw [em]
        refine for_range (fun i σ H5 => ∃ (y5 y6 y7 : Option V) (D : DI), σ = [some (.ref r), some (.int 4), some (.int 2), some (natV (1 + v)), some (.ref d), y5, y6, y7] ∧ Kp r H H5 ∧ RowAt K H5 r sc ns ∧ H5 d = some (.dT (enc D)) ∧ (D.map (·.1)).Nodup ∧ (∀ j ∈ D.map (·.1), TieK (1 + v) j) ∧ D.length ≤ 4 + i) ?_ ?_ ?_
        · exact ⟨_, _, _, D, rfl, k3.trans k4, row4, k4 _ _ ndr hd3, nd3, hks3, by omega⟩
        · rintro i σ H5 hi ⟨y5, y6, y7, D, rfl, k5, row5, hd5, nd5, hks5, hl5⟩
          -- one = taken(row, many - 1)
          refine ⟨.ref r, rfl, natV (1 + v), rfl, ((1 + v : Nat) : Int), 1, rfl, rfl, r, sc, ns, ((1 + v : Nat) : Int) - 1, rfl, row5, by omega, by omega, fun H6 a ha k6 row6 => ?_⟩
          have hd6 := k6 _ _ ndr hd5
          -- ties_here[one, ..] = True
          refine ⟨.ref d, rfl, natV a, rfl, natV a, rfl, (a : Int), 1, rfl, rfl, .ref r, rfl, natV (1 + v), rfl, ((1 + v : Nat) : Int), 1, rfl, rfl, natV a, rfl, ((1 + v : Nat) : Int) - 1, (a : Int), rfl, rfl, r, sc, ns, ((1 + v : Nat) : Int) - 1 - (a : Int), rfl, row6, by omega, by omega, fun H7 b hb k7 row7 => ?_⟩
          have hd7 := k7 _ _ ndr hd6
          refine ⟨(a : Int) + 1, (b : Int), rfl, rfl, (by show 2 ≤ sizeLine; decide), fun T nT => ?_⟩
          have hd8 : (upd H7 T (.tup [natV a, .int ((a : Int) + 1 + (b : Int))])) d = some (.dT (enc D)) := by rw [upd_ne (ne_of_none hd7 nT)]; exact hd7
          refine ⟨d, _, rfl, dput_ht (k := [(a : Int), (a : Int) + 1 + (b : Int)]) hd8 upd_same (small1000 (by omega)), ?_⟩
          refine ⟨_, _, _, putK D [(a : Int), (a : Int) + 1 + (b : Int)] (.bl true), rfl, (((k5.trans k6).trans k7).new nT).put nd0, row.put (row7.new nT) nd0, upd_same, nd_put nd5, keys_ok hks5 ⟨(a, a + 1 + b), ?_, ?_, ?_⟩, ?_⟩
          · show [_, _] = [_, _]
            rw [show (((a + 1 + b : Nat)) : Int) = (a : Int) + 1 + (b : Int) by omega]
          · show a < a + 1 + b
            omega
          · show a + 1 + b < 1 + v
            omega
          · exact Nat.le_trans len_put (by omega)
        · rintro σ H5 ⟨y5, y6, y7, D, rfl, k5, row5, hd5, nd5, hks5, hl5⟩
          -- return many, tuple(sorted(list(ties_here)))
          refine ⟨natV (1 + v), rfl, .ref d, rfl, d, enc D, rfl, .inl hd5, fun p bs np isk => ?_⟩
          have hbs := keys_addr isk (enc_keys D)
          refine ⟨p, bs, D.map (·.1), rfl, .of upd_same, hts_kt hbs ((KeepT.refl _).new np), fun j hj => ?_, fun p2 qs ks np2 _ pj pp asc => ?_⟩
          · obtain ⟨t, rfl, _⟩ := hks5 j hj
            intro z; cases z
          · obtain ⟨ts, hq, hb, hp, hlen⟩ := web_end hks5 nd5 pj pp asc
            refine ⟨p2, _, rfl, .inl ⟨.of upd_same, fun b nb => ⟨(by show 2 ≤ sizeLine; decide), fun t nt => ?_⟩⟩⟩
            exact q _ t (1 + v) ts ((((k5.new np).new np2).new nb).new nt) ((((row5.new np).new np2).new nb).new nt) ⟨⟨⟨b, upd_same, qs, by rw [upd_ne (ne_of_none upd_same nt)]; exact upd_same, pairs_kt hq ((((KeepT.refl _).new np2).new nb).new nt)⟩, hb, by omega, by omega⟩, by omega, rising_of hp⟩ (by omega) hp
      · refine ⟨0, rfl, by decide, by decide, ?_⟩
        refine for_range (fun i σ H5 => σ = [some (.ref r), some (.int 4), some (.int 2), some (natV (1 + v)), some (.ref d), y5, y6, y7] ∧ H5 = H3) ⟨rfl, rfl⟩ (fun i σ H5 hi _ => absurd hi (Nat.not_lt_zero i)) ?_
        rintro σ H5 ⟨rfl, rfl⟩
        refine ⟨natV (1 + v), rfl, .ref d, rfl, d, enc D, rfl, .inl hd3, fun p bs np isk => ?_⟩
        have hbs := keys_addr isk (enc_keys D)
        refine ⟨p, bs, D.map (·.1), rfl, .of upd_same, hts_kt hbs ((KeepT.refl _).new np), fun j hj => ?_, fun p2 qs ks np2 _ pj pp asc => ?_⟩
        · obtain ⟨t, rfl, _⟩ := hks3 j hj
          intro z; cases z
        · obtain ⟨ts, hq, hb, hp, hlen⟩ := web_end hks3 nd3 pj pp asc
          refine ⟨p2, _, rfl, .inl ⟨.of upd_same, fun b nb => ⟨(by show 2 ≤ sizeLine; decide), fun t nt => ?_⟩⟩⟩
          exact q _ t (1 + v) ts ((((k3.new np).new np2).new nb).new nt) ((((row3.new np).new np2).new nb).new nt) ⟨⟨⟨b, upd_same, qs, by rw [upd_ne (ne_of_none upd_same nt)]; exact upd_same, pairs_kt hq ((((KeepT.refl _).new np2).new nb).new nt)⟩, hb, by omega, by omega⟩, by omega, rising_of hp⟩ (by omega) hp
end
end Ks
end
section
set_option maxRecDepth 100000
namespace Ks
open PySem PySem.Spec PyProof.Rows L2 LamX
section
variable {P : Program} {w : World} {K : PySem.W.Frag} {mg : Str → Option Value} {base : Heap}
theorem Txt.GSC (T : Txt K mg) : FnOk P w K mg base CX0 8 T.aSeasonCount T.fSeasonCount ["webs", "heights"] (spSC K) := ok_sc T
theorem Txt.GSL (T : Txt K mg) : FnOk P w K mg base CX0 8 T.aSeasonLows T.fSeasonLows ["webs", "heights"] (spSL K) := ok_sl T
theorem Txt.GSM (T : Txt K mg) : FnOk P w K mg base CX0 7 T.aSeasonComes T.fSeasonComes ["webs", "heights", "goal"] (spSM K) := ok_sm T
theorem Txt.GTaken (T : Txt K mg) : FnOk P w K mg base CX0 1 T.aLTaken T.fLTaken ["_law_row", "_law_many"] (spTaken K) := ok_taken (k := 0) T.DLTaken.F T.B
theorem Txt.GPick (T : Txt K mg) : FnOk P w K mg base CX0 2 T.aLPick T.fLPick ["_law_row", "_law_things"] (spPick K) := ok_pick (k := 0) T.DLPick.F T.B T.DLTaken
theorem Txt.GAlike (T : Txt K mg) (d : Nat) : FnOk P w K mg base CX0 (d + 1) T.aLAlike T.fLAlike ["_law_found", "_law_due"] (spAlike K d) := ok_alike T.DLAlike T.B d
theorem Txt.GIs (T : Txt K mg) : FnOk P w K mg base CX0 1 T.aLIs T.fLIs ["_law_found", "_law_due"] (spIs K) := ok_is (k := 0) T.DLIs.F T.B
theorem Txt.GLWeb (T : Txt K mg) : FnOk P w K mg base CX0 2 T.aLWeb T.fLWeb ["_law_row", "_law_most", "_law_more"] (spLWeb K) := ok_lweb (k := 0) T.DLWeb.F T.B T.DLTaken
theorem Txt.GLHeights (T : Txt K mg) : FnOk P w K mg base CX0 2 T.aLHeights T.fLHeights ["_law_row", "_law_many", "_law_high"] (spHeights K) := ok_heights (k := 0) T.DLHeights.F T.B T.DLTaken
theorem Txt.GLStoops (T : Txt K mg) : FnOk P w K mg base CX0 2 T.aLStoops T.fLStoops ["_law_web_here", "_law_heights_here"] (spStoops K) := ok_stoops (k := 0) T.DLStoops.F T.B T.DLTies
theorem Txt.GLAfter (T : Txt K mg) : FnOk P w K mg base CX0 1 T.aLAfter T.fLAfter ["_law_heights_here", "_law_pair"] (spLAfter K) := ok_lafter (k := 0) T.DLAfter.F
theorem Txt.GLGoal (T : Txt K mg) : FnOk P w K mg base CX0 4 T.aLGoal T.fLGoal ["_law_row", "_law_web_here", "_law_heights_here"] (spGoal K) := ok_goal (k := 0) T.DLGoal.F T.B T.DLDrawn T.DLStoops T.DLTies T.DLPick T.DLTaken T.DLAfter
end
abbrev lawX (P : Program) (w : World) (K : PySem.W.Frag) (mg : Str → Option Value) (base : Heap) (f : Addr) (cdv : Value) (A : Around) (outer : List Env) (s : Shared) (H : Hp) (E : XK) : Cx :=
  (cxOf CX0 P w K mg base nLaw ("law" : Str) (defScope sLaw) f cdv A outer s H E).nox
/-- where the law stands when all is drawn and reckoned -/
structure Mid (K : PySem.W.Frag) (TT : List (Addr × Str)) (H : Hp) (r sc wa b d w0 : Addr) (ns : List Int) (n : Nat) (ws : List Ties) (as : List Addr) (h : List Int) (ts0 : Ties) (D : DI) (L : Lb) : Prop where
  row : RowAt K H r sc ns
  tabs : Tabs TT H
  S : Start H wa b n ws as h
  W0 : WebOk H w0 n ts0
  hd : H d = some (.dT (enc D))
  nd : (D.map (·.1)).Nodup
  lb : Lbl D L
  ex : Exact L (Sn h ws ws.length)
theorem Mid.same {K : PySem.W.Frag} {TT : List (Addr × Str)} {H H' : Hp} {r sc wa b d w0 : Addr} {ns : List Int} {n : Nat} {ws : List Ties} {as : List Addr} {h : List Int} {ts0 : Ties} {D : DI} {L : Lb} (x : Mid K TT H r sc wa b d w0 ns n ws as h ts0 D L) (s : Same H H') : Mid K TT H' r sc wa b d w0 ns n ws as h ts0 D L :=
  ⟨x.row.same s, x.tabs.ext s, x.S.same s, x.W0.same s, s _ _ x.hd, x.nd, x.lb, x.ex⟩
theorem Mid.iff {K : PySem.W.Frag} {TT : List (Addr × Str)} {H : Hp} {r sc wa b d w0 : Addr} {ns : List Int} {n : Nat} {ws : List Ties} {as : List Addr} {h : List Int} {ts0 : Ties} {D : DI} {L : Lb} (x : Mid K TT H r sc wa b d w0 ns n ws as h ts0 D L) (g : List Int) : (valV D g).isSome = true ↔ Rn h ws ws.length g := by
  rw [x.lb.isSome]
  exact x.ex.some_iff g
section
variable {P : Program} {w : World} {K : PySem.W.Frag} {mg : Str → Option Value} {base : Heap}
/-- the law's last two statements -/
theorem law_end (T : Txt K mg) {TT : List (Addr × Str)} (GSF : FnOk P w K mg base CX0 7 T.aSeasonFewest T.fSeasonFewest ["webs", "heights", "goal"] (spSF K TT)) {f : Addr} {cdv : Value} {A : Around} {outer : List Env} {s : Shared} {H0 : Hp} {E : XK} (hr : Room 8 (A.deeper (envOfC ("law" : Str) (defScope sLaw) s.heap.objs.size f cdv))) :
    ∃ t, PSs (lawX P w K mg base f cdv A outer s H0 E) ((defBody sLaw).drop 11) t ∧ ∀ (De : Ends) (σ : L2.St) (H : Hp) (r sc wa b d w0 l c : Addr) (ns : List Int) (n : Nat) (ws : List Ties) (as : List Addr) (h g : List Int) (ts0 : Ties) (D : DI) (L : Lb) (y5 y6 y7 y8 y9 y12 y13 y14 y15 y16 y19 : Option V),
      σ = [some (.ref sc), some (.ref r), some (.ref w0), some (natV n), some (.ref wa), y5, y6, y7, y8, y9, some (.ref b), some (.ref d), y12, y13, y14, y15, y16, some (.ref l), some (.ref c), y19] →
      Mid K TT H r sc wa b d w0 ns n ws as h ts0 D L → HtAt H c g → g.length = n → Fit g → (∀ H2, De.rt (.bl true) H2) → t De σ H := by
  have hu := hu_of hr
  have hr7 : Room 7 _ := hr.mono (by decide)
  have hr1 : Room 1 _ := hr.mono (by decide)
  refine ⟨_, pss_cons (ps_if (pt_not (pt_val (pe_call T.GIs hr1 (by rfl) T.DLIs.g T.DLIs.F.kp T.DLIs.b .nil pass0 (pa_cons
      (pe_call T.GSM hr7 (by rfl) T.DSeasonComes.g T.DSeasonComes.F.kp T.DSeasonComes.b .nil pass0 (pa_cons (pv 4) (pa_cons (pv 10) (pa_cons (pv 18) pa_nil)))) (pa_cons (pe_cmp (pc_din hu (pv 18) (pv 11)) rfl) pa_nil)))))
      (pss_one (ps_ret pe_bl)) pss_nil)
    (pss_one (ps_ret (pe_call (T.GAlike 0) hr1 (by rfl) T.DLAlike.g T.DLAlike.F.kp T.DLAlike.b .nil pass0 (pa_cons
      (pe_call GSF hr7 (by rfl) T.DSeasonFewest.g T.DSeasonFewest.F.kp T.DSeasonFewest.b .nil pass0 (pa_cons (pv 4) (pa_cons (pv 10) (pa_cons (pv 18) pa_nil)))) (pa_cons (pe_dget1 hu (pv 11) (pv 18) ⟨rfl, rfl, rfl, rfl⟩) pa_nil))))), ?_⟩
  rintro De σ H r sc wa b d w0 l c ns n ws as h g ts0 D L y5 y6 y7 y8 y9 y12 y13 y14 y15 y16 y19 rfl M hc hgl hgf q
  -- if not is(season_comes(webs, heights, goal), goal in best)
  refine ⟨.ref wa, rfl, .ref b, rfl, .ref c, rfl, wa, b, c, n, ws, as, h, g, rfl, M.S, hc, hgl, hgf, fun H1 r1 s1 hr1' => ?_⟩
  have M1 := M.same s1
  have hc1 := hc.same s1
  have e : r1 = (valV D g).isSome := by
    rw [Bool.eq_iff_iff, hr1', M.iff g]
  refine ⟨.ref c, rfl, .ref d, rfl, d, valV D g, rfl, dget_ht M1.hd hc1, r1, by rw [← e]; rfl, true, rfl, iteF ?_⟩
  -- return alike(season_fewest(webs, heights, goal), best.get(goal))
  refine ⟨.ref wa, rfl, .ref b, rfl, .ref c, rfl, wa, b, c, n, ws, as, h, g, rfl, M1.S, hc1, hgl, hgf, M1.tabs, fun H2 L2 s2 hE2 => ?_⟩
  have hd2 : H2 d = some (.dT (enc D)) := s2 _ _ (noTbl_at M1.hd (fun ps z => by cases z))
  have hc2 : HtAt H2 c g := hc1.kt (keepT_of s2)
  refine ⟨.ref d, rfl, d, rfl, .inr ⟨_, .inl hd2⟩, .ref c, rfl, valV D g, dget_ht hd2 hc2, ?_⟩
  refine ⟨_, _, rfl, ?_, fun H3 _ => q H3⟩
  rw [M.lb g, Exact.eq hE2 M.ex g]
  cases L g with
  | none => exact .inl ⟨rfl, rfl⟩
  | some k => exact .inr ⟨(k : Int), rfl, rfl⟩
end
end Ks
end
section
set_option maxRecDepth 100000
set_option maxHeartbeats 1000000
namespace Ks
open PySem PySem.Spec PyProof.Rows L2 LamX
/-! ### the same data -/
theorem alk_ints {H : Hp} {a b : Addr} {k : List Int} (ha : HtAt H a k) (hb : HtAt H b k) (hl : k.length ≤ 100) : Alk H 1 (.ref a) (.ref b) := by
  refine .inr ⟨a, b, _, _, rfl, rfl, .inr ⟨ha, hb⟩, rfl, by rw [List.length_map]; exact hl, fun i x y hx hy => ?_⟩
  rw [hx] at hy
  cases hy
  rw [List.getElem?_map] at hx
  cases e : k[i]? with
  | none => rw [e] at hx; cases hx
  | some z =>
    rw [e] at hx
    exact .inr ⟨z, (Option.some.inj hx).symm, (Option.some.inj hx).symm⟩
theorem alk_hts {H : Hp} {a b : Addr} {qs qs' : List Addr} {ks : List (List Int)} (ha : H a = some (.lst (qs.map V.ref))) (hb : H b = some (.lst (qs'.map V.ref))) (hq : Paired (HtAt H) qs ks) (hq' : Paired (HtAt H) qs' ks) (hl : ks.length ≤ 100) (hk : ∀ k ∈ ks, k.length ≤ 100) : Alk H 2 (.ref a) (.ref b) := by
  have l1 := Paired.length hq
  have l2 := Paired.length hq'
  refine .inr ⟨a, b, _, _, rfl, rfl, .inl ⟨ha, hb⟩, by rw [List.length_map, List.length_map, l1, l2], by rw [List.length_map, l2]; exact hl, fun i x y hx hy => ?_⟩
  obtain ⟨p, hp, rfl⟩ := ref_at hx
  obtain ⟨p', hp', rfl⟩ := ref_at hy
  obtain ⟨k, e1, h1⟩ := paired_at hq hp
  obtain ⟨k', e2, h2⟩ := paired_at hq' hp'
  rw [e1] at e2
  cases e2
  exact alk_ints h1 h2 (hk k (List.mem_of_getElem? e1))
theorem asc_only : ∀ {ks ks' : List (List Int)}, ks.Nodup → ks'.Nodup → ks.Pairwise Asc → ks'.Pairwise Asc → (∀ k, k ∈ ks ↔ k ∈ ks') → ks = ks'
  | [], [], _, _, _, _, _ => rfl
  | [], k :: _, _, _, _, _, h => absurd ((h k).mpr List.mem_cons_self) (by simp)
  | k :: _, [], _, _, _, _, h => absurd ((h k).mp List.mem_cons_self) (by simp)
  | a :: ks, b :: ks', n1, n2, p1, p2, h => by
    obtain ⟨na, m1⟩ := List.nodup_cons.mp n1
    obtain ⟨nb, m2⟩ := List.nodup_cons.mp n2
    obtain ⟨pa, r1⟩ := List.pairwise_cons.mp p1
    obtain ⟨pb, r2⟩ := List.pairwise_cons.mp p2
    have e : a = b := by
      rcases List.mem_cons.mp ((h a).mp List.mem_cons_self) with z | z
      · exact z
      · rcases List.mem_cons.mp ((h b).mpr List.mem_cons_self) with y | y
        · exact y.symm
        · exact Asc.antisymm (pa b y) (pb a z)
    subst e
    have ih : ks = ks' := asc_only m1 m2 r1 r2 fun k => by
      constructor
      · intro z
        rcases List.mem_cons.mp ((h k).mp (List.mem_cons_of_mem _ z)) with y | y
        · rw [y] at z; exact absurd z na
        · exact y
      · intro z
        rcases List.mem_cons.mp ((h k).mpr (List.mem_cons_of_mem _ z)) with y | y
        · rw [y] at z; exact absurd z nb
        · exact y
    rw [ih]
section
variable {P : Program} {w : World} {K : PySem.W.Frag} {mg : Str → Option Value} {base : Heap}
/-- the law's statements behind the reckoning -/
theorem law_checks (T : Txt K mg) {TT : List (Addr × Str)} (GSF : FnOk P w K mg base CX0 7 T.aSeasonFewest T.fSeasonFewest ["webs", "heights", "goal"] (spSF K TT)) {f : Addr} {cdv : Value} {A : Around} {outer : List Env} {s : Shared} {H0 : Hp} {E : XK} (hr : Room 8 (A.deeper (envOfC ("law" : Str) (defScope sLaw) s.heap.objs.size f cdv))) :
    ∃ t, PSs (lawX P w K mg base f cdv A outer s H0 E) ((defBody sLaw).drop 7) t ∧ ∀ (De : Ends) (σ : L2.St) (H : Hp) (r sc wa b d w0 : Addr) (ns : List Int) (n : Nat) (ws : List Ties) (as : List Addr) (h : List Int) (ts0 : Ties) (D : DI) (L : Lb) (y5 y6 y7 y8 y9 y12 y13 y14 y15 y16 y17 y18 y19 : Option V),
      σ = [some (.ref sc), some (.ref r), some (.ref w0), some (natV n), some (.ref wa), y5, y6, y7, y8, y9, some (.ref b), some (.ref d), y12, y13, y14, y15, y16, y17, y18, y19] →
      Mid K TT H r sc wa b d w0 ns n ws as h ts0 D L → (∀ H2, De.rt (.bl true) H2) → t De σ H := by
  obtain ⟨tE, hE, qE⟩ := law_end T GSF (outer := outer) (s := s) (H0 := H0) (E := E) hr
  have B := T.B
  have hu := hu_of hr
  have hr7 : Room 7 _ := hr.mono (by decide)
  have hr1 : Room 1 _ := hr.mono (by decide)
  have hr2 : Room 2 _ := hr.mono (by decide)
  have hr4 : Room 4 _ := hr.mono (by decide)
  refine ⟨_, pss_cons (ps_set (i := 17) scLaw.nd rfl (.inr rfl) (pe_callB cr_sortHt (by rfl) B.sorted bb_sorted (pa_cons (pe_callTy (call_list_dT rfl) (by rfl) B.list (by decide +kernel) (pa_cons (pv 11) pa_nil)) pa_nil)))
    (pss_cons (ps_if (pt_not (pt_val (pe_call (T.GAlike 3) hr4 (by rfl) T.DLAlike.g T.DLAlike.F.kp T.DLAlike.b .nil pass0 (pa_cons
        (pe_lst (pa_cons (pe_call T.GSO hr7 (by rfl) T.DSeasonOutcomes.g T.DSeasonOutcomes.F.kp T.DSeasonOutcomes.b .nil pass0 (pa_cons (pv 4) (pa_cons (pv 10) pa_nil)))
          (pa_cons (pe_call T.GSC hr (by rfl) T.DSeasonCount.g T.DSeasonCount.F.kp T.DSeasonCount.b .nil pass0 (pa_cons (pv 4) (pa_cons (pv 10) pa_nil))) pa_nil)))
        (pa_cons (pe_lst (pa_cons (pv 17) (pa_cons (pe_callB call_len_seq (by rfl) B.len PySem.boot_len (pa_cons (pv 17) pa_nil)) pa_nil))) pa_nil)))))
      (pss_one (ps_ret pe_bl)) pss_nil)
    (pss_cons (ps_if (pt_not (pt_val (pe_call (T.GAlike 1) hr2 (by rfl) T.DLAlike.g T.DLAlike.F.kp T.DLAlike.b .nil pass0 (pa_cons
        (pe_call T.GSL hr (by rfl) T.DSeasonLows.g T.DSeasonLows.F.kp T.DSeasonLows.b .nil pass0 (pa_cons (pv 4) (pa_cons (pv 10) pa_nil)))
        (pa_cons (pe_callTy call_tuple_of (by rfl) B.tuple (by decide +kernel) (pa_cons
          (pe_lc (own := [("_law_at", 19)]) (g := gName 19) (tt := tYes) (te := tCB (rMin K) (tCons (tLc (iList K (tVar 17)) (gName 16) tYes (tOp (rIxT K) (tVar 16) (tVar 19)) [16]) tNil)) rfl scLaw.nd
            (pi_range1 rfl B.range (pa_cons (pv 3) pa_nil))
            (blkOk_by (N := nLaw) (sc := defScope sLaw) (by decide +kernel))
            (fun _ _ _ _ _ => pg_name (i := 19) scLaw.nd rfl (.inr rfl))
            (fun _ _ _ _ _ => pts_nil)
            (fun _ _ _ _ _ => pe_callB (cr_min rfl) (by rfl) B.min bb_min (pa_cons
              (pe_lc (own := [("_law_told", 16)]) (g := gName 16) (tt := tYes) (te := tOp (rIxT K) (tVar 16) (tVar 19)) rfl scLaw.nd
                (pi_list (pv 17)) (blkOk_by (N := nLaw) (by kernel_rfl))
                (fun _ _ _ _ _ => pg_name (i := 16) scLaw.nd rfl (.inl rfl))
                (fun _ _ _ _ _ => pts_nil)
                (fun _ _ _ _ _ => pe_ix ix_tup (pv 16) (pv 19) (fun _ _ => rfl))) pa_nil))) pa_nil)) pa_nil)))))
      (pss_one (ps_ret pe_bl)) pss_nil)
    (pss_cons (ps_set (i := 18) scLaw.nd rfl (.inl rfl) (pe_ifExp (pt_cmpR op_gt (pe_call T.GTaken hr1 (by rfl) T.DLTaken.g T.DLTaken.F.kp T.DLTaken.b .nil pass0 (pa_cons (pv 1) (pa_cons pe_int pa_nil))) pe_int (nomark _))
        (pe_call T.GPick hr2 (by rfl) T.DLPick.g T.DLPick.F.kp T.DLPick.b .nil pass0 (pa_cons (pv 1) (pa_cons (pv 17) pa_nil)))
        (pe_call T.GLGoal hr4 (by rfl) T.DLGoal.g T.DLGoal.F.kp T.DLGoal.b .nil pass0 (pa_cons (pv 1) (pa_cons (pv 2) (pa_cons (pv 10) pa_nil))))))
      hE))), ?_⟩
  rintro De σ H r sc wa b d w0 ns n ws as h ts0 D L y5 y6 y7 y8 y9 y12 y13 y14 y15 y16 y17 y18 y19 rfl M q
  have hmem := M.iff
  have hpos := M.S.pos
  have hl4 := M.S.sm.1
  have hhl := M.S.hl
  have klen : ∀ k, Rn h ws ws.length k → k.length = n := fun k hk => by rw [(M.S.box hk).1, hhl]
  -- some = sorted(list(best))
  refine ⟨.ref d, rfl, d, enc D, rfl, .inl M.hd, fun p bs np isk => ?_⟩
  have hbs := keys_addr isk (enc_keys D)
  refine ⟨p, bs, D.map (·.1), rfl, .of upd_same, hts_kt hbs ((KeepT.refl _).new np), fun k hk => ?_, fun l qs ks nl _ pk pp asc => ?_⟩
  · intro z
    have := klen k ((hmem k).mp (mem_keys.mp hk))
    rw [z] at this; simp at this; omega
  have sA := (same_upd (o := .lst (bs.map V.ref)) np).new (o := .lst (qs.map V.ref)) nl
  have hlA : (upd (upd H p (.lst (bs.map V.ref))) l (.lst (qs.map V.ref))) l = some (.lst (qs.map V.ref)) := upd_same
  have hqA := hts_kt pp ((KeepT.refl _).new (o := .lst (qs.map V.ref)) nl)
  have MA := M.same sA
  have hks : ∀ k, k ∈ ks ↔ Rn h ws ws.length k := fun k => by rw [pk.mem_iff, mem_keys, hmem]
  have hnd : ks.Nodup := pk.nodup_iff.mpr M.nd
  have k24 : ks.length ≤ 24 := few M.S.sm hnd fun k hk => M.S.box ((hks k).mp hk)
  generalize upd (upd H p (.lst (bs.map V.ref))) l (.lst (qs.map V.ref)) = HA at hlA hqA MA ⊢
  -- if not alike([season_outcomes(..), season_count(..)], [some, len(some)])
  refine ⟨.ref wa, rfl, .ref b, rfl, wa, b, n, ws, as, h, rfl, MA.S, fun H2 l2 qs2 ks2 s2 nl2 hl2 hq2 hks2 nd2 asc2 => ?_⟩
  have e2 : ks2 = ks := asc_only nd2 hnd asc2 asc fun k => by rw [hks2, hks]
  subst e2
  refine ⟨.ref wa, rfl, .ref b, rfl, wa, b, n, ws, as, h, rfl, MA.S.same s2, fun H3 ks3 s3 hks3 nd3 asc3 => ?_⟩
  have e3 : ks3 = ks2 := asc_only nd3 hnd asc3 asc fun k => by rw [hks3, hks]
  subst e3
  refine ⟨(by show 2 ≤ sizeLine; decide), fun x nx => ?_⟩
  have s23 := s2.trans s3
  have s4 := s23.new (o := .lst [.ref l2, natV ks3.length]) nx
  refine ⟨.ref l, rfl, .ref l, rfl, l, _, rfl, .inl (.of (s4 _ _ hlA)), (by show 2 ≤ sizeLine; decide), fun y ny => ?_⟩
  have s5 := s4.new (o := .lst [.ref l, .int (((qs.map V.ref).length : Nat) : Int)]) ny
  have k3 : KeepT H3 (upd (upd H3 x (.lst [.ref l2, natV ks3.length])) y (.lst [.ref l, .int (((qs.map V.ref).length : Nat) : Int)])) := ((KeepT.refl _).new nx).new ny
  have s35 : Same H3 (upd (upd H3 x (.lst [.ref l2, natV ks3.length])) y (.lst [.ref l, .int (((qs.map V.ref).length : Nat) : Int)])) := (same_upd nx).new ny
  refine ⟨_, _, rfl, .inr ⟨x, y, [.ref l2, natV ks3.length], [.ref l, .int (((qs.map V.ref).length : Nat) : Int)], rfl, rfl, .inl ⟨by rw [upd_ne (ne_of_none upd_same ny)]; exact upd_same, upd_same⟩, rfl, (by show 2 ≤ 100; decide), fun i u v hu' hv => ?_⟩, fun H6 s6 => ⟨true, rfl, iteF ?_⟩⟩
  · match i, hu', hv with
    | 0, hu', hv =>
      cases hu'; cases hv
      exact alk_hts (s35 _ _ (s3 _ _ hl2)) (s5 _ _ hlA) (hts_kt hq2 (s3.keepT.trans k3)) (hts_kt hqA s5.keepT) (by omega) fun k hk => by
        have := klen k ((hks k).mp hk); omega
    | 1, hu', hv =>
      cases hu'; cases hv
      refine .inl (.inr ⟨(ks3.length : Int), rfl, ?_⟩)
      rw [List.length_map, Paired.length hqA]
    | i + 2, hu', hv => cases hu'
  have sB := s5.trans s6
  have MB := MA.same sB
  have hlB := sB _ _ hlA
  have hqB := hts_kt hqA sB.keepT
  -- if not alike(season_lows(..), tuple([min([..]) ..]))
  refine ⟨.ref wa, rfl, .ref b, rfl, wa, b, n, ws, as, h, rfl, MB.S, fun H7 t ms s7 ht hlows => ?_⟩
  have hl7 := s7 _ _ hlB
  have hq7 := hts_kt hqB s7.keepT
  refine ⟨natV n, rfl, n, rfl, by omega, by omega, fun De2 nD => ?_⟩
  have en : ((n : Nat) : Int).toNat = n := by simp
  rw [en]
  have nlD : l ≠ De2 := ne_of_none hl7 nD
  refine lc_range (fun i H8 => Same H7 H8 ∧ ∃ ms : List Int, H8 De2 = some (.lst (ms.map V.int)) ∧ ms.length = i ∧ ∀ j, j < i → (∃ k, Rn h ws ws.length k ∧ at_ ms j = at_ k j) ∧ ∀ k, Rn h ws ws.length k → at_ ms j ≤ at_ k j) ?_ ?_ ?_
  · exact ⟨same_upd nD, [], by rw [upd_same]; rfl, rfl, fun j hj => by omega⟩
  · rintro i H8 hi ⟨s8, ms', hD, hml, hms⟩
    have ei : (0 : Int) + ((i : Nat) : Int) = ((i : Nat) : Int) := by omega
    have hl8 := s8 _ _ hl7
    refine ⟨rfl, ?_⟩
    -- [told[at] for told in some]
    refine ⟨.ref l, rfl, l, rfl, ⟨_, .of hl8⟩, fun D3 nD3 => ?_⟩
    have nlD3 : l ≠ D3 := ne_of_none hl8 nD3
    have nDD3 : De2 ≠ D3 := ne_of_none hD nD3
    refine lc_list (xs := qs.map V.ref) (fun j H9 => Same H8 H9 ∧ H9 D3 = some (.lst (((ks3.take j).map fun k => at_ k i).map V.int))) ?_ ?_ ?_ ?_
    · exact ⟨same_upd nD3, by rw [upd_same]; rfl⟩
    · rintro j H9 _ ⟨s9, _⟩
      exact .of (s9 _ _ hl8)
    · rintro j x H9 hx ⟨s9, hD9⟩
      obtain ⟨qa, hqa, rfl⟩ := ref_at hx
      obtain ⟨k, hk, hht⟩ := paired_at hq7 hqa
      have hht9 : HtAt H9 qa k := (hht.same s8).same s9
      have hkl := klen k ((hks k).mp (List.mem_of_getElem? hk))
      refine ⟨rfl, ?_⟩
      refine ⟨.ref qa, rfl, _, rfl, qa, _, _, .int (at_ k i), rfl, rfl, .of hht9, by rw [ei]; exact at_ht (by omega), _, hD9, ?_, s9.put nD3, ?_⟩
      · rw [List.length_map, List.length_map, List.length_take]; exact small1000 (by omega)
      · rw [upd_same, col_at hk, List.map_append]; rfl
    · rintro H9 ⟨s9, hD9⟩
      rw [List.length_map, Paired.length hq7, List.take_length] at hD9
      refine ⟨D3, ks3.map fun k => at_ k i, rfl, .of hD9, ?_, fun m hm hle => ?_⟩
      · rw [List.length_map]
        exact List.length_pos_of_mem ((hks h).mpr (Rn_start _))
      · refine ⟨_, s9 _ _ hD, ?_, (s8.trans s9).put nD, ms' ++ [m], by rw [upd_same, List.map_append]; rfl, by simp [hml], fun j hj => ?_⟩
        · rw [List.length_map, hml]; exact small1000 (by omega)
        · by_cases e : j < i
          · have : at_ (ms' ++ [m]) j = at_ ms' j := by
              unfold at_
              simp only [List.getD_eq_getElem?_getD, List.getElem?_append_left (by omega : j < ms'.length)]
            rw [this]
            exact hms j e
          · have e : j = i := by omega
            subst e
            have : at_ (ms' ++ [m]) j = m := by
              unfold at_
              rw [List.getD_eq_getElem?_getD, List.getElem?_append_right (by omega), hml, Nat.sub_self]
              rfl
            rw [this]
            obtain ⟨k, hk, e⟩ := List.mem_map.mp hm
            exact ⟨⟨k, (hks k).mp hk, e.symm⟩, fun k' hk' => hle _ (List.mem_map.mpr ⟨k', (hks k').mpr hk', rfl⟩)⟩
  · rintro H8 ⟨s8, ms', hD, hml, hms⟩
    have hlows' : Lows h ws ms' := ⟨by rw [hml, hhl], fun i hi => hms i (by omega)⟩
    have em : ms' = ms := hlows'.eq hlows
    subst em
    refine ⟨De2, _, rfl, .inl ⟨.of hD, fun t' nt' => ?_⟩⟩
    have s9 := s8.new (o := .tup (ms'.map V.int)) nt'
    refine ⟨_, _, rfl, alk_ints (ht.same s9) upd_same (by omega), fun H10 s10 => ⟨true, rfl, iteF ?_⟩⟩
    have sC := s7.trans (s9.trans s10)
    have MC := MB.same sC
    have hlC := sC _ _ hlB
    have hqC := hts_kt hqB sC.keepT
    -- goal
    refine ⟨.ref r, rfl, r, sc, ns, 3, rfl, MC.row, by decide, by decide, fun H11 v hv k11 row11 => ?_⟩
    have kt11 := MC.row.keepT k11
    have hlr : l ≠ r := by
      intro z
      obtain ⟨_, _, _, h1, _⟩ := MC.row
      rw [z, h1] at hlC
      have := Option.some.inj hlC
      injection this with this
      cases qs with
      | nil => cases this
      | cons _ t =>
        injection this with _ this
        cases t with
        | nil => cases this
        | cons _ _ =>
          injection this with this _
          cases this
    have M11 : Mid K TT H11 r sc wa b d w0 ns n ws as h ts0 D L := by
      obtain ⟨_, _, _, hrr, _⟩ := MC.row
      refine ⟨row11, tabs_kb MC.tabs fun b o e ko => k11 b o ?_ e, ⟨⟨kt11 _ _ MC.S.S.at', L2.Paired.mapP MC.S.S.webs fun _ _ z => z.kt kt11, MC.S.S.one, MC.S.S.few⟩, MC.S.hb.kt kt11, MC.S.hl, MC.S.sm⟩, MC.W0.kt kt11, k11 _ _ (ne_of MC.hd hrr (by intro z; cases z)) MC.hd, MC.nd, MC.lb, MC.ex⟩
      rcases ko with ⟨_, rfl⟩ | ⟨_, rfl⟩
      · exact ne_of e hrr (by intro z; cases z)
      · exact ne_of e hrr (by intro z; cases z)
    have hl11 := k11 _ _ hlr hlC
    have hq11 := hts_kt hqC kt11
    -- what is to be known of a goal
    have fin : ∀ (H12 : Hp) (c : Addr) (g : List Int), Kp r H11 H12 → RowAt K H12 r sc ns → HtAt H12 c g → g.length = n → (∀ x ∈ g, x ∈ h) → Mid K TT H12 r sc wa b d w0 ns n ws as h ts0 D L ∧ Fit g := fun H12 c g k12 row12 hc hgl hgx => by
      have kt12 := row11.keepT k12
      obtain ⟨_, _, _, hrr, _⟩ := row11
      refine ⟨⟨row12, tabs_kb M11.tabs fun b o e ko => k12 b o ?_ e, ⟨⟨kt12 _ _ M11.S.S.at', L2.Paired.mapP M11.S.S.webs fun _ _ z => z.kt kt12, M11.S.S.one, M11.S.S.few⟩, M11.S.hb.kt kt12, M11.S.hl, M11.S.sm⟩, M11.W0.kt kt12, k12 _ _ (ne_of M11.hd hrr (by intro z; cases z)) M11.hd, M11.nd, M11.lb, M11.ex⟩, fun x hx => M11.S.fit x (hgx x hx)⟩
      rcases ko with ⟨_, rfl⟩ | ⟨_, rfl⟩
      · exact ne_of e hrr (by intro z; cases z)
      · exact ne_of e hrr (by intro z; cases z)
    have kpos : 0 < qs.length := by
      rw [Paired.length hq11]
      exact List.length_pos_of_mem ((hks h).mpr (Rn_start _))
    have kq : qs.length = ks3.length := Paired.length hq11
    refine ⟨_, _, rfl, rfl, _, rfl, ite2 (fun _ => ?_) (fun _ => ?_)⟩
    · refine ⟨.ref r, rfl, .ref l, rfl, r, sc, l, ns, qs.map V.ref, rfl, row11, .inl (.of hl11), hlr, by rw [List.length_map]; exact kpos, by rw [List.length_map]; omega, fun H12 j x hx k12 row12 => ?_⟩
      obtain ⟨c, hcj, rfl⟩ := ref_at hx
      obtain ⟨g, hg, hht⟩ := paired_at hq11 hcj
      have hgR := (hks g).mp (List.mem_of_getElem? hg)
      have hc12 := hht.kt (row11.keepT k12)
      obtain ⟨M12, hf⟩ := fin H12 c g k12 row12 hc12 (klen g hgR) (M.S.box hgR).mem
      exact qE De _ H12 r sc wa b d w0 l c ns n ws as h g ts0 D L _ _ _ _ _ _ _ _ _ _ _ rfl M12 hc12 (klen g hgR) hf q
    · refine ⟨.ref r, rfl, .ref w0, rfl, .ref b, rfl, r, sc, w0, b, ns, n, ts0, h, rfl, row11, M11.W0, M11.S.hb, hhl, hpos, fun H12 c g k12 row12 hc hgl hgx => ?_⟩
      obtain ⟨M12, hf⟩ := fin H12 c g k12 row12 hc hgl hgx
      exact qE De _ H12 r sc wa b d w0 l c ns n ws as h g ts0 D L _ _ _ _ _ _ _ _ _ _ _ rfl M12 hc hgl hf q
end
end Ks
end
section
set_option maxRecDepth 100000
set_option maxHeartbeats 1000000
namespace Ks
open PySem PySem.Spec PyProof.Rows L2 LamX
section
variable {P : Program} {w : World} {K : PySem.W.Frag} {mg : Str → Option Value} {base : Heap}
/-- the law's reckoning, and what is behind it -/
theorem law_best (T : Txt K mg) {TT : List (Addr × Str)} (GSF : FnOk P w K mg base CX0 7 T.aSeasonFewest T.fSeasonFewest ["webs", "heights", "goal"] (spSF K TT)) {f : Addr} {cdv : Value} {A : Around} {outer : List Env} {s : Shared} {H0 : Hp} {E : XK} (hr : Room 8 (A.deeper (envOfC ("law" : Str) (defScope sLaw) s.heap.objs.size f cdv))) :
    ∃ t, PSs (lawX P w K mg base f cdv A outer s H0 E) ((defBody sLaw).drop 5) t ∧ ∀ (De : Ends) (σ : L2.St) (H : Hp) (r sc wa b w0 : Addr) (ns : List Int) (n : Nat) (ws : List Ties) (as : List Addr) (h : List Int) (ts0 : Ties) (y5 y6 y7 y8 y9 y11 y12 y13 y14 y15 y16 y17 y18 y19 : Option V),
      σ = [some (.ref sc), some (.ref r), some (.ref w0), some (natV n), some (.ref wa), y5, y6, y7, y8, y9, some (.ref b), y11, y12, y13, y14, y15, y16, y17, y18, y19] →
      RowAt K H r sc ns → Tabs TT H → Start H wa b n ws as h → WebOk H w0 n ts0 → (∀ H2, De.rt (.bl true) H2) → t De σ H := by
  obtain ⟨tE, hE, qE⟩ := law_checks T GSF (outer := outer) (s := s) (H0 := H0) (E := E) hr
  have B := T.B
  have hu := hu_of hr
  have hr1 : Room 1 _ := hr.mono (by decide)
  have hr2 : Room 2 _ := hr.mono (by decide)
  refine ⟨_, pss_cons (ps_set (i := 11) scLaw.nd rfl (.inl rfl) (pe_dispT hu (pv 10) pe_int))
    (pss_cons (ps_for PassesOwn.never rfl (pi_tup (pv 4)) (pg_name (i := 12) scLaw.nd rfl (.inl rfl))
      (pss_cons (ps_set (i := 13) scLaw.nd rfl (.inl rfl) (pe_callTy (call_list_dT rfl) (by rfl) B.list (by decide +kernel) (pa_cons (pv 11) pa_nil)))
      (pss_one (ps_while PassesOwn.never (pt_cmpR (op_neEL hr.units) (pv 13) (pe_lst pa_nil) (nomark _))
        (pss_cons (ps_set (i := 14) scLaw.nd rfl (.inl rfl) (pe_bm0 PySem.F.plainAttrs_list PySem.F.slot_list_pop PySem.F.type_list_pop mt_pop (pv 13)))
        (pss_one (ps_for PassesOwn.never rfl (pi_list (pe_call T.GLStoops hr2 (by rfl) T.DLStoops.g T.DLStoops.F.kp T.DLStoops.b .nil pass0 (pa_cons (pv 12) (pa_cons (pv 14) pa_nil)))) (pg_name (i := 15) scLaw.nd rfl (.inl rfl))
          (pss_cons (ps_set (i := 16) scLaw.nd rfl (.inl rfl) (pe_call T.GLAfter hr1 (by rfl) T.DLAfter.g T.DLAfter.F.kp T.DLAfter.b .nil pass0 (pa_cons (pv 14) (pa_cons (pv 15) pa_nil))))
          (pss_one (ps_if (pt_cmpR op_lt (pe_op op_add (pe_dget hu (pv 11) (pv 14) (fun _ _ => rfl)) pe_int) (pe_dget2 hu (pv 11) (pv 16) pe_int ⟨rfl, rfl, rfl, rfl⟩) (nomark _))
            (pss_cons (ps_dput hu (pv 11) (pv 16) (pe_op op_add (pe_dget hu (pv 11) (pv 14) (fun _ _ => rfl)) pe_int) rfl)
            (pss_one (ps_expr (pe_bm PySem.F.plainAttrs_list PySem.F.slot_list_append PySem.F.type_list_append mt_append (pv 13) (pa_cons (pv 16) pa_nil)))))
            pss_nil))))))))))
    hE), ?_⟩
  rintro De σ H r sc wa b w0 ns n ws as h ts0 y5 y6 y7 y8 y9 y11 y12 y13 y14 y15 y16 y17 y18 y19 rfl row tabs S W0 q
  -- best = {heights: 0}
  refine fun d nd => ⟨.ref b, rfl, upd_same, b, h.map Sum.inl, rfl, by rw [upd_ne (ne_of_none S.hb nd), kV_inl]; exact S.hb, ?_⟩
  have s1 : Same H (upd (upd H d (.dT [])) d (.dT [(h.map Sum.inl, .int 0)])) := ((Same.refl H).put nd).put nd
  -- for web_here in webs
  refine ⟨.ref wa, rfl, wa, rfl, ⟨_, .of (s1 _ _ S.S.at')⟩, for_tup (xs := as.map V.ref) (fun i σ H1 => ∃ (y12 y13 y14 y15 y16 : Option V) (D : DI) (L : Lb), σ = [some (.ref sc), some (.ref r), some (.ref w0), some (natV n), some (.ref wa), y5, y6, y7, y8, y9, some (.ref b), some (.ref d), y12, y13, y14, y15, y16, y17, y18, y19] ∧ Same H H1 ∧ H1 d = some (.dT (enc D)) ∧ (D.map (·.1)).Nodup ∧ Lbl D L ∧ Exact L (Sn h ws i)) ?_ ?_ ?_ ?_⟩
  · exact ⟨_, _, _, _, _, putK [] h (natV 0), putL (fun _ => none) h 0, rfl, s1, upd_same, nd_put (by simp), Lbl.put (fun k => rfl) h 0, lab_init_exact⟩
  · rintro i σ H1 _ ⟨_, _, _, _, _, _, _, _, sm, _⟩
    exact .of (sm _ _ S.S.at')
  · rintro i x σ H1 hx ⟨y12, y13, y14, y15, y16, D, L, rfl, sm, hd, hnd, hL, hEx⟩
    obtain ⟨cw, hcw, rfl⟩ := ref_at hx
    have Wf := S.web hcw
    have bel : Below h.length (ws.getD i []) := S.below i
    have snd : ∀ {L : Lb} {F : List Int → Prop} {TD : List Int → List Int → Prop}, Lab (ws.getD i []) (Sn h ws i) L F TD → ∀ x c, L x = some c → InBox h x ∧ c ≤ 16 := fun l x c e => by
      have h1 : Sn h ws (i + 1) x c := l.sound x c e
      exact ⟨(Sn_ok S.below (i + 1) x c h1).1, Sn_small S.sm S.below h1⟩
    have few24 : ∀ {D : DI} {L : Lb} {F : List Int → Prop} {TD : List Int → List Int → Prop}, (D.map (·.1)).Nodup → Lbl D L → Lab (ws.getD i []) (Sn h ws i) L F TD → D.length ≤ 24 := fun {D L F TD} nd hl l => S.few nd fun k hk => by
      rw [hl.isSome] at hk
      obtain ⟨c, e⟩ := Option.isSome_iff_exists.mp hk
      exact (snd l k c e).1
    have lab0 : Lab (ws.getD i []) (Sn h ws i) L (· ∈ D.map (·.1)) (fun _ _ => False) := Lab.init hEx fun x => by rw [mem_keys, hL.isSome, Option.isSome_iff_exists]
    have d24 := few24 hnd hL lab0
    -- edge = list(best)
    refine ⟨.ref d, rfl, d, enc D, rfl, .inl hd, fun e bs ne isk => ?_⟩
    have hbs := keys_addr isk (enc_keys D)
    have ne0 : H e = none := sm.free ne
    have nde : d ≠ e := ne_of_none hd ne
    refine ⟨fun m σ H3 => ∃ (y14 y15 y16 : Option V) (qs : List Addr) (es : List (List Int)) (D : DI) (L : Lb), σ = [some (.ref sc), some (.ref r), some (.ref w0), some (natV n), some (.ref wa), y5, y6, y7, y8, y9, some (.ref b), some (.ref d), some (.ref cw), some (.ref e), y14, y15, y16, y17, y18, y19] ∧ Same H H3 ∧ H3 d = some (.dT (enc D)) ∧ (D.map (·.1)).Nodup ∧ Lbl D L ∧
        H3 e = some (.lst (qs.map V.ref)) ∧ Paired (HtAt H3) qs es ∧ Lab (ws.getD i []) (Sn h ws i) L (· ∈ es) (fun _ _ => False) ∧ es.length + pot (box h) L ≤ m ∧ es.length + pot (box h) L ≤ 24100,
      ⟨(D.map (·.1)).length + pot (box h) L, y14, y15, y16, bs, D.map (·.1), D, L, rfl, sm.put ne0, by rw [upd_ne nde]; exact hd, hnd, hL, upd_same, hts_kt hbs ((KeepT.refl _).new ne), lab0, Nat.le_refl _, ?_⟩, fun m σ H3 hw => ?_⟩
    · have := pot_max (box_len S.sm) fun x c e => (snd lab0 x c e).2
      rw [List.length_map]
      omega
    · obtain ⟨y14, y15, y16, qs, es, D, L, rfl, sm3, hd3, hnd3, hL3, he3, hqs, lab, hm, hab⟩ := hw
      -- while edge != []
      refine ⟨.ref e, rfl, Nat.zero_le _, fun z nz => ⟨e, z, qs.map V.ref, rfl, rfl, .of (by rw [upd_ne (ne_of_none he3 nz)]; exact he3), .of upd_same, dat_hts (hts_kt hqs ((KeepT.refl _).new nz)), _, rfl, ?_⟩⟩
      have sm4 := sm3.new (o := .lst []) nz
      have hd4 : (upd H3 z (.lst [])) d = some (.dT (enc D)) := by rw [upd_ne (ne_of_none hd3 nz)]; exact hd3
      have he4 : (upd H3 z (.lst [])) e = some (.lst (qs.map V.ref)) := by rw [upd_ne (ne_of_none he3 nz)]; exact he3
      have hqs4 : Paired (HtAt (upd H3 z (.lst []))) qs es := hts_kt hqs ((KeepT.refl _).new nz)
      generalize upd H3 z (.lst []) = H4 at sm4 hd4 he4 hqs4 ⊢
      rw [isEmpty_map]
      have hql : qs.length = es.length := Paired.length hqs
      cases hes : qs.isEmpty with
      | true =>
        have qe0 : qs = [] := List.isEmpty_iff.mp hes
        have es0 : es = [] := List.length_eq_zero_iff.mp (by rw [← hql, qe0]; rfl)
        subst es0
        exact iteF ⟨_, _, _, _, _, D, L, rfl, sm4, hd4, hnd3, hL3, lab.done (fun x h => by simp at h) fun _ _ h => h⟩
      | false =>
        refine iteT ⟨fun σ' H' => ∃ m', m' < m ∧ _, fun σ' H' h => h, ?_⟩
        obtain ⟨qr, bn, er, now, rfl, rfl, hqr, hbn⟩ := paired_last hqs4 (fun z => by rw [z] at hes; simp at hes)
        rw [List.map_append] at he4
        obtain ⟨ct, hct⟩ := lab.front now (by simp)
        have tbox := (snd lab now ct hct).1
        have tlen : now.length = n := by rw [tbox.1, S.hl]
        -- now = edge.pop()
        refine ⟨.ref e, rfl, .inl ⟨rfl, _, .of he4⟩, e, _, .ref bn, rfl, rfl, he4, pop_at, ?_⟩
        have hd5 : (upd H4 e (.lst ((qr.map V.ref ++ [bn].map V.ref).dropLast))) d = some (.dT (enc D)) := by rw [upd_ne nde]; exact hd4
        have he5 : (upd H4 e (.lst ((qr.map V.ref ++ [bn].map V.ref).dropLast))) e = some (.lst (qr.map V.ref)) := by rw [upd_same]; simp
        have sm5 : Same H (upd H4 e (.lst ((qr.map V.ref ++ [bn].map V.ref).dropLast))) := sm4.put ne0
        have kt5 : KeepT H4 (upd H4 e (.lst ((qr.map V.ref ++ [bn].map V.ref).dropLast))) := (KeepT.refl _).lst he4
        have hqr5 := hts_kt hqr kt5
        have hbn5 : HtAt _ bn now := hbn.kt kt5
        generalize upd H4 e (.lst ((qr.map V.ref ++ [bn].map V.ref).dropLast)) = H5 at sm5 hd5 he5 hqr5 hbn5 ⊢
        -- for pair in stoops(web_here, now)
        refine ⟨.ref cw, rfl, .ref bn, rfl, cw, bn, n, ws.getD i [], now, rfl, (Wf.same sm5).ok, hbn5, tlen, fun H6 t prs s6 nt ht hprs _ => ?_⟩
        obtain ⟨qp, htp, hqp⟩ := ht
        have net : e ≠ t := ne_of_none he5 nt
        have ndt : d ≠ t := ne_of_none hd5 nt
        refine ⟨t, rfl, ⟨_, .of htp⟩, for_list (xs := qp.map V.ref) (fun j σ H7 => ∃ (y15 y16 : Option V) (qs : List Addr) (es : List (List Int)) (D : DI) (L : Lb), σ = [some (.ref sc), some (.ref r), some (.ref w0), some (natV n), some (.ref wa), y5, y6, y7, y8, y9, some (.ref b), some (.ref d), some (.ref cw), some (.ref e), some (.ref bn), y15, y16, y17, y18, y19] ∧ Same H H7 ∧ H7 d = some (.dT (enc D)) ∧ (D.map (·.1)).Nodup ∧ Lbl D L ∧
          H7 e = some (.lst (qs.map V.ref)) ∧ Paired (HtAt H7) qs es ∧ Lab (ws.getD i []) (Sn h ws i) L (· ∈ es) (fun x y => x = now ∧ y ∈ (prs.drop j).map fun pr => aft now pr.1 pr.2) ∧ es.length + pot (box h) L + 1 ≤ m ∧ es.length + pot (box h) L ≤ 24100 ∧
          H7 t = some (.lst (qp.map V.ref)) ∧ Paired (PrAt H7) qp prs ∧ HtAt H7 bn now ∧ L now = some ct) ?_ ?_ ?_ ?_⟩
        · rw [List.length_append, List.length_singleton] at hm hab
          refine ⟨_, _, qr, er, D, L, rfl, sm5.trans s6, s6 _ _ hd5, hnd3, hL3, s6 _ _ he5, hts_kt hqr5 s6.keepT, ?_, by omega, by omega, htp, hqp, hbn5.same s6, hct⟩
          refine lab.take (now := now) (fun x hx => ?_) (fun x hx => ?_) (fun y hy => ⟨rfl, ?_⟩)
          · rcases List.mem_append.mp hx with z | z
            · exact .inl z
            · exact .inr (List.mem_singleton.mp z)
          · exact List.mem_append_left _ hx
          · obtain ⟨p, o, hs, rfl⟩ := hy
            rw [List.drop_zero]
            exact List.mem_map.mpr ⟨(p, o), (hprs (p, o)).mpr hs, rfl⟩
        · rintro j σ H7 _ ⟨_, _, _, _, _, _, _, _, _, _, _, _, _, _, _, _, h7, _⟩
          exact .of h7
        · rintro j x σ H7 hx7 ⟨y15, y16, qs, es, D, L, rfl, sm7, hd7, hnd7, hL7, he7, hqs7, lab, hm7, hab7, htp7, hqp7, hbn7, hct⟩
          obtain ⟨qa, hqa, rfl⟩ := ref_at hx7
          obtain ⟨pr, hpr, hpa⟩ := paired_at hqp7 hqa
          have hst : Stp (ws.getD i []) now pr.1 pr.2 := (hprs pr).mp (List.mem_of_getElem? hpr)
          obtain ⟨hp1, hp2, _⟩ := bel.adj hst.1
          rw [S.hl] at hp1 hp2
          have hstep : Step (ws.getD i []) now (aft now pr.1 pr.2) := ⟨pr.1, pr.2, hst, rfl⟩
          have h4 := S.sm.1
          have hl4 := S.hl
          have c16 := (snd lab now ct hct).2
          -- told = after(now, pair)
          refine ⟨.ref bn, rfl, .ref qa, rfl, bn, qa, now, pr.1, pr.2, rfl, hbn7, hpa, by omega, by omega, by omega, fun H8 u s8 hu8 => ?_⟩
          have sm8 := sm7.trans s8
          have hd8 := s8 _ _ hd7
          have he8 := s8 _ _ he7
          have hdrop : ∀ y, y ∈ (prs.drop j).map (fun pr => aft now pr.1 pr.2) ↔ y = aft now pr.1 pr.2 ∨ y ∈ (prs.drop (j + 1)).map (fun pr => aft now pr.1 pr.2) := fun y => by
            obtain ⟨h1, e1⟩ := List.getElem?_eq_some_iff.mp hpr
            rw [List.drop_eq_getElem_cons h1, e1, List.map_cons, List.mem_cons]
          have hvt : valV D now = some (natV ct) := by rw [hL7 now, hct]; rfl
          have gt_ : DGet H8 d (.ref bn) (some (natV ct)) := by rw [← hvt]; exact dget_ht hd8 (hbn7.same s8)
          -- if best[now] + 1 < best.get(told, 999)
          refine ⟨.ref d, rfl, .ref bn, rfl, d, natV ct, rfl, gt_, (ct : Int), 1, rfl, rfl, .ref d, rfl, d, rfl, .inr ⟨_, .inl hd8⟩, .ref u, rfl, valV D (aft now pr.1 pr.2), dget_ht hd8 hu8, ?_⟩
          have nez : now ≠ aft now pr.1 pr.2 := ne_step (by exact bel) (by exact tbox.1) hstep
          have zbox : aft now pr.1 pr.2 ∈ box h := mem_box S.sm (tbox.step bel hstep)
          have d24 := few24 hnd7 hL7 lab
          have sk : ∀ dd, L (aft now pr.1 pr.2) = some dd → dd ≤ ct + 1 → Lab (ws.getD i []) (Sn h ws i) L (· ∈ es) (fun x y => x = now ∧ y ∈ (prs.drop (j + 1)).map fun pr => aft now pr.1 pr.2) := fun dd hdd hle => lab.skip fun x y cx hx ⟨h1, h2⟩ => by
            rcases (hdrop y).mp h2 with z | z
            · left
              rw [h1, hct] at hx; cases hx
              exact ⟨dd, hle, by rw [z]; exact hdd⟩
            · exact .inr ⟨h1, z⟩
          by_cases hcond : ∀ dd, L (aft now pr.1 pr.2) = some dd → ct + 1 < dd
          · -- the label is lessened
            have key : ∃ dv : Int, ((L (aft now pr.1 pr.2)).map natV).getD (V.int 999) = .int dv ∧ (ct : Int) + 1 < dv := by
              cases e : L (aft now pr.1 pr.2) with
              | none => exact ⟨999, rfl, by omega⟩
              | some dd => exact ⟨dd, rfl, by have := hcond dd e; omega⟩
            obtain ⟨dv, e1, e2⟩ := key
            rw [hL7, e1]
            refine ⟨_, _, rfl, rfl, ?_⟩
            have lab9 : Lab (ws.getD i []) (Sn h ws i) (putL L (aft now pr.1 pr.2) (ct + 1)) (fun x => x ∈ es ++ [aft now pr.1 pr.2]) (fun x y => x = now ∧ y ∈ (prs.drop (j + 1)).map fun pr => aft now pr.1 pr.2) := by
              refine lab.put hct hstep (fun dd e => by have := hcond dd e; omega) (fun x => rfl) (fun x => ?_) (fun x y ⟨h1, h2⟩ => ?_) nez
              · rw [List.mem_append, List.mem_singleton]
              · rcases (hdrop y).mp h2 with z | z
                · exact .inl ⟨h1, z⟩
                · exact .inr ⟨h1, z⟩
            have hpot : pot (box h) (putL L (aft now pr.1 pr.2) (ct + 1)) + 1 ≤ pot (box h) L := put_pot zbox c16 hcond (fun x => rfl)
            have hls : qs.length = es.length := Paired.length hqs7
            refine ⟨decide ((ct : Int) + 1 < dv), rfl, ?_⟩
            rw [decide_eq_true e2]
            refine iteT ?_
            -- best[told] = best[now] + 1
            refine ⟨.ref d, rfl, .ref bn, rfl, d, natV ct, rfl, gt_, (ct : Int), 1, rfl, rfl, .ref d, rfl, .ref u, rfl, d, _, rfl, dput_ht (v := natV (ct + 1)) hd8 hu8 (small1000 (by omega)), ?_⟩
            have he9 : (upd H8 d (.dT (enc (putK D (aft now pr.1 pr.2) (natV (ct + 1)))))) e = some (.lst (qs.map V.ref)) := by rw [upd_ne nde.symm]; exact he8
            have kt9 : KeepT H8 (upd H8 d (.dT (enc (putK D (aft now pr.1 pr.2) (natV (ct + 1)))))) := (KeepT.refl _).dT hd8
            have kt10 := kt9.lst (o := .lst (qs.map V.ref ++ [V.ref u])) he9
            have kt710 := s8.keepT.trans kt10
            -- edge.append(told)
            refine ⟨.ref e, rfl, .inl ⟨rfl, _, .of he9⟩, .ref u, rfl, e, _, _, rfl, rfl, he9, ?_, ?_⟩
            · rw [List.length_map, hls]
              exact Nat.lt_of_lt_of_le (show es.length < 24101 by omega) (by decide)
            · have hct' : putL L (aft now pr.1 pr.2) (ct + 1) now = some ct := by
                unfold putL
                rw [if_neg nez]; exact hct
              refine ⟨_, _, qs ++ [u], es ++ [aft now pr.1 pr.2], putK D (aft now pr.1 pr.2) (natV (ct + 1)), putL L (aft now pr.1 pr.2) (ct + 1), rfl, (sm8.put nd).put ne0, ?_, nd_put hnd7, hL7.put _ _, ?_, paired_snoc (hts_kt hqs7 kt710) (hu8.kt kt10), lab9, ?_, ?_, ?_, pairs_kt hqp7 kt710, hbn7.kt kt710, hct'⟩
              · rw [upd_ne nde, upd_same]
              · rw [upd_same, List.map_append]; rfl
              · rw [List.length_append, List.length_singleton]; omega
              · rw [List.length_append, List.length_singleton]; omega
              · rw [upd_ne net.symm, upd_ne ndt.symm]; exact s8 _ _ htp7
          · -- not lessened
            have key : ∃ dd, L (aft now pr.1 pr.2) = some dd ∧ dd ≤ ct + 1 := by
              cases e : L (aft now pr.1 pr.2) with
              | none => exact absurd (fun dd h => by rw [e] at h; cases h) hcond
              | some dd => exact ⟨dd, rfl, Nat.le_of_not_lt fun z => hcond fun dd' h => by rw [e] at h; cases h; exact z⟩
            obtain ⟨dd, e1, e2⟩ := key
            rw [hL7, e1]
            refine ⟨_, _, rfl, rfl, ?_⟩
            have e2' : ¬ (ct : Int) + 1 < (dd : Int) := by omega
            refine ⟨decide ((ct : Int) + 1 < (dd : Int)), rfl, ?_⟩
            rw [decide_eq_false e2']
            refine iteF ⟨_, _, qs, es, D, L, rfl, sm8, hd8, hnd7, hL7, he8, hts_kt hqs7 s8.keepT, sk dd e1 e2, hm7, hab7, s8 _ _ htp7, pairs_kt hqp7 s8.keepT, hbn7.same s8, hct⟩
        · rintro σ H7 ⟨y15, y16, qs, es, D, L, rfl, sm7, hd7, hnd7, hL7, he7, hqs7, lab, hm7, hab7, htp7, hqp7, hbn7, hct⟩
          rw [List.length_map, Paired.length hqp7] at lab
          exact ⟨es.length + pot (box h) L, by omega, _, _, _, qs, es, D, L, rfl, sm7, hd7, hnd7, hL7, he7, hqs7, lab.skip (fun x y cx hx ⟨h1, h2⟩ => by rw [List.drop_length] at h2; simp at h2), Nat.le_refl _, hab7⟩
  · rintro σ H1 ⟨y12, y13, y14, y15, y16, D, L, rfl, sm, hd, hnd, hL, hEx⟩
    rw [List.length_map, S.S.len] at hEx
    exact qE De _ H1 r sc wa b d w0 ns n ws as h ts0 D L _ _ _ _ _ _ _ _ _ _ _ _ _ rfl ⟨row.same sm, tabs.ext sm, S.same sm, W0.same sm, hd, hnd, hL, hEx⟩ q
end
end Ks
end
section
set_option maxRecDepth 100000
set_option maxHeartbeats 1000000
namespace Ks
open PySem PySem.Spec PyProof.Rows L2 LamX
theorem _root_.L2.Same.draw {r : Addr} {H H1 H2 : Hp} (s : Same H H1) (k : Kp r H1 H2) (h : H r = none) : Same H H2 := fun b o e => k b o (ne_of_none e h) (s b o e)
/-- the ties of those who are there -/
def those (n : Nat) (ts : Ties) : Ties := ts.filter fun t => decide (t.2 < n)
theorem those_take {n i : Nat} {ts : Ties} {t : Nat × Nat} (e : ts[i]? = some t) : those n (ts.take (i + 1)) = those n (ts.take i) ++ (if t.2 < n then [t] else []) := by
  unfold those
  rw [List.take_add_one, e, Option.toList, List.filter_append]
  congr 1
  by_cases c : t.2 < n
  · have d : decide (t.2 < n) = true := decide_eq_true c
    rw [if_pos c, List.filter_cons, if_pos d]; rfl
  · have d : ¬ decide (t.2 < n) = true := fun z => c (of_decide_eq_true z)
    rw [if_neg c, List.filter_cons, if_neg d]; rfl
theorem those_len (n : Nat) (ts : Ties) : (those n ts).length ≤ ts.length := List.length_filter_le _ _
theorem those_below {n m : Nat} {ts : Ties} (b : Below m ts) : Below n (those n ts) := fun t ht => by
  have := List.mem_filter.mp ht
  exact ⟨(b t this.1).1, of_decide_eq_true this.2⟩
section
variable {P : Program} {w : World} {K : PySem.W.Frag} {mg : Str → Option Value} {base : Heap}
def spLaw (K : PySem.W.Frag) (TT : List (Addr × Str)) : Sp := fun vs H Q _ => ∃ (a : Addr) (ns : List Int), vs = [.ref a] ∧ SqL K H a (ns.map V.int) ∧ Tabs TT H ∧ ∀ H', Q (.bl true) H'
theorem ok_law (T : Txt K mg) {TT : List (Addr × Str)} (GSF : FnOk P w K mg base CX0 7 T.aSeasonFewest T.fSeasonFewest ["webs", "heights", "goal"] (spSF K TT)) {f : Addr} {fd : FuncData} (F : Fun K "law" "law" sLaw f fd) : FnOk P w K mg base CX0 9 f fd ["_law_script"] (spLaw K TT) := by
  refine F.ok scLaw (fun vs H Q E h => ?_) (fun cdv A outer s H vs Q E hr h => ?_)
  · obtain ⟨a, ns, rfl, _⟩ := h
    rfl
  · obtain ⟨sc, ns, rfl, hsc, tabs, q⟩ := h
    obtain ⟨tE, hE, qE⟩ := law_best T GSF (outer := outer) (s := s) (H0 := H) (E := E) hr
    have B := T.B
    have hr1 : Room 1 _ := hr.mono (by decide)
    have hr2 : Room 2 _ := hr.mono (by decide)
    refine ⟨_, pss_cons (ps_set (i := 1) scLaw.nd rfl (.inl rfl) (pe_lst (pa_cons (pv 0) (pa_cons pe_int (pa_cons pe_int (pa_cons pe_int pa_nil))))))
      (pss_cons (ps_set (i := 2) scLaw.nd rfl (.inl rfl) (pe_call T.GLWeb hr2 (by rfl) T.DLWeb.g T.DLWeb.F.kp T.DLWeb.b .nil pass0 (pa_cons (pv 1) (pa_cons pe_int (pa_cons pe_int pa_nil)))))
      (pss_cons (ps_par (i := 3) (j := 4) rfl scLaw.nd rfl rfl (by decide) rfl rfl (pa_cons (pe_ix ix_tup (pv 2) pe_int (fun _ _ => rfl)) (pa_cons (pe_lst (pa_cons (pv 2) pa_nil)) pa_nil)) rfl)
      (pss_cons (ps_for PassesOwn.never rfl (pi_range1 rfl B.range (pa_cons (pe_call T.GTaken hr1 (by rfl) T.DLTaken.g T.DLTaken.F.kp T.DLTaken.b .nil pass0 (pa_cons (pv 1) (pa_cons pe_int pa_nil))) pa_nil)) (pg_name (i := 5) scLaw.nd rfl (.inl rfl))
        (pss_cons (ps_par (i := 6) (j := 7) rfl scLaw.nd rfl rfl (by decide) rfl rfl (pa_cons (pe_call T.GLWeb hr2 (by rfl) T.DLWeb.g T.DLWeb.F.kp T.DLWeb.b .nil pass0 (pa_cons (pv 1) (pa_cons pe_int (pa_cons pe_int pa_nil)))) (pa_cons (pe_lst pa_nil) pa_nil)) rfl)
        (pss_cons (ps_for PassesOwn.never rfl (pi_tup (pe_ix ix_tup (pv 6) pe_int (fun _ _ => rfl))) (pg_tup rfl (pgs_cons (pg_name (i := 8) scLaw.nd rfl (.inl rfl)) (pgs_cons (pg_name (i := 9) scLaw.nd rfl (.inl rfl)) pgs_nil)))
          (pss_one (ps_if (pt_cmpR op_lt (pv 9) (pv 3) (nomark _))
            (pss_one (ps_expr (pe_bm PySem.F.plainAttrs_list PySem.F.slot_list_append PySem.F.type_list_append mt_append (pv 7) (pa_cons (pe_tup (pa_cons (pv 8) (pa_cons (pv 9) pa_nil))) pa_nil))))
            pss_nil)))
        (pss_one (ps_expr (pe_bm PySem.F.plainAttrs_list PySem.F.slot_list_append PySem.F.type_list_append mt_append (pv 4) (pa_cons (pe_tup (pa_cons (pv 3) (pa_cons (pe_callTy call_tuple_of (by rfl) B.tuple (by decide +kernel) (pa_cons (pv 7) pa_nil)) pa_nil))) pa_nil)))))))
      (pss_cons (ps_par (i := 4) (j := 10) rfl scLaw.nd rfl rfl (by decide) rfl rfl (pa_cons (pe_callTy call_tuple_of (by rfl) B.tuple (by decide +kernel) (pa_cons (pv 4) pa_nil)) (pa_cons (pe_call T.GLHeights hr2 (by rfl) T.DLHeights.g T.DLHeights.F.kp T.DLHeights.b .nil pass0 (pa_cons (pv 1) (pa_cons (pv 3) (pa_cons pe_int pa_nil)))) pa_nil)) rfl)
      hE)))), ?_⟩
    -- row = [script, 0, 4943, 0]
    refine ⟨.ref sc, rfl, (by show 4 ≤ sizeLine; decide), fun r nr => ?_⟩
    have s0 : Same H (upd H r (.lst [.ref sc, .int 0, .int 4943, .int 0])) := same_upd nr
    have ap : Apart K sc r (ns.map V.int) := by
      rcases hsc with (h | ⟨o, h⟩) | h
      · exact .inr (ne_of_none h nr)
      · exact .inr (ne_of_none h nr)
      · exact .inl (.inr h)
    have row0 : RowAt K (upd H r (.lst [.ref sc, .int 0, .int 4943, .int 0])) r sc ns := row_set (pos := 0) (mix := 4943) (rest := 0) hsc (Int.le_refl _) ap
    generalize upd H r (.lst [.ref sc, .int 0, .int 4943, .int 0]) = H1 at s0 row0 ⊢
    -- first = web(row, 4, 2)
    refine ⟨.ref r, rfl, r, sc, ns, rfl, row0, fun H2 w0 n ts0 k2 row2 W0 n4 pw0 => ?_⟩
    have s2 := s0.draw k2 nr
    obtain ⟨wb, hw0, _⟩ := id W0.ok.at'
    have hpos := W0.pos
    -- many, webs = first[0], [first]
    refine ⟨.ref w0, rfl, w0, _, 0, natV n, rfl, rfl, .of hw0, rfl, .ref w0, rfl, (by show 1 ≤ sizeLine; decide), fun wl nwl => ⟨_, _, rfl, ?_⟩⟩
    have nwl0 : H wl = none := s2.free nwl
    have nwlr : wl ≠ r := row2.ne nwl
    have row3 := row2.new (o := .lst [.ref w0]) nwl
    -- for turn in range(taken(row, 3))
    refine ⟨.ref r, rfl, r, sc, ns, 3, rfl, row3, by decide, by decide, fun H3 v hv k3 row3' => ?_⟩
    refine ⟨(v : Int), rfl, by omega, by omega, ?_⟩
    have ev : ((v : Nat) : Int).toNat = v := by simp
    rw [ev]
    have kt2 : KeepT H2 H3 := ((KeepT.refl H2).new nwl).trans (row3.keepT k3)
    refine for_range (fun i σ H4 => ∃ (y5 y6 y7 y8 y9 : Option V) (as : List Addr) (ws : List Ties), σ = [some (.ref sc), some (.ref r), some (.ref w0), some (natV n), some (.ref wl), y5, y6, y7, y8, y9, none, none, none, none, none, none, none, none, none, none] ∧ Same H H4 ∧ RowAt K H4 r sc ns ∧ WebOk H4 w0 n ts0 ∧ H4 wl = some (.lst (as.map V.ref)) ∧ Paired (fun b ts => WebFine H4 b n ts) as ws ∧ ws.length = i + 1) ?_ ?_ ?_
    · refine ⟨none, none, none, none, none, [w0], [ts0], rfl, ((s2.put nwl0).draw k3 nr), row3', W0.ok.kt kt2, k3 _ _ nwlr upd_same, .cons (W0.kt kt2) .nil, rfl⟩
    · rintro i σ H4 hi ⟨y5, y6, y7, y8, y9, as, ws, rfl, s4, row4, W4, hwl4, hws4, hl4⟩
      have hal : as.length = ws.length := Paired.length hws4
      -- other, ties_here = web(row, 4, 2), []
      refine ⟨.ref r, rfl, r, sc, ns, rfl, row4, fun H5 wo no to k5 row5 Wo _ pwo => ?_⟩
      have kt5 := row4.keepT k5
      have s5 := s4.draw k5 nr
      have hwl5 := k5 _ _ nwlr hwl4
      refine ⟨Nat.zero_le _, fun tl ntl => ⟨_, _, rfl, ?_⟩⟩
      have ntl0 : H tl = none := s5.free ntl
      have nwt : wl ≠ tl := ne_of_none hwl5 ntl
      obtain ⟨ob, hwo, qs, hob, hqs⟩ := id Wo.ok.at'
      have tfew := Wo.ok.few
      -- for a, b in other[1]
      refine ⟨.ref wo, rfl, wo, _, 1, .ref ob, rfl, rfl, .of (same_upd ntl _ _ hwo), rfl, ob, rfl, ⟨_, .of (same_upd ntl _ _ hob)⟩, for_tup (xs := qs.map V.ref) (fun j σ H6 => ∃ (y8 y9 : Option V) (ql : List Addr), σ = [some (.ref sc), some (.ref r), some (.ref w0), some (natV n), some (.ref wl), some (natV i), some (.ref wo), some (.ref tl), y8, y9, none, none, none, none, none, none, none, none, none, none] ∧ Same H5 H6 ∧ H6 tl = some (.lst (ql.map V.ref)) ∧ Paired (PrAt H6) ql (those n (to.take j))) ?_ ?_ ?_ ?_⟩
      · refine ⟨y8, y9, [], ?_, same_upd ntl, upd_same, .nil⟩
        show [_, _, _, _, _, some (V.int (0 + (i : Int))), _, _, _, _, _, _, _, _, _, _, _, _, _, _] = _
        rw [Int.zero_add]
      · rintro j σ H6 _ ⟨_, _, _, _, s6, _⟩
        exact .of (s6 _ _ hob)
      · rintro j x σ H6 hx ⟨y8, y9, ql, rfl, s6, htl, hql⟩
        obtain ⟨qa, hqa, rfl⟩ := ref_at hx
        obtain ⟨pr, hpr, hpa⟩ := paired_at hqs hqa
        have hlen : (those n (to.take j)).length ≤ 20 := Nat.le_trans (those_len _ _) (by rw [List.length_take]; omega)
        refine ⟨qa, _, rfl, .of (s6 _ _ hpa), rfl, _, _, rfl, _, _, rfl, rfl, ?_⟩
        -- if b < many
        refine ⟨natV pr.2, rfl, natV n, rfl, (pr.2 : Int), (n : Int), rfl, rfl, _, rfl, ite2 (fun hc => ?_) (fun hc => ?_)⟩
        · have hc : pr.2 < n := by
            have := of_decide_eq_true hc
            omega
          refine ⟨.ref tl, rfl, .inl ⟨rfl, _, .of htl⟩, natV pr.1, rfl, natV pr.2, rfl, (by show 2 ≤ sizeLine; decide), fun T' nT => ?_⟩
          have ntT : tl ≠ T' := ne_of_none htl nT
          have htl' : (upd H6 T' (.tup [natV pr.1, natV pr.2])) tl = some (.lst (ql.map V.ref)) := by rw [upd_ne ntT]; exact htl
          refine ⟨tl, _, _, rfl, rfl, htl', ?_, ?_⟩
          · rw [List.length_map, Paired.length hql]; exact small1000 (by omega)
          · have kt7 : KeepT H6 (upd (upd H6 T' (.tup [natV pr.1, natV pr.2])) tl (.lst (ql.map V.ref ++ [V.ref T']))) := ((KeepT.refl _).new nT).lst htl'
            refine ⟨_, _, ql ++ [T'], rfl, (s6.new nT).put ntl, by rw [upd_same, List.map_append]; rfl, ?_⟩
            rw [those_take hpr, if_pos hc]
            refine paired_snoc (pairs_kt hql kt7) ?_
            show upd _ _ _ T' = _
            rw [upd_ne ntT.symm, upd_same]
        · have hc : ¬ pr.2 < n := fun z => hc (decide_eq_true (by omega))
          refine ⟨_, _, ql, rfl, s6, htl, ?_⟩
          rw [those_take hpr, if_neg hc, List.append_nil]
          exact hql
      · rintro σ H6 ⟨y8, y9, ql, rfl, s6, htl, hql⟩
        rw [List.length_map, Paired.length hqs, List.take_length] at hql
        have hwl6 := s6 _ _ hwl5
        -- webs.append((many, tuple(ties_here)))
        refine ⟨.ref wl, rfl, .inl ⟨rfl, _, .of hwl6⟩, natV n, rfl, .ref tl, rfl, tl, _, rfl, .inl ⟨.of htl, fun tt ntt => ⟨(by show 2 ≤ sizeLine; decide), fun wt nwt' => ?_⟩⟩⟩
        have s8 : Same H6 (upd (upd H6 tt (.tup (ql.map V.ref))) wt (.tup [natV n, .ref tt])) := (same_upd ntt).new nwt'
        have hwl8 := s8 _ _ hwl6
        refine ⟨wl, _, _, rfl, rfl, hwl8, ?_, ?_⟩
        · rw [List.length_map, hal]; exact small1000 (by omega)
        · have kt9 : KeepT H6 (upd (upd (upd H6 tt (.tup (ql.map V.ref))) wt (.tup [natV n, .ref tt])) wl (.lst (as.map V.ref ++ [V.ref wt]))) := s8.keepT.lst hwl8
          have kt59 := s6.keepT.trans kt9
          have s9 : Same H (upd (upd (upd H6 tt (.tup (ql.map V.ref))) wt (.tup [natV n, .ref tt])) wl (.lst (as.map V.ref ++ [V.ref wt]))) := ((s5.trans s6).trans s8).put nwl0
          have h1 : (upd (upd (upd H6 tt (.tup (ql.map V.ref))) wt (.tup [natV n, .ref tt])) wl (.lst (as.map V.ref ++ [V.ref wt]))) wt = some (.tup [natV n, .ref tt]) := by
            rw [upd_ne (fun z => by rw [z] at nwt'; rw [upd_ne (ne_of_none hwl6 ntt), hwl6] at nwt'; cases nwt'), upd_same]
          have h2 : (upd (upd (upd H6 tt (.tup (ql.map V.ref))) wt (.tup [natV n, .ref tt])) wl (.lst (as.map V.ref ++ [V.ref wt]))) tt = some (.tup (ql.map V.ref)) := by
            rw [upd_ne (ne_of_none hwl6 ntt).symm, upd_ne (ne_of_none upd_same nwt'), upd_same]
          refine ⟨_, _, _, _, _, as ++ [wt], ws ++ [those n to], rfl, s9, row2.put ((row5.same s6).same s8) nwl, W4.kt (kt5.trans kt59), by rw [upd_same, List.map_append]; rfl, paired_snoc (L2.Paired.mapP hws4 fun _ _ z => z.kt (kt5.trans kt59)) ⟨⟨⟨tt, h1, ql, h2, pairs_kt hql kt9⟩, those_below Wo.ok.below, ?_, ?_⟩, hpos, rising_of (pwo.filter _)⟩, by rw [List.length_append, List.length_singleton, hl4]⟩
          · exact Nat.le_trans (those_len _ _) tfew
          · omega
    · rintro σ H4 ⟨y5, y6, y7, y8, y9, as, ws, rfl, s4, row4, W4, hwl4, hws4, hl4⟩
      -- webs, heights = tuple(webs), heights(row, many, 5)
      refine ⟨.ref wl, rfl, wl, _, rfl, .inl ⟨.of hwl4, fun wa nwa => ?_⟩⟩
      have row5 := row4.new (o := .tup (as.map V.ref)) nwa
      refine ⟨.ref r, rfl, natV n, rfl, r, sc, ns, n, rfl, row5, n4, fun H6 b h k6 row6 hb hl hx => ⟨_, _, rfl, ?_⟩⟩
      have kt6 := row5.keepT k6
      have kt46 := ((KeepT.refl H4).new nwa).trans kt6
      have s6 : Same H H6 := (s4.new nwa).draw k6 nr
      have hS : Start H6 wa b n ws as h := ⟨⟨kt6 _ _ upd_same, L2.Paired.mapP hws4 fun _ _ z => z.kt kt46, by omega, by omega⟩, hb, hl, ⟨by omega, hx⟩⟩
      exact qE _ _ H6 r sc wa b w0 ns n ws as h ts0 _ _ _ _ _ _ _ _ _ _ _ _ _ _ rfl row6 (tabs.ext s6) hS (W4.kt kt46) q
end
end Ks
end
section
set_option maxRecDepth 100000
set_option maxHeartbeats 4000000
namespace Ks
open PySem PySem.Spec PyProof.Rows L2 LamX
/-! ### what the top has written (printed by gen_l10.py) -/
theorem dn_of {K : PySem.W.Frag} {h : Heap} {mg : Str → Option Value} {x : Str} {st : Stmt} {ps : List Str} {f : Addr} {oc kV doc pm cdv ct : Value} {od an : Option Addr} {osl : Array (Option Value)} (X : K.In h) (G : h.Ns mainGlobals mg)
    (hb : ∀ (kV doc pm : Value) (an : Option Addr) (cdv ct : Value) (us : List Value), us.length = ps.length → bindArgs (PySem.W.fnOf x x (defArgs st) (defBody st) (defScope st) .none kV doc pm an cdv ct) ⟨us, []⟩ = pure (ps.zip us))
    (a : PySem.W.nsIn K mainGlobals x = some (some (.ref f))) (l : K.lookup f = some ⟨oc, od, .func (PySem.W.fnOf x x (defArgs st) (defBody st) (defScope st) .none kV doc pm an cdv ct), osl⟩) (c : PySem.W.codeIn K cdv x = true) (k : PySem.W.keepIn K (.ref f) = true) :
    ∃ (f : Addr) (fd : FuncData), Dn K mg x st ps f fd := by
  have F := fun_mk (st := st) l c k
  exact ⟨f, _, F, PySem.W.mg_of X G a, F.binds hb⟩
/-- the same, and where its code object stands -/
theorem dnc_of {K : PySem.W.Frag} {h : Heap} {mg : Str → Option Value} {x : Str} {st : Stmt} {ps : List Str} {f cc : Addr} {oc kV doc pm ct : Value} {od an : Option Addr} {osl : Array (Option Value)} (X : K.In h) (G : h.Ns mainGlobals mg)
    (hb : ∀ (kV doc pm : Value) (an : Option Addr) (cdv ct : Value) (us : List Value), us.length = ps.length → bindArgs (PySem.W.fnOf x x (defArgs st) (defBody st) (defScope st) .none kV doc pm an cdv ct) ⟨us, []⟩ = pure (ps.zip us))
    (a : PySem.W.nsIn K mainGlobals x = some (some (.ref f))) (l : K.lookup f = some ⟨oc, od, .func (PySem.W.fnOf x x (defArgs st) (defBody st) (defScope st) .none kV doc pm an (.ref cc) ct), osl⟩) (c : PySem.W.codeIn K (.ref cc) x = true) (k : PySem.W.keepIn K (.ref f) = true) :
    ∃ (f : Addr) (fd : FuncData), Dn K mg x st ps f fd ∧ FunC K x st f fd cc := by
  have F := fun_mk (st := st) l c k
  exact ⟨f, _, ⟨F, PySem.W.mg_of X G a, F.binds hb⟩, oc, od, kV, doc, pm, an, ct, osl, rfl, l, c⟩
theorem law_at {l : PySem.W.OpenLaw} {w : World} {K : PySem.W.Frag} {h : Heap} {mg : Str → Option Value} {fa cc cP : Addr} {tMP tMH tMO tMS : Tok} (X : K.In h) (G : h.Ns mainGlobals mg) (hfa : mg "law" = some (.ref fa))
    (hT : h.get? cP = some { cls := .none, data := .fields #[] }) (nT : K.lookup cP = none) (hd : PySem.W.codeHdIn K cc cP = true)
    (hIsInt : ∃ (f : Addr) (fd : FuncData), Dn K mg "is_int" sIsInt ["value"] f fd)
    (hIsFrom : ∃ (f : Addr) (fd : FuncData), Dn K mg "is_from" sIsFrom ["value", "least", "most"] f fd)
    (hIsHeight : ∃ (f : Addr) (fd : FuncData), Dn K mg "is_height" sIsHeight ["value"] f fd)
    (hIsTie : ∃ (f : Addr) (fd : FuncData), Dn K mg "is_tie" sIsTie ["value", "many"] f fd)
    (hNeedWeb : ∃ (f : Addr) (fd : FuncData), Dn K mg "need_web" sNeedWeb ["value"] f fd)
    (hNeedHeights : ∃ (f : Addr) (fd : FuncData), Dn K mg "need_heights" sNeedHeights ["web", "value"] f fd)
    (hTiedTo : ∃ (f : Addr) (fd : FuncData), Dn K mg "tied_to" sTiedTo ["web", "person"] f fd)
    (hHanging : ∃ (f : Addr) (fd : FuncData), Dn K mg "hanging" sHanging ["web", "person", "lot"] f fd)
    (hEverybody : ∃ (f : Addr) (fd : FuncData), Dn K mg "everybody" sEverybody ["web"] f fd)
    (hOpenAt : ∃ (f : Addr) (fd : FuncData), Dn K mg "open_at" sOpenAt ["heights", "goal", "height"] f fd)
    (hNextOf : ∃ (f : Addr) (fd : FuncData), Dn K mg "next_of" sNextOf ["web", "heights"] f fd)
    (hAfter : ∃ (f : Addr) (fd : FuncData), Dn K mg "after" sAfter ["heights", "person", "other"] f fd)
    (hPieceOf : ∃ (f : Addr) (fd : FuncData), Dn K mg "piece_of" sPieceOf ["web", "heights", "goal", "person"] f fd)
    (hSourcesOf : ∃ (f : Addr) (fd : FuncData), Dn K mg "sources_of" sSourcesOf ["web", "heights", "goal", "person"] f fd)
    (hIsReached : ∃ (f : Addr) (fd : FuncData), Dn K mg "is_reached" sIsReached ["web", "heights", "goal"] f fd)
    (hAllOf : ∃ (f : Addr) (fd : FuncData), Dn K mg "all_of" sAllOf ["web", "heights"] f fd)
    (hNeedSeasons : ∃ (f : Addr) (fd : FuncData), Dn K mg "need_seasons" sNeedSeasons ["value"] f fd)
    (hIsWeb : ∃ (f : Addr) (fd : FuncData), Dn K mg "is_web" sIsWeb ["value"] f fd)
    (hSeasonOutcomes : ∃ (f : Addr) (fd : FuncData), Dn K mg "season_outcomes" sSeasonOutcomes ["webs", "heights"] f fd)
    (hSeasonComes : ∃ (f : Addr) (fd : FuncData), Dn K mg "season_comes" sSeasonComes ["webs", "heights", "goal"] f fd)
    (hSeasonFewest : ∃ (f : Addr) (fd : FuncData), Dn K mg "season_fewest" sSeasonFewest ["webs", "heights", "goal"] f fd ∧ FunC K "season_fewest" sSeasonFewest f fd cc)
    (hSeasonLows : ∃ (f : Addr) (fd : FuncData), Dn K mg "season_lows" sSeasonLows ["webs", "heights"] f fd)
    (hSeasonCount : ∃ (f : Addr) (fd : FuncData), Dn K mg "season_count" sSeasonCount ["webs", "heights"] f fd)
    (hLTaken : ∃ (f : Addr) (fd : FuncData), Dn K mg "_law_taken" sLTaken ["_law_row", "_law_many"] f fd)
    (hLPick : ∃ (f : Addr) (fd : FuncData), Dn K mg "_law_pick" sLPick ["_law_row", "_law_things"] f fd)
    (hLAlike : ∃ (f : Addr) (fd : FuncData), Dn K mg "_law_alike" sLAlike ["_law_found", "_law_due"] f fd)
    (hLIs : ∃ (f : Addr) (fd : FuncData), Dn K mg "_law_is" sLIs ["_law_found", "_law_due"] f fd)
    (hLWeb : ∃ (f : Addr) (fd : FuncData), Dn K mg "_law_web" sLWeb ["_law_row", "_law_most", "_law_more"] f fd)
    (hLHeights : ∃ (f : Addr) (fd : FuncData), Dn K mg "_law_heights" sLHeights ["_law_row", "_law_many", "_law_high"] f fd)
    (hLTies : ∃ (f : Addr) (fd : FuncData), Dn K mg "_law_ties" sLTies ["_law_web_here", "_law_person"] f fd)
    (hLStoops : ∃ (f : Addr) (fd : FuncData), Dn K mg "_law_stoops" sLStoops ["_law_web_here", "_law_heights_here"] f fd)
    (hLAfter : ∃ (f : Addr) (fd : FuncData), Dn K mg "_law_after" sLAfter ["_law_heights_here", "_law_pair"] f fd)
    (hLDrawn : ∃ (f : Addr) (fd : FuncData), Dn K mg "_law_drawn" sLDrawn ["_law_row", "_law_web_here", "_law_heights_here", "_law_most"] f fd)
    (hLGoal : ∃ (f : Addr) (fd : FuncData), Dn K mg "_law_goal" sLGoal ["_law_row", "_law_web_here", "_law_heights_here"] f fd)
    (hLaw : ∃ (f : Addr) (fd : FuncData), Dn K mg "law" sLaw ["_law_script"] f fd)
    (gMP : PySem.W.nsIn K mainGlobals "MOST_PERSONS" = some (some (.int 8 tMP)))
    (gMH : PySem.W.nsIn K mainGlobals "MOST_HEIGHT" = some (some (.int 1000 tMH)))
    (gMO : PySem.W.nsIn K mainGlobals "MOST_OUTCOMES" = some (some (.int 5000 tMO)))
    (gMS : PySem.W.nsIn K mainGlobals "MOST_SEASONS" = some (some (.int 5 tMS)))
    (z_len : PySem.W.nsIn K mainGlobals "len" = some none)
    (z_tuple : PySem.W.nsIn K mainGlobals "tuple" = some none)
    (z_list : PySem.W.nsIn K mainGlobals "list" = some none)
    (z_range : PySem.W.nsIn K mainGlobals "range" = some none)
    (z_sorted : PySem.W.nsIn K mainGlobals "sorted" = some none)
    (z_isinstance : PySem.W.nsIn K mainGlobals "isinstance" = some none)
    (z_int : PySem.W.nsIn K mainGlobals "int" = some none)
    (z_bool : PySem.W.nsIn K mainGlobals "bool" = some none)
    (z_str : PySem.W.nsIn K mainGlobals "str" = some none)
    (z_enumerate : PySem.W.nsIn K mainGlobals "enumerate" = some none)
    (z_all : PySem.W.nsIn K mainGlobals "all" = some none)
    (z_any : PySem.W.nsIn K mainGlobals "any" = some none)
    (z_min : PySem.W.nsIn K mainGlobals "min" = some none) :
    LawAtS l w K CX0 9 63 "_law_script" mg fa h := by
  obtain ⟨aIsInt, fIsInt, DIsInt⟩ := hIsInt
  obtain ⟨aIsFrom, fIsFrom, DIsFrom⟩ := hIsFrom
  obtain ⟨aIsHeight, fIsHeight, DIsHeight⟩ := hIsHeight
  obtain ⟨aIsTie, fIsTie, DIsTie⟩ := hIsTie
  obtain ⟨aNeedWeb, fNeedWeb, DNeedWeb⟩ := hNeedWeb
  obtain ⟨aNeedHeights, fNeedHeights, DNeedHeights⟩ := hNeedHeights
  obtain ⟨aTiedTo, fTiedTo, DTiedTo⟩ := hTiedTo
  obtain ⟨aHanging, fHanging, DHanging⟩ := hHanging
  obtain ⟨aEverybody, fEverybody, DEverybody⟩ := hEverybody
  obtain ⟨aOpenAt, fOpenAt, DOpenAt⟩ := hOpenAt
  obtain ⟨aNextOf, fNextOf, DNextOf⟩ := hNextOf
  obtain ⟨aAfter, fAfter, DAfter⟩ := hAfter
  obtain ⟨aPieceOf, fPieceOf, DPieceOf⟩ := hPieceOf
  obtain ⟨aSourcesOf, fSourcesOf, DSourcesOf⟩ := hSourcesOf
  obtain ⟨aIsReached, fIsReached, DIsReached⟩ := hIsReached
  obtain ⟨aAllOf, fAllOf, DAllOf⟩ := hAllOf
  obtain ⟨aNeedSeasons, fNeedSeasons, DNeedSeasons⟩ := hNeedSeasons
  obtain ⟨aIsWeb, fIsWeb, DIsWeb⟩ := hIsWeb
  obtain ⟨aSeasonOutcomes, fSeasonOutcomes, DSeasonOutcomes⟩ := hSeasonOutcomes
  obtain ⟨aSeasonComes, fSeasonComes, DSeasonComes⟩ := hSeasonComes
  obtain ⟨aSeasonFewest, fSeasonFewest, DSeasonFewest, FC⟩ := hSeasonFewest
  obtain ⟨aSeasonLows, fSeasonLows, DSeasonLows⟩ := hSeasonLows
  obtain ⟨aSeasonCount, fSeasonCount, DSeasonCount⟩ := hSeasonCount
  obtain ⟨aLTaken, fLTaken, DLTaken⟩ := hLTaken
  obtain ⟨aLPick, fLPick, DLPick⟩ := hLPick
  obtain ⟨aLAlike, fLAlike, DLAlike⟩ := hLAlike
  obtain ⟨aLIs, fLIs, DLIs⟩ := hLIs
  obtain ⟨aLWeb, fLWeb, DLWeb⟩ := hLWeb
  obtain ⟨aLHeights, fLHeights, DLHeights⟩ := hLHeights
  obtain ⟨aLTies, fLTies, DLTies⟩ := hLTies
  obtain ⟨aLStoops, fLStoops, DLStoops⟩ := hLStoops
  obtain ⟨aLAfter, fLAfter, DLAfter⟩ := hLAfter
  obtain ⟨aLDrawn, fLDrawn, DLDrawn⟩ := hLDrawn
  obtain ⟨aLGoal, fLGoal, DLGoal⟩ := hLGoal
  obtain ⟨aLaw, fLaw, DLaw⟩ := hLaw
  let T : Txt K mg := { B := { len := PySem.W.mg_none_of X G z_len, tuple := PySem.W.mg_none_of X G z_tuple, list := PySem.W.mg_none_of X G z_list, range := PySem.W.mg_none_of X G z_range, sorted := PySem.W.mg_none_of X G z_sorted, isinstance := PySem.W.mg_none_of X G z_isinstance, int := PySem.W.mg_none_of X G z_int, bool := PySem.W.mg_none_of X G z_bool, str := PySem.W.mg_none_of X G z_str, enumerate := PySem.W.mg_none_of X G z_enumerate, all := PySem.W.mg_none_of X G z_all, any := PySem.W.mg_none_of X G z_any, min := PySem.W.mg_none_of X G z_min }, aIsInt := aIsInt, fIsInt := fIsInt, DIsInt := DIsInt, aIsFrom := aIsFrom, fIsFrom := fIsFrom, DIsFrom := DIsFrom, aIsHeight := aIsHeight, fIsHeight := fIsHeight, DIsHeight := DIsHeight, aIsTie := aIsTie, fIsTie := fIsTie, DIsTie := DIsTie, aNeedWeb := aNeedWeb, fNeedWeb := fNeedWeb, DNeedWeb := DNeedWeb, aNeedHeights := aNeedHeights, fNeedHeights := fNeedHeights, DNeedHeights := DNeedHeights, aTiedTo := aTiedTo, fTiedTo := fTiedTo, DTiedTo := DTiedTo, aHanging := aHanging, fHanging := fHanging, DHanging := DHanging, aEverybody := aEverybody, fEverybody := fEverybody, DEverybody := DEverybody, aOpenAt := aOpenAt, fOpenAt := fOpenAt, DOpenAt := DOpenAt, aNextOf := aNextOf, fNextOf := fNextOf, DNextOf := DNextOf, aAfter := aAfter, fAfter := fAfter, DAfter := DAfter, aPieceOf := aPieceOf, fPieceOf := fPieceOf, DPieceOf := DPieceOf, aSourcesOf := aSourcesOf, fSourcesOf := fSourcesOf, DSourcesOf := DSourcesOf, aIsReached := aIsReached, fIsReached := fIsReached, DIsReached := DIsReached, aAllOf := aAllOf, fAllOf := fAllOf, DAllOf := DAllOf, aNeedSeasons := aNeedSeasons, fNeedSeasons := fNeedSeasons, DNeedSeasons := DNeedSeasons, aIsWeb := aIsWeb, fIsWeb := fIsWeb, DIsWeb := DIsWeb, aSeasonOutcomes := aSeasonOutcomes, fSeasonOutcomes := fSeasonOutcomes, DSeasonOutcomes := DSeasonOutcomes, aSeasonComes := aSeasonComes, fSeasonComes := fSeasonComes, DSeasonComes := DSeasonComes, aSeasonFewest := aSeasonFewest, fSeasonFewest := fSeasonFewest, DSeasonFewest := DSeasonFewest, aSeasonLows := aSeasonLows, fSeasonLows := fSeasonLows, DSeasonLows := DSeasonLows, aSeasonCount := aSeasonCount, fSeasonCount := fSeasonCount, DSeasonCount := DSeasonCount, aLTaken := aLTaken, fLTaken := fLTaken, DLTaken := DLTaken, aLPick := aLPick, fLPick := fLPick, DLPick := DLPick, aLAlike := aLAlike, fLAlike := fLAlike, DLAlike := DLAlike, aLIs := aLIs, fLIs := fLIs, DLIs := DLIs, aLWeb := aLWeb, fLWeb := fLWeb, DLWeb := DLWeb, aLHeights := aLHeights, fLHeights := fLHeights, DLHeights := DLHeights, aLTies := aLTies, fLTies := fLTies, DLTies := DLTies, aLStoops := aLStoops, fLStoops := fLStoops, DLStoops := DLStoops, aLAfter := aLAfter, fLAfter := fLAfter, DLAfter := DLAfter, aLDrawn := aLDrawn, fLDrawn := fLDrawn, DLDrawn := DLDrawn, aLGoal := aLGoal, fLGoal := fLGoal, DLGoal := DLGoal, tMP := tMP, gMP := PySem.W.mg_of X G gMP, tMH := tMH, gMH := PySem.W.mg_of X G gMH, tMO := tMO, gMO := PySem.W.mg_of X G gMO, tMS := tMS, gMS := PySem.W.mg_of X G gMS }
  obtain rfl : fa = aLaw := by
    have e := hfa.symm.trans DLaw.g
    cases e; rfl
  obtain ⟨oc, od, kV, doc, pm, an, cdv, ct, osl, rfl, _, _⟩ := id DLaw.F.ex
  refine ⟨PySem.W.fnOf "law" "law" (defArgs sLaw) (defBody sLaw) (defScope sLaw) .none kV doc pm an cdv ct, [(cc, cP)], spLaw K [(cP, ("season_fewest.<locals>.<lambda>" : Str))], fun p hp => ?_, fun p hp => ?_, fun p hp => ?_, fun s u => .of_eq rfl, fun H a ns hlen _ hH hS => ⟨a, ns, rfl, hS, fun p hp => ?_, fun _ => rfl⟩, fun base _ _ TB => ?_⟩
  · rw [List.mem_singleton.mp hp]; exact hT
  · rw [List.mem_singleton.mp hp]; exact nT
  · rw [List.mem_singleton.mp hp]; exact PySem.W.codeHd_of_K X hd
  · rw [List.mem_singleton.mp hp]
    exact TabS.nil (hH _ (List.mem_singleton.mpr rfl))
  · exact ok_law T (ok_sf T FC (TB _ (List.mem_singleton.mpr rfl)) (List.mem_singleton.mpr rfl) fun p hp _ => by rw [List.mem_singleton.mp hp]) DLaw.F
end Ks
end
open PySem PySem.W PyProof.Rows
set_option maxRecDepth 100000 in
set_option maxHeartbeats 0 in
theorem PySem.Challenge.cw_stoopers_k43_whole_seasons_holds : PySem.Challenge.rw_stoopers_k43_whole_seasons.Holds := by
  w_on; o_law; k_head; (case hw => w_witness2)
  k_fill
  refine LamX.walk_ofTs (l := PySem.Challenge.rw_stoopers_k43_whole_seasons) (n := 63) (k := 9) (x := "_law_script") (CX := fun _ => L2.CX0) rfl (by decide) rfl ⟨rfl, by decide, by decide⟩ (fun w h Y => km_in_of Y) ?F (fun _ _ _ _ _ z => z)
  case F =>
    intro w mg fa h Y KX G hmg
    have hT8 := km_tabs_of Y
    refine' Ks.law_at KX G hmg (hT8 _ List.mem_cons_self) ?nT ?hd
      (Ks.dn_of (x := "is_int") (st := Ks.sIsInt) (ps := ["value"]) KX G (fun _ _ _ _ _ _ us hl => match us, hl with | [_], _ => rfl) ?aIsInt ?lIsInt ?cIsInt ?kIsInt)
      (Ks.dn_of (x := "is_from") (st := Ks.sIsFrom) (ps := ["value", "least", "most"]) KX G (fun _ _ _ _ _ _ us hl => match us, hl with | [_, _, _], _ => rfl) ?aIsFrom ?lIsFrom ?cIsFrom ?kIsFrom)
      (Ks.dn_of (x := "is_height") (st := Ks.sIsHeight) (ps := ["value"]) KX G (fun _ _ _ _ _ _ us hl => match us, hl with | [_], _ => rfl) ?aIsHeight ?lIsHeight ?cIsHeight ?kIsHeight)
      (Ks.dn_of (x := "is_tie") (st := Ks.sIsTie) (ps := ["value", "many"]) KX G (fun _ _ _ _ _ _ us hl => match us, hl with | [_, _], _ => rfl) ?aIsTie ?lIsTie ?cIsTie ?kIsTie)
      (Ks.dn_of (x := "need_web") (st := Ks.sNeedWeb) (ps := ["value"]) KX G (fun _ _ _ _ _ _ us hl => match us, hl with | [_], _ => rfl) ?aNeedWeb ?lNeedWeb ?cNeedWeb ?kNeedWeb)
      (Ks.dn_of (x := "need_heights") (st := Ks.sNeedHeights) (ps := ["web", "value"]) KX G (fun _ _ _ _ _ _ us hl => match us, hl with | [_, _], _ => rfl) ?aNeedHeights ?lNeedHeights ?cNeedHeights ?kNeedHeights)
      (Ks.dn_of (x := "tied_to") (st := Ks.sTiedTo) (ps := ["web", "person"]) KX G (fun _ _ _ _ _ _ us hl => match us, hl with | [_, _], _ => rfl) ?aTiedTo ?lTiedTo ?cTiedTo ?kTiedTo)
      (Ks.dn_of (x := "hanging") (st := Ks.sHanging) (ps := ["web", "person", "lot"]) KX G (fun _ _ _ _ _ _ us hl => match us, hl with | [_, _, _], _ => rfl) ?aHanging ?lHanging ?cHanging ?kHanging)
      (Ks.dn_of (x := "everybody") (st := Ks.sEverybody) (ps := ["web"]) KX G (fun _ _ _ _ _ _ us hl => match us, hl with | [_], _ => rfl) ?aEverybody ?lEverybody ?cEverybody ?kEverybody)
      (Ks.dn_of (x := "open_at") (st := Ks.sOpenAt) (ps := ["heights", "goal", "height"]) KX G (fun _ _ _ _ _ _ us hl => match us, hl with | [_, _, _], _ => rfl) ?aOpenAt ?lOpenAt ?cOpenAt ?kOpenAt)
      (Ks.dn_of (x := "next_of") (st := Ks.sNextOf) (ps := ["web", "heights"]) KX G (fun _ _ _ _ _ _ us hl => match us, hl with | [_, _], _ => rfl) ?aNextOf ?lNextOf ?cNextOf ?kNextOf)
      (Ks.dn_of (x := "after") (st := Ks.sAfter) (ps := ["heights", "person", "other"]) KX G (fun _ _ _ _ _ _ us hl => match us, hl with | [_, _, _], _ => rfl) ?aAfter ?lAfter ?cAfter ?kAfter)
      (Ks.dn_of (x := "piece_of") (st := Ks.sPieceOf) (ps := ["web", "heights", "goal", "person"]) KX G (fun _ _ _ _ _ _ us hl => match us, hl with | [_, _, _, _], _ => rfl) ?aPieceOf ?lPieceOf ?cPieceOf ?kPieceOf)
      (Ks.dn_of (x := "sources_of") (st := Ks.sSourcesOf) (ps := ["web", "heights", "goal", "person"]) KX G (fun _ _ _ _ _ _ us hl => match us, hl with | [_, _, _, _], _ => rfl) ?aSourcesOf ?lSourcesOf ?cSourcesOf ?kSourcesOf)
      (Ks.dn_of (x := "is_reached") (st := Ks.sIsReached) (ps := ["web", "heights", "goal"]) KX G (fun _ _ _ _ _ _ us hl => match us, hl with | [_, _, _], _ => rfl) ?aIsReached ?lIsReached ?cIsReached ?kIsReached)
      (Ks.dn_of (x := "all_of") (st := Ks.sAllOf) (ps := ["web", "heights"]) KX G (fun _ _ _ _ _ _ us hl => match us, hl with | [_, _], _ => rfl) ?aAllOf ?lAllOf ?cAllOf ?kAllOf)
      (Ks.dn_of (x := "need_seasons") (st := Ks.sNeedSeasons) (ps := ["value"]) KX G (fun _ _ _ _ _ _ us hl => match us, hl with | [_], _ => rfl) ?aNeedSeasons ?lNeedSeasons ?cNeedSeasons ?kNeedSeasons)
      (Ks.dn_of (x := "is_web") (st := Ks.sIsWeb) (ps := ["value"]) KX G (fun _ _ _ _ _ _ us hl => match us, hl with | [_], _ => rfl) ?aIsWeb ?lIsWeb ?cIsWeb ?kIsWeb)
      (Ks.dn_of (x := "season_outcomes") (st := Ks.sSeasonOutcomes) (ps := ["webs", "heights"]) KX G (fun _ _ _ _ _ _ us hl => match us, hl with | [_, _], _ => rfl) ?aSeasonOutcomes ?lSeasonOutcomes ?cSeasonOutcomes ?kSeasonOutcomes)
      (Ks.dn_of (x := "season_comes") (st := Ks.sSeasonComes) (ps := ["webs", "heights", "goal"]) KX G (fun _ _ _ _ _ _ us hl => match us, hl with | [_, _, _], _ => rfl) ?aSeasonComes ?lSeasonComes ?cSeasonComes ?kSeasonComes)
      (Ks.dnc_of (x := "season_fewest") (st := Ks.sSeasonFewest) (ps := ["webs", "heights", "goal"]) KX G (fun _ _ _ _ _ _ us hl => match us, hl with | [_, _, _], _ => rfl) ?aSeasonFewest ?lSeasonFewest ?cSeasonFewest ?kSeasonFewest)
      (Ks.dn_of (x := "season_lows") (st := Ks.sSeasonLows) (ps := ["webs", "heights"]) KX G (fun _ _ _ _ _ _ us hl => match us, hl with | [_, _], _ => rfl) ?aSeasonLows ?lSeasonLows ?cSeasonLows ?kSeasonLows)
      (Ks.dn_of (x := "season_count") (st := Ks.sSeasonCount) (ps := ["webs", "heights"]) KX G (fun _ _ _ _ _ _ us hl => match us, hl with | [_, _], _ => rfl) ?aSeasonCount ?lSeasonCount ?cSeasonCount ?kSeasonCount)
      (Ks.dn_of (x := "_law_taken") (st := Ks.sLTaken) (ps := ["_law_row", "_law_many"]) KX G (fun _ _ _ _ _ _ us hl => match us, hl with | [_, _], _ => rfl) ?aLTaken ?lLTaken ?cLTaken ?kLTaken)
      (Ks.dn_of (x := "_law_pick") (st := Ks.sLPick) (ps := ["_law_row", "_law_things"]) KX G (fun _ _ _ _ _ _ us hl => match us, hl with | [_, _], _ => rfl) ?aLPick ?lLPick ?cLPick ?kLPick)
      (Ks.dn_of (x := "_law_alike") (st := Ks.sLAlike) (ps := ["_law_found", "_law_due"]) KX G (fun _ _ _ _ _ _ us hl => match us, hl with | [_, _], _ => rfl) ?aLAlike ?lLAlike ?cLAlike ?kLAlike)
      (Ks.dn_of (x := "_law_is") (st := Ks.sLIs) (ps := ["_law_found", "_law_due"]) KX G (fun _ _ _ _ _ _ us hl => match us, hl with | [_, _], _ => rfl) ?aLIs ?lLIs ?cLIs ?kLIs)
      (Ks.dn_of (x := "_law_web") (st := Ks.sLWeb) (ps := ["_law_row", "_law_most", "_law_more"]) KX G (fun _ _ _ _ _ _ us hl => match us, hl with | [_, _, _], _ => rfl) ?aLWeb ?lLWeb ?cLWeb ?kLWeb)
      (Ks.dn_of (x := "_law_heights") (st := Ks.sLHeights) (ps := ["_law_row", "_law_many", "_law_high"]) KX G (fun _ _ _ _ _ _ us hl => match us, hl with | [_, _, _], _ => rfl) ?aLHeights ?lLHeights ?cLHeights ?kLHeights)
      (Ks.dn_of (x := "_law_ties") (st := Ks.sLTies) (ps := ["_law_web_here", "_law_person"]) KX G (fun _ _ _ _ _ _ us hl => match us, hl with | [_, _], _ => rfl) ?aLTies ?lLTies ?cLTies ?kLTies)
      (Ks.dn_of (x := "_law_stoops") (st := Ks.sLStoops) (ps := ["_law_web_here", "_law_heights_here"]) KX G (fun _ _ _ _ _ _ us hl => match us, hl with | [_, _], _ => rfl) ?aLStoops ?lLStoops ?cLStoops ?kLStoops)
      (Ks.dn_of (x := "_law_after") (st := Ks.sLAfter) (ps := ["_law_heights_here", "_law_pair"]) KX G (fun _ _ _ _ _ _ us hl => match us, hl with | [_, _], _ => rfl) ?aLAfter ?lLAfter ?cLAfter ?kLAfter)
      (Ks.dn_of (x := "_law_drawn") (st := Ks.sLDrawn) (ps := ["_law_row", "_law_web_here", "_law_heights_here", "_law_most"]) KX G (fun _ _ _ _ _ _ us hl => match us, hl with | [_, _, _, _], _ => rfl) ?aLDrawn ?lLDrawn ?cLDrawn ?kLDrawn)
      (Ks.dn_of (x := "_law_goal") (st := Ks.sLGoal) (ps := ["_law_row", "_law_web_here", "_law_heights_here"]) KX G (fun _ _ _ _ _ _ us hl => match us, hl with | [_, _, _], _ => rfl) ?aLGoal ?lLGoal ?cLGoal ?kLGoal)
      (Ks.dn_of (x := "law") (st := Ks.sLaw) (ps := ["_law_script"]) KX G (fun _ _ _ _ _ _ us hl => match us, hl with | [_], _ => rfl) ?aLaw ?lLaw ?cLaw ?kLaw)
      ?gMP
      ?gMH
      ?gMO
      ?gMS
      ?z_len
      ?z_tuple
      ?z_list
      ?z_range
      ?z_sorted
      ?z_isinstance
      ?z_int
      ?z_bool
      ?z_str
      ?z_enumerate
      ?z_all
      ?z_any
      ?z_min
    (case aIsInt => k_is); (case lIsInt => k_is); (case cIsInt => k_is); (case kIsInt => k_is)
    (case aIsFrom => k_is); (case lIsFrom => k_is); (case cIsFrom => k_is); (case kIsFrom => k_is)
    (case aIsHeight => k_is); (case lIsHeight => k_is); (case cIsHeight => k_is); (case kIsHeight => k_is)
    (case aIsTie => k_is); (case lIsTie => k_is); (case cIsTie => k_is); (case kIsTie => k_is)
    (case aNeedWeb => k_is); (case lNeedWeb => k_is); (case cNeedWeb => k_is); (case kNeedWeb => k_is)
    (case aNeedHeights => k_is); (case lNeedHeights => k_is); (case cNeedHeights => k_is); (case kNeedHeights => k_is)
    (case aTiedTo => k_is); (case lTiedTo => k_is); (case cTiedTo => k_is); (case kTiedTo => k_is)
    (case aHanging => k_is); (case lHanging => k_is); (case cHanging => k_is); (case kHanging => k_is)
    (case aEverybody => k_is); (case lEverybody => k_is); (case cEverybody => k_is); (case kEverybody => k_is)
    (case aOpenAt => k_is); (case lOpenAt => k_is); (case cOpenAt => k_is); (case kOpenAt => k_is)
    (case aNextOf => k_is); (case lNextOf => k_is); (case cNextOf => k_is); (case kNextOf => k_is)
    (case aAfter => k_is); (case lAfter => k_is); (case cAfter => k_is); (case kAfter => k_is)
    (case aPieceOf => k_is); (case lPieceOf => k_is); (case cPieceOf => k_is); (case kPieceOf => k_is)
    (case aSourcesOf => k_is); (case lSourcesOf => k_is); (case cSourcesOf => k_is); (case kSourcesOf => k_is)
    (case aIsReached => k_is); (case lIsReached => k_is); (case cIsReached => k_is); (case kIsReached => k_is)
    (case aAllOf => k_is); (case lAllOf => k_is); (case cAllOf => k_is); (case kAllOf => k_is)
    (case aNeedSeasons => k_is); (case lNeedSeasons => k_is); (case cNeedSeasons => k_is); (case kNeedSeasons => k_is)
    (case aIsWeb => k_is); (case lIsWeb => k_is); (case cIsWeb => k_is); (case kIsWeb => k_is)
    (case aSeasonOutcomes => k_is); (case lSeasonOutcomes => k_is); (case cSeasonOutcomes => k_is); (case kSeasonOutcomes => k_is)
    (case aSeasonComes => k_is); (case lSeasonComes => k_is); (case cSeasonComes => k_is); (case kSeasonComes => k_is)
    (case aSeasonFewest => k_is); (case lSeasonFewest => k_is); (case cSeasonFewest => k_is); (case kSeasonFewest => k_is)
    (case aSeasonLows => k_is); (case lSeasonLows => k_is); (case cSeasonLows => k_is); (case kSeasonLows => k_is)
    (case aSeasonCount => k_is); (case lSeasonCount => k_is); (case cSeasonCount => k_is); (case kSeasonCount => k_is)
    (case aLTaken => k_is); (case lLTaken => k_is); (case cLTaken => k_is); (case kLTaken => k_is)
    (case aLPick => k_is); (case lLPick => k_is); (case cLPick => k_is); (case kLPick => k_is)
    (case aLAlike => k_is); (case lLAlike => k_is); (case cLAlike => k_is); (case kLAlike => k_is)
    (case aLIs => k_is); (case lLIs => k_is); (case cLIs => k_is); (case kLIs => k_is)
    (case aLWeb => k_is); (case lLWeb => k_is); (case cLWeb => k_is); (case kLWeb => k_is)
    (case aLHeights => k_is); (case lLHeights => k_is); (case cLHeights => k_is); (case kLHeights => k_is)
    (case aLTies => k_is); (case lLTies => k_is); (case cLTies => k_is); (case kLTies => k_is)
    (case aLStoops => k_is); (case lLStoops => k_is); (case cLStoops => k_is); (case kLStoops => k_is)
    (case aLAfter => k_is); (case lLAfter => k_is); (case cLAfter => k_is); (case kLAfter => k_is)
    (case aLDrawn => k_is); (case lLDrawn => k_is); (case cLDrawn => k_is); (case kLDrawn => k_is)
    (case aLGoal => k_is); (case lLGoal => k_is); (case cLGoal => k_is); (case kLGoal => k_is)
    (case aLaw => k_is); (case lLaw => k_is); (case cLaw => k_is); (case kLaw => k_is)
    (case gMP => k_is)
    (case gMH => k_is)
    (case gMO => k_is)
    (case gMS => k_is)
    (case z_len => k_is)
    (case z_tuple => k_is)
    (case z_list => k_is)
    (case z_range => k_is)
    (case z_sorted => k_is)
    (case z_isinstance => k_is)
    (case z_int => k_is)
    (case z_bool => k_is)
    (case z_str => k_is)
    (case z_enumerate => k_is)
    (case z_all => k_is)
    (case z_any => k_is)
    (case z_min => k_is)
    (case nT => kernel_rfl); (case hd => kernel_rfl)
