import PyProof.Rows.All
import Wide.All
import OpenK.AllK
import Wide.FinOn
import HandS.ForMost
import HandS.DictTup
import HandS.TupAny
import KE.KDictWalk
import KE.KDictDisplayH
import HandS.Exc
import HandS.TryOnly
import HandS.ExcOwn
import HandS.ExcField
import KE.GoesEnum
import HandS.TryMany
import HandS.ExcBuiltin
import HandS.Small
import KE.KExcSuper
import KE.SortData
import HandS.ForExc
import HandS.Zip
import HandS.IsInst
import HandS.ExcIs
import PySem.Challenge.RW_fullorring_k81_whole_kinds_counted
set_option Elab.async false
set_option linter.all false
set_option maxRecDepth 100000
set_option maxHeartbeats 4000000
/-! The plain law: dealings of kinds, counted by states, and dealings of the table, listed. -/
namespace FR
/-! ### sums -/
def sm {α : Type} (f : α → Nat) : List α → Nat
  | [] => 0
  | a :: l => f a + sm f l
theorem sm_app {α : Type} (f : α → Nat) : ∀ l m : List α, sm f (l ++ m) = sm f l + sm f m
  | [], m => by simp [sm]
  | a :: l, m => by simp only [List.cons_append, sm, sm_app f l m]; omega
theorem sm_eq {α : Type} {f g : α → Nat} : ∀ {l : List α}, (∀ a, a ∈ l → f a = g a) → sm f l = sm g l
  | [], _ => rfl
  | a :: l, h => by
    simp only [sm]
    rw [h a (by simp), sm_eq (l := l) fun b hb => h b (by simp [hb])]
theorem sm_plus {α : Type} (f g : α → Nat) : ∀ l : List α, sm (fun a => f a + g a) l = sm f l + sm g l
  | [] => rfl
  | a :: l => by simp only [sm, sm_plus f g l]; omega
theorem sm_mulr {α : Type} (f : α → Nat) (c : Nat) : ∀ l : List α, sm (fun a => f a * c) l = sm f l * c
  | [] => by simp [sm]
  | a :: l => by simp only [sm, sm_mulr f c l, Nat.add_mul]
theorem sm_mull {α : Type} (f : α → Nat) (c : Nat) : ∀ l : List α, sm (fun a => c * f a) l = c * sm f l
  | [] => by simp [sm]
  | a :: l => by simp only [sm, sm_mull f c l, Nat.mul_add]
theorem sm_none {α : Type} : ∀ l : List α, sm (fun _ => 0) l = 0
  | [] => rfl
  | _ :: l => by simp only [sm, sm_none l]
theorem sm_one {α : Type} : ∀ l : List α, sm (fun _ => 1) l = l.length
  | [] => rfl
  | _ :: l => by simp only [sm, sm_one l, List.length_cons]; omega
theorem sm_map {α β : Type} (f : β → Nat) (g : α → β) : ∀ l : List α, sm f (l.map g) = sm (fun a => f (g a)) l
  | [] => rfl
  | a :: l => by simp only [List.map_cons, sm, sm_map f g l]
theorem sm_flat {α β : Type} (f : β → Nat) (g : α → List β) : ∀ l : List α, sm f (l.flatMap g) = sm (fun a => sm f (g a)) l
  | [] => rfl
  | a :: l => by simp only [List.flatMap_cons, sm_app, sm, sm_flat f g l]
theorem sm_sum (l : List Nat) : sm (fun n => n) l = l.sum := by
  induction l with
  | nil => rfl
  | cons a l ih => simp only [sm, ih, List.sum_cons]
/-! ### how many dealings are behind things left -/
def at0 (l : List Nat) (t : Nat) : Nat := l.getD t 0
def less (l : List Nat) (t : Nat) : List Nat := l.set t (at0 l t - 1)
def N : List (List Nat) → List Nat → Nat
  | [], _ => 1
  | r :: rs, l => sm (fun t => at0 l t * N rs (less l t)) r
theorem at0_set (l : List Nat) (t u x : Nat) : at0 (l.set t x) u = if t = u ∧ t < l.length then x else at0 l u := by
  unfold at0
  rw [List.getD_eq_getElem?_getD, List.getD_eq_getElem?_getD, List.getElem?_set]
  by_cases e : t = u
  · subst e
    by_cases h : t < l.length
    · simp [h]
    · simp [h]
  · simp [e]
theorem at0_less (l : List Nat) (t u : Nat) : at0 (less l t) u = at0 l u - (if t = u then 1 else 0) := by
  unfold less
  rw [at0_set]
  by_cases e : t = u
  · subst e
    by_cases h : t < l.length
    · simp [h]
    · have z : at0 l t = 0 := by unfold at0; rw [List.getD_eq_getElem?_getD, List.getElem?_eq_none (Nat.le_of_not_lt h)]; rfl
      simp [h, z]
  · simp [e]
theorem less_len (l : List Nat) (t : Nat) : (less l t).length = l.length := by unfold less; simp
theorem lists_eq {l m : List Nat} (hl : l.length = m.length) (h : ∀ t, at0 l t = at0 m t) : l = m := by
  apply List.ext_getElem hl
  intro i h1 h2
  have e := h i
  unfold at0 at e
  rw [List.getD_eq_getElem?_getD, List.getD_eq_getElem?_getD, List.getElem?_eq_getElem h1, List.getElem?_eq_getElem h2] at e
  exact e
/-! ### the dict of states -/
abbrev Dc := List (List Nat × Nat)
def look : Dc → List Nat → Nat
  | [], _ => 0
  | p :: d, k => if p.1 = k then p.2 else look d k
def put : Dc → List Nat → Nat → Dc
  | [], k, v => [(k, v)]
  | p :: d, k, v => if p.1 = k then (k, v) :: d else p :: put d k v
def wt (F : List Nat → Nat) (d : Dc) : Nat := sm (fun p => p.2 * F p.1) d
theorem wt_put (F : List Nat → Nat) (k : List Nat) (v : Nat) : ∀ d : Dc, wt F (put d k v) + look d k * F k = wt F d + v * F k
  | [] => by simp [put, look, wt, sm]
  | p :: d => by
    have ih := wt_put F k v d
    unfold put look
    by_cases e : p.1 = k
    · rw [if_pos e, if_pos e]
      simp only [wt, sm]
      rw [e]
      omega
    · rw [if_neg e, if_neg e]
      simp only [wt, sm] at ih ⊢
      omega
theorem put_keys (k : List Nat) (v : Nat) : ∀ d : Dc, ∀ x, x ∈ (put d k v).map (·.1) ↔ x = k ∨ x ∈ d.map (·.1)
  | [], x => by simp [put]
  | p :: d, x => by
    have ih := put_keys k v d x
    unfold put
    by_cases e : p.1 = k
    · rw [if_pos e]; simp [e]
    · rw [if_neg e]
      simp only [List.map_cons, List.mem_cons, ih]
      constructor
      · rintro (h | h | h)
        · exact .inr (.inl h)
        · exact .inl h
        · exact .inr (.inr h)
      · rintro (h | h | h)
        · exact .inr (.inl h)
        · exact .inl h
        · exact .inr (.inr h)
theorem put_nodup (k : List Nat) (v : Nat) : ∀ {d : Dc}, (d.map (·.1)).Nodup → ((put d k v).map (·.1)).Nodup
  | [], _ => by simp [put]
  | p :: d, h => by
    rw [List.map_cons, List.nodup_cons] at h
    unfold put
    by_cases e : p.1 = k
    · rw [if_pos e, List.map_cons, List.nodup_cons]
      exact ⟨by rw [← e]; exact h.1, h.2⟩
    · rw [if_neg e, List.map_cons, List.nodup_cons]
      refine ⟨fun hm => ?_, put_nodup k v h.2⟩
      rcases (put_keys k v d p.1).mp hm with q | q
      · exact e q
      · exact h.1 q
theorem put_vals (k : List Nat) (v : Nat) (P : Nat → Prop) (hv : P v) : ∀ {d : Dc}, (∀ p, p ∈ d → P p.2) → ∀ p, p ∈ put d k v → P p.2
  | [], _, p, hp => by simp [put] at hp; rw [hp]; exact hv
  | q :: d, h, p, hp => by
    unfold put at hp
    by_cases e : q.1 = k
    · rw [if_pos e] at hp
      rcases List.mem_cons.mp hp with rfl | hp
      · exact hv
      · exact h p (by simp [hp])
    · rw [if_neg e] at hp
      rcases List.mem_cons.mp hp with rfl | hp
      · exact h _ (by simp)
      · exact put_vals k v P hv (fun x hx => h x (by simp [hx])) p hp
/-- one kind of things at one state -/
def stepT (m : Nat) (l : List Nat) (w : Nat) (f : Dc) (t : Nat) : Dc :=
  if 0 < at0 l t then put f (less l t) ((look f (less l t) + w * at0 l t) % m) else f
def stepR (m : Nat) (r : List Nat) (f : Dc) (p : List Nat × Nat) : Dc := r.foldl (stepT m p.1 p.2) f
def stepA (m : Nat) (r : List Nat) (d : Dc) : Dc := d.foldl (stepR m r) []
def stepsA (m : Nat) (rs : List (List Nat)) (d : Dc) : Dc := rs.foldl (fun d r => stepA m r d) d
theorem mod_lem {a b c o v x m : Nat} (h : a + o * c = b + (v % m) * c) (hv : v = o + x) : a % m = (b + x * c) % m := by
  subst hv
  have h1 : (a + o * c) % m = (b + x * c + o * c) % m := by
    rw [h, Nat.add_mod, Nat.mod_mul_mod, ← Nat.add_mod, Nat.add_mul]
    congr 1
    omega
  have key : ∀ y z k : Nat, (y + k) % m = (z + k) % m → y % m = z % m := by
    intro y z k e
    by_cases hm : m = 0
    · subst hm; simp only [Nat.mod_zero] at e ⊢; omega
    · have e2 : (y + k + (m - k % m)) % m = (z + k + (m - k % m)) % m := by rw [Nat.add_mod, e, ← Nat.add_mod]
      have hk : k % m < m := Nat.mod_lt _ (by omega)
      have hd := Nat.div_add_mod k m
      have p : ∀ y, y + k + (m - k % m) = y + m * (k / m + 1) := by
        intro y; rw [Nat.mul_add]; omega
      rw [p, p, Nat.add_mul_mod_self_left, Nat.add_mul_mod_self_left] at e2
      exact e2
  exact key _ _ _ h1
theorem wt_stepT (F : List Nat → Nat) (m : Nat) (l : List Nat) (w : Nat) (f : Dc) (t : Nat) :
    wt F (stepT m l w f t) % m = (wt F f + w * at0 l t * F (less l t)) % m := by
  unfold stepT
  by_cases h : 0 < at0 l t
  · rw [if_pos h]
    exact mod_lem (wt_put F (less l t) ((look f (less l t) + w * at0 l t) % m) f) rfl
  · rw [if_neg h]
    have z : at0 l t = 0 := by omega
    simp [z]
theorem wt_stepR (F : List Nat → Nat) (m : Nat) (p : List Nat × Nat) : ∀ (r : List Nat) (f : Dc),
    wt F (stepR m r f p) % m = (wt F f + p.2 * sm (fun t => at0 p.1 t * F (less p.1 t)) r) % m
  | [], f => by simp [stepR, sm]
  | t :: r, f => by
    have ih := wt_stepR F m p r (stepT m p.1 p.2 f t)
    have e : stepR m (t :: r) f p = stepR m r (stepT m p.1 p.2 f t) p := rfl
    rw [e, ih, Nat.add_mod, wt_stepT, ← Nat.add_mod]
    simp only [sm, Nat.mul_add, Nat.mul_assoc]
    congr 1
    omega
theorem wt_stepF (m : Nat) (rs : List (List Nat)) (r : List Nat) : ∀ (d f : Dc),
    wt (N rs) (d.foldl (stepR m r) f) % m = (wt (N rs) f + wt (N (r :: rs)) d) % m
  | [], f => by simp [wt, sm]
  | p :: d, f => by
    have ih := wt_stepF m rs r d (stepR m r f p)
    rw [List.foldl_cons, ih, Nat.add_mod, wt_stepR, ← Nat.add_mod]
    have e : wt (N (r :: rs)) (p :: d) = p.2 * sm (fun t => at0 p.1 t * N rs (less p.1 t)) r + wt (N (r :: rs)) d := rfl
    rw [e]
    congr 1
    omega
theorem wt_stepA (m : Nat) (rs : List (List Nat)) (r : List Nat) (d : Dc) : wt (N rs) (stepA m r d) % m = wt (N (r :: rs)) d % m := by
  unfold stepA
  rw [wt_stepF]
  simp [wt, sm]
theorem wt_stepsA (m : Nat) : ∀ (rs : List (List Nat)) (d : Dc), wt (N []) (stepsA m rs d) % m = wt (N rs) d % m
  | [], _ => rfl
  | r :: rs, d => by
    have e : stepsA m (r :: rs) d = stepsA m rs (stepA m r d) := rfl
    rw [e, wt_stepsA m rs, wt_stepA]
/-- what kinds_many hands back -/
def many (m : Nat) (rs : List (List Nat)) (things : List Nat) : Nat := sm (fun p => p.2) (stepsA m rs [(things, 1 % m)]) % m
theorem many_eq (m : Nat) (rs : List (List Nat)) (things : List Nat) : many m rs things = N rs things % m := by
  unfold many
  have e : sm (fun p : List Nat × Nat => p.2) (stepsA m rs [(things, 1 % m)]) = wt (N []) (stepsA m rs [(things, 1 % m)]) := by
    unfold wt
    exact sm_eq fun p _ => by simp [N]
  rw [e, wt_stepsA]
  simp only [wt, sm, Nat.add_zero]
  rw [Nat.mod_mul_mod, Nat.one_mul]
/-! ### states lie in a box -/
def box : List Nat → List (List Nat)
  | [] => [[]]
  | n :: ns => (List.range (n + 1)).flatMap fun x => (box ns).map (x :: ·)
def vol : List Nat → Nat
  | [] => 1
  | n :: ns => (n + 1) * vol ns
theorem len_const {α β : Type} (g : α → List β) (c : Nat) (hc : ∀ a, (g a).length = c) : ∀ l : List α, (l.flatMap g).length = l.length * c
  | [] => by simp
  | a :: l => by rw [List.flatMap_cons, List.length_append, hc, len_const g c hc l, List.length_cons, Nat.add_mul]; omega
theorem box_len : ∀ ns : List Nat, (box ns).length = vol ns
  | [] => rfl
  | n :: ns => by
    unfold box vol
    rw [len_const _ (vol ns) (fun a => by rw [List.length_map, box_len ns]), List.length_range]
/-- a state: as many kinds, of each at most as many -/
def inBox (l ns : List Nat) : Prop := l.length = ns.length ∧ ∀ t, at0 l t ≤ at0 ns t
theorem mem_box : ∀ {ns l : List Nat}, inBox l ns → l ∈ box ns
  | [], l, h => by
    have e : l = [] := List.length_eq_zero_iff.mp h.1
    subst e; simp [box]
  | n :: ns, [], h => by have := h.1; simp at this
  | n :: ns, x :: l, h => by
    have h0 := h.2 0
    have hr : inBox l ns := ⟨by have := h.1; simpa using this, fun t => by have := h.2 (t + 1); simpa [at0] using this⟩
    unfold box
    rw [List.mem_flatMap]
    refine ⟨x, List.mem_range.mpr ?_, List.mem_map.mpr ⟨l, mem_box hr, rfl⟩⟩
    simp [at0] at h0
    omega
theorem nodup_le {α : Type} [DecidableEq α] : ∀ {l m : List α}, l.Nodup → (∀ x, x ∈ l → x ∈ m) → l.length ≤ m.length
  | [], _, _, _ => Nat.zero_le _
  | a :: l, m, hn, hs => by
    rw [List.nodup_cons] at hn
    have ha : a ∈ m := hs a (by simp)
    have ih := nodup_le (l := l) (m := m.erase a) hn.2 fun x hx => by
      have ne : x ≠ a := fun e => hn.1 (e ▸ hx)
      exact (List.mem_erase_of_ne ne).mpr (hs x (by simp [hx]))
    have hl := List.length_erase_of_mem ha
    have hp : 0 < m.length := List.length_pos_of_mem ha
    rw [List.length_cons]
    omega
theorem inBox_self (ns : List Nat) : inBox ns ns := ⟨rfl, fun _ => Nat.le_refl _⟩
theorem inBox_less {l ns : List Nat} (h : inBox l ns) (t : Nat) : inBox (less l t) ns :=
  ⟨by rw [less_len]; exact h.1, fun u => by have := h.2 u; rw [at0_less]; omega⟩
/-- a dict of states: each once, all in the box -/
structure Good (ns : List Nat) (d : Dc) : Prop where
  nd : (d.map (·.1)).Nodup
  bx : ∀ p, p ∈ d → inBox p.1 ns
theorem Good.len {ns : List Nat} {d : Dc} (g : Good ns d) : d.length ≤ vol ns := by
  have h := nodup_le (m := box ns) g.nd fun x hx => by
    obtain ⟨p, hp, rfl⟩ := List.mem_map.mp hx
    exact mem_box (g.bx p hp)
  rw [List.length_map, box_len] at h
  exact h
theorem Good.nil (ns : List Nat) : Good ns [] := ⟨by simp, fun p hp => by simp at hp⟩
theorem Good.put {ns : List Nat} {d : Dc} (g : Good ns d) {k : List Nat} (hk : inBox k ns) (v : Nat) : Good ns (put d k v) := by
  refine ⟨put_nodup k v g.nd, fun p hp => ?_⟩
  have hm : p.1 ∈ (FR.put d k v).map (·.1) := List.mem_map.mpr ⟨p, hp, rfl⟩
  rcases (put_keys k v d p.1).mp hm with q | q
  · rw [q]; exact hk
  · obtain ⟨z, hz, e⟩ := List.mem_map.mp q
    rw [← e]; exact g.bx z hz
theorem Good.stepT {ns : List Nat} {f : Dc} (g : Good ns f) {l : List Nat} (hl : inBox l ns) (m w t : Nat) : Good ns (stepT m l w f t) := by
  unfold FR.stepT
  by_cases h : 0 < at0 l t
  · rw [if_pos h]; exact g.put (inBox_less hl t) _
  · rw [if_neg h]; exact g
theorem Good.stepR {ns : List Nat} {p : List Nat × Nat} (hl : inBox p.1 ns) (m : Nat) : ∀ (r : List Nat) {f : Dc}, Good ns f → Good ns (stepR m r f p)
  | [], _, g => g
  | t :: r, _, g => Good.stepR hl m r (g.stepT hl m p.2 t)
theorem Good.stepF {ns : List Nat} (m : Nat) (r : List Nat) : ∀ (d : Dc) {f : Dc}, (∀ p, p ∈ d → inBox p.1 ns) → Good ns f → Good ns (d.foldl (FR.stepR m r) f)
  | [], _, _, g => g
  | p :: d, _, h, g => Good.stepF m r d (fun q hq => h q (by simp [hq])) (Good.stepR (h p (by simp)) m r g)
theorem Good.stepA {ns : List Nat} {d : Dc} (g : Good ns d) (m : Nat) (r : List Nat) : Good ns (stepA m r d) := Good.stepF m r d g.bx (Good.nil ns)
/-! ### the dealings, listed -/
def longer (row : List Nat) (found : List (List Nat)) : List (List Nat) := found.flatMap fun told => (row.filter fun x => decide (x ∉ told)).map fun x => told ++ [x]
def allD (rows : List (List Nat)) : List (List Nat) := rows.foldl (fun f r => longer r f) [[]]
/-- the row of somebody who may get the kinds r, the things' kinds W -/
def rowOf (W r : List Nat) : List Nat := (List.range W.length).filter fun k => decide (at0 W k ∈ r)
def bit (p : Prop) [Decidable p] : Nat := if p then 1 else 0
def left (W : List Nat) (n : Nat) (told : List Nat) : List Nat := (List.range n).map fun t => sm (fun k => bit (k ∉ told ∧ at0 W k = t)) (List.range W.length)
theorem at0_map (f : Nat → Nat) (n t : Nat) : at0 ((List.range n).map f) t = if t < n then f t else 0 := by
  unfold at0
  rw [List.getD_eq_getElem?_getD, List.getElem?_map]
  by_cases h : t < n
  · rw [List.getElem?_range h, if_pos h]; rfl
  · rw [if_neg h, List.getElem?_eq_none (by simp; omega)]; rfl
theorem sm_filter {α : Type} (f : α → Nat) (p : α → Bool) : ∀ l : List α, sm f (l.filter p) = sm (fun a => if p a = true then f a else 0) l
  | [] => rfl
  | a :: l => by
    rw [List.filter_cons]
    by_cases h : p a = true
    · rw [if_pos h]; simp only [sm, sm_filter f p l, if_pos h]
    · rw [if_neg h]; simp only [sm, sm_filter f p l, if_neg h]; omega
theorem sm_bit {x : Nat} (G : Nat → Nat) : ∀ {r : List Nat}, r.Nodup → sm (fun t => bit (x = t) * G t) r = if x ∈ r then G x else 0
  | [], _ => by simp [sm]
  | t :: r, h => by
    rw [List.nodup_cons] at h
    simp only [sm]
    rw [sm_bit G h.2]
    by_cases e : x = t
    · subst e
      simp [bit, h.1]
    · simp [bit, e]
theorem sm_kinds (q : Nat → Prop) [DecidablePred q] (c G : Nat → Nat) {r : List Nat} (hr : r.Nodup) : ∀ ks : List Nat,
    sm (fun k => if q k ∧ c k ∈ r then G (c k) else 0) ks = sm (fun t => sm (fun k => bit (q k ∧ c k = t)) ks * G t) r
  | [] => by simp only [sm, Nat.zero_mul, sm_none]
  | k :: ks => by
    simp only [sm, Nat.add_mul]
    rw [sm_plus, sm_kinds q c G hr ks]
    congr 1
    by_cases h : q k
    · simp only [h, true_and]
      rw [sm_bit G hr]
    · simp only [h, false_and, if_false]
      have : (fun t => bit False * G t) = fun _ => 0 := by funext t; simp [bit]
      rw [this, sm_none]
theorem sm_only (k0 : Nat) (f : Nat → Nat) : ∀ {ks : List Nat}, ks.Nodup → k0 ∈ ks → sm (fun k => if k = k0 then f k else 0) ks = f k0
  | [], _, h => by simp at h
  | k :: ks, hn, h => by
    rw [List.nodup_cons] at hn
    simp only [sm]
    by_cases e : k = k0
    · subst e
      have z : sm (fun j => if j = k then f j else 0) ks = 0 := by
        rw [sm_eq (g := fun _ => 0) fun a ha => if_neg (fun q : a = k => hn.1 (by rw [← q]; exact ha)), sm_none]
      rw [z, if_pos rfl]; rfl
    · rw [if_neg e, sm_only k0 f hn.2 (by simpa [Ne.symm e] using h)]; omega
theorem left_next {W : List Nat} {n : Nat} {told : List Nat} {k0 : Nat} (h : k0 < W.length) (hk : k0 ∉ told) :
    left W n (told ++ [k0]) = less (left W n told) (at0 W k0) := by
  apply lists_eq
  · rw [less_len]; unfold left; simp
  · intro t
    rw [at0_less]
    unfold left
    rw [at0_map, at0_map]
    by_cases ht : t < n
    · rw [if_pos ht, if_pos ht]
      have e : sm (fun k => bit (k ∉ told ∧ at0 W k = t)) (List.range W.length) =
          sm (fun k => bit (k ∉ told ++ [k0] ∧ at0 W k = t)) (List.range W.length) + bit (at0 W k0 = t) := by
        rw [← sm_only k0 (fun k => bit (at0 W k = t)) List.nodup_range (List.mem_range.mpr h), ← sm_plus]
        refine sm_eq fun k _ => ?_
        by_cases e : k = k0
        · subst e; simp [bit, hk]
        · simp [bit, e]
      rw [e]
      unfold bit
      omega
    · rw [if_neg ht, if_neg ht]; omega
theorem step_list {W : List Nat} {n : Nat} (rs : List (List Nat)) {r : List Nat} (hr : r.Nodup) (hb : ∀ t, t ∈ r → t < n) (told : List Nat) :
    sm (fun t => N rs (left W n t)) (((rowOf W r).filter fun x => decide (x ∉ told)).map fun x => told ++ [x]) = N (r :: rs) (left W n told) := by
  rw [sm_map, sm_filter]
  unfold rowOf
  rw [sm_filter]
  have e1 : sm (fun a => if decide (at0 W a ∈ r) = true then if decide (a ∉ told) = true then N rs (left W n (told ++ [a])) else 0 else 0) (List.range W.length) =
      sm (fun k => if k ∉ told ∧ at0 W k ∈ r then N rs (less (left W n told) (at0 W k)) else 0) (List.range W.length) := by
    refine sm_eq fun k hk => ?_
    have hk' : k < W.length := List.mem_range.mp hk
    by_cases h1 : at0 W k ∈ r <;> by_cases h2 : k ∈ told
    · simp [h1, h2]
    · simp [h1, h2, left_next (n := n) hk' h2]
    · simp [h1, h2]
    · simp [h1, h2]
  rw [e1, sm_kinds (fun k => k ∉ told) (at0 W) (fun t => N rs (less (left W n told) t)) hr]
  show _ = sm (fun t => at0 (left W n told) t * N rs (less (left W n told) t)) r
  refine sm_eq fun t ht => ?_
  congr 1
  unfold left
  rw [at0_map, if_pos (hb t ht)]
theorem longer_sum {W : List Nat} {n : Nat} (rs : List (List Nat)) {r : List Nat} (hr : r.Nodup) (hb : ∀ t, t ∈ r → t < n) (found : List (List Nat)) :
    sm (fun t => N rs (left W n t)) (longer (rowOf W r) found) = sm (fun t => N (r :: rs) (left W n t)) found := by
  unfold longer
  rw [sm_flat]
  exact sm_eq fun told _ => step_list rs hr hb told
theorem foldl_sum {W : List Nat} {n : Nat} : ∀ (rs : List (List Nat)) (found : List (List Nat)), (∀ r, r ∈ rs → r.Nodup ∧ ∀ t, t ∈ r → t < n) →
    ((rs.map (rowOf W)).foldl (fun f r => longer r f) found).length = sm (fun t => N rs (left W n t)) found
  | [], found, _ => by simp only [List.map_nil, List.foldl_nil, N, sm_one]
  | r :: rs, found, h => by
    rw [List.map_cons, List.foldl_cons, foldl_sum rs _ fun q hq => h q (by simp [hq])]
    exact longer_sum rs (h r (by simp)).1 (h r (by simp)).2 found
/-- kind by kind -/
def spreadF : Nat → List Nat → List Nat
  | _, [] => []
  | k, n :: ns => List.replicate n k ++ spreadF (k + 1) ns
abbrev spread (ns : List Nat) : List Nat := spreadF 0 ns
theorem sm_rep {α : Type} (f : α → Nat) (a : α) : ∀ n : Nat, sm f (List.replicate n a) = n * f a
  | 0 => by simp [sm]
  | n + 1 => by simp only [List.replicate_succ, sm, sm_rep f a n, Nat.add_mul]; omega
theorem sm_spread (t : Nat) : ∀ (ns : List Nat) (k : Nat), sm (fun x => bit (x = t)) (spreadF k ns) = if k ≤ t then at0 ns (t - k) else 0
  | [], k => by simp [spreadF, sm, at0]
  | n :: ns, k => by
    unfold spreadF
    rw [sm_app, sm_rep, sm_spread t ns (k + 1)]
    by_cases h : k = t
    · subst h
      rw [if_neg (by omega), if_pos (Nat.le_refl _)]
      simp [bit, at0]
    · by_cases h2 : k + 1 ≤ t
      · have e : t - k = (t - (k + 1)) + 1 := by omega
        rw [if_pos h2, if_pos (by omega), e]
        simp [bit, h, at0]
      · rw [if_neg h2, if_neg (by omega)]
        simp [bit, h]
theorem spread_len : ∀ (ns : List Nat) (k : Nat), (spreadF k ns).length = ns.sum
  | [], _ => rfl
  | n :: ns, k => by unfold spreadF; rw [List.length_append, List.length_replicate, spread_len ns, List.sum_cons]
theorem spread_lt : ∀ (ns : List Nat) (k x : Nat), x ∈ spreadF k ns → x < k + ns.length
  | [], _, _, h => by simp [spreadF] at h
  | n :: ns, k, x, h => by
    unfold spreadF at h
    rcases List.mem_append.mp h with h | h
    · have := List.eq_of_mem_replicate h; simp; omega
    · have := spread_lt ns (k + 1) x h; simp; omega
theorem range_at0 (W : List Nat) : (List.range W.length).map (at0 W) = W := by
  apply List.ext_getElem
  · simp
  · intro i h1 h2
    simp [at0, h2]
theorem left_start (things : List Nat) : left (spread things) things.length [] = things := by
  apply lists_eq
  · unfold left; simp
  · intro t
    unfold left
    rw [at0_map]
    have e : sm (fun k => bit (k ∉ ([] : List Nat) ∧ at0 (spread things) k = t)) (List.range (spread things).length) = sm (fun x => bit (x = t)) (spread things) := by
      conv => rhs; rw [← range_at0 (spread things)]
      rw [sm_map]
      exact sm_eq fun k _ => by simp [bit]
    rw [e, sm_spread]
    by_cases h : t < things.length
    · simp [h]
    · have z : at0 things t = 0 := by unfold at0; rw [List.getD_eq_getElem?_getD, List.getElem?_eq_none (Nat.le_of_not_lt h)]; rfl
      simp [h, z]
/-- THE LISTED DEALINGS are as many as the states tell -/
theorem allD_len (things : List Nat) (rs : List (List Nat)) (h : ∀ r, r ∈ rs → r.Nodup ∧ ∀ t, t ∈ r → t < things.length) :
    (allD (rs.map (rowOf (spread things)))).length = N rs things := by
  unfold allD
  rw [foldl_sum (n := things.length) rs _ h]
  simp only [sm, Nat.add_zero, left_start]
theorem longer_le (row : List Nat) (c : Nat) (hc : row.length ≤ c) : ∀ found : List (List Nat), (longer row found).length ≤ found.length * c
  | [] => by simp [longer]
  | told :: found => by
    have ih := longer_le row c hc found
    have e : longer row (told :: found) = ((row.filter fun x => decide (x ∉ told)).map fun x => told ++ [x]) ++ longer row found := rfl
    rw [e, List.length_append, List.length_map, List.length_cons, Nat.add_mul]
    have := List.length_filter_le (fun x => decide (x ∉ told)) row
    omega
/-! ### orders -/
def fact : Nat → Nat
  | 0 => 1
  | n + 1 => (n + 1) * fact n
def fall : Nat → Nat → Nat
  | _, 0 => 1
  | s, n + 1 => s * fall (s - 1) n
theorem fall_fact : ∀ (a n : Nat), a ≤ n → fall n a * fact (n - a) = fact n
  | 0, n, _ => by simp [fall]
  | a + 1, 0, h => by omega
  | a + 1, n + 1, h => by
    have ih := fall_fact a n (by omega)
    have e : n + 1 - (a + 1) = n - a := by omega
    rw [e]
    show (n + 1) * fall n a * fact (n - a) = (n + 1) * fact n
    rw [Nat.mul_assoc, ih]
theorem fall_self (n : Nat) : fall n n = fact n := by
  have h := fall_fact n n (Nat.le_refl n)
  rw [Nat.sub_self] at h
  simpa [fact] using h
theorem N_one (t : Nat) (rs : List (List Nat)) : ∀ (a : Nat) (l : List Nat), N (List.replicate a [t] ++ rs) l = fall (at0 l t) a * N rs (l.set t (at0 l t - a))
  | 0, l => by
    have e : l.set t (at0 l t - 0) = l := by
      apply lists_eq (by simp)
      intro u
      rw [at0_set]
      by_cases h : t = u ∧ t < l.length
      · rw [if_pos h, h.1]; rfl
      · rw [if_neg h]
    rw [e]; simp [fall]
  | a + 1, l => by
    rw [List.replicate_succ, List.cons_append]
    show at0 l t * N (List.replicate a [t] ++ rs) (less l t) + 0 = _
    rw [N_one t rs a (less l t), at0_less, if_pos rfl]
    have e : (less l t).set t (at0 l t - 1 - a) = l.set t (at0 l t - (a + 1)) := by
      unfold less
      rw [List.set_set]
      congr 1
      omega
    rw [e]
    show _ = at0 l t * fall (at0 l t - 1) a * _
    rw [Nat.mul_assoc]
    rfl
theorem sm_less {l : List Nat} {t : Nat} (h : 0 < at0 l t) : ∀ {r : List Nat}, r.Nodup → t ∈ r → sm (at0 (less l t)) r + 1 = sm (at0 l) r
  | [], _, hm => by simp at hm
  | u :: r, hn, hm => by
    rw [List.nodup_cons] at hn
    simp only [sm]
    rw [at0_less]
    by_cases e : t = u
    · subst e
      have z : sm (at0 (less l t)) r = sm (at0 l) r := sm_eq fun x hx => by
        rw [at0_less, if_neg (fun q : t = x => hn.1 (by rw [q]; exact hx))]; rfl
      rw [z, if_pos rfl]; omega
    · rw [if_neg e]
      have := sm_less h hn.2 (by simpa [e] using hm)
      omega
theorem N_all {r : List Nat} (hr : r.Nodup) : ∀ (a : Nat) (l : List Nat), N (List.replicate a r) l = fall (sm (at0 l) r) a
  | 0, _ => rfl
  | a + 1, l => by
    rw [List.replicate_succ]
    show sm (fun t => at0 l t * N (List.replicate a r) (less l t)) r = sm (at0 l) r * fall (sm (at0 l) r - 1) a
    rw [← sm_mulr]
    refine sm_eq fun t ht => ?_
    by_cases h : 0 < at0 l t
    · rw [N_all hr a (less l t)]
      have := sm_less h hr ht
      have e : sm (at0 (less l t)) r = sm (at0 l) r - 1 := by omega
      rw [e]
    · have z : at0 l t = 0 := by omega
      rw [z]; simp
theorem great_one (n : Nat) : N (List.replicate n [0]) [n] = fact n := by
  rw [N_all (by simp), ← fall_self]; rfl
theorem great_apart (f o : Nat) : N (List.replicate f [0] ++ List.replicate o [1]) [f, o] = fact f * fact o := by
  rw [N_one]
  have e : ([f, o] : List Nat).set 0 (at0 [f, o] 0 - f) = [f - f, o] := rfl
  rw [e, N_all (by simp)]
  have e2 : sm (at0 [f - f, o]) [1] = o := by simp [sm, at0]
  rw [e2, fall_self]
  show fall f f * _ = _
  rw [fall_self]
theorem great_wide (f o : Nat) : N (List.replicate f [0, 1] ++ List.replicate o [0, 1]) [o, f] = fact (f + o) := by
  rw [List.replicate_append_replicate, N_all (by simp)]
  have e2 : sm (at0 [o, f]) [0, 1] = f + o := by simp [sm, at0]; omega
  rw [e2, fall_self]
theorem great_chosen (f o : Nat) (h : 1 ≤ o) : N (List.replicate f [0] ++ List.replicate o [0, 1]) [f + o - 1, 1] = fact (f + o - 1) * o := by
  rw [N_one]
  have e : ([f + o - 1, 1] : List Nat).set 0 (at0 [f + o - 1, 1] 0 - f) = [f + o - 1 - f, 1] := rfl
  rw [e, N_all (by simp)]
  have e2 : sm (at0 [f + o - 1 - f, 1]) [0, 1] = o := by simp [sm, at0]; omega
  rw [e2, fall_self]
  show fall (f + o - 1) f * fact o = _
  obtain ⟨p, rfl⟩ : ∃ p, o = p + 1 := ⟨o - 1, by omega⟩
  have h1 := fall_fact f (f + (p + 1) - 1) (by omega)
  have e3 : f + (p + 1) - 1 - f = p := by omega
  rw [e3] at h1
  rw [← h1]
  show _ * ((p + 1) * fact p) = _
  rw [Nat.mul_assoc, Nat.mul_comm (p + 1) (fact p)]
theorem great_three : N (List.replicate 48 [0, 1, 2]) [16, 16, 16] = fact 48 := by
  rw [N_all (by simp), ← fall_self]; rfl
end FR

/-! for k, v in d.items(), d a dict with tuple keys -/
namespace FR
open PySem PySem.Spec PyProof.Rows L2
/-- the pairs of the locked dict at d, tuple keys, each pair a new tuple -/
def ItiT (d : Addr) (o : Obj) (kvs : List (List L2.Key × V)) : It where
  go := fun i H => H d = some (.frz o (.dT kvs)) ∧ i < kvs.length
  yld := fun i H x H' => ∃ (T q : Addr) (k : List L2.Key) (v : V), kvs[i]? = some (k, v) ∧ x = .ref T ∧ H T = none ∧ H q = some (.tup (k.map kV)) ∧ H' = upd H T (.tup [.ref q, v])
  stop := fun i H => H d = some (.frz o (.dT kvs)) ∧ kvs.length ≤ i
theorem frzT_full {X : Cx} {pins : List (Addr × Obj)} {σ : L2.St} {H : Hp} {s : Shared} {d : Addr} {o : Obj} {kvs : List (List L2.Key × V)}
    (I : Inv X pins σ H s) (h : H d = some (.frz o (.dT kvs))) :
    (d == sysModules) = false ∧ s.heap.get? d = some o ∧ o.ExactDict ∧ ∃ (es : Array DictEntry) (ep : Nat), o.data = .dict es ep ∧ es.size = kvs.length ∧
      ∀ (i : Nat) (k : List L2.Key) (v : V), kvs[i]? = some (k, v) → ∃ (en : DictEntry) (q : Addr), es[i]? = some en ∧ en.key = .ref q ∧ H q = some (.tup (k.map kV)) ∧ RelV v en.val := by
  obtain ⟨hd, z, hs, xs, pr, o', es, ep, ho, hx, hdt, he, _⟩ := I.hok d _ h
  have same := hd.symm.trans ho
  cases same
  have l1 : es.size = xs.length := by
    have := congrArg List.length he
    simpa using this
  have l2 : kvs.length = xs.length := Paired.length pr
  refine ⟨hs, hd, hx, es, ep, hdt, by omega, fun i k v e => ?_⟩
  obtain ⟨b, hb, e1, e2, e3⟩ := paired_get pr e
  have hen : es.toList[i]? = some (entryOfKey (tupleKind (mixKind X.prog X.w)) b) := by rw [he, List.getElem?_map, hb]; rfl
  have hen' : es[i]? = some (entryOfKey (tupleKind (mixKind X.prog X.w)) b) := by rw [← Array.getElem?_toList]; exact hen
  exact ⟨_, b.2.1, hen', rfl, e2, e3⟩
section
variable {P : Program} {w : World} {K : PySem.W.Frag} {d : Addr} {o : Obj} {es : Array DictEntry} {ep : Nat}
theorem turn_itemsT {kvs : List (List L2.Key × V)} {elts : List Expr} {kk : Nat} {tpos : Pos} (it : Addr) (hx0 : o.ExactDict) (hod : o.data = .dict es ep) (hsz : es.size = kvs.length) :
    Turn P w K (.Tuple elts kk tpos) (ItiT d o kvs) [it] it (fun i h => ∃ ok ov, IsItemIter h it d i es.size ep ok ov) where
  mem := by simp
  obj := fun i h st b hb => by
    obtain ⟨ok, ov, e⟩ := st
    rcases List.mem_singleton.mp hb with rfl
    exact ⟨_, e, fun v z => nomatch z⟩
  keep := fun i h h' ⟨ok, ov, e⟩ k => ⟨ok, ov, k it (List.mem_singleton.mpr rfl) _ e⟩
  item := by
    intro X hP hw hK hc i pins s σ H E I hf st hg
    subst hP hw hK
    obtain ⟨hd, hi⟩ := hg
    obtain ⟨hs, hgd, hx, es', ep', hdt, hsz', ent⟩ := frzT_full I hd
    obtain ⟨rfl, rfl⟩ := dict_ep hod hdt
    obtain ⟨⟨k, v⟩, hkv⟩ : ∃ p, kvs[i]? = some p := ⟨kvs[i], List.getElem?_eq_getElem hi⟩
    obtain ⟨en, q, hen, hkey, hq, rv⟩ := ent i k v hkv
    obtain ⟨ok, ov, he⟩ := st
    have hi' : i < es'.size := by omega
    have eget : es'[i] = en := by
      have := Array.getElem?_eq_getElem hi'
      rw [this] at hen
      exact Option.some.inj hen
    have hlt : it < s.heap.objs.size := Heap.lt_size he
    refine wpAny_pyNext_items_item_raw he ⟨o, hgd, hx, hdt⟩ hi' fun h' ho hT hz hk => ⟨_, rfl, wpAny_letOwnedTupleGo_items (s := { s with heap := h' }) ho fun h'' he' sb => ?_⟩
    rw [eget] at hT
    have hT2 : h''.get? s.heap.objs.size = some { cls := .type "tuple", data := .seq #[en.key, en.val] } := (sb.2 _ (Nat.ne_of_gt hlt)).trans hT
    have new : ObjOk X.prog X.w (upd H s.heap.objs.size (.tup [.ref q, v])) h'' s.heap.objs.size (.tup [.ref q, v]) :=
      ⟨(by show 2 ≤ sizeLine; decide), [en.key, en.val], .cons hkey (.cons rv .nil), ⟨_, hT2, rfl, _, rfl⟩⟩
    have I1 : Inv X pins σ (upd H s.heap.objs.size (.tup [.ref q, v])) { s with heap := h'' } :=
      I.turnedNew (t' := s.toks) (ch := [it]) (fun b ob hb e => (sb.2 b fun z => hb (List.mem_singleton.mpr z)).trans (hk b ob (fun z => hb (List.mem_singleton.mpr z)) e)) hf (Nat.le_refl _) new
    refine ⟨.ref s.heap.objs.size, _, I1, rfl, ⟨_, q, k, v, hkv, rfl, I.hok.fresh (Nat.le_refl _), hq, rfl⟩, ⟨_, _, he'⟩, fun b hb => ?_⟩
    rcases List.mem_singleton.mp hb with rfl
    rw [upd_ne (Nat.ne_of_lt hlt)]
    exact (hf _ hb).1
  done := by
    intro X hP hw hK hc i pins s σ H E I hf st hg
    subst hP hw hK
    obtain ⟨hd, hi⟩ := hg
    obtain ⟨f0, f1, f2, f3, f4, f5⟩ := hf it (List.mem_singleton.mpr rfl)
    obtain ⟨hs, hgd, hx, es', ep', hdt, hsz', ent⟩ := frzT_full I hd
    obtain ⟨rfl, rfl⟩ := dict_ep hod hdt
    obtain ⟨ok, ov, he⟩ := st
    exact wpAny_pyNext_items_end_raw (I.ok.hd hc) he ⟨o, hgd, hx, hdt⟩ (by omega) fun h' eb => ⟨rfl, I.turned (t' := s.toks) (fun b ob hb e => eb b ob hb e) f0 f1 f3 f4 f5⟩
  self := fun A i s Q E ⟨_, _, e⟩ h => PySem.W.kcp_self e h
end
/-- the dict is locked (tLock) -/
def iItemsT (td : TE) : TI := fun σ H R => td σ H fun x H1 => ∃ d o kvs, x = .ref d ∧ H1 d = some (.frz o (.dT kvs)) ∧ R (ItiT d o kvs) H1
theorem pi_itemsT {X : Cx} {e : Expr} {td : TE} {apos cpos : Pos} {elts : List Expr} {kk : Nat} {tpos : Pos} (he : PE X e td)
    (hbase : attributeBase e "items" X.env (eval e X.env) = eval e X.env := by rfl) (hline : (apos.endLine == cpos.line) = true := by rfl) :
    PI X (.Tuple elts kk tpos) (.Call (.Attribute e "items" apos) [] [] cpos) (iItemsT td) := by
  refine ⟨fun pins s σ H R I h => ?_⟩
  refine wpAny_Call_method (T := "dict") (id := "dict.items") hbase rfl hline F.plainAttrs_dict F.slot_dict_items F.type_dict_items (thn (he.run pins s σ H _ I h) fun u s1 hh => ?_)
  obtain ⟨x, H1, I1, rx, d, o, kvs, ex, hd, q⟩ := hh
  subst ex
  obtain rfl : u = Value.ref d := rx
  obtain ⟨hs, hgd, hx, es, ep, hdt, hsz, ent⟩ := frzT_full I1 hd
  have raw : s1.heap.DictRaw d es ep := ⟨o, hgd, hx, hdt⟩
  refine ⟨raw.typeIs, fun b eb => ?_, ?_⟩
  · cases eb
    exact ⟨o, hgd, hx.2.1⟩
  · have I2 : Inv X pins σ H1 { s1 with heap := s1.heap.push { cls := .type "dict_items", data := .fields #[.ref d] } } := I1.kept (t' := s1.toks) fun b ob q => Heap.get?_push_of_some _ q
    have fin : wpAny (model X.prog X.w) X.A (pyIter (.ref s1.heap.objs.size)) (PIE X pins σ (.Tuple elts kk tpos) R) X.xe { s1 with heap := s1.heap.push { cls := .type "dict_items", data := .fields #[.ref d] } } :=
      wpAny_pyIter_items_raw (d := d) (es := es) (ep := ep) ⟨_, Heap.get?_push_size _ rfl, rfl, rfl⟩ (raw.at fun o' e' => Heap.get?_push_of_some _ e')
        (pi_one (tk := s1.toks) I2 _ (turn_itemsT _ hx hdt hsz) ⟨.none, .none, Heap.get?_push_size _ rfl⟩ q)
    show wpAny _ _ (callWith cpos (.builtin "dict.items") [.ref d] [] []) _ X.xe s1
    exact method_meetsIn F.slot_dict_items F.entry_dict_items rfl (PySem.evalArgs_none ⟨rfl, raw.typeIs, F.args_dict_items_1 _, _, meets_dict_items_raw d hs, ⟨es, ep, raw⟩, fin⟩)
/-- the loop over a locked dict with tuple keys -/
theorem for_itemsT {d : Addr} {o : Obj} {kvs : List (List L2.Key × V)} {g : TG} {tb : TS} {D : Ends} {σ : L2.St} {H : Hp} (Pv : Nat → L2.St → Hp → Prop) (h0 : Pv 0 σ H)
    (hl : ∀ i σ H, i ≤ kvs.length → Pv i σ H → H d = some (.frz o (.dT kvs)))
    (hs : ∀ (i : Nat) (k : List L2.Key) (v : V) (T q : Addr) (σ : L2.St) (H : Hp), kvs[i]? = some (k, v) → Pv i σ H → H T = none → H q = some (.tup (k.map kV)) →
      g (.ref T) σ (upd H T (.tup [.ref q, v])) fun σ2 H2 => tb { D with nx := Pv (i + 1), ct := Pv (i + 1), bk := D.nx } σ2 H2)
    (hd : ∀ σ H, Pv kvs.length σ H → D.nx σ H) :
    ∃ W : Nat → Nat → L2.St → Hp → Prop, (∃ m, W 0 m σ H) ∧ ∀ i m σ H, W i m σ H →
      ((ItiT d o kvs).stop i H ∧ D.nx σ H) ∨ ((ItiT d o kvs).go i H ∧ ∃ N : L2.St → Hp → Prop, (∀ σ' H', N σ' H' → ∃ m', m' < m ∧ W (i + 1) m' σ' H') ∧
        ∀ x H', (ItiT d o kvs).yld i H x H' → g x σ H' fun σ2 H2 => tb { D with nx := N, ct := N, bk := D.nx } σ2 H2) := by
  refine ⟨fun i m σ H => m = kvs.length - i ∧ i ≤ kvs.length ∧ Pv i σ H, ⟨_, rfl, Nat.zero_le _, h0⟩, fun i m σ H hW => ?_⟩
  obtain ⟨rfl, hi, hp⟩ := hW
  have hH := hl i σ H hi hp
  by_cases e : i < kvs.length
  · refine .inr ⟨⟨hH, e⟩, Pv (i + 1), fun σ' H' hn => ⟨kvs.length - (i + 1), by omega, rfl, e, hn⟩, fun x H' hy => ?_⟩
    obtain ⟨T, q, k, v, hkv, rfl, hT, hq, rfl⟩ := hy
    exact hs i k v T q σ H hkv hp hT hq
  · have ei : i = kvs.length := by omega
    subst ei
    exact .inl ⟨⟨hH, Nat.le_refl _⟩, hd σ H hp⟩
end FR

/-! sum(d.values()) of a dict with tuple keys, sum(t) of a tuple -/
namespace FR
open PySem PySem.Spec PyProof.Rows L2
/-- the view d.values() at p -/
def valuesO (p d : Addr) : HO := .ext fun h => h.IsValuesView p d
section
variable {X : Cx}
theorem preSum_at (val : Nat → Int) : ∀ (ns : List Int), (∀ i n, ns[i]? = some n → val i = n) → preSum val ns.length = ns.sum := by
  intro ns
  have gen : ∀ (k : Nat), k ≤ ns.length → (∀ i n, ns[i]? = some n → val i = n) → preSum val k = (ns.take k).sum := by
    intro k
    induction k with
    | zero => intro _ _; simp [preSum]
    | succ k ih =>
      intro hk hv
      have hk' : k < ns.length := hk
      have e : ns.take (k + 1) = ns.take k ++ [ns[k]] := by rw [List.take_succ_eq_append_getElem hk']
      show preSum val k + val k = _
      rw [ih (Nat.le_of_lt hk') hv, hv k ns[k] (List.getElem?_eq_getElem hk'), e, List.sum_append]
      simp
  intro hv
  rw [gen ns.length (Nat.le_refl _) hv, List.take_length]
def rValuesT : V → List V → Hp → VK → Prop := fun x xs H Q => ∃ (a : Addr) (kvs : List (List L2.Key × V)), x = .ref a ∧ xs = [] ∧ H a = some (.dT kvs) ∧ ∀ p, H p = none → Q (.ref p) (upd H p (valuesO p a))
theorem mt_valuesT : MtR X "dict.values" rValuesT := by
  intro pins s σ H x xs v us Q I rx rxs h
  obtain ⟨a, kvs, rfl, rfl, ha, q⟩ := h
  cases rx
  cases rxs
  obtain ⟨z, hd, xs', rel, o, es, ep, ho, hx, hdat, _⟩ := dt_of I.hok ha
  have raw : s.heap.DictRaw a es ep := ⟨o, ho, hx, hdat⟩
  have hf : H s.heap.objs.size = none := I.hok.fresh (Nat.le_refl _)
  exact call_meetsIn F.slot_dict_values raw.typeIs F.entry_dict_values (F.args_dict_values_1 _) (meets_dict_values_raw a hd)
    ⟨⟨es, ep, raw⟩, .ref s.heap.objs.size, upd H s.heap.objs.size (valuesO s.heap.objs.size a),
      I.laid (t' := s.toks) (fun b u e => Heap.get?_push_of_some _ e) (Nat.le_refl _) ⟨⟨_, Heap.get?_push_size _ rfl, rfl, rfl⟩, ⟨_, Heap.get?_push_size _ rfl⟩, fun h1 h2 ⟨ob, e, r⟩ k => ⟨ob, k ob e, r⟩⟩, rfl, q _ hf⟩
/-- sum of such a view, the values whole numbers -/
def rSumVT : List V → Hp → VK → Prop := fun vs H Q => ∃ (p a : Addr) (kvs : List (List L2.Key × V)) (ns : List Int), vs = [.ref p] ∧ H p = some (valuesO p a) ∧ H a = some (.dT kvs) ∧ kvs.map (·.2) = ns.map V.int ∧ Q (.int ns.sum) H
theorem cr_sumVT (hc : X.calm = true) : CallR X (.builtin "sum") rSumVT := by
  intro pins s σ H vs us Q I r h
  obtain ⟨p, a, kvs, ns, rfl, hp, ha, hv, q⟩ := h
  rw [Vals.ref1 r]
  obtain ⟨z, hd, xs, rel, o, es, ep, ho, hx, hdat, hent, _⟩ := I.hok a _ ha
  have view : s.heap.IsValuesView p a := (I.hok p _ hp).1
  have raw : s.heap.DictRaw a es ep := ⟨o, ho, hx, hdat⟩
  have l1 : es.size = xs.length := by
    have := congrArg List.length hent
    simpa using this
  have l2 : kvs.length = xs.length := Paired.length rel
  have l3 : kvs.length = ns.length := by
    have := congrArg List.length hv
    simpa using this
  have hval : ∀ (i : Nat) (n : Int), ns[i]? = some n → ∃ (t : Tok) (en : DictEntry), es[i]? = some en ∧ en.val = .int n t := fun i n e => by
    have e1 : (kvs.map (·.2))[i]? = some (V.int n) := by rw [hv, List.getElem?_map, e]; rfl
    rw [List.getElem?_map] at e1
    cases ek : kvs[i]? with
    | none => rw [ek] at e1; cases e1
    | some kv =>
      rw [ek] at e1
      have e2 : kv.2 = V.int n := Option.some.inj e1
      obtain ⟨b, hb, _, _, rv⟩ := paired_get rel ek
      rw [e2] at rv
      obtain ⟨t, et⟩ := rv
      have hen : es.toList[i]? = some (entryOfKey (tupleKind (mixKind X.prog X.w)) b) := by rw [hent, List.getElem?_map, hb]; rfl
      exact ⟨t, _, by rw [← Array.getElem?_toList]; exact hen, et⟩
  refine call_sum_walkAnyS (wpAny_pyIter_values_raw view raw ?_)
  have alt : a < s.heap.objs.size := Heap.lt_size ho
  refine ⟨s.heap.objs.size, _, _, _, es.size, fun i v => i < ns.length ∧ ∃ t, v = .int (ns.getD i 0) t, _, fun i => ns.getD i 0, rfl,
    ((Walks.rawValues (A := X.A.in1) (I.ok.hd hc) s.heap.objs.size a (Nat.ne_of_lt alt) es ep).mono_item fun i v hi hP => ?_).toS, ⟨⟨_, Heap.get?_push_size _ rfl, rfl, rfl⟩, raw.at fun o' e' => Heap.get?_push_of_some _ e'⟩, fun b hb => ?_, fun i v hP => hP.2, fun s' t' hm => ?_⟩
  · obtain ⟨hi', ev⟩ := hP
    have hn : i < ns.length := by omega
    obtain ⟨t, en, hen, et⟩ := hval i ns[i] (List.getElem?_eq_getElem hn)
    rw [Array.getElem?_eq_getElem hi'] at hen
    refine ⟨hn, t, ?_⟩
    rw [ev, Option.some.inj hen, et]
    simp [hn]
  · show b < (s.heap.push _).objs.size
    rw [Heap.size_push]
    simp at hb
    rcases hb with rfl | rfl
    · exact Nat.lt_succ_self _
    · exact Nat.lt_succ_of_lt alt
  · have hk : ∀ b o, s.heap.get? b = some o → s'.heap.get? b = some o := fun b o e =>
      hm.heap b o (fun hI => absurd (Heap.lt_size e) (by rw [List.mem_singleton.mp hI]; exact Nat.lt_irrefl _)) (Heap.get?_push_of_some _ e)
    rw [Moved.eq_with hm]
    have es' : preSum (fun i => ns.getD i 0) es.size = ns.sum := by
      have : es.size = ns.length := by omega
      rw [this]
      exact preSum_at _ ns fun i n e => by simp [e]
    rw [es']
    exact ⟨.int ns.sum, H, I.kept hk, ⟨_, rfl⟩, q⟩
/-- sum of a tuple of whole numbers -/
def rSumT (K : PySem.W.Frag) : List V → Hp → VK → Prop := fun vs H Q => ∃ (a : Addr) (ns : List Int), vs = [.ref a] ∧ SqT K H a (ns.map V.int) ∧ Q (.int ns.sum) H
theorem cr_sumT (hc : X.calm = true) : CallR X (.builtin "sum") (rSumT X.K) := by
  intro pins s σ H vs us Q I r h
  obtain ⟨a, ns, rfl, ha, q⟩ := h
  rw [Vals.ref1 r]
  obtain ⟨its, rv, tup, _⟩ := I.tuple ha
  have tup' : s.heap.IsTuple a its.toArray := tup
  have l1 : ns.length = its.length := by
    have := rv.length
    simpa using this
  refine call_sum_walkAnyS (wpAny_pyIter_tuple tup' ?_)
  have alt : a < s.heap.objs.size := IsTup.lt tup
  refine ⟨s.heap.objs.size, _, _, _, its.toArray.size, fun i v => i < ns.length ∧ ∃ t, v = .int (ns.getD i 0) t, _, fun i => ns.getD i 0, rfl,
    ((Walks.tuple (A := X.A.in1) (I.ok.hd hc) s.heap.objs.size a (Nat.ne_of_lt alt) its.toArray).mono_item fun i v hi hP => ?_).toS, ⟨⟨_, Heap.get?_push_size _ rfl, rfl, rfl⟩, IsTup.push tup _⟩, fun b hb => ?_, fun i v hP => hP.2, fun s' t' hm => ?_⟩
  · have hP' : its[i]? = some v := by simpa using hP
    have hn : i < ns.length := by
      have := (List.getElem?_eq_some_iff.mp hP').1
      omega
    have e1 : (ns.map V.int)[i]? = some (V.int ns[i]) := by rw [List.getElem?_map, List.getElem?_eq_getElem hn]; rfl
    obtain ⟨u, hu, ru⟩ := rv.get e1
    rw [hP'] at hu
    obtain rfl := Option.some.inj hu
    obtain ⟨t, et⟩ := ru
    refine ⟨hn, t, ?_⟩
    rw [et]
    simp [hn]
  · show b < (s.heap.push _).objs.size
    rw [Heap.size_push]
    simp at hb
    rcases hb with rfl | rfl
    · exact Nat.lt_succ_self _
    · exact Nat.lt_succ_of_lt alt
  · have hk : ∀ b o, s.heap.get? b = some o → s'.heap.get? b = some o := fun b o e =>
      hm.heap b o (fun hI => absurd (Heap.lt_size e) (by rw [List.mem_singleton.mp hI]; exact Nat.lt_irrefl _)) (Heap.get?_push_of_some _ e)
    rw [Moved.eq_with hm]
    have es' : preSum (fun i => ns.getD i 0) its.toArray.size = ns.sum := by
      have : its.toArray.size = ns.length := by simp [l1]
      rw [this]
      exact preSum_at _ ns fun i n e => by simp [e]
    rw [es']
    exact ⟨.int ns.sum, H, I.kept hk, ⟨_, rfl⟩, q⟩
end
end FR

/-! {t: v} with one tuple as its key, enumerate of a tuple, X() of an own exception class, a try of many clauses some of them with a name -/
namespace FR
open PySem PySem.Spec PyProof.Rows L2
section
variable {X : Cx}
/-! ### {k: v} -/
def onePair (R : V → V → Hp → Prop) : List (V × V) → Hp → Prop
  | [(x, y)], H => R x y H
  | _, _ => False
def tDisp1 (tk tv : TE) : TE := fun σ H Q => ∀ p, H p = none → tk σ (upd H p (.dT [])) fun x H1 => tv σ H1 fun y H2 =>
  H2 p = some (.dT []) ∧ ∃ (b : Addr) (key : List L2.Key), x = .ref b ∧ H2 b = some (.tup (key.map kV)) ∧ Q (.ref p) (upd H2 p (.dT [(key, y)]))
theorem pe_disp1 {k v : Expr} {tk tv : TE} {pos : Pos} (hu : X.A.units + 1 < cLine) (hk : PE X k tk) (hv : PE X v tv) : PE X (.Dict [some k] [v] pos) (tDisp1 tk tv) := by
  refine ⟨fun pins s σ H Q I q => ?_⟩
  have hn : H s.heap.objs.size = none := I.hok.fresh (Nat.le_refl _)
  have I1 := I.laid (a := s.heap.objs.size) (o := .dT []) (h' := s.heap.push { cls := .type "dict", data := .dict #[] }) (t' := s.toks) (fun _ _ q => Heap.get?_push_of_some _ q) (Nat.le_refl _) (dt_empty s.heap I.big)
  have pairs : PPs X pos [some k] [v] [(tk, tv)] := pps_cons hk hv pps_nil
  have key := q _ hn
  rw [arm_eval_Dict, zip_pairTrees [some k] [v] X.env pos rfl rfl, dictDisplay_pairs (pairTrees [some k] [v] X.env pos) (fun z => by cases z) (by show 1 < 17; decide)]
  refine wpAny_bind (wpAny_standAt (wpAny_bind (wpAny_subDictH (knd := tupleKind (mixKind X.prog X.w)) (Q := fun d s' => wpAny (model X.prog X.w) X.A (pure (Value.ref d)) (EP X pins σ Q) X.xe s')
    (Nat.lt_of_succ_lt hu) (by show 1 ≤ 15; decide) (thn (pairs.run pins _ σ _ (onePair fun x y H2 => H2 s.heap.objs.size = some (.dT []) ∧ ∃ (b : Addr) (key : List L2.Key), x = .ref b ∧ H2 b = some (.tup (key.map kV)) ∧ Q (.ref s.heap.objs.size) (upd H2 s.heap.objs.size (.dT [(key, y)]))) I1 key) fun ws s2 hh => ?_))))
  obtain ⟨ps, H2, I2, rel, hps⟩ := hh
  cases rel with
  | nil => exact hps.elim
  | cons r1 r2 =>
    cases r2 with
    | cons _ _ => exact hps.elim
    | nil =>
      rename_i p1 w1
      obtain ⟨x, y⟩ := p1
      obtain ⟨hp, b, ky, ex, hb, q2⟩ := hps
      have ex' : x = .ref b := ex
      subst ex'
      obtain ⟨rk, rv⟩ := r1
      obtain ⟨kv, vv⟩ := w1
      cases (show kv = Value.ref b from rk)
      obtain ⟨z, hd, xs0, r0, dd⟩ := dt_of I2.hok hp
      cases r0
      refine ⟨[(ky, b, vv)], ⟨rfl, rfl, key_of I2.hok hb, trivial⟩, dd, fun h' tk' dd' hs => wpAny_pure ⟨.ref s.heap.objs.size, _, ?_, rfl, q2⟩⟩
      obtain ⟨ob, es, ep, ho, h2, h3, h4, _, h5⟩ := dd'
      refine d_write I2 (by rw [hp]; exact True.intro) hs ⟨ob, ho⟩ ⟨(by show 1 ≤ sizeLine; decide), hd, [(ky, b, vv)], .cons ⟨rfl, ?_, rv⟩ .nil, ob, es, ep, ho, h2, h3, h4, h5⟩
      rw [upd_ne (ne_of hb hp fun z => nomatch z)]
      exact hb
end
end FR

/-! for i, x in enumerate(t), t a tuple -/
namespace FR
open PySem PySem.Spec PyProof.Rows L2
open PySem.AutoSeq1 (wpAny_loadPart')
theorem enum_newT (t : Addr) (items : Array Value) (n : Nat) (dct : Option Addr) (sl : Array (Option Value)) :
    Meets (Builtin.«enumerate.__new__» ⟨[.type "enumerate", .ref t], []⟩) (fun _ R s => s.heap.get? t = some { cls := .type "tuple", dict := dct, data := .seq items n, slots := sl } ∧
      R (.ok (.ret (.ref (s.heap.push { cls := .type "tuple_iterator", data := .fields #[.ref t, .int 0 0] }).objs.size)))
        { s with heap := (s.heap.push { cls := .type "tuple_iterator", data := .fields #[.ref t, .int 0 0] }).push { cls := .type "enumerate", data := .fields #[.none, .bool false, .ref s.heap.objs.size, rawInt 0, .none, .none] } }) :=
  .of_wp fun prog w A R s h => by
    obtain ⟨hp, g, d, tk, os⟩ := s
    obtain ⟨ht, h⟩ := h
    have hsub := sub_enumerate
    have hT : Heap.IsTuple (Shared.heap ⟨hp, g, d, tk, os⟩) t items := ⟨_, ht, rfl, n, rfl⟩
    wp_walk using wpAny_loadPart' ht
    refine wpAny_stack_any fun st => wpAny_pure ?_
    split
    · rename_i c _ _ _ _ _
      cases (c == Value.type "enumerate") <;> (wp_walk using wpAny_loadPart' ht, wpAny_pyIter_tuple hT; exact ⟨_, rfl, h⟩)
    · (wp_walk using wpAny_loadPart' ht, wpAny_pyIter_tuple hT; exact ⟨_, rfl, h⟩)
section
variable {prog : Program} {w : World} {A : Around} {E : Value → Shared → Prop} {s : Shared}
theorem enum_call {t : Addr} {items : Array Value} {Q : Value → Shared → Prop} (hT : s.heap.IsTuple t items)
    (h : ∀ h', IsEnum h' (s.heap.objs.size + 1) s.heap.objs.size 0 .none → h'.IsTupleIter s.heap.objs.size t 0 → h'.objs.size = s.heap.objs.size + 2 →
      (∀ b o, s.heap.get? b = some o → h'.get? b = some o) → Q (.ref (s.heap.objs.size + 1)) { s with heap := h' }) :
    wpAny (model prog w) A (call (.type "enumerate") [.ref t]) Q E s := by
  obtain ⟨⟨c, dct, dt, sl⟩, hl, hc, n, hd⟩ := hT
  have hc' : c = .type "tuple" := hc
  have hd' : dt = .seq items n := hd
  subst hc' hd'
  refine callType_new F.called_enumerate (by decide) (F.typeCall_enumerate_1 _) (F.newCall_enumerate_1 _) (fun obj => F.args_object_init_2 obj _) F.entry_enumerate_new (enum_newT t items n dct sl) ⟨hl, ?_⟩
  have hz : (s.heap.push { cls := .type "tuple_iterator", data := .fields #[.ref t, .int 0 0] }).objs.size = s.heap.objs.size + 1 := Heap.size_push ..
  show _ ∧ _
  rw [hz]
  have he : IsEnum ((s.heap.push { cls := .type "tuple_iterator", data := .fields #[.ref t, .int 0 0] }).push
      { cls := .type "enumerate", data := .fields #[.none, .bool false, .ref s.heap.objs.size, rawInt 0, .none, .none] }) (s.heap.objs.size + 1) s.heap.objs.size 0 .none := by
    have q := Heap.get?_push_size (s.heap.push { cls := .type "tuple_iterator", data := .fields #[.ref t, .int 0 0] })
      (o := { cls := .type "enumerate", data := .fields #[.none, .bool false, .ref s.heap.objs.size, rawInt 0, .none, .none] }) rfl
    rw [hz] at q
    exact q
  refine ⟨⟨_, he, rfl⟩, h _ he ⟨_, Heap.get?_push_of_some _ (Heap.get?_push_size _ rfl), rfl, rfl⟩ ?_ fun b o x => Heap.get?_push_of_some _ (Heap.get?_push_of_some _ x)⟩
  rw [Heap.size_push, hz]
end
/-- the tuple at a as it stands at each turn, each item in a new pair -/
def IteT (K : PySem.W.Frag) (a : Addr) : It where
  go := fun i H => ∃ (xs : List V) (x : V), SqT K H a xs ∧ xs[i]? = some x
  yld := fun i H v H' => ∃ T x, v = .ref T ∧ H T = none ∧ H' = upd H T (.tup [.int (i : Nat), x]) ∧ ∀ xs, SqT K H a xs → xs[i]? = some x
  stop := fun i H => ∃ xs : List V, SqT K H a xs ∧ xs.length ≤ i
theorem turn_enumT {P : Program} {w : World} {K : PySem.W.Frag} {elts : List Expr} {kk : Nat} {tpos : Pos} (a e it : Addr) :
    Turn P w K (.Tuple elts kk tpos) (IteT K a) [e, it] e (fun i h => (∃ old, IsEnum h e it ((i : Nat) : Int) old) ∧ h.IsTupleIter it a i ∧ e ≠ it) where
  mem := by simp
  obj := fun i h st b hb => by
    obtain ⟨⟨old, he⟩, ⟨o, ho, hc, hd⟩, _⟩ := st
    rcases (by simpa using hb : b = e ∨ b = it) with z | z
    · rw [z]; exact ⟨_, he, fun v q => nomatch q⟩
    · rw [z]; exact ⟨o, ho, fun v q => by rw [hd] at q; cases q⟩
  keep := fun i h h' ⟨⟨old, he⟩, hi, hne⟩ k => ⟨⟨old, k e (by simp) _ he⟩, hi.at fun o q => k it (by simp) o q, hne⟩
  item := by
    intro X hP hw hK hc i pins s σ H E I hf st hg
    subst hP hw hK
    obtain ⟨⟨old, he⟩, hit, hne⟩ := st
    obtain ⟨xs, x, hq, hx⟩ := hg
    obtain ⟨its, rv, p, hz⟩ := I.tuple hq
    obtain ⟨u, hu, ru⟩ := rv.get hx
    have hel : e < s.heap.objs.size := Heap.lt_size he
    have hil : it < s.heap.objs.size := by obtain ⟨_, q, _⟩ := hit; exact Heap.lt_size q
    have p' : s.heap.IsTuple a its.toArray := p
    have hae : e ≠ a := fun z => by
      obtain ⟨o, ho, hc', _⟩ := p'
      have he' : s.heap.get? e = some _ := he
      rw [z, ho] at he'
      cases he'
      injection hc' with q
      exact absurd q (by decide)
    have hai : a ≠ it := fun z => by
      obtain ⟨o, ho, hc', _⟩ := p'
      obtain ⟨o2, ho2, hc2, _⟩ := hit
      rw [z, ho2] at ho
      cases ho
      rw [hc2] at hc'
      injection hc' with q
      exact absurd q (by decide)
    have hi : i < its.toArray.size := by
      have := (List.getElem?_eq_some_iff.mp hu).1
      simpa using this
    refine wpAny_pyNext_enum_itemD (Draws.tuple (A := X.A.in1) (I.ok.hd hc) it a hai its.toArray) he ⟨hit, p'⟩ hi hne (by simp [hne, hae]) fun x' h' tk hPx ho hst hT hsz hk => ?_
    have ex : x' = u := by
      have : its.toArray[i]? = some u := by simpa using hu
      rw [this] at hPx
      exact (Option.some.inj hPx).symm
    subst ex
    refine ⟨_, rfl, wpAny_letOwnedTupleGo_enum (s := { s with heap := h', toks := tk + 1 }) ho fun h'' he' sb => ?_⟩
    have hT2 : h''.get? s.heap.objs.size = some { cls := .type "tuple", data := .seq #[.int i tk, x'] } := (sb.2 _ (Nat.ne_of_gt hel)).trans hT
    have new : ObjOk X.prog X.w (upd H s.heap.objs.size (.tup [.int (i : Nat), x])) h'' s.heap.objs.size (.tup [.int (i : Nat), x]) :=
      ⟨(by show 2 ≤ sizeLine; decide), [.int i tk, x'], .cons ⟨_, rfl⟩ (.cons ru .nil), ⟨_, hT2, rfl, _, rfl⟩⟩
    have I1 : Inv X pins σ (upd H s.heap.objs.size (.tup [.int (i : Nat), x])) { s with heap := h'', toks := tk + 1 } :=
      I.turnedNew (ch := [e, it]) (fun b ob hb q => (sb.2 b fun z => hb (by simp [z])).trans (hk b ob (fun z => hb (by simp [z])) (fun z => hb (by simp [z])) q)) hf (Nat.le_refl _) new
    refine ⟨.ref s.heap.objs.size, _, I1, rfl, ⟨_, x, rfl, I.hok.fresh (Nat.le_refl _), rfl, fun ys hy => by rw [I.tuple_inj hy hq]; exact hx⟩, ⟨⟨x', ?_⟩, hst.1.at fun o q => (sb.2 it (Ne.symm hne)).trans q, hne⟩, fun b hb => ?_⟩
    · have e1 : ((i + 1 : Nat) : Int) = (i : Int) + 1 := by omega
      rw [e1]
      exact he'
    · have hb' : b < s.heap.objs.size := by
        rcases (by simpa using hb : b = e ∨ b = it) with z | z
        · rw [z]; exact hel
        · rw [z]; exact hil
      rw [upd_ne (Nat.ne_of_lt hb')]
      exact (hf b hb).1
  done := by
    intro X hP hw hK hc i pins s σ H E I hf st hg
    subst hP hw hK
    obtain ⟨⟨old, he⟩, hit, hne⟩ := st
    obtain ⟨xs, hq, hx⟩ := hg
    obtain ⟨its, rv, p, hz⟩ := I.tuple hq
    obtain ⟨f0, f1, f2, f3, f4, f5⟩ := hf it (by simp)
    have p' : s.heap.IsTuple a its.toArray := p
    have hl := rv.length
    have hT : s.TypeIs (.ref e) "enumerate" := ⟨_, he, rfl⟩
    unfold pyNext
    refine wpAny_bind (wpAny_attempt (wpAny_callSpecial?_slot (name := Str.ofString "__next__") hT F.slot_enumerate_next
      (wpAny_call_entry F.slot_enumerate_next hT F.entry_enumerate_next ?_ (F.args_enumerate_next_1 _))))
    show wpAny _ _ (field (.ref e) 2 >>= _) _ _ _
    refine wpAny_bind (wpAny_field he rfl (x := .ref it) rfl ?_)
    refine wpAny_bind (wpAny_nextOf_tuple_end (A := X.A.in1) (I.ok.hd hc) hit p' (by simp; omega) fun h' x he' hx' => ?_)
    obtain ⟨o, ho, hc'⟩ := hx'
    refine wpAny_bind (wpAny_isInstance (T := "StopIteration") (b := true) ⟨o, ho, hc'⟩ isSubtype_stop ?_)
    exact wpAny_pure ⟨rfl, I.turned (t' := s.toks) (fun b o hb q => he' b o hb q) f0 f1 f3 f4 f5⟩
  self := fun A i s Q E ⟨⟨_, he⟩, _⟩ h => wpAny_pyIter_enum he h
def iEnumT (K : PySem.W.Frag) (ta : TA) : TI := fun σ H R => ta σ H fun vs H1 => ∃ a xs, vs = [.ref a] ∧ SqT K H1 a xs ∧ R (IteT K a) H1
theorem pi_enumT {X : Cx} {e : Expr} {ta : TA} {p pos tpos : Pos} {elts : List Expr} {kk : Nat} (hg : Gl X "enumerate") (hm : X.mg "enumerate" = none) (ha : PA X [e] ta)
    (hs : starEach [e] X.env = [(false, eval e X.env)] := by rfl) : PI X (.Tuple elts kk tpos) (.Call (.Name "enumerate" p) [e] [] pos) (iEnumT X.K ta) := by
  refine ⟨fun pins s σ H R I h => ?_⟩
  refine Call_ (ld_blt I hg hm boot_enumerate (PyProof.Rows.callWith_type1 (thn (ha.run pos pins s σ H _ I h) fun us s1 hh => ?_) hs rfl))
  obtain ⟨vs, H1, I1, r1, a, xs, ex, hq, q⟩ := hh
  subst ex
  cases r1 with
  | cons r rr =>
    cases rr
    cases r
    obtain ⟨its, rv, p', hz⟩ := I1.tuple hq
    refine enum_call (show s1.heap.IsTuple a its.toArray from p') fun h' he hit hsz hk => wpAny_pyIter_enum he ?_
    have I2 : Inv X pins σ H1 { s1 with heap := h' } := I1.kept (t' := s1.toks) hk
    refine ⟨s1.heap.objs.size + 1, [s1.heap.objs.size + 1, s1.heap.objs.size], _, _, H1, rfl, I2, turn_enumT a (s1.heap.objs.size + 1) s1.heap.objs.size, ⟨⟨.none, he⟩, hit, Nat.succ_ne_self _⟩, fun b hb => ?_, q⟩
    have hle : s1.heap.objs.size ≤ b := by
      rcases (by simpa using hb : b = s1.heap.objs.size + 1 ∨ b = s1.heap.objs.size) with z | z
      · rw [z]; exact Nat.le_add_right _ _
      · rw [z]; exact Nat.le_refl _
    exact I1.fpOk hle (I1.hok.fresh hle)
/-- the loop over enumerate of a tuple that stands -/
theorem for_enumT {K : PySem.W.Frag} {a : Addr} {xs : List V} {g : TG} {tb : TS} {D : Ends} {σ : L2.St} {H : Hp} (Pv : Nat → L2.St → Hp → Prop) (h0 : Pv 0 σ H) (hl : ∀ i σ H, i ≤ xs.length → Pv i σ H → SqT K H a xs)
    (hs : ∀ (i : Nat) (x : V) (T : Addr) (σ : L2.St) (H : Hp), xs[i]? = some x → Pv i σ H → H T = none →
      g (.ref T) σ (upd H T (.tup [.int (i : Nat), x])) fun σ2 H2 => tb { D with nx := Pv (i + 1), ct := Pv (i + 1), bk := D.nx } σ2 H2)
    (hd : ∀ σ H, Pv xs.length σ H → D.nx σ H) :
    ∃ W : Nat → Nat → L2.St → Hp → Prop, (∃ m, W 0 m σ H) ∧ ∀ i m σ H, W i m σ H →
      ((IteT K a).stop i H ∧ D.nx σ H) ∨ ((IteT K a).go i H ∧ ∃ N : L2.St → Hp → Prop, (∀ σ' H', N σ' H' → ∃ m', m' < m ∧ W (i + 1) m' σ' H') ∧
        ∀ x H', (IteT K a).yld i H x H' → g x σ H' fun σ2 H2 => tb { D with nx := N, ct := N, bk := D.nx } σ2 H2) := by
  refine ⟨fun i m σ H => m = xs.length - i ∧ i ≤ xs.length ∧ Pv i σ H, ⟨_, rfl, Nat.zero_le _, h0⟩, fun i m σ H hW => ?_⟩
  obtain ⟨rfl, hi, hp⟩ := hW
  have hH := hl i σ H hi hp
  by_cases e : i < xs.length
  · refine .inr ⟨⟨xs, xs[i], hH, List.getElem?_eq_getElem e⟩, Pv (i + 1), fun σ' H' hn => ⟨xs.length - (i + 1), by omega, rfl, e, hn⟩, fun x H' hy => ?_⟩
    obtain ⟨T, y, rfl, hT, rfl, hxs⟩ := hy
    exact hs i y T σ H (hxs xs hH) hp hT
  · have ei : i = xs.length := by omega
    subst ei
    exact .inl ⟨⟨xs, hH, Nat.le_refl _⟩, hd σ H hp⟩
end FR

/-! a try of many clauses, some with a name; X() of an own exception class without an __init__ -/
namespace FR
open PySem PySem.Spec PyProof.Rows L2
abbrev Suite := Addr → Value → Option Addr → TS
/-- what a clause wishes: its class, the slot of its name, its suite -/
def wMix (K : PySem.W.Frag) (Wout : WX) (D : Ends) : List (Value × Option Nat × Suite) → WX
  | [] => Wout
  | (c, none, ts) :: r => fun cls d σ H => ∃ b, PySem.W.exmOne K cls c = some b ∧ (b = true → ∀ a, H a = none → ts a cls d D σ H) ∧ (b = false → wMix K Wout D r cls d σ H)
  | (c, some i, ts) :: r => fun cls d σ H => ∃ b, PySem.W.exmOne K cls c = some b ∧
      (b = true → ∀ a, H a = none → ts a cls d ⟨fun σ' H' => D.nx (σ'.set i none) H', D.rt, fun σ' H' => D.bk (σ'.set i none) H', fun σ' H' => D.ct (σ'.set i none) H'⟩ (σ.set i (some (.ref a))) H) ∧
      (b = false → wMix K Wout D r cls d σ H)
inductive Hds (X : Cx) : List ExceptHandler → List (Value × Option Nat × Suite) → Prop
  | nil : Hds X [] []
  | plain {x : Str} {c : Value} {ts : Suite} {b₀ : Stmt} {suite : List Stmt} {np pos : Pos} {hds : List ExceptHandler} {l : List (Value × Option Nat × Suite)} (hc : Names X x c)
      (hsu : ∀ (a : Addr) (oe : Obj) (cls : Value) (d : Option Addr) (pn : List (Addr × Obj)), Zc cls d oe → (∃ vs, oe.data = .fields vs) → PSs (X.suite a ((a, oe) :: pn)) (b₀ :: suite) (ts a cls d))
      (r : Hds X hds l) : Hds X (.ExceptHandler (some (.Name x np)) none (b₀ :: suite) pos :: hds) ((c, none, ts) :: l)
  | named {x n : Str} {c : Value} {i : Nat} {ts : Suite} {b₀ : Stmt} {suite : List Stmt} {np pos : Pos} {hds : List ExceptHandler} {l : List (Value × Option Nat × Suite)} (hc : Names X x c)
      (hi : X.N[i]? = some n) (hln : X.env.kindOf n = some .local)
      (hsu : ∀ (a : Addr) (oe : Obj) (cls : Value) (d : Option Addr) (pn : List (Addr × Obj)), Zc cls d oe → (∃ vs, oe.data = .fields vs) → PSs (X.suite a ((a, oe) :: pn)) (b₀ :: suite) (ts a cls d))
      (r : Hds X hds l) : Hds X (.ExceptHandler (some (.Name x np)) (some n) (b₀ :: suite) pos :: hds) ((c, some i, ts) :: l)
section
variable {X : Cx} {body : List Stmt} {h₀ : ExceptHandler} {hds : List ExceptHandler} {l : List (Value × Option Nat × Suite)} {pos : Pos} {tb : WX → TS} {Wout : WX}
/-- the class of a clause, looked at while the exception at a is held -/
theorem name_eval {pins : List (Addr × Obj)} {σ : L2.St} {H : Hp} {s : Shared} {a : Addr} {x : Str} {c : Value} {np : Pos} {pn : List (Addr × Obj)} (S : Inv (X.suite a pn) pins σ H s) (hc : Names X x c)
    {Q : Value → Shared → Prop} {E : Value → Shared → Prop} (q : Q c s) : wpAny (model X.prog X.w) (X.A.mark (some (.ref a))) (eval (.Name x np) X.env) Q E s := by
  obtain ⟨hg, hdbg, hm | ⟨hm, hv, hnn⟩⟩ := hc
  · exact ld_glob (X := X.suite a pn) S hg hm q hdbg
  · exact ld_blt (X := X.suite a pn) S hg hm hv q hnn hdbg
theorem ps_try_mix (hs : X.stack = X.env :: X.outer) (hf : X.env.frame = some X.env.locals) (hN : X.N.Nodup) (tk : Takes X Wout)
    (hb : ∀ (W : WX) (pn : List (Addr × Obj)) (xe : Value → Shared → Prop), Takes (X.tr pn xe) W → PassesOwn (model X.prog X.w) X.A X.env xe → PSs (X.tr pn xe) body (tb W))
    (hh : Hds X (h₀ :: hds) l) : PS X (.Try body (h₀ :: hds) [] [] pos) (fun D σ H => tb (wMix X.K Wout D l) D σ H) := by
  refine ⟨fun pins s σ H D I h => ?_⟩
  have ok := I.ok
  have hfr : X.A.frames = some (X.env :: X.outer) := by rw [ok.frames, hs]
  refine wpAny_Try_except (wpAny_mono ((hb (wMix X.K Wout D l) (X.pn ++ pins) (fun e s₁ => wpAny (model X.prog X.w) X.A (noteFrame e X.env) (fun _ s₂ => wpAny (model X.prog X.w) X.A (setFlight e none)
    (fun _ s₃ => wpAny (model X.prog X.w) X.A (handleBy e X.env (h₀ :: hds)) (SP X pins D) X.xe s₃) X.xe s₂) X.xe s₁) (fun u s' xx => ?_) PassesOwn.looking).run [] s σ H D (I.toTry _) h) (fun f s1 hsp => ?_) fun e s1 he => he)
  · obtain ⟨a, B, sI, pins', σ', H', cls, d, rfl, J', nb, up, sky, na, os, ag, w⟩ := xx
    have J : Inv X pins σ' H' sI := J'.ofTry ok
    have sky' : Sky B (X.env :: X.outer) a (Zc cls d) X.env.locals s'.heap := by rw [← hs]; exact sky
    show wpAny (model X.prog X.w) X.A (noteFrame (.ref a) X.env) _ _ _
    refine Sky.land Zc.steady hfr hf sky' fun h3 fl3 up3 => ?_
    have J3 : Inv X pins σ' H' { s' with heap := h3 } := J.landed nb fl3.1 (up.trans up3) os ag
    obtain ⟨oe3, vs3, he3, hz3, hd3⟩ := fl3.there
    have nfr : a ∉ frs (X.env :: X.outer) := fun hm => by
      obtain ⟨_, o', e', hnf⟩ := fl3.2.2.1.mem hm
      rw [he3] at e'
      cases e'
      exact hnf _ hd3
    have nL : a ≠ X.env.locals := fun z => nfr (List.mem_filterMap.mpr ⟨X.env, List.mem_cons_self, by rw [hf, z]⟩)
    have nF : a ∉ X.fs := fun hm => by
      obtain ⟨e, he, q⟩ := List.mem_filterMap.mp hm
      exact nfr (List.mem_filterMap.mpr ⟨e, List.mem_cons_of_mem _ he, q⟩)
    have S3 := J3.suite he3 hd3 na nL nF
    have LT : PySem.W.Looks (model X.prog X.w) h3 (typeOf (.ref a)) cls := fun A Q E s k q => wpAny_typeOf_ref (k _ _ he3) (by rw [hz3.1]; exact q)
    have go : ∀ {hds' : List ExceptHandler} {l' : List (Value × Option Nat × Suite)}, Hds X hds' l' → wMix X.K Wout D l' cls d σ' H' →
        wpAny (model X.prog X.w) X.A (handleBy (.ref a) X.env hds') (SP X pins D) X.xe { s' with heap := h3 } := by
      intro hds' l' hk
      induction hk with
      | nil =>
        intro w
        refine wpAny_handleBy_nil ?_
        obtain ⟨k1, k2, k3, oe, vs, T, oT, ts', he, hz, hd, h1, hr⟩ := id fl3
        unfold PySem.passOn
        refine wpAny_bind (wpAny_field he hd h1 ?_)
        rw [if_neg (show ¬ ((Value.ref T == Value.none) = true) from by simp)]
        have fin : wpAny (model X.prog X.w) X.A (setFlight (.ref a) X.env.frame) (fun _ s4 => wpAny (model X.prog X.w) X.A (throw (.ref a) : Sem Flow) (SP X pins D) X.xe s4) X.xe { s' with heap := h3 } := by
          rw [hf]
          exact HandSPX.setFlight_upZ fl3 fun h4 hh4 up4 => wpAny_throw (tk _ _ ⟨a, B, sI, pins, σ', H', cls, d, rfl, J, nb, (up.trans up3).trans up4, .inr (.inr (by rw [hs]; exact hh4)), na, os, ag, w⟩)
        first
          | exact wpAny_bind (wpAny_pure (wpAny_bind fin))
          | exact wpAny_bind fin
      | @plain x c ts b₀ suite np pos' hds2 l2 hc hsu r ih =>
        intro w
        obtain ⟨b, hb1, hyes, hno⟩ := w
        refine wpAny_handleBy_cons (codeAny_handlers_test ?_) (by intro q; cases q)
        refine name_eval S3 hc ((PySem.W.exm_one (M := model X.prog X.w) J3.kIn LT hb1).here ?_)
        cases b with
        | false =>
          show wpAny _ X.A (handleBy (.ref a) X.env hds2) _ _ _
          exact ih (hno rfl)
        | true =>
          refine codeAny_handlers_suite (HandSPX.lands_againZ fl3 fun h4 fl4 up4 => ?_)
          have J4 : Inv X pins σ' H' { s' with heap := h4 } := J.landed nb fl4.1 ((up.trans up3).trans up4) os ag
          obtain ⟨oe4, vs4, he4, hz4, hd4⟩ := fl4.there
          refine wpAny_mono ((hsu a oe4 cls d (X.pn ++ pins) hz4 ⟨_, hd4⟩).run [] _ _ H' _ (J4.suite he4 hd4 na nL nF) (hyes rfl a na)) (fun f s6 hsp => ?_) fun _ _ z => False.elim z
          cases f with
          | next => exact let ⟨σ6, H6, S6, q6⟩ := hsp; ⟨_, _, S6.unsuite ok, q6⟩
          | brk => exact let ⟨σ6, H6, S6, q6⟩ := hsp; ⟨_, _, S6.unsuite ok, q6⟩
          | cont => exact let ⟨σ6, H6, S6, q6⟩ := hsp; ⟨_, _, S6.unsuite ok, q6⟩
          | ret u => exact let ⟨v6, σ6, H6, S6, r6, q6⟩ := hsp; ⟨_, _, _, S6.unsuite ok, r6, q6⟩
      | @named x n c i ts b₀ suite np pos' hds2 l2 hc hi hln hsu r ih =>
        intro w
        obtain ⟨b, hb1, hyes, hno⟩ := w
        have hloc : Loc X.env.scope n := .inl hln
        refine wpAny_handleBy_cons (codeAny_handlers_test ?_) (by intro q; cases q)
        refine name_eval S3 hc ((PySem.W.exm_one (M := model X.prog X.w) J3.kIn LT hb1).here ?_)
        cases b with
        | false =>
          show wpAny _ X.A (handleBy (.ref a) X.env hds2) _ _ _
          exact ih (hno rfl)
        | true =>
          refine codeAny_handlers_suite_as (HandSPX.lands_againZ fl3 fun h4 fl4 up4 => ?_)
          have J4 : Inv X pins σ' H' { s' with heap := h4 } := J.landed nb fl4.1 ((up.trans up3).trans up4) os ag
          obtain ⟨oe4, vs4, he4, hz4, hd4⟩ := fl4.there
          refine store_ok (X := X.suite a ((a, oe4) :: (X.pn ++ pins))) (v := .ref a) (J4.suite he4 hd4 na nL nF) hN hi hloc rfl (fun s5 S5 => ?_) (.inr hln)
          refine wpAny_mono ((hsu a oe4 cls d (X.pn ++ pins) hz4 ⟨_, hd4⟩).run [] s5 _ H' _ S5 (hyes rfl a na)) (fun f s6 hsp => ?_) fun _ _ z => False.elim z
          cases f with
          | next => exact let ⟨σ6, H6, S6, q6⟩ := hsp; gone_ok (S6.unsuite ok) hN hi hln fun s7 J7 => ⟨_, _, J7, q6⟩
          | brk => exact let ⟨σ6, H6, S6, q6⟩ := hsp; gone_ok (S6.unsuite ok) hN hi hln fun s7 J7 => ⟨_, _, J7, q6⟩
          | cont => exact let ⟨σ6, H6, S6, q6⟩ := hsp; gone_ok (S6.unsuite ok) hN hi hln fun s7 J7 => ⟨_, _, J7, q6⟩
          | ret u => exact let ⟨v6, σ6, H6, S6, r6, q6⟩ := hsp; gone_ok (S6.unsuite ok) hN hi hln fun s7 J7 => ⟨_, _, _, J7, r6, q6⟩
    exact go hh w
  · cases f with
    | next => exact let ⟨σ', H', J', q⟩ := hsp; wpAny_execs_nil ⟨σ', H', J'.ofTry ok, q⟩
    | brk => exact let ⟨σ', H', J', q⟩ := hsp; ⟨σ', H', J'.ofTry ok, q⟩
    | cont => exact let ⟨σ', H', J', q⟩ := hsp; ⟨σ', H', J'.ofTry ok, q⟩
    | ret u => exact let ⟨v, σ', H', J', r, q⟩ := hsp; ⟨v, σ', H', J'.ofTry ok, r, q⟩
/-- C(), C an own exception class without an __init__ of its own -/
theorem pmk_own0 {C : Addr} {bmB : List Value} {B newId initId : String} {x : Str} {p pos : Pos} (F : ExcBaseFacts B newId initId bmB) (q : PySem.W.excIn X.K C bmB newId = true) (gC : X.mg x = some (.ref C)) (kC : PySem.W.keepIn X.K (.ref C) = true)
    (r : Raises X (.ref C)) (hg : Gl X x) (hdb : (x == ("__debug__" : Str)) = false := by decide) : PMk X (.Call (.Name x p) [] [] pos) (fun _ H Q => Q (.ref C) none H) := by
  intro pins s σ H Q I h
  refine wpAny_Call_Name_kw (ld_glob I hg gC ?_ hdb)
  refine PySem.W.callWith_K0 I.kIn kC ?_
  obtain ⟨bm, N, nm, qn, bs, hdct, sn, sub, ab, col, dd, k0, k1, k2, k3, k5, mN, hC, hN, hni, T⟩ := exc_obj I.kIn q
  exact wpAny_call_exc_subT F T hC hN hni (fun h' e hm => mk_of I hm r h (I.hok.gone hm.new)) (Nat.zero_le _)
end
end FR

/-! TooMany(most): an own error class over DrawError over ValueError; its __init__ says super().__init__(most), then self.most = most -/
namespace FR
open PySem PySem.W PySem.Calls PyProof.Rows PySem.HandSPX
def top (i : Nat) : Stmt := PySem.Challenge.pw_fullorring_k81_whole_kinds_counted.main.body.getD i (.Pass ⟨0, 0, 0, 0⟩)
abbrev sTM : Stmt := L2.inClass (top 3) 0
/-- the parameters, the body and the scope of TooMany.__init__ -/
abbrev tmA : Arguments := L2.defArgs sTM
abbrev tmB : List Stmt := L2.defBody sTM
abbrev tmF : Stmt := (L2.defBody sTM).getD 1 (.Pass ⟨0, 0, 0, 0⟩)
abbrev tmS : Scope := L2.defScope sTM
/-- what the written part says of TooMany, at C, and of its __init__, at fI -/
structure TmTxt (P : Program) (K : Frag) (mg : Str → Option Value) (C fI : Addr) : Prop where
  gC : mg "TooMany" = some (.ref C)
  sup : mg "super" = none
  cls : ∃ nm q N bs bm sn sub ab col dd k0 k1 k2 k3 k5, K.lookup C = some (excClassObj nm q C N bs bm true sn sub ab col dd k0 k1 k2 k3 k5 "ValueError.__new__") ∧ refsVE bm = true
  sa : findIn K (.ref C) "__setattr__" = some (some (.builtin "object.__setattr__"))
  xf : L2.XfC K C
  noN : findIn K (.ref C) "most" = some none
  iC : findIn K (.ref C) "__init__" = some (some (.ref fI))
  tC : typeIn K (.ref fI) = some (.type "function")
  kC : keepIn K (.ref C) = true
  exC : subIn K (.ref C) (.type "BaseException") = some true
  tyC : typeIn K (.ref C) = some (.type "type")
  suI : ks_superIn K C C "__init__" = some (some (.builtin "ValueError.__init__"))
  veC : subIn K (.ref C) (.type "ValueError") = some true
  miC : mroIn K C (.ref C) = some true
  any : nsIn K cStatics "thirdparty.any" = some none
  top : (P.main.scope.names.lookup ("super" : Str)).isSome = false
  fn : ∃ (oc : Value) (od : Option Addr) (doc pm : Value) (an : Option Addr) (cda cc : Addr) (ct : Value) (osl : Array (Option Value)),
    K.lookup fI = some ⟨oc, od, .func (ksFn "__init__" "TooMany.__init__" tmA tmB tmS .none .none doc pm an (.ref cda) ct cc), osl⟩ ∧ codeIn K (.ref cda) "TooMany.__init__" = true ∧
    (∃ cl cld csl, K.lookup cc = some ⟨cl, cld, .cell (some (.ref C)), csl⟩) ∧
    ∃ (ccl : Value) (cdd : Option Addr) (vs : Array Value) (ccs : Array (Option Value)) (file : Str) (tf : Tok), K.lookup cda = some ⟨ccl, cdd, .fields vs, ccs⟩ ∧ vs[2]? = some (.str file tf) ∧ ((P.main.file : Str) == file) = true
/-- what __init__ leaves of a fresh error at x -/
structure TmEnd (h h' : Heap) (x C dx t1 : Addr) (v : Value) : Prop where
  keep : ∀ b o, b ≠ x → h.get? b = some o → h'.get? b = some o
  obj : h'.get? x = some { cls := .ref C, dict := some dx, data := .fields #[.ref t1, .none, .none, .none, .bool false, .none] }
  dbig : h.objs.size ≤ dx
  dne : dx ≠ x
  ns : h'.Ns1 dx (fun y => if y = "most" then some v else none)
section
variable {prog : Program} {w : World} {A : Around} {E : Value → Shared → Prop} {R : Result → Shared → Prop} {s : Shared} {K : Frag} {mg mb : Str → Option Value} {C fI : Addr}
/-- the built-in __init__ bound to x, called -/
theorem tm_base {u x t0 : Addr} {rest : List Value} {Q : Value → Shared → Prop} {nm q : Str} {N : Addr} {bs bm : List Value} {sn : List Str} {sub : List Value} {ab : Bool} {col : Option Bool} {dd : Option Addr} {k0 k1 k2 k3 k5 : Option Value}
    (hC : s.heap.get? C = some (excClassObj nm q C N bs bm true sn sub ab col dd k0 k1 k2 k3 k5 "ValueError.__new__")) (he : s.heap.get? x = some (excO C t0)) (hu : s.heap.get? u = some (kxs_mw "ValueError.__init__" x)) (hz : rest.length ≤ sizeLine)
    (hq : ∀ h' t1, (∀ b o, b ≠ x → s.heap.get? b = some o → h'.get? b = some o) → h'.get? x = some (excO C t1) → Q .none { s with heap := h' }) :
    wpAny (model prog w) A (call (.ref u) rest) Q E s := by
  obtain ⟨hh, g, d, tk, os⟩ := s
  refine wpAny_call (codeAny_of_tree ?_)
  show wpAny _ A.in1 (callAny (.ref u) ⟨rest, []⟩) _ _ _
  simp only [callAny]
  refine wpAny_bind (wpAny_load hu ?_)
  simp only [kxs_mw, show (Value.type "method-wrapper" == Value.type "method" || Value.type "method-wrapper" == Value.type "builtin_function_or_method" || Value.type "method-wrapper" == Value.type "method-wrapper") = true by decide, if_true]
  refine KFB.if_so (by decide) ?_
  refine wpAny_bind (check_bound_init PySem.F.excBase_ValueError.toExcCallFacts hC he rfl ?_)
  refine wpAny_bind (wpAny_pure (wpAny_pure ⟨plainId_quiet PySem.F.excBase_ValueError.init.plain _, codeAny_builtin PySem.F.excBase_ValueError.initEntry ?_⟩))
  exact exc_init_tree (cls := .ref C) (t0 := t0) (dv := none) (c2 := .none) (c3 := .none) (b4 := .bool false) he hz fun h' k e' t' => hq h' _ k e'
theorem tm_init (T : TmTxt prog K mg C fI) {x t0 : Addr} {v : Value} (X : K.In s.heap) (hlim : s.heap.NoLimit) (hg : s.heap.Ns mainGlobals mg) (hb : s.heap.Ns builtinsNs mb) (hbs : mb "super" = some (.type "super"))
    (hx : s.heap.get? x = some (excO C t0)) (hnK : K.lookup x = none) (hroom : A.depth < recursionLimit)
    (hq : ∀ h' tk dx t1, TmEnd s.heap h' x C dx t1 v → R (.ok (.ret .none)) { s with heap := h', toks := tk }) :
    codeAny (model prog w) A (.call (.ref fI) ⟨[.ref x, v], []⟩) R s := by
  obtain ⟨oc, od, doc, pm, an, cda, cc, ct, osl, ho, hcd, ⟨cl, cld, csl, hcell⟩, ccl, cdd, vs, ccs, file, tf, hcode, hvs, hfile⟩ := T.fn
  obtain ⟨nm, q, N, bs, bm, sn, sub, ab, col, dd, k0, k1, k2, k3, k5, hC, hbm⟩ := T.cls
  have hcl : clsIn K C = some { name := nm, bases := bs, mro := .ref C :: bm, ns := N, qualname := q, hasDict := true, slotNames := sn, subclasses := sub, abstract := ab, collection := col, hasDel := false } := by unfold clsIn; rw [hC] <;> rfl
  refine ks_codeAny_call_defAt (body := tmB) (binds := [("self", .ref x), ("most", v)]) hroom (X _ _ ho) rfl hlim (codeRec_of X hcd) rfl (BindsTo.of_eq (by first | rfl | with_unfolding_all rfl)) (show ∀ y ∈ tmS.names, y.2 ≠ .cell by decide) (locs rfl) (fun h₁ hns k₁ => ?_) rfl rfl rfl
  have hnx : x ≠ C := fun z => by rw [z, hC] at hnK; cases hnK
  have X₁ : K.In h₁ := X.keeps k₁
  have hxL : s.heap.objs.size ≠ x := Nat.ne_of_gt (Heap.lt_size hx)
  have hx₁ := k₁ _ _ hx
  have I₁ : InstAt h₁ x (excO C t0) C none := ⟨hx₁, rfl, rfl, trivial⟩
  obtain ⟨hp, g, d, t, os⟩ := s
  refine ks_wpAt_execs_cons (ks_wpAt_Expr_any (ks_wpAt_MethodCall (pl := _) ?_ (by rfl)) rfl rfl)
  refine ks_wpAt_super_base (f := fI) (cc := cda) rfl rfl (by decide) rfl (X₁ _ _ ho) rfl rfl rfl (X₁ _ _ hcode) rfl hvs hfile T.top ?_
  refine ks_loadName_global rfl rfl (loadGlobal_builtin (hg.keeps k₁) T.sup (hb.keeps k₁) hbs ⟨rfl, ?_⟩)
  refine wpAny_loadName_free rfl rfl (c := cc) rfl ⟨_, X₁ _ _ hcell, rfl⟩ ?_
  refine wpAny_loadName_local rfl rfl hns (v := .ref x) (by first | rfl | with_unfolding_all rfl | kernel_rfl) ?_
  refine ks_wpAny_isType_cls (X₁ _ _ hC) rfl ⟨rfl, ?_⟩
  refine ks_wpAny_call_super (X₁ _ _ hC) rfl hx₁ rfl (fun c e => by cases e) (looks_mroIn X₁ T.miC) fun h₂ e₂ k₂ => ?_
  have X₂ : K.In h₂ := X₁.keeps k₂
  have I₂ : InstAt h₂ x (excO C t0) C none := ⟨k₂ _ _ hx₁, rfl, rfl, trivial⟩
  have suI := T.suI
  unfold ks_superIn at suI
  rw [hcl] at suI
  refine kxs_getMethod kxs_ValueError e₂ (looks_opaque X₂ T.any) (l₀ := .ref C :: bm) ((looks_clsIn X₂ hcl).andThen .now) rfl X₂ suI (I₂.type.andThen (looks_subIn X₂ T.veC)) hnx (by decide) ?_
  -- the wrapper stands behind the super object
  have k₃ : ∀ b o, h₁.get? b = some o → (h₂.push (kxs_mw "ValueError.__init__" x)).get? b = some o := fun b o e => Heap.get?_push_of_some _ (k₂ b o e)
  have hu : (h₂.push (kxs_mw "ValueError.__init__" x)).get? h₂.objs.size = some (kxs_mw "ValueError.__init__" x) := Heap.get?_push_size _ rfl
  refine kxs_callWith (i := "ValueError.__init__") (x := x) rfl (evalArgs_plain ?_)
  show wpAny _ _ (spliced [(false, eval (.Name "most" ⟨9, 25, 9, 29⟩) _)]) _ _ _
  refine Calls.spliced_cons (wpAny_Name (wpAny_loadName_local rfl rfl (hns.keeps k₃) (v := v) (by first | rfl | with_unfolding_all rfl | kernel_rfl) (Calls.spliced_nil ⟨hu, ?_⟩)) (by decide))
  refine tm_base (t0 := t0) ((X₁.keeps k₃) _ _ hC) (k₃ _ _ hx₁) hu (by rw [sizeLine_eq]; exact (by decide : 1 ≤ 16777216)) fun h₄ t1 k₄ hx₄ => ?_
  -- self.most = most
  have k₅ : ∀ b o, b ≠ x → h₁.get? b = some o → h₄.get? b = some o := fun b o hb e => k₄ b o hb (k₃ b o e)
  have X₄ : K.In h₄ := fun b o e => k₅ b o (fun z => by rw [z, hnK] at e; cases e) (X₁ b o e)
  have hns₄ : h₄.Ns hp.objs.size (fun y => List.lookup y [(("self" : Str), Value.ref x), (("most" : Str), v)].reverse) := let ⟨oL, es, ep, eL, r⟩ := hns; ⟨oL, es, ep, k₅ _ _ hxL eL, r⟩
  refine wpAt_of_wpAny ?_
  show wpAny _ _ (execs [tmF] _) _ _ _
  refine wpAny_execs_cons (plainObj_wpAny_Assign_Attribute ?_)
  refine wpAny_Name (wpAny_loadName_local rfl rfl hns₄ (v := v) (by first | rfl | with_unfolding_all rfl | kernel_rfl) ?_) (by decide)
  refine wpAny_Name (wpAny_loadName_local rfl rfl hns₄ (v := .ref x) (by first | rfl | with_unfolding_all rfl | kernel_rfl) ?_) (by decide)
  refine set_plain X₄ (ox := excO C t1) (od := none) ⟨hx₄, rfl, rfl, trivial⟩ T.sa ?_
  refine exc_osa X₄ hx₄ hcl (show refsVE (.ref C :: bm) = true from hbm) rfl T.noN fun h₆ tk₆ dx k₆ dn dne hx₆ hn₆ => ?_
  show wpAny _ _ (execs [] _) _ _ _
  have big : hp.objs.size ≤ h₄.objs.size := by
    obtain ⟨oL, _, _, eL, _⟩ := hns₄
    exact Nat.le_of_lt (Heap.lt_size eL)
  exact wpAny_execs_nil (hq h₆ tk₆ dx t1 ⟨fun b o hb e => k₆ b o hb (k₅ b o hb (k₁ b o e)), hx₆, Nat.le_trans big dn, dne, hn₆⟩)
/-- a made TooMany -/
structure TmMade (h h' : Heap) (e C d : Addr) (v : Value) : Prop where
  keep : ∀ b o, h.get? b = some o → h'.get? b = some o
  new : h.objs.size ≤ e
  obj : ∃ oe vs, h'.get? e = some oe ∧ oe.cls = .ref C ∧ oe.dict = some d ∧ oe.data = .fields vs ∧ vs[1]? = some .none
  dbig : h.objs.size ≤ d
  dne : d ≠ e
  ns : h'.Ns1 d (fun y => if y = "most" then some v else none)
theorem tm_made (T : TmTxt prog K mg C fI) {v : Value} (X : K.In s.heap) (hlim : s.heap.NoLimit) (hg : s.heap.Ns mainGlobals mg) (hb : s.heap.Ns builtinsNs mb) (hbs : mb "super" = some (.type "super")) (hroom : A.depth + 1 < recursionLimit)
    (hq : ∀ h' tk e d, TmMade s.heap h' e C d v → R (.ok (.ret (.ref e))) { s with heap := h', toks := tk }) : codeAny (model prog w) A (.call (.ref C) ⟨[v], []⟩) R s := by
  obtain ⟨nm, q, N, bs, bm, sn, sub, ab, col, dd, k0, k1, k2, k3, k5, hC, hbm⟩ := T.cls
  obtain ⟨hp, g, dr, tk, os⟩ := s
  have k : ∀ b o, hp.get? b = some o → ((hp.push (kdv_tup [v])).push (excO C hp.objs.size)).get? b = some o := fun b o e => Heap.get?_push_of_some _ (Heap.get?_push_of_some _ e)
  have hget : ((hp.push (kdv_tup [v])).push (excO C hp.objs.size)).get? (hp.objs.size + 1) = some (excO C hp.objs.size) := by heap_get
  have hnK : K.lookup (hp.objs.size + 1) = none := by
    cases e : K.lookup (hp.objs.size + 1) with
    | none => rfl
    | some o =>
      have z : hp.get? (hp.objs.size + 1) = some o := X _ _ e
      exact absurd (Nat.lt_of_succ_lt (Heap.lt_size z)) (Nat.lt_irrefl _)
  refine call_own PySem.F.excBase_ValueError (fun X => refsVE_contains X bm hbm) (X _ _ hC) (looks_findIn X T.iC) (fun self => bind_fn X self T.tC) (by rw [sizeLine_eq]; exact (by decide : 1 ≤ 16777216)) ?_
  refine tm_init (s := ⟨(hp.push (kdv_tup [v])).push (excO C hp.objs.size), g, dr, tk, os⟩) T (X.keeps k) (hlim.keeps k) (hg.keeps k) (hb.keeps k) hbs hget hnK (show A.depth + 1 < recursionLimit from hroom) fun h' tk' dx t1 hE => ?_
  obtain ⟨k', hx, dn, dne, hns⟩ := hE
  have z : hp.objs.size + 1 + 1 ≤ dx := by
    have q := dn
    simp only [Heap.size_push] at q
    exact q
  exact ⟨rfl, hq h' tk' (hp.objs.size + 1) dx ⟨fun b o e => k' b o (Nat.ne_of_lt (Nat.lt_succ_of_lt (Heap.lt_size e))) (k b o e), Nat.le_succ _, ⟨_, _, hx, rfl, rfl, rfl, rfl⟩, Nat.le_trans (Nat.le_trans (Nat.le_succ _) (Nat.le_succ _)) z, dne, hns⟩⟩
end
end FR
namespace FR
open PySem PySem.Spec PyProof.Rows L2
theorem relO_most {v : V} {v' : Value} (r : RelV v v') (f : Str) : RelO (List.lookup f [(("most" : Str), v)]) (if f = "most" then some v' else none) := by
  by_cases hw : f = "most"
  · subst hw
    rw [if_pos rfl]
    have q : List.lookup ("most" : Str) [(("most" : Str), v)] = some v := by simp [List.lookup]
    rw [q]
    exact r
  · rw [if_neg hw]
    have qw : (f == ("most" : Str)) = false := by simpa using hw
    have q2 : List.lookup f [(("most" : Str), v)] = none := by simp [List.lookup, qw]
    rw [q2]
    trivial
section
variable {X : Cx} {C fI : Addr}
/-- TooMany(e): what is wanted of every new error, its dict d new -/
def tMkTm (C : Addr) (ta : TA) : L2.St → Hp → XK → Prop := fun σ H Q => ta σ H fun vs H1 => ∃ v, vs = [v] ∧ ∀ d, H1 d = none → Q (.ref C) (some d) (upd H1 d (.xd [(("most" : Str), v)]))
theorem pmk_tm {a : Expr} {ta : TA} {p pos : Pos} {k : Nat} (T : TmTxt X.prog X.K X.mg C fI) (hr : Room k X.A) (ha : PA X [a] ta) (hg : Gl X "TooMany" := by rfl)
    (he : starEach (a :: []) X.env = (false, eval a X.env) :: starEach [] X.env := by rfl) (hpl : (backTo pos (starEach [] X.env)).any (·.1) = false := by rfl) :
    PMk X (.Call (.Name "TooMany" p) [a] [] pos) (tMkTm C ta) := by
  intro pins s σ H Q I h
  refine wpAny_Call_Name_kw (ld_glob I hg T.gC ?_)
  refine PySem.W.callWith_K (h₀ := X.base) I.ok.mod.kin T.kC (thn (ha.run pos pins s σ H _ I h) fun us s1 hh => ?_) he hpl
  obtain ⟨vs, H1, I1, r1, v, ev, q1⟩ := hh
  subst ev
  refine ⟨I1.kIn, ?_⟩
  cases r1 with
  | cons rv rn =>
    rename_i v' us'
    cases rn
    show wpAny _ _ (call (.ref C) [v']) _ _ _
    have hlim := I1.nolimit
    have hgl : s1.heap.Ns mainGlobals X.mg := I1.mod.glob.keeps I1.bk
    obtain ⟨mb, hb0, hbb⟩ := I1.mod.blt
    have hbl : s1.heap.Ns builtinsNs mb := hb0.keeps I1.bk
    have hbs : mb "super" = some (.type "super") := (hbb "super" (by decide)).trans (by first | rfl | decide +kernel | kernel_rfl)
    obtain ⟨hp, g, dr, tk, os⟩ := s1
    refine wpAny_call (tm_made T I1.kIn hlim hgl hbl hbs (by have := hr.dp; omega) fun h' tk' e d M => ?_)
    show MkP X pins σ Q (.ref e) ⟨h', g, dr, tk', os⟩
    obtain ⟨oe, fv, hoe, hc, hd, hdat, h1⟩ := M.obj
    have hns := M.ns
    obtain ⟨G', g1, g2⟩ := restrict h' fun b => decide (b ≠ e)
    have gk : ∀ b, b ≠ e → G'.get? b = h'.get? b := fun b hb => g1 b (decide_eq_true hb)
    have ge : G'.get? e = none := g2 e (by simp)
    have old : ∀ b o, hp.get? b = some o → G'.get? b = some o := fun b o q => (gk b (Nat.ne_of_lt (Nat.lt_of_lt_of_le (Heap.lt_size q) M.new))).trans (M.keep b o q)
    have ob : ObjOk X.prog X.w (upd H1 d (.xd [(("most" : Str), v)])) G' d (.xd [(("most" : Str), v)]) := ⟨_, hns.at (fun o q => (gk d M.dne).trans q), fun f => relO_most rv f⟩
    have J : Inv X pins σ (upd H1 d (.xd [(("most" : Str), v)])) ⟨G', g, dr, tk', os⟩ := I1.laid (t' := tk') old M.dbig ob
    refine ⟨e, oe, fv, ⟨G', g, dr, tk', os⟩, _, .ref C, some d, rfl, J, fun b o q => ?_, ge, hoe, ⟨hc, hd⟩, hdat, h1, ?_, rfl, I1.bare, raises_own T.exC T.tyC, q1 d (I1.hok.fresh M.dbig)⟩
    · by_cases hbe : b = e
      · have q' : G'.get? b = some o := q
        rw [hbe, ge] at q'
        cases q'
      · exact (gk b hbe).symm.trans q
    · rw [upd_ne (Ne.symm M.dne)]
      exact I1.hok.fresh M.new
/-- raise TooMany(e) -/
def tRaiseTm (C : Addr) (W : WX) (ta : TA) : TS := fun _ σ H => tMkTm C ta σ H fun cls d H' => W cls d σ H'
theorem ps_raiseTm {a : Expr} {ta : TA} {W : WX} {p pos pos2 : Pos} {k : Nat} (hc : X.calm = true) (T : TmTxt X.prog X.K X.mg C fI) (hr : Room k X.A) (tk : Takes X W) (ha : PA X [a] ta) (hg : Gl X "TooMany" := by rfl)
    (he : starEach (a :: []) X.env = (false, eval a X.env) :: starEach [] X.env := by rfl) (hpl : (backTo pos (starEach [] X.env)).any (·.1) = false := by rfl) :
    PS X (.Raise (some (.Call (.Name "TooMany" p) [a] [] pos)) none pos2) (tRaiseTm C W ta) := ps_raise hc tk (pmk_tm T hr ha hg he hpl)
end
end FR

/-! sorted(xs) of a list of tuples of whole numbers, any length: a new list, as long -/
namespace FR
open PySem PySem.Spec PyProof.Rows L2
open PySem.W (EachIs AllAlike Sortable SortsAt dataKind)
abbrev dN (n : Nat) : PyData := .int (n : Int)
abbrev encT (b : Addr × List Nat) : PyData := .tuple (b.2.map dN)
theorem alike_nums : ∀ xs ys : List Nat, PySem.W.alikeAll (xs.map dN) (ys.map dN) = true
  | [], ys => by cases ys <;> rfl
  | _ :: _, [] => rfl
  | x :: xs, y :: ys => by
    simp only [List.map_cons, PySem.W.alikeAll, PySem.W.alike, alike_nums xs ys, Bool.and_self]
theorem depth_nums : ∀ xs : List Nat, PyData.depthAll (xs.map dN) = 0
  | [] => rfl
  | x :: xs => by
    simp only [List.map_cons, PyData.depthAll, PyData.depth, depth_nums xs]
    first | done | rfl
theorem encT_depth (b : Addr × List Nat) : (encT b).depth = 1 := by
  show PyData.depthAll _ + 1 = 1
  rw [depth_nums]
theorem alike_all (bs : List (Addr × List Nat)) : AllAlike (bs.map encT) := by
  intro d hd d' hd'
  obtain ⟨b, _, rfl⟩ := List.mem_map.mp hd
  obtain ⟨b', _, rfl⟩ := List.mem_map.mp hd'
  exact alike_nums _ _
section
variable {prog : Program} {w : World} {A : Around} {s : Shared}
/-- one value that reads as an empty tuple can be sorted, alone -/
theorem sorts_single {v : Value} {b : Addr × List Nat} (r : ∃ as, PySem.Reads s.heap v (encT b) as) (hu : A.units + 1 < cLine) : SortsAt prog w A s (dataKind s.heap [encT b]) [v] := by
  have hal : AllAlike [encT b] := alike_all [b]
  refine ⟨fun u hu' => ?_, general', ?_, fun h2 => absurd h2 (by simp)⟩
  · rcases List.mem_singleton.mp hu' with rfl
    obtain ⟨as, ra⟩ := r
    exact ⟨_, PySem.W.dataKind_some hal (List.mem_singleton.mpr rfl) ra⟩
  · intro E x y a c Q ha hc hq
    obtain ⟨d, as, hd, ra, rfl⟩ := PySem.W.dataKind_inv ha
    obtain ⟨d', as', hd', rb, rfl⟩ := PySem.W.dataKind_inv hc
    rcases List.mem_singleton.mp hd with rfl
    rcases List.mem_singleton.mp hd' with rfl
    have key := PySem.W.oneLt_alike (prog := prog) (w := w) (A := A) (s := s) (E := E) (f := false) (fun z => absurd z Bool.false_ne_true) ra rb (alike_nums _ _) (by simp) (by rw [Nat.min_self, encT_depth]; exact hu) hq
    exact key
end
section
variable {X : Cx}
/-- sorted of a list of tuples of whole numbers; if some is empty, there is one alone -/
def rSortedT (K : PySem.W.Frag) : List V → Hp → VK → Prop := fun vs H Q => ∃ (a : Addr) (bs : List (Addr × List Nat)), vs = [.ref a] ∧ SqL K H a (bs.map fun b => V.ref b.1) ∧
  (∀ b ∈ bs, H b.1 = some (.tup (b.2.map fun n : Nat => V.int (n : Int)))) ∧ ((∀ b ∈ bs, b.2 ≠ []) ∨ bs.length = 1) ∧
  ∀ (xs : List V) (p : Addr), xs.length = bs.length → H p = none → Q (.ref p) (upd H p (.lst xs))
theorem dpAll_nums {K : PySem.W.Frag} {H : Hp} : ∀ l : List Nat, DpAll K H (l.map fun n : Nat => V.int (n : Int)) (l.map dN)
  | [] => .nil
  | n :: l => .cons (.int _) (dpAll_nums l)
theorem cr_sortedT (hu : X.A.units + 64 < cLine) : CallR X (.builtin "sorted") (rSortedT X.K) := by
  intro pins s σ H vs us Q I r h
  obtain ⟨a, bs, rfl, hs, hb, hk, q⟩ := h
  rw [Vals.ref1 r]
  obtain ⟨its, rv, hl, hz⟩ := I.list hs
  rw [List.length_map] at hz
  have eits : its = bs.map fun b => Value.ref b.1 := by
    have gen : ∀ (bs : List (Addr × List Nat)) (us : List Value), Vals (bs.map fun b => V.ref b.1) us → us = bs.map fun b => Value.ref b.1 := by
      intro bs
      induction bs with
      | nil => intro us r; cases r; rfl
      | cons b bs ih =>
        intro us r
        cases r with
        | cons r1 r2 =>
          cases r1
          rw [ih _ r2]
          rfl
    exact gen bs its rv
  have reads : ∀ b ∈ bs, ∃ as, PySem.Reads s.heap (.ref b.1) (encT b) as := fun b hm =>
    Dp.reads I (encT b) (.ref b.1) (.ref b.1) (.tup (SqT.of (hb b hm)) (dpAll_nums b.2)) rfl
  have er : ∀ bs : List (Addr × List Nat), (∀ b ∈ bs, ∃ as, PySem.Reads s.heap (.ref b.1) (encT b) as) → EachIs (fun v b => ∃ as, PySem.Reads s.heap v (encT b) as) (bs.map fun b => Value.ref b.1) bs := by
    intro bs
    induction bs with
    | nil => intro _; exact .nil
    | cons b bs ih => intro h; exact .cons (h b (by simp)) (ih fun c hc => h c (by simp [hc]))
  have e1 : ∀ bs : List (Addr × List Nat), EachIs (fun v (b : Addr × List Nat) => v = Value.ref b.1) (bs.map fun b => Value.ref b.1) bs := by
    intro bs
    induction bs with
    | nil => exact .nil
    | cons b bs ih => exact .cons rfl ih
  have back : ∀ (cs : List (Addr × List Nat)) (out : List Value), EachIs (fun v (b : Addr × List Nat) => v = Value.ref b.1) out cs → Vals (cs.map fun b => V.ref b.1) out := by
    intro cs
    induction cs with
    | nil => intro out e; cases e; exact .nil
    | cons c cs ih => intro out e; cases e with
      | cons h t => exact .cons h (ih _ t)
  -- the new list is laid
  have fin : ∀ (out : List Value) (xs : List V), Vals xs out → xs.length = bs.length → EP X pins σ Q (.ref (s.heap.objs.size + 1)) { s with heap := PyProof.Rows.sortedAll s.heap its (List.toArray out) } := by
    intro out xs rx hx
    obtain ⟨c, hc⟩ := PyProof.Rows.sortedAll_at s.heap its out.toArray
    have hn : H (s.heap.objs.size + 1) = none := I.hok.fresh (Nat.le_succ _)
    refine ⟨.ref (s.heap.objs.size + 1), upd H (s.heap.objs.size + 1) (.lst xs), I.laid (t' := s.toks) (fun _ _ => PyProof.Rows.sortedAll_old) (Nat.le_succ _) ⟨by rw [hx]; exact hz, out, c, rx, hc⟩, rfl, q xs _ hx hn⟩
  rw [eits] at hl fin
  rcases hk with hne | h1
  · refine PySem.W.sorted_data (vs := bs.map fun b => Value.ref b.1) (R := fun v (b : Addr × List Nat) => v = Value.ref b.1) (enc := encT) hl.isList (e1 bs) (er bs reads) (alike_all bs) (.inl fun d hd => ?_) hz (fun b hm => by rw [encT_depth]; omega) fun out ho eo => ?_
    · obtain ⟨b, hm, rfl⟩ := List.mem_map.mp hd
      have h0 := hne b hm
      cases hb2 : b.2 with
      | nil => exact absurd hb2 h0
      | cons n l => exact ⟨dN n, l.map dN, by show PyData.tuple (b.2.map dN) = _; rw [hb2]; rfl⟩
    · exact fin out _ (back _ out eo) (by rw [List.length_map, List.length_mergeSort])
  · cases bs with
    | nil => simp at h1
    | cons b bs' =>
      cases bs' with
      | cons _ _ => simp at h1
      | nil =>
        have rd : ∃ as, PySem.Reads (PySem.W.sortingHeap (PySem.W.copyHeap s.heap [Value.ref b.1]) (s.heap.objs.size + 1) [Value.ref b.1]) (.ref b.1) (encT b) as := by
          obtain ⟨as, ra⟩ := reads b (by simp)
          exact ⟨as, PyProof.Rows.Reads.keeps (fun _ _ => PySem.W.sorting_copy_old) ra⟩
        refine PySem.W.sorted_vals (κ := dataKind (PySem.W.sortingHeap (PySem.W.copyHeap s.heap [Value.ref b.1]) (s.heap.objs.size + 1) [Value.ref b.1]) [encT b]) (vs := [Value.ref b.1]) hl.isList
          (sorts_single (s := { s with heap := PySem.W.sortingHeap (PySem.W.copyHeap s.heap [Value.ref b.1]) (s.heap.objs.size + 1) [Value.ref b.1] }) rd (by show X.A.units + 2 + 1 < cLine; omega)) (by rw [sizeLine_eq]; exact (by decide : 1 ≤ 16777216)) ?_
        have one : ∀ (κ : PyProof.Rows.KeyKind) (v : Value), PySem.W.sortVals κ false [v] [v] = [v] := fun κ v => by simp [PySem.W.sortVals]
        rw [one]
        exact fin [Value.ref b.1] [.ref b.1] (.cons rfl .nil) rfl
end
end FR

/-! the letters of this proof: numbers as values, the names that the top leaves, a callee in one word -/
namespace FR
open PySem PySem.Spec PyProof.Rows L2
abbrev vN (n : Nat) : V := .int (n : Int)
abbrev vNs (l : List Nat) : List V := l.map vN
def kN (l : List Nat) : List L2.Key := l.map fun n : Nat => Sum.inl (n : Int)
theorem kN_kV (l : List Nat) : (kN l).map kV = vNs l := by
  unfold kN
  rw [List.map_map]
  rfl
theorem kN_inj {a b : List Nat} (e : kN a = kN b) : a = b := by
  induction a generalizing b with
  | nil => cases b with
    | nil => rfl
    | cons y b => simp [kN] at e
  | cons x a ih => cases b with
    | nil => simp [kN] at e
    | cons y b =>
      simp only [kN, List.map_cons, List.cons.injEq, Sum.inl.injEq] at e
      rw [ih e.2, Int.ofNat.inj e.1]
theorem sum_nats (l : List Nat) : (l.map fun n : Nat => (n : Int)).sum = ((l.sum : Nat) : Int) := by
  induction l with
  | nil => rfl
  | cons a l ih => simp only [List.map_cons, List.sum_cons, ih, Int.natCast_add]
theorem vNs_ints (l : List Nat) : vNs l = (l.map fun n : Nat => (n : Int)).map V.int := by
  rw [List.map_map]
  rfl
/-- the built-in names are still the built-ins -/
structure Bl (mg : Str → Option Value) : Prop where
  isi : mg "isinstance" = none
  int_ : mg "int" = none
  bool_ : mg "bool" = none
  tup : mg "tuple" = none
  len_ : mg "len" = none
  all_ : mg "all" = none
  zip_ : mg "zip" = none
  sum_ : mg "sum" = none
  enu : mg "enumerate" = none
  rng : mg "range" = none
  abs_ : mg "abs" = none
  sor : mg "sorted" = none
theorem bo_isi : bootBuiltins "isinstance" = some (.builtin "isinstance") := by decide +kernel
theorem bo_int : bootBuiltins "int" = some (.type "int") := by decide +kernel
theorem bo_bool : bootBuiltins "bool" = some (.type "bool") := by decide +kernel
theorem bo_tup : bootBuiltins "tuple" = some (.type "tuple") := by decide +kernel
theorem bo_all : bootBuiltins "all" = some (.builtin "all") := by decide +kernel
theorem bo_sum : bootBuiltins "sum" = some (.builtin "sum") := by decide +kernel
theorem bo_abs : bootBuiltins "abs" = some (.builtin "abs") := by decide +kernel
theorem bo_sor : bootBuiltins "sorted" = some (.builtin "sorted") := by decide +kernel
theorem bo_len : bootBuiltins "len" = some (.builtin "len") := by decide +kernel
/-- a def of the top, by its name, as its callers see it -/
structure Cal (P : Program) (w : World) (K : PySem.W.Frag) (mg : Str → Option Value) (base : Heap) (CX : CXT) (k : Nat) (x : Str) (ps : List Str) (sp : Sp) : Prop where
  ex : ∃ f fd, FnOk P w K mg base CX k f fd ps sp ∧ mg x = some (.ref f) ∧ PySem.W.keepIn K (.ref f) = true ∧ Binds K fd ps []
theorem Cal.mono {P : Program} {w : World} {K : PySem.W.Frag} {mg : Str → Option Value} {base : Heap} {CX : CXT} {j k : Nat} {x : Str} {ps : List Str} {sp : Sp} (c : Cal P w K mg base CX j x ps sp) (h : j ≤ k) : Cal P w K mg base CX k x ps sp := by
  obtain ⟨f, fd, F, r⟩ := c.ex
  exact ⟨f, fd, F.mono h, r⟩
section
variable {X : Cx} {CX : CXT} {k : Nat} {x : Str} {ps : List Str} {sp : Sp} {p pos : Pos} {e : Expr} {es : List Expr} {t : TA}
theorem pe_cal (c : Cal X.prog X.w X.K X.mg X.base CX0 k x ps sp) (hr : Room k X.A) (hg : Gl X x) (ha : PA X (e :: es) t) (hdb : (x == ("__debug__" : Str)) = false := by decide)
    (he : starEach (e :: es) X.env = (false, eval e X.env) :: starEach es X.env := by rfl) (hpl : (backTo pos (starEach es X.env)).any (·.1) = false := by rfl) :
    PE X (.Call (.Name x p) (e :: es) [] pos) (tCall sp [] E0 t) := by
  obtain ⟨f, fd, F, hm, hk, hb⟩ := c.ex
  exact pe_call F hr hg hm hk hb .nil pass0 ha hdb he hpl
theorem pe_cal0 (c : Cal X.prog X.w X.K X.mg X.base CX0 k x ps sp) (hr : Room k X.A) (hg : Gl X x) (hdb : (x == ("__debug__" : Str)) = false := by decide) :
    PE X (.Call (.Name x p) [] [] pos) (tCall sp [] E0 tNil) := by
  obtain ⟨f, fd, F, hm, hk, hb⟩ := c.ex
  exact pe_call0 F hr hg hm hk hb .nil pass0 hdb
/-- one that may raise -/
theorem pe_calX {W : WX} {E : XK} (c : Cal X.prog X.w X.K X.mg X.base (L2.CX X.prog X.w) k x ps sp) (tk : Takes X W) (hW : ∀ cls d σ H, E cls d H → W cls d σ H) (hr : Room k X.A) (hg : Gl X x) (ha : PA X (e :: es) t)
    (hdb : (x == ("__debug__" : Str)) = false := by decide)
    (he : starEach (e :: es) X.env = (false, eval e X.env) :: starEach es X.env := by rfl) (hpl : (backTo pos (starEach es X.env)).any (·.1) = false := by rfl) :
    PE X (.Call (.Name x p) (e :: es) [] pos) (tCall sp [] E t) := by
  obtain ⟨f, fd, F, hm, hk, hb⟩ := c.ex
  exact pe_call F hr hg hm hk hb .nil (passes_call tk hW) ha hdb he hpl
theorem pe_calS {W : WX} (c : Cal X.prog X.w X.K X.mg X.base (L2.CX X.prog X.w) k x ps sp) (tk : Takes X W) (hr : Room k X.A) (hg : Gl X x) (ha : PA X (e :: es) t) (hdb : (x == ("__debug__" : Str)) = false := by decide)
    (he : starEach (e :: es) X.env = (false, eval e X.env) :: starEach es X.env := by rfl) (hpl : (backTo pos (starEach es X.env)).any (·.1) = false := by rfl) :
    PE X (.Call (.Name x p) (e :: es) [] pos) (tCallS sp (WE W) t) := by
  obtain ⟨f, fd, F, hm, hk, hb⟩ := c.ex
  exact pe_callS F hr hg hm hk hb (fun σ => passAt tk σ) ha hdb he hpl
end
/-- what a def of the top is, and that its name means it -/
structure Def (K : PySem.W.Frag) (mg : Str → Option Value) (x : Str) (st : Stmt) (ps : List Str) : Prop where
  ex : ∃ f fd, Fun K x x st f fd ∧ mg x = some (.ref f) ∧ Binds K fd ps []
section
variable {P : Program} {w : World} {K : PySem.W.Frag} {mg : Str → Option Value} {base : Heap}
/-- a def that raises nothing, by its body -/
theorem Def.cal {x : Str} {st : Stmt} {N ps : List Str} {k : Nat} {sp : Sp} (D : Def K mg x st ps) (S : FnScope N ps (defScope st)) (len : ∀ vs H Q E, sp vs H Q E → vs.length = ps.length)
    (hbody : ∀ (f : Addr) (cdv : Value) (A : Around) (outer : List Env) (s : Shared) (H : Hp) (vs : List V) (Q : VK) (E : XK), Room k (A.deeper (envOfC x (defScope st) s.heap.objs.size f cdv)) → sp vs H Q E →
      ∃ t, PSs (cxOf CX0 P w K mg base N x (defScope st) f cdv A outer s H E).nox (defBody st) t ∧ t { nx := fun _ H' => Q .non H', rt := Q } (start N vs) H) : Cal P w K mg base CX0 (k + 1) x ps sp := by
  obtain ⟨f, fd, F, g, b⟩ := D.ex
  exact ⟨f, fd, F.ok S len fun cdv A outer s H vs Q E hr h => hbody f cdv A outer s H vs Q E hr h, g, F.kp, b⟩
theorem Def.calX {x : Str} {st : Stmt} {N ps : List Str} {k : Nat} {sp : Sp} (D : Def K mg x st ps) (S : FnScope N ps (defScope st)) (len : ∀ vs H Q E, sp vs H Q E → vs.length = ps.length)
    (hbody : ∀ (f : Addr) (cdv : Value) (A : Around) (outer : List Env) (s : Shared) (H : Hp) (vs : List V) (Q : VK) (E : XK), Room k (A.deeper (envOfC x (defScope st) s.heap.objs.size f cdv)) → sp vs H Q E →
      ∃ t, PSs (cxOf (L2.CX P w) P w K mg base N x (defScope st) f cdv A outer s H E) (defBody st) t ∧ t { nx := fun _ H' => Q .non H', rt := Q } (start N vs) H) : Cal P w K mg base (L2.CX P w) (k + 1) x ps sp := by
  obtain ⟨f, fd, F, g, b⟩ := D.ex
  exact ⟨f, fd, F.okX S len fun cdv A outer s H vs Q E hr h => hbody f cdv A outer s H vs Q E hr h, g, F.kp, b⟩
end
theorem sUpd {H H' : Hp} {p : Addr} {o : HO} (s : Same H H') (h : H p = none) : Same H (upd H' p o) := fun b u e => by
  rw [upd_ne (ne_of_none e h)]
  exact s b u e
theorem sUpd2 {H H' : Hp} {p : Addr} {o : HO} (s : Same H H') (h : H' p = none) : Same H (upd H' p o) := sUpd s (s.free h)
end FR

/-! is_integer, is_within, check_number, check_many -/
namespace FR
open PySem PySem.Spec PyProof.Rows L2
/-- a thing that is no integer: a flag, or of another built-in type -/
def NoInt (K : PySem.W.Frag) (H : Hp) (x : V) : Prop := (∃ b, x = .bl b) ∨ ∃ T, TyX K H x (.type T) ∧ kitB T "int" = some false
def spInteger (K : PySem.W.Frag) : Sp := fun vs H Q _ => ∃ x, vs = [x] ∧ ((∃ i, x = .int i ∧ Q (.bl true) H) ∨ (NoInt K H x ∧ Q (.bl false) H))
def spWithin (K : PySem.W.Frag) : Sp := fun vs H Q _ => ∃ (x : V) (lo hi : Int), vs = [x, .int lo, .int hi] ∧ ((∃ i, x = .int i ∧ Q (.bl (decide (lo ≤ i) && decide (i ≤ hi))) H) ∨ (NoInt K H x ∧ Q (.bl false) H))
def spCheckN (K : PySem.W.Frag) (CN : Addr) : Sp := fun vs H Q E => ∃ (x : V) (lo hi : Int), vs = [x, .int lo, .int hi] ∧
  ((∃ i, x = .int i ∧ (lo ≤ i ∧ i ≤ hi → Q .non H) ∧ (¬ (lo ≤ i ∧ i ≤ hi) → E (.ref CN) none H)) ∨ (NoInt K H x ∧ E (.ref CN) none H))
def spCheckM (CT : Addr) : Sp := fun vs H Q E => ∃ (n m : Int), vs = [.int n, .int m] ∧ (n ≤ m → Q .non H) ∧ (m < n → ∀ d, H d = none → E (.ref CT) (some d) (upd H d (.xd [(("most" : Str), .int m)])))
section
variable {P : Program} {w : World} {K : PySem.W.Frag} {mg : Str → Option Value} {base : Heap}
abbrev sInteger : Stmt := top 6
theorem scInteger : FnScope ["thing"] ["thing"] (defScope sInteger) := ⟨rfl, rfl, rfl, by decide +kernel, rfl, by decide +kernel, by decide +kernel⟩
theorem ok_integer (D : Def K mg "is_integer" sInteger ["thing"]) (B : Bl mg) : Cal P w K mg base CX0 1 "is_integer" ["thing"] (spInteger K) := by
  refine D.cal scInteger (fun vs H Q E h => ?_) (fun f cdv A outer s H vs Q E hr h => ?_)
  · obtain ⟨x, rfl, _⟩ := h
    rfl
  · obtain ⟨x, rfl, h⟩ := h
    refine ⟨_, pss_one (ps_ret (pe_and (pe_callB call_isi (by rfl) B.isi bo_isi (pa_cons (pv 0) (pa_cons (pe_bltn (v := .ty "int") (by rfl) B.int_ bo_int rfl) pa_nil)))
      (pe_one (pe_not (pe_callB call_isi (by rfl) B.isi bo_isi (pa_cons (pv 0) (pa_cons (pe_bltn (v := .ty "bool") (by rfl) B.bool_ bo_bool rfl) pa_nil))))))), ?_⟩
    rcases h with ⟨i, rfl, q⟩ | ⟨⟨b, rfl⟩ | ⟨T, ty, ki⟩, q⟩
    · refine ⟨_, rfl, _, _, _, _, true, rfl, .ty _, .base (.int i), kit_ty (by decide +kernel), true, rfl, iteT ?_⟩
      exact ⟨_, rfl, _, _, _, _, false, rfl, .ty _, .base (.int i), kit_ty (by decide +kernel), false, rfl, q⟩
    · refine ⟨_, rfl, _, _, _, _, true, rfl, .ty _, .base (.bl b), kit_ty (by decide +kernel), true, rfl, iteT ?_⟩
      exact ⟨_, rfl, _, _, _, _, true, rfl, .ty _, .base (.bl b), kit_ty (by decide +kernel), true, rfl, q⟩
    · exact ⟨_, rfl, _, _, _, _, false, rfl, .ty _, ty, kit_ty ki, false, rfl, iteF q⟩
abbrev sWithin : Stmt := top 7
theorem scWithin : FnScope ["thing", "least", "most"] ["thing", "least", "most"] (defScope sWithin) := ⟨rfl, rfl, rfl, by decide +kernel, rfl, by decide +kernel, by decide +kernel⟩
theorem ok_within (D : Def K mg "is_within" sWithin ["thing", "least", "most"]) (C1 : Cal P w K mg base CX0 1 "is_integer" ["thing"] (spInteger K)) :
    Cal P w K mg base CX0 2 "is_within" ["thing", "least", "most"] (spWithin K) := by
  refine D.cal scWithin (fun vs H Q E h => ?_) (fun f cdv A outer s H vs Q E hr h => ?_)
  · obtain ⟨x, lo, hi, rfl, _⟩ := h
    rfl
  · obtain ⟨x, lo, hi, rfl, h⟩ := h
    refine ⟨_, pss_one (ps_ret (pe_and (pe_cal C1 hr (by rfl) (pa_cons (pv 0) pa_nil)) (pe_one (pe_chain op_le op_le (pv 1) (pv 0) (pv 2))))), ?_⟩
    rcases h with ⟨i, rfl, q⟩ | ⟨no, q⟩
    · refine ⟨_, rfl, _, rfl, .inl ⟨i, rfl, true, rfl, iteT ?_⟩⟩
      refine ⟨_, rfl, _, rfl, _, _, rfl, rfl, _, rfl, ?_⟩
      by_cases h1 : lo ≤ i
      · rw [decide_eq_true h1] at q ⊢
        rw [Bool.true_and] at q
        exact iteT ⟨_, rfl, _, _, rfl, rfl, q⟩
      · rw [decide_eq_false h1] at q ⊢
        exact iteF q
    · exact ⟨_, rfl, _, rfl, .inr ⟨no, false, rfl, iteF q⟩⟩
/-- NoNumber -/
structure NnTxt (K : PySem.W.Frag) (mg : Str → Option Value) (CN : Addr) : Prop where
  g : mg "NoNumber" = some (.ref CN)
  x : PySem.W.excIn K CN [.type "ValueError", .type "Exception", .type "BaseException", .type "object"] "ValueError.__new__" = true
  k : PySem.W.keepIn K (.ref CN) = true
  s : PySem.W.subIn K (.ref CN) (.type "BaseException") = some true
  t : PySem.W.typeIn K (.ref CN) = some (.type "type")
abbrev sCheckN : Stmt := top 10
theorem scCheckN : FnScope ["thing", "least", "most"] ["thing", "least", "most"] (defScope sCheckN) := ⟨rfl, rfl, rfl, by decide +kernel, rfl, by decide +kernel, by decide +kernel⟩
theorem ok_checkN {CN : Addr} (D : Def K mg "check_number" sCheckN ["thing", "least", "most"]) (N : NnTxt K mg CN) (C2 : Cal P w K mg base CX0 2 "is_within" ["thing", "least", "most"] (spWithin K)) :
    Cal P w K mg base (L2.CX P w) 3 "check_number" ["thing", "least", "most"] (spCheckN K CN) := by
  refine D.calX scCheckN (fun vs H Q E h => ?_) (fun f cdv A outer s H vs Q E hr h => ?_)
  · obtain ⟨x, lo, hi, rfl, _⟩ := h
    rfl
  · obtain ⟨x, lo, hi, rfl, h⟩ := h
    refine ⟨_, pss_one (ps_if (pt_not (pt_val (pe_cal C2 hr (by rfl) (pa_cons (pv 0) (pa_cons (pv 1) (pa_cons (pv 2) pa_nil))))))
      (pss_one (ps_raise rfl (takes_of rfl rfl rfl rfl) (pmk_own0 PySem.F.excBase_ValueError N.x N.g N.k (raises_own N.s N.t) (by rfl)))) pss_nil), ?_⟩
    rcases h with ⟨i, rfl, q1, q2⟩ | ⟨no, q⟩
    · refine ⟨_, rfl, _, rfl, _, rfl, _, _, _, rfl, .inl ⟨i, rfl, _, rfl, ?_⟩⟩
      by_cases c : lo ≤ i ∧ i ≤ hi
      · have e : (decide (lo ≤ i) && decide (i ≤ hi)) = true := by simp [c.1, c.2]
        rw [e]
        exact iteF (q1 c)
      · have e : (decide (lo ≤ i) && decide (i ≤ hi)) = false := by
          rw [Bool.and_eq_false_iff]
          by_cases h1 : lo ≤ i
          · exact .inr (decide_eq_false fun h2 => c ⟨h1, h2⟩)
          · exact .inl (decide_eq_false h1)
        rw [e]
        exact iteT (q2 c)
    · exact ⟨_, rfl, _, rfl, _, rfl, _, _, _, rfl, .inr ⟨no, _, rfl, iteT q⟩⟩
abbrev sCheckM : Stmt := top 11
theorem scCheckM : FnScope ["number", "most"] ["number", "most"] (defScope sCheckM) := ⟨rfl, rfl, rfl, by decide +kernel, rfl, by decide +kernel, by decide +kernel⟩
theorem ok_checkM {CT fT : Addr} (D : Def K mg "check_many" sCheckM ["number", "most"]) (T : TmTxt P K mg CT fT) :
    Cal P w K mg base (L2.CX P w) 2 "check_many" ["number", "most"] (spCheckM CT) := by
  refine D.calX (k := 1) scCheckM (fun vs H Q E h => ?_) (fun f cdv A outer s H vs Q E hr h => ?_)
  · obtain ⟨n, m, rfl, _⟩ := h
    rfl
  · obtain ⟨n, m, rfl, q1, q2⟩ := h
    refine ⟨_, pss_one (ps_if (pt_cmpR op_gt (pv 0) (pv 1) (nomark _)) (pss_one (ps_raiseTm rfl T hr (takes_of rfl rfl rfl rfl) (pa_cons (pv 1) pa_nil))) pss_nil), ?_⟩
    refine ⟨_, rfl, _, rfl, _, _, rfl, rfl, _, rfl, ?_⟩
    by_cases c : m < n
    · rw [decide_eq_true c]
      exact iteT ⟨_, rfl, _, rfl, q2 c⟩
    · rw [decide_eq_false c]
      exact iteF (q1 (by omega))
end
end FR

/-! are_ascending, is_lot_of, are_counts -/
namespace FR
open PySem PySem.Spec PyProof.Rows L2
/-- a comprehension over anything that goes n turns -/
theorem lc_any {J : It} {n : Nat} {g : TG} {tt : TT} {te : TE} {vs : List Nat} {σ : L2.St} {H1 : Hp} {D : Addr} {Qd : Hp → Prop} (Pv : Nat → Hp → Prop) (h0 : Pv 0 (upd H1 D (.lst []))) (hg : ∀ i H, i < n → Pv i H → J.go i H) (hz : ∀ H, Pv n H → J.stop n H)
    (hs : ∀ i x H H', i < n → Pv i H → J.yld i H x H' → g x (wipe σ vs) H' fun σ2 H2 => wipe σ2 vs = wipe σ vs ∧ tt σ2 H2 fun b H3 =>
      if b = true then te σ2 H3 fun y H4 => ∃ acc, H4 D = some (.lst acc) ∧ acc.length < sizeLine ∧ Pv (i + 1) (upd H4 D (.lst (acc ++ [y]))) else Pv (i + 1) H3)
    (hd : ∀ H, Pv n H → Qd H) :
    ∃ W : Nat → Nat → Hp → Prop, (∃ m, W 0 m (upd H1 D (.lst []))) ∧ ∀ i m H, W i m H → (J.stop i H ∧ Qd H) ∨ (J.go i H ∧ ∃ Nx : Hp → Prop, (∀ H', Nx H' → ∃ m', m' < m ∧ W (i + 1) m' H') ∧
      ∀ x H', J.yld i H x H' → g x (wipe σ vs) H' fun σ2 H2 => wipe σ2 vs = wipe σ vs ∧ tt σ2 H2 fun b H3 =>
        if b = true then te σ2 H3 fun y H4 => ∃ acc, H4 D = some (.lst acc) ∧ acc.length < sizeLine ∧ Nx (upd H4 D (.lst (acc ++ [y]))) else Nx H3) := by
  refine ⟨fun i m H => m = n - i ∧ i ≤ n ∧ Pv i H, ⟨_, rfl, Nat.zero_le _, h0⟩, fun i m H hW => ?_⟩
  obtain ⟨rfl, hi, hp⟩ := hW
  by_cases e : i < n
  · exact .inr ⟨hg i H e hp, Pv (i + 1), fun H' hn => ⟨n - (i + 1), by omega, rfl, e, hn⟩, fun x H' hy => hs i x H H' e hp hy⟩
  · have ei : i = n := by omega
    subst ei
    exact .inl ⟨hz H hp, hd H hp⟩
theorem vNs_drop (l : List Nat) (k : Nat) : (vNs l).drop k = vNs (l.drop k) := by unfold vNs; simp
theorem vNs_take (l : List Nat) (k : Nat) : (vNs l).take k = vNs (l.take k) := by unfold vNs; simp
theorem vNs_len (l : List Nat) : (vNs l).length = l.length := by unfold vNs; simp
theorem vNs_app (l m : List Nat) : vNs (l ++ m) = vNs l ++ vNs m := by unfold vNs; simp
theorem vNs_get {l : List Nat} {i : Nat} (h : i < l.length) : (vNs l)[i]? = some (vN l[i]) := by unfold vNs; rw [List.getElem?_map, List.getElem?_eq_getElem h]; rfl
theorem vNs_of {l : List Nat} {i : Nat} {x : V} (h : (vNs l)[i]? = some x) : ∃ hi : i < l.length, x = vN l[i] := by
  have hi : i < l.length := by
    have := (List.getElem?_eq_some_iff.mp h).1
    rw [vNs_len] at this
    exact this
  rw [vNs_get hi] at h
  exact ⟨hi, (Option.some.inj h).symm⟩
theorem cut_from (xs : List V) (k : Nat) : cutV xs (some (k : Int)) none = xs.drop k := by
  unfold cutV
  rw [HT.sIx_nat, HT.sIx_none]
  by_cases h : k ≤ xs.length
  · rw [Nat.min_eq_left h, List.take_of_length_le (by rw [List.length_drop]; omega)]
  · have h' : xs.length ≤ k := by omega
    rw [Nat.min_eq_right h', List.drop_eq_nil_of_le (Nat.le_refl _), List.drop_eq_nil_of_le h']
    simp
theorem cut_to (xs : List V) (k : Nat) : cutV xs none (some (k : Int)) = xs.take k := by
  unfold cutV
  rw [HT.sIx_nat, HT.sIx_none, List.drop_zero, Nat.sub_zero]
  by_cases h : k ≤ xs.length
  · rw [Nat.min_eq_left h]
  · have h' : xs.length ≤ k := by omega
    rw [Nat.min_eq_right h', List.take_of_length_le (Nat.le_refl _), List.take_of_length_le h']
/-- t[k:], whichever way -/
theorem sl_from {K : PySem.W.Frag} {H : Hp} {a : Addr} {xs : List V} {k : Nat} {i : Int} {Q : VK} (hi : i = (k : Int)) (h : H a = some (.tup xs)) (q : ∀ (b : Addr) (H' : Hp), Same H H' → H' b = some (.tup (xs.drop k)) → Q (.ref b) H') :
    rSlA K (.ref a) (some i) none H Q := by
  subst hi
  refine ⟨a, xs, rfl, SqT.of h, fun hw => ?_, fun _ p hp => q p _ (sUpd (Same.refl H) hp) ?_⟩
  · have e : xs.drop k = xs := by
      rw [HT.sIx_nat, HT.sIx_none] at hw
      have h0 := hw.1
      by_cases hk : k = 0
      · rw [hk, List.drop_zero]
      · have : xs.length = 0 := by omega
        rw [List.length_eq_zero_iff.mp this, List.drop_nil]
    exact q a H (Same.refl H) (by rw [e]; exact h)
  · rw [upd_same, cut_from]
/-- t[:k] -/
theorem sl_to {K : PySem.W.Frag} {H : Hp} {a : Addr} {xs : List V} {k : Nat} {i : Int} {Q : VK} (hi : i = (k : Int)) (h : H a = some (.tup xs)) (q : ∀ (b : Addr) (H' : Hp), Same H H' → H' b = some (.tup (xs.take k)) → Q (.ref b) H') :
    rSlA K (.ref a) none (some i) H Q := by
  subst hi
  refine ⟨a, xs, rfl, SqT.of h, fun hw => ?_, fun _ p hp => q p _ (sUpd (Same.refl H) hp) ?_⟩
  · have e : xs.take k = xs := by
      rw [HT.sIx_nat, HT.sIx_none] at hw
      have h0 := hw.2
      exact List.take_of_length_le (by omega)
    exact q a H (Same.refl H) (by rw [e]; exact h)
  · rw [upd_same, cut_to]
theorem all_true (n : Nat) : (List.replicate n true).all id = true := by simp
theorem map_true (n : Nat) : (List.replicate n true).map V.bl = List.replicate n (V.bl true) := by simp
def spAsc : Sp := fun vs H Q _ => ∃ (a : Addr) (l : List Nat), vs = [.ref a] ∧ H a = some (.tup (vNs l)) ∧ l.Pairwise (· < ·) ∧ l.length ≤ 100 ∧ ∀ H', Same H H' → Q (.bl true) H'
def spLot : Sp := fun vs H Q _ => ∃ (a : Addr) (l : List Nat) (n : Nat), vs = [.ref a, vN n] ∧ H a = some (.tup (vNs l)) ∧ l.Pairwise (· < ·) ∧ (∀ t, t ∈ l → t < n) ∧ l.length ≤ 100 ∧ ∀ H', Same H H' → Q (.bl true) H'
def spCounts : Sp := fun vs H Q _ => ∃ (a : Addr) (l : List Nat), vs = [.ref a, .int 0] ∧ H a = some (.tup (vNs l)) ∧ 1 ≤ l.length ∧ l.length ≤ 8 ∧ (∀ t, t ∈ l → t ≤ 10 ^ 30) ∧ ∀ H', Same H H' → Q (.bl true) H'
section
variable {P : Program} {w : World} {K : PySem.W.Frag} {mg : Str → Option Value} {base : Heap}
abbrev sAsc : Stmt := top 8
theorem scAsc : FnScope ["things", "one", "other"] ["things"] (defScope sAsc) := ⟨rfl, rfl, rfl, by decide +kernel, rfl, by decide +kernel, by decide +kernel⟩
theorem ok_asc (D : Def K mg "are_ascending" sAsc ["things"]) (B : Bl mg) : Cal P w K mg base CX0 1 "are_ascending" ["things"] spAsc := by
  refine D.cal scAsc (fun vs H Q E h => ?_) (fun f cdv A outer s H vs Q E hr h => ?_)
  · obtain ⟨a, l, rfl, _⟩ := h
    rfl
  · obtain ⟨a, l, rfl, ha, hp, hl, q⟩ := h
    refine ⟨_, pss_one (ps_ret (pe_callB (cr_all rfl) (by rfl) B.all_ bo_all (pa_cons (pe_lc (own := [("one", 1), ("other", 2)]) (g := gTup K 2 (gCons (gName 1) (gCons (gName 2) gNil))) (tt := tYes) rfl scAsc.nd
      (RZ.pi_zipA (by rfl) B.zip_ (pa_cons (pv 0) (pa_cons (pe_slice sl_tupA (pv 0) (po_some pe_int) po_none) pa_nil)))
      (blkOk_by (N := ["things", "one", "other"]) (sc := defScope sAsc) (by decide +kernel))
      (fun _ _ _ _ _ => pg_tup rfl (pgs_cons (pg_name (i := 1) scAsc.nd rfl (Or.inl rfl)) (pgs_cons (pg_name (i := 2) scAsc.nd rfl (Or.inl rfl)) pgs_nil)))
      (fun _ _ _ _ _ => pts_nil) (fun _ _ _ _ _ => pe_cmpR op_lt (pv 1) (pv 2) (nomark _))) pa_nil))), ?_⟩
    refine ⟨_, rfl, _, rfl, 1, rfl, ?_⟩
    dsimp only [tNoPart]
    refine sl_from (k := 1) rfl ha fun b H1 s1 hb => ?_
    have ha1 := s1 _ _ ha
    rw [vNs_drop] at hb
    refine ⟨a, b, _, _, rfl, .inr ⟨SqT.of ha1, SqT.of hb, fun Dn hD => ?_⟩⟩
    refine lc_any (n := (l.drop 1).length) (fun i H' => Same H1 H' ∧ H' Dn = some (.lst (List.replicate i (V.bl true)))) ⟨sUpd (Same.refl H1) hD, upd_same⟩
      (fun i H' hi hP => ?_) (fun H' hP => ⟨_, _, SqT.of (hP.1 _ _ ha1), SqT.of (hP.1 _ _ hb), .inr (by rw [vNs_len]; exact Nat.le_refl _)⟩) (fun i x H' H'' hi hP hy => ?_) (fun H' hP => ?_)
    · have h1 : i < l.length := by rw [List.length_drop] at hi; omega
      exact ⟨_, _, vN l[i], vN (l.drop 1)[i], SqT.of (hP.1 _ _ ha1), SqT.of (hP.1 _ _ hb), vNs_get h1, vNs_get hi⟩
    · obtain ⟨T, x1, y1, rfl, hT, rfl, hx, hy⟩ := hy
      have ex := hx _ (SqT.of (hP.1 _ _ ha1))
      have ey := hy _ (SqT.of (hP.1 _ _ hb))
      have h1 : i < l.length := by rw [List.length_drop] at hi; omega
      have h2 : i + 1 < l.length := by rw [List.length_drop] at hi; omega
      rw [vNs_get h1] at ex
      rw [vNs_get hi] at ey
      have ed : (l.drop 1)[i] = l[1 + i] := List.getElem_drop
      rw [ed] at ey
      have ex' : vN l[i] = x1 := Option.some.inj ex
      have ey' : vN l[1 + i] = y1 := Option.some.inj ey
      subst ex' ey'
      have hDT : Dn ≠ T := ne_of_none hP.2 hT
      refine ⟨T, _, rfl, SqT.of upd_same, rfl, _, _, rfl, _, _, rfl, rfl, rfl, ?_⟩
      refine ⟨_, rfl, _, rfl, _, _, rfl, rfl, List.replicate i (V.bl true), ?_, ?_, ?_⟩
      · rw [upd_ne hDT]
        exact hP.2
      · rw [List.length_replicate, sizeLine_eq]
        omega
      · have lt : (l[i] : Int) < (l[1 + i] : Int) := by
          have := List.pairwise_iff_getElem.mp hp i (1 + i) h1 (by omega) (by omega)
          omega
        refine ⟨sUpd (sUpd2 hP.1 hT) hD, ?_⟩
        dsimp only
        rw [upd_same, decide_eq_true lt, List.replicate_succ']
    · refine ⟨Dn, List.replicate (l.drop 1).length true, rfl, ?_, ?_⟩
      · rw [map_true]
        exact SqL.of hP.2
      · rw [all_true]
        exact q H' (s1.trans hP.1)
abbrev sLot : Stmt := top 9
theorem scLot : FnScope ["thing", "many", "one"] ["thing", "many"] (defScope sLot) := ⟨rfl, rfl, rfl, by decide +kernel, rfl, by decide +kernel, by decide +kernel⟩
theorem ok_lot (D : Def K mg "is_lot_of" sLot ["thing", "many"]) (B : Bl mg) (C2 : Cal P w K mg base CX0 2 "is_within" ["thing", "least", "most"] (spWithin K)) (C1 : Cal P w K mg base CX0 1 "are_ascending" ["things"] spAsc) :
    Cal P w K mg base CX0 3 "is_lot_of" ["thing", "many"] spLot := by
  refine D.cal scLot (fun vs H Q E h => ?_) (fun f cdv A outer s H vs Q E hr h => ?_)
  · obtain ⟨a, l, n, rfl, _⟩ := h
    rfl
  · obtain ⟨a, l, n, rfl, ha, hp, hlt, hl, q⟩ := h
    refine ⟨_, pss_cons (ps_if (PW.pt (pw_or (pt_not (pt_val (pe_callB call_isi (by rfl) B.isi bo_isi (pa_cons (pv 0) (pa_cons (pe_bltn (v := .ty "tuple") (by rfl) B.tup bo_tup rfl) pa_nil)))))
        (pw_or1 (pt_not (pt_val (pe_callB (cr_all rfl) (by rfl) B.all_ bo_all (pa_cons (pe_lc (own := [("one", 2)]) (g := gName 2) (tt := tYes) rfl scLot.nd (pi_tup (pv 0))
          (blkOk_by (N := ["thing", "many", "one"]) (sc := defScope sLot) (by decide +kernel)) (fun _ _ _ _ _ => pg_name (i := 2) scLot.nd rfl (Or.inl rfl)) (fun _ _ _ _ _ => pts_nil)
          (fun _ _ _ _ _ => pe_cal C2 hr (by rfl) (pa_cons (pv 2) (pa_cons pe_int (pa_cons (pe_op op_sub (pv 1) pe_int) pa_nil))))) pa_nil)))))))
        (pss_one (ps_ret pe_bl)) pss_nil)
      (pss_one (ps_ret (pe_cal C1 (hr.mono (by decide)) (by rfl) (pa_cons (pv 0) pa_nil)))), ?_⟩
    refine ⟨_, rfl, _, _, _, _, true, rfl, .ty _, .base (.tup ha), kit_ty (by decide +kernel), true, rfl, iteF ?_⟩
    refine ⟨_, rfl, a, rfl, ⟨_, SqT.of ha⟩, fun Dn hD => ?_⟩
    refine lc_any (n := (vNs l).length) (fun i H' => Same H H' ∧ H' Dn = some (.lst (List.replicate i (V.bl true)))) ⟨sUpd (Same.refl H) hD, upd_same⟩
      (fun i H' hi hP => ?_) (fun H' hP => ⟨_, SqT.of (hP.1 _ _ ha), Nat.le_refl _⟩) (fun i x H' H'' hi hP hy => ?_) (fun H' hP => ?_)
    · exact ⟨_, _, SqT.of (hP.1 _ _ ha), List.getElem?_eq_getElem hi⟩
    · obtain ⟨rfl, hx⟩ := hy
      obtain ⟨h1, rfl⟩ := vNs_of (hx _ (SqT.of (hP.1 _ _ ha)))
      have hmem := hlt l[i] (List.getElem_mem h1)
      refine ⟨rfl, _, rfl, _, rfl, _, _, rfl, rfl, ?_⟩
      refine ⟨_, _, _, rfl, .inl ⟨_, rfl, List.replicate i (V.bl true), hP.2, ?_, sUpd hP.1 hD, ?_⟩⟩
      · rw [List.length_replicate, sizeLine_eq]
        omega
      · have e1 : (decide ((0 : Int) ≤ (l[i] : Int)) && decide ((l[i] : Int) ≤ (n : Int) - 1)) = true := by
          rw [Bool.and_eq_true, decide_eq_true_eq, decide_eq_true_eq]
          omega
        rw [upd_same, e1, List.replicate_succ']
    · refine ⟨Dn, List.replicate (vNs l).length true, rfl, ?_, ?_⟩
      · rw [map_true]
        exact SqL.of hP.2
      · rw [all_true]
        refine ⟨true, rfl, iteF ?_⟩
        exact ⟨_, rfl, a, l, rfl, hP.1 _ _ ha, hp, hl, fun H'' s2 => q _ (hP.1.trans s2)⟩
/-- the constants of the module -/
structure Cst (mg : Str → Option Value) : Prop where
  kinds : ∃ t, mg "MOST_KINDS" = some (.int 8 t)
  ofKind : ∃ t, mg "MOST_OF_KIND" = some (.int (10 ^ 30) t)
  counted : ∃ t, mg "MOST_COUNTED" = some (.int 60 t)
  states : ∃ t, mg "MOST_STATES" = some (.int 5000 t)
theorem pe_cst {X : Cx} {x : Str} {pos : Pos} {i : Int} (h : ∃ t, X.mg x = some (.int i t)) (hg : Gl X x) (hd : (x == ("__debug__" : Str)) = false := by decide) : PE X (.Name x pos) (tC (.int i)) := by
  obtain ⟨t, h⟩ := h
  exact pe_glob hg h ⟨t, rfl⟩ hd
abbrev sCounts : Stmt := top 17
theorem scCounts : FnScope ["thing", "least", "number"] ["thing", "least"] (defScope sCounts) := ⟨rfl, rfl, rfl, by decide +kernel, rfl, by decide +kernel, by decide +kernel⟩
theorem ok_counts (D : Def K mg "are_counts" sCounts ["thing", "least"]) (B : Bl mg) (G : Cst mg) (C2 : Cal P w K mg base CX0 2 "is_within" ["thing", "least", "most"] (spWithin K)) :
    Cal P w K mg base CX0 3 "are_counts" ["thing", "least"] spCounts := by
  refine D.cal scCounts (fun vs H Q E h => ?_) (fun f cdv A outer s H vs Q E hr h => ?_)
  · obtain ⟨a, l, rfl, _⟩ := h
    rfl
  · obtain ⟨a, l, rfl, ha, h1, h8, hlt, q⟩ := h
    refine ⟨_, pss_cons (ps_if (PW.pt (pw_or (pt_not (pt_val (pe_callB call_isi (by rfl) B.isi bo_isi (pa_cons (pv 0) (pa_cons (pe_bltn (v := .ty "tuple") (by rfl) B.tup bo_tup rfl) pa_nil)))))
        (pw_or1 (pt_not (pt_chain op_le op_le pe_int (pe_callB call_len (by rfl) B.len_ bo_len (pa_cons (pv 0) pa_nil)) (pe_cst G.kinds (by rfl)))))))
        (pss_one (ps_ret pe_bl)) pss_nil)
      (pss_one (ps_ret (pe_callB (cr_all rfl) (by rfl) B.all_ bo_all (pa_cons (pe_lc (own := [("number", 2)]) (g := gName 2) (tt := tYes) rfl scCounts.nd (pi_tup (pv 0))
          (blkOk_by (N := ["thing", "least", "number"]) (sc := defScope sCounts) (by decide +kernel)) (fun _ _ _ _ _ => pg_name (i := 2) scCounts.nd rfl (Or.inl rfl)) (fun _ _ _ _ _ => pts_nil)
          (fun _ _ _ _ _ => pe_cal C2 hr (by rfl) (pa_cons (pv 2) (pa_cons (pv 1) (pa_cons (pe_cst G.ofKind (by rfl)) pa_nil))))) pa_nil)))), ?_⟩
    refine ⟨_, rfl, _, _, _, _, true, rfl, .ty _, .base (.tup ha), kit_ty (by decide +kernel), true, rfl, iteF ?_⟩
    refine ⟨_, rfl, _, _, rfl, .inr ⟨_, SqT.of ha, rfl⟩, _, _, rfl, rfl, true, ?_, iteT ⟨_, _, rfl, rfl, true, ?_, iteF ?_⟩⟩
    · show V.bl (decide ((1 : Int) ≤ (((vNs l).length : Nat) : Int))) = V.bl true
      rw [decide_eq_true (by rw [vNs_len]; omega)]
    · show V.bl (decide ((((vNs l).length : Nat) : Int) ≤ (8 : Int))) = V.bl true
      rw [decide_eq_true (by rw [vNs_len]; omega)]
    refine ⟨_, rfl, a, rfl, ⟨_, SqT.of ha⟩, fun Dn hD => ?_⟩
    refine lc_any (n := (vNs l).length) (fun i H' => Same H H' ∧ H' Dn = some (.lst (List.replicate i (V.bl true)))) ⟨sUpd (Same.refl H) hD, upd_same⟩
      (fun i H' hi hP => ?_) (fun H' hP => ⟨_, SqT.of (hP.1 _ _ ha), Nat.le_refl _⟩) (fun i x H' H'' hi hP hy => ?_) (fun H' hP => ?_)
    · exact ⟨_, _, SqT.of (hP.1 _ _ ha), List.getElem?_eq_getElem hi⟩
    · obtain ⟨rfl, hx⟩ := hy
      obtain ⟨hi1, rfl⟩ := vNs_of (hx _ (SqT.of (hP.1 _ _ ha)))
      have hmem := hlt l[i] (List.getElem_mem hi1)
      refine ⟨rfl, _, rfl, _, rfl, ?_⟩
      refine ⟨_, _, _, rfl, .inl ⟨_, rfl, List.replicate i (V.bl true), hP.2, ?_, sUpd hP.1 hD, ?_⟩⟩
      · rw [List.length_replicate, sizeLine_eq]
        omega
      · have e1 : (decide ((0 : Int) ≤ (l[i] : Int)) && decide ((l[i] : Int) ≤ 10 ^ 30)) = true := by
          rw [Bool.and_eq_true, decide_eq_true_eq, decide_eq_true_eq]
          omega
        rw [upd_same, e1, List.replicate_succ']
    · refine ⟨Dn, List.replicate (vNs l).length true, rfl, ?_, ?_⟩
      · rw [map_true]
        exact SqL.of hP.2
      · rw [all_true]
        exact q _ hP.1
end
end FR

/-! Kinds, spread_out, one_less -/
namespace FR
open PySem PySem.Spec PyProof.Rows L2
/-- the three tuples of kinds -/
structure KData (H : Hp) (pa ta aa : Addr) (people things : List Nat) (allowed : List (List Nat)) : Prop where
  hp : H pa = some (.tup (vNs people))
  ht : H ta = some (.tup (vNs things))
  ha : ∃ ras : List Addr, H aa = some (.tup (ras.map V.ref)) ∧ ras.length = allowed.length ∧ ∀ (i : Nat) (ra : Addr) (r : List Nat), ras[i]? = some ra → allowed[i]? = some r → H ra = some (.tup (vNs r))
theorem KData.keep {H H' : Hp} {pa ta aa : Addr} {people things : List Nat} {allowed : List (List Nat)} (k : KData H pa ta aa people things allowed) (s : ∀ b xs, H b = some (.tup xs) → H' b = some (.tup xs)) : KData H' pa ta aa people things allowed := by
  obtain ⟨ras, h1, h2, h3⟩ := k.ha
  exact ⟨s _ _ k.hp, s _ _ k.ht, ras, s _ _ h1, h2, fun i ra r e1 e2 => s _ _ (h3 i ra r e1 e2)⟩
/-- right kinds -/
structure KOk (people things : List Nat) (allowed : List (List Nat)) : Prop where
  lp1 : 1 ≤ people.length
  lp8 : people.length ≤ 8
  lt1 : 1 ≤ things.length
  lt8 : things.length ≤ 8
  la : allowed.length = people.length
  bp : ∀ n, n ∈ people → n ≤ 10 ^ 30
  bt : ∀ n, n ∈ things → n ≤ 10 ^ 30
  sums : people.sum = things.sum
  rows : ∀ r, r ∈ allowed → r.Pairwise (· < ·) ∧ ∀ t, t ∈ r → t < things.length
theorem asc_len {r : List Nat} {n : Nat} (h : r.Pairwise (· < ·)) (hb : ∀ t, t ∈ r → t < n) : r.length ≤ n := by
  have nd : r.Nodup := h.imp fun h => Nat.ne_of_lt h
  have := nodup_le nd (m := List.range n) fun x hx => List.mem_range.mpr (hb x hx)
  rwa [List.length_range] at this
theorem asc_nodup {r : List Nat} (h : r.Pairwise (· < ·)) : r.Nodup := h.imp fun h => Nat.ne_of_lt h
abbrev kFields (pa ta aa : Addr) : List (Str × V) := [(("people" : Str), V.ref pa), (("things" : Str), V.ref ta), (("allowed" : Str), V.ref aa)]
/-- len, the written part named -/
abbrev lenR (K : PySem.W.Frag) : List V → Hp → VK → Prop := fun xs H Q => ∃ (x : V) (n : Nat), xs = [x] ∧ LenV K x H n ∧ Q (.int n) H
theorem s_tp : ¬ (("people" : Str) = "things") := by decide +kernel
theorem s_ap : ¬ (("people" : Str) = "allowed") := by decide +kernel
theorem s_at : ¬ (("things" : Str) = "allowed") := by decide +kernel
theorem kf_put (pa ta aa : Addr) : putF "allowed" (.ref aa) (putF "things" (.ref ta) (putF "people" (.ref pa) [])) = kFields pa ta aa := by
  have e1 : putF "things" (.ref ta) [(("people" : Str), V.ref pa)] = [(("people" : Str), V.ref pa), (("things" : Str), V.ref ta)] := by
    show (if ("people" : Str) = "things" then _ else (("people" : Str), V.ref pa) :: putF "things" (.ref ta) []) = _
    rw [if_neg s_tp]
    rfl
  show putF "allowed" (.ref aa) (putF "things" (.ref ta) [(("people" : Str), V.ref pa)]) = _
  rw [e1]
  show (if ("people" : Str) = "allowed" then _ else (("people" : Str), V.ref pa) :: (if ("things" : Str) = "allowed" then _ else (("things" : Str), V.ref ta) :: putF "allowed" (.ref aa) [])) = _
  rw [if_neg s_ap, if_neg s_at]
  rfl
theorem kf_people (pa ta aa : Addr) : (kFields pa ta aa).lookup ("people" : Str) = some (.ref pa) := by
  rw [← kf_put, lookup_putF, if_neg s_ap, lookup_putF, if_neg s_tp, lookup_putF, if_pos rfl]
theorem kf_things (pa ta aa : Addr) : (kFields pa ta aa).lookup ("things" : Str) = some (.ref ta) := by
  rw [← kf_put, lookup_putF, if_neg s_at, lookup_putF, if_pos rfl]
theorem kf_allowed (pa ta aa : Addr) : (kFields pa ta aa).lookup ("allowed" : Str) = some (.ref aa) := by
  rw [← kf_put, lookup_putF, if_pos rfl]
/-- an instance of Kinds -/
def KindsAt (C : Addr) (H : Hp) (k : Addr) (people things : List Nat) (allowed : List (List Nat)) : Prop :=
  ∃ dx pa ta aa, H k = some (.ins C dx (kFields pa ta aa)) ∧ KData H pa ta aa people things allowed
theorem KindsAt.keep {C : Addr} {H H' : Hp} {k : Addr} {people things : List Nat} {allowed : List (List Nat)} (h : KindsAt C H k people things allowed) (s : Same H H') : KindsAt C H' k people things allowed := by
  obtain ⟨dx, pa, ta, aa, h1, h2⟩ := h
  exact ⟨dx, pa, ta, aa, s _ _ h1, h2.keep fun b xs e => s b _ e⟩
structure KTxt (K : PySem.W.Frag) (mg : Str → Option Value) (C fI : Addr) : Prop where
  cl : Cls K C
  nP : NoAttr K C "people"
  nT : NoAttr K C "things"
  nA : NoAttr K C "allowed"
  made : Mk K C fI
  g : mg "Kinds" = some (.ref C)
def spKinds (C : Addr) : Sp := fun vs H Q _ => ∃ (p dx pa ta aa : Addr) (people things : List Nat) (allowed : List (List Nat)), vs = [.ref p, .ref pa, .ref ta, .ref aa] ∧ H p = some (.ins C dx []) ∧ KData H pa ta aa people things allowed ∧
  KOk people things allowed ∧ ∀ H', (∀ b o, b ≠ p → H b = some o → H' b = some o) → KindsAt C H' p people things allowed → Q .non H'
/-- t + u, whichever way -/
theorem cat_any {K : PySem.W.Frag} {H : Hp} {a b : Addr} {xs ys : List V} {Q : VK} (ha : H a = some (.tup xs)) (hb : H b = some (.tup ys)) (hz : xs.length + ys.length ≤ sizeLine)
    (q : ∀ (p : Addr) (H' : Hp), Same H H' → H' p = some (.tup (xs ++ ys)) → Q (.ref p) H') : rCatA K (.ref a) (.ref b) H Q := by
  refine ⟨a, b, xs, ys, rfl, rfl, SqT.of ha, SqT.of hb, hz, fun e => ?_, fun _ e => ?_, fun _ _ p hp => q p _ (sUpd (Same.refl H) hp) upd_same⟩
  · subst e
    exact q b H (Same.refl H) hb
  · subst e
    exact q a H (Same.refl H) (by rw [List.append_nil]; exact ha)
theorem mem_sum : ∀ {l : List Nat} {x : Nat}, x ∈ l → x ≤ l.sum
  | a :: l, x, h => by
    rw [List.sum_cons]
    rcases List.mem_cons.mp h with rfl | h
    · omega
    · have := mem_sum h
      omega
theorem spread_take : ∀ (l : List Nat) (k i : Nat) (h : i < l.length), spreadF k (l.take (i + 1)) = spreadF k (l.take i) ++ List.replicate l[i] (k + i)
  | [], _, _, h => by simp at h
  | n :: l, k, 0, _ => by simp [spreadF]
  | n :: l, k, i + 1, h => by
    have ih := spread_take l (k + 1) i (by simpa using h)
    simp only [List.take_succ_cons, spreadF, List.getElem_cons_succ]
    rw [ih, List.append_assoc]
    congr 3
    omega
def spSpread : Sp := fun vs H Q _ => ∃ (a : Addr) (l : List Nat), vs = [.ref a] ∧ H a = some (.tup (vNs l)) ∧ l.sum ≤ 1000 ∧ ∀ (p : Addr) (H' : Hp), Same H H' → H p = none → H' p = some (.lst (vNs (spread l))) → Q (.ref p) H'
def spOneLess : Sp := fun vs H Q _ => ∃ (a : Addr) (l : List Nat) (t : Nat), vs = [.ref a, vN t] ∧ H a = some (.tup (vNs l)) ∧ t < l.length ∧ 0 < at0 l t ∧ l.length ≤ 100 ∧ ∀ (p : Addr) (H' : Hp), Same H H' → H' p = some (.tup (vNs (less l t))) → Q (.ref p) H'
section
variable {P : Program} {w : World} {K : PySem.W.Frag} {mg : Str → Option Value} {base : Heap}
abbrev sKinds : Stmt := inClass (top 18) 0
theorem scKinds : FnScope ["self", "people", "things", "allowed", "row"] ["self", "people", "things", "allowed"] (defScope sKinds) := ⟨rfl, rfl, rfl, by decide +kernel, rfl, by decide +kernel, by decide +kernel⟩
theorem ok_kinds {C fI : Addr} {fd : FuncData} (F : Fun K "__init__" "Kinds.__init__" sKinds fI fd) (T : KTxt K mg C fI) (B : Bl mg) (CC : Cal P w K mg base CX0 3 "are_counts" ["thing", "least"] spCounts)
    (CL : Cal P w K mg base CX0 3 "is_lot_of" ["thing", "many"] spLot) : FnOk P w K mg base CX0 4 fI fd ["self", "people", "things", "allowed"] (spKinds C) := by
  refine F.ok scKinds (fun vs H Q E h => ?_) (fun cdv A outer s H vs Q E hr h => ?_)
  · obtain ⟨p, dx, pa, ta, aa, people, things, allowed, rfl, _⟩ := h
    rfl
  · obtain ⟨p, dx, pa, ta, aa, people, things, allowed, rfl, hI, kd, ok, q⟩ := h
    refine ⟨_, pss_cons (ps_if (pt_not (pt_val (pe_cal CC hr (by rfl) (pa_cons (pv 1) (pa_cons pe_int pa_nil))))) pss_never pss_nil)
      (pss_cons (ps_if (pt_not (pt_val (pe_cal CC hr (by rfl) (pa_cons (pv 2) (pa_cons pe_int pa_nil))))) pss_never pss_nil)
      (pss_cons (ps_if (PW.pt (pw_or (pt_not (pt_val (pe_callB call_isi (by rfl) B.isi bo_isi (pa_cons (pv 3) (pa_cons (pe_bltn (v := .ty "tuple") (by rfl) B.tup bo_tup rfl) pa_nil)))))
          (pw_or1 (pt_cmpR op_ne (pe_callB call_len (by rfl) B.len_ bo_len (pa_cons (pv 3) pa_nil)) (pe_callB call_len (by rfl) B.len_ bo_len (pa_cons (pv 1) pa_nil)) (nomark _))))) pss_never pss_nil)
      (pss_cons (ps_if (pt_not (pt_val (pe_callB (cr_all rfl) (by rfl) B.all_ bo_all (pa_cons (pe_lc (own := [("row", 4)]) (g := gName 4) (tt := tYes) rfl scKinds.nd (pi_tup (pv 3))
          (blkOk_by (N := ["self", "people", "things", "allowed", "row"]) (sc := defScope sKinds) (by decide +kernel)) (fun _ _ _ _ _ => pg_name (i := 4) scKinds.nd rfl (Or.inl rfl)) (fun _ _ _ _ _ => pts_nil)
          (fun _ _ _ _ _ => pe_cal CL hr (by rfl) (pa_cons (pv 4) (pa_cons (pe_callB (r := lenR K) call_len (by rfl) B.len_ bo_len (pa_cons (pv 2) pa_nil)) pa_nil)))) pa_nil)))) pss_never pss_nil)
      (pss_cons (ps_if (pt_cmpR op_ne (pe_callB (cr_sumT rfl) (by rfl) B.sum_ bo_sum (pa_cons (pv 1) pa_nil)) (pe_callB (cr_sumT rfl) (by rfl) B.sum_ bo_sum (pa_cons (pv 2) pa_nil)) (nomark _)) pss_never pss_nil)
      (pss_cons (ps_fld (pv 0) (pv 1) rfl) (pss_cons (ps_fld (pv 0) (pv 2) rfl) (pss_one (ps_fld (pv 0) (pv 3) rfl)))))))), ?_⟩
    refine ⟨_, rfl, pa, people, rfl, kd.hp, ok.lp1, ok.lp8, ok.bp, fun H1 s1 => ⟨true, rfl, iteF ?_⟩⟩
    refine ⟨_, rfl, ta, things, rfl, s1 _ _ kd.ht, ok.lt1, ok.lt8, ok.bt, fun H2 s2 => ⟨true, rfl, iteF ?_⟩⟩
    have s12 := s1.trans s2
    have kd2 := kd.keep fun b xs e => s12 b _ e
    obtain ⟨ras, hra, hlen, hrow⟩ := kd2.ha
    refine ⟨_, rfl, _, _, _, _, true, rfl, .ty _, .base (.tup hra), kit_ty (by decide +kernel), true, rfl, iteF ?_⟩
    refine ⟨_, rfl, _, _, rfl, .inr ⟨_, SqT.of hra, rfl⟩, _, rfl, _, _, rfl, .inr ⟨_, SqT.of kd2.hp, rfl⟩, rfl, _, rfl, ?_⟩
    have el : (ras.map V.ref).length = (vNs people).length := by rw [List.length_map, vNs_len, hlen, ok.la]
    rw [el]
    refine iteNS rfl ?_
    refine ⟨_, rfl, aa, rfl, ⟨_, SqT.of hra⟩, fun Dn hD => ?_⟩
    refine lc_any (n := ras.length) (fun i H' => Same H2 H' ∧ H' Dn = some (.lst (List.replicate i (V.bl true)))) ⟨sUpd (Same.refl H2) hD, upd_same⟩
      (fun i H' hi hP => ?_) (fun H' hP => ⟨_, SqT.of (hP.1 _ _ hra), by rw [List.length_map]; exact Nat.le_refl _⟩) (fun i x H' H'' hi hP hy => ?_) (fun H3 hP => ?_)
    · exact ⟨_, _, SqT.of (hP.1 _ _ hra), by rw [List.getElem?_map, List.getElem?_eq_getElem hi]; rfl⟩
    · obtain ⟨rfl, hx⟩ := hy
      have ex := hx _ (SqT.of (hP.1 _ _ hra))
      rw [List.getElem?_map, List.getElem?_eq_getElem hi] at ex
      obtain rfl : V.ref ras[i] = x := Option.some.inj ex
      have hia : i < allowed.length := by omega
      have hrow' := hrow i ras[i] allowed[i] (List.getElem?_eq_getElem hi) (List.getElem?_eq_getElem hia)
      obtain ⟨asc, lt⟩ := ok.rows allowed[i] (List.getElem_mem hia)
      refine ⟨rfl, _, rfl, _, rfl, _, _, rfl, .inr ⟨_, SqT.of (hP.1 _ _ kd2.ht), rfl⟩, ?_⟩
      refine ⟨ras[i], allowed[i], things.length, ?_, hP.1 _ _ hrow', asc, lt, by have := asc_len asc lt; have := ok.lt8; omega, fun H4 s4 => ?_⟩
      · rw [vNs_len]
        rfl
      · refine ⟨List.replicate i (V.bl true), s4 _ _ hP.2, ?_, sUpd (hP.1.trans s4) hD, ?_⟩
        · rw [List.length_replicate, sizeLine_eq]
          have := ok.lp8
          have := ok.la
          omega
        · rw [upd_same, List.replicate_succ']
    · refine ⟨Dn, List.replicate ras.length true, rfl, ?_, ?_⟩
      · rw [map_true]
        exact SqL.of hP.2
      · rw [all_true]
        refine ⟨true, rfl, iteF ?_⟩
        have s3 := s12.trans hP.1
        have kd3 := kd.keep fun b xs e => s3 b _ e
        refine ⟨_, rfl, pa, people.map fun n : Nat => (n : Int), rfl, by rw [← vNs_ints]; exact SqT.of kd3.hp, _, rfl, ta, things.map fun n : Nat => (n : Int), rfl, by rw [← vNs_ints]; exact SqT.of kd3.ht, rfl, _, rfl, ?_⟩
        rw [sum_nats, sum_nats, ok.sums]
        refine iteNS rfl ?_
        have hI3 := s3 _ _ hI
        refine ⟨_, rfl, _, rfl, p, C, dx, _, rfl, hI3, T.cl, T.nP, (by show 0 < 1000; decide), ?_⟩
        refine ⟨_, rfl, _, rfl, p, C, dx, _, rfl, upd_same, T.cl, T.nT, (by show 1 < 1000; decide), ?_⟩
        refine ⟨_, rfl, _, rfl, p, C, dx, _, rfl, upd_same, T.cl, T.nA, ?_, ?_⟩
        · have := length_putF "things" (.ref ta) (putF "people" (.ref pa) [])
          have e1 : (putF "people" (.ref pa) []).length = 1 := rfl
          omega
        · refine q _ (fun b o hb e => ?_) ⟨dx, pa, ta, aa, by rw [upd_same, kf_put], kd3.keep fun b xs e => ?_⟩
          · rw [upd_ne hb, upd_ne hb, upd_ne hb]
            exact s3 b o e
          · have hne : b ≠ p := ne_of e hI3 (fun z => nomatch z)
            rw [upd_ne hne, upd_ne hne, upd_ne hne]
            exact e
abbrev sSpread : Stmt := top 19
theorem scSpread : FnScope ["numbers", "found", "kind", "many"] ["numbers"] (defScope sSpread) := ⟨rfl, rfl, rfl, by decide +kernel, rfl, by decide +kernel, by decide +kernel⟩
theorem ok_spread (D : Def K mg "spread_out" sSpread ["numbers"]) (B : Bl mg) : Cal P w K mg base CX0 1 "spread_out" ["numbers"] spSpread := by
  refine D.cal scSpread (fun vs H Q E h => ?_) (fun f cdv A outer s H vs Q E hr h => ?_)
  · obtain ⟨a, l, rfl, _⟩ := h
    rfl
  · obtain ⟨a, l, rfl, ha, hs, q⟩ := h
    refine ⟨_, pss_cons (ps_set (i := 1) scSpread.nd rfl (Or.inl rfl) (pe_lst pa_nil))
      (pss_cons (ps_for PassesOwn.never rfl (pi_enumT (by rfl) B.enu (pa_cons (pv 0) pa_nil)) (pg_tup rfl (pgs_cons (pg_name (i := 2) scSpread.nd rfl (Or.inl rfl)) (pgs_cons (pg_name (i := 3) scSpread.nd rfl (Or.inl rfl)) pgs_nil)))
        (pss_one (ps_expr (pe_bm PySem.F.plainAttrs_list PySem.F.slot_list_extend PySem.F.type_list_extend mt_extend (pv 1) (pa_cons (pe_op op_rep (pe_lst (pa_cons (pv 2) pa_nil)) (pv 3)) pa_nil)))))
      (pss_one (ps_ret (pv 1)))), ?_⟩
    refine ⟨Nat.zero_le _, fun p hp => ?_⟩
    have s0 : Same H (upd H p (.lst [])) := sUpd (Same.refl H) hp
    refine ⟨_, rfl, a, _, rfl, SqT.of (s0 _ _ ha), ?_⟩
    refine for_enumT (xs := vNs l) (fun i σ H' => ∃ v2 v3, σ = [some (.ref a), some (.ref p), v2, v3] ∧ Same H H' ∧ H' p = some (.lst (vNs (spreadF 0 (l.take i)))))
      ⟨none, none, rfl, s0, upd_same⟩ (fun i σ H' _ hP => ?_) (fun i x T σ H' hx hP hT => ?_) (fun σ H' hP => ?_)
    · obtain ⟨_, _, _, s1, _⟩ := hP
      exact SqT.of (s1 _ _ ha)
    · obtain ⟨v2, v3, rfl, s1, hl⟩ := hP
      obtain ⟨hi, rfl⟩ := vNs_of hx
      have hpT : p ≠ T := ne_of_none hl hT
      have hle : l[i] ≤ l.sum := mem_sum (List.getElem_mem hi)
      have hsp : (spreadF 0 (l.take i)).length ≤ l.sum := by
        rw [spread_len]
        have e := List.take_append_drop i l
        have e2 := congrArg List.sum e
        rw [List.sum_append] at e2
        omega
      refine ⟨T, _, rfl, SqT.of upd_same, rfl, _, _, rfl, _, _, rfl, rfl, ?_⟩
      have hl1 : upd H' T (.tup [.int (i : Nat), vN l[i]]) p = some (.lst (vNs (spreadF 0 (l.take i)))) := by
        rw [upd_ne hpT]
        exact hl
      refine ⟨_, rfl, .inl ⟨rfl, _, SqL.of hl1⟩, _, rfl, (by show 1 ≤ sizeLine; decide), fun p1 hp1 => ?_⟩
      refine ⟨_, rfl, p1, _, [.int (i : Nat)], rfl, rfl, upd_same, by omega, by omega, ?_, fun p2 hp2 => ?_⟩
      · rw [sizeLine_eq]
        simp only [List.length_singleton]
        omega
      have n1 : p ≠ p1 := ne_of_none hl1 hp1
      have hl2 := (upd_ne (o := .lst [.int (i : Nat)]) n1).trans hl1
      have n2 : p ≠ p2 := ne_of_none hl2 hp2
      refine ⟨p, p2, _, _, rfl, rfl, (upd_ne n2).trans hl2, upd_same, ?_, ?_⟩
      · rw [sizeLine_eq, vNs_len]
        simp only [Int.toNat_natCast, List.flatten_replicate_singleton, List.length_replicate]
        omega
      · refine ⟨_, _, rfl, sUpd ?_ hp, ?_⟩
        · exact sUpd2 (sUpd2 (sUpd2 s1 hT) hp1) hp2
        · rw [upd_same, spread_take l 0 i hi, vNs_app]
          simp [vNs]
    · obtain ⟨v2, v3, rfl, s1, hl⟩ := hP
      rw [vNs_len, List.take_length] at hl
      exact ⟨_, rfl, q p _ s1 hp hl⟩
abbrev sOneLess : Stmt := top 20
theorem scOneLess : FnScope ["numbers", "place"] ["numbers", "place"] (defScope sOneLess) := ⟨rfl, rfl, rfl, by decide +kernel, rfl, by decide +kernel, by decide +kernel⟩
theorem at0_get {l : List Nat} {t : Nat} (h : t < l.length) : at0 l t = l[t] := by unfold at0; simp [h]
theorem ok_oneLess (D : Def K mg "one_less" sOneLess ["numbers", "place"]) : Cal P w K mg base CX0 1 "one_less" ["numbers", "place"] spOneLess := by
  refine D.cal scOneLess (fun vs H Q E h => ?_) (fun f cdv A outer s H vs Q E hr h => ?_)
  · obtain ⟨a, l, t, rfl, _⟩ := h
    rfl
  · obtain ⟨a, l, t, rfl, ha, ht, h0, hl, q⟩ := h
    refine ⟨_, pss_one (ps_ret (pe_op op_catA (pe_op op_catA (pe_slice sl_tupA (pv 0) po_none (po_some (pv 1))) (pe_tup (pa_cons (pe_op op_sub (pe_ix ix_tup (pv 0) (pv 1) (fun _ _ => rfl)) pe_int) pa_nil)))
      (pe_slice sl_tupA (pv 0) (po_some (pe_op op_add (pv 1) pe_int)) po_none))), ?_⟩
    refine ⟨_, rfl, ?_⟩
    dsimp only [tNoPart]
    refine ⟨_, rfl, _, rfl, ?_⟩
    refine sl_to (k := t) rfl ha fun b1 H1 s1 hb1 => ?_
    refine ⟨_, rfl, _, rfl, a, _, _, _, rfl, rfl, SqT.of (s1 _ _ ha), atI_nat (vNs_get ht), _, _, rfl, rfl, (by show 1 ≤ sizeLine; decide), fun p2 hp2 => ?_⟩
    have s2 : Same H1 (upd H1 p2 (.tup [.int ((l[t] : Int) - 1)])) := sUpd (Same.refl H1) hp2
    refine cat_any (s2 _ _ hb1) upd_same ?_ fun p3 H3 s3 h3 => ?_
    · rw [vNs_take, vNs_len, List.length_take, sizeLine_eq]
      simp only [List.length_singleton]
      omega
    have sA := (s1.trans s2).trans s3
    refine ⟨_, rfl, _, rfl, _, _, rfl, rfl, _, rfl, ?_⟩
    dsimp only [tNoPart]
    refine sl_from (k := t + 1) (by omega) (sA _ _ ha) fun b4 H4 s4 h4 => ?_
    refine cat_any (s4 _ _ h3) h4 ?_ fun p H5 s5 h5 => q p H5 (sA.trans (s4.trans s5)) ?_
    · rw [vNs_take, vNs_drop, vNs_len, List.length_append, vNs_len, List.length_take, List.length_drop, sizeLine_eq]
      simp only [List.length_singleton]
      omega
    · rw [h5]
      congr 2
      unfold less
      rw [List.set_eq_take_append_cons_drop, if_pos ht, at0_get ht, vNs_take, vNs_drop, vNs_app]
      rw [at0_get ht] at h0
      have e : V.int ((l[t] : Int) - 1) = vN (l[t] - 1) := by
        show V.int _ = V.int _
        congr 1
        omega
      dsimp only
      rw [e, List.append_assoc]
      rfl
end
end FR

/-! after_person -/
namespace FR
open PySem PySem.Spec PyProof.Rows L2
theorem if_pos_of {c : Bool} {A B : Prop} (hc : c = true) (h : A) : if c = true then A else B := by rw [if_pos hc]; exact h
theorem if_neg_of {c : Bool} {A B : Prop} (hc : c = false) (h : B) : if c = true then A else B := by rw [hc, if_neg Bool.false_ne_true]; exact h
def encD (d : Dc) : List (List L2.Key × V) := d.map fun p => (kN p.1, vN p.2)
theorem encD_len (d : Dc) : (encD d).length = d.length := by unfold encD; simp
theorem look_enc (k : List Nat) : ∀ d : Dc, (valV (encD d) (kN k)).getD (.int 0) = vN (look d k)
  | [] => rfl
  | p :: d => by
    have ih := look_enc k d
    show (valV ((kN p.1, vN p.2) :: encD d) (kN k)).getD (.int 0) = _
    by_cases e : p.1 = k
    · rw [valV_pos (show (kN p.1, vN p.2).1 = kN k by rw [e]), look, if_pos e]
      rfl
    · rw [valV_neg (show ¬ (kN p.1, vN p.2).1 = kN k from fun z => e (kN_inj z)), look, if_neg e]
      exact ih
theorem any_enc (k : List Nat) : ∀ d : Dc, ((encD d).any fun kv => decide (kv.1 = kN k)) = decide (k ∈ d.map (·.1))
  | [] => by simp [encD]
  | p :: d => by
    have ih := any_enc k d
    show (decide (kN p.1 = kN k) || (encD d).any _) = _
    rw [ih]
    by_cases e : p.1 = k
    · simp [e]
    · have e' : ¬ kN p.1 = kN k := fun z => e (kN_inj z)
      have e2 : ¬ k = p.1 := fun z => e z.symm
      simp [e', e2]
theorem map_enc_out (k : List Nat) (v : V) : ∀ d : Dc, k ∉ d.map (·.1) → ((encD d).map fun kv => if kv.1 = kN k then (kv.1, v) else kv) = encD d
  | [], _ => rfl
  | p :: d, h => by
    have h1 : ¬ p.1 = k := fun z => h (by simp [z])
    have ih := map_enc_out k v d fun z => h (by simp only [List.map_cons, List.mem_cons]; exact .inr z)
    have e' : ¬ kN p.1 = kN k := fun z => h1 (kN_inj z)
    show (if kN p.1 = kN k then _ else (kN p.1, vN p.2)) :: ((encD d).map fun kv => if kv.1 = kN k then (kv.1, v) else kv) = _
    rw [ih, if_neg e']
    rfl
theorem put_new (k : List Nat) (v : Nat) : ∀ d : Dc, k ∉ d.map (·.1) → put d k v = d ++ [(k, v)]
  | [], _ => rfl
  | p :: d, h => by
    have h1 : ¬ p.1 = k := fun z => h (by simp [z])
    have ih := put_new k v d fun z => h (by simp only [List.map_cons, List.mem_cons]; exact .inr z)
    unfold put
    rw [if_neg h1, ih]
    rfl
theorem put_old (k : List Nat) (v : Nat) : ∀ d : Dc, (d.map (·.1)).Nodup → k ∈ d.map (·.1) → ((encD d).map fun kv => if kv.1 = kN k then (kv.1, vN v) else kv) = encD (put d k v)
  | [], _, h => by simp at h
  | p :: d, hn, h => by
    rw [List.map_cons, List.nodup_cons] at hn
    show (if kN p.1 = kN k then (kN p.1, vN v) else (kN p.1, vN p.2)) :: ((encD d).map fun kv => if kv.1 = kN k then (kv.1, vN v) else kv) = _
    by_cases e : p.1 = k
    · have hk : k ∉ d.map (·.1) := by rw [← e]; exact hn.1
      rw [map_enc_out k (vN v) d hk, if_pos (by rw [e]), put, if_pos e, e]
      rfl
    · have e' : ¬ kN p.1 = kN k := fun z => e (kN_inj z)
      have h2 : k ∈ d.map (·.1) := by
        rcases List.mem_cons.mp h with z | z
        · exact absurd z.symm e
        · exact z
      rw [put_old k v d hn.2 h2, if_neg e', put, if_neg e]
      rfl
theorem put_enc {d : Dc} (hn : (d.map (·.1)).Nodup) (k : List Nat) (v : Nat) : putK (encD d) (kN k) (vN v) = encD (put d k v) := by
  unfold putK
  rw [any_enc]
  by_cases h : k ∈ d.map (·.1)
  · rw [if_pos (decide_eq_true h)]
    exact put_old k v d hn h
  · rw [if_neg (by simpa using h), put_new k v d h]
    simp [encD]
def spAfter (C : Addr) : Sp := fun vs H Q _ => ∃ (k cd : Addr) (kd m : Nat) (people things : List Nat) (allowed : List (List Nat)) (r : List Nat) (d : Dc), vs = [.ref k, vN kd, .ref cd, vN m] ∧ KindsAt C H k people things allowed ∧
  allowed[kd]? = some r ∧ (∀ t, t ∈ r → t < things.length) ∧ things.length ≤ 8 ∧ (∀ n, n ∈ things → n ≤ 1000) ∧ H cd = some (.dT (encD d)) ∧ Good things d ∧ vol things ≤ 100000 ∧ 0 < m ∧
  ∀ (p : Addr) (H' : Hp), Same H H' → H p = none → H' p = some (.dT (encD (stepA m r d))) → Q (.ref p) H'
section
variable {P : Program} {w : World} {K : PySem.W.Frag} {mg : Str → Option Value} {base : Heap}
abbrev sAfter : Stmt := top 21
abbrev nAfter : List Str := ["kinds", "kind", "counts", "modulus", "found", "left", "ways", "thing", "later"]
theorem scAfter : FnScope nAfter ["kinds", "kind", "counts", "modulus"] (defScope sAfter) := ⟨rfl, rfl, rfl, by decide +kernel, rfl, by decide +kernel, by decide +kernel⟩
theorem enc_at {d : Dc} {i : Nat} {k : List L2.Key} {v : V} (h : (encD d)[i]? = some (k, v)) : ∃ hi : i < d.length, k = kN d[i].1 ∧ v = vN d[i].2 := by
  have hi : i < d.length := by
    have := (List.getElem?_eq_some_iff.mp h).1
    rw [encD_len] at this
    exact this
  unfold encD at h
  rw [List.getElem?_map, List.getElem?_eq_getElem hi] at h
  have e := Option.some.inj h
  exact ⟨hi, (congrArg Prod.fst e).symm, (congrArg Prod.snd e).symm⟩
theorem stepF_take {m : Nat} {r : List Nat} {d f : Dc} {i : Nat} (hi : i < d.length) : (d.take (i + 1)).foldl (stepR m r) f = stepR m r ((d.take i).foldl (stepR m r) f) d[i] := by
  rw [List.take_succ_eq_append_getElem hi, List.foldl_append]
  rfl
theorem stepT_take {m w : Nat} {l : List Nat} {r : List Nat} {f : Dc} {i : Nat} (hi : i < r.length) : (r.take (i + 1)).foldl (stepT m l w) f = stepT m l w ((r.take i).foldl (stepT m l w) f) r[i] := by
  rw [List.take_succ_eq_append_getElem hi, List.foldl_append]
  rfl
theorem stepT_pos {m w : Nat} {l : List Nat} {t : Nat} {f : Dc} (c : 0 < at0 l t) : stepT m l w f t = put f (less l t) ((look f (less l t) + w * at0 l t) % m) := by
  unfold stepT
  rw [if_pos c]
theorem stepT_neg {m w : Nat} {l : List Nat} {t : Nat} {f : Dc} (c : ¬ 0 < at0 l t) : stepT m l w f t = f := by
  unfold stepT
  rw [if_neg c]
theorem mod_vN (a w x m : Nat) : V.int (((a : Int) + (w : Int) * (x : Int)) % (m : Int)) = vN ((a + w * x) % m) := by
  show V.int _ = V.int _
  rw [Int.natCast_emod, Int.natCast_add, Int.natCast_mul]
theorem inBox_le {l ns : List Nat} (h : inBox l ns) (hb : ∀ n, n ∈ ns → n ≤ 1000) (t : Nat) : at0 l t ≤ 1000 := by
  refine Nat.le_trans (h.2 t) ?_
  by_cases ht : t < ns.length
  · rw [at0_get ht]
    exact hb _ (List.getElem_mem ht)
  · have z : at0 ns t = 0 := by unfold at0; rw [List.getD_eq_getElem?_getD, List.getElem?_eq_none (Nat.le_of_not_lt ht)]; rfl
    omega
theorem ok_after {C fI : Addr} (D : Def K mg "after_person" sAfter ["kinds", "kind", "counts", "modulus"]) (T : KTxt K mg C fI) (C1 : Cal P w K mg base CX0 1 "one_less" ["numbers", "place"] spOneLess) :
    Cal P w K mg base CX0 2 "after_person" ["kinds", "kind", "counts", "modulus"] (spAfter C) := by
  refine D.cal scAfter (fun vs H Q E h => ?_) (fun f cdv A outer s H vs Q E hr h => ?_)
  · obtain ⟨k, cd, kd, m, people, things, allowed, r, d, rfl, _⟩ := h
    rfl
  · obtain ⟨k, cd, kd, m, people, things, allowed, r, d, rfl, hk, har, hrt, h8, hb, hcd, good, hv, hm, q⟩ := h
    have hu := hu_of hr
    refine ⟨_, pss_cons (ps_set (i := 4) scAfter.nd rfl (Or.inl rfl) pe_dnewT)
      (pss_cons (ps_lock (ps_for PassesOwn.never rfl (pi_itemsT (pv 2)) (pg_tup rfl (pgs_cons (pg_name (i := 5) scAfter.nd rfl (Or.inl rfl)) (pgs_cons (pg_name (i := 6) scAfter.nd rfl (Or.inl rfl)) pgs_nil)))
        (pss_one (ps_for PassesOwn.never rfl (pi_tup (pe_ix ix_tup (pe_fld (pv 0) rfl) (pv 1) (fun _ _ => rfl))) (pg_name (i := 7) scAfter.nd rfl (Or.inl rfl))
          (pss_one (ps_if (pt_cmpR op_gt (pe_ix ix_tup (pv 5) (pv 7) (fun _ _ => rfl)) pe_int (nomark _))
            (pss_cons (ps_set (i := 8) scAfter.nd rfl (Or.inl rfl) (pe_cal C1 hr (by rfl) (pa_cons (pv 5) (pa_cons (pv 7) pa_nil))))
              (pss_one (ps_dput hu (pv 4) (pv 8) (pe_op op_mod (pe_op op_add (pe_dget2 hu (pv 4) (pv 8) pe_int ⟨rfl, rfl, rfl, rfl⟩) (pe_op op_mul (pv 6) (pe_ix ix_tup (pv 5) (pv 7) (fun _ _ => rfl)))) (pv 3)) rfl)))
            pss_nil))))))
      (pss_one (ps_ret (pv 4)))), ?_⟩
    intro p hp
    obtain ⟨dx, pa, ta, aa, hki, kdat⟩ := hk
    have npc : cd ≠ p := ne_of_none hcd hp
    have s0 : Same H (upd H p (.dT [])) := sUpd (Same.refl H) hp
    refine ⟨cd, .dT (encD d), s0 _ _ hcd, trivial, fun od => ?_⟩
    -- within the lock: all but found and counts is as it was
    refine ⟨_, rfl, cd, od, encD d, rfl, upd_same, ?_⟩
    refine for_itemsT (fun i σ H' => ∃ v5 v6 v7 v8, σ = [some (.ref k), some (vN kd), some (.ref cd), some (vN m), some (.ref p), v5, v6, v7, v8] ∧
        (∀ b o, b ≠ cd → H b = some o → H' b = some o) ∧ H' cd = some (.frz od (.dT (encD d))) ∧ H' p = some (.dT (encD ((d.take i).foldl (stepR m r) []))))
      ⟨none, none, none, none, rfl, fun b o hb e => by rw [upd_ne hb]; exact s0 b o e, upd_same, by rw [upd_ne npc.symm, upd_same]; rfl⟩
      (fun i σ H' _ hP => let ⟨_, _, _, _, _, _, h, _⟩ := hP; h) (fun i ky vv T1 q1 σ H' hkv hP hT hq1 => ?_) (fun σ H' hP => ?_)
    · obtain ⟨v5, v6, v7, v8, rfl, hS, hcd', hfd⟩ := hP
      obtain ⟨hi, rfl, rfl⟩ := enc_at hkv
      have hbox : inBox d[i].1 things := good.bx _ (List.getElem_mem hi)
      rw [kN_kV] at hq1
      have hlen : d[i].1.length = things.length := hbox.1
      refine ⟨T1, _, rfl, SqT.of upd_same, rfl, _, _, rfl, _, _, rfl, rfl, ?_⟩
      -- the heap at the pair's turn
      have hS2 : ∀ b o, b ≠ cd → H b = some o → upd H' T1 (.tup [.ref q1, vN d[i].2]) b = some o := fun b o hb e => by
        have e' := hS b o hb e
        rw [upd_ne (ne_of_none e' hT)]
        exact e'
      have ncT : cd ≠ T1 := ne_of_none hcd' hT
      have npT : p ≠ T1 := ne_of_none hfd hT
      have nqT : q1 ≠ T1 := ne_of_none hq1 hT
      have kne : ∀ {b : Addr} {o : HO}, H b = some o → o ≠ .dT (encD d) → b ≠ cd := fun e ne z => by
        subst z
        rw [hcd] at e
        exact ne (Option.some.inj e).symm
      have kki := hS2 _ _ (kne hki fun z => nomatch z) hki
      obtain ⟨ras, hra, hlr, hrow⟩ := kdat.ha
      have kra := hS2 _ _ (kne hra fun z => nomatch z) hra
      have hkd : kd < ras.length := by
        have := (List.getElem?_eq_some_iff.mp har).1
        omega
      have hrr := hrow kd ras[kd] r (List.getElem?_eq_getElem hkd) har
      have krr := hS2 _ _ (kne hrr fun z => nomatch z) hrr
      refine ⟨_, rfl, k, C, dx, _, _, rfl, kki, T.cl, T.nA, kf_allowed pa ta aa, _, rfl, aa, _, _, _, rfl, rfl, SqT.of kra, atI_nat (j := kd) (by rw [List.getElem?_map, List.getElem?_eq_getElem hkd]; rfl), ras[kd], rfl, ⟨_, SqT.of krr⟩, ?_⟩
      refine for_tup (xs := vNs r) (fun j σ H'' => ∃ v7 v8, σ = [some (.ref k), some (vN kd), some (.ref cd), some (vN m), some (.ref p), some (.ref q1), some (vN d[i].2), v7, v8] ∧
          (∀ b o, b ≠ cd → H b = some o → H'' b = some o) ∧ H'' cd = some (.frz od (.dT (encD d))) ∧ H'' q1 = some (.tup (vNs d[i].1)) ∧
          H'' p = some (.dT (encD ((r.take j).foldl (stepT m d[i].1 d[i].2) ((d.take i).foldl (stepR m r) [])))))
        ⟨v7, v8, rfl, hS2, by rw [upd_ne ncT]; exact hcd', by rw [upd_ne nqT]; exact hq1, by rw [upd_ne npT]; exact hfd⟩
        (fun j σ H'' _ hP => ?_) (fun j x σ H'' hx hP => ?_) (fun σ H'' hP => ?_)
      · obtain ⟨_, _, _, hS3, _⟩ := hP
        exact SqT.of (hS3 _ _ (kne hrr fun z => nomatch z) hrr)
      · obtain ⟨w7, w8, rfl, hS3, hcd3, hq3, hfd3⟩ := hP
        obtain ⟨hj, rfl⟩ := vNs_of hx
        have htl : r[j] < d[i].1.length := by rw [hlen]; exact hrt _ (List.getElem_mem hj)
        have goodI : Good things ((d.take i).foldl (stepR m r) []) := Good.stepF m r (d.take i) (fun p hp => good.bx p (List.mem_of_mem_take hp)) (Good.nil things)
        have goodF : Good things ((r.take j).foldl (stepT m d[i].1 d[i].2) ((d.take i).foldl (stepR m r) [])) := Good.stepR (p := d[i]) hbox m (r.take j) goodI
        refine ⟨_, rfl, _, rfl, q1, _, _, _, rfl, rfl, SqT.of hq3, atI_nat (vNs_get htl), _, _, rfl, rfl, _, rfl, ?_⟩
        have e0 : at0 d[i].1 r[j] = d[i].1[r[j]] := at0_get htl
        by_cases c : 0 < at0 d[i].1 r[j]
        · refine if_pos_of (decide_eq_true (by omega)) ?_
          refine ⟨_, rfl, _, rfl, q1, d[i].1, r[j], rfl, hq3, htl, c, by rw [hlen]; omega, fun b1 H4 s4 h4 => ?_⟩
          have hfd4 := s4 _ _ hfd3
          have keyB : H4 b1 = some (.tup ((kN (less d[i].1 r[j])).map kV)) := by rw [kN_kV]; exact h4
          refine ⟨_, rfl, p, rfl, .inr ⟨_, Rd.of hfd4⟩, _, rfl, _, DGet.t hfd4 keyB, ?_⟩
          refine ⟨_, rfl, _, rfl, _, rfl, q1, _, _, _, rfl, rfl, SqT.of (s4 _ _ hq3), atI_nat (vNs_get htl), _, _, rfl, rfl, ?_, ?_⟩
          · have := inBox_le hbox hb r[j]
            exact .inr ⟨by omega, by omega⟩
          rw [look_enc]
          refine ⟨_, _, rfl, rfl, _, rfl, _, _, rfl, rfl, (by omega), ?_⟩
          refine ⟨_, rfl, _, rfl, p, _, rfl, DPut.t hfd4 keyB ?_, ?_⟩
          · have h1 := goodF.len
            rw [encD_len, sizeLine_eq]
            omega
          · refine ⟨_, _, rfl, fun b o hb e => ?_, ?_, ?_, ?_⟩
            · have e' := s4 _ _ (hS3 b o hb e)
              have nb : b ≠ p := ne_of_none e hp
              rw [upd_ne nb]
              exact e'
            · rw [upd_ne npc]
              exact s4 _ _ hcd3
            · rw [upd_ne (ne_of hq3 hfd3 fun z => nomatch z)]
              exact s4 _ _ hq3
            · rw [upd_same, stepT_take hj]
              rw [stepT_pos c, ← put_enc goodF.nd, ← mod_vN, e0]
        · refine if_neg_of (decide_eq_false (by omega)) ?_
          refine ⟨_, _, rfl, hS3, hcd3, hq3, ?_⟩
          rw [stepT_take hj, stepT_neg c]
          exact hfd3
      · obtain ⟨w7, w8, rfl, hS3, hcd3, hq3, hfd3⟩ := hP
        rw [vNs_len, List.take_length] at hfd3
        refine ⟨_, _, _, _, rfl, hS3, hcd3, ?_⟩
        rw [stepF_take hi]
        exact hfd3
    · obtain ⟨v5, v6, v7, v8, rfl, hS, hcd', hfd⟩ := hP
      rw [encD_len, List.take_length] at hfd
      refine ⟨hcd', _, rfl, q p _ (fun b o e => ?_) hp (by rw [upd_ne npc.symm]; exact hfd)⟩
      by_cases hb : b = cd
      · subst hb
        rw [upd_same, ← hcd]
        exact e
      · rw [upd_ne hb]
        exact hS b o hb e
end
end FR

/-! kinds_many -/
namespace FR
open PySem PySem.Spec PyProof.Rows L2
theorem vol_take : ∀ (l : List Nat) (i : Nat) (h : i < l.length), vol (l.take (i + 1)) = vol (l.take i) * (l[i] + 1)
  | [], _, h => by simp at h
  | n :: l, 0, _ => by simp [vol]
  | n :: l, i + 1, h => by
    have ih := vol_take l i (by simpa using h)
    simp only [List.take_succ_cons, vol, List.getElem_cons_succ]
    rw [ih, Nat.mul_assoc]
/-- the rows, one for each person -/
def rowsOf (people : List Nat) (allowed : List (List Nat)) : List (List Nat) := (spread people).map fun i => allowed.getD i []
theorem rowsOf_len (people : List Nat) (allowed : List (List Nat)) : (rowsOf people allowed).length = people.sum := by
  unfold rowsOf
  rw [List.length_map, spread_len]
theorem encD_vals (d : Dc) : (encD d).map (·.2) = (d.map fun p => (p.2 : Int)).map V.int := by
  unfold encD
  rw [List.map_map, List.map_map]
  rfl
theorem sm_int (d : Dc) : (d.map fun p => (p.2 : Int)).sum = ((sm (fun p => p.2) d : Nat) : Int) := by
  induction d with
  | nil => rfl
  | cons p d ih => simp only [List.map_cons, List.sum_cons, ih, sm, Int.natCast_add]
theorem stepsA_take {m : Nat} {rs : List (List Nat)} {d : Dc} {i : Nat} (hi : i < rs.length) : stepsA m (rs.take (i + 1)) d = stepA m rs[i] (stepsA m (rs.take i) d) := by
  unfold stepsA
  rw [List.take_succ_eq_append_getElem hi, List.foldl_append]
  rfl
theorem Good.steps {ns : List Nat} (m : Nat) : ∀ (rs : List (List Nat)) {d : Dc}, Good ns d → Good ns (stepsA m rs d)
  | [], _, g => g
  | r :: rs, d, g => Good.steps m rs (g.stepA m r)
theorem Good.one (ns : List Nat) (v : Nat) : Good ns [(ns, v)] := ⟨by simp, fun p hp => by
  rw [List.mem_singleton] at hp
  subst hp
  exact inBox_self ns⟩
def spMany (K : PySem.W.Frag) (C CN CT : Addr) : Sp := fun vs H Q E => ∃ (k : Addr) (x : V) (people things : List Nat) (allowed : List (List Nat)), vs = [.ref k, x] ∧ KindsAt C H k people things allowed ∧ KOk people things allowed ∧
  ((NoInt K H x ∧ E (.ref CN) none H) ∨ (∃ i, x = .int i ∧ ¬ (1 ≤ i ∧ i ≤ 10 ^ 30) ∧ E (.ref CN) none H) ∨
   (∃ m : Nat, x = vN m ∧ 1 ≤ m ∧ m ≤ 10 ^ 30 ∧
    ((60 < people.sum ∧ ∀ d, H d = none → E (.ref CT) (some d) (upd H d (.xd [(("most" : Str), .int 60)]))) ∨
     (people.sum ≤ 60 ∧ 5000 < vol things ∧ ∀ d, H d = none → E (.ref CT) (some d) (upd H d (.xd [(("most" : Str), .int 5000)]))) ∨
     (people.sum ≤ 60 ∧ vol things ≤ 5000 ∧ ∀ H', Same H H' → Q (vN (many m (rowsOf people allowed) things)) H'))))
section
variable {P : Program} {w : World} {K : PySem.W.Frag} {mg : Str → Option Value} {base : Heap}
abbrev sMany : Stmt := top 22
abbrev nMany : List Str := ["kinds", "modulus", "states", "many", "counts", "kind"]
theorem scMany : FnScope nMany ["kinds", "modulus"] (defScope sMany) := ⟨rfl, rfl, rfl, by decide +kernel, rfl, by decide +kernel, by decide +kernel⟩
theorem ok_many {C fI CN CT : Addr} (D : Def K mg "kinds_many" sMany ["kinds", "modulus"]) (T : KTxt K mg C fI) (B : Bl mg) (G : Cst mg) (CkN : Cal P w K mg base (L2.CX P w) 3 "check_number" ["thing", "least", "most"] (spCheckN K CN))
    (CkM : Cal P w K mg base (L2.CX P w) 2 "check_many" ["number", "most"] (spCheckM CT)) (CS : Cal P w K mg base CX0 1 "spread_out" ["numbers"] spSpread)
    (CA : Cal P w K mg base CX0 2 "after_person" ["kinds", "kind", "counts", "modulus"] (spAfter C)) :
    Cal P w K mg base (L2.CX P w) 4 "kinds_many" ["kinds", "modulus"] (spMany K C CN CT) := by
  refine D.calX scMany (fun vs H Q E h => ?_) (fun f cdv A outer s H vs Q E hr h => ?_)
  · obtain ⟨k, x, people, things, allowed, rfl, _⟩ := h
    rfl
  · obtain ⟨k, x, people, things, allowed, rfl, hk, ok, h⟩ := h
    have hu := hu_of hr
    have hr2 := hr.mono (show 2 ≤ 3 by decide)
    have hr1 := hr.mono (show 1 ≤ 3 by decide)
    have tk : Takes (cxOf (L2.CX P w) P w K mg base nMany "kinds_many" (defScope sMany) f cdv A outer s H E) (fun cls d _ H => E cls d H) := takes_of rfl rfl rfl rfl
    have hW : ∀ cls d (σ : L2.St) H, E cls d H → (fun cls d (_ : L2.St) H => E cls d H) cls d σ H := fun _ _ _ _ h => h
    refine ⟨_, pss_cons (ps_expr (pe_calX (E := E) CkN tk hW hr (by rfl) (pa_cons (pv 1) (pa_cons pe_int (pa_cons (pe_cst G.ofKind (by rfl)) pa_nil)))))
      (pss_cons (ps_expr (pe_calX (E := E) CkM tk hW hr2 (by rfl) (pa_cons (pe_callB (cr_sumT rfl) (by rfl) B.sum_ bo_sum (pa_cons (pe_fld (pv 0) rfl) pa_nil)) (pa_cons (pe_cst G.counted (by rfl)) pa_nil))))
      (pss_cons (ps_set (i := 2) scMany.nd rfl (Or.inl rfl) pe_int)
      (pss_cons (ps_for (passes_of rfl) rfl (pi_tup (pe_fld (pv 0) rfl)) (pg_name (i := 3) scMany.nd rfl (Or.inl rfl))
        (pss_one (ps_aug (i := 2) scMany.nd rfl (.inl rfl) (pe_op op_add (pv 3) pe_int) iop_mul)))
      (pss_cons (ps_expr (pe_calX (E := E) CkM tk hW hr2 (by rfl) (pa_cons (pv 2) (pa_cons (pe_cst G.states (by rfl)) pa_nil))))
      (pss_cons (ps_set (i := 4) scMany.nd rfl (Or.inl rfl) (pe_disp1 hu (pe_fld (pv 0) rfl) (pe_op op_mod pe_int (pv 1))))
      (pss_cons (ps_for (passes_of rfl) rfl (pi_list (pe_cal CS hr1 (by rfl) (pa_cons (pe_fld (pv 0) rfl) pa_nil))) (pg_name (i := 5) scMany.nd rfl (Or.inl rfl))
        (pss_one (ps_set (i := 4) scMany.nd rfl (Or.inl rfl) (pe_cal CA hr2 (by rfl) (pa_cons (pv 0) (pa_cons (pv 5) (pa_cons (pv 4) (pa_cons (pv 1) pa_nil))))))))
      (pss_one (ps_ret (pe_op op_mod (pe_callB (cr_sumVT rfl) (by rfl) B.sum_ bo_sum (pa_cons (pe_bm0 PySem.F.plainAttrs_dict PySem.F.slot_dict_values PySem.F.type_dict_values mt_valuesT (pv 4)) pa_nil)) (pv 1)))))))))), ?_⟩
    rcases h with ⟨no, e⟩ | ⟨i, rfl, ni, e⟩ | ⟨m, rfl, m1, m2, h⟩
    · exact ⟨_, rfl, _, _, _, rfl, .inr ⟨no, e⟩⟩
    · exact ⟨_, rfl, _, _, _, rfl, .inl ⟨_, rfl, fun c => absurd c ni, fun _ => e⟩⟩
    refine ⟨_, rfl, _, _, _, rfl, .inl ⟨_, rfl, fun _ => ?_, fun c => absurd ⟨by omega, by omega⟩ c⟩⟩
    obtain ⟨dx, pa, ta, aa, hki, kdat⟩ := id hk
    refine ⟨_, rfl, k, C, dx, _, _, rfl, hki, T.cl, T.nP, kf_people pa ta aa, pa, people.map fun n : Nat => (n : Int), rfl, by rw [← vNs_ints]; exact SqT.of kdat.hp, ?_⟩
    rw [sum_nats]
    by_cases c60 : 60 < people.sum
    · rcases h with ⟨_, e⟩ | ⟨z, _⟩ | ⟨z, _⟩
      · exact ⟨_, _, rfl, fun z => absurd z (by omega), fun _ d hd => e d hd⟩
      · omega
      · omega
    refine ⟨_, _, rfl, fun _ => ?_, fun z => absurd z (by omega)⟩
    have h' := h.resolve_left fun z => c60 z.1
    clear h
    refine ⟨_, rfl, k, C, dx, _, _, rfl, hki, T.cl, T.nT, kf_things pa ta aa, ta, rfl, ⟨_, SqT.of kdat.ht⟩, ?_⟩
    have hbt : ∀ n, n ∈ things → n ≤ 60 := fun n hn => by
      have := mem_sum hn
      have := ok.sums
      omega
    refine for_tup (xs := vNs things) (fun i σ H' => H' = H ∧ ∃ v3, σ = [some (.ref k), some (vN m), some (vN (vol (things.take i))), v3, none, none])
      ⟨rfl, none, rfl⟩ (fun i σ H' _ hP => by rw [hP.1]; exact SqT.of kdat.ht) (fun i x σ H' hx hP => ?_) (fun σ H' hP => ?_)
    · obtain ⟨rfl, v3, rfl⟩ := hP
      obtain ⟨hi, rfl⟩ := vNs_of hx
      have := hbt things[i] (List.getElem_mem hi)
      refine ⟨_, rfl, _, rfl, _, _, rfl, rfl, _, _, rfl, rfl, .inr ⟨by omega, by omega⟩, rfl, some (vN things[i]), ?_⟩
      rw [vol_take things i hi]
      have e : V.int ((vol (things.take i) : Int) * ((things[i] : Int) + 1)) = vN (vol (things.take i) * (things[i] + 1)) := by
        show V.int _ = V.int _
        rw [Int.natCast_mul, Int.natCast_add]
        rfl
      rw [← e]
      rfl
    obtain ⟨rfl, v3, rfl⟩ := hP
    rw [vNs_len, List.take_length]
    by_cases c5 : 5000 < vol things
    · rcases h' with ⟨_, _, e⟩ | ⟨_, z, _⟩
      · exact ⟨_, rfl, _, _, rfl, fun z => absurd z (by omega), fun _ d hd => e d hd⟩
      · omega
    refine ⟨_, rfl, _, _, rfl, fun _ => ?_, fun z => absurd z (by omega)⟩
    obtain ⟨_, _, q⟩ := h'.resolve_left fun z => c5 z.2.1
    intro p hp
    have s1 : Same H' (upd H' p (.dT [])) := sUpd (Same.refl H') hp
    refine ⟨_, rfl, k, C, dx, _, _, rfl, s1 _ _ hki, T.cl, T.nT, kf_things pa ta aa, ?_⟩
    refine ⟨_, rfl, _, _, rfl, rfl, (by omega), upd_same, ta, kN things, rfl, by rw [kN_kV]; exact s1 _ _ kdat.ht, ?_⟩
    have s2 : Same H' (upd (upd H' p (.dT [])) p (.dT [(kN things, vN (1 % m))])) := sUpd s1 hp
    refine ⟨_, rfl, k, C, dx, _, _, rfl, s2 _ _ hki, T.cl, T.nP, kf_people pa ta aa, ?_⟩
    refine ⟨pa, people, rfl, s2 _ _ kdat.hp, by omega, fun L H3 s3 hL0 hL => ?_⟩
    have s13 := s2.trans s3
    refine ⟨L, rfl, ⟨_, SqL.of hL⟩, ?_⟩
    refine for_list (xs := vNs (spread people)) (fun i σ H4 => Same H3 H4 ∧ ∃ c v5, σ = [some (.ref k), some (vN m), some (vN (vol things)), v3, some (.ref c), v5] ∧ H4 c = some (.dT (encD (stepsA m ((rowsOf people allowed).take i) [(things, 1 % m)]))))
      ⟨Same.refl H3, p, none, rfl, s3 _ _ upd_same⟩ (fun i σ H4 _ hP => SqL.of (hP.1 _ _ hL)) (fun i x σ H4 hx hP => ?_) (fun σ H4 hP => ?_)
    · obtain ⟨s4, c, v5, rfl, hc⟩ := hP
      obtain ⟨hi, rfl⟩ := vNs_of hx
      have hlt := spread_lt people 0 _ (List.getElem_mem hi)
      rw [Nat.zero_add] at hlt
      have hla : (spread people)[i] < allowed.length := by rw [ok.la]; exact hlt
      have hrow := ok.rows _ (List.getElem_mem hla)
      have hi2 : i < (rowsOf people allowed).length := by unfold rowsOf; rw [List.length_map]; exact hi
      have er : (rowsOf people allowed)[i] = allowed[(spread people)[i]] := by
        refine (List.getElem_map (fun i => allowed.getD i []) (l := spread people) (i := i) (h := hi2)).trans ?_
        rw [List.getD_eq_getElem?_getD, List.getElem?_eq_getElem hla]
        rfl
      refine ⟨_, rfl, _, rfl, _, rfl, _, rfl, k, c, _, m, people, things, allowed, allowed[(spread people)[i]], _, rfl, hk.keep (s13.trans s4), List.getElem?_eq_getElem hla, hrow.2, ok.lt8, fun n hn => by have := hbt n hn; omega, hc,
        Good.steps m _ (Good.one things _), by omega, by omega, fun p5 H5 s5 hp5 h5 => ?_⟩
      refine ⟨s4.trans s5, p5, _, rfl, ?_⟩
      rw [stepsA_take hi2, er]
      exact h5
    · obtain ⟨s4, c, v5, rfl, hc⟩ := hP
      rw [vNs_len, show (spread people).length = (rowsOf people allowed).length by unfold rowsOf; rw [List.length_map], List.take_length] at hc
      refine ⟨_, rfl, .inr (.inr (.inl ⟨rfl, .inr ⟨_, hc⟩⟩)), c, _, rfl, rfl, hc, fun pv hpv => ?_⟩
      refine ⟨pv, c, _, _, rfl, upd_same, (upd_ne (ne_of_none hc hpv)).trans hc, encD_vals _, _, rfl, _, _, rfl, rfl, (by omega), ?_⟩
      rw [sm_int]
      exact q _ (sUpd2 (s13.trans s4) hpv)
end
end FR

/-! the law's pool and its draws -/
namespace FR
open PySem PySem.Spec PyProof.Rows L2
theorem sqL_keep {K : PySem.W.Frag} {H H' : Hp} {a : Addr} {xs : List V} (h : SqL K H a xs) (s : Same H H') : SqL K H' a xs :=
  h.elim (fun h => .inl (h.elim (fun h => .inl (s _ _ h)) fun ⟨o, h⟩ => .inr ⟨o, s _ _ h⟩)) fun h => .inr h
/-- a pool at p, its cells at C -/
def PoolAt (p C : Addr) (H : Hp) : Prop := ∃ (seed cnt : Int) (cs : List Int), H p = some (.lst [.int seed, .int cnt, .ref C]) ∧ H C = some (.lst (cs.map V.int)) ∧ p ≠ C
/-- all else stays, and the pool is a pool -/
structure Pl (p C : Addr) (H H' : Hp) : Prop where
  same : ∀ b o, b ≠ p → b ≠ C → H b = some o → H' b = some o
  at_ : PoolAt p C H'
  old : (H p).isSome ∧ (H C).isSome
theorem PoolAt.isSome {p C : Addr} {H : Hp} (h : PoolAt p C H) : (H p).isSome ∧ (H C).isSome := by
  obtain ⟨_, _, _, h1, h2, _⟩ := h
  rw [h1, h2]
  exact ⟨rfl, rfl⟩
theorem PoolAt.keep {p C : Addr} {H H' : Hp} (h : PoolAt p C H) (s : Same H H') : PoolAt p C H' := by
  obtain ⟨a, b, c, h1, h2, h3⟩ := h
  exact ⟨a, b, c, s _ _ h1, s _ _ h2, h3⟩
theorem Pl.trans {p C : Addr} {H H1 H2 : Hp} (a : Pl p C H H1) (b : Pl p C H1 H2) : Pl p C H H2 := ⟨fun x o h1 h2 h => b.same x o h1 h2 (a.same x o h1 h2 h), b.at_, a.old⟩
theorem PoolAt.refl {p C : Addr} {H : Hp} (h : PoolAt p C H) : Pl p C H H := ⟨fun _ _ _ _ e => e, h, h.isSome⟩
theorem PoolAt.pl {p C : Addr} {H H' : Hp} (h : PoolAt p C H) (s : Same H H') : Pl p C H H' := ⟨fun _ _ _ _ e => s _ _ e, h.keep s, h.isSome⟩
theorem Pl.same' {p C : Addr} {H H1 H2 : Hp} (a : Pl p C H H1) (s : Same H1 H2) : Pl p C H H2 := a.trans (a.at_.pl s)
theorem Pl.ne1 {p C : Addr} {H H' : Hp} (a : Pl p C H H') {b : Addr} (h : H b = none) : b ≠ p ∧ b ≠ C := by
  refine ⟨fun z => ?_, fun z => ?_⟩
  · subst z
    have := a.old.1
    rw [h] at this
    exact Bool.noConfusion this
  · subst z
    have := a.old.2
    rw [h] at this
    exact Bool.noConfusion this
/-- what is new since is kept -/
theorem Pl.keep {p C : Addr} {H H1 H2 : Hp} (a : PoolAt p C H) (b : Pl p C H1 H2) {x : Addr} {o : HO} (h : H x = none) (e : H1 x = some o) : H2 x = some o :=
  b.same x o ((a.pl (Same.refl H)).ne1 h).1 ((a.pl (Same.refl H)).ne1 h).2 e
theorem sqL_pl {K : PySem.W.Frag} {p C : Addr} {H H' : Hp} {a : Addr} {xs : List V} (h : SqL K H a xs) (n1 : a ≠ p) (n2 : a ≠ C) (s : Pl p C H H') : SqL K H' a xs :=
  h.elim (fun h => .inl (h.elim (fun h => .inl (s.same _ _ n1 n2 h)) fun ⟨o, h⟩ => .inr ⟨o, s.same _ _ n1 n2 h⟩)) fun h => .inr h
def spPool (K : PySem.W.Frag) : Sp := fun vs H Q _ => ∃ (a : Addr) (ns : List Int), vs = [.ref a] ∧ SqL K H a (ns.map V.int) ∧ ns.length ≤ sizeLine ∧ ∀ (p C : Addr) (H' : Hp), Same H H' → H p = none → H C = none → PoolAt p C H' → Q (.ref p) H'
def spDraw : Sp := fun vs H Q _ => ∃ (p C : Addr) (m : Int), vs = [.ref p, .int m] ∧ PoolAt p C H ∧ 0 < m ∧ m < 1073741824 ∧ ∀ (d : Nat) (H' : Hp), (d : Int) < m → Pl p C H H' → Q (vN d) H'
section
variable {P : Program} {w : World} {K : PySem.W.Frag} {mg : Str → Option Value} {base : Heap}
abbrev sPool : Stmt := top 24
theorem scPool : FnScope ["_law_script", "_law_seed", "_law_cell"] ["_law_script"] (defScope sPool) := ⟨rfl, rfl, rfl, by decide +kernel, rfl, by decide +kernel, by decide +kernel⟩
theorem ok_pool (D : Def K mg "_law_pool" sPool ["_law_script"]) (B : Bl mg) : Cal P w K mg base CX0 1 "_law_pool" ["_law_script"] (spPool K) := by
  refine D.cal scPool (fun vs H Q E h => ?_) (fun f cdv A outer s H vs Q E hr h => ?_)
  · obtain ⟨a, ns, rfl, _⟩ := h
    rfl
  · obtain ⟨a, ns, rfl, ha, hlen, q⟩ := h
    refine ⟨_, pss_cons (ps_set (i := 1) scPool.nd rfl (Or.inl rfl) (pe_op op_add (pe_op op_add (pe_op op_mod (pe_callTy call_int1 (by rfl) B.int_ bo_int (pa_cons (pe_callB (cr_sum rfl) (by rfl) B.sum_ bo_sum (pa_cons (pe_slice sl_list (pv 0) po_none (po_some pe_int)) pa_nil)) pa_nil)) pe_int)
        (pe_callB (r := lenR K) call_len (by rfl) B.len_ bo_len (pa_cons (pv 0) pa_nil))) pe_int))
      (pss_cons (ps_for PassesOwn.never rfl (pi_list (pe_slice sl_list (pv 0) po_none (po_some pe_int))) (pg_name (i := 2) scPool.nd rfl (Or.inl rfl))
        (pss_one (ps_set (i := 1) scPool.nd rfl (Or.inl rfl) (pe_op op_mod (pe_callTy call_int1 (by rfl) B.int_ bo_int (pa_cons (pe_op op_add (pe_op op_add (pe_op op_mul (pv 1) pe_int) (pe_op op_mod (pe_callTy call_int1 (by rfl) B.int_ bo_int (pa_cons (pv 2) pa_nil)) pe_int)) pe_int) pa_nil)) pe_int))))
      (pss_one (ps_ret (pe_lst (pa_cons (pv 1) (pa_cons pe_int (pa_cons (pe_lc (own := [("_law_cell", 2)]) (g := gName 2) (by rfl) scPool.nd (pi_list (pe_slice sl_list (pv 0) po_none (po_some pe_int)))
        (blkOk_by (N := ["_law_script", "_law_seed", "_law_cell"]) (sc := defScope sPool) (by decide +kernel)) (fun _ _ _ _ _ => pg_name (i := 2) scPool.nd rfl (Or.inl rfl))
        (fun _ _ _ _ _ => pts_one (pt_cmpR op_ge (pe_callB call_abs (by rfl) B.abs_ bo_abs (pa_cons (pv 2) pa_nil)) (pe_op op_pow pe_int pe_int) (nomark _)))
        (fun _ _ _ _ _ => pe_callB call_abs (by rfl) B.abs_ bo_abs (pa_cons (pv 2) pa_nil))) pa_nil))))))), ?_⟩
    refine ⟨_, rfl, _, rfl, a, _, rfl, ha, fun p1 hp1 => ?_⟩
    have ec : ∀ k : Nat, cutV (ns.map V.int) none (some (k : Int)) = (ns.take k).map V.int := fun k => by rw [cut_to, List.map_take]
    have s1 : Same H (upd H p1 (.lst (cutV (ns.map V.int) none (some 1)))) := sUpd (Same.refl H) hp1
    refine ⟨p1, ns.take 1, rfl, SqL.of (by rw [upd_same]; exact congrArg (fun z => some (HO.lst z)) (ec 1)), .inl ⟨_, rfl, _, _, rfl, rfl, (by show (0 : Int) < 1000003; decide), ?_⟩⟩
    refine ⟨_, rfl, .ref a, _, rfl, .inl ⟨_, sqL_keep ha s1, rfl⟩, _, _, rfl, rfl, _, _, rfl, rfl, ?_⟩
    refine ⟨_, rfl, _, rfl, a, _, rfl, sqL_keep ha s1, fun p2 hp2 => ?_⟩
    have s2 := sUpd2 (o := .lst (cutV (ns.map V.int) none (some 63))) s1 hp2
    have h2 : (upd (upd H p1 (.lst (cutV (ns.map V.int) none (some 1)))) p2 (.lst (cutV (ns.map V.int) none (some 63)))) p2 = some (.lst ((ns.take 63).map V.int)) := by rw [upd_same]; exact congrArg (fun z => some (HO.lst z)) (ec 63)
    generalize hH2 : upd (upd H p1 (.lst (cutV (ns.map V.int) none (some 1)))) p2 (.lst (cutV (ns.map V.int) none (some 63))) = H2 at s2 h2
    refine ⟨p2, rfl, ⟨_, SqL.of h2⟩, ?_⟩
    refine for_list (K := K) (xs := (ns.take 63).map V.int) (fun i σ H' => H' = H2 ∧ ∃ (seed : Int) (v2 : Option V), σ = [some (.ref a), some (.int seed), v2]) ⟨rfl, _, none, rfl⟩ (fun i σ H' _ hP => by rw [hP.1]; exact SqL.of h2) (fun i x σ H' hx hP => ?_) (fun σ H' hP => ?_)
    · obtain ⟨rfl, seed, v2, rfl⟩ := hP
      rw [List.getElem?_map] at hx
      obtain ⟨n, _, rfl⟩ := Option.map_eq_some_iff.mp hx
      refine ⟨_, rfl, _, _, rfl, rfl, .inr ⟨by decide, by decide⟩, _, rfl, .inl ⟨_, rfl, _, _, rfl, rfl, (by show (0 : Int) < 2147483629; decide), _, _, rfl, rfl, _, _, rfl, rfl, .inl ⟨_, rfl, _, _, rfl, rfl, (by show (0 : Int) < 2147483647; decide), rfl, _, _, rfl⟩⟩⟩
    · obtain ⟨rfl, seed, v2, rfl⟩ := hP
      refine ⟨_, rfl, ?_⟩
      refine ⟨_, rfl, _, rfl, a, _, rfl, sqL_keep ha s2, fun p3 hp3 => ?_⟩
      have s3 := sUpd2 (o := .lst (cutV (ns.map V.int) none (some 63))) s2 hp3
      have h3 : (upd H' p3 (.lst (cutV (ns.map V.int) none (some 63)))) p3 = some (.lst ((ns.take 63).map V.int)) := by rw [upd_same]; exact congrArg (fun z => some (HO.lst z)) (ec 63)
      generalize hH3 : upd H' p3 (.lst (cutV (ns.map V.int) none (some 63))) = H3 at s3 h3
      refine ⟨p3, rfl, ⟨_, SqL.of h3⟩, fun Dn hD => ?_⟩
      refine lc_list (xs := (ns.take 63).map V.int) (fun i H4 => Same H3 H4 ∧ ∃ cs : List Int, H4 Dn = some (.lst (cs.map V.int)) ∧ cs.length ≤ i) ⟨sUpd (Same.refl H3) hD, [], upd_same, Nat.le_refl _⟩ (fun i H4 _ hP => SqL.of (hP.1 _ _ h3)) (fun i x H4 hx hP => ?_) (fun H4 hP => ?_)
      · obtain ⟨s4, cs, hc, hl⟩ := hP
        have hi : i < 63 := by
          have := (List.getElem?_eq_some_iff.mp hx).1
          rw [List.length_map, List.length_take] at this
          omega
        rw [List.getElem?_map] at hx
        obtain ⟨n, _, rfl⟩ := Option.map_eq_some_iff.mp hx
        refine ⟨rfl, _, rfl, _, rfl, _, _, rfl, rfl, ⟨by decide, by decide, by decide⟩, _, _, rfl, rfl, _, rfl, ?_⟩
        by_cases c : (10 : Int) ^ (18 : Int).toNat ≤ (if n < 0 then -n else n)
        · refine if_pos_of (decide_eq_true c) ⟨_, rfl, _, rfl, _, hc, ?_, sUpd s4 hD, cs ++ [if n < 0 then -n else n], ?_, ?_⟩
          · rw [List.length_map, sizeLine_eq]
            omega
          · rw [upd_same, List.map_append]
            rfl
          · rw [List.length_append]
            simp only [List.length_singleton]
            omega
        · exact if_neg_of (decide_eq_false c) ⟨s4, cs, hc, by omega⟩
      · obtain ⟨s4, cs, hc, hl⟩ := hP
        refine ⟨(by show 3 ≤ sizeLine; decide), fun p hp => ?_⟩
        have s34 := s3.trans s4
        exact q p Dn _ (sUpd2 s34 hp) (s34.free hp) (s3.free hD) ⟨seed, 0, cs, upd_same, (upd_ne (ne_of_none hc hp)).trans hc, (ne_of_none hc hp).symm⟩
end
end FR

/-! the law's draw -/
namespace FR
open PySem PySem.Spec PyProof.Rows L2
theorem modN (i m : Int) (h : 0 < m) : ∃ d : Nat, i % m = (d : Int) ∧ (d : Int) < m := by
  have h1 := Int.emod_nonneg i (show m ≠ 0 by omega)
  have h2 := Int.emod_lt_of_pos i h
  exact ⟨(i % m).toNat, by omega, by omega⟩
theorem ixN_0 (n : Nat) : ixN (n + 1) 0 = some 0 := by
  unfold ixN
  rw [if_pos (by decide), if_pos (by omega)]
  rfl
section
variable {P : Program} {w : World} {K : PySem.W.Frag} {mg : Str → Option Value} {base : Heap}
abbrev sDraw : Stmt := top 25
abbrev nDraw : List Str := ["_law_pool_here", "_law_many", "_law_cells", "_law_digit", "_law_mixed"]
theorem scDraw : FnScope nDraw ["_law_pool_here", "_law_many"] (defScope sDraw) := ⟨rfl, rfl, rfl, by decide +kernel, rfl, by decide +kernel, by decide +kernel⟩
theorem ok_draw (D : Def K mg "_law_draw" sDraw ["_law_pool_here", "_law_many"]) (B : Bl mg) : Cal P w K mg base CX0 1 "_law_draw" ["_law_pool_here", "_law_many"] spDraw := by
  refine D.cal scDraw (fun vs H Q E h => ?_) (fun f cdv A outer s H vs Q E hr h => ?_)
  · obtain ⟨p, C, m, rfl, _⟩ := h
    rfl
  · obtain ⟨p, C, m, rfl, hpool, m0, m1, q⟩ := h
    refine ⟨_, pss_cons (ps_asg (pe_op op_add (pe_ix ix_list (pv 0) pe_int (fun _ _ => rfl)) pe_int) (pg_sub (pv 0) pe_int set_list))
      (pss_cons (ps_set (i := 2) scDraw.nd rfl (Or.inl rfl) (pe_ix ix_list (pv 0) pe_int (fun _ _ => rfl)))
      (pss_cons (ps_if (pt_cmpR op_gt (pe_callB (r := lenR K) call_len (by rfl) B.len_ bo_len (pa_cons (pv 2) pa_nil)) pe_int (nomark _))
        (pss_cons (ps_set (i := 3) scDraw.nd rfl (Or.inl rfl) (pe_op op_mod (pe_callTy call_int1 (by rfl) B.int_ bo_int (pa_cons (pe_ix ix_list (pv 2) pe_int (fun _ _ => rfl)) pa_nil)) (pv 1)))
        (pss_cons (ps_asg (pe_op op_fdiv (pe_callTy call_int1 (by rfl) B.int_ bo_int (pa_cons (pe_ix ix_list (pv 2) pe_int (fun _ _ => rfl)) pa_nil)) (pv 1)) (pg_sub (pv 2) pe_int set_list))
        (pss_cons (ps_if (pt_cmpR op_eq (pe_ix ix_list (pv 2) pe_int (fun _ _ => rfl)) pe_int (nomark _))
          (pss_one (ps_expr (pe_bm PySem.F.plainAttrs_list PySem.F.slot_list_pop PySem.F.type_list_pop mt_popAt (pv 2) (pa_cons pe_int pa_nil)))) pss_nil)
        (pss_one (ps_ret (pv 3)))))) pss_nil)
      (pss_cons (ps_set (i := 4) scDraw.nd rfl (Or.inl rfl) (pe_op op_mod (pe_callTy call_int1 (by rfl) B.int_ bo_int (pa_cons (pe_op op_mul (pe_op op_add (pe_ix ix_list (pv 0) pe_int (fun _ _ => rfl)) (pe_op op_mul pe_int (pe_ix ix_list (pv 0) pe_int (fun _ _ => rfl)))) pe_int) pa_nil)) pe_int))
      (pss_cons (ps_set (i := 4) scDraw.nd rfl (Or.inl rfl) (pe_op op_mod (pe_callTy call_int1 (by rfl) B.int_ bo_int (pa_cons (pe_op op_mul (pv 4) (pe_op op_add (pe_op op_fdiv (pv 4) pe_int) pe_int)) pa_nil)) pe_int))
      (pss_cons (ps_set (i := 4) scDraw.nd rfl (Or.inl rfl) (pe_op op_mod (pe_callTy call_int1 (by rfl) B.int_ bo_int (pa_cons (pe_op op_mul (pv 4) (pe_op op_add (pe_op op_fdiv (pv 4) pe_int) pe_int)) pa_nil)) pe_int))
      (pss_one (ps_ret (pe_op op_mod (pe_callTy call_int1 (by rfl) B.int_ bo_int (pa_cons (pe_op op_fdiv (pv 4) pe_int) pa_nil)) (pv 1))))))))), ?_⟩
    obtain ⟨seed, cnt, cs, hp, hC, ne⟩ := id hpool
    refine ⟨_, rfl, p, _, _, _, rfl, rfl, SqL.of hp, atI_nat (j := 1) rfl, _, _, rfl, rfl, ?_⟩
    refine ⟨_, rfl, p, _, _, 1, rfl, rfl, hp, rfl, ?_⟩
    have hp1 : (upd H p (.lst [.int seed, .int (cnt + 1), .ref C])) p = some (.lst [.int seed, .int (cnt + 1), .ref C]) := upd_same
    have hC1 : (upd H p (.lst [.int seed, .int (cnt + 1), .ref C])) C = some (.lst (cs.map V.int)) := by rw [upd_ne ne.symm]; exact hC
    have pl1 : Pl p C H (upd H p (.lst [.int seed, .int (cnt + 1), .ref C])) := ⟨fun b o n1 n2 e => by rw [upd_ne n1]; exact e, ⟨seed, cnt + 1, cs, hp1, hC1, ne⟩, hpool.isSome⟩
    show _
    refine ⟨_, rfl, p, _, _, _, rfl, rfl, SqL.of hp1, atI_nat (j := 2) rfl, ?_⟩
    refine ⟨_, rfl, .ref C, _, rfl, .inl ⟨_, SqL.of hC1, rfl⟩, _, _, rfl, rfl, _, rfl, ?_⟩
    cases cs with
    | cons c cs =>
      refine if_pos_of (decide_eq_true (by simp only [List.map_cons, List.length_cons]; omega)) ?_
      have g0 : (List.map V.int (c :: cs))[0]? = some (V.int c) := rfl
      obtain ⟨d, ed, hd⟩ := modN c m m0
      refine ⟨_, rfl, C, _, _, _, rfl, rfl, SqL.of hC1, atI_nat (j := 0) g0, .inl ⟨_, rfl, _, rfl, _, _, rfl, rfl, m0, ?_⟩⟩
      refine ⟨_, rfl, C, _, _, _, rfl, rfl, SqL.of hC1, atI_nat (j := 0) g0, .inl ⟨_, rfl, _, rfl, _, _, rfl, rfl, ⟨m0, m1⟩, ?_⟩⟩
      refine ⟨_, rfl, C, _, _, 0, rfl, rfl, hC1, ixN_0 _, ?_⟩
      have hC2 : (upd (upd H p (.lst [.int seed, .int (cnt + 1), .ref C])) C (.lst (((c / m) :: cs).map V.int))) C = some (.lst (((c / m) :: cs).map V.int)) := upd_same
      have pl2 : ∀ xs : List Int, Pl p C H (upd (upd H p (.lst [.int seed, .int (cnt + 1), .ref C])) C (.lst (xs.map V.int))) := fun xs => ⟨fun b o n1 n2 e => by rw [upd_ne n2, upd_ne n1]; exact e,
        ⟨seed, cnt + 1, xs, by rw [upd_ne ne]; exact hp1, upd_same, ne⟩, hpool.isSome⟩
      refine ⟨_, rfl, C, _, _, _, rfl, rfl, SqL.of hC2, atI_nat (j := 0) rfl, rfl, _, rfl, ?_⟩
      have q' : ∀ H', Pl p C H H' → Q (V.int (c % m)) H' := fun H' h => by rw [ed]; exact q d H' hd h
      by_cases z : c / m = 0
      · refine if_pos_of (decide_eq_true (by show V.int (c / m) = V.int 0; rw [z])) ⟨_, rfl, .inl ⟨rfl, _, SqL.of upd_same⟩, C, _, 0, 0, _, rfl, rfl, upd_same, (by decide), (by decide), (ixN_seq (ixN_0 _)).1, rfl, _, rfl, ?_⟩
        have key := q' _ (pl2 cs)
        rw [← upd_upd] at key
        exact key
      · exact if_neg_of (decide_eq_false (fun e => z (by injection e))) ⟨_, rfl, q' _ (pl2 ((c / m) :: cs))⟩
    | nil =>
      refine if_neg_of (decide_eq_false (by simp)) ?_
      refine ⟨_, rfl, p, _, _, _, rfl, rfl, SqL.of hp1, atI_nat (j := 0) rfl, _, rfl, p, _, _, _, rfl, rfl, SqL.of hp1, atI_nat (j := 1) rfl, _, _, rfl, rfl, .inl ⟨by decide, by decide⟩, _, _, rfl, rfl, _, _, rfl, rfl, .inr ⟨by decide, by decide⟩,
        .inl ⟨_, rfl, _, _, rfl, rfl, (by show (0 : Int) < 2147483647; decide), ?_⟩⟩
      obtain ⟨x1, e1, h1⟩ := modN ((seed + 7919 * (cnt + 1)) * 48271) 2147483647 (by decide)
      show gName 4 (V.int _) _ _ _
      rw [e1]
      refine ⟨_, rfl, _, rfl, _, _, rfl, rfl, (by show 0 < (1009 : Int) ∧ (1009 : Int) < 1073741824; decide), _, _, rfl, rfl, _, _, rfl, rfl, .inl ⟨by omega, by omega⟩, .inl ⟨_, rfl, _, _, rfl, rfl, (by show (0 : Int) < 2147483647; decide), ?_⟩⟩
      obtain ⟨x2, e2, h2⟩ := modN ((x1 : Int) * ((x1 : Int) / 1009 + 69621)) 2147483647 (by decide)
      show gName 4 (V.int _) _ _ _
      rw [e2]
      refine ⟨_, rfl, _, rfl, _, _, rfl, rfl, (by show 0 < (2003 : Int) ∧ (2003 : Int) < 1073741824; decide), _, _, rfl, rfl, _, _, rfl, rfl, .inl ⟨by omega, by omega⟩, .inl ⟨_, rfl, _, _, rfl, rfl, (by show (0 : Int) < 2147483399; decide), ?_⟩⟩
      obtain ⟨x3, e3, h3⟩ := modN ((x2 : Int) * ((x2 : Int) / 2003 + 40692)) 2147483399 (by decide)
      show gName 4 (V.int _) _ _ _
      rw [e3]
      refine ⟨_, rfl, _, _, rfl, rfl, (by show 0 < (16 : Int) ∧ (16 : Int) < 1073741824; decide), .inl ⟨_, rfl, _, rfl, _, _, rfl, rfl, m0, ?_⟩⟩
      obtain ⟨d, ed, hd⟩ := modN ((x3 : Int) / 16) m m0
      show Q (V.int _) _
      rw [ed]
      exact q d _ hd pl1
end
end FR

/-! the law's deep thing, its wide lists, its orders -/
namespace FR
open PySem PySem.Spec PyProof.Rows L2
def spDeep : Sp := fun vs H Q _ => vs = [] ∧ ∀ (p : Addr) (xs : List V) (H' : Hp), Same H H' → H' p = some (.tup xs) → Q (.ref p) H'
def spWide : Sp := fun vs H Q _ => ∃ (a : Addr) (l : List Nat), vs = [.ref a] ∧ H a = some (.tup (vNs l)) ∧ l.length ≤ 1000 ∧ l.sum ≤ 1000 ∧ ∀ (p : Addr) (H' : Hp), Same H H' → H p = none → H' p = some (.lst (vNs (spread l))) → Q (.ref p) H'
def spOrders : Sp := fun vs H Q _ => ∃ n : Nat, vs = [vN n] ∧ n ≤ 100000 ∧ Q (vN (fact n)) H
section
variable {P : Program} {w : World} {K : PySem.W.Frag} {mg : Str → Option Value} {base : Heap}
abbrev sDeep : Stmt := top 27
theorem scDeep : FnScope ["_law_found", "_law_turn"] [] (defScope sDeep) := ⟨rfl, rfl, rfl, by decide +kernel, rfl, by decide +kernel, by decide +kernel⟩
theorem ok_deep (D : Def K mg "_law_deep" sDeep []) (B : Bl mg) : Cal P w K mg base CX0 1 "_law_deep" [] spDeep := by
  refine D.cal scDeep (fun vs H Q E h => ?_) (fun f cdv A outer s H vs Q E hr h => ?_)
  · obtain ⟨rfl, _⟩ := h
    rfl
  · obtain ⟨rfl, q⟩ := h
    refine ⟨_, pss_cons (ps_set (i := 0) scDeep.nd rfl (Or.inl rfl) (pe_tup (pa_cons pe_int (pa_cons pe_int pa_nil))))
      (pss_cons (ps_for PassesOwn.never rfl (pi_range1 (by rfl) B.rng (pa_cons pe_int pa_nil)) (pg_name (i := 1) scDeep.nd rfl (Or.inl rfl))
        (pss_one (ps_set (i := 0) scDeep.nd rfl (Or.inl rfl) (pe_tup (pa_cons (pv 0) pa_nil)))))
      (pss_one (ps_ret (pv 0)))), ?_⟩
    refine ⟨(by show 2 ≤ sizeLine; decide), fun p hp => ?_⟩
    refine ⟨35, rfl, by decide, by decide, ?_⟩
    refine for_range (n := 35) (fun i σ H' => Same H H' ∧ ∃ (p : Addr) (xs : List V) (v1 : Option V), σ = [some (.ref p), v1] ∧ H' p = some (.tup xs))
      ⟨sUpd (Same.refl H) hp, p, _, none, rfl, upd_same⟩ (fun i σ H' hi hP => ?_) (fun σ H' hP => ?_)
    · obtain ⟨s1, p, xs, v1, rfl, h1⟩ := hP
      exact ⟨_, rfl, (by show 1 ≤ sizeLine; decide), fun p2 hp2 => ⟨sUpd2 s1 hp2, p2, _, _, rfl, upd_same⟩⟩
    · obtain ⟨s1, p, xs, v1, rfl, h1⟩ := hP
      exact ⟨_, rfl, q p xs _ s1 h1⟩
abbrev sWide : Stmt := top 29
theorem scWide : FnScope ["_law_numbers", "_law_found", "_law_kind"] ["_law_numbers"] (defScope sWide) := ⟨rfl, rfl, rfl, by decide +kernel, rfl, by decide +kernel, by decide +kernel⟩
theorem ok_wide (D : Def K mg "_law_wide" sWide ["_law_numbers"]) (B : Bl mg) : Cal P w K mg base CX0 1 "_law_wide" ["_law_numbers"] spWide := by
  refine D.cal scWide (fun vs H Q E h => ?_) (fun f cdv A outer s H vs Q E hr h => ?_)
  · obtain ⟨a, l, rfl, _⟩ := h
    rfl
  · obtain ⟨a, l, rfl, ha, hlen, hs, q⟩ := h
    refine ⟨_, pss_cons (ps_set (i := 1) scWide.nd rfl (Or.inl rfl) (pe_lst pa_nil))
      (pss_cons (ps_for PassesOwn.never rfl (pi_range1 (by rfl) B.rng (pa_cons (pe_callB (r := lenR K) call_len (by rfl) B.len_ bo_len (pa_cons (pv 0) pa_nil)) pa_nil)) (pg_name (i := 2) scWide.nd rfl (Or.inl rfl))
        (pss_one (ps_set (i := 1) scWide.nd rfl (Or.inl rfl) (pe_op op_cat (pv 1) (pe_op op_rep (pe_lst (pa_cons (pv 2) pa_nil)) (pe_ix ix_tup (pv 0) (pv 2) (fun _ _ => rfl)))))))
      (pss_one (ps_ret (pv 1)))), ?_⟩
    refine ⟨Nat.zero_le _, fun p hp => ?_⟩
    have s0 : Same H (upd H p (.lst [])) := sUpd (Same.refl H) hp
    refine ⟨_, rfl, _, _, rfl, .inr ⟨_, SqT.of (s0 _ _ ha), rfl⟩, _, rfl, ?_⟩
    rw [vNs_len]
    refine ⟨(by omega), (by omega), ?_⟩
    refine for_range (n := l.length) (fun i σ H' => ∃ (p : Addr) (v2 : Option V), σ = [some (.ref a), some (.ref p), v2] ∧ Same H H' ∧ H p = none ∧ H' p = some (.lst (vNs (spreadF 0 (l.take i)))))
      ⟨p, none, rfl, s0, hp, upd_same⟩ (fun i σ H' hi hP => ?_) (fun σ H' hP => ?_)
    · obtain ⟨p, v2, rfl, s1, hp, hl⟩ := hP
      have hle : l[i] ≤ l.sum := mem_sum (List.getElem_mem hi)
      have hsp : (spreadF 0 (l.take i)).length ≤ l.sum := by
        rw [spread_len]
        have e := List.take_append_drop i l
        have e2 := congrArg List.sum e
        rw [List.sum_append] at e2
        omega
      refine ⟨_, rfl, _, rfl, (by show 1 ≤ sizeLine; decide), fun p1 hp1 => ?_⟩
      have s2 := sUpd2 (o := .lst [.int (0 + (i : Nat))]) s1 hp1
      refine ⟨_, rfl, _, rfl, a, _, _, _, rfl, by rw [Int.zero_add], SqT.of (s2 _ _ ha), atI_nat (vNs_get hi), ?_⟩
      refine ⟨p1, _, _, rfl, rfl, upd_same, by omega, by omega, ?_, fun p2 hp2 => ?_⟩
      · rw [sizeLine_eq]
        simp only [List.length_singleton]
        omega
      have n1 : p ≠ p1 := ne_of_none hl hp1
      have hl2 := (upd_ne (o := .lst [.int (0 + (i : Nat))]) n1).trans hl
      have n2 : p ≠ p2 := ne_of_none hl2 hp2
      refine ⟨p, p2, _, _, rfl, rfl, (upd_ne n2).trans hl2, upd_same, ?_, fun p3 hp3 => ?_⟩
      · rw [sizeLine_eq, vNs_len]
        simp only [Int.toNat_natCast, List.flatten_replicate_singleton, List.length_replicate]
        omega
      · have s3 := sUpd2 (o := .lst (List.replicate ((l[i] : Int)).toNat [V.int (0 + (i : Nat))]).flatten) s2 hp2
        refine ⟨p3, _, rfl, sUpd2 s3 hp3, s3.free hp3, ?_⟩
        rw [upd_same, spread_take l 0 i hi, vNs_app]
        simp [vNs]
    · obtain ⟨p, v2, rfl, s1, hp, hl⟩ := hP
      rw [List.take_length] at hl
      exact ⟨_, rfl, q p _ s1 hp hl⟩
abbrev sOrders : Stmt := top 31
theorem scOrders : FnScope ["_law_many", "_law_found", "_law_k"] ["_law_many"] (defScope sOrders) := ⟨rfl, rfl, rfl, by decide +kernel, rfl, by decide +kernel, by decide +kernel⟩
theorem ok_orders (D : Def K mg "_law_orders" sOrders ["_law_many"]) (B : Bl mg) : Cal P w K mg base CX0 1 "_law_orders" ["_law_many"] spOrders := by
  refine D.cal scOrders (fun vs H Q E h => ?_) (fun f cdv A outer s H vs Q E hr h => ?_)
  · obtain ⟨n, rfl, _⟩ := h
    rfl
  · obtain ⟨n, rfl, hn, q⟩ := h
    refine ⟨_, pss_cons (ps_set (i := 1) scOrders.nd rfl (Or.inl rfl) pe_int)
      (pss_cons (ps_for PassesOwn.never rfl (pi_range2 (by rfl) B.rng (pa_cons pe_int (pa_cons (pe_op op_add (pv 0) pe_int) pa_nil))) (pg_name (i := 2) scOrders.nd rfl (Or.inl rfl))
        (pss_one (ps_set (i := 1) scOrders.nd rfl (Or.inl rfl) (pe_op op_mul (pv 1) (pv 2)))))
      (pss_one (ps_ret (pv 1)))), ?_⟩
    refine ⟨_, rfl, _, _, rfl, rfl, _, _, rfl, ⟨by decide, by decide, by omega, by omega⟩, ?_⟩
    refine for_range (n := ((n : Int) + 1 - 2).toNat) (fun i σ H' => H' = H ∧ ∃ v2 : Option V, σ = [some (vN n), some (vN (fact (i + 1))), v2])
      ⟨rfl, none, rfl⟩ (fun i σ H' hi hP => ?_) (fun σ H' hP => ?_)
    · obtain ⟨rfl, v2, rfl⟩ := hP
      refine ⟨_, rfl, _, rfl, _, _, rfl, rfl, .inr ⟨by omega, by omega⟩, rfl, some (.int (2 + (i : Nat))), ?_⟩
      have e : V.int ((fact (i + 1) : Int) * (2 + (i : Nat))) = vN (fact (i + 1 + 1)) := by
        show V.int _ = V.int _
        rw [show fact (i + 1 + 1) = (i + 1 + 1) * fact (i + 1) from rfl, Int.natCast_mul, Int.mul_comm]
        congr 2
        omega
      rw [← e]
      rfl
    · obtain ⟨rfl, v2, rfl⟩ := hP
      refine ⟨_, rfl, ?_⟩
      have e : fact (((n : Int) + 1 - 2).toNat + 1) = fact n := by
        cases n with
        | zero => rfl
        | succ n =>
          have : (((n + 1 : Nat) : Int) + 1 - 2).toNat = n := by omega
          rw [this]
      rw [e]
      exact q
end
end FR

/-! the law's listed dealings -/
namespace FR
open PySem PySem.Spec PyProof.Rows L2
theorem inV_N (x : Nat) : ∀ l : List Nat, inV (vN x) (vNs l) = decide (x ∈ l)
  | [] => by simp [inV]
  | y :: l => by
    have ih := inV_N x l
    show (((y : Int) == (x : Int)) || inV (vN x) (vNs l)) = _
    rw [ih]
    by_cases e : y = x
    · subst e; simp
    · have e1 : ((y : Int) == (x : Int)) = false := by
        rw [beq_eq_false_iff_ne]
        exact fun z => e (Int.ofNat.inj z)
      have e2 : ¬ x = y := fun z => e z.symm
      rw [e1]
      simp [e2]
theorem flat_N : ∀ l : List Nat, (vNs l).all flatV = true
  | [] => rfl
  | y :: l => by
    show (true && (vNs l).all flatV) = true
    rw [flat_N l]
    rfl
theorem mem_longer {row : List Nat} {f : List (List Nat)} {t : List Nat} (h : t ∈ longer row f) : ∃ told x, told ∈ f ∧ t = told ++ [x] := by
  unfold longer at h
  obtain ⟨told, h1, h2⟩ := List.mem_flatMap.mp h
  obtain ⟨x, _, e⟩ := List.mem_map.mp h2
  exact ⟨told, x, h1, e.symm⟩
theorem fold_lens : ∀ (rows : List (List Nat)) (f : List (List Nat)) (k : Nat), (∀ t, t ∈ f → t.length = k) → ∀ t, t ∈ rows.foldl (fun f r => longer r f) f → t.length = k + rows.length
  | [], f, k, h, t, ht => h t ht
  | r :: rows, f, k, h, t, ht => by
    have := fold_lens rows (longer r f) (k + 1) (fun t ht => by
      obtain ⟨told, x, h1, rfl⟩ := mem_longer ht
      rw [List.length_append, h told h1]
      rfl) t ht
    rw [List.length_cons]
    omega
theorem fold_size (c : Nat) : ∀ (rows : List (List Nat)) (f : List (List Nat)), (∀ r, r ∈ rows → r.length ≤ c) → (rows.foldl (fun f r => longer r f) f).length ≤ f.length * c ^ rows.length
  | [], f, _ => by simp
  | r :: rows, f, h => by
    have ih := fold_size c rows (longer r f) fun q hq => h q (by simp [hq])
    have h1 := longer_le r c (h r (by simp)) f
    rw [List.foldl_cons, List.length_cons]
    refine Nat.le_trans ih ?_
    rw [Nat.pow_succ, Nat.mul_comm (c ^ rows.length) c, ← Nat.mul_assoc]
    exact Nat.mul_le_mul_right _ h1
theorem fold_small {rows : List (List Nat)} (h5 : rows.length ≤ 5) (hr : ∀ r, r ∈ rows → r.length ≤ 5) : (allD rows).length ≤ 3125 := by
  have h := fold_size 5 rows [[]] hr
  refine Nat.le_trans h ?_
  rw [List.length_singleton, Nat.one_mul]
  exact Nat.pow_le_pow_right (show 0 < 5 by decide) h5
theorem longer_take {row : List Nat} {f : List (List Nat)} {j : Nat} (hj : j < f.length) : longer row (f.take (j + 1)) = longer row (f.take j) ++ (row.filter fun x => decide (x ∉ f[j])).map fun x => f[j] ++ [x] := by
  unfold longer
  rw [List.take_succ_eq_append_getElem hj, List.flatMap_append]
  simp
theorem filt_take {row : List Nat} {p : Nat → Bool} {k : Nat} (hk : k < row.length) : (row.take (k + 1)).filter p = (row.take k).filter p ++ if p row[k] = true then [row[k]] else [] := by
  rw [List.take_succ_eq_append_getElem hk, List.filter_append]
  congr 1
  by_cases h : p row[k] = true
  · rw [if_pos h, List.filter_cons_of_pos h]
    rfl
  · rw [if_neg h, List.filter_cons_of_neg h]
    rfl
def spAll : Sp := fun vs H Q _ => ∃ (a : Addr) (ras : List Addr) (rows : List (List Nat)), vs = [.ref a] ∧ H a = some (.tup (ras.map V.ref)) ∧ ras.length = rows.length ∧
  (∀ (i : Nat) (ra : Addr) (r : List Nat), ras[i]? = some ra → rows[i]? = some r → H ra = some (.tup (vNs r))) ∧ rows.length ≤ 5 ∧ (∀ r, r ∈ rows → r.length ≤ 5) ∧
  ∀ (p : Addr) (xs : List V) (H' : Hp), Same H H' → H' p = some (.lst xs) → xs.length = (allD rows).length → Q (.ref p) H'
section
variable {P : Program} {w : World} {K : PySem.W.Frag} {mg : Str → Option Value} {base : Heap}
abbrev sAll : Stmt := top 26
abbrev nAll : List Str := ["_law_rows", "_law_found", "_law_row", "_law_longer", "_law_told", "_law_thing"]
theorem scAll : FnScope nAll ["_law_rows"] (defScope sAll) := ⟨rfl, rfl, rfl, by decide +kernel, rfl, by decide +kernel, by decide +kernel⟩
theorem ok_all (D : Def K mg "_law_all" sAll ["_law_rows"]) (B : Bl mg) : Cal P w K mg base CX0 1 "_law_all" ["_law_rows"] spAll := by
  refine D.cal scAll (fun vs H Q E h => ?_) (fun f cdv A outer s H vs Q E hr h => ?_)
  · obtain ⟨a, ras, rows, rfl, _⟩ := h
    rfl
  · obtain ⟨a, ras, rows, rfl, ha, hlen, hrow, h5, hr5, q⟩ := h
    refine ⟨_, pss_cons (ps_set (i := 1) scAll.nd rfl (Or.inl rfl) (pe_lst (pa_cons (pe_tup pa_nil) pa_nil)))
      (pss_cons (ps_for PassesOwn.never rfl (pi_tup (pv 0)) (pg_name (i := 2) scAll.nd rfl (Or.inl rfl))
        (pss_cons (ps_set (i := 3) scAll.nd rfl (Or.inl rfl) (pe_lst pa_nil))
        (pss_cons (ps_for PassesOwn.never rfl (pi_list (pv 1)) (pg_name (i := 4) scAll.nd rfl (Or.inr rfl))
          (pss_one (ps_expr (pe_bm PySem.F.plainAttrs_list PySem.F.slot_list_extend PySem.F.type_list_extend mt_extend (pv 3) (pa_cons
            (pe_lc (own := [("_law_thing", 5)]) (g := gName 5) (by rfl) scAll.nd (pi_tup (pv 2))
              (blkOk_by (N := nAll) (sc := defScope sAll) (by decide +kernel)) (fun _ _ _ _ _ => pg_name (i := 5) scAll.nd rfl (Or.inl rfl))
              (fun _ _ _ _ _ => pts_one (pt_cmpR (r := rIn K true) op_notIn_seq (pv 5) (pv 4) rfl))
              (fun _ _ _ _ _ => pe_op (r := rCatA K) op_catA (pv 4) (pe_tup (pa_cons (pv 5) pa_nil)))) pa_nil)))))
        (pss_one (ps_set (i := 1) scAll.nd rfl (Or.inl rfl) (pv 3))))))
      (pss_one (ps_ret (pe_callB (cr_sortedT (hr.units)) (by rfl) B.sor bo_sor (pa_cons (pv 1) pa_nil))))), ?_⟩
    refine ⟨Nat.zero_le _, fun p0 hp0 => ⟨(by show 1 ≤ sizeLine; decide), fun p1 hp1 => ?_⟩⟩
    have s0 : Same H (upd H p0 (.tup [])) := sUpd (Same.refl H) hp0
    refine ⟨_, rfl, a, rfl, ⟨_, SqT.of (sUpd2 s0 hp1 _ _ ha)⟩, ?_⟩
    refine for_tup (xs := ras.map V.ref) (fun i σ H' => ∃ (F : Addr) (bs : List (Addr × List Nat)) (v2 v3 v4 : Option V), σ = [some (.ref a), some (.ref F), v2, v3, v4, none] ∧ Same H H' ∧ H' F = some (.lst (bs.map fun b => V.ref b.1)) ∧
        (∀ b ∈ bs, H' b.1 = some (.tup (vNs b.2))) ∧ bs.map (·.2) = (rows.take i).foldl (fun f r => longer r f) [[]])
      ⟨p1, [(p0, [])], none, none, none, rfl, sUpd2 s0 hp1, upd_same, fun b hb => ?_, rfl⟩ (fun i σ H' _ hP => ?_) (fun i x σ H' hx hP => ?_) (fun σ H' hP => ?_)
    · rw [List.mem_singleton] at hb
      subst hb
      rw [upd_ne (ne_of_none (upd_same (H := H) (a := p0) (o := .tup [])) hp1)]
      exact upd_same
    · obtain ⟨_, _, _, _, _, _, s1, _⟩ := hP
      exact SqT.of (s1 _ _ ha)
    · obtain ⟨F, bs, v2, v3, v4, rfl, s1, hF, hb, hbs⟩ := hP
      have hi : i < ras.length := by
        have := (List.getElem?_eq_some_iff.mp hx).1
        rwa [List.length_map] at this
      rw [List.getElem?_map, List.getElem?_eq_getElem hi] at hx
      obtain rfl : V.ref ras[i] = x := Option.some.inj hx
      have hir : i < rows.length := by omega
      have hra := s1 _ _ (hrow i ras[i] rows[i] (List.getElem?_eq_getElem hi) (List.getElem?_eq_getElem hir))
      have hl5 := hr5 rows[i] (List.getElem_mem hir)
      have hDi : ((rows.take i).foldl (fun f r => longer r f) [[]]).length ≤ 3125 := fold_small (rows := rows.take i) (by rw [List.length_take]; omega) fun r hr => hr5 r (List.mem_of_mem_take hr)
      have hbl : bs.length ≤ 3125 := by
        rw [← hbs, List.length_map] at hDi
        exact hDi
      have hts : ∀ b ∈ bs, b.2.length ≤ 5 := fun b hbm => by
        have hm : b.2 ∈ (rows.take i).foldl (fun f r => longer r f) [[]] := by rw [← hbs]; exact List.mem_map_of_mem hbm
        have := fold_lens (rows.take i) [[]] 0 (fun t ht => by rw [List.mem_singleton] at ht; subst ht; rfl) b.2 hm
        rw [List.length_take] at this
        omega
      refine ⟨Nat.zero_le _, fun L hL => ?_⟩
      refine ⟨_, rfl, F, rfl, ⟨_, SqL.of (sUpd (Same.refl H') hL _ _ hF)⟩, ?_⟩
      refine for_list (xs := bs.map fun b => V.ref b.1) (fun j σ H2 => ∃ (v4 : Option V) (cs : List (Addr × List Nat)), σ = [some (.ref a), some (.ref F), some (.ref ras[i]), some (.ref L), v4, none] ∧ Same H' H2 ∧
          H2 L = some (.lst (cs.map fun b => V.ref b.1)) ∧ (∀ b ∈ cs, H2 b.1 = some (.tup (vNs b.2))) ∧ cs.map (·.2) = longer rows[i] ((bs.take j).map (·.2)))
        ⟨v4, [], rfl, sUpd (Same.refl H') hL, upd_same, fun b hb => by simp at hb, rfl⟩ (fun j σ H2 _ hP => ?_) (fun j x σ H2 hx hP => ?_) (fun σ H2 hP => ?_)
      · obtain ⟨_, _, _, s2, _⟩ := hP
        exact SqL.of (s2 _ _ hF)
      · obtain ⟨v4', cs, rfl, s2, hLc, hcs, hcm⟩ := hP
        have hj : j < bs.length := by
          have := (List.getElem?_eq_some_iff.mp hx).1
          rwa [List.length_map] at this
        rw [List.getElem?_map, List.getElem?_eq_getElem hj] at hx
        obtain rfl : V.ref bs[j].1 = x := Option.some.inj hx
        have htold := s2 _ _ (hb bs[j] (List.getElem_mem hj))
        have htl := hts bs[j] (List.getElem_mem hj)
        have hra2 := s2 _ _ hra
        refine ⟨_, rfl, .inl ⟨rfl, _, SqL.of hLc⟩, _, rfl, ras[i], rfl, ⟨_, SqT.of hra2⟩, fun Dn hD => ?_⟩
        refine lc_any (n := (vNs rows[i]).length) (fun k H3 => Same H2 H3 ∧ ∃ es : List (Addr × List Nat), H3 Dn = some (.lst (es.map fun b => V.ref b.1)) ∧ (∀ b ∈ es, H3 b.1 = some (.tup (vNs b.2))) ∧
            es.map (·.2) = ((rows[i].take k).filter fun x => decide (x ∉ bs[j].2)).map fun x => bs[j].2 ++ [x])
          ⟨sUpd (Same.refl H2) hD, [], upd_same, fun b hb => by simp at hb, rfl⟩ (fun k H3 hk hP => ⟨_, _, SqT.of (hP.1 _ _ hra2), List.getElem?_eq_getElem hk⟩) (fun H3 hP => ⟨_, SqT.of (hP.1 _ _ hra2), Nat.le_refl _⟩) (fun k x H3 H4 hk hP hy => ?_) (fun H3 hP => ?_)
        · obtain ⟨rfl, hx3⟩ := hy
          obtain ⟨s3, es, hes, hem, hmap⟩ := hP
          obtain ⟨hk1, rfl⟩ := vNs_of (hx3 _ (SqT.of (s3 _ _ hra2)))
          have hel : es.length ≤ 5 := by
            have e1 := congrArg List.length hmap
            rw [List.length_map, List.length_map] at e1
            have e2 := List.length_filter_le (fun x => decide (x ∉ bs[j].2)) (rows[i].take k)
            rw [List.length_take] at e2
            omega
          refine ⟨rfl, _, rfl, _, rfl, bs[j].1, _, rfl, .inr (SqT.of (s3 _ _ htold)), rfl, flat_N _, _, rfl, ?_⟩
          rw [if_pos rfl, inV_N]
          by_cases c : rows[i][k] ∈ bs[j].2
          · rw [decide_eq_true c]
            refine if_neg_of rfl ⟨s3, es, hes, hem, ?_⟩
            rw [filt_take hk1, if_neg (by simp [c]), List.append_nil]
            exact hmap
          · rw [decide_eq_false c]
            refine if_pos_of rfl ⟨_, rfl, _, rfl, (by show 1 ≤ sizeLine; decide), fun pt hpt => ?_⟩
            have st := sUpd2 (o := .tup [vN rows[i][k]]) s3 hpt
            have ht2 := st _ _ htold
            refine cat_any (st _ _ htold) upd_same ?_ fun pn H5 s5 h5 => ?_
            · rw [vNs_len, sizeLine_eq]
              simp only [List.length_singleton]
              omega
            have hes5 := s5 _ _ ((upd_ne (o := .tup [vN rows[i][k]]) (ne_of_none hes hpt)).trans hes)
            have nD : Dn ≠ pn := ne_of hes5 h5 fun z => nomatch z
            refine ⟨_, hes5, ?_, sUpd (st.trans s5) hD, es ++ [(pn, bs[j].2 ++ [rows[i][k]])], ?_, fun b hb => ?_, ?_⟩
            · rw [List.length_map, sizeLine_eq]
              omega
            · rw [upd_same, List.map_append]
              rfl
            · rcases List.mem_append.mp hb with hb | hb
              · have e5 := s5 _ _ ((upd_ne (o := .tup [vN rows[i][k]]) (ne_of_none (hem b hb) hpt)).trans (hem b hb))
                rw [upd_ne (ne_of e5 hes5 fun z => nomatch z)]
                exact e5
              · rw [List.mem_singleton] at hb
                subst hb
                rw [upd_ne nD.symm, h5, vNs_app]
                rfl
            · rw [filt_take hk1, if_pos (by simp [c]), List.map_append, List.map_append, hmap]
              rfl
        · obtain ⟨s3, es, hes, hem, hmap⟩ := hP
          rw [vNs_len, List.take_length] at hmap
          have nLD : L ≠ Dn := ne_of_none hLc hD
          have hcl : cs.length ≤ 15625 := by
            have e1 := congrArg List.length hcm
            rw [List.length_map] at e1
            have e2 := longer_le rows[i] 5 hl5 ((bs.take j).map (·.2))
            rw [List.length_map, List.length_take] at e2
            omega
          have hel : es.length ≤ 5 := by
            have e1 := congrArg List.length hmap
            rw [List.length_map, List.length_map] at e1
            have e2 := List.length_filter_le (fun x => decide (x ∉ bs[j].2)) rows[i]
            omega
          refine ⟨L, Dn, _, _, rfl, rfl, s3 _ _ hLc, hes, ?_, ?_⟩
          · rw [List.length_map, List.length_map, sizeLine_eq]
            omega
          have hL3 := s3 _ _ hLc
          refine ⟨_, cs ++ es, rfl, ?_, ?_, fun b hb => ?_, ?_⟩
          · exact sUpd (s2.trans s3) hL
          · rw [upd_same, List.map_append]
          · rcases List.mem_append.mp hb with hb | hb
            · have e5 := s3 _ _ (hcs b hb)
              rw [upd_ne (ne_of e5 hL3 fun z => nomatch z)]
              exact e5
            · rw [upd_ne (ne_of (hem b hb) hL3 fun z => nomatch z)]
              exact hem b hb
          · rw [List.map_append, hcm, hmap, List.map_take, List.map_take, longer_take (by rw [List.length_map]; exact hj), List.getElem_map]
      · obtain ⟨v4', cs, rfl, s2, hLc, hcs, hcm⟩ := hP
        rw [List.length_map, List.take_length] at hcm
        refine ⟨_, rfl, L, cs, _, _, _, rfl, s1.trans s2, hLc, hcs, ?_⟩
        rw [hcm, hbs, List.take_succ_eq_append_getElem hir, List.foldl_append]
        rfl
    · obtain ⟨F, bs, v2, v3, v4, rfl, s1, hF, hb, hbs⟩ := hP
      rw [List.length_map, hlen, List.take_length] at hbs
      refine ⟨_, rfl, F, bs, rfl, SqL.of hF, fun b hbm => ?_, ?_, fun xs p hxl hp => q p xs _ (sUpd2 s1 hp) upd_same ?_⟩
      · exact hb b hbm
      · rcases List.eq_nil_or_concat rows with e | ⟨rs, r, e⟩
        · subst e
          have := congrArg List.length hbs
          rw [List.length_map] at this
          exact .inr this
        · refine .inl fun b hbm z => ?_
          have hm : b.2 ∈ rows.foldl (fun f r => longer r f) [[]] := by rw [← hbs]; exact List.mem_map_of_mem hbm
          have e3 := fold_lens rows [[]] 0 (fun t ht => by rw [List.mem_singleton] at ht; subst ht; rfl) b.2 hm
          rw [z, e] at e3
          simp at e3
      · rw [hxl]
        have := congrArg List.length hbs
        rw [List.length_map] at this
        exact this
end
end FR

/-! the law's rows -/
namespace FR
open PySem PySem.Spec PyProof.Rows L2
abbrev rTupOf (K : PySem.W.Frag) : List V → Hp → VK → Prop := fun xs H Q => ∃ p ys, xs = [.ref p] ∧ ((SqL K H p ys ∧ ∀ l, H l = none → Q (.ref l) (upd H l (.tup ys))) ∨ (SqT K H p ys ∧ Q (.ref p) H))
def spRows : Sp := fun vs H Q _ => ∃ (pa ta aa : Addr) (people things : List Nat) (allowed : List (List Nat)), vs = [.ref pa, .ref ta, .ref aa] ∧ KData H pa ta aa people things allowed ∧ KOk people things allowed ∧ people.sum ≤ 5 ∧
  ∀ (p : Addr) (ras : List Addr) (H' : Hp), Same H H' → H' p = some (.tup (ras.map V.ref)) → ras.length = ((rowsOf people allowed).map (rowOf (spread things))).length →
    (∀ (i : Nat) (ra : Addr) (r : List Nat), ras[i]? = some ra → ((rowsOf people allowed).map (rowOf (spread things)))[i]? = some r → H' ra = some (.tup (vNs r))) → Q (.ref p) H'
section
variable {P : Program} {w : World} {K : PySem.W.Frag} {mg : Str → Option Value} {base : Heap}
abbrev sRows : Stmt := top 30
abbrev nRows : List Str := ["_law_people", "_law_things", "_law_allowed", "_law_wide_here", "_law_kind", "_law_k"]
theorem scRows : FnScope nRows ["_law_people", "_law_things", "_law_allowed"] (defScope sRows) := ⟨rfl, rfl, rfl, by decide +kernel, rfl, by decide +kernel, by decide +kernel⟩
theorem ok_rows (D : Def K mg "_law_kind_rows" sRows ["_law_people", "_law_things", "_law_allowed"]) (B : Bl mg) (CW : Cal P w K mg base CX0 1 "_law_wide" ["_law_numbers"] spWide) :
    Cal P w K mg base CX0 2 "_law_kind_rows" ["_law_people", "_law_things", "_law_allowed"] spRows := by
  refine D.cal scRows (fun vs H Q E h => ?_) (fun f cdv A outer s H vs Q E hr h => ?_)
  · obtain ⟨pa, ta, aa, people, things, allowed, rfl, _⟩ := h
    rfl
  · obtain ⟨pa, ta, aa, people, things, allowed, rfl, kd, ok, s5, q⟩ := h
    refine ⟨_, pss_cons (ps_set (i := 3) scRows.nd rfl (Or.inr rfl) (pe_cal CW hr (by rfl) (pa_cons (pv 1) pa_nil)))
      (pss_one (ps_ret (pe_callTy (r := rTupOf K) call_tuple_of (by rfl) B.tup bo_tup (pa_cons
        (pe_lc (own := [("_law_kind", 4)]) (g := gName 4) (tt := tYes) (by rfl) scRows.nd (pi_list (pe_cal CW hr (by rfl) (pa_cons (pv 0) pa_nil)))
          (blkOk_by (N := nRows) (sc := defScope sRows) (by decide +kernel)) (fun _ _ _ _ _ => pg_name (i := 4) scRows.nd rfl (Or.inr rfl)) (fun _ _ _ _ _ => pts_nil)
          (fun _ _ _ _ _ => pe_callTy (r := rTupOf K) call_tuple_of (by rfl) B.tup bo_tup (pa_cons
            (pe_lc (own := [("_law_k", 5)]) (g := gName 5) (by rfl) scRows.nd (pi_range1 (by rfl) B.rng (pa_cons (pe_callB (r := lenR K) call_len (by rfl) B.len_ bo_len (pa_cons (pv 3) pa_nil)) pa_nil))
              (blkOk_by (by rfl)) (fun _ _ _ _ _ => pg_name (i := 5) scRows.nd rfl (Or.inl rfl))
              (fun _ _ _ _ _ => pts_one (pt_cmpR (r := rIn K false) op_in_seq (pe_ix (r := rIxL K) ix_list (pv 3) (pv 5) (fun _ _ => rfl)) (pe_ix (r := rIxT K) ix_tup (pv 2) (pv 4) (fun _ _ => rfl)) rfl))
              (fun _ _ _ _ _ => pv 5)) pa_nil))) pa_nil)))), ?_⟩
    have hl8 := ok.lt8
    have hp8 := ok.lp8
    refine ⟨_, rfl, ta, things, rfl, kd.ht, by omega, by have := ok.sums; omega, fun W H1 s1 hW0 hW => ?_⟩
    have ew : (spread things).length = things.sum := spread_len things 0
    have w5 : (spread things).length ≤ 5 := by have := ok.sums; omega
    refine ⟨_, rfl, pa, people, rfl, s1 _ _ kd.hp, by omega, by omega, fun Lp H2 s2 hL0 hL => ?_⟩
    have s12 := s1.trans s2
    have kd2 := kd.keep fun b xs e => s12 b _ e
    have hW2 := s2 _ _ hW
    obtain ⟨ars, har, harl, harr⟩ := kd2.ha
    refine ⟨Lp, rfl, ⟨_, SqL.of hL⟩, fun Dn hD => ?_⟩
    refine lc_any (n := (vNs (spread people)).length) (fun i H3 => Same H2 H3 ∧ ∃ es : List (Addr × List Nat), H3 Dn = some (.lst (es.map fun b => V.ref b.1)) ∧ (∀ b ∈ es, H3 b.1 = some (.tup (vNs b.2))) ∧
        es.map (·.2) = (((rowsOf people allowed).map (rowOf (spread things))).take i))
      ⟨sUpd (Same.refl H2) hD, [], upd_same, fun b hb => by simp at hb, rfl⟩ (fun i H3 hi hP => ⟨_, _, SqL.of (hP.1 _ _ hL), List.getElem?_eq_getElem hi⟩) (fun H3 hP => ⟨_, SqL.of (hP.1 _ _ hL), Nat.le_refl _⟩) (fun i x H3 H4 hi hP hy => ?_) (fun H3 hP => ?_)
    · obtain ⟨rfl, hx⟩ := hy
      obtain ⟨s3, es, hes, hem, hmap⟩ := hP
      obtain ⟨hi1, rfl⟩ := vNs_of (hx _ (SqL.of (s3 _ _ hL)))
      have hlt := spread_lt people 0 _ (List.getElem_mem hi1)
      rw [Nat.zero_add] at hlt
      have hla : (spread people)[i] < allowed.length := by rw [ok.la]; exact hlt
      have hlr : (spread people)[i] < ars.length := by omega
      have hR := harr _ ars[(spread people)[i]] allowed[(spread people)[i]] (List.getElem?_eq_getElem hlr) (List.getElem?_eq_getElem hla)
      have hi2 : i < (rowsOf people allowed).length := by unfold rowsOf; rw [List.length_map]; exact hi1
      have er : (rowsOf people allowed)[i] = allowed[(spread people)[i]] := by
        refine (List.getElem_map (fun i => allowed.getD i []) (l := spread people) (i := i) (h := hi2)).trans ?_
        rw [List.getD_eq_getElem?_getD, List.getElem?_eq_getElem hla]
        rfl
      have hel : es.length ≤ 5 := by
        have e1 := congrArg List.length hmap
        rw [List.length_map, List.length_take, List.length_map, rowsOf_len] at e1
        omega
      refine ⟨rfl, _, rfl, .ref W, _, rfl, .inl ⟨_, SqL.of (s3 _ _ hW2), rfl⟩, _, rfl, ?_⟩
      rw [vNs_len]
      refine ⟨by omega, by omega, fun Di hDi => ?_⟩
      refine lc_range (lo := 0) (n := (spread things).length) (fun k H5 => Same H4 H5 ∧ H5 Di = some (.lst (vNs ((List.range k).filter fun k => decide (at0 (spread things) k ∈ allowed[(spread people)[i]])))))
        ⟨sUpd (Same.refl H4) hDi, upd_same⟩ (fun k H5 hk hP => ?_) (fun H5 hP => ?_)
      · obtain ⟨s4, hd⟩ := hP
        have ek : V.int (0 + (k : Nat)) = vN k := by rw [Int.zero_add]
        have efil : (List.range (k + 1)).filter (fun k => decide (at0 (spread things) k ∈ allowed[(spread people)[i]])) = (List.range k).filter (fun k => decide (at0 (spread things) k ∈ allowed[(spread people)[i]])) ++ if at0 (spread things) k ∈ allowed[(spread people)[i]] then [k] else [] := by
          rw [List.range_succ, List.filter_append]
          by_cases c : at0 (spread things) k ∈ allowed[(spread people)[i]]
          · simp [c]
          · simp [c]
        refine ⟨rfl, _, rfl, _, rfl, W, _, _, _, rfl, rfl, SqL.of (s4 _ _ (s3 _ _ hW2)), by rw [Int.zero_add]; exact atI_nat (vNs_get hk), ?_⟩
        refine ⟨_, rfl, _, rfl, aa, _, _, _, rfl, rfl, SqT.of (s4 _ _ (s3 _ _ har)), atI_nat (j := (spread people)[i]) (by rw [List.getElem?_map, List.getElem?_eq_getElem hlr]; rfl), ?_⟩
        refine ⟨ars[(spread people)[i]], _, rfl, .inr (SqT.of (s4 _ _ (s3 _ _ hR))), rfl, flat_N _, _, rfl, ?_⟩
        rw [if_neg Bool.false_ne_true, inV_N, ← at0_get hk]
        by_cases c : at0 (spread things) k ∈ allowed[(spread people)[i]]
        · refine if_pos_of (decide_eq_true c) ⟨_, rfl, _, hd, ?_, sUpd s4 hDi, ?_⟩
          · have := List.length_filter_le (fun k => decide (at0 (spread things) k ∈ allowed[(spread people)[i]])) (List.range k)
            rw [List.length_range] at this
            rw [vNs_len, sizeLine_eq]
            omega
          · rw [upd_same, efil, if_pos c, vNs_app, ek]
            rfl
        · refine if_neg_of (decide_eq_false c) ⟨s4, ?_⟩
          rw [efil, if_neg c, List.append_nil]
          exact hd
      · obtain ⟨s4, hd⟩ := hP
        refine ⟨Di, _, rfl, .inl ⟨SqL.of hd, fun t ht => ?_⟩⟩
        have st := sUpd2 (o := .tup (vNs ((List.range (spread things).length).filter fun k => decide (at0 (spread things) k ∈ allowed[(spread people)[i]])))) (s3.trans s4) ht
        have hes5 := (upd_ne (o := .tup (vNs ((List.range (spread things).length).filter fun k => decide (at0 (spread things) k ∈ allowed[(spread people)[i]])))) (ne_of_none (s4 _ _ hes) ht)).trans (s4 _ _ hes)
        have ht5 : upd H5 t (.tup (vNs ((List.range (spread things).length).filter fun k => decide (at0 (spread things) k ∈ allowed[(spread people)[i]])))) t = some (.tup (vNs (rowOf (spread things) allowed[(spread people)[i]]))) := upd_same
        refine ⟨_, hes5, ?_, sUpd st hD, es ++ [(t, rowOf (spread things) allowed[(spread people)[i]])], ?_, fun b hb => ?_, ?_⟩
        · rw [List.length_map, sizeLine_eq]
          omega
        · rw [upd_same, List.map_append]
          rfl
        · rcases List.mem_append.mp hb with hb | hb
          · have e4 := s4 _ _ (hem b hb)
            have e5 := (upd_ne (o := .tup (vNs ((List.range (spread things).length).filter fun k => decide (at0 (spread things) k ∈ allowed[(spread people)[i]])))) (ne_of_none e4 ht)).trans e4
            rw [upd_ne (ne_of e5 hes5 fun z => nomatch z)]
            exact e5
          · rw [List.mem_singleton] at hb
            subst hb
            rw [upd_ne (ne_of ht5 hes5 fun z => nomatch z)]
            exact ht5
        · rw [List.map_append, hmap, List.take_succ_eq_append_getElem (by rw [List.length_map]; exact hi2), List.getElem_map, er]
          rfl
    · obtain ⟨s3, es, hes, hem, hmap⟩ := hP
      rw [vNs_len, List.take_of_length_le (by rw [List.length_map, rowsOf_len, spread_len]; exact Nat.le_refl _)] at hmap
      refine ⟨Dn, _, rfl, .inl ⟨SqL.of hes, fun t ht => ?_⟩⟩
      refine q t (es.map (·.1)) _ (sUpd2 (s12.trans s3) ht) ?_ ?_ fun i ra r e1 e2 => ?_
      · rw [upd_same, List.map_map]
        rfl
      · rw [← hmap, List.length_map, List.length_map]
      · rw [← hmap] at e2
        rw [List.getElem?_map] at e1 e2
        obtain ⟨b, eb, rfl⟩ := Option.map_eq_some_iff.mp e1
        rw [eb] at e2
        obtain rfl : b.2 = r := Option.some.inj e2
        have hb := hem b (List.mem_of_getElem? eb)
        rw [upd_ne (ne_of_none hb ht)]
        exact hb
end
end FR

/-! the law's kinds -/
namespace FR
open PySem PySem.Spec PyProof.Rows L2
theorem Pl.upd {p C : Addr} {H H' : Hp} (a : Pl p C H H') {x : Addr} {o : HO} (h : H x = none) : Pl p C H (upd H' x o) := by
  obtain ⟨n1, n2⟩ := a.ne1 h
  refine ⟨fun b u m1 m2 e => ?_, ?_, a.old⟩
  · rw [upd_ne (ne_of_none e h)]
    exact a.same b u m1 m2 e
  · obtain ⟨u, v, cs, h1, h2, h3⟩ := a.at_
    exact ⟨u, v, cs, by rw [upd_ne n1.symm]; exact h1, by rw [upd_ne n2.symm]; exact h2, h3⟩
theorem Pl.free {p C : Addr} {H H' : Hp} (a : Pl p C H H') {x : Addr} (h : H' x = none) : H x = none := by
  by_cases n1 : x = p
  · subst n1
    obtain ⟨_, _, _, h1, _⟩ := a.at_
    rw [h] at h1
    exact nomatch h1
  by_cases n2 : x = C
  · subst n2
    obtain ⟨_, _, _, _, h1, _⟩ := a.at_
    rw [h] at h1
    exact nomatch h1
  cases e : H x with
  | none => rfl
  | some o =>
    have := a.same x o n1 n2 e
    rw [h] at this
    exact nomatch this
theorem sum_set : ∀ (l : List Nat) (d : Nat) (h : d < l.length), (l.set d (l[d] + 1)).sum = l.sum + 1
  | [], _, h => by simp at h
  | a :: l, 0, _ => by simp only [List.set_cons_zero, List.getElem_cons_zero, List.sum_cons]; omega
  | a :: l, d + 1, h => by
    have ih := sum_set l d (by simpa using h)
    simp only [List.set_cons_succ, List.getElem_cons_succ, List.sum_cons]
    rw [ih]
    omega
theorem ixN_nat {n d : Nat} (h : d < n) : ixN n (d : Int) = some d := by
  unfold ixN
  rw [if_pos (by omega), if_pos (by omega)]
  rfl
theorem pair_snoc {l : List Nat} {k : Nat} (h : l.Pairwise (· < ·)) (hb : ∀ t, t ∈ l → t < k) : (l ++ [k]).Pairwise (· < ·) := by
  rw [List.pairwise_append]
  exact ⟨h, List.pairwise_singleton _ _, fun a ha b hb' => by rw [List.mem_singleton] at hb'; subst hb'; exact hb a ha⟩
def spLawKinds : Sp := fun vs H Q _ => ∃ (p C : Addr) (m : Int), vs = [.ref p, .int m] ∧ PoolAt p C H ∧ 0 ≤ m ∧ m ≤ 5 ∧
  ∀ (t pa ta aa : Addr) (people things : List Nat) (allowed : List (List Nat)) (H' : Hp), Pl p C H H' → H' t = some (.tup [.ref pa, .ref ta, .ref aa]) → KData H' pa ta aa people things allowed → KOk people things allowed → people.sum ≤ 5 → things.length ≤ 3 → Q (.ref t) H'
section
variable {P : Program} {w : World} {K : PySem.W.Frag} {mg : Str → Option Value} {base : Heap}
abbrev sMk : Stmt := top 28
abbrev nMk : List Str := ["_law_pool_here", "_law_most", "_law_sizes", "_law_total", "_law_counts", "_law_many", "_law_row", "_law_k", "_law_at", "_law_share", "_law_allowed", "_law_kind", "_law_thing"]
theorem scMk : FnScope nMk ["_law_pool_here", "_law_most"] (defScope sMk) := ⟨rfl, rfl, rfl, by decide +kernel, rfl, by decide +kernel, by decide +kernel⟩
theorem ok_lawKinds (D : Def K mg "_law_kinds" sMk ["_law_pool_here", "_law_most"]) (B : Bl mg) (CD : Cal P w K mg base CX0 1 "_law_draw" ["_law_pool_here", "_law_many"] spDraw) :
    Cal P w K mg base CX0 2 "_law_kinds" ["_law_pool_here", "_law_most"] spLawKinds := by
  refine D.cal scMk (fun vs H Q E h => ?_) (fun f cdv A outer s H vs Q E hr h => ?_)
  · obtain ⟨p, C, m, rfl, _⟩ := h
    rfl
  · obtain ⟨p, C, m, rfl, hpool, m0, m5, q⟩ := h
    refine ⟨_, pss_cons (ps_set (i := 2) scMk.nd rfl (Or.inl rfl) (pe_lst (pa_cons (pe_op op_add pe_int (pe_cal CD hr (by rfl) (pa_cons (pv 0) (pa_cons pe_int pa_nil)))) (pa_cons (pe_op op_add pe_int (pe_cal CD hr (by rfl) (pa_cons (pv 0) (pa_cons pe_int pa_nil)))) pa_nil))))
      (pss_cons (ps_set (i := 3) scMk.nd rfl (Or.inl rfl) (pe_cal CD hr (by rfl) (pa_cons (pv 0) (pa_cons (pe_op op_add (pv 1) pe_int) pa_nil))))
      (pss_cons (ps_set (i := 4) scMk.nd rfl (Or.inl rfl) (pe_lst pa_nil))
      (pss_cons (ps_for PassesOwn.never rfl (pi_list (pv 2)) (pg_name (i := 5) scMk.nd rfl (Or.inl rfl))
        (pss_cons (ps_set (i := 6) scMk.nd rfl (Or.inl rfl) (pe_op op_rep (pe_lst (pa_cons pe_int pa_nil)) (pv 5)))
        (pss_cons (ps_for PassesOwn.never rfl (pi_range1 (by rfl) B.rng (pa_cons (pv 3) pa_nil)) (pg_name (i := 7) scMk.nd rfl (Or.inl rfl))
          (pss_cons (ps_set (i := 8) scMk.nd rfl (Or.inl rfl) (pe_cal CD hr (by rfl) (pa_cons (pv 0) (pa_cons (pv 5) pa_nil))))
          (pss_one (ps_asg (pe_op op_add (pe_ix ix_list (pv 6) (pv 8) (fun _ _ => rfl)) pe_int) (pg_sub (pv 6) (pv 8) set_list)))))
        (pss_one (ps_expr (pe_bm PySem.F.plainAttrs_list PySem.F.slot_list_append PySem.F.type_list_append mt_append (pv 4) (pa_cons (pe_callTy (r := rTupOf K) call_tuple_of (by rfl) B.tup bo_tup (pa_cons (pv 6) pa_nil)) pa_nil)))))))
      (pss_cons (ps_set (i := 9) scMk.nd rfl (Or.inr rfl) (pe_op op_add pe_int (pe_cal CD hr (by rfl) (pa_cons (pv 0) (pa_cons pe_int pa_nil)))))
      (pss_cons (ps_set (i := 10) scMk.nd rfl (Or.inl rfl) (pe_lst pa_nil))
      (pss_cons (ps_for PassesOwn.never rfl (pi_range1 (by rfl) B.rng (pa_cons (pe_ix ix_list (pv 2) pe_int (fun _ _ => rfl)) pa_nil)) (pg_name (i := 11) scMk.nd rfl (Or.inl rfl))
        (pss_one (ps_expr (pe_bm PySem.F.plainAttrs_list PySem.F.slot_list_append PySem.F.type_list_append mt_append (pv 10) (pa_cons (pe_callTy (r := rTupOf K) call_tuple_of (by rfl) B.tup bo_tup (pa_cons
          (pe_lc (own := [("_law_thing", 12)]) (g := gName 12) (by rfl) scMk.nd (pi_range1 (by rfl) B.rng (pa_cons (pe_ix ix_list (pv 2) pe_int (fun _ _ => rfl)) pa_nil))
            (blkOk_by (N := nMk) (sc := defScope sMk) (by decide +kernel)) (fun _ _ _ _ _ => pg_name (i := 12) scMk.nd rfl (Or.inl rfl))
            (fun _ _ _ _ _ => pts_one (pt_cmpR op_lt (pe_cal CD hr (by rfl) (pa_cons (pv 0) (pa_cons pe_int pa_nil))) (pv 9) (nomark _)))
            (fun _ _ _ _ _ => pv 12)) pa_nil)) pa_nil)))))
      (pss_one (ps_ret (pe_tup (pa_cons (pe_ix ix_list (pv 4) pe_int (fun _ _ => rfl)) (pa_cons (pe_ix ix_list (pv 4) pe_int (fun _ _ => rfl)) (pa_cons (pe_callTy (r := rTupOf K) call_tuple_of (by rfl) B.tup bo_tup (pa_cons (pv 10) pa_nil)) pa_nil)))))))))))), ?_⟩
    refine ⟨_, rfl, p, C, 3, rfl, hpool, by decide, by decide, fun d1 H1 hd1 pl1 => ⟨_, _, rfl, rfl, ?_⟩⟩
    refine ⟨_, rfl, p, C, 3, rfl, pl1.at_, by decide, by decide, fun d2 H2 hd2 pl2 => ⟨_, _, rfl, rfl, (by show 2 ≤ sizeLine; decide), fun S hS => ?_⟩⟩
    have pl12 := pl1.trans pl2
    have hS0 := pl12.free hS
    have nS := pl12.ne1 hS0
    have hS3 : upd H2 S (.lst [.int (1 + (d1 : Int)), .int (1 + (d2 : Int))]) S = some (.lst (vNs [1 + d1, 1 + d2])) := upd_same
    have pl3 : Pl p C H (upd H2 S (.lst [.int (1 + (d1 : Int)), .int (1 + (d2 : Int))])) := pl12.same' (sUpd (Same.refl H2) hS)
    refine ⟨_, rfl, _, rfl, _, _, rfl, rfl, p, C, _, rfl, pl3.at_, by omega, by omega, fun tot H4 hd4 pl4 => ?_⟩
    have hS4 := pl4.same _ _ nS.1 nS.2 hS3
    have pl34 := pl3.trans pl4
    refine ⟨Nat.zero_le _, fun CT hCT => ?_⟩
    have hCT0 := pl34.free hCT
    have nCT := pl34.ne1 hCT0
    have pl5 : Pl p C H (upd H4 CT (.lst [])) := pl34.same' (sUpd (Same.refl H4) hCT)
    have nSC : S ≠ CT := ne_of_none hS4 hCT
    have hS5 := (upd_ne (o := .lst []) nSC).trans hS4
    refine ⟨_, rfl, S, rfl, ⟨_, SqL.of hS5⟩, ?_⟩
    refine for_list (xs := vNs [1 + d1, 1 + d2]) (fun i σ H' => ∃ (v5 v6 v7 v8 : Option V) (cs : List (Addr × List Nat)), σ = [some (.ref p), some (.int m), some (.ref S), some (vN tot), some (.ref CT), v5, v6, v7, v8, none, none, none, none] ∧ Pl p C H H' ∧
        H' S = some (.lst (vNs [1 + d1, 1 + d2])) ∧ H' CT = some (.lst (cs.map fun b => V.ref b.1)) ∧ (∀ b ∈ cs, H b.1 = none ∧ H' b.1 = some (.tup (vNs b.2))) ∧ cs.map (fun b => b.2.length) = [1 + d1, 1 + d2].take i ∧ ∀ b ∈ cs, b.2.sum = tot)
      ⟨none, none, none, none, [], rfl, pl5, hS5, upd_same, fun b hb => by simp at hb, rfl, fun b hb => by simp at hb⟩ (fun i σ H' _ hP => ?_) (fun i x σ H' hx hP => ?_) (fun σ H' hP => ?_)
    · obtain ⟨_, _, _, _, _, _, _, h1, _⟩ := hP
      exact SqL.of h1
    · obtain ⟨v5, v6, v7, v8, cs, rfl, pl, hS', hC', hcs, hln, hsm⟩ := hP
      obtain ⟨hi, rfl⟩ := vNs_of hx
      generalize en : [1 + d1, 1 + d2][i] = n
      have hn : n = 1 + d1 ∨ n = 1 + d2 := by
        have := List.getElem_mem hi
        rw [en] at this
        simpa using this
      have hn3 : n ≤ 3 := by omega
      have hn1 : 1 ≤ n := by omega
      have hcl : cs.length ≤ 2 := by
        have e1 := congrArg List.length hln
        rw [List.length_map, List.length_take] at e1
        have : [1 + d1, 1 + d2].length = 2 := rfl
        omega
      refine ⟨(by show 1 ≤ sizeLine; decide), fun r0 hr0 => ⟨_, rfl, r0, _, [.int 0], rfl, rfl, upd_same, by omega, by omega, ?_, fun R hR => ?_⟩⟩
      · rw [sizeLine_eq]
        simp only [List.length_singleton]
        omega
      have sR : Same H' (upd (upd H' r0 (.lst [.int 0])) R (.lst (List.replicate (n : Int).toNat [V.int 0]).flatten)) := sUpd2 (sUpd (Same.refl H') hr0) hR
      have plR := pl.same' sR
      have hR0 : H R = none := pl.free ((sUpd (Same.refl H') hr0).free hR)
      have nR := pl.ne1 hR0
      have hRv : upd (upd H' r0 (.lst [.int 0])) R (.lst (List.replicate (n : Int).toNat [V.int 0]).flatten) R = some (.lst (vNs (List.replicate n 0))) := by
        rw [upd_same]
        simp [vNs]
      have nRS : S ≠ R := ne_of_none ((sUpd (Same.refl H') hr0) _ _ hS') hR
      have nRC : CT ≠ R := ne_of_none ((sUpd (Same.refl H') hr0) _ _ hC') hR
      refine ⟨_, rfl, _, rfl, by omega, by omega, ?_⟩
      refine for_range (n := tot) (fun k σ H2 => ∃ (v7 v8 : Option V) (l : List Nat), σ = [some (.ref p), some (.int m), some (.ref S), some (vN tot), some (.ref CT), some (vN n), some (.ref R), v7, v8, none, none, none, none] ∧ Pl p C H H2 ∧
          H2 S = some (.lst (vNs [1 + d1, 1 + d2])) ∧ H2 CT = some (.lst (cs.map fun b => V.ref b.1)) ∧ (∀ b ∈ cs, H2 b.1 = some (.tup (vNs b.2))) ∧ H2 R = some (.lst (vNs l)) ∧ l.length = n ∧ l.sum = k)
        ⟨v7, v8, List.replicate n 0, rfl, plR, sR _ _ hS', sR _ _ hC', fun b hb => sR _ _ (hcs b hb).2, hRv, by simp, by simp⟩ (fun k σ H2 hk hP => ?_) (fun σ H2 hP => ?_)
      · obtain ⟨w7, w8, l, rfl, plk, kS, kC, kcs, kR, kl, ks⟩ := hP
        refine ⟨_, rfl, _, rfl, p, C, _, rfl, plk.at_, by omega, by omega, fun d H3 hd pl3 => ?_⟩
        have kR3 := pl3.same _ _ nR.1 nR.2 kR
        have hdl : d < l.length := by omega
        refine ⟨_, rfl, _, rfl, R, _, _, _, rfl, rfl, SqL.of kR3, atI_nat (vNs_get hdl), _, _, rfl, rfl, ?_⟩
        refine ⟨_, rfl, _, rfl, R, _, _, d, rfl, rfl, kR3, ixN_nat (by rw [vNs_len]; exact hdl), ?_⟩
        refine ⟨_, _, l.set d (l[d] + 1), rfl, (plk.trans pl3).upd hR0, ?_, ?_, fun b hb => ?_, ?_, ?_, ?_⟩
        · rw [upd_ne nRS]
          exact pl3.same _ _ nS.1 nS.2 kS
        · rw [upd_ne nRC]
          exact pl3.same _ _ nCT.1 nCT.2 kC
        · have nb := pl.ne1 (hcs b hb).1
          have e3 := pl3.same _ _ nb.1 nb.2 (kcs b hb)
          rw [upd_ne (ne_of e3 kR3 fun z => nomatch z)]
          exact e3
        · rw [upd_same]
          show some (HO.lst ((vNs l).set d (vN (l[d] + 1)))) = _
          unfold vNs
          rw [List.map_set]
        · rw [List.length_set]
          exact kl
        · rw [sum_set l d hdl, ks]
      · obtain ⟨w7, w8, l, rfl, plk, kS, kC, kcs, kR, kl, ks⟩ := hP
        refine ⟨_, rfl, .inl ⟨rfl, _, SqL.of kC⟩, _, rfl, R, _, rfl, .inl ⟨SqL.of kR, fun T hT => ?_⟩⟩
        have nCT' : CT ≠ T := ne_of_none kC hT
        have hT0 := plk.free hT
        refine ⟨CT, _, _, rfl, rfl, (upd_ne nCT').trans kC, ?_, ?_⟩
        · rw [List.length_map, sizeLine_eq]
          omega
        have sT : Same H2 (upd H2 T (.tup (vNs l))) := sUpd (Same.refl H2) hT
        refine ⟨_, _, _, _, cs ++ [(T, l)], rfl, (plk.same' sT).upd hCT0, ?_, ?_, fun b hb => ?_, ?_, fun b hb => ?_⟩
        · rw [upd_ne nSC]
          exact sT _ _ kS
        · rw [upd_same, List.map_append]
          rfl
        · rcases List.mem_append.mp hb with hb | hb
          · refine ⟨(hcs b hb).1, ?_⟩
            have e3 := sT _ _ (kcs b hb)
            rw [upd_ne (ne_of e3 (sT _ _ kC) fun z => nomatch z)]
            exact e3
          · rw [List.mem_singleton] at hb
            subst hb
            refine ⟨hT0, ?_⟩
            rw [upd_ne nCT'.symm]
            exact upd_same
        · rw [List.map_append, hln, List.take_succ_eq_append_getElem hi, en]
          show _ ++ [l.length] = _
          rw [kl]
        · rcases List.mem_append.mp hb with hb | hb
          · exact hsm b hb
          · rw [List.mem_singleton] at hb
            subst hb
            exact ks
    obtain ⟨v5, v6, v7, v8, cs, rfl, pl, hS', hC', hcs, hln, hsm⟩ := hP
    obtain ⟨c1, c2, rfl⟩ : ∃ c1 c2, cs = [c1, c2] := by
      have h2 : cs.length = 2 := by
        have e := congrArg List.length hln
        rw [List.length_map] at e
        exact e
      match cs, h2 with
      | [c1, c2], _ => exact ⟨c1, c2, rfl⟩
    have hL1 : c1.2.length = 1 + d1 := (List.cons.inj hln).1
    have hL2 : c2.2.length = 1 + d2 := (List.cons.inj (List.cons.inj hln).2).1
    obtain ⟨hc10, hc1⟩ := hcs c1 (by simp)
    obtain ⟨hc20, hc2⟩ := hcs c2 (by simp)
    have hs1 := hsm c1 (by simp)
    have hs2 := hsm c2 (by simp)
    clear hcs hsm hln
    refine ⟨_, rfl, p, C, 4, rfl, pl.at_, by decide, by decide, fun d3 H7 hd3 pl7 => ⟨_, _, rfl, rfl, ?_⟩⟩
    have n1 := pl.ne1 hc10
    have n2 := pl.ne1 hc20
    have pl07 := pl.trans pl7
    have hS7 := pl7.same _ _ nS.1 nS.2 hS'
    have hC7 := pl7.same _ _ nCT.1 nCT.2 hC'
    have hc17 := pl7.same _ _ n1.1 n1.2 hc1
    have hc27 := pl7.same _ _ n2.1 n2.2 hc2
    refine ⟨Nat.zero_le _, fun AL hAL => ?_⟩
    have hAL0 := pl07.free hAL
    have nAL := pl07.ne1 hAL0
    have sA : Same H7 (upd H7 AL (.lst [])) := sUpd (Same.refl H7) hAL
    refine ⟨_, rfl, S, _, _, _, rfl, rfl, SqL.of (sA _ _ hS7), atI_nat (j := 0) rfl, _, rfl, by omega, by omega, ?_⟩
    refine for_range (n := 1 + d1) (fun i σ H' => ∃ (v11 : Option V) (as : List (Addr × List Nat)), σ = [some (.ref p), some (.int m), some (.ref S), some (vN tot), some (.ref CT), v5, v6, v7, v8, some (.int (1 + (d3 : Int))), some (.ref AL), v11, none] ∧ Pl p C H H' ∧
        H' S = some (.lst (vNs [1 + d1, 1 + d2])) ∧ H' CT = some (.lst ([c1, c2].map fun b => V.ref b.1)) ∧ H' c1.1 = some (.tup (vNs c1.2)) ∧ H' c2.1 = some (.tup (vNs c2.2)) ∧ H' AL = some (.lst (as.map fun b => V.ref b.1)) ∧
        (∀ b ∈ as, H b.1 = none ∧ H' b.1 = some (.tup (vNs b.2)) ∧ b.2.Pairwise (· < ·) ∧ ∀ t, t ∈ b.2 → t < 1 + d2) ∧ as.length = i)
      ⟨none, [], rfl, pl07.same' sA, sA _ _ hS7, sA _ _ hC7, sA _ _ hc17, sA _ _ hc27, upd_same, fun b hb => by simp at hb, rfl⟩ (fun i σ H' hi hP => ?_) (fun σ H' hP => ?_)
    · obtain ⟨v11, as, rfl, pl8, kS, kC, k1, k2, kA, has, hal⟩ := hP
      refine ⟨_, rfl, .inl ⟨rfl, _, SqL.of kA⟩, _, rfl, S, _, _, _, rfl, rfl, SqL.of kS, atI_nat (j := 1) rfl, _, rfl, by omega, by omega, fun Dn hD => ?_⟩
      have hD0 := pl8.free hD
      have nD := pl8.ne1 hD0
      refine lc_range (lo := 0) (n := 1 + d2) (fun t H'' => Pl p C H' H'' ∧ ∃ l : List Nat, H'' Dn = some (.lst (vNs l)) ∧ l.Pairwise (· < ·) ∧ (∀ x, x ∈ l → x < t) ∧ l.length ≤ t)
        ⟨pl8.at_.pl (sUpd (Same.refl H') hD), [], upd_same, List.Pairwise.nil, fun x hx => by simp at hx, Nat.le_refl _⟩ (fun t H'' ht hP => ?_) (fun H'' hP => ?_)
      · obtain ⟨plt, l, hl, hpw, hlt, hll⟩ := hP
        refine ⟨rfl, _, rfl, p, C, 4, rfl, plt.at_, by decide, by decide, fun d H9 hd pl9 => ?_⟩
        have hl9 := pl9.same _ _ nD.1 nD.2 hl
        refine ⟨_, rfl, _, _, rfl, rfl, _, rfl, ?_⟩
        by_cases c : (d : Int) < 1 + (d3 : Int)
        · refine if_pos_of (decide_eq_true c) ⟨_, rfl, _, hl9, ?_, (plt.trans pl9).upd hD, l ++ [t], ?_, pair_snoc hpw hlt, fun x hx => ?_, ?_⟩
          · rw [vNs_len, sizeLine_eq]
            omega
          · rw [upd_same, vNs_app, Int.zero_add]
            rfl
          · rcases List.mem_append.mp hx with hx | hx
            · have := hlt x hx
              omega
            · rw [List.mem_singleton] at hx
              omega
          · rw [List.length_append]
            simp only [List.length_singleton]
            omega
        · exact if_neg_of (decide_eq_false c) ⟨plt.trans pl9, l, hl9, hpw, fun x hx => by have := hlt x hx; omega, by omega⟩
      · obtain ⟨plt, l, hl, hpw, hlt, hll⟩ := hP
        refine ⟨Dn, _, rfl, .inl ⟨SqL.of hl, fun T hT => ?_⟩⟩
        have kA2 := plt.same _ _ nAL.1 nAL.2 kA
        have pl82 := pl8.trans plt
        have hT0 := pl82.free hT
        have sT : Same H'' (upd H'' T (.tup (vNs l))) := sUpd (Same.refl H'') hT
        refine ⟨AL, _, _, rfl, rfl, sT _ _ kA2, ?_, ?_⟩
        · rw [List.length_map, sizeLine_eq]
          omega
        have kS2 := sT _ _ (plt.same _ _ nS.1 nS.2 kS)
        have kC2 := sT _ _ (plt.same _ _ nCT.1 nCT.2 kC)
        have k12 := sT _ _ (plt.same _ _ n1.1 n1.2 k1)
        have k22 := sT _ _ (plt.same _ _ n2.1 n2.2 k2)
        have kA3 := sT _ _ kA2
        have nSA : S ≠ AL := ne_of_none hS7 hAL
        have nCA : CT ≠ AL := ne_of_none hC7 hAL
        refine ⟨_, as ++ [(T, l)], rfl, (pl82.same' sT).upd hAL0, (upd_ne nSA).trans kS2, (upd_ne nCA).trans kC2, (upd_ne (ne_of k12 kA3 fun z => nomatch z)).trans k12, (upd_ne (ne_of k22 kA3 fun z => nomatch z)).trans k22, ?_, fun b hb => ?_, ?_⟩
        · rw [upd_same, List.map_append]
          rfl
        · rcases List.mem_append.mp hb with hb | hb
          · obtain ⟨b0, b1, b2, b3⟩ := has b hb
            have nb := pl8.ne1 b0
            have e3 := sT _ _ (plt.same _ _ nb.1 nb.2 b1)
            exact ⟨b0, (upd_ne (ne_of e3 kA3 fun z => nomatch z)).trans e3, b2, b3⟩
          · rw [List.mem_singleton] at hb
            subst hb
            exact ⟨hT0, (upd_ne (ne_of_none kA2 hT).symm).trans upd_same, hpw, hlt⟩
        · rw [List.length_append, hal]
          rfl
    · obtain ⟨v11, as, rfl, pl8, kS, kC, k1, k2, kA, has, hal⟩ := hP
      refine ⟨_, rfl, CT, _, _, _, rfl, rfl, SqL.of kC, atI_nat (j := 0) rfl, ?_⟩
      refine ⟨_, rfl, CT, _, _, _, rfl, rfl, SqL.of kC, atI_nat (j := 1) rfl, ?_⟩
      refine ⟨_, rfl, AL, _, rfl, .inl ⟨SqL.of kA, fun aa haa => ⟨(by show 3 ≤ sizeLine; decide), fun t ht => ?_⟩⟩⟩
      have sa : Same H' (upd H' aa (.tup (as.map fun b => V.ref b.1))) := sUpd (Same.refl H') haa
      have st := sUpd2 (o := .tup [.ref c1.1, .ref c2.1, .ref aa]) sa ht
      refine q t c1.1 c2.1 aa c1.2 c2.2 (as.map (·.2)) _ (pl8.same' st) upd_same ⟨st _ _ k1, st _ _ k2, as.map (·.1), ?_, by rw [List.length_map, List.length_map], fun i ra r e1 e2 => ?_⟩
        ⟨by omega, by omega, by omega, by omega, by rw [List.length_map]; omega, fun n hn => ?_, fun n hn => ?_, by omega, fun r hr => ?_⟩ (by omega) (by omega)
      · rw [upd_ne (ne_of_none upd_same ht), upd_same, List.map_map]
        rfl
      · rw [List.getElem?_map] at e1 e2
        obtain ⟨b, eb, rfl⟩ := Option.map_eq_some_iff.mp e1
        rw [eb] at e2
        obtain rfl : b.2 = r := Option.some.inj e2
        exact st _ _ (has b (List.mem_of_getElem? eb)).2.1
      · have := mem_sum hn
        omega
      · have := mem_sum hn
        omega
      · obtain ⟨b, hb, rfl⟩ := List.mem_map.mp hr
        obtain ⟨_, _, b2, b3⟩ := has b hb
        exact ⟨b2, fun t ht => by have := b3 t ht; omega⟩
end
end FR

/-! what the law hears -/
namespace FR
open PySem PySem.Spec PyProof.Rows L2
structure ExTxt (K : PySem.W.Frag) (mg : Str → Option Value) (CN CT : Addr) : Prop where
  gN : mg "NoNumber" = some (.ref CN)
  gT : mg "TooMany" = some (.ref CT)
  gD : ∃ CD, mg "DrawError" = some (.ref CD)
  nn : PySem.W.exmOne K (.ref CN) (.ref CN) = some true
  tn : PySem.W.exmOne K (.ref CT) (.ref CN) = some false
  tt : PySem.W.exmOne K (.ref CT) (.ref CT) = some true
def spSaid (K : PySem.W.Frag) (C : Addr) : Sp := fun vs H Q _ => ∃ (k : Addr) (x : V) (people things : List Nat) (allowed : List (List Nat)), vs = [.ref k, x] ∧ KindsAt C H k people things allowed ∧ KOk people things allowed ∧
  ((NoInt K H x ∧ ∀ H', Same H H' → Q (.str "number") H') ∨ (∃ i, x = .int i ∧ ¬ (1 ≤ i ∧ i ≤ 10 ^ 30) ∧ ∀ H', Same H H' → Q (.str "number") H') ∨
   (∃ m : Nat, x = vN m ∧ 1 ≤ m ∧ m ≤ 10 ^ 30 ∧
    ((60 < people.sum ∧ ∀ t H', Same H H' → H' t = some (.tup [.str "many", .int 60]) → Q (.ref t) H') ∨
     (people.sum ≤ 60 ∧ 5000 < vol things ∧ ∀ t H', Same H H' → H' t = some (.tup [.str "many", .int 5000]) → Q (.ref t) H') ∨
     (people.sum ≤ 60 ∧ vol things ≤ 5000 ∧ ∀ H', Same H H' → Q (vN (many m (rowsOf people allowed) things)) H'))))
theorem most_lookup (m : Int) : List.lookup ("most" : Str) [(("most" : Str), V.int m)] = some (.int m) := by simp [List.lookup]
section
variable {P : Program} {w : World} {K : PySem.W.Frag} {mg : Str → Option Value} {base : Heap}
abbrev sSaid : Stmt := top 32
abbrev nSaid : List Str := ["_law_kinds_here", "_law_modulus", "_law_told", "e"]
theorem scSaid : FnScope nSaid ["_law_kinds_here", "_law_modulus"] (defScope sSaid) := ⟨rfl, rfl, rfl, by decide +kernel, rfl, by decide +kernel, by decide +kernel⟩
theorem ok_said {C CN CT fT : Addr} (D : Def K mg "_law_said" sSaid ["_law_kinds_here", "_law_modulus"]) (X : ExTxt K mg CN CT) (T : TmTxt P K mg CT fT)
    (CM : Cal P w K mg base (L2.CX P w) 4 "kinds_many" ["kinds", "modulus"] (spMany K C CN CT)) : Cal P w K mg base CX0 5 "_law_said" ["_law_kinds_here", "_law_modulus"] (spSaid K C) := by
  refine D.cal scSaid (fun vs H Q E h => ?_) (fun f cdv A outer s H vs Q E hr h => ?_)
  · obtain ⟨k, x, people, things, allowed, rfl, _⟩ := h
    rfl
  · obtain ⟨k, x, people, things, allowed, rfl, hk, ok, h⟩ := h
    obtain ⟨CD, gD⟩ := X.gD
    refine ⟨_, pss_cons (ps_set (i := 2) scSaid.nd rfl (Or.inl rfl) pe_non)
      (pss_cons (ps_try_mix rfl rfl scSaid.nd takes0 (fun W pn xe tk _ => pss_one (ps_set (i := 2) scSaid.nd rfl (Or.inl rfl) (pe_calS CM tk hr (by rfl) (pa_cons (pv 0) (pa_cons (pv 1) pa_nil)))))
        (.plain ⟨rfl, by decide, .inl X.gN⟩ (fun a oe cls d pn _ _ => pss_one (ps_set (i := 2) scSaid.nd rfl (Or.inl rfl) pe_str))
        (.named (i := 3) ⟨rfl, by decide, .inl X.gT⟩ rfl rfl (fun a oe cls d pn hz hf => pss_one (ps_set (i := 2) scSaid.nd rfl (Or.inl rfl) (pe_tup (pa_cons pe_str (pa_cons (pe_xf T.xf T.noN hz hf (pv 3)) pa_nil)))))
        (.plain ⟨rfl, by decide, .inl gD⟩ (fun a oe cls d pn _ _ => pss_one (ps_set (i := 2) scSaid.nd rfl (Or.inl rfl) pe_str)) .nil))))
      (pss_one (ps_ret (pv 2)))), ?_⟩
    refine ⟨_, rfl, _, rfl, k, x, people, things, allowed, rfl, hk, ok, ?_⟩
    rcases h with ⟨no, q⟩ | ⟨i, e, ni, q⟩ | ⟨m, e, m1, m2, h⟩
    · exact .inl ⟨no, true, X.nn, fun _ a ha => ⟨_, rfl, q H (Same.refl H)⟩, fun z => Bool.noConfusion z⟩
    · exact .inr (.inl ⟨i, e, ni, true, X.nn, fun _ a ha => ⟨_, rfl, q H (Same.refl H)⟩, fun z => Bool.noConfusion z⟩)
    refine .inr (.inr ⟨m, e, m1, m2, ?_⟩)
    have key : ∀ n : Int, (∀ t H', Same H H' → H' t = some (.tup [.str "many", .int n]) → Q (.ref t) H') → ∀ d H2, H2 = upd H d (.xd [(("most" : Str), .int n)]) → H d = none → ∀ t, H2 t = none → Q (.ref t) (upd H2 t (.tup [.str "many", .int n])) := fun n q d H2 e hd t ht => by
      subst e
      exact q t _ (sUpd2 (sUpd (Same.refl H) hd) ht) upd_same
    rcases h with ⟨c, q⟩ | ⟨c, c2, q⟩ | ⟨c, c2, q⟩
    · exact .inl ⟨c, fun d hd => ⟨false, X.tn, fun z => Bool.noConfusion z, fun _ => ⟨true, X.tt, fun _ a ha => ⟨_, rfl, rfl, rfl, d, _, _, rfl, upd_same, most_lookup 60, (by show 2 ≤ sizeLine; decide), fun t ht => ⟨_, rfl, key 60 q d _ rfl hd t ht⟩⟩, fun z => Bool.noConfusion z⟩⟩⟩
    · exact .inr (.inl ⟨c, c2, fun d hd => ⟨false, X.tn, fun z => Bool.noConfusion z, fun _ => ⟨true, X.tt, fun _ a ha => ⟨_, rfl, rfl, rfl, d, _, _, rfl, upd_same, most_lookup 5000, (by show 2 ≤ sizeLine; decide), fun t ht => ⟨_, rfl, key 5000 q d _ rfl hd t ht⟩⟩, fun z => Bool.noConfusion z⟩⟩⟩)
    · exact .inr (.inr ⟨c, c2, fun H' s' => ⟨_, rfl, q H' s'⟩⟩)
end
end FR

/-! great counts -/
namespace FR
open PySem PySem.Spec PyProof.Rows L2
structure KMk (P : Program) (w : World) (K : PySem.W.Frag) (mg : Str → Option Value) (base : Heap) (C : Addr) : Prop where
  ex : ∃ fI fd, Mk K C fI ∧ FnOk P w K mg base CX0 4 fI fd ["self", "people", "things", "allowed"] (spKinds C) ∧ mg "Kinds" = some (.ref C) ∧ Binds K fd ["self", "people", "things", "allowed"] []
theorem pe_mkK {X : Cx} {C : Addr} {p pos : Pos} {e : Expr} {es : List Expr} {t : TA} (c : KMk X.prog X.w X.K X.mg X.base C) (hr : Room 5 X.A) (hg : Gl X "Kinds") (ha : PA X (e :: es) t)
    (he : starEach (e :: es) X.env = (false, eval e X.env) :: starEach es X.env := by rfl) (hpl : (backTo pos (starEach es X.env)).any (·.1) = false := by rfl) :
    PE X (.Call (.Name "Kinds" p) (e :: es) [] pos) (tMake C (spKinds C) [] E0 t) := by
  obtain ⟨fI, fd, M, F, hm, hb⟩ := c.ex
  exact pe_make M F hr hg hm hb .nil pass0 ha (by decide) he hpl
theorem mk_now {C : Addr} {H : Hp} {pa ta aa : Addr} {people things : List Nat} {allowed : List (List Nat)} {S : Addr → VK} {E : XK} (kd : KData H pa ta aa people things allowed) (ok : KOk people things allowed)
    (q : ∀ k H', Same H H' → H k = none → KindsAt C H' k people things allowed → S k .non H') :
    ∀ x dx, H x = none → H dx = none → dx ≠ x → spKinds C (.ref x :: ([.ref pa, .ref ta, .ref aa] ++ [])) (upd (upd H dx (.own x)) x (.ins C dx [])) (S x) E := by
  intro x dx hx hdx ne
  have s2 : Same H (upd (upd H dx (.own x)) x (.ins C dx [])) := sUpd (sUpd (Same.refl H) hdx) hx
  exact ⟨x, dx, pa, ta, aa, people, things, allowed, rfl, upd_same, kd.keep fun b xs e => s2 _ _ e, ok, fun H' hs hat => q x H' (fun b o e => hs b o (ne_of_none e hx) (s2 b o e)) hx hat⟩
theorem kdata1 {H : Hp} {pa ta r0 aa : Addr} {people things row : List Nat} (h1 : H pa = none) (h2 : upd H pa (.tup (vNs people)) ta = none) (h3 : upd (upd H pa (.tup (vNs people))) ta (.tup (vNs things)) r0 = none)
    (h4 : upd (upd (upd H pa (.tup (vNs people))) ta (.tup (vNs things))) r0 (.tup (vNs row)) aa = none) :
    KData (upd (upd (upd (upd H pa (.tup (vNs people))) ta (.tup (vNs things))) r0 (.tup (vNs row))) aa (.tup [.ref r0])) pa ta aa people things [row] ∧
    Same H (upd (upd (upd (upd H pa (.tup (vNs people))) ta (.tup (vNs things))) r0 (.tup (vNs row))) aa (.tup [.ref r0])) := by
  have sa := sUpd (o := .tup [.ref r0]) (Same.refl _) h4
  have sr := sUpd (o := .tup (vNs row)) (Same.refl _) h3
  have st := sUpd (o := .tup (vNs things)) (Same.refl _) h2
  refine ⟨⟨sa _ _ (sr _ _ (st _ _ upd_same)), sa _ _ (sr _ _ upd_same), [r0], upd_same, rfl, fun i ra r e1 e2 => ?_⟩, (((sUpd (Same.refl H) h1).trans st).trans sr).trans sa⟩
  match i with
  | 0 =>
    cases e1
    cases e2
    exact sa _ _ upd_same
  | i + 1 => exact nomatch e1
theorem kdata2 {H : Hp} {pa ta r0 r1 aa : Addr} {people things row row1 : List Nat} (h1 : H pa = none) (h2 : upd H pa (.tup (vNs people)) ta = none) (h3 : upd (upd H pa (.tup (vNs people))) ta (.tup (vNs things)) r0 = none)
    (h5 : upd (upd (upd H pa (.tup (vNs people))) ta (.tup (vNs things))) r0 (.tup (vNs row)) r1 = none) (h4 : upd (upd (upd (upd H pa (.tup (vNs people))) ta (.tup (vNs things))) r0 (.tup (vNs row))) r1 (.tup (vNs row1)) aa = none) :
    KData (upd (upd (upd (upd (upd H pa (.tup (vNs people))) ta (.tup (vNs things))) r0 (.tup (vNs row))) r1 (.tup (vNs row1))) aa (.tup [.ref r0, .ref r1])) pa ta aa people things [row, row1] ∧
    Same H (upd (upd (upd (upd (upd H pa (.tup (vNs people))) ta (.tup (vNs things))) r0 (.tup (vNs row))) r1 (.tup (vNs row1))) aa (.tup [.ref r0, .ref r1])) := by
  have sa := sUpd (o := .tup [.ref r0, .ref r1]) (Same.refl _) h4
  have s1 := sUpd (o := .tup (vNs row1)) (Same.refl _) h5
  have sr := sUpd (o := .tup (vNs row)) (Same.refl _) h3
  have st := sUpd (o := .tup (vNs things)) (Same.refl _) h2
  refine ⟨⟨sa _ _ (s1 _ _ (sr _ _ (st _ _ upd_same))), sa _ _ (s1 _ _ (sr _ _ upd_same)), [r0, r1], upd_same, rfl, fun i ra r e1 e2 => ?_⟩, ((((sUpd (Same.refl H) h1).trans st).trans sr).trans s1).trans sa⟩
  match i with
  | 0 =>
    cases e1
    cases e2
    exact sa _ _ (s1 _ _ upd_same)
  | 1 =>
    cases e1
    cases e2
    exact sa _ _ upd_same
  | i + 2 => exact nomatch e1
theorem kdata2g {H : Hp} {pa ta r0 r1 aa : Addr} {TV : List V} {people things row row1 : List Nat} (eT : TV = vNs things) (h1 : H pa = none) (h2 : upd H pa (.tup (vNs people)) ta = none) (h3 : upd (upd H pa (.tup (vNs people))) ta (.tup TV) r0 = none)
    (h5 : upd (upd (upd H pa (.tup (vNs people))) ta (.tup TV)) r0 (.tup (vNs row)) r1 = none) (h4 : upd (upd (upd (upd H pa (.tup (vNs people))) ta (.tup TV)) r0 (.tup (vNs row))) r1 (.tup (vNs row1)) aa = none) :
    KData (upd (upd (upd (upd (upd H pa (.tup (vNs people))) ta (.tup TV)) r0 (.tup (vNs row))) r1 (.tup (vNs row1))) aa (.tup [.ref r0, .ref r1])) pa ta aa people things [row, row1] ∧
    Same H (upd (upd (upd (upd (upd H pa (.tup (vNs people))) ta (.tup TV)) r0 (.tup (vNs row))) r1 (.tup (vNs row1))) aa (.tup [.ref r0, .ref r1])) := by
  subst eT
  exact kdata2 h1 h2 h3 h5 h4
theorem hear {M : Nat} {rows : List (List Nat)} {things : List Nat} {v : Nat} (e : N rows things = v) : vN (many M rows things) = V.int ((v : Int) % (M : Int)) := by
  rw [many_eq, e]
  show V.int _ = V.int _
  rw [Int.natCast_emod]
theorem dne {x y : V} (e : x = y) : (!decide (x = y)) = false := by rw [decide_eq_true e]; rfl
theorem fact_mono : ∀ (m n : Nat), n ≤ m → fact n ≤ fact m
  | 0, n, h => by
    have : n = 0 := by omega
    subst this
    exact Nat.le_refl _
  | m + 1, n, h => by
    by_cases e : n = m + 1
    · subst e; exact Nat.le_refl _
    · have ih := fact_mono m n (by omega)
      show fact n ≤ (m + 1) * fact m
      exact Nat.le_trans ih (Nat.le_mul_of_pos_left _ (by omega))
theorem fact_20 {n : Nat} (h : n ≤ 20) : fact n < 2 ^ 64 := Nat.lt_of_le_of_lt (fact_mono 20 n h) (by decide)
theorem rows1 (n : Nat) (r : List Nat) : rowsOf [n] [r] = List.replicate n r := by unfold rowsOf; simp [spreadF]
theorem rows2 (f o : Nat) (r r1 : List Nat) : rowsOf [f, o] [r, r1] = List.replicate f r ++ List.replicate o r1 := by unfold rowsOf; simp [spreadF]
theorem kok1 {n : Nat} (h : n ≤ 60) : KOk [n] [n] [[0]] := ⟨by simp, by simp, by simp, by simp, rfl, fun k hk => by simp at hk; omega, fun k hk => by simp at hk; omega, rfl, fun r hr => by simp at hr; subst hr; simp⟩
theorem kok2 {a b c d : Nat} {r r1 : List Nat} (h : a + b = c + d) (h2 : a + b ≤ 60) (p : r.Pairwise (· < ·) ∧ ∀ t, t ∈ r → t < 2) (p1 : r1.Pairwise (· < ·) ∧ ∀ t, t ∈ r1 → t < 2) : KOk [a, b] [c, d] [r, r1] :=
  ⟨by simp, by simp, by simp, by simp, rfl, fun k hk => by simp at hk; omega, fun k hk => by simp at hk; omega, by simp; omega, fun q hq => by
    simp at hq
    rcases hq with rfl | rfl
    · exact p
    · exact p1⟩
theorem asc0 : ([0] : List Nat).Pairwise (· < ·) ∧ ∀ t, t ∈ [0] → t < 2 := ⟨by simp, by simp⟩
theorem asc1 : ([1] : List Nat).Pairwise (· < ·) ∧ ∀ t, t ∈ [1] → t < 2 := ⟨by simp, by simp⟩
theorem asc01 : ([0, 1] : List Nat).Pairwise (· < ·) ∧ ∀ t, t ∈ [0, 1] → t < 2 := ⟨by simp, by simp⟩
theorem vol1 (n : Nat) : vol [n] = n + 1 := by simp [vol]
theorem vol2 (a b : Nat) : vol [a, b] = (a + 1) * (b + 1) := by simp [vol]
def spGreat : Sp := fun vs H Q _ => ∃ p C, vs = [.ref p] ∧ PoolAt p C H ∧ ∀ H', Pl p C H H' → Q (.bl true) H'
theorem p9 : (10 : Int) ^ (9 : Int).toNat = 1000000000 := by decide
section
variable {P : Program} {w : World} {K : PySem.W.Frag} {mg : Str → Option Value} {base : Heap}
abbrev sGreat : Stmt := top 33
abbrev nGreat : List Str := ["_law_pool_here", "_law_modulus", "_law_many", "_law_one", "_law_first", "_law_other", "_law_apart", "_law_wide_here", "_law_chosen", "_law_due"]
theorem scGreat : FnScope nGreat ["_law_pool_here"] (defScope sGreat) := ⟨rfl, rfl, rfl, by decide +kernel, rfl, by decide +kernel, by decide +kernel⟩
theorem ok_great {C : Addr} (D : Def K mg "_law_great_right" sGreat ["_law_pool_here"]) (B : Bl mg) (KM : KMk P w K mg base C) (CD : Cal P w K mg base CX0 1 "_law_draw" ["_law_pool_here", "_law_many"] spDraw)
    (CO : Cal P w K mg base CX0 1 "_law_orders" ["_law_many"] spOrders) (CS : Cal P w K mg base CX0 5 "_law_said" ["_law_kinds_here", "_law_modulus"] (spSaid K C)) :
    Cal P w K mg base CX0 6 "_law_great_right" ["_law_pool_here"] spGreat := by
  refine D.cal scGreat (fun vs H Q E h => ?_) (fun f cdv A outer s H vs Q E hr h => ?_)
  · obtain ⟨p, Cc, rfl, _⟩ := h
    rfl
  · obtain ⟨p, Cc, rfl, hpool, q⟩ := h
    have hr1 := hr.mono (show 1 ≤ 5 by decide)
    refine ⟨_, pss_cons (ps_set (i := 1) scGreat.nd rfl (Or.inl rfl) (pe_op op_add pe_int (pe_op op_mul (pe_cal CD hr1 (by rfl) (pa_cons (pv 0) (pa_cons (pe_op op_pow pe_int pe_int) pa_nil))) (pe_cal CD hr1 (by rfl) (pa_cons (pv 0) (pa_cons (pe_op op_pow pe_int pe_int) pa_nil))))))
      (pss_cons (ps_set (i := 2) scGreat.nd rfl (Or.inl rfl) (pe_op op_add pe_int (pe_cal CD hr1 (by rfl) (pa_cons (pv 0) (pa_cons pe_int pa_nil)))))
      (pss_cons (ps_set (i := 3) scGreat.nd rfl (Or.inl rfl) (pe_mkK KM hr (by rfl) (pa_cons (pe_tup (pa_cons (pv 2) pa_nil)) (pa_cons (pe_tup (pa_cons (pv 2) pa_nil)) (pa_cons (pe_tup (pa_cons (pe_tup (pa_cons pe_int pa_nil)) pa_nil)) pa_nil)))))
      (pss_cons (ps_if (pt_cmpR op_ne (pe_cal CS hr (by rfl) (pa_cons (pv 3) (pa_cons (pv 1) pa_nil))) (pe_op op_mod (pe_callTy call_int1 (by rfl) B.int_ bo_int (pa_cons (pe_cal CO hr1 (by rfl) (pa_cons (pv 2) pa_nil)) pa_nil)) (pv 1)) (nomark _)) (pss_one (ps_ret pe_bl)) pss_nil)
      (pss_cons (ps_set (i := 4) scGreat.nd rfl (Or.inl rfl) (pe_op op_add pe_int (pe_cal CD hr1 (by rfl) (pa_cons (pv 0) (pa_cons pe_int pa_nil)))))
      (pss_cons (ps_set (i := 5) scGreat.nd rfl (Or.inl rfl) (pe_op op_add pe_int (pe_cal CD hr1 (by rfl) (pa_cons (pv 0) (pa_cons pe_int pa_nil)))))
      (pss_cons (ps_set (i := 6) scGreat.nd rfl (Or.inl rfl) (pe_mkK KM hr (by rfl) (pa_cons (pe_tup (pa_cons (pv 4) (pa_cons (pv 5) pa_nil))) (pa_cons (pe_tup (pa_cons (pv 4) (pa_cons (pv 5) pa_nil)))
        (pa_cons (pe_tup (pa_cons (pe_tup (pa_cons pe_int pa_nil)) (pa_cons (pe_tup (pa_cons pe_int pa_nil)) pa_nil))) pa_nil)))))
      (pss_cons (ps_if (pt_cmpR op_ne (pe_cal CS hr (by rfl) (pa_cons (pv 6) (pa_cons (pv 1) pa_nil))) (pe_op op_mod (pe_callTy call_int1 (by rfl) B.int_ bo_int (pa_cons (pe_op op_mul (pe_cal CO hr1 (by rfl) (pa_cons (pv 4) pa_nil)) (pe_cal CO hr1 (by rfl) (pa_cons (pv 5) pa_nil))) pa_nil)) (pv 1)) (nomark _)) (pss_one (ps_ret pe_bl)) pss_nil)
      (pss_cons (ps_set (i := 7) scGreat.nd rfl (Or.inl rfl) (pe_mkK KM hr (by rfl) (pa_cons (pe_tup (pa_cons (pv 4) (pa_cons (pv 5) pa_nil))) (pa_cons (pe_tup (pa_cons (pv 5) (pa_cons (pv 4) pa_nil)))
        (pa_cons (pe_tup (pa_cons (pe_tup (pa_cons pe_int (pa_cons pe_int pa_nil))) (pa_cons (pe_tup (pa_cons pe_int (pa_cons pe_int pa_nil))) pa_nil))) pa_nil)))))
      (pss_cons (ps_if (pt_cmpR op_ne (pe_cal CS hr (by rfl) (pa_cons (pv 7) (pa_cons (pv 1) pa_nil))) (pe_op op_mod (pe_callTy call_int1 (by rfl) B.int_ bo_int (pa_cons (pe_cal CO hr1 (by rfl) (pa_cons (pe_op op_add (pv 4) (pv 5)) pa_nil)) pa_nil)) (pv 1)) (nomark _)) (pss_one (ps_ret pe_bl)) pss_nil)
      (pss_cons (ps_set (i := 8) scGreat.nd rfl (Or.inl rfl) (pe_mkK KM hr (by rfl) (pa_cons (pe_tup (pa_cons (pv 4) (pa_cons (pv 5) pa_nil))) (pa_cons (pe_tup (pa_cons (pe_op op_sub (pe_op op_add (pv 4) (pv 5)) pe_int) (pa_cons pe_int pa_nil)))
        (pa_cons (pe_tup (pa_cons (pe_tup (pa_cons pe_int pa_nil)) (pa_cons (pe_tup (pa_cons pe_int (pa_cons pe_int pa_nil))) pa_nil))) pa_nil)))))
      (pss_cons (ps_set (i := 9) scGreat.nd rfl (Or.inl rfl) (pe_op op_mul (pe_cal CO hr1 (by rfl) (pa_cons (pe_op op_sub (pe_op op_add (pv 4) (pv 5)) pe_int) pa_nil)) (pv 5)))
      (pss_one (ps_ret (pe_cmpR op_eq (pe_cal CS hr (by rfl) (pa_cons (pv 8) (pa_cons (pv 1) pa_nil))) (pe_op op_mod (pe_callTy call_int1 (by rfl) B.int_ bo_int (pa_cons (pv 9) pa_nil)) (pv 1)) (nomark _))))))))))))))), ?_⟩
    have z1 : (1 : Nat) ≤ sizeLine := by decide
    have z2 : (2 : Nat) ≤ sizeLine := by decide
    have e9 := p9
    refine ⟨_, rfl, _, _, rfl, rfl, ⟨by decide, by decide, by decide⟩, p, Cc, _, rfl, hpool, by rw [p9]; decide, by rw [p9]; decide, fun d1 H1 hd1 pl1 => ?_⟩
    refine ⟨_, rfl, _, _, rfl, rfl, ⟨by decide, by decide, by decide⟩, p, Cc, _, rfl, pl1.at_, by rw [p9]; decide, by rw [p9]; decide, fun d2 H2 hd2 pl2 => ?_⟩
    refine ⟨_, _, rfl, rfl, .inl ⟨by omega, by omega⟩, _, _, rfl, rfl, ?_⟩
    show gName 1 (vN (1 + d1 * d2)) _ _ _
    have hM1 : 1 ≤ 1 + d1 * d2 := by omega
    have hM2 : 1 + d1 * d2 ≤ 10 ^ 30 := by
      have := Nat.mul_le_mul (show d1 ≤ 1000000000 by omega) (show d2 ≤ 1000000000 by omega)
      omega
    generalize 1 + d1 * d2 = M at hM1 hM2
    have hM0 : (0 : Int) < (M : Int) := by omega
    have pl12 := pl1.trans pl2
    refine ⟨_, rfl, p, Cc, 60, rfl, pl12.at_, by decide, by decide, fun d3 H3 hd3 pl3 => ⟨_, _, rfl, rfl, ?_⟩⟩
    show gName 2 (vN (1 + d3)) _ _ _
    have hn : 1 + d3 ≤ 60 := by omega
    generalize 1 + d3 = n at hn
    have pl13 := pl12.trans pl3
    refine ⟨_, rfl, z1, fun pa hpa => ⟨_, rfl, z1, fun ta hta => ⟨z1, fun r0 hr0 => ⟨z1, fun aa haa => ?_⟩⟩⟩⟩
    have kd1 := kdata1 (people := [n]) (things := [n]) (row := [0]) hpa hta hr0 haa
    refine mk_now kd1.1 (kok1 hn) fun k1 H4 s4 _ hk1 => ⟨rfl, ?_⟩
    have pl4 := (pl13.same' kd1.2).same' s4
    refine ⟨_, rfl, _, rfl, k1, _, _, _, _, rfl, hk1, kok1 hn, .inr (.inr ⟨M, rfl, hM1, hM2, .inr (.inr ⟨by simpa using hn, by rw [vol1]; omega, fun H5 s5 => ?_⟩)⟩)⟩
    refine ⟨_, rfl, n, rfl, by omega, .inl ⟨_, rfl, _, rfl, _, _, rfl, rfl, hM0, rfl, _, rfl, if_neg_of (dne (by rw [rows1]; exact hear (great_one n))) ?_⟩⟩
    have pl5 := pl4.same' s5
    refine ⟨_, rfl, p, Cc, 20, rfl, pl5.at_, by decide, by decide, fun d4 H6 hd4 pl6 => ⟨_, _, rfl, rfl, ?_⟩⟩
    show gName 4 (vN (1 + d4)) _ _ _
    have hf1 : 1 ≤ 1 + d4 := by omega
    have hf : 1 + d4 ≤ 20 := by omega
    generalize 1 + d4 = fi at hf hf1
    refine ⟨_, rfl, p, Cc, 20, rfl, pl6.at_, by decide, by decide, fun d5 H7 hd5 pl7 => ⟨_, _, rfl, rfl, ?_⟩⟩
    show gName 5 (vN (1 + d5)) _ _ _
    have ho1 : 1 ≤ 1 + d5 := by omega
    have ho : 1 + d5 ≤ 20 := by omega
    generalize 1 + d5 = o at ho ho1
    have pl57 := (pl5.trans pl6).trans pl7
    have hvol : ∀ a b : Nat, a ≤ 40 → b ≤ 40 → vol [a, b] ≤ 5000 := fun a b ha hb => by
      rw [vol2]
      have := Nat.mul_le_mul (show a + 1 ≤ 41 by omega) (show b + 1 ≤ 41 by omega)
      omega
    -- apart
    refine ⟨_, rfl, _, rfl, z2, fun pa2 hpa2 => ⟨_, rfl, _, rfl, z2, fun ta2 hta2 => ⟨z1, fun r02 hr02 => ⟨z1, fun r12 hr12 => ⟨z2, fun aa2 haa2 => ?_⟩⟩⟩⟩⟩
    have kd2 := kdata2 (people := [fi, o]) (things := [fi, o]) (row := [0]) (row1 := [1]) hpa2 hta2 hr02 hr12 haa2
    have ok2 : KOk [fi, o] [fi, o] [[0], [1]] := kok2 rfl (by omega) asc0 asc1
    refine mk_now kd2.1 ok2 fun k2 H8 s8 _ hk2 => ⟨rfl, ?_⟩
    refine ⟨_, rfl, _, rfl, k2, _, _, _, _, rfl, hk2, ok2, .inr (.inr ⟨M, rfl, hM1, hM2, .inr (.inr ⟨by simp; omega, hvol _ _ (by omega) (by omega), fun H9 s9 => ?_⟩)⟩)⟩
    refine ⟨_, rfl, fi, rfl, by omega, _, rfl, o, rfl, by omega, _, _, rfl, rfl, .inl ⟨by have := fact_20 hf; omega, by have := fact_20 hf; omega⟩, .inl ⟨_, rfl, _, rfl, _, _, rfl, rfl, hM0, rfl, _, rfl, if_neg_of (dne (by rw [rows2, ← Int.natCast_mul]; exact hear (great_apart fi o))) ?_⟩⟩
    have pl9 := ((pl57.same' kd2.2).same' s8).same' s9
    -- wide
    refine ⟨_, rfl, _, rfl, z2, fun pa3 hpa3 => ⟨_, rfl, _, rfl, z2, fun ta3 hta3 => ⟨z2, fun r03 hr03 => ⟨z2, fun r13 hr13 => ⟨z2, fun aa3 haa3 => ?_⟩⟩⟩⟩⟩
    have kd3 := kdata2 (people := [fi, o]) (things := [o, fi]) (row := [0, 1]) (row1 := [0, 1]) hpa3 hta3 hr03 hr13 haa3
    have ok3 : KOk [fi, o] [o, fi] [[0, 1], [0, 1]] := kok2 (Nat.add_comm _ _) (by omega) asc01 asc01
    refine mk_now kd3.1 ok3 fun k3 H10 s10 _ hk3 => ⟨rfl, ?_⟩
    refine ⟨_, rfl, _, rfl, k3, _, _, _, _, rfl, hk3, ok3, .inr (.inr ⟨M, rfl, hM1, hM2, .inr (.inr ⟨by simp; omega, hvol _ _ (by omega) (by omega), fun H11 s11 => ?_⟩)⟩)⟩
    refine ⟨_, rfl, _, rfl, _, _, rfl, rfl, fi + o, rfl, by omega, .inl ⟨_, rfl, _, rfl, _, _, rfl, rfl, hM0, rfl, _, rfl, if_neg_of (dne (by rw [rows2]; exact hear (great_wide fi o))) ?_⟩⟩
    have pl11 := ((pl9.same' kd3.2).same' s10).same' s11
    -- chosen
    have esub : V.int ((fi : Int) + (o : Int) - 1) = vN (fi + o - 1) := by
      show V.int _ = V.int _
      congr 1
      omega
    refine ⟨_, rfl, _, rfl, z2, fun pa4 hpa4 => ⟨_, rfl, _, rfl, _, _, rfl, rfl, _, _, rfl, rfl, z2, fun ta4 hta4 => ⟨z1, fun r04 hr04 => ⟨z2, fun r14 hr14 => ⟨z2, fun aa4 haa4 => ?_⟩⟩⟩⟩⟩
    have kd4 := kdata2g (TV := [.int ((fi : Int) + (o : Int) - 1), .int 1]) (people := [fi, o]) (things := [fi + o - 1, 1]) (row := [0]) (row1 := [0, 1]) (by rw [esub]; rfl) hpa4 hta4 hr04 hr14 haa4
    have ok4 : KOk [fi, o] [fi + o - 1, 1] [[0], [0, 1]] := kok2 (by omega) (by omega) asc0 asc01
    refine mk_now kd4.1 ok4 fun k4 H12 s12 _ hk4 => ⟨rfl, ?_⟩
    refine ⟨_, rfl, _, rfl, _, _, rfl, rfl, _, _, rfl, rfl, fi + o - 1, ?_, by omega, ?_⟩
    · show [V.int ((fi : Int) + (o : Int) - 1)] = [vN (fi + o - 1)]
      rw [esub]
    refine ⟨_, rfl, _, _, rfl, rfl, .inr ⟨by omega, by omega⟩, ?_⟩
    refine ⟨_, rfl, _, rfl, k4, _, _, _, _, rfl, hk4, ok4, .inr (.inr ⟨M, rfl, hM1, hM2, .inr (.inr ⟨by simp; omega, hvol _ _ (by omega) (by omega), fun H13 s13 => ?_⟩)⟩)⟩
    refine ⟨_, rfl, .inl ⟨_, rfl, _, rfl, _, _, rfl, rfl, hM0, rfl, ?_⟩⟩
    have pl13 := ((pl11.same' kd4.2).same' s12).same' s13
    have e : vN (many M (rowsOf [fi, o] [[0], [0, 1]]) [fi + o - 1, 1]) = V.int (((fact (fi + o - 1) : Int) * (o : Int)) % (M : Int)) := by
      rw [rows2, ← Int.natCast_mul]
      exact hear (great_chosen fi o ho1)
    have key := q H13 pl13
    show Q (.bl (decide (vN (many M (rowsOf [fi, o] [[0], [0, 1]]) [fi + o - 1, 1]) = V.int (((fact (fi + o - 1) : Int) * (o : Int)) % (M : Int))))) H13
    rw [decide_eq_true e]
    exact key
end
end FR

/-! the law -/
namespace FR
open PySem PySem.Spec PyProof.Rows L2
def Bad (H : Hp) (x : V) : Prop := x = .int 0 ∨ x = .int (-1) ∨ x = .int (10 ^ (30 : Int).toNat + 1) ∨ x = .non ∨ x = .bl true ∨ x = .str "7" ∨ ∃ t xs, x = .ref t ∧ H t = some (.tup xs)
theorem Bad.keep {H H' : Hp} {x : V} (h : Bad H x) (s : Same H H') : Bad H' x := by
  rcases h with h | h | h | h | h | h | ⟨t, xs, h, e⟩
  · exact .inl h
  · exact .inr (.inl h)
  · exact .inr (.inr (.inl h))
  · exact .inr (.inr (.inr (.inl h)))
  · exact .inr (.inr (.inr (.inr (.inl h))))
  · exact .inr (.inr (.inr (.inr (.inr (.inl h)))))
  · exact .inr (.inr (.inr (.inr (.inr (.inr ⟨t, xs, h, s _ _ e⟩)))))
theorem p30 : (10 : Int) ^ (30 : Int).toNat = 10 ^ 30 := by decide
theorem Bad.no {K : PySem.W.Frag} {H : Hp} {x : V} (h : Bad H x) : NoInt K H x ∨ ∃ i, x = .int i ∧ ¬ (1 ≤ i ∧ i ≤ 10 ^ 30) := by
  rcases h with h | h | h | h | h | h | ⟨t, xs, h, e⟩
  · exact .inr ⟨_, h, by decide⟩
  · exact .inr ⟨_, h, by decide⟩
  · exact .inr ⟨_, h, by rw [p30]; decide⟩
  · subst h; exact .inl (.inr ⟨"NoneType", .base .non, by decide +kernel⟩)
  · exact .inl (.inl ⟨true, h⟩)
  · subst h; exact .inl (.inr ⟨"str", .base (.str _), by decide +kernel⟩)
  · subst h; exact .inl (.inr ⟨"tuple", .base (.tup e), by decide +kernel⟩)
theorem vol_le : ∀ {l : List Nat}, (∀ n, n ∈ l → n ≤ 5) → vol l ≤ 6 ^ l.length
  | [], _ => by simp [vol]
  | n :: l, h => by
    have ih := vol_le (l := l) fun k hk => h k (by simp [hk])
    have h1 := h n (by simp)
    show (n + 1) * vol l ≤ 6 ^ (l.length + 1)
    rw [Nat.pow_succ, Nat.mul_comm]
    exact Nat.mul_le_mul ih (by omega)
theorem rows_mem {people things : List Nat} {allowed : List (List Nat)} (ok : KOk people things allowed) {r : List Nat} (h : r ∈ rowsOf people allowed) : r ∈ allowed := by
  unfold rowsOf at h
  obtain ⟨i, hi, e⟩ := List.mem_map.mp h
  have hlt := spread_lt people 0 i hi
  have hla : i < allowed.length := by have := ok.la; omega
  rw [List.getD_eq_getElem?_getD, List.getElem?_eq_getElem hla] at e
  rw [← e]
  exact List.getElem_mem hla
theorem asc012 : ([0, 1, 2] : List Nat).Pairwise (· < ·) ∧ ∀ t, t ∈ [0, 1, 2] → t < 3 := ⟨by simp, by simp⟩
theorem kok61 : KOk [61] [61] [[0]] := ⟨by simp, by simp, by simp, by simp, rfl, fun k hk => by simp at hk; omega, fun k hk => by simp at hk; omega, rfl, fun r hr => by simp at hr; subst hr; simp⟩
theorem kok52 : KOk [52] [17, 17, 18] [[0, 1, 2]] := ⟨by simp, by simp, by simp, by simp, rfl, fun k hk => by simp at hk; omega, fun k hk => by simp at hk; omega, rfl, fun r hr => by simp at hr; subst hr; exact asc012⟩
theorem kok48 : KOk [48] [16, 16, 16] [[0, 1, 2]] := ⟨by simp, by simp, by simp, by simp, rfl, fun k hk => by simp at hk; omega, fun k hk => by simp at hk; omega, rfl, fun r hr => by simp at hr; subst hr; exact asc012⟩
theorem pick5 {d e : Nat} (h : (d : Int) < 100) (he : (e : Int) < 5) : ∃ m : Nat, ([.int 1, .int 2, .int 7, .int ((10 : Int) ^ (30 : Int).toNat), .int (1 + (d : Int))] : List V)[e]? = some (vN m) ∧ 1 ≤ m ∧ m ≤ 10 ^ 30 := by
  match e, he with
  | 0, _ => exact ⟨1, rfl, by decide, by decide⟩
  | 1, _ => exact ⟨2, rfl, by decide, by decide⟩
  | 2, _ => exact ⟨7, rfl, by decide, by decide⟩
  | 3, _ => exact ⟨10 ^ 30, by rw [p30]; rfl, by decide, by decide⟩
  | 4, _ => exact ⟨1 + d, rfl, by omega, by omega⟩
  | e + 5, h => exact absurd h (by omega)
theorem pick8 {H : Hp} {t u : Addr} {xs ys : List V} {e : Nat} (he : (e : Int) < 8) (ht : H t = some (.tup xs)) (hu : H u = some (.tup ys)) :
    ∃ x, ([.int 0, .int (-1), .int ((10 : Int) ^ (30 : Int).toNat + 1), .non, .bl true, .str "7", .ref t, .ref u] : List V)[e]? = some x ∧ Bad H x := by
  match e, he with
  | 0, _ => exact ⟨_, rfl, .inl rfl⟩
  | 1, _ => exact ⟨_, rfl, .inr (.inl rfl)⟩
  | 2, _ => exact ⟨_, rfl, .inr (.inr (.inl rfl))⟩
  | 3, _ => exact ⟨_, rfl, .inr (.inr (.inr (.inl rfl)))⟩
  | 4, _ => exact ⟨_, rfl, .inr (.inr (.inr (.inr (.inl rfl))))⟩
  | 5, _ => exact ⟨_, rfl, .inr (.inr (.inr (.inr (.inr (.inl rfl)))))⟩
  | 6, _ => exact ⟨_, rfl, .inr (.inr (.inr (.inr (.inr (.inr ⟨t, xs, rfl, ht⟩)))))⟩
  | 7, _ => exact ⟨_, rfl, .inr (.inr (.inr (.inr (.inr (.inr ⟨u, ys, rfl, hu⟩)))))⟩
  | e + 8, h => exact absurd h (by omega)
theorem bad_or {K : PySem.W.Frag} {H : Hp} {x : V} {A Z : Prop} (b : Bad H x) (q : A) : (NoInt K H x ∧ A) ∨ (∃ i, x = .int i ∧ ¬ (1 ≤ i ∧ i ≤ 10 ^ 30) ∧ A) ∨ Z := by
  rcases (b.no (K := K)) with n | ⟨i, e, ni⟩
  · exact .inl ⟨n, q⟩
  · exact .inr (.inl ⟨i, e, ni, q⟩)
theorem Pl.tups {p C : Addr} {H H' : Hp} (a : PoolAt p C H) (b : Pl p C H H') : ∀ x xs, H x = some (.tup xs) → H' x = some (.tup xs) := fun x xs e => by
  obtain ⟨_, _, _, h1, h2, _⟩ := a
  exact b.same x _ (ne_of e h1 fun z => nomatch z) (ne_of e h2 fun z => nomatch z) e
theorem many_dp {K : PySem.W.Frag} {H : Hp} {t : Addr} {n : Int} (h : H t = some (.tup [.str "many", .int n])) : Dp K H (.ref t) (.tuple [.str "many", .int n]) := .tup (SqT.of h) (.cons (.str _) (.cons (.int _) .nil))
def spLaw (K : PySem.W.Frag) : Sp := fun vs H Q _ => ∃ (a : Addr) (ns : List Int), vs = [.ref a] ∧ SqL K H a (ns.map V.int) ∧ ns.length ≤ sizeLine ∧ ∀ H', Q (.bl true) H'
section
variable {P : Program} {w : World} {K : PySem.W.Frag} {mg : Str → Option Value} {base : Heap}
abbrev sLaw : Stmt := top 34
abbrev nLaw : List Str := ["_law_script", "_law_pool_here", "_law_again", "_law_people", "_law_things", "_law_allowed", "_law_modulus", "_law_due", "_law_told", "_law_odd"]
theorem scLaw : FnScope nLaw ["_law_script"] (defScope sLaw) := ⟨rfl, rfl, rfl, by decide +kernel, rfl, by decide +kernel, by decide +kernel⟩
theorem ok_law {C fL : Addr} {fdL : FuncData} (F : Fun K "law" "law" sLaw fL fdL) (B : Bl mg) (KM : KMk P w K mg base C) (CP : Cal P w K mg base CX0 1 "_law_pool" ["_law_script"] (spPool K)) (CD : Cal P w K mg base CX0 1 "_law_draw" ["_law_pool_here", "_law_many"] spDraw)
    (CA : Cal P w K mg base CX0 1 "_law_all" ["_law_rows"] spAll) (CE : Cal P w K mg base CX0 1 "_law_deep" [] spDeep) (CK : Cal P w K mg base CX0 2 "_law_kinds" ["_law_pool_here", "_law_most"] spLawKinds)
    (CR : Cal P w K mg base CX0 2 "_law_kind_rows" ["_law_people", "_law_things", "_law_allowed"] spRows) (CO : Cal P w K mg base CX0 1 "_law_orders" ["_law_many"] spOrders)
    (CS : Cal P w K mg base CX0 5 "_law_said" ["_law_kinds_here", "_law_modulus"] (spSaid K C)) (CG : Cal P w K mg base CX0 6 "_law_great_right" ["_law_pool_here"] spGreat) :
    FnOk P w K mg base CX0 7 fL fdL ["_law_script"] (spLaw K) := by
  refine F.ok scLaw (fun vs H Q E h => ?_) (fun cdv A outer s H vs Q E hr h => ?_)
  · obtain ⟨a, ns, rfl, _⟩ := h
    rfl
  · obtain ⟨a, ns, rfl, ha, hlen, q⟩ := h
    have hr1 := hr.mono (show 1 ≤ 6 by decide)
    have hr2 := hr.mono (show 2 ≤ 6 by decide)
    have hr5 := hr.mono (show 5 ≤ 6 by decide)
    refine ⟨_, pss_cons (ps_set (i := 1) scLaw.nd rfl (Or.inl rfl) (pe_cal CP hr1 (by rfl) (pa_cons (pv 0) pa_nil)))
      (pss_cons (ps_for PassesOwn.never rfl (pi_range1 (by rfl) B.rng (pa_cons pe_int pa_nil)) (pg_name (i := 2) scLaw.nd rfl (Or.inl rfl))
        (pss_cons (ps_asg (pe_cal CK hr2 (by rfl) (pa_cons (pv 1) (pa_cons pe_int pa_nil))) (pg_tup rfl (pgs_cons (pg_name (i := 3) scLaw.nd rfl (Or.inl rfl)) (pgs_cons (pg_name (i := 4) scLaw.nd rfl (Or.inl rfl)) (pgs_cons (pg_name (i := 5) scLaw.nd rfl (Or.inl rfl)) pgs_nil)))))
        (pss_cons (ps_set (i := 6) scLaw.nd rfl (Or.inl rfl) (pe_ix ix_list (pe_lst (pa_cons pe_int (pa_cons pe_int (pa_cons pe_int (pa_cons (pe_op op_pow pe_int pe_int) (pa_cons (pe_op op_add pe_int (pe_cal CD hr1 (by rfl) (pa_cons (pv 1) (pa_cons pe_int pa_nil)))) pa_nil))))))
          (pe_cal CD hr1 (by rfl) (pa_cons (pv 1) (pa_cons pe_int pa_nil))) (fun _ _ => rfl)))
        (pss_cons (ps_set (i := 7) scLaw.nd rfl (Or.inl rfl) (pe_callB (r := lenR K) call_len (by rfl) B.len_ bo_len (pa_cons (pe_cal CA hr1 (by rfl) (pa_cons (pe_cal CR hr2 (by rfl) (pa_cons (pv 3) (pa_cons (pv 4) (pa_cons (pv 5) pa_nil)))) pa_nil)) pa_nil)))
        (pss_cons (ps_set (i := 8) scLaw.nd rfl (Or.inl rfl) (pe_cal CS hr5 (by rfl) (pa_cons (pe_mkK KM hr5 (by rfl) (pa_cons (pv 3) (pa_cons (pv 4) (pa_cons (pv 5) pa_nil)))) (pa_cons (pv 6) pa_nil))))
        (pss_one (ps_if (PW.pt (pw_or (pt_cmpR op_ne (pv 8) (pe_op op_mod (pe_callTy call_int1 (by rfl) B.int_ bo_int (pa_cons (pv 7) pa_nil)) (pv 6)) (nomark _))
          (pw_or1 (pt_val (pe_callB call_isi (by rfl) B.isi bo_isi (pa_cons (pv 8) (pa_cons (pe_bltn (v := .ty "bool") (by rfl) B.bool_ bo_bool rfl) pa_nil))))))) (pss_one (ps_ret pe_bl)) pss_nil)))))))
      (pss_cons (ps_set (i := 9) scLaw.nd rfl (Or.inl rfl) (pe_ix ix_list (pe_lst (pa_cons pe_int (pa_cons (pe_un un_neg pe_int) (pa_cons (pe_op op_add (pe_op op_pow pe_int pe_int) pe_int) (pa_cons pe_non (pa_cons pe_bl (pa_cons pe_str (pa_cons (pe_tup (pa_cons pe_int pa_nil))
          (pa_cons (pe_cal0 CE hr1 (by rfl)) pa_nil)))))))))
        (pe_cal CD hr1 (by rfl) (pa_cons (pv 1) (pa_cons pe_int pa_nil))) (fun _ _ => rfl)))
      (pss_cons (ps_if (PW.pt (pw_or (pt_cmpR op_ne (pe_cal CS hr5 (by rfl) (pa_cons (pe_mkK KM hr5 (by rfl) (pa_cons (pe_tup (pa_cons pe_int pa_nil)) (pa_cons (pe_tup (pa_cons pe_int pa_nil)) (pa_cons (pe_tup (pa_cons (pe_tup (pa_cons pe_int pa_nil)) pa_nil)) pa_nil)))) (pa_cons (pv 9) pa_nil))) pe_str (nomark _))
          (pw_or1 (pt_cmpR (op_neD hr.units) (pe_cal CS hr5 (by rfl) (pa_cons (pe_mkK KM hr5 (by rfl) (pa_cons (pe_tup (pa_cons pe_int pa_nil)) (pa_cons (pe_tup (pa_cons pe_int pa_nil)) (pa_cons (pe_tup (pa_cons (pe_tup (pa_cons pe_int pa_nil)) pa_nil)) pa_nil)))) (pa_cons pe_int pa_nil))) (pe_tup (pa_cons pe_str (pa_cons pe_int pa_nil))) (nomark _)))))
        (pss_one (ps_ret pe_bl)) pss_nil)
      (pss_cons (ps_if (pt_cmpR (op_neD hr.units) (pe_cal CS hr5 (by rfl) (pa_cons (pe_mkK KM hr5 (by rfl) (pa_cons (pe_tup (pa_cons pe_int pa_nil)) (pa_cons (pe_tup (pa_cons pe_int (pa_cons pe_int (pa_cons pe_int pa_nil)))) (pa_cons (pe_tup (pa_cons (pe_tup (pa_cons pe_int (pa_cons pe_int (pa_cons pe_int pa_nil)))) pa_nil)) pa_nil)))) (pa_cons pe_int pa_nil)))
        (pe_tup (pa_cons pe_str (pa_cons pe_int pa_nil))) (nomark _)) (pss_one (ps_ret pe_bl)) pss_nil)
      (pss_cons (ps_if (pt_cmpR op_ne (pe_cal CS hr5 (by rfl) (pa_cons (pe_mkK KM hr5 (by rfl) (pa_cons (pe_tup (pa_cons pe_int pa_nil)) (pa_cons (pe_tup (pa_cons pe_int (pa_cons pe_int (pa_cons pe_int pa_nil)))) (pa_cons (pe_tup (pa_cons (pe_tup (pa_cons pe_int (pa_cons pe_int (pa_cons pe_int pa_nil)))) pa_nil)) pa_nil)))) (pa_cons (pe_op op_pow pe_int pe_int) pa_nil)))
        (pe_op op_mod (pe_callTy call_int1 (by rfl) B.int_ bo_int (pa_cons (pe_cal CO hr1 (by rfl) (pa_cons pe_int pa_nil)) pa_nil)) (pe_op op_pow pe_int pe_int)) (nomark _)) (pss_one (ps_ret pe_bl)) pss_nil)
      (pss_one (ps_ret (pe_or (pe_cmpR op_gt (pe_cal CD hr1 (by rfl) (pa_cons (pv 1) (pa_cons pe_int pa_nil))) pe_int (nomark _)) (pe_one (pe_cal CG hr (by rfl) (pa_cons (pv 1) pa_nil))))))))))), ?_⟩
    have z1 : (1 : Nat) ≤ sizeLine := by decide
    have z2 : (2 : Nat) ≤ sizeLine := by decide
    have z3 : (3 : Nat) ≤ sizeLine := by decide
    have z5 : (5 : Nat) ≤ sizeLine := by decide
    have z8 : (8 : Nat) ≤ sizeLine := by decide
    refine ⟨_, rfl, a, ns, rfl, ha, hlen, fun p C0 H1 s1 _ _ hpool => ?_⟩
    refine ⟨3, rfl, by decide, by decide, ?_⟩
    refine for_range (n := 3) (fun i σ H' => ∃ v2 v3 v4 v5 v6 v7 v8 : Option V, σ = [some (.ref a), some (.ref p), v2, v3, v4, v5, v6, v7, v8, none] ∧ PoolAt p C0 H') ⟨none, none, none, none, none, none, none, rfl, hpool⟩ (fun i σ H' hi hP => ?_) (fun σ H' hP => ?_)
    · obtain ⟨v2, v3, v4, v5, v6, v7, v8, rfl, hp⟩ := hP
      refine ⟨_, rfl, p, C0, 5, rfl, hp, by decide, by decide, fun t pa ta aa people things allowed H2 pl2 ht kd ok s5 l3 => ?_⟩
      refine ⟨t, _, rfl, SqT.of ht, rfl, _, _, rfl, _, _, rfl, _, _, rfl, rfl, ?_⟩
      refine ⟨_, _, rfl, rfl, ⟨by decide, by decide, by decide⟩, _, rfl, p, C0, 100, rfl, pl2.at_, by decide, by decide, fun d3 H3 hd3 pl3 => ⟨_, _, rfl, rfl, z5, fun L hL => ?_⟩⟩
      have nL := (pl3.at_.refl).ne1 hL
      have hpL := pl3.at_.keep (sUpd (o := .lst [.int 1, .int 2, .int 7, .int ((10 : Int) ^ (30 : Int).toNat), .int (1 + (d3 : Int))]) (Same.refl H3) hL)
      refine ⟨_, rfl, p, C0, 5, rfl, hpL, by decide, by decide, fun e H4 he pl4 => ?_⟩
      obtain ⟨m, em, m1, m2⟩ := pick5 hd3 he
      have hL4 := pl4.same _ _ nL.1 nL.2 upd_same
      refine ⟨L, _, _, _, rfl, rfl, SqL.of hL4, atI_nat em, ?_⟩
      have m0 : (0 : Int) < (m : Int) := by omega
      -- the kinds stand still
      have sL : Same H3 (upd H3 L (.lst [.int 1, .int 2, .int 7, .int ((10 : Int) ^ (30 : Int).toNat), .int (1 + (d3 : Int))])) := sUpd (Same.refl H3) hL
      have kd4 := kd.keep fun b xs e => Pl.tups hpL pl4 b xs (sL b _ (Pl.tups pl2.at_ pl3 b xs e))
      refine ⟨_, rfl, _, rfl, _, rfl, pa, ta, aa, people, things, allowed, rfl, kd4, ok, s5, fun pr ras H5 s5' h1 h2 h3 => ?_⟩
      have hsum : (spread things).length ≤ 5 := by rw [spread_len, ← ok.sums]; exact s5
      refine ⟨pr, ras, _, rfl, h1, h2, h3, ?_, fun r hr => ?_, fun p2 xs H6 s6 hx hxl => ?_⟩
      · rw [List.length_map, rowsOf_len]
        exact s5
      · obtain ⟨r0, _, rfl⟩ := List.mem_map.mp hr
        have := List.length_filter_le (fun k => decide (at0 (spread things) k ∈ r0)) (List.range (spread things).length)
        rw [List.length_range] at this
        exact Nat.le_trans this hsum
      have s46 := s5'.trans s6
      refine ⟨.ref p2, _, rfl, .inl ⟨xs, SqL.of hx, rfl⟩, ?_⟩
      refine ⟨_, rfl, _, rfl, _, rfl, ?_⟩
      refine mk_now (kd4.keep fun b xs e => s46 b _ e) ok fun k H7 s7 _ hk => ⟨rfl, ?_⟩
      have hvol : vol things ≤ 5000 := by
        have h1 := vol_le (l := things) fun n hn => by have := mem_sum hn; have := ok.sums; omega
        have h2 := Nat.pow_le_pow_right (show 0 < 6 by decide) l3
        omega
      refine ⟨_, rfl, k, _, people, things, allowed, rfl, hk, ok, .inr (.inr ⟨m, rfl, m1, m2, .inr (.inr ⟨by omega, hvol, fun H8 s8 => ?_⟩)⟩)⟩
      have e : vN (many m (rowsOf people allowed) things) = V.int (((xs.length : Nat) : Int) % (m : Int)) := by
        refine hear ?_
        rw [hxl, allD_len things (rowsOf people allowed) fun r hr => ?_]
        obtain ⟨h1, h2⟩ := ok.rows r (rows_mem ok hr)
        exact ⟨asc_nodup h1, h2⟩
      refine ⟨_, rfl, _, rfl, .inl ⟨_, rfl, _, rfl, _, _, rfl, rfl, m0, rfl, _, rfl, if_neg_of (dne e) ?_⟩⟩
      refine ⟨_, rfl, _, _, _, _, false, rfl, .ty _, .base (.int _), kit_ty (by decide +kernel), false, rfl, iteF ?_⟩
      exact ⟨_, _, _, _, _, _, _, rfl, pl4.at_.keep ((s46.trans s7).trans s8)⟩
    · obtain ⟨v2, v3, v4, v5, v6, v7, v8, rfl, hp⟩ := hP
      refine ⟨_, rfl, _, _, rfl, rfl, ⟨by decide, by decide, by decide⟩, _, _, rfl, rfl, z1, fun t7 ht7 => ⟨rfl, fun pd xd H2 s2 hd2 => ⟨z8, fun L hL => ?_⟩⟩⟩
      have st7 := sUpd (o := .tup [.int 7]) (Same.refl H') ht7
      have s02 := st7.trans s2
      have ht2 := s2 _ _ (upd_same (H := H') (a := t7) (o := .tup [.int 7]))
      have hp2 := hp.keep s02
      have nL := (hp2.refl).ne1 hL
      have sL : ∀ o, Same H2 (upd H2 L o) := fun o => sUpd (Same.refl H2) hL
      refine ⟨_, rfl, p, C0, 8, rfl, hp2.keep (sL _), by decide, by decide, fun e H3 he pl3 => ?_⟩
      have hL3 := pl3.same _ _ nL.1 nL.2 upd_same
      obtain ⟨x, ex, bad⟩ := pick8 (H := H3) he (Pl.tups (hp2.keep (sL _)) pl3 _ _ (sL _ _ _ ht2)) (Pl.tups (hp2.keep (sL _)) pl3 _ _ (sL _ _ _ hd2))
      refine ⟨L, _, _, _, rfl, rfl, SqL.of hL3, atI_nat ex, ?_⟩
      have hp3 := pl3.at_
      clear pl3 hL3
      -- a modulus that is none
      refine ⟨z1, fun pa hpa => ⟨z1, fun ta hta => ⟨z1, fun r0 hr0 => ⟨z1, fun aa haa => ?_⟩⟩⟩⟩
      have kd1 := kdata1 (people := [61]) (things := [61]) (row := [0]) hpa hta hr0 haa
      refine mk_now kd1.1 kok61 fun k1 H4 s4 _ hk1 => ⟨rfl, ?_⟩
      have s34 := kd1.2.trans s4
      refine ⟨_, rfl, k1, x, _, _, _, rfl, hk1, kok61, bad_or (bad.keep s34) fun H5 s5 => ?_⟩
      refine ⟨rfl, _, rfl, if_neg_of (dne rfl) ?_⟩
      have hp5 := hp3.keep (s34.trans s5)
      -- too many people
      refine ⟨z1, fun pa2 hpa2 => ⟨z1, fun ta2 hta2 => ⟨z1, fun r02 hr02 => ⟨z1, fun aa2 haa2 => ?_⟩⟩⟩⟩
      have kd2 := kdata1 (people := [61]) (things := [61]) (row := [0]) hpa2 hta2 hr02 haa2
      refine mk_now kd2.1 kok61 fun k2 H6 s6 _ hk2 => ⟨rfl, ?_⟩
      refine ⟨k2, _, _, _, _, rfl, hk2, kok61, .inr (.inr ⟨5, rfl, by decide, by decide, .inl ⟨by decide, fun t2 H7 s7 ht2 => ?_⟩⟩)⟩
      refine ⟨z2, fun u2 hu2 => ?_⟩
      have su2 := sUpd (o := .tup [.str "many", .int 60]) (Same.refl H7) hu2
      refine ⟨_, _, many_dp (su2 _ _ ht2), many_dp upd_same, by decide +kernel, by decide +kernel, _, rfl, if_neg_of (by decide +kernel) ?_⟩
      have hp7 := hp5.keep (((kd2.2.trans s6).trans s7).trans su2)
      -- too many states
      refine ⟨z1, fun pa3 hpa3 => ⟨z3, fun ta3 hta3 => ⟨z3, fun r03 hr03 => ⟨z1, fun aa3 haa3 => ?_⟩⟩⟩⟩
      have kd3 := kdata1 (people := [52]) (things := [17, 17, 18]) (row := [0, 1, 2]) hpa3 hta3 hr03 haa3
      refine mk_now kd3.1 kok52 fun k3 H8 s8 _ hk3 => ⟨rfl, ?_⟩
      refine ⟨k3, _, _, _, _, rfl, hk3, kok52, .inr (.inr ⟨5, rfl, by decide, by decide, .inr (.inl ⟨by decide, by decide, fun t3 H9 s9 ht3 => ?_⟩)⟩)⟩
      refine ⟨z2, fun u3 hu3 => ?_⟩
      have su3 := sUpd (o := .tup [.str "many", .int 5000]) (Same.refl H9) hu3
      refine ⟨_, _, many_dp (su3 _ _ ht3), many_dp upd_same, by decide +kernel, by decide +kernel, _, rfl, if_neg_of (by decide +kernel) ?_⟩
      have hp9 := hp7.keep (((kd3.2.trans s8).trans s9).trans su3)
      -- three great kinds
      refine ⟨z1, fun pa4 hpa4 => ⟨z3, fun ta4 hta4 => ⟨z3, fun r04 hr04 => ⟨z1, fun aa4 haa4 => ?_⟩⟩⟩⟩
      have kd4 := kdata1 (people := [48]) (things := [16, 16, 16]) (row := [0, 1, 2]) hpa4 hta4 hr04 haa4
      refine mk_now kd4.1 kok48 fun k4 H10 s10 _ hk4 => ⟨rfl, ?_⟩
      have e9 : V.int ((10 : Int) ^ (9 : Int).toNat) = vN 1000000000 := by rw [p9]; rfl
      refine ⟨_, _, rfl, rfl, ⟨by decide, by decide, by decide⟩, k4, _, _, _, _, rfl, hk4, kok48, .inr (.inr ⟨1000000000, e9, by decide, by decide, .inr (.inr ⟨by decide, by decide, fun H11 s11 => ?_⟩)⟩)⟩
      have hp11 := hp9.keep ((kd4.2.trans s10).trans s11)
      have e48 : vN (many 1000000000 (rowsOf [48] [[0, 1, 2]]) [16, 16, 16]) = V.int ((fact 48 : Int) % (10 : Int) ^ (9 : Int).toNat) := by
        rw [rows1, p9]
        exact hear great_three
      generalize many 1000000000 (rowsOf [48] [[0, 1, 2]]) [16, 16, 16] = v at e48 ⊢
      refine ⟨48, rfl, by decide, .inl ⟨_, rfl, _, _, rfl, rfl, ⟨by decide, by decide, by decide⟩, _, _, rfl, rfl, by rw [p9]; decide, rfl, _, rfl, if_neg_of (dne e48) ?_⟩⟩
      refine ⟨_, rfl, p, C0, 4, rfl, hp11, by decide, by decide, fun d H12 hd pl12 => ⟨_, _, rfl, rfl, _, rfl, ?_⟩⟩
      by_cases c : (0 : Int) < (d : Int)
      · exact if_pos_of (decide_eq_true c) (q _)
      · exact if_neg_of (decide_eq_false c) ⟨_, rfl, p, C0, rfl, pl12.at_, fun H13 _ => q _⟩
end
end FR

/-! all that the written part says, and the walk -/
namespace FR
open PySem PySem.Spec PyProof.Rows L2
open PySem.W (nsIn keepIn codeIn findIn typeIn subIn hasDictIn isFn fnOf)
def DefF (K : PySem.W.Frag) (x : Str) (st : Stmt) : Prop := ∃ (f : Addr) (oc : Value) (od : Option Addr) (kV dc pm : Value) (an : Option Addr) (cd ct : Value) (sl : Array (Option Value)),
  nsIn K mainGlobals x = some (some (.ref f)) ∧ K.lookup f = some ⟨oc, od, .func (fnOf x x (defArgs st) (defBody st) (defScope st) .none kV dc pm an cd ct), sl⟩ ∧ codeIn K cd x = true ∧ keepIn K (.ref f) = true
theorem DefF_mk {K : PySem.W.Frag} {x : Str} {st : Stmt} {f : Addr} {oc : Value} {od : Option Addr} {kV dc pm : Value} {an : Option Addr} {cd ct : Value} {sl : Array (Option Value)} (y0 : nsIn K mainGlobals x = some (some (.ref f))) (y1 : K.lookup f = some ⟨oc, od, .func (fnOf x x (defArgs st) (defBody st) (defScope st) .none kV dc pm an cd ct), sl⟩) (y2 : codeIn K cd x = true) (y3 : keepIn K (.ref f) = true) : DefF K x st := ⟨_, _, _, _, _, _, _, _, _, _, y0, y1, y2, y3⟩
theorem def_of {K : PySem.W.Frag} {h : Heap} {mg : Str → Option Value} (X : K.In h) (G : h.Ns mainGlobals mg) {x : Str} {st : Stmt} {ps : List Str} (d : DefF K x st)
    (hb : ∀ (kV doc pm : Value) (an : Option Addr) (cdv ct : Value) (us : List Value), us.length = ps.length → bindArgs (fnOf x x (defArgs st) (defBody st) (defScope st) .none kV doc pm an cdv ct) ⟨us, []⟩ = pure (ps.zip us)) : Def K mg x st ps := by
  obtain ⟨f, oc, od, kV, dc, pm, an, cd, ct, sl, a, l, c, k⟩ := d
  have F := fun_mk (st := st) l c k
  exact ⟨f, _, F, PySem.W.mg_of X G a, F.binds hb⟩
/-- the built-in names are no names of the top -/
structure BlF (K : PySem.W.Frag) : Prop where
  isi : nsIn K mainGlobals "isinstance" = some none
  int_ : nsIn K mainGlobals "int" = some none
  bool_ : nsIn K mainGlobals "bool" = some none
  tup : nsIn K mainGlobals "tuple" = some none
  len_ : nsIn K mainGlobals "len" = some none
  all_ : nsIn K mainGlobals "all" = some none
  zip_ : nsIn K mainGlobals "zip" = some none
  sum_ : nsIn K mainGlobals "sum" = some none
  enu : nsIn K mainGlobals "enumerate" = some none
  rng : nsIn K mainGlobals "range" = some none
  abs_ : nsIn K mainGlobals "abs" = some none
  sor : nsIn K mainGlobals "sorted" = some none
theorem BlF.bl {K : PySem.W.Frag} {h : Heap} {mg : Str → Option Value} (b : BlF K) (X : K.In h) (G : h.Ns mainGlobals mg) : Bl mg :=
  let m := fun {n : Str} (e : nsIn K mainGlobals n = some none) => PySem.W.mg_none_of X G e
  ⟨m b.isi, m b.int_, m b.bool_, m b.tup, m b.len_, m b.all_, m b.zip_, m b.sum_, m b.enu, m b.rng, m b.abs_, m b.sor⟩
/-- Kinds -/
def KindsF (K : PySem.W.Frag) (C : Addr) : Prop := ∃ (fI : Addr) (oc : Value) (od : Option Addr) (kV dc pm : Value) (an : Option Addr) (cd ct : Value) (sl : Array (Option Value)),
  nsIn K mainGlobals "Kinds" = some (some (.ref C)) ∧ findIn K (.ref C) "__init__" = some (some (.ref fI)) ∧ K.lookup fI = some ⟨oc, od, .func (fnOf "__init__" "Kinds.__init__" (defArgs sKinds) (defBody sKinds) (defScope sKinds) .none kV dc pm an cd ct), sl⟩ ∧
  codeIn K cd "Kinds.__init__" = true ∧ keepIn K (.ref fI) = true ∧ isFn K (.ref fI) = true ∧ PySem.W.plainGet K C Str.empty = true ∧ hasDictIn K C = true ∧ PySem.W.plainOver K C = true ∧ findIn K (.ref C) "__setattr__" = some (some (.builtin "object.__setattr__")) ∧
  PySem.W.makesIn K C = true ∧ keepIn K (.ref C) = true ∧ findIn K (.ref C) "people" = some none ∧ findIn K (.ref C) "things" = some none ∧ findIn K (.ref C) "allowed" = some none
theorem KindsF_mk {K : PySem.W.Frag} {C : Addr} {fI : Addr} {oc : Value} {od : Option Addr} {kV dc pm : Value} {an : Option Addr} {cd ct : Value} {sl : Array (Option Value)} (y0 : nsIn K mainGlobals "Kinds" = some (some (.ref C))) (y1 : findIn K (.ref C) "__init__" = some (some (.ref fI))) (y2 : K.lookup fI = some ⟨oc, od, .func (fnOf "__init__" "Kinds.__init__" (defArgs sKinds) (defBody sKinds) (defScope sKinds) .none kV dc pm an cd ct), sl⟩) (y3 : codeIn K cd "Kinds.__init__" = true) (y4 : keepIn K (.ref fI) = true) (y5 : isFn K (.ref fI) = true) (y6 : PySem.W.plainGet K C Str.empty = true) (y7 : hasDictIn K C = true) (y8 : PySem.W.plainOver K C = true) (y9 : findIn K (.ref C) "__setattr__" = some (some (.builtin "object.__setattr__"))) (y10 : PySem.W.makesIn K C = true) (y11 : keepIn K (.ref C) = true) (y12 : findIn K (.ref C) "people" = some none) (y13 : findIn K (.ref C) "things" = some none) (y14 : findIn K (.ref C) "allowed" = some none) : KindsF K C := ⟨_, _, _, _, _, _, _, _, _, _, y0, y1, y2, y3, y4, y5, y6, y7, y8, y9, y10, y11, y12, y13, y14⟩
/-- the own errors -/
def ErrF (K : PySem.W.Frag) (CN CT : Addr) : Prop := ∃ (CD : Addr), nsIn K mainGlobals "NoNumber" = some (some (.ref CN)) ∧ nsIn K mainGlobals "DrawError" = some (some (.ref CD)) ∧
  PySem.W.excIn K CN [.type "ValueError", .type "Exception", .type "BaseException", .type "object"] "ValueError.__new__" = true ∧ keepIn K (.ref CN) = true ∧ subIn K (.ref CN) (.type "BaseException") = some true ∧ typeIn K (.ref CN) = some (.type "type") ∧
  hasDictIn K CN = true ∧ subIn K (.ref CN) (.ref CN) = some true ∧ subIn K (.ref CT) (.ref CN) = some false ∧ subIn K (.ref CT) (.ref CT) = some true
theorem ErrF_mk {K : PySem.W.Frag} {CN CT : Addr} {CD : Addr} (y0 : nsIn K mainGlobals "NoNumber" = some (some (.ref CN))) (y1 : nsIn K mainGlobals "DrawError" = some (some (.ref CD))) (y2 : PySem.W.excIn K CN [.type "ValueError", .type "Exception", .type "BaseException", .type "object"] "ValueError.__new__" = true) (y3 : keepIn K (.ref CN) = true) (y4 : subIn K (.ref CN) (.type "BaseException") = some true) (y5 : typeIn K (.ref CN) = some (.type "type")) (y6 : hasDictIn K CN = true) (y7 : subIn K (.ref CN) (.ref CN) = some true) (y8 : subIn K (.ref CT) (.ref CN) = some false) (y9 : subIn K (.ref CT) (.ref CT) = some true) : ErrF K CN CT := ⟨_, y0, y1, y2, y3, y4, y5, y6, y7, y8, y9⟩
def TmF (P : Program) (K : PySem.W.Frag) (C : Addr) : Prop := ∃ (fI : Addr) (nm q : Str) (N : Addr) (bs bm : List Value) (sn : List Str) (sub : List Value) (ab : Bool) (col : Option Bool) (dd : Option Addr) (k0 k1 k2 k3 k5 : Option Value)
    (oc : Value) (od : Option Addr) (doc pm : Value) (an : Option Addr) (cda cc : Addr) (ct : Value) (osl : Array (Option Value)) (cl : Value) (cld : Option Addr) (csl : Array (Option Value)) (ccl : Value) (cdd : Option Addr) (vs : Array Value) (ccs : Array (Option Value)) (file : Str) (tf : Tok),
  nsIn K mainGlobals "TooMany" = some (some (.ref C)) ∧ nsIn K mainGlobals "super" = some none ∧ K.lookup C = some (excClassObj nm q C N bs bm true sn sub ab col dd k0 k1 k2 k3 k5 "ValueError.__new__") ∧ PySem.HandSPX.refsVE bm = true ∧
  findIn K (.ref C) "__setattr__" = some (some (.builtin "object.__setattr__")) ∧ findIn K (.ref C) "__getattribute__" = some (some (.builtin "BaseException.__getattribute__")) ∧ findIn K (.ref C) "__getattr__" = some none ∧ subIn K (.ref C) (.type "BaseException") = some true ∧ hasDictIn K C = true ∧
  findIn K (.ref C) "most" = some none ∧ findIn K (.ref C) "__init__" = some (some (.ref fI)) ∧ typeIn K (.ref fI) = some (.type "function") ∧ keepIn K (.ref C) = true ∧ typeIn K (.ref C) = some (.type "type") ∧
  PySem.W.ks_superIn K C C "__init__" = some (some (.builtin "ValueError.__init__")) ∧ subIn K (.ref C) (.type "ValueError") = some true ∧ PySem.W.mroIn K C (.ref C) = some true ∧ nsIn K cStatics "thirdparty.any" = some none ∧ (P.main.scope.names.lookup ("super" : Str)).isSome = false ∧
  K.lookup fI = some ⟨oc, od, .func (PySem.W.ksFn "__init__" "TooMany.__init__" tmA tmB tmS .none .none doc pm an (.ref cda) ct cc), osl⟩ ∧ codeIn K (.ref cda) "TooMany.__init__" = true ∧
  K.lookup cc = some ⟨cl, cld, .cell (some (.ref C)), csl⟩ ∧ K.lookup cda = some ⟨ccl, cdd, .fields vs, ccs⟩ ∧ vs[2]? = some (.str file tf) ∧ ((P.main.file : Str) == file) = true
theorem TmF_mk {P : Program} {K : PySem.W.Frag} {C : Addr} {fI : Addr} {nm q : Str} {N : Addr} {bs bm : List Value} {sn : List Str} {sub : List Value} {ab : Bool} {col : Option Bool} {dd : Option Addr} {k0 k1 k2 k3 k5 : Option Value} {oc : Value} {od : Option Addr} {doc pm : Value} {an : Option Addr} {cda cc : Addr} {ct : Value} {osl : Array (Option Value)} {cl : Value} {cld : Option Addr} {csl : Array (Option Value)} {ccl : Value} {cdd : Option Addr} {vs : Array Value} {ccs : Array (Option Value)} {file : Str} {tf : Tok} (y0 : nsIn K mainGlobals "TooMany" = some (some (.ref C))) (y1 : nsIn K mainGlobals "super" = some none) (y2 : K.lookup C = some (excClassObj nm q C N bs bm true sn sub ab col dd k0 k1 k2 k3 k5 "ValueError.__new__")) (y3 : PySem.HandSPX.refsVE bm = true) (y4 : findIn K (.ref C) "__setattr__" = some (some (.builtin "object.__setattr__"))) (y5 : findIn K (.ref C) "__getattribute__" = some (some (.builtin "BaseException.__getattribute__"))) (y6 : findIn K (.ref C) "__getattr__" = some none) (y7 : subIn K (.ref C) (.type "BaseException") = some true) (y8 : hasDictIn K C = true) (y9 : findIn K (.ref C) "most" = some none) (y10 : findIn K (.ref C) "__init__" = some (some (.ref fI))) (y11 : typeIn K (.ref fI) = some (.type "function")) (y12 : keepIn K (.ref C) = true) (y13 : typeIn K (.ref C) = some (.type "type")) (y14 : PySem.W.ks_superIn K C C "__init__" = some (some (.builtin "ValueError.__init__"))) (y15 : subIn K (.ref C) (.type "ValueError") = some true) (y16 : PySem.W.mroIn K C (.ref C) = some true) (y17 : nsIn K cStatics "thirdparty.any" = some none) (y18 : (P.main.scope.names.lookup ("super" : Str)).isSome = false) (y19 : K.lookup fI = some ⟨oc, od, .func (PySem.W.ksFn "__init__" "TooMany.__init__" tmA tmB tmS .none .none doc pm an (.ref cda) ct cc), osl⟩) (y20 : codeIn K (.ref cda) "TooMany.__init__" = true) (y21 : K.lookup cc = some ⟨cl, cld, .cell (some (.ref C)), csl⟩) (y22 : K.lookup cda = some ⟨ccl, cdd, .fields vs, ccs⟩) (y23 : vs[2]? = some (.str file tf)) (y24 : ((P.main.file : Str) == file) = true) : TmF P K C := ⟨_, _, _, _, _, _, _, _, _, _, _, _, _, _, _, _, _, _, _, _, _, _, _, _, _, _, _, _, _, _, _, _, _, _, y0, y1, y2, y3, y4, y5, y6, y7, y8, y9, y10, y11, y12, y13, y14, y15, y16, y17, y18, y19, y20, y21, y22, y23, y24⟩
theorem cst_mk {K : PySem.W.Frag} {x : Str} {i : Int} {t : Tok} (h : nsIn K mainGlobals x = some (some (.int i t))) : ∃ t, nsIn K mainGlobals x = some (some (.int i t)) := ⟨t, h⟩
theorem all_mk {P : Program} {w : World} {K : PySem.W.Frag} {h : Heap} {mg : Str → Option Value} {fa C CN CT : Addr} (X : K.In h) (G : h.Ns mainGlobals mg) (hfa : mg "law" = some (.ref fa)) (ofK : ∃ t, mg "MOST_OF_KIND" = some (.int (10 ^ 30) t))
    (cK : ∃ t, nsIn K mainGlobals "MOST_KINDS" = some (some (.int 8 t))) (cC : ∃ t, nsIn K mainGlobals "MOST_COUNTED" = some (some (.int 60 t))) (cS : ∃ t, nsIn K mainGlobals "MOST_STATES" = some (some (.int 5000 t)))
    (b : BlF K) (kF : KindsF K C) (eF : ErrF K CN CT) (tF : TmF P K CT) (dlaw : DefF K "law" sLaw)
    (d_integer : DefF K "is_integer" sInteger)
    (d_within : DefF K "is_within" sWithin)
    (d_asc : DefF K "are_ascending" sAsc)
    (d_lot : DefF K "is_lot_of" sLot)
    (d_checkN : DefF K "check_number" sCheckN)
    (d_checkM : DefF K "check_many" sCheckM)
    (d_counts : DefF K "are_counts" sCounts)
    (d_spread : DefF K "spread_out" sSpread)
    (d_oneLess : DefF K "one_less" sOneLess)
    (d_after : DefF K "after_person" sAfter)
    (d_many : DefF K "kinds_many" sMany)
    (d_pool : DefF K "_law_pool" sPool)
    (d_draw : DefF K "_law_draw" sDraw)
    (d_all : DefF K "_law_all" sAll)
    (d_deep : DefF K "_law_deep" sDeep)
    (d_mk : DefF K "_law_kinds" sMk)
    (d_wide : DefF K "_law_wide" sWide)
    (d_rows : DefF K "_law_kind_rows" sRows)
    (d_orders : DefF K "_law_orders" sOrders)
    (d_said : DefF K "_law_said" sSaid)
    (d_great : DefF K "_law_great_right" sGreat) :
    ∃ fd : FuncData, (∀ (s : Shared) (u : Value), BindsTo s fd ⟨[u], []⟩ [("_law_script", u)]) ∧ ∀ base : Heap, K.In base → base.Ns mainGlobals mg → FnOk P w K mg base CX0 7 fa fd ["_law_script"] (spLaw K) := by
  have D_integer : Def K mg "is_integer" sInteger ["thing"] := def_of X G d_integer fun _ _ _ _ _ _ us hl => match us, hl with | [_], _ => rfl
  have D_within : Def K mg "is_within" sWithin ["thing", "least", "most"] := def_of X G d_within fun _ _ _ _ _ _ us hl => match us, hl with | [_, _, _], _ => rfl
  have D_asc : Def K mg "are_ascending" sAsc ["things"] := def_of X G d_asc fun _ _ _ _ _ _ us hl => match us, hl with | [_], _ => rfl
  have D_lot : Def K mg "is_lot_of" sLot ["thing", "many"] := def_of X G d_lot fun _ _ _ _ _ _ us hl => match us, hl with | [_, _], _ => rfl
  have D_checkN : Def K mg "check_number" sCheckN ["thing", "least", "most"] := def_of X G d_checkN fun _ _ _ _ _ _ us hl => match us, hl with | [_, _, _], _ => rfl
  have D_checkM : Def K mg "check_many" sCheckM ["number", "most"] := def_of X G d_checkM fun _ _ _ _ _ _ us hl => match us, hl with | [_, _], _ => rfl
  have D_counts : Def K mg "are_counts" sCounts ["thing", "least"] := def_of X G d_counts fun _ _ _ _ _ _ us hl => match us, hl with | [_, _], _ => rfl
  have D_spread : Def K mg "spread_out" sSpread ["numbers"] := def_of X G d_spread fun _ _ _ _ _ _ us hl => match us, hl with | [_], _ => rfl
  have D_oneLess : Def K mg "one_less" sOneLess ["numbers", "place"] := def_of X G d_oneLess fun _ _ _ _ _ _ us hl => match us, hl with | [_, _], _ => rfl
  have D_after : Def K mg "after_person" sAfter ["kinds", "kind", "counts", "modulus"] := def_of X G d_after fun _ _ _ _ _ _ us hl => match us, hl with | [_, _, _, _], _ => rfl
  have D_many : Def K mg "kinds_many" sMany ["kinds", "modulus"] := def_of X G d_many fun _ _ _ _ _ _ us hl => match us, hl with | [_, _], _ => rfl
  have D_pool : Def K mg "_law_pool" sPool ["_law_script"] := def_of X G d_pool fun _ _ _ _ _ _ us hl => match us, hl with | [_], _ => rfl
  have D_draw : Def K mg "_law_draw" sDraw ["_law_pool_here", "_law_many"] := def_of X G d_draw fun _ _ _ _ _ _ us hl => match us, hl with | [_, _], _ => rfl
  have D_all : Def K mg "_law_all" sAll ["_law_rows"] := def_of X G d_all fun _ _ _ _ _ _ us hl => match us, hl with | [_], _ => rfl
  have D_deep : Def K mg "_law_deep" sDeep [] := def_of X G d_deep fun _ _ _ _ _ _ us hl => match us, hl with | [], _ => rfl
  have D_mk : Def K mg "_law_kinds" sMk ["_law_pool_here", "_law_most"] := def_of X G d_mk fun _ _ _ _ _ _ us hl => match us, hl with | [_, _], _ => rfl
  have D_wide : Def K mg "_law_wide" sWide ["_law_numbers"] := def_of X G d_wide fun _ _ _ _ _ _ us hl => match us, hl with | [_], _ => rfl
  have D_rows : Def K mg "_law_kind_rows" sRows ["_law_people", "_law_things", "_law_allowed"] := def_of X G d_rows fun _ _ _ _ _ _ us hl => match us, hl with | [_, _, _], _ => rfl
  have D_orders : Def K mg "_law_orders" sOrders ["_law_many"] := def_of X G d_orders fun _ _ _ _ _ _ us hl => match us, hl with | [_], _ => rfl
  have D_said : Def K mg "_law_said" sSaid ["_law_kinds_here", "_law_modulus"] := def_of X G d_said fun _ _ _ _ _ _ us hl => match us, hl with | [_, _], _ => rfl
  have D_great : Def K mg "_law_great_right" sGreat ["_law_pool_here"] := def_of X G d_great fun _ _ _ _ _ _ us hl => match us, hl with | [_], _ => rfl
  have B := b.bl X G
  obtain ⟨fL, oc, od, kV, dc, pm, an, cd, ct, sl, aL, lL, cL, kL⟩ := dlaw
  have e := hfa.symm.trans (PySem.W.mg_of X G aL)
  cases e
  have FL := fun_mk (st := sLaw) lL cL kL
  have S : Cst mg := by
    obtain ⟨t1, e1⟩ := cK
    obtain ⟨t2, e2⟩ := cC
    obtain ⟨t3, e3⟩ := cS
    exact ⟨⟨t1, PySem.W.mg_of X G e1⟩, ofK, ⟨t2, PySem.W.mg_of X G e2⟩, ⟨t3, PySem.W.mg_of X G e3⟩⟩
  obtain ⟨fI, oc1, od1, kV1, dc1, pm1, an1, cd1, ct1, sl1, gK, iK, lK, cK1, kI, fnI, pg, hd, po, sa, mk, kc, nP, nT, nA⟩ := kF
  have FK := fun_mk (st := sKinds) lK cK1 kI
  have bK := FK.binds (ps := ["self", "people", "things", "allowed"]) fun _ _ _ _ _ _ us hl => match us, hl with | [_, _, _, _], _ => rfl
  have TK : KTxt K mg C fI := ⟨⟨pg, hd, po, sa⟩, nP, nT, nA, ⟨mk, iK, fnI, kc⟩, PySem.W.mg_of X G gK⟩
  obtain ⟨CD, gN, gD, xN, kN1, eN, tN, hN, sNN, sTN, sTT⟩ := eF
  have TN : NnTxt K mg CN := ⟨PySem.W.mg_of X G gN, xN, kN1, eN, tN⟩
  obtain ⟨fT, nm, q, N, bs, bm, sn, sub, ab, col, dd, k0, k1, k2, k3, k5, oc2, od2, doc, pm2, an2, cda, cc, ct2, osl, cl, cld, csl, ccl, cdd, vs, ccs, file, tf, gT, sup, clT, ve, saT, gaT, ggT, exT, hdT, nM, iT, tT, kT, tyT, suT, vT, mT, any, top_, lT, cT, lcc, lcd, v2, fe⟩ := tF
  have TT : TmTxt P K mg CT fT := ⟨PySem.W.mg_of X G gT, PySem.W.mg_none_of X G sup, ⟨nm, q, N, bs, bm, sn, sub, ab, col, dd, k0, k1, k2, k3, k5, clT, ve⟩, saT, ⟨gaT, ggT, exT, hdT⟩, nM, iT, tT, kT, exT, tyT, suT, vT, mT, any, top_,
    ⟨oc2, od2, doc, pm2, an2, cda, cc, ct2, osl, lT, cT, ⟨cl, cld, csl, lcc⟩, ccl, cdd, vs, ccs, file, tf, lcd, v2, fe⟩⟩
  have TE : ExTxt K mg CN CT := ⟨TN.g, TT.gC, ⟨CD, PySem.W.mg_of X G gD⟩, PySem.W.exm_ref eN hN tN sNN, PySem.W.exm_ref eN hN tN sTN, PySem.W.exm_ref exT hdT tyT sTT⟩
  refine ⟨fnOf "law" "law" (defArgs sLaw) (defBody sLaw) (defScope sLaw) .none kV dc pm an cd ct, fun s u => .of_eq rfl, fun base _ _ => ?_⟩
  have C1 := ok_integer (P := P) (w := w) (base := base) D_integer B
  have C2 := ok_within D_within C1
  have CN3 := ok_checkN D_checkN TN C2
  have CM2 := ok_checkM (w := w) (base := base) D_checkM TT
  have CA1 := ok_asc (P := P) (w := w) (base := base) D_asc B
  have CL3 := ok_lot D_lot B C2 CA1
  have CC3 := ok_counts D_counts B S C2
  have OK4 := ok_kinds FK TK B CC3 CL3
  have KM : KMk P w K mg base C := ⟨fI, _, TK.made, OK4, TK.g, bK⟩
  have CS1 := ok_spread (P := P) (w := w) (base := base) D_spread B
  have CO1 := ok_oneLess (P := P) (w := w) (base := base) D_oneLess
  have CP2 := ok_after D_after TK CO1
  have CM4 := ok_many D_many TK B S CN3 CM2 CS1 CP2
  have CS5 := ok_said D_said TE TT CM4
  have CD1 := ok_draw (P := P) (w := w) (base := base) D_draw B
  have COr := ok_orders (P := P) (w := w) (base := base) D_orders B
  have CW1 := ok_wide (P := P) (w := w) (base := base) D_wide B
  exact ok_law FL B KM (ok_pool D_pool B) CD1 (ok_all D_all B) (ok_deep D_deep B) (ok_lawKinds D_mk B CD1) (ok_rows D_rows B CW1) COr CS5 (ok_great D_great B KM CD1 COr CS5)
/-- the walk, with what the loose names are -/
theorem walk {l : PySem.W.OpenLaw} {q : Program} {loose : List Str} {XP : (Str → Option Value) → Heap → Prop} {YP : World → Heap → Prop} {d : DefRec} {K : Params → PySem.W.Frag} (hn : l.most = some 63) (hdf : d.params.defaults = [])
    (hY : ∀ (w : World) (h : Heap), YP w h → (K w.params).In h)
    (F : ∀ (w : World) (mg : Str → Option Value) (fa : Addr) (h : Heap), XP mg h → (K w.params).In h → h.Ns mainGlobals mg → mg d.name = some (.ref fa) →
      ∃ fd : FuncData, (∀ (s : Shared) (u : Value), BindsTo s fd ⟨[u], []⟩ [("_law_script", u)]) ∧ ∀ base : Heap, (K w.params).In base → base.Ns mainGlobals mg → FnOk l.prog w (K w.params) mg base CX0 7 fa fd ["_law_script"] (spLaw (K w.params))) :
    PySem.W.WalkO q loose XP YP l.row.toRowW d [] (fun f vs => PySem.call f vs) := by
  refine Att.attach_call hn hdf fun w s₀ s₁ mg mb fa o pm cd doc a vs ns G Y ho hd hcd hmg hobj hints hlen hg => ?_
  have KX := hY w _ Y
  obtain ⟨fd, hb, hF⟩ := F w mg fa _ G.X KX G.T.g hmg
  have h63 : (63 : Nat) ≤ sizeLine := by decide
  exact law_call KX G.T.g G.T.b G.T.builtins G.T.nolimit hg hobj hints (Nat.le_trans hlen h63) (k := 7) ⟨rfl, by decide, by decide⟩ hF hb (fun H hO hS => ⟨a, ns, rfl, hS, Nat.le_trans hlen h63, fun _ => rfl⟩) fun H e s' z => z
end FR

open PySem PySem.W PyProof.Rows in
set_option maxRecDepth 100000 in
set_option maxHeartbeats 0 in
theorem PySem.Challenge.cw_fullorring_k81_whole_kinds_counted_holds : PySem.Challenge.rw_fullorring_k81_whole_kinds_counted.Holds := by
  w_on; o_law; k_head; (case hw => w_witness2)
  k_fill
  refine FR.walk (l := PySem.Challenge.rw_fullorring_k81_whole_kinds_counted) rfl rfl (fun w h Y => PySem.W.kIn_of Y) ?F
  case F =>
    intro w mg fa h XX KX G hmg
    have ofK : ∃ t, mg "MOST_OF_KIND" = some (.int (10 ^ 30) t) := by
      obtain ⟨v, e1, e2⟩ := XX.2.val (_, _) (List.mem_singleton.mpr rfl)
      obtain ⟨t, e3, _⟩ := readsW_int_inv e2
      subst e3
      exact ⟨t, e1⟩
    refine' FR.all_mk KX G hmg ofK ?cK ?cC ?cS ?bl ?kF ?eF ?tF ?dlaw ?d_integer ?d_within ?d_asc ?d_lot ?d_checkN ?d_checkM ?d_counts ?d_spread ?d_oneLess ?d_after ?d_many ?d_pool ?d_draw ?d_all ?d_deep ?d_mk ?d_wide ?d_rows ?d_orders ?d_said ?d_great
    (case cK => refine' FR.cst_mk ?x; (case x => k_is))
    (case cC => refine' FR.cst_mk ?x; (case x => k_is))
    (case cS => refine' FR.cst_mk ?x; (case x => k_is))
    (case bl => refine' ⟨?b0, ?b1, ?b2, ?b3, ?b4, ?b5, ?b6, ?b7, ?b8, ?b9, ?b10, ?b11⟩; (case b0 => k_is); (case b1 => k_is); (case b2 => k_is); (case b3 => k_is); (case b4 => k_is); (case b5 => k_is); (case b6 => k_is); (case b7 => k_is); (case b8 => k_is); (case b9 => k_is); (case b10 => k_is); (case b11 => k_is))
    (case kF => refine' FR.KindsF_mk ?y0 ?y1 ?y2 ?y3 ?y4 ?y5 ?y6 ?y7 ?y8 ?y9 ?y10 ?y11 ?y12 ?y13 ?y14; (case y0 => k_is); (case y1 => k_is); (case y2 => k_is); (case y3 => k_is); (case y4 => k_is); (case y5 => k_is); (case y6 => k_is); (case y7 => k_is); (case y8 => k_is); (case y9 => k_is); (case y10 => k_is); (case y11 => k_is); (case y12 => k_is); (case y13 => k_is); (case y14 => k_is))
    (case tF => refine' FR.TmF_mk ?y0 ?y1 ?y2 ?y3 ?y4 ?y5 ?y6 ?y7 ?y8 ?y9 ?y10 ?y11 ?y12 ?y13 ?y14 ?y15 ?y16 ?y17 ?y18 ?y19 ?y20 ?y21 ?y22 ?y23 ?y24; (case y0 => k_is); (case y1 => k_is); (case y2 => k_is); (case y3 => decide +kernel); (case y4 => k_is); (case y5 => k_is); (case y6 => k_is); (case y7 => k_is); (case y8 => k_is); (case y9 => k_is); (case y10 => k_is); (case y11 => k_is); (case y12 => k_is); (case y13 => k_is); (case y14 => ks_is); (case y15 => k_is); (case y16 => k_is); (case y17 => k_is); (case y18 => rfl); (case y19 => k_is); (case y20 => k_is); (case y21 => k_is); (case y22 => k_is); (case y23 => rfl); (case y24 => first | rfl | decide +kernel))
    (case eF => refine' FR.ErrF_mk ?y0 ?y1 ?y2 ?y3 ?y4 ?y5 ?y6 ?y7 ?y8 ?y9; (case y0 => k_is); (case y1 => k_is); (case y2 => first | k_exc | k_is); (case y3 => k_is); (case y4 => k_is); (case y5 => k_is); (case y6 => k_is); (case y7 => first | rfl | k_is); (case y8 => k_is); (case y9 => first | rfl | k_is))
    (case dlaw => refine' FR.DefF_mk ?y0 ?y1 ?y2 ?y3; (case y0 => k_is); (case y1 => k_is); (case y2 => k_is); (case y3 => k_is))
    (case d_integer => refine' FR.DefF_mk ?y0 ?y1 ?y2 ?y3; (case y0 => k_is); (case y1 => k_is); (case y2 => k_is); (case y3 => k_is))
    (case d_within => refine' FR.DefF_mk ?y0 ?y1 ?y2 ?y3; (case y0 => k_is); (case y1 => k_is); (case y2 => k_is); (case y3 => k_is))
    (case d_asc => refine' FR.DefF_mk ?y0 ?y1 ?y2 ?y3; (case y0 => k_is); (case y1 => k_is); (case y2 => k_is); (case y3 => k_is))
    (case d_lot => refine' FR.DefF_mk ?y0 ?y1 ?y2 ?y3; (case y0 => k_is); (case y1 => k_is); (case y2 => k_is); (case y3 => k_is))
    (case d_checkN => refine' FR.DefF_mk ?y0 ?y1 ?y2 ?y3; (case y0 => k_is); (case y1 => k_is); (case y2 => k_is); (case y3 => k_is))
    (case d_checkM => refine' FR.DefF_mk ?y0 ?y1 ?y2 ?y3; (case y0 => k_is); (case y1 => k_is); (case y2 => k_is); (case y3 => k_is))
    (case d_counts => refine' FR.DefF_mk ?y0 ?y1 ?y2 ?y3; (case y0 => k_is); (case y1 => k_is); (case y2 => k_is); (case y3 => k_is))
    (case d_spread => refine' FR.DefF_mk ?y0 ?y1 ?y2 ?y3; (case y0 => k_is); (case y1 => k_is); (case y2 => k_is); (case y3 => k_is))
    (case d_oneLess => refine' FR.DefF_mk ?y0 ?y1 ?y2 ?y3; (case y0 => k_is); (case y1 => k_is); (case y2 => k_is); (case y3 => k_is))
    (case d_after => refine' FR.DefF_mk ?y0 ?y1 ?y2 ?y3; (case y0 => k_is); (case y1 => k_is); (case y2 => k_is); (case y3 => k_is))
    (case d_many => refine' FR.DefF_mk ?y0 ?y1 ?y2 ?y3; (case y0 => k_is); (case y1 => k_is); (case y2 => k_is); (case y3 => k_is))
    (case d_pool => refine' FR.DefF_mk ?y0 ?y1 ?y2 ?y3; (case y0 => k_is); (case y1 => k_is); (case y2 => k_is); (case y3 => k_is))
    (case d_draw => refine' FR.DefF_mk ?y0 ?y1 ?y2 ?y3; (case y0 => k_is); (case y1 => k_is); (case y2 => k_is); (case y3 => k_is))
    (case d_all => refine' FR.DefF_mk ?y0 ?y1 ?y2 ?y3; (case y0 => k_is); (case y1 => k_is); (case y2 => k_is); (case y3 => k_is))
    (case d_deep => refine' FR.DefF_mk ?y0 ?y1 ?y2 ?y3; (case y0 => k_is); (case y1 => k_is); (case y2 => k_is); (case y3 => k_is))
    (case d_mk => refine' FR.DefF_mk ?y0 ?y1 ?y2 ?y3; (case y0 => k_is); (case y1 => k_is); (case y2 => k_is); (case y3 => k_is))
    (case d_wide => refine' FR.DefF_mk ?y0 ?y1 ?y2 ?y3; (case y0 => k_is); (case y1 => k_is); (case y2 => k_is); (case y3 => k_is))
    (case d_rows => refine' FR.DefF_mk ?y0 ?y1 ?y2 ?y3; (case y0 => k_is); (case y1 => k_is); (case y2 => k_is); (case y3 => k_is))
    (case d_orders => refine' FR.DefF_mk ?y0 ?y1 ?y2 ?y3; (case y0 => k_is); (case y1 => k_is); (case y2 => k_is); (case y3 => k_is))
    (case d_said => refine' FR.DefF_mk ?y0 ?y1 ?y2 ?y3; (case y0 => k_is); (case y1 => k_is); (case y2 => k_is); (case y3 => k_is))
    (case d_great => refine' FR.DefF_mk ?y0 ?y1 ?y2 ?y3; (case y0 => k_is); (case y1 => k_is); (case y2 => k_is); (case y3 => k_is))
