import PyProof.Rows.All
import Wide.All
import OpenK.AllK
import Wide.FinOn
import HandS.ForMost
import HandS.ForExc
import HandS.Defaults
import HandS.IsInst
import HandS.Conv
import HandS.Strs
import HandS.SetFor
import HandS.TupSets
import HandS.TupAny
import HandS.Wide
import HandS.Walk
import HandS.Style
import HandS.CallRecv
import HandS.ExcInit
import KE.KIndexOf
import KE.GoesEnum
import PyProof.TupleOfSeq
import KE.KExcIs
import KE.KExcInit
import PySem.Challenge.RW_passmarks_k17_whole_short_words_by_numbe
set_option Elab.async false
set_option linter.all false
set_option maxRecDepth 100000
set_option maxHeartbeats 4000000
/-! Orders, passes by places and by marks, short words: plain Lean, no program in sight. -/
namespace PM

/-! ### the exchange of k and k + 1 -/
def sw (k x : Nat) : Nat := if x = k then k + 1 else if x = k + 1 then k else x
theorem sw_self (k : Nat) : sw k k = k + 1 := if_pos rfl
theorem sw_succ (k : Nat) : sw k (k + 1) = k := by unfold sw; rw [if_neg (by omega), if_pos rfl]
theorem sw_ne {k x : Nat} (h1 : x ≠ k) (h2 : x ≠ k + 1) : sw k x = x := by unfold sw; rw [if_neg h1, if_neg h2]
theorem sw_sw (k x : Nat) : sw k (sw k x) = x := by unfold sw; split <;> split <;> (try split) <;> omega
theorem sw_inj {k x y : Nat} (h : sw k x = sw k y) : x = y := by rw [← sw_sw k x, h, sw_sw]
theorem sw_lt {k n x : Nat} (hk : k + 1 < n) (hx : x < n) : sw k x < n := by unfold sw; split <;> (try split) <;> omega

/-- by marks -/
def sv (k : Nat) (o : List Nat) : List Nat := o.map (sw k)
/-- by places -/
def sp : Nat → List Nat → List Nat
  | 0, x :: y :: r => y :: x :: r
  | k + 1, x :: r => x :: sp k r
  | _, o => o
theorem sv_len (k : Nat) (o : List Nat) : (sv k o).length = o.length := List.length_map _
theorem sv_sv (k : Nat) (o : List Nat) : sv k (sv k o) = o := by
  unfold sv
  rw [List.map_map]
  have e : sw k ∘ sw k = id := funext fun x => sw_sw k x
  rw [e, List.map_id]
theorem sp_len : ∀ (k : Nat) (o : List Nat), (sp k o).length = o.length
  | 0, [] => rfl
  | 0, [_] => rfl
  | 0, _ :: _ :: _ => rfl
  | _ + 1, [] => rfl
  | k + 1, x :: r => congrArg (· + 1) (sp_len k r)
theorem sp_sp : ∀ (k : Nat) (o : List Nat), sp k (sp k o) = o
  | 0, [] => rfl
  | 0, [_] => rfl
  | 0, _ :: _ :: _ => rfl
  | _ + 1, [] => rfl
  | k + 1, x :: r => congrArg (x :: ·) (sp_sp k r)
theorem sp_map (f : Nat → Nat) : ∀ (k : Nat) (o : List Nat), sp k (o.map f) = (sp k o).map f
  | 0, [] => rfl
  | 0, [_] => rfl
  | 0, _ :: _ :: _ => rfl
  | _ + 1, [] => rfl
  | k + 1, x :: r => congrArg (f x :: ·) (sp_map f k r)
theorem sp_sv (j k : Nat) (o : List Nat) : sp j (sv k o) = sv k (sp j o) := sp_map _ _ _
theorem sp_perm : ∀ (k : Nat) (o : List Nat), (sp k o).Perm o
  | 0, [] => .refl _
  | 0, [_] => .refl _
  | 0, _ :: _ :: _ => .swap _ _ _
  | _ + 1, [] => .refl _
  | k + 1, x :: r => (sp_perm k r).cons x
/-- which place stands at i behind the pass at k -/
theorem sp_get : ∀ (k : Nat) (o : List Nat) (i : Nat), k + 1 < o.length → (sp k o)[i]? = o[sw k i]?
  | _, [], _, h => absurd h (by simp)
  | 0, [_], _, h => absurd h (by simp)
  | 0, x :: y :: r, 0, _ => rfl
  | 0, x :: y :: r, 1, _ => rfl
  | 0, x :: y :: r, i + 2, _ => by
    rw [sw_ne (by omega) (by omega)]
    rfl
  | k + 1, x :: r, 0, _ => by
    rw [sw_ne (by omega) (by omega)]
    rfl
  | k + 1, x :: r, i + 1, h => by
    have h' : k + 1 < r.length := by simpa using h
    have e : sw (k + 1) (i + 1) = sw k i + 1 := by unfold sw; split <;> split <;> (try split) <;> (try split) <;> omega
    rw [e]
    show (sp k r)[i]? = r[sw k i]?
    exact sp_get k r i h'

/-! ### orders -/
structure Ord (o : List Nat) : Prop where
  nd : o.Nodup
  lt : ∀ x ∈ o, x < o.length
theorem range_ord (n : Nat) : Ord (List.range n) := ⟨List.nodup_range, fun x h => by rw [List.length_range]; exact List.mem_range.mp h⟩
theorem len_le : ∀ (n : Nat) (l : List Nat), l.Nodup → (∀ x ∈ l, x < n) → l.length ≤ n
  | 0, [], _, _ => Nat.le_refl _
  | 0, x :: _, _, h => absurd (h x (List.mem_cons_self ..)) (by omega)
  | n + 1, l, nd, h => by
    by_cases hm : n ∈ l
    · have nd2 := nd.erase n
      have e := List.length_erase_of_mem hm
      have := len_le n (l.erase n) nd2 fun x hx => by
        have h1 := h x (List.mem_of_mem_erase hx)
        have h2 : x ≠ n := fun z => by
          subst z
          exact nd.not_mem_erase hx
        omega
      omega
    · have := len_le n l nd fun x hx => by
        have h1 := h x hx
        have h2 : x ≠ n := fun z => hm (z ▸ hx)
        omega
      omega
theorem perm_range : ∀ (n : Nat) (l : List Nat), l.Nodup → (∀ x ∈ l, x < n) → l.length = n → l.Perm (List.range n)
  | 0, [], _, _, _ => .refl _
  | 0, _ :: _, _, _, h => by simp at h
  | n + 1, l, nd, h, hl => by
    by_cases hm : n ∈ l
    · have e := List.length_erase_of_mem hm
      have ih := perm_range n (l.erase n) (nd.erase n) (fun x hx => by
        have h1 := h x (List.mem_of_mem_erase hx)
        have h2 : x ≠ n := fun z => by
          subst z
          exact nd.not_mem_erase hx
        omega) (by omega)
      refine (List.perm_cons_erase hm).trans ((ih.cons n).trans ?_)
      rw [List.range_succ]
      exact (List.perm_append_singleton n _).symm
    · have := len_le n l nd fun x hx => by
        have h1 := h x hx
        have h2 : x ≠ n := fun z => hm (z ▸ hx)
        omega
      omega
theorem Ord.perm {o : List Nat} (h : Ord o) : o.Perm (List.range o.length) := perm_range _ o h.nd h.lt rfl
theorem Ord.of_perm {o : List Nat} {n : Nat} (h : o.Perm (List.range n)) : Ord o := by
  have e : o.length = n := by rw [h.length_eq, List.length_range]
  exact ⟨h.nodup_iff.mpr List.nodup_range, fun x hx => by rw [e]; exact List.mem_range.mp (h.mem_iff.mp hx)⟩
theorem Ord.has {o : List Nat} (h : Ord o) {v : Nat} (hv : v < o.length) : v ∈ o := h.perm.mem_iff.mpr (List.mem_range.mpr hv)
theorem Ord.sp {o : List Nat} (h : Ord o) (k : Nat) : Ord (sp k o) := by
  refine ⟨(sp_perm k o).nodup_iff.mpr h.nd, fun x hx => ?_⟩
  rw [sp_len]
  exact h.lt x ((sp_perm k o).mem_iff.mp hx)
theorem Ord.sv {o : List Nat} (h : Ord o) {k : Nat} (hk : k + 1 < o.length) : Ord (sv k o) := by
  refine ⟨?_, fun x hx => ?_⟩
  · show (o.map (sw k)).Nodup
    rw [List.Nodup, List.pairwise_map]
    exact h.nd.imp fun hab e => hab (sw_inj e)
  · rw [sv_len]
    obtain ⟨y, hy, rfl⟩ := List.mem_map.mp hx
    exact sw_lt hk (h.lt y hy)
theorem Ord.nil : Ord [] := ⟨List.nodup_nil, fun _ h => by cases h⟩
/-! ### how many pairs stand contrary -/
def inv : List Nat → Nat
  | [] => 0
  | x :: r => r.countP (fun y => decide (y < x)) + inv r
theorem inv_sp_up : ∀ (k : Nat) (o : List Nat) (a b : Nat), o[k]? = some a → o[k + 1]? = some b → a < b → inv (sp k o) = inv o + 1
  | _, [], _, _, h, _, _ => by simp at h
  | 0, [_], _, _, _, h, _ => by simp at h
  | 0, x :: y :: r, a, b, ha, hb, h => by
    have e1 : x = a := Option.some.inj ha
    have e2 : y = b := Option.some.inj hb
    subst e1 e2
    show (x :: r).countP (fun z => decide (z < y)) + (r.countP (fun z => decide (z < x)) + inv r) = (y :: r).countP (fun z => decide (z < x)) + (r.countP (fun z => decide (z < y)) + inv r) + 1
    rw [List.countP_cons, List.countP_cons, decide_eq_true h, decide_eq_false (by omega : ¬ y < x)]
    simp
    omega
  | k + 1, x :: r, a, b, ha, hb, h => by
    show (sp k r).countP (fun z => decide (z < x)) + inv (sp k r) = r.countP (fun z => decide (z < x)) + inv r + 1
    rw [(sp_perm k r).countP_eq, inv_sp_up k r a b ha hb h]
    omega
theorem sp_get0 {k : Nat} {o : List Nat} (h : k + 1 < o.length) : (sp k o)[k]? = o[k + 1]? := by rw [sp_get k o k h, sw_self]
theorem sp_get1 {k : Nat} {o : List Nat} (h : k + 1 < o.length) : (sp k o)[k + 1]? = o[k]? := by rw [sp_get k o (k + 1) h, sw_succ]
theorem inv_sp_down {k : Nat} {o : List Nat} {a b : Nat} (ha : o[k]? = some a) (hb : o[k + 1]? = some b) (h : b < a) : inv (sp k o) + 1 = inv o := by
  have hl : k + 1 < o.length := (List.getElem?_eq_some_iff.mp hb).1
  have e := inv_sp_up k (sp k o) b a ((sp_get0 hl).trans hb) ((sp_get1 hl).trans ha) h
  rw [sp_sp] at e
  exact e.symm
theorem inv_map (f : Nat → Nat) : ∀ (r : List Nat), (∀ y ∈ r, ∀ z ∈ r, (f y < f z ↔ y < z)) → inv (r.map f) = inv r
  | [], _ => rfl
  | x :: r, h => by
    show (r.map f).countP (fun z => decide (z < f x)) + inv (r.map f) = r.countP (fun z => decide (z < x)) + inv r
    rw [inv_map f r fun y hy z hz => h y (List.mem_cons_of_mem _ hy) z (List.mem_cons_of_mem _ hz), List.countP_map]
    congr 1
    refine List.countP_congr fun y hy => ?_
    show decide (f y < f x) = true ↔ decide (y < x) = true
    rw [decide_eq_true_iff, decide_eq_true_iff]
    exact h y (List.mem_cons_of_mem _ hy) x (List.mem_cons_self ..)
theorem count_more {k : Nat} : ∀ {r : List Nat}, r.Nodup → k ∉ r → k + 1 ∈ r → r.countP (fun y => decide (sw k y < k + 1)) = r.countP (fun y => decide (y < k)) + 1
  | [], _, _, h => by cases h
  | x :: r, nd, hk, h => by
    have hx : x ≠ k := fun e => hk (e ▸ List.mem_cons_self ..)
    have hkr : k ∉ r := fun e => hk (List.mem_cons_of_mem _ e)
    obtain ⟨n1, n2⟩ := List.nodup_cons.mp nd
    rw [List.countP_cons, List.countP_cons]
    by_cases e : x = k + 1
    · subst e
      have z : r.countP (fun y => decide (sw k y < k + 1)) = r.countP (fun y => decide (y < k)) := by
        refine List.countP_congr fun y hy => ?_
        have h1 : y ≠ k := fun e => hkr (e ▸ hy)
        have h2 : y ≠ k + 1 := fun e => n1 (e ▸ hy)
        rw [sw_ne h1 h2, decide_eq_true_iff, decide_eq_true_iff]
        omega
      rw [z, sw_succ, decide_eq_true (by omega : k < k + 1), decide_eq_false (by omega : ¬ k + 1 < k)]
      simp
    · have hm : k + 1 ∈ r := by
        rcases List.mem_cons.mp h with z | z
        · exact absurd z.symm e
        · exact z
      rw [count_more n2 hkr hm, sw_ne hx e]
      have : decide (x < k + 1) = decide (x < k) := by
        by_cases c : x < k
        · rw [decide_eq_true c, decide_eq_true (by omega)]
        · rw [decide_eq_false c, decide_eq_false (by omega)]
      rw [this]
      omega
theorem idx_cons {x v : Nat} {r : List Nat} (h : x ≠ v) : List.idxOf v (x :: r) = List.idxOf v r + 1 := by
  rw [List.idxOf_cons, show (x == v) = false from beq_eq_false_iff_ne.mpr h]
  rfl
theorem idx_here {x : Nat} {r : List Nat} : List.idxOf x (x :: r) = 0 := by
  rw [List.idxOf_cons, beq_self_eq_true]
  rfl
theorem inv_sv_up (k : Nat) : ∀ (o : List Nat), o.Nodup → k ∈ o → k + 1 ∈ o → o.idxOf k < o.idxOf (k + 1) → inv (sv k o) = inv o + 1
  | [], _, h, _, _ => by cases h
  | x :: r, nd, h0, h1, hi => by
    obtain ⟨n1, n2⟩ := List.nodup_cons.mp nd
    show (r.map (sw k)).countP (fun z => decide (z < sw k x)) + inv (sv k r) = r.countP (fun z => decide (z < x)) + inv r + 1
    rw [List.countP_map]
    by_cases e : x = k
    · subst e
      have hm : x + 1 ∈ r := by
        rcases List.mem_cons.mp h1 with z | z
        · omega
        · exact z
      have c : inv (sv x r) = inv r := inv_map _ r fun y hy z hz => by
        have hy' : y ≠ x := fun e => n1 (e ▸ hy)
        have hz' : z ≠ x := fun e => n1 (e ▸ hz)
        unfold sw
        split <;> split <;> (try split) <;> (try split) <;> omega
      have q := count_more n2 n1 hm
      rw [c, sw_self]
      show r.countP (fun y => decide (sw x y < x + 1)) + inv r = _
      rw [q]
      omega
    · by_cases e1 : x = k + 1
      · subst e1
        rw [idx_here] at hi
        omega
      · have m0 : k ∈ r := by
          rcases List.mem_cons.mp h0 with z | z
          · exact absurd z.symm e
          · exact z
        have m1 : k + 1 ∈ r := by
          rcases List.mem_cons.mp h1 with z | z
          · exact absurd z.symm e1
          · exact z
        rw [idx_cons e, idx_cons e1] at hi
        rw [inv_sv_up k r n2 m0 m1 (by omega), sw_ne e e1]
        have q : r.countP ((fun z => decide (z < x)) ∘ sw k) = r.countP (fun z => decide (z < x)) := by
          refine List.countP_congr fun y _ => ?_
          show decide (sw k y < x) = true ↔ decide (y < x) = true
          rw [decide_eq_true_iff, decide_eq_true_iff]
          unfold sw
          split <;> (try split) <;> omega
        rw [q]
        omega
theorem idx_map {f : Nat → Nat} (hf : ∀ x y, f x = f y → x = y) (v : Nat) : ∀ (o : List Nat), (o.map f).idxOf (f v) = o.idxOf v
  | [] => rfl
  | x :: r => by
    rw [List.map_cons]
    by_cases e : x = v
    · subst e
      rw [idx_here, idx_here]
    · rw [idx_cons e, idx_cons (fun z => e (hf _ _ z)), idx_map hf v r]
theorem idx_sv (k v : Nat) (o : List Nat) : (sv k o).idxOf (sw k v) = o.idxOf v := idx_map (fun _ _ => sw_inj) v o
theorem idx_sv0 (k : Nat) (o : List Nat) : (sv k o).idxOf k = o.idxOf (k + 1) := by
  have := idx_sv k (k + 1) o
  rwa [sw_succ] at this
theorem idx_sv1 (k : Nat) (o : List Nat) : (sv k o).idxOf (k + 1) = o.idxOf k := by
  have := idx_sv k k o
  rwa [sw_self] at this
theorem mem_sv {k v : Nat} {o : List Nat} : sw k v ∈ sv k o ↔ v ∈ o := by
  unfold sv
  rw [List.mem_map]
  exact ⟨fun ⟨y, hy, e⟩ => sw_inj e ▸ hy, fun h => ⟨v, h, rfl⟩⟩
theorem inv_sv_down {k : Nat} {o : List Nat} (nd : o.Nodup) (h0 : k ∈ o) (h1 : k + 1 ∈ o) (hi : o.idxOf (k + 1) < o.idxOf k) : inv (sv k o) + 1 = inv o := by
  have nd' : (sv k o).Nodup := by
    show (o.map (sw k)).Nodup
    rw [List.Nodup, List.pairwise_map]
    exact nd.imp fun hab e => hab (sw_inj e)
  have m0 : k ∈ sv k o := by
    have := (mem_sv (k := k) (v := k + 1) (o := o)).mpr h1
    rwa [sw_succ] at this
  have m1 : k + 1 ∈ sv k o := by
    have := (mem_sv (k := k) (v := k) (o := o)).mpr h0
    rwa [sw_self] at this
  have e := inv_sv_up k (sv k o) nd' m0 m1 (by rw [idx_sv0, idx_sv1]; exact hi)
  rw [sv_sv] at e
  exact e.symm
theorem idx_lt {v : Nat} {o : List Nat} (h : v ∈ o) : o.idxOf v < o.length := List.idxOf_lt_length_of_mem h
theorem idx_get {v : Nat} {o : List Nat} (h : v ∈ o) : o[o.idxOf v]? = some v := by
  rw [List.getElem?_eq_getElem (idx_lt h)]
  exact congrArg some (List.getElem_idxOf (idx_lt h))
theorem idx_inj {u v : Nat} {o : List Nat} (hu : u ∈ o) (hv : v ∈ o) (e : o.idxOf u = o.idxOf v) : u = v := by
  have h := idx_get hu
  rw [e, idx_get hv] at h
  exact (Option.some.inj h).symm
/-- the pass of the marks k, k + 1: one pair more, or one less -/
theorem inv_sv_or {o : List Nat} (h : Ord o) {k : Nat} (hk : k + 1 < o.length) : (o.idxOf k < o.idxOf (k + 1) ∧ inv (sv k o) = inv o + 1) ∨ (o.idxOf (k + 1) < o.idxOf k ∧ inv (sv k o) + 1 = inv o) := by
  have m0 : k ∈ o := h.has (by omega)
  have m1 : k + 1 ∈ o := h.has hk
  have ne : o.idxOf k ≠ o.idxOf (k + 1) := fun e => by
    have := idx_inj m0 m1 e
    omega
  by_cases c : o.idxOf k < o.idxOf (k + 1)
  · exact .inl ⟨c, inv_sv_up k o h.nd m0 m1 c⟩
  · exact .inr ⟨by omega, inv_sv_down h.nd m0 m1 (by omega)⟩
theorem inv_sp_or {o : List Nat} (h : Ord o) {k a b : Nat} (ha : o[k]? = some a) (hb : o[k + 1]? = some b) : (a < b ∧ inv (sp k o) = inv o + 1) ∨ (b < a ∧ inv (sp k o) + 1 = inv o) := by
  obtain ⟨l1, e1⟩ := List.getElem?_eq_some_iff.mp ha
  obtain ⟨l2, e2⟩ := List.getElem?_eq_some_iff.mp hb
  have ne : a ≠ b := fun e => by
    have := (List.getElem_inj h.nd).mp (e1.trans (e.trans e2.symm))
    omega
  by_cases c : a < b
  · exact .inl ⟨c, inv_sp_up k o a b ha hb c⟩
  · exact .inr ⟨by omega, inv_sp_down ha hb (by omega)⟩
theorem inv_sp_le {o : List Nat} (h : Ord o) {k : Nat} (hk : k + 1 < o.length) : inv (sp k o) ≤ inv o + 1 := by
  rcases inv_sp_or h (List.getElem?_eq_getElem (by omega)) (List.getElem?_eq_getElem hk) with ⟨_, e⟩ | ⟨_, e⟩ <;> omega
theorem mono_id {f : Nat → Nat} {n : Nat} (h : ∀ k, k + 1 < n → f k < f (k + 1)) (hb : ∀ k, k < n → f k < n) : ∀ k, k < n → f k = k := by
  have lo : ∀ k, k < n → k ≤ f k := by
    intro k
    induction k with
    | zero => intro _; omega
    | succ k ih =>
      intro hk
      have := ih (by omega)
      have := h k hk
      omega
  have hi : ∀ d k, k + d + 1 = n → f k + d < n := by
    intro d
    induction d with
    | zero => intro k hk; exact hb k (by omega)
    | succ d ih =>
      intro k hk
      have := ih (k + 1) (by omega)
      have := h k (by omega)
      omega
  intro k hk
  have := lo k hk
  have := hi (n - 1 - k) k (by omega)
  omega
theorem eq_range {o : List Nat} (h : ∀ k, k < o.length → o[k]? = some k) : o = List.range o.length := by
  apply List.ext_getElem?
  intro i
  by_cases c : i < o.length
  · rw [h i c, List.getElem?_range c]
  · rw [List.getElem?_eq_none (by omega), List.getElem?_eq_none (by rw [List.length_range]; omega)]
/-- no pair side by side stands contrary: all stand as at first -/
theorem id_of_places {o : List Nat} (h : Ord o) (hd : ∀ k a b, o[k]? = some a → o[k + 1]? = some b → a < b) : o = List.range o.length := by
  refine eq_range fun k hk => ?_
  have z := mono_id (f := fun k => o.getD k 0) (n := o.length) (fun k hk => by
    show o.getD k 0 < o.getD (k + 1) 0
    rw [List.getD_eq_getElem?_getD, List.getD_eq_getElem?_getD, List.getElem?_eq_getElem (by omega), List.getElem?_eq_getElem hk]
    exact hd k _ _ (List.getElem?_eq_getElem (by omega)) (List.getElem?_eq_getElem hk)) (fun k hk => by
    show o.getD k 0 < o.length
    rw [List.getD_eq_getElem?_getD, List.getElem?_eq_getElem hk]
    exact h.lt _ (List.getElem_mem hk)) k hk
  have z' : o.getD k 0 = k := z
  rw [List.getD_eq_getElem?_getD, List.getElem?_eq_getElem hk] at z'
  rw [List.getElem?_eq_getElem hk]
  exact congrArg some z'
theorem id_of_marks {o : List Nat} (h : Ord o) (hd : ∀ k, k + 1 < o.length → o.idxOf k < o.idxOf (k + 1)) : o = List.range o.length := by
  refine eq_range fun k hk => ?_
  have z := mono_id (f := fun k => o.idxOf k) (n := o.length) hd (fun k hk => idx_lt (h.has hk)) k hk
  have := idx_get (h.has hk)
  rw [show o.idxOf k = k from z] at this
  exact this
theorem inv_range (n : Nat) : inv (List.range n) = 0 := by
  have key : ∀ (m s : Nat), inv (List.range' s m) = 0 := by
    intro m
    induction m with
    | zero => intro s; rfl
    | succ m ih =>
      intro s
      show (List.range' (s + 1) m).countP (fun y => decide (y < s)) + inv (List.range' (s + 1) m) = 0
      rw [ih, List.countP_eq_zero.mpr]
      intro y hy
      have := List.mem_range'.mp hy
      simp
      omega
  rw [List.range_eq_range']
  exact key n 0
/-! ### words -/
/-- the places where a short word can begin -/
def firsts (o : List Nat) : List Nat := (List.range (o.length - 1)).filter fun k => decide (o.idxOf (k + 1) < o.idxOf k)
theorem mem_firsts {o : List Nat} {k : Nat} : k ∈ firsts o ↔ k + 1 < o.length ∧ o.idxOf (k + 1) < o.idxOf k := by
  unfold firsts
  rw [List.mem_filter, List.mem_range, decide_eq_true_iff]
  constructor <;> rintro ⟨h1, h2⟩ <;> exact ⟨by omega, h2⟩
theorem firsts_up (o : List Nat) : (firsts o).Pairwise (· < ·) := List.Pairwise.filter _ List.pairwise_lt_range
theorem firsts_down {o : List Nat} (h : Ord o) {k : Nat} (hk : k ∈ firsts o) : Ord (sv k o) ∧ inv (sv k o) + 1 = inv o := by
  obtain ⟨h1, h2⟩ := mem_firsts.mp hk
  refine ⟨h.sv h1, ?_⟩
  rcases inv_sv_or h h1 with ⟨z, _⟩ | ⟨_, z⟩
  · omega
  · exact z
theorem firsts_nil {o : List Nat} (h : Ord o) (e : firsts o = []) : o = List.range o.length := by
  refine id_of_marks h fun k hk => ?_
  rcases inv_sv_or h hk with ⟨z, _⟩ | ⟨z, _⟩
  · exact z
  · have := mem_firsts.mpr ⟨hk, z⟩
    rw [e] at this
    cases this
theorem idx_range {n k : Nat} (h : k < n) : (List.range n).idxOf k = k := by
  have hm : k ∈ List.range n := List.mem_range.mpr h
  have e := idx_get hm
  have hl := idx_lt hm
  rw [List.length_range] at hl
  rw [List.getElem?_range hl] at e
  exact Option.some.inj e
theorem firsts_range (n : Nat) : firsts (List.range n) = [] := by
  refine List.eq_nil_iff_forall_not_mem.mpr fun k hk => ?_
  obtain ⟨h1, h2⟩ := mem_firsts.mp hk
  rw [List.length_range] at h1
  rw [idx_range h1, idx_range (by omega)] at h2
  omega
theorem firsts_nil_iff {o : List Nat} (h : Ord o) : firsts o = [] ↔ o = List.range o.length := ⟨firsts_nil h, fun e => by rw [e]; exact firsts_range _⟩
/-- a short word of an order, from its beginning -/
inductive LP : List Nat → List Nat → Prop
  | nil {o : List Nat} : firsts o = [] → LP o []
  | cons {o : List Nat} {k : Nat} {w : List Nat} : k ∈ firsts o → LP (sv k o) w → LP o (k :: w)
/-- what a word makes of an order, by places -/
def run (o w : List Nat) : List Nat := w.foldl (fun o k => sp k o) o
theorem run_cons (o : List Nat) (k : Nat) (w : List Nat) : run o (k :: w) = run (sp k o) w := rfl
theorem run_append (o u v : List Nat) : run o (u ++ v) = run (run o u) v := List.foldl_append
theorem run_sv (k : Nat) : ∀ (w o : List Nat), run (sv k o) w = sv k (run o w)
  | [], _ => rfl
  | j :: w, o => by
    rw [run_cons, run_cons, sp_sv, run_sv k w]
theorem run_len : ∀ (w o : List Nat), (run o w).length = o.length
  | [], _ => rfl
  | j :: w, o => by rw [run_cons, run_len w, sp_len]
theorem run_ord : ∀ (w : List Nat) {o : List Nat}, Ord o → Ord (run o w)
  | [], _, h => h
  | j :: w, _, h => run_ord w (h.sp j)
theorem sp_range {n k : Nat} (hk : k + 1 < n) : sp k (List.range n) = sv k (List.range n) := by
  apply List.ext_getElem?
  intro i
  rw [sp_get k _ i (by rw [List.length_range]; exact hk)]
  unfold sv
  rw [List.getElem?_map]
  by_cases c : i < n
  · rw [List.getElem?_range c, List.getElem?_range (sw_lt hk c)]
    rfl
  · have e : sw k i = i := sw_ne (by omega) (by omega)
    rw [e, List.getElem?_eq_none (by rw [List.length_range]; omega)]
    rfl
/-- the first pass is by marks what it is by places -/
theorem run_first {n k : Nat} (hk : k + 1 < n) (w : List Nat) : run (List.range n) (k :: w) = sv k (run (List.range n) w) := by
  rw [run_cons, sp_range hk, run_sv]
theorem inv_run_le : ∀ (w : List Nat) {o : List Nat}, Ord o → (∀ k ∈ w, k + 1 < o.length) → inv (run o w) ≤ inv o + w.length
  | [], _, _, _ => Nat.le_refl _
  | k :: w, o, h, hw => by
    have h1 := inv_sp_le h (hw k (List.mem_cons_self ..))
    have h2 := inv_run_le w (h.sp k) fun j hj => by
      rw [sp_len]
      exact hw j (List.mem_cons_of_mem _ hj)
    rw [run_cons, List.length_cons]
    omega
theorem LP.places : ∀ {w o : List Nat}, LP o w → ∀ k ∈ w, k + 1 < o.length
  | [], _, _, k, h => by cases h
  | j :: w, o, .cons hj hw, k, h => by
    rcases List.mem_cons.mp h with e | e
    · rw [e]
      exact (mem_firsts.mp hj).1
    · have := hw.places k e
      rwa [sv_len] at this
theorem LP.made : ∀ {w o : List Nat}, Ord o → LP o w → run (List.range o.length) w = o ∧ w.length = inv o
  | [], o, h, .nil e => by
    have z := firsts_nil h e
    refine ⟨z.symm, ?_⟩
    rw [z, inv_range]
    rfl
  | k :: w, o, h, .cons hk hw => by
    obtain ⟨h', e⟩ := firsts_down h hk
    obtain ⟨e1, e2⟩ := LP.made h' hw
    rw [sv_len] at e1
    refine ⟨?_, ?_⟩
    · rw [run_first (mem_firsts.mp hk).1, e1, sv_sv]
    · rw [List.length_cons, e2, e]
theorem LP.of_made : ∀ {w o : List Nat}, Ord o → (∀ k ∈ w, k + 1 < o.length) → run (List.range o.length) w = o → w.length = inv o → LP o w
  | [], o, h, _, e, _ => .nil (by
    have e' : List.range o.length = o := e
    rw [← e']
    exact firsts_range _)
  | k :: w, o, h, hw, e, hl => by
    have hk := hw k (List.mem_cons_self ..)
    have hw' : ∀ j ∈ w, j + 1 < o.length := fun j hj => hw j (List.mem_cons_of_mem _ hj)
    rw [run_first hk] at e
    have e' : run (List.range o.length) w = sv k o := by rw [← e, sv_sv, e]
    have le := inv_run_le w (range_ord o.length) (by rw [List.length_range]; exact hw')
    rw [e', inv_range] at le
    rw [List.length_cons] at hl
    rcases inv_sv_or h hk with ⟨_, z⟩ | ⟨z, z2⟩
    · omega
    · exact .cons (mem_firsts.mpr ⟨hk, z⟩) (.of_made (h.sv hk) (by rw [sv_len]; exact hw') (by rw [sv_len]; exact e') (by omega))
/-- a word's passes from its end: each leads two who stand contrary back -/
inductive RP : List Nat → List Nat → Prop
  | nil {o : List Nat} : (∀ k a b, o[k]? = some a → o[k + 1]? = some b → a < b) → RP o []
  | cons {o : List Nat} {k a b : Nat} {w : List Nat} : o[k]? = some a → o[k + 1]? = some b → b < a → RP (sp k o) w → RP o (k :: w)
theorem RP.made : ∀ {w o : List Nat}, Ord o → RP o w → (∀ k ∈ w, k + 1 < o.length) ∧ run (List.range o.length) w.reverse = o ∧ w.length = inv o
  | [], o, h, .nil hd => by
    have z := id_of_places h hd
    refine ⟨fun k hk => (by cases hk), z.symm, ?_⟩
    rw [z, inv_range]
    rfl
  | k :: w, o, h, .cons ha hb hl hw => by
    obtain ⟨e0, e1, e2⟩ := RP.made (h.sp k) hw
    have hk : k + 1 < o.length := (List.getElem?_eq_some_iff.mp hb).1
    rw [sp_len] at e0 e1
    refine ⟨fun j hj => ?_, ?_, ?_⟩
    · rcases List.mem_cons.mp hj with z | z
      · rw [z]
        exact hk
      · exact e0 j z
    · rw [List.reverse_cons, run_append, e1]
      show sp k (sp k o) = o
      exact sp_sp k o
    · rw [List.length_cons, e2, inv_sp_down ha hb hl]
theorem RP.lp {w o : List Nat} (h : Ord o) (r : RP o w) : LP o w.reverse := by
  obtain ⟨e0, e1, e2⟩ := r.made h
  refine .of_made h (fun k hk => e0 k (List.mem_reverse.mp hk)) e1 ?_
  rw [List.length_reverse, e2]
/-! ### how many short words, and their numbers -/
def cnt : Nat → List Nat → Nat
  | 0, _ => 1
  | f + 1, o => if firsts o = [] then 1 else ((firsts o).map fun k => cnt f (sv k o)).sum
def many (o : List Nat) : Nat := cnt (inv o) o
/-- together, of some places -/
def manyAt (o : List Nat) (ks : List Nat) : Nat := (ks.map fun k => many (sv k o)).sum
theorem manyAt_nil (o : List Nat) : manyAt o [] = 0 := rfl
theorem manyAt_cons (o : List Nat) (k : Nat) (ks : List Nat) : manyAt o (k :: ks) = many (sv k o) + manyAt o ks := by
  unfold manyAt
  rw [List.map_cons, List.sum_cons]
theorem manyAt_append (o : List Nat) (ks js : List Nat) : manyAt o (ks ++ js) = manyAt o ks + manyAt o js := by
  unfold manyAt
  rw [List.map_append, List.sum_append]
theorem many_one {o : List Nat} (e : firsts o = []) : many o = 1 := by
  unfold many
  cases inv o with
  | zero => rfl
  | succ f =>
    show (if firsts o = [] then 1 else _) = 1
    rw [if_pos e]
theorem many_sum {o : List Nat} (h : Ord o) (e : firsts o ≠ []) : many o = manyAt o (firsts o) := by
  obtain ⟨k, hk⟩ := List.exists_mem_of_ne_nil _ e
  have z := (firsts_down h hk).2
  unfold many manyAt
  rw [← z]
  show (if firsts o = [] then 1 else _) = _
  rw [if_neg e]
  congr 1
  refine List.map_congr_left fun j hj => ?_
  have q := (firsts_down h hj).2
  unfold many
  rw [show inv (sv k o) = inv (sv j o) by omega]
theorem many_pos : ∀ (d : Nat) {o : List Nat}, Ord o → inv o = d → 0 < many o
  | d, o, h, hd => by
    by_cases e : firsts o = []
    · rw [many_one e]
      omega
    · obtain ⟨k, hk⟩ := List.exists_mem_of_ne_nil _ e
      obtain ⟨h', z⟩ := firsts_down h hk
      have ih := many_pos (d - 1) h' (by omega)
      rw [many_sum h e]
      obtain ⟨a, b, eq⟩ := List.append_of_mem hk
      rw [eq, manyAt_append, manyAt_cons]
      omega
  termination_by d => d
  decreasing_by omega
theorem many_le {L : Nat} (hL : 1 ≤ L) : ∀ (f : Nat) (o : List Nat), o.length ≤ L → cnt f o ≤ L ^ f
  | 0, _, _ => Nat.le_refl _
  | f + 1, o, hl => by
    show (if firsts o = [] then 1 else ((firsts o).map fun k => cnt f (sv k o)).sum) ≤ L ^ (f + 1)
    split
    · exact Nat.one_le_pow _ _ hL
    · have key : ∀ ks : List Nat, (ks.map fun k => cnt f (sv k o)).sum ≤ ks.length * L ^ f := by
        intro ks
        induction ks with
        | nil => simp
        | cons k ks ih =>
          rw [List.map_cons, List.sum_cons, List.length_cons, Nat.succ_mul]
          have := many_le hL f (sv k o) (by rw [sv_len]; exact hl)
          omega
      have hf : (firsts o).length ≤ L := by
        have := List.length_filter_le (fun k => decide (o.idxOf (k + 1) < o.idxOf k)) (List.range (o.length - 1))
        rw [List.length_range] at this
        have e : (firsts o).length ≤ o.length - 1 := this
        omega
      calc _ ≤ (firsts o).length * L ^ f := key _
        _ ≤ L * L ^ f := Nat.mul_le_mul_right _ hf
        _ = L ^ (f + 1) := by rw [Nat.pow_succ, Nat.mul_comm]
theorem inv_le : ∀ (o : List Nat), inv o ≤ o.length * o.length
  | [] => Nat.le_refl _
  | x :: r => by
    have h1 := inv_le r
    have h2 : r.countP (fun y => decide (y < x)) ≤ r.length := List.countP_le_length
    show r.countP (fun y => decide (y < x)) + inv r ≤ (r.length + 1) * (r.length + 1)
    rw [Nat.succ_mul, Nat.mul_succ]
    omega
theorem many_small {o : List Nat} (h : o.length ≤ 7) : many o < 2 ^ 200 := by
  have h1 := many_le (L := 7) (by decide) (inv o) o h
  have h2 := inv_le o
  have h3 : o.length * o.length ≤ 7 * 7 := Nat.mul_le_mul h h
  have h4 : 7 ^ inv o ≤ 7 ^ 49 := Nat.pow_le_pow_right (by decide) (by omega)
  have h5 : (7 : Nat) ^ 49 < 2 ^ 200 := by decide
  unfold many
  omega
/-- those below k -/
def below (k : Nat) (ks : List Nat) : List Nat := ks.filter fun j => decide (j < k)
theorem below_split {a b : List Nat} {k : Nat} (h : (a ++ k :: b).Pairwise (· < ·)) : below k (a ++ k :: b) = a := by
  rw [List.pairwise_append] at h
  obtain ⟨_, hb, hab⟩ := h
  unfold below
  rw [List.filter_append, List.filter_cons, if_neg (by simp)]
  rw [List.filter_eq_self.mpr fun x hx => decide_eq_true (hab x hx k (List.mem_cons_self ..)), List.filter_eq_nil_iff.mpr fun x hx => by
    have := (List.pairwise_cons.mp hb).1 x hx
    simp
    omega, List.append_nil]
/-- the number of a short word -/
def sNum : List Nat → List Nat → Nat
  | _, [] => 0
  | o, k :: w => manyAt o (below k (firsts o)) + sNum (sv k o) w
theorem firsts_split {o : List Nat} {k : Nat} (hk : k ∈ firsts o) : ∃ a b, firsts o = a ++ k :: b ∧ below k (firsts o) = a := by
  obtain ⟨a, b, e⟩ := List.append_of_mem hk
  refine ⟨a, b, e, ?_⟩
  have := firsts_up o
  rw [e] at this
  rw [e]
  exact below_split this
theorem before_le {o : List Nat} (h : Ord o) {k : Nat} (hk : k ∈ firsts o) : manyAt o (below k (firsts o)) + many (sv k o) ≤ many o := by
  obtain ⟨a, b, e, e2⟩ := firsts_split hk
  rw [many_sum h (fun z => by rw [z] at hk; cases hk), e2, e, manyAt_append, manyAt_cons]
  omega
theorem sNum_lt : ∀ {w o : List Nat}, Ord o → LP o w → sNum o w < many o
  | [], o, _, .nil e => by
    rw [many_one e]
    show 0 < 1
    omega
  | k :: w, o, h, .cons hk hw => by
    have h1 := sNum_lt (firsts_down h hk).1 hw
    have h2 := before_le h hk
    show manyAt o (below k (firsts o)) + sNum (sv k o) w < many o
    omega
theorem below_le {o : List Nat} {k j : Nat} (hk : k ∈ firsts o) (hj : j ∈ firsts o) (h : k < j) : manyAt o (below k (firsts o)) + many (sv k o) ≤ manyAt o (below j (firsts o)) := by
  obtain ⟨a, b, e, e2⟩ := firsts_split hk
  obtain ⟨c, d, e3, e4⟩ := firsts_split hj
  have up := firsts_up o
  rw [e2, e4]
  -- k stands in c
  have hkc : k ∈ c := by
    rw [← e4]
    exact List.mem_filter.mpr ⟨hk, decide_eq_true h⟩
  obtain ⟨p, q, ec⟩ := List.append_of_mem hkc
  have e5 : firsts o = p ++ k :: (q ++ j :: d) := by rw [e3, ec]; simp
  have e6 : below k (firsts o) = p := by
    rw [e5] at up ⊢
    exact below_split up
  have e7 : a = p := e2.symm.trans e6
  rw [ec, e7, manyAt_append, manyAt_cons]
  omega
/-- lesser numbers are of lesser words -/
def lexL : List Nat → List Nat → Prop
  | [], [] => False
  | [], _ :: _ => True
  | _ :: _, [] => False
  | x :: xs, y :: ys => x < y ∨ (x = y ∧ lexL xs ys)
theorem sNum_rises : ∀ {u v o : List Nat}, Ord o → LP o u → LP o v → sNum o u < sNum o v → lexL u v
  | [], [], _, _, _, _, h => absurd h (Nat.lt_irrefl _)
  | [], _ :: _, _, _, .nil e, .cons hk _, _ => by
    rw [e] at hk
    cases hk
  | _ :: _, [], _, _, .cons hk _, .nil e, _ => by
    rw [e] at hk
    cases hk
  | k :: u, j :: v, o, h, .cons hk hu, .cons hj hv, hlt => by
    have hlt' : manyAt o (below k (firsts o)) + sNum (sv k o) u < manyAt o (below j (firsts o)) + sNum (sv j o) v := hlt
    show k < j ∨ (k = j ∧ lexL u v)
    by_cases c : k < j
    · exact .inl c
    · by_cases c2 : k = j
      · subst c2
        exact .inr ⟨rfl, sNum_rises (firsts_down h hk).1 hu hv (by omega)⟩
      · have h1 := below_le hj hk (by omega)
        have h2 := sNum_lt (firsts_down h hj).1 hv
        omega
theorem sNum_inj : ∀ {u v o : List Nat}, Ord o → LP o u → LP o v → sNum o u = sNum o v → u = v
  | [], [], _, _, _, _, _ => rfl
  | [], _ :: _, _, _, .nil e, .cons hk _, _ => by
    rw [e] at hk
    cases hk
  | _ :: _, [], _, _, .cons hk _, .nil e, _ => by
    rw [e] at hk
    cases hk
  | k :: u, j :: v, o, h, .cons hk hu, .cons hj hv, he => by
    have he' : manyAt o (below k (firsts o)) + sNum (sv k o) u = manyAt o (below j (firsts o)) + sNum (sv j o) v := he
    have hu' := sNum_lt (firsts_down h hk).1 hu
    have hv' := sNum_lt (firsts_down h hj).1 hv
    have e : k = j := by
      rcases Nat.lt_trichotomy k j with c | c | c
      · have := below_le hk hj c
        omega
      · exact c
      · have := below_le hj hk c
        omega
    subst e
    rw [sNum_inj (firsts_down h hk).1 hu hv (by omega)]
/-! ### sums over places -/
def sumTo (m : Nat) (g : Nat → Nat) : Nat := ((List.range m).map g).sum
theorem sumTo_zero (g : Nat → Nat) : sumTo 0 g = 0 := rfl
theorem sumTo_succ (m : Nat) (g : Nat → Nat) : sumTo (m + 1) g = sumTo m g + g m := by
  unfold sumTo
  rw [List.range_succ, List.map_append, List.sum_append]
  simp
theorem sumTo_front (m : Nat) (g : Nat → Nat) : sumTo (m + 1) g = g 0 + sumTo m fun k => g (k + 1) := by
  induction m with
  | zero => rw [sumTo_succ, sumTo_zero, sumTo_zero]; omega
  | succ m ih => rw [sumTo_succ, ih, sumTo_succ]; omega
theorem sumTo_congr {m : Nat} {f g : Nat → Nat} (h : ∀ k, k < m → f k = g k) : sumTo m f = sumTo m g := by
  unfold sumTo
  congr 1
  exact List.map_congr_left fun k hk => h k (List.mem_range.mp hk)
theorem sumTo_add (m : Nat) (f g : Nat → Nat) : sumTo m (fun k => f k + g k) = sumTo m f + sumTo m g := by
  induction m with
  | zero => rfl
  | succ m ih => rw [sumTo_succ, sumTo_succ, sumTo_succ, ih]; omega
theorem sumTo_none (m : Nat) : sumTo m (fun _ => 0) = 0 := by
  induction m with
  | zero => rfl
  | succ m ih => rw [sumTo_succ, ih]
theorem sumTo_swap (m n : Nat) (f : Nat → Nat → Nat) : sumTo m (fun k => sumTo n fun j => f k j) = sumTo n fun j => sumTo m fun k => f k j := by
  induction m with
  | zero => rw [sumTo_zero]; exact (sumTo_none n).symm
  | succ m ih =>
    rw [sumTo_succ, ih, ← sumTo_add]
    exact sumTo_congr fun j _ => (sumTo_succ m fun k => f k j).symm
theorem sumTo_flip : ∀ (m : Nat) (g : Nat → Nat), sumTo m (fun k => g (m - 1 - k)) = sumTo m g
  | 0, _ => rfl
  | m + 1, g => by
    rw [sumTo_front, sumTo_succ, ← sumTo_flip m g]
    have e : sumTo m (fun k => g (m + 1 - 1 - (k + 1))) = sumTo m (fun k => g (m - 1 - k)) := sumTo_congr fun k hk => by
      congr 1
      omega
    rw [e, show m + 1 - 1 - 0 = m by omega]
    omega
theorem sum_filter (p : Nat → Bool) (f : Nat → Nat) : ∀ l : List Nat, ((l.filter p).map f).sum = (l.map fun k => if p k = true then f k else 0).sum
  | [] => rfl
  | x :: l => by
    rw [List.filter_cons, List.map_cons, List.sum_cons, ← sum_filter p f l]
    by_cases h : p x = true
    · rw [if_pos h, if_pos h, List.map_cons, List.sum_cons]
    · rw [if_neg h, if_neg h]
      omega
theorem many_to {o : List Nat} (h : Ord o) (e : 0 < inv o) : many o = sumTo (o.length - 1) fun k => if decide (o.idxOf (k + 1) < o.idxOf k) = true then many (sv k o) else 0 := by
  have ne : firsts o ≠ [] := fun z => by
    have := firsts_nil h z
    rw [this, inv_range] at e
    omega
  rw [many_sum h ne]
  exact sum_filter _ _ _

/-! ### the order that undoes one -/
def und (o : List Nat) : List Nat := (List.range o.length).map fun r => o.idxOf r
theorem und_len (o : List Nat) : (und o).length = o.length := by unfold und; rw [List.length_map, List.length_range]
theorem und_get {o : List Nat} {r : Nat} (h : r < o.length) : (und o)[r]? = some (o.idxOf r) := by
  unfold und
  rw [List.getElem?_map, List.getElem?_range h]
  rfl
theorem idx_of_get {o : List Nat} (nd : o.Nodup) {i v : Nat} (h : o[i]? = some v) : o.idxOf v = i := by
  obtain ⟨hi, e⟩ := List.getElem?_eq_some_iff.mp h
  have hm : v ∈ o := e ▸ List.getElem_mem hi
  have q := idx_get hm
  obtain ⟨hj, e2⟩ := List.getElem?_eq_some_iff.mp q
  exact (List.getElem_inj nd).mp (e2.trans e.symm)
theorem und_ord {o : List Nat} (h : Ord o) : Ord (und o) := by
  refine ⟨?_, fun x hx => ?_⟩
  · unfold und
    rw [List.Nodup, List.pairwise_map]
    exact (List.pairwise_lt_range).imp_of_mem fun {a b} ha hb hab e => by
      have := idx_inj (h.has (List.mem_range.mp ha)) (h.has (List.mem_range.mp hb)) e
      omega
  · rw [und_len]
    obtain ⟨r, hr, rfl⟩ := List.mem_map.mp hx
    exact idx_lt (h.has (List.mem_range.mp hr))
theorem und_idx {o : List Nat} (h : Ord o) {p r : Nat} (e : o[p]? = some r) : (und o).idxOf p = r := by
  have hp := (List.getElem?_eq_some_iff.mp e).1
  have hr : r < o.length := h.lt r ((List.getElem?_eq_some_iff.mp e).2 ▸ List.getElem_mem hp)
  refine idx_of_get (und_ord h).nd ?_
  rw [und_get hr, idx_of_get h.nd e]
theorem idx_sp {o : List Nat} (h : Ord o) {k r : Nat} (hk : k + 1 < o.length) (hr : r < o.length) : (sp k o).idxOf r = sw k (o.idxOf r) := by
  refine idx_of_get (h.sp k).nd ?_
  rw [sp_get k o _ hk, sw_sw]
  exact idx_get (h.has hr)
theorem und_sp {o : List Nat} (h : Ord o) {k : Nat} (hk : k + 1 < o.length) : und (sp k o) = sv k (und o) := by
  unfold und sv
  rw [List.map_map, sp_len]
  exact List.map_congr_left fun r hr => idx_sp h hk (List.mem_range.mp hr)
theorem und_range (n : Nat) : und (List.range n) = List.range n := by
  have e := eq_range (o := und (List.range n)) fun k hk => by
    rw [und_len, List.length_range] at hk
    rw [und_get (by rw [List.length_range]; exact hk), idx_range hk]
  rw [e, und_len, List.length_range]
/-- those who stand contrary side by side -/
def dr (o : List Nat) (j : Nat) : Bool := decide (o.getD (j + 1) 0 < o.getD j 0)
def dl (o : List Nat) (k : Nat) : Bool := decide (o.idxOf (k + 1) < o.idxOf k)
theorem getD_of {o : List Nat} {i v : Nat} (h : o[i]? = some v) : o.getD i 0 = v := by rw [List.getD_eq_getElem?_getD, h]; rfl
theorem dl_iff {o : List Nat} (h : Ord o) {k : Nat} (hk : k + 1 < o.length) : dl o k = true ↔ inv (sv k o) + 1 = inv o := by
  unfold dl
  rw [decide_eq_true_iff]
  rcases inv_sv_or h hk with ⟨a, b⟩ | ⟨a, b⟩ <;> constructor <;> intro <;> omega
theorem dr_iff {o : List Nat} (h : Ord o) {k : Nat} (hk : k + 1 < o.length) : dr o k = true ↔ inv (sp k o) + 1 = inv o := by
  unfold dr
  rw [decide_eq_true_iff]
  have h0 : o[k]? = some o[k] := List.getElem?_eq_getElem (by omega)
  have h1 : o[k + 1]? = some o[k + 1] := List.getElem?_eq_getElem hk
  rw [getD_of h0, getD_of h1]
  rcases inv_sp_or h h0 h1 with ⟨a, b⟩ | ⟨a, b⟩ <;> constructor <;> intro <;> omega
theorem inv_sv_two {o : List Nat} (h : Ord o) {k : Nat} (hk : k + 1 < o.length) : inv (sv k o) = inv o + 1 ∨ inv (sv k o) + 1 = inv o := by
  rcases inv_sv_or h hk with ⟨_, b⟩ | ⟨_, b⟩
  · exact .inl b
  · exact .inr b
theorem inv_sp_two {o : List Nat} (h : Ord o) {k : Nat} (hk : k + 1 < o.length) : inv (sp k o) = inv o + 1 ∨ inv (sp k o) + 1 = inv o := by
  rcases inv_sp_or h (List.getElem?_eq_getElem (by omega)) (List.getElem?_eq_getElem hk) with ⟨_, b⟩ | ⟨_, b⟩
  · exact .inl b
  · exact .inr b
theorem both_iff {o : List Nat} (h : Ord o) {k j : Nat} (hk : k + 1 < o.length) (hj : j + 1 < o.length) : (dl o k = true ∧ dr (sv k o) j = true) ↔ (dr o j = true ∧ dl (sp j o) k = true) := by
  have hsv := h.sv hk
  have hsp := h.sp j
  have lv : j + 1 < (sv k o).length := by rw [sv_len]; exact hj
  have lp : k + 1 < (sp j o).length := by rw [sp_len]; exact hk
  have e1 := dl_iff h hk
  have e2 := dr_iff hsv lv
  have e3 := dr_iff h hj
  have e4 := dl_iff hsp lp
  have z := sp_sv j k o
  have t1 := inv_sv_two h hk
  have t2 := inv_sp_two hsv lv
  have t3 := inv_sp_two h hj
  have t4 := inv_sv_two hsp lp
  rw [e1, e2, e3, e4]
  rw [z] at t2 ⊢
  omega
theorem und_to {o : List Nat} (h : Ord o) (e : 0 < inv o) : many (und o) = sumTo (o.length - 1) fun j => if dr o j = true then many (und (sp j o)) else 0 := by
  have hu := und_ord h
  have key : ∀ j, j + 1 < o.length → decide ((und o).idxOf (j + 1) < (und o).idxOf j) = dr o j := fun j hj => by
    have h0 : o[j]? = some o[j] := List.getElem?_eq_getElem (by omega)
    have h1 : o[j + 1]? = some o[j + 1] := List.getElem?_eq_getElem hj
    unfold dr
    rw [und_idx h h0, und_idx h h1, getD_of h0, getD_of h1]
  have eu : 0 < inv (und o) := by
    cases c : inv (und o) with
    | succ n => omega
    | zero =>
      have fe : firsts (und o) = [] := List.eq_nil_iff_forall_not_mem.mpr fun k hk => by
        have := (firsts_down hu hk).2
        omega
      have z : o = List.range o.length := id_of_places h fun k a b ha hb => by
        have hk : k + 1 < o.length := (List.getElem?_eq_some_iff.mp hb).1
        have nm : k ∉ firsts (und o) := by rw [fe]; exact List.not_mem_nil
        have nd : dr o k = false := by
          cases c2 : dr o k with
          | false => rfl
          | true =>
            refine absurd (mem_firsts.mpr ⟨by rw [und_len]; exact hk, ?_⟩) nm
            have := key k hk
            rw [c2] at this
            exact of_decide_eq_true this
        unfold dr at nd
        rw [getD_of ha, getD_of hb] at nd
        have nd' := of_decide_eq_false nd
        have ne : a ≠ b := fun e => by
          obtain ⟨l1, e1⟩ := List.getElem?_eq_some_iff.mp ha
          obtain ⟨l2, e2⟩ := List.getElem?_eq_some_iff.mp hb
          have := (List.getElem_inj h.nd).mp (e1.trans (e.trans e2.symm))
          omega
        omega
      rw [z, inv_range] at e
      omega
  rw [many_to hu eu, und_len]
  refine sumTo_congr fun j hj => ?_
  rw [key j (by omega), und_sp h (by omega)]
theorem many_und : ∀ (d : Nat) {o : List Nat}, Ord o → inv o = d → many (und o) = many o
  | d, o, h, hd => by
    rcases Nat.eq_zero_or_pos d with c | c
    · have fe : firsts o = [] := List.eq_nil_iff_forall_not_mem.mpr fun k hk => by
        have := (firsts_down h hk).2
        omega
      rw [firsts_nil h fe, und_range]
    · rcases Nat.lt_or_ge 1 d with c2 | c2
      · rw [many_to h (by omega), und_to h (by omega)]
        have a1 : (sumTo (o.length - 1) fun k => if decide (o.idxOf (k + 1) < o.idxOf k) = true then many (sv k o) else 0) =
            sumTo (o.length - 1) fun k => sumTo (o.length - 1) fun j => if dl o k = true ∧ dr (sv k o) j = true then many (und (sp j (sv k o))) else 0 := sumTo_congr fun k hk => by
          show (if dl o k = true then many (sv k o) else 0) = _
          by_cases q : dl o k = true
          · have hv := h.sv (k := k) (by omega)
            have z := (dl_iff h (by omega)).mp q
            rw [if_pos q, ← many_und (d - 1) hv (by omega), und_to hv (by omega), sv_len]
            exact sumTo_congr fun j _ => by
              by_cases q2 : dr (sv k o) j = true
              · rw [if_pos q2, if_pos ⟨q, q2⟩]
              · rw [if_neg q2, if_neg fun z => q2 z.2]
          · rw [if_neg q]
            have : ∀ j, (if dl o k = true ∧ dr (sv k o) j = true then many (und (sp j (sv k o))) else 0) = 0 := fun j => if_neg fun z => q z.1
            rw [sumTo_congr (g := fun _ => 0) fun j _ => this j, sumTo_none]
        have a2 : (sumTo (o.length - 1) fun j => if dr o j = true then many (und (sp j o)) else 0) =
            sumTo (o.length - 1) fun j => sumTo (o.length - 1) fun k => if dr o j = true ∧ dl (sp j o) k = true then many (sv k (sp j o)) else 0 := sumTo_congr fun j hj => by
          by_cases q : dr o j = true
          · have hp := h.sp j
            have z := (dr_iff h (by omega)).mp q
            rw [if_pos q, many_und (d - 1) hp (by omega), many_to hp (by omega), sp_len]
            exact sumTo_congr fun k _ => by
              show (if dl (sp j o) k = true then _ else 0) = _
              by_cases q2 : dl (sp j o) k = true
              · rw [if_pos q2, if_pos ⟨q, q2⟩]
              · rw [if_neg q2, if_neg fun z => q2 z.2]
          · rw [if_neg q]
            have : ∀ k, (if dr o j = true ∧ dl (sp j o) k = true then many (sv k (sp j o)) else 0) = 0 := fun k => if_neg fun z => q z.1
            rw [sumTo_congr (g := fun _ => 0) fun k _ => this k, sumTo_none]
        rw [a1, a2, sumTo_swap]
        refine sumTo_congr fun k hk => sumTo_congr fun j hj => ?_
        have bi := both_iff h (k := k) (j := j) (by omega) (by omega)
        by_cases q : dr o j = true ∧ dl (sp j o) k = true
        · have q' := bi.mpr q
          rw [if_pos q, if_pos q', sp_sv]
          have z1 := (dl_iff h (by omega)).mp q'.1
          have hv := h.sv (k := k) (by omega)
          have z2 := (dr_iff hv (by rw [sv_len]; omega)).mp q'.2
          rw [sp_sv] at z2
          have ho : Ord (sv k (sp j o)) := (h.sp j).sv (by rw [sp_len]; omega)
          exact (many_und (d - 2) ho (by omega)).symm
        · rw [if_neg q, if_neg fun z => q (bi.mp z)]
      · have ne : firsts o ≠ [] := fun z => by
          have := firsts_nil h z
          rw [this, inv_range] at hd
          omega
        obtain ⟨k, hk⟩ := List.exists_mem_of_ne_nil _ ne
        obtain ⟨h', z⟩ := firsts_down h hk
        have hk1 := (mem_firsts.mp hk).1
        have e0 : sv k o = List.range o.length := by
          have := firsts_nil h' (List.eq_nil_iff_forall_not_mem.mpr fun j hj => by
            have := (firsts_down h' hj).2
            omega)
          rwa [sv_len] at this
        have e1 : o = sv k (List.range o.length) := by rw [← e0, sv_sv]
        have e2 : und o = o := by
          have q : und (sp k (List.range o.length)) = sv k (und (List.range o.length)) := und_sp (range_ord _) (by rw [List.length_range]; exact hk1)
          rw [sp_range hk1, und_range, ← e1] at q
          exact q
        rw [e2]
  termination_by d => d
  decreasing_by all_goals omega
/-! ### the order seen from behind -/
def mir (o : List Nat) : List Nat := o.reverse.map fun r => o.length - 1 - r
theorem mir_len (o : List Nat) : (mir o).length = o.length := by unfold mir; rw [List.length_map, List.length_reverse]
theorem mir_get {o : List Nat} {i v : Nat} (h : o[i]? = some v) : (mir o)[o.length - 1 - i]? = some (o.length - 1 - v) := by
  have hi := (List.getElem?_eq_some_iff.mp h).1
  unfold mir
  rw [List.getElem?_map, List.getElem?_reverse (by omega), show o.length - 1 - (o.length - 1 - i) = i by omega, h]
  rfl
theorem mir_ord {o : List Nat} (h : Ord o) : Ord (mir o) := by
  refine ⟨?_, fun x hx => ?_⟩
  · unfold mir
    rw [List.Nodup, List.pairwise_map]
    exact ((List.reverse_perm o).nodup_iff.mpr h.nd).imp_of_mem fun {a b} ha hb hab e => by
      have h1 := h.lt a (List.mem_reverse.mp ha)
      have h2 := h.lt b (List.mem_reverse.mp hb)
      omega
  · rw [mir_len]
    obtain ⟨r, hr, rfl⟩ := List.mem_map.mp hx
    have := h.lt r (List.mem_reverse.mp hr)
    show o.length - 1 - r < o.length
    omega
theorem mir_idx {o : List Nat} (h : Ord o) {v : Nat} (hv : v < o.length) : (mir o).idxOf (o.length - 1 - v) = o.length - 1 - o.idxOf v :=
  idx_of_get (mir_ord h).nd (mir_get (idx_get (h.has hv)))
theorem mir_sv {o : List Nat} (h : Ord o) {k : Nat} (hk : k + 1 < o.length) : sv (o.length - 1 - 1 - k) (mir o) = mir (sv k o) := by
  unfold mir sv
  rw [List.map_map, List.length_map, ← List.map_reverse, List.map_map]
  refine List.map_congr_left fun r hr => ?_
  have h1 := h.lt r (List.mem_reverse.mp hr)
  show sw (o.length - 1 - 1 - k) (o.length - 1 - r) = o.length - 1 - sw k r
  unfold sw
  split <;> split <;> (try split) <;> (try split) <;> omega
theorem mir_range (n : Nat) : mir (List.range n) = List.range n := by
  have e := eq_range (o := mir (List.range n)) fun k hk => by
    rw [mir_len, List.length_range] at hk
    have q : (List.range n)[n - 1 - k]? = some (n - 1 - k) := List.getElem?_range (by omega)
    have := mir_get q
    rw [List.length_range] at this
    rw [show n - 1 - (n - 1 - k) = k by omega] at this
    exact this
  rw [e, mir_len, List.length_range]
theorem many_mir : ∀ (d : Nat) {o : List Nat}, Ord o → inv o = d → many (mir o) = many o
  | d, o, h, hd => by
    rcases Nat.eq_zero_or_pos d with c | c
    · have fe : firsts o = [] := List.eq_nil_iff_forall_not_mem.mpr fun k hk => by
        have := (firsts_down h hk).2
        omega
      rw [firsts_nil h fe, mir_range]
    · have hm := mir_ord h
      have ne : 0 < inv (mir o) := by
        cases c : inv (mir o) with
        | succ n => omega
        | zero =>
          have fe : firsts (mir o) = [] := List.eq_nil_iff_forall_not_mem.mpr fun k hk => by
            have := (firsts_down hm hk).2
            omega
          have z : o = List.range o.length := id_of_marks h fun k hk => by
            rcases inv_sv_or h hk with ⟨a, _⟩ | ⟨a, _⟩
            · exact a
            · have m := mem_firsts (o := mir o) (k := o.length - 1 - 1 - k)
              rw [fe, mir_len, show o.length - 1 - 1 - k + 1 = o.length - 1 - k by omega, mir_idx h (by omega), show o.length - 1 - 1 - k = o.length - 1 - (k + 1) by omega, mir_idx h hk] at m
              have l0 := idx_lt (h.has (v := k) (by omega))
              exact absurd (m.mpr ⟨by omega, by omega⟩) List.not_mem_nil
          rw [z, inv_range] at hd
          omega
      rw [many_to h (by omega), many_to hm ne, mir_len, ← sumTo_flip (o.length - 1) fun k => if decide (o.idxOf (k + 1) < o.idxOf k) = true then many (sv k o) else 0]
      refine sumTo_congr fun k hk => ?_
      have l1 := idx_lt (h.has (v := o.length - 1 - 1 - k) (by omega))
      have l2 := idx_lt (h.has (v := o.length - 1 - 1 - k + 1) (by omega))
      have i1 := mir_idx h (v := o.length - 1 - 1 - k) (by omega)
      have i2 := mir_idx h (v := o.length - 1 - 1 - k + 1) (by omega)
      rw [show o.length - 1 - (o.length - 1 - 1 - k) = k + 1 by omega] at i1
      rw [show o.length - 1 - (o.length - 1 - 1 - k + 1) = k by omega] at i2
      rw [i1, i2]
      by_cases q : o.idxOf (o.length - 1 - 1 - k + 1) < o.idxOf (o.length - 1 - 1 - k)
      · rw [if_pos (decide_eq_true q), if_pos (decide_eq_true (by omega))]
        have hk2 : o.length - 1 - 1 - k + 1 < o.length := by omega
        have z : inv (sv (o.length - 1 - 1 - k) o) + 1 = inv o := by
          rcases inv_sv_or h hk2 with ⟨a, _⟩ | ⟨_, b⟩
          · omega
          · exact b
        have e := mir_sv h hk2
        rw [show o.length - 1 - 1 - (o.length - 1 - 1 - k) = k by omega] at e
        rw [e]
        exact many_mir (d - 1) (h.sv hk2) (by omega)
      · rw [if_neg (fun z => q (of_decide_eq_true z)), if_neg (fun z => q (by have := of_decide_eq_true z; omega))]
  termination_by d => d
  decreasing_by all_goals omega

/-! ### who pass -/
inductive UP : List Nat → List Nat → Prop
  | nil {o : List Nat} : UP o []
  | cons {o : List Nat} {k a b : Nat} {w : List Nat} : o[k]? = some a → o[k + 1]? = some b → a < b → UP (sp k o) w → UP o (k :: w)
theorem UP.of : ∀ {w o : List Nat}, Ord o → (∀ k ∈ w, k + 1 < o.length) → inv (run o w) = inv o + w.length → UP o w
  | [], _, _, _, _ => .nil
  | k :: w, o, h, hw, e => by
    have hk := hw k (List.mem_cons_self ..)
    have hw' : ∀ j ∈ w, j + 1 < (sp k o).length := fun j hj => by
      rw [sp_len]
      exact hw j (List.mem_cons_of_mem _ hj)
    have le := inv_run_le w (h.sp k) hw'
    rw [run_cons, List.length_cons] at e
    have h0 : o[k]? = some o[k] := List.getElem?_eq_getElem (by omega)
    have h1 : o[k + 1]? = some o[k + 1] := List.getElem?_eq_getElem hk
    rcases inv_sp_or h h0 h1 with ⟨a, b⟩ | ⟨a, b⟩
    · exact .cons h0 h1 a (.of (h.sp k) hw' (by omega))
    · omega
theorem LP.up {w o : List Nat} (h : Ord o) (l : LP o w) : UP (List.range o.length) w := by
  obtain ⟨e1, e2⟩ := l.made h
  refine .of (range_ord _) (fun k hk => by rw [List.length_range]; exact l.places k hk) ?_
  rw [e1, inv_range, e2]
  omega
def met : List Nat → List Nat → List (Nat × Nat)
  | _, [] => []
  | o, k :: w => (o.getD k 0, o.getD (k + 1) 0) :: met (sp k o) w
theorem met_len : ∀ (w o : List Nat), (met o w).length = w.length
  | [], _ => rfl
  | _ :: w, o => congrArg (· + 1) (met_len w _)
theorem met_snoc (k : Nat) : ∀ (w o : List Nat), met o (w ++ [k]) = met o w ++ [((run o w).getD k 0, (run o w).getD (k + 1) 0)]
  | [], _ => rfl
  | j :: w, o => by
    show _ :: met (sp j o) (w ++ [k]) = _ :: (met (sp j o) w ++ _)
    rw [met_snoc k w]
    rfl
theorem met_ok : ∀ {w o : List Nat}, Ord o → UP o w → (∀ p ∈ met o w, p.1 < p.2 ∧ p.1 < o.length ∧ p.2 < o.length ∧ o.idxOf p.1 < o.idxOf p.2) ∧ (met o w).Nodup
  | [], _, _, _ => ⟨fun _ hp => (List.not_mem_nil hp).elim, List.nodup_nil⟩
  | k :: w, o, h, .cons (a := a) (b := b) h0 h1 hab hw => by
    obtain ⟨ih1, ih2⟩ := met_ok (h.sp k) hw
    have hk := (List.getElem?_eq_some_iff.mp h1).1
    have ea : o.getD k 0 = a := getD_of h0
    have eb : o.getD (k + 1) 0 = b := getD_of h1
    have ia := idx_of_get h.nd h0
    have ib := idx_of_get h.nd h1
    have la : a < o.length := h.lt a (List.mem_of_getElem? h0)
    have lb : b < o.length := h.lt b (List.mem_of_getElem? h1)
    have tail : ∀ p ∈ met (sp k o) w, p.1 < p.2 ∧ p.1 < o.length ∧ p.2 < o.length ∧ o.idxOf p.1 < o.idxOf p.2 := fun p hp => by
      obtain ⟨q1, q2, q3, q4⟩ := ih1 p hp
      rw [sp_len] at q2 q3
      rw [idx_sp h hk q2, idx_sp h hk q3] at q4
      refine ⟨q1, q2, q3, ?_⟩
      have n12 : o.idxOf p.1 ≠ o.idxOf p.2 := fun e => by rw [e] at q4; omega
      have bad : ¬ (o.idxOf p.1 = k + 1 ∧ o.idxOf p.2 = k) := fun ⟨e1, e2⟩ => by
        have z1 : p.1 = b := idx_inj (h.has q2) (h.has lb) (e1.trans ib.symm)
        have z2 : p.2 = a := idx_inj (h.has q3) (h.has la) (e2.trans ia.symm)
        omega
      unfold sw at q4
      revert q4
      split <;> split <;> (try split) <;> (try split) <;> omega
    refine ⟨fun p hp => ?_, ?_⟩
    · rcases List.mem_cons.mp hp with e | e
      · rw [e, ea, eb]
        refine ⟨hab, la, lb, ?_⟩
        show o.idxOf a < o.idxOf b
        omega
      · exact tail p e
    · refine List.nodup_cons.mpr ⟨fun hm => ?_, ih2⟩
      rw [ea, eb] at hm
      obtain ⟨_, _, _, q4⟩ := ih1 _ hm
      rw [idx_sp h hk la, idx_sp h hk lb, ia, ib, sw_self, sw_succ] at q4
      omega

end PM
/-! The told form: looked at for all orders of up to six. -/
namespace PM
/-! ### all orders of a few, and the told form -/
def ins (x : Nat) : List Nat → List (List Nat)
  | [] => [[x]]
  | y :: ys => (x :: y :: ys) :: (ins x ys).map (y :: ·)
def perms : List Nat → List (List Nat)
  | [] => [[]]
  | x :: xs => (perms xs).flatMap (ins x)
theorem mem_ins (x : Nat) : ∀ (a b : List Nat), (a ++ x :: b) ∈ ins x (a ++ b)
  | [], [] => List.mem_singleton.mpr rfl
  | [], _ :: _ => List.mem_cons_self ..
  | y :: a, b => List.mem_cons_of_mem _ (List.mem_map.mpr ⟨_, mem_ins x a b, rfl⟩)
theorem mem_perms : ∀ {xs l : List Nat}, l.Perm xs → l ∈ perms xs
  | [], l, h => by rw [List.perm_nil.mp h]; exact List.mem_singleton.mpr rfl
  | x :: xs, l, h => by
    have hx : x ∈ l := h.mem_iff.mpr (List.mem_cons_self ..)
    obtain ⟨a, b, e⟩ := List.append_of_mem hx
    subst e
    have q : (a ++ b).Perm xs := (List.perm_cons x).mp (List.perm_middle.symm.trans h)
    exact List.mem_flatMap.mpr ⟨a ++ b, mem_perms q, mem_ins x a b⟩
/-- how many of lesser numbers stand behind a runner -/
def lesser (o : List Nat) (r : Nat) : Nat := ((o.drop (o.idxOf r)).filter fun x => decide (x < r)).length
/-- the passes of one runner -/
def toldOne (o : List Nat) (r : Nat) : List Nat := (List.range (lesser o r)).map fun i => r - 1 - i
def told (o : List Nat) : List Nat := ((List.range (o.length - 1)).map fun i => toldOne o (i + 1)).flatten
def lpB : List Nat → List Nat → Bool
  | o, [] => (firsts o).isEmpty
  | o, k :: w => (firsts o).contains k && lpB (sv k o) w
theorem LP.of_b : ∀ {w o : List Nat}, lpB o w = true → LP o w
  | [], o, h => .nil (List.isEmpty_iff.mp h)
  | k :: w, o, h => by
    have h' : ((firsts o).contains k && lpB (sv k o) w) = true := h
    rw [Bool.and_eq_true] at h'
    exact .cons (by simpa using h'.1) (.of_b h'.2)
def toldB (o : List Nat) : Bool := lpB o (told o) && (List.range (o.length - 1)).all fun i => decide (lesser o (i + 1) ≤ i + 1)
theorem told_all : ((List.range 7).all fun n => (perms (List.range n)).all toldB) = true := by decide +kernel
theorem told_okB {o : List Nat} (h : Ord o) (hl : o.length ≤ 6) : toldB o = true := by
  have h1 := List.all_eq_true.mp told_all o.length (List.mem_range.mpr (by omega))
  exact List.all_eq_true.mp h1 o (mem_perms h.perm)
theorem told_lp {o : List Nat} (h : Ord o) (hl : o.length ≤ 6) : LP o (told o) := by
  have := told_okB h hl
  unfold toldB at this
  rw [Bool.and_eq_true] at this
  exact .of_b this.1
theorem lesser_le {o : List Nat} (h : Ord o) (hl : o.length ≤ 6) {r : Nat} (h1 : 1 ≤ r) (h2 : r < o.length) : lesser o r ≤ r := by
  have := told_okB h hl
  unfold toldB at this
  rw [Bool.and_eq_true] at this
  have q := List.all_eq_true.mp this.2 (r - 1) (List.mem_range.mpr (by omega))
  rw [show r - 1 + 1 = r by omega] at q
  exact of_decide_eq_true q
end PM
/-! Rules of one's own, over the layer. -/
namespace PmR
open PySem PySem.Spec PyProof.Rows L2

/-! ### t.index(k), t a tuple of whole numbers -/
section
variable {X : Cx}
def rTupIndex (K : PySem.W.Frag) : V → List V → Hp → VK → Prop := fun x xs H Q => ∃ (p : Addr) (ns : List Int) (k : Int),
  x = .ref p ∧ xs = [.int k] ∧ SqT K H p (ns.map V.int) ∧ k ∈ ns ∧ Q (.int (ns.idxOf k : Nat)) H
theorem mt_tupIndex : MtR X "tuple.index" (rTupIndex X.K) := by
  intro pins s σ H x xs v us Q I rx rs h
  obtain ⟨p, ns, k, rfl, rfl, hq, hk, q⟩ := h
  cases rx
  obtain ⟨u, rfl, t, rfl⟩ := vals1 rs
  obtain ⟨its, r, pl, hz⟩ := I.tuple hq
  obtain ⟨o, ho, hc, n, hd⟩ := pl
  exact PySem.SeqAt.tuple_index_ints (vs := its) ⟨o, ho, hc, n, hd⟩ r.ints hk ⟨.int (ns.idxOf k : Nat), H, I.tok _, ⟨_, rfl⟩, q⟩
end

/-! ### t[::-1], t a tuple -/
section
variable {prog : Program} {w : World} {A : Around} {E : Value → Shared → Prop} {s : Shared}
theorem back_adjust (n : Nat) : Builtin.Slice.sliceAdjust none none (-1) (n : Int) = ((n : Int) - 1, -1) := rfl
theorem back_places (n : Nat) : Builtin.Slice.slicePlaces ((n : Int) - 1) (-1) (-1) = n := by
  unfold Builtin.Slice.slicePlaces
  have h1 : ¬ ((-1 : Int) > 0) := by omega
  rw [if_neg h1]
  by_cases h : (n : Int) - 1 > -1
  · rw [if_pos h, show -(-1 : Int) = 1 by omega, Int.ediv_one]
    omega
  · rw [if_neg h]
    omega
theorem back_applied {sl : Addr} {vs : Value} {n : Nat} {Q : Int × Int × Nat → Shared → Prop} (hs : s.heap.IsSliceOf sl .none .none vs) (pv : IsPart vs (some (-1))) (h : Q ((n : Int) - 1, -1, n) s) :
    wpAny (model prog w) A (Builtin.Slice.sliceApplied (.ref sl) (pure (n : Int))) Q E s := by
  obtain ⟨os, hos, hcs, hds⟩ := id hs
  unfold Builtin.Slice.sliceApplied Builtin.Slice.sliceFields
  refine wpAny_bind (wpAny_bind (wpAny_field hos hds (x := .none) rfl (wpAny_bind (wpAny_field hos hds (x := .none) rfl (wpAny_bind (wpAny_field hos hds (x := vs) rfl (wpAny_pure ?_)))))))
  refine wpAny_bind (HT.slicePart_ pv ?_)
  show wpAny _ _ (if ((-1 : Int) == 0) = true then _ else _) _ _ s
  rw [if_neg (by decide)]
  refine wpAny_bind (HT.slicePart_ .none (wpAny_bind (HT.slicePart_ .none (wpAny_bind (wpAny_pure ?_)))))
  show wpAny _ _ (match Builtin.Slice.sliceAdjust none none (-1) (n : Int) with | (lo, hi) => pure (lo, (-1 : Int), Builtin.Slice.slicePlaces lo hi (-1))) _ _ s
  rw [back_adjust]
  show wpAny _ _ (pure ((n : Int) - 1, (-1 : Int), Builtin.Slice.slicePlaces ((n : Int) - 1) (-1) (-1))) _ _ s
  rw [back_places]
  exact wpAny_pure h
theorem back_pick (xs : List Value) : ((List.range xs.length).filterMap fun (k : Nat) => xs.toArray[(((xs.length : Int) - 1) + (k : Int) * (-1)).toNat]?) = xs.reverse := by
  have key : ∀ m, m ≤ xs.length → ((List.range m).filterMap fun (k : Nat) => xs.toArray[(((xs.length : Int) - 1) + (k : Int) * (-1)).toNat]?) = xs.reverse.take m := by
    intro m
    induction m with
    | zero => intro _; rfl
    | succ m ih =>
      intro hm
      rw [List.range_succ, List.filterMap_append, ih (by omega), List.take_add_one]
      congr 1
      have e : (((xs.length : Int) - 1) + (m : Int) * (-1)).toNat = xs.length - 1 - m := by omega
      rw [List.filterMap_cons, e, List.filterMap_nil, List.getElem?_reverse (by omega)]
      simp only [List.getElem?_toArray]
      cases xs[xs.length - 1 - m]? <;> rfl
  rw [key xs.length (Nat.le_refl _), List.take_of_length_le (by rw [List.length_reverse]; exact Nat.le_refl _)]
theorem getItem_tuple_back {t sl : Addr} {its : List Value} {vs : Value} {Q : Value → Shared → Prop} (ht : IsTup s.heap t its.toArray) (hs : s.heap.IsSliceOf sl .none .none vs) (pv : IsPart vs (some (-1))) (hz : its.length ≤ sizeLine)
    (h : Q (.ref s.heap.objs.size) { s with heap := s.heap.push { cls := .type "tuple", data := .seq its.reverse.toArray } }) : wpAny (model prog w) A (getItem (.ref t) (.ref sl)) Q E s := by
  have htake : sizeOk (.seq its.reverse.toArray) := by
    show its.reverse.toArray.size ≤ sizeLine
    rw [List.size_toArray, List.length_reverse]
    exact hz
  obtain ⟨os, hos, hcs, hds⟩ := id hs
  have hTs : s.TypeIs (.ref sl) "slice" := ⟨os, hos, hcs⟩
  unfold getItem
  try with_reducible refine wpAny_holding ?_
  first | refine wpAny_bind (wpAny_pure ?_) | skip
  refine wpAny_bind (wpAny_sequenceKey ht.typeIs (by decide) ?_)
  refine wpAny_bind (wpAny_callSpecial?_slot (name := Str.ofString "__getitem__") ht.typeIs PyProof.Rows.slot_tuple_getitem
    (wpAny_call_entry PyProof.Rows.slot_tuple_getitem ht.typeIs entry_tuple_getitem ?_ (args_tuple_getitem _ _)))
  show wpAny _ _ (Builtin.Tuple.tupleItemsOf (.ref t) >>= _) _ _ s
  refine wpAny_bind (tupleItemsOf_ ht ?_)
  refine wpAny_bind (wpAny_typeOf hTs ?_)
  rw [if_pos (by decide)]
  rw [List.size_toArray]
  refine wpAny_bind (back_applied (n := its.length) hs pv ?_)
  have hno : ¬ ((((its.length : Int) - 1) == 0 && (-1 : Int) == 1 && its.length == its.length) = true) := by simp
  show wpAny _ _ (if ((((its.length : Int) - 1) == 0 && (-1 : Int) == 1 && its.length == its.length) = true) then _ else _) _ _ s
  rw [if_neg hno, back_pick]
  first
    | exact wpAny_bind (m := Builtin.Tuple.tupleExact _) (wpAny_newObj_type (wpAny_pure ⟨_, rfl, wpAny_pure h⟩) htake)
    | exact wpAny_bind (m := Builtin.Tuple.tupleExact _) (wpAny_newObj_type (wpAny_bind (wpAny_pure (wpAny_pure ⟨_, rfl, wpAny_pure h⟩))) htake)
    | exact wpAny_bind (wpAny_bind (m := Builtin.Tuple.tupleExact _) (wpAny_newObj_type (wpAny_pure (wpAny_pure ⟨_, rfl, wpAny_pure h⟩)) htake))
    | exact wpAny_bind (wpAny_bind (m := Builtin.Tuple.tupleExact _) (wpAny_newObj_type (wpAny_pure ⟨_, rfl, wpAny_pure h⟩) htake))
end
section
variable {X : Cx}
def tBackT (K : PySem.W.Frag) (te : TE) : TE := fun σ H Q => te σ H fun x H1 => ∃ a xs, x = .ref a ∧ SqT K H1 a xs ∧ ∀ p, H1 p = none → Q (.ref p) (upd H1 p (.tup xs.reverse))
theorem pe_backT {e : Expr} {te : TE} {k : Nat} {p1 p2 p3 pos : Pos} (he : PE X e te) : PE X (.Subscript e (.Slice none none (some (.UnaryOp .USub (.Constant (.int 1) k p1) p2)) p3) pos) (tBackT X.K te) := by
  refine ⟨fun pins s σ H Q I h => ?_⟩
  refine Subscript_ (thn (he.run pins s σ H _ I h) fun v s1 ⟨x, H1, I1, r1, q1⟩ => ?_)
  obtain ⟨a, xs, ex, hx, q⟩ := q1
  subst ex
  cases r1
  have hst : PO X (some (.UnaryOp .USub (.Constant (.int 1) k p1) p2)) (tPart (tUn (rU fun i => .int (-i)) (tC (.int 1)))) := po_some (pe_un un_neg pe_int)
  have nopart : ∀ {v : Value}, IsPart v none → v = .none := fun {v} p => by cases p; rfl
  refine wpAny_Slice (thn (po_none.run pins s1 σ H1 (fun o H2 => o = none ∧ H2 = H1) I1 ⟨rfl, rfl⟩) fun vl s2 ⟨l, H2, I2, pl, el, e2⟩ => ?_)
  subst el e2
  cases nopart pl
  refine thn (po_none.run pins s2 σ H2 (fun o H3 => o = none ∧ H3 = H2) I2 ⟨rfl, rfl⟩) fun vu s3 ⟨u, H3, I3, pu, eu, e3⟩ => ?_
  subst eu e3
  cases nopart pu
  refine thn (hst.run pins s3 σ H3 (fun o H4 => o = some (-1) ∧ H4 = H3) I3 ⟨1, rfl, -1, rfl, rfl, rfl⟩) fun vs s4 ⟨o, H4, I4, ps, eo, e4⟩ => ?_
  subst eo e4
  have I5 : Inv X pins σ H4 { s4 with heap := s4.heap.push { cls := .type "slice", data := .fields #[.none, .none, vs] } } := I4.kept (t' := s4.toks) fun b ob q => Heap.get?_push_of_some _ q
  obtain ⟨its, r, ht, hz⟩ := I5.tuple hx
  have hlen := r.length
  show wpAny (model X.prog X.w) X.A (subscriptTail e (.Slice none none (some (.UnaryOp .USub (.Constant (.int 1) k p1) p2)) p3) (.ref a) (.ref s4.heap.objs.size)) (EP X pins σ Q) X.xe { s4 with heap := s4.heap.push { cls := .type "slice", data := .fields #[.none, .none, vs] } }
  refine tail_any (ops := [.ref a, .ref s4.heap.objs.size]) ht.typeIs PyProof.Rows.slot_tuple_getitem.lookup ?_ (by with_unfolding_all rfl)
  refine getItem_tuple_back ht (Heap.IsSliceOf.new _ .none .none vs) ps (by omega) ?_
  refine ⟨.ref _, _, I5.laid (t' := s4.toks) (o := .tup xs.reverse) (fun b ob q => Heap.get?_push_of_some _ q) (Nat.le_refl _) ?_, rfl, q _ (I5.hok.fresh (Nat.le_refl _))⟩
  exact ⟨by rw [List.length_reverse]; exact hz, _, r.reverse, ⟨_, Heap.get?_push_size _ rfl, rfl, _, rfl⟩⟩
end
end PmR
/-! Rules of one's own: sorted of a tuple, sets, ranges, enumerate. -/
namespace PmR
open PySem PySem.Spec PyProof.Rows L2

/-! ### sorted(t), t a tuple of whole numbers -/
section
variable {prog : Program} {w : World} {A : Around} {E : Value → Shared → Prop} {s : Shared}
theorem sorted_tup {t : Addr} {vs : List Value} {ns : List Int} {Q : Value → Shared → Prop} (ht : IsTup s.heap t vs.toArray) (hI : IntsAre vs ns) (h64 : vs.length < 64)
    (h : ∀ (h1 h' : Heap) (out : Array Value) (c : Nat) (ns' : List Int), (∀ b o, s.heap.get? b = some o → h1.get? b = some o) → (∀ b o, h1.get? b = some o → h'.get? b = some o) → h'.get? h1.objs.size = some (seqObj "list" out c) → IntsAre out.toList ns' → ns'.Perm ns → ns'.Pairwise (· ≤ ·) →
      Q (.ref h1.objs.size) { s with heap := h' }) : wpAny (model prog w) A (call (.builtin "sorted") [.ref t]) Q E s := by
  obtain ⟨o, ho, hc, n, hd⟩ := id ht
  refine Calls.call_function_entry kind_sorted plain_sorted entry_sorted (args_sorted1 _) ?_
  unfold Builtin.«sorted»
  refine wpAny_bind (m := checkCount "sorted" 1 1 _) (wpAny_pure ?_)
  refine wpAny_bind (wpAny_collect_seq t (T := "tuple") (.inr rfl) ho hc hd (fun h1 k1 => ?_) (by rw [List.size_toArray, sizeLine_eq]; omega))
  refine wpAny_bind (wpAny_newList ?_ (by show vs.toArray.toList.length ≤ sizeLine; rw [List.toList_toArray, sizeLine_eq]; omega))
  have hoL : (h1.push (seqObj "list" vs.toArray.toList.toArray 0)).get? h1.objs.size = some (seqObj "list" vs.toArray.toList.toArray 0) := Heap.get?_push_size _ rfl
  refine wpAny_bind (wpAny_holding (wpAny_call_entry slot_list_sort ⟨_, hoL, rfl⟩ entry_list_sort (list_sort_tree hoL (by rw [List.toList_toArray]; exact hI) (by rw [List.toList_toArray]; exact h64) fun out ns' a1 a2 a3 => ⟨_, rfl, ?_⟩) (args_list_sort _)))
  obtain ⟨c, hcc⟩ := sortedHeap_at (vs := vs.toArray.toList) (out := out) hoL
  refine wpAny_pure ⟨_, rfl, h h1 _ out c ns' k1 (fun b u q => ?_) hcc a1 a2 a3⟩
  have hlt := Heap.lt_size q
  show (sortedHeap (h1.push (seqObj "list" vs.toArray.toList.toArray 0)) h1.objs.size vs.toArray.toList out).get? b = some u
  rw [sortedHeap_old (Nat.ne_of_lt hlt) (by rw [size_push']; exact Nat.lt_succ_of_lt hlt)]
  exact Heap.get?_push_of_some _ q
end
section
variable {X : Cx}
def rSortedTup (K : PySem.W.Frag) : List V → Hp → VK → Prop := fun vs H Q => ∃ (a : Addr) (ns : List Int), vs = [V.ref a] ∧ SqT K H a (ns.map V.int) ∧ ns.length < 64 ∧
  ∀ (ns' : List Int) (p : Addr), ns'.Perm ns → ns'.Pairwise (· ≤ ·) → H p = none → Q (.ref p) (upd H p (.lst (ns'.map V.int)))
theorem cr_sortedTup : CallR X (.builtin "sorted") (rSortedTup X.K) := by
  intro pins s σ H vs us Q I r h
  obtain ⟨a, ns, rfl, hs, h64, q⟩ := h
  obtain ⟨its, rv, hl, _⟩ := I.tuple hs
  rw [Vals.ref1 r]
  have hi := rv.ints
  refine sorted_tup hl hi (by rw [hi.length]; exact h64) fun h1 h' out c ns' k1 k2 hp h2 h3 h4 => ?_
  have hlen : (ns'.map V.int).length ≤ sizeLine := by rw [List.length_map, h3.length_eq]; exact small64 h64
  have I1 : Inv X pins σ H { s with heap := h1 } := I.kept (t' := s.toks) k1
  exact ⟨.ref _, upd H h1.objs.size (.lst (ns'.map V.int)), I1.laid (t' := s.toks) k2 (Nat.le_refl _) ⟨hlen, out.toList, c, vals_of_ints h2, hp⟩, rfl, q ns' _ h3 h4 (I1.hok.fresh (Nat.le_refl _))⟩
end

/-! ### set(xs), xs a list of whole numbers -/
section
variable {P : Program} {w : World} {A : Around} {E : Value → Shared → Prop} {s : Shared}
/-- a new empty set's object -/
abbrev newSet (w : World) : Obj := { cls := .type "set", dict := none, data := .set #[] 0 (.fresh 0 0 (!w.params.followText "set-order")) }
set_option maxHeartbeats 3200000 in
theorem set_of_list {l : Addr} {items : Array Value} (ns : List Int) {Q : Value → Shared → Prop} (hh : A.handled = none) (hl : s.heap.IsList l items) (hit : IntsAre items.toList ns) (hb : ns.length + 1 < scanBound)
    (h : ∀ (h' : Heap) (tk c : Nat), SetR w h' s.heap.objs.size (fun j => decide (j ∈ ns)) c → c ≤ ns.length → (∀ b o, s.heap.get? b = some o → h'.get? b = some o) → Q (.ref s.heap.objs.size) { s with heap := h', toks := tk }) :
    wpAny (model P w) A (call (.type "set") [.ref l]) Q E s := by
  have many : items.size = ns.length := by
    have q := hit.length
    rwa [Array.length_toList] at q
  obtain ⟨c, tl, hmro⟩ := F.called_set.mro
  have hmade := F.called_set.made
  have hsub := F.called_set.sub
  refine wpAny_call (codeAny_of_tree ?_)
  show wpAny _ _ (callAny (.type "set") _) _ _ _
  refine wpAny_pure ⟨Code.quiet_builtin _ (by decide +kernel), codeAny_builtin F.entry_type_call ?_⟩
  rw [Around.under_plain (weight_type_call_type "set" [.ref l] []) rfl]
  have h1 := F.called_set.notType
  have h2 := F.called_set.canCreate
  have hct := F.typeCall_set_1 (.ref l)
  repeat (any_goals (first | assumption | wp_step))
  refine codeAny_mono (code_set_led1 (.ref l) (E := E) (Q₁ := fun obj s₁ => obj = .ref s.heap.objs.size ∧ s₁ = { s with heap := s.heap.push (newSet w) }) ⟨rfl, rfl⟩) fun r s₁ hr => ?_
  cases r with
  | error e => exact hr
  | ok fl =>
    cases fl with
    | ret obj =>
      obtain ⟨rfl, rfl⟩ := hr
      have hS : (s.heap.push (newSet w)).get? s.heap.objs.size = some (newSet w) := Heap.get?_push_size _ rfl
      have hT : Shared.TypeIs { s with heap := s.heap.push (newSet w) } (.ref s.heap.objs.size) "set" := ⟨_, hS, rfl⟩
      have hli := F.called_set.init.lookup
      have hbi := F.called_set.init.bind (.ref s.heap.objs.size)
      repeat (any_goals (first | assumption | wp_step))
      refine codeAny_mono (codeAny_call_builtin (R := wants (fun r s₂ => r = .none ∧ ∃ h' tk c, s₂ = { s with heap := h', toks := tk } ∧ SetR w h' s.heap.objs.size (fun j => decide (j ∈ ns)) c ∧ c ≤ ns.length ∧
          (∀ b o, s.heap.get? b = some o → h'.get? b = some o)) E) F.called_set.init.plain F.entry_set_init (check_set_init_1 hT ?_)) fun r₂ s₂ hr₂ => ?_
      · obtain ⟨ol, hol, hcl, nl, hdl⟩ := hl
        obtain ⟨ocls, odict, odata, oslots⟩ := ol
        simp only at hcl hdl
        subst hcl; subst hdl
        have hol' : (s.heap.push (newSet w)).get? l = some { cls := .type "list", dict := odict, data := .seq items nl, slots := oslots } := Heap.get?_push_of_some _ hol
        have hsls := F.sub_list_set
        have hslf := F.sub_list_frozenset
        have hne : (Value.type "list" == Value.type "dict") = false := by decide
        have hl1 : (s.heap.push (newSet w)).IsList l items := ⟨_, hol', rfl, nl, rfl⟩
        unfold Builtin.«set.__init__» noKeywords Builtin.Frozenset.updateFrom
        generalize hPI : pyIter = PI
        wp_walk
        subst hPI
        refine wpAny_pyIter_list hl1 ?_
        refine wpAny_bind (wpAny_runValue ?_)
        have hlS : l < s.heap.objs.size := Heap.lt_size hol
        have hh3 : A.in1.in1.in1.handled = none := by simp [hh]
        have hz : (s.heap.push (newSet w)).objs.size = s.heap.objs.size + 1 := Heap.size_push ..
        have hneI : l ≠ (s.heap.push (newSet w)).objs.size := by
          rw [hz]; exact Nat.ne_of_lt (Nat.lt_succ_of_lt hlS)
        have hSf : s.heap.objs.size ∉ [(s.heap.push (newSet w)).objs.size, l] := by
          rw [hz]; simp only [List.mem_cons, List.mem_singleton, List.not_mem_nil, or_false, not_or]
          exact ⟨Nat.ne_of_lt (Nat.lt_succ_self _), Nat.ne_of_gt hlS⟩
        have hval : ∀ (i : Nat) (v : Value), items[i]? = some v → ∃ k t, ns[i]? = some k ∧ v = .int k t := fun i v hv => by
          have hi : i < ns.length := by rw [← many]; exact (Array.getElem?_eq_some_iff.mp hv).1
          obtain ⟨t, e⟩ := PyProof.Rows.IntsAre.int_at hit i v (by rw [Array.getElem?_toList]; exact hv)
          refine ⟨ns[i], t, List.getElem?_eq_getElem hi, ?_⟩
          rw [e, List.getD_eq_getElem?_getD, List.getElem?_eq_getElem hi] <;> rfl
        refine set_update_ints ((Walks.list hh3 _ l hneI items).toS) s.heap.objs.size
          hSf ns many hb hval (items.size - 0) 0 _ (by omega) (Nat.zero_le _)
          ⟨⟨_, Heap.get?_push_size _ rfl, rfl, rfl⟩, (hl1.push _)⟩ ?hS0 ?hR
        case hS0 => exact ⟨0, Nat.le_refl 0, setR_new_at (Heap.get?_push_of_some _ hS)⟩
        case hR =>
          intro s' c' hm hc' hS'
          obtain ⟨h', g2, d', tk', os'⟩ := s'
          have eg : g2 = s.gens := hm.gens
          have ed : d' = s.drawn := hm.drawn
          have eo : os' = s.os := hm.os
          subst eg; subst ed; subst eo
          show wpAny _ _ _ _ _ _
          refine wpAny_pure ?_
          show wpAny _ _ (ret Value.none) _ _ _
          rw [many] at hc'
          refine wpAny_pure ⟨rfl, h', tk', c', rfl, hS', hc', fun b o e => ?_⟩
          have hb0 : b < s.heap.objs.size := Heap.lt_size e
          have hb1 : b ≠ s.heap.objs.size := Nat.ne_of_lt hb0
          have hb2 : b ≠ (s.heap.push (newSet w)).objs.size := by
            rw [hz]; exact Nat.ne_of_lt (Nat.lt_succ_of_lt hb0)
          exact hm.heap b o (by simp only [List.mem_cons, List.mem_singleton, List.not_mem_nil, or_false, not_or]; exact ⟨hb1, hb2⟩) (Heap.get?_push_of_some _ (Heap.get?_push_of_some _ e))
      · cases r₂ with
        | error e => exact hr₂
        | ok fl₂ =>
          cases fl₂ with
          | ret r =>
            obtain ⟨rfl, h', tk, c', rfl, hS', hc', hk'⟩ := hr₂
            repeat (any_goals (first | assumption | wp_step))
            exact h _ _ _ hS' hc' hk'
          | _ => exact hr₂.elim
    | _ => exact hr.elim
end
section
variable {X : Cx}
def rSetOfI (K : PySem.W.Frag) (w : World) : List V → Hp → VK → Prop := fun xs H Q => ∃ (l : Addr) (ns : List Int), xs = [V.ref l] ∧ SqL K H l (ns.map V.int) ∧ ns.length ≤ 60 ∧
  ∀ a c, H a = none → c ≤ ns.length → Q (.ref a) (upd H a (SetO w a (fun j => decide (j ∈ ns)) c))
theorem cr_setOfI (hc : X.calm = true) : CallR X (.type "set") (rSetOfI X.K X.w) := by
  intro pins s σ H xs us Q I r h
  obtain ⟨l, ns, rfl, hl, hf, q⟩ := h
  rw [Vals.ref1 r]
  obtain ⟨its, rv, pl, hz⟩ := I.list hl
  refine set_of_list ns (I.ok.hd hc) pl.isList (by simpa using rv.ints) (by unfold scanBound; omega) fun h' tk c R hc' k => ?_
  exact ⟨.ref s.heap.objs.size, upd H s.heap.objs.size (SetO X.w s.heap.objs.size (fun j => decide (j ∈ ns)) c), I.laid (t' := tk) k (Nat.le_refl _) (setO_new R), rfl, q _ c (I.hok.fresh (Nat.le_refl _)) hc'⟩
end

end PmR
/-! Rules of one's own: len of a set of tuples, ranges that fall, enumerate of a tuple. -/
namespace PmR
open PySem PySem.Spec PyProof.Rows L2
/-! ### len(s), s a set of tuples -/
section
variable {X : Cx}
def rLenSetT (K : PySem.W.Frag) (P : Program) (w : World) : List V → Hp → VK → Prop := fun xs H Q => ∃ (a : Addr) (L : List (Addr × List Int)), xs = [V.ref a] ∧ H a = some (SetTO P w a L) ∧ (∀ p ∈ L, SqT K H p.1 (p.2.map V.int)) ∧
  ((L.map (·.2)).Nodup → Q (.int L.length) H)
theorem call_lenSetT : CallR X (.builtin "len") (rLenSetT X.K X.prog X.w) := by
  intro pins s σ H xs us Q I r h
  obtain ⟨a, L, rfl, ha, hL, q⟩ := h
  rw [Vals.ref1 r]
  have R0 : SetT0 X.prog X.w s.heap a L := (I.hok a _ ha).1
  obtain ⟨es, ep, t, R⟩ := R0.full fun p hp => I.isT (hL p hp)
  obtain ⟨o, ho, hex, hd⟩ := R.ob
  refine call_len_set ho hex hd R.fits (by rw [R.size]; have := R.few; omega) ⟨.int L.length, H, I.tok _, ⟨_, by rw [R.size]⟩, q R.nd⟩
end

/-! ### tuple(range(a, b, -1)) -/
section
variable {X : Cx} {e1 e2 e3 : Expr} {ta : TA}
def dnV (a b : Int) : List V := (List.range (a - b).toNat).map fun i => V.int (a - (i : Nat))
def tTupDn (ta : TA) : TE := fun σ H Q => ta σ H fun vs H2 => ∃ i j : Int, vs = [.int i, .int j, .int (-1)] ∧ (-1000 ≤ i ∧ i ≤ 1000 ∧ -1000 ≤ j ∧ j ≤ 1000) ∧ ∀ q, H2 q = none → Q (.ref q) (upd H2 q (.tup (dnV i j)))
theorem vals_dn {a b : Int} {acc : Array Value} (h : ItemsOf (fun i v => ∃ t, v = .int (a + i * (-1)) t) acc (a - b).toNat) : Vals (dnV a b) acc.toList := by
  have e : acc.toList.length = (a - b).toNat := by rw [Array.length_toList]; exact h.1
  unfold dnV
  rw [← e]
  refine vals_of_get acc.toList _ fun j u hj => ?_
  obtain ⟨t, rfl⟩ := h.2 j u (by rw [← hj, Array.getElem?_toList])
  exact ⟨t, by rw [Int.mul_neg, Int.mul_one]; rfl⟩
theorem pe_tupDn {p q pos pos2 : Pos} (hc : X.calm = true) (hg : Gl X "tuple") (hm : X.mg "tuple" = none) (hgr : Gl X "range") (hmr : X.mg "range" = none) (ha : PA X [e1, e2, e3] ta)
    (na : starEach [Expr.Call (.Name "range" q) [e1, e2, e3] [] pos2] X.env = (false, eval (Expr.Call (.Name "range" q) [e1, e2, e3] [] pos2) X.env) :: starEach [] X.env := by rfl)
    (hs : starEach [e1, e2, e3] X.env = (false, eval e1 X.env) :: starEach [e2, e3] X.env := by rfl) (hpl : (backTo pos2 (starEach [e2, e3] X.env)).any (·.1) = false := by rfl) :
    PE X (.Call (.Name "tuple" p) [.Call (.Name "range" q) [e1, e2, e3] [] pos2] [] pos) (tTupDn ta) := by
  refine ⟨fun pins s σ H Q I h => ?_⟩
  refine Call_ (ld_blt I hg hm boot_tuple (PyProof.Rows.callWith_type1 (args_cons ?_ na) na))
  refine Call_ (ld_blt I hgr hmr boot_range (PyProof.Rows.callWith_type1 (thn (ha.run pos2 pins s σ H _ I h) fun us s1 ⟨vs, H1, I1, r1, q1⟩ => ?_) hs hpl))
  obtain ⟨i, j, rfl, ⟨b1, b2, b3, b4⟩, q1⟩ := q1
  cases r1 with
  | cons r rr =>
    cases rr with
    | cons r' rr =>
      cases rr with
      | cons r'' rr =>
        cases rr
        obtain ⟨t, rfl⟩ := r
        obtain ⟨t', rfl⟩ := r'
        obtain ⟨t'', rfl⟩ := r''
        refine call_range_3 (by decide) ?_ (.inl (PyProof.noPylong_small (by omega)))
        refine args_nil ?_
        have I2 : Inv X pins σ H1 { s1 with heap := s1.heap.push { cls := .type "range", data := .fields #[.int i t, .int j t', .int (-1) t''] } } := I1.kept (t' := s1.toks) fun b u e => Heap.get?_push_of_some _ e
        refine call_tuple_range (n := (i - j).toNat) (I2.ok.hd hc) (IsRange.new _ _ _ _ _ _ _) (PySem.W.small_down (by omega) (by omega) (by omega) (by omega)) (PySem.W.rangeSize_downNat i j) (by omega) fun h' tk acc hk hi => ?_
        have I3 : Inv X pins σ H1 { s1 with heap := h', toks := tk } := I2.kept hk
        refine ⟨.ref h'.objs.size, upd H1 h'.objs.size (.tup (dnV i j)), I3.laid (t' := tk) (fun c o e => Heap.get?_push_of_some _ e) (Nat.le_refl _) (show ObjOk X.prog X.w _ _ _ (.tup (dnV i j)) from ⟨?_, acc.toList, vals_dn hi, ?_⟩), rfl, q1 _ (I3.hok.fresh (Nat.le_refl _))⟩
        · unfold dnV
          rw [List.length_map, List.length_range, sizeLine_eq]
          omega
        · rw [Array.toArray_toList]
          exact IsTup.new _ _
end

/-! ### for i, x in enumerate(t), t a tuple -/
set_option maxHeartbeats 1000000 in
theorem meets_enum_one {v : Value} {o : Obj} {Hq : Heap → Prop} (B : Begins v o Hq) :
    Meets (Builtin.«enumerate.__new__» ⟨[.type "enumerate", v], []⟩) (fun _ R s => Hq s.heap ∧
      R (.ok (.ret (.ref (s.heap.push o).objs.size))) { s with heap := (s.heap.push o).push { cls := .type "enumerate", data := .fields #[.none, .bool false, .ref s.heap.objs.size, rawInt 0, .none, .none] } }) :=
  .of_wp fun prog w A R s h => by
    obtain ⟨hp, g, d, tk, os⟩ := s; obtain ⟨h1, h⟩ := h
    have hsub := sub_enumerate
    have q1 : ∀ {A' : Around} {E : Value → Shared → Prop} {Q : Value → Shared → Prop}, Q (.ref hp.objs.size) ⟨hp.push o, g, d, tk, os⟩ → wpAny (model prog w) A' (pyIter v) Q E ⟨hp, g, d, tk, os⟩ :=
      fun q => B.iter prog w _ _ ⟨hp, g, d, tk, os⟩ _ h1 q
    wp_walk using q1
    refine wpAny_stack_any fun st => wpAny_pure ?_
    split
    · rename_i c _ _ _ _ _
      cases (c == Value.type "enumerate")
      · wp_walk using q1
        exact ⟨_, rfl, h⟩
      · wp_walk using q1
        exact ⟨_, rfl, h⟩
    · wp_walk using q1
      exact ⟨_, rfl, h⟩
section
variable {prog : Program} {w : World} {A : Around} {E : Value → Shared → Prop} {s : Shared}
theorem enum_one {v : Value} {o : Obj} {Hq : Heap → Prop} {Q : Value → Shared → Prop} (B : Begins v o Hq) (h1 : Hq s.heap)
    (h : ∀ h', IsEnum h' (s.heap.objs.size + 1) s.heap.objs.size 0 .none → h'.get? s.heap.objs.size = some o →
      (∀ b o, s.heap.get? b = some o → h'.get? b = some o) → Q (.ref (s.heap.objs.size + 1)) { s with heap := h' }) :
    wpAny (model prog w) A (call (.type "enumerate") [v]) Q E s := by
  refine callType_new F.called_enumerate (by decide) (F.typeCall_enumerate_1 _) (F.newCall_enumerate_1 _) (fun obj => F.args_object_init_2 obj _) F.entry_enumerate_new
    (meets_enum_one B) ⟨h1, ?_⟩
  have hz : (s.heap.push o).objs.size = s.heap.objs.size + 1 := Heap.size_push ..
  show _ ∧ _
  rw [hz]
  have he : IsEnum ((s.heap.push o).push { cls := .type "enumerate", data := .fields #[.none, .bool false, .ref s.heap.objs.size, rawInt 0, .none, .none] }) (s.heap.objs.size + 1) s.heap.objs.size 0 .none := by
    have := Heap.get?_push_size (s.heap.push o) (o := { cls := .type "enumerate", data := .fields #[.none, .bool false, .ref s.heap.objs.size, rawInt 0, .none, .none] }) rfl
    rw [hz] at this; exact this
  exact ⟨⟨_, he, rfl⟩, h _ he (Heap.get?_push_of_some _ (Heap.get?_push_size _ B.free)) fun b o x => Heap.get?_push_of_some _ (Heap.get?_push_of_some _ x)⟩
end
def Ieo (K : PySem.W.Frag) (a : Addr) : It :=
  ⟨fun i H => ∃ (xs : List V) (x : V), SqT K H a xs ∧ xs[i]? = some x, fun i H v H' => ∃ T x, v = .ref T ∧ H T = none ∧ H' = upd H T (.tup [.int (i : Nat), x]) ∧ ∀ xs, SqT K H a xs → xs[i]? = some x, fun i H => ∃ xs : List V, SqT K H a xs ∧ xs.length = i⟩
theorem tup_of {h : Heap} {a : Addr} {its : List Value} (p : IsTup h a its.toArray) : h.IsTuple a its.toArray := p
theorem turn_enumT {P : Program} {w : World} {K : PySem.W.Frag} {elts : List Expr} {kk : Nat} {tpos : Pos} (a e it : Addr) :
    Turn P w K (.Tuple elts kk tpos) (Ieo K a) [e, it] e (fun i h => (∃ old, IsEnum h e it ((i : Nat) : Int) old) ∧ h.IsTupleIter it a i ∧ e ≠ it ∧ a ≠ it ∧ a ≠ e) where
  mem := by simp
  obj := fun i h st b hb => by
    obtain ⟨⟨old, he⟩, ⟨o, ho, hc, hd⟩, _⟩ := st
    have e' : b = e ∨ b = it := by simpa using hb
    rcases e' with z | z
    · rw [z]; exact ⟨_, he, fun v q => nomatch q⟩
    · rw [z]; exact ⟨o, ho, fun v q => by rw [hd] at q; cases q⟩
  keep := fun i h h' st k => let ⟨⟨old, he⟩, hi, hne⟩ := st; ⟨⟨old, k e (by simp) _ he⟩, hi.at fun o q => k it (by simp) o q, hne⟩
  item := by
    intro X hP hw hK hc i pins s σ H E I hf st hg
    subst hP hw hK
    obtain ⟨⟨old, he⟩, hit, hne, hai, hae⟩ := st
    obtain ⟨xs, x, hq, hx⟩ := hg
    obtain ⟨its, rv, p, hz⟩ := I.tuple hq
    have hl := rv.length
    have hel : e < s.heap.objs.size := Heap.lt_size he
    have hil : it < s.heap.objs.size := by obtain ⟨_, q, _⟩ := hit; exact Heap.lt_size q
    have hi : i < its.toArray.size := by
      have := (List.getElem?_eq_some_iff.mp hx).1
      rw [List.size_toArray]
      omega
    refine wpAny_pyNext_enum_itemD (Draws.tuple (show X.A.in1.handled = none from I.ok.hd hc) it a hai its.toArray) he ⟨hit, p⟩ hi hne (by simp only [List.mem_cons, List.not_mem_nil, or_false, not_or]; exact ⟨hne, fun z => hae z.symm⟩) fun u h' tk hu ho st' hT hsz hk => ?_
    obtain ⟨hit', _⟩ := st'
    have ru : RelV x u := by
      obtain ⟨u', hu', r⟩ := rv.get hx
      have : its.toArray[i]? = some u' := by simpa using hu'
      rw [this] at hu
      cases hu
      exact r
    refine ⟨_, rfl, wpAny_letOwnedTupleGo_enum (s := { s with heap := h', toks := tk + 1 }) ho fun h'' he' sb => ?_⟩
    have hT2 : h''.get? s.heap.objs.size = some { cls := .type "tuple", data := .seq #[.int i tk, u] } := (sb.2 _ (Nat.ne_of_gt hel)).trans hT
    have new : ObjOk X.prog X.w (upd H s.heap.objs.size (.tup [.int (i : Nat), x])) h'' s.heap.objs.size (.tup [.int (i : Nat), x]) :=
      ⟨by show 2 ≤ sizeLine; decide, [.int i tk, u], .cons ⟨_, rfl⟩ (.cons ru .nil), ⟨_, hT2, rfl, _, rfl⟩⟩
    have I1 : Inv X pins σ (upd H s.heap.objs.size (.tup [.int (i : Nat), x])) { s with heap := h'', toks := tk + 1 } :=
      I.turnedNew (ch := [e, it]) (fun b ob hb q => (sb.2 b (fun z => hb (by simp [z]))).trans (hk b ob (fun z => hb (by simp [z])) (fun z => hb (by simp [z])) q)) hf (Nat.le_refl _) new
    refine ⟨.ref s.heap.objs.size, _, I1, rfl, ⟨_, x, rfl, I.hok.fresh (Nat.le_refl _), rfl, fun ys hy => by rw [I.tuple_inj hy hq]; exact hx⟩, ⟨⟨u, ?_⟩, hit'.at fun o q => (sb.2 it (Ne.symm hne)).trans q, hne, hai, hae⟩, fun b hb => ?_⟩
    · have e1 : ((i + 1 : Nat) : Int) = (i : Int) + 1 := by omega
      rw [e1]; exact he'
    · have hb' : b < s.heap.objs.size := by
        have e' : b = e ∨ b = it := by simpa using hb
        rcases e' with z | z
        · rw [z]; exact hel
        · rw [z]; exact hil
      rw [upd_ne (Nat.ne_of_lt hb')]
      exact (hf b hb).1
  done := by
    intro X hP hw hK hc i pins s σ H E I hf st hg
    subst hP hw hK
    obtain ⟨⟨old, he⟩, hit, hne, hai, hae⟩ := st
    obtain ⟨xs, hq, hx⟩ := hg
    obtain ⟨its, rv, p, hz⟩ := I.tuple hq
    obtain ⟨f0, f1, f2, f3, f4, f5⟩ := hf it (by simp)
    have hl := rv.length
    have ei : i = its.toArray.size := by rw [List.size_toArray]; omega
    refine wpAny_pyNext_enum_endD (Draws.tuple (show X.A.in1.handled = none from I.ok.hd hc) it a hai its.toArray) he ⟨by rw [← ei]; exact hit, p⟩ fun h' eb => ⟨rfl, I.turned (t' := s.toks) (fun b o hb q => eb b o hb q) f0 f1 f3 f4 f5⟩
  self := fun A i s Q E st h => let ⟨⟨_, he⟩, _⟩ := st; wpAny_pyIter_enum he h
def iEnumT (K : PySem.W.Frag) (ta : TA) : TI := fun σ H R => ta σ H fun vs H1 => ∃ a xs, vs = [.ref a] ∧ SqT K H1 a xs ∧ R (Ieo K a) H1
theorem pi_enumT {X : Cx} {e : Expr} {ta : TA} {p pos tpos : Pos} {elts : List Expr} {kk : Nat} (hg : Gl X "enumerate") (hm : X.mg "enumerate" = none) (ha : PA X [e] ta) (hs : starEach [e] X.env = [(false, eval e X.env)] := by rfl) :
    PI X (.Tuple elts kk tpos) (.Call (.Name "enumerate" p) [e] [] pos) (iEnumT X.K ta) := by
  refine ⟨fun pins s σ H R I h => ?_⟩
  refine Call_ (ld_blt I hg hm boot_enumerate (PyProof.Rows.callWith_type1 (thn (ha.run pos pins s σ H _ I h) fun us s1 ⟨vs, H1, I1, r1, q1⟩ => ?_) hs rfl))
  obtain ⟨a, xs, ex, hq, q⟩ := q1
  subst ex
  cases r1 with
  | cons r rr =>
    cases rr
    cases r
    obtain ⟨its, rv, p', hz⟩ := I1.tuple hq
    refine enum_one (begins_tuple a its.toArray) p' fun h' he hit hk => wpAny_pyIter_enum he ?_
    have I2 : Inv X pins σ H1 { s1 with heap := h' } := I1.kept (t' := s1.toks) hk
    have hal : a < s1.heap.objs.size := p'.lt
    refine ⟨s1.heap.objs.size + 1, [s1.heap.objs.size + 1, s1.heap.objs.size], _, _, H1, rfl, I2, turn_enumT a (s1.heap.objs.size + 1) s1.heap.objs.size, ⟨⟨.none, he⟩, ⟨_, hit, rfl, rfl⟩, Nat.succ_ne_self _, Nat.ne_of_lt hal, Nat.ne_of_lt (Nat.lt_succ_of_lt hal)⟩, fun b hb => ?_, q⟩
    have e' : b = s1.heap.objs.size + 1 ∨ b = s1.heap.objs.size := by simpa using hb
    have hle : s1.heap.objs.size ≤ b := by
      rcases e' with z | z
      · rw [z]; exact Nat.le_add_right _ _
      · rw [z]; exact Nat.le_refl _
    exact I1.fpOk hle (I1.hok.fresh hle)
theorem walk_enumT {K : PySem.W.Frag} {a : Addr} {xs : List V} : Walk (Ieo K a) xs.length (fun H => SqT K H a xs) (YPair (fun i => some (.int (i : Nat))) (fun i => xs[i]?)) := by
  refine ⟨fun i _ hi q => ⟨xs, xs[i], q, by simp [hi]⟩, fun _ q => ⟨xs, q, rfl⟩, fun i H v H' _ q y => ?_⟩
  obtain ⟨T, x, h1, h2, h3, h4⟩ := y
  exact ⟨T, .int (i : Nat), x, h1, h2, h3, rfl, h4 xs q⟩
end PmR
/-! An own exception over ArithmeticError whose __init__ is walked as a def, kept by a name behind the except suite. -/
namespace PmR
open PySem PySem.Spec PyProof.Rows L2

abbrev aeTail : List Value := [.type "ArithmeticError", .type "Exception", .type "BaseException", .type "object"]
theorem typ_AE : typeOf (.type "ArithmeticError") = pure (.type "type") := by kernel_rfl

/-! ### the first field that an exception stores -/
section
open Builtin Builtin.ObjectAttr PySem.HandSPX
variable {prog : Program} {w : World} {A : Around} {R : Result → Shared → Prop} {hp : Heap} {g : Array GenState} {d : Drawn} {t : Nat} {os : OsState}
theorem ae_store {K : W.Frag} {name : Str} {tk : Tok} {v : Value} {x C : Addr} {fv : Array Value} {cd : ClassData}
    (X : K.In hp) (hx : hp.get? x = some { cls := .ref C, data := .fields fv }) (hcd : W.clsIn K C = some cd) (hm : cd.mro = .ref C :: aeTail) (hh : cd.hasDict = true) (ha : W.findIn K (.ref C) name = some none)
    (hq : ∀ h' tk' dx, (∀ b o, b ≠ x → hp.get? b = some o → h'.get? b = some o) → hp.objs.size ≤ dx → dx ≠ x → h'.get? x = some { cls := .ref C, dict := some dx, data := .fields fv } →
      h'.Ns1 dx (fun y => if y = name then some v else none) → R (.ok (.ret .none)) ⟨h', g, d, tk', os⟩) :
    codeAny (model prog w) A (.call (.builtin "object.__setattr__") ⟨[.ref x, .str name tk, v], []⟩) R ⟨hp, g, d, t, os⟩ := by
  have I : W.InstAt hp x { cls := .ref C, data := .fields fv } C none := ⟨hx, rfl, rfl, trivial⟩
  have SF := F.store_object
  have ne : cd.mro.isEmpty = false := by rw [hm]; rfl
  have hob : cd.mro.contains (.type "object") = true := by
    rw [hm, List.contains_cons]
    exact (by decide +kernel : ∀ b : Bool, (b || aeTail.contains (.type "object")) = true) _
  have hxs : x ≠ hp.objs.size := Nat.ne_of_lt (Heap.lt_size hx)
  have sub : W.Looks (model prog w) hp (isInstance (.ref x) (.type "object")) true := I.type.andThen (W.looks_mroIn X (by unfold W.mroIn; rw [hcd, Option.bind_some, if_neg (by rw [ne]; decide), hob]))
  refine codeAny_call_builtin SF.slot.plain SF.entry (@W.check_slot (model prog w) _ _ ⟨hp, g, d, t, os⟩ "object.__setattr__" "object" "__setattr__" (.ref x) [.str name tk, v] [] _ SF.kind SF.split sub (SF.args (.ref x) (.str name tk) v) ?_)
  have hmr : W.Looks (model prog w) hp (mroOf (.ref C)) cd.mro := (W.looks_clsIn X hcd).andThen .now
  have L3 : W.Looks (model prog w) hp (storeTaker? none) none := .now
  have hcls : W.Looks (model prog w) hp (classData C) cd := W.looks_clsIn X hcd
  rw [W.osa_eq, refuse_eq]
  refine wpAny_bind (wpAny_bind (I.type.at (wpAny_bind (hmr.at ?_))))
  rw [hm, refuseLoop_ref, F.store_ArithmeticError.passes (.ref x)]
  refine wpAny_pure (wpAny_bind (I.type.at (wpAny_bind ((W.looks_findIn X ha).at (wpAny_bind (L3.at ?_))))))
  show wpAny _ _ (storeInOwnDict (.ref x) (.ref C) (.str name tk) name v false) _ _ _
  obtain ⟨nm, bs, mro, ns, qn, hd, sn, sb, ab, col, del⟩ := cd
  dsimp only at hh
  subst hh
  unfold storeInOwnDict ownDictForStores
  repeat (first | with_reducible refine store_in_new ?_ ?_ | with_reducible refine wpAny_loadPart_at hx ?_ | with_reducible refine hcls.at ?_ | wp_step)
  · exact ⟨_, #[], _, (Heap.get?_update_ne _ _ _ _ hxs.symm).trans (Heap.get?_push_at rfl rfl), rfl, fun e he => absurd he (by simp), fun _ => rfl⟩
  · intro h' tk' hn' hs
    have hx₁ : (hp.push { cls := .type "dict", data := .dict #[] }).get? x = some { cls := .ref C, data := .fields fv } := Heap.get?_push_of_some _ hx
    refine hq h' tk' hp.objs.size (fun b o hb ho => ?_) (Nat.le_refl _) hxs.symm ?_ hn'
    · exact (hs.2 b (Nat.ne_of_lt (Heap.lt_size ho))).trans ((Heap.get?_update_ne _ _ _ _ hb).trans (Heap.get?_push_of_some _ ho))
    · exact (hs.2 x hxs).trans (Heap.get?_update_self _ hx₁ rfl)
end

/-- what the written part says of such a class -/
structure AeC (K : PySem.W.Frag) (C : Addr) : Prop where
  cls : ∃ nm q N bs sn sub ab col dd k0 k1 k2 k3 k5, K.lookup C = some (excClassObj nm q C N bs aeTail true sn sub ab col dd k0 k1 k2 k3 k5 "ArithmeticError.__new__")
  sa : PySem.W.findIn K (.ref C) "__setattr__" = some (some (.builtin "object.__setattr__"))
  exC : PySem.W.subIn K (.ref C) (.type "BaseException") = some true
  tyC : PySem.W.typeIn K (.ref C) = some (.type "type")
  kC : PySem.W.keepIn K (.ref C) = true
section
variable {X : Cx} {pins : List (Addr × Obj)} {σ : L2.St} {H : Hp} {s : Shared} {a C dx : Addr} {f : Str} {y : V} {u : Value} {fs : List (Str × V)} {Q : Unit → Shared → Prop} {E : Value → Shared → Prop} {A : Around}
/-- self.f = y, the first one -/
theorem ae_first (T : AeC X.K C) (I : Inv X pins σ H s) (e : H a = some (exo a C none)) (hno : PySem.W.findIn X.K (.ref C) f = some none) (ry : RelV y u)
    (h : ∀ dx s', H dx = none → dx ≠ a → Inv X pins σ (upd (upd H dx (exd dx [(f, y)])) a (exo a C (some dx))) s' → Q () s') : wpAny (model X.prog X.w) A (setAttr (.ref a) f u) Q E s := by
  obtain ⟨nm, q, N, bs, sn, sub, ab, col, dd, k0, k1, k2, k3, k5, hC⟩ := T.cls
  have hcl : PySem.W.clsIn X.K C = some { name := nm, bases := bs, mro := .ref C :: aeTail, ns := N, qualname := q, hasDict := true, slotNames := sn, subclasses := sub, abstract := ab, collection := col, hasDel := false } := by
    unfold PySem.W.clsIn
    rw [hC]
    all_goals rfl
  obtain ⟨t1, ho⟩ := exo_at I.hok e
  obtain ⟨hp, g, d, t, os⟩ := s
  refine PySem.W.set_plain I.kIn (ox := { cls := .ref C, dict := none, data := .fields #[.ref t1, .none, .none, .none, .bool false, .none] }) (od := none) ⟨ho, rfl, rfl, trivial⟩ T.sa ?_
  refine ae_store I.kIn ho hcl rfl rfl hno (fun h' tk' dx k dn dne hx hn => ?_)
  have fresh : H dx = none := I.hok.fresh dn
  have ndx : ∀ {b : Addr} {o : Obj}, hp.get? b = some o → b ≠ dx := fun {b o} q => Nat.ne_of_lt (Nat.lt_of_lt_of_le (Heap.lt_size q) dn)
  have nda : ∀ {b : Addr}, H b = none → b ≠ a := fun {b} n z => by
    rw [z, e] at n
    cases n
  have U : Un X.fs [] H (upd (upd H dx (exd dx [(f, y)])) a (exo a C (some dx))) hp h' := by
    refine ⟨fun b o q n _ _ => k b o (nda n) q, fun b o q n _ _ => ⟨o.slots, k b o (nda n) q⟩, fun b o q n _ => ?_, fun b o q _ => ?_, fun b xs q => ?_, fun b o v q => ?_, fun b ps q => ⟨#[], ?_⟩⟩
    · rw [upd_ne (nda n), upd_ne (ndx q)]
      exact n
    · by_cases hb : b = a
      · exact ⟨_, by rw [hb]; exact hx⟩
      · exact ⟨o, k b o hb q⟩
    · rw [upd_ne (at_ne e q exo_tup), upd_ne (ne_of_none q fresh)]
      exact q
    · rw [upd_ne (at_ne e q exo_frz), upd_ne (ne_of_none q fresh)]
      exact q
    · rw [upd_ne (at_ne e q exo_tbl), upd_ne (ne_of_none q fresh), q]
      simp
  refine h dx _ fresh dne (I.un (t' := tk') U fun b o q => ?_)
  by_cases hb : b = a
  · subst hb
    rw [upd_same] at q
    cases q
    exact exo_ok hx
  · rw [upd_ne hb] at q
    by_cases hd : b = dx
    · subst hd
      rw [upd_same] at q
      cases q
      exact exd_ok hn (relO_put (fs := []) ry fun g => True.intro)
    · rw [upd_ne hd] at q
      refine (I.hok b o q).stay (fun c v hc z => k c v ?_ z) (fun c hc => ?_) (fun c xs hc => ?_)
      · rcases hc with hc | hc
        · rw [hc]
          exact hb
        · exact at_ne e hc exo_own
      · rw [upd_ne (at_ne e hc exo_own), upd_ne (ne_of_none hc fresh)]
        exact hc
      · rw [upd_ne (at_ne e hc exo_tup), upd_ne (ne_of_none hc fresh)]
        exact hc
/-- ArithmeticError.__init__(self, ..) -/
theorem ae_init {us : List Value} {Q : Value → Shared → Prop} (T : AeC X.K C) (I : Inv X pins σ H s) (e : H a = some (exo a C none)) (hl : us.length ≤ sizeLine) (h : ∀ s', Inv X pins σ H s' → Q .none s') :
    wpAny (model X.prog X.w) A (call (.builtin "ArithmeticError.__init__") (.ref a :: us)) Q E s := by
  obtain ⟨nm, q, N, bs, sn, sub, ab, col, dd, k0, k1, k2, k3, k5, hC⟩ := T.cls
  obtain ⟨t1, ho⟩ := exo_at I.hok e
  obtain ⟨hp, g, d, t, os⟩ := s
  refine wpAny_call (PySem.HandSPX.init_base F.excBase_ArithmeticError (fun Y => rfl) (I.kIn _ _ hC) ho hl fun h' t2 k hx => ?_)
  have J := I.write (t' := t) (x := a) (e := a) (o := exo a C none) (by rw [e]; exact True.intro) (.inl rfl) k ⟨_, hx⟩ (exo_ok hx)
  have same : upd H a (exo a C none) = H := by
    funext b
    by_cases hb : b = a
    · rw [hb, upd_same, e]
    · rw [upd_ne hb]
  rw [same] at J
  exact h _ J
end

/-! ### readings and rules -/
def tAeI (K : PySem.W.Frag) (ta : TA) : TE := fun σ H Q => ta σ H fun vs H1 => ∃ (a C : Addr) (ws : List V), vs = .ref a :: ws ∧ ws.length ≤ 1000 ∧ AeC K C ∧ H1 a = some (exo a C none) ∧ Q .non H1
def tAeF (K : PySem.W.Frag) (f : Str) (to te : TE) : TS := fun D σ H => te σ H fun y H1 => to σ H1 fun x H2 => ∃ a C : Addr, x = .ref a ∧ AeC K C ∧ PySem.W.findIn K (.ref C) f = some none ∧
  H2 a = some (exo a C none) ∧ ∀ dx, H2 dx = none → dx ≠ a → D.nx σ (upd (upd H2 dx (exd dx [(f, y)])) a (exo a C (some dx)))
section
variable {X : Cx} {o e : Expr} {es : List Expr} {to te : TE} {ta : TA} {f : Str} {p p' p1 p2 pos : Pos}
theorem pe_aeI {pl : Sem Bool} (hg : Gl X "ArithmeticError") (hm : X.mg "ArithmeticError" = none) (vV : PySem.W.findCls X.K (.type "ArithmeticError") (.type "type") "__init__" = some (.val (.builtin "ArithmeticError.__init__"))) (ha : PA X (e :: es) ta)
    (hc : eval (.Call (.Attribute (.Name "ArithmeticError" p1) "__init__" p2) (e :: es) [] pos) X.env = (do
      let ov ← eval (.Name "ArithmeticError" p1) X.env
      standAt p2.atName
      let (f, first) ← holding [ov] (getMethod ov "__init__" pl)
      callWith pos f first (backTo pos (starEach (e :: es) X.env)) (backToKw pos (keywordEach [] X.env))) := by rfl)
    (he : starEach (e :: es) X.env = (false, eval e X.env) :: starEach es X.env := by rfl) (hpl : (backTo pos (starEach es X.env)).any (·.1) = false := by rfl) :
    PE X (.Call (.Attribute (.Name "ArithmeticError" p1) "__init__" p2) (e :: es) [] pos) (tAeI X.K ta) := by
  refine ⟨fun pins s σ H Q I h => ?_⟩
  refine PySem.W.methodCall_KW (ld_blt I hg hm PyProof.Rows.Boot.«ArithmeticError» ?_ (by decide) (by decide)) hc
  obtain ⟨m, fr⟩ := I.fr
  refine PySem.W.method_type fr I.ok.mod.kin typ_AE (by decide +kernel) vV (by decide +kernel) ?_
  show wpAny _ _ (callWith pos (Value.builtin "ArithmeticError.__init__") [] (backTo pos (starEach (e :: es) X.env)) []) _ _ _
  refine PyProof.Rows.callWith_method1 (thn (ha.run pos pins _ σ H _ (I.tok _) h) fun us s1 ⟨vs, H1, I1, r1, a, C, ws, ev, hl, T, ea, q⟩ => ?_) he hpl
  subst ev
  cases r1 with
  | @cons _ u0 _ ur ra rw' =>
    obtain rfl : u0 = Value.ref a := ra
    have hlen : ur.length ≤ sizeLine := by
      rw [← Paired.length rw', sizeLine_eq]
      omega
    exact ae_init T I1 ea hlen fun s' J => ⟨.non, H1, J, rfl, q⟩
theorem ps_aeF (ho : PE X o to) (he : PE X e te) (hs : swapsWith e (some (.Attribute o f p')) pos.line X.env = pure false := by rfl) : PS X (.Assign [.Attribute o f p'] e pos) (tAeF X.K f to te) := by
  refine ⟨fun pins s σ H D I h => ?_⟩
  refine plainObj_wpAny_Assign_Attribute (thn (he.run pins s σ H _ I h) fun v s1 ⟨y, H1, I1, r1, q1⟩ => thn (ho.run pins s1 σ H1 _ I1 q1) fun u s2 ⟨x, H2, I2, r2, a, C, ex, T, hno, ea, q⟩ => ?_) hs
  subst ex
  obtain rfl : u = Value.ref a := r2
  exact ae_first T I2 ea hno r1 fun dx s' n ne J => ⟨σ, _, J, q dx n ne⟩
theorem pmk_ae {CX : CXT} {x : Str} {C fI : Addr} {k : Nat} {fd : FuncData} {ps : List Str} {sp : Sp} {ds : List Value} {dvs : List V} (T : AeC X.K C) (iC : PySem.W.findIn X.K (.ref C) "__init__" = some (some (.ref fI))) (tI : PySem.W.typeIn X.K (.ref fI) = some (.type "function"))
    (F1 : FnOk X.prog X.w X.K X.mg X.base CX k fI fd ps sp) (hr : Room (k + 1) X.A) (hb : Binds X.K fd ps ds) (hd : Vals dvs ds) (hx : Passes CX X (fun _ _ _ => False)) (hg : Gl X x) (hm : X.mg x = some (.ref C)) (ha : PA X (e :: es) ta)
    (hdb : (x == ("__debug__" : Str)) = false := by decide) (he : starEach (e :: es) X.env = (false, eval e X.env) :: starEach es X.env := by rfl) (hpl : (backTo pos (starEach es X.env)).any (·.1) = false := by rfl) :
    PMk X (.Call (.Name x p) (e :: es) [] pos) (tMkO C sp dvs ta) := by
  intro pins s σ H Q I h
  obtain ⟨nm, q, N, bs, sn, sub, ab, col, dd, k0, k1, k2, k3, k5, hC⟩ := T.cls
  refine wpAny_Call_Name_kw (ld_glob I hg hm ?_ hdb)
  refine PySem.W.callWith_K (h₀ := X.base) I.ok.mod.kin T.kC (thn (ha.run pos pins s σ H _ I h) fun us s1 ⟨vs, H1, I1, r1, hz, q1⟩ => ⟨I1.kIn, ?_⟩) he hpl
  show wpAny _ _ (call (.ref C) us) _ _ _
  obtain ⟨hp, g, dr, tk, os⟩ := s1
  have hsz : hp.objs.size ≤ hp.objs.size + 1 := Nat.le_succ _
  have hn : H1 (hp.objs.size + 1) = none := I1.hok.fresh hsz
  have hq := q1 (hp.objs.size + 1) hn
  have kk : ∀ b o, hp.get? b = some o → ((hp.push (PySem.W.kdv_tup us)).push (PySem.HandSPX.excO C hp.objs.size)).get? b = some o := fun b o e => Heap.get?_push_of_some _ (Heap.get?_push_of_some _ e)
  have hget : ((hp.push (PySem.W.kdv_tup us)).push (PySem.HandSPX.excO C hp.objs.size)).get? (hp.objs.size + 1) = some (PySem.HandSPX.excO C hp.objs.size) := by heap_get
  have I2 : Inv X pins σ (upd H1 (hp.objs.size + 1) (exo (hp.objs.size + 1) C none)) ⟨(hp.push (PySem.W.kdv_tup us)).push (PySem.HandSPX.excO C hp.objs.size), g, dr, tk, os⟩ :=
    I1.laid (t' := tk) (a := hp.objs.size + 1) (o := exo (hp.objs.size + 1) C none) (h' := (hp.push (PySem.W.kdv_tup us)).push (PySem.HandSPX.excO C hp.objs.size)) kk hsz (exo_ok hget)
  have r2 : Vals (V.ref (hp.objs.size + 1) :: (vs ++ dvs)) (Value.ref (hp.objs.size + 1) :: (us ++ ds)) := .cons rfl (r1.append hd)
  have hl : (Value.ref (hp.objs.size + 1) :: us ++ ds).length = ps.length := by
    have e := r2.length
    rw [F1.len _ _ _ _ hq] at e
    exact e.symm
  have hus : us.length ≤ sizeLine := by
    rw [← Paired.length r1, sizeLine_eq]
    omega
  refine wpAny_call (PySem.HandSPX.call_own F.excBase_ArithmeticError (fun Y => rfl) (I1.kIn _ _ hC) (PySem.W.looks_findIn I1.kIn iC) (fun self => PySem.W.bind_fn I1.kIn self tI) hus
    (codeAny_mono (F1.run _ X.stack _ _ ⟨Value.ref (hp.objs.size + 1) :: us, []⟩ (Value.ref (hp.objs.size + 1) :: (us ++ ds)) _ _ (fun _ _ _ => False) (hr.make C us []) (I2.env0.make C us []) (hb _ (Value.ref (hp.objs.size + 1) :: us) I2.kIn hl) r2 hq) fun r s' hq' => ?_))
  cases r with
  | error er => exact hx pins σ _ _ er s' I2 hq'
  | ok fl =>
    cases fl with
    | ret u =>
      obtain ⟨v, H2, os2, bare2, un2, hok2, rv, ev, d, fs, ea, ed, hd1, q2⟩ := hq'
      subst ev
      obtain ⟨h2, g2, d2, t2, os'⟩ := s'
      exact ⟨rv, mk_end (raises_own T.exC T.tyC) I1 hsz kk un2 hok2 os2 bare2 ea ed hd1 q2⟩
    | next => exact False.elim hq'
    | brk => exact False.elim hq'
    | cont => exact False.elim hq'
end
end PmR
/-! try: body / except x as n: m = n, where the exception is read by m behind it. -/
namespace PmR
open PySem PySem.Spec PyProof.Rows L2

/-- an exception that is kept: its class, its dict -/
def KeptO (a : Addr) (cls : Value) (d : Option Addr) : HO := .ext fun h => ∃ oe vs, h.get? a = some oe ∧ Zc cls d oe ∧ oe.data = .fields vs
theorem kept_ok {P : Program} {w : World} {H : Hp} {h : Heap} {a : Addr} {cls : Value} {d : Option Addr} {oe : Obj} {vs : Array Value} (e : h.get? a = some oe) (z : Zc cls d oe) (hd : oe.data = .fields vs) : ObjOk P w H h a (KeptO a cls d) :=
  ⟨⟨oe, vs, e, z, hd⟩, ⟨_, e⟩, fun h1 h2 p k => by
    obtain ⟨o, us, q, r⟩ := p
    exact ⟨o, us, k _ q, r⟩⟩
section
variable {X : Cx} {pins : List (Addr × Obj)} {σ : L2.St} {H : Hp} {s : Shared}
/-- an untracked object of ours, younger than the entry, is tracked from now on -/
theorem adopt {a : Addr} {o : HO} (I : Inv X pins σ H s) (na : H a = none) (young : X.s_0.heap.get? a = none) (nL : a ≠ X.env.locals) (nc : ∀ x c, X.env.cells.lookup x = some c → c ≠ a) (np : ∀ p ∈ X.pn ++ pins, p.1 ≠ a)
    (new : ObjOk X.prog X.w (upd H a o) s.heap a o) : Inv X pins σ (upd H a o) s := by
  have ne : ∀ {b : Addr} {u : HO}, H b = some u → b ≠ a := fun {b u} e z => by
    rw [z, na] at e
    cases e
  refine ⟨I.ok, I.os, I.bare, ⟨I.base.keep, I.base.slot, fun b ob e n hx => ?_, I.base.there, fun b xs e => ?_, fun b ob u e => ?_, fun b ps e => ?_⟩, I.loc, I.cell, ?_, fun x c e => ?_, fun p hp => ?_, fun b u e => ?_, I.len⟩
  · have hb : b ≠ a := fun z => by
      rw [z, young] at e
      cases e
    rw [upd_ne hb]
    exact I.base.free b ob e n hx
  · have q := I.base.tups b xs e
    rw [upd_ne (ne q)]
    exact q
  · have q := I.base.frzs b ob u e
    rw [upd_ne (ne q)]
    exact q
  · obtain ⟨m, q⟩ := I.base.tbls b ps e
    exact ⟨m, by rw [upd_ne (ne q)]; exact q⟩
  · rw [upd_ne (Ne.symm nL)]
    exact I.free
  · rw [upd_ne (nc x c e)]
    exact I.freeC x c e
  · obtain ⟨p1, p2, p3⟩ := I.pin p hp
    exact ⟨p1, by rw [upd_ne (np p hp)]; exact p2, p3⟩
  · by_cases hb : b = a
    · subst hb
      rw [upd_same] at e
      cases e
      exact new
    · rw [upd_ne hb] at e
      refine (I.hok b u e).stay (fun c v _ q => q) (fun c q => ?_) (fun c xs q => ?_)
      · rw [upd_ne (ne q)]
        exact q
      · rw [upd_ne (ne q)]
        exact q
end

/-- the clause's wish: slot i is the clause's name, slot j keeps the exception -/
def wKeep (K : PySem.W.Frag) (c : Value) (i j : Nat) (D : Ends) : WX := fun cls d σ H =>
  PySem.W.exmOne K cls c = some true ∧ ∀ a, H a = none → D.nx (((σ.set i (some (.ref a))).set j (some (.ref a))).set i none) (upd H a (KeptO a cls d))
section
variable {X : Cx} {x n m : Str} {c : Value} {i j : Nat} {body : List Stmt} {np pos pos' mp np2 ap : Pos} {tb : WX → TS}
theorem ps_try_keep (hex : X.ex = []) (hs : X.stack = X.env :: X.outer) (hf : X.env.frame = some X.env.locals) (hN : X.N.Nodup) (hi : X.N[i]? = some n) (hj : X.N[j]? = some m) (hij : i ≠ j) (hln : X.env.kindOf n = some .local) (hlm : X.env.kindOf m = some .local) (hc : Names X x c)
    (hdn : (n == ("__debug__" : Str)) = false) (hcn : (n == ("__classdict__" : Str)) = false)
    (hb : ∀ (W : WX) (pn : List (Addr × Obj)) (xe : Value → Shared → Prop), Takes (X.tr pn xe) W → PassesOwn (model X.prog X.w) X.A X.env xe → PSs (X.tr pn xe) body (tb W))
    (hsw : ∀ Y : Cx, Y.env = X.env → swapsWith (.Name n np2) (some (.Name m mp)) ap.line Y.env = pure false) :
    PS X (.Try body [.ExceptHandler (some (.Name x np)) (some n) [.Assign [.Name m mp] (.Name n np2) ap] pos'] [] [] pos) (fun D σ H => tb (wKeep X.K c i j D) D σ H) := by
  refine ⟨fun pins s σ H D I h => ?_⟩
  have ok := I.ok
  have hfr : X.A.frames = some (X.env :: X.outer) := by rw [ok.frames, hs]
  have hloc : Loc X.env.scope n := .inl hln
  refine wpAny_Try_except ?_
  refine wpAny_mono ((hb (wKeep X.K c i j D) (X.pn ++ pins) (fun e s₁ => wpAny (model X.prog X.w) X.A (noteFrame e X.env) (fun _ s₂ => wpAny (model X.prog X.w) X.A (setFlight e none) (fun _ s₃ =>
    wpAny (model X.prog X.w) X.A (handleBy e X.env [.ExceptHandler (some (.Name x np)) (some n) [.Assign [.Name m mp] (.Name n np2) ap] pos']) (SP X pins D) X.xe s₃) X.xe s₂) X.xe s₁) (fun u s' xx => ?_) PassesOwn.looking).run [] s σ H D (I.toTry _) h) (fun f s1 hsp => ?_) (fun e s1 he => he)
  · obtain ⟨a, B, sI, pins', σ', H', cls, d, rfl, J', nb, up, sky, na, os, ag, hb1, hyes⟩ := xx
    have J : Inv X pins σ' H' sI := J'.ofTry ok
    have sky' : Sky B (X.env :: X.outer) a (Zc cls d) X.env.locals s'.heap := by rw [← hs]; exact sky
    show wpAny (model X.prog X.w) X.A (noteFrame (.ref a) X.env) _ _ _
    refine Sky.land Zc.steady hfr hf sky' fun h3 fl3 up3 => ?_
    have J3 : Inv X pins σ' H' { s' with heap := h3 } := J.landed nb fl3.1 (up.trans up3) os ag
    obtain ⟨oe3, vs3, he3, hz3, hd3⟩ := fl3.there
    have notFr : ∀ {h : Heap} {o : Obj} {vs : Array Value}, h.FunFrames B (X.env :: X.outer) → h.get? a = some o → o.data = .fields vs → a ∉ frs (X.env :: X.outer) := fun {h o vs} ff e dd hm => by
      obtain ⟨_, o', e', hnf⟩ := ff.mem hm
      rw [e] at e'
      cases e'
      exact hnf _ dd
    have nfr := notFr fl3.2.2.1 he3 hd3
    have nfs : a ∉ frs X.stack := by rw [hs]; exact nfr
    have nL : a ≠ X.env.locals := fun z => nfr (List.mem_filterMap.mpr ⟨X.env, List.mem_cons_self, by rw [hf, z]⟩)
    have nF : a ∉ X.fs := fun hm => by
      obtain ⟨e, he, q⟩ := List.mem_filterMap.mp hm
      exact nfr (List.mem_filterMap.mpr ⟨e, List.mem_cons_of_mem _ he, q⟩)
    have nB : B.get? a = none := fl3.2.1
    -- what stood of ours ahead stands in the ground; the exception doesn't
    have ours : ∀ o, sI.heap.get? a ≠ some o := fun o e => by
      have z := nb a o e nfs
      rw [nB] at z
      cases z
    have young : X.s_0.heap.get? a = none := by
      cases q : X.s_0.heap.get? a with
      | none => rfl
      | some o =>
        obtain ⟨o', q'⟩ := J.base.there a o q (by rw [hex]; exact List.not_mem_nil)
        exact absurd q' (ours o')
    have nc : ∀ x c, X.env.cells.lookup x = some c → c ≠ a := fun y c e z => by
      obtain ⟨v, o, q, _⟩ := J.cell y c e
      rw [z] at q
      exact ours o q
    have npn : ∀ p ∈ X.pn ++ pins, p.1 ≠ a := fun p hp z => by
      have q := (J.pin p hp).1
      rw [z] at q
      exact ours _ q
    have S3 := J3.suite he3 hd3 na nL nF
    refine wpAny_handleBy_cons (codeAny_handlers_test ?_) (by intro q; cases q)
    have LT : PySem.W.Looks (model X.prog X.w) h3 (typeOf (.ref a)) cls := fun A Q E s k q => wpAny_typeOf_ref (k _ _ he3) (by rw [hz3.1]; exact q)
    have LM := PySem.W.exm_one (M := model X.prog X.w) (J3.kIn) LT hb1
    have test : ∀ {Q : Value → Shared → Prop} {E : Value → Shared → Prop}, Q c { s' with heap := h3 } → wpAny (model X.prog X.w) (X.A.mark (some (.ref a))) (eval (.Name x np) X.env) Q E { s' with heap := h3 } := fun {Q E} q => by
      obtain ⟨hg, hdbg, hm | ⟨hm, hv, hnn⟩⟩ := hc
      · exact ld_glob (X := X.suite a ((a, oe3) :: (X.pn ++ pins))) S3 hg hm q hdbg
      · exact ld_blt (X := X.suite a ((a, oe3) :: (X.pn ++ pins))) S3 hg hm hv q hnn hdbg
    refine test (LM.here ?_)
    refine codeAny_handlers_suite_as ?_
    refine HandSPX.lands_againZ fl3 fun h4 fl4 up4 => ?_
    have J4 : Inv X pins σ' H' { s' with heap := h4 } := J.landed nb fl4.1 ((up.trans up3).trans up4) os ag
    obtain ⟨oe4, vs4, he4, hz4, hd4⟩ := fl4.there
    have S4 := J4.suite he4 hd4 na nL nF
    refine store_ok (X := X.suite a ((a, oe4) :: (X.pn ++ pins))) (v := .ref a) S4 hN hi hloc rfl (fun s5 S5 => ?_) (.inr hln)
    have T : PSs (X.suite a ((a, oe4) :: (X.pn ++ pins))) [.Assign [.Name m mp] (.Name n np2) ap] (tAsg (tVar i) (gName j)) :=
      pss_one (ps_set (X := X.suite a ((a, oe4) :: (X.pn ++ pins))) (i := j) hN hj (.inl hlm) (pe_var (X := X.suite a ((a, oe4) :: (X.pn ++ pins))) hi (.inl hln) hdn hcn) (hsw _ rfl) (.inr hlm))
    have hlen : i < σ'.length := by
      rw [J.len]
      exact (List.getElem?_eq_some_iff.mp hi).1
    refine wpAny_mono (T.run [] s5 _ H' { nx := fun σ6 H6 => σ6 = (σ'.set i (some (.ref a))).set j (some (.ref a)) ∧ H6 = H', rt := fun _ _ => False } S5 ⟨.ref a, List.getElem?_set_self hlen, rfl, rfl⟩) (fun f s6 hsp => ?_) (fun _ _ z => False.elim z)
    cases f with
    | next =>
      obtain ⟨σ6, H6, S6, e6, eH⟩ := hsp
      subst e6 eH
      have P6 : Inv X ((a, oe4) :: pins) ((σ'.set i (some (.ref a))).set j (some (.ref a))) H6 s6 := ⟨ok, S6.os, S6.bare, S6.base, S6.loc, S6.cell, S6.free, S6.freeC, fun p hp => S6.pin p (by
        rw [List.append_nil]
        rcases List.mem_append.mp hp with q | q
        · exact List.mem_cons_of_mem _ (List.mem_append_left _ q)
        · rcases List.mem_cons.mp q with e | q
          · rw [e]
            exact List.mem_cons_self
          · exact List.mem_cons_of_mem _ (List.mem_append_right _ q)), S6.hok, S6.len⟩
      refine gone_ok P6 hN hi hln fun s7 J7 => ?_
      have J8 : Inv X pins _ H6 s7 := J7.pins_of fun p hp => J7.pin p (List.mem_append_right _ (List.mem_cons_of_mem _ hp))
      have g7 := (J7.pin (a, oe4) (List.mem_append_right _ List.mem_cons_self)).1
      exact ⟨_, _, adopt (o := KeptO a cls d) J8 na young nL nc npn (kept_ok g7 hz4 hd4), hyes a na⟩
    | brk =>
      obtain ⟨_, _, _, q⟩ := hsp
      exact False.elim q
    | cont =>
      obtain ⟨_, _, _, q⟩ := hsp
      exact False.elim q
    | ret u =>
      obtain ⟨_, _, _, _, _, q⟩ := hsp
      exact False.elim q
  · cases f with
    | next =>
      obtain ⟨σ', H', J', q⟩ := hsp
      exact wpAny_execs_nil ⟨σ', H', J'.ofTry ok, q⟩
    | brk =>
      obtain ⟨σ', H', J', q⟩ := hsp
      exact ⟨σ', H', J'.ofTry ok, q⟩
    | cont =>
      obtain ⟨σ', H', J', q⟩ := hsp
      exact ⟨σ', H', J'.ofTry ok, q⟩
    | ret u =>
      obtain ⟨v, σ', H', J', r, q⟩ := hsp
      exact ⟨v, σ', H', J'.ofTry ok, r, q⟩
end

/-! ### the kept exception is read -/
/-- what its class must say -/
structure KeptC (K : PySem.W.Frag) (C : Addr) : Prop where
  ga : PySem.W.findIn K (.ref C) "__getattribute__" = some (some (.builtin "BaseException.__getattribute__"))
  gg : PySem.W.findIn K (.ref C) "__getattr__" = some none
  exC : PySem.W.subIn K (.ref C) (.type "BaseException") = some true
  hdC : PySem.W.hasDictIn K C = true
  ha : PySem.W.findIn K (.ref C) "__class__" = some (some (.builtin "object.__class__"))
  hn : PySem.W.specialIn K (.builtin "object.__class__") "__get__" = some (some (.builtin "getset_descriptor.__get__"))
  ht : PySem.W.takesIn K (.builtin "object.__class__") = some true
  hm : PySem.W.mroIn K C (.type "object") = some true
section
variable {X : Cx} {pins : List (Addr × Obj)} {σ : L2.St} {H : Hp} {s : Shared}
theorem kept_at {a C dd : Addr} {fs : List (Str × V)} (I : Inv X pins σ H s) (ea : H a = some (KeptO a (.ref C) (some dd))) (ed : H dd = some (.xd fs)) :
    ∃ (oe od : Obj), PySem.W.InstAt s.heap a oe C (some od) ∧ ∀ (f : Str) (v : V), fs.lookup f = some v → ∃ u, PySem.W.lookIn f od = some (some u) ∧ RelV v u := by
  obtain ⟨⟨oe, vs, g, z, hd⟩, _⟩ := I.hok a _ ea
  obtain ⟨mA, hns, hr⟩ := (show ObjOk X.prog X.w H s.heap dd (.xd fs) from I.hok dd _ ed)
  obtain ⟨od, ho, hl⟩ := lookIn_ns hns
  refine ⟨oe, od, ⟨g, z.1, ?_, ?_⟩, fun f v l => ?_⟩
  · unfold PySem.W.notCls
    rw [hd]
    all_goals rfl
  · rw [z.2]
    exact ho
  · obtain ⟨u, hu, ru⟩ := RelO.some_of (v := v) (o := mA f) (by rw [← l]; exact hr f)
    exact ⟨u, by rw [hl, hu], ru⟩
/-- m.f, m the kept exception -/
def tKeptF (K : PySem.W.Frag) (f : Str) (te : TE) : TE := fun σ H Q => te σ H fun x H1 => ∃ (a C dd : Addr) (fs : List (Str × V)) (v : V), x = .ref a ∧ H1 a = some (KeptO a (.ref C) (some dd)) ∧ H1 dd = some (.xd fs) ∧ KeptC K C ∧
  PySem.W.findIn K (.ref C) f = some none ∧ fs.lookup f = some v ∧ Q v H1
theorem pe_keptF {e : Expr} {te : TE} {pos : Pos} {f : Str} (he : PE X e te) (hb : attributeBase e f X.env (eval e X.env) = eval e X.env := by rfl) : PE X (.Attribute e f pos) (tKeptF X.K f te) := by
  refine ⟨fun pins s σ H Q I h => ?_⟩
  refine attr_of hb (thn (he.run pins s σ H _ I h) fun u s1 hh => ?_)
  obtain ⟨x, H1, I1, rx, a, C, dd, fs, v, ex, ea, ed, T, hno, l, q⟩ := hh
  subst ex
  obtain rfl : u = Value.ref a := rx
  obtain ⟨oe, od, J, hl⟩ := kept_at I1 ea ed
  obtain ⟨u, hu, ru⟩ := hl f v l
  exact HandSPX.exc_get I1.kIn J T.ga T.gg T.exC (PySem.W.findObj_own T.hdC hno rfl hu) (handed_of ru) ⟨v, H1, I1.tok _, ru, q⟩
/-- isinstance(m, D), m the kept exception, D an own class -/
def rIsKept (K : PySem.W.Frag) : List V → Hp → VK → Prop := fun xs H Q => ∃ (a C D dd : Addr) (fs : List (Str × V)) (b : Bool), xs = [.ref a, .ref D] ∧ H a = some (KeptO a (.ref C) (some dd)) ∧ H dd = some (.xd fs) ∧ KeptC K C ∧
  PySem.W.kitOne K (.ref C) (.ref D) = some b ∧ Q (.bl b) H
theorem call_isKept : CallR X (.builtin "isinstance") (rIsKept X.K) := by
  intro pins s σ H xs us Q I r h
  obtain ⟨a, C, D, dd, fs, b, rfl, ea, ed, T, e, q⟩ := h
  obtain ⟨u1, u2, rfl, r1, r2⟩ := vals2 r
  cases r1
  cases r2
  obtain ⟨oe, od, J, _⟩ := kept_at I ea ed
  have hcl : (PySem.W.clsIn X.K C).isSome = true := by
    obtain ⟨cd, hc, _⟩ := PySem.W.any_some T.hdC
    rw [hc]
    rfl
  exact PySem.W.kia_one (PySem.W.kitx_exc hcl T.ga T.gg T.exC T.ha T.hn T.ht T.hm) I.kIn J e (fun z => nomatch z) fun tk => ⟨.bl b, H, I.kept (t' := tk) fun _ _ z => z, rfl, q⟩
end
end PmR
/-! The text by places, orders as tuples of the heap. -/
namespace PmW
open PySem PySem.Spec PyProof.Rows L2 PmR PM
/-! ### the text -/
def top (i : Nat) : Stmt := PySem.Challenge.pw_passmarks_k17_whole_short_words_by_numbe.main.body.getD i (.Pass ⟨0, 0, 0, 0⟩)
abbrev sWhole : Stmt := top 2
abbrev sListing : Stmt := top 3
abbrev sCopied : Stmt := top 4
abbrev sTooManyI : Stmt := inClass (top 9) 0
abbrev sWordFault : Stmt := top 14
abbrev sNeedWord : Stmt := top 15
abbrev sNeedPlaces : Stmt := top 17
abbrev sExchanged : Stmt := top 18
abbrev sOrderOf : Stmt := top 19
abbrev sOrderFault : Stmt := top 20
abbrev sNeedOrder : Stmt := top 21
abbrev sJoined : Stmt := top 22
abbrev sUndone : Stmt := top 23
abbrev sNeedFew : Stmt := top 26
abbrev sFirsts : Stmt := top 27
abbrev sCalledOn : Stmt := top 28
abbrev sCountsI : Stmt := inClass (top 29) 0
abbrev sMany : Stmt := inClass (top 29) 1
abbrev sManyShort : Stmt := top 30
abbrev sShortAt : Stmt := top 31
abbrev sShortNumber : Stmt := top 32
abbrev sWhoPass : Stmt := top 34
abbrev sIsShort : Stmt := top 35
abbrev sLesser : Stmt := top 36
abbrev sToldForm : Stmt := top 37
abbrev sPen : Stmt := top 39
abbrev sDraw : Stmt := top 40
abbrev sPick : Stmt := top 41
abbrev sShuffled : Stmt := top 42
abbrev sShortWord : Stmt := top 43
abbrev sMirrored : Stmt := top 44
abbrev sWordsRight : Stmt := top 45
abbrev sFirstRight : Stmt := top 46
abbrev sIsRefused : Stmt := top 47
abbrev sLaw : Stmt := top 48

/-! ### orders as values -/
/-- as whole numbers -/
def ci (o : List Nat) : List Int := o.map fun (n : Nat) => (n : Int)
/-- as values -/
def vi (o : List Nat) : List V := (ci o).map V.int
theorem ci_len (o : List Nat) : (ci o).length = o.length := List.length_map _
theorem vi_len (o : List Nat) : (vi o).length = o.length := by unfold vi; rw [List.length_map, ci_len]
theorem ci_get {o : List Nat} {i n : Nat} (h : o[i]? = some n) : (ci o)[i]? = some (n : Int) := by unfold ci; rw [List.getElem?_map, h]; rfl
theorem vi_get {o : List Nat} {i n : Nat} (h : o[i]? = some n) : (vi o)[i]? = some (V.int (n : Int)) := by unfold vi; rw [List.getElem?_map, ci_get h]; rfl
theorem vi_get_inv {o : List Nat} {i : Nat} {x : V} (h : (vi o)[i]? = some x) : ∃ n, o[i]? = some n ∧ x = V.int (n : Int) := by
  have hi := (List.getElem?_eq_some_iff.mp h).1
  rw [vi_len] at hi
  have e := List.getElem?_eq_getElem hi
  rw [vi_get e] at h
  exact ⟨_, e, (Option.some.inj h).symm⟩
theorem ci_mem {o : List Nat} {k : Nat} : (k : Int) ∈ ci o ↔ k ∈ o := by
  unfold ci
  rw [List.mem_map]
  exact ⟨fun ⟨n, hn, e⟩ => by have : n = k := by omega
                              exact this ▸ hn, fun h => ⟨k, h, rfl⟩⟩
theorem ci_mem_inv {o : List Nat} {k : Int} (h : k ∈ ci o) : ∃ n : Nat, k = (n : Int) ∧ n ∈ o := by
  unfold ci at h
  obtain ⟨n, hn, e⟩ := List.mem_map.mp h
  exact ⟨n, e.symm, hn⟩
theorem ci_idx (k : Nat) : ∀ o : List Nat, (ci o).idxOf (k : Int) = o.idxOf k
  | [] => rfl
  | x :: r => by
    show ((x : Int) :: ci r).idxOf (k : Int) = _
    rw [List.idxOf_cons, List.idxOf_cons, ci_idx k r]
    by_cases e : x = k
    · subst e
      simp
    · have e' : ¬ (x : Int) = (k : Int) := fun z => e (by omega)
      rw [show ((x : Int) == (k : Int)) = false from beq_eq_false_iff_ne.mpr e', show (x == k) = false from beq_eq_false_iff_ne.mpr e]
theorem ci_append (a b : List Nat) : ci (a ++ b) = ci a ++ ci b := List.map_append
theorem vi_append (a b : List Nat) : vi (a ++ b) = vi a ++ vi b := by unfold vi; rw [ci_append, List.map_append]
theorem vi_cons (a : Nat) (b : List Nat) : vi (a :: b) = V.int (a : Int) :: vi b := rfl
theorem vi_nil : vi [] = [] := rfl
theorem vi_take (o : List Nat) (k : Nat) : (vi o).take k = vi (o.take k) := by unfold vi ci; rw [← List.map_take, ← List.map_take]
theorem vi_drop (o : List Nat) (k : Nat) : (vi o).drop k = vi (o.drop k) := by unfold vi ci; rw [← List.map_drop, ← List.map_drop]
theorem ci_inj : ∀ {a b : List Nat}, ci a = ci b → a = b
  | [], [], _ => rfl
  | [], _ :: _, h => by cases h
  | _ :: _, [], h => by cases h
  | x :: a, y :: b, h => by
    have h' : (x : Int) :: ci a = (y : Int) :: ci b := h
    injection h' with h1 h2
    have h1' : x = y := by omega
    rw [h1', ci_inj h2]
theorem vi_inj {a b : List Nat} (h : vi a = vi b) : a = b := by
  refine ci_inj ?_
  unfold vi at h
  have inj : ∀ {x y : List Int}, x.map V.int = y.map V.int → x = y := by
    intro x
    induction x with
    | nil =>
      intro y h
      cases y with
      | nil => rfl
      | cons _ _ => cases h
    | cons a x ih =>
      intro y h
      cases y with
      | nil => cases h
      | cons b y =>
        rw [List.map_cons, List.map_cons] at h
        injection h with h1 h2
        injection h1 with h1
        rw [h1, ih h2]
  exact inj h
/-- as a dict's key -/
def kO (o : List Nat) : List Key := o.map fun (n : Nat) => (Sum.inl (n : Int) : Key)
theorem kO_vals (o : List Nat) : (kO o).map kV = vi o := by
  unfold kO vi ci
  rw [List.map_map, List.map_map]
  rfl
theorem kO_inj : ∀ {a b : List Nat}, kO a = kO b → a = b
  | [], [], _ => rfl
  | [], _ :: _, h => by cases h
  | _ :: _, [], h => by cases h
  | x :: a, y :: b, h => by
    have h' : (Sum.inl (x : Int) : Key) :: kO a = Sum.inl (y : Int) :: kO b := h
    injection h' with h1 h2
    injection h1 with h1
    have h1' : x = y := by omega
    rw [h1', kO_inj h2]
/-- a tuple of these stands at a -/
def Tp (H : Hp) (a : Addr) (o : List Nat) : Prop := H a = some (.tup (vi o))
/-- a list of these stands at a -/
def Ls (H : Hp) (a : Addr) (o : List Nat) : Prop := H a = some (.lst (vi o))
theorem Tp.sq {K : PySem.W.Frag} {H : Hp} {a : Addr} {o : List Nat} (h : Tp H a o) : SqT K H a (vi o) := .of h
theorem Ls.sq {K : PySem.W.Frag} {H : Hp} {a : Addr} {o : List Nat} (h : Ls H a o) : SqL K H a (vi o) := .of h
theorem Tp.keep {H H' : Hp} {a : Addr} {o : List Nat} (h : Tp H a o) (s : Same H H') : Tp H' a o := s _ _ h
theorem Ls.keep {H H' : Hp} {a : Addr} {o : List Nat} (h : Ls H a o) (s : Same H H') : Ls H' a o := s _ _ h
theorem same_upd {H : Hp} {p : Addr} {o : HO} (h : H p = none) : Same H (upd H p o) := fun b x e => by
  rw [upd_ne (ne_of_none e h)]
  exact e
theorem Same.seqT {K : PySem.W.Frag} {H H' : Hp} {a : Addr} {xs : List V} (e : Same H H') (h : SqT K H a xs) : SqT K H' a xs := by
  rcases h with (h | ⟨o, h⟩) | h
  · exact .inl (.inl (e _ _ h))
  · exact .inl (.inr ⟨o, e _ _ h⟩)
  · exact .inr h
theorem small_line {n : Nat} (h : n ≤ 10000) : n ≤ sizeLine := Nat.le_trans h (by rw [sizeLine_eq]; decide)
theorem small_line' {n : Nat} (h : n ≤ 10000) : n < sizeLine := Nat.lt_of_le_of_lt h (by rw [sizeLine_eq]; decide)
/-- a def of the module -/
structure Dn (K : PySem.W.Frag) (mg : Str → Option Value) (x : Str) (st : Stmt) (ps : List Str) (f : Addr) (fd : FuncData) : Prop where
  F : Fun K x x st f fd
  g : mg x = some (.ref f)
  b : Binds K fd ps []
theorem Dn.kp {K : PySem.W.Frag} {mg : Str → Option Value} {x : Str} {st : Stmt} {ps : List Str} {f : Addr} {fd : FuncData} (D : Dn K mg x st ps f fd) : PySem.W.keepIn K (.ref f) = true := D.F.kp
end PmW
/-! Tuples whose object is known (so that their methods are found), dicts keyed by them. -/
namespace PmW
open PySem PySem.Spec PyProof.Rows L2 PmR PM
/-- a tuple whose object is known, without a dict of its own -/
def Ft (H : Hp) (a : Addr) (xs : List V) : Prop := ∃ ob : Obj, H a = some (.frz ob (.tup xs)) ∧ ob.dict = none
theorem Ft.rd {H : Hp} {a : Addr} {xs : List V} (h : Ft H a xs) : Rd H a (.tup xs) := let ⟨ob, e, _⟩ := h; .inr ⟨ob, e⟩
theorem Ft.sq {K : PySem.W.Frag} {H : Hp} {a : Addr} {xs : List V} (h : Ft H a xs) : SqT K H a xs := .inl h.rd
theorem Ft.keep {H H' : Hp} {a : Addr} {xs : List V} (h : Ft H a xs) (s : Same H H') : Ft H' a xs := let ⟨ob, e, d⟩ := h; ⟨ob, s _ _ e, d⟩
theorem Rd.keep {H H' : Hp} {a : Addr} {u : HO} (h : Rd H a u) (s : Same H H') : Rd H' a u := by
  rcases h with h | ⟨o, h⟩
  · exact .inl (s _ _ h)
  · exact .inr ⟨o, s _ _ h⟩
theorem Rd.sq {K : PySem.W.Frag} {H : Hp} {a : Addr} {xs : List V} (h : Rd H a (.tup xs)) : SqT K H a xs := .inl h
theorem frz_ok {P : Program} {w : World} {H : Hp} {h : Heap} {a : Addr} {ob : Obj} {u : HO} (e : h.get? a = some ob) (k : ObjOk P w H h a u) : ObjOk P w H h a (.frz ob u) := ⟨e, k⟩
section
variable {X : Cx} {es : List Expr} {ta : TA} {te : TE} {pos p : Pos}
/-- (e, ..) -/
def tTupF (t : TA) : TE := fun σ H Q => t σ H fun xs H1 => xs.length ≤ sizeLine ∧ ∀ H2 p, Same H1 H2 → H1 p = none → Ft H2 p xs → Q (.ref p) H2
theorem pe_tupF {x1} (h : PA X es ta) : PE X (.Tuple es x1 pos) (tTupF ta) := by
  refine ⟨fun pins s σ H Q I hq => ?_⟩
  refine wpAny_Tuple_spliced (thn (h.run pos pins s σ H _ I hq) fun us s1 ⟨xs, H1, I1, r, z, q⟩ => ⟨by rw [← r.length]; exact z, ?_⟩)
  have hf : H1 s1.heap.objs.size = none := I1.hok.fresh (Nat.le_refl _)
  have g : (s1.heap.push { cls := .type "tuple", data := .seq us.toArray }).get? s1.heap.objs.size = some { cls := .type "tuple", data := .seq us.toArray } := Heap.get?_push_size _ rfl
  exact ⟨.ref s1.heap.objs.size, _, I1.laid (t' := s1.toks) (o := .frz { cls := .type "tuple", data := .seq us.toArray } (.tup xs)) (fun b u e => Heap.get?_push_of_some _ e) (Nat.le_refl _) (frz_ok g ⟨z, us, r, ⟨_, g, rfl, _, rfl⟩⟩), rfl, q _ _ (same_upd hf) hf ⟨_, upd_same, rfl⟩⟩
/-- tuple(x): of a list a new one, of a tuple itself -/
def kTupF (K : PySem.W.Frag) (x : V) (H : Hp) (Q : VK) : Prop :=
  (∃ p xs, x = .ref p ∧ SqL K H p xs ∧ ∀ H2 q, Same H H2 → H q = none → Ft H2 q xs → Q (.ref q) H2) ∨ (∃ p xs, x = .ref p ∧ SqT K H p xs ∧ Q (.ref p) H)
theorem pe_tupleF {a : Expr} (hg : Gl X "tuple") (hm : X.mg "tuple" = none) (ha : PE X a te) (na : starEach [a] X.env = (false, eval a X.env) :: starEach [] X.env := by rfl) :
    PE X (.Call (.Name "tuple" p) [a] [] pos) (tThen te (kTupF X.K)) := by
  refine ⟨fun pins s σ H Q I h => ?_⟩
  refine Call_ (ld_blt I hg hm boot_tuple (PyProof.Rows.callWith_type1 (one_arg ha I h (fun v s2 x H2 I2 r h2 => ?_) na) na))
  rcases h2 with ⟨p, xs, rfl, hs, q⟩ | ⟨p, xs, rfl, hs, q⟩
  · obtain rfl : v = .ref p := r
    obtain ⟨its, rv, pl, hz⟩ := I2.list hs
    refine call_tuple_list pl.isList (fun h' hk => ?_) (by rw [List.size_toArray, ← rv.length]; exact hz)
    have I3 : Inv X pins σ H2 { s2 with heap := h' } := I2.kept (t' := s2.toks) hk
    have hf : H2 h'.objs.size = none := I3.hok.fresh (Nat.le_refl _)
    have g : (h'.push { cls := .type "tuple", data := .seq its.toArray }).get? h'.objs.size = some { cls := .type "tuple", data := .seq its.toArray } := Heap.get?_push_size _ rfl
    exact ⟨.ref h'.objs.size, _, I3.laid (t' := s2.toks) (o := .frz { cls := .type "tuple", data := .seq its.toArray } (.tup xs)) (fun b o e => Heap.get?_push_of_some _ e) (Nat.le_refl _) (frz_ok g ⟨hz, its, rv, ⟨_, g, rfl, _, rfl⟩⟩), rfl, q _ _ (same_upd hf) hf ⟨_, upd_same, rfl⟩⟩
  · obtain rfl : v = .ref p := r
    obtain ⟨its, rv, pl, hz⟩ := I2.tuple hs
    exact call_tuple_tup pl ⟨.ref p, H2, I2, rfl, q⟩
/-- t + u -/
def rCatF (K : PySem.W.Frag) : R2 := fun x y H Q => ∃ a b xs ys, x = .ref a ∧ y = .ref b ∧ Ft H a xs ∧ Ft H b ys ∧ xs.length + ys.length ≤ sizeLine ∧ ∀ H2 p, Same H H2 → Ft H2 p (xs ++ ys) → Q (.ref p) H2
theorem op_catF : OpR X (binaryOp .Add) (rCatF X.K) := by
  intro pins s σ H x y v u Q I rx ry h
  obtain ⟨a, b, xs, ys, rfl, rfl, ha, hb, hz, q⟩ := h
  cases rx
  cases ry
  obtain ⟨its, r1, p1, _⟩ := I.tuple ha.sq
  obtain ⟨its2, r2, p2, _⟩ := I.tuple hb.sq
  by_cases hx : xs = []
  · subst hx
    cases r1
    exact cat_tup0 p1 p2 ⟨.ref b, H, I, rfl, q H b (.refl _) hb⟩
  · refine HT.cat_tup p1 p2 (fun z => hx (r1.nil_iff.mp z)) (fun z => ⟨.ref a, H, I, rfl, q H a (.refl _) (by rw [r2.nil_iff.mp z, List.append_nil]; exact ha)⟩) (fun z => ?_) (by rw [← r1.length, ← r2.length]; exact hz)
    have hf : H s.heap.objs.size = none := I.hok.fresh (Nat.le_refl _)
    have g : (s.heap.push { cls := .type "tuple", data := .seq (its ++ its2).toArray }).get? s.heap.objs.size = some { cls := .type "tuple", data := .seq (its ++ its2).toArray } := Heap.get?_push_size _ rfl
    exact ⟨.ref s.heap.objs.size, _, I.laid (t' := s.toks) (o := .frz { cls := .type "tuple", data := .seq (its ++ its2).toArray } (.tup (xs ++ ys))) (fun b ob q => Heap.get?_push_of_some _ q) (Nat.le_refl _) (frz_ok g ⟨by rw [List.length_append]; exact hz, _, r1.append r2, ⟨_, g, rfl, _, rfl⟩⟩), rfl, q _ _ (same_upd hf) ⟨_, upd_same, rfl⟩⟩
/-- t[lo:hi] -/
def rSlF (K : PySem.W.Frag) : V → Option Int → Option Int → Hp → VK → Prop := fun x lo hi H Q => ∃ a xs, x = .ref a ∧ Ft H a xs ∧ ∀ H2 p, Same H H2 → Ft H2 p (cutV xs lo hi) → Q (.ref p) H2
theorem sl_tupF : SlR X (rSlF X.K) := by
  intro pins s σ H x v vl vu lo hi sl Q I rx hs pl pu h
  obtain ⟨a, xs, rfl, hx, q⟩ := h
  cases rx
  obtain ⟨its, r, ht, hz⟩ := I.tuple hx.sq
  have hlen : its.toArray.size = xs.length := by rw [List.size_toArray]; exact r.length.symm
  refine ⟨"tuple", _, PyProof.Rows.slot_tuple_getitem.lookup, ht.typeIs, ?_⟩
  by_cases hw : HT.sIx xs.length 0 lo = 0 ∧ HT.sIx xs.length xs.length hi = xs.length
  · refine getItem_tuple_whole ht hs pl pu (by rw [hlen]; exact hw) ⟨.ref a, H, I, rfl, q H a (.refl _) ?_⟩
    have e : cutV xs lo hi = xs := by
      unfold cutV
      rw [hw.1, hw.2]
      simp
    rw [e]
    exact hx
  · refine HT.getItem_tuple_cut ht hs pl pu (by rw [hlen]; exact hw) ?_ (by rw [hlen]; exact hz)
    have hf : H s.heap.objs.size = none := I.hok.fresh (Nat.le_refl _)
    have g := Heap.get?_push_size s.heap (o := { cls := .type "tuple", data := .seq ((its.toArray.toList.drop (HT.sIx its.toArray.size 0 lo)).take (HT.sIx its.toArray.size its.toArray.size hi - HT.sIx its.toArray.size 0 lo)).toArray }) rfl
    have rv : Vals (cutV xs lo hi) ((its.toArray.toList.drop (HT.sIx its.toArray.size 0 lo)).take (HT.sIx its.toArray.size its.toArray.size hi - HT.sIx its.toArray.size 0 lo)) := by
      rw [hlen, List.toList_toArray]
      exact (r.drop _).take _
    have hl : (cutV xs lo hi).length ≤ sizeLine := by
      unfold cutV
      rw [List.length_take, List.length_drop]
      omega
    exact ⟨.ref s.heap.objs.size, _, I.laid (t' := s.toks) (o := .frz _ (.tup (cutV xs lo hi))) (fun b ob q => Heap.get?_push_of_some _ q) (Nat.le_refl _) (frz_ok g ⟨hl, _, rv, ⟨_, g, rfl, _, rfl⟩⟩), rfl, q _ _ (same_upd hf) ⟨_, upd_same, rfl⟩⟩
/-- t.index(k) -/
def tTupIx (K : PySem.W.Frag) (to te : TE) : TE := fun σ H Q => to σ H fun x H1 => te σ H1 fun y H2 => ∃ (a : Addr) (ns : List Int) (k : Int), x = .ref a ∧ y = .int k ∧ Ft H1 a (ns.map V.int) ∧ Ft H2 a (ns.map V.int) ∧ k ∈ ns ∧ Q (.int (ns.idxOf k : Nat)) H2
end
end PmW
/-! The dict of counts: keys are orders. -/
namespace PmW
open PySem PySem.Spec PyProof.Rows L2 PmR PM
/-- an order stands at a, its object known -/
abbrev Ot (H : Hp) (a : Addr) (o : List Nat) : Prop := Ft H a (vi o)
/-- a word stands at a -/
def Wt (H : Hp) (a : Addr) (u : List Nat) : Prop := Rd H a (.tup (vi u))
theorem Wt.rd {H : Hp} {a : Addr} {u : List Nat} (h : Wt H a u) : Rd H a (.tup (vi u)) := h
theorem Wt.of {H : Hp} {a : Addr} {u : List Nat} (h : H a = some (.tup (vi u))) : Wt H a u := .inl h
theorem Wt.eq {H : Hp} {a : Addr} {xs : List V} {u : List Nat} (h : Rd H a (.tup xs)) (e : xs = vi u) : Wt H a u := by subst e; exact h
theorem Wt.keep {H H' : Hp} {a : Addr} {u : List Nat} (h : Wt H a u) (s : Same H H') : Wt H' a u := Rd.keep h s
theorem Wt.sq {K : PySem.W.Frag} {H : Hp} {a : Addr} {u : List Nat} (h : Wt H a u) : SqT K H a (vi u) := Rd.sq h
theorem Ft.wt {H : Hp} {a : Addr} {o : List Nat} (h : Ft H a (vi o)) : Wt H a o := h.rd
theorem Ft.eq {H : Hp} {a : Addr} {xs ys : List V} (h : Ft H a xs) (e : xs = ys) : Ft H a ys := e ▸ h
/-! ### t.index(k) -/
section
variable {X : Cx} {o e : Expr} {to te : TE} {apos cpos pos p : Pos}
def tIx (to : TE) (t : TA) : TE := fun σ H Q => to σ H fun x H1 => ∃ (a : Addr) (o : List Nat), x = .ref a ∧ Ot H1 a o ∧ t σ H1 fun ys H2 => ∃ k : Nat, ys = [V.int (k : Int)] ∧ Ot H2 a o ∧ k ∈ o ∧ Q (.int (o.idxOf k : Nat)) H2
theorem pe_ix_ {t : TA} (ho : PE X o to) (ha : PA X [e] t)
    (hbase : attributeBase o "index" X.env (eval o X.env) = eval o X.env := by rfl)
    (hfew : ((backTo cpos (starEach [e] X.env)).all (fun x => !x.1) && (backToKw cpos (keywordEach [] X.env)).all (fun x => x.1.isSome)
      && decide ([e].length + ([] : List Keyword).length + (if ([] : List Keyword).isEmpty then 0 else 1) < 30)) = true := by rfl)
    (hline : (apos.endLine == cpos.line) = true := by rfl) (hs : starEach [e] X.env = (false, eval e X.env) :: starEach [] X.env := by rfl) (hplain : (backTo cpos (starEach [] X.env)).any (·.1) = false := by rfl) :
    PE X (.Call (.Attribute o "index" apos) [e] [] cpos) (tIx to t) := by
  refine ⟨fun pins s σ H Q I h => ?_⟩
  refine wpAny_Call_method_late hbase hfew hline rfl (thn (ho.run pins s σ H _ I h) fun v s1 ⟨x, H1, I1, r1, a, l, ex, hb, q1⟩ => ?_)
  subst ex
  cases r1
  obtain ⟨ob, e0, hd⟩ := hb
  obtain ⟨g0, z, its, rv, ob2, g1, hc, hn⟩ := I1.hok a _ e0
  rw [g0] at g1
  cases Option.some.inj g1
  refine ⟨"tuple", "tuple.index", PySem.F.plainAttrs_tuple, PySem.F.slot_tuple_index, PySem.F.type_tuple_index, ⟨_, g0, hc⟩, fun b eb => by cases eb; exact ⟨_, g0, hd⟩, ?_⟩
  have hA := ha.run cpos pins s1 σ H1 _ I1 q1
  rw [hs] at hA ⊢
  refine Calls.callWith_builtin (by show (false || (backTo cpos (starEach [] X.env)).any (·.1)) = false; rw [hplain] <;> rfl) (Calls.evalArgs_plain ?_)
  refine thn hA fun us s2 ⟨vs, H2, I2, r2, k, ey, hb2, hk, q2⟩ => ?_
  subst ey
  exact mt_tupIndex pins s2 σ H2 (.ref a) [.int (k : Int)] (.ref a) us Q I2 rfl r2 ⟨a, ci l, k, rfl, rfl, hb2.sq, ci_mem.mpr hk, by rw [ci_idx]; exact q2⟩
/-! ### tuple(range(..)), its object known -/
def tTupRgF (te : L2.St → Hp → (Int → Int → Hp → Prop) → Prop) : TE := fun σ H Q => te σ H fun a b H1 => RgOk a b ∧ ∀ H2 p, Same H1 H2 → Ft H2 p (rgV a b) → Q (.ref p) H2
theorem pe_tupRgF {te : L2.St → Hp → (Int → Int → Hp → Prop) → Prop} (hc : X.calm = true) (hg : Gl X "tuple") (hm : X.mg "tuple" = none) (he : PRg X e te) (na : starEach [e] X.env = (false, eval e X.env) :: starEach [] X.env := by rfl) : PE X (.Call (.Name "tuple" p) [e] [] pos) (tTupRgF te) := by
  refine ⟨fun pins s σ H Q I h => ?_⟩
  refine Call_ (ld_blt I hg hm boot_tuple (PyProof.Rows.callWith_type1 (args_cons (thn (he pins s σ H _ I h) fun x s1 ⟨r, a, b, t, u, v, H1, ex, hr, I1, ok, q⟩ => args_nil ?_) na) na))
  subst ex
  obtain ⟨b1, b2, b3, b4, b5⟩ := ok
  refine call_tuple_range (n := (b - a).toNat) (I1.ok.hd hc) hr (small_one b1 b2 b3 b4) (rangeSize_nat a b) b5 fun h' tk acc hk hi => ?_
  have I2 : Inv X pins σ H1 { s1 with heap := h', toks := tk } := I1.kept hk
  have hf : H1 h'.objs.size = none := I2.hok.fresh (Nat.le_refl _)
  have g : (h'.push { cls := .type "tuple", data := .seq acc }).get? h'.objs.size = some { cls := .type "tuple", data := .seq acc } := Heap.get?_push_size _ rfl
  refine ⟨.ref h'.objs.size, _, I2.laid (t' := tk) (o := .frz { cls := .type "tuple", data := .seq acc } (.tup (rgV a b))) (fun c o e => Heap.get?_push_of_some _ e) (Nat.le_refl _) (frz_ok g ⟨?_, acc.toList, vals_rg hi, ?_⟩), rfl, q _ _ (same_upd hf) ⟨_, upd_same, rfl⟩⟩
  · rw [rgV_length, sizeLine_eq]; omega
  · rw [Array.toArray_toList]; exact ⟨_, g, rfl, _, rfl⟩
end
/-! ### the dict of counts -/
abbrev KnR : List (List Nat × Addr) → List (List Key × Addr × Value) → Prop := Paired fun p q => q.1 = kO p.1 ∧ q.2.1 = p.2 ∧ ∃ t, q.2.2 = Value.int (many p.1 : Nat) t
/-- the dict at d: an order, where it stands, how many short words it has -/
def KnO (P : Program) (w : World) (d : Addr) (L : List (List Nat × Addr)) : HO := .ext fun h => L.length ≤ sizeLine ∧ (d == sysModules) = false ∧
  ∃ xs o es ep, KnR L xs ∧ h.get? d = some o ∧ o.ExactDict ∧ o.data = .dict es ep ∧ es.toList = xs.map (entryOfKey (tupleKind (mixKind P w))) ∧ (xs.map (·.1)).Nodup
/-- its keys stand where they stood -/
def KGood (H : Hp) (L : List (List Nat × Addr)) : Prop := ∀ p ∈ L, Ot H p.2 p.1
theorem KGood.keep {H H' : Hp} {L : List (List Nat × Addr)} (h : KGood H L) (s : Same H H') : KGood H' L := fun p hp => (h p hp).keep s
section
variable {P : Program} {w : World} {H : Hp} {h : Heap} {a d : Addr} {L : List (List Nat × Addr)} {xs : List (List Key × Addr × Value)} {o : List Nat}
theorem kn_ok {o : Obj} {es : Array DictEntry} {ep : Nat} (z : L.length ≤ sizeLine) (hd : (d == sysModules) = false) (r : KnR L xs) (g : h.get? d = some o) (ex : o.ExactDict) (da : o.data = .dict es ep)
    (en : es.toList = xs.map (entryOfKey (tupleKind (mixKind P w)))) (nd : (xs.map (·.1)).Nodup) : ObjOk P w H h d (KnO P w d L) :=
  ⟨⟨z, hd, xs, o, es, ep, r, g, ex, da, en, nd⟩, ⟨o, g⟩, fun h1 h2 ⟨z, hd, xs, o, es, ep, r, g, ex, da, en, nd⟩ k => ⟨z, hd, xs, o, es, ep, r, k _ g, ex, da, en, nd⟩⟩
theorem key_ofF (ok : HOk P w H h) (e : Ot H a o) : (tupleKind (mixKind P w)).is h (kO o) a := by
  obtain ⟨ob, e0, _⟩ := e
  obtain ⟨_, _, its, r, ob2, h1, h2, n, h3⟩ := ok a _ e0
  exact ⟨ob2, its.toArray, n, h1, h2, h3, by rw [← kO_vals] at r; simpa using items_are r⟩
theorem KnR.keysOk (ok : HOk P w H h) (G : KGood H L) (r : KnR L xs) : ∀ x ∈ xs, (tupleKind (mixKind P w)).is h x.1 x.2.1 := by
  induction r with
  | nil => intro x hx; cases hx
  | @cons p q ps qs hq t ih =>
    intro x hx
    rcases List.mem_cons.mp hx with e | hx
    · subst e
      rw [hq.1, hq.2.1]
      exact key_ofF ok (G p (List.mem_cons_self ..))
    · exact ih (fun p' hp' => G p' (List.mem_cons_of_mem _ hp')) x hx
theorem kn_at (ok : HOk P w H h) (e : H d = some (KnO P w d L)) (G : KGood H L) : L.length ≤ sizeLine ∧ (d == sysModules) = false ∧ ∃ xs, KnR L xs ∧ h.DictOfH (tupleKind (mixKind P w)) d xs := by
  obtain ⟨⟨z, hd, xs, o, es, ep, r, g, ex, da, en, nd⟩, _⟩ := ok d _ e
  exact ⟨z, hd, xs, r, o, es, ep, g, ex, da, en, r.keysOk ok G, nd⟩
theorem KnR.find (r : KnR L xs) : (o ∈ L.map (·.1) ∧ ∃ p t, atKey xs (kO o) = some p ∧ p.2 = Value.int (many o : Nat) t) ∨ (o ∉ L.map (·.1) ∧ atKey xs (kO o) = none) := by
  induction r with
  | nil => exact .inr ⟨(by simp), rfl⟩
  | @cons p q ps qs hq t ih =>
    obtain ⟨h1, h2, t', h3⟩ := hq
    by_cases e : p.1 = o
    · subst e
      refine .inl ⟨List.mem_map.mpr ⟨p, List.mem_cons_self .., rfl⟩, q.2, t', ?_, h3⟩
      simp [atKey, List.find?_cons, h1]
    · have e' : ¬ q.1 = kO o := fun z => e (kO_inj (h1.symm.trans z))
      have b : atKey (q :: qs) (kO o) = atKey qs (kO o) := by simp [atKey, List.find?_cons, e']
      rcases ih with ⟨m, p', t, i1, i2⟩ | ⟨m, i1⟩
      · exact .inl ⟨List.mem_cons_of_mem _ m, p', t, b.trans i1, i2⟩
      · refine .inr ⟨fun z => ?_, b.trans i1⟩
        rw [List.map_cons] at z
        rcases List.mem_cons.mp z with z | z
        · exact e z.symm
        · exact m z
/-- with one more -/
def knPut (L : List (List Nat × Addr)) (o : List Nat) (a : Addr) : List (List Nat × Addr) := if o ∈ L.map (·.1) then L else L ++ [(o, a)]
theorem mem_knPut {p : List Nat × Addr} (h : p ∈ knPut L o a) : p ∈ L ∨ p = (o, a) := by
  unfold knPut at h
  split at h
  · exact .inl h
  · rcases List.mem_append.mp h with h | h
    · exact .inl h
    · exact .inr (List.mem_singleton.mp h)
theorem knPut_has : o ∈ (knPut L o a).map (·.1) := by
  unfold knPut
  split
  · assumption
  · rw [List.map_append]
    exact List.mem_append_right _ (List.mem_singleton.mpr rfl)
theorem knPut_len : (knPut L o a).length ≤ L.length + 1 := by
  unfold knPut
  split
  · omega
  · rw [List.length_append]
    show _ + 1 ≤ _
    omega
theorem knPut_nd (h : (L.map (·.1)).Nodup) : ((knPut L o a).map (·.1)).Nodup := by
  unfold knPut
  split
  · exact h
  · rename_i hn
    rw [List.map_append]
    refine List.nodup_append.mpr ⟨h, by simp, fun x hx y hy e => ?_⟩
    have ey : y = o := List.mem_singleton.mp hy
    subst ey e
    exact hn hx
theorem KnR.put (r : KnR L xs) {t : Tok} : KnR (knPut L o a) (storedH xs (kO o) a (.int (many o : Nat) t)) := by
  rcases r.find (o := o) with ⟨m, p, t', e, _⟩ | ⟨m, e⟩
  · unfold knPut
    rw [if_pos m, storedH_old e]
    have go : ∀ {L : List (List Nat × Addr)} {xs : List (List Key × Addr × Value)}, KnR L xs → KnR L (xs.map (putAt (kO o) (.int (many o : Nat) t))) := by
      intro L xs r
      induction r with
      | nil => exact .nil
      | @cons p q ps qs hq t2 ih =>
        rw [List.map_cons]
        refine .cons ?_ ih
        obtain ⟨h1, h2, h3⟩ := hq
        unfold putAt
        by_cases z : q.1 = kO o
        · rw [if_pos z]
          have ez : p.1 = o := kO_inj (h1.symm.trans z)
          exact ⟨h1, h2, t, by rw [ez]⟩
        · rw [if_neg z]
          exact ⟨h1, h2, h3⟩
    exact go r
  · unfold knPut
    rw [if_neg m, storedH_new e]
    exact Paired.snoc r ⟨rfl, rfl, t, rfl⟩
end
section
variable {X : Cx} {o i e value : Expr} {pos pos' : Pos} {td ty tv : TE}
/-- y not in the dict -/
def tKNotIn (X : Cx) (ty td : TE) : TE := fun σ H Q => ty σ H fun y H1 => td σ H1 fun x H2 => ∃ d L a o, x = .ref d ∧ y = .ref a ∧ H2 d = some (KnO X.prog X.w d L) ∧ KGood H2 L ∧ Ot H2 a o ∧ Q (.bl (!decide (o ∈ L.map (·.1)))) H2
theorem pc_knotin (hu : X.A.units + 1 < cLine) (hi : PE X i ty) (ho : PE X o td) : PC X .NotIn i o (tKNotIn X ty td) := by
  refine ⟨fun pins s σ H Q I h => ?_⟩
  refine thn (hi.run pins s σ H _ I h) fun iv s1 ⟨y, H1, I1, ry, q1⟩ => thn (ho.run pins s1 σ H1 _ I1 q1) fun u s2 ⟨x, H2, I2, rx, d, L, a, od, ex, ey, hd, G, ha, q2⟩ => ?_
  subst ex ey
  cases rx
  cases ry
  obtain ⟨z, nd, xs, r, dd⟩ := kn_at I2.hok hd G
  refine wpAny_notIn_heap (tupleKind_room_in1 hu) (key_ofF I2.hok ha) nd dd ⟨_, H2, I2.tok _, ?_, q2⟩
  rcases r.find (o := od) with ⟨m, p, t, e, _⟩ | ⟨m, e⟩
  · rw [e, decide_eq_true m]
    rfl
  · rw [e, decide_eq_false m]
    rfl
/-- the dict at y -/
def tKGet (X : Cx) (td ty : TE) : TE := fun σ H Q => td σ H fun x H1 => ty σ H1 fun y H2 => ∃ d L a o, x = .ref d ∧ y = .ref a ∧ H2 d = some (KnO X.prog X.w d L) ∧ KGood H2 L ∧ Ot H2 a o ∧ o ∈ L.map (·.1) ∧ Q (.int (many o : Nat)) H2
theorem pe_kget (hu : X.A.units + 1 < cLine) (ho : PE X o td) (hi : PE X i ty) (hs : NoSl i) : PE X (.Subscript o i pos) (tKGet X td ty) := by
  refine ⟨fun pins s σ H Q I h => ?_⟩
  refine subD_of PySem.F.slot_dict_getitem.lookup hs (thn (ho.run pins s σ H _ I h) fun u s1 ⟨x, H1, I1, rx, q1⟩ => thn (hi.run pins s1 σ H1 _ I1 q1) fun iv s2 ⟨y, H2, I2, ry, d, L, a, od, ex, ey, hd, G, ha, hm, q2⟩ => ?_)
  subst ex ey
  cases rx
  cases ry
  obtain ⟨z, nd, xs, r, dd⟩ := kn_at I2.hok hd G
  rcases r.find (o := od) with ⟨m, p, t, e, e2⟩ | ⟨m, e⟩
  · refine ⟨dd.typeIs, wpAny_getItem_heap (tupleKind_room_in1 hu) (key_ofF I2.hok ha) dd e ?_⟩
    rw [e2]
    exact ⟨.int (many od : Nat), H2, I2.tok _, ⟨t, rfl⟩, q2⟩
  · exact absurd hm m
/-- the dict at y is written -/
def sKPut (X : Cx) (td ty tv : TE) : TS := fun D σ H => tv σ H fun v H1 => td σ H1 fun x H2 => ty σ H2 fun y H3 => ∃ d L a o, x = .ref d ∧ y = .ref a ∧ v = .int (many o : Nat) ∧ H3 d = some (KnO X.prog X.w d L) ∧ KGood H3 L ∧ Ot H3 a o ∧ L.length < sizeLine ∧
  D.nx σ (upd H3 d (KnO X.prog X.w d (knPut L o a)))
theorem ps_kput (hu : X.A.units + 1 < cLine) (ho : PE X o td) (hi : PE X i ty) (hv : PE X value tv) (hs : swapsWith value (some (.Subscript o i pos')) pos.line X.env = pure false) :
    PS X (.Assign [.Subscript o i pos'] value pos) (sKPut X td ty tv) := by
  refine ⟨fun pins s σ H D I h => ?_⟩
  refine wpAny_Assign_Subscript (thn (hv.run pins s σ H _ I h) fun r s1 ⟨v, H1, I1, rv, q1⟩ => thn (ho.run pins s1 σ H1 _ I1 q1) fun u s2 ⟨x, H2, I2, rx, q2⟩ => thn (hi.run pins s2 σ H2 _ I2 q2) fun iv s3 ⟨y, H3, I3, ry, d, L, a, od, ex, ey, ev, hd, G, ha, hz, q3⟩ => ?_) hs
  subst ex ey ev
  cases rx
  cases ry
  obtain ⟨t, rfl⟩ := rv
  obtain ⟨z, nd, xs, r', dd⟩ := kn_at I3.hok hd G
  have hx : xs.length ≤ sizeLine := by rw [← Paired.length r']; exact z
  refine wpAny_setItem_heap (hsz := hx) (tupleKind_room_in1 hu) (key_ofF I3.hok ha) dd fun h' dd' hs => ?_
  obtain ⟨q, es, ep, hq, h2, h3, h4, _, h5⟩ := dd'
  exact ⟨σ, _, d_write I3 (by rw [hd]; exact True.intro) hs ⟨q, hq⟩ (kn_ok (Nat.le_trans knPut_len hz) nd r'.put hq h2 h3 h4 h5), q3⟩
/-- {} -/
def tKNew (X : Cx) : TE := fun _ H Q => ∀ p, H p = none → Q (.ref p) (upd H p (KnO X.prog X.w p []))
theorem pe_knew : PE X (.Dict [] [] pos) (tKNew X) := ⟨fun pins s σ H Q I h =>
  wpAny_Dict_empty ⟨.ref s.heap.objs.size, _, I.laid (a := s.heap.objs.size) (o := KnO X.prog X.w s.heap.objs.size []) (t' := s.toks) (fun _ _ q => Heap.get?_push_of_some _ q) (Nat.le_refl _)
    (kn_ok (Nat.zero_le _) (beq_eq_false_iff_ne.mpr (Ne.symm (Nat.ne_of_lt I.big))) .nil (Heap.get?_push_size _ rfl) ⟨rfl, rfl, rfl⟩ rfl rfl List.nodup_nil), rfl, h _ (I.hok.fresh (Nat.le_refl _))⟩⟩
end
end PmW
/-! Defs of the lower stages. -/
namespace PmW
open PySem PySem.Spec PyProof.Rows L2 PmR PM
/-- the names that the module leaves alone, its constants -/
structure Bl (mg : Str → Option Value) : Prop where
  isi : mg "isinstance" = none
  int : mg "int" = none
  bool : mg "bool" = none
  list : mg "list" = none
  tuple : mg "tuple" = none
  len : mg "len" = none
  enumerate : mg "enumerate" = none
  range : mg "range" = none
  sum : mg "sum" = none
  set : mg "set" = none
  sorted : mg "sorted" = none
  abs : mg "abs" = none
  dict : mg "dict" = none
  ae : mg "ArithmeticError" = none
  WORD : ∃ t, mg "WORD" = some (.int 2000 t)
  PLACES : ∃ t, mg "PLACES" = some (.int 60 t)
  FEW : ∃ t, mg "FEW" = some (.int 7 t)
section
variable {P : Program} {w : World} {K : PySem.W.Frag} {mg : Str → Option Value} {base : Heap}
/-! ### is_whole -/
def spWhole : Sp := fun vs H Q _ => ∃ i lo hi : Int, vs = [.int i, .int lo, .int hi] ∧ Q (.bl (decide (lo ≤ i) && decide (i ≤ hi))) H
theorem scWhole : FnScope ["thing", "least", "most"] ["thing", "least", "most"] (defScope sWhole) := ⟨rfl, rfl, rfl, by decide +kernel, rfl, by decide +kernel, by decide +kernel⟩
/-- is_whole as it stands behind the top -/
abbrev FWhole (K : PySem.W.Frag) (f : Addr) (fd : FuncData) : Prop := FunD K "is_whole" "is_whole" (defArgs sWhole) (defBody sWhole) (defScope sWhole) [] [("least", .int (-(10 ^ 60))), ("most", .int (10 ^ 60))] f fd
theorem ok_whole {f : Addr} {fd : FuncData} (F : FWhole K f fd) (B : Bl mg) : FnOk P w K mg base CX0 1 f fd ["thing", "least", "most"] spWhole := by
  refine F.ok scWhole (fun vs H Q E h => ?_) (fun cdv A outer s H vs Q E hr h => ?_)
  · obtain ⟨i, lo, hi, rfl, _⟩ := h
    rfl
  · obtain ⟨i, lo, hi, rfl, q⟩ := h
    refine ⟨_, PSs.nox (pss_one (ps_ret (pe_and (pe_callB call_isi (by rfl) B.isi (by decide +kernel) (pa_cons (pv 0) (pa_cons (pe_bltn (v := .ty "int") (by rfl) B.int boot_int rfl) pa_nil)))
      (pe_and (pe_not (pe_callB call_isi (by rfl) B.isi (by decide +kernel) (pa_cons (pv 0) (pa_cons (pe_bltn (v := .ty "bool") (by rfl) B.bool (by decide +kernel) rfl) pa_nil))))
      (pe_one (pe_chain op_le op_le (pv 1) (pv 0) (pv 2))))))), ?_⟩
    refine ⟨_, rfl, _, _, _, _, true, rfl, .ty "int", .base (.int _), kit_ty (by decide +kernel), true, rfl, iteT ?_⟩
    refine ⟨_, rfl, _, _, _, _, false, rfl, .ty "bool", .base (.int _), kit_ty (by decide +kernel), false, rfl, true, rfl, iteT ?_⟩
    refine ⟨_, rfl, _, rfl, _, _, rfl, rfl, _, rfl, ?_⟩
    by_cases c : lo ≤ i
    · rw [decide_eq_true c]
      refine iteT ⟨_, rfl, _, _, rfl, rfl, ?_⟩
      rw [decide_eq_true c, Bool.true_and] at q
      exact q
    · rw [decide_eq_false c]
      refine iteF ?_
      rw [decide_eq_false c, Bool.false_and] at q
      exact q
/-! ### is_listing -/
def spListing (K : PySem.W.Frag) : Sp := fun vs H Q _ => ∃ a, vs = [.ref a] ∧ ((∃ xs, Rd H a (.tup xs)) ∨ ∃ xs, H a = some (.lst xs)) ∧ ∀ H', Same H H' → Q (.bl true) H'
theorem scListing : FnScope ["thing"] ["thing"] (defScope sListing) := ⟨rfl, rfl, rfl, by decide +kernel, rfl, by decide +kernel, by decide +kernel⟩
theorem ok_listing {f : Addr} {fd : FuncData} (D : Dn K mg "is_listing" sListing ["thing"] f fd) (B : Bl mg) : FnOk P w K mg base CX0 1 f fd ["thing"] (spListing K) := by
  refine D.F.ok scListing (fun vs H Q E h => ?_) (fun cdv A outer s H vs Q E hr h => ?_)
  · obtain ⟨a, rfl, _⟩ := h
    rfl
  · obtain ⟨a, rfl, ha, q⟩ := h
    refine ⟨_, pss_one (ps_ret (pe_callB call_isiT (by rfl) B.isi (by decide +kernel) (pa_cons (pv 0) (pa_cons (pe_tup (pa_cons (pe_bltn (v := .ty "list") (by rfl) B.list boot_list rfl) (pa_cons (pe_bltn (v := .ty "tuple") (by rfl) B.tuple boot_tuple rfl) pa_nil))) pa_nil)))), ?_⟩
    refine ⟨_, rfl, (by show 2 ≤ sizeLine; decide), fun p np => ?_⟩
    have sm : Same H (upd H p (.tup [.ty "list", .ty "tuple"])) := same_upd np
    have kt : PySem.W.kitAny K (.type "tuple") [.type "list", .type "tuple"] = some true := kitAny_cons (b := false) (kit_ty (by decide +kernel)) (fun _ => kitAny_cons (b := true) (kit_ty (by decide +kernel)) (fun z => nomatch z) fun _ => rfl) fun z => nomatch z
    rcases ha with ⟨xs, ha | ⟨o, ha⟩⟩ | ⟨xs, ha⟩
    · exact ⟨_, _, _, _, [.type "list", .type "tuple"], true, rfl, upd_same, .cons (.ty _) (.cons (.ty _) .nil), .base (.tup (sm _ _ ha)), kt, q _ sm⟩
    · exact ⟨_, _, _, _, [.type "list", .type "tuple"], true, rfl, upd_same, .cons (.ty _) (.cons (.ty _) .nil), .fTuple (sm _ _ ha), kt, q _ sm⟩
    · refine ⟨_, _, _, _, [.type "list", .type "tuple"], true, rfl, upd_same, .cons (.ty _) (.cons (.ty _) .nil), .base (.lst (sm _ _ ha)), ?_, q _ sm⟩
      exact kitAny_cons (b := true) (kit_ty (by decide +kernel)) (fun z => nomatch z) fun _ => rfl
theorem FWhole.kb {f : Addr} {fd : FuncData} (F : FWhole K f fd) : KBn K fd ["thing", "least", "most"] 1 ["least", "most"] (fun us ws => us ++ ws) (fun vs zs => vs ++ zs) := by
  obtain ⟨oc, od, dV, kV, doc, pm, an, cdv, ct, osl, rfl, lk, hcd, hD, hK⟩ := F.ex
  rcases hD with ⟨_, rfl⟩ | ⟨e, _⟩
  · exact ⟨fun s us ws X l1 l2 => match us, ws, l1, l2 with | [_], [_, _], _, _ => .of_eq rfl, fun r1 r2 => r1.append r2⟩
  · exact absurd rfl e
theorem FWhole.b1 {f : Addr} {fd : FuncData} (F : FWhole K f fd) : ∃ ds, Vals [.int (-(10 ^ 60)), .int (10 ^ 60)] ds ∧ Binds K fd ["thing", "least", "most"] ds :=
  F.binds0 1 (by decide) rfl fun D doc pm an cdv ct us ks l1 l2 => match us, ks, l1, l2 with
    | [_], [_, _], _, _ => ⟨_, _, _, _, _, _, rfl, rfl, ⟨_, _, _, _, _, _, rfl, rfl, rfl⟩⟩
/-- is_whole, called -/
structure Wh (P : Program) (w : World) (K : PySem.W.Frag) (mg : Str → Option Value) (base : Heap) (f : Addr) (fd : FuncData) : Prop where
  F : FWhole K f fd
  g : mg "is_whole" = some (.ref f)
  ok : FnOk P w K mg base CX0 1 f fd ["thing", "least", "most"] spWhole
/-- is_listing, called -/
structure Li (P : Program) (w : World) (K : PySem.W.Frag) (mg : Str → Option Value) (base : Heap) (f : Addr) (fd : FuncData) : Prop where
  D : Dn K mg "is_listing" sListing ["thing"] f fd
  ok : FnOk P w K mg base CX0 1 f fd ["thing"] (spListing K)
end
end PmW
/-! Defs of the lower stages: words, places. -/
namespace PmW
open PySem PySem.Spec PyProof.Rows L2 PmR PM
/-! ### slices and sums of tuples -/
theorem sl_any {K : PySem.W.Frag} {H : Hp} {a : Addr} {xs : List V} {lo hi : Option Int} {Q : VK} (ha : Rd H a (.tup xs)) (q : ∀ H' p, Same H H' → Rd H' p (.tup (cutV xs lo hi)) → Q (.ref p) H') : rSlA K (.ref a) lo hi H Q := by
  refine ⟨a, xs, rfl, Rd.sq ha, fun wh => q H a (.refl _) ?_, fun _ p np => q _ p (same_upd np) (.inl upd_same)⟩
  have e : cutV xs lo hi = xs := by
    unfold cutV
    rw [wh.1, wh.2]
    simp
  rw [e]
  exact ha
theorem cat_any {K : PySem.W.Frag} {H : Hp} {a b : Addr} {xs ys : List V} {Q : VK} (ha : Rd H a (.tup xs)) (hb : Rd H b (.tup ys)) (hz : xs.length + ys.length ≤ sizeLine) (q : ∀ H' p, Same H H' → Rd H' p (.tup (xs ++ ys)) → Q (.ref p) H') : rCatA K (.ref a) (.ref b) H Q := by
  refine ⟨a, b, xs, ys, rfl, rfl, Rd.sq ha, Rd.sq hb, hz, fun e => q H b (.refl _) ?_, fun _ e => q H a (.refl _) ?_, fun _ _ p np => q _ p (same_upd np) (.inl upd_same)⟩
  · rw [e]
    exact hb
  · rw [e, List.append_nil]
    exact ha
/-- a slice of a list -/
theorem sl_lst {K : PySem.W.Frag} {H : Hp} {a : Addr} {xs : List V} {lo hi : Option Int} {Q : VK} (ha : Rd H a (.lst xs)) (q : ∀ H' p, Same H H' → H p = none → H' p = some (.lst (cutV xs lo hi)) → Q (.ref p) H') : rSlL K (.ref a) lo hi H Q := by
  exact ⟨a, xs, rfl, .inl ha, fun p np => q _ p (same_upd np) np upd_same⟩
theorem cut_head (xs : List V) (k : Nat) : cutV xs none (some (k : Int)) = xs.take k := by
  unfold cutV
  rw [HT.sIx_nat, HT.sIx_none]
  simp
theorem cut_tail (xs : List V) (k : Nat) : cutV xs (some (k : Int)) none = xs.drop k := by
  unfold cutV
  rw [HT.sIx_nat, HT.sIx_none]
  by_cases h : k ≤ xs.length
  · rw [Nat.min_eq_left h, List.take_of_length_le (by rw [List.length_drop]; exact Nat.le_refl _)]
  · rw [Nat.min_eq_right (by omega), List.drop_eq_nil_of_le (Nat.le_refl _), List.drop_eq_nil_of_le (by omega)]
    simp
theorem sp_eq : ∀ (k : Nat) (o : List Nat) (a b : Nat), o[k]? = some a → o[k + 1]? = some b → sp k o = o.take k ++ [b, a] ++ o.drop (k + 2)
  | _, [], _, _, h, _ => by simp at h
  | 0, [_], _, _, _, h => by simp at h
  | 0, x :: y :: r, a, b, h0, h1 => by
    have e0 : x = a := Option.some.inj h0
    have e1 : y = b := Option.some.inj h1
    subst e0 e1
    rfl
  | k + 1, x :: r, a, b, h0, h1 => by
    show x :: sp k r = x :: (r.take k ++ [b, a] ++ r.drop (k + 2))
    rw [sp_eq k r a b h0 h1]
theorem rg_vi (n : Nat) : rgV 0 (n : Int) = vi (List.range n) := by
  unfold rgV vi ci
  rw [List.map_map]
  have e : ((n : Int) - 0).toNat = n := by omega
  rw [e]
  refine List.map_congr_left fun i _ => ?_
  show V.int (0 + (i : Int)) = V.int (i : Int)
  rw [Int.zero_add]
section
variable {P : Program} {w : World} {K : PySem.W.Frag} {mg : Str → Option Value} {base : Heap}
/-! ### word_fault -/
def spWordFault : Sp := fun vs H Q _ => ∃ (n : Nat) (a : Addr) (u : List Nat), vs = [.int (n : Int), .ref a] ∧ Wt H a u ∧ u.length ≤ 2000 ∧ (∀ k ∈ u, k + 1 < n) ∧ ∀ H', Same H H' → Q .non H'
theorem scWordFault : FnScope ["places", "thing", "at", "place"] ["places", "thing"] (defScope sWordFault) := ⟨rfl, rfl, rfl, by decide +kernel, rfl, by decide +kernel, by decide +kernel⟩
theorem ok_wordFault {f fW fL : Addr} {fd fdW fdL : FuncData} (D : Dn K mg "word_fault" sWordFault ["places", "thing"] f fd) (B : Bl mg) (W : Wh P w K mg base fW fdW) (L : Li P w K mg base fL fdL) : FnOk P w K mg base CX0 2 f fd ["places", "thing"] spWordFault := by
  obtain ⟨tW, gW⟩ := B.WORD
  refine D.F.ok scWordFault (fun vs H Q E h => ?_) (fun cdv A outer s H vs Q E hr h => ?_)
  · obtain ⟨n, a, u, rfl, _⟩ := h
    rfl
  · obtain ⟨n, a, u, rfl, ha, hl, hk, q⟩ := h
    refine ⟨_, pss_cons (ps_if (PW.pt (pw_or (pt_not (pt_val (pe_call L.ok hr (by rfl) L.D.g L.D.kp L.D.b .nil pass0 (pa_cons (pv 1) pa_nil))))
        (pw_or1 (pt_cmpR op_gt (pe_callB call_len_seq (by rfl) B.len PySem.boot_len (pa_cons (pv 1) pa_nil)) (pe_glob (v := .int 2000) (by rfl) gW ⟨_, rfl⟩) (nomark _)))))
        (pss_one (ps_ret (pe_un un_neg pe_int))) pss_nil)
      (pss_cons (ps_for PassesOwn.never rfl (pi_enumT (by rfl) B.enumerate (pa_cons (pv 1) pa_nil)) (pg_tup rfl (pgs_cons (pg_name (i := 2) scWordFault.nd rfl (.inl rfl)) (pgs_cons (pg_name (i := 3) scWordFault.nd rfl (.inl rfl)) pgs_nil)))
        (pss_one (ps_if (pt_not (pt_val (pe_callN W.ok hr (by rfl) W.g W.F.kp W.F.kb pass0 (pa_cons (pv 3) pa_nil) (pk_cons pe_int (pk_cons (pe_op op_sub (pv 0) pe_int) pk_nil))))) (pss_one (ps_ret (pv 2))) pss_nil)))
      (pss_one (ps_ret pe_non))), ?_⟩
    refine ⟨_, rfl, a, rfl, .inl ⟨_, ha⟩, fun H1 s1 => ⟨true, rfl, iteF ?_⟩⟩
    refine ⟨_, rfl, a, vi u, rfl, .inr (ha.keep s1).sq, _, _, rfl, rfl, _, rfl, ?_⟩
    rw [vi_len, decide_eq_false (by omega)]
    refine iteF ?_
    refine ⟨_, rfl, a, vi u, rfl, (ha.keep s1).sq, for_it walk_enumT (fun i σ H2 => ∃ y z, σ = [some (.int (n : Int)), some (.ref a), y, z] ∧ Same H H2) ⟨_, _, rfl, s1⟩ (fun i σ H2 _ ⟨_, _, _, s2⟩ => (ha.keep s2).sq) ?_ ?_⟩
    · rintro i x σ H2 H3 hi ⟨y, z, rfl, s2⟩ ⟨T, x1, x2, rfl, nT, rfl, e1, e2⟩
      cases Option.some.inj e1
      obtain ⟨k, hk1, rfl⟩ := vi_get_inv e2
      have hkn := hk k (List.mem_of_getElem? hk1)
      refine ⟨T, _, rfl, .inl (.inl upd_same), rfl, _, _, rfl, _, _, rfl, rfl, ?_⟩
      refine ⟨_, rfl, _, rfl, _, _, rfl, rfl, rfl, rfl, _, _, _, rfl, _, rfl, ?_⟩
      rw [decide_eq_true (by omega), decide_eq_true (by omega)]
      exact iteF ⟨_, _, rfl, s2.trans (same_upd nT)⟩
    · rintro σ H2 ⟨y, z, rfl, s2⟩
      exact q H2 s2
/-! ### need_word -/
def spNeedWord : Sp := fun vs H Q _ => ∃ (n : Nat) (a : Addr) (u : List Nat), vs = [.int (n : Int), .ref a] ∧ Wt H a u ∧ u.length ≤ 2000 ∧ (∀ k ∈ u, k + 1 < n) ∧ ∀ H', Same H H' → Q (.ref a) H'
theorem scNeedWord : FnScope ["places", "word", "fault"] ["places", "word"] (defScope sNeedWord) := ⟨rfl, rfl, rfl, by decide +kernel, rfl, by decide +kernel, by decide +kernel⟩
theorem ok_needWord {f fF : Addr} {fd fdF : FuncData} (D : Dn K mg "need_word" sNeedWord ["places", "word"] f fd) (B : Bl mg) (DF : Dn K mg "word_fault" sWordFault ["places", "thing"] fF fdF) (G : FnOk P w K mg base CX0 2 fF fdF ["places", "thing"] spWordFault) :
    FnOk P w K mg base CX0 3 f fd ["places", "word"] spNeedWord := by
  refine D.F.ok scNeedWord (fun vs H Q E h => ?_) (fun cdv A outer s H vs Q E hr h => ?_)
  · obtain ⟨n, a, u, rfl, _⟩ := h
    rfl
  · obtain ⟨n, a, u, rfl, ha, hl, hk, q⟩ := h
    refine ⟨_, pss_cons (ps_set (i := 2) scNeedWord.nd rfl (.inl rfl) (pe_call G hr (by rfl) DF.g DF.kp DF.b .nil pass0 (pa_cons (pv 0) (pa_cons (pv 1) pa_nil))))
      (pss_cons (ps_if (pt_cmp (pc_notN (pv 2))) (pss_one ps_never) pss_nil)
      (pss_one (ps_ret (pe_tupleOf (by rfl) B.tuple (pv 1))))), ?_⟩
    refine ⟨_, rfl, _, rfl, n, a, u, rfl, ha, hl, hk, fun H1 s1 => ?_⟩
    exact ⟨_, rfl, _, rfl, iteNS rfl ⟨_, rfl, .inr ⟨a, _, rfl, (ha.keep s1).sq, q H1 s1⟩⟩⟩
/-! ### need_places -/
def spNeedPlaces : Sp := fun vs H Q _ => ∃ n : Nat, vs = [.int (n : Int), .int 1, .int 60] ∧ 1 ≤ n ∧ n ≤ 60 ∧ Q (.int (n : Int)) H
theorem scNeedPlaces : FnScope ["places", "least", "most"] ["places", "least", "most"] (defScope sNeedPlaces) := ⟨rfl, rfl, rfl, by decide +kernel, rfl, by decide +kernel, by decide +kernel⟩
abbrev FPlaces (K : PySem.W.Frag) (f : Addr) (fd : FuncData) : Prop := FunD K "need_places" "need_places" (defArgs sNeedPlaces) (defBody sNeedPlaces) (defScope sNeedPlaces) [.int 1, .int 60] [] f fd
theorem FPlaces.b1 {f : Addr} {fd : FuncData} (F : FPlaces K f fd) : ∃ ds, Vals [.int 1, .int 60] ds ∧ Binds K fd ["places", "least", "most"] ds :=
  F.binds1 1 0 (by decide) rfl fun T kV doc pm an cdv ct us its l1 l2 => match us, its, l1, l2 with
    | [_], [_, _], _, _ => ⟨_, rfl, rfl⟩
theorem ok_needPlaces {f fW : Addr} {fd fdW : FuncData} (F : FPlaces K f fd) (W : Wh P w K mg base fW fdW) : FnOk P w K mg base CX0 2 f fd ["places", "least", "most"] spNeedPlaces := by
  refine F.ok scNeedPlaces (fun vs H Q E h => ?_) (fun cdv A outer s H vs Q E hr h => ?_)
  · obtain ⟨n, rfl, _⟩ := h
    rfl
  · obtain ⟨n, rfl, h1, h2, q⟩ := h
    refine ⟨_, PSs.nox (pss_cons (ps_if (pt_not (pt_val (pe_callN W.ok hr (by rfl) W.g W.F.kp W.F.kb pass0 (pa_cons (pv 0) pa_nil) (pk_cons (pv 1) (pk_cons (pv 2) pk_nil))))) (pss_one ps_never) pss_nil)
      (pss_one (ps_ret (pv 0)))), ?_⟩
    refine ⟨_, rfl, _, rfl, _, rfl, rfl, rfl, _, _, _, rfl, _, rfl, ?_⟩
    rw [decide_eq_true (by omega), decide_eq_true (by omega)]
    exact iteF ⟨_, rfl, q⟩
/-! ### exchanged -/
def spExch : Sp := fun vs H Q _ => ∃ (a : Addr) (k : Nat) (o : List Nat), vs = [.ref a, .int (k : Int)] ∧ Wt H a o ∧ k + 1 < o.length ∧ o.length ≤ 60 ∧ ∀ H' p, Same H H' → Wt H' p (sp k o) → Q (.ref p) H'
theorem scExch : FnScope ["some", "place"] ["some", "place"] (defScope sExchanged) := ⟨rfl, rfl, rfl, by decide +kernel, rfl, by decide +kernel, by decide +kernel⟩
theorem ok_exch {f : Addr} {fd : FuncData} (D : Dn K mg "exchanged" sExchanged ["some", "place"] f fd) : FnOk P w K mg base CX0 1 f fd ["some", "place"] spExch := by
  refine D.F.ok scExch (fun vs H Q E h => ?_) (fun cdv A outer s H vs Q E hr h => ?_)
  · obtain ⟨a, k, o, rfl, _⟩ := h
    rfl
  · obtain ⟨a, k, o, rfl, ha, hk, hl, q⟩ := h
    have g0 : o[k]? = some o[k] := List.getElem?_eq_getElem (by omega)
    have g1 : o[k + 1]? = some o[k + 1] := List.getElem?_eq_getElem hk
    refine ⟨_, pss_one (ps_ret (pe_op op_catA (pe_op op_catA (pe_slice sl_tupA (pv 0) po_none (po_some (pv 1)))
        (pe_tup (pa_cons (pe_ix ix_tup (pv 0) (pe_op op_add (pv 1) pe_int) (fun _ _ => rfl)) (pa_cons (pe_ix ix_tup (pv 0) (pv 1) (fun _ _ => rfl)) pa_nil))))
      (pe_slice sl_tupA (pv 0) (po_some (pe_op op_add (pv 1) pe_int)) po_none))), ?_⟩
    refine ⟨_, rfl, _, rfl, _, rfl, sl_any ha fun H1 p1 s1 e1 => ?_⟩
    have a1 := ha.keep s1
    refine ⟨_, rfl, _, rfl, _, _, rfl, rfl, a, vi o, _, _, rfl, rfl, a1.sq, atI_nat (j := k + 1) (vi_get g1), ?_⟩
    refine ⟨_, rfl, _, rfl, a, vi o, _, _, rfl, rfl, a1.sq, atI_nat (j := k) (vi_get g0), ?_⟩
    refine ⟨by show 2 ≤ sizeLine; decide, fun p2 n2 => ?_⟩
    have s2 : Same H1 (upd H1 p2 (.tup [.int (o[k + 1] : Int), .int (o[k] : Int)])) := same_upd n2
    rw [cut_head, vi_take] at e1
    refine cat_any (Rd.keep e1 s2) (.inl upd_same) (small_line (by rw [vi_len, List.length_take]; show _ + 2 ≤ _; omega)) fun H3 p3 s3 e3 => ?_
    have a3 := (a1.keep s2).keep s3
    refine ⟨_, rfl, _, rfl, _, _, rfl, rfl, _, rfl, ?_⟩
    dsimp only [tNoPart]
    refine sl_any a3 fun H4 p4 s4 e4 => ?_
    have ek : ((k : Int) + 2) = ((k + 2 : Nat) : Int) := by omega
    rw [ek, cut_tail, vi_drop] at e4
    refine cat_any (Rd.keep e3 s4) e4 (small_line (by rw [List.length_append, vi_len, vi_len, List.length_take, List.length_drop]; show _ + 2 + _ ≤ _; omega)) fun H5 p5 s5 e5 => ?_
    refine q H5 p5 ((((s1.trans s2).trans s3).trans s4).trans s5) ?_
    refine Wt.eq e5 ?_
    rw [sp_eq k o _ _ g0 g1, vi_append, vi_append]
    rfl
end
end PmW
/-! Defs of the lower stages: orders. -/
namespace PmW
open PySem PySem.Spec PyProof.Rows L2 PmR PM
theorem PI.or {X : Cx} {tg it : Expr} {w w' : TI} (h : PI X tg it w) (h' : PI X tg it w') : PI X tg it (fun σ H R => w σ H R ∨ w' σ H R) := by
  refine ⟨fun pins s σ H R I q => ?_⟩
  rcases q with q | q
  · exact h.run pins s σ H R I q
  · exact h'.run pins s σ H R I q
theorem flat_vi (u : List Nat) : (vi u).all flatV = true := by
  unfold vi
  rw [List.all_map, List.all_eq_true]
  intro x _
  rfl
theorem inV_vi (k : Nat) : ∀ u : List Nat, inV (.int (k : Int)) (vi u) = decide (k ∈ u)
  | [] => rfl
  | x :: u => by
    have ih := inV_vi k u
    unfold inV at ih ⊢
    rw [vi_cons, List.any_cons, ih]
    show ((x : Int) == (k : Int) || decide (k ∈ u)) = _
    by_cases e : x = k
    · subst e
      simp
    · have h1 : ((x : Int) == (k : Int)) = false := beq_eq_false_iff_ne.mpr (fun z => e (by omega))
      rw [h1, Bool.false_or]
      have h2 : (k ∈ x :: u) ↔ (k ∈ u) := by
        rw [List.mem_cons]
        exact ⟨fun z => z.resolve_left fun q => e q.symm, .inr⟩
      exact (decide_eq_decide.mpr h2).symm
theorem nodup_take {o : List Nat} (h : o.Nodup) {i n : Nat} (e : o[i]? = some n) : n ∉ o.take i := by
  intro m
  obtain ⟨j, hj⟩ := List.getElem?_of_mem m
  rw [List.getElem?_take] at hj
  split at hj
  · rename_i lt
    have hi := (List.getElem?_eq_some_iff.mp e).1
    have := (List.getElem?_inj hi h).mp (e.trans hj.symm)
    omega
  · cases hj
/-- an order's tuple or list -/
abbrev Ei (H : Hp) (a : Addr) (o : List Nat) : Prop := Wt H a o ∨ Ls H a o
theorem Ei.keep {H H' : Hp} {a : Addr} {o : List Nat} (h : Ei H a o) (s : Same H H') : Ei H' a o := h.elim (fun h => .inl (h.keep s)) (fun h => .inr (h.keep s))
theorem Ei.sq {K : PySem.W.Frag} {H : Hp} {a : Addr} {o : List Nat} (h : Ei H a o) : SqL K H a (vi o) ∨ SqT K H a (vi o) := h.elim (fun h => .inr h.sq) (fun h => .inl h.sq)
theorem sl_either {K : PySem.W.Frag} {H : Hp} {a : Addr} {o : List Nat} {lo hi : Option Int} {Q : VK} (h : Ei H a o) (q : ∀ H' p, Same H H' → (SqL K H' p (cutV (vi o) lo hi) ∨ SqT K H' p (cutV (vi o) lo hi)) → Q (.ref p) H') : rSlA K (.ref a) lo hi H Q ∨ rSlL K (.ref a) lo hi H Q := by
  rcases h with h | h
  · exact .inl (sl_any h.rd fun H' p s e => q H' p s (.inr (Rd.sq e)))
  · exact .inr ⟨a, _, rfl, h.sq, fun p np => q _ p (same_upd np) (.inl (.of upd_same))⟩
section
variable {P : Program} {w : World} {K : PySem.W.Frag} {mg : Str → Option Value} {base : Heap}
/-! ### order_of -/
def spOrderOf : Sp := fun vs H Q _ => ∃ (n : Nat) (a : Addr) (u : List Nat), vs = [.int (n : Int), .ref a] ∧ 1 ≤ n ∧ n ≤ 60 ∧ Wt H a u ∧ u.length ≤ 2000 ∧ (∀ k ∈ u, k + 1 < n) ∧ ∀ H' p, Same H H' → Wt H' p (run (List.range n) u) → Q (.ref p) H'
theorem scOrderOf : FnScope ["places", "word", "found", "place"] ["places", "word"] (defScope sOrderOf) := ⟨rfl, rfl, rfl, by decide +kernel, rfl, by decide +kernel, by decide +kernel⟩
/-- need_places, called -/
structure Pl (P : Program) (w : World) (K : PySem.W.Frag) (mg : Str → Option Value) (base : Heap) (f : Addr) (fd : FuncData) : Prop where
  F : FPlaces K f fd
  g : mg "need_places" = some (.ref f)
  ok : FnOk P w K mg base CX0 2 f fd ["places", "least", "most"] spNeedPlaces
theorem run_snoc (o w : List Nat) (k : Nat) : run o (w ++ [k]) = sp k (run o w) := by rw [run_append]; rfl
theorem take_snoc {o : List Nat} {i n : Nat} (e : o[i]? = some n) : o.take (i + 1) = o.take i ++ [n] := by rw [List.take_add_one, e]; rfl
theorem ok_orderOf {f fP fN fX : Addr} {fd fdP fdN fdX : FuncData} (D : Dn K mg "order_of" sOrderOf ["places", "word"] f fd) (B : Bl mg) (PL : Pl P w K mg base fP fdP)
    (DN : Dn K mg "need_word" sNeedWord ["places", "word"] fN fdN) (N : FnOk P w K mg base CX0 3 fN fdN ["places", "word"] spNeedWord)
    (DX : Dn K mg "exchanged" sExchanged ["some", "place"] fX fdX) (X : FnOk P w K mg base CX0 1 fX fdX ["some", "place"] spExch) : FnOk P w K mg base CX0 4 f fd ["places", "word"] spOrderOf := by
  obtain ⟨ds, rds, bds⟩ := PL.F.b1
  refine D.F.ok scOrderOf (fun vs H Q E h => ?_) (fun cdv A outer s H vs Q E hr h => ?_)
  · obtain ⟨n, a, u, rfl, _⟩ := h
    rfl
  · obtain ⟨n, a, u, rfl, h1, h2, ha, hl, hk, q⟩ := h
    refine ⟨_, pss_cons (ps_set (i := 2) scOrderOf.nd rfl (.inl rfl) (pe_tupRgF rfl (by rfl) B.tuple (prg_1 (by rfl) B.range (pe_call PL.ok (hr.mono (by decide)) (by rfl) PL.g PL.F.kp bds rds pass0 (pa_cons (pv 0) pa_nil)))))
      (pss_cons (ps_for PassesOwn.never rfl (pi_tup (pe_call N hr (by rfl) DN.g DN.kp DN.b .nil pass0 (pa_cons (pv 0) (pa_cons (pv 1) pa_nil)))) (pg_name (i := 3) scOrderOf.nd rfl (.inl rfl))
        (pss_one (ps_set (i := 2) scOrderOf.nd rfl (.inl rfl) (pe_call X (hr.mono (by decide)) (by rfl) DX.g DX.kp DX.b .nil pass0 (pa_cons (pv 2) (pa_cons (pv 3) pa_nil))))))
      (pss_one (ps_ret (pv 2)))), ?_⟩
    refine ⟨_, rfl, n, rfl, h1, h2, n, rfl, RgOk.of_le (by decide) (by omega) (by decide) (by omega), fun H1 p s1 e1 => ?_⟩
    rw [rg_vi] at e1
    refine ⟨_, rfl, _, rfl, n, a, u, rfl, ha.keep s1, hl, hk, fun H2 s2 => ?_⟩
    have s12 := s1.trans s2
    refine ⟨a, rfl, ⟨_, (ha.keep s12).sq⟩, for_tup (xs := vi u) (fun i σ H3 => ∃ z p, σ = [some (.int (n : Int)), some (.ref a), some (.ref p), z] ∧ Same H H3 ∧ Wt H3 p (run (List.range n) (u.take i))) ⟨_, p, rfl, s12, (e1.wt).keep s2⟩ (fun i σ H3 _ ⟨_, _, _, s3, _⟩ => (ha.keep s3).sq) ?_ ?_⟩
    · rintro i x σ H3 hx ⟨z, p3, rfl, s3, e3⟩
      obtain ⟨k, hk1, rfl⟩ := vi_get_inv hx
      have hkn := hk k (List.mem_of_getElem? hk1)
      have hlen : (run (List.range n) (u.take i)).length = n := by rw [run_len, List.length_range]
      refine ⟨_, rfl, _, rfl, p3, k, _, rfl, e3, by omega, by omega, fun H4 p4 s4 e4 => ⟨_, p4, rfl, s3.trans s4, ?_⟩⟩
      rw [take_snoc hk1, run_snoc]
      exact e4
    · rintro σ H3 ⟨z, p3, rfl, s3, e3⟩
      rw [vi_len, List.take_length] at e3
      exact ⟨_, rfl, q H3 p3 s3 e3⟩
/-! ### order_fault -/
def spOrderFault : Sp := fun vs H Q _ => ∃ (a : Addr) (o : List Nat), vs = [.ref a] ∧ (Wt H a o ∨ Ls H a o) ∧ Ord o ∧ 1 ≤ o.length ∧ o.length ≤ 60 ∧ ∀ H', Same H H' → Q .non H'
theorem scOrderFault : FnScope ["thing", "at", "runner"] ["thing"] (defScope sOrderFault) := ⟨rfl, rfl, rfl, by decide +kernel, rfl, by decide +kernel, by decide +kernel⟩
theorem ok_orderFault {f fW fL : Addr} {fd fdW fdL : FuncData} (D : Dn K mg "order_fault" sOrderFault ["thing"] f fd) (B : Bl mg) (W : Wh P w K mg base fW fdW) (L : Li P w K mg base fL fdL) : FnOk P w K mg base CX0 2 f fd ["thing"] spOrderFault := by
  obtain ⟨tP, gP⟩ := B.PLACES
  refine D.F.ok scOrderFault (fun vs H Q E h => ?_) (fun cdv A outer s H vs Q E hr h => ?_)
  · obtain ⟨a, o, rfl, _⟩ := h
    rfl
  · obtain ⟨a, o, rfl, ha, od, h1, h2, q⟩ := h
    refine ⟨_, pss_cons (ps_if (PW.pt (pw_or (pt_not (pt_val (pe_call L.ok hr (by rfl) L.D.g L.D.kp L.D.b .nil pass0 (pa_cons (pv 0) pa_nil))))
        (pw_or1 (pt_not (pt_chain op_le op_le pe_int (pe_callB call_len_seq (by rfl) B.len PySem.boot_len (pa_cons (pv 0) pa_nil)) (pe_glob (v := .int 60) (by rfl) gP ⟨_, rfl⟩))))))
        (pss_one (ps_ret (pe_un un_neg pe_int))) pss_nil)
      (pss_cons (ps_for PassesOwn.never rfl (PI.or (pi_enumT (by rfl) B.enumerate (pa_cons (pv 0) pa_nil)) (pi_enum (by rfl) B.enumerate (pa_cons (pv 0) pa_nil))) (pg_tup rfl (pgs_cons (pg_name (i := 1) scOrderFault.nd rfl (.inl rfl)) (pgs_cons (pg_name (i := 2) scOrderFault.nd rfl (.inl rfl)) pgs_nil)))
        (pss_one (ps_if (PW.pt (pw_or (pt_not (pt_val (pe_callN W.ok hr (by rfl) W.g W.F.kp W.F.kb pass0 (pa_cons (pv 2) pa_nil) (pk_cons pe_int (pk_cons (pe_op op_sub (pe_callB call_len_seq (by rfl) B.len PySem.boot_len (pa_cons (pv 0) pa_nil)) pe_int) pk_nil)))))
          (pw_or1 (pt_cmpR op_in_seq (pv 2) (pe_slice (SlR.or sl_tupA sl_list) (pv 0) po_none (po_some (pv 1))) (by with_unfolding_all rfl))))) (pss_one (ps_ret (pv 1))) pss_nil)))
      (pss_one (ps_ret pe_non))), ?_⟩
    refine ⟨_, rfl, a, rfl, ha.elim (fun h => .inl ⟨_, h.rd⟩) (fun h => .inr ⟨_, h⟩), fun H1 s1 => ⟨true, rfl, iteF ?_⟩⟩
    refine ⟨_, rfl, a, vi o, rfl, Ei.sq (Ei.keep ha s1), _, _, rfl, rfl, _, rfl, ?_⟩
    rw [vi_len, decide_eq_true (by omega)]
    refine iteT ⟨_, _, rfl, rfl, _, rfl, ?_⟩
    rw [decide_eq_true (by omega)]
    refine iteF ?_
    rcases ha with ha | ha
    · refine .inl ⟨_, rfl, a, vi o, rfl, (ha.keep s1).sq, for_it walk_enumT (fun i σ H2 => ∃ y z, σ = [some (.ref a), y, z] ∧ Same H H2) ⟨_, _, rfl, s1⟩ (fun i σ H2 _ ⟨_, _, _, s2⟩ => (ha.keep s2).sq) ?_ ?_⟩
      · rintro i x σ H2 H3 hi ⟨y, z, rfl, s2⟩ ⟨T, x1, x2, rfl, nT, rfl, e1, e2⟩
        cases Option.some.inj e1
        obtain ⟨k, hk1, rfl⟩ := vi_get_inv e2
        have hkn := od.lt k (List.mem_of_getElem? hk1)
        have s3 := s2.trans (same_upd (o := .tup [.int (i : Nat), .int (k : Int)]) nT)
        refine ⟨T, _, rfl, .inl (.inl upd_same), rfl, _, _, rfl, _, _, rfl, rfl, ?_⟩
        refine ⟨_, rfl, _, rfl, a, vi o, rfl, .inr (ha.keep s3).sq, _, _, rfl, rfl, rfl, rfl, _, _, _, rfl, _, rfl, ?_⟩
        rw [vi_len, decide_eq_true (by omega), decide_eq_true (by omega)]
        refine iteF ⟨_, rfl, _, rfl, ?_⟩
        dsimp only [tNoPart]
        refine ⟨_, rfl, _, rfl, sl_either (.inl (ha.keep s3)) fun H4 p4 s4 e4 => ?_⟩
        rw [cut_head, vi_take] at e4
        refine ⟨p4, _, rfl, e4, rfl, flat_vi _, _, rfl, ?_⟩
        rw [inV_vi, decide_eq_false (nodup_take od.nd hk1)]
        exact iteF ⟨_, _, rfl, s3.trans s4⟩
      · rintro σ H2 ⟨y, z, rfl, s2⟩
        exact q H2 s2
    · refine .inr ⟨_, rfl, a, vi o, rfl, (ha.keep s1).sq, for_it walk_enum (fun i σ H2 => ∃ y z, σ = [some (.ref a), y, z] ∧ Same H H2) ⟨_, _, rfl, s1⟩ (fun i σ H2 _ ⟨_, _, _, s2⟩ => (ha.keep s2).sq) ?_ ?_⟩
      · rintro i x σ H2 H3 hi ⟨y, z, rfl, s2⟩ ⟨T, x1, x2, rfl, nT, rfl, e1, e2⟩
        cases Option.some.inj e1
        obtain ⟨k, hk1, rfl⟩ := vi_get_inv e2
        have hkn := od.lt k (List.mem_of_getElem? hk1)
        have s3 := s2.trans (same_upd (o := .tup [.int (i : Nat), .int (k : Int)]) nT)
        refine ⟨T, _, rfl, .inl (.inl upd_same), rfl, _, _, rfl, _, _, rfl, rfl, ?_⟩
        refine ⟨_, rfl, _, rfl, a, vi o, rfl, .inl (ha.keep s3).sq, _, _, rfl, rfl, rfl, rfl, _, _, _, rfl, _, rfl, ?_⟩
        rw [vi_len, decide_eq_true (by omega), decide_eq_true (by omega)]
        refine iteF ⟨_, rfl, _, rfl, ?_⟩
        dsimp only [tNoPart]
        refine ⟨_, rfl, _, rfl, sl_either (.inr (ha.keep s3)) fun H4 p4 s4 e4 => ?_⟩
        rw [cut_head, vi_take] at e4
        refine ⟨p4, _, rfl, e4, rfl, flat_vi _, _, rfl, ?_⟩
        rw [inV_vi, decide_eq_false (nodup_take od.nd hk1)]
        exact iteF ⟨_, _, rfl, s3.trans s4⟩
      · rintro σ H2 ⟨y, z, rfl, s2⟩
        exact q H2 s2
end
end PmW
/-! Defs of the lower stages: need_order, joined, undone, firsts, called_on. -/
namespace PmW
open PySem PySem.Spec PyProof.Rows L2 PmR PM
/-! ### comprehensions that leave the rest as it was -/
theorem same_put {H1 H4 : Hp} {D : Addr} {o : HO} (n : H1 D = none) (s : Same H1 H4) : Same H1 (upd H4 D o) := fun b x e => by
  rw [upd_ne (ne_of_none e n)]
  exact s _ _ e
def lcP (H1 : Hp) (D : Addr) (F : Nat → List V) (i : Nat) (H : Hp) : Prop := Same H1 H ∧ H D = some (.lst (F i))
theorem lcP0 {H1 : Hp} {D : Addr} {F : Nat → List V} (n : H1 D = none) (e : F 0 = []) : lcP H1 D F 0 (upd H1 D (.lst [])) := ⟨same_upd n, by rw [e]; exact upd_same⟩
theorem lcP_put {H1 H4 : Hp} {D : Addr} {F : Nat → List V} {i : Nat} {y : V} (n : H1 D = none) (s : Same H1 H4) (d : H4 D = some (.lst (F i))) (z : (F i).length ≤ 10000) (e : F (i + 1) = F i ++ [y]) :
    ∃ acc, H4 D = some (.lst acc) ∧ acc.length < sizeLine ∧ lcP H1 D F (i + 1) (upd H4 D (.lst (acc ++ [y]))) :=
  ⟨F i, d, small_line' z, same_put n s, by rw [e]; exact upd_same⟩
theorem lcP_skip {H1 H4 : Hp} {D : Addr} {F : Nat → List V} {i : Nat} (s : Same H1 H4) (d : H4 D = some (.lst (F i))) (e : F (i + 1) = F i) : lcP H1 D F (i + 1) H4 := ⟨s, by rw [e]; exact d⟩
section
variable {P : Program} {w : World} {K : PySem.W.Frag} {mg : Str → Option Value} {base : Heap}
/-! ### need_order -/
def spNeedOrder : Sp := fun vs H Q _ => ∃ (a : Addr) (o : List Nat), vs = [.ref a] ∧ Ord o ∧ 1 ≤ o.length ∧ o.length ≤ 60 ∧ ((Wt H a o ∧ ∀ H', Same H H' → Q (.ref a) H') ∨ (Ls H a o ∧ ∀ H' p, Same H H' → Ot H' p o → Q (.ref p) H'))
theorem scNeedOrder : FnScope ["order", "fault"] ["order"] (defScope sNeedOrder) := ⟨rfl, rfl, rfl, by decide +kernel, rfl, by decide +kernel, by decide +kernel⟩
theorem ok_needOrder {f fF : Addr} {fd fdF : FuncData} (D : Dn K mg "need_order" sNeedOrder ["order"] f fd) (B : Bl mg) (DF : Dn K mg "order_fault" sOrderFault ["thing"] fF fdF) (G : FnOk P w K mg base CX0 2 fF fdF ["thing"] spOrderFault) :
    FnOk P w K mg base CX0 3 f fd ["order"] spNeedOrder := by
  refine D.F.ok scNeedOrder (fun vs H Q E h => ?_) (fun cdv A outer s H vs Q E hr h => ?_)
  · obtain ⟨a, o, rfl, _⟩ := h
    rfl
  · obtain ⟨a, o, rfl, od, h1, h2, h⟩ := h
    refine ⟨_, pss_cons (ps_set (i := 1) scNeedOrder.nd rfl (.inl rfl) (pe_call G hr (by rfl) DF.g DF.kp DF.b .nil pass0 (pa_cons (pv 0) pa_nil)))
      (pss_cons (ps_if (pt_cmp (pc_notN (pv 1))) (pss_one ps_never) pss_nil)
      (pss_one (ps_ret (pe_tupleF (by rfl) B.tuple (pv 0))))), ?_⟩
    refine ⟨_, rfl, a, o, rfl, h.elim (fun h => .inl h.1) (fun h => .inr h.1), od, h1, h2, fun H1 s1 => ?_⟩
    refine ⟨_, rfl, _, rfl, iteNS rfl ⟨_, rfl, ?_⟩⟩
    rcases h with ⟨ha, q⟩ | ⟨ha, q⟩
    · exact .inr ⟨a, _, rfl, (ha.keep s1).sq, q H1 s1⟩
    · exact .inl ⟨a, _, rfl, (ha.keep s1).sq, fun H2 p s2 _ e => q H2 p (s1.trans s2) e⟩
/-- need_order, called -/
structure No (P : Program) (w : World) (K : PySem.W.Frag) (mg : Str → Option Value) (base : Heap) (f : Addr) (fd : FuncData) : Prop where
  D : Dn K mg "need_order" sNeedOrder ["order"] f fd
  ok : FnOk P w K mg base CX0 3 f fd ["order"] spNeedOrder
/-! ### undone -/
def spUndone : Sp := fun vs H Q _ => ∃ (a : Addr) (o : List Nat), vs = [.ref a] ∧ Ord o ∧ 1 ≤ o.length ∧ o.length ≤ 60 ∧ Ot H a o ∧ ∀ H' p, Same H H' → Ot H' p (und o) → Q (.ref p) H'
theorem scUndone : FnScope ["order", "some", "runner"] ["order"] (defScope sUndone) := ⟨rfl, rfl, rfl, by decide +kernel, rfl, by decide +kernel, by decide +kernel⟩
theorem range_succ_map (f : Nat → Nat) (i : Nat) : vi ((List.range (i + 1)).map f) = vi ((List.range i).map f) ++ [V.int (f i : Nat)] := by
  rw [List.range_succ, List.map_append, vi_append]
  rfl
theorem ok_undone {f fN : Addr} {fd fdN : FuncData} (D : Dn K mg "undone" sUndone ["order"] f fd) (B : Bl mg) (N : No P w K mg base fN fdN) : FnOk P w K mg base CX0 4 f fd ["order"] spUndone := by
  refine D.F.ok scUndone (fun vs H Q E h => ?_) (fun cdv A outer s H vs Q E hr h => ?_)
  · obtain ⟨a, o, rfl, _⟩ := h
    rfl
  · obtain ⟨a, o, rfl, od, h1, h2, ha, q⟩ := h
    refine ⟨_, pss_cons (ps_set (i := 1) scUndone.nd rfl (.inr rfl) (pe_call N.ok hr (by rfl) N.D.g N.D.kp N.D.b .nil pass0 (pa_cons (pv 0) pa_nil)))
      (pss_one (ps_ret (pe_tupleF (by rfl) B.tuple (pe_lc (own := [("runner", 2)]) (g := gName 2) (tt := tYes) rfl scUndone.nd (pi_range1 (by rfl) B.range (pa_cons (pe_callB call_len_seq (by rfl) B.len PySem.boot_len (pa_cons (pv 1) pa_nil)) pa_nil))
        (blkOk_by (N := ["order", "some", "runner"]) (sc := defScope sUndone) (by decide +kernel)) (fun _ _ _ _ _ => pg_name (i := 2) scUndone.nd rfl (Or.inl rfl)) (fun _ _ _ _ _ => pts_nil) (fun _ _ _ _ _ => pe_ix_ (pv 1) (pa_cons (pv 2) pa_nil)))))), ?_⟩
    refine ⟨_, rfl, a, o, rfl, od, h1, h2, .inl ⟨ha.wt, fun H1 s1 => ?_⟩⟩
    refine ⟨_, rfl, a, vi o, rfl, .inr (ha.keep s1).sq, ?_⟩
    have l60 : ∀ i, i ≤ o.length → (vi ((List.range i).map fun r => o.idxOf r)).length ≤ 10000 := fun i hi => by
      rw [vi_len, List.length_map, List.length_range]
      omega
    refine ⟨o.length, (by rw [vi_len]), by omega, by omega, fun L nL => lc_range (n := o.length) (lcP H1 L fun i => vi ((List.range i).map fun r => o.idxOf r)) (lcP0 nL rfl) ?_ ?_⟩
    · rintro i H2 hi ⟨s2, e2⟩
      refine ⟨rfl, ?_⟩
      refine ⟨_, rfl, a, o, rfl, (ha.keep s1).keep s2, _, rfl, i, (by rw [Int.zero_add]), (ha.keep s1).keep s2, od.has hi, ?_⟩
      exact lcP_put nL s2 e2 (l60 i (by omega)) (range_succ_map _ i)
    · rintro H2 ⟨s2, e2⟩
      refine .inl ⟨L, _, rfl, .inl (.inl e2), fun H3 p s3 _ e3 => q H3 p ((s1.trans s2).trans s3) e3⟩
/-! ### joined -/
def spJoined : Sp := fun vs H Q _ => ∃ (a b : Addr) (o u : List Nat), vs = [.ref a, .ref b] ∧ Ord o ∧ Ord u ∧ 1 ≤ o.length ∧ o.length ≤ 60 ∧ u.length = o.length ∧ Wt H a o ∧ Wt H b u ∧ ∀ H' p, Same H H' → Ot H' p (u.map fun k => o.getD k 0) → Q (.ref p) H'
theorem scJoined : FnScope ["one", "other", "first", "place"] ["one", "other"] (defScope sJoined) := ⟨rfl, rfl, rfl, by decide +kernel, rfl, by decide +kernel, by decide +kernel⟩
theorem map_take_snoc (f : Nat → Nat) {u : List Nat} {i k : Nat} (e : u[i]? = some k) : vi ((u.take (i + 1)).map f) = vi ((u.take i).map f) ++ [V.int (f k : Nat)] := by
  rw [take_snoc e, List.map_append, vi_append]
  rfl
theorem ok_joined {f fN fL : Addr} {fd fdN fdL : FuncData} (D : Dn K mg "joined" sJoined ["one", "other"] f fd) (B : Bl mg) (N : No P w K mg base fN fdN) (L : Li P w K mg base fL fdL) : FnOk P w K mg base CX0 4 f fd ["one", "other"] spJoined := by
  refine D.F.ok scJoined (fun vs H Q E h => ?_) (fun cdv A outer s H vs Q E hr h => ?_)
  · obtain ⟨a, b, o, u, rfl, _⟩ := h
    rfl
  · obtain ⟨a, b, o, u, rfl, od, ud, h1, h2, hl, ha, hb, q⟩ := h
    refine ⟨_, pss_cons (ps_set (i := 2) scJoined.nd rfl (.inr rfl) (pe_call N.ok hr (by rfl) N.D.g N.D.kp N.D.b .nil pass0 (pa_cons (pv 0) pa_nil)))
      (pss_cons (ps_if (PW.pt (pw_and (pt_val (pe_call L.ok (hr.mono (by decide)) (by rfl) L.D.g L.D.kp L.D.b .nil pass0 (pa_cons (pv 1) pa_nil)))
        (pw_and1 (pt_cmpR op_ne (pe_callB call_len_seq (by rfl) B.len PySem.boot_len (pa_cons (pv 1) pa_nil)) (pe_callB call_len_seq (by rfl) B.len PySem.boot_len (pa_cons (pv 2) pa_nil)) (nomark _))))) (pss_one ps_never) pss_nil)
      (pss_one (ps_ret (pe_tupleF (by rfl) B.tuple (pe_lc (own := [("place", 3)]) (g := gName 3) (tt := tYes) rfl scJoined.nd (pi_tup (pe_call N.ok hr (by rfl) N.D.g N.D.kp N.D.b .nil pass0 (pa_cons (pv 1) pa_nil)))
        (blkOk_by (N := ["one", "other", "first", "place"]) (sc := defScope sJoined) (by decide +kernel)) (fun _ _ _ _ _ => pg_name (i := 3) scJoined.nd rfl (Or.inl rfl)) (fun _ _ _ _ _ => pts_nil) (fun _ _ _ _ _ => pe_ix (r := rIxT K) ix_tup (pv 2) (pv 3) (fun _ _ => rfl))))))), ?_⟩
    refine ⟨_, rfl, a, o, rfl, od, h1, h2, .inl ⟨ha, fun H1 s1 => ?_⟩⟩
    refine ⟨_, rfl, b, rfl, .inl ⟨_, (hb.keep s1).rd⟩, fun H2 s2 => ⟨true, rfl, iteT ?_⟩⟩
    have s12 := s1.trans s2
    refine ⟨_, rfl, b, vi u, rfl, .inr (hb.keep s12).sq, _, rfl, a, vi o, rfl, .inr (ha.keep s12).sq, rfl, _, rfl, ?_⟩
    rw [vi_len, vi_len, hl]
    refine iteNS (by simp) ?_
    refine ⟨_, rfl, b, u, rfl, ud, by omega, by omega, .inl ⟨hb.keep s12, fun H3 s3 => ?_⟩⟩
    have s13 := s12.trans s3
    refine ⟨b, rfl, ⟨_, (hb.keep s13).sq⟩, fun L nL => lc_tup (xs := vi u) (lcP H3 L fun i => vi ((u.take i).map fun k => o.getD k 0)) (lcP0 nL rfl) (fun i H4 _ p => ((hb.keep s13).keep p.1).sq) ?_ ?_⟩
    · rintro i x H4 hx ⟨s4, e4⟩
      obtain ⟨k, hk1, rfl⟩ := vi_get_inv hx
      have hk : k < o.length := by
        have := ud.lt k (List.mem_of_getElem? hk1)
        omega
      refine ⟨rfl, ?_⟩
      refine ⟨_, rfl, _, rfl, a, vi o, _, _, rfl, rfl, ((ha.keep s13).keep s4).sq, atI_nat (j := k) (vi_get (List.getElem?_eq_getElem hk)), ?_⟩
      refine lcP_put nL s4 e4 ?_ ?_
      · rw [vi_len, List.length_map, List.length_take]
        omega
      · rw [map_take_snoc _ hk1, List.getD_eq_getElem?_getD, List.getElem?_eq_getElem hk]
        rfl
    · rintro H4 ⟨s4, e4⟩
      rw [vi_len] at e4
      dsimp only at e4
      rw [List.take_length] at e4
      exact .inl ⟨L, _, rfl, .inl (.inl e4), fun H5 p s5 _ e5 => q H5 p ((s13.trans s4).trans s5) e5⟩
/-! ### firsts -/
def spFirsts : Sp := fun vs H Q _ => ∃ (a : Addr) (o : List Nat), vs = [.ref a] ∧ Ord o ∧ o.length ≤ 60 ∧ Ot H a o ∧ ∀ H' p, Same H H' → H p = none → Ls H' p (firsts o) → Q (.ref p) H'
theorem scFirsts : FnScope ["order", "place"] ["order"] (defScope sFirsts) := ⟨rfl, rfl, rfl, by decide +kernel, rfl, by decide +kernel, by decide +kernel⟩
theorem filter_succ (p : Nat → Bool) (i : Nat) : (List.range (i + 1)).filter p = if p i = true then (List.range i).filter p ++ [i] else (List.range i).filter p := by
  rw [List.range_succ, List.filter_append, List.filter_cons, List.filter_nil]
  by_cases h : p i = true
  · rw [if_pos h, if_pos h]
  · rw [if_neg h, if_neg h, List.append_nil]
theorem filter_len (p : Nat → Bool) (i : Nat) : ((List.range i).filter p).length ≤ i := by
  have := List.length_filter_le p (List.range i)
  rw [List.length_range] at this
  exact this
theorem ok_firsts {f : Addr} {fd : FuncData} (D : Dn K mg "firsts" sFirsts ["order"] f fd) (B : Bl mg) : FnOk P w K mg base CX0 1 f fd ["order"] spFirsts := by
  refine D.F.ok scFirsts (fun vs H Q E h => ?_) (fun cdv A outer s H vs Q E hr h => ?_)
  · obtain ⟨a, o, rfl, _⟩ := h
    rfl
  · obtain ⟨a, o, rfl, od, h2, ha, q⟩ := h
    refine ⟨_, pss_one (ps_ret (pe_lc (own := [("place", 1)]) (g := gName 1) rfl scFirsts.nd (pi_range1 (by rfl) B.range (pa_cons (pe_op op_sub (pe_callB call_len_seq (by rfl) B.len PySem.boot_len (pa_cons (pv 0) pa_nil)) pe_int) pa_nil))
        (blkOk_by (N := ["order", "place"]) (sc := defScope sFirsts) (by decide +kernel)) (fun _ _ _ _ _ => pg_name (i := 1) scFirsts.nd rfl (Or.inl rfl))
        (fun _ _ _ _ _ => pts_one (pt_cmpR op_lt (pe_ix_ (pv 0) (pa_cons (pe_op op_add (pv 1) pe_int) pa_nil)) (pe_ix_ (pv 0) (pa_cons (pv 1) pa_nil)) (nomark _))) (fun _ _ _ _ _ => pv 1))), ?_⟩
    refine ⟨_, rfl, a, vi o, rfl, .inr ha.sq, _, _, rfl, rfl, (o.length : Int) - 1, (by rw [vi_len]), by omega, by omega, fun L nL => ?_⟩
    rw [show ((o.length : Int) - 1).toNat = o.length - 1 by omega]
    refine lc_range (n := o.length - 1) (lcP H L fun i => vi ((List.range i).filter fun k => decide (o.idxOf (k + 1) < o.idxOf k))) (lcP0 nL rfl) ?_ ?_
    · rintro i H2 hi ⟨s2, e2⟩
      have z : (vi ((List.range i).filter fun k => decide (o.idxOf (k + 1) < o.idxOf k))).length ≤ 10000 := by
        rw [vi_len]
        have := filter_len (fun k => decide (o.idxOf (k + 1) < o.idxOf k)) i
        omega
      have hs := filter_succ (fun k => decide (o.idxOf (k + 1) < o.idxOf k)) i
      rw [Int.zero_add]
      refine ⟨rfl, ?_⟩
      refine ⟨_, rfl, a, o, rfl, ha.keep s2, _, rfl, _, _, rfl, rfl, i + 1, rfl, ha.keep s2, od.has (by omega), ?_⟩
      refine ⟨_, rfl, a, o, rfl, ha.keep s2, _, rfl, i, rfl, ha.keep s2, od.has (by omega), ?_⟩
      refine ⟨_, _, rfl, rfl, _, rfl, ?_⟩
      by_cases c : o.idxOf (i + 1) < o.idxOf i
      · rw [if_pos (decide_eq_true c)] at hs
        rw [decide_eq_true (show ((o.idxOf (i + 1) : Nat) : Int) < (o.idxOf i : Nat) by omega)]
        refine iteT ⟨_, rfl, lcP_put nL s2 e2 z ?_⟩
        rw [hs, vi_append]
        rfl
      · rw [if_neg (by rw [decide_eq_false c]; decide)] at hs
        rw [decide_eq_false (show ¬ ((o.idxOf (i + 1) : Nat) : Int) < (o.idxOf i : Nat) by omega)]
        refine iteF (lcP_skip s2 e2 ?_)
        rw [hs]
    · rintro H2 ⟨s2, e2⟩
      exact q H2 L s2 nL e2
/-! ### called_on -/
def spCalledOn : Sp := fun vs H Q _ => ∃ (a : Addr) (k : Nat) (o : List Nat), vs = [.ref a, .int (k : Int)] ∧ o.length ≤ 60 ∧ Wt H a o ∧ ∀ H' p, Same H H' → Ot H' p (sv k o) → Q (.ref p) H'
theorem scCalledOn : FnScope ["order", "place", "names", "runner"] ["order", "place"] (defScope sCalledOn) := ⟨rfl, rfl, rfl, by decide +kernel, rfl, by decide +kernel, by decide +kernel⟩
theorem names_at (k x : Nat) : (valV (mergeK [] [(Sum.inl (k : Int), V.int ((k : Int) + 1)), (Sum.inl ((k : Int) + 1), V.int (k : Int))]) (Sum.inl (x : Int))).getD (V.int (x : Int)) = V.int (sw k x : Nat) := by
  show (valV (putK (putK [] _ _) _ _) _).getD _ = _
  rw [valV_put, valV_put]
  have i1 : ((Sum.inl (x : Int) : Key) = Sum.inl ((k : Int) + 1)) ↔ x = k + 1 := ⟨fun z => by injection z with z; omega, fun z => by subst z; rfl⟩
  have i2 : ((Sum.inl (x : Int) : Key) = Sum.inl (k : Int)) ↔ x = k := ⟨fun z => by injection z with z; omega, fun z => by subst z; rfl⟩
  unfold sw
  by_cases h1 : x = k
  · rw [if_neg (fun z => by have := i1.mp z; omega), if_pos (i2.mpr h1), if_pos h1]
    rfl
  · by_cases h2 : x = k + 1
    · rw [if_pos (i1.mpr h2), if_neg h1, if_pos h2]
      rfl
    · rw [if_neg (fun z => h2 (i1.mp z)), if_neg (fun z => h1 (i2.mp z)), if_neg h1, if_neg h2]
      rfl
theorem ok_calledOn {f : Addr} {fd : FuncData} (D : Dn K mg "called_on" sCalledOn ["order", "place"] f fd) (B : Bl mg) : FnOk P w K mg base CX0 1 f fd ["order", "place"] spCalledOn := by
  refine D.F.ok scCalledOn (fun vs H Q E h => ?_) (fun cdv A outer s H vs Q E hr h => ?_)
  · obtain ⟨a, k, o, rfl, _⟩ := h
    rfl
  · obtain ⟨a, k, o, rfl, h2, ha, q⟩ := h
    refine ⟨_, pss_cons (ps_set (i := 2) scCalledOn.nd rfl (.inr rfl) (pe_disp (pps_cons (pv 1) (pe_op op_add (pv 1) pe_int) (pps_cons (pe_op op_add (pv 1) pe_int) (pv 1) pps_nil)) rfl rfl (by intro z; cases z) (by decide)))
      (pss_one (ps_ret (pe_tupleF (by rfl) B.tuple (pe_lc (own := [("runner", 3)]) (g := gName 3) (tt := tYes) rfl scCalledOn.nd (pi_tup (pv 0))
        (blkOk_by (N := ["order", "place", "names", "runner"]) (sc := defScope sCalledOn) (by decide +kernel)) (fun _ _ _ _ _ => pg_name (i := 3) scCalledOn.nd rfl (Or.inl rfl)) (fun _ _ _ _ _ => pts_nil)
        (fun _ _ _ _ _ => pe_dget2 (hu_of hr) (pv 2) (pv 3) (pv 3) ⟨rfl, rfl, rfl, rfl⟩))))), ?_⟩
    intro d nd
    refine ⟨_, rfl, _, rfl, _, _, rfl, rfl, _, rfl, _, _, rfl, rfl, _, rfl, ?_⟩
    refine ⟨upd_same, [(Sum.inl (k : Int), V.int ((k : Int) + 1)), (Sum.inl ((k : Int) + 1), V.int (k : Int))], rfl, (by show 2 ≤ 15; decide), ?_⟩
    rw [upd_upd]
    generalize hm : mergeK [] [(Sum.inl (k : Int), V.int ((k : Int) + 1)), (Sum.inl ((k : Int) + 1), V.int (k : Int))] = m
    have hg : ∀ x : Nat, (valV m (Sum.inl (x : Int))).getD (V.int (x : Int)) = V.int (sw k x : Nat) := fun x => by rw [← hm]; exact names_at k x
    have s1 : Same H (upd H d (.dK m)) := same_upd nd
    have d1 : upd H d (.dK m) d = some (.dK m) := upd_same
    revert s1 d1
    generalize upd H d (.dK m) = H1
    intro s1 d1
    refine ⟨_, rfl, a, rfl, ⟨_, (ha.keep s1).sq⟩, fun L nL => lc_tup (xs := vi o) (lcP H1 L fun i => vi ((o.take i).map (sw k))) (lcP0 nL rfl) (fun i H2 _ p => ((ha.keep s1).keep p.1).sq) ?_ ?_⟩
    · rintro i x H2 hx ⟨s2, e2⟩
      obtain ⟨v, hv, rfl⟩ := vi_get_inv hx
      refine ⟨rfl, ?_⟩
      refine ⟨_, rfl, d, rfl, .inl ⟨m, .inl (s2 _ _ d1)⟩, _, rfl, _, rfl, _, DGet.k (k := Sum.inl (v : Int)) (s2 _ _ d1), ?_⟩
      rw [hg]
      refine lcP_put nL s2 e2 ?_ (map_take_snoc _ hv)
      rw [vi_len, List.length_map, List.length_take]
      omega
    · rintro H2 ⟨s2, e2⟩
      rw [vi_len] at e2
      dsimp only at e2
      rw [List.take_length] at e2
      exact .inl ⟨L, _, rfl, .inl (.inl e2), fun H3 p s3 _ e3 => q H3 p ((s1.trans s2).trans s3) e3⟩
end
end PmW
/-! The class that counts. -/
namespace PmW
open PySem PySem.Spec PyProof.Rows L2 PmR PM
/-! ### few keys -/
def code : List Nat → Nat
  | [] => 0
  | x :: r => code r * 8 + (x + 1)
theorem code_lt : ∀ (o : List Nat), (∀ v ∈ o, v < 7) → code o < 8 ^ o.length
  | [], _ => by show 0 < 1; decide
  | x :: r, h => by
    have ih := code_lt r fun v hv => h v (List.mem_cons_of_mem _ hv)
    have hx := h x (List.mem_cons_self ..)
    show code r * 8 + (x + 1) < 8 ^ (r.length + 1)
    rw [Nat.pow_succ]
    omega
theorem code_inj : ∀ {a b : List Nat}, (∀ v ∈ a, v < 7) → (∀ v ∈ b, v < 7) → code a = code b → a = b
  | [], [], _, _, _ => rfl
  | [], y :: s, _, _, e => by have e' : 0 = code s * 8 + (y + 1) := e; omega
  | x :: r, [], _, _, e => by have e' : code r * 8 + (x + 1) = 0 := e; omega
  | x :: r, y :: s, ha, hb, e => by
    have hx := ha x (List.mem_cons_self ..)
    have hy := hb y (List.mem_cons_self ..)
    have e' : code r * 8 + (x + 1) = code s * 8 + (y + 1) := e
    have e1 : code r = code s := by omega
    have e2 : x = y := by omega
    rw [e2, code_inj (fun v hv => ha v (List.mem_cons_of_mem _ hv)) (fun v hv => hb v (List.mem_cons_of_mem _ hv)) e1]
theorem keys_few {L : List (List Nat)} (nd : L.Nodup) (h : ∀ o ∈ L, o.length ≤ 7 ∧ ∀ v ∈ o, v < 7) : L.length ≤ 2097152 := by
  have e : (L.map code).length = L.length := List.length_map _
  rw [← e]
  refine PM.len_le 2097152 (L.map code) ?_ ?_
  · refine List.pairwise_map.mpr (List.Pairwise.imp_of_mem (fun {a b} ha hb hne hc => hne (code_inj (h a ha).2 (h b hb).2 hc)) nd)
  · intro x hx
    obtain ⟨o, ho, rfl⟩ := List.mem_map.mp hx
    have h1 := code_lt o (h o ho).2
    have h2 : 8 ^ o.length ≤ 8 ^ 7 := Nat.pow_le_pow_right (by decide) (h o ho).1
    have h3 : (8 : Nat) ^ 7 = 2097152 := by decide
    omega
theorem few_line {n : Nat} (h : n ≤ 2097152) : n < sizeLine := Nat.lt_of_le_of_lt h (by rw [sizeLine_eq]; decide)
theorem sum_ci : ∀ l : List Nat, (ci l).sum = ((l.sum : Nat) : Int)
  | [] => rfl
  | x :: l => by
    show ((x : Int) :: ci l).sum = _
    rw [List.sum_cons, List.sum_cons, sum_ci l]
    omega
/-! ### a counter -/
/-- all but the object at d stay -/
def SameX (d : Addr) (H H' : Hp) : Prop := ∀ b x, b ≠ d → H b = some x → H' b = some x
theorem SameX.refl (d : Addr) (H : Hp) : SameX d H H := fun _ _ _ e => e
theorem SameX.of {d : Addr} {H H' : Hp} (s : Same H H') : SameX d H H' := fun b x _ e => s b x e
theorem SameX.trans {d : Addr} {H H' H2 : Hp} (s : SameX d H H') (t : SameX d H' H2) : SameX d H H2 := fun b x n e => t b x n (s b x n e)
theorem SameX.same {d : Addr} {H H1 H2 : Hp} (n : H d = none) (s : Same H H1) (t : SameX d H1 H2) : Same H H2 := fun b x e => t b x (ne_of_none e n) (s b x e)
theorem SameX.put {d D : Addr} {H1 H2 : Hp} {o : HO} (n : H1 D = none) (t : SameX d H1 H2) : SameX d H1 (upd H2 D o) := fun b x h e => by
  rw [upd_ne (ne_of_none e n)]
  exact t b x h e
/-- the counter of the class C at x, its dict at d -/
structure Cn (P : Program) (w : World) (C : Addr) (H : Hp) (x d : Addr) : Prop where
  ob : ∃ dx, H x = some (.ins C dx [("known", .ref d)])
  dc : ∃ L, H d = some (KnO P w d L) ∧ KGood H L ∧ (L.map (·.1)).Nodup ∧ ∀ o ∈ L.map (·.1), o.length ≤ 7 ∧ ∀ v ∈ o, v < 7
section
variable {P : Program} {w : World} {K : PySem.W.Frag} {mg : Str → Option Value} {base : Heap}
theorem Cn.keep {C : Addr} {H H' : Hp} {x d : Addr} (c : Cn P w C H x d) (s : Same H H') : Cn P w C H' x d := by
  obtain ⟨⟨dx, h1⟩, L, h2, g, nd, sm⟩ := c
  exact ⟨⟨dx, s _ _ h1⟩, L, s _ _ h2, g.keep s, nd, sm⟩
theorem Cn.lst {C : Addr} {H : Hp} {x d D : Addr} {xs : List V} {u : HO} (c : Cn P w C H x d) (e : H D = some (.lst xs)) : Cn P w C (upd H D u) x d := by
  obtain ⟨⟨dx, h1⟩, L, h2, g, nd, sm⟩ := c
  refine ⟨⟨dx, ?_⟩, L, ?_, fun p hp => ?_, nd, sm⟩
  · rw [upd_ne (ne_of h1 e (fun z => by cases z))]
    exact h1
  · rw [upd_ne (ne_of h2 e (fun z => by cases z))]
    exact h2
  · obtain ⟨ob, e1, n⟩ := g p hp
    refine ⟨ob, ?_, n⟩
    rw [upd_ne (ne_of e1 e (fun z => by cases z))]
    exact e1
theorem Ft.keepX {d : Addr} {H H' : Hp} {a : Addr} {xs : List V} {φ : Heap → Prop} (h : Ft H a xs) (hd : H d = some (.ext φ)) (s : SameX d H H') : Ft H' a xs := by
  obtain ⟨ob, e, n⟩ := h
  exact ⟨ob, s _ _ (ne_of e hd (fun z => by cases z)) e, n⟩
/-- the class of counters -/
structure Ct (K : PySem.W.Frag) (mg : Str → Option Value) (C : Addr) : Prop where
  cl : Cls K C
  nK : NoAttr K C "known"
  mgC : mg "Counts" = some (.ref C)
/-! ### __init__ -/
def spCountsI (P : Program) (w : World) (C : Addr) : Sp := fun vs H Q _ => ∃ (p dx : Addr), vs = [.ref p] ∧ H p = some (.ins C dx []) ∧ ∀ (d : Addr) (H' : Hp), H d = none → Cn P w C H' p d → (∀ b o, H b = some o → b ≠ p → H' b = some o) → Q .non H'
theorem scCountsI : FnScope ["self"] ["self"] (defScope sCountsI) := ⟨rfl, rfl, rfl, by decide +kernel, rfl, by decide +kernel, by decide +kernel⟩
theorem ok_countsI {f C : Addr} {fd : FuncData} (F : Fun K "__init__" "Counts.__init__" sCountsI f fd) (T : Ct K mg C) : FnOk P w K mg base CX0 1 f fd ["self"] (spCountsI P w C) := by
  refine F.ok scCountsI (fun vs H Q E h => ?_) (fun cdv A outer s H vs Q E hr h => ?_)
  · obtain ⟨p, dx, rfl, _⟩ := h
    rfl
  · obtain ⟨p, dx, rfl, hp, k⟩ := h
    refine ⟨_, pss_one (ps_fld (pv 0) pe_knew rfl), ?_⟩
    intro d hd
    have npd : p ≠ d := ne_of_none hp hd
    refine ⟨_, rfl, p, C, dx, [], rfl, (by rw [upd_ne npd]; exact hp), T.cl, T.nK, (by show 0 < 1000; decide), ?_⟩
    refine k d _ hd ⟨⟨dx, upd_same⟩, [], by rw [upd_ne npd.symm]; exact upd_same, (fun p hp => absurd hp List.not_mem_nil), List.nodup_nil, (fun o ho => absurd ho List.not_mem_nil)⟩ fun b o e hb => ?_
    rw [upd_ne hb, upd_ne (ne_of_none e hd)]
    exact e
/-! ### many -/
def spMany (P : Program) (w : World) (C : Addr) (n : Nat) : Sp := fun vs H Q _ => ∃ (x d a : Addr) (o : List Nat), vs = [.ref x, .ref a] ∧ Cn P w C H x d ∧ Ot H a o ∧ Ord o ∧ o.length ≤ 7 ∧ inv o < n ∧
  ∀ H', SameX d H H' → Cn P w C H' x d → Q (.int (many o : Nat)) H'
theorem scMany : FnScope ["self", "order", "some", "place"] ["self", "order"] (defScope sMany) := ⟨rfl, rfl, rfl, by decide +kernel, rfl, by decide +kernel, by decide +kernel⟩
/-- a def of two orders' kind, called -/
structure Fi (P : Program) (w : World) (K : PySem.W.Frag) (mg : Str → Option Value) (base : Heap) (f : Addr) (fd : FuncData) : Prop where
  D : Dn K mg "firsts" sFirsts ["order"] f fd
  ok : FnOk P w K mg base CX0 1 f fd ["order"] spFirsts
structure Co (P : Program) (w : World) (K : PySem.W.Frag) (mg : Str → Option Value) (base : Heap) (f : Addr) (fd : FuncData) : Prop where
  D : Dn K mg "called_on" sCalledOn ["order", "place"] f fd
  ok : FnOk P w K mg base CX0 1 f fd ["order", "place"] spCalledOn
theorem ok_many {f C fF fC : Addr} {fd fdF fdC : FuncData} (F : Fun K "many" "Counts.many" sMany f fd) (T : Ct K mg C) (b : Binds K fd ["self", "order"] []) (mM : Meth K C "many" f) (B : Bl mg) (FI : Fi P w K mg base fF fdF) (CO : Co P w K mg base fC fdC) :
    ∀ n : Nat, FnOk P w K mg base CX0 (n + 2) f fd ["self", "order"] (spMany P w C n)
  | 0 => ⟨fun vs H Q E h => by obtain ⟨x, d, a, o, rfl, _⟩ := h; rfl, fun A outer s H args us vs Q E hr he hb hv h => by
      obtain ⟨x, d, a, o, _, _, _, _, _, z, _⟩ := h
      exact absurd z (Nat.not_lt_zero _)⟩
  | n + 1 => by
    have G := ok_many F T b mM B FI CO n
    refine F.ok scMany (fun vs H Q E h => ?_) (fun cdv A outer s H vs Q E hr h => ?_)
    · obtain ⟨x, d, a, o, rfl, _⟩ := h
      rfl
    · obtain ⟨x, d, a, o, rfl, c, ha, od, hl, hi, q⟩ := h
      have hu := hu_of hr
      refine ⟨_, pss_cons (ps_if (pt_cmp (pc_knotin hu (pv 1) (pe_fld (pv 0) rfl)))
        (pss_cons (ps_setLc (i := 2) (own := [("place", 3)]) (g := gName 3) (tt := tYes) rfl scMany.nd rfl rfl (sw_true rfl rfl rfl (by decide +kernel)) (pi_list (pe_call FI.ok (hr.mono (by omega)) (by rfl) FI.D.g FI.D.kp FI.D.b .nil pass0 (pa_cons (pv 1) pa_nil)))
          (blkOk_by (N := ["self", "order", "some", "place"]) (sc := defScope sMany) (by decide +kernel)) (fun _ _ _ _ _ => pg_name (i := 3) scMany.nd rfl (Or.inl rfl)) (fun _ _ _ _ _ => pts_nil)
          (fun _ _ _ _ _ => pe_meth (pv 0) T.cl mM G hr b .nil pass0 (pa_cons (pe_call CO.ok (hr.mono (by omega)) (by rfl) CO.D.g CO.D.kp CO.D.b .nil pass0 (pa_cons (pv 1) (pa_cons (pv 3) pa_nil))) pa_nil)))
        (pss_one (ps_kput hu (pe_fld (pv 0) rfl) (pv 1) (pe_ifExp (pt_truth (pv 2) (fun _ => rfl)) (pe_callB (cr_sum rfl) (by rfl) B.sum (by decide +kernel) (pa_cons (pv 2) pa_nil)) pe_int) rfl))) pss_nil)
        (pss_one (ps_ret (pe_kget hu (pe_fld (pv 0) rfl) (pv 1) (fun _ _ => rfl)))), ?_⟩
      obtain ⟨⟨dx, h1⟩, L, h2, g, nd, sm⟩ := c
      refine ⟨_, rfl, _, rfl, x, C, dx, _, _, rfl, h1, T.cl, T.nK, rfl, d, L, a, o, rfl, rfl, h2, g, ha, _, rfl, ?_⟩
      by_cases hm : o ∈ L.map (·.1)
      · rw [decide_eq_true hm]
        refine iteF ?_
        refine ⟨_, rfl, x, C, dx, _, _, rfl, h1, T.cl, T.nK, rfl, _, rfl, d, L, a, o, rfl, rfl, h2, g, ha, hm, ?_⟩
        exact q H (SameX.refl _ _) ⟨⟨dx, h1⟩, L, h2, g, nd, sm⟩
      · rw [decide_eq_false hm]
        refine iteT ?_
        refine ⟨_, rfl, a, o, rfl, od, by omega, ha, fun H1 p1 s1 n1 e1 => ⟨p1, rfl, ⟨_, e1.sq⟩, fun D nD => ?_⟩⟩
        have h1d : H1 d = some (KnO P w d L) := s1 _ _ h2
        have nDd : D ≠ d := fun z => by rw [z, h1d] at nD; cases nD
        have c1 : Cn P w C H1 x d := ⟨⟨dx, s1 _ _ h1⟩, L, h1d, g.keep s1, nd, sm⟩
        have ha1 := ha.keep s1
        have ne1 : p1 ≠ d := ne_of e1 h1d (fun z => by cases z)
        refine lc_list (xs := vi (firsts o)) (fun i H2 => SameX d H1 H2 ∧ Cn P w C H2 x d ∧ H2 D = some (.lst (vi (((firsts o).take i).map fun k => many (sv k o))))) ⟨SameX.put nD (SameX.refl _ _), c1.keep (same_upd nD), upd_same⟩ (fun i H2 _ p => .of (p.1 _ _ ne1 e1)) ?_ ?_
        · rintro i v H2 hv ⟨s2, c2, e2⟩
          obtain ⟨k, hk, rfl⟩ := vi_get_inv hv
          have mk := List.mem_of_getElem? hk
          have ha2 : Ot H2 a o := ha1.keepX h1d s2
          obtain ⟨od3, iv⟩ := firsts_down od mk
          obtain ⟨⟨dx2, h12⟩, _⟩ := id c2
          refine ⟨rfl, ?_⟩
          refine ⟨_, rfl, x, dx2, _, rfl, h12, rfl, ?_⟩
          refine ⟨_, rfl, _, rfl, a, k, o, rfl, by omega, ha2.wt, fun H3 p3 s3 e3 => ?_⟩
          refine ⟨x, d, p3, sv k o, rfl, c2.keep s3, e3, od3, by rw [sv_len]; exact hl, by omega, fun H4 s4 c4 => ?_⟩
          have s24 : SameX d H2 H4 := (SameX.of s3).trans s4
          have e4 : H4 D = some (.lst (vi (((firsts o).take i).map fun k => many (sv k o)))) := s24 _ _ nDd e2
          refine ⟨_, e4, small_line' ?_, SameX.put nD (s2.trans s24), c4.lst e4, ?_⟩
          · rw [vi_len, List.length_map, List.length_take]
            have := filter_len (fun k => decide (o.idxOf (k + 1) < o.idxOf k)) (o.length - 1)
            have e : (firsts o).length ≤ o.length - 1 := this
            omega
          · rw [map_take_snoc _ hk]
            exact upd_same
        · rintro H2 ⟨s2, c2, e2⟩
          rw [vi_len, List.take_length] at e2
          have ha2 : Ot H2 a o := ha1.keepX h1d s2
          obtain ⟨⟨dx2, h12⟩, L2, h22, g2, nd2, sm2⟩ := id c2
          have hz : L2.length < sizeLine := by
            have := keys_few nd2 sm2
            rw [List.length_map] at this
            exact few_line this
          have em : firsts o = [] → many o = 1 := many_one
          have es : firsts o ≠ [] → many o = ((firsts o).map fun k => many (sv k o)).sum := many_sum od
          have last : ∀ (H3 : Hp), H3 = upd H2 d (KnO P w d (knPut L2 o a)) → (SameX d H H3 ∧ Cn P w C H3 x d) ∧ H3 x = some (.ins C dx2 [("known", .ref d)]) ∧ H3 d = some (KnO P w d (knPut L2 o a)) ∧ KGood H3 (knPut L2 o a) ∧ Ot H3 a o := by
            rintro H3 rfl
            have gg : ∀ (b : Addr) (l : List Nat), Ot H2 b l → Ot (upd H2 d (KnO P w d (knPut L2 o a))) b l := fun b l hb => hb.keepX h22 fun c y ne e => by
              rw [upd_ne ne]
              exact e
            have h13 : (upd H2 d (KnO P w d (knPut L2 o a))) x = some (.ins C dx2 [("known", .ref d)]) := by
              rw [upd_ne (ne_of h12 h22 (fun z => by cases z))]
              exact h12
            have g3 : KGood (upd H2 d (KnO P w d (knPut L2 o a))) (knPut L2 o a) := fun p hp => by
              rcases mem_knPut hp with hp | rfl
              · exact gg _ _ (g2 p hp)
              · exact gg _ _ ha2
            refine ⟨⟨fun b y ne e => ?_, ⟨dx2, h13⟩, _, upd_same, g3, knPut_nd nd2, fun l hlm => ?_⟩, h13, upd_same, g3, gg _ _ ha2⟩
            · rw [upd_ne ne]
              exact ((SameX.of s1).trans s2) _ _ ne e
            · obtain ⟨p, hp, rfl⟩ := List.mem_map.mp hlm
              rcases mem_knPut hp with hp | rfl
              · exact sm2 _ (List.mem_map.mpr ⟨p, hp, rfl⟩)
              · exact ⟨hl, fun v hv => Nat.lt_of_lt_of_le (od.lt v hv) hl⟩
          obtain ⟨⟨s3, c3⟩, h13, h23, g3, ha3⟩ := last _ rfl
          by_cases hf : firsts o = []
          · refine ⟨_, rfl, false, .inl ⟨_, .of e2, (by rw [hf]; rfl)⟩, ?_⟩
            refine iteF ?_
            refine ⟨_, rfl, x, C, dx2, _, _, rfl, h12, T.cl, T.nK, rfl, _, rfl, d, L2, a, o, rfl, rfl, (by rw [em hf]; rfl), h22, g2, ha2, hz, ?_⟩
            refine ⟨_, rfl, x, C, dx2, _, _, rfl, h13, T.cl, T.nK, rfl, _, rfl, d, _, a, o, rfl, rfl, h23, g3, ha3, knPut_has, ?_⟩
            exact q _ s3 c3
          · refine ⟨_, rfl, true, .inl ⟨_, .of e2, ?_⟩, ?_⟩
            · cases hF : firsts o with
              | nil => exact absurd hF hf
              | cons k r => rfl
            · refine iteT ?_
              refine ⟨_, rfl, D, _, rfl, .of e2, ?_⟩
              refine ⟨_, rfl, x, C, dx2, _, _, rfl, h12, T.cl, T.nK, rfl, _, rfl, d, L2, a, o, rfl, rfl, (by rw [es hf, sum_ci]), h22, g2, ha2, hz, ?_⟩
              refine ⟨_, rfl, x, C, dx2, _, _, rfl, h13, T.cl, T.nK, rfl, _, rfl, d, _, a, o, rfl, rfl, h23, g3, ha3, knPut_has, ?_⟩
              exact q _ s3 c3
end
end PmW
/-! need_few, many_short, short_at. -/
namespace PmW
open PySem PySem.Spec PyProof.Rows L2 PmR PM
section
variable {P : Program} {w : World} {K : PySem.W.Frag} {mg : Str → Option Value} {base : Heap}
/-! ### need_few -/
def spNeedFew : Sp := fun vs H Q _ => ∃ (a : Addr) (o : List Nat), vs = [.ref a] ∧ Ord o ∧ 1 ≤ o.length ∧ o.length ≤ 7 ∧ Ot H a o ∧ ∀ H', Same H H' → Q (.ref a) H'
theorem scNeedFew : FnScope ["order", "some"] ["order"] (defScope sNeedFew) := ⟨rfl, rfl, rfl, by decide +kernel, rfl, by decide +kernel, by decide +kernel⟩
theorem ok_needFew {f fN : Addr} {fd fdN : FuncData} (D : Dn K mg "need_few" sNeedFew ["order"] f fd) (B : Bl mg) (N : No P w K mg base fN fdN) : FnOk P w K mg base CX0 4 f fd ["order"] spNeedFew := by
  obtain ⟨tF, gF⟩ := B.FEW
  refine D.F.ok scNeedFew (fun vs H Q E h => ?_) (fun cdv A outer s H vs Q E hr h => ?_)
  · obtain ⟨a, o, rfl, _⟩ := h
    rfl
  · obtain ⟨a, o, rfl, od, h1, h2, ha, q⟩ := h
    refine ⟨_, pss_cons (ps_set (i := 1) scNeedFew.nd rfl (.inl rfl) (pe_call N.ok hr (by rfl) N.D.g N.D.kp N.D.b .nil pass0 (pa_cons (pv 0) pa_nil)))
      (pss_cons (ps_if (pt_cmpR op_gt (pe_callB call_len_seq (by rfl) B.len PySem.boot_len (pa_cons (pv 1) pa_nil)) (pe_glob (v := .int 7) (by rfl) gF ⟨_, rfl⟩) (nomark _)) (pss_one ps_never) pss_nil)
      (pss_one (ps_ret (pv 1)))), ?_⟩
    refine ⟨_, rfl, a, o, rfl, od, h1, by omega, .inl ⟨ha.wt, fun H1 s1 => ?_⟩⟩
    refine ⟨_, rfl, a, vi o, rfl, .inr (ha.keep s1).sq, _, _, rfl, rfl, _, rfl, ?_⟩
    rw [vi_len, decide_eq_false (by omega)]
    refine iteF ⟨_, rfl, q H1 s1⟩
/-- need_few, called -/
structure Nf (P : Program) (w : World) (K : PySem.W.Frag) (mg : Str → Option Value) (base : Heap) (f : Addr) (fd : FuncData) : Prop where
  D : Dn K mg "need_few" sNeedFew ["order"] f fd
  ok : FnOk P w K mg base CX0 4 f fd ["order"] spNeedFew
/-- the class of counters, called -/
structure Cc (P : Program) (w : World) (K : PySem.W.Frag) (mg : Str → Option Value) (base : Heap) (C fI fM : Addr) (fdI fdM : FuncData) : Prop where
  T : Ct K mg C
  M : Mk K C fI
  bI : Binds K fdI ["self"] []
  GI : FnOk P w K mg base CX0 1 fI fdI ["self"] (spCountsI P w C)
  mM : Meth K C "many" fM
  bM : Binds K fdM ["self", "order"] []
  GM : FnOk P w K mg base CX0 52 fM fdM ["self", "order"] (spMany P w C 50)
theorem inv_50 {o : List Nat} (h : o.length ≤ 7) : inv o < 50 := by
  have h1 := inv_le o
  have h2 : o.length * o.length ≤ 7 * 7 := Nat.mul_le_mul h h
  omega
/-- what a new counter leaves -/
theorem made_counter {C : Addr} {H H1 : Hp} {x dx d : Addr} (nx : H x = none) (ndx : H dx = none) (fd0 : upd (upd H dx (.own x)) x (.ins C dx []) d = none) (kp : ∀ b o, upd (upd H dx (.own x)) x (.ins C dx []) b = some o → b ≠ x → H1 b = some o) : Same H H1 ∧ H d = none := by
  have s0 : Same H (upd (upd H dx (.own x)) x (.ins C dx [])) := fun b o e => by
    rw [upd_ne (ne_of_none e nx), upd_ne (ne_of_none e ndx)]
    exact e
  exact ⟨fun b o e => kp b o (s0 b o e) (ne_of_none e nx), s0.free fd0⟩
/-! ### many_short -/
def spManyShort : Sp := fun vs H Q _ => ∃ (a : Addr) (o : List Nat), vs = [.ref a] ∧ Ord o ∧ 1 ≤ o.length ∧ o.length ≤ 7 ∧ Ot H a o ∧ ∀ H', Same H H' → Q (.int (many o : Nat)) H'
theorem scManyShort : FnScope ["order"] ["order"] (defScope sManyShort) := ⟨rfl, rfl, rfl, by decide +kernel, rfl, by decide +kernel, by decide +kernel⟩
theorem ok_manyShort {f fN C fI fM : Addr} {fd fdN fdI fdM : FuncData} (D : Dn K mg "many_short" sManyShort ["order"] f fd) (B : Bl mg) (N : Nf P w K mg base fN fdN) (Y : Cc P w K mg base C fI fM fdI fdM) : FnOk P w K mg base CX0 53 f fd ["order"] spManyShort := by
  refine D.F.ok scManyShort (fun vs H Q E h => ?_) (fun cdv A outer s H vs Q E hr h => ?_)
  · obtain ⟨a, o, rfl, _⟩ := h
    rfl
  · obtain ⟨a, o, rfl, od, h1, h2, ha, q⟩ := h
    refine ⟨_, pss_one (ps_ret (pe_meth (pe_make0 Y.M Y.GI (hr.mono (by decide)) (by rfl) Y.T.mgC Y.bI .nil pass0) Y.T.cl Y.mM Y.GM hr Y.bM .nil pass0
      (pa_cons (pe_call N.ok (hr.mono (by decide)) (by rfl) N.D.g N.D.kp N.D.b .nil pass0 (pa_cons (pv 0) pa_nil)) pa_nil) (ht := mcall_of (abase_call (by decide +kernel)) fun _ => rfl))), ?_⟩
    intro x dx nx ndx nex
    refine ⟨x, dx, rfl, upd_same, fun d H1 fd0 c1 kp => ⟨rfl, ?_⟩⟩
    obtain ⟨s1, nd⟩ := made_counter nx ndx fd0 kp
    obtain ⟨⟨dx1, h11⟩, _⟩ := id c1
    refine ⟨x, dx1, _, rfl, h11, rfl, ?_⟩
    refine ⟨_, rfl, a, o, rfl, od, h1, h2, ha.keep s1, fun H2 s2 => ?_⟩
    refine ⟨x, d, a, o, rfl, c1.keep s2, (ha.keep s1).keep s2, od, h2, inv_50 h2, fun H3 s3 c3 => ?_⟩
    exact q H3 (SameX.same nd (s1.trans s2) s3)
end
end PmW
/-! short_at. -/
namespace PmW
open PySem PySem.Spec PyProof.Rows L2 PmR PM
section
variable {P : Program} {w : World} {K : PySem.W.Frag} {mg : Str → Option Value} {base : Heap}
theorem split_at_ {l : List Nat} {i k : Nat} (h : l[i]? = some k) : l = l.take i ++ k :: l.drop (i + 1) := by
  obtain ⟨hi, e⟩ := List.getElem?_eq_some_iff.mp h
  have e2 := List.drop_eq_getElem_cons hi
  rw [e] at e2
  rw [← e2, List.take_append_drop]
theorem take_below {o : List Nat} {i k : Nat} (h : (firsts o)[i]? = some k) : (firsts o).take i = below k (firsts o) := by
  have up := firsts_up o
  have e := split_at_ h
  rw [e] at up
  have b := below_split up
  rw [← e] at b
  exact b.symm
def spShortAt : Sp := fun vs H Q _ => ∃ (a : Addr) (o : List Nat) (n : Nat), vs = [.ref a, .int (n : Int)] ∧ Ord o ∧ 1 ≤ o.length ∧ o.length ≤ 7 ∧ Ot H a o ∧ n < many o ∧ ∀ H' p u, Same H H' → Wt H' p u → LP o u → sNum o u = n → Q (.ref p) H'
theorem scShortAt : FnScope ["order", "number", "here", "counts", "found", "left", "place", "many"] ["order", "number"] (defScope sShortAt) := ⟨rfl, rfl, rfl, by decide +kernel, rfl, by decide +kernel, by decide +kernel⟩
theorem ok_shortAt {f fN C fI fM fW fF fC : Addr} {fd fdN fdI fdM fdW fdF fdC : FuncData} (D : Dn K mg "short_at" sShortAt ["order", "number"] f fd) (B : Bl mg) (N : Nf P w K mg base fN fdN) (Y : Cc P w K mg base C fI fM fdI fdM)
    (W : Wh P w K mg base fW fdW) (FI : Fi P w K mg base fF fdF) (CO : Co P w K mg base fC fdC) : FnOk P w K mg base CX0 53 f fd ["order", "number"] spShortAt := by
  refine D.F.ok scShortAt (fun vs H Q E h => ?_) (fun cdv A outer s H vs Q E hr h => ?_)
  · obtain ⟨a, o, n, rfl, _⟩ := h
    rfl
  · obtain ⟨a, o, n, rfl, od, h1, h2, ha, hn, q⟩ := h
    refine ⟨_, pss_cons (ps_par3 (i := 2) (j := 3) (l := 4) rfl scShortAt.nd rfl rfl rfl (by decide) (by decide) (by decide) rfl rfl rfl
        (pa_cons (pe_call N.ok (hr.mono (by decide)) (by rfl) N.D.g N.D.kp N.D.b .nil pass0 (pa_cons (pv 0) pa_nil)) (pa_cons (pe_make0 Y.M Y.GI (hr.mono (by decide)) (by rfl) Y.T.mgC Y.bI .nil pass0) (pa_cons (pe_tup pa_nil) pa_nil))) (by rfl))
      (pss_cons (ps_if (pt_not (pt_val (pe_callN W.ok (hr.mono (by decide)) (by rfl) W.g W.F.kp W.F.kb pass0 (pa_cons (pv 1) pa_nil) (pk_cons pe_int (pk_cons (pe_op op_sub (pe_meth (pv 3) Y.T.cl Y.mM Y.GM hr Y.bM .nil pass0 (pa_cons (pv 2) pa_nil)) pe_int) pk_nil))))) (pss_one ps_never) pss_nil)
      (pss_cons (ps_set (i := 5) scShortAt.nd rfl (.inl rfl) (pv 1))
      (pss_cons (ps_while PassesOwn.never (pt_truth (pe_call FI.ok (hr.mono (by decide)) (by rfl) FI.D.g FI.D.kp FI.D.b .nil pass0 (pa_cons (pv 2) pa_nil)) (fun _ => rfl))
        (pss_cons (ps_for PassesOwn.never rfl (pi_list (pe_call FI.ok (hr.mono (by decide)) (by rfl) FI.D.g FI.D.kp FI.D.b .nil pass0 (pa_cons (pv 2) pa_nil))) (pg_name (i := 6) scShortAt.nd rfl (.inl rfl))
          (pss_cons (ps_set (i := 7) scShortAt.nd rfl (.inl rfl) (pe_meth (pv 3) Y.T.cl Y.mM Y.GM hr Y.bM .nil pass0 (pa_cons (pe_call CO.ok (hr.mono (by decide)) (by rfl) CO.D.g CO.D.kp CO.D.b .nil pass0 (pa_cons (pv 2) (pa_cons (pv 6) pa_nil))) pa_nil)))
          (pss_cons (ps_if (pt_cmpR op_lt (pv 5) (pv 7) (nomark _)) (pss_one ps_break) pss_nil)
          (pss_one (ps_aug (i := 5) scShortAt.nd rfl (.inl rfl) (pv 7) ip_sub)))))
        (pss_one (ps_par (i := 4) (j := 2) rfl scShortAt.nd rfl rfl (by decide) rfl rfl (pa_cons (pe_op op_catA (pv 4) (pe_tup (pa_cons (pv 6) pa_nil))) (pa_cons (pe_call CO.ok (hr.mono (by decide)) (by rfl) CO.D.g CO.D.kp CO.D.b .nil pass0 (pa_cons (pv 2) (pa_cons (pv 6) pa_nil))) pa_nil)) (by rfl)))))
      (pss_one (ps_ret (pv 4)))))), ?_⟩
    refine ⟨_, rfl, a, o, rfl, od, h1, h2, ha, fun H1 s1 => ?_⟩
    intro x dx nx ndx nex
    refine ⟨x, dx, rfl, upd_same, fun d H2 fd0 c2 kp => ⟨rfl, ?_⟩⟩
    obtain ⟨s2', nd'⟩ := made_counter nx ndx fd0 kp
    have nd : H d = none := s1.free nd'
    have s2 := s1.trans s2'
    refine ⟨by show 0 ≤ sizeLine; exact Nat.zero_le _, fun p3 n3 => ⟨_, _, _, rfl, ?_⟩⟩
    have c3 : Cn P w C (upd H2 p3 (.tup [])) x d := c2.keep (same_upd n3)
    have s3 : Same H (upd H2 p3 (.tup [])) := s2.trans (same_upd n3)
    have w3 : Wt (upd H2 p3 (.tup [])) p3 [] := .of upd_same
    revert c3 s3 w3
    generalize upd H2 p3 (.tup []) = H3
    intro c3 s3 w3
    obtain ⟨⟨dx3, h13⟩, _⟩ := id c3
    refine ⟨_, rfl, _, rfl, x, dx3, _, rfl, h13, rfl, _, rfl, x, d, a, o, rfl, c3, ha.keep s3, od, h2, inv_50 h2, fun H4 s4 c4 => ?_⟩
    have s04 : Same H H4 := SameX.same nd s3 s4
    have w4 : Wt H4 p3 [] := by
      obtain ⟨L, hd3, _⟩ := c3.dc
      have ne : p3 ≠ d := by
        rcases w3 with e | ⟨ob, e⟩
        · exact ne_of e hd3 (fun z => by cases z)
        · exact ne_of e hd3 (fun z => by cases z)
      rcases w3 with e | ⟨ob, e⟩
      · exact .inl (s4 _ _ ne e)
      · exact .inr ⟨ob, s4 _ _ ne e⟩
    refine ⟨_, _, rfl, rfl, rfl, rfl, _, _, _, rfl, _, rfl, ?_⟩
    rw [decide_eq_true (by omega), decide_eq_true (by omega)]
    refine iteF ⟨_, rfl, ?_⟩
    refine ⟨fun m σ H' => ∃ (hA fA : Addr) (here u : List Nat) (left : Nat) (y z : Option V), σ = [some (.ref a), some (.int (n : Int)), some (.ref hA), some (.ref x), some (.ref fA), some (.int (left : Int)), y, z] ∧ Same H H' ∧ Cn P w C H' x d ∧
      Ord here ∧ here.length = o.length ∧ Ot H' hA here ∧ Wt H' fA u ∧ left < many here ∧ m = inv here ∧ u.length + inv here = inv o ∧ ∀ v, LP here v → LP o (u ++ v) ∧ sNum o (u ++ v) + left = n + sNum here v,
      ⟨inv o, a, p3, o, [], n, _, _, rfl, s04, c4, od, rfl, ha.keep s04, w4, hn, rfl, by simp, fun v hv => ⟨hv, by show sNum o v + n = n + sNum o v; omega⟩⟩, ?_⟩
    rintro m σ H5 ⟨hA, fA, here, u, left, y, z, rfl, s5, c5, oh, lh, ah, wf, hleft, rfl, lu, claim⟩
    refine ⟨_, rfl, hA, here, rfl, oh, by omega, ah, fun H6 p6 s6 n6 e6 => ?_⟩
    by_cases hf : firsts here = []
    · refine ⟨false, .inl ⟨_, .of e6, by rw [hf]; rfl⟩, ?_⟩
      refine iteF ?_
      obtain ⟨l1, l2⟩ := claim [] (.nil hf)
      rw [many_one hf] at hleft
      rw [List.append_nil] at l1 l2
      have e0 : sNum here [] = 0 := rfl
      exact ⟨_, rfl, q H6 fA u (s5.trans s6) (wf.keep s6) l1 (by omega)⟩
    · refine ⟨true, .inl ⟨_, .of e6, ?_⟩, ?_⟩
      · cases hF : firsts here with
        | nil => exact absurd hF hf
        | cons k r => rfl
      · refine iteT ⟨fun σ' H' => ∃ m', m' < inv here ∧ _, fun _ _ h => h, ?_⟩
        refine ⟨_, rfl, hA, here, rfl, oh, by omega, ah.keep s6, fun H7 p7 s7 n7 e7 => ?_⟩
        have s57 := s6.trans s7
        have c7 := c5.keep s57
        obtain ⟨L7, h7d, _⟩ := c7.dc
        have ne7 : p7 ≠ d := ne_of e7 h7d (fun z => by cases z)
        refine ⟨p7, rfl, ⟨_, e7.sq⟩, for_list (xs := vi (firsts here)) (fun i σ H8 => ∃ (lft : Nat) (y z : Option V), σ = [some (.ref a), some (.int (n : Int)), some (.ref hA), some (.ref x), some (.ref fA), some (.int (lft : Int)), y, z] ∧ SameX d H7 H8 ∧ Cn P w C H8 x d ∧ lft + manyAt here ((firsts here).take i) = left)
          ⟨left, y, z, rfl, SameX.refl _ _, c7, rfl⟩ (fun i σ H8 _ ⟨_, _, _, _, s8, _⟩ => .of (s8 _ _ ne7 e7)) ?_ ?_⟩
        · rintro i v σ H8 hv ⟨lft, y, z, rfl, s8, c8, el⟩
          obtain ⟨k, hk, rfl⟩ := vi_get_inv hv
          have mk := List.mem_of_getElem? hk
          obtain ⟨od3, iv⟩ := firsts_down oh mk
          have s08 : Same H H8 := SameX.same nd (s5.trans s57) s8
          have ah8 : Ot H8 hA here := (ah.keep s57).keepX h7d s8
          obtain ⟨⟨dx8, h18⟩, _⟩ := id c8
          refine ⟨_, rfl, x, dx8, _, rfl, h18, rfl, ?_⟩
          refine ⟨_, rfl, _, rfl, hA, k, here, rfl, by omega, ah8.wt, fun H9 p9 s9 e9 => ?_⟩
          refine ⟨x, d, p9, sv k here, rfl, c8.keep s9, e9, od3, by rw [sv_len]; omega, inv_50 (by rw [sv_len]; omega), fun H10 s10 c10 => ?_⟩
          have s810 : SameX d H8 H10 := (SameX.of s9).trans s10
          obtain ⟨L8, h8d, _⟩ := c8.dc
          have ah10 : Ot H10 hA here := ah8.keepX h8d s810
          have s010 : Same H H10 := SameX.same nd s08 s810
          have wf10 : Wt H10 fA u := by
            obtain ⟨L5, h5d, _⟩ := c5.dc
            have s510 : SameX d H5 H10 := ((SameX.of s57).trans s8).trans s810
            rcases wf with e | ⟨ob, e⟩
            · exact .inl (s510 _ _ (ne_of e h5d (fun z => by cases z)) e)
            · exact .inr ⟨ob, s510 _ _ (ne_of e h5d (fun z => by cases z)) e⟩
          refine ⟨_, rfl, _, rfl, _, _, rfl, rfl, _, rfl, ?_⟩
          have tk := take_below hk
          by_cases hlt : lft < many (sv k here)
          · rw [decide_eq_true (by omega)]
            refine iteT ?_
            have lu1 : u.length ≤ 49 := by
              have := inv_50 h2
              omega
            refine ⟨_, rfl, _, rfl, (by show 1 ≤ sizeLine; exact small_line (by decide)), fun p11 n11 => ?_⟩
            have s11 : Same H10 (upd H10 p11 (.tup [.int (k : Int)])) := same_upd n11
            refine cat_any (wf10.keep s11).rd (.inl upd_same) (small_line (by rw [vi_len]; show _ + 1 ≤ _; omega)) fun H12 p12 s12 e12 => ?_
            have s1012 := s11.trans s12
            refine ⟨_, rfl, _, rfl, hA, k, here, rfl, by omega, (ah10.keep s1012).wt, fun H13 p13 s13 e13 => ?_⟩
            have s1013 := s1012.trans s13
            refine ⟨_, _, rfl, inv (sv k here), by omega, p13, p12, sv k here, u ++ [k], lft, _, _, rfl, s010.trans s1013, c10.keep s1013, od3, by rw [sv_len]; exact lh, e13, Wt.eq (Rd.keep e12 s13) ?_, hlt, rfl, ?_, fun v hv => ?_⟩
            · rw [vi_append]
              rfl
            · rw [List.length_append]
              show u.length + 1 + _ = _
              omega
            · obtain ⟨l1, l2⟩ := claim (k :: v) (.cons mk hv)
              have e0 : sNum here (k :: v) = manyAt here (below k (firsts here)) + sNum (sv k here) v := rfl
              rw [List.append_assoc]
              rw [tk] at el
              exact ⟨l1, by show sNum o (u ++ k :: v) + lft = _; omega⟩
          · rw [decide_eq_false (by omega)]
            refine iteF ⟨_, rfl, _, rfl, _, _, rfl, rfl, ?_⟩
            refine ⟨lft - many (sv k here), _, _, (by show [_, _, _, _, _, some (V.int ((lft : Int) - (many (sv k here) : Nat))), _, _] = _; rw [show ((lft : Int) - (many (sv k here) : Nat)) = ((lft - many (sv k here) : Nat) : Int) by omega]), s8.trans s810, c10, ?_⟩
            rw [take_snoc hk, manyAt_append, manyAt_cons, manyAt_nil]
            omega
        · rintro σ H8 ⟨lft, y, z, rfl, s8, c8, el⟩
          rw [vi_len, List.take_length, ← many_sum oh hf] at el
          omega
end
end PmW
/-! short_number. -/
namespace PmW
open PySem PySem.Spec PyProof.Rows L2 PmR PM
theorem drop_of_get {u : List Nat} {i k : Nat} (h : u[i]? = some k) : u.drop i = k :: u.drop (i + 1) := by
  obtain ⟨hi, e⟩ := List.getElem?_eq_some_iff.mp h
  rw [← e]
  exact List.drop_eq_getElem_cons hi
theorem Wt.keepX {d : Addr} {H H' : Hp} {a : Addr} {u : List Nat} {φ : Heap → Prop} (h : Wt H a u) (hd : H d = some (.ext φ)) (s : SameX d H H') : Wt H' a u := by
  rcases h with e | ⟨ob, e⟩
  · exact .inl (s _ _ (ne_of e hd (fun z => by cases z)) e)
  · exact .inr ⟨ob, s _ _ (ne_of e hd (fun z => by cases z)) e⟩
section
variable {P : Program} {w : World} {K : PySem.W.Frag} {mg : Str → Option Value} {base : Heap}
def spShortNumber : Sp := fun vs H Q _ => ∃ (a b : Addr) (o u : List Nat), vs = [.ref a, .ref b] ∧ Ord o ∧ 1 ≤ o.length ∧ o.length ≤ 7 ∧ Ot H a o ∧ Wt H b u ∧ LP o u ∧ ∀ H', Same H H' → Q (.int (sNum o u : Nat)) H'
theorem scShortNumber : FnScope ["order", "word", "here", "counts", "found", "place", "other"] ["order", "word"] (defScope sShortNumber) := ⟨rfl, rfl, rfl, by decide +kernel, rfl, by decide +kernel, by decide +kernel⟩
theorem ok_shortNumber {f fN C fI fM fW fF fC fL : Addr} {fd fdN fdI fdM fdW fdF fdC fdL : FuncData} (D : Dn K mg "short_number" sShortNumber ["order", "word"] f fd) (B : Bl mg) (N : Nf P w K mg base fN fdN) (Y : Cc P w K mg base C fI fM fdI fdM)
    (W : Wh P w K mg base fW fdW) (FI : Fi P w K mg base fF fdF) (CO : Co P w K mg base fC fdC) (L : Li P w K mg base fL fdL) : FnOk P w K mg base CX0 53 f fd ["order", "word"] spShortNumber := by
  obtain ⟨ds, rds, bds⟩ := W.F.b1
  refine D.F.ok scShortNumber (fun vs H Q E h => ?_) (fun cdv A outer s H vs Q E hr h => ?_)
  · obtain ⟨a, b, o, u, rfl, _⟩ := h
    rfl
  · obtain ⟨a, b, o, u, rfl, od, h1, h2, ha, hb, lp, q⟩ := h
    refine ⟨_, pss_cons (ps_asg (pe_tup (pa_cons (pe_call N.ok (hr.mono (by decide)) (by rfl) N.D.g N.D.kp N.D.b .nil pass0 (pa_cons (pv 0) pa_nil)) (pa_cons (pe_make0 Y.M Y.GI (hr.mono (by decide)) (by rfl) Y.T.mgC Y.bI .nil pass0) (pa_cons pe_int pa_nil))))
        (pg_tup rfl (pgs_cons (pg_name (i := 2) scShortNumber.nd rfl (.inr rfl)) (pgs_cons (pg_name (i := 3) scShortNumber.nd rfl (.inr rfl)) (pgs_cons (pg_name (i := 4) scShortNumber.nd rfl (.inl rfl)) pgs_nil)))))
      (pss_cons (ps_if (pt_not (pt_val (pe_call L.ok (hr.mono (by decide)) (by rfl) L.D.g L.D.kp L.D.b .nil pass0 (pa_cons (pv 1) pa_nil)))) (pss_one ps_never) pss_nil)
      (pss_cons (ps_for PassesOwn.never rfl (pi_tup (pv 1)) (pg_name (i := 5) scShortNumber.nd rfl (.inr rfl))
        (pss_cons (ps_if (PW.pt (pw_or (pt_not (pt_val (pe_call W.ok (hr.mono (by decide)) (by rfl) W.g W.F.kp bds rds pass0 (pa_cons (pv 5) pa_nil))))
            (pw_or1 (pt_cmpR op_notIn_seq (pv 5) (pe_call FI.ok (hr.mono (by decide)) (by rfl) FI.D.g FI.D.kp FI.D.b .nil pass0 (pa_cons (pv 2) pa_nil)) (by with_unfolding_all rfl))))) (pss_one ps_never) pss_nil)
        (pss_cons (ps_aug (i := 4) scShortNumber.nd rfl (.inl rfl) (pe_callB (cr_sum rfl) (by rfl) B.sum (by decide +kernel) (pa_cons
          (pe_lc (own := [("other", 6)]) (g := gName 6) rfl scShortNumber.nd (pi_list (pe_call FI.ok (hr.mono (by decide)) (by rfl) FI.D.g FI.D.kp FI.D.b .nil pass0 (pa_cons (pv 2) pa_nil)))
            (blkOk_by (N := ["order", "word", "here", "counts", "found", "place", "other"]) (sc := defScope sShortNumber) (by decide +kernel)) (fun _ _ _ _ _ => pg_name (i := 6) scShortNumber.nd rfl (Or.inl rfl))
            (fun _ _ _ _ _ => pts_one (pt_cmpR op_lt (pv 6) (pv 5) (nomark _)))
            (fun _ _ _ _ _ => pe_meth (pv 3) Y.T.cl Y.mM Y.GM hr Y.bM .nil pass0 (pa_cons (pe_call CO.ok (hr.mono (by decide)) (by rfl) CO.D.g CO.D.kp CO.D.b .nil pass0 (pa_cons (pv 2) (pa_cons (pv 6) pa_nil))) pa_nil))) pa_nil)) ip_add)
        (pss_one (ps_set (i := 2) scShortNumber.nd rfl (.inr rfl) (pe_call CO.ok (hr.mono (by decide)) (by rfl) CO.D.g CO.D.kp CO.D.b .nil pass0 (pa_cons (pv 2) (pa_cons (pv 5) pa_nil))))))))
      (pss_cons (ps_if (pt_truth (pe_call FI.ok (hr.mono (by decide)) (by rfl) FI.D.g FI.D.kp FI.D.b .nil pass0 (pa_cons (pv 2) pa_nil)) (fun _ => rfl)) (pss_one ps_never) pss_nil)
      (pss_one (ps_ret (pv 4)))))), ?_⟩
    refine ⟨_, rfl, a, o, rfl, od, h1, h2, ha, fun H1 s1 => ?_⟩
    intro x dx nx ndx nex
    refine ⟨x, dx, rfl, upd_same, fun d H2 fd0 c2 kp => ⟨rfl, ?_⟩⟩
    obtain ⟨s2', nd'⟩ := made_counter nx ndx fd0 kp
    have nd : H d = none := s1.free nd'
    have s2 := s1.trans s2'
    refine ⟨(by show 3 ≤ sizeLine; exact small_line (by decide)), fun p3 n3 => ⟨p3, _, rfl, .inl (.inl upd_same), rfl, _, _, rfl, _, _, rfl, _, _, rfl, rfl, ?_⟩⟩
    have c3 : Cn P w C (upd H2 p3 (.tup [.ref a, .ref x, .int 0])) x d := c2.keep (same_upd n3)
    have s3 : Same H (upd H2 p3 (.tup [.ref a, .ref x, .int 0])) := s2.trans (same_upd n3)
    revert c3 s3
    generalize upd H2 p3 (.tup [.ref a, .ref x, .int 0]) = H3
    intro c3 s3
    refine ⟨_, rfl, b, rfl, .inl ⟨_, (hb.keep s3).rd⟩, fun H4 s4 => ⟨true, rfl, iteF ?_⟩⟩
    have s04 := s3.trans s4
    have c4 := c3.keep s4
    refine ⟨_, rfl, b, rfl, ⟨_, (hb.keep s04).sq⟩, for_tup (xs := vi u) (fun i σ H5 => ∃ (hA : Addr) (here : List Nat) (fnd : Nat) (y z : Option V), σ = [some (.ref a), some (.ref b), some (.ref hA), some (.ref x), some (.int (fnd : Int)), y, z] ∧ Same H H5 ∧ Cn P w C H5 x d ∧
      Ord here ∧ here.length = o.length ∧ Ot H5 hA here ∧ LP here (u.drop i) ∧ fnd + sNum here (u.drop i) = sNum o u)
      ⟨a, o, 0, _, _, rfl, s04, c4, od, rfl, ha.keep s04, lp, (by rw [List.drop_zero]; omega)⟩ (fun i σ H5 _ ⟨_, _, _, _, _, _, s5, _⟩ => (hb.keep s5).sq) ?_ ?_⟩
    · rintro i v σ H5 hv ⟨hA, here, fnd, y, z, rfl, s5, c5, oh, lh, ah, lpd, el⟩
      obtain ⟨k, hk, rfl⟩ := vi_get_inv hv
      rw [drop_of_get hk] at lpd el
      obtain ⟨mk, lpr⟩ : k ∈ firsts here ∧ LP (sv k here) (u.drop (i + 1)) := by
        cases lpd with
        | cons a b => exact ⟨a, b⟩
      obtain ⟨od3, iv⟩ := firsts_down oh mk
      have hk60 : k < 60 := by
        have := (mem_firsts.mp mk).1
        omega
      refine ⟨_, rfl, _, _, _, rfl, ?_⟩
      rw [decide_eq_true (by omega), decide_eq_true (by omega)]
      refine ⟨_, rfl, iteF ?_⟩
      refine ⟨_, rfl, _, rfl, hA, here, rfl, oh, by omega, ah, fun H6 p6 s6 n6 e6 => ?_⟩
      refine ⟨p6, _, rfl, .inl (.of e6), rfl, flat_vi _, _, rfl, ?_⟩
      rw [inV_vi, decide_eq_true mk]
      refine iteF ⟨_, rfl, ?_⟩
      refine ⟨_, rfl, hA, here, rfl, oh, by omega, ah.keep s6, fun H7 p7 s7 n7 e7 => ?_⟩
      have s57 := s6.trans s7
      have c7 := c5.keep s57
      obtain ⟨L7, h7d, _⟩ := c7.dc
      have ne7 : p7 ≠ d := ne_of e7 h7d (fun z => by cases z)
      have ah7 := ah.keep s57
      have s07 := s5.trans s57
      refine ⟨p7, rfl, ⟨_, e7.sq⟩, fun D nD => ?_⟩
      have nDd : D ≠ d := fun z => by rw [z, h7d] at nD; cases nD
      refine lc_list (xs := vi (firsts here)) (fun i H8 => SameX d H7 H8 ∧ Cn P w C H8 x d ∧ H8 D = some (.lst (vi ((((firsts here).take i).filter fun j => decide (j < k)).map fun j => many (sv j here)))))
        ⟨SameX.put nD (SameX.refl _ _), c7.keep (same_upd nD), upd_same⟩ (fun i H8 _ p => .of (p.1 _ _ ne7 e7)) ?_ ?_
      · rintro i v H8 hv ⟨s8, c8, e8⟩
        obtain ⟨j, hj, rfl⟩ := vi_get_inv hv
        have mj := List.mem_of_getElem? hj
        obtain ⟨odj, ivj⟩ := firsts_down oh mj
        obtain ⟨⟨dx8, h18⟩, _⟩ := id c8
        have ah8 : Ot H8 hA here := ah7.keepX h7d s8
        have hfil : ((firsts here).take (i + 1)).filter (fun j => decide (j < k)) = ((firsts here).take i).filter (fun j => decide (j < k)) ++ (if j < k then [j] else []) := by
          rw [take_snoc hj, List.filter_append, List.filter_cons, List.filter_nil]
          by_cases c : j < k
          · rw [if_pos (decide_eq_true c), if_pos c]
          · rw [if_neg (by rw [decide_eq_false c]; decide), if_neg c]
        refine ⟨rfl, ?_⟩
        refine ⟨_, rfl, _, rfl, _, _, rfl, rfl, _, rfl, ?_⟩
        by_cases c : j < k
        · rw [if_pos c] at hfil
          rw [decide_eq_true (by omega)]
          refine iteT ?_
          refine ⟨_, rfl, x, dx8, _, rfl, h18, rfl, ?_⟩
          refine ⟨_, rfl, _, rfl, hA, j, here, rfl, by omega, ah8.wt, fun H9 p9 s9 e9 => ?_⟩
          refine ⟨x, d, p9, sv j here, rfl, c8.keep s9, e9, odj, by rw [sv_len]; omega, inv_50 (by rw [sv_len]; omega), fun H10 s10 c10 => ?_⟩
          have s810 : SameX d H8 H10 := (SameX.of s9).trans s10
          have e10 := s810 _ _ nDd e8
          refine ⟨_, e10, small_line' ?_, SameX.put nD (s8.trans s810), c10.lst e10, ?_⟩
          · rw [vi_len, List.length_map]
            have z1 := List.length_filter_le (fun j => decide (j < k)) ((firsts here).take i)
            rw [List.length_take] at z1
            have z2 := filter_len (fun k => decide (here.idxOf (k + 1) < here.idxOf k)) (here.length - 1)
            have z3 : (firsts here).length ≤ here.length - 1 := z2
            omega
          · rw [hfil, List.map_append, vi_append]
            exact upd_same
        · rw [if_neg c, List.append_nil] at hfil
          rw [decide_eq_false (by omega)]
          refine iteF ⟨s8, c8, ?_⟩
          rw [hfil]
          exact e8
      · rintro H8 ⟨s8, c8, e8⟩
        rw [vi_len, List.take_length] at e8
        have ah8 : Ot H8 hA here := ah7.keepX h7d s8
        have s08 : Same H H8 := SameX.same nd s07 s8
        refine ⟨D, _, rfl, .of e8, _, _, rfl, rfl, ?_⟩
        refine ⟨_, rfl, _, rfl, hA, k, here, rfl, by omega, ah8.wt, fun H9 p9 s9 e9 => ?_⟩
        refine ⟨p9, sv k here, fnd + manyAt here (below k (firsts here)), some (.int (k : Int)), z, ?_, s08.trans s9, c8.keep s9, od3, by rw [sv_len]; exact lh, e9, lpr, ?_⟩
        · show [_, _, _, _, some (V.int ((fnd : Int) + (ci _).sum)), some (V.int (k : Int)), z] = _
          rw [sum_ci]
          rfl
        · have e0 : sNum here (k :: u.drop (i + 1)) = manyAt here (below k (firsts here)) + sNum (sv k here) (u.drop (i + 1)) := rfl
          omega
    · rintro σ H5 ⟨hA, here, fnd, y, z, rfl, s5, c5, oh, lh, ah, lpd, el⟩
      rw [vi_len, List.drop_length] at lpd el
      have hf : firsts here = [] := by
        cases lpd with
        | nil e => exact e
      refine ⟨_, rfl, hA, here, rfl, oh, by omega, ah, fun H6 p6 s6 n6 e6 => ?_⟩
      refine ⟨false, .inl ⟨_, .of e6, by rw [hf]; rfl⟩, ?_⟩
      refine iteF ⟨_, rfl, ?_⟩
      have e0 : sNum here [] = 0 := rfl
      rw [show fnd = sNum o u by omega]
      exact q H6 (s5.trans s6)
end
end PmW
/-! who_pass, is_short. -/
namespace PmW
open PySem PySem.Spec PyProof.Rows L2 PmR PM
theorem nodup_len {α : Type} [DecidableEq α] : ∀ (a b : List α), a.Nodup → (∀ x ∈ a, x ∈ b) → a.length ≤ b.length
  | [], b, _, _ => Nat.zero_le _
  | x :: a, b, nd, h => by
    have hx := h x (List.mem_cons_self ..)
    obtain ⟨n1, n2⟩ := List.nodup_cons.mp nd
    have ih := nodup_len a (b.erase x) n2 fun y hy => by
      have ne : y ≠ x := fun z => n1 (z ▸ hy)
      exact (List.mem_erase_of_ne ne).mpr (h y (List.mem_cons_of_mem _ hy))
    rw [List.length_erase_of_mem hx] at ih
    have : 0 < b.length := List.length_pos_of_mem hx
    show a.length + 1 ≤ b.length
    omega
theorem sorted_two {x y : Int} {l : List Int} (h : x < y) (p : l.Perm [x, y]) (s : l.Pairwise (· ≤ ·)) : l = [x, y] := by
  have hl := p.length_eq
  match l, hl with
  | [a, b], _ =>
    have ha : a ∈ [x, y] := p.mem_iff.mp (List.mem_cons_self ..)
    have hb : b ∈ [x, y] := p.mem_iff.mp (List.mem_cons_of_mem _ (List.mem_cons_self ..))
    have hy : y ∈ [a, b] := p.mem_iff.mpr (List.mem_cons_of_mem _ (List.mem_cons_self ..))
    have hx : x ∈ [a, b] := p.mem_iff.mpr (List.mem_cons_self ..)
    have hab : a ≤ b := (List.pairwise_cons.mp s).1 b (List.mem_cons_self ..)
    simp only [List.mem_cons, List.not_mem_nil, or_false] at ha hb hx hy
    have e1 : a = x := by omega
    have e2 : b = y := by omega
    rw [e1, e2]
section
variable {P : Program} {w : World} {K : PySem.W.Frag} {mg : Str → Option Value} {base : Heap}
/-! ### who_pass -/
abbrev Prs : Type := List (Addr × (Nat × Nat))
def spWhoPass : Sp := fun vs H Q _ => ∃ (n : Nat) (a : Addr) (u : List Nat), vs = [.int (n : Int), .ref a] ∧ 1 ≤ n ∧ n ≤ 60 ∧ Wt H a u ∧ u.length ≤ 2000 ∧ (∀ k ∈ u, k + 1 < n) ∧
  ∀ H' p (T : Prs), Same H H' → H p = none → H' p = some (.lst (T.map fun t => V.ref t.1)) → (∀ t ∈ T, Wt H' t.1 [t.2.1, t.2.2]) → T.map (·.2) = met (List.range n) u → Q (.ref p) H'
theorem scWhoPass : FnScope ["places", "word", "order", "found", "place"] ["places", "word"] (defScope sWhoPass) := ⟨rfl, rfl, rfl, by decide +kernel, rfl, by decide +kernel, by decide +kernel⟩
theorem ok_whoPass {f fP fN fX : Addr} {fd fdP fdN fdX : FuncData} (D : Dn K mg "who_pass" sWhoPass ["places", "word"] f fd) (B : Bl mg) (PL : Pl P w K mg base fP fdP)
    (DN : Dn K mg "need_word" sNeedWord ["places", "word"] fN fdN) (N : FnOk P w K mg base CX0 3 fN fdN ["places", "word"] spNeedWord)
    (DX : Dn K mg "exchanged" sExchanged ["some", "place"] fX fdX) (X : FnOk P w K mg base CX0 1 fX fdX ["some", "place"] spExch) : FnOk P w K mg base CX0 4 f fd ["places", "word"] spWhoPass := by
  obtain ⟨ds, rds, bds⟩ := PL.F.b1
  refine D.F.ok scWhoPass (fun vs H Q E h => ?_) (fun cdv A outer s H vs Q E hr h => ?_)
  · obtain ⟨n, a, u, rfl, _⟩ := h
    rfl
  · obtain ⟨n, a, u, rfl, h1, h2, ha, hl, hk, q⟩ := h
    refine ⟨_, pss_cons (ps_par (i := 2) (j := 3) rfl scWhoPass.nd rfl rfl (by decide) rfl rfl (pa_cons (pe_tupRgF rfl (by rfl) B.tuple (prg_1 (by rfl) B.range (pe_call PL.ok (hr.mono (by decide)) (by rfl) PL.g PL.F.kp bds rds pass0 (pa_cons (pv 0) pa_nil)))) (pa_cons (pe_lst pa_nil) pa_nil)) (by rfl))
      (pss_cons (ps_for PassesOwn.never rfl (pi_tup (pe_call N hr (by rfl) DN.g DN.kp DN.b .nil pass0 (pa_cons (pv 0) (pa_cons (pv 1) pa_nil)))) (pg_name (i := 4) scWhoPass.nd rfl (.inl rfl))
        (pss_cons (ps_expr (pe_bm PySem.F.plainAttrs_list PySem.F.slot_list_append PySem.F.type_list_append mt_append (pv 3) (pa_cons (pe_tup (pa_cons (pe_ix (r := rIxT K) ix_tup (pv 2) (pv 4) (fun _ _ => rfl)) (pa_cons (pe_ix (r := rIxT K) ix_tup (pv 2) (pe_op op_add (pv 4) pe_int) (fun _ _ => rfl)) pa_nil))) pa_nil)))
        (pss_one (ps_set (i := 2) scWhoPass.nd rfl (.inl rfl) (pe_call X (hr.mono (by decide)) (by rfl) DX.g DX.kp DX.b .nil pass0 (pa_cons (pv 2) (pa_cons (pv 4) pa_nil)))))))
      (pss_one (ps_ret (pv 3)))), ?_⟩
    refine ⟨_, rfl, n, rfl, h1, h2, n, rfl, RgOk.of_le (by decide) (by omega) (by decide) (by omega), fun H1 p s1 e1 => ?_⟩
    rw [rg_vi] at e1
    refine ⟨by show 0 ≤ sizeLine; exact Nat.zero_le _, fun L nL => ⟨_, _, rfl, ?_⟩⟩
    have hL : H L = none := s1.free nL
    have s2 : Same H (upd H1 L (.lst [])) := s1.trans (same_upd nL)
    refine ⟨_, rfl, _, rfl, n, a, u, rfl, ha.keep s2, hl, hk, fun H3 s3 => ?_⟩
    have s03 := s2.trans s3
    refine ⟨a, rfl, ⟨_, (ha.keep s03).sq⟩, for_tup (xs := vi u) (fun i σ H4 => ∃ (z : Option V) (p : Addr) (T : Prs), σ = [some (.int (n : Int)), some (.ref a), some (.ref p), some (.ref L), z] ∧ Same H H4 ∧ Wt H4 p (run (List.range n) (u.take i)) ∧
      H4 L = some (.lst (T.map fun t => V.ref t.1)) ∧ (∀ t ∈ T, Wt H4 t.1 [t.2.1, t.2.2]) ∧ T.map (·.2) = met (List.range n) (u.take i)) ⟨_, p, [], rfl, s03, (e1.wt.keep (same_upd nL)).keep s3, s3 _ _ upd_same, (fun t ht => absurd ht List.not_mem_nil), rfl⟩ (fun i σ H3 _ ⟨_, _, _, _, s3, _⟩ => (ha.keep s3).sq) ?_ ?_⟩
    · rintro i x σ H4 hx ⟨z, p4, T, rfl, s4, e4, l4, t4, m4⟩
      obtain ⟨k, hk1, rfl⟩ := vi_get_inv hx
      have hkn := hk k (List.mem_of_getElem? hk1)
      have hlen : (run (List.range n) (u.take i)).length = n := by rw [run_len, List.length_range]
      have hi : i < u.length := (List.getElem?_eq_some_iff.mp hk1).1
      have hT : T.length = i := by
        have := congrArg List.length m4
        rw [List.length_map, met_len, List.length_take] at this
        omega
      generalize hr : run (List.range n) (u.take i) = r at *
      have g0 : r[k]? = some r[k] := List.getElem?_eq_getElem (by omega)
      have g1 : r[k + 1]? = some r[k + 1] := List.getElem?_eq_getElem (by omega)
      refine ⟨_, rfl, .inl ⟨rfl, _, .of l4⟩, ?_⟩
      refine ⟨_, rfl, _, rfl, p4, vi r, _, _, rfl, rfl, e4.sq, atI_nat (j := k) (vi_get g0), ?_⟩
      refine ⟨_, rfl, _, rfl, _, _, rfl, rfl, p4, vi r, _, _, rfl, rfl, e4.sq, atI_nat (j := k + 1) (vi_get g1), ?_⟩
      refine ⟨by show 2 ≤ sizeLine; exact small_line (by decide), fun p5 n5 => ?_⟩
      have s5 : Same H4 (upd H4 p5 (.tup [.int (r[k] : Int), .int (r[k + 1] : Int)])) := same_upd n5
      have w5 : Wt (upd H4 p5 (.tup [.int (r[k] : Int), .int (r[k + 1] : Int)])) p5 [r[k], r[k + 1]] := .of upd_same
      revert s5 w5
      generalize upd H4 p5 (.tup [.int (r[k] : Int), .int (r[k + 1] : Int)]) = H5
      intro s5 w5
      refine ⟨L, _, _, rfl, rfl, s5 _ _ l4, small_line' (by rw [List.length_map]; omega), ?_⟩
      have l5 := s5 _ _ l4
      have keepL : ∀ {b : Addr} {v : List Nat}, Wt H5 b v → Wt (upd H5 L (.lst (T.map (fun t => V.ref t.1) ++ [V.ref p5]))) b v := by
        intro b v hb
        rcases hb with e | ⟨ob, e⟩
        · exact .inl (by rw [upd_ne (ne_of e l5 (fun z => by cases z))]; exact e)
        · exact .inr ⟨ob, by rw [upd_ne (ne_of e l5 (fun z => by cases z))]; exact e⟩
      refine ⟨_, rfl, _, rfl, p4, k, r, rfl, keepL (e4.keep s5), by omega, by omega, fun H6 p6 s6 e6 => ?_⟩
      refine ⟨_, p6, T ++ [(p5, (r[k], r[k + 1]))], rfl, ?_, ?_, ?_, ?_, ?_⟩
      · exact fun b o e => s6 _ _ (same_put hL (s4.trans s5) b o e)
      · rw [take_snoc hk1, run_snoc, hr]
        exact e6
      · rw [List.map_append]
        exact s6 _ _ upd_same
      · intro t ht
        rcases List.mem_append.mp ht with ht | ht
        · exact (keepL ((t4 t ht).keep s5)).keep s6
        · rw [List.mem_singleton.mp ht]
          exact (keepL w5).keep s6
      · rw [List.map_append, m4, take_snoc hk1, met_snoc, hr, getD_of g0, getD_of g1]
        rfl
    · rintro σ H4 ⟨z, p4, T, rfl, s4, e4, l4, t4, m4⟩
      rw [vi_len, List.take_length] at m4
      exact ⟨_, rfl, q H4 L T s4 hL l4 t4 m4⟩
end
end PmW
/-! is_short, lesser_behind, told_form. -/
namespace PmW
open PySem PySem.Spec PyProof.Rows L2 PmR PM
theorem pe_tupleFb {X : Cx} {a : Expr} {te : TE} {p pos : Pos} (K : PySem.W.Frag) (hK : X.K = K) (hg : Gl X "tuple") (hm : X.mg "tuple" = none) (ha : PE X a te) (na : starEach [a] X.env = (false, eval a X.env) :: starEach [] X.env := by rfl) :
    PE X (.Call (.Name "tuple" p) [a] [] pos) (tThen te (kTupF K)) := by
  subst hK
  exact pe_tupleF hg hm ha na
section
variable {P : Program} {w : World} {K : PySem.W.Frag} {mg : Str → Option Value} {base : Heap}
def spIsShort : Sp := fun vs H Q _ => ∃ (n : Nat) (a : Addr) (u : List Nat), vs = [.int (n : Int), .ref a] ∧ 1 ≤ n ∧ n ≤ 60 ∧ Wt H a u ∧ u.length < 60 ∧ (∀ k ∈ u, k + 1 < n) ∧ UP (List.range n) u ∧ ∀ H', Same H H' → Q (.bl true) H'
theorem scIsShort : FnScope ["places", "word", "met", "pair"] ["places", "word"] (defScope sIsShort) := ⟨rfl, rfl, rfl, by decide +kernel, rfl, by decide +kernel, by decide +kernel⟩
/-- who_pass, called -/
structure Wp (P : Program) (w : World) (K : PySem.W.Frag) (mg : Str → Option Value) (base : Heap) (f : Addr) (fd : FuncData) : Prop where
  D : Dn K mg "who_pass" sWhoPass ["places", "word"] f fd
  ok : FnOk P w K mg base CX0 4 f fd ["places", "word"] spWhoPass
theorem ok_isShort {f fW : Addr} {fd fdW : FuncData} (D : Dn K mg "is_short" sIsShort ["places", "word"] f fd) (B : Bl mg) (WP : Wp P w K mg base fW fdW) : FnOk P w K mg base CX0 5 f fd ["places", "word"] spIsShort := by
  refine D.F.ok scIsShort (fun vs H Q E h => ?_) (fun cdv A outer s H vs Q E hr h => ?_)
  · obtain ⟨n, a, u, rfl, _⟩ := h
    rfl
  · obtain ⟨n, a, u, rfl, h1, h2, ha, hl, hk, up, q⟩ := h
    refine ⟨_, pss_cons (ps_setLc (i := 2) (own := [("pair", 3)]) (g := gName 3) (tt := tYes) rfl scIsShort.nd rfl rfl (sw_true rfl rfl rfl (by decide +kernel)) (pi_list (pe_call WP.ok hr (by rfl) WP.D.g WP.D.kp WP.D.b .nil pass0 (pa_cons (pv 0) (pa_cons (pv 1) pa_nil))))
        (blkOk_by (N := ["places", "word", "met", "pair"]) (sc := defScope sIsShort) (by decide +kernel)) (fun _ _ _ _ _ => pg_name (i := 3) scIsShort.nd rfl (Or.inl rfl)) (fun _ _ _ _ _ => pts_nil)
        (fun _ _ _ _ _ => pe_tupleFb K rfl (by rfl) B.tuple (pe_callB (r := rSortedTup K) cr_sortedTup (by rfl) B.sorted (by decide +kernel) (pa_cons (pv 3) pa_nil))))
      (pss_one (ps_ret (pe_cmpR op_eq (pe_callB call_lenSetT (by rfl) B.len PySem.boot_len (pa_cons (pe_callTy (cr_setOfT rfl hr.units) (by rfl) B.set (by decide +kernel) (pa_cons (pv 2) pa_nil)) pa_nil)) (pe_callB call_len_seq (by rfl) B.len PySem.boot_len (pa_cons (pv 2) pa_nil)) (nomark _)))), ?_⟩
    refine ⟨_, rfl, _, rfl, n, a, u, rfl, h1, h2, ha, by omega, hk, fun H1 p T0 s1 np l1 t1 m1 => ?_⟩
    have hmet := met_ok (range_ord n) up
    rw [← m1] at hmet
    have hT0 : T0.length = u.length := by
      have := congrArg List.length m1
      rw [List.length_map, met_len] at this
      exact this
    refine ⟨p, rfl, ⟨_, .of l1⟩, fun D nD => ?_⟩
    refine lc_list (xs := T0.map fun t => V.ref t.1) (fun i H4 => ∃ T : List (Addr × List Int), Same H1 H4 ∧ H4 D = some (.lst (T.map fun t => V.ref t.1)) ∧ (∀ t ∈ T, Ft H4 t.1 (t.2.map V.int)) ∧ T.map (·.2) = (T0.take i).map fun t => [(t.2.1 : Int), (t.2.2 : Int)])
      ⟨[], same_upd nD, upd_same, (fun t ht => absurd ht List.not_mem_nil), rfl⟩ (fun i H4 _ ⟨_, s4, _⟩ => .of (s4 _ _ l1)) ?_ ?_
    · rintro i x H4 hx ⟨T, s4, l4, t4, m4⟩
      rw [List.getElem?_map] at hx
      obtain ⟨t, ht, rfl⟩ : ∃ t, T0[i]? = some t ∧ x = V.ref t.1 := by
        cases e : T0[i]? with
        | none =>
          rw [e] at hx
          cases hx
        | some t =>
          rw [e] at hx
          exact ⟨t, rfl, (Option.some.inj hx).symm⟩
      have mt := List.mem_of_getElem? ht
      have hi : i < T0.length := (List.getElem?_eq_some_iff.mp ht).1
      have hlt := (hmet.1 t.2 (List.mem_map.mpr ⟨t, mt, rfl⟩)).1
      have hT : T.length = i := by
        have := congrArg List.length m4
        rw [List.length_map, List.length_map, List.length_take] at this
        omega
      refine ⟨rfl, ?_⟩
      refine ⟨_, rfl, t.1, [(t.2.1 : Int), (t.2.2 : Int)], rfl, ((t1 t mt).keep s4).sq, by show 2 < 64; decide, fun ns' p5 perm sor n5 => ?_⟩
      rw [sorted_two (by omega) perm sor]
      refine .inl ⟨p5, _, rfl, .of upd_same, fun H6 q6 s6 n6 e6 => ?_⟩
      have s46 : Same H4 H6 := (same_upd n5).trans s6
      have l6 := s46 _ _ l4
      have kf : ∀ {b : Addr} {xs : List V}, Ft H6 b xs → Ft (upd H6 D (.lst (T.map (fun t => V.ref t.1) ++ [V.ref q6]))) b xs := by
        intro b xs ⟨ob, e, nn⟩
        exact ⟨ob, by rw [upd_ne (ne_of e l6 (fun z => by cases z))]; exact e, nn⟩
      refine ⟨_, l6, small_line' (by rw [List.length_map]; omega), T ++ [(q6, [(t.2.1 : Int), (t.2.2 : Int)])], same_put nD (s4.trans s46), ?_, ?_, ?_⟩
      · rw [List.map_append]
        exact upd_same
      · intro t' ht'
        rcases List.mem_append.mp ht' with ht' | ht'
        · exact kf ((t4 t' ht').keep s46)
        · rw [List.mem_singleton.mp ht']
          exact kf e6
      · rw [List.map_append, m4, List.take_add_one, ht, List.map_append]
        rfl
    · rintro H4 ⟨T, s4, l4, t4, m4⟩
      rw [List.length_map, List.take_length] at m4
      have hT : T.length = T0.length := by
        have := congrArg List.length m4
        rw [List.length_map, List.length_map] at this
        exact this
      have ndT : (T.map (·.2)).Nodup := by
        rw [m4]
        have e : T0.map (fun t => [(t.2.1 : Int), (t.2.2 : Int)]) = (T0.map (·.2)).map fun p => [(p.1 : Int), (p.2 : Int)] := by rw [List.map_map]; rfl
        rw [e]
        refine List.pairwise_map.mpr (List.Pairwise.imp (fun {x y} hne hc => hne ?_) hmet.2)
        injection hc with c1 c2
        injection c2 with c2 _
        exact Prod.ext (by omega) (by omega)
      refine ⟨_, rfl, D, T, rfl, .of l4, fun t ht => (t4 t ht).sq, by omega, fun S L nS sub all => ?_⟩
      have s5 : Same H4 (upd H4 S (SetTO P w S L)) := same_upd nS
      refine ⟨S, L, rfl, upd_same, fun t ht => ((t4 t (sub t ht)).keep s5).sq, fun ndL => ?_⟩
      have hlen : L.length = T.length := by
        have e1 := nodup_len (L.map (·.2)) (T.map (·.2)) ndL fun x hx => by
          obtain ⟨t, ht, rfl⟩ := List.mem_map.mp hx
          exact List.mem_map.mpr ⟨t, sub t ht, rfl⟩
        have e2 := nodup_len (T.map (·.2)) (L.map (·.2)) ndT fun x hx => by
          obtain ⟨t, ht, rfl⟩ := List.mem_map.mp hx
          exact all t ht
        rw [List.length_map, List.length_map] at e1 e2
        omega
      refine ⟨_, rfl, D, _, rfl, .inl (.of (s5 _ _ l4)), rfl, ?_⟩
      rw [hlen, List.length_map, decide_eq_true rfl]
      exact q _ ((s1.trans s4).trans s5)
end
end PmW
/-! lesser_behind, told_form. -/
namespace PmW
open PySem PySem.Spec PyProof.Rows L2 PmR PM
section
variable {P : Program} {w : World} {K : PySem.W.Frag} {mg : Str → Option Value} {base : Heap}
def spLesser : Sp := fun vs H Q _ => ∃ (a : Addr) (o : List Nat) (r : Nat), vs = [.ref a, .int (r : Int)] ∧ o.length ≤ 60 ∧ Ot H a o ∧ r ∈ o ∧ ∀ H', Same H H' → Q (.int (lesser o r : Nat)) H'
theorem scLesser : FnScope ["order", "runner", "other"] ["order", "runner"] (defScope sLesser) := ⟨rfl, rfl, rfl, by decide +kernel, rfl, by decide +kernel, by decide +kernel⟩
theorem ok_lesser {f : Addr} {fd : FuncData} (D : Dn K mg "lesser_behind" sLesser ["order", "runner"] f fd) (B : Bl mg) : FnOk P w K mg base CX0 1 f fd ["order", "runner"] spLesser := by
  refine D.F.ok scLesser (fun vs H Q E h => ?_) (fun cdv A outer s H vs Q E hr h => ?_)
  · obtain ⟨a, o, r, rfl, _⟩ := h
    rfl
  · obtain ⟨a, o, r, rfl, h2, ha, hm, q⟩ := h
    refine ⟨_, pss_one (ps_ret (pe_callB call_len_seq (by rfl) B.len PySem.boot_len (pa_cons (pe_lc (own := [("other", 2)]) (g := gName 2) rfl scLesser.nd (pi_tup (pe_slice sl_tupA (pv 0) (po_some (pe_ix_ (pv 0) (pa_cons (pv 1) pa_nil))) po_none))
      (blkOk_by (N := ["order", "runner", "other"]) (sc := defScope sLesser) (by decide +kernel)) (fun _ _ _ _ _ => pg_name (i := 2) scLesser.nd rfl (Or.inl rfl)) (fun _ _ _ _ _ => pts_one (pt_cmpR op_lt (pv 2) (pv 1) (nomark _))) (fun _ _ _ _ _ => pv 2)) pa_nil))), ?_⟩
    refine ⟨_, rfl, _, rfl, a, o, rfl, ha, _, rfl, r, rfl, ha, hm, _, rfl, ?_⟩
    dsimp only [tNoPart]
    refine sl_any ha.rd fun H1 p1 s1 e1 => ?_
    rw [cut_tail, vi_drop] at e1
    have w1 : Wt H1 p1 (o.drop (o.idxOf r)) := e1
    refine ⟨p1, rfl, ⟨_, w1.sq⟩, fun D nD => ?_⟩
    have hdl : (o.drop (o.idxOf r)).length ≤ 60 := by
      rw [List.length_drop]
      omega
    unfold lesser at q
    revert w1 q hdl
    generalize o.drop (o.idxOf r) = l
    intro q w1 hdl
    refine lc_tup (xs := vi l) (lcP H1 D fun i => vi ((l.take i).filter fun x => decide (x < r))) (lcP0 nD rfl) (fun i H4 _ p => (w1.keep p.1).sq) ?_ ?_
    · rintro i x H4 hx ⟨s4, e4⟩
      obtain ⟨k, hk, rfl⟩ := vi_get_inv hx
      have hfil : (l.take (i + 1)).filter (fun x => decide (x < r)) = (l.take i).filter (fun x => decide (x < r)) ++ (if k < r then [k] else []) := by
        rw [take_snoc hk, List.filter_append, List.filter_cons, List.filter_nil]
        by_cases c : k < r
        · rw [if_pos (decide_eq_true c), if_pos c]
        · rw [if_neg (by rw [decide_eq_false c]; decide), if_neg c]
      refine ⟨rfl, ?_⟩
      refine ⟨_, rfl, _, rfl, _, _, rfl, rfl, _, rfl, ?_⟩
      by_cases c : k < r
      · rw [if_pos c] at hfil
        rw [decide_eq_true (by omega)]
        refine iteT ⟨_, rfl, lcP_put nD s4 e4 ?_ ?_⟩
        · rw [vi_len]
          have z1 := List.length_filter_le (fun x => decide (x < r)) (l.take i)
          rw [List.length_take] at z1
          omega
        · rw [hfil, vi_append]
          rfl
      · rw [if_neg c, List.append_nil] at hfil
        rw [decide_eq_false (by omega)]
        refine iteF (lcP_skip s4 e4 ?_)
        rw [hfil]
    · rintro H4 ⟨s4, e4⟩
      rw [vi_len] at e4
      dsimp only at e4
      rw [List.take_length] at e4
      refine ⟨D, _, rfl, .inl (.of e4), ?_⟩
      rw [vi_len]
      exact q H4 (s1.trans s4)
/-! ### told_form -/
def spTold : Sp := fun vs H Q _ => ∃ (a : Addr) (o : List Nat), vs = [.ref a] ∧ Ord o ∧ 1 ≤ o.length ∧ o.length ≤ 6 ∧ Ot H a o ∧ ∀ H' p, Same H H' → Wt H' p (told o) → Q (.ref p) H'
theorem scTold : FnScope ["order", "some", "found", "runner"] ["order"] (defScope sToldForm) := ⟨rfl, rfl, rfl, by decide +kernel, rfl, by decide +kernel, by decide +kernel⟩
theorem dn_vi {r l : Nat} (h1 : 1 ≤ r) (hl : l ≤ r) : dnV ((r : Int) - 1) ((r : Int) - 1 - (l : Int)) = vi ((List.range l).map fun i => r - 1 - i) := by
  unfold dnV vi ci
  rw [List.map_map, List.map_map]
  have e : ((r : Int) - 1 - ((r : Int) - 1 - (l : Int))).toNat = l := by omega
  rw [e]
  refine List.map_congr_left fun i hi => ?_
  have hi' := List.mem_range.mp hi
  show V.int ((r : Int) - 1 - (i : Int)) = V.int ((r - 1 - i : Nat) : Int)
  congr 1
  omega
/-- what is told by the first runners -/
def toldUp (o : List Nat) (i : Nat) : List Nat := ((List.range i).map fun i => toldOne o (i + 1)).flatten
theorem toldUp_succ (o : List Nat) (i : Nat) : toldUp o (i + 1) = toldUp o i ++ toldOne o (i + 1) := by
  unfold toldUp
  rw [List.range_succ, List.map_append, List.flatten_append]
  simp
theorem lesser_len (o : List Nat) (r : Nat) : lesser o r ≤ o.length := by
  unfold lesser
  have := List.length_filter_le (fun x => decide (x < r)) (o.drop (o.idxOf r))
  rw [List.length_drop] at this
  omega
theorem toldUp_len (o : List Nat) : ∀ i, (toldUp o i).length ≤ i * o.length
  | 0 => Nat.zero_le _
  | i + 1 => by
    rw [toldUp_succ, List.length_append]
    have h1 := toldUp_len o i
    have h2 := lesser_len o (i + 1)
    have h3 : (toldOne o (i + 1)).length = lesser o (i + 1) := by
      unfold toldOne
      rw [List.length_map, List.length_range]
    rw [Nat.succ_mul]
    omega
theorem ok_told {f fN fB : Addr} {fd fdN fdB : FuncData} (D : Dn K mg "told_form" sToldForm ["order"] f fd) (B : Bl mg) (N : No P w K mg base fN fdN) (DB : Dn K mg "lesser_behind" sLesser ["order", "runner"] fB fdB) (LB : FnOk P w K mg base CX0 1 fB fdB ["order", "runner"] spLesser) :
    FnOk P w K mg base CX0 4 f fd ["order"] spTold := by
  refine D.F.ok scTold (fun vs H Q E h => ?_) (fun cdv A outer s H vs Q E hr h => ?_)
  · obtain ⟨a, o, rfl, _⟩ := h
    rfl
  · obtain ⟨a, o, rfl, od, h1, h2, ha, q⟩ := h
    refine ⟨_, pss_cons (ps_par (i := 1) (j := 2) rfl scTold.nd rfl rfl (by decide) rfl rfl (pa_cons (pe_call N.ok hr (by rfl) N.D.g N.D.kp N.D.b .nil pass0 (pa_cons (pv 0) pa_nil)) (pa_cons (pe_tup pa_nil) pa_nil)) (by rfl))
      (pss_cons (ps_for PassesOwn.never rfl (pi_range2 (by rfl) B.range (pa_cons pe_int (pa_cons (pe_callB call_len_seq (by rfl) B.len PySem.boot_len (pa_cons (pv 1) pa_nil)) pa_nil))) (pg_name (i := 3) scTold.nd rfl (.inl rfl))
        (pss_one (ps_set (i := 2) scTold.nd rfl (.inl rfl) (pe_op op_catA (pv 2) (pe_tupDn rfl (by rfl) B.tuple (by rfl) B.range (pa_cons (pe_op op_sub (pv 3) pe_int) (pa_cons (pe_op op_sub (pe_op op_sub (pv 3) pe_int)
          (pe_call LB (hr.mono (by decide)) (by rfl) DB.g DB.kp DB.b .nil pass0 (pa_cons (pv 1) (pa_cons (pv 3) pa_nil)))) (pa_cons (pe_un un_neg pe_int) pa_nil))))))))
      (pss_one (ps_ret (pv 2)))), ?_⟩
    refine ⟨_, rfl, a, o, rfl, od, h1, by omega, .inl ⟨ha.wt, fun H1 s1 => ?_⟩⟩
    refine ⟨by show 0 ≤ sizeLine; exact Nat.zero_le _, fun p2 n2 => ⟨_, _, rfl, ?_⟩⟩
    have s2 : Same H (upd H1 p2 (.tup [])) := s1.trans (same_upd n2)
    have w2 : Wt (upd H1 p2 (.tup [])) p2 [] := .of upd_same
    revert s2 w2
    generalize upd H1 p2 (.tup []) = H2
    intro s2 w2
    refine ⟨_, rfl, a, vi o, rfl, .inr (ha.keep s2).sq, 1, (o.length : Int), (by rw [vi_len]), ⟨by omega, by omega, by omega, by omega⟩, ?_⟩
    rw [show ((o.length : Int) - 1).toNat = o.length - 1 by omega]
    refine for_range (lo := 1) (n := o.length - 1) (fun i σ H3 => ∃ (p : Addr) (z : Option V), σ = [some (.ref a), some (.ref a), some (.ref p), z] ∧ Same H H3 ∧ Wt H3 p (toldUp o i)) ⟨p2, _, rfl, s2, w2⟩ ?_ ?_
    · rintro i σ H3 hi ⟨p3, z, rfl, s3, w3⟩
      have ei : (1 + (i : Int)) = ((i + 1 : Nat) : Int) := by omega
      rw [ei]
      have hle := lesser_le od h2 (r := i + 1) (by omega) (by omega)
      refine ⟨_, rfl, _, rfl, _, _, rfl, rfl, _, rfl, _, _, rfl, rfl, ?_⟩
      refine ⟨_, rfl, _, rfl, a, o, i + 1, rfl, by omega, ha.keep s3, od.has (by omega), fun H4 s4 => ?_⟩
      refine ⟨_, _, rfl, rfl, _, rfl, _, _, rfl, ⟨by omega, by omega, by omega, by omega⟩, fun p5 n5 => ?_⟩
      have s5 : Same H4 (upd H4 p5 (.tup (dnV (((i + 1 : Nat) : Int) - 1) (((i + 1 : Nat) : Int) - 1 - (lesser o (i + 1) : Nat))))) := same_upd n5
      have hu := toldUp_len o i
      have hm : i * o.length ≤ 6 * 6 := Nat.mul_le_mul (by omega) h2
      rw [dn_vi (by omega) hle] at s5 ⊢
      refine cat_any ((w3.keep s4).keep s5).rd (.inl upd_same) (small_line (by rw [vi_len, vi_len, List.length_map, List.length_range]; omega)) fun H6 p6 s6 e6 => ?_
      refine ⟨p6, _, rfl, ((s3.trans s4).trans s5).trans s6, Wt.eq e6 ?_⟩
      rw [toldUp_succ, vi_append]
      rfl
    · rintro σ H3 ⟨p3, z, rfl, s3, w3⟩
      exact ⟨_, rfl, q H3 p3 s3 w3⟩
end
end PmW
/-! Equality of tuples and lists of whole numbers. -/
namespace PmW
open PySem PySem.Spec PyProof.Rows L2 PmR PM
def dI (ns : List Int) : List PyData := ns.map PyData.int
theorem dpAll_ints {K : PySem.W.Frag} {H : Hp} : ∀ ns : List Int, DpAll K H (ns.map V.int) (dI ns)
  | [] => .nil
  | n :: ns => .cons (.int n) (dpAll_ints ns)
theorem eqv_ints : ∀ ns ms : List Int, PyData.eqvAll (dI ns) (dI ms) = decide (ns = ms)
  | [], [] => by simp [dI, PyData.eqvAll]
  | [], _ :: _ => by simp [dI, PyData.eqvAll]
  | _ :: _, [] => by simp [dI, PyData.eqvAll]
  | n :: ns, m :: ms => by
    have ih := eqv_ints ns ms
    show (PyData.eqv (.int n) (.int m) && PyData.eqvAll (dI ns) (dI ms)) = _
    rw [ih]
    simp [PyData.eqv, Bool.beq_eq_decide_eq]
theorem lay_ints : ∀ ns : List Int, PyData.canLayAll0 (dI ns) = true
  | [] => by simp [dI, PyData.canLayAll0]
  | n :: ns => by
    have ih := lay_ints ns
    unfold dI at ih ⊢
    simp [PyData.canLayAll0, PyData.canLay0, ih]
theorem depth_ints : ∀ ns : List Int, PyData.depthAll (dI ns) ≤ 2
  | [] => by simp [dI, PyData.depthAll]
  | n :: ns => by
    have ih := depth_ints ns
    unfold dI at ih ⊢
    simp [PyData.depthAll, PyData.depth]
    omega
theorem shaped_tup (ns : List Int) : SeqAt.shaped (.tuple (dI ns)) = true := by
  have h := depth_ints ns
  have l := lay_ints ns
  unfold SeqAt.shaped
  simp [PyData.canLay0, PyData.depth, l]
  omega
theorem shaped_lst (ns : List Int) : SeqAt.shaped (.list (dI ns)) = true := by
  have h := depth_ints ns
  have l := lay_ints ns
  unfold SeqAt.shaped
  simp [PyData.canLay0, PyData.depth, l]
  omega
theorem eq_tups {K : PySem.W.Frag} {H : Hp} {a b : Addr} {ns ms : List Int} {Q : VK} (ha : SqT K H a (ns.map V.int)) (hb : SqT K H b (ms.map V.int)) (q : Q (.bl (decide (ns = ms))) H) : rEqD K (.ref a) (.ref b) H Q :=
  ⟨_, _, .tup ha (dpAll_ints ns), .tup hb (dpAll_ints ms), shaped_tup ns, shaped_tup ms, by show Q (.bl (PyData.eqvAll _ _)) H; rw [eqv_ints]; exact q⟩
theorem ne_tups {K : PySem.W.Frag} {H : Hp} {a b : Addr} {ns ms : List Int} {Q : VK} (ha : SqT K H a (ns.map V.int)) (hb : SqT K H b (ms.map V.int)) (q : Q (.bl (!decide (ns = ms))) H) : rNeD K (.ref a) (.ref b) H Q :=
  ⟨_, _, .tup ha (dpAll_ints ns), .tup hb (dpAll_ints ms), shaped_tup ns, shaped_tup ms, by show Q (.bl (!PyData.eqvAll _ _)) H; rw [eqv_ints]; exact q⟩
theorem ne_lsts {K : PySem.W.Frag} {H : Hp} {a b : Addr} {ns ms : List Int} {Q : VK} (ha : SqL K H a (ns.map V.int)) (hb : SqL K H b (ms.map V.int)) (q : Q (.bl (!decide (ns = ms))) H) : rNeD K (.ref a) (.ref b) H Q :=
  ⟨_, _, .lst ha (dpAll_ints ns), .lst hb (dpAll_ints ms), shaped_lst ns, shaped_lst ms, by show Q (.bl (!PyData.eqvAll _ _)) H; rw [eqv_ints]; exact q⟩
end PmW
/-! The pen. -/
namespace PmW
open PySem PySem.Spec PyProof.Rows L2 PmR PM
abbrev kC : Key := Sum.inr ("cells" : Str)
abbrev kS : Key := Sum.inr ("spot" : Str)
abbrev kM : Key := Sum.inr ("more" : Str)
theorem nCS : ¬ kC = kS := by decide +kernel
theorem nCM : ¬ kC = kM := by decide +kernel
theorem nSM : ¬ kS = kM := by decide +kernel
def penK (c : Addr) (s m : Int) : List (Key × V) := [(kC, .ref c), (kS, .int s), (kM, .int m)]
theorem pen_c (c : Addr) (s m : Int) : valV (penK c s m) kC = some (.ref c) := valV_pos rfl
theorem pen_s (c : Addr) (s m : Int) : valV (penK c s m) kS = some (.int s) := (valV_neg nCS).trans (valV_pos rfl)
theorem pen_m (c : Addr) (s m : Int) : valV (penK c s m) kM = some (.int m) := (valV_neg nCM).trans ((valV_neg nSM).trans (valV_pos rfl))
theorem pen_pS (c : Addr) (s m z : Int) : putK (penK c s m) kS (.int z) = penK c z m := by
  unfold putK
  rw [valV_any, pen_s, if_pos (show (some (V.int s)).isSome = true from rfl)]
  show [if kC = kS then (kC, V.int z) else (kC, V.ref c), if kS = kS then (kS, V.int z) else (kS, V.int s), if kM = kS then (kM, V.int z) else (kM, V.int m)] = _
  rw [if_neg nCS, if_pos rfl, if_neg (fun z => nSM z.symm)]
  rfl
theorem pen_pM (c : Addr) (s m z : Int) : putK (penK c s m) kM (.int z) = penK c s z := by
  unfold putK
  rw [valV_any, pen_m, if_pos (show (some (V.int m)).isSome = true from rfl)]
  show [if kC = kM then (kC, V.int z) else (kC, V.ref c), if kS = kM then (kS, V.int z) else (kS, V.int s), if kM = kM then (kM, V.int z) else (kM, V.int m)] = _
  rw [if_neg nCM, if_neg nSM, if_pos rfl]
  rfl
section
variable {H : Hp} {p c : Addr} {s m z : Int}
theorem dg_c (h : H p = some (.dK (penK c s m))) : DGet H p (.str "cells") (some (.ref c)) := by rw [← pen_c c s m]; exact DGet.k (k := kC) h
theorem dg_s (h : H p = some (.dK (penK c s m))) : DGet H p (.str "spot") (some (.int s)) := by rw [← pen_s c s m]; exact DGet.k (k := kS) h
theorem dg_m (h : H p = some (.dK (penK c s m))) : DGet H p (.str "more") (some (.int m)) := by rw [← pen_m c s m]; exact DGet.k (k := kM) h
theorem dp_s (h : H p = some (.dK (penK c s m))) : DPut H p (.str "spot") (.int z) (upd H p (.dK (penK c z m))) := by rw [← pen_pS c s m z]; exact DPut.k (k := kS) h (small_line' (by show 3 ≤ _; decide))
theorem dp_m (h : H p = some (.dK (penK c s m))) : DPut H p (.str "more") (.int z) (upd H p (.dK (penK c s z))) := by rw [← pen_pM c s m z]; exact DPut.k (k := kM) h (small_line' (by show 3 ≤ _; decide))
end
/-- the pen at p: s bounds what has been drawn -/
def Pen (H : Hp) (p c : Addr) (s : Nat) : Prop := ∃ (ns : List Int) (sp m : Int), H p = some (.dK (penK c sp m)) ∧ H c = some (.lst (ns.map V.int)) ∧ 0 ≤ sp ∧ sp ≤ (s : Int)
theorem Pen.keep {H H' : Hp} {p c : Addr} {s : Nat} (h : Pen H p c s) (k : Same H H') : Pen H' p c s := by
  obtain ⟨ns, sp, m, h1, h2, h3, h4⟩ := h
  exact ⟨ns, sp, m, k _ _ h1, k _ _ h2, h3, h4⟩
theorem Pen.more {H : Hp} {p c : Addr} {s t : Nat} (h : Pen H p c s) (k : s ≤ t) : Pen H p c t := by
  obtain ⟨ns, sp, m, h1, h2, h3, h4⟩ := h
  exact ⟨ns, sp, m, h1, h2, h3, by omega⟩
theorem Pen.put {H : Hp} {p c : Addr} {ns : List Int} {sp m sp' m' : Int} {t : Nat} (h1 : H p = some (.dK (penK c sp m))) (h2 : H c = some (.lst (ns.map V.int))) (h3 : 0 ≤ sp') (h4 : sp' ≤ (t : Int)) : Pen (upd H p (.dK (penK c sp' m'))) p c t :=
  ⟨ns, sp', m', upd_same, by rw [upd_ne (ne_of h2 h1 (fun z => by cases z))]; exact h2, h3, h4⟩
/-- another thing is written -/
theorem Pen.other {H : Hp} {p c b : Addr} {s : Nat} {o : HO} (h : Pen H p c s) (n1 : b ≠ p) (n2 : b ≠ c) : Pen (upd H b o) p c s := by
  obtain ⟨ns, sp, m, h1, h2, h3, h4⟩ := h
  exact ⟨ns, sp, m, by rw [upd_ne n1.symm]; exact h1, by rw [upd_ne n2.symm]; exact h2, h3, h4⟩
theorem Pen.free {H : Hp} {p c b : Addr} {s : Nat} (h : Pen H p c s) (n : H b = none) : b ≠ p ∧ b ≠ c := by
  obtain ⟨ns, sp, m, h1, h2, _⟩ := h
  exact ⟨(ne_of_none h1 n).symm, (ne_of_none h2 n).symm⟩
theorem SameX.put_ {d D : Addr} {H H1 : Hp} {o : HO} (n : H D = none) (s : SameX d H H1) : SameX d H (upd H1 D o) := fun b x h e => by
  rw [upd_ne (ne_of_none e n)]
  exact s b x h e
theorem SameX.upd {H H1 : Hp} {p : Addr} {o : HO} (s : SameX p H H1) : SameX p H (upd H1 p o) := fun b x n e => by
  rw [upd_ne n]
  exact s b x n e
section
variable {X : Cx}
/-- a rest, by its bounds -/
theorem op_modB : OpR X (binaryOp .Mod) (fun x y H Q => ∃ i j, x = .int i ∧ y = .int j ∧ 0 < j ∧ ∀ r : Int, 0 ≤ r → r < j → Q (.int r) H) := by
  intro pins s σ H x y v u Q I rx ry h
  obtain ⟨i, j, rfl, rfl, hj, q⟩ := h
  exact op_mod pins s σ H _ _ v u Q I rx ry ⟨i, j, rfl, rfl, hj, q _ (Int.emod_nonneg i (by omega)) (Int.emod_lt_of_pos i hj)⟩
/-- a sum, whatever it is -/
theorem op_addZ : OpR X (binaryOp .Add) (fun x y H Q => ∃ i j, x = .int i ∧ y = .int j ∧ ∀ r : Int, Q (.int r) H) := by
  intro pins s σ H x y v u Q I rx ry h
  obtain ⟨i, j, rfl, rfl, q⟩ := h
  exact op_add pins s σ H _ _ v u Q I rx ry ⟨i, j, rfl, rfl, q _⟩
end
section
variable {P : Program} {w : World} {K : PySem.W.Frag} {mg : Str → Option Value} {base : Heap}
/-! ### _law_pen -/
def spPen (K : PySem.W.Frag) : Sp := fun vs H Q _ => ∃ (a : Addr) (ns : List Int), vs = [.ref a] ∧ SqL K H a (ns.map V.int) ∧ ∀ H' p c, Same H H' → H p = none → H c = none → Pen H' p c 0 → Q (.ref p) H'
theorem scPen : FnScope ["_law_script"] ["_law_script"] (defScope sPen) := ⟨rfl, rfl, rfl, by decide +kernel, rfl, by decide +kernel, by decide +kernel⟩
theorem cut_map (ns : List Int) (lo hi : Option Int) : ∃ ms : List Int, cutV (ns.map V.int) lo hi = ms.map V.int := by
  unfold cutV
  rw [List.length_map, ← List.map_drop, ← List.map_take]
  exact ⟨_, rfl⟩
theorem ok_pen {f : Addr} {fd : FuncData} (D : Dn K mg "_law_pen" sPen ["_law_script"] f fd) (B : Bl mg) : FnOk P w K mg base CX0 1 f fd ["_law_script"] (spPen K) := by
  refine D.F.ok scPen (fun vs H Q E h => ?_) (fun cdv A outer s H vs Q E hr h => ?_)
  · obtain ⟨a, ns, rfl, _⟩ := h
    rfl
  · obtain ⟨a, ns, rfl, ha, q⟩ := h
    refine ⟨_, pss_one (ps_ret (pe_disp (pps_cons pe_str (pe_callTy call_list_of (by rfl) B.list boot_list (pa_cons (pe_slice sl_list (pv 0) po_none (po_some pe_int)) pa_nil)) (pps_cons pe_str pe_int (pps_cons pe_str pe_int pps_nil))) rfl rfl (by intro z; cases z) (by decide))), ?_⟩
    intro p np
    have s1 : Same H (upd H p (.dK [])) := same_upd np
    refine ⟨_, rfl, ?_⟩
    dsimp only [tNoPart]
    refine ⟨_, rfl, a, _, rfl, s1.seq ha, fun c1 n1 => ?_⟩
    obtain ⟨ms, em⟩ := cut_map ns none (some 63)
    rw [em]
    have s2 : Same (upd H p (.dK [])) (upd (upd H p (.dK [])) c1 (.lst (ms.map V.int))) := same_upd n1
    refine ⟨c1, _, rfl, .inl (.of upd_same), fun c n2 => ?_⟩
    have s3 := same_upd (o := .lst (ms.map V.int)) n2
    have hp3 := s3 _ _ (s2 _ _ (upd_same (H := H) (a := p) (o := .dK [])))
    refine ⟨hp3, penK c 0 0, rfl, (by show 3 ≤ 15; decide), ?_⟩
    have em : mergeK [] (penK c 0 0) = penK c 0 0 := by
      have e1 : putK [] kC (V.ref c) = [(kC, V.ref c)] := putK_new (kvs := []) _ rfl
      have e2 : putK [(kC, V.ref c)] kS (V.int 0) = [(kC, V.ref c), (kS, V.int 0)] := putK_new (kvs := [(kC, V.ref c)]) _ (valV_neg nCS)
      have e3 : putK [(kC, V.ref c), (kS, V.int 0)] kM (V.int 0) = [(kC, V.ref c), (kS, V.int 0), (kM, V.int 0)] := putK_new (kvs := [(kC, V.ref c), (kS, V.int 0)]) _ ((valV_neg nCM).trans (valV_neg nSM))
      show putK (putK (putK [] kC (V.ref c)) kS (V.int 0)) kM (V.int 0) = _
      rw [e1, e2, e3]
      rfl
    rw [em]
    refine q _ p c ?_ np ((s1.trans s2).free n2) ⟨ms, 0, 0, upd_same, ?_, by decide, by decide⟩
    · exact same_put np ((s1.trans s2).trans s3)
    · rw [upd_ne (ne_of upd_same hp3 (fun z => by cases z))]
      exact upd_same
/-! ### _law_draw -/
def spDraw : Sp := fun vs H Q _ => ∃ (p c : Addr) (n s : Nat), vs = [.ref p, .int (n : Int)] ∧ 1 ≤ n ∧ n < 2 ^ 200 ∧ Pen H p c s ∧ s ≤ 100000 ∧ ∀ H' (r : Nat), SameX p H H' → Pen H' p c (s + 1) → r < n → Q (.int (r : Int)) H'
theorem scDraw : FnScope ["_law_pen_here", "_law_many", "_law_digit", "_law_spot", "_law_cell", "_law_mix"] ["_law_pen_here", "_law_many"] (defScope sDraw) := ⟨rfl, rfl, rfl, by decide +kernel, rfl, by decide +kernel, by decide +kernel⟩
theorem mod_nat (i : Int) {n : Nat} (h : 1 ≤ n) : ∃ r : Nat, i % (n : Int) = (r : Int) ∧ r < n := by
  have h0 := Int.emod_nonneg i (show (n : Int) ≠ 0 by omega)
  have h1 := Int.emod_lt_of_pos i (show (0 : Int) < n by omega)
  exact ⟨(i % (n : Int)).toNat, by omega, by omega⟩
theorem ok_draw {f : Addr} {fd : FuncData} (D : Dn K mg "_law_draw" sDraw ["_law_pen_here", "_law_many"] f fd) (B : Bl mg) : FnOk P w K mg base CX0 1 f fd ["_law_pen_here", "_law_many"] spDraw := by
  refine D.F.ok scDraw (fun vs H Q E h => ?_) (fun cdv A outer s H vs Q E hr h => ?_)
  · obtain ⟨p, c, n, s, rfl, _⟩ := h
    rfl
  · obtain ⟨p, c, n, s0, rfl, h1, h2, pen, hs, q⟩ := h
    have hu := hu_of hr
    refine ⟨_, pss_cons (ps_if (pt_cmpR op_gt (pe_dget hu (pv 0) pe_str (fun _ _ => rfl)) pe_int (nomark _))
        (pss_cons (ps_set (i := 2) scDraw.nd rfl (.inl rfl) (pe_op op_modB (pe_dget hu (pv 0) pe_str (fun _ _ => rfl)) (pv 1)))
        (pss_cons (ps_dput hu (pv 0) pe_str (pe_op op_fdivW (pe_dget hu (pv 0) pe_str (fun _ _ => rfl)) (pv 1)) rfl)
        (pss_one (ps_ret (pv 2))))) pss_nil)
      (pss_cons (ps_set (i := 3) scDraw.nd rfl (.inl rfl) (pe_dget hu (pv 0) pe_str (fun _ _ => rfl)))
      (pss_cons (ps_dput hu (pv 0) pe_str (pe_op op_add (pv 3) pe_int) rfl)
      (pss_cons (ps_set (i := 4) scDraw.nd rfl (.inl rfl) (pe_ifExp (pt_cmpR (op_neD hr.units) (pe_dget hu (pv 0) pe_str (fun _ _ => rfl)) (pe_lst pa_nil) (nomark _))
          (pe_ix ix_list (pe_dget hu (pv 0) pe_str (fun _ _ => rfl)) (pe_op op_modB (pv 3) (pe_callB call_len_seq (by rfl) B.len PySem.boot_len (pa_cons (pe_dget hu (pv 0) pe_str (fun _ _ => rfl)) pa_nil))) (fun _ _ => rfl))
          (pe_op op_addZ (pe_op op_mul pe_int (pv 3)) pe_int)))
      (pss_cons (ps_if (PW.pt (pw_and (pt_cmpR op_lt (pv 3) (pe_callB call_len_seq (by rfl) B.len PySem.boot_len (pa_cons (pe_dget hu (pv 0) pe_str (fun _ _ => rfl)) pa_nil)) (nomark _))
            (pw_and1 (pt_cmpR op_ge (pe_callB call_abs (by rfl) B.abs (by decide +kernel) (pa_cons (pv 4) pa_nil)) (pe_op op_pow pe_int pe_int) (nomark _)))))
          (pss_cons (ps_dput hu (pv 0) pe_str (pe_op op_fdivW (pe_op op_sub (pe_callB call_abs (by rfl) B.abs (by decide +kernel) (pa_cons (pv 4) pa_nil)) (pe_op op_pow pe_int pe_int)) (pv 1)) rfl)
          (pss_one (ps_ret (pe_op op_modB (pe_op op_sub (pe_callB call_abs (by rfl) B.abs (by decide +kernel) (pa_cons (pv 4) pa_nil)) (pe_op op_pow pe_int pe_int)) (pv 1))))) pss_nil)
      (pss_cons (ps_set (i := 5) scDraw.nd rfl (.inl rfl) (pe_op op_modB (pe_op op_add (pe_op op_add (pe_op op_add (pe_op op_mul (pe_op op_modB (pv 4) pe_int) pe_int) (pe_op op_mul (pe_op op_mul pe_int (pv 3)) (pv 3))) (pe_op op_mul pe_int (pv 3))) pe_int) pe_int))
      (pss_cons (ps_set (i := 5) scDraw.nd rfl (.inl rfl) (pe_op op_modB (pe_op op_add (pe_op op_add (pe_op op_add (pe_op op_mul (pv 5) (pv 5)) (pe_op op_mul pe_int (pv 5))) (pe_op op_mul pe_int (pv 3))) pe_int) pe_int))
      (pss_one (ps_ret (pe_op op_modB (pe_op op_fdivW (pe_op op_modB (pe_op op_mul (pv 5) (pe_op op_add (pv 5) pe_int)) pe_int) pe_int) (pv 1)))))))))), ?_⟩
    obtain ⟨ns, sp, m, hp, hc, sp0, sps⟩ := pen
    have fin : ∀ (H' : Hp) (r : Int), SameX p H H' → Pen H' p c (s0 + 1) → 0 ≤ r → r < (n : Int) → Q (.int r) H' := fun H' r k pp h0 hn => by
      have e : r = ((r.toNat : Nat) : Int) := by omega
      rw [e]
      exact q H' r.toNat k pp (by omega)
    have hn0 : (0 : Int) < n := by omega
    have hnW : CDivW 0 n := wide_div (b := 200) hn0 (by rw [Int.natAbs_natCast]; exact h2) (by decide) (by decide)
    have hnW' : ∀ i : Int, CDivW i n := fun _ => hnW
    refine ⟨_, rfl, p, _, rfl, dg_m hp, _, _, rfl, rfl, _, rfl, ?_⟩
    refine ite2 (fun c0 => ?_) (fun c0 => ?_)
    · refine ⟨_, rfl, p, _, rfl, dg_m hp, _, rfl, _, _, rfl, rfl, hn0, fun r r0 r1 => ?_⟩
      refine ⟨_, rfl, p, _, rfl, dg_m hp, _, rfl, _, _, rfl, rfl, hnW' _, _, rfl, p, _, rfl, dp_m hp, ?_⟩
      exact ⟨_, rfl, fin _ r (SameX.refl _ _).upd (Pen.put hp hc sp0 (by omega)) r0 r1⟩
    · refine ⟨_, rfl, p, _, rfl, dg_s hp, ?_⟩
      refine ⟨_, rfl, _, _, rfl, rfl, _, rfl, p, _, rfl, dp_s hp, ?_⟩
      have hp1 : upd H p (.dK (penK c (sp + 1) m)) p = some (.dK (penK c (sp + 1) m)) := upd_same
      have hc1 : upd H p (.dK (penK c (sp + 1) m)) c = some (.lst (ns.map V.int)) := by
        rw [upd_ne (ne_of hc hp (fun z => by cases z))]
        exact hc
      have k1 : SameX p H (upd H p (.dK (penK c (sp + 1) m))) := (SameX.refl _ _).upd
      revert hp1 hc1 k1
      generalize upd H p (.dK (penK c (sp + 1) m)) = H1
      intro hp1 hc1 k1
      refine ⟨_, rfl, p, _, rfl, dg_c hp1, by show 0 ≤ sizeLine; exact Nat.zero_le _, fun l nl => ne_lsts (ns := ns) (ms := []) (.of (same_upd nl _ _ hc1)) (.of upd_same) ⟨_, rfl, ?_⟩⟩
      have hp2 := same_upd (o := .lst []) nl _ _ hp1
      have hc2 := same_upd (o := .lst []) nl _ _ hc1
      have k2 : SameX p H (upd H1 l (.lst [])) := k1.trans (SameX.of (same_upd nl))
      revert hp2 hc2 k2
      generalize upd H1 l (.lst []) = H2
      intro hp2 hc2 k2
      refine ite2 (fun hne => ?a) (fun hne => ?b)
      case' a =>
        have hpos : 0 < ns.length := by
          cases ns with
          | nil => simp at hne
          | cons _ _ => exact Nat.succ_pos _
        refine ⟨_, rfl, p, _, rfl, dg_c hp2, _, rfl, _, rfl, p, _, rfl, dg_c hp2, c, _, rfl, .inl (.of hc2), _, _, rfl, rfl, (by rw [List.length_map]; omega), fun r r0 r1 => ?_⟩
        rw [List.length_map] at r1
        have hcell : ns[r.toNat]? = some (ns[r.toNat]'(by omega)) := List.getElem?_eq_getElem (by omega)
        generalize (ns[r.toNat]'(by omega)) = cell at hcell
        have hat : atI (ns.map V.int) r = some (V.int cell) := by
          rw [show r = ((r.toNat : Nat) : Int) by omega]
          exact atI_nat (by rw [List.getElem?_map, hcell]; rfl)
        refine ⟨c, _, _, _, rfl, rfl, .of hc2, hat, ?_⟩
      case' b =>
        refine ⟨_, rfl, _, _, rfl, rfl, .inl ⟨by decide, by decide⟩, _, _, rfl, rfl, fun cell => ?_⟩
      all_goals
        refine ⟨_, rfl, _, rfl, p, _, rfl, dg_c hp2, c, _, rfl, .inl (.of hc2), _, _, rfl, rfl, _, rfl, ?_⟩
        refine ite2 (fun c1 => ?_) (fun c1 => ?_)
        · refine ⟨_, rfl, _, rfl, _, _, rfl, rfl, ⟨by decide, by decide, by decide⟩, _, _, rfl, rfl, _, rfl, ?_⟩
          refine ite2 (fun c2 => ?_) (fun c2 => ?_)
          · refine ⟨_, rfl, _, rfl, _, _, rfl, rfl, ⟨by decide, by decide, by decide⟩, _, _, rfl, rfl, _, rfl, _, _, rfl, rfl, hnW' _, _, rfl, p, _, rfl, dp_m hp2, ?_⟩
            refine ⟨_, rfl, _, rfl, _, _, rfl, rfl, ⟨by decide, by decide, by decide⟩, _, _, rfl, rfl, _, rfl, _, _, rfl, rfl, hn0, fun r r0 r1 => ?_⟩
            exact fin _ r k2.upd (Pen.put hp2 hc2 (by omega) (by omega)) r0 r1
          · skip
            refine ⟨_, rfl, _, _, rfl, rfl, by decide, fun z0 z1 z2 => ?_⟩
            refine ⟨_, _, rfl, rfl, .inl ⟨by omega, by omega⟩, ?_⟩
            refine ⟨_, rfl, _, _, rfl, rfl, .inl ⟨by decide, by decide⟩, _, rfl, _, _, rfl, rfl, .inr ⟨by omega, by omega⟩, ?_⟩
            refine ⟨_, _, rfl, rfl, _, rfl, _, _, rfl, rfl, .inl ⟨by decide, by decide⟩, _, _, rfl, rfl, _, _, rfl, rfl, _, _, rfl, rfl, by decide, fun x0 x1 x2 => ?_⟩
            refine ⟨_, rfl, _, rfl, _, _, rfl, rfl, .inl ⟨by omega, by omega⟩, ?_⟩
            refine ⟨_, rfl, _, _, rfl, rfl, .inl ⟨by decide, by decide⟩, _, _, rfl, rfl, _, rfl, _, _, rfl, rfl, .inl ⟨by decide, by decide⟩, _, _, rfl, rfl, _, _, rfl, rfl, _, _, rfl, rfl, by decide, fun y0 y1 y2 => ?_⟩
            refine ⟨_, rfl, _, rfl, _, _, rfl, rfl, _, _, rfl, rfl, .inl ⟨by omega, by omega⟩, _, _, rfl, rfl, by decide, fun w0 w1 w2 => ?_⟩
            refine ⟨_, _, rfl, rfl, wide_div (b := 10) (by decide) (by decide) (by decide) (by decide), _, rfl, _, _, rfl, rfl, hn0, fun r r0 r1 => ?_⟩
            exact fin _ r k2 ⟨ns, sp + 1, m, hp2, hc2, by omega, by omega⟩ r0 r1
        · refine iteF ?_
          refine ⟨_, rfl, _, _, rfl, rfl, by decide, fun z0 z1 z2 => ?_⟩
          refine ⟨_, _, rfl, rfl, .inl ⟨by omega, by omega⟩, ?_⟩
          refine ⟨_, rfl, _, _, rfl, rfl, .inl ⟨by decide, by decide⟩, _, rfl, _, _, rfl, rfl, .inr ⟨by omega, by omega⟩, ?_⟩
          refine ⟨_, _, rfl, rfl, _, rfl, _, _, rfl, rfl, .inl ⟨by decide, by decide⟩, _, _, rfl, rfl, _, _, rfl, rfl, _, _, rfl, rfl, by decide, fun x0 x1 x2 => ?_⟩
          refine ⟨_, rfl, _, rfl, _, _, rfl, rfl, .inl ⟨by omega, by omega⟩, ?_⟩
          refine ⟨_, rfl, _, _, rfl, rfl, .inl ⟨by decide, by decide⟩, _, _, rfl, rfl, _, rfl, _, _, rfl, rfl, .inl ⟨by decide, by decide⟩, _, _, rfl, rfl, _, _, rfl, rfl, _, _, rfl, rfl, by decide, fun y0 y1 y2 => ?_⟩
          refine ⟨_, rfl, _, rfl, _, _, rfl, rfl, _, _, rfl, rfl, .inl ⟨by omega, by omega⟩, _, _, rfl, rfl, by decide, fun w0 w1 w2 => ?_⟩
          refine ⟨_, _, rfl, rfl, wide_div (b := 10) (by decide) (by decide) (by decide) (by decide), _, rfl, _, _, rfl, rfl, hn0, fun r r0 r1 => ?_⟩
          exact fin _ r k2 ⟨ns, sp + 1, m, hp2, hc2, by omega, by omega⟩ r0 r1
end
end PmW
/-! pick, shuffled, mirrored. -/
namespace PmW
open PySem PySem.Spec PyProof.Rows L2 PmR PM
/-- a list of these stands still where another thing is written -/
theorem Ls.keepX {d : Addr} {H H' : Hp} {a : Addr} {l : List Nat} (h : Ls H a l) (ne : a ≠ d) (s : SameX d H H') : Ls H' a l := s _ _ ne h
theorem pen_ne {H : Hp} {p c a : Addr} {s : Nat} {o : HO} (h : Pen H p c s) (e : H a = some o) (ne : ∀ kvs, o ≠ .dK kvs) : a ≠ p := by
  obtain ⟨ns, sp, m, h1, _⟩ := h
  exact ne_of e h1 (ne _)
section
variable {P : Program} {w : World} {K : PySem.W.Frag} {mg : Str → Option Value} {base : Heap}
/-- _law_draw, called -/
structure Dr (P : Program) (w : World) (K : PySem.W.Frag) (mg : Str → Option Value) (base : Heap) (f : Addr) (fd : FuncData) : Prop where
  D : Dn K mg "_law_draw" sDraw ["_law_pen_here", "_law_many"] f fd
  ok : FnOk P w K mg base CX0 1 f fd ["_law_pen_here", "_law_many"] spDraw
theorem small200 {n : Nat} (h : n ≤ 10000) : n < 2 ^ 200 := Nat.lt_of_le_of_lt h (by decide)
/-! ### _law_pick -/
def spPick : Sp := fun vs H Q _ => ∃ (p c a : Addr) (l : List Nat) (s : Nat), vs = [.ref p, .ref a] ∧ Pen H p c s ∧ s ≤ 100000 ∧ Ls H a l ∧ 1 ≤ l.length ∧ l.length ≤ 100 ∧ ∀ H' (x : Nat), SameX p H H' → Pen H' p c (s + 1) → x ∈ l → Q (.int (x : Int)) H'
theorem scPick : FnScope ["_law_pen_here", "_law_some"] ["_law_pen_here", "_law_some"] (defScope sPick) := ⟨rfl, rfl, rfl, by decide +kernel, rfl, by decide +kernel, by decide +kernel⟩
theorem ok_pick {f fD : Addr} {fd fdD : FuncData} (D : Dn K mg "_law_pick" sPick ["_law_pen_here", "_law_some"] f fd) (B : Bl mg) (DR : Dr P w K mg base fD fdD) : FnOk P w K mg base CX0 2 f fd ["_law_pen_here", "_law_some"] spPick := by
  refine D.F.ok scPick (fun vs H Q E h => ?_) (fun cdv A outer s H vs Q E hr h => ?_)
  · obtain ⟨p, c, a, l, s, rfl, _⟩ := h
    rfl
  · obtain ⟨p, c, a, l, s0, rfl, pen, hs, ha, h1, h2, q⟩ := h
    refine ⟨_, pss_one (ps_ret (pe_ix ix_list (pv 1) (pe_call DR.ok hr (by rfl) DR.D.g DR.D.kp DR.D.b .nil pass0 (pa_cons (pv 0) (pa_cons (pe_callB call_len_seq (by rfl) B.len PySem.boot_len (pa_cons (pv 1) pa_nil)) pa_nil))) (fun _ _ => rfl))), ?_⟩
    refine ⟨_, rfl, _, rfl, _, rfl, a, vi l, rfl, .inl ha.sq, p, c, l.length, s0, (by rw [vi_len]; rfl), h1, small200 (by omega), pen, hs, fun H1 r k1 pen1 hr => ?_⟩
    have g : l[r]? = some l[r] := List.getElem?_eq_getElem hr
    have ha1 := ha.keepX (pen_ne pen ha (fun kvs z => by cases z)) k1
    refine ⟨a, vi l, _, _, rfl, rfl, ha1.sq, atI_nat (j := r) (vi_get g), ?_⟩
    exact q H1 l[r] k1 pen1 (List.mem_of_getElem? g)
/-! ### _law_shuffled -/
def spShuf : Sp := fun vs H Q _ => ∃ (p c a : Addr) (l : List Nat) (s : Nat), vs = [.ref p, .ref a] ∧ Pen H p c s ∧ s + l.length ≤ 100000 ∧ Ls H a l ∧ l.length ≤ 100 ∧ ∀ H' q l', SameX p H H' → Pen H' p c (s + l.length) → H q = none → Ls H' q l' → l'.Perm l → Q (.ref q) H'
theorem scShuf : FnScope ["_law_pen_here", "_law_some", "_law_rest", "_law_found"] ["_law_pen_here", "_law_some"] (defScope sShuffled) := ⟨rfl, rfl, rfl, by decide +kernel, rfl, by decide +kernel, by decide +kernel⟩
theorem perm_pop {l : List Nat} {i x : Nat} (h : l[i]? = some x) : l.Perm (x :: l.eraseIdx i) := by
  induction l generalizing i with
  | nil => cases h
  | cons y l ih =>
    cases i with
    | zero =>
      cases Option.some.inj h
      exact .refl _
    | succ i =>
      show (y :: l).Perm (x :: y :: l.eraseIdx i)
      exact (List.Perm.cons y (ih h)).trans (List.Perm.swap x y _)
theorem vi_erase (l : List Nat) (i : Nat) : (vi l).eraseIdx i = vi (l.eraseIdx i) := by
  induction l generalizing i with
  | nil => cases i <;> rfl
  | cons x l ih =>
    cases i with
    | zero => rfl
    | succ i =>
      show V.int (x : Int) :: (vi l).eraseIdx i = V.int (x : Int) :: vi (l.eraseIdx i)
      rw [ih]
theorem ok_shuf {f fD : Addr} {fd fdD : FuncData} (D : Dn K mg "_law_shuffled" sShuffled ["_law_pen_here", "_law_some"] f fd) (B : Bl mg) (DR : Dr P w K mg base fD fdD) : FnOk P w K mg base CX0 2 f fd ["_law_pen_here", "_law_some"] spShuf := by
  refine D.F.ok scShuf (fun vs H Q E h => ?_) (fun cdv A outer s H vs Q E hr h => ?_)
  · obtain ⟨p, c, a, l, s, rfl, _⟩ := h
    rfl
  · obtain ⟨p, c, a, l, s0, rfl, pen, hs, ha, h2, q⟩ := h
    refine ⟨_, pss_cons (ps_par (i := 2) (j := 3) rfl scShuf.nd rfl rfl (by decide) rfl rfl (pa_cons (pe_callTy call_list_of (by rfl) B.list boot_list (pa_cons (pv 1) pa_nil)) (pa_cons (pe_lst pa_nil) pa_nil)) (by rfl))
      (pss_cons (ps_while PassesOwn.never (pt_cmpR (op_neD hr.units) (pv 2) (pe_lst pa_nil) (nomark _))
        (pss_one (ps_expr (pe_bm PySem.F.plainAttrs_list PySem.F.slot_list_append PySem.F.type_list_append mt_append (pv 3) (pa_cons (pe_bm PySem.F.plainAttrs_list PySem.F.slot_list_pop PySem.F.type_list_pop mt_popAt (pv 2)
          (pa_cons (pe_call DR.ok hr (by rfl) DR.D.g DR.D.kp DR.D.b .nil pass0 (pa_cons (pv 0) (pa_cons (pe_callB call_len_seq (by rfl) B.len PySem.boot_len (pa_cons (pv 2) pa_nil)) pa_nil))) pa_nil)) pa_nil)))))
      (pss_one (ps_ret (pv 3)))), ?_⟩
    refine ⟨_, rfl, a, _, rfl, .inl ha.sq, fun r nr => ?_⟩
    refine ⟨by show 0 ≤ sizeLine; exact Nat.zero_le _, fun g ng => ⟨_, _, rfl, ?_⟩⟩
    have hg : H g = none := (same_upd (o := .lst (vi l)) nr).free ng
    have nrg : r ≠ g := ne_of_none upd_same ng
    have s2 : Same H (upd (upd H r (.lst (vi l))) g (.lst [])) := (same_upd nr).trans (same_upd ng)
    refine ⟨fun m σ H2 => ∃ (rest found : List Nat), σ = [some (.ref p), some (.ref a), some (.ref r), some (.ref g)] ∧ m = rest.length ∧ SameX p H H2 ∧ Pen H2 p c (s0 + found.length) ∧ Ls H2 r rest ∧ Ls H2 g found ∧ (found ++ rest).Perm l,
      ⟨l.length, l, [], rfl, rfl, SameX.of s2, pen.keep s2, by show upd _ g _ r = _; rw [upd_ne nrg]; exact upd_same, upd_same, .refl _⟩, ?_⟩
    rintro m σ H2 ⟨rest, found, rfl, rfl, k2, pen2, hR, hG, perm⟩
    have hlen : found.length + rest.length = l.length := by
      have := perm.length_eq
      rw [List.length_append] at this
      exact this
    refine ⟨_, rfl, by show 0 ≤ sizeLine; exact Nat.zero_le _, fun e ne => ne_lsts (ns := ci rest) (ms := []) (.of (same_upd ne _ _ hR)) (.of upd_same) ⟨_, rfl, ?_⟩⟩
    have s3 : Same H2 (upd H2 e (.lst [])) := same_upd ne
    have pen3 := pen2.keep s3
    have hR3 := hR.keep s3
    have hG3 := hG.keep s3
    have k3 : SameX p H (upd H2 e (.lst [])) := k2.trans (SameX.of s3)
    revert pen3 hR3 hG3 k3
    generalize upd H2 e (.lst []) = H3
    intro pen3 hR3 hG3 k3
    refine ite2 (fun hne => ?_) (fun hne => ?_)
    · have hpos : 1 ≤ rest.length := by
        cases rest with
        | nil => simp [ci] at hne
        | cons _ _ => exact Nat.succ_pos _
      refine ⟨fun σ' H' => ∃ m', m' < rest.length ∧ _, fun _ _ h => h, ?_⟩
      refine ⟨_, rfl, .inl ⟨rfl, _, hG3.sq⟩, _, rfl, .inl ⟨rfl, _, hR3.sq⟩, _, rfl, _, rfl, r, _, rfl, .inl hR3.sq, p, c, rest.length, s0 + found.length, (by rw [vi_len]; rfl), hpos, small200 (by omega), pen3, by omega, fun H4 i k4 pen4 hi => ?_⟩
      have rp := pen_ne pen3 hR3 (fun kvs z => by cases z)
      have gp := pen_ne pen3 hG3 (fun kvs z => by cases z)
      have hR4 := hR3.keepX rp k4
      have hG4 := hG3.keepX gp k4
      have gi : rest[i]? = some rest[i] := List.getElem?_eq_getElem hi
      refine ⟨r, _, _, i, _, rfl, rfl, hR4, by omega, by omega, ?_, vi_get gi, ?_⟩
      · rw [vi_len, seqIndex_of (by omega) (by omega)]
        rfl
      · rw [vi_erase]
        refine ⟨g, _, _, rfl, rfl, by rw [upd_ne nrg.symm]; exact hG4, small_line' (by rw [vi_len]; omega), ?_⟩
        refine ⟨(rest.eraseIdx i).length, ?_, rest.eraseIdx i, found ++ [rest[i]], rfl, rfl, ?_, ?_, ?_, ?_, ?_⟩
        · rw [List.length_eraseIdx_of_lt hi]
          omega
        · exact SameX.put hg (SameX.put nr (k3.trans k4))
        · obtain ⟨n1, n2⟩ := pen.free nr
          obtain ⟨n3, n4⟩ := pen.free hg
          rw [List.length_append]
          exact (pen4.other n1 n2).other n3 n4
        · show upd _ g _ r = _
          rw [upd_ne nrg]
          exact upd_same
        · show upd _ g _ g = _
          rw [vi_append]
          exact upd_same
        · refine List.Perm.trans ?_ perm
          rw [List.append_assoc]
          exact List.Perm.append_left _ (perm_pop gi).symm
    · have hnil : rest = [] := by
        cases rest with
        | nil => rfl
        | cons x r => simp [ci] at hne
      subst hnil
      rw [List.append_nil] at perm
      have e : found.length = l.length := perm.length_eq
      rw [e] at pen3
      exact ⟨_, rfl, q H3 g found k3 pen3 hg hG3 perm⟩
end
end PmW
/-! mirrored, the random short word. -/
namespace PmW
open PySem PySem.Spec PyProof.Rows L2 PmR PM
theorem call_lenK {X : Cx} (K : PySem.W.Frag) (hK : X.K = K) : CallR X (.builtin "len") (fun xs H Q => ∃ p ys, xs = [.ref p] ∧ (SqL K H p ys ∨ SqT K H p ys) ∧ Q (.int ys.length) H) := by
  subst hK
  exact call_len_seq
section
variable {P : Program} {w : World} {K : PySem.W.Frag} {mg : Str → Option Value} {base : Heap}
/-! ### _law_mirrored -/
def spMirror : Sp := fun vs H Q _ => ∃ (a : Addr) (o : List Nat), vs = [.ref a] ∧ Ord o ∧ o.length ≤ 60 ∧ Wt H a o ∧ ∀ H' p, Same H H' → Ot H' p (mir o) → Q (.ref p) H'
theorem scMirror : FnScope ["_law_order", "_law_runner"] ["_law_order"] (defScope sMirrored) := ⟨rfl, rfl, rfl, by decide +kernel, rfl, by decide +kernel, by decide +kernel⟩
theorem vi_reverse (o : List Nat) : (vi o).reverse = vi o.reverse := by
  unfold vi ci
  rw [List.map_map, List.map_map, List.map_reverse]
theorem ok_mirror {f : Addr} {fd : FuncData} (D : Dn K mg "_law_mirrored" sMirrored ["_law_order"] f fd) (B : Bl mg) : FnOk P w K mg base CX0 1 f fd ["_law_order"] spMirror := by
  refine D.F.ok scMirror (fun vs H Q E h => ?_) (fun cdv A outer s H vs Q E hr h => ?_)
  · obtain ⟨a, o, rfl, _⟩ := h
    rfl
  · obtain ⟨a, o, rfl, od, h2, ha, q⟩ := h
    refine ⟨_, pss_one (ps_ret (pe_tupleF (by rfl) B.tuple (pe_lc (own := [("_law_runner", 1)]) (g := gName 1) (tt := tYes) rfl scMirror.nd (pi_tup (pe_backT (pv 0)))
      (blkOk_by (N := ["_law_order", "_law_runner"]) (sc := defScope sMirrored) (by decide +kernel)) (fun _ _ _ _ _ => pg_name (i := 1) scMirror.nd rfl (Or.inl rfl)) (fun _ _ _ _ _ => pts_nil)
      (fun _ _ _ _ _ => pe_op op_sub (pe_op op_sub (pe_callB (call_lenK K rfl) (by rfl) B.len PySem.boot_len (pa_cons (pv 0) pa_nil)) pe_int) (pv 1))))), ?_⟩
    refine ⟨_, rfl, a, _, rfl, ha.sq, fun p1 n1 => ?_⟩
    have s1 : Same H (upd H p1 (.tup (vi o).reverse)) := same_upd n1
    have e1 : (upd H p1 (.tup (vi o).reverse)) p1 = some (.tup (vi o.reverse)) := by rw [upd_same, vi_reverse]
    revert s1 e1
    generalize upd H p1 (.tup (vi o).reverse) = H1
    intro s1 e1
    refine ⟨p1, rfl, ⟨_, .of e1⟩, fun L nL => lc_tup (xs := vi o.reverse) (lcP H1 L fun i => vi ((o.reverse.take i).map fun r => o.length - 1 - r)) (lcP0 nL rfl) (fun i H4 _ p => .of (p.1 _ _ e1)) ?_ ?_⟩
    · rintro i x H4 hx ⟨s4, e4⟩
      obtain ⟨k, hk, rfl⟩ := vi_get_inv hx
      have hlt := od.lt k (List.mem_reverse.mp (List.mem_of_getElem? hk))
      refine ⟨rfl, ?_⟩
      refine ⟨_, rfl, a, vi o, rfl, .inr ((ha.keep s1).keep s4).sq, _, _, rfl, rfl, _, rfl, _, _, rfl, rfl, ?_⟩
      refine lcP_put nL s4 e4 ?_ ?_
      · rw [vi_len, List.length_map, List.length_take, List.length_reverse]
        omega
      · rw [map_take_snoc _ hk, vi_len]
        congr 3
        omega
    · rintro H4 ⟨s4, e4⟩
      rw [vi_len] at e4
      dsimp only at e4
      rw [List.take_length] at e4
      exact .inl ⟨L, _, rfl, .inl (.of e4), fun H5 p s5 _ e5 => q H5 p ((s1.trans s4).trans s5) e5⟩
/-! ### _law_short_word -/
theorem eq_lsts {K : PySem.W.Frag} {H : Hp} {a b : Addr} {ns ms : List Int} {Q : VK} (ha : SqL K H a (ns.map V.int)) (hb : SqL K H b (ms.map V.int)) (q : Q (.bl (decide (ns = ms))) H) : rEqD K (.ref a) (.ref b) H Q :=
  ⟨_, _, .lst ha (dpAll_ints ns), .lst hb (dpAll_ints ms), shaped_lst ns, shaped_lst ms, by show Q (.bl (PyData.eqvAll _ _)) H; rw [eqv_ints]; exact q⟩
/-- _law_pick, called -/
structure Pk (P : Program) (w : World) (K : PySem.W.Frag) (mg : Str → Option Value) (base : Heap) (f : Addr) (fd : FuncData) : Prop where
  D : Dn K mg "_law_pick" sPick ["_law_pen_here", "_law_some"] f fd
  ok : FnOk P w K mg base CX0 2 f fd ["_law_pen_here", "_law_some"] spPick
def spShortWord : Sp := fun vs H Q _ => ∃ (p c a : Addr) (o : List Nat) (s : Nat), vs = [.ref p, .ref a] ∧ Pen H p c s ∧ s ≤ 90000 ∧ Ord o ∧ o.length ≤ 7 ∧ Wt H a o ∧ ∀ H' q u, SameX p H H' → Pen H' p c (s + 50) → Wt H' q u → LP o u → Q (.ref q) H'
theorem scShortWord : FnScope ["_law_pen_here", "_law_order", "_law_line", "_law_found", "_law_some", "_law_spot", "_law_k"] ["_law_pen_here", "_law_order"] (defScope sShortWord) := ⟨rfl, rfl, rfl, by decide +kernel, rfl, by decide +kernel, by decide +kernel⟩
theorem ok_shortWord {f fK : Addr} {fd fdK : FuncData} (D : Dn K mg "_law_short_word" sShortWord ["_law_pen_here", "_law_order"] f fd) (B : Bl mg) (PK : Pk P w K mg base fK fdK) : FnOk P w K mg base CX0 3 f fd ["_law_pen_here", "_law_order"] spShortWord := by
  refine D.F.ok scShortWord (fun vs H Q E h => ?_) (fun cdv A outer s H vs Q E hr h => ?_)
  · obtain ⟨p, c, a, o, s, rfl, _⟩ := h
    rfl
  · obtain ⟨p, c, a, o, s0, rfl, pen, hs, od, h2, ha, q⟩ := h
    refine ⟨_, pss_cons (ps_asg (pe_tup (pa_cons (pe_callTy call_list_of (by rfl) B.list boot_list (pa_cons (pv 1) pa_nil)) (pa_cons (pe_lst pa_nil) pa_nil)))
        (pg_tup rfl (pgs_cons (pg_name (i := 2) scShortWord.nd rfl (.inr rfl)) (pgs_cons (pg_name (i := 3) scShortWord.nd rfl (.inl rfl)) pgs_nil))))
      (pss_one (ps_while PassesOwn.never (pt_val pe_bl)
        (pss_cons (ps_setLc (i := 4) (own := [("_law_k", 6)]) (g := gName 6) rfl scShortWord.nd rfl rfl (sw_true rfl rfl rfl (by decide +kernel)) (pi_range1 (by rfl) B.range (pa_cons (pe_op op_sub (pe_callB call_len_seq (by rfl) B.len PySem.boot_len (pa_cons (pv 2) pa_nil)) pe_int) pa_nil))
          (blkOk_by (N := ["_law_pen_here", "_law_order", "_law_line", "_law_found", "_law_some", "_law_spot", "_law_k"]) (sc := defScope sShortWord) (by decide +kernel)) (fun _ _ _ _ _ => pg_name (i := 6) scShortWord.nd rfl (Or.inl rfl))
          (fun _ _ _ _ _ => pts_one (pt_cmpR op_gt (pe_ix (r := rIxL K) ix_list (pv 2) (pv 6) (fun _ _ => rfl)) (pe_ix (r := rIxL K) ix_list (pv 2) (pe_op op_add (pv 6) pe_int) (fun _ _ => rfl)) (nomark _))) (fun _ _ _ _ _ => pv 6))
        (pss_cons (ps_if (pt_cmpR (op_eqD hr.units) (pv 4) (pe_lst pa_nil) (nomark _)) (pss_one (ps_ret (pe_tupleF (by rfl) B.tuple (pe_revL (pv 3))))) pss_nil)
        (pss_cons (ps_set (i := 5) scShortWord.nd rfl (.inl rfl) (pe_call PK.ok hr (by rfl) PK.D.g PK.D.kp PK.D.b .nil pass0 (pa_cons (pv 0) (pa_cons (pv 4) pa_nil))))
        (pss_cons (ps_expr (pe_bm PySem.F.plainAttrs_list PySem.F.slot_list_append PySem.F.type_list_append mt_append (pv 3) (pa_cons (pv 5) pa_nil)))
        (pss_one (ps_set (i := 2) scShortWord.nd rfl (.inr rfl) (pe_op op_cat (pe_op op_cat (pe_slice sl_list (pv 2) po_none (po_some (pv 5)))
            (pe_lst (pa_cons (pe_ix ix_list (pv 2) (pe_op op_add (pv 5) pe_int) (fun _ _ => rfl)) (pa_cons (pe_ix ix_list (pv 2) (pv 5) (fun _ _ => rfl)) pa_nil))))
          (pe_slice sl_list (pv 2) (po_some (pe_op op_add (pv 5) pe_int)) po_none)))))))))), ?_⟩
    refine ⟨_, rfl, a, _, rfl, .inr ha.sq, fun r nr => ?_⟩
    refine ⟨by show 0 ≤ sizeLine; exact Nat.zero_le _, fun g ng => ?_⟩
    refine ⟨by show 2 ≤ sizeLine; exact small_line (by decide), fun t nt => ⟨t, _, rfl, .inl (.inl upd_same), rfl, _, _, rfl, _, _, rfl, rfl, ?_⟩⟩
    have hg : H g = none := (same_upd (o := .lst (vi o)) nr).free ng
    have nrg : r ≠ g := ne_of_none upd_same ng
    have s2 : Same H (upd (upd H r (.lst (vi o))) g (.lst [])) := (same_upd nr).trans (same_upd ng)
    have r2 : (upd (upd H r (.lst (vi o))) g (.lst [])) r = some (.lst (vi o)) := by
      rw [upd_ne nrg]
      exact upd_same
    have g2 : (upd (upd H r (.lst (vi o))) g (.lst [])) g = some (.lst []) := upd_same
    have s3 := same_upd (o := .tup [.ref r, .ref g]) nt
    have pen3 := pen.keep (s2.trans s3)
    have k3 : SameX p H _ := SameX.of (s2.trans s3)
    have r3 := s3 _ _ r2
    have g3 := s3 _ _ g2
    revert pen3 k3 r3 g3
    generalize upd (upd (upd H r (.lst (vi o))) g (.lst [])) t (.tup [.ref r, .ref g]) = H3
    intro pen3 k3 r3 g3
    have io := inv_50 h2
    refine ⟨fun m σ H2 => ∃ (lr : Addr) (line f : List Nat) (z4 z5 z6 : Option V), σ = [some (.ref p), some (.ref a), some (.ref lr), some (.ref g), z4, z5, z6] ∧ m = inv line ∧ SameX p H H2 ∧ Pen H2 p c (s0 + f.length) ∧ Ls H2 lr line ∧ Ls H2 g f ∧ lr ≠ g ∧
      Ord line ∧ line.length = o.length ∧ f.length + inv line = inv o ∧ ∀ v, RP line v → RP o (f ++ v),
      ⟨inv o, r, o, [], _, _, _, rfl, rfl, k3, pen3, r3, g3, nrg, od, rfl, by simp, fun v hv => hv⟩, ?_⟩
    rintro m σ H2 ⟨lr, line, f, z4, z5, z6, rfl, rfl, k2, pen2, hL, hG, nlg, ol, ll, lf, claim⟩
    refine ⟨true, rfl, iteT ⟨fun σ' H' => ∃ m', m' < inv line ∧ _, fun _ _ h => h, ?_⟩⟩
    refine ⟨_, rfl, lr, _, rfl, .inl hL.sq, _, _, rfl, rfl, (line.length : Int) - 1, (by rw [vi_len]), by omega, by omega, fun D nD => ?_⟩
    rw [show ((line.length : Int) - 1).toNat = line.length - 1 by omega]
    refine lc_range (n := line.length - 1) (lcP H2 D fun i => vi ((List.range i).filter fun k => dr line k)) (lcP0 nD rfl) ?_ ?_
    · rintro i H4 hi ⟨s4, e4⟩
      have hfs := filter_succ (fun k => dr line k) i
      have hfl := filter_len (fun k => dr line k) i
      have gi0 : line[i]? = some line[i] := List.getElem?_eq_getElem (by omega)
      have gi1 : line[i + 1]? = some line[i + 1] := List.getElem?_eq_getElem (by omega)
      have hdr : dr line i = decide (line[i + 1] < line[i]) := by
        unfold dr
        rw [getD_of gi0, getD_of gi1]
      rw [Int.zero_add]
      refine ⟨rfl, ?_⟩
      refine ⟨_, rfl, _, rfl, lr, _, _, _, rfl, rfl, (hL.keep s4).sq, atI_nat (j := i) (vi_get gi0), ?_⟩
      refine ⟨_, rfl, _, rfl, _, _, rfl, rfl, lr, _, _, _, rfl, rfl, (hL.keep s4).sq, atI_nat (j := i + 1) (vi_get gi1), ?_⟩
      refine ⟨_, _, rfl, rfl, _, rfl, ?_⟩
      by_cases cc : line[i + 1] < line[i]
      · rw [decide_eq_true (show (line[i] : Int) > (line[i + 1] : Int) by omega)]
        rw [hdr, decide_eq_true cc, if_pos rfl] at hfs
        refine iteT ⟨_, rfl, lcP_put nD s4 e4 (by rw [vi_len]; omega) ?_⟩
        rw [hfs, vi_append]
        rfl
      · rw [decide_eq_false (show ¬ (line[i] : Int) > (line[i + 1] : Int) by omega)]
        rw [hdr, decide_eq_false cc, if_neg (by decide)] at hfs
        refine iteF (lcP_skip s4 e4 ?_)
        rw [hfs]
    · rintro H4 ⟨s4, e4⟩
      dsimp only at e4
      have hfl := filter_len (fun k => dr line k) (line.length - 1)
      have mem_some : ∀ x, x ∈ (List.range (line.length - 1)).filter (fun k => dr line k) ↔ x + 1 < line.length ∧ dr line x = true := fun x => by
        rw [List.mem_filter, List.mem_range]
        exact ⟨fun ⟨a, b⟩ => ⟨by omega, b⟩, fun ⟨a, b⟩ => ⟨by omega, b⟩⟩
      revert e4 hfl mem_some
      generalize (List.range (line.length - 1)).filter (fun k => dr line k) = ks
      intro e4 hfl mem_some
      have k4 : SameX p H H4 := k2.trans (SameX.of s4)
      have pen4 := pen2.keep s4
      have hL4 := hL.keep s4
      have hG4 := hG.keep s4
      have hks : Ls H4 D ks := e4
      refine ⟨_, rfl, by show 0 ≤ sizeLine; exact Nat.zero_le _, fun e ne => eq_lsts (ns := ci ks) (ms := []) (.of (same_upd ne _ _ hks)) (.of upd_same) ⟨_, rfl, ?_⟩⟩
      have s5 : Same H4 (upd H4 e (.lst [])) := same_upd ne
      have k5 := k4.trans (SameX.of s5)
      have pen5 := pen4.keep s5
      have hL5 := hL4.keep s5
      have hG5 := hG4.keep s5
      have hks5 := hks.keep s5
      revert k5 pen5 hL5 hG5 hks5
      generalize upd H4 e (.lst []) = H5
      intro k5 pen5 hL5 hG5 hks5
      refine ite2 (fun hnil => ?_) (fun hne => ?_)
      · have hk0 : ks = [] := by
          cases ks with
          | nil => rfl
          | cons x r => simp [ci] at hnil
        refine ⟨_, rfl, g, _, rfl, hG5.sq, fun q1 nq1 => ?_⟩
        rw [vi_reverse]
        refine .inl ⟨q1, _, rfl, .of upd_same, fun H7 q7 s7 n7 e7 => ?_⟩
        have rp0 : RP line [] := .nil fun k a b h1 h2 => by
          have nin : ¬ (k + 1 < line.length ∧ dr line k = true) := fun z => by
            have := (mem_some k).mpr z
            rw [hk0] at this
            cases this
          have hk := (List.getElem?_eq_some_iff.mp h2).1
          have nd : ¬ b < a := fun z => nin ⟨hk, by unfold dr; rw [getD_of h1, getD_of h2]; exact decide_eq_true z⟩
          have nab : a ≠ b := fun z => by
            subst z
            have := (List.getElem?_inj (List.getElem?_eq_some_iff.mp h1).1 ol.nd).mp (h1.trans h2.symm)
            omega
          omega
        have rp := claim [] rp0
        rw [List.append_nil] at rp
        refine q H7 q7 f.reverse ?_ ?_ e7.wt (rp.lp od)
        · exact k5.trans (SameX.of ((same_upd nq1).trans s7))
        · exact (pen5.keep ((same_upd nq1).trans s7)).more (by omega)
      · have hpos : 1 ≤ ks.length := by
          cases ks with
          | nil => simp [ci] at hne
          | cons _ _ => exact Nat.succ_pos _
        refine ⟨_, rfl, _, rfl, p, c, D, ks, s0 + f.length, rfl, pen5, by omega, hks5, hpos, by omega, fun H6 x k6 pen6 hx => ?_⟩
        obtain ⟨hx1, hxd⟩ := (mem_some x).mp hx
        have g0 : line[x]? = some line[x] := List.getElem?_eq_getElem (by omega)
        have g1 : line[x + 1]? = some line[x + 1] := List.getElem?_eq_getElem hx1
        have hlt : line[x + 1] < line[x] := by
          unfold dr at hxd
          rw [getD_of g0, getD_of g1] at hxd
          exact of_decide_eq_true hxd
        have invd := inv_sp_down g0 g1 hlt
        have hL6 := hL5.keepX (pen_ne pen5 hL5 (fun kvs z => by cases z)) k6
        have hG6 := hG5.keepX (pen_ne pen5 hG5 (fun kvs z => by cases z)) k6
        refine ⟨_, rfl, .inl ⟨rfl, _, hG6.sq⟩, _, rfl, g, _, _, rfl, rfl, hG6, small_line' (by rw [vi_len]; omega), ?_⟩
        have hG7 : Ls (upd H6 g (.lst (vi f ++ [V.int (x : Int)]))) g (f ++ [x]) := by
          show upd _ _ _ _ = _
          rw [vi_append]
          exact upd_same
        have hL7 : Ls (upd H6 g (.lst (vi f ++ [V.int (x : Int)]))) lr line := by
          show upd _ _ _ _ = _
          rw [upd_ne nlg]
          exact hL6
        have k7 : SameX p H (upd H6 g (.lst (vi f ++ [V.int (x : Int)]))) := SameX.put hg (k5.trans k6)
        obtain ⟨n1, n2⟩ := pen.free hg
        have pen7 : Pen (upd H6 g (.lst (vi f ++ [V.int (x : Int)]))) p c (s0 + (f ++ [x]).length) := by
          rw [List.length_append]
          exact pen6.other n1 n2
        revert hG7 hL7 k7 pen7
        generalize upd H6 g (.lst (vi f ++ [V.int (x : Int)])) = H7
        intro hG7 hL7 k7 pen7
        refine ⟨_, rfl, ?_⟩
        dsimp only [tNoPart]
        refine ⟨_, rfl, _, rfl, lr, _, rfl, hL7.sq, fun q8 n8 => ?_⟩
        rw [cut_head, vi_take]
        have s8 := same_upd (o := .lst (vi (line.take x))) n8
        have l8 : upd H7 q8 (.lst (vi (line.take x))) q8 = some (.lst (vi (line.take x))) := upd_same
        refine ⟨_, rfl, _, rfl, _, _, rfl, rfl, lr, _, _, _, rfl, rfl, (hL7.keep s8).sq, atI_nat (j := x + 1) (vi_get g1), ?_⟩
        refine ⟨_, rfl, _, rfl, lr, _, _, _, rfl, rfl, (hL7.keep s8).sq, atI_nat (j := x) (vi_get g0), ?_⟩
        refine ⟨by show 2 ≤ sizeLine; exact small_line (by decide), fun q9 n9 => ?_⟩
        have s9 := same_upd (o := .lst [.int (line[x + 1] : Int), .int (line[x] : Int)]) n9
        refine ⟨q8, q9, _, _, rfl, rfl, s9 _ _ l8, upd_same, small_line (by rw [vi_len, List.length_take]; show _ + 2 ≤ _; omega), fun q10 n10 => ?_⟩
        have s10 := same_upd (o := .lst (vi (line.take x) ++ [.int (line[x + 1] : Int), .int (line[x] : Int)])) n10
        have hL10 := ((hL7.keep s8).keep s9).keep s10
        refine ⟨_, rfl, _, rfl, _, _, rfl, rfl, _, rfl, ?_⟩
        dsimp only [tNoPart]
        refine ⟨lr, _, rfl, hL10.sq, fun q11 n11 => ?_⟩
        rw [show ((x : Int) + 2) = ((x + 2 : Nat) : Int) by omega, cut_tail, vi_drop]
        have s11 := same_upd (o := .lst (vi (line.drop (x + 2)))) n11
        refine ⟨q10, q11, _, _, rfl, rfl, s11 _ _ upd_same, upd_same, small_line (by rw [List.length_append, vi_len, vi_len, List.length_take, List.length_drop]; show _ + 2 + _ ≤ _; omega), fun q12 n12 => ?_⟩
        have s12 := same_upd (o := .lst (vi (line.take x) ++ [.int (line[x + 1] : Int), .int (line[x] : Int)] ++ vi (line.drop (x + 2)))) n12
        have sall := (((s8.trans s9).trans s10).trans s11).trans s12
        have e12 : vi (line.take x) ++ [V.int (line[x + 1] : Int), V.int (line[x] : Int)] ++ vi (line.drop (x + 2)) = vi (sp x line) := by
          rw [sp_eq x line _ _ g0 g1, vi_append, vi_append]
          rfl
        have hG11 := ((((hG7.keep s8).keep s9).keep s10).keep s11)
        refine ⟨inv (sp x line), by omega, q12, sp x line, f ++ [x], _, _, _, rfl, rfl, k7.trans (SameX.of sall), pen7.keep sall, ?_, hG7.keep sall, (ne_of_none hG11 n12).symm, ol.sp x, by rw [sp_len]; exact ll, ?_, fun v hv => ?_⟩
        · show upd _ q12 _ q12 = some (.lst (vi (sp x line)))
          rw [← e12]
          exact upd_same
        · rw [List.length_append]
          show f.length + 1 + _ = _
          omega
        · rw [List.append_assoc]
          exact claim (x :: v) (.cons g0 g1 hlt hv)
end
end PmW
/-! _law_words_right. -/
namespace PmW
open PySem PySem.Spec PyProof.Rows L2 PmR PM
theorem Ft.keepN {d : Addr} {H H' : Hp} {a : Addr} {xs : List V} (h : Ft H a xs) (ne : a ≠ d) (s : SameX d H H') : Ft H' a xs := let ⟨ob, e, n⟩ := h; ⟨ob, s _ _ ne e, n⟩
theorem Wt.keepN {d : Addr} {H H' : Hp} {a : Addr} {u : List Nat} (h : Wt H a u) (ne : a ≠ d) (s : SameX d H H') : Wt H' a u := by
  rcases h with e | ⟨ob, e⟩
  · exact .inl (s _ _ ne e)
  · exact .inr ⟨ob, s _ _ ne e⟩
theorem Pen.ft {H : Hp} {p c a : Addr} {s : Nat} {xs : List V} (h : Pen H p c s) (k : Ft H a xs) : a ≠ p := by
  obtain ⟨ob, e, _⟩ := k
  exact pen_ne h e (fun kvs z => by cases z)
theorem Pen.wt {H : Hp} {p c a : Addr} {s : Nat} {u : List Nat} (h : Pen H p c s) (k : Wt H a u) : a ≠ p := by
  rcases k with e | ⟨ob, e⟩
  · exact pen_ne h e (fun kvs z => by cases z)
  · exact pen_ne h e (fun kvs z => by cases z)
theorem wt_upd {H : Hp} {g b : Addr} {xs : List V} {o : HO} {u : List Nat} (e : H g = some (.lst xs)) (h : Wt H b u) : Wt (upd H g o) b u := by
  rcases h with k | ⟨ob, k⟩
  · exact .inl (by rw [upd_ne (ne_of k e (fun z => by cases z))]; exact k)
  · exact .inr ⟨ob, by rw [upd_ne (ne_of k e (fun z => by cases z))]; exact k⟩
theorem ft_upd {H : Hp} {g b : Addr} {xs ys : List V} {o : HO} (e : H g = some (.lst xs)) (h : Ft H b ys) : Ft (upd H g o) b ys := by
  obtain ⟨ob, k, n⟩ := h
  exact ⟨ob, by rw [upd_ne (ne_of k e (fun z => by cases z))]; exact k, n⟩
theorem lex_lt : ∀ {u v : List Nat}, lexL u v → HT.lexLt (ci u) (ci v) = true
  | [], [], h => by cases h
  | [], _ :: _, _ => rfl
  | _ :: _, [], h => by cases h
  | x :: u, y :: v, h => by
    show (if (x : Int) = (y : Int) then HT.lexLt (ci u) (ci v) else decide ((x : Int) < (y : Int))) = true
    rcases h with h | ⟨e, h⟩
    · rw [if_neg (by omega), decide_eq_true (by omega)]
    · rw [if_pos (by omega), lex_lt h]
section
variable {P : Program} {w : World} {K : PySem.W.Frag} {mg : Str → Option Value} {base : Heap}
/-- a def that keeps a promise, called -/
structure Df (P : Program) (w : World) (K : PySem.W.Frag) (mg : Str → Option Value) (base : Heap) (x : Str) (st : Stmt) (ps : List Str) (k : Nat) (sp : Sp) (f : Addr) (fd : FuncData) : Prop where
  D : Dn K mg x st ps f fd
  ok : FnOk P w K mg base CX0 k f fd ps sp
def spWordsRight : Sp := fun vs H Q _ => ∃ (p c a : Addr) (o : List Nat) (s : Nat), vs = [.ref p, .ref a, .int 2] ∧ Pen H p c s ∧ s ≤ 80000 ∧ Ord o ∧ 1 ≤ o.length ∧ o.length ≤ 7 ∧ Ot H a o ∧ ∀ H', SameX p H H' → Pen H' p c (s + 60) → Q (.bl true) H'
theorem scWR : FnScope ["_law_pen_here", "_law_order", "_law_most", "_law_many", "_law_found", "_law_number", "_law_word", "_law_k"] ["_law_pen_here", "_law_order", "_law_most"] (defScope sWordsRight) := ⟨rfl, rfl, rfl, by decide +kernel, rfl, by decide +kernel, by decide +kernel⟩
theorem ok_wordsRight {f fD fMS fSA fSN fOO fIS fSW : Addr} {fd fdD fdMS fdSA fdSN fdOO fdIS fdSW : FuncData} (D : Dn K mg "_law_words_right" sWordsRight ["_law_pen_here", "_law_order", "_law_most"] f fd) (B : Bl mg) (DR : Dr P w K mg base fD fdD)
    (MS : Df P w K mg base "many_short" sManyShort ["order"] 53 spManyShort fMS fdMS) (SA : Df P w K mg base "short_at" sShortAt ["order", "number"] 53 spShortAt fSA fdSA) (SN : Df P w K mg base "short_number" sShortNumber ["order", "word"] 53 spShortNumber fSN fdSN)
    (OO : Df P w K mg base "order_of" sOrderOf ["places", "word"] 4 spOrderOf fOO fdOO) (IS : Df P w K mg base "is_short" sIsShort ["places", "word"] 5 spIsShort fIS fdIS) (SW : Df P w K mg base "_law_short_word" sShortWord ["_law_pen_here", "_law_order"] 3 spShortWord fSW fdSW) :
    FnOk P w K mg base CX0 54 f fd ["_law_pen_here", "_law_order", "_law_most"] spWordsRight := by
  refine D.F.ok scWR (fun vs H Q E h => ?_) (fun cdv A outer s H vs Q E hr h => ?_)
  · obtain ⟨p, c, a, o, s, rfl, _⟩ := h
    rfl
  · obtain ⟨p, c, a, o, s0, rfl, pen, hs, od, h1, h2, ha, q⟩ := h
    refine ⟨_, pss_cons (ps_asg (pe_tup (pa_cons (pe_call MS.ok hr (by rfl) MS.D.g MS.D.kp MS.D.b .nil pass0 (pa_cons (pv 1) pa_nil)) (pa_cons (pe_lst pa_nil) pa_nil)))
        (pg_tup rfl (pgs_cons (pg_name (i := 3) scWR.nd rfl (.inr rfl)) (pgs_cons (pg_name (i := 4) scWR.nd rfl (.inr rfl)) pgs_nil))))
      (pss_cons (ps_for PassesOwn.never rfl (pi_list (pe_callB (cr_sortedSet rfl) (by rfl) B.sorted (by decide +kernel) (pa_cons (pe_callTy (cr_setOfI rfl) (by rfl) B.set (by decide +kernel) (pa_cons
          (pe_lc (own := [("_law_k", 7)]) (g := gName 7) (tt := tYes) rfl scWR.nd (pi_range1 (by rfl) B.range (pa_cons (pv 2) pa_nil))
            (blkOk_by (N := ["_law_pen_here", "_law_order", "_law_most", "_law_many", "_law_found", "_law_number", "_law_word", "_law_k"]) (sc := defScope sWordsRight) (by decide +kernel)) (fun _ _ _ _ _ => pg_name (i := 7) scWR.nd rfl (Or.inl rfl)) (fun _ _ _ _ _ => pts_nil)
            (fun _ _ _ _ _ => pe_call DR.ok (hr.mono (by decide)) (by rfl) DR.D.g DR.D.kp DR.D.b .nil pass0 (pa_cons (pv 0) (pa_cons (pv 3) pa_nil)))) pa_nil)) pa_nil))) (pg_name (i := 5) scWR.nd rfl (.inl rfl))
        (pss_cons (ps_set (i := 6) scWR.nd rfl (.inl rfl) (pe_call SA.ok hr (by rfl) SA.D.g SA.D.kp SA.D.b .nil pass0 (pa_cons (pv 1) (pa_cons (pv 5) pa_nil))))
        (pss_cons (ps_if (PW.pt (pw_or (pt_cmpR op_ne (pe_call SN.ok hr (by rfl) SN.D.g SN.D.kp SN.D.b .nil pass0 (pa_cons (pv 1) (pa_cons (pv 6) pa_nil))) (pv 5) (nomark _))
          (pw_or1 (pt_cmpR (op_neD hr.units) (pe_call OO.ok (hr.mono (by decide)) (by rfl) OO.D.g OO.D.kp OO.D.b .nil pass0 (pa_cons (pe_callB call_len_seq (by rfl) B.len PySem.boot_len (pa_cons (pv 1) pa_nil)) (pa_cons (pv 6) pa_nil))) (pv 1) (nomark _))))) (pss_one (ps_ret pe_bl)) pss_nil)
        (pss_cons (ps_if (pt_not (pt_val (pe_call IS.ok (hr.mono (by decide)) (by rfl) IS.D.g IS.D.kp IS.D.b .nil pass0 (pa_cons (pe_callB call_len_seq (by rfl) B.len PySem.boot_len (pa_cons (pv 1) pa_nil)) (pa_cons (pv 6) pa_nil))))) (pss_one (ps_ret pe_bl)) pss_nil)
        (pss_one (ps_expr (pe_bm PySem.F.plainAttrs_list PySem.F.slot_list_append PySem.F.type_list_append mt_append (pv 4) (pa_cons (pv 6) pa_nil))))))))
      (pss_cons (ps_if (pt_cmpR (op_neD hr.units) (pe_lc (own := [("_law_k", 7)]) (g := gName 7) rfl scWR.nd (pi_range2 (by rfl) B.range (pa_cons pe_int (pa_cons (pe_callB call_len_seq (by rfl) B.len PySem.boot_len (pa_cons (pv 4) pa_nil)) pa_nil)))
            (blkOk_by (N := ["_law_pen_here", "_law_order", "_law_most", "_law_many", "_law_found", "_law_number", "_law_word", "_law_k"]) (sc := defScope sWordsRight) (by decide +kernel)) (fun _ _ _ _ _ => pg_name (i := 7) scWR.nd rfl (Or.inl rfl))
            (fun _ _ _ _ _ => pts_one (pt_not (pt_cmpR (r := rLtT K) (op_ltT hr.units0) (pe_ix (r := rIxL K) ix_list (pv 4) (pe_op op_sub (pv 7) pe_int) (fun _ _ => rfl)) (pe_ix (r := rIxL K) ix_list (pv 4) (pv 7) (fun _ _ => rfl)) (nomark _)))) (fun _ _ _ _ _ => pv 7)) (pe_lst pa_nil) (nomark _)) (pss_one (ps_ret pe_bl)) pss_nil)
      (pss_cons (ps_set (i := 6) scWR.nd rfl (.inl rfl) (pe_call SW.ok (hr.mono (by decide)) (by rfl) SW.D.g SW.D.kp SW.D.b .nil pass0 (pa_cons (pv 0) (pa_cons (pv 1) pa_nil))))
      (pss_one (ps_ret (pe_cmpR (op_eqD hr.units) (pe_call SA.ok hr (by rfl) SA.D.g SA.D.kp SA.D.b .nil pass0 (pa_cons (pv 1) (pa_cons (pe_call SN.ok hr (by rfl) SN.D.g SN.D.kp SN.D.b .nil pass0 (pa_cons (pv 1) (pa_cons (pv 6) pa_nil))) pa_nil))) (pv 6) (nomark _))))))), ?_⟩
    refine ⟨_, rfl, a, o, rfl, od, h1, h2, ha, fun H1 s1 => ?_⟩
    refine ⟨by show 0 ≤ sizeLine; exact Nat.zero_le _, fun g ng => ?_⟩
    refine ⟨by show 2 ≤ sizeLine; exact small_line (by decide), fun t nt => ⟨t, _, rfl, .inl (.inl upd_same), rfl, _, _, rfl, _, _, rfl, rfl, ?_⟩⟩
    have hg : H g = none := s1.free ng
    have s3 : Same H (upd (upd H1 g (.lst [])) t (.tup [.int (many o : Nat), .ref g])) := (s1.trans (same_upd ng)).trans (same_upd nt)
    have g3 : upd (upd H1 g (.lst [])) t (.tup [.int (many o : Nat), .ref g]) g = some (.lst []) := same_upd nt _ _ upd_same
    revert s3 g3
    generalize upd (upd H1 g (.lst [])) t (.tup [.int (many o : Nat), .ref g]) = H3
    intro s3 g3
    have pen3 := pen.keep s3
    have hap : a ≠ p := pen.ft ha
    refine ⟨_, rfl, 2, rfl, by decide, by decide, fun D nD => ?_⟩
    obtain ⟨nDp, nDc⟩ := pen3.free nD
    have hD : H D = none := s3.free nD
    have nDg : D ≠ g := (ne_of_none g3 nD).symm
    refine lc_range (n := 2) (fun i H4 => ∃ ds : List Nat, SameX p H H4 ∧ Pen H4 p c (s0 + i) ∧ H4 g = some (.lst []) ∧ H4 D = some (.lst (vi ds)) ∧ ds.length = i ∧ ∀ d ∈ ds, d < many o)
      ⟨[], SameX.put hD (SameX.of s3), pen3.other nDp nDc, by rw [upd_ne nDg.symm]; exact g3, upd_same, rfl, fun d hd => absurd hd List.not_mem_nil⟩ ?_ ?_
    · rintro i H4 hi ⟨ds, k4, pen4, g4, e4, ld, hds⟩
      refine ⟨rfl, ?_⟩
      refine ⟨_, rfl, _, rfl, p, c, many o, s0 + i, rfl, many_pos _ od rfl, many_small h2, pen4, by omega, fun H5 r k5 pen5 hr => ?_⟩
      have e5 := k5 _ _ nDp e4
      have ngp : g ≠ p := pen_ne pen4 g4 (fun kvs z => by cases z)
      refine ⟨_, e5, small_line' (by rw [vi_len]; omega), ds ++ [r], SameX.put hD (k4.trans k5), pen5.other nDp nDc, ?_, ?_, ?_, fun d hd => ?_⟩
      · rw [upd_ne nDg.symm]
        exact k5 _ _ ngp g4
      · rw [vi_append]
        exact upd_same
      · rw [List.length_append, ld]
        rfl
      · rcases List.mem_append.mp hd with hd | hd
        · exact hds d hd
        · rw [List.mem_singleton.mp hd]
          exact hr
    · rintro H4 ⟨ds, k4, pen4, g4, e4, ld, hds⟩
      refine ⟨D, ci ds, rfl, .of e4, by rw [ci_len]; omega, fun a5 c5 n5 hc5 => ?_⟩
      rw [ci_len] at hc5
      refine ⟨a5, _, c5, rfl, upd_same, by omega, fun ns p6 pw mem len np6 => ?_⟩
      have s6 : Same H4 (upd (upd H4 a5 (SetO w a5 (fun j => decide (j ∈ ci ds)) c5)) p6 (.lst (ns.map V.int))) := (same_upd n5).trans (same_upd np6)
      have e6 : upd (upd H4 a5 (SetO w a5 (fun j => decide (j ∈ ci ds)) c5)) p6 (.lst (ns.map V.int)) p6 = some (.lst (ns.map V.int)) := upd_same
      have h6 : H4 p6 = none := (same_upd n5).free np6
      have g6 := s6 _ _ g4
      have ngp6 : g ≠ p6 := ne_of_none g4 h6
      have n6p : p6 ≠ p := ((pen4.keep (.refl _)).free h6).1
      have n6c : p6 ≠ c := ((pen4.keep (.refl _)).free h6).2
      refine ⟨p6, rfl, ⟨_, .of e6⟩, for_list (xs := ns.map V.int) (fun i σ H5 => ∃ (T : List (Addr × List Nat)) (z5 z6 z7 : Option V), σ = [some (.ref p), some (.ref a), some (.int 2), some (.int (many o : Nat)), some (.ref g), z5, z6, z7] ∧ SameX p H H5 ∧ Pen H5 p c (s0 + 2) ∧
        H5 p6 = some (.lst (ns.map V.int)) ∧ H5 g = some (.lst (T.map fun t => V.ref t.1)) ∧ (∀ t ∈ T, Wt H5 t.1 t.2 ∧ LP o t.2) ∧ T.map (fun t => ((sNum o t.2 : Nat) : Int)) = ns.take i)
        ⟨[], _, _, _, rfl, k4.trans (SameX.of s6), pen4.keep s6, e6, g6, (fun t ht => absurd ht List.not_mem_nil), rfl⟩ (fun i σ H5 _ ⟨_, _, _, _, _, _, _, e5, _⟩ => .of e5) ?_ ?_⟩
      · rintro i x σ H5 hx ⟨T, z5, z6, z7, rfl, k5, pen5, e5, g5, wT, mT⟩
        rw [List.getElem?_map] at hx
        obtain ⟨k, hk, rfl⟩ : ∃ k, ns[i]? = some k ∧ x = V.int k := by
          cases e : ns[i]? with
          | none =>
            rw [e] at hx
            cases hx
          | some k =>
            rw [e] at hx
            exact ⟨k, rfl, (Option.some.inj hx).symm⟩
        have hkm := of_decide_eq_true ((mem k).mp (List.mem_of_getElem? hk))
        obtain ⟨n, rfl, hn⟩ := ci_mem_inv hkm
        have hnm := hds n hn
        have ha5 := ha.keepN hap k5
        refine ⟨_, rfl, _, rfl, a, o, n, rfl, od, h1, h2, ha5, hnm, fun H6 p7 u s7 w7 lu nu => ?_⟩
        have hul : u.length < 50 := by
          have := (lu.made od).2
          have := inv_50 h2
          omega
        refine ⟨_, rfl, _, rfl, a, p7, o, u, rfl, od, h1, h2, ha5.keep s7, w7, lu, fun H8 s8 => ?_⟩
        have s78 := s7.trans s8
        refine ⟨_, rfl, rfl, _, rfl, ?_⟩
        rw [nu, decide_eq_true rfl]
        refine iteF ?_
        refine ⟨_, rfl, a, vi o, rfl, .inr (ha5.keep s78).sq, _, rfl, o.length, p7, u, (by rw [vi_len]; rfl), h1, by omega, w7.keep s8, by omega, lu.places, fun H9 p9 s9 w9 => ?_⟩
        have s79 := s78.trans s9
        refine ⟨_, rfl, ne_tups (ns := ci (run (List.range o.length) u)) (ms := ci o) w9.sq (ha5.keep s79).sq ⟨_, rfl, ?_⟩⟩
        rw [(lu.made od).1, decide_eq_true rfl]
        refine iteF ?_
        refine ⟨_, rfl, a, vi o, rfl, .inr (ha5.keep s79).sq, _, rfl, o.length, p7, u, (by rw [vi_len]; rfl), h1, by omega, (w7.keep s8).keep s9, by omega, lu.places, lu.up od, fun H10 s10 => ⟨true, rfl, iteF ?_⟩⟩
        have s710 := s79.trans s10
        have g10 := s710 _ _ g5
        refine ⟨_, rfl, .inl ⟨rfl, _, .of g10⟩, _, rfl, g, _, _, rfl, rfl, g10, small_line' ?_, ?_⟩
        · have e := congrArg List.length mT
          rw [List.length_map, List.length_take] at e
          rw [List.length_map]
          omega
        · obtain ⟨n1, n2⟩ := pen.free hg
          refine ⟨T ++ [(p7, u)], _, _, _, rfl, SameX.put hg (k5.trans (SameX.of s710)), (pen5.keep s710).other n1 n2, ?_, ?_, fun t ht => ?_, ?_⟩
          · rw [upd_ne ngp6.symm]
            exact s710 _ _ e5
          · rw [List.map_append]
            exact upd_same
          · rcases List.mem_append.mp ht with ht | ht
            · exact ⟨wt_upd g10 ((wT t ht).1.keep s710), (wT t ht).2⟩
            · rw [List.mem_singleton.mp ht]
              exact ⟨wt_upd g10 (((w7.keep s8).keep s9).keep s10), lu⟩
          · rw [List.map_append, mT, List.take_add_one, hk]
            show _ ++ [((sNum o u : Nat) : Int)] = _
            rw [nu]
            rfl
      · rintro σ H5 ⟨T, z5, z6, z7, rfl, k5, pen5, e5, g5, wT, mT⟩
        rw [List.length_map, List.take_length] at mT
        have hTn : T.length = ns.length := by
          have e := congrArg List.length mT
          rw [List.length_map] at e
          exact e
        have hnl : ns.length ≤ 2 := by omega
        have ha5 := ha.keepN hap k5
        refine ⟨_, rfl, g, _, rfl, .inl (.of g5), 1, (T.length : Int), (by rw [List.length_map]), ⟨by omega, by omega, by omega, by omega⟩, fun D2 nD2 => ?_⟩
        rw [show ((T.length : Int) - 1).toNat = T.length - 1 by omega]
        refine lc_range (lo := 1) (n := T.length - 1) (lcP H5 D2 fun _ => []) (lcP0 nD2 rfl) ?_ ?_
        · rintro i H6 hi ⟨s6, e6⟩
          have gi : T[i]? = some T[i] := List.getElem?_eq_getElem (by omega)
          have gj : T[i + 1]? = some T[i + 1] := List.getElem?_eq_getElem (by omega)
          have ni : ((sNum o T[i].2 : Nat) : Int) = ns[i] := by
            have e : (T.map fun t => ((sNum o t.2 : Nat) : Int))[i]? = some ((sNum o T[i].2 : Nat) : Int) := by rw [List.getElem?_map, gi]; rfl
            rw [mT, List.getElem?_eq_getElem (by omega)] at e
            exact (Option.some.inj e).symm
          have nj : ((sNum o T[i + 1].2 : Nat) : Int) = ns[i + 1] := by
            have e : (T.map fun t => ((sNum o t.2 : Nat) : Int))[i + 1]? = some ((sNum o T[i + 1].2 : Nat) : Int) := by rw [List.getElem?_map, gj]; rfl
            rw [mT, List.getElem?_eq_getElem (by omega)] at e
            exact (Option.some.inj e).symm
          have hlt : ns[i] < ns[i + 1] := List.pairwise_iff_getElem.mp pw i (i + 1) (by omega) (by omega) (by omega)
          have wi := wT T[i] (List.mem_of_getElem? gi)
          have wj := wT T[i + 1] (List.mem_of_getElem? gj)
          have hlex := lex_lt (sNum_rises od wi.2 wj.2 (by omega))
          have g6 := s6 _ _ g5
          have ri : (T.map fun t => V.ref t.1)[i]? = some (V.ref T[i].1) := by rw [List.getElem?_map, gi]; rfl
          have rj : (T.map fun t => V.ref t.1)[i + 1]? = some (V.ref T[i + 1].1) := by rw [List.getElem?_map, gj]; rfl
          refine ⟨rfl, ?_⟩
          have ai : atI (T.map fun t => V.ref t.1) ((1 : Int) + (i : Int) - 1) = some (V.ref T[i].1) := by
            rw [show (1 : Int) + (i : Int) - 1 = (i : Int) by omega]
            exact atI_nat (j := i) ri
          have aj : atI (T.map fun t => V.ref t.1) ((1 : Int) + (i : Int)) = some (V.ref T[i + 1].1) := by
            rw [show (1 : Int) + (i : Int) = ((i + 1 : Nat) : Int) by omega]
            exact atI_nat (j := i + 1) rj
          refine ⟨_, rfl, _, rfl, _, _, rfl, rfl, g, _, _, _, rfl, rfl, .of g6, ai, ?_⟩
          refine ⟨_, rfl, _, rfl, g, _, _, _, rfl, rfl, .of g6, aj, ?_⟩
          refine ⟨_, _, ci T[i].2, ci T[i + 1].2, rfl, rfl, (wi.1.keep s6).sq, (wj.1.keep s6).sq, _, rfl, ?_⟩
          rw [hlex]
          exact iteF (lcP_skip s6 e6 rfl)
        · rintro H6 ⟨s6, e6⟩
          refine ⟨by show 0 ≤ sizeLine; exact Nat.zero_le _, fun e ne => ne_lsts (ns := []) (ms := []) (.of (same_upd ne _ _ e6)) (.of upd_same) ⟨_, rfl, ?_⟩⟩
          rw [decide_eq_true rfl]
          refine iteF ?_
          have s7 := s6.trans (same_upd (o := .lst []) ne)
          have ha7 := ha5.keep s7
          have k7 := k5.trans (SameX.of s7)
          refine ⟨_, rfl, _, rfl, p, c, a, o, s0 + 2, rfl, pen5.keep s7, by omega, od, h2, ha7.wt, fun H8 q8 u k8 pen8 w8 lu => ?_⟩
          have ha8 := ha7.keepN hap k8
          refine ⟨_, rfl, _, rfl, _, rfl, a, q8, o, u, rfl, od, h1, h2, ha8, w8, lu, fun H9 s9 => ?_⟩
          refine ⟨a, o, sNum o u, rfl, od, h1, h2, ha8.keep s9, sNum_lt od lu, fun H10 p10 v s10 w10 lv nv => ?_⟩
          have ev : v = u := sNum_inj od lv lu nv
          subst ev
          refine ⟨_, rfl, eq_tups (ns := ci v) (ms := ci v) w10.sq ((w8.keep s9).keep s10).sq ?_⟩
          rw [decide_eq_true rfl]
          exact q H10 ((k7.trans k8).trans (SameX.of (s9.trans s10))) ((pen8.keep (s9.trans s10)).more (by omega))
end
end PmW
/-! _law_first_right. -/
namespace PmW
open PySem PySem.Spec PyProof.Rows L2 PmR PM
theorem first_by {n k : Nat} (hk : k + 1 < n) : (List.range n).take k ++ [k + 1, k] ++ (List.range n).drop (k + 2) = sp k (List.range n) := by
  rw [sp_eq k (List.range n) k (k + 1) (by rw [List.getElem?_range (by omega)]) (by rw [List.getElem?_range hk])]
theorem und_first {n k : Nat} (hk : k + 1 < n) : und (sp k (List.range n)) = sv k (List.range n) := by
  rw [und_sp (range_ord n) (by rw [List.length_range]; exact hk), und_range]
theorem joined_first {o : List Nat} (od : Ord o) {k : Nat} : o.map (fun x => (sv k (List.range o.length)).getD x 0) = sv k o := by
  unfold sv
  refine List.map_congr_left fun x hx => ?_
  have hx' := od.lt x hx
  refine getD_of ?_
  rw [List.getElem?_map, List.getElem?_range hx']
  rfl
section
variable {P : Program} {w : World} {K : PySem.W.Frag} {mg : Str → Option Value} {base : Heap}
def spFirstRight : Sp := fun vs H Q _ => ∃ (a : Addr) (o : List Nat), vs = [.ref a] ∧ Ord o ∧ 1 ≤ o.length ∧ o.length ≤ 7 ∧ Ot H a o ∧ ∀ H', Same H H' → Q (.bl true) H'
theorem scFR : FnScope ["_law_order", "_law_size", "_law_begun", "_law_left", "_law_spot", "_law_first", "_law_one"] ["_law_order"] (defScope sFirstRight) := ⟨rfl, rfl, rfl, by decide +kernel, rfl, by decide +kernel, by decide +kernel⟩
theorem ok_firstRight {f fMS fJ fU : Addr} {fd fdMS fdJ fdU : FuncData} (D : Dn K mg "_law_first_right" sFirstRight ["_law_order"] f fd) (B : Bl mg)
    (MS : Df P w K mg base "many_short" sManyShort ["order"] 53 spManyShort fMS fdMS) (JO : Df P w K mg base "joined" sJoined ["one", "other"] 4 spJoined fJ fdJ) (UN : Df P w K mg base "undone" sUndone ["order"] 4 spUndone fU fdU) :
    FnOk P w K mg base CX0 54 f fd ["_law_order"] spFirstRight := by
  refine D.F.ok scFR (fun vs H Q E h => ?_) (fun cdv A outer s H vs Q E hr h => ?_)
  · obtain ⟨a, o, rfl, _⟩ := h
    rfl
  · obtain ⟨a, o, rfl, od, h1, h2, ha, q⟩ := h
    refine ⟨_, pss_cons (ps_par (i := 1) (j := 2) rfl scFR.nd rfl rfl (by decide) rfl rfl (pa_cons (pe_callB call_len_seq (by rfl) B.len PySem.boot_len (pa_cons (pv 0) pa_nil)) (pa_cons (pe_tupRgF rfl (by rfl) B.tuple (prg_1 (by rfl) B.range (pe_callB call_len_seq (by rfl) B.len PySem.boot_len (pa_cons (pv 0) pa_nil)))) pa_nil)) (by rfl))
      (pss_cons (ps_set (i := 3) scFR.nd rfl (.inl rfl) (pe_lst pa_nil))
      (pss_cons (ps_for PassesOwn.never rfl (pi_range1 (by rfl) B.range (pa_cons (pe_op op_sub (pv 1) pe_int) pa_nil)) (pg_name (i := 4) scFR.nd rfl (.inl rfl))
        (pss_one (ps_if (pt_cmpR op_lt (pe_ix_ (pv 0) (pa_cons (pe_op op_add (pv 4) pe_int) pa_nil)) (pe_ix_ (pv 0) (pa_cons (pv 4) pa_nil)) (nomark _))
          (pss_cons (ps_set (i := 5) scFR.nd rfl (.inl rfl) (pe_op op_catF (pe_op op_catF (pe_slice sl_tupF (pv 2) po_none (po_some (pv 4))) (pe_tupF (pa_cons (pe_op op_add (pv 4) pe_int) (pa_cons (pv 4) pa_nil)))) (pe_slice sl_tupF (pv 2) (po_some (pe_op op_add (pv 4) pe_int)) po_none)))
          (pss_one (ps_expr (pe_bm PySem.F.plainAttrs_list PySem.F.slot_list_append PySem.F.type_list_append mt_append (pv 3) (pa_cons (pe_call JO.ok (hr.mono (by decide)) (by rfl) JO.D.g JO.D.kp JO.D.b .nil pass0 (pa_cons (pe_call UN.ok (hr.mono (by decide)) (by rfl) UN.D.g UN.D.kp UN.D.b .nil pass0 (pa_cons (pv 5) pa_nil)) (pa_cons (pv 0) pa_nil))) pa_nil))))) pss_nil)))
      (pss_one (ps_ret (pe_or (pe_cmpR (op_eqD hr.units) (pv 0) (pv 2) (nomark _)) (pe_one (pe_cmpR op_eq (pe_callB (cr_sum rfl) (by rfl) B.sum (by decide +kernel) (pa_cons
        (pe_lc (own := [("_law_one", 6)]) (g := gName 6) (tt := tYes) rfl scFR.nd (pi_list (pv 3)) (blkOk_by (N := ["_law_order", "_law_size", "_law_begun", "_law_left", "_law_spot", "_law_first", "_law_one"]) (sc := defScope sFirstRight) (by decide +kernel)) (fun _ _ _ _ _ => pg_name (i := 6) scFR.nd rfl (Or.inl rfl)) (fun _ _ _ _ _ => pts_nil)
          (fun _ _ _ _ _ => pe_call MS.ok hr (by rfl) MS.D.g MS.D.kp MS.D.b .nil pass0 (pa_cons (pv 6) pa_nil))) pa_nil)) (pe_call MS.ok hr (by rfl) MS.D.g MS.D.kp MS.D.b .nil pass0 (pa_cons (pv 0) pa_nil)) (nomark _)))))))), ?_⟩
    refine ⟨_, rfl, a, vi o, rfl, .inr ha.sq, _, rfl, a, vi o, rfl, .inr ha.sq, (o.length : Int), (by rw [vi_len]), RgOk.of_le (by decide) (by omega) (by decide) (by omega), fun H1 b s1 hb => ⟨_, _, rfl, ?_⟩⟩
    rw [rg_vi] at hb
    refine ⟨by show 0 ≤ sizeLine; exact Nat.zero_le _, fun g ng => ?_⟩
    have hg : H g = none := s1.free ng
    have s2 : Same H (upd H1 g (.lst [])) := s1.trans (same_upd ng)
    have hb2 := hb.keep (same_upd (o := .lst []) ng)
    have g2 : upd H1 g (.lst []) g = some (.lst []) := upd_same
    revert s2 hb2 g2
    generalize upd H1 g (.lst []) = H2
    intro s2 hb2 g2
    refine ⟨_, rfl, _, _, rfl, rfl, (o.length : Int) - 1, (by rw [vi_len]), by omega, by omega, ?_⟩
    rw [show ((o.length : Int) - 1).toNat = o.length - 1 by omega, vi_len]
    refine for_range (lo := 0) (n := o.length - 1) (fun i σ H3 => ∃ (T : List (Addr × List Nat)) (z4 z5 z6 : Option V), σ = [some (.ref a), some (.int (o.length : Int)), some (.ref b), some (.ref g), z4, z5, z6] ∧ Same H H3 ∧ Ot H3 b (List.range o.length) ∧
      H3 g = some (.lst (T.map fun t => V.ref t.1)) ∧ (∀ t ∈ T, Ot H3 t.1 t.2) ∧ T.map (·.2) = ((List.range i).filter fun k => decide (o.idxOf (k + 1) < o.idxOf k)).map fun k => sv k o)
      ⟨[], _, _, _, rfl, s2, hb2, g2, (fun t ht => absurd ht List.not_mem_nil), rfl⟩ ?_ ?_
    · rintro i σ H3 hi ⟨T, z4, z5, z6, rfl, s3, b3, g3, wT, mT⟩
      have hs := filter_succ (fun k => decide (o.idxOf (k + 1) < o.idxOf k)) i
      have hfl := filter_len (fun k => decide (o.idxOf (k + 1) < o.idxOf k)) i
      rw [Int.zero_add]
      refine ⟨_, rfl, a, o, rfl, ha.keep s3, _, rfl, _, _, rfl, rfl, i + 1, rfl, ha.keep s3, od.has (by omega), ?_⟩
      refine ⟨_, rfl, a, o, rfl, ha.keep s3, _, rfl, i, rfl, ha.keep s3, od.has (by omega), ?_⟩
      refine ⟨_, _, rfl, rfl, _, rfl, ?_⟩
      by_cases c : o.idxOf (i + 1) < o.idxOf i
      · rw [if_pos (decide_eq_true c)] at hs
        rw [decide_eq_true (show ((o.idxOf (i + 1) : Nat) : Int) < (o.idxOf i : Nat) by omega)]
        refine iteT ⟨_, rfl, ?_⟩
        dsimp only [tNoPart]
        refine ⟨_, rfl, _, rfl, b, _, rfl, b3, fun H4 p4 s4 e4 => ?_⟩
        rw [cut_head, vi_take] at e4
        refine ⟨_, rfl, _, _, rfl, rfl, _, rfl, by show 2 ≤ sizeLine; exact small_line (by decide), fun H5 p5 s5 n5 e5 => ?_⟩
        refine ⟨p4, p5, _, _, rfl, rfl, e4.keep s5, e5, small_line (by rw [vi_len, List.length_take]; show _ + 2 ≤ _; omega), fun H6 p6 s6 e6 => ?_⟩
        have s36 := (s4.trans s5).trans s6
        refine ⟨_, rfl, _, rfl, _, _, rfl, rfl, _, rfl, ?_⟩
        dsimp only [tNoPart]
        refine ⟨b, _, rfl, b3.keep s36, fun H7 p7 s7 e7 => ?_⟩
        rw [show ((i : Int) + 2) = ((i + 2 : Nat) : Int) by omega, cut_tail, vi_drop] at e7
        refine ⟨p6, p7, _, _, rfl, rfl, e6.keep s7, e7, small_line (by rw [List.length_append, vi_len, vi_len, List.length_take, List.length_drop, List.length_range]; show _ + 2 + _ ≤ _; omega), fun H8 p8 s8 e8 => ?_⟩
        have s38 := (s36.trans s7).trans s8
        have f8 : Ot H8 p8 (sp i (List.range o.length)) := e8.eq (by
          rw [← first_by (by omega), vi_append, vi_append]
          rfl)
        refine ⟨_, rfl, .inl ⟨rfl, _, .of (s38 _ _ g3)⟩, _, rfl, p8, _, rfl, (range_ord _).sp i, by rw [sp_len, List.length_range]; exact h1, by rw [sp_len, List.length_range]; omega, f8, fun H9 p9 s9 e9 => ?_⟩
        rw [und_first (by omega)] at e9
        have s39 := s38.trans s9
        refine ⟨_, rfl, p9, a, _, o, rfl, (range_ord _).sv (by rw [List.length_range]; omega), od, by rw [sv_len, List.length_range]; exact h1, by rw [sv_len, List.length_range]; omega, by rw [sv_len, List.length_range], e9.wt, ((ha.keep s3).keep s39).wt, fun H10 p10 s10 e10 => ?_⟩
        rw [joined_first od] at e10
        have s310 := s39.trans s10
        have g10 := s310 _ _ g3
        refine ⟨g, _, _, rfl, rfl, g10, small_line' ?_, T ++ [(p10, sv i o)], _, _, _, rfl, same_put hg (s3.trans s310), ft_upd g10 (b3.keep s310), ?_, fun t ht => ?_, ?_⟩
        · have e := congrArg List.length mT
          rw [List.length_map, List.length_map] at e
          rw [List.length_map]
          omega
        · rw [List.map_append]
          exact upd_same
        · rcases List.mem_append.mp ht with ht | ht
          · exact ft_upd g10 ((wT t ht).keep s310)
          · rw [List.mem_singleton.mp ht]
            exact ft_upd g10 e10
        · rw [hs, List.map_append, List.map_append, mT]
          rfl
      · rw [if_neg (by rw [decide_eq_false c]; decide)] at hs
        rw [decide_eq_false (show ¬ ((o.idxOf (i + 1) : Nat) : Int) < (o.idxOf i : Nat) by omega)]
        refine iteF ⟨T, _, _, _, rfl, s3, b3, g3, wT, ?_⟩
        rw [hs]
        exact mT
    · rintro σ H3 ⟨T, z4, z5, z6, rfl, s3, b3, g3, wT, mT⟩
      refine ⟨_, rfl, _, rfl, eq_tups (ns := ci o) (ms := ci (List.range o.length)) (ha.keep s3).sq b3.sq ⟨_, rfl, ?_⟩⟩
      by_cases hE : o = List.range o.length
      · rw [decide_eq_true (by rw [← hE])]
        exact iteT (q H3 s3)
      · rw [decide_eq_false (fun z => hE (ci_inj z))]
        refine iteF ?_
        have hne : firsts o ≠ [] := fun z => hE ((firsts_nil_iff od).mp z)
        have hTl : T.length ≤ 7 := by
          have e := congrArg List.length mT
          rw [List.length_map, List.length_map] at e
          have hfl := filter_len (fun k => decide (o.idxOf (k + 1) < o.idxOf k)) (o.length - 1)
          omega
        refine ⟨_, rfl, g, rfl, ⟨_, .of g3⟩, fun D nD => ?_⟩
        refine lc_list (xs := T.map fun t => V.ref t.1) (lcP H3 D fun i => vi ((T.take i).map fun t => many t.2)) (lcP0 nD rfl) (fun i H4 _ p => .of (p.1 _ _ g3)) ?_ ?_
        · rintro i x H4 hx ⟨s4, e4⟩
          rw [List.getElem?_map] at hx
          obtain ⟨t, ht, rfl⟩ : ∃ t, T[i]? = some t ∧ x = V.ref t.1 := by
            cases e : T[i]? with
            | none =>
              rw [e] at hx
              cases hx
            | some t =>
              rw [e] at hx
              exact ⟨t, rfl, (Option.some.inj hx).symm⟩
          have mt := List.mem_of_getElem? ht
          have hmem : t.2 ∈ T.map (·.2) := List.mem_map.mpr ⟨t, mt, rfl⟩
          rw [mT] at hmem
          obtain ⟨k, hk, ek⟩ := List.mem_map.mp hmem
          have hk1 := List.mem_range.mp (List.mem_filter.mp hk).1
          refine ⟨rfl, ?_⟩
          refine ⟨_, rfl, t.1, t.2, rfl, by rw [← ek]; exact od.sv (by omega), by rw [← ek, sv_len]; exact h1, by rw [← ek, sv_len]; exact h2, (wT t mt).keep s4, fun H5 s5 => ?_⟩
          refine lcP_put nD (s4.trans s5) (s5 _ _ e4) ?_ ?_
          · rw [vi_len, List.length_map, List.length_take]
            omega
          · rw [List.take_add_one, ht, List.map_append, vi_append]
            rfl
        · rintro H4 ⟨s4, e4⟩
          rw [List.length_map] at e4
          dsimp only at e4
          rw [List.take_length] at e4
          refine ⟨D, _, rfl, .of e4, _, rfl, a, o, rfl, od, h1, h2, (ha.keep s3).keep s4, fun H5 s5 => ⟨rfl, ?_⟩⟩
          have esum : (T.map fun t => many t.2).sum = many o := by
            rw [many_sum od hne]
            have e : (T.map fun t => many t.2) = (T.map (·.2)).map many := by rw [List.map_map]; rfl
            rw [e, mT, List.map_map]
            rfl
          rw [sum_ci, esum, decide_eq_true rfl]
          exact q H5 ((s3.trans s4).trans s5)
end
end PmW
/-! What is refused: more than seven. -/
namespace PmW
open PySem PySem.Spec PyProof.Rows L2 PmR PM
/-- the class of the refusal -/
structure Tm (K : PySem.W.Frag) (mg : Str → Option Value) (C fI : Addr) : Prop where
  ae : AeC K C
  kept : KeptC K C
  gC : mg "TooMany" = some (.ref C)
  iC : PySem.W.findIn K (.ref C) "__init__" = some (some (.ref fI))
  tI : PySem.W.typeIn K (.ref fI) = some (.type "function")
  nM : PySem.W.findIn K (.ref C) "most" = some none
  te : PySem.W.exmOne K (.ref C) (.ref C) = some true
  vV : PySem.W.findCls K (.type "ArithmeticError") (.type "type") "__init__" = some (.val (.builtin "ArithmeticError.__init__"))
section
variable {P : Program} {w : World} {K : PySem.W.Frag} {mg : Str → Option Value} {base : Heap}
/-! ### copied, of a number -/
def spCopied : Sp := fun vs H Q _ => ∃ i : Int, vs = [.int i] ∧ Q (.int i) H
theorem scCopied : FnScope ["thing"] ["thing"] (defScope sCopied) := ⟨rfl, rfl, rfl, by decide +kernel, rfl, by decide +kernel, by decide +kernel⟩
theorem ok_copied {f : Addr} {fd : FuncData} (D : Dn K mg "copied" sCopied ["thing"] f fd) (B : Bl mg) : FnOk P w K mg base CX0 1 f fd ["thing"] spCopied := by
  refine D.F.ok scCopied (fun vs H Q E h => ?_) (fun cdv A outer s H vs Q E hr h => ?_)
  · obtain ⟨i, rfl, _⟩ := h
    rfl
  · obtain ⟨i, rfl, q⟩ := h
    refine ⟨_, pss_cons (ps_if (pt_val (pe_callB call_isi (by rfl) B.isi (by decide +kernel) (pa_cons (pv 0) (pa_cons (pe_bltn (v := .ty "list") (by rfl) B.list boot_list rfl) pa_nil)))) (pss_one ps_never) pss_nil)
      (pss_cons (ps_if (pt_val (pe_callB call_isi (by rfl) B.isi (by decide +kernel) (pa_cons (pv 0) (pa_cons (pe_bltn (v := .ty "tuple") (by rfl) B.tuple boot_tuple rfl) pa_nil)))) (pss_one ps_never) pss_nil)
      (pss_cons (ps_if (pt_val (pe_callB call_isi (by rfl) B.isi (by decide +kernel) (pa_cons (pv 0) (pa_cons (pe_bltn (v := .ty "dict") (by rfl) B.dict (by decide +kernel) rfl) pa_nil)))) (pss_one ps_never) pss_nil)
      (pss_one (ps_ret (pv 0))))), ?_⟩
    refine ⟨_, rfl, _, _, _, _, false, rfl, .ty "list", .base (.int _), kit_ty (by decide +kernel), false, rfl, iteF ?_⟩
    refine ⟨_, rfl, _, _, _, _, false, rfl, .ty "tuple", .base (.int _), kit_ty (by decide +kernel), false, rfl, iteF ?_⟩
    refine ⟨_, rfl, _, _, _, _, false, rfl, .ty "dict", .base (.int _), kit_ty (by decide +kernel), false, rfl, iteF ?_⟩
    exact ⟨_, rfl, q⟩
/-! ### TooMany.__init__ -/
def spTmI (C : Addr) : Sp := fun vs H Q _ => ∃ (a : Addr) (i : Int), vs = [.ref a, .int i] ∧ H a = some (exo a C none) ∧ ∀ dx, H dx = none → dx ≠ a → Q .non (upd (upd H dx (exd dx [("most", .int i)])) a (exo a C (some dx)))
theorem scTmI : FnScope ["self", "most"] ["self", "most"] (defScope sTooManyI) := ⟨rfl, rfl, rfl, by decide +kernel, rfl, by decide +kernel, by decide +kernel⟩
theorem ok_tmI {f C fC : Addr} {fd fdC : FuncData} (F : Fun K "__init__" "TooMany.__init__" sTooManyI f fd) (B : Bl mg) (T : Tm K mg C f) (CP : Df P w K mg base "copied" sCopied ["thing"] 1 spCopied fC fdC) : FnOk P w K mg base CX0 2 f fd ["self", "most"] (spTmI C) := by
  refine F.ok scTmI (fun vs H Q E h => ?_) (fun cdv A outer s H vs Q E hr h => ?_)
  · obtain ⟨a, i, rfl, _⟩ := h
    rfl
  · obtain ⟨a, i, rfl, ha, q⟩ := h
    refine ⟨_, pss_cons (ps_expr (pe_aeI (by rfl) B.ae T.vV (pa_cons (pv 0) (pa_cons pe_str pa_nil))))
      (pss_one (ps_aeF (pv 0) (pe_call CP.ok hr (by rfl) CP.D.g CP.D.kp CP.D.b .nil pass0 (pa_cons (pv 1) pa_nil)))), ?_⟩
    refine ⟨_, rfl, a, C, _, rfl, by show 1 ≤ 1000; decide, T.ae, ha, ?_⟩
    refine ⟨_, rfl, i, rfl, _, rfl, a, C, rfl, T.ae, T.nM, ha, fun dx n ne => ?_⟩
    exact q dx n ne
/-! ### need_few refuses -/
def spNeedFewX (C : Addr) : Sp := fun vs H Q E => ∃ (a : Addr) (o : List Nat), vs = [.ref a] ∧ Ord o ∧ 8 ≤ o.length ∧ o.length ≤ 60 ∧ Ls H a o ∧ ∀ H' d, Same H H' → H' d = some (.xd [("most", .int 7)]) → E (.ref C) (some d) H'
theorem ok_needFewX {f fN C fI : Addr} {fd fdN fdI : FuncData} (D : Dn K mg "need_few" sNeedFew ["order"] f fd) (B : Bl mg) (N : No P w K mg base fN fdN) (T : Tm K mg C fI) (bI : Binds K fdI ["self", "most"] []) (GI : FnOk P w K mg base CX0 2 fI fdI ["self", "most"] (spTmI C)) :
    FnOk P w K mg base (L2.CX P w) 4 f fd ["order"] (spNeedFewX C) := by
  obtain ⟨tF, gF⟩ := B.FEW
  refine D.F.okX scNeedFew (fun vs H Q E h => ?_) (fun cdv A outer s H vs Q E hr h => ?_)
  · obtain ⟨a, o, rfl, _⟩ := h
    rfl
  · obtain ⟨a, o, rfl, od, h1, h2, ha, q⟩ := h
    refine ⟨_, pss_cons (ps_set (i := 1) scNeedFew.nd rfl (.inl rfl) (pe_call N.ok hr (by rfl) N.D.g N.D.kp N.D.b .nil pass0 (pa_cons (pv 0) pa_nil)))
      (pss_cons (ps_if (pt_cmpR op_gt (pe_callB call_len_seq (by rfl) B.len PySem.boot_len (pa_cons (pv 1) pa_nil)) (pe_glob (v := .int 7) (by rfl) gF ⟨_, rfl⟩) (nomark _))
        (pss_one (ps_raise rfl (takes_of rfl rfl rfl rfl) (pmk_ae T.ae T.iC T.tI GI hr bI .nil pass0 (by rfl) T.gC (pa_cons (pe_glob (v := .int 7) (by rfl) gF ⟨_, rfl⟩) pa_nil)))) pss_nil)
      (pss_one (ps_ret (pv 1)))), ?_⟩
    refine ⟨_, rfl, a, o, rfl, od, by omega, by omega, .inr ⟨ha, fun H1 p1 s1 e1 => ?_⟩⟩
    refine ⟨_, rfl, p1, vi o, rfl, .inr e1.sq, _, _, rfl, rfl, _, rfl, ?_⟩
    rw [vi_len, decide_eq_true (by omega)]
    refine iteT ?_
    refine ⟨by show 1 ≤ 1000; decide, fun b nb => ⟨b, 7, rfl, upd_same, fun dx n ne => ⟨rfl, dx, [("most", V.int 7)], upd_same, ?_, ?_, ?_⟩⟩⟩
    · rw [upd_ne ne]
      exact upd_same
    · rw [upd_ne ne] at n
      exact n
    · refine q _ dx (fun c y e => ?_) upd_same
      have e1' := s1 _ _ e
      have cb : c ≠ b := ne_of_none e1' nb
      have n1 : H1 dx = none := by
        rw [upd_ne ne] at n
        exact n
      have cd : c ≠ dx := ne_of_none e1' n1
      rw [upd_ne cd, del_ne cb, upd_ne cb, upd_ne cd, upd_ne cb]
      exact e1'
/-! ### many_short refuses -/
def spManyShortX (C : Addr) : Sp := fun vs H Q E => ∃ (a : Addr) (o : List Nat), vs = [.ref a] ∧ Ord o ∧ 8 ≤ o.length ∧ o.length ≤ 60 ∧ Ls H a o ∧ ∀ H' d, Same H H' → H' d = some (.xd [("most", .int 7)]) → E (.ref C) (some d) H'
theorem ok_manyShortX {f fN C CT fI fM : Addr} {fd fdN fdI fdM : FuncData} (D : Dn K mg "many_short" sManyShort ["order"] f fd) (B : Bl mg) (DN : Dn K mg "need_few" sNeedFew ["order"] fN fdN) (N : FnOk P w K mg base (L2.CX P w) 4 fN fdN ["order"] (spNeedFewX CT)) (Y : Cc P w K mg base C fI fM fdI fdM) :
    FnOk P w K mg base (L2.CX P w) 53 f fd ["order"] (spManyShortX CT) := by
  refine D.F.okX scManyShort (fun vs H Q E h => ?_) (fun cdv A outer s H vs Q E hr h => ?_)
  · obtain ⟨a, o, rfl, _⟩ := h
    rfl
  · obtain ⟨a, o, rfl, od, h1, h2, ha, q⟩ := h
    refine ⟨_, pss_one (ps_ret (pe_meth (pe_make0 Y.M Y.GI (hr.mono (by decide)) (by rfl) Y.T.mgC Y.bI .nil pass0) Y.T.cl Y.mM Y.GM hr Y.bM .nil pass0
      (pa_cons (pe_call (E := E) N (hr.mono (by decide)) (by rfl) DN.g DN.kp DN.b .nil (passes_call (takes_of rfl rfl rfl rfl) (fun _ _ _ _ h => h)) (pa_cons (pv 0) pa_nil)) pa_nil) (ht := mcall_of (abase_call (by decide +kernel)) fun _ => rfl))), ?_⟩
    intro x dx nx ndx nex
    refine ⟨x, dx, rfl, upd_same, fun d H1 fd0 c1 kp => ⟨rfl, ?_⟩⟩
    obtain ⟨s1, nd⟩ := made_counter nx ndx fd0 kp
    obtain ⟨⟨dx1, h11⟩, _⟩ := id c1
    refine ⟨x, dx1, _, rfl, h11, rfl, ?_⟩
    exact ⟨_, rfl, a, o, rfl, od, h1, h2, ha.keep s1, fun H2 d2 s2 e2 => q H2 d2 (s1.trans s2) e2⟩
/-! ### _law_is_refused -/
def spRefused : Sp := fun vs H Q _ => ∃ (a : Addr) (o : List Nat), vs = [.ref a] ∧ Ord o ∧ 8 ≤ o.length ∧ o.length ≤ 60 ∧ Ls H a o ∧ ∀ H', Q (.bl true) H'
theorem scRefused : FnScope ["_law_order", "_law_caught", "e"] ["_law_order"] (defScope sIsRefused) := ⟨rfl, rfl, rfl, by decide +kernel, rfl, by decide +kernel, by decide +kernel⟩
theorem ok_refused {f fMX C fI CL : Addr} {fd fdMX : FuncData} (D : Dn K mg "_law_is_refused" sIsRefused ["_law_order"] f fd) (B : Bl mg) (T : Tm K mg C fI) (DM : Dn K mg "many_short" sManyShort ["order"] fMX fdMX) (MX : FnOk P w K mg base (L2.CX P w) 53 fMX fdMX ["order"] (spManyShortX C))
    (gL : mg "TooLong" = some (.ref CL)) (kL : PySem.W.kitOne K (.ref C) (.ref CL) = some false) : FnOk P w K mg base CX0 54 f fd ["_law_order"] spRefused := by
  refine D.F.ok scRefused (fun vs H Q E h => ?_) (fun cdv A outer s H vs Q E hr h => ?_)
  · obtain ⟨a, o, rfl, _⟩ := h
    rfl
  · obtain ⟨a, o, rfl, od, h1, h2, ha, q⟩ := h
    refine ⟨_, pss_cons (ps_set (i := 1) scRefused.nd rfl (.inl rfl) pe_non)
      (pss_cons (ps_try_keep (i := 2) (j := 1) (c := .ref C) (tb := fun W => tDrop (tCallS (spManyShortX C) (WE W) (tCons (tVar 0) tNil))) rfl rfl rfl scRefused.nd rfl rfl (by decide) rfl rfl ⟨rfl, by decide, .inl T.gC⟩ (by decide) (by decide)
        (fun W pn xe tk _ => pss_one (ps_expr (by exact (pe_callS MX hr rfl DM.g DM.kp DM.b (fun σ => passAt tk σ) (by exact (pa_cons (pv 0) pa_nil)))))) (fun Y e => rfl))
      (pss_one (ps_ret (pe_and (pe_cmp (pc_notN (pv 1))) (pe_and (pe_cmpR op_eq (pe_keptF (pv 1)) pe_int (nomark _)) (pe_one (pe_not (pe_callB call_isKept (by rfl) B.isi (by decide +kernel) (pa_cons (pv 1) (pa_cons (pe_glob (v := .ref CL) (by rfl) gL rfl) pa_nil)))))))))), ?_⟩
    refine ⟨_, rfl, a, o, rfl, od, h1, h2, ha, fun H2 d s2 e2 => ⟨T.te, fun b nb => ?_⟩⟩
    have e3 : upd H2 b (KeptO b (.ref C) (some d)) d = some (.xd [("most", V.int 7)]) := same_upd nb _ _ e2
    refine ⟨_, rfl, _, rfl, ?_⟩
    refine ite2 (fun _ => ?_) (fun z => absurd (show (!decide (V.ref b = V.non)) = true from rfl) z)
    refine ⟨_, rfl, b, C, d, _, .int 7, rfl, upd_same, e3, T.kept, T.nM, rfl, rfl, _, rfl, ?_⟩
    rw [decide_eq_true rfl]
    refine iteT ⟨_, rfl, b, C, CL, d, _, false, rfl, upd_same, e3, T.kept, kL, _, rfl, ?_⟩
    exact q _
end
end PmW
/-! The law's def. -/
namespace PmW
open PySem PySem.Spec PyProof.Rows L2 PmR PM
section
variable {P : Program} {w : World} {K : PySem.W.Frag} {mg : Str → Option Value} {base : Heap}
def spLaw (K : PySem.W.Frag) : Sp := fun vs H Q _ => ∃ (a : Addr) (ns : List Int), vs = [.ref a] ∧ SqL K H a (ns.map V.int) ∧ ∀ H', Q (.bl true) H'
theorem scLaw : FnScope ["_law_script", "_law_pen_here", "_law_turn", "_law_order", "_law_many", "_law_word"] ["_law_script"] (defScope sLaw) := ⟨rfl, rfl, rfl, by decide +kernel, rfl, by decide +kernel, by decide +kernel⟩
theorem rg_vi' {i : Int} {n : Nat} (h : i = (n : Int)) : rgV 0 i = vi (List.range n) := by
  rw [h]
  exact rg_vi n
theorem ok_law {f fPN fD fSH fWR fFR fMS fUN fMI fSN fTF fSW fSA fRF : Addr} {fd fdPN fdD fdSH fdWR fdFR fdMS fdUN fdMI fdSN fdTF fdSW fdSA fdRF : FuncData} (D : Dn K mg "law" sLaw ["_law_script"] f fd) (B : Bl mg)
    (PN : Df P w K mg base "_law_pen" sPen ["_law_script"] 1 (spPen K) fPN fdPN) (DR : Dr P w K mg base fD fdD) (SH : Df P w K mg base "_law_shuffled" sShuffled ["_law_pen_here", "_law_some"] 2 spShuf fSH fdSH)
    (WR : Df P w K mg base "_law_words_right" sWordsRight ["_law_pen_here", "_law_order", "_law_most"] 54 spWordsRight fWR fdWR) (FR : Df P w K mg base "_law_first_right" sFirstRight ["_law_order"] 54 spFirstRight fFR fdFR)
    (MS : Df P w K mg base "many_short" sManyShort ["order"] 53 spManyShort fMS fdMS) (UN : Df P w K mg base "undone" sUndone ["order"] 4 spUndone fUN fdUN) (MI : Df P w K mg base "_law_mirrored" sMirrored ["_law_order"] 1 spMirror fMI fdMI)
    (SN : Df P w K mg base "short_number" sShortNumber ["order", "word"] 53 spShortNumber fSN fdSN) (TF : Df P w K mg base "told_form" sToldForm ["order"] 4 spTold fTF fdTF) (SW : Df P w K mg base "_law_short_word" sShortWord ["_law_pen_here", "_law_order"] 3 spShortWord fSW fdSW)
    (SA : Df P w K mg base "short_at" sShortAt ["order", "number"] 53 spShortAt fSA fdSA) (RF : Df P w K mg base "_law_is_refused" sIsRefused ["_law_order"] 54 spRefused fRF fdRF) :
    FnOk P w K mg base CX0 55 f fd ["_law_script"] (spLaw K) := by
  refine D.F.ok scLaw (fun vs H Q E h => ?_) (fun cdv A outer s H vs Q E hr h => ?_)
  · obtain ⟨a, ns, rfl, _⟩ := h
    rfl
  · obtain ⟨a, ns, rfl, ha, q⟩ := h
    refine ⟨_, pss_cons (ps_set (i := 1) scLaw.nd rfl (.inl rfl) (pe_call PN.ok (hr.mono (by decide)) (by rfl) PN.D.g PN.D.kp PN.D.b .nil pass0 (pa_cons (pv 0) pa_nil)))
      (pss_cons (ps_for PassesOwn.never rfl (pi_range1 (by rfl) B.range (pa_cons pe_int pa_nil)) (pg_name (i := 2) scLaw.nd rfl (.inl rfl))
        (pss_cons (ps_set (i := 3) scLaw.nd rfl (.inl rfl) (pe_tupleF (by rfl) B.tuple (pe_call SH.ok (hr.mono (by decide)) (by rfl) SH.D.g SH.D.kp SH.D.b .nil pass0 (pa_cons (pv 1) (pa_cons (pe_listRg rfl (by rfl) B.list (prg_1 (by rfl) B.range (pe_op op_add pe_int (pe_call DR.ok (hr.mono (by decide)) (by rfl) DR.D.g DR.D.kp DR.D.b .nil pass0 (pa_cons (pv 1) (pa_cons pe_int pa_nil)))))) pa_nil)))))
        (pss_cons (ps_if (PW.pt (pw_or (pt_not (pt_val (pe_call WR.ok hr (by rfl) WR.D.g WR.D.kp WR.D.b .nil pass0 (pa_cons (pv 1) (pa_cons (pv 3) (pa_cons pe_int pa_nil))))))
          (pw_or1 (pt_not (pt_val (pe_call FR.ok hr (by rfl) FR.D.g FR.D.kp FR.D.b .nil pass0 (pa_cons (pv 3) pa_nil))))))) (pss_one (ps_ret pe_bl)) pss_nil)
        (pss_cons (ps_set (i := 4) scLaw.nd rfl (.inl rfl) (pe_call MS.ok (hr.mono (by decide)) (by rfl) MS.D.g MS.D.kp MS.D.b .nil pass0 (pa_cons (pv 3) pa_nil)))
        (pss_cons (ps_if (PW.pt (pw_or (pt_cmpR op_ne (pe_call MS.ok (hr.mono (by decide)) (by rfl) MS.D.g MS.D.kp MS.D.b .nil pass0 (pa_cons (pe_call UN.ok (hr.mono (by decide)) (by rfl) UN.D.g UN.D.kp UN.D.b .nil pass0 (pa_cons (pv 3) pa_nil)) pa_nil)) (pv 4) (nomark _))
          (pw_or1 (pt_cmpR op_ne (pe_call MS.ok (hr.mono (by decide)) (by rfl) MS.D.g MS.D.kp MS.D.b .nil pass0 (pa_cons (pe_call MI.ok (hr.mono (by decide)) (by rfl) MI.D.g MI.D.kp MI.D.b .nil pass0 (pa_cons (pv 3) pa_nil)) pa_nil)) (pv 4) (nomark _))))) (pss_one (ps_ret pe_bl)) pss_nil)
        (pss_one (ps_if (pt_not (pt_chain op_le op_lt pe_int (pe_call SN.ok (hr.mono (by decide)) (by rfl) SN.D.g SN.D.kp SN.D.b .nil pass0 (pa_cons (pv 3) (pa_cons (pe_call TF.ok (hr.mono (by decide)) (by rfl) TF.D.g TF.D.kp TF.D.b .nil pass0 (pa_cons (pv 3) pa_nil)) pa_nil))) (pv 4))) (pss_one (ps_ret pe_bl)) pss_nil)))))))
      (pss_cons (ps_set (i := 3) scLaw.nd rfl (.inl rfl) (pe_tupleF (by rfl) B.tuple (pe_call SH.ok (hr.mono (by decide)) (by rfl) SH.D.g SH.D.kp SH.D.b .nil pass0 (pa_cons (pv 1) (pa_cons (pe_listRg rfl (by rfl) B.list (prg_1 (by rfl) B.range pe_int)) pa_nil)))))
      (pss_cons (ps_set (i := 5) scLaw.nd rfl (.inl rfl) (pe_call SW.ok (hr.mono (by decide)) (by rfl) SW.D.g SW.D.kp SW.D.b .nil pass0 (pa_cons (pv 1) (pa_cons (pv 3) pa_nil))))
      (pss_cons (ps_if (pt_cmpR (op_neD hr.units) (pe_call SA.ok (hr.mono (by decide)) (by rfl) SA.D.g SA.D.kp SA.D.b .nil pass0 (pa_cons (pv 3) (pa_cons (pe_call SN.ok (hr.mono (by decide)) (by rfl) SN.D.g SN.D.kp SN.D.b .nil pass0 (pa_cons (pv 3) (pa_cons (pv 5) pa_nil))) pa_nil))) (pv 5) (nomark _)) (pss_one (ps_ret pe_bl)) pss_nil)
      (pss_one (ps_ret (pe_call RF.ok hr (by rfl) RF.D.g RF.D.kp RF.D.b .nil pass0 (pa_cons (pe_listRg rfl (by rfl) B.list (prg_1 (by rfl) B.range (pe_op op_add pe_int (pe_call DR.ok (hr.mono (by decide)) (by rfl) DR.D.g DR.D.kp DR.D.b .nil pass0 (pa_cons (pv 1) (pa_cons pe_int pa_nil)))))) pa_nil)))))))), ?_⟩
    refine ⟨_, rfl, a, ns, rfl, ha, fun H1 p c s1 hp hc pen1 => ?_⟩
    refine ⟨2, rfl, by decide, by decide, for_range (n := 2) (fun i σ H2 => ∃ z2 z3 z4 z5 : Option V, σ = [some (.ref a), some (.ref p), z2, z3, z4, z5] ∧ Pen H2 p c (100 * i)) ⟨_, _, _, _, rfl, pen1⟩ ?_ ?_⟩
    · rintro i σ H2 hi ⟨z2, z3, z4, z5, rfl, pen2⟩
      refine ⟨_, rfl, _, rfl, p, c, 6, 100 * i, rfl, by decide, by decide, pen2, by omega, fun H3 r k3 pen3 hr => ?_⟩
      refine ⟨_, _, rfl, rfl, _, rfl, RgOk.of_le (by decide) (by omega) (by decide) (by omega), fun q4 n4 => ?_⟩
      rw [rg_vi' (n := 1 + r) (by omega)]
      have s4 := same_upd (o := .lst (vi (List.range (1 + r)))) n4
      refine ⟨p, c, q4, List.range (1 + r), 100 * i + 1, rfl, pen3.keep s4, by rw [List.length_range]; omega, upd_same, by rw [List.length_range]; omega, fun H5 q5 o k5 pen5 n5 e5 perm => ?_⟩
      rw [List.length_range] at pen5
      have od : Ord o := Ord.of_perm perm
      have ol : o.length = 1 + r := by rw [perm.length_eq, List.length_range]
      refine .inl ⟨q5, _, rfl, e5.sq, fun H6 t s6 n6 e6 => ?_⟩
      refine ⟨_, rfl, _, rfl, p, c, t, o, 100 * i + 1 + (1 + r), rfl, pen5.keep s6, by omega, od, by omega, by omega, e6, fun H7 k7 pen7 => ⟨true, rfl, iteF ?_⟩⟩
      have e7 := e6.keepN ((pen5.keep s6).ft e6) k7
      refine ⟨_, rfl, t, o, rfl, od, by omega, by omega, e7, fun H8 s8 => ⟨true, rfl, iteF ?_⟩⟩
      have e8 := e7.keep s8
      refine ⟨_, rfl, t, o, rfl, od, by omega, by omega, e8, fun H9 s9 => ?_⟩
      have e9 := e8.keep s9
      refine ⟨_, rfl, t, o, rfl, od, by omega, by omega, e9, fun H10 p10 s10 u10 => ?_⟩
      refine ⟨p10, und o, rfl, und_ord od, by rw [und_len]; omega, by rw [und_len]; omega, u10, fun H11 s11 => ?_⟩
      refine ⟨_, rfl, rfl, _, rfl, ?_⟩
      rw [many_und _ od rfl, decide_eq_true rfl]
      refine iteF ?_
      have e11 := (e9.keep s10).keep s11
      refine ⟨_, rfl, t, o, rfl, od, by omega, e11.wt, fun H12 p12 s12 u12 => ?_⟩
      refine ⟨p12, mir o, rfl, mir_ord od, by rw [mir_len]; omega, by rw [mir_len]; omega, u12, fun H13 s13 => ?_⟩
      refine ⟨_, rfl, rfl, _, rfl, ?_⟩
      rw [many_mir _ od rfl, decide_eq_true rfl]
      refine iteF ?_
      have e13 := (e11.keep s12).keep s13
      refine ⟨_, rfl, _, rfl, t, o, rfl, od, by omega, by omega, e13, fun H14 p14 s14 w14 => ?_⟩
      have lp := told_lp od (by omega)
      refine ⟨t, p14, o, told o, rfl, od, by omega, by omega, e13.keep s14, w14, lp, fun H15 s15 => ?_⟩
      refine ⟨_, _, rfl, rfl, _, rfl, ?_⟩
      have hlt := sNum_lt od lp
      rw [decide_eq_true (by omega)]
      refine iteT ⟨_, rfl, _, _, rfl, rfl, _, rfl, ?_⟩
      rw [decide_eq_true (by omega)]
      refine iteF ⟨_, _, _, _, rfl, ?_⟩
      exact (pen7.keep (((((((s8.trans s9).trans s10).trans s11).trans s12).trans s13).trans s14).trans s15)).more (by omega)
    · rintro σ H2 ⟨z2, z3, z4, z5, rfl, pen2⟩
      refine ⟨_, rfl, 7, rfl, RgOk.of_le (by decide) (by decide) (by decide) (by decide), fun q4 n4 => ?_⟩
      rw [rg_vi' (i := (7 : Int)) (n := 7) rfl]
      have s4 := same_upd (o := .lst (vi (List.range 7))) n4
      refine ⟨p, c, q4, List.range 7, 200, rfl, pen2.keep s4, by rw [List.length_range]; omega, upd_same, by rw [List.length_range]; omega, fun H5 q5 o k5 pen5 n5 e5 perm => ?_⟩
      rw [List.length_range] at pen5
      have od : Ord o := Ord.of_perm perm
      have ol : o.length = 7 := by rw [perm.length_eq, List.length_range]
      refine .inl ⟨q5, _, rfl, e5.sq, fun H6 t s6 n6 e6 => ?_⟩
      refine ⟨_, rfl, _, rfl, p, c, t, o, 207, rfl, pen5.keep s6, by decide, od, by omega, e6.wt, fun H7 q7 u k7 pen7 w7 lu => ?_⟩
      have e7 := e6.keepN ((pen5.keep s6).ft e6) k7
      refine ⟨_, rfl, _, rfl, _, rfl, t, q7, o, u, rfl, od, by omega, by omega, e7, w7, lu, fun H8 s8 => ?_⟩
      refine ⟨t, o, sNum o u, rfl, od, by omega, by omega, e7.keep s8, sNum_lt od lu, fun H9 p9 v s9 w9 lv nv => ?_⟩
      have ev : v = u := sNum_inj od lv lu nv
      subst ev
      refine ⟨_, rfl, ne_tups (ns := ci v) (ms := ci v) w9.sq ((w7.keep s8).keep s9).sq ⟨_, rfl, ?_⟩⟩
      rw [decide_eq_true rfl]
      refine iteF ?_
      refine ⟨_, rfl, p, c, 53, 257, rfl, by decide, by decide, pen7.keep (s8.trans s9), by decide, fun H10 r k10 pen10 hr => ?_⟩
      refine ⟨_, _, rfl, rfl, _, rfl, RgOk.of_le (by decide) (by omega) (by decide) (by omega), fun q11 n11 => ?_⟩
      rw [rg_vi' (n := 8 + r) (by omega)]
      exact ⟨q11, List.range (8 + r), rfl, range_ord _, by rw [List.length_range]; omega, by rw [List.length_range]; omega, upd_same, fun H12 => q H12⟩
end
end PmW
/-! What the top has written, put together. -/
namespace PmW
open PySem PySem.Spec PyProof.Rows L2 PmR PM
/-- a def as the top leaves it -/
structure DefAt (K : PySem.W.Frag) (x : Str) (st : Stmt) (f : Addr) : Prop where
  a : PySem.W.nsIn K mainGlobals x = some (some (.ref f))
  ex : ∃ (oc : Value) (od : Option Addr) (kV dc pm : Value) (an : Option Addr) (cd ct : Value) (sl : Array (Option Value)), K.lookup f = some ⟨oc, od, .func (PySem.W.fnOf x x (defArgs st) (defBody st) (defScope st) .none kV dc pm an cd ct), sl⟩ ∧ PySem.W.codeIn K cd x = true
  k : PySem.W.keepIn K (.ref f) = true
/-- a method as the class leaves it -/
structure MethAt (K : PySem.W.Frag) (C : Addr) (x qual : Str) (st : Stmt) (f : Addr) : Prop where
  a : PySem.W.findIn K (.ref C) x = some (some (.ref f))
  i : PySem.W.isFn K (.ref f) = true
  ex : ∃ (oc : Value) (od : Option Addr) (kV dc pm : Value) (an : Option Addr) (cd ct : Value) (sl : Array (Option Value)), K.lookup f = some ⟨oc, od, .func (PySem.W.fnOf x qual (defArgs st) (defBody st) (defScope st) .none kV dc pm an cd ct), sl⟩ ∧ PySem.W.codeIn K cd qual = true
  k : PySem.W.keepIn K (.ref f) = true
/-- is_whole, with its keyword defaults -/
structure WholeAt (K : PySem.W.Frag) (f : Addr) : Prop where
  a : PySem.W.nsIn K mainGlobals "is_whole" = some (some (.ref f))
  ex : ∃ (oc : Value) (od : Option Addr) (D : Addr) (dc pm : Value) (an : Option Addr) (cd ct : Value) (sl : Array (Option Value)) (i1 i2 : Int) (t1 t2 : Tok), K.lookup f = some ⟨oc, od, .func (PySem.W.fnOf "is_whole" "is_whole" (defArgs sWhole) (defBody sWhole) (defScope sWhole) .none (.ref D) dc pm an cd ct), sl⟩ ∧ PySem.W.codeIn K cd "is_whole" = true ∧
    PySem.W.nsIn K D "least" = some (some (.int i1 t1)) ∧ PySem.W.nsIn K D "most" = some (some (.int i2 t2)) ∧ i1 = -(10 ^ 60) ∧ i2 = 10 ^ 60
  k : PySem.W.keepIn K (.ref f) = true
/-- need_places, with its defaults -/
structure PlacesAt (K : PySem.W.Frag) (f : Addr) : Prop where
  a : PySem.W.nsIn K mainGlobals "need_places" = some (some (.ref f))
  ex : ∃ (oc : Value) (od : Option Addr) (T : Addr) (kV dc pm : Value) (an : Option Addr) (cd ct : Value) (sl : Array (Option Value)) (cT : Value) (dT : Option Addr) (nT : Nat) (sT : Array (Option Value)) (t1 t2 : Tok), K.lookup f = some ⟨oc, od, .func (PySem.W.fnOf "need_places" "need_places" (defArgs sNeedPlaces) (defBody sNeedPlaces) (defScope sNeedPlaces) (.ref T) kV dc pm an cd ct), sl⟩ ∧ PySem.W.codeIn K cd "need_places" = true ∧
    K.lookup T = some ⟨cT, dT, .seq #[.int 1 t1, .int 60 t2] nT, sT⟩
  k : PySem.W.keepIn K (.ref f) = true
theorem defAt_mk {K : PySem.W.Frag} {x : Str} {st : Stmt} {f : Addr} {oc : Value} {od : Option Addr} {kV dc pm : Value} {an : Option Addr} {cd ct : Value} {sl : Array (Option Value)} (a : PySem.W.nsIn K mainGlobals x = some (some (.ref f)))
    (l : K.lookup f = some ⟨oc, od, .func (PySem.W.fnOf x x (defArgs st) (defBody st) (defScope st) .none kV dc pm an cd ct), sl⟩) (c : PySem.W.codeIn K cd x = true) (k : PySem.W.keepIn K (.ref f) = true) : DefAt K x st f := ⟨a, ⟨_, _, _, _, _, _, _, _, _, l, c⟩, k⟩
theorem methAt_mk {K : PySem.W.Frag} {C : Addr} {x qual : Str} {st : Stmt} {f : Addr} {oc : Value} {od : Option Addr} {kV dc pm : Value} {an : Option Addr} {cd ct : Value} {sl : Array (Option Value)} (a : PySem.W.findIn K (.ref C) x = some (some (.ref f))) (i : PySem.W.isFn K (.ref f) = true)
    (l : K.lookup f = some ⟨oc, od, .func (PySem.W.fnOf x qual (defArgs st) (defBody st) (defScope st) .none kV dc pm an cd ct), sl⟩) (c : PySem.W.codeIn K cd qual = true) (k : PySem.W.keepIn K (.ref f) = true) : MethAt K C x qual st f := ⟨a, i, ⟨_, _, _, _, _, _, _, _, _, l, c⟩, k⟩
theorem wholeAt_mk {K : PySem.W.Frag} {f : Addr} {oc : Value} {od : Option Addr} {D : Addr} {dc pm : Value} {an : Option Addr} {cd ct : Value} {sl : Array (Option Value)} {i1 i2 : Int} {t1 t2 : Tok} (a : PySem.W.nsIn K mainGlobals "is_whole" = some (some (.ref f)))
    (l : K.lookup f = some ⟨oc, od, .func (PySem.W.fnOf "is_whole" "is_whole" (defArgs sWhole) (defBody sWhole) (defScope sWhole) .none (.ref D) dc pm an cd ct), sl⟩) (c : PySem.W.codeIn K cd "is_whole" = true)
    (n1 : PySem.W.nsIn K D "least" = some (some (.int i1 t1))) (n2 : PySem.W.nsIn K D "most" = some (some (.int i2 t2))) (e1 : i1 = -(10 ^ 60)) (e2 : i2 = 10 ^ 60) (k : PySem.W.keepIn K (.ref f) = true) : WholeAt K f :=
  ⟨a, ⟨_, _, _, _, _, _, _, _, _, _, _, _, _, l, c, n1, n2, e1, e2⟩, k⟩
theorem placesAt_mk {K : PySem.W.Frag} {f : Addr} {oc : Value} {od : Option Addr} {T : Addr} {kV dc pm : Value} {an : Option Addr} {cd ct : Value} {sl : Array (Option Value)} {cT : Value} {dT : Option Addr} {nT : Nat} {sT : Array (Option Value)} {t1 t2 : Tok} (a : PySem.W.nsIn K mainGlobals "need_places" = some (some (.ref f)))
    (l : K.lookup f = some ⟨oc, od, .func (PySem.W.fnOf "need_places" "need_places" (defArgs sNeedPlaces) (defBody sNeedPlaces) (defScope sNeedPlaces) (.ref T) kV dc pm an cd ct), sl⟩) (c : PySem.W.codeIn K cd "need_places" = true)
    (t : K.lookup T = some ⟨cT, dT, .seq #[.int 1 t1, .int 60 t2] nT, sT⟩) (k : PySem.W.keepIn K (.ref f) = true) : PlacesAt K f := ⟨a, ⟨_, _, _, _, _, _, _, _, _, _, _, _, _, _, _, _, l, c, t⟩, k⟩
section
variable {K : PySem.W.Frag} {h : Heap} {mg : Str → Option Value}
theorem DefAt.dn {x : Str} {st : Stmt} {f : Addr} (d : DefAt K x st f) (X : K.In h) (G : h.Ns mainGlobals mg) (ps : List Str)
    (hb : ∀ (kV doc pm : Value) (an : Option Addr) (cdv ct : Value) (us : List Value), us.length = ps.length → bindArgs (PySem.W.fnOf x x (defArgs st) (defBody st) (defScope st) .none kV doc pm an cdv ct) ⟨us, []⟩ = pure (ps.zip us)) : ∃ fd, Dn K mg x st ps f fd := by
  obtain ⟨oc, od, kV, dc, pm, an, cd, ct, sl, l, c⟩ := d.ex
  have F := fun_mk (st := st) l c d.k
  exact ⟨_, F, PySem.W.mg_of X G d.a, F.binds hb⟩
theorem MethAt.fn {C : Addr} {x qual : Str} {st : Stmt} {f : Addr} (d : MethAt K C x qual st f) (ps : List Str)
    (hb : ∀ (kV doc pm : Value) (an : Option Addr) (cdv ct : Value) (us : List Value), us.length = ps.length → bindArgs (PySem.W.fnOf x qual (defArgs st) (defBody st) (defScope st) .none kV doc pm an cdv ct) ⟨us, []⟩ = pure (ps.zip us)) : ∃ fd, Fun K x qual st f fd ∧ Binds K fd ps [] := by
  obtain ⟨oc, od, kV, dc, pm, an, cd, ct, sl, l, c⟩ := d.ex
  have F := fun_mk (st := st) l c d.k
  exact ⟨_, F, F.binds hb⟩
theorem WholeAt.fn {f : Addr} (d : WholeAt K f) : ∃ fd, FWhole K f fd := by
  obtain ⟨oc, od, D, dc, pm, an, cd, ct, sl, i1, i2, t1, t2, l, c, n1, n2, rfl, rfl⟩ := d.ex
  refine ⟨_, ⟨⟨oc, od, .none, .ref D, dc, pm, an, cd, ct, sl, rfl, l, c, .inl ⟨rfl, rfl⟩, .inr ⟨D, rfl, fun q hq => ?_⟩⟩, d.k⟩⟩
  rcases List.mem_cons.mp hq with e | hq
  · rw [e]
    exact ⟨_, n1, t1, rfl⟩
  · rcases List.mem_cons.mp hq with e | hq
    · rw [e]
      exact ⟨_, n2, t2, rfl⟩
    · exact absurd hq List.not_mem_nil
theorem PlacesAt.fn {f : Addr} (d : PlacesAt K f) : ∃ fd, FPlaces K f fd := by
  obtain ⟨oc, od, T, kV, dc, pm, an, cd, ct, sl, cT, dT, nT, sT, t1, t2, l, c, lT⟩ := d.ex
  exact ⟨_, ⟨⟨oc, od, .ref T, kV, dc, pm, an, cd, ct, sl, rfl, l, c, .inr ⟨List.cons_ne_nil _ _, T, _, [.int 1 t1, .int 60 t2], nT, rfl, lT, rfl, .cons ⟨t1, rfl⟩ (.cons ⟨t2, rfl⟩ .nil)⟩, .inl rfl⟩, d.k⟩⟩
/-- an error of the class at S is what «except S» names -/
theorem exm_self {S : Addr} (h1 : PySem.W.subIn K (.ref S) (.type "BaseException") = some true) (h2 : PySem.W.isClsIn K S = true) (h3 : PySem.W.typeIn K (.ref S) = some (.type "type")) (h4 : PySem.W.subIn K (.ref S) (.ref S) = some true) :
    PySem.W.exmOne K (.ref S) (.ref S) = some true := by
  have e1 : (PySem.W.subIn K (.ref S) (.type "BaseException") == some true) = true := by rw [h1] <;> rfl
  have e2 : ((PySem.W.clsIn K S).isSome && PySem.W.typeIn K (.ref S) == some (.type "type")) = true := by
    have h2' : (PySem.W.clsIn K S).isSome = true := h2
    rw [h2', h3] <;> rfl
  show (if (PySem.W.subIn K (.ref S) (.type "BaseException") == some true) = true then (if ((PySem.W.clsIn K S).isSome && PySem.W.typeIn K (.ref S) == some (.type "type")) = true then PySem.W.subIn K (.ref S) (.ref S) else none) else none) = some true
  rw [if_pos e1, if_pos e2]
  exact h4
/-- isinstance of another own class -/
theorem kit_own {C D : Addr} (h1 : PySem.W.isClsIn K D = true) (h2 : PySem.W.typeIn K (.ref D) = some (.type "type")) (h3 : PySem.W.subIn K (.ref C) (.ref D) = some false) (h4 : PySem.W.subIn K (.ref C) (.ref C) = some true) : PySem.W.kitOne K (.ref C) (.ref D) = some false := by
  have ne : C ≠ D := fun z => by
    rw [← z, h4] at h3
    cases h3
  have e0 : (Value.ref C == Value.ref D) = false := beq_eq_false_iff_ne.mpr (fun z => ne (by injection z))
  have e2 : ((PySem.W.clsIn K D).isSome && PySem.W.typeIn K (.ref D) == some (.type "type")) = true := by
    have h1' : (PySem.W.clsIn K D).isSome = true := h1
    rw [h1', h2] <;> rfl
  unfold PySem.W.kitOne
  rw [e0, if_neg (by decide)]
  show (if ((PySem.W.clsIn K D).isSome && PySem.W.typeIn K (.ref D) == some (.type "type")) = true then PySem.W.subIn K (.ref C) (.ref D) else none) = some false
  rw [if_pos e2]
  exact h3
end

theorem all_mk {l : PySem.W.OpenLaw} {w : World} {K : PySem.W.Frag} {h : Heap} {mg : Str → Option Value} {fa fLI fCP fWF fNW fEX fOO fOF fNO fJO fUN fNF fFI fCO fMS fSA fSN fWP fIS fLB fTF fPN fDR fPK fSH fSW fMI fWR fFR fRF fLA fWH fPL C fCI fCM CT fTI CL : Addr} (X : K.In h) (G : h.Ns mainGlobals mg) (hfa : mg "law" = some (.ref fa))
    (dLI : DefAt K "is_listing" sListing fLI)
    (dCP : DefAt K "copied" sCopied fCP)
    (dWF : DefAt K "word_fault" sWordFault fWF)
    (dNW : DefAt K "need_word" sNeedWord fNW)
    (dEX : DefAt K "exchanged" sExchanged fEX)
    (dOO : DefAt K "order_of" sOrderOf fOO)
    (dOF : DefAt K "order_fault" sOrderFault fOF)
    (dNO : DefAt K "need_order" sNeedOrder fNO)
    (dJO : DefAt K "joined" sJoined fJO)
    (dUN : DefAt K "undone" sUndone fUN)
    (dNF : DefAt K "need_few" sNeedFew fNF)
    (dFI : DefAt K "firsts" sFirsts fFI)
    (dCO : DefAt K "called_on" sCalledOn fCO)
    (dMS : DefAt K "many_short" sManyShort fMS)
    (dSA : DefAt K "short_at" sShortAt fSA)
    (dSN : DefAt K "short_number" sShortNumber fSN)
    (dWP : DefAt K "who_pass" sWhoPass fWP)
    (dIS : DefAt K "is_short" sIsShort fIS)
    (dLB : DefAt K "lesser_behind" sLesser fLB)
    (dTF : DefAt K "told_form" sToldForm fTF)
    (dPN : DefAt K "_law_pen" sPen fPN)
    (dDR : DefAt K "_law_draw" sDraw fDR)
    (dPK : DefAt K "_law_pick" sPick fPK)
    (dSH : DefAt K "_law_shuffled" sShuffled fSH)
    (dSW : DefAt K "_law_short_word" sShortWord fSW)
    (dMI : DefAt K "_law_mirrored" sMirrored fMI)
    (dWR : DefAt K "_law_words_right" sWordsRight fWR)
    (dFR : DefAt K "_law_first_right" sFirstRight fFR)
    (dRF : DefAt K "_law_is_refused" sIsRefused fRF)
    (dLA : DefAt K "law" sLaw fLA)
    (dWH : WholeAt K fWH) (dPL : PlacesAt K fPL)
    (z0 : PySem.W.nsIn K mainGlobals "isinstance" = some none)
    (z1 : PySem.W.nsIn K mainGlobals "int" = some none)
    (z2 : PySem.W.nsIn K mainGlobals "bool" = some none)
    (z3 : PySem.W.nsIn K mainGlobals "list" = some none)
    (z4 : PySem.W.nsIn K mainGlobals "tuple" = some none)
    (z5 : PySem.W.nsIn K mainGlobals "len" = some none)
    (z6 : PySem.W.nsIn K mainGlobals "enumerate" = some none)
    (z7 : PySem.W.nsIn K mainGlobals "range" = some none)
    (z8 : PySem.W.nsIn K mainGlobals "sum" = some none)
    (z9 : PySem.W.nsIn K mainGlobals "set" = some none)
    (z10 : PySem.W.nsIn K mainGlobals "sorted" = some none)
    (z11 : PySem.W.nsIn K mainGlobals "abs" = some none)
    (z12 : PySem.W.nsIn K mainGlobals "dict" = some none)
    (z13 : PySem.W.nsIn K mainGlobals "ArithmeticError" = some none)
    {tW tP tF : Tok} (cW : PySem.W.nsIn K mainGlobals "WORD" = some (some (.int 2000 tW))) (cP : PySem.W.nsIn K mainGlobals "PLACES" = some (some (.int 60 tP))) (cF : PySem.W.nsIn K mainGlobals "FEW" = some (some (.int 7 tF)))
    (aC : PySem.W.nsIn K mainGlobals "Counts" = some (some (.ref C))) (mI : MethAt K C "__init__" "Counts.__init__" sCountsI fCI) (mM : MethAt K C "many" "Counts.many" sMany fCM)
    (pg : PySem.W.plainGet K C Str.empty = true) (hd : PySem.W.hasDictIn K C = true) (po : PySem.W.plainOver K C = true) (sa : PySem.W.findIn K (.ref C) "__setattr__" = some (some (.builtin "object.__setattr__"))) (mk : PySem.W.makesIn K C = true) (kc : PySem.W.keepIn K (.ref C) = true) (nK : PySem.W.findIn K (.ref C) "known" = some none)
    (aT : PySem.W.nsIn K mainGlobals "TooMany" = some (some (.ref CT)))
    {nm q : Str} {N : Addr} {bs : List Value} {sn : List Str} {sub : List Value} {ab : Bool} {col : Option Bool} {dd : Option Addr} {m0 m1 m2 m3 m5 : Option Value}
    (xT : K.lookup CT = some (excClassObj nm q CT N bs [.type "ArithmeticError", .type "Exception", .type "BaseException", .type "object"] true sn sub ab col dd m0 m1 m2 m3 m5 "ArithmeticError.__new__"))
    (sT : PySem.W.findIn K (.ref CT) "__setattr__" = some (some (.builtin "object.__setattr__"))) (eT : PySem.W.subIn K (.ref CT) (.type "BaseException") = some true) (tT : PySem.W.typeIn K (.ref CT) = some (.type "type")) (kT : PySem.W.keepIn K (.ref CT) = true)
    (gaT : PySem.W.findIn K (.ref CT) "__getattribute__" = some (some (.builtin "BaseException.__getattribute__"))) (ggT : PySem.W.findIn K (.ref CT) "__getattr__" = some none) (hT : PySem.W.hasDictIn K CT = true) (clT : PySem.W.findIn K (.ref CT) "__class__" = some (some (.builtin "object.__class__")))
    (spT : PySem.W.specialIn K (.builtin "object.__class__") "__get__" = some (some (.builtin "getset_descriptor.__get__"))) (tkT : PySem.W.takesIn K (.builtin "object.__class__") = some true) (mrT : PySem.W.mroIn K CT (.type "object") = some true)
    (mT : MethAt K CT "__init__" "TooMany.__init__" sTooManyI fTI) (tyT : PySem.W.typeIn K (.ref fTI) = some (.type "function")) (nT : PySem.W.findIn K (.ref CT) "most" = some none) (icT : PySem.W.isClsIn K CT = true) (ssT : PySem.W.subIn K (.ref CT) (.ref CT) = some true)
    (vT : PySem.W.findCls K (.type "ArithmeticError") (.type "type") "__init__" = some (.val (.builtin "ArithmeticError.__init__")))
    (aL : PySem.W.nsIn K mainGlobals "TooLong" = some (some (.ref CL))) (iL : PySem.W.isClsIn K CL = true) (tL : PySem.W.typeIn K (.ref CL) = some (.type "type")) (sL : PySem.W.subIn K (.ref CT) (.ref CL) = some false) :
    ∃ fd : FuncData, (∀ (s : Shared) (v : Value), BindsTo s fd ⟨[v], []⟩ [("_law_script", v)]) ∧ ∀ base : Heap, K.In base → base.Ns mainGlobals mg → FnOk l.prog w K mg base CX0 55 fa fd ["_law_script"] (spLaw K) := by
  have e := hfa.symm.trans (PySem.W.mg_of X G dLA.a)
  cases e
  have kL := kit_own iL tL sL ssT
  obtain ⟨gLI, DLI⟩ := dLI.dn X G ["thing"] (fun _ _ _ _ _ _ us hl => match us, hl with | [_], _ => rfl)
  obtain ⟨gCP, DCP⟩ := dCP.dn X G ["thing"] (fun _ _ _ _ _ _ us hl => match us, hl with | [_], _ => rfl)
  obtain ⟨gWF, DWF⟩ := dWF.dn X G ["places", "thing"] (fun _ _ _ _ _ _ us hl => match us, hl with | [_, _], _ => rfl)
  obtain ⟨gNW, DNW⟩ := dNW.dn X G ["places", "word"] (fun _ _ _ _ _ _ us hl => match us, hl with | [_, _], _ => rfl)
  obtain ⟨gEX, DEX⟩ := dEX.dn X G ["some", "place"] (fun _ _ _ _ _ _ us hl => match us, hl with | [_, _], _ => rfl)
  obtain ⟨gOO, DOO⟩ := dOO.dn X G ["places", "word"] (fun _ _ _ _ _ _ us hl => match us, hl with | [_, _], _ => rfl)
  obtain ⟨gOF, DOF⟩ := dOF.dn X G ["thing"] (fun _ _ _ _ _ _ us hl => match us, hl with | [_], _ => rfl)
  obtain ⟨gNO, DNO⟩ := dNO.dn X G ["order"] (fun _ _ _ _ _ _ us hl => match us, hl with | [_], _ => rfl)
  obtain ⟨gJO, DJO⟩ := dJO.dn X G ["one", "other"] (fun _ _ _ _ _ _ us hl => match us, hl with | [_, _], _ => rfl)
  obtain ⟨gUN, DUN⟩ := dUN.dn X G ["order"] (fun _ _ _ _ _ _ us hl => match us, hl with | [_], _ => rfl)
  obtain ⟨gNF, DNF⟩ := dNF.dn X G ["order"] (fun _ _ _ _ _ _ us hl => match us, hl with | [_], _ => rfl)
  obtain ⟨gFI, DFI⟩ := dFI.dn X G ["order"] (fun _ _ _ _ _ _ us hl => match us, hl with | [_], _ => rfl)
  obtain ⟨gCO, DCO⟩ := dCO.dn X G ["order", "place"] (fun _ _ _ _ _ _ us hl => match us, hl with | [_, _], _ => rfl)
  obtain ⟨gMS, DMS⟩ := dMS.dn X G ["order"] (fun _ _ _ _ _ _ us hl => match us, hl with | [_], _ => rfl)
  obtain ⟨gSA, DSA⟩ := dSA.dn X G ["order", "number"] (fun _ _ _ _ _ _ us hl => match us, hl with | [_, _], _ => rfl)
  obtain ⟨gSN, DSN⟩ := dSN.dn X G ["order", "word"] (fun _ _ _ _ _ _ us hl => match us, hl with | [_, _], _ => rfl)
  obtain ⟨gWP, DWP⟩ := dWP.dn X G ["places", "word"] (fun _ _ _ _ _ _ us hl => match us, hl with | [_, _], _ => rfl)
  obtain ⟨gIS, DIS⟩ := dIS.dn X G ["places", "word"] (fun _ _ _ _ _ _ us hl => match us, hl with | [_, _], _ => rfl)
  obtain ⟨gLB, DLB⟩ := dLB.dn X G ["order", "runner"] (fun _ _ _ _ _ _ us hl => match us, hl with | [_, _], _ => rfl)
  obtain ⟨gTF, DTF⟩ := dTF.dn X G ["order"] (fun _ _ _ _ _ _ us hl => match us, hl with | [_], _ => rfl)
  obtain ⟨gPN, DPN⟩ := dPN.dn X G ["_law_script"] (fun _ _ _ _ _ _ us hl => match us, hl with | [_], _ => rfl)
  obtain ⟨gDR, DDR⟩ := dDR.dn X G ["_law_pen_here", "_law_many"] (fun _ _ _ _ _ _ us hl => match us, hl with | [_, _], _ => rfl)
  obtain ⟨gPK, DPK⟩ := dPK.dn X G ["_law_pen_here", "_law_some"] (fun _ _ _ _ _ _ us hl => match us, hl with | [_, _], _ => rfl)
  obtain ⟨gSH, DSH⟩ := dSH.dn X G ["_law_pen_here", "_law_some"] (fun _ _ _ _ _ _ us hl => match us, hl with | [_, _], _ => rfl)
  obtain ⟨gSW, DSW⟩ := dSW.dn X G ["_law_pen_here", "_law_order"] (fun _ _ _ _ _ _ us hl => match us, hl with | [_, _], _ => rfl)
  obtain ⟨gMI, DMI⟩ := dMI.dn X G ["_law_order"] (fun _ _ _ _ _ _ us hl => match us, hl with | [_], _ => rfl)
  obtain ⟨gWR, DWR⟩ := dWR.dn X G ["_law_pen_here", "_law_order", "_law_most"] (fun _ _ _ _ _ _ us hl => match us, hl with | [_, _, _], _ => rfl)
  obtain ⟨gFR, DFR⟩ := dFR.dn X G ["_law_order"] (fun _ _ _ _ _ _ us hl => match us, hl with | [_], _ => rfl)
  obtain ⟨gRF, DRF⟩ := dRF.dn X G ["_law_order"] (fun _ _ _ _ _ _ us hl => match us, hl with | [_], _ => rfl)
  obtain ⟨oc, od, kV, dc, pm, an, cd, ct, sl, lL, cL⟩ := dLA.ex
  have FL := fun_mk (st := sLaw) lL cL dLA.k
  have DLA : Dn K mg "law" sLaw ["_law_script"] fa _ := ⟨FL, PySem.W.mg_of X G dLA.a, FL.binds (fun _ _ _ _ _ _ us hl => match us, hl with | [_], _ => rfl)⟩
  obtain ⟨gWH, FW⟩ := dWH.fn
  obtain ⟨gPL, FP⟩ := dPL.fn
  obtain ⟨gCI, FCI, bCI⟩ := mI.fn ["self"] (fun _ _ _ _ _ _ us hl => match us, hl with | [_], _ => rfl)
  obtain ⟨gCM, FCM, bCM⟩ := mM.fn ["self", "order"] (fun _ _ _ _ _ _ us hl => match us, hl with | [_, _], _ => rfl)
  obtain ⟨gTI, FTI, bTI⟩ := mT.fn ["self", "most"] (fun _ _ _ _ _ _ us hl => match us, hl with | [_, _], _ => rfl)
  have B : Bl mg := ⟨PySem.W.mg_none_of X G z0, PySem.W.mg_none_of X G z1, PySem.W.mg_none_of X G z2, PySem.W.mg_none_of X G z3, PySem.W.mg_none_of X G z4, PySem.W.mg_none_of X G z5, PySem.W.mg_none_of X G z6, PySem.W.mg_none_of X G z7, PySem.W.mg_none_of X G z8, PySem.W.mg_none_of X G z9, PySem.W.mg_none_of X G z10, PySem.W.mg_none_of X G z11, PySem.W.mg_none_of X G z12, PySem.W.mg_none_of X G z13, ⟨tW, PySem.W.mg_of X G cW⟩, ⟨tP, PySem.W.mg_of X G cP⟩, ⟨tF, PySem.W.mg_of X G cF⟩⟩
  have T : Ct K mg C := ⟨⟨pg, hd, po, sa⟩, nK, PySem.W.mg_of X G aC⟩
  have TM : Tm K mg CT fTI := ⟨⟨⟨nm, q, N, bs, sn, sub, ab, col, dd, m0, m1, m2, m3, m5, xT⟩, sT, eT, tT, kT⟩, ⟨gaT, ggT, eT, hT, clT, spT, tkT, mrT⟩, PySem.W.mg_of X G aT, mT.a, tyT, nT, exm_self eT icT tT ssT, vT⟩
  refine ⟨PySem.W.fnOf "law" "law" (defArgs sLaw) (defBody sLaw) (defScope sLaw) .none kV dc pm an cd ct, fun s v => .of_eq rfl, fun base _ _ => ?_⟩
  have W : Wh l.prog w K mg base fWH gWH := ⟨FW, PySem.W.mg_of X G dWH.a, ok_whole FW B⟩
  have PL : Pl l.prog w K mg base fPL gPL := ⟨FP, PySem.W.mg_of X G dPL.a, ok_needPlaces FP W⟩
  have LI : Li l.prog w K mg base fLI gLI := ⟨DLI, ok_listing DLI B⟩
  have CP : Df l.prog w K mg base "copied" sCopied ["thing"] 1 spCopied fCP gCP := ⟨DCP, ok_copied DCP B⟩
  have okWF := ok_wordFault (P := l.prog) (w := w) (base := base) DWF B W LI
  have okNW := ok_needWord (P := l.prog) (w := w) (base := base) DNW B DWF okWF
  have okEX := ok_exch (P := l.prog) (w := w) (base := base) DEX
  have OO : Df l.prog w K mg base "order_of" sOrderOf ["places", "word"] 4 spOrderOf fOO gOO := ⟨DOO, ok_orderOf DOO B PL DNW okNW DEX okEX⟩
  have okOF := ok_orderFault (P := l.prog) (w := w) (base := base) DOF B W LI
  have NO : No l.prog w K mg base fNO gNO := ⟨DNO, ok_needOrder DNO B DOF okOF⟩
  have JO : Df l.prog w K mg base "joined" sJoined ["one", "other"] 4 spJoined fJO gJO := ⟨DJO, ok_joined DJO B NO LI⟩
  have UN : Df l.prog w K mg base "undone" sUndone ["order"] 4 spUndone fUN gUN := ⟨DUN, ok_undone DUN B NO⟩
  have NF : Nf l.prog w K mg base fNF gNF := ⟨DNF, ok_needFew DNF B NO⟩
  have FI : Fi l.prog w K mg base fFI gFI := ⟨DFI, ok_firsts DFI B⟩
  have CO : Co l.prog w K mg base fCO gCO := ⟨DCO, ok_calledOn DCO B⟩
  have Y : Cc l.prog w K mg base C fCI fCM gCI gCM := ⟨T, ⟨mk, mI.a, mI.i, kc⟩, bCI, ok_countsI FCI T, ⟨mM.a, mM.i, mM.k⟩, bCM, ok_many FCM T bCM ⟨mM.a, mM.i, mM.k⟩ B FI CO 50⟩
  have MS : Df l.prog w K mg base "many_short" sManyShort ["order"] 53 spManyShort fMS gMS := ⟨DMS, ok_manyShort DMS B NF Y⟩
  have SA : Df l.prog w K mg base "short_at" sShortAt ["order", "number"] 53 spShortAt fSA gSA := ⟨DSA, ok_shortAt DSA B NF Y W FI CO⟩
  have SN : Df l.prog w K mg base "short_number" sShortNumber ["order", "word"] 53 spShortNumber fSN gSN := ⟨DSN, ok_shortNumber DSN B NF Y W FI CO LI⟩
  have WP : Wp l.prog w K mg base fWP gWP := ⟨DWP, ok_whoPass DWP B PL DNW okNW DEX okEX⟩
  have IS : Df l.prog w K mg base "is_short" sIsShort ["places", "word"] 5 spIsShort fIS gIS := ⟨DIS, ok_isShort DIS B WP⟩
  have okLB := ok_lesser (P := l.prog) (w := w) (base := base) DLB B
  have TF : Df l.prog w K mg base "told_form" sToldForm ["order"] 4 spTold fTF gTF := ⟨DTF, ok_told DTF B NO DLB okLB⟩
  have PN : Df l.prog w K mg base "_law_pen" sPen ["_law_script"] 1 (spPen K) fPN gPN := ⟨DPN, ok_pen DPN B⟩
  have DR : Dr l.prog w K mg base fDR gDR := ⟨DDR, ok_draw DDR B⟩
  have PK : Pk l.prog w K mg base fPK gPK := ⟨DPK, ok_pick DPK B DR⟩
  have SH : Df l.prog w K mg base "_law_shuffled" sShuffled ["_law_pen_here", "_law_some"] 2 spShuf fSH gSH := ⟨DSH, ok_shuf DSH B DR⟩
  have SW : Df l.prog w K mg base "_law_short_word" sShortWord ["_law_pen_here", "_law_order"] 3 spShortWord fSW gSW := ⟨DSW, ok_shortWord DSW B PK⟩
  have MI : Df l.prog w K mg base "_law_mirrored" sMirrored ["_law_order"] 1 spMirror fMI gMI := ⟨DMI, ok_mirror DMI B⟩
  have WR : Df l.prog w K mg base "_law_words_right" sWordsRight ["_law_pen_here", "_law_order", "_law_most"] 54 spWordsRight fWR gWR := ⟨DWR, ok_wordsRight DWR B DR MS SA SN OO IS SW⟩
  have FR : Df l.prog w K mg base "_law_first_right" sFirstRight ["_law_order"] 54 spFirstRight fFR gFR := ⟨DFR, ok_firstRight DFR B MS JO UN⟩
  have okTI := ok_tmI (P := l.prog) (w := w) (base := base) FTI B TM CP
  have okNX := ok_needFewX (P := l.prog) (w := w) (base := base) DNF B NO TM bTI okTI
  have okMX := ok_manyShortX (P := l.prog) (w := w) (base := base) DMS B DNF okNX Y
  have RF : Df l.prog w K mg base "_law_is_refused" sIsRefused ["_law_order"] 54 spRefused fRF gRF := ⟨DRF, ok_refused DRF B TM DMS okMX (PySem.W.mg_of X G aL) kL⟩
  exact ok_law DLA B PN DR SH WR FR MS UN MI SN TF SW SA RF
theorem walk {l : PySem.W.OpenLaw} {q : Program} {loose : List Str} {XP : (Str → Option Value) → Heap → Prop} {YP : World → Heap → Prop} {d : DefRec} {K : Params → PySem.W.Frag} (hn : l.most = some 63) (hdf : d.params.defaults = [])
    (hY : ∀ (w : World) (h : Heap), YP w h → (K w.params).In h)
    (F : ∀ (w : World) (mg : Str → Option Value) (fa : Addr) (h : Heap), (K w.params).In h → h.Ns mainGlobals mg → mg d.name = some (.ref fa) →
      ∃ fd : FuncData, (∀ (s : Shared) (u : Value), BindsTo s fd ⟨[u], []⟩ [("_law_script", u)]) ∧ ∀ base : Heap, (K w.params).In base → base.Ns mainGlobals mg → FnOk l.prog w (K w.params) mg base CX0 55 fa fd ["_law_script"] (spLaw (K w.params))) :
    PySem.W.WalkO q loose XP YP l.row.toRowW d [] (fun f vs => PySem.call f vs) :=
  L2.walk_of (n := 63) (k := 55) (x := "_law_script") (CX := fun _ => CX0) (sp := fun w => spLaw (K w.params)) hn (by rw [sizeLine_eq]; decide) hdf ⟨rfl, by decide, by decide⟩ hY F (fun _ _ a ns hl _ hS => ⟨a, ns, rfl, hS, fun _ => rfl⟩) fun _ _ _ _ _ z => z
end PmW
open PySem PySem.W PyProof.Rows
set_option maxRecDepth 100000 in
set_option maxHeartbeats 0 in
theorem PySem.Challenge.cw_passmarks_k17_whole_short_words_by_numbe_holds : PySem.Challenge.rw_passmarks_k17_whole_short_words_by_numbe.Holds := by
  w_on; o_law; k_head; (case hw => w_witness2)
  k_fill
  refine PmW.walk (l := PySem.Challenge.rw_passmarks_k17_whole_short_words_by_numbe) rfl rfl (fun w h Y => PySem.W.kIn_of Y) ?F
  case F =>
    intro w mg fa h KX G hmg
    refine' PmW.all_mk KX G hmg ?dLI ?dCP ?dWF ?dNW ?dEX ?dOO ?dOF ?dNO ?dJO ?dUN ?dNF ?dFI ?dCO ?dMS ?dSA ?dSN ?dWP ?dIS ?dLB ?dTF ?dPN ?dDR ?dPK ?dSH ?dSW ?dMI ?dWR ?dFR ?dRF ?dLA ?dWH ?dPL ?z0 ?z1 ?z2 ?z3 ?z4 ?z5 ?z6 ?z7 ?z8 ?z9 ?z10 ?z11 ?z12 ?z13 ?cW ?cP ?cF ?aC ?mI ?mM ?pg ?hd ?po ?sa ?mk ?kc ?nK ?aT ?xT ?sT ?eT ?tT ?kT ?gaT ?ggT ?hT ?clT ?spT ?tkT ?mrT ?mT ?tyT ?nT ?icT ?ssT ?vT ?aL ?iL ?tL ?sL
    (case dLI => refine' PmW.defAt_mk ?a ?l ?c ?k; (case a => k_is); (case l => k_is); (case c => k_is); (case k => k_is))
    (case dCP => refine' PmW.defAt_mk ?a ?l ?c ?k; (case a => k_is); (case l => k_is); (case c => k_is); (case k => k_is))
    (case dWF => refine' PmW.defAt_mk ?a ?l ?c ?k; (case a => k_is); (case l => k_is); (case c => k_is); (case k => k_is))
    (case dNW => refine' PmW.defAt_mk ?a ?l ?c ?k; (case a => k_is); (case l => k_is); (case c => k_is); (case k => k_is))
    (case dEX => refine' PmW.defAt_mk ?a ?l ?c ?k; (case a => k_is); (case l => k_is); (case c => k_is); (case k => k_is))
    (case dOO => refine' PmW.defAt_mk ?a ?l ?c ?k; (case a => k_is); (case l => k_is); (case c => k_is); (case k => k_is))
    (case dOF => refine' PmW.defAt_mk ?a ?l ?c ?k; (case a => k_is); (case l => k_is); (case c => k_is); (case k => k_is))
    (case dNO => refine' PmW.defAt_mk ?a ?l ?c ?k; (case a => k_is); (case l => k_is); (case c => k_is); (case k => k_is))
    (case dJO => refine' PmW.defAt_mk ?a ?l ?c ?k; (case a => k_is); (case l => k_is); (case c => k_is); (case k => k_is))
    (case dUN => refine' PmW.defAt_mk ?a ?l ?c ?k; (case a => k_is); (case l => k_is); (case c => k_is); (case k => k_is))
    (case dNF => refine' PmW.defAt_mk ?a ?l ?c ?k; (case a => k_is); (case l => k_is); (case c => k_is); (case k => k_is))
    (case dFI => refine' PmW.defAt_mk ?a ?l ?c ?k; (case a => k_is); (case l => k_is); (case c => k_is); (case k => k_is))
    (case dCO => refine' PmW.defAt_mk ?a ?l ?c ?k; (case a => k_is); (case l => k_is); (case c => k_is); (case k => k_is))
    (case dMS => refine' PmW.defAt_mk ?a ?l ?c ?k; (case a => k_is); (case l => k_is); (case c => k_is); (case k => k_is))
    (case dSA => refine' PmW.defAt_mk ?a ?l ?c ?k; (case a => k_is); (case l => k_is); (case c => k_is); (case k => k_is))
    (case dSN => refine' PmW.defAt_mk ?a ?l ?c ?k; (case a => k_is); (case l => k_is); (case c => k_is); (case k => k_is))
    (case dWP => refine' PmW.defAt_mk ?a ?l ?c ?k; (case a => k_is); (case l => k_is); (case c => k_is); (case k => k_is))
    (case dIS => refine' PmW.defAt_mk ?a ?l ?c ?k; (case a => k_is); (case l => k_is); (case c => k_is); (case k => k_is))
    (case dLB => refine' PmW.defAt_mk ?a ?l ?c ?k; (case a => k_is); (case l => k_is); (case c => k_is); (case k => k_is))
    (case dTF => refine' PmW.defAt_mk ?a ?l ?c ?k; (case a => k_is); (case l => k_is); (case c => k_is); (case k => k_is))
    (case dPN => refine' PmW.defAt_mk ?a ?l ?c ?k; (case a => k_is); (case l => k_is); (case c => k_is); (case k => k_is))
    (case dDR => refine' PmW.defAt_mk ?a ?l ?c ?k; (case a => k_is); (case l => k_is); (case c => k_is); (case k => k_is))
    (case dPK => refine' PmW.defAt_mk ?a ?l ?c ?k; (case a => k_is); (case l => k_is); (case c => k_is); (case k => k_is))
    (case dSH => refine' PmW.defAt_mk ?a ?l ?c ?k; (case a => k_is); (case l => k_is); (case c => k_is); (case k => k_is))
    (case dSW => refine' PmW.defAt_mk ?a ?l ?c ?k; (case a => k_is); (case l => k_is); (case c => k_is); (case k => k_is))
    (case dMI => refine' PmW.defAt_mk ?a ?l ?c ?k; (case a => k_is); (case l => k_is); (case c => k_is); (case k => k_is))
    (case dWR => refine' PmW.defAt_mk ?a ?l ?c ?k; (case a => k_is); (case l => k_is); (case c => k_is); (case k => k_is))
    (case dFR => refine' PmW.defAt_mk ?a ?l ?c ?k; (case a => k_is); (case l => k_is); (case c => k_is); (case k => k_is))
    (case dRF => refine' PmW.defAt_mk ?a ?l ?c ?k; (case a => k_is); (case l => k_is); (case c => k_is); (case k => k_is))
    (case dLA => refine' PmW.defAt_mk ?a ?l ?c ?k; (case a => k_is); (case l => k_is); (case c => k_is); (case k => k_is))
    (case dWH => refine' PmW.wholeAt_mk ?a ?l ?c ?n1 ?n2 ?e1 ?e2 ?k; (case a => k_is); (case l => k_is); (case c => k_is); (case n1 => k_is); (case n2 => k_is); (case e1 => rfl); (case e2 => rfl); (case k => k_is))
    (case dPL => refine' PmW.placesAt_mk ?a ?l ?c ?t ?k; (case a => k_is); (case l => k_is); (case c => k_is); (case t => k_is); (case k => k_is))
    (case z0 => k_is)
    (case z1 => k_is)
    (case z2 => k_is)
    (case z3 => k_is)
    (case z4 => k_is)
    (case z5 => k_is)
    (case z6 => k_is)
    (case z7 => k_is)
    (case z8 => k_is)
    (case z9 => k_is)
    (case z10 => k_is)
    (case z11 => k_is)
    (case z12 => k_is)
    (case z13 => k_is)
    (case cW => k_is)
    (case cP => k_is)
    (case cF => k_is)
    (case aC => k_is)
    (case mI => refine' PmW.methAt_mk ?a ?i ?l ?c ?k; (case a => k_is); (case i => k_is); (case l => k_is); (case c => k_is); (case k => k_is))
    (case mM => refine' PmW.methAt_mk ?a ?i ?l ?c ?k; (case a => k_is); (case i => k_is); (case l => k_is); (case c => k_is); (case k => k_is))
    (case pg => k_is)
    (case hd => k_is)
    (case po => k_is)
    (case sa => k_is)
    (case mk => k_is)
    (case kc => k_is)
    (case nK => k_is)
    (case aT => k_is)
    (case xT => k_is)
    (case sT => k_is)
    (case eT => k_is)
    (case tT => k_is)
    (case kT => k_is)
    (case gaT => k_is)
    (case ggT => k_is)
    (case hT => k_is)
    (case clT => k_is)
    (case spT => k_is)
    (case tkT => k_is)
    (case mrT => k_is)
    (case mT => refine' PmW.methAt_mk ?a ?i ?l ?c ?k; (case a => k_is); (case i => k_is); (case l => k_is); (case c => k_is); (case k => k_is))
    (case tyT => k_is)
    (case nT => k_is)
    (case icT => k_is)
    (case ssT => first | rfl | k_is)
    (case vT => k_is)
    (case aL => k_is)
    (case iL => k_is)
    (case tL => k_is)
    (case sL => k_is)
