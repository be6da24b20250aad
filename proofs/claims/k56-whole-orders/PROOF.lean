import PyProof.Rows.All
import Wide.All
import OpenK.AllK
import Wide.FinOn
import HandS.ForMost
import HandS.TupAny
import HandS.TupLe
import HandS.Zip
import HandS.Conv
import HandS.IsInst
import HandS.Codes
import HandS.ExcValue
import PyProof.TupleOfSeq
import KE.GoesEnum
import PySem.Challenge.RW_foretoldforms_k56_whole_orders_between_t
set_option Elab.async false
set_option linter.all false
set_option maxRecDepth 100000
set_option maxHeartbeats 4000000
namespace K56
/-! ### lexicographic order on lists of Nat -/
def LexLt : List Nat → List Nat → Prop
  | a :: x, b :: y => a < b ∨ (a = b ∧ LexLt x y)
  | _, _ => False
def LexLe (x y : List Nat) : Prop := x = y ∨ LexLt x y
theorem LexLt.cons {a b : Nat} {x y : List Nat} : LexLt (a :: x) (b :: y) ↔ a < b ∨ (a = b ∧ LexLt x y) := Iff.rfl
theorem LexLt.irrefl : ∀ {x : List Nat}, ¬ LexLt x x
  | [], h => h
  | a :: x, h => by
    rcases h with h | ⟨_, h⟩
    · omega
    · exact LexLt.irrefl h
theorem LexLt.trans : ∀ {x y z : List Nat}, LexLt x y → LexLt y z → LexLt x z
  | [], _, _, h, _ => h.elim
  | _ :: _, [], _, h, _ => h.elim
  | _ :: _, _ :: _, [], _, h => h.elim
  | a :: x, b :: y, c :: z, h1, h2 => by
    rcases h1 with h1 | ⟨e1, h1⟩ <;> rcases h2 with h2 | ⟨e2, h2⟩
    · exact .inl (by omega)
    · exact .inl (by omega)
    · exact .inl (by omega)
    · exact .inr ⟨by omega, LexLt.trans h1 h2⟩
theorem LexLt.asymm {x y : List Nat} (h : LexLt x y) (h' : LexLt y x) : False := LexLt.irrefl (h.trans h')
/-- longer at the end -/
theorem LexLt.app : ∀ {x y : List Nat} (u v : List Nat), LexLt x y → LexLt (x ++ u) (y ++ v)
  | [], _, _, _, h => h.elim
  | _ :: _, [], _, _, h => h.elim
  | a :: x, b :: y, u, v, h => by
    rcases h with h | ⟨e, h⟩
    · exact .inl h
    · exact .inr ⟨e, LexLt.app u v h⟩
theorem LexLt.pre : ∀ (x : List Nat) {u v : List Nat}, LexLt u v → LexLt (x ++ u) (x ++ v)
  | [], _, _, h => h
  | _ :: x, _, _, h => .inr ⟨rfl, LexLt.pre x h⟩
theorem LexLt.ne {x y : List Nat} (h : LexLt x y) : x ≠ y := fun e => by
  subst e
  exact LexLt.irrefl h

/-! ### the lists of orders -/
/-- each order made longer by each of some numbers that is not in it -/
def step (rows : List Nat) (found : List (List Nat)) : List (List Nat) :=
  found.flatMap fun o => (rows.filter fun r => !o.contains r).map fun r => o ++ [r]
def build (Rs : List (List Nat)) : List (List Nat) := Rs.foldl (fun f rows => step rows f) [[]]
theorem build_nil : build [] = [[]] := rfl
theorem build_snoc (Rs : List (List Nat)) (rows : List Nat) : build (Rs ++ [rows]) = step rows (build Rs) := by
  unfold build
  rw [List.foldl_append]
  rfl
theorem mem_step {rows : List Nat} {found : List (List Nat)} {o : List Nat} : o ∈ step rows found ↔ ∃ p r, p ∈ found ∧ r ∈ rows ∧ r ∉ p ∧ o = p ++ [r] := by
  unfold step
  simp only [List.mem_flatMap, List.mem_map, List.mem_filter]
  constructor
  · rintro ⟨p, hp, r, ⟨hr, hn⟩, rfl⟩
    refine ⟨p, r, hp, hr, ?_, rfl⟩
    intro hm
    simp [hm] at hn
  · rintro ⟨p, r, hp, hr, hn, rfl⟩
    exact ⟨p, hp, r, ⟨hr, by simp [hn]⟩, rfl⟩
/-- o is a choice of unlike numbers, one of each list -/
structure Picks (Rs : List (List Nat)) (o : List Nat) : Prop where
  len : o.length = Rs.length
  nd : o.Nodup
  at_ : ∀ (i r : Nat), o[i]? = some r → ∃ rows, Rs[i]? = some rows ∧ r ∈ rows
theorem snoc_rec {α : Type} {P : List α → Prop} (h0 : P []) (hs : ∀ l a, P l → P (l ++ [a])) : ∀ l, P l := by
  have h : ∀ n (l : List α), l.length = n → P l := by
    intro n
    induction n with
    | zero =>
      intro l e
      rw [List.length_eq_zero_iff.mp e]
      exact h0
    | succ n ih =>
      intro l e
      have hne : l ≠ [] := by
        rintro rfl
        simp at e
      rw [← List.dropLast_concat_getLast hne]
      refine hs _ _ (ih _ ?_)
      rw [List.length_dropLast]
      omega
  exact fun l => h _ l rfl
theorem mem_build : ∀ (Rs : List (List Nat)) (o : List Nat), o ∈ build Rs ↔ Picks Rs o := by
  refine snoc_rec ?_ ?_
  · intro o
    rw [build_nil, List.mem_singleton]
    constructor
    · rintro rfl
      exact ⟨rfl, List.nodup_nil, fun i r h => by simp at h⟩
    · intro h
      exact List.length_eq_zero_iff.mp h.len
  · intro Rs rows ih o
    rw [build_snoc, mem_step]
    constructor
    · rintro ⟨p, r, hp, hr, hn, rfl⟩
      have P := (ih p).mp hp
      refine ⟨by simp [P.len], ?_, ?_⟩
      · rw [List.nodup_append]
        exact ⟨P.nd, by simp, by
          intro a ha b hb
          simp at hb
          subst hb
          intro e
          subst e
          exact hn ha⟩
      · intro i s h
        by_cases hi : i < p.length
        · rw [List.getElem?_append_left hi] at h
          obtain ⟨q, hq, hs⟩ := P.at_ i s h
          exact ⟨q, by rw [List.getElem?_append_left (by rw [← P.len]; exact hi)]; exact hq, hs⟩
        · rw [List.getElem?_append_right (by omega)] at h
          have e : i - p.length = 0 := by
            rcases Nat.eq_zero_or_pos (i - p.length) with e | e
            · exact e
            · rw [List.getElem?_eq_none (by simp; omega)] at h
              cases h
          rw [e] at h
          have e2 : r = s := by simpa using h
          subst e2
          refine ⟨rows, ?_, hr⟩
          rw [List.getElem?_append_right (by rw [← P.len]; omega), ← P.len, e]
          rfl
    · intro P
      have hl : o.length = Rs.length + 1 := by rw [P.len]; simp
      have hne : o ≠ [] := by
        rintro rfl
        simp at hl
      have ed := List.dropLast_concat_getLast hne
      refine ⟨o.dropLast, o.getLast hne, (ih _).mpr ⟨by rw [List.length_dropLast, hl]; rfl, ?_, ?_⟩, ?_, ?_, ed.symm⟩
      · have nd := P.nd
        rw [← ed, List.nodup_append] at nd
        exact nd.1
      · intro i r h
        have hi : i < o.dropLast.length := (List.getElem?_eq_some_iff.mp h).1
        have hi2 : i < Rs.length := by rw [List.length_dropLast, hl] at hi; omega
        obtain ⟨q, hq, hr⟩ := P.at_ i r (by rw [← ed, List.getElem?_append_left hi]; exact h)
        rw [List.getElem?_append_left hi2] at hq
        exact ⟨q, hq, hr⟩
      · obtain ⟨q, hq, hr⟩ := P.at_ Rs.length (o.getLast hne) (by
          rw [List.getLast_eq_getElem hne]
          have : o.length - 1 = Rs.length := by omega
          rw [← this]
          exact List.getElem?_eq_getElem (by omega))
        rw [List.getElem?_append_right (Nat.le_refl _), Nat.sub_self] at hq
        have e : rows = q := by simpa using hq
        rw [e]
        exact hr
      · have nd := P.nd
        rw [← ed, List.nodup_append] at nd
        intro hm
        exact nd.2.2 _ hm _ (List.mem_singleton.mpr rfl) rfl
theorem step_sorted {rows : List Nat} {found : List (List Nat)} (hr : rows.Pairwise (· < ·)) (hf : found.Pairwise LexLt) : (step rows found).Pairwise LexLt := by
  unfold step
  rw [List.pairwise_flatMap]
  refine ⟨fun o _ => ?_, hf.imp fun {a b} h x hx y hy => ?_⟩
  · rw [List.pairwise_map]
    exact (hr.filter _).imp fun {a b} h => LexLt.pre o (u := [a]) (v := [b]) (Or.inl h)
  · simp only [List.mem_map] at hx hy
    obtain ⟨r, _, rfl⟩ := hx
    obtain ⟨s, _, rfl⟩ := hy
    exact LexLt.app _ _ h
theorem build_sorted : ∀ Rs : List (List Nat), (∀ rows ∈ Rs, rows.Pairwise (· < ·)) → (build Rs).Pairwise LexLt := by
  refine snoc_rec ?_ ?_
  · intro _
    rw [build_nil]
    exact List.pairwise_singleton _ _
  · intro Rs rows ih h
    rw [build_snoc]
    exact step_sorted (h rows (by simp)) (ih fun q hq => h q (by simp [hq]))
theorem step_len {rows : List Nat} {m : Nat} (hr : rows.length ≤ m) : ∀ found : List (List Nat), (step rows found).length ≤ found.length * m
  | [] => by simp [step]
  | o :: r => by
    have ih := step_len hr r
    have e : step rows (o :: r) = ((rows.filter fun x => !o.contains x).map fun x => o ++ [x]) ++ step rows r := by
      unfold step
      rw [List.flatMap_cons]
    have h1 : ((rows.filter fun x => !o.contains x).map fun x => o ++ [x]).length ≤ m := by
      rw [List.length_map]
      exact Nat.le_trans (List.length_filter_le _ _) hr
    rw [e, List.length_append, List.length_cons, Nat.add_mul, Nat.one_mul]
    omega
theorem build_len {m : Nat} : ∀ Rs : List (List Nat), (∀ rows ∈ Rs, rows.length ≤ m) → (build Rs).length ≤ m ^ Rs.length := by
  refine snoc_rec ?_ ?_
  · intro _
    simp [build_nil]
  · intro Rs rows ih h
    rw [build_snoc]
    have h1 := step_len (h rows (by simp)) (build Rs)
    have h2 := ih fun q hq => h q (by simp [hq])
    rw [List.length_append, List.length_singleton, Nat.pow_succ]
    exact Nat.le_trans h1 (Nat.mul_le_mul_right m h2)

/-! ### the greedy choice of columns -/
section
variable {γ : Type} [DecidableEq γ]
/-- the least number below n that is not used and whose thing is the one due; one after another -/
def greedy (n : Nat) (mine : Nat → γ) : List Nat → List γ → Option (List Nat)
  | _, [] => some []
  | used, d :: ds => match ((List.range n).filter fun c => !used.contains c && decide (mine c = d)).head? with
    | none => none
    | some c => (greedy n mine (used ++ [c]) ds).map (c :: ·)
structure Comp (n : Nat) (mine : Nat → γ) (used : List Nat) (ds : List γ) (o : List Nat) : Prop where
  nd : o.Nodup
  lt : ∀ c ∈ o, c < n
  out : ∀ c ∈ o, c ∉ used
  eq : o.map mine = ds
theorem head_filter {n : Nat} {p : Nat → Bool} {c : Nat} (h : ((List.range n).filter p).head? = some c) : c < n ∧ p c = true ∧ ∀ d, d < n → p d = true → c ≤ d := by
  have hp : ((List.range n).filter p).Pairwise (· < ·) := List.pairwise_lt_range.filter _
  cases e : (List.range n).filter p with
  | nil =>
    rw [e] at h
    cases h
  | cons x r =>
    rw [e] at h hp
    have e2 : x = c := by simpa using h
    subst e2
    have hm : x ∈ (List.range n).filter p := by rw [e]; exact List.mem_cons_self
    rw [List.mem_filter, List.mem_range] at hm
    refine ⟨hm.1, hm.2, fun d hd hq => ?_⟩
    have hd2 : d ∈ (List.range n).filter p := List.mem_filter.mpr ⟨List.mem_range.mpr hd, hq⟩
    rw [e] at hd2
    rcases List.mem_cons.mp hd2 with rfl | hd2
    · exact Nat.le_refl _
    · exact Nat.le_of_lt ((List.pairwise_cons.mp hp).1 d hd2)
theorem head_filter_none {n : Nat} {p : Nat → Bool} (h : ((List.range n).filter p).head? = none) : ∀ d, d < n → p d = true → False := by
  intro d hd hq
  have hd2 : d ∈ (List.range n).filter p := List.mem_filter.mpr ⟨List.mem_range.mpr hd, hq⟩
  cases e : (List.range n).filter p with
  | nil =>
    rw [e] at hd2
    cases hd2
  | cons x r =>
    rw [e] at h
    cases h
theorem greedy_ok {n : Nat} {mine : Nat → γ} : ∀ (ds : List γ) (used g : List Nat), greedy n mine used ds = some g → Comp n mine used ds g
  | [], used, g, h => by
    have e : g = [] := (Option.some.inj h).symm
    subst e
    exact ⟨List.nodup_nil, fun _ h => (by cases h), fun _ h => (by cases h), rfl⟩
  | d :: ds, used, g, h => by
    unfold greedy at h
    split at h
    · cases h
    · rename_i c hc
      obtain ⟨h1, h2, _⟩ := head_filter hc
      simp only [Bool.and_eq_true, Bool.not_eq_true', decide_eq_true_eq] at h2
      cases e : greedy n mine (used ++ [c]) ds with
      | none =>
        rw [e] at h
        cases h
      | some g' =>
        rw [e] at h
        have e2 : g = c :: g' := (Option.some.inj h).symm
        subst e2
        have C := greedy_ok ds _ _ e
        refine ⟨List.nodup_cons.mpr ⟨fun hm => C.out c hm (by simp), C.nd⟩, ?_, ?_, ?_⟩
        · intro x hx
          rcases List.mem_cons.mp hx with rfl | hx
          · exact h1
          · exact C.lt x hx
        · intro x hx
          rcases List.mem_cons.mp hx with rfl | hx
          · intro hu
            have := h2.1
            simp [hu] at this
          · intro hu
            exact C.out x hx (by simp [hu])
        · rw [List.map_cons, h2.2, C.eq]
theorem greedy_least {n : Nat} {mine : Nat → γ} : ∀ (ds : List γ) (used o : List Nat), Comp n mine used ds o → ∃ g, greedy n mine used ds = some g ∧ LexLe g o
  | [], used, o, C => by
    have e : o = [] := by
      have := C.eq
      simpa using this
    subst e
    exact ⟨[], rfl, .inl rfl⟩
  | d :: ds, used, [], C => by
    have := C.eq
    simp at this
  | d :: ds, used, c0 :: o, C => by
    have e0 := C.eq
    rw [List.map_cons] at e0
    have em : mine c0 = d := (List.cons.inj e0).1
    have es : o.map mine = ds := (List.cons.inj e0).2
    have h0 : c0 < n := C.lt c0 List.mem_cons_self
    have hu : c0 ∉ used := C.out c0 List.mem_cons_self
    obtain ⟨hn0, hnd⟩ := List.nodup_cons.mp C.nd
    unfold greedy
    split
    · rename_i hc
      exact (head_filter_none hc c0 h0 (by simp [hu, em])).elim
    · rename_i c hc
      obtain ⟨h1, h2, h3⟩ := head_filter hc
      simp only [Bool.and_eq_true, Bool.not_eq_true', decide_eq_true_eq] at h2
      have hcu : c ∉ used := fun hm => by
        have := h2.1
        simp [hm] at this
      have hle : c ≤ c0 := h3 c0 h0 (by simp [hu, em])
      by_cases e : c = c0
      · subst e
        have C' : Comp n mine (used ++ [c]) ds o := ⟨hnd, fun x hx => C.lt x (List.mem_cons_of_mem _ hx), fun x hx hm => by
          rcases List.mem_append.mp hm with hm | hm
          · exact C.out x (List.mem_cons_of_mem _ hx) hm
          · have e := List.mem_singleton.mp hm
            subst e
            exact hn0 hx, es⟩
        obtain ⟨g, eg, hg⟩ := greedy_least ds _ _ C'
        rw [eg]
        refine ⟨c :: g, rfl, ?_⟩
        rcases hg with rfl | hg
        · exact .inl rfl
        · exact .inr (.inr ⟨rfl, hg⟩)
      · have hlt : c < c0 := by omega
        let f : Nat → Nat := fun x => if x = c then c0 else x
        have hf : ∀ x, mine (f x) = mine x := fun x => by
          show mine (if x = c then c0 else x) = mine x
          split
          · rename_i q
            rw [q, em, h2.2]
          · rfl
        have C' : Comp n mine (used ++ [c]) ds (o.map f) := by
          refine ⟨?_, ?_, ?_, ?_⟩
          · show (o.map f).Pairwise (· ≠ ·)
            rw [List.pairwise_map]
            refine List.Pairwise.imp_of_mem ?_ hnd
            intro a b ha hb hab
            show (if a = c then c0 else a) ≠ (if b = c then c0 else b)
            split <;> split
            · rename_i q1 q2
              omega
            · rename_i q1 q2
              intro q
              rw [q] at hn0
              exact hn0 hb
            · rename_i q1 q2
              intro q
              rw [← q] at hn0
              exact hn0 ha
            · exact hab
          · intro x hx
            obtain ⟨y, hy, rfl⟩ := List.mem_map.mp hx
            show (if y = c then c0 else y) < n
            split
            · exact h0
            · exact C.lt y (List.mem_cons_of_mem _ hy)
          · intro x hx hm
            obtain ⟨y, hy, rfl⟩ := List.mem_map.mp hx
            have hm2 : (if y = c then c0 else y) ∈ used ++ [c] := hm
            split at hm2
            · rcases List.mem_append.mp hm2 with hm2 | hm2
              · exact hu hm2
              · have := List.mem_singleton.mp hm2
                omega
            · rename_i q
              rcases List.mem_append.mp hm2 with hm2 | hm2
              · exact C.out y (List.mem_cons_of_mem _ hy) hm2
              · exact q (List.mem_singleton.mp hm2)
          · rw [List.map_map, ← es]
            exact List.map_congr_left fun x _ => hf x
        obtain ⟨g, eg, hg⟩ := greedy_least ds _ _ C'
        rw [eg]
        exact ⟨c :: g, rfl, .inr (.inl hlt)⟩
end
end K56
namespace K56
/-! ### orders of all numbers below n -/
structure IsOrd (n : Nat) (a : List Nat) : Prop where
  len : a.length = n
  nd : a.Nodup
  lt : ∀ x ∈ a, x < n
theorem IsOrd.perm {n : Nat} {a : List Nat} (h : IsOrd n a) : a.Perm (List.range n) := by
  rw [List.perm_ext_iff_of_nodup h.nd List.nodup_range]
  intro x
  rw [List.mem_range]
  refine ⟨h.lt x, fun hx => ?_⟩
  by_cases hm : x ∈ a
  · exact hm
  · have h2 : (x :: a).Nodup := List.nodup_cons.mpr ⟨hm, h.nd⟩
    have := h2.length_le_of_subset (l₂ := List.range n) (fun y hy => by
      rw [List.mem_range]
      rcases List.mem_cons.mp hy with rfl | hy
      · exact hx
      · exact h.lt y hy)
    rw [List.length_cons, List.length_range, h.len] at this
    omega
theorem IsOrd.mem {n x : Nat} {a : List Nat} (h : IsOrd n a) (hx : x < n) : x ∈ a := h.perm.mem_iff.mpr (List.mem_range.mpr hx)
theorem isOrd_of_perm {n : Nat} {a : List Nat} (h : a.Perm (List.range n)) : IsOrd n a :=
  ⟨by rw [h.length_eq, List.length_range], h.symm.nodup List.nodup_range, fun x hx => List.mem_range.mp (h.mem_iff.mp hx)⟩
def alls (n : Nat) : List (List Nat) := List.replicate n (List.range n)
theorem alls_at {n i : Nat} {rows : List Nat} (h : (alls n)[i]? = some rows) : rows = List.range n ∧ i < n := by
  unfold alls at h
  rw [List.getElem?_replicate] at h
  split at h
  · rename_i q
    exact ⟨(Option.some.inj h).symm, q⟩
  · cases h
theorem picks_sub {n : Nat} {Rs : List (List Nat)} {a : List Nat} (hl : Rs.length = n) (hr : ∀ rows ∈ Rs, ∀ r ∈ rows, r < n) (h : Picks Rs a) : IsOrd n a := by
  refine ⟨h.len.trans hl, h.nd, fun x hx => ?_⟩
  obtain ⟨i, hi⟩ := List.getElem?_of_mem hx
  obtain ⟨rows, e, hm⟩ := h.at_ i x hi
  exact hr rows (List.mem_of_getElem? e) x hm
theorem mem_alls {n : Nat} {a : List Nat} : a ∈ build (alls n) ↔ IsOrd n a := by
  rw [mem_build]
  constructor
  · intro h
    exact picks_sub (by simp [alls]) (fun rows hr r hm => by
      have e : rows = List.range n := List.eq_of_mem_replicate hr
      rw [e] at hm
      exact List.mem_range.mp hm) h
  · intro h
    refine ⟨by simp [alls, h.len], h.nd, fun i r e => ⟨List.range n, ?_, ?_⟩⟩
    · unfold alls
      rw [List.getElem?_replicate, if_pos]
      rw [← h.len]
      exact (List.getElem?_eq_some_iff.mp e).1
    · exact List.mem_range.mpr (h.lt r (List.mem_of_getElem? e))
theorem alls_sorted (n : Nat) : (build (alls n)).Pairwise LexLt := build_sorted _ fun rows hr => by
  have e : rows = List.range n := List.eq_of_mem_replicate hr
  rw [e]
  exact List.pairwise_lt_range
theorem sorted_at {L : List (List Nat)} (h : L.Pairwise LexLt) {i k : Nat} {x y : List Nat} (hi : L[i]? = some x) (hk : L[k]? = some y) (hik : i < k) : LexLt x y := by
  obtain ⟨h1, e1⟩ := List.getElem?_eq_some_iff.mp hi
  obtain ⟨h2, e2⟩ := List.getElem?_eq_some_iff.mp hk
  have := List.pairwise_iff_getElem.mp h i k h1 h2 hik
  rw [e1, e2] at this
  exact this

/-! ### tables -/
section
variable {α : Type} [Inhabited α]
def ent (T : List (List α)) (i j : Nat) : α := (((T[i]?).getD [])[j]?).getD default
structure Rect (T : List (List α)) (h w : Nat) : Prop where
  hi : T.length = h
  wd : ∀ row ∈ T, row.length = w
omit [Inhabited α] in
theorem Rect.row {T : List (List α)} {h w i : Nat} (R : Rect T h w) (hi : i < h) : ∃ row, T[i]? = some row ∧ row.length = w := by
  have hl : i < T.length := by rw [R.hi]; exact hi
  exact ⟨T[i], List.getElem?_eq_getElem hl, R.wd _ (List.getElem_mem hl)⟩
theorem ent_of {T : List (List α)} {i j : Nat} {row : List α} {x : α} (hr : T[i]? = some row) (hx : row[j]? = some x) : ent T i j = x := by
  unfold ent
  rw [hr]
  show (row[j]?).getD default = x
  rw [hx]
  rfl
theorem Rect.ent {T : List (List α)} {h w i j : Nat} (R : Rect T h w) (hi : i < h) (hj : j < w) : ∃ row, T[i]? = some row ∧ row[j]? = some (ent T i j) := by
  obtain ⟨row, e, hl⟩ := R.row hi
  have hl' : j < row.length := by rw [hl]; exact hj
  refine ⟨row, e, ?_⟩
  rw [ent_of e (List.getElem?_eq_getElem hl')]
  exact List.getElem?_eq_getElem hl'
def taken (T : List (List α)) (a b : List Nat) : List (List α) := a.map fun i => b.map fun j => ent T i j
theorem taken_rect (T : List (List α)) (a b : List Nat) : Rect (taken T a b) a.length b.length :=
  ⟨by simp [taken], fun row hr => by
    obtain ⟨i, _, rfl⟩ := List.mem_map.mp hr
    simp⟩
theorem taken_ent {T : List (List α)} {a b : List Nat} {i j x y : Nat} (hi : a[i]? = some x) (hj : b[j]? = some y) : ent (taken T a b) i j = ent T x y := by
  refine ent_of (row := b.map fun j => ent T x j) ?_ ?_
  · unfold taken
    rw [List.getElem?_map, hi]
    rfl
  · rw [List.getElem?_map, hj]
    rfl
theorem rect_ext {T U : List (List α)} {h w : Nat} (R : Rect T h w) (S : Rect U h w) (e : ∀ i j, i < h → j < w → ent T i j = ent U i j) : T = U := by
  refine List.ext_getElem? fun i => ?_
  by_cases hi : i < h
  · obtain ⟨r, er, hr⟩ := R.row hi
    obtain ⟨s, es, hs⟩ := S.row hi
    rw [er, es]
    congr 1
    refine List.ext_getElem? fun j => ?_
    by_cases hj : j < w
    · obtain ⟨r', er', hr'⟩ := R.ent hi hj
      obtain ⟨s', es', hs'⟩ := S.ent hi hj
      rw [er] at er'
      rw [es] at es'
      cases er'
      cases es'
      rw [hr', hs', e i j hi hj]
    · rw [List.getElem?_eq_none (by omega), List.getElem?_eq_none (by omega)]
  · rw [List.getElem?_eq_none (by rw [R.hi]; omega), List.getElem?_eq_none (by rw [S.hi]; omega)]
/-- the orders a, b of the rows and columns of T make U -/
structure Valid (h w : Nat) (T U : List (List α)) (a b : List Nat) : Prop where
  oa : IsOrd h a
  ob : IsOrd w b
  eq : taken T a b = U
def Least (h w : Nat) (T U : List (List α)) : Option (List Nat × List Nat) → Prop
  | none => ∀ a b, ¬ Valid h w T U a b
  | some (a, b) => Valid h w T U a b ∧ ∀ a' b', Valid h w T U a' b' → LexLt a a' ∨ (a = a' ∧ LexLe b b')
theorem Least.uniq {h w : Nat} {T U : List (List α)} {r s : Option (List Nat × List Nat)} (hr : Least h w T U r) (hs : Least h w T U s) : r = s := by
  match r, s, hr, hs with
  | none, none, _, _ => rfl
  | none, some (a, b), hr, hs => exact (hr a b hs.1).elim
  | some (a, b), none, hr, hs => exact (hs a b hr.1).elim
  | some (a, b), some (c, d), hr, hs =>
    have ea : a = c ∧ b = d := by
      rcases hr.2 c d hs.1 with h1 | ⟨h1, h1'⟩ <;> rcases hs.2 a b hr.1 with h2 | ⟨h2, h2'⟩
      · exact (h1.asymm h2).elim
      · subst h2
        exact (LexLt.irrefl h1).elim
      · subst h1
        exact (LexLt.irrefl h2).elim
      · refine ⟨h1, ?_⟩
        rcases h1' with h1' | h1' <;> rcases h2' with h2' | h2'
        · exact h1'
        · exact h1'
        · exact h2'.symm
        · exact (h1'.asymm h2').elim
    rw [ea.1, ea.2]
/-- found by a search through a sorted list of all orders of the rows that matter -/
theorem least_some {h w : Nat} {T U : List (List α)} {L : List (List Nat)} {i : Nat} {a b : List Nat} (hs : L.Pairwise LexLt) (hc : ∀ a b, Valid h w T U a b → a ∈ L) (hi : L[i]? = some a)
    (hb : ∀ (k : Nat) x, k < i → L[k]? = some x → ∀ y, ¬ Valid h w T U x y) (hv : Valid h w T U a b) (hl : ∀ y, Valid h w T U a y → LexLe b y) : Least h w T U (some (a, b)) := by
  refine ⟨hv, fun a' b' v => ?_⟩
  obtain ⟨k, hk⟩ := List.getElem?_of_mem (hc a' b' v)
  rcases Nat.lt_trichotomy i k with q | q | q
  · exact .inl (sorted_at hs hi hk q)
  · subst q
    rw [hi] at hk
    cases hk
    exact .inr ⟨rfl, hl b' v⟩
  · exact (hb k a' q hk b' v).elim
theorem least_none {h w : Nat} {T U : List (List α)} {L : List (List Nat)} (hc : ∀ a b, Valid h w T U a b → a ∈ L) (hb : ∀ (k : Nat) x, L[k]? = some x → ∀ y, ¬ Valid h w T U x y) : Least h w T U none := fun a b v => by
  obtain ⟨k, hk⟩ := List.getElem?_of_mem (hc a b v)
  exact hb k a hk b v
theorem valid_alls {h w : Nat} {T U : List (List α)} {a b : List Nat} (v : Valid h w T U a b) : a ∈ build (alls h) := mem_alls.mpr v.oa
/-- tables of other sizes -/
theorem least_size {h w h' w' : Nat} {T U : List (List α)} (R : Rect U h' w') (h0 : 0 < h') (d : h ≠ h' ∨ w ≠ w') : Least h w T U none := fun a b v => by
  have S := taken_rect T a b
  rw [v.eq, v.oa.len, v.ob.len] at S
  rcases d with d | d
  · exact d (S.hi.symm.trans R.hi)
  · obtain ⟨row, e, hl⟩ := R.row h0
    exact d ((S.wd row (List.mem_of_getElem? e)).symm.trans hl)

/-! ### columns -/
def colT (T : List (List α)) (a : List Nat) (j : Nat) : List α := a.map fun i => ent T i j
def dueC (U : List (List α)) (j : Nat) : List α := U.map fun row => (row[j]?).getD default
theorem dueC_at {U : List (List α)} {h w i j : Nat} (R : Rect U h w) (hi : i < h) : (dueC U j)[i]? = some (ent U i j) := by
  obtain ⟨row, e, _⟩ := R.row hi
  unfold dueC ent
  rw [List.getElem?_map, e]
  rfl
theorem valid_iff {h w : Nat} {T U : List (List α)} {a b : List Nat} (R : Rect U h w) (oa : IsOrd h a) [DecidableEq α] : Valid h w T U a b ↔ Comp w (colT T a) [] ((List.range w).map (dueC U)) b := by
  constructor
  · intro v
    refine ⟨v.ob.nd, v.ob.lt, fun _ _ => by simp, ?_⟩
    refine List.ext_getElem? fun j => ?_
    rw [List.getElem?_map, List.getElem?_map]
    by_cases hj : j < w
    · have hb : j < b.length := by rw [v.ob.len]; exact hj
      rw [List.getElem?_eq_getElem hb, List.getElem?_range hj]
      show some (colT T a b[j]) = some (dueC U j)
      congr 1
      refine List.ext_getElem? fun i => ?_
      by_cases hi : i < h
      · have ha : i < a.length := by rw [oa.len]; exact hi
        rw [dueC_at R hi]
        unfold colT
        rw [List.getElem?_map, List.getElem?_eq_getElem ha, ← v.eq]
        show some (ent T a[i] b[j]) = _
        rw [taken_ent (List.getElem?_eq_getElem ha) (List.getElem?_eq_getElem hb)]
      · rw [List.getElem?_eq_none (by unfold colT; rw [List.length_map, oa.len]; omega), List.getElem?_eq_none (by unfold dueC; rw [List.length_map, R.hi]; omega)]
    · rw [List.getElem?_eq_none (by rw [v.ob.len]; omega), List.getElem?_eq_none (by rw [List.length_range]; omega)]
      rfl
  · intro C
    have hl : b.length = w := by
      have := congrArg List.length C.eq
      simpa using this
    refine ⟨oa, ⟨hl, C.nd, C.lt⟩, ?_⟩
    have S := taken_rect T a b
    rw [oa.len, hl] at S
    refine rect_ext S R fun i j hi hj => ?_
    have ha : i < a.length := by rw [oa.len]; exact hi
    have hb : j < b.length := by rw [hl]; exact hj
    rw [taken_ent (List.getElem?_eq_getElem ha) (List.getElem?_eq_getElem hb)]
    have e := congrArg (fun l => l[j]?) C.eq
    simp only [List.getElem?_map] at e
    rw [List.getElem?_eq_getElem hb, List.getElem?_range hj] at e
    have e2 : colT T a b[j] = dueC U j := Option.some.inj e
    have e3 := congrArg (fun l => l[i]?) e2
    rw [dueC_at R hi] at e3
    unfold colT at e3
    rw [List.getElem?_map, List.getElem?_eq_getElem ha] at e3
    exact Option.some.inj e3
/-- what the greedy search for columns tells -/
theorem greedy_some {h w : Nat} {T U : List (List α)} {a b : List Nat} [DecidableEq α] (R : Rect U h w) (oa : IsOrd h a) (e : greedy w (colT T a) [] ((List.range w).map (dueC U)) = some b) :
    Valid h w T U a b ∧ ∀ y, Valid h w T U a y → LexLe b y := by
  refine ⟨(valid_iff R oa).mpr (greedy_ok _ _ _ e), fun y v => ?_⟩
  obtain ⟨g, eg, hg⟩ := greedy_least _ _ _ ((valid_iff R oa).mp v)
  rw [e] at eg
  cases eg
  exact hg
theorem greedy_none {h w : Nat} {T U : List (List α)} {a : List Nat} [DecidableEq α] (R : Rect U h w) (oa : IsOrd h a) (e : greedy w (colT T a) [] ((List.range w).map (dueC U)) = none) :
    ∀ y, ¬ Valid h w T U a y := fun y v => by
  obtain ⟨g, eg, _⟩ := greedy_least _ _ _ ((valid_iff R oa).mp v)
  rw [e] at eg
  cases eg
/-- one turn of it -/
theorem greedy_turn {γ : Type} [DecidableEq γ] {n : Nat} {mine : Nat → γ} {used : List Nat} {d : γ} {ds : List γ} {c : Nat} (e : ((List.range n).filter fun c => !used.contains c && decide (mine c = d)).head? = some c) :
    greedy n mine used (d :: ds) = (greedy n mine (used ++ [c]) ds).map (c :: ·) := by
  rw [greedy]
  rw [e]
theorem greedy_stop {γ : Type} [DecidableEq γ] {n : Nat} {mine : Nat → γ} {used : List Nat} {d : γ} {ds : List γ} (e : ((List.range n).filter fun c => !used.contains c && decide (mine c = d)).head? = none) :
    greedy n mine used (d :: ds) = none := by
  rw [greedy]
  rw [e]
/-- the rows are put in order by their contents -/
theorem valid_rows {h w : Nat} {T U : List (List α)} {a b : List Nat} (RT : Rect T h w) (v : Valid h w T U a b) {i r : Nat} {row row' : List α} (hi : a[i]? = some r) (ht : T[r]? = some row) (hu : U[i]? = some row') : row'.Perm row := by
  have hr : r < h := v.oa.lt r (List.mem_of_getElem? hi)
  have e : row' = b.map fun j => ent T r j := by
    have := v.eq
    rw [← this] at hu
    unfold taken at hu
    rw [List.getElem?_map, hi] at hu
    exact (Option.some.inj hu).symm
  have e2 : row = (List.range w).map fun j => ent T r j := by
    refine List.ext_getElem? fun j => ?_
    by_cases hj : j < w
    · obtain ⟨r', er, hr'⟩ := RT.ent hr hj
      rw [ht] at er
      cases er
      rw [hr', List.getElem?_map, List.getElem?_range hj]
      rfl
    · rw [List.getElem?_eq_none (by rw [RT.wd row (List.mem_of_getElem? ht)]; omega), List.getElem?_eq_none (by rw [List.length_map, List.length_range]; omega)]
  rw [e, e2]
  exact v.ob.perm.map _
theorem valid_build {h w : Nat} {T U : List (List α)} {a b : List Nat} {Rs : List (List Nat)} (RT : Rect T h w) (RU : Rect U h w) (v : Valid h w T U a b) (hl : Rs.length = h)
    (hc : ∀ (i r : Nat) (row row' : List α) (rows : List Nat), Rs[i]? = some rows → T[r]? = some row → U[i]? = some row' → row'.Perm row → r ∈ rows) : a ∈ build Rs := by
  rw [mem_build]
  refine ⟨v.oa.len.trans hl.symm, v.oa.nd, fun i r hi => ?_⟩
  have h1 : i < h := by
    rw [← v.oa.len]
    exact (List.getElem?_eq_some_iff.mp hi).1
  have h2 : i < Rs.length := by rw [hl]; exact h1
  obtain ⟨row, er, _⟩ := RT.row (v.oa.lt r (List.mem_of_getElem? hi))
  obtain ⟨row', eu, _⟩ := RU.row h1
  exact ⟨Rs[i], List.getElem?_eq_getElem h2, hc i r row row' _ (List.getElem?_eq_getElem h2) er eu (valid_rows RT v hi er eu)⟩

/-! ### a form that is not there -/
theorem least_spoiled {h w : Nat} {T U : List (List α)} {z : α} {p q : Nat} {r : Option (List Nat × List Nat)} (hz : ∀ i j, i < h → j < w → ent T i j ≠ z) (hp : p < h) (hq : q < w) (hu : ent U p q = z) (hr : Least h w T U r) : r = none := by
  match r, hr with
  | none, _ => rfl
  | some (a, b), hr =>
    have v := hr.1
    have ha : p < a.length := by rw [v.oa.len]; exact hp
    have hb : q < b.length := by rw [v.ob.len]; exact hq
    refine (hz a[p] b[q] (v.oa.lt _ (List.getElem_mem ha)) (v.ob.lt _ (List.getElem_mem hb)) ?_).elim
    rw [← taken_ent (T := T) (List.getElem?_eq_getElem ha) (List.getElem?_eq_getElem hb), v.eq, hu]
theorem least_spoiled' {h w : Nat} {T U : List (List α)} {z : α} {p q : Nat} {r : Option (List Nat × List Nat)} (hz : ∀ i j, i < h → j < w → ent T i j ≠ z) (hp : p < h) (hq : q < w) (hu : ent U p q = z) (hr : Least h w U T r) : r = none := by
  match r, hr with
  | none, _ => rfl
  | some (a, b), hr =>
    have v := hr.1
    obtain ⟨i, hi⟩ := List.getElem?_of_mem (v.oa.mem hp)
    obtain ⟨j, hj⟩ := List.getElem?_of_mem (v.ob.mem hq)
    have h1 : i < h := by rw [← v.oa.len]; exact (List.getElem?_eq_some_iff.mp hi).1
    have h2 : j < w := by rw [← v.ob.len]; exact (List.getElem?_eq_some_iff.mp hj).1
    refine (hz i j h1 h2 ?_).elim
    rw [← v.eq, taken_ent hi hj, hu]
end
end K56

/-! Rules of our own over the layer: enumerate of a tuple, sorted of a tuple of ints, > of pairs of orders. -/
namespace K56
open PySem PySem.Spec PyProof.Rows L2

/-! ### enumerate(t), t a tuple -/
abbrev tupIt (t : Addr) : Obj := { cls := .type "tuple_iterator", data := .fields #[.ref t, .int 0 0] }
abbrev enumOn (b : Addr) : Obj := { cls := .type "enumerate", data := .fields #[.none, .bool false, .ref b, rawInt 0, .none, .none] }
theorem enum_new_tuple (t : Addr) (items : Array Value) :
    Meets (Builtin.«enumerate.__new__» ⟨[.type "enumerate", .ref t], []⟩) (fun _ R s => s.heap.IsTuple t items ∧
      R (.ok (.ret (.ref (s.heap.push (tupIt t)).objs.size))) { s with heap := (s.heap.push (tupIt t)).push (enumOn s.heap.objs.size) }) := by
  refine .of_wp fun prog w A R s hyp => ?_
  obtain ⟨heap, gens, drawn, toks, os⟩ := s
  obtain ⟨isT, hR⟩ := hyp
  have subE := sub_enumerate
  have go : ∀ {A' : Around} {E : Value → Shared → Prop} {Q : Value → Shared → Prop}, Q (.ref heap.objs.size) ⟨heap.push (tupIt t), gens, drawn, toks, os⟩ →
      wpAny (model prog w) A' (pyIter (.ref t)) Q E ⟨heap, gens, drawn, toks, os⟩ := fun z => wpAny_pyIter_tuple isT z
  wp_walk using go
  refine wpAny_stack_any fun _ => wpAny_pure ?_
  split
  · rename_i cl _ _ _ _ _
    cases (cl == Value.type "enumerate") <;> (wp_walk using go; exact ⟨_, rfl, hR⟩)
  · (wp_walk using go; exact ⟨_, rfl, hR⟩)
theorem call_enum_tuple {prog : Program} {w : World} {A : Around} {E : Value → Shared → Prop} {s : Shared} {t : Addr} {items : Array Value} {Q : Value → Shared → Prop} (ht : s.heap.IsTuple t items)
    (h : ∀ g : Heap, IsEnum g (s.heap.objs.size + 1) s.heap.objs.size 0 .none → g.IsTupleIter s.heap.objs.size t 0 → (∀ b o, s.heap.get? b = some o → g.get? b = some o) → Q (.ref (s.heap.objs.size + 1)) { s with heap := g }) :
    wpAny (model prog w) A (call (.type "enumerate") [.ref t]) Q E s := by
  have z : (s.heap.push (tupIt t)).objs.size = s.heap.objs.size + 1 := Heap.size_push ..
  have en : ((s.heap.push (tupIt t)).push (enumOn s.heap.objs.size)).get? (s.heap.objs.size + 1) = some (enumOn s.heap.objs.size) := by
    simpa [z] using (s.heap.push (tupIt t)).get?_push_size (o := enumOn s.heap.objs.size) rfl
  refine callType_new F.called_enumerate (by decide) (F.typeCall_enumerate_1 _) (F.newCall_enumerate_1 _) (fun o => F.args_object_init_2 o _) F.entry_enumerate_new (enum_new_tuple t items) ⟨ht, ?_⟩
  show _ ∧ _
  rw [z]
  refine ⟨⟨_, en, rfl⟩, h _ en ?_ fun b o e => Heap.get?_push_of_some _ (Heap.get?_push_of_some _ e)⟩
  exact ⟨_, Heap.get?_push_of_some _ (Heap.get?_push_size _ rfl), rfl, rfl⟩
/-- the tuple at a, each item in a new pair with its place -/
def IteT (K : PySem.W.Frag) (a : Addr) : It where
  go := fun i H => ∃ (xs : List V) (x : V), SqT K H a xs ∧ xs[i]? = some x
  yld := fun i H v H' => ∃ p x, v = .ref p ∧ H p = none ∧ H' = upd H p (.tup [.int (i : Nat), x]) ∧ ∀ xs, SqT K H a xs → xs[i]? = some x
  stop := fun i H => ∃ xs : List V, SqT K H a xs ∧ xs.length = i
theorem tup_ne_iter {h : Heap} {a it b : Addr} {xs : Array Value} {i : Nat} (x : h.IsTuple a xs) (y : h.IsTupleIter it b i) : a ≠ it := by
  rintro rfl
  obtain ⟨o, ho, c, _⟩ := x
  obtain ⟨o2, ho2, c2, _⟩ := y
  cases ho.symm.trans ho2
  exact absurd (Value.type.inj (c.symm.trans c2)) (by decide)
theorem tup_ne_enum {h : Heap} {a e it : Addr} {xs : Array Value} {i : Int} {old : Value} (x : h.IsTuple a xs) (y : IsEnum h e it i old) : a ≠ e := by
  rintro rfl
  obtain ⟨o, ho, c, _⟩ := x
  cases ho.symm.trans y
  exact absurd (Value.type.inj c) (by decide)
theorem turn_enumT {P : Program} {w : World} {K : PySem.W.Frag} {elts : List Expr} {kk : Nat} {tpos : Pos} (a e it : Addr) :
    Turn P w K (.Tuple elts kk tpos) (IteT K a) [e, it] e (fun i h => (∃ old, IsEnum h e it ((i : Nat) : Int) old) ∧ h.IsTupleIter it a i ∧ e ≠ it) := by
  have two : ∀ {b : Addr}, b ∈ [e, it] → b = e ∨ b = it := fun {b} hb => by simpa using hb
  refine ⟨by simp, ?_, ?_, ?_, ?_, ?_⟩
  · rintro i h ⟨⟨old, he⟩, ⟨o, ho, hc, hd⟩, _⟩ b hb
    rcases two hb with rfl | rfl
    · exact ⟨_, he, fun v q => nomatch q⟩
    · exact ⟨o, ho, fun v q => by rw [hd] at q; cases q⟩
  · rintro i h h' ⟨⟨old, he⟩, hi, hne⟩ k
    exact ⟨⟨old, k e (by simp) _ he⟩, hi.at fun o q => k it (by simp) o q, hne⟩
  · intro X hP hw hK hc i pins s σ H E I hf st hg
    subst hP hw hK
    obtain ⟨⟨old, he⟩, ⟨hit, hne⟩⟩ := st
    obtain ⟨xs, x, hq, hx⟩ := hg
    obtain ⟨its, rv, p, room⟩ := I.tuple hq
    obtain ⟨u, ⟨hu, ru⟩⟩ := rv.get hx
    have el : e < s.heap.objs.size := Heap.lt_size he
    have il : it < s.heap.objs.size := by
      obtain ⟨_, q, _⟩ := hit
      exact Heap.lt_size q
    have tl : a < s.heap.objs.size := p.lt
    have isT : s.heap.IsTuple a its.toArray := p
    have nta : a ≠ it := tup_ne_iter isT hit
    have nte : e ≠ a := fun q => tup_ne_enum isT he q.symm
    have hi : i < its.toArray.size := by
      have q := (List.getElem?_eq_some_iff.mp hu).1
      simpa using q
    have D := Draws.tuple (prog := X.prog) (w := X.w) (A := X.A.in1) (show X.A.in1.handled = none from I.ok.hd hc) it a nta its.toArray
    refine wpAny_pyNext_enum_itemD D he ⟨hit, isT⟩ hi hne (by simp [hne, nte]) fun y h' tk hy ho st' hT hsz hk => ?_
    have ey : y = u := by
      have q : its.toArray[i]? = some u := by simpa using hu
      rw [q] at hy
      exact (Option.some.inj hy).symm
    subst ey
    refine ⟨_, rfl, wpAny_letOwnedTupleGo_enum (s := { s with heap := h', toks := tk + 1 }) ho fun h2 he2 sb => ?_⟩
    have pair : h2.get? s.heap.objs.size = some { cls := .type "tuple", data := .seq #[.int i tk, y] } := (sb.2 _ (Nat.ne_of_gt el)).trans hT
    have fresh : ObjOk X.prog X.w (upd H s.heap.objs.size (.tup [.int (i : Nat), x])) h2 s.heap.objs.size (.tup [.int (i : Nat), x]) := by
      refine ⟨?_, [.int i tk, y], .cons ⟨_, rfl⟩ (.cons ru .nil), ⟨_, pair, rfl, _, rfl⟩⟩
      show 2 ≤ sizeLine
      decide
    have I2 : Inv X pins σ (upd H s.heap.objs.size (.tup [.int (i : Nat), x])) { s with heap := h2, toks := tk + 1 } := by
      refine I.turnedNew (ch := [e, it]) (fun b ob hb q => ?_) hf (Nat.le_refl _) fresh
      have b1 : b ≠ e := fun z => hb (by simp [z])
      have b2 : b ≠ it := fun z => hb (by simp [z])
      exact (sb.2 b b1).trans (hk b ob b1 b2 q)
    refine ⟨.ref s.heap.objs.size, _, I2, rfl, ⟨_, x, rfl, I.hok.fresh (Nat.le_refl _), rfl, fun ys hy2 => ?_⟩, ⟨⟨y, ?_⟩, st'.1.at fun o q => (sb.2 it (Ne.symm hne)).trans q, hne⟩, fun b hb => ?_⟩
    · rw [I.tuple_inj hy2 hq]
      exact hx
    · have ei : ((i + 1 : Nat) : Int) = (i : Int) + 1 := by omega
      rw [ei]
      exact he2
    · have bl : b < s.heap.objs.size := by
        rcases two hb with rfl | rfl
        · exact el
        · exact il
      rw [upd_ne (Nat.ne_of_lt bl)]
      exact (hf b hb).1
  · intro X hP hw hK hc i pins s σ H E I hf st hg
    subst hP hw hK
    obtain ⟨⟨old, he⟩, ⟨hit, hne⟩⟩ := st
    obtain ⟨xs, hq, rfl⟩ := hg
    obtain ⟨its, rv, p, room⟩ := I.tuple hq
    have isT : s.heap.IsTuple a its.toArray := p
    have D := Draws.tuple (prog := X.prog) (w := X.w) (A := X.A.in1) (show X.A.in1.handled = none from I.ok.hd hc) it a (tup_ne_iter isT hit) its.toArray
    have all : s.heap.IsTupleIter it a its.toArray.size := by
      rw [List.size_toArray, ← rv.length]
      exact hit
    refine wpAny_pyNext_enum_endD D he ⟨all, isT⟩ fun g eb => ?_
    obtain ⟨k0, k1, _, k3, k4, k5⟩ := hf it (by simp)
    exact ⟨rfl, I.turned (t' := s.toks) (fun b o hb q => eb b o hb q) k0 k1 k3 k4 k5⟩
  · rintro A i s Q E ⟨⟨_, he⟩, _⟩ h
    exact wpAny_pyIter_enum he h
def iEnumT (K : PySem.W.Frag) (ta : TA) : TI := fun σ H R => ta σ H fun vs H1 => ∃ a xs, vs = [.ref a] ∧ SqT K H1 a xs ∧ R (IteT K a) H1
theorem pi_enumT {X : Cx} {e : Expr} {ta : TA} {p pos tpos : Pos} {elts : List Expr} {kk : Nat} (hg : Gl X "enumerate") (hm : X.mg "enumerate" = none) (ha : PA X [e] ta) (hs : starEach [e] X.env = [(false, eval e X.env)] := by rfl) :
    PI X (.Tuple elts kk tpos) (.Call (.Name "enumerate" p) [e] [] pos) (iEnumT X.K ta) := by
  constructor
  intro pins s σ H R I h
  refine Call_ (ld_blt I hg hm boot_enumerate (PyProof.Rows.callWith_type1 ?_ hs rfl))
  refine thn (ha.run pos pins s σ H _ I h) ?_
  rintro us s1 ⟨vs, H1, I1, r1, a, xs, rfl, hq, q⟩
  have e1 := Vals.ref1 r1
  subst e1
  obtain ⟨its, rv, p', hz⟩ := I1.tuple hq
  refine call_enum_tuple (show s1.heap.IsTuple a its.toArray from p') fun h' he hit hk => wpAny_pyIter_enum he ?_
  have I2 := I1.kept (t' := s1.toks) hk
  refine ⟨s1.heap.objs.size + 1, [s1.heap.objs.size + 1, s1.heap.objs.size], _, IteT X.K a, H1, rfl, I2, turn_enumT a _ _, ⟨⟨.none, he⟩, hit, Nat.succ_ne_self _⟩, fun b hb => ?_, q⟩
  have le : s1.heap.objs.size ≤ b := by
    have two : b = s1.heap.objs.size + 1 ∨ b = s1.heap.objs.size := by simpa using hb
    rcases two with z | z <;> rw [z]
    · exact Nat.le_add_right _ _
    · exact Nat.le_refl _
  exact I1.fpOk le (I1.hok.fresh le)
/-- a loop over it that leaves the tuple as it is -/
theorem for_enumT {K : PySem.W.Frag} {a : Addr} {xs : List V} {g : TG} {tb : TS} {D : Ends} {σ : L2.St} {H : Hp} (Pv : Nat → L2.St → Hp → Prop) (h0 : Pv 0 σ H) (hl : ∀ i σ H, i ≤ xs.length → Pv i σ H → SqT K H a xs)
    (hs : ∀ i x σ H p, xs[i]? = some x → Pv i σ H → H p = none → g (.ref p) σ (upd H p (.tup [.int (i : Nat), x])) fun σ2 H2 => tb { D with nx := Pv (i + 1), ct := Pv (i + 1), bk := D.nx } σ2 H2)
    (hd : ∀ σ H, Pv xs.length σ H → D.nx σ H) :
    ∃ W : Nat → Nat → L2.St → Hp → Prop, (∃ left, W 0 left σ H) ∧ ∀ i m σ H, W i m σ H →
      ((IteT K a).stop i H ∧ D.nx σ H) ∨ ((IteT K a).go i H ∧ ∃ N : L2.St → Hp → Prop, (∀ σ' H', N σ' H' → ∃ m', m' < m ∧ W (i + 1) m' σ' H') ∧ ∀ x H', (IteT K a).yld i H x H' → g x σ H' fun σ2 H2 => tb { D with nx := N, ct := N, bk := D.nx } σ2 H2) := by
  refine ⟨fun i m σ H => i + m = xs.length ∧ Pv i σ H, ⟨xs.length, by omega, h0⟩, ?_⟩
  rintro i m σ H ⟨em, p⟩
  have q := hl i σ H (by omega) p
  cases m with
  | zero =>
    have e : i = xs.length := by omega
    subst e
    exact .inl ⟨⟨xs, q, rfl⟩, hd σ H p⟩
  | succ m =>
    have lt : i < xs.length := by omega
    refine .inr ⟨⟨xs, xs[i], q, List.getElem?_eq_getElem lt⟩, Pv (i + 1), fun σ' H' p' => ⟨m, Nat.lt_succ_self _, by omega, p'⟩, ?_⟩
    rintro v H' ⟨r, x, rfl, nr, rfl, hx⟩
    exact hs i x σ H r (hx xs q) p nr

/-! ### sorted(t), t a tuple of ints: the items are collected; the list made of them is sorted in its place -/
section
variable {prog : Program} {w : World} {A : Around} {E : Value → Shared → Prop} {s : Shared} {its : List Value} {ks : List Int}
abbrev listOf (its : List Value) : Obj := seqObj "list" its.toArray 0
theorem sort_made {g : Heap} {R : Value → Shared → Prop} (hk : IntsAre its ks) (few : its.length < 64)
    (done : ∀ (out : Array Value) (ls : List Int), IntsAre out.toList ls → ls.Perm ks → ls.Pairwise (· ≤ ·) → R .none { s with heap := sortedHeap (g.push (listOf its)) g.objs.size its out }) :
    wpAny (model prog w) A (call (.builtin "list.sort") [.ref g.objs.size]) R E { s with heap := g.push (listOf its) } :=
  have here : (g.push (listOf its)).get? g.objs.size = some (listOf its) := g.get?_push_size rfl
  wpAny_call_entry slot_list_sort ⟨_, here, rfl⟩ entry_list_sort (ha := args_list_sort _) <|
    list_sort_tree here hk few fun out ls i p o => ⟨.none, rfl, done out ls i p o⟩
theorem sorted_tupI {t : Addr} {Q : Value → Shared → Prop} (ht : s.heap.IsTuple t its.toArray) (hk : IntsAre its ks) (few : its.length < 64)
    (done : ∀ (g : Heap) (out : Array Value) (ls : List Int), (∀ b o, s.heap.get? b = some o → g.get? b = some o) → IntsAre out.toList ls → ls.Perm ks → ls.Pairwise (· ≤ ·) →
      Q (.ref g.objs.size) { s with heap := sortedHeap (g.push (listOf its)) g.objs.size its out }) : wpAny (model prog w) A (call (.builtin "sorted") [.ref t]) Q E s := by
  obtain ⟨o, at_t, cls_t, n, data_t⟩ := ht
  have fits : its.toArray.size ≤ sizeLine := by
    rw [sizeLine_eq, List.size_toArray]
    omega
  apply Calls.call_function_entry kind_sorted plain_sorted entry_sorted (args_sorted1 _)
  show wpAny _ _ (checkCount "sorted" 1 1 1 >>= fun _ => collect (.ref t) >>= fun xs => newList xs >>= fun l => holding [l] (call (.builtin "list.sort") [l]) >>= fun _ => ret l) _ _ s
  refine wpAny_bind (wpAny_pure (wpAny_bind (wpAny_collect_seq t (.inr rfl) at_t cls_t data_t (fun g keep => ?_) fits)))
  refine wpAny_bind (wpAny_newList (wpAny_bind (wpAny_holding (sort_made (s := s) (g := g) hk few fun out ls i p o => ?_))))
  exact wpAny_pure ⟨_, rfl, done g out ls keep i p o⟩
end
/-- sorted, told of a tuple of ints -/
def rSortedT (K : PySem.W.Frag) : List V → Hp → VK → Prop := fun vs H Q => ∃ (a : Addr) (ks : List Int), vs = [.ref a] ∧ SqT K H a (ks.map V.int) ∧ ks.length < 64 ∧
  ∀ (ls : List Int) (p : Addr), ls.Perm ks → ls.Pairwise (· ≤ ·) → H p = none → Q (.ref p) (upd H p (.lst (ls.map V.int)))
theorem cr_sortedT {X : Cx} : CallR X (.builtin "sorted") (rSortedT X.K) := by
  rintro pins s σ H vs us Q I r ⟨a, ks, rfl, hs, few, q⟩
  obtain ⟨its, rv, ht, _⟩ := I.tuple hs
  cases Vals.ref1 r
  have hn := rv.ints
  refine sorted_tupI (its := its) ht hn (by rw [hn.length]; exact few) fun g out ls keep i p o => ?_
  have fresh : s.heap.get? g.objs.size = none := by
    cases e : s.heap.get? g.objs.size with
    | none => rfl
    | some u => exact absurd (Heap.lt_size (keep _ _ e)) (Nat.lt_irrefl _)
  have untracked : H g.objs.size = none := I.hok.gone fresh
  obtain ⟨ep, there⟩ := sortedHeap_at (out := out) (g.get?_push_size (o := listOf its) rfl)
  have made : ObjOk X.prog X.w (upd H g.objs.size (.lst (ls.map V.int))) (sortedHeap (g.push (listOf its)) g.objs.size its out) g.objs.size (.lst (ls.map V.int)) :=
    ⟨by rw [List.length_map, p.length_eq]; exact small64 few, out.toList, ep, vals_of_ints i, there⟩
  refine ⟨.ref g.objs.size, _, I.laidN (t' := s.toks) (fun b u e => ?_) fresh untracked made, rfl, q ls _ p o untracked⟩
  have lt := Heap.lt_size (keep b u e)
  rw [sortedHeap_old (Nat.ne_of_lt lt) (by rw [size_push']; exact Nat.lt_succ_of_lt lt)]
  exact Heap.get?_push_of_some _ (keep b u e)
end K56

namespace K56
open PySem PySem.Spec PyProof.Rows L2
/-! ### the text by places -/
def top (i : Nat) : Stmt := PySem.Challenge.pw_foretoldforms_k56_whole_orders_between_t.main.body.getD i (.Pass ⟨0, 0, 0, 0⟩)
/-! ### the data -/
abbrev Form := Option PySem.Str
abbrev Tab := List (List Form)
def fv : Form → V
  | none => .non
  | some s => .str s
def nv (n : Nat) : V := .int (n : Int)
def lets (s : PySem.Str) : Prop := ∀ c ∈ s.cps.toList, 97 ≤ c ∧ c ≤ 122
def Fine (m : Nat) (x : Form) : Prop := ∀ s, x = some s → s.length ≤ m ∧ lets s
def Ents (m : Nat) (T : Tab) : Prop := ∀ row ∈ T, ∀ x ∈ row, Fine m x
theorem Fine.mono {m k : Nat} {x : Form} (h : Fine m x) (l : m ≤ k) : Fine k x := fun s e => ⟨Nat.le_trans (h s e).1 l, (h s e).2⟩
theorem Ents.mono {m k : Nat} {T : Tab} (h : Ents m T) (l : m ≤ k) : Ents k T := fun r hr x hx => (h r hr x hx).mono l
def RowAt (H : Hp) (r : Addr) (row : List Form) : Prop := H r = some (.tup (row.map fv))
def TabAt (H : Hp) (a : Addr) (T : Tab) : Prop := ∃ rs : List Addr, H a = some (.tup (rs.map V.ref)) ∧ rs.length = T.length ∧ ∀ (i : Nat) r row, rs[i]? = some r → T[i]? = some row → RowAt H r row
def OrdAt (H : Hp) (a : Addr) (o : List Nat) : Prop := H a = some (.tup (o.map nv))
def PairAt (H : Hp) (t : Addr) (a b : List Nat) : Prop := ∃ p q, H t = some (.tup [.ref p, .ref q]) ∧ OrdAt H p a ∧ OrdAt H q b
def ResAt (H : Hp) (v : V) : Option (List Nat × List Nat) → Prop
  | none => v = .non
  | some (a, b) => ∃ t, v = .ref t ∧ PairAt H t a b
/-- the orders at the list l -/
def OrdsAt (H : Hp) (l : Addr) (L : List (List Nat)) : Prop := ∃ as : List Addr, H l = some (.lst (as.map V.ref)) ∧ as.length = L.length ∧ ∀ (i : Nat) r o, as[i]? = some r → L[i]? = some o → OrdAt H r o
/-- all but what stands at d is as it was -/
def Keep (d : Addr) (H H' : Hp) : Prop := ∀ b o, b ≠ d → H b = some o → H' b = some o
theorem Keep.refl (d : Addr) (H : Hp) : Keep d H H := fun _ _ _ h => h
theorem Keep.trans {d : Addr} {H H1 H2 : Hp} (a : Keep d H H1) (b : Keep d H1 H2) : Keep d H H2 := fun c o n h => b c o n (a c o n h)
theorem Keep.of {d : Addr} {H H' : Hp} (s : Same H H') : Keep d H H' := fun b o _ h => s b o h
theorem same_upd {H : Hp} {p : Addr} {o : HO} (h : H p = none) : Same H (upd H p o) := fun b x e => by
  rw [upd_ne (ne_of_none e h)]
  exact e
/-- what stands for as long as tuples do -/
def KeepT (H H' : Hp) : Prop := ∀ b xs, H b = some (.tup xs) → H' b = some (.tup xs)
theorem Same.keepT {H H' : Hp} (s : Same H H') : KeepT H H' := fun b xs h => s b _ h
theorem KeepT.trans {H H1 H2 : Hp} (a : KeepT H H1) (b : KeepT H1 H2) : KeepT H H2 := fun c o h => b c o (a c o h)
theorem KeepT.refl (H : Hp) : KeepT H H := fun _ _ h => h
theorem TabAt.keep {H H' : Hp} {a : Addr} {T : Tab} (s : KeepT H H') (h : TabAt H a T) : TabAt H' a T :=
  let ⟨rs, h1, h2, h3⟩ := h
  ⟨rs, s _ _ h1, h2, fun i r row e1 e2 => s _ _ (h3 i r row e1 e2)⟩
theorem PairAt.keep {H H' : Hp} {t : Addr} {a b : List Nat} (s : KeepT H H') (h : PairAt H t a b) : PairAt H' t a b :=
  let ⟨p, q, h1, h2, h3⟩ := h
  ⟨p, q, s _ _ h1, s _ _ h2, s _ _ h3⟩
theorem ResAt.keep {H H' : Hp} {v : V} (s : KeepT H H') : ∀ {r : Option (List Nat × List Nat)}, ResAt H v r → ResAt H' v r
  | none, h => h
  | some (_, _), ⟨t, h1, h2⟩ => ⟨t, h1, h2.keep s⟩
/-! ### the hand -/
def HandAt (H : Hp) (d c : Addr) : Prop := ∃ (cells : List Int) (i x m k : Int), H d = some (.lst [.ref c, .int i, .int x, .int m, .int k]) ∧ H c = some (.lst (cells.map V.int)) ∧ 0 ≤ i ∧ d ≠ c
theorem HandAt.lst {H : Hp} {d c : Addr} (h : HandAt H d c) : ∃ xs, H d = some (.lst xs) := let ⟨_, _, _, _, _, e, _⟩ := h; ⟨_, e⟩
theorem HandAt.there {H : Hp} {d c : Addr} (h : HandAt H d c) : ∃ xs, H c = some (.lst xs) := let ⟨_, _, _, _, _, _, e, _⟩ := h; ⟨_, e⟩
theorem HandAt.same {H H' : Hp} {d c : Addr} (s : Same H H') (h : HandAt H d c) : HandAt H' d c :=
  let ⟨cs, i, x, m, k, e1, e2, r⟩ := h
  ⟨cs, i, x, m, k, s _ _ e1, s _ _ e2, r⟩
theorem HandAt.into {H : Hp} {d c D : Addr} {o : HO} (h : HandAt H d c) (n1 : D ≠ d) (n2 : D ≠ c) : HandAt (upd H D o) d c :=
  let ⟨cs, i, x, m, k, e1, e2, r⟩ := h
  ⟨cs, i, x, m, k, by rw [upd_ne n1.symm]; exact e1, by rw [upd_ne n2.symm]; exact e2, r⟩
theorem HandAt.new {H : Hp} {d c D : Addr} (h : HandAt H d c) (n : H D = none) : D ≠ d ∧ D ≠ c := by
  obtain ⟨_, e1⟩ := h.lst
  obtain ⟨_, e2⟩ := h.there
  exact ⟨(ne_of_none e1 n).symm, (ne_of_none e2 n).symm⟩
theorem Keep.keepT {H H' : Hp} {d c : Addr} (s : Keep d H H') (h : HandAt H d c) : KeepT H H' := fun b xs e => by
  obtain ⟨ys, q⟩ := h.lst
  refine s b _ (fun z => ?_) e
  rw [z, q] at e
  cases e
/-- a store into a list that is new since H -/
theorem Keep.into {d : Addr} {H H1 : Hp} {D : Addr} {o : HO} (hD : H D = none) (s : Keep d H H1) : Keep d H (upd H1 D o) := fun b x nb e => by
  rw [upd_ne (ne_of_none e hD)]
  exact s b x nb e
theorem Keep.same {d : Addr} {H H1 H2 : Hp} (s : Keep d H H1) (t : Same H1 H2) : Keep d H H2 := fun b x nb e => t _ _ (s b x nb e)
theorem Same.keep {d : Addr} {H H1 H2 : Hp} (s : Same H H1) (t : Keep d H1 H2) : Keep d H H2 := fun b x nb e => t b x nb (s b x e)
/-! ### a Table -/
def BoxAt (H : Hp) (C p a : Addr) (h w : Nat) : Prop := ∃ dx fs, H p = some (.ins C dx fs) ∧ fs.lookup ("boxes" : Str) = some (.ref a) ∧ fs.lookup ("height" : Str) = some (nv h) ∧ fs.lookup ("width" : Str) = some (nv w)
theorem BoxAt.same {H H' : Hp} {C p a : Addr} {h w : Nat} (s : Same H H') (x : BoxAt H C p a h w) : BoxAt H' C p a h w :=
  let ⟨dx, fs, e, r⟩ := x
  ⟨dx, fs, s _ _ e, r⟩
/-! ### what the top has bound -/
structure Txt (K : PySem.W.Frag) (mg : Str → Option Value) : Prop where
  isi : mg "isinstance" = none
  str : mg "str" = none
  all : mg "all" = none
  len : mg "len" = none
  tuple : mg "tuple" = none
  sorted : mg "sorted" = none
  range : mg "range" = none
  enumerate : mg "enumerate" = none
  list : mg "list" = none
  zip : mg "zip" = none
  abs : mg "abs" = none
  int : mg "int" = none
  bool : mg "bool" = none
  most_side : ∃ t, mg "MOST_SIDE" = some (.int 6 t)
  letters : ∃ t, mg "LETTERS" = some (.str "abcdefghijklmnopqrstuvwxyz" t)
  most_rows : ∃ t, mg "MOST_ROWS" = some (.int 12 t)
  most_letters : ∃ t, mg "MOST_LETTERS" = some (.int 30 t)
/-- an answer that is known to be True -/
theorem qT {Q : VK} {H : Hp} {b : Bool} (e : b = true) (h : Q (.bl true) H) : Q (.bl b) H := by
  rw [e]
  exact h
/-- a walk by turns -/
theorem turns {J : It} {n : Nat} {Nx : Hp → Prop} {B : V → Hp → (Hp → Prop) → Prop} {H0 : Hp} (Pv : Nat → Hp → Prop) (h0 : Pv 0 H0) (hgo : ∀ i H, i < n → Pv i H → J.go i H) (hst : ∀ H, Pv n H → J.stop n H)
    (hs : ∀ i x H H', i < n → Pv i H → J.yld i H x H' → B x H' (Pv (i + 1))) (hd : ∀ H, Pv n H → Nx H) :
    ∃ W : Nat → Nat → Hp → Prop, (∃ m, W 0 m H0) ∧ ∀ i m H, W i m H → (J.stop i H ∧ Nx H) ∨ (J.go i H ∧ ∃ N : Hp → Prop, (∀ H', N H' → ∃ m', m' < m ∧ W (i + 1) m' H') ∧ ∀ x H', J.yld i H x H' → B x H' N) := by
  refine ⟨fun i m H => i + m = n ∧ Pv i H, ⟨n, by omega, h0⟩, ?_⟩
  rintro i m H ⟨em, p⟩
  cases m with
  | zero =>
    have e : i = n := by omega
    subst e
    exact .inl ⟨hst H p, hd H p⟩
  | succ m => exact .inr ⟨hgo i H (by omega) p, Pv (i + 1), fun H' p' => ⟨m, Nat.lt_succ_self _, by omega, p'⟩, fun x H' y => hs i x H H' (by omega) p y⟩
/-! ### rules with the written part told (for use within a block) -/
section
variable {X : Cx} {tg l e a b : Expr} {tl : TE} {f : Str} {pos : Pos}
theorem ix_listK (K : PySem.W.Frag) (hK : X.K = K := by rfl) : IxR X (rIxL K) := hK ▸ ix_list
theorem ix_tupK (K : PySem.W.Frag) (hK : X.K = K := by rfl) : IxR X (rIxT K) := hK ▸ ix_tup
theorem pi_listK (K : PySem.W.Frag) (hl : PE X l tl) (hK : X.K = K := by rfl) : PI X tg l (iList K tl) := hK ▸ pi_list hl
theorem pi_tupK (K : PySem.W.Frag) (hl : PE X l tl) (hK : X.K = K := by rfl) : PI X tg l (iTup K tl) := hK ▸ pi_tup hl
theorem op_inK (K : PySem.W.Frag) (hK : X.K = K := by rfl) : OpR X (compareOp .In) (rIn K false) := hK ▸ op_in_seq
theorem op_notInK (K : PySem.W.Frag) (hK : X.K = K := by rfl) : OpR X (compareOp .NotIn) (rIn K true) := hK ▸ op_notIn_seq
theorem op_catK (K : PySem.W.Frag) (hK : X.K = K := by rfl) : OpR X (binaryOp .Add) (rCatA K) := hK ▸ op_catA
theorem op_eqK (K : PySem.W.Frag) (hu : X.A.units + 64 < cLine) (hK : X.K = K := by rfl) : OpR X (compareOp .Eq) (rEqD K) := hK ▸ op_eqD hu
def rLenK (K : PySem.W.Frag) : List V → Hp → VK → Prop := fun xs H Q => ∃ p ys, xs = [.ref p] ∧ (SqL K H p ys ∨ SqT K H p ys) ∧ Q (.int ys.length) H
theorem call_lenK (K : PySem.W.Frag) (hK : X.K = K := by rfl) : CallR X (.builtin "len") (rLenK K) := by
  subst hK
  exact call_len_seq
def rTupK (K : PySem.W.Frag) : List V → Hp → VK → Prop := fun xs H Q => ∃ p ys, xs = [.ref p] ∧ ((SqL K H p ys ∧ ∀ l, H l = none → Q (.ref l) (upd H l (.tup ys))) ∨ (SqT K H p ys ∧ Q (.ref p) H))
theorem call_tupK (K : PySem.W.Frag) (hK : X.K = K := by rfl) : CallR X (.type "tuple") (rTupK K) := by
  subst hK
  exact call_tuple_of
theorem pe_fldK (K : PySem.W.Frag) (he : PE X e tl) (hb : attributeBase e f X.env (eval e X.env) = eval e X.env) (hK : X.K = K := by rfl) : PE X (.Attribute e f pos) (tFld K tl f) := hK ▸ pe_fld he hb
end
end K56

namespace K56
open PySem PySem.Spec PyProof.Rows L2
abbrev sIsWord : Stmt := top 12
abbrev sIsText : Stmt := top 13
abbrev sIsForm : Stmt := top 14
abbrev sIsRow : Stmt := top 18
abbrev sIsBoxText : Stmt := top 19
def LET : PySem.Str := "abcdefghijklmnopqrstuvwxyz"
theorem let_mem : ∀ c, 97 ≤ c → c ≤ 122 → c ∈ LET.cps.toList := by
  have h : ∀ c < 123, 97 ≤ c → c ∈ LET.cps.toList := by decide +kernel
  exact fun c h1 h2 => h c (by omega) h1
section
variable {P : Program} {w : World} {K : PySem.W.Frag} {mg : Str → Option Value} {base : Heap}
def spIsWord : Sp := fun vs H Q _ => ∃ z : Str, vs = [.str LET, .str z] ∧ z.length ≤ 30 ∧ lets z ∧ ∀ H', Same H H' → Q (.bl true) H'
theorem scIsWord : FnScope ["letters", "thing", "sign"] ["letters", "thing"] (defScope sIsWord) := ⟨rfl, rfl, rfl, by decide +kernel, rfl, by decide +kernel, by decide +kernel⟩
theorem ok_isWord {f : Addr} {fd : FuncData} (F : Fun K "is_word" "is_word" sIsWord f fd) (T : Txt K mg) : FnOk P w K mg base CX0 1 f fd ["letters", "thing"] spIsWord := by
  refine F.ok scIsWord (fun vs H Q E h => ?_) (fun cdv A outer s H vs Q E hr h => ?_)
  · obtain ⟨z, rfl, _⟩ := h
    rfl
  · obtain ⟨z, rfl, hz, hl, k⟩ := h
    refine ⟨_, pss_one (ps_ret (pe_and (pe_callB call_isi (by rfl) T.isi (by decide +kernel) (pa_cons (pv 1) (pa_cons (pe_bltn (v := .ty "str") (by rfl) T.str (by decide +kernel) rfl) pa_nil)))
      (pe_one (pe_callB (cr_all rfl) (by rfl) T.all (by decide +kernel) (pa_cons (pe_lc (own := [("sign", 2)]) (g := gName 2) (tt := tYes) rfl scIsWord.nd (pi_str (pv 1)) (blkOk_by (N := ["letters", "thing", "sign"]) (sc := defScope sIsWord) (by decide +kernel))
        (fun _ _ _ _ _ => pg_name (i := 2) scIsWord.nd rfl (.inl rfl)) (fun _ _ _ _ _ => pts_nil) (fun _ _ _ _ _ => pe_cmpR op_in_sign (pv 2) (pv 0) rfl)) pa_nil))))), ?_⟩
    -- isinstance(thing, str)
    refine ⟨_, rfl, .str z, .ty "str", .type "str", .type "str", true, rfl, .ty _, .base (.str z), kit_ty (by decide +kernel), true, rfl, iteT ?_⟩
    -- all([sign in letters for sign in thing])
    refine ⟨_, rfl, z, rfl, fun D hD => ?_⟩
    refine turns (n := z.cps.size) (fun i H' => Same H H' ∧ H' D = some (.lst (List.replicate i (.bl true)))) ⟨same_upd hD, upd_same⟩ (fun i H' hi _ => hi) (fun H' _ => Nat.le_refl _) ?_ ?_
    · rintro i x H1 H2 hi ⟨s1, e1⟩ ⟨rfl, c, hc, rfl⟩
      refine ⟨rfl, .str ⟨#[c]⟩, rfl, .str LET, rfl, c, LET, rfl, rfl, _, e1, ?_, fun b o e => ?_, ?_⟩
      · rw [List.length_replicate]
        have : z.cps.size ≤ 30 := hz
        exact small1000 (by omega)
      · have nb : b ≠ D := ne_of_none e hD
        rw [upd_ne nb]
        exact s1 b o e
      · rw [upd_same]
        have hm : c ∈ z.cps.toList := by
          rw [Array.mem_toList_iff]
          exact Array.mem_of_getElem? hc
        have e2 := decide_eq_true (let_mem c (hl c hm).1 (hl c hm).2)
        rw [e2, List.replicate_succ']
    · rintro H1 ⟨s1, e1⟩
      refine ⟨D, List.replicate z.cps.size true, rfl, SqL.of (by rw [e1, List.map_replicate]), ?_⟩
      have e2 : (List.replicate z.cps.size true).all id = true := by simp
      rw [e2]
      exact k H1 s1
def spIsText : Sp := fun vs H Q _ => ∃ z : Str, vs = [.str z] ∧ z.length ≤ 30 ∧ lets z ∧ ∀ H', Same H H' → Q (.bl true) H'
theorem scIsText : FnScope ["thing"] ["thing"] (defScope sIsText) := ⟨rfl, rfl, rfl, by decide +kernel, rfl, by decide +kernel, by decide +kernel⟩
theorem ok_isText {f fW : Addr} {fd fdW : FuncData} (F : Fun K "is_text" "is_text" sIsText f fd) (FW : Fun K "is_word" "is_word" sIsWord fW fdW) (bW : Binds K fdW ["letters", "thing"] []) (gW : mg "is_word" = some (.ref fW)) (T : Txt K mg) :
    FnOk P w K mg base CX0 2 f fd ["thing"] spIsText := by
  have GW : FnOk P w K mg base CX0 1 fW fdW ["letters", "thing"] spIsWord := ok_isWord FW T
  obtain ⟨tL, gL⟩ := T.letters
  refine F.ok scIsText (fun vs H Q E h => ?_) (fun cdv A outer s H vs Q E hr h => ?_)
  · obtain ⟨z, rfl, _⟩ := h
    rfl
  · obtain ⟨z, rfl, hz, hl, k⟩ := h
    refine ⟨_, pss_one (ps_ret (pe_call GW hr (by rfl) gW FW.kp bW .nil pass0 (pa_cons (pe_glob (v := .str LET) rfl gL ⟨_, rfl⟩) (pa_cons (pv 0) pa_nil)))), ?_⟩
    exact ⟨_, rfl, z, rfl, hz, hl, k⟩
def spIsForm : Sp := fun vs H Q _ => ∃ z : Str, vs = [.str z, .int 30] ∧ z.length ≤ 30 ∧ lets z ∧ ∀ H', Same H H' → Q (.bl true) H'
theorem scIsForm : FnScope ["thing", "most"] ["thing", "most"] (defScope sIsForm) := ⟨rfl, rfl, rfl, by decide +kernel, rfl, by decide +kernel, by decide +kernel⟩
theorem ok_isForm {f fT : Addr} {fd fdT : FuncData} (F : Fun K "is_form" "is_form" sIsForm f fd) (FT : Fun K "is_text" "is_text" sIsText fT fdT) (GT : FnOk P w K mg base CX0 2 fT fdT ["thing"] spIsText) (bT : Binds K fdT ["thing"] []) (gT : mg "is_text" = some (.ref fT)) (T : Txt K mg) :
    FnOk P w K mg base CX0 3 f fd ["thing", "most"] spIsForm := by
  refine F.ok scIsForm (fun vs H Q E h => ?_) (fun cdv A outer s H vs Q E hr h => ?_)
  · obtain ⟨z, rfl, _⟩ := h
    rfl
  · obtain ⟨z, rfl, hz, hl, k⟩ := h
    refine ⟨_, pss_one (ps_ret (pe_and (pe_call GT hr (by rfl) gT FT.kp bT .nil pass0 (pa_cons (pv 0) pa_nil)) (pe_one (pe_cmpR op_le (pe_callB call_len_str (by rfl) T.len PySem.boot_len (pa_cons (pv 0) pa_nil)) (pv 1) (nomark _))))), ?_⟩
    refine ⟨_, rfl, z, rfl, hz, hl, fun H1 s1 => ⟨true, rfl, iteT ?_⟩⟩
    refine ⟨_, rfl, z, rfl, Nat.le_trans hz (by decide), .int 30, rfl, _, _, rfl, rfl, ?_⟩
    exact qT (decide_eq_true (show (z.length : Int) ≤ 30 by omega)) (k H1 s1)
def spIsBoxText : Sp := fun vs H Q _ => ∃ x : Form, vs = [fv x] ∧ Fine 30 x ∧ ∀ H', Same H H' → Q (.bl true) H'
theorem scIsBoxText : FnScope ["thing"] ["thing"] (defScope sIsBoxText) := ⟨rfl, rfl, rfl, by decide +kernel, rfl, by decide +kernel, by decide +kernel⟩
theorem ok_isBoxText {f fF : Addr} {fd fdF : FuncData} (F : Fun K "is_box_text" "is_box_text" sIsBoxText f fd) (FF : Fun K "is_form" "is_form" sIsForm fF fdF) (GF : FnOk P w K mg base CX0 3 fF fdF ["thing", "most"] spIsForm) (bF : Binds K fdF ["thing", "most"] []) (gF : mg "is_form" = some (.ref fF)) (T : Txt K mg) :
    FnOk P w K mg base CX0 4 f fd ["thing"] spIsBoxText := by
  obtain ⟨tM, gM⟩ := T.most_letters
  refine F.ok scIsBoxText (fun vs H Q E h => ?_) (fun cdv A outer s H vs Q E hr h => ?_)
  · obtain ⟨x, rfl, _⟩ := h
    rfl
  · obtain ⟨x, rfl, hx, k⟩ := h
    refine ⟨_, pss_one (ps_ret (pe_or (pe_cmpR op_isN (pv 0) pe_non (nomark _)) (pe_one (pe_call GF hr (by rfl) gF FF.kp bF .nil pass0 (pa_cons (pv 0) (pa_cons (pe_glob (v := .int 30) rfl gM ⟨_, rfl⟩) pa_nil)))))), ?_⟩
    refine ⟨fv x, rfl, rfl, _, rfl, ?_⟩
    cases x with
    | none => exact iteT (k H (Same.refl H))
    | some z =>
      refine iteF ?_
      obtain ⟨h1, h2⟩ := hx z rfl
      exact ⟨_, rfl, z, rfl, h1, h2, k⟩
def spIsRow : Sp := fun vs H Q _ => ∃ (a : Addr) (xs : List V), vs = [.ref a] ∧ H a = some (.tup xs) ∧ 1 ≤ xs.length ∧ xs.length ≤ 12 ∧ ∀ H', Same H H' → Q (.bl true) H'
theorem scIsRow : FnScope ["thing"] ["thing"] (defScope sIsRow) := ⟨rfl, rfl, rfl, by decide +kernel, rfl, by decide +kernel, by decide +kernel⟩
theorem ok_isRow {f : Addr} {fd : FuncData} (F : Fun K "is_row" "is_row" sIsRow f fd) (T : Txt K mg) : FnOk P w K mg base CX0 1 f fd ["thing"] spIsRow := by
  obtain ⟨tM, gM⟩ := T.most_rows
  refine F.ok scIsRow (fun vs H Q E h => ?_) (fun cdv A outer s H vs Q E hr h => ?_)
  · obtain ⟨a, xs, rfl, _⟩ := h
    rfl
  · obtain ⟨a, xs, rfl, ha, h1, h12, k⟩ := h
    refine ⟨_, pss_one (ps_ret (pe_and (pe_callB call_isi (by rfl) T.isi (by decide +kernel) (pa_cons (pv 0) (pa_cons (pe_bltn (v := .ty "tuple") (by rfl) T.tuple (by decide +kernel) rfl) pa_nil)))
      (pe_one (pe_chain op_le op_le pe_int (pe_callB call_len_seq (by rfl) T.len PySem.boot_len (pa_cons (pv 0) pa_nil)) (pe_glob (v := .int 12) rfl gM ⟨_, rfl⟩))))), ?_⟩
    refine ⟨_, rfl, .ref a, .ty "tuple", .type "tuple", .type "tuple", true, rfl, .ty _, .base (.tup ha), kit_ty (by decide +kernel), true, rfl, iteT ?_⟩
    refine ⟨_, rfl, a, xs, rfl, .inr (SqT.of ha), 1, _, rfl, rfl, true, ?_, iteT ?_⟩
    · exact congrArg V.bl (decide_eq_true (show (1 : Int) ≤ (xs.length : Nat) by omega))
    · refine ⟨_, _, rfl, rfl, ?_⟩
      exact qT (decide_eq_true (show (xs.length : Int) ≤ 12 by omega)) (k H (Same.refl H))
end
end K56

namespace K56
open PySem PySem.Spec PyProof.Rows L2
abbrev sInit : Stmt := inClass (top 20) 0
abbrev sKeep : Stmt := inClass (top 20) 1
structure TxtT (K : PySem.W.Frag) (mg : Str → Option Value) (C : Addr) : Prop where
  cl : Cls K C
  nB : NoAttr K C "boxes"
  nH : NoAttr K C "height"
  nW : NoAttr K C "width"
  nK : NoAttr K C "kept_told"
  mgC : mg "Table" = some (.ref C)
def bf (a : Addr) (vh vw : V) (d : Addr) : List (Str × V) := putF "kept_told" (.ref d) (putF "width" vw (putF "height" vh (putF "boxes" (.ref a) [])))
theorem bf_boxes (a : Addr) (vh vw : V) (d : Addr) : (bf a vh vw d).lookup ("boxes" : Str) = some (.ref a) := by
  unfold bf
  rw [lookup_putF, if_neg (by decide +kernel), lookup_putF, if_neg (by decide +kernel), lookup_putF, if_neg (by decide +kernel), lookup_putF, if_pos rfl]
theorem bf_height (a : Addr) (vh vw : V) (d : Addr) : (bf a vh vw d).lookup ("height" : Str) = some vh := by
  unfold bf
  rw [lookup_putF, if_neg (by decide +kernel), lookup_putF, if_neg (by decide +kernel), lookup_putF, if_pos rfl]
theorem bf_width (a : Addr) (vh vw : V) (d : Addr) : (bf a vh vw d).lookup ("width" : Str) = some vw := by
  unfold bf
  rw [lookup_putF, if_neg (by decide +kernel), lookup_putF, if_pos rfl]
theorem bf_told (a : Addr) (vh vw : V) (d : Addr) : (bf a vh vw d).lookup ("kept_told" : Str) = some (.ref d) := by
  unfold bf
  rw [lookup_putF, if_pos rfl]
theorem putF_lt (f : Str) (v : V) {fs : List (Str × V)} {n : Nat} (h : fs.length < n) : (putF f v fs).length < n + 1 := Nat.lt_of_le_of_lt (length_putF f v fs) (Nat.succ_lt_succ h)
def spKeep (C : Addr) : Sp := fun vs H Q _ => ∃ (p dx a : Addr) (T : Tab) (h w : Nat), vs = [.ref p, .ref a] ∧ H p = some (.ins C dx []) ∧ TabAt H a T ∧ Rect T h w ∧ 1 ≤ h ∧ h ≤ 12 ∧ w ≤ 12 ∧
  ∀ H', BoxAt H' C p a h w → (∀ b o, b ≠ p → H b = some o → H' b = some o) → Q .non H'
section
variable {P : Program} {w : World} {K : PySem.W.Frag} {mg : Str → Option Value} {base : Heap}
theorem scKeep : FnScope ["self", "boxes", "row", "forms", "column", "form"] ["self", "boxes"] (defScope sKeep) := ⟨rfl, rfl, rfl, by decide +kernel, rfl, by decide +kernel, by decide +kernel⟩
theorem ok_keep {f C : Addr} {fd : FuncData} (F : Fun K "keep" "Table.keep" sKeep f fd) (T : Txt K mg) (TT : TxtT K mg C) : FnOk P w K mg base CX0 1 f fd ["self", "boxes"] (spKeep C) := by
  refine F.ok scKeep (fun vs H Q E h => ?_) (fun cdv A outer s H vs Q E hr h => ?_)
  · obtain ⟨p, dx, a, _, _, _, rfl, _⟩ := h
    rfl
  · obtain ⟨p, dx, a, tb, hh, ww, rfl, hp, ht, R, h1, h12, w12, k⟩ := h
    obtain ⟨rs, ha, hrl, hrow⟩ := id ht
    refine ⟨_, pss_cons (ps_fld (pv 0) (pv 1) rfl)
      (pss_cons (ps_fld (pv 0) (pe_callB call_len_seq (by rfl) T.len PySem.boot_len (pa_cons (pv 1) pa_nil)) rfl)
      (pss_cons (ps_fld (pv 0) (pe_callB call_len_seq (by rfl) T.len PySem.boot_len (pa_cons (pe_ix ix_tup (pv 1) pe_int (fun _ _ => rfl)) pa_nil)) rfl)
      (pss_cons (ps_fld (pv 0) pe_dnewT rfl)
      (pss_one (ps_for PassesOwn.never rfl (pi_enumT (by rfl) T.enumerate (pa_cons (pv 1) pa_nil)) (pg_tup rfl (pgs_cons (pg_name (i := 2) scKeep.nd rfl (.inl rfl)) (pgs_cons (pg_name (i := 3) scKeep.nd rfl (.inl rfl)) pgs_nil)))
        (pss_one (ps_for PassesOwn.never rfl (pi_enumT (by rfl) T.enumerate (pa_cons (pv 3) pa_nil)) (pg_tup rfl (pgs_cons (pg_name (i := 4) scKeep.nd rfl (.inl rfl)) (pgs_cons (pg_name (i := 5) scKeep.nd rfl (.inl rfl)) pgs_nil)))
          (pss_one (ps_if (pt_cmpR op_notN (pv 5) pe_non (nomark _)) (pss_one (ps_dput (hu_of hr) (pe_fld (pv 0) rfl) (pe_tup (pa_cons (pv 2) (pa_cons (pv 4) pa_nil))) (pv 5) rfl)) pss_nil))))))))), ?_⟩
    have npa : a ≠ p := ne_of ha hp (by intro z; cases z)
    have hlen : (rs.map V.ref).length = hh := by rw [List.length_map, hrl, R.hi]
    obtain ⟨row0, er0, hl0⟩ := R.row (i := 0) (by omega)
    obtain ⟨r0, hr0⟩ : ∃ r0, rs[0]? = some r0 := ⟨rs[0]'(by rw [hrl, R.hi]; omega), List.getElem?_eq_getElem _⟩
    have h0 : H r0 = some (.tup (row0.map fv)) := hrow 0 r0 row0 hr0 er0
    have np0 : r0 ≠ p := ne_of h0 hp (by intro z; cases z)
    have f0 : ([] : List (Str × V)).length < 1 := Nat.lt_succ_self 0
    have f1 := putF_lt "boxes" (.ref a) f0
    have f2 := putF_lt "height" (.int ((rs.map V.ref).length : Nat)) f1
    have f3 := putF_lt "width" (.int ((row0.map fv).length : Nat)) f2
    refine ⟨_, rfl, _, rfl, p, C, dx, [], rfl, hp, TT.cl, TT.nB, (by show 0 < 1000; decide), ?_⟩
    refine ⟨_, rfl, a, _, rfl, .inr (SqT.of (by rw [upd_ne npa]; exact ha)), _, rfl, p, C, dx, _, rfl, upd_same, TT.cl, TT.nH, (by omega), ?_⟩
    refine ⟨_, rfl, a, rs.map V.ref, 0, .ref r0, rfl, rfl, SqT.of (by rw [upd_ne npa, upd_ne npa]; exact ha), atI_nat (j := 0) (by rw [List.getElem?_map, hr0]; rfl),
      r0, row0.map fv, rfl, .inr (SqT.of (by rw [upd_ne np0, upd_ne np0]; exact h0)), _, rfl, p, C, dx, _, rfl, upd_same, TT.cl, TT.nW, (by omega), ?_⟩
    intro d hd
    have ndp : d ≠ p := fun e => by
      rw [e, upd_same] at hd
      cases hd
    have hd0 : H d = none := by
      rw [upd_ne ndp, upd_ne ndp, upd_ne ndp] at hd
      exact hd
    refine ⟨_, rfl, p, C, dx, _, rfl, by rw [upd_ne ndp.symm]; exact upd_same, TT.cl, TT.nK, (by omega), ?_⟩
    -- the loops
    have key : ∀ H' : Hp, H' p = some (.ins C dx (bf a (.int ((rs.map V.ref).length : Nat)) (.int ((row0.map fv).length : Nat)) d)) → (∀ b o, b ≠ p → H b = some o → H' b = some o) → Q .non H' := fun H' e s => by
      refine k H' ⟨dx, _, e, bf_boxes _ _ _ _, ?_, ?_⟩ s
      · rw [bf_height, hlen]
        rfl
      · rw [bf_width, List.length_map, hl0]
        rfl
    generalize hB : bf a (.int ((rs.map V.ref).length : Nat)) (.int ((row0.map fv).length : Nat)) d = fs at key
    have lt : fs.lookup ("kept_told" : Str) = some (.ref d) := by
      rw [← hB]
      exact bf_told _ _ _ _
    let Iv : Nat → Hp → Prop := fun n H' => H' p = some (.ins C dx fs) ∧ (∃ kvs, H' d = some (.dT kvs) ∧ kvs.length ≤ n) ∧ ∀ b o, b ≠ p → H b = some o → H' b = some o
    have nad : ∀ b o, H b = some o → b ≠ d := fun b o e => ne_of_none e hd0
    refine ⟨_, rfl, a, rs.map V.ref, rfl, SqT.of ?_, for_enumT (K := K) (a := a) (xs := rs.map V.ref) (fun i σ H' => ∃ v2 v3 v4 v5, σ = [some (.ref p), some (.ref a), v2, v3, v4, v5] ∧ Iv (i * 12) H')
      ⟨none, none, none, none, rfl, ?_, ⟨[], ?_, Nat.le_refl _⟩, ?_⟩ ?_ ?_ ?_⟩
    · rw [upd_ne npa, upd_ne (nad _ _ ha), upd_ne npa, upd_ne npa, upd_ne npa]
      exact ha
    · rw [upd_same, ← hB]
      rfl
    · rw [upd_ne ndp, upd_same]
    · intro b o nb e
      rw [upd_ne nb, upd_ne (nad _ _ e), upd_ne nb, upd_ne nb, upd_ne nb]
      exact e
    · rintro i σ H' _ ⟨_, _, _, _, _, _, _, s1⟩
      exact SqT.of (s1 _ _ npa ha)
    · rintro i x σ H1 t hx ⟨v2, v3, v4, v5, rfl, ep, ⟨kvs, ed, hk⟩, s1⟩ nt
      obtain ⟨r, hr', rfl⟩ : ∃ r, rs[i]? = some r ∧ x = V.ref r := by
        rw [List.getElem?_map] at hx
        cases e : rs[i]? with
        | none =>
          rw [e] at hx
          cases hx
        | some r =>
          rw [e] at hx
          exact ⟨r, rfl, (Option.some.inj hx).symm⟩
      have hi : i < hh := by
        rw [← R.hi, ← hrl]
        exact (List.getElem?_eq_some_iff.mp hr').1
      obtain ⟨row, er, hl⟩ := R.row hi
      have hrow' : H r = some (.tup (row.map fv)) := hrow i r row hr' er
      have npr : r ≠ p := ne_of hrow' hp (by intro z; cases z)
      have ntp : p ≠ t := ne_of_none ep nt
      have ntd : d ≠ t := ne_of_none ed nt
      have ntb : ∀ b o, b ≠ p → H b = some o → b ≠ t := fun b o nb e => ne_of_none (s1 b o nb e) nt
      refine ⟨t, _, rfl, SqT.of upd_same, rfl, _, _, rfl, _, _, rfl, rfl, ?_⟩
      refine ⟨_, rfl, r, row.map fv, rfl, SqT.of (by rw [upd_ne (ntb _ _ npr hrow')]; exact s1 _ _ npr hrow'), for_enumT (K := K) (a := r) (xs := row.map fv) (fun j σ H' => ∃ v4 v5, σ = [some (.ref p), some (.ref a), some (.int (i : Nat)), some (.ref r), v4, v5] ∧ Iv (i * 12 + j) H')
        ⟨v4, v5, rfl, by rw [upd_ne ntp]; exact ep, ⟨kvs, by rw [upd_ne ntd]; exact ed, hk⟩, fun b o nb e => by rw [upd_ne (ntb b o nb e)]; exact s1 b o nb e⟩ ?_ ?_ ?_⟩
      · rintro j σ H' _ ⟨_, _, _, _, _, s2⟩
        exact SqT.of (s2 _ _ npr hrow')
      · rintro j y σ H2 u hy ⟨w4, w5, rfl, ep2, ⟨kvs2, ed2, hk2⟩, s2⟩ nu
        obtain ⟨fm, rfl⟩ : ∃ fm, y = fv fm := by
          rw [List.getElem?_map] at hy
          cases e : row[j]? with
          | none =>
            rw [e] at hy
            cases hy
          | some fm =>
            rw [e] at hy
            exact ⟨fm, (Option.some.inj hy).symm⟩
        have hj : j < ww := by
          rw [← hl]
          have q := (List.getElem?_eq_some_iff.mp hy).1
          rw [List.length_map] at q
          exact q
        have nup : p ≠ u := ne_of_none ep2 nu
        have nud : d ≠ u := ne_of_none ed2 nu
        have nub : ∀ b o, b ≠ p → H b = some o → b ≠ u := fun b o nb e => ne_of_none (s2 b o nb e) nu
        refine ⟨u, _, rfl, SqT.of upd_same, rfl, _, _, rfl, _, _, rfl, rfl, ?_⟩
        refine ⟨_, rfl, rfl, _, rfl, ite2 (fun _ => ?_) (fun _ => ?_)⟩
        · refine ⟨_, rfl, _, rfl, p, C, dx, fs, _, rfl, by rw [upd_ne nup]; exact ep2, TT.cl, TT.nK, lt, ?_⟩
          refine ⟨_, rfl, _, rfl, (by show 2 ≤ sizeLine; decide), fun q nq => ?_⟩
          have nqu : u ≠ q := ne_of_none upd_same nq
          have ep3 : (upd H2 u (.tup [.int (j : Nat), fv fm])) p = some (.ins C dx fs) := by
            rw [upd_ne nup]
            exact ep2
          have ed3 : (upd H2 u (.tup [.int (j : Nat), fv fm])) d = some (.dT kvs2) := by
            rw [upd_ne nud]
            exact ed2
          have nqp : p ≠ q := ne_of_none ep3 nq
          have nqd : d ≠ q := ne_of_none ed3 nq
          have nqb : ∀ b o, b ≠ p → H b = some o → b ≠ q := fun b o nb e => ne_of_none (by rw [upd_ne (nub b o nb e)]; exact s2 b o nb e) nq
          refine ⟨d, _, rfl, DPut.t (k := [.inl (i : Nat), .inl (j : Nat)]) (kvs := kvs2) (by rw [upd_ne nqd]; exact ed3) upd_same ?_, ?_⟩
          · exact small1000 (by omega)
          · refine ⟨some (.int (j : Nat)), some (fv fm), rfl, by rw [upd_ne ndp.symm, upd_ne nqp]; exact ep3, ⟨_, upd_same, Nat.le_trans (length_putK _ _ _) (by omega)⟩, fun b o nb e => ?_⟩
            rw [upd_ne (nad b o e), upd_ne (nqb b o nb e), upd_ne (nub b o nb e)]
            exact s2 b o nb e
        · exact ⟨some (.int (j : Nat)), some (fv fm), rfl, by rw [upd_ne nup]; exact ep2, ⟨kvs2, by rw [upd_ne nud]; exact ed2, by omega⟩, fun b o nb e => by rw [upd_ne (nub b o nb e)]; exact s2 b o nb e⟩
      · rintro σ H' ⟨w4, w5, rfl, ep2, ⟨kvs2, ed2, hk2⟩, s2⟩
        rw [List.length_map, hl] at hk2
        exact ⟨_, _, w4, w5, rfl, ep2, ⟨kvs2, ed2, by omega⟩, s2⟩
    · rintro σ H' ⟨v2, v3, v4, v5, rfl, ep, _, s1⟩
      exact key H' ep s1
def spInit (C : Addr) : Sp := fun vs H Q _ => ∃ (p dx a : Addr) (T : Tab) (h w : Nat), vs = [.ref p, .ref a] ∧ H p = some (.ins C dx []) ∧ TabAt H a T ∧ Rect T h w ∧ Ents 30 T ∧ 1 ≤ h ∧ h ≤ 12 ∧ 1 ≤ w ∧ w ≤ 12 ∧
  ∀ H', BoxAt H' C p a h w → (∀ b o, b ≠ p → H b = some o → H' b = some o) → Q .non H'
theorem scInit : FnScope ["self", "boxes", "at", "row", "column", "thing"] ["self", "boxes"] (defScope sInit) := ⟨rfl, rfl, rfl, by decide +kernel, rfl, by decide +kernel, by decide +kernel⟩
theorem ok_init {f C fR fB fK : Addr} {fd fdR fdB fdK : FuncData} (F : Fun K "__init__" "Table.__init__" sInit f fd) (T : Txt K mg) (TT : TxtT K mg C)
    (FR : Fun K "is_row" "is_row" sIsRow fR fdR) (GR : FnOk P w K mg base CX0 1 fR fdR ["thing"] spIsRow) (bR : Binds K fdR ["thing"] []) (gR : mg "is_row" = some (.ref fR))
    (FB : Fun K "is_box_text" "is_box_text" sIsBoxText fB fdB) (GB : FnOk P w K mg base CX0 4 fB fdB ["thing"] spIsBoxText) (bB : Binds K fdB ["thing"] []) (gB : mg "is_box_text" = some (.ref fB))
    (GK : FnOk P w K mg base CX0 1 fK fdK ["self", "boxes"] (spKeep C)) (bK : Binds K fdK ["self", "boxes"] []) (mK : Meth K C "keep" fK) :
    FnOk P w K mg base CX0 5 f fd ["self", "boxes"] (spInit C) := by
  refine F.ok scInit (fun vs H Q E h => ?_) (fun cdv A outer s H vs Q E hr h => ?_)
  · obtain ⟨p, dx, a, _, _, _, rfl, _⟩ := h
    rfl
  · obtain ⟨p, dx, a, tb, hh, ww, rfl, hp, ht, R, hE, h1, h12, w1, w12, k⟩ := h
    obtain ⟨rs, ha, hrl, hrow⟩ := id ht
    have hr1 : Room 1 _ := hr.mono (by decide)
    refine ⟨_, pss_cons (ps_if (pt_not (pt_val (pe_call GR hr1 (by rfl) gR FR.kp bR .nil pass0 (pa_cons (pv 1) pa_nil)))) (pss_one ps_never) pss_nil)
      (pss_cons (ps_for PassesOwn.never rfl (pi_enumT (by rfl) T.enumerate (pa_cons (pv 1) pa_nil)) (pg_tup rfl (pgs_cons (pg_name (i := 2) scInit.nd rfl (.inl rfl)) (pgs_cons (pg_name (i := 3) scInit.nd rfl (.inl rfl)) pgs_nil)))
        (pss_one (ps_if (PW.pt (pw_or (pt_not (pt_val (pe_call GR hr1 (by rfl) gR FR.kp bR .nil pass0 (pa_cons (pv 3) pa_nil))))
          (pw_or1 (pt_cmpR op_ne (pe_callB call_len_seq (by rfl) T.len PySem.boot_len (pa_cons (pv 3) pa_nil)) (pe_callB call_len_seq (by rfl) T.len PySem.boot_len (pa_cons (pe_ix ix_tup (pv 1) pe_int (fun _ _ => rfl)) pa_nil)) (nomark _))))) (pss_one ps_never) pss_nil)))
      (pss_cons (ps_for PassesOwn.never rfl (pi_enumT (by rfl) T.enumerate (pa_cons (pv 1) pa_nil)) (pg_tup rfl (pgs_cons (pg_name (i := 2) scInit.nd rfl (.inl rfl)) (pgs_cons (pg_name (i := 3) scInit.nd rfl (.inl rfl)) pgs_nil)))
        (pss_one (ps_for PassesOwn.never rfl (pi_enumT (by rfl) T.enumerate (pa_cons (pv 3) pa_nil)) (pg_tup rfl (pgs_cons (pg_name (i := 4) scInit.nd rfl (.inl rfl)) (pgs_cons (pg_name (i := 5) scInit.nd rfl (.inl rfl)) pgs_nil)))
          (pss_one (ps_if (pt_not (pt_val (pe_call GB hr (by rfl) gB FB.kp bB .nil pass0 (pa_cons (pv 5) pa_nil)))) (pss_one ps_never) pss_nil)))))
      (pss_one (ps_expr (pe_meth (pv 0) TT.cl mK GK hr1 bK .nil pass0 (pa_cons (pv 1) pa_nil)))))), ?_⟩
    have hlen : (rs.map V.ref).length = hh := by rw [List.length_map, hrl, R.hi]
    obtain ⟨row0, er0, hl0⟩ := R.row (i := 0) (by omega)
    obtain ⟨r0, hr0⟩ : ∃ r0, rs[0]? = some r0 := ⟨rs[0]'(by rw [hrl, R.hi]; omega), List.getElem?_eq_getElem _⟩
    have h0 : H r0 = some (.tup (row0.map fv)) := hrow 0 r0 row0 hr0 er0
    have pick : ∀ (i : Nat) (x : V), (rs.map V.ref)[i]? = some x → ∃ r row, x = V.ref r ∧ H r = some (.tup (row.map fv)) ∧ row.length = ww ∧ tb[i]? = some row := fun i x hx => by
      rw [List.getElem?_map] at hx
      cases e : rs[i]? with
      | none =>
        rw [e] at hx
        cases hx
      | some r =>
        rw [e] at hx
        have hi : i < hh := by
          rw [← R.hi, ← hrl]
          exact (List.getElem?_eq_some_iff.mp e).1
        obtain ⟨row, er, hl⟩ := R.row hi
        exact ⟨r, row, (Option.some.inj hx).symm, hrow i r row e er, hl, er⟩
    -- if not is_row(boxes)
    refine ⟨_, rfl, a, rs.map V.ref, rfl, ha, by omega, by omega, fun H1 s1 => ⟨true, rfl, iteF ?_⟩⟩
    -- the rows
    refine ⟨_, rfl, a, rs.map V.ref, rfl, SqT.of (s1 _ _ ha), for_enumT (K := K) (a := a) (xs := rs.map V.ref) (fun i σ H' => ∃ v2 v3 v4 v5, σ = [some (.ref p), some (.ref a), v2, v3, v4, v5] ∧ Same H H')
      ⟨none, none, none, none, rfl, s1⟩ ?_ ?_ ?_⟩
    · rintro i σ H' _ ⟨_, _, _, _, _, s2⟩
      exact SqT.of (s2 _ _ ha)
    · rintro i x σ H2 t hx ⟨v2, v3, v4, v5, rfl, s2⟩ nt
      obtain ⟨r, row, rfl, hR, hl, _⟩ := pick i x hx
      have s3 : Same H (upd H2 t (.tup [.int (i : Nat), .ref r])) := s2.trans (same_upd nt)
      refine ⟨t, _, rfl, SqT.of upd_same, rfl, _, _, rfl, _, _, rfl, rfl, ?_⟩
      refine ⟨_, rfl, r, row.map fv, rfl, s3 _ _ hR, by rw [List.length_map]; omega, by rw [List.length_map]; omega, fun H3 s4 => ⟨true, rfl, iteF ?_⟩⟩
      have s5 : Same H H3 := s3.trans s4
      refine ⟨_, rfl, r, row.map fv, rfl, .inr (SqT.of (s5 _ _ hR)), _, rfl, a, rs.map V.ref, 0, .ref r0, rfl, rfl, SqT.of (s5 _ _ ha), atI_nat (j := 0) (by rw [List.getElem?_map, hr0]; rfl),
        r0, row0.map fv, rfl, .inr (SqT.of (s5 _ _ h0)), rfl, _, rfl, ?_⟩
      refine iteNS (congrArg V.int ?_) ⟨_, _, v4, v5, rfl, s5⟩
      rw [List.length_map, List.length_map, hl, hl0]
    · rintro σ H2 ⟨v2, v3, v4, v5, rfl, s2⟩
      -- the boxes
      refine ⟨_, rfl, a, rs.map V.ref, rfl, SqT.of (s2 _ _ ha), for_enumT (K := K) (a := a) (xs := rs.map V.ref) (fun i σ H' => ∃ v2 v3 v4 v5, σ = [some (.ref p), some (.ref a), v2, v3, v4, v5] ∧ Same H H')
        ⟨v2, v3, v4, v5, rfl, s2⟩ ?_ ?_ ?_⟩
      · rintro i σ H' _ ⟨_, _, _, _, _, s2⟩
        exact SqT.of (s2 _ _ ha)
      · rintro i x σ H2 t hx ⟨v2, v3, v4, v5, rfl, s2⟩ nt
        obtain ⟨r, row, rfl, hR, hl, er⟩ := pick i x hx
        have s3 : Same H (upd H2 t (.tup [.int (i : Nat), .ref r])) := s2.trans (same_upd nt)
        refine ⟨t, _, rfl, SqT.of upd_same, rfl, _, _, rfl, _, _, rfl, rfl, ?_⟩
        refine ⟨_, rfl, r, row.map fv, rfl, SqT.of (s3 _ _ hR), for_enumT (K := K) (a := r) (xs := row.map fv) (fun j σ H' => ∃ v4 v5, σ = [some (.ref p), some (.ref a), some (.int (i : Nat)), some (.ref r), v4, v5] ∧ Same H H')
          ⟨v4, v5, rfl, s3⟩ ?_ ?_ ?_⟩
        · rintro j σ H' _ ⟨_, _, _, s4⟩
          exact SqT.of (s4 _ _ hR)
        · rintro j y σ H3 u hy ⟨w4, w5, rfl, s4⟩ nu
          obtain ⟨fm, hfm, rfl⟩ : ∃ fm, fm ∈ row ∧ y = fv fm := by
            rw [List.getElem?_map] at hy
            cases e : row[j]? with
            | none =>
              rw [e] at hy
              cases hy
            | some fm =>
              rw [e] at hy
              exact ⟨fm, List.mem_of_getElem? e, (Option.some.inj hy).symm⟩
          have s5 : Same H (upd H3 u (.tup [.int (j : Nat), fv fm])) := s4.trans (same_upd nu)
          refine ⟨u, _, rfl, SqT.of upd_same, rfl, _, _, rfl, _, _, rfl, rfl, ?_⟩
          refine ⟨_, rfl, fm, rfl, hE row (List.mem_of_getElem? er) fm hfm, fun H4 s6 => ⟨true, rfl, iteF ⟨_, _, rfl, s5.trans s6⟩⟩⟩
        · rintro σ H3 ⟨w4, w5, rfl, s4⟩
          exact ⟨_, _, w4, w5, rfl, s4⟩
      · rintro σ H3 ⟨v2, v3, v4, v5, rfl, s3⟩
        -- self.keep(boxes)
        refine ⟨_, rfl, p, dx, [], rfl, s3 _ _ hp, rfl, _, rfl, p, dx, a, tb, hh, ww, rfl, s3 _ _ hp, ht.keep (Same.keepT s3), R, h1, h12, w12, fun H4 hB hk => ?_⟩
        exact k H4 hB fun b o nb e => hk b o nb (s3 b o e)
end
end K56

namespace K56
open PySem PySem.Spec PyProof.Rows L2
/-! ### sorted texts -/
def qv : Form → PySem.Str
  | none => "?"
  | some s => s
theorem rising_le : ∀ (ys : List Str) (p : Str), risingS p ys = true → (p :: ys).Pairwise fun a b => a.cps.toList ≤ b.cps.toList
  | [], p, _ => List.pairwise_singleton _ _
  | x :: r, p, h => by
    unfold risingS at h
    rw [Bool.and_eq_true, ltCps_eq] at h
    obtain ⟨h1, h2⟩ := h
    have ih := rising_le r x h2
    have hpx : p.cps.toList ≤ x.cps.toList := by
      have q : ¬ x.cps.toList < p.cps.toList := by simpa using h1
      exact q
    refine List.pairwise_cons.mpr ⟨fun b hb => ?_, ih⟩
    rcases List.mem_cons.mp hb with rfl | hb
    · exact hpx
    · exact List.le_trans hpx ((List.pairwise_cons.mp ih).1 b hb)
theorem sorted_le {ys : List Str} (h : sortedS ys = true) : ys.Pairwise fun a b => a.cps.toList ≤ b.cps.toList := by
  cases ys with
  | nil => exact List.Pairwise.nil
  | cons x r => exact rising_le r x h
theorem sorted_one {xs ys : List Str} (p : xs.Perm ys) (hx : sortedS xs = true) (hy : sortedS ys = true) : xs = ys := by
  refine List.Perm.eq_of_pairwise (le := fun a b => a.cps.toList ≤ b.cps.toList) (fun a b _ _ h1 h2 => ?_) (sorted_le hx) (sorted_le hy) p
  have e : a.cps.toList = b.cps.toList := List.le_antisymm h1 h2
  have e2 : a.cps = b.cps := Array.toList_inj.mp e
  cases a
  cases b
  exact congrArg _ e2
/-- what `written` tells of a row -/
structure Writ (row : List Form) (ys : List Str) : Prop where
  perm : ys.Perm (row.map qv)
  up : sortedS ys = true
theorem Writ.same {r s : List Form} {xs ys : List Str} (a : Writ r xs) (b : Writ s ys) (p : r.Perm s) : xs = ys :=
  sorted_one (a.perm.trans ((p.map qv).trans b.perm.symm)) a.up b.up
/-! ### data -/
section
variable {α : Type} [DecidableEq α] {f : α → PyData}
theorem eqvAll_map (h : ∀ a b, PyData.eqv (f a) (f b) = decide (a = b)) : ∀ xs ys : List α, PyData.eqvAll (xs.map f) (ys.map f) = decide (xs = ys)
  | [], [] => by simp [PyData.eqvAll]
  | [], _ :: _ => by simp [PyData.eqvAll]
  | _ :: _, [] => by simp [PyData.eqvAll]
  | a :: r, b :: t => by
    rw [List.map_cons, List.map_cons, PyData.eqvAll, h, eqvAll_map h r t]
    by_cases e : a = b <;> by_cases e' : r = t <;> simp [e, e']
omit [DecidableEq α] in
theorem layAll_map : ∀ {xs : List α}, (∀ x ∈ xs, PyData.canLay0 (f x) = true) → PyData.canLayAll0 (xs.map f) = true
  | [], _ => by simp [PyData.canLayAll0]
  | a :: r, h => by
    rw [List.map_cons, PyData.canLayAll0, h a List.mem_cons_self, layAll_map fun x hx => h x (List.mem_cons_of_mem _ hx)]
    rfl
omit [DecidableEq α] in
theorem depthAll_map {n : Nat} : ∀ {xs : List α}, (∀ x ∈ xs, PyData.depth (f x) ≤ n) → PyData.depthAll (xs.map f) ≤ n
  | [], _ => by simp [PyData.depthAll]
  | a :: r, h => by
    rw [List.map_cons, PyData.depthAll]
    exact Nat.max_le.mpr ⟨h a List.mem_cons_self, depthAll_map fun x hx => h x (List.mem_cons_of_mem _ hx)⟩
end
theorem dpAll_map {α : Type} {K : PySem.W.Frag} {H : Hp} {f : α → PyData} {g : α → V} : ∀ {xs : List α}, (∀ x ∈ xs, Dp K H (g x) (f x)) → DpAll K H (xs.map g) (xs.map f)
  | [], _ => .nil
  | a :: r, h => .cons (h a List.mem_cons_self) (dpAll_map fun x hx => h x (List.mem_cons_of_mem _ hx))
theorem dpAll_at {K : PySem.W.Frag} {H : Hp} : ∀ {vs : List V} {ds : List PyData}, vs.length = ds.length → (∀ (i : Nat) v d, vs[i]? = some v → ds[i]? = some d → Dp K H v d) → DpAll K H vs ds
  | [], [], _, _ => .nil
  | [], _ :: _, h, _ => by simp at h
  | _ :: _, [], h, _ => by simp at h
  | v :: vs, d :: ds, h, q => .cons (q 0 v d rfl rfl) (dpAll_at (by simpa using h) fun i v' d' e1 e2 => q (i + 1) v' d' (by simpa using e1) (by simpa using e2))
/-- the data that stand here: f says them, equal ones are equal, small and of letters -/
structure Small (d : PyData) (n : Nat) : Prop where
  lay : d.canLay0 = true
  dep : d.depth ≤ n
theorem Small.shaped {d : PyData} {n : Nat} (s : Small d n) (h : n ≤ 64) : SeqAt.shaped d = true := by
  unfold SeqAt.shaped
  rw [s.lay, decide_eq_true (Nat.le_trans s.dep h)]
  rfl
theorem small_list {α : Type} {f : α → PyData} {xs : List α} {n : Nat} (h : ∀ x ∈ xs, Small (f x) n) : Small (.list (xs.map f)) (n + 1) :=
  ⟨by rw [PyData.canLay0]; exact layAll_map fun x hx => (h x hx).lay, by rw [PyData.depth]; exact Nat.succ_le_succ (depthAll_map fun x hx => (h x hx).dep)⟩
theorem small_tuple {α : Type} {f : α → PyData} {xs : List α} {n : Nat} (h : ∀ x ∈ xs, Small (f x) n) : Small (.tuple (xs.map f)) (n + 1) :=
  ⟨by rw [PyData.canLay0]; exact layAll_map fun x hx => (h x hx).lay, by rw [PyData.depth]; exact Nat.succ_le_succ (depthAll_map fun x hx => (h x hx).dep)⟩
theorem small_str {s : PySem.Str} (h : ∀ c ∈ s.cps.toList, c < 1114112) : Small (.str s) 0 := by
  refine ⟨?_, by simp [PyData.depth]⟩
  rw [PyData.canLay0, PyData.strOk]
  rw [Array.all_eq_true_iff_forall_mem]
  intro c hc
  exact decide_eq_true (h c (Array.mem_toList_iff.mpr hc))
theorem small_int (i : Int) : Small (.int i) 0 := ⟨by simp [PyData.canLay0], by simp [PyData.depth]⟩
/-! forms -/
def fmD : Form → PyData
  | none => .none
  | some s => .str s
theorem eqv_fmD : ∀ a b : Form, PyData.eqv (fmD a) (fmD b) = decide (a = b)
  | none, none => by simp [fmD, PyData.eqv]
  | none, some _ => by simp [fmD, PyData.eqv]
  | some _, none => by simp [fmD, PyData.eqv]
  | some x, some y => by
    show PyData.eqv (.str x) (.str y) = _
    rw [PyData.eqv]
    by_cases e : x = y <;> simp [e]
theorem lets_small {s : PySem.Str} (h : lets s) : Small (.str s) 0 := small_str fun c hc => Nat.lt_of_le_of_lt (h c hc).2 (by decide)
theorem small_fmD {m : Nat} {x : Form} (h : Fine m x) : Small (fmD x) 0 := by
  cases x with
  | none => exact ⟨by simp [fmD, PyData.canLay0], by simp [fmD, PyData.depth]⟩
  | some s => exact lets_small (h s rfl).2
theorem dp_fmD {K : PySem.W.Frag} {H : Hp} (x : Form) : Dp K H (fv x) (fmD x) := by
  cases x with
  | none => exact .non
  | some s => exact .str s
/-! texts -/
theorem eqv_strs (xs ys : List Str) : PyData.eqv (.list (xs.map .str)) (.list (ys.map .str)) = decide (xs = ys) := by
  rw [PyData.eqv]
  refine eqvAll_map (fun a b => ?_) xs ys
  rw [PyData.eqv]
  by_cases e : a = b <;> simp [e]
theorem small_qv {m : Nat} {x : Form} (h : Fine m x) : Small (.str (qv x)) 0 := by
  cases x with
  | none => exact small_str (by decide +kernel)
  | some s => exact lets_small (h s rfl).2
theorem Writ.small {m : Nat} {row : List Form} {ys : List Str} (w : Writ row ys) (h : ∀ x ∈ row, Fine m x) : Small (.list (ys.map .str)) 1 := by
  refine small_list fun y hy => ?_
  obtain ⟨x, hx, rfl⟩ := List.mem_map.mp (w.perm.mem_iff.mp hy)
  exact small_qv (h x hx)
theorem dp_strs {K : PySem.W.Frag} {H : Hp} {p : Addr} {ys : List Str} (h : H p = some (.lst (ys.map V.str))) : Dp K H (.ref p) (.list (ys.map .str)) := .lst (SqL.of h) (dpAll_map fun y _ => .str y)
/-! a list of forms (a column) -/
theorem eqv_col (xs ys : List Form) : PyData.eqv (.list (xs.map fmD)) (.list (ys.map fmD)) = decide (xs = ys) := by
  rw [PyData.eqv]
  exact eqvAll_map eqv_fmD xs ys
theorem dp_col {K : PySem.W.Frag} {H : Hp} {p : Addr} {xs : List Form} (h : H p = some (.lst (xs.map fv))) : Dp K H (.ref p) (.list (xs.map fmD)) := .lst (SqL.of h) (dpAll_map fun y _ => dp_fmD y)
/-! tables -/
def rowD (row : List Form) : PyData := .tuple (row.map fmD)
def tabD (T : Tab) : PyData := .tuple (T.map rowD)
theorem eqv_rowD (a b : List Form) : PyData.eqv (rowD a) (rowD b) = decide (a = b) := by
  unfold rowD
  rw [PyData.eqv]
  exact eqvAll_map eqv_fmD a b
theorem eqv_tabD (a b : Tab) : PyData.eqv (tabD a) (tabD b) = decide (a = b) := by
  unfold tabD
  rw [PyData.eqv]
  exact eqvAll_map eqv_rowD a b
theorem small_tabD {m : Nat} {T : Tab} (h : Ents m T) : Small (tabD T) 2 := small_tuple fun row hr => small_tuple fun x hx => small_fmD (h row hr x hx)
theorem dp_tab {K : PySem.W.Frag} {H : Hp} {a : Addr} {T : Tab} (h : TabAt H a T) : Dp K H (.ref a) (tabD T) := by
  obtain ⟨rs, ha, hl, hr⟩ := h
  refine .tup (SqT.of ha) (dpAll_at (by simp [hl]) fun i v d e1 e2 => ?_)
  rw [List.getElem?_map] at e1 e2
  cases q1 : rs[i]? with
  | none =>
    rw [q1] at e1
    cases e1
  | some r =>
    cases q2 : T[i]? with
    | none =>
      rw [q2] at e2
      cases e2
    | some row =>
      rw [q1] at e1
      rw [q2] at e2
      cases e1
      cases e2
      exact .tup (SqT.of (hr i r row q1 q2)) (dpAll_map fun y _ => dp_fmD y)
/-! orders -/
def ordD (o : List Nat) : PyData := .tuple (o.map fun (n : Nat) => PyData.int (n : Int))
def pairD (a b : List Nat) : PyData := .tuple [ordD a, ordD b]
theorem eqv_ordD (a b : List Nat) : PyData.eqv (ordD a) (ordD b) = decide (a = b) := by
  unfold ordD
  rw [PyData.eqv]
  refine eqvAll_map (fun a b => ?_) a b
  rw [PyData.eqv]
  by_cases e : a = b
  · simp [e]
  · have e2 : (a : Int) ≠ (b : Int) := fun z => e (Int.ofNat.inj z)
    simp [e, e2]
theorem eqv_pairD (a b c d : List Nat) : PyData.eqv (pairD a b) (pairD c d) = (decide (a = c) && decide (b = d)) := by
  unfold pairD
  rw [PyData.eqv, PyData.eqvAll, PyData.eqvAll, PyData.eqvAll, eqv_ordD, eqv_ordD, Bool.and_true]
theorem small_ordD (o : List Nat) : Small (ordD o) 1 := small_tuple fun n _ => small_int _
theorem small_pairD (a b : List Nat) : Small (pairD a b) 2 := by
  have h : Small (.tuple ([a, b].map ordD)) (1 + 1) := small_tuple fun o _ => small_ordD o
  exact h
theorem dp_ord {K : PySem.W.Frag} {H : Hp} {p : Addr} {o : List Nat} (h : OrdAt H p o) : Dp K H (.ref p) (ordD o) := .tup (SqT.of h) (dpAll_map fun n _ => .int _)
theorem dp_pair {K : PySem.W.Frag} {H : Hp} {t : Addr} {a b : List Nat} (h : PairAt H t a b) : Dp K H (.ref t) (pairD a b) := by
  obtain ⟨p, q, ht, hp, hq⟩ := h
  exact .tup (SqT.of ht) (.cons (dp_ord hp) (.cons (dp_ord hq) .nil))
end K56

namespace K56
open PySem PySem.Spec PyProof.Rows L2
abbrev sWritten : Stmt := top 6
abbrev sRows : Stmt := top 7
theorem at_map {α : Type} {g : α → V} {xs : List α} {i : Nat} {v : V} (h : (xs.map g)[i]? = some v) : ∃ x, xs[i]? = some x ∧ v = g x := by
  rw [List.getElem?_map] at h
  cases e : xs[i]? with
  | none =>
    rw [e] at h
    cases h
  | some x =>
    rw [e] at h
    exact ⟨x, rfl, (Option.some.inj h).symm⟩
theorem map_at {α : Type} {g : α → V} {xs : List α} {i : Nat} {x : α} (h : xs[i]? = some x) : (xs.map g)[i]? = some (g x) := by
  rw [List.getElem?_map, h]
  rfl
theorem map_take_succ {α β : Type} {g : α → β} {xs : List α} {i : Nat} {x : α} (h : xs[i]? = some x) : (xs.take i).map g ++ [g x] = (xs.take (i + 1)).map g := by
  rw [List.take_add_one, h, List.map_append]
  rfl
theorem lt_of_at {α : Type} {xs : List α} {i : Nat} {x : α} (h : xs[i]? = some x) : i < xs.length := (List.getElem?_eq_some_iff.mp h).1
/-- a store into a list that is new since H -/
theorem Same.into {H H1 : Hp} {D : Addr} {o : HO} (hD : H D = none) (s : Same H H1) : Same H (upd H1 D o) := fun b x e => by
  rw [upd_ne (ne_of_none e hD)]
  exact s b x e
theorem OrdsAt.same {H H' : Hp} {D : Addr} {L : List (List Nat)} (s : Same H H') (h : OrdsAt H D L) : OrdsAt H' D L :=
  let ⟨as, e, l, q⟩ := h
  ⟨as, s _ _ e, l, fun i r o e1 e2 => s _ _ (q i r o e1 e2)⟩
theorem OrdsAt.nil {H : Hp} {D : Addr} : OrdsAt (upd H D (.lst [])) D [] := ⟨[], upd_same, rfl, fun i r o e1 _ => by simp at e1⟩
theorem OrdsAt.push {H : Hp} {D r : Addr} {L : List (List Nat)} {o : List Nat} (h : OrdsAt H D L) (hr : OrdAt H r o) : ∃ acc, H D = some (.lst acc) ∧ acc.length = L.length ∧ OrdsAt (upd H D (.lst (acc ++ [.ref r]))) D (L ++ [o]) := by
  obtain ⟨as, e, l, q⟩ := h
  have keep : ∀ b xs, H b = some (.tup xs) → (upd H D (.lst (as.map V.ref ++ [.ref r]))) b = some (.tup xs) := fun b xs eb => by
    rw [upd_ne (ne_of eb e (by intro z; cases z))]
    exact eb
  refine ⟨_, e, by rw [List.length_map, l], as ++ [r], by rw [upd_same, List.map_append]; rfl, by rw [List.length_append, List.length_append, l]; rfl, fun i r' o' e1 e2 => keep _ _ ?_⟩
  by_cases hi : i < as.length
  · rw [List.getElem?_append_left hi] at e1
    rw [List.getElem?_append_left (by rw [← l]; exact hi)] at e2
    exact q i r' o' e1 e2
  · have e3 : i = as.length := by
      have := lt_of_at e1
      rw [List.length_append, List.length_singleton] at this
      omega
    subst e3
    rw [List.getElem?_append_right (Nat.le_refl _), Nat.sub_self] at e1
    rw [List.getElem?_append_right (by rw [l]; exact Nat.le_refl _), l, Nat.sub_self] at e2
    cases e1
    cases e2
    exact hr
theorem in_nv (r : Nat) (o : List Nat) : inV (nv r) (o.map nv) = o.contains r := by
  unfold inV
  rw [List.any_map, List.contains_eq_any_beq]
  refine congrArg (fun g => o.any g) (funext fun x => ?_)
  show eqV (nv x) (nv r) = _
  have e : eqV (nv x) (nv r) = decide ((x : Int) = (r : Int)) := by
    show ((x : Int) == (r : Int)) = _
    by_cases q : (x : Int) = (r : Int) <;> simp [q]
  rw [e]
  by_cases q : x = r
  · subst q
    simp
  · have q2 : ¬ (x : Int) = (r : Int) := fun z => q (Int.ofNat.inj z)
    have q3 : ¬ r = x := fun z => q z.symm
    simp [q2, q3]
theorem flat_nv (o : List Nat) : (o.map nv).all flatV = true := by
  rw [List.all_map, List.all_eq_true]
  intro x _
  rfl
/-- order + (r,) -/
theorem cat_one {K : PySem.W.Frag} {H : Hp} {a b : Addr} {o : List Nat} {r : Nat} {Q : VK} (ha : OrdAt H a o) (hb : H b = some (.tup [nv r])) (hl : o.length ≤ 1000) (h : ∀ c H', Same H H' → OrdAt H' c (o ++ [r]) → Q (.ref c) H') : rCatA K (.ref a) (.ref b) H Q := by
  refine ⟨a, b, o.map nv, [nv r], rfl, rfl, SqT.of ha, SqT.of hb, ?_, fun e => ?_, fun _ e => (by cases e), fun _ _ p hp => ?_⟩
  · rw [List.length_map, List.length_singleton]
    exact Nat.le_trans (Nat.succ_le_succ hl) (by decide)
  · refine h b H (Same.refl H) ?_
    have e2 : o = [] := by simpa using e
    rw [e2]
    exact hb
  · refine h p _ (same_upd hp) ?_
    show upd H p _ p = _
    rw [upd_same, List.map_append]
    rfl
theorem z0 (i : Nat) : V.int (0 + (i : Int)) = nv i := by
  unfold nv
  rw [Int.zero_add]
theorem filter_take_succ {p : Nat → Bool} {xs : List Nat} {i r : Nat} (h : xs[i]? = some r) : (xs.take (i + 1)).filter p = (xs.take i).filter p ++ (if p r = true then [r] else []) := by
  rw [List.take_add_one, h, List.filter_append]
  congr 1
  show List.filter p [r] = _
  rw [List.filter_cons]
  rfl
/-- the list at D of what `written` tells of the first rows of T -/
def WrAt (H : Hp) (D : Addr) (T : Tab) (i : Nat) : Prop := ∃ ms : List Addr, H D = some (.lst (ms.map V.ref)) ∧ ms.length = i ∧ ∀ (j : Nat) m row, ms[j]? = some m → T[j]? = some row → m ≠ D ∧ ∃ ys : List Str, H m = some (.lst (ys.map V.str)) ∧ Writ row ys
theorem WrAt.same {H H' : Hp} {D : Addr} {T : Tab} {i : Nat} (s : Same H H') (h : WrAt H D T i) : WrAt H' D T i :=
  let ⟨ms, e, l, q⟩ := h
  ⟨ms, s _ _ e, l, fun j m row e1 e2 => let ⟨n, ys, e3, wr⟩ := q j m row e1 e2; ⟨n, ys, s _ _ e3, wr⟩⟩
theorem WrAt.nil {H : Hp} {D : Addr} {T : Tab} : WrAt (upd H D (.lst [])) D T 0 := ⟨[], upd_same, rfl, fun j m row e1 _ => by simp at e1⟩
theorem WrAt.push {H : Hp} {D m : Addr} {T : Tab} {i : Nat} {row : List Form} {ys : List Str} (h : WrAt H D T i) (hr : T[i]? = some row) (hm : H m = some (.lst (ys.map V.str))) (nm : m ≠ D) (wr : Writ row ys) :
    ∃ acc, H D = some (.lst acc) ∧ acc.length = i ∧ WrAt (upd H D (.lst (acc ++ [.ref m]))) D T (i + 1) := by
  obtain ⟨ms, e, l, q⟩ := h
  refine ⟨_, e, by rw [List.length_map, l], ms ++ [m], by rw [upd_same, List.map_append]; rfl, by rw [List.length_append, l]; rfl, fun j m' row' e1 e2 => ?_⟩
  by_cases hj : j < ms.length
  · rw [List.getElem?_append_left hj] at e1
    obtain ⟨n, ys', e3, wr'⟩ := q j m' row' e1 e2
    exact ⟨n, ys', by rw [upd_ne n]; exact e3, wr'⟩
  · have e3 : j = ms.length := by
      have := lt_of_at e1
      rw [List.length_append, List.length_singleton] at this
      omega
    rw [e3, List.getElem?_append_right (Nat.le_refl _), Nat.sub_self] at e1
    cases e1
    rw [e3, l, hr] at e2
    cases e2
    exact ⟨nm, ys, by rw [upd_ne nm]; exact hm, wr⟩
theorem step_snoc (rows : List Nat) (L : List (List Nat)) (o : List Nat) : step rows (L ++ [o]) = step rows L ++ ((rows.filter fun r => !o.contains r).map fun r => o ++ [r]) := by
  unfold step
  rw [List.flatMap_append, List.flatMap_singleton]
theorem six {n : Nat} (h : n ≤ 6) : 6 ^ n ≤ 46656 := Nat.le_trans (Nat.pow_le_pow_right (by decide) h) (by decide)
theorem small_line {n : Nat} (h : n ≤ 1000000) : n < sizeLine := Nat.lt_of_le_of_lt h (by decide)
section
variable {P : Program} {w : World} {K : PySem.W.Frag} {mg : Str → Option Value} {base : Heap}
def spWritten : Sp := fun vs H Q _ => ∃ (r : Addr) (row : List Form), vs = [.ref r] ∧ RowAt H r row ∧ row.length ≤ 12 ∧
  ∀ H' p ys, Same H H' → H p = none → H' p = some (.lst (ys.map V.str)) → Writ row ys → Q (.ref p) H'
theorem scWritten : FnScope ["forms", "form"] ["forms"] (defScope sWritten) := ⟨rfl, rfl, rfl, by decide +kernel, rfl, by decide +kernel, by decide +kernel⟩
theorem ok_written {f : Addr} {fd : FuncData} (F : Fun K "written" "written" sWritten f fd) (T : Txt K mg) : FnOk P w K mg base CX0 1 f fd ["forms"] spWritten := by
  refine F.ok scWritten (fun vs H Q E h => ?_) (fun cdv A outer s H vs Q E hr h => ?_)
  · obtain ⟨r, row, rfl, _⟩ := h
    rfl
  · obtain ⟨r, row, rfl, hR, h12, k⟩ := h
    refine ⟨_, pss_one (ps_ret (pe_callB cr_sortedS (by rfl) T.sorted (by decide +kernel) (pa_cons (pe_lc (own := [("form", 1)]) (g := gName 1) (tt := tYes) rfl scWritten.nd (pi_tup (pv 0))
      (blkOk_by (N := ["forms", "form"]) (sc := defScope sWritten) (by decide +kernel)) (fun _ _ _ _ _ => pg_name (i := 1) scWritten.nd rfl (.inl rfl)) (fun _ _ _ _ _ => pts_nil)
      (fun _ _ _ _ _ => pe_ifExp (pt_cmpR op_isN (pv 1) pe_non (nomark _)) pe_str (pv 1))) pa_nil))), ?_⟩
    refine ⟨_, rfl, r, rfl, ⟨_, SqT.of hR⟩, fun D hD => ?_⟩
    refine lc_tup (K := K) (a := r) (xs := row.map fv) (fun i H' => Same H H' ∧ H' D = some (.lst (((row.take i).map qv).map V.str))) ⟨same_upd hD, upd_same⟩ (fun i H' _ p => SqT.of (p.1 _ _ hR)) ?_ ?_
    · rintro i x H1 hx ⟨s1, e1⟩
      obtain ⟨fm, hf, rfl⟩ := at_map hx
      refine ⟨rfl, fv fm, rfl, rfl, _, rfl, ?_⟩
      have sz : (((row.take i).map qv).map V.str).length < sizeLine := by
        rw [List.length_map, List.length_map, List.length_take]
        exact small1000 (by omega)
      have fin : ∀ y : V, y = V.str (qv fm) → ∃ acc, H1 D = some (.lst acc) ∧ acc.length < sizeLine ∧ Same H (upd H1 D (.lst (acc ++ [y]))) ∧ (upd H1 D (.lst (acc ++ [y]))) D = some (.lst (((row.take (i + 1)).map qv).map V.str)) := fun y ey => by
        refine ⟨_, e1, sz, Same.into hD s1, ?_⟩
        rw [upd_same, ey, ← map_take_succ hf, List.map_append]
        rfl
      cases fm with
      | none => exact iteT (fin _ rfl)
      | some z => exact iteF ⟨_, rfl, fin _ rfl⟩
    · rintro H1 ⟨s1, e1⟩
      have el : (row.take (row.map fv).length).map qv = row.map qv := by rw [List.length_map, List.take_length]
      rw [el] at e1
      refine ⟨D, row.map qv, rfl, SqL.of e1, by rw [List.length_map]; omega, fun ys p perm up np => ?_⟩
      exact k _ p ys (s1.trans (same_upd np)) (s1.free np) upd_same ⟨perm, up⟩
/-- the rows of T that may stand where each row of U stands -/
structure RowsOk (h : Nat) (T U : Tab) (n : Nat) (Rs : List (List Nat)) : Prop where
  len : Rs.length = n
  up : ∀ rows ∈ Rs, rows.Pairwise (· < ·) ∧ (∀ r ∈ rows, r < h) ∧ rows.length ≤ h
  all : ∀ (i r : Nat) (row row' : List Form) (rows : List Nat), Rs[i]? = some rows → T[r]? = some row → U[i]? = some row' → row'.Perm row → r ∈ rows
def spRows (C : Addr) : Sp := fun vs H Q _ => ∃ (p q a b : Addr) (T U : Tab) (h w : Nat), vs = [.ref p, .ref q] ∧ BoxAt H C p a h w ∧ TabAt H a T ∧ BoxAt H C q b h w ∧ TabAt H b U ∧ Rect T h w ∧ Rect U h w ∧ Ents 30 T ∧ Ents 30 U ∧ h ≤ 6 ∧ w ≤ 6 ∧
  ∀ H' l Rs, Same H H' → OrdsAt H' l (build Rs) → RowsOk h T U h Rs → Q (.ref l) H'
theorem scRows : FnScope ["one", "other", "forms", "mine", "found", "due", "rows", "row", "order"] ["one", "other"] (defScope sRows) := ⟨rfl, rfl, rfl, by decide +kernel, rfl, by decide +kernel, by decide +kernel⟩
theorem ok_rows {f C fW : Addr} {fd fdW : FuncData} (F : Fun K "orders_of_rows" "orders_of_rows" sRows f fd) (T : Txt K mg) (TT : TxtT K mg C)
    (FW : Fun K "written" "written" sWritten fW fdW) (GW : FnOk P w K mg base CX0 1 fW fdW ["forms"] spWritten) (bW : Binds K fdW ["forms"] []) (gW : mg "written" = some (.ref fW)) :
    FnOk P w K mg base CX0 2 f fd ["one", "other"] (spRows C) := by
  refine F.ok scRows (fun vs H Q E h => ?_) (fun cdv A outer s H vs Q E hr h => ?_)
  · obtain ⟨p, q, _, _, _, _, _, _, rfl, _⟩ := h
    rfl
  · obtain ⟨p, q, a, b, tb, ub, hh, ww, rfl, hB1, hT1, hB2, hT2, R1, R2, E1, E2, h6, w6, k⟩ := h
    refine ⟨_, pss_cons (ps_set (i := 3) scRows.nd rfl (.inr rfl) (pe_lc (own := [("forms", 2)]) (g := gName 2) (tt := tYes) rfl scRows.nd (pi_tup (pe_fld (pv 0) rfl))
        (blkOk_by (N := ["one", "other", "forms", "mine", "found", "due", "rows", "row", "order"]) (sc := defScope sRows) (by decide +kernel)) (fun _ _ _ _ _ => pg_name (i := 2) scRows.nd rfl (.inl rfl)) (fun _ _ _ _ _ => pts_nil)
        (fun _ _ _ _ _ => pe_call GW hr (by rfl) gW FW.kp bW .nil pass0 (pa_cons (pv 2) pa_nil))))
      (pss_cons (ps_set (i := 4) scRows.nd rfl (.inl rfl) (pe_lst (pa_cons (pe_tup pa_nil) pa_nil)))
      (pss_cons (ps_for PassesOwn.never rfl (pi_tup (pe_fld (pv 1) rfl)) (pg_name (i := 2) scRows.nd rfl (.inl rfl))
        (pss_cons (ps_set (i := 5) scRows.nd rfl (.inr rfl) (pe_call GW hr (by rfl) gW FW.kp bW .nil pass0 (pa_cons (pv 2) pa_nil)))
        (pss_cons (ps_set (i := 6) scRows.nd rfl (.inr rfl) (pe_lc (own := [("row", 7)]) (g := gName 7) rfl scRows.nd (pi_range1 rfl T.range (pa_cons (pe_fld (pv 0) rfl) pa_nil))
          (blkOk_by (N := ["one", "other", "forms", "mine", "found", "due", "rows", "row", "order"]) (sc := defScope sRows) (by decide +kernel)) (fun _ _ _ _ _ => pg_name (i := 7) scRows.nd rfl (.inl rfl))
          (fun _ _ _ _ _ => pts_one (pt_cmpR (op_eqK K hr.units) (pe_ix (ix_listK K) (pv 3) (pv 7) (fun _ _ => rfl)) (pv 5) (nomark _))) (fun _ _ _ _ _ => pv 7)))
        (pss_one (ps_setLc2 (i := 4) (own := [("order", 8), ("row", 7)]) (vs1 := [7]) (g := gName 8) (g1 := gName 7) (tt := tYes) rfl scRows.nd rfl rfl (sw_true rfl rfl rfl (by decide +kernel)) (pi_list (pv 4))
          (blkOk_by (N := ["one", "other", "forms", "mine", "found", "due", "rows", "row", "order"]) (sc := defScope sRows) (by decide +kernel)) (by decide)
          (fun _ _ _ _ _ => pg_name (i := 8) scRows.nd rfl (.inl rfl)) (fun _ _ _ _ _ => pts_nil) (fun _ _ _ _ _ => pi_listK K (pv 6)) (fun _ _ _ _ _ => pg_name (i := 7) scRows.nd rfl (.inl rfl))
          (fun _ _ _ _ _ => pts_one (pt_cmpR (op_notInK K) (pv 7) (pv 8) rfl)) (fun _ _ _ _ _ => pe_op (op_catK K) (pv 8) (pe_tup (pa_cons (pv 7) pa_nil))))))))
      (pss_one (ps_ret (pv 4))))), ?_⟩
    obtain ⟨dx1, fs1, e1, b1, h1, w1⟩ := hB1
    obtain ⟨dx2, fs2, e2, b2, h2, w2⟩ := hB2
    obtain ⟨rs, ha, hrl, hrow⟩ := id hT1
    obtain ⟨ss, hb, hsl, hsow⟩ := id hT2
    -- mine
    refine ⟨_, rfl, p, C, dx1, fs1, .ref a, rfl, e1, TT.cl, TT.nB, b1, a, rfl, ⟨_, SqT.of ha⟩, fun D hD => ?_⟩
    refine lc_tup (K := K) (a := a) (xs := rs.map V.ref) (fun i H' => Same H H' ∧ WrAt H' D tb i) ⟨same_upd hD, WrAt.nil⟩ (fun i H' _ p => SqT.of (p.1 _ _ ha)) ?_ ?_
    · rintro i x H1 hx ⟨s1, w1⟩
      obtain ⟨r, hr', rfl⟩ := at_map hx
      have hi : i < hh := by
        rw [← R1.hi, ← hrl]
        exact lt_of_at hr'
      obtain ⟨row, er, hl⟩ := R1.row hi
      refine ⟨rfl, ?_⟩
      refine ⟨_, rfl, r, row, rfl, s1 _ _ (hrow i r row hr' er), by omega, fun H2 m ys s2 nm em wr => ?_⟩
      obtain ⟨acc, ea, la, wn⟩ := (w1.same s2).push er em (fun z => by
        obtain ⟨_, ed, _⟩ := w1
        rw [z, ed] at nm
        cases nm) wr
      exact ⟨acc, ea, small1000 (by omega), Same.into hD (Same.trans s1 s2), wn⟩
    · rintro H1 ⟨s1, w1⟩
      have hlen : (rs.map V.ref).length = hh := by rw [List.length_map, hrl, R1.hi]
      rw [hlen] at w1
      -- found
      refine ⟨Nat.zero_le _, fun u hu => ⟨by show 1 ≤ sizeLine; decide, fun l0 hl0 => ?_⟩⟩
      have s2 : Same H1 (upd (upd H1 u (.tup [])) l0 (.lst [.ref u])) := Same.trans (same_upd hu) (same_upd hl0)
      have o2 : OrdsAt (upd (upd H1 u (.tup [])) l0 (.lst [.ref u])) l0 (build []) := by
        refine ⟨[u], upd_same, rfl, fun i r o q1 q2 => ?_⟩
        have ei : i = 0 := by
          have := lt_of_at q1
          simpa using this
        subst ei
        cases q1
        cases q2
        show upd _ _ _ u = _
        rw [upd_ne (ne_of_none upd_same hl0), upd_same]
        rfl
      have s3 : Same H _ := Same.trans s1 s2
      refine ⟨_, rfl, q, C, dx2, fs2, .ref b, rfl, s3 _ _ e2, TT.cl, TT.nB, b2, b, rfl, ⟨_, SqT.of (s3 _ _ hb)⟩, for_tup (K := K) (a := b) (xs := ss.map V.ref) (fun i σ H' => ∃ v2 v5 v6 l Rs, σ = [some (.ref p), some (.ref q), v2, some (.ref D), some (.ref l), v5, v6, none, none] ∧ Same H H' ∧ WrAt H' D tb hh ∧ OrdsAt H' l (build Rs) ∧ RowsOk hh tb ub i Rs)
        ⟨none, none, none, l0, [], rfl, s3, w1.same s2, o2, rfl, by simp, fun i r row row' rows q _ _ _ => by simp at q⟩ ?_ ?_ ?_⟩
      · rintro i σ H' _ ⟨_, _, _, _, _, _, s4, _⟩
        exact SqT.of (s4 _ _ hb)
      · rintro i x σ H2 hx ⟨v2, v5, v6, l, Rs, rfl, s4, wr4, o4, ok4⟩
        obtain ⟨sa, hs', rfl⟩ := at_map hx
        have hi : i < hh := by
          rw [← R2.hi, ← hsl]
          exact lt_of_at hs'
        obtain ⟨row', er', hl'⟩ := R2.row hi
        have hsrow : H sa = some (.tup (row'.map fv)) := hsow i sa row' hs' er'
        -- due
        refine ⟨_, rfl, sa, row', rfl, s4 _ _ hsrow, by omega, fun H3 pd ys' s5 npd ed wrd => ?_⟩
        have s6 : Same H H3 := Same.trans s4 s5
        -- rows
        obtain ⟨ms, em, lm, qm⟩ := id (wr4.same s5)
        have hW : ∀ r, ∃ ys : List Str, r < hh → ∃ m row, ms[r]? = some m ∧ tb[r]? = some row ∧ H3 m = some (.lst (ys.map V.str)) ∧ Writ row ys := fun r => by
          by_cases hr' : r < hh
          · obtain ⟨row, er, _⟩ := R1.row hr'
            have hm : ms[r]? = some (ms[r]'(by rw [lm]; exact hr')) := List.getElem?_eq_getElem _
            obtain ⟨_, ys, e3, wr⟩ := qm r _ row hm er
            exact ⟨ys, fun _ => ⟨_, row, hm, er, e3, wr⟩⟩
          · exact ⟨[], fun z => (hr' z).elim⟩
        obtain ⟨W, hW⟩ := Classical.axiomOfChoice hW
        refine ⟨_, rfl, p, C, dx1, fs1, _, rfl, s6 _ _ e1, TT.cl, TT.nH, h1, (hh : Int), rfl, by omega, by omega, fun D6 hD6 => ?_⟩
        refine lc_range (lo := 0) (n := hh) (fun j H' => Same H3 H' ∧ H' D6 = some (.lst ((((List.range hh).take j).filter fun r => decide (W r = ys')).map nv))) ⟨same_upd hD6, by rw [upd_same]; rfl⟩ ?_ ?_
        · rintro j H4 hj ⟨s7, e7⟩
          obtain ⟨m, row, hm, er, e3, wr⟩ := hW j hj
          refine ⟨rfl, _, rfl, _, rfl, D, ms.map V.ref, _, .ref m, rfl, rfl, SqL.of (s7 _ _ em), by rw [Int.zero_add]; exact atI_nat (map_at hm), _, rfl,
            .list ((W j).map .str), .list (ys'.map .str), dp_strs (s7 _ _ e3), dp_strs (s7 _ _ ed), (wr.small (E1 row (List.mem_of_getElem? er))).shaped (by decide), (wrd.small (E2 row' (List.mem_of_getElem? er'))).shaped (by decide), _, rfl, ?_⟩
          have fl := filter_take_succ (p := fun r => decide (W r = ys')) (xs := List.range hh) (i := j) (r := j) (List.getElem?_range hj)
          rw [eqv_strs]
          by_cases hq : W j = ys'
          · rw [decide_eq_true hq]
            refine iteT ⟨_, rfl, _, e7, ?_, Same.into hD6 s7, ?_⟩
            · refine small1000 ?_
              rw [List.length_map]
              refine Nat.le_trans (List.length_filter_le _ _) ?_
              rw [List.length_take]
              omega
            · rw [upd_same, fl, z0, List.map_append]
              simp [hq]
          · rw [decide_eq_false hq]
            refine iteF ⟨s7, ?_⟩
            rw [e7, fl]
            simp [hq]
        · rintro H4 ⟨s7, e7⟩
          have et : (List.range hh).take hh = List.range hh := by
            rw [List.take_of_length_le]
            rw [List.length_range]
            exact Nat.le_refl _
          rw [et] at e7
          generalize hrows : ((List.range hh).filter fun r => decide (W r = ys')) = rows at e7
          have rl : rows.length ≤ hh := by
            rw [← hrows]
            refine Nat.le_trans (List.length_filter_le _ _) ?_
            rw [List.length_range]
            exact Nat.le_refl _
          have o7 : OrdsAt H4 l (build Rs) := (o4.same s5).same s7
          have s8 : Same H H4 := Same.trans s6 s7
          have bl : (build Rs).length ≤ 46656 := by
            have q1 := build_len (m := 6) Rs fun rw' hq => Nat.le_trans (ok4.up rw' hq).2.2 h6
            have q2 : 6 ^ Rs.length ≤ 46656 := six (by rw [ok4.len]; omega)
            omega
          obtain ⟨as, el, la, qa⟩ := id o7
          -- the longer orders
          refine ⟨_, rfl, l, rfl, ⟨_, SqL.of el⟩, fun D4 hD4 => ?_⟩
          refine turns (J := Itl K l) (n := (build Rs).length) (fun i H' => Same H4 H' ∧ OrdsAt H' D4 (step rows ((build Rs).take i))) ⟨same_upd hD4, OrdsAt.nil⟩ ?_ ?_ ?_ ?_
          · rintro i' H5 hi' ⟨s9, _⟩
            have hx : i' < as.length := by rw [la]; exact hi'
            exact ⟨_, _, SqL.of (s9 _ _ el), map_at (List.getElem?_eq_getElem hx)⟩
          · rintro H5 ⟨s9, _⟩
            exact ⟨_, SqL.of (s9 _ _ el), by rw [List.length_map, la]; exact Nat.le_refl _⟩
          · rintro i' x H5 H5' hi' ⟨s9, o9⟩ ⟨rfl, hx⟩
            obtain ⟨t, ht, rfl⟩ := at_map (hx _ (SqL.of (s9 _ _ el)))
            obtain ⟨o, ho⟩ : ∃ o, (build Rs)[i']? = some o := ⟨_, List.getElem?_eq_getElem hi'⟩
            have ot : OrdAt H4 t o := qa i' t o ht ho
            have ol : o.length ≤ 6 := by
              have := ((mem_build Rs o).mp (List.mem_of_getElem? ho)).len
              rw [this, ok4.len]
              omega
            refine ⟨rfl, ?_⟩
            refine ⟨_, rfl, D6, rfl, ⟨_, SqL.of (s9 _ _ e7)⟩, ?_⟩
            refine turns (J := Itl K D6) (n := rows.length) (fun j H' => Same H4 H' ∧ OrdsAt H' D4 (step rows ((build Rs).take i') ++ (((rows.take j).filter fun r => !o.contains r).map fun r => o ++ [r]))) ⟨s9, by simpa using o9⟩ ?_ ?_ ?_ ?_
            · rintro j H6 hj ⟨s10, _⟩
              exact ⟨_, _, SqL.of (s10 _ _ e7), map_at (List.getElem?_eq_getElem hj)⟩
            · rintro H6 ⟨s10, _⟩
              exact ⟨_, SqL.of (s10 _ _ e7), by rw [List.length_map]; exact Nat.le_refl _⟩
            · rintro j y H6 H6' hj ⟨s10, o10⟩ ⟨rfl, hy⟩
              obtain ⟨r, hr', rfl⟩ := at_map (hy _ (SqL.of (s10 _ _ e7)))
              have fl := filter_take_succ (p := fun r => !o.contains r) (xs := rows) (i := j) (r := r) hr'
              have ot' : OrdAt H6' t o := s10 _ _ ot
              refine ⟨rfl, _, rfl, _, rfl, t, o.map nv, rfl, .inr (SqT.of ot'), rfl, flat_nv o, _, rfl, ?_⟩
              have en : (if true = true then !inV (nv r) (o.map nv) else inV (nv r) (o.map nv)) = !o.contains r := by rw [if_pos rfl, in_nv]
              rw [en]
              by_cases hc : o.contains r = true
              · rw [hc]
                refine iteF ⟨s10, ?_⟩
                rw [fl, hc, if_neg (by decide), List.append_nil]
                exact o10
              · have hc' : o.contains r = false := by simpa using hc
                rw [hc']
                refine iteT ⟨_, rfl, _, rfl, by show 1 ≤ sizeLine; decide, fun u hu => ?_⟩
                refine cat_one (r := r) (same_upd hu _ _ ot') upd_same (by omega) fun c H7 s11 oc => ?_
                have s12 : Same H6' H7 := Same.trans (same_upd hu) s11
                obtain ⟨acc, ea, lac, on⟩ := (o10.same s12).push oc
                refine ⟨acc, ea, ?_, Same.into hD4 (Same.trans s10 s12), ?_⟩
                · refine small_line ?_
                  rw [lac, List.length_append, List.length_map]
                  have q1 := step_len (rows := rows) (m := 6) (by omega) ((build Rs).take i')
                  have q2 : ((rows.take j).filter fun r => !o.contains r).length ≤ 6 := by
                    refine Nat.le_trans (List.length_filter_le _ _) ?_
                    rw [List.length_take]
                    omega
                  rw [List.length_take] at q1
                  omega
                · rw [fl, hc', if_pos (by decide), List.map_append, ← List.append_assoc]
                  exact on
            · rintro H6 ⟨s10, o10⟩
              refine ⟨s10, ?_⟩
              rw [List.take_length] at o10
              rw [List.take_add_one, ho]
              show OrdsAt H6 D4 (step rows ((build Rs).take i' ++ [o]))
              rw [step_snoc]
              exact o10
          · rintro H5 ⟨s9, o9⟩
            rw [List.take_length, ← build_snoc] at o9
            refine ⟨_, _, _, D4, Rs ++ [rows], rfl, Same.trans s8 s9, ((wr4.same s5).same s7).same s9, o9, ?_, ?_, ?_⟩
            · rw [List.length_append, ok4.len]
              rfl
            · intro rw' hq
              rcases List.mem_append.mp hq with hq | hq
              · exact ok4.up rw' hq
              · have e := List.mem_singleton.mp hq
                subst e
                refine ⟨?_, fun r hr' => ?_, rl⟩
                · rw [← hrows]
                  exact List.pairwise_lt_range.filter _
                · rw [← hrows] at hr'
                  exact List.mem_range.mp (List.mem_filter.mp hr').1
            · intro i2 r row row2 rows2 q1 q2 q3 q4
              by_cases hi2 : i2 < Rs.length
              · rw [List.getElem?_append_left hi2] at q1
                exact ok4.all i2 r row row2 rows2 q1 q2 q3 q4
              · have e3 : i2 = Rs.length := by
                  have := lt_of_at q1
                  rw [List.length_append, List.length_singleton] at this
                  omega
                rw [e3, List.getElem?_append_right (Nat.le_refl _), Nat.sub_self] at q1
                cases q1
                rw [e3, ok4.len, er'] at q3
                cases q3
                have hr' : r < hh := by
                  rw [← R1.hi]
                  exact lt_of_at q2
                obtain ⟨m, row3, hm, er, e3', wr⟩ := hW r hr'
                rw [q2] at er
                cases er
                rw [← hrows]
                exact List.mem_filter.mpr ⟨List.mem_range.mpr hr', decide_eq_true (wr.same wrd q4.symm)⟩
      · rintro σ H2 ⟨v2, v5, v6, l, Rs, rfl, s4, wr4, o4, ok4⟩
        have hlen2 : (ss.map V.ref).length = hh := by rw [List.length_map, hsl, R2.hi]
        rw [hlen2] at ok4
        exact ⟨_, rfl, k H2 l Rs s4 o4 ok4⟩
end
end K56

namespace K56
open PySem PySem.Spec PyProof.Rows L2
abbrev sCols : Stmt := top 8
def lcScope : Expr → Scope
  | .ListComp _ _ sc _ => sc
  | _ => default
def asgValue : Stmt → Expr
  | .Assign _ e _ => e
  | .Return (some e) _ => e
  | _ => .Constant .none 0 ⟨0, 0, 0, 0⟩
def arg0 : Expr → Expr
  | .Call _ (e :: _) _ _ => e
  | e => e
/-- the columns of T in the order of its rows, at the list D -/
def ColsAt (H : Hp) (D : Addr) (T : Tab) (o : List Nat) (i : Nat) : Prop := ∃ ms : List Addr, H D = some (.lst (ms.map V.ref)) ∧ ms.length = i ∧ ∀ (j : Nat) m, ms[j]? = some m → m ≠ D ∧ H m = some (.lst ((colT T o j).map fv))
theorem ColsAt.same {H H' : Hp} {D : Addr} {T : Tab} {o : List Nat} {i : Nat} (s : Same H H') (h : ColsAt H D T o i) : ColsAt H' D T o i :=
  let ⟨ms, e, l, q⟩ := h
  ⟨ms, s _ _ e, l, fun j m e1 => let ⟨n, e3⟩ := q j m e1; ⟨n, s _ _ e3⟩⟩
theorem ColsAt.nil {H : Hp} {D : Addr} {T : Tab} {o : List Nat} : ColsAt (upd H D (.lst [])) D T o 0 := ⟨[], upd_same, rfl, fun j m e1 => by simp at e1⟩
theorem ColsAt.push {H : Hp} {D m : Addr} {T : Tab} {o : List Nat} {i : Nat} (h : ColsAt H D T o i) (hm : H m = some (.lst ((colT T o i).map fv))) (nm : m ≠ D) :
    ∃ acc, H D = some (.lst acc) ∧ acc.length = i ∧ ColsAt (upd H D (.lst (acc ++ [.ref m]))) D T o (i + 1) := by
  obtain ⟨ms, e, l, q⟩ := h
  refine ⟨_, e, by rw [List.length_map, l], ms ++ [m], by rw [upd_same, List.map_append]; rfl, by rw [List.length_append, l]; rfl, fun j m' e1 => ?_⟩
  by_cases hj : j < ms.length
  · rw [List.getElem?_append_left hj] at e1
    obtain ⟨n, e3⟩ := q j m' e1
    exact ⟨n, by rw [upd_ne n]; exact e3⟩
  · have e3 : j = ms.length := by
      have := lt_of_at e1
      rw [List.length_append, List.length_singleton] at this
      omega
    rw [e3, List.getElem?_append_right (Nat.le_refl _), Nat.sub_self] at e1
    cases e1
    rw [e3, l]
    exact ⟨nm, by rw [upd_ne nm]; exact hm⟩
/-- [x for row in t] of entries -/
theorem ents_fine {m : Nat} {T : Tab} {h w i j : Nat} (R : Rect T h w) (E : Ents m T) (hi : i < h) (hj : j < w) : Fine m (ent T i j) := by
  obtain ⟨row, er, ex⟩ := R.ent hi hj
  exact E row (List.mem_of_getElem? er) _ (List.mem_of_getElem? ex)
theorem colT_fine {m : Nat} {T : Tab} {h w j : Nat} {o : List Nat} (R : Rect T h w) (E : Ents m T) (ho : ∀ r ∈ o, r < h) (hj : j < w) : ∀ x ∈ colT T o j, Fine m x := by
  intro x hx
  obtain ⟨r, hr, rfl⟩ := List.mem_map.mp hx
  exact ents_fine R E (ho r hr) hj
theorem dueC_fine {m : Nat} {U : Tab} {h w j : Nat} (R : Rect U h w) (E : Ents m U) (hj : j < w) : ∀ x ∈ dueC U j, Fine m x := by
  intro x hx
  obtain ⟨row, hr, rfl⟩ := List.mem_map.mp hx
  have hl : j < row.length := by rw [R.wd row hr]; exact hj
  rw [List.getElem?_eq_getElem hl]
  exact E row hr _ (List.getElem_mem hl)
theorem small_col {m : Nat} {c : List Form} (h : ∀ x ∈ c, Fine m x) : Small (.list (c.map fmD)) 1 := small_list fun x hx => small_fmD (h x hx)
/-- a search for the first that fits, as far as it has come -/
theorem range_take {n : Nat} : (List.range n).take n = List.range n := by
  rw [List.take_of_length_le]
  rw [List.length_range]
  exact Nat.le_refl _
section
variable {P : Program} {w : World} {K : PySem.W.Frag} {mg : Str → Option Value} {base : Heap}
def spCols (C : Addr) : Sp := fun vs H Q _ => ∃ (p o q a b : Addr) (T U : Tab) (h w : Nat) (ord : List Nat), vs = [.ref p, .ref o, .ref q] ∧ BoxAt H C p a h w ∧ TabAt H a T ∧ OrdAt H o ord ∧ BoxAt H C q b h w ∧ TabAt H b U ∧ Rect T h w ∧ Rect U h w ∧ Ents 30 T ∧ Ents 30 U ∧
  ord.length ≤ 12 ∧ (∀ r ∈ ord, r < h) ∧ h ≤ 12 ∧ w ≤ 12 ∧
  ∀ H', Same H H' → (greedy w (colT T ord) [] ((List.range w).map (dueC U)) = none → Q .non H') ∧ ∀ c g, greedy w (colT T ord) [] ((List.range w).map (dueC U)) = some g → OrdAt H' c g → Q (.ref c) H'
abbrev nCols : List Str := ["one", "rows", "other", "column", "mine", "order", "due", "good", "row", "forms", "here"]
theorem scCols : FnScope nCols ["one", "rows", "other"] (defScope sCols) := ⟨rfl, rfl, rfl, by decide +kernel, rfl, by decide +kernel, by decide +kernel⟩
theorem ok_cols {f C : Addr} {fd : FuncData} (F : Fun K "columns_in" "columns_in" sCols f fd) (T : Txt K mg) (TT : TxtT K mg C) :
    FnOk P w K mg base CX0 1 f fd ["one", "rows", "other"] (spCols C) := by
  refine F.ok scCols (fun vs H Q E h => ?_) (fun cdv A outer s H vs Q E hr h => ?_)
  · obtain ⟨p, o, q, _, _, _, _, _, _, _, rfl, _⟩ := h
    rfl
  · obtain ⟨p, o, q, a, b, tb, ub, hh, ww, ord, rfl, hB1, hT1, hO, hB2, hT2, R1, R2, E1, E2, o12, ho, h12, w12, k⟩ := h
    refine ⟨_, pss_cons (ps_set (i := 4) scCols.nd rfl (.inr rfl) (pe_lc (own := [("column", 3)]) (g := gName 3) (tt := tYes) rfl scCols.nd (pi_range1 rfl T.range (pa_cons (pe_fld (pv 0) rfl) pa_nil))
        (blkOk_by (N := nCols) (sc := defScope sCols) (by decide +kernel)) (fun _ _ _ _ _ => pg_name (i := 3) scCols.nd rfl (.inr rfl)) (fun _ _ _ _ _ => pts_nil)
        (fun _ _ _ _ _ => pe_lc (own := [("row", 8)]) (g := gName 8) (tt := tYes) rfl scCols.nd (pi_tupK K (pv 1))
          (blkOk_by (N := nCols) (sc := relS (lcScope (asgValue ((defBody sCols).getD 0 (.Pass ⟨0, 0, 0, 0⟩)))) (defScope sCols)) (by decide +kernel)) (fun _ _ _ _ _ => pg_name (i := 8) scCols.nd rfl (.inl rfl)) (fun _ _ _ _ _ => pts_nil)
          (fun _ _ _ _ _ => pe_ix (ix_tupK K) (pe_ix (ix_tupK K) (pe_fldK K (pv 0) rfl) (pv 8) (fun _ _ => rfl)) (pv 3) (fun _ _ => rfl)))))
      (pss_cons (ps_set (i := 5) scCols.nd rfl (.inr rfl) (pe_lst pa_nil))
      (pss_cons (ps_for PassesOwn.never rfl (pi_range1 rfl T.range (pa_cons (pe_fld (pv 2) rfl) pa_nil)) (pg_name (i := 3) scCols.nd rfl (.inr rfl))
        (pss_cons (ps_set (i := 6) scCols.nd rfl (.inr rfl) (pe_lc (own := [("forms", 9)]) (g := gName 9) (tt := tYes) rfl scCols.nd (pi_tup (pe_fld (pv 2) rfl))
          (blkOk_by (N := nCols) (sc := defScope sCols) (by decide +kernel)) (fun _ _ _ _ _ => pg_name (i := 9) scCols.nd rfl (.inl rfl)) (fun _ _ _ _ _ => pts_nil)
          (fun _ _ _ _ _ => pe_ix (ix_tupK K) (pv 9) (pv 3) (fun _ _ => rfl))))
        (pss_cons (ps_setLc (i := 7) (own := [("here", 10)]) (g := gName 10) rfl scCols.nd rfl rfl (sw_true rfl rfl rfl (by decide +kernel)) (pi_range1 rfl T.range (pa_cons (pe_fld (pv 0) rfl) pa_nil))
          (blkOk_by (N := nCols) (sc := defScope sCols) (by decide +kernel)) (fun _ _ _ _ _ => pg_name (i := 10) scCols.nd rfl (.inl rfl))
          (fun _ _ _ _ _ => pts_one (PW.pt (pw_and (pt_cmpR (op_notInK K) (pv 10) (pv 5) rfl) (pw_and1 (pt_cmpR (op_eqK K hr.units) (pe_ix (ix_listK K) (pv 4) (pv 10) (fun _ _ => rfl)) (pv 6) (nomark _)))))) (fun _ _ _ _ _ => pv 10))
        (pss_cons (ps_if (pt_cmpR op_eq (pe_callB call_len_seq (by rfl) T.len PySem.boot_len (pa_cons (pv 7) pa_nil)) pe_int (nomark _)) (pss_one (ps_ret pe_non)) pss_nil)
        (pss_one (ps_expr (pe_bm PySem.F.plainAttrs_list PySem.F.slot_list_append PySem.F.type_list_append mt_append (pv 5) (pa_cons (pe_ix ix_list (pv 7) pe_int (fun _ _ => rfl)) pa_nil))))))))
      (pss_one (ps_ret (pe_callTy call_tuple_of (by rfl) T.tuple (by decide +kernel) (pa_cons (pv 5) pa_nil)))))), ?_⟩
    obtain ⟨dx1, fs1, e1, b1, h1, w1⟩ := hB1
    obtain ⟨dx2, fs2, e2, b2, h2, w2⟩ := hB2
    obtain ⟨rs, ha, hrl, hrow⟩ := id hT1
    obtain ⟨ss, hb, hsl, hsow⟩ := id hT2
    have hlen1 : (rs.map V.ref).length = hh := by rw [List.length_map, hrl, R1.hi]
    have hlen2 : (ss.map V.ref).length = hh := by rw [List.length_map, hsl, R2.hi]
    -- mine
    refine ⟨_, rfl, p, C, dx1, fs1, _, rfl, e1, TT.cl, TT.nW, w1, (ww : Int), rfl, by omega, by omega, fun D hD => ?_⟩
    refine lc_range (lo := 0) (n := ww) (fun j H' => Same H H' ∧ ColsAt H' D tb ord j) ⟨same_upd hD, ColsAt.nil⟩ ?_ ?_
    · rintro j H1 hj ⟨s1, c1⟩
      refine ⟨rfl, _, rfl, o, rfl, ⟨_, SqT.of (s1 _ _ hO)⟩, fun D2 hD2 => ?_⟩
      have nD : D2 ≠ D := fun z => by
        obtain ⟨_, ed, _⟩ := c1
        rw [z, ed] at hD2
        cases hD2
      refine lc_tup (K := K) (a := o) (xs := ord.map nv) (fun i H' => Same H1 H' ∧ H' D2 = some (.lst (((ord.take i).map fun r => ent tb r j).map fv))) ⟨same_upd hD2, by rw [upd_same]; rfl⟩ (fun i H' _ p => SqT.of (p.1 _ _ (s1 _ _ hO))) ?_ ?_
      · rintro i x H2 hx ⟨s2, d2⟩
        obtain ⟨r, hr', rfl⟩ := at_map hx
        have s12 : Same H H2 := Same.trans s1 s2
        have rh : r < hh := ho r (List.mem_of_getElem? hr')
        obtain ⟨row, er, ex⟩ := R1.ent rh hj
        obtain ⟨ra, era⟩ : ∃ ra, rs[r]? = some ra := ⟨rs[r]'(by rw [hrl, R1.hi]; exact rh), List.getElem?_eq_getElem _⟩
        have hR : H ra = some (.tup (row.map fv)) := hrow r ra row era er
        refine ⟨rfl, _, rfl, p, C, dx1, fs1, _, rfl, s12 _ _ e1, TT.cl, TT.nB, b1, _, rfl, a, rs.map V.ref, _, .ref ra, rfl, rfl, SqT.of (s12 _ _ ha), atI_nat (map_at era), _, rfl, ra, row.map fv, _, fv (ent tb r j), rfl, rfl, SqT.of (s12 _ _ hR), by rw [Int.zero_add]; exact atI_nat (map_at ex), ?_⟩
        refine ⟨_, d2, ?_, Same.into hD2 s2, ?_⟩
        · refine small1000 ?_
          rw [List.length_map, List.length_map, List.length_take]
          omega
        · rw [upd_same, ← map_take_succ hr', List.map_append]
          rfl
      · rintro H2 ⟨s2, d2⟩
        have et : (ord.take (ord.map nv).length).map (fun r => ent tb r j) = colT tb ord j := by rw [List.length_map, List.take_length]; rfl
        rw [et] at d2
        obtain ⟨acc, ea, la, cn⟩ := (c1.same s2).push d2 nD
        exact ⟨acc, ea, small1000 (by omega), Same.into hD (Same.trans s1 s2), cn⟩
    · rintro H1 ⟨s1, c1⟩
      -- order
      refine ⟨Nat.zero_le _, fun L hL => ?_⟩
      generalize hds : (List.range ww).map (dueC ub) = ds at k
      generalize hgr : greedy ww (colT tb ord) [] ds = gr at k
      refine ⟨_, rfl, q, C, dx2, fs2, _, rfl, Same.trans s1 (same_upd hL) _ _ e2, TT.cl, TT.nW, w2, (ww : Int), rfl, by omega, by omega,
        for_range (lo := 0) (n := ww) (fun i σ H' => ∃ v3 v6 v7 used, σ = [some (.ref p), some (.ref o), some (.ref q), v3, some (.ref D), some (.ref L), v6, v7, none, none, none] ∧ Same H1 H' ∧ H' L = some (.lst (used.map nv)) ∧ used.length = i ∧ gr = (greedy ww (colT tb ord) used (ds.drop i)).map (used ++ ·))
        ⟨none, none, none, [], rfl, same_upd hL, upd_same, rfl, by rw [List.drop_zero, hgr]; simp⟩ ?_ ?_⟩
      · rintro i σ H2 hi ⟨v3, v6, v7, used, rfl, s2, eL, lu, eg⟩
        have s12 : Same H H2 := Same.trans s1 s2
        have hdi : ds.drop i = dueC ub i :: ds.drop (i + 1) := by
          have hl : i < ds.length := by
            rw [← hds, List.length_map, List.length_range]
            exact hi
          rw [List.drop_eq_getElem_cons hl]
          congr 1
          have q1 : ds[i]? = some (dueC ub i) := by
            rw [← hds, List.getElem?_map, List.getElem?_range hi]
            rfl
          exact (List.getElem?_eq_some_iff.mp q1).2
        rw [hdi] at eg
        -- due
        refine ⟨_, rfl, q, C, dx2, fs2, _, rfl, s12 _ _ e2, TT.cl, TT.nB, b2, b, rfl, ⟨_, SqT.of (s12 _ _ hb)⟩, fun D6 hD6 => ?_⟩
        refine lc_tup (K := K) (a := b) (xs := ss.map V.ref) (fun j H' => Same H2 H' ∧ H' D6 = some (.lst (((ub.take j).map fun row => (row[i]?).getD default).map fv))) ⟨same_upd hD6, by rw [upd_same]; rfl⟩ (fun j H' _ p => SqT.of (p.1 _ _ (s12 _ _ hb))) ?_ ?_
        · rintro j x H3 hx ⟨s3, d3⟩
          obtain ⟨sa, hs', rfl⟩ := at_map hx
          have hj : j < hh := by
            rw [← hlen2, List.length_map]
            exact lt_of_at hs'
          obtain ⟨row, er, ex⟩ := R2.ent hj hi
          have hR : H sa = some (.tup (row.map fv)) := hsow j sa row hs' er
          refine ⟨rfl, _, rfl, _, rfl, sa, row.map fv, _, fv (ent ub j i), rfl, rfl, SqT.of (s3 _ _ (s12 _ _ hR)), by rw [Int.zero_add]; exact atI_nat (map_at ex), ?_⟩
          refine ⟨_, d3, ?_, Same.into hD6 s3, ?_⟩
          · refine small1000 ?_
            rw [List.length_map, List.length_map, List.length_take]
            omega
          · rw [upd_same, ← map_take_succ er, List.map_append, ex]
            rfl
        · rintro H3 ⟨s3, d3⟩
          have et : (ub.take (ss.map V.ref).length).map (fun row => (row[i]?).getD default) = dueC ub i := by
            rw [hlen2, ← R2.hi, List.take_length]
            rfl
          rw [et] at d3
          have s13 : Same H H3 := Same.trans s12 s3
          obtain ⟨ms, em, lm, qm⟩ := (c1.same s2).same s3
          -- good
          refine ⟨_, rfl, p, C, dx1, fs1, _, rfl, s13 _ _ e1, TT.cl, TT.nW, w1, (ww : Int), rfl, by omega, by omega, fun D7 hD7 => ?_⟩
          refine lc_range (lo := 0) (n := ww) (fun c H' => Same H3 H' ∧ H' D7 = some (.lst ((((List.range ww).take c).filter fun c => !used.contains c && decide (colT tb ord c = dueC ub i)).map nv))) ⟨same_upd hD7, by rw [upd_same]; rfl⟩ ?_ ?_
          · rintro c H4 hc ⟨s4, d4⟩
            have fl := filter_take_succ (p := fun c => !used.contains c && decide (colT tb ord c = dueC ub i)) (xs := List.range ww) (i := c) (r := c) (List.getElem?_range hc)
            have yes : (!used.contains c && decide (colT tb ord c = dueC ub i)) = true → ∃ acc, H4 D7 = some (.lst acc) ∧ acc.length < sizeLine ∧ Same H3 (upd H4 D7 (.lst (acc ++ [V.int (0 + (c : Int))]))) ∧
                (upd H4 D7 (.lst (acc ++ [V.int (0 + (c : Int))]))) D7 = some (.lst ((((List.range ww).take (c + 1)).filter fun c => !used.contains c && decide (colT tb ord c = dueC ub i)).map nv)) := fun hy => by
              refine ⟨_, d4, ?_, Same.into hD7 s4, ?_⟩
              · refine small1000 ?_
                rw [List.length_map]
                refine Nat.le_trans (List.length_filter_le _ _) ?_
                rw [List.length_take]
                omega
              · rw [upd_same, fl, hy, if_pos rfl, z0, List.map_append]
                rfl
            have no : (!used.contains c && decide (colT tb ord c = dueC ub i)) = false → Same H3 H4 ∧ H4 D7 = some (.lst ((((List.range ww).take (c + 1)).filter fun c => !used.contains c && decide (colT tb ord c = dueC ub i)).map nv)) := fun hn => by
              refine ⟨s4, ?_⟩
              rw [d4, fl, hn, if_neg Bool.false_ne_true, List.append_nil]
            refine ⟨rfl, _, rfl, _, rfl, L, used.map nv, rfl, .inl (SqL.of (s4 _ _ (s3 _ _ eL))), rfl, flat_nv used, _, rfl, ?_⟩
            have en : (if true = true then !inV (V.int (0 + (c : Int))) (used.map nv) else inV (V.int (0 + (c : Int))) (used.map nv)) = !used.contains c := by rw [if_pos rfl, z0, in_nv]
            rw [en]
            cases hu : used.contains c with
            | true =>
              refine iteF ?_
              exact iteF (no (by rw [hu]; rfl))
            | false =>
              refine iteT ?_
              obtain ⟨m, hm⟩ : ∃ m, ms[c]? = some m := ⟨ms[c]'(by rw [lm]; exact hc), List.getElem?_eq_getElem _⟩
              obtain ⟨_, em2⟩ := qm c m hm
              refine ⟨_, rfl, _, rfl, D, ms.map V.ref, _, .ref m, rfl, rfl, SqL.of (s4 _ _ em), by rw [Int.zero_add]; exact atI_nat (map_at hm), _, rfl,
                .list ((colT tb ord c).map fmD), .list ((dueC ub i).map fmD), dp_col (s4 _ _ em2), dp_col (s4 _ _ d3), (small_col (colT_fine R1 E1 ho hc)).shaped (by decide), (small_col (dueC_fine R2 E2 hi)).shaped (by decide), _, rfl, ?_⟩
              rw [eqv_col]
              by_cases hq : colT tb ord c = dueC ub i
              · rw [decide_eq_true hq]
                exact iteT ⟨_, rfl, yes (by rw [hu, decide_eq_true hq]; rfl)⟩
              · rw [decide_eq_false hq]
                exact iteF (no (by rw [hu, decide_eq_false hq]; rfl))
          · rintro H4 ⟨s4, d4⟩
            rw [range_take] at d4
            have s24 : Same H2 H4 := Same.trans s3 s4
            -- if len(good) == 0
            cases hg : (List.range ww).filter (fun c => !used.contains c && decide (colT tb ord c = dueC ub i)) with
            | nil =>
              rw [hg] at d4
              refine ⟨_, rfl, D7, [], rfl, .inl (SqL.of d4), rfl, _, rfl, iteT ?_⟩
              rw [greedy_stop (by rw [hg]; rfl)] at eg
              exact (k H4 (Same.trans s12 s24)).1 eg
            | cons g gs =>
              rw [hg] at d4
              refine ⟨_, rfl, D7, _, rfl, .inl (SqL.of d4), rfl, _, rfl, ?_⟩
              have ng : decide (V.int (((g :: gs).map nv).length : Int) = V.int 0) = false := by
                refine decide_eq_false fun z => ?_
                have z2 := V.int.inj z
                rw [List.map_cons, List.length_cons] at z2
                omega
              rw [ng]
              refine iteF ?_
              -- order.append(good[0])
              have eL4 : H4 L = some (.lst (used.map nv)) := s24 _ _ eL
              refine ⟨_, rfl, .inl ⟨rfl, _, SqL.of eL4⟩, _, rfl, D7, (g :: gs).map nv, 0, nv g, rfl, rfl, SqL.of d4, atI_nat (j := 0) rfl, L, _, _, rfl, rfl, eL4, ?_, ?_⟩
              · rw [List.length_map, lu]
                exact small1000 (by omega)
              · rw [greedy_turn (c := g) (by rw [hg]; rfl)] at eg
                refine ⟨_, _, _, used ++ [g], rfl, fun b o e => ?_, ?_, ?_, ?_⟩
                · rw [upd_ne (ne_of_none e hL)]
                  exact Same.trans s2 s24 b o e
                · rw [upd_same, List.map_append]
                  rfl
                · rw [List.length_append, lu]
                  rfl
                · rw [eg, Option.map_map]
                  congr 1
                  funext x
                  simp
      · rintro σ H2 ⟨v3, v6, v7, used, rfl, s2, eL, lu, eg⟩
        have hd : ds.drop ww = [] := by
          rw [List.drop_eq_nil_iff, ← hds, List.length_map, List.length_range]
          exact Nat.le_refl _
        rw [hd] at eg
        have eg2 : gr = some used := by
          rw [eg]
          show some (used ++ []) = some used
          rw [List.append_nil]
        refine ⟨_, rfl, L, used.map nv, rfl, .inl ⟨SqL.of eL, fun c hc => ?_⟩⟩
        exact (k _ (Same.trans (Same.trans s1 s2) (same_upd hc))).2 c used eg2 upd_same
end
end K56

namespace K56
open PySem PySem.Spec PyProof.Rows L2
abbrev sBetween : Stmt := top 9
theorem rows_build {h w : Nat} {T U : Tab} {Rs : List (List Nat)} (RT : Rect T h w) (RU : Rect U h w) (ok : RowsOk h T U h Rs) : (build Rs).Pairwise LexLt ∧ (∀ a b, Valid h w T U a b → a ∈ build Rs) ∧ ∀ o ∈ build Rs, IsOrd h o := by
  refine ⟨build_sorted Rs fun rows hr => (ok.up rows hr).1, fun a b v => ?_, fun o ho => ?_⟩
  · exact valid_build RT RU v ok.len fun i r row row' rows e1 e2 e3 e4 => ok.all i r row row' rows e1 e2 e3 e4
  · exact picks_sub ok.len (fun rows hr r hm => (ok.up rows hr).2.1 r hm) ((mem_build Rs o).mp ho)
section
variable {P : Program} {w : World} {K : PySem.W.Frag} {mg : Str → Option Value} {base : Heap}
def spBetween (C : Addr) : Sp := fun vs H Q _ => ∃ (p q a b : Addr) (T U : Tab) (h w h' w' : Nat), vs = [.ref p, .ref q] ∧ BoxAt H C p a h w ∧ TabAt H a T ∧ BoxAt H C q b h' w' ∧ TabAt H b U ∧ Rect T h w ∧ Rect U h' w' ∧ Ents 30 T ∧ Ents 30 U ∧ h ≤ 6 ∧ w ≤ 6 ∧ 1 ≤ h' ∧
  ∀ H' v res, Same H H' → Least h w T U res → ResAt H' v res → Q v H'
theorem scBetween : FnScope ["one", "other", "rows", "columns"] ["one", "other"] (defScope sBetween) := ⟨rfl, rfl, rfl, by decide +kernel, rfl, by decide +kernel, by decide +kernel⟩
theorem ok_between {f C fR fC : Addr} {fd fdR fdC : FuncData} (F : Fun K "orders_between" "orders_between" sBetween f fd) (T : Txt K mg) (TT : TxtT K mg C)
    (FR : Fun K "orders_of_rows" "orders_of_rows" sRows fR fdR) (GR : FnOk P w K mg base CX0 2 fR fdR ["one", "other"] (spRows C)) (bR : Binds K fdR ["one", "other"] []) (gR : mg "orders_of_rows" = some (.ref fR))
    (FC : Fun K "columns_in" "columns_in" sCols fC fdC) (GC : FnOk P w K mg base CX0 1 fC fdC ["one", "rows", "other"] (spCols C)) (bC : Binds K fdC ["one", "rows", "other"] []) (gC : mg "columns_in" = some (.ref fC)) :
    FnOk P w K mg base CX0 3 f fd ["one", "other"] (spBetween C) := by
  obtain ⟨tM, gM⟩ := T.most_side
  refine F.ok scBetween (fun vs H Q E h => ?_) (fun cdv A outer s H vs Q E hr h => ?_)
  · obtain ⟨p, q, _, _, _, _, _, _, _, _, rfl, _⟩ := h
    rfl
  · obtain ⟨p, q, a, b, tb, ub, hh, ww, hh', ww', rfl, hB1, hT1, hB2, hT2, R1, R2, E1, E2, h6, w6, h1', k⟩ := h
    have hr1 : Room 1 _ := hr.mono (by decide)
    refine ⟨_, pss_cons (ps_if (PW.pt (pw_or (pt_cmpR op_gt (pe_fld (pv 0) rfl) (pe_glob (v := .int 6) rfl gM ⟨_, rfl⟩) (nomark _)) (pw_or1 (pt_cmpR op_gt (pe_fld (pv 0) rfl) (pe_glob (v := .int 6) rfl gM ⟨_, rfl⟩) (nomark _))))) (pss_one ps_never) pss_nil)
      (pss_cons (ps_if (PW.pt (pw_or (pt_cmpR op_ne (pe_fld (pv 0) rfl) (pe_fld (pv 1) rfl) (nomark _)) (pw_or1 (pt_cmpR op_ne (pe_fld (pv 0) rfl) (pe_fld (pv 1) rfl) (nomark _))))) (pss_one (ps_ret pe_non)) pss_nil)
      (pss_cons (ps_for PassesOwn.never rfl (pi_list (pe_call GR hr (by rfl) gR FR.kp bR .nil pass0 (pa_cons (pv 0) (pa_cons (pv 1) pa_nil)))) (pg_name (i := 2) scBetween.nd rfl (.inl rfl))
        (pss_cons (ps_set (i := 3) scBetween.nd rfl (.inl rfl) (pe_call GC hr1 (by rfl) gC FC.kp bC .nil pass0 (pa_cons (pv 0) (pa_cons (pv 2) (pa_cons (pv 1) pa_nil)))))
        (pss_one (ps_if (pt_cmpR op_notN (pv 3) pe_non (nomark _)) (pss_one (ps_ret (pe_tup (pa_cons (pv 2) (pa_cons (pv 3) pa_nil))))) pss_nil))))
      (pss_one (ps_ret pe_non)))), ?_⟩
    obtain ⟨dx1, fs1, e1, b1, h1, w1⟩ := id hB1
    obtain ⟨dx2, fs2, e2, b2, h2, w2⟩ := id hB2
    -- if one.height > MOST_SIDE or one.width > MOST_SIDE
    refine ⟨_, rfl, p, C, dx1, fs1, _, rfl, e1, TT.cl, TT.nH, h1, _, _, rfl, rfl, _, rfl, ite2 (fun z => absurd (of_decide_eq_true z) (by omega)) fun _ => ?_⟩
    refine ⟨_, rfl, p, C, dx1, fs1, _, rfl, e1, TT.cl, TT.nW, w1, _, _, rfl, rfl, _, rfl, ite2 (fun z => absurd (of_decide_eq_true z) (by omega)) fun _ => ?_⟩
    -- if one.height != other.height or one.width != other.width
    have un : hh ≠ hh' ∨ ww ≠ ww' → Q .non H := fun z => k H .non none (Same.refl H) (least_size R2 h1' z) rfl
    refine ⟨_, rfl, p, C, dx1, fs1, _, rfl, e1, TT.cl, TT.nH, h1, _, rfl, q, C, dx2, fs2, _, rfl, e2, TT.cl, TT.nH, h2, rfl, _, rfl, ite2 (fun z => ?_) fun z => ?_⟩
    · refine iteT (un (.inl fun y => ?_))
      subst y
      rw [decide_eq_true rfl] at z
      cases z
    · have eh : hh = hh' := by
        by_cases y : hh = hh'
        · exact y
        · have y2 : ¬ nv hh = nv hh' := fun x => y (Int.ofNat.inj (V.int.inj x))
          rw [decide_eq_false y2] at z
          exact (z rfl).elim
      subst eh
      refine ⟨_, rfl, p, C, dx1, fs1, _, rfl, e1, TT.cl, TT.nW, w1, _, rfl, q, C, dx2, fs2, _, rfl, e2, TT.cl, TT.nW, w2, rfl, _, rfl, ite2 (fun z => ?_) fun z => ?_⟩
      · refine un (.inr fun y => ?_)
        subst y
        rw [decide_eq_true rfl] at z
        cases z
      · have ew : ww = ww' := by
          by_cases y : ww = ww'
          · exact y
          · have y2 : ¬ nv ww = nv ww' := fun x => y (Int.ofNat.inj (V.int.inj x))
            rw [decide_eq_false y2] at z
            exact (z rfl).elim
        subst ew
        -- the search
        refine ⟨_, rfl, _, rfl, p, q, a, b, tb, ub, hh, ww, rfl, hB1, hT1, hB2, hT2, R1, R2, E1, E2, h6, w6, fun H1 l Rs s1 o1 ok => ?_⟩
        obtain ⟨up, full, ord⟩ := rows_build R1 R2 ok
        obtain ⟨as, el, la, qa⟩ := id o1
        refine ⟨l, rfl, ⟨_, SqL.of el⟩, for_list (K := K) (a := l) (xs := as.map V.ref) (fun i σ H' => ∃ v2 v3, σ = [some (.ref p), some (.ref q), v2, v3] ∧ Same H1 H' ∧ ∀ (j : Nat) x, j < i → (build Rs)[j]? = some x → ∀ y, ¬ Valid hh ww tb ub x y)
          ⟨none, none, rfl, Same.refl H1, fun j x hj => absurd hj (Nat.not_lt_zero j)⟩ ?_ ?_ ?_⟩
        · rintro i σ H' _ ⟨_, _, _, s2, _⟩
          exact SqL.of (s2 _ _ el)
        · rintro i x σ H2 hx ⟨v2, v3, rfl, s2, no⟩
          obtain ⟨t, ht, rfl⟩ := at_map hx
          obtain ⟨o, ho⟩ : ∃ o, (build Rs)[i]? = some o := ⟨_, List.getElem?_eq_getElem (by rw [← la]; exact lt_of_at ht)⟩
          have oo : IsOrd hh o := ord o (List.mem_of_getElem? ho)
          have s12 : Same H H2 := Same.trans s1 s2
          refine ⟨_, rfl, _, rfl, _, rfl, p, t, q, a, b, tb, ub, hh, ww, o, rfl, hB1.same s12, hT1.keep (Same.keepT s12), s2 _ _ (qa i t o ht ho), hB2.same s12, hT2.keep (Same.keepT s12), R1, R2, E1, E2, by rw [oo.len]; omega, oo.lt, by omega, by omega, fun H3 s3 => ?_⟩
          refine ⟨fun eg => ?_, fun c g eg oc => ?_⟩
          · refine ⟨_, rfl, rfl, _, rfl, iteF ⟨_, _, rfl, Same.trans s2 s3, fun j x hj hjx => ?_⟩⟩
            by_cases hji : j = i
            · subst hji
              rw [ho] at hjx
              cases hjx
              exact greedy_none R2 oo eg
            · exact no j x (by omega) hjx
          · refine ⟨_, rfl, rfl, _, rfl, iteT ⟨_, rfl, _, rfl, by show 2 ≤ sizeLine; decide, fun u hu => ?_⟩⟩
            obtain ⟨v, hv⟩ := greedy_some (T := tb) R2 oo eg
            have s13 : Same H H3 := Same.trans s12 s3
            refine k _ _ (some (o, g)) (Same.trans s13 (same_upd hu)) (least_some up full ho no v hv) ⟨u, rfl, t, c, upd_same, ?_, ?_⟩
            · exact same_upd hu _ _ (s3 _ _ (s2 _ _ (qa i t o ht ho)))
            · exact same_upd hu _ _ oc
        · rintro σ H2 ⟨v2, v3, rfl, s2, no⟩
          refine k H2 _ none (Same.trans s1 s2) (least_none full fun j x hx => no j x ?_ hx) rfl
          rw [List.length_map, la]
          exact lt_of_at hx
end
end K56

namespace K56
open PySem PySem.Spec PyProof.Rows L2
abbrev sHand : Stmt := top 22
abbrev sDraw : Stmt := top 23
abbrev sSome : Stmt := top 24
section
variable {P : Program} {w : World} {K : PySem.W.Frag} {mg : Str → Option Value} {base : Heap}
def spHand (K : PySem.W.Frag) : Sp := fun vs H Q _ => ∃ (a : Addr) (ns : List Int), vs = [.ref a] ∧ SqL K H a (ns.map V.int) ∧ ns.length ≤ 63 ∧ ∀ H' d c, Same H H' → HandAt H' d c → Q (.ref d) H'
abbrev nHand : List Str := ["_law_script", "_law_cells", "_law_cell"]
theorem scHand : FnScope nHand ["_law_script"] (defScope sHand) := ⟨rfl, rfl, rfl, by decide +kernel, rfl, by decide +kernel, by decide +kernel⟩
theorem cut_ints (ns : List Int) (lo hi : Option Int) : ∃ ms : List Int, cutV (ns.map V.int) lo hi = ms.map V.int ∧ ms.length ≤ ns.length := by
  unfold cutV
  rw [← List.map_drop, ← List.map_take]
  refine ⟨_, rfl, ?_⟩
  rw [List.length_take, List.length_drop]
  omega
theorem ok_hand {f : Addr} {fd : FuncData} (F : Fun K "_law_hand" "_law_hand" sHand f fd) (T : Txt K mg) : FnOk P w K mg base CX0 1 f fd ["_law_script"] (spHand K) := by
  refine F.ok scHand (fun vs H Q E h => ?_) (fun cdv A outer s H vs Q E hr h => ?_)
  · obtain ⟨a, ns, rfl, _⟩ := h
    rfl
  · obtain ⟨a, ns, rfl, hS, h63, k⟩ := h
    refine ⟨_, pss_cons (ps_setLc (i := 1) (own := [("_law_cell", 2)]) (g := gName 2) (tt := tYes) rfl scHand.nd rfl rfl (sw_true rfl rfl rfl (by decide +kernel)) (pi_list (pe_slice sl_list (pv 0) po_none (po_some pe_int)))
        (blkOk_by (N := nHand) (sc := defScope sHand) (by decide +kernel)) (fun _ _ _ _ _ => pg_name (i := 2) scHand.nd rfl (.inl rfl)) (fun _ _ _ _ _ => pts_nil)
        (fun _ _ _ _ _ => pe_callB call_abs (by rfl) T.abs (by decide +kernel) (pa_cons (pe_callTy call_int1 (by rfl) T.int (by decide +kernel) (pa_cons (pv 2) pa_nil)) pa_nil)))
      (pss_one (ps_ret (pe_lst (pa_cons (pv 1) (pa_cons pe_int (pa_cons pe_int (pa_cons (pe_op op_add pe_int (pe_callB call_len_seq (by rfl) T.len PySem.boot_len (pa_cons (pv 1) pa_nil))) (pa_cons pe_int pa_nil)))))))), ?_⟩
    obtain ⟨ms, em, lm⟩ := cut_ints ns none (some 63)
    refine ⟨_, rfl, 63, rfl, a, ns.map V.int, rfl, hS, fun D0 h0 => ?_⟩
    have s1 : Same H (upd H D0 (.lst (cutV (ns.map V.int) none (some 63)))) := same_upd h0
    have e0 : (upd H D0 (.lst (cutV (ns.map V.int) none (some 63)))) D0 = some (.lst (ms.map V.int)) := by rw [upd_same, em]
    refine ⟨D0, rfl, ⟨_, SqL.of e0⟩, fun D hD => ?_⟩
    refine lc_list (K := K) (a := D0) (xs := ms.map V.int) (fun i H' => Same (upd H D0 (.lst (cutV (ns.map V.int) none (some 63)))) H' ∧ ∃ cs : List Int, H' D = some (.lst (cs.map V.int)) ∧ cs.length = i) ⟨same_upd hD, [], upd_same, rfl⟩ (fun i H' _ p => SqL.of (p.1 _ _ e0)) ?_ ?_
    · rintro i x H1 hx ⟨s2, cs, ec, lc⟩
      obtain ⟨z, hz, rfl⟩ := at_map hx
      have hi := lt_of_at hz
      refine ⟨rfl, _, rfl, .inl ⟨_, rfl, _, rfl, _, ec, ?_, Same.into hD s2, cs ++ [_], by rw [upd_same, List.map_append]; rfl, by rw [List.length_append, lc]; rfl⟩⟩
      rw [List.length_map]
      exact small1000 (by omega)
    · rintro H1 ⟨s2, cs, ec, lc⟩
      refine ⟨_, rfl, _, rfl, D, _, rfl, .inl (SqL.of ec), _, _, rfl, rfl, by show 5 ≤ sizeLine; decide, fun d hd => ?_⟩
      have nd : d ≠ D := (ne_of_none ec hd).symm
      refine k _ d D (Same.trans (Same.trans s1 s2) (same_upd hd)) ⟨cs, 0, 0, _, 0, upd_same, ?_, Int.le_refl 0, nd⟩
      rw [upd_ne nd.symm]
      exact ec
def spDraw : Sp := fun vs H Q _ => ∃ (d c : Addr) (n : Int), vs = [.ref d, .int n] ∧ 0 < n ∧ n < 1000000 ∧ HandAt H d c ∧ ∀ H' r, 0 ≤ r → r < n → HandAt H' d c → Keep d H H' → Q (.int r) H'
abbrev nDraw : List Str := ["_law_hand_here", "_law_many", "_law_cell", "_law_digit", "_law_number"]
theorem scDraw : FnScope nDraw ["_law_hand_here", "_law_many"] (defScope sDraw) := ⟨rfl, rfl, rfl, by decide +kernel, rfl, by decide +kernel, by decide +kernel⟩
theorem hand_put {H : Hp} {d c : Addr} {cells : List Int} {i x m k : Int} (hc : H c = some (.lst (cells.map V.int))) (hi : 0 ≤ i) (nd : d ≠ c) : HandAt (upd H d (.lst [.ref c, .int i, .int x, .int m, .int k])) d c :=
  ⟨cells, i, x, m, k, upd_same, by rw [upd_ne nd.symm]; exact hc, hi, nd⟩
theorem keep_put {H : Hp} {d : Addr} {o : HO} : Keep d H (upd H d o) := fun b u nb e => by
  rw [upd_ne nb]
  exact e
theorem ok_draw {f : Addr} {fd : FuncData} (F : Fun K "_law_draw" "_law_draw" sDraw f fd) (T : Txt K mg) : FnOk P w K mg base CX0 1 f fd ["_law_hand_here", "_law_many"] spDraw := by
  refine F.ok scDraw (fun vs H Q E h => ?_) (fun cdv A outer s H vs Q E hr h => ?_)
  · obtain ⟨d, c, n, rfl, _⟩ := h
    rfl
  · obtain ⟨d, c, n, rfl, n0, n1, hH, k⟩ := h
    -- the hand's places, int(e), the multiplications
    refine ⟨_, C8.pss_cut (ps_if (PW.pt (pw_and (pt_cmpR op_eq (pe_ix ix_list (pv 0) pe_int (fun _ _ => rfl)) pe_int (nomark _)) (pw_and1 (pt_cmpR op_lt (pe_ix ix_list (pv 0) pe_int (fun _ _ => rfl)) (pe_callB call_len_seq (by rfl) T.len PySem.boot_len (pa_cons (pe_ix ix_list (pv 0) pe_int (fun _ _ => rfl)) pa_nil)) (nomark _)))))
        (pss_cons (ps_set (i := 2) scDraw.nd rfl (.inl rfl) (pe_ix ix_list (pe_ix ix_list (pv 0) pe_int (fun _ _ => rfl)) (pe_ix ix_list (pv 0) pe_int (fun _ _ => rfl)) (fun _ _ => rfl)))
        (pss_cons (ps_asg (pe_op op_add (pe_ix ix_list (pv 0) pe_int (fun _ _ => rfl)) pe_int) (pg_sub (pv 0) pe_int set_list))
        (pss_cons (ps_asg (pe_op op_mod (pe_callTy call_int1 (by rfl) T.int (by decide +kernel) (pa_cons (pe_op op_add (pe_op op_add (pe_op op_mul (pe_ix ix_list (pv 0) pe_int (fun _ _ => rfl)) pe_int) (pv 2)) pe_int) pa_nil)) pe_int) (pg_sub (pv 0) pe_int set_list))
        (pss_one (ps_if (pt_cmpR op_ge (pv 2) (pe_op op_pow pe_int pe_int) (nomark _)) (pss_one (ps_asg (pv 2) (pg_sub (pv 0) pe_int set_list))) pss_nil))))) pss_nil)
      (C8.pss_cut (ps_if (pt_cmpR op_gt (pe_ix ix_list (pv 0) pe_int (fun _ _ => rfl)) pe_int (nomark _))
        (pss_cons (ps_set (i := 3) scDraw.nd rfl (.inl rfl) (pe_op op_mod (pe_callTy call_int1 (by rfl) T.int (by decide +kernel) (pa_cons (pe_ix ix_list (pv 0) pe_int (fun _ _ => rfl)) pa_nil)) (pv 1)))
        (pss_cons (ps_asg (pe_op op_fdivN (pe_ix ix_list (pv 0) pe_int (fun _ _ => rfl)) (pv 1)) (pg_sub (pv 0) pe_int set_list))
        (pss_one (ps_ret (pv 3))))) pss_nil)
      (pss_cons (ps_asg (pe_op op_add (pe_ix ix_list (pv 0) pe_int (fun _ _ => rfl)) pe_int) (pg_sub (pv 0) pe_int set_list))
      (pss_cons (ps_set (i := 4) scDraw.nd rfl (.inl rfl) (pe_op op_mod (pe_callTy call_int1 (by rfl) T.int (by decide +kernel) (pa_cons (pe_op op_mul (pe_callTy call_int1 (by rfl) T.int (by decide +kernel) (pa_cons (pe_op op_add (pe_ix ix_list (pv 0) pe_int (fun _ _ => rfl)) (pe_op op_mul pe_int (pe_ix ix_list (pv 0) pe_int (fun _ _ => rfl)))) pa_nil)) pe_int) pa_nil)) pe_int))
      (pss_cons (ps_set (i := 4) scDraw.nd rfl (.inl rfl) (pe_op op_mod (pe_callTy call_int1 (by rfl) T.int (by decide +kernel) (pa_cons (pe_op op_mul (pv 4) (pe_op op_add (pe_op op_fdiv (pv 4) pe_int) pe_int)) pa_nil)) pe_int))
      (pss_cons (ps_set (i := 4) scDraw.nd rfl (.inl rfl) (pe_op op_mod (pe_callTy call_int1 (by rfl) T.int (by decide +kernel) (pa_cons (pe_op op_mul (pv 4) (pe_op op_add (pe_op op_fdiv (pv 4) pe_int) pe_int)) pa_nil)) pe_int))
      (pss_one (ps_ret (pe_op op_mod (pe_callTy call_int1 (by rfl) T.int (by decide +kernel) (pa_cons (pe_op op_fdiv (pv 4) pe_int) pa_nil)) (pv 1))))))))), ?_⟩
    obtain ⟨cells, i, x, m, kk, ed, ec, hi, nd⟩ := id hH
    refine ⟨fun σ' H' => ∃ v2, σ' = [some (.ref d), some (.int n), v2, none, none] ∧ HandAt H' d c ∧ Keep d H H', ?_, ?_⟩
    · have same : ∃ v2, ([some (.ref d), some (.int n), none, none, none] : L2.St) = [some (.ref d), some (.int n), v2, none, none] ∧ HandAt H d c ∧ Keep d H H := ⟨none, rfl, hH, Keep.refl d H⟩
      refine ⟨_, rfl, d, _, 2, _, rfl, rfl, SqL.of ed, atI_nat (j := 2) rfl, rfl, _, rfl, ite2 (fun _ => ?_) fun _ => ?_⟩
      · refine ⟨_, rfl, d, _, 1, _, rfl, rfl, SqL.of ed, atI_nat (j := 1) rfl, _, rfl, d, _, 0, _, rfl, rfl, SqL.of ed, atI_nat (j := 0) rfl, c, _, rfl, .inl (SqL.of ec), _, _, rfl, rfl, _, rfl, ite2 (fun z => ?_) fun _ => same⟩
        have il : i < ((cells.map V.int).length : Int) := of_decide_eq_true z
        rw [List.length_map] at il
        obtain ⟨j, ej⟩ : ∃ j : Nat, i = (j : Int) := ⟨i.toNat, by omega⟩
        subst ej
        have hj : j < cells.length := by omega
        refine ⟨_, rfl, d, _, 0, _, rfl, rfl, SqL.of ed, atI_nat (j := 0) rfl, _, rfl, d, _, 1, _, rfl, rfl, SqL.of ed, atI_nat (j := 1) rfl, c, _, _, _, rfl, rfl, SqL.of ec, atI_nat (map_at (List.getElem?_eq_getElem hj)), ?_⟩
        refine ⟨_, rfl, d, _, 1, _, rfl, rfl, SqL.of ed, atI_nat (j := 1) rfl, _, _, rfl, rfl, _, rfl, d, _, 1, 1, rfl, rfl, ed, rfl, ?_⟩
        refine ⟨_, rfl, d, _, 3, _, rfl, rfl, SqL.of upd_same, atI_nat (j := 3) rfl, _, _, rfl, rfl, .inr ⟨by decide, by decide⟩, _, rfl, _, _, rfl, rfl, _, _, rfl, rfl, .inl ⟨_, rfl, _, _, rfl, rfl, (by show (0 : Int) < _; decide), _, rfl, d, _, 3, 3, rfl, rfl, upd_same, rfl, ?_⟩⟩
        rw [upd_upd]
        refine ⟨_, rfl, _, _, rfl, rfl, ⟨by decide, by decide, by decide⟩, _, _, rfl, rfl, _, rfl, ite2 (fun _ => ?_) fun _ => ?_⟩
        · refine ⟨_, rfl, _, rfl, d, _, 2, 2, rfl, rfl, upd_same, rfl, ?_⟩
          rw [upd_upd]
          exact ⟨_, rfl, hand_put ec (by omega) nd, keep_put⟩
        · exact ⟨_, rfl, hand_put ec (by omega) nd, keep_put⟩
      · exact same
    · rintro σ H1 ⟨v2, rfl, ⟨cells, i, x, m, kk, ed, ec, hi, nd⟩, s1⟩
      refine ⟨fun σ' H' => σ' = [some (.ref d), some (.int n), v2, none, none] ∧ H' = H1, ?_, ?_⟩
      · refine ⟨_, rfl, d, _, 2, _, rfl, rfl, SqL.of ed, atI_nat (j := 2) rfl, _, _, rfl, rfl, _, rfl, ite2 (fun _ => ?_) fun _ => ⟨rfl, rfl⟩⟩
        refine ⟨_, rfl, d, _, 2, _, rfl, rfl, SqL.of ed, atI_nat (j := 2) rfl, .inl ⟨_, rfl, _, rfl, _, _, rfl, rfl, n0, ?_⟩⟩
        refine ⟨_, rfl, d, _, 2, _, rfl, rfl, SqL.of ed, atI_nat (j := 2) rfl, _, rfl, _, _, rfl, rfl, ⟨by omega, by omega⟩, _, rfl, d, _, 2, 2, rfl, rfl, ed, rfl, _, rfl, ?_⟩
        exact k _ _ (Int.emod_nonneg _ (by omega)) (Int.emod_lt_of_pos _ n0) (hand_put ec hi nd) (Keep.trans s1 keep_put)
      · rintro σ H2 ⟨rfl, rfl⟩
        refine ⟨_, rfl, d, _, 4, _, rfl, rfl, SqL.of ed, atI_nat (j := 4) rfl, _, _, rfl, rfl, _, rfl, d, _, 4, 4, rfl, rfl, ed, rfl, ?_⟩
        refine ⟨_, rfl, d, _, 3, _, rfl, rfl, SqL.of upd_same, atI_nat (j := 3) rfl, _, rfl, d, _, 4, _, rfl, rfl, SqL.of upd_same, atI_nat (j := 4) rfl, _, _, rfl, rfl, .inl ⟨by decide, by decide⟩, _, _, rfl, rfl, .inl ⟨_, rfl, _, _, rfl, rfl, .inr ⟨by decide, by decide⟩, .inl ⟨_, rfl, _, _, rfl, rfl, (by show (0 : Int) < _; decide), ?_⟩⟩⟩
        generalize (m + 7919 * (kk + 1)) * 48271 = z1
        have q1 : 0 ≤ z1 % 2147483647 ∧ z1 % 2147483647 < 2147483647 := ⟨Int.emod_nonneg _ (by decide), Int.emod_lt_of_pos _ (by decide)⟩
        generalize z1 % 2147483647 = y1 at q1
        refine ⟨_, rfl, _, rfl, _, _, rfl, rfl, ⟨by decide, by decide⟩, _, _, rfl, rfl, _, _, rfl, rfl, .inl ⟨by omega, by omega⟩, .inl ⟨_, rfl, _, _, rfl, rfl, (by show (0 : Int) < _; decide), ?_⟩⟩
        generalize y1 * (y1 / 1009 + 69621) = z2
        have q2 : 0 ≤ z2 % 2147483647 ∧ z2 % 2147483647 < 2147483647 := ⟨Int.emod_nonneg _ (by decide), Int.emod_lt_of_pos _ (by decide)⟩
        generalize z2 % 2147483647 = y2 at q2
        refine ⟨_, rfl, _, rfl, _, _, rfl, rfl, ⟨by decide, by decide⟩, _, _, rfl, rfl, _, _, rfl, rfl, .inl ⟨by omega, by omega⟩, .inl ⟨_, rfl, _, _, rfl, rfl, (by show (0 : Int) < _; decide), ?_⟩⟩
        refine ⟨_, rfl, _, _, rfl, rfl, ⟨by decide, by decide⟩, .inl ⟨_, rfl, _, rfl, _, _, rfl, rfl, n0, ?_⟩⟩
        exact k _ _ (Int.emod_nonneg _ (by omega)) (Int.emod_lt_of_pos _ n0) (hand_put ec hi nd) (Keep.trans s1 keep_put)
end
end K56

namespace K56
open PySem PySem.Spec PyProof.Rows L2
abbrev sText : Stmt := top 25
abbrev sBoxes : Stmt := top 26
abbrev sOrder : Stmt := top 27
def sign (c : Nat) : PySem.Str := ⟨#[c]⟩
theorem join_lets {cs : List Nat} (h : ∀ c ∈ cs, 97 ≤ c ∧ c ≤ 122) : (Txt.join "" (cs.map sign)).length ≤ cs.length ∧ lets (Txt.join "" (cs.map sign)) := by
  have e : Txt.join "" (cs.map sign) = PySem.Str.join "" (cs.map sign) := StrLaws.glued_eq_join _ _
  have sm : ((cs.map sign).map (·.length)).sum = cs.length := by
    induction cs with
    | nil => rfl
    | cons c r ih =>
      have := ih fun x hx => h x (List.mem_cons_of_mem _ hx)
      rw [List.map_cons, List.map_cons, List.sum_cons, this (StrLaws.glued_eq_join _ _), List.length_cons]
      show 1 + r.length = _
      omega
  rw [e]
  refine ⟨?_, fun c hc => ?_⟩
  · have q := StrLaws.join_length_le ("" : PySem.Str) (cs.map sign)
    rw [sm] at q
    have z : (("" : PySem.Str)).length = 0 := by decide +kernel
    rw [z, Nat.mul_zero, Nat.add_zero] at q
    exact q
  · rcases (mem_join ("" : PySem.Str) c (cs.map sign)).mp hc with ⟨t, ht, hct⟩ | ⟨_, hct⟩
    · obtain ⟨x, hx, rfl⟩ := List.mem_map.mp ht
      have e2 : c = x := by simpa [sign] using hct
      rw [e2]
      exact h x hx
    · have z : (("" : PySem.Str)).cps.toList = [] := by decide +kernel
      rw [z] at hct
      cases hct
theorem atI_nn {α : Type} {xs : List α} {r : Int} {y : α} (h0 : 0 ≤ r) (h : xs[r.toNat]? = some y) : atI xs r = some y := by
  have e : r = ((r.toNat : Nat) : Int) := by omega
  rw [e]
  exact atI_nat h
theorem get_nn {α : Type} {xs : List α} {r : Int} (h0 : 0 ≤ r) (h1 : r < (xs.length : Int)) : ∃ y, xs[r.toNat]? = some y := ⟨xs[r.toNat]'(by omega), List.getElem?_eq_getElem _⟩
section
variable {P : Program} {w : World} {K : PySem.W.Frag} {mg : Str → Option Value} {base : Heap}
structure Drw (P : Program) (w : World) (K : PySem.W.Frag) (mg : Str → Option Value) (base : Heap) (fD : Addr) (fdD : FuncData) : Prop where
  fn : Fun K "_law_draw" "_law_draw" sDraw fD fdD
  ok : FnOk P w K mg base CX0 1 fD fdD ["_law_hand_here", "_law_many"] spDraw
  bn : Binds K fdD ["_law_hand_here", "_law_many"] []
  gl : mg "_law_draw" = some (.ref fD)
def spSome : Sp := fun vs H Q _ => ∃ (d c l : Addr) (xs : List V), vs = [.ref d, .ref l] ∧ HandAt H d c ∧ H l = some (.lst xs) ∧ l ≠ d ∧ 0 < xs.length ∧ xs.length < 1000 ∧ ∀ H' x, x ∈ xs → HandAt H' d c → Keep d H H' → Q x H'
theorem scSome : FnScope ["_law_hand_here", "_law_things"] ["_law_hand_here", "_law_things"] (defScope sSome) := ⟨rfl, rfl, rfl, by decide +kernel, rfl, by decide +kernel, by decide +kernel⟩
theorem ok_some {f fD : Addr} {fd fdD : FuncData} (F : Fun K "_law_some" "_law_some" sSome f fd) (T : Txt K mg) (D : Drw P w K mg base fD fdD) : FnOk P w K mg base CX0 2 f fd ["_law_hand_here", "_law_things"] spSome := by
  obtain ⟨FD, GD, bD, gD⟩ := D
  refine F.ok scSome (fun vs H Q E h => ?_) (fun cdv A outer s H vs Q E hr h => ?_)
  · obtain ⟨d, c, l, xs, rfl, _⟩ := h
    rfl
  · obtain ⟨d, c, l, xs, rfl, hH, el, nl, l0, l1, k⟩ := h
    refine ⟨_, pss_one (ps_ret (pe_ix ix_list (pv 1) (pe_call GD hr (by rfl) gD FD.kp bD .nil pass0 (pa_cons (pv 0) (pa_cons (pe_callB call_len_seq (by rfl) T.len PySem.boot_len (pa_cons (pv 1) pa_nil)) pa_nil))) (fun _ _ => rfl))), ?_⟩
    refine ⟨_, rfl, _, rfl, _, rfl, l, xs, rfl, .inl (SqL.of el), d, c, _, rfl, by omega, by omega, hH, fun H1 r r0 r1 h1 k1 => ?_⟩
    obtain ⟨y, hy⟩ := get_nn (xs := xs) r0 r1
    exact ⟨l, xs, r, y, rfl, rfl, SqL.of (k1 _ _ nl el), atI_nn r0 hy, k H1 y (List.mem_of_getElem? hy) h1 k1⟩
def spText : Sp := fun vs H Q _ => ∃ (d c : Addr) (L : PySem.Str) (m : Nat), vs = [.ref d, .str L, nv m] ∧ HandAt H d c ∧ lets L ∧ 0 < L.length ∧ L.length ≤ 1000 ∧ m ≤ 30 ∧ ∀ H' s, s.length ≤ m → lets s → HandAt H' d c → Keep d H H' → Q (.str s) H'
abbrev nText : List Str := ["_law_hand_here", "_law_letters", "_law_most", "_law_k"]
theorem scText : FnScope nText ["_law_hand_here", "_law_letters", "_law_most"] (defScope sText) := ⟨rfl, rfl, rfl, by decide +kernel, rfl, by decide +kernel, by decide +kernel⟩
theorem ok_text {f fD : Addr} {fd fdD : FuncData} (F : Fun K "_law_text" "_law_text" sText f fd) (T : Txt K mg) (D : Drw P w K mg base fD fdD) : FnOk P w K mg base CX0 2 f fd ["_law_hand_here", "_law_letters", "_law_most"] spText := by
  obtain ⟨FD, GD, bD, gD⟩ := D
  refine F.ok scText (fun vs H Q E h => ?_) (fun cdv A outer s H vs Q E hr h => ?_)
  · obtain ⟨d, c, L, m, rfl, _⟩ := h
    rfl
  · obtain ⟨d, c, L, m, rfl, hH, hL, l0, l1, m30, k⟩ := h
    refine ⟨_, pss_one (ps_ret (pe_join pe_str (pe_lc (own := [("_law_k", 3)]) (g := gName 3) (tt := tYes) rfl scText.nd (pi_range1 rfl T.range (pa_cons (pe_call GD hr (by rfl) gD FD.kp bD .nil pass0 (pa_cons (pv 0) (pa_cons (pe_op op_add (pv 2) pe_int) pa_nil))) pa_nil))
      (blkOk_by (N := nText) (sc := defScope sText) (by decide +kernel)) (fun _ _ _ _ _ => pg_name (i := 3) scText.nd rfl (.inl rfl)) (fun _ _ _ _ _ => pts_nil)
      (fun _ _ _ _ _ => pe_ix ix_str (pv 1) (pe_call GD hr (by rfl) gD FD.kp bD .nil pass0 (pa_cons (pv 0) (pa_cons (pe_callB call_len_str (by rfl) T.len PySem.boot_len (pa_cons (pv 1) pa_nil)) pa_nil))) (fun _ _ => rfl))))), ?_⟩
    refine ⟨⟨_, rfl⟩, _, rfl, _, rfl, _, _, rfl, rfl, d, c, _, rfl, by omega, by omega, hH, fun H1 r r0 r1 h1 k1 => ?_⟩
    refine ⟨r, rfl, by omega, by omega, fun D hD => ?_⟩
    obtain ⟨n1, n2⟩ := h1.new hD
    refine lc_range (lo := 0) (n := r.toNat) (fun i H' => HandAt H' d c ∧ Keep d H1 H' ∧ ∃ cs : List Nat, H' D = some (.lst ((cs.map sign).map V.str)) ∧ cs.length = i ∧ ∀ x ∈ cs, 97 ≤ x ∧ x ≤ 122)
      ⟨h1.into n1 n2, Keep.into hD (Keep.refl d H1), [], upd_same, rfl, fun _ h => by cases h⟩ ?_ ?_
    · rintro i H2 hi ⟨h2, k2, cs, ec, lc, hc⟩
      refine ⟨rfl, _, rfl, _, rfl, _, rfl, L, rfl, Nat.le_trans l1 (by decide), d, c, _, rfl, by omega, by omega, h2, fun H3 q q0 q1 h3 k3 => ?_⟩
      obtain ⟨x, hx⟩ := get_nn (xs := L.cps.toList) q0 (by rw [Array.length_toList]; exact q1)
      refine ⟨L, q, x, rfl, rfl, Nat.le_trans l1 (by decide), atI_nn q0 hx, _, k3 _ _ n1 ec, ?_, h3.into n1 n2, Keep.into hD (Keep.trans k2 k3), cs ++ [x], ?_, ?_, ?_⟩
      · rw [List.length_map, List.length_map]
        exact small1000 (by omega)
      · rw [upd_same, List.map_append, List.map_append]
        rfl
      · rw [List.length_append, lc]
        rfl
      · intro y hy
        rcases List.mem_append.mp hy with hy | hy
        · exact hc y hy
        · rw [List.mem_singleton.mp hy]
          exact hL x (List.mem_of_getElem? hx)
    · rintro H2 ⟨h2, k2, cs, ec, lc, hc⟩
      obtain ⟨j1, j2⟩ := join_lets hc
      refine ⟨"", D, cs.map sign, rfl, rfl, .inl (SqL.of ec), ?_, k H2 _ (by omega) j2 h2 (Keep.trans k1 k2)⟩
      have z : (("" : PySem.Str)).length = 0 := by decide +kernel
      rw [z, Nat.mul_zero, Nat.add_zero]
      have sm : ∀ l : List Nat, ((l.map sign).map (·.length)).sum = l.length := fun l => by
        induction l with
        | nil => rfl
        | cons x r ih =>
          rw [List.map_cons, List.map_cons, List.sum_cons, ih, List.length_cons]
          show 1 + r.length = _
          omega
      rw [sm]
      omega
end
end K56

namespace K56
open PySem PySem.Spec PyProof.Rows L2
/-- the rows so far, at the list R -/
def RowsAt (H : Hp) (R : Addr) (T : Tab) : Prop := ∃ rs : List Addr, H R = some (.lst (rs.map V.ref)) ∧ rs.length = T.length ∧ ∀ (i : Nat) r row, rs[i]? = some r → T[i]? = some row → RowAt H r row
theorem RowsAt.nil {H : Hp} {R : Addr} : RowsAt (upd H R (.lst [])) R [] := ⟨[], upd_same, rfl, fun i r row e1 _ => by simp at e1⟩
theorem RowsAt.keep {H H' : Hp} {R : Addr} {T : Tab} (e : ∀ xs, H R = some (.lst xs) → H' R = some (.lst xs)) (s : KeepT H H') (h : RowsAt H R T) : RowsAt H' R T :=
  let ⟨rs, e1, l, q⟩ := h
  ⟨rs, e _ e1, l, fun i r row q1 q2 => s _ _ (q i r row q1 q2)⟩
theorem RowsAt.push {H : Hp} {R r : Addr} {T : Tab} {row : List Form} (h : RowsAt H R T) (hr : RowAt H r row) : ∃ acc, H R = some (.lst acc) ∧ acc.length = T.length ∧ RowsAt (upd H R (.lst (acc ++ [.ref r]))) R (T ++ [row]) := by
  obtain ⟨rs, e, l, q⟩ := h
  have keep : ∀ b xs, H b = some (.tup xs) → (upd H R (.lst (rs.map V.ref ++ [.ref r]))) b = some (.tup xs) := fun b xs eb => by
    rw [upd_ne (ne_of eb e (by intro z; cases z))]
    exact eb
  refine ⟨_, e, by rw [List.length_map, l], rs ++ [r], by rw [upd_same, List.map_append]; rfl, by rw [List.length_append, List.length_append, l]; rfl, fun i r' row' e1 e2 => keep _ _ ?_⟩
  by_cases hi : i < rs.length
  · rw [List.getElem?_append_left hi] at e1
    rw [List.getElem?_append_left (by rw [← l]; exact hi)] at e2
    exact q i r' row' e1 e2
  · have e3 : i = rs.length := by
      have := lt_of_at e1
      rw [List.length_append, List.length_singleton] at this
      omega
    subst e3
    rw [List.getElem?_append_right (Nat.le_refl _), Nat.sub_self] at e1
    rw [List.getElem?_append_right (by rw [l]; exact Nat.le_refl _), l, Nat.sub_self] at e2
    cases e1
    cases e2
    exact hr
/-- tuple(R) -/
theorem RowsAt.tab {H : Hp} {R t : Addr} {T : Tab} (h : RowsAt H R T) {xs : List V} (e : H R = some (.lst xs)) (n : H t = none) : TabAt (upd H t (.tup xs)) t T := by
  obtain ⟨rs, e1, l, q⟩ := h
  rw [e] at e1
  cases e1
  exact ⟨rs, upd_same, l, fun i r row q1 q2 => same_upd n _ _ (q i r row q1 q2)⟩
section
variable {P : Program} {w : World} {K : PySem.W.Frag} {mg : Str → Option Value} {base : Heap}
def spBoxes : Sp := fun vs H Q _ => ∃ (d c : Addr) (h w : Nat), vs = [.ref d, nv h, nv w] ∧ HandAt H d c ∧ h ≤ 12 ∧ w ≤ 12 ∧ ∀ H' a T, TabAt H' a T → Rect T h w → Ents 4 T → HandAt H' d c → Keep d H H' → Q (.ref a) H'
abbrev nBoxes : List Str := ["_law_hand_here", "_law_high", "_law_wide", "_law_forms", "_law_many", "_law_first", "_law_rows", "_law_turn", "_law_column"]
theorem scBoxes : FnScope nBoxes ["_law_hand_here", "_law_high", "_law_wide"] (defScope sBoxes) := ⟨rfl, rfl, rfl, by decide +kernel, rfl, by decide +kernel, by decide +kernel⟩
theorem lets_of {s : PySem.Str} (h : (s.cps.toList.all fun c => decide (97 ≤ c) && decide (c ≤ 122)) = true) : lets s := fun c hc => by
  have := List.all_eq_true.mp h c hc
  simpa using this
def menu (s : PySem.Str) : List Form := [none, some ("" : PySem.Str), some ("a" : PySem.Str), some ("b" : PySem.Str), some ("ab" : PySem.Str), some s]
theorem menu_fine {s : PySem.Str} (h1 : s.length ≤ 4) (h2 : lets s) : ∀ x ∈ menu s, Fine 4 x := by
  have one : ∀ t : PySem.Str, t.length ≤ 4 → lets t → Fine 4 (some t) := fun t a b u e => by
    cases e
    exact ⟨a, b⟩
  intro x hx
  unfold menu at hx
  rcases List.mem_cons.mp hx with rfl | hx
  · exact fun u e => nomatch e
  rcases List.mem_cons.mp hx with rfl | hx
  · exact one _ (by decide +kernel) (lets_of (by decide +kernel))
  rcases List.mem_cons.mp hx with rfl | hx
  · exact one _ (by decide +kernel) (lets_of (by decide +kernel))
  rcases List.mem_cons.mp hx with rfl | hx
  · exact one _ (by decide +kernel) (lets_of (by decide +kernel))
  rcases List.mem_cons.mp hx with rfl | hx
  · exact one _ (by decide +kernel) (lets_of (by decide +kernel))
  · rw [List.mem_singleton.mp hx]
    exact one _ h1 h2
theorem ok_boxes {f fD fT : Addr} {fd fdD fdT : FuncData} (F : Fun K "_law_boxes" "_law_boxes" sBoxes f fd) (T : Txt K mg) (D : Drw P w K mg base fD fdD)
    (FT : Fun K "_law_text" "_law_text" sText fT fdT) (GT : FnOk P w K mg base CX0 2 fT fdT ["_law_hand_here", "_law_letters", "_law_most"] spText) (bT : Binds K fdT ["_law_hand_here", "_law_letters", "_law_most"] []) (gT : mg "_law_text" = some (.ref fT)) :
    FnOk P w K mg base CX0 3 f fd ["_law_hand_here", "_law_high", "_law_wide"] spBoxes := by
  obtain ⟨FD, GD, bD, gD⟩ := D
  refine F.ok scBoxes (fun vs H Q E h => ?_) (fun cdv A outer s H vs Q E hr h => ?_)
  · obtain ⟨d, c, h, w, rfl, _⟩ := h
    rfl
  · obtain ⟨d, c, hh, ww, rfl, hH, h12, w12, k⟩ := h
    have hr1 : Room 1 _ := hr.mono (by decide)
    refine ⟨_, pss_cons (ps_set (i := 3) scBoxes.nd rfl (.inr rfl) (pe_lst (pa_cons pe_non (pa_cons pe_str (pa_cons pe_str (pa_cons pe_str (pa_cons pe_str (pa_cons (pe_call GT hr (by rfl) gT FT.kp bT .nil pass0 (pa_cons (pv 0) (pa_cons pe_str (pa_cons pe_int pa_nil)))) pa_nil))))))))
      (pss_cons (ps_set (i := 4) scBoxes.nd rfl (.inr rfl) (pe_op op_add pe_int (pe_call GD hr1 (by rfl) gD FD.kp bD .nil pass0 (pa_cons (pv 0) (pa_cons pe_int pa_nil)))))
      (pss_cons (ps_set (i := 5) scBoxes.nd rfl (.inr rfl) (pe_call GD hr1 (by rfl) gD FD.kp bD .nil pass0 (pa_cons (pv 0) (pa_cons pe_int pa_nil))))
      (pss_cons (ps_set (i := 6) scBoxes.nd rfl (.inl rfl) (pe_lst pa_nil))
      (pss_cons (ps_for PassesOwn.never rfl (pi_range1 rfl T.range (pa_cons (pv 1) pa_nil)) (pg_name (i := 7) scBoxes.nd rfl (.inl rfl))
        (pss_one (ps_expr (pe_bm PySem.F.plainAttrs_list PySem.F.slot_list_append PySem.F.type_list_append mt_append (pv 6) (pa_cons (pe_callTy call_tuple_of (by rfl) T.tuple (by decide +kernel) (pa_cons
          (pe_lc (own := [("_law_column", 8)]) (g := gName 8) (tt := tYes) rfl scBoxes.nd (pi_range1 rfl T.range (pa_cons (pv 2) pa_nil)) (blkOk_by (N := nBoxes) (sc := defScope sBoxes) (by decide +kernel))
            (fun _ _ _ _ _ => pg_name (i := 8) scBoxes.nd rfl (.inl rfl)) (fun _ _ _ _ _ => pts_nil)
            (fun _ _ _ _ _ => pe_ix (ix_listK K) (pv 3) (pe_op op_mod (pe_callTy call_int1 (by rfl) T.int (by decide +kernel) (pa_cons (pe_op op_add (pv 5) (pe_call GD hr1 (by rfl) gD FD.kp bD .nil pass0 (pa_cons (pv 0) (pa_cons (pv 4) pa_nil)))) pa_nil)) pe_int) (fun _ _ => rfl))) pa_nil)) pa_nil)))))
      (pss_one (ps_ret (pe_callTy call_tuple_of (by rfl) T.tuple (by decide +kernel) (pa_cons (pv 6) pa_nil)))))))), ?_⟩
    -- forms
    refine ⟨_, rfl, d, c, "abcxyz", 4, rfl, hH, lets_of (by decide +kernel), by decide +kernel, by decide +kernel, by decide, fun H1 z z4 zl h1 k1 => ?_⟩
    refine ⟨by show 6 ≤ sizeLine; decide, fun Fm hFm => ?_⟩
    obtain ⟨nF1, nF2⟩ := h1.new hFm
    have eF : (upd H1 Fm (.lst ((menu z).map fv))) Fm = some (.lst ((menu z).map fv)) := upd_same
    have fine := menu_fine z4 zl
    have ln : (menu z).length = 6 := rfl
    have h2 := h1.into (o := .lst ((menu z).map fv)) nF1 nF2
    have k2 : Keep d H (upd H1 Fm (.lst ((menu z).map fv))) := Keep.same k1 (same_upd hFm)
    show tSeq _ _ _ _ (upd H1 Fm (.lst ((menu z).map fv)))
    generalize upd H1 Fm (.lst ((menu z).map fv)) = H2 at eF h2 k2 ⊢
    generalize menu z = mn at eF fine ln
    -- many, first
    refine ⟨_, rfl, d, c, 6, rfl, by decide, by decide, h2, fun H3 m0 m1 m2 h3 k3 => ⟨_, _, rfl, rfl, ?_⟩⟩
    refine ⟨_, rfl, d, c, 6, rfl, by decide, by decide, h3, fun H4 f0 f1 f2 h4 k4 => ?_⟩
    have eF4 : H4 Fm = some (.lst (mn.map fv)) := k4 _ _ nF1 (k3 _ _ nF1 eF)
    have k04 : Keep d H H4 := Keep.trans k2 (Keep.trans k3 k4)
    -- rows
    refine ⟨Nat.zero_le _, fun R hR => ?_⟩
    obtain ⟨nR1, nR2⟩ := h4.new hR
    refine ⟨_, rfl, (hh : Int), rfl, by omega, by omega, for_range (lo := 0) (n := hh) (fun i σ H' => ∃ v7 tb, σ = [some (.ref d), some (nv hh), some (nv ww), some (.ref Fm), some (.int (1 + m0)), some (.int f0), some (.ref R), v7, none] ∧ HandAt H' d c ∧ Keep d H4 H' ∧ RowsAt H' R tb ∧ tb.length = i ∧ (∀ row ∈ tb, row.length = ww) ∧ Ents 4 tb)
      ⟨none, [], rfl, h4.into nR1 nR2, Keep.into hR (Keep.refl d H4), RowsAt.nil, rfl, (fun _ h => by cases h), fun _ h => by cases h⟩ ?_ ?_⟩
    · rintro i σ H5 hi ⟨v7, tb, rfl, h5, k5, r5, lt, wt, et⟩
      obtain ⟨xs5, ex5⟩ : ∃ xs, H5 R = some (.lst xs) := let ⟨_, e, _⟩ := r5; ⟨_, e⟩
      refine ⟨_, rfl, .inl ⟨rfl, _, SqL.of ex5⟩, _, rfl, (ww : Int), rfl, by omega, by omega, fun D hD => ?_⟩
      obtain ⟨nD1, nD2⟩ := h5.new hD
      refine lc_range (lo := 0) (n := ww) (fun j H' => HandAt H' d c ∧ Keep d H5 H' ∧ ∃ row : List Form, H' D = some (.lst (row.map fv)) ∧ row.length = j ∧ ∀ x ∈ row, Fine 4 x) ⟨h5.into nD1 nD2, Keep.into hD (Keep.refl d H5), [], upd_same, rfl, fun _ h => by cases h⟩ ?_ ?_
      · rintro j H6 hj ⟨h6, k6, row, er, lr, fr⟩
        refine ⟨rfl, _, rfl, _, rfl, _, rfl, _, rfl, d, c, _, rfl, by omega, by omega, h6, fun H7 q q0 q1 h7 k7 => ⟨_, _, rfl, rfl, .inl ⟨_, rfl, _, _, rfl, rfl, (by show (0 : Int) < _; decide), ?_⟩⟩⟩
        have b0 : 0 ≤ (f0 + q) % 6 := Int.emod_nonneg _ (by decide)
        have b1 : (f0 + q) % 6 < 6 := Int.emod_lt_of_pos _ (by decide)
        obtain ⟨x, hx⟩ := get_nn (xs := mn) b0 (by rw [ln]; exact b1)
        refine ⟨Fm, mn.map fv, (f0 + q) % 6, fv x, rfl, rfl, SqL.of (k7 _ _ nF1 (k6 _ _ nF1 (k5 _ _ nF1 eF4))), atI_nn b0 (map_at hx), ?_⟩
        refine ⟨_, k7 _ _ nD1 er, ?_, h7.into nD1 nD2, Keep.into hD (Keep.trans k6 k7), row ++ [x], ?_, ?_, ?_⟩
        · rw [List.length_map]
          exact small1000 (by omega)
        · rw [upd_same, List.map_append]
          rfl
        · rw [List.length_append, lr]
          rfl
        · intro y hy
          rcases List.mem_append.mp hy with hy | hy
          · exact fr y hy
          · rw [List.mem_singleton.mp hy]
            exact fine x (List.mem_of_getElem? hx)
      · rintro H6 ⟨h6, k6, row, er, lr, fr⟩
        refine ⟨D, _, rfl, .inl ⟨SqL.of er, fun t ht => ?_⟩⟩
        have s7 : Same H6 (upd H6 t (.tup (row.map fv))) := same_upd ht
        have k7 : Keep d H5 (upd H6 t (.tup (row.map fv))) := Keep.same k6 s7
        have r7 : RowsAt (upd H6 t (.tup (row.map fv))) R tb := r5.keep (fun xs e => k7 _ _ nR1 e) (k7.keepT h5)
        obtain ⟨acc, ea, la, rn⟩ := r7.push (r := t) (row := row) upd_same
        refine ⟨R, acc, _, rfl, rfl, ea, small1000 (by omega), ?_⟩
        refine ⟨_, tb ++ [row], rfl, (h6.same s7).into nR1 nR2, Keep.into hR (Keep.trans k5 k7), rn, ?_, ?_, ?_⟩
        · rw [List.length_append, lt]
          rfl
        · intro y hy
          rcases List.mem_append.mp hy with hy | hy
          · exact wt y hy
          · rw [List.mem_singleton.mp hy]
            exact lr
        · intro y hy
          rcases List.mem_append.mp hy with hy | hy
          · exact et y hy
          · rw [List.mem_singleton.mp hy]
            exact fr
    · rintro σ H5 ⟨v7, tb, rfl, h5, k5, r5, lt, wt, et⟩
      obtain ⟨xs, ex⟩ : ∃ xs, H5 R = some (.lst xs) := let ⟨_, e, _⟩ := r5; ⟨_, e⟩
      refine ⟨_, rfl, R, _, rfl, .inl ⟨SqL.of ex, fun t ht => ?_⟩⟩
      exact k _ t tb (r5.tab ex ht) ⟨lt, wt⟩ et (h5.same (same_upd ht)) (Keep.same (Keep.trans k04 k5) (same_upd ht))
end
end K56

namespace K56
open PySem PySem.Spec PyProof.Rows L2
abbrev sOrders : Stmt := top 28
abbrev sTaken : Stmt := top 29
theorem pe_bmK {X : Cx} {o e : Expr} {es : List Expr} {to : TE} {t : TA} {name : Str} {apos cpos : Pos} {T id : String} {r : V → List V → Hp → VK → Prop} (K : PySem.W.Frag) (pa : PlainAttrs T) (slot : Slot T name id) (hty : typeOf (.builtin id) = pure (.type "method_descriptor")) (hm : MtR X id r) (ho : PE X o to) (ha : PA X (e :: es) t) (hbase : attributeBase o name X.env (eval o X.env) = eval o X.env := by rfl)
    (hfew : ((backTo cpos (starEach (e :: es) X.env)).all (fun x => !x.1) && (backToKw cpos (keywordEach [] X.env)).all (fun x => x.1.isSome) && decide ((e :: es).length + ([] : List Keyword).length + (if ([] : List Keyword).isEmpty then 0 else 1) < 30)) = true := by rfl)
    (hline : (apos.endLine == cpos.line) = true := by rfl) (hs : starEach (e :: es) X.env = (false, eval e X.env) :: starEach es X.env := by rfl) (hplain : (backTo cpos (starEach es X.env)).any (·.1) = false := by rfl) (hK : X.K = K := by rfl) :
    PE X (.Call (.Attribute o name apos) (e :: es) [] cpos) (tBM K T r to t) := hK ▸ pe_bm pa slot hty hm ho ha hbase hfew hline hs hplain
theorem erase_map {α β : Type} (g : α → β) : ∀ (xs : List α) (i : Nat), (xs.map g).eraseIdx i = (xs.eraseIdx i).map g
  | [], _ => rfl
  | _ :: _, 0 => rfl
  | x :: r, i + 1 => by
    rw [List.map_cons, List.eraseIdx_cons_succ, List.eraseIdx_cons_succ, List.map_cons, erase_map g r i]
theorem erase_perm {α : Type} : ∀ {xs : List α} {i : Nat} {y : α}, xs[i]? = some y → (y :: xs.eraseIdx i).Perm xs
  | [], _, _, h => by simp at h
  | x :: r, 0, y, h => by
    have e : x = y := by simpa using h
    subst e
    exact List.Perm.refl _
  | x :: r, i + 1, y, h => by
    have ih := erase_perm (xs := r) (i := i) (y := y) (by simpa using h)
    rw [List.eraseIdx_cons_succ]
    exact (List.Perm.swap x y _).trans (ih.cons x)
theorem rgV_nv (n : Nat) : rgV 0 (n : Int) = (List.range n).map nv := by
  unfold rgV
  have e : ((n : Int) - 0).toNat = n := by omega
  rw [e]
  exact List.map_congr_left fun i _ => z0 i
theorem OrdsAt.append {H : Hp} {G D : Addr} {L M : List (List Nat)} (h : OrdsAt H G L) (g : OrdsAt H D M) : ∃ xs zs, H G = some (.lst xs) ∧ H D = some (.lst zs) ∧ xs.length = L.length ∧ zs.length = M.length ∧ OrdsAt (upd H G (.lst (xs ++ zs))) G (L ++ M) := by
  obtain ⟨as, ea, la, qa⟩ := h
  obtain ⟨bs, eb, lb, qb⟩ := g
  have keep : ∀ b xs, H b = some (.tup xs) → (upd H G (.lst (as.map V.ref ++ bs.map V.ref))) b = some (.tup xs) := fun b xs e => by
    rw [upd_ne (ne_of e ea (by intro z; cases z))]
    exact e
  refine ⟨_, _, ea, eb, by rw [List.length_map, la], by rw [List.length_map, lb], as ++ bs, by rw [upd_same, List.map_append], by rw [List.length_append, List.length_append, la, lb], fun i r o e1 e2 => keep _ _ ?_⟩
  by_cases hi : i < as.length
  · rw [List.getElem?_append_left hi] at e1
    rw [List.getElem?_append_left (by rw [← la]; exact hi)] at e2
    exact qa i r o e1 e2
  · rw [List.getElem?_append_right (by omega)] at e1
    rw [List.getElem?_append_right (by omega), ← la] at e2
    exact qb _ r o e1 e2
section
variable {P : Program} {w : World} {K : PySem.W.Frag} {mg : Str → Option Value} {base : Heap}
def spOrder : Sp := fun vs H Q _ => ∃ (d c : Addr) (n : Nat), vs = [.ref d, nv n] ∧ HandAt H d c ∧ n ≤ 12 ∧ ∀ H' t o, OrdAt H' t o → IsOrd n o → HandAt H' d c → Keep d H H' → Q (.ref t) H'
abbrev nOrder : List Str := ["_law_hand_here", "_law_many", "_law_left", "_law_turn"]
theorem scOrder : FnScope nOrder ["_law_hand_here", "_law_many"] (defScope sOrder) := ⟨rfl, rfl, rfl, by decide +kernel, rfl, by decide +kernel, by decide +kernel⟩
theorem ok_order {f fD : Addr} {fd fdD : FuncData} (F : Fun K "_law_order" "_law_order" sOrder f fd) (T : Txt K mg) (D : Drw P w K mg base fD fdD) : FnOk P w K mg base CX0 2 f fd ["_law_hand_here", "_law_many"] spOrder := by
  obtain ⟨FD, GD, bD, gD⟩ := D
  refine F.ok scOrder (fun vs H Q E h => ?_) (fun cdv A outer s H vs Q E hr h => ?_)
  · obtain ⟨d, c, n, rfl, _⟩ := h
    rfl
  · obtain ⟨d, c, n, rfl, hH, n12, k⟩ := h
    refine ⟨_, pss_cons (ps_set (i := 2) scOrder.nd rfl (.inr rfl) (pe_listRg rfl (by rfl) T.list (prg_1 (by rfl) T.range (pv 1))))
      (pss_one (ps_ret (pe_callTy call_tuple_of (by rfl) T.tuple (by decide +kernel) (pa_cons (pe_lc (own := [("_law_turn", 3)]) (g := gName 3) (tt := tYes) rfl scOrder.nd (pi_range1 rfl T.range (pa_cons (pv 1) pa_nil))
        (blkOk_by (N := nOrder) (sc := defScope sOrder) (by decide +kernel)) (fun _ _ _ _ _ => pg_name (i := 3) scOrder.nd rfl (.inl rfl)) (fun _ _ _ _ _ => pts_nil)
        (fun _ _ _ _ _ => pe_bmK K PySem.F.plainAttrs_list PySem.F.slot_list_pop PySem.F.type_list_pop mt_popAt (pv 2) (pa_cons (pe_call GD hr (by rfl) gD FD.kp bD .nil pass0 (pa_cons (pv 0) (pa_cons (pe_callB (call_lenK K) (by rfl) T.len PySem.boot_len (pa_cons (pv 2) pa_nil)) pa_nil))) pa_nil))) pa_nil)))), ?_⟩
    refine ⟨_, rfl, (n : Int), rfl, .of_le (by omega) (by omega) (by omega) (by omega), fun L hL => ?_⟩
    obtain ⟨nL1, nL2⟩ := hH.new hL
    have eL : (upd H L (.lst (rgV 0 (n : Int)))) L = some (.lst ((List.range n).map nv)) := by rw [upd_same, rgV_nv]
    have h1 := hH.into (o := .lst (rgV 0 (n : Int))) nL1 nL2
    have k1 : Keep d H (upd H L (.lst (rgV 0 (n : Int)))) := Keep.into hL (Keep.refl d H)
    refine ⟨_, rfl, (n : Int), rfl, by omega, by omega, fun D hD => ?_⟩
    have nDL : D ≠ L := (ne_of_none eL hD).symm
    obtain ⟨nD1, nD2⟩ := h1.new hD
    refine lc_range (lo := 0) (n := n) (fun i H' => HandAt H' d c ∧ Keep d H H' ∧ ∃ done left : List Nat, H' L = some (.lst (left.map nv)) ∧ H' D = some (.lst (done.map nv)) ∧ done.length = i ∧ (done ++ left).Perm (List.range n))
      ⟨h1.into nD1 nD2, Keep.same k1 (same_upd hD), [], List.range n, by rw [upd_ne nDL.symm]; exact eL, upd_same, rfl, by simp⟩ ?_ ?_
    · rintro i H2 hi ⟨h2, k2, done, left, e2, d2, ld, pm⟩
      have ll : left.length = n - i := by
        have := pm.length_eq
        rw [List.length_append, List.length_range] at this
        omega
      refine ⟨rfl, _, rfl, .inl ⟨rfl, _, SqL.of e2⟩, _, rfl, _, rfl, L, _, rfl, .inl (SqL.of e2), d, c, _, rfl, ?_, ?_, h2, fun H3 r r0 r1 h3 k3 => ?_⟩
      · rw [List.length_map]
        omega
      · rw [List.length_map]
        omega
      · rw [List.length_map] at r1
        have e3 : H3 L = some (.lst (left.map nv)) := k3 _ _ nL1 e2
        obtain ⟨y, hy⟩ := get_nn (xs := left) r0 r1
        have hlt := lt_of_at hy
        refine ⟨L, left.map nv, r, r.toNat, nv y, rfl, rfl, e3, by omega, by omega, seqIndex_of r0 (by rw [List.length_map]; exact r1), map_at hy, ?_⟩
        have d3 : H3 D = some (.lst (done.map nv)) := k3 _ _ nD1 d2
        refine ⟨_, by rw [upd_ne nDL]; exact d3, ?_, (h3.into nL1 nL2).into nD1 nD2, ?_, done ++ [y], left.eraseIdx r.toNat, ?_, ?_, ?_, ?_⟩
        · rw [List.length_map]
          exact small1000 (by omega)
        · intro b o nb e
          have nbD : b ≠ D := ne_of_none (k1 b o nb e) hD
          have nbL : b ≠ L := ne_of_none e hL
          rw [upd_ne nbD, upd_ne nbL]
          exact k3 b o nb (k2 b o nb e)
        · rw [upd_ne nDL.symm, upd_same, erase_map]
        · rw [upd_same, List.map_append]
          rfl
        · rw [List.length_append, ld]
          rfl
        · rw [List.append_assoc]
          exact (List.Perm.append_left done (erase_perm hy)).trans pm
    · rintro H2 ⟨h2, k2, done, left, e2, d2, ld, pm⟩
      have l0 : left = [] := by
        have := pm.length_eq
        rw [List.length_append, List.length_range] at this
        exact List.length_eq_zero_iff.mp (by omega)
      rw [l0, List.append_nil] at pm
      refine ⟨D, _, rfl, .inl ⟨SqL.of d2, fun t ht => ?_⟩⟩
      exact k _ t done upd_same (isOrd_of_perm pm) (h2.same (same_upd ht)) (Keep.same k2 (same_upd ht))
def spOrders : Sp := fun vs H Q _ => ∃ n : Nat, vs = [nv n] ∧ n ≤ 6 ∧ ∀ H' l, Same H H' → OrdsAt H' l (build (alls n)) → Q (.ref l) H'
abbrev nOrders : List Str := ["_law_many", "_law_found", "_law_turn", "_law_longer", "_law_order_here", "_law_one"]
theorem scOrders : FnScope nOrders ["_law_many"] (defScope sOrders) := ⟨rfl, rfl, rfl, by decide +kernel, rfl, by decide +kernel, by decide +kernel⟩
theorem ok_orders {f : Addr} {fd : FuncData} (F : Fun K "_law_orders" "_law_orders" sOrders f fd) (T : Txt K mg) : FnOk P w K mg base CX0 1 f fd ["_law_many"] spOrders := by
  refine F.ok scOrders (fun vs H Q E h => ?_) (fun cdv A outer s H vs Q E hr h => ?_)
  · obtain ⟨n, rfl, _⟩ := h
    rfl
  · obtain ⟨n, rfl, n6, k⟩ := h
    refine ⟨_, pss_cons (ps_set (i := 1) scOrders.nd rfl (.inl rfl) (pe_lst (pa_cons (pe_tup pa_nil) pa_nil)))
      (pss_cons (ps_for PassesOwn.never rfl (pi_range1 rfl T.range (pa_cons (pv 0) pa_nil)) (pg_name (i := 2) scOrders.nd rfl (.inl rfl))
        (pss_cons (ps_set (i := 3) scOrders.nd rfl (.inl rfl) (pe_lst pa_nil))
        (pss_cons (ps_for PassesOwn.never rfl (pi_list (pv 1)) (pg_name (i := 4) scOrders.nd rfl (.inr rfl))
          (pss_one (ps_expr (pe_bm PySem.F.plainAttrs_list PySem.F.slot_list_extend PySem.F.type_list_extend mt_extend (pv 3) (pa_cons
            (pe_lc (own := [("_law_one", 5)]) (g := gName 5) rfl scOrders.nd (pi_range1 rfl T.range (pa_cons (pv 0) pa_nil)) (blkOk_by (N := nOrders) (sc := defScope sOrders) (by decide +kernel))
              (fun _ _ _ _ _ => pg_name (i := 5) scOrders.nd rfl (.inl rfl)) (fun _ _ _ _ _ => pts_one (pt_cmpR (op_notInK K) (pv 5) (pv 4) rfl)) (fun _ _ _ _ _ => pe_op (op_catK K) (pv 4) (pe_tup (pa_cons (pv 5) pa_nil)))) pa_nil)))))
        (pss_one (ps_set (i := 1) scOrders.nd rfl (.inl rfl) (pv 3))))))
      (pss_one (ps_ret (pv 1)))), ?_⟩
    refine ⟨Nat.zero_le _, fun u hu => ⟨by show 1 ≤ sizeLine; decide, fun l0 hl0 => ?_⟩⟩
    have s2 : Same H (upd (upd H u (.tup [])) l0 (.lst [.ref u])) := Same.trans (same_upd hu) (same_upd hl0)
    have o2 : OrdsAt (upd (upd H u (.tup [])) l0 (.lst [.ref u])) l0 (build (List.replicate 0 (List.range n))) := by
      refine ⟨[u], upd_same, rfl, fun i r o q1 q2 => ?_⟩
      have ei : i = 0 := by
        have := lt_of_at q1
        simpa using this
      subst ei
      cases q1
      cases q2
      show upd _ _ _ u = _
      rw [upd_ne (ne_of_none upd_same hl0), upd_same]
      rfl
    refine ⟨_, rfl, (n : Int), rfl, by omega, by omega, for_range (lo := 0) (n := n) (fun i σ H' => ∃ l v2 v3 v4, σ = [some (nv n), some (.ref l), v2, v3, v4, none] ∧ Same H H' ∧ OrdsAt H' l (build (List.replicate i (List.range n))))
      ⟨l0, none, none, none, rfl, s2, o2⟩ ?_ ?_⟩
    · rintro i σ H2 hi ⟨l, v2, v3, v4, rfl, s2, o2⟩
      refine ⟨Nat.zero_le _, fun G hG => ?_⟩
      generalize hL : build (List.replicate i (List.range n)) = L at o2
      have bl : L.length ≤ 46656 := by
        have q1 := build_len (m := 6) (List.replicate i (List.range n)) fun rows hq => by
          rw [List.eq_of_mem_replicate hq, List.length_range]
          exact n6
        rw [List.length_replicate] at q1
        have q2 : 6 ^ i ≤ 46656 := six (by omega)
        rw [← hL]
        omega
      have ol : ∀ o ∈ L, o.length ≤ 6 := fun o ho => by
        rw [← hL] at ho
        have := ((mem_build _ o).mp ho).len
        rw [this, List.length_replicate]
        omega
      obtain ⟨as, el, la, qa⟩ := id o2
      have hlen : (as.map V.ref).length = L.length := by rw [List.length_map, la]
      have e1 : (upd H2 G (.lst [])) l = some (.lst (as.map V.ref)) := same_upd hG _ _ el
      refine ⟨_, rfl, l, rfl, ⟨_, SqL.of e1⟩, for_list (K := K) (a := l) (xs := as.map V.ref) (fun j σ H' => ∃ v4, σ = [some (nv n), some (.ref l), some (.int (0 + (i : Int))), some (.ref G), v4, none] ∧ Same H2 H' ∧ OrdsAt H' G (step (List.range n) (L.take j)))
        ⟨v4, rfl, same_upd hG, OrdsAt.nil⟩ ?_ ?_ ?_⟩
      · rintro j σ H' _ ⟨_, _, s3, _⟩
        exact SqL.of (s3 _ _ el)
      · rintro j x σ H3 hx ⟨v4, rfl, s3, o3⟩
        obtain ⟨t, ht, rfl⟩ := at_map hx
        have hj : j < L.length := by
          rw [← la]
          exact lt_of_at ht
        obtain ⟨o, ho⟩ : ∃ o, L[j]? = some o := ⟨_, List.getElem?_eq_getElem hj⟩
        have ot : OrdAt H3 t o := s3 _ _ (qa j t o ht ho)
        obtain ⟨xs3, ex3⟩ : ∃ xs, H3 G = some (.lst xs) := let ⟨_, e, _⟩ := o3; ⟨_, e⟩
        refine ⟨_, rfl, .inl ⟨rfl, _, SqL.of ex3⟩, _, rfl, (n : Int), rfl, by omega, by omega, fun D hD => ?_⟩
        refine lc_range (lo := 0) (n := n) (fun c H' => Same H3 H' ∧ OrdsAt H' D ((((List.range n).take c).filter fun r => !o.contains r).map fun r => o ++ [r])) ⟨same_upd hD, OrdsAt.nil⟩ ?_ ?_
        · rintro c H4 hc ⟨s4, o4⟩
          have fl := filter_take_succ (p := fun r => !o.contains r) (xs := List.range n) (i := c) (r := c) (List.getElem?_range hc)
          have ot4 : OrdAt H4 t o := s4 _ _ ot
          refine ⟨rfl, _, rfl, _, rfl, t, o.map nv, rfl, .inr (SqT.of ot4), rfl, flat_nv o, _, rfl, ?_⟩
          have en : (if true = true then !inV (V.int (0 + (c : Int))) (o.map nv) else inV (V.int (0 + (c : Int))) (o.map nv)) = !o.contains c := by rw [if_pos rfl, z0, in_nv]
          rw [en]
          by_cases hcc : o.contains c = true
          · rw [hcc]
            refine iteF ⟨s4, ?_⟩
            rw [fl, hcc, if_neg (by decide), List.append_nil]
            exact o4
          · have hc' : o.contains c = false := by simpa using hcc
            rw [hc']
            refine iteT ⟨_, rfl, _, rfl, by show 1 ≤ sizeLine; decide, fun u hu => ?_⟩
            refine cat_one (r := c) (same_upd hu _ _ ot4) (by rw [upd_same, z0]) (by have := ol o (List.mem_of_getElem? ho); omega) fun b H5 s5 oc => ?_
            have s6 : Same H4 H5 := Same.trans (same_upd hu) s5
            obtain ⟨acc, ea, lac, on⟩ := (o4.same s6).push oc
            refine ⟨acc, ea, ?_, Same.into hD (Same.trans s4 s6), ?_⟩
            · refine small_line ?_
              rw [lac, List.length_map]
              have q2 := List.length_filter_le (fun r => !o.contains r) ((List.range n).take c)
              rw [List.length_take] at q2
              omega
            · rw [fl, hc', if_pos (by decide), List.map_append]
              exact on
        · rintro H4 ⟨s4, o4⟩
          rw [range_take] at o4
          obtain ⟨xs, zs, e5, e6, l5, l6, o5⟩ := (o3.same s4).append o4
          refine ⟨G, D, xs, zs, rfl, rfl, e5, e6, ?_, ?_⟩
          · have q1 := step_len (rows := List.range n) (m := 6) (by rw [List.length_range]; exact n6) (L.take j)
            have q2 := List.length_filter_le (fun r => !o.contains r) (List.range n)
            rw [List.length_range] at q2
            rw [List.length_take] at q1
            rw [l5, l6, List.length_map]
            exact Nat.le_of_lt (small_line (by omega))
          · refine ⟨_, rfl, Same.into hG (Same.trans s3 s4), ?_⟩
            rw [List.take_add_one, ho]
            show OrdsAt _ G (step (List.range n) (L.take j ++ [o]))
            rw [step_snoc]
            exact o5
      · rintro σ H3 ⟨v4, rfl, s3, o3⟩
        rw [hlen, List.take_length, ← hL, ← build_snoc, ← List.replicate_succ'] at o3
        exact ⟨_, rfl, G, _, _, _, rfl, Same.trans s2 s3, o3⟩
    · rintro σ H2 ⟨l, v2, v3, v4, rfl, s2, o2⟩
      exact ⟨_, rfl, k H2 l s2 o2⟩
def spTaken : Sp := fun vs H Q _ => ∃ (a t : Addr) (T : Tab) (h w : Nat) (x y : List Nat), vs = [.ref a, .ref t] ∧ TabAt H a T ∧ Rect T h w ∧ PairAt H t x y ∧ (∀ r ∈ x, r < h) ∧ (∀ c ∈ y, c < w) ∧ x.length ≤ 12 ∧ y.length ≤ 12 ∧ ∀ H' b, Same H H' → TabAt H' b (taken T x y) → Q (.ref b) H'
abbrev nTaken : List Str := ["_law_rows", "_law_orders_here", "_law_row", "_law_column"]
theorem scTaken : FnScope nTaken ["_law_rows", "_law_orders_here"] (defScope sTaken) := ⟨rfl, rfl, rfl, by decide +kernel, rfl, by decide +kernel, by decide +kernel⟩
theorem ok_taken {f : Addr} {fd : FuncData} (F : Fun K "_law_taken" "_law_taken" sTaken f fd) (T : Txt K mg) : FnOk P w K mg base CX0 1 f fd ["_law_rows", "_law_orders_here"] spTaken := by
  refine F.ok scTaken (fun vs H Q E h => ?_) (fun cdv A outer s H vs Q E hr h => ?_)
  · obtain ⟨a, t, _, _, _, _, _, rfl, _⟩ := h
    rfl
  · obtain ⟨a, t, tb, hh, ww, x, y, rfl, hT, R, ⟨px, py, ht, hx, hy⟩, bx, by_, lx, ly, k⟩ := h
    obtain ⟨rs, ha, hrl, hrow⟩ := id hT
    refine ⟨_, pss_one (ps_ret (pe_callTy call_tuple_of (by rfl) T.tuple (by decide +kernel) (pa_cons (pe_lc (own := [("_law_row", 2)]) (g := gName 2) (tt := tYes) rfl scTaken.nd (pi_tup (pe_ix ix_tup (pv 1) pe_int (fun _ _ => rfl)))
      (blkOk_by (N := nTaken) (sc := defScope sTaken) (by decide +kernel)) (fun _ _ _ _ _ => pg_name (i := 2) scTaken.nd rfl (.inr rfl)) (fun _ _ _ _ _ => pts_nil)
      (fun _ _ _ _ _ => pe_callTy (call_tupK K) (by rfl) T.tuple (by decide +kernel) (pa_cons (pe_lc (own := [("_law_column", 3)]) (g := gName 3) (tt := tYes) rfl scTaken.nd (pi_tupK K (pe_ix (ix_tupK K) (pv 1) pe_int (fun _ _ => rfl)))
        (blkOk_by (N := nTaken) (sc := relS (lcScope (arg0 (asgValue ((defBody sTaken).getD 0 (.Pass ⟨0, 0, 0, 0⟩))))) (defScope sTaken)) (by decide +kernel)) (fun _ _ _ _ _ => pg_name (i := 3) scTaken.nd rfl (.inl rfl)) (fun _ _ _ _ _ => pts_nil)
        (fun _ _ _ _ _ => pe_ix (ix_tupK K) (pe_ix (ix_tupK K) (pv 0) (pv 2) (fun _ _ => rfl)) (pv 3) (fun _ _ => rfl))) pa_nil))) pa_nil))), ?_⟩
    refine ⟨_, rfl, t, _, 0, .ref px, rfl, rfl, SqT.of ht, atI_nat (j := 0) rfl, px, rfl, ⟨_, SqT.of hx⟩, fun D hD => ?_⟩
    refine lc_tup (K := K) (a := px) (xs := x.map nv) (fun i H' => Same H H' ∧ RowsAt H' D (taken tb (x.take i) y)) ⟨same_upd hD, RowsAt.nil⟩ (fun i H' _ p => SqT.of (p.1 _ _ hx)) ?_ ?_
    · rintro i v H1 hv ⟨s1, r1⟩
      obtain ⟨r, hr', rfl⟩ := at_map hv
      have rh : r < hh := bx r (List.mem_of_getElem? hr')
      obtain ⟨ra, era⟩ : ∃ ra, rs[r]? = some ra := ⟨rs[r]'(by rw [hrl, R.hi]; exact rh), List.getElem?_eq_getElem _⟩
      refine ⟨rfl, _, rfl, t, _, 1, .ref py, rfl, rfl, SqT.of (s1 _ _ ht), atI_nat (j := 1) rfl, py, rfl, ⟨_, SqT.of (s1 _ _ hy)⟩, fun D2 hD2 => ?_⟩
      refine lc_tup (K := K) (a := py) (xs := y.map nv) (fun j H' => Same H1 H' ∧ H' D2 = some (.lst (((y.take j).map fun c => ent tb r c).map fv))) ⟨same_upd hD2, by rw [upd_same]; rfl⟩ (fun i H' _ p => SqT.of (p.1 _ _ (s1 _ _ hy))) ?_ ?_
      · rintro j u H2 hu ⟨s2, d2⟩
        obtain ⟨c, hc, rfl⟩ := at_map hu
        have cw : c < ww := by_ c (List.mem_of_getElem? hc)
        obtain ⟨row, er, ex⟩ := R.ent rh cw
        have s12 : Same H H2 := Same.trans s1 s2
        refine ⟨rfl, _, rfl, _, rfl, a, rs.map V.ref, _, .ref ra, rfl, rfl, SqT.of (s12 _ _ ha), atI_nat (map_at era), _, rfl, ra, row.map fv, _, fv (ent tb r c), rfl, rfl, SqT.of (s12 _ _ (hrow r ra row era er)), atI_nat (map_at ex), ?_⟩
        refine ⟨_, d2, ?_, Same.into hD2 s2, ?_⟩
        · refine small1000 ?_
          rw [List.length_map, List.length_map, List.length_take]
          omega
        · rw [upd_same, ← map_take_succ hc, List.map_append]
          rfl
      · rintro H2 ⟨s2, d2⟩
        rw [List.length_map, List.take_length] at d2
        refine ⟨D2, _, rfl, .inl ⟨SqL.of d2, fun q hq => ?_⟩⟩
        have s3 : Same H1 _ := Same.trans s2 (same_upd (o := .tup ((y.map fun c => ent tb r c).map fv)) hq)
        obtain ⟨acc, ea, la, rn⟩ := (r1.keep (fun xs e => s3 _ _ e) (Same.keepT s3)).push (r := q) (row := y.map fun c => ent tb r c) upd_same
        refine ⟨acc, ea, ?_, Same.into hD (Same.trans s1 s3), ?_⟩
        · refine small1000 ?_
          rw [la]
          unfold taken
          rw [List.length_map, List.length_take]
          omega
        · unfold taken at rn ⊢
          rw [map_take_succ hr'] at rn
          exact rn
    · rintro H1 ⟨s1, r1⟩
      rw [List.length_map, List.take_length] at r1
      obtain ⟨xs, ex⟩ : ∃ xs, H1 D = some (.lst xs) := let ⟨_, e, _⟩ := r1; ⟨_, e⟩
      exact ⟨D, _, rfl, .inl ⟨SqL.of ex, fun b hb => k _ b (Same.trans s1 (same_upd hb)) (r1.tab ex hb)⟩⟩
end
end K56

namespace K56
open PySem PySem.Spec PyProof.Rows L2
abbrev sDue : Stmt := top 30
abbrev sLeast : Stmt := top 31
theorem taken_ents {m : Nat} {T : Tab} {h w : Nat} {x y : List Nat} (R : Rect T h w) (E : Ents m T) (hx : ∀ r ∈ x, r < h) (hy : ∀ c ∈ y, c < w) : Ents m (taken T x y) := by
  intro row hr u hu
  obtain ⟨r, hr', rfl⟩ := List.mem_map.mp hr
  obtain ⟨c, hc, rfl⟩ := List.mem_map.mp hu
  exact ents_fine R E (hx r hr') (hy c hc)
theorem ref_inj : ∀ {xs ys : List Addr}, xs.map V.ref = ys.map V.ref → xs = ys
  | [], [], _ => rfl
  | [], _ :: _, h => by cases h
  | _ :: _, [], h => by cases h
  | x :: xs, y :: ys, h => by
    rw [List.map_cons, List.map_cons] at h
    obtain ⟨h1, h2⟩ := List.cons.inj h
    rw [V.ref.inj h1, ref_inj h2]
/-- the first row of a table -/
theorem TabAt.first {H : Hp} {a : Addr} {T : Tab} {h w : Nat} (t : TabAt H a T) (R : Rect T h w) (h1 : 1 ≤ h) : ∃ (rs : List Addr) (r0 : Addr) (row0 : List Form), H a = some (.tup (rs.map V.ref)) ∧ rs.length = h ∧ rs[0]? = some r0 ∧ H r0 = some (.tup (row0.map fv)) ∧ row0.length = w ∧ T[0]? = some row0 := by
  obtain ⟨rs, ha, hl, hr⟩ := t
  obtain ⟨row0, er0, hl0⟩ := R.row (i := 0) (by omega)
  have h0 : rs[0]? = some (rs[0]'(by rw [hl, R.hi]; omega)) := List.getElem?_eq_getElem _
  exact ⟨rs, _, row0, ha, by rw [hl, R.hi], h0, hr 0 _ row0 h0 er0, hl0, er0⟩
section
variable {P : Program} {w : World} {K : PySem.W.Frag} {mg : Str → Option Value} {base : Heap}
structure Fn1 (P : Program) (w : World) (K : PySem.W.Frag) (mg : Str → Option Value) (base : Heap) (k : Nat) (x : Str) (st : Stmt) (ps : List Str) (sp : Sp) (f : Addr) (fd : FuncData) : Prop where
  fn : Fun K x x st f fd
  ok : FnOk P w K mg base CX0 k f fd ps sp
  bn : Binds K fd ps []
  gl : mg x = some (.ref f)
def spDue : Sp := fun vs H Q _ => ∃ (a b : Addr) (T U : Tab) (h w h' w' : Nat), vs = [.ref a, .ref b] ∧ TabAt H a T ∧ TabAt H b U ∧ Rect T h w ∧ Rect U h' w' ∧ Ents 30 T ∧ Ents 30 U ∧ 1 ≤ h ∧ 1 ≤ h' ∧ h ≤ 6 ∧ w ≤ 6 ∧
  ∀ H' v res, Same H H' → Least h w T U res → ResAt H' v res → Q v H'
theorem scDue : FnScope ["_law_rows", "_law_others", "_law_first", "_law_second"] ["_law_rows", "_law_others"] (defScope sDue) := ⟨rfl, rfl, rfl, by decide +kernel, rfl, by decide +kernel, by decide +kernel⟩
theorem ok_due {f fO fT : Addr} {fd fdO fdT : FuncData} (F : Fun K "_law_due" "_law_due" sDue f fd) (T : Txt K mg) (O : Fn1 P w K mg base 1 "_law_orders" sOrders ["_law_many"] spOrders fO fdO) (TK : Fn1 P w K mg base 1 "_law_taken" sTaken ["_law_rows", "_law_orders_here"] spTaken fT fdT) :
    FnOk P w K mg base CX0 2 f fd ["_law_rows", "_law_others"] spDue := by
  obtain ⟨FO, GO, bO, gO⟩ := O
  obtain ⟨FT, GT, bT, gT⟩ := TK
  refine F.ok scDue (fun vs H Q E h => ?_) (fun cdv A outer s H vs Q E hr h => ?_)
  · obtain ⟨a, b, _, _, _, _, _, _, rfl, _⟩ := h
    rfl
  · obtain ⟨a, b, tb, ub, hh, ww, hh', ww', rfl, hT, hU, R1, R2, E1, E2, h1, h1', h6, w6, k⟩ := h
    refine ⟨_, pss_cons (ps_if (PW.pt (pw_or (pt_cmpR op_ne (pe_callB call_len_seq (by rfl) T.len PySem.boot_len (pa_cons (pv 0) pa_nil)) (pe_callB call_len_seq (by rfl) T.len PySem.boot_len (pa_cons (pv 1) pa_nil)) (nomark _))
          (pw_or1 (pt_cmpR op_ne (pe_callB call_len_seq (by rfl) T.len PySem.boot_len (pa_cons (pe_ix ix_tup (pv 0) pe_int (fun _ _ => rfl)) pa_nil)) (pe_callB call_len_seq (by rfl) T.len PySem.boot_len (pa_cons (pe_ix ix_tup (pv 1) pe_int (fun _ _ => rfl)) pa_nil)) (nomark _))))) (pss_one (ps_ret pe_non)) pss_nil)
      (pss_cons (ps_for PassesOwn.never rfl (pi_list (pe_call GO hr (by rfl) gO FO.kp bO .nil pass0 (pa_cons (pe_callB call_len_seq (by rfl) T.len PySem.boot_len (pa_cons (pv 0) pa_nil)) pa_nil))) (pg_name (i := 2) scDue.nd rfl (.inl rfl))
        (pss_one (ps_for PassesOwn.never rfl (pi_list (pe_call GO hr (by rfl) gO FO.kp bO .nil pass0 (pa_cons (pe_callB call_len_seq (by rfl) T.len PySem.boot_len (pa_cons (pe_ix ix_tup (pv 0) pe_int (fun _ _ => rfl)) pa_nil)) pa_nil))) (pg_name (i := 3) scDue.nd rfl (.inl rfl))
          (pss_one (ps_if (pt_cmpR (op_eqD hr.units) (pe_call GT hr (by rfl) gT FT.kp bT .nil pass0 (pa_cons (pv 0) (pa_cons (pe_tup (pa_cons (pv 2) (pa_cons (pv 3) pa_nil))) pa_nil))) (pv 1) (nomark _))
            (pss_one (ps_ret (pe_tup (pa_cons (pv 2) (pa_cons (pv 3) pa_nil))))) pss_nil)))))
      (pss_one (ps_ret pe_non))), ?_⟩
    obtain ⟨rs, r0, row0, ha, hl, hr0, h0, hl0, _⟩ := hT.first R1 h1
    obtain ⟨ss, q0, qow0, hb, hl', hq0, g0, hl0', _⟩ := hU.first R2 h1'
    have lr : (rs.map V.ref).length = hh := by rw [List.length_map, hl]
    have ls : (ss.map V.ref).length = hh' := by rw [List.length_map, hl']
    have lr0 : (row0.map fv).length = ww := by rw [List.length_map, hl0]
    have ls0 : (qow0.map fv).length = ww' := by rw [List.length_map, hl0']
    have un : hh ≠ hh' ∨ ww ≠ ww' → Q .non H := fun z => k H .non none (Same.refl H) (least_size R2 h1' z) rfl
    refine ⟨_, rfl, a, _, rfl, .inr (SqT.of ha), _, rfl, b, _, rfl, .inr (SqT.of hb), rfl, _, rfl, ?_⟩
    rw [lr, ls]
    refine ite2 (fun z => iteT (un (.inl fun y => ?_))) fun z => ?_
    · rw [y, decide_eq_true rfl] at z
      cases z
    · have eh : hh = hh' := by
        by_cases y : hh = hh'
        · exact y
        · have y2 : ¬ V.int ((hh : Nat) : Int) = V.int ((hh' : Nat) : Int) := fun x => y (Int.ofNat.inj (V.int.inj x))
          rw [decide_eq_false y2] at z
          exact (z rfl).elim
      refine ⟨_, rfl, a, _, 0, .ref r0, rfl, rfl, SqT.of ha, atI_nat (j := 0) (map_at hr0), r0, _, rfl, .inr (SqT.of h0), _, rfl, b, _, 0, .ref q0, rfl, rfl, SqT.of hb, atI_nat (j := 0) (map_at hq0), q0, _, rfl, .inr (SqT.of g0), rfl, _, rfl, ?_⟩
      rw [lr0, ls0]
      refine ite2 (fun z => un (.inr fun y => ?_)) fun z => ?_
      · rw [y, decide_eq_true rfl] at z
        cases z
      · have ew : ww = ww' := by
          by_cases y : ww = ww'
          · exact y
          · have y2 : ¬ V.int ((ww : Nat) : Int) = V.int ((ww' : Nat) : Int) := fun x => y (Int.ofNat.inj (V.int.inj x))
            rw [decide_eq_false y2] at z
            exact (z rfl).elim
        subst eh
        subst ew
        -- the first order of the rows ..
        refine ⟨_, rfl, a, _, rfl, .inr (SqT.of ha), hh, by rw [lr]; rfl, h6, fun H1 l s1 o1 => ?_⟩
        obtain ⟨as, el, la, qa⟩ := id o1
        refine ⟨l, rfl, ⟨_, SqL.of el⟩, for_list (K := K) (a := l) (xs := as.map V.ref) (fun i σ H' => ∃ v2 v3, σ = [some (.ref a), some (.ref b), v2, v3] ∧ Same H1 H' ∧ ∀ (j : Nat) x, j < i → (build (alls hh))[j]? = some x → ∀ y, ¬ Valid hh ww tb ub x y)
          ⟨none, none, rfl, Same.refl H1, fun j x hj => absurd hj (Nat.not_lt_zero j)⟩ ?_ ?_ ?_⟩
        · rintro i σ H' _ ⟨_, _, _, s2, _⟩
          exact SqL.of (s2 _ _ el)
        · rintro i x σ H2 hx ⟨v2, v3, rfl, s2, no⟩
          obtain ⟨t, ht, rfl⟩ := at_map hx
          obtain ⟨o, ho⟩ : ∃ o, (build (alls hh))[i]? = some o := ⟨_, List.getElem?_eq_getElem (by rw [← la]; exact lt_of_at ht)⟩
          have oo : IsOrd hh o := mem_alls.mp (List.mem_of_getElem? ho)
          have s12 : Same H H2 := Same.trans s1 s2
          have ot : OrdAt H2 t o := s2 _ _ (qa i t o ht ho)
          -- .. the first order of the columns
          refine ⟨_, rfl, a, _, 0, .ref r0, rfl, rfl, SqT.of (s12 _ _ ha), atI_nat (j := 0) (map_at hr0), r0, _, rfl, .inr (SqT.of (s12 _ _ h0)), ww, by rw [lr0]; rfl, w6, fun H3 m s3 o3 => ?_⟩
          obtain ⟨bs, em, lb, qb⟩ := id o3
          refine ⟨m, rfl, ⟨_, SqL.of em⟩, for_list (K := K) (a := m) (xs := bs.map V.ref) (fun j σ H' => ∃ v3, σ = [some (.ref a), some (.ref b), some (.ref t), v3] ∧ Same H3 H' ∧ ∀ (c : Nat) y, c < j → (build (alls ww))[c]? = some y → ¬ Valid hh ww tb ub o y)
            ⟨v3, rfl, Same.refl H3, fun j x hj => absurd hj (Nat.not_lt_zero j)⟩ ?_ ?_ ?_⟩
          · rintro j σ H' _ ⟨_, _, s4, _⟩
            exact SqL.of (s4 _ _ em)
          · rintro j y σ H4 hy ⟨v3, rfl, s4, non⟩
            obtain ⟨u, hu, rfl⟩ := at_map hy
            obtain ⟨p, hp⟩ : ∃ p, (build (alls ww))[j]? = some p := ⟨_, List.getElem?_eq_getElem (by rw [← lb]; exact lt_of_at hu)⟩
            have op : IsOrd ww p := mem_alls.mp (List.mem_of_getElem? hp)
            have s34 : Same H2 H4 := Same.trans s3 s4
            have s14 : Same H H4 := Same.trans s12 s34
            have ou : OrdAt H4 u p := s4 _ _ (qb j u p hu hp)
            refine ⟨_, rfl, _, rfl, _, rfl, by show 2 ≤ sizeLine; decide, fun q hq => ?_⟩
            have s5 : Same H4 (upd H4 q (.tup [.ref t, .ref u])) := same_upd hq
            have pq : PairAt (upd H4 q (.tup [.ref t, .ref u])) q o p := ⟨t, u, upd_same, s5 _ _ (s34 _ _ ot), s5 _ _ ou⟩
            refine ⟨a, q, tb, hh, ww, o, p, rfl, hT.keep (Same.keepT (Same.trans s14 s5)), R1, pq, oo.lt, op.lt, by rw [oo.len]; omega, by rw [op.len]; omega, fun H6 g s6 tg => ?_⟩
            have s56 : Same H4 H6 := Same.trans s5 s6
            have s16 : Same H H6 := Same.trans s14 s56
            refine ⟨_, rfl, tabD (taken tb o p), tabD ub, dp_tab tg, dp_tab (hU.keep (Same.keepT s16)), (small_tabD (taken_ents R1 E1 oo.lt op.lt)).shaped (by decide), (small_tabD E2).shaped (by decide), _, rfl, ?_⟩
            rw [eqv_tabD]
            by_cases hq2 : taken tb o p = ub
            · rw [decide_eq_true hq2]
              refine iteT ⟨_, rfl, _, rfl, by show 2 ≤ sizeLine; decide, fun z hz => ?_⟩
              have v : Valid hh ww tb ub o p := ⟨oo, op, hq2⟩
              refine k _ _ (some (o, p)) (Same.trans s16 (same_upd hz)) (least_some (alls_sorted hh) (fun _ _ => valid_alls) ho no v fun y' v' => ?_) ⟨z, rfl, t, u, upd_same, same_upd hz _ _ (s56 _ _ (s34 _ _ ot)), same_upd hz _ _ (s56 _ _ ou)⟩
              obtain ⟨c, hc⟩ := List.getElem?_of_mem (mem_alls.mpr v'.ob)
              rcases Nat.lt_trichotomy j c with q | q | q
              · exact .inr (sorted_at (alls_sorted ww) hp hc q)
              · subst q
                rw [hp] at hc
                cases hc
                exact .inl rfl
              · exact (non c y' q hc v').elim
            · rw [decide_eq_false hq2]
              refine iteF ⟨_, rfl, Same.trans s4 s56, fun c y hc hcy => ?_⟩
              by_cases hcj : c = j
              · subst hcj
                rw [hp] at hcy
                cases hcy
                exact fun v => hq2 v.eq
              · exact non c y (by omega) hcy
          · rintro σ H4 ⟨v3, rfl, s4, non⟩
            refine ⟨_, _, rfl, Same.trans s2 (Same.trans s3 s4), fun j x hj hjx => ?_⟩
            by_cases hji : j = i
            · subst hji
              rw [ho] at hjx
              cases hjx
              intro y v
              obtain ⟨c, hc⟩ := List.getElem?_of_mem (mem_alls.mpr v.ob)
              refine non c y ?_ hc v
              rw [List.length_map, lb]
              exact lt_of_at hc
            · exact no j x (by omega) hjx
        · rintro σ H2 ⟨v2, v3, rfl, s2, no⟩
          refine k H2 _ none (Same.trans s1 s2) (least_none (fun _ _ => valid_alls) fun j x hx => no j x ?_ hx) rfl
          rw [List.length_map, la]
          exact lt_of_at hx
def spLeast : Sp := fun vs H Q _ => ∃ (a b : Addr) (T U : Tab) (h w : Nat), vs = [.ref a, .ref b] ∧ TabAt H a T ∧ TabAt H b U ∧ Rect T h w ∧ Rect U h w ∧ Ents 30 T ∧ Ents 30 U ∧ 1 ≤ h ∧ h ≤ 6 ∧ w ≤ 6 ∧
  ∀ H' v res, Same H H' → Least h w T U res → ResAt H' v res → Q v H'
abbrev nLeast : List Str := ["_law_rows", "_law_others", "_law_wide", "_law_first", "_law_column", "_law_mine", "_law_second", "_law_due_here", "_law_left", "_law_row", "_law_one"]
theorem scLeast : FnScope nLeast ["_law_rows", "_law_others"] (defScope sLeast) := ⟨rfl, rfl, rfl, by decide +kernel, rfl, by decide +kernel, by decide +kernel⟩
def forBody : Stmt → List Stmt
  | .For _ _ b _ _ => b
  | _ => []
abbrev mineLc : Expr := asgValue ((forBody ((defBody sLeast).getD 1 (.Pass ⟨0, 0, 0, 0⟩))).getD 0 (.Pass ⟨0, 0, 0, 0⟩))
theorem ok_least {f fO : Addr} {fd fdO : FuncData} (F : Fun K "_law_least" "_law_least" sLeast f fd) (T : Txt K mg) (O : Fn1 P w K mg base 1 "_law_orders" sOrders ["_law_many"] spOrders fO fdO) :
    FnOk P w K mg base CX0 2 f fd ["_law_rows", "_law_others"] spLeast := by
  obtain ⟨FO, GO, bO, gO⟩ := O
  refine F.ok scLeast (fun vs H Q E h => ?_) (fun cdv A outer s H vs Q E hr h => ?_)
  · obtain ⟨a, b, _, _, _, _, rfl, _⟩ := h
    rfl
  · obtain ⟨a, b, tb, ub, hh, ww, rfl, hT, hU, R1, R2, E1, E2, h1, h6, w6, k⟩ := h
    refine ⟨_, pss_cons (ps_set (i := 2) scLeast.nd rfl (.inl rfl) (pe_callB call_len_seq (by rfl) T.len PySem.boot_len (pa_cons (pe_ix ix_tup (pv 0) pe_int (fun _ _ => rfl)) pa_nil)))
      (pss_cons (ps_for PassesOwn.never rfl (pi_list (pe_call GO hr (by rfl) gO FO.kp bO .nil pass0 (pa_cons (pe_callB call_len_seq (by rfl) T.len PySem.boot_len (pa_cons (pv 0) pa_nil)) pa_nil))) (pg_name (i := 3) scLeast.nd rfl (.inr rfl))
        (pss_cons (ps_set (i := 5) scLeast.nd rfl (.inr rfl) (pe_lc (own := [("_law_column", 4)]) (g := gName 4) (tt := tYes) rfl scLeast.nd (pi_range1 rfl T.range (pa_cons (pv 2) pa_nil))
          (blkOk_by (N := nLeast) (sc := defScope sLeast) (by decide +kernel)) (fun _ _ _ _ _ => pg_name (i := 4) scLeast.nd rfl (.inr rfl)) (fun _ _ _ _ _ => pts_nil)
          (fun _ _ _ _ _ => pe_lc (own := [("_law_row", 9)]) (g := gName 9) (tt := tYes) rfl scLeast.nd (pi_tupK K (pv 3))
            (blkOk_by (N := nLeast) (sc := relS (lcScope mineLc) (defScope sLeast)) (by decide +kernel)) (fun _ _ _ _ _ => pg_name (i := 9) scLeast.nd rfl (.inl rfl)) (fun _ _ _ _ _ => pts_nil)
            (fun _ _ _ _ _ => pe_ix (ix_tupK K) (pe_ix (ix_tupK K) (pv 0) (pv 9) (fun _ _ => rfl)) (pv 4) (fun _ _ => rfl)))))
        (pss_cons (ps_set (i := 6) scLeast.nd rfl (.inr rfl) (pe_lst pa_nil))
        (C8.pss_cut (ps_for PassesOwn.never rfl (pi_range1 rfl T.range (pa_cons (pv 2) pa_nil)) (pg_name (i := 4) scLeast.nd rfl (.inr rfl))
          (pss_cons (ps_set (i := 7) scLeast.nd rfl (.inr rfl) (pe_lc (own := [("_law_row", 9)]) (g := gName 9) (tt := tYes) rfl scLeast.nd (pi_tup (pv 1))
            (blkOk_by (N := nLeast) (sc := defScope sLeast) (by decide +kernel)) (fun _ _ _ _ _ => pg_name (i := 9) scLeast.nd rfl (.inl rfl)) (fun _ _ _ _ _ => pts_nil)
            (fun _ _ _ _ _ => pe_ix (ix_tupK K) (pv 9) (pv 4) (fun _ _ => rfl))))
          (pss_cons (ps_setLc (i := 8) (own := [("_law_one", 10)]) (g := gName 10) rfl scLeast.nd rfl rfl (sw_true rfl rfl rfl (by decide +kernel)) (pi_range1 rfl T.range (pa_cons (pv 2) pa_nil))
            (blkOk_by (N := nLeast) (sc := defScope sLeast) (by decide +kernel)) (fun _ _ _ _ _ => pg_name (i := 10) scLeast.nd rfl (.inl rfl))
            (fun _ _ _ _ _ => pts_one (PW.pt (pw_and (pt_cmpR (op_notInK K) (pv 10) (pv 6) rfl) (pw_and1 (pt_cmpR (op_eqK K hr.units) (pe_ix (ix_listK K) (pv 5) (pv 10) (fun _ _ => rfl)) (pv 7) (nomark _)))))) (fun _ _ _ _ _ => pv 10))
          (pss_cons (ps_if (pt_cmpR op_eq (pe_callB call_len_seq (by rfl) T.len PySem.boot_len (pa_cons (pv 8) pa_nil)) pe_int (nomark _)) (pss_one ps_break) pss_nil)
          (pss_one (ps_expr (pe_bm PySem.F.plainAttrs_list PySem.F.slot_list_append PySem.F.type_list_append mt_append (pv 6) (pa_cons (pe_ix ix_list (pv 8) pe_int (fun _ _ => rfl)) pa_nil))))))))
        (pss_one (ps_if (pt_cmpR op_eq (pe_callB call_len_seq (by rfl) T.len PySem.boot_len (pa_cons (pv 6) pa_nil)) (pv 2) (nomark _))
          (pss_one (ps_ret (pe_tup (pa_cons (pv 3) (pa_cons (pe_callTy call_tuple_of (by rfl) T.tuple (by decide +kernel) (pa_cons (pv 6) pa_nil)) pa_nil))))) pss_nil))))))
      (pss_one (ps_ret pe_non))), ?_⟩
    obtain ⟨rs, r0, row0, ha, hl, hr0, h0, hl0, _⟩ := hT.first R1 h1
    obtain ⟨ss, hb, hsl, hsow⟩ := id hU
    obtain ⟨rs', ha', hrl, hrow⟩ := id hT
    have ers : rs' = rs := by
      rw [ha] at ha'
      have q : rs.map V.ref = rs'.map V.ref := by
        injection ha' with q
        injection q
      exact (ref_inj q).symm
    subst ers
    have hlen2 : (ss.map V.ref).length = hh := by rw [List.length_map, hsl, R2.hi]
    have lr : (rs'.map V.ref).length = hh := by rw [List.length_map, hl]
    have lr0 : (row0.map fv).length = ww := by rw [List.length_map, hl0]
    -- wide
    refine ⟨_, rfl, a, _, 0, .ref r0, rfl, rfl, SqT.of ha, atI_nat (j := 0) (map_at hr0), r0, _, rfl, .inr (SqT.of h0), ?_⟩
    rw [lr0]
    refine ⟨_, rfl, a, _, rfl, .inr (SqT.of ha), hh, by rw [lr]; rfl, h6, fun H0 l s0 o0 => ?_⟩
    obtain ⟨as, el, la, qa⟩ := id o0
    refine ⟨l, rfl, ⟨_, SqL.of el⟩, for_list (K := K) (a := l) (xs := as.map V.ref) (fun i σ H' => ∃ v3 v4 v5 v6 v7 v8, σ = [some (.ref a), some (.ref b), some (nv ww), v3, v4, v5, v6, v7, v8, none, none] ∧ Same H0 H' ∧ ∀ (j : Nat) x, j < i → (build (alls hh))[j]? = some x → ∀ y, ¬ Valid hh ww tb ub x y)
      ⟨none, none, none, none, none, none, rfl, Same.refl H0, fun j x hj => absurd hj (Nat.not_lt_zero j)⟩ ?_ ?_ ?_⟩
    · rintro i σ H' _ ⟨_, _, _, _, _, _, _, s2, _⟩
      exact SqL.of (s2 _ _ el)
    · rintro i x σ Hs hx ⟨v3, v4, v5, v6, v7, v8, rfl, ss0, no⟩
      obtain ⟨t, ht, rfl⟩ := at_map hx
      obtain ⟨ord, hord⟩ : ∃ o, (build (alls hh))[i]? = some o := ⟨_, List.getElem?_eq_getElem (by rw [← la]; exact lt_of_at ht)⟩
      have oo : IsOrd hh ord := mem_alls.mp (List.mem_of_getElem? hord)
      have ho : ∀ r ∈ ord, r < hh := oo.lt
      have lo : ord.length = hh := oo.len
      have sA : Same H Hs := Same.trans s0 ss0
      have hO : OrdAt Hs t ord := ss0 _ _ (qa i t ord ht hord)
      have aA := sA _ _ ha
      have bA := sA _ _ hb
      -- mine
      refine ⟨_, rfl, (ww : Int), rfl, by omega, by omega, fun D hD => ?_⟩
      refine lc_range (lo := 0) (n := ww) (fun j H' => Same Hs H' ∧ ColsAt H' D tb ord j) ⟨same_upd hD, ColsAt.nil⟩ ?_ ?_
      · rintro j H1 hj ⟨s1, c1⟩
        refine ⟨rfl, _, rfl, t, rfl, ⟨_, SqT.of (s1 _ _ hO)⟩, fun D2 hD2 => ?_⟩
        have nD : D2 ≠ D := fun z => by
          obtain ⟨_, ed, _⟩ := c1
          rw [z, ed] at hD2
          cases hD2
        refine lc_tup (K := K) (a := t) (xs := ord.map nv) (fun i H' => Same H1 H' ∧ H' D2 = some (.lst (((ord.take i).map fun r => ent tb r j).map fv))) ⟨same_upd hD2, by rw [upd_same]; rfl⟩ (fun i H' _ p => SqT.of (p.1 _ _ (s1 _ _ hO))) ?_ ?_
        · rintro e x H2 hx ⟨s2, d2⟩
          obtain ⟨r, hr', rfl⟩ := at_map hx
          have s12 : Same Hs H2 := Same.trans s1 s2
          have rh : r < hh := ho r (List.mem_of_getElem? hr')
          obtain ⟨row, er, ex⟩ := R1.ent rh hj
          obtain ⟨ra, era⟩ : ∃ ra, rs'[r]? = some ra := ⟨rs'[r]'(by rw [hl]; exact rh), List.getElem?_eq_getElem _⟩
          have hR : H ra = some (.tup (row.map fv)) := hrow r ra row era er
          refine ⟨rfl, _, rfl, _, rfl, a, rs'.map V.ref, _, .ref ra, rfl, rfl, SqT.of (s12 _ _ aA), atI_nat (map_at era), _, rfl, ra, row.map fv, _, fv (ent tb r j), rfl, rfl, SqT.of (s12 _ _ (sA _ _ hR)), by rw [Int.zero_add]; exact atI_nat (map_at ex), ?_⟩
          refine ⟨_, d2, ?_, Same.into hD2 s2, ?_⟩
          · refine small1000 ?_
            rw [List.length_map, List.length_map, List.length_take]
            omega
          · rw [upd_same, ← map_take_succ hr', List.map_append]
            rfl
        · rintro H2 ⟨s2, d2⟩
          have et : (ord.take (ord.map nv).length).map (fun r => ent tb r j) = colT tb ord j := by rw [List.length_map, List.take_length]; rfl
          rw [et] at d2
          obtain ⟨acc, ea, la, cn⟩ := (c1.same s2).push d2 nD
          exact ⟨acc, ea, small1000 (by omega), Same.into hD (Same.trans s1 s2), cn⟩
      · rintro H1 ⟨s1, c1⟩
        -- second
        refine ⟨Nat.zero_le _, fun L hL => ?_⟩
        generalize hds : (List.range ww).map (dueC ub) = ds
        generalize hgr : greedy ww (colT tb ord) [] ds = gr
        refine ⟨fun σ' H' => ∃ v4 v7 v8 used, σ' = [some (.ref a), some (.ref b), some (nv ww), some (.ref t), v4, some (.ref D), some (.ref L), v7, v8, none, none] ∧ Same H1 H' ∧ H' L = some (.lst (used.map nv)) ∧ ((used.length = ww ∧ gr = some used) ∨ (used.length < ww ∧ gr = none)), ?_, ?_⟩
        · refine ⟨_, rfl, (ww : Int), rfl, by omega, by omega,
            for_range (lo := 0) (n := ww) (fun i σ H' => ∃ v4 v7 v8 used, σ = [some (.ref a), some (.ref b), some (nv ww), some (.ref t), v4, some (.ref D), some (.ref L), v7, v8, none, none] ∧ Same H1 H' ∧ H' L = some (.lst (used.map nv)) ∧ used.length = i ∧ gr = (greedy ww (colT tb ord) used (ds.drop i)).map (used ++ ·))
            ⟨v4, v7, v8, [], rfl, same_upd hL, upd_same, rfl, by rw [List.drop_zero, hgr]; simp⟩ ?_ ?_⟩
          · rintro e σ H2 hi ⟨v4, v7, v8, used, rfl, s2, eL, lu, eg⟩
            have s12 : Same Hs H2 := Same.trans s1 s2
            have hdi : ds.drop e = dueC ub e :: ds.drop (e + 1) := by
              have hl : e < ds.length := by
                rw [← hds, List.length_map, List.length_range]
                exact hi
              rw [List.drop_eq_getElem_cons hl]
              congr 1
              have q1 : ds[e]? = some (dueC ub e) := by
                rw [← hds, List.getElem?_map, List.getElem?_range hi]
                rfl
              exact (List.getElem?_eq_some_iff.mp q1).2
            rw [hdi] at eg
            -- due_here
            refine ⟨_, rfl, b, rfl, ⟨_, SqT.of (s12 _ _ bA)⟩, fun D6 hD6 => ?_⟩
            refine lc_tup (K := K) (a := b) (xs := ss.map V.ref) (fun j H' => Same H2 H' ∧ H' D6 = some (.lst (((ub.take j).map fun row => (row[e]?).getD default).map fv))) ⟨same_upd hD6, by rw [upd_same]; rfl⟩ (fun j H' _ p => SqT.of (p.1 _ _ (s12 _ _ bA))) ?_ ?_
            · rintro j x H3 hx ⟨s3, d3⟩
              obtain ⟨sa, hs', rfl⟩ := at_map hx
              have hj : j < hh := by
                rw [← hlen2, List.length_map]
                exact lt_of_at hs'
              obtain ⟨row, er, ex⟩ := R2.ent hj hi
              have hR : H sa = some (.tup (row.map fv)) := hsow j sa row hs' er
              refine ⟨rfl, _, rfl, _, rfl, sa, row.map fv, _, fv (ent ub j e), rfl, rfl, SqT.of (s3 _ _ (s12 _ _ (sA _ _ hR))), by rw [Int.zero_add]; exact atI_nat (map_at ex), ?_⟩
              refine ⟨_, d3, ?_, Same.into hD6 s3, ?_⟩
              · refine small1000 ?_
                rw [List.length_map, List.length_map, List.length_take]
                omega
              · rw [upd_same, ← map_take_succ er, List.map_append, ex]
                rfl
            · rintro H3 ⟨s3, d3⟩
              have et : (ub.take (ss.map V.ref).length).map (fun row => (row[e]?).getD default) = dueC ub e := by
                rw [hlen2, ← R2.hi, List.take_length]
                rfl
              rw [et] at d3
              obtain ⟨ms, em, lm, qm⟩ := (c1.same s2).same s3
              -- left
              refine ⟨_, rfl, (ww : Int), rfl, by omega, by omega, fun D7 hD7 => ?_⟩
              refine lc_range (lo := 0) (n := ww) (fun c H' => Same H3 H' ∧ H' D7 = some (.lst ((((List.range ww).take c).filter fun c => !used.contains c && decide (colT tb ord c = dueC ub e)).map nv))) ⟨same_upd hD7, by rw [upd_same]; rfl⟩ ?_ ?_
              · rintro c H4 hc ⟨s4, d4⟩
                have fl := filter_take_succ (p := fun c => !used.contains c && decide (colT tb ord c = dueC ub e)) (xs := List.range ww) (i := c) (r := c) (List.getElem?_range hc)
                have yes : (!used.contains c && decide (colT tb ord c = dueC ub e)) = true → ∃ acc, H4 D7 = some (.lst acc) ∧ acc.length < sizeLine ∧ Same H3 (upd H4 D7 (.lst (acc ++ [V.int (0 + (c : Int))]))) ∧
                    (upd H4 D7 (.lst (acc ++ [V.int (0 + (c : Int))]))) D7 = some (.lst ((((List.range ww).take (c + 1)).filter fun c => !used.contains c && decide (colT tb ord c = dueC ub e)).map nv)) := fun hy => by
                  refine ⟨_, d4, ?_, Same.into hD7 s4, ?_⟩
                  · refine small1000 ?_
                    rw [List.length_map]
                    refine Nat.le_trans (List.length_filter_le _ _) ?_
                    rw [List.length_take]
                    omega
                  · rw [upd_same, fl, hy, if_pos rfl, z0, List.map_append]
                    rfl
                have no : (!used.contains c && decide (colT tb ord c = dueC ub e)) = false → Same H3 H4 ∧ H4 D7 = some (.lst ((((List.range ww).take (c + 1)).filter fun c => !used.contains c && decide (colT tb ord c = dueC ub e)).map nv)) := fun hn => by
                  refine ⟨s4, ?_⟩
                  rw [d4, fl, hn, if_neg Bool.false_ne_true, List.append_nil]
                refine ⟨rfl, _, rfl, _, rfl, L, used.map nv, rfl, .inl (SqL.of (s4 _ _ (s3 _ _ eL))), rfl, flat_nv used, _, rfl, ?_⟩
                have en : (if true = true then !inV (V.int (0 + (c : Int))) (used.map nv) else inV (V.int (0 + (c : Int))) (used.map nv)) = !used.contains c := by rw [if_pos rfl, z0, in_nv]
                rw [en]
                cases hu : used.contains c with
                | true =>
                  refine iteF ?_
                  exact iteF (no (by rw [hu]; rfl))
                | false =>
                  refine iteT ?_
                  obtain ⟨m, hm⟩ : ∃ m, ms[c]? = some m := ⟨ms[c]'(by rw [lm]; exact hc), List.getElem?_eq_getElem _⟩
                  obtain ⟨_, em2⟩ := qm c m hm
                  refine ⟨_, rfl, _, rfl, D, ms.map V.ref, _, .ref m, rfl, rfl, SqL.of (s4 _ _ em), by rw [Int.zero_add]; exact atI_nat (map_at hm), _, rfl,
                    .list ((colT tb ord c).map fmD), .list ((dueC ub e).map fmD), dp_col (s4 _ _ em2), dp_col (s4 _ _ d3), (small_col (colT_fine R1 E1 ho hc)).shaped (by decide), (small_col (dueC_fine R2 E2 hi)).shaped (by decide), _, rfl, ?_⟩
                  rw [eqv_col]
                  by_cases hq : colT tb ord c = dueC ub e
                  · rw [decide_eq_true hq]
                    exact iteT ⟨_, rfl, yes (by rw [hu, decide_eq_true hq]; rfl)⟩
                  · rw [decide_eq_false hq]
                    exact iteF (no (by rw [hu, decide_eq_false hq]; rfl))
              · rintro H4 ⟨s4, d4⟩
                rw [range_take] at d4
                have s24 : Same H2 H4 := Same.trans s3 s4
                -- if len(left) == 0
                cases hg : (List.range ww).filter (fun c => !used.contains c && decide (colT tb ord c = dueC ub e)) with
                | nil =>
                  rw [hg] at d4
                  refine ⟨_, rfl, D7, [], rfl, .inl (SqL.of d4), rfl, _, rfl, iteT ?_⟩
                  rw [greedy_stop (by rw [hg]; rfl)] at eg
                  exact ⟨_, _, _, used, rfl, Same.trans s2 s24, s24 _ _ eL, .inr ⟨by omega, eg⟩⟩
                | cons g gs =>
                  rw [hg] at d4
                  refine ⟨_, rfl, D7, _, rfl, .inl (SqL.of d4), rfl, _, rfl, ?_⟩
                  have ng : decide (V.int (((g :: gs).map nv).length : Int) = V.int 0) = false := by
                    refine decide_eq_false fun z => ?_
                    have z2 := V.int.inj z
                    rw [List.map_cons, List.length_cons] at z2
                    omega
                  rw [ng]
                  refine iteF ?_
                  have eL4 : H4 L = some (.lst (used.map nv)) := s24 _ _ eL
                  refine ⟨_, rfl, .inl ⟨rfl, _, SqL.of eL4⟩, _, rfl, D7, (g :: gs).map nv, 0, nv g, rfl, rfl, SqL.of d4, atI_nat (j := 0) rfl, L, _, _, rfl, rfl, eL4, ?_, ?_⟩
                  · rw [List.length_map, lu]
                    exact small1000 (by omega)
                  · rw [greedy_turn (c := g) (by rw [hg]; rfl)] at eg
                    refine ⟨_, _, _, used ++ [g], rfl, fun b o e => ?_, ?_, ?_, ?_⟩
                    · rw [upd_ne (ne_of_none e hL)]
                      exact Same.trans s2 s24 b o e
                    · rw [upd_same, List.map_append]
                      rfl
                    · rw [List.length_append, lu]
                      rfl
                    · rw [eg, Option.map_map]
                      congr 1
                      funext x
                      simp
          · rintro σ H2 ⟨v4, v7, v8, used, rfl, s2, eL, lu, eg⟩
            have hd : ds.drop ww = [] := by
              rw [List.drop_eq_nil_iff, ← hds, List.length_map, List.length_range]
              exact Nat.le_refl _
            rw [hd] at eg
            have eg2 : gr = some used := by
              rw [eg]
              show some (used ++ []) = some used
              rw [List.append_nil]
            exact ⟨_, _, _, used, rfl, s2, eL, .inl ⟨lu, eg2⟩⟩
        · rintro σ H2 ⟨v4, v7, v8, used, rfl, s2, eL, how⟩
          have s02 : Same H0 H2 := Same.trans ss0 (Same.trans s1 s2)
          refine ⟨_, rfl, L, _, rfl, .inl (SqL.of eL), _, rfl, rfl, _, rfl, ?_⟩
          rw [List.length_map]
          rcases how with ⟨lu, eg⟩ | ⟨lu, eg⟩
          · rw [lu]
            have yes : decide (V.int ((ww : Nat) : Int) = nv ww) = true := decide_eq_true rfl
            rw [yes]
            refine iteT ⟨_, rfl, _, rfl, L, _, rfl, .inl ⟨SqL.of eL, fun q hq => ⟨by show 2 ≤ sizeLine; decide, fun z hz => ?_⟩⟩⟩
            rw [← hgr, ← hds] at eg
            obtain ⟨v, hv⟩ := greedy_some (T := tb) R2 oo eg
            have sQ : Same H2 (upd H2 q (.tup (used.map nv))) := same_upd hq
            refine k _ _ (some (ord, used)) (Same.trans (Same.trans s0 s02) (Same.trans sQ (same_upd hz))) (least_some (alls_sorted hh) (fun _ _ => valid_alls) hord no v hv) ⟨z, rfl, t, q, upd_same, ?_, ?_⟩
            · exact same_upd hz _ _ (sQ _ _ (s2 _ _ (s1 _ _ hO)))
            · exact same_upd hz _ _ upd_same
          · have no2 : decide (V.int ((used.length : Nat) : Int) = nv ww) = false := decide_eq_false fun z => by
              have z2 : (used.length : Int) = (ww : Int) := V.int.inj z
              omega
            rw [no2]
            refine iteF ⟨_, _, _, _, _, _, rfl, s02, fun j x hj hjx => ?_⟩
            by_cases hji : j = i
            · subst hji
              rw [hord] at hjx
              cases hjx
              rw [← hgr, ← hds] at eg
              exact greedy_none R2 oo eg
            · exact no j x (by omega) hjx
    · rintro σ H2 ⟨_, _, _, _, _, _, rfl, s2, no⟩
      refine k H2 _ none (Same.trans s0 s2) (least_none (fun _ _ => valid_alls) fun j x hx => no j x ?_ hx) rfl
      rw [List.length_map, la]
      exact lt_of_at hx
end
end K56

namespace K56
open PySem PySem.Spec PyProof.Rows L2
abbrev sPut : Stmt := top 32
/-! ### one box changed -/
def putR (row : List Form) (q : Nat) (x : Form) : List Form := row.take q ++ ([x] ++ row.drop (q + 1))
def putT (T : Tab) (p q : Nat) (x : Form) : Tab := T.take p ++ ([putR ((T[p]?).getD []) q x] ++ T.drop (p + 1))
theorem at_put {α : Type} {l : List α} {p i : Nat} (y : α) (hp : p < l.length) : (l.take p ++ ([y] ++ l.drop (p + 1)))[i]? = if i = p then some y else l[i]? := by
  by_cases h1 : i < p
  · rw [List.getElem?_append_left (by rw [List.length_take]; omega), List.getElem?_take, if_pos h1, if_neg (by omega)]
  · rw [List.getElem?_append_right (by rw [List.length_take]; omega), List.length_take, Nat.min_eq_left (by omega)]
    by_cases h2 : i = p
    · subst h2
      rw [if_pos rfl, Nat.sub_self]
      rfl
    · rw [if_neg h2, List.getElem?_append_right (by rw [List.length_singleton]; omega), List.getElem?_drop]
      congr 1
      rw [List.length_singleton]
      omega
theorem len_put {α : Type} {l : List α} {p : Nat} (y : α) (hp : p < l.length) : (l.take p ++ ([y] ++ l.drop (p + 1))).length = l.length := by
  rw [List.length_append, List.length_append, List.length_take, List.length_drop, List.length_singleton]
  omega
theorem mem_put {α : Type} {l : List α} {p : Nat} {y z : α} (h : z ∈ l.take p ++ ([y] ++ l.drop (p + 1))) : z = y ∨ z ∈ l := by
  rcases List.mem_append.mp h with h | h
  · exact .inr (List.mem_of_mem_take h)
  · rcases List.mem_append.mp h with h | h
    · exact .inl (List.mem_singleton.mp h)
    · exact .inr (List.mem_of_mem_drop h)
theorem putT_rect {T : Tab} {h w p q : Nat} {x : Form} (R : Rect T h w) (hp : p < h) (hq : q < w) : Rect (putT T p q x) h w := by
  obtain ⟨row, er, hl⟩ := R.row hp
  have lp : p < T.length := by rw [R.hi]; exact hp
  refine ⟨(len_put _ lp).trans R.hi, fun r hr => ?_⟩
  rcases mem_put hr with rfl | hr
  · rw [er]
    show (putR row q x).length = w
    exact (len_put _ (by rw [hl]; exact hq)).trans hl
  · exact R.wd r hr
theorem putT_ents {T : Tab} {h w m p q : Nat} {x : Form} (R : Rect T h w) (E : Ents m T) (hp : p < h) (hx : Fine m x) : Ents m (putT T p q x) := by
  obtain ⟨row, er, hl⟩ := R.row hp
  intro r hr u hu
  rcases mem_put hr with rfl | hr
  · rw [er] at hu
    rcases mem_put (show u ∈ row.take q ++ ([x] ++ row.drop (q + 1)) from hu) with rfl | hu
    · exact hx
    · exact E row (List.mem_of_getElem? er) u hu
  · exact E r hr u hu
theorem putT_ent {T : Tab} {h w p q : Nat} {x : Form} (R : Rect T h w) (hp : p < h) (hq : q < w) : ent (putT T p q x) p q = x := by
  obtain ⟨row, er, hl⟩ := R.row hp
  have lp : p < T.length := by rw [R.hi]; exact hp
  refine ent_of (row := putR row q x) ?_ ?_
  · unfold putT
    rw [at_put _ lp, if_pos rfl, er]
    rfl
  · unfold putR
    rw [at_put _ (by rw [hl]; exact hq), if_pos rfl]
/-! ### slices and sums of tuples -/
theorem sl_take {K : PySem.W.Frag} {H : Hp} {a : Addr} {xs : List V} {p : Nat} {Q : VK} (ha : H a = some (.tup xs)) (h : ∀ c H', Same H H' → H' c = some (.tup (xs.take p)) → Q (.ref c) H') : rSlA K (.ref a) none (some (p : Int)) H Q := by
  have e : cutV xs none (some (p : Int)) = xs.take p := by
    unfold cutV
    rw [HT.sIx_none, HT.sIx_nat, List.drop_zero, Nat.sub_zero, List.take_eq_take_iff]
    omega
  refine ⟨a, xs, rfl, SqT.of ha, fun z => h a H (Same.refl H) ?_, fun _ c hc => h c _ (same_upd hc) ?_⟩
  · have z2 := z.2
    rw [HT.sIx_nat] at z2
    rw [List.take_of_length_le (by omega)]
    exact ha
  · rw [upd_same, e]
theorem sl_drop {K : PySem.W.Frag} {H : Hp} {a : Addr} {xs : List V} {p : Nat} {Q : VK} (ha : H a = some (.tup xs)) (h : ∀ c H', Same H H' → H' c = some (.tup (xs.drop p)) → Q (.ref c) H') : rSlA K (.ref a) (some (p : Int)) none H Q := by
  have e : cutV xs (some (p : Int)) none = xs.drop p := by
    unfold cutV
    rw [HT.sIx_none, HT.sIx_nat]
    by_cases hp : p ≤ xs.length
    · rw [Nat.min_eq_left hp, List.take_of_length_le]
      rw [List.length_drop]
      exact Nat.le_refl _
    · rw [Nat.min_eq_right (by omega), Nat.sub_self, List.take_zero, List.drop_eq_nil_of_le (by omega)]
  refine ⟨a, xs, rfl, SqT.of ha, fun z => h a H (Same.refl H) ?_, fun _ c hc => h c _ (same_upd hc) ?_⟩
  · have z1 := z.1
    rw [HT.sIx_nat] at z1
    rcases Nat.eq_zero_or_pos p with q | q
    · rw [q, List.drop_zero]
      exact ha
    · have q2 : xs = [] := List.length_eq_zero_iff.mp (by omega)
      subst q2
      rw [List.drop_nil]
      exact ha
  · rw [upd_same, e]
theorem sl_dropN {σ : L2.St} {K : PySem.W.Frag} {H : Hp} {a : Addr} {xs : List V} {p : Nat} {Q : VK} (ha : H a = some (.tup xs)) (h : ∀ c H', Same H H' → H' c = some (.tup (xs.drop p)) → Q (.ref c) H') : tNoPart σ H fun u H3 => rSlA K (.ref a) (some (p : Int)) u H3 Q := sl_drop ha h
theorem cat_two {K : PySem.W.Frag} {H : Hp} {a b : Addr} {xs ys : List V} {Q : VK} (ha : H a = some (.tup xs)) (hb : H b = some (.tup ys)) (hl : xs.length + ys.length ≤ 1000) (h : ∀ c H', Same H H' → H' c = some (.tup (xs ++ ys)) → Q (.ref c) H') : rCatA K (.ref a) (.ref b) H Q := by
  refine ⟨a, b, xs, ys, rfl, rfl, SqT.of ha, SqT.of hb, Nat.le_trans hl (by decide), fun e => h b H (Same.refl H) ?_, fun _ e => h a H (Same.refl H) ?_, fun _ _ p hp => h p _ (same_upd hp) upd_same⟩
  · rw [e, List.nil_append]
    exact hb
  · rw [e, List.append_nil]
    exact ha
section
variable {P : Program} {w : World} {K : PySem.W.Frag} {mg : Str → Option Value} {base : Heap}
def spPut : Sp := fun vs H Q _ => ∃ (a : Addr) (T : Tab) (h w p q : Nat) (x : Form), vs = [.ref a, nv p, nv q, fv x] ∧ TabAt H a T ∧ Rect T h w ∧ p < h ∧ q < w ∧ h ≤ 12 ∧ w ≤ 12 ∧ ∀ H' b, Same H H' → TabAt H' b (putT T p q x) → Q (.ref b) H'
theorem scPut : FnScope ["_law_rows", "_law_at", "_law_place", "_law_form"] ["_law_rows", "_law_at", "_law_place", "_law_form"] (defScope sPut) := ⟨rfl, rfl, rfl, by decide +kernel, rfl, by decide +kernel, by decide +kernel⟩
theorem ok_put {f : Addr} {fd : FuncData} (F : Fun K "_law_put" "_law_put" sPut f fd) : FnOk P w K mg base CX0 1 f fd ["_law_rows", "_law_at", "_law_place", "_law_form"] spPut := by
  refine F.ok scPut (fun vs H Q E h => ?_) (fun cdv A outer s H vs Q E hr h => ?_)
  · obtain ⟨a, _, _, _, p, q, x, rfl, _⟩ := h
    rfl
  · obtain ⟨a, tb, hh, ww, p, q, x, rfl, hT, R, hp, hq, h12, w12, k⟩ := h
    obtain ⟨rs, ha, hrl, hrow⟩ := id hT
    refine ⟨_, pss_one (ps_ret (pe_op op_catA (pe_op op_catA (pe_slice sl_tupA (pv 0) po_none (po_some (pv 1)))
      (pe_tup (pa_cons (pe_op op_catA (pe_op op_catA (pe_slice sl_tupA (pe_ix ix_tup (pv 0) (pv 1) (fun _ _ => rfl)) po_none (po_some (pv 2))) (pe_tup (pa_cons (pv 3) pa_nil)))
        (pe_slice sl_tupA (pe_ix ix_tup (pv 0) (pv 1) (fun _ _ => rfl)) (po_some (pe_op op_add (pv 2) pe_int)) po_none)) pa_nil)))
      (pe_slice sl_tupA (pv 0) (po_some (pe_op op_add (pv 1) pe_int)) po_none))), ?_⟩
    obtain ⟨row, er, hl⟩ := R.row hp
    obtain ⟨r, err⟩ : ∃ r, rs[p]? = some r := ⟨rs[p]'(by rw [hrl, R.hi]; exact hp), List.getElem?_eq_getElem _⟩
    have hR : H r = some (.tup (row.map fv)) := hrow p r row err er
    have lrs : rs.length = hh := by rw [hrl, R.hi]
    refine ⟨_, rfl, _, rfl, (p : Int), rfl, sl_take ha fun c1 H1 s1 e1 => ?_⟩
    refine ⟨_, rfl, _, rfl, a, _, _, .ref r, rfl, rfl, SqT.of (s1 _ _ ha), atI_nat (map_at err), _, rfl, (q : Int), rfl, sl_take (s1 _ _ hR) fun c2 H2 s2 e2 => ?_⟩
    refine ⟨_, rfl, by show 1 ≤ sizeLine; decide, fun u hu => ?_⟩
    refine cat_two (same_upd hu _ _ e2) upd_same (by rw [List.length_take, List.length_map, List.length_singleton]; omega) fun c3 H3 s3 e3 => ?_
    have s03 : Same H H3 := Same.trans s1 (Same.trans s2 (Same.trans (same_upd hu) s3))
    refine ⟨_, rfl, _, rfl, a, _, _, .ref r, rfl, rfl, SqT.of (s03 _ _ ha), atI_nat (map_at err), ?_⟩
    refine ⟨_, rfl, _, _, rfl, rfl, ((q + 1 : Nat) : Int), rfl, sl_dropN (s03 _ _ hR) fun c4 H4 s4 e4 => ?_⟩
    have l3 : (((row.map fv).take q) ++ [fv x]).length + ((row.map fv).drop (q + 1)).length ≤ 1000 := by
      rw [List.length_append, List.length_take, List.length_drop, List.length_map, List.length_singleton]
      omega
    refine cat_two (s4 _ _ e3) e4 l3 fun c5 H5 s5 e5 => ?_
    have e5' : H5 c5 = some (.tup ((putR row q x).map fv)) := by
      rw [e5]
      unfold putR
      rw [List.map_append, List.map_append, List.map_take, List.map_drop, List.append_assoc]
      rfl
    -- (the new row,)
    refine ⟨by show 1 ≤ sizeLine; decide, fun v hv => ?_⟩
    have s15 : Same H1 (upd H5 v (.tup [.ref c5])) := Same.trans s2 (Same.trans (same_upd hu) (Same.trans s3 (Same.trans s4 (Same.trans s5 (same_upd hv)))))
    have e6 : (upd H5 v (.tup [.ref c5])) c5 = some (.tup ((putR row q x).map fv)) := same_upd hv _ _ e5'
    refine cat_two (s15 _ _ e1) upd_same (by rw [List.length_take, List.length_map, List.length_singleton]; omega) fun c7 H7 s7 e7 => ?_
    have s17 : Same H1 H7 := Same.trans s15 s7
    refine ⟨_, rfl, _, rfl, _, _, rfl, rfl, ((p + 1 : Nat) : Int), rfl, sl_dropN (s17 _ _ (s1 _ _ ha)) fun c8 H8 s8 e8 => ?_⟩
    refine cat_two (s8 _ _ e7) e8 (by rw [List.length_append, List.length_take, List.length_drop, List.length_map, List.length_singleton]; omega) fun c9 H9 s9 e9 => ?_
    have s79 : Same H7 H9 := Same.trans s8 s9
    refine k H9 c9 (Same.trans s1 (Same.trans s17 s79)) ⟨rs.take p ++ ([c5] ++ rs.drop (p + 1)), ?_, ?_, fun i r' row' q1 q2 => ?_⟩
    · rw [e9, List.map_append, List.map_append, List.map_take, List.map_drop, List.append_assoc]
      rfl
    · exact (len_put _ (by rw [lrs]; exact hp)).trans (hrl.trans (len_put _ (by rw [R.hi]; exact hp)).symm)
    · unfold putT at q2
      rw [at_put _ (by rw [lrs]; exact hp)] at q1
      rw [at_put _ (by rw [R.hi]; exact hp)] at q2
      by_cases hi : i = p
      · rw [if_pos hi] at q1 q2
        cases q1
        rw [er] at q2
        cases q2
        exact s79 _ _ (s7 _ _ e6)
      · rw [if_neg hi] at q1 q2
        exact s79 _ _ (s17 _ _ (s1 _ _ (hrow i r' row' q1 q2)))
end
end K56

namespace K56
open PySem PySem.Spec PyProof.Rows L2
abbrev sBent : Stmt := top 33
def ifBody : Stmt → List Stmt
  | .If _ b _ _ => b
  | _ => []
abbrev nBent : List Str := ["_law_hand_here", "_law_rows", "_law_kind", "_law_at", "_law_place", "_law_to", "_law_there", "_law_column", "_law_row"]
abbrev turnLc : Expr := arg0 (asgValue ((ifBody ((defBody sBent).getD 5 (.Pass ⟨0, 0, 0, 0⟩))).getD 0 (.Pass ⟨0, 0, 0, 0⟩)))
/-- rows and columns exchanged -/
def trT (T : Tab) (w : Nat) : Tab := (List.range w).map (dueC T)
theorem trT_rect {T : Tab} {h w : Nat} (R : Rect T h w) : Rect (trT T w) w h := by
  refine ⟨by unfold trT; rw [List.length_map, List.length_range], fun row hr => ?_⟩
  obtain ⟨j, _, rfl⟩ := List.mem_map.mp hr
  unfold dueC
  rw [List.length_map, R.hi]
theorem trT_ents {T : Tab} {h w m : Nat} (R : Rect T h w) (E : Ents m T) : Ents m (trT T w) := by
  intro row hr u hu
  obtain ⟨j, hj, rfl⟩ := List.mem_map.mp hr
  exact dueC_fine R E (List.mem_range.mp hj) u hu
/-- a box of a table that stands -/
theorem TabAt.box {H : Hp} {a : Addr} {T : Tab} {h w p q : Nat} (t : TabAt H a T) (R : Rect T h w) (hp : p < h) (hq : q < w) : ∃ (rs : List Addr) (r : Addr) (row : List Form), H a = some (.tup (rs.map V.ref)) ∧ rs[p]? = some r ∧ H r = some (.tup (row.map fv)) ∧ row[q]? = some (ent T p q) := by
  obtain ⟨rs, ha, hl, hr⟩ := t
  obtain ⟨row, er, ex⟩ := R.ent hp hq
  have h0 : rs[p]? = some (rs[p]'(by rw [hl, R.hi]; exact hp)) := List.getElem?_eq_getElem _
  exact ⟨rs, _, row, ha, h0, hr p _ row h0 er, ex⟩
section
variable {P : Program} {w : World} {K : PySem.W.Frag} {mg : Str → Option Value} {base : Heap}
theorem ix_box {K : PySem.W.Frag} {X : Cx} {a i j : Expr} {ta ti tj : TE} {pos pos' : Pos} (hK : X.K = K) (ha : PE X a ta) (hi : PE X i ti) (hj : PE X j tj) (h1 : PlainIx i) (h2 : PlainIx j) :
    PE X (.Subscript (.Subscript a i pos) j pos') (tOp (rIxT K) (tOp (rIxT K) ta ti) tj) := by
  subst hK
  exact pe_ix ix_tup (pe_ix ix_tup ha hi h1) hj h2
def spBent : Sp := fun vs H Q _ => ∃ (d c a : Addr) (T : Tab) (h w : Nat) (kind : Int), vs = [.ref d, .ref a, .int kind] ∧ HandAt H d c ∧ TabAt H a T ∧ Rect T h w ∧ Ents 4 T ∧ 1 ≤ h ∧ h ≤ 6 ∧ 1 ≤ w ∧ w ≤ 6 ∧
  ∀ H' b U h' w', TabAt H' b U → Rect U h' w' → Ents 4 U → 1 ≤ h' → h' ≤ 6 → 1 ≤ w' → w' ≤ 6 → HandAt H' d c → Keep d H H' → Q (.ref b) H'
theorem scBent : FnScope nBent ["_law_hand_here", "_law_rows", "_law_kind"] (defScope sBent) := ⟨rfl, rfl, rfl, by decide +kernel, rfl, by decide +kernel, by decide +kernel⟩
theorem ok_bent {f fD fP fS fB : Addr} {fd fdD fdP fdS fdB : FuncData} (F : Fun K "_law_bent" "_law_bent" sBent f fd) (T : Txt K mg) (D : Drw P w K mg base fD fdD)
    (PT : Fn1 P w K mg base 1 "_law_put" sPut ["_law_rows", "_law_at", "_law_place", "_law_form"] spPut fP fdP) (SM : Fn1 P w K mg base 2 "_law_some" sSome ["_law_hand_here", "_law_things"] spSome fS fdS)
    (BX : Fn1 P w K mg base 3 "_law_boxes" sBoxes ["_law_hand_here", "_law_high", "_law_wide"] spBoxes fB fdB) :
    FnOk P w K mg base CX0 4 f fd ["_law_hand_here", "_law_rows", "_law_kind"] spBent := by
  obtain ⟨FD, GD, bD, gD⟩ := D
  obtain ⟨FP, GP, bP, gP⟩ := PT
  obtain ⟨FS, GS, bS, gS⟩ := SM
  obtain ⟨FB, GB, bB, gB⟩ := BX
  refine F.ok scBent (fun vs H Q E h => ?_) (fun cdv A outer s H vs Q E hr h => ?_)
  · obtain ⟨d, c, a, _, _, _, kind, rfl, _⟩ := h
    rfl
  · obtain ⟨d, c, a, tb, hh, ww, kind, rfl, hH, hT, R, E4, h1, h6, w1, w6, k⟩ := h
    have hr1 : Room 1 _ := hr.mono (by decide)
    have hr2 : Room 2 _ := hr.mono (by decide)
    refine ⟨_, pss_cons (ps_par (i := 3) (j := 4) rfl scBent.nd rfl rfl (by decide) rfl rfl (pa_cons (pe_call GD hr1 (by rfl) gD FD.kp bD .nil pass0 (pa_cons (pv 0) (pa_cons (pe_callB call_len_seq (by rfl) T.len PySem.boot_len (pa_cons (pv 1) pa_nil)) pa_nil)))
        (pa_cons (pe_call GD hr1 (by rfl) gD FD.kp bD .nil pass0 (pa_cons (pv 0) (pa_cons (pe_callB call_len_seq (by rfl) T.len PySem.boot_len (pa_cons (pe_ix ix_tup (pv 1) pe_int (fun _ _ => rfl)) pa_nil)) pa_nil))) pa_nil)) (by rfl))
      (pss_cons (ps_par (i := 5) (j := 6) rfl scBent.nd rfl rfl (by decide) rfl rfl (pa_cons (pe_call GD hr1 (by rfl) gD FD.kp bD .nil pass0 (pa_cons (pv 0) (pa_cons (pe_callB call_len_seq (by rfl) T.len PySem.boot_len (pa_cons (pv 1) pa_nil)) pa_nil)))
        (pa_cons (pe_call GD hr1 (by rfl) gD FD.kp bD .nil pass0 (pa_cons (pv 0) (pa_cons (pe_callB call_len_seq (by rfl) T.len PySem.boot_len (pa_cons (pe_ix ix_tup (pv 1) pe_int (fun _ _ => rfl)) pa_nil)) pa_nil))) pa_nil)) (by rfl))
      (pss_cons (ps_if (pt_cmpR op_eq (pv 2) pe_int (nomark _)) (pss_one (ps_ret (pe_call GP hr1 (by rfl) gP FP.kp bP .nil pass0 (pa_cons (pv 1) (pa_cons (pv 3) (pa_cons (pv 4) (pa_cons
          (pe_call GS hr2 (by rfl) gS FS.kp bS .nil pass0 (pa_cons (pv 0) (pa_cons (pe_lst (pa_cons pe_non (pa_cons pe_str (pa_cons pe_str (pa_cons (ix_box rfl (pv 1) (pv 5) (pv 6) (fun _ _ => rfl) (fun _ _ => rfl)) pa_nil))))) pa_nil))) pa_nil))))))) pss_nil)
      (pss_cons (ps_if (pt_cmpR op_eq (pv 2) pe_int (nomark _)) (pss_one (ps_ret (pe_call GP hr1 (by rfl) gP FP.kp bP .nil pass0 (pa_cons
          (pe_call GP hr1 (by rfl) gP FP.kp bP .nil pass0 (pa_cons (pv 1) (pa_cons (pv 3) (pa_cons (pv 4) (pa_cons (ix_box rfl (pv 1) (pv 5) (pv 6) (fun _ _ => rfl) (fun _ _ => rfl)) pa_nil))))) (pa_cons (pv 5) (pa_cons (pv 6) (pa_cons
          (ix_box rfl (pv 1) (pv 3) (pv 4) (fun _ _ => rfl) (fun _ _ => rfl)) pa_nil))))))) pss_nil)
      (pss_cons (ps_if (pt_cmpR op_eq (pv 2) pe_int (nomark _)) (pss_one (ps_ret (pe_call GB hr (by rfl) gB FB.kp bB .nil pass0 (pa_cons (pv 0) (pa_cons (pe_op op_add pe_int (pe_call GD hr1 (by rfl) gD FD.kp bD .nil pass0 (pa_cons (pv 0) (pa_cons pe_int pa_nil))))
          (pa_cons (pe_op op_add pe_int (pe_call GD hr1 (by rfl) gD FD.kp bD .nil pass0 (pa_cons (pv 0) (pa_cons pe_int pa_nil)))) pa_nil)))))) pss_nil)
      (pss_cons (ps_if (pt_cmpR op_eq (pv 2) pe_int (nomark _)) (pss_one (ps_ret (pe_callTy call_tuple_of (by rfl) T.tuple (by decide +kernel) (pa_cons
          (pe_lc (own := [("_law_column", 7)]) (g := gName 7) (tt := tYes) rfl scBent.nd (pi_range1 rfl T.range (pa_cons (pe_callB call_len_seq (by rfl) T.len PySem.boot_len (pa_cons (pe_ix ix_tup (pv 1) pe_int (fun _ _ => rfl)) pa_nil)) pa_nil))
            (blkOk_by (N := nBent) (sc := defScope sBent) (by decide +kernel)) (fun _ _ _ _ _ => pg_name (i := 7) scBent.nd rfl (.inr rfl)) (fun _ _ _ _ _ => pts_nil)
            (fun _ _ _ _ _ => pe_callTy (call_tupK K) (by rfl) T.tuple (by decide +kernel) (pa_cons (pe_lc (own := [("_law_row", 8)]) (g := gName 8) (tt := tYes) rfl scBent.nd (pi_tupK K (pv 1))
              (blkOk_by (N := nBent) (sc := relS (lcScope turnLc) (defScope sBent)) (by decide +kernel)) (fun _ _ _ _ _ => pg_name (i := 8) scBent.nd rfl (.inl rfl)) (fun _ _ _ _ _ => pts_nil)
              (fun _ _ _ _ _ => pe_ix (ix_tupK K) (pv 8) (pv 7) (fun _ _ => rfl))) pa_nil))) pa_nil)))) pss_nil)
      (pss_one (ps_ret (pv 1)))))))), ?_⟩
    obtain ⟨rs, r0, row0, ha, hl, hr0, h0, hl0, _⟩ := hT.first R h1
    have lr : (rs.map V.ref).length = hh := by rw [List.length_map, hl]
    have lr0 : (row0.map fv).length = ww := by rw [List.length_map, hl0]
    -- the four draws
    refine ⟨_, rfl, _, rfl, a, _, rfl, .inr (SqT.of ha), d, c, _, rfl, by omega, by omega, hH, fun H1 p p0 p1 hH1 k1 => ?_⟩
    have kT1 : KeepT H H1 := k1.keepT hH
    refine ⟨_, rfl, _, rfl, a, _, 0, .ref r0, rfl, rfl, SqT.of (kT1 _ _ ha), atI_nat (j := 0) (map_at hr0), r0, _, rfl, .inr (SqT.of (kT1 _ _ h0)), d, c, _, rfl, by omega, by omega, hH1, fun H2 q q0 q1 hH2 k2 => ?_⟩
    have kT2 : KeepT H H2 := KeepT.trans kT1 (k2.keepT hH1)
    refine ⟨_, _, rfl, ?_⟩
    refine ⟨_, rfl, _, rfl, a, _, rfl, .inr (SqT.of (kT2 _ _ ha)), d, c, _, rfl, by omega, by omega, hH2, fun H3 u u0 u1 hH3 k3 => ?_⟩
    have kT3 : KeepT H H3 := KeepT.trans kT2 (k3.keepT hH2)
    refine ⟨_, rfl, _, rfl, a, _, 0, .ref r0, rfl, rfl, SqT.of (kT3 _ _ ha), atI_nat (j := 0) (map_at hr0), r0, _, rfl, .inr (SqT.of (kT3 _ _ h0)), d, c, _, rfl, by omega, by omega, hH3, fun H4 v v0 v1 hH4 k4 => ?_⟩
    have kT4 : KeepT H H4 := KeepT.trans kT3 (k4.keepT hH3)
    have k04 : Keep d H H4 := Keep.trans k1 (Keep.trans k2 (Keep.trans k3 k4))
    refine ⟨_, _, rfl, ?_⟩
    rw [lr] at p1 u1
    rw [lr0] at q1 v1
    obtain ⟨p, rfl⟩ : ∃ n : Nat, p = (n : Int) := ⟨p.toNat, by omega⟩
    obtain ⟨q, rfl⟩ : ∃ n : Nat, q = (n : Int) := ⟨q.toNat, by omega⟩
    obtain ⟨u, rfl⟩ : ∃ n : Nat, u = (n : Int) := ⟨u.toNat, by omega⟩
    obtain ⟨v, rfl⟩ : ∃ n : Nat, v = (n : Int) := ⟨v.toNat, by omega⟩
    have hp : p < hh := by omega
    have hq : q < ww := by omega
    have hu : u < hh := by omega
    have hv : v < ww := by omega
    have tT4 : TabAt H4 a tb := hT.keep kT4
    obtain ⟨rsU, rU, rowU, aU, eU, bU, xU⟩ := tT4.box R hu hv
    have fU : Fine 4 (ent tb u v) := ents_fine R E4 hu hv
    obtain ⟨rsP, rP, rowP, aP, eP, bP', xP⟩ := tT4.box R hp hq
    have fP : Fine 4 (ent tb p q) := ents_fine R E4 hp hq
    refine ⟨_, rfl, rfl, _, rfl, ite2 (fun _ => ?_) fun _ => ?_⟩
    · -- kind 3
      refine ⟨_, rfl, _, rfl, _, rfl, _, rfl, _, rfl, _, rfl, a, _, _, .ref rU, rfl, rfl, SqT.of aU, atI_nat (map_at eU), _, rfl, rU, _, _, fv (ent tb u v), rfl, rfl, SqT.of bU, atI_nat (map_at xU), by show 4 ≤ sizeLine; decide, fun l hl' => ?_⟩
      obtain ⟨nl, nc⟩ := hH4.new hl'
      have s5 : Same H4 (upd H4 l (.lst [.non, .str "", .str "a", fv (ent tb u v)])) := same_upd hl'
      refine ⟨d, c, l, _, rfl, hH4.same s5, upd_same, nl, (by show 0 < 4; decide), (by show 4 < 1000; decide), fun H5 x hx hH5 k5 => ?_⟩
      obtain ⟨fm, rfl, ff⟩ : ∃ fm : Form, x = fv fm ∧ Fine 4 fm := by
        rcases List.mem_cons.mp hx with rfl | hx
        · exact ⟨none, rfl, fun s e => nomatch e⟩
        rcases List.mem_cons.mp hx with rfl | hx
        · exact ⟨some ("" : PySem.Str), rfl, fun s e => by cases e; exact ⟨by decide +kernel, lets_of (by decide +kernel)⟩⟩
        rcases List.mem_cons.mp hx with rfl | hx
        · exact ⟨some ("a" : PySem.Str), rfl, fun s e => by cases e; exact ⟨by decide +kernel, lets_of (by decide +kernel)⟩⟩
        · rw [List.mem_singleton.mp hx]
          exact ⟨_, rfl, fU⟩
      have k45 : Keep d H4 H5 := Same.keep s5 k5
      refine ⟨a, tb, hh, ww, p, q, fm, rfl, tT4.keep (k45.keepT hH4), R, hp, hq, by omega, by omega, fun H6 b s6 tb6 => ?_⟩
      exact k H6 b _ hh ww tb6 (putT_rect R hp hq) (putT_ents R E4 hp ff) h1 h6 w1 w6 (hH5.same s6) (Keep.same (Keep.trans k04 k45) s6)
    refine ⟨_, rfl, rfl, _, rfl, ite2 (fun _ => ?_) fun _ => ?_⟩
    · -- kind 4
      refine ⟨_, rfl, _, rfl, _, rfl, _, rfl, _, rfl, a, _, _, .ref rU, rfl, rfl, SqT.of aU, atI_nat (map_at eU), _, rfl, rU, _, _, fv (ent tb u v), rfl, rfl, SqT.of bU, atI_nat (map_at xU), a, tb, hh, ww, p, q, ent tb u v, rfl, tT4, R, hp, hq, by omega, by omega, fun H5 b5 s5 tb5 => ?_⟩
      refine ⟨_, rfl, _, rfl, _, rfl, _, rfl, a, _, _, .ref rP, rfl, rfl, SqT.of (s5 _ _ aP), atI_nat (map_at eP), _, rfl, rP, _, _, fv (ent tb p q), rfl, rfl, SqT.of (s5 _ _ bP'), atI_nat (map_at xP), b5, _, hh, ww, u, v, ent tb p q, rfl, tb5, putT_rect R hp hq, hu, hv, by omega, by omega, fun H6 b6 s6 tb6 => ?_⟩
      exact k H6 b6 _ hh ww tb6 (putT_rect (putT_rect R hp hq) hu hv) (putT_ents (putT_rect R hp hq) (putT_ents R E4 hp fU) hu fP) h1 h6 w1 w6 (hH4.same (Same.trans s5 s6)) (Keep.same k04 (Same.trans s5 s6))
    refine ⟨_, rfl, rfl, _, rfl, ite2 (fun _ => ?_) fun _ => ?_⟩
    · -- kind 5
      refine ⟨_, rfl, _, rfl, d, c, 4, rfl, by decide, by decide, hH4, fun H5 m m0 m1 hH5 k5 => ⟨_, _, rfl, rfl, ?_⟩⟩
      refine ⟨_, rfl, d, c, 4, rfl, by decide, by decide, hH5, fun H6 n n0 n1 hH6 k6 => ⟨_, _, rfl, rfl, ?_⟩⟩
      obtain ⟨m, rfl⟩ : ∃ z : Nat, m = (z : Int) := ⟨m.toNat, by omega⟩
      obtain ⟨n, rfl⟩ : ∃ z : Nat, n = (z : Int) := ⟨n.toNat, by omega⟩
      have em : V.int (1 + (m : Int)) = nv (1 + m) := rfl
      refine ⟨d, c, 1 + m, 1 + n, ?_, hH6, by omega, by omega, fun H7 b U tU RU EU hH7 k7 => ?_⟩
      · rfl
      · exact k H7 b U (1 + m) (1 + n) tU RU EU (by omega) (by omega) (by omega) (by omega) hH7 (Keep.trans k04 (Keep.trans k5 (Keep.trans k6 k7)))
    refine ⟨_, rfl, rfl, _, rfl, ite2 (fun _ => ?_) fun _ => ?_⟩
    · -- kind 6
      obtain ⟨ss, hb, hsl, hsow⟩ := id tT4
      have hlen2 : (ss.map V.ref).length = hh := by rw [List.length_map, hsl, R.hi]
      refine ⟨_, rfl, a, _, 0, .ref r0, rfl, rfl, SqT.of (kT4 _ _ ha), atI_nat (j := 0) (map_at hr0), r0, _, rfl, .inr (SqT.of (kT4 _ _ h0)), (ww : Int), by rw [lr0], by omega, by omega, fun D hD => ?_⟩
      refine lc_range (lo := 0) (n := ww) (fun j H' => Same H4 H' ∧ RowsAt H' D ((((List.range ww).take j).map (dueC tb)))) ⟨same_upd hD, RowsAt.nil⟩ ?_ ?_
      · rintro e H5 he ⟨s5, r5⟩
        refine ⟨rfl, _, rfl, a, rfl, ⟨_, SqT.of (s5 _ _ hb)⟩, fun D6 hD6 => ?_⟩
        refine lc_tup (K := K) (a := a) (xs := ss.map V.ref) (fun j H' => Same H5 H' ∧ H' D6 = some (.lst (((tb.take j).map fun row => (row[e]?).getD default).map fv))) ⟨same_upd hD6, by rw [upd_same]; rfl⟩ (fun j H' _ p => SqT.of (p.1 _ _ (s5 _ _ hb))) ?_ ?_
        · rintro j x H6 hx ⟨s6, d6⟩
          obtain ⟨sa, hs', rfl⟩ := at_map hx
          have hj : j < hh := by
            rw [← hlen2, List.length_map]
            exact lt_of_at hs'
          obtain ⟨row, er, ex⟩ := R.ent hj he
          have hR : H4 sa = some (.tup (row.map fv)) := hsow j sa row hs' er
          refine ⟨rfl, _, rfl, _, rfl, sa, row.map fv, _, fv (ent tb j e), rfl, rfl, SqT.of (s6 _ _ (s5 _ _ hR)), by rw [Int.zero_add]; exact atI_nat (map_at ex), ?_⟩
          refine ⟨_, d6, ?_, Same.into hD6 s6, ?_⟩
          · refine small1000 ?_
            rw [List.length_map, List.length_map, List.length_take]
            omega
          · rw [upd_same, ← map_take_succ er, List.map_append, ex]
            rfl
        · rintro H6 ⟨s6, d6⟩
          have et : (tb.take (ss.map V.ref).length).map (fun row => (row[e]?).getD default) = dueC tb e := by
            rw [hlen2, ← R.hi, List.take_length]
            rfl
          rw [et] at d6
          refine ⟨D6, _, rfl, .inl ⟨SqL.of d6, fun z hz => ?_⟩⟩
          have s7 : Same H5 _ := Same.trans s6 (same_upd (o := .tup ((dueC tb e).map fv)) hz)
          obtain ⟨acc, ea, la, rn⟩ := (r5.keep (fun xs e => s7 _ _ e) (Same.keepT s7)).push (r := z) (row := dueC tb e) upd_same
          refine ⟨acc, ea, ?_, Same.into hD (Same.trans s5 s7), ?_⟩
          · refine small1000 ?_
            rw [la, List.length_map, List.length_take]
            omega
          · rw [map_take_succ (List.getElem?_range he)] at rn
            exact rn
      · rintro H5 ⟨s5, r5⟩
        rw [range_take] at r5
        obtain ⟨xs, ex⟩ : ∃ xs, H5 D = some (.lst xs) := let ⟨_, e, _⟩ := r5; ⟨_, e⟩
        refine ⟨D, _, rfl, .inl ⟨SqL.of ex, fun b hb' => ?_⟩⟩
        have s6 : Same H4 _ := Same.trans s5 (same_upd (o := .tup xs) hb')
        exact k _ b (trT tb ww) ww hh (r5.tab ex hb') (trT_rect R) (trT_ents R E4) w1 w6 h1 h6 (hH4.same s6) (Keep.same k04 s6)
    · exact ⟨_, rfl, k H4 a tb hh ww tT4 R E4 h1 h6 w1 w6 hH4 k04⟩
end
end K56

namespace K56
open PySem PySem.Spec PyProof.Rows L2
/-! ### told > drawn, pairs of orders -/
def gtL (ns ms : List Int) : Bool := Ob.lexAt (fun j => decide (ns.getD j 0 = ms.getD j 0)) (fun j => decide (ms.getD j 0 < ns.getD j 0)) (decide (ns.length > ms.length)) 0 (min ns.length ms.length)
theorem lexLe_tail {a b : Nat} {x y : List Nat} (h : LexLe (a :: x) (b :: y)) : a < b ∨ (a = b ∧ LexLe x y) := by
  rcases h with h | h
  · obtain ⟨h1, h2⟩ := List.cons.inj h
    exact .inr ⟨h1, .inl h2⟩
  · rcases h with h | ⟨h1, h2⟩
    · exact .inl h
    · exact .inr ⟨h1, .inr h2⟩
theorem gtL_le {x y : List Nat} (hl : x.length = y.length) (h : LexLe x y) : gtL (x.map fun (n : Nat) => (n : Int)) (y.map fun (n : Nat) => (n : Int)) = false := by
  unfold gtL
  have hz : decide ((x.map fun (n : Nat) => (n : Int)).length > (y.map fun (n : Nat) => (n : Int)).length) = false := by
    rw [List.length_map, List.length_map]
    exact decide_eq_false (by omega)
  rw [hz, List.length_map, List.length_map, hl, Nat.min_self]
  have main : ∀ k i, i + k = y.length → LexLe (x.drop i) (y.drop i) →
      Ob.lexAt (fun j => decide ((x.map fun (n : Nat) => (n : Int)).getD j 0 = (y.map fun (n : Nat) => (n : Int)).getD j 0)) (fun j => decide ((y.map fun (n : Nat) => (n : Int)).getD j 0 < (x.map fun (n : Nat) => (n : Int)).getD j 0)) false i k = false := by
    intro k
    induction k with
    | zero =>
      intro i _ _
      rfl
    | succ k ih =>
      intro i e hle
      have i1 : i < x.length := by omega
      have i2 : i < y.length := by omega
      have g1 : (x.map fun (n : Nat) => (n : Int)).getD i 0 = (x[i] : Int) := by
        rw [List.getD_eq_getElem?_getD, List.getElem?_map, List.getElem?_eq_getElem i1]
        rfl
      have g2 : (y.map fun (n : Nat) => (n : Int)).getD i 0 = (y[i] : Int) := by
        rw [List.getD_eq_getElem?_getD, List.getElem?_map, List.getElem?_eq_getElem i2]
        rfl
      rw [List.drop_eq_getElem_cons i1, List.drop_eq_getElem_cons i2] at hle
      rw [Ob.lexAt_succ, g1, g2]
      rcases lexLe_tail hle with q | ⟨q1, q2⟩
      · rw [if_neg (by rw [decide_eq_true_eq]; omega)]
        exact decide_eq_false (by omega)
      · rw [if_pos (by rw [decide_eq_true_eq]; omega)]
        exact ih (i + 1) (by omega) q2
  exact main y.length 0 (by omega) (by rw [List.drop_zero, List.drop_zero]; exact h)
theorem rc_gt_ints {A : Around} {s : Shared} {l b : Addr} {its its2 : List Value} {ns ms : List Int} (p1 : IsTup s.heap l its.toArray) (p2 : IsTup s.heap b its2.toArray) (i1 : IntsAre its ns) (i2 : IntsAre its2 ms) (hu : A.units < cLine) :
    Ob.RcOp .Gt A s (.ref l) (.ref b) (gtL ns ms) := by
  have e1 : its.toArray.size = ns.length := by simpa using i1.length
  have e2 : its2.toArray.size = ms.length := by simpa using i2.length
  have a1 : ∀ j (h : j < its.toArray.size), ∃ t, its.toArray[j] = .int (ns.getD j 0) t := fun j h => IntsAre.int_at i1 _ _ (by simp at h; simp [h])
  have a2 : ∀ j (h : j < its2.toArray.size), ∃ t, its2.toArray[j] = .int (ms.getD j 0) t := fun j h => IntsAre.int_at i2 _ _ (by simp at h; simp [h])
  have R := Ob.RcOp.tuples_gt (A := A) (s := s) (e := fun j => decide (ns.getD j 0 = ms.getD j 0)) (r := fun j => decide (ms.getD j 0 < ns.getD j 0)) p1 p2 hu
    (fun j h1 h2 => by
      obtain ⟨t, q1⟩ := a1 j h1
      obtain ⟨t', q2⟩ := a2 j h2
      rw [q1, q2, ← Bool.beq_eq_decide_eq]
      exact SeqAt.EqAt.int_int _ _ _ _)
    (fun j h1 h2 _ => by
      obtain ⟨t, q1⟩ := a1 j h1
      obtain ⟨t', q2⟩ := a2 j h2
      rw [q1, q2]
      exact Ob.RcOp.gt_int _ _ _ _)
  rw [e1, e2] at R
  exact R
theorem ints_nv {o : List Nat} {its : List Value} (r : Vals (o.map nv) its) : IntsAre its (o.map fun (n : Nat) => (n : Int)) := by
  refine Vals.ints ?_
  rw [List.map_map]
  exact r
def rGtO : R2 := fun x y H Q => ∃ (t u : Addr) (a b c d : List Nat), x = .ref t ∧ y = .ref u ∧ PairAt H t a b ∧ PairAt H u c d ∧ a.length = c.length ∧ b.length = d.length ∧ (LexLt a c ∨ (a = c ∧ LexLe b d)) ∧ Q (.bl false) H
theorem op_gtO {X : Cx} (hu : X.A.units + 64 < cLine) : OpR X (compareOp .Gt) rGtO := by
  rintro pins s σ H x y v u Q I rx ry ⟨t, t', a, b, c, d, rfl, rfl, ⟨p, q, ht, hp, hq⟩, ⟨p', q', ht', hp', hq'⟩, l1, l2, hle, hQ⟩
  cases rx
  cases ry
  obtain ⟨its, r1, p1, _⟩ := I.tuple (SqT.of ht)
  obtain ⟨its', r1', p1', _⟩ := I.tuple (SqT.of ht')
  obtain ⟨u1, u2, rfl, z1, z2⟩ := vals2 r1
  obtain ⟨w1, w2, rfl, y1, y2⟩ := vals2 r1'
  cases z1
  cases z2
  cases y1
  cases y2
  obtain ⟨ia, ra, ta, _⟩ := I.tuple (SqT.of hp)
  obtain ⟨ib, rb, tb, _⟩ := I.tuple (SqT.of hq)
  obtain ⟨ic, rc, tc, _⟩ := I.tuple (SqT.of hp')
  obtain ⟨id', rd, td, _⟩ := I.tuple (SqT.of hq')
  have room : X.A.in1.units + 2 < cLine := by
    show X.A.units + 1 + 2 < cLine
    omega
  have eq : ∀ {m n : Addr} {x y : List Nat}, OrdAt H m x → OrdAt H n y → SeqAt.EqAt X.A.in1 s (.ref m) (.ref n) (decide (x = y)) := fun {m n x y} h1 h2 => by
    obtain ⟨as, q1⟩ := Dp.reads I (ordD x) _ (.ref m) (dp_ord h1) rfl
    obtain ⟨bs, q2⟩ := Dp.reads I (ordD y) _ (.ref n) (dp_ord h2) rfl
    rw [← eqv_ordD]
    refine SeqAt.eqAt_reads _ _ _ _ _ _ _ _ q1 q2 (small_ordD x).lay (small_ordD y).lay ?_
    have := (small_ordD x).dep
    have := Nat.min_le_left (ordD x).depth (ordD y).depth
    omega
  have e1 := eq hp hp'
  have e2 := eq hq hq'
  have g1 := rc_gt_ints (A := X.A.in1) (s := s) ta tc (ints_nv ra) (ints_nv rc) (by omega)
  have g2 := rc_gt_ints (A := X.A.in1) (s := s) tb td (ints_nv rb) (ints_nv rd) (by omega)
  have R := Ob.RcOp.tuples_gt (A := X.A) (s := s) (e := fun j => if j = 0 then decide (a = c) else decide (b = d)) (r := fun j => if j = 0 then gtL (a.map fun (n : Nat) => (n : Int)) (c.map fun (n : Nat) => (n : Int)) else gtL (b.map fun (n : Nat) => (n : Int)) (d.map fun (n : Nat) => (n : Int))) p1 p1' (by omega)
    (fun j h1 h2 => by
      match j, h1, h2 with
      | 0, _, _ => exact e1
      | 1, _, _ => exact e2
      | j + 2, h1, _ => exact absurd h1 (by simp))
    (fun j h1 h2 _ => by
      match j, h1, h2 with
      | 0, _, _ => exact g1
      | 1, _, _ => exact g2
      | j + 2, h1, _ => exact absurd h1 (by simp))
  have val : Ob.lexAt (fun j => if j = 0 then decide (a = c) else decide (b = d)) (fun j => if j = 0 then gtL (a.map fun (n : Nat) => (n : Int)) (c.map fun (n : Nat) => (n : Int)) else gtL (b.map fun (n : Nat) => (n : Int)) (d.map fun (n : Nat) => (n : Int))) (decide (([Value.ref p, Value.ref q].toArray).size > ([Value.ref p', Value.ref q'].toArray).size)) 0 (min ([Value.ref p, Value.ref q].toArray).size ([Value.ref p', Value.ref q'].toArray).size) = false := by
    show (if decide (a = c) = true then (if decide (b = d) = true then decide (2 > 2) else gtL (b.map fun (n : Nat) => (n : Int)) (d.map fun (n : Nat) => (n : Int))) else gtL (a.map fun (n : Nat) => (n : Int)) (c.map fun (n : Nat) => (n : Int))) = false
    rcases hle with h | ⟨h1, h2⟩
    · rw [if_neg (by rw [decide_eq_true_eq]; exact h.ne)]
      exact gtL_le l1 (.inr h)
    · rw [if_pos (by rw [decide_eq_true_eq]; exact h1)]
      by_cases e : b = d
      · rw [if_pos (by rw [decide_eq_true_eq]; exact e)]
        rfl
      · rw [if_neg (by rw [decide_eq_true_eq]; exact e)]
        exact gtL_le l2 h2
  rw [val] at R
  exact R X.prog X.w X.xe (EP X pins σ Q) ⟨.bl false, H, I, rfl, hQ⟩
end K56

namespace K56
open PySem PySem.Spec PyProof.Rows L2
abbrev sIsPair : Stmt := top 34
theorem call_isiK {X : Cx} (K : PySem.W.Frag) (hK : X.K = K := by rfl) : CallR X (.builtin "isinstance") (rIsi K) := hK ▸ call_isi
theorem sorted_range {n : Nat} {o : List Nat} {ms : List Int} (h : IsOrd n o) (p : ms.Perm (o.map fun (k : Nat) => (k : Int))) (s : ms.Pairwise (· ≤ ·)) : ms = (List.range n).map fun (k : Nat) => (k : Int) := by
  refine List.Perm.eq_of_pairwise (le := (· ≤ ·)) (fun a b _ _ h1 h2 => Int.le_antisymm h1 h2) s ?_ (p.trans (h.perm.map _))
  rw [List.pairwise_map]
  exact List.pairwise_le_range.imp fun h => by omega
section
variable {P : Program} {w : World} {K : PySem.W.Frag} {mg : Str → Option Value} {base : Heap}
def spIsPair : Sp := fun vs H Q _ => ∃ (t : Addr) (a b : List Nat) (h w : Nat), vs = [.ref t, nv h, nv w] ∧ PairAt H t a b ∧ IsOrd h a ∧ IsOrd w b ∧ h ≤ 6 ∧ w ≤ 6 ∧ ∀ H', Same H H' → Q (.bl true) H'
abbrev nIsPair : List Str := ["_law_told", "_law_high", "_law_wide", "_law_order_here", "_law_many", "_law_one"]
theorem scIsPair : FnScope nIsPair ["_law_told", "_law_high", "_law_wide"] (defScope sIsPair) := ⟨rfl, rfl, rfl, by decide +kernel, rfl, by decide +kernel, by decide +kernel⟩
theorem ok_isPair {f : Addr} {fd : FuncData} (F : Fun K "_law_is_pair" "_law_is_pair" sIsPair f fd) (T : Txt K mg) : FnOk P w K mg base CX0 1 f fd ["_law_told", "_law_high", "_law_wide"] spIsPair := by
  refine F.ok scIsPair (fun vs H Q E h => ?_) (fun cdv A outer s H vs Q E hr h => ?_)
  · obtain ⟨t, _, _, h, w, rfl, _⟩ := h
    rfl
  · obtain ⟨t, oa, ob, hh, ww, rfl, hP, ha, hb, h6, w6, k⟩ := h
    refine ⟨_, pss_cons (ps_if (PW.pt (pw_or (pt_not (pt_val (pe_callB call_isi (by rfl) T.isi (by decide +kernel) (pa_cons (pv 0) (pa_cons (pe_bltn (v := .ty "tuple") (by rfl) T.tuple (by decide +kernel) rfl) pa_nil)))))
          (pw_or1 (pt_cmpR op_ne (pe_callB call_len_seq (by rfl) T.len PySem.boot_len (pa_cons (pv 0) pa_nil)) pe_int (nomark _))))) (pss_one (ps_ret pe_bl)) pss_nil)
      (pss_cons (ps_for PassesOwn.never rfl (RZ.pi_zipA (by rfl) T.zip (pa_cons (pv 0) (pa_cons (pe_tup (pa_cons (pv 1) (pa_cons (pv 2) pa_nil))) pa_nil))) (pg_tup rfl (pgs_cons (pg_name (i := 3) scIsPair.nd rfl (.inl rfl)) (pgs_cons (pg_name (i := 4) scIsPair.nd rfl (.inl rfl)) pgs_nil)))
        (pss_cons (ps_if (PW.pt (pw_or (pt_not (pt_val (pe_callB call_isi (by rfl) T.isi (by decide +kernel) (pa_cons (pv 3) (pa_cons (pe_bltn (v := .ty "tuple") (by rfl) T.tuple (by decide +kernel) rfl) pa_nil)))))
            (pw_or1 (pt_not (pt_val (pe_callB (cr_all rfl) (by rfl) T.all (by decide +kernel) (pa_cons (pe_lc (own := [("_law_one", 5)]) (g := gName 5) (tt := tYes) rfl scIsPair.nd (pi_tup (pv 3)) (blkOk_by (N := nIsPair) (sc := defScope sIsPair) (by decide +kernel))
              (fun _ _ _ _ _ => pg_name (i := 5) scIsPair.nd rfl (.inl rfl)) (fun _ _ _ _ _ => pts_nil)
              (fun _ _ _ _ _ => pe_callB (call_isiK K) (by rfl) T.isi (by decide +kernel) (pa_cons (pv 5) (pa_cons (pe_bltn (v := .ty "int") (by rfl) T.int (by decide +kernel) rfl) pa_nil)))) pa_nil))))))) (pss_one (ps_ret pe_bl)) pss_nil)
        (pss_one (ps_if (PW.pt (pw_or (pt_cmpR op_gt (pe_callB call_len_seq (by rfl) T.len PySem.boot_len (pa_cons (pe_lc (own := [("_law_one", 5)]) (g := gName 5) rfl scIsPair.nd (pi_tup (pv 3)) (blkOk_by (N := nIsPair) (sc := defScope sIsPair) (by decide +kernel))
              (fun _ _ _ _ _ => pg_name (i := 5) scIsPair.nd rfl (.inl rfl)) (fun _ _ _ _ _ => pts_one (pt_val (pe_callB (call_isiK K) (by rfl) T.isi (by decide +kernel) (pa_cons (pv 5) (pa_cons (pe_bltn (v := .ty "bool") (by rfl) T.bool (by decide +kernel) rfl) pa_nil)))))
              (fun _ _ _ _ _ => pv 5)) pa_nil)) pe_int (nomark _))
            (pw_or1 (pt_cmpR (op_neD hr.units) (pe_callB cr_sortedT (by rfl) T.sorted (by decide +kernel) (pa_cons (pv 3) pa_nil)) (pe_listRg rfl (by rfl) T.list (prg_1 (by rfl) T.range (pv 4))) (nomark _))))) (pss_one (ps_ret pe_bl)) pss_nil))))
      (pss_one (ps_ret pe_bl))), ?_⟩
    obtain ⟨p, q, ht, hp, hq⟩ := hP
    refine ⟨_, rfl, .ref t, .ty "tuple", .type "tuple", .type "tuple", true, rfl, .ty _, .base (.tup ht), kit_ty (by decide +kernel), true, rfl, iteF ?_⟩
    refine ⟨_, rfl, t, _, rfl, .inr (SqT.of ht), rfl, _, rfl, iteF ?_⟩
    refine ⟨_, rfl, _, rfl, _, rfl, by show 2 ≤ sizeLine; decide, fun z hz => ?_⟩
    have s1 : Same H (upd H z (.tup [nv hh, nv ww])) := same_upd hz
    refine ⟨t, z, [.ref p, .ref q], [nv hh, nv ww], rfl, .inr ⟨SqT.of (s1 _ _ ht), SqT.of upd_same, ?_⟩⟩
    refine RZ.for_zipT (K := K) (a := t) (b := z) (xs := [.ref p, .ref q]) (ys := [nv hh, nv ww]) rfl (fun i σ H' => ∃ v3 v4, σ = [some (.ref t), some (nv hh), some (nv ww), v3, v4, none] ∧ Same (upd H z (.tup [nv hh, nv ww])) H')
      ⟨none, none, rfl, Same.refl _⟩ ?_ ?_ ?_
    · rintro i σ H' ⟨_, _, _, s2⟩
      exact ⟨SqT.of (s2 _ _ (s1 _ _ ht)), SqT.of (s2 _ _ upd_same)⟩
    · rintro i x y u σ H2 hx hy ⟨v3, v4, rfl, s2⟩ nu
      obtain ⟨r, o, n, rfl, rfl, hr0, ho, n6⟩ : ∃ (r : Addr) (o : List Nat) (n : Nat), x = .ref r ∧ y = nv n ∧ OrdAt H r o ∧ IsOrd n o ∧ n ≤ 6 := by
        match i, hx, hy with
        | 0, hx, hy =>
          cases hx
          cases hy
          exact ⟨p, oa, hh, rfl, rfl, hp, ha, h6⟩
        | 1, hx, hy =>
          cases hx
          cases hy
          exact ⟨q, ob, ww, rfl, rfl, hq, hb, w6⟩
        | i + 2, hx, _ => simp at hx
      have s3 : Same H2 (upd H2 u (.tup [.ref r, nv n])) := same_upd nu
      refine ⟨u, _, rfl, SqT.of upd_same, rfl, _, _, rfl, _, _, rfl, rfl, ?_⟩
      have hr3 : (upd H2 u (.tup [.ref r, nv n])) r = some (.tup (o.map nv)) := s3 _ _ (s2 _ _ (s1 _ _ hr0))
      have lo : o.length = n := ho.len
      -- isinstance(order_here, tuple), all([isinstance(one, int) ..])
      refine ⟨_, rfl, .ref r, .ty "tuple", .type "tuple", .type "tuple", true, rfl, .ty _, .base (.tup hr3), kit_ty (by decide +kernel), true, rfl, iteF ?_⟩
      refine ⟨_, rfl, r, rfl, ⟨_, SqT.of hr3⟩, fun D hD => ?_⟩
      refine lc_tup (K := K) (a := r) (xs := o.map nv) (fun i H' => Same (upd H2 u (.tup [.ref r, nv n])) H' ∧ H' D = some (.lst (List.replicate i (.bl true)))) ⟨same_upd hD, upd_same⟩ (fun i H' _ p => SqT.of (p.1 _ _ hr3)) ?_ ?_
      · rintro j v H3 hv ⟨s4, e4⟩
        obtain ⟨m, hm, rfl⟩ := at_map hv
        have hj := lt_of_at hm
        refine ⟨rfl, _, rfl, nv m, .ty "int", .type "int", .type "int", true, rfl, .ty _, .base (.int _), kit_ty (by decide +kernel), _, e4, ?_, Same.into hD s4, ?_⟩
        · rw [List.length_replicate]
          exact small1000 (by omega)
        · rw [upd_same, List.replicate_succ']
      · rintro H3 ⟨s4, e4⟩
        rw [List.length_map, lo] at e4
        refine ⟨D, List.replicate n true, rfl, SqL.of (by rw [e4, List.map_replicate]), ?_⟩
        have e2 : (List.replicate n true).all id = true := by simp
        rw [e2]
        refine ⟨true, rfl, iteF ?_⟩
        -- [one for one in order_here if isinstance(one, bool)]
        have hr4 : H3 r = some (.tup (o.map nv)) := s4 _ _ hr3
        refine ⟨_, rfl, r, rfl, ⟨_, SqT.of hr4⟩, fun D5 hD5 => ?_⟩
        refine lc_tup (K := K) (a := r) (xs := o.map nv) (fun i H' => Same H3 H' ∧ H' D5 = some (.lst [])) ⟨same_upd hD5, upd_same⟩ (fun i H' _ p => SqT.of (p.1 _ _ hr4)) ?_ ?_
        · rintro j v H4 hv ⟨s5, e5⟩
          obtain ⟨m, hm, rfl⟩ := at_map hv
          exact ⟨rfl, _, rfl, nv m, .ty "bool", .type "int", .type "bool", false, rfl, .ty _, .base (.int _), kit_ty (by decide +kernel), false, rfl, iteF ⟨s5, e5⟩⟩
        · rintro H4 ⟨s5, e5⟩
          refine ⟨D5, [], rfl, .inl (SqL.of e5), _, _, rfl, rfl, _, rfl, iteF ?_⟩
          -- sorted(order_here) != list(range(many))
          have hr5 : H4 r = some (.tup ((o.map fun (k : Nat) => (k : Int)).map V.int)) := by
            rw [s5 _ _ hr4, List.map_map]
            rfl
          refine ⟨_, rfl, r, o.map fun (k : Nat) => (k : Int), rfl, SqT.of hr5, by rw [List.length_map]; omega, fun ms g pm up ng => ?_⟩
          have em := sorted_range ho pm up
          refine ⟨_, rfl, (n : Int), rfl, .of_le (by omega) (by omega) (by omega) (by omega), fun l hl => ?_⟩
          have nlg : g ≠ l := ne_of_none upd_same hl
          have s6 : Same H4 (upd (upd H4 g (.lst (ms.map V.int))) l (.lst (rgV 0 (n : Int)))) := Same.trans (same_upd ng) (same_upd hl)
          have dd : DpAll K (upd (upd H4 g (.lst (ms.map V.int))) l (.lst (rgV 0 (n : Int)))) (ms.map V.int) (ms.map PyData.int) := dpAll_map fun x _ => .int x
          have d1 : Dp K (upd (upd H4 g (.lst (ms.map V.int))) l (.lst (rgV 0 (n : Int)))) (.ref g) (.list (ms.map PyData.int)) := .lst (SqL.of (by rw [upd_ne nlg, upd_same])) dd
          have d2 : Dp K (upd (upd H4 g (.lst (ms.map V.int))) l (.lst (rgV 0 (n : Int)))) (.ref l) (.list (ms.map PyData.int)) := by
            refine .lst (SqL.of ?_) dd
            rw [upd_same, rgV_nv, em, List.map_map]
            rfl
          have sm : Small (.list (ms.map PyData.int)) 1 := small_list fun x _ => small_int x
          refine ⟨_, _, d1, d2, sm.shaped (by decide), sm.shaped (by decide), _, rfl, ?_⟩
          rw [SeqAt.eqv_refl _ sm.lay]
          refine iteF ⟨_, _, rfl, ?_⟩
          exact Same.trans s2 (Same.trans s3 (Same.trans s4 (Same.trans s5 s6)))
    · rintro σ H2 ⟨_, _, rfl, s2⟩
      exact k H2 (Same.trans s1 s2)
end
end K56

namespace K56
open PySem PySem.Spec PyProof.Rows L2
abbrev sRight : Stmt := top 35
abbrev sLarge : Stmt := top 36
abbrev sLaw : Stmt := top 37
/-- Table(rows) -/
theorem table_made {H : Hp} {C a x dx : Addr} {T : Tab} {h w : Nat} {Q : Hp → Prop} {E : XK} (nx : H x = none) (ndx : H dx = none) (hT : TabAt H a T) (R : Rect T h w) (e : Ents 30 T) (h1 : 1 ≤ h) (h2 : h ≤ 12) (w1 : 1 ≤ w) (w2 : w ≤ 12)
    (k : ∀ H', Same H H' → BoxAt H' C x a h w → Q H') : spInit C [.ref x, .ref a] (upd (upd H dx (.own x)) x (.ins C dx [])) (fun v H2 => v = .non ∧ Q H2) E := by
  have s0 : Same H (upd (upd H dx (.own x)) x (.ins C dx [])) := fun b o q => by
    rw [upd_ne (ne_of_none q nx), upd_ne (ne_of_none q ndx)]
    exact q
  exact ⟨x, dx, a, T, h, w, rfl, upd_same, hT.keep (Same.keepT s0), R, e, h1, h2, w1, w2, fun H' hB kk => ⟨rfl, k H' (fun b o q => kk b o (ne_of_none q nx) (s0 b o q)) hB⟩⟩
section
variable {P : Program} {w : World} {K : PySem.W.Frag} {mg : Str → Option Value} {base : Heap}
structure TabFn (P : Program) (w : World) (K : PySem.W.Frag) (mg : Str → Option Value) (base : Heap) (C fI : Addr) (fdI : FuncData) : Prop where
  txt : TxtT K mg C
  makes : Mk K C fI
  ok : FnOk P w K mg base CX0 5 fI fdI ["self", "boxes"] (spInit C)
  bn : Binds K fdI ["self", "boxes"] []
def spRight : Sp := fun vs H Q _ => ∃ (a b : Addr) (T U : Tab) (h w h' w' : Nat), vs = [.ref a, .ref b] ∧ TabAt H a T ∧ TabAt H b U ∧ Rect T h w ∧ Rect U h' w' ∧ Ents 30 T ∧ Ents 30 U ∧ (1 ≤ h ∧ h ≤ 6) ∧ (1 ≤ w ∧ w ≤ 6) ∧ (1 ≤ h' ∧ h' ≤ 6) ∧ (1 ≤ w' ∧ w' ≤ 6) ∧ ∀ H', Same H H' → Q (.bl true) H'
theorem scRight : FnScope ["_law_rows", "_law_others", "_law_due_here", "_law_told"] ["_law_rows", "_law_others"] (defScope sRight) := ⟨rfl, rfl, rfl, by decide +kernel, rfl, by decide +kernel, by decide +kernel⟩
theorem ok_right {f C fI fD fB fP : Addr} {fd fdI fdD fdB fdP : FuncData} (F : Fun K "_law_right" "_law_right" sRight f fd) (T : Txt K mg) (TB : TabFn P w K mg base C fI fdI)
    (DU : Fn1 P w K mg base 2 "_law_due" sDue ["_law_rows", "_law_others"] spDue fD fdD) (BT : Fn1 P w K mg base 3 "orders_between" sBetween ["one", "other"] (spBetween C) fB fdB) (IP : Fn1 P w K mg base 1 "_law_is_pair" sIsPair ["_law_told", "_law_high", "_law_wide"] spIsPair fP fdP) :
    FnOk P w K mg base CX0 7 f fd ["_law_rows", "_law_others"] spRight := by
  obtain ⟨TT, MK, GI, bI⟩ := TB
  obtain ⟨FD, GD, bD, gD⟩ := DU
  obtain ⟨FB, GB, bB, gB⟩ := BT
  obtain ⟨FP, GP, bP, gP⟩ := IP
  refine F.ok scRight (fun vs H Q E h => ?_) (fun cdv A outer s H vs Q E hr h => ?_)
  · obtain ⟨a, b, _, _, _, _, _, _, rfl, _⟩ := h
    rfl
  · obtain ⟨a, b, tb, ub, hh, ww, hh', ww', rfl, hT, hU, R1, R2, E1, E2, ⟨h1, h6⟩, ⟨w1, w6⟩, ⟨h1', h6'⟩, ⟨w1', w6'⟩, k⟩ := h
    refine ⟨_, pss_cons (ps_set (i := 2) scRight.nd rfl (.inl rfl) (pe_call GD (hr.mono (by decide)) (by rfl) gD FD.kp bD .nil pass0 (pa_cons (pv 0) (pa_cons (pv 1) pa_nil))))
      (pss_cons (ps_set (i := 3) scRight.nd rfl (.inl rfl) (pe_call GB (hr.mono (by decide)) (by rfl) gB FB.kp bB .nil pass0 (pa_cons (pe_make MK GI hr (by rfl) TT.mgC bI .nil pass0 (pa_cons (pv 0) pa_nil)) (pa_cons (pe_make MK GI hr (by rfl) TT.mgC bI .nil pass0 (pa_cons (pv 1) pa_nil)) pa_nil))))
      (pss_cons (ps_if (pt_cmpR op_isN (pv 2) pe_non (nomark _)) (pss_one (ps_ret (pe_cmpR op_isN (pv 3) pe_non (nomark _)))) pss_nil)
      (pss_one (ps_ret (pe_and (pe_call GP (hr.mono (by decide)) (by rfl) gP FP.kp bP .nil pass0 (pa_cons (pv 3) (pa_cons (pe_callB call_len_seq (by rfl) T.len PySem.boot_len (pa_cons (pv 0) pa_nil)) (pa_cons (pe_callB call_len_seq (by rfl) T.len PySem.boot_len (pa_cons (pe_ix ix_tup (pv 0) pe_int (fun _ _ => rfl)) pa_nil)) pa_nil))))
        (pe_one (pe_cmpR (op_eqD hr.units) (pv 3) (pv 2) (nomark _)))))))), ?_⟩
    obtain ⟨rs, r0, row0, ha, hl, hr0, h0, hl0, _⟩ := hT.first R1 h1
    have lr : (rs.map V.ref).length = hh := by rw [List.length_map, hl]
    have lr0 : (row0.map fv).length = ww := by rw [List.length_map, hl0]
    refine ⟨_, rfl, _, rfl, a, b, tb, ub, hh, ww, hh', ww', rfl, hT, hU, R1, R2, E1, E2, h1, h1', h6, w6, fun H1 v1 res1 s1 le1 at1 => ?_⟩
    refine ⟨_, rfl, fun x2 dx2 nx2 ndx2 _ => table_made nx2 ndx2 (hT.keep (Same.keepT s1)) R1 E1 h1 (by omega) w1 (by omega) fun H2 s2 b2 => ?_⟩
    have s12 : Same H H2 := Same.trans s1 s2
    refine ⟨_, rfl, fun x3 dx3 nx3 ndx3 _ => table_made nx3 ndx3 (hU.keep (Same.keepT s12)) R2 E2 h1' (by omega) w1' (by omega) fun H3 s3 b3 => ?_⟩
    have s13 : Same H H3 := Same.trans s12 s3
    refine ⟨x2, x3, a, b, tb, ub, hh, ww, hh', ww', rfl, b2.same s3, hT.keep (Same.keepT s13), b3, hU.keep (Same.keepT s13), R1, R2, E1, E2, h6, w6, h1', fun H4 v2 res2 s4 le2 at2 => ?_⟩
    have s14 : Same H H4 := Same.trans s13 s4
    have er := Least.uniq le1 le2
    subst er
    have at1' : ResAt H4 v1 res1 := at1.keep (Same.keepT (Same.trans s2 (Same.trans s3 s4)))
    cases res1 with
    | none =>
      have e1 : v1 = .non := at1'
      have e2 : v2 = .non := at2
      subst e1
      subst e2
      exact ⟨_, rfl, rfl, _, rfl, iteT ⟨_, rfl, rfl, k H4 s14⟩⟩
    | some ab =>
      obtain ⟨o, p⟩ := ab
      obtain ⟨t1, rfl, p1⟩ := at1'
      obtain ⟨t2, rfl, p2⟩ := at2
      refine ⟨_, rfl, rfl, _, rfl, iteF ?_⟩
      refine ⟨_, rfl, _, rfl, a, _, rfl, .inr (SqT.of (s14 _ _ ha)), _, rfl, a, _, 0, .ref r0, rfl, rfl, SqT.of (s14 _ _ ha), atI_nat (j := 0) (map_at hr0), r0, _, rfl, .inr (SqT.of (s14 _ _ h0)), ?_⟩
      refine ⟨t2, o, p, hh, ww, by rw [lr, lr0]; rfl, p2, le1.1.oa, le1.1.ob, h6, w6, fun H5 s5 => ⟨true, rfl, iteT ?_⟩⟩
      refine ⟨_, rfl, _, rfl, pairD o p, pairD o p, dp_pair (p2.keep (Same.keepT s5)), dp_pair (p1.keep (Same.keepT s5)), (small_pairD o p).shaped (by decide), (small_pairD o p).shaped (by decide), ?_⟩
      rw [SeqAt.eqv_refl _ (small_pairD o p).lay]
      exact k H5 (Same.trans s14 s5)
def spLarge : Sp := fun vs H Q _ => ∃ (d c : Addr), vs = [.ref d] ∧ HandAt H d c ∧ ∀ H', Q (.bl true) H'
abbrev nLarge : List Str := ["_law_hand_here", "_law_high", "_law_wide", "_law_rows", "_law_orders_here", "_law_others", "_law_told", "_law_spoiled"]
theorem scLarge : FnScope nLarge ["_law_hand_here"] (defScope sLarge) := ⟨rfl, rfl, rfl, by decide +kernel, rfl, by decide +kernel, by decide +kernel⟩
def ZZ : PySem.Str := "zzzzz"
theorem zz_fine : Fine 30 (some ZZ) := fun s e => by
  cases e
  exact ⟨by decide +kernel, lets_of (by decide +kernel)⟩
theorem zz_not {T : Tab} {h w : Nat} (R : Rect T h w) (E : Ents 4 T) : ∀ i j, i < h → j < w → ent T i j ≠ some ZZ := fun i j hi hj e => by
  have q := (ents_fine R E hi hj ZZ e).1
  have z : ZZ.length = 5 := by decide +kernel
  omega
theorem ok_large {f C fI fD fX fO fT fB fP fL fU : Addr} {fd fdI fdD fdX fdO fdT fdB fdP fdL fdU : FuncData} (F : Fun K "_law_large" "_law_large" sLarge f fd) (T : Txt K mg) (TB : TabFn P w K mg base C fI fdI) (D : Drw P w K mg base fD fdD)
    (BX : Fn1 P w K mg base 3 "_law_boxes" sBoxes ["_law_hand_here", "_law_high", "_law_wide"] spBoxes fX fdX) (OD : Fn1 P w K mg base 2 "_law_order" sOrder ["_law_hand_here", "_law_many"] spOrder fO fdO)
    (TK : Fn1 P w K mg base 1 "_law_taken" sTaken ["_law_rows", "_law_orders_here"] spTaken fT fdT) (BT : Fn1 P w K mg base 3 "orders_between" sBetween ["one", "other"] (spBetween C) fB fdB)
    (IP : Fn1 P w K mg base 1 "_law_is_pair" sIsPair ["_law_told", "_law_high", "_law_wide"] spIsPair fP fdP) (LS : Fn1 P w K mg base 2 "_law_least" sLeast ["_law_rows", "_law_others"] spLeast fL fdL)
    (PU : Fn1 P w K mg base 1 "_law_put" sPut ["_law_rows", "_law_at", "_law_place", "_law_form"] spPut fU fdU) :
    FnOk P w K mg base CX0 7 f fd ["_law_hand_here"] spLarge := by
  obtain ⟨TT, MK, GI, bI⟩ := TB
  obtain ⟨FD, GD, bD, gD⟩ := D
  obtain ⟨FX, GX, bX, gX⟩ := BX
  obtain ⟨FO, GO, bO, gO⟩ := OD
  obtain ⟨FT, GT, bT, gT⟩ := TK
  obtain ⟨FB, GB, bB, gB⟩ := BT
  obtain ⟨FP, GP, bP, gP⟩ := IP
  obtain ⟨FL, GL, bL, gL⟩ := LS
  obtain ⟨FU, GU, bU, gU⟩ := PU
  refine F.ok scLarge (fun vs H Q E h => ?_) (fun cdv A outer s H vs Q E hr h => ?_)
  · obtain ⟨d, c, rfl, _⟩ := h
    rfl
  · obtain ⟨d, c, rfl, hH, k⟩ := h
    have hr1 : Room 1 _ := hr.mono (by decide)
    have hr2 : Room 2 _ := hr.mono (by decide)
    have hr3 : Room 3 _ := hr.mono (by decide)
    refine ⟨_, pss_cons (ps_par (i := 1) (j := 2) rfl scLarge.nd rfl rfl (by decide) rfl rfl (pa_cons (pe_op op_add pe_int (pe_call GD hr1 (by rfl) gD FD.kp bD .nil pass0 (pa_cons (pv 0) (pa_cons pe_int pa_nil))))
        (pa_cons (pe_op op_add pe_int (pe_call GD hr1 (by rfl) gD FD.kp bD .nil pass0 (pa_cons (pv 0) (pa_cons pe_int pa_nil)))) pa_nil)) (by rfl))
      (pss_cons (ps_set (i := 3) scLarge.nd rfl (.inl rfl) (pe_call GX hr3 (by rfl) gX FX.kp bX .nil pass0 (pa_cons (pv 0) (pa_cons (pv 1) (pa_cons (pv 2) pa_nil)))))
      (pss_cons (ps_set (i := 4) scLarge.nd rfl (.inl rfl) (pe_tup (pa_cons (pe_call GO hr2 (by rfl) gO FO.kp bO .nil pass0 (pa_cons (pv 0) (pa_cons (pv 1) pa_nil))) (pa_cons (pe_call GO hr2 (by rfl) gO FO.kp bO .nil pass0 (pa_cons (pv 0) (pa_cons (pv 2) pa_nil))) pa_nil))))
      (pss_cons (ps_set (i := 5) scLarge.nd rfl (.inl rfl) (pe_call GT hr1 (by rfl) gT FT.kp bT .nil pass0 (pa_cons (pv 3) (pa_cons (pv 4) pa_nil))))
      (pss_cons (ps_set (i := 6) scLarge.nd rfl (.inl rfl) (pe_call GB hr3 (by rfl) gB FB.kp bB .nil pass0 (pa_cons (pe_make MK GI hr (by rfl) TT.mgC bI .nil pass0 (pa_cons (pv 3) pa_nil)) (pa_cons (pe_make MK GI hr (by rfl) TT.mgC bI .nil pass0 (pa_cons (pv 5) pa_nil)) pa_nil))))
      (pss_cons (ps_if (PW.pt (pw_or (pt_not (pt_val (pe_call GP hr1 (by rfl) gP FP.kp bP .nil pass0 (pa_cons (pv 6) (pa_cons (pv 1) (pa_cons (pv 2) pa_nil))))))
          (pw_or (pt_cmpR (op_neD hr.units) (pe_call GT hr1 (by rfl) gT FT.kp bT .nil pass0 (pa_cons (pv 3) (pa_cons (pv 6) pa_nil))) (pv 5) (nomark _)) (pw_or1 (pt_cmpR (op_gtO hr.units) (pv 6) (pv 4) (nomark _)))))) (pss_one (ps_ret pe_bl)) pss_nil)
      (pss_cons (ps_if (pt_cmpR (op_neD hr.units) (pv 6) (pe_call GL hr2 (by rfl) gL FL.kp bL .nil pass0 (pa_cons (pv 3) (pa_cons (pv 5) pa_nil))) (nomark _)) (pss_one (ps_ret pe_bl)) pss_nil)
      (pss_cons (ps_set (i := 7) scLarge.nd rfl (.inl rfl) (pe_call GU hr1 (by rfl) gU FU.kp bU .nil pass0 (pa_cons (pv 5) (pa_cons (pe_call GD hr1 (by rfl) gD FD.kp bD .nil pass0 (pa_cons (pv 0) (pa_cons (pv 1) pa_nil)))
          (pa_cons (pe_call GD hr1 (by rfl) gD FD.kp bD .nil pass0 (pa_cons (pv 0) (pa_cons (pv 2) pa_nil))) (pa_cons pe_str pa_nil))))))
      (pss_cons (ps_if (pt_cmpR op_notN (pe_call GB hr3 (by rfl) gB FB.kp bB .nil pass0 (pa_cons (pe_make MK GI hr (by rfl) TT.mgC bI .nil pass0 (pa_cons (pv 3) pa_nil)) (pa_cons (pe_make MK GI hr (by rfl) TT.mgC bI .nil pass0 (pa_cons (pv 7) pa_nil)) pa_nil))) pe_non (nomark _)) (pss_one (ps_ret pe_bl)) pss_nil)
      (pss_one (ps_ret (pe_cmpR op_isN (pe_call GB hr3 (by rfl) gB FB.kp bB .nil pass0 (pa_cons (pe_make MK GI hr (by rfl) TT.mgC bI .nil pass0 (pa_cons (pv 7) pa_nil)) (pa_cons (pe_make MK GI hr (by rfl) TT.mgC bI .nil pass0 (pa_cons (pv 3) pa_nil)) pa_nil))) pe_non (nomark _)))))))))))), ?_⟩
    -- high, wide
    refine ⟨_, rfl, d, c, 4, rfl, by decide, by decide, hH, fun H1 m m0 m1 hH1 k1 => ⟨_, _, rfl, rfl, ?_⟩⟩
    refine ⟨_, rfl, d, c, 4, rfl, by decide, by decide, hH1, fun H2 n n0 n1 hH2 k2 => ⟨_, _, rfl, rfl, ?_⟩⟩
    refine ⟨_, _, rfl, ?_⟩
    obtain ⟨m, rfl⟩ : ∃ z : Nat, m = (z : Int) := ⟨m.toNat, by omega⟩
    obtain ⟨n, rfl⟩ : ∃ z : Nat, n = (z : Int) := ⟨n.toNat, by omega⟩
    show tSeq _ _ _ ([some (V.ref d), some (nv (3 + m)), some (nv (3 + n)), none, none, none, none, none] : L2.St) H2
    have h6 : 3 + m ≤ 6 := by omega
    have w6 : 3 + n ≤ 6 := by omega
    have h1 : 1 ≤ 3 + m := by omega
    have w1 : 1 ≤ 3 + n := by omega
    generalize 3 + m = hh at h6 h1 ⊢
    generalize 3 + n = ww at w6 w1 ⊢
    -- rows, orders_here
    refine ⟨_, rfl, _, rfl, _, rfl, d, c, hh, ww, rfl, hH2, by omega, by omega, fun H3 a tb tT R E4 hH3 k3 => ?_⟩
    have E30 : Ents 30 tb := E4.mono (by decide)
    refine ⟨_, rfl, _, rfl, d, c, hh, rfl, hH3, by omega, fun H4 px x hx ox hH4 k4 => ?_⟩
    refine ⟨_, rfl, _, rfl, d, c, ww, rfl, hH4, by omega, fun H5 py y hy oy hH5 k5 => ?_⟩
    refine ⟨by show 2 ≤ sizeLine; decide, fun o no => ?_⟩
    have s6 : Same H5 (upd H5 o (.tup [.ref px, .ref py])) := same_upd no
    have hH6 := hH5.same s6
    have t6 : TabAt (upd H5 o (.tup [.ref px, .ref py])) a tb := tT.keep (KeepT.trans (k4.keepT hH3) (KeepT.trans (k5.keepT hH4) (Same.keepT s6)))
    have pO : PairAt (upd H5 o (.tup [.ref px, .ref py])) o x y := ⟨px, py, upd_same, s6 _ _ (k5.keepT hH4 _ _ hx), s6 _ _ hy⟩
    show tSeq _ _ _ _ (upd H5 o (.tup [.ref px, .ref py]))
    generalize upd H5 o (.tup [.ref px, .ref py]) = H6 at hH6 t6 pO ⊢
    -- others
    refine ⟨_, rfl, _, rfl, a, o, tb, hh, ww, x, y, rfl, t6, R, pO, ox.lt, oy.lt, by rw [ox.len]; omega, by rw [oy.len]; omega, fun H7 b s7 tU => ?_⟩
    have RU : Rect (taken tb x y) hh ww := by
      have q := taken_rect tb x y
      rw [ox.len, oy.len] at q
      exact q
    have EU : Ents 30 (taken tb x y) := taken_ents R E30 ox.lt oy.lt
    have v0 : Valid hh ww tb (taken tb x y) x y := ⟨ox, oy, rfl⟩
    generalize taken tb x y = ub at tU RU EU v0
    -- told
    refine ⟨_, rfl, fun x8 dx8 nx8 ndx8 _ => table_made nx8 ndx8 (t6.keep (Same.keepT s7)) R E30 h1 (by omega) w1 (by omega) fun H8 s8 b8 => ?_⟩
    refine ⟨_, rfl, fun x9 dx9 nx9 ndx9 _ => table_made nx9 ndx9 (tU.keep (Same.keepT s8)) RU EU h1 (by omega) w1 (by omega) fun H9 s9 b9 => ?_⟩
    have s79 : Same H7 H9 := Same.trans s8 s9
    refine ⟨x8, x9, a, b, tb, ub, hh, ww, hh, ww, rfl, b8.same s9, t6.keep (Same.keepT (Same.trans s7 s79)), b9, tU.keep (Same.keepT s79), R, RU, E30, EU, h6, w6, h1, fun H10 v res s10 le at1 => ?_⟩
    cases res with
    | none => exact (le x y v0).elim
    | some op =>
      obtain ⟨oa, ob⟩ := op
      obtain ⟨t, rfl, pT⟩ := at1
      obtain ⟨v1, least⟩ := le
      have s7T : Same H7 H10 := Same.trans s79 s10
      have s610 : Same H6 H10 := Same.trans s7 s7T
      have t10 : TabAt H10 a tb := t6.keep (Same.keepT s610)
      have u10 : TabAt H10 b ub := tU.keep (Same.keepT s7T)
      have pO10 : PairAt H10 o x y := pO.keep (Same.keepT s610)
      -- not is_pair or taken != others or told > orders_here
      refine ⟨_, rfl, _, rfl, _, rfl, t, oa, ob, hh, ww, rfl, pT, v1.oa, v1.ob, h6, w6, fun H11 s11 => ⟨true, rfl, iteF ?_⟩⟩
      refine ⟨_, rfl, _, rfl, a, t, tb, hh, ww, oa, ob, rfl, t10.keep (Same.keepT s11), R, pT.keep (Same.keepT s11), v1.oa.lt, v1.ob.lt, by rw [v1.oa.len]; omega, by rw [v1.ob.len]; omega, fun H12 g s12 tG => ?_⟩
      rw [v1.eq] at tG
      have s112 : Same H10 H12 := Same.trans s11 s12
      refine ⟨_, rfl, tabD ub, tabD ub, dp_tab tG, dp_tab (u10.keep (Same.keepT s112)), (small_tabD EU).shaped (by decide), (small_tabD EU).shaped (by decide), _, rfl, ?_⟩
      rw [SeqAt.eqv_refl _ (small_tabD EU).lay]
      refine iteF ?_
      refine ⟨_, rfl, _, rfl, t, o, oa, ob, x, y, rfl, rfl, pT.keep (Same.keepT s112), pO10.keep (Same.keepT s112), by rw [v1.oa.len, ox.len], by rw [v1.ob.len, oy.len], least x y v0, _, rfl, iteF ?_⟩
      -- told != least
      refine ⟨_, rfl, _, rfl, _, rfl, a, b, tb, ub, hh, ww, rfl, t10.keep (Same.keepT s112), u10.keep (Same.keepT s112), R, RU, E30, EU, h1, h6, w6, fun H13 v13 r13 s13 le13 at13 => ?_⟩
      have er : r13 = some (oa, ob) := Least.uniq le13 ⟨v1, least⟩
      subst er
      obtain ⟨t13, rfl, p13⟩ := at13
      have s1013 : Same H10 H13 := Same.trans s112 s13
      refine ⟨pairD oa ob, pairD oa ob, dp_pair (pT.keep (Same.keepT s1013)), dp_pair p13, (small_pairD oa ob).shaped (by decide), (small_pairD oa ob).shaped (by decide), _, rfl, ?_⟩
      rw [SeqAt.eqv_refl _ (small_pairD oa ob).lay]
      refine iteF ?_
      -- spoiled
      have hH13 : HandAt H13 d c := hH6.same (Same.trans s610 s1013)
      refine ⟨_, rfl, _, rfl, _, rfl, d, c, hh, rfl, by omega, by omega, hH13, fun H14 p p0 p1 hH14 k14 => ?_⟩
      refine ⟨_, rfl, _, rfl, d, c, ww, rfl, by omega, by omega, hH14, fun H15 q q0 q1 hH15 k15 => ?_⟩
      obtain ⟨p, rfl⟩ : ∃ z : Nat, p = (z : Int) := ⟨p.toNat, by omega⟩
      obtain ⟨q, rfl⟩ : ∃ z : Nat, q = (z : Int) := ⟨q.toNat, by omega⟩
      have hp : p < hh := by omega
      have hq : q < ww := by omega
      have kT15 : KeepT H13 H15 := KeepT.trans (k14.keepT hH13) (k15.keepT hH14)
      have u15 : TabAt H15 b ub := (u10.keep (Same.keepT s1013)).keep kT15
      have t15 : TabAt H15 a tb := (t10.keep (Same.keepT s1013)).keep kT15
      refine ⟨b, ub, hh, ww, p, q, some ZZ, rfl, u15, RU, hp, hq, by omega, by omega, fun H16 z s16 tZ => ?_⟩
      have RZ' : Rect (putT ub p q (some ZZ)) hh ww := putT_rect RU hp hq
      have EZ : Ents 30 (putT ub p q (some ZZ)) := putT_ents RU EU hp zz_fine
      have zz : ent (putT ub p q (some ZZ)) p q = some ZZ := putT_ent RU hp hq
      have nz := zz_not R E4
      generalize putT ub p q (some ZZ) = zb at tZ RZ' EZ zz
      have t16 : TabAt H16 a tb := t15.keep (Same.keepT s16)
      refine ⟨_, rfl, fun x17 dx17 nx17 ndx17 _ => table_made nx17 ndx17 t16 R E30 h1 (by omega) w1 (by omega) fun H17 s17 b17 => ?_⟩
      refine ⟨_, rfl, fun x18 dx18 nx18 ndx18 _ => table_made nx18 ndx18 (tZ.keep (Same.keepT s17)) RZ' EZ h1 (by omega) w1 (by omega) fun H18 s18 b18 => ?_⟩
      have s1618 : Same H16 H18 := Same.trans s17 s18
      refine ⟨x17, x18, a, z, tb, zb, hh, ww, hh, ww, rfl, b17.same s18, t16.keep (Same.keepT s1618), b18, tZ.keep (Same.keepT s1618), R, RZ', E30, EZ, h6, w6, h1, fun H19 v19 r19 s19 le19 at19 => ?_⟩
      have e19 : r19 = none := least_spoiled nz hp hq zz le19
      subst e19
      have ev : v19 = .non := at19
      subst ev
      refine ⟨rfl, _, rfl, iteF ?_⟩
      have s1619 : Same H16 H19 := Same.trans s1618 s19
      refine ⟨_, rfl, fun x20 dx20 nx20 ndx20 _ => table_made nx20 ndx20 (tZ.keep (Same.keepT s1619)) RZ' EZ h1 (by omega) w1 (by omega) fun H20 s20 b20 => ?_⟩
      have s1620 : Same H16 H20 := Same.trans s1619 s20
      refine ⟨_, rfl, fun x21 dx21 nx21 ndx21 _ => table_made nx21 ndx21 (t16.keep (Same.keepT s1620)) R E30 h1 (by omega) w1 (by omega) fun H21 s21 b21 => ?_⟩
      have s1621 : Same H16 H21 := Same.trans s1620 s21
      refine ⟨x20, x21, z, a, zb, tb, hh, ww, hh, ww, rfl, b20.same s21, tZ.keep (Same.keepT s1621), b21, t16.keep (Same.keepT s1621), RZ', R, EZ, E30, h6, w6, h1, fun H22 v22 r22 s22 le22 at22 => ?_⟩
      have e22 : r22 = none := least_spoiled' nz hp hq zz le22
      subst e22
      have ev : v22 = .non := at22
      subst ev
      exact ⟨rfl, k H22⟩
end
end K56

namespace K56
open PySem PySem.Spec PyProof.Rows L2
section
variable {P : Program} {w : World} {K : PySem.W.Frag} {mg : Str → Option Value} {base : Heap}
def spLaw (K : PySem.W.Frag) : Sp := fun vs H Q _ => ∃ (a : Addr) (ns : List Int), vs = [.ref a] ∧ SqL K H a (ns.map V.int) ∧ ns.length ≤ 63 ∧ ∀ H', Q (.bl true) H'
abbrev nLaw : List Str := ["_law_script", "_law_hand_here", "_law_turn", "_law_kind", "_law_rows", "_law_orders_here", "_law_others"]
theorem scLaw : FnScope nLaw ["_law_script"] (defScope sLaw) := ⟨rfl, rfl, rfl, by decide +kernel, rfl, by decide +kernel, by decide +kernel⟩
theorem ok_law {f fH fD fX fO fT fE fR fL : Addr} {fd fdH fdD fdX fdO fdT fdE fdR fdL : FuncData} (F : Fun K "law" "law" sLaw f fd) (T : Txt K mg) (D : Drw P w K mg base fD fdD)
    (HD : Fn1 P w K mg base 1 "_law_hand" sHand ["_law_script"] (spHand K) fH fdH)
    (BX : Fn1 P w K mg base 3 "_law_boxes" sBoxes ["_law_hand_here", "_law_high", "_law_wide"] spBoxes fX fdX) (OD : Fn1 P w K mg base 2 "_law_order" sOrder ["_law_hand_here", "_law_many"] spOrder fO fdO)
    (TK : Fn1 P w K mg base 1 "_law_taken" sTaken ["_law_rows", "_law_orders_here"] spTaken fT fdT) (BE : Fn1 P w K mg base 4 "_law_bent" sBent ["_law_hand_here", "_law_rows", "_law_kind"] spBent fE fdE)
    (RI : Fn1 P w K mg base 7 "_law_right" sRight ["_law_rows", "_law_others"] spRight fR fdR) (LA : Fn1 P w K mg base 7 "_law_large" sLarge ["_law_hand_here"] spLarge fL fdL) :
    FnOk P w K mg base CX0 8 f fd ["_law_script"] (spLaw K) := by
  obtain ⟨FD, GD, bD, gD⟩ := D
  obtain ⟨FH, GH, bH, gH⟩ := HD
  obtain ⟨FX, GX, bX, gX⟩ := BX
  obtain ⟨FO, GO, bO, gO⟩ := OD
  obtain ⟨FT, GT, bT, gT⟩ := TK
  obtain ⟨FE, GE, bE, gE⟩ := BE
  obtain ⟨FR, GR, bR, gR⟩ := RI
  obtain ⟨FL, GL, bL, gL⟩ := LA
  refine F.ok scLaw (fun vs H Q E h => ?_) (fun cdv A outer s H vs Q E hr h => ?_)
  · obtain ⟨a, ns, rfl, _⟩ := h
    rfl
  · obtain ⟨a, ns, rfl, hS, h63, k⟩ := h
    have hr1 : Room 1 _ := hr.mono (by decide)
    have hr2 : Room 2 _ := hr.mono (by decide)
    have hr3 : Room 3 _ := hr.mono (by decide)
    have hr4 : Room 4 _ := hr.mono (by decide)
    refine ⟨_, pss_cons (ps_set (i := 1) scLaw.nd rfl (.inl rfl) (pe_call GH hr1 (by rfl) gH FH.kp bH .nil pass0 (pa_cons (pv 0) pa_nil)))
      (pss_cons (ps_for PassesOwn.never rfl (pi_range1 rfl T.range (pa_cons pe_int pa_nil)) (pg_name (i := 2) scLaw.nd rfl (.inl rfl))
        (pss_cons (ps_set (i := 3) scLaw.nd rfl (.inl rfl) (pe_call GD hr1 (by rfl) gD FD.kp bD .nil pass0 (pa_cons (pv 1) (pa_cons pe_int pa_nil))))
        (pss_cons (ps_set (i := 4) scLaw.nd rfl (.inl rfl) (pe_call GX hr3 (by rfl) gX FX.kp bX .nil pass0 (pa_cons (pv 1) (pa_cons (pe_op op_add pe_int (pe_call GD hr1 (by rfl) gD FD.kp bD .nil pass0 (pa_cons (pv 1) (pa_cons pe_int pa_nil))))
          (pa_cons (pe_op op_add pe_int (pe_call GD hr1 (by rfl) gD FD.kp bD .nil pass0 (pa_cons (pv 1) (pa_cons pe_int pa_nil)))) pa_nil)))))
        (pss_cons (ps_set (i := 5) scLaw.nd rfl (.inl rfl) (pe_tup (pa_cons (pe_call GO hr2 (by rfl) gO FO.kp bO .nil pass0 (pa_cons (pv 1) (pa_cons (pe_callB call_len_seq (by rfl) T.len PySem.boot_len (pa_cons (pv 4) pa_nil)) pa_nil)))
          (pa_cons (pe_call GO hr2 (by rfl) gO FO.kp bO .nil pass0 (pa_cons (pv 1) (pa_cons (pe_callB call_len_seq (by rfl) T.len PySem.boot_len (pa_cons (pe_ix ix_tup (pv 4) pe_int (fun _ _ => rfl)) pa_nil)) pa_nil))) pa_nil))))
        (pss_cons (ps_set (i := 6) scLaw.nd rfl (.inl rfl) (pe_call GE hr4 (by rfl) gE FE.kp bE .nil pass0 (pa_cons (pv 1) (pa_cons (pe_call GT hr1 (by rfl) gT FT.kp bT .nil pass0 (pa_cons (pv 4) (pa_cons (pv 5) pa_nil))) (pa_cons (pv 3) pa_nil)))))
        (pss_one (ps_if (PW.pt (pw_or (pt_not (pt_val (pe_call GR hr (by rfl) gR FR.kp bR .nil pass0 (pa_cons (pv 4) (pa_cons (pv 6) pa_nil)))))
          (pw_or (pt_not (pt_val (pe_call GR hr (by rfl) gR FR.kp bR .nil pass0 (pa_cons (pv 6) (pa_cons (pv 4) pa_nil))))) (pw_or1 (pt_not (pt_val (pe_call GR hr (by rfl) gR FR.kp bR .nil pass0 (pa_cons (pv 4) (pa_cons (pv 4) pa_nil))))))))) (pss_one (ps_ret pe_bl)) pss_nil)))))))
      (pss_one (ps_ret (pe_call GL hr (by rfl) gL FL.kp bL .nil pass0 (pa_cons (pv 1) pa_nil))))), ?_⟩
    refine ⟨_, rfl, a, ns, rfl, hS, h63, fun H1 d c s1 hH1 => ?_⟩
    refine ⟨3, rfl, by decide, by decide, for_range (lo := 0) (n := 3) (fun i σ H' => ∃ v2 v3 v4 v5 v6, σ = [some (.ref a), some (.ref d), v2, v3, v4, v5, v6] ∧ HandAt H' d c) ⟨none, none, none, none, none, rfl, hH1⟩ ?_ ?_⟩
    · rintro i σ H2 hi ⟨v2, v3, v4, v5, v6, rfl, hH2⟩
      -- kind, rows
      refine ⟨_, rfl, d, c, 7, rfl, by decide, by decide, hH2, fun H3 kind _ _ hH3 _ => ?_⟩
      refine ⟨_, rfl, _, rfl, d, c, 4, rfl, by decide, by decide, hH3, fun H4 m m0 m1 hH4 _ => ⟨_, _, rfl, rfl, ?_⟩⟩
      refine ⟨_, rfl, d, c, 4, rfl, by decide, by decide, hH4, fun H5 n n0 n1 hH5 _ => ⟨_, _, rfl, rfl, ?_⟩⟩
      obtain ⟨m, rfl⟩ : ∃ z : Nat, m = (z : Int) := ⟨m.toNat, by omega⟩
      obtain ⟨n, rfl⟩ : ∃ z : Nat, n = (z : Int) := ⟨n.toNat, by omega⟩
      refine ⟨d, c, 1 + m, 1 + n, rfl, hH5, by omega, by omega, fun H6 b tb tT R E4 hH6 _ => ?_⟩
      have h6 : 1 + m ≤ 6 := by omega
      have w6 : 1 + n ≤ 6 := by omega
      have h1 : 1 ≤ 1 + m := by omega
      have w1 : 1 ≤ 1 + n := by omega
      generalize 1 + m = hh at h6 h1 R
      generalize 1 + n = ww at w6 w1 R
      have E30 : Ents 30 tb := E4.mono (by decide)
      obtain ⟨rs, r0, row0, hb, hl, hr0, h0, hl0, _⟩ := tT.first R h1
      have lr : (rs.map V.ref).length = hh := by rw [List.length_map, hl]
      have lr0 : (row0.map fv).length = ww := by rw [List.length_map, hl0]
      -- orders_here
      refine ⟨_, rfl, _, rfl, b, _, rfl, .inr (SqT.of hb), d, c, hh, by rw [lr]; rfl, hH6, by omega, fun H7 px x hx ox hH7 k7 => ?_⟩
      have kT7 : KeepT H6 H7 := k7.keepT hH6
      refine ⟨_, rfl, _, rfl, b, _, 0, .ref r0, rfl, rfl, SqT.of (kT7 _ _ hb), atI_nat (j := 0) (map_at hr0), r0, _, rfl, .inr (SqT.of (kT7 _ _ h0)), d, c, ww, by rw [lr0]; rfl, hH7, by omega, fun H8 py y hy oy hH8 k8 => ?_⟩
      have kT8 : KeepT H7 H8 := k8.keepT hH7
      refine ⟨by show 2 ≤ sizeLine; decide, fun o no => ?_⟩
      have s9 : Same H8 (upd H8 o (.tup [.ref px, .ref py])) := same_upd no
      have kT9 : KeepT H6 (upd H8 o (.tup [.ref px, .ref py])) := KeepT.trans kT7 (KeepT.trans kT8 (Same.keepT s9))
      have pO : PairAt (upd H8 o (.tup [.ref px, .ref py])) o x y := ⟨px, py, upd_same, s9 _ _ (kT8 _ _ hx), s9 _ _ hy⟩
      -- others
      refine ⟨_, rfl, _, rfl, _, rfl, b, o, tb, hh, ww, x, y, rfl, tT.keep kT9, R, pO, ox.lt, oy.lt, by rw [ox.len]; omega, by rw [oy.len]; omega, fun H10 g s10 tG => ?_⟩
      have RG : Rect (taken tb x y) hh ww := by
        have q := taken_rect tb x y
        rw [ox.len, oy.len] at q
        exact q
      have EG : Ents 4 (taken tb x y) := taken_ents R E4 ox.lt oy.lt
      have hH10 : HandAt H10 d c := hH8.same (Same.trans s9 s10)
      have kT10 : KeepT H6 H10 := KeepT.trans kT9 (Same.keepT s10)
      refine ⟨_, rfl, d, c, g, _, hh, ww, kind, rfl, hH10, tG, RG, EG, h1, h6, w1, w6, fun H11 u ub hh' ww' tU RU EU h1' h6' w1' w6' hH11 k11 => ?_⟩
      have kT11 : KeepT H6 H11 := KeepT.trans kT10 (k11.keepT hH10)
      have EU30 : Ents 30 ub := EU.mono (by decide)
      have t11 : TabAt H11 b tb := tT.keep kT11
      refine ⟨_, rfl, _, rfl, b, u, tb, ub, hh, ww, hh', ww', rfl, t11, tU, R, RU, E30, EU30, ⟨h1, h6⟩, ⟨w1, w6⟩, ⟨h1', h6'⟩, ⟨w1', w6'⟩, fun H12 s12 => ⟨true, rfl, iteF ?_⟩⟩
      refine ⟨_, rfl, _, rfl, u, b, ub, tb, hh', ww', hh, ww, rfl, tU.keep (Same.keepT s12), t11.keep (Same.keepT s12), RU, R, EU30, E30, ⟨h1', h6'⟩, ⟨w1', w6'⟩, ⟨h1, h6⟩, ⟨w1, w6⟩, fun H13 s13 => ⟨true, rfl, iteF ?_⟩⟩
      have s1113 : Same H11 H13 := Same.trans s12 s13
      refine ⟨_, rfl, _, rfl, b, b, tb, tb, hh, ww, hh, ww, rfl, t11.keep (Same.keepT s1113), t11.keep (Same.keepT s1113), R, R, E30, E30, ⟨h1, h6⟩, ⟨w1, w6⟩, ⟨h1, h6⟩, ⟨w1, w6⟩, fun H14 s14 => ⟨true, rfl, iteF ?_⟩⟩
      exact ⟨_, _, _, _, _, rfl, hH11.same (Same.trans s1113 s14)⟩
    · rintro σ H2 ⟨v2, v3, v4, v5, v6, rfl, hH2⟩
      exact ⟨_, rfl, d, c, rfl, hH2, k⟩
end
end K56

namespace K56
open PySem PySem.Spec PyProof.Rows L2
/-! ### what the top has left -/
def FnAt (K : PySem.W.Frag) (x : Str) (st : Stmt) : Prop := ∃ (f : Addr) (fd : FuncData), Fun K x x st f fd ∧ PySem.W.nsIn K mainGlobals x = some (some (.ref f))
theorem fnAt_of {K : PySem.W.Frag} {x : Str} {st : Stmt} {f : Addr} {oc kV dc pm cd ct : Value} {od an : Option Addr} {sl : Array (Option Value)} (a : PySem.W.nsIn K mainGlobals x = some (some (.ref f)))
    (l : K.lookup f = some ⟨oc, od, .func (PySem.W.fnOf x x (defArgs st) (defBody st) (defScope st) .none kV dc pm an cd ct), sl⟩) (c : PySem.W.codeIn K cd x = true) (k : PySem.W.keepIn K (.ref f) = true) : FnAt K x st := ⟨f, _, fun_mk l c k, a⟩
structure ClsAt (K : PySem.W.Frag) (C fI fK : Addr) (fdI fdK : FuncData) : Prop where
  at_ : PySem.W.nsIn K mainGlobals "Table" = some (some (.ref C))
  cl : Cls K C
  nB : NoAttr K C "boxes"
  nH : NoAttr K C "height"
  nW : NoAttr K C "width"
  nK : NoAttr K C "kept_told"
  makes : Mk K C fI
  ini : Fun K "__init__" "Table.__init__" sInit fI fdI
  mt : Meth K C "keep" fK
  kp : Fun K "keep" "Table.keep" sKeep fK fdK
def TblAt (K : PySem.W.Frag) : Prop := ∃ (C fI fK : Addr) (fdI fdK : FuncData), ClsAt K C fI fK fdI fdK
theorem tblAt_of {K : PySem.W.Frag} {C f1 f2 : Addr} {od1 an1 od2 an2 : Option Addr} {sl1 sl2 : Array (Option Value)} {oc1 kV1 dc1 pm1 cd1 ct1 oc2 kV2 dc2 pm2 cd2 ct2 : Value}
    (aC : PySem.W.nsIn K mainGlobals "Table" = some (some (.ref C)))
    (a1 : PySem.W.findIn K (.ref C) "__init__" = some (some (.ref f1))) (i1 : PySem.W.isFn K (.ref f1) = true) (l1 : K.lookup f1 = some ⟨oc1, od1, .func (PySem.W.fnOf "__init__" "Table.__init__" (defArgs sInit) (defBody sInit) (defScope sInit) .none kV1 dc1 pm1 an1 cd1 ct1), sl1⟩) (c1 : PySem.W.codeIn K cd1 "Table.__init__" = true) (k1 : PySem.W.keepIn K (.ref f1) = true)
    (a2 : PySem.W.findIn K (.ref C) "keep" = some (some (.ref f2))) (i2 : PySem.W.isFn K (.ref f2) = true) (l2 : K.lookup f2 = some ⟨oc2, od2, .func (PySem.W.fnOf "keep" "Table.keep" (defArgs sKeep) (defBody sKeep) (defScope sKeep) .none kV2 dc2 pm2 an2 cd2 ct2), sl2⟩) (c2 : PySem.W.codeIn K cd2 "Table.keep" = true) (k2 : PySem.W.keepIn K (.ref f2) = true)
    (pg : PySem.W.plainGet K C Str.empty = true) (hd : PySem.W.hasDictIn K C = true) (po : PySem.W.plainOver K C = true) (sa : PySem.W.findIn K (.ref C) "__setattr__" = some (some (.builtin "object.__setattr__"))) (mk : PySem.W.makesIn K C = true) (kc : PySem.W.keepIn K (.ref C) = true)
    (nB : PySem.W.findIn K (.ref C) "boxes" = some none) (nH : PySem.W.findIn K (.ref C) "height" = some none) (nW : PySem.W.findIn K (.ref C) "width" = some none) (nK : PySem.W.findIn K (.ref C) "kept_told" = some none) : TblAt K :=
  ⟨C, f1, f2, _, _, aC, ⟨pg, hd, po, sa⟩, nB, nH, nW, nK, ⟨mk, a1, i1, kc⟩, fun_mk (st := sInit) l1 c1 k1, ⟨a2, i2, k2⟩, fun_mk (st := sKeep) l2 c2 k2⟩
theorem all_of {l : PySem.W.OpenLaw} {w : World} {K : PySem.W.Frag} {h : Heap} {mg : Str → Option Value} {fa : Addr} {t0 t1 t2 t3 : Tok} (X : K.In h) (G : h.Ns mainGlobals mg) (hfa : mg "law" = some (.ref fa))
    (p0 : FnAt K "is_word" sIsWord) (p1 : FnAt K "is_text" sIsText) (p2 : FnAt K "is_form" sIsForm) (p3 : FnAt K "is_row" sIsRow) (p4 : FnAt K "is_box_text" sIsBoxText) (p5 : FnAt K "written" sWritten) (p6 : FnAt K "orders_of_rows" sRows) (p7 : FnAt K "columns_in" sCols) (p8 : FnAt K "orders_between" sBetween) (p9 : FnAt K "_law_hand" sHand) (p10 : FnAt K "_law_draw" sDraw) (p11 : FnAt K "_law_some" sSome) (p12 : FnAt K "_law_text" sText) (p13 : FnAt K "_law_boxes" sBoxes) (p14 : FnAt K "_law_order" sOrder) (p15 : FnAt K "_law_orders" sOrders) (p16 : FnAt K "_law_taken" sTaken) (p17 : FnAt K "_law_due" sDue) (p18 : FnAt K "_law_least" sLeast) (p19 : FnAt K "_law_put" sPut) (p20 : FnAt K "_law_bent" sBent) (p21 : FnAt K "_law_is_pair" sIsPair) (p22 : FnAt K "_law_right" sRight) (p23 : FnAt K "_law_large" sLarge) (p24 : FnAt K "law" sLaw) (pC : TblAt K)
    (z0 : PySem.W.nsIn K mainGlobals "isinstance" = some none) (z1 : PySem.W.nsIn K mainGlobals "str" = some none) (z2 : PySem.W.nsIn K mainGlobals "all" = some none) (z3 : PySem.W.nsIn K mainGlobals "len" = some none) (z4 : PySem.W.nsIn K mainGlobals "tuple" = some none) (z5 : PySem.W.nsIn K mainGlobals "sorted" = some none) (z6 : PySem.W.nsIn K mainGlobals "range" = some none) (z7 : PySem.W.nsIn K mainGlobals "enumerate" = some none) (z8 : PySem.W.nsIn K mainGlobals "list" = some none) (z9 : PySem.W.nsIn K mainGlobals "zip" = some none) (z10 : PySem.W.nsIn K mainGlobals "abs" = some none) (z11 : PySem.W.nsIn K mainGlobals "int" = some none) (z12 : PySem.W.nsIn K mainGlobals "bool" = some none)
    (y0 : PySem.W.nsIn K mainGlobals "MOST_SIDE" = some (some (.int 6 t0))) (y1 : PySem.W.nsIn K mainGlobals "LETTERS" = some (some (.str "abcdefghijklmnopqrstuvwxyz" t1))) (y2 : PySem.W.nsIn K mainGlobals "MOST_ROWS" = some (some (.int 12 t2))) (y3 : PySem.W.nsIn K mainGlobals "MOST_LETTERS" = some (some (.int 30 t3))) :
    ∃ fd : FuncData, (∀ (s : Shared) (v : Value), BindsTo s fd ⟨[v], []⟩ [("_law_script", v)]) ∧ ∀ base : Heap, K.In base → base.Ns mainGlobals mg → FnOk l.prog w K mg base CX0 8 fa fd ["_law_script"] (spLaw K) := by
  have T : Txt K mg := ⟨PySem.W.mg_none_of X G z0, PySem.W.mg_none_of X G z1, PySem.W.mg_none_of X G z2, PySem.W.mg_none_of X G z3, PySem.W.mg_none_of X G z4, PySem.W.mg_none_of X G z5, PySem.W.mg_none_of X G z6, PySem.W.mg_none_of X G z7, PySem.W.mg_none_of X G z8, PySem.W.mg_none_of X G z9, PySem.W.mg_none_of X G z10, PySem.W.mg_none_of X G z11, PySem.W.mg_none_of X G z12, ⟨_, PySem.W.mg_of X G y0⟩, ⟨_, PySem.W.mg_of X G y1⟩, ⟨_, PySem.W.mg_of X G y2⟩, ⟨_, PySem.W.mg_of X G y3⟩⟩
  obtain ⟨f0, fd0, F0, n0⟩ := p0
  have g0 := PySem.W.mg_of X G n0
  have b0 := F0.binds (ps := ["letters", "thing"]) fun _ _ _ _ _ _ us hl => match us, hl with | [_, _], _ => rfl
  obtain ⟨f1, fd1, F1, n1⟩ := p1
  have g1 := PySem.W.mg_of X G n1
  have b1 := F1.binds (ps := ["thing"]) fun _ _ _ _ _ _ us hl => match us, hl with | [_], _ => rfl
  obtain ⟨f2, fd2, F2, n2⟩ := p2
  have g2 := PySem.W.mg_of X G n2
  have b2 := F2.binds (ps := ["thing", "most"]) fun _ _ _ _ _ _ us hl => match us, hl with | [_, _], _ => rfl
  obtain ⟨f3, fd3, F3, n3⟩ := p3
  have g3 := PySem.W.mg_of X G n3
  have b3 := F3.binds (ps := ["thing"]) fun _ _ _ _ _ _ us hl => match us, hl with | [_], _ => rfl
  obtain ⟨f4, fd4, F4, n4⟩ := p4
  have g4 := PySem.W.mg_of X G n4
  have b4 := F4.binds (ps := ["thing"]) fun _ _ _ _ _ _ us hl => match us, hl with | [_], _ => rfl
  obtain ⟨f5, fd5, F5, n5⟩ := p5
  have g5 := PySem.W.mg_of X G n5
  have b5 := F5.binds (ps := ["forms"]) fun _ _ _ _ _ _ us hl => match us, hl with | [_], _ => rfl
  obtain ⟨f6, fd6, F6, n6⟩ := p6
  have g6 := PySem.W.mg_of X G n6
  have b6 := F6.binds (ps := ["one", "other"]) fun _ _ _ _ _ _ us hl => match us, hl with | [_, _], _ => rfl
  obtain ⟨f7, fd7, F7, n7⟩ := p7
  have g7 := PySem.W.mg_of X G n7
  have b7 := F7.binds (ps := ["one", "rows", "other"]) fun _ _ _ _ _ _ us hl => match us, hl with | [_, _, _], _ => rfl
  obtain ⟨f8, fd8, F8, n8⟩ := p8
  have g8 := PySem.W.mg_of X G n8
  have b8 := F8.binds (ps := ["one", "other"]) fun _ _ _ _ _ _ us hl => match us, hl with | [_, _], _ => rfl
  obtain ⟨f9, fd9, F9, n9⟩ := p9
  have g9 := PySem.W.mg_of X G n9
  have b9 := F9.binds (ps := ["_law_script"]) fun _ _ _ _ _ _ us hl => match us, hl with | [_], _ => rfl
  obtain ⟨f10, fd10, F10, n10⟩ := p10
  have g10 := PySem.W.mg_of X G n10
  have b10 := F10.binds (ps := ["_law_hand_here", "_law_many"]) fun _ _ _ _ _ _ us hl => match us, hl with | [_, _], _ => rfl
  obtain ⟨f11, fd11, F11, n11⟩ := p11
  have g11 := PySem.W.mg_of X G n11
  have b11 := F11.binds (ps := ["_law_hand_here", "_law_things"]) fun _ _ _ _ _ _ us hl => match us, hl with | [_, _], _ => rfl
  obtain ⟨f12, fd12, F12, n12⟩ := p12
  have g12 := PySem.W.mg_of X G n12
  have b12 := F12.binds (ps := ["_law_hand_here", "_law_letters", "_law_most"]) fun _ _ _ _ _ _ us hl => match us, hl with | [_, _, _], _ => rfl
  obtain ⟨f13, fd13, F13, n13⟩ := p13
  have g13 := PySem.W.mg_of X G n13
  have b13 := F13.binds (ps := ["_law_hand_here", "_law_high", "_law_wide"]) fun _ _ _ _ _ _ us hl => match us, hl with | [_, _, _], _ => rfl
  obtain ⟨f14, fd14, F14, n14⟩ := p14
  have g14 := PySem.W.mg_of X G n14
  have b14 := F14.binds (ps := ["_law_hand_here", "_law_many"]) fun _ _ _ _ _ _ us hl => match us, hl with | [_, _], _ => rfl
  obtain ⟨f15, fd15, F15, n15⟩ := p15
  have g15 := PySem.W.mg_of X G n15
  have b15 := F15.binds (ps := ["_law_many"]) fun _ _ _ _ _ _ us hl => match us, hl with | [_], _ => rfl
  obtain ⟨f16, fd16, F16, n16⟩ := p16
  have g16 := PySem.W.mg_of X G n16
  have b16 := F16.binds (ps := ["_law_rows", "_law_orders_here"]) fun _ _ _ _ _ _ us hl => match us, hl with | [_, _], _ => rfl
  obtain ⟨f17, fd17, F17, n17⟩ := p17
  have g17 := PySem.W.mg_of X G n17
  have b17 := F17.binds (ps := ["_law_rows", "_law_others"]) fun _ _ _ _ _ _ us hl => match us, hl with | [_, _], _ => rfl
  obtain ⟨f18, fd18, F18, n18⟩ := p18
  have g18 := PySem.W.mg_of X G n18
  have b18 := F18.binds (ps := ["_law_rows", "_law_others"]) fun _ _ _ _ _ _ us hl => match us, hl with | [_, _], _ => rfl
  obtain ⟨f19, fd19, F19, n19⟩ := p19
  have g19 := PySem.W.mg_of X G n19
  have b19 := F19.binds (ps := ["_law_rows", "_law_at", "_law_place", "_law_form"]) fun _ _ _ _ _ _ us hl => match us, hl with | [_, _, _, _], _ => rfl
  obtain ⟨f20, fd20, F20, n20⟩ := p20
  have g20 := PySem.W.mg_of X G n20
  have b20 := F20.binds (ps := ["_law_hand_here", "_law_rows", "_law_kind"]) fun _ _ _ _ _ _ us hl => match us, hl with | [_, _, _], _ => rfl
  obtain ⟨f21, fd21, F21, n21⟩ := p21
  have g21 := PySem.W.mg_of X G n21
  have b21 := F21.binds (ps := ["_law_told", "_law_high", "_law_wide"]) fun _ _ _ _ _ _ us hl => match us, hl with | [_, _, _], _ => rfl
  obtain ⟨f22, fd22, F22, n22⟩ := p22
  have g22 := PySem.W.mg_of X G n22
  have b22 := F22.binds (ps := ["_law_rows", "_law_others"]) fun _ _ _ _ _ _ us hl => match us, hl with | [_, _], _ => rfl
  obtain ⟨f23, fd23, F23, n23⟩ := p23
  have g23 := PySem.W.mg_of X G n23
  have b23 := F23.binds (ps := ["_law_hand_here"]) fun _ _ _ _ _ _ us hl => match us, hl with | [_], _ => rfl
  obtain ⟨f24, fd24, F24, n24⟩ := p24
  obtain ⟨C, fI, fK, fdI, fdK, aC, cl, nB, nH, nW, nK, MK, FI, mK, FK⟩ := pC
  have TT : TxtT K mg C := ⟨cl, nB, nH, nW, nK, PySem.W.mg_of X G aC⟩
  have bI := FI.binds (ps := ["self", "boxes"]) fun _ _ _ _ _ _ us hl => match us, hl with | [_, _], _ => rfl
  have bK := FK.binds (ps := ["self", "boxes"]) fun _ _ _ _ _ _ us hl => match us, hl with | [_, _], _ => rfl
  have e := hfa.symm.trans (PySem.W.mg_of X G n24)
  cases e
  refine ⟨fd24, fun s v => ?_, fun base _ _ => ?_⟩
  · obtain ⟨oc, od, kV, doc, pm, an, cdv, ct, osl, rfl, lk, hcd⟩ := F24.ex
    exact .of_eq rfl
  · have G0 := ok_isWord (P := l.prog) (w := w) (base := base) F0 T
    have G1 := ok_isText (P := l.prog) (w := w) (base := base) F1 F0 b0 g0 T
    have G2 := ok_isForm (P := l.prog) (w := w) (base := base) F2 F1 G1 b1 g1 T
    have G3 := ok_isRow (P := l.prog) (w := w) (base := base) F3 T
    have G4 := ok_isBoxText (P := l.prog) (w := w) (base := base) F4 F2 G2 b2 g2 T
    have GK := ok_keep (P := l.prog) (w := w) (base := base) FK T TT
    have GI := ok_init (P := l.prog) (w := w) (base := base) FI T TT F3 G3 b3 g3 F4 G4 b4 g4 GK bK mK
    have TB : TabFn l.prog w K mg base C fI fdI := ⟨TT, MK, GI, bI⟩
    have G5 := ok_written (P := l.prog) (w := w) (base := base) F5 T
    have G6 := ok_rows (P := l.prog) (w := w) (base := base) F6 T TT F5 G5 b5 g5
    have G7 := ok_cols (P := l.prog) (w := w) (base := base) F7 T TT
    have G8 := ok_between (P := l.prog) (w := w) (base := base) F8 T TT F6 G6 b6 g6 F7 G7 b7 g7
    have BT : Fn1 l.prog w K mg base _ _ _ _ _ _ _ := ⟨F8, G8, b8, g8⟩
    have G9 := ok_hand (P := l.prog) (w := w) (base := base) F9 T
    have HD : Fn1 l.prog w K mg base _ _ _ _ _ _ _ := ⟨F9, G9, b9, g9⟩
    have G10 := ok_draw (P := l.prog) (w := w) (base := base) F10 T
    have D : Drw l.prog w K mg base f10 fd10 := ⟨F10, G10, b10, g10⟩
    have G11 := ok_some (P := l.prog) (w := w) (base := base) F11 T D
    have SM : Fn1 l.prog w K mg base _ _ _ _ _ _ _ := ⟨F11, G11, b11, g11⟩
    have G12 := ok_text (P := l.prog) (w := w) (base := base) F12 T D
    have G13 := ok_boxes (P := l.prog) (w := w) (base := base) F13 T D F12 G12 b12 g12
    have BX : Fn1 l.prog w K mg base _ _ _ _ _ _ _ := ⟨F13, G13, b13, g13⟩
    have G14 := ok_order (P := l.prog) (w := w) (base := base) F14 T D
    have OD : Fn1 l.prog w K mg base _ _ _ _ _ _ _ := ⟨F14, G14, b14, g14⟩
    have G15 := ok_orders (P := l.prog) (w := w) (base := base) F15 T
    have OS : Fn1 l.prog w K mg base _ _ _ _ _ _ _ := ⟨F15, G15, b15, g15⟩
    have G16 := ok_taken (P := l.prog) (w := w) (base := base) F16 T
    have TK : Fn1 l.prog w K mg base _ _ _ _ _ _ _ := ⟨F16, G16, b16, g16⟩
    have G17 := ok_due (P := l.prog) (w := w) (base := base) F17 T OS TK
    have DU : Fn1 l.prog w K mg base _ _ _ _ _ _ _ := ⟨F17, G17, b17, g17⟩
    have G18 := ok_least (P := l.prog) (w := w) (base := base) F18 T OS
    have LS : Fn1 l.prog w K mg base _ _ _ _ _ _ _ := ⟨F18, G18, b18, g18⟩
    have G19 := ok_put (P := l.prog) (w := w) (mg := mg) (base := base) F19
    have PU : Fn1 l.prog w K mg base _ _ _ _ _ _ _ := ⟨F19, G19, b19, g19⟩
    have G20 := ok_bent (P := l.prog) (w := w) (base := base) F20 T D PU SM BX
    have BE : Fn1 l.prog w K mg base _ _ _ _ _ _ _ := ⟨F20, G20, b20, g20⟩
    have G21 := ok_isPair (P := l.prog) (w := w) (base := base) F21 T
    have IP : Fn1 l.prog w K mg base _ _ _ _ _ _ _ := ⟨F21, G21, b21, g21⟩
    have G22 := ok_right (P := l.prog) (w := w) (base := base) F22 T TB DU BT IP
    have RI : Fn1 l.prog w K mg base _ _ _ _ _ _ _ := ⟨F22, G22, b22, g22⟩
    have G23 := ok_large (P := l.prog) (w := w) (base := base) F23 T TB D BX OD TK BT IP LS PU
    have LA : Fn1 l.prog w K mg base _ _ _ _ _ _ _ := ⟨F23, G23, b23, g23⟩
    exact ok_law F24 T D HD BX OD TK BE RI LA
end K56
open PySem PySem.W PyProof.Rows
set_option maxRecDepth 100000 in
set_option maxHeartbeats 0 in
theorem PySem.Challenge.cw_foretoldforms_k56_whole_orders_between_t_holds : PySem.Challenge.rw_foretoldforms_k56_whole_orders_between_t.Holds := by
  w_on; o_law; k_head; (case hw => w_witness2)
  k_fill
  refine L2.walk_of (l := PySem.Challenge.rw_foretoldforms_k56_whole_orders_between_t) (n := 63) (k := 8) (x := "_law_script") (CX := fun _ => L2.CX0) (sp := fun w => K56.spLaw _) rfl (by decide) rfl ⟨rfl, by decide, by decide⟩ (fun w h Y => PySem.W.kIn_of Y) ?F (fun _ _ a ns hl _ hS => ⟨a, ns, rfl, hS, hl, fun _ => rfl⟩) (fun _ _ _ _ _ h => h)
  case F =>
    intro w mg fa h KX G hmg
    refine' K56.all_of KX G hmg ?p0 ?p1 ?p2 ?p3 ?p4 ?p5 ?p6 ?p7 ?p8 ?p9 ?p10 ?p11 ?p12 ?p13 ?p14 ?p15 ?p16 ?p17 ?p18 ?p19 ?p20 ?p21 ?p22 ?p23 ?p24 ?pC ?z0 ?z1 ?z2 ?z3 ?z4 ?z5 ?z6 ?z7 ?z8 ?z9 ?z10 ?z11 ?z12 ?y0 ?y1 ?y2 ?y3
    (case p0 => (refine' K56.fnAt_of ?a ?l ?c ?k; (case a => k_is); (case l => k_is); (case c => k_is); (case k => k_is)))
    (case p1 => (refine' K56.fnAt_of ?a ?l ?c ?k; (case a => k_is); (case l => k_is); (case c => k_is); (case k => k_is)))
    (case p2 => (refine' K56.fnAt_of ?a ?l ?c ?k; (case a => k_is); (case l => k_is); (case c => k_is); (case k => k_is)))
    (case p3 => (refine' K56.fnAt_of ?a ?l ?c ?k; (case a => k_is); (case l => k_is); (case c => k_is); (case k => k_is)))
    (case p4 => (refine' K56.fnAt_of ?a ?l ?c ?k; (case a => k_is); (case l => k_is); (case c => k_is); (case k => k_is)))
    (case p5 => (refine' K56.fnAt_of ?a ?l ?c ?k; (case a => k_is); (case l => k_is); (case c => k_is); (case k => k_is)))
    (case p6 => (refine' K56.fnAt_of ?a ?l ?c ?k; (case a => k_is); (case l => k_is); (case c => k_is); (case k => k_is)))
    (case p7 => (refine' K56.fnAt_of ?a ?l ?c ?k; (case a => k_is); (case l => k_is); (case c => k_is); (case k => k_is)))
    (case p8 => (refine' K56.fnAt_of ?a ?l ?c ?k; (case a => k_is); (case l => k_is); (case c => k_is); (case k => k_is)))
    (case p9 => (refine' K56.fnAt_of ?a ?l ?c ?k; (case a => k_is); (case l => k_is); (case c => k_is); (case k => k_is)))
    (case p10 => (refine' K56.fnAt_of ?a ?l ?c ?k; (case a => k_is); (case l => k_is); (case c => k_is); (case k => k_is)))
    (case p11 => (refine' K56.fnAt_of ?a ?l ?c ?k; (case a => k_is); (case l => k_is); (case c => k_is); (case k => k_is)))
    (case p12 => (refine' K56.fnAt_of ?a ?l ?c ?k; (case a => k_is); (case l => k_is); (case c => k_is); (case k => k_is)))
    (case p13 => (refine' K56.fnAt_of ?a ?l ?c ?k; (case a => k_is); (case l => k_is); (case c => k_is); (case k => k_is)))
    (case p14 => (refine' K56.fnAt_of ?a ?l ?c ?k; (case a => k_is); (case l => k_is); (case c => k_is); (case k => k_is)))
    (case p15 => (refine' K56.fnAt_of ?a ?l ?c ?k; (case a => k_is); (case l => k_is); (case c => k_is); (case k => k_is)))
    (case p16 => (refine' K56.fnAt_of ?a ?l ?c ?k; (case a => k_is); (case l => k_is); (case c => k_is); (case k => k_is)))
    (case p17 => (refine' K56.fnAt_of ?a ?l ?c ?k; (case a => k_is); (case l => k_is); (case c => k_is); (case k => k_is)))
    (case p18 => (refine' K56.fnAt_of ?a ?l ?c ?k; (case a => k_is); (case l => k_is); (case c => k_is); (case k => k_is)))
    (case p19 => (refine' K56.fnAt_of ?a ?l ?c ?k; (case a => k_is); (case l => k_is); (case c => k_is); (case k => k_is)))
    (case p20 => (refine' K56.fnAt_of ?a ?l ?c ?k; (case a => k_is); (case l => k_is); (case c => k_is); (case k => k_is)))
    (case p21 => (refine' K56.fnAt_of ?a ?l ?c ?k; (case a => k_is); (case l => k_is); (case c => k_is); (case k => k_is)))
    (case p22 => (refine' K56.fnAt_of ?a ?l ?c ?k; (case a => k_is); (case l => k_is); (case c => k_is); (case k => k_is)))
    (case p23 => (refine' K56.fnAt_of ?a ?l ?c ?k; (case a => k_is); (case l => k_is); (case c => k_is); (case k => k_is)))
    (case p24 => (refine' K56.fnAt_of ?a ?l ?c ?k; (case a => k_is); (case l => k_is); (case c => k_is); (case k => k_is)))
    (case pC => (refine' K56.tblAt_of ?aC ?a1 ?i1 ?l1 ?c1 ?k1 ?a2 ?i2 ?l2 ?c2 ?k2 ?pg ?hd ?po ?sa ?mk ?kc ?nB ?nH ?nW ?nK; (case aC => k_is); (case a1 => k_is); (case i1 => k_is); (case l1 => k_is); (case c1 => k_is); (case k1 => k_is); (case a2 => k_is); (case i2 => k_is); (case l2 => k_is); (case c2 => k_is); (case k2 => k_is); (case pg => k_is); (case hd => k_is); (case po => k_is); (case sa => k_is); (case mk => k_is); (case kc => k_is); (case nB => k_is); (case nH => k_is); (case nW => k_is); (case nK => k_is)))
    (case z0 => k_is)
    (case z1 => k_is)
    (case z2 => k_is)
    (case z3 => k_is)
    (case z4 => k_is)
    (case z5 => k_is)
    (case z6 => k_is)
    (case z7 => k_is)
    (case z8 => k_is)
    (case z9 => k_is)
    (case z10 => k_is)
    (case z11 => k_is)
    (case z12 => k_is)
    (case y0 => k_is)
    (case y1 => k_is)
    (case y2 => k_is)
    (case y3 => k_is)
