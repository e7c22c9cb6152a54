import PyProof.Rows.All
import Wide.All
import OpenK.AllK
import Wide.FinOn
import KE.GoesEnum
import HandS.ForMost
import HandS.Strs
import HandS.TupAny
import HandS.TupMul
import HandS.Style
import HandS.DictComp
import HandS.IsInst
import HandS.Conv
import PySem.Challenge.RW_counterlines_k72_whole_reordered_lines
set_option Elab.async false
/-! The plain law of the counterlines: states as lists of lines, kept people, chains, distances. Core Lean alone. -/
namespace Cl

/-! ### sums -/
theorem sumApp (a b : List Int) : (a ++ b).sum = a.sum + b.sum := by
  induction a with
  | nil => simp
  | cons x r ih => rw [List.cons_append, List.sum_cons, List.sum_cons, ih]; omega
theorem sumPerm {a b : List Int} (h : a.Perm b) : a.sum = b.sum := by
  induction h with
  | nil => rfl
  | cons x _ ih => rw [List.sum_cons, List.sum_cons, ih]
  | swap x y l => rw [List.sum_cons, List.sum_cons, List.sum_cons, List.sum_cons]; omega
  | trans _ _ i1 i2 => rw [i1, i2]

/-! ### people who need no call -/
/-- of b's first people: how many stand in a, at ascending places from lo on -/
def kl (a : List Int) : Nat → List Int → Nat
  | _, [] => 0
  | lo, p :: r => if p ∈ a ∧ lo ≤ a.idxOf p then kl a (a.idxOf p) r + 1 else 0
theorem kl_nil (a : List Int) (lo : Nat) : kl a lo [] = 0 := rfl
theorem kl_cons (a : List Int) (lo : Nat) (p : Int) (r : List Int) : kl a lo (p :: r) = if p ∈ a ∧ lo ≤ a.idxOf p then kl a (a.idxOf p) r + 1 else 0 := rfl
theorem kl_yes {a : List Int} {lo : Nat} {p : Int} {r : List Int} (h1 : p ∈ a) (h2 : lo ≤ a.idxOf p) : kl a lo (p :: r) = kl a (a.idxOf p) r + 1 := by
  rw [kl_cons, if_pos ⟨h1, h2⟩]
theorem kl_no {a : List Int} {lo : Nat} {p : Int} {r : List Int} (h : ¬ (p ∈ a ∧ lo ≤ a.idxOf p)) : kl a lo (p :: r) = 0 := by
  rw [kl_cons, if_neg h]
theorem kl_le (a : List Int) : ∀ (b : List Int) (lo : Nat), kl a lo b ≤ b.length
  | [], _ => Nat.le_refl _
  | p :: r, lo => by
    rw [kl_cons]
    split
    · have := kl_le a r (a.idxOf p)
      rw [List.length_cons]
      omega
    · exact Nat.zero_le _
theorem kl_mem (a : List Int) : ∀ (b : List Int) (lo : Nat) (p : Int), p ∈ b.take (kl a lo b) → p ∈ a
  | [], _, _, h => by simp at h
  | q :: r, lo, p, h => by
    rw [kl_cons] at h
    split at h
    · rename_i hq
      rw [List.take_succ_cons] at h
      rcases List.mem_cons.mp h with e | h
      · rw [e]; exact hq.1
      · exact kl_mem a r _ p h
    · simp at h
theorem idx_at {a : List Int} (hn : a.Nodup) {i : Nat} (hi : i < a.length) : a.idxOf a[i] = i := by
  have h1 : a.idxOf a[i] < a.length := List.idxOf_lt_length_of_mem (List.getElem_mem hi)
  have h2 : a[a.idxOf a[i]] = a[i] := List.getElem_idxOf h1
  exact (List.getElem_inj hn).mp h2
/-- a run of a's own people -/
theorem kl_run {a : List Int} (hn : a.Nodup) : ∀ (m i lo : Nat) (r : List Int), i + m ≤ a.length → lo ≤ i →
    kl a lo ((a.drop i).take m ++ r) = m + kl a (if m = 0 then lo else i + m - 1) r
  | 0, i, lo, r, _, _ => by simp
  | m + 1, i, lo, r, h, hlo => by
    have hi : i < a.length := by omega
    rw [List.drop_eq_getElem_cons hi, List.take_succ_cons, List.cons_append, kl_yes (List.getElem_mem hi) (by rw [idx_at hn hi]; exact hlo), idx_at hn hi,
      kl_run hn m (i + 1) i r (by omega) (by omega)]
    have e : (if m = 0 then i else i + 1 + m - 1) = i + m := by
      split <;> omega
    rw [e, if_neg (Nat.succ_ne_zero m)]
    have e2 : i + (m + 1) - 1 = i + m := by omega
    rw [e2]
    omega
theorem kl_self {a : List Int} (hn : a.Nodup) : kl a 0 a = a.length := by
  have h := kl_run hn a.length 0 0 [] (by omega) (Nat.le_refl _)
  rw [List.drop_zero, List.take_length, List.append_nil, kl_nil] at h
  exact h
/-- a's people, then others -/
theorem kl_pre {a r : List Int} (hn : a.Nodup) (hr : ∀ p ∈ r, p ∉ a) : kl a 0 (a ++ r) = a.length := by
  have h := kl_run hn a.length 0 0 r (by omega) (Nat.le_refl _)
  rw [List.drop_zero, List.take_length] at h
  rw [h]
  cases r with
  | nil => rfl
  | cons p r => rw [kl_no fun z => hr p List.mem_cons_self z.1]; rfl
theorem kl_rev {a : List Int} (hn : a.Nodup) : kl a 0 a.reverse = min a.length 1 := by
  by_cases h : a.length < 2
  · match a, h with
    | [], _ => rfl
    | [x], _ =>
      show kl [x] 0 [x] = _
      rw [kl_self hn]; rfl
  · have hl : a.length - 1 < a.length := by omega
    have hl2 : a.length - 2 < a.length := by omega
    have e : a.reverse = a[a.length - 1] :: a[a.length - 2] :: (a.reverse.drop 2) := by
      have l1 : 0 < a.reverse.length := by rw [List.length_reverse]; omega
      have l2 : 0 + 1 < a.reverse.length := by rw [List.length_reverse]; omega
      have q := List.drop_eq_getElem_cons l1
      have q2 := List.drop_eq_getElem_cons l2
      rw [List.drop_zero] at q
      rw [q2] at q
      rw [List.getElem_reverse, List.getElem_reverse] at q
      exact q
    rw [e, kl_yes (List.getElem_mem hl) (Nat.zero_le _), idx_at hn hl, kl_no fun z => by
      have := z.2
      rw [idx_at hn hl2] at this
      omega]
    omega
/-- two neighbors exchanged -/
theorem kl_swap {a : List Int} (hn : a.Nodup) {i : Nat} (hi : i + 1 < a.length) : kl a 0 (a.take i ++ (a[i + 1] :: a[i] :: a.drop (i + 2))) = i + 1 := by
  have h := kl_run hn i 0 0 (a[i + 1] :: a[i] :: a.drop (i + 2)) (by omega) (Nat.le_refl _)
  rw [List.drop_zero] at h
  have hi0 : i < a.length := by omega
  rw [h, kl_yes (List.getElem_mem hi) (by rw [idx_at hn hi]; split <;> omega), idx_at hn hi, kl_no fun z => by
    have := z.2
    rw [idx_at hn hi0] at this
    omega]
/-- the first one called away -/
theorem kl_rot {a : List Int} (hn : a.Nodup) (h2 : 2 ≤ a.length) : kl a 0 (a.drop 1 ++ a.take 1) = a.length - 1 := by
  have h := kl_run hn (a.length - 1) 1 0 (a.take 1) (by omega) (Nat.zero_le _)
  have h0 : 0 < a.length := by omega
  have e : (a.drop 1).take (a.length - 1) = a.drop 1 := List.take_of_length_le (by rw [List.length_drop]; omega)
  rw [e] at h
  have e1 : a.take 1 = [a[0]] := by
    cases a with
    | nil => simp at h0
    | cons x r => simp
  rw [h, if_neg (by omega), e1, kl_no fun z => by
    have := z.2
    rw [idx_at hn h0] at this
    omega]
  rfl

/-! ### states -/
/-- the counter of a person -/
def cof (L : List (List Int)) (p : Int) : Nat := L.findIdx fun l => decide (p ∈ l)
/-- people 0 .. P - 1 -/
def ppl (P : Nat) : List Int := (List.range P).map Int.ofNat
theorem ppl_len (P : Nat) : (ppl P).length = P := by simp [ppl]
theorem ppl_nd (P : Nat) : (ppl P).Nodup := by
  unfold ppl
  refine List.Pairwise.map Int.ofNat ?_ List.nodup_range
  intro a b h e
  exact h (Int.ofNat.inj e)
theorem mem_ppl {P : Nat} {p : Int} : p ∈ ppl P ↔ 0 ≤ p ∧ p < P := by
  unfold ppl
  rw [List.mem_map]
  constructor
  · rintro ⟨n, hn, rfl⟩
    have := List.mem_range.mp hn
    exact ⟨Int.natCast_nonneg n, by show (n : Int) < P; omega⟩
  · rintro ⟨h1, h2⟩
    exact ⟨p.toNat, List.mem_range.mpr (by omega), by show ((p.toNat : Nat) : Int) = p; omega⟩
structure Stt (P C : Nat) (L : List (List Int)) : Prop where
  len : L.length = C
  perm : L.flatten.Perm (ppl P)
section
variable {P C : Nat} {L : List (List Int)}
theorem Stt.nd (S : Stt P C L) : L.flatten.Nodup := S.perm.nodup_iff.mpr (ppl_nd P)
theorem Stt.mem (S : Stt P C L) {p : Int} : p ∈ L.flatten ↔ 0 ≤ p ∧ p < P := S.perm.mem_iff.trans mem_ppl
theorem nd_line : ∀ {L : List (List Int)} {j : Nat} {l : List Int}, L.flatten.Nodup → L[j]? = some l → l.Nodup
  | [], j, l, _, h => by simp at h
  | a :: r, 0, l, hn, h => by
    have e : a = l := by simpa using h
    subst e
    rw [List.flatten_cons] at hn
    exact (List.nodup_append.mp hn).1
  | a :: r, j + 1, l, hn, h => by
    rw [List.flatten_cons] at hn
    exact nd_line (List.nodup_append.mp hn).2.1 (by simpa using h)
theorem mem_flat {L : List (List Int)} {j : Nat} {l : List Int} {p : Int} (h : L[j]? = some l) (hp : p ∈ l) : p ∈ L.flatten :=
  List.mem_flatten.mpr ⟨l, List.mem_of_getElem? h, hp⟩
theorem one_line : ∀ {L : List (List Int)} {i j : Nat} {l m : List Int} {p : Int}, L.flatten.Nodup → L[i]? = some l → L[j]? = some m → p ∈ l → p ∈ m → i = j
  | [], i, _, _, _, _, _, h, _, _, _ => by simp at h
  | a :: r, 0, 0, _, _, _, _, _, _, _, _ => rfl
  | a :: r, 0, j + 1, l, m, p, hn, h, h', hp, hm => by
    have e : a = l := by simpa using h
    subst e
    rw [List.flatten_cons] at hn
    have h'' : r[j]? = some m := by simpa using h'
    exact absurd rfl ((List.nodup_append.mp hn).2.2 p hp p (mem_flat h'' hm))
  | a :: r, i + 1, 0, l, m, p, hn, h, h', hp, hm => by
    have e : a = m := by simpa using h'
    subst e
    rw [List.flatten_cons] at hn
    have h'' : r[i]? = some l := by simpa using h
    exact absurd rfl ((List.nodup_append.mp hn).2.2 p hm p (mem_flat h'' hp))
  | a :: r, i + 1, j + 1, l, m, p, hn, h, h', hp, hm => by
    rw [List.flatten_cons] at hn
    have h1 : r[i]? = some l := by simpa using h
    have h2 : r[j]? = some m := by simpa using h'
    rw [one_line (List.nodup_append.mp hn).2.1 h1 h2 hp hm]
theorem cof_spec {p : Int} (hp : p ∈ L.flatten) : ∃ l, L[cof L p]? = some l ∧ p ∈ l := by
  obtain ⟨l, hl, hpl⟩ := List.mem_flatten.mp hp
  have h : L.findIdx (fun l => decide (p ∈ l)) < L.length := List.findIdx_lt_length_of_exists ⟨l, hl, decide_eq_true hpl⟩
  refine ⟨L[cof L p]'h, List.getElem?_eq_getElem h, ?_⟩
  exact of_decide_eq_true (List.findIdx_getElem (w := h))
theorem cof_lt {p : Int} (hp : p ∈ L.flatten) : cof L p < L.length := by
  obtain ⟨l, h, _⟩ := cof_spec hp
  exact (List.getElem?_eq_some_iff.mp h).1
theorem cof_at (hn : L.flatten.Nodup) {j : Nat} {l : List Int} {p : Int} (h : L[j]? = some l) (hp : p ∈ l) : cof L p = j := by
  obtain ⟨m, h', hm⟩ := cof_spec (mem_flat h hp)
  exact one_line hn h' h hm hp
theorem line_le (S : Stt P C L) {j : Nat} {l : List Int} (h : L[j]? = some l) : l.length ≤ P := by
  have h1 : l.length ≤ L.flatten.length := (List.sublist_flatten_of_mem (List.mem_of_getElem? h)).length_le
  rw [S.perm.length_eq, ppl_len] at h1
  exact h1
end

/-! ### one line changed -/
theorem flat_set : ∀ {L : List (List Int)} {c : Nat} {l l' : List Int}, L[c]? = some l → l'.Perm l → (L.set c l').flatten.Perm L.flatten
  | [], c, _, _, h, _ => by simp at h
  | a :: r, 0, l, l', h, hp => by
    have e : a = l := by simpa using h
    subst e
    show (l' ++ r.flatten).Perm (a ++ r.flatten)
    exact hp.append_right _
  | a :: r, c + 1, l, l', h, hp => by
    show (a ++ (r.set c l').flatten).Perm (a ++ r.flatten)
    exact (flat_set (by simpa using h) hp).append_left _
theorem Stt.set {P C : Nat} {L : List (List Int)} (S : Stt P C L) {c : Nat} {l l' : List Int} (h : L[c]? = some l) (hp : l'.Perm l) : Stt P C (L.set c l') :=
  ⟨by rw [List.length_set]; exact S.len, (flat_set h hp).trans S.perm⟩
theorem set_cut {α : Type} {L : List α} {c : Nat} (h : c < L.length) (x : α) : L.take c ++ ([x] ++ L.drop (c + 1)) = L.set c x := by
  rw [List.set_eq_take_append_cons_drop, if_pos h]
  rfl
/-- one more person at a line's end -/
theorem flat_push : ∀ {L : List (List Int)} {c : Nat} {l : List Int} {x : Int}, L[c]? = some l → (L.set c (l ++ [x])).flatten.Perm (x :: L.flatten)
  | [], c, _, _, h => by simp at h
  | a :: r, 0, l, x, h => by
    have e : a = l := by simpa using h
    subst e
    show ((a ++ [x]) ++ r.flatten).Perm (x :: (a ++ r.flatten))
    rw [List.append_assoc]
    exact List.perm_middle
  | a :: r, c + 1, l, x, h => by
    show (a ++ (r.set c (l ++ [x])).flatten).Perm (x :: (a ++ r.flatten))
    refine ((flat_push (l := l) (x := x) (by simpa using h)).append_left a).trans ?_
    exact List.perm_middle

/-! ### chains and distances -/
def stp (C : Nat) (L : List (List Int)) (j : Nat) (p : Int) : Int := ((j : Int) - (cof L p : Nat)) % (C : Nat)
def cst (C : Nat) (L : List (List Int)) (j : Nat) (p : Int) : Int := if stp C L j p > 0 then stp C L j p else C
def chn (C : Nat) (L : List (List Int)) (j : Nat) (b : List Int) (k : Nat) : List (Int × Int) := (b.drop k).map fun p => (p, cst C L j p)
def ks (L M : List (List Int)) : List Nat := M.mapIdx fun j b => kl (L.getD j []) 0 b
def chs (C : Nat) (L M : List (List Int)) : List (List (Int × Int)) := M.mapIdx fun j b => chn C L j b (kl (L.getD j []) 0 b)
def cts (cs : List (List (Int × Int))) : List Int := (cs.flatten).map (·.2)
def dist (C : Nat) (L M : List (List Int)) : Int := (cts (chs C L M)).sum
theorem stp_nn {C : Nat} (h : 0 < C) (L : List (List Int)) (j : Nat) (p : Int) : 0 ≤ stp C L j p := Int.emod_nonneg _ (by omega)
theorem getD_of {L : List (List Int)} {j : Nat} {l : List Int} (h : L[j]? = some l) : L.getD j [] = l := by
  rw [List.getD_eq_getElem?_getD, h]; rfl

/-- all lines empty but one -/
def lone {α : Type} (C c : Nat) (x : List α) : List (List α) := (List.replicate C []).set c x
theorem lone_at {α : Type} {C c : Nat} (x : List α) (j : Nat) (hj : j < C) : (lone C c x)[j]? = some (if j = c then x else []) := by
  unfold lone
  by_cases h : j = c
  · subst h
    rw [List.getElem?_set_self (by simpa using hj), if_pos rfl]
  · rw [List.getElem?_set_ne (Ne.symm h), if_neg h, List.getElem?_replicate, if_pos hj]
theorem lone_len {α : Type} (C c : Nat) (x : List α) : (lone C c x).length = C := by simp [lone]
theorem lone_flat {α : Type} : ∀ (C c : Nat) (x : List α), c < C → (lone C c x).flatten = x
  | 0, _, _, h => by omega
  | C + 1, 0, x, _ => by
    show (x ++ (List.replicate C ([] : List α)).flatten) = x
    rw [List.flatten_replicate_nil, List.append_nil]
  | C + 1, c + 1, x, h => by
    show ([] ++ ((List.replicate C ([] : List α)).set c x).flatten) = x
    rw [List.nil_append]
    exact lone_flat C c x (by omega)
theorem lone_cut {α : Type} {C c : Nat} (h : c < C) (x : List α) : List.replicate c [] ++ (([x] : List (List α)) ++ List.replicate (C - c - 1) []) = lone C c x := by
  unfold lone
  rw [← set_cut (by simpa using h) x, List.take_replicate, List.drop_replicate]
  congr 2
  · rw [Nat.min_eq_left (by omega)]

section
variable {P C : Nat} {L : List (List Int)}
theorem chs_at (M : List (List Int)) (j : Nat) : (chs C L M)[j]? = (M[j]?).map fun b => chn C L j b (kl (L.getD j []) 0 b) := by
  unfold chs
  rw [List.getElem?_mapIdx]
theorem ks_at (M : List (List Int)) (j : Nat) : (ks L M)[j]? = (M[j]?).map fun b => kl (L.getD j []) 0 b := by
  unfold ks
  rw [List.getElem?_mapIdx]
/-- one line rearranged: all others stay -/
theorem chs_set (S : Stt P C L) {c : Nat} {l l' : List Int} (h : L[c]? = some l) (hp : l'.Perm l) : chs C L (L.set c l') = lone C c ((l'.drop (kl l 0 l')).map fun p => (p, (C : Int))) := by
  have hc : c < L.length := (List.getElem?_eq_some_iff.mp h).1
  apply List.ext_getElem?
  intro j
  rw [chs_at]
  by_cases hj : j < C
  · rw [lone_at _ j hj]
    by_cases e : j = c
    · subst e
      rw [List.getElem?_set_self hc, if_pos rfl, getD_of h]
      show some (chn C L j l' (kl l 0 l')) = _
      congr 1
      unfold chn
      refine List.map_congr_left fun p hpm => ?_
      have hpl : p ∈ l := hp.mem_iff.mp (List.mem_of_mem_drop hpm)
      have e1 : stp C L j p = 0 := by
        unfold stp
        rw [cof_at S.nd h hpl]
        simp
      unfold cst
      rw [e1]
      rfl
    · have hjl : j < L.length := by rw [S.len]; exact hj
      rw [List.getElem?_set_ne (Ne.symm e), if_neg e, List.getElem?_eq_getElem hjl, getD_of (List.getElem?_eq_getElem hjl)]
      show some (chn C L j L[j] (kl L[j] 0 L[j])) = some []
      rw [kl_self (nd_line S.nd (List.getElem?_eq_getElem hjl))]
      unfold chn
      rw [List.drop_length]
      rfl
  · have e1 : (L.set c l')[j]? = none := List.getElem?_eq_none (by rw [List.length_set, S.len]; omega)
    have e2 : (lone C c ((l'.drop (kl l 0 l')).map fun p => (p, (C : Int))))[j]? = none := List.getElem?_eq_none (by rw [lone_len]; omega)
    rw [e1, e2]
    rfl
/-- all before one counter -/
theorem chs_lone {c : Nat} {l o : List Int} (h : L[c]? = some l) : chs C L (lone C c o) = lone C c (chn C L c o (kl l 0 o)) := by
  apply List.ext_getElem?
  intro j
  rw [chs_at]
  by_cases hj : j < C
  · rw [lone_at _ j hj, lone_at _ j hj]
    by_cases e : j = c
    · subst e
      rw [if_pos rfl, if_pos rfl, getD_of h]
      rfl
    · rw [if_neg e, if_neg e]
      show some (chn C L j [] (kl (L.getD j []) 0 [])) = _
      unfold chn
      rw [List.drop_nil]
      rfl
  · have e1 : (lone C c o)[j]? = none := List.getElem?_eq_none (by rw [lone_len]; omega)
    have e2 : (lone C c (chn C L c o (kl l 0 o)))[j]? = none := List.getElem?_eq_none (by rw [lone_len]; omega)
    rw [e1, e2]
    rfl
theorem sum_const : ∀ (l : List Int) (C : Int), (l.map fun _ => C).sum = C * l.length
  | [], C => by simp
  | x :: r, C => by
    rw [List.map_cons, List.sum_cons, sum_const r C, List.length_cons]
    have : C * ((r.length + 1 : Nat) : Int) = C * (r.length : Int) + C := by
      rw [show ((r.length + 1 : Nat) : Int) = (r.length : Int) + 1 by omega, Int.mul_add, Int.mul_one]
    omega
theorem dist_set (S : Stt P C L) {c : Nat} {l l' : List Int} (h : L[c]? = some l) (hp : l'.Perm l) : dist C L (L.set c l') = C * ((l'.length - kl l 0 l' : Nat) : Int) := by
  have hc : c < C := by rw [← S.len]; exact (List.getElem?_eq_some_iff.mp h).1
  unfold dist cts
  rw [chs_set S h hp, lone_flat _ _ _ hc, List.map_map]
  show ((l'.drop (kl l 0 l')).map fun _ => (C : Int)).sum = _
  rw [sum_const, List.length_drop]
/-- a line turned around -/
theorem dist_rev (S : Stt P C L) {c : Nat} {l : List Int} (h : L[c]? = some l) : dist C L (L.set c l.reverse) = C * (if (0 : Int) > l.length - 1 then 0 else (l.length : Int) - 1) := by
  rw [dist_set S h (List.reverse_perm l), kl_rev (nd_line S.nd h), List.length_reverse]
  congr 1
  split <;> omega
/-- two neighbors exchanged -/
theorem swap_perm {a : List Int} {i : Nat} (hi : i + 1 < a.length) : (a.take i ++ (a[i + 1] :: a[i] :: a.drop (i + 2))).Perm a := by
  have h0 : i < a.length := by omega
  have e : a = a.take i ++ (a[i] :: a[i + 1] :: a.drop (i + 2)) := by
    rw [← List.drop_eq_getElem_cons hi, ← List.drop_eq_getElem_cons h0, List.take_append_drop]
  refine (List.Perm.append_left _ (List.Perm.swap _ _ _)).trans ?_
  exact List.Perm.of_eq e.symm
theorem dist_swap (S : Stt P C L) {c : Nat} {l : List Int} (h : L[c]? = some l) {i : Nat} (hi : i + 1 < l.length) :
    dist C L (L.set c (l.take i ++ (l[i + 1] :: l[i] :: l.drop (i + 2)))) = C * ((l.length : Int) - i - 1) := by
  rw [dist_set S h (swap_perm hi), kl_swap (nd_line S.nd h) hi, (swap_perm hi).length_eq]
  congr 1
  omega
theorem ks_swap (S : Stt P C L) {c : Nat} {l : List Int} (h : L[c]? = some l) {i : Nat} (hi : i + 1 < l.length) :
    (ks L (L.set c (l.take i ++ (l[i + 1] :: l[i] :: l.drop (i + 2)))))[c]? = some (i + 1) := by
  rw [ks_at, List.getElem?_set_self (List.getElem?_eq_some_iff.mp h).1, getD_of h]
  show some (kl l 0 (l.take i ++ (l[i + 1] :: l[i] :: l.drop (i + 2)))) = _
  rw [kl_swap (nd_line S.nd h) hi]
/-- the first one called once around -/
theorem rot_perm (a : List Int) : (a.drop 1 ++ a.take 1).Perm a := by
  refine List.perm_append_comm.trans ?_
  rw [List.take_append_drop]
theorem chs_rot (S : Stt P C L) {c : Nat} {l : List Int} (h : L[c]? = some l) (h2 : 2 ≤ l.length) :
    chs C L (L.set c (l.drop 1 ++ l.take 1)) = lone C c [(l[0], (C : Int))] := by
  rw [chs_set S h (rot_perm l), kl_rot (nd_line S.nd h) h2]
  have e : (l.drop 1 ++ l.take 1).drop (l.length - 1) = [l[0]] := by
    have h0 : l.length - 1 = (l.drop 1).length := by rw [List.length_drop]
    rw [h0, List.drop_left]
    cases l with
    | nil => simp at h2
    | cons x r => simp
  rw [e]
  rfl
theorem dist_rot (S : Stt P C L) {c : Nat} {l : List Int} (h : L[c]? = some l) : dist C L (L.set c (l.drop 1 ++ l.take 1)) = if (l.length : Int) > 1 then (C : Int) else 0 := by
  by_cases h2 : 2 ≤ l.length
  · have hc : c < C := by rw [← S.len]; exact (List.getElem?_eq_some_iff.mp h).1
    unfold dist cts
    rw [chs_rot S h h2, lone_flat _ _ _ hc, if_pos (by omega)]
    simp
  · rw [dist_set S h (rot_perm l), if_neg (by omega)]
    have e : l.drop 1 ++ l.take 1 = l := by
      match l, h2 with
      | [], _ => rfl
      | [x], _ => rfl
      | _ :: _ :: _, h2 => exact absurd (by simp) h2
    rw [e, kl_self (nd_line S.nd h)]
    simp

/-! ### all before one counter -/
def gath (P C : Nat) (L : List (List Int)) (c : Nat) : Int := ((ppl P).map fun p => stp C L c p).sum
theorem stp_home (S : Stt P C L) {c : Nat} {l : List Int} (h : L[c]? = some l) {p : Int} (hp : p ∈ l) : stp C L c p = 0 := by
  unfold stp
  rw [cof_at S.nd h hp]
  simp
theorem sum_zero {f : Int → Int} : ∀ {l : List Int}, (∀ p ∈ l, f p = 0) → (l.map f).sum = 0
  | [], _ => rfl
  | x :: r, h => by
    rw [List.map_cons, List.sum_cons, h x List.mem_cons_self, sum_zero fun p hp => h p (List.mem_cons_of_mem _ hp)]; rfl
theorem sum_cst (L : List (List Int)) (c : Nat) : ∀ (l : List Int), ∃ m : Nat, (l.map fun p => cst C L c p).sum = (l.map fun p => stp C L c p).sum + C * (m : Int) ∨ C = 0
  | [] => ⟨0, .inl (by simp)⟩
  | x :: r => by
    by_cases hC : C = 0
    · exact ⟨0, .inr hC⟩
    · obtain ⟨m, h | h⟩ := sum_cst L c r
      · have hn := stp_nn (by omega : 0 < C) L c x
        by_cases hx : stp C L c x > 0
        · refine ⟨m, .inl ?_⟩
          rw [List.map_cons, List.map_cons, List.sum_cons, List.sum_cons, h]
          unfold cst
          rw [if_pos hx]
          omega
        · refine ⟨m + 1, .inl ?_⟩
          rw [List.map_cons, List.map_cons, List.sum_cons, List.sum_cons, h]
          unfold cst
          rw [if_neg hx]
          have e : (C : Int) * ((m + 1 : Nat) : Int) = C * (m : Int) + C := by
            rw [show ((m + 1 : Nat) : Int) = (m : Int) + 1 by omega, Int.mul_add, Int.mul_one]
          omega
      · exact absurd h hC
theorem gath_perm {c : Nat} {o : List Int} (ho : o.Perm (ppl P)) : (o.map fun p => stp C L c p).sum = gath P C L c := sumPerm (ho.map _)
theorem dist_lone (S : Stt P C L) {c : Nat} {l o : List Int} (h : L[c]? = some l) : dist C L (lone C c o) = ((o.drop (kl l 0 o)).map fun p => cst C L c p).sum := by
  have hc : c < C := by rw [← S.len]; exact (List.getElem?_eq_some_iff.mp h).1
  unfold dist cts
  rw [chs_lone h, lone_flat _ _ _ hc]
  unfold chn
  rw [List.map_map]
  rfl
theorem sum_split (f : Int → Int) (o : List Int) (k : Nat) : (o.map f).sum = ((o.take k).map f).sum + ((o.drop k).map f).sum := by
  rw [← sumApp, ← List.map_append, List.take_append_drop]
/-- line_up's answer: gather's, and whole rounds -/
theorem line_up_gath (S : Stt P C L) {c : Nat} {o : List Int} (hc : c < C) (ho : o.Perm (ppl P)) : ∃ m : Nat, dist C L (lone C c o) = gath P C L c + C * (m : Int) := by
  have hcl : c < L.length := by rw [S.len]; exact hc
  have h : L[c]? = some L[c] := List.getElem?_eq_getElem hcl
  obtain ⟨m, e | e⟩ := sum_cst (C := C) L c (o.drop (kl L[c] 0 o))
  · refine ⟨m, ?_⟩
    rw [dist_lone S h, e, ← gath_perm ho, sum_split _ o (kl L[c] 0 o), sum_zero fun p hp => stp_home S h (kl_mem _ _ _ p hp)]
    omega
  · omega
/-- those who stand there first, as they stand: gather's answer -/
theorem line_up_least (S : Stt P C L) {c : Nat} {l o : List Int} (h : L[c]? = some l) (ho : o.Perm (ppl P)) (hr : (l ++ o.filter fun p => decide (p ∉ l)).Perm (ppl P)) :
    dist C L (lone C c (l ++ o.filter fun p => decide (p ∉ l))) = gath P C L c := by
  have hc : c < C := by rw [← S.len]; exact (List.getElem?_eq_some_iff.mp h).1
  have hnot : ∀ p ∈ o.filter (fun p => decide (p ∉ l)), p ∉ l := fun p hp => of_decide_eq_true (List.mem_filter.mp hp).2
  rw [dist_lone S h, kl_pre (nd_line S.nd h) hnot, List.drop_left, ← gath_perm hr, List.map_append, sumApp, sum_zero fun p hp => stp_home S h hp, Int.zero_add]
  congr 1
  refine List.map_congr_left fun p hp => ?_
  have hpp : p ∈ ppl P := ho.mem_iff.mp (List.mem_filter.mp hp).1
  have hpf : p ∈ L.flatten := S.perm.mem_iff.mpr hpp
  obtain ⟨m, hm, hpm⟩ := cof_spec hpf
  have hne : cof L p ≠ c := fun e => by
    rw [e, h] at hm
    cases hm
    exact hnot p hp hpm
  have hlt : cof L p < C := by rw [← S.len]; exact cof_lt hpf
  have hne0 : stp C L c p ≠ 0 := by
    unfold stp
    intro e
    have d : ((C : Nat) : Int) ∣ ((c : Int) - (cof L p : Nat)) := Int.dvd_of_emod_eq_zero e
    obtain ⟨q, hq⟩ := d
    have q0 : q = 0 := by
      by_cases h1 : q ≥ 1
      · have : (C : Int) * 1 ≤ C * q := Int.mul_le_mul_of_nonneg_left h1 (by omega)
        omega
      · by_cases h2 : q ≤ -1
        · have : (C : Int) * q ≤ C * (-1) := Int.mul_le_mul_of_nonneg_left h2 (by omega)
          omega
        · omega
    rw [q0] at hq
    omega
  have hnn := stp_nn (by omega : 0 < C) L c p
  unfold cst
  rw [if_pos (by omega)]
theorem rest_perm (S : Stt P C L) {c : Nat} {l o : List Int} (h : L[c]? = some l) (ho : o.Perm (ppl P)) : (l ++ o.filter fun p => decide (p ∉ l)).Perm (ppl P) := by
  have hno : o.Nodup := ho.nodup_iff.mpr (ppl_nd P)
  have hnl := nd_line S.nd h
  have hnf : (o.filter fun p => decide (p ∉ l)).Nodup := hno.filter _
  have hna : (l ++ o.filter fun p => decide (p ∉ l)).Nodup := List.nodup_append.mpr ⟨hnl, hnf, fun a ha b hb e => by
    subst e
    exact of_decide_eq_true (List.mem_filter.mp hb).2 ha⟩
  refine List.perm_iff_count.mpr fun a => ?_
  rw [hna.count, (ppl_nd P).count]
  have : (a ∈ l ++ o.filter fun p => decide (p ∉ l)) ↔ a ∈ ppl P := by
    rw [List.mem_append, List.mem_filter]
    constructor
    · rintro (ha | ha)
      · exact S.perm.mem_iff.mp (mem_flat h ha)
      · exact ho.mem_iff.mp ha.1
    · intro ha
      by_cases hl : a ∈ l
      · exact .inl hl
      · exact .inr ⟨ho.mem_iff.mpr ha, decide_eq_true hl⟩
  by_cases q : a ∈ ppl P
  · rw [if_pos q, if_pos (this.mpr q)]
  · rw [if_neg q, if_neg fun z => q (this.mp z)]
end
end Cl
set_option Elab.async false
set_option linter.all false
set_option maxRecDepth 100000
set_option maxHeartbeats 4000000
/-! Rules of our own over the hand layer: enumerate of a tuple, zip of a tuple and a list, sorted of a tuple, index of a tuple of ints, a tuple times an int, a tuple turned around. -/
namespace Cl
open PySem PySem.Spec PyProof.Rows L2

/-! ### enumerate(tuple) -/
/-- the tuple at a, each item in a new pair behind its place -/
def IteT (K : PySem.W.Frag) (a : Addr) : It where
  go := fun i H => ∃ (xs : List V) (x : V), SqT K H a xs ∧ xs[i]? = some x
  yld := fun i H v H' => ∃ T x, v = .ref T ∧ H T = none ∧ H' = upd H T (.tup [.int (i : Nat), x]) ∧ ∀ xs, SqT K H a xs → xs[i]? = some x
  stop := fun i H => ∃ xs : List V, SqT K H a xs ∧ xs.length ≤ i
theorem enumT_at {P : Program} {w : World} {K : PySem.W.Frag} {elts : List Expr} {kk : Nat} {tpos : Pos} (a e it : Addr) (hae : e ≠ a) (hai : a ≠ it) :
    Turn P w K (.Tuple elts kk tpos) (IteT K a) [e, it] e (fun i h => (∃ old, IsEnum h e it ((i : Nat) : Int) old) ∧ h.IsTupleIter it a i ∧ e ≠ it) where
  mem := by simp
  obj := fun i h st b hb => by
    obtain ⟨⟨old, he⟩, ⟨o, ho, hc, hd⟩, _⟩ := st
    rcases (show b = e ∨ b = it by simpa using hb) with z | z
    · subst z; exact ⟨_, he, fun v q => nomatch q⟩
    · subst z; exact ⟨o, ho, fun v q => by rw [hd] at q; cases q⟩
  keep := fun i h h' st k => ⟨st.1.imp fun _ he => k e (by simp) _ he, st.2.1.at fun o q => k it (by simp) o q, st.2.2⟩
  item := by
    intro X hP hw hK hc i pins s σ H E I hf st hg
    subst hP hw hK
    obtain ⟨⟨old, he⟩, hit, hne⟩ := st
    obtain ⟨xs, x, hq, hx⟩ := hg
    obtain ⟨its, rv, p, hz⟩ := I.tuple hq
    obtain ⟨u, hu, ru⟩ := rv.get hx
    have hel : e < s.heap.objs.size := Heap.lt_size he
    have hil : it < s.heap.objs.size := by obtain ⟨_, q, _⟩ := hit; exact Heap.lt_size q
    have hlt : i < its.toArray.size := by
      rw [List.size_toArray]
      exact (List.getElem?_eq_some_iff.mp hu).1
    have D : Draws X.prog X.w X.A.in1 it [it, a] its.toArray.size (fun i v => its.toArray[i]? = some v) (fun i h => h.IsTupleIter it a i ∧ h.IsTuple a its.toArray) := Draws.tuple (show X.A.in1.handled = none from I.ok.hd hc) it a hai its.toArray
    refine wpAny_pyNext_enum_itemD D he ⟨hit, p⟩ hlt hne (by simp [hne, hae]) fun v h' tk hv ho hst' hT hsz hk => ?_
    have ev : v = u := by
      have q : its.toArray[i]? = some u := by simpa using hu
      rw [q] at hv
      exact (Option.some.inj hv).symm
    subst ev
    refine ⟨_, rfl, wpAny_letOwnedTupleGo_enum (s := { s with heap := h', toks := tk + 1 }) ho fun h'' he' sb => ?_⟩
    have hT2 : h''.get? s.heap.objs.size = some { cls := .type "tuple", data := .seq #[.int i tk, v] } := (sb.2 _ (Nat.ne_of_gt hel)).trans hT
    have new : ObjOk X.prog X.w (upd H s.heap.objs.size (.tup [.int (i : Nat), x])) h'' s.heap.objs.size (.tup [.int (i : Nat), x]) :=
      ⟨by show 2 ≤ sizeLine; decide, [.int i tk, v], .cons ⟨_, rfl⟩ (.cons ru .nil), ⟨_, hT2, rfl, _, rfl⟩⟩
    have I1 : Inv X pins σ (upd H s.heap.objs.size (.tup [.int (i : Nat), x])) { s with heap := h'', toks := tk + 1 } :=
      I.turnedNew (ch := [e, it]) (fun b ob hb q => (sb.2 b (fun z => hb (by simp [z]))).trans (hk b ob (fun z => hb (by simp [z])) (fun z => hb (by simp [z])) q)) hf (Nat.le_refl _) new
    refine ⟨.ref s.heap.objs.size, _, I1, rfl, ⟨_, x, rfl, I.hok.fresh (Nat.le_refl _), rfl, fun ys hy => by rw [I.tuple_inj hy hq]; exact hx⟩, ⟨⟨v, ?_⟩, hst'.1.at fun o q => (sb.2 it (Ne.symm hne)).trans q, hne⟩, fun b hb => ?_⟩
    · rw [show ((i + 1 : Nat) : Int) = (i : Int) + 1 by omega]
      exact he'
    · have hb' : b < s.heap.objs.size := by
        rcases (show b = e ∨ b = it by simpa using hb) with z | z
        · rw [z]; exact hel
        · rw [z]; exact hil
      rw [upd_ne (Nat.ne_of_lt hb')]
      exact (hf b hb).1
  done := by
    intro X hP hw hK hc i pins s σ H E I hf st hg
    subst hP hw hK
    obtain ⟨⟨old, he⟩, hit, hne⟩ := st
    obtain ⟨xs, hq, hx⟩ := hg
    obtain ⟨its, rv, p, hz⟩ := I.tuple hq
    obtain ⟨f0, f1, f2, f3, f4, f5⟩ := hf it (by simp)
    have hT : s.TypeIs (.ref e) "enumerate" := ⟨_, he, rfl⟩
    have hl := rv.length
    have hnone : its.toArray[i]? = none := by simp; omega
    unfold pyNext
    refine wpAny_bind (wpAny_attempt (wpAny_callSpecial?_slot (name := Str.ofString "__next__") hT F.slot_enumerate_next
      (wpAny_call_entry F.slot_enumerate_next hT F.entry_enumerate_next ?_ (F.args_enumerate_next_1 _))))
    show wpAny _ _ (field (.ref e) 2 >>= _) _ _ _
    refine wpAny_bind (wpAny_field he rfl (x := .ref it) rfl ?_)
    refine wpAny_bind (wpAny_nextOf_tuple_end (I.ok.hd hc) hit p hnone fun h' y he' hy => ?_)
    obtain ⟨o, ho, hcl⟩ := hy
    refine wpAny_bind (wpAny_isInstance (T := "StopIteration") (b := true) ⟨o, ho, hcl⟩ isSubtype_stop (wpAny_pure ⟨rfl, ?_⟩))
    exact I.turned (t' := s.toks) (fun b o hb q => he' b o hb q) f0 f1 f3 f4 f5
  self := fun A i s Q E st h => let ⟨⟨_, he⟩, _⟩ := st; wpAny_pyIter_enum he h
theorem enumT_new (l : Addr) (items : Array Value) :
    Meets (Builtin.«enumerate.__new__» ⟨[.type "enumerate", .ref l], []⟩) (fun _ R s => s.heap.IsTuple l items ∧
      R (.ok (.ret (.ref (s.heap.push { cls := .type "tuple_iterator", data := .fields #[.ref l, .int 0 0] }).objs.size)))
        { s with heap := (s.heap.push { cls := .type "tuple_iterator", data := .fields #[.ref l, .int 0 0] }).push { cls := .type "enumerate", data := .fields #[.none, .bool false, .ref s.heap.objs.size, rawInt 0, .none, .none] } }) :=
  .of_wp fun prog w A R s h => by
    obtain ⟨hp, g, d, tk, os⟩ := s; obtain ⟨hl, h⟩ := h
    have hsub := sub_enumerate
    have hL : Heap.IsTuple (Shared.heap ⟨hp, g, d, tk, os⟩) l items := hl
    wp_walk using wpAny_pyIter_tuple hL
    refine wpAny_stack_any fun st => wpAny_pure ?_
    split
    · rename_i c _ _ _ _ _
      cases (c == Value.type "enumerate") <;> (wp_walk using wpAny_pyIter_tuple hL; exact ⟨_, rfl, h⟩)
    · wp_walk using wpAny_pyIter_tuple hL
      exact ⟨_, rfl, h⟩
theorem enumT_call {prog : Program} {w : World} {A : Around} {E : Value → Shared → Prop} {s : Shared} {l : Addr} {items : Array Value} {Q : Value → Shared → Prop} (hL : s.heap.IsTuple l items)
    (h : ∀ h', IsEnum h' (s.heap.objs.size + 1) s.heap.objs.size 0 .none → h'.IsTupleIter s.heap.objs.size l 0 → (∀ b o, s.heap.get? b = some o → h'.get? b = some o) → Q (.ref (s.heap.objs.size + 1)) { s with heap := h' }) :
    wpAny (model prog w) A (call (.type "enumerate") [.ref l]) Q E s := by
  refine callType_new F.called_enumerate (by decide) (F.typeCall_enumerate_1 _) (F.newCall_enumerate_1 _) (fun obj => F.args_object_init_2 obj _) F.entry_enumerate_new (enumT_new l items) ⟨hL, ?_⟩
  have hz : (s.heap.push { cls := .type "tuple_iterator", data := .fields #[.ref l, .int 0 0] }).objs.size = s.heap.objs.size + 1 := Heap.size_push ..
  show _ ∧ _
  rw [hz]
  have he : IsEnum ((s.heap.push { cls := .type "tuple_iterator", data := .fields #[.ref l, .int 0 0] }).push
      { cls := .type "enumerate", data := .fields #[.none, .bool false, .ref s.heap.objs.size, rawInt 0, .none, .none] }) (s.heap.objs.size + 1) s.heap.objs.size 0 .none := by
    have q := Heap.get?_push_size (s.heap.push { cls := .type "tuple_iterator", data := .fields #[.ref l, .int 0 0] })
      (o := { cls := .type "enumerate", data := .fields #[.none, .bool false, .ref s.heap.objs.size, rawInt 0, .none, .none] }) rfl
    rw [hz] at q
    exact q
  exact ⟨⟨_, he, rfl⟩, h _ he ⟨_, Heap.get?_push_of_some _ (Heap.get?_push_size _ rfl), rfl, rfl⟩ fun b o x => Heap.get?_push_of_some _ (Heap.get?_push_of_some _ x)⟩
def iEnumT (K : PySem.W.Frag) (ta : TA) : TI := fun σ H R => ta σ H fun vs H1 => ∃ a xs, vs = [.ref a] ∧ SqT K H1 a xs ∧ R (IteT K a) H1
theorem pi_enumT {X : Cx} {e : Expr} {ta : TA} {p pos tpos : Pos} {elts : List Expr} {kk : Nat} (hg : Gl X "enumerate") (hm : X.mg "enumerate" = none) (ha : PA X [e] ta) (hs : starEach [e] X.env = [(false, eval e X.env)] := by rfl) :
    PI X (.Tuple elts kk tpos) (.Call (.Name "enumerate" p) [e] [] pos) (iEnumT X.K ta) := by
  refine ⟨fun pins s σ H R I h => ?_⟩
  refine Call_ (ld_blt I hg hm boot_enumerate (PyProof.Rows.callWith_type1 (thn (ha.run pos pins s σ H _ I h) fun us s1 ⟨vs, H1, I1, r1, q1⟩ => ?_) hs rfl))
  obtain ⟨a, xs, ex, hq, q⟩ := q1
  subst ex
  cases r1 with
  | cons r rr =>
    cases rr
    cases r
    obtain ⟨its, rv, p', hz⟩ := I1.tuple hq
    have hal : a < s1.heap.objs.size := p'.lt
    refine enumT_call (show s1.heap.IsTuple a its.toArray from p') fun h' he hit hk => wpAny_pyIter_enum he ?_
    have I2 : Inv X pins σ H1 { s1 with heap := h' } := I1.kept (t' := s1.toks) hk
    refine ⟨s1.heap.objs.size + 1, [s1.heap.objs.size + 1, s1.heap.objs.size], _, _, H1, rfl, I2, enumT_at a (s1.heap.objs.size + 1) s1.heap.objs.size (Nat.ne_of_gt (Nat.lt_succ_of_lt hal)) (Nat.ne_of_lt hal), ⟨⟨.none, he⟩, hit, Nat.succ_ne_self _⟩, fun b hb => ?_, q⟩
    have hle : s1.heap.objs.size ≤ b := by
      rcases (show b = s1.heap.objs.size + 1 ∨ b = s1.heap.objs.size by simpa using hb) with z | z
      · rw [z]; exact Nat.le_add_right _ _
      · rw [z]; exact Nat.le_refl _
    exact I1.fpOk hle (I1.hok.fresh hle)

/-! ### zip(tuple, list) -/
def ItzM (K : PySem.W.Frag) (a b : Addr) : It where
  go := fun i H => ∃ (xs ys : List V) (x y : V), SqT K H a xs ∧ SqL K H b ys ∧ xs[i]? = some x ∧ ys[i]? = some y
  yld := fun i H v H' => ∃ T x y, v = .ref T ∧ H T = none ∧ H' = upd H T (.tup [x, y]) ∧ (∀ xs, SqT K H a xs → xs[i]? = some x) ∧ ∀ ys, SqL K H b ys → ys[i]? = some y
  stop := fun i H => ∃ xs ys : List V, SqT K H a xs ∧ SqL K H b ys ∧ xs.length = i ∧ ys.length = i
theorem sep_of {z TI TO i1 i2 a b : Addr} (D : ZipApart z TI TO i1 i2 a b) : ZipSep2 z TI TO i1 i2 [i1, a] [i2, b] where
  TIz := D.TIz
  TOz := D.TOz
  TITO := D.TITO
  TIi1 := D.TIi1
  mem1 := by simp
  zf1 := by simp [D.i1z.symm, D.l1z.symm]
  Tf1 := by simp [D.TOi1, D.l1TO.symm]
  TIi2 := D.TIi2
  mem2 := by simp
  zf2 := by simp [D.i2z.symm, D.l2z.symm]
  Tf2 := by simp [D.TOi2, D.l2TO.symm]
  sep1_2 := by simp [D.i12, D.l2i1.symm]
  sep2_1 := by simp [D.i12.symm, D.l1i2.symm]
theorem five_of {α : Type} {c z TI TO i1 i2 : α} (h : c ∈ [z, TI, TO, i1, i2]) : c = z ∨ c = TI ∨ c = TO ∨ c = i1 ∨ c = i2 := by simpa using h
theorem zipM_at {P : Program} {w : World} {K : PySem.W.Frag} {elts : List Expr} {kk : Nat} {tpos : Pos} {a b z TI TO i1 i2 : Addr} (D : ZipApart z TI TO i1 i2 a b) :
    Turn P w K (.Tuple elts kk tpos) (ItzM K a b) [z, TI, TO, i1, i2] z (fun i h => IsZip h z TI TO .none ∧ IsPair h TI (.ref i1) (.ref i2) ∧ (∃ x y, IsPair h TO x y) ∧ h.IsTupleIter i1 a i ∧ h.IsListIter i2 b i) where
  mem := by simp
  obj := fun i h st c hc => by
    obtain ⟨hz, hTI, ⟨x, y, hTO⟩, ⟨o1, e1, _, d1⟩, ⟨o2, e2, _, d2⟩⟩ := st
    rcases five_of hc with q | q | q | q | q
    · subst q; exact ⟨_, hz, fun v q => nomatch q⟩
    · subst q; exact ⟨_, hTI, fun v q => nomatch q⟩
    · subst q; exact ⟨_, hTO, fun v q => nomatch q⟩
    · subst q; exact ⟨o1, e1, fun v q => by rw [d1] at q; cases q⟩
    · subst q; exact ⟨o2, e2, fun v q => by rw [d2] at q; cases q⟩
  keep := fun i h h' st k => by
    obtain ⟨hz, hTI, ⟨x, y, hTO⟩, h1, h2⟩ := st
    exact ⟨k z (by simp) _ hz, k TI (by simp) _ hTI, ⟨x, y, k TO (by simp) _ hTO⟩, h1.at fun o q => k i1 (by simp) o q, h2.at fun o q => k i2 (by simp) o q⟩
  item := by
    intro X hP hw hK hc i pins s σ H E I hf st hg
    subst hP hw hK
    obtain ⟨hz, hTI, ⟨x0, y0, hTO⟩, h1, h2⟩ := st
    obtain ⟨xs, ys, x, y, hqx, hqy, hx, hy⟩ := hg
    obtain ⟨its, rv, p, _⟩ := I.tuple hqx
    obtain ⟨its2, rv2, p2, _⟩ := I.list hqy
    obtain ⟨u, hu, ru⟩ := rv.get hx
    obtain ⟨u2, hu2, ru2⟩ := rv2.get hy
    have D1 : Draws X.prog X.w X.A.in1 i1 [i1, a] its.toArray.size (fun i v => its.toArray[i]? = some v) (fun i h => h.IsTupleIter i1 a i ∧ h.IsTuple a its.toArray) := Draws.tuple (show X.A.in1.handled = none from I.ok.hd hc) i1 a D.l1i1 its.toArray
    have D2 : Draws X.prog X.w X.A.in1 i2 [i2, b] its2.toArray.size (fun i v => its2.toArray[i]? = some v) (fun i h => h.IsListIter i2 b i ∧ h.IsList b its2.toArray) := Draws.list (show X.A.in1.handled = none from I.ok.hd hc) i2 b D.l2i2 its2.toArray
    have lt1 : i < its.toArray.size := by rw [List.size_toArray]; exact (List.getElem?_eq_some_iff.mp hu).1
    have lt2 : i < its2.toArray.size := by rw [List.size_toArray]; exact (List.getElem?_eq_some_iff.mp hu2).1
    have hzl : z < s.heap.objs.size := Heap.lt_size hz
    refine wpAny_pyNext_zipD2_item (sep_of D) D1 D2 hz hTI hTO ⟨h1, p⟩ ⟨h2, p2.isList⟩ lt1 lt2 fun v1 v2 h' tk e1 e2 z' TO' s1' s2' hT hsz hk => ?_
    have ev1 : v1 = u := by
      have q : its.toArray[i]? = some u := by simpa using hu
      rw [q] at e1
      exact (Option.some.inj e1).symm
    have ev2 : v2 = u2 := by
      have q : its2.toArray[i]? = some u2 := by simpa using hu2
      rw [q] at e2
      exact (Option.some.inj e2).symm
    subst ev1 ev2
    refine ⟨_, rfl, wpAny_letOwnedTupleGo_zip (s := { s with heap := h', toks := tk }) z' fun h'' z'' sb => ?_⟩
    have hT2 : h''.get? s.heap.objs.size = some { cls := .type "tuple", data := .seq #[v1, v2] } := (sb.2 _ (Nat.ne_of_gt hzl)).trans hT
    have new : ObjOk X.prog X.w (upd H s.heap.objs.size (.tup [x, y])) h'' s.heap.objs.size (.tup [x, y]) :=
      ⟨by show 2 ≤ sizeLine; decide, [v1, v2], .cons ru (.cons ru2 .nil), ⟨_, hT2, rfl, _, rfl⟩⟩
    have I1 : Inv X pins σ (upd H s.heap.objs.size (.tup [x, y])) { s with heap := h'', toks := tk } :=
      I.turnedNew (ch := [z, TI, TO, i1, i2]) (fun c o hb q => (sb.2 c (fun q' => hb (by simp [q']))).trans (hk c o (fun q' => hb (by simp [q'])) (fun q' => hb (by simp [q'])) (fun q' => hb (by simp [q'])) (fun q' => hb (by simp [q'])) q)) hf (Nat.le_refl _) new
    refine ⟨.ref s.heap.objs.size, _, I1, rfl, ⟨_, x, y, rfl, I.hok.fresh (Nat.le_refl _), rfl, fun l hl => by rw [I.tuple_inj hl hqx]; exact hx, fun l hl => by rw [I.list_inj hl hqy]; exact hy⟩, ⟨z'', ?_, ⟨v1, v2, ?_⟩, ?_, ?_⟩, fun c hcm => ?_⟩
    · exact (sb.2 _ D.TIz).trans (hk _ _ D.TIz D.TITO D.TIi1 D.TIi2 hTI)
    · exact (sb.2 _ D.TOz).trans TO'
    · exact s1'.1.at fun o q => (sb.2 _ D.i1z).trans q
    · exact s2'.1.at fun o q => (sb.2 _ D.i2z).trans q
    · have hlt : c < s.heap.objs.size := by
        rcases five_of hcm with q | q | q | q | q
        · rw [q]; exact hzl
        · rw [q]; exact Heap.lt_size hTI
        · rw [q]; exact Heap.lt_size hTO
        · rw [q]; obtain ⟨_, e1, _⟩ := h1; exact Heap.lt_size e1
        · rw [q]; obtain ⟨_, e2, _⟩ := h2; exact Heap.lt_size e2
      rw [upd_ne (Nat.ne_of_lt hlt)]
      exact (hf c hcm).1
  done := by
    intro X hP hw hK hc i pins s σ H E I hf st hg
    subst hP hw hK
    obtain ⟨hz, hTI, ⟨x0, y0, hTO⟩, h1, h2⟩ := st
    obtain ⟨xs, ys, hqx, hqy, ex, ey⟩ := hg
    obtain ⟨its, rv, p, _⟩ := I.tuple hqx
    obtain ⟨its2, rv2, p2, _⟩ := I.list hqy
    have D1 : Draws X.prog X.w X.A.in1 i1 [i1, a] its.toArray.size (fun i v => its.toArray[i]? = some v) (fun i h => h.IsTupleIter i1 a i ∧ h.IsTuple a its.toArray) := Draws.tuple (show X.A.in1.handled = none from I.ok.hd hc) i1 a D.l1i1 its.toArray
    have D2 : Draws X.prog X.w X.A.in1 i2 [i2, b] its2.toArray.size (fun i v => its2.toArray[i]? = some v) (fun i h => h.IsListIter i2 b i ∧ h.IsList b its2.toArray) := Draws.list (show X.A.in1.handled = none from I.ok.hd hc) i2 b D.l2i2 its2.toArray
    have n1 : i = its.toArray.size := by rw [List.size_toArray, ← rv.length, ex]
    have n2 : i = its2.toArray.size := by rw [List.size_toArray, ← rv2.length, ey]
    exact wpAny_pyNext_zipD2_end (sep_of D) D1 D2 hz hTI hTO ⟨h1, p⟩ ⟨h2, p2.isList⟩ (Nat.le_of_eq n1) (Nat.le_of_eq n2) (.inl n1) fun h' tk hk => ⟨rfl, I.turnedL (ch := [z, TI, TO, i1, i2]) (fun c o hb q =>
      hk c o (fun q' => hb (by simp [q'])) (fun q' => hb (by simp [q'])) (fun q' => hb (by simp [q'])) (fun q' => hb (by simp [q'])) q) hf⟩
  self := fun A i s Q E st h => wpAny_pyIter_zip st.1 h
def iZipM (K : PySem.W.Frag) (ta : TA) : TI := fun σ H R => ta σ H fun vs H1 => ∃ a b xs ys, vs = [.ref a, .ref b] ∧ SqT K H1 a xs ∧ SqL K H1 b ys ∧ R (ItzM K a b) H1
theorem pi_zipM {X : Cx} {e e2 : Expr} {ta : TA} {p pos tpos : Pos} {elts : List Expr} {kk : Nat} (hg : Gl X "zip") (hm : X.mg "zip" = none) (ha : PA X [e, e2] ta)
    (hs : starEach [e, e2] X.env = (false, eval e X.env) :: starEach [e2] X.env := by rfl) (hpl : (backTo pos (starEach [e2] X.env)).any (·.1) = false := by rfl) :
    PI X (.Tuple elts kk tpos) (.Call (.Name "zip" p) [e, e2] [] pos) (iZipM X.K ta) := by
  refine ⟨fun pins s σ H R I h => ?_⟩
  refine Call_ (ld_blt I hg hm PyProof.Rows.boot_zip (PyProof.Rows.callWith_type1 (thn (ha.run pos pins s σ H _ I h) fun us s1 ⟨vs, H1, I1, r1, q1⟩ => ?_) hs hpl))
  obtain ⟨a, b, xs, ys, ex, hqx, hqy, q⟩ := q1
  subst ex
  cases r1 with
  | cons r rr =>
    cases rr with
    | cons r' rr =>
      cases rr
      cases r
      cases r'
      obtain ⟨its, rv, p1, _⟩ := I1.tuple hqx
      obtain ⟨its2, rv2, p2, _⟩ := I1.list hqy
      have la : a < s1.heap.objs.size := p1.lt
      have lb : b < s1.heap.objs.size := p2.lt
      refine zip_begins2 (begins_tuple a its.toArray) (begins_list b its2.toArray) (show s1.heap.IsTuple a its.toArray from p1) p2.isList fun h' hz hTI hTO h1 h2 hsz hk => wpAny_pyIter_zip hz ?_
      have I2 : Inv X pins σ H1 { s1 with heap := h' } := I1.kept (t' := s1.toks) hk
      refine ⟨s1.heap.objs.size + 4, [s1.heap.objs.size + 4, s1.heap.objs.size + 2, s1.heap.objs.size + 3, s1.heap.objs.size, s1.heap.objs.size + 1], _, _, H1, rfl, I2, zipM_at (PySem.W.ktu_apart s1.heap.objs.size a b la lb), ⟨hz, hTI, ⟨_, _, hTO⟩, ⟨_, h1, rfl, rfl⟩, ⟨_, h2, rfl, rfl⟩⟩, fun c hcm => ?_, q⟩
      have hle : s1.heap.objs.size ≤ c := by
        rcases five_of hcm with z | z | z | z | z
        · rw [z]; exact Nat.le_add_right _ _
        · rw [z]; exact Nat.le_add_right _ _
        · rw [z]; exact Nat.le_add_right _ _
        · rw [z]; exact Nat.le_refl _
        · rw [z]; exact Nat.le_add_right _ _
      exact I1.fpOk hle (I1.hok.fresh hle)

/-! ### t.index(n), ints -/
section
variable {X : Cx}
theorem mt_tindex : MtR X "tuple.index" (fun x xs H Q => ∃ (p : Addr) (ns : List Int) (n : Int), x = .ref p ∧ xs = [.int n] ∧ SqT X.K H p (ns.map V.int) ∧ n ∈ ns ∧ Q (.int ((ns.idxOf n : Nat) : Int)) H) := by
  intro pins s σ H x xs v us Q I rx rs h
  obtain ⟨p, ns, n, rfl, rfl, hq, hm, q⟩ := h
  cases rx
  obtain ⟨u, rfl, t, rfl⟩ := vals1 rs
  obtain ⟨its, r, pl, hz⟩ := I.tuple hq
  obtain ⟨⟨cls, dd, dt, sl⟩, ho, hc, k, hd⟩ := pl
  simp only at hc hd
  subst hc hd
  have hl : its.toArray.size = ns.length := by rw [List.size_toArray, ← r.length, List.length_map]
  have hj0 : ns.idxOf n < ns.length := List.idxOf_lt_length_of_mem hm
  have hj : ns.idxOf n < its.toArray.size := by rw [hl]; exact hj0
  have place : ∀ (m : Nat) (hm : m < its.toArray.size) (hm' : m < ns.length), ∃ t', its.toArray[m] = Value.int ns[m] t' := fun m hm hm' => by
    obtain ⟨w, hw, t', hw'⟩ := r.get (i := m) (x := .int ns[m]) (by simp [hm'])
    refine ⟨t', ?_⟩
    have e := (List.getElem?_eq_some_iff.mp hw).2
    rw [← hw', ← e]
    simp
  have flat : (ns.map V.int).all flatV = true := by
    rw [List.all_map]
    exact List.all_eq_true.mpr fun _ _ => rfl
  refine call_meets PySem.F.slot_tuple_index ⟨_, ho, rfl⟩ PySem.F.entry_tuple_index (PySem.F.args_tuple_index_2 _ _) (TI.tuple_indexAt p its.toArray k dd sl (.int n t) (eqU (.int n)) (ns.idxOf n) hj ?_ ?_)
    ⟨ho, fun w hw => mem_eqAt (x := .int n) ⟨t, rfl⟩ rfl r flat w (by simpa using hw), ⟨.int ((ns.idxOf n : Nat) : Int), H, I.tok _, ⟨_, rfl⟩, q⟩⟩
  · obtain ⟨t', h2⟩ := place _ hj hj0
    rw [h2, List.getElem_idxOf hj0]
    show (n == n) = true
    exact beq_self_eq_true n
  · intro m hm1 hmj
    have hm' : m < ns.length := by rw [← hl]; exact hm1
    obtain ⟨t', h2⟩ := place m hm1 hm'
    rw [h2]
    show (ns[m] == n) = false
    exact List.not_of_lt_findIdx (p := fun y => y == n) hmj

/-! ### sorted(tuple), ints -/
def rSortTI (K : PySem.W.Frag) : List V → Hp → VK → Prop := fun vs H Q => ∃ (a : Addr) (ns : List Int), vs = [V.ref a] ∧ SqT K H a (ns.map V.int) ∧ ns.length < 64 ∧
  ∀ (ns' : List Int) (p : Addr), ns'.Perm ns → ns'.Pairwise (· ≤ ·) → H p = none → Q (.ref p) (upd H p (.lst (ns'.map V.int)))
theorem cr_sortTI : CallR X (.builtin "sorted") (rSortTI X.K) := by
  intro pins s σ H vs us Q I r h
  obtain ⟨a, ns, rfl, hs, h64, q⟩ := h
  obtain ⟨its, rv, ⟨o, ho, hc, k, hd⟩, hz⟩ := I.tuple hs
  rw [Vals.ref1 r]
  have hi := rv.ints
  have hl64 : its.length < 64 := by rw [hi.length]; exact h64
  have hsz : its.toArray.size ≤ sizeLine := by rw [List.size_toArray, sizeLine_eq]; omega
  refine Calls.call_function_entry kind_sorted plain_sorted entry_sorted (args_sorted1 _) ?_
  unfold Builtin.«sorted»
  refine wpAny_bind (m := checkCount "sorted" 1 1 _) (wpAny_pure ?_)
  refine wpAny_bind (wpAny_collect_seq (hsz := hsz) a (.inr rfl) ho hc hd fun h1 hk => ?_)
  refine wpAny_bind (wpAny_newList ?_)
  have I1 : Inv X pins σ H { s with heap := h1 } := I.kept (t' := s.toks) hk
  have hob : (h1.push (seqObj "list" its.toArray 0)).get? h1.objs.size = some (seqObj "list" its.toArray 0) := Heap.get?_push_size _ rfl
  show wpAny _ _ _ _ _ { s with heap := h1.push (seqObj "list" its.toArray 0) }
  refine wpAny_bind (wpAny_holding (wpAny_call_entry slot_list_sort ⟨_, hob, rfl⟩ entry_list_sort (list_sort_tree hob hi hl64 fun out ns' a1 a2 a3 => ⟨_, rfl, ?_⟩) (args_list_sort _)))
  refine wpAny_pure ⟨_, rfl, ?_⟩
  obtain ⟨ep, he'⟩ := PyProof.Rows.sortedHeap_at (vs := its) (out := out) hob
  have hlen : (ns'.map V.int).length ≤ sizeLine := by rw [List.length_map, a2.length_eq]; exact small64 h64
  refine ⟨.ref h1.objs.size, upd H h1.objs.size (.lst (ns'.map V.int)), I1.laid (t' := s.toks) (fun b u hu => ?_) (Nat.le_refl _) ⟨hlen, out.toList, ep, vals_of_ints a1, he'⟩, rfl, q ns' _ a2 a3 (I1.hok.fresh (Nat.le_refl _))⟩
  have hlt : b < h1.objs.size := Heap.lt_size hu
  rw [PyProof.Rows.sortedHeap_old (Nat.ne_of_lt hlt) (by rw [size_push']; exact Nat.lt_succ_of_lt hlt), Heap.get?_push_ne _ _ _ (Nat.ne_of_lt hlt)]
  exact hu

/-! ### tuple * int, any count -/
end
open AutoSeq1 (wpAny_loadPart')
theorem mulSame (l : Addr) (items : Array Value) (n : Nat) (dd : Option Addr) (sl : Array (Option Value)) (x : Int) (u : Tok) (c0 : (decide (x < -(2 ^ 63)) || decide (x ≥ 2 ^ 63)) = false) (c1 : (items.isEmpty || x == 1) = true) :
    Meets (Builtin.«tuple.__mul__» ⟨[.ref l, .int x u], []⟩) (fun _ R s => s.heap.get? l = some { cls := .type "tuple", dict := dd, data := .seq items n, slots := sl } ∧ R (.ok (.ret (Value.ref l))) s) :=
  .of_wp fun prog w A R s h => by
    obtain ⟨hp, g, d, tk, os⟩ := s
    obtain ⟨hl, h⟩ := h
    have f1 := AutoSeq1.idx_int
    wp_walk using wpAny_loadPart' hl
    refine wpAny_ite_false (decide_eq_false (by rw [c0]; exact Bool.false_ne_true)) ?_
    wp_walk using wpAny_loadPart' hl
    exact ⟨_, rfl, h⟩
theorem mulNone (l : Addr) (items : Array Value) (n : Nat) (dd : Option Addr) (sl : Array (Option Value)) (x : Int) (u : Tok) (c0 : (decide (x < -(2 ^ 63)) || decide (x ≥ 2 ^ 63)) = false) (c1 : (items.isEmpty || x == 1) = false) (c2 : (decide (x ≤ 0) || items.isEmpty) = true) :
    Meets (Builtin.«tuple.__mul__» ⟨[.ref l, .int x u], []⟩) (fun _ R s => s.heap.get? l = some { cls := .type "tuple", dict := dd, data := .seq items n, slots := sl } ∧
      R (.ok (.ret (Value.ref s.heap.objs.size))) { s with heap := s.heap.push { cls := Value.type "tuple", data := Data.seq #[] } }) :=
  .of_wp fun prog w A R s h => by
    obtain ⟨hp, g, d, tk, os⟩ := s
    obtain ⟨hl, h⟩ := h
    have f1 := AutoSeq1.idx_int
    wp_walk using wpAny_loadPart' hl
    refine wpAny_ite_false (decide_eq_false (by rw [c0]; exact Bool.false_ne_true)) ?_
    wp_walk using wpAny_loadPart' hl
    exact ⟨_, rfl, h⟩
def rMulT (K : PySem.W.Frag) : R2 := fun x y H Q => ∃ (l : Addr) (k : Int) (xs : List V), x = .ref l ∧ y = .int k ∧ SqT K H l xs ∧ xs.length ≤ 1000 ∧ 0 ≤ k ∧ k ≤ 1000 ∧
  ∀ H' p, Same H H' → SqT K H' p (List.replicate k.toNat xs).flatten → Q (.ref p) H'
section
variable {X : Cx}
theorem flatNil {α : Type} : ∀ n : Nat, (List.replicate n ([] : List α)).flatten = [] := fun n => List.flatten_replicate_nil
theorem op_mulT : OpR X (binaryOp .Mult) (rMulT X.K) := by
  intro pins s σ H x y v u Q I rx ry h
  obtain ⟨l, k, xs, rfl, rfl, hT, hz, h0, h1, q⟩ := h
  by_cases hbig : xs ≠ [] ∧ 2 ≤ k
  · refine op_repT pins s σ H (.ref l) (.int k) v u Q I rx ry ⟨l, k, xs, rfl, rfl, hT, hbig.1, hbig.2, h1, hz, fun p hp => q _ p (fun b o e => ?_) (.inl (.inl upd_same))⟩
    rw [upd_ne (ne_of_none e hp)]
    exact e
  · cases rx
    obtain ⟨t, rfl⟩ := ry
    obtain ⟨its, r, ⟨⟨cls, dd, data, sl⟩, ho, hc, n, hd⟩, hs⟩ := I.tuple hT
    simp only at hc hd
    subst hc hd
    have hle : its.length = xs.length := r.length.symm
    have c0 : (decide (k < -(2 ^ 63)) || decide (k ≥ 2 ^ 63)) = false := by
      rw [decide_eq_false (by omega), decide_eq_false (by omega)] <;> rfl
    by_cases hsame : (its.toArray.isEmpty || k == 1) = true
    · refine wpAny_binaryOp_repeat_ref (T := "tuple") (U := "int") (by decide) ⟨_, ho, rfl⟩ (fun s' => typeIs_int s' k t) noFill_tuple_mul F.fills_int_mul F.slot_int_rmul repeat_tuple F.slot_int_index.lookup
        (call_meets F.slot_int_rmul (typeIs_int s k t) F.entry_int_rmul (F.args_int_rmul_2 _ _) (int_rmul_tuple k t l its.toArray n dd sl)
          ⟨ho, rfl, ⟨_, ho, rfl⟩, call_meets F.slot_tuple_mul ⟨_, ho, rfl⟩ F.entry_tuple_mul (F.args_tuple_mul_2 _ _) (mulSame l its.toArray n dd sl k t c0 hsame) ⟨ho, ?_⟩⟩)
      refine ⟨.ref l, H, I, rfl, q H l (Same.refl H) ?_⟩
      have e : (List.replicate k.toNat xs).flatten = xs := by
        rcases Bool.or_eq_true_iff.mp hsame with e | e
        · have e0 : its = [] := by simpa using e
          have e1 : xs = [] := List.eq_nil_of_length_eq_zero (by rw [← hle, e0]; rfl)
          rw [e1, flatNil]
        · have e1 : k = 1 := eq_of_beq e
          subst e1
          simp
      rw [e]
      exact hT
    · have hsame' : (its.toArray.isEmpty || k == 1) = false := by simpa using hsame
      have hk1 : ¬ k = 1 := fun e => by subst e; simp at hsame'
      have hne : xs ≠ [] := fun e => by
        subst e
        have e0 : its = [] := List.eq_nil_of_length_eq_zero hle
        subst e0
        simp at hsame'
      have hk0 : k ≤ 0 := by
        rcases Classical.em (2 ≤ k) with z | z
        · exact absurd ⟨hne, z⟩ hbig
        · omega
      refine wpAny_binaryOp_repeat_ref (T := "tuple") (U := "int") (by decide) ⟨_, ho, rfl⟩ (fun s' => typeIs_int s' k t) noFill_tuple_mul F.fills_int_mul F.slot_int_rmul repeat_tuple F.slot_int_index.lookup
        (call_meets F.slot_int_rmul (typeIs_int s k t) F.entry_int_rmul (F.args_int_rmul_2 _ _) (int_rmul_tuple k t l its.toArray n dd sl)
          ⟨ho, rfl, ⟨_, ho, rfl⟩, call_meets F.slot_tuple_mul ⟨_, ho, rfl⟩ F.entry_tuple_mul (F.args_tuple_mul_2 _ _) (mulNone l its.toArray n dd sl k t c0 hsame' (by rw [decide_eq_true hk0]; rfl)) ⟨ho, ?_⟩⟩)
      have ek : k.toNat = 0 := by omega
      refine ⟨.ref s.heap.objs.size, upd H s.heap.objs.size (.tup []), I.laid (t' := s.toks) (fun b ob z => Heap.get?_push_of_some _ z) (Nat.le_refl _) ⟨Nat.zero_le _, [], .nil, IsTup.new _ _⟩, rfl, q _ _ (fun b o e => ?_) ?_⟩
      · rw [upd_ne (ne_of_none e (I.hok.fresh (Nat.le_refl _)))]
        exact e
      · rw [ek]
        exact .inl (.inl upd_same)

/-! ### t[::-1] -/
def tRevT (K : PySem.W.Frag) (te : TE) : TE := fun σ H Q => te σ H fun x H1 => ∃ a xs, x = .ref a ∧ SqT K H1 a xs ∧ ∀ p, H1 p = none → Q (.ref p) (upd H1 p (.tup xs.reverse))
theorem revBounds (n : Nat) : Builtin.Slice.sliceAdjust none none (-1) (n : Int) = ((n : Int) - 1, -1) := rfl
theorem revPlaces (n : Nat) : Builtin.Slice.slicePlaces ((n : Int) - 1) (-1) (-1) = n := by
  unfold Builtin.Slice.slicePlaces
  have h1 : ¬ ((-1 : Int) > 0) := by omega
  have h2 : (-(-1) : Int) = 1 := rfl
  rw [if_neg h1, h2, Int.ediv_one]
  split <;> omega
theorem fmCongr {α β : Type} {f g : α → Option β} : ∀ {l : List α}, (∀ a ∈ l, f a = g a) → l.filterMap f = l.filterMap g
  | [], _ => rfl
  | x :: r, h => by
    rw [List.filterMap_cons, List.filterMap_cons, h x List.mem_cons_self, fmCongr fun a ha => h a (List.mem_cons_of_mem _ ha)]
theorem revPick (xs : Array Value) : ((List.range xs.size).filterMap fun (m : Nat) => xs[((xs.size : Int) - 1 + (m : Int) * (-1)).toNat]?).toArray = xs.toList.reverse.toArray := by
  have e : (List.range xs.size).filterMap (fun (m : Nat) => xs[((xs.size : Int) - 1 + (m : Int) * (-1)).toNat]?) = ((List.range xs.size).map fun k => xs.size - 1 - k).filterMap (xs[·]?) := by
    rw [List.filterMap_map]
    refine fmCongr fun m hm => ?_
    have := List.mem_range.mp hm
    show xs[((xs.size : Int) - 1 + (m : Int) * (-1)).toNat]? = xs[xs.size - 1 - m]?
    rw [show ((xs.size : Int) - 1 + (m : Int) * (-1)).toNat = xs.size - 1 - m by omega]
  rw [e, PySem.W.krv_range, List.filterMap_reverse, PySem.W.krv_all]
theorem revApplied {prog : Program} {w : World} {A : Around} {E : Value → Shared → Prop} {s : Shared} {sl : Addr} {vl vu vs : Value} {n : Nat} {Q : Int × Int × Nat → Shared → Prop} (hs : s.heap.IsSliceOf sl vl vu vs) (pl : IsPart vl none) (pu : IsPart vu none) (ps : IsPart vs (some (-1)))
    (h : Q ((n : Int) - 1, -1, n) s) : wpAny (model prog w) A (Builtin.Slice.sliceApplied (.ref sl) (pure (n : Int))) Q E s := by
  obtain ⟨os, hos, hcs, hds⟩ := id hs
  unfold Builtin.Slice.sliceApplied Builtin.Slice.sliceFields
  refine wpAny_bind (wpAny_bind (wpAny_field hos hds (x := vl) rfl (wpAny_bind (wpAny_field hos hds (x := vu) rfl (wpAny_bind (wpAny_field hos hds (x := vs) rfl (wpAny_pure ?_)))))))
  refine wpAny_bind (HT.slicePart_ ps ?_)
  show wpAny _ _ (if ((-1 : Int) == 0) = true then _ else _) _ _ s
  rw [if_neg (by decide)]
  refine wpAny_bind (HT.slicePart_ pl (wpAny_bind (HT.slicePart_ pu (wpAny_bind (wpAny_pure ?_)))))
  show wpAny _ _ (match Builtin.Slice.sliceAdjust none none (-1) (n : Int) with | (lo, hi) => pure (lo, (-1 : Int), Builtin.Slice.slicePlaces lo hi (-1))) _ _ s
  rw [revBounds n]
  show wpAny _ _ (pure ((n : Int) - 1, (-1 : Int), Builtin.Slice.slicePlaces ((n : Int) - 1) (-1) (-1))) _ _ s
  rw [revPlaces]
  exact wpAny_pure h
theorem getRev {prog : Program} {w : World} {A : Around} {E : Value → Shared → Prop} {s : Shared} {t sl : Addr} {items : Array Value} {vl vu vs : Value} {Q : Value → Shared → Prop} (ht : IsTup s.heap t items) (hs : s.heap.IsSliceOf sl vl vu vs) (pl : IsPart vl none) (pu : IsPart vu none) (ps : IsPart vs (some (-1)))
    (h : Q (.ref s.heap.objs.size) { s with heap := s.heap.push { cls := .type "tuple", data := .seq items.toList.reverse.toArray } }) (hsz : items.size ≤ sizeLine) : wpAny (model prog w) A (getItem (.ref t) (.ref sl)) Q E s := by
  have htake : sizeOk (.seq items.toList.reverse.toArray) := by
    show items.toList.reverse.toArray.size ≤ sizeLine
    rw [List.size_toArray, List.length_reverse, Array.length_toList]
    exact hsz
  obtain ⟨os, hos, hcs, hds⟩ := id hs
  have hTs : s.TypeIs (.ref sl) "slice" := ⟨os, hos, hcs⟩
  unfold getItem
  try with_reducible refine wpAny_holding ?_
  first | refine wpAny_bind (wpAny_pure ?_) | skip
  refine wpAny_bind (wpAny_sequenceKey ht.typeIs (by decide) ?_)
  refine wpAny_bind (wpAny_callSpecial?_slot (name := Str.ofString "__getitem__") ht.typeIs PyProof.Rows.slot_tuple_getitem
    (wpAny_call_entry PyProof.Rows.slot_tuple_getitem ht.typeIs PyProof.Rows.entry_tuple_getitem ?_ (PyProof.Rows.args_tuple_getitem _ _)))
  show wpAny _ _ (Builtin.Tuple.tupleItemsOf (.ref t) >>= _) _ _ s
  refine wpAny_bind (PyProof.Rows.tupleItemsOf_ ht ?_)
  refine wpAny_bind (wpAny_typeOf hTs ?_)
  rw [if_pos (by decide)]
  refine wpAny_bind (revApplied hs pl pu ps ?_)
  have hno : ¬ ((((items.size : Int) - 1) == 0 && (-1 : Int) == 1 && items.size == items.size) = true) := by
    rw [show ((-1 : Int) == 1) = false from rfl, Bool.and_false, Bool.false_and]
    exact Bool.false_ne_true
  show wpAny _ _ (if (((items.size : Int) - 1) == 0 && (-1 : Int) == 1 && items.size == items.size) = true then _ else _) _ _ s
  rw [if_neg hno, revPick]
  first
    | exact wpAny_bind (m := Builtin.Tuple.tupleExact _) (wpAny_newObj_type (wpAny_pure ⟨_, rfl, wpAny_pure h⟩) htake)
    | exact wpAny_bind (m := Builtin.Tuple.tupleExact _) (wpAny_newObj_type (wpAny_bind (wpAny_pure (wpAny_pure ⟨_, rfl, wpAny_pure h⟩))) htake)
    | exact wpAny_bind (wpAny_bind (m := Builtin.Tuple.tupleExact _) (wpAny_newObj_type (wpAny_pure (wpAny_pure ⟨_, rfl, wpAny_pure h⟩)) htake))
    | exact wpAny_bind (wpAny_bind (m := Builtin.Tuple.tupleExact _) (wpAny_newObj_type (wpAny_pure ⟨_, rfl, wpAny_pure h⟩) htake))
theorem pe_revT {e : Expr} {te : TE} {k : Nat} {p1 p2 p3 pos : Pos} (he : PE X e te) : PE X (.Subscript e (.Slice none none (some (.UnaryOp .USub (.Constant (.int 1) k p1) p2)) p3) pos) (tRevT X.K te) := by
  refine ⟨fun pins s σ H Q I h => ?_⟩
  refine Subscript_ (thn (he.run pins s σ H _ I h) fun v s1 ⟨x, H1, I1, r1, q1⟩ => ?_)
  obtain ⟨a, xs, ex, hx, q⟩ := q1
  subst ex
  cases r1
  have hst : PO X (some (.UnaryOp .USub (.Constant (.int 1) k p1) p2)) (tPart (tUn (rU fun i => .int (-i)) (tC (.int 1)))) := po_some (pe_un un_neg pe_int)
  refine wpAny_Slice (thn (po_none.run pins s1 σ H1 (fun o H2 => o = none ∧ H2 = H1) I1 ⟨rfl, rfl⟩) fun vl s2 ⟨l, H2, I2, pl, el, e2⟩ => ?_)
  subst el e2
  refine thn (po_none.run pins s2 σ H2 (fun o H3 => o = none ∧ H3 = H2) I2 ⟨rfl, rfl⟩) fun vu s3 ⟨u, H3, I3, pu, eu, e3⟩ => ?_
  subst eu e3
  refine thn (hst.run pins s3 σ H3 (fun o H4 => o = some (-1) ∧ H4 = H3) I3 ⟨1, rfl, -1, rfl, rfl, rfl⟩) fun vs s4 ⟨o, H4, I4, ps, eo, e4⟩ => ?_
  subst eo e4
  have I5 : Inv X pins σ H4 { s4 with heap := s4.heap.push { cls := .type "slice", data := .fields #[vl, vu, vs] } } := I4.kept (t' := s4.toks) fun b ob z => Heap.get?_push_of_some _ z
  obtain ⟨its, r, ht, hz⟩ := I5.tuple hx
  have hlen := r.length
  show wpAny (model X.prog X.w) X.A (subscriptTail e (.Slice none none (some (.UnaryOp .USub (.Constant (.int 1) k p1) p2)) p3) (.ref a) (.ref s4.heap.objs.size)) (EP X pins σ Q) X.xe { s4 with heap := s4.heap.push { cls := .type "slice", data := .fields #[vl, vu, vs] } }
  refine tail_any (ops := [.ref a, .ref s4.heap.objs.size]) ht.typeIs (PyProof.Rows.slot_tuple_getitem.lookup) ?_ (by with_unfolding_all rfl)
  refine getRev ht (Heap.IsSliceOf.new _ vl vu vs) pl pu ps ?_ (by rw [List.size_toArray]; omega)
  refine ⟨.ref _, _, I5.laid (t' := s4.toks) (o := .tup xs.reverse) (fun b ob z => Heap.get?_push_of_some _ z) (Nat.le_refl _) ?_, rfl, q _ (I5.hok.fresh (Nat.le_refl _))⟩
  exact ⟨by rw [List.length_reverse]; exact hz, _, r.reverse, IsTup.new _ _⟩
end
end Cl
set_option Elab.async false
set_option linter.all false
set_option maxRecDepth 100000
set_option maxHeartbeats 4000000
/-! A rule of our own over the hand layer: a dict comprehension with two for clauses (the way of the layer's rule for a list's, with the dict's store at the end of a turn). -/
namespace Cl
open PySem PySem.Spec PyProof.Rows L2

theorem dTurnOut (kx vx t0 i0 t1 i1 : Expr) (c0 c1 : List Expr) (scope : Scope) (pos : Pos) (it acc : Value) (env : Env) :
    compTurn (.DictComp kx vx [⟨t0, i0, c0, 0⟩, ⟨t1, i1, c1, 0⟩] scope pos) 0 it acc env = (do
      standAt i0.pos
      match ← pyNext it with
      | none => pure (.done .next)
      | some v =>
        letOwnedTupleGo t0 it v
        assign t0 env v
        let mut ok := true
        for c in c0 do
          if ok then ok ← isTrue c env (eval c env)
        if ok then
          let x ← eval i1 env
          standAt i1.pos
          let x ← foldedSetIterable i1 env x
          let _ ← runOwn (.compStart (.DictComp kx vx [⟨t0, i0, c0, 0⟩, ⟨t1, i1, c1, 0⟩] scope pos) 1 (← holding [x] (pyIter x)) acc env) env
        again (.compLoop (.DictComp kx vx [⟨t0, i0, c0, 0⟩, ⟨t1, i1, c1, 0⟩] scope pos) 0 it acc env)) := by rfl
theorem dTurnIn (kx vx t0 i0 t1 i1 : Expr) (c0 c1 : List Expr) (scope : Scope) (pos : Pos) (it : Value) (D : Addr) (env : Env) :
    compTurn (.DictComp kx vx [⟨t0, i0, c0, 0⟩, ⟨t1, i1, c1, 0⟩] scope pos) 1 it (.ref D) env = (do
      standAt i1.pos
      match ← pyNext it with
      | none => pure (.done .next)
      | some v =>
        letOwnedTupleGo t1 it v
        assign t1 env v
        let mut ok := true
        for c in c1 do
          if ok then ok ← isTrue c env (eval c env)
        if ok then
          (do
            let kv ← eval kx env
            let vv ← holding [kv] (eval vx env)
            standAt { kx.pos with endLine := vx.pos.endLine, endCol := vx.pos.endCol }
            holding [kv, vv] (dictSet D kv vv))
        again (.compLoop (.DictComp kx vx [⟨t0, i0, c0, 0⟩, ⟨t1, i1, c1, 0⟩] scope pos) 1 it (.ref D) env)) := by rfl

section
variable {prog : Program} {w : World} {A : Around} {R : Result → Shared → Prop} {s : Shared} {kx vx t0 i0 t1 i1 : Expr} {c0 c1 : List Expr} {scope : Scope} {pos : Pos} {it acc : Value} {D : Addr} {env : Env}
/-- what an exception would have to do -/
abbrev Nt (prog : Program) (w : World) (A : Around) (env : Env) (R : Result → Shared → Prop) : Value → Shared → Prop := notedBy (model prog w) A env fun e s' => R (.error e) s'
theorem dLoopOut (hs : ∀ x, foldedSetIterable i1 env x = pure x) (I : Nat → Shared → Prop)
    (turn : ∀ n s, I n s → wpAny (model prog w) A (pyNext it) (fun r s₁ => match r with
      | none => R (.ok .next) s₁
      | some v => wpAny (model prog w) A (letOwnedTupleGo t0 it v) (fun _ z₁ => wpAny (model prog w) A (assign t0 env v) (fun _ s₂ =>
          wpAny (model prog w) A (forIn c0 true fun c r => if r = true then do let ok ← isTrue c env (eval c env); pure (ForInStep.yield ok) else pure (ForInStep.yield r)) (fun ok s₃ =>
            if ok = true then wpAny (model prog w) A (eval i1 env) (fun x s₄ => wpAny (model prog w) A (pyIter x) (fun j s₅ =>
              codeAny (model prog w) A (.compStart (.DictComp kx vx [⟨t0, i0, c0, 0⟩, ⟨t1, i1, c1, 0⟩] scope pos) 1 j acc env) (fun r s' => match r with
                | .ok _ => ∃ m, m < n ∧ I m s'
                | .error _ => False) s₅) (Nt prog w A env R) s₄) (Nt prog w A env R) s₃
            else ∃ m, m < n ∧ I m s₃) (Nt prog w A env R) s₂) (Nt prog w A env R) z₁) (Nt prog w A env R) s₁) (Nt prog w A env R) s)
    (n : Nat) (h : I n s) :
    codeAny (model prog w) A (.compLoop (.DictComp kx vx [⟨t0, i0, c0, 0⟩, ⟨t1, i1, c1, 0⟩] scope pos) 0 it acc env) R s := by
  refine codeAny_loop rfl I (fun n s hI => ?_) n h
  show wpAny _ A ((compTurn (.DictComp kx vx [⟨t0, i0, c0, 0⟩, ⟨t1, i1, c1, 0⟩] scope pos) 0 it acc env).onRaise (fun x => do noteFrame x env; theTreesLotGoes x)) _ _ s
  refine wpAny_noted ?_
  rw [dTurnOut]
  refine wpAny_bind (wpAny_standAt (wpAny_bind (wpAny_mono (turn n s hI) (fun r s₁ h₁ => ?_) fun _ _ z => z)))
  cases r with
  | none => exact wpAny_pure h₁
  | some v =>
    refine wpAny_bind (wpAny_mono h₁ (fun _ z₁ g₁ => ?_) fun _ _ z => z)
    refine wpAny_bind (wpAny_mono g₁ (fun _ s₂ h₂ => wpAny_bind (wpAny_mono h₂ (fun ok s₃ h₃ => ?_) fun _ _ z => z)) fun _ _ z => z)
    cases ok with
    | false => exact wpAny_pure ⟨rfl, h₃⟩
    | true =>
      refine wpAny_bind (wpAny_mono h₃ (fun x s₄ h₄ => ?_) fun _ _ z => z)
      refine wpAny_bind (wpAny_standAt (wpAny_bind (wpAny_of_eq (hs x) (wpAny_bind (wpAny_holding (wpAny_mono h₄ (fun j s₅ h₅ => ?_) fun _ _ z => z))))))
      refine wpAny_bind (wpAny_runOwn ?_)
      rw [Around.mark_none]
      refine codeAny_mono h₅ fun r s' hr => ?_
      cases r with
      | ok f =>
        first
          | exact wpAny_pure ⟨rfl, hr⟩
          | exact wpAny_bind (wpAny_pure (wpAny_pure ⟨rfl, hr⟩))
      | error e => exact hr.elim
theorem dLoopIn (I : Nat → Shared → Prop)
    (turn : ∀ n s, I n s → wpAny (model prog w) A (pyNext it) (fun r s₁ => match r with
      | none => R (.ok .next) s₁
      | some v => wpAny (model prog w) A (letOwnedTupleGo t1 it v) (fun _ z₁ => wpAny (model prog w) A (assign t1 env v) (fun _ s₂ =>
          wpAny (model prog w) A (forIn c1 true fun c r => if r = true then do let ok ← isTrue c env (eval c env); pure (ForInStep.yield ok) else pure (ForInStep.yield r)) (fun ok s₃ =>
            if ok = true then wpAny (model prog w) A (eval kx env) (fun kv s₄ => wpAny (model prog w) A (eval vx env) (fun vv s₅ =>
              wpAny (model prog w) A (dictSet D kv vv) (fun _ s₆ => ∃ m, m < n ∧ I m s₆) (Nt prog w A env R) s₅) (Nt prog w A env R) s₄) (Nt prog w A env R) s₃
            else ∃ m, m < n ∧ I m s₃) (Nt prog w A env R) s₂) (Nt prog w A env R) z₁) (Nt prog w A env R) s₁) (Nt prog w A env R) s)
    (n : Nat) (h : I n s) :
    codeAny (model prog w) A (.compLoop (.DictComp kx vx [⟨t0, i0, c0, 0⟩, ⟨t1, i1, c1, 0⟩] scope pos) 1 it (.ref D) env) R s := by
  refine codeAny_loop rfl I (fun n s hI => ?_) n h
  show wpAny _ A ((compTurn (.DictComp kx vx [⟨t0, i0, c0, 0⟩, ⟨t1, i1, c1, 0⟩] scope pos) 1 it (.ref D) env).onRaise (fun x => do noteFrame x env; theTreesLotGoes x)) _ _ s
  refine wpAny_noted ?_
  rw [dTurnIn]
  refine wpAny_bind (wpAny_standAt (wpAny_bind (wpAny_mono (turn n s hI) (fun r s₁ h₁ => ?_) fun _ _ z => z)))
  cases r with
  | none => exact wpAny_pure h₁
  | some v =>
    refine wpAny_bind (wpAny_mono h₁ (fun _ z₁ g₁ => ?_) fun _ _ z => z)
    refine wpAny_bind (wpAny_mono g₁ (fun _ s₂ h₂ => wpAny_bind (wpAny_mono h₂ (fun ok s₃ h₃ => ?_) fun _ _ z => z)) fun _ _ z => z)
    cases ok with
    | false => exact wpAny_pure ⟨rfl, h₃⟩
    | true =>
      exact wpAny_bind (wpAny_bind (wpAny_mono h₃ (fun kv s₄ h₄ => wpAny_bind (wpAny_holding (wpAny_mono h₄ (fun vv s₅ h₅ => wpAny_bind (wpAny_standAt (wpAny_holding (wpAny_mono h₅ (fun _ s₆ h₆ => wpAny_pure ⟨rfl, h₆⟩) fun _ _ z => z)))) fun _ _ z => z))) fun _ _ z => z))
theorem dStart1 (h0 : codeAny (model prog w) A (.compLoop (.DictComp kx vx [⟨t0, i0, c0, 0⟩, ⟨t1, i1, c1, 0⟩] scope pos) 1 it acc env) R s)
    (h : wpAny (model prog w) A (pyIter it) (fun j s' => codeAny (model prog w) A (.compLoop (.DictComp kx vx [⟨t0, i0, c0, 0⟩, ⟨t1, i1, c1, 0⟩] scope pos) 1 j acc env) R s')
      (notedBy (model prog w) A env fun x s' => R (.error x) s') s) :
    codeAny (model prog w) A (.compStart (.DictComp kx vx [⟨t0, i0, c0, 0⟩, ⟨t1, i1, c1, 0⟩] scope pos) 1 it acc env) R s := by
  refine codeAny_of_tree ?_
  show wpAny _ _ ((compStart (.DictComp kx vx [⟨t0, i0, c0, 0⟩, ⟨t1, i1, c1, 0⟩] scope pos) 1 it acc env).onRaise (fun x => do noteFrame x env; standAt theWindowsPlace)) _ _ s
  refine wpAny_notedAt ?_
  unfold compStart
  show wpAny _ _ (ask >>= _) _ _ s
  refine wpAny_bind (wpAny_askSetting (wpAny_ite ?_))
  split
  · first
      | exact wpAny_bind (wpAny_pure (wpAny_pure (And.intro rfl h0)))
      | exact wpAny_pure (And.intro rfl h0)
  · first
      | exact wpAny_bind (wpAny_rule (wpAny_bind (wpAny_standAt (wpAny_bind (wpAny_mono h (fun j s' z => wpAny_pure (And.intro rfl z)) fun _ _ x => x)))))
      | (refine wpAny_bind (wpAny_rule ?_); show wpAny _ _ (standAt i1.pos >>= _) _ _ s; exact wpAny_bind (wpAny_standAt (wpAny_bind (wpAny_mono h (fun j s' z => wpAny_pure (And.intro rfl z)) fun _ _ x => x))))
end

section
variable {X : Cx}
/-- {k: v for tg in iter if .. for tg1 in iter1 if ..}: the second source's loop within each turn of the first -/
def tDc2 (wi : TI) (g : TG) (tt : TT) (wi1 : TI) (g1 : TG) (tt1 : TT) (tk tv : TE) (vs vs1 : List Nat) : TE := fun σ H Q => wi σ H fun J H1 => ∀ D, H1 D = none → ∃ W : Nat → Nat → Hp → Prop, (∃ m, W 0 m (upd H1 D (.dK []))) ∧ ∀ i m H, W i m H →
  (J.stop i H ∧ Q (.ref D) H) ∨ (J.go i H ∧ ∃ Nx : Hp → Prop, (∀ H', Nx H' → ∃ m', m' < m ∧ W (i + 1) m' H') ∧ ∀ x H', J.yld i H x H' → g x (wipe σ vs) H' fun σ2 H2 => wipe σ2 vs = wipe σ vs ∧ tt σ2 H2 fun b H3 =>
    if b = true then wi1 σ2 H3 fun J1 H4 => ∃ W1 : Nat → Nat → Hp → Prop, (∃ m, W1 0 m H4) ∧ ∀ j k H, W1 j k H →
      (J1.stop j H ∧ Nx H) ∨ (J1.go j H ∧ ∃ Nx1 : Hp → Prop, (∀ H', Nx1 H' → ∃ k', k' < k ∧ W1 (j + 1) k' H') ∧ ∀ x H', J1.yld j H x H' → g1 x (wipe σ2 vs1) H' fun σ3 H5 => wipe σ3 vs1 = wipe σ2 vs1 ∧ tt1 σ3 H5 fun b H6 =>
        if b = true then tk σ3 H6 fun y H7 => tv σ3 H7 fun z H8 => ∃ kvs k, y = kV k ∧ H8 D = some (.dK kvs) ∧ kvs.length < sizeLine ∧ Nx1 (upd H8 D (.dK (putK kvs k z))) else Nx1 H6)
    else Nx H3)
theorem pe_dc2 {kx vx tg iter tg1 iter1 : Expr} {ifs ifs1 : List Expr} {scope : Scope} {own : List (Str × Nat)} {vs1 : List Nat} {pos : Pos} {wi wi1 : TI} {g g1 : TG} {tt tt1 : TT} {tk tv : TE}
    (hc : X.calm = true) (hN : X.N.Nodup) (hi : PI X tg iter wi) (ok : BlkOk X.N X.env.scope scope own) (hv : ∀ i ∈ vs1, i ∈ own.map (·.2))
    (hg : ∀ (s : Shared) (H : Hp) (C : Addr) (cl : List (Str × Addr)) (fp : List Addr), PG (X.blk s H scope (compEnvC scope cl C X.env) fp) tg g) (ht : ∀ (s : Shared) (H : Hp) (C : Addr) (cl : List (Str × Addr)) (fp : List Addr), PTs (X.blk s H scope (compEnvC scope cl C X.env) fp) ifs tt)
    (hi1 : ∀ (s : Shared) (H : Hp) (C : Addr) (cl : List (Str × Addr)) (fp : List Addr), PI (X.blk s H scope (compEnvC scope cl C X.env) fp) tg1 iter1 wi1)
    (hg1 : ∀ (s : Shared) (H : Hp) (C : Addr) (cl : List (Str × Addr)) (fp : List Addr), PG (X.blk s H scope (compEnvC scope cl C X.env) fp) tg1 g1) (ht1 : ∀ (s : Shared) (H : Hp) (C : Addr) (cl : List (Str × Addr)) (fp : List Addr), PTs (X.blk s H scope (compEnvC scope cl C X.env) fp) ifs1 tt1)
    (hk : ∀ (s : Shared) (H : Hp) (C : Addr) (cl : List (Str × Addr)) (fp : List Addr), PE (X.blk s H scope (compEnvC scope cl C X.env) fp) kx tk) (he : ∀ (s : Shared) (H : Hp) (C : Addr) (cl : List (Str × Addr)) (fp : List Addr), PE (X.blk s H scope (compEnvC scope cl C X.env) fp) vx tv)
    (hs : ∀ x, foldedSetIterable iter X.env x = pure x := by intro _; rfl) (hs1 : ∀ env x, foldedSetIterable iter1 env x = pure x := by intro _ _; rfl) :
    PE X (.DictComp kx vx [⟨tg, iter, ifs, 0⟩, ⟨tg1, iter1, ifs1, 0⟩] scope pos) (tDc2 wi g tt wi1 g1 tt1 tk tv (own.map (·.2)) vs1) := by
  refine ⟨fun pins s σ H Q I h => ?_⟩
  rw [arm_eval_DictComp]
  have hfree : ∀ y ∈ scope.names, y.2 = .free → ∃ c, X.env.cells.lookup y.1 = some c := fun y hy e => by
    rcases ok.free y hy e with k | k
    · exact I.ok.has _ (.inl k)
    · exact I.ok.has _ (.inr k)
  refine wpAny_comprehension_free rfl hs (closure_ok hfree) ok.kind (fun y hy e => by rw [ok.uniq y hy, e])
    (thn (hi.run pins s σ H _ I h) fun xv s1 hx => thn hx fun itv s2 h2 => ?_)
  obtain ⟨it, fp, tn, J, H2, e, I2, T, st2, f2, q⟩ := h2
  subst e
  refine wpAny_newObj_type (newEnv_comp ?_)
  generalize hD : s2.heap.objs.size = D
  have hDn : H2 D = none := I2.hok.fresh (Nat.le_of_eq hD)
  obtain ⟨W, ⟨m0, w0⟩, turn⟩ := q D hDn
  generalize hs3 : ({ s2 with heap := s2.heap.push { cls := .type "dict", data := .dict #[] } } : Shared) = s3
  have I3 : Inv X pins σ (upd H2 D (.dK [])) s3 := by
    rw [← hs3]
    refine I2.laid (t' := s2.toks) (fun b o e => Heap.get?_push_of_some _ e) (Nat.le_of_eq hD) ?_
    rw [← hD]
    exact dk_empty s2.heap I2.big
  have h3 : s3.heap = s2.heap.push { cls := .type "dict", data := .dict #[] } := by rw [← hs3]
  have sz : ∀ b ∈ fp, b < s2.heap.objs.size := fun b hb => by
    obtain ⟨o, e, _⟩ := T.obj _ _ st2 b hb
    exact Heap.lt_size e
  have f3 : ∀ b ∈ fp, FpOk X pins (upd H2 D (.dK [])) b ∧ b < s3.heap.objs.size := fun b hb => by
    have hlt := sz b hb
    refine ⟨⟨?_, (f2 b hb).2⟩, by rw [h3, Heap.size_push]; exact Nat.lt_succ_of_lt hlt⟩
    rw [upd_ne (by rw [← hD]; exact Nat.ne_of_lt hlt)]
    exact (f2 b hb).1
  have st3 : tn 0 s3.heap := T.keep _ _ _ st2 fun b _ o e => by rw [h3]; exact Heap.get?_push_of_some _ e
  have I4 := block_start I3 ok hN f3
  generalize hcl : cellsFrom (s3.heap.objs.size + 1) scope.names (cloFrom X.env.cells scope.names []) = cl at I4
  have pg := hg s3 (upd H2 D (.dK [])) s3.heap.objs.size cl fp
  have pt := ht s3 (upd H2 D (.dK [])) s3.heap.objs.size cl fp
  have pk := hk s3 (upd H2 D (.dK [])) s3.heap.objs.size cl fp
  have pe := he s3 (upd H2 D (.dK [])) s3.heap.objs.size cl fp
  have pi1 := hi1 s3 (upd H2 D (.dK [])) s3.heap.objs.size cl fp
  have pg1 := hg1 s3 (upd H2 D (.dK [])) s3.heap.objs.size cl fp
  have pt1 := ht1 s3 (upd H2 D (.dK [])) s3.heap.objs.size cl fp
  have nfp : ∀ b ∈ fp, (upd H2 D (.dK [])) b = none := fun b hb => (f3 b hb).1.1
  -- the whole block, from the def's state to the def's state
  have fin0 : ∀ (C : Addr) (s' : Shared) (m : Str → Option Value) (H' : Hp), Inv X pins σ H' s' → Q (.ref D) H' → s'.heap.Ns C m → FpOk X pins H' C → compPost (model X.prog X.w) X.A X.xe none (EP X pins σ Q) (.ref D) C (.ok .next) s' := fun C s' m H' I' q' hn f => by
    refine ⟨m, hn, fun h'' sb => ?_⟩
    obtain ⟨f0, f1, f2, f3, f4, f5⟩ := f
    exact ⟨.ref D, H', I'.turned (t' := s'.toks) (fun b o hb e => (sb.2 b hb).trans e) f0 f1 f3 f4 f5, rfl, q'⟩
  show codeAny _ _ (.compStart (.DictComp kx vx [⟨tg, iter, ifs, 0⟩, ⟨tg1, iter1, ifs1, 0⟩] scope pos) 0 (.ref it) (.ref D) (compEnvC scope cl s3.heap.objs.size X.env)) (compPost (model X.prog X.w) X.A X.xe none (EP X pins σ Q) (.ref D) s3.heap.objs.size) { s3 with heap := pushCells (s3.heap.push { cls := .type "dict", data := .dict #[] }) scope.names }
  generalize hce : compEnvC scope cl s3.heap.objs.size X.env = ce at I4 pg pt pk pe pi1 pg1 pt1 ⊢
  have cL : ce.locals = s3.heap.objs.size := by subst hce; rfl
  generalize hH3 : upd H2 D (.dK []) = H3 at I3 I4 pg pt pk pe pi1 pg1 pt1 w0 nfp f3
  generalize hs4 : ({ s3 with heap := pushCells (s3.heap.push { cls := .type "dict", data := .dict #[] }) scope.names } : Shared) = s4 at I4 ⊢
  have st4 : tn 0 s4.heap := T.keep _ _ _ st3 fun b _ o e => by rw [← hs4]; exact pushCells_keeps _ _ _ _ (Heap.get?_push_of_some _ e)
  have stat : ∀ {σ' : L2.St} {H' : Hp} {s' : Shared}, Inv (X.blk s3 H3 scope ce fp) [] σ' H' s' → (∀ b ∈ fp, H' b = none) → ∀ b ∈ fp, FpOk (X.blk s3 H3 scope ce fp) [] H' b := fun {σ' H' s'} I' hn b hb =>
    ⟨hn b hb, (I'.ok.exf b hb).1, I'.ok.exfs b hb, .inl hb, fun x c e => (I'.ok.exf b hb).2 x c e, fun p hp => absurd (show p ∈ ([] : List (Addr × Obj)) ++ [] from hp) (by simp)⟩
  have loop : codeAny (model X.prog X.w) X.A (.compLoop (.DictComp kx vx [⟨tg, iter, ifs, 0⟩, ⟨tg1, iter1, ifs1, 0⟩] scope pos) 0 (.ref it) (.ref D) ce) (compPost (model X.prog X.w) X.A X.xe none (EP X pins σ Q) (.ref D) s3.heap.objs.size) s4 := by
    refine dLoopOut (hs1 ce) (fun n s' => ∃ i H', Inv (X.blk s3 H3 scope ce fp) [] (wipe σ (own.map (·.2))) H' s' ∧ tn i s'.heap ∧ (∀ b ∈ fp, H' b = none) ∧ W i n H') ?_ m0 ⟨0, H3, I4, st4, nfp, w0⟩
    rintro n s5 ⟨i, H5, I5, st5, n5, w5⟩
    rcases turn i n H5 w5 with ⟨stop, qq⟩ | ⟨go, Nx, hNx, step⟩
    · refine thnF (T.done (X.blk s3 H3 scope ce fp) rfl rfl rfl hc i [] s5 _ H5 (fun _ _ => False) I5 (stat I5 n5) st5 stop) fun r s6 ⟨hr, I6⟩ => ?_
      subst hr
      have I7 : Inv X pins σ H5 s6 := I3.call' (ch := fp) I6.os I6.base I6.hok I6.bare fun b hb => ⟨(f3 b hb).1.2.2.2.1, (f3 b hb).1.2.1, (f3 b hb).1.2.2.2.2.1, (f3 b hb).1.2.2.2.2.2⟩
      have nC : H5 s3.heap.objs.size = none := cL ▸ (show H5 ce.locals = none from I6.free)
      obtain ⟨m, hn, _⟩ := I6.loc
      have hn : s6.heap.Ns ce.locals m := hn
      rw [cL] at hn
      exact fin0 s3.heap.objs.size s6 m H5 I7 qq hn (I3.fpOk (Nat.le_refl _) nC)
    · refine thnF (T.item (X.blk s3 H3 scope ce fp) rfl rfl rfl hc i [] s5 _ H5 (fun _ _ => False) I5 (stat I5 n5) st5 go) fun r s6 ⟨u, hr, h6⟩ => ?_
      subst hr
      refine thnF h6 fun _ s7 ⟨x, H7, I7, r7, y7, st7, n7⟩ => ?_
      have I7' := I7.pinned (stat I7 n7) (T.obj _ _ st7)
      refine thnF (pg.run _ s7 _ H7 x u _ I7' r7 (step x H7 y7)) fun _ s8 ⟨σ8, H8, I8, hw8, q8⟩ => ?_
      refine thnF (pt.run _ s8 σ8 H8 _ I8 q8) fun b s9 ⟨H9, I9, q9⟩ => ?_
      have fin : ∀ {σ9 : L2.St} {s' : Shared} {H' : Hp}, Inv (X.blk s3 H3 scope ce fp) ([] ++ pinsAt fp s7.heap) σ9 H' s' → (wipe σ (own.map (·.2))).length = σ9.length → (∀ (j : Nat) v, (wipe σ (own.map (·.2)))[j]? = some (some v) → σ9[j]? = some (some v)) → Nx H' →
          ∃ m, m < n ∧ ∃ i H', Inv (X.blk s3 H3 scope ce fp) [] (wipe σ (own.map (·.2))) H' s' ∧ tn i s'.heap ∧ (∀ b ∈ fp, H' b = none) ∧ W i m H' := fun {σ9 s' H'} I' hl hk nx => by
        obtain ⟨m', hm, w'⟩ := hNx H' nx
        have pin' : ∀ b ∈ fp, ∀ o, s7.heap.get? b = some o → s'.heap.get? b = some o ∧ H' b = none := fun b hb o e =>
          let z := I'.pin (b, o) (List.mem_append_right _ (List.mem_append_right _ (mem_pinsAt hb e)))
          ⟨z.1, z.2.1⟩
        refine ⟨m', hm, i + 1, H', (I'.unpinned (pins := [])).weak hl hk, T.keep _ _ _ st7 fun b hb o e => (pin' b hb o e).1, fun b hb => ?_, w'⟩
        obtain ⟨o, e, _⟩ := T.obj _ _ st7 b hb
        exact (pin' b hb o e).2
      have hl8 : (wipe σ (own.map (·.2))).length = σ8.length := by rw [← hw8, wipe_length]
      have hk8 : ∀ (j : Nat) v, (wipe σ (own.map (·.2)))[j]? = some (some v) → σ8[j]? = some (some v) := fun j v e => by
        rw [← hw8] at e
        exact (wipe_some e).1
      have hk9 : ∀ (j : Nat) v, (wipe σ (own.map (·.2)))[j]? = some (some v) → (wipe σ8 vs1)[j]? = some (some v) := fun j v e => by
        rw [← hw8] at e
        obtain ⟨e1, e2⟩ := wipe_some e
        rw [wipe_out fun z => e2 (hv j z)]
        exact e1
      cases b with
      | false =>
        simp only [Bool.false_eq_true, if_false] at q9 ⊢
        exact fin I9 hl8 hk8 q9
      | true =>
        simp only [if_true] at q9 ⊢
        refine thnF (pi1.run _ s9 σ8 H9 _ I9 q9) fun xv s10 hx => thnF hx fun itv s11 h11 => ?_
        obtain ⟨it1, fp1, tn1, J1, H11, e1, I11, T1, st11, f11, W1, ⟨m1, w1⟩, turn1⟩ := h11
        subst e1
        have stat1 : ∀ {H' : Hp}, (∀ b ∈ fp1, H' b = none) → ∀ b ∈ fp1, FpOk (X.blk s3 H3 scope ce fp) ([] ++ pinsAt fp s7.heap) H' b := fun hn b hb => ⟨hn b hb, (f11 b hb).2⟩
        have loop1 : codeAny (model X.prog X.w) X.A (.compLoop (.DictComp kx vx [⟨tg, iter, ifs, 0⟩, ⟨tg1, iter1, ifs1, 0⟩] scope pos) 1 (.ref it1) (.ref D) ce)
            (fun r s' => match r with
              | .ok _ => ∃ m, m < n ∧ ∃ i H', Inv (X.blk s3 H3 scope ce fp) [] (wipe σ (own.map (·.2))) H' s' ∧ tn i s'.heap ∧ (∀ b ∈ fp, H' b = none) ∧ W i m H'
              | .error _ => False) s11 := by
          refine dLoopIn (fun k s' => ∃ j H', Inv (X.blk s3 H3 scope ce fp) ([] ++ pinsAt fp s7.heap) (wipe σ8 vs1) H' s' ∧ tn1 j s'.heap ∧ (∀ b ∈ fp1, H' b = none) ∧ W1 j k H') ?_ m1 ⟨0, H11, I11.weak (wipe_length _ _) (fun j v e => (wipe_some e).1), st11, fun b hb => (f11 b hb).1, w1⟩
          rintro k s12 ⟨j, H12, I12, st12, n12, w12⟩
          rcases turn1 j k H12 w12 with ⟨stop1, nx1⟩ | ⟨go1, Nx1, hNx1, step1⟩
          · refine thnF (T1.done (X.blk s3 H3 scope ce fp) rfl rfl rfl hc j _ s12 (wipe σ8 vs1) H12 (fun _ _ => False) I12 (stat1 n12) st12 stop1) fun r s13 ⟨hr, I13⟩ => ?_
            subst hr
            exact fin I13 (hl8.trans (wipe_length σ8 vs1).symm) hk9 nx1
          · refine thnF (T1.item (X.blk s3 H3 scope ce fp) rfl rfl rfl hc j _ s12 (wipe σ8 vs1) H12 (fun _ _ => False) I12 (stat1 n12) st12 go1) fun r s13 ⟨u1, hr, h13⟩ => ?_
            subst hr
            refine thnF h13 fun _ s14 ⟨x1, H14, I14, r14, y14, st14, n14⟩ => ?_
            have I14' := I14.pinned (stat1 n14) (T1.obj _ _ st14)
            refine thnF (pg1.run _ s14 (wipe σ8 vs1) H14 x1 u1 _ I14' r14 (step1 x1 H14 y14)) fun _ s15 ⟨σ15, H15, I15, hw15, q15⟩ => ?_
            refine thnF (pt1.run _ s15 σ15 H15 _ I15 q15) fun b1 s16 ⟨H16, I16, q16⟩ => ?_
            have fin1 : ∀ {s' : Shared} {H' : Hp}, Inv (X.blk s3 H3 scope ce fp) (([] ++ pinsAt fp s7.heap) ++ pinsAt fp1 s14.heap) σ15 H' s' → Nx1 H' → ∃ m, m < k ∧ ∃ j H', Inv (X.blk s3 H3 scope ce fp) ([] ++ pinsAt fp s7.heap) (wipe σ8 vs1) H' s' ∧ tn1 j s'.heap ∧ (∀ b ∈ fp1, H' b = none) ∧ W1 j m H' := fun {s' H'} I' nx => by
              obtain ⟨m', hm, w'⟩ := hNx1 H' nx
              have pin' : ∀ b ∈ fp1, ∀ o, s14.heap.get? b = some o → s'.heap.get? b = some o ∧ H' b = none := fun b hb o e =>
                let z := I'.pin (b, o) (List.mem_append_right _ (List.mem_append_right _ (mem_pinsAt hb e)))
                ⟨z.1, z.2.1⟩
              refine ⟨m', hm, j + 1, H', I'.unpinned.weak (by rw [← hw15, wipe_length]) (fun j v e => by rw [← hw15] at e; exact (wipe_some e).1), T1.keep _ _ _ st14 fun b hb o e => (pin' b hb o e).1, fun b hb => ?_, w'⟩
              obtain ⟨o, e, _⟩ := T1.obj _ _ st14 b hb
              exact (pin' b hb o e).2
            cases b1 with
            | false =>
              simp only [Bool.false_eq_true, if_false] at q16 ⊢
              exact fin1 I16 q16
            | true =>
              simp only [if_true] at q16 ⊢
              refine thnF (pk.run _ s16 σ15 H16 _ I16 q16) fun z s17 ⟨yk, H17, I17, r17, q17⟩ => ?_
              refine thnF (pe.run _ s17 σ15 H17 _ I17 q17) fun z2 s18 ⟨yv, H18, I18, r18, kvs, k', ek, hD18, hz18, nx⟩ => ?_
              subst ek
              exact d_dictSet (X := X.blk s3 H3 scope ce fp) I18 hD18 hz18 r17 r18 fun s19 I19 => fin1 I19 nx
        exact dStart1 loop1 (T1.self X.A 0 _ _ _ st11 loop1)
  exact codeAny_compStart_dict loop (T.self X.A 0 _ _ _ st4 loop)
end
end Cl
set_option Elab.async false
set_option linter.all false
set_option maxRecDepth 100000
set_option maxHeartbeats 4000000
/-! What the walks share: the text by places, the built-in names, a def with its promise, states on the heap, loops over enumerate and zip. -/
namespace Cl
open PySem PySem.Spec PyProof.Rows L2

/-! ### the text -/
def top (i : Nat) : Stmt := PySem.Challenge.pw_counterlines_k72_whole_reordered_lines.main.body.getD i (.Pass ⟨0, 0, 0, 0⟩)
/-- a def of the text, as it stands behind the top -/
def Def (K : PySem.W.Frag) (mg : Str → Option Value) (x : Str) (st : Stmt) (ps : List Str) : Prop := ∃ f fd, mg x = some (.ref f) ∧ Fun K x x st f fd ∧ Binds K fd ps []
/-- a def that keeps its promise -/
def Kept (P : Program) (w : World) (K : PySem.W.Frag) (mg : Str → Option Value) (base : Heap) (k : Nat) (x : Str) (ps : List Str) (sp : Sp) : Prop :=
  ∃ f fd, mg x = some (.ref f) ∧ PySem.W.keepIn K (.ref f) = true ∧ Binds K fd ps [] ∧ FnOk P w K mg base CX0 k f fd ps sp
structure Blt (mg : Str → Option Value) : Prop where
  isi : mg "isinstance" = none
  int : mg "int" = none
  bool : mg "bool" = none
  tuple : mg "tuple" = none
  len : mg "len" = none
  enumerate : mg "enumerate" = none
  all : mg "all" = none
  sorted : mg "sorted" = none
  list : mg "list" = none
  range : mg "range" = none
  zip : mg "zip" = none
  sum : mg "sum" = none
  min : mg "min" = none
  max : mg "max" = none
section
variable {P : Program} {w : World} {K : PySem.W.Frag} {mg : Str → Option Value} {base : Heap}
theorem Kept.mono {j k : Nat} {x : Str} {ps : List Str} {sp : Sp} (G : Kept P w K mg base j x ps sp) (h : j ≤ k) : Kept P w K mg base k x ps sp :=
  let ⟨f, fd, g, kp, b, F⟩ := G; ⟨f, fd, g, kp, b, F.mono h⟩
/-- a def's promise, from its body -/
theorem kept_of {x : Str} {st : Stmt} {N ps : List Str} {k : Nat} {sp : Sp} (D : Def K mg x st ps) (S : FnScope N ps (defScope st)) (len : ∀ vs H Q E, sp vs H Q E → vs.length = ps.length)
    (hbody : ∀ (f cdv : Addr → Value) (fa : Addr) (cd : Value) (A : Around) (outer : List Env) (s : Shared) (H : Hp) (vs : List V) (Q : VK) (E : XK), Room k (A.deeper (envOfC x (defScope st) s.heap.objs.size fa cd)) → sp vs H Q E →
      ∃ t, PSs (cxOf CX0 P w K mg base N x (defScope st) fa cd A outer s H E).nox (defBody st) t ∧ t { nx := fun _ H' => Q .non H', rt := Q } (start N vs) H) : Kept P w K mg base (k + 1) x ps sp := by
  obtain ⟨f, fd, g, F, b⟩ := D
  exact ⟨f, fd, g, F.kp, b, F.ok S len fun cdv A outer s H vs Q E hr h => hbody (fun _ => cdv) (fun _ => cdv) f cdv A outer s H vs Q E hr h⟩
end
/-- a call of a def by its promise -/
theorem pe_use {X : Cx} {k : Nat} {x : Str} {ps : List Str} {sp : Sp} {e : Expr} {es : List Expr} {t : TA} {p pos : Pos} (G : Kept X.prog X.w X.K X.mg X.base k x ps sp) (hr : Room k X.A) (hg : Gl X x) (ha : PA X (e :: es) t)
    (hdb : (x == ("__debug__" : Str)) = false := by decide) (he : starEach (e :: es) X.env = (false, eval e X.env) :: starEach es X.env := by rfl) (hpl : (backTo pos (starEach es X.env)).any (·.1) = false := by rfl) :
    PE X (.Call (.Name x p) (e :: es) [] pos) (tCall sp [] E0 t) := by
  obtain ⟨f, fd, g, kp, b, F⟩ := G
  exact pe_call F hr hg g kp b .nil pass0 ha hdb he hpl

/-! ### the heap grows -/
section
variable {K : PySem.W.Frag} {H H' : Hp} {a p : Addr} {o : HO} {xs : List V}
theorem _root_.L2.Same.tup (e : Same H H') (h : SqT K H a xs) : SqT K H' a xs := by
  rcases h with (h | ⟨o, h⟩) | h
  · exact .inl (.inl (e _ _ h))
  · exact .inl (.inr ⟨o, e _ _ h⟩)
  · exact .inr h
theorem _root_.L2.Same.new (h : H p = none) : Same H (upd H p o) := fun b x e => by
  rw [upd_ne (ne_of_none e h)]
  exact e
theorem _root_.L2.Same.put (e : Same H H') (h : H p = none) : Same H (upd H' p o) := fun b x q => by
  rw [upd_ne (ne_of_none q h)]
  exact e _ _ q
end

/-! ### states -/
def Lns (K : PySem.W.Frag) (H : Hp) (as : List Addr) (L : List (List Int)) : Prop :=
  as.length = L.length ∧ ∀ (i : Nat) (b : Addr) (l : List Int), as[i]? = some b → L[i]? = some l → SqT K H b (l.map V.int)
def StAt (K : PySem.W.Frag) (H : Hp) (a : Addr) (L : List (List Int)) : Prop := ∃ as : List Addr, SqT K H a (as.map V.ref) ∧ Lns K H as L
section
variable {K : PySem.W.Frag} {H H' : Hp} {a : Addr} {as : List Addr} {L : List (List Int)}
theorem Lns.same (e : Same H H') (h : Lns K H as L) : Lns K H' as L := ⟨h.1, fun i b l h1 h2 => e.tup (h.2 i b l h1 h2)⟩
theorem StAt.same (e : Same H H') (h : StAt K H a L) : StAt K H' a L := let ⟨as, h1, h2⟩ := h; ⟨as, e.tup h1, h2.same e⟩
theorem Lns.line (h : Lns K H as L) {i : Nat} {l : List Int} (hl : L[i]? = some l) : ∃ b, as[i]? = some b ∧ SqT K H b (l.map V.int) := by
  have hi : i < as.length := by rw [h.1]; exact (List.getElem?_eq_some_iff.mp hl).1
  exact ⟨as[i], List.getElem?_eq_getElem hi, h.2 i _ l (List.getElem?_eq_getElem hi) hl⟩
theorem Lns.back (h : Lns K H as L) {i : Nat} {b : Addr} (hb : as[i]? = some b) : ∃ l, L[i]? = some l ∧ SqT K H b (l.map V.int) := by
  have hi : i < L.length := by rw [← h.1]; exact (List.getElem?_eq_some_iff.mp hb).1
  exact ⟨L[i], List.getElem?_eq_getElem hi, h.2 i b _ hb (List.getElem?_eq_getElem hi)⟩
theorem ref_at {i : Nat} {x : V} (h : (as.map V.ref)[i]? = some x) : ∃ b, as[i]? = some b ∧ x = .ref b := by
  rw [List.getElem?_map] at h
  cases e : as[i]? with
  | none => rw [e] at h; cases h
  | some b => rw [e] at h; exact ⟨b, rfl, (Option.some.inj h).symm⟩
theorem int_at {ns : List Int} {i : Nat} {x : V} (h : (ns.map V.int)[i]? = some x) : ∃ n, ns[i]? = some n ∧ x = .int n := by
  rw [List.getElem?_map] at h
  cases e : ns[i]? with
  | none => rw [e] at h; cases h
  | some b => rw [e] at h; exact ⟨b, rfl, (Option.some.inj h).symm⟩
theorem at_ref {i : Nat} {b : Addr} (h : as[i]? = some b) : (as.map V.ref)[i]? = some (.ref b) := by rw [List.getElem?_map, h]; rfl
theorem at_int {ns : List Int} {i : Nat} {n : Int} (h : ns[i]? = some n) : (ns.map V.int)[i]? = some (.int n) := by rw [List.getElem?_map, h]; rfl
/-- a tuple's type -/
theorem tyT {xs : List V} (h : SqT K H a xs) : TyX K H (.ref a) (.type "tuple") := by
  rcases h with (h | ⟨o, h⟩) | ⟨o, its, n, h, c, _⟩
  · exact .base (.tup h)
  · exact .fTuple h
  · exact .kTuple h c
theorem flat_ints (ns : List Int) : (ns.map V.int).all flatV = true := by
  rw [List.all_map]
  exact List.all_eq_true.mpr fun _ _ => rfl
theorem inV_int (n : Int) : ∀ ns : List Int, inV (.int n) (ns.map V.int) = decide (n ∈ ns)
  | [] => rfl
  | m :: r => by
    have ih := inV_int n r
    have e : eqV (.int m) (.int n) = decide (m = n) := by
      show (m == n) = decide (m = n)
      exact Bool.beq_eq_decide_eq m n
    unfold inV at ih ⊢
    rw [List.map_cons, List.any_cons, ih, e]
    by_cases h : m = n
    · subst h; simp
    · have h' : ¬ n = m := fun z => h z.symm
      simp [h, h']
theorem dp_ints (H : Hp) : ∀ ns : List Int, DpAll K H (ns.map V.int) (ns.map PyData.int)
  | [] => .nil
  | n :: r => .cons (.int n) (dp_ints H r)
theorem ints_lay : ∀ ns : List Int, PyData.canLayAll0 (ns.map PyData.int) = true
  | [] => by simp [PyData.canLayAll0]
  | n :: r => by
    have h := ints_lay r
    simp only [List.map_cons, PyData.canLayAll0, PyData.canLay0, h]
    rfl
theorem ints_depth : ∀ ns : List Int, PyData.depthAll (ns.map PyData.int) ≤ 2
  | [] => by simp [PyData.depthAll]
  | n :: r => by
    have h := ints_depth r
    simp only [List.map_cons, PyData.depthAll, PyData.depth]
    omega
theorem shapedL (ns : List Int) : SeqAt.shaped (.list (ns.map PyData.int)) = true := by
  have h1 := ints_depth ns
  have h2 : PyData.depth (.list (ns.map PyData.int)) ≤ 64 := by
    simp only [PyData.depth]
    omega
  unfold SeqAt.shaped
  rw [Bool.and_eq_true]
  exact ⟨by simp only [PyData.canLay0]; exact ints_lay ns, decide_eq_true h2⟩
theorem shapedT (ns : List Int) : SeqAt.shaped (.tuple (ns.map PyData.int)) = true := by
  have h1 := ints_depth ns
  have h2 : PyData.depth (.tuple (ns.map PyData.int)) ≤ 64 := by
    simp only [PyData.depth]
    omega
  unfold SeqAt.shaped
  rw [Bool.and_eq_true]
  exact ⟨by simp only [PyData.canLay0]; exact ints_lay ns, decide_eq_true h2⟩
theorem eqv_ints : ∀ ns ms : List Int, PyData.eqvAll (ns.map PyData.int) (ms.map PyData.int) = decide (ns = ms)
  | [], [] => rfl
  | [], _ :: _ => rfl
  | _ :: _, [] => rfl
  | n :: r, m :: q => by
    have ih := eqv_ints r q
    show (PyData.eqv (.int n) (.int m) && PyData.eqvAll (r.map PyData.int) (q.map PyData.int)) = _
    rw [ih]
    have e : PyData.eqv (.int n) (.int m) = decide (n = m) := by
      show (n == m) = _
      exact Bool.beq_eq_decide_eq n m
    rw [e]
    by_cases h : n = m
    · subst h; simp
    · simp [h]
end

/-! ### loops -/
theorem for_enumT {K : PySem.W.Frag} {a : Addr} {xs : List V} {g : TG} {tb : TS} {D : Ends} {σ : L2.St} {H : Hp} (Pv : Nat → L2.St → Hp → Prop) (h0 : Pv 0 σ H) (hl : ∀ i σ H, i ≤ xs.length → Pv i σ H → SqT K H a xs)
    (hs : ∀ (i : Nat) (x : V) (T : Addr) σ H, xs[i]? = some x → Pv i σ H → H T = none → g (.ref T) σ (upd H T (.tup [.int (i : Nat), x])) fun σ2 H2 => tb { D with nx := Pv (i + 1), ct := Pv (i + 1), bk := D.nx } σ2 H2) (hd : ∀ σ H, Pv xs.length σ H → D.nx σ H) :
    ∃ W : Nat → Nat → L2.St → Hp → Prop, (∃ m, W 0 m σ H) ∧ ∀ i m σ H, W i m σ H →
      ((IteT K a).stop i H ∧ D.nx σ H) ∨ ((IteT K a).go i H ∧ ∃ N : L2.St → Hp → Prop, (∀ σ' H', N σ' H' → ∃ m', m' < m ∧ W (i + 1) m' σ' H') ∧ ∀ x H', (IteT K a).yld i H x H' → g x σ H' fun σ2 H2 => tb { D with nx := N, ct := N, bk := D.nx } σ2 H2) := by
  refine ⟨fun i m σ H => m = xs.length - i ∧ i ≤ xs.length ∧ Pv i σ H, ⟨xs.length, by simp, Nat.zero_le _, h0⟩, ?_⟩
  rintro i m σ H ⟨rfl, hi, p⟩
  have q := hl i σ H hi p
  by_cases hlt : i < xs.length
  · refine .inr ⟨⟨xs, xs[i], q, by simp [hlt]⟩, Pv (i + 1), fun σ' H' p' => ⟨xs.length - (i + 1), by omega, rfl, hlt, p'⟩, fun x H' y => ?_⟩
    obtain ⟨T, x', rfl, hT, rfl, f⟩ := y
    exact hs i x' T σ H (f xs q) p hT
  · have e : i = xs.length := by omega
    subst e
    exact .inl ⟨⟨xs, q, Nat.le_refl _⟩, hd σ H p⟩
theorem for_zipM {K : PySem.W.Frag} {a b : Addr} {xs ys : List V} {g : TG} {tb : TS} {D : Ends} {σ : L2.St} {H : Hp} (hl : xs.length = ys.length) (Pv : Nat → L2.St → Hp → Prop) (h0 : Pv 0 σ H) (hq : ∀ i σ H, Pv i σ H → SqT K H a xs ∧ SqL K H b ys)
    (hs : ∀ (i : Nat) (x y : V) (T : Addr) (σ : L2.St) (H : Hp), xs[i]? = some x → ys[i]? = some y → Pv i σ H → H T = none → g (.ref T) σ (upd H T (.tup [x, y])) fun σ2 H2 => tb { D with nx := Pv (i + 1), ct := Pv (i + 1), bk := D.nx } σ2 H2) (hd : ∀ σ H, Pv xs.length σ H → D.nx σ H) :
    ∃ W : Nat → Nat → L2.St → Hp → Prop, (∃ m, W 0 m σ H) ∧ ∀ i m σ H, W i m σ H →
      ((ItzM K a b).stop i H ∧ D.nx σ H) ∨ ((ItzM K a b).go i H ∧ ∃ N : L2.St → Hp → Prop, (∀ σ' H', N σ' H' → ∃ m', m' < m ∧ W (i + 1) m' σ' H') ∧ ∀ v H', (ItzM K a b).yld i H v H' → g v σ H' fun σ2 H2 => tb { D with nx := N, ct := N, bk := D.nx } σ2 H2) := by
  refine ⟨fun i m σ H => m = xs.length - i ∧ i ≤ xs.length ∧ Pv i σ H, ⟨xs.length, rfl, Nat.zero_le _, h0⟩, ?_⟩
  rintro i m σ H ⟨rfl, hi, p⟩
  obtain ⟨qx, qy⟩ := hq i σ H p
  by_cases hlt : i < xs.length
  · have hlt2 : i < ys.length := by omega
    refine .inr ⟨⟨xs, ys, _, _, qx, qy, List.getElem?_eq_getElem hlt, List.getElem?_eq_getElem hlt2⟩, Pv (i + 1), fun σ' H' p' => ⟨xs.length - (i + 1), by omega, rfl, hlt, p'⟩, fun v H' y => ?_⟩
    obtain ⟨T, x', y', rfl, hT, rfl, f1, f2⟩ := y
    exact hs i x' y' T σ H (f1 xs qx) (f2 ys qy) p hT
  · have e : i = xs.length := by omega
    subst e
    exact .inl ⟨⟨xs, ys, qx, qy, rfl, hl.symm⟩, hd σ H p⟩
theorem lc_enumT {K : PySem.W.Frag} {a : Addr} {xs : List V} {g : TG} {tt : TT} {te : TE} {vs : List Nat} {σ : L2.St} {H1 : Hp} {D : Addr} {Qd : Hp → Prop} (Pv : Nat → Hp → Prop) (h0 : Pv 0 (upd H1 D (.lst []))) (hl : ∀ i H, i ≤ xs.length → Pv i H → SqT K H a xs)
    (hs : ∀ (i : Nat) (x : V) (T : Addr) H, xs[i]? = some x → Pv i H → H T = none → g (.ref T) (wipe σ vs) (upd H T (.tup [.int (i : Nat), x])) fun σ2 H2 => wipe σ2 vs = wipe σ vs ∧ tt σ2 H2 fun b H3 =>
      if b = true then te σ2 H3 fun y H4 => ∃ acc, H4 D = some (.lst acc) ∧ acc.length < sizeLine ∧ Pv (i + 1) (upd H4 D (.lst (acc ++ [y]))) else Pv (i + 1) H3) (hd : ∀ H, Pv xs.length H → Qd H) :
    ∃ W : Nat → Nat → Hp → Prop, (∃ m, W 0 m (upd H1 D (.lst []))) ∧ ∀ i m H, W i m H →
      ((IteT K a).stop i H ∧ Qd H) ∨ ((IteT K a).go i H ∧ ∃ Nx : Hp → Prop, (∀ H', Nx H' → ∃ m', m' < m ∧ W (i + 1) m' H') ∧ ∀ x H', (IteT K a).yld i H x H' → g x (wipe σ vs) H' fun σ2 H2 => wipe σ2 vs = wipe σ vs ∧ tt σ2 H2 fun b H3 =>
        if b = true then te σ2 H3 fun y H4 => ∃ acc, H4 D = some (.lst acc) ∧ acc.length < sizeLine ∧ Nx (upd H4 D (.lst (acc ++ [y]))) else Nx H3) := by
  refine ⟨fun i m H => m = xs.length - i ∧ i ≤ xs.length ∧ Pv i H, ⟨xs.length, by simp, Nat.zero_le _, h0⟩, ?_⟩
  rintro i m H ⟨rfl, hi, p⟩
  have q := hl i H hi p
  by_cases hlt : i < xs.length
  · refine .inr ⟨⟨xs, xs[i], q, by simp [hlt]⟩, Pv (i + 1), fun H' p' => ⟨xs.length - (i + 1), by omega, rfl, hlt, p'⟩, fun x H' y => ?_⟩
    obtain ⟨T, x', rfl, hT, rfl, f⟩ := y
    exact hs i x' T H (f xs q) p hT
  · have e : i = xs.length := by omega
    subst e
    exact .inl ⟨⟨xs, q, Nat.le_refl _⟩, hd H p⟩
/-! ### the rules with the written part named (within a comprehension's block) -/
section
variable {X : Cx} {K : PySem.W.Frag}
theorem ixT (K : PySem.W.Frag) (hK : X.K = K := by rfl) : IxR X (rIxT K) := hK ▸ ix_tup
theorem ixL (K : PySem.W.Frag) (hK : X.K = K := by rfl) : IxR X (rIxL K) := hK ▸ ix_list
theorem inK (K : PySem.W.Frag) (hK : X.K = K := by rfl) : OpR X (compareOp .In) (rIn K false) := hK ▸ op_in_seq
theorem notInK (K : PySem.W.Frag) (hK : X.K = K := by rfl) : OpR X (compareOp .NotIn) (rIn K true) := hK ▸ op_notIn_seq
theorem piL (K : PySem.W.Frag) {tg l : Expr} {tl : TE} (hl : PE X l tl) (hK : X.K = K := by rfl) : PI X tg l (iList K tl) := hK ▸ pi_list hl
theorem piT (K : PySem.W.Frag) {tg l : Expr} {tl : TE} (hl : PE X l tl) (hK : X.K = K := by rfl) : PI X tg l (iTup K tl) := hK ▸ pi_tup hl
theorem pgT (K : PySem.W.Frag) {es : List Expr} {k : Nat} {t : TGs} {n : Nat} {pos : Pos} (hc : X.calm = true) (h : PGs X es t)
    (hn : (assignEach es X.env).length = n := by rfl) (hst : (assignEach es X.env).findIdx? (·.1) = none := by rfl) (hK : X.K = K := by rfl) : PG X (.Tuple es k pos) (gTup K n t) := hK ▸ pg_tup hc h hn hst
end
theorem turnT {σ : L2.St} {H : Hp} {A B : Hp → Prop} (h : A H) : tYes σ H (fun b H3 => if b = true then A H3 else B H3) := by
  show if true = true then A H else B H
  rw [if_pos rfl]
  exact h
theorem ifT {A B : Prop} {b : Bool} (e : b = true) (h : A) : if b = true then A else B := by rw [if_pos e]; exact h
theorem ifF {A B : Prop} {b : Bool} (e : b = false) (h : B) : if b = true then A else B := by rw [if_neg (by rw [e]; exact Bool.false_ne_true)]; exact h
theorem len_line {n : Nat} (h : n ≤ 1000) : n < sizeLine := small1000 h
end Cl
set_option Elab.async false
set_option linter.all false
set_option maxRecDepth 100000
set_option maxHeartbeats 4000000
/-! The walks of checks and offices. -/
namespace Cl
open PySem PySem.Spec PyProof.Rows L2
abbrev sInt : Stmt := top 1
abbrev sIn : Stmt := top 2
abbrev sLst : Stmt := top 3
abbrev sOff : Stmt := top 13
abbrev sLns : Stmt := top 14
abbrev sSta : Stmt := top 15
abbrev sCtr : Stmt := top 16
abbrev sOrd : Stmt := top 17
abbrev sCof : Stmt := top 18
section
variable {P : Program} {w : World} {K : PySem.W.Frag} {mg : Str → Option Value} {base : Heap}

/-! ### is_integer, is_in, is_list -/
def spInt : Sp := fun vs H Q _ => ∃ i : Int, vs = [.int i] ∧ Q (.bl true) H
theorem scInt : FnScope ["value"] ["value"] (defScope sInt) := ⟨rfl, rfl, rfl, by decide +kernel, rfl, by decide +kernel, by decide +kernel⟩
theorem ok_int (B : Blt mg) (D : Def K mg "is_integer" sInt ["value"]) : Kept P w K mg base 1 "is_integer" ["value"] spInt := by
  refine kept_of D scInt (fun vs H Q E h => ?_) (fun _ _ f cdv A outer s H vs Q E hr h => ?_)
  · obtain ⟨i, rfl, _⟩ := h; rfl
  · obtain ⟨i, rfl, q⟩ := h
    refine ⟨_, pss_one (ps_ret (pe_and (pe_callB call_isi (by rfl) B.isi (by decide +kernel) (pa_cons (pv 0) (pa_cons (pe_bltn (v := .ty "int") (by rfl) B.int (by decide +kernel) rfl) pa_nil)))
      (pe_one (pe_not (pe_callB call_isi (by rfl) B.isi (by decide +kernel) (pa_cons (pv 0) (pa_cons (pe_bltn (v := .ty "bool") (by rfl) B.bool (by decide +kernel) rfl) pa_nil))))))), ?_⟩
    exact ⟨_, rfl, _, _, _, _, true, rfl, .ty "int", .base (.int i), kit_ty (by decide +kernel), true, rfl, iteT ⟨_, rfl, _, _, _, _, false, rfl, .ty "bool", .base (.int i), kit_ty (by decide +kernel), false, rfl, q⟩⟩
def spIn : Sp := fun vs H Q _ => ∃ v l m : Int, vs = [.int v, .int l, .int m] ∧ l ≤ v ∧ v ≤ m ∧ Q (.bl true) H
theorem scIn : FnScope ["value", "least", "most"] ["value", "least", "most"] (defScope sIn) := ⟨rfl, rfl, rfl, by decide +kernel, rfl, by decide +kernel, by decide +kernel⟩
theorem ok_in (B : Blt mg) (G1 : Kept P w K mg base 1 "is_integer" ["value"] spInt) (D : Def K mg "is_in" sIn ["value", "least", "most"]) : Kept P w K mg base 2 "is_in" ["value", "least", "most"] spIn := by
  refine kept_of D scIn (fun vs H Q E h => ?_) (fun _ _ f cdv A outer s H vs Q E hr h => ?_)
  · obtain ⟨v, l, m, rfl, _⟩ := h; rfl
  · obtain ⟨v, l, m, rfl, h1, h2, q⟩ := h
    refine ⟨_, pss_one (ps_ret (pe_and (pe_use G1 hr (by rfl) (pa_cons (pv 0) pa_nil)) (pe_one (pe_chain op_le op_le (pv 1) (pv 0) (pv 2))))), ?_⟩
    refine ⟨_, rfl, v, rfl, true, rfl, iteT ⟨_, rfl, _, rfl, l, v, rfl, rfl, true, congrArg V.bl (decide_eq_true h1), iteT ⟨_, rfl, v, m, rfl, rfl, ?_⟩⟩⟩
    show Q (V.bl (decide (v ≤ m))) H
    rw [decide_eq_true h2]
    exact q
def spLst (K : PySem.W.Frag) : Sp := fun vs H Q _ => ∃ (a : Addr) (xs : List V) (l m : Int), vs = [.ref a, .int l, .int m] ∧ SqT K H a xs ∧ l ≤ xs.length ∧ (xs.length : Int) ≤ m ∧ Q (.bl true) H
theorem scLst : FnScope ["value", "least", "most"] ["value", "least", "most"] (defScope sLst) := ⟨rfl, rfl, rfl, by decide +kernel, rfl, by decide +kernel, by decide +kernel⟩
theorem ok_lst (B : Blt mg) (D : Def K mg "is_list" sLst ["value", "least", "most"]) : Kept P w K mg base 1 "is_list" ["value", "least", "most"] (spLst K) := by
  refine kept_of D scLst (fun vs H Q E h => ?_) (fun _ _ f cdv A outer s H vs Q E hr h => ?_)
  · obtain ⟨a, xs, l, m, rfl, _⟩ := h; rfl
  · obtain ⟨a, xs, l, m, rfl, hx, h1, h2, q⟩ := h
    refine ⟨_, pss_one (ps_ret (pe_and (pe_callB call_isi (by rfl) B.isi (by decide +kernel) (pa_cons (pv 0) (pa_cons (pe_bltn (v := .ty "tuple") (by rfl) B.tuple (by decide +kernel) rfl) pa_nil)))
      (pe_one (pe_chain op_le op_le (pv 1) (pe_callB call_len_seq (by rfl) B.len PySem.boot_len (pa_cons (pv 0) pa_nil)) (pv 2))))), ?_⟩
    refine ⟨_, rfl, _, _, _, _, true, rfl, .ty "tuple", tyT hx, kit_ty (by decide +kernel), true, rfl, iteT ⟨_, rfl, _, rfl, a, xs, rfl, .inr hx, l, xs.length, rfl, rfl, true, congrArg V.bl (decide_eq_true h1), iteT ⟨_, rfl, xs.length, m, rfl, rfl, ?_⟩⟩⟩
    show Q (V.bl (decide ((xs.length : Int) ≤ m))) H
    rw [decide_eq_true h2]
    exact q

/-! ### need_office, need_lines, need_state -/
def OfAt (K : PySem.W.Frag) (H : Hp) (a : Addr) (p c : Nat) : Prop := SqT K H a [.int (p : Nat), .int (c : Nat)]
theorem OfAt.same {H H' : Hp} {a : Addr} {p c : Nat} (e : Same H H') (h : OfAt K H a p c) : OfAt K H' a p c := e.tup h
def Fine (p c : Nat) : Prop := 1 ≤ p ∧ p ≤ 7 ∧ 1 ≤ c ∧ c ≤ 6
def spOff (K : PySem.W.Frag) : Sp := fun vs H Q _ => ∃ (a : Addr) (p c : Nat), vs = [.ref a] ∧ OfAt K H a p c ∧ Fine p c ∧ Q .non H
theorem scOff : FnScope ["office"] ["office"] (defScope sOff) := ⟨rfl, rfl, rfl, by decide +kernel, rfl, by decide +kernel, by decide +kernel⟩
theorem ok_off (B : Blt mg) {t1 t2 : Tok} (m7 : mg "MOST_PEOPLE" = some (.int 7 t1)) (m6 : mg "MOST_COUNTERS" = some (.int 6 t2)) (GL : Kept P w K mg base 1 "is_list" ["value", "least", "most"] (spLst K)) (GI : Kept P w K mg base 2 "is_in" ["value", "least", "most"] spIn)
    (D : Def K mg "need_office" sOff ["office"]) : Kept P w K mg base 3 "need_office" ["office"] (spOff K) := by
  refine kept_of D scOff (fun vs H Q E h => ?_) (fun _ _ f cdv A outer s H vs Q E hr h => ?_)
  · obtain ⟨a, p, c, rfl, _⟩ := h; rfl
  · obtain ⟨a, p, c, rfl, ho, ⟨f1, f2, f3, f4⟩, q⟩ := h
    refine ⟨_, pss_one (ps_if (PW.pt (pw_or (pt_not (pt_val (pe_use GL (hr.mono (by decide)) (by rfl) (pa_cons (pv 0) (pa_cons pe_int (pa_cons pe_int pa_nil))))))
      (pw_or (pt_not (pt_val (pe_use GI hr (by rfl) (pa_cons (pe_ix ix_tup (pv 0) pe_int (fun _ _ => rfl)) (pa_cons pe_int (pa_cons (pe_glob (v := .int 7) (by rfl) m7 ⟨_, rfl⟩) pa_nil))))))
      (pw_or1 (pt_not (pt_val (pe_use GI hr (by rfl) (pa_cons (pe_ix ix_tup (pv 0) pe_int (fun _ _ => rfl)) (pa_cons pe_int (pa_cons (pe_glob (v := .int 6) (by rfl) m6 ⟨_, rfl⟩) pa_nil))))))))))
      (pss_one ps_never) pss_nil), ?_⟩
    exact ⟨_, rfl, a, _, 2, 2, rfl, ho, by show (2 : Int) ≤ 2; decide, by show (2 : Int) ≤ 2; decide, true, rfl, iteF ⟨_, rfl, a, _, 0, _, rfl, rfl, ho, atI_nat (j := 0) rfl, p, 1, 7, rfl, by omega, by omega, true, rfl,
      iteF ⟨_, rfl, a, _, 1, _, rfl, rfl, ho, atI_nat (j := 1) rfl, c, 1, 6, rfl, by omega, by omega, true, rfl, iteF q⟩⟩⟩
/-- a state of the office -/
def Sta (K : PySem.W.Frag) (H : Hp) (a : Addr) (p c : Nat) (L : List (List Int)) : Prop := StAt K H a L ∧ Stt p c L
def spLns (K : PySem.W.Frag) : Sp := fun vs H Q _ => ∃ (o a : Addr) (p c : Nat) (L : List (List Int)), vs = [.ref o, .ref a] ∧ OfAt K H o p c ∧ Fine p c ∧ StAt K H a L ∧ Stt p c L ∧ ∀ H', Same H H' → Q .non H'
theorem scLns : FnScope ["office", "state", "people", "counters", "met", "index", "line", "person"] ["office", "state"] (defScope sLns) := ⟨rfl, rfl, rfl, by decide +kernel, rfl, by decide +kernel, by decide +kernel⟩
theorem val_none {kvs : List (Key × V)} {ks : List Int} {n : Int} (e : kvs.map (·.1) = ks.map Sum.inl) (h : n ∉ ks) : valV kvs (Sum.inl n) = none := by
  cases q : valV kvs (Sum.inl n) with
  | none => rfl
  | some v =>
    have m := valV_in q
    rw [e] at m
    obtain ⟨x, hx, ex⟩ := List.mem_map.mp m
    cases ex
    exact absurd hx h
theorem ok_lns (B : Blt mg) (GL : Kept P w K mg base 1 "is_list" ["value", "least", "most"] (spLst K)) (GI : Kept P w K mg base 2 "is_in" ["value", "least", "most"] spIn)
    (D : Def K mg "need_lines" sLns ["office", "state"]) : Kept P w K mg base 3 "need_lines" ["office", "state"] (spLns K) := by
  refine kept_of D scLns (fun vs H Q E h => ?_) (fun _ _ f cdv A outer s H vs Q E hr h => ?_)
  · obtain ⟨o, a, p, c, L, rfl, _⟩ := h; rfl
  · obtain ⟨o, a, p, c, L, rfl, ho, ⟨f1, f2, f3, f4⟩, ⟨as, ha, hL⟩, S, q⟩ := h
    have hu := hu_of hr
    refine ⟨_, pss_cons (ps_asg (pv 0) (pg_tup rfl (pgs_cons (pg_name (i := 2) scLns.nd rfl (.inl rfl)) (pgs_cons (pg_name (i := 3) scLns.nd rfl (.inl rfl)) pgs_nil))))
      (pss_cons (ps_if (pt_not (pt_val (pe_use GL (hr.mono (by decide)) (by rfl) (pa_cons (pv 1) (pa_cons (pv 3) (pa_cons (pv 3) pa_nil)))))) (pss_one ps_never) pss_nil)
      (pss_cons (ps_set (i := 4) scLns.nd rfl (.inl rfl) pe_dnewK)
      (pss_cons (ps_for PassesOwn.never rfl (pi_enumT (by rfl) B.enumerate (pa_cons (pv 1) pa_nil)) (pg_tup rfl (pgs_cons (pg_name (i := 5) scLns.nd rfl (.inl rfl)) (pgs_cons (pg_name (i := 6) scLns.nd rfl (.inl rfl)) pgs_nil)))
        (pss_cons (ps_if (pt_not (pt_val (pe_use GL (hr.mono (by decide)) (by rfl) (pa_cons (pv 6) (pa_cons pe_int (pa_cons (pv 2) pa_nil)))))) (pss_one ps_never) pss_nil)
        (pss_one (ps_for PassesOwn.never rfl (pi_tup (pv 6)) (pg_name (i := 7) scLns.nd rfl (.inl rfl))
          (pss_cons (ps_if (PW.pt (pw_or (pt_not (pt_val (pe_use GI hr (by rfl) (pa_cons (pv 7) (pa_cons pe_int (pa_cons (pe_op op_sub (pv 2) pe_int) pa_nil)))))) (pw_or1 (pt_cmp (pc_din hu (pv 7) (pv 4)))))) (pss_one ps_never) pss_nil)
          (pss_one (ps_dput hu (pv 4) (pv 7) pe_bl rfl)))))))
      (pss_one (ps_if (pt_cmpR op_lt (pe_callB call_lenD (by rfl) B.len PySem.boot_len (pa_cons (pv 4) pa_nil)) (pv 2) (nomark _)) (pss_one ps_never) pss_nil))))), ?_⟩
    -- people, counters = office
    refine ⟨_, rfl, o, _, rfl, ho, rfl, _, _, rfl, _, _, rfl, rfl, ?_⟩
    have hlen : (as.map V.ref).length = c := by rw [List.length_map, hL.1, S.len]
    refine ⟨_, rfl, _, rfl, _, rfl, a, _, _, _, rfl, ha, by rw [hlen]; exact Int.le_refl _, by rw [hlen]; exact Int.le_refl _, true, rfl, iteF ?_⟩
    -- met = {}
    intro d hd
    have s0 : Same H (upd H d (.dK [])) := Same.new hd
    have hnd := S.nd
    refine ⟨_, rfl, a, _, rfl, s0.tup ha, for_enumT (K := K) (a := a) (xs := as.map V.ref) (fun i σ H2 => ∃ (v5 v6 v7 : Option V) (kvs : List (Key × V)),
      σ = [some (.ref o), some (.ref a), some (.int p), some (.int c), some (.ref d), v5, v6, v7] ∧ Same H H2 ∧ H2 d = some (.dK kvs) ∧ kvs.map (·.1) = ((L.take i).flatten).map Sum.inl)
      ⟨none, none, none, [], rfl, s0, upd_same, by simp⟩ (fun i σ H2 _ ⟨_, _, _, _, _, s2, _⟩ => s2.tup ha) ?_ ?_⟩
    · rintro i x T σ H2 hx ⟨v5, v6, v7, kvs, rfl, s2, hk, ek⟩ hT
      obtain ⟨b, hb, rfl⟩ := ref_at hx
      obtain ⟨l, hl, hbl⟩ := hL.back hb
      have s3 : Same H (upd H2 T (.tup [.int (i : Nat), .ref b])) := s2.trans (Same.new hT)
      have hll : l.length ≤ p := line_le S hl
      have hTd : d ≠ T := ne_of_none hk hT
      refine ⟨T, _, rfl, SqT.of upd_same, rfl, _, _, rfl, _, _, rfl, rfl, ?_⟩
      refine ⟨_, rfl, _, rfl, b, _, 0, _, rfl, s3.tup hbl, by omega, by rw [List.length_map]; omega, true, rfl, iteF ?_⟩
      -- for person in line
      refine ⟨_, rfl, b, rfl, ⟨_, s3.tup hbl⟩, for_tup (K := K) (a := b) (xs := l.map V.int) (fun j σ H3 => ∃ (v7 : Option V) (kvs : List (Key × V)),
        σ = [some (.ref o), some (.ref a), some (.int p), some (.int c), some (.ref d), some (.int (i : Nat)), some (.ref b), v7] ∧ Same H H3 ∧ H3 d = some (.dK kvs) ∧ kvs.map (·.1) = ((L.take i).flatten ++ l.take j).map Sum.inl)
        ⟨v7, kvs, rfl, s3, by rw [upd_ne hTd]; exact hk, by simpa using ek⟩ (fun j σ H3 _ ⟨_, _, _, s4, _⟩ => s4.tup hbl) ?_ ?_⟩
      · rintro j y σ H3 hy ⟨v7', kvs', rfl, s4, hk', ek'⟩
        obtain ⟨n, hn, rfl⟩ := int_at hy
        have hmem : n ∈ L.flatten := mem_flat hl (List.mem_of_getElem? hn)
        obtain ⟨n0, n1⟩ := S.mem.mp hmem
        have hil : i < L.length := (List.getElem?_eq_some_iff.mp hl).1
        have hjl : j < l.length := (List.getElem?_eq_some_iff.mp hn).1
        have hfresh : n ∉ (L.take i).flatten ++ l.take j := by
          have e1 : L.flatten = (L.take i).flatten ++ (l ++ (L.drop (i + 1)).flatten) := by
            have e2 : L = L.take i ++ (l :: L.drop (i + 1)) := by
              have e3 := (List.getElem?_eq_some_iff.mp hl).2
              rw [← e3, ← List.drop_eq_getElem_cons hil, List.take_append_drop]
            conv => lhs; rw [e2]
            rw [List.flatten_append, List.flatten_cons]
          have e4 : l = l.take j ++ (n :: l.drop (j + 1)) := by
            have e3 := (List.getElem?_eq_some_iff.mp hn).2
            rw [← e3, ← List.drop_eq_getElem_cons hjl, List.take_append_drop]
          rw [e1] at hnd
          intro hm
          rcases List.mem_append.mp hm with hm | hm
          · exact (List.nodup_append.mp hnd).2.2 n hm n (List.mem_append_left _ (List.mem_of_getElem? hn)) rfl
          · have hnl := nd_line S.nd hl
            rw [e4] at hnl
            exact (List.nodup_append.mp hnl).2.2 n hm n List.mem_cons_self rfl
        have hval : valV kvs' (Sum.inl n) = none := val_none ek' hfresh
        have hg : DGet H3 d (.int n) none := hval ▸ DGet.k (k := Sum.inl n) hk'
        have hlen : kvs'.length < sizeLine := by
          have e5 : kvs'.length = ((L.take i).flatten ++ l.take j).length := by
            have z := congrArg List.length ek'
            rw [List.length_map, List.length_map] at z
            exact z
          rw [e5]
          have e6 : ((L.take i).flatten ++ l.take j).length ≤ L.flatten.length + l.length := by
            rw [List.length_append]
            have b1 : (L.take i).flatten.length ≤ L.flatten.length := by
              have : L.flatten = (L.take i).flatten ++ (L.drop i).flatten := by rw [← List.flatten_append, List.take_append_drop]
              rw [this, List.length_append]
              omega
            have b2 : (l.take j).length ≤ l.length := by rw [List.length_take]; omega
            omega
          have e7 : L.flatten.length = p := by rw [S.perm.length_eq, ppl_len]
          exact small1000 (by omega)
        refine ⟨_, rfl, _, rfl, _, _, rfl, rfl, n, 0, (p : Int) - 1, rfl, n0, by omega, true, rfl, iteF ⟨_, rfl, _, rfl, d, none, rfl, hg, false, rfl, ?_⟩⟩
        refine iteF ⟨_, rfl, _, rfl, d, _, rfl, DPut.k (k := Sum.inl n) hk' hlen, some (.int n), _, rfl, s4.put hd, upd_same, ?_⟩
        rw [putK_new _ hval, List.map_append, ek', List.take_add_one, hn]
        simp
      · rintro σ H3 ⟨v7', kvs', rfl, s4, hk', ek'⟩
        refine ⟨some (.int (i : Nat)), some (.ref b), v7', kvs', rfl, s4, hk', ?_⟩
        rw [ek', List.take_of_length_le (l := l) (by rw [List.length_map]; exact Nat.le_refl _), List.take_add_one, hl]
        simp
    · rintro σ H2 ⟨v5, v6, v7, kvs, rfl, s2, hk, ek⟩
      have e5 : kvs.length = p := by
        have z := congrArg List.length ek
        rw [List.length_map, List.length_map, List.take_of_length_le (l := L) (by rw [List.length_map, hL.1]; exact Nat.le_refl _), S.perm.length_eq, ppl_len] at z
        exact z
      refine ⟨_, rfl, d, kvs, rfl, hk, _, rfl, _, _, rfl, rfl, false, congrArg V.bl (decide_eq_false (by rw [e5]; omega)), iteF ?_⟩
      exact q H2 s2
def spSta (K : PySem.W.Frag) : Sp := spLns K
theorem scSta : FnScope ["office", "state"] ["office", "state"] (defScope sSta) := ⟨rfl, rfl, rfl, by decide +kernel, rfl, by decide +kernel, by decide +kernel⟩
theorem ok_sta (GO : Kept P w K mg base 3 "need_office" ["office"] (spOff K)) (GN : Kept P w K mg base 3 "need_lines" ["office", "state"] (spLns K)) (D : Def K mg "need_state" sSta ["office", "state"]) : Kept P w K mg base 4 "need_state" ["office", "state"] (spLns K) := by
  refine kept_of D scSta (fun vs H Q E h => ?_) (fun _ _ f cdv A outer s H vs Q E hr h => ?_)
  · obtain ⟨o, a, p, c, L, rfl, _⟩ := h; rfl
  · obtain ⟨o, a, p, c, L, rfl, ho, fi, ha, S, q⟩ := h
    refine ⟨_, pss_cons (ps_expr (pe_use GO hr (by rfl) (pa_cons (pv 0) pa_nil))) (pss_one (ps_expr (pe_use GN hr (by rfl) (pa_cons (pv 0) (pa_cons (pv 1) pa_nil))))), ?_⟩
    exact ⟨_, rfl, o, p, c, rfl, ho, fi, _, rfl, _, rfl, o, a, p, c, L, rfl, ho, fi, ha, S, q⟩

/-! ### need_counter, need_order -/
def spCtr (K : PySem.W.Frag) : Sp := fun vs H Q _ => ∃ (o : Addr) (p c : Nat) (n : Int), vs = [.ref o, .int n] ∧ OfAt K H o p c ∧ 0 ≤ n ∧ n < c ∧ Q .non H
theorem scCtr : FnScope ["office", "counter"] ["office", "counter"] (defScope sCtr) := ⟨rfl, rfl, rfl, by decide +kernel, rfl, by decide +kernel, by decide +kernel⟩
theorem ok_ctr (GI : Kept P w K mg base 2 "is_in" ["value", "least", "most"] spIn) (D : Def K mg "need_counter" sCtr ["office", "counter"]) : Kept P w K mg base 3 "need_counter" ["office", "counter"] (spCtr K) := by
  refine kept_of D scCtr (fun vs H Q E h => ?_) (fun _ _ f cdv A outer s H vs Q E hr h => ?_)
  · obtain ⟨o, p, c, n, rfl, _⟩ := h; rfl
  · obtain ⟨o, p, c, n, rfl, ho, h0, h1, q⟩ := h
    refine ⟨_, pss_one (ps_if (pt_not (pt_val (pe_use GI hr (by rfl) (pa_cons (pv 1) (pa_cons pe_int (pa_cons (pe_op op_sub (pe_ix ix_tup (pv 0) pe_int (fun _ _ => rfl)) pe_int) pa_nil)))))) (pss_one ps_never) pss_nil), ?_⟩
    exact ⟨_, rfl, _, rfl, o, _, 1, _, rfl, rfl, ho, atI_nat (j := 1) rfl, _, _, rfl, rfl, n, 0, (c : Int) - 1, rfl, h0, by omega, true, rfl, iteF q⟩
def spOrd (K : PySem.W.Frag) : Sp := fun vs H Q _ => ∃ (o a : Addr) (p c : Nat) (ns : List Int), vs = [.ref o, .ref a] ∧ OfAt K H o p c ∧ Fine p c ∧ SqT K H a (ns.map V.int) ∧ ns.Perm (ppl p) ∧ ∀ H', Same H H' → Q .non H'
theorem scOrd : FnScope ["office", "order", "person"] ["office", "order"] (defScope sOrd) := ⟨rfl, rfl, rfl, by decide +kernel, rfl, by decide +kernel, by decide +kernel⟩
theorem sorted_ppl {ns : List Int} {p : Nat} (h : ns.Perm (ppl p)) (hs : ns.Pairwise (· ≤ ·)) : ns = ppl p := by
  have h2 : (ppl p).Pairwise (· ≤ ·) := by
    unfold ppl
    refine List.Pairwise.map Int.ofNat ?_ (List.pairwise_le_range)
    intro a b hab
    exact Int.ofNat_le.mpr hab
  exact List.Perm.eq_of_pairwise (fun a b _ _ h1 h2 => Int.le_antisymm h1 h2) hs h2 h
theorem rg_ppl (p : Nat) : rgV 0 (p : Int) = (ppl p).map V.int := by
  unfold rgV ppl
  rw [List.map_map, show ((p : Int) - 0).toNat = p by omega]
  refine List.map_congr_left fun i _ => ?_
  show V.int (0 + (i : Nat)) = V.int (Int.ofNat i)
  rw [Int.zero_add]
  rfl
theorem ok_ord (B : Blt mg) (GL : Kept P w K mg base 1 "is_list" ["value", "least", "most"] (spLst K)) (GI : Kept P w K mg base 2 "is_in" ["value", "least", "most"] spIn) (D : Def K mg "need_order" sOrd ["office", "order"]) : Kept P w K mg base 3 "need_order" ["office", "order"] (spOrd K) := by
  refine kept_of D scOrd (fun vs H Q E h => ?_) (fun _ _ f cdv A outer s H vs Q E hr h => ?_)
  · obtain ⟨o, a, p, c, ns, rfl, _⟩ := h; rfl
  · obtain ⟨o, a, p, c, ns, rfl, ho, ⟨f1, f2, f3, f4⟩, ha, hp, q⟩ := h
    refine ⟨_, pss_cons (ps_if (PW.pt (pw_or (pt_not (pt_val (pe_use GL (hr.mono (by decide)) (by rfl) (pa_cons (pv 1) (pa_cons (pe_ix ix_tup (pv 0) pe_int (fun _ _ => rfl)) (pa_cons (pe_ix ix_tup (pv 0) pe_int (fun _ _ => rfl)) pa_nil))))))
        (pw_or1 (pt_not (pt_val (pe_callB (cr_all rfl) (by rfl) B.all (by decide +kernel) (pa_cons
          (pe_lc (own := [("person", 2)]) (g := gName 2) (tt := tYes) rfl scOrd.nd (pi_tup (pv 1)) (blkOk_by (N := ["office", "order", "person"]) (sc := defScope sOrd) (by decide +kernel)) (fun _ _ _ _ _ => pg_name (i := 2) scOrd.nd rfl (Or.inl rfl)) (fun _ _ _ _ _ => pts_nil)
            (fun _ _ _ _ _ => pe_use GI hr (by rfl) (pa_cons (pv 2) (pa_cons pe_int (pa_cons (pe_op op_sub (pe_ix (ixT K) (pv 0) pe_int (fun _ _ => rfl)) pe_int) pa_nil))))) pa_nil)))))))
        (pss_one ps_never) pss_nil)
      (pss_one (ps_if (pt_cmpR (op_neD hr.units) (pe_callB cr_sortTI (by rfl) B.sorted (by decide +kernel) (pa_cons (pv 1) pa_nil)) (pe_listRg rfl (by rfl) B.list (prg_1 (by rfl) B.range (pe_ix ix_tup (pv 0) pe_int (fun _ _ => rfl)))) (nomark _)) (pss_one ps_never) pss_nil)), ?_⟩
    have hlen : ((ns.map V.int).length : Int) = p := by rw [List.length_map, hp.length_eq, ppl_len]
    refine ⟨_, rfl, _, rfl, o, _, 0, _, rfl, rfl, ho, atI_nat (j := 0) rfl, _, rfl, o, _, 0, _, rfl, rfl, ho, atI_nat (j := 0) rfl, a, _, _, _, rfl, ha, by rw [hlen]; exact Int.le_refl _, by rw [hlen]; exact Int.le_refl _, true, rfl, iteF ?_⟩
    refine ⟨_, rfl, a, rfl, ⟨_, ha⟩, fun d hd => lc_tup (K := K) (a := a) (xs := ns.map V.int) (fun i H2 => Same H H2 ∧ H2 d = some (.lst (List.replicate i (V.bl true)))) ⟨Same.new hd, upd_same⟩ (fun i H2 _ h => h.1.tup ha) ?_ ?_⟩
    · rintro i x H2 hx ⟨s2, hk⟩
      obtain ⟨n, hn, rfl⟩ := int_at hx
      obtain ⟨n0, n1⟩ := mem_ppl.mp (hp.mem_iff.mp (List.mem_of_getElem? hn))
      refine ⟨rfl, turnT ⟨_, rfl, _, rfl, o, _, 0, _, rfl, rfl, s2.tup ho, atI_nat (j := 0) rfl, _, _, rfl, rfl, n, 0, (p : Int) - 1, rfl, n0, by omega, _, hk, ?_, s2.put hd, ?_⟩⟩
      · rw [List.length_replicate]
        have : i < (ns.map V.int).length := (List.getElem?_eq_some_iff.mp hx).1
        exact small1000 (by omega)
      · rw [upd_same, List.replicate_succ']
    · rintro H2 ⟨s2, hk⟩
      refine ⟨d, List.replicate (ns.map V.int).length true, rfl, SqL.of (by rw [List.map_replicate]; exact hk), true, congrArg V.bl (by simp), iteF ?_⟩
      -- sorted(order) != list(range(people))
      refine ⟨_, rfl, a, ns, rfl, s2.tup ha, by rw [hp.length_eq, ppl_len]; omega, fun ns' l hp' hs' hl => ?_⟩
      have s3 : Same H (upd H2 l (.lst (ns'.map V.int))) := s2.trans (Same.new hl)
      refine ⟨_, rfl, o, _, 0, _, rfl, rfl, s3.tup ho, atI_nat (j := 0) rfl, p, rfl, RgOk.of_le (Int.le_refl _) (by omega) (by decide) (by omega), fun l2 hl2 => ?_⟩
      have e1 : ns' = ppl p := sorted_ppl (hp'.trans hp) hs'
      have hne : l ≠ l2 := ne_of_none (o := .lst (ns'.map V.int)) upd_same hl2
      refine ⟨.list (ns'.map PyData.int), .list ((ppl p).map PyData.int), .lst (SqL.of (by rw [upd_ne hne]; exact upd_same)) (dp_ints _ _), .lst (SqL.of (by rw [upd_same, rg_ppl])) (dp_ints _ _), ?_, ?_, false, congrArg V.bl ?_, iteF ?_⟩
      · exact shapedL _
      · exact shapedL _
      · show (!PyData.eqvAll (ns'.map PyData.int) ((ppl p).map PyData.int)) = false
        rw [eqv_ints, decide_eq_true e1]
        rfl
      · exact q _ (s3.trans (Same.new hl2))

/-! ### counter_of -/
def spCof (K : PySem.W.Frag) : Sp := fun vs H Q _ => ∃ (a : Addr) (n : Int) (L : List (List Int)), vs = [.ref a, .int n] ∧ StAt K H a L ∧ L.flatten.Nodup ∧ n ∈ L.flatten ∧ L.length ≤ 1000 ∧ ∀ H', Same H H' → Q (.int ((cof L n : Nat) : Int)) H'
theorem scCof : FnScope ["state", "person", "counter", "line"] ["state", "person"] (defScope sCof) := ⟨rfl, rfl, rfl, by decide +kernel, rfl, by decide +kernel, by decide +kernel⟩
theorem ok_cof (B : Blt mg) (D : Def K mg "counter_of" sCof ["state", "person"]) : Kept P w K mg base 1 "counter_of" ["state", "person"] (spCof K) := by
  refine kept_of D scCof (fun vs H Q E h => ?_) (fun _ _ f cdv A outer s H vs Q E hr h => ?_)
  · obtain ⟨a, n, L, rfl, _⟩ := h; rfl
  · obtain ⟨a, n, L, rfl, ⟨as, ha, hL⟩, hnd, hn, hlen, q⟩ := h
    refine ⟨_, pss_one (ps_ret (pe_ix ix_list (pe_lc (own := [("counter", 2), ("line", 3)]) (g := gTup K 2 (gCons (gName 2) (gCons (gName 3) gNil))) (tt := tTest (tOp (rIn K false) (tVar 1) (tVar 3))) rfl scCof.nd (pi_enumT (by rfl) B.enumerate (pa_cons (pv 0) pa_nil))
      (blkOk_by (N := ["state", "person", "counter", "line"]) (sc := defScope sCof) (by decide +kernel))
      (fun _ _ _ _ _ => pgT K rfl (pgs_cons (pg_name (i := 2) scCof.nd rfl (.inl rfl)) (pgs_cons (pg_name (i := 3) scCof.nd rfl (.inl rfl)) pgs_nil)))
      (fun _ _ _ _ _ => pts_one (pt_cmpR (inK K) (pv 1) (pv 3) rfl)) (fun _ _ _ _ _ => pv 2)) pe_int (fun _ _ => rfl))), ?_⟩
    refine ⟨_, rfl, a, _, rfl, ha, fun d hd => lc_enumT (K := K) (a := a) (xs := as.map V.ref) (fun i H2 => Same H H2 ∧ H2 d = some (.lst (if cof L n < i then [.int ((cof L n : Nat) : Int)] else []))) ⟨Same.new hd, by rw [if_neg (Nat.not_lt_zero _)]; exact upd_same⟩ (fun i H2 _ h => h.1.tup ha) ?_ ?_⟩
    · rintro i y T H2 hx ⟨s2, hk⟩ hT
      obtain ⟨b, hb, rfl⟩ := ref_at hx
      obtain ⟨l, hl, hbl⟩ := hL.back hb
      have s3 : Same H (upd H2 T (.tup [.int (i : Nat), .ref b])) := s2.trans (Same.new hT)
      have hdT : d ≠ T := ne_of_none hk hT
      refine ⟨T, _, rfl, SqT.of upd_same, rfl, _, _, rfl, _, _, rfl, rfl, rfl, _, rfl, _, rfl, b, _, rfl, .inr (s3.tup hbl), rfl, flat_ints l, decide (n ∈ l), congrArg V.bl (inV_int n l), ?_⟩
      by_cases hm : n ∈ l
      · have e : cof L n = i := cof_at hnd hl hm
        refine ifT (decide_eq_true hm) ⟨_, rfl, _, by rw [upd_ne hdT]; exact hk, ?_, s3.put hd, ?_⟩
        · rw [e, if_neg (Nat.lt_irrefl _)]
          exact small1000 (Nat.zero_le _)
        · rw [upd_same, e, if_neg (Nat.lt_irrefl _), if_pos (Nat.lt_succ_self _)]
          rfl
      · have e : cof L n ≠ i := fun z => by
          obtain ⟨m, h1, h2⟩ := cof_spec hn
          rw [z, hl] at h1
          cases h1
          exact hm h2
        refine ifF (decide_eq_false hm) ⟨s3, ?_⟩
        rw [upd_ne hdT, hk]
        by_cases hlt : cof L n < i
        · rw [if_pos hlt, if_pos (by omega)]
        · rw [if_neg hlt, if_neg (by omega)]
    · rintro H2 ⟨s2, hk⟩
      rw [if_pos (by rw [List.length_map, hL.1]; exact cof_lt hn)] at hk
      exact ⟨d, _, 0, _, rfl, rfl, SqL.of hk, atI_nat (j := 0) rfl, q H2 s2⟩
end
end Cl
set_option Elab.async false
set_option linter.all false
set_option maxRecDepth 100000
set_option maxHeartbeats 4000000
/-! A tuple that is known to its object (so that it is known to have no dict of its own), and its method index. A block whose ways meet behind its first statement. -/
namespace Cl
open PySem PySem.Spec PyProof.Rows L2
/-- a tuple, known to its object, without a dict of its own -/
def Hard (H : Hp) (a : Addr) (xs : List V) : Prop := ∃ o : Obj, H a = some (.frz o (.tup xs)) ∧ o.dict = none
section
variable {K : PySem.W.Frag} {H H' : Hp} {a : Addr} {xs : List V}
theorem Hard.sq (h : Hard H a xs) : SqT K H a xs := let ⟨o, e, _⟩ := h; .inl (.inr ⟨o, e⟩)
theorem Hard.same (e : Same H H') (h : Hard H a xs) : Hard H' a xs := let ⟨o, h1, h2⟩ := h; ⟨o, e _ _ h1, h2⟩
end
section
variable {X : Cx}
/-- tuple(a list): the new tuple is known to its object -/
theorem call_tupleH : CallR X (.type "tuple") (fun xs H Q => ∃ p ys, xs = [.ref p] ∧ SqL X.K H p ys ∧ ∀ l H', H l = none → Hard H' l ys → Same H H' → Q (.ref l) H') := by
  intro pins s σ H xs us Q I r h
  obtain ⟨p, ys, rfl, hq, q⟩ := h
  obtain ⟨u, rfl, rx⟩ := vals1 r
  cases rx
  obtain ⟨its, rv, pl, hz⟩ := I.list hq
  have hlen := rv.length
  refine call_tuple_list pl.isList (fun h' kp => ?_) (by simp only [List.size_toArray] <;> omega)
  have I1 : Inv X pins σ H { s with heap := h' } := I.kept (t' := s.toks) kp
  have I2 : Inv X pins σ (upd H h'.objs.size (.frz { cls := .type "tuple", data := .seq its.toArray } (.tup ys))) { s with heap := h'.push { cls := .type "tuple", data := .seq its.toArray } } :=
    I1.laid (t' := s.toks) (fun b o e => Heap.get?_push_of_some _ e) (Nat.le_refl _) (show ObjOk X.prog X.w _ _ _ (.frz _ (.tup ys)) from ⟨Heap.get?_push_size _ rfl, hz, its, rv, IsTup.new _ _⟩)
  have hn : H h'.objs.size = none := I1.hok.fresh (Nat.le_refl _)
  exact ⟨.ref h'.objs.size, _, I2, rfl, q _ _ hn ⟨_, upd_same, rfl⟩ (Same.new hn)⟩
/-- t.m(e), t such a tuple -/
def tHM (r : V → List V → Hp → VK → Prop) (to : TE) (t : TA) : TE := fun σ H Q => to σ H fun x H1 => (∃ p xs, x = .ref p ∧ Hard H1 p xs) ∧ t σ H1 fun ys H2 => r x ys H2 Q
theorem pe_hm {o e : Expr} {es : List Expr} {to : TE} {t : TA} {name : Str} {apos cpos : Pos} {id : String} {r : V → List V → Hp → VK → Prop} (slot : Slot "tuple" name id) (hty : typeOf (.builtin id) = pure (.type "method_descriptor")) (hm : MtR X id r) (ho : PE X o to) (ha : PA X (e :: es) t)
    (hbase : attributeBase o name X.env (eval o X.env) = eval o X.env := by rfl)
    (hfew : ((backTo cpos (starEach (e :: es) X.env)).all (fun x => !x.1) && (backToKw cpos (keywordEach [] X.env)).all (fun x => x.1.isSome)
      && decide ((e :: es).length + ([] : List Keyword).length + (if ([] : List Keyword).isEmpty then 0 else 1) < 30)) = true := by rfl)
    (hline : (apos.endLine == cpos.line) = true := by rfl) (hs : starEach (e :: es) X.env = (false, eval e X.env) :: starEach es X.env := by rfl) (hplain : (backTo cpos (starEach es X.env)).any (·.1) = false := by rfl) :
    PE X (.Call (.Attribute o name apos) (e :: es) [] cpos) (tHM r to t) := by
  refine ⟨fun pins s σ H Q I h => ?_⟩
  refine wpAny_Call_method_late hbase hfew hline rfl (thn (ho.run pins s σ H _ I h) fun v s1 ⟨x, H1, I1, r1, ty, q1⟩ => ?_)
  obtain ⟨p, xs, rfl, ob, hp, hd⟩ := ty
  obtain ⟨hob, _, its, rv, o', ho', hc', _⟩ := (show ObjOk X.prog X.w H1 s1.heap p (.frz ob (.tup xs)) from I1.hok p _ hp)
  have r0 : v = Value.ref p := r1
  subst r0
  have h1 : s1.TypeIs (.ref p) "tuple" := ⟨o', ho', hc'⟩
  have h2 : ∀ b, Value.ref p = .ref b → ∃ q, s1.heap.get? b = some q ∧ q.dict = none := fun b z => by
    cases z
    exact ⟨ob, hob, hd⟩
  refine ⟨"tuple", id, PySem.F.plainAttrs_tuple, slot, hty, h1, h2, ?_⟩
  have hA := ha.run cpos pins s1 σ H1 _ I1 q1
  rw [hs] at hA ⊢
  refine Calls.callWith_builtin (by show (false || (backTo cpos (starEach es X.env)).any (·.1)) = false; rw [hplain] <;> rfl) (Calls.evalArgs_plain ?_)
  exact thn hA fun us s2 ⟨vs, H2, I2, r2, q2⟩ => hm pins s2 σ H2 (.ref p) vs (.ref p) us Q I2 rfl r2 q2
/-- t.index(n) -/
def rTIx (K : PySem.W.Frag) : V → List V → Hp → VK → Prop := fun x xs H Q => ∃ (p : Addr) (ns : List Int) (n : Int), x = .ref p ∧ xs = [.int n] ∧ SqT K H p (ns.map V.int) ∧ n ∈ ns ∧ Q (.int ((ns.idxOf n : Nat) : Int)) H
/-- the ways of a statement meet: Mid is what all of them come to -/
def tMid (t u : TS) : TS := fun D σ H => ∃ Mid : L2.St → Hp → Prop, t { D with nx := Mid } σ H ∧ ∀ σ' H', Mid σ' H' → u D σ' H'
theorem pss_mid {st : Stmt} {rest : List Stmt} {t u : TS} (h1 : PS X st t) (h2 : PSs X rest u) : PSs X (st :: rest) (tMid t u) := by
  refine ⟨fun pins s σ H D I h => ?_⟩
  obtain ⟨Mid, h, hM⟩ := h
  refine wpAny_execs_cons (thn (h1.run pins s σ H { D with nx := Mid } I h) fun f s1 q => ?_)
  cases f with
  | next =>
    obtain ⟨σ', H', I', q⟩ := q
    exact h2.run pins s1 σ' H' D I' (hM σ' H' q)
  | ret v => exact q
  | brk => exact q
  | cont => exact q
end

/-! ### a state whose lines are such tuples -/
def HardAt (K : PySem.W.Frag) (H : Hp) (a : Addr) (L : List (List Int)) : Prop :=
  ∃ as : List Addr, SqT K H a (as.map V.ref) ∧ as.length = L.length ∧ ∀ (i : Nat) (b : Addr) (l : List Int), as[i]? = some b → L[i]? = some l → Hard H b (l.map V.int)
section
variable {K : PySem.W.Frag} {H H' : Hp} {a : Addr} {L : List (List Int)}
theorem HardAt.same (e : Same H H') (h : HardAt K H a L) : HardAt K H' a L := let ⟨as, h1, h2, h3⟩ := h; ⟨as, e.tup h1, h2, fun i b l x y => (h3 i b l x y).same e⟩
theorem HardAt.st (h : HardAt K H a L) : StAt K H a L := let ⟨as, h1, h2, h3⟩ := h; ⟨as, h1, h2, fun i b l x y => (h3 i b l x y).sq⟩
end
end Cl
set_option Elab.async false
set_option linter.all false
set_option maxRecDepth 100000
set_option maxHeartbeats 4000000
/-! The walks of kept_in, kept. -/
namespace Cl
open PySem PySem.Spec PyProof.Rows L2
abbrev sKin : Stmt := top 20
abbrev sKep : Stmt := top 21
abbrev natV (ks : List Nat) : List V := (ks.map fun k => ((k : Nat) : Int)).map V.int
theorem natV_snoc (ks : List Nat) (k : Nat) : natV ks ++ [.int ((k : Nat) : Int)] = natV (ks ++ [k]) := by simp [natV]
theorem natV_len (ks : List Nat) : (natV ks).length = ks.length := by simp [natV]
section
variable {P : Program} {w : World} {K : PySem.W.Frag} {mg : Str → Option Value} {base : Heap}
def spKin (K : PySem.W.Frag) : Sp := fun vs H Q _ => ∃ (a b : Addr) (L M : List (List Int)), vs = [.ref a, .ref b] ∧ HardAt K H a L ∧ StAt K H b M ∧ M.length = L.length ∧ M.length ≤ 1000 ∧ (∀ l ∈ M, l.length ≤ 1000) ∧
  ∀ H' p, Same H H' → H p = none → H' p = some (.lst (natV (ks L M))) → Q (.ref p) H'
theorem scKin : FnScope ["one", "other", "found", "counter", "line", "places", "person"] ["one", "other"] (defScope sKin) := ⟨rfl, rfl, rfl, by decide +kernel, rfl, by decide +kernel, by decide +kernel⟩
theorem ok_kin (B : Blt mg) (D : Def K mg "kept_in" sKin ["one", "other"]) : Kept P w K mg base 1 "kept_in" ["one", "other"] (spKin K) := by
  refine kept_of D scKin (fun vs H Q E h => ?_) (fun _ _ f cdv A outer s H vs Q E hr h => ?_)
  · obtain ⟨a, b, L, M, rfl, _⟩ := h; rfl
  · obtain ⟨a, b, L, M, rfl, ⟨as, ha, hal, haL⟩, ⟨bs, hb, hM⟩, hlen, h1000, hl1000, q⟩ := h
    refine ⟨_, pss_cons (ps_set (i := 2) scKin.nd rfl (.inl rfl) (pe_lst pa_nil))
      (pss_cons (ps_for PassesOwn.never rfl (pi_enumT (by rfl) B.enumerate (pa_cons (pv 1) pa_nil)) (pg_tup rfl (pgs_cons (pg_name (i := 3) scKin.nd rfl (.inl rfl)) (pgs_cons (pg_name (i := 4) scKin.nd rfl (.inl rfl)) pgs_nil)))
        (pss_cons (ps_set (i := 5) scKin.nd rfl (.inl rfl) (pe_lst pa_nil))
        (pss_mid (ps_for PassesOwn.never rfl (pi_tup (pv 4)) (pg_name (i := 6) scKin.nd rfl (.inl rfl))
          (pss_cons (ps_if (PW.pt (pw_or (pt_cmpR op_notIn_seq (pv 6) (pe_ix ix_tup (pv 0) (pv 3) (fun _ _ => rfl)) rfl)
              (pw_or1 (PW.pt (pw_and (pt_cmpR (op_neD hr.units) (pv 5) (pe_lst pa_nil) (nomark _))
                (pw_and1 (pt_cmpR op_lt (pe_hm PySem.F.slot_tuple_index PySem.F.type_tuple_index mt_tindex (pe_ix ix_tup (pv 0) (pv 3) (fun _ _ => rfl)) (pa_cons (pv 6) pa_nil)) (pe_ix ix_list (pv 5) (pe_un un_neg pe_int) (fun _ _ => rfl)) (nomark _))))))))
            (pss_one ps_break) pss_nil)
          (pss_one (ps_expr (pe_bm PySem.F.plainAttrs_list PySem.F.slot_list_append PySem.F.type_list_append mt_append (pv 5)
            (pa_cons (pe_hm PySem.F.slot_tuple_index PySem.F.type_tuple_index mt_tindex (pe_ix ix_tup (pv 0) (pv 3) (fun _ _ => rfl)) (pa_cons (pv 6) pa_nil)) pa_nil))))))
        (pss_one (ps_expr (pe_bm PySem.F.plainAttrs_list PySem.F.slot_list_append PySem.F.type_list_append mt_append (pv 2)
          (pa_cons (pe_callB call_len_seq (by rfl) B.len PySem.boot_len (pa_cons (pv 5) pa_nil)) pa_nil)))))))
      (pss_one (ps_ret (pv 2)))), ?_⟩
    -- found = []
    refine ⟨Nat.zero_le _, fun fo hfo => ?_⟩
    have s0 : Same H (upd H fo (.lst [])) := Same.new hfo
    refine ⟨_, rfl, b, _, rfl, s0.tup hb, for_enumT (K := K) (a := b) (xs := bs.map V.ref) (fun i σ H2 => ∃ (v3 v4 v5 v6 : Option V),
      σ = [some (.ref a), some (.ref b), some (.ref fo), v3, v4, v5, v6] ∧ Same H H2 ∧ H2 fo = some (.lst (natV ((ks L M).take i))))
      ⟨none, none, none, none, rfl, s0, upd_same⟩ (fun i σ H2 _ ⟨_, _, _, _, _, s2, _⟩ => s2.tup hb) ?_ ?_⟩
    · rintro i y T σ H2 hx ⟨v3, v4, v5, v6, rfl, s2, hk⟩ hT
      obtain ⟨b1, hb1, rfl⟩ := ref_at hx
      obtain ⟨m, hm, hbm⟩ := hM.back hb1
      have hiM : i < M.length := (List.getElem?_eq_some_iff.mp hm).1
      have hiL : i < L.length := by omega
      have hia : i < as.length := by omega
      have hl : L[i]? = some L[i] := List.getElem?_eq_getElem hiL
      have ha1 : as[i]? = some as[i] := List.getElem?_eq_getElem hia
      have hH : Hard H as[i] (L[i].map V.int) := haL i _ _ ha1 hl
      generalize as[i] = a1 at ha1 hH
      generalize hle : L[i] = l at hl hH
      have s3 : Same H (upd H2 T (.tup [.int (i : Nat), .ref b1])) := s2.trans (Same.new hT)
      have hfT : fo ≠ T := ne_of_none hk hT
      refine ⟨T, _, rfl, SqT.of upd_same, rfl, _, _, rfl, _, _, rfl, rfl, ?_⟩
      -- places = []
      refine ⟨Nat.zero_le _, fun pl hpl => ?_⟩
      have hplH : H pl = none := s3.free hpl
      have s4 : Same H (upd (upd H2 T (.tup [.int (i : Nat), .ref b1])) pl (.lst [])) := s3.trans (Same.new hpl)
      have hfp : fo ≠ pl := ne_of_none (by rw [upd_ne hfT]; exact hk) hpl
      have hkey : (ks L M)[i]? = some (kl l 0 m) := by
        rw [ks_at, hm]
        show some (kl (L.getD i []) 0 m) = _
        rw [getD_of hl]
      have hml : m.length ≤ 1000 := hl1000 m (List.mem_of_getElem? hm)
      -- the inner loop: both ends come to this
      refine ⟨fun σ' H' => ∃ (v6 : Option V) (ps : List Nat), σ' = [some (.ref a), some (.ref b), some (.ref fo), some (.int (i : Nat)), some (.ref b1), some (.ref pl), v6] ∧ Same H H' ∧ H' fo = some (.lst (natV ((ks L M).take i))) ∧ H' pl = some (.lst (natV ps)) ∧ ps.length = kl l 0 m, ?_, ?_⟩
      · refine ⟨_, rfl, b1, rfl, ⟨_, s4.tup hbm⟩, for_tup (K := K) (a := b1) (xs := m.map V.int) (fun j σ H3 => ∃ (v6 : Option V) (ps : List Nat) (lo : Nat),
          σ = [some (.ref a), some (.ref b), some (.ref fo), some (.int (i : Nat)), some (.ref b1), some (.ref pl), v6] ∧ Same H H3 ∧ H3 fo = some (.lst (natV ((ks L M).take i))) ∧ H3 pl = some (.lst (natV ps)) ∧
          ps.length = j ∧ (ps = [] ∧ lo = 0 ∨ ∃ r, ps = r ++ [lo]) ∧ kl l 0 m = j + kl l lo (m.drop j))
          ⟨v6, [], 0, rfl, s4, by rw [upd_ne hfp, upd_ne hfT]; exact hk, upd_same, rfl, .inl ⟨rfl, rfl⟩, by simp⟩ (fun j σ H3 _ ⟨_, _, _, _, s5, _⟩ => s5.tup hbm) ?_ ?_⟩
        · rintro j y σ H3 hy ⟨v6', ps, lo, rfl, s5, hf3, hp3, hpj, hlo, hkl⟩
          obtain ⟨n, hn, rfl⟩ := int_at hy
          have hjm : j < m.length := (List.getElem?_eq_some_iff.mp hn).1
          have hdrop : m.drop j = n :: m.drop (j + 1) := by
            have e3 := (List.getElem?_eq_some_iff.mp hn).2
            rw [← e3, ← List.drop_eq_getElem_cons hjm]
          rw [hdrop] at hkl
          have hH3 : Hard H3 a1 (l.map V.int) := hH.same s5
          -- person not in one[counter]
          refine ⟨_, rfl, _, rfl, _, rfl, a, _, (i : Int), _, rfl, rfl, s5.tup ha, atI_nat (at_ref ha1), a1, _, rfl, .inr hH3.sq, rfl, flat_ints l, !decide (n ∈ l), congrArg V.bl (congrArg not (inV_int n l)), ?_⟩
          by_cases hnl : n ∈ l
          · refine ifF (by rw [decide_eq_true hnl]; rfl) ?_
            -- places != []
            refine ⟨_, rfl, Nat.zero_le _, fun e he => ?_⟩
            have hne : pl ≠ e := ne_of_none hp3 he
            have hfe : fo ≠ e := ne_of_none hf3 he
            have s6 : Same H (upd H3 e (.lst [])) := s5.trans (Same.new he)
            have he4 : (upd H3 e (.lst [])) e = some (.lst []) := upd_same
            have hp4 : (upd H3 e (.lst [])) pl = some (.lst (natV ps)) := by rw [upd_ne hne]; exact hp3
            have hf4 : (upd H3 e (.lst [])) fo = some (.lst (natV ((ks L M).take i))) := by rw [upd_ne hfe]; exact hf3
            have hH4 : Hard (upd H3 e (.lst [])) a1 (l.map V.int) := hH.same s6
            generalize upd H3 e (.lst []) = H4 at s6 he4 hp4 hf4 hH4
            refine ⟨.list ((ps.map fun k => ((k : Nat) : Int)).map PyData.int), .list (([] : List Int).map PyData.int), .lst (SqL.of hp4) (dp_ints _ _), ?_, shapedL _, shapedL _, !decide (ps = []), congrArg V.bl (congrArg not ?_), ?_⟩
            · exact .lst (SqL.of he4) .nil
            · show PyData.eqvAll ((ps.map fun k => ((k : Nat) : Int)).map PyData.int) (([] : List Int).map PyData.int) = _
              rw [eqv_ints]
              cases ps <;> simp
            · have hj1000 : ps.length < 1000 := by omega
              -- one more that is kept
              have more : lo ≤ l.idxOf n → ∀ H5, Same H H5 → H5 fo = some (.lst (natV ((ks L M).take i))) → H5 pl = some (.lst (natV ps ++ [.int ((l.idxOf n : Nat) : Int)])) → ∃ (v6 : Option V) (ps : List Nat) (lo : Nat),
                  ([some (.ref a), some (.ref b), some (.ref fo), some (.int (i : Nat)), some (.ref b1), some (.ref pl), some (.int n)] : L2.St) = [some (.ref a), some (.ref b), some (.ref fo), some (.int (i : Nat)), some (.ref b1), some (.ref pl), v6] ∧ Same H H5 ∧ H5 fo = some (.lst (natV ((ks L M).take i))) ∧ H5 pl = some (.lst (natV ps)) ∧
                  ps.length = j + 1 ∧ (ps = [] ∧ lo = 0 ∨ ∃ r, ps = r ++ [lo]) ∧ kl l 0 m = j + 1 + kl l lo (m.drop (j + 1)) := fun hge H5 t5 f5 p5 => by
                refine ⟨some (.int n), ps ++ [l.idxOf n], l.idxOf n, rfl, t5, f5, by rw [← natV_snoc]; exact p5, by simp [hpj], .inr ⟨ps, rfl⟩, ?_⟩
                rw [hkl, kl_yes hnl hge]
                omega
              rcases hlo with ⟨e1, e2⟩ | ⟨r, er⟩
              · refine ifF (by rw [decide_eq_true e1]; rfl) (iteF ⟨_, rfl, .inl ⟨rfl, _, SqL.of hp4⟩, _, rfl, _, rfl, a, _, (i : Int), _, rfl, rfl, s6.tup ha, atI_nat (at_ref ha1), ⟨a1, _, rfl, hH4⟩, _, rfl, a1, l, n, rfl, rfl, hH4.sq, hnl,
                  pl, _, _, rfl, rfl, hp4, by rw [natV_len]; exact small1000 (by omega), ?_⟩)
                exact more (by omega) _ (s6.put hplH) (by rw [upd_ne hfp]; exact hf4) upd_same
              · have hps : ps ≠ [] := by rw [er]; simp
                have hlast : atI (natV ps) (-1) = some (.int ((lo : Nat) : Int)) := by
                  rw [er, ← natV_snoc]
                  exact atI_last _ _
                refine ifT (by rw [decide_eq_false hps]; rfl) ⟨_, rfl, _, rfl, a, _, (i : Int), _, rfl, rfl, s6.tup ha, atI_nat (at_ref ha1), ⟨a1, _, rfl, hH4⟩, _, rfl, a1, l, n, rfl, rfl, hH4.sq, hnl, _, rfl, 1, rfl, pl, _, _, _, rfl, rfl, SqL.of hp4, hlast, _, _, rfl, rfl, decide (((l.idxOf n : Nat) : Int) < ((lo : Nat) : Int)), rfl, ?_⟩
                by_cases hge : lo ≤ l.idxOf n
                · refine ifF (decide_eq_false (by omega)) ⟨_, rfl, .inl ⟨rfl, _, SqL.of hp4⟩, _, rfl, _, rfl, a, _, (i : Int), _, rfl, rfl, s6.tup ha, atI_nat (at_ref ha1), ⟨a1, _, rfl, hH4⟩, _, rfl, a1, l, n, rfl, rfl, hH4.sq, hnl,
                    pl, _, _, rfl, rfl, hp4, by rw [natV_len]; exact small1000 (by omega), ?_⟩
                  exact more hge _ (s6.put hplH) (by rw [upd_ne hfp]; exact hf4) upd_same
                · refine ifT (decide_eq_true (by omega)) ?_
                  refine ⟨some (.int n), ps, rfl, s6, hf4, hp4, ?_⟩
                  rw [hkl, kl_no fun z => hge z.2, hpj]
                  rfl
          · refine ifT (by rw [decide_eq_false hnl]; rfl) (iteT ?_)
            refine ⟨some (.int n), ps, rfl, s5, hf3, hp3, ?_⟩
            rw [hkl, kl_no fun z => hnl z.1, hpj]
            rfl
        · rintro σ H3 ⟨v6', ps, lo, rfl, s5, hf3, hp3, hpj, hlo, hkl⟩
          refine ⟨v6', ps, rfl, s5, hf3, hp3, ?_⟩
          rw [hkl, List.drop_of_length_le (l := m) (by rw [List.length_map]; exact Nat.le_refl _), kl_nil, hpj]
          rfl
      · rintro σ' H' ⟨v6', ps, rfl, s5, hf3, hp3, hps⟩
        have hplfo : (natV ((ks L M).take i)).length ≤ 1000 := by
          rw [natV_len, List.length_take]
          omega
        refine ⟨_, rfl, .inl ⟨rfl, _, SqL.of hf3⟩, _, rfl, pl, _, rfl, .inl (SqL.of hp3), fo, _, _, rfl, rfl, hf3, small1000 hplfo, some (.int (i : Nat)), some (.ref b1), some (.ref pl), v6', rfl, s5.put hfo, ?_⟩
        rw [upd_same, natV_len, hps, natV_snoc, List.take_add_one, hkey]
        rfl
    · rintro σ H2 ⟨v3, v4, v5, v6, rfl, s2, hk⟩
      have e : (ks L M).take (bs.map V.ref).length = ks L M := List.take_of_length_le (by
        unfold ks
        rw [List.length_mapIdx, List.length_map, hM.1]
        exact Nat.le_refl _)
      rw [e] at hk
      exact ⟨_, rfl, q H2 fo s2 hfo hk⟩
/-! ### kept -/
def spKep (K : PySem.W.Frag) : Sp := fun vs H Q _ => ∃ (o a b : Addr) (p c : Nat) (L M : List (List Int)), vs = [.ref o, .ref a, .ref b] ∧ OfAt K H o p c ∧ Fine p c ∧ HardAt K H a L ∧ Stt p c L ∧ StAt K H b M ∧ Stt p c M ∧
  ∀ H' r, Same H H' → SqT K H' r (natV (ks L M)) → Q (.ref r) H'
theorem scKep : FnScope ["office", "one", "other"] ["office", "one", "other"] (defScope sKep) := ⟨rfl, rfl, rfl, by decide +kernel, rfl, by decide +kernel, by decide +kernel⟩
theorem fine_len {p c : Nat} {L : List (List Int)} (f : Fine p c) (S : Stt p c L) : L.length ≤ 1000 ∧ ∀ l ∈ L, l.length ≤ 1000 := by
  obtain ⟨f1, f2, f3, f4⟩ := f
  refine ⟨by rw [S.len]; omega, fun l hl => ?_⟩
  obtain ⟨j, hj⟩ := List.mem_iff_getElem?.mp hl
  have := line_le S hj
  omega
theorem ok_kep (B : Blt mg) (GS : Kept P w K mg base 4 "need_state" ["office", "state"] (spLns K)) (GN : Kept P w K mg base 3 "need_lines" ["office", "state"] (spLns K)) (GK : Kept P w K mg base 1 "kept_in" ["one", "other"] (spKin K))
    (D : Def K mg "kept" sKep ["office", "one", "other"]) : Kept P w K mg base 5 "kept" ["office", "one", "other"] (spKep K) := by
  refine kept_of D scKep (fun vs H Q E h => ?_) (fun _ _ f cdv A outer s H vs Q E hr h => ?_)
  · obtain ⟨o, a, b, p, c, L, M, rfl, _⟩ := h; rfl
  · obtain ⟨o, a, b, p, c, L, M, rfl, ho, fi, ha, SL, hb, SM, q⟩ := h
    refine ⟨_, pss_cons (ps_expr (pe_use GS hr (by rfl) (pa_cons (pv 0) (pa_cons (pv 1) pa_nil)))) <| pss_cons (ps_expr (pe_use GN (hr.mono (by decide)) (by rfl) (pa_cons (pv 0) (pa_cons (pv 2) pa_nil)))) <|
      pss_one (ps_ret (pe_callTy call_tuple_of (by rfl) B.tuple (by decide +kernel) (pa_cons (pe_use GK (hr.mono (by decide)) (by rfl) (pa_cons (pv 1) (pa_cons (pv 2) pa_nil))) pa_nil))), ?_⟩
    refine ⟨_, rfl, _, rfl, o, a, p, c, L, rfl, ho, fi, ha.st, SL, fun H1 s1 => ?_⟩
    refine ⟨_, rfl, _, rfl, o, b, p, c, M, rfl, ho.same s1, fi, hb.same s1, SM, fun H2 s2 => ?_⟩
    have s12 := s1.trans s2
    obtain ⟨f1, f2⟩ := fine_len fi SM
    refine ⟨_, rfl, _, rfl, a, b, L, M, rfl, ha.same s12, hb.same s12, by rw [SM.len, SL.len], f1, f2, fun H3 r s3 hr3 e3 => ?_⟩
    exact ⟨r, _, rfl, .inl ⟨SqL.of e3, fun l hl => q _ l ((s12.trans s3).trans (Same.new hl)) (SqT.of upd_same)⟩⟩
end
end Cl
set_option Elab.async false
set_option linter.all false
set_option maxRecDepth 100000
set_option maxHeartbeats 4000000
/-! The walks of steps_of, chains_in. -/
namespace Cl
open PySem PySem.Spec PyProof.Rows L2
abbrev sStp : Stmt := top 22
abbrev sChn : Stmt := top 23

/-! ### slices and sums of tuples, whatever object they are -/
def rSlD (K : PySem.W.Frag) : V → Option Int → Option Int → Hp → VK → Prop := fun x lo hi H Q => ∃ a xs, x = .ref a ∧ SqT K H a xs ∧ ∀ H' p, Same H H' → SqT K H' p (cutV xs lo hi) → Q (.ref p) H'
def rCatD (K : PySem.W.Frag) : R2 := fun x y H Q => ∃ a b xs ys, x = .ref a ∧ y = .ref b ∧ SqT K H a xs ∧ SqT K H b ys ∧ xs.length + ys.length ≤ sizeLine ∧ ∀ H' p, Same H H' → SqT K H' p (xs ++ ys) → Q (.ref p) H'
section
variable {X : Cx}
theorem sl_tupD : SlR X (rSlD X.K) := by
  intro pins s σ H x v vl vu lo hi sl Q I rx hs pl pu h
  obtain ⟨a, xs, rfl, hx, q⟩ := h
  refine sl_tupA pins s σ H (.ref a) v vl vu lo hi sl Q I rx hs pl pu ⟨a, xs, rfl, hx, fun e => q H a (Same.refl H) ?_, fun _ p hp => q _ p (Same.new hp) (SqT.of upd_same)⟩
  have e1 : cutV xs lo hi = xs := by
    unfold cutV
    rw [e.1, e.2, List.drop_zero, Nat.sub_zero, List.take_length]
  rw [e1]
  exact hx
theorem op_catD : OpR X (binaryOp .Add) (rCatD X.K) := by
  intro pins s σ H x y v u Q I rx ry h
  obtain ⟨a, b, xs, ys, rfl, rfl, hx, hy, hz, q⟩ := h
  refine op_catA pins s σ H (.ref a) (.ref b) v u Q I rx ry ⟨a, b, xs, ys, rfl, rfl, hx, hy, hz, fun e => q H b (Same.refl H) (by rw [e]; exact hy), fun _ e => q H a (Same.refl H) (by rw [e, List.append_nil]; exact hx), fun _ _ p hp => q _ p (Same.new hp) (SqT.of upd_same)⟩
end
theorem cut_drop {xs : List V} {k : Nat} : cutV xs (some (k : Int)) none = xs.drop k := by
  unfold cutV
  rw [HT.sIx_nat, HT.sIx_none]
  by_cases h : k ≤ xs.length
  · rw [Nat.min_eq_left h, List.take_of_length_le (by rw [List.length_drop]; exact Nat.le_refl _)]
  · rw [Nat.min_eq_right (by omega), Nat.sub_self, List.take_zero, List.drop_of_length_le (by omega)]
theorem cut_take {xs : List V} {k : Nat} : cutV xs none (some (k : Int)) = xs.take k := by
  unfold cutV
  rw [HT.sIx_nat, HT.sIx_none, List.drop_zero, Nat.sub_zero]
  by_cases h : k ≤ xs.length
  · rw [Nat.min_eq_left h]
  · rw [Nat.min_eq_right (by omega), List.take_length, List.take_of_length_le (by omega)]

/-! ### chains on the heap -/
def ChAt (Z : Addr → Prop) (H : Hp) (c : Addr) (ps : List (Int × Int)) : Prop :=
  Z c ∧ ∃ ts : List Addr, H c = some (.lst (ts.map V.ref)) ∧ ts.length = ps.length ∧ ∀ (i : Nat) (t : Addr) (x : Int × Int), ts[i]? = some t → ps[i]? = some x → Z t ∧ H t = some (.tup [.int x.1, .int x.2])
def ChsAt (H : Hp) (p : Addr) (css : List (List (Int × Int))) : Prop :=
  ∃ cs : List Addr, H p = some (.lst (cs.map V.ref)) ∧ cs.length = css.length ∧ ∀ (i : Nat) (c : Addr) (ps : List (Int × Int)), cs[i]? = some c → css[i]? = some ps → ChAt (fun b => b ≠ p) H c ps
theorem ChAt.keep {Z : Addr → Prop} {H H' : Hp} {c : Addr} {ps : List (Int × Int)} (h : ChAt Z H c ps) (e : ∀ b o, Z b → H b = some o → H' b = some o) : ChAt Z H' c ps := by
  obtain ⟨z, ts, h1, h2, h3⟩ := h
  exact ⟨z, ts, e _ _ z h1, h2, fun i t x a b => ⟨(h3 i t x a b).1, e _ _ (h3 i t x a b).1 (h3 i t x a b).2⟩⟩
theorem ChsAt.same {H H' : Hp} {p : Addr} {css : List (List (Int × Int))} (e : Same H H') (h : ChsAt H p css) : ChsAt H' p css := by
  obtain ⟨cs, h1, h2, h3⟩ := h
  exact ⟨cs, e _ _ h1, h2, fun i c ps a b => (h3 i c ps a b).keep fun b o _ q => e b o q⟩
section
variable {P : Program} {w : World} {K : PySem.W.Frag} {mg : Str → Option Value} {base : Heap}
/-! ### steps_of -/
def spStp (K : PySem.W.Frag) : Sp := fun vs H Q _ => ∃ (a b : Addr) (n : Int) (c : Nat) (L M : List (List Int)), vs = [.ref a, .ref b, .int n] ∧ StAt K H a L ∧ StAt K H b M ∧ L.flatten.Nodup ∧ M.flatten.Nodup ∧ n ∈ L.flatten ∧ n ∈ M.flatten ∧ L.length = c ∧ 0 < c ∧ c ≤ 1000 ∧ M.length ≤ 1000 ∧
  ∀ H', Same H H' → Q (.int (stp c L (cof M n) n)) H'
theorem scStp : FnScope ["one", "other", "person"] ["one", "other", "person"] (defScope sStp) := ⟨rfl, rfl, rfl, by decide +kernel, rfl, by decide +kernel, by decide +kernel⟩
theorem ok_stp (B : Blt mg) (GC : Kept P w K mg base 1 "counter_of" ["state", "person"] (spCof K)) (D : Def K mg "steps_of" sStp ["one", "other", "person"]) : Kept P w K mg base 2 "steps_of" ["one", "other", "person"] (spStp K) := by
  refine kept_of D scStp (fun vs H Q E h => ?_) (fun _ _ f cdv A outer s H vs Q E hr h => ?_)
  · obtain ⟨a, b, n, c, L, M, rfl, _⟩ := h; rfl
  · obtain ⟨a, b, n, c, L, M, rfl, ha, hb, nL, nM, mL, mM, hc, h0, h1, h2, q⟩ := h
    refine ⟨_, pss_one (ps_ret (pe_op op_mod (pe_op op_sub (pe_use GC hr (by rfl) (pa_cons (pv 1) (pa_cons (pv 2) pa_nil))) (pe_use GC hr (by rfl) (pa_cons (pv 0) (pa_cons (pv 2) pa_nil)))) (pe_callB call_len_seq (by rfl) B.len PySem.boot_len (pa_cons (pv 0) pa_nil)))), ?_⟩
    refine ⟨_, rfl, _, rfl, b, n, M, rfl, hb, nM, mM, h2, fun H1 s1 => ⟨_, rfl, _, rfl, a, n, L, rfl, ha.same s1, nL, mL, by omega, fun H2 s2 => ?_⟩⟩
    obtain ⟨as, ha', hL⟩ := ha.same (s1.trans s2)
    have hl : ((as.map V.ref).length : Int) = c := by rw [List.length_map, hL.1, hc]
    refine ⟨_, _, rfl, rfl, _, rfl, a, _, rfl, .inr ha', _, _, rfl, rfl, by rw [hl]; omega, ?_⟩
    rw [hl]
    exact q H2 (s1.trans s2)
/-! ### chains_in -/
def spChn (K : PySem.W.Frag) : Sp := fun vs H Q _ => ∃ (a b m : Addr) (p c : Nat) (L M : List (List Int)), vs = [.ref a, .ref b, .ref m] ∧ StAt K H a L ∧ StAt K H b M ∧ H m = some (.lst (natV (ks L M))) ∧ Stt p c L ∧ Stt p c M ∧ Fine p c ∧
  ∀ H' r, Same H H' → ChsAt H' r (chs c L M) → Q (.ref r) H'
theorem scChn : FnScope ["one", "other", "many", "found", "line", "first", "chain", "person", "steps"] ["one", "other", "many"] (defScope sChn) := ⟨rfl, rfl, rfl, by decide +kernel, rfl, by decide +kernel, by decide +kernel⟩
theorem ok_chn (B : Blt mg) (GS : Kept P w K mg base 2 "steps_of" ["one", "other", "person"] (spStp K)) (D : Def K mg "chains_in" sChn ["one", "other", "many"]) : Kept P w K mg base 3 "chains_in" ["one", "other", "many"] (spChn K) := by
  refine kept_of D scChn (fun vs H Q E h => ?_) (fun _ _ f cdv A outer s H vs Q E hr h => ?_)
  · obtain ⟨a, b, m, p, c, L, M, rfl, _⟩ := h; rfl
  · obtain ⟨a, b, m, p, c, L, M, rfl, ha, ⟨bs, hb, hM⟩, hm, SL, SM, ⟨f1, f2, f3, f4⟩, q⟩ := h
    refine ⟨_, pss_cons (ps_set (i := 3) scChn.nd rfl (.inl rfl) (pe_lst pa_nil)) <|
      pss_cons (ps_for PassesOwn.never rfl (pi_zipM (by rfl) B.zip (pa_cons (pv 1) (pa_cons (pv 2) pa_nil))) (pg_tup rfl (pgs_cons (pg_name (i := 4) scChn.nd rfl (.inl rfl)) (pgs_cons (pg_name (i := 5) scChn.nd rfl (.inl rfl)) pgs_nil))) <|
        pss_cons (ps_set (i := 6) scChn.nd rfl (.inl rfl) (pe_lst pa_nil)) <|
        pss_cons (ps_for PassesOwn.never rfl (pi_tup (pe_slice sl_tupD (pv 4) (po_some (pv 5)) po_none)) (pg_name (i := 7) scChn.nd rfl (.inl rfl)) <|
          pss_cons (ps_set (i := 8) scChn.nd rfl (.inl rfl) (pe_use GS hr (by rfl) (pa_cons (pv 0) (pa_cons (pv 1) (pa_cons (pv 7) pa_nil))))) <|
          pss_one (ps_expr (pe_bm PySem.F.plainAttrs_list PySem.F.slot_list_append PySem.F.type_list_append mt_append (pv 6)
            (pa_cons (pe_tup (pa_cons (pv 7) (pa_cons (pe_ifExp (pt_cmpR op_gt (pv 8) pe_int (nomark _)) (pv 8) (pe_callB call_len_seq (by rfl) B.len PySem.boot_len (pa_cons (pv 0) pa_nil))) pa_nil))) pa_nil)))) <|
        pss_one (ps_expr (pe_bm PySem.F.plainAttrs_list PySem.F.slot_list_append PySem.F.type_list_append mt_append (pv 3) (pa_cons (pv 6) pa_nil)))) <|
      pss_one (ps_ret (pv 3)), ?_⟩
    -- found = []
    refine ⟨Nat.zero_le _, fun fo hfo => ?_⟩
    have s0 : Same H (upd H fo (.lst [])) := Same.new hfo
    have hkl : (ks L M).length = M.length := by unfold ks; rw [List.length_mapIdx]
    have hlen : (bs.map V.ref).length = (natV (ks L M)).length := by rw [natV_len, hkl, List.length_map, hM.1]
    refine ⟨_, rfl, _, rfl, b, m, _, _, rfl, s0.tup hb, SqL.of (s0 _ _ hm), for_zipM (K := K) hlen (fun i σ H2 => ∃ (v4 v5 v6 v7 v8 : Option V) (cs : List Addr),
      σ = [some (.ref a), some (.ref b), some (.ref m), some (.ref fo), v4, v5, v6, v7, v8] ∧ Same H H2 ∧ H2 fo = some (.lst (cs.map V.ref)) ∧ cs.length = i ∧
      ∀ (j : Nat) (e : Addr) (ps : List (Int × Int)), cs[j]? = some e → (chs c L M)[j]? = some ps → ChAt (fun b => b ≠ fo) H2 e ps)
      ⟨none, none, none, none, none, [], rfl, s0, upd_same, rfl, fun j e ps z => by simp at z⟩ (fun i σ H2 ⟨_, _, _, _, _, _, _, s2, _⟩ => ⟨s2.tup hb, SqL.of (s2 _ _ hm)⟩) ?_ ?_⟩
    · rintro i y z T σ H2 hy hz ⟨v4, v5, v6, v7, v8, cs, rfl, s2, hk, hcs, hch⟩ hT
      obtain ⟨b1, hb1, rfl⟩ := ref_at hy
      obtain ⟨l, hl, hbl⟩ := hM.back hb1
      have hiM : i < M.length := (List.getElem?_eq_some_iff.mp hl).1
      have hiL : i < L.length := by rw [SL.len, ← SM.len]; exact hiM
      have hl0 : L[i]? = some L[i] := List.getElem?_eq_getElem hiL
      generalize L[i] = l0 at hl0
      have hkey : (ks L M)[i]? = some (kl l0 0 l) := by
        rw [ks_at, hl]
        show some (kl (L.getD i []) 0 l) = _
        rw [getD_of hl0]
      have hz' : z = .int ((kl l0 0 l : Nat) : Int) := by
        have e1 : (natV (ks L M))[i]? = some (.int ((kl l0 0 l : Nat) : Int)) := by
          unfold natV
          rw [List.getElem?_map, List.getElem?_map, hkey]
          rfl
        rw [e1] at hz
        exact (Option.some.inj hz).symm
      subst hz'
      have hcki : (chs c L M)[i]? = some (chn c L i l (kl l0 0 l)) := by
        rw [chs_at, hl]
        show some (chn c L i l (kl (L.getD i []) 0 l)) = _
        rw [getD_of hl0]
      have hfT : fo ≠ T := ne_of_none hk hT
      refine ⟨T, _, rfl, SqT.of upd_same, rfl, _, _, rfl, _, _, rfl, rfl, ?_⟩
      have s3 : Same H2 (upd H2 T (.tup [.ref b1, .int ((kl l0 0 l : Nat) : Int)])) := Same.new hT
      generalize upd H2 T (.tup [.ref b1, .int ((kl l0 0 l : Nat) : Int)]) = H3 at s3
      -- chain = []
      refine ⟨Nat.zero_le _, fun ch hch3 => ?_⟩
      have hfo3 := s3 _ _ hk
      have s4 : Same H3 (upd H3 ch (.lst [])) := Same.new hch3
      have hfc : fo ≠ ch := ne_of_none hfo3 hch3
      refine ⟨_, rfl, _, rfl, _, rfl, b1, _, rfl, s4.tup (s3.tup (s2.tup hbl)), fun H5 sl s5 hsl => ?_⟩
      rw [cut_drop, ← List.map_drop] at hsl
      generalize hrest : l.drop (kl l0 0 l) = rest at hsl
      have hch5 : H5 ch = some (.lst []) := s5 _ _ upd_same
      have s35 : Same H3 H5 := s4.trans s5
      have hrl : rest.length ≤ 1000 := by
        have h1 := line_le SM hl
        rw [← hrest, List.length_drop]
        omega
      refine ⟨sl, rfl, ⟨_, hsl⟩, for_tup (K := K) (a := sl) (xs := rest.map V.int) (fun j σ H6 => ∃ (v7 v8 : Option V) (ts : List Addr),
        σ = [some (.ref a), some (.ref b), some (.ref m), some (.ref fo), some (.ref b1), some (.int ((kl l0 0 l : Nat) : Int)), some (.ref ch), v7, v8] ∧ Same H3 H6 ∧ SqT K H6 sl (rest.map V.int) ∧ H6 ch = some (.lst (ts.map V.ref)) ∧ ts.length = j ∧
        ∀ (j' : Nat) (t : Addr) (n : Int), ts[j']? = some t → rest[j']? = some n → (t ≠ fo ∧ t ≠ ch) ∧ H6 t = some (.tup [.int n, .int (cst c L i n)]))
        ⟨v7, v8, [], rfl, s35, hsl, hch5, rfl, fun j' t n z => by simp at z⟩ (fun j σ H6 _ ⟨_, _, _, _, _, h6, _⟩ => h6) ?_ ?_⟩
      · rintro j y σ H6 hy ⟨v7', v8', ts, rfl, s6, h6, hc6, htl, hts⟩
        obtain ⟨n, hn, rfl⟩ := int_at hy
        have hnl : n ∈ l := by
          have : n ∈ rest := List.mem_of_getElem? hn
          rw [← hrest] at this
          exact List.mem_of_mem_drop this
        have hnM : n ∈ M.flatten := mem_flat hl hnl
        have hnL : n ∈ L.flatten := SL.perm.mem_iff.mpr (SM.perm.mem_iff.mp hnM)
        have hcof : cof M n = i := cof_at SM.nd hl hnl
        have s06 : Same H H6 := (s2.trans s3).trans s6
        -- steps = steps_of(one, other, person)
        refine ⟨_, rfl, _, rfl, _, rfl, a, b, n, c, L, M, rfl, ha.same s06, ⟨bs, s06.tup hb, hM.same s06⟩, SL.nd, SM.nd, hnL, hnM, SL.len, by omega, by omega, by rw [SM.len]; omega, fun H7 s7 => ?_⟩
        rw [hcof]
        have hc7 := s7 _ _ hc6
        have h7 : SqT K H7 sl (rest.map V.int) := s7.tup h6
        refine ⟨_, rfl, .inl ⟨rfl, _, SqL.of hc7⟩, _, rfl, ?_⟩
        -- the pair's second part
        have pair : ∀ v2 : Int, v2 = cst c L i n → ∀ t, H7 t = none → (∃ (v7 v8 : Option V) (ts' : List Addr),
            ([some (.ref a), some (.ref b), some (.ref m), some (.ref fo), some (.ref b1), some (.int ((kl l0 0 l : Nat) : Int)), some (.ref ch), some (.int n), some (.int (stp c L i n))] : L2.St) = [some (.ref a), some (.ref b), some (.ref m), some (.ref fo), some (.ref b1), some (.int ((kl l0 0 l : Nat) : Int)), some (.ref ch), v7, v8] ∧
            Same H3 (upd (upd H7 t (.tup [.int n, .int v2])) ch (.lst (ts.map V.ref ++ [.ref t]))) ∧ SqT K (upd (upd H7 t (.tup [.int n, .int v2])) ch (.lst (ts.map V.ref ++ [.ref t]))) sl (rest.map V.int) ∧
            (upd (upd H7 t (.tup [.int n, .int v2])) ch (.lst (ts.map V.ref ++ [.ref t]))) ch = some (.lst (ts'.map V.ref)) ∧ ts'.length = j + 1 ∧
            ∀ (j' : Nat) (t' : Addr) (n' : Int), ts'[j']? = some t' → rest[j']? = some n' → (t' ≠ fo ∧ t' ≠ ch) ∧ (upd (upd H7 t (.tup [.int n, .int v2])) ch (.lst (ts.map V.ref ++ [.ref t]))) t' = some (.tup [.int n', .int (cst c L i n')])) := fun v2 hv2 t ht => by
          have htc : ch ≠ t := ne_of_none hc7 ht
          have htf : fo ≠ t := ne_of_none (s7 _ _ (s6 _ _ hfo3)) ht
          refine ⟨some (.int n), some (.int (stp c L i n)), ts ++ [t], rfl, ?_, ?_, by rw [upd_same, List.map_append]; rfl, by rw [List.length_append, htl]; rfl, fun j' t' n' e1 e2 => ?_⟩
          · exact ((s6.trans s7).trans (Same.new ht)).put hch3
          · have h8 : SqT K (upd H7 t (.tup [.int n, .int v2])) sl (rest.map V.int) := (Same.new ht).tup h7
            rcases h8 with (h8 | ⟨ob, h8⟩) | h8
            · refine .inl (.inl ?_)
              rw [upd_ne (ne_of h8 (by rw [upd_ne htc]; exact hc7) (by intro z; cases z))]
              exact h8
            · refine .inl (.inr ⟨ob, ?_⟩)
              rw [upd_ne (ne_of h8 (by rw [upd_ne htc]; exact hc7) (by intro z; cases z))]
              exact h8
            · exact .inr h8
          · by_cases hj' : j' < ts.length
            · rw [List.getElem?_append_left hj'] at e1
              obtain ⟨⟨z1, z2⟩, z3⟩ := hts j' t' n' e1 e2
              have z4 := s7 _ _ z3
              refine ⟨⟨z1, z2⟩, ?_⟩
              rw [upd_ne z2, upd_ne (ne_of_none z4 ht)]
              exact z4
            · have hj2 : j' = ts.length := by
                have := (List.getElem?_eq_some_iff.mp e1).1
                rw [List.length_append] at this
                have h1 : ([t] : List Addr).length = 1 := rfl
                omega
              subst hj2
              rw [List.getElem?_append_right (Nat.le_refl _), Nat.sub_self] at e1
              have e3 : t = t' := Option.some.inj e1
              subst e3
              rw [htl, hn] at e2
              have e4 : n = n' := Option.some.inj e2
              subst e4
              refine ⟨⟨htf.symm, htc.symm⟩, ?_⟩
              rw [upd_ne htc.symm, upd_same, hv2]
        have hjlt : (ts.map V.ref).length < sizeLine := by
          rw [List.length_map, htl]
          have : j < rest.length := (List.getElem?_eq_some_iff.mp hn).1
          exact small1000 (by omega)
        refine ⟨_, rfl, _, _, rfl, rfl, decide ((0 : Int) < stp c L i n), rfl, ?_⟩
        by_cases hpos : stp c L i n > 0
        · refine ifT (decide_eq_true hpos) ⟨_, rfl, by show 2 ≤ sizeLine; decide, fun t ht => ⟨ch, _, _, rfl, rfl, by rw [upd_ne (ne_of_none hc7 ht)]; exact hc7, hjlt, ?_⟩⟩
          exact pair _ (by unfold cst; rw [if_pos hpos]) t ht
        · obtain ⟨as, ha', hL⟩ := ha.same (s06.trans s7)
          refine ifF (decide_eq_false hpos) ⟨_, rfl, a, _, rfl, .inr ha', by show 2 ≤ sizeLine; decide, fun t ht => ⟨ch, _, _, rfl, rfl, by rw [upd_ne (ne_of_none hc7 ht)]; exact hc7, hjlt, ?_⟩⟩
          exact pair _ (by unfold cst; rw [if_neg hpos, List.length_map, hL.1, SL.len]) t ht
      · rintro σ H6 ⟨v7', v8', ts, rfl, s6, h6, hc6, htl, hts⟩
        have hf6 := s6 _ _ hfo3
        have hclt : (cs.map V.ref).length < sizeLine := by
          rw [List.length_map, hcs]
          have := SM.len
          exact small1000 (by omega)
        refine ⟨_, rfl, .inl ⟨rfl, _, SqL.of hf6⟩, _, rfl, fo, _, _, rfl, rfl, hf6, hclt, some (.ref b1), some (.int ((kl l0 0 l : Nat) : Int)), some (.ref ch), v7', v8', cs ++ [ch], rfl, ((s2.trans s3).trans s6).put hfo, by rw [upd_same, List.map_append]; rfl, by rw [List.length_append, hcs]; rfl, fun j e ps e1 e2 => ?_⟩
        by_cases hj : j < cs.length
        · rw [List.getElem?_append_left hj] at e1
          refine (hch j e ps e1 e2).keep fun b' o z1 z2 => ?_
          rw [upd_ne z1]
          exact s6 _ _ (s3 _ _ z2)
        · have hj2 : j = cs.length := by
            have := (List.getElem?_eq_some_iff.mp e1).1
            rw [List.length_append] at this
            have h1 : ([ch] : List Addr).length = 1 := rfl
            omega
          subst hj2
          rw [List.getElem?_append_right (Nat.le_refl _), Nat.sub_self] at e1
          have e3 : ch = e := Option.some.inj e1
          subst e3
          rw [hcs, hcki] at e2
          have e4 : chn c L i l (kl l0 0 l) = ps := Option.some.inj e2
          subst e4
          have hrl2 : rest.length = ts.length := by rw [htl, List.length_map]
          refine ⟨hfc.symm, ts, by rw [upd_ne hfc.symm]; exact hc6, by unfold chn; rw [List.length_map, hrest]; exact hrl2.symm, fun j' t x e5 e6 => ?_⟩
          unfold chn at e6
          rw [hrest, List.getElem?_map] at e6
          cases hr' : rest[j']? with
          | none => rw [hr'] at e6; cases e6
          | some n =>
            rw [hr'] at e6
            have e7 : (n, cst c L i n) = x := Option.some.inj e6
            subst e7
            obtain ⟨⟨z1, z2⟩, z3⟩ := hts j' t n e5 hr'
            exact ⟨z1, by rw [upd_ne z1]; exact z3⟩
    · rintro σ H2 ⟨v4, v5, v6, v7, v8, cs, rfl, s2, hk, hcs, hch⟩
      refine ⟨_, rfl, q H2 fo s2 ⟨cs, hk, ?_, hch⟩⟩
      rw [hcs, List.length_map, hM.1]
      unfold chs
      rw [List.length_mapIdx]
end
end Cl
set_option Elab.async false
set_option linter.all false
set_option maxRecDepth 100000
set_option maxHeartbeats 4000000
/-! The walks of distance_in, distance. -/
namespace Cl
open PySem PySem.Spec PyProof.Rows L2
abbrev sDin : Stmt := top 24
abbrev sDis : Stmt := top 25
theorem mapIdx_flat : ∀ (M : List (List Int)) (f : Nat → List Int → List (Int × Int)), (∀ j b, (f j b).length ≤ b.length) → (M.mapIdx f).flatten.length ≤ M.flatten.length
  | [], f, _ => Nat.le_refl _
  | a :: r, f, h => by
    rw [List.mapIdx_cons, List.flatten_cons, List.flatten_cons, List.length_append, List.length_append]
    have h1 := mapIdx_flat r (fun i => f (i + 1)) fun j b => h (j + 1) b
    have h2 := h 0 a
    omega
theorem chs_len (C : Nat) (L M : List (List Int)) : (chs C L M).flatten.length ≤ M.flatten.length := by
  unfold chs
  refine mapIdx_flat M _ fun j b => ?_
  unfold chn
  rw [List.length_map, List.length_drop]
  omega
theorem cts_take {css : List (List (Int × Int))} {i : Nat} {ps : List (Int × Int)} (h : css[i]? = some ps) : cts (css.take (i + 1)) = cts (css.take i) ++ ps.map (·.2) := by
  unfold cts
  rw [List.take_add_one, h, List.flatten_append, List.map_append]
  simp
theorem cts_le (css : List (List (Int × Int))) (i : Nat) (ps : List (Int × Int)) (h : css[i]? = some ps) (j : Nat) : (cts (css.take i) ++ (ps.take j).map (·.2)).length ≤ css.flatten.length := by
  have e1 : css = css.take i ++ (ps :: css.drop (i + 1)) := by
    have hi : i < css.length := (List.getElem?_eq_some_iff.mp h).1
    have e3 := (List.getElem?_eq_some_iff.mp h).2
    rw [← e3, ← List.drop_eq_getElem_cons hi, List.take_append_drop]
  conv => rhs; rw [e1]
  unfold cts
  rw [List.length_append, List.length_map, List.length_map, List.flatten_append, List.flatten_cons, List.length_append, List.length_append, List.length_take]
  omega
section
variable {P : Program} {w : World} {K : PySem.W.Frag} {mg : Str → Option Value} {base : Heap}
def spDin (K : PySem.W.Frag) : Sp := fun vs H Q _ => ∃ (a b : Addr) (p c : Nat) (L M : List (List Int)), vs = [.ref a, .ref b] ∧ HardAt K H a L ∧ StAt K H b M ∧ Stt p c L ∧ Stt p c M ∧ Fine p c ∧ ∀ H', Same H H' → Q (.int (dist c L M)) H'
theorem scDin : FnScope ["one", "other", "chain", "person", "count"] ["one", "other"] (defScope sDin) := ⟨rfl, rfl, rfl, by decide +kernel, rfl, by decide +kernel, by decide +kernel⟩
theorem ok_din (B : Blt mg) (GC : Kept P w K mg base 3 "chains_in" ["one", "other", "many"] (spChn K)) (GK : Kept P w K mg base 1 "kept_in" ["one", "other"] (spKin K)) (D : Def K mg "distance_in" sDin ["one", "other"]) : Kept P w K mg base 4 "distance_in" ["one", "other"] (spDin K) := by
  refine kept_of D scDin (fun vs H Q E h => ?_) (fun _ _ f cdv A outer s H vs Q E hr h => ?_)
  · obtain ⟨a, b, p, c, L, M, rfl, _⟩ := h; rfl
  · obtain ⟨a, b, p, c, L, M, rfl, ha, hb, SL, SM, fi, q⟩ := h
    refine ⟨_, pss_one (ps_ret (pe_callB (cr_sum rfl) (by rfl) B.sum (by decide +kernel) (pa_cons
      (pe_lc2 (own := [("chain", 2), ("person", 3), ("count", 4)]) (vs1 := [3, 4]) (g := gName 2) (g1 := gTup K 2 (gCons (gName 3) (gCons (gName 4) gNil))) (tt := tYes) (tt1 := tYes) (wi1 := iList K (tVar 2)) rfl scDin.nd
        (pi_list (pe_use GC hr (by rfl) (pa_cons (pv 0) (pa_cons (pv 1) (pa_cons (pe_use GK (hr.mono (by decide)) (by rfl) (pa_cons (pv 0) (pa_cons (pv 1) pa_nil))) pa_nil)))))
        (blkOk_by (N := ["one", "other", "chain", "person", "count"]) (sc := defScope sDin) (by decide +kernel)) (by decide)
        (fun _ _ _ _ _ => pg_name (i := 2) scDin.nd rfl (.inl rfl)) (fun _ _ _ _ _ => pts_nil) (fun _ _ _ _ _ => piL K (pv 2))
        (fun _ _ _ _ _ => pgT K rfl (pgs_cons (pg_name (i := 3) scDin.nd rfl (.inl rfl)) (pgs_cons (pg_name (i := 4) scDin.nd rfl (.inl rfl)) pgs_nil))) (fun _ _ _ _ _ => pts_nil) (fun _ _ _ _ _ => pv 4)) pa_nil))), ?_⟩
    obtain ⟨f1, f2⟩ := fine_len fi SM
    refine ⟨_, rfl, _, rfl, _, rfl, _, rfl, a, b, L, M, rfl, ha, hb, by rw [SM.len, SL.len], f1, f2, fun H1 m s1 hm0 hm => ?_⟩
    refine ⟨a, b, m, p, c, L, M, rfl, (ha.same s1).st, hb.same s1, hm, SL, SM, fi, fun H2 fo s2 hC => ?_⟩
    have s12 := s1.trans s2
    have hbig : (chs c L M).flatten.length ≤ 1000 := by
      have h1 := chs_len c L M
      have h2 : M.flatten.length = p := by rw [SM.perm.length_eq, ppl_len]
      have h3 := fi.2.1
      omega
    unfold dist at q
    generalize chs c L M = css at hC hbig q
    obtain ⟨cs, hfo, hcl, hcs⟩ := hC
    refine ⟨fo, rfl, ⟨_, SqL.of hfo⟩, fun d hd => ?_⟩
    refine ⟨fun i k H3 => k = css.length - i ∧ i ≤ css.length ∧ Same H2 H3 ∧ H3 d = some (.lst ((cts (css.take i)).map V.int)), ⟨css.length, rfl, Nat.zero_le _, Same.new hd, upd_same⟩, ?_⟩
    rintro i k H3 ⟨rfl, hi, s3, hd3⟩
    have hfo3 : SqL K H3 fo (cs.map V.ref) := SqL.of (s3 _ _ hfo)
    by_cases hlt : i < css.length
    · have hp : css[i]? = some css[i] := List.getElem?_eq_getElem hlt
      have hc' : cs[i]? = some cs[i] := List.getElem?_eq_getElem (by omega)
      generalize css[i] = ps at hp
      generalize cs[i] = e at hc'
      obtain ⟨_, ts, he, htl, hts⟩ := hcs i e ps hc' hp
      refine .inr ⟨⟨_, _, hfo3, at_ref hc'⟩, fun H4 => Same H2 H4 ∧ H4 d = some (.lst ((cts (css.take (i + 1))).map V.int)), fun H4 z => ⟨css.length - (i + 1), by omega, rfl, hlt, z⟩, fun x H4 y => ?_⟩
      obtain ⟨rfl, y⟩ := y
      have ex : x = .ref e := Option.some.inj ((y _ hfo3).symm.trans (at_ref hc'))
      subst ex
      refine ⟨rfl, turnT ⟨_, rfl, e, rfl, ⟨_, SqL.of (s3 _ _ he)⟩, ?_⟩⟩
      refine ⟨fun j k H5 => k = ps.length - j ∧ j ≤ ps.length ∧ Same H2 H5 ∧ H5 d = some (.lst ((cts (css.take i) ++ (ps.take j).map (·.2)).map V.int)), ⟨ps.length, rfl, Nat.zero_le _, s3, by simpa using hd3⟩, ?_⟩
      rintro j k H5 ⟨rfl, hj, s5, hd5⟩
      have he5 : SqL K H5 e (ts.map V.ref) := SqL.of (s5 _ _ he)
      by_cases hjl : j < ps.length
      · have hx : ps[j]? = some ps[j] := List.getElem?_eq_getElem hjl
        have ht : ts[j]? = some ts[j] := List.getElem?_eq_getElem (by omega)
        generalize ps[j] = x at hx
        generalize ts[j] = t at ht
        obtain ⟨_, htx⟩ := hts j t x ht hx
        refine .inr ⟨⟨_, _, he5, at_ref ht⟩, fun H6 => Same H2 H6 ∧ H6 d = some (.lst ((cts (css.take i) ++ (ps.take (j + 1)).map (·.2)).map V.int)), fun H6 z => ⟨ps.length - (j + 1), by omega, rfl, hjl, z⟩, fun y' H6 y => ?_⟩
        obtain ⟨rfl, y⟩ := y
        have ey : y' = .ref t := Option.some.inj ((y _ he5).symm.trans (at_ref ht))
        subst ey
        refine ⟨t, _, rfl, SqT.of (s5 _ _ htx), rfl, _, _, rfl, _, _, rfl, rfl, rfl, turnT ⟨_, rfl, _, hd5, ?_, s5.put hd, ?_⟩⟩
        · have h1 := cts_le css i ps hp j
          rw [List.length_map]
          exact small1000 (by omega)
        · rw [upd_same, List.take_add_one, hx]
          simp
      · have hje : j = ps.length := by omega
        subst hje
        refine .inl ⟨⟨_, he5, by rw [List.length_map, htl]; exact Nat.le_refl _⟩, s5, ?_⟩
        rw [cts_take hp]
        rw [List.take_length] at hd5
        exact hd5
    · have hie : i = css.length := by omega
      subst hie
      rw [List.take_length] at hd3
      refine .inl ⟨⟨_, hfo3, by rw [List.length_map, hcl]; exact Nat.le_refl _⟩, d, cts css, rfl, SqL.of hd3, q H3 (s12.trans s3)⟩
/-! ### distance -/
def spDis (K : PySem.W.Frag) : Sp := fun vs H Q _ => ∃ (o a b : Addr) (p c : Nat) (L M : List (List Int)), vs = [.ref o, .ref a, .ref b] ∧ OfAt K H o p c ∧ Fine p c ∧ HardAt K H a L ∧ Stt p c L ∧ StAt K H b M ∧ Stt p c M ∧ ∀ H', Same H H' → Q (.int (dist c L M)) H'
theorem scDis : FnScope ["office", "one", "other"] ["office", "one", "other"] (defScope sDis) := ⟨rfl, rfl, rfl, by decide +kernel, rfl, by decide +kernel, by decide +kernel⟩
theorem ok_dis (GS : Kept P w K mg base 4 "need_state" ["office", "state"] (spLns K)) (GN : Kept P w K mg base 3 "need_lines" ["office", "state"] (spLns K)) (GD : Kept P w K mg base 4 "distance_in" ["one", "other"] (spDin K))
    (D : Def K mg "distance" sDis ["office", "one", "other"]) : Kept P w K mg base 5 "distance" ["office", "one", "other"] (spDis K) := by
  refine kept_of D scDis (fun vs H Q E h => ?_) (fun _ _ f cdv A outer s H vs Q E hr h => ?_)
  · obtain ⟨o, a, b, p, c, L, M, rfl, _⟩ := h; rfl
  · obtain ⟨o, a, b, p, c, L, M, rfl, ho, fi, ha, SL, hb, SM, q⟩ := h
    refine ⟨_, pss_cons (ps_expr (pe_use GS hr (by rfl) (pa_cons (pv 0) (pa_cons (pv 1) pa_nil)))) <| pss_cons (ps_expr (pe_use GN (hr.mono (by decide)) (by rfl) (pa_cons (pv 0) (pa_cons (pv 2) pa_nil)))) <|
      pss_one (ps_ret (pe_use GD hr (by rfl) (pa_cons (pv 1) (pa_cons (pv 2) pa_nil)))), ?_⟩
    refine ⟨_, rfl, _, rfl, o, a, p, c, L, rfl, ho, fi, ha.st, SL, fun H1 s1 => ?_⟩
    refine ⟨_, rfl, _, rfl, o, b, p, c, M, rfl, ho.same s1, fi, hb.same s1, SM, fun H2 s2 => ?_⟩
    have s12 := s1.trans s2
    exact ⟨_, rfl, _, rfl, a, b, p, c, L, M, rfl, ha.same s12, hb.same s12, SL, SM, fi, fun H3 s3 => q H3 (s12.trans s3)⟩
end
end Cl
set_option Elab.async false
set_option linter.all false
set_option maxRecDepth 100000
set_option maxHeartbeats 4000000
/-! The walks of line_up, gather. -/
namespace Cl
open PySem PySem.Spec PyProof.Rows L2
abbrev sLup : Stmt := top 28
abbrev sGat : Stmt := top 29
theorem flat_one {α : Type} (x : α) : ∀ n : Nat, (List.replicate n [x]).flatten = List.replicate n x
  | 0 => rfl
  | n + 1 => by rw [List.replicate_succ, List.flatten_cons, flat_one x n]; rfl
theorem lone_stt {p c n : Nat} {ns : List Int} (hn : n < c) (h : ns.Perm (ppl p)) : Stt p c (lone c n ns) := ⟨lone_len _ _ _, by rw [lone_flat _ _ _ hn]; exact h⟩
theorem lone_lns {K : PySem.W.Frag} {H : Hp} {c n : Nat} {e1 e2 r : Addr} {ns : List Int} (hn : n < c) (h1 : SqT K H e1 []) (h2 : SqT K H e2 []) (hr : SqT K H r (ns.map V.int)) :
    Lns K H (List.replicate n e1 ++ ([r] ++ List.replicate (c - n - 1) e2)) (lone c n ns) := by
  refine ⟨by rw [lone_len, List.length_append, List.length_append, List.length_replicate, List.length_replicate, List.length_singleton]; omega, fun i b l hb hl => ?_⟩
  have hi : i < c := by
    have := (List.getElem?_eq_some_iff.mp hl).1
    rw [lone_len] at this
    exact this
  rw [lone_at _ _ hi] at hl
  have el : (if i = n then ns else []) = l := Option.some.inj hl
  by_cases h : i < n
  · rw [List.getElem?_append_left (by rw [List.length_replicate]; exact h), List.getElem?_replicate, if_pos h] at hb
    cases hb
    rw [← el, if_neg (by omega)]
    exact h1
  · rw [List.getElem?_append_right (by rw [List.length_replicate]; omega), List.length_replicate] at hb
    by_cases h3 : i = n
    · subst h3
      rw [Nat.sub_self] at hb
      have eb : r = b := Option.some.inj hb
      rw [← el, if_pos rfl, ← eb]
      exact hr
    · rw [List.getElem?_append_right (by rw [List.length_singleton]; omega), List.getElem?_replicate, if_pos (by rw [List.length_singleton]; omega)] at hb
      cases hb
      rw [← el, if_neg h3]
      exact h2
section
variable {P : Program} {w : World} {K : PySem.W.Frag} {mg : Str → Option Value} {base : Heap}
def spGat (K : PySem.W.Frag) : Sp := fun vs H Q _ => ∃ (o a : Addr) (p c n : Nat) (L : List (List Int)), vs = [.ref o, .ref a, .int (n : Nat)] ∧ OfAt K H o p c ∧ Fine p c ∧ StAt K H a L ∧ Stt p c L ∧ n < c ∧ ∀ H', Same H H' → Q (.int (gath p c L n)) H'
theorem scGat : FnScope ["office", "state", "counter", "person"] ["office", "state", "counter"] (defScope sGat) := ⟨rfl, rfl, rfl, by decide +kernel, rfl, by decide +kernel, by decide +kernel⟩
theorem ok_gat (B : Blt mg) (GS : Kept P w K mg base 4 "need_state" ["office", "state"] (spLns K)) (GN : Kept P w K mg base 3 "need_counter" ["office", "counter"] (spCtr K)) (GC : Kept P w K mg base 1 "counter_of" ["state", "person"] (spCof K))
    (D : Def K mg "gather" sGat ["office", "state", "counter"]) : Kept P w K mg base 5 "gather" ["office", "state", "counter"] (spGat K) := by
  refine kept_of D scGat (fun vs H Q E h => ?_) (fun _ _ f cdv A outer s H vs Q E hr h => ?_)
  · obtain ⟨o, a, p, c, n, L, rfl, _⟩ := h; rfl
  · obtain ⟨o, a, p, c, n, L, rfl, ho, fi, ha, SL, hn, q⟩ := h
    refine ⟨_, pss_cons (ps_expr (pe_use GS hr (by rfl) (pa_cons (pv 0) (pa_cons (pv 1) pa_nil)))) <| pss_cons (ps_expr (pe_use GN (hr.mono (by decide)) (by rfl) (pa_cons (pv 0) (pa_cons (pv 2) pa_nil)))) <|
      pss_one (ps_ret (pe_callB (cr_sum rfl) (by rfl) B.sum (by decide +kernel) (pa_cons
        (pe_lc (own := [("person", 3)]) (g := gName 3) (tt := tYes) rfl scGat.nd (pi_range1 (by rfl) B.range (pa_cons (pe_ix ix_tup (pv 0) pe_int (fun _ _ => rfl)) pa_nil)) (blkOk_by (N := ["office", "state", "counter", "person"]) (sc := defScope sGat) (by decide +kernel)) (fun _ _ _ _ _ => pg_name (i := 3) scGat.nd rfl (.inl rfl)) (fun _ _ _ _ _ => pts_nil)
          (fun _ _ _ _ _ => pe_op op_mod (pe_op op_sub (pv 2) (pe_use GC (hr.mono (by decide)) (by rfl) (pa_cons (pv 1) (pa_cons (pv 3) pa_nil)))) (pe_ix (ixT K) (pv 0) pe_int (fun _ _ => rfl)))) pa_nil))), ?_⟩
    refine ⟨_, rfl, _, rfl, o, a, p, c, L, rfl, ho, fi, ha, SL, fun H1 s1 => ?_⟩
    refine ⟨_, rfl, _, rfl, o, p, c, _, rfl, ho.same s1, Int.natCast_nonneg n, by omega, ?_⟩
    have hp7 := fi.2.1
    have hc1 := fi.2.2.1
    have hc6 := fi.2.2.2
    refine ⟨_, rfl, o, _, 0, _, rfl, rfl, ho.same s1, atI_nat (j := 0) rfl, (p : Int), rfl, by omega, by omega, fun d hd => lc_range (lo := 0) (n := (p : Int).toNat) (fun i H2 => Same H1 H2 ∧ H2 d = some (.lst ((((ppl p).map fun x => stp c L n x).take i).map V.int))) ⟨Same.new hd, by rw [upd_same]; simp⟩ ?_ ?_⟩
    · rintro i H2 hi ⟨s2, hk⟩
      have hip : i < p := by omega
      have s12 := s1.trans s2
      have hpi : (ppl p)[i]? = some ((i : Nat) : Int) := by
        unfold ppl
        rw [List.getElem?_map, List.getElem?_range hip]
        rfl
      have hm : ((i : Nat) : Int) ∈ L.flatten := SL.perm.mem_iff.mpr (List.mem_of_getElem? hpi)
      have e0 : (0 : Int) + (i : Nat) = ((i : Nat) : Int) := Int.zero_add _
      rw [e0]
      refine ⟨rfl, turnT ⟨_, rfl, _, rfl, _, rfl, a, _, L, rfl, ha.same s12, SL.nd, hm, by rw [SL.len]; omega, fun H3 s3 => ?_⟩⟩
      refine ⟨_, _, rfl, rfl, _, rfl, o, _, 1, _, rfl, rfl, (ho.same s12).same s3, atI_nat (j := 1) rfl, _, _, rfl, rfl, by show (0 : Int) < (c : Nat); omega, _, s3 _ _ hk, ?_, (s2.trans s3).put hd, ?_⟩
      · rw [List.length_map, List.length_take, List.length_map, ppl_len]
        exact small1000 (by omega)
      · rw [upd_same, List.take_add_one, List.getElem?_map, hpi, List.map_append]
        rfl
    · rintro H2 ⟨s2, hk⟩
      have e : ((ppl p).map fun x => stp c L n x).take (p : Int).toNat = (ppl p).map fun x => stp c L n x := List.take_of_length_le (by rw [List.length_map, ppl_len]; omega)
      rw [e] at hk
      exact ⟨d, _, rfl, SqL.of hk, q H2 (s1.trans s2)⟩
/-! ### line_up -/
def spLup (K : PySem.W.Frag) : Sp := fun vs H Q _ => ∃ (o a r : Addr) (p c n : Nat) (L : List (List Int)) (ns : List Int), vs = [.ref o, .ref a, .int (n : Nat), .ref r] ∧ OfAt K H o p c ∧ Fine p c ∧ HardAt K H a L ∧ Stt p c L ∧ n < c ∧ SqT K H r (ns.map V.int) ∧ ns.Perm (ppl p) ∧
  ∀ H', Same H H' → Q (.int (dist c L (lone c n ns))) H'
theorem scLup : FnScope ["office", "state", "counter", "order", "goal"] ["office", "state", "counter", "order"] (defScope sLup) := ⟨rfl, rfl, rfl, by decide +kernel, rfl, by decide +kernel, by decide +kernel⟩
theorem ok_lup (B : Blt mg) (GS : Kept P w K mg base 4 "need_state" ["office", "state"] (spLns K)) (GN : Kept P w K mg base 3 "need_counter" ["office", "counter"] (spCtr K)) (GO : Kept P w K mg base 3 "need_order" ["office", "order"] (spOrd K)) (GD : Kept P w K mg base 4 "distance_in" ["one", "other"] (spDin K))
    (D : Def K mg "line_up" sLup ["office", "state", "counter", "order"]) : Kept P w K mg base 5 "line_up" ["office", "state", "counter", "order"] (spLup K) := by
  refine kept_of D scLup (fun vs H Q E h => ?_) (fun _ _ f cdv A outer s H vs Q E hr h => ?_)
  · obtain ⟨o, a, r, p, c, n, L, ns, rfl, _⟩ := h; rfl
  · obtain ⟨o, a, r, p, c, n, L, ns, rfl, ho, fi, ha, SL, hn, hr', hp, q⟩ := h
    refine ⟨_, pss_cons (ps_expr (pe_use GS hr (by rfl) (pa_cons (pv 0) (pa_cons (pv 1) pa_nil)))) <| pss_cons (ps_expr (pe_use GN (hr.mono (by decide)) (by rfl) (pa_cons (pv 0) (pa_cons (pv 2) pa_nil)))) <|
      pss_cons (ps_expr (pe_use GO (hr.mono (by decide)) (by rfl) (pa_cons (pv 0) (pa_cons (pv 3) pa_nil)))) <|
      pss_cons (ps_set (i := 4) scLup.nd rfl (.inl rfl) (pe_op op_catD (pe_op op_catD (pe_op op_mulT (pe_tup (pa_cons (pe_tup pa_nil) pa_nil)) (pv 2)) (pe_tup (pa_cons (pv 3) pa_nil)))
        (pe_op op_mulT (pe_tup (pa_cons (pe_tup pa_nil) pa_nil)) (pe_op op_sub (pe_op op_sub (pe_ix ix_tup (pv 0) pe_int (fun _ _ => rfl)) (pv 2)) pe_int)))) <|
      pss_one (ps_ret (pe_use GD hr (by rfl) (pa_cons (pv 1) (pa_cons (pv 4) pa_nil)))), ?_⟩
    have hc6 := fi.2.2.2
    refine ⟨_, rfl, _, rfl, o, a, p, c, L, rfl, ho, fi, ha.st, SL, fun H1 s1 => ?_⟩
    refine ⟨_, rfl, _, rfl, o, p, c, _, rfl, ho.same s1, Int.natCast_nonneg n, by omega, ?_⟩
    refine ⟨_, rfl, _, rfl, o, r, p, c, ns, rfl, ho.same s1, fi, s1.tup hr', hp, fun H2 s2 => ?_⟩
    have s12 := s1.trans s2
    -- ((),) * counter
    refine ⟨Nat.zero_le _, fun e1 he1 => ⟨by show 1 ≤ sizeLine; decide, fun t1 ht1 => ⟨_, rfl, t1, _, _, rfl, rfl, SqT.of upd_same, by show 1 ≤ 1000; decide, Int.natCast_nonneg n, by omega, fun H3 g1 s3 hg1 => ?_⟩⟩⟩
    have s23 : Same H2 H3 := ((Same.new he1).trans (Same.new ht1)).trans s3
    have he1' : SqT K H3 e1 [] := SqT.of (s3 _ _ (by rw [upd_ne (ne_of_none upd_same ht1)]; exact upd_same))
    -- + (order,)
    refine ⟨_, rfl, by show 1 ≤ sizeLine; decide, fun t2 ht2 => ⟨g1, t2, _, _, rfl, rfl, (Same.new ht2).tup hg1, SqT.of upd_same, ?_, fun H4 g2 s4 hg2 => ?_⟩⟩
    · rw [flat_one, List.length_replicate]
      show (n : Int).toNat + 1 ≤ sizeLine
      have : (n : Int).toNat = n := Int.toNat_natCast n
      exact Nat.le_of_lt (small1000 (by omega))
    have s34 : Same H3 H4 := (Same.new ht2).trans s4
    -- + ((),) * (counters - counter - 1)
    refine ⟨Nat.zero_le _, fun e2 he2 => ⟨by show 1 ≤ sizeLine; decide, fun t3 ht3 => ⟨_, rfl, o, [.int (p : Nat), .int (c : Nat)], 1, _, rfl, rfl, ?_, atI_nat (j := 1) rfl, _, rfl, _, _, rfl, rfl, _, _, rfl, rfl, t3, ((c : Int) - (n : Nat) - 1), _, rfl, rfl, SqT.of upd_same, by show 1 ≤ 1000; decide, by omega, by omega, fun H5 g3 s5 hg3 => ?_⟩⟩⟩
    · exact (((s12.trans s23).trans s34).trans ((Same.new he2).trans (Same.new ht3))).tup ho
    have s45 : Same H4 H5 := ((Same.new he2).trans (Same.new ht3)).trans s5
    have he2' : SqT K H5 e2 [] := SqT.of (s5 _ _ (by rw [upd_ne (ne_of_none upd_same ht3)]; exact upd_same))
    refine ⟨g2, g3, _, _, rfl, rfl, s45.tup hg2, hg3, ?_, fun H6 g4 s6 hg4 => ?_⟩
    · rw [flat_one, flat_one, List.length_append, List.length_replicate, List.length_replicate]
      have h1 : (n : Int).toNat = n := Int.toNat_natCast n
      have h2 : ((c : Int) - n - 1).toNat ≤ 6 := by omega
      refine Nat.le_of_lt (small1000 ?_)
      show (n : Int).toNat + 1 + ((c : Int) - n - 1).toNat ≤ 1000
      omega
    have s26 : Same H2 H6 := ((s23.trans s34).trans s45).trans s6
    have s6' := s12.trans s26
    have hgoal : StAt K H6 g4 (lone c n ns) := by
      refine ⟨List.replicate n e1 ++ ([r] ++ List.replicate (c - n - 1) e2), ?_, lone_lns hn ((s34.trans (s45.trans s6)).tup he1') (s6.tup he2') (s6'.tup hr')⟩
      have e : ((List.replicate (n : Int).toNat [V.ref e1]).flatten ++ [V.ref r]) ++ (List.replicate ((c : Int) - n - 1).toNat [V.ref e2]).flatten = (List.replicate n e1 ++ ([r] ++ List.replicate (c - n - 1) e2)).map V.ref := by
        rw [flat_one, flat_one, List.map_append, List.map_append, List.map_replicate, List.map_replicate, List.append_assoc, Int.toNat_natCast, show ((c : Int) - n - 1).toNat = c - n - 1 by omega]
        rfl
      rw [← e]
      exact hg4
    exact ⟨_, rfl, _, rfl, a, g4, p, c, L, _, rfl, ha.same s6', hgoal, SL, lone_stt hn hp, fi, fun H7 s7 => q H7 (s6'.trans s7)⟩
end
end Cl
set_option Elab.async false
set_option linter.all false
set_option maxRecDepth 100000
set_option maxHeartbeats 8000000
/-! The walks of least_way_in (where one person alone is to be called), way. -/
namespace Cl
open PySem PySem.Spec PyProof.Rows L2
abbrev sLwi : Stmt := top 26
abbrev sWay : Stmt := top 27
def asgVal : Stmt → Expr
  | .Assign _ e _ => e
  | _ => .Constant .none 0 ⟨0, 0, 0, 0⟩
def tup0 : Expr → Expr
  | .Tuple (e :: _) _ _ => e
  | e => e
def lcScope : Expr → Scope
  | .ListComp _ _ sc _ => sc
  | _ => { kind := .function, names := [], isGenerator := false, isCoroutine := false }
def whBody : Stmt → List Stmt
  | .While _ b _ _ => b
  | _ => []
abbrev nLwi : List Str := ["chains", "person", "left", "rests", "row", "ends", "chain", "count", "rest", "one"]
theorem scLwi : FnScope nLwi ["chains"] (defScope sLwi) := ⟨rfl, rfl, rfl, by decide +kernel, rfl, by decide +kernel, by decide +kernel⟩
abbrev scA : Scope := relS (lcScope (tup0 (asgVal ((defBody sLwi).getD 1 (.Pass ⟨0, 0, 0, 0⟩))))) (defScope sLwi)
abbrev scB : Scope := relS (lcScope (asgVal ((whBody ((defBody sLwi).getD 2 (.Pass ⟨0, 0, 0, 0⟩))).getD 5 (.Pass ⟨0, 0, 0, 0⟩)))) (defScope sLwi)
section
variable {X : Cx} {K : PySem.W.Frag}
theorem neK (K : PySem.W.Frag) (hu : X.A.units + 64 < cLine) (hK : X.K = K := by rfl) : OpR X (compareOp .NotEq) (rNeD K) := hK ▸ op_neD hu
end
/-- a list of lists of ints, its lists where Z holds -/
def RsAt (Z : Addr → Prop) (H : Hp) (r : Addr) (rl : List (List Int)) : Prop :=
  ∃ qs : List Addr, H r = some (.lst (qs.map V.ref)) ∧ qs.length = rl.length ∧ ∀ (i : Nat) (q : Addr) (l : List Int), qs[i]? = some q → rl[i]? = some l → Z q ∧ H q = some (.lst (l.map V.int))
theorem RsAt.keep {Z : Addr → Prop} {H H' : Hp} {r : Addr} {rl : List (List Int)} (h : RsAt Z H r rl) (zr : Z r) (e : ∀ b o, Z b → H b = some o → H' b = some o) : RsAt Z H' r rl := by
  obtain ⟨qs, h1, h2, h3⟩ := h
  exact ⟨qs, e _ _ zr h1, h2, fun i q l a b => ⟨(h3 i q l a b).1, e _ _ (h3 i q l a b).1 (h3 i q l a b).2⟩⟩
theorem lone_map {α β : Type} {c j : Nat} {x : List α} (f : List α → List β) (h0 : f [] = []) : (lone c j x).map f = lone c j (f x) := by
  apply List.ext_getElem?
  intro i
  rw [List.getElem?_map]
  by_cases hi : i < c
  · rw [lone_at _ _ hi, lone_at _ _ hi]
    by_cases e : i = j
    · rw [if_pos e, if_pos e]; rfl
    · rw [if_neg e, if_neg e]
      show some (f []) = some []
      rw [h0]
  · rw [List.getElem?_eq_none (by rw [lone_len]; omega), List.getElem?_eq_none (by rw [lone_len]; omega)]
    rfl
theorem eqi (i j : Int) : decide (V.int i = V.int j) = decide (i = j) := by
  rw [dec_int]
  exact Bool.beq_eq_decide_eq i j
theorem lock_same {H H' : Hp} {d : Addr} {u x : HO} (h : H d = some u) (s : Same (upd H d x) H') : Same H (upd H' d u) := fun b o e => by
  by_cases hb : b = d
  · subst hb
    rw [h] at e
    cases e
    exact upd_same
  · rw [upd_ne hb]
    exact s b o (by rw [upd_ne hb]; exact e)
/-- what is left to be called: n so often -/
def leftK (n : Int) (m : Nat) : List (Key × V) := if 0 < m then [(Sum.inl n, .int (m : Nat))] else []
theorem leftK_len (n : Int) (m : Nat) : (leftK n m).length ≤ 1 := by
  unfold leftK
  split
  · exact Nat.le_refl _
  · exact Nat.zero_le _
section
variable {P : Program} {w : World} {K : PySem.W.Frag} {mg : Str → Option Value} {base : Heap}
def spLwi (K : PySem.W.Frag) : Sp := fun vs H Q _ => ∃ (r : Addr) (c j : Nat) (n : Int), vs = [.ref r] ∧ ChsAt H r (lone c j [(n, (c : Int))]) ∧ j < c ∧ c ≤ 6 ∧ ∀ H' t, Same H H' → SqT K H' t (List.replicate c (.int n)) → Q (.ref t) H'
theorem ok_lwi (B : Blt mg) (D : Def K mg "least_way_in" sLwi ["chains"]) : Kept P w K mg base 1 "least_way_in" ["chains"] (spLwi K) := by
  refine kept_of D scLwi (fun vs H Q E h => ?_) (fun _ _ f cdv A outer s H vs Q E hr h => ?_)
  · obtain ⟨r, c, j, n, rfl, _⟩ := h; rfl
  · obtain ⟨r0, c, j, n, rfl, ⟨cs, hr0, hcl, hcs⟩, hj, hc6, q⟩ := h
    have hu := hu_of hr
    refine ⟨_, pss_cons (ps_set (i := 2) scLwi.nd rfl (.inr rfl)
        (pe_dc2 (own := [("chain", 6), ("person", 1), ("count", 7)]) (vs1 := [1, 7]) (g := gName 6) (g1 := gTup K 2 (gCons (gName 1) (gCons (gName 7) gNil))) (tt := tYes) (tt1 := tYes) (wi1 := iList K (tVar 6)) rfl scLwi.nd (pi_list (pv 0))
          (blkOk_by (N := nLwi) (sc := defScope sLwi) (by decide +kernel)) (by decide)
          (fun _ _ _ _ _ => pg_name (i := 6) scLwi.nd rfl (.inl rfl)) (fun _ _ _ _ _ => pts_nil) (fun _ _ _ _ _ => piL K (pv 6))
          (fun _ _ _ _ _ => pgT K rfl (pgs_cons (pg_name (i := 1) scLwi.nd rfl (.inl rfl)) (pgs_cons (pg_name (i := 7) scLwi.nd rfl (.inl rfl)) pgs_nil))) (fun _ _ _ _ _ => pts_nil) (fun _ _ _ _ _ => pv 1) (fun _ _ _ _ _ => pv 7))) <|
      pss_cons (ps_par (i := 3) (j := 4) rfl scLwi.nd rfl rfl (by decide) rfl rfl (pa_cons
          (pe_lc (own := [("chain", 6)]) (g := gName 6) (tt := tYes) rfl scLwi.nd (pi_list (pv 0)) (blkOk_by (N := nLwi) (sc := defScope sLwi) (by decide +kernel)) (fun _ _ _ _ _ => pg_name (i := 6) scLwi.nd rfl (.inl rfl)) (fun _ _ _ _ _ => pts_nil)
            (fun _ _ _ _ _ => pe_lc (own := [("person", 1), ("count", 7)]) (g := gTup K 2 (gCons (gName 1) (gCons (gName 7) gNil))) (tt := tYes) (wi := iList K (tVar 6)) rfl scLwi.nd (piL K (pv 6)) (blkOk_by (N := nLwi) (sc := scA) (by decide +kernel))
              (fun _ _ _ _ _ => pgT K rfl (pgs_cons (pg_name (i := 1) scLwi.nd rfl (.inl rfl)) (pgs_cons (pg_name (i := 7) scLwi.nd rfl (.inl rfl)) pgs_nil))) (fun _ _ _ _ _ => pts_nil) (fun _ _ _ _ _ => pv 1)))
          (pa_cons (pe_lst pa_nil) pa_nil)) (by rfl)) <|
      pss_cons (ps_while PassesOwn.never (pt_cmpR op_gt (pe_callB call_lenD (by rfl) B.len PySem.boot_len (pa_cons (pv 2) pa_nil)) pe_int (nomark _)) <|
        pss_cons (ps_set (i := 5) scLwi.nd rfl (.inr rfl)
          (pe_lc (own := [("rest", 8)]) (g := gName 8) (tt := tTest (tOp (rNeD K) (tVar 8) (tLst tNil))) rfl scLwi.nd (pi_list (pv 3)) (blkOk_by (N := nLwi) (sc := defScope sLwi) (by decide +kernel)) (fun _ _ _ _ _ => pg_name (i := 8) scLwi.nd rfl (.inl rfl))
            (fun _ _ _ _ _ => pts_one (pt_cmpR (neK K hr.units) (pv 8) (pe_lst pa_nil) (nomark _))) (fun _ _ _ _ _ => pe_ix (ixL K) (pv 8) pe_int (fun _ _ => rfl)))) <|
        pss_cons (ps_set (i := 1) scLwi.nd rfl (.inl rfl) (pe_callB (cr_min rfl) (by rfl) B.min (by decide +kernel) (pa_cons
          (pe_lock (pe_lc (own := [("one", 9), ("count", 7)]) (g := gTup K 2 (gCons (gName 9) (gCons (gName 7) gNil))) (tt := tOr (tTest (tOp (rI0 fun i j => .bl (decide (j < i))) (tVar 7) (tC (.int 1)))) (tTest (tOp (rIn K false) (tVar 9) (tVar 5)))) rfl scLwi.nd (pi_items (pv 2)) (blkOk_by (N := nLwi) (sc := defScope sLwi) (by decide +kernel))
            (fun _ _ _ _ _ => pgT K rfl (pgs_cons (pg_name (i := 9) scLwi.nd rfl (.inl rfl)) (pgs_cons (pg_name (i := 7) scLwi.nd rfl (.inl rfl)) pgs_nil)))
            (fun _ _ _ _ _ => pts_one (PW.pt (pw_or (pt_cmpR op_gt (pv 7) pe_int (nomark _)) (pw_or1 (pt_cmpR (inK K) (pv 9) (pv 5) rfl))))) (fun _ _ _ _ _ => pv 9))) pa_nil))) <|
        pss_cons (ps_expr (pe_bm PySem.F.plainAttrs_list PySem.F.slot_list_append PySem.F.type_list_append mt_append (pv 4) (pa_cons (pv 1) pa_nil))) <|
        pss_cons (ps_daug hu (pv 2) (pv 1) pe_int in_sub (fun _ _ _ => rfl)) <|
        pss_mid (ps_if (pt_cmpR op_eq (pe_dget hu (pv 2) (pv 1) (fun _ _ => rfl)) pe_int (nomark _)) (pss_one (ps_expr (pe_dpop1 (pv 2) (pv 1) ⟨rfl, rfl, rfl, rfl⟩))) pss_nil) <|
        pss_one (ps_setLc (i := 3) (own := [("rest", 8)]) (g := gName 8) (tt := tYes) rfl scLwi.nd rfl rfl (sw_true rfl rfl rfl (by decide +kernel)) (pi_list (pv 3)) (blkOk_by (N := nLwi) (sc := defScope sLwi) (by decide +kernel)) (fun _ _ _ _ _ => pg_name (i := 8) scLwi.nd rfl (.inl rfl)) (fun _ _ _ _ _ => pts_nil)
          (fun _ _ _ _ _ => pe_lc (own := [("one", 9)]) (g := gName 9) (tt := tB (tDIn (tVar 9) (tVar 2))) (wi := iList K (tVar 8)) rfl scLwi.nd (piL K (pv 8)) (blkOk_by (N := nLwi) (sc := scB) (by decide +kernel))
              (fun _ _ _ _ _ => pg_name (i := 9) scLwi.nd rfl (.inl rfl)) (fun _ _ _ _ _ => pts_one (pt_cmp (pc_din hu (pv 9) (pv 2)))) (fun _ _ _ _ _ => pv 9)))) <|
      pss_one (ps_ret (pe_callTy call_tuple_of (by rfl) B.tuple (by decide +kernel) (pa_cons (pv 4) pa_nil))), ?_⟩
    -- left = {person: count ..}
    have hr0L : SqL K H r0 (cs.map V.ref) := SqL.of hr0
    have hcl' : cs.length = c := by rw [hcl, lone_len]
    refine ⟨_, rfl, r0, rfl, ⟨_, hr0L⟩, fun d hd => ?_⟩
    have hdr : r0 ≠ d := ne_of_none hr0 hd
    refine ⟨fun i k H2 => k = c - i ∧ i ≤ c ∧ Same H H2 ∧ H2 d = some (.dK (if j < i then [(Sum.inl n, .int (c : Nat))] else [])), ⟨c, rfl, Nat.zero_le _, Same.new hd, by rw [if_neg (Nat.not_lt_zero _)]; exact upd_same⟩, ?_⟩
    rintro i k H2 ⟨rfl, hi, s2, hd2⟩
    by_cases hlt : i < c
    · have hp : (lone c j [(n, (c : Int))])[i]? = some (if i = j then [(n, (c : Int))] else []) := lone_at _ _ hlt
      have hc' : cs[i]? = some cs[i] := List.getElem?_eq_getElem (by omega)
      generalize cs[i] = e at hc'
      obtain ⟨_, ts, he, htl, hts⟩ := hcs i e _ hc' hp
      refine .inr ⟨⟨_, _, SqL.of (s2 _ _ hr0), at_ref hc'⟩, fun H4 => Same H H4 ∧ H4 d = some (.dK (if j < i + 1 then [(Sum.inl n, .int (c : Nat))] else [])), fun H4 z => ⟨c - (i + 1), by omega, rfl, hlt, z⟩, fun x H4 y => ?_⟩
      obtain ⟨rfl, y⟩ := y
      have ex : x = .ref e := Option.some.inj ((y _ (SqL.of (s2 _ _ hr0))).symm.trans (at_ref hc'))
      subst ex
      refine ⟨rfl, turnT ⟨_, rfl, e, rfl, ⟨_, SqL.of (s2 _ _ he)⟩, ?_⟩⟩
      by_cases hij : i = j
      · subst hij
        rw [if_pos rfl] at htl hts
        match ts, htl with
        | [t], _ =>
          have htx := (hts 0 t (n, (c : Int)) rfl rfl).2
          refine ⟨fun k m H5 => m = 1 - k ∧ k ≤ 1 ∧ Same H H5 ∧ H5 d = some (.dK (if 0 < k then [(Sum.inl n, .int (c : Nat))] else [])), ⟨1, rfl, by decide, s2, by rw [if_neg (Nat.not_lt_zero _)]; rw [if_neg (Nat.lt_irrefl _)] at hd2; exact hd2⟩, ?_⟩
          rintro k m H5 ⟨rfl, hk, s5, hd5⟩
          have he5 : SqL K H5 e [.ref t] := SqL.of (s5 _ _ he)
          by_cases hk0 : k = 0
          · subst hk0
            refine .inr ⟨⟨_, _, he5, rfl⟩, fun H6 => Same H H6 ∧ H6 d = some (.dK [(Sum.inl n, .int (c : Nat))]), fun H6 z => ⟨0, by decide, rfl, by decide, z.1, by rw [if_pos (by decide)]; exact z.2⟩, fun y' H6 y => ?_⟩
            obtain ⟨rfl, y⟩ := y
            have ey : y' = .ref t := Option.some.inj (y _ he5).symm
            subst ey
            refine ⟨t, _, rfl, SqT.of (s5 _ _ htx), rfl, _, _, rfl, _, _, rfl, rfl, rfl, turnT ⟨_, rfl, _, rfl, _, Sum.inl n, rfl, hd5, by show 0 < sizeLine; decide, s5.put hd, ?_⟩⟩
            rw [upd_same]
            rfl
          · have hk1 : k = 1 := by omega
            subst hk1
            refine .inl ⟨⟨_, he5, Nat.le_refl _⟩, s5, ?_⟩
            rw [if_pos (by decide)] at hd5
            rw [if_pos (Nat.lt_succ_self _)]
            exact hd5
      · rw [if_neg hij] at htl hts
        have ht0 : ts = [] := List.eq_nil_of_length_eq_zero htl
        subst ht0
        refine ⟨fun k m H5 => k = 0 ∧ Same H H5 ∧ H5 d = some (.dK (if j < i then [(Sum.inl n, .int (c : Nat))] else [])), ⟨0, rfl, s2, hd2⟩, ?_⟩
        rintro k m H5 ⟨rfl, s5, hd5⟩
        refine .inl ⟨⟨_, SqL.of (s5 _ _ he), Nat.le_refl _⟩, s5, ?_⟩
        rw [hd5]
        by_cases hji : j < i
        · rw [if_pos hji, if_pos (by omega)]
        · rw [if_neg hji, if_neg (by omega)]
    · have hie : i = c := by omega
      subst hie
      rw [if_pos hj] at hd2
      refine .inl ⟨⟨_, SqL.of (s2 _ _ hr0), by rw [List.length_map, hcl']; exact Nat.le_refl _⟩, ?_⟩
      -- rests, row = ([[person for ..] for chain in chains], [])
      have hdH := hd
      refine ⟨_, rfl, r0, rfl, ⟨_, SqL.of (s2 _ _ hr0)⟩, fun e1 he1 => lc_list (K := K) (a := r0) (xs := cs.map V.ref) (fun i' H3 => Same H2 H3 ∧ ∃ qs : List Addr, H3 e1 = some (.lst (qs.map V.ref)) ∧ qs.length = i' ∧
        ∀ (k : Nat) (b : Addr) (l : List Int), qs[k]? = some b → (lone i j [n])[k]? = some l → (b ≠ e1 ∧ b ≠ d) ∧ H3 b = some (.lst (l.map V.int))) ⟨Same.new he1, [], upd_same, rfl, fun k b l z => by simp at z⟩ (fun i' H3 _ h => SqL.of (h.1 _ _ (s2 _ _ hr0))) ?_ ?_⟩
      · rintro i' x H3 hx ⟨s3, qs, hq1, hq2, hq3⟩
        obtain ⟨e, he, rfl⟩ := ref_at hx
        have hi' : i' < i := by
          have := (List.getElem?_eq_some_iff.mp he).1
          omega
        have hp : (lone i j [(n, (i : Int))])[i']? = some (if i' = j then [(n, (i : Int))] else []) := lone_at _ _ hi'
        obtain ⟨_, ts, hce, htl, hts⟩ := hcs i' e _ he hp
        generalize hpl : (if i' = j then [(n, (i : Int))] else []) = pl at hp htl hts
        refine ⟨rfl, turnT ⟨_, rfl, e, rfl, ⟨_, SqL.of (s3 _ _ (s2 _ _ hce))⟩, fun b hb => lc_list (K := K) (a := e) (xs := ts.map V.ref) (fun k H4 => Same H3 H4 ∧ H4 b = some (.lst (((pl.map (·.1)).take k).map V.int))) ⟨Same.new hb, upd_same⟩ (fun k H4 _ h => SqL.of (h.1 _ _ (s3 _ _ (s2 _ _ hce)))) ?_ ?_⟩⟩
        · rintro k y H4 hy ⟨s4, hb4⟩
          obtain ⟨t, ht, rfl⟩ := ref_at hy
          have hkl : k < pl.length := by
            have := (List.getElem?_eq_some_iff.mp ht).1
            omega
          have hx : pl[k]? = some pl[k] := List.getElem?_eq_getElem hkl
          have htx := (hts k t _ ht hx).2
          have hpl1 : pl.length ≤ 1 := by
            rw [← hpl]
            split
            · exact Nat.le_refl _
            · exact Nat.zero_le _
          refine ⟨t, _, rfl, SqT.of (s4 _ _ (s3 _ _ (s2 _ _ htx))), rfl, _, _, rfl, _, _, rfl, rfl, rfl, turnT ⟨_, rfl, _, hb4, ?_, s4.put hb, ?_⟩⟩
          · rw [List.length_map, List.length_take, List.length_map]
            exact small1000 (by omega)
          · rw [upd_same, List.take_add_one, List.getElem?_map, hx]
            simp
        · rintro H4 ⟨s4, hb4⟩
          rw [List.take_of_length_le (by rw [List.length_map, List.length_map, htl]; exact Nat.le_refl _)] at hb4
          have hbe : b ≠ e1 := (ne_of_none hq1 hb).symm
          have hbd : b ≠ d := (ne_of_none (s3 _ _ hd2) hb).symm
          refine ⟨_, s4 _ _ hq1, by rw [List.length_map, hq2]; exact small1000 (by omega), (s3.trans s4).put he1, qs ++ [b], by rw [upd_same, List.map_append]; rfl, by rw [List.length_append, hq2]; rfl, fun k b' l z1 z2 => ?_⟩
          by_cases hk : k < qs.length
          · rw [List.getElem?_append_left hk] at z1
            obtain ⟨⟨y1, y2⟩, y3⟩ := hq3 k b' l z1 z2
            exact ⟨⟨y1, y2⟩, by rw [upd_ne y1]; exact s4 _ _ y3⟩
          · have hk2 : k = qs.length := by
              have := (List.getElem?_eq_some_iff.mp z1).1
              rw [List.length_append] at this
              have h1 : ([b] : List Addr).length = 1 := rfl
              omega
            subst hk2
            rw [List.getElem?_append_right (Nat.le_refl _), Nat.sub_self] at z1
            have eb : b = b' := Option.some.inj z1
            subst eb
            rw [hq2, lone_at _ _ hi'] at z2
            have el : (if i' = j then [n] else []) = l := Option.some.inj z2
            refine ⟨⟨hbe, hbd⟩, ?_⟩
            rw [upd_ne hbe, hb4, ← el, ← hpl]
            by_cases hij : i' = j
            · rw [if_pos hij, if_pos hij]; rfl
            · rw [if_neg hij, if_neg hij]; rfl
      · rintro H3 ⟨s3, qs, hq1, hq2, hq3⟩
        refine ⟨Nat.zero_le _, fun wr hwr => ⟨_, _, rfl, ?_⟩⟩
        have hwd : wr ≠ d := (ne_of_none (s3 _ _ hd2) hwr).symm
        have hwe : wr ≠ e1 := (ne_of_none hq1 hwr).symm
        have hed : e1 ≠ d := (ne_of_none hd2 he1).symm
        have hwH : H wr = none := (s2.trans s3).free hwr
        -- the while
        refine ⟨fun m σ H4 => m ≤ i ∧ ∃ (v1 : Option V) (r : Addr) (v5 : Option V), σ = [some (.ref r0), v1, some (.ref d), some (.ref r), some (.ref wr), v5, none, none, none, none] ∧ Same H H4 ∧ H4 d = some (.dK (leftK n m)) ∧
          H4 wr = some (.lst (List.replicate (i - m) (.int n))) ∧ (r ≠ wr ∧ r ≠ d) ∧ RsAt (fun b => b ≠ wr ∧ b ≠ d) H4 r (lone i j (if 0 < m then [n] else [])),
          ⟨i, Nat.le_refl _, none, e1, none, rfl, ((s2.trans s3).trans (Same.new hwr)), ?_, ?_, ⟨hwe.symm, hed⟩, ?_⟩, ?_⟩
        · rw [upd_ne hwd.symm]
          show H3 d = _
          rw [s3 _ _ hd2]
          unfold leftK
          rw [if_pos (by omega)]
        · rw [upd_same, Nat.sub_self]
          rfl
        · refine ⟨qs, by rw [upd_ne hwe.symm]; exact hq1, by rw [hq2, lone_len, List.length_map, hcl'], fun k b l z1 z2 => ?_⟩
          rw [if_pos (by omega)] at z2
          obtain ⟨⟨y1, y2⟩, y3⟩ := hq3 k b l z1 z2
          have y4 : b ≠ wr := ne_of_none y3 hwr
          exact ⟨⟨y4, y2⟩, by rw [upd_ne y4]; exact y3⟩
        · rintro m σ H4 ⟨hm, v1, r, v5, rfl, s4, hd4, hw4, ⟨hrw, hrd⟩, hR4⟩
          refine ⟨_, rfl, d, _, rfl, hd4, _, _, rfl, rfl, decide (0 < m), ?_, ?_⟩
          · unfold leftK
            by_cases h0 : 0 < m
            · rw [if_pos h0, decide_eq_true h0]; rfl
            · rw [if_neg h0, decide_eq_false h0]; rfl
          by_cases h0 : 0 < m
          · refine ifT (decide_eq_true h0) ⟨fun σ' H' => m - 1 ≤ i ∧ ∃ (v1 : Option V) (r : Addr) (v5 : Option V), σ' = [some (.ref r0), v1, some (.ref d), some (.ref r), some (.ref wr), v5, none, none, none, none] ∧ Same H H' ∧ H' d = some (.dK (leftK n (m - 1))) ∧
              H' wr = some (.lst (List.replicate (i - (m - 1)) (.int n))) ∧ (r ≠ wr ∧ r ≠ d) ∧ RsAt (fun b => b ≠ wr ∧ b ≠ d) H' r (lone i j (if 0 < m - 1 then [n] else [])), fun σ' H' z => ⟨m - 1, by omega, z⟩, ?_⟩
            obtain ⟨qs, hq1, hq2, hq3⟩ := id hR4
            have hNN : m - 1 < m := by omega
            -- ends
            refine ⟨_, rfl, r, rfl, ⟨_, SqL.of hq1⟩, fun e he => lc_list (K := K) (a := r) (xs := qs.map V.ref) (fun k H5 => Same H4 H5 ∧ H5 e = some (.lst (if j < k then [.int n] else []))) ⟨Same.new he, by rw [if_neg (Nat.not_lt_zero _)]; exact upd_same⟩ (fun k H5 _ h => SqL.of (h.1 _ _ hq1)) ?_ ?_⟩
            · rintro k x H5 hx ⟨s5, he5⟩
              obtain ⟨q1, hk1, rfl⟩ := ref_at hx
              have hki : k < i := by
                have := (List.getElem?_eq_some_iff.mp hk1).1
                rw [hq2, lone_len] at this
                exact this
              have hkl : (lone i j (if 0 < m then [n] else []))[k]? = some (if k = j then [n] else []) := by rw [lone_at _ _ hki, if_pos h0]
              have hq5 := s5 _ _ (hq3 k q1 _ hk1 hkl).2
              have hlq : (if j < k then [V.int n] else []).length < sizeLine := by
                split
                · exact small1000 (show 1 ≤ 1000 by decide)
                · exact small1000 (Nat.zero_le _)
              refine ⟨rfl, _, rfl, Nat.zero_le _, fun e2 he2 => ?_⟩
              have hee : e ≠ e2 := ne_of_none he5 he2
              have hqe : q1 ≠ e2 := ne_of_none hq5 he2
              refine ⟨.list ((if k = j then [n] else []).map PyData.int), .list (([] : List Int).map PyData.int), .lst (SqL.of (by rw [upd_ne hqe]; exact hq5)) (dp_ints _ _), .lst (SqL.of upd_same) .nil, shapedL _, shapedL _, decide (k = j), congrArg V.bl ?_, ?_⟩
              · show (!PyData.eqvAll ((if k = j then [n] else []).map PyData.int) (([] : List Int).map PyData.int)) = _
                rw [eqv_ints]
                by_cases hkj : k = j
                · rw [if_pos hkj, decide_eq_true hkj]; rfl
                · rw [if_neg hkj, decide_eq_false hkj]; rfl
              · by_cases hkj : k = j
                · rw [if_pos hkj] at hq5
                  rw [if_neg (by omega)] at he5 hlq
                  refine ifT (decide_eq_true hkj) ⟨_, rfl, q1, _, 0, _, rfl, rfl, SqL.of (by rw [upd_ne hqe]; exact hq5), atI_nat (j := 0) rfl, _, by rw [upd_ne hee]; exact he5, hlq, (s5.put (s5.free he2)).put he, ?_⟩
                  rw [upd_same, if_pos (by omega)]
                  rfl
                · refine ifF (decide_eq_false hkj) ⟨s5.put (s5.free he2), ?_⟩
                  rw [upd_ne hee, he5]
                  by_cases hjk : j < k
                  · rw [if_pos hjk, if_pos (by omega)]
                  · rw [if_neg hjk, if_neg (by omega)]
            · rintro H5 ⟨s5, he5⟩
              rw [if_pos (by rw [List.length_map, hq2, lone_len]; exact hj)] at he5
              have hd5 := s5 _ _ hd4
              have hw5 := s5 _ _ hw4
              have hR5 : RsAt (fun b => b ≠ wr ∧ b ≠ d) H5 r (lone i j (if 0 < m then [n] else [])) := hR4.keep ⟨hrw, hrd⟩ fun b o _ z => s5 _ _ z
              have s45 := s4.trans s5
              have hed5 : e ≠ d := fun z => by
                subst z
                rw [he5] at hd5
                cases hd5
              have hew5 : e ≠ wr := (ne_of_none hw4 he).symm
              have elk : leftK n m = [(Sum.inl n, .int (m : Nat))] := if_pos h0
              rw [elk] at hd5
              -- person
              refine ⟨d, _, hd5, trivial, fun od => ?_⟩
              have hd6 : (upd H5 d (.frz od (.dK [(Sum.inl n, .int (m : Nat))]))) d = some (.frz od (.dK [(Sum.inl n, .int (m : Nat))])) := upd_same
              have he6 : (upd H5 d (.frz od (.dK [(Sum.inl n, .int (m : Nat))]))) e = some (.lst [V.int n]) := by rw [upd_ne hed5]; exact he5
              have hx6 : ∀ H', Same (upd H5 d (.frz od (.dK [(Sum.inl n, .int (m : Nat))]))) H' → Same H5 (upd H' d (.dK [(Sum.inl n, .int (m : Nat))])) := fun H' z => lock_same hd5 z
              generalize upd H5 d (.frz od (.dK [(Sum.inl n, .int (m : Nat))])) = H6 at hd6 he6 hx6
              refine ⟨_, rfl, d, od, _, rfl, hd6, fun D hD => ⟨fun k M H7 => M = 1 - k ∧ k ≤ 1 ∧ Same H6 H7 ∧ H7 D = some (.lst (if 0 < k then [.int n] else [])), ⟨1, rfl, Nat.zero_le _, Same.new hD, by rw [if_neg (Nat.lt_irrefl _)]; exact upd_same⟩, ?_⟩⟩
              rintro k M H7 ⟨rfl, hk, s7, hD7⟩
              have hd7 := s7 _ _ hd6
              by_cases hk0 : k = 0
              · subst hk0
                rw [if_neg (Nat.lt_irrefl _)] at hD7
                refine .inr ⟨⟨hd7, Nat.zero_lt_one⟩, fun H8 => Same H6 H8 ∧ H8 D = some (.lst [.int n]), fun H8 z => ⟨0, by decide, rfl, Nat.le_refl _, z.1, by rw [if_pos Nat.zero_lt_one]; exact z.2⟩, fun y H8 hy => ?_⟩
                obtain ⟨T, ky, vy, hkv, rfl, hT, rfl⟩ := hy
                cases hkv
                have hDT : D ≠ T := ne_of_none hD7 hT
                have s8 : Same H6 (upd H7 T (.tup [kV (Sum.inl n), .int (m : Nat)])) := s7.trans (Same.new hT)
                have hD8 : (upd H7 T (.tup [kV (Sum.inl n), .int (m : Nat)])) D = some (.lst []) := by rw [upd_ne hDT]; exact hD7
                have fin : ∃ acc, (upd H7 T (.tup [kV (Sum.inl n), .int (m : Nat)])) D = some (.lst acc) ∧ acc.length < sizeLine ∧ Same H6 (upd (upd H7 T (.tup [kV (Sum.inl n), .int (m : Nat)])) D (.lst (acc ++ [V.int n]))) ∧ (upd (upd H7 T (.tup [kV (Sum.inl n), .int (m : Nat)])) D (.lst (acc ++ [V.int n]))) D = some (.lst [.int n]) :=
                  ⟨[], hD8, small1000 (Nat.zero_le _), s8.put hD, upd_same⟩
                refine ⟨T, _, rfl, SqT.of upd_same, rfl, _, _, rfl, _, _, rfl, rfl, rfl, _, rfl, _, _, rfl, rfl, decide ((1 : Int) < (m : Nat)), rfl, ?_⟩
                by_cases h1 : (1 : Int) < (m : Nat)
                · refine ifT (decide_eq_true h1) (ifT rfl ⟨_, rfl, fin⟩)
                · refine ifF (decide_eq_false h1) ⟨_, rfl, _, rfl, e, [V.int n], rfl, .inl (SqL.of (s8 _ _ he6)), rfl, rfl, true, ?_, ifT rfl ⟨_, rfl, fin⟩⟩
                  show V.bl (inV (.int n) ([n].map V.int)) = _
                  rw [inV_int]
                  simp
              · have hk1 : k = 1 := by omega
                subst hk1
                rw [if_pos Nat.zero_lt_one] at hD7
                refine .inl ⟨⟨hd7, Nat.le_refl _⟩, hd7, ?_⟩
                have s8 := hx6 _ s7
                have hDd : D ≠ d := (ne_of_none hd6 hD).symm
                have hd8 : (upd H7 d (.dK [(Sum.inl n, .int (m : Nat))])) d = some (.dK [(Sum.inl n, .int (m : Nat))]) := upd_same
                have hD8 : (upd H7 d (.dK [(Sum.inl n, .int (m : Nat))])) D = some (.lst ([n].map V.int)) := by rw [upd_ne hDd]; exact hD7
                generalize upd H7 d (.dK [(Sum.inl n, .int (m : Nat))]) = H8 at s8 hd8 hD8
                refine ⟨D, [n], rfl, SqL.of hD8, Nat.zero_lt_one, fun mm hmm _ => ?_⟩
                obtain rfl : n = mm := (List.mem_singleton.mp hmm).symm
                have s48 := s45.trans s8
                have hw8 := s8 _ _ hw5
                have hR8 : RsAt (fun b => b ≠ wr ∧ b ≠ d) H8 r (lone i j (if 0 < m then [n] else [])) := hR5.keep ⟨hrw, hrd⟩ fun b o _ z => s8 _ _ z
                -- row.append(person)
                refine ⟨_, rfl, .inl ⟨rfl, _, SqL.of hw8⟩, _, rfl, wr, _, _, rfl, rfl, hw8, by rw [List.length_replicate]; exact small1000 (by omega), ?_⟩
                have hw9 : (upd H8 wr (.lst (List.replicate (i - m) (V.int n) ++ [V.int n]))) wr = some (.lst (List.replicate (i - (m - 1)) (.int n))) := by
                  rw [upd_same, ← List.replicate_succ', show i - m + 1 = i - (m - 1) by omega]
                have hd9 : (upd H8 wr (.lst (List.replicate (i - m) (V.int n) ++ [V.int n]))) d = some (.dK [(Sum.inl n, .int (m : Nat))]) := by rw [upd_ne hwd.symm]; exact hd8
                have hR9 : RsAt (fun b => b ≠ wr ∧ b ≠ d) (upd H8 wr (.lst (List.replicate (i - m) (V.int n) ++ [V.int n]))) r (lone i j (if 0 < m then [n] else [])) := hR8.keep ⟨hrw, hrd⟩ fun b o z y => by rw [upd_ne z.1]; exact y
                have s9 : Same H (upd H8 wr (.lst (List.replicate (i - m) (V.int n) ++ [V.int n]))) := s48.put hwH
                generalize upd H8 wr (.lst (List.replicate (i - m) (V.int n) ++ [V.int n])) = H9 at hw9 hd9 hR9 s9
                -- left[person] -= 1
                have g9 : DGet H9 d (.int n) (some (.int (m : Nat))) := by
                  have z := DGet.k (k := Sum.inl n) hd9
                  rw [valV_pos rfl] at z
                  exact z
                refine ⟨_, rfl, _, rfl, d, _, rfl, g9, _, _, rfl, rfl, _, DPut.k (k := Sum.inl n) hd9 (small1000 (show 1 ≤ 1000 by decide)), ?_⟩
                have hdH : H d = none := hd
                have hd10 : (upd H9 d (.dK (putK [(Sum.inl n, .int (m : Nat))] (Sum.inl n) (.int ((m : Int) - 1))))) d = some (.dK [(Sum.inl n, .int ((m : Int) - 1))]) := by
                  rw [upd_same]
                  simp [putK]
                have hw10 : (upd H9 d (.dK (putK [(Sum.inl n, .int (m : Nat))] (Sum.inl n) (.int ((m : Int) - 1))))) wr = some (.lst (List.replicate (i - (m - 1)) (.int n))) := by rw [upd_ne hwd]; exact hw9
                have hR10 : RsAt (fun b => b ≠ wr ∧ b ≠ d) (upd H9 d (.dK (putK [(Sum.inl n, .int (m : Nat))] (Sum.inl n) (.int ((m : Int) - 1))))) r (lone i j (if 0 < m then [n] else [])) := hR9.keep ⟨hrw, hrd⟩ fun b o z y => by rw [upd_ne z.2]; exact y
                have s10 : Same H (upd H9 d (.dK (putK [(Sum.inl n, .int (m : Nat))] (Sum.inl n) (.int ((m : Int) - 1))))) := s9.put hdH
                generalize upd H9 d (.dK (putK [(Sum.inl n, .int (m : Nat))] (Sum.inl n) (.int ((m : Int) - 1)))) = H10 at hd10 hw10 hR10 s10
                have g10 : DGet H10 d (.int n) (some (.int ((m : Int) - 1))) := by
                  have z := DGet.k (k := Sum.inl n) hd10
                  rw [valV_pos rfl] at z
                  exact z
                refine ⟨fun σ' H' => σ' = [some (.ref r0), some (.int n), some (.ref d), some (.ref r), some (.ref wr), some (.ref e), none, none, none, none] ∧ Same H H' ∧ H' d = some (.dK (leftK n (m - 1))) ∧ H' wr = some (.lst (List.replicate (i - (m - 1)) (.int n))) ∧ RsAt (fun b => b ≠ wr ∧ b ≠ d) H' r (lone i j (if 0 < m then [n] else [])), ?_, ?_⟩
                · refine ⟨_, rfl, _, rfl, d, _, rfl, g10, rfl, decide ((m : Int) - 1 = 0), congrArg V.bl (eqi _ _), ?_⟩
                  by_cases h1 : 0 < m - 1
                  · refine ifF (decide_eq_false (by omega)) ⟨rfl, s10, ?_, hw10, hR10⟩
                    rw [hd10]
                    unfold leftK
                    rw [if_pos h1, show ((m - 1 : Nat) : Int) = (m : Int) - 1 by omega]
                  · refine ifT (decide_eq_true (by omega)) ⟨_, rfl, d, rfl, ?_, _, rfl, _, Sum.inl n, _, hd10, rfl, valV_pos rfl, ?_⟩
                    · exact .inl ⟨_, .inl hd10⟩
                    · refine ⟨rfl, s10.put hdH, ?_, by rw [upd_ne hwd]; exact hw10, hR10.keep ⟨hrw, hrd⟩ fun b o z y => by rw [upd_ne z.2]; exact y⟩
                      rw [upd_same]
                      unfold leftK
                      rw [if_neg h1]
                      simp [dropK]
                · rintro σ' H11 ⟨rfl, s11, hd11, hw11, ⟨qs2, hu1, hu2, hu3⟩⟩
                  -- rests = ..
                  refine ⟨_, rfl, r, rfl, ⟨_, SqL.of hu1⟩, fun e1 he1 => lc_list (K := K) (a := r) (xs := qs2.map V.ref) (fun k H3 => Same H11 H3 ∧ ∃ qs' : List Addr, H3 e1 = some (.lst (qs'.map V.ref)) ∧ qs'.length = k ∧
                    ∀ (k' : Nat) (b : Addr) (l : List Int), qs'[k']? = some b → (lone i j (if 0 < m - 1 then [n] else []))[k']? = some l → b ≠ e1 ∧ (b ≠ wr ∧ b ≠ d) ∧ H3 b = some (.lst (l.map V.int))) ⟨Same.new he1, [], upd_same, rfl, fun k b l z => by simp at z⟩ (fun k H3 _ h => SqL.of (h.1 _ _ hu1)) ?_ ?_⟩
                  · rintro k x H3 hx ⟨s3, qs', hq1, hq2', hq3'⟩
                    obtain ⟨q1, hk1, rfl⟩ := ref_at hx
                    have hki : k < i := by
                      have := (List.getElem?_eq_some_iff.mp hk1).1
                      rw [hu2, lone_len] at this
                      exact this
                    have hkl : (lone i j (if 0 < m then [n] else []))[k]? = some (if k = j then [n] else []) := by rw [lone_at _ _ hki, if_pos h0]
                    have hq11 := (hu3 k q1 _ hk1 hkl).2
                    have hkl2 : (lone i j (if 0 < m - 1 then [n] else []))[k]? = some (if k = j then (if 0 < m - 1 then [n] else []) else []) := lone_at _ _ hki
                    generalize hls : (if k = j then [n] else []) = ls at hq11
                    have hls1 : ls.length ≤ 1 := by
                      rw [← hls]
                      split
                      · exact Nat.le_refl _
                      · exact Nat.zero_le _
                    refine ⟨rfl, turnT ⟨_, rfl, q1, rfl, ⟨_, SqL.of (s3 _ _ hq11)⟩, fun b hb => lc_list (K := K) (a := q1) (xs := ls.map V.int) (fun k2 H5 => Same H3 H5 ∧ H5 b = some (.lst (if 0 < m - 1 then (ls.take k2).map V.int else []))) ⟨Same.new hb, by rw [upd_same]; split <;> rfl⟩ (fun k2 H5 _ h => SqL.of (h.1 _ _ (s3 _ _ hq11))) ?_ ?_⟩⟩
                    · rintro k2 y H5 hy ⟨s5', hb5⟩
                      obtain ⟨n', hn', rfl⟩ := int_at hy
                      have hk2 : k2 < ls.length := (List.getElem?_eq_some_iff.mp hn').1
                      have en : n' = n := by
                        have hm := List.mem_of_getElem? hn'
                        rw [← hls] at hm
                        split at hm
                        · exact List.mem_singleton.mp hm
                        · cases hm
                      subst en
                      have hd5' := s5' _ _ (s3 _ _ hd11)
                      have g5 := DGet.k (k := Sum.inl n') hd5'
                      by_cases h1 : 0 < m - 1
                      · have e5 : valV (leftK n' (m - 1)) (Sum.inl n') = some (.int ((m - 1 : Nat) : Int)) := by
                          unfold leftK
                          rw [if_pos h1, valV_pos rfl]
                        rw [e5] at g5
                        rw [if_pos h1] at hb5
                        refine ⟨rfl, _, rfl, _, rfl, d, _, rfl, g5, true, rfl, ifT rfl ⟨_, rfl, _, hb5, ?_, s5'.put hb, ?_⟩⟩
                        · rw [List.length_map, List.length_take]
                          exact small1000 (by omega)
                        · rw [upd_same, if_pos h1, List.take_add_one, hn']
                          simp
                      · have e5 : valV (leftK n' (m - 1)) (Sum.inl n') = none := by
                          unfold leftK
                          rw [if_neg h1]
                          rfl
                        rw [e5] at g5
                        rw [if_neg h1] at hb5
                        refine ⟨rfl, _, rfl, _, rfl, d, _, rfl, g5, false, rfl, ifF rfl ⟨s5', ?_⟩⟩
                        rw [if_neg h1]
                        exact hb5
                    · rintro H5 ⟨s5', hb5⟩
                      rw [List.take_of_length_le (by rw [List.length_map]; exact Nat.le_refl _)] at hb5
                      have hbe : b ≠ e1 := (ne_of_none hq1 hb).symm
                      have hbd : b ≠ d := (ne_of_none (s3 _ _ hd11) hb).symm
                      have hbw : b ≠ wr := (ne_of_none (s3 _ _ hw11) hb).symm
                      refine ⟨_, s5' _ _ hq1, by rw [List.length_map, hq2']; exact small1000 (by omega), (s3.trans s5').put he1, qs' ++ [b], by rw [upd_same, List.map_append]; rfl, by rw [List.length_append, hq2']; rfl, fun k' b' l z1 z2 => ?_⟩
                      by_cases hk : k' < qs'.length
                      · rw [List.getElem?_append_left hk] at z1
                        obtain ⟨y1, y2, y3⟩ := hq3' k' b' l z1 z2
                        exact ⟨y1, y2, by rw [upd_ne y1]; exact s5' _ _ y3⟩
                      · have hk2 : k' = qs'.length := by
                          have := (List.getElem?_eq_some_iff.mp z1).1
                          rw [List.length_append] at this
                          have h1 : ([b] : List Addr).length = 1 := rfl
                          omega
                        subst hk2
                        rw [List.getElem?_append_right (Nat.le_refl _), Nat.sub_self] at z1
                        have eb : b = b' := Option.some.inj z1
                        subst eb
                        rw [hq2', hkl2] at z2
                        have el := Option.some.inj z2
                        refine ⟨hbe, ⟨hbw, hbd⟩, ?_⟩
                        rw [upd_ne hbe, hb5, ← el, ← hls]
                        by_cases hkj : k = j
                        · rw [if_pos hkj, if_pos hkj]
                          split <;> rfl
                        · rw [if_neg hkj, if_neg hkj]
                          split <;> rfl
                  · rintro H3 ⟨s3, qs', hq1, hq2', hq3'⟩
                    refine ⟨by omega, some (.int n), e1, some (.ref e), rfl, s11.trans s3, s3 _ _ hd11, s3 _ _ hw11, ⟨(ne_of_none hw11 he1).symm, (ne_of_none hd11 he1).symm⟩, qs', hq1, ?_, fun k b l z1 z2 => ?_⟩
                    · rw [hq2', List.length_map, hu2, lone_len, lone_len]
                    · obtain ⟨_, y2, y3⟩ := hq3' k b l z1 z2
                      exact ⟨y2, y3⟩
          · have hm0 : m = 0 := by omega
            subst hm0
            refine ifF (decide_eq_false h0) ?_
            rw [Nat.sub_zero] at hw4
            exact ⟨_, rfl, wr, _, rfl, .inl ⟨SqL.of hw4, fun l hl => q _ l (s4.trans (Same.new hl)) (SqT.of upd_same)⟩⟩
/-! ### way -/
def spWay (K : PySem.W.Frag) : Sp := fun vs H Q _ => ∃ (o a b : Addr) (p c j : Nat) (n : Int) (L M : List (List Int)), vs = [.ref o, .ref a, .ref b] ∧ OfAt K H o p c ∧ Fine p c ∧ HardAt K H a L ∧ Stt p c L ∧ StAt K H b M ∧ Stt p c M ∧
  chs c L M = lone c j [(n, (c : Int))] ∧ j < c ∧ ∀ H' t, Same H H' → SqT K H' t (List.replicate c (.int n)) → Q (.ref t) H'
theorem scWay : FnScope ["office", "one", "other"] ["office", "one", "other"] (defScope sWay) := ⟨rfl, rfl, rfl, by decide +kernel, rfl, by decide +kernel, by decide +kernel⟩
theorem ok_way (GS : Kept P w K mg base 4 "need_state" ["office", "state"] (spLns K)) (GN : Kept P w K mg base 3 "need_lines" ["office", "state"] (spLns K)) (GL : Kept P w K mg base 1 "least_way_in" ["chains"] (spLwi K))
    (GC : Kept P w K mg base 3 "chains_in" ["one", "other", "many"] (spChn K)) (GK : Kept P w K mg base 1 "kept_in" ["one", "other"] (spKin K))
    (D : Def K mg "way" sWay ["office", "one", "other"]) : Kept P w K mg base 5 "way" ["office", "one", "other"] (spWay K) := by
  refine kept_of D scWay (fun vs H Q E h => ?_) (fun _ _ f cdv A outer s H vs Q E hr h => ?_)
  · obtain ⟨o, a, b, p, c, j, n, L, M, rfl, _⟩ := h; rfl
  · obtain ⟨o, a, b, p, c, j, n, L, M, rfl, ho, fi, ha, SL, hb, SM, hch, hj, q⟩ := h
    refine ⟨_, pss_cons (ps_expr (pe_use GS hr (by rfl) (pa_cons (pv 0) (pa_cons (pv 1) pa_nil)))) <| pss_cons (ps_expr (pe_use GN (hr.mono (by decide)) (by rfl) (pa_cons (pv 0) (pa_cons (pv 2) pa_nil)))) <|
      pss_one (ps_ret (pe_use GL (hr.mono (by decide)) (by rfl) (pa_cons (pe_use GC (hr.mono (by decide)) (by rfl) (pa_cons (pv 1) (pa_cons (pv 2) (pa_cons (pe_use GK (hr.mono (by decide)) (by rfl) (pa_cons (pv 1) (pa_cons (pv 2) pa_nil))) pa_nil)))) pa_nil))), ?_⟩
    refine ⟨_, rfl, _, rfl, o, a, p, c, L, rfl, ho, fi, ha.st, SL, fun H1 s1 => ?_⟩
    refine ⟨_, rfl, _, rfl, o, b, p, c, M, rfl, ho.same s1, fi, hb.same s1, SM, fun H2 s2 => ?_⟩
    have s12 := s1.trans s2
    obtain ⟨f1, f2⟩ := fine_len fi SM
    refine ⟨_, rfl, _, rfl, _, rfl, _, rfl, a, b, L, M, rfl, ha.same s12, hb.same s12, by rw [SM.len, SL.len], f1, f2, fun H3 m s3 hm0 hm => ?_⟩
    have s13 := s12.trans s3
    refine ⟨a, b, m, p, c, L, M, rfl, (ha.same s13).st, hb.same s13, hm, SL, SM, fi, fun H4 fo s4 hC => ?_⟩
    rw [hch] at hC
    exact ⟨fo, c, j, n, rfl, hC, hj, fi.2.2.2, fun H5 t s5 ht => q H5 t ((s13.trans s4).trans s5) ht⟩
end
end Cl
set_option Elab.async false
set_option linter.all false
set_option maxRecDepth 100000
set_option maxHeartbeats 8000000
/-! The walk of _law_taken. -/
namespace Cl
open PySem PySem.Spec PyProof.Rows L2
abbrev sTak : Stmt := top 31
/-- the heap but for one cell -/
def But (r : Addr) (H H' : Hp) : Prop := ∀ b o, b ≠ r → H b = some o → H' b = some o
theorem But.refl {r : Addr} {H : Hp} : But r H H := fun _ _ _ e => e
theorem But.trans {r : Addr} {H H' H2 : Hp} (a : But r H H') (b : But r H' H2) : But r H H2 := fun x o n e => b x o n (a x o n e)
theorem But.put {r : Addr} {H H' : Hp} {o : HO} (a : But r H H') : But r H (upd H' r o) := fun x u n e => by rw [upd_ne n]; exact a x u n e
theorem But.of {r : Addr} {H H' : Hp} (a : Same H H') : But r H H' := fun x u _ e => a x u e
/-- the law's row of what is left of the script; the script as the heap H0 has it -/
def RowAt (K : PySem.W.Frag) (H0 H : Hp) (r : Addr) : Prop :=
  ∃ (sc : Addr) (ns : List Int) (i1 : Nat) (i2 i3 : Int), H r = some (.lst [.ref sc, .int (i1 : Nat), .int i2, .int i3]) ∧ ∀ H', But r H0 H' → SqL K H' sc (ns.map V.int)
theorem RowAt.keep {K : PySem.W.Frag} {H0 H H' : Hp} {r : Addr} (e : H' r = H r) (h : RowAt K H0 H r) : RowAt K H0 H' r := by
  obtain ⟨sc, ns, i1, i2, i3, h1, h2⟩ := h
  exact ⟨sc, ns, i1, i2, i3, e.trans h1, h2⟩
theorem RowAt.same {K : PySem.W.Frag} {H0 H H' : Hp} {r : Addr} (e : Same H H') (h : RowAt K H0 H r) : RowAt K H0 H' r := by
  obtain ⟨sc, ns, i1, i2, i3, h1, h2⟩ := h
  exact ⟨sc, ns, i1, i2, i3, e _ _ h1, h2⟩
section
variable {P : Program} {w : World} {K : PySem.W.Frag} {mg : Str → Option Value} {base : Heap}
def spTak (K : PySem.W.Frag) : Sp := fun vs H Q _ => ∃ (r : Addr) (m : Int) (H0 : Hp), vs = [.ref r, .int m] ∧ RowAt K H0 H r ∧ But r H0 H ∧ 0 < m ∧ m < 1000 ∧ ∀ H' v, But r H H' → RowAt K H0 H' r → 0 ≤ v → v < m → Q (.int v) H'
theorem scTak : FnScope ["_law_row", "_law_many", "_law_found", "_law_cell"] ["_law_row", "_law_many"] (defScope sTak) := ⟨rfl, rfl, rfl, by decide +kernel, rfl, by decide +kernel, by decide +kernel⟩
theorem ok_tak (B : Blt mg) (D : Def K mg "_law_taken" sTak ["_law_row", "_law_many"]) : Kept P w K mg base 1 "_law_taken" ["_law_row", "_law_many"] (spTak K) := by
  refine kept_of D scTak (fun vs H Q E h => ?_) (fun _ _ f cdv A outer s H vs Q E hr h => ?_)
  · obtain ⟨r, m, H0, rfl, _⟩ := h; rfl
  · obtain ⟨r, m, H0, rfl, ⟨sc, ns, i1, i2, i3, hr0, hsc⟩, b0, m0, m1, q⟩ := h
    refine ⟨_, pss_cons (ps_if (pt_cmpR op_gt (pe_ix ix_list (pv 0) pe_int (fun _ _ => rfl)) pe_int (nomark _))
        (pss_cons (ps_set (i := 2) scTak.nd rfl (.inl rfl) (pe_op op_mod (pe_callTy call_int1 (by rfl) B.int (by decide +kernel) (pa_cons (pe_ix ix_list (pv 0) pe_int (fun _ _ => rfl)) pa_nil)) (pv 1))) <|
          pss_cons (ps_asg (pe_op op_fdiv (pe_ix ix_list (pv 0) pe_int (fun _ _ => rfl)) (pv 1)) (pg_sub (pv 0) pe_int set_list)) <| pss_one (ps_ret (pv 2))) pss_nil) <|
      pss_cons (ps_asg (pe_op op_add (pe_ix ix_list (pv 0) pe_int (fun _ _ => rfl)) pe_int) (pg_sub (pv 0) pe_int set_list)) <|
      pss_cons (ps_if (pt_cmpR op_gt (pe_ix ix_list (pv 0) pe_int (fun _ _ => rfl)) (pe_callB call_len_seq (by rfl) B.len PySem.boot_len (pa_cons (pe_ix ix_list (pv 0) pe_int (fun _ _ => rfl)) pa_nil)) (nomark _))
        (pss_cons (ps_asg (pe_op op_mod (pe_callTy call_int1 (by rfl) B.int (by decide +kernel) (pa_cons (pe_op op_add (pe_op op_mul (pe_ix ix_list (pv 0) pe_int (fun _ _ => rfl)) pe_int) pe_int) pa_nil)) pe_int) (pg_sub (pv 0) pe_int set_list)) <|
          pss_one (ps_ret (pe_op op_mod (pe_callTy call_int1 (by rfl) B.int (by decide +kernel) (pa_cons (pe_op op_fdiv (pe_ix ix_list (pv 0) pe_int (fun _ _ => rfl)) pe_int) pa_nil)) (pv 1)))) pss_nil) <|
      pss_cons (ps_set (i := 3) scTak.nd rfl (.inl rfl) (pe_ix ix_list (pe_ix ix_list (pv 0) pe_int (fun _ _ => rfl)) (pe_op op_sub (pe_ix ix_list (pv 0) pe_int (fun _ _ => rfl)) pe_int) (fun _ _ => rfl))) <|
      pss_cons (ps_asg (pe_op op_mod (pe_callTy call_int1 (by rfl) B.int (by decide +kernel) (pa_cons (pe_op op_add (pe_op op_add (pe_op op_mul (pe_ix ix_list (pv 0) pe_int (fun _ _ => rfl)) pe_int) (pv 3)) pe_int) pa_nil)) pe_int) (pg_sub (pv 0) pe_int set_list)) <|
      pss_cons (ps_if (pt_cmpR op_ge (pv 3) (pe_op op_pow pe_int pe_int) (nomark _)) (pss_one (ps_asg (pe_op op_fdiv (pv 3) (pv 1)) (pg_sub (pv 0) pe_int set_list))) pss_nil) <|
      pss_one (ps_ret (pe_op op_mod (pe_callTy call_int1 (by rfl) B.int (by decide +kernel) (pa_cons (pv 3) pa_nil)) (pv 1))), ?_⟩
    have m2 : m < 1073741824 := by omega
    have hmod : ∀ x : Int, 0 ≤ x % m ∧ x % m < m := fun x => ⟨Int.emod_nonneg _ (by omega), Int.emod_lt_of_pos _ m0⟩
    have sq : ∀ {H' : Hp} {x1 x2 x3 : V}, H' r = some (.lst [.ref sc, x1, x2, x3]) → SqL K H' r [.ref sc, x1, x2, x3] := fun e => SqL.of e
    have mk : ∀ {H' : Hp} {j1 : Nat} {j2 j3 : Int}, But r H H' → H' r = some (.lst [.ref sc, .int (j1 : Nat), .int j2, .int j3]) → RowAt K H0 H' r := fun b e => ⟨sc, ns, _, _, _, e, hsc⟩
    refine ⟨_, rfl, r, _, 3, _, rfl, rfl, sq hr0, atI_nat (j := 3) rfl, _, _, rfl, rfl, decide (0 < i3), rfl, ?_⟩
    by_cases h3 : 0 < i3
    · refine ifT (decide_eq_true h3) ⟨_, rfl, r, _, 3, _, rfl, rfl, sq hr0, atI_nat (j := 3) rfl, .inl ⟨_, rfl, _, rfl, _, _, rfl, rfl, m0, ?_⟩⟩
      refine ⟨_, rfl, r, _, 3, _, rfl, rfl, sq hr0, atI_nat (j := 3) rfl, _, rfl, _, _, rfl, rfl, ⟨m0, m2⟩, _, rfl, r, _, 3, 3, rfl, rfl, hr0, rfl, ?_⟩
      exact ⟨_, rfl, q _ _ But.refl.put (mk But.refl.put upd_same) (hmod i3).1 (hmod i3).2⟩
    refine ifF (decide_eq_false h3) ?_
    refine ⟨_, rfl, r, _, 1, _, rfl, rfl, sq hr0, atI_nat (j := 1) rfl, _, _, rfl, rfl, _, rfl, r, _, 1, 1, rfl, rfl, hr0, rfl, ?_⟩
    have hr1 : (upd H r (.lst (([.ref sc, .int (i1 : Nat), .int i2, .int i3] : List V).set 1 (.int ((i1 : Nat) + 1 : Int))))) r = some (.lst [.ref sc, .int ((i1 + 1 : Nat) : Int), .int i2, .int i3]) := upd_same
    have b1 : But r H (upd H r (.lst (([.ref sc, .int (i1 : Nat), .int i2, .int i3] : List V).set 1 (.int ((i1 : Nat) + 1 : Int))))) := But.refl.put
    generalize upd H r (.lst (([.ref sc, .int (i1 : Nat), .int i2, .int i3] : List V).set 1 (.int ((i1 : Nat) + 1 : Int)))) = H1 at hr1 b1
    have hs1 := hsc H1 (b0.trans b1)
    refine ⟨_, rfl, r, _, 1, _, rfl, rfl, sq hr1, atI_nat (j := 1) rfl, _, rfl, r, _, 0, _, rfl, rfl, sq hr1, atI_nat (j := 0) rfl, sc, _, rfl, .inl hs1, _, _, rfl, rfl, decide (((ns.map V.int).length : Int) < ((i1 + 1 : Nat) : Int)), rfl, ?_⟩
    by_cases h4 : ((ns.map V.int).length : Int) < ((i1 + 1 : Nat) : Int)
    · refine ifT (decide_eq_true h4) ?_
      refine ⟨_, rfl, r, _, 2, _, rfl, rfl, sq hr1, atI_nat (j := 2) rfl, _, _, rfl, rfl, .inr ⟨by decide, by decide⟩, _, _, rfl, rfl, .inl ⟨_, rfl, _, _, rfl, rfl, (show (0 : Int) < 2147483647 by decide), _, rfl, r, _, 2, 2, rfl, rfl, hr1, rfl, ?_⟩⟩
      refine ⟨_, rfl, r, _, 2, _, rfl, rfl, SqL.of upd_same, atI_nat (j := 2) rfl, _, _, rfl, rfl, ⟨by decide, by decide⟩, .inl ⟨_, rfl, _, rfl, _, _, rfl, rfl, m0, ?_⟩⟩
      exact q _ _ b1.put (mk b1.put upd_same) (hmod _).1 (hmod _).2
    refine ifF (decide_eq_false h4) ?_
    rw [List.length_map] at h4
    have hi1 : i1 < ns.length := by omega
    have hcell : (ns.map V.int)[i1]? = some (.int ns[i1]) := at_int (List.getElem?_eq_getElem hi1)
    generalize ns[i1] = cell at hcell
    refine ⟨_, rfl, r, _, 0, _, rfl, rfl, sq hr1, atI_nat (j := 0) rfl, _, rfl, r, _, 1, _, rfl, rfl, sq hr1, atI_nat (j := 1) rfl, _, _, rfl, rfl, sc, _, _, _, rfl, rfl, hs1, (show atI (ns.map V.int) (((i1 + 1 : Nat) : Int) - 1) = some (.int cell) by rw [show ((i1 + 1 : Nat) : Int) - 1 = (i1 : Nat) by omega]; exact atI_nat hcell), ?_⟩
    -- the seed goes on
    refine ⟨_, rfl, r, _, 2, _, rfl, rfl, sq hr1, atI_nat (j := 2) rfl, _, _, rfl, rfl, .inr ⟨by decide, by decide⟩, _, rfl, _, _, rfl, rfl, _, _, rfl, rfl, .inl ⟨_, rfl, _, _, rfl, rfl, (show (0 : Int) < 2147483647 by decide), _, rfl, r, _, 2, 2, rfl, rfl, hr1, rfl, ?_⟩⟩
    refine ⟨_, rfl, _, _, rfl, rfl, ⟨by decide, by decide, by decide⟩, _, _, rfl, rfl, decide ((10 : Int) ^ (18 : Int).toNat ≤ cell), rfl, ?_⟩
    by_cases h5 : (10 : Int) ^ (18 : Int).toNat ≤ cell
    · refine ifT (decide_eq_true h5) ?_
      refine ⟨_, rfl, _, rfl, _, _, rfl, rfl, ⟨m0, m2⟩, _, rfl, r, _, 3, 3, rfl, rfl, upd_same, rfl, ?_⟩
      exact ⟨_, rfl, .inl ⟨_, rfl, _, rfl, _, _, rfl, rfl, m0, q _ _ b1.put.put (mk b1.put.put upd_same) (hmod cell).1 (hmod cell).2⟩⟩
    · refine ifF (decide_eq_false h5) ?_
      exact ⟨_, rfl, .inl ⟨_, rfl, _, rfl, _, _, rfl, rfl, m0, q _ _ b1.put (mk b1.put upd_same) (hmod cell).1 (hmod cell).2⟩⟩
end
end Cl
set_option Elab.async false
set_option linter.all false
set_option maxRecDepth 100000
set_option maxHeartbeats 8000000
/-! The walk of _law_state. -/
namespace Cl
open PySem PySem.Spec PyProof.Rows L2
abbrev sSte : Stmt := top 32
abbrev nSte : List Str := ["_law_row", "_law_office", "_law_lines", "_law_left", "_law_turn", "_law_counter", "_law_line"]
theorem scSte : FnScope nSte ["_law_row", "_law_office"] (defScope sSte) := ⟨rfl, rfl, rfl, by decide +kernel, rfl, by decide +kernel, by decide +kernel⟩
def rTupH (K : PySem.W.Frag) : List V → Hp → VK → Prop := fun xs H Q => ∃ p ys, xs = [.ref p] ∧ SqL K H p ys ∧ ∀ l H', H l = none → Hard H' l ys → Same H H' → Q (.ref l) H'
theorem callH {X : Cx} (K : PySem.W.Frag) (hK : X.K = K := by rfl) : CallR X (.type "tuple") (rTupH K) := hK ▸ call_tupleH
theorem But.tup {K : PySem.W.Frag} {r a : Addr} {H H' : Hp} {us xs : List V} (e : But r H H') (hr : H r = some (.lst us)) (h : SqT K H a xs) : SqT K H' a xs := by
  have ne : ∀ o, H a = some o → (∀ ys, o ≠ .lst ys) → a ≠ r := fun o e1 e2 z => by
    subst z
    rw [hr] at e1
    exact e2 us (Option.some.inj e1).symm
  rcases h with (h | ⟨o, h⟩) | h
  · exact .inl (.inl (e _ _ (ne _ h (fun _ z => by cases z)) h))
  · exact .inl (.inr ⟨o, e _ _ (ne _ h (fun _ z => by cases z)) h⟩)
  · exact .inr h
theorem But.hard {r a : Addr} {H H' : Hp} {us xs : List V} (e : But r H H') (hr : H r = some (.lst us)) (h : Hard H a xs) : Hard H' a xs := by
  obtain ⟨o, h1, h2⟩ := h
  refine ⟨o, e _ _ (fun z => ?_) h1, h2⟩
  subst z
  rw [hr] at h1
  cases h1
theorem But.state {K : PySem.W.Frag} {r a : Addr} {H H' : Hp} {us : List V} {L : List (List Int)} (e : But r H H') (hr : H r = some (.lst us)) (h : HardAt K H a L) : HardAt K H' a L := by
  obtain ⟨as, h1, h2, h3⟩ := h
  exact ⟨as, e.tup hr h1, h2, fun i b l x y => e.hard hr (h3 i b l x y)⟩
theorem But.new {r p : Addr} {H H' : Hp} {o : HO} (e : But r H H') (h : H p = none) : But r H (upd H' p o) := fun x u n y => by
  rw [upd_ne (ne_of_none y h)]
  exact e x u n y
theorem erase_perm {l : List Int} {k : Nat} {x : Int} (h : l[k]? = some x) : (x :: l.eraseIdx k).Perm l := by
  obtain ⟨h1, h2⟩ := List.getElem?_eq_some_iff.mp h
  have e : l = l.take k ++ (x :: l.drop (k + 1)) := by
    rw [← h2, ← List.drop_eq_getElem_cons h1, List.take_append_drop]
  rw [List.eraseIdx_eq_take_drop_succ]
  conv => rhs; rw [e]
  exact List.perm_middle.symm
theorem erase_map (l : List Int) (k : Nat) : (l.map V.int).eraseIdx k = (l.eraseIdx k).map V.int := by
  rw [List.eraseIdx_eq_take_drop_succ, List.eraseIdx_eq_take_drop_succ, List.map_append, List.map_take, List.map_drop]
theorem nodup_at {l : List Addr} (h : l.Nodup) {i j : Nat} {x : Addr} (h1 : l[i]? = some x) (h2 : l[j]? = some x) : i = j := by
  obtain ⟨a1, a2⟩ := List.getElem?_eq_some_iff.mp h1
  obtain ⟨b1, b2⟩ := List.getElem?_eq_some_iff.mp h2
  have hp := List.pairwise_iff_getElem.mp h
  rcases Nat.lt_trichotomy i j with z | z | z
  · exact absurd (a2.trans b2.symm) (hp i j a1 b1 z)
  · exact z
  · exact absurd (b2.trans a2.symm) (hp j i b1 a1 z)
theorem RowAt.lst {K : PySem.W.Frag} {H0 H : Hp} {r : Addr} (h : RowAt K H0 H r) : ∃ us, H r = some (.lst us) := let ⟨_, _, _, _, _, h1, _⟩ := h; ⟨_, h1⟩
section
variable {P : Program} {w : World} {K : PySem.W.Frag} {mg : Str → Option Value} {base : Heap}
def spSte (K : PySem.W.Frag) : Sp := fun vs H Q _ => ∃ (r o : Addr) (p c : Nat) (H0 : Hp), vs = [.ref r, .ref o] ∧ RowAt K H0 H r ∧ But r H0 H ∧ OfAt K H o p c ∧ Fine p c ∧ ∀ H' a L, But r H H' → RowAt K H0 H' r → HardAt K H' a L → Stt p c L → Q (.ref a) H'
theorem ok_ste (B : Blt mg) (GT : Kept P w K mg base 1 "_law_taken" ["_law_row", "_law_many"] (spTak K)) (D : Def K mg "_law_state" sSte ["_law_row", "_law_office"]) : Kept P w K mg base 2 "_law_state" ["_law_row", "_law_office"] (spSte K) := by
  refine kept_of D scSte (fun vs H Q E h => ?_) (fun _ _ f cdv A outer s H vs Q E hr h => ?_)
  · obtain ⟨r, o, p, c, H0, rfl, _⟩ := h; rfl
  · obtain ⟨r, o, p, c, H0, rfl, hR, b0, ho, fi, q⟩ := h
    refine ⟨_, pss_cons (ps_par (i := 2) (j := 3) rfl scSte.nd rfl rfl (by decide) rfl rfl (pa_cons
          (pe_lc (own := [("_law_counter", 5)]) (g := gName 5) (tt := tYes) rfl scSte.nd (pi_range1 (by rfl) B.range (pa_cons (pe_ix ix_tup (pv 1) pe_int (fun _ _ => rfl)) pa_nil)) (blkOk_by (N := nSte) (sc := defScope sSte) (by decide +kernel)) (fun _ _ _ _ _ => pg_name (i := 5) scSte.nd rfl (.inl rfl)) (fun _ _ _ _ _ => pts_nil)
            (fun _ _ _ _ _ => pe_lst pa_nil))
          (pa_cons (pe_listRg rfl (by rfl) B.list (prg_1 (by rfl) B.range (pe_ix ix_tup (pv 1) pe_int (fun _ _ => rfl)))) pa_nil)) (by rfl)) <|
      pss_cons (ps_for PassesOwn.never rfl (pi_range1 (by rfl) B.range (pa_cons (pe_ix ix_tup (pv 1) pe_int (fun _ _ => rfl)) pa_nil)) (pg_name (i := 4) scSte.nd rfl (.inl rfl))
        (pss_one (ps_expr (pe_bm PySem.F.plainAttrs_list PySem.F.slot_list_append PySem.F.type_list_append mt_append
          (pe_ix ix_list (pv 2) (pe_use GT hr (by rfl) (pa_cons (pv 0) (pa_cons (pe_ix ix_tup (pv 1) pe_int (fun _ _ => rfl)) pa_nil))) (fun _ _ => rfl))
          (pa_cons (pe_bm PySem.F.plainAttrs_list PySem.F.slot_list_pop PySem.F.type_list_pop mt_popAt (pv 3) (pa_cons (pe_use GT hr (by rfl) (pa_cons (pv 0) (pa_cons (pe_callB call_len_seq (by rfl) B.len PySem.boot_len (pa_cons (pv 3) pa_nil)) pa_nil))) pa_nil)) pa_nil))))) <|
      pss_one (ps_ret (pe_callTy call_tuple_of (by rfl) B.tuple (by decide +kernel) (pa_cons
        (pe_lc (own := [("_law_line", 6)]) (g := gName 6) (tt := tYes) rfl scSte.nd (pi_list (pv 2)) (blkOk_by (N := nSte) (sc := defScope sSte) (by decide +kernel)) (fun _ _ _ _ _ => pg_name (i := 6) scSte.nd rfl (.inl rfl)) (fun _ _ _ _ _ => pts_nil)
          (fun _ _ _ _ _ => pe_callTy (callH K) (by rfl) B.tuple (by decide +kernel) (pa_cons (pv 6) pa_nil))) pa_nil))), ?_⟩
    have hc1 := fi.2.2.1
    have hc6 := fi.2.2.2
    have hp1 := fi.1
    have hp7 := fi.2.1
    obtain ⟨us0, hus0⟩ := hR.lst
    have g1 : atI ([.int (p : Nat), .int (c : Nat)] : List V) ((0 : Nat) : Int) = some (.int (p : Nat)) := atI_nat rfl
    have g2 : atI ([.int (p : Nat), .int (c : Nat)] : List V) ((1 : Nat) : Int) = some (.int (c : Nat)) := atI_nat rfl
    -- lines = [[] for ..]
    refine ⟨_, rfl, o, _, 1, _, rfl, rfl, ho, g2, (c : Int), rfl, by omega, by omega, fun ln hln => lc_range (lo := 0) (n := (c : Int).toNat) (fun i H2 => Same H H2 ∧ ∃ qs : List Addr, H2 ln = some (.lst (qs.map V.ref)) ∧ qs.Nodup ∧ qs.length = i ∧ ∀ q ∈ qs, q ≠ ln ∧ H q = none ∧ H2 q = some (.lst []))
      ⟨Same.new hln, [], upd_same, List.nodup_nil, rfl, fun q z => by cases z⟩ ?_ ?_⟩
    · rintro i H2 hi ⟨s2, qs, hq1, hq2, hq3, hq4⟩
      refine ⟨rfl, turnT ⟨Nat.zero_le _, fun e he => ?_⟩⟩
      have hle : ln ≠ e := ne_of_none hq1 he
      have heq : ∀ q ∈ qs, q ≠ e := fun q z => ne_of_none (hq4 q z).2.2 he
      refine ⟨_, by rw [upd_ne hle]; exact hq1, by rw [List.length_map, hq3]; exact small1000 (by omega), (s2.trans (Same.new he)).put hln, qs ++ [e], by rw [upd_same, List.map_append]; rfl, ?_, by rw [List.length_append, hq3]; rfl, fun q z => ?_⟩
      · rw [List.nodup_append]
        refine ⟨hq2, List.nodup_cons.mpr ⟨List.not_mem_nil, List.nodup_nil⟩, fun a ha b hb => ?_⟩
        obtain rfl := List.mem_singleton.mp hb
        exact heq a ha
      · rcases List.mem_append.mp z with z | z
        · obtain ⟨y1, y2, y3⟩ := hq4 q z
          exact ⟨y1, y2, by rw [upd_ne y1, upd_ne (heq q z)]; exact y3⟩
        · obtain rfl := List.mem_singleton.mp z
          exact ⟨hle.symm, s2.free he, by rw [upd_ne hle.symm]; exact upd_same⟩
    rintro H2 ⟨s2, qs, hq1, hq2, hq3, hq4⟩
    rw [Int.toNat_natCast] at hq3
    -- left = list(range(people))
    refine ⟨_, rfl, o, _, 0, _, rfl, rfl, s2.tup ho, g1, (p : Int), rfl, RgOk.of_le (Int.le_refl _) (by omega) (by decide) (by omega), fun lf hlf => ?_⟩
    rw [rg_ppl]
    have hlnf : ln ≠ lf := ne_of_none hq1 hlf
    have s3 : Same H (upd H2 lf (.lst ((ppl p).map V.int))) := s2.trans (Same.new hlf)
    have hqf : ∀ q ∈ qs, q ≠ lf := fun q z => ne_of_none (hq4 q z).2.2 hlf
    have hlfH : H lf = none := s2.free hlf
    -- the turns
    refine ⟨_, _, rfl, _, rfl, o, _, 0, _, rfl, rfl, s3.tup ho, g1, (p : Int), rfl, by omega, by omega, for_range (lo := 0) (n := (p : Int).toNat) (fun t σ H3 => ∃ (v4 : Option V) (ls : List (List Int)) (rem : List Int),
      σ = [some (.ref r), some (.ref o), some (.ref ln), some (.ref lf), v4, none, none] ∧ But r H H3 ∧ RowAt K H0 H3 r ∧ H3 ln = some (.lst (qs.map V.ref)) ∧ H3 lf = some (.lst (rem.map V.int)) ∧ rem.length + t = p ∧ ls.length = c ∧ (ls.flatten ++ rem).Perm (ppl p) ∧
      ∀ (i : Nat) (q : Addr) (l : List Int), qs[i]? = some q → ls[i]? = some l → H3 q = some (.lst (l.map V.int)))
      ⟨none, List.replicate c [], ppl p, rfl, But.of s3, hR.same s3, by rw [upd_ne hlnf]; exact hq1, upd_same, ppl_len p, List.length_replicate, by simp, fun i q l z1 z2 => ?_⟩ ?_ ?_⟩
    · have hm := List.mem_of_getElem? z1
      rw [upd_ne (hqf q hm), (hq4 q hm).2.2]
      have hl := List.mem_of_getElem? z2
      rw [List.eq_of_mem_replicate hl]
      rfl
    · rintro t σ H3 ht ⟨v4, ls, rem, rfl, b3, hR3, hn3, hf3, hrem, hls, hperm, hqs⟩
      have hnr : ln ≠ r := fun z => by subst z; rw [hln] at hus0; cases hus0
      have hfr : lf ≠ r := fun z => by subst z; rw [hlfH] at hus0; cases hus0
      have hqr : ∀ y ∈ qs, y ≠ r := fun y z1 z2 => by
        have z3 := (hq4 y z1).2.1
        rw [z2, hus0] at z3
        cases z3
      -- lines[taken(..)]
      refine ⟨_, rfl, _, rfl, _, rfl, o, _, 1, _, rfl, rfl, b3.tup hus0 ho, g2, r, _, H0, rfl, hR3, b0.trans b3, by omega, by omega, fun H4 v1 b4 hR4 v10 v11 => ?_⟩
      have hn4 := b4 _ _ hnr hn3
      have hv1 : v1.toNat < qs.length := by omega
      have hq : qs[v1.toNat]? = some qs[v1.toNat] := List.getElem?_eq_getElem hv1
      generalize qs[v1.toNat] = q1 at hq
      have hl : ls[v1.toNat]? = some ls[v1.toNat] := List.getElem?_eq_getElem (by omega)
      generalize ls[v1.toNat] = l1 at hl
      have hq1m := List.mem_of_getElem? hq
      have hq14 := b4 _ _ (hqr q1 hq1m) (hqs _ _ _ hq hl)
      have hat : atI (qs.map V.ref) v1 = some (.ref q1) := by
        rw [← Int.toNat_of_nonneg v10]
        exact atI_nat (at_ref hq)
      refine ⟨ln, _, v1, _, rfl, rfl, SqL.of hn4, hat, .inl ⟨rfl, _, SqL.of hq14⟩, ?_⟩
      -- left.pop(taken(..))
      have hf4 := b4 _ _ hfr hf3
      refine ⟨_, rfl, .inl ⟨rfl, _, SqL.of hf4⟩, _, rfl, _, rfl, lf, _, rfl, .inl (SqL.of hf4), r, _, H0, rfl, hR4, (b0.trans b3).trans b4, ?_, ?_, fun H5 v2 b5 hR5 v20 v21 => ?_⟩
      · rw [List.length_map]; omega
      · rw [List.length_map]; omega
      rw [List.length_map] at v21
      have hf5 := b5 _ _ hfr hf4
      have hq15 := b5 _ _ (hqr q1 hq1m) hq14
      have hn5 := b5 _ _ hnr hn4
      have hv2 : v2.toNat < rem.length := by omega
      have hx : rem[v2.toNat]? = some rem[v2.toNat] := List.getElem?_eq_getElem hv2
      generalize rem[v2.toNat] = x at hx
      have hper := erase_perm hx
      refine ⟨lf, _, v2, v2.toNat, _, rfl, rfl, hf5, by omega, by omega, seqIndex_of v20 (by rw [List.length_map]; exact v21), at_int hx, q1, _, _, rfl, rfl, by rw [upd_ne (hqf q1 hq1m)]; exact hq15, ?_, ?_⟩
      · rw [List.length_map]
        have h1 := hperm.length_eq
        rw [List.length_append, ppl_len] at h1
        have h2 : l1.length ≤ ls.flatten.length := by
          exact (List.sublist_flatten_of_mem (List.mem_of_getElem? hl)).length_le
        exact small1000 (by omega)
      · have hlfq : lf ≠ q1 := (hqf q1 hq1m).symm
        have hlnq : ln ≠ q1 := (hq4 q1 hq1m).1.symm
        have b35 := (b3.trans b4).trans b5
        refine ⟨some (.int (0 + (t : Nat))), ls.set v1.toNat (l1 ++ [x]), rem.eraseIdx v2.toNat, rfl, (b35.new hlfH).new (hq4 q1 hq1m).2.1, ?_, ?_, ?_, ?_, ?_, ?_, ?_⟩
        · exact hR5.keep (by rw [upd_ne (hqr q1 hq1m).symm, upd_ne hfr.symm])
        · rw [upd_ne hlnq, upd_ne hlnf]; exact hn5
        · rw [upd_ne hlfq, upd_same, erase_map]
        · rw [List.length_eraseIdx_of_lt hv2]; omega
        · rw [List.length_set]; exact hls
        · refine ((flat_push hl).append_right _).trans (List.Perm.trans ?_ hperm)
          show (x :: (ls.flatten ++ rem.eraseIdx v2.toNat)).Perm _
          exact List.perm_middle.symm.trans (List.Perm.append_left _ hper)
        · intro i y l z1 z2
          by_cases hi : i = v1.toNat
          · subst hi
            rw [hq] at z1
            cases z1
            rw [List.getElem?_set_self (by omega)] at z2
            cases z2
            rw [upd_same, List.map_append]
            rfl
          · have hym := List.mem_of_getElem? z1
            have hyq : y ≠ q1 := fun z => by
              subst z
              exact hi (nodup_at hq2 z1 hq)
            rw [List.getElem?_set_ne (fun z => hi z.symm)] at z2
            rw [upd_ne hyq, upd_ne (hqf y hym)]
            exact b5 _ _ (hqr y hym) (b4 _ _ (hqr y hym) (hqs i y l z1 z2))
    · rintro σ H3 ⟨v4, ls, rem, rfl, b3, hR3, hn3, hf3, hrem, hls, hperm, hqs⟩
      rw [Int.toNat_natCast] at hrem
      have hr0 : rem = [] := List.eq_nil_of_length_eq_zero (by omega)
      subst hr0
      rw [List.append_nil] at hperm
      refine ⟨_, rfl, ln, rfl, ⟨_, SqL.of hn3⟩, fun d hd => lc_list (K := K) (a := ln) (xs := qs.map V.ref) (fun i H4 => Same H3 H4 ∧ ∃ ts : List Addr, H4 d = some (.lst (ts.map V.ref)) ∧ ts.length = i ∧ ∀ (k : Nat) (b : Addr) (l : List Int), ts[k]? = some b → ls[k]? = some l → Hard H4 b (l.map V.int))
        ⟨Same.new hd, [], upd_same, rfl, fun k b l z => by simp at z⟩ (fun i H4 _ h => SqL.of (h.1 _ _ hn3)) ?_ ?_⟩
      · rintro i x H4 hx ⟨s4, ts, ht1, ht2, ht3⟩
        obtain ⟨q1, hq, rfl⟩ := ref_at hx
        have hiq := (List.getElem?_eq_some_iff.mp hq).1
        have hl : ls[i]? = some ls[i] := List.getElem?_eq_getElem (by omega)
        generalize ls[i] = l1 at hl
        refine ⟨rfl, turnT ⟨_, rfl, q1, _, rfl, SqL.of (s4 _ _ (hqs _ _ _ hq hl)), fun l H5 hl0 hH s5 => ⟨_, s5 _ _ ht1, ?_, ?_⟩⟩⟩
        · rw [List.length_map, ht2]
          exact small1000 (by omega)
        · have hdl : ∀ (b : Addr) (xs : List V), Hard H5 b xs → b ≠ d := fun b xs z1 z2 => by
            obtain ⟨o', z3, _⟩ := z1
            rw [z2, s5 _ _ ht1] at z3
            cases z3
          have up : ∀ (b : Addr) (xs : List V) (u : HO), Hard H5 b xs → Hard (upd H5 d u) b xs := fun b xs u z => by
            have z2 := hdl b xs z
            obtain ⟨o', z3, z4⟩ := z
            exact ⟨o', by rw [upd_ne z2]; exact z3, z4⟩
          refine ⟨(s4.trans s5).put hd, ts ++ [l], by rw [upd_same, List.map_append]; rfl, by rw [List.length_append, ht2]; rfl, fun k b l' z1 z2 => ?_⟩
          by_cases hk : k < ts.length
          · rw [List.getElem?_append_left hk] at z1
            exact up _ _ _ ((ht3 k b l' z1 z2).same s5)
          · have hk2 : k = ts.length := by
              have := (List.getElem?_eq_some_iff.mp z1).1
              rw [List.length_append] at this
              have h1 : ([l] : List Addr).length = 1 := rfl
              omega
            subst hk2
            rw [List.getElem?_append_right (Nat.le_refl _), Nat.sub_self] at z1
            have eb : l = b := Option.some.inj z1
            subst eb
            rw [ht2, hl] at z2
            cases z2
            exact up _ _ _ hH
      · rintro H4 ⟨s4, ts, ht1, ht2, ht3⟩
        refine ⟨d, _, rfl, .inl ⟨SqL.of ht1, fun a ha => ?_⟩⟩
        have s5 : Same H3 (upd H4 a (.tup (ts.map V.ref))) := s4.trans (Same.new ha)
        refine q _ a ls (b3.trans (But.of s5)) (hR3.same s5) ⟨ts, SqT.of upd_same, by rw [ht2, List.length_map]; omega, fun k b l z1 z2 => (ht3 k b l z1 z2).same (Same.new ha)⟩ ⟨hls, hperm⟩
end
end Cl
set_option Elab.async false
set_option linter.all false
set_option maxRecDepth 100000
set_option maxHeartbeats 8000000
/-! The walk of the law. -/
namespace Cl
open PySem PySem.Spec PyProof.Rows L2
abbrev sLaw : Stmt := top 33
abbrev nLaw : List Str := ["_law_script", "_law_row", "_law_office", "_law_state_here", "_law_counter", "_law_line", "_law_back", "_law_at", "_law_swapped", "_law_there", "_law_front", "_law_order", "_law_least", "_law_many", "_law_rest", "_law_person"]
theorem scLaw : FnScope nLaw ["_law_script"] (defScope sLaw) := ⟨rfl, rfl, rfl, by decide +kernel, rfl, by decide +kernel, by decide +kernel⟩
/-- here[:counter] + (e,) + here[counter + 1:] -/
def tCut (K : PySem.W.Frag) (te : TE) : TE := tOp (rCatD K) (tOp (rCatD K) (tSl (rSlD K) (tVar 3) tNoPart (tPart (tVar 4))) (tTup (tCons te tNil))) (tSl (rSlD K) (tVar 3) (tPart (tOp (rI0 fun i j => .int (i + j)) (tVar 4) (tC (.int 1)))) tNoPart)
theorem cut_run {K : PySem.W.Frag} {te : TE} {σ : L2.St} {H : Hp} {Q : VK} {a : Addr} {i : Nat} {L : List (List Int)} {l' : List Int} (h3 : σ[3]? = some (some (.ref a))) (h4 : σ[4]? = some (some (.int (i : Nat)))) (hL : HardAt K H a L) (hi : i < L.length) (h6 : L.length ≤ 6)
    (hte : ∀ (H1 : Hp) (Q1 : VK), Same H H1 → (∀ b H2, Same H1 H2 → SqT K H2 b (l'.map V.int) → Q1 (.ref b) H2) → te σ H1 Q1) (q : ∀ a' H3, Same H H3 → StAt K H3 a' (L.set i l') → Q (.ref a') H3) : tCut K te σ H Q := by
  obtain ⟨as, ha, hal, hL⟩ := hL
  refine ⟨_, h3, _, h4, _, rfl, a, _, rfl, ha, fun H1 p1 s1 hp1 => ?_⟩
  rw [cut_take] at hp1
  refine hte H1 _ s1 fun b H2 s2 hb => ?_
  refine ⟨by show 1 ≤ sizeLine; decide, fun t ht => ?_⟩
  have s12 := s1.trans s2
  refine ⟨p1, t, _, _, rfl, rfl, (s2.trans (Same.new ht)).tup hp1, SqT.of upd_same, ?_, fun H3 p2 s3 hp2 => ?_⟩
  · rw [List.length_take, List.length_map]
    show min i as.length + 1 ≤ sizeLine
    exact Nat.le_of_lt (small1000 (by omega))
  have s13 : Same H H3 := (s12.trans (Same.new ht)).trans s3
  have hb3 : SqT K H3 b (l'.map V.int) := ((Same.new ht).trans s3).tup hb
  refine ⟨_, h3, _, h4, _, _, rfl, rfl, _, rfl, a, _, rfl, s13.tup ha, fun H4 p3 s4 hp3 => ?_⟩
  have hp3 : SqT K H4 p3 ((as.map V.ref).drop (i + 1)) := by
    rw [← cut_drop]
    exact hp3
  refine ⟨p2, p3, _, _, rfl, rfl, s4.tup hp2, hp3, ?_, fun H5 p4 s5 hp4 => ?_⟩
  · rw [List.length_append, List.length_take, List.length_drop, List.length_map]
    show min i as.length + 1 + (as.length - (i + 1)) ≤ sizeLine
    exact Nat.le_of_lt (small1000 (by omega))
  have s15 := (s13.trans s4).trans s5
  refine q p4 H5 s15 ⟨as.set i b, ?_, by rw [List.length_set, List.length_set]; exact hal, fun j x l z1 z2 => ?_⟩
  · rw [List.map_set, ← set_cut (by rw [List.length_map]; omega), ← List.append_assoc]
    exact hp4
  · by_cases hj : j = i
    · subst hj
      rw [List.getElem?_set_self (by omega)] at z1 z2
      cases z1
      cases z2
      exact (s4.trans s5).tup hb3
    · rw [List.getElem?_set_ne (fun z => hj z.symm)] at z1 z2
      exact ((hL j x l z1 z2).same s15).sq
/-- line[:at] + (line[at + 1], line[at]) + line[at + 2:] -/
def tSwap (K : PySem.W.Frag) : TE := tOp (rCatD K) (tOp (rCatD K) (tSl (rSlD K) (tVar 5) tNoPart (tPart (tVar 7))) (tTup (tCons (tOp (rIxT K) (tVar 5) (tOp (rI0 fun i j => .int (i + j)) (tVar 7) (tC (.int 1)))) (tCons (tOp (rIxT K) (tVar 5) (tVar 7)) tNil)))) (tSl (rSlD K) (tVar 5) (tPart (tOp (rI0 fun i j => .int (i + j)) (tVar 7) (tC (.int 2)))) tNoPart)
theorem swap_run {K : PySem.W.Frag} {σ : L2.St} {H : Hp} {Q : VK} {b : Addr} {i : Nat} {l : List Int} (h5 : σ[5]? = some (some (.ref b))) (h7 : σ[7]? = some (some (.int (i : Nat)))) (hb : SqT K H b (l.map V.int)) (hi : i + 1 < l.length) (h7l : l.length ≤ 7)
    (q : ∀ b' H3, Same H H3 → SqT K H3 b' ((l.take i ++ (l[i + 1] :: l[i] :: l.drop (i + 2))).map V.int) → Q (.ref b') H3) : tSwap K σ H Q := by
  refine ⟨_, h5, _, h7, _, rfl, b, _, rfl, hb, fun H1 p1 s1 hp1 => ?_⟩
  rw [cut_take] at hp1
  have i1 : (l.map V.int)[i + 1]? = some (.int l[i + 1]) := at_int (List.getElem?_eq_getElem hi)
  have i0 : (l.map V.int)[i]? = some (.int l[i]) := at_int (List.getElem?_eq_getElem (by omega))
  refine ⟨_, h5, _, h7, _, _, rfl, rfl, b, _, _, _, rfl, rfl, s1.tup hb, atI_nat i1, _, h5, _, h7, b, _, _, _, rfl, rfl, s1.tup hb, atI_nat i0, ?_⟩
  refine ⟨by show 2 ≤ sizeLine; decide, fun t ht => ?_⟩
  refine ⟨p1, t, _, _, rfl, rfl, (Same.new ht).tup hp1, SqT.of upd_same, ?_, fun H3 p2 s3 hp2 => ?_⟩
  · rw [List.length_take, List.length_map]
    show min i l.length + 2 ≤ sizeLine
    exact Nat.le_of_lt (small1000 (by omega))
  have s13 : Same H H3 := (s1.trans (Same.new ht)).trans s3
  refine ⟨_, h5, _, h7, _, _, rfl, rfl, _, rfl, b, _, rfl, s13.tup hb, fun H4 p3 s4 hp3 => ?_⟩
  have hp3 : SqT K H4 p3 ((l.map V.int).drop (i + 2)) := by
    rw [← cut_drop]
    exact hp3
  refine ⟨p2, p3, _, _, rfl, rfl, s4.tup hp2, hp3, ?_, fun H5 p4 s5 hp4 => ?_⟩
  · rw [List.length_append, List.length_take, List.length_drop, List.length_map]
    show min i l.length + 2 + (l.length - (i + 2)) ≤ sizeLine
    exact Nat.le_of_lt (small1000 (by omega))
  refine q p4 H5 ((s13.trans s4).trans s5) ?_
  have e : ((l.map V.int).take i ++ [V.int l[i + 1], V.int l[i]]) ++ (l.map V.int).drop (i + 2) = (l.take i ++ (l[i + 1] :: l[i] :: l.drop (i + 2))).map V.int := by
    rw [List.map_append, List.map_take, List.append_assoc]
    simp [List.map_drop]
  rw [← e]
  exact hp4
theorem ne_same {x y : V} (h : x = y) : V.bl (!decide (x = y)) = V.bl false := by
  rw [decide_eq_true h]
  rfl
section
variable {P : Program} {w : World} {K : PySem.W.Frag} {mg : Str → Option Value} {base : Heap}
def spLaw (K : PySem.W.Frag) : Sp := fun vs H Q _ => ∃ (a : Addr) (ns : List Int), vs = [.ref a] ∧ SqL K H a (ns.map V.int) ∧ ns.length ≤ 63 ∧ ∀ H', Q (.bl true) H'
theorem ok_law (B : Blt mg) (GT : Kept P w K mg base 1 "_law_taken" ["_law_row", "_law_many"] (spTak K)) (GE : Kept P w K mg base 2 "_law_state" ["_law_row", "_law_office"] (spSte K))
    (GD : Kept P w K mg base 5 "distance" ["office", "one", "other"] (spDis K)) (GK : Kept P w K mg base 5 "kept" ["office", "one", "other"] (spKep K)) (GW : Kept P w K mg base 5 "way" ["office", "one", "other"] (spWay K))
    (GG : Kept P w K mg base 5 "gather" ["office", "state", "counter"] (spGat K)) (GL : Kept P w K mg base 5 "line_up" ["office", "state", "counter", "order"] (spLup K))
    {fL : Addr} {fdL : FuncData} (F : Fun K "law" "law" sLaw fL fdL) : FnOk P w K mg base CX0 6 fL fdL ["_law_script"] (spLaw K) := by
  refine F.ok scLaw (fun vs H Q E h => ?_) (fun cdv A outer s H vs Q E hr h => ?_)
  · obtain ⟨a, ns, rfl, _⟩ := h; rfl
  · obtain ⟨a, ns, rfl, hS, hlen, k⟩ := h
    refine ⟨_, pss_cons (ps_set (i := 1) scLaw.nd rfl (.inl rfl) (pe_lst (pa_cons (pv 0) (pa_cons pe_int (pa_cons pe_int (pa_cons pe_int pa_nil)))))) <|
      pss_cons (ps_set (i := 2) scLaw.nd rfl (.inl rfl) (pe_tup (pa_cons (pe_op op_add pe_int (pe_use GT (hr.mono (by decide)) (by rfl) (pa_cons (pv 1) (pa_cons pe_int pa_nil)))) (pa_cons (pe_op op_add pe_int (pe_use GT (hr.mono (by decide)) (by rfl) (pa_cons (pv 1) (pa_cons pe_int pa_nil)))) pa_nil)))) <|
      pss_cons (ps_set (i := 3) scLaw.nd rfl (.inr rfl) (pe_use GE (hr.mono (by decide)) (by rfl) (pa_cons (pv 1) (pa_cons (pv 2) pa_nil)))) <|
      pss_cons (ps_for PassesOwn.never rfl (pi_range1 (by rfl) B.range (pa_cons (pe_ix ix_tup (pv 2) pe_int (fun _ _ => rfl)) pa_nil)) (pg_name (i := 4) scLaw.nd rfl (.inr rfl)) <|
        pss_cons (ps_set (i := 5) scLaw.nd rfl (.inl rfl) (pe_ix ix_tup (pv 3) (pv 4) (fun _ _ => rfl))) <|
        pss_cons (ps_set (i := 6) scLaw.nd rfl (.inl rfl) (pe_op op_catD (pe_op op_catD (pe_slice sl_tupD (pv 3) po_none (po_some (pv 4))) (pe_tup (pa_cons (pe_revT (pv 5)) pa_nil))) (pe_slice sl_tupD (pv 3) (po_some (pe_op op_add (pv 4) pe_int)) po_none))) <|
        pss_cons (ps_if (pt_cmpR op_ne (pe_use GD hr (by rfl) (pa_cons (pv 2) (pa_cons (pv 3) (pa_cons (pv 6) pa_nil)))) (pe_op op_mul (pe_ix ix_tup (pv 2) pe_int (fun _ _ => rfl))
            (pe_callB (call_max2 rfl) (by rfl) B.max (by decide +kernel) (pa_cons (pe_op op_sub (pe_callB call_len_seq (by rfl) B.len PySem.boot_len (pa_cons (pv 5) pa_nil)) pe_int) (pa_cons pe_int pa_nil)))) (nomark _)) (pss_one ps_never) pss_nil) <|
        pss_cons (ps_for PassesOwn.never rfl (pi_range1 (by rfl) B.range (pa_cons (pe_op op_sub (pe_callB call_len_seq (by rfl) B.len PySem.boot_len (pa_cons (pv 5) pa_nil)) pe_int) pa_nil)) (pg_name (i := 7) scLaw.nd rfl (.inl rfl)) <|
          pss_cons (ps_set (i := 8) scLaw.nd rfl (.inl rfl) (pe_op op_catD (pe_op op_catD (pe_slice sl_tupD (pv 5) po_none (po_some (pv 7))) (pe_tup (pa_cons (pe_ix ix_tup (pv 5) (pe_op op_add (pv 7) pe_int) (fun _ _ => rfl)) (pa_cons (pe_ix ix_tup (pv 5) (pv 7) (fun _ _ => rfl)) pa_nil)))) (pe_slice sl_tupD (pv 5) (po_some (pe_op op_add (pv 7) pe_int)) po_none))) <|
          pss_cons (ps_set (i := 9) scLaw.nd rfl (.inl rfl) (pe_op op_catD (pe_op op_catD (pe_slice sl_tupD (pv 3) po_none (po_some (pv 4))) (pe_tup (pa_cons (pv 8) pa_nil))) (pe_slice sl_tupD (pv 3) (po_some (pe_op op_add (pv 4) pe_int)) po_none))) <|
          pss_one (ps_if (PW.pt (pw_or (pt_cmpR op_ne (pe_use GD hr (by rfl) (pa_cons (pv 2) (pa_cons (pv 3) (pa_cons (pv 9) pa_nil)))) (pe_op op_mul (pe_ix ix_tup (pv 2) pe_int (fun _ _ => rfl)) (pe_op op_sub (pe_op op_sub (pe_callB call_len_seq (by rfl) B.len PySem.boot_len (pa_cons (pv 5) pa_nil)) (pv 7)) pe_int)) (nomark _))
              (pw_or1 (pt_cmpR op_ne (pe_ix ix_tup (pe_use GK hr (by rfl) (pa_cons (pv 2) (pa_cons (pv 3) (pa_cons (pv 9) pa_nil)))) (pv 4) (fun _ _ => rfl)) (pe_op op_add (pv 7) pe_int) (nomark _))))) (pss_one ps_never) pss_nil)) <|
        pss_one (ps_if (pt_cmpR (op_neD hr.units) (pv 5) (pe_tup pa_nil) (nomark _))
          (pss_cons (ps_set (i := 10) scLaw.nd rfl (.inl rfl) (pe_op op_catD (pe_op op_catD (pe_slice sl_tupD (pv 3) po_none (po_some (pv 4))) (pe_tup (pa_cons (pe_op op_catD (pe_slice sl_tupD (pv 5) (po_some pe_int) po_none) (pe_slice sl_tupD (pv 5) po_none (po_some pe_int))) pa_nil))) (pe_slice sl_tupD (pv 3) (po_some (pe_op op_add (pv 4) pe_int)) po_none))) <|
          pss_cons (ps_if (pt_cmpR op_ne (pe_use GD hr (by rfl) (pa_cons (pv 2) (pa_cons (pv 3) (pa_cons (pv 10) pa_nil)))) (pe_ifExp (pt_cmpR op_gt (pe_callB call_len_seq (by rfl) B.len PySem.boot_len (pa_cons (pv 5) pa_nil)) pe_int (nomark _)) (pe_ix ix_tup (pv 2) pe_int (fun _ _ => rfl)) pe_int) (nomark _)) (pss_one ps_never) pss_nil) <|
          pss_one (ps_if (PW.pt (pw_and (pt_cmpR op_gt (pe_callB call_len_seq (by rfl) B.len PySem.boot_len (pa_cons (pv 5) pa_nil)) pe_int (nomark _))
              (pw_and1 (pt_cmpR (op_neD hr.units) (pe_use GW hr (by rfl) (pa_cons (pv 2) (pa_cons (pv 3) (pa_cons (pv 10) pa_nil)))) (pe_op op_mulT (pe_tup (pa_cons (pe_ix ix_tup (pv 5) pe_int (fun _ _ => rfl)) pa_nil)) (pe_ix ix_tup (pv 2) pe_int (fun _ _ => rfl))) (nomark _))))) (pss_one ps_never) pss_nil)) pss_nil)) <|
      pss_cons (ps_asg (pe_tup (pa_cons (pe_use GT (hr.mono (by decide)) (by rfl) (pa_cons (pv 1) (pa_cons (pe_ix ix_tup (pv 2) pe_int (fun _ _ => rfl)) pa_nil)))
          (pa_cons (pe_ix ix_tup (pe_use GE (hr.mono (by decide)) (by rfl) (pa_cons (pv 1) (pa_cons (pe_tup (pa_cons (pe_ix ix_tup (pv 2) pe_int (fun _ _ => rfl)) (pa_cons pe_int pa_nil))) pa_nil))) pe_int (fun _ _ => rfl)) pa_nil)))
          (pg_tup rfl (pgs_cons (pg_name (i := 4) scLaw.nd rfl (.inr rfl)) (pgs_cons (pg_name (i := 11) scLaw.nd rfl (.inl rfl)) pgs_nil)))) <|
      pss_cons (ps_set (i := 12) scLaw.nd rfl (.inl rfl) (pe_use GG hr (by rfl) (pa_cons (pv 2) (pa_cons (pv 3) (pa_cons (pv 4) pa_nil))))) <|
      pss_cons (ps_set (i := 13) scLaw.nd rfl (.inl rfl) (pe_use GL hr (by rfl) (pa_cons (pv 2) (pa_cons (pv 3) (pa_cons (pv 4) (pa_cons (pv 11) pa_nil)))))) <|
      pss_cons (ps_if (PW.pt (pw_or (pt_cmpR op_gt (pv 12) (pv 13) (nomark _)) (pw_or1 (pt_cmpR op_ne (pe_op op_mod (pe_callTy call_int1 (by rfl) B.int (by decide +kernel) (pa_cons (pe_op op_sub (pv 13) (pv 12)) pa_nil)) (pe_ix ix_tup (pv 2) pe_int (fun _ _ => rfl))) pe_int (nomark _))))) (pss_one ps_never) pss_nil) <|
      pss_cons (ps_set (i := 14) scLaw.nd rfl (.inl rfl) (pe_callTy call_tuple_of (by rfl) B.tuple (by decide +kernel) (pa_cons
        (pe_lc (own := [("_law_person", 15)]) (g := gName 15) (tt := tTest (tOp (rIn K true) (tVar 15) (tOp (rIxT K) (tVar 3) (tVar 4)))) rfl scLaw.nd (pi_tup (pv 11)) (blkOk_by (N := nLaw) (sc := defScope sLaw) (by decide +kernel)) (fun _ _ _ _ _ => pg_name (i := 15) scLaw.nd rfl (.inl rfl))
          (fun _ _ _ _ _ => pts_one (pt_cmpR (notInK K) (pv 15) (pe_ix (ixT K) (pv 3) (pv 4) (fun _ _ => rfl)) rfl)) (fun _ _ _ _ _ => pv 15)) pa_nil))) <|
      pss_one (ps_ret (pe_cmpR op_eq (pe_use GL hr (by rfl) (pa_cons (pv 2) (pa_cons (pv 3) (pa_cons (pv 4) (pa_cons (pe_op op_catD (pe_ix ix_tup (pv 3) (pv 4) (fun _ _ => rfl)) (pv 14)) pa_nil))))) (pv 12) (nomark _))), ?_⟩
    -- row
    refine ⟨_, rfl, by show 4 ≤ sizeLine; decide, fun r hr0 => ?_⟩
    have hr1 : (upd H r (.lst [.ref a, .int 0, .int 7072, .int 0])) r = some (.lst [.ref a, .int ((0 : Nat) : Int), .int 7072, .int 0]) := upd_same
    have s01 : Same H (upd H r (.lst [.ref a, .int 0, .int 7072, .int 0])) := Same.new hr0
    have hsc : ∀ H', But r (upd H r (.lst [.ref a, .int 0, .int 7072, .int 0])) H' → SqL K H' a (ns.map V.int) := fun H' z => Same.seq (fun b o e => z b o (ne_of_none e hr0) (s01 b o e)) hS
    generalize upd H r (.lst [.ref a, .int 0, .int 7072, .int 0]) = H1 at hr1 s01 hsc
    have R1 : RowAt K H1 H1 r := ⟨a, ns, 0, 7072, 0, hr1, hsc⟩
    -- office
    refine ⟨_, rfl, r, 5, H1, rfl, R1, But.refl, by decide, by decide, fun H2 v1 b2 R2 v10 v11 => ⟨_, _, rfl, rfl, _, rfl, r, 6, H1, rfl, R2, b2, by decide, by decide, fun H3 v2 b3 R3 v20 v21 => ⟨_, _, rfl, rfl, by show 2 ≤ sizeLine; decide, fun o ho0 => ?_⟩⟩⟩
    obtain ⟨p, hp⟩ : ∃ p : Nat, 2 + v1 = (p : Int) := ⟨(2 + v1).toNat, by omega⟩
    obtain ⟨c, hc⟩ : ∃ c : Nat, 1 + v2 = (c : Int) := ⟨(1 + v2).toNat, by omega⟩
    have ho4 : OfAt K (upd H3 o (.tup [.int (2 + v1), .int (1 + v2)])) o p c := SqT.of (by rw [← hp, ← hc]; exact upd_same)
    have s34 : Same H3 (upd H3 o (.tup [.int (2 + v1), .int (1 + v2)])) := Same.new ho0
    have b4 : But r H1 (upd H3 o (.tup [.int (2 + v1), .int (1 + v2)])) := (b2.trans b3).trans (But.of s34)
    have R4 := R3.same s34
    have fi : Fine p c := ⟨by omega, by omega, by omega, by omega⟩
    have hp2 : 2 ≤ p := by omega
    have hp6 : p ≤ 6 := by omega
    have hc1 : 1 ≤ c := by omega
    have hc6 : c ≤ 6 := by omega
    -- the state
    refine ⟨_, rfl, _, rfl, r, o, p, c, H1, rfl, R4, b4, ho4, fi, fun H5 st L b5 R5 hst5 SL => ?_⟩
    obtain ⟨us4, hus4⟩ := R4.lst
    have ho5 := b5.tup hus4 ho4
    have b15 := b4.trans b5
    generalize upd H3 o (.tup [.int (2 + v1), .int (1 + v2)]) = H4 at *
    have g1 : atI ([.int (p : Nat), .int (c : Nat)] : List V) ((0 : Nat) : Int) = some (.int (p : Nat)) := atI_nat rfl
    have g2 : atI ([.int (p : Nat), .int (c : Nat)] : List V) ((1 : Nat) : Int) = some (.int (c : Nat)) := atI_nat rfl
    -- the counters
    refine ⟨_, rfl, o, _, 1, _, rfl, rfl, ho5, g2, (c : Int), rfl, by omega, by omega, for_range (lo := 0) (n := (c : Int).toNat) (fun i σ H6 => ∃ (v4 v5 v6 v7 v8 v9 v10 : Option V),
      σ = [some (.ref a), some (.ref r), some (.ref o), some (.ref st), v4, v5, v6, v7, v8, v9, v10, none, none, none, none, none] ∧ Same H5 H6) ⟨none, none, none, none, none, none, none, rfl, fun _ _ z => z⟩ ?_ ?_⟩
    · rintro i σ H6 hi ⟨v4, v5, v6, v7, v8, v9, v10, rfl, s6⟩
      have hic : i < c := by omega
      rw [Int.zero_add]
      have hst6 := hst5.same s6
      have ho6 := s6.tup ho5
      obtain ⟨as, ha6, hal, hL6⟩ := id hst6
      have hiL : i < L.length := by rw [SL.len]; exact hic
      have hia : i < as.length := by rw [hal]; exact hiL
      have hl : L[i]? = some L[i] := List.getElem?_eq_getElem hiL
      generalize L[i] = l at hl
      have hai : as[i]? = some as[i] := List.getElem?_eq_getElem hia
      generalize as[i] = b at hai
      have hb6 : Hard H6 b (l.map V.int) := hL6 i b l hai hl
      have hl7 : l.length ≤ p := line_le SL hl
      have hL6' : L.length ≤ 6 := by rw [SL.len]; exact hc6
      -- line
      refine ⟨_, rfl, _, rfl, st, _, (i : Int), _, rfl, rfl, ha6, atI_nat (at_ref hai), ?_⟩
      -- back
      refine cut_run (i := i) (l' := l.reverse) rfl rfl hst6 hiL hL6' (fun H7 Q7 s7 hq => ⟨_, rfl, b, _, rfl, (hb6.same s7).sq, fun t ht => hq t _ (Same.new ht) (by rw [List.map_reverse]; exact SqT.of upd_same)⟩) fun bk H7 s7 hbk => ?_
      have Sbk : Stt p c (L.set i l.reverse) := SL.set hl (List.reverse_perm l)
      -- distance(..) != ..
      refine ⟨_, rfl, _, rfl, _, rfl, o, st, bk, p, c, L, _, rfl, s7.tup ho6, fi, hst6.same s7, SL, hbk, Sbk, fun H8 s8 => ?_⟩
      have s68 := s7.trans s8
      refine ⟨_, rfl, o, _, 1, _, rfl, rfl, s68.tup ho6, g2, _, rfl, b, _, rfl, .inr (hb6.same s68).sq, _, _, rfl, rfl, _, _, rfl, _, _, rfl, rfl, .inl ⟨by omega, by omega⟩, rfl, false, ?_, iteF ?_⟩
      · rw [dist_rev SL hl]
        exact ne_same (by rw [List.length_map])
      -- the pairs of neighbors
      refine ⟨_, rfl, b, _, rfl, .inr (hb6.same s68).sq, _, _, rfl, rfl, _, rfl, ?_, ?_, for_range (lo := 0) (n := (((l.map V.int).length : Nat) - 1 : Int).toNat) (fun j σ H9 => ∃ (v7 v8 v9 : Option V),
        σ = [some (.ref a), some (.ref r), some (.ref o), some (.ref st), some (.int (i : Nat)), some (.ref b), some (.ref bk), v7, v8, v9, v10, none, none, none, none, none] ∧ Same H6 H9) ⟨v7, v8, v9, rfl, s68⟩ ?_ ?_⟩
      · rw [List.length_map]; omega
      · rw [List.length_map]; omega
      · rintro j σ H9 hj ⟨v7', v8', v9', rfl, s9⟩
        rw [List.length_map] at hj
        have hjl : j + 1 < l.length := by omega
        rw [Int.zero_add]
        refine swap_run (i := j) (l := l) rfl rfl (hb6.same s9).sq hjl (by omega) fun sw H10 s10 hsw => ?_
        have s610 := s9.trans s10
        have Ssw : Stt p c (L.set i (l.take j ++ (l[j + 1] :: l[j] :: l.drop (j + 2)))) := SL.set hl (swap_perm hjl)
        have dsw := dist_swap SL hl hjl
        have ksw := ks_swap SL hl hjl
        generalize l.take j ++ (l[j + 1] :: l[j] :: l.drop (j + 2)) = l2 at hsw Ssw dsw ksw
        refine cut_run (i := i) (l' := l2) rfl rfl (hst6.same s610) hiL hL6' (fun H11 Q11 s11 hq => ⟨_, rfl, hq sw _ (fun _ _ z => z) (s11.tup hsw)⟩) fun th H11 s11 hth => ?_
        have s611 := s610.trans s11
        refine ⟨_, rfl, _, rfl, _, rfl, o, st, th, p, c, L, _, rfl, s611.tup ho6, fi, hst6.same s611, SL, hth, Ssw, fun H12 s12 => ?_⟩
        have s612 := s611.trans s12
        refine ⟨_, rfl, o, _, 1, _, rfl, rfl, s612.tup ho6, g2, _, rfl, b, _, rfl, .inr (hb6.same s612).sq, _, rfl, _, _, rfl, rfl, _, _, rfl, rfl, _, _, rfl, rfl, .inl ⟨by omega, by omega⟩, rfl, false, ?_, iteF ?_⟩
        · rw [dsw]
          exact ne_same (by rw [List.length_map])
        refine ⟨_, rfl, _, rfl, _, rfl, o, st, th, p, c, L, _, rfl, s612.tup ho6, fi, hst6.same s612, SL, hth.same s12, Ssw, fun H13 kr s13 hkr => ?_⟩
        have hat : (natV (ks L (L.set i l2)))[i]? = some (.int ((j + 1 : Nat) : Int)) := at_int (by rw [List.getElem?_map, ksw]; rfl)
        refine ⟨_, rfl, kr, _, (i : Int), _, rfl, rfl, hkr, atI_nat hat, _, rfl, _, _, rfl, rfl, rfl, false, ne_same rfl, iteF ?_⟩
        exact ⟨_, _, _, rfl, s612.trans s13⟩
      · rintro σ H9 ⟨v7', v8', v9', rfl, s9⟩
        refine ⟨_, rfl, Nat.zero_le _, fun e he => ?_⟩
        have s6e : Same H6 (upd H9 e (.tup [])) := s9.trans (Same.new he)
        refine ⟨.tuple (l.map PyData.int), .tuple (([] : List Int).map PyData.int), .tup (hb6.same s6e).sq (dp_ints _ _), .tup (SqT.of upd_same) .nil, shapedT _, shapedT _, !decide (l = []), congrArg V.bl (congrArg not (eqv_ints l [])), ?_⟩
        generalize upd H9 e (.tup []) = H10 at s6e
        by_cases hl0 : l = []
        · refine ifF (by rw [decide_eq_true hl0]; rfl) ?_
          exact ⟨_, _, _, _, _, _, _, rfl, s6.trans s6e⟩
        refine ifT (by rw [decide_eq_false hl0]; rfl) ?_
        -- front
        have Sfr : Stt p c (L.set i (l.drop 1 ++ l.take 1)) := SL.set hl (rot_perm l)
        refine cut_run (i := i) (l' := l.drop 1 ++ l.take 1) rfl rfl (hst6.same s6e) hiL hL6' (fun H11 Q11 s11 hq => ?_) fun fr H11 s11 hfr => ?_
        · have s611 := s6e.trans s11
          refine ⟨_, rfl, _, rfl, b, _, rfl, (hb6.same s611).sq, fun H12 p1 s12 hp1 => ⟨_, rfl, _, rfl, b, _, rfl, ((hb6.same s611).same s12).sq, fun H13 p2 s13 hp2 => ?_⟩⟩
          have hp1 : SqT K H12 p1 ((l.map V.int).drop 1) := by rw [← cut_drop]; exact hp1
          have hp2 : SqT K H13 p2 ((l.map V.int).take 1) := by rw [← cut_take]; exact hp2
          refine ⟨p1, p2, _, _, rfl, rfl, s13.tup hp1, hp2, ?_, fun H14 p3 s14 hp3 => hq p3 _ ((s12.trans s13).trans s14) ?_⟩
          · rw [List.length_take, List.length_drop, List.length_map]
            exact Nat.le_of_lt (small1000 (by omega))
          · rw [List.map_append, List.map_drop, List.map_take]
            exact hp3
        have s611 := s6e.trans s11
        refine ⟨_, rfl, _, rfl, _, rfl, o, st, fr, p, c, L, _, rfl, s611.tup ho6, fi, hst6.same s611, SL, hfr, Sfr, fun H12 s12 => ?_⟩
        have s612 := s611.trans s12
        have hdr := dist_rot SL hl
        refine ⟨_, rfl, b, _, rfl, .inr (hb6.same s612).sq, _, _, rfl, rfl, decide ((1 : Int) < ((l.map V.int).length : Nat)), rfl, ?_⟩
        by_cases h2 : (1 : Int) < ((l.map V.int).length : Nat)
        · have h2' := h2
          rw [List.length_map] at h2'
          rw [if_pos h2'] at hdr
          refine ifT (decide_eq_true h2) ⟨_, rfl, o, _, 1, _, rfl, rfl, s612.tup ho6, g2, rfl, false, ne_same (by rw [hdr]), iteF ?_⟩
          refine ⟨_, rfl, b, _, rfl, .inr (hb6.same s612).sq, _, _, rfl, rfl, decide ((1 : Int) < ((l.map V.int).length : Nat)), rfl, ifT (decide_eq_true h2) ?_⟩
          have h20 : 0 < l.length := by omega
          have hch := chs_rot SL hl (by omega)
          have hl00 : (l.map V.int)[0]? = some (.int l[0]) := at_int (List.getElem?_eq_getElem h20)
          generalize l[0] = n0 at hch hl00
          refine ⟨_, rfl, _, rfl, _, rfl, o, st, fr, p, c, i, n0, L, _, rfl, s612.tup ho6, fi, hst6.same s612, SL, hfr.same s12, Sfr, hch, hic, fun H13 wy s13 hwy => ?_⟩
          have s613 := s612.trans s13
          refine ⟨_, rfl, b, _, 0, _, rfl, rfl, (hb6.same s613).sq, atI_nat (j := 0) hl00, by show 1 ≤ sizeLine; decide, fun t ht => ?_⟩
          have s614 := s613.trans (Same.new (o := .tup [V.int n0]) ht)
          refine ⟨_, rfl, o, _, 1, _, rfl, rfl, s614.tup ho6, g2, t, (c : Int), _, rfl, rfl, SqT.of upd_same, by show 1 ≤ 1000; decide, by omega, by omega, fun H15 ml s15 hml => ?_⟩
          rw [flat_one, Int.toNat_natCast] at hml
          have er : (List.replicate c n0).map V.int = List.replicate c (V.int n0) := List.map_replicate
          refine ⟨.tuple ((List.replicate c n0).map PyData.int), .tuple ((List.replicate c n0).map PyData.int), .tup (xs := (List.replicate c n0).map V.int) (by rw [er]; exact ((Same.new ht).trans s15).tup hwy) (dp_ints _ _), .tup (xs := (List.replicate c n0).map V.int) (by rw [er]; exact hml) (dp_ints _ _), shapedT _, shapedT _, false, ?_, iteF ?_⟩
          · refine congrArg V.bl (congrArg not ((eqv_ints _ _).trans (decide_eq_true rfl)))
          · exact ⟨_, _, _, _, _, _, _, rfl, (s6.trans s614).trans s15⟩
        · have h2' := h2
          rw [List.length_map] at h2'
          rw [if_neg h2'] at hdr
          refine ifF (decide_eq_false h2) ⟨rfl, false, ne_same (by rw [hdr]), iteF ?_⟩
          refine ⟨_, rfl, b, _, rfl, .inr (hb6.same s612).sq, _, _, rfl, rfl, decide ((1 : Int) < ((l.map V.int).length : Nat)), rfl, ifF (decide_eq_false h2) (iteF ?_)⟩
          exact ⟨_, _, _, _, _, _, _, rfl, s6.trans s612⟩
    · rintro σ H6 ⟨v4, v5, v6, v7, v8, v9, v10, rfl, s6⟩
      have R6 := R5.same s6
      have b6 := b15.trans (But.of s6)
      have ho6 := s6.tup ho5
      have hst6 := hst5.same s6
      obtain ⟨us6, hus6⟩ := R6.lst
      -- counter, order
      refine ⟨_, rfl, _, rfl, o, _, 1, _, rfl, rfl, ho6, g2, r, (c : Int), H1, rfl, R6, b6, by omega, by omega, fun H7 w1 b7 R7 w10 w11 => ?_⟩
      obtain ⟨n, hn⟩ : ∃ n : Nat, w1 = (n : Int) := ⟨w1.toNat, by omega⟩
      subst hn
      have hnc : n < c := by omega
      obtain ⟨us7, hus7⟩ := R7.lst
      have ho7 := b7.tup hus6 ho6
      have hst7 := b7.state hus6 hst6
      refine ⟨_, rfl, _, rfl, o, _, 0, _, rfl, rfl, ho7, g1, by show 2 ≤ sizeLine; decide, fun t ht => ?_⟩
      have s8 : Same H7 (upd H7 t (.tup [.int (p : Nat), .int 1])) := Same.new ht
      have ht8 : OfAt K (upd H7 t (.tup [.int (p : Nat), .int 1])) t p 1 := SqT.of upd_same
      have fi1 : Fine p 1 := ⟨fi.1, fi.2.1, by omega, by omega⟩
      refine ⟨r, t, p, 1, H1, rfl, R7.same s8, (b6.trans b7).trans (But.of s8), ht8, fi1, fun H9 st2 L2 b9 R9 hst9 S2 => ?_⟩
      obtain ⟨us8, hus8⟩ := (R7.same s8).lst
      have ho9 := b9.tup hus8 (s8.tup ho7)
      have hst9' := b9.state hus8 (hst7.same s8)
      obtain ⟨as2, ha2, hal2, hL2⟩ := hst9
      match L2, S2, hal2, hL2 with
      | [ord], S2, hal2, hL2 =>
        match as2, hal2, ha2, hL2 with
        | [od], hal2, ha2, hL2 =>
          have hod : SqT K H9 od (ord.map V.int) := (hL2 0 od ord rfl rfl).sq
          have hperm : ord.Perm (ppl p) := by
            have z := S2.perm
            simpa using z
          refine ⟨st2, _, 0, _, rfl, rfl, ha2, atI_nat (j := 0) rfl, by show 2 ≤ sizeLine; decide, fun t3 ht3 => ?_⟩
          have s10 : Same H9 (upd H9 t3 (.tup [.int (n : Nat), .ref od])) := Same.new ht3
          refine ⟨t3, _, rfl, SqT.of upd_same, rfl, _, _, rfl, _, _, rfl, rfl, ?_⟩
          have ho10 := s10.tup ho9
          have hst10 := hst9'.same s10
          have hod10 := s10.tup hod
          generalize upd H9 t3 (.tup [.int (n : Nat), .ref od]) = H10 at ho10 hst10 hod10
          -- least, many
          refine ⟨_, rfl, _, rfl, _, rfl, o, st, p, c, n, L, rfl, ho10, fi, hst10.st, SL, hnc, fun H11 s11 => ?_⟩
          refine ⟨_, rfl, _, rfl, _, rfl, _, rfl, o, st, od, p, c, n, L, ord, rfl, s11.tup ho10, fi, hst10.same s11, SL, hnc, s11.tup hod10, hperm, fun H12 s12 => ?_⟩
          have s112 := s11.trans s12
          obtain ⟨mm, hmm⟩ := line_up_gath SL hnc hperm
          refine ⟨_, rfl, _, rfl, _, _, rfl, rfl, false, ?_, iteF ?_⟩
          · have hnn : (0 : Int) ≤ (c : Int) * (mm : Int) := Int.mul_nonneg (by omega) (by omega)
            exact congrArg V.bl (decide_eq_false (by rw [hmm]; omega))
          refine ⟨_, rfl, _, rfl, _, _, rfl, rfl, .inl ⟨_, rfl, _, rfl, o, _, 1, _, rfl, rfl, s112.tup ho10, g2, _, _, rfl, rfl, ?_, rfl, false, ?_, iteF ?_⟩⟩
          · show (0 : Int) < (c : Int)
            omega
          · exact ne_same (congrArg V.int (by rw [hmm, show gath p c L n + (c : Int) * (mm : Int) - gath p c L n = (c : Int) * (mm : Int) by omega]; exact Int.mul_emod_right _ _))
          have hnL : n < L.length := by rw [SL.len]; exact hnc
          obtain ⟨as, ha12, hal, hL12⟩ := hst10.same s112
          have hna : n < as.length := by rw [hal]; exact hnL
          have hl : L[n]? = some L[n] := List.getElem?_eq_getElem hnL
          generalize L[n] = l at hl
          have han : as[n]? = some as[n] := List.getElem?_eq_getElem hna
          generalize as[n] = b at han
          have hb12 : Hard H12 b (l.map V.int) := hL12 n b l han hl
          -- rest
          refine ⟨_, rfl, od, rfl, ⟨_, s112.tup hod10⟩, fun d hd => lc_tup (K := K) (a := od) (xs := ord.map V.int) (fun i H13 => Same H12 H13 ∧ H13 d = some (.lst (((ord.take i).filter fun x => decide (x ∉ l)).map V.int))) ⟨Same.new hd, upd_same⟩ (fun i H13 _ h => (s112.trans h.1).tup hod10) ?_ ?_⟩
          · rintro i x H13 hx ⟨s13, hd13⟩
            obtain ⟨z, hz, rfl⟩ := int_at hx
            refine ⟨rfl, _, rfl, _, rfl, _, rfl, st, _, (n : Int), _, rfl, rfl, s13.tup ha12, atI_nat (at_ref han), b, _, rfl, .inr (hb12.same s13).sq, rfl, flat_ints l, !decide (z ∈ l), congrArg V.bl (congrArg not (inV_int z l)), ?_⟩
            have hio : i < ord.length := (List.getElem?_eq_some_iff.mp hz).1
            have hpl := hperm.length_eq
            rw [ppl_len] at hpl
            by_cases hzl : z ∈ l
            · refine ifF (by rw [decide_eq_true hzl]; rfl) ⟨s13, ?_⟩
              rw [hd13, List.take_add_one, hz, List.filter_append]
              simp [hzl]
            · refine ifT (by rw [decide_eq_false hzl]; rfl) ⟨_, rfl, _, hd13, ?_, s13.put hd, ?_⟩
              · rw [List.length_map]
                have h1 := List.length_filter_le (fun x => decide (x ∉ l)) (ord.take i)
                rw [List.length_take] at h1
                exact small1000 (by omega)
              · rw [upd_same, List.take_add_one, hz, List.filter_append, List.map_append]
                simp [hzl]
          · rintro H13 ⟨s13, hd13⟩
            rw [List.take_of_length_le (by rw [List.length_map]; exact Nat.le_refl _)] at hd13
            have hrp := rest_perm SL hl hperm
            have hlu := line_up_least SL hl hperm hrp
            have hll := line_le SL hl
            have hpl := hperm.length_eq
            rw [ppl_len] at hpl
            have hfl := List.length_filter_le (fun x => decide (x ∉ l)) ord
            generalize (ord.filter fun x => decide (x ∉ l)) = rs at hd13 hrp hlu hfl
            refine ⟨d, _, rfl, .inl ⟨SqL.of hd13, fun q hq => ?_⟩⟩
            have s14 : Same H12 (upd H13 q (.tup (rs.map V.int))) := s13.trans (Same.new hq)
            have s104 := s112.trans s14
            refine ⟨_, rfl, _, rfl, _, rfl, _, rfl, _, rfl, st, _, (n : Int), _, rfl, rfl, s14.tup ha12, atI_nat (at_ref han), _, rfl, b, q, _, _, rfl, rfl, (hb12.same s14).sq, SqT.of upd_same, ?_, fun H15 q2 s15 hq2 => ?_⟩
            · rw [List.length_map, List.length_map]
              exact Nat.le_of_lt (small1000 (by omega))
            refine ⟨o, st, q2, p, c, n, L, l ++ rs, rfl, (s104.trans s15).tup ho10, fi, hst10.same (s104.trans s15), SL, hnc, by rw [List.map_append]; exact hq2, hrp, fun H16 s16 => ?_⟩
            refine ⟨_, rfl, rfl, ?_⟩
            show Q (V.bl (decide (V.int (dist c L (lone c n (l ++ rs))) = V.int (gath p c L n)))) _
            rw [decide_eq_true (by rw [hlu])]
            exact k _
end
end Cl
set_option Elab.async false
set_option linter.all false
set_option maxRecDepth 100000
set_option maxHeartbeats 8000000
/-! What the top has written, and the law's own head (printed by mkhead.py). -/
namespace Cl
open PySem PySem.Spec PyProof.Rows L2
theorem all_mk {l : PySem.W.OpenLaw} {w : World} {K : PySem.W.Frag} {h : Heap} {mg : Str → Option Value} {fa f1 f2 f3 f4 f5 f6 f7 f8 f9 f10 f11 f12 f13 f14 f15 f16 f17 f18 f19 f20 f21 f22 : Addr} (X : K.In h) (G : h.Ns mainGlobals mg) (hfa : mg "law" = some (.ref fa))
    {od1 an1 od2 an2 od3 an3 od4 an4 od5 an5 od6 an6 od7 an7 od8 an8 od9 an9 od10 an10 od11 an11 od12 an12 od13 an13 od14 an14 od15 an15 od16 an16 od17 an17 od18 an18 od19 an19 od20 an20 od21 an21 od22 an22 : Option Addr} {sl1 sl2 sl3 sl4 sl5 sl6 sl7 sl8 sl9 sl10 sl11 sl12 sl13 sl14 sl15 sl16 sl17 sl18 sl19 sl20 sl21 sl22 : Array (Option Value)} {oc1 kV1 dc1 pm1 cd1 ct1 oc2 kV2 dc2 pm2 cd2 ct2 oc3 kV3 dc3 pm3 cd3 ct3 oc4 kV4 dc4 pm4 cd4 ct4 oc5 kV5 dc5 pm5 cd5 ct5 oc6 kV6 dc6 pm6 cd6 ct6 oc7 kV7 dc7 pm7 cd7 ct7 oc8 kV8 dc8 pm8 cd8 ct8 oc9 kV9 dc9 pm9 cd9 ct9 oc10 kV10 dc10 pm10 cd10 ct10 oc11 kV11 dc11 pm11 cd11 ct11 oc12 kV12 dc12 pm12 cd12 ct12 oc13 kV13 dc13 pm13 cd13 ct13 oc14 kV14 dc14 pm14 cd14 ct14 oc15 kV15 dc15 pm15 cd15 ct15 oc16 kV16 dc16 pm16 cd16 ct16 oc17 kV17 dc17 pm17 cd17 ct17 oc18 kV18 dc18 pm18 cd18 ct18 oc19 kV19 dc19 pm19 cd19 ct19 oc20 kV20 dc20 pm20 cd20 ct20 oc21 kV21 dc21 pm21 cd21 ct21 oc22 kV22 dc22 pm22 cd22 ct22 : Value} {t1 t2 : Tok}
    (a1 : PySem.W.nsIn K mainGlobals "is_integer" = some (some (.ref f1))) (l1 : K.lookup f1 = some ⟨oc1, od1, .func (PySem.W.fnOf "is_integer" "is_integer" (defArgs sInt) (defBody sInt) (defScope sInt) .none kV1 dc1 pm1 an1 cd1 ct1), sl1⟩) (c1 : PySem.W.codeIn K cd1 "is_integer" = true) (k1 : PySem.W.keepIn K (.ref f1) = true)
    (a2 : PySem.W.nsIn K mainGlobals "is_in" = some (some (.ref f2))) (l2 : K.lookup f2 = some ⟨oc2, od2, .func (PySem.W.fnOf "is_in" "is_in" (defArgs sIn) (defBody sIn) (defScope sIn) .none kV2 dc2 pm2 an2 cd2 ct2), sl2⟩) (c2 : PySem.W.codeIn K cd2 "is_in" = true) (k2 : PySem.W.keepIn K (.ref f2) = true)
    (a3 : PySem.W.nsIn K mainGlobals "is_list" = some (some (.ref f3))) (l3 : K.lookup f3 = some ⟨oc3, od3, .func (PySem.W.fnOf "is_list" "is_list" (defArgs sLst) (defBody sLst) (defScope sLst) .none kV3 dc3 pm3 an3 cd3 ct3), sl3⟩) (c3 : PySem.W.codeIn K cd3 "is_list" = true) (k3 : PySem.W.keepIn K (.ref f3) = true)
    (a4 : PySem.W.nsIn K mainGlobals "need_office" = some (some (.ref f4))) (l4 : K.lookup f4 = some ⟨oc4, od4, .func (PySem.W.fnOf "need_office" "need_office" (defArgs sOff) (defBody sOff) (defScope sOff) .none kV4 dc4 pm4 an4 cd4 ct4), sl4⟩) (c4 : PySem.W.codeIn K cd4 "need_office" = true) (k4 : PySem.W.keepIn K (.ref f4) = true)
    (a5 : PySem.W.nsIn K mainGlobals "need_lines" = some (some (.ref f5))) (l5 : K.lookup f5 = some ⟨oc5, od5, .func (PySem.W.fnOf "need_lines" "need_lines" (defArgs sLns) (defBody sLns) (defScope sLns) .none kV5 dc5 pm5 an5 cd5 ct5), sl5⟩) (c5 : PySem.W.codeIn K cd5 "need_lines" = true) (k5 : PySem.W.keepIn K (.ref f5) = true)
    (a6 : PySem.W.nsIn K mainGlobals "need_state" = some (some (.ref f6))) (l6 : K.lookup f6 = some ⟨oc6, od6, .func (PySem.W.fnOf "need_state" "need_state" (defArgs sSta) (defBody sSta) (defScope sSta) .none kV6 dc6 pm6 an6 cd6 ct6), sl6⟩) (c6 : PySem.W.codeIn K cd6 "need_state" = true) (k6 : PySem.W.keepIn K (.ref f6) = true)
    (a7 : PySem.W.nsIn K mainGlobals "need_counter" = some (some (.ref f7))) (l7 : K.lookup f7 = some ⟨oc7, od7, .func (PySem.W.fnOf "need_counter" "need_counter" (defArgs sCtr) (defBody sCtr) (defScope sCtr) .none kV7 dc7 pm7 an7 cd7 ct7), sl7⟩) (c7 : PySem.W.codeIn K cd7 "need_counter" = true) (k7 : PySem.W.keepIn K (.ref f7) = true)
    (a8 : PySem.W.nsIn K mainGlobals "need_order" = some (some (.ref f8))) (l8 : K.lookup f8 = some ⟨oc8, od8, .func (PySem.W.fnOf "need_order" "need_order" (defArgs sOrd) (defBody sOrd) (defScope sOrd) .none kV8 dc8 pm8 an8 cd8 ct8), sl8⟩) (c8 : PySem.W.codeIn K cd8 "need_order" = true) (k8 : PySem.W.keepIn K (.ref f8) = true)
    (a9 : PySem.W.nsIn K mainGlobals "counter_of" = some (some (.ref f9))) (l9 : K.lookup f9 = some ⟨oc9, od9, .func (PySem.W.fnOf "counter_of" "counter_of" (defArgs sCof) (defBody sCof) (defScope sCof) .none kV9 dc9 pm9 an9 cd9 ct9), sl9⟩) (c9 : PySem.W.codeIn K cd9 "counter_of" = true) (k9 : PySem.W.keepIn K (.ref f9) = true)
    (a10 : PySem.W.nsIn K mainGlobals "kept_in" = some (some (.ref f10))) (l10 : K.lookup f10 = some ⟨oc10, od10, .func (PySem.W.fnOf "kept_in" "kept_in" (defArgs sKin) (defBody sKin) (defScope sKin) .none kV10 dc10 pm10 an10 cd10 ct10), sl10⟩) (c10 : PySem.W.codeIn K cd10 "kept_in" = true) (k10 : PySem.W.keepIn K (.ref f10) = true)
    (a11 : PySem.W.nsIn K mainGlobals "kept" = some (some (.ref f11))) (l11 : K.lookup f11 = some ⟨oc11, od11, .func (PySem.W.fnOf "kept" "kept" (defArgs sKep) (defBody sKep) (defScope sKep) .none kV11 dc11 pm11 an11 cd11 ct11), sl11⟩) (c11 : PySem.W.codeIn K cd11 "kept" = true) (k11 : PySem.W.keepIn K (.ref f11) = true)
    (a12 : PySem.W.nsIn K mainGlobals "steps_of" = some (some (.ref f12))) (l12 : K.lookup f12 = some ⟨oc12, od12, .func (PySem.W.fnOf "steps_of" "steps_of" (defArgs sStp) (defBody sStp) (defScope sStp) .none kV12 dc12 pm12 an12 cd12 ct12), sl12⟩) (c12 : PySem.W.codeIn K cd12 "steps_of" = true) (k12 : PySem.W.keepIn K (.ref f12) = true)
    (a13 : PySem.W.nsIn K mainGlobals "chains_in" = some (some (.ref f13))) (l13 : K.lookup f13 = some ⟨oc13, od13, .func (PySem.W.fnOf "chains_in" "chains_in" (defArgs sChn) (defBody sChn) (defScope sChn) .none kV13 dc13 pm13 an13 cd13 ct13), sl13⟩) (c13 : PySem.W.codeIn K cd13 "chains_in" = true) (k13 : PySem.W.keepIn K (.ref f13) = true)
    (a14 : PySem.W.nsIn K mainGlobals "distance_in" = some (some (.ref f14))) (l14 : K.lookup f14 = some ⟨oc14, od14, .func (PySem.W.fnOf "distance_in" "distance_in" (defArgs sDin) (defBody sDin) (defScope sDin) .none kV14 dc14 pm14 an14 cd14 ct14), sl14⟩) (c14 : PySem.W.codeIn K cd14 "distance_in" = true) (k14 : PySem.W.keepIn K (.ref f14) = true)
    (a15 : PySem.W.nsIn K mainGlobals "distance" = some (some (.ref f15))) (l15 : K.lookup f15 = some ⟨oc15, od15, .func (PySem.W.fnOf "distance" "distance" (defArgs sDis) (defBody sDis) (defScope sDis) .none kV15 dc15 pm15 an15 cd15 ct15), sl15⟩) (c15 : PySem.W.codeIn K cd15 "distance" = true) (k15 : PySem.W.keepIn K (.ref f15) = true)
    (a16 : PySem.W.nsIn K mainGlobals "least_way_in" = some (some (.ref f16))) (l16 : K.lookup f16 = some ⟨oc16, od16, .func (PySem.W.fnOf "least_way_in" "least_way_in" (defArgs sLwi) (defBody sLwi) (defScope sLwi) .none kV16 dc16 pm16 an16 cd16 ct16), sl16⟩) (c16 : PySem.W.codeIn K cd16 "least_way_in" = true) (k16 : PySem.W.keepIn K (.ref f16) = true)
    (a17 : PySem.W.nsIn K mainGlobals "way" = some (some (.ref f17))) (l17 : K.lookup f17 = some ⟨oc17, od17, .func (PySem.W.fnOf "way" "way" (defArgs sWay) (defBody sWay) (defScope sWay) .none kV17 dc17 pm17 an17 cd17 ct17), sl17⟩) (c17 : PySem.W.codeIn K cd17 "way" = true) (k17 : PySem.W.keepIn K (.ref f17) = true)
    (a18 : PySem.W.nsIn K mainGlobals "line_up" = some (some (.ref f18))) (l18 : K.lookup f18 = some ⟨oc18, od18, .func (PySem.W.fnOf "line_up" "line_up" (defArgs sLup) (defBody sLup) (defScope sLup) .none kV18 dc18 pm18 an18 cd18 ct18), sl18⟩) (c18 : PySem.W.codeIn K cd18 "line_up" = true) (k18 : PySem.W.keepIn K (.ref f18) = true)
    (a19 : PySem.W.nsIn K mainGlobals "gather" = some (some (.ref f19))) (l19 : K.lookup f19 = some ⟨oc19, od19, .func (PySem.W.fnOf "gather" "gather" (defArgs sGat) (defBody sGat) (defScope sGat) .none kV19 dc19 pm19 an19 cd19 ct19), sl19⟩) (c19 : PySem.W.codeIn K cd19 "gather" = true) (k19 : PySem.W.keepIn K (.ref f19) = true)
    (a20 : PySem.W.nsIn K mainGlobals "_law_taken" = some (some (.ref f20))) (l20 : K.lookup f20 = some ⟨oc20, od20, .func (PySem.W.fnOf "_law_taken" "_law_taken" (defArgs sTak) (defBody sTak) (defScope sTak) .none kV20 dc20 pm20 an20 cd20 ct20), sl20⟩) (c20 : PySem.W.codeIn K cd20 "_law_taken" = true) (k20 : PySem.W.keepIn K (.ref f20) = true)
    (a21 : PySem.W.nsIn K mainGlobals "_law_state" = some (some (.ref f21))) (l21 : K.lookup f21 = some ⟨oc21, od21, .func (PySem.W.fnOf "_law_state" "_law_state" (defArgs sSte) (defBody sSte) (defScope sSte) .none kV21 dc21 pm21 an21 cd21 ct21), sl21⟩) (c21 : PySem.W.codeIn K cd21 "_law_state" = true) (k21 : PySem.W.keepIn K (.ref f21) = true)
    (a22 : PySem.W.nsIn K mainGlobals "law" = some (some (.ref f22))) (l22 : K.lookup f22 = some ⟨oc22, od22, .func (PySem.W.fnOf "law" "law" (defArgs sLaw) (defBody sLaw) (defScope sLaw) .none kV22 dc22 pm22 an22 cd22 ct22), sl22⟩) (c22 : PySem.W.codeIn K cd22 "law" = true) (k22 : PySem.W.keepIn K (.ref f22) = true)
    (m7 : PySem.W.nsIn K mainGlobals "MOST_PEOPLE" = some (some (.int 7 t1))) (m6 : PySem.W.nsIn K mainGlobals "MOST_COUNTERS" = some (some (.int 6 t2)))
    (z1 : PySem.W.nsIn K mainGlobals "isinstance" = some none) (z2 : PySem.W.nsIn K mainGlobals "int" = some none) (z3 : PySem.W.nsIn K mainGlobals "bool" = some none) (z4 : PySem.W.nsIn K mainGlobals "tuple" = some none) (z5 : PySem.W.nsIn K mainGlobals "len" = some none) (z6 : PySem.W.nsIn K mainGlobals "enumerate" = some none) (z7 : PySem.W.nsIn K mainGlobals "all" = some none) (z8 : PySem.W.nsIn K mainGlobals "sorted" = some none) (z9 : PySem.W.nsIn K mainGlobals "list" = some none) (z10 : PySem.W.nsIn K mainGlobals "range" = some none) (z11 : PySem.W.nsIn K mainGlobals "zip" = some none) (z12 : PySem.W.nsIn K mainGlobals "sum" = some none) (z13 : PySem.W.nsIn K mainGlobals "min" = some none) (z14 : PySem.W.nsIn K mainGlobals "max" = some none) :
    ∃ fd : FuncData, (∀ (s : Shared) (v : Value), BindsTo s fd ⟨[v], []⟩ [("_law_script", v)]) ∧ ∀ base : Heap, K.In base → base.Ns mainGlobals mg → FnOk l.prog w K mg base CX0 6 fa fd ["_law_script"] (spLaw K) := by
  have e := hfa.symm.trans (PySem.W.mg_of X G a22)
  cases e
  have B : Blt mg := ⟨PySem.W.mg_none_of X G z1, PySem.W.mg_none_of X G z2, PySem.W.mg_none_of X G z3, PySem.W.mg_none_of X G z4, PySem.W.mg_none_of X G z5, PySem.W.mg_none_of X G z6, PySem.W.mg_none_of X G z7, PySem.W.mg_none_of X G z8, PySem.W.mg_none_of X G z9, PySem.W.mg_none_of X G z10, PySem.W.mg_none_of X G z11, PySem.W.mg_none_of X G z12, PySem.W.mg_none_of X G z13, PySem.W.mg_none_of X G z14⟩
  have F1 := fun_mk (st := sInt) l1 c1 k1
  have DInt : Def K mg "is_integer" sInt ["value"] := ⟨f1, _, PySem.W.mg_of X G a1, F1, F1.binds fun _ _ _ _ _ _ us hl => match us, hl with | [_], _ => rfl⟩
  have F2 := fun_mk (st := sIn) l2 c2 k2
  have DIn : Def K mg "is_in" sIn ["value", "least", "most"] := ⟨f2, _, PySem.W.mg_of X G a2, F2, F2.binds fun _ _ _ _ _ _ us hl => match us, hl with | [_, _, _], _ => rfl⟩
  have F3 := fun_mk (st := sLst) l3 c3 k3
  have DLst : Def K mg "is_list" sLst ["value", "least", "most"] := ⟨f3, _, PySem.W.mg_of X G a3, F3, F3.binds fun _ _ _ _ _ _ us hl => match us, hl with | [_, _, _], _ => rfl⟩
  have F4 := fun_mk (st := sOff) l4 c4 k4
  have DOff : Def K mg "need_office" sOff ["office"] := ⟨f4, _, PySem.W.mg_of X G a4, F4, F4.binds fun _ _ _ _ _ _ us hl => match us, hl with | [_], _ => rfl⟩
  have F5 := fun_mk (st := sLns) l5 c5 k5
  have DLns : Def K mg "need_lines" sLns ["office", "state"] := ⟨f5, _, PySem.W.mg_of X G a5, F5, F5.binds fun _ _ _ _ _ _ us hl => match us, hl with | [_, _], _ => rfl⟩
  have F6 := fun_mk (st := sSta) l6 c6 k6
  have DSta : Def K mg "need_state" sSta ["office", "state"] := ⟨f6, _, PySem.W.mg_of X G a6, F6, F6.binds fun _ _ _ _ _ _ us hl => match us, hl with | [_, _], _ => rfl⟩
  have F7 := fun_mk (st := sCtr) l7 c7 k7
  have DCtr : Def K mg "need_counter" sCtr ["office", "counter"] := ⟨f7, _, PySem.W.mg_of X G a7, F7, F7.binds fun _ _ _ _ _ _ us hl => match us, hl with | [_, _], _ => rfl⟩
  have F8 := fun_mk (st := sOrd) l8 c8 k8
  have DOrd : Def K mg "need_order" sOrd ["office", "order"] := ⟨f8, _, PySem.W.mg_of X G a8, F8, F8.binds fun _ _ _ _ _ _ us hl => match us, hl with | [_, _], _ => rfl⟩
  have F9 := fun_mk (st := sCof) l9 c9 k9
  have DCof : Def K mg "counter_of" sCof ["state", "person"] := ⟨f9, _, PySem.W.mg_of X G a9, F9, F9.binds fun _ _ _ _ _ _ us hl => match us, hl with | [_, _], _ => rfl⟩
  have F10 := fun_mk (st := sKin) l10 c10 k10
  have DKin : Def K mg "kept_in" sKin ["one", "other"] := ⟨f10, _, PySem.W.mg_of X G a10, F10, F10.binds fun _ _ _ _ _ _ us hl => match us, hl with | [_, _], _ => rfl⟩
  have F11 := fun_mk (st := sKep) l11 c11 k11
  have DKep : Def K mg "kept" sKep ["office", "one", "other"] := ⟨f11, _, PySem.W.mg_of X G a11, F11, F11.binds fun _ _ _ _ _ _ us hl => match us, hl with | [_, _, _], _ => rfl⟩
  have F12 := fun_mk (st := sStp) l12 c12 k12
  have DStp : Def K mg "steps_of" sStp ["one", "other", "person"] := ⟨f12, _, PySem.W.mg_of X G a12, F12, F12.binds fun _ _ _ _ _ _ us hl => match us, hl with | [_, _, _], _ => rfl⟩
  have F13 := fun_mk (st := sChn) l13 c13 k13
  have DChn : Def K mg "chains_in" sChn ["one", "other", "many"] := ⟨f13, _, PySem.W.mg_of X G a13, F13, F13.binds fun _ _ _ _ _ _ us hl => match us, hl with | [_, _, _], _ => rfl⟩
  have F14 := fun_mk (st := sDin) l14 c14 k14
  have DDin : Def K mg "distance_in" sDin ["one", "other"] := ⟨f14, _, PySem.W.mg_of X G a14, F14, F14.binds fun _ _ _ _ _ _ us hl => match us, hl with | [_, _], _ => rfl⟩
  have F15 := fun_mk (st := sDis) l15 c15 k15
  have DDis : Def K mg "distance" sDis ["office", "one", "other"] := ⟨f15, _, PySem.W.mg_of X G a15, F15, F15.binds fun _ _ _ _ _ _ us hl => match us, hl with | [_, _, _], _ => rfl⟩
  have F16 := fun_mk (st := sLwi) l16 c16 k16
  have DLwi : Def K mg "least_way_in" sLwi ["chains"] := ⟨f16, _, PySem.W.mg_of X G a16, F16, F16.binds fun _ _ _ _ _ _ us hl => match us, hl with | [_], _ => rfl⟩
  have F17 := fun_mk (st := sWay) l17 c17 k17
  have DWay : Def K mg "way" sWay ["office", "one", "other"] := ⟨f17, _, PySem.W.mg_of X G a17, F17, F17.binds fun _ _ _ _ _ _ us hl => match us, hl with | [_, _, _], _ => rfl⟩
  have F18 := fun_mk (st := sLup) l18 c18 k18
  have DLup : Def K mg "line_up" sLup ["office", "state", "counter", "order"] := ⟨f18, _, PySem.W.mg_of X G a18, F18, F18.binds fun _ _ _ _ _ _ us hl => match us, hl with | [_, _, _, _], _ => rfl⟩
  have F19 := fun_mk (st := sGat) l19 c19 k19
  have DGat : Def K mg "gather" sGat ["office", "state", "counter"] := ⟨f19, _, PySem.W.mg_of X G a19, F19, F19.binds fun _ _ _ _ _ _ us hl => match us, hl with | [_, _, _], _ => rfl⟩
  have F20 := fun_mk (st := sTak) l20 c20 k20
  have DTak : Def K mg "_law_taken" sTak ["_law_row", "_law_many"] := ⟨f20, _, PySem.W.mg_of X G a20, F20, F20.binds fun _ _ _ _ _ _ us hl => match us, hl with | [_, _], _ => rfl⟩
  have F21 := fun_mk (st := sSte) l21 c21 k21
  have DSte : Def K mg "_law_state" sSte ["_law_row", "_law_office"] := ⟨f21, _, PySem.W.mg_of X G a21, F21, F21.binds fun _ _ _ _ _ _ us hl => match us, hl with | [_, _], _ => rfl⟩
  have F22 := fun_mk (st := sLaw) l22 c22 k22
  refine ⟨PySem.W.fnOf "law" "law" (defArgs sLaw) (defBody sLaw) (defScope sLaw) .none kV22 dc22 pm22 an22 cd22 ct22, fun s v => .of_eq rfl, fun base _ _ => ?_⟩
  have GInt : Kept l.prog w K mg base 1 "is_integer" ["value"] spInt := ok_int B DInt
  have GIn : Kept l.prog w K mg base 2 "is_in" ["value", "least", "most"] spIn := ok_in B GInt DIn
  have GLst : Kept l.prog w K mg base 1 "is_list" ["value", "least", "most"] (spLst K) := ok_lst B DLst
  have GOff : Kept l.prog w K mg base 3 "need_office" ["office"] (spOff K) := ok_off B (PySem.W.mg_of X G m7) (PySem.W.mg_of X G m6) GLst GIn DOff
  have GLns : Kept l.prog w K mg base 3 "need_lines" ["office", "state"] (spLns K) := ok_lns B GLst GIn DLns
  have GSta : Kept l.prog w K mg base 4 "need_state" ["office", "state"] (spLns K) := ok_sta GOff GLns DSta
  have GCtr : Kept l.prog w K mg base 3 "need_counter" ["office", "counter"] (spCtr K) := ok_ctr GIn DCtr
  have GOrd : Kept l.prog w K mg base 3 "need_order" ["office", "order"] (spOrd K) := ok_ord B GLst GIn DOrd
  have GCof : Kept l.prog w K mg base 1 "counter_of" ["state", "person"] (spCof K) := ok_cof B DCof
  have GKin : Kept l.prog w K mg base 1 "kept_in" ["one", "other"] (spKin K) := ok_kin B DKin
  have GKep : Kept l.prog w K mg base 5 "kept" ["office", "one", "other"] (spKep K) := ok_kep B GSta GLns GKin DKep
  have GStp : Kept l.prog w K mg base 2 "steps_of" ["one", "other", "person"] (spStp K) := ok_stp B GCof DStp
  have GChn : Kept l.prog w K mg base 3 "chains_in" ["one", "other", "many"] (spChn K) := ok_chn B GStp DChn
  have GDin : Kept l.prog w K mg base 4 "distance_in" ["one", "other"] (spDin K) := ok_din B GChn GKin DDin
  have GDis : Kept l.prog w K mg base 5 "distance" ["office", "one", "other"] (spDis K) := ok_dis GSta GLns GDin DDis
  have GLwi : Kept l.prog w K mg base 1 "least_way_in" ["chains"] (spLwi K) := ok_lwi B DLwi
  have GWay : Kept l.prog w K mg base 5 "way" ["office", "one", "other"] (spWay K) := ok_way GSta GLns GLwi GChn GKin DWay
  have GLup : Kept l.prog w K mg base 5 "line_up" ["office", "state", "counter", "order"] (spLup K) := ok_lup B GSta GCtr GOrd GDin DLup
  have GGat : Kept l.prog w K mg base 5 "gather" ["office", "state", "counter"] (spGat K) := ok_gat B GSta GCtr GCof DGat
  have GTak : Kept l.prog w K mg base 1 "_law_taken" ["_law_row", "_law_many"] (spTak K) := ok_tak B DTak
  have GSte : Kept l.prog w K mg base 2 "_law_state" ["_law_row", "_law_office"] (spSte K) := ok_ste B GTak DSte
  exact ok_law B GTak GSte GDis GKep GWay GGat GLup F22
end Cl
open PySem PySem.W PyProof.Rows
set_option maxRecDepth 100000 in
set_option maxHeartbeats 0 in
theorem PySem.Challenge.cw_counterlines_k72_whole_reordered_lines_holds : PySem.Challenge.rw_counterlines_k72_whole_reordered_lines.Holds := by
  w_on; o_law; k_head; (case hw => w_witness2)
  k_fill
  refine L2.walk_of (l := PySem.Challenge.rw_counterlines_k72_whole_reordered_lines) (n := 63) (k := 6) (x := "_law_script") (CX := fun _ => L2.CX0) (sp := fun w => Cl.spLaw _) rfl (by decide) rfl ⟨rfl, by decide, by decide⟩ (fun w h Y => PySem.W.kIn_of Y) ?F (fun _ _ a ns hl _ hS => ⟨a, ns, rfl, hS, hl, fun _ => rfl⟩) (fun _ _ _ _ _ h => h)
  case F =>
    intro w mg fa h KX G hmg
    refine' Cl.all_mk KX G hmg ?a1 ?l1 ?c1 ?k1 ?a2 ?l2 ?c2 ?k2 ?a3 ?l3 ?c3 ?k3 ?a4 ?l4 ?c4 ?k4 ?a5 ?l5 ?c5 ?k5 ?a6 ?l6 ?c6 ?k6 ?a7 ?l7 ?c7 ?k7 ?a8 ?l8 ?c8 ?k8 ?a9 ?l9 ?c9 ?k9 ?a10 ?l10 ?c10 ?k10 ?a11 ?l11 ?c11 ?k11 ?a12 ?l12 ?c12 ?k12 ?a13 ?l13 ?c13 ?k13 ?a14 ?l14 ?c14 ?k14 ?a15 ?l15 ?c15 ?k15 ?a16 ?l16 ?c16 ?k16 ?a17 ?l17 ?c17 ?k17 ?a18 ?l18 ?c18 ?k18 ?a19 ?l19 ?c19 ?k19 ?a20 ?l20 ?c20 ?k20 ?a21 ?l21 ?c21 ?k21 ?a22 ?l22 ?c22 ?k22 ?m7 ?m6 ?z1 ?z2 ?z3 ?z4 ?z5 ?z6 ?z7 ?z8 ?z9 ?z10 ?z11 ?z12 ?z13 ?z14
    (case a1 => k_is)
    (case l1 => k_is)
    (case c1 => k_is)
    (case k1 => k_is)
    (case a2 => k_is)
    (case l2 => k_is)
    (case c2 => k_is)
    (case k2 => k_is)
    (case a3 => k_is)
    (case l3 => k_is)
    (case c3 => k_is)
    (case k3 => k_is)
    (case a4 => k_is)
    (case l4 => k_is)
    (case c4 => k_is)
    (case k4 => k_is)
    (case a5 => k_is)
    (case l5 => k_is)
    (case c5 => k_is)
    (case k5 => k_is)
    (case a6 => k_is)
    (case l6 => k_is)
    (case c6 => k_is)
    (case k6 => k_is)
    (case a7 => k_is)
    (case l7 => k_is)
    (case c7 => k_is)
    (case k7 => k_is)
    (case a8 => k_is)
    (case l8 => k_is)
    (case c8 => k_is)
    (case k8 => k_is)
    (case a9 => k_is)
    (case l9 => k_is)
    (case c9 => k_is)
    (case k9 => k_is)
    (case a10 => k_is)
    (case l10 => k_is)
    (case c10 => k_is)
    (case k10 => k_is)
    (case a11 => k_is)
    (case l11 => k_is)
    (case c11 => k_is)
    (case k11 => k_is)
    (case a12 => k_is)
    (case l12 => k_is)
    (case c12 => k_is)
    (case k12 => k_is)
    (case a13 => k_is)
    (case l13 => k_is)
    (case c13 => k_is)
    (case k13 => k_is)
    (case a14 => k_is)
    (case l14 => k_is)
    (case c14 => k_is)
    (case k14 => k_is)
    (case a15 => k_is)
    (case l15 => k_is)
    (case c15 => k_is)
    (case k15 => k_is)
    (case a16 => k_is)
    (case l16 => k_is)
    (case c16 => k_is)
    (case k16 => k_is)
    (case a17 => k_is)
    (case l17 => k_is)
    (case c17 => k_is)
    (case k17 => k_is)
    (case a18 => k_is)
    (case l18 => k_is)
    (case c18 => k_is)
    (case k18 => k_is)
    (case a19 => k_is)
    (case l19 => k_is)
    (case c19 => k_is)
    (case k19 => k_is)
    (case a20 => k_is)
    (case l20 => k_is)
    (case c20 => k_is)
    (case k20 => k_is)
    (case a21 => k_is)
    (case l21 => k_is)
    (case c21 => k_is)
    (case k21 => k_is)
    (case a22 => k_is)
    (case l22 => k_is)
    (case c22 => k_is)
    (case k22 => k_is)
    (case m7 => k_is)
    (case m6 => k_is)
    (case z1 => k_is)
    (case z2 => k_is)
    (case z3 => k_is)
    (case z4 => k_is)
    (case z5 => k_is)
    (case z6 => k_is)
    (case z7 => k_is)
    (case z8 => k_is)
    (case z9 => k_is)
    (case z10 => k_is)
    (case z11 => k_is)
    (case z12 => k_is)
    (case z13 => k_is)
    (case z14 => k_is)
