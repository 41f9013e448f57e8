import PyProof.Rows.All
import Wide.All
import OpenK.AllK
import Wide.FinOn
import HandS.ForExc
import HandS.ExcSuper
import KE.KExcSuper
import HandS.ForMost
import HandS.IsInst
import HandS.Zip
import HandS.Deep
import HandS.Conv
import HandS.DictComp
import HandS.Wide
import HandS.Style
import HandS.RaiseMore
import HandS.SetFor
import HandS.StrMore
import HandS.TupMul
import HandS.Strs
import HandS.Walk
import KE.GoesEnum
import PyProof.NeKinds
import HandS.Replace
import HandS.TryOnly
import PyProof.CallFns
import PySem.Challenge.RW_lacehouse_k12_whole_leads
set_option Elab.async false
set_option linter.all false
set_option maxRecDepth 100000
set_option maxHeartbeats 2000000
/-! Plain law: walks told by a start and hands; shortening; Bellman-Ford; back pointers; circuits. -/
namespace LHM

/-- pigeonhole -/
theorem filt_len : ∀ (l : List Nat) (n : Nat), l.Nodup → l.length ≤ (l.filter (fun x => decide (x ≠ n))).length + 1
  | [], _, _ => by simp
  | a :: r, n, h => by
    obtain ⟨h1, h2⟩ := List.nodup_cons.mp h
    by_cases e : a = n
    · subst e
      have : r.filter (fun x => decide (x ≠ a)) = r := List.filter_eq_self.mpr fun x hx => decide_eq_true fun z => h1 (z ▸ hx)
      rw [List.filter_cons_of_neg (by simp), this]
      simp
    · rw [List.filter_cons_of_pos (by simp [e])]
      have := filt_len r n h2
      simp only [List.length_cons]
      omega
theorem pigeon : ∀ (n : Nat) (l : List Nat), l.Nodup → (∀ x ∈ l, x < n) → l.length ≤ n
  | 0, l, _, h => by
    cases l with
    | nil => simp
    | cons a r => exact absurd (h a (by simp)) (Nat.not_lt_zero _)
  | n + 1, l, hn, h => by
    have h1 := filt_len l n hn
    have h2 := pigeon n (l.filter (fun x => decide (x ≠ n))) (hn.filter _) fun x hx => by
      obtain ⟨a, b⟩ := List.mem_filter.mp hx
      have := h x a
      have := of_decide_eq_true b
      omega
    omega

section
variable (n : Nat) (to : Nat → Bool → Nat) (w : Nat → Bool → Int)

def fin (v : Nat) : List Bool → Nat
  | [] => v
  | h :: r => fin (to v h) r
def sum (v : Nat) : List Bool → Int
  | [] => 0
  | h :: r => w v h + sum (to v h) r
def verts (v : Nat) : List Bool → List Nat
  | [] => []
  | h :: r => v :: verts (to v h) r
/-- a circuit from v -/
def Circ (v : Nat) (hs : List Bool) : Prop := hs ≠ [] ∧ fin to v hs = v ∧ (verts to v hs).Nodup
end

section
variable {n : Nat} {to : Nat → Bool → Nat} {w : Nat → Bool → Int}
theorem fin_app : ∀ (a b : List Bool) (v : Nat), fin to v (a ++ b) = fin to (fin to v a) b
  | [], _, _ => rfl
  | h :: r, b, v => fin_app r b (to v h)
theorem sum_app : ∀ (a b : List Bool) (v : Nat), sum to w v (a ++ b) = sum to w v a + sum to w (fin to v a) b
  | [], b, v => by show _ = 0 + _; rw [Int.zero_add]; rfl
  | h :: r, b, v => by
    show w v h + sum to w (to v h) (r ++ b) = w v h + sum to w (to v h) r + _
    rw [sum_app r b (to v h)]
    show _ = w v h + sum to w (to v h) r + sum to w (fin to (to v h) r) b
    omega
theorem verts_app : ∀ (a b : List Bool) (v : Nat), verts to v (a ++ b) = verts to v a ++ verts to (fin to v a) b
  | [], _, _ => rfl
  | h :: r, b, v => by
    show v :: verts to (to v h) (r ++ b) = v :: (verts to (to v h) r ++ _)
    rw [verts_app r b (to v h)]; rfl
theorem verts_len : ∀ (a : List Bool) (v : Nat), (verts to v a).length = a.length
  | [], _ => rfl
  | h :: r, v => by
    show (verts to (to v h) r).length + 1 = r.length + 1
    rw [verts_len r]
theorem fin_lt (ht : ∀ v h, v < n → to v h < n) : ∀ (a : List Bool) (v : Nat), v < n → fin to v a < n
  | [], _, hv => hv
  | h :: r, v, hv => fin_lt ht r (to v h) (ht v h hv)
theorem verts_lt (ht : ∀ v h, v < n → to v h < n) : ∀ (a : List Bool) (v : Nat), v < n → ∀ x ∈ verts to v a, x < n
  | [], _, _, x, hx => by simp [verts] at hx
  | h :: r, v, hv, x, hx => by
    rcases List.mem_cons.mp hx with e | e
    · rw [e]; exact hv
    · exact verts_lt ht r (to v h) (ht v h hv) x e
theorem split_at : ∀ (hs : List Bool) (v u : Nat), u ∈ verts to v hs → ∃ a b, hs = a ++ b ∧ fin to v a = u ∧ b ≠ [] ∧ ¬ u ∈ verts to v a
  | [], _, _, h => by simp [verts] at h
  | h :: r, v, u, hu => by
    by_cases e : u = v
    · exact ⟨[], h :: r, rfl, e.symm, by simp, by simp [verts]⟩
    · have hu' : u ∈ verts to (to v h) r := by
        rcases List.mem_cons.mp hu with q | q
        · exact absurd q e
        · exact q
      obtain ⟨a, b, e1, e2, e3, e4⟩ := split_at r (to v h) u hu'
      refine ⟨h :: a, b, by rw [e1]; rfl, e2, e3, fun m => ?_⟩
      rcases List.mem_cons.mp m with q | q
      · exact e q
      · exact e4 q
/-- a walk whose stitches come again has a circuit within -/
theorem decomp : ∀ (hs : List Bool) (v : Nat), (verts to v hs ++ [fin to v hs]).Nodup ∨ ∃ a b c, hs = a ++ b ++ c ∧ Circ to (fin to v a) b
  | [], v => .inl (by simp [verts, fin])
  | h :: r, v => by
    rcases decomp r (to v h) with q | ⟨a, b, c, e, hc⟩
    · by_cases hv : v ∈ verts to (to v h) r ++ [fin to (to v h) r]
      · right
        by_cases hv2 : v ∈ verts to (to v h) r
        · obtain ⟨a, b, e1, e2, e3, e4⟩ := split_at r (to v h) v hv2
          refine ⟨[], h :: a, b, by rw [e1]; rfl, by simp, e2, ?_⟩
          show (v :: verts to (to v h) a).Nodup
          refine List.nodup_cons.mpr ⟨e4, ?_⟩
          rw [e1, verts_app] at q
          exact (List.nodup_append.mp (List.nodup_append.mp q).1).1
        · have hf : fin to (to v h) r = v := by
            rcases List.mem_append.mp hv with z | z
            · exact absurd z hv2
            · exact (List.mem_singleton.mp z).symm
          refine ⟨[], h :: r, [], by simp, by simp, hf, ?_⟩
          show (v :: verts to (to v h) r).Nodup
          exact List.nodup_cons.mpr ⟨hv2, (List.nodup_append.mp q).1⟩
      · left
        show (v :: (verts to (to v h) r ++ [fin to (to v h) r])).Nodup
        exact List.nodup_cons.mpr ⟨hv, q⟩
    · exact .inr ⟨h :: a, b, c, by rw [e]; rfl, hc⟩
theorem shorten1 (ht : ∀ v h, v < n → to v h < n) (hc : ∀ v hs, v < n → Circ to v hs → 0 ≤ sum to w v hs) (v : Nat) (hs : List Bool) (hv : v < n) (hl : n ≤ hs.length) :
    ∃ hs', hs'.length < hs.length ∧ fin to v hs' = fin to v hs ∧ sum to w v hs' ≤ sum to w v hs := by
  rcases decomp (to := to) hs v with q | ⟨a, b, c, e, hcir⟩
  · have h1 := pigeon n _ q fun x hx => by
      rcases List.mem_append.mp hx with z | z
      · exact verts_lt ht hs v hv x z
      · rw [List.mem_singleton.mp z]; exact fin_lt ht hs v hv
    rw [List.length_append, verts_len] at h1
    simp at h1
    omega
  · have h0 := hc _ b (fin_lt ht a v hv) hcir
    obtain ⟨hb, hf, _⟩ := hcir
    refine ⟨a ++ c, ?_, ?_, ?_⟩
    · rw [e]
      have : 0 < b.length := List.length_pos_iff.mpr hb
      simp only [List.length_append]
      omega
    · rw [e, fin_app, fin_app, fin_app, hf]
    · rw [e, sum_app, sum_app, sum_app, fin_app, hf]
      omega
theorem shorten (ht : ∀ v h, v < n → to v h < n) (hc : ∀ v hs, v < n → Circ to v hs → 0 ≤ sum to w v hs) (v : Nat) (hv : v < n) : ∀ (k : Nat) (hs : List Bool), hs.length ≤ k →
    ∃ hs', hs'.length < n ∧ fin to v hs' = fin to v hs ∧ sum to w v hs' ≤ sum to w v hs
  | 0, hs, h => ⟨hs, by omega, rfl, Int.le_refl _⟩
  | k + 1, hs, h => by
    by_cases hl : hs.length < n
    · exact ⟨hs, hl, rfl, Int.le_refl _⟩
    · obtain ⟨h1, a1, a2, a3⟩ := shorten1 ht hc v hs hv (by omega)
      obtain ⟨h2, b1, b2, b3⟩ := shorten ht hc v hv k h1 (by omega)
      exact ⟨h2, b1, b2.trans a2, Int.le_trans b3 a3⟩
/-- a potential tells that circuits weigh 0 or more -/
theorem sum_pot {φ : Nat → Int} (ht : ∀ v h, v < n → to v h < n) (hp : ∀ v h, v < n → φ (to v h) ≤ φ v + w v h) : ∀ (hs : List Bool) (v : Nat), v < n → φ (fin to v hs) ≤ φ v + sum to w v hs
  | [], v, _ => by show φ v ≤ φ v + 0; omega
  | h :: r, v, hv => by
    have h1 := sum_pot ht hp r (to v h) (ht v h hv)
    have h2 := hp v h hv
    show φ (fin to (to v h) r) ≤ φ v + (w v h + sum to w (to v h) r)
    omega
theorem circ_pot {φ : Nat → Int} (ht : ∀ v h, v < n → to v h < n) (hp : ∀ v h, v < n → φ (to v h) ≤ φ v + w v h) (v : Nat) (hs : List Bool) (hv : v < n) (hc : Circ to v hs) : 0 ≤ sum to w v hs := by
  have h := sum_pot ht hp hs v hv
  rw [hc.2.1] at h
  omega
end
end LHM

namespace LHM
def upf {α : Type} (f : Nat → α) (k : Nat) (x : α) : Nat → α := fun j => if j = k then x else f j
theorem upf_same {α : Type} {f : Nat → α} {k : Nat} {x : α} : upf f k x k = x := if_pos rfl
theorem upf_ne {α : Type} {f : Nat → α} {k j : Nat} {x : α} (h : j ≠ k) : upf f k x j = f j := if_neg h
/-- the hand of the i-th way -/
def hd (i : Nat) : Bool := decide (i % 2 = 1)
structure FS where
  low : Nat → Int
  bef : Nat → Nat
  edg : Nat → Option Nat
  ch : Option Nat
section
variable (n : Nat) (to : Nat → Bool → Nat) (w : Nat → Bool → Int)
def relax (s : FS) (i : Nat) : FS :=
  if s.low (i / 2) + w (i / 2) (hd i) < s.low (to (i / 2) (hd i)) then
    ⟨upf s.low (to (i / 2) (hd i)) (s.low (i / 2) + w (i / 2) (hd i)), upf s.bef (to (i / 2) (hd i)) (i / 2), upf s.edg (to (i / 2) (hd i)) (some i), some (to (i / 2) (hd i))⟩
  else s
def stp (s : FS) : Nat → FS
  | 0 => s
  | i + 1 => relax to w (stp s i) i
def clr (s : FS) : FS := { s with ch := none }
def ini : FS := ⟨fun _ => 0, fun v => v, fun _ => none, none⟩
def rd : Nat → FS
  | 0 => ini
  | k + 1 => stp to w (clr (rd k)) (2 * n)
def bk (s : FS) (v : Nat) : Nat → Nat
  | 0 => v
  | k + 1 => s.bef (bk s v k)
structure Good (s : FS) : Prop where
  all : ∀ v, v < n → (s.edg v = none ∧ s.bef v = v ∧ s.low v = 0) ∨ (∃ i, s.edg v = some i ∧ i < 2 * n ∧ s.bef v = i / 2 ∧ to (i / 2) (hd i) = v ∧ s.low (i / 2) + w (i / 2) (hd i) ≤ s.low v)
def Wit (s : FS) : Prop := ∀ v, v < n → ∃ u hs, u < n ∧ fin to u hs = v ∧ sum to w u hs = s.low v
def Upper (s : FS) (k : Nat) : Prop := ∀ u hs, u < n → hs.length ≤ k → s.low (fin to u hs) ≤ sum to w u hs
end
section
variable {n : Nat} {to : Nat → Bool → Nat} {w : Nat → Bool → Int} {s : FS}
theorem relax_low (i : Nat) (v : Nat) : (relax to w s i).low v ≤ s.low v := by
  unfold relax
  split
  · rename_i h
    show upf _ _ _ v ≤ _
    unfold upf
    split
    · rename_i e; subst e; omega
    · exact Int.le_refl _
  · exact Int.le_refl _
theorem stp_low (v : Nat) : ∀ i, (stp to w s i).low v ≤ s.low v
  | 0 => Int.le_refl _
  | i + 1 => Int.le_trans (relax_low i v) (stp_low v i)
theorem stp_le (v : Nat) (i : Nat) : ∀ j, (stp to w s (i + j)).low v ≤ (stp to w s i).low v
  | 0 => Int.le_refl _
  | j + 1 => Int.le_trans (relax_low (i + j) v) (stp_le v i j)
theorem relax_to (i : Nat) : (relax to w s i).low (to (i / 2) (hd i)) ≤ s.low (i / 2) + w (i / 2) (hd i) := by
  unfold relax
  split
  · show upf _ _ _ _ ≤ _
    rw [upf_same]
    exact Int.le_refl _
  · rename_i h; omega
theorem stp_to {i m : Nat} (h : i < m) : (stp to w s m).low (to (i / 2) (hd i)) ≤ s.low (i / 2) + w (i / 2) (hd i) := by
  have h1 := stp_le (to := to) (w := w) (s := s) (to (i / 2) (hd i)) (i + 1) (m - (i + 1))
  rw [show i + 1 + (m - (i + 1)) = m by omega] at h1
  have h2 := relax_to (to := to) (w := w) (s := stp to w s i) i
  have h3 := stp_low (to := to) (w := w) (s := s) (i / 2) i
  exact Int.le_trans h1 (Int.le_trans h2 (by omega))
theorem way_ix (v : Nat) (h : Bool) : ∃ i, i / 2 = v ∧ hd i = h ∧ ∀ n, v < n → i < 2 * n := by
  cases h with
  | false => exact ⟨2 * v, by omega, by unfold hd; exact decide_eq_false (by omega), fun n hn => by omega⟩
  | true => exact ⟨2 * v + 1, by omega, by unfold hd; exact decide_eq_true (by omega), fun n hn => by omega⟩
theorem upper_next (ht : ∀ v h, v < n → to v h < n) {k : Nat} (h : Upper n to w s k) : Upper n to w (stp to w (clr s) (2 * n)) (k + 1) := by
  intro u hs hu hl
  rcases List.eq_nil_or_concat hs with e | ⟨hs', b, e⟩
  · subst e
    exact Int.le_trans (stp_low _ _) (h u [] hu (Nat.zero_le _))
  · have e' : hs = hs' ++ [b] := by rw [e]; simp
    subst e'
    have hl' : hs'.length ≤ k := by simp at hl; omega
    rw [fin_app, sum_app]
    obtain ⟨i, h1, h2, h3⟩ := way_ix (fin to u hs') b
    have h4 := stp_to (to := to) (w := w) (s := clr s) (h3 n (fin_lt ht hs' u hu))
    rw [h1, h2] at h4
    have h5 := h u hs' hu hl'
    show (stp to w (clr s) (2 * n)).low (to (fin to u hs') b) ≤ sum to w u hs' + (w (fin to u hs') b + 0)
    have h6 : (clr s).low (fin to u hs') = s.low (fin to u hs') := rfl
    omega
theorem wit_relax (ht : ∀ v h, v < n → to v h < n) {i : Nat} (hi : i < 2 * n) (h : Wit n to w s) : Wit n to w (relax to w s i) := by
  intro v hv
  unfold relax
  split
  · by_cases e : v = to (i / 2) (hd i)
    · obtain ⟨u, hs, a, b, c⟩ := h (i / 2) (by omega)
      refine ⟨u, hs ++ [hd i], a, by rw [fin_app, b, e]; rfl, ?_⟩
      show _ = upf _ _ _ v
      rw [e, upf_same, sum_app, b, c]
      show _ + (_ + 0) = _
      omega
    · obtain ⟨u, hs, a, b, c⟩ := h v hv
      refine ⟨u, hs, a, b, ?_⟩
      show _ = upf _ _ _ v
      rw [upf_ne e]; exact c
  · exact h v hv
theorem wit_stp (ht : ∀ v h, v < n → to v h < n) (h : Wit n to w s) : ∀ i, i ≤ 2 * n → Wit n to w (stp to w s i)
  | 0, _ => h
  | i + 1, hi => wit_relax ht (by omega) (wit_stp ht h i (by omega))
theorem good_relax (ht : ∀ v h, v < n → to v h < n) {i : Nat} (hi : i < 2 * n) (h : Good n to w s) : Good n to w (relax to w s i) := by
  refine ⟨fun v hv => ?_⟩
  unfold relax
  split
  · rename_i hlt
    by_cases e : v = to (i / 2) (hd i)
    · subst e
      refine .inr ⟨i, by show upf _ _ _ _ = _; rw [upf_same], hi, by show upf _ _ _ _ = _; rw [upf_same], rfl, ?_⟩
      show upf _ _ _ _ + _ ≤ upf _ _ _ _
      rw [upf_same]
      by_cases e2 : i / 2 = to (i / 2) (hd i)
      · rw [← e2] at hlt
        rw [← e2, upf_same]
        omega
      · rw [upf_ne e2]; exact Int.le_refl _
    · rcases h.all v hv with ⟨a, b, c⟩ | ⟨j, a, b, c, d, f⟩
      · exact .inl ⟨by show upf _ _ _ v = _; rw [upf_ne e]; exact a, by show upf _ _ _ v = _; rw [upf_ne e]; exact b, by show upf _ _ _ v = _; rw [upf_ne e]; exact c⟩
      · refine .inr ⟨j, by show upf _ _ _ v = _; rw [upf_ne e]; exact a, b, by show upf _ _ _ v = _; rw [upf_ne e]; exact c, d, ?_⟩
        show upf _ _ _ _ + _ ≤ upf _ _ _ v
        rw [upf_ne e]
        unfold upf
        split
        · rename_i e3; rw [e3] at f ⊢; omega
        · exact f
  · exact h.all v hv
theorem good_stp (ht : ∀ v h, v < n → to v h < n) (h : Good n to w s) : ∀ i, i ≤ 2 * n → Good n to w (stp to w s i)
  | 0, _ => h
  | i + 1, hi => good_relax ht (by omega) (good_stp ht h i (by omega))
theorem good_clr (h : Good n to w s) : Good n to w (clr s) := ⟨h.all⟩
theorem good_rd (ht : ∀ v h, v < n → to v h < n) : ∀ k, Good n to w (rd n to w k)
  | 0 => ⟨fun v _ => .inl ⟨rfl, rfl, rfl⟩⟩
  | k + 1 => good_stp ht (good_clr (good_rd ht k)) _ (Nat.le_refl _)
theorem wit_rd (ht : ∀ v h, v < n → to v h < n) : ∀ k, Wit n to w (rd n to w k)
  | 0 => fun v hv => ⟨v, [], hv, rfl, rfl⟩
  | k + 1 => wit_stp ht (show Wit n to w (clr (rd n to w k)) from wit_rd ht k) _ (Nat.le_refl _)
theorem upper_rd (ht : ∀ v h, v < n → to v h < n) : ∀ k, Upper n to w (rd n to w k) k
  | 0 => fun u hs _ hl => by
    have : hs = [] := List.eq_nil_of_length_eq_zero (by omega)
    subst this
    exact Int.le_refl _
  | k + 1 => upper_next ht (upper_rd ht k)
theorem ch_stp (ht : ∀ v h, v < n → to v h < n) (h0 : s.ch = none) : ∀ i, i ≤ 2 * n → ∀ v, (stp to w s i).ch = some v → v < n ∧ (stp to w s i).low v < s.low v
  | 0, _, v, h => by
    have h : s.ch = some v := h
    rw [h0] at h; cases h
  | i + 1, hi, v, h => by
    have ih := ch_stp ht h0 i (by omega) v
    have hm := stp_low (to := to) (w := w) (s := s) v i
    show _ ∧ (relax to w (stp to w s i) i).low v < _
    have h : (relax to w (stp to w s i) i).ch = some v := h
    unfold relax at h ⊢
    split at h
    · rename_i hlt
      rw [if_pos hlt]
      have e : to (i / 2) (hd i) = v := Option.some.inj h
      refine ⟨by rw [← e]; exact ht _ _ (by omega), ?_⟩
      show upf _ _ _ v < _
      rw [e] at hlt ⊢
      rw [upf_same]
      omega
    · rename_i hlt
      rw [if_neg hlt]
      exact ih h
theorem noch_stp (h0 : s.ch = none) : ∀ i, (stp to w s i).ch = none → (stp to w s i).low = s.low ∧ ∀ j, j < i → s.low (to (j / 2) (hd j)) ≤ s.low (j / 2) + w (j / 2) (hd j)
  | 0, _ => ⟨rfl, fun j hj => absurd hj (Nat.not_lt_zero _)⟩
  | i + 1, h => by
    have h : (relax to w (stp to w s i) i).ch = none := h
    show (relax to w (stp to w s i) i).low = s.low ∧ _
    unfold relax at h ⊢
    split at h
    · cases h
    · rename_i hlt
      rw [if_neg hlt]
      obtain ⟨a, b⟩ := noch_stp h0 i h
      refine ⟨a, fun j hj => ?_⟩
      by_cases e : j = i
      · subst e
        rw [a] at hlt
        omega
      · exact b j (by omega)
/-- no change: a potential -/
theorem pot_of {k : Nat} (h : (rd n to w (k + 1)).ch = none) : ∀ v b, v < n → (rd n to w (k + 1)).low (to v b) ≤ (rd n to w (k + 1)).low v + w v b := by
  intro v b hv
  obtain ⟨e, q⟩ := noch_stp (s := clr (rd n to w k)) rfl (2 * n) h
  obtain ⟨i, h1, h2, h3⟩ := way_ix v b
  have := q i (h3 n hv)
  rw [h1, h2] at this
  show (stp to w (clr (rd n to w k)) (2 * n)).low _ ≤ (stp to w (clr (rd n to w k)) (2 * n)).low v + _
  rw [e]
  exact this
/-- circuits of weight 0 or more: no change behind n rounds -/
theorem settled (ht : ∀ v h, v < n → to v h < n) (hc : ∀ v hs, v < n → Circ to v hs → 0 ≤ sum to w v hs) : (rd n to w (n + 1)).ch = none := by
  cases e : (rd n to w (n + 1)).ch with
  | none => rfl
  | some v =>
    obtain ⟨hv, hlt⟩ := ch_stp (s := clr (rd n to w n)) ht rfl (2 * n) (Nat.le_refl _) v e
    obtain ⟨u, hs, hu, hf, hsum⟩ := wit_rd (w := w) ht (n + 1) v hv
    obtain ⟨hs', hl, hf', hle⟩ := shorten ht hc u hu _ hs (Nat.le_refl _)
    have h1 := upper_rd (w := w) ht n u hs' hu (by omega)
    rw [hf', hf] at h1
    have h2 : (clr (rd n to w n)).low v = (rd n to w n).low v := rfl
    have h3 : (stp to w (clr (rd n to w n)) (2 * n)).low v = (rd n to w (n + 1)).low v := rfl
    omega

/-! ### back pointers -/
theorem bk_lt (g : Good n to w s) {v : Nat} (hv : v < n) : ∀ k, bk s v k < n
  | 0 => hv
  | k + 1 => by
    show s.bef (bk s v k) < n
    rcases g.all _ (bk_lt g hv k) with ⟨_, b, _⟩ | ⟨i, _, b, c, _⟩
    · rw [b]; exact bk_lt g hv k
    · rw [c]; omega
theorem bk_walk (g : Good n to w s) {v : Nat} (hv : v < n) : ∀ k, ∃ hs, hs.length ≤ k ∧ fin to (bk s v k) hs = v ∧ s.low (bk s v k) + sum to w (bk s v k) hs ≤ s.low v
  | 0 => ⟨[], Nat.le_refl _, rfl, by show s.low v + 0 ≤ _; omega⟩
  | k + 1 => by
    obtain ⟨hs, a, b, c⟩ := bk_walk g hv k
    show ∃ hs, hs.length ≤ k + 1 ∧ fin to (s.bef (bk s v k)) hs = v ∧ s.low (s.bef (bk s v k)) + sum to w (s.bef (bk s v k)) hs ≤ s.low v
    rcases g.all _ (bk_lt g hv k) with ⟨_, d, _⟩ | ⟨i, _, _, d, f, q⟩
    · rw [d]
      exact ⟨hs, by omega, b, c⟩
    · rw [d]
      refine ⟨hd i :: hs, by simp; omega, ?_, ?_⟩
      · show fin to (to (i / 2) (hd i)) hs = v
        rw [f]; exact b
      · show _ + (_ + sum to w (to (i / 2) (hd i)) hs) ≤ _
        rw [f]; omega
theorem bk_none {v : Nat} {k : Nat} (g : Good n to w s) (hv : v < n) (h : s.edg (bk s v k) = none) : ∀ m, bk s v (k + m) = bk s v k
  | 0 => rfl
  | m + 1 => by
    show s.bef (bk s v (k + m)) = _
    rw [bk_none g hv h m]
    rcases g.all _ (bk_lt g hv k) with ⟨_, d, _⟩ | ⟨i, d, _⟩
    · exact d
    · rw [h] at d; cases d
theorem bk_add (s : FS) (v : Nat) (a : Nat) : ∀ b, bk s (bk s v a) b = bk s v (a + b)
  | 0 => rfl
  | b + 1 => by
    show s.bef _ = s.bef _
    rw [bk_add s v a b]; rfl
/-- n steps back from a stitch that changed in the last round one is at no beginning -/
theorem bk_real (ht : ∀ v h, v < n → to v h < n) {v : Nat} (h : (rd n to w (n + 1)).ch = some v) : (rd n to w (n + 1)).edg (bk (rd n to w (n + 1)) v n) ≠ none := by
  intro hn
  obtain ⟨hv, hlt⟩ := ch_stp (s := clr (rd n to w n)) ht rfl (2 * n) (Nat.le_refl _) v h
  have g := good_rd (w := w) ht (n + 1)
  obtain ⟨hs, a, b, c⟩ := bk_walk g hv n
  have hu := bk_lt g hv n
  have h0 : (rd n to w (n + 1)).low (bk (rd n to w (n + 1)) v n) = 0 := by
    rcases g.all _ hu with ⟨_, _, d⟩ | ⟨i, d, _⟩
    · exact d
    · rw [hn] at d; cases d
  have h1 := upper_rd (w := w) ht n _ hs hu a
  rw [b] at h1
  have h2 : (clr (rd n to w n)).low v = (rd n to w n).low v := rfl
  have h3 : (stp to w (clr (rd n to w n)) (2 * n)).low v = (rd n to w (n + 1)).low v := rfl
  omega
theorem least {P : Nat → Prop} : ∀ (m : Nat), P m → ∃ p, P p ∧ p ≤ m ∧ ∀ q, q < p → ¬ P q := by
  intro m
  induction m using Nat.strongRecOn with
  | _ m ih =>
    intro h
    by_cases e : ∃ q, q < m ∧ P q
    · obtain ⟨q, hq, hp⟩ := e
      obtain ⟨p, a, b, c⟩ := ih q hq hp
      exact ⟨p, a, by omega, c⟩
    · exact ⟨m, h, Nat.le_refl _, fun q hq hp => e ⟨q, hq, hp⟩⟩
theorem dup (f : Nat → Nat) (n : Nat) (h : ∀ i, i ≤ n → f i < n) : ∃ i j, i < j ∧ j ≤ n ∧ f i = f j := by
  by_cases q : ∃ i j, i < j ∧ j ≤ n ∧ f i = f j
  · exact q
  · exfalso
    have hn : ((List.range (n + 1)).map f).Nodup := by
      rw [List.Nodup, List.pairwise_map]
      refine (List.pairwise_lt_range).imp_of_mem ?_
      intro a b ha hb hab e
      exact q ⟨a, b, hab, by have := List.mem_range.mp hb; omega, e⟩
    have := pigeon n _ hn fun x hx => by
      obtain ⟨i, hi, e⟩ := List.mem_map.mp hx
      rw [← e]
      exact h i (by have := List.mem_range.mp hi; omega)
    rw [List.length_map, List.length_range] at this
    omega
/-- the circuit of back pointers -/
theorem bk_circle (g : Good n to w s) {v : Nat} (hv : v < n) (hr : s.edg (bk s v n) ≠ none) :
    ∃ p, 0 < p ∧ p ≤ n ∧ bk s (bk s v n) p = bk s v n ∧ (∀ q, 0 < q → q < p → bk s (bk s v n) q ≠ bk s v n) ∧ ∀ q, q < p → ∃ i, s.edg (bk s (bk s v n) q) = some i ∧ i < 2 * n := by
  obtain ⟨i, j, hij, hj, e⟩ := dup (bk s v) n (fun k _ => bk_lt g hv k)
  have per : bk s (bk s v n) (j - i) = bk s v n := by
    have e1 : ∀ m, bk s v (i + m) = bk s v (j + m) := fun m => by
      rw [← bk_add s v i m, ← bk_add s v j m, e]
    have e2 := e1 (n - i)
    rw [show i + (n - i) = n by omega] at e2
    rw [bk_add, e2]
    congr 1
    omega
  obtain ⟨p, ⟨p0, p1⟩, p2, p3⟩ := least (P := fun q => 0 < q ∧ bk s (bk s v n) q = bk s v n) (j - i) ⟨by omega, per⟩
  refine ⟨p, p0, by omega, p1, fun q h0 h1 h2 => p3 q h1 ⟨h0, h2⟩, fun q hq => ?_⟩
  have hh := bk_lt g hv n
  cases e3 : s.edg (bk s (bk s v n) q) with
  | none =>
    exfalso
    have := bk_none g hh e3 (p - q)
    rw [show q + (p - q) = p by omega, p1] at this
    rw [← this] at e3
    exact hr e3
  | some k =>
    refine ⟨k, rfl, ?_⟩
    rcases g.all _ (bk_lt g hh q) with ⟨d, _⟩ | ⟨i2, d, f, _⟩
    · rw [e3] at d; cases d
    · rw [e3] at d
      cases d
      exact f
end
end LHM

namespace LHM
/-- min(x, d), x told or not -/
def mn : Option Int → Int → Int
  | none, d => d
  | some x, d => if x < d then x else d
theorem mn_le (o : Option Int) (d : Int) : mn o d ≤ d := by
  cases o with
  | none => exact Int.le_refl _
  | some x => unfold mn; simp only []; split <;> omega
theorem mn_some (x d : Int) : mn (some x) d ≤ x := by
  unfold mn; simp only []; split <;> omega
theorem mn_eq (o : Option Int) (d : Int) : mn o d = d ∨ o = some (mn o d) := by
  cases o with
  | none => exact .inl rfl
  | some x =>
    by_cases h : x < d
    · right; show some x = some (if x < d then x else d); rw [if_pos h]
    · left; show (if x < d then x else d) = d; rw [if_neg h]
abbrev Fd := Nat → Option Int
section
variable (n : Nat) (to : Nat → Bool → Nat) (dn : Nat → Bool → Int)
/-- one way of the beginning -/
def bgn (b : Nat) (f : Fd) (i : Nat) : Fd := if i / 2 = b then upf f (to (i / 2) (hd i)) (some (mn (f (to (i / 2) (hd i))) (dn (i / 2) (hd i)))) else f
def bgns (b : Nat) : Nat → Fd
  | 0 => fun _ => none
  | i + 1 => bgn to dn b (bgns b i) i
/-- one way of a turn -/
def trn (f : Fd) (i : Nat) : Fd := match f (i / 2) with
  | none => f
  | some x => upf f (to (i / 2) (hd i)) (some (mn (f (to (i / 2) (hd i))) (x + dn (i / 2) (hd i))))
def trns (f : Fd) : Nat → Fd
  | 0 => f
  | i + 1 => trn to dn (trns f i) i
def tbl (b : Nat) : Nat → Fd
  | 0 => bgns to dn b (2 * n)
  | k + 1 => trns to dn (tbl b k) (2 * n)
/-- what lead tells -/
def leadF (b l : Nat) : Option Int := tbl n to dn b n l
/-- each value is a walk's -/
def FWit (b : Nat) (f : Fd) : Prop := ∀ v x, f v = some x → ∃ hs, hs ≠ [] ∧ fin to b hs = v ∧ sum to dn b hs = x
def FUp (b : Nat) (f : Fd) (k : Nat) : Prop := ∀ hs, hs ≠ [] → hs.length ≤ k → ∃ x, f (fin to b hs) = some x ∧ x ≤ sum to dn b hs
def FBnd (f : Fd) (c : Int) : Prop := ∀ v x, f v = some x → -c ≤ x ∧ x ≤ c
end
section
variable {n : Nat} {to : Nat → Bool → Nat} {dn : Nat → Bool → Int} {f : Fd} {b : Nat}
/-- a store of the least of what stood and d -/
theorem put_le {v : Nat} {t : Nat} {d : Int} {x : Int} (h : f v = some x) : ∃ y, upf f t (some (mn (f t) d)) v = some y ∧ y ≤ x := by
  by_cases e : v = t
  · subst e
    exact ⟨_, upf_same, by rw [h]; exact mn_some x d⟩
  · exact ⟨x, by rw [upf_ne e]; exact h, Int.le_refl _⟩
theorem bgn_keeps {i v : Nat} {x : Int} (h : f v = some x) : ∃ y, bgn to dn b f i v = some y ∧ y ≤ x := by
  unfold bgn
  split
  · exact put_le h
  · exact ⟨x, h, Int.le_refl _⟩
theorem trn_no {i : Nat} (h : f (i / 2) = none) : trn to dn f i = f := by
  unfold trn; rw [h]
theorem trn_yes {i : Nat} {x : Int} (h : f (i / 2) = some x) : trn to dn f i = upf f (to (i / 2) (hd i)) (some (mn (f (to (i / 2) (hd i))) (x + dn (i / 2) (hd i)))) := by
  unfold trn; rw [h]
theorem trn_keeps {i v : Nat} {x : Int} (h : f v = some x) : ∃ y, trn to dn f i v = some y ∧ y ≤ x := by
  cases e : f (i / 2) with
  | none => rw [trn_no e]; exact ⟨x, h, Int.le_refl _⟩
  | some z => rw [trn_yes e]; exact put_le h
theorem bgns_keeps {i v : Nat} {x : Int} (h : bgns to dn b i v = some x) : ∀ j, ∃ y, bgns to dn b (i + j) v = some y ∧ y ≤ x
  | 0 => ⟨x, h, Int.le_refl _⟩
  | j + 1 => by
    obtain ⟨y, a, c⟩ := bgns_keeps h j
    obtain ⟨z, a2, c2⟩ := bgn_keeps (to := to) (dn := dn) (b := b) (i := i + j) a
    exact ⟨z, a2, Int.le_trans c2 c⟩
theorem trns_keeps {i v : Nat} {x : Int} (h : trns to dn f i v = some x) : ∀ j, ∃ y, trns to dn f (i + j) v = some y ∧ y ≤ x
  | 0 => ⟨x, h, Int.le_refl _⟩
  | j + 1 => by
    obtain ⟨y, a, c⟩ := trns_keeps h j
    obtain ⟨z, a2, c2⟩ := trn_keeps (to := to) (dn := dn) (i := i + j) a
    exact ⟨z, a2, Int.le_trans c2 c⟩
theorem up_bgns (hb : b < n) : FUp to dn b (bgns to dn b (2 * n)) 1 := by
  intro hs hne hl
  obtain ⟨h, rfl⟩ : ∃ h, hs = [h] := by
    cases hs with
    | nil => exact absurd rfl hne
    | cons h r =>
      cases r with
      | nil => exact ⟨h, rfl⟩
      | cons _ _ => simp at hl
  obtain ⟨i, h1, h2, h3⟩ := way_ix b h
  have e : bgns to dn b (i + 1) (to b h) = some (mn (bgns to dn b i (to b h)) (dn b h)) := by
    show bgn to dn b (bgns to dn b i) i _ = _
    unfold bgn
    rw [if_pos h1, h1, h2, upf_same]
  obtain ⟨y, a, c⟩ := bgns_keeps e (2 * n - (i + 1))
  rw [show i + 1 + (2 * n - (i + 1)) = 2 * n by have := h3 n hb; omega] at a
  refine ⟨y, a, ?_⟩
  have := mn_le (bgns to dn b i (to b h)) (dn b h)
  show y ≤ dn b h + 0
  omega
theorem up_trns (ht : ∀ v h, v < n → to v h < n) (hb : b < n) {k : Nat} (h : FUp to dn b f k) (hk : 1 ≤ k) : FUp to dn b (trns to dn f (2 * n)) (k + 1) := by
  intro hs hne hl
  have old : ∀ v x, f v = some x → ∃ y, trns to dn f (2 * n) v = some y ∧ y ≤ x := fun v x q => by
    obtain ⟨y, a, c⟩ := trns_keeps (to := to) (dn := dn) (f := f) (i := 0) q (2 * n)
    rw [Nat.zero_add] at a
    exact ⟨y, a, c⟩
  rcases List.eq_nil_or_concat hs with e | ⟨hs', g, e⟩
  · exact absurd e hne
  · have e' : hs = hs' ++ [g] := by rw [e]; simp
    subst e'
    by_cases hn : hs' = []
    · subst hn
      obtain ⟨x, a, c⟩ := h ([] ++ [g]) hne (by simpa using hk)
      obtain ⟨y, a2, c2⟩ := old _ x a
      exact ⟨y, a2, Int.le_trans c2 c⟩
    · obtain ⟨x, a, c⟩ := h hs' hn (by simp at hl; omega)
      obtain ⟨i, h1, h2, h3⟩ := way_ix (fin to b hs') g
      have hi := h3 n (fin_lt ht hs' b hb)
      obtain ⟨y, a2, c2⟩ := trns_keeps (to := to) (dn := dn) (f := f) (i := 0) a i
      rw [Nat.zero_add] at a2
      have e : trns to dn f (i + 1) (to (fin to b hs') g) = some (mn (trns to dn f i (to (fin to b hs') g)) (y + dn (fin to b hs') g)) := by
        show trn to dn (trns to dn f i) i _ = _
        unfold trn
        rw [h1, h2, a2]
        simp only []
        rw [upf_same]
      obtain ⟨z, a3, c3⟩ := trns_keeps e (2 * n - (i + 1))
      rw [show i + 1 + (2 * n - (i + 1)) = 2 * n by omega] at a3
      rw [fin_app, sum_app]
      refine ⟨z, a3, ?_⟩
      have := mn_le (trns to dn f i (to (fin to b hs') g)) (y + dn (fin to b hs') g)
      show z ≤ _ + (dn (fin to b hs') g + 0)
      omega
theorem up_tbl (ht : ∀ v h, v < n → to v h < n) (hb : b < n) : ∀ k, FUp to dn b (tbl n to dn b k) (k + 1)
  | 0 => up_bgns hb
  | k + 1 => up_trns ht hb (up_tbl ht hb k) (by omega)
theorem wit_bgns : ∀ i, FWit to dn b (bgns to dn b i)
  | 0 => fun v x h => by cases h
  | i + 1 => fun v x h => by
    have h : bgn to dn b (bgns to dn b i) i v = some x := h
    unfold bgn at h
    split at h
    · rename_i hb
      by_cases e : v = to (i / 2) (hd i)
      · subst e
        rw [upf_same] at h
        have h := Option.some.inj h
        rcases mn_eq (bgns to dn b i (to (i / 2) (hd i))) (dn (i / 2) (hd i)) with q | q
        · refine ⟨[hd i], by simp, by rw [hb]; rfl, ?_⟩
          rw [← h, q, hb]
          show _ + 0 = _
          omega
        · rw [h] at q
          exact wit_bgns i _ x q
      · rw [upf_ne e] at h
        exact wit_bgns i v x h
    · exact wit_bgns i v x h
theorem wit_trns (h0 : FWit to dn b f) : ∀ i, FWit to dn b (trns to dn f i)
  | 0 => h0
  | i + 1 => fun v x h => by
    have h : trn to dn (trns to dn f i) i v = some x := h
    cases hy : trns to dn f i (i / 2) with
    | none => rw [trn_no hy] at h; exact wit_trns h0 i v x h
    | some y =>
      rw [trn_yes hy] at h
      by_cases e : v = to (i / 2) (hd i)
      · subst e
        rw [upf_same] at h
        have h := Option.some.inj h
        rcases mn_eq (trns to dn f i (to (i / 2) (hd i))) (y + dn (i / 2) (hd i)) with q | q
        · obtain ⟨hs, a, b2, c⟩ := wit_trns h0 i _ y hy
          refine ⟨hs ++ [hd i], by simp, by rw [fin_app, b2]; rfl, ?_⟩
          rw [sum_app, b2, c, ← h, q]
          show _ + (_ + 0) = _
          omega
        · rw [h] at q
          exact wit_trns h0 i _ x q
      · rw [upf_ne e] at h
        exact wit_trns h0 i v x h
theorem wit_tbl : ∀ k, FWit to dn b (tbl n to dn b k)
  | 0 => wit_bgns _
  | k + 1 => wit_trns (wit_tbl k) _
/-! ### bounds -/
theorem bnd_put {c D : Int} {t : Nat} {d : Int} (h : FBnd f c) (hD : 0 ≤ D) (h0 : 0 ≤ c) (hd : -(c + D) ≤ d ∧ d ≤ c + D) : FBnd (upf f t (some (mn (f t) d))) (c + D) := by
  intro v x e
  by_cases q : v = t
  · subst q
    rw [upf_same] at e
    have e := Option.some.inj e
    rcases mn_eq (f v) d with z | z
    · rw [← e, z]; exact hd
    · have := h v _ z
      rw [e] at this
      omega
  · rw [upf_ne q] at e
    have := h v x e
    omega
theorem bnd_mono {c d : Int} (h : FBnd f c) (hd : c ≤ d) : FBnd f d := fun v x e => by have := h v x e; omega
theorem bnd_bgns {D : Int} (hD : 0 ≤ D) (hd : ∀ v h, v < n → -D ≤ dn v h ∧ dn v h ≤ D) : ∀ i, i ≤ 2 * n → FBnd (bgns to dn b i) (D * (i : Nat))
  | 0, _ => fun v x e => by cases e
  | i + 1, hi => by
    have ih := bnd_bgns hD hd i (by omega)
    have h1 := hd (i / 2) (LHM.hd i) (by omega)
    have h2 : 0 ≤ D * (i : Nat) := Int.mul_nonneg hD (by omega)
    show FBnd (bgn to dn b (bgns to dn b i) i) _
    rw [show D * ((i + 1 : Nat) : Int) = D * (i : Nat) + D by rw [Int.natCast_add, Int.mul_add]; simp]
    unfold bgn
    split
    · exact bnd_put ih hD h2 (by omega)
    · exact bnd_mono ih (by omega)
theorem bnd_trns {c D : Int} (h : FBnd f c) (h0 : 0 ≤ c) (hD : 0 ≤ D) (hd : ∀ v h, v < n → -D ≤ dn v h ∧ dn v h ≤ D) : ∀ i, i ≤ 2 * n → FBnd (trns to dn f i) (c + D * (i : Nat))
  | 0, _ => by
    rw [show c + D * ((0 : Nat) : Int) = c by simp]
    exact h
  | i + 1, hi => by
    have ih := bnd_trns h h0 hD hd i (by omega)
    have h1 := hd (i / 2) (LHM.hd i) (by omega)
    have h2 : 0 ≤ D * (i : Nat) := Int.mul_nonneg hD (by omega)
    show FBnd (trn to dn (trns to dn f i) i) _
    rw [show D * ((i + 1 : Nat) : Int) = D * (i : Nat) + D by rw [Int.natCast_add, Int.mul_add]; simp, ← Int.add_assoc]
    cases hy : trns to dn f i (i / 2) with
    | none => rw [trn_no hy]; exact bnd_mono ih (by omega)
    | some y =>
      rw [trn_yes hy]
      have := ih _ y hy
      exact bnd_put ih hD (by omega) (by omega)
theorem bnd_tbl {D : Int} (hD : 0 ≤ D) (hd : ∀ v h, v < n → -D ≤ dn v h ∧ dn v h ≤ D) : ∀ k, FBnd (tbl n to dn b k) (D * (2 * n : Nat) * (k + 1 : Nat))
  | 0 => by
    rw [show D * ((2 * n : Nat) : Int) * ((0 + 1 : Nat) : Int) = D * ((2 * n : Nat) : Int) by simp]
    exact bnd_bgns (b := b) (to := to) hD hd (2 * n) (Nat.le_refl _)
  | k + 1 => by
    have h2 : 0 ≤ D * (2 * n : Nat) := Int.mul_nonneg hD (by omega)
    have := bnd_trns (to := to) (bnd_tbl hD hd k) (Int.mul_nonneg h2 (by omega)) hD hd (2 * n) (Nat.le_refl _)
    rw [show D * (2 * n : Nat) * ((k + 1 + 1 : Nat) : Int) = D * (2 * n : Nat) * ((k + 1 : Nat) : Int) + D * (2 * n : Nat) by rw [Int.natCast_add (k + 1) 1, Int.mul_add]; simp]
    exact this
/-! ### the row -/
/-- to the next one up: n - 1 behind 0; from itself to itself -/
def rTo (n : Nat) (v : Nat) (h : Bool) : Nat := if h then v else (v + n - 1) % n
def rDn (v : Nat) (h : Bool) : Int := if h then 1 else if v = 0 then 1 else 0
theorem rTo_lt {v : Nat} (h : Bool) (hv : v < n) : rTo n v h < n := by
  unfold rTo
  split
  · exact hv
  · exact Nat.mod_lt _ (by omega)
theorem rTo_0 (hn : 0 < n) : rTo n 0 false = n - 1 := by
  unfold rTo
  rw [if_neg (by simp), Nat.zero_add]
  exact Nat.mod_eq_of_lt (by omega)
theorem rTo_s {v : Nat} (hv : v + 1 < n) : rTo n (v + 1) false = v := by
  unfold rTo
  rw [if_neg (by simp), show v + 1 + n - 1 = v + n by omega, Nat.add_mod_right]
  exact Nat.mod_eq_of_lt (by omega)
/-- n times the down, less one, is no less than how far up it leads -/
theorem row_way (v : Nat) (h : Bool) (hv : v < n) : ((rTo n v h : Nat) : Int) + 1 ≤ (v : Nat) + (n : Int) * rDn v h := by
  cases h with
  | true =>
    show ((v : Nat) : Int) + 1 ≤ (v : Nat) + (n : Int) * 1
    omega
  | false =>
    cases v with
    | zero =>
      rw [rTo_0 hv]
      show ((n - 1 : Nat) : Int) + 1 ≤ (0 : Nat) + (n : Int) * 1
      omega
    | succ v =>
      rw [rTo_s hv]
      show ((v : Nat) : Int) + 1 ≤ (v + 1 : Nat) + (n : Int) * 0
      omega
theorem row_walk : ∀ (hs : List Bool) (v : Nat), v < n → ((fin (rTo n) v hs : Nat) : Int) + hs.length ≤ (v : Nat) + (n : Int) * sum (rTo n) rDn v hs
  | [], v, _ => by show ((v : Nat) : Int) + (0 : Nat) ≤ (v : Nat) + (n : Int) * 0; omega
  | h :: r, v, hv => by
    have h1 := row_walk r (rTo n v h) (rTo_lt h hv)
    have h2 := row_way v h hv
    show ((fin (rTo n) (rTo n v h) r : Nat) : Int) + ((r.length + 1 : Nat) : Int) ≤ (v : Nat) + (n : Int) * (rDn v h + sum (rTo n) rDn (rTo n v h) r)
    rw [Int.mul_add]
    omega
/-- k steps down -/
theorem row_down : ∀ (k v : Nat), k ≤ v → v < n → fin (rTo n) v (List.replicate k false) = v - k ∧ sum (rTo n) rDn v (List.replicate k false) = 0
  | 0, v, _, _ => ⟨rfl, rfl⟩
  | k + 1, 0, h, _ => by omega
  | k + 1, v + 1, h, hv => by
    obtain ⟨a, c⟩ := row_down k v (by omega) (by omega)
    rw [List.replicate_succ]
    refine ⟨?_, ?_⟩
    · show fin (rTo n) (rTo n (v + 1) false) _ = _
      rw [rTo_s hv, a]; omega
    · show rDn (v + 1) false + sum (rTo n) rDn (rTo n (v + 1) false) _ = 0
      rw [rTo_s hv, c]
      show (0 : Int) + 0 = 0
      rfl
theorem row_lead {b l : Nat} (hb : b < n) (hl : l < n) : leadF n (rTo n) rDn b l = some (if b > l then 0 else 1) := by
  have up := up_tbl (n := n) (dn := rDn) (b := b) (fun v h hv => rTo_lt h hv) hb n
  have low : ∀ x, leadF n (rTo n) rDn b l = some x → (if b > l then (0 : Int) else 1) ≤ x := fun x e => by
    obtain ⟨hs, h1, h2, h3⟩ := wit_tbl n _ _ e
    have h4 := row_walk hs b hb
    have h5 : 0 < hs.length := List.length_pos_iff.mpr h1
    rw [h2, h3] at h4
    split
    · rcases Int.lt_or_le x 0 with q | q
      · have : (n : Int) * x ≤ (n : Int) * (-1) := Int.mul_le_mul_of_nonneg_left (by omega) (by omega)
        omega
      · exact q
    · rcases Int.lt_or_le x 1 with q | q
      · have : (n : Int) * x ≤ (n : Int) * 0 := Int.mul_le_mul_of_nonneg_left (by omega) (by omega)
        omega
      · exact q
  by_cases h : b > l
  · rw [if_pos h] at low ⊢
    obtain ⟨a, c⟩ := row_down (n := n) (b - l) b (by omega) hb
    obtain ⟨x, q1, q2⟩ := up (List.replicate (b - l) false) (by intro z; have := congrArg List.length z; simp at this; omega) (by simp; omega)
    rw [a, show b - (b - l) = l by omega] at q1
    rw [c] at q2
    have := low x q1
    have e : x = 0 := by omega
    rw [e] at q1
    exact q1
  · rw [if_neg h] at low ⊢
    -- down to 0, to n - 1, down to l
    obtain ⟨a, c⟩ := row_down (n := n) b b (Nat.le_refl _) hb
    obtain ⟨a2, c2⟩ := row_down (n := n) (n - 1 - l) (n - 1) (by omega) (by omega)
    rw [Nat.sub_self] at a
    have e1 : fin (rTo n) b (List.replicate b false ++ (false :: List.replicate (n - 1 - l) false)) = l := by
      rw [fin_app, a]
      show fin (rTo n) (rTo n 0 false) _ = l
      rw [rTo_0 (by omega), a2]; omega
    have e2 : sum (rTo n) rDn b (List.replicate b false ++ (false :: List.replicate (n - 1 - l) false)) = 1 := by
      rw [sum_app, a, c]
      show 0 + (rDn 0 false + sum (rTo n) rDn (rTo n 0 false) _) = 1
      rw [rTo_0 (by omega), c2]
      rfl
    obtain ⟨x, q1, q2⟩ := up (List.replicate b false ++ (false :: List.replicate (n - 1 - l) false)) (by simp) (by simp; omega)
    rw [e1] at q1
    rw [e2] at q2
    have := low x q1
    have e : x = 1 := by omega
    rw [e] at q1
    exact q1
end
end LHM

namespace LHM
section
variable (n : Nat) (to : Nat → Bool → Nat) (dn : Nat → Bool → Int)
/-- one walk's further ones -/
def expd (b : Nat) (hs : List Bool) : List (List Bool) := if fin to b hs = b then [] else if b < fin to b hs ∧ ¬ fin to b hs ∈ verts to b hs then [hs ++ [false], hs ++ [true]] else []
def layer (b : Nat) : Nat → List (List Bool)
  | 0 => [[false], [true]]
  | k + 1 => (layer b k).flatMap (expd to b)
/-- each circuit goes down -/
def Works : Prop := ∀ v hs, v < n → Circ to v hs → 1 ≤ sum to dn v hs
def wt (v : Nat) (h : Bool) : Int := (n : Int) * dn v h - 1
end
section
variable {n : Nat} {to : Nat → Bool → Nat} {dn : Nat → Bool → Int}
theorem layer_ok (b : Nat) : ∀ k hs, hs ∈ layer to b k → hs.length = k + 1 ∧ (verts to b hs).Nodup ∧ ∀ x ∈ verts to b hs, b ≤ x
  | 0, hs, h => by
    have e : hs = [false] ∨ hs = [true] := by simpa [layer] using h
    rcases e with e | e <;> subst e <;> exact ⟨rfl, by simp [verts], by simp [verts]⟩
  | k + 1, hs, h => by
    obtain ⟨p, hp, hx⟩ := List.mem_flatMap.mp h
    obtain ⟨h1, h2, h3⟩ := layer_ok b k p hp
    unfold expd at hx
    split at hx
    · simp at hx
    · split at hx
      · rename_i hne hgt
        obtain ⟨g, e⟩ : ∃ g, hs = p ++ [g] := by
          have e : hs = p ++ [false] ∨ hs = p ++ [true] := by simpa using hx
          rcases e with e | e
          · exact ⟨_, e⟩
          · exact ⟨_, e⟩
        subst e
        refine ⟨by simp [h1], ?_, ?_⟩
        · rw [verts_app]
          refine List.nodup_append.mpr ⟨h2, by simp [verts], fun a ha c hc e => ?_⟩
          have : c = fin to b p := by simpa [verts] using hc
          rw [e, this] at ha
          exact hgt.2 ha
        · intro x hx
          rw [verts_app] at hx
          rcases List.mem_append.mp hx with q | q
          · exact h3 x q
          · have : x = fin to b p := by simpa [verts] using q
            have := hgt.1
            omega
      · simp at hx
theorem layer_end (ht : ∀ v h, v < n → to v h < n) {b : Nat} (hb : b < n) : layer to b n = [] := by
  cases e : layer to b n with
  | nil => rfl
  | cons hs r =>
    obtain ⟨h1, h2, _⟩ := layer_ok b n hs (by rw [e]; simp)
    have := pigeon n _ h2 (verts_lt ht hs b hb)
    rw [verts_len] at this
    omega
theorem head_mem {b : Nat} {p : List Bool} (h : p ≠ []) : b ∈ verts to b p := by
  cases p with
  | nil => exact absurd rfl h
  | cons a r => exact List.mem_cons.mpr (.inl rfl)
theorem layer_all (b : Nat) : ∀ (k : Nat) (hs : List Bool), hs.length = k + 1 → (verts to b hs).Nodup → (∀ x ∈ verts to b hs, b ≤ x) → hs ∈ layer to b k
  | 0, hs, hl, _, _ => by
    cases hs with
    | nil => simp at hl
    | cons g r =>
      have : r = [] := List.eq_nil_of_length_eq_zero (by simpa using hl)
      subst this
      cases g <;> simp [layer]
  | k + 1, hs, hl, hn, hm => by
    rcases List.eq_nil_or_concat hs with e | ⟨p, g, e⟩
    · subst e; simp at hl
    · have e' : hs = p ++ [g] := by rw [e]; simp
      subst e'
      have hl' : p.length = k + 1 := by simpa using hl
      have hp : p ≠ [] := fun z => by subst z; simp at hl'
      rw [verts_app] at hn hm
      obtain ⟨n1, n2, n3⟩ := List.nodup_append.mp hn
      have hfm : fin to b p ∈ verts to (fin to b p) [g] := by simp [verts]
      have hni : ¬ fin to b p ∈ verts to b p := fun z => n3 _ z _ hfm rfl
      have hne : fin to b p ≠ b := fun z => hni (by rw [z]; exact head_mem hp)
      have hge := hm (fin to b p) (List.mem_append_right _ hfm)
      refine List.mem_flatMap.mpr ⟨p, layer_all b k p hl' n1 fun x hx => hm x (List.mem_append_left _ hx), ?_⟩
      unfold expd
      rw [if_neg hne, if_pos ⟨by omega, hni⟩]
      cases g <;> simp
theorem min_mem : ∀ (l : List Nat), l ≠ [] → ∃ m, m ∈ l ∧ ∀ x ∈ l, m ≤ x
  | [], h => absurd rfl h
  | [a], _ => ⟨a, by simp, fun x hx => by simp at hx; omega⟩
  | a :: b :: r, _ => by
    obtain ⟨m, h1, h2⟩ := min_mem (b :: r) (by simp)
    by_cases q : a ≤ m
    · refine ⟨a, by simp, fun x hx => ?_⟩
      rcases List.mem_cons.mp hx with e | e
      · omega
      · have := h2 x e; omega
    · refine ⟨m, List.mem_cons_of_mem _ h1, fun x hx => ?_⟩
      rcases List.mem_cons.mp hx with e | e
      · omega
      · exact h2 x e
theorem works_of (hl : ∀ b, b < n → ∀ k hs, hs ∈ layer to b k → fin to b hs = b → 1 ≤ sum to dn b hs) (ht : ∀ v h, v < n → to v h < n) : Works n to dn := by
  intro v hs hv ⟨hne, hf, hn⟩
  obtain ⟨m, hm, hmin⟩ := min_mem (verts to v hs) (fun z => hne (by
    have := congrArg List.length z
    rw [verts_len] at this
    exact List.eq_nil_of_length_eq_zero this))
  obtain ⟨a, c, e, hfa, hc, _⟩ := split_at hs v m hm
  subst e
  have hfc : fin to m c = v := by rw [fin_app, hfa] at hf; exact hf
  have hmn : m < n := by rw [← hfa]; exact fin_lt ht a v hv
  have hp : (verts to m (c ++ a)).Perm (verts to v (a ++ c)) := by
    rw [verts_app, verts_app, hfa, hfc]
    exact List.perm_append_comm
  have h1 := layer_all (to := to) m ((c ++ a).length - 1) (c ++ a) (by
    have : 0 < c.length := List.length_pos_iff.mpr hc
    simp only [List.length_append]
    omega) (hp.nodup_iff.mpr hn) (fun x hx => hmin x (hp.mem_iff.mp hx))
  have h2 := hl m hmn _ _ h1 (by rw [fin_app, hfc, hfa])
  rw [sum_app, hfc] at h2
  rw [sum_app, hfa]
  omega
theorem of_works (h : Works n to dn) {b : Nat} (hb : b < n) {k : Nat} {hs : List Bool} (hm : hs ∈ layer to b k) (hf : fin to b hs = b) : 1 ≤ sum to dn b hs := by
  obtain ⟨h1, h2, _⟩ := layer_ok b k hs hm
  exact h b hs hb ⟨fun z => by subst z; simp at h1, hf, h2⟩
theorem sum_wt : ∀ (hs : List Bool) (v : Nat), sum to (wt n dn) v hs = (n : Int) * sum to dn v hs - (hs.length : Nat)
  | [], v => by show (0 : Int) = (n : Int) * 0 - (0 : Nat); omega
  | h :: r, v => by
    show ((n : Int) * dn v h - 1) + sum to (wt n dn) (to v h) r = (n : Int) * (dn v h + sum to dn (to v h) r) - ((r.length + 1 : Nat) : Int)
    rw [sum_wt r, Int.mul_add]
    omega
theorem works_wt (ht : ∀ v h, v < n → to v h < n) : Works n to dn ↔ ∀ v hs, v < n → Circ to v hs → 0 ≤ sum to (wt n dn) v hs := by
  refine ⟨fun h v hs hv hc => ?_, fun h v hs hv hc => ?_⟩
  · have h1 := h v hs hv hc
    have h2 := pigeon n _ hc.2.2 (verts_lt ht hs v hv)
    rw [verts_len] at h2
    have h3 : (n : Int) * 1 ≤ (n : Int) * sum to dn v hs := Int.mul_le_mul_of_nonneg_left h1 (by omega)
    rw [sum_wt]
    omega
  · have h1 := h v hs hv hc
    rw [sum_wt] at h1
    have h2 : 0 < hs.length := List.length_pos_iff.mpr hc.1
    rcases Int.lt_or_le (sum to dn v hs) 1 with q | q
    · have : (n : Int) * sum to dn v hs ≤ (n : Int) * 0 := Int.mul_le_mul_of_nonneg_left (by omega) (by omega)
      omega
    · exact q
/-- falls comes to an end: it can be worked -/
theorem works_falls (ht : ∀ v h, v < n → to v h < n) {k : Nat} (h : (rd n to (wt n dn) (k + 1)).ch = none) : Works n to dn :=
  (works_wt ht).mpr fun v hs hv hc => circ_pot ht (pot_of h) v hs hv hc
theorem not_works (ht : ∀ v h, v < n → to v h < n) (h : (rd n to (wt n dn) (n + 1)).ch ≠ none) : ¬ Works n to dn := fun q =>
  h (settled ht ((works_wt ht).mp q))
theorem works_pot (ht : ∀ v h, v < n → to v h < n) {φ : Nat → Int} (hp : ∀ v h, v < n → φ (to v h) + 1 ≤ φ v + (n : Int) * dn v h) : Works n to dn :=
  (works_wt ht).mpr fun v hs hv hc => circ_pot (φ := φ) ht (fun v h hv => by
    have := hp v h hv
    unfold wt
    omega) v hs hv hc
theorem works_row (n : Nat) : Works n (rTo n) rDn := works_pot (φ := fun v => (v : Nat)) (fun v h hv => rTo_lt h hv) fun v h hv => row_way v h hv
/-- straight ones moved -/
theorem works_moved (ht : ∀ v h, v < n → to v h < n) {d : Nat → Bool → Int} {mv : Nat → Int} (hs : ∀ v h, v < n → (v < to v h ∧ 0 ≤ d v h) ∨ 1 ≤ d v h) (hd : ∀ v h, v < n → dn v h = d v h + mv (to v h) - mv v) : Works n to dn :=
  works_pot (φ := fun v => (n : Int) * mv v - (v : Nat)) ht fun v h hv => by
    rw [hd v h hv]
    have e : (n : Int) * (d v h + mv (to v h) - mv v) = (n : Int) * d v h + (n : Int) * mv (to v h) - (n : Int) * mv v := by
      rw [Int.mul_sub, Int.mul_add]
    rw [e]
    have h1 := ht v h hv
    rcases hs v h hv with ⟨a, b⟩ | b
    · have : 0 ≤ (n : Int) * d v h := Int.mul_nonneg (by omega) b
      omega
    · have : (n : Int) * 1 ≤ (n : Int) * d v h := Int.mul_le_mul_of_nonneg_left b (by omega)
      omega
end
end LHM

namespace LHM
section
variable (n : Nat) (to : Nat → Bool → Nat) (dn : Nat → Bool → Int)
def hit (b : Nat) (hs : List Bool) : List Int := if fin to b hs = b then [sum to dn b hs] else []
def hits (b : Nat) (L : List (List Bool)) : List Int := L.flatMap (hit to dn b)
def scan (b K : Nat) : List Int := (List.range K).flatMap fun k => hits to dn b (layer to b k)
def downs (B : Nat) : List Int := (List.range B).flatMap fun b => scan to dn b n
def expds (b : Nat) (L : List (List Bool)) : List (List Bool) := L.flatMap (expd to b)
end
section
variable {n : Nat} {to : Nat → Bool → Nat} {dn : Nat → Bool → Int}
theorem scan_succ (b K : Nat) : scan to dn b (K + 1) = scan to dn b K ++ hits to dn b (layer to b K) := by
  unfold scan
  rw [List.range_succ, List.flatMap_append]
  simp
theorem downs_succ (B : Nat) : downs n to dn (B + 1) = downs n to dn B ++ scan to dn B n := by
  unfold downs
  rw [List.range_succ, List.flatMap_append]
  simp
theorem take_succ_get {α : Type} {L : List α} {i : Nat} {x : α} (h : L[i]? = some x) : L.take (i + 1) = L.take i ++ [x] := by
  obtain ⟨h1, h2⟩ := List.getElem?_eq_some_iff.mp h
  rw [List.take_succ_eq_append_getElem h1, h2]
theorem hits_take {b i : Nat} {L : List (List Bool)} {hs : List Bool} (h : L[i]? = some hs) : hits to dn b (L.take (i + 1)) = hits to dn b (L.take i) ++ hit to dn b hs := by
  unfold hits
  rw [take_succ_get h, List.flatMap_append]
  simp
theorem expds_take {b i : Nat} {L : List (List Bool)} {hs : List Bool} (h : L[i]? = some hs) : expds to b (L.take (i + 1)) = expds to b (L.take i) ++ expd to b hs := by
  unfold expds
  rw [take_succ_get h, List.flatMap_append]
  simp
theorem layer_nil {b k : Nat} (h : layer to b k = []) : ∀ j, layer to b (k + j) = []
  | 0 => h
  | j + 1 => by
    show (layer to b (k + j)).flatMap (expd to b) = []
    rw [layer_nil h j]
    rfl
theorem layer_lt (ht : ∀ v h, v < n → to v h < n) {b k : Nat} (hb : b < n) (h : layer to b k ≠ []) : k < n := by
  refine Nat.lt_of_not_le fun z => h ?_
  have := layer_nil (layer_end ht hb) (k - n)
  rwa [show n + (k - n) = k by omega] at this
theorem scan_end {b k : Nat} (h : layer to b k = []) : ∀ j, scan to dn b (k + j) = scan to dn b k
  | 0 => rfl
  | j + 1 => by
    rw [show k + (j + 1) = k + j + 1 by omega, scan_succ, layer_nil h j, scan_end h j]
    simp [hits]
theorem hit_len (b : Nat) (hs : List Bool) : (hit to dn b hs).length ≤ 1 := by
  unfold hit
  split <;> simp
theorem hits_len (b : Nat) : ∀ L : List (List Bool), (hits to dn b L).length ≤ L.length
  | [] => by simp [hits]
  | x :: L => by
    have := hits_len b L
    have h2 := hit_len (to := to) (dn := dn) b x
    show ((x :: L).flatMap (hit to dn b)).length ≤ _
    rw [List.flatMap_cons, List.length_append, List.length_cons]
    unfold hits at this
    omega
theorem expd_len (b : Nat) (hs : List Bool) : (expd to b hs).length ≤ 2 := by
  unfold expd
  split
  · simp
  · split <;> simp
theorem expds_len (b : Nat) : ∀ L : List (List Bool), (expds to b L).length ≤ 2 * L.length
  | [] => by simp [expds]
  | x :: L => by
    have := expds_len b L
    have h2 := expd_len (to := to) b x
    show ((x :: L).flatMap (expd to b)).length ≤ _
    rw [List.flatMap_cons, List.length_append, List.length_cons]
    unfold expds at this
    omega
theorem layer_len (b : Nat) : ∀ k, (layer to b k).length ≤ 2 ^ (k + 1)
  | 0 => by simp [layer]
  | k + 1 => by
    have h1 := layer_len b k
    have h2 := expds_len (to := to) b (layer to b k)
    show (expds to b (layer to b k)).length ≤ _
    rw [Nat.pow_succ]
    omega
theorem layer_len4 {b k : Nat} (h : k < 4) : (layer to b k).length ≤ 16 :=
  Nat.le_trans (layer_len b k) (Nat.le_trans (Nat.pow_le_pow_right (by omega) (show k + 1 ≤ 4 by omega)) (by decide))
theorem scan_len {b : Nat} : ∀ k, k ≤ 4 → (scan to dn b k).length ≤ 16 * k
  | 0, _ => by simp [scan]
  | k + 1, h => by
    have h1 := scan_len (b := b) k (by omega)
    have h2 := hits_len (to := to) (dn := dn) b (layer to b k)
    have h3 := layer_len4 (to := to) (b := b) (k := k) (by omega)
    rw [scan_succ, List.length_append]
    omega
theorem downs_len (hn : n ≤ 4) : ∀ B, (downs n to dn B).length ≤ 64 * B
  | 0 => by simp [downs]
  | B + 1 => by
    have h1 := downs_len hn B
    have h2 := scan_len (to := to) (dn := dn) (b := B) n hn
    rw [downs_succ, List.length_append]
    omega
theorem mem_downs (ht : ∀ v h, v < n → to v h < n) : (∀ d ∈ downs n to dn n, 1 ≤ d) ↔ Works n to dn := by
  constructor
  · intro h
    refine works_of (fun b hb k hs hm hf => ?_) ht
    have hk : k < n := layer_lt ht hb (fun z => by rw [z] at hm; cases hm)
    refine h _ (List.mem_flatMap.mpr ⟨b, List.mem_range.mpr hb, List.mem_flatMap.mpr ⟨k, List.mem_range.mpr hk, List.mem_flatMap.mpr ⟨hs, hm, ?_⟩⟩⟩)
    unfold hit
    rw [if_pos hf]
    exact List.mem_singleton.mpr rfl
  · intro h d hd
    obtain ⟨b, hb, hd⟩ := List.mem_flatMap.mp hd
    obtain ⟨k, hk, hd⟩ := List.mem_flatMap.mp hd
    obtain ⟨hs, hm, hd⟩ := List.mem_flatMap.mp hd
    unfold hit at hd
    split at hd
    · rename_i hf
      rw [List.mem_singleton.mp hd]
      exact of_works h (List.mem_range.mp hb) hm hf
    · cases hd
end
end LHM

namespace PySem
namespace OopX
open PySem.W PySem.Calls PyProof.Rows PySem.HandSPX
/-- what the written part says of OutOfPlace, at C, of its __init__ at fI, the cell of __class__ at cc, the code at cda -/
structure OopTxt (P : Program) (K : Frag) (mg : Str → Option Value) (C fI cc cda : Addr) (pr : Arguments) (bd : List Stmt) (sc : Scope) : Prop where
  gC : mg "OutOfPlace" = some (.ref C)
  cls : ∃ nm q N bs sn sub ab col dd k0 k1 k2 k3 k5, K.lookup C = some (excClassObj nm q C N bs veTail true sn sub ab col dd k0 k1 k2 k3 k5 "ValueError.__new__")
  iC : findIn K (.ref C) "__init__" = some (some (.ref fI))
  tC : typeIn K (.ref fI) = some (.type "function")
  kC : keepIn K (.ref C) = true
  exC : subIn K (.ref C) (.type "BaseException") = some true
  veC : subIn K (.ref C) (.type "ValueError") = some true
  tyC : typeIn K (.ref C) = some (.type "type")
  te : exmOne K (.ref C) (.ref C) = some true
  al : alongIn K "__init__" veTail = some (some (.builtin "ValueError.__init__"))
  fn : ∃ (oc : Value) (od : Option Addr) (kV doc pm : Value) (an : Option Addr) (ct : Value) (osl : Array (Option Value)),
    K.lookup fI = some ⟨oc, od, .func (fnX "__init__" "OutOfPlace.__init__" pr bd sc [("__class__", cc)] .none kV doc pm an (.ref cda) ct), osl⟩
  cod : codeIn K (.ref cda) "OutOfPlace.__init__" = true
  cell : ∃ cl cld csl, K.lookup cc = some ⟨cl, cld, .cell (some (.ref C)), csl⟩
  code : ∃ ccl cdd vs ccs file tf, K.lookup cda = some ⟨ccl, cdd, .fields vs, ccs⟩ ∧ vs[2]? = some (.str file tf) ∧ ((P.main.file : Str) == file) = true
  sup : mg "super" = none
  any : nsIn K cStatics "thirdparty.any" = some none
  top : (P.main.scope.names.lookup ("super" : Str)).isSome = false
theorem one_size (v : Value) : [v].length ≤ sizeLine := by
  rw [sizeLine_eq]
  exact (by decide : 1 ≤ 16777216)
section
variable {M : Model} {A : Around} {E : Value → Shared → Prop} {h : Heap} {g : Array GenState} {d : Drawn} {t : Nat} {os : OsState}
variable {prog : Program} {w : World}
theorem call_bwV {nm q : Str} {C N : Addr} {bs bm : List Value} {hdct : Bool} {sn : List Str} {sub : List Value} {ab : Bool} {col : Option Bool} {dd : Option Addr} {k0 k1 k2 k3 k5 : Option Value} {u e t0 : Addr} {rest : List Value} {Q : Value → Shared → Prop}
    (hC : h.get? C = some (excClassObj nm q C N bs bm hdct sn sub ab col dd k0 k1 k2 k3 k5 "ValueError.__new__")) (he : h.get? e = some (HandSPX.excO C t0)) (hu : h.get? u = some (kxs_mw "ValueError.__init__" e)) (hrest : rest.length ≤ sizeLine)
    (hq : ∀ h' t1, (∀ b o, b ≠ e → h.get? b = some o → h'.get? b = some o) → h'.get? e = some (HandSPX.excO C t1) → Q .none ⟨h', g, d, t, os⟩) :
    wpAny (model prog w) A (call (.ref u) rest) Q E ⟨h, g, d, t, os⟩ := by
  refine wpAny_call (codeAny_of_tree ?_)
  show wpAny _ A.in1 (callAny (.ref u) ⟨rest, []⟩) _ _ _
  simp only [callAny]
  refine wpAny_bind (wpAny_load hu ?_)
  simp only [kxs_mw, show (Value.type "method-wrapper" == Value.type "method" || Value.type "method-wrapper" == Value.type "builtin_function_or_method" || Value.type "method-wrapper" == Value.type "method-wrapper") = true by decide, if_true]
  refine W.KFB.if_so (by decide) ?_
  refine wpAny_bind (ESX.check_bound F.excBase_ValueError hC he rfl ?_)
  refine wpAny_bind (wpAny_pure (wpAny_pure ?_))
  refine ⟨Code.quiet_builtin _ (by decide +kernel), codeAny_builtin F.excBase_ValueError.initEntry ?_⟩
  rw [Around.under_plainId F.excBase_ValueError.init.plain _]
  wp_walk
  refine hq _ h.objs.size (fun b o hb ho => ?_) ?_
  · rw [Heap.get?_update_other _ _ (Ne.symm hb)]
    exact Heap.get?_push_of_some _ ho
  · rw [Heap.get?_update_self _ (Heap.get?_push_of_some _ he) rfl]
    rfl
end
def sOI : Stmt := L2.inClass (PySem.Challenge.pw_lacehouse_k12_whole_leads.main.body.getD 2 (.Pass ⟨0, 0, 0, 0⟩)) 0
section
variable {M : Model} {A : Around} {E : Value → Shared → Prop} {s : Shared}
theorem callWith_mw1 {i : String} {u x : Addr} {pos : Pos} {env : Env} {e : Expr} {rest : List Expr} {Q : Value → Shared → Prop}
    (h : wpAny M A (spliced (backTo pos (starEach (e :: rest) env))) (fun vs s₁ => KxsAt i u x s₁.heap ∧ wpAny M A (call (.ref u) vs) Q E s₁) E s)
    (he : starEach (e :: rest) env = (false, eval e env) :: starEach rest env := by rfl) (hplain : (backTo pos (starEach rest env)).any (·.1) = false := by rfl) :
    wpAny M A (callWith pos (.ref u) [] (backTo pos (starEach (e :: rest) env)) []) Q E s := by
  rw [he] at h ⊢
  refine kxs_callWith (i := i) (x := x) (by show (false || (backTo pos (starEach rest env)).any (·.1)) = false; rw [hplain]; rfl) ?_
  exact evalArgs_plain h
end
section
variable {prog : Program} {w : World} {A : Around} {E : Value → Shared → Prop} {R : Result → Shared → Prop} {s : Shared} {K : Frag} {mg mb : Str → Option Value} {C fI cc cda : Addr}
theorem oop_init (T : OopTxt prog K mg C fI cc cda (L2.defArgs sOI) (L2.defBody sOI) (L2.defScope sOI)) {x t0 : Addr} {v : Value} (X : K.In s.heap) (hg : s.heap.Ns mainGlobals mg) (hb : s.heap.Ns builtinsNs mb) (hsup : mb "super" = some (.type "super")) (hlim : s.heap.NoLimit) (hx : s.heap.get? x = some (excO C t0)) (hroom : A.depth < recursionLimit)
    (hq : ∀ h' tk t1, (∀ b o, b ≠ x → s.heap.get? b = some o → h'.get? b = some o) → h'.get? x = some (excO C t1) → R (.ok (.ret .none)) { s with heap := h', toks := tk }) :
    codeAny (model prog w) A (.call (.ref fI) ⟨[.ref x, v], []⟩) R s := by
  obtain ⟨oc, od, kV, doc, pm, an, ct, osl, ho⟩ := T.fn
  obtain ⟨nm, q, N, bs, sn, sub, ab, col, dd, k0, k1, k2, k3, k5, hC⟩ := T.cls
  obtain ⟨cl, cld, csl, hcell⟩ := T.cell
  obtain ⟨ccl, cdd, vs, ccs, file, tf, hcode, hvs, hfile⟩ := T.code
  refine ks_codeAny_call_defAt (fd := fnX "__init__" "OutOfPlace.__init__" (L2.defArgs sOI) (L2.defBody sOI) (L2.defScope sOI) [("__class__", cc)] .none kV doc pm an (.ref cda) ct) (body := L2.defBody sOI) (binds := [("self", .ref x), ("text", v)]) hroom (X _ _ ho) rfl hlim (codeRec_of X T.cod) rfl (BindsTo.of_eq (by first | rfl | with_unfolding_all rfl)) (fun y hy => ?_) (fun y hy => ?_) (fun h₀ hns k => ?_)
  · have hc : ((L2.defScope sOI).names.all fun z => !(z.2 == NameKind.cell)) = true := by decide +kernel
    have := List.all_eq_true.mp hc y hy
    intro z
    rw [z] at this
    exact absurd this (by decide)
  · rcases List.mem_cons.mp hy with e | e
    · subst e; rfl
    · rcases List.mem_cons.mp e with e | e
      · subst e; rfl
      · cases e
  · have X₁ : K.In h₀ := X.keeps k
    have hx₁ := k _ _ hx
    have hC₁ := X₁ _ _ hC
    have hcd : clsIn K C = some { name := nm, bases := bs, mro := .ref C :: veTail, ns := N, qualname := q, hasDict := true, slotNames := sn, subclasses := sub, abstract := ab, collection := col, hasDel := false } := by unfold clsIn; rw [hC] <;> rfl
    have hsub : Looks (model prog w) h₀ (isSubtype (.ref C) (.ref C)) true := looks_mroIn X₁ (by
      unfold mroIn
      rw [hcd, Option.bind_some, if_neg (show ¬ (List.isEmpty (Value.ref C :: veTail) = true) from Bool.false_ne_true)]
      show some ((Value.ref C :: veTail).contains (.ref C)) = some true
      rw [List.contains_cons, beq_self_eq_true, Bool.true_or])
    have hmro : Looks (model prog w) h₀ (mroOf (.ref C)) (.ref C :: veTail) := fun A Q E s k q => wpAny_bind ((looks_clsIn X₁ hcd) A _ E s k (wpAny_pure q))
    have hxC : x ≠ C := fun z => by
      rw [z, hC₁] at hx₁
      cases hx₁
    refine ks_wpAt_execs_cons (ks_wpAt_Expr_any (ks_wpAt_MethodCall ?_))
    refine ks_wpAt_super_base rfl rfl (by decide) rfl (X₁ _ _ ho) rfl rfl rfl (X₁ _ _ hcode) rfl hvs hfile T.top ?_
    refine ks_loadName_global rfl rfl (loadGlobal_builtin (hg.keeps k) T.sup (hb.keeps k) hsup ⟨rfl, ?_⟩)
    obtain ⟨cl, cld, csl, hcell⟩ := T.cell
    refine wpAny_loadName_free rfl rfl rfl ⟨_, X₁ _ _ hcell, rfl⟩ ?_
    refine wpAny_loadName_local rfl rfl hns rfl ?_
    refine ks_wpAny_isType_cls hC₁ rfl ⟨rfl, ?_⟩
    refine ks_wpAny_call_super hC₁ rfl hx₁ rfl (fun c e => by cases e) hsub (fun h₂ hso k₂ => ?_)
    have X₂ := X₁.keeps k₂
    have hx₂ := k₂ _ _ hx₁
    have I₂ : InstAt h₂ x (excO C t0) C none := ⟨hx₂, rfl, rfl, trivial⟩
    have hI : Looks (model prog w) h₂ (isInstance (.ref x) (.type "ValueError")) true := I₂.type.andThen (looks_subIn X₂ T.veC)
    refine kxs_getMethod kxs_ValueError hso (looks_opaque X₂ T.any) (l₀ := .ref C :: veTail) (hmro.keeps k₂) (l := veTail) (by simp [List.dropWhile_cons]) X₂ T.al hI hxC (by decide) ?_
    have hu : (h₂.push (kxs_mw "ValueError.__init__" x)).get? h₂.objs.size = some (kxs_mw "ValueError.__init__" x) := Heap.get?_push_at rfl rfl
    have k₃ : ∀ b o, h₀.get? b = some o → (h₂.push (kxs_mw "ValueError.__init__" x)).get? b = some o := fun b o e => Heap.get?_push_of_some _ (k₂ b o e)
    refine callWith_mw1 (e := Expr.Name "text" _) (rest := []) (i := "ValueError.__init__") (x := x) ?_
    show wpAny _ _ (spliced ((false, eval (Expr.Name "text" _) _) :: backTo _ (starEach [] _))) _ _ _
    refine Calls.spliced_cons (wpAny_Name (wpAny_loadName_local rfl rfl (hns.keeps k₃) rfl ?_) (by decide))
    refine Calls.spliced_nil ⟨hu, ?_⟩
    have hC₃ := k₃ _ _ hC₁
    have hx₃ := k₃ _ _ hx₁
    refine call_bwV hC₃ hx₃ hu (one_size v) fun h' t1 k' hx' => ?_
    show wpAt _ _ _ (execs [] _) _ _ _
    refine wpAt_of_wpAny (wpAny_execs_nil ?_)
    exact hq h' _ t1 (fun b o hb e => k' b o hb (k₃ b o (k b o e))) hx'
theorem oop_made (T : OopTxt prog K mg C fI cc cda (L2.defArgs sOI) (L2.defBody sOI) (L2.defScope sOI)) {v : Value} (X : K.In s.heap) (hg : s.heap.Ns mainGlobals mg) (hb : s.heap.Ns builtinsNs mb) (hsup : mb "super" = some (.type "super")) (hlim : s.heap.NoLimit) (hroom : A.depth + 1 < recursionLimit)
    (hq : ∀ h' tk e t1, (∀ b o, s.heap.get? b = some o → h'.get? b = some o) → s.heap.objs.size ≤ e → s.heap.get? e = none → h'.get? e = some (excO C t1) → R (.ok (.ret (.ref e))) { s with heap := h', toks := tk }) :
    codeAny (model prog w) A (.call (.ref C) ⟨[v], []⟩) R s := by
  obtain ⟨nm, q, N, bs, sn, sub, ab, col, dd, k0, k1, k2, k3, k5, hC⟩ := T.cls
  obtain ⟨hp, g, dr, tk, os⟩ := s
  have k : ∀ b o, hp.get? b = some o → ((hp.push (kdv_tup [v])).push (excO C hp.objs.size)).get? b = some o := fun b o e => Heap.get?_push_of_some _ (Heap.get?_push_of_some _ e)
  have hget : ((hp.push (kdv_tup [v])).push (excO C hp.objs.size)).get? (hp.objs.size + 1) = some (excO C hp.objs.size) := by heap_get
  have hno : hp.get? (hp.objs.size + 1) = none := by
    cases e : hp.get? (hp.objs.size + 1) with
    | none => rfl
    | some o => exact absurd (Nat.lt_of_succ_lt (Heap.lt_size e)) (Nat.lt_irrefl _)
  refine call_own F.excBase_ValueError (fun Y => refsVE_contains Y veTail (by decide +kernel)) (X _ _ hC) (looks_findIn X T.iC) (fun self => bind_fn X self T.tC) (one_size v) ?_
  refine oop_init (s := ⟨(hp.push (kdv_tup [v])).push (excO C hp.objs.size), g, dr, tk, os⟩) T (X.keeps k) (hg.keeps k) (hb.keeps k) hsup (hlim.keeps k) hget ?_ fun h' tk' t1 k' hx => ?_
  · show A.depth + 1 < recursionLimit
    exact hroom
  · exact ⟨rfl, hq h' tk' (hp.objs.size + 1) t1 (fun b o e => k' b o (Nat.ne_of_lt (Nat.lt_succ_of_lt (Heap.lt_size e))) (k b o e)) (Nat.le_succ _) hno hx⟩
end
end OopX
end PySem
namespace L2
open PySem PySem.Spec PyProof.Rows
/-- OutOfPlace('m') -/
theorem pmk_oop {X : Cx} {C fI cc cda : Addr} {m : Str} {j k : Nat} {p p2 pos : Pos} (T : PySem.OopX.OopTxt X.prog X.K X.mg C fI cc cda (L2.defArgs PySem.OopX.sOI) (L2.defBody PySem.OopX.sOI) (L2.defScope PySem.OopX.sOI)) (hr : Room k X.A) (hg : Gl X "OutOfPlace" := by rfl) :
    PMk X (.Call (.Name "OutOfPlace" p) [.Constant (.str m) j p2] [] pos) (fun _ H Q => Q (.ref C) none H) := by
  intro pins s σ H Q I h
  refine wpAny_Call_Name_kw (ld_glob I hg T.gC ?_ (by decide))
  have ha : PA X [.Constant (.str m) j p2] (tCons (tC (.str m)) tNil) := pa_cons pe_str pa_nil
  refine PySem.W.callWith_K (h₀ := X.base) I.ok.mod.kin T.kC (thn (ha.run pos pins s σ H (fun vs H1 => vs = [V.str m] ∧ H = H1) I ⟨rfl, rfl⟩) fun us s1 hh => ?_)
  obtain ⟨vs, H1, I1, r1, ev, eH⟩ := hh
  subst ev
  rw [← eH] at I1
  refine ⟨I1.kIn, ?_⟩
  cases r1 with
  | cons ru rn =>
    rename_i u us'
    cases rn
    show wpAny _ _ (call (.ref C) [u]) _ _ _
    obtain ⟨mb, b1, b2⟩ := I1.mod.blt
    refine wpAny_call (PySem.OopX.oop_made (mb := mb) T I1.kIn (I1.mod.glob.keeps I1.bk) (b1.keeps I1.bk) (b2 "super" (by decide) |>.trans (by decide +kernel)) I1.nolimit (by have := hr.dp; omega) fun h' tk' e t1 k hsz hno he => ?_)
    exact ⟨e, _, _, s1, H, .ref C, none, rfl, I1, k, hno, he, ⟨rfl, rfl⟩, rfl, rfl, I1.hok.fresh hsz, rfl, I1.bare, raises_own T.exC T.tyC, h⟩
end L2

namespace LH
open PySem PySem.Spec PyProof.Rows L2 LHM
def topS (i : Nat) : Stmt := PySem.Challenge.pw_lacehouse_k12_whole_leads.main.body.getD i (.Pass ⟨0, 0, 0, 0⟩)
abbrev FnD (K : PySem.W.Frag) (x : Str) (i : Nat) (f : Addr) (fd : FuncData) : Prop := Fun K x x (topS i) f fd
/-- the built-ins' names that the text leaves alone -/
structure Glb (mg : Str → Option Value) : Prop where
  isinstance : mg "isinstance" = none
  int : mg "int" = none
  bool : mg "bool" = none
  str : mg "str" = none
  tuple : mg "tuple" = none
  list : mg "list" = none
  len : mg "len" = none
  all : mg "all" = none
  range : mg "range" = none
  enumerate : mg "enumerate" = none
  zip : mg "zip" = none
  min : mg "min" = none
  repr : mg "repr" = none
  letters : ∃ t, mg "LETTERS" = some (.str "CLRT" t)
  mostL : ∃ t, mg "MOST_LETTERS" = some (.int 12 t)
  mostS : ∃ t, mg "MOST_STITCHES" = some (.int 24 t)
/-- HANDS -/
structure Hands (K : PySem.W.Frag) (mg : Str → Option Value) (hA : Addr) : Prop where
  g : mg "HANDS" = some (.ref hA)
  t : ∀ H : Hp, SqT K H hA [.str "l", .str "r"]
section
variable {X : Cx}
theorem bI : bootBuiltins "isinstance" = some (.builtin "isinstance") := by decide +kernel
/-- isinstance(x, T): the type of x, the answer -/
def rIs (K : PySem.W.Frag) : List V → Hp → VK → Prop := fun vs H Q => match vs with
  | [x, .ty n] => ∃ (t : String) (b : Bool), TyX K H x (.type t) ∧ L2.kitB t n = some b ∧ Q (.bl b) H
  | _ => False
theorem call_is : CallR X (.builtin "isinstance") (rIs X.K) := by
  intro pins s σ H xs us Q I r h
  match xs, h with
  | [x, .ty n], h =>
    obtain ⟨t, b, ty, hk, q⟩ := h
    exact call_isi pins s σ H _ us Q I r ⟨x, .ty n, .type t, .type n, b, rfl, .ty n, ty, kit_ty hk, q⟩
/-- isinstance(e, T) -/
theorem pe_isi {e : Expr} {te : TE} {n : String} {y : Str} {p p2 pos : Pos} (hg : Gl X "isinstance") (G : Glb X.mg) (he : PE X e te) (hy : Gl X y) (hm : X.mg y = none) (hb : bootBuiltins y = some (.type n)) (hn : y ≠ "__name__" := by decide) (hd : (y == ("__debug__" : Str)) = false := by decide)
    (s1 : starEach (e :: [.Name y p2]) X.env = (false, eval e X.env) :: starEach [.Name y p2] X.env := by rfl) (s2 : starEach [.Name y p2] X.env = (false, eval (.Name y p2) X.env) :: starEach [] X.env := by rfl) (hpl : (backTo pos (starEach [.Name y p2] X.env)).any (·.1) = false := by rfl) :
    PE X (.Call (.Name "isinstance" p) [e, .Name y p2] [] pos) (tCB (rIs X.K) (tCons te (tCons (tC (.ty n)) tNil))) :=
  pe_callB call_is hg G.isinstance bI (pa_cons he (pa_cons (pe_bltn (v := .ty n) hy hm hb rfl hn hd) pa_nil s2) s1) (by decide) (by decide) s1 hpl
end
/-- the same with K told -/
theorem call_isK {X : Cx} (K : PySem.W.Frag) (h : X.K = K := by rfl) : CallR X (.builtin "isinstance") (rIs K) := by subst h; exact call_is
theorem pe_isiK {X : Cx} (K : PySem.W.Frag) {e : Expr} {te : TE} {n : String} {y : Str} {p p2 pos : Pos} (hg : Gl X "isinstance") (G : Glb X.mg) (he : PE X e te) (hy : Gl X y) (hm : X.mg y = none) (hb : bootBuiltins y = some (.type n)) (hK : X.K = K := by rfl) (hn : y ≠ "__name__" := by decide) (hd : (y == ("__debug__" : Str)) = false := by decide)
    (s1 : starEach (e :: [.Name y p2]) X.env = (false, eval e X.env) :: starEach [.Name y p2] X.env := by rfl) (s2 : starEach [.Name y p2] X.env = (false, eval (.Name y p2) X.env) :: starEach [] X.env := by rfl) (hpl : (backTo pos (starEach [.Name y p2] X.env)).any (·.1) = false := by rfl) :
    PE X (.Call (.Name "isinstance" p) [e, .Name y p2] [] pos) (tCB (rIs K) (tCons te (tCons (tC (.ty n)) tNil))) := by
  subst hK
  exact pe_isi hg G he hy hm hb hn hd s1 s2 hpl
theorem b_int : bootBuiltins "int" = some (.type "int") := by decide +kernel
theorem b_bool : bootBuiltins "bool" = some (.type "bool") := by decide +kernel
theorem b_str : bootBuiltins "str" = some (.type "str") := by decide +kernel
theorem b_tuple : bootBuiltins "tuple" = some (.type "tuple") := by decide +kernel
theorem k_ii : L2.kitB "int" "int" = some true := by decide +kernel
theorem k_ib : L2.kitB "int" "bool" = some false := by decide +kernel
theorem k_bi : L2.kitB "bool" "int" = some true := by decide +kernel
theorem k_bb : L2.kitB "bool" "bool" = some true := by decide +kernel
theorem k_si : L2.kitB "str" "int" = some false := by decide +kernel
theorem k_ss : L2.kitB "str" "str" = some true := by decide +kernel
theorem k_ti : L2.kitB "tuple" "int" = some false := by decide +kernel
theorem k_tt : L2.kitB "tuple" "tuple" = some true := by decide +kernel
theorem k_ni : L2.kitB "NoneType" "int" = some false := by decide +kernel

/-! ### a def that may be called -/
def Cal (P : Program) (w : World) (K : PySem.W.Frag) (mg : Str → Option Value) (base : Heap) (CX : CXT) (k : Nat) (x : Str) (ps : List Str) (sp : Sp) : Prop :=
  ∃ (f : Addr) (fd : FuncData), FnOk P w K mg base CX k f fd ps sp ∧ mg x = some (.ref f) ∧ PySem.W.keepIn K (.ref f) = true ∧ Binds K fd ps []
def tCal (sp : Sp) (E : XK) (t : TA) : TE := fun σ H Q => t σ H fun vs H1 => sp vs H1 Q E
section
variable {X : Cx} {CX : CXT} {k : Nat} {x : Str} {ps : List Str} {sp : Sp} {E : XK} {e : Expr} {es : List Expr} {t : TA} {p pos : Pos}
theorem pe_cal (C : Cal X.prog X.w X.K X.mg X.base CX k x ps sp) (hr : Room k X.A) (hg : Gl X x) (hx : Passes CX X E) (ha : PA X (e :: es) t) (hdb : (x == ("__debug__" : Str)) = false := by decide)
    (he : starEach (e :: es) X.env = (false, eval e X.env) :: starEach es X.env := by rfl) (hpl : (backTo pos (starEach es X.env)).any (·.1) = false := by rfl) :
    PE X (.Call (.Name x p) (e :: es) [] pos) (tCal sp E t) := by
  obtain ⟨f, fd, F, hm, hk, hb⟩ := C
  refine ⟨fun pins s σ H Q I h => ?_⟩
  refine wpAny_Call_Name_kw (ld_glob I hg hm ?_ hdb)
  refine PySem.W.callWith_K (h₀ := X.base) I.ok.mod.kin hk (thn (ha.run pos pins s σ H _ I h) fun us s1 ⟨vs, H1, I1, r, q⟩ => ⟨I1.kIn, ?_⟩) he hpl
  exact run_fn F hr hb .nil hx I1 r (by rw [List.append_nil]; exact q)
/-- the same within a try's body -/
def tCalS (sp : Sp) (W : WX) (t : TA) : TE := fun σ H Q => t σ H fun vs H1 => sp vs H1 Q (WE W σ)
theorem pe_calS {W : WX} (C : Cal X.prog X.w X.K X.mg X.base (L2.CX X.prog X.w) k x ps sp) (hr : Room k X.A) (hg : Gl X x) (tk : Takes X W) (ha : PA X (e :: es) t) (hdb : (x == ("__debug__" : Str)) = false := by decide)
    (he : starEach (e :: es) X.env = (false, eval e X.env) :: starEach es X.env := by rfl) (hpl : (backTo pos (starEach es X.env)).any (·.1) = false := by rfl) :
    PE X (.Call (.Name x p) (e :: es) [] pos) (tCalS sp W t) := by
  obtain ⟨f, fd, F, hm, hk, hb⟩ := C
  exact pe_callS F hr hg hm hk hb (fun σ => passAt tk σ) ha hdb he hpl
theorem cal_mk {P : Program} {w : World} {K : PySem.W.Frag} {mg : Str → Option Value} {base : Heap} {i : Nat} {f : Addr} {fd : FuncData} (F : FnD K x i f fd) (g : mg x = some (.ref f)) (b : Binds K fd ps []) (ok : FnOk P w K mg base CX k f fd ps sp) : Cal P w K mg base CX k x ps sp :=
  ⟨f, fd, ok, g, F.kp, b⟩
end
/-! ### tapes -/
structure Tp where
  n : Nat
  works : List Str
  to : Nat → Bool → Nat
  sd : Nat → Bool → Bool
  dn : Nat → Bool → Int
def sideV (b : Bool) : V := .str (if b then "r" else "l")
def WayR (H : Hp) (p : Addr) (t : Nat) (s : Bool) (d : Int) : Prop := H p = some (.tup [.int (t : Nat), sideV s, .int d])
def PairR (H : Hp) (p : Addr) (to : Bool → Nat) (sd : Bool → Bool) (dn : Bool → Int) : Prop :=
  ∃ l r, H p = some (.tup [.ref l, .ref r]) ∧ WayR H l (to false) (sd false) (dn false) ∧ WayR H r (to true) (sd true) (dn true)
def PairsR (H : Hp) (ws : List V) (T : Tp) : Prop := ws.length = T.n ∧ ∀ i, i < T.n → ∃ p, ws[i]? = some (.ref p) ∧ PairR H p (T.to i) (T.sd i) (T.dn i)
def TapeR (H : Hp) (v : V) (T : Tp) : Prop := ∃ a b c ws, v = .ref a ∧ H a = some (.tup [.ref b, .ref c]) ∧ H b = some (.tup (T.works.map V.str)) ∧ T.works.length = T.n ∧ H c = some (.tup ws) ∧ PairsR H ws T
/-- tuples stay -/
def TupS (H H' : Hp) : Prop := ∀ a xs, H a = some (.tup xs) → H' a = some (.tup xs)
theorem TupS.refl (H : Hp) : TupS H H := fun _ _ h => h
theorem TupS.trans {H H1 H2 : Hp} (a : TupS H H1) (b : TupS H1 H2) : TupS H H2 := fun c o h => b c o (a c o h)
theorem TupS.of {H H' : Hp} (e : Same H H') : TupS H H' := fun a xs h => e a _ h
theorem TupS.new {H H' : Hp} {p : Addr} {o : HO} (e : TupS H H') (h : H' p = none) : TupS H (upd H' p o) := fun a xs q => by
  rw [upd_ne (ne_of_none (e a xs q) h)]; exact e a xs q
theorem TupS.lst {H H' : Hp} {p : Addr} {o : HO} {ys : List V} (e : TupS H H') (h : H' p = some (.lst ys)) : TupS H (upd H' p o) := fun a xs q => by
  rw [upd_ne (ne_of (e a xs q) h (by intro z; cases z))]; exact e a xs q
theorem TupS.dK {H H' : Hp} {p : Addr} {o : HO} {ys : List (Key × V)} (e : TupS H H') (h : H' p = some (.dK ys)) : TupS H (upd H' p o) := fun a xs q => by
  rw [upd_ne (ne_of (e a xs q) h (by intro z; cases z))]; exact e a xs q
theorem TupS.dT {H H' : Hp} {p : Addr} {o : HO} {ys : List (List Key × V)} (e : TupS H H') (h : H' p = some (.dT ys)) : TupS H (upd H' p o) := fun a xs q => by
  rw [upd_ne (ne_of (e a xs q) h (by intro z; cases z))]; exact e a xs q
theorem WayR.ts {H H' : Hp} {p : Addr} {t : Nat} {s : Bool} {d : Int} (e : TupS H H') (h : WayR H p t s d) : WayR H' p t s d := e _ _ h
theorem PairR.ts {H H' : Hp} {p : Addr} {to : Bool → Nat} {sd : Bool → Bool} {dn : Bool → Int} (e : TupS H H') (h : PairR H p to sd dn) : PairR H' p to sd dn := by
  obtain ⟨l, r, a, b, c⟩ := h
  exact ⟨l, r, e _ _ a, b.ts e, c.ts e⟩
theorem PairsR.ts {H H' : Hp} {ws : List V} {T : Tp} (e : TupS H H') (h : PairsR H ws T) : PairsR H' ws T :=
  ⟨h.1, fun i hi => let ⟨p, a, b⟩ := h.2 i hi; ⟨p, a, b.ts e⟩⟩
theorem TapeR.ts {H H' : Hp} {v : V} {T : Tp} (e : TupS H H') (h : TapeR H v T) : TapeR H' v T := by
  obtain ⟨a, b, c, ws, e1, e2, e3, e4, e5, e6⟩ := h
  exact ⟨a, b, c, ws, e1, e _ _ e2, e _ _ e3, e4, e _ _ e5, e6.ts e⟩
theorem WayR.same {H H' : Hp} {p : Addr} {t : Nat} {s : Bool} {d : Int} (e : Same H H') (h : WayR H p t s d) : WayR H' p t s d := e _ _ h
theorem PairR.same {H H' : Hp} {p : Addr} {to : Bool → Nat} {sd : Bool → Bool} {dn : Bool → Int} (e : Same H H') (h : PairR H p to sd dn) : PairR H' p to sd dn := h.ts (.of e)
theorem PairsR.same {H H' : Hp} {ws : List V} {T : Tp} (e : Same H H') (h : PairsR H ws T) : PairsR H' ws T := h.ts (.of e)
theorem TapeR.same {H H' : Hp} {v : V} {T : Tp} (e : Same H H') (h : TapeR H v T) : TapeR H' v T := h.ts (.of e)
/-- the i-th way as names tell it -/
def EdgeR (H : Hp) (p : Addr) (T : Tp) (i : Nat) : Prop := H p = some (.tup [.int ((i / 2 : Nat) : Int), sideV (hd i), .int (T.to (i / 2) (hd i) : Nat), sideV (T.sd (i / 2) (hd i)), .int (T.dn (i / 2) (hd i))])
def EdgesR (H : Hp) (es : List V) (T : Tp) (m : Nat) : Prop := es.length = m ∧ ∀ i, i < m → ∃ p, es[i]? = some (.ref p) ∧ EdgeR H p T i
theorem EdgesR.ts {H H' : Hp} {es : List V} {T : Tp} {m : Nat} (e : TupS H H') (h : EdgesR H es T m) : EdgesR H' es T m :=
  ⟨h.1, fun i hi => let ⟨p, a, b⟩ := h.2 i hi; ⟨p, a, e _ _ b⟩⟩
theorem EdgesR.same {H H' : Hp} {es : List V} {T : Tp} {m : Nat} (e : Same H H') (h : EdgesR H es T m) : EdgesR H' es T m := h.ts (.of e)
/-- the sides that the ways reach, in turn -/
def sides (T : Tp) : List (Nat × Bool) := (List.range (2 * T.n)).map fun i => (T.to (i / 2) (hd i), T.sd (i / 2) (hd i))
def Tp.Once (T : Tp) : Prop := ∀ u s, u < T.n → (sides T).count (u, s) = 1
def SideR (H : Hp) (p : Addr) (z : Nat × Bool) : Prop := H p = some (.tup [.int (z.1 : Nat), sideV z.2])
/-- a list of refs to sides -/
def SidesR (H : Hp) (es : List V) (zs : List (Nat × Bool)) : Prop := es.length = zs.length ∧ ∀ (i : Nat) (z : Nat × Bool), zs[i]? = some z → ∃ p : Addr, es[i]? = some (V.ref p) ∧ SideR H p z
theorem SidesR.ts {H H' : Hp} {es : List V} {zs : List (Nat × Bool)} (e : TupS H H') (h : SidesR H es zs) : SidesR H' es zs :=
  ⟨h.1, fun i z hi => let ⟨p, a, b⟩ := h.2 i z hi; ⟨p, a, e _ _ b⟩⟩
theorem SidesR.snoc {H : Hp} {es : List V} {zs : List (Nat × Bool)} {p : Addr} {z : Nat × Bool} (h : SidesR H es zs) (hp : SideR H p z) : SidesR H (es ++ [V.ref p]) (zs ++ [z]) := by
  refine ⟨by simp [h.1], fun i y hi => ?_⟩
  by_cases q : i < zs.length
  · rw [List.getElem?_append_left q] at hi
    obtain ⟨p', a, b⟩ := h.2 i y hi
    exact ⟨p', by rw [List.getElem?_append_left (by rw [h.1]; exact q)]; exact a, b⟩
  · rw [List.getElem?_append_right (by omega)] at hi
    have e0 : i - zs.length = 0 := by
      have := (List.getElem?_eq_some_iff.mp hi).1
      simp at this
      omega
    rw [e0] at hi
    have e1 : z = y := Option.some.inj hi
    subst e1
    refine ⟨p, ?_, hp⟩
    rw [List.getElem?_append_right (by rw [h.1]; omega), h.1, e0]
    rfl
/-- the ways stay within -/
def Tp.In (T : Tp) : Prop := ∀ v h, v < T.n → T.to v h < T.n
theorem same_new {H : Hp} {p : Addr} {o : HO} (h : H p = none) : Same H (upd H p o) := fun b x e => by
  rw [upd_ne (ne_of_none e h)]; exact e
theorem same_mut {H H' : Hp} {p : Addr} {o : HO} (e : Same H H') (h : H p = none) : Same H (upd H' p o) := fun b x ha => by
  rw [upd_ne (ne_of_none ha h)]; exact e _ _ ha
end LH

namespace LH
open PySem PySem.Spec PyProof.Rows L2 LHM
section
variable {P : Program} {w : World} {K : PySem.W.Frag} {mg : Str → Option Value} {base : Heap}
/-! ### is_whole -/
def oV : Option Int → V
  | none => .non
  | some i => .int i
def lowB (i : Int) : Option Int → Bool
  | none => true
  | some a => decide (a ≤ i)
def highB (i : Int) : Option Int → Bool
  | none => true
  | some a => decide (i ≤ a)
/-- what is_whole looks at: an int; a thing of another type -/
def NotInt (K : PySem.W.Frag) (H : Hp) (x : V) : Prop := (∃ b, x = .bl b) ∨ ∃ t, TyX K H x (.type t) ∧ L2.kitB t "int" = some false
def spWhole (K : PySem.W.Frag) : Sp := fun vs H Q _ => ∃ (x : V) (lo hi : Option Int), vs = [x, oV lo, oV hi] ∧
  ((∃ i, x = .int i ∧ Q (.bl (lowB i lo && highB i hi)) H) ∨ (NotInt K H x ∧ Q (.bl false) H))
theorem scWhole : FnScope ["thing", "least", "most"] ["thing", "least", "most"] (defScope (topS 6)) := ⟨rfl, rfl, rfl, by decide +kernel, rfl, by decide +kernel, by decide +kernel⟩
theorem ok_whole {f : Addr} {fd : FuncData} (F : FnD K "is_whole" 6 f fd) (G : Glb mg) : FnOk P w K mg base CX0 1 f fd ["thing", "least", "most"] (spWhole K) := by
  refine F.ok scWhole (fun vs H Q E h => ?_) (fun cdv A outer s H vs Q E hr h => ?_)
  · obtain ⟨x, lo, hi, rfl, _⟩ := h
    rfl
  · obtain ⟨x, lo, hi, rfl, h⟩ := h
    refine ⟨_, pss_cons (ps_if (PW.pt (pw_or (pt_not (pt_val (pe_isi (by rfl) G (pv 0) (by rfl) G.int b_int))) (pw_or1 (pt_val (pe_isi (by rfl) G (pv 0) (by rfl) G.bool b_bool))))) (pss_one (ps_ret pe_bl)) pss_nil)
      (pss_one (ps_ret (pe_and (pe_or (pe_cmpR op_isN (pv 1) pe_non (nomark _)) (pe_one (pe_cmpR op_ge (pv 0) (pv 1) (nomark _))))
        (pe_one (pe_or (pe_cmpR op_isN (pv 2) pe_non (nomark _)) (pe_one (pe_cmpR op_le (pv 0) (pv 2) (nomark _)))))))), ?_⟩
    rcases h with ⟨i, rfl, q⟩ | ⟨hn, q⟩
    · refine ⟨_, rfl, _, _, .base (.int i), k_ii, true, rfl, iteF ⟨_, rfl, _, _, .base (.int i), k_ib, false, rfl, iteF ?_⟩⟩
      cases lo with
      | none =>
        refine ⟨_, rfl, rfl, _, rfl, iteT ⟨true, rfl, iteT ?_⟩⟩
        cases hi with
        | none => exact ⟨_, rfl, rfl, _, rfl, iteT q⟩
        | some b => exact ⟨_, rfl, rfl, _, rfl, iteF ⟨_, rfl, _, rfl, i, b, rfl, rfl, q⟩⟩
      | some a =>
        refine ⟨_, rfl, rfl, _, rfl, iteF ⟨_, rfl, _, rfl, i, a, rfl, rfl, _, rfl, ite2 (fun e => ?_) (fun e => ?_)⟩⟩
        · have q' : Q (.bl (true && highB i hi)) H := by rw [← e]; exact q
          cases hi with
          | none => exact ⟨_, rfl, rfl, _, rfl, iteT q'⟩
          | some b => exact ⟨_, rfl, rfl, _, rfl, iteF ⟨_, rfl, _, rfl, i, b, rfl, rfl, q'⟩⟩
        · have e' : decide (a ≤ i) = false := by simpa using e
          have q' : Q (.bl (false && highB i hi)) H := by rw [← e']; exact q
          exact q'
    · rcases hn with ⟨b, rfl⟩ | ⟨t, ty, hk⟩
      · exact ⟨_, rfl, _, _, .base (.bl b), k_bi, true, rfl, iteF ⟨_, rfl, _, _, .base (.bl b), k_bb, true, rfl, iteT q⟩⟩
      · exact ⟨_, rfl, _, _, ty, hk, false, rfl, iteT (iteT q)⟩
/-! ### is_work -/
def GoodWork (z : Str) : Prop := 1 ≤ z.length ∧ z.length ≤ 12 ∧ ∀ (c : Nat), c ∈ z.cps.toList → c ∈ (("CLRT" : Str)).cps.toList
def spWork (K : PySem.W.Frag) : Sp := fun vs H Q _ => ∃ z : Str, vs = [.str z] ∧ GoodWork z ∧ ∀ H', Same H H' → Q (.bl true) H'
theorem scWork : FnScope ["thing", "letter"] ["thing"] (defScope (topS 7)) := ⟨rfl, rfl, rfl, by decide +kernel, rfl, by decide +kernel, by decide +kernel⟩
theorem len12 {z : Str} (h : z.length ≤ 12) : z.length ≤ sizeLine := Nat.le_trans h (by decide)
theorem allTrue : ∀ n : Nat, ((List.replicate n true).all id) = true
  | 0 => rfl
  | n + 1 => by rw [List.replicate_succ, List.all_cons, allTrue n]; rfl
theorem rep_snoc {α : Type} (n : Nat) (x : α) : List.replicate n x ++ [x] = List.replicate (n + 1) x := by
  rw [List.replicate_succ']
theorem ok_work {f : Addr} {fd : FuncData} (F : FnD K "is_work" 7 f fd) (G : Glb mg) : FnOk P w K mg base CX0 1 f fd ["thing"] (spWork K) := by
  obtain ⟨tl, gl⟩ := G.letters
  obtain ⟨tm, gm⟩ := G.mostL
  refine F.ok scWork (fun vs H Q E h => ?_) (fun cdv A outer s H vs Q E hr h => ?_)
  · obtain ⟨z, rfl, _⟩ := h
    rfl
  · obtain ⟨z, rfl, ⟨z1, z2, z3⟩, q⟩ := h
    refine ⟨_, pss_cons (ps_if (PW.pt (pw_or (pt_not (pt_val (pe_isi (by rfl) G (pv 0) (by rfl) G.str b_str)))
        (pw_or1 (pt_not (pt_chain op_le op_le pe_int (pe_callB call_len (by rfl) G.len PySem.boot_len (pa_cons (pv 0) pa_nil)) (pe_glob (v := .int 12) (by rfl) gm ⟨_, rfl⟩)))))) (pss_one (ps_ret pe_bl)) pss_nil)
      (pss_one (ps_ret (pe_callB (cr_all rfl) (by rfl) G.all (by decide +kernel) (pa_cons
        (pe_lc (own := [("letter", 1)]) (g := gName 1) (tt := tYes) rfl scWork.nd (pi_str (pv 0)) (blkOk_by (N := ["thing", "letter"]) (sc := defScope (topS 7)) (by decide +kernel)) (fun _ _ _ _ _ => pg_name (i := 1) scWork.nd rfl (Or.inl rfl)) (fun _ _ _ _ _ => pts_nil)
          (fun _ _ _ _ _ => pe_cmpR op_in_sign (pv 1) (pe_glob (v := .str "CLRT") (by rfl) gl ⟨_, rfl⟩) (by rfl))) pa_nil)))), ?_⟩
    refine ⟨_, rfl, _, _, .base (.str z), k_ss, true, rfl, iteF ?_⟩
    refine ⟨_, rfl, _, z.length, rfl, ⟨len12 z2, rfl⟩, _, _, rfl, rfl, _, rfl, ?_⟩
    rw [decide_eq_true (show (1 : Int) ≤ (z.length : Nat) by omega)]
    refine iteT ⟨_, _, rfl, rfl, _, rfl, ?_⟩
    rw [decide_eq_true (show ((z.length : Nat) : Int) ≤ 12 by omega)]
    refine iteF ?_
    refine ⟨_, rfl, z, rfl, fun D hD => lc_it (walk_str (z := z)) (fun i H' => Same H H' ∧ H' D = some (.lst (List.replicate i (.bl true)))) ⟨same_new hD, upd_same⟩ (fun _ _ _ _ => trivial) ?_ ?_⟩
    · rintro i x H1 H2 hi ⟨sm, hl⟩ ⟨rfl, c, hc, rfl⟩
      refine ⟨rfl, _, rfl, c, "CLRT", rfl, rfl, _, hl, ?_, ?_⟩
      · rw [List.length_replicate]
        have : i < z.length := hi
        exact Nat.lt_of_le_of_lt (show i ≤ 1000 by omega) (by decide)
      · rw [decide_eq_true (z3 c (by
          have h := Array.mem_of_getElem? hc
          exact Array.mem_toList_iff.mpr h)), rep_snoc]
        exact ⟨same_mut sm hD, upd_same⟩
    · rintro H1 ⟨sm, hl⟩
      refine ⟨D, List.replicate z.cps.size true, rfl, SqL.of (by rw [List.map_replicate]; exact hl), ?_⟩
      rw [allTrue]
      exact q _ sm
/-! ### is_tape_way -/
def spWay (K : PySem.W.Frag) : Sp := fun vs H Q _ => ∃ (p : Addr) (n t : Nat) (s : Bool) (d : Int), vs = [.ref p, .int (n : Nat)] ∧ WayR H p t s d ∧ t < n ∧ Q (.bl true) H
theorem scWay : FnScope ["thing", "many"] ["thing", "many"] (defScope (topS 11)) := ⟨rfl, rfl, rfl, by decide +kernel, rfl, by decide +kernel, by decide +kernel⟩
theorem side_in (s : Bool) : inV (sideV s) [.str "l", .str "r"] = true := by cases s <;> decide +kernel
theorem side_flat (s : Bool) : flatV (sideV s) = true := by cases s <;> rfl
theorem side_ty {K : PySem.W.Frag} {H : Hp} (s : Bool) : TyX K H (sideV s) (.type "str") := .base (.str _)
theorem ok_way {hA f : Addr} {fd : FuncData} (F : FnD K "is_tape_way" 11 f fd) (G : Glb mg) (HD : Hands K mg hA) (CW : Cal P w K mg base CX0 1 "is_whole" ["thing", "least", "most"] (spWhole K)) : FnOk P w K mg base CX0 2 f fd ["thing", "many"] (spWay K) := by
  refine F.ok scWay (fun vs H Q E h => ?_) (fun cdv A outer s H vs Q E hr h => ?_)
  · obtain ⟨p, n, t, s, d, rfl, _⟩ := h
    rfl
  · obtain ⟨p, n, t, sd, d, rfl, hw, ht, q⟩ := h
    refine ⟨_, pss_cons (ps_if (PW.pt (pw_or (pt_not (pt_val (pe_isi (by rfl) G (pv 0) (by rfl) G.tuple b_tuple)))
        (pw_or (pt_cmpR op_ne (pe_callB call_len (by rfl) G.len PySem.boot_len (pa_cons (pv 0) pa_nil)) pe_int (nomark _))
          (pw_or1 (pt_not (pt_val (pe_isi (by rfl) G (pe_ix ix_tup (pv 0) pe_int (fun _ _ => rfl)) (by rfl) G.str b_str))))))) (pss_one (ps_ret pe_bl)) pss_nil)
      (pss_one (ps_ret (pe_and (pe_cal CW hr (by rfl) (E := E0) pass0 (pa_cons (pe_ix ix_tup (pv 0) pe_int (fun _ _ => rfl)) (pa_cons pe_int (pa_cons (pe_op op_sub (pv 1) pe_int) pa_nil))))
        (pe_and (pe_cmpR op_in_seq (pe_ix ix_tup (pv 0) pe_int (fun _ _ => rfl)) (pe_glob (v := .ref hA) (by rfl) HD.g rfl) (by rfl))
          (pe_one (pe_cal CW hr (by rfl) (E := E0) pass0 (pa_cons (pe_ix ix_tup (pv 0) pe_int (fun _ _ => rfl)) (pa_cons pe_non (pa_cons pe_non pa_nil))))))))), ?_⟩
    refine ⟨_, rfl, _, _, .base (.tup hw), k_tt, true, rfl, iteF ?_⟩
    refine ⟨_, rfl, _, 3, rfl, .inr ⟨_, SqT.of hw, rfl⟩, rfl, false, rfl, iteF ?_⟩
    refine ⟨_, rfl, _, _, _, _, rfl, rfl, SqT.of hw, atI_nat (j := 1) rfl, _, _, side_ty sd, k_ss, true, rfl, iteF ?_⟩
    refine ⟨_, rfl, _, _, _, _, rfl, rfl, SqT.of hw, atI_nat (j := 0) rfl, _, rfl, _, _, rfl, rfl, _, some 0, some ((n : Int) - 1), rfl, .inl ⟨_, rfl, true, ?_, ?_⟩⟩
    · show V.bl (decide (0 ≤ (t : Int)) && decide ((t : Int) ≤ (n : Int) - 1)) = V.bl true
      rw [decide_eq_true (show 0 ≤ (t : Int) by omega), decide_eq_true (show (t : Int) ≤ (n : Int) - 1 by omega)]
      rfl
    · refine iteT ?_
      refine ⟨_, rfl, _, _, _, _, rfl, rfl, SqT.of hw, atI_nat (j := 1) rfl, _, _, rfl, .inr (HD.t H), side_flat sd, rfl, true, ?_, iteT ?_⟩
      · rw [if_neg Bool.false_ne_true, side_in]
      · exact ⟨_, rfl, _, _, _, _, rfl, rfl, SqT.of hw, atI_nat (j := 2) rfl, _, none, none, rfl, .inl ⟨_, rfl, q⟩⟩
/-! ### are_tape_ways -/
def spWays (K : PySem.W.Frag) : Sp := fun vs H Q _ => ∃ (p : Addr) (n : Nat) (to : Bool → Nat) (sd : Bool → Bool) (dn : Bool → Int), vs = [.ref p, .int (n : Nat)] ∧ PairR H p to sd dn ∧ (∀ h, to h < n) ∧ ∀ H', Same H H' → Q (.bl true) H'
theorem scWays : FnScope ["thing", "many", "way"] ["thing", "many"] (defScope (topS 12)) := ⟨rfl, rfl, rfl, by decide +kernel, rfl, by decide +kernel, by decide +kernel⟩
theorem ok_ways {f : Addr} {fd : FuncData} (F : FnD K "are_tape_ways" 12 f fd) (G : Glb mg) (CW : Cal P w K mg base CX0 2 "is_tape_way" ["thing", "many"] (spWay K)) : FnOk P w K mg base CX0 3 f fd ["thing", "many"] (spWays K) := by
  refine F.ok scWays (fun vs H Q E h => ?_) (fun cdv A outer s H vs Q E hr h => ?_)
  · obtain ⟨p, n, to, sd, dn, rfl, _⟩ := h
    rfl
  · obtain ⟨p, n, to, sd, dn, rfl, hp, ht, q⟩ := h
    obtain ⟨l, r, e1, e2, e3⟩ := id hp
    refine ⟨_, pss_one (ps_ret (pe_and (pe_isi (by rfl) G (pv 0) (by rfl) G.tuple b_tuple) (pe_and (pe_cmpR op_eq (pe_callB call_len (by rfl) G.len PySem.boot_len (pa_cons (pv 0) pa_nil)) pe_int (nomark _))
      (pe_one (pe_callB (cr_all rfl) (by rfl) G.all (by decide +kernel) (pa_cons
        (pe_lc (own := [("way", 2)]) (g := gName 2) (tt := tYes) rfl scWays.nd (pi_tup (pv 0)) (blkOk_by (N := ["thing", "many", "way"]) (sc := defScope (topS 12)) (by decide +kernel)) (fun _ _ _ _ _ => pg_name (i := 2) scWays.nd rfl (Or.inl rfl)) (fun _ _ _ _ _ => pts_nil)
          (fun _ _ _ _ _ => pe_cal CW hr (by rfl) (E := E0) pass0 (pa_cons (pv 2) (pa_cons (pv 1) pa_nil)))) pa_nil)))))), ?_⟩
    refine ⟨_, rfl, _, _, .base (.tup e1), k_tt, true, rfl, iteT ?_⟩
    refine ⟨_, rfl, _, 2, rfl, .inr ⟨_, SqT.of e1, rfl⟩, rfl, true, rfl, iteT ?_⟩
    refine ⟨_, rfl, p, rfl, ⟨_, SqT.of e1⟩, fun D hD => lc_tup (K := K) (a := p) (xs := [.ref l, .ref r]) (fun i H' => Same H H' ∧ H' D = some (.lst (List.replicate i (.bl true)))) ⟨same_new hD, upd_same⟩ (fun _ _ _ z => SqT.of (z.1 _ _ e1)) ?_ ?_⟩
    · rintro i x H1 hi ⟨sm, hl⟩
      have key : ∃ (a : Addr) (t : Nat) (s : Bool) (d : Int), x = .ref a ∧ WayR H a t s d ∧ t < n ∧ i < 2 := by
        match i, hi with
        | 0, hi => exact ⟨l, _, _, _, (Option.some.inj hi).symm, e2, ht _, by omega⟩
        | 1, hi => exact ⟨r, _, _, _, (Option.some.inj hi).symm, e3, ht _, by omega⟩
        | i + 2, hi => simp at hi
      obtain ⟨a, t, sx, d, rfl, hw, htn, hi2⟩ := key
      refine ⟨rfl, _, rfl, _, rfl, a, n, t, sx, d, rfl, hw.same sm, htn, _, hl, ?_, ?_⟩
      · rw [List.length_replicate]
        exact Nat.lt_of_le_of_lt (show i ≤ 1000 by omega) (by decide)
      · rw [rep_snoc]
        exact ⟨same_mut sm hD, upd_same⟩
    · rintro H1 ⟨sm, hl⟩
      refine ⟨D, List.replicate 2 true, rfl, SqL.of (by rw [List.map_replicate]; exact hl), ?_⟩
      rw [allTrue]
      exact q _ sm
end
end LH

namespace LHR
open PySem PySem.Spec PyProof.Rows L2
/-! ### xs == [], xs != [] -/
def rEq0 (K : PySem.W.Frag) : R2 := fun x y H Q => ∃ a b xs, x = .ref a ∧ y = .ref b ∧ SqL K H a xs ∧ SqL K H b [] ∧ Q (.bl xs.isEmpty) H
def rNe0 (K : PySem.W.Frag) : R2 := fun x y H Q => ∃ a b xs, x = .ref a ∧ y = .ref b ∧ SqL K H a xs ∧ SqL K H b [] ∧ Q (.bl (!xs.isEmpty)) H
section
variable {X : Cx}
theorem op_eq0 (hu : X.A.units < cLine) : OpR X (compareOp .Eq) (rEq0 X.K) := by
  intro pins s σ H x y v u Q I rx ry h
  obtain ⟨a, b, xs, rfl, rfl, hx, hy, q⟩ := h
  cases rx
  cases ry
  obtain ⟨its, r1, p1, _⟩ := I.list hx
  obtain ⟨js, r2, p2, _⟩ := I.list hy
  cases r2
  cases xs with
  | nil =>
    cases r1
    exact SeqAt.eq_listAt (e := fun _ => true) p1.isList p2.isList rfl hu (fun j h1 _ => absurd h1 (Nat.not_lt_zero _)) ⟨.bl true, H, I, rfl, q⟩
  | cons z zs =>
    cases r1
    exact SeqAt.eq_list_lengthsAt p1.isList p2.isList (by simp) hu ⟨.bl false, H, I, rfl, q⟩
theorem op_ne0 (hu : X.A.units < cLine) : OpR X (compareOp .NotEq) (rNe0 X.K) := by
  intro pins s σ H x y v u Q I rx ry h
  obtain ⟨a, b, xs, rfl, rfl, hx, hy, q⟩ := h
  cases rx
  cases ry
  obtain ⟨its, r1, p1, _⟩ := I.list hx
  obtain ⟨js, r2, p2, _⟩ := I.list hy
  cases r2
  cases xs with
  | nil =>
    cases r1
    exact SeqAt.RcNeAt.lists (e := fun _ => true) p1.isList p2.isList rfl hu (fun j h1 _ => absurd h1 (Nat.not_lt_zero _)) _ _ _ _ ⟨.bl false, H, I, rfl, q⟩
  | cons z zs =>
    cases r1
    exact SeqAt.RcNeAt.lists_lengths p1.isList p2.isList (by simp) hu _ _ _ _ ⟨.bl true, H, I, rfl, q⟩
/-! ### xs.count(t), data -/
def rCntD (K : PySem.W.Frag) : V → List V → Hp → VK → Prop := fun x xs H Q => ∃ (a : Addr) (y : V) (d : PyData) (ds : List PyData), x = .ref a ∧ xs = [y] ∧ Dp K H (.ref a) (.list ds) ∧ Dp K H y d ∧
  SeqAt.shaped (.list ds) = true ∧ SeqAt.shaped d = true ∧ Q (.int (ds.countP fun z => PyData.eqv z d)) H
theorem mt_countD (hu : X.A.units + 65 < cLine) : MtR X "list.count" (rCntD X.K) := by
  intro pins s σ H x xs v us Q I rx rxs h
  obtain ⟨a, y, d, ds, rfl, rfl, hl, hy, sl, sd, q⟩ := h
  cases rx
  obtain ⟨uy, rfl, ry⟩ := rxs.one
  obtain ⟨bs, r1⟩ := Dp.reads I d y uy hy ry
  have hxs : PyData.canLayAll0 ds = true := SeqAt.canLay_of_shaped sl
  have hroom : X.A.units + 1 + min (PyData.depthAll ds) d.depth < cLine := room_in_shaped sd hu
  cases hl with
  | lst hs ha =>
    obtain ⟨its, rv, ⟨⟨cls, dd, data, sls⟩, n, ho, hc, hdn, hdt⟩, hlen⟩ := I.list hs
    simp only at hc hdt
    subst hc hdt
    obtain ⟨as, h4⟩ := Dp.readsAll I ds _ its ha rv
    have hmap : its.map (SeqAt.readOf s.heap) = ds := SeqAt.readsAll_map ds its as hxs h4
    refine call_meets PySem.F.slot_list_count ⟨_, ho, rfl⟩ PySem.F.entry_list_count (PySem.F.args_list_count_2 _ _)
      (SeqAt.list_countAt a its.toArray n dd sls uy (fun u => PyData.eqv (SeqAt.readOf s.heap u) d))
      ⟨ho, SeqAt.items_eqAt (vs := its.toArray) (show ReadsAll s.heap its.toArray.toList ds as from h4) r1 hxs (SeqAt.canLay_of_shaped sd) hroom, ?_⟩
    refine ⟨.int (ds.countP fun z => PyData.eqv z d : Nat), H, I.tok _, ⟨s.toks, ?_⟩, q⟩
    rw [← hmap, List.countP_map]
    rfl
end
/-! ### enumerate of a tuple -/
/-- the tuple at a, each item in a new pair -/
def IteT (K : PySem.W.Frag) (a : Addr) : It :=
  ⟨fun i H => ∃ (xs : List V) (x : V), SqT K H a xs ∧ xs[i]? = some x, fun i H v H' => ∃ T x, v = .ref T ∧ H T = none ∧ H' = upd H T (.tup [.int (i : Nat), x]) ∧ ∀ xs, SqT K H a xs → xs[i]? = some x, fun i H => ∃ xs : List V, SqT K H a xs ∧ xs.length = i⟩
theorem turn_enumT {P : Program} {w : World} {K : PySem.W.Frag} {elts : List Expr} {kk : Nat} {tpos : Pos} (a e it : Addr) (hai : a ≠ it) (hae : a ≠ e) (hei : e ≠ it) :
    Turn P w K (.Tuple elts kk tpos) (IteT K a) [e, it] e (fun i h => (∃ old, IsEnum h e it ((i : Nat) : Int) old) ∧ h.IsTupleIter it a i) where
  mem := by simp
  obj := fun i h st b hb => by
    obtain ⟨⟨old, he⟩, o, ho, hc, hd⟩ := st
    have e' : b = e ∨ b = it := by simpa using hb
    rcases e' with z | z
    · rw [z]; exact ⟨_, he, fun v q => nomatch q⟩
    · rw [z]; exact ⟨o, ho, fun v q => by rw [hd] at q; cases q⟩
  keep := fun i h h' st k => let ⟨⟨old, he⟩, hi⟩ := st; ⟨⟨old, k e (by simp) _ he⟩, hi.at fun o q => k it (by simp) o q⟩
  item := by
    intro X hP hw hK hc i pins s σ H E I hf st hg
    subst hP hw hK
    obtain ⟨⟨old, he⟩, hit⟩ := st
    obtain ⟨xs, x, hq, hx⟩ := hg
    obtain ⟨its, rv, p, hz⟩ := I.tuple hq
    obtain ⟨u, hu, ru⟩ := rv.get hx
    have hel : e < s.heap.objs.size := Heap.lt_size he
    have hil : it < s.heap.objs.size := by obtain ⟨_, q, _⟩ := hit; exact Heap.lt_size q
    have hlt : i < its.toArray.size := by
      have := (List.getElem?_eq_some_iff.mp hu).1
      simpa using this
    have D := Draws.tuple (prog := X.prog) (w := X.w) (A := X.A.in1) (show X.A.in1.handled = none from I.ok.hd hc) it a hai its.toArray
    refine wpAny_pyNext_enum_itemC D he ⟨hit, p⟩ hlt hei (by simp [hei, Ne.symm hae]) fun x' h' tk hx' ho st' hT hsz hk => ?_
    have ex : x' = u := by
      have h2 : its.toArray[i]? = some u := by simpa using hu
      exact Option.some.inj (hx'.symm.trans h2)
    subst ex
    refine ⟨_, rfl, wpAny_letOwnedTupleGo_enum (s := { s with heap := h', toks := tk + 1 }) ho fun h'' he' sb => ?_⟩
    have hT2 : h''.get? s.heap.objs.size = some { cls := .type "tuple", data := .seq #[.int i tk, x'] } := (sb.2 _ (Nat.ne_of_gt hel)).trans hT
    have new : ObjOk X.prog X.w (upd H s.heap.objs.size (.tup [.int (i : Nat), x])) h'' s.heap.objs.size (.tup [.int (i : Nat), x]) :=
      ⟨by show 2 ≤ sizeLine; decide, [.int i tk, x'], .cons ⟨_, rfl⟩ (.cons ru .nil), ⟨_, hT2, rfl, _, rfl⟩⟩
    have I1 : Inv X pins σ (upd H s.heap.objs.size (.tup [.int (i : Nat), x])) { s with heap := h'', toks := tk + 1 } :=
      I.turnedNew (ch := [e, it]) (fun b ob hb q => (sb.2 b (fun z => hb (by simp [z]))).trans (hk b ob (fun z => hb (by simp [z])) (fun z => hb (by simp [z])) q)) hf (Nat.le_refl _) new
    refine ⟨.ref s.heap.objs.size, _, I1, rfl, ⟨_, x, rfl, I.hok.fresh (Nat.le_refl _), rfl, fun ys hy => by rw [I.tuple_inj hy hq]; exact hx⟩, ⟨⟨x', ?_⟩, st'.1.at fun o q => (sb.2 it (Ne.symm hei)).trans q⟩, fun b hb => ?_⟩
    · have e1 : ((i + 1 : Nat) : Int) = (i : Int) + 1 := by omega
      rw [e1]; exact he'
    · have hb' : b < s.heap.objs.size := by
        have e' : b = e ∨ b = it := by simpa using hb
        rcases e' with z | z
        · rw [z]; exact hel
        · rw [z]; exact hil
      rw [upd_ne (Nat.ne_of_lt hb')]
      exact (hf b hb).1
  done := by
    intro X hP hw hK hc i pins s σ H E I hf st hg
    subst hP hw hK
    obtain ⟨⟨old, he⟩, hit⟩ := st
    obtain ⟨xs, hq, hx⟩ := hg
    obtain ⟨its, rv, p, hz⟩ := I.tuple hq
    obtain ⟨f0, f1, f2, f3, f4, f5⟩ := hf it (by simp)
    have hl := rv.length
    have D := Draws.tuple (prog := X.prog) (w := X.w) (A := X.A.in1) (show X.A.in1.handled = none from I.ok.hd hc) it a hai its.toArray
    have hit' : s.heap.IsTupleIter it a its.toArray.size := by
      have e : its.toArray.size = i := by simp; omega
      rw [e]; exact hit
    exact wpAny_pyNext_enum_endD D he ⟨hit', p⟩ fun h' eb => ⟨rfl, I.turned (t' := s.toks) (fun b o hb q => eb b o hb q) f0 f1 f3 f4 f5⟩
  self := fun A i s Q E st h => let ⟨⟨_, he⟩, _⟩ := st; wpAny_pyIter_enum he h
set_option maxHeartbeats 1000000 in
theorem meets_enumT {v : Value} {o : Obj} {H : Heap → Prop} (B : Begins v o H) :
    Meets (Builtin.«enumerate.__new__» ⟨[.type "enumerate", v], []⟩) (fun _ R s => H s.heap ∧
      R (.ok (.ret (.ref (s.heap.push o).objs.size))) { s with heap := (s.heap.push o).push { cls := .type "enumerate", data := .fields #[.none, .bool false, .ref s.heap.objs.size, rawInt 0, .none, .none] } }) :=
  .of_wp fun prog w A R s h => by
    obtain ⟨hp, g, d, tk, os⟩ := s; obtain ⟨h1, h⟩ := h
    have hsub := sub_enumerate
    have q1 : ∀ {A' : Around} {E : Value → Shared → Prop} {Q : Value → Shared → Prop}, Q (.ref hp.objs.size) ⟨hp.push o, g, d, tk, os⟩ → wpAny (model prog w) A' (pyIter v) Q E ⟨hp, g, d, tk, os⟩ :=
      fun q => B.iter prog w _ _ ⟨hp, g, d, tk, os⟩ _ h1 q
    wp_walk using q1
    refine wpAny_stack_any fun st => wpAny_pure ?_
    split
    · rename_i c _ _ _ _ _
      cases (c == Value.type "enumerate")
      all_goals (wp_walk using q1; exact ⟨_, rfl, h⟩)
    · wp_walk using q1
      exact ⟨_, rfl, h⟩
theorem call_enumT {prog : Program} {w : World} {A : Around} {E : Value → Shared → Prop} {s : Shared} {a : Addr} {items : Array Value} {Q : Value → Shared → Prop} (h1 : s.heap.IsTuple a items)
    (h : ∀ h', IsEnum h' (s.heap.objs.size + 1) s.heap.objs.size 0 .none → h'.IsTupleIter s.heap.objs.size a 0 → h'.objs.size = s.heap.objs.size + 2 →
      (∀ b o, s.heap.get? b = some o → h'.get? b = some o) → Q (.ref (s.heap.objs.size + 1)) { s with heap := h' }) :
    wpAny (model prog w) A (call (.type "enumerate") [.ref a]) Q E s := by
  have B := begins_tuple a items
  refine callType_new F.called_enumerate (by decide) (F.typeCall_enumerate_1 _) (F.newCall_enumerate_1 _) (fun obj => F.args_object_init_2 obj _) F.entry_enumerate_new (meets_enumT B) ⟨h1, ?_⟩
  generalize ho : ({ cls := .type "tuple_iterator", data := .fields #[.ref a, .int 0 0] } : Obj) = o at *
  have hz : (s.heap.push o).objs.size = s.heap.objs.size + 1 := Heap.size_push ..
  show _ ∧ _
  rw [hz]
  have he : IsEnum ((s.heap.push o).push { cls := .type "enumerate", data := .fields #[.none, .bool false, .ref s.heap.objs.size, rawInt 0, .none, .none] }) (s.heap.objs.size + 1) s.heap.objs.size 0 .none := by
    have q := Heap.get?_push_size (s.heap.push o) (o := { cls := .type "enumerate", data := .fields #[.none, .bool false, .ref s.heap.objs.size, rawInt 0, .none, .none] }) rfl
    rw [hz] at q; exact q
  refine ⟨⟨_, he, rfl⟩, h _ he ⟨o, Heap.get?_push_of_some _ (Heap.get?_push_size _ B.free), by rw [← ho], by rw [← ho]; rfl⟩ (by rw [Heap.size_push, hz]) fun b o x => Heap.get?_push_of_some _ (Heap.get?_push_of_some _ x)⟩
def iEnumT (K : PySem.W.Frag) (ta : TA) : TI := fun σ H R => ta σ H fun vs H1 => ∃ a xs, vs = [.ref a] ∧ SqT K H1 a xs ∧ R (IteT K a) H1
theorem pi_enumT {X : Cx} {e : Expr} {ta : TA} {p pos tpos : Pos} {elts : List Expr} {kk : Nat} (hg : Gl X "enumerate") (hm : X.mg "enumerate" = none) (ha : PA X [e] ta) (hs : starEach [e] X.env = [(false, eval e X.env)] := by rfl) :
    PI X (.Tuple elts kk tpos) (.Call (.Name "enumerate" p) [e] [] pos) (iEnumT X.K ta) := by
  refine ⟨fun pins s σ H R I h => ?_⟩
  refine Call_ (ld_blt I hg hm boot_enumerate (PyProof.Rows.callWith_type1 (thn (ha.run pos pins s σ H _ I h) fun us s1 ⟨vs, H1, I1, r1, q1⟩ => ?_) hs rfl))
  obtain ⟨a, xs, ex, hq, q⟩ := q1
  subst ex
  cases r1 with
  | cons r rr =>
    cases rr
    cases r
    obtain ⟨its, rv, p', hz⟩ := I1.tuple hq
    have hal : a < s1.heap.objs.size := by obtain ⟨o, ho, _⟩ := id p'; exact Heap.lt_size ho
    refine call_enumT p' fun h' he hit hsz hk => wpAny_pyIter_enum he ?_
    have I2 : Inv X pins σ H1 { s1 with heap := h' } := I1.kept (t' := s1.toks) hk
    refine ⟨s1.heap.objs.size + 1, [s1.heap.objs.size + 1, s1.heap.objs.size], _, _, H1, rfl, I2, turn_enumT a (s1.heap.objs.size + 1) s1.heap.objs.size (Nat.ne_of_lt hal) (Nat.ne_of_lt (Nat.lt_succ_of_lt hal)) (Nat.succ_ne_self _), ⟨⟨.none, he⟩, hit⟩, fun b hb => ?_, q⟩
    have e' : b = s1.heap.objs.size + 1 ∨ b = s1.heap.objs.size := by simpa using hb
    have hle : s1.heap.objs.size ≤ b := by
      rcases e' with z | z
      · rw [z]; exact Nat.le_add_right _ _
      · rw [z]; exact Nat.le_refl _
    exact I1.fpOk hle (I1.hok.fresh hle)
/-- the walk's word -/
theorem walk_enumT {K : PySem.W.Frag} {a : Addr} {xs : List V} : Walk (IteT K a) xs.length (fun H => SqT K H a xs) (YPair (fun i => some (.int (i : Nat))) (fun i => xs[i]?)) := by
  refine ⟨fun i _ hi q => ⟨xs, xs[i], q, by simp [hi]⟩, fun _ q => ⟨xs, q, rfl⟩, fun i H v H' _ q y => ?_⟩
  obtain ⟨T, x, h1, h2, h3, h4⟩ := y
  exact ⟨T, .int (i : Nat), x, h1, h2, h3, rfl, h4 xs q⟩
theorem walk_zipT {K : PySem.W.Frag} {a b : Addr} {xs ys : List V} (hl : xs.length = ys.length) : Walk (RZ.ItzT K a b) xs.length (fun H => SqT K H a xs ∧ SqT K H b ys) (YPair (fun i => xs[i]?) (fun i => ys[i]?)) := by
  refine ⟨fun i _ hi q => ?_, fun _ q => ⟨xs, ys, q.1, q.2, .inl (Nat.le_refl _)⟩, fun i H v H' _ q y => ?_⟩
  · have h2 : i < ys.length := by omega
    exact ⟨xs, ys, xs[i], ys[i], q.1, q.2, by simp [hi], by simp [h2]⟩
  · obtain ⟨T, x, z, h1, h2, h3, h4, h5⟩ := y
    exact ⟨T, x, z, h1, h2, h3, h4 xs q.1, h5 ys q.2⟩
/-- a dict comprehension over a walk -/
theorem dc_it {J : It} {n : Nat} {G : Hp → Prop} {Y : Nat → Hp → V → Hp → Prop} (w : Walk J n G Y) {g : TG} {tt : TT} {tk tv : TE} {vs : List Nat} {σ : L2.St} {H1 : Hp} {D : Addr} {Qd : Hp → Prop} (Pv : Nat → Hp → Prop) (h0 : Pv 0 (upd H1 D (.dK []))) (hG : ∀ i H, i ≤ n → Pv i H → G H)
    (hs : ∀ i x H H', i < n → Pv i H → Y i H x H' → g x (wipe σ vs) H' fun σ2 H2 => wipe σ2 vs = wipe σ vs ∧ tt σ2 H2 fun b H3 =>
      if b = true then tk σ2 H3 fun y H4 => tv σ2 H4 fun z H5 => ∃ kvs k, y = kV k ∧ H5 D = some (.dK kvs) ∧ kvs.length < sizeLine ∧ Pv (i + 1) (upd H5 D (.dK (putK kvs k z))) else Pv (i + 1) H3) (hd : ∀ H, Pv n H → Qd H) :
    ∃ W : Nat → Nat → Hp → Prop, (∃ m, W 0 m (upd H1 D (.dK []))) ∧ ∀ i m H, W i m H →
      (J.stop i H ∧ Qd H) ∨ (J.go i H ∧ ∃ Nx : Hp → Prop, (∀ H', Nx H' → ∃ m', m' < m ∧ W (i + 1) m' H') ∧ ∀ x H', J.yld i H x H' → g x (wipe σ vs) H' fun σ2 H2 => wipe σ2 vs = wipe σ vs ∧ tt σ2 H2 fun b H3 =>
        if b = true then tk σ2 H3 fun y H4 => tv σ2 H4 fun z H5 => ∃ kvs k, y = kV k ∧ H5 D = some (.dK kvs) ∧ kvs.length < sizeLine ∧ Nx (upd H5 D (.dK (putK kvs k z))) else Nx H3) := by
  refine ⟨fun i m H => m = n - i ∧ i ≤ n ∧ Pv i H, ⟨n, by simp, Nat.zero_le _, h0⟩, fun i m H hW => ?_⟩
  obtain ⟨rfl, hi, p⟩ := hW
  have q := hG i H hi p
  by_cases hlt : i < n
  · exact .inr ⟨w.goes i H hlt q, Pv (i + 1), fun H' p' => ⟨n - (i + 1), by omega, rfl, hlt, p'⟩, fun x H' y => hs i x H H' hlt p (w.yields i H x H' hlt q y)⟩
  · have e : i = n := by omega
    subst e
    exact .inl ⟨w.stops H q, hd H p⟩
/-- a loop of turns without slots -/
theorem it_walk {J : It} {n : Nat} {G : Hp → Prop} {Y : Nat → Hp → V → Hp → Prop} (w : Walk J n G Y) {BODY : V → Hp → (Hp → Prop) → Prop} {H0 : Hp} {Fin : Hp → Prop} (Pv : Nat → Hp → Prop) (h0 : Pv 0 H0) (hG : ∀ i H, i ≤ n → Pv i H → G H)
    (hs : ∀ i x H H', i < n → Pv i H → Y i H x H' → BODY x H' (Pv (i + 1))) (hd : ∀ H, Pv n H → Fin H) :
    ∃ W : Nat → Nat → Hp → Prop, (∃ m, W 0 m H0) ∧ ∀ i m H, W i m H → (J.stop i H ∧ Fin H) ∨ (J.go i H ∧ ∃ Nx : Hp → Prop, (∀ H', Nx H' → ∃ m', m' < m ∧ W (i + 1) m' H') ∧ ∀ x H', J.yld i H x H' → BODY x H' Nx) := by
  refine ⟨fun i m H => m = n - i ∧ i ≤ n ∧ Pv i H, ⟨n, by simp, Nat.zero_le _, h0⟩, fun i m H hW => ?_⟩
  obtain ⟨rfl, hi, p⟩ := hW
  have q := hG i H hi p
  by_cases hlt : i < n
  · exact .inr ⟨w.goes i H hlt q, Pv (i + 1), fun H' p' => ⟨n - (i + 1), by omega, rfl, hlt, p'⟩, fun x H' y => hs i x H H' hlt p (w.yields i H x H' hlt q y)⟩
  · have e : i = n := by omega
    subst e
    exact .inl ⟨w.stops H q, hd H p⟩
/-- the same rules with K told (within a comprehension) -/
theorem ixT {X : Cx} (K : PySem.W.Frag) (h : X.K = K := by rfl) : IxR X (rIxT K) := by subst h; exact ix_tup
theorem ixL {X : Cx} (K : PySem.W.Frag) (h : X.K = K := by rfl) : IxR X (rIxL K) := by subst h; exact ix_list
/-! ### slots forgotten -/
theorem wipe_at {σ : L2.St} {j : Nat} : ∀ {vs : List Nat}, j ∈ vs → (wipe σ vs)[j]? = if j < σ.length then some none else none
  | [], h => by simp at h
  | v :: vs, h => by
    show ((wipe σ vs).set v none)[j]? = _
    by_cases e : v = j
    · subst e
      by_cases hl : v < σ.length
      · rw [List.getElem?_set_self (by rw [wipe_length]; exact hl), if_pos hl]
      · rw [if_neg hl]
        exact List.getElem?_eq_none (by rw [List.length_set, wipe_length]; omega)
    · rw [List.getElem?_set_ne e]
      rcases List.mem_cons.mp h with z | z
      · exact absurd z.symm e
      · exact wipe_at z
theorem wipe_set {σ : L2.St} {i : Nat} {x : Option V} {vs : List Nat} (h : i ∈ vs) : wipe (σ.set i x) vs = wipe σ vs := by
  refine List.ext_getElem? fun j => ?_
  by_cases hj : j ∈ vs
  · rw [wipe_at hj, wipe_at hj, List.length_set]
  · rw [wipe_out hj, wipe_out hj, List.getElem?_set_ne (fun z : i = j => hj (by rw [← z]; exact h))]
theorem wipe_wipe {σ : L2.St} {vs : List Nat} : wipe (wipe σ vs) vs = wipe σ vs := by
  refine List.ext_getElem? fun j => ?_
  by_cases hj : j ∈ vs
  · rw [wipe_at hj, wipe_at hj, wipe_length]
  · rw [wipe_out hj, wipe_out hj]
theorem wipe5 {σ : L2.St} {vs : List Nat} {a b c d e : Nat} {x1 x2 x3 x4 x5 : Option V} (h : a ∈ vs ∧ b ∈ vs ∧ c ∈ vs ∧ d ∈ vs ∧ e ∈ vs) : wipe ((((((wipe σ vs).set a x1).set b x2).set c x3).set d x4).set e x5) vs = wipe σ vs := by
  rw [wipe_set h.2.2.2.2, wipe_set h.2.2.2.1, wipe_set h.2.2.1, wipe_set h.2.1, wipe_set h.1, wipe_wipe]
/-- a list comprehension over a walk, its slots told -/
theorem lc_walk {J : It} {n : Nat} {G : Hp → Prop} {Y : Nat → Hp → V → Hp → Prop} (w : Walk J n G Y) {g : TG} {tt : TT} {te : TE} {vs : List Nat} {σ : L2.St} {H1 : Hp} {D : Addr} {Qd : Hp → Prop} (σw : L2.St) (hσ : wipe σ vs = σw) (Pv : Nat → Hp → Prop) (h0 : Pv 0 (upd H1 D (.lst []))) (hG : ∀ i H, i ≤ n → Pv i H → G H)
    (hs : ∀ i x H H', i < n → Pv i H → Y i H x H' → g x σw H' fun σ2 H2 => wipe σ2 vs = σw ∧ tt σ2 H2 fun b H3 =>
      if b = true then te σ2 H3 fun y H4 => ∃ acc, H4 D = some (.lst acc) ∧ acc.length < sizeLine ∧ Pv (i + 1) (upd H4 D (.lst (acc ++ [y]))) else Pv (i + 1) H3) (hd : ∀ H, Pv n H → Qd H) :
    ∃ W : Nat → Nat → Hp → Prop, (∃ m, W 0 m (upd H1 D (.lst []))) ∧ ∀ i m H, W i m H →
      (J.stop i H ∧ Qd H) ∨ (J.go i H ∧ ∃ Nx : Hp → Prop, (∀ H', Nx H' → ∃ m', m' < m ∧ W (i + 1) m' H') ∧ ∀ x H', J.yld i H x H' → g x (wipe σ vs) H' fun σ2 H2 => wipe σ2 vs = wipe σ vs ∧ tt σ2 H2 fun b H3 =>
        if b = true then te σ2 H3 fun y H4 => ∃ acc, H4 D = some (.lst acc) ∧ acc.length < sizeLine ∧ Nx (upd H4 D (.lst (acc ++ [y]))) else Nx H3) := by
  subst hσ
  exact lc_it w Pv h0 hG hs hd
end LHR

namespace LH
open PySem PySem.Spec PyProof.Rows L2 LHM LHR
/-! ### sides as data -/
def sdD (z : Nat × Bool) : PyData := .tuple [.int (z.1 : Nat), .str (if z.2 then "r" else "l")]
theorem sdD_lay (z : Nat × Bool) : (sdD z).canLay0 = true := by
  obtain ⟨a, b⟩ := z
  cases b <;> simp [sdD, PyData.canLay0, PyData.canLayAll0] <;> decide +kernel
theorem sdD_depth (z : Nat × Bool) : (sdD z).depth = 1 := by simp [sdD, PyData.depth, PyData.depthAll]
theorem sdDs_lay : ∀ zs : List (Nat × Bool), PyData.canLayAll0 (zs.map sdD) = true
  | [] => by simp [PyData.canLayAll0]
  | z :: zs => by simp [PyData.canLayAll0, sdD_lay z, sdDs_lay zs]
theorem sdDs_depth : ∀ zs : List (Nat × Bool), PyData.depthAll (zs.map sdD) ≤ 1
  | [] => by simp [PyData.depthAll]
  | z :: zs => by
    have h1 := sdDs_depth zs
    have h2 := sdD_depth z
    simp only [List.map_cons, PyData.depthAll]
    omega
theorem sdD_shaped (z : Nat × Bool) : SeqAt.shaped (sdD z) = true := by
  show ((sdD z).canLay0 && decide ((sdD z).depth ≤ 64)) = true
  rw [sdD_lay, sdD_depth]
  rfl
theorem sdDs_shaped (zs : List (Nat × Bool)) : SeqAt.shaped (.list (zs.map sdD)) = true := by
  have h1 := sdDs_depth zs
  have h2 : PyData.depth (.list (zs.map sdD)) ≤ 64 := by
    simp only [PyData.depth]
    omega
  show (PyData.canLay0 (.list (zs.map sdD)) && decide (PyData.depth (.list (zs.map sdD)) ≤ 64)) = true
  rw [show PyData.canLay0 (.list (zs.map sdD)) = true by simp only [PyData.canLay0]; exact sdDs_lay zs, decide_eq_true h2]
  rfl
theorem sdD_eqv (z y : Nat × Bool) : PyData.eqv (sdD z) (sdD y) = (z == y) := by
  obtain ⟨a, b⟩ := z
  obtain ⟨c, d⟩ := y
  have e1 : (((a : Nat) : Int) == ((c : Nat) : Int)) = (a == c) := by
    by_cases h : a = c
    · subst h; simp
    · rw [beq_eq_false_iff_ne.mpr h]
      exact beq_eq_false_iff_ne.mpr (by omega)
  have e2 : (((if b then "r" else "l" : Str)) == ((if d then "r" else "l" : Str))) = (b == d) := by
    cases b <;> cases d <;> decide +kernel
  show (((a : Nat) : Int) == ((c : Nat) : Int) && ((if b then "r" else "l" : Str) == (if d then "r" else "l" : Str) && true)) = ((a, b) == (c, d))
  rw [e1, e2, Bool.and_true]
  rfl
theorem dp_side {K : PySem.W.Frag} {H : Hp} {p : Addr} {z : Nat × Bool} (h : SideR H p z) : Dp K H (.ref p) (sdD z) :=
  .tup (SqT.of h) (.cons (.int _) (.cons (.str _) .nil))
theorem dp_sides {K : PySem.W.Frag} {H : Hp} : ∀ {zs : List (Nat × Bool)} {es : List V}, SidesR H es zs → DpAll K H es (zs.map sdD)
  | [], [], _ => .nil
  | [], e :: es, h => by have := h.1; simp at this
  | z :: zs, [], h => by have := h.1; simp at this
  | z :: zs, e :: es, h => by
    obtain ⟨p, a, b⟩ := h.2 0 z rfl
    have a : e = .ref p := Option.some.inj a
    subst a
    refine .cons (dp_side b) (dp_sides ⟨by have := h.1; simpa using this, fun i y hi => ?_⟩)
    obtain ⟨p', c, d⟩ := h.2 (i + 1) y (by simpa using hi)
    exact ⟨p', by simpa using c, d⟩
structure Tp.Good (T : Tp) : Prop where
  n1 : 1 ≤ T.n
  n24 : T.n ≤ 24
  wk : ∀ z ∈ T.works, GoodWork z
  inn : T.In
  once : T.Once
section
variable {P : Program} {w : World} {K : PySem.W.Frag} {mg : Str → Option Value} {base : Heap}
theorem u65 {k : Nat} {A : Around} (r : Room k A) : A.units + 65 < cLine := by
  have := r.un
  omega
theorem sides_get {T : Tp} {k : Nat} (h : k < 2 * T.n) : (sides T)[k]? = some (T.to (k / 2) (hd k), T.sd (k / 2) (hd k)) := by
  unfold sides
  rw [List.getElem?_map, List.getElem?_range h]
  rfl
theorem sides_len (T : Tp) : (sides T).length = 2 * T.n := by unfold sides; simp
theorem take_snoc {α : Type} {l : List α} {k : Nat} {x : α} (h : l[k]? = some x) : l.take (k + 1) = l.take k ++ [x] := by
  rw [List.take_add_one, h]
  rfl
theorem hd0 (i : Nat) : hd (2 * i) = false := by unfold hd; exact decide_eq_false (by omega)
theorem hd1 (i : Nat) : hd (2 * i + 1) = true := by unfold hd; exact decide_eq_true (by omega)
theorem lt_line {n : Nat} (h : n ≤ 1000) : n < sizeLine := small1000 h
/-- a new tuple, its ref at the end of the list at D -/
theorem new_at {H3 : Hp} {D u : Addr} {es : List V} {o : HO} (eD : H3 D = some (.lst es)) (hu : H3 u = none) : D ≠ u ∧ upd H3 u o D = some (.lst es) :=
  ⟨ne_of_none eD hu, by rw [upd_ne (ne_of_none eD hu)]; exact eD⟩
theorem new_ts {H3 : Hp} {D u : Addr} {es ys : List V} {o : HO} (eD : H3 D = some (.lst es)) (hu : H3 u = none) : TupS H3 (upd (upd H3 u o) D (.lst ys)) :=
  ((TupS.refl H3).new hu).lst (new_at eD hu).2
theorem new_u {H3 : Hp} {D u : Addr} {es ys : List V} {o : HO} (eD : H3 D = some (.lst es)) (hu : H3 u = none) : upd (upd H3 u o) D (.lst ys) u = some o := by
  rw [upd_ne (Ne.symm (new_at (o := o) eD hu).1), upd_same]
/-! ### need_sides -/
def spSidesN : Sp := fun vs H Q _ => ∃ (c : Addr) (ws : List V) (T : Tp), vs = [.ref c] ∧ H c = some (.tup ws) ∧ PairsR H ws T ∧ T.Once ∧ T.n ≤ 24 ∧ ∀ H', Same H H' → Q .non H'
theorem scSidesN : FnScope ["ways", "reached", "number", "side", "pair", "way"] ["ways"] (defScope (topS 13)) := ⟨rfl, rfl, rfl, by decide +kernel, rfl, by decide +kernel, by decide +kernel⟩
theorem ok_needsides {hA f : Addr} {fd : FuncData} (F : FnD K "need_sides" 13 f fd) (G : Glb mg) (HD : Hands K mg hA) : FnOk P w K mg base CX0 1 f fd ["ways"] spSidesN := by
  refine F.ok scSidesN (fun vs H Q E h => ?_) (fun cdv A outer s H vs Q E hr h => ?_)
  · obtain ⟨c, ws, T, rfl, _⟩ := h
    rfl
  · obtain ⟨c, ws, T, rfl, hc, hw, ho, hn, q⟩ := h
    refine ⟨_, pss_cons (ps_setLc2 (i := 1) (own := [("pair", 4), ("way", 5)]) (vs1 := [5]) (g := gName 4) (g1 := gName 5) (tt := tYes) (tt1 := tYes) (wi1 := iTup K (tVar 4)) rfl scSidesN.nd rfl rfl (sw_true rfl rfl rfl (by decide +kernel)) (pi_tup (pv 0))
        (blkOk_by (N := ["ways", "reached", "number", "side", "pair", "way"]) (sc := defScope (topS 13)) (by decide +kernel)) (by decide)
        (fun _ _ _ _ _ => pg_name (i := 4) scSidesN.nd rfl (Or.inl rfl)) (fun _ _ _ _ _ => pts_nil) (fun _ _ _ _ _ => pi_tup (pv 4)) (fun _ _ _ _ _ => pg_name (i := 5) scSidesN.nd rfl (Or.inl rfl)) (fun _ _ _ _ _ => pts_nil)
        (fun _ _ _ _ _ => pe_tup (pa_cons (pe_ix (ixT K) (pv 5) pe_int (fun _ _ => rfl)) (pa_cons (pe_ix (ixT K) (pv 5) pe_int (fun _ _ => rfl)) pa_nil))))
      (pss_one (ps_for PassesOwn.never rfl (pi_range1 (by rfl) G.range (pa_cons (pe_callB call_len (by rfl) G.len PySem.boot_len (pa_cons (pv 0) pa_nil)) pa_nil)) (pg_name (i := 2) scSidesN.nd rfl (Or.inl rfl))
        (pss_one (ps_for PassesOwn.never rfl (pi_tup (pe_glob (v := .ref hA) (by rfl) HD.g rfl)) (pg_name (i := 3) scSidesN.nd rfl (Or.inl rfl))
          (pss_one (ps_if (pt_cmpR op_ne (pe_bm PySem.F.plainAttrs_list PySem.F.slot_list_count PySem.F.type_list_count (mt_countD (u65 hr)) (pv 1) (pa_cons (pe_tup (pa_cons (pv 2) (pa_cons (pv 3) pa_nil))) pa_nil)) pe_int (nomark _))
            (pss_one ps_never) pss_nil)))))), ?_⟩
    refine ⟨_, rfl, c, rfl, ⟨_, SqT.of hc⟩, fun D hD => it_walk (walk_tup (K := K) (a := c) (xs := ws)) (fun i H' => Same H H' ∧ ∃ es, H' D = some (.lst es) ∧ SidesR H' es ((sides T).take (2 * i))) ⟨same_new hD, [], upd_same, rfl, fun i z hz => by simp at hz⟩ (fun _ _ _ z => SqT.of (z.1 _ _ hc)) ?_ ?_⟩
    · rintro i x H1 H2 hi ⟨sm, es, eD, hs⟩ ⟨rfl, hx⟩
      have hin : i < T.n := by rw [← hw.1]; exact hi
      obtain ⟨p, ep, l, r, e1, e2, e3⟩ := hw.2 i hin
      have ex : x = .ref p := Option.some.inj (hx.symm.trans ep)
      subst ex
      refine ⟨rfl, _, rfl, p, rfl, ⟨_, SqT.of (sm _ _ e1)⟩, it_walk (walk_tup (K := K) (a := p) (xs := [.ref l, .ref r])) (fun j H' => Same H H' ∧ ∃ es, H' D = some (.lst es) ∧ SidesR H' es ((sides T).take (2 * i + j))) ⟨sm, es, eD, hs⟩ (fun _ _ _ z => SqT.of (z.1 _ _ e1)) ?_ ?_⟩
      · rintro j y H3 H4 hj ⟨sm3, es3, eD3, hs3⟩ ⟨rfl, hy⟩
        have key : ∃ a : Addr, y = .ref a ∧ WayR H a (T.to ((2 * i + j) / 2) (hd (2 * i + j))) (T.sd ((2 * i + j) / 2) (hd (2 * i + j))) (T.dn ((2 * i + j) / 2) (hd (2 * i + j))) ∧ j < 2 := by
          match j, hy with
          | 0, hy => exact ⟨l, (Option.some.inj hy).symm, by rw [Nat.add_zero, hd0, show 2 * i / 2 = i by omega]; exact e2, by omega⟩
          | 1, hy => exact ⟨r, (Option.some.inj hy).symm, by rw [hd1, show (2 * i + 1) / 2 = i by omega]; exact e3, by omega⟩
          | j + 2, hy => simp at hy
        obtain ⟨a, rfl, hwa, hj2⟩ := key
        have hwa3 := hwa.same sm3
        refine ⟨rfl, _, rfl, a, _, _, _, rfl, rfl, SqT.of hwa3, atI_nat (j := 0) rfl, _, rfl, a, _, _, _, rfl, rfl, SqT.of hwa3, atI_nat (j := 1) rfl, by show 2 ≤ sizeLine; decide, fun u hu => ⟨es3, (new_at eD3 hu).2, ?_, ?_⟩⟩
        · have := hs3.1
          rw [List.length_take] at this
          exact lt_line (by omega)
        · refine ⟨same_mut (sm3.trans (same_new hu)) hD, es3 ++ [.ref u], upd_same, ?_⟩
          rw [show 2 * i + (j + 1) = 2 * i + j + 1 by omega, take_snoc (sides_get (show 2 * i + j < 2 * T.n by omega))]
          exact (hs3.ts (new_ts eD3 hu)).snoc (new_u eD3 hu)
      · rintro H3 ⟨sm3, es3, eD3, hs3⟩
        exact ⟨sm3, es3, eD3, by rw [show 2 * (i + 1) = 2 * i + [V.ref l, V.ref r].length from rfl]; exact hs3⟩
    · rintro H1 ⟨sm, es, eD, hs⟩
      have hs : SidesR H1 es (sides T) := by
        rw [hw.1, List.take_of_length_le (by rw [sides_len]; omega)] at hs
        exact hs
      refine ⟨_, rfl, _, ws.length, rfl, .inr ⟨ws, SqT.of (sm _ _ hc), rfl⟩, _, rfl, ?_, ?_, for_it walk_range (fun i σ H' => ∃ y2 y3 y4 y5, σ = [some (.ref c), some (.ref D), y2, y3, y4, y5] ∧ Same H H' ∧ H' D = some (.lst es) ∧ SidesR H' es (sides T))
        ⟨_, _, _, _, rfl, sm, eD, hs⟩ (fun _ _ _ _ _ => trivial) ?_ ?_⟩
      · omega
      · have := hw.1
        omega
      · rintro i x σ1 H2 H3 hi ⟨y2, y3, y4, y5, rfl, sm2, eD2, hs2⟩ ⟨rfl, rfl⟩
        have hin : i < T.n := by
          have := hw.1
          have hi : i < ws.length := by simpa using hi
          omega
        refine ⟨_, rfl, ⟨_, HD.t _⟩, for_it (walk_tup (K := K) (a := hA) (xs := [.str "l", .str "r"])) (fun j σ H' => ∃ y3 y4 y5, σ = [some (.ref c), some (.ref D), some (.int (0 + (i : Nat))), y3, y4, y5] ∧ Same H H' ∧ H' D = some (.lst es) ∧ SidesR H' es (sides T))
          ⟨_, _, _, rfl, sm2, eD2, hs2⟩ (fun _ _ _ _ _ => HD.t _) ?_ ?_⟩
        · rintro j y σ2 H4 H5 hj ⟨z3, z4, z5, rfl, sm4, eD4, hs4⟩ ⟨rfl, hy⟩
          obtain ⟨b, rfl⟩ : ∃ b, y = sideV b := by
            match j, hy with
            | 0, hy => exact ⟨false, (Option.some.inj hy).symm⟩
            | 1, hy => exact ⟨true, (Option.some.inj hy).symm⟩
            | j + 2, hy => simp at hy
          refine ⟨_, rfl, .inl ⟨rfl, _, SqL.of eD4⟩, _, rfl, _, rfl, by show 2 ≤ sizeLine; decide, fun u hu => ?_⟩
          have hSu : SideR (upd H5 u (.tup [.int (0 + (i : Nat)), sideV b])) u (i, b) := by
            show upd H5 u _ u = _
            rw [upd_same, Int.zero_add]
          have hsU : SidesR (upd H5 u (.tup [.int (0 + (i : Nat)), sideV b])) es (sides T) := hs4.ts ((TupS.refl _).new hu)
          refine ⟨_, _, sdD (i, b), (sides T).map sdD, rfl, rfl, .lst (SqL.of (new_at eD4 hu).2) (dp_sides hsU), dp_side hSu, sdDs_shaped _, sdD_shaped _, ?_⟩
          have hcount : (((sides T).map sdD).countP fun z => PyData.eqv z (sdD (i, b))) = 1 := by
            rw [List.countP_map]
            have : (fun z => PyData.eqv z (sdD (i, b))) ∘ sdD = fun z => z == (i, b) := by
              funext z
              exact sdD_eqv z (i, b)
            rw [this]
            exact ho i b hin
          rw [hcount]
          exact ⟨rfl, false, rfl, iteF ⟨_, _, _, rfl, sm4.trans (same_new hu), (new_at eD4 hu).2, hsU⟩⟩
        · rintro σ2 H4 ⟨z3, z4, z5, rfl, sm4, eD4, hs4⟩
          exact ⟨_, _, _, _, rfl, sm4, eD4, hs4⟩
      · rintro σ1 H2 ⟨y2, y3, y4, y5, rfl, sm2, eD2, hs2⟩
        exact q _ sm2
/-! ### need_tape -/
def spTape : Sp := fun vs H Q _ => ∃ (v : V) (T : Tp), vs = [v] ∧ TapeR H v T ∧ T.Good ∧ ∀ H', Same H H' → Q v H'
theorem scTape : FnScope ["thing", "works", "ways", "number", "work", "pair", "part"] ["thing"] (defScope (topS 14)) := ⟨rfl, rfl, rfl, by decide +kernel, rfl, by decide +kernel, by decide +kernel⟩
theorem ok_needtape {f : Addr} {fd : FuncData} (F : FnD K "need_tape" 14 f fd) (G : Glb mg) (CW : Cal P w K mg base CX0 1 "is_work" ["thing"] (spWork K)) (CA : Cal P w K mg base CX0 3 "are_tape_ways" ["thing", "many"] (spWays K)) (CS : Cal P w K mg base CX0 1 "need_sides" ["ways"] spSidesN) : FnOk P w K mg base CX0 4 f fd ["thing"] spTape := by
  obtain ⟨tm, gm⟩ := G.mostS
  refine F.ok scTape (fun vs H Q E h => ?_) (fun cdv A outer s H vs Q E hr h => ?_)
  · obtain ⟨v, T, rfl, _⟩ := h
    rfl
  · obtain ⟨v, T, rfl, ⟨a, b, c, ws, rfl, ha, hb, hlen, hc, hw⟩, g, q⟩ := h
    have hr1 : Room 1 _ := hr.mono (by decide)
    refine ⟨_, pss_cons (ps_if (PW.pt (pw_or (pt_not (pt_val (pe_isi (by rfl) G (pv 0) (by rfl) G.tuple b_tuple)))
        (pw_or (pt_cmpR op_ne (pe_callB call_len (by rfl) G.len PySem.boot_len (pa_cons (pv 0) pa_nil)) pe_int (nomark _))
          (pw_or1 (pt_not (pt_val (pe_callB (cr_all rfl) (by rfl) G.all (by decide +kernel) (pa_cons
            (pe_lc (own := [("part", 6)]) (g := gName 6) (tt := tYes) rfl scTape.nd (pi_tup (pv 0)) (blkOk_by (N := ["thing", "works", "ways", "number", "work", "pair", "part"]) (sc := defScope (topS 14)) (by decide +kernel)) (fun _ _ _ _ _ => pg_name (i := 6) scTape.nd rfl (Or.inl rfl)) (fun _ _ _ _ _ => pts_nil)
              (fun _ _ _ _ _ => pe_isiK K (by rfl) G (pv 6) (by rfl) G.tuple b_tuple)) pa_nil)))))))) (pss_one ps_never) pss_nil)
      (pss_cons (ps_asg (pv 0) (pg_tup (by rfl) (pgs_cons (pg_name (i := 1) scTape.nd rfl (.inl rfl)) (pgs_cons (pg_name (i := 2) scTape.nd rfl (.inl rfl)) pgs_nil))))
      (pss_cons (ps_if (PW.pt (pw_or (pt_not (pt_chain op_le op_le pe_int (pe_callB call_len (by rfl) G.len PySem.boot_len (pa_cons (pv 1) pa_nil)) (pe_glob (v := .int 24) (by rfl) gm ⟨_, rfl⟩)))
          (pw_or1 (pt_cmpR op_ne (pe_callB call_len (by rfl) G.len PySem.boot_len (pa_cons (pv 2) pa_nil)) (pe_callB call_len (by rfl) G.len PySem.boot_len (pa_cons (pv 1) pa_nil)) (nomark _))))) (pss_one ps_never) pss_nil)
      (pss_cons (ps_for PassesOwn.never rfl (pi_enumT (by rfl) G.enumerate (pa_cons (pv 1) pa_nil)) (pg_tup rfl (pgs_cons (pg_name (i := 3) scTape.nd rfl (.inl rfl)) (pgs_cons (pg_name (i := 4) scTape.nd rfl (.inl rfl)) pgs_nil)))
        (pss_one (ps_if (pt_not (pt_val (pe_cal CW hr1 (by rfl) (E := E0) pass0 (pa_cons (pv 4) pa_nil)))) (pss_one ps_never) pss_nil)))
      (pss_cons (ps_for PassesOwn.never rfl (pi_enumT (by rfl) G.enumerate (pa_cons (pv 2) pa_nil)) (pg_tup rfl (pgs_cons (pg_name (i := 3) scTape.nd rfl (.inl rfl)) (pgs_cons (pg_name (i := 5) scTape.nd rfl (.inl rfl)) pgs_nil)))
        (pss_one (ps_if (pt_not (pt_val (pe_cal CA hr (by rfl) (E := E0) pass0 (pa_cons (pv 5) (pa_cons (pe_callB call_len (by rfl) G.len PySem.boot_len (pa_cons (pv 1) pa_nil)) pa_nil))))) (pss_one ps_never) pss_nil)))
      (pss_cons (ps_expr (pe_cal CS hr1 (by rfl) (E := E0) pass0 (pa_cons (pv 2) pa_nil)))
      (pss_one (ps_ret (pv 0)))))))), ?_⟩
    refine ⟨_, rfl, _, _, .base (.tup ha), k_tt, true, rfl, iteF ?_⟩
    refine ⟨_, rfl, _, 2, rfl, .inr ⟨_, SqT.of ha, rfl⟩, rfl, false, rfl, iteF ?_⟩
    refine ⟨_, rfl, a, rfl, ⟨_, SqT.of ha⟩, fun D hD => it_walk (walk_tup (K := K) (a := a) (xs := [.ref b, .ref c])) (fun i H' => Same H H' ∧ H' D = some (.lst (List.replicate i (.bl true)))) ⟨same_new hD, upd_same⟩ (fun _ _ _ z => SqT.of (z.1 _ _ ha)) ?_ ?_⟩
    · rintro i x H1 H2 hi ⟨sm, hl⟩ ⟨rfl, hx⟩
      obtain ⟨u, xs, rfl, hu, hi2⟩ : ∃ u xs, x = .ref u ∧ H u = some (.tup xs) ∧ i < 2 := by
        match i, hx with
        | 0, hx => exact ⟨b, _, (Option.some.inj hx).symm, hb, by omega⟩
        | 1, hx => exact ⟨c, _, (Option.some.inj hx).symm, hc, by omega⟩
        | i + 2, hx => simp at hx
      refine ⟨rfl, _, rfl, _, _, .base (.tup (sm _ _ hu)), k_tt, _, hl, ?_, ?_⟩
      · rw [List.length_replicate]
        exact lt_line (by omega)
      · rw [rep_snoc]
        exact ⟨same_mut sm hD, upd_same⟩
    · rintro H1 ⟨sm, hl⟩
      refine ⟨D, List.replicate 2 true, rfl, SqL.of (by rw [List.map_replicate]; exact hl), ?_⟩
      rw [allTrue]
      refine ⟨true, rfl, iteF ?_⟩
      refine ⟨_, rfl, a, _, rfl, SqT.of (sm _ _ ha), rfl, .ref b, [.ref c], rfl, .ref c, [], rfl, rfl, ?_⟩
      have hb1 := sm _ _ hb
      have hc1 := sm _ _ hc
      have g1 := g.n1
      have g2 := g.n24
      have hwl : ws.length = T.n := hw.1
      refine ⟨_, rfl, _, T.n, rfl, .inr ⟨_, SqT.of hb1, by rw [List.length_map, hlen]⟩, _, _, rfl, rfl, _, rfl, ?_⟩
      rw [decide_eq_true (show (1 : Int) ≤ (T.n : Nat) by omega)]
      refine iteT ⟨_, _, rfl, rfl, _, rfl, ?_⟩
      rw [decide_eq_true (show ((T.n : Nat) : Int) ≤ 24 by omega)]
      refine iteF ?_
      refine ⟨_, rfl, _, T.n, rfl, .inr ⟨_, SqT.of hc1, hwl.symm⟩, _, rfl, _, T.n, rfl, .inr ⟨_, SqT.of hb1, by rw [List.length_map, hlen]⟩, rfl, _, rfl, iteNS rfl ?_⟩
      -- the works
      refine ⟨_, rfl, b, _, rfl, SqT.of hb1, for_it (walk_enumT (K := K) (a := b) (xs := T.works.map V.str)) (fun i σ H' => ∃ y3 y4, σ = [some (.ref a), some (.ref b), some (.ref c), y3, y4, none, none] ∧ Same H H') ⟨_, _, rfl, sm⟩ (fun _ _ _ _ z => by
        obtain ⟨_, _, _, z⟩ := z
        exact SqT.of (z _ _ hb)) ?_ ?_⟩
      · rintro i x σ1 H2 H3 hi ⟨y3, y4, rfl, sm2⟩ ⟨u, x1, x2, rfl, hu, rfl, e1, e2⟩
        have e1 := Option.some.inj e1
        subst e1
        obtain ⟨z, hz, rfl⟩ : ∃ z, z ∈ T.works ∧ V.str z = x2 := List.mem_map.mp (List.mem_of_getElem? e2)
        refine ⟨u, _, rfl, SqT.of upd_same, rfl, _, _, rfl, _, _, rfl, rfl, ?_⟩
        exact ⟨_, rfl, z, rfl, g.wk z hz, fun H4 sm4 => ⟨true, rfl, iteF ⟨_, _, rfl, (sm2.trans (same_new hu)).trans sm4⟩⟩⟩
      · rintro σ1 H2 ⟨y3, y4, rfl, sm2⟩
        -- the ways
        refine ⟨_, rfl, c, _, rfl, SqT.of (sm2 _ _ hc), for_it (walk_enumT (K := K) (a := c) (xs := ws)) (fun i σ H' => ∃ y3 y5, σ = [some (.ref a), some (.ref b), some (.ref c), y3, y4, y5, none] ∧ Same H H') ⟨_, _, rfl, sm2⟩ (fun _ _ _ _ z => by
          obtain ⟨_, _, _, z⟩ := z
          exact SqT.of (z _ _ hc)) ?_ ?_⟩
        · rintro i x σ1 H3 H4 hi ⟨y3, y5, rfl, sm3⟩ ⟨u, x1, x2, rfl, hu, rfl, e1, e2⟩
          have e1 := Option.some.inj e1
          subst e1
          have hin : i < T.n := by rw [← hwl]; exact hi
          obtain ⟨p, ep, hp⟩ := hw.2 i hin
          have ex : x2 = .ref p := Option.some.inj (e2.symm.trans ep)
          subst ex
          have smu := sm3.trans (same_new (o := .tup [.int (i : Nat), .ref p]) hu)
          refine ⟨u, _, rfl, SqT.of upd_same, rfl, _, _, rfl, _, _, rfl, rfl, ?_⟩
          refine ⟨_, rfl, _, rfl, _, T.n, rfl, .inr ⟨_, SqT.of (smu _ _ hb), by rw [List.length_map, hlen]⟩, ?_⟩
          exact ⟨p, T.n, T.to i, T.sd i, T.dn i, rfl, hp.same smu, fun h => g.inn i h hin, fun H5 sm5 => ⟨true, rfl, iteF ⟨_, _, rfl, smu.trans sm5⟩⟩⟩
        · rintro σ1 H3 ⟨y3, y5, rfl, sm3⟩
          refine ⟨_, rfl, c, ws, T, rfl, sm3 _ _ hc, hw.same sm3, g.once, g2, fun H4 sm4 => ?_⟩
          exact ⟨_, rfl, q _ (sm3.trans sm4)⟩
end
end LH

namespace LH
open PySem PySem.Spec PyProof.Rows L2 LHM LHR
theorem EdgesR.snoc {H : Hp} {es : List V} {T : Tp} {m : Nat} {p : Addr} (h : EdgesR H es T m) (hp : EdgeR H p T m) : EdgesR H (es ++ [V.ref p]) T (m + 1) := by
  refine ⟨by simp [h.1], fun i hi => ?_⟩
  by_cases q : i < m
  · obtain ⟨p', a, b⟩ := h.2 i q
    exact ⟨p', by rw [List.getElem?_append_left (by rw [h.1]; exact q)]; exact a, b⟩
  · have e : i = m := by omega
    subst e
    exact ⟨p, by rw [List.getElem?_append_right (by rw [h.1]; omega), h.1, Nat.sub_self]; rfl, hp⟩
section
variable {P : Program} {w : World} {K : PySem.W.Frag} {mg : Str → Option Value} {base : Heap}
/-! ### tape_ways -/
def spEdges : Sp := fun vs H Q _ => ∃ (v : V) (T : Tp), vs = [v] ∧ TapeR H v T ∧ T.n ≤ 24 ∧ ∀ H' p es, Same H H' → H p = none → H' p = some (.lst es) → EdgesR H' es T (2 * T.n) → Q (.ref p) H'
theorem scEdges : FnScope ["tape", "found", "number", "pair", "hand", "to", "side", "down"] ["tape"] (defScope (topS 15)) := ⟨rfl, rfl, rfl, by decide +kernel, rfl, by decide +kernel, by decide +kernel⟩
theorem ok_edges {hA f : Addr} {fd : FuncData} (F : FnD K "tape_ways" 15 f fd) (G : Glb mg) (HD : Hands K mg hA) : FnOk P w K mg base CX0 1 f fd ["tape"] spEdges := by
  refine F.ok scEdges (fun vs H Q E h => ?_) (fun cdv A outer s H vs Q E hr h => ?_)
  · obtain ⟨v, T, rfl, _⟩ := h
    rfl
  · obtain ⟨v, T, rfl, ⟨a, b, c, ws, rfl, ha, hb, hlen, hc, hw⟩, hn, q⟩ := h
    refine ⟨_, pss_cons (ps_set (i := 1) scEdges.nd rfl (.inl rfl) (pe_lst pa_nil))
      (pss_cons (ps_for PassesOwn.never rfl (pi_enumT (by rfl) G.enumerate (pa_cons (pe_ix ix_tup (pv 0) pe_int (fun _ _ => rfl)) pa_nil)) (pg_tup rfl (pgs_cons (pg_name (i := 2) scEdges.nd rfl (.inl rfl)) (pgs_cons (pg_name (i := 3) scEdges.nd rfl (.inl rfl)) pgs_nil)))
        (pss_one (ps_for PassesOwn.never rfl (RZ.pi_zipA (by rfl) G.zip (pa_cons (pe_glob (v := .ref hA) (by rfl) HD.g rfl) (pa_cons (pv 3) pa_nil)))
            (pg_tup rfl (pgs_cons (pg_name (i := 4) scEdges.nd rfl (.inl rfl)) (pgs_cons (pg_tup rfl (pgs_cons (pg_name (i := 5) scEdges.nd rfl (.inl rfl)) (pgs_cons (pg_name (i := 6) scEdges.nd rfl (.inl rfl)) (pgs_cons (pg_name (i := 7) scEdges.nd rfl (.inl rfl)) pgs_nil)))) pgs_nil)))
          (pss_one (ps_expr (pe_bm PySem.F.plainAttrs_list PySem.F.slot_list_append PySem.F.type_list_append mt_append (pv 1) (pa_cons (pe_tup (pa_cons (pv 2) (pa_cons (pv 4) (pa_cons (pv 5) (pa_cons (pv 6) (pa_cons (pv 7) pa_nil)))))) pa_nil)))))))
      (pss_one (ps_ret (pv 1)))), ?_⟩
    refine ⟨Nat.zero_le _, fun D hD => ?_⟩
    have hwl : ws.length = T.n := hw.1
    have sm0 : Same H (upd H D (.lst [])) := same_new hD
    refine ⟨_, rfl, a, _, _, _, rfl, rfl, SqT.of (sm0 _ _ ha), atI_nat (j := 1) rfl, c, ws, rfl, SqT.of (sm0 _ _ hc), for_it (walk_enumT (K := K) (a := c) (xs := ws)) (fun i σ H' => ∃ y2 y3 y4 y5 y6 y7, σ = [some (.ref a), some (.ref D), y2, y3, y4, y5, y6, y7] ∧ Same H H' ∧ ∃ es, H' D = some (.lst es) ∧ EdgesR H' es T (2 * i))
      ⟨_, _, _, _, _, _, rfl, sm0, [], upd_same, rfl, fun i hi => by omega⟩ (fun _ _ _ _ z => by
        obtain ⟨_, _, _, _, _, _, _, z, _⟩ := z
        exact SqT.of (z _ _ hc)) ?_ ?_⟩
    · rintro i x σ1 H2 H3 hi ⟨y2, y3, y4, y5, y6, y7, rfl, sm, es, eD, he⟩ ⟨u, x1, x2, rfl, hu, rfl, e1, e2⟩
      have e1 := Option.some.inj e1
      subst e1
      have hin : i < T.n := by rw [← hwl]; exact hi
      obtain ⟨p, ep, l, r, f1, f2, f3⟩ := hw.2 i hin
      have ex : x2 = .ref p := Option.some.inj (e2.symm.trans ep)
      subst ex
      have smu := sm.trans (same_new (o := .tup [.int (i : Nat), .ref p]) hu)
      refine ⟨u, _, rfl, SqT.of upd_same, rfl, _, _, rfl, _, _, rfl, rfl, ?_⟩
      refine ⟨_, rfl, hA, p, [.str "l", .str "r"], [.ref l, .ref r], rfl, .inr ⟨HD.t _, SqT.of (smu _ _ f1), for_it (walk_zipT (K := K) (a := hA) (b := p) (xs := [.str "l", .str "r"]) (ys := [.ref l, .ref r]) rfl)
        (fun j σ H' => ∃ y4 y5 y6 y7, σ = [some (.ref a), some (.ref D), some (.int (i : Nat)), some (.ref p), y4, y5, y6, y7] ∧ Same H H' ∧ ∃ es, H' D = some (.lst es) ∧ EdgesR H' es T (2 * i + j))
        ⟨_, _, _, _, rfl, smu, es, (new_at eD hu).2, he.ts ((TupS.refl _).new hu)⟩ (fun _ _ _ _ z => by
          obtain ⟨_, _, _, _, _, z, _⟩ := z
          exact ⟨HD.t _, SqT.of (z _ _ f1)⟩) ?_ ?_⟩⟩
      · rintro j y σ2 H4 H5 hj ⟨z4, z5, z6, z7, rfl, sm4, es4, eD4, he4⟩ ⟨u5, v1, v2, rfl, hu5, rfl, g1, g2⟩
        have key : ∃ d : Addr, v2 = .ref d ∧ v1 = sideV (hd (2 * i + j)) ∧ WayR H d (T.to ((2 * i + j) / 2) (hd (2 * i + j))) (T.sd ((2 * i + j) / 2) (hd (2 * i + j))) (T.dn ((2 * i + j) / 2) (hd (2 * i + j))) ∧ (2 * i + j) / 2 = i ∧ j < 2 := by
          match j, g1, g2 with
          | 0, g1, g2 => exact ⟨l, (Option.some.inj g2).symm, by rw [Nat.add_zero, hd0]; exact (Option.some.inj g1).symm, by rw [Nat.add_zero, hd0, show 2 * i / 2 = i by omega]; exact f2, by omega, by omega⟩
          | 1, g1, g2 => exact ⟨r, (Option.some.inj g2).symm, by rw [hd1]; exact (Option.some.inj g1).symm, by rw [hd1, show (2 * i + 1) / 2 = i by omega]; exact f3, by omega, by omega⟩
          | j + 2, g1, g2 => simp at g1
        obtain ⟨d, rfl, rfl, hd', hdiv, hj2⟩ := key
        have hd5 : WayR (upd H4 u5 (.tup [sideV (hd (2 * i + j)), .ref d])) d _ _ _ := hd'.same (sm4.trans (same_new hu5))
        refine ⟨u5, _, rfl, SqT.of upd_same, rfl, _, _, rfl, _, _, rfl, d, _, rfl, SqT.of hd5, rfl, _, _, rfl, _, _, rfl, _, _, rfl, rfl, rfl, ?_⟩
        have eD5 := (new_at (o := .tup [sideV (hd (2 * i + j)), .ref d]) eD4 hu5).2
        refine ⟨_, rfl, .inl ⟨rfl, _, SqL.of eD5⟩, _, rfl, _, rfl, _, rfl, _, rfl, _, rfl, by show 5 ≤ sizeLine; decide, fun t ht => ?_⟩
        have eD6 := (new_at (o := .tup [.int (i : Nat), sideV (hd (2 * i + j)), .int (T.to ((2 * i + j) / 2) (hd (2 * i + j)) : Nat), sideV (T.sd ((2 * i + j) / 2) (hd (2 * i + j))), .int (T.dn ((2 * i + j) / 2) (hd (2 * i + j)))]) eD5 ht).2
        refine ⟨D, _, _, rfl, rfl, eD6, ?_, ?_⟩
        · have := he4.1
          exact lt_line (by omega)
        · refine ⟨_, _, _, _, rfl, same_mut ((sm4.trans (same_new hu5)).trans (same_new ht)) hD, _, upd_same, ?_⟩
          rw [show 2 * i + (j + 1) = 2 * i + j + 1 by omega]
          refine EdgesR.snoc (he4.ts (((TupS.refl _).new hu5).trans (new_ts eD5 ht))) ?_
          show _ = _
          rw [new_u eD5 ht, hdiv]
      · rintro σ2 H4 ⟨z4, z5, z6, z7, rfl, sm4, es4, eD4, he4⟩
        exact ⟨_, _, _, _, _, _, rfl, sm4, es4, eD4, by rw [show 2 * (i + 1) = 2 * i + [V.str "l", V.str "r"].length from rfl]; exact he4⟩
    · rintro σ1 H2 ⟨y2, y3, y4, y5, y6, y7, rfl, sm, es, eD, he⟩
      rw [hwl] at he
      exact ⟨_, rfl, q _ D es sm hD eD he⟩
/-! ### moved_in -/
def mvd (T : Tp) (mvs : List Int) : Tp := { T with dn := fun v h => T.dn v h + mvs.getD (T.to v h) 0 - mvs.getD v 0 }
def PairsN (H : Hp) (ws : List V) (T : Tp) (m : Nat) : Prop := ws.length = m ∧ ∀ i, i < m → ∃ p : Addr, ws[i]? = some (V.ref p) ∧ PairR H p (T.to i) (T.sd i) (T.dn i)
theorem PairsN.ts {H H' : Hp} {ws : List V} {T : Tp} {m : Nat} (e : TupS H H') (h : PairsN H ws T m) : PairsN H' ws T m :=
  ⟨h.1, fun i hi => let ⟨p, a, b⟩ := h.2 i hi; ⟨p, a, b.ts e⟩⟩
theorem PairsN.snoc {H : Hp} {es : List V} {T : Tp} {m : Nat} {p : Addr} (h : PairsN H es T m) (hp : PairR H p (T.to m) (T.sd m) (T.dn m)) : PairsN H (es ++ [V.ref p]) T (m + 1) := by
  refine ⟨by simp [h.1], fun i hi => ?_⟩
  by_cases q : i < m
  · obtain ⟨p', a, b⟩ := h.2 i q
    exact ⟨p', by rw [List.getElem?_append_left (by rw [h.1]; exact q)]; exact a, b⟩
  · have e : i = m := by omega
    subst e
    exact ⟨p, by rw [List.getElem?_append_right (by rw [h.1]; omega), h.1, Nat.sub_self]; rfl, hp⟩
def WaysN (H : Hp) (ds : List V) (to : Bool → Nat) (sd : Bool → Bool) (dn : Bool → Int) (j : Nat) : Prop := ds.length = j ∧ ∀ k, k < j → ∃ q : Addr, ds[k]? = some (V.ref q) ∧ WayR H q (to (hd k)) (sd (hd k)) (dn (hd k))
theorem WaysN.ts {H H' : Hp} {ds : List V} {to : Bool → Nat} {sd : Bool → Bool} {dn : Bool → Int} {j : Nat} (e : TupS H H') (h : WaysN H ds to sd dn j) : WaysN H' ds to sd dn j :=
  ⟨h.1, fun i hi => let ⟨p, a, b⟩ := h.2 i hi; ⟨p, a, b.ts e⟩⟩
theorem WaysN.snoc {H : Hp} {es : List V} {to : Bool → Nat} {sd : Bool → Bool} {dn : Bool → Int} {m : Nat} {p : Addr} (h : WaysN H es to sd dn m) (hp : WayR H p (to (hd m)) (sd (hd m)) (dn (hd m))) : WaysN H (es ++ [V.ref p]) to sd dn (m + 1) := by
  refine ⟨by simp [h.1], fun i hi => ?_⟩
  by_cases q : i < m
  · obtain ⟨p', a, b⟩ := h.2 i q
    exact ⟨p', by rw [List.getElem?_append_left (by rw [h.1]; exact q)]; exact a, b⟩
  · have e : i = m := by omega
    subst e
    exact ⟨p, by rw [List.getElem?_append_right (by rw [h.1]; omega), h.1, Nat.sub_self]; rfl, hp⟩
theorem WaysN.pair {H : Hp} {ds : List V} {to : Bool → Nat} {sd : Bool → Bool} {dn : Bool → Int} (h : WaysN H ds to sd dn 2) : ∃ l r : Addr, ds = [.ref l, .ref r] ∧ WayR H l (to false) (sd false) (dn false) ∧ WayR H r (to true) (sd true) (dn true) := by
  obtain ⟨l, e0, h0⟩ := h.2 0 (by omega)
  obtain ⟨r, e1, h1⟩ := h.2 1 (by omega)
  refine ⟨l, r, ?_, h0, h1⟩
  match ds, h.1, e0, e1 with
  | [x, y], _, e0, e1 =>
    have a := Option.some.inj e0
    have b := Option.some.inj e1
    rw [show x = _ from a, show y = _ from b]
theorem PairR.way {H : Hp} {p : Addr} {to : Bool → Nat} {sd : Bool → Bool} {dn : Bool → Int} {l r : Addr} (h1 : WayR H l (to false) (sd false) (dn false)) (h2 : WayR H r (to true) (sd true) (dn true)) {j : Nat} {x : V} (e : [V.ref l, V.ref r][j]? = some x) : ∃ d : Addr, x = .ref d ∧ WayR H d (to (hd j)) (sd (hd j)) (dn (hd j)) ∧ j < 2 := by
  match j, e with
  | 0, e => exact ⟨l, (Option.some.inj e).symm, h1, by omega⟩
  | 1, e => exact ⟨r, (Option.some.inj e).symm, h2, by omega⟩
  | j + 2, e => simp at e
def spMovedIn : Sp := fun vs H Q _ => ∃ (v : V) (m : Addr) (T : Tp) (mvs : List Int), vs = [v, .ref m] ∧ TapeR H v T ∧ T.n ≤ 24 ∧ T.In ∧ H m = some (.tup (mvs.map V.int)) ∧ mvs.length = T.n ∧ ∀ H' v', Same H H' → TapeR H' v' (mvd T mvs) → Q v' H'
theorem scMovedIn : FnScope ["tape", "moves", "ways", "number", "pair", "to", "side", "down"] ["tape", "moves"] (defScope (topS 16)) := ⟨rfl, rfl, rfl, by decide +kernel, rfl, by decide +kernel, by decide +kernel⟩
theorem getD_at {l : List Int} {i : Nat} (h : i < l.length) : (l.map V.int)[i]? = some (.int (l.getD i 0)) := by
  rw [List.getElem?_map, List.getElem?_eq_getElem h, List.getD_eq_getElem?_getD, List.getElem?_eq_getElem h]
  rfl
theorem ok_movedin {f : Addr} {fd : FuncData} (F : FnD K "moved_in" 16 f fd) (G : Glb mg) : FnOk P w K mg base CX0 1 f fd ["tape", "moves"] spMovedIn := by
  refine F.ok scMovedIn (fun vs H Q E h => ?_) (fun cdv A outer s H vs Q E hr h => ?_)
  · obtain ⟨v, m, T, mvs, rfl, _⟩ := h
    rfl
  · obtain ⟨v, m, T, mvs, rfl, ⟨a, b, c, ws, rfl, ha, hb, hlen, hc, hw⟩, hn, hin, hm, hml, q⟩ := h
    refine ⟨_, pss_cons (ps_set (i := 2) scMovedIn.nd rfl (.inl rfl) (pe_lst pa_nil))
      (pss_cons (ps_for PassesOwn.never rfl (pi_enumT (by rfl) G.enumerate (pa_cons (pe_ix ix_tup (pv 0) pe_int (fun _ _ => rfl)) pa_nil)) (pg_tup rfl (pgs_cons (pg_name (i := 3) scMovedIn.nd rfl (.inr rfl)) (pgs_cons (pg_name (i := 4) scMovedIn.nd rfl (.inl rfl)) pgs_nil)))
        (pss_one (ps_expr (pe_bm PySem.F.plainAttrs_list PySem.F.slot_list_append PySem.F.type_list_append mt_append (pv 2) (pa_cons
          (pe_callTy call_tuple_of (by rfl) G.tuple b_tuple (pa_cons
            (pe_lc (own := [("to", 5), ("side", 6), ("down", 7)]) (g := gTup K 3 (gCons (gName 5) (gCons (gName 6) (gCons (gName 7) gNil)))) (tt := tYes) rfl scMovedIn.nd (pi_tup (pv 4)) (blkOk_by (N := ["tape", "moves", "ways", "number", "pair", "to", "side", "down"]) (sc := defScope (topS 16)) (by decide +kernel))
              (fun _ _ _ _ _ => pg_tup rfl (pgs_cons (pg_name (i := 5) scMovedIn.nd rfl (Or.inl rfl)) (pgs_cons (pg_name (i := 6) scMovedIn.nd rfl (Or.inl rfl)) (pgs_cons (pg_name (i := 7) scMovedIn.nd rfl (Or.inl rfl)) pgs_nil)))) (fun _ _ _ _ _ => pts_nil)
              (fun _ _ _ _ _ => pe_tup (pa_cons (pv 5) (pa_cons (pv 6) (pa_cons (pe_op op_sub (pe_op op_add (pv 7) (pe_ix (ixT K) (pv 1) (pv 5) (fun _ _ => rfl))) (pe_ix (ixT K) (pv 1) (pv 3) (fun _ _ => rfl))) pa_nil))))) pa_nil)) pa_nil)))))
      (pss_one (ps_ret (pe_tup (pa_cons (pe_ix ix_tup (pv 0) pe_int (fun _ _ => rfl)) (pa_cons (pe_callTy call_tuple_of (by rfl) G.tuple b_tuple (pa_cons (pv 2) pa_nil)) pa_nil)))))), ?_⟩
    refine ⟨Nat.zero_le _, fun L hL => ?_⟩
    have hwl : ws.length = T.n := hw.1
    have sm0 : Same H (upd H L (.lst [])) := same_new hL
    refine ⟨_, rfl, a, _, _, _, rfl, rfl, SqT.of (sm0 _ _ ha), atI_nat (j := 1) rfl, c, ws, rfl, SqT.of (sm0 _ _ hc), for_it (walk_enumT (K := K) (a := c) (xs := ws)) (fun i σ H' => ∃ y3 y4 y5 y6 y7, σ = [some (.ref a), some (.ref m), some (.ref L), y3, y4, y5, y6, y7] ∧ Same H H' ∧ ∃ es, H' L = some (.lst es) ∧ PairsN H' es (mvd T mvs) i)
      ⟨_, _, _, _, _, rfl, sm0, [], upd_same, rfl, fun i hi => by omega⟩ (fun _ _ _ _ z => by
        obtain ⟨_, _, _, _, _, _, z, _⟩ := z
        exact SqT.of (z _ _ hc)) ?_ ?_⟩
    · rintro i x σ1 H2 H3 hi ⟨y3, y4, y5, y6, y7, rfl, sm, es, eL, he⟩ ⟨u, x1, x2, rfl, hu, rfl, e1, e2⟩
      have e1 := Option.some.inj e1
      subst e1
      have hi' : i < T.n := by rw [← hwl]; exact hi
      obtain ⟨p, ep, l, r, f1, f2, f3⟩ := hw.2 i hi'
      have ex : x2 = .ref p := Option.some.inj (e2.symm.trans ep)
      subst ex
      have smu := sm.trans (same_new (o := .tup [.int (i : Nat), .ref p]) hu)
      have eLu := (new_at (o := .tup [.int (i : Nat), .ref p]) eL hu).2
      have heu := he.ts ((TupS.refl _).new (o := .tup [.int (i : Nat), .ref p]) hu)
      generalize hH3 : upd H2 u (.tup [.int (i : Nat), .ref p]) = H3 at *
      have eu3 : H3 u = some (.tup [.int (i : Nat), .ref p]) := by rw [← hH3, upd_same]
      refine ⟨u, _, rfl, SqT.of eu3, rfl, _, _, rfl, _, _, rfl, rfl, ?_⟩
      refine ⟨_, rfl, .inl ⟨rfl, _, SqL.of eLu⟩, _, rfl, p, rfl, ⟨_, SqT.of (smu _ _ f1)⟩, fun D hD => it_walk (walk_tup (K := K) (a := p) (xs := [.ref l, .ref r]))
        (fun j H' => Same H3 H' ∧ ∃ ds, H' D = some (.lst ds) ∧ WaysN H' ds (T.to i) (T.sd i) ((mvd T mvs).dn i) j) ⟨same_new hD, [], upd_same, rfl, fun i hi => by omega⟩ (fun _ _ _ z => SqT.of (z.1 _ _ (smu _ _ f1))) ?_ ?_⟩
      · rintro j y H4 H5 hj ⟨sm4, ds, eD, hds⟩ ⟨rfl, hy⟩
        have sm5 := smu.trans sm4
        obtain ⟨d, rfl, hd, hj2⟩ := PairR.way (p := p) (f2.same sm5) (f3.same sm5) hy
        have ht : T.to i (LHM.hd j) < T.n := hin i _ hi'
        refine ⟨d, _, rfl, SqT.of hd, rfl, _, _, rfl, _, _, rfl, _, _, rfl, rfl, rfl, ?_⟩
        refine ⟨_, rfl, _, rfl, _, rfl, _, rfl, _, rfl, m, _, _, _, rfl, rfl, SqT.of (sm5 _ _ hm), atI_nat (getD_at (by omega)), _, _, rfl, rfl, _, rfl, _, rfl, m, _, _, _, rfl, rfl, SqT.of (sm5 _ _ hm), atI_nat (getD_at (by omega)), _, _, rfl, rfl, by show 3 ≤ sizeLine; decide, fun t ht => ⟨ds, (new_at eD ht).2, ?_, ?_⟩⟩
        · have := hds.1
          exact lt_line (by omega)
        · exact ⟨same_mut (sm4.trans (same_new ht)) hD, _, upd_same, (hds.ts (new_ts eD ht)).snoc (new_u eD ht)⟩
      · rintro H4 ⟨sm4, ds, eD, hds⟩
        obtain ⟨l', r', rfl, w1, w2⟩ := WaysN.pair hds
        refine ⟨D, _, rfl, .inl ⟨SqL.of eD, fun t ht => ?_⟩⟩
        have eL4 := sm4 _ _ eLu
        refine ⟨L, _, _, rfl, rfl, (new_at eL4 ht).2, ?_, ?_⟩
        · have := he.1
          exact lt_line (by omega)
        · refine ⟨_, _, _, _, _, rfl, same_mut ((smu.trans sm4).trans (same_new ht)) hL, _, upd_same, ?_⟩
          have ts := new_ts (ys := es ++ [.ref t]) (o := .tup [.ref l', .ref r']) eL4 ht
          refine PairsN.snoc (heu.ts ((TupS.of sm4).trans ts)) ⟨l', r', new_u eL4 ht, w1.ts ts, w2.ts ts⟩
    · rintro σ1 H2 ⟨y3, y4, y5, y6, y7, rfl, sm, es, eL, he⟩
      rw [hwl] at he
      refine ⟨_, rfl, a, _, _, _, rfl, rfl, SqT.of (sm _ _ ha), atI_nat (j := 0) rfl, _, rfl, L, _, rfl, .inl ⟨SqL.of eL, fun t ht => ⟨by show 2 ≤ sizeLine; decide, fun p hp => ?_⟩⟩⟩
      have s1 := sm.trans (same_new (o := .tup es) ht)
      have s2 := s1.trans (same_new (o := .tup [.ref b, .ref t]) hp)
      have htp : t ≠ p := ne_of_none (o := .tup es) upd_same hp
      refine q _ _ s2 ⟨p, b, t, es, rfl, upd_same, s2 _ _ hb, hlen, by rw [upd_ne htp, upd_same], ?_⟩
      exact he.ts (((TupS.refl _).new ht).new hp)
/-! ### moved -/
def spMoved : Sp := fun vs H Q _ => ∃ (v : V) (m : Addr) (T : Tp) (mvs : List Int), vs = [v, .ref m] ∧ TapeR H v T ∧ T.Good ∧ H m = some (.tup (mvs.map V.int)) ∧ mvs.length = T.n ∧ ∀ H' v', Same H H' → TapeR H' v' (mvd T mvs) → Q v' H'
theorem scMoved : FnScope ["tape", "moves", "move"] ["tape", "moves"] (defScope (topS 17)) := ⟨rfl, rfl, rfl, by decide +kernel, rfl, by decide +kernel, by decide +kernel⟩
theorem ok_moved {f : Addr} {fd : FuncData} (F : FnD K "moved" 17 f fd) (G : Glb mg) (CT : Cal P w K mg base CX0 4 "need_tape" ["thing"] spTape) (CW : Cal P w K mg base CX0 1 "is_whole" ["thing", "least", "most"] (spWhole K))
    (CM : Cal P w K mg base CX0 1 "moved_in" ["tape", "moves"] spMovedIn) : FnOk P w K mg base CX0 5 f fd ["tape", "moves"] spMoved := by
  refine F.ok scMoved (fun vs H Q E h => ?_) (fun cdv A outer s H vs Q E hr h => ?_)
  · obtain ⟨v, m, T, mvs, rfl, _⟩ := h
    rfl
  · obtain ⟨v, m, T, mvs, rfl, hT, g, hm, hml, q⟩ := h
    have hr1 : Room 1 _ := hr.mono (by decide)
    refine ⟨_, pss_cons (ps_expr (pe_cal CT hr (by rfl) (E := E0) pass0 (pa_cons (pv 0) pa_nil)))
      (pss_cons (ps_if (PW.pt (pw_or (pt_not (pt_val (pe_isi (by rfl) G (pv 1) (by rfl) G.tuple b_tuple)))
          (pw_or1 (pt_cmpR op_ne (pe_callB call_len (by rfl) G.len PySem.boot_len (pa_cons (pv 1) pa_nil)) (pe_callB call_len (by rfl) G.len PySem.boot_len (pa_cons (pe_ix ix_tup (pv 0) pe_int (fun _ _ => rfl)) pa_nil)) (nomark _))))) (pss_one ps_never) pss_nil)
      (pss_cons (ps_if (pt_not (pt_val (pe_callB (cr_all rfl) (by rfl) G.all (by decide +kernel) (pa_cons
            (pe_lc (own := [("move", 2)]) (g := gName 2) (tt := tYes) rfl scMoved.nd (pi_tup (pv 1)) (blkOk_by (N := ["tape", "moves", "move"]) (sc := defScope (topS 17)) (by decide +kernel)) (fun _ _ _ _ _ => pg_name (i := 2) scMoved.nd rfl (Or.inl rfl)) (fun _ _ _ _ _ => pts_nil)
              (fun _ _ _ _ _ => pe_cal CW hr1 (by rfl) (E := E0) pass0 (pa_cons (pv 2) (pa_cons pe_non (pa_cons pe_non pa_nil))))) pa_nil)))) (pss_one ps_never) pss_nil)
      (pss_one (ps_ret (pe_cal CM hr1 (by rfl) (E := E0) pass0 (pa_cons (pv 0) (pa_cons (pv 1) pa_nil))))))), ?_⟩
    obtain ⟨a, b, c, ws, rfl, ha, hb, hlen, hc, hw⟩ := id hT
    refine ⟨_, rfl, _, T, rfl, hT, g, fun H1 sm => ?_⟩
    have hm1 := sm _ _ hm
    refine ⟨_, rfl, _, _, .base (.tup hm1), k_tt, true, rfl, iteF ?_⟩
    refine ⟨_, rfl, _, T.n, rfl, .inr ⟨_, SqT.of hm1, by rw [List.length_map, hml]⟩, _, rfl, a, _, _, _, rfl, rfl, SqT.of (sm _ _ ha), atI_nat (j := 0) rfl, _, T.n, rfl, .inr ⟨_, SqT.of (sm _ _ hb), by rw [List.length_map, hlen]⟩, rfl, _, rfl, iteNS rfl ?_⟩
    refine ⟨_, rfl, m, rfl, ⟨_, SqT.of hm1⟩, fun D hD => it_walk (walk_tup (K := K) (a := m) (xs := mvs.map V.int)) (fun i H' => Same H1 H' ∧ H' D = some (.lst (List.replicate i (.bl true)))) ⟨same_new hD, upd_same⟩ (fun _ _ _ z => SqT.of (z.1 _ _ hm1)) ?_ ?_⟩
    · rintro i x H2 H3 hi ⟨sm2, hl⟩ ⟨rfl, hx⟩
      obtain ⟨k, _, rfl⟩ : ∃ k, k ∈ mvs ∧ V.int k = x := List.mem_map.mp (List.mem_of_getElem? hx)
      have g2 := g.n24
      have hi : i < (mvs.map V.int).length := hi
      rw [List.length_map] at hi
      refine ⟨rfl, _, rfl, _, none, none, rfl, .inl ⟨k, rfl, _, hl, ?_, ?_⟩⟩
      · rw [List.length_replicate]
        exact lt_line (by omega)
      · show _ ∧ upd H3 D (.lst (List.replicate i (.bl true) ++ [.bl (true && true)])) D = _
        rw [upd_same, show (true && true) = true from rfl, rep_snoc]
        exact ⟨same_mut sm2 hD, rfl⟩
    · rintro H2 ⟨sm2, hl⟩
      refine ⟨D, List.replicate (mvs.map V.int).length true, rfl, SqL.of (by rw [List.map_replicate]; exact hl), ?_⟩
      rw [allTrue]
      refine ⟨true, rfl, iteF ?_⟩
      have s2 := sm.trans sm2
      exact ⟨_, rfl, _, rfl, _, m, T, mvs, rfl, hT.same s2, g.n24, g.inn, s2 _ _ hm, hml, fun H3 v' s3 ht => q H3 v' (s2.trans s3) ht⟩
end
end LH

namespace LH
open PySem PySem.Spec PyProof.Rows L2 LHM LHR
/-! ### dicts by the stitches -/
def ik (v : Nat) : Key := Sum.inl (v : Int)
theorem ik_inj {a b : Nat} (h : ik a = ik b) : a = b := by
  have : (a : Int) = b := Sum.inl.inj h
  omega
def keysN (n : Nat) : List Key := (List.range n).map ik
def KvF (kvs : List (Key × V)) (n : Nat) (F : Nat → V → Prop) : Prop := kvs.map (·.1) = keysN n ∧ ∀ v, v < n → ∃ x, valV kvs (ik v) = some x ∧ F v x
theorem KvF.len {kvs : List (Key × V)} {n : Nat} {F : Nat → V → Prop} (h : KvF kvs n F) : kvs.length = n := by
  have := congrArg List.length h.1
  simpa [keysN] using this
theorem valV_no {kvs : List (Key × V)} {k : Key} (h : ¬ k ∈ kvs.map (·.1)) : valV kvs k = none := by
  cases e : valV kvs k with
  | none => rfl
  | some x => exact absurd (valV_in e) h
theorem keys_put {kvs : List (Key × V)} {k : Key} {y : V} {x : V} (h : valV kvs k = some x) : (putK kvs k y).map (·.1) = kvs.map (·.1) := by
  unfold putK
  rw [if_pos (by rw [valV_any, h]; rfl), List.map_map]
  refine List.map_congr_left fun p _ => ?_
  show (if p.1 = k then (p.1, y) else p).1 = p.1
  split <;> rfl
theorem KvF.nil {F : Nat → V → Prop} : KvF [] 0 F := ⟨rfl, fun v hv => absurd hv (Nat.not_lt_zero _)⟩
theorem KvF.grow {kvs : List (Key × V)} {n : Nat} {F : Nat → V → Prop} {x : V} (h : KvF kvs n F) (hx : F n x) : KvF (putK kvs (ik n) x) (n + 1) F := by
  have hno : valV kvs (ik n) = none := valV_no fun m => by
    rw [h.1] at m
    obtain ⟨a, ha, e⟩ := List.mem_map.mp m
    have := ik_inj e
    have := List.mem_range.mp ha
    omega
  refine ⟨?_, fun v hv => ?_⟩
  · rw [putK_new x hno, List.map_append, h.1]
    unfold keysN
    rw [List.range_succ, List.map_append]
    rfl
  · rw [valV_put]
    by_cases e : v = n
    · subst e
      exact ⟨x, by rw [if_pos rfl], hx⟩
    · obtain ⟨y, a, b⟩ := h.2 v (by omega)
      exact ⟨y, by rw [if_neg fun z => e (ik_inj z)]; exact a, b⟩
theorem KvF.put {kvs : List (Key × V)} {n : Nat} {F F' : Nat → V → Prop} {v : Nat} {x : V} (h : KvF kvs n F) (hv : v < n) (hx : F' v x) (ho : ∀ u y, u < n → u ≠ v → F u y → F' u y) : KvF (putK kvs (ik v) x) n F' := by
  obtain ⟨z, hz, _⟩ := h.2 v hv
  refine ⟨by rw [keys_put hz]; exact h.1, fun u hu => ?_⟩
  rw [valV_put]
  by_cases e : u = v
  · subst e
    exact ⟨x, by rw [if_pos rfl], hx⟩
  · obtain ⟨y, a, b⟩ := h.2 u hu
    exact ⟨y, by rw [if_neg fun z => e (ik_inj z)]; exact a, ho u y hu e b⟩
theorem KvF.imp {kvs : List (Key × V)} {n : Nat} {F F' : Nat → V → Prop} (h : KvF kvs n F) (ho : ∀ u y, u < n → F u y → F' u y) : KvF kvs n F' :=
  ⟨h.1, fun v hv => let ⟨x, a, b⟩ := h.2 v hv; ⟨x, a, ho v x hv b⟩⟩
theorem dgetI {H : Hp} {d : Addr} {kvs : List (Key × V)} {v : Nat} {x : V} (hd : H d = some (.dK kvs)) (hv : valV kvs (ik v) = some x) : DGet H d (.int (v : Nat)) (some x) := .inl ⟨kvs, ik v, .inl hd, rfl, hv.symm⟩
def oN : Option Nat → V
  | none => .non
  | some i => .int (i : Nat)
def LowF (f : Nat → Int) : Nat → V → Prop := fun v x => x = .int (f v)
def CameF (H : Hp) (s : FS) : Nat → V → Prop := fun v x => ∃ q : Addr, x = .ref q ∧ H q = some (.tup [.int (s.bef v : Nat), oN (s.edg v)])
theorem CameF.ts {H H' : Hp} {s : FS} {v : Nat} {x : V} (e : TupS H H') (h : CameF H s v x) : CameF H' s v x := let ⟨q, a, b⟩ := h; ⟨q, a, e _ _ b⟩
def natsV (is : List Nat) : List V := is.map fun i => V.int (i : Nat)
section
variable {P : Program} {w : World} {K : PySem.W.Frag} {mg : Str → Option Value} {base : Heap}
/-! ### turned_back -/
def spBack : Sp := fun vs H Q _ => ∃ (d : Addr) (n m v p : Nat) (s : FS) (kvs : List (Key × V)), vs = [.ref d, .int (v : Nat)] ∧ n ≤ 24 ∧ H d = some (.dK kvs) ∧ KvF kvs n (CameF H s) ∧ (∀ k, bk s v k < n) ∧
  0 < p ∧ bk s (bk s v n) p = bk s v n ∧ (∀ q, 0 < q → q < p → bk s (bk s v n) q ≠ bk s v n) ∧ (∀ q, q < p → ∃ i, s.edg (bk s (bk s v n) q) = some i ∧ i < m) ∧ p ≤ n ∧
  ∀ H' c is, Same H H' → H' c = some (.lst (natsV is)) → is.length ≤ n → (∀ i ∈ is, i < m) → Q (.ref c) H'
theorem scBack : FnScope ["came", "begin", "here", "turn", "found", "place", "before", "edge"] ["came", "begin"] (defScope (topS 18)) := ⟨rfl, rfl, rfl, by decide +kernel, rfl, by decide +kernel, by decide +kernel⟩
theorem ok_back {f : Addr} {fd : FuncData} (F : FnD K "turned_back" 18 f fd) (G : Glb mg) : FnOk P w K mg base CX0 1 f fd ["came", "begin"] spBack := by
  refine F.ok scBack (fun vs H Q E h => ?_) (fun cdv A outer s H vs Q E hr h => ?_)
  · obtain ⟨d, n, m, v, p, s, kvs, rfl, _⟩ := h
    rfl
  · obtain ⟨d, n, m, v, p, S, kvs, rfl, hn, hd, hk, hlt, hp0, hp1, hp2, hp3, hpn, q⟩ := h
    refine ⟨_, pss_cons (ps_set (i := 2) scBack.nd rfl (.inl rfl) (pv 1))
      (pss_cons (ps_for PassesOwn.never rfl (pi_range1 (by rfl) G.range (pa_cons (pe_callB call_lenD (by rfl) G.len PySem.boot_len (pa_cons (pv 0) pa_nil)) pa_nil)) (pg_name (i := 3) scBack.nd rfl (Or.inl rfl))
        (pss_one (ps_set (i := 2) scBack.nd rfl (.inl rfl) (pe_ix ix_tup (pe_dget (hu_of hr) (pv 0) (pv 2) (fun _ _ => rfl)) pe_int (fun _ _ => rfl)))))
      (pss_cons (ps_par (i := 4) (j := 5) rfl scBack.nd rfl rfl (by decide) rfl rfl (pa_cons (pe_lst pa_nil) (pa_cons (pv 2) pa_nil)) (by rfl))
      (pss_cons (ps_while PassesOwn.never (PW.pt (pw_or (pt_cmpR (op_eq0 hr.units0) (pv 4) (pe_lst pa_nil) (nomark _)) (pw_or1 (pt_cmpR op_ne (pv 5) (pv 2) (nomark _)))))
        (pss_cons (ps_asg (pe_dget (hu_of hr) (pv 0) (pv 5) (fun _ _ => rfl)) (pg_tup (by rfl) (pgs_cons (pg_name (i := 6) scBack.nd rfl (.inl rfl)) (pgs_cons (pg_name (i := 7) scBack.nd rfl (.inl rfl)) pgs_nil))))
        (pss_cons (ps_expr (pe_bm PySem.F.plainAttrs_list PySem.F.slot_list_append PySem.F.type_list_append mt_append (pv 4) (pa_cons (pv 7) pa_nil)))
        (pss_one (ps_set (i := 5) scBack.nd rfl (.inl rfl) (pv 6))))))
      (pss_one (ps_ret (pe_revL (pv 4))))))), ?_⟩
    have hrow : ∀ {H' : Hp} (k : Nat), Same H H' → ∃ (x : Addr), valV kvs (ik (bk S v k)) = some (.ref x) ∧ H' x = some (.tup [.int (S.bef (bk S v k) : Nat), oN (S.edg (bk S v k))]) := fun {H'} k sm => by
      obtain ⟨x, a, b, rfl, e⟩ := hk.2 _ (hlt k)
      exact ⟨b, a, sm _ _ e⟩
    refine ⟨_, rfl, ?_⟩
    refine ⟨_, rfl, d, kvs, rfl, hd, _, rfl, ?_, ?_, for_it walk_range (fun i σ H' => ∃ y3, σ = [some (.ref d), some (.int (v : Nat)), some (.int (bk S v i : Nat)), y3, none, none, none, none] ∧ H' = H) ⟨_, rfl, rfl⟩ (fun _ _ _ _ _ => trivial) ?_ ?_⟩
    · rw [hk.len]; omega
    · rw [hk.len]; omega
    · rintro i x σ1 H1 H2 hi ⟨y3, rfl, rfl⟩ ⟨rfl, rfl⟩
      obtain ⟨b, e1, e2⟩ := hrow i (Same.refl _)
      exact ⟨_, rfl, _, rfl, d, _, rfl, dgetI hd e1, b, _, _, _, rfl, rfl, SqT.of e2, atI_nat (j := 0) rfl, _, rfl, rfl⟩
    · rintro σ1 H1 ⟨y3, rfl, rfl⟩
      rw [show ((kvs.length : Nat) : Int).toNat = n by rw [hk.len]; omega]
      refine ⟨Nat.zero_le _, fun L hL => ⟨_, rfl, _, _, rfl, ?_⟩⟩
      -- the circle
      refine ⟨fun μ σ H' => ∃ t, μ = p - t ∧ t ≤ p ∧ Same H1 H' ∧ ∃ y3 y6 y7, σ = [some (.ref d), some (.int (v : Nat)), some (.int (bk S v n : Nat)), y3, some (.ref L), some (.int (bk S v (n + t) : Nat)), y6, y7] ∧ ∃ is : List Nat, H' L = some (.lst (natsV is)) ∧ is.length = t ∧ ∀ i ∈ is, i < m,
        ⟨p, 0, rfl, Nat.zero_le _, same_new hL, _, _, _, rfl, [], upd_same, rfl, fun i hi => by simp at hi⟩, ?_⟩
      rintro μ σ H2 ⟨t, rfl, ht, sm, y3, y6, y7, rfl, is, eL, hl, hm⟩
      refine ⟨_, rfl, Nat.zero_le _, fun z hz => ⟨L, z, _, rfl, rfl, SqL.of (new_at eL hz).2, SqL.of upd_same, ?_⟩⟩
      have eLz := (new_at (o := .lst []) eL hz).2
      have smz := sm.trans (same_new (o := .lst []) hz)
      have hend : t = p ∨ (t < p ∧ (t = 0 ∨ bk S v (n + t) ≠ bk S v n)) := by
        rcases Nat.lt_or_ge t p with h1 | h1
        · right
          refine ⟨h1, ?_⟩
          rcases Nat.eq_zero_or_pos t with h2 | h2
          · exact .inl h2
          · right
            have := hp2 t h2 h1
            rw [bk_add] at this
            exact this
        · left; omega
      have body : t < p → ∃ N : L2.St → Hp → Prop, (∀ σ' H', N σ' H' → ∃ m', m' < p - t ∧ ∃ t, m' = p - t ∧ t ≤ p ∧ Same H1 H' ∧ ∃ y3 y6 y7, σ' = [some (.ref d), some (.int (v : Nat)), some (.int (bk S v n : Nat)), y3, some (.ref L), some (.int (bk S v (n + t) : Nat)), y6, y7] ∧ ∃ is : List Nat, H' L = some (.lst (natsV is)) ∧ is.length = t ∧ ∀ i ∈ is, i < m) ∧
          N [some (.ref d), some (.int (v : Nat)), some (.int (bk S v n : Nat)), y3, some (.ref L), some (.int (bk S v (n + (t + 1)) : Nat)), some (.int (bk S v (n + (t + 1)) : Nat)), some (oN (S.edg (bk S v (n + t))))] (upd (upd H2 z (.lst [])) L (.lst (natsV is ++ [oN (S.edg (bk S v (n + t)))]))) := fun h1 => by
        obtain ⟨i, he, hi⟩ := hp3 t h1
        rw [bk_add] at he
        refine ⟨fun σ' H' => ∃ y6 y7, σ' = [some (.ref d), some (.int (v : Nat)), some (.int (bk S v n : Nat)), y3, some (.ref L), some (.int (bk S v (n + (t + 1)) : Nat)), y6, y7] ∧ Same H1 H' ∧ H' L = some (.lst (natsV (is ++ [i]))), ?_, ?_⟩
        · rintro σ' H' ⟨y6, y7, rfl, s1, e1⟩
          refine ⟨p - (t + 1), by omega, t + 1, rfl, by omega, s1, _, _, _, rfl, is ++ [i], e1, by simp [hl], fun k hk' => ?_⟩
          rcases List.mem_append.mp hk' with h | h
          · exact hm k h
          · rw [List.mem_singleton.mp h]; exact hi
        · rw [he]
          refine ⟨_, _, rfl, same_mut smz hL, ?_⟩
          rw [upd_same]
          unfold natsV
          rw [List.map_append]
          rfl
      refine ⟨_, rfl, ?_⟩
      rcases hend with rfl | ⟨h1, h2⟩
      · have hne : (natsV is).isEmpty = false := by
          cases is with
          | nil => simp at hl; omega
          | cons x r => rfl
        rw [hne]
        refine iteF ⟨_, rfl, _, rfl, rfl, _, rfl, iteNS (by rw [← bk_add, hp1]) ?_⟩
        refine ⟨_, rfl, L, _, rfl, SqL.of eLz, fun c hc => ?_⟩
        refine q _ c is.reverse (smz.trans (same_new hc)) ?_ (by rw [List.length_reverse]; omega) fun i hi => hm i (List.mem_reverse.mp hi)
        rw [upd_same]
        unfold natsV
        rw [List.map_reverse]
      · obtain ⟨N, hN, hn'⟩ := body h1
        have hlen : (natsV is).length = t := by unfold natsV; rw [List.length_map, hl]
        obtain ⟨b, e1, e2⟩ := hrow (n + t) smz
        rcases h2 with rfl | h2
        · have e0 : is = [] := List.eq_nil_of_length_eq_zero hl
          rw [show (natsV is).isEmpty = true by rw [e0]; rfl]
          refine iteT (iteT ⟨N, hN, ?_⟩)
          exact ⟨_, rfl, _, rfl, d, _, rfl, dgetI (smz _ _ hd) e1, b, _, rfl, SqT.of e2, rfl, _, _, rfl, _, _, rfl, rfl, _, rfl, .inl ⟨rfl, _, SqL.of eLz⟩, _, rfl, L, _, _, rfl, rfl, eLz, lt_line (by omega), _, rfl, hn'⟩
        · by_cases he : (natsV is).isEmpty = true
          · rw [if_pos he]
            refine iteT ⟨N, hN, ?_⟩
            exact ⟨_, rfl, _, rfl, d, _, rfl, dgetI (smz _ _ hd) e1, b, _, rfl, SqT.of e2, rfl, _, _, rfl, _, _, rfl, rfl, _, rfl, .inl ⟨rfl, _, SqL.of eLz⟩, _, rfl, L, _, _, rfl, rfl, eLz, lt_line (by omega), _, rfl, hn'⟩
          · rw [if_neg he]
            refine ⟨_, rfl, _, rfl, rfl, _, rfl, ?_⟩
            rw [decide_eq_false fun z => h2 (by have := V.int.inj z; omega)]
            refine iteT ⟨N, hN, ?_⟩
            exact ⟨_, rfl, _, rfl, d, _, rfl, dgetI (smz _ _ hd) e1, b, _, rfl, SqT.of e2, rfl, _, _, rfl, _, _, rfl, rfl, _, rfl, .inl ⟨rfl, _, SqL.of eLz⟩, _, rfl, L, _, _, rfl, rfl, eLz, lt_line (by omega), _, rfl, hn'⟩
end
end LH

namespace LH
open PySem PySem.Spec PyProof.Rows L2 LHM LHR
/-- the i-th edge with its weight -/
def EdgeW (H : Hp) (p : Addr) (to : Nat → Bool → Nat) (w : Nat → Bool → Int) (i : Nat) : Prop := H p = some (.tup [.int ((i / 2 : Nat) : Int), .int (to (i / 2) (hd i) : Nat), .int (w (i / 2) (hd i))])
def EdgesW (H : Hp) (es : List V) (to : Nat → Bool → Nat) (w : Nat → Bool → Int) (m : Nat) : Prop := es.length = m ∧ ∀ i, i < m → ∃ p : Addr, es[i]? = some (V.ref p) ∧ EdgeW H p to w i
theorem EdgesW.ts {H H' : Hp} {es : List V} {to : Nat → Bool → Nat} {w : Nat → Bool → Int} {m : Nat} (e : TupS H H') (h : EdgesW H es to w m) : EdgesW H' es to w m :=
  ⟨h.1, fun i hi => let ⟨p, a, b⟩ := h.2 i hi; ⟨p, a, e _ _ b⟩⟩
theorem EdgesW.snoc {H : Hp} {es : List V} {to : Nat → Bool → Nat} {w : Nat → Bool → Int} {m : Nat} {p : Addr} (h : EdgesW H es to w m) (hp : EdgeW H p to w m) : EdgesW H (es ++ [V.ref p]) to w (m + 1) := by
  refine ⟨by simp [h.1], fun i hi => ?_⟩
  by_cases q : i < m
  · obtain ⟨p', a, b⟩ := h.2 i q
    exact ⟨p', by rw [List.getElem?_append_left (by rw [h.1]; exact q)]; exact a, b⟩
  · have e : i = m := by omega
    subst e
    exact ⟨p, by rw [List.getElem?_append_right (by rw [h.1]; omega), h.1, Nat.sub_self]; rfl, hp⟩
/-- low and came -/
structure Tabs (H : Hp) (d e : Addr) (n : Nat) (s : FS) : Prop where
  ne : d ≠ e
  low : ∃ kvs, H d = some (.dK kvs) ∧ KvF kvs n (LowF s.low)
  came : ∃ kvs, H e = some (.dK kvs) ∧ KvF kvs n (CameF H s)
theorem Tabs.same {H H' : Hp} {d e : Addr} {n : Nat} {s : FS} (h : Tabs H d e n s) (sm : Same H H') : Tabs H' d e n s :=
  ⟨h.ne, let ⟨k, a, b⟩ := h.low; ⟨k, sm _ _ a, b⟩, let ⟨k, a, b⟩ := h.came; ⟨k, sm _ _ a, b.imp fun u y _ z => z.ts (.of sm)⟩⟩
theorem Tabs.clr {H : Hp} {d e : Addr} {n : Nat} {s : FS} (h : Tabs H d e n s) : Tabs H d e n (clr s) :=
  ⟨h.ne, h.low, let ⟨k, a, b⟩ := h.came; ⟨k, a, b.imp fun u y _ z => z⟩⟩
theorem relax_yes {to : Nat → Bool → Nat} {w : Nat → Bool → Int} {s : FS} {i : Nat} (h : s.low (i / 2) + w (i / 2) (hd i) < s.low (to (i / 2) (hd i))) : relax to w s i =
    ⟨upf s.low (to (i / 2) (hd i)) (s.low (i / 2) + w (i / 2) (hd i)), upf s.bef (to (i / 2) (hd i)) (i / 2), upf s.edg (to (i / 2) (hd i)) (some i), some (to (i / 2) (hd i))⟩ := if_pos h
theorem relax_no {to : Nat → Bool → Nat} {w : Nat → Bool → Int} {s : FS} {i : Nat} (h : ¬ s.low (i / 2) + w (i / 2) (hd i) < s.low (to (i / 2) (hd i))) : relax to w s i = s := if_neg h
theorem natsV_get {n i : Nat} {x : V} (h : (natsV (List.range n))[i]? = some x) : x = .int (i : Nat) ∧ i < n := by
  unfold natsV at h
  rw [List.getElem?_map] at h
  cases e : (List.range n)[i]? with
  | none => rw [e] at h; cases h
  | some k =>
    rw [e] at h
    obtain ⟨h1, h2⟩ := List.getElem?_eq_some_iff.mp e
    have h1 : i < n := by simpa using h1
    have h2 : i = k := by simpa using h2
    subst h2
    exact ⟨(Option.some.inj h).symm, h1⟩
theorem natsV_len (n : Nat) : (natsV (List.range n)).length = n := by unfold natsV; simp
/-- one store into low, one into came -/
theorem Tabs.relax {H : Hp} {d e u : Addr} {n i : Nat} {s : FS} {to : Nat → Bool → Nat} {w : Nat → Bool → Int} {k1 k2 : List (Key × V)} (hne : d ≠ e) (h1 : H d = some (.dK k1)) (g1 : KvF k1 n (LowF s.low)) (h2 : H e = some (.dK k2)) (g2 : KvF k2 n (CameF H s))
    (ht : to (i / 2) (hd i) < n) (hlt : s.low (i / 2) + w (i / 2) (hd i) < s.low (to (i / 2) (hd i))) (hu : H u = none) :
    Tabs (upd (upd (upd H d (.dK (putK k1 (ik (to (i / 2) (hd i))) (.int (s.low (i / 2) + w (i / 2) (hd i)))))) u (.tup [.int ((i / 2 : Nat) : Int), .int (i : Nat)])) e (.dK (putK k2 (ik (to (i / 2) (hd i))) (.ref u)))) d e n (relax to w s i) := by
  have hdu : d ≠ u := ne_of_none h1 hu
  have heu : e ≠ u := ne_of_none h2 hu
  have ts : TupS H (upd (upd (upd H d (.dK (putK k1 (ik (to (i / 2) (hd i))) (.int (s.low (i / 2) + w (i / 2) (hd i)))))) u (.tup [.int ((i / 2 : Nat) : Int), .int (i : Nat)])) e (.dK (putK k2 (ik (to (i / 2) (hd i))) (.ref u)))) := by
    refine TupS.dK (ys := k2) (TupS.new (TupS.dK (TupS.refl _) h1) ?_) ?_
    · rw [upd_ne (Ne.symm hdu)]; exact hu
    · rw [upd_ne heu, upd_ne (Ne.symm hne)]; exact h2
  rw [relax_yes hlt]
  refine ⟨hne, ⟨_, by rw [upd_ne hne, upd_ne hdu, upd_same], g1.put ht ?_ fun v y hv hne' z => ?_⟩, ⟨_, upd_same, g2.put ht ?_ fun v y hv hne' z => ?_⟩⟩
  · show V.int _ = V.int (upf _ _ _ _)
    rw [upf_same]
  · show y = V.int (upf _ _ _ v)
    rw [upf_ne hne']
    exact z
  · refine ⟨u, rfl, ?_⟩
    rw [upd_ne (Ne.symm heu), upd_same]
    show _ = some (HO.tup [V.int ((upf _ _ _ _ : Nat) : Int), oN (upf _ _ _ _)])
    rw [upf_same, upf_same]
    rfl
  · obtain ⟨q, a, b⟩ := z
    refine ⟨q, a, ?_⟩
    show _ = some (HO.tup [V.int ((upf _ _ _ v : Nat) : Int), oN (upf _ _ _ v)])
    rw [upf_ne hne', upf_ne hne']
    exact ts _ _ b
section
variable {P : Program} {w : World} {K : PySem.W.Frag} {mg : Str → Option Value} {base : Heap}
/-! ### falls -/
def spFalls : Sp := fun vs H Q _ => ∃ (a b : Addr) (n : Nat) (es : List V) (to : Nat → Bool → Nat) (wt : Nat → Bool → Int), vs = [.ref a, .ref b] ∧ n ≤ 24 ∧ (∀ v h, v < n → to v h < n) ∧ H a = some (.lst (natsV (List.range n))) ∧ H b = some (.lst es) ∧ EdgesW H es to wt (2 * n) ∧
  (∀ k H' t d f kvs, k ≤ n → (rd n to wt (k + 1)).ch = none → Same H H' → H' t = some (.tup [.ref d, .non]) → H' d = some (.dK kvs) → KvF kvs n (LowF f) → Q (.ref t) H') ∧
  (∀ H' t c is, (rd n to wt (n + 1)).ch ≠ none → Same H H' → H' t = some (.tup [.non, .ref c]) → H' c = some (.lst (natsV is)) → is.length ≤ n → (∀ i ∈ is, i < 2 * n) → Q (.ref t) H')
abbrev nmFalls : List Str := ["nodes", "edges", "low", "came", "changed", "turn", "number", "here", "to", "weight", "node"]
theorem scFalls : FnScope nmFalls ["nodes", "edges"] (defScope (topS 19)) := ⟨rfl, rfl, rfl, by decide +kernel, rfl, by decide +kernel, by decide +kernel⟩
theorem ok_falls {f : Addr} {fd : FuncData} (F : FnD K "falls" 19 f fd) (G : Glb mg) (CB : Cal P w K mg base CX0 1 "turned_back" ["came", "begin"] spBack) : FnOk P w K mg base CX0 2 f fd ["nodes", "edges"] spFalls := by
  refine F.ok scFalls (fun vs H Q E h => ?_) (fun cdv A outer s H vs Q E hr h => ?_)
  · obtain ⟨a, b, n, es, to, wt, rfl, _⟩ := h
    rfl
  · obtain ⟨a, b, n, es, to, wt, rfl, hn, hto, ha, hb, he, qA, qB⟩ := h
    have hu := hu_of hr
    refine ⟨_, pss_cons (ps_par (i := 2) (j := 3) rfl scFalls.nd rfl rfl (by decide) rfl rfl (pa_cons
        (pe_dc (own := [("node", 10)]) (g := gName 10) (tt := tYes) rfl scFalls.nd (pi_list (pv 0)) (blkOk_by (N := nmFalls) (sc := defScope (topS 19)) (by decide +kernel)) (fun _ _ _ _ _ => pg_name (i := 10) scFalls.nd rfl (Or.inl rfl)) (fun _ _ _ _ _ => pts_nil)
          (fun _ _ _ _ _ => pv 10) (fun _ _ _ _ _ => pe_int))
        (pa_cons (pe_dc (own := [("node", 10)]) (g := gName 10) (tt := tYes) rfl scFalls.nd (pi_list (pv 0)) (blkOk_by (N := nmFalls) (sc := defScope (topS 19)) (by decide +kernel)) (fun _ _ _ _ _ => pg_name (i := 10) scFalls.nd rfl (Or.inl rfl)) (fun _ _ _ _ _ => pts_nil)
          (fun _ _ _ _ _ => pv 10) (fun _ _ _ _ _ => pe_tup (pa_cons (pv 10) (pa_cons pe_non pa_nil)))) pa_nil)) (by rfl))
      (pss_cons (ps_set (i := 4) scFalls.nd rfl (.inl rfl) pe_non)
      (pss_cons (ps_for PassesOwn.never rfl (pi_range1 (by rfl) G.range (pa_cons (pe_op op_add (pe_callB call_len (by rfl) G.len PySem.boot_len (pa_cons (pv 0) pa_nil)) pe_int) pa_nil)) (pg_name (i := 5) scFalls.nd rfl (Or.inl rfl))
        (pss_cons (ps_set (i := 4) scFalls.nd rfl (.inl rfl) pe_non)
        (pss_cons (ps_for PassesOwn.never rfl (pi_enum (by rfl) G.enumerate (pa_cons (pv 1) pa_nil)) (pg_tup rfl (pgs_cons (pg_name (i := 6) scFalls.nd rfl (.inl rfl)) (pgs_cons (pg_tup rfl (pgs_cons (pg_name (i := 7) scFalls.nd rfl (.inl rfl)) (pgs_cons (pg_name (i := 8) scFalls.nd rfl (.inl rfl)) (pgs_cons (pg_name (i := 9) scFalls.nd rfl (.inl rfl)) pgs_nil)))) pgs_nil)))
          (pss_one (ps_if (pt_cmpR op_lt (pe_op op_add (pe_dget hu (pv 2) (pv 7) (fun _ _ => rfl)) (pv 9)) (pe_dget hu (pv 2) (pv 8) (fun _ _ => rfl)) (nomark _))
            (pss_cons (ps_dput hu (pv 2) (pv 8) (pe_op op_add (pe_dget hu (pv 2) (pv 7) (fun _ _ => rfl)) (pv 9)) rfl)
            (pss_cons (ps_dput hu (pv 3) (pv 8) (pe_tup (pa_cons (pv 7) (pa_cons (pv 6) pa_nil))) rfl)
            (pss_one (ps_set (i := 4) scFalls.nd rfl (.inl rfl) (pv 8))))) pss_nil)))
        (pss_one (ps_if (pt_cmpR op_isN (pv 4) pe_non (nomark _)) (pss_one (ps_ret (pe_tup (pa_cons (pv 2) (pa_cons pe_non pa_nil))))) pss_nil)))))
      (pss_one (ps_ret (pe_tup (pa_cons pe_non (pa_cons (pe_cal CB hr (by rfl) (E := E0) pass0 (pa_cons (pv 3) (pa_cons (pv 4) pa_nil))) pa_nil))))))), ?_⟩
    have hbl : es.length = 2 * n := he.1
    refine ⟨_, rfl, a, rfl, ⟨_, SqL.of ha⟩, fun D hD => it_walk (walk_list (K := K) (a := a) (xs := natsV (List.range n))) (fun i H' => Same H H' ∧ ∃ kvs, H' D = some (.dK kvs) ∧ KvF kvs i (LowF (ini).low)) ⟨same_new hD, [], upd_same, KvF.nil⟩ (fun _ _ _ z => SqL.of (z.1 _ _ ha)) ?_ ?_⟩
    · rintro i x H1 H2 hi ⟨sm, kvs, eD, hk⟩ ⟨rfl, hx⟩
      obtain ⟨rfl, hin⟩ := natsV_get hx
      exact ⟨rfl, _, rfl, kvs, ik i, rfl, eD, by rw [hk.len]; exact lt_line (by omega), same_mut sm hD, _, upd_same, hk.grow rfl⟩
    · rintro H1 ⟨sm, kvs, eD, hk⟩
      rw [natsV_len] at hk
      have ha1 := sm _ _ ha
      refine ⟨_, rfl, a, rfl, ⟨_, SqL.of ha1⟩, fun D2 hD2 => it_walk (walk_list (K := K) (a := a) (xs := natsV (List.range n))) (fun i H' => Same H1 H' ∧ ∃ kvs, H' D2 = some (.dK kvs) ∧ KvF kvs i (CameF H' ini)) ⟨same_new hD2, [], upd_same, KvF.nil⟩ (fun _ _ _ z => SqL.of (z.1 _ _ ha1)) ?_ ?_⟩
      · rintro i x H3 H4 hi ⟨sm3, kv2, eD2, hk2⟩ ⟨rfl, hx⟩
        obtain ⟨rfl, hin⟩ := natsV_get hx
        refine ⟨rfl, _, rfl, _, rfl, by show 2 ≤ sizeLine; decide, fun u hu => ⟨kv2, ik i, rfl, by rw [upd_ne (ne_of_none eD2 hu)]; exact eD2, by rw [hk2.len]; exact lt_line (by omega), same_mut (sm3.trans (same_new hu)) hD2, _, upd_same, ?_⟩⟩
        have eu : upd H4 u (.tup [.int (i : Nat), .non]) D2 = some (.dK kv2) := by rw [upd_ne (ne_of_none eD2 hu)]; exact eD2
        refine (hk2.imp fun v y _ z => z.ts (((TupS.refl _).new hu).dK eu)).grow ⟨u, rfl, ?_⟩
        rw [upd_ne (Ne.symm (ne_of_none eD2 hu)), upd_same]
        rfl
      · rintro H3 ⟨sm3, kv2, eD2, hk2⟩
        rw [natsV_len] at hk2
        have hD2' : H D2 = none := sm.free hD2
        have hne : D ≠ D2 := ne_of_none eD hD2
        have T0 : Tabs H3 D D2 n (rd n to wt 0) := ⟨hne, ⟨kvs, sm3 _ _ eD, hk⟩, ⟨kv2, eD2, hk2⟩⟩
        have sm13 := sm.trans sm3
        refine ⟨_, _, rfl, ?_⟩
        refine ⟨_, rfl, _, n, rfl, .inl ⟨_, SqL.of (sm13 _ _ ha), (natsV_len n).symm⟩, _, _, rfl, rfl, _, rfl, ?_, ?_, for_it walk_range (fun k σ H' => ∃ y4 y5 y6 y7 y8 y9, σ = [some (.ref a), some (.ref b), some (.ref D), some (.ref D2), y4, y5, y6, y7, y8, y9, none] ∧ Same H H' ∧ Tabs H' D D2 n (rd n to wt k) ∧ (k = 0 ∨ ∃ v : Nat, v < n ∧ (rd n to wt k).ch = some v ∧ y4 = some (.int (v : Nat))))
          ⟨_, _, _, _, _, _, rfl, sm13, T0, .inl rfl⟩ (fun _ _ _ _ _ => trivial) ?_ ?_⟩
        · omega
        · omega
        · rintro k x σ1 H4 H5 hk' ⟨y4, y5, y6, y7, y8, y9, rfl, sm4, TT, _⟩ ⟨rfl, rfl⟩
          have hkn : k ≤ n := by
            have : k < ((n : Nat) + 1 : Int).toNat := hk'
            omega
          have hb4 := sm4 _ _ hb
          refine ⟨_, rfl, b, es, rfl, SqL.of hb4, for_it (walk_enum (K := K) (a := b) (xs := es)) (fun i σ H' => ∃ y6 y7 y8 y9, σ = [some (.ref a), some (.ref b), some (.ref D), some (.ref D2), some (oN (stp to wt (clr (rd n to wt k)) i).ch), some (.int (0 + (k : Nat))), y6, y7, y8, y9, none] ∧ Same H H' ∧ Tabs H' D D2 n (stp to wt (clr (rd n to wt k)) i))
            ⟨_, _, _, _, rfl, sm4, TT.clr⟩ (fun _ _ _ _ z => by
              obtain ⟨_, _, _, _, _, z, _⟩ := z
              exact SqL.of (z _ _ hb)) ?_ ?_⟩
          · rintro i x σ2 H6 H7 hi ⟨z6, z7, z8, z9, rfl, sm6, TI⟩ ⟨u, x1, x2, rfl, hu6, rfl, e1, e2⟩
            have e1 := Option.some.inj e1
            subst e1
            have hi2 : i < 2 * n := by rw [← hbl]; exact hi
            obtain ⟨p, ep, hp⟩ := he.2 i hi2
            have ex : x2 = .ref p := Option.some.inj (e2.symm.trans ep)
            subst ex
            have smu := sm6.trans (same_new (o := .tup [.int (i : Nat), .ref p]) hu6)
            have TU := TI.same (same_new (o := .tup [.int (i : Nat), .ref p]) hu6)
            generalize hH7 : upd H6 u (.tup [.int (i : Nat), .ref p]) = H7 at *
            have eu7 : H7 u = some (.tup [.int (i : Nat), .ref p]) := by rw [← hH7, upd_same]
            have hp7 : H7 p = some (.tup [.int ((i / 2 : Nat) : Int), .int (to (i / 2) (hd i) : Nat), .int (wt (i / 2) (hd i))]) := smu _ _ hp
            generalize hS : stp to wt (clr (rd n to wt k)) i = S at *
            have hS1 : stp to wt (clr (rd n to wt k)) (i + 1) = relax to wt S i := by rw [← hS]; rfl
            rw [hS1]
            obtain ⟨_, ⟨k1, l1, m1⟩, k2, l2, m2⟩ := TU
            have hin : i / 2 < n := by omega
            have htn := hto (i / 2) (hd i) hin
            obtain ⟨w1, v1, rfl⟩ := m1.2 _ hin
            obtain ⟨w2, v2, rfl⟩ := m1.2 _ htn
            refine ⟨u, _, rfl, SqT.of eu7, rfl, _, _, rfl, _, _, rfl, p, _, rfl, SqT.of hp7, rfl, _, _, rfl, _, _, rfl, _, _, rfl, rfl, rfl, ?_⟩
            refine ⟨_, rfl, _, rfl, D, _, rfl, dgetI l1 v1, _, rfl, _, _, rfl, rfl, _, rfl, _, rfl, D, _, rfl, dgetI l1 v2, _, _, rfl, rfl, _, rfl, ite2 (fun lt => ?_) (fun lt => ?_)⟩
            · have lt := of_decide_eq_true lt
              refine ⟨_, rfl, _, rfl, D, _, rfl, dgetI l1 v1, _, rfl, _, _, rfl, rfl, _, rfl, _, rfl, D, _, rfl, DPut.k (k := ik (to (i / 2) (hd i))) l1 (by rw [m1.len]; exact lt_line (by omega)), ?_⟩
              refine ⟨_, rfl, _, rfl, by show 2 ≤ sizeLine; decide, fun t ht => ?_⟩
              have htD : t ≠ D := fun z => by rw [z, upd_same] at ht; cases ht
              have ht7 : H7 t = none := by rw [upd_ne htD] at ht; exact ht
              refine ⟨_, rfl, _, rfl, D2, _, rfl, DPut.k (k := ik (to (i / 2) (hd i))) (kvs := k2) ?_ (by rw [m2.len]; exact lt_line (by omega)), ?_⟩
              · rw [upd_ne (ne_of_none l2 ht7), upd_ne (Ne.symm hne)]; exact l2
              · have TR := Tabs.relax (to := to) (w := wt) (s := S) hne l1 m1 l2 m2 htn lt ht7
                have hrc : (relax to wt S i).ch = some (to (i / 2) (hd i)) := by rw [relax_yes lt]
                refine ⟨_, rfl, ?_⟩
                rw [hrc]
                exact ⟨_, _, _, _, rfl, same_mut (same_mut (H' := upd H7 D _) (same_mut smu hD) (smu.free ht7)) hD2', TR⟩
            · have lt : ¬ _ := fun z => lt (decide_eq_true z)
              rw [relax_no lt]
              exact ⟨_, _, _, _, rfl, smu, hne, ⟨k1, l1, m1⟩, k2, l2, m2⟩
          · rintro σ2 H6 ⟨z6, z7, z8, z9, rfl, sm6, TI⟩
            rw [hbl] at TI ⊢
            have TI : Tabs H6 D D2 n (rd n to wt (k + 1)) := TI
            have hS : stp to wt (clr (rd n to wt k)) (2 * n) = rd n to wt (k + 1) := rfl
            rw [hS]
            cases hch : (rd n to wt (k + 1)).ch with
            | none =>
              refine ⟨_, rfl, rfl, _, rfl, iteT ?_⟩
              refine ⟨_, rfl, by show 2 ≤ sizeLine; decide, fun t ht => ?_⟩
              obtain ⟨_, ⟨k1, l1, m1⟩, _⟩ := TI
              exact qA k _ t D _ k1 hkn hch (sm6.trans (same_new ht)) upd_same (by rw [upd_ne (ne_of_none l1 ht)]; exact l1) m1
            | some v =>
              refine ⟨_, rfl, rfl, _, rfl, iteF ?_⟩
              refine ⟨_, _, _, _, _, _, rfl, sm6, TI, .inr ⟨v, ?_, rfl, rfl⟩⟩
              exact (ch_stp (s := clr (rd n to wt k)) hto rfl (2 * n) (Nat.le_refl _) v hch).1
        · rintro σ1 H4 ⟨y4, y5, y6, y7, y8, y9, rfl, sm4, TT, hy⟩
          have e1 : ((n : Nat) + 1 : Int).toNat = n + 1 := by omega
          rw [e1] at TT hy
          rcases hy with z | ⟨v, hv, hch, rfl⟩
          · omega
          · obtain ⟨_, _, k2, l2, m2⟩ := TT
            have g := good_rd (w := wt) hto (n + 1)
            have hreal := bk_real (w := wt) hto hch
            obtain ⟨p, p0, pn, p1, p2, p3⟩ := bk_circle g hv hreal
            refine ⟨_, rfl, _, rfl, D2, n, 2 * n, v, p, rd n to wt (n + 1), k2, rfl, hn, l2, m2, bk_lt g hv, p0, p1, p2, p3, pn, fun H5 c is sm5 hc hil his => ⟨by show 2 ≤ sizeLine; decide, fun t ht => ?_⟩⟩
            exact qB _ t c is (by rw [hch]; intro z; cases z) ((sm4.trans sm5).trans (same_new ht)) upd_same (by rw [upd_ne (ne_of_none hc ht)]; exact hc) hil his
end
end LH

namespace LH
open PySem PySem.Spec PyProof.Rows L2 LHM LHR
theorem rgV_nats (n : Nat) : rgV 0 (n : Nat) = natsV (List.range n) := by
  unfold rgV natsV
  rw [show ((n : Nat) - 0 : Int).toNat = n by omega]
  refine List.map_congr_left fun i _ => ?_
  rw [Int.zero_add]
def Tp.Wk (T : Tp) : Prop := Works T.n T.to T.dn
section
variable {P : Program} {w : World} {K : PySem.W.Frag} {mg : Str → Option Value} {base : Heap}
/-! ### circuit_or_times -/
def spCirc : Sp := fun vs H Q _ => ∃ (v : V) (b : Addr) (T : Tp) (es : List V), vs = [v, .ref b] ∧ TapeR H v T ∧ T.n ≤ 24 ∧ T.In ∧ H b = some (.lst es) ∧ EdgesR H es T (2 * T.n) ∧
  (T.Wk → ∀ H' t d f kvs, Same H H' → H' t = some (.tup [.ref d, .non]) → H' d = some (.dK kvs) → KvF kvs T.n (LowF f) → Q (.ref t) H') ∧
  (¬ T.Wk → ∀ H' t c, Same H H' → H' t = some (.tup [.non, .ref c]) → Q (.ref t) H')
abbrev nmCirc : List Str := ["tape", "ways", "many", "low", "circuit", "here", "hand", "to", "side", "down", "number"]
theorem scCirc : FnScope nmCirc ["tape", "ways"] (defScope (topS 20)) := ⟨rfl, rfl, rfl, by decide +kernel, rfl, by decide +kernel, by decide +kernel⟩
theorem ok_circ {f : Addr} {fd : FuncData} (F : FnD K "circuit_or_times" 20 f fd) (G : Glb mg) (CF : Cal P w K mg base CX0 2 "falls" ["nodes", "edges"] spFalls) : FnOk P w K mg base CX0 3 f fd ["tape", "ways"] spCirc := by
  refine F.ok scCirc (fun vs H Q E h => ?_) (fun cdv A outer s H vs Q E hr h => ?_)
  · obtain ⟨v, b, T, es, rfl, _⟩ := h
    rfl
  · obtain ⟨v, b, T, es, rfl, ⟨a, wk, c, ws, rfl, ha, hwk, hlen, hc, hw⟩, hn, hin, hb, he, qA, qB⟩ := h
    refine ⟨_, pss_cons (ps_set (i := 2) scCirc.nd rfl (.inr rfl) (pe_callB call_len (by rfl) G.len PySem.boot_len (pa_cons (pe_ix ix_tup (pv 0) pe_int (fun _ _ => rfl)) pa_nil)))
      (pss_cons (ps_asg (pe_cal CF hr (by rfl) (E := E0) pass0 (pa_cons (pe_listRg rfl (by rfl) G.list (prg_1 (by rfl) G.range (pv 2)))
          (pa_cons (pe_lc (own := [("here", 5), ("hand", 6), ("to", 7), ("side", 8), ("down", 9)]) (g := gTup K 5 (gCons (gName 5) (gCons (gName 6) (gCons (gName 7) (gCons (gName 8) (gCons (gName 9) gNil)))))) (tt := tYes) rfl scCirc.nd (pi_list (pv 1)) (blkOk_by (N := nmCirc) (sc := defScope (topS 20)) (by decide +kernel))
              (fun _ _ _ _ _ => pg_tup rfl (pgs_cons (pg_name (i := 5) scCirc.nd rfl (Or.inl rfl)) (pgs_cons (pg_name (i := 6) scCirc.nd rfl (Or.inl rfl)) (pgs_cons (pg_name (i := 7) scCirc.nd rfl (Or.inl rfl)) (pgs_cons (pg_name (i := 8) scCirc.nd rfl (Or.inl rfl)) (pgs_cons (pg_name (i := 9) scCirc.nd rfl (Or.inl rfl)) pgs_nil)))))) (fun _ _ _ _ _ => pts_nil)
              (fun _ _ _ _ _ => pe_tup (pa_cons (pv 5) (pa_cons (pv 7) (pa_cons (pe_op op_sub (pe_op op_mul (pv 2) (pv 9)) pe_int) pa_nil))))) pa_nil)))
          (pg_tup (by rfl) (pgs_cons (pg_name (i := 3) scCirc.nd rfl (.inl rfl)) (pgs_cons (pg_name (i := 4) scCirc.nd rfl (.inl rfl)) pgs_nil))))
      (pss_cons (ps_if (pt_cmpR op_isN (pv 4) pe_non (nomark _)) (pss_one (ps_ret (pe_tup (pa_cons (pv 3) (pa_cons pe_non pa_nil))))) pss_nil)
      (pss_one (ps_ret (pe_tup (pa_cons pe_non (pa_cons (pe_callTy call_tuple_of (by rfl) G.tuple b_tuple (pa_cons
          (pe_lc (own := [("number", 10)]) (g := gName 10) (tt := tYes) rfl scCirc.nd (pi_list (pv 4)) (blkOk_by (N := nmCirc) (sc := defScope (topS 20)) (by decide +kernel)) (fun _ _ _ _ _ => pg_name (i := 10) scCirc.nd rfl (Or.inl rfl)) (fun _ _ _ _ _ => pts_nil)
            (fun _ _ _ _ _ => pe_tup (pa_cons (pe_ix (ixT K) (pe_ix (ixL K) (pv 1) (pv 10) (fun _ _ => rfl)) pe_int (fun _ _ => rfl)) (pa_cons (pe_ix (ixT K) (pe_ix (ixL K) (pv 1) (pv 10) (fun _ _ => rfl)) pe_int (fun _ _ => rfl)) pa_nil)))) pa_nil)) pa_nil))))))), ?_⟩
    refine ⟨_, rfl, a, _, _, _, rfl, rfl, SqT.of ha, atI_nat (j := 0) rfl, _, T.n, rfl, .inr ⟨_, SqT.of hwk, by rw [List.length_map, hlen]⟩, ?_⟩
    refine ⟨_, rfl, _, rfl, RgOk.of_le (by omega) (by omega) (by omega) (by omega), fun l hl => ?_⟩
    have s1 : Same H (upd H l (.lst (rgV 0 (T.n : Nat)))) := same_new hl
    refine ⟨_, rfl, b, rfl, ⟨_, SqL.of (s1 _ _ hb)⟩, fun D hD => lc_walk (walk_list (K := K) (a := b) (xs := es)) [some (.ref a), some (.ref b), some (.int (T.n : Nat)), none, none, none, none, none, none, none, none] (by rfl) (fun i H' => Same (upd H l (.lst (rgV 0 (T.n : Nat)))) H' ∧ ∃ ds, H' D = some (.lst ds) ∧ EdgesW H' ds T.to (wt T.n T.dn) i) ⟨same_new hD, [], upd_same, rfl, fun i hi => by omega⟩ (fun _ _ _ z => SqL.of (z.1 _ _ (s1 _ _ hb))) ?_ ?_⟩
    · rintro i x H1 H2 hi ⟨sm, ds, eD, hds⟩ ⟨rfl, hx⟩
      have sm1 := s1.trans sm
      have hi : i < 2 * T.n := by rw [← he.1]; exact hi
      obtain ⟨p, ep, hp⟩ := he.2 i hi
      have ex : x = .ref p := Option.some.inj (hx.symm.trans ep)
      subst ex
      have hp2 : H2 p = some (.tup [.int ((i / 2 : Nat) : Int), sideV (hd i), .int (T.to (i / 2) (hd i) : Nat), sideV (T.sd (i / 2) (hd i)), .int (T.dn (i / 2) (hd i))]) := sm1 _ _ hp
      refine ⟨p, _, rfl, SqT.of hp2, rfl, _, _, rfl, _, _, rfl, _, _, rfl, _, _, rfl, _, _, rfl, rfl, rfl, ?_⟩
      refine ⟨_, rfl, _, rfl, _, rfl, _, rfl, _, _, rfl, rfl, .inl ⟨by omega, by omega⟩, _, _, rfl, rfl, by show 3 ≤ sizeLine; decide, fun t ht => ⟨ds, (new_at eD ht).2, ?_, ?_⟩⟩
      · have := hds.1
        exact lt_line (by omega)
      · exact ⟨same_mut (sm.trans (same_new ht)) hD, _, upd_same, (hds.ts (new_ts eD ht)).snoc (new_u eD ht)⟩
    · rintro H1 ⟨sm, ds, eD, hds⟩
      rw [he.1] at hds
      have sm1 := s1.trans sm
      refine ⟨l, D, T.n, ds, T.to, wt T.n T.dn, rfl, hn, hin, ?_, eD, hds, ?_, ?_⟩
      · rw [← rgV_nats]
        exact sm _ _ upd_same
      · intro k H2 t d f kvs hk hch sm2 ht hd hkv
        refine ⟨t, _, rfl, SqT.of ht, rfl, _, _, rfl, _, _, rfl, rfl, ?_⟩
        refine ⟨_, rfl, rfl, _, rfl, iteT ⟨_, rfl, by show 2 ≤ sizeLine; decide, fun u hu => ?_⟩⟩
        exact qA (works_falls hin hch) _ u d f kvs ((sm1.trans sm2).trans (same_new hu)) upd_same (by rw [upd_ne (ne_of_none hd hu)]; exact hd) hkv
      · intro H2 t c2 is hch sm2 ht hc2 hil his
        have sm12 := sm1.trans sm2
        refine ⟨t, _, rfl, SqT.of ht, rfl, _, _, rfl, _, _, rfl, rfl, ?_⟩
        refine ⟨_, rfl, rfl, _, rfl, iteF ?_⟩
        refine ⟨_, rfl, c2, rfl, ⟨_, SqL.of hc2⟩, fun D2 hD2 => it_walk (walk_list (K := K) (a := c2) (xs := natsV is)) (fun i H' => Same H2 H' ∧ ∃ ds, H' D2 = some (.lst ds) ∧ ds.length = i) ⟨same_new hD2, [], upd_same, rfl⟩ (fun _ _ _ z => SqL.of (z.1 _ _ hc2)) ?_ ?_⟩
        · rintro i x H3 H4 hi ⟨sm4, ds2, eD2, hl2⟩ ⟨rfl, hx⟩
          have hxm := List.mem_of_getElem? hx
          unfold natsV at hxm
          obtain ⟨j, hj, rfl⟩ := List.mem_map.mp hxm
          have hj2 := his j hj
          obtain ⟨p, ep, hp⟩ := he.2 j hj2
          have sm4' := sm12.trans sm4
          have hb4 := sm4' _ _ hb
          have hp4 : H4 p = some (.tup [.int ((j / 2 : Nat) : Int), sideV (hd j), .int (T.to (j / 2) (hd j) : Nat), sideV (T.sd (j / 2) (hd j)), .int (T.dn (j / 2) (hd j))]) := sm4' _ _ hp
          refine ⟨rfl, _, rfl, _, rfl, b, _, _, _, rfl, rfl, SqL.of hb4, atI_nat ep, p, _, _, _, rfl, rfl, SqT.of hp4, atI_nat (j := 0) rfl, _, rfl, _, rfl, b, _, _, _, rfl, rfl, SqL.of hb4, atI_nat ep, p, _, _, _, rfl, rfl, SqT.of hp4, atI_nat (j := 1) rfl, by show 2 ≤ sizeLine; decide, fun t ht => ⟨ds2, (new_at eD2 ht).2, ?_, same_mut (sm4.trans (same_new ht)) hD2, _, upd_same, by simp [hl2]⟩⟩
          have hlen2 : i < is.length := by
            have : i < (natsV is).length := hi
            unfold natsV at this
            rw [List.length_map] at this
            exact this
          rw [hl2]
          exact lt_line (by omega)
        · rintro H3 ⟨sm4, ds2, eD2, hl2⟩
          refine ⟨D2, _, rfl, .inl ⟨SqL.of eD2, fun u hu => ⟨by show 2 ≤ sizeLine; decide, fun p hp => ?_⟩⟩⟩
          exact qB (not_works hin hch) _ p u ((sm12.trans sm4).trans ((same_new hu).trans (same_new hp))) upd_same
end
end LH

namespace LH
open PySem PySem.Spec PyProof.Rows L2 LHM LHR
abbrev Oop (P : Program) (K : PySem.W.Frag) (mg : Str → Option Value) (C fI cc cda : Addr) : Prop := PySem.OopX.OopTxt P K mg C fI cc cda (L2.defArgs PySem.OopX.sOI) (L2.defBody PySem.OopX.sOI) (L2.defScope PySem.OopX.sOI)
section
variable {P : Program} {w : World} {K : PySem.W.Frag} {mg : Str → Option Value} {base : Heap}
theorem dgetI0 {H : Hp} {d : Addr} {kvs : List (Key × V)} {v : Nat} {x : V} (hd : H d = some (.dK kvs)) (hv : valV kvs (ik v) = some x) : DGet H d (.int (0 + (v : Nat))) (some x) := by
  rw [Int.zero_add]
  exact dgetI hd hv
/-! ### times_of -/
def spTimes : Sp := fun vs H Q _ => ∃ (v : V) (T : Tp), vs = [v] ∧ TapeR H v T ∧ T.n ≤ 24 ∧ T.In ∧ (T.Wk → ∀ H' p, Same H H' → Q (.ref p) H') ∧ (¬ T.Wk → ∀ H', Same H H' → Q .non H')
abbrev nmTimes : List Str := ["tape", "low", "circuit", "number"]
theorem scTimes : FnScope nmTimes ["tape"] (defScope (topS 21)) := ⟨rfl, rfl, rfl, by decide +kernel, rfl, by decide +kernel, by decide +kernel⟩
theorem ok_times {f : Addr} {fd : FuncData} (F : FnD K "times_of" 21 f fd) (G : Glb mg) (CE : Cal P w K mg base CX0 1 "tape_ways" ["tape"] spEdges) (CC : Cal P w K mg base CX0 3 "circuit_or_times" ["tape", "ways"] spCirc) : FnOk P w K mg base CX0 4 f fd ["tape"] spTimes := by
  refine F.ok scTimes (fun vs H Q E h => ?_) (fun cdv A outer s H vs Q E hr h => ?_)
  · obtain ⟨v, T, rfl, _⟩ := h
    rfl
  · obtain ⟨v, T, rfl, hT, hn, hin, qA, qB⟩ := h
    have hr1 : Room 1 _ := hr.mono (by decide)
    refine ⟨_, pss_cons (ps_asg (pe_cal CC hr (by rfl) (E := E0) pass0 (pa_cons (pv 0) (pa_cons (pe_cal CE hr1 (by rfl) (E := E0) pass0 (pa_cons (pv 0) pa_nil)) pa_nil)))
          (pg_tup (by rfl) (pgs_cons (pg_name (i := 1) scTimes.nd rfl (.inr rfl)) (pgs_cons (pg_name (i := 2) scTimes.nd rfl (.inl rfl)) pgs_nil))))
      (pss_one (ps_ret (pe_ifExp (pt_cmpR op_isN (pv 2) pe_non (nomark _)) (pe_callTy call_tuple_of (by rfl) G.tuple b_tuple (pa_cons
          (pe_lc (own := [("number", 3)]) (g := gName 3) (tt := tYes) rfl scTimes.nd (pi_range1 (by rfl) G.range (pa_cons (pe_callB call_len (by rfl) G.len PySem.boot_len (pa_cons (pe_ix ix_tup (pv 0) pe_int (fun _ _ => rfl)) pa_nil)) pa_nil)) (blkOk_by (N := nmTimes) (sc := defScope (topS 21)) (by decide +kernel)) (fun _ _ _ _ _ => pg_name (i := 3) scTimes.nd rfl (Or.inl rfl)) (fun _ _ _ _ _ => pts_nil)
            (fun _ _ _ _ _ => pe_op op_sub pe_int (pe_dget (hu_of hr) (pv 1) (pv 3) (fun _ _ => rfl)))) pa_nil)) pe_non))), ?_⟩
    refine ⟨_, rfl, _, rfl, v, T, rfl, hT, hn, fun H1 b es sm hb0 hb he => ?_⟩
    refine ⟨v, b, T, es, rfl, hT.same sm, hn, hin, hb, he, ?_, ?_⟩
    · intro hwk H2 t d f kvs sm2 ht hd hkv
      obtain ⟨a, wk, c, ws, rfl, ha, hwk', hlen, hc, hw⟩ := hT.same (sm.trans sm2)
      refine ⟨t, _, rfl, SqT.of ht, rfl, _, _, rfl, _, _, rfl, rfl, ?_⟩
      refine ⟨_, rfl, rfl, _, rfl, iteT ?_⟩
      refine ⟨_, rfl, a, _, _, _, rfl, rfl, SqT.of ha, atI_nat (j := 0) rfl, _, T.n, rfl, .inr ⟨_, SqT.of hwk', by rw [List.length_map, hlen]⟩, _, rfl, by omega, by omega, fun D hD => lc_walk walk_range [some (.ref a), some (.ref d), some .non, none] (by rfl) (fun i H' => Same H2 H' ∧ ∃ ds, H' D = some (.lst ds) ∧ ds.length = i) ⟨same_new hD, [], upd_same, rfl⟩ (fun _ _ _ _ => trivial) ?_ ?_⟩
      · rintro i x H3 H4 hi ⟨sm4, ds, eD, hl⟩ ⟨rfl, rfl⟩
        have hin2 : i < T.n := by
          have : i < ((T.n : Nat) : Int).toNat := hi
          omega
        obtain ⟨y, e1, rfl⟩ := hkv.2 i hin2
        refine ⟨rfl, _, rfl, _, rfl, d, .int (f i), rfl, dgetI0 (sm4 _ _ hd) e1, 0, f i, rfl, rfl, ds, eD, lt_line (by omega), same_mut sm4 hD, _, upd_same, by simp [hl]⟩
      · rintro H3 ⟨sm4, ds, eD, hl⟩
        exact ⟨D, _, rfl, .inl ⟨SqL.of eD, fun u hu => qA hwk _ u (((sm.trans sm2).trans sm4).trans (same_new hu))⟩⟩
    · intro hwk H2 t c sm2 ht
      refine ⟨t, _, rfl, SqT.of ht, rfl, _, _, rfl, _, _, rfl, rfl, ?_⟩
      refine ⟨_, rfl, rfl, _, rfl, iteF ?_⟩
      exact qB hwk _ (sm.trans sm2)
/-! ### need_going -/
def spGoing (C : Addr) : Sp := fun vs H Q E => ∃ (v : V) (T : Tp), vs = [v] ∧ TapeR H v T ∧ T.Good ∧ (T.Wk → ∀ H', Same H H' → Q .non H') ∧ (¬ T.Wk → ∀ H', Same H H' → E (.ref C) none H')
theorem scGoing : FnScope ["tape"] ["tape"] (defScope (topS 22)) := ⟨rfl, rfl, rfl, by decide +kernel, rfl, by decide +kernel, by decide +kernel⟩
theorem ok_going {C fI cc cda f : Addr} {fd : FuncData} (F : FnD K "need_going" 22 f fd) (O : Oop P K mg C fI cc cda) (CT : Cal P w K mg base CX0 4 "need_tape" ["thing"] spTape) (CM : Cal P w K mg base CX0 4 "times_of" ["tape"] spTimes) : FnOk P w K mg base (L2.CX P w) 5 f fd ["tape"] (spGoing C) := by
  refine F.okX scGoing (fun vs H Q E h => ?_) (fun cdv A outer s H vs Q E hr h => ?_)
  · obtain ⟨v, T, rfl, _⟩ := h
    rfl
  · obtain ⟨v, T, rfl, hT, g, qA, qB⟩ := h
    refine ⟨_, pss_one (ps_if (pt_cmpR op_isN (pe_cal CM hr (by rfl) (E := E0) pass0 (pa_cons (pe_cal CT hr (by rfl) (E := E0) pass0 (pa_cons (pv 0) pa_nil)) pa_nil)) pe_non (nomark _))
      (pss_one (ps_raise rfl (takes_of rfl rfl rfl rfl) (pmk_oop O hr (by rfl)))) pss_nil), ?_⟩
    refine ⟨_, rfl, v, T, rfl, hT, g, fun H1 sm => ⟨v, T, rfl, hT.same sm, g.n24, g.inn, fun hwk H2 p sm2 => ?_, fun hwk H2 sm2 => ?_⟩⟩
    · exact ⟨rfl, _, rfl, iteF (qA hwk _ (sm.trans sm2))⟩
    · exact ⟨rfl, _, rfl, iteT (qB hwk _ (sm.trans sm2))⟩
end
end LH

namespace LH
open PySem PySem.Spec PyProof.Rows L2 LHM LHR
theorem min_mn (o : Option Int) (d : Int) : (if d < o.getD d then d else o.getD d) = mn o d := by
  cases o with
  | none => show (if d < d then d else d) = d; split <;> rfl
  | some x =>
    show (if d < x then d else x) = if x < d then x else d
    split <;> split <;> omega
theorem lt_line2 {n : Nat} (h : n ≤ 100000) : n < sizeLine := Nat.lt_of_le_of_lt h (by decide)
/-- found -/
structure FdR (H : Hp) (d : Addr) (n : Nat) (f : Fd) (c : Nat) : Prop where
  ex : ∃ kvs, H d = some (.dK kvs) ∧ kvs.length ≤ c ∧ ∀ v, v < n → valV kvs (ik v) = (f v).map V.int
theorem FdR.keep {H H' : Hp} {d : Addr} {n : Nat} {f : Fd} {c c' : Nat} (h : FdR H d n f c) (e : H' d = H d) (hc : c ≤ c') : FdR H' d n f c' := by
  obtain ⟨kvs, a, b, g⟩ := h.ex
  exact ⟨kvs, e.trans a, by omega, g⟩
theorem FdR.same {H H' : Hp} {d : Addr} {n : Nat} {f : Fd} {c : Nat} (h : FdR H d n f c) (e : Same H H') : FdR H' d n f c := by
  obtain ⟨kvs, a, b, g⟩ := h.ex
  exact ⟨kvs, e _ _ a, b, g⟩
theorem FdR.put {H : Hp} {d : Addr} {n t c : Nat} {f : Fd} {x : Int} {kvs : List (Key × V)} (hl : kvs.length ≤ c) (g : ∀ v, v < n → valV kvs (ik v) = (f v).map V.int) (ht : t < n) : FdR (upd H d (.dK (putK kvs (ik t) (.int x)))) d n (upf f t (some x)) (c + 1) := by
  refine ⟨_, upd_same, by have := length_putK kvs (ik t) (.int x); omega, fun v hv => ?_⟩
  rw [valV_put]
  by_cases e : v = t
  · subst e
    rw [if_pos rfl, upf_same]
    rfl
  · rw [if_neg fun z => e (ik_inj z), upf_ne e]
    exact g v hv
theorem FdR.get {H : Hp} {d : Addr} {n v c : Nat} {f : Fd} (h : FdR H d n f c) (hv : v < n) : DGet H d (.int (v : Nat)) ((f v).map V.int) := by
  obtain ⟨kvs, a, b, g⟩ := h.ex
  exact .inl ⟨kvs, ik v, .inl a, rfl, (g v hv).symm⟩
theorem FdR.getI {H : Hp} {d : Addr} {n v c : Nat} {f : Fd} {x : Int} (h : FdR H d n f c) (hv : v < n) (e : f v = some x) : DGet H d (.int (v : Nat)) (some (.int x)) := by
  have := h.get hv
  rw [e] at this
  exact this
theorem FdR.isD {H : Hp} {d : Addr} {n c : Nat} {f : Fd} (h : FdR H d n f c) : IsD H d := by
  obtain ⟨kvs, a, _⟩ := h.ex
  exact .inl ⟨kvs, .inl a⟩
theorem FdR.dput {H : Hp} {d : Addr} {n t c : Nat} {f : Fd} {x : Int} (h : FdR H d n f c) (ht : t < n) (hc : c ≤ 10000) : ∃ H', DPut H d (.int (t : Nat)) (.int x) H' ∧ FdR H' d n (upf f t (some x)) (c + 1) ∧ TupS H H' ∧ (∀ b, b ≠ d → H' b = H b) := by
  obtain ⟨kvs, a, b, g⟩ := h.ex
  exact ⟨_, DPut.k (k := ik t) a (lt_line2 (by omega)), FdR.put b g ht, (TupS.refl H).dK a, fun z hz => upd_ne hz⟩
theorem optGet (o : Option Int) (d : Int) : (o.map V.int).getD (.int d) = .int (o.getD d) := by cases o <;> rfl
theorem same_off {H H1 H' : Hp} {d : Addr} (sm : Same H H1) (hd : H d = none) (k : ∀ b, b ≠ d → H' b = H1 b) : Same H H' := fun b o e => by
  rw [k b (ne_of_none e hd)]; exact sm _ _ e
/-- what is no stitch -/
def BadSt (K : PySem.W.Frag) (H : Hp) (n : Nat) (x : V) : Prop := ∀ H', Same H H' → (∃ i : Int, x = .int i ∧ (i < 0 ∨ (n : Int) ≤ i)) ∨ NotInt K H' x
theorem whB {v n : Nat} (h : v < n) : (V.bl (lowB (v : Nat) (some 0) && highB (v : Nat) (some ((n : Nat) - 1)))) = .bl true := by
  show V.bl (decide ((0 : Int) ≤ (v : Nat)) && decide (((v : Nat) : Int) ≤ (n : Nat) - 1)) = .bl true
  rw [decide_eq_true (show (0 : Int) ≤ (v : Nat) by omega), decide_eq_true (show ((v : Nat) : Int) ≤ (n : Nat) - 1 by omega)]
  rfl
theorem whF {i : Int} {n : Nat} (h : i < 0 ∨ (n : Int) ≤ i) : (V.bl (lowB i (some 0) && highB i (some ((n : Nat) - 1)))) = .bl false := by
  show V.bl (decide ((0 : Int) ≤ i) && decide (i ≤ (n : Nat) - 1)) = .bl false
  rcases h with h | h
  · rw [decide_eq_false (show ¬ (0 : Int) ≤ i by omega)]
    rfl
  · rw [decide_eq_false (show ¬ i ≤ (n : Nat) - 1 by omega), Bool.and_false]
section
variable {P : Program} {w : World} {K : PySem.W.Frag} {mg : Str → Option Value} {base : Heap}
/-! ### lead -/
def spLead (K : PySem.W.Frag) (C : Addr) : Sp := fun vs H Q E => ∃ (v x y : V) (T : Tp), vs = [v, x, y] ∧ TapeR H v T ∧ T.Good ∧ (¬ T.Wk → ∀ H', Same H H' → E (.ref C) none H') ∧
  (T.Wk → (∃ a b : Nat, x = .int (a : Nat) ∧ a < T.n ∧ y = .int (b : Nat) ∧ b < T.n ∧ ∀ H', Same H H' → Q (oV (leadF T.n T.to T.dn a b)) H') ∨ (BadSt K H T.n x ∧ ∀ H', Same H H' → E (.ref C) none H') ∨ (∃ a : Nat, x = .int (a : Nat) ∧ a < T.n ∧ BadSt K H T.n y ∧ ∀ H', Same H H' → E (.ref C) none H'))
abbrev nmLead : List Str := ["tape", "first", "last", "stitch", "found", "here", "hand", "to", "side", "down", "turn"]
theorem scLead : FnScope nmLead ["tape", "first", "last"] (defScope (topS 23)) := ⟨rfl, rfl, rfl, by decide +kernel, rfl, by decide +kernel, by decide +kernel⟩
theorem b_min : bootBuiltins "min" = some (.builtin "min") := by decide +kernel
theorem ok_lead {C fI cc cda f : Addr} {fd : FuncData} (F : FnD K "lead" 23 f fd) (G : Glb mg) (O : Oop P K mg C fI cc cda) (CG : Cal P w K mg base (L2.CX P w) 5 "need_going" ["tape"] (spGoing C)) (CW : Cal P w K mg base CX0 1 "is_whole" ["thing", "least", "most"] (spWhole K)) (CE : Cal P w K mg base CX0 1 "tape_ways" ["tape"] spEdges) :
    FnOk P w K mg base (L2.CX P w) 6 f fd ["tape", "first", "last"] (spLead K C) := by
  refine F.okX scLead (fun vs H Q E h => ?_) (fun cdv A outer s H vs Q E hr h => ?_)
  · obtain ⟨v, x, y, T, rfl, _⟩ := h
    rfl
  · obtain ⟨v, x, y, T, rfl, hT, g, qN, qW⟩ := h
    have hr1 : Room 1 _ := hr.mono (by decide)
    have hu := hu_of hr
    refine ⟨_, pss_cons (ps_expr (pe_cal CG hr (by rfl) (E := E) (passes_call (takes_of rfl rfl rfl rfl) (fun _ _ _ _ z => z)) (pa_cons (pv 0) pa_nil)))
      (pss_cons (ps_for (passes_of rfl) rfl (pi_tup (pe_tup (pa_cons (pv 1) (pa_cons (pv 2) pa_nil)))) (pg_name (i := 3) scLead.nd rfl (.inl rfl))
        (pss_one (ps_if (pt_not (pt_val (pe_cal CW hr1 (by rfl) (E := E0) pass0 (pa_cons (pv 3) (pa_cons pe_int (pa_cons (pe_op op_sub (pe_callB call_len (by rfl) G.len PySem.boot_len (pa_cons (pe_ix ix_tup (pv 0) pe_int (fun _ _ => rfl)) pa_nil)) pe_int) pa_nil))))))
          (pss_one (ps_raise rfl (takes_of rfl rfl rfl rfl) (pmk_oop O hr (by rfl)))) pss_nil)))
      (pss_cons (ps_set (i := 4) scLead.nd rfl (.inl rfl) pe_dnewK)
      (pss_cons (ps_for (passes_of rfl) rfl (pi_list (pe_cal CE hr1 (by rfl) (E := E0) pass0 (pa_cons (pv 0) pa_nil))) (pg_tup rfl (pgs_cons (pg_name (i := 5) scLead.nd rfl (Or.inl rfl)) (pgs_cons (pg_name (i := 6) scLead.nd rfl (Or.inl rfl)) (pgs_cons (pg_name (i := 7) scLead.nd rfl (Or.inl rfl)) (pgs_cons (pg_name (i := 8) scLead.nd rfl (Or.inl rfl)) (pgs_cons (pg_name (i := 9) scLead.nd rfl (Or.inl rfl)) pgs_nil))))))
        (pss_one (ps_if (pt_cmpR op_eq (pv 5) (pv 1) (nomark _))
          (pss_one (ps_dput hu (pv 4) (pv 7) (pe_callB (call_min2 rfl) (by rfl) G.min b_min (pa_cons (pe_dget2 hu (pv 4) (pv 7) (pv 9) ⟨by rfl, by rfl, by rfl, by rfl⟩) (pa_cons (pv 9) pa_nil))) rfl)) pss_nil)))
      (pss_cons (ps_for (passes_of rfl) rfl (pi_range1 (by rfl) G.range (pa_cons (pe_callB call_len (by rfl) G.len PySem.boot_len (pa_cons (pe_ix ix_tup (pv 0) pe_int (fun _ _ => rfl)) pa_nil)) pa_nil)) (pg_name (i := 10) scLead.nd rfl (.inl rfl))
        (pss_one (ps_for (passes_of rfl) rfl (pi_list (pe_cal CE hr1 (by rfl) (E := E0) pass0 (pa_cons (pv 0) pa_nil))) (pg_tup rfl (pgs_cons (pg_name (i := 5) scLead.nd rfl (Or.inl rfl)) (pgs_cons (pg_name (i := 6) scLead.nd rfl (Or.inl rfl)) (pgs_cons (pg_name (i := 7) scLead.nd rfl (Or.inl rfl)) (pgs_cons (pg_name (i := 8) scLead.nd rfl (Or.inl rfl)) (pgs_cons (pg_name (i := 9) scLead.nd rfl (Or.inl rfl)) pgs_nil))))))
          (pss_one (ps_if (pt_cmp (pc_din hu (pv 5) (pv 4)))
            (pss_one (ps_dput hu (pv 4) (pv 7) (pe_callB (call_min2 rfl) (by rfl) G.min b_min (pa_cons (pe_dget2 hu (pv 4) (pv 7) (pe_op op_add (pe_dget hu (pv 4) (pv 5) (fun _ _ => rfl)) (pv 9)) ⟨by rfl, by rfl, by rfl, by rfl⟩) (pa_cons (pe_op op_add (pe_dget hu (pv 4) (pv 5) (fun _ _ => rfl)) (pv 9)) pa_nil))) rfl)) pss_nil)))))
      (pss_one (ps_ret (pe_dget1 hu (pv 4) (pv 2) ⟨by rfl, by rfl, by rfl, by rfl⟩))))))), ?_⟩
    obtain ⟨av, wk, c, ws, rfl, hav, hwk', hlen, hc, hw⟩ := id hT
    refine ⟨_, rfl, _, T, rfl, hT, g, fun hwk H1 sm => ?_, fun hwk H1 sm => qN hwk _ sm⟩
    rcases qW hwk with ⟨a, b, rfl, ha, rfl, hb, q⟩ | ⟨bad, q⟩ | ⟨a, rfl, ha, bad, q⟩
    · refine ⟨_, rfl, _, rfl, by show 2 ≤ sizeLine; decide, fun u hu' => ⟨u, rfl, ⟨_, SqT.of upd_same⟩, for_it (walk_tup (K := K) (a := u) (xs := [.int (a : Nat), .int (b : Nat)])) (fun i σ H' => ∃ y3, σ = [some (.ref av), some (.int (a : Nat)), some (.int (b : Nat)), y3, none, none, none, none, none, none, none] ∧ Same H H' ∧ H' u = some (.tup [.int (a : Nat), .int (b : Nat)])) ⟨_, rfl, sm.trans (same_new hu'), upd_same⟩ (fun _ _ _ _ z => by
        obtain ⟨_, _, _, z⟩ := z
        exact SqT.of z) ?_ ?_⟩⟩
      · rintro i z σ1 H2 H3 hi ⟨y3, rfl, sm2, e2⟩ ⟨rfl, hz⟩
        obtain ⟨v, rfl, hv⟩ : ∃ v : Nat, z = .int (v : Nat) ∧ v < T.n := by
          match i, hz with
          | 0, hz => exact ⟨a, (Option.some.inj hz).symm, ha⟩
          | 1, hz => exact ⟨b, (Option.some.inj hz).symm, hb⟩
          | i + 2, hz => simp at hz
        exact ⟨_, rfl, _, rfl, av, _, _, _, rfl, rfl, SqT.of (sm2 _ _ hav), atI_nat (j := 0) rfl, _, T.n, rfl, .inr ⟨_, SqT.of (sm2 _ _ hwk'), by rw [List.length_map, hlen]⟩, _, _, rfl, rfl, _, some 0, some ((T.n : Nat) - 1), rfl, .inl ⟨_, rfl, true, whB hv, iteF ⟨_, rfl, sm2, e2⟩⟩⟩
      · rintro σ1 H2 ⟨y3, rfl, sm2, e2⟩
        have hDH : ∀ {d : Addr}, H2 d = none → H d = none := fun h => sm2.free h
        intro D hD
        have hD0 := hDH hD
        have s0 : Same H (upd H2 D (.dK [])) := same_mut sm2 hD0
        have f0 : FdR (upd H2 D (.dK [])) D T.n (bgns T.to T.dn a 0) 0 := ⟨[], upd_same, Nat.le_refl _, fun v _ => rfl⟩
        have n24 := g.n24
        refine ⟨_, rfl, _, T, rfl, hT.same s0, n24, fun H3 p es sm3 hp0 hp he => ⟨p, rfl, ⟨_, SqL.of hp⟩, for_it (walk_list (K := K) (a := p) (xs := es)) (fun i σ H' => ∃ y5 y6 y7 y8 y9, σ = [some (.ref av), some (.int (a : Nat)), some (.int (b : Nat)), y3, some (.ref D), y5, y6, y7, y8, y9, none] ∧ Same H H' ∧ H' p = some (.lst es) ∧ EdgesR H' es T (2 * T.n) ∧ FdR H' D T.n (bgns T.to T.dn a i) i)
          ⟨_, _, _, _, _, rfl, s0.trans sm3, hp, he, f0.same sm3⟩ (fun _ _ _ _ z => by
            obtain ⟨_, _, _, _, _, _, _, z, _⟩ := z
            exact SqL.of z) ?_ ?_⟩⟩
        · rintro i z σ2 H4 H5 hi ⟨y5, y6, y7, y8, y9, rfl, sm4, hp4, he4, f4⟩ ⟨rfl, hz⟩
          have hi2 : i < 2 * T.n := by rw [← he.1]; exact hi
          obtain ⟨q1, e1, hq1⟩ := he4.2 i hi2
          have ez : z = .ref q1 := Option.some.inj (hz.symm.trans e1)
          subst ez
          have hin : i / 2 < T.n := by omega
          have ht := g.inn (i / 2) (hd i) hin
          have hpD : p ≠ D := fun e => by
            obtain ⟨kvs, l, _⟩ := f4.ex
            rw [e, l] at hp4
            cases hp4
          refine ⟨q1, _, rfl, SqT.of hq1, rfl, _, _, rfl, _, _, rfl, _, _, rfl, _, _, rfl, _, _, rfl, rfl, ?_⟩
          refine ⟨_, rfl, _, rfl, rfl, _, rfl, ite2 (fun e => ?_) (fun e => ?_)⟩
          · have e : i / 2 = a := by
              have := V.int.inj (of_decide_eq_true e)
              omega
            obtain ⟨H6, hput, f6, ts, kb⟩ := f4.dput (x := if T.dn (i / 2) (hd i) < (bgns T.to T.dn a i (T.to (i / 2) (hd i))).getD (T.dn (i / 2) (hd i)) then T.dn (i / 2) (hd i) else (bgns T.to T.dn a i (T.to (i / 2) (hd i))).getD (T.dn (i / 2) (hd i))) ht (by omega)
            refine ⟨_, rfl, D, rfl, f4.isD, _, rfl, _, rfl, _, f4.get ht, _, rfl, (bgns T.to T.dn a i (T.to (i / 2) (hd i))).getD (T.dn (i / 2) (hd i)), T.dn (i / 2) (hd i), by rw [optGet], _, rfl, _, rfl, D, H6, rfl, hput, ?_⟩
            refine ⟨_, _, _, _, _, rfl, same_off sm4 hD0 kb, by rw [kb p hpD]; exact hp4, he4.ts ts, ?_⟩
            show FdR H6 D T.n (bgn T.to T.dn a (bgns T.to T.dn a i) i) (i + 1)
            unfold bgn
            rw [if_pos e, ← min_mn]
            exact f6
          · have e : ¬ i / 2 = a := fun z => e (decide_eq_true (by rw [z]))
            refine ⟨_, _, _, _, _, rfl, sm4, hp4, he4, ?_⟩
            show FdR _ D T.n (bgn T.to T.dn a (bgns T.to T.dn a i) i) (i + 1)
            unfold bgn
            rw [if_neg e]
            exact f4.keep rfl (Nat.le_succ _)
        · rintro σ2 H4 ⟨y5, y6, y7, y8, y9, rfl, sm4, hp4, he4, f4⟩
          rw [he.1] at f4
          have f4 : FdR H4 D T.n (tbl T.n T.to T.dn a 0) (2 * T.n) := f4
          refine ⟨_, rfl, av, _, _, _, rfl, rfl, SqT.of (sm4 _ _ hav), atI_nat (j := 0) rfl, _, T.n, rfl, .inr ⟨_, SqT.of (sm4 _ _ hwk'), by rw [List.length_map, hlen]⟩, _, rfl, by omega, by omega, for_it walk_range (fun k σ H' => ∃ y5 y6 y7 y8 y9 y10, σ = [some (.ref av), some (.int (a : Nat)), some (.int (b : Nat)), y3, some (.ref D), y5, y6, y7, y8, y9, y10] ∧ Same H H' ∧ FdR H' D T.n (tbl T.n T.to T.dn a k) (48 * (k + 1)))
            ⟨_, _, _, _, _, _, rfl, sm4, f4.keep rfl (by omega)⟩ (fun _ _ _ _ _ => trivial) ?_ ?_⟩
          · rintro k x σ3 H5 H6 hk ⟨y5, y6, y7, y8, y9, y10, rfl, sm5, f5⟩ ⟨rfl, rfl⟩
            have hk2 : k < T.n := by
              have : k < ((T.n : Nat) : Int).toNat := hk
              omega
            refine ⟨_, rfl, _, T, rfl, hT.same sm5, n24, fun H7 p es sm7 hp0 hp he => ⟨p, rfl, ⟨_, SqL.of hp⟩, for_it (walk_list (K := K) (a := p) (xs := es)) (fun i σ H' => ∃ y5 y6 y7 y8 y9, σ = [some (.ref av), some (.int (a : Nat)), some (.int (b : Nat)), y3, some (.ref D), y5, y6, y7, y8, y9, some (.int (0 + (k : Nat)))] ∧ Same H H' ∧ H' p = some (.lst es) ∧ EdgesR H' es T (2 * T.n) ∧ FdR H' D T.n (trns T.to T.dn (tbl T.n T.to T.dn a k) i) (48 * (k + 1) + i))
              ⟨_, _, _, _, _, rfl, sm5.trans sm7, hp, he, f5.same sm7⟩ (fun _ _ _ _ z => by
                obtain ⟨_, _, _, _, _, _, _, z, _⟩ := z
                exact SqL.of z) ?_ ?_⟩⟩
            · rintro i z σ2 H8 H9 hi ⟨y5, y6, y7, y8, y9, rfl, sm8, hp8, he8, f8⟩ ⟨rfl, hz⟩
              have hi2 : i < 2 * T.n := by rw [← he.1]; exact hi
              obtain ⟨q1, e1, hq1⟩ := he8.2 i hi2
              have ez : z = .ref q1 := Option.some.inj (hz.symm.trans e1)
              subst ez
              have hin : i / 2 < T.n := by omega
              have ht := g.inn (i / 2) (hd i) hin
              have hpD : p ≠ D := fun e => by
                obtain ⟨kvs, l, _⟩ := f8.ex
                rw [e, l] at hp8
                cases hp8
              generalize hF : trns T.to T.dn (tbl T.n T.to T.dn a k) i = F8 at *
              have hF1 : trns T.to T.dn (tbl T.n T.to T.dn a k) (i + 1) = trn T.to T.dn F8 i := by rw [← hF]; rfl
              rw [hF1]
              refine ⟨q1, _, rfl, SqT.of hq1, rfl, _, _, rfl, _, _, rfl, _, _, rfl, _, _, rfl, _, _, rfl, rfl, ?_⟩
              refine ⟨_, rfl, _, rfl, D, _, rfl, f8.get hin, _, rfl, ?_⟩
              cases e8 : F8 (i / 2) with
              | none =>
                rw [trn_no e8]
                exact iteF ⟨_, _, _, _, _, rfl, sm8, hp8, he8, f8.keep rfl (Nat.le_succ _)⟩
              | some y =>
                rw [trn_yes e8]
                obtain ⟨H10, hput, f10, ts, kb⟩ := f8.dput (x := if y + T.dn (i / 2) (hd i) < (F8 (T.to (i / 2) (hd i))).getD (y + T.dn (i / 2) (hd i)) then y + T.dn (i / 2) (hd i) else (F8 (T.to (i / 2) (hd i))).getD (y + T.dn (i / 2) (hd i))) ht (by omega)
                refine iteT ⟨_, rfl, D, rfl, f8.isD, _, rfl, _, rfl, _, rfl, D, _, rfl, f8.getI hin e8, _, rfl, y, T.dn (i / 2) (hd i), rfl, rfl, _, f8.get ht, _, rfl, _, rfl, D, _, rfl, f8.getI hin e8, _, rfl, y, T.dn (i / 2) (hd i), rfl, rfl, (F8 (T.to (i / 2) (hd i))).getD (y + T.dn (i / 2) (hd i)), y + T.dn (i / 2) (hd i), by rw [optGet], _, rfl, _, rfl, D, H10, rfl, hput, ?_⟩
                refine ⟨_, _, _, _, _, rfl, same_off sm8 hD0 kb, by rw [kb p hpD]; exact hp8, he8.ts ts, ?_⟩
                rw [← min_mn]
                exact f10
            · rintro σ2 H8 ⟨y5, y6, y7, y8, y9, rfl, sm8, hp8, he8, f8⟩
              rw [he.1] at f8
              have f8 : FdR H8 D T.n (tbl T.n T.to T.dn a (k + 1)) (48 * (k + 1) + 2 * T.n) := f8
              exact ⟨_, _, _, _, _, _, rfl, sm8, f8.keep rfl (by omega)⟩
          · rintro σ3 H5 ⟨y5, y6, y7, y8, y9, y10, rfl, sm5, f5⟩
            rw [show ((T.n : Nat) : Int).toNat = T.n by omega] at f5
            refine ⟨_, rfl, D, rfl, f5.isD, _, rfl, _, f5.get hb, ?_⟩
            have e : ((tbl T.n T.to T.dn a T.n b).map V.int).getD .non = oV (leadF T.n T.to T.dn a b) := by
              unfold leadF
              cases tbl T.n T.to T.dn a T.n b <;> rfl
            rw [e]
            exact q _ sm5
    · refine ⟨_, rfl, _, rfl, by show 2 ≤ sizeLine; decide, fun u hu' => ⟨u, rfl, ⟨_, SqT.of upd_same⟩, for_it (walk_tup (K := K) (a := u) (xs := [x, y])) (fun i σ H' => i = 0 ∧ σ = [some (.ref av), some x, some y, none, none, none, none, none, none, none, none] ∧ Same H H' ∧ H' u = some (.tup [x, y])) ⟨rfl, rfl, sm.trans (same_new hu'), upd_same⟩ (fun _ _ _ _ z => SqT.of z.2.2.2) ?_ ?_⟩⟩
      · rintro i z σ1 H2 H3 hi ⟨rfl, rfl, sm2, e2⟩ ⟨rfl, hz⟩
        have ez : z = x := (Option.some.inj hz).symm
        subst ez
        refine ⟨_, rfl, _, rfl, av, _, _, _, rfl, rfl, SqT.of (sm2 _ _ hav), atI_nat (j := 0) rfl, _, T.n, rfl, .inr ⟨_, SqT.of (sm2 _ _ hwk'), by rw [List.length_map, hlen]⟩, _, _, rfl, rfl, _, some 0, some ((T.n : Nat) - 1), rfl, ?_⟩
        rcases bad _ sm2 with ⟨k, rfl, hk⟩ | ni
        · exact .inl ⟨_, rfl, false, whF hk, iteT (q _ sm2)⟩
        · exact .inr ⟨ni, false, rfl, iteT (q _ sm2)⟩
      · rintro σ1 H2 ⟨h, _⟩
        cases h
    · refine ⟨_, rfl, _, rfl, by show 2 ≤ sizeLine; decide, fun u hu' => ⟨u, rfl, ⟨_, SqT.of upd_same⟩, for_it (walk_tup (K := K) (a := u) (xs := [.int (a : Nat), y])) (fun i σ H' => i ≤ 1 ∧ ∃ y3, σ = [some (.ref av), some (.int (a : Nat)), some y, y3, none, none, none, none, none, none, none] ∧ Same H H' ∧ H' u = some (.tup [.int (a : Nat), y])) ⟨by omega, _, rfl, sm.trans (same_new hu'), upd_same⟩ (fun _ _ _ _ z => by
        obtain ⟨_, _, _, _, z⟩ := z
        exact SqT.of z) ?_ ?_⟩⟩
      · rintro i z σ1 H2 H3 hi ⟨hi1, y3, rfl, sm2, e2⟩ ⟨rfl, hz⟩
        refine ⟨_, rfl, _, rfl, av, _, _, _, rfl, rfl, SqT.of (sm2 _ _ hav), atI_nat (j := 0) rfl, _, T.n, rfl, .inr ⟨_, SqT.of (sm2 _ _ hwk'), by rw [List.length_map, hlen]⟩, _, _, rfl, rfl, _, some 0, some ((T.n : Nat) - 1), rfl, ?_⟩
        match i, hz, hi1 with
        | 0, hz, _ =>
          have ez : z = .int (a : Nat) := (Option.some.inj hz).symm
          subst ez
          exact .inl ⟨_, rfl, true, whB ha, iteF ⟨by omega, _, rfl, sm2, e2⟩⟩
        | 1, hz, _ =>
          have ez : z = y := (Option.some.inj hz).symm
          subst ez
          rcases bad _ sm2 with ⟨k, rfl, hk⟩ | ni
          · exact .inl ⟨_, rfl, false, whF hk, iteT (q _ sm2)⟩
          · exact .inr ⟨ni, false, rfl, iteT (q _ sm2)⟩
      · rintro σ1 H2 ⟨h, _⟩
        have h : 2 ≤ 1 := h
        omega
end
end LH

namespace LH
open PySem PySem.Spec PyProof.Rows L2 LHM LHR
theorem lr_at {j : Nat} (h : j < 2) (i : Nat) : ∃ c, atI ("lr" : Str).cps.toList (0 + (j : Nat)) = some c ∧ V.str ⟨#[c]⟩ = sideV (hd (2 * i + j)) := by
  match j, h with
  | 0, _ => exact ⟨108, by decide +kernel, by rw [Nat.add_zero, hd0]; decide +kernel⟩
  | 1, _ => exact ⟨114, by decide +kernel, by rw [hd1]; decide +kernel⟩
section
variable {P : Program} {w : World} {K : PySem.W.Frag} {mg : Str → Option Value} {base : Heap}
/-! ### _law_names -/
abbrev nmNames : List Str := ["_law_tape_here", "_law_found", "_law_number", "_law_two", "_law_k"]
theorem scNames : FnScope nmNames ["_law_tape_here"] (defScope (topS 31)) := ⟨rfl, rfl, rfl, by decide +kernel, rfl, by decide +kernel, by decide +kernel⟩
theorem ok_names {f : Addr} {fd : FuncData} (F : FnD K "_law_names" 31 f fd) (G : Glb mg) : FnOk P w K mg base CX0 1 f fd ["_law_tape_here"] spEdges := by
  refine F.ok scNames (fun vs H Q E h => ?_) (fun cdv A outer s H vs Q E hr h => ?_)
  · obtain ⟨v, T, rfl, _⟩ := h
    rfl
  · obtain ⟨v, T, rfl, ⟨a, b, c, ws, rfl, ha, hb, hlen, hc, hw⟩, hn, q⟩ := h
    refine ⟨_, pss_cons (ps_set (i := 1) scNames.nd rfl (.inl rfl) (pe_lst pa_nil))
      (pss_cons (ps_for PassesOwn.never rfl (pi_enumT (by rfl) G.enumerate (pa_cons (pe_ix ix_tup (pv 0) pe_int (fun _ _ => rfl)) pa_nil)) (pg_tup rfl (pgs_cons (pg_name (i := 2) scNames.nd rfl (.inl rfl)) (pgs_cons (pg_name (i := 3) scNames.nd rfl (.inl rfl)) pgs_nil)))
        (pss_one (ps_for PassesOwn.never rfl (pi_range1 (by rfl) G.range (pa_cons pe_int pa_nil)) (pg_name (i := 4) scNames.nd rfl (.inl rfl))
          (pss_one (ps_expr (pe_bm PySem.F.plainAttrs_list PySem.F.slot_list_append PySem.F.type_list_append mt_append (pv 1) (pa_cons (pe_op op_catT (pe_tup (pa_cons (pv 2) (pa_cons (pe_ix ix_str pe_str (pv 4) (fun _ _ => rfl)) pa_nil))) (pe_ix ix_tup (pv 3) (pv 4) (fun _ _ => rfl))) pa_nil)))))))
      (pss_one (ps_ret (pv 1)))), ?_⟩
    refine ⟨Nat.zero_le _, fun D hD => ?_⟩
    have hwl : ws.length = T.n := hw.1
    have sm0 : Same H (upd H D (.lst [])) := same_new hD
    refine ⟨_, rfl, a, _, _, _, rfl, rfl, SqT.of (sm0 _ _ ha), atI_nat (j := 1) rfl, c, ws, rfl, SqT.of (sm0 _ _ hc), for_it (walk_enumT (K := K) (a := c) (xs := ws)) (fun i σ H' => ∃ y2 y3 y4, σ = [some (.ref a), some (.ref D), y2, y3, y4] ∧ Same H H' ∧ ∃ es, H' D = some (.lst es) ∧ EdgesR H' es T (2 * i))
      ⟨_, _, _, rfl, sm0, [], upd_same, rfl, fun i hi => by omega⟩ (fun _ _ _ _ z => by
        obtain ⟨_, _, _, _, z, _⟩ := z
        exact SqT.of (z _ _ hc)) ?_ ?_⟩
    · rintro i x σ1 H2 H3 hi ⟨y2, y3, y4, rfl, sm, es, eD, he⟩ ⟨u, x1, x2, rfl, hu, rfl, e1, e2⟩
      have e1 := Option.some.inj e1
      subst e1
      have hin : i < T.n := by rw [← hwl]; exact hi
      obtain ⟨p, ep, l, r, f1, f2, f3⟩ := hw.2 i hin
      have ex : x2 = .ref p := Option.some.inj (e2.symm.trans ep)
      subst ex
      have smu := sm.trans (same_new (o := .tup [.int (i : Nat), .ref p]) hu)
      refine ⟨u, _, rfl, SqT.of upd_same, rfl, _, _, rfl, _, _, rfl, rfl, ?_⟩
      refine ⟨2, rfl, by decide, by decide, for_it walk_range
        (fun j σ H' => ∃ y4, σ = [some (.ref a), some (.ref D), some (.int (i : Nat)), some (.ref p), y4] ∧ Same H H' ∧ ∃ es, H' D = some (.lst es) ∧ EdgesR H' es T (2 * i + j))
        ⟨_, rfl, smu, es, (new_at eD hu).2, he.ts ((TupS.refl _).new hu)⟩ (fun _ _ _ _ _ => trivial) ?_ ?_⟩
      · rintro j y σ2 H4 H5 hj ⟨z4, rfl, sm4, es4, eD4, he4⟩ ⟨rfl, rfl⟩
        have hj2 : j < 2 := hj
        obtain ⟨d, ed, hd', _⟩ := PairR.way (p := p) (f2.same sm4) (f3.same sm4) (j := j) (x := ([V.ref l, V.ref r][j]'(by simpa using hj2))) (by simp)
        have hdj : hd j = hd (2 * i + j) := by unfold hd; rw [show (2 * i + j) % 2 = j % 2 by omega]
        have hdiv : (2 * i + j) / 2 = i := by omega
        obtain ⟨c1, hc1, hc2⟩ := lr_at hj2 i
        have ed2 : [V.ref l, V.ref r][j]? = some (.ref d) := by rw [List.getElem?_eq_getElem (by simpa using hj2), ed]
        have hd2 : WayR H5 d (T.to i (hd (2 * i + j))) (T.sd i (hd (2 * i + j))) (T.dn i (hd (2 * i + j))) := by rw [← hdj]; exact hd'
        refine ⟨_, rfl, .inl ⟨rfl, _, SqL.of eD4⟩, _, rfl, _, rfl, _, _, c1, rfl, rfl, by decide +kernel, hc1, by show 2 ≤ sizeLine; decide, fun t ht => ?_⟩
        rw [hc2]
        have e6 : upd H5 t (.tup [.int (i : Nat), sideV (hd (2 * i + j))]) d = some (.tup [.int (T.to i (hd (2 * i + j)) : Nat), sideV (T.sd i (hd (2 * i + j))), .int (T.dn i (hd (2 * i + j)))]) := (same_new ht) _ _ hd2
        refine ⟨_, rfl, _, rfl, p, _, _, .ref d, rfl, rfl, SqT.of ((same_new ht) _ _ (sm4 _ _ f1)), by rw [Int.zero_add]; exact atI_nat ed2, ?_⟩
        refine ⟨t, d, _, _, rfl, rfl, SqT.of upd_same, SqT.of e6, by simp, by show 5 ≤ sizeLine; decide, (fun z => by cases z), fun _ r2 hr2 => ?_⟩
        have eD5 := (new_at (o := .tup [.int (i : Nat), sideV (hd (2 * i + j))]) eD4 ht).2
        have eD6 := (new_at (o := .tup [.int (i : Nat), sideV (hd (2 * i + j)), .int (T.to i (hd (2 * i + j)) : Nat), sideV (T.sd i (hd (2 * i + j))), .int (T.dn i (hd (2 * i + j)))]) eD5 hr2).2
        refine ⟨D, _, _, rfl, rfl, eD6, ?_, ?_⟩
        · have := he4.1
          exact lt_line (by omega)
        · refine ⟨_, rfl, same_mut ((sm4.trans (same_new ht)).trans (same_new hr2)) hD, _, upd_same, ?_⟩
          rw [show 2 * i + (j + 1) = 2 * i + j + 1 by omega]
          refine EdgesR.snoc (he4.ts (((TupS.refl _).new ht).trans (new_ts eD5 hr2))) ?_
          show _ = _
          rw [hdiv]
          exact new_u eD5 hr2
      · rintro σ2 H4 ⟨z4, rfl, sm4, es4, eD4, he4⟩
        have he4 : EdgesR H4 es4 T (2 * i + 2) := he4
        exact ⟨_, _, _, rfl, sm4, es4, eD4, by rw [show 2 * (i + 1) = 2 * i + 2 by omega]; exact he4⟩
    · rintro σ1 H2 ⟨y2, y3, y4, rfl, sm, es, eD, he⟩
      rw [hwl] at he
      exact ⟨_, rfl, q _ D es sm hD eD he⟩
end
end LH

namespace LH
open PySem PySem.Spec PyProof.Rows L2 LHM LHR
def kk (b v : Nat) : List Key := [ik b, ik v]
theorem kk_inj {a b c d : Nat} (h : kk a b = kk c d) : a = c ∧ b = d := by
  unfold kk at h
  injection h with h1 h2
  injection h2 with h2 _
  exact ⟨ik_inj h1, ik_inj h2⟩
/-- the law's own table -/
structure LeadR (H : Hp) (d : Addr) (n : Nat) (L : Nat → Fd) (c : Nat) : Prop where
  ex : ∃ kvs, H d = some (.dT kvs) ∧ kvs.length ≤ c ∧ ∀ b v, b < n → v < n → valV kvs (kk b v) = (L b v).map V.int
theorem LeadR.keep {H H' : Hp} {d : Addr} {n : Nat} {L L' : Nat → Fd} {c c' : Nat} (h : LeadR H d n L c) (e : H' d = H d) (hc : c ≤ c') (hl : ∀ b v, b < n → L' b v = L b v) : LeadR H' d n L' c' := by
  obtain ⟨kvs, a, b, g⟩ := h.ex
  exact ⟨kvs, e.trans a, by omega, fun b v hb hv => by rw [hl b v hb]; exact g b v hb hv⟩
theorem LeadR.same {H H' : Hp} {d : Addr} {n : Nat} {L : Nat → Fd} {c : Nat} (h : LeadR H d n L c) (e : Same H H') : LeadR H' d n L c := by
  obtain ⟨kvs, a, b, g⟩ := h.ex
  exact ⟨kvs, e _ _ a, b, g⟩
theorem LeadR.get {H : Hp} {d q : Addr} {n b v c : Nat} {L : Nat → Fd} (h : LeadR H d n L c) (hb : b < n) (hv : v < n) (hq : H q = some (.tup [.int (b : Nat), .int (v : Nat)])) : DGet H d (.ref q) ((L b v).map V.int) := by
  obtain ⟨kvs, a, _, g⟩ := h.ex
  exact .inr ⟨kvs, kk b v, q, .inl a, rfl, hq, (g b v hb hv).symm⟩
theorem LeadR.getI {H : Hp} {d q : Addr} {n b v c : Nat} {L : Nat → Fd} {x : Int} (h : LeadR H d n L c) (hb : b < n) (hv : v < n) (hq : H q = some (.tup [.int (b : Nat), .int (v : Nat)])) (e : L b v = some x) : DGet H d (.ref q) (some (.int x)) := by
  have := h.get hb hv hq
  rw [e] at this
  exact this
theorem LeadR.isD {H : Hp} {d : Addr} {n c : Nat} {L : Nat → Fd} (h : LeadR H d n L c) : IsD H d := by
  obtain ⟨kvs, a, _⟩ := h.ex
  exact .inr ⟨kvs, .inl a⟩
theorem LeadR.dput {H : Hp} {d q : Addr} {n b t c : Nat} {L : Nat → Fd} {x : Int} (h : LeadR H d n L c) (hb : b < n) (ht : t < n) (hc : c ≤ 90000) (hq : H q = some (.tup [.int (b : Nat), .int (t : Nat)])) :
    ∃ H', DPut H d (.ref q) (.int x) H' ∧ LeadR H' d n (fun b' => if b' = b then upf (L b) t (some x) else L b') (c + 1) ∧ TupS H H' ∧ (∀ z, z ≠ d → H' z = H z) := by
  obtain ⟨kvs, a, l, g⟩ := h.ex
  refine ⟨_, DPut.t (k := kk b t) a hq (lt_line2 (by omega)), ⟨_, upd_same, by have := length_putK kvs (kk b t) (.int x); omega, fun b' v hb' hv => ?_⟩, (TupS.refl H).dT a, fun z hz => upd_ne hz⟩
  rw [valV_put]
  by_cases e : b' = b
  · subst e
    rw [if_pos rfl]
    by_cases e2 : v = t
    · subst e2
      rw [if_pos rfl, upf_same]
      rfl
    · rw [if_neg fun z => e2 (kk_inj z).2, upf_ne e2]
      exact g _ v hb' hv
  · rw [if_neg fun z => e (kk_inj z).1, if_neg e]
    exact g b' v hb' hv
section
variable {P : Program} {w : World} {K : PySem.W.Frag} {mg : Str → Option Value} {base : Heap}
/-! ### _law_leads -/
def spLeads : Sp := fun vs H Q _ => ∃ (v : V) (T : Tp), vs = [v] ∧ TapeR H v T ∧ T.n ≤ 24 ∧ T.In ∧ ∀ H' d c, Same H H' → LeadR H' d T.n (leadF T.n T.to T.dn) c → Q (.ref d) H'
abbrev nmLeads : List Str := ["_law_tape_here", "_law_low", "_law_name", "_law_turn", "_law_begin", "_law_down"]
theorem scLeads : FnScope nmLeads ["_law_tape_here"] (defScope (topS 34)) := ⟨rfl, rfl, rfl, by decide +kernel, rfl, by decide +kernel, by decide +kernel⟩
theorem ok_leads {f : Addr} {fd : FuncData} (F : FnD K "_law_leads" 34 f fd) (G : Glb mg) (CN : Cal P w K mg base CX0 1 "_law_names" ["_law_tape_here"] spEdges) : FnOk P w K mg base CX0 2 f fd ["_law_tape_here"] spLeads := by
  refine F.ok scLeads (fun vs H Q E h => ?_) (fun cdv A outer s H vs Q E hr h => ?_)
  · obtain ⟨v, T, rfl, _⟩ := h
    rfl
  · obtain ⟨v, T, rfl, hT, hn, hin, q⟩ := h
    obtain ⟨av, wk, c, ws, rfl, hav, hwk', hlen, hc, hw⟩ := id hT
    have hu := hu_of hr
    refine ⟨_, pss_cons (ps_set (i := 1) scLeads.nd rfl (.inl rfl) pe_dnewT)
      (pss_cons (ps_for PassesOwn.never rfl (pi_list (pe_cal CN hr (by rfl) (E := E0) pass0 (pa_cons (pv 0) pa_nil))) (pg_name (i := 2) scLeads.nd rfl (.inl rfl))
        (pss_one (ps_dput hu (pv 1) (pe_tup (pa_cons (pe_ix ix_tup (pv 2) pe_int (fun _ _ => rfl)) (pa_cons (pe_ix ix_tup (pv 2) pe_int (fun _ _ => rfl)) pa_nil)))
          (pe_callB (call_min2 rfl) (by rfl) G.min b_min (pa_cons (pe_dget2 hu (pv 1) (pe_tup (pa_cons (pe_ix ix_tup (pv 2) pe_int (fun _ _ => rfl)) (pa_cons (pe_ix ix_tup (pv 2) pe_int (fun _ _ => rfl)) pa_nil))) (pe_ix ix_tup (pv 2) pe_int (fun _ _ => rfl)) ⟨by rfl, by rfl, by rfl, by rfl⟩) (pa_cons (pe_ix ix_tup (pv 2) pe_int (fun _ _ => rfl)) pa_nil))) rfl)))
      (pss_cons (ps_for PassesOwn.never rfl (pi_range1 (by rfl) G.range (pa_cons (pe_callB call_len (by rfl) G.len PySem.boot_len (pa_cons (pe_ix ix_tup (pv 0) pe_int (fun _ _ => rfl)) pa_nil)) pa_nil)) (pg_name (i := 3) scLeads.nd rfl (.inl rfl))
        (pss_one (ps_for PassesOwn.never rfl (pi_range1 (by rfl) G.range (pa_cons (pe_callB call_len (by rfl) G.len PySem.boot_len (pa_cons (pe_ix ix_tup (pv 0) pe_int (fun _ _ => rfl)) pa_nil)) pa_nil)) (pg_name (i := 4) scLeads.nd rfl (.inl rfl))
          (pss_one (ps_for PassesOwn.never rfl (pi_list (pe_cal CN hr (by rfl) (E := E0) pass0 (pa_cons (pv 0) pa_nil))) (pg_name (i := 2) scLeads.nd rfl (.inl rfl))
            (pss_one (ps_if (pt_cmp (pc_din hu (pe_tup (pa_cons (pv 4) (pa_cons (pe_ix ix_tup (pv 2) pe_int (fun _ _ => rfl)) pa_nil))) (pv 1)))
              (pss_cons (ps_set (i := 5) scLeads.nd rfl (.inl rfl) (pe_op op_add (pe_dget hu (pv 1) (pe_tup (pa_cons (pv 4) (pa_cons (pe_ix ix_tup (pv 2) pe_int (fun _ _ => rfl)) pa_nil))) (fun _ _ => rfl)) (pe_ix ix_tup (pv 2) pe_int (fun _ _ => rfl))))
              (pss_one (ps_dput hu (pv 1) (pe_tup (pa_cons (pv 4) (pa_cons (pe_ix ix_tup (pv 2) pe_int (fun _ _ => rfl)) pa_nil)))
                (pe_callB (call_min2 rfl) (by rfl) G.min b_min (pa_cons (pe_dget2 hu (pv 1) (pe_tup (pa_cons (pv 4) (pa_cons (pe_ix ix_tup (pv 2) pe_int (fun _ _ => rfl)) pa_nil))) (pv 5) ⟨by rfl, by rfl, by rfl, by rfl⟩) (pa_cons (pv 5) pa_nil))) rfl))) pss_nil)))))))
      (pss_one (ps_ret (pv 1))))), ?_⟩
    intro D hD
    refine ⟨_, rfl, _, T, rfl, hT.same (same_new hD), hn, fun H3 p es sm3 hp0 hp he => ⟨p, rfl, ⟨_, SqL.of hp⟩, for_it (walk_list (K := K) (a := p) (xs := es)) (fun i σ H' => ∃ y2, σ = [some (.ref av), some (.ref D), y2, none, none, none] ∧ Same H H' ∧ H' p = some (.lst es) ∧ EdgesR H' es T (2 * T.n) ∧ LeadR H' D T.n (fun b => bgns T.to T.dn b i) i)
          ⟨_, rfl, (same_new hD).trans sm3, hp, he, ⟨[], sm3 _ _ upd_same, Nat.le_refl _, fun b v _ _ => rfl⟩⟩ (fun _ _ _ _ z => by
            obtain ⟨_, _, _, z, _⟩ := z
            exact SqL.of z) ?_ ?_⟩⟩
    · rintro i z σ2 H4 H5 hi ⟨y2, rfl, sm4, hp4, he4, f4⟩ ⟨rfl, hz⟩
      have hi2 : i < 2 * T.n := by rw [← he.1]; exact hi
      obtain ⟨q1, e1, hq1⟩ := he4.2 i hi2
      have ez : z = .ref q1 := Option.some.inj (hz.symm.trans e1)
      subst ez
      have hinn : i / 2 < T.n := by omega
      have ht := hin (i / 2) (hd i) hinn
      have two : (2 : Nat) ≤ sizeLine := by decide
      refine ⟨_, rfl, D, rfl, f4.isD, _, rfl, q1, _, _, _, rfl, rfl, SqT.of hq1, atI_nat (j := 0) rfl, _, rfl, q1, _, _, _, rfl, rfl, SqT.of hq1, atI_nat (j := 2) rfl, two, fun u hu1 => ?_⟩
      have S1 : Same H5 (upd H5 u (.tup [.int ((i / 2 : Nat) : Int), .int (T.to (i / 2) (hd i) : Nat)])) := same_new hu1
      have f5 := f4.same S1
      have hq5 := S1 _ _ hq1
      refine ⟨_, rfl, q1, _, _, _, rfl, rfl, SqT.of hq5, atI_nat (j := 4) rfl, _, f5.get hinn ht upd_same, _, rfl, q1, _, _, _, rfl, rfl, SqT.of hq5, atI_nat (j := 4) rfl, (bgns T.to T.dn (i / 2) i (T.to (i / 2) (hd i))).getD (T.dn (i / 2) (hd i)), T.dn (i / 2) (hd i), by rw [optGet], ?_⟩
      refine ⟨_, rfl, _, rfl, q1, _, _, _, rfl, rfl, SqT.of hq5, atI_nat (j := 0) rfl, _, rfl, q1, _, _, _, rfl, rfl, SqT.of hq5, atI_nat (j := 2) rfl, two, fun u2 hu2 => ?_⟩
      have S2 := S1.trans (same_new (o := .tup [.int ((i / 2 : Nat) : Int), .int (T.to (i / 2) (hd i) : Nat)]) hu2)
      obtain ⟨H6, hput, f6, ts, kb⟩ := (f4.same S2).dput (x := if T.dn (i / 2) (hd i) < (bgns T.to T.dn (i / 2) i (T.to (i / 2) (hd i))).getD (T.dn (i / 2) (hd i)) then T.dn (i / 2) (hd i) else (bgns T.to T.dn (i / 2) i (T.to (i / 2) (hd i))).getD (T.dn (i / 2) (hd i))) hinn ht (by omega) upd_same
      have sm6 : Same H H6 := same_off (sm4.trans S2) hD kb
      have hpD : p ≠ D := fun e => by
        obtain ⟨kvs, l, _⟩ := f4.ex
        rw [e, l] at hp4
        cases hp4
      refine ⟨D, H6, rfl, hput, _, rfl, sm6, by rw [kb p hpD]; exact S2 _ _ hp4, (he4.same S2).ts ts, f6.keep rfl (Nat.le_refl _) fun b v hb => ?_⟩
      show bgn T.to T.dn b (bgns T.to T.dn b i) i v = _
      unfold bgn
      by_cases e : b = i / 2
      · subst e
        rw [if_pos rfl, if_pos rfl, min_mn]
      · rw [if_neg fun z => e z.symm, if_neg e]
    · rintro σ2 H4 ⟨y2, rfl, sm4, hp4, he4, f4⟩
      rw [he.1] at f4
      have f4 : LeadR H4 D T.n (fun b => tbl T.n T.to T.dn b 0) 48 := f4.keep rfl (by omega) fun b v _ => rfl
      have lenR : ∀ {H' : Hp}, Same H H' → True := fun _ => trivial
      refine ⟨_, rfl, av, _, _, _, rfl, rfl, SqT.of (sm4 _ _ hav), atI_nat (j := 0) rfl, _, T.n, rfl, .inr ⟨_, SqT.of (sm4 _ _ hwk'), by rw [List.length_map, hlen]⟩, _, rfl, by omega, by omega, for_it walk_range (fun k σ H' => ∃ y2 y3 y4 y5, σ = [some (.ref av), some (.ref D), y2, y3, y4, y5] ∧ Same H H' ∧ LeadR H' D T.n (fun b => tbl T.n T.to T.dn b k) (48 + 1152 * k))
            ⟨_, _, _, _, rfl, sm4, f4⟩ (fun _ _ _ _ _ => trivial) ?_ ?_⟩
      · rintro k x σ3 H5 H6 hk ⟨y2, y3, y4, y5, rfl, sm5, f5⟩ ⟨rfl, rfl⟩
        have hk2 : k < T.n := by
          have : k < ((T.n : Nat) : Int).toNat := hk
          omega
        refine ⟨_, rfl, av, _, _, _, rfl, rfl, SqT.of (sm5 _ _ hav), atI_nat (j := 0) rfl, _, T.n, rfl, .inr ⟨_, SqT.of (sm5 _ _ hwk'), by rw [List.length_map, hlen]⟩, _, rfl, by omega, by omega, for_it walk_range (fun B σ H' => ∃ y2 y4 y5, σ = [some (.ref av), some (.ref D), y2, some (.int (0 + (k : Nat))), y4, y5] ∧ Same H H' ∧ LeadR H' D T.n (fun b => if b < B then tbl T.n T.to T.dn b (k + 1) else tbl T.n T.to T.dn b k) (48 + 1152 * k + 48 * B))
            ⟨_, _, _, rfl, sm5, f5.keep rfl (by omega) fun b v _ => by rw [if_neg (Nat.not_lt_zero _)]⟩ (fun _ _ _ _ _ => trivial) ?_ ?_⟩
        · rintro B x σ3 H7 H8 hB ⟨y2, y4, y5, rfl, sm7, f7⟩ ⟨rfl, rfl⟩
          have hB2 : B < T.n := by
            have : B < ((T.n : Nat) : Int).toNat := hB
            omega
          refine ⟨_, rfl, _, T, rfl, hT.same sm7, hn, fun H9 p es sm9 hp0 hp he => ⟨p, rfl, ⟨_, SqL.of hp⟩, for_it (walk_list (K := K) (a := p) (xs := es)) (fun i σ H' => ∃ y2 y5, σ = [some (.ref av), some (.ref D), y2, some (.int (0 + (k : Nat))), some (.int (0 + (B : Nat))), y5] ∧ Same H H' ∧ H' p = some (.lst es) ∧ EdgesR H' es T (2 * T.n) ∧ LeadR H' D T.n (fun b => if b < B then tbl T.n T.to T.dn b (k + 1) else if b = B then trns T.to T.dn (tbl T.n T.to T.dn B k) i else tbl T.n T.to T.dn b k) (48 + 1152 * k + 48 * B + i))
            ⟨_, _, rfl, sm7.trans sm9, hp, he, (f7.same sm9).keep rfl (by omega) fun b v _ => ?_⟩ (fun _ _ _ _ z => by
              obtain ⟨_, _, _, _, z, _⟩ := z
              exact SqL.of z) ?_ ?_⟩⟩
          · show (if b < B then tbl T.n T.to T.dn b (k + 1) else if b = B then tbl T.n T.to T.dn B k else tbl T.n T.to T.dn b k) v = _
            by_cases e : b = B
            · rw [if_pos e, e]
            · rw [if_neg e]
          · rintro i z σ2 H10 H11 hi ⟨y2, y5, rfl, sm10, hp10, he10, f10⟩ ⟨rfl, hz⟩
            have hi2 : i < 2 * T.n := by rw [← he.1]; exact hi
            obtain ⟨q1, e1, hq1⟩ := he10.2 i hi2
            have ez : z = .ref q1 := Option.some.inj (hz.symm.trans e1)
            subst ez
            have hinn : i / 2 < T.n := by omega
            have ht := hin (i / 2) (hd i) hinn
            have two : (2 : Nat) ≤ sizeLine := by decide
            have hpD : p ≠ D := fun e => by
              obtain ⟨kvs, l, _⟩ := f10.ex
              rw [e, l] at hp10
              cases hp10
            have cnt : 48 + 1152 * k + 48 * B + i ≤ 90000 := by omega
            generalize hF : trns T.to T.dn (tbl T.n T.to T.dn B k) i = F8 at *
            have hF1 : trns T.to T.dn (tbl T.n T.to T.dn B k) (i + 1) = trn T.to T.dn F8 i := by rw [← hF]; rfl
            rw [hF1]
            have eB : (if B < B then tbl T.n T.to T.dn B (k + 1) else if B = B then F8 else tbl T.n T.to T.dn B k) = F8 := by rw [if_neg (Nat.lt_irrefl _), if_pos rfl]
            refine ⟨_, rfl, _, rfl, q1, _, _, _, rfl, rfl, SqT.of hq1, atI_nat (j := 0) rfl, two, fun u hu1 => ?_⟩
            have S1 : Same H11 (upd H11 u (.tup [.int (0 + (B : Nat)), .int ((i / 2 : Nat) : Int)])) := same_new hu1
            have g1 : (upd H11 u (.tup [.int (0 + (B : Nat)), .int ((i / 2 : Nat) : Int)])) u = some (.tup [.int (B : Nat), .int ((i / 2 : Nat) : Int)]) := by rw [upd_same, Int.zero_add]
            have f11 := (f10.same S1).get hB2 hinn g1
            rw [eB] at f11
            refine ⟨_, rfl, D, _, rfl, f11, _, rfl, ?_⟩
            cases e8 : F8 (i / 2) with
            | none =>
              rw [trn_no e8]
              exact iteF ⟨_, _, rfl, sm10.trans S1, S1 _ _ hp10, he10.same S1, (f10.same S1).keep rfl (Nat.le_succ _) fun _ _ _ => rfl⟩
            | some y =>
              rw [trn_yes e8]
              have hq2 := S1 _ _ hq1
              refine iteT ⟨_, rfl, _, rfl, _, rfl, q1, _, _, _, rfl, rfl, SqT.of hq2, atI_nat (j := 0) rfl, two, fun u2 hu2 => ?_⟩
              have S2 : Same H11 (upd (upd H11 u (.tup [.int (0 + (B : Nat)), .int ((i / 2 : Nat) : Int)])) u2 (.tup [.int (0 + (B : Nat)), .int ((i / 2 : Nat) : Int)])) := S1.trans (same_new hu2)
              have g2 : (upd (upd H11 u (.tup [.int (0 + (B : Nat)), .int ((i / 2 : Nat) : Int)])) u2 (.tup [.int (0 + (B : Nat)), .int ((i / 2 : Nat) : Int)])) u2 = some (.tup [.int (B : Nat), .int ((i / 2 : Nat) : Int)]) := by rw [upd_same, Int.zero_add]
              have f12 := (f10.same S2).getI (x := y) hB2 hinn g2 (by rw [← e8]; exact congrFun eB _)
              generalize hH12 : upd (upd H11 u (.tup [.int (0 + (B : Nat)), .int ((i / 2 : Nat) : Int)])) u2 (.tup [.int (0 + (B : Nat)), .int ((i / 2 : Nat) : Int)]) = H12 at *
              have hq3 := S2 _ _ hq1
              refine ⟨D, _, rfl, f12, _, rfl, q1, _, _, _, rfl, rfl, SqT.of hq3, atI_nat (j := 4) rfl, y, T.dn (i / 2) (hd i), rfl, rfl, ?_⟩
              refine ⟨_, rfl, D, rfl, (f10.same S2).isD, _, rfl, _, rfl, q1, _, _, _, rfl, rfl, SqT.of hq3, atI_nat (j := 2) rfl, two, fun u3 hu3 => ?_⟩
              have S3 : Same H11 (upd H12 u3 (.tup [.int (0 + (B : Nat)), .int (T.to (i / 2) (hd i) : Nat)])) := S2.trans (same_new hu3)
              have g3 : (upd H12 u3 (.tup [.int (0 + (B : Nat)), .int (T.to (i / 2) (hd i) : Nat)])) u3 = some (.tup [.int (B : Nat), .int (T.to (i / 2) (hd i) : Nat)]) := by rw [upd_same, Int.zero_add]
              have f13 := (f10.same S3).get hB2 ht g3
              rw [eB] at f13
              generalize hH13 : upd H12 u3 (.tup [.int (0 + (B : Nat)), .int (T.to (i / 2) (hd i) : Nat)]) = H13 at *
              have hq4 := S3 _ _ hq1
              refine ⟨_, rfl, _, f13, _, rfl, (F8 (T.to (i / 2) (hd i))).getD (y + T.dn (i / 2) (hd i)), y + T.dn (i / 2) (hd i), by rw [optGet], ?_⟩
              refine ⟨_, rfl, _, rfl, _, rfl, q1, _, _, _, rfl, rfl, SqT.of hq4, atI_nat (j := 2) rfl, two, fun u4 hu4 => ?_⟩
              have S4 : Same H11 (upd H13 u4 (.tup [.int (0 + (B : Nat)), .int (T.to (i / 2) (hd i) : Nat)])) := S3.trans (same_new hu4)
              have g4 : (upd H13 u4 (.tup [.int (0 + (B : Nat)), .int (T.to (i / 2) (hd i) : Nat)])) u4 = some (.tup [.int (B : Nat), .int (T.to (i / 2) (hd i) : Nat)]) := by rw [upd_same, Int.zero_add]
              obtain ⟨H14, hput, f14, ts, kb⟩ := (f10.same S4).dput (x := if y + T.dn (i / 2) (hd i) < (F8 (T.to (i / 2) (hd i))).getD (y + T.dn (i / 2) (hd i)) then y + T.dn (i / 2) (hd i) else (F8 (T.to (i / 2) (hd i))).getD (y + T.dn (i / 2) (hd i))) hB2 ht cnt g4
              refine ⟨D, H14, rfl, hput, _, _, rfl, same_off (sm10.trans S4) hD kb, by rw [kb p hpD]; exact S4 _ _ hp10, (he10.same S4).ts ts, f14.keep rfl (Nat.le_refl _) fun b v hb => ?_⟩
              rw [min_mn]
              by_cases e : b = B
              · subst e
                rw [if_neg (Nat.lt_irrefl _), if_pos rfl, if_pos rfl, if_neg (Nat.lt_irrefl _), if_pos rfl]
              · rw [if_neg e, if_neg e, if_neg e]
          · rintro σ2 H10 ⟨y2, y5, rfl, sm10, hp10, he10, f10⟩
            rw [he.1] at f10
            refine ⟨_, _, _, rfl, sm10, f10.keep rfl (by omega) fun b v hb => ?_⟩
            by_cases e : b < B
            · rw [if_pos e, if_pos (by omega)]
            · by_cases e2 : b = B
              · subst e2
                rw [if_neg e, if_pos rfl, if_pos (by omega)]
                rfl
              · rw [if_neg e, if_neg e2, if_neg (by omega)]
        · rintro σ3 H7 ⟨y2, y4, y5, rfl, sm7, f7⟩
          refine ⟨_, _, _, _, rfl, sm7, f7.keep rfl (by omega) fun b v hb => ?_⟩
          rw [if_pos (by omega)]
      · rintro σ3 H5 ⟨y2, y3, y4, y5, rfl, sm5, f5⟩
        rw [show ((T.n : Nat) : Int).toNat = T.n by omega] at f5
        exact ⟨_, rfl, q _ D _ sm5 f5⟩
end
end LH

namespace LH
open PySem PySem.Spec PyProof.Rows L2 LHM LHR
/-! ### the draws -/
def kC : Key := Sum.inr "cells"
def kL : Key := Sum.inr "left"
def kA : Key := Sum.inr "at"
def mD (c l : Addr) (k : Nat) : List (Key × V) := [(kC, .ref c), (kL, .ref l), (kA, .int (k : Nat))]
theorem nCL : ¬ kC = kL := by decide +kernel
theorem nCA : ¬ kC = kA := by decide +kernel
theorem nLA : ¬ kL = kA := by decide +kernel
theorem mD_C (c l : Addr) (k : Nat) : valV (mD c l k) kC = some (.ref c) := valV_pos rfl
theorem mD_L (c l : Addr) (k : Nat) : valV (mD c l k) kL = some (.ref l) := by
  unfold mD
  rw [valV_neg nCL, valV_pos rfl]
theorem mD_A (c l : Addr) (k : Nat) : valV (mD c l k) kA = some (.int (k : Nat)) := by
  unfold mD
  rw [valV_neg nCA, valV_neg nLA, valV_pos rfl]
theorem mD_pL (c l l' : Addr) (k : Nat) : putK (mD c l k) kL (.ref l') = mD c l' k := by
  unfold putK mD
  simp [nCL, Ne.symm nLA]
theorem mD_pA (c l : Addr) (k k' : Nat) : putK (mD c l k) kA (.int (k' : Nat)) = mD c l k' := by
  unfold putK mD
  simp [nCA, nLA]
theorem mD_mk (c l : Addr) : mergeK [] [(kC, V.ref c), (kL, V.ref l), (kA, V.int 0)] = mD c l 0 := by
  unfold mergeK mD
  simp [putK, nCA, nLA, nCL]
/-- H0 in H, and the draws' own objects beside it -/
structure MA (H0 H : Hp) (m : Addr) (b : Nat) : Prop where
  same : Same H0 H
  own : ∃ (c l : Addr) (cs ls : List Int) (k : Nat), H m = some (.dK (mD c l k)) ∧ H c = some (.lst (cs.map V.int)) ∧ H l = some (.lst (ls.map V.int)) ∧ c ≠ l ∧ cs.length ≤ 63 ∧ ls.length ≤ 63 ∧ k ≤ b ∧ H0 m = none ∧ H0 c = none ∧ H0 l = none
theorem MA.mono {H0 H : Hp} {m : Addr} {b b' : Nat} (h : MA H0 H m b) (hb : b ≤ b') : MA H0 H m b' := by
  obtain ⟨s, c, l, cs, ls, k, h1, h2, h3, h4, h5, h6, h7, h8⟩ := h
  exact ⟨s, c, l, cs, ls, k, h1, h2, h3, h4, h5, h6, by omega, h8⟩
/-- a smaller frame -/
theorem MA.less {H0 H1 H : Hp} {m : Addr} {b : Nat} (h : MA H1 H m b) (e : Same H0 H1) : MA H0 H m b := by
  obtain ⟨s, c, l, cs, ls, k, h1, h2, h3, h4, h5, h6, h7, h8, h9, h10⟩ := h
  exact ⟨fun a o x => s _ _ (e _ _ x), c, l, cs, ls, k, h1, h2, h3, h4, h5, h6, h7, e.free h8, e.free h9, e.free h10⟩
/-- a new object -/
theorem MA.new {H0 H : Hp} {m u : Addr} {b : Nat} {o : HO} (h : MA H0 H m b) (hu : H u = none) : MA (upd H0 u o) (upd H u o) m b := by
  obtain ⟨s, c, l, cs, ls, k, h1, h2, h3, h4, h5, h6, h7, h8, h9, h10⟩ := h
  refine ⟨fun a x e => ?_, c, l, cs, ls, k, ?_, ?_, ?_, h4, h5, h6, h7, ?_, ?_, ?_⟩
  · by_cases z : a = u
    · subst z
      rw [upd_same] at e ⊢
      exact e
    · rw [upd_ne z] at e ⊢
      exact s _ _ e
  · rw [upd_ne (ne_of_none h1 hu)]; exact h1
  · rw [upd_ne (ne_of_none h2 hu)]; exact h2
  · rw [upd_ne (ne_of_none h3 hu)]; exact h3
  · rw [upd_ne (ne_of_none h1 hu)]; exact h8
  · rw [upd_ne (ne_of_none h2 hu)]; exact h9
  · rw [upd_ne (ne_of_none h3 hu)]; exact h10
/-- an object of the frame is written -/
theorem MA.mut {H0 H : Hp} {m u : Addr} {b : Nat} {o o' : HO} (h : MA H0 H m b) (hu : H0 u = some o') : MA (upd H0 u o) (upd H u o) m b := by
  obtain ⟨s, c, l, cs, ls, k, h1, h2, h3, h4, h5, h6, h7, h8, h9, h10⟩ := h
  have e1 : m ≠ u := fun z => by rw [z, hu] at h8; cases h8
  have e2 : c ≠ u := fun z => by rw [z, hu] at h9; cases h9
  have e3 : l ≠ u := fun z => by rw [z, hu] at h10; cases h10
  refine ⟨fun a x e => ?_, c, l, cs, ls, k, ?_, ?_, ?_, h4, h5, h6, h7, ?_, ?_, ?_⟩
  · by_cases z : a = u
    · subst z
      rw [upd_same] at e ⊢
      exact e
    · rw [upd_ne z] at e ⊢
      exact s _ _ e
  · rw [upd_ne e1]; exact h1
  · rw [upd_ne e2]; exact h2
  · rw [upd_ne e3]; exact h3
  · rw [upd_ne e1]; exact h8
  · rw [upd_ne e2]; exact h9
  · rw [upd_ne e3]; exact h10
/-- a call that draws nothing: the frame takes in what it made -/
theorem MA.ext {H0 H H' : Hp} {m : Addr} {b : Nat} (h : MA H0 H m b) (e : Same H H') : ∃ H1, MA H1 H' m b ∧ Same H0 H1 ∧ (∀ a o, H' a = some o → (∀ kvs, o ≠ .dK kvs) → (∀ xs, o ≠ .lst xs) → H1 a = some o) ∧ ∀ a o, H' a = some o → H a = none → H1 a = some o := by
  obtain ⟨s, c, l, cs, ls, k, h1, h2, h3, h4, h5, h6, h7, h8, h9, h10⟩ := h
  have key : ∀ a o, H' a = some o → ((∀ kvs, o ≠ .dK kvs) ∧ (∀ xs, o ≠ .lst xs) ∨ H a = none ∨ H0 a = some o) → (fun a => if a = m ∨ a = c ∨ a = l then none else H' a) a = some o := fun a o q z => by
    show (if a = m ∨ a = c ∨ a = l then none else H' a) = some o
    rw [if_neg]
    · exact q
    · rintro (rfl | rfl | rfl)
      · rcases z with ⟨z, _⟩ | z | z
        · exact z _ (Option.some.inj (q.symm.trans (e _ _ h1)))
        · rw [h1] at z; cases z
        · rw [h8] at z; cases z
      · rcases z with ⟨_, z⟩ | z | z
        · exact z _ (Option.some.inj (q.symm.trans (e _ _ h2)))
        · rw [h2] at z; cases z
        · rw [h9] at z; cases z
      · rcases z with ⟨_, z⟩ | z | z
        · exact z _ (Option.some.inj (q.symm.trans (e _ _ h3)))
        · rw [h3] at z; cases z
        · rw [h10] at z; cases z
  refine ⟨fun a => if a = m ∨ a = c ∨ a = l then none else H' a, ⟨fun a o q => ?_, c, l, cs, ls, k, e _ _ h1, e _ _ h2, e _ _ h3, h4, h5, h6, h7, if_pos (.inl rfl), if_pos (.inr (.inl rfl)), if_pos (.inr (.inr rfl))⟩, fun a o q => key a o (e _ _ (s _ _ q)) (.inr (.inr q)), fun a o q z1 z2 => key a o q (.inl ⟨z1, z2⟩), fun a o q z => key a o q (.inr (.inl z))⟩
  have q : (if a = m ∨ a = c ∨ a = l then none else H' a) = some o := q
  split at q
  · cases q
  · exact q
theorem sql_same {K : PySem.W.Frag} {H H' : Hp} {a : Addr} {xs : List V} (h : SqL K H a xs) (e : Same H H') : SqL K H' a xs :=
  h.elim (fun h => .inl (h.elim (fun h => .inl (e _ _ h)) fun ⟨o, h⟩ => .inr ⟨o, e _ _ h⟩)) fun h => .inr h
theorem cut1 (x : V) (xs : List V) : cutV (x :: xs) (some 1) none = xs := by
  unfold cutV HT.sIx
  simp
section
variable {P : Program} {w : World} {K : PySem.W.Frag} {mg : Str → Option Value} {base : Heap}
/-! ### _law_begun -/
def spBegun (K : PySem.W.Frag) : Sp := fun vs H Q _ => ∃ (a : Addr) (ns : List Int), vs = [.ref a] ∧ SqL K H a (ns.map V.int) ∧ ns.length ≤ 63 ∧ ∀ H' m, Same H H' → MA H H' m 0 → Q (.ref m) H'
theorem scBegun : FnScope ["_law_script", "_law_cell"] ["_law_script"] (defScope (topS 25)) := ⟨rfl, rfl, rfl, by decide +kernel, rfl, by decide +kernel, by decide +kernel⟩
theorem b_list : bootBuiltins "list" = some (.type "list") := by decide +kernel
theorem ok_begun {f : Addr} {fd : FuncData} (F : FnD K "_law_begun" 25 f fd) (G : Glb mg) : FnOk P w K mg base CX0 1 f fd ["_law_script"] (spBegun K) := by
  refine F.ok scBegun (fun vs H Q E h => ?_) (fun cdv A outer s H vs Q E hr h => ?_)
  · obtain ⟨v, T, rfl, _⟩ := h
    rfl
  · obtain ⟨v, ns, rfl, hs, hn, q⟩ := h
    refine ⟨_, pss_one (ps_ret (pe_disp (pps_cons pe_str (pe_callTy call_list_of (by rfl) G.list b_list (pa_cons (pv 0) pa_nil)) (pps_cons pe_str
      (pe_lc (own := [("_law_cell", 1)]) (g := gName 1) (tt := tTest (tOp (rI0 fun i j => .bl (decide (j ≤ i))) (tVar 1) (tOp (rI CPow fun i j => .int (i ^ j.toNat)) (tC (.int 10)) (tC (.int 18))))) rfl scBegun.nd (pi_list (pv 0)) (blkOk_by (N := ["_law_script", "_law_cell"]) (sc := defScope (topS 25)) (by decide +kernel)) (fun _ _ _ _ _ => pg_name (i := 1) scBegun.nd rfl (Or.inl rfl)) (fun _ _ _ _ _ => pts_one (pt_cmpR op_ge (pv 1) (pe_op op_pow pe_int pe_int) (nomark _))) (fun _ _ _ _ _ => pv 1))
      (pps_cons pe_str pe_int pps_nil))) rfl rfl (by simp) (by decide))), ?_⟩
    have two : (2 : Nat) ≤ sizeLine := by decide
    intro p hp
    have S0 : Same H (upd H p (.dK [])) := same_new hp
    refine ⟨_, rfl, v, _, rfl, .inl (sql_same hs S0), fun c hc => ?_⟩
    have S1 := S0.trans (same_new (o := .lst (ns.map V.int)) hc)
    have hcp : c ≠ p := fun z => by rw [z, upd_same] at hc; cases hc
    refine ⟨_, rfl, v, rfl, ⟨_, sql_same hs S1⟩, fun l hl => lc_walk (walk_list (K := K) (a := v) (xs := ns.map V.int)) [some (.ref v), none] (by rfl) (fun i H' => H' p = some (.dK []) ∧ H' c = some (.lst (ns.map V.int)) ∧ Same H H' ∧ ∃ ls : List Int, H' l = some (.lst (ls.map V.int)) ∧ ls.length ≤ i)
      ⟨?_, ?_, S1.trans (same_new hl), [], upd_same, Nat.le_refl _⟩ (fun _ _ _ z => sql_same hs z.2.2.1) ?_ ?_⟩
    · exact (same_new hl) _ _ ((same_new hc) _ _ upd_same)
    · exact (same_new hl) _ _ upd_same
    · rintro i x H2 H3 hi ⟨e1, e2, sm, ls, e3, hl3⟩ ⟨rfl, hx⟩
      rw [List.getElem?_map] at hx
      obtain ⟨y, _, rfl⟩ := Option.map_eq_some_iff.mp hx
      have hpl : p ≠ l := fun z => by rw [z, e3] at e1; cases e1
      have hcl : c ≠ l := fun z => by rw [← z, upd_same] at hl; cases hl
      refine ⟨rfl, _, rfl, _, _, rfl, rfl, ⟨by decide, by decide, by decide⟩, y, _, rfl, rfl, _, rfl, ite2 (fun _ => ?_) (fun _ => ⟨e1, e2, sm, ls, e3, by omega⟩)⟩
      rw [List.length_map] at hi
      refine ⟨_, rfl, _, e3, lt_line (by rw [List.length_map]; omega), ?_⟩
      refine ⟨by rw [upd_ne hpl]; exact e1, by rw [upd_ne hcl]; exact e2, same_mut sm (S1.free hl), ls ++ [y], by rw [List.map_append]; exact upd_same, by simp; omega⟩
    · rintro H2 ⟨e1, e2, sm, ls, e3, hl3⟩
      rw [List.length_map] at hl3
      have hpl : p ≠ l := fun z => by rw [z, e3] at e1; cases e1
      have hcl : c ≠ l := fun z => by rw [← z, upd_same] at hl; cases hl
      refine ⟨e1, [(kC, V.ref c), (kL, V.ref l), (kA, V.int 0)], rfl, by simp, ?_⟩
      rw [mD_mk]
      refine q _ p (same_mut sm hp) ⟨same_mut sm hp, c, l, ns, ls, 0, upd_same, ?_, ?_, hcl, hn, by omega, Nat.le_refl _, hp, S0.free hc, S1.free hl⟩
      · rw [upd_ne hcp]; exact e2
      · rw [upd_ne (Ne.symm hpl)]; exact e3
end
end LH

namespace LH
open PySem PySem.Spec PyProof.Rows L2 LHM LHR
structure MX (H0 H : Hp) (m : Addr) (b : Nat) (c l : Addr) (cs ls : List Int) (k : Nat) : Prop where
  same : Same H0 H
  hm : H m = some (.dK (mD c l k))
  hc : H c = some (.lst (cs.map V.int))
  hl : H l = some (.lst (ls.map V.int))
  ne : c ≠ l
  lc : cs.length ≤ 63
  ll : ls.length ≤ 63
  kb : k ≤ b
  fm : H0 m = none
  fc : H0 c = none
  fl : H0 l = none
theorem MA.mx {H0 H : Hp} {m : Addr} {b : Nat} (h : MA H0 H m b) : ∃ c l cs ls k, MX H0 H m b c l cs ls k := by
  obtain ⟨s, c, l, cs, ls, k, h1, h2, h3, h4, h5, h6, h7, h8, h9, h10⟩ := h
  exact ⟨c, l, cs, ls, k, s, h1, h2, h3, h4, h5, h6, h7, h8, h9, h10⟩
section
variable {H0 H H' : Hp} {m : Addr} {b : Nat} {c l : Addr} {cs ls : List Int} {k : Nat}
theorem MX.ma (h : MX H0 H m b c l cs ls k) : MA H0 H m b := ⟨h.same, c, l, cs, ls, k, h.hm, h.hc, h.hl, h.ne, h.lc, h.ll, h.kb, h.fm, h.fc, h.fl⟩
theorem MX.ext (h : MX H0 H m b c l cs ls k) (e : Same H H') : MX H0 H' m b c l cs ls k :=
  ⟨fun a o x => e _ _ (h.same _ _ x), e _ _ h.hm, e _ _ h.hc, e _ _ h.hl, h.ne, h.lc, h.ll, h.kb, h.fm, h.fc, h.fl⟩
theorem MX.dl (h : MX H0 H m b c l cs ls k) : DGet H m (.str "left") (some (.ref l)) := .inl ⟨_, kL, .inl h.hm, rfl, (mD_L c l k).symm⟩
theorem MX.dc (h : MX H0 H m b c l cs ls k) : DGet H m (.str "cells") (some (.ref c)) := .inl ⟨_, kC, .inl h.hm, rfl, (mD_C c l k).symm⟩
theorem MX.da (h : MX H0 H m b c l cs ls k) : DGet H m (.str "at") (some (.int (k : Nat))) := .inl ⟨_, kA, .inl h.hm, rfl, (mD_A c l k).symm⟩
theorem MX.mc (h : MX H0 H m b c l cs ls k) : m ≠ c := fun z => by have := h.hm; rw [z, h.hc] at this; cases this
theorem MX.ml (h : MX H0 H m b c l cs ls k) : m ≠ l := fun z => by have := h.hm; rw [z, h.hl] at this; cases this
/-- the list left is another one -/
theorem MX.left {u : Addr} {us : List Int} (h : MX H0 H m b c l cs ls k) (hu : H u = some (.lst (us.map V.int))) (hf : H0 u = none) (hcu : c ≠ u) (hs : us.length ≤ 63) :
    MX H0 (upd H m (.dK (mD c u k))) m b c u cs us k := by
  have hmu : m ≠ u := fun z => by have := h.hm; rw [z, hu] at this; cases this
  refine ⟨same_mut h.same h.fm, upd_same, ?_, ?_, hcu, h.lc, hs, h.kb, h.fm, h.fc, hf⟩
  · rw [upd_ne (Ne.symm h.mc)]; exact h.hc
  · rw [upd_ne (Ne.symm hmu)]; exact hu
theorem MX.put {us : List Int} (h : MX H0 H m b c l cs ls k) (hs : us.length ≤ 63) : MX H0 (upd H l (.lst (us.map V.int))) m b c l cs us k := by
  refine ⟨same_mut h.same h.fl, ?_, ?_, upd_same, h.ne, h.lc, hs, h.kb, h.fm, h.fc, h.fl⟩
  · rw [upd_ne h.ml]; exact h.hm
  · rw [upd_ne h.ne]; exact h.hc
theorem MX.tick {k' b' : Nat} (h : MX H0 H m b c l cs ls k) (hk : k' ≤ b') : MX H0 (upd H m (.dK (mD c l k'))) m b' c l cs ls k' := by
  refine ⟨same_mut h.same h.fm, upd_same, ?_, ?_, h.ne, h.lc, h.ll, hk, h.fm, h.fc, h.fl⟩
  · rw [upd_ne (Ne.symm h.mc)]; exact h.hc
  · rw [upd_ne (Ne.symm h.ml)]; exact h.hl
end
theorem ixn0 {n : Nat} (h : 0 < n) : ixN n 0 = some 0 := by
  unfold ixN
  simp [h]
theorem modNat {x : Int} {r : Nat} (h : 0 < r) : ∃ i : Nat, i < r ∧ x % (r : Nat) = (i : Nat) := by
  have h1 := Int.emod_nonneg x (show ((r : Nat) : Int) ≠ 0 by omega)
  have h2 := Int.emod_lt_of_pos x (show (0 : Int) < (r : Nat) by omega)
  exact ⟨(x % (r : Nat)).toNat, by omega, by omega⟩
section
variable {P : Program} {w : World} {K : PySem.W.Frag} {mg : Str → Option Value} {base : Heap}
def spNext : Sp := fun vs H Q _ => ∃ (m : Addr) (r b : Nat) (H0 : Hp), vs = [.ref m, .int (r : Nat)] ∧ MA H0 H m b ∧ 0 < r ∧ r ≤ 1000 ∧ b ≤ 5000 ∧ ∀ H' (i : Nat), i < r → MA H0 H' m (b + 1) → Q (.int (i : Nat)) H'
abbrev nmNext : List Str := ["_law_m", "_law_total", "_law_rest", "_law_k", "_law_cell", "_law_mixed"]
theorem scNext : FnScope nmNext ["_law_m", "_law_total"] (defScope (topS 26)) := ⟨rfl, rfl, rfl, by decide +kernel, rfl, by decide +kernel, by decide +kernel⟩
theorem ok_next {f : Addr} {fd : FuncData} (F : FnD K "_law_next" 26 f fd) (G : Glb mg) : FnOk P w K mg base CX0 1 f fd ["_law_m", "_law_total"] spNext := by
  refine F.ok scNext (fun vs H Q E h => ?_) (fun cdv A outer s H vs Q E hr h => ?_)
  · obtain ⟨m, r, b, H0, rfl, _⟩ := h
    rfl
  · obtain ⟨m, r, b, H0, rfl, hma, hr0, hr1, hb, q⟩ := h
    have hu := hu_of hr
    refine ⟨_, pss_cons (ps_while PassesOwn.never (PW.pt (pw_and (pt_cmpR (op_ne0 hr.units0) (pe_dget hu (pv 0) pe_str (fun _ _ => rfl)) (pe_lst pa_nil) (nomark _)) (pw_and1 (pt_cmpR op_eq (pe_ix ix_list (pe_dget hu (pv 0) pe_str (fun _ _ => rfl)) pe_int (fun _ _ => rfl)) pe_int (nomark _)))))
        (pss_one (ps_dput hu (pv 0) pe_str (pe_slice sl_list (pe_dget hu (pv 0) pe_str (fun _ _ => rfl)) (po_some pe_int) po_none) rfl)))
      (pss_cons (ps_if (pt_cmpR (op_ne0 hr.units0) (pe_dget hu (pv 0) pe_str (fun _ _ => rfl)) (pe_lst pa_nil) (nomark _))
        (pss_cons (ps_set (i := 2) scNext.nd rfl (.inl rfl) (pe_callTy call_int1 (by rfl) G.int b_int (pa_cons (pe_ix ix_list (pe_dget hu (pv 0) pe_str (fun _ _ => rfl)) pe_int (fun _ _ => rfl)) pa_nil)))
        (pss_cons (ps_asg (pe_op op_fdiv (pv 2) (pv 1)) (pg_sub (pe_dget hu (pv 0) pe_str (fun _ _ => rfl)) pe_int set_list))
        (pss_one (ps_ret (pe_op op_mod (pv 2) (pv 1)))))) pss_nil)
      (pss_cons (ps_set (i := 3) scNext.nd rfl (.inl rfl) (pe_op op_add (pe_dget hu (pv 0) pe_str (fun _ _ => rfl)) pe_int))
      (pss_cons (ps_dput hu (pv 0) pe_str (pv 3) rfl)
      (pss_cons (ps_set (i := 4) scNext.nd rfl (.inl rfl) (pe_ifExp (pt_cmpR (op_ne0 hr.units0) (pe_dget hu (pv 0) pe_str (fun _ _ => rfl)) (pe_lst pa_nil) (nomark _))
        (pe_ix ix_list (pe_dget hu (pv 0) pe_str (fun _ _ => rfl)) (pe_op op_mod (pe_callTy call_int1 (by rfl) G.int b_int (pa_cons (pv 3) pa_nil)) (pe_callB call_len (by rfl) G.len PySem.boot_len (pa_cons (pe_dget hu (pv 0) pe_str (fun _ _ => rfl)) pa_nil))) (fun _ _ => rfl)) pe_int))
      (pss_cons (ps_set (i := 5) scNext.nd rfl (.inl rfl) (pe_op op_mul (pe_callTy call_int1 (by rfl) G.int b_int (pa_cons (pe_op op_add (pe_op op_add (pe_op op_mod (pe_callTy call_int1 (by rfl) G.int b_int (pa_cons (pv 4) pa_nil)) pe_int) (pe_op op_mul pe_int (pv 3))) (pe_op op_mul (pe_op op_mul pe_int (pv 3)) (pv 3))) pa_nil)) pe_int))
      (pss_cons (ps_set (i := 5) scNext.nd rfl (.inl rfl) (pe_op op_mul (pe_callTy call_int1 (by rfl) G.int b_int (pa_cons (pe_op op_add (pe_op op_mod (pe_callTy call_int1 (by rfl) G.int b_int (pa_cons (pv 5) pa_nil)) pe_int) (pe_op op_mul pe_int (pv 3))) pa_nil)) pe_int))
      (pss_one (ps_ret (pe_op op_mod (pe_callTy call_int1 (by rfl) G.int b_int (pa_cons (pe_op op_fdiv (pe_op op_mod (pe_callTy call_int1 (by rfl) G.int b_int (pa_cons (pv 5) pa_nil)) pe_int) pe_int) pa_nil)) (pv 1)))))))))), ?_⟩
    have zero : (0 : Nat) ≤ sizeLine := Nat.zero_le _
    obtain ⟨c, l, cs, ls, k, hx⟩ := hma.mx
    refine ⟨fun μ σ H' => σ = [some (.ref m), some (.int (r : Nat)), none, none, none, none] ∧ ∃ l ls, MX H0 H' m b c l cs ls k ∧ ls.length = μ, ⟨_, rfl, l, ls, hx, rfl⟩, ?_⟩
    rintro μ σ H1 ⟨rfl, l, ls, hx, rfl⟩
    refine ⟨_, rfl, m, _, rfl, hx.dl, zero, fun u hu1 => ?_⟩
    have hx1 := hx.ext (same_new (o := .lst []) hu1)
    refine ⟨l, u, _, rfl, rfl, SqL.of hx1.hl, SqL.of upd_same, _, rfl, ?_⟩
    cases ls with
    | cons y ls =>
      refine iteT ⟨_, rfl, m, _, rfl, hx1.dl, l, _, _, _, rfl, rfl, SqL.of hx1.hl, atI_nat (j := 0) rfl, rfl, _, rfl, ite2 (fun _ => ?_) (fun _ => ?_)⟩
      · refine ⟨fun σ' H' => σ' = [some (.ref m), some (.int (r : Nat)), none, none, none, none] ∧ ∃ l' , MX H0 H' m b c l' cs ls k, fun σ' H' z => ?_, ?_⟩
        · obtain ⟨rfl, l', hx'⟩ := z
          exact ⟨ls.length, by simp, rfl, l', ls, hx', rfl⟩
        · refine ⟨_, rfl, m, _, rfl, hx1.dl, _, rfl, _, _, rfl, SqL.of hx1.hl, fun p hp => ?_⟩
          have hx2 := hx1.ext (same_new (o := .lst (cutV ((y :: ls).map V.int) (some 1) none)) hp)
          refine ⟨_, rfl, m, _, rfl, .inl ⟨_, kL, hx2.hm, rfl, by simp [mD]; decide, rfl⟩, rfl, p, ?_⟩
          rw [mD_pL]
          have := hx.ll
          refine hx2.left (us := ls) ?_ (hx1.same.free hp) ?_ (by simp at this; omega)
          · rw [upd_same]
            show some (HO.lst (cutV (V.int y :: ls.map V.int) (some 1) none)) = _
            rw [cut1]
          · exact ne_of_none hx1.hc hp
      · refine ⟨_, rfl, m, _, rfl, hx1.dl, zero, fun u2 hu2 => ?_⟩
        have hx2 := hx1.ext (same_new (o := .lst []) hu2)
        refine ⟨l, u2, _, rfl, rfl, SqL.of hx2.hl, SqL.of upd_same, _, rfl, iteT ?_⟩
        obtain ⟨i, hi, ei⟩ := modNat (x := y) hr0
        refine ⟨_, rfl, m, _, rfl, hx2.dl, l, _, _, _, rfl, rfl, SqL.of hx2.hl, atI_nat (j := 0) rfl, .inl ⟨y, rfl, ?_⟩⟩
        refine ⟨_, rfl, _, rfl, y, (r : Nat), rfl, rfl, ⟨by omega, by omega⟩, _, rfl, m, _, rfl, hx2.dl, l, _, 0, 0, rfl, rfl, hx2.hl, ixn0 (by simp), ?_⟩
        refine ⟨_, rfl, _, rfl, y, (r : Nat), rfl, rfl, by omega, ?_⟩
        show Q (V.int (y % (r : Nat))) _
        rw [ei]
        exact q _ i hi ((hx2.put (us := y / (r : Nat) :: ls) hx.ll).ma.mono (Nat.le_succ _))
    | nil =>
      refine iteF ?_
      refine ⟨_, rfl, m, _, rfl, hx1.dl, zero, fun u2 hu2 => ?_⟩
      have hx2 := hx1.ext (same_new (o := .lst []) hu2)
      refine ⟨l, u2, _, rfl, rfl, SqL.of hx2.hl, SqL.of upd_same, _, rfl, iteF ?_⟩
      refine ⟨_, rfl, m, _, rfl, hx2.da, (k : Nat), 1, rfl, rfl, ?_⟩
      refine ⟨_, rfl, _, rfl, m, _, rfl, .inl ⟨_, kA, hx2.hm, rfl, by simp [mD]; decide, rfl⟩, ?_⟩
      have hk := hx.kb
      have ek : ((k : Nat) : Int) + 1 = ((k + 1 : Nat) : Int) := by omega
      dsimp only
      rw [ek, mD_pA]
      have hx3 := hx2.tick (k' := k + 1) (b' := b + 1) (by omega)
      have hkk : k + 1 ≤ 5001 := by omega
      generalize k + 1 = k1 at *
      refine ⟨_, rfl, m, _, rfl, hx3.dc, zero, fun u3 hu3 => ?_⟩
      have hx4 := hx3.ext (same_new (o := .lst []) hu3)
      refine ⟨c, u3, _, rfl, rfl, SqL.of hx4.hc, SqL.of upd_same, _, rfl, ?_⟩
      have fin : ∀ (x : Int) H', MA H0 H' m (b + 1) → Q (.int (x % (r : Nat))) H' := fun x H' h => by
        obtain ⟨i, hi, ei⟩ := modNat (x := x) hr0
        rw [ei]
        exact q _ i hi h
      cases cs with
      | nil =>
        refine iteF ?_
        obtain ⟨z, hz⟩ : ∃ z : Int, z = 3 := ⟨3, rfl⟩
        rw [← hz]
        exact ⟨_, rfl, .inl ⟨z, rfl, z, _, rfl, rfl, (by decide : (0 : Int) < 2147483629), _, rfl, _, _, rfl, rfl, .inl ⟨by decide, by decide⟩, _, _, rfl, rfl, _, rfl, _, _, rfl, rfl, .inl ⟨by decide, by decide⟩, _, rfl, _, _, rfl, rfl, .inr ⟨by omega, by omega⟩, _, _, rfl, rfl, .inl ⟨_, rfl, _, _, rfl, rfl, .inr ⟨by decide, by decide⟩, _, rfl, .inl ⟨_, rfl, _, _, rfl, rfl, (by decide : (0 : Int) < 2147483647), _, rfl, _, _, rfl, rfl, .inl ⟨by decide, by decide⟩, _, _, rfl, rfl, .inl ⟨_, rfl, _, _, rfl, rfl, .inr ⟨by decide, by decide⟩, _, rfl, .inl ⟨_, rfl, _, _, rfl, rfl, (by decide : (0 : Int) < 2147483587), _, _, rfl, rfl, ⟨by decide, by decide⟩, .inl ⟨_, rfl, _, rfl, _, _, rfl, rfl, by omega, fin _ _ hx4.ma⟩⟩⟩⟩⟩⟩⟩
      | cons y cs =>
        refine iteT ⟨_, rfl, m, _, rfl, hx4.dc, _, rfl, .inl ⟨_, rfl, _, rfl, m, _, rfl, hx4.dc, _, (y :: cs).length, rfl, .inl ⟨_, SqL.of hx4.hc, by rw [List.length_map]⟩, (k1 : Nat), ((y :: cs).length : Nat), rfl, rfl, by simp only [List.length_cons]; omega, ?_⟩⟩
        obtain ⟨i, hi, ei⟩ := modNat (x := (k1 : Nat)) (show 0 < (y :: cs).length by simp)
        refine ⟨c, _, _, (V.int ((y :: cs)[i]'hi)), rfl, rfl, SqL.of hx4.hc, ?_, ?_⟩
        · show atI _ (((k1 : Nat) : Int) % ((y :: cs).length : Nat)) = _
          rw [ei]
          refine atI_nat ?_
          rw [List.getElem?_map, List.getElem?_eq_getElem hi]
          rfl
        generalize (y :: cs)[i]'hi = z
        exact ⟨_, rfl, .inl ⟨z, rfl, z, _, rfl, rfl, (by decide : (0 : Int) < 2147483629), _, rfl, _, _, rfl, rfl, .inl ⟨by decide, by decide⟩, _, _, rfl, rfl, _, rfl, _, _, rfl, rfl, .inl ⟨by decide, by decide⟩, _, rfl, _, _, rfl, rfl, .inr ⟨by omega, by omega⟩, _, _, rfl, rfl, .inl ⟨_, rfl, _, _, rfl, rfl, .inr ⟨by decide, by decide⟩, _, rfl, .inl ⟨_, rfl, _, _, rfl, rfl, (by decide : (0 : Int) < 2147483647), _, rfl, _, _, rfl, rfl, .inl ⟨by decide, by decide⟩, _, _, rfl, rfl, .inl ⟨_, rfl, _, _, rfl, rfl, .inr ⟨by decide, by decide⟩, _, rfl, .inl ⟨_, rfl, _, _, rfl, rfl, (by decide : (0 : Int) < 2147483587), _, _, rfl, rfl, ⟨by decide, by decide⟩, .inl ⟨_, rfl, _, rfl, _, _, rfl, rfl, by omega, fin _ _ hx4.ma⟩⟩⟩⟩⟩⟩⟩
end
end LH

namespace LH
open PySem PySem.Spec PyProof.Rows L2 LHM LHR
section
variable {P : Program} {w : World} {K : PySem.W.Frag} {mg : Str → Option Value} {base : Heap}
abbrev CalNext (P : Program) (w : World) (K : PySem.W.Frag) (mg : Str → Option Value) (base : Heap) : Prop := Cal P w K mg base CX0 1 "_law_next" ["_law_m", "_law_total"] spNext
/-! ### _law_work -/
def spWorkD : Sp := fun vs H Q _ => ∃ (m : Addr) (b : Nat) (H0 : Hp), vs = [.ref m] ∧ MA H0 H m b ∧ b ≤ 4000 ∧ ∀ H' z, GoodWork z → MA H0 H' m (b + 5) → Q (.str z) H'
theorem scWorkD : FnScope ["_law_m", "_law_k"] ["_law_m"] (defScope (topS 27)) := ⟨rfl, rfl, rfl, by decide +kernel, rfl, by decide +kernel, by decide +kernel⟩
theorem ctlr {i : Nat} (h : i < 4) : ∃ c, atI (("CTLR" : Str)).cps.toList ((i : Nat) : Int) = some c ∧ c ∈ (("CLRT" : Str)).cps.toList := by
  match i, h with
  | 0, _ => exact ⟨67, by decide +kernel, by decide +kernel⟩
  | 1, _ => exact ⟨84, by decide +kernel, by decide +kernel⟩
  | 2, _ => exact ⟨76, by decide +kernel, by decide +kernel⟩
  | 3, _ => exact ⟨82, by decide +kernel, by decide +kernel⟩
def chs (zs : List Nat) : List Str := zs.map fun c => ⟨#[c]⟩
theorem app_cps (a b : Str) : (a ++ b).cps.toList = a.cps.toList ++ b.cps.toList := by
  show (a.cps ++ b.cps).toList = _
  simp
theorem join_chs : ∀ zs : List Nat, (Str.join "" (chs zs)).cps.toList = zs
  | [] => rfl
  | [c] => rfl
  | c :: d :: zs => by
    have ih := join_chs (d :: zs)
    show ((⟨#[c]⟩ : Str) ++ ("" : Str) ++ Str.join "" (chs (d :: zs))).cps.toList = _
    rw [app_cps, app_cps, ih]
    rfl
theorem chs_sum : ∀ zs : List Nat, ((chs zs).map (·.length)).sum = zs.length
  | [] => rfl
  | c :: zs => by
    have ih := chs_sum zs
    show 1 + ((chs zs).map (·.length)).sum = _
    rw [ih, List.length_cons]; omega
theorem ok_workD {f : Addr} {fd : FuncData} (F : FnD K "_law_work" 27 f fd) (G : Glb mg) (CN : CalNext P w K mg base) : FnOk P w K mg base CX0 2 f fd ["_law_m"] spWorkD := by
  refine F.ok scWorkD (fun vs H Q E h => ?_) (fun cdv A outer s H vs Q E hr h => ?_)
  · obtain ⟨m, b, H0, rfl, _⟩ := h
    rfl
  · obtain ⟨m, b, H0, rfl, hma, hb, q⟩ := h
    refine ⟨_, pss_one (ps_ret (pe_join pe_str (pe_lc (own := [("_law_k", 1)]) (g := gName 1) (tt := tYes) rfl scWorkD.nd (pi_range1 (by rfl) G.range (pa_cons (pe_op op_add pe_int (pe_cal CN hr (by rfl) (E := E0) pass0 (pa_cons (pv 0) (pa_cons pe_int pa_nil)))) pa_nil))
      (blkOk_by (N := ["_law_m", "_law_k"]) (sc := defScope (topS 27)) (by decide +kernel)) (fun _ _ _ _ _ => pg_name (i := 1) scWorkD.nd rfl (Or.inl rfl)) (fun _ _ _ _ _ => pts_nil)
      (fun _ _ _ _ _ => pe_ix ix_str pe_str (pe_cal CN hr (by rfl) (E := E0) pass0 (pa_cons (pv 0) (pa_cons pe_int pa_nil))) (fun _ _ => rfl))))), ?_⟩
    refine ⟨⟨_, rfl⟩, _, rfl, m, 4, b, H0, rfl, hma, by decide, by decide, by omega, fun H1 i hi h1 => ?_⟩
    refine ⟨1, (i : Nat), rfl, rfl, _, rfl, by omega, by omega, fun D hD => lc_walk walk_range [some (.ref m), none] (by rfl) (fun j H' => ∃ zs : List Nat, zs.length = j ∧ (∀ c ∈ zs, c ∈ (("CLRT" : Str)).cps.toList) ∧ MA (upd H0 D (.lst ((chs zs).map V.str))) H' m (b + 1 + j))
      ⟨[], rfl, (fun c hc => by cases hc), h1.new hD⟩ (fun _ _ _ _ => trivial) ?_ ?_⟩
    · rintro j x H2 H3 hj ⟨zs, rfl, hc, h2⟩ ⟨rfl, rfl⟩
      have hj4 : zs.length < 4 := by omega
      refine ⟨rfl, _, rfl, m, 4, b + 1 + zs.length, _, rfl, h2, by decide, by decide, by omega, fun H4 t ht h4 => ?_⟩
      obtain ⟨c, hc1, hc2⟩ := ctlr ht
      refine ⟨_, _, c, rfl, rfl, by decide +kernel, hc1, (chs zs).map V.str, h4.same _ _ upd_same, lt_line (by simp [chs]; omega), zs ++ [c], by simp, ?_, ?_⟩
      · intro d hd
        rcases List.mem_append.mp hd with z | z
        · exact hc d z
        · rw [List.mem_singleton.mp z]; exact hc2
      · have := (h4.mut (o := .lst ((chs zs).map V.str ++ [.str ⟨#[c]⟩])) upd_same).mono (b' := b + 1 + (zs.length + 1)) (by omega)
        rw [upd_upd] at this
        rw [show (chs (zs ++ [c])).map V.str = (chs zs).map V.str ++ [.str ⟨#[c]⟩] by simp [chs]]
        exact this
    · rintro H2 ⟨zs, hl, hc, h2⟩
      have hl1 : 1 ≤ zs.length ∧ zs.length ≤ 4 := by omega
      refine ⟨_, D, chs zs, rfl, rfl, .inl (SqL.of (h2.same _ _ upd_same)), ?_, ?_⟩
      · rw [chs_sum]
        have : (chs zs).length = zs.length := by simp [chs]
        rw [this]
        show zs.length + zs.length * 0 ≤ _
        omega
      · have e : (Txt.join "" (chs zs)).cps.toList = zs := by rw [TL.join_eq]; exact join_chs zs
        refine q _ _ ⟨?_, ?_, ?_⟩ ((h2.less (same_new (h1.same.free hD))).mono (by omega))
        · show 1 ≤ (Txt.join "" (chs zs)).cps.size
          rw [← Array.length_toList, e]
          exact hl1.1
        · show (Txt.join "" (chs zs)).cps.size ≤ 12
          rw [← Array.length_toList, e]
          omega
        · rw [e]
          exact hc
end
end LH

namespace LH
open PySem PySem.Spec PyProof.Rows L2 LHM LHR
/-! ### all sides, counted -/
def allS (n : Nat) : List (Nat × Bool) := (List.range (2 * n)).map fun i => (i / 2, hd i)
theorem cnt_range0 {f : Nat → Nat × Bool} {z : Nat × Bool} : ∀ N : Nat, (∀ i, i < N → f i ≠ z) → ((List.range N).map f).count z = 0
  | 0, _ => rfl
  | N + 1, h => by
    rw [List.range_succ, List.map_append, List.count_append, cnt_range0 N fun i hi => h i (by omega)]
    simp [h N (Nat.lt_succ_self _)]
theorem cnt_range1 {f : Nat → Nat × Bool} {z : Nat × Bool} {j : Nat} : ∀ N : Nat, j < N → f j = z → (∀ i, i < N → f i = z → i = j) → ((List.range N).map f).count z = 1
  | 0, h, _, _ => absurd h (Nat.not_lt_zero _)
  | N + 1, h, e, u => by
    rw [List.range_succ, List.map_append, List.count_append]
    by_cases q : j = N
    · subst q
      rw [cnt_range0 j fun i hi z => by have := u i (by omega) z; omega]
      simp [e]
    · rw [cnt_range1 N (by omega) e fun i hi z => u i (by omega) z]
      have : f N ≠ z := fun z => q (u N (Nat.lt_succ_self _) z).symm
      simp [this]
def ofH (h : Bool) : Nat := if h then 1 else 0
theorem hd_of (u : Nat) (h : Bool) : hd (2 * u + ofH h) = h ∧ (2 * u + ofH h) / 2 = u ∧ ofH h < 2 := by
  cases h
  · exact ⟨by unfold hd ofH; simp, by unfold ofH; simp, by decide⟩
  · refine ⟨?_, ?_, by decide⟩
    · unfold hd ofH
      simp
    · unfold ofH
      simp
      omega
theorem hd_at (i : Nat) : i = 2 * (i / 2) + ofH (hd i) := by
  unfold hd ofH
  by_cases e : i % 2 = 1
  · rw [decide_eq_true e]; simp; omega
  · rw [decide_eq_false e]; simp; omega
theorem allS_count {n u : Nat} {s : Bool} (h : u < n) : (allS n).count (u, s) = 1 := by
  obtain ⟨h1, h2, h3⟩ := hd_of u s
  refine cnt_range1 (j := 2 * u + ofH s) _ (by omega) (by rw [h1, h2]) fun i hi e => ?_
  have e1 : i / 2 = u := congrArg Prod.fst e
  have e2 : hd i = s := congrArg Prod.snd e
  rw [hd_at i, e1, e2]
theorem allS_mem {n : Nat} {z : Nat × Bool} (h : 0 < (allS n).count z) : z.1 < n := by
  obtain ⟨i, hi, rfl⟩ := List.mem_map.mp (List.count_pos_iff.mp h)
  have := List.mem_range.mp hi
  show i / 2 < n
  omega
theorem cnt_erase {z : Nat × Bool} : ∀ (l : List (Nat × Bool)) (i : Nat) (h : i < l.length), (l.eraseIdx i).count z + (if l[i] = z then 1 else 0) = l.count z
  | [], _, h => absurd h (Nat.not_lt_zero _)
  | x :: l, 0, _ => by
    show l.count z + (if x = z then 1 else 0) = _
    rw [List.count_cons]
    simp
  | x :: l, i + 1, h => by
    have hi : i < l.length := by simpa using h
    have ih := cnt_erase (z := z) l i hi
    show (x :: l.eraseIdx i).count z + (if l[i] = z then 1 else 0) = _
    rw [List.count_cons, List.count_cons]
    omega
theorem allS_snoc (n : Nat) : allS (n + 1) = allS n ++ [(n, false), (n, true)] := by
  unfold allS
  rw [show 2 * (n + 1) = 2 * n + 1 + 1 by omega, List.range_succ, List.range_succ, List.append_assoc, List.map_append]
  congr 1
  show [(2 * n / 2, hd (2 * n)), ((2 * n + 1) / 2, hd (2 * n + 1))] = _
  rw [show 2 * n / 2 = n by omega, show (2 * n + 1) / 2 = n by omega]
  have := (hd_of n false).1
  have h2 := (hd_of n true).1
  show [(n, hd (2 * n + ofH false)), (n, hd (2 * n + ofH true))] = _
  rw [this, h2]
theorem SidesR.erase {H : Hp} {es : List V} {zs : List (Nat × Bool)} {i : Nat} (h : SidesR H es zs) : SidesR H (es.eraseIdx i) (zs.eraseIdx i) := by
  refine ⟨by rw [List.length_eraseIdx, List.length_eraseIdx, h.1], fun j z hz => ?_⟩
  rw [List.getElem?_eraseIdx] at hz
  rw [List.getElem?_eraseIdx]
  split at hz
  · rename_i c; rw [if_pos c]; exact h.2 _ _ hz
  · rename_i c; rw [if_neg c]; exact h.2 _ _ hz
section
variable {P : Program} {w : World} {K : PySem.W.Frag} {mg : Str → Option Value} {base : Heap}
/-! ### _law_sides -/
def spSidesD : Sp := fun vs H Q _ => ∃ (m : Addr) (n b : Nat) (H0 : Hp), vs = [.ref m, .int (n : Nat)] ∧ MA H0 H m b ∧ 1 ≤ n ∧ n ≤ 6 ∧ b ≤ 4000 ∧
  ∀ F' H' D es zs, MA F' H' m (b + 2 * n) → Same H0 F' → F' D = some (.lst es) → SidesR F' es zs → zs.length = 2 * n → (∀ z, zs.count z = (allS n).count z) → Q (.ref D) H'
abbrev nmSides : List Str := ["_law_m", "_law_size", "_law_rest", "_law_number", "_law_found", "_law_k"]
theorem scSides : FnScope nmSides ["_law_m", "_law_size"] (defScope (topS 28)) := ⟨rfl, rfl, rfl, by decide +kernel, rfl, by decide +kernel, by decide +kernel⟩
theorem ok_sidesD {f : Addr} {fd : FuncData} (F : FnD K "_law_sides" 28 f fd) (G : Glb mg) (CN : CalNext P w K mg base) : FnOk P w K mg base CX0 2 f fd ["_law_m", "_law_size"] spSidesD := by
  refine F.ok scSides (fun vs H Q E h => ?_) (fun cdv A outer s H vs Q E hr h => ?_)
  · obtain ⟨m, n, b, H0, rfl, _⟩ := h
    rfl
  · obtain ⟨m, n, b, H0, rfl, hma, hn1, hn, hb, q⟩ := h
    refine ⟨_, pss_cons (ps_set (i := 2) scSides.nd rfl (.inl rfl) (pe_lst pa_nil))
      (pss_cons (ps_for PassesOwn.never rfl (pi_range1 (by rfl) G.range (pa_cons (pv 1) pa_nil)) (pg_name (i := 3) scSides.nd rfl (.inl rfl))
        (pss_one (ps_set (i := 2) scSides.nd rfl (.inl rfl) (pe_op op_cat (pv 2) (pe_lst (pa_cons (pe_tup (pa_cons (pv 3) (pa_cons pe_str pa_nil))) (pa_cons (pe_tup (pa_cons (pv 3) (pa_cons pe_str pa_nil))) pa_nil)))))))
      (pss_cons (ps_set (i := 4) scSides.nd rfl (.inl rfl) (pe_lst pa_nil))
      (pss_cons (ps_for PassesOwn.never rfl (pi_range1 (by rfl) G.range (pa_cons (pe_op op_mul pe_int (pv 1)) pa_nil)) (pg_name (i := 5) scSides.nd rfl (.inl rfl))
        (pss_one (ps_expr (pe_bm PySem.F.plainAttrs_list PySem.F.slot_list_append PySem.F.type_list_append mt_append (pv 4) (pa_cons
          (pe_bm PySem.F.plainAttrs_list PySem.F.slot_list_pop PySem.F.type_list_pop mt_popAt (pv 2) (pa_cons (pe_cal CN hr (by rfl) (E := E0) pass0 (pa_cons (pv 0) (pa_cons (pe_callB call_len (by rfl) G.len PySem.boot_len (pa_cons (pv 2) pa_nil)) pa_nil))) pa_nil)) pa_nil)))))
      (pss_one (ps_ret (pv 4)))))), ?_⟩
    have two : (2 : Nat) ≤ sizeLine := by decide
    refine ⟨Nat.zero_le _, fun R hR => ?_⟩
    refine ⟨_, rfl, (n : Nat), rfl, by omega, by omega, for_it walk_range (fun i σ H' => ∃ R y3 es, σ = [some (.ref m), some (.int (n : Nat)), some (.ref R), y3, none, none] ∧ Same H H' ∧ H R = none ∧ H' R = some (.lst es) ∧ SidesR H' es (allS i))
      ⟨R, _, [], rfl, same_new hR, hR, upd_same, rfl, fun i z h => by simp [allS] at h⟩ (fun _ _ _ _ _ => trivial) ?_ ?_⟩
    · rintro i x σ1 H1 H2 hi ⟨R, y3, es, rfl, sm, hR, eR, hes⟩ ⟨rfl, rfl⟩
      have hin : i < n := by
        have : i < ((n : Nat) : Int).toNat := hi
        omega
      have hl : es.length = 2 * i := by rw [hes.1]; simp [allS]
      refine ⟨_, rfl, _, rfl, two, fun u1 hu1 => ⟨_, rfl, two, fun u2 hu2 => ⟨two, fun L hL => ?_⟩⟩⟩
      have S1 : Same H2 (upd H2 u1 (.tup [.int (0 + (i : Nat)), .str "l"])) := same_new hu1
      have S2 := S1.trans (same_new (o := .tup [.int (0 + (i : Nat)), .str "r"]) hu2)
      have S3 := S2.trans (same_new (o := .lst [.ref u1, .ref u2]) hL)
      refine ⟨R, L, es, _, rfl, rfl, S3 _ _ eR, upd_same, by show es.length + 2 ≤ sizeLine; exact Nat.le_of_lt (lt_line (by omega)), fun R2 hR2 => ?_⟩
      have S4 := S3.trans (same_new (o := .lst (es ++ [.ref u1, .ref u2])) hR2)
      refine ⟨R2, _, _, rfl, sm.trans S4, (sm.trans S3).free hR2, upd_same, ?_⟩
      have e1 : SideR (upd (upd (upd (upd H2 u1 (.tup [.int (0 + (i : Nat)), .str "l"])) u2 (.tup [.int (0 + (i : Nat)), .str "r"])) L (.lst [.ref u1, .ref u2])) R2 (.lst (es ++ [.ref u1, .ref u2]))) u1 (i, false) := by
        refine (same_new hR2) _ _ ((same_new hL) _ _ ((same_new hu2) _ _ ?_))
        rw [upd_same]
        show some (HO.tup [V.int (0 + (i : Nat)), V.str "l"]) = _
        rw [Int.zero_add]
        rfl
      have e2 : SideR (upd (upd (upd (upd H2 u1 (.tup [.int (0 + (i : Nat)), .str "l"])) u2 (.tup [.int (0 + (i : Nat)), .str "r"])) L (.lst [.ref u1, .ref u2])) R2 (.lst (es ++ [.ref u1, .ref u2]))) u2 (i, true) := by
        refine (same_new hR2) _ _ ((same_new hL) _ _ ?_)
        rw [upd_same]
        show some (HO.tup [V.int (0 + (i : Nat)), V.str "r"]) = _
        rw [Int.zero_add]
        rfl
      have := ((hes.ts (.of S4)).snoc e1).snoc e2
      rw [List.append_assoc, List.append_assoc] at this
      rw [allS_snoc]
      exact this
    · rintro σ1 H1 ⟨R, y3, es, rfl, sm, hR, eR, hes⟩
      rw [show ((n : Nat) : Int).toNat = n by omega] at hes
      refine ⟨Nat.zero_le _, fun D hD => ?_⟩
      obtain ⟨F1, hm1, sF, hF, hF2⟩ := hma.ext sm
      have hesF : SidesR F1 es (allS n) := hes.ts fun a xs h => hF a _ h (by intro _ z; cases z) (by intro _ z; cases z)
      have eRF : F1 R = some (.lst es) := hF2 _ _ eR hR
      have hDF : F1 D = none := hm1.same.free hD
      refine ⟨_, rfl, 2, (n : Nat), rfl, rfl, .inl ⟨by decide, by decide⟩, _, rfl, by omega, by omega, for_it walk_range (fun j σ H' => ∃ y5 F er ef zr zf, σ = [some (.ref m), some (.int (n : Nat)), some (.ref R), y3, some (.ref D), y5] ∧ MA F H' m (b + j) ∧ Same H0 F ∧ F R = some (.lst er) ∧ F D = some (.lst ef) ∧ SidesR F er zr ∧ SidesR F ef zf ∧ zr.length + j = 2 * n ∧ zf.length = j ∧ ∀ z, zr.count z + zf.count z = (allS n).count z)
        ⟨_, upd F1 D (.lst []), es, [], allS n, [], rfl, hm1.new hD, sF.trans (same_new hDF), (same_new hDF) _ _ eRF, upd_same, hesF.ts (.of (same_new hDF)), ⟨rfl, fun i z h => by simp at h⟩, by simp [allS], rfl, fun z => by simp⟩ (fun _ _ _ _ _ => trivial) ?_ ?_⟩
      · rintro j x σ2 H2 H3 hj ⟨y5, F, er, ef, zr, zf, rfl, h2, s0, fR, fD, sr, sf, hl, hlf, hct⟩ ⟨rfl, rfl⟩
        have hj2 : j < 2 * n := by
          have : j < ((2 : Int) * (n : Nat)).toNat := hj
          omega
        have hRD : R ≠ D := fun z => by
          rw [z] at eRF
          rw [hDF] at eRF
          cases eRF
        refine ⟨_, rfl, .inl ⟨rfl, _, SqL.of (h2.same _ _ fD)⟩, _, rfl, .inl ⟨rfl, _, SqL.of (h2.same _ _ fR)⟩, _, rfl, _, rfl, _, er.length, rfl, .inl ⟨_, SqL.of (h2.same _ _ fR), rfl⟩, m, er.length, b + j, F, rfl, h2, by rw [sr.1]; omega, by rw [sr.1]; omega, by omega, fun H4 t ht h4 => ?_⟩
        have htz : t < zr.length := by rw [← sr.1]; exact ht
        obtain ⟨pt, ept, hpt⟩ := sr.2 t zr[t] (List.getElem?_eq_getElem htz)
        refine ⟨R, er, (t : Nat), t, _, rfl, rfl, h4.same _ _ fR, by omega, by rw [sr.1] at ht; omega, seqIndex_of (by omega) (by omega), ept, ?_⟩
        have h5 := h4.mut (o := .lst (er.eraseIdx t)) fR
        have fD5 : upd F R (.lst (er.eraseIdx t)) D = some (.lst ef) := by rw [upd_ne (Ne.symm hRD)]; exact fD
        refine ⟨D, ef, _, rfl, rfl, h5.same _ _ fD5, lt_line (by rw [sf.1]; omega), ?_⟩
        have h6 := h5.mut (o := .lst (ef ++ [.ref pt])) fD5
        have tsF : TupS F (upd (upd F R (.lst (er.eraseIdx t))) D (.lst (ef ++ [.ref pt]))) := (((TupS.refl F).lst fR)).lst fD5
        refine ⟨_, _, er.eraseIdx t, ef ++ [.ref pt], zr.eraseIdx t, zf ++ [zr[t]], rfl, h6.mono (by omega), ?_, ?_, upd_same, sr.erase.ts tsF, (sf.ts tsF).snoc (tsF _ _ hpt), ?_, by simp [hlf], fun z => ?_⟩
        · exact same_mut (same_mut s0 (hma.same.free hR)) (sF.free hDF)
        · rw [upd_ne hRD, upd_same]
        · rw [List.length_eraseIdx, if_pos htz]; omega
        · rw [List.count_append, ← hct z, ← cnt_erase zr t htz]
          have : [zr[t]].count z = if zr[t] = z then 1 else 0 := by simp [List.count_cons]
          omega
      · rintro σ2 H2 ⟨y5, F, er, ef, zr, zf, rfl, h2, s0, fR, fD, sr, sf, hl, hlf, hct⟩
        have e2 : ((2 : Int) * (n : Nat)).toNat = 2 * n := by omega
        have hz : zr = [] := by
          have : ((2 : Int) * (n : Nat)).toNat = zf.length := hlf.symm
          exact List.eq_nil_of_length_eq_zero (by omega)
        subst hz
        refine ⟨_, rfl, q F _ D ef zf (h2.mono ?_) s0 fD sf ?_ fun z => by rw [← hct z]; simp⟩
        · show b + ((2 : Int) * (n : Nat)).toNat ≤ b + 2 * n
          omega
        · rw [hlf]; exact e2
end
end LH

namespace LH
open PySem PySem.Spec PyProof.Rows L2 LHM LHR
/-! ### drawn tapes -/
def zAt (zs : List (Nat × Bool)) (i : Nat) : Nat × Bool := zs.getD i (0, false)
def tpOf (n : Nat) (wk : List Str) (zs : List (Nat × Bool)) (ds : List Int) : Tp :=
  ⟨n, wk, fun v h => (zAt zs (2 * v + ofH h)).1, fun v h => (zAt zs (2 * v + ofH h)).2, fun v h => ds.getD (2 * v + ofH h) 0⟩
def GoodZ (n : Nat) (zs : List (Nat × Bool)) : Prop := zs.length = 2 * n ∧ ∀ z, zs.count z = (allS n).count z
theorem sides_tpOf {n : Nat} {wk : List Str} {zs : List (Nat × Bool)} {ds : List Int} (h : zs.length = 2 * n) : sides (tpOf n wk zs ds) = zs := by
  refine List.ext_getElem? fun i => ?_
  show ((List.range (2 * n)).map fun i => ((zAt zs (2 * (i / 2) + ofH (hd i))).1, (zAt zs (2 * (i / 2) + ofH (hd i))).2))[i]? = zs[i]?
  rw [List.getElem?_map]
  by_cases q : i < 2 * n
  · rw [List.getElem?_range q, List.getElem?_eq_getElem (by omega)]
    show some ((zAt zs (2 * (i / 2) + ofH (hd i))).1, (zAt zs (2 * (i / 2) + ofH (hd i))).2) = _
    rw [← hd_at i]
    unfold zAt
    rw [List.getD_eq_getElem?_getD, List.getElem?_eq_getElem (by omega)]
    rfl
  · rw [List.getElem?_eq_none (by simp; omega), List.getElem?_eq_none (by omega)]
    rfl
theorem zAt_lt {n : Nat} {zs : List (Nat × Bool)} (g : GoodZ n zs) {i : Nat} (hi : i < 2 * n) : (zAt zs i).1 < n := by
  have h2 : i < zs.length := by rw [g.1]; exact hi
  unfold zAt
  rw [List.getD_eq_getElem?_getD, List.getElem?_eq_getElem h2]
  show (zs[i]).1 < n
  refine allS_mem ?_
  rw [← g.2]
  exact List.count_pos_iff.mpr (List.getElem_mem h2)
theorem tpOf_good {n : Nat} {wk : List Str} {zs : List (Nat × Bool)} {ds : List Int} (g : GoodZ n zs) (h1 : 1 ≤ n) (h2 : n ≤ 24) (hw : ∀ z ∈ wk, GoodWork z) : (tpOf n wk zs ds).Good := by
  refine ⟨h1, h2, hw, fun v h hv => ?_, fun u s hu => ?_⟩
  · have hv : v < n := hv
    have := (hd_of v h).2.2
    exact zAt_lt g (by omega)
  · rw [sides_tpOf g.1, g.2]
    exact allS_count hu
def DrawR (F : Hp) (ps : List V) (zs : List (Nat × Bool)) (ds : List Int) (i : Nat) : Prop :=
  ps.length = i ∧ ∀ v, v < i → ∃ p, ps[v]? = some (.ref p) ∧ PairR F p ((tpOf 0 [] zs ds).to v) ((tpOf 0 [] zs ds).sd v) ((tpOf 0 [] zs ds).dn v)
theorem DrawR.ts {F F' : Hp} {ps : List V} {zs : List (Nat × Bool)} {ds : List Int} {i : Nat} (h : DrawR F ps zs ds i) (e : TupS F F') : DrawR F' ps zs ds i :=
  ⟨h.1, fun v hv => let ⟨p, a, b⟩ := h.2 v hv; ⟨p, a, b.ts e⟩⟩
theorem DrawR.snoc {F : Hp} {ps : List V} {zs : List (Nat × Bool)} {ds : List Int} {i : Nat} {p l r : Addr} {d0 d1 : Int} (h : DrawR F ps zs ds i) (hd : ds.length = 2 * i) (hp : F p = some (.tup [.ref l, .ref r]))
    (hl : WayR F l (zAt zs (2 * i)).1 (zAt zs (2 * i)).2 d0) (hr : WayR F r (zAt zs (2 * i + 1)).1 (zAt zs (2 * i + 1)).2 d1) : DrawR F (ps ++ [V.ref p]) zs (ds ++ [d0, d1]) (i + 1) := by
  refine ⟨by simp [h.1], fun v hv => ?_⟩
  by_cases q : v < i
  · obtain ⟨p', a, b⟩ := h.2 v q
    refine ⟨p', by rw [List.getElem?_append_left (by rw [h.1]; exact q)]; exact a, ?_⟩
    have e : (tpOf 0 [] zs (ds ++ [d0, d1])).dn v = (tpOf 0 [] zs ds).dn v := by
      funext b
      have hb : ofH b < 2 := (hd_of 0 b).2.2
      show (ds ++ [d0, d1]).getD (2 * v + ofH b) 0 = ds.getD (2 * v + ofH b) 0
      rw [List.getD_eq_getElem?_getD, List.getD_eq_getElem?_getD, List.getElem?_append_left (by omega)]
    rw [e]
    exact b
  · have e : v = i := by omega
    subst e
    refine ⟨p, by rw [List.getElem?_append_right (Nat.le_of_eq h.1), h.1, Nat.sub_self]; rfl, l, r, hp, ?_, ?_⟩
    · have : (ds ++ [d0, d1]).getD (2 * v + 0) 0 = d0 := by
        rw [List.getD_eq_getElem?_getD, List.getElem?_append_right (by omega), show 2 * v + 0 - ds.length = 0 by omega]
        rfl
      show WayR F l (zAt zs (2 * v + 0)).1 (zAt zs (2 * v + 0)).2 ((ds ++ [d0, d1]).getD (2 * v + 0) 0)
      rw [this]
      exact hl
    · have : (ds ++ [d0, d1]).getD (2 * v + 1) 0 = d1 := by
        rw [List.getD_eq_getElem?_getD, List.getElem?_append_right (by omega), show 2 * v + 1 - ds.length = 1 by omega]
        rfl
      show WayR F r (zAt zs (2 * v + 1)).1 (zAt zs (2 * v + 1)).2 ((ds ++ [d0, d1]).getD (2 * v + 1) 0)
      rw [this]
      exact hr
def WsR (F : Hp) (ws : List V) (zs : List (Nat × Bool)) (ds : List Int) (i : Nat) : Prop := ws.length = ds.length ∧ ∀ (t : Nat) (d : Int), ds[t]? = some d → ∃ a : Addr, ws[t]? = some (V.ref a) ∧ WayR F a (zAt zs (2 * i + t)).1 (zAt zs (2 * i + t)).2 d
theorem WsR.ts {F F' : Hp} {ws : List V} {zs : List (Nat × Bool)} {ds : List Int} {i : Nat} (h : WsR F ws zs ds i) (e : TupS F F') : WsR F' ws zs ds i :=
  ⟨h.1, fun t d hd => let ⟨a, x, y⟩ := h.2 t d hd; ⟨a, x, y.ts e⟩⟩
theorem WsR.snoc {F : Hp} {ws : List V} {zs : List (Nat × Bool)} {ds : List Int} {i : Nat} {a : Addr} {d : Int} (h : WsR F ws zs ds i) (ha : WayR F a (zAt zs (2 * i + ds.length)).1 (zAt zs (2 * i + ds.length)).2 d) : WsR F (ws ++ [V.ref a]) zs (ds ++ [d]) i := by
  refine ⟨by simp [h.1], fun t d' hd => ?_⟩
  by_cases q : t < ds.length
  · rw [List.getElem?_append_left q] at hd
    obtain ⟨p', x, y⟩ := h.2 t d' hd
    exact ⟨p', by rw [List.getElem?_append_left (by rw [h.1]; exact q)]; exact x, y⟩
  · rw [List.getElem?_append_right (by omega)] at hd
    have e0 : t - ds.length = 0 := by
      have := (List.getElem?_eq_some_iff.mp hd).1
      simp at this
      omega
    rw [e0] at hd
    have e1 : d = d' := Option.some.inj hd
    subst e1
    have e2 : t = ds.length := by omega
    subst e2
    exact ⟨a, by rw [List.getElem?_append_right (Nat.le_of_eq h.1), h.1, Nat.sub_self]; rfl, ha⟩
theorem WsR.two {F : Hp} {ws : List V} {zs : List (Nat × Bool)} {ds : List Int} {i : Nat} (h : WsR F ws zs ds i) (h2 : ds.length = 2) : ∃ (l r : Addr) (d0 d1 : Int), ws = [V.ref l, V.ref r] ∧ ds = [d0, d1] ∧ WayR F l (zAt zs (2 * i)).1 (zAt zs (2 * i)).2 d0 ∧ WayR F r (zAt zs (2 * i + 1)).1 (zAt zs (2 * i + 1)).2 d1 := by
  match ds, h2, h with
  | [d0, d1], _, h =>
    obtain ⟨l, el, hl⟩ := h.2 0 d0 rfl
    obtain ⟨r, er, hr⟩ := h.2 1 d1 rfl
    have hlen : ws.length = 2 := h.1
    match ws, hlen, el, er with
    | [x, y], _, el, er =>
      have e1 : x = V.ref l := Option.some.inj el
      have e2 : y = V.ref r := Option.some.inj er
      exact ⟨l, r, d0, d1, by rw [e1, e2], rfl, hl, hr⟩
theorem catT {X : Cx} (K : PySem.W.Frag) (h : X.K = K := by rfl) : OpR X (binaryOp .Add) (rCatT K) := by subst h; exact op_catT
theorem zAt_sides {F : Hp} {es : List V} {zs : List (Nat × Bool)} {i : Nat} (h : SidesR F es zs) (hi : i < zs.length) : ∃ p : Addr, es[i]? = some (V.ref p) ∧ SideR F p (zAt zs i) := by
  obtain ⟨p, a, b⟩ := h.2 i zs[i] (List.getElem?_eq_getElem hi)
  refine ⟨p, a, ?_⟩
  unfold zAt
  rw [List.getD_eq_getElem?_getD, List.getElem?_eq_getElem hi]
  exact b
/-- the tape's whole, from its parts -/
theorem tape_of {F : Hp} {v b c : Addr} {ps : List V} {zs : List (Nat × Bool)} {ds : List Int} {n : Nat} {wk : List Str} (hv : F v = some (.tup [.ref b, .ref c])) (hb : F b = some (.tup (wk.map V.str))) (hc : F c = some (.tup ps)) (hw : wk.length = n) (hp : DrawR F ps zs ds n) : TapeR F (.ref v) (tpOf n wk zs ds) :=
  ⟨v, b, c, ps, rfl, hv, hb, hw, hc, hp.1, fun i hi => hp.2 i hi⟩
end LH

namespace LH
open PySem PySem.Spec PyProof.Rows L2 LHM LHR
section
variable {P : Program} {w : World} {K : PySem.W.Frag} {mg : Str → Option Value} {base : Heap}
/-! ### _law_tape -/
def spTapeD : Sp := fun vs H Q _ => ∃ (m : Addr) (N b : Nat) (H0 : Hp), vs = [.ref m, .int (N : Nat)] ∧ MA H0 H m b ∧ 1 ≤ N ∧ N ≤ 6 ∧ b ≤ 3000 ∧
  ∀ F' H' v T, MA F' H' m (b + 60) → Same H0 F' → TapeR F' (.ref v) T → T.Good → T.n ≤ N → Q (.ref v) H'
abbrev nmTapeD : List Str := ["_law_m", "_law_most", "_law_size", "_law_some", "_law_pairs_of", "_law_number", "_law_ways", "_law_k"]
theorem scTapeD : FnScope nmTapeD ["_law_m", "_law_most"] (defScope (topS 29)) := ⟨rfl, rfl, rfl, by decide +kernel, rfl, by decide +kernel, by decide +kernel⟩
theorem ok_tapeD {f : Addr} {fd : FuncData} (F : FnD K "_law_tape" 29 f fd) (G : Glb mg) (CN : CalNext P w K mg base) (CS : Cal P w K mg base CX0 2 "_law_sides" ["_law_m", "_law_size"] spSidesD) (CW : Cal P w K mg base CX0 2 "_law_work" ["_law_m"] spWorkD) : FnOk P w K mg base CX0 3 f fd ["_law_m", "_law_most"] spTapeD := by
  refine F.ok scTapeD (fun vs H Q E h => ?_) (fun cdv A outer s H vs Q E hr h => ?_)
  · obtain ⟨m, n, b, H0, rfl, _⟩ := h
    rfl
  · obtain ⟨m, N, b, H0, rfl, hma, hN1, hN, hb, q⟩ := h
    have hr1 : Room 1 _ := hr.mono (by decide)
    refine ⟨_, pss_cons (ps_set (i := 2) scTapeD.nd rfl (.inl rfl) (pe_op op_add pe_int (pe_cal CN hr1 (by rfl) (E := E0) pass0 (pa_cons (pv 0) (pa_cons (pv 1) pa_nil)))))
      (pss_cons (ps_asg (pe_tup (pa_cons (pe_cal CS hr (by rfl) (E := E0) pass0 (pa_cons (pv 0) (pa_cons (pv 2) pa_nil))) (pa_cons (pe_lst pa_nil) pa_nil))) (pg_tup (by rfl) (pgs_cons (pg_name (i := 3) scTapeD.nd rfl (.inr rfl)) (pgs_cons (pg_name (i := 4) scTapeD.nd rfl (.inl rfl)) pgs_nil))))
      (pss_cons (ps_for PassesOwn.never rfl (pi_range1 (by rfl) G.range (pa_cons (pv 2) pa_nil)) (pg_name (i := 5) scTapeD.nd rfl (.inr rfl))
        (pss_cons (ps_setLc (i := 6) (own := [("_law_k", 7)]) (g := gName 7) (tt := tYes) rfl scTapeD.nd rfl rfl (sw_true rfl rfl rfl (by decide +kernel)) (pi_range1 (by rfl) G.range (pa_cons pe_int pa_nil))
            (blkOk_by (N := nmTapeD) (sc := defScope (topS 29)) (by decide +kernel)) (fun _ _ _ _ _ => pg_name (i := 7) scTapeD.nd rfl (Or.inl rfl)) (fun _ _ _ _ _ => pts_nil)
            (fun _ _ _ _ _ => pe_op (catT K) (pe_ix (ixL K) (pv 3) (pe_op op_add (pe_op op_mul pe_int (pv 5)) (pv 7)) (fun _ _ => rfl)) (pe_tup (pa_cons (pe_op op_sub (pe_cal CN hr1 (by rfl) (E := E0) pass0 (pa_cons (pv 0) (pa_cons pe_int pa_nil))) pe_int) pa_nil))))
        (pss_one (ps_expr (pe_bm PySem.F.plainAttrs_list PySem.F.slot_list_append PySem.F.type_list_append mt_append (pv 4) (pa_cons (pe_callTy call_tuple_of (by rfl) G.tuple b_tuple (pa_cons (pv 6) pa_nil)) pa_nil))))))
      (pss_one (ps_ret (pe_tup (pa_cons (pe_callTy call_tuple_of (by rfl) G.tuple b_tuple (pa_cons
          (pe_lc (own := [("_law_k", 7)]) (g := gName 7) (tt := tYes) rfl scTapeD.nd (pi_range1 (by rfl) G.range (pa_cons (pv 2) pa_nil)) (blkOk_by (N := nmTapeD) (sc := defScope (topS 29)) (by decide +kernel)) (fun _ _ _ _ _ => pg_name (i := 7) scTapeD.nd rfl (Or.inl rfl)) (fun _ _ _ _ _ => pts_nil)
            (fun _ _ _ _ _ => pe_cal CW hr (by rfl) (E := E0) pass0 (pa_cons (pv 0) pa_nil))) pa_nil))
        (pa_cons (pe_callTy call_tuple_of (by rfl) G.tuple b_tuple (pa_cons (pv 4) pa_nil)) pa_nil))))))), ?_⟩
    have two : (2 : Nat) ≤ sizeLine := by decide
    refine ⟨_, rfl, _, rfl, m, N, b, H0, rfl, hma, by omega, by omega, by omega, fun H1 i hi h1 => ⟨1, (i : Nat), rfl, rfl, ?_⟩⟩
    have en : (1 : Int) + (i : Nat) = ((i + 1 : Nat) : Int) := by omega
    dsimp only
    rw [en]
    have hn1 : 1 ≤ i + 1 := by omega
    have hnN : i + 1 ≤ N := by omega
    generalize i + 1 = n at *
    refine ⟨_, rfl, _, rfl, m, n, b + 1, H0, rfl, h1, hn1, by omega, by omega, fun F H2 S es zs h2 s0 fS sS hz hct => ⟨Nat.zero_le _, fun P hP => ⟨two, fun u hu => ⟨u, _, rfl, SqT.of upd_same, rfl, _, _, rfl, _, _, rfl, rfl, ?_⟩⟩⟩⟩
    have gz : GoodZ n zs := ⟨hz, hct⟩
    have hPF : F P = none := h2.same.free hP
    have hSP : S ≠ P := ne_of_none fS hPF
    have hP0 : H0 P = none := s0.free hPF
    have huF : upd F P (.lst []) u = none := (h2.new hP).same.free hu
    have t1 : Same F (upd (upd F P (.lst [])) u (.tup [.ref S, .ref P])) := (same_new hPF).trans (same_new huF)
    refine ⟨_, rfl, (n : Nat), rfl, by omega, by omega, for_it walk_range (fun i σ H' => ∃ y5 y6 F ps ds, σ = [some (.ref m), some (.int (N : Nat)), some (.int (n : Nat)), some (.ref S), some (.ref P), y5, y6, none] ∧ MA F H' m (b + 1 + 2 * n + 2 * i) ∧ Same H0 F ∧ F S = some (.lst es) ∧ SidesR F es zs ∧ F P = some (.lst ps) ∧ ds.length = 2 * i ∧ DrawR F ps zs ds i)
      ⟨_, _, _, [], [], rfl, (h2.new hP).new hu, s0.trans t1, t1 _ _ fS, sS.ts (.of t1), (same_new huF) _ _ upd_same, rfl, rfl, fun v hv => absurd hv (Nat.not_lt_zero _)⟩ (fun _ _ _ _ _ => trivial) ?_ ?_⟩
    · rintro i x σ1 H3 H4 hi ⟨y5, y6, F, ps, ds, rfl, h4, s4, fS, sS, fP, hds, hdr⟩ ⟨rfl, rfl⟩
      have hin : i < n := by
        have : i < ((n : Nat) : Int).toNat := hi
        omega
      have fS0 := fS
      have fP0 := fP
      refine ⟨2, rfl, by decide, by decide, fun L hL => lc_walk walk_range [some (.ref m), some (.int (N : Nat)), some (.int (n : Nat)), some (.ref S), some (.ref P), some (.int (0 + (i : Nat))), y6, none] (by rfl)
        (fun j H' => ∃ F ws dd, MA F H' m (b + 1 + 2 * n + 2 * i + j) ∧ Same H0 F ∧ F S = some (.lst es) ∧ SidesR F es zs ∧ F P = some (.lst ps) ∧ DrawR F ps zs ds i ∧ F L = some (.lst ws) ∧ dd.length = j ∧ WsR F ws zs dd i)
        ⟨upd F L (.lst []), [], [], h4.new hL, s4.trans (same_new (h4.same.free hL)), (same_new (h4.same.free hL)) _ _ fS, sS.ts (.of (same_new (h4.same.free hL))), (same_new (h4.same.free hL)) _ _ fP, hdr.ts (.of (same_new (h4.same.free hL))), upd_same, rfl, rfl, fun t d h => by simp at h⟩ (fun _ _ _ _ => trivial) ?_ ?_⟩
      · rintro j x H5 H6 hj ⟨F, ws, dd, h6, s6, fS, sS, fP, hdr, fL, rfl, hws⟩ ⟨rfl, rfl⟩
        have hj2 : dd.length < 2 := hj
        obtain ⟨p, ep, hp⟩ := zAt_sides sS (i := 2 * i + dd.length) (by omega)
        refine ⟨rfl, _, rfl, _, rfl, 2, _, rfl, rfl, .inl ⟨by decide, by decide⟩, _, rfl, _, _, rfl, rfl, S, es, _, .ref p, rfl, rfl, SqL.of (h6.same _ _ fS), ?_, ?_⟩
        · show atI es (2 * (0 + (i : Nat)) + (0 + (dd.length : Nat))) = _
          rw [show (2 : Int) * (0 + (i : Nat)) + (0 + (dd.length : Nat)) = ((2 * i + dd.length : Nat) : Int) by omega]
          exact atI_nat ep
        refine ⟨_, rfl, m, 4, _, F, rfl, h6, by decide, by decide, by omega, fun H7 t ht h7 => ⟨(t : Nat), 1, rfl, rfl, by show 1 ≤ sizeLine; decide, fun u hu => ?_⟩⟩
        have h8 := h7.new (o := .tup [.int ((t : Nat) - 1)]) hu
        have huF := h7.same.free hu
        have t8 : Same F (upd F u (.tup [.int ((t : Nat) - 1)])) := same_new huF
        refine ⟨p, u, _, _, rfl, rfl, SqT.of (h8.same _ _ (t8 _ _ hp)), SqT.of upd_same, by simp, by show 2 + 1 ≤ sizeLine; decide, (fun z => by cases z), fun _ r hr => ?_⟩
        have h9 := h8.new (o := .tup [.int ((zAt zs (2 * i + dd.length)).1 : Nat), sideV (zAt zs (2 * i + dd.length)).2, .int ((t : Nat) - 1)]) hr
        have hrF := h8.same.free hr
        have t9 := t8.trans (same_new (o := .tup [.int ((zAt zs (2 * i + dd.length)).1 : Nat), sideV (zAt zs (2 * i + dd.length)).2, .int ((t : Nat) - 1)]) hrF)
        have fL9 := t9 _ _ fL
        have h10 := h9.mut (o := .lst (ws ++ [.ref r])) fL9
        refine ⟨ws, h9.same _ _ fL9, lt_line (by rw [hws.1]; omega), _, ws ++ [.ref r], dd ++ [((t : Nat) : Int) - 1], h10.mono (by omega), ?_⟩
        have hLF := h4.same.free hL
        have hL0 := s4.free hLF
        have hrFL : upd F u (.tup [.int ((t : Nat) - 1)]) r = none := hrF
        have fLu := t8 _ _ fL
        have hSL : S ≠ L := ne_of_none fS0 hLF
        have hPL : P ≠ L := ne_of_none fP0 hLF
        have ts10 : TupS F (upd (upd (upd F u (.tup [.int ((t : Nat) - 1)])) r (.tup [.int ((zAt zs (2 * i + dd.length)).1 : Nat), sideV (zAt zs (2 * i + dd.length)).2, .int ((t : Nat) - 1)])) L (.lst (ws ++ [.ref r]))) := (TupS.of t9).lst fL9
        refine ⟨same_mut (s6.trans t9) hL0, ?_, sS.ts ts10, ?_, hdr.ts ts10, upd_same, by simp, (hws.ts ts10).snoc ?_⟩
        · rw [upd_ne hSL]; exact t9 _ _ fS
        · rw [upd_ne hPL]; exact t9 _ _ fP
        · show upd _ _ _ r = _
          rw [upd_ne (Ne.symm (ne_of_none fLu hrFL)), upd_same]
      · rintro H5 ⟨F, ws, dd, h6, s6, fS, sS, fP, hdr, fL, hdl, hws⟩
        have hdl2 : dd.length = 2 := hdl
        obtain ⟨l, r, d0, d1, rfl, rfl, hl, hr'⟩ := hws.two hdl2
        refine ⟨_, rfl, .inl ⟨rfl, _, SqL.of (h6.same _ _ fP)⟩, _, rfl, L, _, rfl, .inl ⟨SqL.of (h6.same _ _ fL), fun p hp => ?_⟩⟩
        have h7 := h6.new (o := .tup [.ref l, .ref r]) hp
        have hpF := h6.same.free hp
        have t7 : Same F (upd F p (.tup [.ref l, .ref r])) := same_new hpF
        have fP7 := t7 _ _ fP
        have h8 := h7.mut (o := .lst (ps ++ [.ref p])) fP7
        have ts8 : TupS F (upd (upd F p (.tup [.ref l, .ref r])) P (.lst (ps ++ [.ref p]))) := (TupS.of t7).lst fP7
        refine ⟨P, ps, _, rfl, rfl, h7.same _ _ fP7, lt_line (by rw [hdr.1]; omega), ?_⟩
        refine ⟨_, _, _, ps ++ [.ref p], ds ++ [d0, d1], rfl, h8.mono (b' := b + 1 + 2 * n + 2 * (i + 1)) ?_, same_mut (s6.trans t7) hP0, ?_, sS.ts ts8, upd_same, by simp [hds]; omega, (hdr.ts ts8).snoc hds ?_ (hl.ts ts8) (hr'.ts ts8)⟩
        · show b + 1 + 2 * n + 2 * i + 2 ≤ _
          omega
        · rw [upd_ne hSP]; exact t7 _ _ fS
        · rw [upd_ne (Ne.symm (ne_of_none fP hpF)), upd_same]
    · rintro σ1 H3 ⟨y5, y6, F, ps, ds, rfl, h4, s4, fS, sS, fP, hds, hdr⟩
      have e9 : ((n : Nat) : Int).toNat = n := by omega
      rw [e9] at h4 hdr
      have fP0 := fP
      refine ⟨_, rfl, (n : Nat), rfl, by omega, by omega, fun W hW => lc_walk walk_range [some (.ref m), some (.int (N : Nat)), some (.int (n : Nat)), some (.ref S), some (.ref P), y5, y6, none] (by rfl)
        (fun j H' => ∃ F wk, MA F H' m (b + 1 + 2 * n + 2 * n + 5 * j) ∧ Same H0 F ∧ F P = some (.lst ps) ∧ DrawR F ps zs ds n ∧ F W = some (.lst (wk.map V.str)) ∧ wk.length = j ∧ ∀ z ∈ wk, GoodWork z)
        ⟨upd F W (.lst []), [], h4.new hW, s4.trans (same_new (h4.same.free hW)), (same_new (h4.same.free hW)) _ _ fP, hdr.ts (.of (same_new (h4.same.free hW))), upd_same, rfl, fun z h => by cases h⟩ (fun _ _ _ _ => trivial) ?_ ?_⟩
      · rintro j x H5 H6 hj ⟨F, wk, h6, s6, fP, hdr, fW, rfl, hwk⟩ ⟨rfl, rfl⟩
        have hjn : wk.length < n := by
          have : wk.length < ((n : Nat) : Int).toNat := hj
          omega
        refine ⟨rfl, _, rfl, m, _, F, rfl, h6, by omega, fun H7 z hz h7 => ?_⟩
        have hW0 := s4.free (h4.same.free hW)
        have hPW : P ≠ W := ne_of_none fP0 (h4.same.free hW)
        have h8 := h7.mut (o := .lst ((wk ++ [z]).map V.str)) fW
        have ts8 : TupS F (upd F W (.lst ((wk ++ [z]).map V.str))) := (TupS.refl F).lst fW
        refine ⟨wk.map V.str, h7.same _ _ fW, lt_line (by rw [List.length_map]; omega), _, wk ++ [z], ?_, same_mut s6 hW0, ?_, hdr.ts ts8, upd_same, by simp, fun y hy => ?_⟩
        · rw [show wk.map V.str ++ [V.str z] = (wk ++ [z]).map V.str by simp]
          exact h8.mono (by omega)
        · rw [upd_ne hPW]; exact fP
        · rcases List.mem_append.mp hy with q | q
          · exact hwk y q
          · rw [List.mem_singleton.mp q]; exact hz
      · rintro H5 ⟨F, wk, h6, s6, fP, hdr, fW, hwl, hwk⟩
        rw [e9] at h6 hwl
        refine ⟨W, _, rfl, .inl ⟨SqL.of (h6.same _ _ fW), fun k hk => ?_⟩⟩
        have h7 := h6.new (o := .tup (wk.map V.str)) hk
        have t7 : Same F (upd F k (.tup (wk.map V.str))) := same_new (h6.same.free hk)
        refine ⟨_, rfl, P, _, rfl, .inl ⟨SqL.of (h7.same _ _ (t7 _ _ fP)), fun c hc => ?_⟩⟩
        have h8 := h7.new (o := .tup ps) hc
        have t8 := same_new (o := .tup ps) (h7.same.free hc)
        refine ⟨two, fun v hv => ?_⟩
        have h9 := h8.new (o := .tup [.ref k, .ref c]) hv
        have t9 := same_new (o := .tup [.ref k, .ref c]) (h8.same.free hv)
        refine q _ _ v (tpOf n wk zs ds) (h9.mono (by omega)) (s6.trans (t7.trans (t8.trans t9))) (tape_of upd_same ((t8.trans t9) _ _ upd_same) (t9 _ _ upd_same) hwl (hdr.ts (.of (t7.trans (t8.trans t9))))) (tpOf_good gz hn1 (by omega) hwk) hnN
end
end LH

namespace LH
open PySem PySem.Spec PyProof.Rows L2 LHM LHR
theorem cut2 {es : List V} {i : Nat} (h : 2 * i + 2 ≤ es.length) : (cutV es (some ((2 * i : Nat) : Int)) (some ((2 * i + 2 : Nat) : Int))).length = 2 ∧ ∀ j, j < 2 → (cutV es (some ((2 * i : Nat) : Int)) (some ((2 * i + 2 : Nat) : Int)))[j]? = es[2 * i + j]? := by
  have e1 : HT.sIx es.length 0 (some ((2 * i : Nat) : Int)) = 2 * i := by
    unfold HT.sIx
    simp only
    split <;> omega
  have e2 : HT.sIx es.length es.length (some ((2 * i + 2 : Nat) : Int)) = 2 * i + 2 := by
    unfold HT.sIx
    simp only
    split <;> omega
  unfold cutV
  rw [e1, e2, show 2 * i + 2 - 2 * i = 2 by omega]
  refine ⟨by rw [List.length_take, List.length_drop]; omega, fun j hj => ?_⟩
  rw [List.getElem?_take, if_pos hj, List.getElem?_drop]
abbrev cutI (es : List V) (i : Nat) : List V := cutV es (some (2 * (0 + ((i : Nat) : Int)))) (some (2 * (0 + ((i : Nat) : Int)) + 2))
theorem cutI2 {es : List V} {i : Nat} (h : 2 * i + 2 ≤ es.length) : (cutI es i).length = 2 ∧ ∀ j, j < 2 → (cutI es i)[j]? = es[2 * i + j]? := by
  have e1 : (2 : Int) * (0 + (i : Nat)) = ((2 * i : Nat) : Int) := by omega
  have e2 : (2 : Int) * (0 + (i : Nat)) + 2 = ((2 * i + 2 : Nat) : Int) := by omega
  unfold cutI
  rw [e2, e1]
  exact cut2 h
def StrZ (zs : List (Nat × Bool)) (ds : List Int) : Prop := ∀ (t : Nat) (d : Int), ds[t]? = some d → ((t / 2 < (zAt zs t).1 ∧ 0 ≤ d) ∨ 1 ≤ d) ∧ d ≤ 2
theorem StrZ.snoc {zs : List (Nat × Bool)} {ds : List Int} {d : Int} (h : StrZ zs ds) (hd : ((ds.length / 2 < (zAt zs ds.length).1 ∧ 0 ≤ d) ∨ 1 ≤ d) ∧ d ≤ 2) : StrZ zs (ds ++ [d]) := fun t d' e => by
  by_cases q : t < ds.length
  · rw [List.getElem?_append_left q] at e
    exact h t d' e
  · rw [List.getElem?_append_right (by omega)] at e
    have e0 : t - ds.length = 0 := by
      have := (List.getElem?_eq_some_iff.mp e).1
      simp at this
      omega
    rw [e0] at e
    have e1 : d = d' := Option.some.inj e
    have e2 : t = ds.length := by omega
    subst e1 e2
    exact hd
def Tp.Str (T : Tp) : Prop := ∀ v h, v < T.n → ((v < T.to v h ∧ 0 ≤ T.dn v h) ∨ 1 ≤ T.dn v h) ∧ T.dn v h ≤ 2
theorem tpOf_str {n : Nat} {wk : List Str} {zs : List (Nat × Bool)} {ds : List Int} (h : StrZ zs ds) (hl : ds.length = 2 * n) : (tpOf n wk zs ds).Str := fun v b hv => by
  have hv : v < n := hv
  have hb := (hd_of v b).2
  have hlt : 2 * v + ofH b < ds.length := by omega
  have := h (2 * v + ofH b) ds[2 * v + ofH b] (List.getElem?_eq_getElem hlt)
  rw [hb.1] at this
  show ((v < (zAt zs (2 * v + ofH b)).1 ∧ 0 ≤ ds.getD (2 * v + ofH b) 0) ∨ 1 ≤ ds.getD (2 * v + ofH b) 0) ∧ ds.getD (2 * v + ofH b) 0 ≤ 2
  rw [List.getD_eq_getElem?_getD, List.getElem?_eq_getElem hlt]
  exact this
section
variable {P : Program} {w : World} {K : PySem.W.Frag} {mg : Str → Option Value} {base : Heap}
/-! ### _law_straight -/
def spStrD : Sp := fun vs H Q _ => ∃ (m : Addr) (N b : Nat) (H0 : Hp), vs = [.ref m, .int (N : Nat)] ∧ MA H0 H m b ∧ 1 ≤ N ∧ N ≤ 6 ∧ b ≤ 3000 ∧
  ∀ F' H' v T, MA F' H' m (b + 60) → Same H0 F' → TapeR F' (.ref v) T → T.Good → T.n ≤ N → T.Str → Q (.ref v) H'
abbrev nmStrD : List Str := ["_law_m", "_law_most", "_law_size", "_law_some", "_law_pairs_of", "_law_number", "_law_ways", "_law_to", "_law_side", "_law_k"]
theorem scStrD : FnScope nmStrD ["_law_m", "_law_most"] (defScope (topS 30)) := ⟨rfl, rfl, rfl, by decide +kernel, rfl, by decide +kernel, by decide +kernel⟩
theorem ok_strD {f : Addr} {fd : FuncData} (F : FnD K "_law_straight" 30 f fd) (G : Glb mg) (CN : CalNext P w K mg base) (CS : Cal P w K mg base CX0 2 "_law_sides" ["_law_m", "_law_size"] spSidesD) (CW : Cal P w K mg base CX0 2 "_law_work" ["_law_m"] spWorkD) : FnOk P w K mg base CX0 3 f fd ["_law_m", "_law_most"] spStrD := by
  refine F.ok scStrD (fun vs H Q E h => ?_) (fun cdv A outer s H vs Q E hr h => ?_)
  · obtain ⟨m, n, b, H0, rfl, _⟩ := h
    rfl
  · obtain ⟨m, N, b, H0, rfl, hma, hN1, hN, hb, q⟩ := h
    have hr1 : Room 1 _ := hr.mono (by decide)
    refine ⟨_, pss_cons (ps_set (i := 2) scStrD.nd rfl (.inl rfl) (pe_op op_add pe_int (pe_cal CN hr1 (by rfl) (E := E0) pass0 (pa_cons (pv 0) (pa_cons (pv 1) pa_nil)))))
      (pss_cons (ps_par (i := 3) (j := 4) rfl scStrD.nd rfl rfl (by decide) rfl rfl (pa_cons (pe_cal CS hr (by rfl) (E := E0) pass0 (pa_cons (pv 0) (pa_cons (pv 2) pa_nil))) (pa_cons (pe_lst pa_nil) pa_nil)) (by rfl))
      (pss_cons (ps_for PassesOwn.never rfl (pi_range1 (by rfl) G.range (pa_cons (pv 2) pa_nil)) (pg_name (i := 5) scStrD.nd rfl (.inl rfl))
        (pss_cons (ps_set (i := 6) scStrD.nd rfl (.inl rfl) (pe_lst pa_nil))
        (pss_cons (ps_for PassesOwn.never rfl (pi_list (pe_slice sl_list (pv 3) (po_some (pe_op op_mul pe_int (pv 5))) (po_some (pe_op op_add (pe_op op_mul pe_int (pv 5)) pe_int)))) (pg_tup rfl (pgs_cons (pg_name (i := 7) scStrD.nd rfl (.inl rfl)) (pgs_cons (pg_name (i := 8) scStrD.nd rfl (.inl rfl)) pgs_nil)))
          (pss_one (ps_expr (pe_bm PySem.F.plainAttrs_list PySem.F.slot_list_append PySem.F.type_list_append mt_append (pv 6) (pa_cons (pe_tup (pa_cons (pv 7) (pa_cons (pv 8) (pa_cons
            (pe_ifExp (pt_cmpR op_gt (pv 7) (pv 5) (nomark _)) (pe_cal CN hr1 (by rfl) (E := E0) pass0 (pa_cons (pv 0) (pa_cons pe_int pa_nil))) (pe_op op_add pe_int (pe_cal CN hr1 (by rfl) (E := E0) pass0 (pa_cons (pv 0) (pa_cons pe_int pa_nil))))) pa_nil)))) pa_nil)))))
        (pss_one (ps_expr (pe_bm PySem.F.plainAttrs_list PySem.F.slot_list_append PySem.F.type_list_append mt_append (pv 4) (pa_cons (pe_callTy call_tuple_of (by rfl) G.tuple b_tuple (pa_cons (pv 6) pa_nil)) pa_nil)))))))
      (pss_one (ps_ret (pe_tup (pa_cons (pe_callTy call_tuple_of (by rfl) G.tuple b_tuple (pa_cons
          (pe_lc (own := [("_law_k", 9)]) (g := gName 9) (tt := tYes) rfl scStrD.nd (pi_range1 (by rfl) G.range (pa_cons (pv 2) pa_nil)) (blkOk_by (N := nmStrD) (sc := defScope (topS 30)) (by decide +kernel)) (fun _ _ _ _ _ => pg_name (i := 9) scStrD.nd rfl (Or.inl rfl)) (fun _ _ _ _ _ => pts_nil)
            (fun _ _ _ _ _ => pe_cal CW hr (by rfl) (E := E0) pass0 (pa_cons (pv 0) pa_nil))) pa_nil))
        (pa_cons (pe_callTy call_tuple_of (by rfl) G.tuple b_tuple (pa_cons (pv 4) pa_nil)) pa_nil))))))), ?_⟩
    have two : (2 : Nat) ≤ sizeLine := by decide
    refine ⟨_, rfl, _, rfl, m, N, b, H0, rfl, hma, by omega, by omega, by omega, fun H1 i hi h1 => ⟨1, (i : Nat), rfl, rfl, ?_⟩⟩
    have en : (1 : Int) + (i : Nat) = ((i + 1 : Nat) : Int) := by omega
    dsimp only
    rw [en]
    have hn1 : 1 ≤ i + 1 := by omega
    have hnN : i + 1 ≤ N := by omega
    generalize i + 1 = n at *
    refine ⟨_, rfl, _, rfl, m, n, b + 1, H0, rfl, h1, hn1, by omega, by omega, fun F H2 S es zs h2 s0 fS sS hz hct => ⟨Nat.zero_le _, fun P hP => ⟨_, _, rfl, ?_⟩⟩⟩
    have gz : GoodZ n zs := ⟨hz, hct⟩
    have hPF : F P = none := h2.same.free hP
    have hSP : S ≠ P := ne_of_none fS hPF
    have hP0 : H0 P = none := s0.free hPF
    have t1 : Same F (upd F P (.lst [])) := same_new hPF
    refine ⟨_, rfl, (n : Nat), rfl, by omega, by omega, for_it walk_range (fun i σ H' => ∃ y5 y6 y7 y8 F ps ds, σ = [some (.ref m), some (.int (N : Nat)), some (.int (n : Nat)), some (.ref S), some (.ref P), y5, y6, y7, y8, none] ∧ MA F H' m (b + 1 + 2 * n + 2 * i) ∧ Same H0 F ∧ F S = some (.lst es) ∧ SidesR F es zs ∧ F P = some (.lst ps) ∧ ds.length = 2 * i ∧ DrawR F ps zs ds i ∧ StrZ zs ds)
      ⟨_, _, _, _, _, [], [], rfl, h2.new hP, s0.trans t1, t1 _ _ fS, sS.ts (.of t1), upd_same, rfl, ⟨rfl, fun v hv => absurd hv (Nat.not_lt_zero _)⟩, fun t d h => by simp at h⟩ (fun _ _ _ _ _ => trivial) ?_ ?_⟩
    · rintro i x σ1 H3 H4 hi ⟨y5, y6, y7, y8, F, ps, ds, rfl, h4, s4, fS, sS, fP, hds, hdr, hst⟩ ⟨rfl, rfl⟩
      have hin : i < n := by
        have : i < ((n : Nat) : Int).toNat := hi
        omega
      have fS0 := fS
      have fP0 := fP
      refine ⟨Nat.zero_le _, fun L hL => ?_⟩
      have hLF := h4.same.free hL
      have hL0 := s4.free hLF
      have hSL : S ≠ L := ne_of_none fS0 hLF
      have hPL : P ≠ L := ne_of_none fP0 hLF
      have h5 := h4.new (o := .lst []) hL
      have t5 : Same F (upd F L (.lst [])) := same_new hLF
      obtain ⟨c1, c2⟩ := cutI2 (es := es) (i := i) (by rw [sS.1, hz]; omega)
      refine ⟨_, rfl, _, rfl, 2, _, rfl, rfl, .inl ⟨by decide, by decide⟩, _, rfl, _, rfl, 2, _, rfl, rfl, .inl ⟨by decide, by decide⟩, _, _, rfl, rfl, _, rfl, S, es, rfl, SqL.of (h5.same _ _ (t5 _ _ fS)), fun C hC => ?_⟩
      have h6 := h5.new (o := .lst (cutI es i)) hC
      have hCF := h5.same.free hC
      have t6 := t5.trans (same_new (o := .lst (cutI es i)) hCF)
      have hLC : L ≠ C := ne_of_none (upd_same (H := F) (a := L) (o := .lst [])) hCF
      have hCL0 : F C = none := t5.free hCF
      have hPC : P ≠ C := ne_of_none fP0 hCL0
      have hSC : S ≠ C := ne_of_none fS0 hCL0
      refine ⟨C, rfl, ⟨_, SqL.of upd_same⟩, for_it (walk_list (K := K) (a := C) (xs := cutI es i)) (fun j σ H' => ∃ y7 y8 F ws dd, σ = [some (.ref m), some (.int (N : Nat)), some (.int (n : Nat)), some (.ref S), some (.ref P), some (.int (0 + (i : Nat))), some (.ref L), y7, y8, none] ∧ MA F H' m (b + 1 + 2 * n + 2 * i + j) ∧ Same H0 F ∧ F S = some (.lst es) ∧ SidesR F es zs ∧ F P = some (.lst ps) ∧ DrawR F ps zs ds i ∧ F C = some (.lst (cutI es i)) ∧ F L = some (.lst ws) ∧ dd.length = j ∧ WsR F ws zs dd i ∧ StrZ zs (ds ++ dd))
        ⟨_, _, _, [], [], rfl, h6, s4.trans t6, t6 _ _ fS, sS.ts (.of t6), t6 _ _ fP, hdr.ts (.of t6), upd_same, (same_new hCF) _ _ upd_same, rfl, ⟨rfl, fun t d h => by simp at h⟩, by rw [List.append_nil]; exact hst⟩ (fun _ _ _ _ z => by
          obtain ⟨_, _, _, _, _, _, h, _, _, _, _, _, z, _⟩ := z
          exact SqL.of (h.same _ _ z)) ?_ ?_⟩
      · rintro j x σ2 H5 H6 hj ⟨y7, y8, F, ws, dd, rfl, h6, s6, fS, sS, fP, hdr, fC, fL, rfl, hws, hst2⟩ ⟨rfl, hx⟩
        have hj2 : dd.length < 2 := by rw [← c1]; exact hj
        obtain ⟨p, ep, hp⟩ := zAt_sides sS (i := 2 * i + dd.length) (by rw [hz]; omega)
        rw [c2 _ hj2, ep] at hx
        have ex := Option.some.inj hx
        subst ex
        generalize hzz : zAt zs (2 * i + dd.length) = zz at *
        have elen : (ds ++ dd).length = 2 * i + dd.length := by rw [List.length_append, hds]
        have ehalf : (2 * i + dd.length) / 2 = i := by omega
        have key : ∀ (H7 : Hp) (d : Int), MA F H7 m (b + 1 + 2 * n + 2 * i + dd.length + 1) → ((i < zz.1 ∧ 0 ≤ d) ∨ 1 ≤ d) ∧ d ≤ 2 → ∀ r, H7 r = none → ∃ (ws' : List V), (upd H7 r (.tup [.int (zz.1 : Nat), sideV zz.2, .int d])) L = some (.lst ws) ∧ ws.length < sizeLine ∧ ∃ y7 y8 F ws' dd', (([some (.ref m), some (.int (N : Nat)), some (.int (n : Nat)), some (.ref S), some (.ref P), some (.int (0 + (i : Nat))), some (.ref L), some (.int (zz.1 : Nat)), some (sideV zz.2), none] : L2.St) = [some (.ref m), some (.int (N : Nat)), some (.int (n : Nat)), some (.ref S), some (.ref P), some (.int (0 + (i : Nat))), some (.ref L), y7, y8, none]) ∧ MA F (upd (upd H7 r (.tup [.int (zz.1 : Nat), sideV zz.2, .int d])) L (.lst (ws ++ [.ref r]))) m (b + 1 + 2 * n + 2 * i + (dd.length + 1)) ∧ Same H0 F ∧ F S = some (.lst es) ∧ SidesR F es zs ∧ F P = some (.lst ps) ∧ DrawR F ps zs ds i ∧ F C = some (.lst (cutI es i)) ∧ F L = some (.lst ws') ∧ dd'.length = dd.length + 1 ∧ WsR F ws' zs dd' i ∧ StrZ zs (ds ++ dd') := by
          intro H7 d h7 hd r hr
          have h9 := h7.new (o := .tup [.int (zz.1 : Nat), sideV zz.2, .int d]) hr
          have hrF := h7.same.free hr
          have t9 : Same F (upd F r (.tup [.int (zz.1 : Nat), sideV zz.2, .int d])) := same_new hrF
          have fL9 := t9 _ _ fL
          have h10 := h9.mut (o := .lst (ws ++ [.ref r])) fL9
          have ts10 : TupS F (upd (upd F r (.tup [.int (zz.1 : Nat), sideV zz.2, .int d])) L (.lst (ws ++ [.ref r]))) := (TupS.of t9).lst fL9
          refine ⟨ws, h9.same _ _ fL9, lt_line (by rw [hws.1]; omega), _, _, _, ws ++ [.ref r], dd ++ [d], rfl, h10.mono (by omega), same_mut (s6.trans t9) hL0, ?_, sS.ts ts10, ?_, hdr.ts ts10, ?_, upd_same, by simp, (hws.ts ts10).snoc ?_, ?_⟩
          · rw [upd_ne hSL]; exact t9 _ _ fS
          · rw [upd_ne hPL]; exact t9 _ _ fP
          · rw [upd_ne (Ne.symm hLC)]; exact t9 _ _ fC
          · rw [hzz]
            show upd _ _ _ r = _
            rw [upd_ne (Ne.symm (ne_of_none fL hrF)), upd_same]
          · rw [← List.append_assoc]
            refine hst2.snoc ?_
            rw [elen, hzz, ehalf]
            exact hd
        refine ⟨p, _, rfl, SqT.of (h6.same _ _ hp), rfl, _, _, rfl, _, _, rfl, rfl, ?_⟩
        refine ⟨_, rfl, .inl ⟨rfl, _, SqL.of (h6.same _ _ fL)⟩, _, rfl, _, rfl, _, rfl, _, rfl, (zz.1 : Nat), (0 + (i : Nat)), rfl, rfl, _, rfl, ite2 (fun e => ?_) (fun e => ?_)⟩
        · have e := of_decide_eq_true e
          refine ⟨_, rfl, m, 3, _, F, rfl, h6, by decide, by decide, by omega, fun H7 t ht h7 => ⟨by show 3 ≤ sizeLine; decide, fun r hr => ?_⟩⟩
          obtain ⟨_, k1, k2, k3⟩ := key H7 (t : Nat) h7 ⟨.inl ⟨by omega, by omega⟩, by omega⟩ r hr
          exact ⟨L, ws, _, rfl, rfl, k1, k2, k3⟩
        · refine ⟨_, rfl, m, 2, _, F, rfl, h6, by decide, by decide, by omega, fun H7 t ht h7 => ⟨1, (t : Nat), rfl, rfl, by show 3 ≤ sizeLine; decide, fun r hr => ?_⟩⟩
          obtain ⟨_, k1, k2, k3⟩ := key H7 (1 + (t : Nat)) h7 ⟨.inr (by omega), by omega⟩ r hr
          exact ⟨L, ws, _, rfl, rfl, k1, k2, k3⟩
      · rintro σ2 H5 ⟨y7, y8, F, ws, dd, rfl, h6, s6, fS, sS, fP, hdr, fC, fL, hdl, hws, hst2⟩
        rw [c1] at h6 hdl
        obtain ⟨l, r, d0, d1, rfl, rfl, hl, hr'⟩ := hws.two hdl
        refine ⟨_, rfl, .inl ⟨rfl, _, SqL.of (h6.same _ _ fP)⟩, _, rfl, L, _, rfl, .inl ⟨SqL.of (h6.same _ _ fL), fun p hp => ?_⟩⟩
        have h7 := h6.new (o := .tup [.ref l, .ref r]) hp
        have hpF := h6.same.free hp
        have t7 : Same F (upd F p (.tup [.ref l, .ref r])) := same_new hpF
        have fP7 := t7 _ _ fP
        have h8 := h7.mut (o := .lst (ps ++ [.ref p])) fP7
        have ts8 : TupS F (upd (upd F p (.tup [.ref l, .ref r])) P (.lst (ps ++ [.ref p]))) := (TupS.of t7).lst fP7
        refine ⟨P, ps, _, rfl, rfl, h7.same _ _ fP7, lt_line (by rw [hdr.1]; omega), ?_⟩
        refine ⟨_, _, _, _, _, ps ++ [.ref p], ds ++ [d0, d1], rfl, h8.mono (b' := b + 1 + 2 * n + 2 * (i + 1)) (by omega), same_mut (s6.trans t7) hP0, ?_, sS.ts ts8, upd_same, by simp [hds]; omega, (hdr.ts ts8).snoc hds ?_ (hl.ts ts8) (hr'.ts ts8), hst2⟩
        · rw [upd_ne hSP]; exact t7 _ _ fS
        · rw [upd_ne (Ne.symm (ne_of_none fP hpF)), upd_same]
    · rintro σ1 H3 ⟨y5, y6, y7, y8, F, ps, ds, rfl, h4, s4, fS, sS, fP, hds, hdr, hst⟩
      have e9 : ((n : Nat) : Int).toNat = n := by omega
      rw [e9] at h4 hdr hds
      have fP0 := fP
      refine ⟨_, rfl, (n : Nat), rfl, by omega, by omega, fun W hW => lc_walk walk_range [some (.ref m), some (.int (N : Nat)), some (.int (n : Nat)), some (.ref S), some (.ref P), y5, y6, y7, y8, none] (by rfl)
        (fun j H' => ∃ F wk, MA F H' m (b + 1 + 2 * n + 2 * n + 5 * j) ∧ Same H0 F ∧ F P = some (.lst ps) ∧ DrawR F ps zs ds n ∧ F W = some (.lst (wk.map V.str)) ∧ wk.length = j ∧ ∀ z ∈ wk, GoodWork z)
        ⟨upd F W (.lst []), [], h4.new hW, s4.trans (same_new (h4.same.free hW)), (same_new (h4.same.free hW)) _ _ fP, hdr.ts (.of (same_new (h4.same.free hW))), upd_same, rfl, fun z h => by cases h⟩ (fun _ _ _ _ => trivial) ?_ ?_⟩
      · rintro j x H5 H6 hj ⟨F, wk, h6, s6, fP, hdr, fW, rfl, hwk⟩ ⟨rfl, rfl⟩
        have hjn : wk.length < n := by
          have : wk.length < ((n : Nat) : Int).toNat := hj
          omega
        refine ⟨rfl, _, rfl, m, _, F, rfl, h6, by omega, fun H7 z hz h7 => ?_⟩
        have hW0 := s4.free (h4.same.free hW)
        have hPW : P ≠ W := ne_of_none fP0 (h4.same.free hW)
        have h8 := h7.mut (o := .lst ((wk ++ [z]).map V.str)) fW
        have ts8 : TupS F (upd F W (.lst ((wk ++ [z]).map V.str))) := (TupS.refl F).lst fW
        refine ⟨wk.map V.str, h7.same _ _ fW, lt_line (by rw [List.length_map]; omega), _, wk ++ [z], ?_, same_mut s6 hW0, ?_, hdr.ts ts8, upd_same, by simp, fun y hy => ?_⟩
        · rw [show wk.map V.str ++ [V.str z] = (wk ++ [z]).map V.str by simp]
          exact h8.mono (by omega)
        · rw [upd_ne hPW]; exact fP
        · rcases List.mem_append.mp hy with q | q
          · exact hwk y q
          · rw [List.mem_singleton.mp q]; exact hz
      · rintro H5 ⟨F, wk, h6, s6, fP, hdr, fW, hwl, hwk⟩
        rw [e9] at h6 hwl
        refine ⟨W, _, rfl, .inl ⟨SqL.of (h6.same _ _ fW), fun k hk => ?_⟩⟩
        have h7 := h6.new (o := .tup (wk.map V.str)) hk
        have t7 : Same F (upd F k (.tup (wk.map V.str))) := same_new (h6.same.free hk)
        refine ⟨_, rfl, P, _, rfl, .inl ⟨SqL.of (h7.same _ _ (t7 _ _ fP)), fun c hc => ?_⟩⟩
        have h8 := h7.new (o := .tup ps) hc
        have t8 := same_new (o := .tup ps) (h7.same.free hc)
        refine ⟨two, fun v hv => ?_⟩
        have h9 := h8.new (o := .tup [.ref k, .ref c]) hv
        have t9 := same_new (o := .tup [.ref k, .ref c]) (h8.same.free hv)
        refine q _ _ v (tpOf n wk zs ds) (h9.mono (by omega)) (s6.trans (t7.trans (t8.trans t9))) (tape_of upd_same ((t8.trans t9) _ _ upd_same) (t9 _ _ upd_same) hwl (hdr.ts (.of (t7.trans (t8.trans t9))))) (tpOf_good gz hn1 (by omega) hwk) hnN (tpOf_str hst hds)
end
end LH

namespace LH
open PySem PySem.Spec PyProof.Rows L2 LHM LHR
/-! ### walks, layers, found circuits -/
def WalkR (to : Nat → Bool → Nat) (H : Hp) (p b : Nat) (hs : List Bool) : Prop := ∃ ws, H p = some (.tup ws) ∧ SidesR H ws ((verts to b hs).zip hs)
def ItemR (to : Nat → Bool → Nat) (dn : Nat → Bool → Int) (H : Hp) (q : Addr) (b : Nat) (hs : List Bool) : Prop := hs ≠ [] ∧ ∃ p, H q = some (.tup [.ref p, .int (sum to dn b hs.dropLast)]) ∧ WalkR to H p b hs
def LayR (to : Nat → Bool → Nat) (dn : Nat → Bool → Int) (H : Hp) (es : List V) (b : Nat) (L : List (List Bool)) : Prop :=
  es.length = L.length ∧ ∀ (i : Nat) (hs : List Bool), L[i]? = some hs → ∃ q : Addr, es[i]? = some (V.ref q) ∧ ItemR to dn H q b hs
def FoundR (H : Hp) (es : List V) (ds : List Int) : Prop := es.length = ds.length ∧ ∀ (i : Nat) (d : Int), ds[i]? = some d → ∃ q p : Addr, es[i]? = some (V.ref q) ∧ H q = some (.tup [.ref p, .int d])
section
variable {to : Nat → Bool → Nat} {dn : Nat → Bool → Int} {H H' : Hp}
theorem WalkR.ts {p b : Nat} {hs : List Bool} (h : WalkR to H p b hs) (e : TupS H H') : WalkR to H' p b hs := let ⟨ws, x, y⟩ := h; ⟨ws, e _ _ x, y.ts e⟩
theorem ItemR.ts {q : Addr} {b : Nat} {hs : List Bool} (h : ItemR to dn H q b hs) (e : TupS H H') : ItemR to dn H' q b hs := let ⟨n, p, x, y⟩ := h; ⟨n, p, e _ _ x, y.ts e⟩
theorem LayR.ts {es : List V} {b : Nat} {L : List (List Bool)} (h : LayR to dn H es b L) (e : TupS H H') : LayR to dn H' es b L := ⟨h.1, fun i hs z => let ⟨q, x, y⟩ := h.2 i hs z; ⟨q, x, y.ts e⟩⟩
theorem FoundR.ts {es : List V} {ds : List Int} (h : FoundR H es ds) (e : TupS H H') : FoundR H' es ds := ⟨h.1, fun i d z => let ⟨q, p, x, y⟩ := h.2 i d z; ⟨q, p, x, e _ _ y⟩⟩
theorem get_snoc {α : Type} {L : List α} {x y : α} {i : Nat} (h : (L ++ [x])[i]? = some y) : L[i]? = some y ∧ i < L.length ∨ i = L.length ∧ x = y := by
  by_cases q : i < L.length
  · rw [List.getElem?_append_left q] at h
    exact .inl ⟨h, q⟩
  · rw [List.getElem?_append_right (by omega)] at h
    have e0 : i - L.length = 0 := by
      have := (List.getElem?_eq_some_iff.mp h).1
      simp at this
      omega
    rw [e0] at h
    exact .inr ⟨by omega, Option.some.inj h⟩
theorem LayR.snoc {es : List V} {b : Nat} {L : List (List Bool)} {q : Addr} {hs : List Bool} (h : LayR to dn H es b L) (hq : ItemR to dn H q b hs) : LayR to dn H (es ++ [V.ref q]) b (L ++ [hs]) := by
  refine ⟨by simp [h.1], fun i y z => ?_⟩
  rcases get_snoc z with ⟨z, l⟩ | ⟨rfl, rfl⟩
  · obtain ⟨q', x, w⟩ := h.2 i y z
    exact ⟨q', by rw [List.getElem?_append_left (by rw [h.1]; exact l)]; exact x, w⟩
  · exact ⟨q, by rw [List.getElem?_append_right (Nat.le_of_eq h.1), h.1, Nat.sub_self]; rfl, hq⟩
theorem FoundR.snoc {es : List V} {ds : List Int} {q p : Addr} {d : Int} (h : FoundR H es ds) (hq : H q = some (.tup [.ref p, .int d])) : FoundR H (es ++ [V.ref q]) (ds ++ [d]) := by
  refine ⟨by simp [h.1], fun i y z => ?_⟩
  rcases get_snoc z with ⟨z, l⟩ | ⟨rfl, rfl⟩
  · obtain ⟨q', p', x, w⟩ := h.2 i y z
    exact ⟨q', p', by rw [List.getElem?_append_left (by rw [h.1]; exact l)]; exact x, w⟩
  · exact ⟨q, p, by rw [List.getElem?_append_right (Nat.le_of_eq h.1), h.1, Nat.sub_self]; rfl, hq⟩
theorem zip_snoc (b : Nat) (hs : List Bool) (h : Bool) : (verts to b (hs ++ [h])).zip (hs ++ [h]) = (verts to b hs).zip hs ++ [(fin to b hs, h)] := by
  rw [verts_app]
  show (verts to b hs ++ [fin to b hs]).zip (hs ++ [h]) = _
  rw [List.zip_append (verts_len hs b)]
  rfl
/-- the last name of a walk -/
theorem WalkR.last {p b : Nat} {hs : List Bool} {h : Bool} (w : WalkR to H p b (hs ++ [h])) : ∃ (us : List V) (a : Addr), H p = some (.tup (us ++ [V.ref a])) ∧ SideR H a (fin to b hs, h) := by
  obtain ⟨ws, e, l, g⟩ := w
  rw [zip_snoc] at l g
  have hl : ((verts to b hs).zip hs).length = hs.length := by rw [List.length_zip, verts_len]; omega
  obtain ⟨a, ea, ha⟩ := g hs.length (fin to b hs, h) (by rw [List.getElem?_append_right (by omega), hl, Nat.sub_self]; rfl)
  have l2 : ws.length = hs.length + 1 := by rw [l, List.length_append, hl]; rfl
  have hne : ws ≠ [] := fun z => by rw [z] at l2; simp at l2
  have e0 : ws.dropLast ++ [ws.getLast hne] = ws := List.dropLast_concat_getLast hne
  have e1 : ws.getLast hne = V.ref a := by
    rw [← e0, List.getElem?_append_right (by rw [List.length_dropLast]; omega), List.length_dropLast, l2] at ea
    rw [show hs.length - (hs.length + 1 - 1) = 0 by omega] at ea
    exact Option.some.inj ea
  refine ⟨ws.dropLast, a, ?_, ha⟩
  rw [← e1, e0]
  exact e
theorem WalkR.more {r u b : Nat} {hs : List Bool} {h : Bool} {ws : List V} (s : SidesR H ws ((verts to b hs).zip hs)) (hu : SideR H u (fin to b hs, h)) (hr : H r = some (.tup (ws ++ [V.ref u]))) : WalkR to H r b (hs ++ [h]) :=
  ⟨_, hr, by rw [zip_snoc]; exact s.snoc hu⟩
end
theorem fin_snoc {to : Nat → Bool → Nat} {b : Nat} {hs : List Bool} {h : Bool} : fin to b (hs ++ [h]) = to (fin to b hs) h := by rw [fin_app]; rfl
theorem sum_snoc {to : Nat → Bool → Nat} {dn : Nat → Bool → Int} {b : Nat} {hs : List Bool} {h : Bool} : sum to dn b (hs ++ [h]) = sum to dn b hs + dn (fin to b hs) h := by
  rw [sum_app]
  show _ + (dn (fin to b hs) h + 0) = _
  rw [Int.add_zero]
theorem step_more {to : Nat → Bool → Nat} {dn : Nat → Bool → Int} {H2 : Hp} {u s r q Fa p : Addr} {fe ws : List V} {b : Nat} {hs : List Bool} {g : Bool} {x : Int} (hp : H2 p = some (.tup ws)) (sd : SidesR H2 ws ((verts to b hs).zip hs)) (eF : H2 Fa = some (.lst fe))
    (h0 : H2 u = none) (h1 : upd H2 u (.tup [.int (fin to b hs : Nat), sideV g]) s = none) (h2 : upd (upd H2 u (.tup [.int (fin to b hs : Nat), sideV g])) s (.tup [.ref u]) r = none)
    (h3 : upd (upd (upd H2 u (.tup [.int (fin to b hs : Nat), sideV g])) s (.tup [.ref u])) r (.tup (ws ++ [.ref u])) q = none) (hx : x = sum to dn b hs) :
    TupS H2 (upd (upd (upd (upd (upd H2 u (.tup [.int (fin to b hs : Nat), sideV g])) s (.tup [.ref u])) r (.tup (ws ++ [.ref u]))) q (.tup [.ref r, .int x])) Fa (.lst (fe ++ [.ref q]))) ∧
    ItemR to dn (upd (upd (upd (upd (upd H2 u (.tup [.int (fin to b hs : Nat), sideV g])) s (.tup [.ref u])) r (.tup (ws ++ [.ref u]))) q (.tup [.ref r, .int x])) Fa (.lst (fe ++ [.ref q]))) q b (hs ++ [g]) ∧
    ∀ a o, a ≠ Fa → H2 a = some o → (upd (upd (upd (upd (upd H2 u (.tup [.int (fin to b hs : Nat), sideV g])) s (.tup [.ref u])) r (.tup (ws ++ [.ref u]))) q (.tup [.ref r, .int x])) Fa (.lst (fe ++ [.ref q]))) a = some o := by
  have s1 : Same H2 (upd H2 u (.tup [.int (fin to b hs : Nat), sideV g])) := same_new h0
  have s2 := same_new (o := .tup [.ref u]) h1
  have s3 := same_new (o := .tup (ws ++ [.ref u])) h2
  have s4 := same_new (o := .tup [.ref r, .int x]) h3
  have S := s1.trans (s2.trans (s3.trans s4))
  have ts := (TupS.of S).lst (o := .lst (fe ++ [.ref q])) (S _ _ eF)
  have t4 : TupS _ _ := (TupS.refl _).lst (o := .lst (fe ++ [.ref q])) (S _ _ eF)
  refine ⟨ts, ⟨by simp, r, ?_, ?_⟩, fun a o ha e => by rw [upd_ne ha]; exact S _ _ e⟩
  · rw [List.dropLast_concat, ← hx]
    exact t4 _ _ upd_same
  · exact WalkR.more (sd.ts ts) (t4 _ _ ((s2.trans (s3.trans s4)) _ _ upd_same)) (t4 _ _ (s4 _ _ upd_same))
theorem first_layer {to : Nat → Bool → Nat} {dn : Nat → Bool → Int} {H2 : Hp} {u1 p1 q1 u2 p2 q2 L : Addr} {b : Nat} {x : V} (hx : x = .int (b : Nat))
    (h1 : H2 u1 = none) (h2 : upd H2 u1 (.tup [x, .str "l"]) p1 = none) (h3 : upd (upd H2 u1 (.tup [x, .str "l"])) p1 (.tup [.ref u1]) q1 = none) (h4 : upd (upd (upd H2 u1 (.tup [x, .str "l"])) p1 (.tup [.ref u1])) q1 (.tup [.ref p1, .int 0]) u2 = none)
    (h5 : upd (upd (upd (upd H2 u1 (.tup [x, .str "l"])) p1 (.tup [.ref u1])) q1 (.tup [.ref p1, .int 0])) u2 (.tup [x, .str "r"]) p2 = none) (h6 : upd (upd (upd (upd (upd H2 u1 (.tup [x, .str "l"])) p1 (.tup [.ref u1])) q1 (.tup [.ref p1, .int 0])) u2 (.tup [x, .str "r"])) p2 (.tup [.ref u2]) q2 = none)
    (h7 : upd (upd (upd (upd (upd (upd H2 u1 (.tup [x, .str "l"])) p1 (.tup [.ref u1])) q1 (.tup [.ref p1, .int 0])) u2 (.tup [x, .str "r"])) p2 (.tup [.ref u2])) q2 (.tup [.ref p2, .int 0]) L = none) :
    Same H2 (upd (upd (upd (upd (upd (upd (upd H2 u1 (.tup [x, .str "l"])) p1 (.tup [.ref u1])) q1 (.tup [.ref p1, .int 0])) u2 (.tup [x, .str "r"])) p2 (.tup [.ref u2])) q2 (.tup [.ref p2, .int 0])) L (.lst [.ref q1, .ref q2])) ∧
    LayR to dn (upd (upd (upd (upd (upd (upd (upd H2 u1 (.tup [x, .str "l"])) p1 (.tup [.ref u1])) q1 (.tup [.ref p1, .int 0])) u2 (.tup [x, .str "r"])) p2 (.tup [.ref u2])) q2 (.tup [.ref p2, .int 0])) L (.lst [.ref q1, .ref q2])) [.ref q1, .ref q2] b (layer to b 0) ∧
    (upd (upd (upd (upd (upd (upd (upd H2 u1 (.tup [x, .str "l"])) p1 (.tup [.ref u1])) q1 (.tup [.ref p1, .int 0])) u2 (.tup [x, .str "r"])) p2 (.tup [.ref u2])) q2 (.tup [.ref p2, .int 0])) L (.lst [.ref q1, .ref q2])) L = some (.lst [.ref q1, .ref q2]) ∧ H2 L = none := by
  subst hx
  have s1 := same_new (o := .tup [.int (b : Nat), .str "l"]) h1
  have s2 := same_new (o := .tup [.ref u1]) h2
  have s3 := same_new (o := .tup [.ref p1, .int 0]) h3
  have s4 := same_new (o := .tup [.int (b : Nat), .str "r"]) h4
  have s5 := same_new (o := .tup [.ref u2]) h5
  have s6 := same_new (o := .tup [.ref p2, .int 0]) h6
  have s7 := same_new (o := .lst [.ref q1, .ref q2]) h7
  have s67 := s6.trans s7
  have s57 := s5.trans s67
  have s47 := s4.trans s57
  have s37 := s3.trans s47
  have s27 := s2.trans s37
  refine ⟨s1.trans s27, ⟨rfl, fun i hs e => ?_⟩, upd_same, (s1.trans (s2.trans (s3.trans (s4.trans (s5.trans s6))))).free h7⟩
  match i, e with
  | 0, e =>
    have e : [false] = hs := Option.some.inj e
    subst e
    refine ⟨q1, rfl, by simp, p1, s47 _ _ upd_same, _, s37 _ _ upd_same, rfl, fun j z hz => ?_⟩
    match j, hz with
    | 0, hz =>
      have hz : (b, false) = z := Option.some.inj hz
      subst hz
      exact ⟨u1, rfl, s27 _ _ upd_same⟩
    | j + 1, hz => simp [verts] at hz
  | 1, e =>
    have e : [true] = hs := Option.some.inj e
    subst e
    refine ⟨q2, rfl, by simp, p2, s7 _ _ upd_same, _, s67 _ _ upd_same, rfl, fun j z hz => ?_⟩
    match j, hz with
    | 0, hz =>
      have hz : (b, true) = z := Option.some.inj hz
      subst hz
      exact ⟨u2, rfl, s57 _ _ upd_same⟩
    | j + 1, hz => simp [verts] at hz
  | i + 2, e => simp [layer] at e
theorem lr_index (s : Bool) : Builtin.Str.occurrences ("lr" : Str) (if s then ("r" : Str) else ("l" : Str)) 0 ("lr" : Str).length 1 = [ofH s] := by cases s <;> decide +kernel
theorem inV_nats (x : Nat) : ∀ l : List Nat, inV (.int (x : Nat)) (natsV l) = decide (x ∈ l)
  | [] => rfl
  | y :: l => by
    have ih := inV_nats x l
    unfold inV natsV at *
    rw [List.map_cons, List.any_cons, ih]
    show ((((y : Nat) : Int) == ((x : Nat) : Int)) || decide (x ∈ l)) = _
    by_cases e : x = y
    · subst e; simp
    · have : (((y : Nat) : Int) == ((x : Nat) : Int)) = false := by simp; omega
      rw [this, Bool.false_or]
      simp [e]
theorem flat_nats (l : List Nat) : (natsV l).all flatV = true := by
  unfold natsV
  rw [List.all_map]
  exact List.all_eq_true.mpr fun _ _ => rfl
section
variable {P : Program} {w : World} {K : PySem.W.Frag} {mg : Str → Option Value} {base : Heap}
def spCircuits : Sp := fun vs H Q _ => ∃ (v : V) (T : Tp), vs = [v] ∧ TapeR H v T ∧ T.n ≤ 4 ∧ T.In ∧ ∀ H' D es, Same H H' → H' D = some (.lst es) → FoundR H' es (downs T.n T.to T.dn T.n) → Q (.ref D) H'
abbrev nmCircs : List Str := ["_law_tape_here", "_law_found", "_law_begin", "_law_layer", "_law_further", "_law_walk", "_law_down", "_law_to", "_law_side", "_law_more", "_law_name"]
theorem scCircs : FnScope nmCircs ["_law_tape_here"] (defScope (topS 32)) := ⟨rfl, rfl, rfl, by decide +kernel, rfl, by decide +kernel, by decide +kernel⟩
theorem ok_circuits {f : Addr} {fd : FuncData} (F : FnD K "_law_circuits" 32 f fd) (G : Glb mg) : FnOk P w K mg base CX0 1 f fd ["_law_tape_here"] spCircuits := by
  refine F.ok scCircs (fun vs H Q E h => ?_) (fun cdv A outer s H vs Q E hr h => ?_)
  · obtain ⟨v, T, rfl, _⟩ := h
    rfl
  · obtain ⟨v, T, rfl, hT, hn, hin, q⟩ := h
    have hu := hu_of hr
    refine ⟨_, pss_cons (ps_set (i := 1) scCircs.nd rfl (.inl rfl) (pe_lst pa_nil))
      (pss_cons (ps_for PassesOwn.never rfl (pi_range1 (by rfl) G.range (pa_cons (pe_callB call_len (by rfl) G.len PySem.boot_len (pa_cons (pe_ix ix_tup (pv 0) pe_int (fun _ _ => rfl)) pa_nil)) pa_nil)) (pg_name (i := 2) scCircs.nd rfl (.inl rfl))
        (pss_cons (ps_set (i := 3) scCircs.nd rfl (.inl rfl) (pe_lst (pa_cons (pe_tup (pa_cons (pe_tup (pa_cons (pe_tup (pa_cons (pv 2) (pa_cons pe_str pa_nil))) pa_nil)) (pa_cons pe_int pa_nil))) (pa_cons (pe_tup (pa_cons (pe_tup (pa_cons (pe_tup (pa_cons (pv 2) (pa_cons pe_str pa_nil))) pa_nil)) (pa_cons pe_int pa_nil))) pa_nil))))
        (pss_one (ps_while PassesOwn.never (pt_cmpR (op_ne0 hr.units0) (pv 3) (pe_lst pa_nil) (nomark _))
          (pss_cons (ps_set (i := 4) scCircs.nd rfl (.inl rfl) (pe_lst pa_nil))
          (pss_cons (ps_for PassesOwn.never rfl (pi_list (pv 3)) (pg_tup rfl (pgs_cons (pg_name (i := 5) scCircs.nd rfl (.inl rfl)) (pgs_cons (pg_name (i := 6) scCircs.nd rfl (.inl rfl)) pgs_nil)))
            (pss_cons (ps_asg (pe_ix ix_tup (pe_ix ix_tup (pe_ix ix_tup (pv 0) pe_int (fun _ _ => rfl)) (pe_ix ix_tup (pe_ix ix_tup (pv 5) (pe_un un_neg pe_int) (fun _ _ => rfl)) pe_int (fun _ _ => rfl)) (fun _ _ => rfl))
                (pe_bm PySem.F.plainAttrs_str PySem.F.slot_str_index PySem.F.type_str_index mt_sindex pe_str (pa_cons (pe_ix ix_tup (pe_ix ix_tup (pv 5) (pe_un un_neg pe_int) (fun _ _ => rfl)) pe_int (fun _ _ => rfl)) pa_nil)) (fun _ _ => rfl))
              (pg_tup (by rfl) (pgs_cons (pg_name (i := 7) scCircs.nd rfl (.inl rfl)) (pgs_cons (pg_name (i := 8) scCircs.nd rfl (.inl rfl)) (pgs_cons (pg_name (i := 9) scCircs.nd rfl (.inl rfl)) pgs_nil)))))
            (pss_one (ps_if (pt_cmpR op_eq (pv 7) (pv 2) (nomark _))
              (pss_one (ps_expr (pe_bm PySem.F.plainAttrs_list PySem.F.slot_list_append PySem.F.type_list_append mt_append (pv 1) (pa_cons (pe_tup (pa_cons (pv 5) (pa_cons (pe_op op_add (pv 6) (pv 9)) pa_nil))) pa_nil))))
              (pss_one (ps_if (PW.pt (pw_and (pt_cmpR op_gt (pv 7) (pv 2) (nomark _)) (pw_and1 (pt_cmpR op_notIn_seq (pv 7)
                  (pe_lc (own := [("_law_name", 10)]) (g := gName 10) (tt := tYes) rfl scCircs.nd (pi_tup (pv 5)) (blkOk_by (N := nmCircs) (sc := defScope (topS 32)) (by decide +kernel)) (fun _ _ _ _ _ => pg_name (i := 10) scCircs.nd rfl (Or.inl rfl)) (fun _ _ _ _ _ => pts_nil)
                    (fun _ _ _ _ _ => pe_ix (ixT K) (pv 10) pe_int (fun _ _ => rfl))) (by rfl)))))
                (pss_cons (ps_expr (pe_bm PySem.F.plainAttrs_list PySem.F.slot_list_append PySem.F.type_list_append mt_append (pv 4) (pa_cons (pe_tup (pa_cons (pe_op op_catT (pv 5) (pe_tup (pa_cons (pe_tup (pa_cons (pv 7) (pa_cons pe_str pa_nil))) pa_nil))) (pa_cons (pe_op op_add (pv 6) (pv 9)) pa_nil))) pa_nil)))
                (pss_one (ps_expr (pe_bm PySem.F.plainAttrs_list PySem.F.slot_list_append PySem.F.type_list_append mt_append (pv 4) (pa_cons (pe_tup (pa_cons (pe_op op_catT (pv 5) (pe_tup (pa_cons (pe_tup (pa_cons (pv 7) (pa_cons pe_str pa_nil))) pa_nil))) (pa_cons (pe_op op_add (pv 6) (pv 9)) pa_nil))) pa_nil))))) pss_nil))))))
          (pss_one (ps_set (i := 3) scCircs.nd rfl (.inl rfl) (pv 4)))))))))
      (pss_one (ps_ret (pv 1)))), ?_⟩
    obtain ⟨av, wk, c, ws, rfl, hav, hwk', hlen, hc, hw⟩ := id hT
    have zero : (0 : Nat) ≤ sizeLine := Nat.zero_le _
    have one : (1 : Nat) ≤ sizeLine := by decide
    have two : (2 : Nat) ≤ sizeLine := by decide
    refine ⟨zero, fun D hD => ?_⟩
    refine ⟨_, rfl, av, _, _, _, rfl, rfl, SqT.of (same_new hD _ _ hav), atI_nat (j := 0) rfl, _, T.n, rfl, .inr ⟨_, SqT.of (same_new hD _ _ hwk'), by rw [List.length_map, hlen]⟩, _, rfl, by omega, by omega, for_it walk_range (fun B σ H' => ∃ y2 y3 y4 y5 y6 y7 y8 y9 es, σ = [some (.ref av), some (.ref D), y2, y3, y4, y5, y6, y7, y8, y9, none] ∧ Same H H' ∧ H' D = some (.lst es) ∧ FoundR H' es (downs T.n T.to T.dn B))
      ⟨_, _, _, _, _, _, _, _, [], rfl, same_new hD, upd_same, rfl, fun i d z => by simp [downs] at z⟩ (fun _ _ _ _ _ => trivial) ?_ ?_⟩
    · rintro B x σ1 H1 H2 hB ⟨y2, y3, y4, y5, y6, y7, y8, y9, es, rfl, sm, eD, hf⟩ ⟨rfl, rfl⟩
      have hBn : B < T.n := by
        have : B < ((T.n : Nat) : Int).toNat := hB
        omega
      refine ⟨_, rfl, two, fun u1 hu1 => ⟨one, fun p1 hp1 => ⟨two, fun q1 hq1 => ⟨_, rfl, two, fun u2 hu2 => ⟨one, fun p2 hp2 => ⟨two, fun q2 hq2 => ⟨two, fun L hL => ?_⟩⟩⟩⟩⟩⟩⟩
      obtain ⟨S, lay0, eL, hL2⟩ := first_layer (to := T.to) (dn := T.dn) (b := B) (by show V.int (0 + (B : Nat)) = _; rw [Int.zero_add]) hu1 hp1 hq1 hu2 hp2 hq2 hL
      have hLD : L ≠ D := Ne.symm (ne_of_none eD hL2)
      have hHL := sm.free hL2
      have eD0 := S _ _ eD
      have hf0 := hf.ts (.of S)
      have sm0 := sm.trans S
      generalize upd (upd (upd (upd (upd (upd (upd H2 u1 (.tup [V.int (0 + (B : Nat)), .str "l"])) p1 (.tup [.ref u1])) q1 (.tup [.ref p1, .int 0])) u2 (.tup [V.int (0 + (B : Nat)), .str "r"])) p2 (.tup [.ref u2])) q2 (.tup [.ref p2, .int 0])) L (.lst [.ref q1, .ref q2]) = H3 at *
      have N24 : (List.length (downs T.n T.to T.dn B)) ≤ 64 * B := downs_len hn B
      refine ⟨fun μ σ H' => ∃ k L y4 y5 y6 y7 y8 y9 es lay, μ = T.n - k ∧ k ≤ T.n ∧ σ = [some (.ref av), some (.ref D), some (.int (0 + (B : Nat))), some (.ref L), y4, y5, y6, y7, y8, y9, none] ∧ Same H H' ∧ L ≠ D ∧ H' D = some (.lst es) ∧ FoundR H' es (downs T.n T.to T.dn B ++ scan T.to T.dn B k) ∧ H' L = some (.lst lay) ∧ LayR T.to T.dn H' lay B (layer T.to B k),
        ⟨_, 0, L, _, _, _, _, _, _, es, _, rfl, Nat.zero_le _, rfl, sm0, hLD, eD0, by rw [show scan T.to T.dn B 0 = [] from rfl, List.append_nil]; exact hf0, eL, lay0⟩, ?_⟩
      rintro μ σ2 H4 ⟨k, L, y4, y5, y6, y7, y8, y9, es, lay, rfl, hkn, rfl, sm4, hLD, eD4, hf4, eL4, lay4⟩
      refine ⟨_, rfl, zero, fun u hu => ?_⟩
      have su := same_new (o := .lst []) hu
      refine ⟨L, u, _, rfl, rfl, SqL.of (su _ _ eL4), SqL.of upd_same, _, rfl, ?_⟩
      have smu := sm4.trans su
      have eDu := su _ _ eD4
      have eLu := su _ _ eL4
      have hfu := hf4.ts (.of su)
      have layu := lay4.ts (.of su)
      generalize upd H4 u (.lst []) = H5 at *
      cases lay with
      | nil =>
        have hnil : layer T.to B k = [] := List.eq_nil_of_length_eq_zero layu.1.symm
        refine iteF ⟨_, _, _, _, _, _, _, _, es, rfl, smu, eDu, ?_⟩
        have := scan_end (dn := T.dn) hnil (T.n - k)
        rw [show k + (T.n - k) = T.n by omega] at this
        rw [downs_succ, this]
        exact hfu
      | cons z0 zs =>
        have hne : layer T.to B k ≠ [] := fun z => by
          have := layu.1
          rw [z] at this
          simp at this
        have hkn : k < T.n := layer_lt hin hBn hne
        have hk4 : k < 4 := by omega
        refine iteT ?_
        generalize hlay : z0 :: zs = lay at *
        have hll := layer_len4 (to := T.to) (b := B) hk4
        refine ⟨fun σ' H' => ∃ L y4 y5 y6 y7 y8 y9 es lay, σ' = [some (.ref av), some (.ref D), some (.int (0 + (B : Nat))), some (.ref L), y4, y5, y6, y7, y8, y9, none] ∧ Same H H' ∧ L ≠ D ∧ H' D = some (.lst es) ∧ FoundR H' es (downs T.n T.to T.dn B ++ scan T.to T.dn B (k + 1)) ∧ H' L = some (.lst lay) ∧ LayR T.to T.dn H' lay B (layer T.to B (k + 1)), fun σ' H' z => ?_, ?_⟩
        · obtain ⟨L, y4, y5, y6, y7, y8, y9, es, lay, a1, a2⟩ := z
          exact ⟨T.n - (k + 1), by omega, k + 1, L, y4, y5, y6, y7, y8, y9, es, lay, rfl, by omega, a1, a2⟩
        refine ⟨zero, fun Fa hFa => ?_⟩
        have sF := same_new (o := .lst []) hFa
        have hHFa := smu.free hFa
        have hLFa : L ≠ Fa := ne_of_none eLu hFa
        have hDFa : D ≠ Fa := ne_of_none eDu hFa
        refine ⟨_, rfl, L, rfl, ⟨_, SqL.of (sF _ _ eLu)⟩, for_it (walk_list (K := K) (a := L) (xs := lay)) (fun i σ H' => ∃ y5 y6 y7 y8 y9 es fe, σ = [some (.ref av), some (.ref D), some (.int (0 + (B : Nat))), some (.ref L), some (.ref Fa), y5, y6, y7, y8, y9, none] ∧ Same H H' ∧ H' D = some (.lst es) ∧ FoundR H' es (downs T.n T.to T.dn B ++ scan T.to T.dn B k ++ hits T.to T.dn B ((layer T.to B k).take i)) ∧ H' L = some (.lst lay) ∧ LayR T.to T.dn H' lay B (layer T.to B k) ∧ H' Fa = some (.lst fe) ∧ LayR T.to T.dn H' fe B (expds T.to B ((layer T.to B k).take i)))
          ⟨_, _, _, _, _, es, [], rfl, smu.trans sF, sF _ _ eDu, by rw [List.take_zero, show hits T.to T.dn B [] = [] from rfl, List.append_nil]; exact hfu.ts (.of sF), sF _ _ eLu, layu.ts (.of sF), upd_same, rfl, fun i hs z => by simp [expds] at z⟩ (fun _ _ _ _ z => by
            obtain ⟨_, _, _, _, _, _, _, _, _, _, _, z, _⟩ := z
            exact SqL.of z) ?_ ?_⟩
        · rintro i x σ3 H6 H7 hi ⟨y5, y6, y7, y8, y9, es, fe, rfl, sm6, eD6, hf6, eL6, lay6, eF6, layF⟩ ⟨rfl, hx⟩
          have hi2 : i < (layer T.to B k).length := by rw [← lay6.1]; exact hi
          obtain ⟨q1, eq1, hsne, p, hq1, hwk6⟩ := lay6.2 i _ (List.getElem?_eq_getElem hi2)
          have eget := List.getElem?_eq_getElem hi2
          have ex : x = .ref q1 := Option.some.inj (hx.symm.trans eq1)
          subst ex
          generalize (layer T.to B k)[i]'hi2 = hs at *
          obtain ⟨hs', h, rfl⟩ : ∃ hs' h, hs = hs' ++ [h] := ⟨hs.dropLast, hs.getLast hsne, (List.dropLast_concat_getLast hsne).symm⟩
          rw [List.dropLast_concat] at hq1
          obtain ⟨us, a, hp, ha⟩ := hwk6.last
          have hv : fin T.to B hs' < T.n := fin_lt hin hs' B hBn
          obtain ⟨pp, epp, l, r, f1, f2, f3⟩ := hw.2 _ hv
          have f1 := sm6 _ _ f1
          obtain ⟨d, ed, hd'⟩ : ∃ d : Addr, [V.ref l, V.ref r][ofH h]? = some (V.ref d) ∧ WayR H7 d (T.to (fin T.to B hs') h) (T.sd (fin T.to B hs') h) (T.dn (fin T.to B hs') h) := by
            cases h
            · exact ⟨l, rfl, f2.same sm6⟩
            · exact ⟨r, rfl, f3.same sm6⟩
          have ef : T.to (fin T.to B hs') h = fin T.to B (hs' ++ [h]) := fin_snoc.symm
          have es1 : sum T.to T.dn B hs' + T.dn (fin T.to B hs') h = sum T.to T.dn B (hs' ++ [h]) := sum_snoc.symm
          rw [ef] at hd'
          refine ⟨q1, _, rfl, SqT.of hq1, rfl, _, _, rfl, _, _, rfl, rfl, ?_⟩
          refine ⟨_, rfl, av, _, _, _, rfl, rfl, SqT.of (sm6 _ _ hav), atI_nat (j := 1) rfl, _, rfl, 1, rfl, p, _, _, _, rfl, rfl, SqT.of hp, atI_last us (.ref a), a, _, _, _, rfl, rfl, SqT.of ha, atI_nat (j := 0) rfl, c, _, _, .ref pp, rfl, rfl, SqT.of (sm6 _ _ hc), atI_nat epp,
            rfl, _, rfl, 1, rfl, p, _, _, _, rfl, rfl, SqT.of hp, atI_last us (.ref a), a, _, _, _, rfl, rfl, SqT.of ha, atI_nat (j := 1) rfl, _, _, _, _, rfl, rfl, lr_index h, pp, _, _, .ref d, rfl, rfl, SqT.of f1, atI_nat ed, ?_⟩
          refine ⟨d, _, rfl, SqT.of hd', rfl, _, _, rfl, _, _, rfl, _, _, rfl, rfl, ?_⟩
          generalize hhs : hs' ++ [h] = hs at *
          obtain ⟨wsp, hp2, hsd⟩ := hwk6
          have hesl : es.length ≤ 64 * B + 16 * k + 16 := by
            have a1 := hits_len (to := T.to) (dn := T.dn) B ((layer T.to B k).take i)
            have a2 := scan_len (to := T.to) (dn := T.dn) (b := B) k (by omega)
            have a3 : ((layer T.to B k).take i).length ≤ 16 := by rw [List.length_take]; omega
            rw [hf6.1, List.length_append, List.length_append]
            omega
          have hfel : fe.length ≤ 32 := by
            have a1 := expds_len (to := T.to) B ((layer T.to B k).take i)
            have a3 : ((layer T.to B k).take i).length ≤ 16 := by rw [List.length_take]; omega
            rw [layF.1]
            omega
          refine ⟨_, rfl, _, rfl, rfl, _, rfl, ite2 (fun e => ?_) (fun e => ?_)⟩
          · have e : fin T.to B hs = B := by
              have := V.int.inj (of_decide_eq_true e)
              omega
            refine ⟨_, rfl, .inl ⟨rfl, _, SqL.of eD6⟩, _, rfl, _, rfl, _, rfl, _, _, rfl, rfl, two, fun u hu => ?_⟩
            have eD7 := (new_at (o := .tup [.ref p, .int (sum T.to T.dn B hs' + T.dn (fin T.to B hs') h)]) eD6 hu).2
            have ts := new_ts (o := .tup [.ref p, .int (sum T.to T.dn B hs' + T.dn (fin T.to B hs') h)]) (ys := es ++ [.ref u]) eD6 hu
            refine ⟨D, es, _, rfl, rfl, eD7, lt_line (by omega), _, _, _, _, _, es ++ [.ref u], fe, rfl, same_mut (sm6.trans (same_new hu)) hD, upd_same, ?_, ?_, lay6.ts ts, ?_, ?_⟩
            · have e1 : hit T.to T.dn B hs = [sum T.to T.dn B hs] := if_pos e
              rw [hits_take eget, e1, ← List.append_assoc]
              refine (hf6.ts ts).snoc (p := p) ?_
              rw [← es1]
              exact new_u eD6 hu
            · rw [upd_ne hLD]; exact (same_new hu) _ _ eL6
            · rw [upd_ne (Ne.symm hDFa)]; exact (same_new hu) _ _ eF6
            · have e1 : expd T.to B hs = [] := if_pos e
              rw [expds_take eget, e1, List.append_nil]
              exact layF.ts ts
          · have e : ¬ fin T.to B hs = B := fun z => e (decide_eq_true (by rw [z, Int.zero_add]))
            have e1 : hit T.to T.dn B hs = [] := if_neg e
            have skip : ∀ {H8 : Hp}, Same H7 H8 → ¬ (B < fin T.to B hs ∧ ¬ fin T.to B hs ∈ verts T.to B hs) → ∃ y5 y6 y7 y8 y9 es fe, ([some (.ref av), some (.ref D), some (.int (0 + (B : Nat))), some (.ref L), some (.ref Fa), some (.ref p), some (.int (sum T.to T.dn B hs')), some (.int (fin T.to B hs : Nat)), some (sideV (T.sd (fin T.to B hs') h)), some (.int (T.dn (fin T.to B hs') h)), none] : L2.St) = [some (.ref av), some (.ref D), some (.int (0 + (B : Nat))), some (.ref L), some (.ref Fa), y5, y6, y7, y8, y9, none] ∧ Same H H8 ∧ H8 D = some (.lst es) ∧ FoundR H8 es (downs T.n T.to T.dn B ++ scan T.to T.dn B k ++ hits T.to T.dn B ((layer T.to B k).take (i + 1))) ∧ H8 L = some (.lst lay) ∧ LayR T.to T.dn H8 lay B (layer T.to B k) ∧ H8 Fa = some (.lst fe) ∧ LayR T.to T.dn H8 fe B (expds T.to B ((layer T.to B k).take (i + 1))) := by
              intro H8 sH hn
              have e2 : expd T.to B hs = [] := by
                unfold expd
                rw [if_neg e, if_neg hn]
              refine ⟨_, _, _, _, _, es, fe, rfl, sm6.trans sH, sH _ _ eD6, ?_, sH _ _ eL6, lay6.ts (.of sH), sH _ _ eF6, ?_⟩
              · rw [hits_take eget, e1, List.append_nil]; exact hf6.ts (.of sH)
              · rw [expds_take eget, e2, List.append_nil]; exact layF.ts (.of sH)
            refine ⟨_, rfl, _, rfl, _, _, rfl, rfl, _, rfl, ite2 (fun gt => ?_) (fun ng => ?_)⟩
            · have gt : B < fin T.to B hs := by
                have := of_decide_eq_true gt
                omega
              have hvl : (verts T.to B hs).length = hs.length := verts_len hs B
              have hwl : wsp.length = (verts T.to B hs).length := by rw [hsd.1, List.length_zip, hvl, Nat.min_self]
              refine ⟨_, rfl, _, rfl, p, rfl, ⟨_, SqT.of hp2⟩, fun N hN => lc_walk (walk_tup (K := K) (a := p) (xs := wsp)) [some (.ref av), some (.ref D), some (.int (0 + (B : Nat))), some (.ref L), some (.ref Fa), some (.ref p), some (.int (sum T.to T.dn B hs')), some (.int (fin T.to B hs : Nat)), some (sideV (T.sd (fin T.to B hs') h)), some (.int (T.dn (fin T.to B hs') h)), none] (by rfl)
                (fun j H' => Same H7 H' ∧ H' N = some (.lst (natsV ((verts T.to B hs).take j)))) ⟨same_new hN, upd_same⟩ (fun _ _ _ z => SqT.of (z.1 _ _ hp2)) ?_ ?_⟩
              · rintro j x H8 H9 hj ⟨sm8, eN⟩ ⟨rfl, hx8⟩
                have hjv : j < (verts T.to B hs).length := by omega
                have hjz : j < ((verts T.to B hs).zip hs).length := by rw [← hsd.1]; exact hj
                obtain ⟨aj, ea, haj⟩ := hsd.2 j _ (List.getElem?_eq_getElem hjz)
                rw [List.getElem_zip] at haj
                have ex8 : x = .ref aj := Option.some.inj (hx8.symm.trans ea)
                subst ex8
                refine ⟨rfl, _, rfl, aj, _, _, _, rfl, rfl, SqT.of (sm8 _ _ haj), atI_nat (j := 0) rfl, _, eN, lt_line ?_, same_mut sm8 hN, ?_⟩
                · have hk1 := (layer_ok B k hs (List.mem_of_getElem? eget)).1
                  unfold natsV
                  rw [List.length_map, List.length_take]
                  omega
                · rw [upd_same, take_succ_get (List.getElem?_eq_getElem hjv)]
                  unfold natsV
                  rw [List.map_append]
                  rfl
              · rintro H8 ⟨sm8, eN⟩
                rw [hwl, List.take_length] at eN
                refine ⟨N, _, rfl, .inl (SqL.of eN), rfl, flat_nats _, decide (¬ fin T.to B hs ∈ verts T.to B hs), ?_, ite2 (fun hn => ?_) (fun hn => ?_)⟩
                · rw [if_pos rfl, inV_nats]
                  simp
                · have hn := of_decide_eq_true hn
                  have e2 : expd T.to B hs = [hs ++ [false], hs ++ [true]] := by
                    unfold expd
                    rw [if_neg e, if_pos ⟨gt, hn⟩]
                  have hk1 := (layer_ok B k hs (List.mem_of_getElem? eget)).1
                  have wl2 : wsp.length = k + 1 := by rw [hwl, hvl, hk1]
                  have wne : wsp ≠ [] := fun z => by rw [z] at wl2; simp at wl2
                  have sz : wsp.length + 1 ≤ sizeLine := Nat.le_of_lt (lt_line (by omega))
                  have hp8 := sm8 _ _ hp2
                  have eF8 := sm8 _ _ eF6
                  refine ⟨_, rfl, .inl ⟨rfl, _, SqL.of eF8⟩, _, rfl, _, rfl, two, fun a0 h0 => ⟨one, fun a1 h1 => ⟨p, a1, wsp, _, rfl, rfl, SqT.of ((same_new h1) _ _ ((same_new h0) _ _ hp8)), SqT.of upd_same, wne, sz, (fun z => by cases z), fun _ a2 h2 => ⟨_, rfl, _, rfl, _, _, rfl, rfl, two, fun a3 h3 => ?_⟩⟩⟩⟩
                  obtain ⟨ts1, it1, st1⟩ := step_more (to := T.to) (dn := T.dn) (g := false) hp8 (hsd.ts (.of sm8)) eF8 h0 h1 h2 h3 es1
                  refine ⟨Fa, fe, _, rfl, rfl, (same_new h3) _ _ ((same_new h2) _ _ ((same_new h1) _ _ ((same_new h0) _ _ eF8))), lt_line (by omega), ?_⟩
                  have sH1 : Same H (upd (upd (upd (upd (upd H8 a0 (.tup [.int (fin T.to B hs : Nat), sideV false])) a1 (.tup [.ref a0])) a2 (.tup (wsp ++ [.ref a0]))) a3 (.tup [.ref a2, .int (sum T.to T.dn B hs' + T.dn (fin T.to B hs') h)])) Fa (.lst (fe ++ [.ref a3]))) := fun b o eb => st1 b o (ne_of_none eb hHFa) (sm8 _ _ (sm6 _ _ eb))
                  have eF9 := (upd_same : (upd (upd (upd (upd (upd H8 a0 (.tup [.int (fin T.to B hs : Nat), sideV false])) a1 (.tup [.ref a0])) a2 (.tup (wsp ++ [.ref a0]))) a3 (.tup [.ref a2, .int (sum T.to T.dn B hs' + T.dn (fin T.to B hs') h)])) Fa (.lst (fe ++ [.ref a3]))) Fa = _)
                  have eD9 := st1 D _ hDFa (sm8 _ _ eD6)
                  have eL9 := st1 L _ hLFa (sm8 _ _ eL6)
                  have hp9 := ts1 _ _ hp8
                  have lay9 := (lay6.ts (.of sm8)).ts ts1
                  have hf9 := (hf6.ts (.of sm8)).ts ts1
                  have hsd9 := (hsd.ts (.of sm8)).ts ts1
                  have lF9 := ((layF.ts (.of sm8)).ts ts1).snoc it1
                  refine ⟨_, rfl, .inl ⟨rfl, _, SqL.of eF9⟩, _, rfl, _, rfl, two, fun b0 g0 => ⟨one, fun b1 g1 => ⟨p, b1, wsp, _, rfl, rfl, SqT.of ((same_new g1) _ _ ((same_new g0) _ _ hp9)), SqT.of upd_same, wne, sz, (fun z => by cases z), fun _ b2 g2 => ⟨_, rfl, _, rfl, _, _, rfl, rfl, two, fun b3 g3 => ?_⟩⟩⟩⟩
                  obtain ⟨ts2, it2, st2⟩ := step_more (to := T.to) (dn := T.dn) (g := true) hp9 hsd9 eF9 g0 g1 g2 g3 es1
                  refine ⟨Fa, _, _, rfl, rfl, (same_new g3) _ _ ((same_new g2) _ _ ((same_new g1) _ _ ((same_new g0) _ _ eF9))), lt_line (by rw [List.length_append]; show fe.length + 1 ≤ 1000; omega), ?_⟩
                  refine ⟨_, _, _, _, _, es, (fe ++ [.ref a3]) ++ [.ref b3], rfl, fun b o eb => st2 b o (ne_of_none eb hHFa) (sH1 _ _ eb), st2 D _ hDFa eD9, ?_, st2 L _ hLFa eL9, lay9.ts ts2, upd_same, ?_⟩
                  · rw [hits_take eget, e1, List.append_nil]; exact hf9.ts ts2
                  · rw [expds_take eget, e2, show expds T.to B ((layer T.to B k).take i) ++ [hs ++ [false], hs ++ [true]] = expds T.to B ((layer T.to B k).take i) ++ [hs ++ [false]] ++ [hs ++ [true]] by simp]
                    exact (lF9.ts ts2).snoc it2
                · exact skip sm8 fun z => hn (decide_eq_true z.2)
            · refine iteF ?_
              exact skip (Same.refl _) fun z => ng (decide_eq_true (by omega))
        · rintro σ3 H6 ⟨y5, y6, y7, y8, y9, es, fe, rfl, sm6, eD6, hf6, eL6, lay6, eF6, layF⟩
          have e9 : (layer T.to B k).take lay.length = layer T.to B k := by rw [layu.1, List.take_length]
          rw [e9] at hf6 layF
          rw [List.append_assoc, ← scan_succ] at hf6
          exact ⟨_, rfl, Fa, _, _, _, _, _, _, es, fe, rfl, sm6, Ne.symm hDFa, eD6, hf6, eF6, layF⟩
    · rintro σ1 H1 ⟨y2, y3, y4, y5, y6, y7, y8, y9, es, rfl, sm, eD, hf⟩
      rw [show ((T.n : Nat) : Int).toNat = T.n by omega] at hf
      exact ⟨_, rfl, q _ D es sm eD hf⟩
end
end LH

namespace LH
open PySem PySem.Spec PyProof.Rows L2 LHM LHR
section
variable {P : Program} {w : World} {K : PySem.W.Frag} {mg : Str → Option Value} {base : Heap}
/-! ### _law_goes_down -/
def spDown : Sp := fun vs H Q _ => ∃ (v : V) (T : Tp), vs = [v] ∧ TapeR H v T ∧ T.n ≤ 4 ∧ T.In ∧ (T.Wk → ∀ H', Same H H' → Q (.bl true) H') ∧ (¬ T.Wk → ∀ H', Same H H' → Q (.bl false) H')
abbrev nmDown : List Str := ["_law_tape_here", "_law_walk", "_law_down"]
theorem scDown : FnScope nmDown ["_law_tape_here"] (defScope (topS 33)) := ⟨rfl, rfl, rfl, by decide +kernel, rfl, by decide +kernel, by decide +kernel⟩
theorem ok_down {f : Addr} {fd : FuncData} (F : FnD K "_law_goes_down" 33 f fd) (G : Glb mg) (CC : Cal P w K mg base CX0 1 "_law_circuits" ["_law_tape_here"] spCircuits) : FnOk P w K mg base CX0 2 f fd ["_law_tape_here"] spDown := by
  refine F.ok scDown (fun vs H Q E h => ?_) (fun cdv A outer s H vs Q E hr h => ?_)
  · obtain ⟨v, T, rfl, _⟩ := h
    rfl
  · obtain ⟨v, T, rfl, hT, hn, hin, qA, qB⟩ := h
    refine ⟨_, pss_one (ps_ret (pe_cmpR (op_eq0 hr.units0)
      (pe_lc (own := [("_law_walk", 1), ("_law_down", 2)]) (g := gTup K 2 (gCons (gName 1) (gCons (gName 2) gNil))) (tt := tTest (tOp (rI0 fun i j => .bl (decide (i < j))) (tVar 2) (tC (.int 1)))) rfl scDown.nd (pi_list (pe_cal CC hr (by rfl) (E := E0) pass0 (pa_cons (pv 0) pa_nil)))
        (blkOk_by (N := nmDown) (sc := defScope (topS 33)) (by decide +kernel)) (fun _ _ _ _ _ => pg_tup rfl (pgs_cons (pg_name (i := 1) scDown.nd rfl (Or.inl rfl)) (pgs_cons (pg_name (i := 2) scDown.nd rfl (Or.inl rfl)) pgs_nil)))
        (fun _ _ _ _ _ => pts_one (pt_cmpR op_lt (pv 2) pe_int (nomark _))) (fun _ _ _ _ _ => pv 1)) (pe_lst pa_nil) (nomark _))), ?_⟩
    refine ⟨_, rfl, _, T, rfl, hT, hn, hin, fun H1 D es sm eD hf => ⟨D, rfl, ⟨_, SqL.of eD⟩, fun N hN => lc_walk (walk_list (K := K) (a := D) (xs := es)) [some v, none, none] (by rfl)
      (fun i H' => Same H1 H' ∧ ∃ out, H' N = some (.lst out) ∧ out.length ≤ i ∧ (out = [] ↔ ∀ d ∈ (downs T.n T.to T.dn T.n).take i, 1 ≤ d)) ⟨same_new hN, [], upd_same, Nat.le_refl _, by simp⟩ (fun _ _ _ z => SqL.of (z.1 _ _ eD)) ?_ ?_⟩⟩
    · rintro i x H2 H3 hi ⟨sm2, out, eN, hl, hiff⟩ ⟨rfl, hx⟩
      have hid : i < (downs T.n T.to T.dn T.n).length := by rw [← hf.1]; exact hi
      have hdl := downs_len (to := T.to) (dn := T.dn) hn T.n
      obtain ⟨q, p, eq, hq⟩ := hf.2 i _ (List.getElem?_eq_getElem hid)
      have ex := Option.some.inj (hx.symm.trans eq)
      subst ex
      have etk := take_succ_get (List.getElem?_eq_getElem hid)
      generalize (downs T.n T.to T.dn T.n)[i]'hid = d at *
      refine ⟨q, _, rfl, SqT.of (sm2 _ _ hq), rfl, _, _, rfl, _, _, rfl, rfl, rfl, _, rfl, d, 1, rfl, rfl, _, rfl, ite2 (fun e => ?_) (fun e => ?_)⟩
      · have e := of_decide_eq_true e
        refine ⟨_, rfl, out, eN, lt_line (by omega), same_mut sm2 hN, _, upd_same, by simp; omega, ?_⟩
        rw [etk]
        constructor
        · intro z; simp at z
        · intro z
          have := z d (by simp)
          omega
      · have e : ¬ d < 1 := fun z => e (decide_eq_true z)
        refine ⟨sm2, out, eN, by omega, ?_⟩
        rw [hiff, etk]
        constructor
        · intro z y hy
          rcases List.mem_append.mp hy with h | h
          · exact z y h
          · rw [List.mem_singleton.mp h]; omega
        · exact fun z y hy => z y (List.mem_append.mpr (.inl hy))
    · rintro H2 ⟨sm2, out, eN, hl, hiff⟩
      rw [hf.1, List.take_length] at hiff
      refine ⟨Nat.zero_le _, fun u hu => ⟨N, u, out, rfl, rfl, SqL.of ((same_new hu) _ _ eN), SqL.of upd_same, ?_⟩⟩
      have sf := (sm.trans sm2).trans (same_new (o := .lst []) hu)
      cases out with
      | nil => exact qA ((mem_downs hin).mp (hiff.mp rfl)) _ sf
      | cons z zs => exact qB (fun hw => by
          have := hiff.mpr ((mem_downs hin).mpr hw)
          cases this) _ sf
/-! ### _law_is_refused -/
def spRefused (K : PySem.W.Frag) : Sp := fun vs H Q _ => ∃ (v x y : V) (T : Tp), vs = [v, x, y] ∧ TapeR H v T ∧ T.Good ∧
  ((¬ T.Wk ∧ ∀ H', Same H H' → Q (.bl true) H') ∨ (T.Wk ∧ ((∃ a b : Nat, x = .int (a : Nat) ∧ a < T.n ∧ y = .int (b : Nat) ∧ b < T.n ∧ ∀ H', Same H H' → Q (.bl false) H') ∨ (BadSt K H T.n x ∧ ∀ H', Same H H' → Q (.bl true) H') ∨ (∃ a : Nat, x = .int (a : Nat) ∧ a < T.n ∧ BadSt K H T.n y ∧ ∀ H', Same H H' → Q (.bl true) H'))))
abbrev nmRef : List Str := ["_law_tape_here", "_law_first", "_law_last", "_law_found"]
theorem scRef : FnScope nmRef ["_law_tape_here", "_law_first", "_law_last"] (defScope (topS 35)) := ⟨rfl, rfl, rfl, by decide +kernel, rfl, by decide +kernel, by decide +kernel⟩
theorem ok_refused {C fI cc cda f : Addr} {fd : FuncData} (F : FnD K "_law_is_refused" 35 f fd) (O : Oop P K mg C fI cc cda) (CL : Cal P w K mg base (L2.CX P w) 6 "lead" ["tape", "first", "last"] (spLead K C)) : FnOk P w K mg base CX0 7 f fd ["_law_tape_here", "_law_first", "_law_last"] (spRefused K) := by
  refine F.ok scRef (fun vs H Q E h => ?_) (fun cdv A outer s H vs Q E hr h => ?_)
  · obtain ⟨v, x, y, T, rfl, _⟩ := h
    rfl
  · obtain ⟨v, x, y, T, rfl, hT, g, hq⟩ := h
    refine ⟨_, pss_cons (ps_set (i := 3) scRef.nd rfl (.inl rfl) pe_bl)
      (pss_cons (ps_try_only rfl rfl ⟨rfl, by decide, .inl O.gC⟩ takes0 (fun W pn xe tk _ => pss_one (ps_expr (pe_calS CL hr (by rfl) tk (pa_cons (pv 0) (pa_cons (pv 1) (pa_cons (pv 2) pa_nil))))))
        (fun a oe cls d pn _ _ => pss_one (ps_set (i := 3) scRef.nd rfl (.inl rfl) pe_bl)))
      (pss_one (ps_ret (pv 3)))), ?_⟩
    have go : ∀ (H' : Hp), Q (.bl true) H' → ∃ b, PySem.W.exmOne K (.ref C) (.ref C) = some b ∧ (b = true → ∀ a : Addr, H' a = none → ∃ u, ([some v, some x, some y, some (V.bl true)] : L2.St)[3]? = some (some u) ∧ Q u H') ∧ (b = false → False) := fun H' q =>
      ⟨true, O.te, fun _ a ha => ⟨_, rfl, q⟩, fun z => nomatch z⟩
    refine ⟨_, rfl, _, rfl, _, rfl, v, x, y, T, rfl, hT, g, ?_⟩
    rcases hq with ⟨hn, q⟩ | ⟨hk, ⟨a, b, rfl, ha, rfl, hb, q⟩ | ⟨bad, q⟩ | ⟨a, rfl, ha, bad, q⟩⟩
    · exact ⟨fun _ H' sm => go H' (q H' sm), fun h => absurd h hn⟩
    · exact ⟨fun h => absurd hk h, fun _ => .inl ⟨a, b, rfl, ha, rfl, hb, fun H' sm => ⟨_, rfl, q H' sm⟩⟩⟩
    · exact ⟨fun h => absurd hk h, fun _ => .inr (.inl ⟨bad, fun H' sm => go H' (q H' sm)⟩)⟩
    · exact ⟨fun h => absurd hk h, fun _ => .inr (.inr ⟨a, rfl, ha, bad, fun H' sm => go H' (q H' sm)⟩)⟩
end
end LH

namespace LH
open PySem PySem.Spec PyProof.Rows L2 LHM LHR
theorem passL {X : Cx} : Passes (L2.CX X.prog X.w) X E0 := fun _ _ _ _ _ _ _ ⟨_, _, _, _, _, _, _, _, _, _, _, _, h⟩ => h.elim
/-! ### repr(None), repr(int) -/
def oT : Option Int → Str
  | none => "None"
  | some i => (toString i : String)
def rRep : List V → Hp → VK → Prop := fun xs H Q => ∃ o : Option Int, xs = [oV o] ∧ (∀ i, o = some i → i.natAbs.log2 < 1920) ∧ Q (.str (oT o)) H
theorem call_repr_o {X : Cx} : CallR X (.builtin "repr") rRep := by
  intro pins s σ H xs us Q I r h
  obtain ⟨o, rfl, hz, q⟩ := h
  cases o with
  | none =>
    obtain ⟨u, rfl, r1⟩ := vals1 r
    cases r1
    exact PySem.P.repr_of_none ⟨.str _, H, I.tok _, ⟨_, rfl⟩, q⟩
  | some i =>
    obtain ⟨u, rfl, t, rfl⟩ := vals1 r
    exact PySem.P.repr_of_int (hz i rfl) ⟨.str _, H, I.tok _, ⟨_, rfl⟩, q⟩
theorem b_repr : bootBuiltins "repr" = some (.builtin "repr") := by decide +kernel
theorem log_small {i : Int} (h : -100000 ≤ i ∧ i ≤ 100000) : i.natAbs.log2 < 1920 := by
  have h1 : i.natAbs < 2 ^ 20 := Nat.lt_of_le_of_lt (show i.natAbs ≤ 100000 by omega) (by decide)
  exact Nat.lt_of_lt_of_le (PySem.Flt.log2_lt_of (by decide) h1) (by decide)
/-! ### moved straight tapes -/
theorem mvd_good {T : Tp} {mvs : List Int} (g : T.Good) : (mvd T mvs).Good := ⟨g.n1, g.n24, g.wk, g.inn, g.once⟩
theorem mvd_wk {T : Tp} {mvs : List Int} (g : T.Good) (h : T.Str) : (mvd T mvs).Wk :=
  works_moved (n := T.n) (to := T.to) (d := T.dn) (mv := fun v => mvs.getD v 0) g.inn (fun v b hv => (h v b hv).1) fun v b hv => rfl
theorem getD_bd {l : List Int} {a b : Int} (h : ∀ x ∈ l, a ≤ x ∧ x ≤ b) (h0 : a ≤ 0 ∧ 0 ≤ b) (i : Nat) : a ≤ l.getD i 0 ∧ l.getD i 0 ≤ b := by
  rw [List.getD_eq_getElem?_getD]
  cases e : l[i]? with
  | none => exact h0
  | some x => exact h x (List.mem_of_getElem? e)
theorem mvd_lead {T : Tp} {mvs : List Int} (h : T.Str) (hm : ∀ x ∈ mvs, -2 ≤ x ∧ x ≤ 2) (hn : T.n ≤ 6) {a b : Nat} {i : Int} (hl : leadF T.n T.to (mvd T mvs).dn a b = some i) : i.natAbs.log2 < 1920 := by
  have hb : FBnd (tbl T.n T.to (mvd T mvs).dn a T.n) (6 * (2 * T.n : Nat) * (T.n + 1 : Nat)) := bnd_tbl (D := 6) (by decide) (fun v x hv => by
    have h1 := h v x hv
    have h2 := getD_bd hm (by decide) (T.to v x)
    have h3 := getD_bd hm (by decide) v
    show -6 ≤ T.dn v x + mvs.getD (T.to v x) 0 - mvs.getD v 0 ∧ T.dn v x + mvs.getD (T.to v x) 0 - mvs.getD v 0 ≤ 6
    omega) T.n
  have h2 := hb b i hl
  have h3 : ((2 * T.n : Nat) : Int) * ((T.n + 1 : Nat) : Int) ≤ 12 * 7 := Int.mul_le_mul (by omega) (by omega) (by omega) (by omega)
  rw [Int.mul_assoc] at h2
  exact log_small ⟨by omega, by omega⟩
/-! ### the rows -/
def rowT (n : Nat) : Tp := ⟨n, List.replicate n "C", rTo n, fun _ h => h, rDn⟩
theorem rowT_good {n : Nat} (h1 : 1 ≤ n) (h2 : n ≤ 24) : (rowT n).Good := by
  refine ⟨h1, h2, fun z hz => ?_, fun v h hv => rTo_lt h hv, fun u s hu => ?_⟩
  · have e := (List.mem_replicate.mp hz).2
    subst e
    exact ⟨by decide +kernel, by decide +kernel, by decide +kernel⟩
  · have hu : u < n := hu
    show ((List.range (2 * n)).map fun i => (rTo n (i / 2) (hd i), hd i)).count (u, s) = 1
    obtain ⟨v, hv, hvu, huniq⟩ : ∃ v, v < n ∧ rTo n v s = u ∧ ∀ v', v' < n → rTo n v' s = u → v' = v := by
      cases s with
      | true => exact ⟨u, hu, rfl, fun v' _ e => e⟩
      | false =>
        by_cases e : u + 1 < n
        · refine ⟨u + 1, e, rTo_s e, fun v' h' e' => ?_⟩
          cases v' with
          | zero =>
            rw [rTo_0 (by omega)] at e'
            omega
          | succ v' =>
            rw [rTo_s h'] at e'
            omega
        · refine ⟨0, by omega, by rw [rTo_0 (by omega)]; omega, fun v' h' e' => ?_⟩
          cases v' with
          | zero => rfl
          | succ v' =>
            rw [rTo_s h'] at e'
            omega
    obtain ⟨g1, g2, g3⟩ := hd_of v s
    refine cnt_range1 (j := 2 * v + ofH s) _ (by omega) (by rw [g1, g2, hvu]) fun i hi e => ?_
    have e1 : rTo n (i / 2) (hd i) = u := congrArg Prod.fst e
    have e2 : hd i = s := congrArg Prod.snd e
    rw [e2] at e1
    have := huniq (i / 2) (by omega) e1
    rw [hd_at i, this, e2]
theorem rowT_wk (n : Nat) : (rowT n).Wk := works_row n
theorem BadInt {K : PySem.W.Frag} {H : Hp} {n : Nat} {i : Int} (h : i < 0 ∨ (n : Int) ≤ i) : BadSt K H n (.int i) := fun _ _ => .inl ⟨i, rfl, h⟩
theorem MA.keep {H0 H H' : Hp} {m : Addr} {b : Nat} (h : MA H0 H m b) (e : Same H H') : MA H0 H' m b := by
  obtain ⟨c, l, cs, ls, k, hx⟩ := h.mx
  exact (hx.ext e).ma
theorem BadSt.same {K : PySem.W.Frag} {H H' : Hp} {n : Nat} {x : V} (h : BadSt K H n x) (e : Same H H') : BadSt K H' n x := fun H'' e2 => h H'' (e.trans e2)
theorem getD_oV (o : Option Int) : (o.map V.int).getD .non = oV o := by cases o <;> rfl
theorem z0 (i : Nat) : V.int (0 + (i : Nat)) = V.int (i : Nat) := by rw [Int.zero_add]
def odds (n : Nat) (o : Addr) : List V := [.int (-1), .int (n : Nat), .non, .bl true, .str "0", .ref o]
theorem odds_bad {K : PySem.W.Frag} {H : Hp} {n k : Nat} {o : Addr} {x : V} (ho : H o = some (.tup [.int 0])) (hx : (odds n o)[k]? = some x) : BadSt K H n x := by
  match k, hx with
  | 0, hx => rw [← Option.some.inj hx]; exact BadInt (.inl (by decide))
  | 1, hx => rw [← Option.some.inj hx]; exact BadInt (.inr (Int.le_refl _))
  | 2, hx => rw [← Option.some.inj hx]; exact fun H' _ => .inr (.inr ⟨_, .base .non, k_ni⟩)
  | 3, hx => rw [← Option.some.inj hx]; exact fun H' _ => .inr (.inl ⟨true, rfl⟩)
  | 4, hx => rw [← Option.some.inj hx]; exact fun H' _ => .inr (.inr ⟨_, .base (.str _), k_si⟩)
  | 5, hx => rw [← Option.some.inj hx]; exact fun H' sm => .inr (.inr ⟨_, .base (.tup (sm _ _ ho)), k_ti⟩)
  | k + 6, hx => simp [odds] at hx
section
variable {P : Program} {w : World} {K : PySem.W.Frag} {mg : Str → Option Value} {base : Heap}
def spLaw (K : PySem.W.Frag) : Sp := fun vs H Q _ => ∃ (a : Addr) (ns : List Int), vs = [.ref a] ∧ SqL K H a (ns.map V.int) ∧ ns.length ≤ 63 ∧ ∀ H', Q (.bl true) H'
abbrev nmLaw : List Str := ["_law_script", "_law_m", "_law_turn", "_law_tape_here", "_law_due", "_law_size", "_law_first", "_law_last", "_law_odd", "_law_other", "_law_rows", "_law_work_here", "_law_k"]
theorem scLaw : FnScope nmLaw ["_law_script"] (defScope (topS 36)) := ⟨rfl, rfl, rfl, by decide +kernel, rfl, by decide +kernel, by decide +kernel⟩
theorem ok_law {C fI cc cda f : Addr} {fd : FuncData} (F : FnD K "law" 36 f fd) (G : Glb mg) (CB : Cal P w K mg base CX0 1 "_law_begun" ["_law_script"] (spBegun K)) (CN : CalNext P w K mg base)
    (CS : Cal P w K mg base CX0 3 "_law_straight" ["_law_m", "_law_most"] spStrD) (CT : Cal P w K mg base CX0 3 "_law_tape" ["_law_m", "_law_most"] spTapeD) (CM : Cal P w K mg base CX0 5 "moved" ["tape", "moves"] spMoved) (CLs : Cal P w K mg base CX0 2 "_law_leads" ["_law_tape_here"] spLeads)
    (CL : Cal P w K mg base (L2.CX P w) 6 "lead" ["tape", "first", "last"] (spLead K C)) (CR : Cal P w K mg base CX0 7 "_law_is_refused" ["_law_tape_here", "_law_first", "_law_last"] (spRefused K)) (CD : Cal P w K mg base CX0 2 "_law_goes_down" ["_law_tape_here"] spDown) :
    FnOk P w K mg base CX0 8 f fd ["_law_script"] (spLaw K) := by
  refine F.ok scLaw (fun vs H Q E h => ?_) (fun cdv A outer s H vs Q E hr h => ?_)
  · obtain ⟨a, ns, rfl, _⟩ := h
    rfl
  · obtain ⟨sa, ns, rfl, hs, hns, q⟩ := h
    have hr1 : Room 1 _ := hr.mono (by decide)
    have hr2 : Room 2 _ := hr.mono (by decide)
    have hr3 : Room 3 _ := hr.mono (by decide)
    have hr5 : Room 5 _ := hr.mono (by decide)
    have hr6 : Room 6 _ := hr.mono (by decide)
    have hu := hu_of hr
    refine ⟨_, pss_cons (ps_set (i := 1) scLaw.nd rfl (.inr rfl) (pe_cal CB hr1 (by rfl) (E := E0) pass0 (pa_cons (pv 0) pa_nil)))
      (pss_cons (ps_for PassesOwn.never rfl (pi_range1 (by rfl) G.range (pa_cons (pe_op op_add pe_int (pe_callB (call_min2 rfl) (by rfl) G.min b_min (pa_cons (pe_callB call_len (by rfl) G.len PySem.boot_len (pa_cons (pv 0) pa_nil)) (pa_cons pe_int pa_nil)))) pa_nil)) (pg_name (i := 2) scLaw.nd rfl (.inl rfl))
        (pss_cons (ps_set (i := 3) scLaw.nd rfl (.inl rfl) (pe_cal CS hr3 (by rfl) (E := E0) pass0 (pa_cons (pv 1) (pa_cons pe_int pa_nil))))
        (pss_cons (ps_set (i := 3) scLaw.nd rfl (.inl rfl) (pe_cal CM hr5 (by rfl) (E := E0) pass0 (pa_cons (pv 3) (pa_cons (pe_callTy call_tuple_of (by rfl) G.tuple b_tuple (pa_cons
            (pe_lc (own := [("_law_work_here", 11)]) (g := gName 11) (tt := tYes) rfl scLaw.nd (pi_tup (pe_ix ix_tup (pv 3) pe_int (fun _ _ => rfl))) (blkOk_by (N := nmLaw) (sc := defScope (topS 36)) (by decide +kernel)) (fun _ _ _ _ _ => pg_name (i := 11) scLaw.nd rfl (Or.inl rfl)) (fun _ _ _ _ _ => pts_nil)
              (fun _ _ _ _ _ => pe_op op_sub (pe_cal CN hr1 (by rfl) (E := E0) pass0 (pa_cons (pv 1) (pa_cons pe_int pa_nil))) pe_int)) pa_nil)) pa_nil))))
        (pss_cons (ps_asg (pe_tup (pa_cons (pe_cal CLs hr2 (by rfl) (E := E0) pass0 (pa_cons (pv 3) pa_nil)) (pa_cons (pe_callB call_len (by rfl) G.len PySem.boot_len (pa_cons (pe_ix ix_tup (pv 3) pe_int (fun _ _ => rfl)) pa_nil)) pa_nil))) (pg_tup (by rfl) (pgs_cons (pg_name (i := 4) scLaw.nd rfl (.inl rfl)) (pgs_cons (pg_name (i := 5) scLaw.nd rfl (.inr rfl)) pgs_nil))))
        (pss_cons (ps_for PassesOwn.never rfl (pi_range1 (by rfl) G.range (pa_cons (pv 5) pa_nil)) (pg_name (i := 6) scLaw.nd rfl (.inl rfl))
          (pss_one (ps_for PassesOwn.never rfl (pi_range1 (by rfl) G.range (pa_cons (pv 5) pa_nil)) (pg_name (i := 7) scLaw.nd rfl (.inl rfl))
            (pss_one (ps_if (pt_cmpR op_ne (pe_callB call_repr_o (by rfl) G.repr b_repr (pa_cons (pe_cal CL hr6 (by rfl) (E := E0) passL (pa_cons (pv 3) (pa_cons (pv 6) (pa_cons (pv 7) pa_nil)))) pa_nil))
                (pe_callB call_repr_o (by rfl) G.repr b_repr (pa_cons (pe_dget1 hu (pv 4) (pe_tup (pa_cons (pv 6) (pa_cons (pv 7) pa_nil))) ⟨by rfl, by rfl, by rfl, by rfl⟩) pa_nil)) (by rfl))
              (pss_one (ps_ret pe_bl)) pss_nil)))))
        (pss_cons (ps_for PassesOwn.never rfl (pi_list (pe_lst (pa_cons (pe_un un_neg pe_int) (pa_cons (pv 5) (pa_cons pe_non (pa_cons pe_bl (pa_cons pe_str (pa_cons (pe_tup (pa_cons pe_int pa_nil)) pa_nil)))))))) (pg_name (i := 8) scLaw.nd rfl (.inl rfl))
          (pss_one (ps_if (PW.pt (pw_or (pt_not (pt_val (pe_cal CR hr (by rfl) (E := E0) pass0 (pa_cons (pv 3) (pa_cons (pv 8) (pa_cons pe_int pa_nil)))))) (pw_or1 (pt_not (pt_val (pe_cal CR hr (by rfl) (E := E0) pass0 (pa_cons (pv 3) (pa_cons pe_int (pa_cons (pv 8) pa_nil)))))))))
            (pss_one (ps_ret pe_bl)) pss_nil)))
        (pss_cons (ps_set (i := 9) scLaw.nd rfl (.inl rfl) (pe_cal CT hr3 (by rfl) (E := E0) pass0 (pa_cons (pv 1) (pa_cons pe_int pa_nil))))
        (pss_one (ps_if (pt_cmpR op_ne (pe_cal CR hr (by rfl) (E := E0) pass0 (pa_cons (pv 9) (pa_cons pe_int (pa_cons pe_int pa_nil)))) (pe_not (pe_cal CD hr2 (by rfl) (E := E0) pass0 (pa_cons (pv 9) pa_nil))) (by rfl))
          (pss_one (ps_ret pe_bl)) pss_nil)))))))))
      (pss_cons (ps_for PassesOwn.never rfl (pi_tup (pe_tup (pa_cons (pe_op op_add pe_int (pe_cal CN hr1 (by rfl) (E := E0) pass0 (pa_cons (pv 1) (pa_cons pe_int pa_nil)))) (pa_cons pe_int pa_nil)))) (pg_name (i := 5) scLaw.nd rfl (.inr rfl))
        (pss_cons (ps_setLc (i := 10) (own := [("_law_k", 12)]) (g := gName 12) (tt := tYes) rfl scLaw.nd rfl rfl (sw_true rfl rfl rfl (by decide +kernel)) (pi_range1 (by rfl) G.range (pa_cons (pv 5) pa_nil))
            (blkOk_by (N := nmLaw) (sc := defScope (topS 36)) (by decide +kernel)) (fun _ _ _ _ _ => pg_name (i := 12) scLaw.nd rfl (Or.inl rfl)) (fun _ _ _ _ _ => pts_nil)
            (fun _ _ _ _ _ => pe_tup (pa_cons (pe_tup (pa_cons (pe_op op_mod (pe_callTy call_int1 (by rfl) G.int b_int (pa_cons (pe_op op_sub (pe_op op_add (pv 12) (pv 5)) pe_int) pa_nil)) (pv 5)) (pa_cons pe_str (pa_cons (pe_ifExp (pt_cmpR op_eq (pv 12) pe_int (nomark _)) pe_int pe_int) pa_nil))))
              (pa_cons (pe_tup (pa_cons (pv 12) (pa_cons pe_str (pa_cons pe_int pa_nil)))) pa_nil))))
        (pss_cons (ps_set (i := 3) scLaw.nd rfl (.inl rfl) (pe_tup (pa_cons (pe_op op_repT (pe_tup (pa_cons pe_str pa_nil)) (pv 5)) (pa_cons (pe_callTy call_tuple_of (by rfl) G.tuple b_tuple (pa_cons (pv 10) pa_nil)) pa_nil))))
        (pss_one (ps_for PassesOwn.never rfl (pi_range1 (by rfl) G.range (pa_cons (pv 5) pa_nil)) (pg_name (i := 6) scLaw.nd rfl (.inl rfl))
          (pss_cons (ps_set (i := 7) scLaw.nd rfl (.inl rfl) (pe_cal CN hr1 (by rfl) (E := E0) pass0 (pa_cons (pv 1) (pa_cons (pv 5) pa_nil))))
          (pss_one (ps_if (pt_cmpR op_ne (pe_cal CL hr6 (by rfl) (E := E0) passL (pa_cons (pv 3) (pa_cons (pv 6) (pa_cons (pv 7) pa_nil)))) (pe_ifExp (pt_cmpR op_gt (pv 6) (pv 7) (nomark _)) pe_int pe_int) (by rfl))
            (pss_one (ps_ret pe_bl)) pss_nil))))))))
      (pss_one (ps_ret pe_bl)))), ?_⟩
    have one : (1 : Nat) ≤ sizeLine := by decide
    have two : (2 : Nat) ≤ sizeLine := by decide
    have three : (3 : Nat) ≤ sizeLine := by decide
    have six : (6 : Nat) ≤ sizeLine := by decide
    refine ⟨_, rfl, sa, ns, rfl, hs, hns, fun H1 m sm1 h1 => ?_⟩
    refine ⟨_, rfl, _, ns.length, rfl, .inl ⟨_, sql_same hs sm1, by rw [List.length_map]⟩, (ns.length : Nat), 3, rfl, 2, _, rfl, rfl, ?_⟩
    obtain ⟨tn, htn, ht5⟩ : ∃ tn : Nat, (fun i j => V.int (i + j)) (2 : Int) (if (3 : Int) < (ns.length : Nat) then 3 else (ns.length : Nat)) = V.int (tn : Nat) ∧ tn ≤ 5 := by
      refine ⟨2 + (if 3 < ns.length then 3 else ns.length), ?_, ?_⟩
      · show V.int _ = V.int _
        congr 1
        by_cases e : 3 < ns.length
        · rw [if_pos e, if_pos (by omega)]; rfl
        · rw [if_neg e, if_neg (by omega)]; omega
      · split <;> omega
    refine ⟨(tn : Nat), by rw [← htn], by omega, by omega, for_it walk_range (fun t σ H' => ∃ y2 y3 y4 y5 y6 y7 y8 y9 F, σ = [some (.ref sa), some (.ref m), y2, y3, y4, y5, y6, y7, y8, y9, none, none, none] ∧ MA F H' m (200 * t))
      ⟨_, _, _, _, _, _, _, _, _, rfl, h1⟩ (fun _ _ _ _ _ => trivial) ?_ ?_⟩
    · rintro t x σ1 H2 H3 ht ⟨y2, y3, y4, y5, y6, y7, y8, y9, F, rfl, h3⟩ ⟨rfl, rfl⟩
      have ht5' : t < 5 := by omega
      refine ⟨_, rfl, m, 6, 200 * t, F, rfl, h3, by decide, by decide, by omega, fun F4 H4 v T h4 s4 hT g hn hstr => ?_⟩
      obtain ⟨av, wk, c, ws, ev, hav, hwk', hlen, hc, hw⟩ := id hT
      have ev := V.ref.inj ev
      subst ev
      refine ⟨_, rfl, _, rfl, v, _, _, _, rfl, rfl, SqT.of (h4.same _ _ hav), atI_nat (j := 0) rfl, wk, rfl, ⟨_, SqT.of (h4.same _ _ hwk')⟩, fun N hN => lc_walk (walk_tup (K := K) (a := wk) (xs := T.works.map V.str)) [some (.ref sa), some (.ref m), some (.int (0 + (t : Nat))), some (.ref v), y4, y5, y6, y7, y8, y9, none, none, none] (by rfl)
        (fun j H' => ∃ F mvs, MA F H' m (200 * t + 60 + j) ∧ Same F4 F ∧ F N = some (.lst (mvs.map V.int)) ∧ mvs.length = j ∧ ∀ x ∈ mvs, -2 ≤ x ∧ x ≤ 2)
        ⟨upd F4 N (.lst []), [], h4.new hN, same_new (h4.same.free hN), upd_same, rfl, fun x hx => by cases hx⟩ (fun _ _ _ z => by
          obtain ⟨_, _, h, e, _⟩ := z
          exact SqT.of (h.same _ _ (e _ _ hwk'))) ?_ ?_⟩
      · rintro j x H5 H6 hj ⟨F, mvs, h6, s6, fN, rfl, hm⟩ ⟨rfl, hx⟩
        have hj6 : mvs.length < 6 := by
          rw [List.length_map, hlen] at hj
          omega
        refine ⟨rfl, _, rfl, m, 5, _, F, rfl, h6, by decide, by decide, by omega, fun H7 i hi h7 => ⟨(i : Nat), 2, rfl, rfl, mvs.map V.int, h7.same _ _ fN, lt_line (by rw [List.length_map]; omega), ?_⟩⟩
        refine ⟨_, mvs ++ [((i : Nat) : Int) - 2], (h7.mut fN).mono (by omega), same_mut s6 (h4.same.free hN), by rw [List.map_append]; exact upd_same, by simp, fun y hy => ?_⟩
        rcases List.mem_append.mp hy with z | z
        · exact hm y z
        · rw [List.mem_singleton.mp z]; omega
      · rintro H5 ⟨F, mvs, h5, s5, fN, hml, hm⟩
        rw [List.length_map, hlen] at hml h5
        refine ⟨N, _, rfl, .inl ⟨SqL.of (h5.same _ _ fN), fun p hp => ?_⟩⟩
        have hT5 : TapeR H5 (.ref v) T := (hT.same s5).same h5.same
        refine ⟨_, p, T, mvs, rfl, hT5.same (same_new hp), g, upd_same, hml, fun H6 v6 sm6 hT6 => ?_⟩
        have h6 := (h5.keep (same_new hp)).keep sm6
        have g6 := mvd_good (mvs := mvs) g
        have wk6 := mvd_wk (mvs := mvs) g hstr
        have bd6 : ∀ (a b : Nat) (i : Int), leadF (mvd T mvs).n (mvd T mvs).to (mvd T mvs).dn a b = some i → i.natAbs.log2 < 1920 := fun a b i h => mvd_lead hstr hm hn h
        have hn6 : (mvd T mvs).n = T.n := rfl
        refine ⟨_, rfl, _, mvd T mvs, rfl, hT6, g6.n24, g6.inn, fun H7 d cc sm7 hL7 => ?_⟩
        obtain ⟨a6, wk7, c7, ws7, rfl, hav7, hwk7, hlen7, hc7, hw7⟩ := hT6.same sm7
        refine ⟨_, rfl, a6, _, _, _, rfl, rfl, SqT.of hav7, atI_nat (j := 0) rfl, _, T.n, rfl, .inr ⟨_, SqT.of hwk7, by rw [List.length_map, hlen7]; rfl⟩, two, fun u hu8 => ⟨u, _, rfl, SqT.of upd_same, rfl, _, _, rfl, _, _, rfl, rfl, ?_⟩⟩
        have h8 := (h6.keep sm7).keep (same_new (o := .tup [.ref d, .int (T.n : Nat)]) hu8)
        have hT8 := (hT6.same sm7).same (same_new (o := .tup [.ref d, .int (T.n : Nat)]) hu8)
        have hL8 := hL7.same (same_new (o := .tup [.ref d, .int (T.n : Nat)]) hu8)
        generalize hT' : mvd T mvs = T' at *
        have n1 : 1 ≤ T'.n := g6.n1
        have qlen : ∀ {i : Nat}, i < ((T.n : Nat) : Int).toNat → i < T'.n := fun h => by omega
        refine ⟨_, rfl, (T.n : Nat), rfl, by omega, by omega, for_it walk_range (fun i σ H' => ∃ y6 y7, σ = [some (.ref sa), some (.ref m), some (.int (0 + (t : Nat))), some (.ref a6), some (.ref d), some (.int (T.n : Nat)), y6, y7, y8, y9, none, none, none] ∧ Same (upd H7 u (.tup [.ref d, .int (T.n : Nat)])) H')
          ⟨_, _, rfl, Same.refl _⟩ (fun _ _ _ _ _ => trivial) ?_ ?_⟩
        · rintro i x σ2 H9 H10 hi ⟨y6, y7, rfl, sm9⟩ ⟨rfl, rfl⟩
          refine ⟨_, rfl, (T.n : Nat), rfl, by omega, by omega, for_it walk_range (fun j σ H' => ∃ y7, σ = [some (.ref sa), some (.ref m), some (.int (0 + (t : Nat))), some (.ref a6), some (.ref d), some (.int (T.n : Nat)), some (.int (0 + (i : Nat))), y7, y8, y9, none, none, none] ∧ Same (upd H7 u (.tup [.ref d, .int (T.n : Nat)])) H')
            ⟨_, rfl, sm9⟩ (fun _ _ _ _ _ => trivial) ?_ ?_⟩
          · rintro j x σ3 H11 H12 hj ⟨y7, rfl, sm11⟩ ⟨rfl, rfl⟩
            refine ⟨_, rfl, _, rfl, _, rfl, _, _, _, T', rfl, hT8.same sm11, g6, fun hnw => absurd wk6 hnw, fun _ => .inl ⟨i, j, z0 i, qlen hi, z0 j, qlen hj, fun H13 sm13 => ?_⟩⟩
            refine ⟨leadF T'.n T'.to T'.dn i j, rfl, bd6 i j, _, rfl, d, rfl, (hL8.same (sm11.trans sm13)).isD, _, rfl, _, rfl, two, fun k hk => ?_⟩
            refine ⟨_, ((hL8.same (sm11.trans sm13)).same (same_new hk)).get (qlen hi) (qlen hj) (by rw [upd_same]; exact congrArg some (congrArg HO.tup (by rw [z0 i, show (fun i : Nat => V.int (0 + (i : Nat))) j = V.int (j : Nat) from z0 j]))), leadF T'.n T'.to T'.dn i j, by rw [getD_oV], bd6 i j, rfl, false, by rw [decide_eq_true rfl]; rfl, iteF ⟨_, rfl, (sm11.trans sm13).trans (same_new hk)⟩⟩
          · rintro σ3 H11 ⟨y7, rfl, sm11⟩
            exact ⟨_, _, rfl, sm11⟩
        · rintro σ2 H9 ⟨y6, y7, rfl, sm9⟩
          refine ⟨1, rfl, _, rfl, one, fun o ho => ⟨six, fun L hL => ⟨L, rfl, ⟨_, SqL.of upd_same⟩, for_it (walk_list (K := K) (a := L) (xs := odds T.n o)) (fun k σ H' => ∃ y8, σ = [some (.ref sa), some (.ref m), some (.int (0 + (t : Nat))), some (.ref a6), some (.ref d), some (.int (T.n : Nat)), y6, y7, y8, y9, none, none, none] ∧ Same (upd H7 u (.tup [.ref d, .int (T.n : Nat)])) H' ∧ H' L = some (.lst (odds T.n o)) ∧ H' o = some (.tup [.int 0]))
            ⟨_, rfl, (sm9.trans (same_new ho)).trans (same_new hL), upd_same, (same_new hL) _ _ upd_same⟩ (fun _ _ _ _ z => by
              obtain ⟨_, _, _, z, _⟩ := z
              exact SqL.of z) ?_ ?_⟩⟩⟩
          · rintro k x σ3 H10 H11 hk ⟨y8, rfl, sm10, eL, eo⟩ ⟨rfl, hx⟩
            have bad := odds_bad (K := K) eo hx
            rw [← hn6] at bad
            refine ⟨_, rfl, _, rfl, _, x, .int (0 : Nat), T', rfl, hT8.same sm10, g6, .inr ⟨wk6, .inr (.inl ⟨bad, fun H12 sm12 => ⟨true, rfl, iteF ?_⟩⟩)⟩⟩
            refine ⟨_, rfl, _, rfl, _, .int (0 : Nat), x, T', rfl, (hT8.same sm10).same sm12, g6, .inr ⟨wk6, .inr (.inr ⟨0, rfl, n1, bad.same sm12, fun H13 sm13 => ⟨true, rfl, iteF ?_⟩⟩)⟩⟩
            exact ⟨_, rfl, (sm10.trans sm12).trans sm13, sm13 _ _ (sm12 _ _ eL), sm13 _ _ (sm12 _ _ eo)⟩
          · rintro σ3 H10 ⟨y8, rfl, sm10, eL, eo⟩
            refine ⟨_, rfl, m, 4, _, F, rfl, h8.keep sm10, by decide, by decide, by omega, fun F9 H9 v9 T9 h9 s9 hT9 g9 hn9 => ?_⟩
            have n9 : 0 < T9.n := g9.n1
            refine ⟨_, rfl, _, .int (0 : Nat), .int (0 : Nat), T9, rfl, hT9.same h9.same, g9, ?_⟩
            by_cases hw9 : T9.Wk
            · refine .inr ⟨hw9, .inl ⟨0, 0, rfl, n9, rfl, n9, fun H12 sm12 => ⟨_, rfl, _, T9, rfl, (hT9.same h9.same).same sm12, hn9, g9.inn, fun _ H13 sm13 => ?_, fun z => absurd hw9 z⟩⟩⟩
              exact ⟨true, rfl, rfl, false, rfl, iteF ⟨_, _, _, _, _, _, _, _, F9, rfl, ((h9.keep sm12).keep sm13).mono (by omega)⟩⟩
            · refine .inl ⟨hw9, fun H12 sm12 => ⟨_, rfl, _, T9, rfl, (hT9.same h9.same).same sm12, hn9, g9.inn, fun z => absurd z hw9, fun _ H13 sm13 => ?_⟩⟩
              exact ⟨false, rfl, rfl, false, rfl, iteF ⟨_, _, _, _, _, _, _, _, F9, rfl, ((h9.keep sm12).keep sm13).mono (by omega)⟩⟩
    · rintro σ1 H2 ⟨y2, y3, y4, y5, y6, y7, y8, y9, F, rfl, h2⟩
      rw [show ((tn : Nat) : Int).toNat = tn by omega] at h2
      refine ⟨_, rfl, m, 18, 200 * tn, F, rfl, h2, by decide, by decide, by omega, fun H3 i0 hi0 h3 => ⟨7, (i0 : Nat), rfl, rfl, two, fun u hu3 => ⟨u, rfl, ⟨_, SqT.of upd_same⟩, for_it (walk_tup (K := K) (a := u) (xs := [.int (7 + (i0 : Nat)), .int 24])) (fun k σ H' => ∃ y3 y5 y6 y7 y10 F, σ = [some (.ref sa), some (.ref m), y2, y3, y4, y5, y6, y7, y8, y9, y10, none, none] ∧ MA F H' m (1100 + 100 * k) ∧ F u = some (.tup [.int (7 + (i0 : Nat)), .int 24]))
        ⟨_, _, _, _, _, upd F u (.tup [.int (7 + (i0 : Nat)), .int 24]), rfl, (h3.new hu3).mono (by omega), upd_same⟩ (fun _ _ _ _ z => by
          obtain ⟨_, _, _, _, _, _, _, h, z⟩ := z
          exact SqT.of (h.same _ _ z)) ?_ ?_⟩⟩⟩
      · rintro k x σ2 H4 H5 hk ⟨y3, y5, y6, y7, y10, F, rfl, h4, fu⟩ ⟨rfl, hx⟩
        obtain ⟨n, ex, hn7, hn24⟩ : ∃ n : Nat, x = .int (n : Nat) ∧ 7 ≤ n ∧ n ≤ 24 := by
          match k, hx with
          | 0, hx => exact ⟨7 + i0, by rw [← Option.some.inj hx]; congr 1, by omega, by omega⟩
          | 1, hx => exact ⟨24, (Option.some.inj hx).symm, by omega, by omega⟩
          | k + 2, hx => simp at hx
        subst ex
        have hk2 : k < 2 := hk
        refine ⟨_, rfl, (n : Nat), rfl, by omega, by omega, fun R hR => lc_walk walk_range [some (.ref sa), some (.ref m), y2, y3, y4, some (.int (n : Nat)), y6, y7, y8, y9, y10, none, none] (by rfl) (fun j H' => Same H5 H' ∧ ∃ ps, H' R = some (.lst ps) ∧ PairsN H' ps (rowT n) j) ⟨same_new hR, [], upd_same, rfl, fun i hi => absurd hi (Nat.not_lt_zero _)⟩ (fun _ _ _ _ => trivial) ?_ ?_⟩
        · rintro j x H6 H7 hj ⟨sm6, ps, eR, hps⟩ ⟨rfl, rfl⟩
          have hjn : j < n := by
            have : j < ((n : Nat) : Int).toNat := hj
            omega
          refine ⟨rfl, _, rfl, _, rfl, (0 + (j : Nat)), (n : Nat), rfl, rfl, _, 1, rfl, rfl, .inl ⟨_, rfl, _, rfl, _, (n : Nat), rfl, rfl, by show (0 : Int) < (n : Nat); omega, _, rfl, rfl, _, rfl, ?_⟩⟩
          have em : ((0 : Int) + (j : Nat) + (n : Nat) - 1) % (n : Nat) = (rTo n j false : Nat) := by
            show _ = (((j + n - 1) % n : Nat) : Int)
            rw [show (0 : Int) + (j : Nat) + (n : Nat) - 1 = ((j + n - 1 : Nat) : Int) by omega]
            rfl
          have tail : ∀ (z : Int) (zd : z = rDn j false) (u1 u2 p : Addr), H7 u1 = none → upd H7 u1 (.tup [.int ((0 + (j : Nat) + (n : Nat) - 1) % (n : Nat)), .str "l", .int z]) u2 = none → upd (upd H7 u1 (.tup [.int ((0 + (j : Nat) + (n : Nat) - 1) % (n : Nat)), .str "l", .int z])) u2 (.tup [.int (0 + (j : Nat)), .str "r", .int 1]) p = none →
              ∃ ps, (upd (upd (upd H7 u1 (.tup [.int ((0 + (j : Nat) + (n : Nat) - 1) % (n : Nat)), .str "l", .int z])) u2 (.tup [.int (0 + (j : Nat)), .str "r", .int 1])) p (.tup [.ref u1, .ref u2])) R = some (.lst ps) ∧ ps.length < sizeLine ∧ Same H5 (upd (upd (upd (upd H7 u1 (.tup [.int ((0 + (j : Nat) + (n : Nat) - 1) % (n : Nat)), .str "l", .int z])) u2 (.tup [.int (0 + (j : Nat)), .str "r", .int 1])) p (.tup [.ref u1, .ref u2])) R (.lst (ps ++ [.ref p]))) ∧ ∃ ps', (upd (upd (upd (upd H7 u1 (.tup [.int ((0 + (j : Nat) + (n : Nat) - 1) % (n : Nat)), .str "l", .int z])) u2 (.tup [.int (0 + (j : Nat)), .str "r", .int 1])) p (.tup [.ref u1, .ref u2])) R (.lst (ps ++ [.ref p]))) R = some (.lst ps') ∧ PairsN (upd (upd (upd (upd H7 u1 (.tup [.int ((0 + (j : Nat) + (n : Nat) - 1) % (n : Nat)), .str "l", .int z])) u2 (.tup [.int (0 + (j : Nat)), .str "r", .int 1])) p (.tup [.ref u1, .ref u2])) R (.lst (ps ++ [.ref p]))) ps' (rowT n) (j + 1) := by
            intro z zd u1 u2 p g1 g2 g3
            subst zd
            rw [em, Int.zero_add] at *
            have s1 := same_new (o := .tup [.int (rTo n j false : Nat), .str "l", .int (rDn j false)]) g1
            have s2 := same_new (o := .tup [.int (j : Nat), .str "r", .int 1]) g2
            have s3 := same_new (o := .tup [.ref u1, .ref u2]) g3
            have S := s1.trans (s2.trans s3)
            have ts := (TupS.of S).lst (o := .lst (ps ++ [.ref p])) (S _ _ eR)
            have t3 : TupS _ _ := (TupS.refl _).lst (o := .lst (ps ++ [.ref p])) (S _ _ eR)
            refine ⟨ps, S _ _ eR, lt_line (by rw [hps.1]; omega), same_mut (sm6.trans S) hR, ps ++ [.ref p], upd_same, (hps.ts ts).snoc ⟨u1, u2, t3 _ _ upd_same, t3 _ _ ((s2.trans s3) _ _ upd_same), t3 _ _ (s3 _ _ upd_same)⟩⟩
          refine ite2 (fun e => ?_) (fun e => ?_)
          · have ej : j = 0 := by
              have := V.int.inj (of_decide_eq_true e)
              omega
            refine ⟨three, fun u1 g1 => ⟨_, rfl, three, fun u2 g2 => ⟨two, fun p g3 => ?_⟩⟩⟩
            exact tail 1 (by rw [ej]; rfl) u1 u2 p g1 g2 g3
          · have ej : ¬ j = 0 := fun z => e (decide_eq_true (by rw [z]; rfl))
            refine ⟨three, fun u1 g1 => ⟨_, rfl, three, fun u2 g2 => ⟨two, fun p g3 => ?_⟩⟩⟩
            exact tail 0 (by show (0 : Int) = if j = 0 then 1 else 0; rw [if_neg ej]) u1 u2 p g1 g2 g3
        · rintro H6 ⟨sm6, ps, eR, hps⟩
          rw [show ((n : Nat) : Int).toNat = n by omega] at hps
          refine ⟨one, fun zc hzc => ⟨_, rfl, zc, (n : Nat), _, rfl, rfl, SqT.of upd_same, by simp, by omega, by omega, by show 1 ≤ 1000; omega, fun wkA hwkA => ?_⟩⟩
          refine ⟨_, rfl, R, _, rfl, .inl ⟨SqL.of ((same_new hwkA) _ _ ((same_new hzc) _ _ eR)), fun c hc => ⟨two, fun v hv => ?_⟩⟩⟩
          have hrep : (List.replicate ((n : Nat) : Int).toNat [V.str "C"]).flatten = (rowT n).works.map V.str := by
            show _ = (List.replicate n ("C" : Str)).map V.str
            rw [show ((n : Nat) : Int).toNat = n by omega, List.map_replicate, List.flatten_replicate_singleton]
          have s1 := same_new (o := .tup [V.str "C"]) hzc
          have s2 := same_new (o := .tup (List.replicate ((n : Nat) : Int).toNat [V.str "C"]).flatten) hwkA
          have s3 := same_new (o := .tup ps) hc
          have s4 := same_new (o := .tup [.ref wkA, .ref c]) hv
          have S := s1.trans (s2.trans (s3.trans s4))
          have hpsf : PairsR _ ps (rowT n) := hps.ts (.of S)
          have hTf : TapeR _ (.ref v) (rowT n) := ⟨v, wkA, c, ps, rfl, upd_same, by rw [← hrep]; exact (s3.trans s4) _ _ upd_same, List.length_replicate, s4 _ _ upd_same, hpsf⟩
          obtain ⟨F2, m2, sF2, tF2, _⟩ := h4.ext (sm6.trans S)
          have hT2 : TapeR F2 (.ref v) (rowT n) := hTf.ts fun a xs e => tF2 a _ e (by intro _ z; cases z) (by intro _ z; cases z)
          have fu2 := sF2 _ _ fu
          have gr := rowT_good (n := n) (by omega) hn24
          refine ⟨_, rfl, (n : Nat), rfl, by omega, by omega, for_it walk_range (fun i σ H' => ∃ y6 y7, σ = [some (.ref sa), some (.ref m), y2, some (.ref v), y4, some (.int (n : Nat)), y6, y7, y8, y9, some (.ref R), none, none] ∧ MA F2 H' m (1100 + 100 * k + i))
            ⟨_, _, rfl, m2⟩ (fun _ _ _ _ _ => trivial) ?_ ?_⟩
          · rintro i x σ3 H7 H8 hi ⟨y6, y7, rfl, h7⟩ ⟨rfl, rfl⟩
            have hin : i < n := by
              have : i < ((n : Nat) : Int).toNat := hi
              omega
            refine ⟨_, rfl, _, rfl, m, n, _, F2, rfl, h7, by omega, by omega, by omega, fun H9 l hl h9 => ?_⟩
            refine ⟨_, rfl, _, rfl, _, rfl, _, _, _, rowT n, rfl, hT2.same h9.same, gr, fun hnw => absurd (rowT_wk n) hnw, fun _ => .inl ⟨i, l, z0 i, hin, rfl, hl, fun H10 sm10 => ?_⟩⟩
            have e : oV (leadF (rowT n).n (rowT n).to (rowT n).dn i l) = .int (if i > l then 0 else 1) := by
              show oV (leadF n (rTo n) rDn i l) = _
              rw [row_lead hin hl]
              rfl
            rw [e]
            refine ⟨_, rfl, _, rfl, _, _, rfl, rfl, _, rfl, ite2 (fun gt => ?_) (fun ng => ?_)⟩
            · have gt : i > l := by
                have := of_decide_eq_true gt
                omega
              exact ⟨rfl, false, by rw [if_pos gt]; rfl, iteF ⟨_, _, rfl, (h9.keep sm10).mono (by omega)⟩⟩
            · have ng : ¬ i > l := fun z => ng (decide_eq_true (by omega))
              exact ⟨rfl, false, by rw [if_neg ng]; rfl, iteF ⟨_, _, rfl, (h9.keep sm10).mono (by omega)⟩⟩
          · rintro σ3 H7 ⟨y6, y7, rfl, h7⟩
            exact ⟨_, _, _, _, _, F2, rfl, h7.mono (by omega), fu2⟩
      · rintro σ2 H4 ⟨y3, y5, y6, y7, y10, F, rfl, h4, fu⟩
        exact q _
end
end LH

namespace LH
open PySem PySem.Spec PyProof.Rows L2 LHM LHR
/-! ### what the top has written -/
def DefR (K : PySem.W.Frag) (x : Str) (i : Nat) (f : Addr) : Prop := PySem.W.nsIn K mainGlobals x = some (some (.ref f)) ∧ ∃ fd, FnD K x i f fd
theorem mkD {K : PySem.W.Frag} {x : Str} {i : Nat} {f : Addr} {oc : Value} {od an : Option Addr} {osl : Array (Option Value)} {kV doc pm cdv ct : Value} (a : PySem.W.nsIn K mainGlobals x = some (some (.ref f)))
    (l : K.lookup f = some ⟨oc, od, .func (PySem.W.fnOf x x (defArgs (topS i)) (defBody (topS i)) (defScope (topS i)) .none kV doc pm an cdv ct), osl⟩) (c : PySem.W.codeIn K cdv x = true) (k : PySem.W.keepIn K (.ref f) = true) : DefR K x i f :=
  ⟨a, _, fun_mk l c k⟩
theorem FnD.lenOf {K : PySem.W.Frag} {x : Str} {i : Nat} {f : Addr} {fd : FuncData} (F : FnD K x i f fd) : ∃ (kV doc pm : Value) (an : Option Addr) (cdv ct : Value), fd = PySem.W.fnOf x x (defArgs (topS i)) (defBody (topS i)) (defScope (topS i)) .none kV doc pm an cdv ct := by
  obtain ⟨oc, od, kV, doc, pm, an, cdv, ct, osl, e, _⟩ := F.ex
  exact ⟨kV, doc, pm, an, cdv, ct, e⟩
/-- an error of the class at S is what «except S» names -/
theorem exm_own {K : PySem.W.Frag} {S : Addr} (h1 : PySem.W.subIn K (.ref S) (.type "BaseException") = some true) (h2 : PySem.W.isClsIn K S = true) (h3 : PySem.W.typeIn K (.ref S) = some (.type "type")) (h4 : PySem.W.subIn K (.ref S) (.ref S) = some true) :
    PySem.W.exmOne K (.ref S) (.ref S) = some true := by
  have e1 : (PySem.W.subIn K (.ref S) (.type "BaseException") == some true) = true := by rw [h1] <;> rfl
  have e2 : ((PySem.W.clsIn K S).isSome && PySem.W.typeIn K (.ref S) == some (.type "type")) = true := by
    have h2' : (PySem.W.clsIn K S).isSome = true := h2
    rw [h2', h3] <;> rfl
  show (if (PySem.W.subIn K (.ref S) (.type "BaseException") == some true) = true then (if ((PySem.W.clsIn K S).isSome && PySem.W.typeIn K (.ref S) == some (.type "type")) = true then PySem.W.subIn K (.ref S) (.ref S) else none) else none) = some true
  rw [if_pos e1, if_pos e2]
  exact h4
theorem al_ve (K : PySem.W.Frag) : PySem.W.alongIn K "__init__" [.type "ValueError", .type "Exception", .type "BaseException", .type "object"] = some (some (.builtin "ValueError.__init__")) := by
  first | rfl | kernel_rfl
theorem mkV {K : PySem.W.Frag} {x : Str} {v : Value} {q : Value → Prop} (a : PySem.W.nsIn K mainGlobals x = some (some v)) (b : q v) : ∃ v, PySem.W.nsIn K mainGlobals x = some (some v) ∧ q v := ⟨v, a, b⟩
theorem mkO {K : PySem.W.Frag} {x : Addr} {v : Obj} {q : Obj → Prop} (a : K.lookup x = some v) (b : q v) : ∃ v, K.lookup x = some v ∧ q v := ⟨v, a, b⟩
structure TopK (P : Program) (K : PySem.W.Frag) (C fI cc cda hA : Addr) : Prop where
  d6 : ∃ f, DefR K "is_whole" 6 f
  d7 : ∃ f, DefR K "is_work" 7 f
  d11 : ∃ f, DefR K "is_tape_way" 11 f
  d12 : ∃ f, DefR K "are_tape_ways" 12 f
  d13 : ∃ f, DefR K "need_sides" 13 f
  d14 : ∃ f, DefR K "need_tape" 14 f
  d15 : ∃ f, DefR K "tape_ways" 15 f
  d16 : ∃ f, DefR K "moved_in" 16 f
  d17 : ∃ f, DefR K "moved" 17 f
  d18 : ∃ f, DefR K "turned_back" 18 f
  d19 : ∃ f, DefR K "falls" 19 f
  d20 : ∃ f, DefR K "circuit_or_times" 20 f
  d21 : ∃ f, DefR K "times_of" 21 f
  d22 : ∃ f, DefR K "need_going" 22 f
  d23 : ∃ f, DefR K "lead" 23 f
  d25 : ∃ f, DefR K "_law_begun" 25 f
  d26 : ∃ f, DefR K "_law_next" 26 f
  d27 : ∃ f, DefR K "_law_work" 27 f
  d28 : ∃ f, DefR K "_law_sides" 28 f
  d29 : ∃ f, DefR K "_law_tape" 29 f
  d30 : ∃ f, DefR K "_law_straight" 30 f
  d31 : ∃ f, DefR K "_law_names" 31 f
  d32 : ∃ f, DefR K "_law_circuits" 32 f
  d33 : ∃ f, DefR K "_law_goes_down" 33 f
  d34 : ∃ f, DefR K "_law_leads" 34 f
  d35 : ∃ f, DefR K "_law_is_refused" 35 f
  d36 : ∃ f, DefR K "law" 36 f
  g_isinstance : PySem.W.nsIn K mainGlobals "isinstance" = some none
  g_int : PySem.W.nsIn K mainGlobals "int" = some none
  g_bool : PySem.W.nsIn K mainGlobals "bool" = some none
  g_str : PySem.W.nsIn K mainGlobals "str" = some none
  g_tuple : PySem.W.nsIn K mainGlobals "tuple" = some none
  g_list : PySem.W.nsIn K mainGlobals "list" = some none
  g_len : PySem.W.nsIn K mainGlobals "len" = some none
  g_all : PySem.W.nsIn K mainGlobals "all" = some none
  g_range : PySem.W.nsIn K mainGlobals "range" = some none
  g_enumerate : PySem.W.nsIn K mainGlobals "enumerate" = some none
  g_zip : PySem.W.nsIn K mainGlobals "zip" = some none
  g_min : PySem.W.nsIn K mainGlobals "min" = some none
  g_repr : PySem.W.nsIn K mainGlobals "repr" = some none
  letters : ∃ v, PySem.W.nsIn K mainGlobals "LETTERS" = some (some v) ∧ ∃ t, v = .str "CLRT" t
  mostL : ∃ v, PySem.W.nsIn K mainGlobals "MOST_LETTERS" = some (some v) ∧ ∃ t, v = .int 12 t
  mostS : ∃ v, PySem.W.nsIn K mainGlobals "MOST_STITCHES" = some (some v) ∧ ∃ t, v = .int 24 t
  hg : PySem.W.nsIn K mainGlobals "HANDS" = some (some (.ref hA))
  hl : ∃ o, K.lookup hA = some o ∧ ∃ od t1 t2 n sl, o = ⟨.type "tuple", od, .seq #[.str "l" t1, .str "r" t2] n, sl⟩
  gC : PySem.W.nsIn K mainGlobals "OutOfPlace" = some (some (.ref C))
  oop : ∀ mg : Str → Option Value, mg "OutOfPlace" = some (.ref C) → mg "super" = none → Oop P K mg C fI cc cda
  sup : PySem.W.nsIn K mainGlobals "super" = some none
theorem mk_oop {P : Program} {K : PySem.W.Frag} {C fI cc cda : Addr} {nm q : Str} {N : Addr} {bs : List Value} {sn : List Str} {sub : List Value} {ab : Bool} {col : Option Bool} {dd : Option Addr} {m0 m1 m2 m3 m5 : Option Value}
    {oc : Value} {od : Option Addr} {kV doc pm : Value} {an : Option Addr} {ct : Value} {osl : Array (Option Value)} {cl : Value} {cld : Option Addr} {csl : Array (Option Value)} {ccl : Value} {cdd : Option Addr} {vs : Array Value} {ccs : Array (Option Value)}
    (xL : K.lookup C = some (excClassObj nm q C N bs [.type "ValueError", .type "Exception", .type "BaseException", .type "object"] true sn sub ab col dd m0 m1 m2 m3 m5 "ValueError.__new__"))
    (iC : PySem.W.findIn K (.ref C) "__init__" = some (some (.ref fI))) (tC : PySem.W.typeIn K (.ref fI) = some (.type "function")) (kC : PySem.W.keepIn K (.ref C) = true) (exC : PySem.W.subIn K (.ref C) (.type "BaseException") = some true) (veC : PySem.W.subIn K (.ref C) (.type "ValueError") = some true)
    (tyC : PySem.W.typeIn K (.ref C) = some (.type "type")) (isC : PySem.W.isClsIn K C = true) (sC : PySem.W.subIn K (.ref C) (.ref C) = some true)
    (fn : K.lookup fI = some ⟨oc, od, .func (PySem.W.fnX "__init__" "OutOfPlace.__init__" (L2.defArgs PySem.OopX.sOI) (L2.defBody PySem.OopX.sOI) (L2.defScope PySem.OopX.sOI) [("__class__", cc)] .none kV doc pm an (.ref cda) ct), osl⟩)
    (cod : PySem.W.codeIn K (.ref cda) "OutOfPlace.__init__" = true) (cell : K.lookup cc = some ⟨cl, cld, .cell (some (.ref C)), csl⟩) (code : K.lookup cda = some ⟨ccl, cdd, .fields vs, ccs⟩)
    (file : ∃ file tf, vs[2]? = some (.str file tf) ∧ ((P.main.file : Str) == file) = true) (any : PySem.W.nsIn K cStatics "thirdparty.any" = some none) (top : (P.main.scope.names.lookup ("super" : Str)).isSome = false) :
    ∀ mg : Str → Option Value, mg "OutOfPlace" = some (.ref C) → mg "super" = none → Oop P K mg C fI cc cda := fun mg gC sup => by
  obtain ⟨file, tf, e1, e2⟩ := file
  exact
    { gC := gC, cls := ⟨_, _, _, _, _, _, _, _, _, _, _, _, _, _, xL⟩, iC := iC, tC := tC, kC := kC, exC := exC, veC := veC, tyC := tyC, te := exm_own exC isC tyC sC, al := al_ve K, fn := ⟨_, _, _, _, _, _, _, _, fn⟩, cod := cod, cell := ⟨_, _, _, cell⟩, code := ⟨_, _, _, _, _, _, code, e1, e2⟩, sup := sup, «any» := any, top := top }
theorem all_ok {P : Program} {w : World} {K : PySem.W.Frag} {h : Heap} {mg : Str → Option Value} {fa C fI cc cda hA : Addr} (X : K.In h) (N : h.Ns mainGlobals mg) (hfa : mg "law" = some (.ref fa)) (t : TopK P K C fI cc cda hA) :
    ∃ fd : FuncData, (∀ (s : Shared) (v : Value), BindsTo s fd ⟨[v], []⟩ [("_law_script", v)]) ∧ ∀ base : Heap, K.In base → base.Ns mainGlobals mg → FnOk P w K mg base CX0 8 fa fd ["_law_script"] (spLaw K) := by
  have O := t.oop mg (PySem.W.mg_of X N t.gC) (PySem.W.mg_none_of X N t.sup)
  have G : Glb mg := {
    isinstance := PySem.W.mg_none_of X N t.g_isinstance
    int := PySem.W.mg_none_of X N t.g_int
    bool := PySem.W.mg_none_of X N t.g_bool
    str := PySem.W.mg_none_of X N t.g_str
    tuple := PySem.W.mg_none_of X N t.g_tuple
    list := PySem.W.mg_none_of X N t.g_list
    len := PySem.W.mg_none_of X N t.g_len
    all := PySem.W.mg_none_of X N t.g_all
    range := PySem.W.mg_none_of X N t.g_range
    enumerate := PySem.W.mg_none_of X N t.g_enumerate
    zip := PySem.W.mg_none_of X N t.g_zip
    min := PySem.W.mg_none_of X N t.g_min
    repr := PySem.W.mg_none_of X N t.g_repr
    letters := let ⟨_, e, v, r⟩ := t.letters; ⟨v, by rw [← r]; exact PySem.W.mg_of X N e⟩
    mostL := let ⟨_, e, v, r⟩ := t.mostL; ⟨v, by rw [← r]; exact PySem.W.mg_of X N e⟩
    mostS := let ⟨_, e, v, r⟩ := t.mostS; ⟨v, by rw [← r]; exact PySem.W.mg_of X N e⟩ }
  have HD : Hands K mg hA := ⟨PySem.W.mg_of X N t.hg, fun H => by
    obtain ⟨o, e, od, t1, t2, n, sl, rfl⟩ := t.hl
    exact .inr ⟨_, _, _, e, rfl, rfl, by show 2 ≤ sizeLine; decide, .cons ⟨_, rfl⟩ (.cons ⟨_, rfl⟩ .nil)⟩⟩
  obtain ⟨f6, a6, fd6, F6⟩ := t.d6
  obtain ⟨f7, a7, fd7, F7⟩ := t.d7
  obtain ⟨f11, a11, fd11, F11⟩ := t.d11
  obtain ⟨f12, a12, fd12, F12⟩ := t.d12
  obtain ⟨f13, a13, fd13, F13⟩ := t.d13
  obtain ⟨f14, a14, fd14, F14⟩ := t.d14
  obtain ⟨f15, a15, fd15, F15⟩ := t.d15
  obtain ⟨f16, a16, fd16, F16⟩ := t.d16
  obtain ⟨f17, a17, fd17, F17⟩ := t.d17
  obtain ⟨f18, a18, fd18, F18⟩ := t.d18
  obtain ⟨f19, a19, fd19, F19⟩ := t.d19
  obtain ⟨f20, a20, fd20, F20⟩ := t.d20
  obtain ⟨f21, a21, fd21, F21⟩ := t.d21
  obtain ⟨f22, a22, fd22, F22⟩ := t.d22
  obtain ⟨f23, a23, fd23, F23⟩ := t.d23
  obtain ⟨f25, a25, fd25, F25⟩ := t.d25
  obtain ⟨f26, a26, fd26, F26⟩ := t.d26
  obtain ⟨f27, a27, fd27, F27⟩ := t.d27
  obtain ⟨f28, a28, fd28, F28⟩ := t.d28
  obtain ⟨f29, a29, fd29, F29⟩ := t.d29
  obtain ⟨f30, a30, fd30, F30⟩ := t.d30
  obtain ⟨f31, a31, fd31, F31⟩ := t.d31
  obtain ⟨f32, a32, fd32, F32⟩ := t.d32
  obtain ⟨f33, a33, fd33, F33⟩ := t.d33
  obtain ⟨f34, a34, fd34, F34⟩ := t.d34
  obtain ⟨f35, a35, fd35, F35⟩ := t.d35
  obtain ⟨f36, a36, fd36, F36⟩ := t.d36
  have e := hfa.symm.trans (PySem.W.mg_of X N a36)
  cases e
  obtain ⟨kV, doc, pm, an, cdv, ct, e⟩ := F36.lenOf
  subst e
  refine ⟨PySem.W.fnOf "law" "law" (defArgs (topS 36)) (defBody (topS 36)) (defScope (topS 36)) .none kV doc pm an cdv ct, fun s v => .of_eq rfl, fun base _ _ => ?_⟩
  have b6 := F6.binds (ps := ["thing", "least", "most"]) fun _ _ _ _ _ _ us hl => match us, hl with | [_, _, _], _ => rfl
  have C6 : Cal P w K mg base CX0 1 "is_whole" ["thing", "least", "most"] (spWhole K) := cal_mk F6 (PySem.W.mg_of X N a6) b6 (ok_whole F6 G)
  have b7 := F7.binds (ps := ["thing"]) fun _ _ _ _ _ _ us hl => match us, hl with | [_], _ => rfl
  have C7 : Cal P w K mg base CX0 1 "is_work" ["thing"] (spWork K) := cal_mk F7 (PySem.W.mg_of X N a7) b7 (ok_work F7 G)
  have b11 := F11.binds (ps := ["thing", "many"]) fun _ _ _ _ _ _ us hl => match us, hl with | [_, _], _ => rfl
  have C11 : Cal P w K mg base CX0 2 "is_tape_way" ["thing", "many"] (spWay K) := cal_mk F11 (PySem.W.mg_of X N a11) b11 (ok_way F11 G HD C6)
  have b12 := F12.binds (ps := ["thing", "many"]) fun _ _ _ _ _ _ us hl => match us, hl with | [_, _], _ => rfl
  have C12 : Cal P w K mg base CX0 3 "are_tape_ways" ["thing", "many"] (spWays K) := cal_mk F12 (PySem.W.mg_of X N a12) b12 (ok_ways F12 G C11)
  have b13 := F13.binds (ps := ["ways"]) fun _ _ _ _ _ _ us hl => match us, hl with | [_], _ => rfl
  have C13 : Cal P w K mg base CX0 1 "need_sides" ["ways"] spSidesN := cal_mk F13 (PySem.W.mg_of X N a13) b13 (ok_needsides F13 G HD)
  have b14 := F14.binds (ps := ["thing"]) fun _ _ _ _ _ _ us hl => match us, hl with | [_], _ => rfl
  have C14 : Cal P w K mg base CX0 4 "need_tape" ["thing"] spTape := cal_mk F14 (PySem.W.mg_of X N a14) b14 (ok_needtape F14 G C7 C12 C13)
  have b15 := F15.binds (ps := ["tape"]) fun _ _ _ _ _ _ us hl => match us, hl with | [_], _ => rfl
  have C15 : Cal P w K mg base CX0 1 "tape_ways" ["tape"] spEdges := cal_mk F15 (PySem.W.mg_of X N a15) b15 (ok_edges F15 G HD)
  have b16 := F16.binds (ps := ["tape", "moves"]) fun _ _ _ _ _ _ us hl => match us, hl with | [_, _], _ => rfl
  have C16 : Cal P w K mg base CX0 1 "moved_in" ["tape", "moves"] spMovedIn := cal_mk F16 (PySem.W.mg_of X N a16) b16 (ok_movedin F16 G)
  have b17 := F17.binds (ps := ["tape", "moves"]) fun _ _ _ _ _ _ us hl => match us, hl with | [_, _], _ => rfl
  have C17 : Cal P w K mg base CX0 5 "moved" ["tape", "moves"] spMoved := cal_mk F17 (PySem.W.mg_of X N a17) b17 (ok_moved F17 G C14 C6 C16)
  have b18 := F18.binds (ps := ["came", "begin"]) fun _ _ _ _ _ _ us hl => match us, hl with | [_, _], _ => rfl
  have C18 : Cal P w K mg base CX0 1 "turned_back" ["came", "begin"] spBack := cal_mk F18 (PySem.W.mg_of X N a18) b18 (ok_back F18 G)
  have b19 := F19.binds (ps := ["nodes", "edges"]) fun _ _ _ _ _ _ us hl => match us, hl with | [_, _], _ => rfl
  have C19 : Cal P w K mg base CX0 2 "falls" ["nodes", "edges"] spFalls := cal_mk F19 (PySem.W.mg_of X N a19) b19 (ok_falls F19 G C18)
  have b20 := F20.binds (ps := ["tape", "ways"]) fun _ _ _ _ _ _ us hl => match us, hl with | [_, _], _ => rfl
  have C20 : Cal P w K mg base CX0 3 "circuit_or_times" ["tape", "ways"] spCirc := cal_mk F20 (PySem.W.mg_of X N a20) b20 (ok_circ F20 G C19)
  have b21 := F21.binds (ps := ["tape"]) fun _ _ _ _ _ _ us hl => match us, hl with | [_], _ => rfl
  have C21 : Cal P w K mg base CX0 4 "times_of" ["tape"] spTimes := cal_mk F21 (PySem.W.mg_of X N a21) b21 (ok_times F21 G C15 C20)
  have b22 := F22.binds (ps := ["tape"]) fun _ _ _ _ _ _ us hl => match us, hl with | [_], _ => rfl
  have C22 : Cal P w K mg base (L2.CX P w) 5 "need_going" ["tape"] (spGoing C) := cal_mk F22 (PySem.W.mg_of X N a22) b22 (ok_going F22 O C14 C21)
  have b23 := F23.binds (ps := ["tape", "first", "last"]) fun _ _ _ _ _ _ us hl => match us, hl with | [_, _, _], _ => rfl
  have C23 : Cal P w K mg base (L2.CX P w) 6 "lead" ["tape", "first", "last"] (spLead K C) := cal_mk F23 (PySem.W.mg_of X N a23) b23 (ok_lead F23 G O C22 C6 C15)
  have b25 := F25.binds (ps := ["_law_script"]) fun _ _ _ _ _ _ us hl => match us, hl with | [_], _ => rfl
  have C25 : Cal P w K mg base CX0 1 "_law_begun" ["_law_script"] (spBegun K) := cal_mk F25 (PySem.W.mg_of X N a25) b25 (ok_begun F25 G)
  have b26 := F26.binds (ps := ["_law_m", "_law_total"]) fun _ _ _ _ _ _ us hl => match us, hl with | [_, _], _ => rfl
  have C26 : Cal P w K mg base CX0 1 "_law_next" ["_law_m", "_law_total"] spNext := cal_mk F26 (PySem.W.mg_of X N a26) b26 (ok_next F26 G)
  have b27 := F27.binds (ps := ["_law_m"]) fun _ _ _ _ _ _ us hl => match us, hl with | [_], _ => rfl
  have C27 : Cal P w K mg base CX0 2 "_law_work" ["_law_m"] spWorkD := cal_mk F27 (PySem.W.mg_of X N a27) b27 (ok_workD F27 G C26)
  have b28 := F28.binds (ps := ["_law_m", "_law_size"]) fun _ _ _ _ _ _ us hl => match us, hl with | [_, _], _ => rfl
  have C28 : Cal P w K mg base CX0 2 "_law_sides" ["_law_m", "_law_size"] spSidesD := cal_mk F28 (PySem.W.mg_of X N a28) b28 (ok_sidesD F28 G C26)
  have b29 := F29.binds (ps := ["_law_m", "_law_most"]) fun _ _ _ _ _ _ us hl => match us, hl with | [_, _], _ => rfl
  have C29 : Cal P w K mg base CX0 3 "_law_tape" ["_law_m", "_law_most"] spTapeD := cal_mk F29 (PySem.W.mg_of X N a29) b29 (ok_tapeD F29 G C26 C28 C27)
  have b30 := F30.binds (ps := ["_law_m", "_law_most"]) fun _ _ _ _ _ _ us hl => match us, hl with | [_, _], _ => rfl
  have C30 : Cal P w K mg base CX0 3 "_law_straight" ["_law_m", "_law_most"] spStrD := cal_mk F30 (PySem.W.mg_of X N a30) b30 (ok_strD F30 G C26 C28 C27)
  have b31 := F31.binds (ps := ["_law_tape_here"]) fun _ _ _ _ _ _ us hl => match us, hl with | [_], _ => rfl
  have C31 : Cal P w K mg base CX0 1 "_law_names" ["_law_tape_here"] spEdges := cal_mk F31 (PySem.W.mg_of X N a31) b31 (ok_names F31 G)
  have b32 := F32.binds (ps := ["_law_tape_here"]) fun _ _ _ _ _ _ us hl => match us, hl with | [_], _ => rfl
  have C32 : Cal P w K mg base CX0 1 "_law_circuits" ["_law_tape_here"] spCircuits := cal_mk F32 (PySem.W.mg_of X N a32) b32 (ok_circuits F32 G)
  have b33 := F33.binds (ps := ["_law_tape_here"]) fun _ _ _ _ _ _ us hl => match us, hl with | [_], _ => rfl
  have C33 : Cal P w K mg base CX0 2 "_law_goes_down" ["_law_tape_here"] spDown := cal_mk F33 (PySem.W.mg_of X N a33) b33 (ok_down F33 G C32)
  have b34 := F34.binds (ps := ["_law_tape_here"]) fun _ _ _ _ _ _ us hl => match us, hl with | [_], _ => rfl
  have C34 : Cal P w K mg base CX0 2 "_law_leads" ["_law_tape_here"] spLeads := cal_mk F34 (PySem.W.mg_of X N a34) b34 (ok_leads F34 G C31)
  have b35 := F35.binds (ps := ["_law_tape_here", "_law_first", "_law_last"]) fun _ _ _ _ _ _ us hl => match us, hl with | [_, _, _], _ => rfl
  have C35 : Cal P w K mg base CX0 7 "_law_is_refused" ["_law_tape_here", "_law_first", "_law_last"] (spRefused K) := cal_mk F35 (PySem.W.mg_of X N a35) b35 (ok_refused F35 O C23)
  exact ok_law (fI := fI) (cc := cc) (cda := cda) F36 G C25 C26 C30 C29 C17 C34 C23 C35 C33
theorem walk {l : PySem.W.OpenLaw} {q : Program} {loose : List Str} {XP : (Str → Option Value) → Heap → Prop} {YP : World → Heap → Prop} {d : DefRec} {K : Params → PySem.W.Frag} (hn : l.most = some 63) (hdf : d.params.defaults = [])
    (hY : ∀ (w : World) (h : Heap), YP w h → (K w.params).In h)
    (F : ∀ (w : World) (mg : Str → Option Value) (fa : Addr) (h : Heap), (K w.params).In h → h.Ns mainGlobals mg → mg d.name = some (.ref fa) →
      ∃ fd : FuncData, (∀ (s : Shared) (u : Value), BindsTo s fd ⟨[u], []⟩ [("_law_script", u)]) ∧ ∀ base : Heap, (K w.params).In base → base.Ns mainGlobals mg → FnOk l.prog w (K w.params) mg base CX0 8 fa fd ["_law_script"] (spLaw (K w.params))) :
    PySem.W.WalkO q loose XP YP l.row.toRowW d [] (fun f vs => PySem.call f vs) :=
  L2.walk_of (n := 63) (k := 8) (x := "_law_script") (CX := fun _ => CX0) (sp := fun w => spLaw (K w.params)) hn (by decide) hdf ⟨rfl, by decide, by decide⟩ hY F (fun _ _ a ns hl _ hS => ⟨a, ns, rfl, hS, hl, fun _ => rfl⟩) fun _ _ _ _ _ z => z
end LH

open PySem PySem.W PyProof.Rows
set_option maxRecDepth 100000 in
set_option maxHeartbeats 0 in
theorem PySem.Challenge.cw_lacehouse_k12_whole_leads_holds : PySem.Challenge.rw_lacehouse_k12_whole_leads.Holds := by
  w_on; o_law; k_head; (case hw => w_witness2)
  k_fill
  refine LH.walk (l := PySem.Challenge.rw_lacehouse_k12_whole_leads) rfl rfl (fun w h Y => PySem.W.kIn_of Y) ?F
  case F =>
    intro w mg fa h KX G hmg

    refine' LH.all_ok KX G hmg {
      d6 := ⟨_, LH.mkD ?zz_a6 ?zz_l6 ?zz_c6 ?zz_k6⟩
      d7 := ⟨_, LH.mkD ?zz_a7 ?zz_l7 ?zz_c7 ?zz_k7⟩
      d11 := ⟨_, LH.mkD ?zz_a11 ?zz_l11 ?zz_c11 ?zz_k11⟩
      d12 := ⟨_, LH.mkD ?zz_a12 ?zz_l12 ?zz_c12 ?zz_k12⟩
      d13 := ⟨_, LH.mkD ?zz_a13 ?zz_l13 ?zz_c13 ?zz_k13⟩
      d14 := ⟨_, LH.mkD ?zz_a14 ?zz_l14 ?zz_c14 ?zz_k14⟩
      d15 := ⟨_, LH.mkD ?zz_a15 ?zz_l15 ?zz_c15 ?zz_k15⟩
      d16 := ⟨_, LH.mkD ?zz_a16 ?zz_l16 ?zz_c16 ?zz_k16⟩
      d17 := ⟨_, LH.mkD ?zz_a17 ?zz_l17 ?zz_c17 ?zz_k17⟩
      d18 := ⟨_, LH.mkD ?zz_a18 ?zz_l18 ?zz_c18 ?zz_k18⟩
      d19 := ⟨_, LH.mkD ?zz_a19 ?zz_l19 ?zz_c19 ?zz_k19⟩
      d20 := ⟨_, LH.mkD ?zz_a20 ?zz_l20 ?zz_c20 ?zz_k20⟩
      d21 := ⟨_, LH.mkD ?zz_a21 ?zz_l21 ?zz_c21 ?zz_k21⟩
      d22 := ⟨_, LH.mkD ?zz_a22 ?zz_l22 ?zz_c22 ?zz_k22⟩
      d23 := ⟨_, LH.mkD ?zz_a23 ?zz_l23 ?zz_c23 ?zz_k23⟩
      d25 := ⟨_, LH.mkD ?zz_a25 ?zz_l25 ?zz_c25 ?zz_k25⟩
      d26 := ⟨_, LH.mkD ?zz_a26 ?zz_l26 ?zz_c26 ?zz_k26⟩
      d27 := ⟨_, LH.mkD ?zz_a27 ?zz_l27 ?zz_c27 ?zz_k27⟩
      d28 := ⟨_, LH.mkD ?zz_a28 ?zz_l28 ?zz_c28 ?zz_k28⟩
      d29 := ⟨_, LH.mkD ?zz_a29 ?zz_l29 ?zz_c29 ?zz_k29⟩
      d30 := ⟨_, LH.mkD ?zz_a30 ?zz_l30 ?zz_c30 ?zz_k30⟩
      d31 := ⟨_, LH.mkD ?zz_a31 ?zz_l31 ?zz_c31 ?zz_k31⟩
      d32 := ⟨_, LH.mkD ?zz_a32 ?zz_l32 ?zz_c32 ?zz_k32⟩
      d33 := ⟨_, LH.mkD ?zz_a33 ?zz_l33 ?zz_c33 ?zz_k33⟩
      d34 := ⟨_, LH.mkD ?zz_a34 ?zz_l34 ?zz_c34 ?zz_k34⟩
      d35 := ⟨_, LH.mkD ?zz_a35 ?zz_l35 ?zz_c35 ?zz_k35⟩
      d36 := ⟨_, LH.mkD ?zz_a36 ?zz_l36 ?zz_c36 ?zz_k36⟩
      g_isinstance := ?zz_g_isinstance
      g_int := ?zz_g_int
      g_bool := ?zz_g_bool
      g_str := ?zz_g_str
      g_tuple := ?zz_g_tuple
      g_list := ?zz_g_list
      g_len := ?zz_g_len
      g_all := ?zz_g_all
      g_range := ?zz_g_range
      g_enumerate := ?zz_g_enumerate
      g_zip := ?zz_g_zip
      g_min := ?zz_g_min
      g_repr := ?zz_g_repr
      letters := LH.mkV ?zz_letters ?zz_lettersV
      mostL := LH.mkV ?zz_mostL ?zz_mostLV
      mostS := LH.mkV ?zz_mostS ?zz_mostSV
      hg := ?zz_hg
      hl := LH.mkO ?zz_hl ?zz_hlV
      gC := ?zz_gC
      oop := LH.mk_oop ?zz_xL ?zz_iC ?zz_tC ?zz_kC ?zz_exC ?zz_veC ?zz_tyC ?zz_isC ?zz_sC ?zz_fn ?zz_cod ?zz_cell ?zz_code ?zz_file ?zz_any ?zz_top
      sup := ?zz_sup }
    (case zz_a6 => k_is)
    (case zz_l6 => k_is)
    (case zz_c6 => k_is)
    (case zz_k6 => k_is)
    (case zz_a7 => k_is)
    (case zz_l7 => k_is)
    (case zz_c7 => k_is)
    (case zz_k7 => k_is)
    (case zz_a11 => k_is)
    (case zz_l11 => k_is)
    (case zz_c11 => k_is)
    (case zz_k11 => k_is)
    (case zz_a12 => k_is)
    (case zz_l12 => k_is)
    (case zz_c12 => k_is)
    (case zz_k12 => k_is)
    (case zz_a13 => k_is)
    (case zz_l13 => k_is)
    (case zz_c13 => k_is)
    (case zz_k13 => k_is)
    (case zz_a14 => k_is)
    (case zz_l14 => k_is)
    (case zz_c14 => k_is)
    (case zz_k14 => k_is)
    (case zz_a15 => k_is)
    (case zz_l15 => k_is)
    (case zz_c15 => k_is)
    (case zz_k15 => k_is)
    (case zz_a16 => k_is)
    (case zz_l16 => k_is)
    (case zz_c16 => k_is)
    (case zz_k16 => k_is)
    (case zz_a17 => k_is)
    (case zz_l17 => k_is)
    (case zz_c17 => k_is)
    (case zz_k17 => k_is)
    (case zz_a18 => k_is)
    (case zz_l18 => k_is)
    (case zz_c18 => k_is)
    (case zz_k18 => k_is)
    (case zz_a19 => k_is)
    (case zz_l19 => k_is)
    (case zz_c19 => k_is)
    (case zz_k19 => k_is)
    (case zz_a20 => k_is)
    (case zz_l20 => k_is)
    (case zz_c20 => k_is)
    (case zz_k20 => k_is)
    (case zz_a21 => k_is)
    (case zz_l21 => k_is)
    (case zz_c21 => k_is)
    (case zz_k21 => k_is)
    (case zz_a22 => k_is)
    (case zz_l22 => k_is)
    (case zz_c22 => k_is)
    (case zz_k22 => k_is)
    (case zz_a23 => k_is)
    (case zz_l23 => k_is)
    (case zz_c23 => k_is)
    (case zz_k23 => k_is)
    (case zz_a25 => k_is)
    (case zz_l25 => k_is)
    (case zz_c25 => k_is)
    (case zz_k25 => k_is)
    (case zz_a26 => k_is)
    (case zz_l26 => k_is)
    (case zz_c26 => k_is)
    (case zz_k26 => k_is)
    (case zz_a27 => k_is)
    (case zz_l27 => k_is)
    (case zz_c27 => k_is)
    (case zz_k27 => k_is)
    (case zz_a28 => k_is)
    (case zz_l28 => k_is)
    (case zz_c28 => k_is)
    (case zz_k28 => k_is)
    (case zz_a29 => k_is)
    (case zz_l29 => k_is)
    (case zz_c29 => k_is)
    (case zz_k29 => k_is)
    (case zz_a30 => k_is)
    (case zz_l30 => k_is)
    (case zz_c30 => k_is)
    (case zz_k30 => k_is)
    (case zz_a31 => k_is)
    (case zz_l31 => k_is)
    (case zz_c31 => k_is)
    (case zz_k31 => k_is)
    (case zz_a32 => k_is)
    (case zz_l32 => k_is)
    (case zz_c32 => k_is)
    (case zz_k32 => k_is)
    (case zz_a33 => k_is)
    (case zz_l33 => k_is)
    (case zz_c33 => k_is)
    (case zz_k33 => k_is)
    (case zz_a34 => k_is)
    (case zz_l34 => k_is)
    (case zz_c34 => k_is)
    (case zz_k34 => k_is)
    (case zz_a35 => k_is)
    (case zz_l35 => k_is)
    (case zz_c35 => k_is)
    (case zz_k35 => k_is)
    (case zz_a36 => k_is)
    (case zz_l36 => k_is)
    (case zz_c36 => k_is)
    (case zz_k36 => k_is)
    (case zz_g_isinstance => k_is)
    (case zz_g_int => k_is)
    (case zz_g_bool => k_is)
    (case zz_g_str => k_is)
    (case zz_g_tuple => k_is)
    (case zz_g_list => k_is)
    (case zz_g_len => k_is)
    (case zz_g_all => k_is)
    (case zz_g_range => k_is)
    (case zz_g_enumerate => k_is)
    (case zz_g_zip => k_is)
    (case zz_g_min => k_is)
    (case zz_g_repr => k_is)
    (case zz_letters => k_is)
    (case zz_mostL => k_is)
    (case zz_mostS => k_is)
    (case zz_hg => k_is)
    (case zz_hl => k_is)
    (case zz_gC => k_is)
    (case zz_xL => k_is)
    (case zz_iC => k_is)
    (case zz_tC => k_is)
    (case zz_kC => k_is)
    (case zz_exC => k_is)
    (case zz_veC => k_is)
    (case zz_tyC => k_is)
    (case zz_isC => k_is)
    (case zz_fn => k_is)
    (case zz_cod => k_is)
    (case zz_cell => k_is)
    (case zz_code => k_is)
    (case zz_any => k_is)
    (case zz_sup => k_is)
    (case zz_lettersV => exact ⟨_, rfl⟩)
    (case zz_mostLV => exact ⟨_, rfl⟩)
    (case zz_mostSV => exact ⟨_, rfl⟩)
    (case zz_hlV => exact ⟨_, _, _, _, _, rfl⟩)
    (case zz_sC => first | rfl | k_is)
    (case zz_file => exact ⟨_, _, rfl, by first | rfl | decide +kernel⟩)
    (case zz_top => first | rfl | decide +kernel)

