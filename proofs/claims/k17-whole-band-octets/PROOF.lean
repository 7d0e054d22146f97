import PyProof.Rows.All
import PySem.Str
import PySem.PyData
import Wide.All
import OpenK.AllK
import Wide.FinOn
import HandS.ForMost
import HandS.Defaults
import HandS.Exc
import HandS.ExcInit
import HandS.ExcField
import HandS.ExcIs
import HandS.WordsExc
import HandS.Head0
import HandS.Head1
import HandS.Head2
import HandS.HeadEnd
import HandS.HeadHook1
import HandS.HeadHook2
import HandS.IsInst
import HandS.Walk
import HandS.Wide
import HandS.WideBits
import HandS.TupAny
import HandS.Style
import HandS.Strs
import HandS.Small
import HandS.Flow
import KE.GoesEnum
import KE.GoesMore
import KE.KExcIs
import HandS.ExcOwn
import HandS.TryOnly
import KE.KIndexOf
import PySem.Challenge.RW_picturetide_k17_whole_band_octets
set_option Elab.async false
set_option linter.all false
set_option maxRecDepth 100001
set_option maxHeartbeats 4000001
/-! The interval coder as plain Lean: the state, one put, what many puts cost at most. No program in sight. -/
namespace Bo

/-! ### the table: what one bit may cost, in eighths of a bit, beside the stored worth of its chance -/
def phi (p : Nat) : Nat := (if p ≤ 2048 then (2048 - p) * (2048 - p) else (p - 2048) * (p - 2048)) * 400 / 4194304
def rowOk (p : Nat) : Bool :=
  decide (2 ^ (192 + phi (p + (4096 - p) / 32)) ≤ (4095 * p) ^ 8 * 2 ^ (12 + phi p)) &&
  decide (2 ^ (96 + phi (p - p / 32)) ≤ (4096 - p) ^ 8 * 2 ^ (12 + phi p))
def rowsOk (lo : Nat) : Nat → Bool
  | 0 => true
  | n + 1 => rowOk (lo + n) && rowsOk lo n
theorem rowsOk_at {lo : Nat} : ∀ {n i : Nat}, rowsOk lo n = true → i < n → rowOk (lo + i) = true
  | 0, _, _, h =>
      absurd h (Nat.not_lt_zero _)
  | n + 1, i, h, hi => by
    have h2 : (rowOk (lo + n) && rowsOk lo n) = true := h
    rw [Bool.and_eq_true] at h2
    by_cases e : i = n
    · rw [e]; exact h2.1
    · exact rowsOk_at h2.2 (by omega)
theorem rows_all : rowsOk 31 4035 = true := by decide +kernel
theorem row_at {p : Nat} (h1 : 31 ≤ p) (h2 : p ≤ 4065) : rowOk p = true := by
  have h := rowsOk_at (i := p - 31) rows_all (by omega)
  rw [show 31 + (p - 31) = p by omega] at h
  exact h
theorem row_zero {p : Nat} (h1 : 31 ≤ p) (h2 : p ≤ 4065) : 2 ^ (192 + phi (p + (4096 - p) / 32)) ≤ (4095 * p) ^ 8 * 2 ^ (12 + phi p) := by
  have h := row_at h1 h2
  unfold rowOk at h
  rw [Bool.and_eq_true] at h
  exact of_decide_eq_true h.1
theorem row_one {p : Nat} (h1 : 31 ≤ p) (h2 : p ≤ 4065) : 2 ^ (96 + phi (p - p / 32)) ≤ (4096 - p) ^ 8 * 2 ^ (12 + phi p) := by
  have h := row_at h1 h2
  unfold rowOk at h
  rw [Bool.and_eq_true] at h
  exact of_decide_eq_true h.2
theorem phi_half : phi 2048 = 0 := by decide +kernel

/-! ### chances: an association list, its keys all different -/
section
variable {κ : Type}
variable [DecidableEq κ]
def getC : List (κ × Int) → κ → Int
  | [], _ => 2048
  | e :: r, k => if e.1 = k then e.2 else getC r k
def setC : List (κ × Int) → κ → Int → List (κ × Int)
  | [], k, p => [(k, p)]
  | e :: r, k, p => if e.1 = k then (e.1, p) :: r else e :: setC r k p
def worth : List (κ × Int) → Nat
  | [] => 0
  | e :: r => phi e.2.toNat + worth r
def ChOk (l : List (κ × Int)) : Prop := ∀ e ∈ l, 31 ≤ e.2 ∧ e.2 ≤ 4065
theorem getC_ok {k : κ} : ∀ {l : List (κ × Int)}, ChOk l → 31 ≤ getC l k ∧ getC l k ≤ 4065
  | [], _ => by unfold getC; omega
  | e :: r, h => by
    unfold getC
    split
    · exact h e (List.mem_cons_self ..)
    · exact getC_ok fun x hx => h x (List.mem_cons_of_mem _ hx)
theorem setC_ok {k : κ} {p : Int} (hp : 31 ≤ p ∧ p ≤ 4065) : ∀ {l : List (κ × Int)}, ChOk l → ChOk (setC l k p)
  | [], _ => fun x hx => by
    rcases List.mem_cons.mp hx with e | e
    · rw [e]; exact hp
    · exact nomatch e
  | e :: r, h => by
    unfold setC
    split
    · intro x hx
      rcases List.mem_cons.mp hx with q | q
      · rw [q]; exact hp
      · exact h x (List.mem_cons_of_mem _ q)
    · intro x hx
      rcases List.mem_cons.mp hx with q | q
      · rw [q]; exact h e (List.mem_cons_self ..)
      · exact setC_ok hp (fun y hy => h y (List.mem_cons_of_mem _ hy)) x q
theorem setC_keys {k : κ} {p : Int} : ∀ {l : List (κ × Int)} {x : κ × Int}, x ∈ setC l k p → x.1 = k ∨ ∃ y ∈ l, y.1 = x.1
  | [], x, h => by
    rcases List.mem_cons.mp h
      with e | e
    · rw [e]; exact .inl rfl
    · exact nomatch e
  | e :: r, x, h => by
    unfold setC at h
    split at h
    · rename_i hk
      rcases List.mem_cons.mp h
        with q | q
      · rw [q]; exact .inl hk
      · exact .inr ⟨x, List.mem_cons_of_mem _ q, rfl⟩
    · rcases List.mem_cons.mp h with q | q
      · rw [q]; exact .inr ⟨e, List.mem_cons_self .., rfl⟩
      · rcases setC_keys q with z | ⟨y, hy, z⟩
        · exact .inl z
        · exact .inr ⟨y, List.mem_cons_of_mem _ hy, z⟩
theorem setC_nodup {k : κ} {p : Int} : ∀ {l : List (κ × Int)}, (l.map (·.1)).Nodup → ((setC l k p).map (·.1)).Nodup
  | [], _ => by unfold setC; simp
  | e :: r, h => by
    have h' : e.1 ∉ r.map (·.1) ∧ (r.map (·.1)).Nodup := by simpa using h
    unfold setC
    split
    · rename_i hk
      simpa using h'
    · rename_i hk
      rw [List.map_cons,
          List.nodup_cons]
      refine ⟨fun q => ?_, setC_nodup h'.2⟩
      obtain ⟨x, hx, ex⟩ := List.mem_map.mp q
      rcases setC_keys hx with z | ⟨y, hy, z⟩
      · exact hk (ex.symm.trans z)
      · exact h'.1 (List.mem_map.mpr ⟨y, hy, z.trans ex⟩)
theorem setC_length {k : κ} {p : Int} : ∀ {l : List (κ × Int)}, (setC l k p).length ≤ l.length + 1
  | [] => Nat.le_refl _
  | e :: r => by
    unfold setC
    split
    · simp
    · have := setC_length (k := k) (p := p) (l := r)
      simpa using this
theorem worth_set {k : κ} {p : Int} : ∀ {l : List (κ × Int)}, worth (setC l k p) + phi (getC l k).toNat = worth l + phi p.toNat
  | [] => by
    show phi p.toNat + 0 + phi (2048 : Int).toNat = 0 + phi p.toNat
    rw [show (2048 : Int).toNat = 2048 from rfl, phi_half]
    omega
  | e :: r => by
    unfold setC getC
    split
    · show phi p.toNat + worth r + _ = phi e.2.toNat + worth r + _
      omega
    · have := worth_set (k := k) (p := p) (l := r)
      show phi e.2.toNat + worth (setC r k p) + _ = phi e.2.toNat + worth r + _
      omega

/-! ### the state -/
structure CoSt (κ : Type) where
  low : Int
  width : Int
  count : Nat
  ch : List (κ × Int)
def st0 : CoSt κ := ⟨0, 4294967296, 4, []⟩
def cut (s : CoSt κ) (k : κ) : Int := s.width / 4096 * getC s.ch k
/-- the part of a bit is taken; the chance follows -/
def part (s : CoSt κ) (k : κ) (b : Int) : CoSt κ :=
  if b = 0 then ⟨s.low, cut s k, s.count, setC s.ch k (getC s.ch k + (4096 - getC s.ch k) / 32)⟩
  else ⟨s.low + cut s k, s.width - cut s k, s.count, setC s.ch k (getC s.ch k - getC s.ch k / 32)⟩
def wider (s : CoSt κ) : CoSt κ := ⟨s.low * 256, s.width * 256, s.count + 1, s.ch⟩
def norm (s : CoSt κ) : CoSt κ := if s.width < 16777216 then wider s else s
def put (s : CoSt κ) (k : κ) (b : Int) : CoSt κ := norm (part s k b)
def run (s : CoSt κ) (l : List (κ × Int)) : CoSt κ := l.foldl (fun s e => put s e.1 e.2) s
theorem run_nil (s : CoSt κ) : run s [] = s := rfl
theorem run_cons (s : CoSt κ) (e : κ × Int) (l : List (κ × Int)) : run s (e :: l) = run (put s e.1 e.2) l := rfl
theorem run_append (s : CoSt κ) (l m : List (κ × Int)) : run s (l ++ m) = run (run s l) m := by
  unfold run
  rw [List.foldl_append]

/-- what holds of every state: N puts so far -/
structure Good (s : CoSt κ) (N : Nat) : Prop where
  wlo : 16777216 ≤ s.width
  whi : s.width ≤ 4294967296
  lo : 0 ≤ s.low
  cnt : 4 ≤ s.count
  top : s.low + s.width ≤ 256 ^ s.count
  ok : ChOk s.ch
  nd : (s.ch.map (·.1)).Nodup
  len : s.ch.length ≤ N
  cost : ∃ T : Nat, 2 ^ (256 + 64 * (s.count - 4)) ≤ s.width.toNat ^ 8 * 2 ^ T ∧ T + worth s.ch ≤ 12 * N
theorem good0 : Good (st0 : CoSt κ) 0 where
  wlo := (by decide : (16777216 : Int) ≤ 4294967296)
  whi := (by decide : (4294967296 : Int) ≤ 4294967296)
  lo := (by decide : (0 : Int) ≤ 0)
  cnt := (by decide : 4 ≤ 4)
  top := (by decide : (0 : Int) + 4294967296 ≤ 256 ^ 4)
  ok := fun _ h => nomatch h
  nd := List.nodup_nil
  len := Nat.le_refl _
  cost := ⟨0, (by decide +kernel : 2 ^ (256 + 64 * (4 - 4)) ≤ (4294967296 : Int).toNat ^ 8 * 2 ^ 0), (by decide : 0 + 0 ≤ 12 * 0)⟩

/-- behind part: wide enough for one step -/
structure Mid (s : CoSt κ) (N : Nat) : Prop where
  wlo : 65536 ≤ s.width
  whi : s.width ≤ 4294967296
  lo : 0 ≤ s.low
  cnt : 4 ≤ s.count
  top : s.low + s.width ≤ 256 ^ s.count
  ok : ChOk s.ch
  nd : (s.ch.map (·.1)).Nodup
  len : s.ch.length ≤ N
  cost : ∃ T : Nat, 2 ^ (256 + 64 * (s.count - 4)) ≤ s.width.toNat ^ 8 * 2 ^ T ∧ T + worth s.ch ≤ 12 * N

theorem toNat_pow_le {a b : Nat} (h : a ≤ b) : a ^ 8 ≤ b ^ 8 := Nat.pow_le_pow_left h 8
theorem cost_step {w c T a b q m : Nat} (hc : c * q ≥ w * m) (hrow : 2 ^ (a + b) ≤ m ^ 8 * 2 ^ (12 + T)) (hq : q ^ 8 = 2 ^ a) : w ^ 8 * 2 ^ b ≤ c ^ 8 * 2 ^ (12 + T) := by
  have h1 : (w * m) ^ 8 ≤ (c * q) ^ 8 := Nat.pow_le_pow_left hc 8
  rw [Nat.mul_pow, Nat.mul_pow, hq] at h1
  have h2 : w ^ 8 * 2 ^ (a + b) ≤ w ^ 8 * (m ^ 8 * 2 ^ (12 + T)) := Nat.mul_le_mul_left _ hrow
  have h3 : w ^ 8 * (m ^ 8 * 2 ^ (12 + T)) = (w ^ 8 * m ^ 8) * 2 ^ (12 + T) := by rw [Nat.mul_assoc]
  have h4 : (w ^ 8 * m ^ 8) * 2 ^ (12 + T) ≤ (c ^ 8 * 2 ^ a) * 2 ^ (12 + T) := Nat.mul_le_mul_right _ h1
  have h5 : w ^ 8 * 2 ^ (a + b) = 2 ^ a * (w ^ 8 * 2 ^ b) := by
    rw [Nat.pow_add, ← Nat.mul_assoc, Nat.mul_comm (w ^ 8) (2 ^ a), Nat.mul_assoc]
  have h6 : (c ^ 8 * 2 ^ a) * 2 ^ (12 + T) = 2 ^ a * (c ^ 8 * 2 ^ (12 + T)) := by
    rw [Nat.mul_comm (c ^ 8) (2 ^ a), Nat.mul_assoc]
  have h7 : 2 ^ a * (w ^ 8 * 2 ^ b) ≤ 2 ^ a * (c ^ 8 * 2 ^ (12 + T)) := by
    rw [← h5, ← h6]
    exact Nat.le_trans h2 (h3 ▸ h4)
  exact Nat.le_of_mul_le_mul_left h7 (Nat.pow_pos (by decide))
theorem cost_join {W w c T A B u v N : Nat} (h0 : 0 < w) (hcw : c ≤ w) (h1 : W ≤ w ^ 8 * 2 ^ T) (h2 : w ^ 8 * 2 ^ B ≤ c ^ 8 * 2 ^ (12 + A)) (hw : T + u ≤ 12 * N) (hv : v + A = u + B) :
    ∃ T', W ≤ c ^ 8 * 2 ^ T' ∧ T' + v ≤ 12 * (N + 1) := by
  have hB : B ≤ 12 + A := by
    have h3 : w ^ 8 * 2 ^ B ≤ w ^ 8 * 2 ^ (12 + A) := Nat.le_trans h2 (Nat.mul_le_mul_right _ (Nat.pow_le_pow_left hcw 8))
    exact (Nat.pow_le_pow_iff_right (by decide)).mp (Nat.le_of_mul_le_mul_left h3 (Nat.pow_pos h0))
  refine ⟨T + (12 + A) - B, ?_, by omega⟩
  have h3 : W * 2 ^ B ≤ (c ^ 8 * 2 ^ (T + (12 + A) - B)) * 2 ^ B := by
    have e1 : (w ^ 8 * 2 ^ T) * 2 ^ B = (w ^ 8 * 2 ^ B) * 2 ^ T := Nat.mul_right_comm _ _ _
    have e2 : (c ^ 8 * 2 ^ (T + (12 + A) - B)) * 2 ^ B = (c ^ 8 * 2 ^ (12 + A)) * 2 ^ T := by
      rw [Nat.mul_assoc, ← Nat.pow_add, Nat.mul_assoc, ← Nat.pow_add]
      congr 2
      omega
    rw [e2]
    refine Nat.le_trans (Nat.mul_le_mul_right _ h1) ?_
    rw [e1]
    exact Nat.mul_le_mul_right _ h2
  exact Nat.le_of_mul_le_mul_right h3 (Nat.pow_pos (by decide))

theorem pow24 : (16777216 : Nat) ^ 8 = 2 ^ 192 := by decide +kernel
theorem pow12 : (4096 : Nat) ^ 8 = 2 ^ 96 := by decide +kernel
theorem part_mid {s : CoSt κ} {N : Nat} (g : Good s N) (k : κ) (b : Int) : Mid (part s k b) (N + 1) := by
  have hp := getC_ok (k := k) g.ok
  obtain ⟨T, t1, t2⟩ := g.cost
  obtain ⟨p, ep⟩ : ∃ p : Nat, getC s.ch k = (p : Int) := ⟨_, (Int.toNat_of_nonneg (by omega)).symm⟩
  obtain ⟨w, ew⟩ : ∃ w : Nat, s.width = (w : Int) := ⟨_, (Int.toNat_of_nonneg (by have := g.wlo; omega)).symm⟩
  rw [ep] at hp
  have w1 : 16777216 ≤ w := by have := g.wlo; omega
  have w2 : w ≤ 4294967296 := by have := g.whi; omega
  have hcut : cut s k = ((w / 4096 * p : Nat) : Int) := by
    unfold cut
    rw [ep, ew]
    simp
  have p1 : 31 ≤ p := by omega
  have p2 : p ≤ 4065 := by omega
  -- the cut, from both sides
  have c1 : w * (4095 * p) ≤ (w / 4096 * p) * 16777216 := by
    have h : w * 4095 ≤ (w / 4096) * 16777216 := by omega
    have := Nat.mul_le_mul_right p h
    calc w * (4095 * p) = w * 4095 * p := by rw [Nat.mul_assoc]
      _ ≤ (w / 4096) * 16777216 * p := this
      _ = (w / 4096 * p) * 16777216 := Nat.mul_right_comm _ _ _
  have c2 : (w / 4096 * p) * 4096 ≤ w * p := by
    have h : (w / 4096) * 4096 ≤ w := Nat.div_mul_le_self _ _
    calc (w / 4096 * p) * 4096 = (w / 4096) * 4096 * p := Nat.mul_right_comm _ _ _
      _ ≤ w * p := Nat.mul_le_mul_right p h
  have c3 : 126976 ≤ w / 4096 * p := by
    have h : 4096 ≤ w / 4096 := by omega
    exact Nat.le_trans (by omega : 126976 ≤ 4096 * 31) (Nat.mul_le_mul h p1)
  have c4 : w / 4096 * p + w / 4096 * 31 ≤ w := by
    have h : (w / 4096) * (p + 31) ≤ (w / 4096) * 4096 := Nat.mul_le_mul_left _ (by omega)
    rw [Nat.mul_add] at h
    have := Nat.div_mul_le_self w 4096
    omega
  have c5 : w * (4096 - p) ≤ (w - w / 4096 * p) * 4096 := by
    rw [Nat.mul_sub, Nat.sub_mul]
    omega
  have hl : ∀ p : Int, (setC s.ch k p).length ≤ s.ch.length + 1 := fun p => setC_length
  have hN := g.len
  unfold part
  by_cases hb : b = 0
  · rw [if_pos hb]
    have hp' : (31 : Int) ≤ (p : Int) + (4096 - (p : Int)) / 32 ∧ (p : Int) + (4096 - (p : Int)) / 32 ≤ 4065 := by omega
    refine ⟨?_, ?_, g.lo, g.cnt, ?_, ?_, setC_nodup g.nd, ?_, ?_⟩
    · show (65536 : Int) ≤ cut s k
      rw [hcut]; omega
    · show cut s k ≤ (4294967296 : Int)
      rw [hcut]; omega
    · show s.low + cut s k ≤ (256 : Int) ^ s.count
      have := g.top
      rw [hcut]; omega
    · rw [ep]; exact setC_ok hp' g.ok
    · have := hl (getC s.ch k + (4096 - getC s.ch k) / 32)
      show (setC s.ch k _).length ≤ N + 1
      omega
    · have e1 : ((p : Int) + (4096 - (p : Int)) / 32).toNat = p + (4096 - p) / 32 := by omega
      have hv := worth_set (k := k) (p := (p : Int) + (4096 - (p : Int)) / 32) (l := s.ch)
      rw [ep, e1, Int.toNat_natCast] at hv
      have t1' : 2 ^ (256 + 64 * (s.count - 4)) ≤ w ^ 8 * 2 ^ T := by rw [ew, Int.toNat_natCast] at t1; exact t1
      have r := cost_step c1 (row_zero p1 p2) pow24
      show ∃ T', 2 ^ (256 + 64 * (s.count - 4)) ≤ (cut s k).toNat ^ 8 * 2 ^ T' ∧ T' + worth (setC s.ch k (getC s.ch k + (4096 - getC s.ch k) / 32)) ≤ 12 * (N + 1)
      rw [hcut, Int.toNat_natCast, ep]
      exact cost_join (by omega) (by omega) t1' r t2 hv
  · rw [if_neg hb]
    have hp' : (31 : Int) ≤ (p : Int) - (p : Int) / 32 ∧ (p : Int) - (p : Int) / 32 ≤ 4065 := by omega
    refine ⟨?_, ?_, ?_, g.cnt, ?_, ?_, setC_nodup g.nd, ?_, ?_⟩
    · show (65536 : Int) ≤ s.width - cut s k
      rw [hcut, ew]; omega
    · show s.width - cut s k ≤ (4294967296 : Int)
      rw [hcut, ew]; omega
    · show (0 : Int) ≤ s.low + cut s k
      have := g.lo
      rw [hcut]; omega
    · show s.low + cut s k + (s.width - cut s k) ≤ (256 : Int) ^ s.count
      have := g.top
      omega
    · rw [ep]; exact setC_ok hp' g.ok
    · have := hl (getC s.ch k - getC s.ch k / 32)
      show (setC s.ch k _).length ≤ N + 1
      omega
    · have e1 : ((p : Int) - (p : Int) / 32).toNat = p - p / 32 := by omega
      have hv := worth_set (k := k) (p := (p : Int) - (p : Int) / 32) (l := s.ch)
      rw [ep, e1, Int.toNat_natCast] at hv
      have t1' : 2 ^ (256 + 64 * (s.count - 4)) ≤ w ^ 8 * 2 ^ T := by rw [ew, Int.toNat_natCast] at t1; exact t1
      have r := cost_step c5 (row_one p1 p2) pow12
      have e2 : (s.width - cut s k).toNat = w - w / 4096 * p := by rw [hcut, ew]; omega
      show ∃ T', 2 ^ (256 + 64 * (s.count - 4)) ≤ (s.width - cut s k).toNat ^ 8 * 2 ^ T' ∧ T' + worth (setC s.ch k (getC s.ch k - getC s.ch k / 32)) ≤ 12 * (N + 1)
      rw [e2, ep]
      exact cost_join (by omega) (by omega) t1' r t2 hv

theorem norm_good {s : CoSt κ} {N : Nat} (g : Mid s N) : Good (norm s) N := by
  unfold norm
  by_cases h : s.width < 16777216
  · rw [if_pos h]
    have hw := g.wlo
    have hl := g.lo
    refine ⟨?_, ?_, ?_, ?_, ?_, g.ok, g.nd, g.len, ?_⟩
    · show (16777216 : Int) ≤ s.width * 256
      omega
    · show s.width * 256 ≤ (4294967296 : Int)
      omega
    · show (0 : Int) ≤ s.low * 256
      omega
    · show 4 ≤ s.count + 1
      have := g.cnt
      omega
    · show s.low * 256 + s.width * 256 ≤ (256 : Int) ^ (s.count + 1)
      have := g.top
      rw [Int.pow_succ]
      omega
    · obtain ⟨T, t1, t2⟩ := g.cost
      refine ⟨T, ?_, t2⟩
      show 2 ^ (256 + 64 * (s.count + 1 - 4)) ≤ (s.width * 256).toNat ^ 8 * 2 ^ T
      have hc := g.cnt
      have e1 : 256 + 64 * (s.count + 1 - 4) = (256 + 64 * (s.count - 4)) + 64 := by omega
      have e2 : (s.width * 256).toNat = s.width.toNat * 256 := by omega
      rw [e1, e2, Nat.pow_add, Nat.mul_pow, show (256 : Nat) ^ 8 = 2 ^ 64 by decide +kernel, Nat.mul_right_comm]
      exact Nat.mul_le_mul_right _ t1
  · rw [if_neg h]
    exact ⟨by omega, g.whi, g.lo, g.cnt, g.top, g.ok, g.nd, g.len, g.cost⟩
theorem put_good {s : CoSt κ} {N : Nat} (g : Good s N) (k : κ) (b : Int) : Good (put s k b) (N + 1) := norm_good (part_mid g k b)
theorem run_good {N : Nat} : ∀ {l : List (κ × Int)} {s : CoSt κ} {N : Nat}, Good s N → Good (run s l) (N + l.length)
  | [], _, _, g => g
  | e :: l, s, N, g => by
    rw [run_cons, List.length_cons, show N + (l.length + 1) = N + 1 + l.length by omega]
    exact run_good (N := N + 1) (put_good g e.1 e.2)
/-- four steps are one -/
theorem norm_norm {s : CoSt κ} (h : 65536 ≤ s.width) : norm (norm s) = norm s := by
  unfold norm
  by_cases c : s.width < 16777216
  · rw [if_pos c, if_neg]
    show ¬ s.width * 256 < 16777216
    omega
  · rw [if_neg c, if_neg c]
theorem norm_wide {s : CoSt κ} (h : 65536 ≤ s.width) : ¬ (norm s).width < 16777216 := by
  unfold norm
  by_cases c : s.width < 16777216
  · rw [if_pos c]
    show ¬ s.width * 256 < 16777216
    omega
  · rw [if_neg c]; exact c
/-- the count is held by the number of puts -/
theorem Good.count_le {s : CoSt κ} {N : Nat} (g : Good s N) : 16 * s.count ≤ 64 + 3 * N := by
  obtain ⟨T, t1, t2⟩ := g.cost
  have hw : s.width.toNat ≤ 2 ^ 32 := by have := g.whi; omega
  have h1 : s.width.toNat ^ 8 ≤ 2 ^ 256 := by
    have := Nat.pow_le_pow_left hw 8
    rw [← Nat.pow_mul] at this
    exact this
  have h2 : 2 ^ (256 + 64 * (s.count - 4)) ≤ 2 ^ (256 + T) := by
    rw [Nat.pow_add 2 256 T]
    exact Nat.le_trans t1 (Nat.mul_le_mul_right _ h1)
  have h3 : 256 + 64 * (s.count - 4) ≤ 256 + T := (Nat.pow_le_pow_iff_right (by decide)).mp h2
  have := g.cnt
  omega
end
end Bo

/-! The octets of a state, the numbers' bits, the events of a leaf and of a tree: plain Lean. -/
namespace Bo
open PySem

/-! ### the octets -/
section
variable {κ : Type}
variable [DecidableEq κ]
def unit (s : CoSt κ) (k : Nat) : Int := 256 ^ (s.count - k)
def ceilAt (s : CoSt κ) (k : Nat) : Int := (s.low + unit s k - 1) / unit s k
def Fnd (s : CoSt κ) (k : Nat) : Prop := ceilAt s k * unit s k < s.low + s.width
def figs (v : Int) (k : Nat) : List Int := (List.range k).map fun j => v / 256 ^ (k - 1 - j) % 256
def IsOct (s : CoSt κ) (l : List Int) : Prop := ∃ k, k ≤ s.count ∧ Fnd s k ∧ (∀ j, j < k → ¬ Fnd s j) ∧ l = figs (ceilAt s k) k
theorem IsOct.uniq {s : CoSt κ} {l m : List Int} (h : IsOct s l) (h' : IsOct s m) : l = m := by
  obtain ⟨k, _, f, n, e⟩ := h
  obtain ⟨k', _, f', n', e'⟩ := h'
  have : k = k' := by
    rcases Nat.lt_trichotomy k k' with q | q | q
    · exact absurd f (n' k q)
    · exact q
    · exact absurd f' (n k' q)
  subst this
  rw [e, e']
theorem unit_pos (s : CoSt κ) (k : Nat) : 0 < unit s k := Int.pow_pos (by decide)
theorem fnd_count {s : CoSt κ} {N : Nat} (g : Good s N) : Fnd s s.count := by
  unfold Fnd ceilAt unit
  rw [Nat.sub_self, Int.pow_zero]
  have := g.wlo
  omega
theorem ceil_nonneg {s : CoSt κ} {N : Nat} (g : Good s N) (k : Nat) : 0 ≤ ceilAt s k := by
  unfold ceilAt
  have := unit_pos s k
  have := g.lo
  exact Int.ediv_nonneg (by omega) (by omega)
theorem ceil_lt {s : CoSt κ} {N k : Nat} (g : Good s N) (hk : k ≤ s.count) (h : Fnd s k) : ceilAt s k < 256 ^ k := by
  have h1 : ceilAt s k * unit s k < 256 ^ k * unit s k := by
    have e : (256 : Int) ^ k * unit s k = 256 ^ s.count := by
      unfold unit
      rw [← Int.pow_add]
      congr 1
      omega
    rw [e]
    have := g.top
    unfold Fnd at h
    omega
  exact Int.lt_of_mul_lt_mul_right h1 (Int.le_of_lt (unit_pos s k))
theorem figs_bound {v : Int} {k : Nat} : ∀ x ∈ figs v k, 0 ≤ x ∧ x < 256 := fun x h => by
  obtain ⟨j, _, rfl⟩ := List.mem_map.mp h
  omega
theorem figs_length {v : Int} {k : Nat} : (figs v k).length = k := by unfold figs; simp
/-- the figures from the least on, turned round -/
def lsd (v : Int) (k : Nat) : List Int := (List.range k).map fun j => v / 256 ^ j % 256
theorem lsd_succ (v : Int) (k : Nat) : lsd v (k + 1) = lsd v k ++ [v / 256 ^ k % 256] := by
  unfold lsd
  rw [List.range_succ, List.map_append]
  rfl
theorem lsd_rev (v : Int) (k : Nat) : (lsd v k).reverse = figs v k := by
  unfold lsd figs
  apply List.ext_getElem
  · simp
  · intro i h1 h2
    simp at h1
    rw [List.getElem_reverse]
    simp
theorem div_succ (v : Int) (k : Nat) : v / 256 ^ k / 256 = v / 256 ^ (k + 1) := by
  rw [Int.pow_succ, Int.ediv_ediv_of_nonneg (Int.pow_nonneg (by decide))]
theorem pow_two8 (m : Nat) : (2 : Int) ^ (8 * m) = 256 ^ m := by
  rw [Int.pow_mul]
  rfl
end

/-! ### the binary figures of a number -/
def bl (n : Nat) : Nat := if h : n = 0 then 0 else bl (n / 2) + 1
decreasing_by omega
theorem bl_zero : bl 0 = 0 := by unfold bl; simp
theorem bl_pos {n : Nat} (h : n ≠ 0) : bl n = bl (n / 2) + 1 := by
  rw [bl]
  simp [h]
theorem bl_le : ∀ {m n : Nat}, n < 2 ^ m → bl n ≤ m
  | 0, n, h => by
    have : n = 0 := by simpa using h
    subst this
    rw [bl_zero]
    exact Nat.le_refl _
  | m + 1, n, h => by
    by_cases e : n = 0
    · subst e; rw [bl_zero]; omega
    · rw [bl_pos e]
      have : n / 2 < 2 ^ m := by rw [Nat.pow_succ] at h; omega
      have := bl_le this
      omega
theorem bl_ge {n : Nat} (h : n ≠ 0) : 1 ≤ bl n := by rw [bl_pos h]; omega
theorem div_bl : ∀ {m n : Nat}, bl n = m → n / 2 ^ m = 0
  | 0, n, h => by
    by_cases e : n = 0
    · subst e; simp
    · have := bl_ge e; omega
  | m + 1, n, h => by
    by_cases e : n = 0
    · subst e; simp
    · rw [bl_pos e] at h
      have := div_bl (m := m) (n := n / 2) (by omega)
      rw [Nat.div_div_eq_div_mul] at this
      rw [Nat.pow_succ, Nat.mul_comm]
      exact this
theorem div_lt_bl : ∀ {i n : Nat}, i < bl n → n / 2 ^ i ≠ 0
  | 0, n, h => by
    intro e
    rw [Nat.pow_zero, Nat.div_one] at e
    rw [e, bl_zero] at h
    omega
  | i + 1, n, h => by
    by_cases e : n = 0
    · rw [e, bl_zero] at h; omega
    · rw [bl_pos e] at h
      have := div_lt_bl (i := i) (n := n / 2) (by omega)
      rw [Nat.div_div_eq_div_mul] at this
      rw [Nat.pow_succ, Nat.mul_comm]
      exact this

/-! ### events -/
abbrev Kk := List (Sum Int Str)
abbrev Ev := List (Kk × Int)
def k3 (w : Str) (a b : Int) : Kk := [.inr w, .inl a, .inl b]
def k2 (w : Str) (n : Int) : Kk := [.inr w, .inl n]
def fg (v : Int) : Nat := bl (v + 1).toNat
def evA (w : Str) (i : Nat) : Kk × Int := (k3 w 0 (i : Int), 1)
def evB (w : Str) (v : Int) : Ev := if fg v < 16 then [(k3 w 0 ((fg v : Int) - 1), 0)] else []
def evC (w : Str) (v : Int) (t : Nat) : Kk × Int := (k3 w 1 ((fg v : Int) - 2 - (t : Int)), (v + 1) / 2 ^ (fg v - 2 - t) % 2)
def evNum (w : Str) (v : Int) : Ev := (List.range (fg v - 1)).map (evA w) ++ (evB w v ++ (List.range (fg v - 1)).map (evC w v))
def fold (v : Int) : Int := if v > 0 then 2 * v - 1 else -2 * v
def word (i k : Nat) : Str := if i = 0 ∧ k = 0 then "low" else if i < 2 ∧ k < 2 then "mid" else "high"
def evCell (i k : Nat) (row : List Int) : Ev := evNum (word i k) (fold (row.getD k 0))
def evRow (n i : Nat) (row : List Int) : Ev := (List.range n).flatMap fun k => evCell i k row
def evLv (n : Nat) (rows : List (List Int)) : Ev := (List.range n).flatMap fun i => evRow n i (rows.getD i [])

theorem fg_pos {v : Int} (h : 0 ≤ v) : 1 ≤ fg v := bl_ge (by omega)
theorem evB_len (w : Str) (v : Int) : (evB w v).length ≤ 1 := by
  unfold evB
  split <;> simp
theorem evNum_len (w : Str) (v : Int) : (evNum w v).length ≤ 2 * (fg v - 1) + 1 := by
  have := evB_len w v
  unfold evNum
  rw [List.length_append, List.length_append, List.length_map, List.length_map, List.length_range]
  omega
theorem fg_le {v : Int} {m : Nat} (h : v + 1 < 2 ^ m) : fg v ≤ m := by
  unfold fg
  refine bl_le ?_
  have e : ((2 ^ m : Nat) : Int) = (2 : Int) ^ m := by simp
  have p : 0 < 2 ^ m := Nat.pow_pos (by decide)
  omega
theorem evNum_le {w : Str} {v : Int} {m : Nat} (h : v + 1 < 2 ^ m) (hm : 1 ≤ m) : (evNum w v).length ≤ 2 * m - 1 := by
  have h1 := fg_le h
  have h2 := evNum_len w v
  omega
theorem fold_nonneg (v : Int) : 0 ≤ fold v := by unfold fold; split <;> omega
theorem fold_le {v b : Int} (h1 : -b ≤ v) (h2 : v ≤ b) : fold v ≤ 2 * b := by unfold fold; split <;> omega

/-! ### costs of cells, rows, squares -/
def cst (v : Int) : Nat := 2 * (fg (fold v) - 1) + 1
theorem cst_pos (v : Int) : 1 ≤ cst v := by unfold cst; omega
theorem cst_zero : cst 0 = 1 := by
  unfold cst fg fold
  rw [show (((if (0 : Int) > 0 then 2 * 0 - 1 else -2 * 0) : Int) + 1).toNat = 1 by decide, bl_pos (by decide), show 1 / 2 = 0 by decide, bl_zero]
theorem cst_le {v b : Int} {m : Nat} (h1 : -b ≤ v) (h2 : v ≤ b) (hb : 2 * b + 1 < 2 ^ m) : cst v ≤ 2 * (m - 1) + 1 := by
  have := fold_le h1 h2
  have := fg_le (v := fold v) (m := m) (by omega)
  unfold cst
  omega
theorem cst_big {v : Int} (h1 : -2000 ≤ v) (h2 : v ≤ 2000) : cst v ≤ 23 := cst_le (m := 12) h1 h2 (by decide)
theorem cst_small {v : Int} (h1 : -2 ≤ v) (h2 : v ≤ 2) : cst v ≤ 5 := cst_le (m := 3) h1 h2 (by decide)
def rowC (r : List Int) : Nat := (r.map cst).sum
def sqC (rows : List (List Int)) : Nat := (rows.map rowC).sum
theorem flat_len {n : Nat} {f : Nat → Ev} {c : Nat → Nat} (h : ∀ i, i < n → (f i).length ≤ c i) : ((List.range n).flatMap f).length ≤ ((List.range n).map c).sum := by
  induction n with
  | zero => simp
  | succ n ih =>
    rw [List.range_succ, List.flatMap_append, List.length_append, List.map_append, List.sum_append]
    have h1 := ih fun i hi => h i (by omega)
    have h2 := h n (by omega)
    have e1 : [n].flatMap f = f n := by simp
    have e2 : (List.map c [n]).sum = c n := by simp
    rw [e1, e2]
    omega
theorem range_sum : ∀ {l : List Nat}, ((List.range l.length).map fun i => l.getD i 0).sum = l.sum := fun {l} => by
  have : (List.range l.length).map (fun i => l.getD i 0) = l := by
    apply List.ext_getElem
    · simp
    · intro i h1 h2
      simp [List.getD, h2]
  rw [this]
theorem evRow_len {n i : Nat} {row : List Int} (h : row.length = n) : (evRow n i row).length ≤ rowC row := by
  subst h
  unfold evRow rowC
  have h1 := flat_len (n := row.length) (f := fun k => evCell i k row) (c := fun k => (row.map cst).getD k 0) fun k hk => by
    unfold evCell
    have h2 := evNum_len (word i k) (fold (row.getD k 0))
    have h3 : (row.map cst).getD k 0 = cst (row.getD k 0) := by simp [List.getD, hk]
    rw [h3]
    exact h2
  have h2 := range_sum (l := row.map cst)
  rw [List.length_map] at h2
  rw [h2] at h1
  exact h1
theorem evLv_len {n : Nat} {rows : List (List Int)} (h : rows.length = n) (hr : ∀ r ∈ rows, r.length = n) : (evLv n rows).length ≤ sqC rows := by
  subst h
  unfold evLv sqC
  have h1 := flat_len (n := rows.length) (f := fun i => evRow rows.length i (rows.getD i [])) (c := fun i => (rows.map rowC).getD i 0) fun i hi => by
    have h3 : (rows.map rowC).getD i 0 = rowC (rows.getD i []) := by simp [List.getD, hi]
    rw [h3]
    refine evRow_len (hr _ ?_)
    have e : rows.getD i [] = rows[i] := by simp [List.getD, hi]
    rw [e]
    exact List.getElem_mem hi
  have h2 := range_sum (l := rows.map rowC)
  rw [List.length_map] at h2
  rw [h2] at h1
  exact h1
/-- one cell stored -/
theorem sum_set {c : List Nat} {i x : Nat} (h : i < c.length) : (c.set i x).sum + c[i] = c.sum + x := by
  induction c generalizing i with
  | nil => exact absurd h (Nat.not_lt_zero _)
  | cons a r ih =>
    cases i with
    | zero => simp; omega
    | succ i =>
      have h2 : i < r.length := by simpa using h
      have := ih h2
      simp
      omega
theorem rowC_set {r : List Int} {k : Nat} {v : Int} (hk : k < r.length) : rowC (r.set k v) + cst r[k] = rowC r + cst v := by
  unfold rowC
  rw [List.map_set]
  have := sum_set (c := r.map cst) (i := k) (x := cst v) (by simpa using hk)
  simpa using this
theorem sqC_set {rows : List (List Int)} {i : Nat} {r : List Int} (hi : i < rows.length) : sqC (rows.set i r) + rowC rows[i] = sqC rows + rowC r := by
  unfold sqC
  rw [List.map_set]
  have := sum_set (c := rows.map rowC) (i := i) (x := rowC r) (by simpa using hi)
  simpa using this
theorem rowC_le {r : List Int} {c : Nat} (h : ∀ v ∈ r, cst v ≤ c) : rowC r ≤ c * r.length := by
  induction r with
  | nil => simp [rowC]
  | cons v r ih =>
    have h1 := ih fun x hx => h x (List.mem_cons_of_mem _ hx)
    have h2 := h v (List.mem_cons_self ..)
    unfold rowC at h1 ⊢
    rw [List.map_cons, List.sum_cons, List.length_cons, Nat.mul_succ]
    omega
theorem sqC_le {rows : List (List Int)} {c n : Nat} (h : ∀ r ∈ rows, r.length = n ∧ ∀ v ∈ r, cst v ≤ c) : sqC rows ≤ c * n * rows.length := by
  induction rows with
  | nil => simp [sqC]
  | cons r rows ih =>
    have h1 := ih fun x hx => h x (List.mem_cons_of_mem _ hx)
    obtain ⟨h2, h3⟩ := h r (List.mem_cons_self ..)
    have h4 := rowC_le h3
    rw [h2] at h4
    unfold sqC at h1 ⊢
    rw [List.map_cons, List.sum_cons, List.length_cons, Nat.mul_succ]
    omega
end Bo

/-! The top's text by places; the head's facts, read in one run. -/
namespace Bo
open PySem PySem.Spec L2 PyProof.Rows
abbrev pr : Program := PySem.Challenge.pw_picturetide_k17_whole_band_octets
def top (i : Nat) : Stmt := PySem.Challenge.pw_picturetide_k17_whole_band_octets.main.body.getD i (.Pass ⟨0, 0, 0, 0⟩)
abbrev s_Interval_init : Stmt := inClass (top 8) 0
abbrev s_Interval_cut : Stmt := inClass (top 8) 1
abbrev s_Interval_narrow : Stmt := inClass (top 8) 2
abbrev s_Coder_init : Stmt := inClass (top 9) 0
abbrev s_Coder_put : Stmt := inClass (top 9) 1
abbrev s_Coder_state : Stmt := inClass (top 9) 2
abbrev s_Coder_octets : Stmt := inClass (top 9) 3
abbrev s_octets_at : Stmt := top 10
abbrev s_figures_of : Stmt := top 11
abbrev s_figures_in : Stmt := top 14
abbrev s_put_number : Stmt := top 15
abbrev s_folded : Stmt := top 16
abbrev s_put_signed : Stmt := top 17
abbrev s_InvalidTree_init : Stmt := inClass (top 20) 0
abbrev s_is_integer : Stmt := top 31
abbrev s_is_within : Stmt := top 32
abbrev s_is_levels : Stmt := top 33
abbrev s_is_leaf : Stmt := top 34
abbrev s_is_tree : Stmt := top 35
abbrev s_is_band_tree : Stmt := top 36
abbrev s_need_band_tree : Stmt := top 37
abbrev s_is_empty : Stmt := top 38
abbrev s_word_at : Stmt := top 40
abbrev s_put_leaf : Stmt := top 41
abbrev s_put_tree : Stmt := top 42
abbrev s_octets_of : Stmt := top 43
abbrev s_band_octets : Stmt := top 44
abbrev s_l_draws : Stmt := top 46
abbrev s_l_take : Stmt := top 47
abbrev s_l_is_integer : Stmt := top 48
abbrev s_l_is_leaf : Stmt := top 49
abbrev s_l_is_tree : Stmt := top 50
abbrev s_l_is_band : Stmt := top 51
abbrev s_l_level : Stmt := top 52
abbrev s_l_square : Stmt := top 53
abbrev s_l_shift : Stmt := top 54
abbrev s_l_leaf : Stmt := top 55
abbrev s_l_tree : Stmt := top 56
abbrev s_l_band : Stmt := top 57
abbrev s_l_wrong : Stmt := top 58
abbrev s_l_grafted : Stmt := top 59
abbrev s_l_spoilt : Stmt := top 60
abbrev s_l_coder : Stmt := top 61
abbrev s_l_narrow : Stmt := top 62
abbrev s_l_put : Stmt := top 63
abbrev s_l_octets : Stmt := top 64
abbrev s_l_figures : Stmt := top 65
abbrev s_l_put_number : Stmt := top 66
abbrev s_l_unsigned : Stmt := top 67
abbrev s_l_word : Stmt := top 68
abbrev s_l_is_empty : Stmt := top 69
abbrev s_l_put_leaf : Stmt := top 70
abbrev s_l_put_tree : Stmt := top 71
abbrev s_l_written : Stmt := top 72
abbrev s_l_refused : Stmt := top 73
abbrev s_law : Stmt := top 74
def d_Interval_init : He.DefD := ⟨("Interval", some "__init__"), "__init__", "Interval.__init__", defArgs s_Interval_init, defBody s_Interval_init, defScope s_Interval_init, [], []⟩
def d_Interval_cut : He.DefD := ⟨("Interval", some "cut"), "cut", "Interval.cut", defArgs s_Interval_cut, defBody s_Interval_cut, defScope s_Interval_cut, [], []⟩
def d_Interval_narrow : He.DefD := ⟨("Interval", some "narrow"), "narrow", "Interval.narrow", defArgs s_Interval_narrow, defBody s_Interval_narrow, defScope s_Interval_narrow, [], []⟩
def d_Coder_init : He.DefD := ⟨("Coder", some "__init__"), "__init__", "Coder.__init__", defArgs s_Coder_init, defBody s_Coder_init, defScope s_Coder_init, [], []⟩
def d_Coder_put : He.DefD := ⟨("Coder", some "put"), "put", "Coder.put", defArgs s_Coder_put, defBody s_Coder_put, defScope s_Coder_put, [], []⟩
def d_Coder_state : He.DefD := ⟨("Coder", some "state"), "state", "Coder.state", defArgs s_Coder_state, defBody s_Coder_state, defScope s_Coder_state, [], []⟩
def d_Coder_octets : He.DefD := ⟨("Coder", some "octets"), "octets", "Coder.octets", defArgs s_Coder_octets, defBody s_Coder_octets, defScope s_Coder_octets, [], []⟩
def d_octets_at : He.DefD := ⟨("octets_at", none), "octets_at", "octets_at", defArgs s_octets_at, defBody s_octets_at, defScope s_octets_at, [], []⟩
def d_figures_of : He.DefD := ⟨("figures_of", none), "figures_of", "figures_of", defArgs s_figures_of, defBody s_figures_of, defScope s_figures_of, [], []⟩
def d_figures_in : He.DefD := ⟨("figures_in", none), "figures_in", "figures_in", defArgs s_figures_in, defBody s_figures_in, defScope s_figures_in, [], []⟩
def d_put_number : He.DefD := ⟨("put_number", none), "put_number", "put_number", defArgs s_put_number, defBody s_put_number, defScope s_put_number, [], []⟩
def d_folded : He.DefD := ⟨("folded", none), "folded", "folded", defArgs s_folded, defBody s_folded, defScope s_folded, [], []⟩
def d_put_signed : He.DefD := ⟨("put_signed", none), "put_signed", "put_signed", defArgs s_put_signed, defBody s_put_signed, defScope s_put_signed, [], []⟩
def d_InvalidTree_init : He.DefD := ⟨("InvalidTree", some "__init__"), "__init__", "InvalidTree.__init__", defArgs s_InvalidTree_init, defBody s_InvalidTree_init, defScope s_InvalidTree_init, [], []⟩
def d_is_integer : He.DefD := ⟨("is_integer", none), "is_integer", "is_integer", defArgs s_is_integer, defBody s_is_integer, defScope s_is_integer, [], []⟩
def d_is_within : He.DefD := ⟨("is_within", none), "is_within", "is_within", defArgs s_is_within, defBody s_is_within, defScope s_is_within, [], []⟩
def d_is_levels : He.DefD := ⟨("is_levels", none), "is_levels", "is_levels", defArgs s_is_levels, defBody s_is_levels, defScope s_is_levels, [], []⟩
def d_is_leaf : He.DefD := ⟨("is_leaf", none), "is_leaf", "is_leaf", defArgs s_is_leaf, defBody s_is_leaf, defScope s_is_leaf, [], []⟩
def d_is_tree : He.DefD := ⟨("is_tree", none), "is_tree", "is_tree", defArgs s_is_tree, defBody s_is_tree, defScope s_is_tree, [], []⟩
def d_is_band_tree : He.DefD := ⟨("is_band_tree", none), "is_band_tree", "is_band_tree", defArgs s_is_band_tree, defBody s_is_band_tree, defScope s_is_band_tree, [], []⟩
def d_need_band_tree : He.DefD := ⟨("need_band_tree", none), "need_band_tree", "need_band_tree", defArgs s_need_band_tree, defBody s_need_band_tree, defScope s_need_band_tree, [], []⟩
def d_is_empty : He.DefD := ⟨("is_empty", none), "is_empty", "is_empty", defArgs s_is_empty, defBody s_is_empty, defScope s_is_empty, [], []⟩
def d_word_at : He.DefD := ⟨("word_at", none), "word_at", "word_at", defArgs s_word_at, defBody s_word_at, defScope s_word_at, [], []⟩
def d_put_leaf : He.DefD := ⟨("put_leaf", none), "put_leaf", "put_leaf", defArgs s_put_leaf, defBody s_put_leaf, defScope s_put_leaf, [], []⟩
def d_put_tree : He.DefD := ⟨("put_tree", none), "put_tree", "put_tree", defArgs s_put_tree, defBody s_put_tree, defScope s_put_tree, [], []⟩
def d_octets_of : He.DefD := ⟨("octets_of", none), "octets_of", "octets_of", defArgs s_octets_of, defBody s_octets_of, defScope s_octets_of, [], []⟩
def d_band_octets : He.DefD := ⟨("band_octets", none), "band_octets", "band_octets", defArgs s_band_octets, defBody s_band_octets, defScope s_band_octets, [], []⟩
def d_l_draws : He.DefD := ⟨("_law_draws", none), "_law_draws", "_law_draws", defArgs s_l_draws, defBody s_l_draws, defScope s_l_draws, [], []⟩
def d_l_take : He.DefD := ⟨("_law_take", none), "_law_take", "_law_take", defArgs s_l_take, defBody s_l_take, defScope s_l_take, [], []⟩
def d_l_is_integer : He.DefD := ⟨("_law_is_integer", none), "_law_is_integer", "_law_is_integer", defArgs s_l_is_integer, defBody s_l_is_integer, defScope s_l_is_integer, [], []⟩
def d_l_is_leaf : He.DefD := ⟨("_law_is_leaf", none), "_law_is_leaf", "_law_is_leaf", defArgs s_l_is_leaf, defBody s_l_is_leaf, defScope s_l_is_leaf, [], []⟩
def d_l_is_tree : He.DefD := ⟨("_law_is_tree", none), "_law_is_tree", "_law_is_tree", defArgs s_l_is_tree, defBody s_l_is_tree, defScope s_l_is_tree, [], []⟩
def d_l_is_band : He.DefD := ⟨("_law_is_band", none), "_law_is_band", "_law_is_band", defArgs s_l_is_band, defBody s_l_is_band, defScope s_l_is_band, [], []⟩
def d_l_level : He.DefD := ⟨("_law_level", none), "_law_level", "_law_level", defArgs s_l_level, defBody s_l_level, defScope s_l_level, [], []⟩
def d_l_square : He.DefD := ⟨("_law_square", none), "_law_square", "_law_square", defArgs s_l_square, defBody s_l_square, defScope s_l_square, [], []⟩
def d_l_shift : He.DefD := ⟨("_law_shift", none), "_law_shift", "_law_shift", defArgs s_l_shift, defBody s_l_shift, defScope s_l_shift, [], []⟩
def d_l_leaf : He.DefD := ⟨("_law_leaf", none), "_law_leaf", "_law_leaf", defArgs s_l_leaf, defBody s_l_leaf, defScope s_l_leaf, [], []⟩
def d_l_tree : He.DefD := ⟨("_law_tree", none), "_law_tree", "_law_tree", defArgs s_l_tree, defBody s_l_tree, defScope s_l_tree, [], []⟩
def d_l_band : He.DefD := ⟨("_law_band", none), "_law_band", "_law_band", defArgs s_l_band, defBody s_l_band, defScope s_l_band, [], []⟩
def d_l_wrong : He.DefD := ⟨("_law_wrong", none), "_law_wrong", "_law_wrong", defArgs s_l_wrong, defBody s_l_wrong, defScope s_l_wrong, [], []⟩
def d_l_grafted : He.DefD := ⟨("_law_grafted", none), "_law_grafted", "_law_grafted", defArgs s_l_grafted, defBody s_l_grafted, defScope s_l_grafted, [], []⟩
def d_l_spoilt : He.DefD := ⟨("_law_spoilt", none), "_law_spoilt", "_law_spoilt", defArgs s_l_spoilt, defBody s_l_spoilt, defScope s_l_spoilt, [], []⟩
def d_l_coder : He.DefD := ⟨("_law_coder", none), "_law_coder", "_law_coder", defArgs s_l_coder, defBody s_l_coder, defScope s_l_coder, [], []⟩
def d_l_narrow : He.DefD := ⟨("_law_narrow", none), "_law_narrow", "_law_narrow", defArgs s_l_narrow, defBody s_l_narrow, defScope s_l_narrow, [], []⟩
def d_l_put : He.DefD := ⟨("_law_put", none), "_law_put", "_law_put", defArgs s_l_put, defBody s_l_put, defScope s_l_put, [], []⟩
def d_l_octets : He.DefD := ⟨("_law_octets", none), "_law_octets", "_law_octets", defArgs s_l_octets, defBody s_l_octets, defScope s_l_octets, [], []⟩
def d_l_figures : He.DefD := ⟨("_law_figures", none), "_law_figures", "_law_figures", defArgs s_l_figures, defBody s_l_figures, defScope s_l_figures, [], []⟩
def d_l_put_number : He.DefD := ⟨("_law_put_number", none), "_law_put_number", "_law_put_number", defArgs s_l_put_number, defBody s_l_put_number, defScope s_l_put_number, [], []⟩
def d_l_unsigned : He.DefD := ⟨("_law_unsigned", none), "_law_unsigned", "_law_unsigned", defArgs s_l_unsigned, defBody s_l_unsigned, defScope s_l_unsigned, [], []⟩
def d_l_word : He.DefD := ⟨("_law_word", none), "_law_word", "_law_word", defArgs s_l_word, defBody s_l_word, defScope s_l_word, [], []⟩
def d_l_is_empty : He.DefD := ⟨("_law_is_empty", none), "_law_is_empty", "_law_is_empty", defArgs s_l_is_empty, defBody s_l_is_empty, defScope s_l_is_empty, [], []⟩
def d_l_put_leaf : He.DefD := ⟨("_law_put_leaf", none), "_law_put_leaf", "_law_put_leaf", defArgs s_l_put_leaf, defBody s_l_put_leaf, defScope s_l_put_leaf, [], []⟩
def d_l_put_tree : He.DefD := ⟨("_law_put_tree", none), "_law_put_tree", "_law_put_tree", defArgs s_l_put_tree, defBody s_l_put_tree, defScope s_l_put_tree, [], []⟩
def d_l_written : He.DefD := ⟨("_law_written", none), "_law_written", "_law_written", defArgs s_l_written, defBody s_l_written, defScope s_l_written, [], []⟩
def d_l_refused : He.DefD := ⟨("_law_refused", none), "_law_refused", "_law_refused", defArgs s_l_refused, defBody s_l_refused, defScope s_l_refused, [], []⟩
def d_law : He.DefD := ⟨("law", none), "law", "law", defArgs s_law, defBody s_law, defScope s_law, [], []⟩
def fnL : List He.DefD := [d_Interval_init, d_Interval_cut, d_Interval_narrow, d_Coder_init, d_Coder_put, d_Coder_state, d_Coder_octets, d_octets_at, d_figures_of, d_figures_in, d_put_number, d_folded, d_put_signed, d_InvalidTree_init, d_is_integer, d_is_within, d_is_levels, d_is_leaf, d_is_tree, d_is_band_tree, d_need_band_tree, d_is_empty, d_word_at, d_put_leaf, d_put_tree, d_octets_of, d_band_octets, d_l_draws, d_l_take, d_l_is_integer, d_l_is_leaf, d_l_is_tree, d_l_is_band, d_l_level, d_l_square, d_l_shift, d_l_leaf, d_l_tree, d_l_band, d_l_wrong, d_l_grafted, d_l_spoilt, d_l_coder, d_l_narrow, d_l_put, d_l_octets, d_l_figures, d_l_put_number, d_l_unsigned, d_l_word, d_l_is_empty, d_l_put_leaf, d_l_put_tree, d_l_written, d_l_refused, d_law]
def faL : List He.Fa := [.glo "octets_at", .glo "figures_of", .glo "figures_in", .glo "put_number", .glo "folded", .glo "put_signed", .glo "is_integer", .glo "is_within", .glo "is_levels", .glo "is_leaf", .glo "is_tree", .glo "is_band_tree", .glo "need_band_tree", .glo "is_empty", .glo "word_at", .glo "put_leaf", .glo "put_tree", .glo "octets_of", .glo "band_octets", .glo "_law_draws", .glo "_law_take", .glo "_law_is_integer", .glo "_law_is_leaf", .glo "_law_is_tree", .glo "_law_is_band", .glo "_law_level", .glo "_law_square", .glo "_law_shift", .glo "_law_leaf", .glo "_law_tree", .glo "_law_band", .glo "_law_wrong", .glo "_law_grafted", .glo "_law_spoilt", .glo "_law_coder", .glo "_law_narrow", .glo "_law_put", .glo "_law_octets", .glo "_law_figures", .glo "_law_put_number", .glo "_law_unsigned", .glo "_law_word", .glo "_law_is_empty", .glo "_law_put_leaf", .glo "_law_put_tree", .glo "_law_written", .glo "_law_refused", .glo "law", .glo "Interval", .glo "Coder", .glo "InvalidTree", .glo "TideError", .glo "MODES", .glo "FACTORS", .free "isinstance", .free "len", .free "all", .free "any", .free "range", .free "tuple", .free "int", .free "list", .free "str", .free "bool", .free "enumerate", .free "abs", .free "repr", .int "WHOLE" 4096, .int "HALF" 2048, .int "RATE" 32, .int "FIRST_COUNT" 4, .int "BASE" 256, .int "BITS" 8, .int "LEAST_WIDTH" 16777216, .int "MOST_FIGURES" 16, .int "SLOTS" 3, .int "BLOCK" 8, .int "MOST_BLOCKS" 4, .int "LEAST_AREA" 2, .int "GREATEST_SHIFT" 31, .int "GREATEST_LEVEL" 2000, .int "LEAF_PARTS" 7, .cls "Interval", .cls "Coder", .noat "Interval" "low", .noat "Interval" "width", .noat "Interval" "count", .noat "Interval" "chances", .noat "Coder" "interval", .noat "InvalidTree" "value", .meth "Interval" "cut", .meth "Interval" "narrow", .meth "Coder" "put", .meth "Coder" "state", .meth "Coder" "octets", .meth "InvalidTree" "__init__", .mkr "Interval", .mkr "Coder", .exm "InvalidTree" "InvalidTree" true]
def mV : List He.Dv := [.str "flat", .str "down", .str "right", .str "slope", .str "motion"]
def fV : List He.Dv := [.int 1, .int 2, .int 4, .int 8, .int 16, .int 32, .int 64]
/-! ### what more the written part must say -/
def oexB (K : PySem.W.Frag) (C : Addr) : Bool :=
  (match K.lookup C with
    | some ⟨.type "type", _, .cls cd,
          sl⟩ => (match cd.mro, sl.toList with
      | .ref C1 :: bm, [_, _, _, _, some (.builtin n), _] => decide (C1 = C) && (decide (n = "ValueError.__new__") && (!cd.hasDel && (cd.hasDict && PySem.HandSPX.refsVE bm)))
      | _, _ => false)
    | _ => false) && (decide (PySem.W.findIn K (.ref C) "__setattr__" = some (some (.builtin "object.__setattr__"))) && (decide (PySem.W.subIn K (.ref C) (.type "BaseException") = some true) &&
      (decide (PySem.W.typeIn K (.ref C) = some (.type "type")) && PySem.W.keepIn K (.ref C))))
theorem oexB_ok {K : PySem.W.Frag} {C : Addr} (h : oexB K C = true) : OexC K C := by
  obtain ⟨h1, h⟩ := He.ba h
  obtain ⟨h2, h⟩ := He.ba h
  obtain ⟨h3, h⟩ := He.ba h
  obtain ⟨h4, h5⟩ := He.ba h
  refine ⟨?_, of_decide_eq_true h2, of_decide_eq_true h3, of_decide_eq_true h4, h5⟩
  split at h1
  · rename_i dd cd sl lk
    split at h1
    · rename_i C1 bm k0 k1 k2 k3 n k5 hm hs
      obtain ⟨e1, h1⟩ := He.ba h1
      obtain ⟨e2, h1⟩ := He.ba h1
      obtain ⟨e3, h1⟩ := He.ba h1
      obtain ⟨e4, e5⟩ := He.ba h1
      have e1 := of_decide_eq_true e1
      have e2 := of_decide_eq_true e2
      obtain ⟨nm, bs, mro, ns, qn,
          hd, sn, sub, ab, col, del⟩ := cd
      obtain ⟨l⟩ := sl
      dsimp only at hm hs e3 e4
      subst hm hs e1 e2 e4
      have e6 : del = false := by simpa using e3
      subst e6
      exact ⟨nm, qn, ns, bs, bm, sn, sub, ab, col, dd, k0, k1, k2, k3, k5, lk, e5⟩
    · cases h1
  · cases h1
/-- of the error's class, so that isinstance and e.value are asked rightly -/
structure ErrC (K : PySem.W.Frag) (C T : Addr) : Prop where
  oex : OexC K C
  xf : XfC K C
  cc : PySem.W.findIn K (.ref C) "__class__" = some (some (.builtin "object.__class__"))
  gs : PySem.W.specialIn K (.builtin "object.__class__") "__get__" = some (some (.builtin "getset_descriptor.__get__"))
  tk : PySem.W.takesIn K (.builtin "object.__class__") = some true
  mo : PySem.W.mroIn K C (.type "object") = some true
  isT : PySem.W.kitOne K (.ref C) (.ref T) = some true
  tI : PySem.W.typeIn K (.ref (He.ma K C "__init__")) = some (.type "function")
def errB (K : PySem.W.Frag) (C T : Addr) : Bool :=
  oexB K C && (xfB K C && (decide (PySem.W.findIn K (.ref C) "__class__" = some (some (.builtin "object.__class__"))) && (decide (PySem.W.specialIn K (.builtin "object.__class__") "__get__" = some (some (.builtin "getset_descriptor.__get__"))) &&
    (decide (PySem.W.takesIn K (.builtin "object.__class__") = some true) && (decide (PySem.W.mroIn K C (.type "object") = some true) && (decide (PySem.W.kitOne K (.ref C) (.ref T) = some true) && decide (PySem.W.typeIn K (.ref (He.ma K C "__init__")) = some (.type "function"))))))))
theorem errB_ok {K : PySem.W.Frag} {C T : Addr} (h : errB K C T = true) : ErrC K C T := by
  obtain ⟨h1, h⟩ := He.ba h
  obtain ⟨h2, h⟩ := He.ba h
  obtain ⟨h3, h⟩ := He.ba h
  obtain ⟨h4, h⟩ := He.ba h
  obtain ⟨h5, h⟩ := He.ba h
  obtain ⟨h6, h⟩ := He.ba h
  obtain ⟨h7, h8⟩ := He.ba h
  exact ⟨oexB_ok h1, xfB_ok h2, of_decide_eq_true h3, of_decide_eq_true h4, of_decide_eq_true h5, of_decide_eq_true h6, of_decide_eq_true h7, of_decide_eq_true h8⟩
/-- a tuple of the top that has no dict -/
def dnB (K : PySem.W.Frag) (x : Str) : Bool := match K.lookup (He.ga K x) with
  | some ⟨.type c, none, _, _⟩ => decide (c = "tuple")
  | _ => false
theorem dnB_ok {K : PySem.W.Frag} {x : Str} (h : dnB K x = true) : ∃ o, K.lookup (He.ga K x) = some o ∧ o.cls = .type "tuple" ∧ o.dict = none := by
  unfold dnB at h
  split at h
  · rename_i q
    exact ⟨_, q, congrArg Value.type (of_decide_eq_true h), rfl⟩
  · cases h
def exB (K : PySem.W.Frag) : Bool := errB K (He.ga K "InvalidTree") (He.ga K "TideError") && ((He.tupB K "MODES" mV && He.tupB K "FACTORS" fV) && (dnB K "MODES" && dnB K "FACTORS"))
/-! ### the hook -/
abbrev AlM : Type := He.AlD × Bool
def obM (g : Addr → Option Obj) : AlM := (He.obsDG 5 faL fnL g, exB (He.frG g (He.asD g 5)))
def SaysM (K : PySem.W.Frag) : Prop := He.SaysD faL fnL K ∧ exB K = true
def hookM : PySem.W.Hook where
  α := AlM
  obs := fun s => obM s.heap.get?
  val := fun _ => (He.valD fnL, true)
  says := fun _ h => ∃ K : PySem.W.Frag, K.In h ∧ SaysM K
  of := fun _ _ e => ⟨_, He.frG_in, congrArg (fun z : AlM => z.1) e, congrArg (fun z : AlM => z.2) e⟩
  keeps := fun _ _ _ ⟨K, hK, c⟩ k => ⟨K,
      PySem.W.Frag.In.keeps hK k, c⟩
def obT (s : PySem.W.SharedT) : AlM := obM (HandSHeadRun.getT s)
theorem obT_eq (s : PySem.W.SharedT) : obT s = hookM.obs s.abs := by
  have e : HandSHeadRun.getT s = s.abs.heap.get? := funext fun a => HandSHeadRun.getT_eq s a
  unfold obT
  rw [e] <;> rfl
abbrev Rw : PySem.W.OpenRow := PySem.W.OpenLaw.row PySem.Challenge.rw_picturetide_k17_whole_band_octets
def loose0 : List Str := [("WHOLE" : Str), ("HALF" : Str), ("RATE" : Str), ("FIRST_COUNT" : Str), ("BASE" : Str), ("BITS" : Str), ("LEAST_WIDTH" : Str), ("Interval" : Str), ("Coder" : Str), ("octets_at" : Str), ("figures_of" : Str), ("MOST_FIGURES" : Str)]
def loose1 : List Str := [("figures_in" : Str), ("put_number" : Str), ("folded" : Str), ("put_signed" : Str), ("TideError" : Str), ("InvalidTree" : Str), ("MODES" : Str), ("FACTORS" : Str), ("SLOTS" : Str), ("BLOCK" : Str), ("MOST_BLOCKS" : Str), ("LEAST_AREA" : Str)]
def loose2 : List Str := [("GREATEST_SHIFT" : Str), ("GREATEST_LEVEL" : Str), ("LEAF_PARTS" : Str), ("is_integer" : Str), ("is_within" : Str), ("is_levels" : Str), ("is_leaf" : Str), ("is_tree" : Str), ("is_band_tree" : Str), ("need_band_tree" : Str), ("is_empty" : Str), ("word_at" : Str)]
def loose3 : List Str := [("put_leaf" : Str), ("put_tree" : Str), ("octets_of" : Str), ("band_octets" : Str), ("_law_draws" : Str), ("_law_take" : Str), ("_law_is_integer" : Str), ("_law_is_leaf" : Str), ("_law_is_tree" : Str), ("_law_is_band" : Str), ("_law_level" : Str), ("_law_square" : Str)]
def loose4 : List Str := [("_law_shift" : Str), ("_law_leaf" : Str), ("_law_tree" : Str), ("_law_band" : Str), ("_law_wrong" : Str), ("_law_grafted" : Str), ("_law_spoilt" : Str), ("_law_coder" : Str), ("_law_narrow" : Str), ("_law_put" : Str), ("_law_octets" : Str), ("_law_figures" : Str)]
def loose5 : List Str := [("_law_put_number" : Str), ("_law_unsigned" : Str), ("_law_word" : Str), ("_law_is_empty" : Str), ("_law_put_leaf" : Str), ("_law_put_tree" : Str), ("_law_written" : Str), ("_law_refused" : Str)]
def loose : List Str := loose0 ++ loose1 ++ loose2 ++ loose3 ++ loose4 ++ loose5
theorem hdRun (w : World) : HandSHeadRun.RunEq Rw (PySem.W.view Rw.prog [74]) hookM obT 6000 loose w := by
  intro os
  kernel_rfl
end Bo

/-! What the top has written, by names; bundles of a def's promise; heaps up to some objects; data. -/
namespace Bo
open PySem PySem.Spec L2 PyProof.Rows

/-! ### the written part -/
structure Tx (K : PySem.W.Frag) (mg : Str → Option Value) : Prop where
  d : He.SaysD faL fnL K
  e : exB K = true
  glo : ∀ x : Str, He.Fa.glo x ∈ faL → mg x = some (.ref (He.ga K x))
  fre : ∀ x : Str, He.Fa.free x ∈ faL → mg x = none
  num : ∀ (x : Str) (i : Int), He.Fa.int x i ∈ faL → ∃ t, mg x = some (.int i t)
theorem tx_of {K : PySem.W.Frag} {h : Heap} {mg : Str → Option Value} (X : K.In h) (G : h.Ns mainGlobals mg) (c : SaysM K) : Tx K mg where
  d := c.1
  e := c.2
  glo := fun x m => by
    obtain ⟨i, hi, e⟩ := List.mem_iff_getElem.mp m
    exact He.glo_ok X G (c.1.fact i (f := .glo x) (by rw [List.getElem?_eq_getElem hi, e]))
  fre := fun x m => by
    obtain ⟨i, hi, e⟩ := List.mem_iff_getElem.mp m
    exact He.free_ok X G (c.1.fact i (f := .free x) (by rw [List.getElem?_eq_getElem hi, e]))
  num := fun x n m => by
    obtain ⟨i, hi, e⟩ := List.mem_iff_getElem.mp m
    exact He.int_ok X G (c.1.fact i (f := .int x n) (by rw [List.getElem?_eq_getElem hi, e]))

/-- what a def of the text is behind the top -/
abbrev FnP (K : PySem.W.Frag) (x q : Str) (st : Stmt) (f : Addr) (fd : FuncData) : Prop := FunD K x q (defArgs st) (defBody st) (defScope st) [] [] f fd

/-! ### a def that may be called by its name; a method -/
structure Dfn (P : Program) (w : World) (K : PySem.W.Frag) (mg : Str → Option Value) (base : Heap) (CX : CXT) (k : Nat) (x : Str) (sp : Sp) : Prop where
  ok : ∃ (fd : FuncData) (ps : List Str), FnOk P w K mg base CX k (He.ga K x) fd ps sp ∧ Binds K fd ps []
  at_ : mg x = some (.ref (He.ga K x))
  kp : PySem.W.keepIn K (.ref (He.ga K x)) = true
structure Mtd (P : Program) (w : World) (K : PySem.W.Frag) (mg : Str → Option Value) (base : Heap) (CX : CXT) (k : Nat) (C m : Str) (sp : Sp) : Prop where
  ok : ∃ (fd : FuncData) (ps : List Str), FnOk P w K mg base CX k (He.ma K (He.ga K C) m) fd ps sp ∧ Binds K fd ps []
  cl : Cls K (He.ga K C)
  me : Meth K (He.ga K C) m (He.ma K (He.ga K C) m)
theorem Dfn.mono {P : Program} {w : World} {K : PySem.W.Frag} {mg : Str → Option Value} {base : Heap} {CX : CXT} {j k : Nat} {x : Str} {sp : Sp} (D : Dfn P w K mg base CX j x sp) (h : j ≤ k) : Dfn P w K mg base CX k x sp := by
  obtain ⟨fd, ps, F, b⟩ := D.ok
  exact ⟨⟨fd, ps, F.mono h, b⟩, D.at_, D.kp⟩
section
variable {X : Cx} {CX : CXT} {k j : Nat} {x m C : Str} {sp : Sp} {E : XK} {p pos apos : Pos} {e o : Expr} {es : List Expr} {ta : TE} {t : TA}
/-- f(e, ..) -/
theorem pe_cal (D : Dfn X.prog X.w X.K X.mg X.base CX k x sp) (hr : Room j X.A) (hk : k ≤ j) (hx : Passes CX X E) (ha : PA X (e :: es) t) (hg : Gl X x := by rfl)
    (hdb : (x == ("__debug__" : Str)) = false := by decide) (he : starEach (e :: es) X.env = (false,
        eval e X.env) :: starEach es X.env := by rfl) (hpl : (backTo pos (starEach es X.env)).any (·.1) = false := by rfl) :
    PE X (.Call (.Name x p) (e :: es) [] pos) (tCall sp [] E t) := by
  obtain ⟨fd, ps, F, b⟩ := D.ok
  exact pe_call F (hr.mono hk) hg D.at_ D.kp b .nil hx ha hdb he hpl
/-- f() -/
theorem pe_cal0 (D : Dfn X.prog X.w X.K X.mg X.base CX k x sp) (hr : Room j X.A) (hk : k ≤ j) (hx : Passes CX X E) (hg : Gl X x := by rfl)
    (hdb : (x == ("__debug__" : Str)) = false := by decide) : PE X (.Call (.Name x p) [] [] pos) (tCall sp [] E tNil) := by
  obtain ⟨fd, ps, F, b⟩ := D.ok
  exact pe_call0 F (hr.mono hk) hg D.at_ D.kp b .nil hx hdb
/-- o.m(e, ..) -/
theorem pe_mtd {pl : Sem Bool} (D : Mtd X.prog X.w X.K X.mg X.base CX k C m sp) (hr : Room j X.A) (hk : k ≤ j) (hx : Passes CX X E) (he : PE X o ta) (ha : PA X (e :: es) t)
    (hst : starEach (e :: es) X.env = (false, eval e X.env) :: starEach es X.env :=
        by rfl) (hpl : (backTo pos (starEach es X.env)).any (·.1) = false := by rfl)
    (ht : eval (.Call (.Attribute o m
        apos) (e :: es) [] pos) X.env = (do
      let ov ← eval o X.env; standAt apos.atName
      let (f, first) ← holding [ov] (getMethod ov m pl); callWith pos f first (backTo pos (starEach (e :: es) X.env)) (backToKw pos (keywordEach [] X.env))) := by rfl) :
    PE X (.Call (.Attribute o m apos) (e :: es) [] pos) (tMeth (He.ga X.K C) m sp [] E ta t) := by
  obtain ⟨fd, ps, F, b⟩ := D.ok
  exact pe_meth (pl := pl) he D.cl D.me F (hr.mono hk) b .nil hx ha hst hpl ht
/-- o.m() -/
theorem pe_mtd0 {pl : Sem Bool} (D : Mtd X.prog X.w X.K X.mg X.base CX k C m sp) (hr : Room j X.A) (hk : k ≤ j) (hx : Passes CX X E) (he : PE X o ta)
    (ht : eval (.Call (.Attribute o
        m apos) [] [] pos) X.env = (do
      let ov ← eval o X.env; standAt apos.atName
      let (f, first) ← holding [ov] (getMethod ov m pl); callWith pos f first (backTo pos (starEach [] X.env)) (backToKw pos (keywordEach [] X.env))) := by rfl) :
    PE X (.Call (.Attribute o m apos) [] [] pos) (tMeth (He.ga X.K C) m sp [] E ta tNil) := by
  obtain ⟨fd, ps, F, b⟩ := D.ok
  exact pe_meth0 (pl := pl) he D.cl D.me F (hr.mono hk) b .nil hx ht
/-- a module's number -/
theorem pe_num {i : Int} (h : ∃ t, X.mg x = some (.int i t)) (hg : Gl X x := by rfl) (hdb : (x == ("__debug__" : Str)) = false := by decide) : PE X (.Name x pos) (tC (.int i)) := by
  obtain ⟨t, h⟩ := h
  exact pe_glob hg h ⟨t, rfl⟩ hdb
end

/-! ### heaps: all is kept but what stands at S; tuples (and what is frozen) always -/
def Imm : HO → Prop
  | .tup _ => True
  | .frz _ _ => True
  | _ => False
structure Upto (S : List Addr) (H H' : Hp) : Prop where
  kp : ∀ b o, b ∉ S → H b = some o → H' b = some o
  im : ∀ b o, Imm o → H b = some o → H' b = some o
theorem Upto.refl {S : List Addr} {H : Hp} : Upto S H H := ⟨fun _ _ _ h => h, fun _ _ _ h => h⟩
theorem Upto.trans {S : List Addr} {H H1 H2 : Hp} (a : Upto S H H1) (b : Upto S H1 H2) : Upto S H H2 := ⟨fun c o n h => b.kp c o n (a.kp c o n h), fun c o i h => b.im c o i (a.im c o i h)⟩
theorem Upto.mono {S S' : List Addr} {H H' : Hp} (a : Upto S H H') (h : ∀ b ∈ S, b ∈ S') : Upto S' H H' := ⟨fun b o n e => a.kp b o (fun z => n (h b z)) e, a.im⟩
theorem Upto.same {H H' : Hp} (a : Upto [] H H') : Same H H' := fun b o h => a.kp b o (by simp) h
theorem Upto.of {S : List Addr} {H H' : Hp} (a : Same H H') : Upto S H H' := ⟨fun b o _ h => a b o h, fun b o _ h => a b o h⟩
theorem Same.new {H : Hp} {p : Addr} {o : HO} (h : H p = none) : Same H (upd H p o) := fun b u e => by
  rw [upd_ne (ne_of_none e h)]
  exact e
theorem Upto.new {S : List Addr} {H : Hp} {p : Addr} {o : HO} (h : H p = none) : Upto S H (upd H p o) := .of (Same.new h)
/-- one of S is written -/
theorem Upto.put {S : List Addr} {H : Hp} {p : Addr} {o u : HO} (hp : p ∈ S) (h : H p = some u) (hu : ¬ Imm u) : Upto S H (upd H p o) :=
  ⟨fun b v n e => by
    have z : b ≠ p := fun z => n (by rw [z]; exact hp)
    rw [upd_ne z]
    exact e, fun b v i e => by
    rw [upd_ne]
    · exact e
    · intro z
      rw [z, h] at e
      exact hu ((Option.some.inj e).symm ▸ i)⟩
/-- what was made meanwhile may be written -/
theorem Upto.mut {S : List Addr} {H H' : Hp} {p : Addr} {o : HO} (a : Upto S H H') (h : H p = none) : Upto S H (upd H' p o) :=
  ⟨fun b u n e => by rw [upd_ne (ne_of_none e h)]; exact a.kp b u n e, fun b u i e => by rw [upd_ne (ne_of_none e h)]; exact a.im b u i e⟩
theorem Upto.free {H H' : Hp} {S : List Addr} (a : Upto S H H') {p : Addr} (hp : p ∉ S) (h : H' p = none) : H p = none := by
  cases q : H p with
  | none => rfl
  | some o =>
    rw [a.kp p o hp q] at h
    cases h
theorem Upto.tup {S : List Addr} {H H' : Hp} (a : Upto S H H') {p : Addr} {xs : List V} (h : H p = some (.tup xs)) : H' p = some (.tup xs) := a.im p _ True.intro h
theorem Upto.sqT {K : PySem.W.Frag} {S : List Addr} {H H' : Hp} (a : Upto S H H') {p : Addr} {xs : List V} (h : SqT K H p xs) : SqT K H' p xs := by
  rcases h with
    (h | ⟨o, h⟩) | h
  · exact .inl (.inl (a.im p _ True.intro h))
  · exact .inl (.inr ⟨o, a.im p _ True.intro h⟩)
  · exact .inr h
theorem Same.sqT {K : PySem.W.Frag} {H H' : Hp} (a : Same H H') {p : Addr} {xs : List V} (h : SqT K H p xs) : SqT K H' p xs := (Upto.of (S := []) a).sqT h

/-! ### data -/
mutual
def noL : PyData → Bool
  | .tuple xs => noLAll xs
  | .list _ => false
  | .dict _ => false
  | _ => true
def noLAll : List PyData → Bool
  | [] => true
  | x :: xs => noL x && noLAll xs
end
section
variable {K : PySem.W.Frag} {H H' : Hp}
mutual
theorem dp_same (a : Same H H') : ∀ (d : PyData) (v : V), Dp K H v d → Dp K H' v d
  | .none, _, h => by cases h; exact .non
  | .bool b, _, h => by cases h; exact .bl b
  | .int i, _, h => by cases h; exact .int i
  | .str x, _, h => by cases h; exact .str x
  | .list ds, _, h => by
    cases h with
    | lst h1 h2 => exact .lst (Same.seq a h1) (dpAll_same a ds _ h2)
  | .tuple ds, _, h => by
    cases h with
    | tup h1 h2 => exact .tup (Same.sqT a h1) (dpAll_same a ds _ h2)
  | .dict _, _, h => by cases h
theorem dpAll_same (a : Same H H') : ∀ (ds : List PyData) (vs : List V), DpAll K H vs ds → DpAll K H' vs ds
  | [], _, h => by cases h; exact .nil
  | d :: ds, _, h => by
    cases h with
    | cons h1 h2 => exact .cons (dp_same a d _ h1) (dpAll_same a ds _ h2)
end
mutual
theorem dp_upto {S : List Addr} (a : Upto S H H') : ∀ (d : PyData) (v : V), noL d = true → Dp K H v d → Dp K H' v d
  | .none, _, _, h => by cases h; exact .non
  | .bool b, _, _, h => by cases h; exact .bl b
  | .int i, _, _, h => by cases h; exact .int i
  | .str x, _, _, h => by cases h; exact .str x
  | .list ds, _, n, h => by simp [noL] at n
  | .tuple ds, _, n, h => by
    cases h with
    | tup h1 h2 => exact .tup (a.sqT h1) (dpAll_upto a ds _ (by simpa [noL] using n) h2)
  | .dict _, _, _, h => by cases h
theorem dpAll_upto {S : List Addr} (a : Upto S H H') : ∀ (ds : List PyData) (vs : List V), noLAll ds = true → DpAll K H vs ds → DpAll K H' vs ds
  | [], _, _, h => by cases h; exact .nil
  | d :: ds, _, n, h => by
    have n2 : noL d = true ∧ noLAll ds = true := by simpa [noLAll] using n
    cases h with
    | cons h1 h2 => exact .cons (dp_upto a d _ n2.1 h1) (dpAll_upto a ds _ n2.2 h2)
end
theorem dpAll_length : ∀ {vs : List V} {ds : List PyData}, DpAll K H vs ds → vs.length = ds.length
  | _, _, .nil => rfl
  | _, _, .cons _ h => by rw [List.length_cons, List.length_cons, dpAll_length h]
theorem dpAll_get : ∀ {vs : List V} {ds : List PyData} {i : Nat} {v : V}, DpAll K H vs ds → vs[i]? = some v → ∃ d, ds[i]? = some d ∧ Dp K H v d
  | _, _, _, _, .nil, e =>
      by simp at e
  | _, _, 0, _, .cons h _, e => by simp at e; subst e; exact ⟨_, rfl, h⟩
  | _, _, i + 1, v, .cons _ t, e => by
    obtain ⟨d, h1, h2⟩ := dpAll_get (i := i) (v := v) t (by simpa using e)
    exact ⟨d, by simpa using h1, h2⟩
theorem dpAll_append : ∀ {vs ws : List V} {ds es : List PyData}, DpAll K H vs ds → DpAll K H ws es → DpAll K H (vs ++ ws) (ds ++ es)
  | _, _, _, _, .nil, b => b
  | _, _, _, _, .cons h t, b => .cons h (dpAll_append t b)
theorem dpAll_take : ∀ {vs : List V} {ds : List PyData} (n : Nat), DpAll K H vs ds → DpAll K H (vs.take n) (ds.take n)
  | _, _, 0, _ => by simpa using DpAll.nil
  | _, _, _ + 1, .nil => by simpa using DpAll.nil
  | _, _, n + 1, .cons h t => .cons h (dpAll_take n t)
theorem dpAll_drop : ∀ {vs : List V} {ds : List PyData} (n : Nat), DpAll K H vs ds → DpAll K H (vs.drop n) (ds.drop n)
  | _, _, 0, h => h
  | _, _, _ + 1, .nil => by simpa using DpAll.nil
  | _, _, n + 1, .cons _ t => dpAll_drop n t
theorem dpAll_ints : ∀ {l : List Int}, DpAll K H (l.map V.int) (l.map PyData.int)
  | [] => .nil
  | i :: l => .cons (.int i) dpAll_ints
end
end Bo

/-! Rules that the layer lacks: enumerate of a tuple, t[::-1] of a tuple, isinstance of a caught error that has fields, // that no helper module takes, *= of a field. -/
namespace PySem
open Sem (wp)
theorem bo_enum_new {v : Value} {o : Obj} {H : Heap → Prop} (B : Begins v o H) :
    Meets (Builtin.«enumerate.__new__» ⟨[.type "enumerate", v], []⟩) (fun _ R s => H s.heap ∧ R (.ok (.ret (.ref (s.heap.push o).objs.size)))
      { s with heap := (s.heap.push o).push { cls := .type "enumerate", data := .fields #[.none, .bool false, .ref s.heap.objs.size, rawInt 0, .none, .none] } }) :=
  .of_wp fun prog w A R sh hh => by
    obtain ⟨hp, ge, dr, tok, os⟩ := sh
    obtain ⟨hH, hq⟩ := hh
    have hsub := sub_enumerate
    have begin_ : ∀ {A2 : Around} {E2 : Value → Shared → Prop} {Q2 : Value → Shared → Prop}, Q2 (.ref hp.objs.size) ⟨hp.push o, ge, dr, tok, os⟩ → wpAny (model prog w) A2 (pyIter v) Q2 E2 ⟨hp, ge, dr, tok, os⟩ :=
      fun z => B.iter prog w _ _ ⟨hp, ge, dr, tok, os⟩ _ hH z
    wp_walk using begin_
    refine wpAny_stack_any fun _ => wpAny_pure ?_
    split
    · rename_i cl _ _ _ _ _
      cases (cl == Value.type "enumerate") <;> (wp_walk using begin_; exact ⟨_, rfl, hq⟩)
    · wp_walk using begin_
      exact ⟨_, rfl, hq⟩
section
variable {prog : Program}
variable {w : World}
variable {A : Around}
variable {E : Value → Shared → Prop}
variable {s : Shared}
theorem bo_enum_call {v : Value} {o : Obj} {H : Heap → Prop} {Q : Value → Shared → Prop} (B : Begins v o H) (hH : H s.heap)
    (hq : ∀ h2, IsEnum h2 (s.heap.objs.size + 1) s.heap.objs.size 0 .none → h2.get? s.heap.objs.size = some o → (∀ b ob, s.heap.get? b = some ob → h2.get? b = some ob) → Q (.ref (s.heap.objs.size + 1)) { s with heap := h2 }) :
    wpAny (model prog w) A (call (.type "enumerate") [v]) Q E s := by
  refine callType_new F.called_enumerate (by decide) (F.typeCall_enumerate_1 _) (F.newCall_enumerate_1 _) (fun obj => F.args_object_init_2 obj _) F.entry_enumerate_new (bo_enum_new B) ⟨hH, ?_⟩
  have size1 : (s.heap.push o).objs.size = s.heap.objs.size + 1 := Heap.size_push ..
  show _ ∧ _
  rw [size1]
  have en : IsEnum ((s.heap.push o).push { cls := .type "enumerate", data := .fields #[.none, .bool false, .ref s.heap.objs.size, rawInt 0, .none, .none] }) (s.heap.objs.size + 1) s.heap.objs.size 0 .none := by
    have z := Heap.get?_push_size (s.heap.push o) (o := { cls := .type "enumerate", data := .fields #[.none, .bool false, .ref s.heap.objs.size, rawInt 0, .none, .none] }) rfl
    rw [size1] at z
    exact z
  exact ⟨⟨_, en, rfl⟩, hq _ en (Heap.get?_push_of_some _ (Heap.get?_push_size _ B.free)) fun b ob z => Heap.get?_push_of_some _ (Heap.get?_push_of_some _ z)⟩
end
end PySem

namespace Bo
open PySem PySem.Spec L2 PyProof.Rows
/-- enumerate(t), t the tuple at a -/
def IteT (K : PySem.W.Frag) (a : Addr) : It where
  go := fun i H => ∃ (xs : List V) (x : V), SqT K H a xs ∧ xs[i]? = some x
  yld := fun i H v H' => ∃ (T : Addr) (x : V), v = .ref T ∧ H T = none ∧ H' = upd H T (.tup [.int (i : Nat), x]) ∧ ∀ xs, SqT K H a xs → xs[i]? = some x
  stop := fun i H => ∃ xs : List V, SqT K H a xs ∧ i = xs.length
theorem two_mem {b e it : Addr} (h : b ∈ [e, it]) : b = e ∨ b = it := by simpa using h
theorem turn_enumT {P : Program} {w : World} {K : PySem.W.Frag} {elts : List Expr} {kk : Nat} {tpos : Pos} (a e it : Addr) (hai : a ≠ it) (hae : a ≠ e) :
    Turn P w K (.Tuple elts kk tpos) (IteT K a) [e, it] e (fun i h => (∃ old, IsEnum h e it ((i : Nat) : Int) old) ∧ h.IsTupleIter it a i ∧ e ≠ it) where
  mem := List.mem_cons_self ..
  obj := fun i h st b hb => by
    obtain ⟨⟨old, en⟩, ⟨o, ho, _, hd⟩, _⟩ := st
    rcases two_mem hb with rfl | rfl
    · exact ⟨_, en, fun v z => nomatch z⟩
    · refine ⟨o, ho, fun v z => ?_⟩
      rw [hd] at z
      cases z
  keep := fun i h h' st k => ⟨⟨st.1.choose, k e (by simp) _ st.1.choose_spec⟩, st.2.1.at fun o z => k it (by simp) o z, st.2.2⟩
  item := by
    intro X hP hw hK hc i pins
    intro s σ H E I hf st hg
    subst hP hw hK
    obtain ⟨⟨old, en⟩, hit, hne⟩ := st
    obtain ⟨xs, x, hq, hx⟩ := hg
    obtain ⟨its, rv, tu, _⟩ := I.tuple hq
    obtain ⟨u, hu, ru⟩ :=
      rv.get hx
    have hi : i < its.toArray.size := by
      rw [List.size_toArray]
      exact (List.getElem?_eq_some_iff.mp hu).1
    have el : e < s.heap.objs.size := Heap.lt_size en
    have il : it < s.heap.objs.size := by obtain ⟨_, z, _⟩ := hit; exact Heap.lt_size z
    have al : a < s.heap.objs.size := by obtain ⟨_, z, _⟩ := tu; exact Heap.lt_size z
    have hea : e ∉ [it, a] := by
      intro z
      rcases List.mem_cons.mp z
        with z | z
      · exact hne z
      · exact hae (List.mem_singleton.mp z).symm
    refine wpAny_pyNext_enum_itemD (Draws.tuple (A := X.A.in1) (I.ok.hd hc) it a hai its.toArray) en ⟨hit, tu⟩ hi hne hea fun x' h1 tk hP eo st1 ht hsz k1 => ?_
    have ex : x' = u := by
      have z : its.toArray[i]? = some x' := hP
      have z2 : its[i]? = some x' := by simpa using z
      rw [hu] at z2
      exact (Option.some.inj z2).symm
    subst ex
    refine ⟨_, rfl, wpAny_letOwnedTupleGo_enum (s := { s with heap := h1, toks := tk + 1 }) eo fun h2 en2 sb => ?_⟩
    have T2 : h2.get? s.heap.objs.size = some { cls := .type "tuple", data := .seq #[.int i tk, x'] } := (sb.2 _ (Nat.ne_of_gt el)).trans ht
    have new : ObjOk X.prog X.w (upd H s.heap.objs.size (.tup [.int (i : Nat), x])) h2 s.heap.objs.size (.tup [.int (i : Nat), x]) := by
      refine ⟨by show 2 ≤ sizeLine; decide, [.int i tk, x'], .cons ⟨_, rfl⟩ (.cons ru .nil), ?_⟩
      exact ⟨_, T2, rfl, _, rfl⟩
    have I1 : Inv X pins σ (upd H s.heap.objs.size (.tup [.int (i : Nat), x])) { s with heap := h2, toks := tk + 1 } := by
      refine I.turnedNew (ch := [e, it]) (fun b ob hb z => ?_) hf (Nat.le_refl _) new
      have n1 : b ≠ e := fun q => hb (by simp [q])
      have n2 : b ≠ it := fun q => hb (by simp [q])
      exact (sb.2 b n1).trans (k1 b ob n1 n2 z)
    refine ⟨.ref s.heap.objs.size, _, I1, rfl, ⟨_, x, rfl, I.hok.fresh (Nat.le_refl _), rfl, fun ys hy => ?_⟩, ⟨⟨x', ?_⟩, ?_, hne⟩, fun b hb => ?_⟩
    · rw [I.tuple_inj hy hq]
      exact hx
    · rw [show ((i + 1 : Nat) : Int) = (i : Int) + 1 by omega]
      exact en2
    · exact st1.1.at fun o z => (sb.2 it (Ne.symm hne)).trans z
    · have bl : b < s.heap.objs.size := by rcases two_mem hb with z | z <;> (rw [z]; assumption)
      rw [upd_ne (Nat.ne_of_lt bl)]
      exact (hf b hb).1
  done := by
    intro X hP hw hK hc i pins
    intro s σ H E I hf st hg
    subst hP hw hK
    obtain ⟨⟨old, en⟩, hit, hne⟩ := st
    obtain ⟨xs, hq, hx⟩ := hg
    obtain ⟨its, rv, tu, _⟩ := I.tuple hq
    obtain ⟨f0, f1, f2, f3,
        f4, f5⟩ := hf it (by simp)
    have hl := rv.length
    have e1 : i = its.toArray.size := by rw [List.size_toArray]; omega
    subst e1
    exact wpAny_pyNext_enum_endD (Draws.tuple (A := X.A.in1) (I.ok.hd hc) it a hai its.toArray) en ⟨hit, tu⟩ fun h1 eb => ⟨rfl, I.turned (t' := s.toks) (fun b o hb q => eb b o hb q) f0 f1 f3 f4 f5⟩
  self := fun A i s Q E st h => wpAny_pyIter_enum st.1.choose_spec h
def iEnumT (K : PySem.W.Frag) (ta : TA) : TI := fun σ H R => ta σ H fun vs H1 => ∃ (a : Addr) (xs : List V), vs = [.ref a] ∧ SqT K H1 a xs ∧ R (IteT K a) H1
theorem pi_enumT {X : Cx} {e : Expr} {ta : TA} {p pos tpos : Pos} {elts : List Expr} {kk : Nat} (hg : Gl X "enumerate") (hm : X.mg "enumerate" = none) (ha : PA X [e] ta) (hs : starEach [e] X.env = [(false, eval e X.env)] := by rfl) :
    PI X (.Tuple elts kk tpos) (.Call (.Name "enumerate" p) [e] [] pos) (iEnumT X.K ta) := by
  refine ⟨fun pins s σ H R I h => Call_ (ld_blt I hg hm boot_enumerate (PyProof.Rows.callWith_type1 (thn (ha.run pos pins s σ H _ I h) fun us s1 z => ?_) hs rfl))⟩
  obtain ⟨vs, H1, I1, r1, a, xs, ex, hq, q⟩ := z
  subst ex
  cases r1 with
  | cons r rr =>
    cases rr
    cases r
    obtain ⟨its, rv, tu, _⟩ := I1.tuple hq
    have al : a < s1.heap.objs.size := by obtain ⟨_, z, _⟩ := tu; exact Heap.lt_size z
    refine bo_enum_call (begins_tuple a its.toArray) tu fun h2 en hit k2 => wpAny_pyIter_enum en ?_
    have I2 : Inv X pins σ H1 { s1 with heap := h2 } := I1.kept (t' := s1.toks) k2
    refine ⟨s1.heap.objs.size + 1, [s1.heap.objs.size + 1, s1.heap.objs.size], _, _, H1, rfl, I2, turn_enumT a (s1.heap.objs.size + 1) s1.heap.objs.size (Nat.ne_of_lt al) (Nat.ne_of_lt (Nat.lt_succ_of_lt al)), ⟨⟨.none, en⟩, ⟨_, hit, rfl, rfl⟩, Nat.succ_ne_self _⟩, fun b hb => ?_, q⟩
    have le : s1.heap.objs.size ≤ b := by
      rcases two_mem hb with z | z <;> rw [z]
      · exact Nat.le_succ _
      · exact Nat.le_refl _
    exact I1.fpOk le (I1.hok.fresh le)
theorem walk_enumT {K : PySem.W.Frag} {a : Addr} {xs : List V} : Walk (IteT K a) xs.length (fun H => SqT K H a xs) (YPair (fun i => some (.int (i : Nat))) (fun i => xs[i]?)) where
  goes := fun i H hi q => ⟨xs, xs[i], q, by simp [hi]⟩
  stops := fun H q => ⟨xs, q, rfl⟩
  yields := fun i H v H' hi q y => by
    obtain ⟨T, x, h1,
        h2, h3, h4⟩ := y
    exact ⟨T, .int (i : Nat), x,
        h1, h2, h3, rfl, h4 xs q⟩
end Bo

/-! More rules: t[::-1], isinstance of a caught error, // and *= of great numbers, repr of data. -/
namespace Bo
open PySem PySem.Spec L2 PyProof.Rows
section
variable {prog : Program}
variable {w : World}
variable {A : Around}
variable {E : Value → Shared → Prop}
variable {s : Shared}
/-! ### t[::-1] -/
theorem back_bounds (n : Int) : Builtin.Slice.sliceAdjust none none (-1) n = (n - 1, -1) := by
  unfold
    Builtin.Slice.sliceAdjust
  simp
theorem back_places (n : Nat) : Builtin.Slice.slicePlaces ((n : Int) - 1) (-1) (-1) = n := by
  unfold
    Builtin.Slice.slicePlaces
  rw [if_neg (by decide)]
  by_cases h : n = 0
  · subst h
    decide
  · rw [if_pos (by omega), show ((n : Int) - 1 - -1 - 1) / - -1 = (n : Int) - 1 by
      rw [show -(-1 : Int) = 1 from rfl, Int.ediv_one]; omega]
    omega
theorem back_pick (xs : Array Value) : ((List.range xs.size).filterMap fun (m : Nat) => xs[((xs.size : Int) - 1 + (m : Int) * -1).toNat]?).toArray = xs.toList.reverse.toArray := by
  congr 1
  have key : ∀ (k : Nat) (hk : k ≤ xs.size), (List.range k).filterMap (fun (m : Nat) => xs[((xs.size : Int) - 1 + (m : Int) * -1).toNat]?) = xs.toList.reverse.take k := by
    intro k
    induction k with
    | zero => intro _; simp
    | succ k ih =>
      intro hk
      have e1 : ((xs.size : Int) - 1 + (k : Int) * -1).toNat = xs.size - 1 - k := by omega
      have h3 : xs.size - 1 - k < xs.size := by omega
      have h4 : k < xs.toList.reverse.length := by rw [List.length_reverse, Array.length_toList]; omega
      rw [List.range_succ, List.filterMap_append, ih (by omega), List.take_succ, List.getElem?_eq_getElem h4]
      have e2 : xs[xs.size - 1 - k]? = some (xs.toList.reverse[k]) := by
        rw [Array.getElem?_eq_getElem h3, List.getElem_reverse]
        simp
      simp only [List.filterMap_cons, List.filterMap_nil, e1, e2]
      rfl
  rw [key xs.size (Nat.le_refl _), List.take_of_length_le (by simp)]
theorem back_applied {sl : Addr} {vs : Value} {n : Nat} {Q : Int × Int × Nat → Shared → Prop} (hs : s.heap.IsSliceOf sl .none .none vs) (ps : IsPart vs (some (-1))) (h : Q ((n : Int) - 1, -1, n) s) :
    wpAny (model prog w) A (Builtin.Slice.sliceApplied
        (.ref sl) (pure (n : Int))) Q E s := by
  obtain ⟨os, hos, _, hds⟩ := id hs
  unfold Builtin.Slice.sliceApplied
  unfold Builtin.Slice.sliceFields
  refine wpAny_bind (wpAny_bind (wpAny_field hos hds (x := .none) rfl ?_))
  refine wpAny_bind (wpAny_field hos hds (x := .none) rfl ?_)
  refine wpAny_bind (wpAny_field hos hds (x := vs) rfl (wpAny_pure ?_))
  refine wpAny_bind (HT.slicePart_ ps ?_)
  show wpAny _ _ (if ((-1 : Int) == 0) = true then _ else _) _ _ s
  rw [if_neg (by decide)]
  refine wpAny_bind (slicePart_none (wpAny_bind (slicePart_none (wpAny_bind (wpAny_pure ?_)))))
  show wpAny _ _ (match Builtin.Slice.sliceAdjust none none (-1) (n : Int) with | (a, b) => pure (a, (-1 : Int), Builtin.Slice.slicePlaces a b (-1))) _ _ s
  rw [back_bounds]
  show wpAny _ _ (pure ((n : Int) - 1, (-1 : Int), Builtin.Slice.slicePlaces ((n : Int) - 1) (-1) (-1))) _ _ s
  rw [back_places]
  exact wpAny_pure h
theorem back_item {t sl : Addr} {items : Array Value} {vs : Value} {Q : Value → Shared → Prop} (ht : IsTup s.heap t items) (hs : s.heap.IsSliceOf sl .none .none vs) (ps : IsPart vs (some (-1))) (hz : items.size ≤ sizeLine)
    (h : Q (.ref s.heap.objs.size) { s with heap := s.heap.push { cls := .type "tuple", data := .seq items.toList.reverse.toArray } }) : wpAny (model prog w) A (getItem (.ref t) (.ref sl)) Q E s := by
  have hok : sizeOk (.seq items.toList.reverse.toArray) := by
    show items.toList.reverse.toArray.size ≤ sizeLine
    rw [List.size_toArray, List.length_reverse, Array.length_toList]
    exact hz
  obtain ⟨os, hos, hcs, _⟩ := id hs
  have isSl : s.TypeIs (.ref sl) "slice" := ⟨os, hos, hcs⟩
  unfold getItem
  try (with_reducible refine wpAny_holding ?_)
  first
    | (refine wpAny_bind (wpAny_pure ?_))
    | skip
  refine wpAny_bind (wpAny_sequenceKey ht.typeIs (by decide) (wpAny_bind (wpAny_callSpecial?_slot (name := Str.ofString "__getitem__") ht.typeIs PyProof.Rows.slot_tuple_getitem
    (wpAny_call_entry PyProof.Rows.slot_tuple_getitem ht.typeIs entry_tuple_getitem ?_ (args_tuple_getitem _ _)))))
  show wpAny _ _ (Builtin.Tuple.tupleItemsOf
      (.ref t) >>= _) _ _ s
  refine wpAny_bind (tupleItemsOf_ ht (wpAny_bind (wpAny_typeOf isSl ?_)))
  rw [if_pos (by decide)]
  refine wpAny_bind (back_applied (n := items.size) hs ps ?_)
  have hno : ¬ ((((items.size : Int) - 1 == 0) && ((-1 : Int) == 1) && (items.size == items.size)) = true) := by
    rw [show ((-1 : Int) == 1) = false by decide]
    simp
  show wpAny _ _ (if (((items.size : Int) - 1 == 0) && ((-1 : Int) == 1) && (items.size == items.size)) = true then _ else _) _ _ s
  rw [if_neg hno, back_pick]
  first
    | exact wpAny_bind (m := Builtin.Tuple.tupleExact _) (wpAny_newObj_type (wpAny_pure ⟨_, rfl, wpAny_pure h⟩) hok)
    | exact wpAny_bind (m := Builtin.Tuple.tupleExact _) (wpAny_newObj_type (wpAny_bind (wpAny_pure (wpAny_pure ⟨_, rfl, wpAny_pure h⟩))) hok)
    | exact wpAny_bind (wpAny_bind (m := Builtin.Tuple.tupleExact _) (wpAny_newObj_type (wpAny_pure (wpAny_pure ⟨_, rfl, wpAny_pure h⟩)) hok))
    | exact wpAny_bind (wpAny_bind (m := Builtin.Tuple.tupleExact _) (wpAny_newObj_type (wpAny_pure ⟨_, rfl, wpAny_pure h⟩) hok))
end
section
variable {X : Cx}
def tRevT (K : PySem.W.Frag) (te : TE) : TE := fun σ H Q => te σ H fun x H1 => ∃ (a : Addr) (xs : List V), x = .ref a ∧ SqT K H1 a xs ∧ ∀ p, H1 p = none → Q (.ref p) (upd H1 p (.tup xs.reverse))
theorem pe_revT {e : Expr} {te : TE} {k : Nat} {p1 p2 p3 pos : Pos} (he : PE X e te) : PE X (.Subscript e (.Slice none none (some (.UnaryOp .USub (.Constant (.int 1) k p1) p2)) p3) pos) (tRevT X.K te) := by
  refine ⟨fun pins s σ H Q I h => Subscript_ (thn (he.run pins s σ H _ I h) fun v s1 z => ?_)⟩
  obtain ⟨x, H1, I1, r1, a, xs, ex, hx, q⟩ := z
  subst ex
  cases r1
  have step_ : PO X (some (.UnaryOp .USub (.Constant (.int 1) k p1) p2)) (tPart (tUn (rU fun i => .int (-i)) (tC (.int 1)))) := po_some (pe_un un_neg pe_int)
  refine wpAny_Slice (thn (po_none.run pins s1 σ H1 (fun o H2 => o = none ∧ H2 = H1) I1 ⟨rfl, rfl⟩) fun vl s2 z => ?_)
  obtain ⟨l, H2, I2, pl, el, e2⟩ := z
  subst el e2
  cases pl
  refine thn (po_none.run pins s2 σ H2 (fun o H3 => o = none ∧ H3 = H2) I2 ⟨rfl, rfl⟩) fun vu s3 z => ?_
  obtain ⟨u, H3, I3, pu, eu, e3⟩ := z
  subst eu e3
  cases pu
  refine thn (step_.run pins s3 σ H3 (fun o H4 => o = some (-1) ∧ H4 = H3) I3 ⟨1, rfl, -1, rfl, rfl, rfl⟩) fun vs s4 z => ?_
  obtain ⟨o, H4, I4, ps, eo, e4⟩ := z
  subst eo e4
  have I5 : Inv X pins σ H4 { s4 with heap := s4.heap.push { cls := .type "slice", data := .fields #[.none, .none, vs] } } := I4.kept (t' := s4.toks) fun b ob z => Heap.get?_push_of_some _ z
  obtain ⟨its, r, ht, hz⟩ := I5.tuple hx
  have hl := r.length
  show wpAny (model X.prog X.w) X.A (subscriptTail e (.Slice none none (some (.UnaryOp .USub (.Constant (.int 1) k p1) p2)) p3) (.ref a) (.ref s4.heap.objs.size)) (EP X pins σ Q) X.xe
    { s4 with heap := s4.heap.push { cls := .type "slice", data := .fields #[.none, .none, vs] } }
  refine tail_any (ops := [.ref a, .ref s4.heap.objs.size]) ht.typeIs PyProof.Rows.slot_tuple_getitem.lookup ?_ (by with_unfolding_all rfl)
  refine back_item ht (Heap.IsSliceOf.new _ .none .none vs) ps (by rw [List.size_toArray]; omega) ?_
  refine ⟨.ref _, _, I5.laid (t' := s4.toks) (o := .tup xs.reverse) (fun b ob z => Heap.get?_push_of_some _ z) (Nat.le_refl _) ?_, rfl, q _ (I5.hok.fresh (Nat.le_refl _))⟩
  exact ⟨by rw [List.length_reverse]; exact hz, _, r.reverse, ⟨_, Heap.get?_push_size _ rfl, rfl, _, rfl⟩⟩

/-! ### isinstance(e, T) of a caught error with fields -/
theorem call_isEd {a D : Addr} {oe : Obj} {d : Option Addr} {pn : List (Addr × Obj)} {T : Addr} (C : ErrC X.K D T) (hz : Zc (.ref D) d oe) (hf : ∃ vs, oe.data = .fields vs) :
    CallR (X.suite a ((a, oe) :: pn)) (.builtin "isinstance") (fun xs H Q => ∃ (dd : Addr) (fs : List (Str × V)), xs = [.ref a, .ref T] ∧ d = some dd ∧ H dd = some (.xd fs) ∧ Q (.bl true) H) := by
  intro pins s σ H
  intro xs us Q I r h
  obtain ⟨dd, fs, rfl, rfl, hd, q⟩ := h
  cases r with
  | cons rx rr =>
    cases rr with
    | cons rt rr =>
      cases rr
      cases rx
      cases rt
      obtain ⟨hget, _⟩ := I.pin (a,
          oe) (List.mem_append.mpr (.inl List.mem_cons_self))
      obtain ⟨vs, hv⟩ := hf
      obtain ⟨mA, hns, _⟩ := (show ObjOk X.prog X.w H s.heap dd (.xd fs) from I.hok dd _ hd)
      obtain ⟨od, es, ep, ho, _⟩ := hns
      have J : PySem.W.InstAt s.heap a oe D (some od) := by
        obtain ⟨oc, odd, oda, osl⟩ := oe
        obtain ⟨h1, h2⟩ := hz
        dsimp only at h1 h2 hv
        subst h1 h2 hv
        exact ⟨hget, rfl, rfl, ho⟩
      have cls : (PySem.W.clsIn X.K D).isSome = true := by
        obtain ⟨nm, q1, N, bs, bm, sn, sub, ab, col, ddd, k0, k1, k2, k3, k5, hC, _⟩ := C.oex.cls
        unfold PySem.W.clsIn
        rw [hC] <;> rfl
      have kit := PySem.W.kitx_exc (K := X.K) (x := a) (C := D) (ox := oe) (od := some od) cls C.xf.ga C.xf.gg C.xf.exC C.cc C.gs C.tk C.mo
      exact PySem.W.kia_one kit I.kIn J C.isT (fun z => nomatch z) fun tk => ⟨.bl true, H, I.kept (t' := tk) fun _ _ z => z, rfl, q⟩

/-! ### great numbers -/
/-- //: a positive divisor, and CPython's own division does it -/
def CDivP (i j :
    Int) : Prop := 0 < j ∧ Builtin.divisionGoesByPylong i j = false
theorem op_fdivP : OpR X (binaryOp .FloorDiv) (rI CDivP fun i j => .int (i / j)) := opI fun i j _ _ _ _ _ hc q => by
  have h1 : (0 : Int) < j := And.left hc
  have e : i.fdiv j = i / j := Int.fdiv_eq_ediv_of_nonneg i (by omega)
  exact floordiv_int (by omega) (by rw [e]; exact q) (.inl hc.2)
theorem log2_le_of_lt {x k : Nat} (h : x < 2 ^ (k + 1)) : x.log2 ≤ k := by
  by_cases h0 : x = 0
  · subst h0
    rw [Nat.log2_zero]
    exact Nat.zero_le _
  · have := (Nat.log2_lt h0).mpr h
    omega
/-- what is below 2 ^ 13500 is divided by CPython itself -/
theorem divP {i j : Int} (h : 0 < j) (hi : i.natAbs < 2 ^ 13500) : CDivP i j := by
  refine ⟨h, ?_⟩
  have li : i.natAbs.log2 ≤ 13499 := log2_le_of_lt hi
  have hd : (if i == 0 then 0 else i.natAbs.log2 / 30 + 1) ≤ 450 := by
    split <;> omega
  show (decide ((if j == 0 then 0 else j.natAbs.log2 / 30 + 1) > 300) && decide ((if i == 0 then
      0 else i.natAbs.log2 / 30 + 1) > (if j == 0 then 0 else j.natAbs.log2 / 30 + 1) + 150)) = false
  by_cases c : (if j == 0 then 0 else j.natAbs.log2 / 30 + 1) > 300
  · rw [decide_eq_true c, Bool.true_and]
    exact decide_eq_false
      (by omega)
  · rw [decide_eq_false c, Bool.false_and]
/-- *= of a field -/
theorem in_mul : InOp X .Mult (rI CMul fun i j => .int (i * j)) := fun pins s σ H x y u v Q I r1 r2 h => iop_mul pins s σ H x y u v Q I r1 r2 h

/-! ### repr of data -/
def rRepr (K : PySem.W.Frag) : List V → Hp → VK → Prop := fun xs H Q => ∃ (v : V) (d : PyData), xs = [v] ∧ Dp K H v d ∧ d.showable = true ∧ d.hasDict = false ∧ d.depth ≤ 60 ∧ d.shown.length ≤ sizeLine ∧ Q (.str d.shown) H
theorem call_reprD (hu : X.A.units + 64 < cLine) (hg : X.A.guards = some []) : CallR X (.builtin "repr") (rRepr X.K) := by
  intro pins s σ H
  intro xs us Q I r h
  obtain ⟨v, d, rfl, dp, sh, hd, dep, sz, q⟩ := h

  cases r with
  | @cons _ u _ _ rv rr =>
    cases rr
    obtain ⟨as, rd⟩ := Dp.reads I d v u dp rv
    have fin : ∀ (h' : Heap) (t tk : Tok), (∀ b o, s.heap.get? b = some o → h'.get? b = some o) → EP X pins σ Q (.str d.shown t) { s with heap := h', toks := tk } := fun h' t tk k =>
      ⟨.str d.shown, H, I.kept (t' := tk) k, ⟨t, rfl⟩, q⟩
    have nod : d.hasDict = true → sysModules ∉ as := fun z => by rw [hd] at z; cases z
    cases u with
    | ref a => exact repr_of_reads' rd sh nod hg (by omega) (fun _ _ z => z) (fun h' t tk k => fin h' t tk k) sz
    | none =>
      cases rd
      simp only [PyData.shown] at fin sz
      exact call_repr_gives (typeIs_none s) F.slot_NoneType_repr F.entry_NoneType_repr (F.args_NoneType_repr_1 _) gives_none_repr (fin s.heap _ _ fun _ _ z => z) (hx := sz)
    | bool b =>
      cases rd
      simp only [PyData.shown] at fin sz
      exact call_repr_gives (PySem.typeIs_bool s b) F.slot_bool_repr F.entry_bool_repr (F.args_bool_repr_1 _) (gives_bool_repr b) (fin s.heap _ _ fun _ _ z => z) (hx := sz)
    | int i t =>
      cases rd
      simp only [PyData.shown] at fin sz
      exact call_repr_gives (typeIs_int s i t) F.slot_int_repr F.entry_int_repr (F.args_int_repr_1 _) (gives_int_repr i t (by simpa [PyData.showable] using sh)) (fin s.heap _ _ fun _ _ z => z) (hx := sz)
    | str x t =>
      cases rd
      simp only [PyData.shown] at fin sz
      exact call_repr_gives (typeIs_str s x t) F.slot_str_repr F.entry_str_repr (F.args_str_repr_1 _) (gives_str_repr x t) (fin s.heap _ _ fun _ _ z => z) (hx := sz)
    | _ => cases rd
end
end Bo

/-! Promises of defs that ask repr: they hold where nothing guards (no repr is under way). -/
namespace Bo
open PySem PySem.Spec L2 PyProof.Rows
/-- as FnOk, asked only where no repr is under way -/
structure FnG (P : Program) (w : World) (K : PySem.W.Frag) (mg : Str → Option Value) (base : Heap) (CX : CXT) (k : Nat) (f : Addr) (fd : FuncData) (ps : List Str) (sp : Sp) : Prop where
  len : ∀ vs H Q E,
    sp vs H Q E → vs.length = ps.length
  go : ∀ {A : Around} {outer : List Env} {s : Shared} {H : Hp} {args : Args} {us : List Value} {vs : List V} {Q : VK} {E : XK}, Room k A → A.guards = some [] → Env0 P w K mg base A outer s H → BindsTo s fd args (ps.zip us) → Vals vs us → sp vs H Q E →
    codeAny (model P w) A (.call (.ref
        f) args) (CR CX outer P w H s Q E) s
theorem FnG.mono {P : Program} {w : World} {K : PySem.W.Frag} {mg : Str → Option Value} {base : Heap} {CX : CXT} {j k : Nat} {f : Addr} {fd : FuncData} {ps : List Str} {sp : Sp} (F : FnG P w K mg base CX j f fd ps sp) (h : j ≤ k) : FnG P w K mg base CX k f fd ps sp :=
  ⟨F.len, fun hr hg he hb hv hs => F.go (hr.mono h) hg he hb hv hs⟩
section
variable {P : Program} {w : World}
variable {K : PySem.W.Frag}
variable {mg : Str → Option Value}
variable {base : Heap}
theorem okG {CX : CXT} {x qual : Str} {params : Arguments} {body : List Stmt} {scope : Scope} {dvs : List V} {kws : List (Str × V)} {f : Addr} {fd : FuncData} {N ps : List Str} {k : Nat} {sp : Sp} (F : FunD K x qual params body scope dvs kws f fd) (S : FnScope N ps scope)
    (len : ∀ vs H Q E,
        sp vs H Q E → vs.length = ps.length)
    (hbody : ∀ (cdv : Value) (A : Around) (outer : List Env) (s : Shared) (H : Hp) (vs : List V) (Q : VK) (E : XK), A.guards = some [] → Room k (A.deeper (envOfC qual scope s.heap.objs.size f cdv)) → sp vs H Q E →
      ∃ t, PSs (cxOf CX P w K mg base N qual scope f cdv A outer s H E) body t ∧ t { nx := fun _ H' => Q .non H', rt := Q } (start N vs) H) : FnG P w K mg base CX (k + 1) f fd ps sp := by
  obtain ⟨oc, od, dV, kV, doc, pm, an, cdv,
      ct, osl, rfl, lk, hcd, _, _⟩ := F.ex
  refine ⟨len, ?_⟩
  intro A outer s H args us vs Q E hr hg e0 hb rv hsp
  have lenV := len _ _ _ _ hsp
  have kin : K.In s.heap := e0.mod.kin.keeps fun b o z => (e0.bs b o z).1
  have lim : s.heap.NoLimit := e0.mod.nolimit.keeps fun b o z => (e0.bs b o z).1
  have kinds : ∀ y ∈ ps.zip us, scope.names.lookup y.1 = some .local ∨ (scope.names.lookup y.1 = some .cell ∧ ((cellsFrom (s.heap.objs.size + 1) scope.names []).lookup y.1).isSome = true) := by
    rintro ⟨n, v⟩ hy
    rcases S.par n (List.of_mem_zip hy).1 with z | z
    · exact .inl z
    · exact .inr ⟨z, PySem.W.cellsFrom_some _ _ _ (.inl z)⟩
  refine codeAny_call_function hr.depth (kin _ _ lk) rfl S.co S.gen rfl (PySem.W.codeRec_of kin hcd) (hb _ _ _ _ (wpAny_newFunctionEnv_cells S.kind kinds ?_))
  intro env he s1 x
  subst he
  refine ⟨lim.keeps x.toInCall.keep,
      codeAny_func ?_⟩
  obtain ⟨t, ht, hq⟩ := hbody cdv A outer s H vs Q E hg (hr.deeper _) hsp
  have I0 : Inv (cxOf CX P w K mg base N qual scope f cdv A outer s H E) [] (start N vs) H s1 := inv_start S hr.hd e0 lenV rv x
  refine wpAny_mono (ht.run [] s1 (start N vs) H _ I0 hq) (fun fl s2 hs => ?_) fun _ _ z => z
  have out : ∀ {σ2 : L2.St} {H2 : Hp} {v : V} {u : Value}, Inv (cxOf CX P w K mg base N qual scope f cdv A outer s H E) [] σ2 H2 s2 → RelV v u → Q v H2 → CE outer P w H s Q u s2 := fun {_ H2 v _} J r q => ⟨v, H2, J.os, J.bare, J.base, J.hok, r, q⟩
  cases fl with
  | next =>
    obtain ⟨_, _, J, q⟩ := hs
    exact out (v := V.non) (u := Value.none) J rfl q
  | ret u =>
    obtain ⟨_, _, _, J, r, q⟩ := hs
    exact out J r q
  | brk => exact (hs.choose_spec.choose_spec.2 : False).elim
  | cont => exact (hs.choose_spec.choose_spec.2 : False).elim
end
structure DfnG (P : Program) (w : World) (K : PySem.W.Frag) (mg : Str → Option Value) (base : Heap) (CX : CXT) (k : Nat) (x : Str) (sp : Sp) : Prop where
  ok : ∃ (fd : FuncData) (ps : List Str), FnG P w K mg base CX k (He.ga K x) fd ps sp ∧ Binds K fd ps []
  at_ : mg x = some (.ref (He.ga K x))
  kp : PySem.W.keepIn K (.ref (He.ga K x)) = true
section
variable {X : Cx} {k j : Nat} {x : Str} {sp : Sp} {E : XK} {p pos : Pos} {e : Expr} {es : List Expr} {t : TA}
theorem pe_calG (D : DfnG X.prog X.w X.K X.mg X.base CX0 k x sp) (hr : Room j X.A) (hk : k ≤ j) (hgu : X.A.guards = some []) (ha : PA X (e :: es) t) (hg : Gl X x := by rfl)
    (hdb : (x == ("__debug__" : Str)) = false := by decide) (he : starEach (e :: es) X.env = (false,
        eval e X.env) :: starEach es X.env := by rfl) (hpl : (backTo pos (starEach es X.env)).any (·.1) = false := by rfl) :
    PE X (.Call (.Name x p) (e :: es) [] pos) (tCall sp [] E t) := by
  obtain ⟨fd, ps, F, b⟩ := D.ok
  refine ⟨fun pins s σ H Q I h => wpAny_Call_Name_kw (ld_glob I hg D.at_ ?_ hdb)⟩
  refine PySem.W.callWith_K (h₀ := X.base) I.ok.mod.kin D.kp (thn (ha.run pos pins s σ H _ I h) fun us s1 z => ?_) he hpl
  obtain ⟨vs, H1, I1, r, q⟩ := z
  have q : sp vs H1 Q E := by
    have q0 : sp (vs ++ []) H1 Q E := q
    rw [List.append_nil] at q0
    exact q0
  refine ⟨I1.kIn, wpAny_call (codeAny_mono (F.go (args := ⟨us, []⟩) (us := us) (hr.mono hk) hgu I1.env0 ?_ r q) fun res s2 hq => ?_)⟩
  · have bb := b s1 us I1.kIn (by rw [List.append_nil, ← r.length]; exact F.len _ _ _ _ q)
    rw [List.append_nil] at bb
    exact bb
  · cases res with
    | error er => exact (hq : False).elim
    | ok fl =>
      cases fl with
      | ret u => exact I1.after hq
      | next => exact (hq : False).elim
      | brk => exact (hq : False).elim
      | cont => exact (hq : False).elim
/-- f(e, ..) whose exception is wished for at the caller's slots -/
theorem pe_calS {CX : CXT} {Es : L2.St → XK} (D : Dfn X.prog X.w X.K X.mg X.base CX k x sp) (hr : Room j X.A) (hk : k ≤ j) (hx : ∀ σ, PassesAt CX X σ (Es σ)) (ha : PA X (e :: es) t) (hg : Gl X x := by rfl)
    (hdb : (x == ("__debug__" : Str)) = false := by decide) (he : starEach (e :: es) X.env = (false,
        eval e X.env) :: starEach es X.env := by rfl) (hpl : (backTo pos (starEach es X.env)).any (·.1) = false := by rfl) :
    PE X (.Call (.Name x p) (e :: es) [] pos) (tCallS sp Es t) := by
  obtain ⟨fd, ps, F, b⟩ := D.ok
  exact pe_callS F (hr.mono hk) hg D.at_ D.kp b hx ha hdb he hpl
end
end Bo

/-! Short rules: isinstance of data, index. -/
namespace Bo
open PySem PySem.Spec L2 PyProof.Rows
def isD (T : String) : PyData → Bool
  | .bool _ => T == "int" || T == "bool"
  | .int _ => T == "int"
  | .str _ => T == "str"
  | .tuple _ => T == "tuple"
  | .list _ => T == "list"
  | _ => false
def tyD : PyData → String
  | .none => "NoneType"
  | .bool _ => "bool"
  | .int _ => "int"
  | .str _ => "str"
  | .list _ => "list"
  | .tuple _ => "tuple"
  | .dict _ => "dict"
theorem tyx_of {K : PySem.W.Frag} {H : Hp} : ∀ {v : V} {d : PyData}, Dp K H v d → TyX K H v (.type (tyD d))
  | _, _, .non => .base .non
  | _, _, .bl b => .base (.bl b)
  | _, _, .int i => .base (.int i)
  | _, _, .str x => .base (.str x)
  | _, _, .lst h _ => by
    rcases h with (h | ⟨o, h⟩) | ⟨o, its, n, h1, h2, _⟩
    · exact .base (.lst h)
    · exact .base (.frz h)
    · exact .kList h1 h2
  | _, _, .tup h _ => by
    rcases h with (h | ⟨o, h⟩) | ⟨o, its, n, h1, h2, _⟩
    · exact .base (.tup h)
    · exact .fTuple h
    · exact .kTuple h1 h2
theorem kit_tab : (["NoneType", "bool", "int", "str", "list", "tuple"].all fun a => ["int", "bool", "str", "tuple"].all fun b => kitB a b == some (a == b || (a == "bool" && b == "int"))) = true := by decide +kernel
theorem isD_kit {K : PySem.W.Frag} {H : Hp} {v : V} {d : PyData} {T : String} (h : Dp K H v d) (hT : T ∈ ["int", "bool", "str", "tuple"]) : PySem.W.kitOne K (.type (tyD d)) (.type T) = some (isD T d) := by
  have k : ∀ a, a ∈ ["NoneType", "bool", "int", "str", "list", "tuple"] → kitB a T = some (a == T || (a == "bool" && T == "int")) := fun a ha => by
    have z := List.all_eq_true.mp (List.all_eq_true.mp kit_tab a ha) T hT
    exact eq_of_beq z
  have hT2 : T = "int" ∨ T = "bool" ∨ T = "str" ∨ T = "tuple" := by simpa using hT
  refine kit_ty ?_
  cases h with
  | non => rw [tyD, k "NoneType" (by simp)]; rcases hT2 with rfl | rfl | rfl | rfl <;> rfl
  | bl b => rw [tyD, k "bool" (by simp)]; rcases hT2 with rfl | rfl | rfl | rfl <;> rfl
  | int i => rw [tyD, k "int" (by simp)]; rcases hT2 with rfl | rfl | rfl | rfl <;> rfl
  | str x => rw [tyD, k "str" (by simp)]; rcases hT2 with rfl | rfl | rfl | rfl <;> rfl
  | lst _ _ => rw [tyD, k "list" (by simp)]; rcases hT2 with rfl | rfl | rfl | rfl <;> rfl
  | tup _ _ => rw [tyD, k "tuple" (by simp)]; rcases hT2 with rfl | rfl | rfl | rfl <;> rfl
theorem vals_ints' : ∀ {ns : List Int} {us : List Value}, Vals (ns.map V.int) us → IntsAre us ns
  | [], _, h => by cases h; exact .nil
  | n :: ns, _, h => by
    cases h with
    | cons r t =>
      obtain ⟨k, rfl⟩ := r
      exact .cons n k (vals_ints' t)
theorem vals_strs' : ∀ {ns : List Str} {us : List Value}, Vals (ns.map V.str) us → StrsAre us ns
  | [], _, h => by cases h; exact .nil
  | n :: ns, _, h => by
    cases h with
    | cons r t =>
      obtain ⟨k, rfl⟩ := r
      exact .cons n k (vals_strs' t)
section
variable {X : Cx}
theorem call_isiD : CallR X (.builtin "isinstance") (fun xs H Q => ∃ (v : V) (d : PyData) (T : String), xs = [v, .ty T] ∧ T ∈ ["int", "bool", "str", "tuple"] ∧ Dp X.K H v d ∧ Q (.bl (isD T d)) H) := by
  intro pins s σ H
  intro xs us Q I r h
  obtain ⟨v, d, T, rfl, hT, dp, q⟩ := h
  exact call_isi pins s σ H _ us Q I r ⟨v, .ty T, .type (tyD d), .type T, isD T d, rfl, .ty T, tyx_of dp, isD_kit dp hT, q⟩
theorem mt_tixI : MtR X "tuple.index" (fun x xs H Q => ∃ (p : Addr) (ns : List Int) (k : Int), x = .ref p ∧ xs = [.int k] ∧ SqT X.K H p (ns.map V.int) ∧ k ∈ ns ∧ Q (.int (ns.idxOf k : Nat)) H) := by
  intro pins s σ H x xs
  intro v us Q I rx rs h
  obtain ⟨p, ns, k, rfl, rfl, hq, hk, q⟩ := h
  cases rx
  obtain ⟨u, rfl, ⟨t, rfl⟩⟩ := vals1 rs
  obtain ⟨its, r, tu, _⟩ := I.tuple hq
  exact PySem.SeqAt.tuple_index_ints tu (vals_ints' r) hk ⟨.int (ns.idxOf k : Nat), H, I.tok _, ⟨_, rfl⟩, q⟩
theorem mt_tixS : MtR X "tuple.index" (fun x xs H Q => ∃ (p : Addr) (ns : List Str) (k : Str), x = .ref p ∧ xs = [.str k] ∧ SqT X.K H p (ns.map V.str) ∧ k ∈ ns ∧ Q (.int (ns.idxOf k : Nat)) H) := by
  intro pins s σ H x xs
  intro v us Q I rx rs h
  obtain ⟨p, ns, k, rfl, rfl, hq, hk, q⟩ := h
  cases rx
  obtain ⟨u, rfl, ⟨t, rfl⟩⟩ := vals1 rs
  obtain ⟨its, r, tu, _⟩ := I.tuple hq
  exact PySem.SeqAt.tuple_index_strs tu (vals_strs' r) hk ⟨.int (ns.idxOf k : Nat), H, I.tok _, ⟨_, rfl⟩, q⟩
theorem mt_lixI : MtR X "list.index" (fun x xs H Q => ∃ (p : Addr) (ns : List Int) (k : Int), x = .ref p ∧ xs = [.int k] ∧ SqL X.K H p (ns.map V.int) ∧ k ∈ ns ∧ Q (.int (ns.idxOf k : Nat)) H) := by
  intro pins s σ H x xs
  intro v us Q I rx rs h
  obtain ⟨p, ns, k, rfl, rfl, hq, hk, q⟩ := h
  cases rx
  obtain ⟨u, rfl, ⟨t, rfl⟩⟩ := vals1 rs
  obtain ⟨its, r, tu, hz⟩ := I.list hq
  rw [List.length_map] at hz
  exact PySem.SeqAt.list_index_ints tu.isList (vals_ints' r) hz hk ⟨.int (ns.idxOf k : Nat), H, I.tok _, ⟨_, rfl⟩, q⟩
theorem mt_lixS : MtR X "list.index" (fun x xs H Q => ∃ (p : Addr) (ns : List Str) (k : Str), x = .ref p ∧ xs = [.str k] ∧ SqL X.K H p (ns.map V.str) ∧ k ∈ ns ∧ Q (.int (ns.idxOf k : Nat)) H) := by
  intro pins s σ H x xs
  intro v us Q I rx rs h
  obtain ⟨p, ns, k, rfl, rfl, hq, hk, q⟩ := h
  cases rx
  obtain ⟨u, rfl, ⟨t, rfl⟩⟩ := vals1 rs
  obtain ⟨its, r, tu, hz⟩ := I.list hq
  rw [List.length_map] at hz
  exact PySem.SeqAt.list_index_strs tu.isList (vals_strs' r) hz hk ⟨.int (ns.idxOf k : Nat), H, I.tok _, ⟨_, rfl⟩, q⟩
end
/-! ### a def's promise, by its body -/
section
variable {P : Program} {w : World}
variable {K : PySem.W.Frag}
variable {mg : Str → Option Value}
variable {base : Heap}
theorem mk_dfn {CX : CXT} {x : Str} {st : Stmt} {N ps : List Str} {k : Nat} {sp : Sp} (F : ∃ fd, FnP K x x st (He.ga K x) fd ∧ Binds K fd ps []) (g : mg x = some (.ref (He.ga K x))) (S : FnScope N ps (defScope st))
    (len : ∀ vs H Q E,
        sp vs H Q E → vs.length = ps.length)
    (hbody : ∀ (cdv : Value) (A : Around) (outer : List Env) (s : Shared) (H : Hp) (vs : List V) (Q : VK) (E : XK), Room k (A.deeper (envOfC x (defScope st) s.heap.objs.size (He.ga K x) cdv)) → sp vs H Q E →
      ∃ t, PSs (cxOf CX P w K mg base N x (defScope st) (He.ga K x) cdv A outer s H E) (defBody st) t ∧ t { nx := fun _ H' => Q .non H', rt := Q } (start N vs) H) : Dfn P w K mg base CX (k + 1) x sp := by
  obtain ⟨fd, F, b⟩ := F
  exact ⟨⟨fd, ps, FunD.ok F S len hbody, b⟩, g, F.kp⟩
theorem mk_mtd {CX : CXT} {C x q : Str} {st : Stmt} {N ps : List Str} {k : Nat} {sp : Sp} (F : ∃ fd, FnP K x q st (He.ma K (He.ga K C) x) fd ∧ Binds K fd ps []) (c : Cls K (He.ga K C)) (m : Meth K (He.ga K C) x (He.ma K (He.ga K C) x)) (S : FnScope N ps (defScope st))
    (len : ∀ vs H Q E,
        sp vs H Q E → vs.length = ps.length)
    (hbody : ∀ (cdv : Value) (A : Around) (outer : List Env) (s : Shared) (H : Hp) (vs : List V) (Q : VK) (E : XK), Room k (A.deeper (envOfC q (defScope st) s.heap.objs.size (He.ma K (He.ga K C) x) cdv)) → sp vs H Q E →
      ∃ t, PSs (cxOf CX P w K mg base N q (defScope st) (He.ma K (He.ga K C) x) cdv A outer s H E) (defBody st) t ∧ t { nx := fun _ H' => Q .non H', rt := Q } (start N vs) H) : Mtd P w K mg base CX (k + 1) C x sp := by
  obtain ⟨fd, F, b⟩ := F
  exact ⟨⟨fd, ps, FunD.ok F S len hbody, b⟩, c, m⟩
theorem mk_dfnG {CX : CXT} {x : Str} {st : Stmt} {N ps : List Str} {k : Nat} {sp : Sp} (F : ∃ fd, FnP K x x st (He.ga K x) fd ∧ Binds K fd ps []) (g : mg x = some (.ref (He.ga K x))) (S : FnScope N ps (defScope st))
    (len : ∀ vs H Q E,
        sp vs H Q E → vs.length = ps.length)
    (hbody : ∀ (cdv : Value) (A : Around) (outer : List Env) (s : Shared) (H : Hp) (vs : List V) (Q : VK) (E : XK), A.guards = some [] → Room k (A.deeper (envOfC x (defScope st) s.heap.objs.size (He.ga K x) cdv)) → sp vs H Q E →
      ∃ t, PSs (cxOf CX P w K mg base N x (defScope st) (He.ga K x) cdv A outer s H E) (defBody st) t ∧ t { nx := fun _ H' => Q .non H', rt := Q } (start N vs) H) : DfnG P w K mg base CX (k + 1) x sp := by
  obtain ⟨fd, F, b⟩ := F
  exact ⟨⟨fd, ps, okG F S len hbody, b⟩, g, F.kp⟩
end
end Bo

/-! Leaves, trees, bands as data; their events; what is a band tree; sizes. No program in sight. -/
namespace Bo
open PySem PySem.Spec L2 PyProof.Rows

def modes : List Str := ["flat", "down", "right", "slope", "motion"]
def facs : List Int := [1, 2, 4, 8, 16, 32, 64]
structure Leaf where
  mode : Str
  slot : Int
  dy : Int
  dx : Int
  q : Int
  rows : List (List Int)
def dRow (r : List Int) : PyData := .tuple (r.map .int)
def dRows (rows : List (List Int)) : PyData := .tuple (rows.map dRow)
def Leaf.data (l : Leaf) : PyData := .tuple [.str "leaf", .str l.mode, .int l.slot, .int l.dy, .int l.dx, .int l.q, dRows l.rows]
structure Sq (n : Nat) (rows : List (List Int)) : Prop where
  len : rows.length = n
  row : ∀ r ∈ rows, r.length = n
  lv : ∀ r ∈ rows, ∀ v ∈ r, -2000 ≤ v ∧ v ≤ 2000
structure Leaf.Ok (n : Nat) (l : Leaf) : Prop where
  mode : l.mode ∈ modes
  slot : 0 ≤ l.slot ∧ l.slot ≤ 2
  dy : -31 ≤ l.dy ∧ l.dy ≤ 31
  dx : -31 ≤ l.dx ∧ l.dx ≤ 31
  still : l.mode = "motion" ∨ (l.slot = 0 ∧ l.dy = 0 ∧ l.dx = 0)
  q : l.q ∈ facs
  sq : Sq n l.rows
def emptyR (rows : List (List Int)) : Bool := rows.all fun r => r.all fun v => v == 0
def evMot (l : Leaf) : Ev := if l.mode = "motion" then evNum "slot" l.slot ++ (evNum "dy" (fold l.dy) ++ evNum "dx" (fold l.dx)) else []
def evEmp (n : Nat) (rows : List (List Int)) : Ev := (k2 "empty" (n : Int), if emptyR rows then 1 else 0) :: (if emptyR rows then [] else evLv n rows)
def evLeaf (n : Nat) (l : Leaf) : Ev := evNum "mode" (modes.idxOf l.mode : Nat) ++ (evMot l ++ (evNum "q" (facs.idxOf l.q : Nat) ++ evEmp n l.rows))
def nn (m : Nat) : Nat := 2 ^ (m + 1)
def evSpl : Nat → Int → Ev
  | 0, _ => []
  | m + 1, b => [(k2 "split" (nn (m + 1) : Nat), b)]
inductive TreeE : Nat → PyData → Ev → Prop where
  | leaf {m : Nat} {l : Leaf} (h : l.Ok (nn m)) : TreeE m l.data (evSpl m 0 ++ evLeaf (nn m) l)
  | split {m : Nat} {a b c d : PyData} {la lb lc ld : Ev} (ha : TreeE m a la) (hb : TreeE m b lb) (hc : TreeE m c lc) (hd : TreeE m d ld) :
      TreeE (m + 1) (.tuple [.str "split", .tuple [a, b, c, d]]) (evSpl (m + 1) 1 ++ (la ++ (lb ++ (lc ++ ld))))
inductive BandE : List PyData → Ev → Prop where
  | nil : BandE [] []
  | cons {t : PyData} {ts : List PyData} {l ls : Ev} (h : TreeE 2 t l) (hs : BandE ts ls) : BandE (t :: ts) (l ++ ls)

/-! ### what is a band tree -/
def within (a b : Int) : PyData → Bool
  | .int i => decide (a ≤ i) && decide (i ≤ b)
  | _ => false
def rowB (n : Nat) : PyData → Bool
  | .tuple cs => cs.length == n && cs.all (within (-2000) 2000)
  | _ => false
def lvB (n : Nat) : PyData → Bool
  | .tuple rs => rs.length == n && rs.all (rowB n)
  | _ => false
def isS (x : Str) : PyData → Bool
  | .str y => decide (y = x)
  | _ => false
def modeB : PyData → Bool
  | .str s => decide (s ∈ modes)
  | _ => false
def facB : PyData → Bool
  | .int i => decide (i ∈ facs)
  | _ => false
def isZ : PyData → Bool
  | .int i => decide (i = 0)
  | _ => false
def leafB (n : Nat) : List PyData → Bool
  | [a0, a1, a2, a3, a4, a5, a6] => isS "leaf" a0 && (modeB a1 && (within 0 2 a2 && (facB a5 && (within (-31) 31 a3 && (within (-31) 31 a4 && ((isS "motion" a1 || (isZ a2 && (isZ a3 && isZ a4))) && lvB n a6))))))
  | _ => false
def headS : PyData → Option (Str × List PyData)
  | .tuple (.str s :: xs) => some (s, .str s :: xs)
  | _ => none
def splitB (f : PyData → Bool) : List PyData → Bool
  | [_, .tuple ps] => ps.length == 4 && ps.all f
  | _ => false
def treeB : Nat → PyData → Bool
  | 0, d => match headS d with
    | some (s, xs) => if s = "split" then false else leafB (nn 0) xs
    | none => false
  | m + 1, d => match headS d with
    | some (s, xs) => if s = "split" then splitB (treeB m) xs else leafB (nn (m + 1)) xs
    | none => false
def bandN (c : Nat) : PyData → Bool
  | .tuple ts => ts.length == c && ts.all (treeB 2)
  | _ => false
def bandB (d : PyData) : Bool := [1, 2, 3, 4].any fun c => bandN c d
theorem leaf_not_split : ¬ (("leaf" : Str) = "split") := by decide +kernel
theorem within_int {a b i : Int} (h : a ≤ i ∧ i ≤ b) : within a b (.int i) = true := by
  simp only [within, decide_eq_true h.1, decide_eq_true h.2, Bool.and_self]
theorem lvB_ok {n : Nat} {rows : List (List Int)} (h : Sq n rows) : lvB n (dRows rows) = true := by
  show ((rows.map dRow).length == n && (rows.map dRow).all (rowB n)) = true
  rw [List.length_map, h.len, beq_self_eq_true, Bool.true_and, List.all_map]
  refine List.all_eq_true.mpr fun r hr => ?_
  show rowB n (dRow r) = true
  show ((r.map PyData.int).length == n && (r.map PyData.int).all (within (-2000) 2000)) = true
  rw [List.length_map, h.row r hr, beq_self_eq_true, Bool.true_and, List.all_map]
  exact List.all_eq_true.mpr fun v hv => within_int (h.lv r hr v hv)
theorem leafB_ok {n : Nat} {l : Leaf} (h : l.Ok n) : leafB n [.str "leaf", .str l.mode, .int l.slot, .int l.dy, .int l.dx, .int l.q, dRows l.rows] = true := by
  have e1 : isS "leaf" (.str "leaf") = true := by decide +kernel
  have e2 : modeB (.str l.mode) = true := decide_eq_true h.mode
  have e3 : facB (.int l.q) = true := decide_eq_true h.q
  have e4 : (isS "motion" (.str l.mode) || (isZ (.int l.slot) && (isZ (.int l.dy) && isZ (.int l.dx)))) = true := by
    rcases h.still with z | ⟨z1, z2, z3⟩
    · rw [show isS "motion" (.str l.mode) = true from decide_eq_true z]
      rfl
    · rw [show isZ (.int l.slot) = true from decide_eq_true z1, show isZ (.int l.dy) = true from decide_eq_true z2, show isZ (.int l.dx) = true from decide_eq_true z3]
      simp
  simp only [leafB, e1, e2, e3, e4, within_int h.slot, within_int h.dy, within_int h.dx, lvB_ok h.sq, Bool.and_self]
theorem treeB_leafy {m : Nat} {d : PyData} {s : Str} {xs : List PyData} (h : headS d = some (s, xs)) (hs : ¬ s = "split") : treeB m d = leafB (nn m) xs := by
  cases m <;> simp only [treeB, h, if_neg hs]
theorem treeB_split {m : Nat} {d : PyData} {s : Str} {xs : List PyData} (h : headS d = some (s, xs)) (hs : s = "split") : treeB (m + 1) d = splitB (treeB m) xs := by
  simp only [treeB, h, if_pos hs]
theorem treeB_split0 {d : PyData} {s : Str} {xs : List PyData} (h : headS d = some (s, xs)) (hs : s = "split") : treeB 0 d = false := by
  simp only [treeB, h, if_pos hs]
theorem treeB_no {m : Nat} {d : PyData} (h : headS d = none) : treeB m d = false := by
  cases m <;> simp only [treeB, h]
theorem treeB_leaf {m : Nat} {l : Leaf} (h : l.Ok (nn m)) : treeB m l.data = true := (treeB_leafy (m := m) (d := l.data) rfl leaf_not_split).trans (leafB_ok h)
theorem treeB_ok : ∀ {m : Nat} {d : PyData} {l : Ev}, TreeE m d l → treeB m d = true
  | _, _, _, .leaf h => treeB_leaf h
  | _, _, _, .split (m := m) ha hb hc hd => by
    refine (treeB_split rfl rfl).trans ?_
    simp only [splitB, List.length_cons, List.length_nil, List.all_cons, List.all_nil, treeB_ok ha, treeB_ok hb, treeB_ok hc, treeB_ok hd, Bool.and_true]
    rfl
theorem bandE_all : ∀ {ts : List PyData} {l : Ev}, BandE ts l → ts.all (treeB 2) = true
  | _, _, .nil => rfl
  | _, _, .cons h hs => by
    rw [List.all_cons, treeB_ok h, bandE_all hs]
    rfl
theorem bandB_ok {ts : List PyData} {l : Ev} (h : BandE ts l) (h1 : 1 ≤ ts.length) (h4 : ts.length ≤ 4) : bandB (.tuple ts) = true := by
  unfold bandB
  rw [List.any_eq_true]
  refine ⟨ts.length, ?_, ?_⟩
  · have : ts.length = 1 ∨ ts.length = 2 ∨ ts.length = 3 ∨ ts.length = 4 := by omega
    simp
    omega
  · show (ts.length == ts.length && ts.all (treeB 2)) = true
    rw [beq_self_eq_true, bandE_all h]
    rfl

/-! ### sizes -/
mutual
def nice : PyData → Bool
  | .none => true
  | .bool _ => true
  | .int i => decide (-10000 ≤ i) && decide (i ≤ 10000)
  | .str x => x.cps.toList.all fun c => decide (c < 1000)
  | .list xs => niceAll xs
  | .tuple xs => niceAll xs
  | .dict _ => false
def niceAll : List PyData → Bool
  | [] => true
  | x :: xs => nice x && niceAll xs
end
structure Sized (B D : Nat) (d : PyData) : Prop where
  ni : nice d = true
  we : d.weight ≤ B
  de : d.depth ≤ D
structure SizedAll (B D : Nat) (ds : List PyData) : Prop where
  ni : niceAll ds = true
  we : PyData.weightAll ds ≤ B
  de : PyData.depthAll ds ≤ D
theorem Sized.mono {B B' D D' : Nat} {d : PyData} (h : Sized B D d) (hb : B ≤ B') (hd : D ≤ D') : Sized B' D' d := ⟨h.ni, Nat.le_trans h.we hb, Nat.le_trans h.de hd⟩
theorem SizedAll.mono {B B' D D' : Nat} {d : List PyData} (h : SizedAll B D d) (hb : B ≤ B') (hd : D ≤ D') : SizedAll B' D' d := ⟨h.ni, Nat.le_trans h.we hb, Nat.le_trans h.de hd⟩
theorem SizedAll.nil {B D : Nat} : SizedAll B D [] := ⟨by simp only [niceAll], by simp only [PyData.weightAll]; exact Nat.zero_le _, by simp only [PyData.depthAll]; exact Nat.zero_le _⟩
theorem SizedAll.cons {B C D : Nat} {x : PyData} {xs : List PyData} (h : Sized B D x) (hs : SizedAll C D xs) : SizedAll (B + 1 + C) D (x :: xs) where
  ni := by simp only [niceAll, h.ni, hs.ni, Bool.and_self]
  we := by
    simp only [PyData.weightAll]
    have := h.we
    have := hs.we
    omega
  de := by
    simp only [PyData.depthAll]
    have := h.de
    have := hs.de
    omega
theorem Sized.tuple {B D : Nat} {xs : List PyData} (h : SizedAll B D xs) : Sized B (D + 1) (.tuple xs) := ⟨by simp only [nice]; exact h.ni, by simp only [PyData.weight]; exact h.we, by simp only [PyData.depth]; have := h.de; omega⟩
theorem Sized.list {B D : Nat} {xs : List PyData} (h : SizedAll B D xs) : Sized B (D + 1) (.list xs) := ⟨by simp only [nice]; exact h.ni, by simp only [PyData.weight]; exact h.we, by simp only [PyData.depth]; have := h.de; omega⟩
theorem SizedAll.of_tuple {B D : Nat} {xs : List PyData} (h : Sized B (D + 1) (.tuple xs)) : SizedAll B D xs :=
  ⟨by have := h.ni; simp only [nice] at this; exact this, by have := h.we; simp only [PyData.weight] at this; exact this, by have := h.de; simp only [PyData.depth] at this; omega⟩
theorem weight_int {i : Int} (h : -10000 ≤ i ∧ i ≤ 10000) : PyData.weight (.int i) ≤ 14 := by
  simp only [PyData.weight]
  split
  · omega
  · have h2 : i.natAbs.log2 < 14 := (Nat.log2_lt (by intro z; rename_i n; apply n; rw [beq_iff_eq]; omega)).mpr (by omega)
    omega
theorem Sized.int {i : Int} {D : Nat} (h : -10000 ≤ i ∧ i ≤ 10000) : Sized 14 D (.int i) where
  ni := by simp only [nice, decide_eq_true h.1, decide_eq_true h.2, Bool.and_self]
  we := weight_int h
  de := by simp only [PyData.depth]; exact Nat.zero_le _
theorem Sized.none {D : Nat} : Sized 0 D .none := ⟨by simp only [nice], by simp only [PyData.weight]; exact Nat.le_refl _, by simp only [PyData.depth]; exact Nat.zero_le _⟩
theorem Sized.bool {D : Nat} {b : Bool} : Sized 0 D (.bool b) := ⟨by simp only [nice], by simp only [PyData.weight]; exact Nat.le_refl _, by simp only [PyData.depth]; exact Nat.zero_le _⟩
def plainS (n : Nat) (x : Str) : Bool := decide (x.cps.size ≤ n) && x.cps.toList.all fun c => decide (c < 1000)
theorem Sized.str {x : Str} {n D : Nat} (h : plainS n x = true) : Sized n D (.str x) where
  ni := by simp only [nice]; exact (Bool.and_eq_true_iff.mp h).2
  we := by simp only [PyData.weight]; exact of_decide_eq_true (Bool.and_eq_true_iff.mp h).1
  de := by simp only [PyData.depth]; exact Nat.zero_le _
theorem SizedAll.append {B C D : Nat} : ∀ {xs ys : List PyData}, SizedAll B D xs → SizedAll C D ys → SizedAll (B + C) D (xs ++ ys)
  | [], ys, _, h => h.mono (Nat.le_add_left _ _) (Nat.le_refl _)
  | x :: xs, ys, h, h' => by
    have hx := h.ni
    have hw := h.we
    have hd := h.de
    simp only [niceAll, Bool.and_eq_true] at hx
    simp only [PyData.weightAll] at hw
    simp only [PyData.depthAll] at hd
    have r : SizedAll (B - (x.weight + 1) + C) D (xs ++ ys) := SizedAll.append (B := B - (x.weight + 1)) ⟨hx.2, by omega, by omega⟩ h'
    exact (SizedAll.cons (B := x.weight) ⟨hx.1, Nat.le_refl _, by omega⟩ r).mono (by omega) (Nat.le_refl _)
mutual
theorem nice_leaves : ∀ d : PyData, nice d = true → d.leavesShort 13 = true ∧ d.showable = true ∧ d.hasDict = false
  | .none, _ => ⟨rfl, rfl, rfl⟩
  | .bool _, _ => ⟨rfl, rfl, rfl⟩
  | .int i, h => by
    simp only [nice, Bool.and_eq_true, decide_eq_true_eq] at h
    refine ⟨?_, ?_, rfl⟩
    · simp only [PyData.leavesShort, decide_eq_true_eq]
      exact PyData.shown_int_le (Nat.lt_of_lt_of_le (by omega : i.natAbs < 10001) (by decide))
    · simp only [PyData.showable, decide_eq_true_eq]
      by_cases z : i.natAbs = 0
      · rw [z]; decide
      · have := (Nat.log2_lt (k := 1920) z).mpr (Nat.lt_of_lt_of_le (by omega : i.natAbs < 2 ^ 14) (Nat.pow_le_pow_right (by decide) (by decide)))
        exact this
  | .str x, h => by
    simp only [nice, List.all_eq_true, decide_eq_true_eq] at h
    refine ⟨?_, rfl, rfl⟩
    simp only [PyData.leavesShort, List.all_eq_true, decide_eq_true_eq]
    intro c hc
    have := h c hc
    have : (1000 : Nat) ≤ 16 ^ 8 := by decide
    omega
  | .list xs, h => by
    simp only [nice] at h
    simp only [PyData.leavesShort, PyData.showable, PyData.hasDict]
    exact nice_leavesAll xs h
  | .tuple xs, h => by
    simp only [nice] at h
    simp only [PyData.leavesShort, PyData.showable, PyData.hasDict]
    exact nice_leavesAll xs h
  | .dict _, h => by simp only [nice] at h; cases h
theorem nice_leavesAll : ∀ xs : List PyData, niceAll xs = true → PyData.leavesShortAll 13 xs = true ∧ PyData.showableAll xs = true ∧ PyData.hasDictAll xs = false
  | [], _ => ⟨rfl, rfl, rfl⟩
  | x :: xs, h => by
    simp only [niceAll, Bool.and_eq_true] at h
    obtain ⟨a1, a2, a3⟩ := nice_leaves x h.1
    obtain ⟨b1, b2, b3⟩ := nice_leavesAll xs h.2
    simp only [PyData.leavesShortAll, PyData.showableAll, PyData.hasDictAll, a1, a2, a3, b1, b2, b3, Bool.and_self, Bool.or_self, and_self]
end
/-- what repr asks -/
theorem Sized.fits {B D : Nat} {d : PyData} (h : Sized B D d) (hB : B ≤ 1000000) (hD : D ≤ 60) : d.showable = true ∧ d.hasDict = false ∧ d.depth ≤ 60 ∧ d.shown.length ≤ sizeLine := by
  obtain ⟨h1, h2, h3⟩ := nice_leaves d h.ni
  refine ⟨h2, h3, Nat.le_trans h.de hD, PyData.shown_fits (B := 13) (by decide) (by decide) h1 ?_⟩
  have := h.we
  have : (2 : Nat) ^ 20 = 1048576 := by decide
  omega
theorem sized_ints : ∀ {l : List Int}, (∀ i ∈ l, -10000 ≤ i ∧ i ≤ 10000) → SizedAll (15 * l.length) 0 (l.map PyData.int)
  | [], _ => SizedAll.nil
  | i :: l, h => (SizedAll.cons (Sized.int (D := 0) (h i (List.mem_cons_self ..))) (sized_ints fun j hj => h j (List.mem_cons_of_mem _ hj))).mono (by rw [List.length_cons]; omega) (Nat.le_refl _)
theorem sized_rows {n : Nat} : ∀ {rows : List (List Int)}, (∀ r ∈ rows, r.length = n) → (∀ r ∈ rows, ∀ v ∈ r, -2000 ≤ v ∧ v ≤ 2000) → SizedAll ((15 * n + 1) * rows.length) 1 (rows.map dRow)
  | [], _, _ => SizedAll.nil
  | r :: rows, h1, h2 => by
    have a : Sized (15 * n) 1 (dRow r) := by
      have z := sized_ints (l := r) fun i hi => by have := h2 r (List.mem_cons_self ..) i hi; omega
      rw [h1 r (List.mem_cons_self ..)] at z
      exact Sized.tuple z
    have b := sized_rows (rows := rows) (fun x hx => h1 x (List.mem_cons_of_mem _ hx)) (fun x hx => h2 x (List.mem_cons_of_mem _ hx))
    refine (SizedAll.cons a b).mono ?_ (Nat.le_refl _)
    rw [List.length_cons, Nat.mul_succ]
    omega
theorem modes_plain {x : Str} (h : x ∈ modes) : plainS 6 x = true := by
  have e : modes.all (plainS 6) = true := by decide +kernel
  exact List.all_eq_true.mp e x h
theorem facs_small {i : Int} (h : i ∈ facs) : 1 ≤ i ∧ i ≤ 64 := by
  have e : facs.all (fun i => decide (1 ≤ i) && decide (i ≤ 64)) = true := by decide
  have z := List.all_eq_true.mp e i h
  rw [Bool.and_eq_true, decide_eq_true_eq,
      decide_eq_true_eq] at z
  exact z
theorem sized_leaf {n : Nat} {l : Leaf} (h : l.Ok n) : Sized (80 + (15 * n + 1) * n) 3 l.data := by
  have hr : SizedAll ((15 * n + 1) * n) 1 (l.rows.map dRow) := by
    have z := sized_rows h.sq.row h.sq.lv
    rw [h.sq.len] at z
    exact z
  have e1 : Sized 4 2 (.str "leaf") := Sized.str (by decide +kernel)
  have e2 : Sized 6 2 (.str l.mode) := Sized.str (modes_plain h.mode)
  have e3 : Sized 14 2 (.int l.slot) := Sized.int (by have := h.slot; omega)
  have e4 : Sized 14 2 (.int l.dy) := Sized.int (by have := h.dy; omega)
  have e5 : Sized 14 2 (.int l.dx) := Sized.int (by have := h.dx; omega)
  have e6 : Sized 14 2 (.int l.q) := Sized.int (by have := facs_small h.q; omega)
  refine (Sized.tuple (SizedAll.cons e1 (SizedAll.cons e2 (SizedAll.cons e3 (SizedAll.cons e4 (SizedAll.cons e5 (SizedAll.cons e6 (SizedAll.cons (Sized.tuple hr) SizedAll.nil (C := 0))))))))).mono ?_ (Nat.le_refl _)
  omega
def wB : Nat → Nat
  | 0 => 150
  | 1 => 700
  | _ => 3000
theorem sized_tree : ∀ {m : Nat} {d : PyData} {l : Ev}, TreeE m d l → m ≤ 2 → Sized (wB m) (3 + 2 * m) d
  | m, _, _, .leaf h, hm => by
    refine (sized_leaf h).mono ?_ (by omega)
    have : m = 0 ∨ m = 1 ∨ m = 2 := by omega
    rcases this with rfl | rfl | rfl <;> decide
  | _, _, _, .split (m := m) ha hb hc hd, hm => by
    have a := sized_tree ha (by omega)
    have b := sized_tree hb (by omega)
    have c := sized_tree hc (by omega)
    have d := sized_tree hd (by omega)
    have s : Sized 5 (4 + 2 * m) (.str "split") := Sized.str (by decide +kernel)
    have q := Sized.tuple (SizedAll.cons a (SizedAll.cons b (SizedAll.cons c (SizedAll.cons d (SizedAll.nil (B := 0))))))
    have q2 : Sized (wB m + 1 + (wB m + 1 + (wB m + 1 + (wB m + 1 + 0)))) (4 + 2 * m) (.tuple _) := q.mono (Nat.le_refl _) (by omega)
    refine (Sized.tuple (SizedAll.cons s (SizedAll.cons q2 (SizedAll.nil (B := 0))))).mono ?_ (by omega)
    have : m = 0 ∨ m = 1 := by omega
    rcases this with rfl | rfl
      <;> decide
theorem sized_band : ∀ {ts : List PyData} {l : Ev}, BandE ts l → SizedAll (3001 * ts.length) 7 ts
  | _, _, .nil => SizedAll.nil
  | _, _, .cons h hs => (SizedAll.cons (sized_tree h (by decide)) (sized_band hs)).mono (by rw [List.length_cons]; show 3000 + 1 + _ ≤ _; omega) (Nat.le_refl _)
/-! no lists within -/
theorem noL_ints : ∀ {l : List Int}, noLAll (l.map PyData.int) = true
  | [] => by simp only [List.map_nil, noLAll]
  | i :: l => by simp only [List.map_cons, noLAll, noL, noL_ints, Bool.and_self]
theorem noL_rows : ∀ {rows : List (List Int)}, noLAll (rows.map dRow) = true
  | [] => by simp only [List.map_nil, noLAll]
  | r :: rows => by simp only [List.map_cons, noLAll, dRow, noL, noL_ints, noL_rows, Bool.and_self]
theorem noL_leaf (l : Leaf) : noL l.data = true := by simp only [Leaf.data, noL, noLAll, dRows, noL_rows, Bool.and_self]
theorem noL_tree : ∀ {m : Nat} {d : PyData} {l : Ev}, TreeE m d l → noL d = true
  | _, _, _, .leaf h => noL_leaf _
  | _, _, _, .split ha hb hc hd => by simp only [noL, noLAll, noL_tree ha, noL_tree hb, noL_tree hc, noL_tree hd, Bool.and_self]
theorem noL_band : ∀ {ts : List PyData} {l : Ev}, BandE ts l → noLAll ts = true
  | _, _, .nil => by simp only [noLAll]
  | _, _, .cons h hs => by simp only [noLAll, noL_tree h, noL_band hs, Bool.and_self]
end Bo

/-! Printed by genfacts.py: each def's scope and bindings, the module's facts by names. -/
namespace Bo
open PySem PySem.Spec L2 PyProof.Rows
theorem sc_Interval_init : FnScope ["self"] ["self"] (defScope s_Interval_init) := ⟨rfl, rfl, rfl, by decide +kernel, rfl, by decide +kernel, by decide +kernel⟩
theorem sc_Interval_cut : FnScope ["self", "context"] ["self", "context"] (defScope s_Interval_cut) := ⟨rfl, rfl, rfl, by decide +kernel, rfl, by decide +kernel, by decide +kernel⟩
theorem sc_Interval_narrow : FnScope ["self", "context", "bit", "p", "cut"] ["self", "context", "bit"] (defScope s_Interval_narrow) := ⟨rfl, rfl, rfl, by decide +kernel, rfl, by decide +kernel, by decide +kernel⟩
theorem sc_Coder_init : FnScope ["self"] ["self"] (defScope s_Coder_init) := ⟨rfl, rfl, rfl, by decide +kernel, rfl, by decide +kernel, by decide +kernel⟩
theorem sc_Coder_put : FnScope ["self", "context", "bit"] ["self", "context", "bit"] (defScope s_Coder_put) := ⟨rfl, rfl, rfl, by decide +kernel, rfl, by decide +kernel, by decide +kernel⟩
theorem sc_Coder_state : FnScope ["self"] ["self"] (defScope s_Coder_state) := ⟨rfl, rfl, rfl, by decide +kernel, rfl, by decide +kernel, by decide +kernel⟩
theorem sc_Coder_octets : FnScope ["self"] ["self"] (defScope s_Coder_octets) := ⟨rfl, rfl, rfl, by decide +kernel, rfl, by decide +kernel, by decide +kernel⟩
theorem sc_octets_at : FnScope ["state", "low", "width", "count", "k", "unit", "v"] ["state"] (defScope s_octets_at) := ⟨rfl, rfl, rfl, by decide +kernel, rfl, by decide +kernel, by decide +kernel⟩
theorem sc_figures_of : FnScope ["v", "many", "figures", "_"] ["v", "many"] (defScope s_figures_of) := ⟨rfl, rfl, rfl, by decide +kernel, rfl, by decide +kernel, by decide +kernel⟩
theorem sc_figures_in : FnScope ["v", "many"] ["v"] (defScope s_figures_in) := ⟨rfl, rfl, rfl, by decide +kernel, rfl, by decide +kernel, by decide +kernel⟩
theorem sc_put_number : FnScope ["coder", "word", "v", "k", "i", "j"] ["coder", "word", "v"] (defScope s_put_number) := ⟨rfl, rfl, rfl, by decide +kernel, rfl, by decide +kernel, by decide +kernel⟩
theorem sc_folded : FnScope ["v"] ["v"] (defScope s_folded) := ⟨rfl, rfl, rfl, by decide +kernel, rfl, by decide +kernel, by decide +kernel⟩
theorem sc_put_signed : FnScope ["coder", "word", "v"] ["coder", "word", "v"] (defScope s_put_signed) := ⟨rfl, rfl, rfl, by decide +kernel, rfl, by decide +kernel, by decide +kernel⟩
theorem sc_InvalidTree_init : FnScope ["self", "value"] ["self", "value"] (defScope s_InvalidTree_init) := ⟨rfl, rfl, rfl, by decide +kernel, rfl, by decide +kernel, by decide +kernel⟩
theorem sc_is_integer : FnScope ["value"] ["value"] (defScope s_is_integer) := ⟨rfl, rfl, rfl, by decide +kernel, rfl, by decide +kernel, by decide +kernel⟩
theorem sc_is_within : FnScope ["value", "least", "most"] ["value", "least", "most"] (defScope s_is_within) := ⟨rfl, rfl, rfl, by decide +kernel, rfl, by decide +kernel, by decide +kernel⟩
theorem sc_is_levels : FnScope ["value", "n", "row", "one"] ["value", "n"] (defScope s_is_levels) := ⟨rfl, rfl, rfl, by decide +kernel, rfl, by decide +kernel, by decide +kernel⟩
theorem sc_is_leaf : FnScope ["value", "n", "_", "mode", "slot", "dy", "dx", "q", "levels"] ["value", "n"] (defScope s_is_leaf) := ⟨rfl, rfl, rfl, by decide +kernel, rfl, by decide +kernel, by decide +kernel⟩
theorem sc_is_tree : FnScope ["value", "n", "part"] ["value", "n"] (defScope s_is_tree) := ⟨rfl, rfl, rfl, by decide +kernel, rfl, by decide +kernel, by decide +kernel⟩
theorem sc_is_band_tree : FnScope ["value", "blocks", "tree"] ["value", "blocks"] (defScope s_is_band_tree) := ⟨rfl, rfl, rfl, by decide +kernel, rfl, by decide +kernel, by decide +kernel⟩
theorem sc_need_band_tree : FnScope ["trees"] ["trees"] (defScope s_need_band_tree) := ⟨rfl, rfl, rfl, by decide +kernel, rfl, by decide +kernel, by decide +kernel⟩
theorem sc_is_empty : FnScope ["levels", "row", "one"] ["levels"] (defScope s_is_empty) := ⟨rfl, rfl, rfl, by decide +kernel, rfl, by decide +kernel, by decide +kernel⟩
theorem sc_word_at : FnScope ["i", "k"] ["i", "k"] (defScope s_word_at) := ⟨rfl, rfl, rfl, by decide +kernel, rfl, by decide +kernel, by decide +kernel⟩
theorem sc_put_leaf : FnScope ["coder", "leaf", "n", "_", "mode", "slot", "dy", "dx", "q", "levels", "i", "row", "k", "one"] ["coder", "leaf", "n"] (defScope s_put_leaf) := ⟨rfl, rfl, rfl, by decide +kernel, rfl, by decide +kernel, by decide +kernel⟩
theorem sc_put_tree : FnScope ["coder", "tree", "n", "is_split", "part"] ["coder", "tree", "n"] (defScope s_put_tree) := ⟨rfl, rfl, rfl, by decide +kernel, rfl, by decide +kernel, by decide +kernel⟩
theorem sc_octets_of : FnScope ["trees", "coder", "tree"] ["trees"] (defScope s_octets_of) := ⟨rfl, rfl, rfl, by decide +kernel, rfl, by decide +kernel, by decide +kernel⟩
theorem sc_band_octets : FnScope ["trees"] ["trees"] (defScope s_band_octets) := ⟨rfl, rfl, rfl, by decide +kernel, rfl, by decide +kernel, by decide +kernel⟩
theorem sc_l_draws : FnScope ["_law_script", "_law_many", "_law_cell", "_law_rests", "_law_draws_here", "_law_k", "_law_at", "_law_mixed"] ["_law_script", "_law_many"] (defScope s_l_draws) := ⟨rfl, rfl, rfl, by decide +kernel, rfl, by decide +kernel, by decide +kernel⟩
theorem sc_l_take : FnScope ["_law_hand", "_law_many", "_law_at", "_law_draws_here"] ["_law_hand", "_law_many"] (defScope s_l_take) := ⟨rfl, rfl, rfl, by decide +kernel, rfl, by decide +kernel, by decide +kernel⟩
theorem sc_l_is_integer : FnScope ["_law_value"] ["_law_value"] (defScope s_l_is_integer) := ⟨rfl, rfl, rfl, by decide +kernel, rfl, by decide +kernel, by decide +kernel⟩
theorem sc_l_is_leaf : FnScope ["_law_value", "_law_n", "_law_part", "_law_slot", "_law_dy", "_law_dx", "_law_q", "_law_row", "_law_level_here"] ["_law_value", "_law_n"] (defScope s_l_is_leaf) := ⟨rfl, rfl, rfl, by decide +kernel, rfl, by decide +kernel, by decide +kernel⟩
theorem sc_l_is_tree : FnScope ["_law_value", "_law_n", "_law_part"] ["_law_value", "_law_n"] (defScope s_l_is_tree) := ⟨rfl, rfl, rfl, by decide +kernel, rfl, by decide +kernel, by decide +kernel⟩
theorem sc_l_is_band : FnScope ["_law_value", "_law_blocks", "_law_tree_here"] ["_law_value", "_law_blocks"] (defScope s_l_is_band) := ⟨rfl, rfl, rfl, by decide +kernel, rfl, by decide +kernel, by decide +kernel⟩
theorem sc_l_level : FnScope ["_law_hand", "_law_kind"] ["_law_hand"] (defScope s_l_level) := ⟨rfl, rfl, rfl, by decide +kernel, rfl, by decide +kernel, by decide +kernel⟩
theorem sc_l_square : FnScope ["_law_hand", "_law_n", "_law_kind", "_law_i", "_law_k", "_law_rows", "_law_row", "_law_figures_here"] ["_law_hand", "_law_n"] (defScope s_l_square) := ⟨rfl, rfl, rfl, by decide +kernel, rfl, by decide +kernel, by decide +kernel⟩
theorem sc_l_shift : FnScope ["_law_hand", "_law_kind"] ["_law_hand"] (defScope s_l_shift) := ⟨rfl, rfl, rfl, by decide +kernel, rfl, by decide +kernel, by decide +kernel⟩
theorem sc_l_leaf : FnScope ["_law_hand", "_law_n", "_law_modes", "_law_mode", "_law_slot", "_law_dy", "_law_dx", "_law_q"] ["_law_hand", "_law_n", "_law_modes"] (defScope s_l_leaf) := ⟨rfl, rfl, rfl, by decide +kernel, rfl, by decide +kernel, by decide +kernel⟩
theorem sc_l_tree : FnScope ["_law_hand", "_law_n", "_law_modes", "_law_k"] ["_law_hand", "_law_n", "_law_modes"] (defScope s_l_tree) := ⟨rfl, rfl, rfl, by decide +kernel, rfl, by decide +kernel, by decide +kernel⟩
theorem sc_l_band : FnScope ["_law_hand", "_law_blocks", "_law_modes", "_law_k"] ["_law_hand", "_law_blocks", "_law_modes"] (defScope s_l_band) := ⟨rfl, rfl, rfl, by decide +kernel, rfl, by decide +kernel, by decide +kernel⟩
theorem sc_l_wrong : FnScope ["_law_hand", "_law_value", "_law_kind", "_law_far"] ["_law_hand", "_law_value"] (defScope s_l_wrong) := ⟨rfl, rfl, rfl, by decide +kernel, rfl, by decide +kernel, by decide +kernel⟩
theorem sc_l_grafted : FnScope ["_law_hand", "_law_band_here", "_law_small", "_law_n", "_law_odd", "_law_kind", "_law_quarter", "_law_one", "_law_at"] ["_law_hand", "_law_band_here"] (defScope s_l_grafted) := ⟨rfl, rfl, rfl, by decide +kernel, rfl, by decide +kernel, by decide +kernel⟩
theorem sc_l_spoilt : FnScope ["_law_hand", "_law_value", "_law_depth", "_law_parents", "_law_here", "_law_step", "_law_at", "_law_part", "_law_old"] ["_law_hand", "_law_value", "_law_depth"] (defScope s_l_spoilt) := ⟨rfl, rfl, rfl, by decide +kernel, rfl, by decide +kernel, by decide +kernel⟩
theorem sc_l_coder : FnScope [] [] (defScope s_l_coder) := ⟨rfl, rfl, rfl, by decide +kernel, rfl, by decide +kernel, by decide +kernel⟩
theorem sc_l_narrow : FnScope ["_law_coder_here", "_law_context", "_law_bit", "_law_chances", "_law_chance", "_law_cut"] ["_law_coder_here", "_law_context", "_law_bit"] (defScope s_l_narrow) := ⟨rfl, rfl, rfl, by decide +kernel, rfl, by decide +kernel, by decide +kernel⟩
theorem sc_l_put : FnScope ["_law_coder_here", "_law_context", "_law_bit", "_law_step"] ["_law_coder_here", "_law_context", "_law_bit"] (defScope s_l_put) := ⟨rfl, rfl, rfl, by decide +kernel, rfl, by decide +kernel, by decide +kernel⟩
theorem sc_l_octets : FnScope ["_law_coder_here", "_law_low", "_law_width", "_law_count", "_law_powers", "_law_k", "_law_unit", "_law_v", "_law_j"] ["_law_coder_here"] (defScope s_l_octets) := ⟨rfl, rfl, rfl, by decide +kernel, rfl, by decide +kernel, by decide +kernel⟩
theorem sc_l_figures : FnScope ["_law_v", "_law_figures_here", "_law_rest", "_law_step"] ["_law_v"] (defScope s_l_figures) := ⟨rfl, rfl, rfl, by decide +kernel, rfl, by decide +kernel, by decide +kernel⟩
theorem sc_l_put_number : FnScope ["_law_coder_here", "_law_word_here", "_law_v", "_law_figures_here", "_law_k", "_law_i", "_law_j"] ["_law_coder_here", "_law_word_here", "_law_v"] (defScope s_l_put_number) := ⟨rfl, rfl, rfl, by decide +kernel, rfl, by decide +kernel, by decide +kernel⟩
theorem sc_l_unsigned : FnScope ["_law_v"] ["_law_v"] (defScope s_l_unsigned) := ⟨rfl, rfl, rfl, by decide +kernel, rfl, by decide +kernel, by decide +kernel⟩
theorem sc_l_word : FnScope ["_law_i", "_law_k"] ["_law_i", "_law_k"] (defScope s_l_word) := ⟨rfl, rfl, rfl, by decide +kernel, rfl, by decide +kernel, by decide +kernel⟩
theorem sc_l_is_empty : FnScope ["_law_levels", "_law_row", "_law_level_here"] ["_law_levels"] (defScope s_l_is_empty) := ⟨rfl, rfl, rfl, by decide +kernel, rfl, by decide +kernel, by decide +kernel⟩
theorem sc_l_put_leaf : FnScope ["_law_coder_here", "_law_leaf_here", "_law_n", "_law_kind", "_law_mode", "_law_slot", "_law_dy", "_law_dx", "_law_q", "_law_levels", "_law_empty", "_law_i", "_law_k"] ["_law_coder_here", "_law_leaf_here", "_law_n"] (defScope s_l_put_leaf) := ⟨rfl, rfl, rfl, by decide +kernel, rfl, by decide +kernel, by decide +kernel⟩
theorem sc_l_put_tree : FnScope ["_law_coder_here", "_law_tree_here", "_law_n", "_law_part"] ["_law_coder_here", "_law_tree_here", "_law_n"] (defScope s_l_put_tree) := ⟨rfl, rfl, rfl, by decide +kernel, rfl, by decide +kernel, by decide +kernel⟩
theorem sc_l_written : FnScope ["_law_trees", "_law_coder_here", "_law_tree_here"] ["_law_trees"] (defScope s_l_written) := ⟨rfl, rfl, rfl, by decide +kernel, rfl, by decide +kernel, by decide +kernel⟩
theorem sc_l_refused : FnScope ["_law_value", "_law_before", "e"] ["_law_value"] (defScope s_l_refused) := ⟨rfl, rfl, rfl, by decide +kernel, rfl, by decide +kernel, by decide +kernel⟩
theorem sc_law : FnScope ["_law_script", "_law_hand", "_law_blocks", "_law_band_here", "_law_due", "_law_before", "_law_step", "_law_found", "_law_k", "_law_bent", "_law_count"] ["_law_script"] (defScope s_law) := ⟨rfl, rfl, rfl, by decide +kernel, rfl, by decide +kernel, by decide +kernel⟩
section
variable {K : PySem.W.Frag} {mg : Str → Option Value}
theorem x_Interval_init (T : Tx K mg) : ∃ fd, FnP K "__init__" "Interval.__init__" s_Interval_init (He.ma K (He.ga K "Interval") "__init__") fd ∧ Binds K fd ["self"] [] := by
  obtain ⟨fd, F⟩ := T.d.def_ 0 (d := d_Interval_init) rfl
  exact ⟨fd, F, FunD.bindsN (ps := ["self"]) F fun _ _ _ _ _ _ us hl => match us, hl with | [_], _ => rfl⟩
theorem x_Interval_cut (T : Tx K mg) : ∃ fd, FnP K "cut" "Interval.cut" s_Interval_cut (He.ma K (He.ga K "Interval") "cut") fd ∧ Binds K fd ["self", "context"] [] := by
  obtain ⟨fd, F⟩ := T.d.def_ 1 (d := d_Interval_cut) rfl
  exact ⟨fd, F, FunD.bindsN (ps := ["self", "context"]) F fun _ _ _ _ _ _ us hl => match us, hl with | [_, _], _ => rfl⟩
theorem x_Interval_narrow (T : Tx K mg) : ∃ fd, FnP K "narrow" "Interval.narrow" s_Interval_narrow (He.ma K (He.ga K "Interval") "narrow") fd ∧ Binds K fd ["self", "context", "bit"] [] := by
  obtain ⟨fd, F⟩ := T.d.def_ 2 (d := d_Interval_narrow) rfl
  exact ⟨fd, F, FunD.bindsN (ps := ["self", "context", "bit"]) F fun _ _ _ _ _ _ us hl => match us, hl with | [_, _, _], _ => rfl⟩
theorem x_Coder_init (T : Tx K mg) : ∃ fd, FnP K "__init__" "Coder.__init__" s_Coder_init (He.ma K (He.ga K "Coder") "__init__") fd ∧ Binds K fd ["self"] [] := by
  obtain ⟨fd, F⟩ := T.d.def_ 3 (d := d_Coder_init) rfl
  exact ⟨fd, F, FunD.bindsN (ps := ["self"]) F fun _ _ _ _ _ _ us hl => match us, hl with | [_], _ => rfl⟩
theorem x_Coder_put (T : Tx K mg) : ∃ fd, FnP K "put" "Coder.put" s_Coder_put (He.ma K (He.ga K "Coder") "put") fd ∧ Binds K fd ["self", "context", "bit"] [] := by
  obtain ⟨fd, F⟩ := T.d.def_ 4 (d := d_Coder_put) rfl
  exact ⟨fd, F, FunD.bindsN (ps := ["self", "context", "bit"]) F fun _ _ _ _ _ _ us hl => match us, hl with | [_, _, _], _ => rfl⟩
theorem x_Coder_state (T : Tx K mg) : ∃ fd, FnP K "state" "Coder.state" s_Coder_state (He.ma K (He.ga K "Coder") "state") fd ∧ Binds K fd ["self"] [] := by
  obtain ⟨fd, F⟩ := T.d.def_ 5 (d := d_Coder_state) rfl
  exact ⟨fd, F, FunD.bindsN (ps := ["self"]) F fun _ _ _ _ _ _ us hl => match us, hl with | [_], _ => rfl⟩
theorem x_Coder_octets (T : Tx K mg) : ∃ fd, FnP K "octets" "Coder.octets" s_Coder_octets (He.ma K (He.ga K "Coder") "octets") fd ∧ Binds K fd ["self"] [] := by
  obtain ⟨fd, F⟩ := T.d.def_ 6 (d := d_Coder_octets) rfl
  exact ⟨fd, F, FunD.bindsN (ps := ["self"]) F fun _ _ _ _ _ _ us hl => match us, hl with | [_], _ => rfl⟩
theorem x_octets_at (T : Tx K mg) : ∃ fd, FnP K "octets_at" "octets_at" s_octets_at (He.ga K "octets_at") fd ∧ Binds K fd ["state"] [] := by
  obtain ⟨fd, F⟩ := T.d.def_ 7 (d := d_octets_at) rfl
  exact ⟨fd, F, FunD.bindsN (ps := ["state"]) F fun _ _ _ _ _ _ us hl => match us, hl with | [_], _ => rfl⟩
theorem g_octets_at (T : Tx K mg) : mg "octets_at" = some (.ref (He.ga K "octets_at")) := T.glo _ (List.mem_of_getElem? (i := 0) rfl)
theorem x_figures_of (T : Tx K mg) : ∃ fd, FnP K "figures_of" "figures_of" s_figures_of (He.ga K "figures_of") fd ∧ Binds K fd ["v", "many"] [] := by
  obtain ⟨fd, F⟩ := T.d.def_ 8 (d := d_figures_of) rfl
  exact ⟨fd, F, FunD.bindsN (ps := ["v", "many"]) F fun _ _ _ _ _ _ us hl => match us, hl with | [_, _], _ => rfl⟩
theorem g_figures_of (T : Tx K mg) : mg "figures_of" = some (.ref (He.ga K "figures_of")) := T.glo _ (List.mem_of_getElem? (i := 1) rfl)
theorem x_figures_in (T : Tx K mg) : ∃ fd, FnP K "figures_in" "figures_in" s_figures_in (He.ga K "figures_in") fd ∧ Binds K fd ["v"] [] := by
  obtain ⟨fd, F⟩ := T.d.def_ 9 (d := d_figures_in) rfl
  exact ⟨fd, F, FunD.bindsN (ps := ["v"]) F fun _ _ _ _ _ _ us hl => match us, hl with | [_], _ => rfl⟩
theorem g_figures_in (T : Tx K mg) : mg "figures_in" = some (.ref (He.ga K "figures_in")) := T.glo _ (List.mem_of_getElem? (i := 2) rfl)
theorem x_put_number (T : Tx K mg) : ∃ fd, FnP K "put_number" "put_number" s_put_number (He.ga K "put_number") fd ∧ Binds K fd ["coder", "word", "v"] [] := by
  obtain ⟨fd, F⟩ := T.d.def_ 10 (d := d_put_number) rfl
  exact ⟨fd, F, FunD.bindsN (ps := ["coder", "word", "v"]) F fun _ _ _ _ _ _ us hl => match us, hl with | [_, _, _], _ => rfl⟩
theorem g_put_number (T : Tx K mg) : mg "put_number" = some (.ref (He.ga K "put_number")) := T.glo _ (List.mem_of_getElem? (i := 3) rfl)
theorem x_folded (T : Tx K mg) : ∃ fd, FnP K "folded" "folded" s_folded (He.ga K "folded") fd ∧ Binds K fd ["v"] [] := by
  obtain ⟨fd, F⟩ := T.d.def_ 11 (d := d_folded) rfl
  exact ⟨fd, F, FunD.bindsN (ps := ["v"]) F fun _ _ _ _ _ _ us hl => match us, hl with | [_], _ => rfl⟩
theorem g_folded (T : Tx K mg) : mg "folded" = some (.ref (He.ga K "folded")) := T.glo _ (List.mem_of_getElem? (i := 4) rfl)
theorem x_put_signed (T : Tx K mg) : ∃ fd, FnP K "put_signed" "put_signed" s_put_signed (He.ga K "put_signed") fd ∧ Binds K fd ["coder", "word", "v"] [] := by
  obtain ⟨fd, F⟩ := T.d.def_ 12 (d := d_put_signed) rfl
  exact ⟨fd, F, FunD.bindsN (ps := ["coder", "word", "v"]) F fun _ _ _ _ _ _ us hl => match us, hl with | [_, _, _], _ => rfl⟩
theorem g_put_signed (T : Tx K mg) : mg "put_signed" = some (.ref (He.ga K "put_signed")) := T.glo _ (List.mem_of_getElem? (i := 5) rfl)
theorem x_InvalidTree_init (T : Tx K mg) : ∃ fd, FnP K "__init__" "InvalidTree.__init__" s_InvalidTree_init (He.ma K (He.ga K "InvalidTree") "__init__") fd ∧ Binds K fd ["self", "value"] [] := by
  obtain ⟨fd, F⟩ := T.d.def_ 13 (d := d_InvalidTree_init) rfl
  exact ⟨fd, F, FunD.bindsN (ps := ["self", "value"]) F fun _ _ _ _ _ _ us hl => match us, hl with | [_, _], _ => rfl⟩
theorem x_is_integer (T : Tx K mg) : ∃ fd, FnP K "is_integer" "is_integer" s_is_integer (He.ga K "is_integer") fd ∧ Binds K fd ["value"] [] := by
  obtain ⟨fd, F⟩ := T.d.def_ 14 (d := d_is_integer) rfl
  exact ⟨fd, F, FunD.bindsN (ps := ["value"]) F fun _ _ _ _ _ _ us hl => match us, hl with | [_], _ => rfl⟩
theorem g_is_integer (T : Tx K mg) : mg "is_integer" = some (.ref (He.ga K "is_integer")) := T.glo _ (List.mem_of_getElem? (i := 6) rfl)
theorem x_is_within (T : Tx K mg) : ∃ fd, FnP K "is_within" "is_within" s_is_within (He.ga K "is_within") fd ∧ Binds K fd ["value", "least", "most"] [] := by
  obtain ⟨fd, F⟩ := T.d.def_ 15 (d := d_is_within) rfl
  exact ⟨fd, F, FunD.bindsN (ps := ["value", "least", "most"]) F fun _ _ _ _ _ _ us hl => match us, hl with | [_, _, _], _ => rfl⟩
theorem g_is_within (T : Tx K mg) : mg "is_within" = some (.ref (He.ga K "is_within")) := T.glo _ (List.mem_of_getElem? (i := 7) rfl)
theorem x_is_levels (T : Tx K mg) : ∃ fd, FnP K "is_levels" "is_levels" s_is_levels (He.ga K "is_levels") fd ∧ Binds K fd ["value", "n"] [] := by
  obtain ⟨fd, F⟩ := T.d.def_ 16 (d := d_is_levels) rfl
  exact ⟨fd, F, FunD.bindsN (ps := ["value", "n"]) F fun _ _ _ _ _ _ us hl => match us, hl with | [_, _], _ => rfl⟩
theorem g_is_levels (T : Tx K mg) : mg "is_levels" = some (.ref (He.ga K "is_levels")) := T.glo _ (List.mem_of_getElem? (i := 8) rfl)
theorem x_is_leaf (T : Tx K mg) : ∃ fd, FnP K "is_leaf" "is_leaf" s_is_leaf (He.ga K "is_leaf") fd ∧ Binds K fd ["value", "n"] [] := by
  obtain ⟨fd, F⟩ := T.d.def_ 17 (d := d_is_leaf) rfl
  exact ⟨fd, F, FunD.bindsN (ps := ["value", "n"]) F fun _ _ _ _ _ _ us hl => match us, hl with | [_, _], _ => rfl⟩
theorem g_is_leaf (T : Tx K mg) : mg "is_leaf" = some (.ref (He.ga K "is_leaf")) := T.glo _ (List.mem_of_getElem? (i := 9) rfl)
theorem x_is_tree (T : Tx K mg) : ∃ fd, FnP K "is_tree" "is_tree" s_is_tree (He.ga K "is_tree") fd ∧ Binds K fd ["value", "n"] [] := by
  obtain ⟨fd, F⟩ := T.d.def_ 18 (d := d_is_tree) rfl
  exact ⟨fd, F, FunD.bindsN (ps := ["value", "n"]) F fun _ _ _ _ _ _ us hl => match us, hl with | [_, _], _ => rfl⟩
theorem g_is_tree (T : Tx K mg) : mg "is_tree" = some (.ref (He.ga K "is_tree")) := T.glo _ (List.mem_of_getElem? (i := 10) rfl)
theorem x_is_band_tree (T : Tx K mg) : ∃ fd, FnP K "is_band_tree" "is_band_tree" s_is_band_tree (He.ga K "is_band_tree") fd ∧ Binds K fd ["value", "blocks"] [] := by
  obtain ⟨fd, F⟩ := T.d.def_ 19 (d := d_is_band_tree) rfl
  exact ⟨fd, F, FunD.bindsN (ps := ["value", "blocks"]) F fun _ _ _ _ _ _ us hl => match us, hl with | [_, _], _ => rfl⟩
theorem g_is_band_tree (T : Tx K mg) : mg "is_band_tree" = some (.ref (He.ga K "is_band_tree")) := T.glo _ (List.mem_of_getElem? (i := 11) rfl)
theorem x_need_band_tree (T : Tx K mg) : ∃ fd, FnP K "need_band_tree" "need_band_tree" s_need_band_tree (He.ga K "need_band_tree") fd ∧ Binds K fd ["trees"] [] := by
  obtain ⟨fd, F⟩ := T.d.def_ 20 (d := d_need_band_tree) rfl
  exact ⟨fd, F, FunD.bindsN (ps := ["trees"]) F fun _ _ _ _ _ _ us hl => match us, hl with | [_], _ => rfl⟩
theorem g_need_band_tree (T : Tx K mg) : mg "need_band_tree" = some (.ref (He.ga K "need_band_tree")) := T.glo _ (List.mem_of_getElem? (i := 12) rfl)
theorem x_is_empty (T : Tx K mg) : ∃ fd, FnP K "is_empty" "is_empty" s_is_empty (He.ga K "is_empty") fd ∧ Binds K fd ["levels"] [] := by
  obtain ⟨fd, F⟩ := T.d.def_ 21 (d := d_is_empty) rfl
  exact ⟨fd, F, FunD.bindsN (ps := ["levels"]) F fun _ _ _ _ _ _ us hl => match us, hl with | [_], _ => rfl⟩
theorem g_is_empty (T : Tx K mg) : mg "is_empty" = some (.ref (He.ga K "is_empty")) := T.glo _ (List.mem_of_getElem? (i := 13) rfl)
theorem x_word_at (T : Tx K mg) : ∃ fd, FnP K "word_at" "word_at" s_word_at (He.ga K "word_at") fd ∧ Binds K fd ["i", "k"] [] := by
  obtain ⟨fd, F⟩ := T.d.def_ 22 (d := d_word_at) rfl
  exact ⟨fd, F, FunD.bindsN (ps := ["i", "k"]) F fun _ _ _ _ _ _ us hl => match us, hl with | [_, _], _ => rfl⟩
theorem g_word_at (T : Tx K mg) : mg "word_at" = some (.ref (He.ga K "word_at")) := T.glo _ (List.mem_of_getElem? (i := 14) rfl)
theorem x_put_leaf (T : Tx K mg) : ∃ fd, FnP K "put_leaf" "put_leaf" s_put_leaf (He.ga K "put_leaf") fd ∧ Binds K fd ["coder", "leaf", "n"] [] := by
  obtain ⟨fd, F⟩ := T.d.def_ 23 (d := d_put_leaf) rfl
  exact ⟨fd, F, FunD.bindsN (ps := ["coder", "leaf", "n"]) F fun _ _ _ _ _ _ us hl => match us, hl with | [_, _, _], _ => rfl⟩
theorem g_put_leaf (T : Tx K mg) : mg "put_leaf" = some (.ref (He.ga K "put_leaf")) := T.glo _ (List.mem_of_getElem? (i := 15) rfl)
theorem x_put_tree (T : Tx K mg) : ∃ fd, FnP K "put_tree" "put_tree" s_put_tree (He.ga K "put_tree") fd ∧ Binds K fd ["coder", "tree", "n"] [] := by
  obtain ⟨fd, F⟩ := T.d.def_ 24 (d := d_put_tree) rfl
  exact ⟨fd, F, FunD.bindsN (ps := ["coder", "tree", "n"]) F fun _ _ _ _ _ _ us hl => match us, hl with | [_, _, _], _ => rfl⟩
theorem g_put_tree (T : Tx K mg) : mg "put_tree" = some (.ref (He.ga K "put_tree")) := T.glo _ (List.mem_of_getElem? (i := 16) rfl)
theorem x_octets_of (T : Tx K mg) : ∃ fd, FnP K "octets_of" "octets_of" s_octets_of (He.ga K "octets_of") fd ∧ Binds K fd ["trees"] [] := by
  obtain ⟨fd, F⟩ := T.d.def_ 25 (d := d_octets_of) rfl
  exact ⟨fd, F, FunD.bindsN (ps := ["trees"]) F fun _ _ _ _ _ _ us hl => match us, hl with | [_], _ => rfl⟩
theorem g_octets_of (T : Tx K mg) : mg "octets_of" = some (.ref (He.ga K "octets_of")) := T.glo _ (List.mem_of_getElem? (i := 17) rfl)
theorem x_band_octets (T : Tx K mg) : ∃ fd, FnP K "band_octets" "band_octets" s_band_octets (He.ga K "band_octets") fd ∧ Binds K fd ["trees"] [] := by
  obtain ⟨fd, F⟩ := T.d.def_ 26 (d := d_band_octets) rfl
  exact ⟨fd, F, FunD.bindsN (ps := ["trees"]) F fun _ _ _ _ _ _ us hl => match us, hl with | [_], _ => rfl⟩
theorem g_band_octets (T : Tx K mg) : mg "band_octets" = some (.ref (He.ga K "band_octets")) := T.glo _ (List.mem_of_getElem? (i := 18) rfl)
theorem x_l_draws (T : Tx K mg) : ∃ fd, FnP K "_law_draws" "_law_draws" s_l_draws (He.ga K "_law_draws") fd ∧ Binds K fd ["_law_script", "_law_many"] [] := by
  obtain ⟨fd, F⟩ := T.d.def_ 27 (d := d_l_draws) rfl
  exact ⟨fd, F, FunD.bindsN (ps := ["_law_script", "_law_many"]) F fun _ _ _ _ _ _ us hl => match us, hl with | [_, _], _ => rfl⟩
theorem g_l_draws (T : Tx K mg) : mg "_law_draws" = some (.ref (He.ga K "_law_draws")) := T.glo _ (List.mem_of_getElem? (i := 19) rfl)
theorem x_l_take (T : Tx K mg) : ∃ fd, FnP K "_law_take" "_law_take" s_l_take (He.ga K "_law_take") fd ∧ Binds K fd ["_law_hand", "_law_many"] [] := by
  obtain ⟨fd, F⟩ := T.d.def_ 28 (d := d_l_take) rfl
  exact ⟨fd, F, FunD.bindsN (ps := ["_law_hand", "_law_many"]) F fun _ _ _ _ _ _ us hl => match us, hl with | [_, _], _ => rfl⟩
theorem g_l_take (T : Tx K mg) : mg "_law_take" = some (.ref (He.ga K "_law_take")) := T.glo _ (List.mem_of_getElem? (i := 20) rfl)
theorem x_l_is_integer (T : Tx K mg) : ∃ fd, FnP K "_law_is_integer" "_law_is_integer" s_l_is_integer (He.ga K "_law_is_integer") fd ∧ Binds K fd ["_law_value"] [] := by
  obtain ⟨fd, F⟩ := T.d.def_ 29 (d := d_l_is_integer) rfl
  exact ⟨fd, F, FunD.bindsN (ps := ["_law_value"]) F fun _ _ _ _ _ _ us hl => match us, hl with | [_], _ => rfl⟩
theorem g_l_is_integer (T : Tx K mg) : mg "_law_is_integer" = some (.ref (He.ga K "_law_is_integer")) := T.glo _ (List.mem_of_getElem? (i := 21) rfl)
theorem x_l_is_leaf (T : Tx K mg) : ∃ fd, FnP K "_law_is_leaf" "_law_is_leaf" s_l_is_leaf (He.ga K "_law_is_leaf") fd ∧ Binds K fd ["_law_value", "_law_n"] [] := by
  obtain ⟨fd, F⟩ := T.d.def_ 30 (d := d_l_is_leaf) rfl
  exact ⟨fd, F, FunD.bindsN (ps := ["_law_value", "_law_n"]) F fun _ _ _ _ _ _ us hl => match us, hl with | [_, _], _ => rfl⟩
theorem g_l_is_leaf (T : Tx K mg) : mg "_law_is_leaf" = some (.ref (He.ga K "_law_is_leaf")) := T.glo _ (List.mem_of_getElem? (i := 22) rfl)
theorem x_l_is_tree (T : Tx K mg) : ∃ fd, FnP K "_law_is_tree" "_law_is_tree" s_l_is_tree (He.ga K "_law_is_tree") fd ∧ Binds K fd ["_law_value", "_law_n"] [] := by
  obtain ⟨fd, F⟩ := T.d.def_ 31 (d := d_l_is_tree) rfl
  exact ⟨fd, F, FunD.bindsN (ps := ["_law_value", "_law_n"]) F fun _ _ _ _ _ _ us hl => match us, hl with | [_, _], _ => rfl⟩
theorem g_l_is_tree (T : Tx K mg) : mg "_law_is_tree" = some (.ref (He.ga K "_law_is_tree")) := T.glo _ (List.mem_of_getElem? (i := 23) rfl)
theorem x_l_is_band (T : Tx K mg) : ∃ fd, FnP K "_law_is_band" "_law_is_band" s_l_is_band (He.ga K "_law_is_band") fd ∧ Binds K fd ["_law_value", "_law_blocks"] [] := by
  obtain ⟨fd, F⟩ := T.d.def_ 32 (d := d_l_is_band) rfl
  exact ⟨fd, F, FunD.bindsN (ps := ["_law_value", "_law_blocks"]) F fun _ _ _ _ _ _ us hl => match us, hl with | [_, _], _ => rfl⟩
theorem g_l_is_band (T : Tx K mg) : mg "_law_is_band" = some (.ref (He.ga K "_law_is_band")) := T.glo _ (List.mem_of_getElem? (i := 24) rfl)
theorem x_l_level (T : Tx K mg) : ∃ fd, FnP K "_law_level" "_law_level" s_l_level (He.ga K "_law_level") fd ∧ Binds K fd ["_law_hand"] [] := by
  obtain ⟨fd, F⟩ := T.d.def_ 33 (d := d_l_level) rfl
  exact ⟨fd, F, FunD.bindsN (ps := ["_law_hand"]) F fun _ _ _ _ _ _ us hl => match us, hl with | [_], _ => rfl⟩
theorem g_l_level (T : Tx K mg) : mg "_law_level" = some (.ref (He.ga K "_law_level")) := T.glo _ (List.mem_of_getElem? (i := 25) rfl)
theorem x_l_square (T : Tx K mg) : ∃ fd, FnP K "_law_square" "_law_square" s_l_square (He.ga K "_law_square") fd ∧ Binds K fd ["_law_hand", "_law_n"] [] := by
  obtain ⟨fd, F⟩ := T.d.def_ 34 (d := d_l_square) rfl
  exact ⟨fd, F, FunD.bindsN (ps := ["_law_hand", "_law_n"]) F fun _ _ _ _ _ _ us hl => match us, hl with | [_, _], _ => rfl⟩
theorem g_l_square (T : Tx K mg) : mg "_law_square" = some (.ref (He.ga K "_law_square")) := T.glo _ (List.mem_of_getElem? (i := 26) rfl)
theorem x_l_shift (T : Tx K mg) : ∃ fd, FnP K "_law_shift" "_law_shift" s_l_shift (He.ga K "_law_shift") fd ∧ Binds K fd ["_law_hand"] [] := by
  obtain ⟨fd, F⟩ := T.d.def_ 35 (d := d_l_shift) rfl
  exact ⟨fd, F, FunD.bindsN (ps := ["_law_hand"]) F fun _ _ _ _ _ _ us hl => match us, hl with | [_], _ => rfl⟩
theorem g_l_shift (T : Tx K mg) : mg "_law_shift" = some (.ref (He.ga K "_law_shift")) := T.glo _ (List.mem_of_getElem? (i := 27) rfl)
theorem x_l_leaf (T : Tx K mg) : ∃ fd, FnP K "_law_leaf" "_law_leaf" s_l_leaf (He.ga K "_law_leaf") fd ∧ Binds K fd ["_law_hand", "_law_n", "_law_modes"] [] := by
  obtain ⟨fd, F⟩ := T.d.def_ 36 (d := d_l_leaf) rfl
  exact ⟨fd, F, FunD.bindsN (ps := ["_law_hand", "_law_n", "_law_modes"]) F fun _ _ _ _ _ _ us hl => match us, hl with | [_, _, _], _ => rfl⟩
theorem g_l_leaf (T : Tx K mg) : mg "_law_leaf" = some (.ref (He.ga K "_law_leaf")) := T.glo _ (List.mem_of_getElem? (i := 28) rfl)
theorem x_l_tree (T : Tx K mg) : ∃ fd, FnP K "_law_tree" "_law_tree" s_l_tree (He.ga K "_law_tree") fd ∧ Binds K fd ["_law_hand", "_law_n", "_law_modes"] [] := by
  obtain ⟨fd, F⟩ := T.d.def_ 37 (d := d_l_tree) rfl
  exact ⟨fd, F, FunD.bindsN (ps := ["_law_hand", "_law_n", "_law_modes"]) F fun _ _ _ _ _ _ us hl => match us, hl with | [_, _, _], _ => rfl⟩
theorem g_l_tree (T : Tx K mg) : mg "_law_tree" = some (.ref (He.ga K "_law_tree")) := T.glo _ (List.mem_of_getElem? (i := 29) rfl)
theorem x_l_band (T : Tx K mg) : ∃ fd, FnP K "_law_band" "_law_band" s_l_band (He.ga K "_law_band") fd ∧ Binds K fd ["_law_hand", "_law_blocks", "_law_modes"] [] := by
  obtain ⟨fd, F⟩ := T.d.def_ 38 (d := d_l_band) rfl
  exact ⟨fd, F, FunD.bindsN (ps := ["_law_hand", "_law_blocks", "_law_modes"]) F fun _ _ _ _ _ _ us hl => match us, hl with | [_, _, _], _ => rfl⟩
theorem g_l_band (T : Tx K mg) : mg "_law_band" = some (.ref (He.ga K "_law_band")) := T.glo _ (List.mem_of_getElem? (i := 30) rfl)
theorem x_l_wrong (T : Tx K mg) : ∃ fd, FnP K "_law_wrong" "_law_wrong" s_l_wrong (He.ga K "_law_wrong") fd ∧ Binds K fd ["_law_hand", "_law_value"] [] := by
  obtain ⟨fd, F⟩ := T.d.def_ 39 (d := d_l_wrong) rfl
  exact ⟨fd, F, FunD.bindsN (ps := ["_law_hand", "_law_value"]) F fun _ _ _ _ _ _ us hl => match us, hl with | [_, _], _ => rfl⟩
theorem g_l_wrong (T : Tx K mg) : mg "_law_wrong" = some (.ref (He.ga K "_law_wrong")) := T.glo _ (List.mem_of_getElem? (i := 31) rfl)
theorem x_l_grafted (T : Tx K mg) : ∃ fd, FnP K "_law_grafted" "_law_grafted" s_l_grafted (He.ga K "_law_grafted") fd ∧ Binds K fd ["_law_hand", "_law_band_here"] [] := by
  obtain ⟨fd, F⟩ := T.d.def_ 40 (d := d_l_grafted) rfl
  exact ⟨fd, F, FunD.bindsN (ps := ["_law_hand", "_law_band_here"]) F fun _ _ _ _ _ _ us hl => match us, hl with | [_, _], _ => rfl⟩
theorem g_l_grafted (T : Tx K mg) : mg "_law_grafted" = some (.ref (He.ga K "_law_grafted")) := T.glo _ (List.mem_of_getElem? (i := 32) rfl)
theorem x_l_spoilt (T : Tx K mg) : ∃ fd, FnP K "_law_spoilt" "_law_spoilt" s_l_spoilt (He.ga K "_law_spoilt") fd ∧ Binds K fd ["_law_hand", "_law_value", "_law_depth"] [] := by
  obtain ⟨fd, F⟩ := T.d.def_ 41 (d := d_l_spoilt) rfl
  exact ⟨fd, F, FunD.bindsN (ps := ["_law_hand", "_law_value", "_law_depth"]) F fun _ _ _ _ _ _ us hl => match us, hl with | [_, _, _], _ => rfl⟩
theorem g_l_spoilt (T : Tx K mg) : mg "_law_spoilt" = some (.ref (He.ga K "_law_spoilt")) := T.glo _ (List.mem_of_getElem? (i := 33) rfl)
theorem x_l_coder (T : Tx K mg) : ∃ fd, FnP K "_law_coder" "_law_coder" s_l_coder (He.ga K "_law_coder") fd ∧ Binds K fd [] [] := by
  obtain ⟨fd, F⟩ := T.d.def_ 42 (d := d_l_coder) rfl
  exact ⟨fd, F, FunD.bindsN (ps := []) F fun _ _ _ _ _ _ us hl => match us, hl with | [], _ => rfl⟩
theorem g_l_coder (T : Tx K mg) : mg "_law_coder" = some (.ref (He.ga K "_law_coder")) := T.glo _ (List.mem_of_getElem? (i := 34) rfl)
theorem x_l_narrow (T : Tx K mg) : ∃ fd, FnP K "_law_narrow" "_law_narrow" s_l_narrow (He.ga K "_law_narrow") fd ∧ Binds K fd ["_law_coder_here", "_law_context", "_law_bit"] [] := by
  obtain ⟨fd, F⟩ := T.d.def_ 43 (d := d_l_narrow) rfl
  exact ⟨fd, F, FunD.bindsN (ps := ["_law_coder_here", "_law_context", "_law_bit"]) F fun _ _ _ _ _ _ us hl => match us, hl with | [_, _, _], _ => rfl⟩
theorem g_l_narrow (T : Tx K mg) : mg "_law_narrow" = some (.ref (He.ga K "_law_narrow")) := T.glo _ (List.mem_of_getElem? (i := 35) rfl)
theorem x_l_put (T : Tx K mg) : ∃ fd, FnP K "_law_put" "_law_put" s_l_put (He.ga K "_law_put") fd ∧ Binds K fd ["_law_coder_here", "_law_context", "_law_bit"] [] := by
  obtain ⟨fd, F⟩ := T.d.def_ 44 (d := d_l_put) rfl
  exact ⟨fd, F, FunD.bindsN (ps := ["_law_coder_here", "_law_context", "_law_bit"]) F fun _ _ _ _ _ _ us hl => match us, hl with | [_, _, _], _ => rfl⟩
theorem g_l_put (T : Tx K mg) : mg "_law_put" = some (.ref (He.ga K "_law_put")) := T.glo _ (List.mem_of_getElem? (i := 36) rfl)
theorem x_l_octets (T : Tx K mg) : ∃ fd, FnP K "_law_octets" "_law_octets" s_l_octets (He.ga K "_law_octets") fd ∧ Binds K fd ["_law_coder_here"] [] := by
  obtain ⟨fd, F⟩ := T.d.def_ 45 (d := d_l_octets) rfl
  exact ⟨fd, F, FunD.bindsN (ps := ["_law_coder_here"]) F fun _ _ _ _ _ _ us hl => match us, hl with | [_], _ => rfl⟩
theorem g_l_octets (T : Tx K mg) : mg "_law_octets" = some (.ref (He.ga K "_law_octets")) := T.glo _ (List.mem_of_getElem? (i := 37) rfl)
theorem x_l_figures (T : Tx K mg) : ∃ fd, FnP K "_law_figures" "_law_figures" s_l_figures (He.ga K "_law_figures") fd ∧ Binds K fd ["_law_v"] [] := by
  obtain ⟨fd, F⟩ := T.d.def_ 46 (d := d_l_figures) rfl
  exact ⟨fd, F, FunD.bindsN (ps := ["_law_v"]) F fun _ _ _ _ _ _ us hl => match us, hl with | [_], _ => rfl⟩
theorem g_l_figures (T : Tx K mg) : mg "_law_figures" = some (.ref (He.ga K "_law_figures")) := T.glo _ (List.mem_of_getElem? (i := 38) rfl)
theorem x_l_put_number (T : Tx K mg) : ∃ fd, FnP K "_law_put_number" "_law_put_number" s_l_put_number (He.ga K "_law_put_number") fd ∧ Binds K fd ["_law_coder_here", "_law_word_here", "_law_v"] [] := by
  obtain ⟨fd, F⟩ := T.d.def_ 47 (d := d_l_put_number) rfl
  exact ⟨fd, F, FunD.bindsN (ps := ["_law_coder_here", "_law_word_here", "_law_v"]) F fun _ _ _ _ _ _ us hl => match us, hl with | [_, _, _], _ => rfl⟩
theorem g_l_put_number (T : Tx K mg) : mg "_law_put_number" = some (.ref (He.ga K "_law_put_number")) := T.glo _ (List.mem_of_getElem? (i := 39) rfl)
theorem x_l_unsigned (T : Tx K mg) : ∃ fd, FnP K "_law_unsigned" "_law_unsigned" s_l_unsigned (He.ga K "_law_unsigned") fd ∧ Binds K fd ["_law_v"] [] := by
  obtain ⟨fd, F⟩ := T.d.def_ 48 (d := d_l_unsigned) rfl
  exact ⟨fd, F, FunD.bindsN (ps := ["_law_v"]) F fun _ _ _ _ _ _ us hl => match us, hl with | [_], _ => rfl⟩
theorem g_l_unsigned (T : Tx K mg) : mg "_law_unsigned" = some (.ref (He.ga K "_law_unsigned")) := T.glo _ (List.mem_of_getElem? (i := 40) rfl)
theorem x_l_word (T : Tx K mg) : ∃ fd, FnP K "_law_word" "_law_word" s_l_word (He.ga K "_law_word") fd ∧ Binds K fd ["_law_i", "_law_k"] [] := by
  obtain ⟨fd, F⟩ := T.d.def_ 49 (d := d_l_word) rfl
  exact ⟨fd, F, FunD.bindsN (ps := ["_law_i", "_law_k"]) F fun _ _ _ _ _ _ us hl => match us, hl with | [_, _], _ => rfl⟩
theorem g_l_word (T : Tx K mg) : mg "_law_word" = some (.ref (He.ga K "_law_word")) := T.glo _ (List.mem_of_getElem? (i := 41) rfl)
theorem x_l_is_empty (T : Tx K mg) : ∃ fd, FnP K "_law_is_empty" "_law_is_empty" s_l_is_empty (He.ga K "_law_is_empty") fd ∧ Binds K fd ["_law_levels"] [] := by
  obtain ⟨fd, F⟩ := T.d.def_ 50 (d := d_l_is_empty) rfl
  exact ⟨fd, F, FunD.bindsN (ps := ["_law_levels"]) F fun _ _ _ _ _ _ us hl => match us, hl with | [_], _ => rfl⟩
theorem g_l_is_empty (T : Tx K mg) : mg "_law_is_empty" = some (.ref (He.ga K "_law_is_empty")) := T.glo _ (List.mem_of_getElem? (i := 42) rfl)
theorem x_l_put_leaf (T : Tx K mg) : ∃ fd, FnP K "_law_put_leaf" "_law_put_leaf" s_l_put_leaf (He.ga K "_law_put_leaf") fd ∧ Binds K fd ["_law_coder_here", "_law_leaf_here", "_law_n"] [] := by
  obtain ⟨fd, F⟩ := T.d.def_ 51 (d := d_l_put_leaf) rfl
  exact ⟨fd, F, FunD.bindsN (ps := ["_law_coder_here", "_law_leaf_here", "_law_n"]) F fun _ _ _ _ _ _ us hl => match us, hl with | [_, _, _], _ => rfl⟩
theorem g_l_put_leaf (T : Tx K mg) : mg "_law_put_leaf" = some (.ref (He.ga K "_law_put_leaf")) := T.glo _ (List.mem_of_getElem? (i := 43) rfl)
theorem x_l_put_tree (T : Tx K mg) : ∃ fd, FnP K "_law_put_tree" "_law_put_tree" s_l_put_tree (He.ga K "_law_put_tree") fd ∧ Binds K fd ["_law_coder_here", "_law_tree_here", "_law_n"] [] := by
  obtain ⟨fd, F⟩ := T.d.def_ 52 (d := d_l_put_tree) rfl
  exact ⟨fd, F, FunD.bindsN (ps := ["_law_coder_here", "_law_tree_here", "_law_n"]) F fun _ _ _ _ _ _ us hl => match us, hl with | [_, _, _], _ => rfl⟩
theorem g_l_put_tree (T : Tx K mg) : mg "_law_put_tree" = some (.ref (He.ga K "_law_put_tree")) := T.glo _ (List.mem_of_getElem? (i := 44) rfl)
theorem x_l_written (T : Tx K mg) : ∃ fd, FnP K "_law_written" "_law_written" s_l_written (He.ga K "_law_written") fd ∧ Binds K fd ["_law_trees"] [] := by
  obtain ⟨fd, F⟩ := T.d.def_ 53 (d := d_l_written) rfl
  exact ⟨fd, F, FunD.bindsN (ps := ["_law_trees"]) F fun _ _ _ _ _ _ us hl => match us, hl with | [_], _ => rfl⟩
theorem g_l_written (T : Tx K mg) : mg "_law_written" = some (.ref (He.ga K "_law_written")) := T.glo _ (List.mem_of_getElem? (i := 45) rfl)
theorem x_l_refused (T : Tx K mg) : ∃ fd, FnP K "_law_refused" "_law_refused" s_l_refused (He.ga K "_law_refused") fd ∧ Binds K fd ["_law_value"] [] := by
  obtain ⟨fd, F⟩ := T.d.def_ 54 (d := d_l_refused) rfl
  exact ⟨fd, F, FunD.bindsN (ps := ["_law_value"]) F fun _ _ _ _ _ _ us hl => match us, hl with | [_], _ => rfl⟩
theorem g_l_refused (T : Tx K mg) : mg "_law_refused" = some (.ref (He.ga K "_law_refused")) := T.glo _ (List.mem_of_getElem? (i := 46) rfl)
theorem x_law (T : Tx K mg) : ∃ fd, FnP K "law" "law" s_law (He.ga K "law") fd ∧ Binds K fd ["_law_script"] [] := by
  obtain ⟨fd, F⟩ := T.d.def_ 55 (d := d_law) rfl
  exact ⟨fd, F, FunD.bindsN (ps := ["_law_script"]) F fun _ _ _ _ _ _ us hl => match us, hl with | [_], _ => rfl⟩
theorem g_law (T : Tx K mg) : mg "law" = some (.ref (He.ga K "law")) := T.glo _ (List.mem_of_getElem? (i := 47) rfl)
theorem g_Interval (T : Tx K mg) : mg "Interval" = some (.ref (He.ga K "Interval")) := T.glo _ (List.mem_of_getElem? (i := 48) rfl)
theorem g_Coder (T : Tx K mg) : mg "Coder" = some (.ref (He.ga K "Coder")) := T.glo _ (List.mem_of_getElem? (i := 49) rfl)
theorem g_InvalidTree (T : Tx K mg) : mg "InvalidTree" = some (.ref (He.ga K "InvalidTree")) := T.glo _ (List.mem_of_getElem? (i := 50) rfl)
theorem g_TideError (T : Tx K mg) : mg "TideError" = some (.ref (He.ga K "TideError")) := T.glo _ (List.mem_of_getElem? (i := 51) rfl)
theorem g_MODES (T : Tx K mg) : mg "MODES" = some (.ref (He.ga K "MODES")) := T.glo _ (List.mem_of_getElem? (i := 52) rfl)
theorem g_FACTORS (T : Tx K mg) : mg "FACTORS" = some (.ref (He.ga K "FACTORS")) := T.glo _ (List.mem_of_getElem? (i := 53) rfl)
theorem f_isinstance (T : Tx K mg) : mg "isinstance" = none := T.fre _ (List.mem_of_getElem? (i := 54) rfl)
theorem f_len (T : Tx K mg) : mg "len" = none := T.fre _ (List.mem_of_getElem? (i := 55) rfl)
theorem f_all (T : Tx K mg) : mg "all" = none := T.fre _ (List.mem_of_getElem? (i := 56) rfl)
theorem f_any (T : Tx K mg) : mg "any" = none := T.fre _ (List.mem_of_getElem? (i := 57) rfl)
theorem f_range (T : Tx K mg) : mg "range" = none := T.fre _ (List.mem_of_getElem? (i := 58) rfl)
theorem f_tuple (T : Tx K mg) : mg "tuple" = none := T.fre _ (List.mem_of_getElem? (i := 59) rfl)
theorem f_int (T : Tx K mg) : mg "int" = none := T.fre _ (List.mem_of_getElem? (i := 60) rfl)
theorem f_list (T : Tx K mg) : mg "list" = none := T.fre _ (List.mem_of_getElem? (i := 61) rfl)
theorem f_str (T : Tx K mg) : mg "str" = none := T.fre _ (List.mem_of_getElem? (i := 62) rfl)
theorem f_bool (T : Tx K mg) : mg "bool" = none := T.fre _ (List.mem_of_getElem? (i := 63) rfl)
theorem f_enumerate (T : Tx K mg) : mg "enumerate" = none := T.fre _ (List.mem_of_getElem? (i := 64) rfl)
theorem f_abs (T : Tx K mg) : mg "abs" = none := T.fre _ (List.mem_of_getElem? (i := 65) rfl)
theorem f_repr (T : Tx K mg) : mg "repr" = none := T.fre _ (List.mem_of_getElem? (i := 66) rfl)
theorem n_WHOLE (T : Tx K mg) : ∃ t, mg "WHOLE" = some (.int 4096 t) := T.num _ _ (List.mem_of_getElem? (i := 67) rfl)
theorem n_HALF (T : Tx K mg) : ∃ t, mg "HALF" = some (.int 2048 t) := T.num _ _ (List.mem_of_getElem? (i := 68) rfl)
theorem n_RATE (T : Tx K mg) : ∃ t, mg "RATE" = some (.int 32 t) := T.num _ _ (List.mem_of_getElem? (i := 69) rfl)
theorem n_FIRST_COUNT (T : Tx K mg) : ∃ t, mg "FIRST_COUNT" = some (.int 4 t) := T.num _ _ (List.mem_of_getElem? (i := 70) rfl)
theorem n_BASE (T : Tx K mg) : ∃ t, mg "BASE" = some (.int 256 t) := T.num _ _ (List.mem_of_getElem? (i := 71) rfl)
theorem n_BITS (T : Tx K mg) : ∃ t, mg "BITS" = some (.int 8 t) := T.num _ _ (List.mem_of_getElem? (i := 72) rfl)
theorem n_LEAST_WIDTH (T : Tx K mg) : ∃ t, mg "LEAST_WIDTH" = some (.int 16777216 t) := T.num _ _ (List.mem_of_getElem? (i := 73) rfl)
theorem n_MOST_FIGURES (T : Tx K mg) : ∃ t, mg "MOST_FIGURES" = some (.int 16 t) := T.num _ _ (List.mem_of_getElem? (i := 74) rfl)
theorem n_SLOTS (T : Tx K mg) : ∃ t, mg "SLOTS" = some (.int 3 t) := T.num _ _ (List.mem_of_getElem? (i := 75) rfl)
theorem n_BLOCK (T : Tx K mg) : ∃ t, mg "BLOCK" = some (.int 8 t) := T.num _ _ (List.mem_of_getElem? (i := 76) rfl)
theorem n_MOST_BLOCKS (T : Tx K mg) : ∃ t, mg "MOST_BLOCKS" = some (.int 4 t) := T.num _ _ (List.mem_of_getElem? (i := 77) rfl)
theorem n_LEAST_AREA (T : Tx K mg) : ∃ t, mg "LEAST_AREA" = some (.int 2 t) := T.num _ _ (List.mem_of_getElem? (i := 78) rfl)
theorem n_GREATEST_SHIFT (T : Tx K mg) : ∃ t, mg "GREATEST_SHIFT" = some (.int 31 t) := T.num _ _ (List.mem_of_getElem? (i := 79) rfl)
theorem n_GREATEST_LEVEL (T : Tx K mg) : ∃ t, mg "GREATEST_LEVEL" = some (.int 2000 t) := T.num _ _ (List.mem_of_getElem? (i := 80) rfl)
theorem n_LEAF_PARTS (T : Tx K mg) : ∃ t, mg "LEAF_PARTS" = some (.int 7 t) := T.num _ _ (List.mem_of_getElem? (i := 81) rfl)
theorem c_Interval (T : Tx K mg) : Cls K (He.ga K "Interval") := He.cls_ok (T.d.fact 82 rfl)
theorem c_Coder (T : Tx K mg) : Cls K (He.ga K "Coder") := He.cls_ok (T.d.fact 83 rfl)
theorem a_Interval_low (T : Tx K mg) : NoAttr K (He.ga K "Interval") "low" := He.noat_ok (T.d.fact 84 rfl)
theorem a_Interval_width (T : Tx K mg) : NoAttr K (He.ga K "Interval") "width" := He.noat_ok (T.d.fact 85 rfl)
theorem a_Interval_count (T : Tx K mg) : NoAttr K (He.ga K "Interval") "count" := He.noat_ok (T.d.fact 86 rfl)
theorem a_Interval_chances (T : Tx K mg) : NoAttr K (He.ga K "Interval") "chances" := He.noat_ok (T.d.fact 87 rfl)
theorem a_Coder_interval (T : Tx K mg) : NoAttr K (He.ga K "Coder") "interval" := He.noat_ok (T.d.fact 88 rfl)
theorem a_InvalidTree_value (T : Tx K mg) : NoAttr K (He.ga K "InvalidTree") "value" := He.noat_ok (T.d.fact 89 rfl)
theorem m_Interval_cut (T : Tx K mg) : Meth K (He.ga K "Interval") "cut" (He.ma K (He.ga K "Interval") "cut") := He.meth_ok (T.d.fact 90 rfl)
theorem m_Interval_narrow (T : Tx K mg) : Meth K (He.ga K "Interval") "narrow" (He.ma K (He.ga K "Interval") "narrow") := He.meth_ok (T.d.fact 91 rfl)
theorem m_Coder_put (T : Tx K mg) : Meth K (He.ga K "Coder") "put" (He.ma K (He.ga K "Coder") "put") := He.meth_ok (T.d.fact 92 rfl)
theorem m_Coder_state (T : Tx K mg) : Meth K (He.ga K "Coder") "state" (He.ma K (He.ga K "Coder") "state") := He.meth_ok (T.d.fact 93 rfl)
theorem m_Coder_octets (T : Tx K mg) : Meth K (He.ga K "Coder") "octets" (He.ma K (He.ga K "Coder") "octets") := He.meth_ok (T.d.fact 94 rfl)
theorem m_InvalidTree_init (T : Tx K mg) : Meth K (He.ga K "InvalidTree") "__init__" (He.ma K (He.ga K "InvalidTree") "__init__") := He.meth_ok (T.d.fact 95 rfl)
theorem mk_Interval (T : Tx K mg) : Mk K (He.ga K "Interval") (He.ma K (He.ga K "Interval") "__init__") := He.mkr_ok (T.d.fact 96 rfl)
theorem mk_Coder (T : Tx K mg) : Mk K (He.ga K "Coder") (He.ma K (He.ga K "Coder") "__init__") := He.mkr_ok (T.d.fact 97 rfl)
theorem exm_tree (T : Tx K mg) : PySem.W.exmOne K (.ref (He.ga K "InvalidTree")) (.ref (He.ga K "InvalidTree")) = some true := He.exm_ok (T.d.fact 98 rfl)
theorem err_tree (T : Tx K mg) : ErrC K (He.ga K "InvalidTree") (He.ga K "TideError") := errB_ok (He.ba T.e).1
theorem t_MODES (T : Tx K mg) (H : Hp) : SqT K H (He.ga K "MODES") (mV.map (He.Dv.v K)) := He.tupB_ok (He.ba (He.ba (He.ba T.e).2).1).1 H
theorem t_FACTORS (T : Tx K mg) (H : Hp) : SqT K H (He.ga K "FACTORS") (fV.map (He.Dv.v K)) := He.tupB_ok (He.ba (He.ba (He.ba T.e).2).1).2 H
theorem u_MODES (T : Tx K mg) (H : Hp) : tyV K "tuple" (.ref (He.ga K "MODES")) H := .inr (.inl ⟨rfl, dnB_ok (He.ba (He.ba (He.ba T.e).2).2).1⟩)
theorem u_FACTORS (T : Tx K mg) (H : Hp) : tyV K "tuple" (.ref (He.ga K "FACTORS")) H := .inr (.inl ⟨rfl, dnB_ok (He.ba (He.ba (He.ba T.e).2).2).2⟩)
end
end Bo

/-! The program's small defs: figures_in, folded, word_at. -/
namespace Bo
open PySem PySem.Spec L2 PyProof.Rows
/-- figures_in(v) -/
def spFig : Sp := fun vs H Q _ => ∃ n : Nat, vs = [.int (n : Int)] ∧ Q (.int ((bl n : Nat) : Int)) H
def spFold : Sp := fun vs H Q _ => ∃ v : Int, vs = [.int v] ∧ Q (.int (fold v)) H
def spWord : Sp := fun vs H Q _ => ∃ i k : Nat, vs = [.int (i : Int), .int (k : Int)] ∧ Q (.str (word i k)) H
section
variable {w : World} {K : PySem.W.Frag} {mg : Str → Option Value} {base : Heap}
theorem ok_figures_in (T : Tx K mg) : Dfn pr w K mg base CX0 1 "figures_in" spFig := by
  refine mk_dfn (x_figures_in T) (g_figures_in T) sc_figures_in (fun vs H Q E h => by obtain ⟨_, rfl, _⟩ := h; rfl) fun cdv A outer s H vs Q E hr h => ?_
  obtain ⟨n, rfl, k⟩ := h
  refine ⟨_, PSs.nox (pss_cons (ps_set (i := 1) sc_figures_in.nd rfl (Or.inl rfl) pe_int)
 (pss_cons (ps_while PassesOwn.never (pt_cmpR op_gt (pv 0) pe_int (nomark _))
 (pss_cons (ps_set (i := 0) sc_figures_in.nd rfl (Or.inl rfl) (pe_op op_fdiv (pv 0) pe_int))
 (pss_one (ps_aug (i := 1) sc_figures_in.nd rfl (Or.inl rfl) pe_int ip_add))))
 (pss_one (ps_ret (pv 1))))), ?_⟩
  refine while_by (fun σ H' => ∃ m c : Nat, σ = [some (.int (m : Int)), some (.int (c : Int))] ∧ H' = H ∧ c + bl m = bl n) (fun σ _ => match σ with | some (.int m) :: _ => m.toNat | _ => 0) ⟨n, 0, rfl, rfl, by omega⟩ ?_ ?_
  · rintro σ H' ⟨m, c, rfl, rfl, e⟩
    refine ⟨_, rfl, ⟨_, _, rfl, rfl, _, rfl, ?_⟩⟩
    refine ite2 (fun hc => ?_) (fun hc => ?_)
    · have hm : m ≠ 0 := by
        have := of_decide_eq_true hc
        omega
      refine ⟨_, rfl, _, _, rfl, rfl, ⟨by decide, by decide⟩, _, rfl, _, _, rfl, rfl, ⟨m / 2, c + 1, by simp, rfl, ?_⟩, ?_⟩
      · rw [← e, bl_pos hm]; omega
      · show ((m : Int) / 2).toNat < (m : Int).toNat
        omega
    · have hm : m = 0 := by
        have : ¬ (0 : Int) < (m : Int) := fun z => hc (decide_eq_true z)
        omega
      subst hm
      rw [bl_zero] at e
      refine ⟨_, rfl, ?_⟩
      have e2 : c = bl n := by omega
      rw [e2]
      exact k
  · rintro σ H' Q1 Q2 hq ⟨v, h1, h2⟩
    obtain ⟨i, j, rfl, e2, k1, e3, q⟩ := h2
    exact ⟨_, h1, i, j, rfl, e2, k1, e3, hq _ _ q⟩
theorem ok_folded (T : Tx K mg) : Dfn pr w K mg base CX0 1 "folded" spFold := by
  refine mk_dfn (x_folded T) (g_folded T) sc_folded (fun vs H Q E h => by obtain ⟨_, rfl, _⟩ := h; rfl) fun cdv A outer s H vs Q E hr h => ?_
  obtain ⟨v, rfl, k⟩ := h
  refine ⟨_, PSs.nox (pss_one (ps_ret (pe_ifExp (pt_cmpR op_gt (pv 0) pe_int (nomark _)) (pe_op op_sub (pe_op op_mul pe_int (pv 0)) pe_int) (pe_op op_mul (pe_un un_neg pe_int) (pv 0))))), ?_⟩
  refine ⟨_, rfl, ⟨_, _, rfl, rfl, _, rfl, ?_⟩⟩
  unfold fold at k
  refine ite2 (fun hc => ?_) (fun hc => ?_)
  · rw [if_pos (of_decide_eq_true hc)] at k
    exact ⟨_, rfl, _, _, rfl, rfl, .inl (by decide), _, _, rfl, rfl, k⟩
  · rw [if_neg (fun z => hc (decide_eq_true z))] at k
    exact ⟨_, rfl, _, rfl, _, _, rfl, rfl, .inl (by decide), k⟩
theorem ok_word_at (T : Tx K mg) : Dfn pr w K mg base CX0 1 "word_at" spWord := by
  refine mk_dfn (x_word_at T) (g_word_at T) sc_word_at (fun vs H Q E h => by obtain ⟨_, _, rfl, _⟩ := h; rfl) fun cdv A outer s H vs Q E hr h => ?_
  obtain ⟨i, j, rfl, k⟩ := h
  refine ⟨_, PSs.nox (pss_cons (ps_if (PW.pt (pw_and (pt_cmpR op_eq (pv 0) pe_int (nomark _)) (pw_and1 (pt_cmpR op_eq (pv 1) pe_int (nomark _)))))
 (pss_one (ps_ret pe_str))
 pss_nil)
 (pss_one (ps_ret (pe_ifExp (PW.pt (pw_and (pt_cmpR op_lt (pv 0) pe_int (nomark _)) (pw_and1 (pt_cmpR op_lt (pv 1) pe_int (nomark _))))) pe_str pe_str)))), ?_⟩
  unfold word at k
  have step : ∀ (a b : Nat), (decide (V.int (a : Int) = V.int (b : Int)) = true) = (a = b) := fun a b => by simp; omega
  have two : (decide ((i : Int) < 2) = true) = (i < 2) := by simp; omega
  have two' : (decide ((j : Int) < 2) = true) = (j < 2) := by simp; omega
  have rest : ¬ (i = 0 ∧ j = 0) → tRet (tIf (tAnd (tTest (tOp (rI0 fun i j => V.bl (decide (i < j))) (tVar 0) (tC (V.int 2)))) (tTest (tOp (rI0 fun i j => V.bl (decide (i < j))) (tVar 1) (tC (V.int 2)))))
      (tC (V.str "mid")) (tC (V.str "high"))) { nx := fun _ H' => Q V.non H', rt := Q } (L2.start ["i", "k"] [V.int ↑i, V.int ↑j]) H := by
    intro hn
    rw [if_neg hn] at k
    refine ⟨_, rfl, ⟨_, _, rfl, rfl, _, rfl, ?_⟩⟩
    refine ite2 (fun h1 => ?_) (fun h1 => iteF ?_)
    · refine ⟨_, rfl, _, _, rfl, rfl, _, rfl, ?_⟩
      refine ite2 (fun h2 => ?_) (fun h2 => ?_)
      · rw [if_pos ⟨two ▸ h1, two' ▸ h2⟩] at k
        exact k
      · rw [if_neg fun z => h2 (two' ▸ z.2)] at k
        exact k
    · rw [if_neg fun z => h1 (two ▸ z.1)] at k
      exact k
  refine ⟨_, rfl, ⟨rfl, _, rfl, ?_⟩⟩
  refine ite2 (fun h1 => ?_) (fun h1 => iteF (rest fun z => h1 (by rw [z.1]; rfl)))
  refine ⟨_, rfl, ⟨rfl, _, rfl, ?_⟩⟩
  refine ite2 (fun h2 => ?_) (fun h2 => rest fun z => h2 (by rw [z.2]; rfl))
  have e1 : i = 0 := step i 0 ▸ h1
  have e2 : j = 0 := step j 0 ▸ h2
  rw [if_pos ⟨e1, e2⟩] at k
  exact k
end
end Bo

/-! The program's coder: Interval and Coder. -/
namespace Bo
open PySem PySem.Spec L2 PyProof.Rows

/-! ### a class that is made by its name -/
structure Mkd (P : Program) (w : World) (K : PySem.W.Frag) (mg : Str → Option Value) (base : Heap) (CX : CXT) (k : Nat) (C : Str) (sp : Sp) : Prop where
  ok : ∃ (fd : FuncData) (ps : List Str), FnOk P w K mg base CX k (He.ma K (He.ga K C) "__init__") fd ps sp ∧ Binds K fd ps []
  made : Mk K (He.ga K C) (He.ma K (He.ga K C) "__init__")
  at_ : mg C = some (.ref (He.ga K C))
theorem pe_mak0 {X : Cx} {CX : CXT} {k j : Nat} {C : Str} {sp : Sp} {E : XK} {p pos : Pos} (D : Mkd X.prog X.w X.K X.mg X.base CX k C sp) (hr : Room j X.A) (hk : k + 1 ≤ j) (hx : Passes CX X E) (hg : Gl X C := by rfl) (hdb : (C == ("__debug__" : Str)) = false := by decide) :
    PE X (.Call (.Name C p) [] [] pos) (tMake (He.ga X.K C) sp [] E tNil) := by
  obtain ⟨fd, ps, F, b⟩ := D.ok
  exact pe_make0 D.made F (hr.mono hk) hg D.at_ b .nil hx hdb
theorem mk_mkd {P : Program} {w : World} {K : PySem.W.Frag} {mg : Str → Option Value} {base : Heap} {CX : CXT} {C q : Str} {st : Stmt} {N ps : List Str} {k : Nat} {sp : Sp} (F : ∃ fd, FnP K "__init__" q st (He.ma K (He.ga K C) "__init__") fd ∧ Binds K fd ps [])
    (m : Mk K (He.ga K C) (He.ma K (He.ga K C) "__init__")) (g : mg C = some (.ref (He.ga K C))) (S : FnScope N ps (defScope st)) (len : ∀ vs H Q E, sp vs H Q E → vs.length = ps.length)
    (hbody : ∀ (cdv : Value) (A : Around) (outer : List Env) (s : Shared) (H : Hp) (vs : List V) (Q : VK) (E : XK), Room k (A.deeper (envOfC q (defScope st) s.heap.objs.size (He.ma K (He.ga K C) "__init__") cdv)) → sp vs H Q E →
      ∃ t, PSs (cxOf CX P w K mg base N q (defScope st) (He.ma K (He.ga K C) "__init__") cdv A outer s H E) (defBody st) t ∧ t { nx := fun _ H' => Q .non H', rt := Q } (start N vs) H) : Mkd P w K mg base CX (k + 1) C sp := by
  obtain ⟨fd, F, b⟩ := F
  exact ⟨⟨fd, ps, FunD.ok F S len hbody, b⟩, m, g⟩

/-! ### the chances as a dict -/
def vch (l : List (Kk × Int)) : List (Kk × V) := l.map fun e => (e.1, V.int e.2)
theorem valV_vch (k : Kk) : ∀ l : List (Kk × Int), (valV (vch l) k).getD (V.int 2048) = V.int (getC l k)
  | [] => rfl
  | e :: l => by
    show (valV ((e.1, V.int e.2) :: vch l) k).getD _ = _
    unfold getC
    by_cases h : e.1 = k
    · rw [valV_pos h, if_pos h]
      rfl
    · rw [valV_neg h, if_neg h]
      exact valV_vch k l
theorem vch_length (l : List (Kk × Int)) : (vch l).length = l.length := by unfold vch; simp
theorem putK_cons_pos {p : Kk × V} {r : List (Kk × V)} {k : Kk} {v : V} (h : p.1 = k) (hn : ∀ q ∈ r, q.1 ≠ k) : putK (p :: r) k v = (k, v) :: r := by
  unfold putK
  rw [if_pos (by simp [h]), List.map_cons, if_pos h]
  have e : r.map (fun kv => if kv.1 = k then (kv.1, v) else kv) = r := by
    refine (List.map_congr_left fun q hq => if_neg (hn q hq)).trans ?_
    simp
  rw [e, h]
theorem putK_cons_neg {p : Kk × V} {r : List (Kk × V)} {k : Kk} {v : V} (h : p.1 ≠ k) : putK (p :: r) k v = p :: putK r k v := by
  unfold putK
  by_cases c : (r.any fun kv => decide (kv.1 = k)) = true
  · rw [if_pos c, if_pos (by simp [c]), List.map_cons, if_neg h]
  · rw [if_neg c, if_neg (by simpa [h] using c)]
    rfl
theorem putK_vch (k : Kk) (p : Int) : ∀ l : List (Kk × Int), (l.map (·.1)).Nodup → putK (vch l) k (V.int p) = vch (setC l k p)
  | [], _ => rfl
  | e :: l, h => by
    have h' : e.1 ∉ l.map (·.1) ∧ (l.map (·.1)).Nodup := by simpa using h
    show putK ((e.1, V.int e.2) :: vch l) k _ = _
    unfold setC
    by_cases c : e.1 = k
    · rw [if_pos c, putK_cons_pos (p := (e.1, V.int e.2)) c]
      · show _ = (e.1, V.int p) :: vch l
        rw [c]
      · intro q hq z
        obtain ⟨x, hx, rfl⟩ := List.mem_map.mp hq
        exact h'.1 (List.mem_map.mpr ⟨x, hx, z.trans c.symm⟩)
    · rw [if_neg c, putK_cons_neg (p := (e.1, V.int e.2)) c, putK_vch k p l h'.2]
      rfl

/-! ### the objects -/
def ivF (s : CoSt Kk) (d : Addr) : List (Str × V) := [("low", .int s.low), ("width", .int s.width), ("count", .int (s.count : Int)), ("chances", .ref d)]
theorem iv_low (s : CoSt Kk) (d : Addr) : (ivF s d).lookup ("low" : Str) = some (.int s.low) := rfl
theorem iv_width (s : CoSt Kk) (d : Addr) : (ivF s d).lookup ("width" : Str) = some (.int s.width) := rfl
theorem iv_count (s : CoSt Kk) (d : Addr) : (ivF s d).lookup ("count" : Str) = some (.int (s.count : Int)) := rfl
theorem iv_ch (s : CoSt Kk) (d : Addr) : (ivF s d).lookup ("chances" : Str) = some (.ref d) := rfl
theorem iv_put_low (s : CoSt Kk) (d : Addr) (x : Int) : putF "low" (.int x) (ivF s d) = ivF ⟨x, s.width, s.count, s.ch⟩ d := rfl
theorem iv_put_width (s : CoSt Kk) (d : Addr) (x : Int) : putF "width" (.int x) (ivF s d) = ivF ⟨s.low, x, s.count, s.ch⟩ d := rfl
theorem iv_put_count (s : CoSt Kk) (d : Addr) (x : Nat) : putF "count" (.int (x : Int)) (ivF s d) = ivF ⟨s.low, s.width, x, s.ch⟩ d := rfl
def IvAt (K : PySem.W.Frag) (H : Hp) (iv d : Addr) (s : CoSt Kk) : Prop := (∃ dx, H iv = some (.ins (He.ga K "Interval") dx (ivF s d))) ∧ H d = some (.dT (vch s.ch))
def CoAt (K : PySem.W.Frag) (H : Hp) (c iv d : Addr) (s : CoSt Kk) : Prop := (∃ dx, H c = some (.ins (He.ga K "Coder") dx [("interval", .ref iv)])) ∧ IvAt K H iv d s

def spInit (K : PySem.W.Frag) : Sp := fun vs H Q _ => ∃ (iv dx : Addr), vs = [.ref iv] ∧ H iv = some (.ins (He.ga K "Interval") dx []) ∧ ∀ (H' : Hp) (d : Addr), IvAt K H' iv d st0 → Upto [iv] H H' → H d = none → Q .non H'
def spCut (K : PySem.W.Frag) : Sp := fun vs H Q _ => ∃ (iv d q : Addr) (s : CoSt Kk) (k : Kk) (N : Nat), vs = [.ref iv, .ref q] ∧ IvAt K H iv d s ∧ H q = some (.tup (k.map kV)) ∧ Good s N ∧ Q (.int (cut s k)) H
def spNarrow (K : PySem.W.Frag) : Sp := fun vs H Q _ => ∃ (iv d q : Addr) (s : CoSt Kk) (k : Kk) (b : Int) (N : Nat), vs = [.ref iv, .ref q, .int b] ∧ IvAt K H iv d s ∧ H q = some (.tup (k.map kV)) ∧ Good s N ∧ N ≤ 100000 ∧
  ∀ H', IvAt K H' iv d (put s k b) → Upto [iv, d] H H' → Q .non H'
def spCoInit (K : PySem.W.Frag) : Sp := fun vs H Q _ => ∃ (c dx : Addr), vs = [.ref c] ∧ H c = some (.ins (He.ga K "Coder") dx []) ∧ ∀ (H' : Hp) (iv d : Addr), CoAt K H' c iv d st0 → Upto [c] H H' → H iv = none → H d = none → Q .non H'
@[irreducible] def spPut (K : PySem.W.Frag) : Sp := fun vs H Q _ => ∃ (c iv d q : Addr) (s : CoSt Kk) (k : Kk) (b : Int) (N : Nat), vs = [.ref c, .ref q, .int b] ∧ CoAt K H c iv d s ∧ H q = some (.tup (k.map kV)) ∧ Good s N ∧ N ≤ 100000 ∧
  ∀ H', CoAt K H' c iv d (put s k b) → Upto [iv, d] H H' → Q .non H'
def spState (K : PySem.W.Frag) : Sp := fun vs H Q _ => ∃ (c iv d : Addr) (s : CoSt Kk), vs = [.ref c] ∧ CoAt K H c iv d s ∧ ∀ p, H p = none → Q (.ref p) (upd H p (.tup [.int s.low, .int s.width, .int (s.count : Int)]))
section
variable {w : World} {K : PySem.W.Frag} {mg : Str → Option Value} {base : Heap}
theorem ok_Interval (T : Tx K mg) : Mkd pr w K mg base CX0 1 "Interval" (spInit K) := by
  refine mk_mkd (x_Interval_init T) (mk_Interval T) (g_Interval T) sc_Interval_init (fun vs H Q E h => by obtain ⟨_, _, rfl, _⟩ := h; rfl) fun cdv A outer s H vs Q E hr h => ?_
  obtain ⟨iv, dx, rfl, hi, k⟩ := h
  refine ⟨_, PSs.nox (pss_cons (ps_fld (pv 0) pe_int rfl)
 (pss_cons (ps_fld (pv 0) (pe_op op_shl pe_int (pe_op op_mul (pe_num (n_BITS T)) (pe_num (n_FIRST_COUNT T)))) rfl)
 (pss_cons (ps_fld (pv 0) (pe_num (n_FIRST_COUNT T)) rfl)
 (pss_one (ps_fld (pv 0) pe_dnewT rfl))))), ?_⟩
  refine ⟨_, rfl, iv, _, dx, _, rfl, hi, c_Interval T, a_Interval_low T, by decide, ?_⟩
  refine ⟨_, _, rfl, rfl, .inl (by decide), _, _, rfl, rfl, ⟨by decide, by decide, by decide⟩, _, rfl, iv, _, dx, _, rfl, upd_same, c_Interval T, a_Interval_width T, by decide, ?_⟩
  refine ⟨_, rfl, iv, _, dx, _, rfl, upd_same, c_Interval T, a_Interval_count T, by decide, ?_⟩
  rw [upd_upd, upd_upd]
  intro d hd
  have nd : iv ≠ d := ne_of_none (upd_same (H := H)) hd
  have hd0 : H d = none := by rw [upd_ne (Ne.symm nd)] at hd; exact hd
  refine ⟨_, rfl, iv, _, dx, _, rfl, by rw [upd_ne nd]; exact upd_same, c_Interval T, a_Interval_chances T, by decide, ?_⟩
  refine k _ d ⟨⟨dx, upd_same⟩, by rw [upd_ne (Ne.symm nd), upd_same]; rfl⟩ ?_ hd0
  refine ⟨fun b o n e => ?_, fun b o i e => ?_⟩
  · have nb : b ≠ iv := fun z => n (by simp [z])
    rw [upd_ne nb, upd_ne (ne_of_none e hd0), upd_ne nb]
    exact e
  · have nb : b ≠ iv := fun z => by
      rw [z, hi] at e
      rw [← Option.some.inj e] at i
      exact i
    rw [upd_ne nb, upd_ne (ne_of_none e hd0), upd_ne nb]
    exact e
theorem iv_ne {H : Hp} {iv d : Addr} {s : CoSt Kk} (h : IvAt K H iv d s) : iv ≠ d := by
  obtain ⟨⟨dx, h1⟩, h2⟩ := h
  exact ne_of h1 h2 (fun z => nomatch z)
theorem ok_cut (T : Tx K mg) : Mtd pr w K mg base CX0 1 "Interval" "cut" (spCut K) := by
  refine mk_mtd (x_Interval_cut T) (c_Interval T) (m_Interval_cut T) sc_Interval_cut (fun vs H Q E h => by obtain ⟨_, _, _, _, _, _, rfl, _⟩ := h; rfl) fun cdv A outer s H vs Q E hr h => ?_
  obtain ⟨iv, d, q, st, k, N, rfl, ⟨⟨dx, hi⟩, hd⟩, hq, g, kq⟩ := h
  refine ⟨_, PSs.nox (pss_one (ps_ret (pe_op op_mul (pe_op op_fdiv (pe_fld (pv 0) rfl) (pe_num (n_WHOLE T))) (pe_dget2 (hu_of hr) (pe_fld (pv 0) rfl) (pv 1) (pe_num (n_HALF T)) ⟨rfl, rfl, rfl, rfl⟩)))), ?_⟩
  refine ⟨_, rfl, iv, _, dx, _, _, rfl, hi, c_Interval T, a_Interval_width T, iv_width st d, _, _, rfl, rfl, ⟨by decide, by decide⟩, ?_⟩
  refine ⟨_, rfl, iv, _, dx, _, _, rfl, hi, c_Interval T, a_Interval_chances T, iv_ch st d, d, rfl, .inr ⟨_, .inl hd⟩, _, rfl, _, DGet.t hd hq, ?_⟩
  have e := valV_vch k st.ch
  refine ⟨_, _, rfl, e, .inl ?_, kq⟩
  have := g.wlo
  have := g.whi
  omega
theorem ok_narrow (T : Tx K mg) (M_cut : Mtd pr w K mg base CX0 1 "Interval" "cut" (spCut K)) : Mtd pr w K mg base CX0 2 "Interval" "narrow" (spNarrow K) := by
  refine mk_mtd (x_Interval_narrow T) (c_Interval T) (m_Interval_narrow T) sc_Interval_narrow (fun vs H Q E h => by obtain ⟨_, _, _, _, _, _, _, rfl, _⟩ := h; rfl) fun cdv A outer s H vs Q E hr h => ?_
  obtain ⟨iv, d, q, st, k, b, N, rfl, ia, hq, g, hN, kq⟩ := h
  have nd := iv_ne ia
  obtain ⟨⟨dx, hi⟩, hd⟩ := id ia
  have mid := part_mid g k b
  have hlen : (vch st.ch).length < sizeLine := by
    rw [vch_length, sizeLine_eq]
    have := g.len
    omega
  refine ⟨_, PSs.nox (pss_cons (ps_set (i := 3) sc_Interval_narrow.nd rfl (Or.inl rfl) (pe_dget2 (hu_of hr) (pe_fld (pv 0) rfl) (pv 1) (pe_num (n_HALF T)) ⟨rfl, rfl, rfl, rfl⟩))
 (pss_cons (ps_set (i := 4) sc_Interval_narrow.nd rfl (Or.inl rfl) (pe_mtd M_cut hr (by decide) pass0 (pv 0) (pa_cons (pv 1) pa_nil)))
 (pss_cons (ps_if (pt_cmpR op_eq (pv 2) pe_int (nomark _))
 (pss_cons (ps_fld (pv 0) (pv 4) rfl)
 (pss_one (ps_dput (hu_of hr) (pe_fld (pv 0) rfl) (pv 1) (pe_op op_add (pv 3) (pe_op op_fdiv (pe_op op_sub (pe_num (n_WHOLE T)) (pv 3)) (pe_num (n_RATE T)))) rfl)))
 (pss_cons (ps_fldaug (pv 0) (pv 4) in_add)
 (pss_cons (ps_fldaug (pv 0) (pv 4) in_sub)
 (pss_one (ps_dput (hu_of hr) (pe_fld (pv 0) rfl) (pv 1) (pe_op op_sub (pv 3) (pe_op op_fdiv (pv 3) (pe_num (n_RATE T)))) rfl)))))
 (pss_one (ps_while PassesOwn.never (pt_cmpR op_lt (pe_fld (pv 0) rfl) (pe_num (n_LEAST_WIDTH T)) (nomark _))
 (pss_cons (ps_fldaug (pv 0) (pe_num (n_BASE T)) in_mul)
 (pss_cons (ps_fldaug (pv 0) (pe_num (n_BASE T)) in_mul)
 (pss_one (ps_fldaug (pv 0) pe_int in_add))))))))), ?_⟩
  have e := valV_vch k st.ch
  refine ⟨_, rfl, iv, _, dx, _, _, rfl, hi, c_Interval T, a_Interval_chances T, iv_ch st d, d, rfl, .inr ⟨_, .inl hd⟩, _, rfl, _, DGet.t hd hq, ?_⟩
  rw [e]
  refine ⟨_, rfl, iv, dx, _, rfl, hi, rfl, _, rfl, iv, d, q, st, k, N, rfl, ia, hq, g, ?_⟩
  -- the loop, from the state t that stands behind the if
  have loop : ∀ (σ : L2.St) (H1 : Hp) (t : CoSt Kk), σ[0]? = some (some (.ref iv)) → IvAt K H1 iv d t → Upto [iv, d] H H1 → 65536 ≤ t.width → norm t = put st k b →
      tWhile (tTest (tOp (rI0 fun i j => V.bl (decide (i < j))) (tFld K (tVar 0) "width") (tC (V.int 16777216))))
        (tSeq (sFldAug K (tVar 0) (tC (V.int 256)) (rI CMul fun i j => V.int (i * j)) "low") (tSeq (sFldAug K (tVar 0) (tC (V.int 256)) (rI CMul fun i j => V.int (i * j)) "width") (sFldAug K (tVar 0) (tC (V.int 1)) rAdd "count")))
        { nx := fun _ H' => Q V.non H', rt := Q } σ H1 := by
    intro σ H1 t hσ it up hw hn
    refine ⟨fun m σ H2 => σ[0]? = some (some (.ref iv)) ∧ ∃ t, IvAt K H2 iv d t ∧ Upto [iv, d] H H2 ∧ 65536 ≤ t.width ∧ norm t = put st k b ∧ m = (16777216 - t.width).toNat, ⟨_, hσ, t, it, up, hw, hn, rfl⟩, ?_⟩
    rintro m σ H2 ⟨hσ, t, it, up, hw, hn, rfl⟩
    obtain ⟨⟨dx2, hi2⟩, hd2⟩ := id it
    refine ⟨_, hσ, iv, _, dx2, _, _, rfl, hi2, c_Interval T, a_Interval_width T, iv_width t d, _, _, rfl, rfl, _, rfl, ?_⟩
    refine ite2 (fun hc => ?_) (fun hc => ?_)
    · have hlt : t.width < 16777216 := of_decide_eq_true hc
      refine ⟨fun σ' H' => σ'[0]? = some (some (.ref iv)) ∧ ∃ t', IvAt K H' iv d t' ∧ Upto [iv, d] H H' ∧ 65536 ≤ t'.width ∧ norm t' = put st k b ∧ (16777216 - t'.width).toNat < (16777216 - t.width).toNat,
        fun σ' H' ⟨z1, t', z2, z3, z4, z5, z6⟩ => ⟨_, z6, z1, t', z2, z3, z4, z5, rfl⟩, ?_⟩
      refine ⟨_, hσ, iv, _, dx2, _, _, rfl, hi2, c_Interval T, a_Interval_low T, iv_low t d, _, _, rfl, rfl, .inr (by decide), dx2, _, hi2, (by show 4 < 1000; decide), ?_⟩
      refine ⟨_, hσ, iv, _, dx2, _, _, rfl, upd_same, c_Interval T, a_Interval_width T, rfl, _, _, rfl, rfl, .inr (by decide), dx2, _, upd_same, (by show 4 < 1000; decide), ?_⟩
      refine ⟨_, hσ, iv, _, dx2, _, _, rfl, upd_same, c_Interval T, a_Interval_count T, rfl, _, _, rfl, rfl, dx2, _, upd_same, (by show 4 < 1000; decide), ?_⟩
      rw [upd_upd, upd_upd]
      refine ⟨hσ, wider t, ⟨⟨dx2, upd_same⟩, by rw [upd_ne (Ne.symm nd)]; exact hd2⟩, up.trans (Upto.put (by simp) hi2 (fun z => z)), ?_, ?_, ?_⟩
      · show (65536 : Int) ≤ t.width * 256
        omega
      · have e1 : norm t = wider t := if_pos hlt
        rw [← hn, e1]
        refine if_neg ?_
        show ¬ t.width * 256 < 16777216
        omega
      · show (16777216 - t.width * 256).toNat < _
        omega
    · have e1 : norm t = t := if_neg fun z => hc (decide_eq_true z)
      rw [e1] at hn
      exact kq H2 (hn ▸ it) up
  refine ⟨_, rfl, ⟨rfl, _, rfl, ?_⟩⟩
  refine ite2 (fun hc => ?_) (fun hc => ?_)
  · have hb : b = 0 := by simpa using hc
    refine ⟨_, rfl, _, rfl, iv, _, dx, _, rfl, hi, c_Interval T, a_Interval_width T, (by show 4 < 1000; decide), ?_⟩
    have hd1 : upd H iv (.ins (He.ga K "Interval") dx (putF "width" (.int (cut st k)) (ivF st d))) d = some (.dT (vch st.ch)) := by rw [upd_ne (Ne.symm nd)]; exact hd
    have hq1 : upd H iv (.ins (He.ga K "Interval") dx (putF "width" (.int (cut st k)) (ivF st d))) q = some (.tup (k.map kV)) := by
      rw [upd_ne (ne_of hq hi (fun z => nomatch z))]; exact hq
    have up1 : Upto [iv, d] H (upd H iv (.ins (He.ga K "Interval") dx (putF "width" (.int (cut st k)) (ivF st d)))) := Upto.put (by simp) hi (fun z => z)
    refine ⟨_, rfl, _, rfl, _, _, rfl, rfl, _, _, rfl, rfl, ⟨by decide, by decide⟩, _, _, rfl, rfl, ?_⟩
    refine ⟨_, rfl, iv, _, dx, _, _, rfl, upd_same, c_Interval T, a_Interval_chances T, rfl, _, rfl, d, _, rfl, DPut.t hd1 hq1 hlen, ?_⟩
    rw [putK_vch k _ _ g.nd]
    have hpart : part st k b = ⟨st.low, cut st k, st.count, setC st.ch k (getC st.ch k + (4096 - getC st.ch k) / 32)⟩ := if_pos hb
    refine loop _ _ (part st k b) rfl ⟨⟨dx, ?_⟩, ?_⟩ (up1.trans (Upto.put (by simp) hd1 (fun z => z))) mid.wlo rfl
    · rw [upd_ne nd, upd_same, hpart]
      rfl
    · rw [upd_same, hpart]
  · have hb : ¬ b = 0 := by simpa using hc
    refine ⟨_, rfl, iv, _, dx, _, _, rfl, hi, c_Interval T, a_Interval_low T, iv_low st d, _, rfl, _, _, rfl, rfl, dx, _, hi, (by show 4 < 1000; decide), ?_⟩
    refine ⟨_, rfl, iv, _, dx, _, _, rfl, upd_same, c_Interval T, a_Interval_width T, rfl, _, rfl, _, _, rfl, rfl, dx, _, upd_same, (by show 4 < 1000; decide), ?_⟩
    rw [upd_upd]
    have hd1 : ∀ fs, upd H iv (.ins (He.ga K "Interval") dx fs) d = some (.dT (vch st.ch)) := fun fs => by rw [upd_ne (Ne.symm nd)]; exact hd
    have hq1 : ∀ fs, upd H iv (.ins (He.ga K "Interval") dx fs) q = some (.tup (k.map kV)) := fun fs => by rw [upd_ne (ne_of hq hi (fun z => nomatch z))]; exact hq
    refine ⟨_, rfl, _, rfl, _, _, rfl, rfl, ⟨by decide, by decide⟩, _, _, rfl, rfl, ?_⟩
    refine ⟨_, rfl, iv, _, dx, _, _, rfl, upd_same, c_Interval T, a_Interval_chances T, rfl, _, rfl, d, _, rfl, DPut.t (hd1 _) (hq1 _) hlen, ?_⟩
    rw [putK_vch k _ _ g.nd]
    have hpart : part st k b = ⟨st.low + cut st k, st.width - cut st k, st.count, setC st.ch k (getC st.ch k - getC st.ch k / 32)⟩ := if_neg hb
    refine loop _ _ (part st k b) rfl ⟨⟨dx, ?_⟩, ?_⟩ ((Upto.put (by simp) hi (fun z => z)).trans (Upto.put (by simp) (hd1 _) (fun z => z))) mid.wlo rfl
    · rw [upd_ne nd, upd_same, hpart]
      rfl
    · rw [upd_same, hpart]
/-! ### Coder -/
theorem ok_Coder (T : Tx K mg) (K_Interval : Mkd pr w K mg base CX0 1 "Interval" (spInit K)) : Mkd pr w K mg base CX0 3 "Coder" (spCoInit K) := by
  refine mk_mkd (x_Coder_init T) (mk_Coder T) (g_Coder T) sc_Coder_init (fun vs H Q E h => by obtain ⟨_, _, rfl, _⟩ := h; rfl) fun cdv A outer s H vs Q E hr h => ?_
  obtain ⟨c, dx, rfl, hc, k⟩ := h
  refine ⟨_, PSs.nox (pss_one (ps_fld (pv 0) (pe_mak0 K_Interval hr (by decide) pass0) rfl)), ?_⟩
  intro iv dv hiv hdv ne
  refine ⟨iv, dv, rfl, upd_same, fun H1 d i1 u1 hd => ⟨rfl, ?_⟩⟩
  have nc : c ≠ iv := ne_of_none hc hiv
  have ncd : c ≠ dv := ne_of_none hc hdv
  have hc0 : upd (upd H dv (.own iv)) iv (.ins (He.ga K "Interval") dv []) c = some (.ins (He.ga K "Coder") dx []) := by rw [upd_ne nc, upd_ne ncd]; exact hc
  have hc1 : H1 c = some (.ins (He.ga K "Coder") dx []) := u1.kp c _ (by simp [nc]) hc0
  have nd : d ≠ iv := fun z => by rw [z, upd_same] at hd; cases hd
  have hd0 : H d = none := by
    rw [upd_ne nd] at hd
    by_cases z : d = dv
    · rw [z]; exact hdv
    · rw [upd_ne z] at hd; exact hd
  refine ⟨_, rfl, c, _, dx, _, rfl, hc1, c_Coder T, a_Coder_interval T, by decide, ?_⟩
  obtain ⟨⟨dx2, hi⟩, hdd⟩ := i1
  refine k _ iv d ⟨⟨dx, upd_same⟩, ⟨dx2, by rw [upd_ne (Ne.symm nc)]; exact hi⟩, by rw [upd_ne (ne_of hdd hc1 (fun z => nomatch z))]; exact hdd⟩ ?_ hiv hd0
  have s0 : Same H (upd (upd H dv (.own iv)) iv (.ins (He.ga K "Interval") dv [])) := fun b o e => by
    rw [upd_ne (ne_of_none e hiv), upd_ne (ne_of_none e hdv)]
    exact e
  refine ⟨fun b o n e => ?_, fun b o i e => ?_⟩
  · have nb : b ≠ c := fun z => n (by simp [z])
    rw [upd_ne nb]
    exact u1.kp b o (by simp [ne_of_none e hiv]) (s0 b o e)
  · have nb : b ≠ c := fun z => by
      rw [z, hc] at e
      rw [← Option.some.inj e] at i
      exact i
    rw [upd_ne nb]
    exact u1.im b o i (s0 b o e)
theorem ok_put (T : Tx K mg) (M_narrow : Mtd pr w K mg base CX0 2 "Interval" "narrow" (spNarrow K)) : Mtd pr w K mg base CX0 3 "Coder" "put" (spPut K) := by
  refine mk_mtd (x_Coder_put T) (c_Coder T) (m_Coder_put T) sc_Coder_put (fun vs H Q E h => by unfold spPut at h; obtain ⟨_, _, _, _, _, _, _, _, rfl, _⟩ := h; rfl) fun cdv A outer s H vs Q E hr h => ?_
  unfold spPut at h
  obtain ⟨c, iv, d, q, st, k, b, N, rfl, ⟨⟨dc, hc⟩, ia⟩, hq, g, hN, kq⟩ := h
  refine ⟨_, PSs.nox (pss_one (ps_expr (pe_mtd M_narrow hr (by decide) pass0 (pe_fld (pv 0) rfl) (pa_cons (pe_callTy call_tupleT (by rfl) (f_tuple T) (by decide +kernel) (pa_cons (pv 1) pa_nil)) (pa_cons (pv 2) pa_nil))))), ?_⟩
  obtain ⟨⟨dx, hi⟩, hd⟩ := id ia
  refine ⟨_, rfl, c, _, dc, _, _, rfl, hc, c_Coder T, a_Coder_interval T, rfl, iv, dx, _, rfl, hi, rfl, _, rfl, q, _, rfl, SqT.of hq, _, rfl, iv, d, q, st, k, b, N, rfl, ia, hq, g, hN, fun H1 i1 u1 => ?_⟩
  refine kq H1 ⟨⟨dc, u1.kp c _ ?_ hc⟩, i1⟩ u1
  have n1 : c ≠ iv := ne_of hc hi (fun z => by injection (HO.ins.inj z).2.2 with z1 z2; injection z2 )
  have n2 : c ≠ d := ne_of hc hd (fun z => nomatch z)
  simp [n1, n2]
theorem ok_state (T : Tx K mg) : Mtd pr w K mg base CX0 1 "Coder" "state" (spState K) := by
  refine mk_mtd (x_Coder_state T) (c_Coder T) (m_Coder_state T) sc_Coder_state (fun vs H Q E h => by obtain ⟨_, _, _, _, rfl, _⟩ := h; rfl) fun cdv A outer s H vs Q E hr h => ?_
  obtain ⟨c, iv, d, st, rfl, ⟨⟨dc, hc⟩, ⟨dx, hi⟩, hd⟩, kq⟩ := h
  refine ⟨_, PSs.nox (pss_one (ps_ret (pe_tup (pa_cons (pe_fld (pe_fld (pv 0) rfl) rfl) (pa_cons (pe_fld (pe_fld (pv 0) rfl) rfl) (pa_cons (pe_fld (pe_fld (pv 0) rfl) rfl) pa_nil)))))), ?_⟩
  refine ⟨_, rfl, c, _, dc, _, _, rfl, hc, c_Coder T, a_Coder_interval T, rfl, iv, _, dx, _, _, rfl, hi, c_Interval T, a_Interval_low T, iv_low st d, ?_⟩
  refine ⟨_, rfl, c, _, dc, _, _, rfl, hc, c_Coder T, a_Coder_interval T, rfl, iv, _, dx, _, _, rfl, hi, c_Interval T, a_Interval_width T, iv_width st d, ?_⟩
  refine ⟨_, rfl, c, _, dc, _, _, rfl, hc, c_Coder T, a_Coder_interval T, rfl, iv, _, dx, _, _, rfl, hi, c_Interval T, a_Interval_count T, iv_count st d, ?_⟩
  exact ⟨(by show 3 ≤ sizeLine; decide), kq⟩
end
end Bo

/-! The program's octets and numbers. -/
namespace Bo
open PySem PySem.Spec L2 PyProof.Rows
def spFigs : Sp := fun vs H Q _ => ∃ (v : Int) (k : Nat), vs = [.int v, .int (k : Int)] ∧ k ≤ 2000 ∧ ∀ (H' : Hp) (p : Addr), Same H H' → H' p = some (.tup ((figs v k).map V.int)) → Q (.ref p) H'
def spOct : Sp := fun vs H Q _ => ∃ (p : Addr) (s : CoSt Kk) (N : Nat), vs = [.ref p] ∧ H p = some (.tup [.int s.low, .int s.width, .int (s.count : Int)]) ∧ Good s N ∧ N ≤ 8000 ∧
  ∀ (H' : Hp) (q : Addr) (l : List Int), Same H H' → IsOct s l → l.length ≤ 2000 → H' q = some (.tup (l.map V.int)) → Q (.ref q) H'
def spOctets (K : PySem.W.Frag) : Sp := fun vs H Q _ => ∃ (c iv d : Addr) (s : CoSt Kk) (N : Nat), vs = [.ref c] ∧ CoAt K H c iv d s ∧ Good s N ∧ N ≤ 8000 ∧
  ∀ (H' : Hp) (q : Addr) (l : List Int), Same H H' → IsOct s l → l.length ≤ 2000 → H' q = some (.tup (l.map V.int)) → Q (.ref q) H'
/-! ### sizes -/
theorem two_pow_of {m : Nat} : ((2 : Int) ^ m) = ((2 ^ m : Nat) : Int) := by simp
theorem natAbs_lt_of {i : Int} {m : Nat} (h0 : 0 ≤ i) (h : i < 2 ^ m) : i.natAbs < 2 ^ m := by
  rw [two_pow_of] at h
  omega
theorem pow256 (m : Nat) : (256 : Int) ^ m = 2 ^ (8 * m) := (pow_two8 m).symm
theorem pow_mono {a b : Nat} (h : a ≤ b) : (2 : Int) ^ a ≤ 2 ^ b := by
  rw [two_pow_of, two_pow_of]
  exact Int.ofNat_le.mpr (Nat.pow_le_pow_right (by decide) h)
theorem Good.count_small {s : CoSt Kk} {N : Nat} (g : Good s N) (h : N ≤ 8000) : s.count ≤ 1504 := by
  have := g.count_le
  omega
theorem unit_le {s : CoSt Kk} {N k : Nat} (g : Good s N) (h : N ≤ 8000) : unit s k ≤ 2 ^ 12032 := by
  unfold unit
  rw [pow256]
  have := g.count_small h
  exact pow_mono (by omega)
theorem low_lt {s : CoSt Kk} {N : Nat} (g : Good s N) (h : N ≤ 8000) : s.low + s.width ≤ 2 ^ 12032 := by
  have h1 := g.top
  rw [pow256] at h1
  have := g.count_small h
  exact Int.le_trans h1 (pow_mono (by omega))
theorem num_lt {s : CoSt Kk} {N k : Nat} (g : Good s N) (h : N ≤ 8000) : 0 ≤ s.low + unit s k - 1 ∧ s.low + unit s k - 1 < 2 ^ 12033 := by
  have h1 := unit_le (k := k) g h
  have h2 := low_lt g h
  have h3 := unit_pos s k
  have h4 := g.lo
  have h5 := g.wlo
  have e : (2 : Int) ^ 12033 = 2 ^ 12032 * 2 := Int.pow_succ 2 12032
  rw [e]
  constructor
  · omega
  · omega
theorem ceil_lt2 {s : CoSt Kk} {N k : Nat} (g : Good s N) (h : N ≤ 8000) : ceilAt s k < 2 ^ 12033 := by
  have h1 := num_lt (k := k) g h
  have h3 := unit_pos s k
  have h4 : ceilAt s k ≤ s.low + unit s k - 1 := by
    unfold ceilAt
    exact Int.ediv_le_self _ h1.1
  exact Int.lt_of_le_of_lt h4 h1.2
theorem shl_unit {s : CoSt Kk} {k : Nat} (h : k ≤ s.count) : (1 : Int) * 2 ^ (8 * ((s.count : Int) - (k : Int))).toNat = unit s k := by
  have e : (8 * ((s.count : Int) - (k : Int))).toNat = 8 * (s.count - k) := by omega
  rw [e, pow_two8, Int.one_mul]
  rfl
section
variable {w : World} {K : PySem.W.Frag} {mg : Str → Option Value} {base : Heap}
theorem ok_figures_of (T : Tx K mg) : Dfn pr w K mg base CX0 1 "figures_of" spFigs := by
  refine mk_dfn (x_figures_of T) (g_figures_of T) sc_figures_of (fun vs H Q E h => by obtain ⟨_, _, rfl, _⟩ := h; rfl) fun cdv A outer s H vs Q E hr h => ?_
  obtain ⟨v, k, rfl, hk, kq⟩ := h
  refine ⟨_, PSs.nox (pss_cons (ps_set (i := 2) sc_figures_of.nd rfl (Or.inl rfl) (pe_lst pa_nil))
 (pss_cons (ps_for PassesOwn.never rfl (pi_range1 rfl (f_range T) (pa_cons (pv 1) pa_nil)) (pg_name (i := 3) sc_figures_of.nd rfl (Or.inl rfl))
 (pss_cons (ps_expr (pe_bm PySem.F.plainAttrs_list PySem.F.slot_list_append PySem.F.type_list_append mt_append (pv 2) (pa_cons (pe_op op_andM (pv 0) (pe_op op_sub (pe_num (n_BASE T)) pe_int)) pa_nil)))
 (pss_one (ps_set (i := 0) sc_figures_of.nd rfl (Or.inl rfl) (pe_op op_fdiv (pv 0) (pe_num (n_BASE T)))))))
 (pss_one (ps_ret (pe_callTy call_tuple_of (by rfl) (f_tuple T) (by decide +kernel) (pa_cons (pe_revL (pv 2)) pa_nil)))))), ?_⟩
  refine ⟨Nat.zero_le _,
      fun l hl => ?_⟩
  refine ⟨_, rfl, (k : Int), rfl, by omega, by omega, ?_⟩
  rw [Int.toNat_natCast]
  refine for_range (lo := 0) (n := k) (fun i σ H' => ∃ t, σ = [some (.int (v / 256 ^ i)), some (.int (k : Int)), some (.ref l), t] ∧ H' = upd H l (.lst ((lsd v i).map V.int))) ⟨none, by simp [L2.start], by simp [lsd]⟩ ?_ ?_
  · rintro i σ H' hi ⟨t, rfl, rfl⟩
    refine ⟨_, rfl, .inl ⟨rfl, _, SqL.of upd_same⟩, _, rfl, _, _, rfl, rfl, _, 8, rfl, rfl, l, _, _, rfl, rfl, upd_same, ?_, ?_⟩
    · unfold lsd
      rw [List.length_map, List.length_map, List.length_range, sizeLine_eq]
      omega
    · rw [upd_upd]
      refine ⟨_, rfl, _, _, rfl, rfl, ⟨by decide, by decide⟩, some (.int (0 + (i : Int))), ?_, ?_⟩
      · rw [← div_succ]
        rfl
      · rw [lsd_succ, List.map_append]
        rfl
  · rintro σ H' ⟨t, rfl, rfl⟩
    refine ⟨_, rfl, l, _, rfl, SqL.of upd_same, fun r hr1 => ?_⟩
    refine ⟨r, _, rfl, .inl ⟨SqL.of upd_same, fun p hp => ?_⟩⟩
    have hr0 : H r = none := by
      have n : r ≠ l := fun z => by rw [z, upd_same] at hr1; cases hr1
      rw [upd_ne n] at hr1
      exact hr1
    have hp0 : upd H l (.lst ((lsd v k).map V.int)) p = none := by
      have n : p ≠ r := fun z => by rw [z, upd_same] at hp; cases hp
      rw [upd_ne n] at hp
      exact hp
    refine kq _ p ((Same.new hl).trans ((Same.new hr1).trans (Same.new hp))) ?_
    rw [upd_same, ← List.map_reverse, lsd_rev]
theorem ok_octets_at (T : Tx K mg) (D_figures_of : Dfn pr w K mg base CX0 1 "figures_of" spFigs) : Dfn pr w K mg base CX0 2 "octets_at" spOct := by
  refine mk_dfn (x_octets_at T) (g_octets_at T) sc_octets_at (fun vs H Q E h => by obtain ⟨_, _, _, rfl, _⟩ := h; rfl) fun cdv A outer s H vs Q E hr h => ?_
  obtain ⟨p, st, N, rfl, hp, g, hN, kq⟩ := h
  refine ⟨_, PSs.nox (pss_cons (ps_asg (pv 0) (pg_tup rfl (pgs_cons (pg_name (i := 1) sc_octets_at.nd rfl (Or.inl rfl)) (pgs_cons (pg_name (i := 2) sc_octets_at.nd rfl (Or.inl rfl)) (pgs_cons (pg_name (i := 3) sc_octets_at.nd rfl (Or.inl rfl)) pgs_nil)))))
 (pss_cons (ps_set (i := 4) sc_octets_at.nd rfl (Or.inl rfl) pe_int)
 (pss_one (ps_while PassesOwn.never (pt_val pe_bl)
 (pss_cons (ps_set (i := 5) sc_octets_at.nd rfl (Or.inl rfl) (pe_op op_shl pe_int (pe_op op_mul (pe_num (n_BITS T)) (pe_op op_sub (pv 3) (pv 4)))))
 (pss_cons (ps_set (i := 6) sc_octets_at.nd rfl (Or.inl rfl) (pe_op op_fdivP (pe_op op_sub (pe_op op_add (pv 1) (pv 5)) pe_int) (pv 5)))
 (pss_cons (ps_if (pt_cmpR op_lt (pe_op op_mulW (pv 6) (pv 5)) (pe_op op_add (pv 1) (pv 2)) (nomark _))
 (pss_one (ps_ret (pe_cal D_figures_of hr (by decide) pass0 (pa_cons (pv 6) (pa_cons (pv 4) pa_nil)))))
 pss_nil)
 (pss_one (ps_aug (i := 4) sc_octets_at.nd rfl (Or.inl rfl) pe_int ip_add))))))))), ?_⟩
  refine ⟨_, rfl, p, _, rfl, SqT.of hp, rfl, _, _, rfl, _, _, rfl, _, _, rfl, rfl, ?_⟩
  have hcnt := g.count_small hN
  refine ⟨fun m σ H' => ∃ (k : Nat) (u v : Option V), σ = [some (.ref p), some (.int st.low), some (.int st.width), some (.int (st.count : Int)), some (.int (k : Int)), u, v] ∧ H' = H ∧ k ≤ st.count ∧ (∀ j, j < k → ¬ Fnd st j) ∧ m = st.count - k,
    ⟨_, 0, none, none, rfl, rfl, Nat.zero_le _, fun j hj => absurd hj (Nat.not_lt_zero _), rfl⟩, ?_⟩
  rintro m σ H' ⟨k, u, v, rfl, rfl, hk, hno, rfl⟩
  refine ⟨_, rfl, ?_⟩
  refine iteT ?_
  refine ⟨fun σ' H2 => ∃ (k2 : Nat) (u v : Option V), σ' = [some (.ref p), some (.int st.low), some (.int st.width), some (.int (st.count : Int)), some (.int (k2 : Int)), u, v] ∧ H2 = H' ∧ k2 ≤ st.count ∧ (∀ j, j < k2 → ¬ Fnd st j) ∧ k2 = k + 1,
    fun σ' H' ⟨k2, u, v, z1, z2, z3, z4, z5⟩ => ⟨st.count - k2, by omega, k2, u, v, z1, z2, z3, z4, rfl⟩, ?_⟩
  refine ⟨_, rfl, _, rfl, _, _, rfl, rfl, _, _, rfl, rfl, .inl (by decide), _, _, rfl, rfl, ⟨?_, ?_, by decide⟩, ?_⟩
  · omega
  · omega
  dsimp only
  rw [shl_unit hk]
  have hu := unit_pos st k
  have hn := num_lt (k := k) g hN
  have hn1 : (st.low + unit st k - 1).natAbs < 2 ^ 12033 := natAbs_lt_of hn.1 hn.2
  have hdiv : CDivP (st.low + unit st k - 1) (unit st k) := divP hu (Nat.lt_of_lt_of_le hn1 (Nat.pow_le_pow_right (by decide) (by decide)))
  refine ⟨_, rfl, _, rfl, _, _, rfl, rfl, _, _, rfl, rfl, _, rfl, _, _, rfl, rfl, hdiv, ?_⟩
  have hc0 := ceil_nonneg g k
  have hmul : CMulW (ceilAt st k) (unit st k) :=
    wide_mul (natAbs_lt_of hc0 (ceil_lt2 g hN)) (natAbs_lt_of (Int.le_of_lt hu) (Int.lt_of_le_of_lt (unit_le g hN) (by rw [show (2 : Int) ^ 12033 = 2 ^ 12032 * 2 from Int.pow_succ 2 12032]; have : (0 : Int) < 2 ^ 12032 := Int.pow_pos (by decide); omega))) (by decide) (by decide) (by decide)
  refine ⟨_, rfl, _, rfl, _, _, rfl, rfl, hmul, _, rfl, _, rfl, _, _, rfl, rfl, _, _, rfl, rfl, _, rfl, ?_⟩
  refine ite2 (fun hc => ?_) (fun hc => ?_)
  · have hf : Fnd st k := of_decide_eq_true (p := (st.low + unit st k - 1) / unit st k * unit st k < st.low + st.width) hc
    refine ⟨_, rfl, _, rfl, _, k, rfl, by omega, fun H2 q s2 hq => ?_⟩
    exact kq H2 q _ s2 ⟨k, hk, hf, hno, rfl⟩ (by rw [figs_length]; omega) hq
  · have hf : ¬ Fnd st k := fun z => hc (decide_eq_true (p := (st.low + unit st k - 1) / unit st k * unit st k < st.low + st.width) z)
    refine ⟨_, rfl, _, _, rfl, rfl, k + 1, _, _, rfl, rfl, ?_, ?_, rfl⟩
    · have : k ≠ st.count := fun z => hf (z ▸ fnd_count g)
      omega
    · intro j hj
      by_cases z : j = k
      · rw [z]; exact hf
      · exact hno j (by omega)
theorem ok_octets (T : Tx K mg) (D_octets_at : Dfn pr w K mg base CX0 2 "octets_at" spOct) (M_state : Mtd pr w K mg base CX0 1 "Coder" "state" (spState K)) : Mtd pr w K mg base CX0 3 "Coder" "octets" (spOctets K) := by
  refine mk_mtd (x_Coder_octets T) (c_Coder T) (m_Coder_octets T) sc_Coder_octets (fun vs H Q E h => by obtain ⟨_, _, _, _, _, rfl, _⟩ := h; rfl) fun cdv A outer s H vs Q E hr h => ?_
  obtain ⟨c, iv, d, st, N, rfl, ca, g, hN, kq⟩ := h
  obtain ⟨⟨dc, hc⟩, ia⟩ := id ca
  refine ⟨_, PSs.nox (pss_one (ps_ret (pe_cal D_octets_at hr (by decide) pass0 (pa_cons (pe_mtd0 M_state hr (by decide) pass0 (pv 0)) pa_nil)))), ?_⟩
  refine ⟨_, rfl, c, dc, _, rfl, hc, rfl, c, iv, d, st, rfl, ca, fun p hp => ?_⟩
  exact ⟨p, st, N, rfl, upd_same, g, hN, fun H2 q l s2 => kq H2 q l ((Same.new hp).trans s2)⟩
end
end Bo

/-! The program's numbers, put bit by bit. -/
namespace Bo
open PySem PySem.Spec L2 PyProof.Rows
section
variable {K : PySem.W.Frag} {H H' : Hp} {c iv d : Addr} {s : CoSt Kk}
theorem IvAt.same (h : IvAt K H iv d s) (a : Same H H') : IvAt K H' iv d s := ⟨⟨h.1.choose, a _ _ h.1.choose_spec⟩, a _ _ h.2⟩
theorem CoAt.same (h : CoAt K H c iv d s) (a : Same H H') : CoAt K H' c iv d s := ⟨⟨h.1.choose, a _ _ h.1.choose_spec⟩, h.2.same a⟩
theorem put_do {p : Addr} {k : Kk} {b : Int} {N : Nat} {Q : VK} {E : XK} (ca : CoAt K H c iv d s) (g : Good s N) (hN : N ≤ 100000) (hp : H p = none) (hq : ∀ H', CoAt K H' c iv d (put s k b) → Upto [iv, d] H H' → Q .non H') :
    spPut K [.ref c, .ref p, .int b] (upd H p (.tup (k.map kV))) Q E := by
  unfold spPut
  exact ⟨c, iv, d, p, s, k, b, N, rfl, ca.same (Same.new hp), upd_same, g, hN, fun H' c' u => hq H' c' ((Upto.new hp).trans u)⟩
end
theorem run_one (s : CoSt Kk) (e : Kk × Int) : run s [e] = put s e.1 e.2 := rfl
@[irreducible] def spPutNum (K : PySem.W.Frag) : Sp := fun vs H Q _ => ∃ (c iv d : Addr) (s : CoSt Kk) (wd : Str) (v : Int) (N : Nat), vs = [.ref c, .str wd, .int v] ∧ CoAt K H c iv d s ∧ Good s N ∧ N + (evNum wd v).length ≤ 100000 ∧ 0 ≤ v ∧ v < 65535 ∧
  ∀ H', CoAt K H' c iv d (run s (evNum wd v)) → Upto [iv, d] H H' → Q .non H'
@[irreducible] def spPutSig (K : PySem.W.Frag) : Sp := fun vs H Q _ => ∃ (c iv d : Addr) (s : CoSt Kk) (wd : Str) (v : Int) (N : Nat), vs = [.ref c, .str wd, .int v] ∧ CoAt K H c iv d s ∧ Good s N ∧ N + (evNum wd (fold v)).length ≤ 100000 ∧ -32767 ≤ v ∧ v ≤ 32767 ∧
  ∀ H', CoAt K H' c iv d (run s (evNum wd (fold v))) → Upto [iv, d] H H' → Q .non H'
theorem evNum_pre (wd : Str) (v : Int) (i : Nat) (h : i ≤ fg v - 1) : ((List.range i).map (evA wd)).length ≤ (evNum wd v).length := by
  unfold evNum
  rw [List.length_append, List.length_map, List.length_map, List.length_range, List.length_range]
  omega
theorem map_range_succ {α : Type} (f : Nat → α) (i : Nat) : (List.range (i + 1)).map f = (List.range i).map f ++ [f i] := by
  rw [List.range_succ, List.map_append]
  rfl
section
variable {w : World} {K : PySem.W.Frag} {mg : Str → Option Value} {base : Heap}
theorem ok_put_number (T : Tx K mg) (D_figures_in : Dfn pr w K mg base CX0 1 "figures_in" spFig) (M_put : Mtd pr w K mg base CX0 3 "Coder" "put" (spPut K)) : Dfn pr w K mg base CX0 4 "put_number" (spPutNum K) := by
  refine mk_dfn (x_put_number T) (g_put_number T) sc_put_number (fun vs H Q E h => by unfold spPutNum at h; obtain ⟨_, _, _, _, _, _, _, rfl, _⟩ := h; rfl) fun cdv A outer s H vs Q E hr h => ?_
  unfold spPutNum at h
  obtain ⟨c, iv, d, st, wd, v, N, rfl, ca, g, hN, hv0, hv1, kq⟩ := h
  refine ⟨_, PSs.nox (pss_cons (ps_set (i := 3) sc_put_number.nd rfl (Or.inl rfl) (pe_cal D_figures_in hr (by decide) pass0 (pa_cons (pe_op op_add (pv 2) pe_int) pa_nil)))
 (pss_cons (ps_for PassesOwn.never rfl (pi_range1 rfl (f_range T) (pa_cons (pe_op op_sub (pv 3) pe_int) pa_nil)) (pg_name (i := 4) sc_put_number.nd rfl (Or.inl rfl))
 (pss_one (ps_expr (pe_mtd M_put hr (by decide) pass0 (pv 0) (pa_cons (pe_tup (pa_cons (pv 1) (pa_cons pe_int (pa_cons (pv 4) pa_nil)))) (pa_cons pe_int pa_nil))))))
 (pss_cons (ps_if (pt_cmpR op_lt (pv 3) (pe_num (n_MOST_FIGURES T)) (nomark _))
 (pss_one (ps_expr (pe_mtd M_put hr (by decide) pass0 (pv 0) (pa_cons (pe_tup (pa_cons (pv 1) (pa_cons pe_int (pa_cons (pe_op op_sub (pv 3) pe_int) pa_nil)))) (pa_cons pe_int pa_nil)))))
 pss_nil)
 (pss_one (ps_for PassesOwn.never rfl (pi_range3 rfl (f_range T) (pa_cons (pe_op op_sub (pv 3) pe_int) (pa_cons (pe_un un_neg pe_int) (pa_cons (pe_un un_neg pe_int) pa_nil)))) (pg_name (i := 5) sc_put_number.nd rfl (Or.inl rfl))
 (pss_one (ps_expr (pe_mtd M_put hr (by decide) pass0 (pv 0) (pa_cons (pe_tup (pa_cons (pv 1) (pa_cons pe_int (pa_cons (pv 5) pa_nil)))) (pa_cons (pe_op op_andM (pe_op op_shrN (pe_op op_add (pv 2) pe_int) (pv 5)) pe_int) pa_nil)))))))))), ?_⟩
  have hfg1 : 1 ≤ fg v := fg_pos hv0
  have hfg2 : fg v ≤ 16 := fg_le (by omega)
  have hlen := evNum_len wd v
  have eN : (v + 1) = (((v + 1).toNat : Nat) : Int) := (Int.toNat_of_nonneg (by omega)).symm
  refine ⟨_, rfl, _, _, rfl, rfl, (v + 1).toNat, congrArg (fun z => [V.int z]) eN, ?_⟩
  refine ⟨_, rfl, _, _, rfl, rfl, ((fg v : Nat) : Int) - 1, rfl, by omega, by omega, ?_⟩
  refine for_range (lo := 0) (n := (((fg v : Nat) : Int) - 1).toNat) (fun i σ H' => ∃ a b, σ = [some (.ref c), some (.str wd), some (.int v), some (.int ((fg v : Nat) : Int)), a, b] ∧ CoAt K H' c iv d (run st ((List.range i).map (evA wd))) ∧ Upto [iv, d] H H') ⟨none, none, rfl, ca, .refl⟩ ?_ ?_
  · rintro i σ H1 hi ⟨a, b, rfl, c1, u1⟩
    have hi2 : i < fg v - 1 := by omega
    obtain ⟨dc, hc⟩ := c1.1
    refine ⟨_, rfl, c, dc, _, rfl, hc, rfl, _, rfl, _, rfl, (by show 3 ≤ sizeLine; decide), fun p hp => ?_⟩
    have g1 := run_good (N := N) (l := (List.range i).map (evA wd)) g
    show spPut K [.ref c, .ref p, .int 1] (upd H1 p (.tup ((k3 wd 0 (0 + (i : Int))).map kV))) _ E0
    refine put_do c1 g1 ?_ hp fun H2 c2 u2 => ⟨_, _, rfl, ?_, u1.trans u2⟩
    · rw [List.length_map,
          List.length_range]
      have := evNum_pre wd v i (by omega)
      rw [List.length_map, List.length_range] at this
      omega
    · rw [map_range_succ, run_append, run_one]
      rw [Int.zero_add] at c2
      exact c2
  · rintro σ H1 ⟨a, b, rfl, c1, u1⟩
    have eA : (((fg v : Nat) : Int) - 1).toNat = fg v - 1 := by omega
    rw [eA] at c1
    have gA := run_good (N := N) (l := (List.range (fg v - 1)).map (evA wd)) g
    have lA : ((List.range (fg v - 1)).map (evA wd)).length = fg v - 1 := by rw [List.length_map, List.length_range]
    -- behind the middle bit
    have rest : ∀ H2, CoAt K H2 c iv d (run st ((List.range (fg v - 1)).map (evA wd) ++ evB wd v)) → Upto [iv, d] H H2 →
        tFor (iRng3 (tCons (tOp (rI0 fun i j => V.int (i - j)) (tVar 3) (tC (V.int 2))) (tCons (tUn (rU fun i => V.int (-i)) (tC (V.int 1))) (tCons (tUn (rU fun i => V.int (-i)) (tC (V.int 1))) tNil)))) (gName 5)
          (tDrop (tMeth (He.ga K "Coder") "put" (spPut K) [] E0 (tVar 0) (tCons (tTup (tCons (tVar 1) (tCons (tC (V.int 1)) (tCons (tVar 5) tNil))))
            (tCons (tOp (fun x y H Q => ∃ (i : Int) (k : Nat), x = V.int i ∧ y = V.int (2 ^ k - 1) ∧ Q (V.int (i % 2 ^ k)) H) (tOp (fun x y H Q => ∃ (i : Int) (k : Nat), x = V.int i ∧ y = V.int (k : Int) ∧ Q (V.int (i / 2 ^ k)) H) (tOp (rI0 fun i j => V.int (i + j)) (tVar 2) (tC (V.int 1))) (tVar 5)) (tC (V.int 1))) tNil))))
          { nx := fun _ H' => Q V.non H', rt := Q } [some (.ref c), some (.str wd), some (.int v), some (.int ((fg v : Nat) : Int)), a, b] H2 := by
      intro H2 c2 u2
      refine ⟨_, rfl, _, _, rfl, rfl, _, rfl, _, rfl, ((fg v : Nat) : Int) - 2, -1, -1, _, rfl, RgC.neg (by omega) (by omega) (by decide) (by decide), ?_⟩
      have gB := run_good (N := N) (l := (List.range (fg v - 1)).map (evA wd) ++ evB wd v) g
      have lB := evB_len wd v
      refine for_rangeC (lo := ((fg v : Nat) : Int) - 2) (c := -1) (n := (((fg v : Nat) : Int) - 2 - -1).toNat) (fun i σ H' => ∃ a b, σ = [some (.ref c), some (.str wd), some (.int v), some (.int ((fg v : Nat) : Int)), a, b] ∧
        CoAt K H' c iv d (run st ((List.range (fg v - 1)).map (evA wd) ++ (evB wd v ++ (List.range i).map (evC wd v)))) ∧ Upto [iv, d] H H') ⟨a, b, rfl, ?_, u2⟩ ?_ ?_
      · rw [List.range_zero, List.map_nil, List.append_nil]
        exact c2
      · rintro i σ H3 hi ⟨a3, b3, rfl, c3, u3⟩
        have hi2 : i < fg v - 1 := by omega
        obtain ⟨dc, hc⟩ := c3.1
        have ej : ((fg v : Nat) : Int) - 2 + (i : Nat) * -1 = ((fg v : Nat) : Int) - 2 - (i : Int) := by omega
        have en : ((fg v : Nat) : Int) - 2 - (i : Int) = ((fg v - 2 - i : Nat) : Int) := by omega
        rw [ej]
        refine ⟨_, rfl, c, dc, _, rfl, hc, rfl, _, rfl, _, rfl, (by show 3 ≤ sizeLine; decide), fun p hp => ?_⟩
        refine ⟨_, rfl, _, _, rfl, rfl, _, rfl, _, fg v - 2 - i, rfl, congrArg V.int en, _, 1, rfl, rfl, ?_⟩
        have g3 := run_good (N := N) (l := (List.range (fg v - 1)).map (evA wd) ++ (evB wd v ++ (List.range i).map (evC wd v))) g
        show spPut K [.ref c, .ref p, .int ((v + 1) / 2 ^ (fg v - 2 - i) % 2)] (upd H3 p (.tup ((k3 wd 1 (((fg v : Nat) : Int) - 2 - (i : Int))).map kV))) _ E0
        refine put_do c3 g3 ?_ hp fun H4 c4 u4 => ⟨_, _, rfl, ?_, u3.trans u4⟩
        · rw [List.length_append, List.length_append, lA, List.length_map, List.length_range]
          have e5 : (evNum wd v).length = (fg v - 1) + ((evB wd v).length + (fg v - 1)) := by
            unfold evNum
            rw [List.length_append, List.length_append, lA, List.length_map, List.length_range]
          omega
        · rw [map_range_succ, ← List.append_assoc (evB wd v), ← List.append_assoc, run_append, run_one]
          exact c4
      · rintro σ H3 ⟨a3, b3, rfl, c3, u3⟩
        have en : (((fg v : Nat) : Int) - 2 - -1).toNat = fg v - 1 := by omega
        rw [en] at c3
        exact kq H3 c3 u3
    refine ⟨_, rfl, ⟨_, _, rfl, rfl, _, rfl, ?_⟩⟩
    refine ite2 (fun hc => ?_) (fun hc => ?_)
    · have h16 : fg v < 16 := by
        have := of_decide_eq_true hc
        omega
      have eB : evB wd v = [(k3 wd 0 ((fg v : Int) - 1), 0)] := if_pos h16
      obtain ⟨dc, hc1⟩ := c1.1
      refine ⟨_, rfl, c, dc, _, rfl, hc1, rfl, _, rfl, _, rfl, _, _, rfl, rfl, (by show 3 ≤ sizeLine; decide), fun p hp => ?_⟩
      show spPut K [.ref c, .ref p, .int 0] (upd H1 p (.tup ((k3 wd 0 ((fg v : Int) - 1)).map kV))) _ E0
      refine put_do c1 gA ?_ hp fun H2 c2 u2 => ?_
      · rw [lA]
        have := evNum_pre wd v (fg v - 1) (Nat.le_refl _)
        rw [lA] at this
        omega
      · refine rest H2 ?_ (u1.trans u2)
        rw [run_append, eB, run_one]
        exact c2
    · have h16 : ¬ fg v < 16 := fun z => hc (decide_eq_true (by omega))
      have eB : evB wd v = [] := if_neg h16
      refine rest H1 ?_ u1
      rw [eB, List.append_nil]
      exact c1
theorem putNum_do {K : PySem.W.Frag} {H : Hp} {c iv d : Addr} {s : CoSt Kk} {wd : Str} {v : Int} {N : Nat} {Q : VK} {E : XK} (ca : CoAt K H c iv d s) (g : Good s N) (hN : N + (evNum wd v).length ≤ 100000) (h0 : 0 ≤ v) (h1 : v < 65535)
    (hq : ∀ H', CoAt K H' c iv d (run s (evNum wd v)) → Upto [iv, d] H H' → Q .non H') : spPutNum K [.ref c, .str wd, .int v] H Q E := by
  unfold spPutNum
  exact ⟨c, iv, d, s, wd, v, N, rfl, ca, g, hN, h0, h1, hq⟩
theorem putSig_do {K : PySem.W.Frag} {H : Hp} {c iv d : Addr} {s : CoSt Kk} {wd : Str} {v : Int} {N : Nat} {Q : VK} {E : XK} (ca : CoAt K H c iv d s) (g : Good s N) (hN : N + (evNum wd (fold v)).length ≤ 100000) (h0 : -32767 ≤ v) (h1 : v ≤ 32767)
    (hq : ∀ H', CoAt K H' c iv d (run s (evNum wd (fold v))) → Upto [iv, d] H H' → Q .non H') : spPutSig K [.ref c, .str wd, .int v] H Q E := by
  unfold spPutSig
  exact ⟨c, iv, d, s, wd, v, N, rfl, ca, g, hN, h0, h1, hq⟩
theorem ok_put_signed (T : Tx K mg) (D_put_number : Dfn pr w K mg base CX0 4 "put_number" (spPutNum K)) (D_folded : Dfn pr w K mg base CX0 1 "folded" spFold) : Dfn pr w K mg base CX0 5 "put_signed" (spPutSig K) := by
  refine mk_dfn (x_put_signed T) (g_put_signed T) sc_put_signed (fun vs H Q E h => by unfold spPutSig at h; obtain ⟨_, _, _, _, _, _, _, rfl, _⟩ := h; rfl) fun cdv A outer s H vs Q E hr h => ?_
  unfold spPutSig at h
  obtain ⟨c, iv, d, st, wd, v, N, rfl, ca, g, hN, hv0, hv1, kq⟩ := h
  refine ⟨_, PSs.nox (pss_one (ps_expr (pe_cal D_put_number hr (by decide) pass0 (pa_cons (pv 0) (pa_cons (pv 1) (pa_cons (pe_cal D_folded hr (by decide) pass0 (pa_cons (pv 2) pa_nil)) pa_nil)))))), ?_⟩
  have f0 := fold_nonneg v
  have f1 := fold_le (b := 32767) (by omega) hv1
  exact ⟨_, rfl, _, rfl, _, rfl, v, rfl, putNum_do ca g hN f0 (by omega) kq⟩
end
end Bo

/-! The program's checks of trees. -/
namespace Bo
open PySem PySem.Spec L2 PyProof.Rows
section
variable {K : PySem.W.Frag} {H : Hp}
theorem dp_tup {v : V} {d : PyData} (h : Dp K H v d) (e : isD "tuple" d = true) : ∃ a xs ds, v = .ref a ∧ d = .tuple ds ∧ SqT K H a xs ∧ DpAll K H xs ds := by
  cases h with
  | tup h1 h2 => exact ⟨_, _, _, rfl, rfl, h1, h2⟩
  | non => cases e
  | bl b => cases e
  | int i => cases e
  | str x => cases e
  | lst _ _ => cases e
theorem dp_str {v : V} {d : PyData} (h : Dp K H v d) (e : isD "str" d = true) : ∃ s, v = .str s ∧ d = .str s := by
  cases h with
  | str x => exact ⟨_, rfl, rfl⟩
  | non => cases e
  | bl b => cases e
  | int i => cases e
  | tup _ _ => cases e
  | lst _ _ => cases e
def intB : PyData → Bool
  | .int _ => true
  | _ => false
theorem intB_eq (d : PyData) : (if isD "int" d = true then !isD "bool" d else false) = intB d := by cases d <;> rfl
theorem dp_int {v : V} {d : PyData} (h : Dp K H v d) (e : intB d = true) : ∃ i, v = .int i ∧ d = .int i := by
  cases h with
  | int i => exact ⟨_, rfl, rfl⟩
  | non => cases e
  | bl b => cases e
  | str x => cases e
  | tup _ _ => cases e
  | lst _ _ => cases e
theorem within_no {a b : Int} {d : PyData} (h : intB d = false) : within a b d = false := by cases d <;> first | rfl | cases h
end
/-- [f(x) for x in t]: the answers of t's items -/
theorem lcT_bools {K : PySem.W.Frag} {a : Addr} {xs : List V} {ds : List PyData} {f : PyData → Bool} {i : Nat} {te : TE} {vs : List Nat} {σ : L2.St} {H1 : Hp} {D : Addr} {Qd : Hp → Prop} (hD : H1 D = none) (hx : SqT K H1 a xs) (hd : DpAll K H1 xs ds) (hlen : ds.length ≤ sizeLine)
    (he : ∀ x d H', Same H1 H' → Dp K H' x d → ∀ Q : VK, (∀ H'', Same H' H'' → Q (.bl (f d)) H'') → te ((wipe σ vs).set i (some x)) H' Q) (hw : ∀ x, wipe ((wipe σ vs).set i (some x)) vs = wipe σ vs)
    (hq : ∀ H', Same H1 H' → H' D = some (.lst (ds.map fun d => V.bl (f d))) → Qd H') :
    ∃ W : Nat → Nat → Hp → Prop, (∃ m, W 0 m (upd H1 D (.lst []))) ∧ ∀ i' m H, W i' m H →
      ((Itt K a).stop i' H ∧ Qd H) ∨ ((Itt K a).go i' H ∧ ∃ Nx : Hp → Prop, (∀ H', Nx H' → ∃ m', m' < m ∧ W (i' + 1) m' H') ∧ ∀ x H', (Itt K a).yld i' H x H' → gName i x (wipe σ vs) H' fun σ2 H2 => wipe σ2 vs = wipe σ vs ∧ tYes σ2 H2 fun b H3 =>
        if b = true then te σ2 H3 fun y H4 => ∃ acc, H4 D = some (.lst
            acc) ∧ acc.length < sizeLine ∧ Nx (upd H4 D (.lst (acc ++ [y]))) else Nx H3) := by
  have hl := dpAll_length hd
  refine lc_tup (xs := xs) (fun j H' => H' D = some (.lst ((ds.take j).map fun d => V.bl (f d))) ∧ Same H1 H') ⟨by rw [upd_same]; rfl, Same.new hD⟩ (fun j H' _ h => Same.sqT h.2 hx) ?_ ?_
  · rintro j x H' hj ⟨h1, h2⟩
    obtain ⟨d, hdj, dp⟩ := dpAll_get hd hj
    have hjl : j < ds.length := (List.getElem?_eq_some_iff.mp hdj).1
    refine ⟨hw x, ?_⟩
    unfold tYes
    dsimp only
    rw [if_pos rfl]
    refine he x d H' h2 (dp_same h2 _ _ dp) _ fun H'' s2 => ⟨_, s2 _ _ h1, ?_, ?_, ?_⟩
    · rw [List.length_map,
          List.length_take]
      omega
    · rw [upd_same, List.take_succ, hdj, List.map_append]
      rfl
    · intro b o e
      rw [upd_ne (ne_of_none e hD)]
      exact s2 _ _ (h2 _ _ e)
  · rintro H' ⟨h1, h2⟩
    refine hq H' h2 ?_
    rw [h1, hl, List.take_length]
def spIsInt (K : PySem.W.Frag) : Sp := fun vs H Q _ => ∃ v d, vs = [v] ∧ Dp K H v d ∧ Q (.bl (intB d)) H
def spWithin (K : PySem.W.Frag) : Sp := fun vs H Q _ => ∃ v d a b, vs = [v, .int a, .int b] ∧ Dp K H v d ∧ Q (.bl (within a b d)) H
def spLv (K : PySem.W.Frag) : Sp := fun vs H Q _ => ∃ v d, ∃ n : Nat, vs = [v, .int n] ∧ n ≤ 8 ∧ Dp K H v d ∧ ∀ H', Same H H' → Q (.bl (lvB n d)) H'
section
variable {w : World} {K : PySem.W.Frag} {mg : Str → Option Value} {base : Heap}
theorem ok_is_integer (T : Tx K mg) : Dfn pr w K mg base CX0 1 "is_integer" (spIsInt K) := by
  refine mk_dfn (x_is_integer T) (g_is_integer T) sc_is_integer (fun vs H Q E h => by obtain ⟨_, _, rfl, _⟩ := h; rfl) fun cdv A outer s H vs Q E hr h => ?_
  obtain ⟨v, d, rfl, hd, k⟩ := h
  refine ⟨_, PSs.nox (pss_one (ps_ret (pe_and (pe_callB call_isiD (by rfl) (f_isinstance T) (by decide +kernel) (pa_cons (pv 0) (pa_cons (pe_bltn (v := .ty "int") (by rfl) (f_int T) (by decide +kernel) rfl) pa_nil))) (pe_one (pe_not (pe_callB call_isiD (by rfl) (f_isinstance T) (by decide +kernel) (pa_cons (pv 0) (pa_cons (pe_bltn (v := .ty "bool") (by rfl) (f_bool T) (by decide +kernel) rfl) pa_nil)))))))), ?_⟩
  rw [← intB_eq] at k
  refine ⟨_, rfl, _, d, "int", rfl, by simp, hd, _, rfl, ?_⟩
  refine ite2 (fun hc => ?_) (fun hc => ?_)
  · rw [if_pos hc] at k
    exact ⟨_, rfl, _, d, "bool", rfl, by simp, hd, _, rfl, k⟩
  · rw [if_neg hc] at k
    exact k
theorem ok_is_within (T : Tx K mg) (D_is_integer : Dfn pr w K mg base CX0 1 "is_integer" (spIsInt K)) : Dfn pr w K mg base CX0 2 "is_within" (spWithin K) := by
  refine mk_dfn (x_is_within T) (g_is_within T) sc_is_within (fun vs H Q E h => by obtain ⟨_, _, _, _, rfl, _⟩ := h; rfl) fun cdv A outer s H vs Q E hr h => ?_
  obtain ⟨v, d, a, b, rfl, hd, k⟩ := h
  refine ⟨_, PSs.nox (pss_one (ps_ret (pe_and (pe_cal D_is_integer hr (by decide) pass0 (pa_cons (pv 0) pa_nil)) (pe_one (pe_chain op_le op_le (pv 1) (pv 0) (pv 2)))))), ?_⟩
  refine ⟨_, rfl, v, d, rfl, hd, _, rfl, ?_⟩
  refine ite2 (fun hc => ?_) (fun hc => ?_)
  · obtain ⟨i, rfl, rfl⟩ := dp_int hd hc
    refine ⟨_, rfl, ⟨_, rfl, _, _, rfl, rfl, _, rfl, ?_⟩⟩
    have e : within a b (.int i) = (decide (a ≤ i) && decide (i ≤ b)) := rfl
    rw [e] at k
    refine ite2 (fun hc => ?_) (fun hc => ?_)
    · rw [hc, Bool.true_and] at k
      exact ⟨_, rfl, _, _, rfl, rfl, k⟩
    · rw [Bool.eq_false_iff.mpr hc, Bool.false_and] at k
      exact k
  · rw [within_no (Bool.eq_false_iff.mpr hc)] at k
    exact k
theorem ok_is_levels (T : Tx K mg) (D_is_within : Dfn pr w K mg base CX0 2 "is_within" (spWithin K)) : Dfn pr w K mg base CX0 3 "is_levels" (spLv K) := by
  refine mk_dfn (x_is_levels T) (g_is_levels T) sc_is_levels (fun vs H Q E h => by obtain ⟨_, _, _, rfl, _⟩ := h; rfl) fun cdv A outer s H vs Q E hr h => ?_
  obtain ⟨v, d, n, rfl, hn, hd, k⟩ := h
  refine ⟨_, PSs.nox (pss_cons (ps_if (PW.pt (pw_or (pt_not (pt_val (pe_callB call_isiD (by rfl) (f_isinstance T) (by decide +kernel) (pa_cons (pv 0) (pa_cons (pe_bltn (v := .ty "tuple") (by rfl) (f_tuple T) (by decide +kernel) rfl) pa_nil))))) (pw_or1 (pt_cmpR op_ne (pe_callB call_len_seq (by rfl) (f_len T) PySem.boot_len (pa_cons (pv 0) pa_nil)) (pv 1) (nomark _)))))
 (pss_one (ps_ret pe_bl))
 pss_nil)
 (pss_cons (ps_for PassesOwn.never rfl (pi_tup (pv 0)) (pg_name (i := 2) sc_is_levels.nd rfl (Or.inl rfl))
 (pss_cons (ps_if (PW.pt (pw_or (pt_not (pt_val (pe_callB call_isiD (by rfl) (f_isinstance T) (by decide +kernel) (pa_cons (pv 2) (pa_cons (pe_bltn (v := .ty "tuple") (by rfl) (f_tuple T) (by decide +kernel) rfl) pa_nil))))) (pw_or1 (pt_cmpR op_ne (pe_callB call_len_seq (by rfl) (f_len T) PySem.boot_len (pa_cons (pv 2) pa_nil)) (pv 1) (nomark _)))))
 (pss_one (ps_ret pe_bl))
 pss_nil)
 (pss_one (ps_if (pt_not (pt_val (pe_callB (cr_all rfl) (by rfl) (f_all T) (by decide +kernel) (pa_cons (pe_lc (own := [("one", 3)]) (g := gName 3) (tt := tYes) rfl sc_is_levels.nd (pi_tup (pv 2)) (blkOk_by (N := ["value", "n", "row", "one"]) (sc := (defScope s_is_levels)) (by decide +kernel)) (fun _ _ _ _ _ => pg_name (i := 3) sc_is_levels.nd rfl (Or.inl rfl)) (fun _ _ _ _ _ => pts_nil) (fun _ _ _ _ _ => (pe_cal D_is_within hr (by decide) pass0 (pa_cons (pv 3) (pa_cons (pe_un un_neg (pe_num (n_GREATEST_LEVEL T))) (pa_cons (pe_num (n_GREATEST_LEVEL T)) pa_nil)))))) pa_nil))))
 (pss_one (ps_ret pe_bl))
 pss_nil))))
 (pss_one (ps_ret
     pe_bl)))), ?_⟩
  refine ⟨_, rfl, v, d, "tuple", rfl, by simp, hd, _, rfl, ?_⟩
  by_cases hc : isD "tuple" d = true
  · rw [hc]
    obtain ⟨a, xs, ds, rfl, rfl, hx, hxs⟩ := dp_tup hd hc
    refine iteF ⟨_, rfl, a, xs, rfl, .inr hx, _, rfl, rfl, _, rfl, ?_⟩
    have hl := dpAll_length hxs
    have e : lvB n (.tuple ds) = (ds.length == n && ds.all (rowB n)) := rfl
    rw [e] at k
    refine ite2 (fun h1 => ?_) (fun h1 => ?_)
    · have h2 : ¬ ds.length = n := fun z => by rw [hl, z] at h1; simp at h1
      rw [beq_false_of_ne h2, Bool.false_and] at k
      exact k H (fun _ _ e => e)
    · have h2 : ds.length = n := by
        have : ¬ ¬ (V.int (xs.length : Int) = V.int (n : Int)) := by simpa using h1
        have h3 := Classical.not_not.mp this
        injection h3 with h3
        omega
      rw [h2, beq_self_eq_true, Bool.true_and] at k
      refine ⟨_, rfl, a, rfl, ⟨xs, hx⟩, ?_⟩
      refine for_tup (xs := xs) (fun i σ H' => ∃ r o, σ = [some (.ref a), some (.int (n : Int)), r, o] ∧ Same H H' ∧ (ds.take i).all (rowB n) = true) ⟨none, none, rfl, fun _ _ e => e, by simp⟩ (fun i σ H' _ h => ?_) ?_ ?_
      · obtain ⟨_, _, _, s1, _⟩ := h
        exact Same.sqT s1 hx
      · rintro i x σ H' hi ⟨r, o, rfl, s1, hall⟩
        obtain ⟨dx, hdx, dpx⟩ := dpAll_get hxs hi
        have dpx := dp_same s1 _ _ dpx
        have take_ : (ds.take (i + 1)).all (rowB n) = rowB n dx := by
          rw [List.take_succ, List.all_append, hall, hdx]
          simp
        have out : rowB n dx = false → ∀ H2, Same H' H2 → Q (.bl false) H2 := fun z H2 s2 => by
          have : ds.all (rowB n) = false := by
            rw [List.all_eq_false]
            exact ⟨dx, List.mem_of_getElem? hdx, by rw [z]; simp⟩
          rw [this] at k
          exact k H2 (s1.trans s2)
        refine ⟨_, rfl, x, dx, "tuple", rfl, by simp, dpx, _, rfl, ?_⟩
        by_cases hc : isD "tuple" dx = true
        · rw [hc]
          obtain ⟨b, ys, es, rfl, rfl, hy, hys⟩ := dp_tup dpx hc
          have hly := dpAll_length hys
          have er : rowB n (.tuple es) = (es.length == n && es.all (within (-2000) 2000)) := rfl
          refine iteF ⟨_, rfl, b, ys, rfl, .inr hy, _, rfl, rfl, _, rfl, ?_⟩
          refine ite2 (fun h1 => ?_) (fun h1 => ?_)
          · have h2 : ¬ es.length = n := fun z => by rw [hly, z] at h1; simp at h1
            rw [beq_false_of_ne h2, Bool.false_and] at er
            exact out er H' (fun _ _ e => e)
          · have h2 : es.length = n := by
              have : ¬ ¬ (V.int (ys.length : Int) = V.int (n : Int)) := by simpa using h1
              have h3 := Classical.not_not.mp this
              injection h3 with h3
              omega
            rw [h2, beq_self_eq_true, Bool.true_and] at er
            refine ⟨_, rfl, b, rfl, ⟨ys, hy⟩, fun D hD => ?_⟩
            refine lcT_bools (f := within (-2000) 2000) hD hy hys (by rw [h2, sizeLine_eq]; omega) (fun x d H2 s2 dp Q hq => ?_) (fun _ => rfl) fun H2 s2 hD2 => ?_
            · exact ⟨_, rfl, _, rfl, x, d, -2000, 2000, rfl, dp, hq H2 (fun _ _ e => e)⟩
            · refine ⟨D, es.map (within (-2000) 2000), rfl, SqL.of (by rw [hD2, List.map_map]; rfl), _, rfl, ?_⟩
              have ea : (es.map (within (-2000) 2000)).all id = es.all (within (-2000) 2000) := by rw [List.all_map]; rfl
              rw [ea]
              refine ite2 (fun h3 => ?_) (fun h3 => ?_)
              · refine out ?_ H2 s2
                rw [er]
                simpa using h3
              · refine ⟨_, _, rfl, s1.trans s2, ?_⟩
                rw [take_, er]
                simpa using h3
        · rw [Bool.eq_false_iff.mpr hc]
          refine iteT (out ?_ H' (fun _ _ e => e))
          cases dx <;> first | rfl | exact absurd rfl hc
      · rintro σ H' ⟨r, o, rfl, s1, hall⟩
        rw [hl, List.take_length] at hall
        rw [hall] at k
        exact k H' s1
  · rw [Bool.eq_false_iff.mpr hc]
    have e : lvB n d = false := by cases d <;> first | rfl | exact absurd rfl hc
    rw [e] at k
    exact iteT (k H (fun _ _ e => e))
end
end Bo

/-! The program's checks of trees: leaves, trees, bands. -/
namespace Bo
open PySem PySem.Spec L2 PyProof.Rows
theorem ff_tt (b : Bool) : b = false ∨ b = true := by cases b <;> simp
theorem inV_strs (s : Str) (ms : List Str) : inV (.str s) (ms.map V.str) = decide (s ∈ ms) := by
  unfold inV
  rw [Bool.eq_iff_iff, List.any_map, List.any_eq_true, decide_eq_true_eq]
  constructor
  · rintro ⟨y, hy, e⟩
    have e2 : (y == s) = true := e
    rw [← eq_of_beq e2]
    exact hy
  · intro h
    exact ⟨s, h, (beq_self_eq_true s : (s == s) = true)⟩
theorem inV_ints (i : Int) (ms : List Int) : inV (.int i) (ms.map V.int) = decide (i ∈ ms) := by
  unfold inV
  rw [Bool.eq_iff_iff, List.any_map, List.any_eq_true, decide_eq_true_eq]
  constructor
  · rintro ⟨y, hy, e⟩
    have e2 : (y == i) = true := e
    rw [← eq_of_beq e2]
    exact hy
  · intro h
    exact ⟨i, h, (beq_self_eq_true i : (i == i) = true)⟩
theorem flat_strs (ms : List Str) : (ms.map V.str).all flatV = true := by
  rw [List.all_map]
  exact List.all_eq_true.mpr
    fun _ _ => rfl
theorem flat_ints (ms : List Int) : (ms.map V.int).all flatV = true := by
  rw [List.all_map]
  exact List.all_eq_true.mpr
    fun _ _ => rfl
theorem modesT {K : PySem.W.Frag} {mg : Str → Option Value} (T : Tx K mg) (H : Hp) : SqT K H (He.ga K "MODES") (modes.map V.str) := t_MODES T H
theorem facsT {K : PySem.W.Frag} {mg : Str → Option Value} (T : Tx K mg) (H : Hp) : SqT K H (He.ga K "FACTORS") (facs.map V.int) := t_FACTORS T H
theorem leafB_len {n : Nat} {ds : List PyData} (h : ds.length ≠ 7) : leafB n ds = false := by
  unfold leafB
  split
  · simp at h
  · rfl
theorem seven {α : Type} {l : List α} (h : l.length = 7) : ∃ a0 a1 a2 a3 a4 a5 a6, l = [a0, a1, a2, a3, a4, a5, a6] := by
  match l, h with
  | [a0, a1, a2, a3, a4, a5, a6], _ => exact ⟨a0, a1, a2, a3, a4, a5, a6, rfl⟩
theorem dpAll7 {K : PySem.W.Frag} {H : Hp} {xs : List V} {a0 a1 a2 a3 a4 a5 a6 : PyData} (h : DpAll K H xs [a0, a1, a2, a3, a4, a5, a6]) :
    ∃ v0 v1 v2 v3 v4 v5 v6, xs = [v0, v1, v2, v3, v4, v5, v6] ∧ Dp K H v0 a0 ∧ Dp K H v1 a1 ∧ Dp K H v2 a2 ∧ Dp K H v3 a3 ∧ Dp K H v4 a4 ∧ Dp K H v5 a5 ∧ Dp K H v6 a6 := by
  match xs, h with
  | _, .cons h0 (.cons h1 (.cons h2 (.cons h3 (.cons h4 (.cons h5 (.cons h6 .nil)))))) => exact ⟨_, _, _, _, _, _, _, rfl, h0, h1, h2, h3, h4, h5, h6⟩
def spLeafOk (K : PySem.W.Frag) : Sp := fun vs H Q _ => ∃ v s ds, ∃ n : Nat, vs = [v, .int n] ∧ n ≤ 8 ∧ Dp K H v (.tuple (.str s :: ds)) ∧ ∀ H', Same H H' → Q (.bl (leafB n (.str s :: ds))) H'
section
variable {w : World} {K : PySem.W.Frag} {mg : Str → Option Value} {base : Heap}
theorem ok_is_leaf (T : Tx K mg) (D_is_integer : Dfn pr w K mg base CX0 1 "is_integer" (spIsInt K)) (D_is_within : Dfn pr w K mg base CX0 2 "is_within" (spWithin K)) (D_is_levels : Dfn pr w K mg base CX0 3 "is_levels" (spLv K)) : Dfn pr w K mg base CX0 4 "is_leaf" (spLeafOk K) := by
  refine mk_dfn (x_is_leaf T) (g_is_leaf T) sc_is_leaf (fun vs H Q E h => by obtain ⟨_, _, _, _, rfl, _⟩ := h; rfl) fun cdv A outer s H vs Q E hr h => ?_
  obtain ⟨v, s0, ds0, n, rfl, hn, hd, k⟩ := h
  refine ⟨_, PSs.nox (pss_cons (ps_if (PW.pt (pw_or (pt_cmpR op_ne (pe_ix ix_tup (pv 0) pe_int (fun _ _ => rfl)) pe_str (nomark _)) (pw_or (pt_cmpR op_ne (pe_callB call_len_seq (by rfl) (f_len T) PySem.boot_len (pa_cons (pv 0) pa_nil)) (pe_num (n_LEAF_PARTS T)) (nomark _)) (pw_or (pt_not (pt_val (pe_callB call_isiD (by rfl) (f_isinstance T) (by decide +kernel) (pa_cons (pe_ix ix_tup (pv 0) pe_int (fun _ _ => rfl)) (pa_cons (pe_bltn (v := .ty "str") (by rfl) (f_str T) (by decide +kernel) rfl) pa_nil))))) (pw_or1 (pt_cmpR op_notIn_seq (pe_ix ix_tup (pv 0) pe_int (fun _ _ => rfl)) (pe_glob (v := .ref (He.ga K "MODES")) rfl (g_MODES T) rfl) (by with_unfolding_all rfl)))))))
 (pss_one (ps_ret pe_bl))
 pss_nil)
 (pss_cons (ps_asg (pv 0) (pg_tup rfl (pgs_cons (pg_name (i := 2) sc_is_leaf.nd rfl (Or.inl rfl)) (pgs_cons (pg_name (i := 3) sc_is_leaf.nd rfl (Or.inl rfl)) (pgs_cons (pg_name (i := 4) sc_is_leaf.nd rfl (Or.inl rfl)) (pgs_cons (pg_name (i := 5) sc_is_leaf.nd rfl (Or.inl rfl)) (pgs_cons (pg_name (i := 6) sc_is_leaf.nd rfl (Or.inl rfl)) (pgs_cons (pg_name (i := 7) sc_is_leaf.nd rfl (Or.inl rfl)) (pgs_cons (pg_name (i := 8) sc_is_leaf.nd rfl (Or.inl rfl)) pgs_nil)))))))))
 (pss_cons (ps_if (PW.pt (pw_or (pt_not (pt_val (pe_cal D_is_within hr (by decide) pass0 (pa_cons (pv 4) (pa_cons pe_int (pa_cons (pe_op op_sub (pe_num (n_SLOTS T)) pe_int) pa_nil)))))) (pw_or (pt_not (pt_val (pe_cal D_is_integer hr (by decide) pass0 (pa_cons (pv 7) pa_nil)))) (pw_or1 (pt_cmpR op_notIn_seq (pv 7) (pe_glob (v := .ref (He.ga K "FACTORS")) rfl (g_FACTORS T) rfl) (by with_unfolding_all rfl))))))
 (pss_one (ps_ret pe_bl))
 pss_nil)
 (pss_cons (ps_if (PW.pt (pw_or (pt_not (pt_val (pe_cal D_is_within hr (by decide) pass0 (pa_cons (pv 5) (pa_cons (pe_un un_neg (pe_num (n_GREATEST_SHIFT T))) (pa_cons (pe_num (n_GREATEST_SHIFT T)) pa_nil)))))) (pw_or1 (pt_not (pt_val (pe_cal D_is_within hr (by decide) pass0 (pa_cons (pv 6) (pa_cons (pe_un un_neg (pe_num (n_GREATEST_SHIFT T))) (pa_cons (pe_num (n_GREATEST_SHIFT T)) pa_nil)))))))))
 (pss_one (ps_ret pe_bl))
 pss_nil)
 (pss_cons (ps_if (PW.pt (pw_and (pt_cmpR op_ne (pv 3) pe_str (nomark _)) (pw_and1 (pt_cmpR (op_neD hr.units) (pe_tup (pa_cons (pv 4) (pa_cons (pv 5) (pa_cons (pv 6) pa_nil)))) (pe_tup (pa_cons pe_int (pa_cons pe_int (pa_cons pe_int pa_nil)))) (nomark _)))))
 (pss_one (ps_ret pe_bl))
 pss_nil)
 (pss_one (ps_ret (pe_cal D_is_levels hr (by decide) pass0 (pa_cons (pv 8) (pa_cons (pv 1) pa_nil)))))))))), ?_⟩
  have here : ∀ b, leafB n (.str s0 :: ds0) = b → Q (.bl b) H := fun b e => by
    rw [e] at k
    exact k H (fun _ _ e => e)
  cases hd with
  | @tup a xs _ hx hxs =>
  have hl := dpAll_length hxs
  have x0 : xs[0]? = some (.str s0) := by
    cases hxs with
    | cons h1 _ => cases h1; rfl
  refine ⟨_, rfl, a, xs, 0, .str s0, rfl, rfl, hx, atI_nat x0, rfl, _, rfl, ?_⟩
  refine ite2 (fun h1 => ?_) (fun h1 => ?_)
  · refine iteT (here false ?_)
    have h2 : ¬ s0 = "leaf" := by simpa using h1
    by_cases hl7 : (PyData.str s0 :: ds0).length = 7
    · obtain ⟨a0, a1, a2, a3, a4, a5, a6, e7⟩ := seven hl7
      rw [e7]
      injection e7 with e70 e71
      have e8 : isS "leaf" a0 = false := by rw [← e70]; exact decide_eq_false h2
      simp only [leafB, e8, Bool.false_and]
    · exact leafB_len hl7
  have hs0 : s0 = "leaf" := by
    have : ¬ ¬ (V.str s0 = V.str "leaf") := by simpa using h1
    have h3 := Classical.not_not.mp this
    injection h3
  refine ⟨_, rfl, a, xs, rfl, .inr hx, rfl, _, rfl, ?_⟩
  refine ite2 (fun h1 => ?_) (fun h1 => ?_)
  · refine iteT (here false (leafB_len fun z => ?_))
    rw [hl, z] at h1
    simp at h1
  have h7 : (PyData.str s0 :: ds0).length = 7 := by
    have : ¬ ¬ (V.int (xs.length : Int) = V.int 7) := by simpa using h1
    have h3 := Classical.not_not.mp this
    injection h3 with h3
    omega
  obtain ⟨a0, a1, a2, a3, a4, a5, a6, e7⟩ := seven h7
  rw [e7] at hxs here k
  have e0 : isS "leaf" a0 = true := by
    injection e7 with e70 _
    rw [← e70, hs0]
    rfl
  obtain ⟨v0, v1, v2, v3, v4, v5, v6, rfl, p0, p1, p2, p3, p4, p5, p6⟩ := dpAll7 hxs
  refine ⟨_, rfl, a, _, 1, v1, rfl, rfl, hx, atI_nat (j := 1) rfl, v1, a1, "str", rfl, by simp, p1, _, rfl, ?_⟩
  rcases ff_tt (isD "str" a1) with hc | hc
  · rw [hc]
    refine iteT (iteT (here false ?_))
    have z : modeB a1 = false := by cases a1 <;> first | rfl | cases hc
    simp only [leafB, z, Bool.false_and, Bool.and_false]
  rw [hc]
  obtain ⟨md, rfl, rfl⟩ := dp_str p1 hc
  refine iteF ⟨_, rfl, a, _, 1, _, rfl, rfl, hx, atI_nat (j := 1) rfl, _, _, rfl, .inr (modesT T _), rfl, flat_strs _, _, rfl, ?_⟩
  rw [inV_strs]
  by_cases hm : ¬ md ∈ modes
  · rw [decide_eq_false hm]
    refine iteT (here false ?_)
    have z : modeB (.str md) = false := decide_eq_false hm
    simp only [leafB, z, Bool.false_and, Bool.and_false]
  have hm := Classical.not_not.mp hm
  have m1 : modeB (.str md) = true := decide_eq_true hm
  rw [decide_eq_true hm]
  refine iteF ⟨_, rfl, a, _, rfl, hx, rfl, _, _, rfl, _, _, rfl, _, _, rfl, _, _, rfl, _, _, rfl, _, _, rfl, _, _, rfl, rfl, ?_⟩
  have base_ : leafB n [a0, .str md, a2, a3, a4, a5, a6] = (within 0 2 a2 && (facB a5 && (within (-31) 31 a3 && (within (-31) 31 a4 && ((isS "motion" (.str md) || (isZ a2 && (isZ a3 && isZ a4))) && lvB n a6))))) := by
    simp only [leafB, e0, m1, Bool.true_and]
  rw [base_] at here k
  refine ⟨_, rfl, _, _, rfl, rfl, v2, a2, 0, 2, rfl, p2, _, rfl, ?_⟩
  rcases ff_tt (within 0 2 a2) with w2 | w2
  · rw [w2]
    exact iteT (iteT (here false (by rw [w2]; rfl)))
  rw [w2] at here k ⊢
  rw [Bool.true_and] at here k
  refine iteF ⟨_, rfl, v5, a5, rfl, p5, _, rfl, ?_⟩
  rcases ff_tt (intB a5) with i5 | i5
  · rw [i5]
    have z : facB a5 = false := by cases a5 <;> first | rfl | cases i5
    exact iteT (iteT (here false (by rw [z]; rfl)))
  rw [i5]
  obtain ⟨q, rfl, rfl⟩ := dp_int p5 i5
  refine iteF ⟨_, rfl, _, _, rfl, .inr (facsT T _), rfl, flat_ints _, _, rfl, ?_⟩
  rw [inV_ints]
  by_cases hq : ¬ q ∈ facs
  · have z : facB (.int q) = false := decide_eq_false hq
    rw [decide_eq_false hq]
    exact iteT (here false (by rw [z]; rfl))
  have hq := Classical.not_not.mp hq
  rw [show facB (.int q) = true from decide_eq_true hq, Bool.true_and] at here k
  rw [decide_eq_true hq]
  refine iteF ⟨_, rfl, _, rfl, v3, a3, -31, 31, rfl, p3, _, rfl, ?_⟩
  rcases ff_tt (within (-31) 31 a3) with w3 | w3
  · rw [w3]
    exact iteT (iteT (here false (by rw [w3]; rfl)))
  rw [w3] at here k ⊢
  rw [Bool.true_and] at here k
  refine iteF ⟨_, rfl, _, rfl, v4, a4, -31, 31, rfl, p4, _, rfl, ?_⟩
  rcases ff_tt (within (-31) 31 a4) with w4 | w4
  · rw [w4]
    exact iteT (here false (by rw [w4]; rfl))
  rw [w4] at here k ⊢
  rw [Bool.true_and] at here k
  refine iteF ⟨_, rfl, rfl, _, rfl, ?_⟩
  obtain ⟨sl, rfl, rfl⟩ := dp_int p2 (by cases a2 <;> first | rfl | cases w2)
  obtain ⟨dy, rfl, rfl⟩ := dp_int p3 (by cases a3 <;> first | rfl | cases w3)
  obtain ⟨dx, rfl, rfl⟩ := dp_int p4 (by cases a4 <;> first | rfl | cases w4)
  have last : ∀ H', Same H H' → (∀ b, leafB n [a0, .str md, .int sl, .int dy, .int dx, .int q, a6] = b → True) → ((isS "motion" (.str md) || (isZ (.int sl) && (isZ (.int dy) && isZ (.int dx)))) = true) → 
      tRet (tCall (spLv K) [] E0 (tCons (tVar 8) (tCons (tVar 1) tNil))) { nx := fun _ H' => Q V.non H', rt := Q } [some (.ref a), some (.int (n : Int)), some v0, some (.str md), some (.int sl), some (.int dy), some (.int dx), some (.int q), some v6] H' := by
    intro H' s1 _ e
    rw [e, Bool.true_and] at k
    exact ⟨_, rfl, _, rfl, v6, a6, n, rfl, hn, dp_same s1 _ _ p6, fun H2 s2 => k H2 (s1.trans s2)⟩
  by_cases hmo : md = "motion"
  · subst hmo
    refine iteF (iteF (last H (fun _ _ e => e) (fun _ _ => True.intro) rfl))
  · rw [show decide (V.str md = V.str "motion") = false from decide_eq_false fun z => hmo (by injection z)]
    refine iteT ⟨_, rfl, _, rfl, _, rfl, by show 3 ≤ sizeLine; decide, fun p hp => ?_⟩
    have hp8 := hp
    refine ⟨by show 3 ≤ sizeLine; decide, fun p2' hp2 => ?_⟩
    have np : p ≠ p2' := ne_of_none (upd_same (H := H)) hp2
    refine ⟨.tuple [.int sl, .int dy, .int dx], .tuple [.int 0, .int 0, .int 0], .tup (SqT.of (by rw [upd_ne np, upd_same])) (.cons (.int _) (.cons (.int _) (.cons (.int _) .nil))), .tup (SqT.of upd_same) (.cons (.int _) (.cons (.int _) (.cons (.int _) .nil))), rfl, rfl, _, rfl, ?_⟩
    have ez : PyData.eqv (.tuple [.int sl, .int dy, .int dx]) (.tuple [.int 0, .int 0, .int 0]) = (isZ (.int sl) && (isZ (.int dy) && isZ (.int dx))) := by
      simp only [PyData.eqv, PyData.eqvAll, isZ, Bool.and_true]
      rfl
    rw [ez]
    have s2 : Same H (upd (upd H p (.tup [.int sl, .int dy, .int dx])) p2' (.tup [.int 0, .int 0, .int 0])) := (Same.new hp).trans (Same.new hp2)
    rcases ff_tt (isZ (.int sl) && (isZ (.int dy) && isZ (.int dx))) with z | z
    · rw [z] at k ⊢
      rw [show isS "motion" (.str md) = false from decide_eq_false hmo] at k
      exact iteT (k _ s2)
    · rw [z]
      refine iteF (last _ s2 (fun _ _ => True.intro) (by rw [z, Bool.or_true]))
end
end Bo

/-! The program's checks of trees: trees, bands; no levels. -/
namespace Bo
open PySem PySem.Spec L2 PyProof.Rows
def spNone : Sp := fun _ _ _ _ => False
def spTreeOk (K : PySem.W.Frag) (m : Nat) : Sp := fun vs H Q _ => ∃ v d, vs = [v, .int (nn m : Nat)] ∧ Dp K H v d ∧ ∀ H', Same H H' → Q (.bl (treeB m d)) H'
theorem nn_half (m : Nat) : ((nn (m + 1) : Nat) : Int) / 2 = (nn m : Nat) := by
  unfold nn
  rw [Nat.pow_succ]
  omega
theorem nn_two (m : Nat) : (V.int (nn m : Nat) = V.int 2) ↔ m = 0 := by
  constructor
  · intro h
    injection h with h
    cases m with
    | zero => rfl
    | succ m =>
      unfold nn at h
      have : 0 < 2 ^ m := Nat.pow_pos (by decide)
      rw [Nat.pow_succ, Nat.pow_succ] at h
      omega
  · rintro rfl
    rfl
theorem nn_le {m : Nat} (h : m ≤ 2) : nn m ≤ 8 := by
  have : m = 0 ∨ m = 1 ∨ m = 2 := by omega
  rcases this with rfl | rfl | rfl <;> decide
section
variable {w : World} {K : PySem.W.Frag} {mg : Str → Option Value} {base : Heap}
theorem void_is_tree (T : Tx K mg) : Dfn pr w K mg base CX0 1 "is_tree" spNone :=
  mk_dfn (x_is_tree T) (g_is_tree T) sc_is_tree (fun vs H Q E h => h.elim) fun cdv A outer s H vs Q E hr h => h.elim
theorem step_is_tree (T : Tx K mg) {k m : Nat} {sp : Sp} (hm : m ≤ 2) (hk : 4 ≤ k) (D_is_leaf : Dfn pr w K mg base CX0 4 "is_leaf" (spLeafOk K)) (D_is_tree : Dfn pr w K mg base CX0 k "is_tree" sp) (hsp : ∀ m', m = m' + 1 → sp = spTreeOk K m') : Dfn pr w K mg base CX0 (k + 1) "is_tree" (spTreeOk K m) := by
  refine mk_dfn (x_is_tree T) (g_is_tree T) sc_is_tree (fun vs H Q E h => by obtain ⟨_, _, rfl, _⟩ := h; rfl) fun cdv A outer s H vs Q E hr h => ?_
  obtain ⟨v, d, rfl, hd, k⟩ := h
  refine ⟨_, PSs.nox (pss_cons (ps_if (PW.pt (pw_or (pt_not (pt_val (pe_callB call_isiD (by rfl) (f_isinstance T) (by decide +kernel) (pa_cons (pv 0) (pa_cons (pe_bltn (v := .ty "tuple") (by rfl) (f_tuple T) (by decide +kernel) rfl) pa_nil))))) (pw_or (pt_cmpR op_eq (pe_callB call_len_seq (by rfl) (f_len T) PySem.boot_len (pa_cons (pv 0) pa_nil)) pe_int (nomark _)) (pw_or1 (pt_not (pt_val (pe_callB call_isiD (by rfl) (f_isinstance T) (by decide +kernel) (pa_cons (pe_ix ix_tup (pv 0) pe_int (fun _ _ => rfl)) (pa_cons (pe_bltn (v := .ty "str") (by rfl) (f_str T) (by decide +kernel) rfl) pa_nil)))))))))
 (pss_one (ps_ret pe_bl))
 pss_nil)
 (pss_cons (ps_if (pt_cmpR op_ne (pe_ix ix_tup (pv 0) pe_int (fun _ _ => rfl)) pe_str (nomark _))
 (pss_one (ps_ret (pe_cal D_is_leaf hr (by omega) pass0 (pa_cons (pv 0) (pa_cons (pv 1) pa_nil)))))
 pss_nil)
 (pss_cons (ps_if (PW.pt (pw_or (pt_cmpR op_eq (pv 1) (pe_num (n_LEAST_AREA T)) (nomark _)) (pw_or (pt_cmpR op_ne (pe_callB call_len_seq (by rfl) (f_len T) PySem.boot_len (pa_cons (pv 0) pa_nil)) pe_int (nomark _)) (pw_or (pt_not (pt_val (pe_callB call_isiD (by rfl) (f_isinstance T) (by decide +kernel) (pa_cons (pe_ix ix_tup (pv 0) pe_int (fun _ _ => rfl)) (pa_cons (pe_bltn (v := .ty "tuple") (by rfl) (f_tuple T) (by decide +kernel) rfl) pa_nil))))) (pw_or1 (pt_cmpR op_ne (pe_callB call_len_seq (by rfl) (f_len T) PySem.boot_len (pa_cons (pe_ix ix_tup (pv 0) pe_int (fun _ _ => rfl)) pa_nil)) pe_int (nomark _)))))))
 (pss_one (ps_ret pe_bl))
 pss_nil)
 (pss_one (ps_ret (pe_callB (cr_all rfl) (by rfl) (f_all T) (by decide +kernel) (pa_cons (pe_lc (own := [("part", 2)]) (g := gName 2) (tt := tYes) rfl sc_is_tree.nd (pi_tup (pe_ix ix_tup (pv 0) pe_int (fun _ _ => rfl))) (blkOk_by (N := ["value", "n", "part"]) (sc := (defScope s_is_tree)) (by decide +kernel)) (fun _ _ _ _ _ => pg_name (i := 2) sc_is_tree.nd rfl (Or.inl rfl)) (fun _ _ _ _ _ => pts_nil) (fun _ _ _ _ _ => (pe_cal D_is_tree hr (by omega) pass0 (pa_cons (pv 2) (pa_cons (pe_op op_fdiv (pv 1) pe_int) pa_nil))))) pa_nil))))))), ?_⟩
  have here : ∀ b, treeB m d = b → Q (.bl b) H := fun b e => by
    rw [e] at k
    exact k H (fun _ _ e => e)
  refine ⟨_, rfl, v, d, "tuple", rfl, by simp, hd, _, rfl, ?_⟩
  rcases ff_tt (isD "tuple" d) with hc | hc
  · rw [hc]
    refine iteT (iteT (here false (treeB_no ?_)))
    cases d <;> first | rfl | cases hc
  rw [hc]
  obtain ⟨a, xs, ds, rfl, rfl, hx, hxs⟩ := dp_tup hd hc
  have hl := dpAll_length hxs
  refine iteF ⟨_, rfl, a, xs, rfl, .inr hx, rfl, _, rfl, ?_⟩
  cases ds with
  | nil =>
    have e0 : xs = [] := List.eq_nil_of_length_eq_zero hl
    subst e0
    exact iteT (iteT (here false (treeB_no rfl)))
  | cons d0 ds =>
  cases hxs with
  | @cons v0 vs _ _ p0 ps =>
  rw [show decide (V.int ((v0 :: vs).length : Int) = V.int 0) = false from decide_eq_false fun z => by injection z with z; rw [List.length_cons] at z; omega]
  refine iteF ⟨_, rfl, a, _, 0, v0, rfl, rfl, hx, atI_nat (j := 0) rfl, v0, d0, "str", rfl, by simp, p0, _, rfl, ?_⟩
  rcases ff_tt (isD "str" d0) with hs | hs
  · rw [hs]
    refine iteT (here false (treeB_no ?_))
    cases d0 <;> first | rfl | cases hs
  rw [hs]
  obtain ⟨s0, rfl, rfl⟩ := dp_str p0 hs
  have hh : headS (.tuple (.str s0 :: ds)) = some (s0, .str s0 :: ds) := rfl
  refine iteF ⟨_, rfl, a, _, 0, _, rfl, rfl, hx, atI_nat (j := 0) rfl, rfl, _, rfl, ?_⟩
  by_cases h0 : ¬ s0 = "split"
  · rw [show decide (V.str s0 = V.str "split") = false from decide_eq_false fun z => h0 (by injection z)]
    rw [treeB_leafy hh h0] at k
    exact iteT ⟨_, rfl, _, rfl, _, s0, ds, nn m, rfl, nn_le hm, hd, k⟩
  have h0 := Classical.not_not.mp h0
  rw [show decide (V.str s0 = V.str "split") = true from decide_eq_true (by rw [h0])]
  refine iteF ⟨_, rfl, rfl, _, rfl, ?_⟩
  cases m with
  | zero =>
    refine iteT (iteT (here false (treeB_split0 hh h0)))
  | succ m =>
  have e2 := hsp m rfl
  subst e2
  rw [treeB_split hh h0] at here k
  rw [show decide (V.int (nn (m + 1) : Nat) = V.int 2) = false from decide_eq_false fun z => by have := (nn_two _).mp z; omega]
  refine iteF ⟨_, rfl, a, _, rfl, .inr hx, rfl, _, rfl, ?_⟩
  by_cases h2 : ¬ ds.length = 1
  · have e3 : splitB (treeB m) (.str s0 :: ds) = false := by
      match ds, h2 with
      | [], _ => rfl
      | [_], h => exact absurd rfl h
      | _ :: _ :: _, _ => simp only [splitB]
    rw [show decide (V.int ((V.str s0 :: vs).length : Int) = V.int 2) = false from decide_eq_false fun z => by injection z with z; rw [hl, List.length_cons] at z; omega]
    exact iteT (iteT (here false e3))
  have h2 := Classical.not_not.mp h2
  match ds, h2 with
  | [d1], _ =>
  cases ps with
  | @cons v1 vs _ _ p1 ps =>
  cases ps
  refine iteF ⟨_, rfl, a, _, 1, v1, rfl, rfl, hx, atI_nat (j := 1) rfl, v1, d1, "tuple", rfl, by simp, p1, _, rfl, ?_⟩
  rcases ff_tt (isD "tuple" d1) with hc1 | hc1
  · rw [hc1]
    have e3 : splitB (treeB m) [.str s0, d1] = false := by cases d1 <;> first | rfl | cases hc1
    exact iteT (iteT (here false e3))
  rw [hc1]
  obtain ⟨b, ys, es, rfl, rfl, hy, hys⟩ := dp_tup p1 hc1
  have hly := dpAll_length hys
  have e4 : splitB (treeB m) [.str s0, .tuple es] = (es.length == 4 && es.all (treeB m)) := rfl
  rw [e4] at here k
  refine iteF ⟨_, rfl, a, _, 1, _, rfl, rfl, hx, atI_nat (j := 1) rfl, b, ys, rfl, .inr hy, rfl, _, rfl, ?_⟩
  by_cases h4 : ¬ es.length = 4
  · rw [show decide (V.int (ys.length : Int) = V.int 4) = false from decide_eq_false fun z => by injection z with z; omega]
    exact iteT (here false (by rw [beq_false_of_ne h4, Bool.false_and]))
  have h4 := Classical.not_not.mp h4
  rw [show decide (V.int (ys.length : Int) = V.int 4) = true from decide_eq_true (by rw [hly, h4]; rfl)]
  rw [h4, beq_self_eq_true, Bool.true_and] at k
  refine iteF ⟨_, rfl, a, _, 1, _, rfl, rfl, hx, atI_nat (j := 1) rfl, b, rfl, ⟨ys, hy⟩, fun D hD => ?_⟩
  refine lcT_bools (f := treeB m) hD hy hys (by rw [h4, sizeLine_eq]; omega) (fun x d H2 s2 dp Q hq => ?_) (fun _ => rfl) fun H2 s2 hD2 => ?_
  · exact ⟨_, rfl, _, rfl, _, _, rfl, rfl, ⟨by decide, by decide⟩, x, d, congrArg (fun z => [x, V.int z]) (nn_half m), dp, hq⟩
  · refine ⟨D, es.map (treeB m), rfl, SqL.of (by rw [hD2, List.map_map]; rfl), ?_⟩
    have ea : (es.map (treeB m)).all id = es.all (treeB m) := by rw [List.all_map]; rfl
    rw [ea]
    exact k H2 s2
theorem ok_is_tree (T : Tx K mg) (D_is_leaf : Dfn pr w K mg base CX0 4 "is_leaf" (spLeafOk K)) : Dfn pr w K mg base CX0 7 "is_tree" (spTreeOk K 2) := by
  have d0 := step_is_tree (m := 0) T (by decide) (Nat.le_refl 4) D_is_leaf ((void_is_tree T).mono (by decide)) (fun m' e => by cases e)
  have d1 := step_is_tree (m := 1) T (by decide) (by decide) D_is_leaf d0 (fun m' e => by injection e with e; rw [← e])
  exact step_is_tree (m := 2) T (by decide) (by decide) D_is_leaf d1 (fun m' e => by injection e with e; rw [← e])
def spBandOk (K : PySem.W.Frag) : Sp := fun vs H Q _ => ∃ v d, ∃ n : Nat, vs = [v, .int n] ∧ n ≤ 4 ∧ Dp K H v d ∧ ∀ H', Same H H' → Q (.bl (bandN n d)) H'
theorem ok_is_band_tree (T : Tx K mg) (D_is_tree : Dfn pr w K mg base CX0 7 "is_tree" (spTreeOk K 2)) : Dfn pr w K mg base CX0 8 "is_band_tree" (spBandOk K) := by
  refine mk_dfn (x_is_band_tree T) (g_is_band_tree T) sc_is_band_tree (fun vs H Q E h => by obtain ⟨_, _, _, rfl, _⟩ := h; rfl) fun cdv A outer s H vs Q E hr h => ?_
  obtain ⟨v, d, n, rfl, hn, hd, k⟩ := h
  refine ⟨_, PSs.nox (pss_one (ps_ret (pe_and (pe_callB call_isiD (by rfl) (f_isinstance T) (by decide +kernel) (pa_cons (pv 0) (pa_cons (pe_bltn (v := .ty "tuple") (by rfl) (f_tuple T) (by decide +kernel) rfl) pa_nil))) (pe_and (pe_cmpR op_eq (pe_callB call_len_seq (by rfl) (f_len T) PySem.boot_len (pa_cons (pv 0) pa_nil)) (pv 1) (nomark _)) (pe_one (pe_callB (cr_all rfl) (by rfl) (f_all T) (by decide +kernel) (pa_cons (pe_lc (own := [("tree", 2)]) (g := gName 2) (tt := tYes) rfl sc_is_band_tree.nd (pi_tup (pv 0)) (blkOk_by (N := ["value", "blocks", "tree"]) (sc := (defScope s_is_band_tree)) (by decide +kernel)) (fun _ _ _ _ _ => pg_name (i := 2) sc_is_band_tree.nd rfl (Or.inl rfl)) (fun _ _ _ _ _ => pts_nil) (fun _ _ _ _ _ => (pe_cal D_is_tree hr (by decide) pass0 (pa_cons (pv 2) (pa_cons (pe_num (n_BLOCK T)) pa_nil))))) pa_nil))))))), ?_⟩
  refine ⟨_, rfl, v, d, "tuple", rfl, by simp, hd, _, rfl, ?_⟩
  rcases ff_tt (isD "tuple" d) with hc | hc
  · rw [hc]
    have e : bandN n d = false := by cases d <;> first | rfl | cases hc
    rw [e] at k
    exact iteF (k H (fun _ _ e => e))
  rw [hc]
  obtain ⟨a, xs, ds, rfl, rfl, hx, hxs⟩ := dp_tup hd hc
  have hl := dpAll_length hxs
  have e4 : bandN n (.tuple ds) = (ds.length == n && ds.all (treeB 2)) := rfl
  rw [e4] at k
  refine iteT ⟨_, rfl, a, xs, rfl, .inr hx, _, rfl, rfl, _, rfl, ?_⟩
  by_cases h4 : ¬ ds.length = n
  · rw [show decide (V.int (xs.length : Int) = V.int (n : Int)) = false from decide_eq_false fun z => by injection z with z; omega]
    rw [beq_false_of_ne h4, Bool.false_and] at k
    exact iteF (k H (fun _ _ e => e))
  have h4 := Classical.not_not.mp h4
  rw [show decide (V.int (xs.length : Int) = V.int (n : Int)) = true from decide_eq_true (by rw [hl, h4])]
  rw [h4, beq_self_eq_true, Bool.true_and] at k
  refine iteT ⟨_, rfl, a, rfl, ⟨xs, hx⟩, fun D hD => ?_⟩
  refine lcT_bools (f := treeB 2) hD hx hxs (by rw [h4, sizeLine_eq]; omega) (fun x d H2 s2 dp Q hq => ?_) (fun _ => rfl) fun H2 s2 hD2 => ?_
  · exact ⟨_, rfl, x, d, rfl, dp, hq⟩
  · refine ⟨D, ds.map (treeB 2), rfl, SqL.of (by rw [hD2, List.map_map]; rfl), ?_⟩
    have ea : (ds.map (treeB 2)).all id = ds.all (treeB 2) := by rw [List.all_map]; rfl
    rw [ea]
    exact k H2 s2
/-! ### the error -/
def spErr (K : PySem.W.Frag) : Sp := fun vs H Q _ => ∃ a v, vs = [.ref a, v] ∧ H a = some (exo a (He.ga K "InvalidTree") none) ∧ ∀ dx, H dx = none → dx ≠ a → Q .non (upd (upd H dx (exd dx [("value", v)])) a (exo a (He.ga K "InvalidTree") (some dx)))
theorem ok_InvalidTree (T : Tx K mg) : ∃ (fd : FuncData) (ps : List Str), FnOk pr w K mg base CX0 1 (He.ma K (He.ga K "InvalidTree") "__init__") fd ps (spErr K) ∧ Binds K fd ps [] := by
  obtain ⟨fd, F, b⟩ := x_InvalidTree_init T
  refine ⟨fd, _, FunD.ok F sc_InvalidTree_init (fun vs H Q E h => by obtain ⟨_, _, rfl, _⟩ := h; rfl) (fun cdv A outer s H vs Q E hr h => ?_), b⟩
  obtain ⟨a, v, rfl, ha, k⟩ := h
  refine ⟨_, PSs.nox (pss_one (ps_ost (pv 0) (pv 1))), ?_⟩
  exact ⟨_, rfl, _, rfl, a, _, rfl, (err_tree T).oex, a_InvalidTree_value T, .inl ⟨ha, fun dx h1 h2 => k dx h1 h2⟩⟩
/-- need_band_tree, band_octets: what is no band tree is refused -/
def Refuse (K : PySem.W.Frag) (H : Hp) (v : V) (E : XK) : Prop := ∀ H' dd, Same H H' → H' dd = some (.xd [("value", v)]) → E (.ref (He.ga K "InvalidTree")) (some dd) H'
def spNeed (K : PySem.W.Frag) : Sp := fun vs H Q E => ∃ v d, vs = [v] ∧ Dp K H v d ∧ (bandB d = true → ∀ H', Same H H' → Q v H') ∧ (bandB d = false → Refuse K H v E)
theorem bandB_tuple (ds : List PyData) : bandB (.tuple ds) = (decide (1 ≤ ds.length ∧ ds.length ≤ 4) && ds.all (treeB 2)) := by
  by_cases h : 1 ≤ ds.length ∧ ds.length ≤ 4
  · rw [decide_eq_true h, Bool.true_and]
    unfold bandB
    have h2 : ds.length = 1 ∨ ds.length = 2 ∨ ds.length = 3 ∨ ds.length = 4 := by omega
    rcases h2 with e | e | e | e <;> simp [bandN, e]
  · rw [decide_eq_false h, Bool.false_and]
    unfold bandB
    have h1 : ¬ ds.length = 1 := by omega
    have h2 : ¬ ds.length = 2 := by omega
    have h3 : ¬ ds.length = 3 := by omega
    have h4 : ¬ ds.length = 4 := by omega
    simp [bandN, h1, h2, h3, h4]
theorem ok_need_band_tree (T : Tx K mg) (D_is_band_tree : Dfn pr w K mg base CX0 8 "is_band_tree" (spBandOk K)) : Dfn pr w K mg base (L2.CX pr w) 9 "need_band_tree" (spNeed K) := by
  obtain ⟨fd_, ps_, F_init, b_init⟩ := ok_InvalidTree (w := w) (base := base) T
  refine mk_dfn (x_need_band_tree T) (g_need_band_tree T) sc_need_band_tree (fun vs H Q E h => by obtain ⟨_, _, rfl, _⟩ := h; rfl) fun cdv A outer s H vs Q E hr h => ?_
  obtain ⟨v, d, rfl, hd, k1, k2⟩ := h
  refine ⟨_, (pss_cons (ps_if (PW.pt (pw_or (pt_not (pt_val (pe_callB call_isiD (by rfl) (f_isinstance T) (by decide +kernel) (pa_cons (pv 0) (pa_cons (pe_bltn (v := .ty "tuple") (by rfl) (f_tuple T) (by decide +kernel) rfl) pa_nil))))) (pw_or (pt_not (pt_chain op_le op_le pe_int (pe_callB call_len_seq (by rfl) (f_len T) PySem.boot_len (pa_cons (pv 0) pa_nil)) (pe_num (n_MOST_BLOCKS T)))) (pw_or1 (pt_not (pt_val (pe_cal D_is_band_tree hr (by decide) pass0 (pa_cons (pv 0) (pa_cons (pe_callB call_len_seq (by rfl) (f_len T) PySem.boot_len (pa_cons (pv 0) pa_nil)) pa_nil)))))))))
 (pss_one (ps_raise rfl (takes_of rfl rfl rfl rfl) (pmk_oex (err_tree T).oex (m_InvalidTree_init T).1 (err_tree T).tI F_init (hr.mono (by decide)) b_init .nil pass0 (by rfl) (g_InvalidTree T) (pa_cons (pv 0) pa_nil))))
 pss_nil)
 (pss_one (ps_ret (pv 0)))), ?_⟩
  have raise : ∀ H', Same H H' → bandB d = false → (fun σ H (Q : XK) => tMkO (He.ga K "InvalidTree") (spErr K) [] (tCons (tVar 0) tNil) σ H Q) [some v] H' fun cls d H' => E cls d H' := by
    intro H' s1 hb
    refine ⟨_, rfl, (by show 1 ≤ 1000; decide), fun a ha => ?_⟩
    refine ⟨a, v, rfl, upd_same, fun dx hdx nx => ⟨rfl, dx, _, upd_same, by rw [upd_ne nx]; exact upd_same, ?_, ?_⟩⟩
    · rw [upd_ne nx] at hdx
      exact hdx
    · have hdx0 : H' dx = none := by
        rw [upd_ne nx] at hdx
        exact hdx
      refine k2 hb _ _ (fun b o e => ?_) upd_same
      have e1 := s1 _ _ e
      rw [upd_ne (ne_of_none e1 hdx0), del_ne (ne_of_none e1 ha), upd_ne (ne_of_none e1 ha), upd_ne (ne_of_none e1 hdx0), upd_ne (ne_of_none e1 ha)]
      exact e1
  refine ⟨_, rfl, v, d, "tuple", rfl, by simp, hd, _, rfl, ?_⟩
  rcases ff_tt (isD "tuple" d) with hc | hc
  · rw [hc]
    have e : bandB d = false := by cases d <;> first | rfl | cases hc
    exact iteT (iteT (raise H (fun _ _ e => e) e))
  rw [hc]
  obtain ⟨a, xs, ds, rfl, rfl, hx, hxs⟩ := dp_tup hd hc
  have hl := dpAll_length hxs
  rw [bandB_tuple] at k1 raise
  refine iteF ⟨_, rfl, a, xs, rfl, .inr hx, _, _, rfl, rfl, _, rfl, ?_⟩
  rw [hl]
  by_cases h1 : ¬ 1 ≤ ds.length
  · rw [show decide ((1 : Int) ≤ (ds.length : Int)) = false from decide_eq_false (by omega)]
    refine iteF ⟨_, rfl, iteT (iteT (raise H (fun _ _ e => e) ?_))⟩
    rw [decide_eq_false (fun z => h1 z.1), Bool.false_and]
  have h1 := Classical.not_not.mp h1
  rw [show decide ((1 : Int) ≤ (ds.length : Int)) = true from decide_eq_true (by omega)]
  refine iteT ⟨_, _, rfl, rfl, _, rfl, ?_⟩
  by_cases h4 : ¬ ds.length ≤ 4
  · rw [show decide ((ds.length : Int) ≤ 4) = false from decide_eq_false (by omega)]
    refine iteT (iteT (raise H (fun _ _ e => e) ?_))
    rw [decide_eq_false (fun z => h4 z.2), Bool.false_and]
  have h4 := Classical.not_not.mp h4
  rw [show decide ((ds.length : Int) ≤ 4) = true from decide_eq_true (by omega)]
  rw [decide_eq_true ⟨h1, h4⟩, Bool.true_and] at k1 raise
  refine iteF ⟨_, rfl, _, rfl, a, xs, rfl, .inr hx, _, _, ds.length, congrArg (fun z : Nat => [V.ref a, V.int (z : Int)]) hl, h4, hd, fun H' s1 => ?_⟩
  have eb : bandN ds.length (.tuple ds) = ds.all (treeB 2) := by
    show (ds.length == ds.length && ds.all (treeB 2)) = _
    rw [beq_self_eq_true, Bool.true_and]
  rw [eb]
  refine ⟨_, rfl, ?_⟩
  rcases ff_tt (ds.all (treeB 2)) with z | z
  · rw [z]
    exact iteT (raise H' s1 z)
  · rw [z]
    exact iteF ⟨_, rfl, k1 z H' s1⟩
end
end Bo

/-! The program's leaves: no levels, put_leaf. -/
namespace Bo
open PySem PySem.Spec L2 PyProof.Rows
theorem dpAll_ints_inv {K : PySem.W.Frag} {H : Hp} : ∀ {l : List Int} {vs : List V}, DpAll K H vs (l.map PyData.int) → vs = l.map V.int
  | [], _, .nil => rfl
  | _ :: _, _, .cons h t => by
    cases h
    rw [dpAll_ints_inv t]
    rfl
/-- the rows of a square as they stand -/
def RowsAt (K : PySem.W.Frag) (H : Hp) (xs : List V) (rows : List (List Int)) : Prop := xs.length = rows.length ∧ ∀ (i : Nat) (r : List Int), rows[i]? = some r → ∃ b : Addr, xs[i]? = some (V.ref b) ∧ SqT K H b (r.map V.int)
theorem rowsAt {K : PySem.W.Frag} {H : Hp} {xs : List V} {rows : List (List Int)} (h : DpAll K H xs (rows.map dRow)) : RowsAt K H xs rows := by
  have hl := dpAll_length h
  rw [List.length_map] at hl
  refine ⟨hl, fun i r hr => ?_⟩
  have hi : i < xs.length := by
    rw [hl]
    exact (List.getElem?_eq_some_iff.mp hr).1
  obtain ⟨d, hd, dp⟩ := dpAll_get h (List.getElem?_eq_getElem hi)
  rw [List.getElem?_map, hr] at hd
  cases hd
  rw [List.getElem?_eq_getElem hi]
  generalize xs[i] = x at dp
  cases dp with
  | tup h1 h2 => exact ⟨_, rfl, by rw [← dpAll_ints_inv h2]; exact h1⟩
theorem RowsAt.mono {K : PySem.W.Frag} {S : List Addr} {H H' : Hp} {xs : List V} {rows : List (List Int)} (h : RowsAt K H xs rows) (u : Upto S H H') : RowsAt K H' xs rows :=
  ⟨h.1, fun i r hr => by
    obtain ⟨b, h1, h2⟩ := h.2 i r hr
    exact ⟨b, h1, u.sqT h2⟩⟩
def nz (v : Int) : Bool := !decide (V.int v = V.int 0)
def nzR (r : List Int) : List V := r.map fun v => V.bl (nz v)
theorem nz_eq (v : Int) : nz v = !(v == 0) := by
  unfold nz
  by_cases h : v = 0
  · subst h; rfl
  · rw [decide_eq_false (fun z => h (by injection z)), beq_false_of_ne h]
theorem nz_any (rows : List (List Int)) : (rows.flatMap fun r => r.map nz).any id = !emptyR rows := by
  unfold emptyR
  induction rows with
  | nil => rfl
  | cons r rows ih =>
    rw [List.flatMap_cons, List.any_append, ih, List.all_cons, Bool.not_and]
    congr 1
    rw [List.any_map, List.not_all_eq_any_not]
    congr 1
    funext v
    exact nz_eq v
theorem flat_le8 {α β : Type} {f : α → List β} : ∀ {l : List α}, (∀ x ∈ l, (f x).length ≤ 8) → (l.flatMap f).length ≤ 8 * l.length
  | [], _ => by simp
  | x :: l, h => by
    rw [List.flatMap_cons, List.length_append, List.length_cons]
    have := h x (List.mem_cons_self ..)
    have := flat_le8 (l := l) fun y hy => h y (List.mem_cons_of_mem _ hy)
    omega
theorem flat_split {α : Type} {f : Nat → List α} {i n : Nat} (h : i < n) : ((List.range i).flatMap f).length + (f i).length ≤ ((List.range n).flatMap f).length := by
  induction n with
  | zero => exact absurd h (Nat.not_lt_zero _)
  | succ n ih =>
    have e : (List.range (n + 1)).flatMap f = (List.range n).flatMap f ++ f n := by
      rw [List.range_succ, List.flatMap_append]
      simp
    rw [e, List.length_append]
    by_cases c : i = n
    · subst c; exact Nat.le_refl _
    · have := ih (by omega)
      omega
theorem flat_succ {α : Type} (f : Nat → List α) (n : Nat) : (List.range (n + 1)).flatMap f = (List.range n).flatMap f ++ f n := by
  rw [List.range_succ, List.flatMap_append]
  simp
def spEmpty (K : PySem.W.Frag) : Sp := fun vs H Q _ => ∃ a xs rows, ∃ n : Nat, vs = [.ref a] ∧ SqT K H a xs ∧ RowsAt K H xs rows ∧ Sq n rows ∧ n ≤ 8 ∧ ∀ H', Same H H' → Q (.bl (emptyR rows)) H'
section
variable {w : World} {K : PySem.W.Frag} {mg : Str → Option Value} {base : Heap}
theorem ok_is_empty (T : Tx K mg) : Dfn pr w K mg base CX0 1 "is_empty" (spEmpty K) := by
  refine mk_dfn (x_is_empty T) (g_is_empty T) sc_is_empty (fun vs H Q E h => by obtain ⟨_, _, _, _, rfl, _⟩ := h; rfl) fun cdv A outer s H vs Q E hr h => ?_
  obtain ⟨a, xs, rows, n, rfl, hx, hrow, sq, hn, k⟩ := h
  refine ⟨_, PSs.nox (pss_one (ps_ret (pe_not (pe_callB (cr_any rfl) (by rfl) (f_any T) (by decide +kernel) (pa_cons (pe_lc2 (own := [("row", 1), ("one", 2)]) (vs1 := [2]) (g := gName 1) (g1 := gName 2) (tt := tYes) (tt1 := tYes) (wi1 := iTup K (tVar 1)) rfl sc_is_empty.nd (pi_tup (pv 0)) (blkOk_by (N := ["levels", "row", "one"]) (sc := (defScope s_is_empty)) (by decide +kernel)) (by decide) (fun _ _ _ _ _ => pg_name (i := 1) sc_is_empty.nd rfl (Or.inl rfl)) (fun _ _ _ _ _ => pts_nil) (fun _ _ _ _ _ => by exact (pi_tup (pv 1))) (fun _ _ _ _ _ => pg_name (i := 2) sc_is_empty.nd rfl (Or.inl rfl)) (fun _ _ _ _ _ => pts_nil) (fun _ _ _ _ _ => (pe_cmpR op_ne (pv 2) pe_int (nomark _)))) pa_nil))))), ?_⟩
  have big : ∀ i, ((rows.take i).flatMap nzR).length ≤ 64 := fun i => by
    have h1 : ∀ r ∈ rows.take i, (nzR r).length ≤ 8 := fun r hr => by
      unfold nzR
      rw [List.length_map, sq.row r (List.mem_of_mem_take hr)]
      exact hn
    have h2 := flat_le8 h1
    rw [List.length_take] at h2
    have := sq.len
    omega
  refine ⟨_, rfl, a, rfl, ⟨xs, hx⟩, fun D hD => ?_⟩
  have hlen := hrow.1
  have fin : ∀ H', H' D = some (.lst (rows.flatMap nzR)) → Same H H' → Q (.bl (emptyR rows)) H' := fun H' _ s1 => k H' s1
  refine ⟨fun i m H' => m = rows.length - i ∧ i ≤ rows.length ∧ H' D = some (.lst ((rows.take i).flatMap nzR)) ∧ Same H H', ⟨_, rfl, Nat.zero_le _, upd_same, Same.new hD⟩, ?_⟩
  rintro i m H1 ⟨rfl, hi, h1, s1⟩
  by_cases hlt : i < rows.length
  · obtain ⟨b, hb, hbq⟩ := hrow.2 i rows[i] (List.getElem?_eq_getElem hlt)
    refine .inr ⟨⟨xs, .ref b, Same.sqT s1 hx, hb⟩, fun H' => i + 1 ≤ rows.length ∧ H' D = some (.lst ((rows.take (i + 1)).flatMap nzR)) ∧ Same H H', fun H' p' => ⟨rows.length - (i + 1), by omega, rfl, p'.1, p'.2.1, p'.2.2⟩, fun x H' y => ?_⟩
    obtain ⟨rfl, y⟩ := y
    have ex := y xs (Same.sqT s1 hx)
    rw [hb] at ex
    cases ex
    have tk : (rows.take (i + 1)).flatMap nzR = (rows.take i).flatMap nzR ++ nzR rows[i] := by
      rw [List.take_succ, List.getElem?_eq_getElem hlt, List.flatMap_append]
      simp
    refine ⟨rfl, ?_⟩
    unfold tYes
    dsimp only
    refine iteT ⟨_, rfl, b, rfl, ⟨_, Same.sqT s1 hbq⟩, ?_⟩
    refine ⟨fun j m H2 => m = rows[i].length - j ∧ j ≤ rows[i].length ∧ H2 D = some (.lst ((rows.take i).flatMap nzR ++ nzR (rows[i].take j))) ∧ Same H H2, ⟨_, rfl, Nat.zero_le _, by rw [h1]; unfold nzR; rw [List.take_zero, List.map_nil, List.append_nil], s1⟩, ?_⟩
    rintro j m H2 ⟨rfl, hj, h2, s2⟩
    have sq2 := Same.sqT s2 hbq
    by_cases hjl : j < rows[i].length
    · refine .inr ⟨⟨_, V.int rows[i][j], sq2, by simp [hjl]⟩, fun H' => j + 1 ≤ rows[i].length ∧ H' D = some (.lst ((rows.take i).flatMap nzR ++ nzR (rows[i].take (j + 1)))) ∧ Same H H', fun H' p' => ⟨rows[i].length - (j + 1), by omega, rfl, p'.1, p'.2.1, p'.2.2⟩, fun x H' y => ?_⟩
      obtain ⟨rfl, y⟩ := y
      have ex := y _ sq2
      rw [List.getElem?_map, List.getElem?_eq_getElem hjl] at ex
      cases ex
      refine ⟨rfl, ?_⟩
      refine iteT ⟨_, rfl, rfl, _, h2, ?_, hjl, ?_, ?_⟩
      · have := big (i + 1)
        rw [tk, List.length_append] at this
        have e : (nzR (rows[i].take j)).length ≤ (nzR rows[i]).length := by
          unfold nzR
          rw [List.length_map, List.length_map, List.length_take]
          omega
        rw [List.length_append, sizeLine_eq]
        omega
      · rw [upd_same, List.append_assoc]
        unfold nzR
        rw [List.take_succ, List.getElem?_eq_getElem hjl, List.map_append]
        rfl
      · intro q o e
        rw [upd_ne (ne_of_none e hD)]
        exact s2 _ _ e
    · have e : j = rows[i].length := by omega
      subst e
      rw [List.take_length] at h2
      refine .inl ⟨⟨_, sq2, by rw [List.length_map]; exact Nat.le_refl _⟩, hlt, by rw [tk]; exact h2, s2⟩
  · have e : i = rows.length := by omega
    subst e
    rw [List.take_length] at h1
    refine .inl ⟨⟨xs, Same.sqT s1 hx, by rw [hlen]; exact Nat.le_refl _⟩, D, rows.flatMap fun r => r.map nz, rfl, SqL.of ?_, _, rfl, ?_⟩
    · rw [h1, List.map_flatMap]
      unfold nzR
      simp only [List.map_map]
      rfl
    · rw [nz_any, Bool.not_not]
      exact k _ s1
end
end Bo

/-! The program's leaves: put_leaf. -/
namespace Bo
open PySem PySem.Spec L2 PyProof.Rows
theorem runG {l : Ev} {s : CoSt Kk} {N : Nat} (g : Good s N) : Good (run s l) (N + l.length) := run_good (N := 0) g
theorem evLeaf_len (n : Nat) (l : Leaf) : (evLeaf n l).length = (evNum "mode" (modes.idxOf l.mode : Nat)).length + ((evMot l).length + ((evNum "q" (facs.idxOf l.q : Nat)).length + (evEmp n l.rows).length)) := by
  unfold evLeaf
  rw [List.length_append, List.length_append, List.length_append]
@[irreducible] def spPutLeaf (K : PySem.W.Frag) : Sp := fun vs H Q _ => ∃ (c iv d : Addr) (p : V) (s : CoSt Kk) (l : Leaf) (n N : Nat), vs = [.ref c, p, .int (n : Nat)] ∧ CoAt K H c iv d s ∧ Good s N ∧ N + (evLeaf n l).length ≤ 100000 ∧ Dp K H p l.data ∧ l.Ok n ∧ n ≤ 8 ∧
  ∀ H', CoAt K H' c iv d (run s (evLeaf n l)) → Upto [iv, d] H H' → Q .non H'
/-- a statement, then the rest; what stands between is said once -/
def tMid (t u : TS) : TS := fun D σ H => ∃ M : L2.St → Hp → Prop, t { D with nx := M } σ H ∧ ∀ σ' H', M σ' H' → u D σ' H'
theorem pss_mid {X : Cx} {st : Stmt} {rest : List Stmt} {t u : TS} (a : PS X st t) (b : PSs X rest u) : PSs X (st :: rest) (tMid t u) := by
  have e := pss_cons a b
  refine ⟨fun pins s σ H D I ⟨M, hm, hu⟩ => ?_⟩
  refine wpAny_execs_cons (thn (a.run pins s σ H { D with nx := M } I hm) fun fl s' q => ?_)
  cases fl with
  | brk => exact q
  | cont => exact q
  | ret v => exact q
  | next =>
    obtain ⟨σ1, H1, I1, q⟩ := q
    exact b.run pins s' σ1 H1 D I1 (hu σ1 H1 q)
section
variable {w : World} {K : PySem.W.Frag} {mg : Str → Option Value} {base : Heap}
theorem ok_put_leaf (T : Tx K mg) (D_put_number : Dfn pr w K mg base CX0 4 "put_number" (spPutNum K)) (D_put_signed : Dfn pr w K mg base CX0 5 "put_signed" (spPutSig K)) (D_word_at : Dfn pr w K mg base CX0 1 "word_at" spWord) (D_is_empty : Dfn pr w K mg base CX0 1 "is_empty" (spEmpty K)) (M_put : Mtd pr w K mg base CX0 3 "Coder" "put" (spPut K)) : Dfn pr w K mg base CX0 6 "put_leaf" (spPutLeaf K) := by
  refine mk_dfn (x_put_leaf T) (g_put_leaf T) sc_put_leaf (fun vs H Q E h => by unfold spPutLeaf at h; obtain ⟨_, _, _, _, _, _, _, _, rfl, _⟩ := h; rfl) fun cdv A outer s H vs Q E hr h => ?_
  unfold spPutLeaf at h
  obtain ⟨c, iv, d, p, st, l, n, N, rfl, ca, g, hN, dp, ok, hn, kq⟩ := h
  rw [evLeaf_len] at hN
  refine ⟨_, PSs.nox (pss_cons (ps_asg (pv 1) (pg_tup rfl (pgs_cons (pg_name (i := 3) sc_put_leaf.nd rfl (Or.inl rfl)) (pgs_cons (pg_name (i := 4) sc_put_leaf.nd rfl (Or.inl rfl)) (pgs_cons (pg_name (i := 5) sc_put_leaf.nd rfl (Or.inl rfl)) (pgs_cons (pg_name (i := 6) sc_put_leaf.nd rfl (Or.inl rfl)) (pgs_cons (pg_name (i := 7) sc_put_leaf.nd rfl (Or.inl rfl)) (pgs_cons (pg_name (i := 8) sc_put_leaf.nd rfl (Or.inl rfl)) (pgs_cons (pg_name (i := 9) sc_put_leaf.nd rfl (Or.inl rfl)) pgs_nil)))))))))
 (pss_cons (ps_expr (pe_cal D_put_number hr (by decide) pass0 (pa_cons (pv 0) (pa_cons pe_str (pa_cons (pe_bm PySem.F.plainAttrs_tuple PySem.F.slot_tuple_index PySem.F.type_tuple_index mt_tixS (pe_glob (v := .ref (He.ga K "MODES")) rfl (g_MODES T) rfl) (pa_cons (pv 4) pa_nil)) pa_nil)))))
 (pss_mid (ps_if (pt_cmpR op_eq (pv 4) pe_str (nomark _))
 (pss_cons (ps_expr (pe_cal D_put_number hr (by decide) pass0 (pa_cons (pv 0) (pa_cons pe_str (pa_cons (pv 5) pa_nil)))))
 (pss_cons (ps_expr (pe_cal D_put_signed hr (by decide) pass0 (pa_cons (pv 0) (pa_cons pe_str (pa_cons (pv 6) pa_nil)))))
 (pss_one (ps_expr (pe_cal D_put_signed hr (by decide) pass0 (pa_cons (pv 0) (pa_cons pe_str (pa_cons (pv 7) pa_nil))))))))
 pss_nil)
 (pss_cons (ps_expr (pe_cal D_put_number hr (by decide) pass0 (pa_cons (pv 0) (pa_cons pe_str (pa_cons (pe_bm PySem.F.plainAttrs_tuple PySem.F.slot_tuple_index PySem.F.type_tuple_index mt_tixI (pe_glob (v := .ref (He.ga K "FACTORS")) rfl (g_FACTORS T) rfl) (pa_cons (pv 8) pa_nil)) pa_nil)))))
 (pss_cons (ps_if (pt_val (pe_cal D_is_empty hr (by decide) pass0 (pa_cons (pv 9) pa_nil)))
 (pss_cons (ps_expr (pe_mtd M_put hr (by decide) pass0 (pv 0) (pa_cons (pe_tup (pa_cons pe_str (pa_cons (pv 2) pa_nil))) (pa_cons pe_int pa_nil))))
 (pss_one ps_retN))
 pss_nil)
 (pss_cons (ps_expr (pe_mtd M_put hr (by decide) pass0 (pv 0) (pa_cons (pe_tup (pa_cons pe_str (pa_cons (pv 2) pa_nil))) (pa_cons pe_int pa_nil))))
 (pss_one (ps_for PassesOwn.never rfl (pi_enumT rfl (f_enumerate T) (pa_cons (pv 9) pa_nil)) (pg_tup rfl (pgs_cons (pg_name (i := 10) sc_put_leaf.nd rfl (Or.inl rfl)) (pgs_cons (pg_name (i := 11) sc_put_leaf.nd rfl (Or.inl rfl)) pgs_nil)))
 (pss_one (ps_for PassesOwn.never rfl (pi_enumT rfl (f_enumerate T) (pa_cons (pv 11) pa_nil)) (pg_tup rfl (pgs_cons (pg_name (i := 12) sc_put_leaf.nd rfl (Or.inl rfl)) (pgs_cons (pg_name (i := 13) sc_put_leaf.nd rfl (Or.inl rfl)) pgs_nil)))
 (pss_one (ps_expr (pe_cal D_put_signed hr (by decide) pass0 (pa_cons (pv 0) (pa_cons (pe_cal D_word_at hr (by decide) pass0 (pa_cons (pv 10) (pa_cons (pv 12) pa_nil))) (pa_cons (pv 13) pa_nil)))))))))))))))), ?_⟩
  cases dp with
  | @tup a xs _ hx hxs =>
  obtain ⟨v0, v1, v2, v3, v4, v5, v6, rfl, p0, p1, p2, p3, p4, p5, p6⟩ := dpAll7 hxs
  cases p1
  cases p2
  cases p3
  cases p4
  cases p5
  cases p6 with
  | @tup b ys _ hy hys =>
  have hrow := rowsAt hys
  refine ⟨_, rfl, a, _, rfl, hx, rfl, _, _, rfl, _, _, rfl, _, _, rfl, _, _, rfl, _, _, rfl, _, _, rfl, _, _, rfl, rfl, ?_⟩
  have i1 : (modes.idxOf l.mode : Nat) < 5 := List.idxOf_lt_length_of_mem ok.mode
  have i2 : (facs.idxOf l.q : Nat) < 7 := List.idxOf_lt_length_of_mem ok.q
  refine ⟨_, rfl, u_MODES T _, _, rfl, _, modes, l.mode, rfl, rfl, modesT T _, ok.mode, ?_⟩
  refine putNum_do ca g (by omega) (by omega) (by omega) fun H1 c1 u1 => ?_
  have g1 := runG (l := evNum "mode" (modes.idxOf l.mode : Nat)) g
  generalize hs1 : run st (evNum "mode" (modes.idxOf l.mode : Nat)) = s1 at c1 g1
  refine ⟨fun σ' H' => σ' = [some (.ref c), some (.ref a), some (.int (n : Nat)), some v0, some (.str l.mode), some (.int l.slot), some (.int l.dy), some (.int l.dx), some (.int l.q), some (.ref b), none, none, none, none] ∧ CoAt K H' c iv d (run s1 (evMot l)) ∧ Upto [iv, d] H H', ?_, ?_⟩
  · refine ⟨_, rfl, rfl, _, rfl, ?_⟩
    refine ite2 (fun hc => ?_) (fun hc => ?_)
    · have hm : l.mode = "motion" := by
        have h3 := of_decide_eq_true hc
        injection h3
      have em : evMot l = evNum "slot" l.slot ++ (evNum "dy" (fold l.dy) ++ evNum "dx" (fold l.dx)) := if_pos hm
      rw [em, List.length_append, List.length_append] at hN
      have := ok.slot
      have := ok.dy
      have := ok.dx
      refine ⟨_, rfl, _, rfl, putNum_do c1 g1 (by omega) (by omega) (by omega) fun H2 c2 u2 => ?_⟩
      have g2 := runG (l := evNum "slot" l.slot) g1
      refine ⟨_, rfl, _, rfl, putSig_do c2 g2 (by omega) (by omega) (by omega) fun H3 c3 u3 => ?_⟩
      have g3 := runG (l := evNum "dy" (fold l.dy)) g2
      refine ⟨_, rfl, _, rfl, putSig_do c3 g3 (by omega) (by omega) (by omega) fun H4 c4 u4 => ?_⟩
      refine ⟨rfl, ?_, u1.trans (u2.trans (u3.trans u4))⟩
      rw [em, run_append, run_append]
      exact c4
    · have hm : ¬ l.mode = "motion" := fun z => hc (decide_eq_true (by rw [z]))
      have em : evMot l = [] := if_neg hm
      refine ⟨rfl, ?_, u1⟩
      rw [em]
      exact c1
  · rintro σ' H2 ⟨rfl, c2, u2⟩
    have g2 := runG (l := evMot l) g1
    generalize hs2 : run s1 (evMot l) = s2 at c2 g2
    refine ⟨_, rfl, u_FACTORS T _, _, rfl, _, facs, l.q, rfl, rfl, facsT T _, ok.q, ?_⟩
    refine putNum_do c2 g2 (by omega) (by omega) (by omega) fun H3 c3 u3 => ?_
    have g3 := runG (l := evNum "q" (facs.idxOf l.q : Nat)) g2
    generalize hs3 : run s2 (evNum "q" (facs.idxOf l.q : Nat)) = s3 at c3 g3
    have u3 : Upto [iv, d] H H3 := u2.trans u3
    have fin : ∀ H', CoAt K H' c iv d (run s3 (evEmp n l.rows)) → Upto [iv, d] H H' → Q .non H' := fun H' c4 u4 => by
      refine kq H' ?_ u4
      unfold evLeaf
      rw [run_append, hs1, run_append, hs2, run_append, hs3]
      exact c4
    refine ⟨_, rfl, b, ys, l.rows, n, rfl, u3.sqT hy, hrow.mono u3, ok.sq, hn, fun H4 s4 => ?_⟩
    have c3 := c3.same s4
    have u3 : Upto [iv, d] H H4 := u3.trans (Upto.of s4)
    obtain ⟨dc, hc1⟩ := c3.1
    refine ⟨_, rfl, ?_⟩
    rcases ff_tt (emptyR l.rows) with z | z
    · rw [z]
      have ee : evEmp n l.rows = (k2 "empty" (n : Int), 0) :: evLv n l.rows := by
        unfold evEmp
        rw [z]
        rfl
      rw [ee] at fin hN
      rw [List.length_cons] at hN
      refine iteF ⟨_, rfl, c, dc, _, rfl, hc1, rfl, _, rfl, (by show 2 ≤ sizeLine; decide), fun q hq => ?_⟩
      show spPut K [.ref c, .ref q, .int 0] (upd H4 q (.tup ((k2 "empty" (n : Int)).map kV))) _ E0
      refine put_do c3 g3 (by omega) hq fun H5 c5 u5 => ?_
      have g5 := put_good g3 (k2 "empty" (n : Int)) 0
      generalize hs5 : put s3 (k2 "empty" (n : Int)) 0 = s5 at c5 g5
      have u5 : Upto [iv, d] H H5 := u3.trans u5
      have fin : ∀ H', CoAt K H' c iv d (run s5 (evLv n l.rows)) → Upto [iv, d] H H' → Q .non H' := fun H' c6 u6 => by
        refine fin H' ?_ u6
        rw [run_cons, hs5]
        exact c6
      refine ⟨_, rfl, b, ys, rfl, u5.sqT hy, ?_⟩
      have hlr := ok.sq.len
      have hly := hrow.1
      refine for_it (walk_enumT (xs := ys)) (fun i σ H' => ∃ x1 x2 x3 x4, σ = [some (.ref c), some (.ref a), some (.int (n : Nat)), some v0, some (.str l.mode), some (.int l.slot), some (.int l.dy), some (.int l.dx), some (.int l.q), some (.ref b), x1, x2, x3, x4] ∧
        CoAt K H' c iv d (run s5 ((List.range i).flatMap fun i => evRow n i (l.rows.getD i []))) ∧ Upto [iv, d] H H') ⟨none, none, none, none, rfl, c5, u5⟩ (fun i σ H' _ h => ?_) ?_ ?_
      · obtain ⟨_, _, _, _, _, _, u6⟩ := h
        exact u6.sqT hy
      · rintro i x σ H6 H7 hi ⟨x1, x2, x3, x4, rfl, c6, u6⟩ ⟨TT, y1, y2, rfl, hT, rfl, e1, e2⟩
        cases e1
        have hir : i < l.rows.length := by omega
        obtain ⟨bi, hb1, hb2⟩ := hrow.2 i l.rows[i] (List.getElem?_eq_getElem hir)
        have e2 : ys[i]? = some y2 := e2
        rw [hb1] at e2
        cases e2
        have er : l.rows.getD i [] = l.rows[i] := by simp [List.getD, hir]
        have hrl := ok.sq.row l.rows[i] (List.getElem_mem hir)
        have hlv := ok.sq.lv l.rows[i] (List.getElem_mem hir)
        generalize l.rows[i] = r at hb2 er hrl hlv
        refine ⟨TT, _, rfl, SqT.of upd_same, rfl, _, _, rfl, _, _, rfl, rfl, ?_⟩
        have u7 : Upto [iv, d] H (upd H6 TT (.tup [.int (i : Nat), .ref bi])) := u6.trans (Upto.new hT)
        have c7 := c6.same (Same.new (o := .tup [.int (i : Nat), .ref bi]) hT)
        have lenI := flat_split (f := fun i => evRow n i (l.rows.getD i [])) (i := i) (n := n) (by omega)
        have lenE : (evLv n l.rows).length = ((List.range n).flatMap fun i => evRow n i (l.rows.getD i [])).length := rfl
        rw [er] at lenI
        refine ⟨_, rfl, bi, _, rfl, u7.sqT hb2, ?_⟩
        refine for_it (walk_enumT (xs := r.map V.int)) (fun k σ H' => ∃ x3 x4, σ = [some (.ref c), some (.ref a), some (.int (n : Nat)), some v0, some (.str l.mode), some (.int l.slot), some (.int l.dy), some (.int l.dx), some (.int l.q), some (.ref b), some (.int (i : Nat)), some (.ref bi), x3, x4] ∧
          CoAt K H' c iv d (run s5 (((List.range i).flatMap fun i => evRow n i (l.rows.getD i [])) ++ (List.range k).flatMap fun k => evCell i k r)) ∧ Upto [iv, d] H H') ⟨x3, x4, rfl, by rw [List.range_zero, List.flatMap_nil, List.append_nil]; exact c7, u7⟩ (fun k σ H' _ h => ?_) ?_ ?_
        · obtain ⟨_, _, _, _, u8⟩ := h
          exact u8.sqT hb2
        · rintro k x σ H8 H9 hk ⟨x3, x4, rfl, c8, u8⟩ ⟨TT2, y1, y2, rfl, hT2, rfl, e1, e2⟩
          cases e1
          rw [List.length_map] at hk
          have e2 : (r.map V.int)[k]? = some y2 := e2
          rw [List.getElem?_map, List.getElem?_eq_getElem hk] at e2
          cases e2
          have ek : r.getD k 0 = r[k] := by simp [List.getD, hk]
          have hv := hlv r[k] (List.getElem_mem hk)
          have lenK := flat_split (f := fun k => evCell i k r) (i := k) (n := n) (by omega)
          have lenR : (evRow n i r).length = ((List.range n).flatMap fun k => evCell i k r).length := rfl
          refine ⟨TT2, _, rfl, SqT.of upd_same, rfl, _, _, rfl, _, _, rfl, rfl, ?_⟩
          have c9 := c8.same (Same.new (o := .tup [.int (k : Nat), .int r[k]]) hT2)
          have g9 := runG (l := ((List.range i).flatMap fun i => evRow n i (l.rows.getD i [])) ++ (List.range k).flatMap fun k => evCell i k r) g5
          have ec : evNum (word i k) (fold r[k]) = evCell i k r := by
            unfold evCell
            rw [ek]
          refine ⟨_, rfl, _, rfl, _, rfl, i, k, rfl, _, rfl, putSig_do c9 g9 ?_ (by omega) (by omega) fun H10 c10 u10 => ⟨_, _, rfl, ?_, u8.trans ((Upto.new hT2).trans u10)⟩⟩
          · rw [ec, List.length_append]
            omega
          · rw [flat_succ, ← List.append_assoc, run_append, ← ec]
            exact c10
        · rintro σ H8 ⟨x3, x4, rfl, c8, u8⟩
          refine ⟨_, _, _, _, rfl, ?_, u8⟩
          rw [flat_succ, er]
          rw [List.length_map, hrl] at c8
          exact c8
      · rintro σ H6 ⟨x1, x2, x3, x4, rfl, c6, u6⟩
        rw [hly, hlr] at c6
        exact fin H6 c6 u6
    · rw [z]
      have ee : evEmp n l.rows = [(k2 "empty" (n : Int), 1)] := by
        unfold evEmp
        rw [z]
        rfl
      rw [ee] at fin hN
      rw [List.length_singleton] at hN
      refine iteT ⟨_, rfl, c, dc, _, rfl, hc1, rfl, _, rfl, (by show 2 ≤ sizeLine; decide), fun q hq => ?_⟩
      show spPut K [.ref c, .ref q, .int 1] (upd H4 q (.tup ((k2 "empty" (n : Int)).map kV))) _ E0
      exact put_do c3 g3 (by omega) hq fun H5 c5 u5 => fin H5 c5 (u3.trans u5)
end
end Bo

/-! The program's trees, written; octets_of, band_octets. -/
namespace Bo
open PySem PySem.Spec L2 PyProof.Rows
/-- some trees and what each puts -/
def TL (m : Nat) (ds : List PyData) (ls : List Ev) : Prop := ds.length = ls.length ∧ ∀ (i : Nat) (d : PyData) (l : Ev), ds[i]? = some d → ls[i]? = some l → TreeE m d l
theorem TL.of4 {m : Nat} {a b c d : PyData} {la lb lc ld : Ev} (ha : TreeE m a la) (hb : TreeE m b lb) (hc : TreeE m c lc) (hd : TreeE m d ld) : TL m [a, b, c, d] [la, lb, lc, ld] :=
  ⟨rfl, fun i x l h1 h2 => by
    match i, h1, h2 with
    | 0, h1, h2 => cases h1; cases h2; exact ha
    | 1, h1, h2 => cases h1; cases h2; exact hb
    | 2, h1, h2 => cases h1; cases h2; exact hc
    | 3, h1, h2 => cases h1; cases h2; exact hd
    | _ + 4, h1, _ => cases h1⟩
theorem TL.nil {m : Nat} : TL m [] [] := ⟨rfl, fun _ _ _ h => by cases h⟩
theorem TL.cons {m : Nat} {d : PyData} {l : Ev} {ds : List PyData} {ls : List Ev} (h : TreeE m d l) (t : TL m ds ls) : TL m (d :: ds) (l :: ls) :=
  ⟨by rw [List.length_cons, List.length_cons, t.1], fun i x y h1 h2 => by
    cases i with
    | zero => cases h1; cases h2; exact h
    | succ i => exact t.2 i x y h1 h2⟩
theorem TL.of_band : ∀ {ts : List PyData} {l : Ev}, BandE ts l → ∃ ls : List Ev, TL 2 ts ls ∧ ls.flatten = l
  | _, _, .nil => ⟨[], TL.nil, rfl⟩
  | _, _, .cons h hs => by
    obtain ⟨ls, h1, h2⟩ := TL.of_band hs
    exact ⟨_ :: ls, TL.cons h h1, by rw [List.flatten_cons, h2]⟩
theorem flat_take {α : Type} {ls : List (List α)} {i : Nat} {l : List α} (h : ls[i]? = some l) : (ls.take (i + 1)).flatten = (ls.take i).flatten ++ l := by
  rw [List.take_succ, h, List.flatten_append]
  simp
theorem flat_take_le {α : Type} {ls : List (List α)} {i : Nat} {l : List α} (h : ls[i]? = some l) : (ls.take i).flatten.length + l.length ≤ ls.flatten.length := by
  have e : ls.flatten = (ls.take (i + 1)).flatten ++ (ls.drop (i + 1)).flatten := by rw [← List.flatten_append, List.take_append_drop]
  rw [e, flat_take h, List.length_append, List.length_append]
  omega
@[irreducible] def spPutTree (K : PySem.W.Frag) (m : Nat) : Sp := fun vs H Q _ => ∃ (c iv d : Addr) (p : V) (s : CoSt Kk) (dt : PyData) (l : Ev) (N : Nat), vs = [.ref c, p, .int (nn m : Nat)] ∧ CoAt K H c iv d s ∧ Good s N ∧ N + l.length ≤ 100000 ∧ Dp K H p dt ∧ TreeE m dt l ∧
  ∀ H', CoAt K H' c iv d (run s l) → Upto [iv, d] H H' → Q .non H'
theorem putLeaf_do {K : PySem.W.Frag} {H : Hp} {c iv d : Addr} {p : V} {s : CoSt Kk} {l : Leaf} {n N : Nat} {Q : VK} {E : XK} (ca : CoAt K H c iv d s) (g : Good s N) (hN : N + (evLeaf n l).length ≤ 100000) (dp : Dp K H p l.data) (ok : l.Ok n) (hn : n ≤ 8)
    (hq : ∀ H', CoAt K H' c iv d (run s (evLeaf n l)) → Upto [iv, d] H H' → Q .non H') : spPutLeaf K [.ref c, p, .int (n : Nat)] H Q E := by
  unfold spPutLeaf
  exact ⟨c, iv, d, p, s, l, n, N, rfl, ca, g, hN, dp, ok, hn, hq⟩
theorem putTree_do {K : PySem.W.Frag} {m : Nat} {H : Hp} {c iv d : Addr} {p : V} {s : CoSt Kk} {dt : PyData} {l : Ev} {N : Nat} {Q : VK} {E : XK} (ca : CoAt K H c iv d s) (g : Good s N) (hN : N + l.length ≤ 100000) (dp : Dp K H p dt) (te : TreeE m dt l)
    (hq : ∀ H', CoAt K H' c iv d (run s l) → Upto [iv, d] H H' → Q .non H') : spPutTree K m [.ref c, p, .int (nn m : Nat)] H Q E := by
  unfold spPutTree
  exact ⟨c, iv, d, p, s, dt, l, N, rfl, ca, g, hN, dp, te, hq⟩
theorem gt_two (m : Nat) : decide ((2 : Int) < (nn m : Nat)) = decide (m ≠ 0) := by
  cases m with
  | zero => rfl
  | succ m =>
    have : 0 < 2 ^ m := Nat.pow_pos (by decide)
    rw [decide_eq_true (by unfold nn; rw [Nat.pow_succ, Nat.pow_succ]; omega), decide_eq_true (by omega)]
section
variable {w : World} {K : PySem.W.Frag} {mg : Str → Option Value} {base : Heap}
theorem void_put_tree (T : Tx K mg) : Dfn pr w K mg base CX0 1 "put_tree" spNone :=
  mk_dfn (x_put_tree T) (g_put_tree T) sc_put_tree (fun vs H Q E h => h.elim) fun cdv A outer s H vs Q E hr h => h.elim
theorem step_put_tree (T : Tx K mg) {k m : Nat} {sp : Sp} (hm : m ≤ 2) (hk : 6 ≤ k) (D_put_leaf : Dfn pr w K mg base CX0 6 "put_leaf" (spPutLeaf K)) (M_put : Mtd pr w K mg base CX0 3 "Coder" "put" (spPut K)) (D_put_tree : Dfn pr w K mg base CX0 k "put_tree" sp) (hsp : ∀ m', m = m' + 1 → sp = spPutTree K m') : Dfn pr w K mg base CX0 (k + 1) "put_tree" (spPutTree K m) := by
  refine mk_dfn (x_put_tree T) (g_put_tree T) sc_put_tree (fun vs H Q E h => by unfold spPutTree at h; obtain ⟨_, _, _, _, _, _, _, _, rfl, _⟩ := h; rfl) fun cdv A outer s H vs Q E hr h => ?_
  unfold spPutTree at h
  obtain ⟨c, iv, d, p, st, dt, l, N, rfl, ca, g, hN, dp, te, kq⟩ := h
  refine ⟨_, PSs.nox (pss_cons (ps_set (i := 3) sc_put_tree.nd rfl (Or.inl rfl) (pe_cmpR op_eq (pe_ix ix_tup (pv 1) pe_int (fun _ _ => rfl)) pe_str (nomark _)))
 (pss_mid (ps_if (pt_cmpR op_gt (pv 2) (pe_num (n_LEAST_AREA T)) (nomark _))
 (pss_one (ps_expr (pe_mtd M_put hr (by omega) pass0 (pv 0) (pa_cons (pe_tup (pa_cons pe_str (pa_cons (pv 2) pa_nil))) (pa_cons (pe_ifExp (pt_val (pv 3)) pe_int pe_int) pa_nil)))))
 pss_nil)
 (pss_cons (ps_if (pt_not (pt_val (pv 3)))
 (pss_cons (ps_expr (pe_cal D_put_leaf hr (by omega) pass0 (pa_cons (pv 0) (pa_cons (pv 1) (pa_cons (pv 2) pa_nil)))))
 (pss_one ps_retN))
 pss_nil)
 (pss_one (ps_for PassesOwn.never rfl (pi_tup (pe_ix ix_tup (pv 1) pe_int (fun _ _ => rfl))) (pg_name (i := 4) sc_put_tree.nd rfl (Or.inl rfl))
 (pss_one (ps_expr (pe_cal D_put_tree hr (by omega) pass0 (pa_cons (pv 0) (pa_cons (pv 4) (pa_cons (pe_op op_fdiv (pv 2) pe_int) pa_nil))))))))))), ?_⟩
  have start : ∀ (b : Int) (tl : Ev) (isb : Bool), l = evSpl m b ++ tl → b = (if isb = true then 1 else 0) → ∀ (u : TS) (D : Ends) (a : Addr), (∀ H', CoAt K H' c iv d (run st (evSpl m b)) → Upto [iv, d] H H' → u D [some (.ref c), some (.ref a), some (.int (nn m : Nat)), some (.bl isb), none] H') →
      tMid (tIfS (tTest (tOp (rI0 fun i j => V.bl (decide (j < i))) (tVar 2) (tC (V.int 2)))) (tDrop (tMeth (He.ga K "Coder") "put" (spPut K) [] E0 (tVar 0) (tCons (tTup (tCons (tC (V.str "split")) (tCons (tVar 2) tNil))) (tCons (tIf (tB (tVar 3)) (tC (V.int 1)) (tC (V.int 0))) tNil)))) tNext) u D [some (.ref c), some (.ref a), some (.int (nn m : Nat)), some (.bl isb), none] H := by
    intro b tl isb el eb u D a hu
    refine ⟨fun σ' H' => σ' = [some (.ref c), some (.ref a), some (.int (nn m : Nat)), some (.bl isb), none] ∧ CoAt K H' c iv d (run st (evSpl m b)) ∧ Upto [iv, d] H H', ?_, ?_⟩
    · refine ⟨_, rfl, _, _, rfl, rfl, _, rfl, ?_⟩
      rw [gt_two]
      obtain ⟨dc, hc⟩ := ca.1
      cases m with
      | zero => exact iteF ⟨rfl, ca, .refl⟩
      | succ m =>
        refine iteT ⟨_, rfl, c, dc, _, rfl, hc, rfl, _, rfl, (by show 2 ≤ sizeLine; decide), fun q hq => ?_⟩
        refine ⟨_, rfl, _, rfl, ?_⟩
        have hN1 : N + 1 ≤ 100000 := by
          rw [el, List.length_append] at hN
          have : (evSpl (m + 1) b).length = 1 := rfl
          omega
        have go : ∀ bb : Int, bb = b → spPut K [.ref c, .ref q, .int bb] (upd H q (.tup ((k2 "split" (nn (m + 1) : Nat)).map kV))) (fun _ H' => [some (V.ref c), some (.ref a), some (.int (nn (m + 1) : Nat)), some (.bl isb), none] = [some (V.ref c), some (.ref a), some (.int (nn (m + 1) : Nat)), some (.bl isb), none] ∧ CoAt K H' c iv d (run st (evSpl (m + 1) b)) ∧ Upto [iv, d] H H') E0 := by
          rintro bb rfl
          exact put_do ca g (by omega) hq fun H5 c5 u5 => ⟨rfl, c5, u5⟩
        cases isb with
        | true => exact iteT (go 1 eb.symm)
        | false => exact iteF (go 0 eb.symm)
    · rintro σ' H' ⟨rfl, c1, u1⟩
      exact hu H' c1 u1
  cases te with
  | @leaf _ lf ok =>
    cases dp with
    | @tup a xs _ hx hxs =>
    obtain ⟨v0, v1, v2, v3, v4, v5, v6, rfl, p0, _⟩ := dpAll7 hxs
    cases p0
    refine ⟨_, rfl, a, _, 0, _, rfl, rfl, hx, atI_nat (j := 0) rfl, rfl, ?_⟩
    refine start 0 _ false rfl rfl _ _ a fun H1 c1 u1 => ?_
    have g1 := runG (l := evSpl m 0) g
    rw [List.length_append] at hN
    refine ⟨_, rfl, _, rfl, iteT ⟨_, rfl, _, rfl, _, rfl, ?_⟩⟩
    refine putLeaf_do c1 g1 (by omega) (dp_upto u1 _ _ (noL_leaf lf) (.tup hx hxs)) ok (nn_le hm) fun H2 c2 u2 => kq H2 ?_ (u1.trans u2)
    rw [run_append]
    exact c2
  | @split m a b c' d' la lb lc ld ha hb hc hd =>
    have e2 := hsp m rfl
    subst e2
    cases dp with
    | @tup ad xs _ hx hxs =>
    cases hxs with
    | @cons v0 vs _ _ p0 ps =>
    cases ps with
    | @cons v1 vs _ _ p1 ps =>
    cases ps
    cases p0
    cases p1 with
    | @tup bd ys _ hy hys =>
    refine ⟨_, rfl, ad, _, 0, _, rfl, rfl, hx, atI_nat (j := 0) rfl, rfl, ?_⟩
    refine start 1 _ true rfl rfl _ _ ad fun H1 c1 u1 => ?_
    have g1 := runG (l := evSpl (m + 1) 1) g
    rw [List.length_append] at hN
    generalize hs1 : run st (evSpl (m + 1) 1) = s1 at c1 g1
    have tl := TL.of4 ha hb hc hd
    have ef : [la, lb, lc, ld].flatten = la ++ (lb ++ (lc ++ ld)) := by simp
    have hnl : noLAll [a, b, c', d'] = true := by simp only [noLAll, noL_tree ha, noL_tree hb, noL_tree hc, noL_tree hd, Bool.and_self]
    rw [← ef] at hN kq
    have hly := dpAll_length hys
    generalize [a, b, c', d'] = ds at hys tl hnl hly
    generalize [la, lb, lc, ld] = ls at tl hN kq
    refine ⟨_, rfl, _, rfl, iteF ?_⟩
    refine ⟨_, rfl, ad, _, 1, _, rfl, rfl, u1.sqT hx, atI_nat (j := 1) rfl, bd, rfl, ⟨ys, u1.sqT hy⟩, ?_⟩
    refine for_tup (xs := ys) (fun i σ H' => ∃ z, σ = [some (.ref c), some (.ref ad), some (.int (nn (m + 1) : Nat)), some (.bl true), z] ∧ CoAt K H' c iv d (run s1 (ls.take i).flatten) ∧ Upto [iv, d] H H') ⟨none, rfl, c1, u1⟩ (fun i σ H' _ h => ?_) ?_ ?_
    · obtain ⟨_, _, _, u2⟩ := h
      exact u2.sqT hy
    · rintro i x σ H2 hi ⟨z, rfl, c2, u2⟩
      obtain ⟨di, hdi, dpi⟩ := dpAll_get hys hi
      have hil : i < ls.length := by
        rw [← tl.1]
        exact (List.getElem?_eq_some_iff.mp hdi).1
      have hli := List.getElem?_eq_getElem hil
      have ti := tl.2 i di _ hdi hli
      have lt_ := flat_take_le hli
      have g2 := runG (l := (ls.take i).flatten) g1
      refine ⟨_, rfl, _, rfl, _, rfl, _, _, rfl, rfl, ⟨by decide, by decide⟩, ?_⟩
      have key := putTree_do (m := m) (Q := fun _ H' => ∃ z, [some (V.ref c), some (V.ref ad), some (V.int (nn (m + 1) : Nat)), some (V.bl true), some x] = [some (.ref c), some (.ref ad), some (.int (nn (m + 1) : Nat)), some (.bl true), z] ∧ CoAt K H' c iv d (run s1 (ls.take (i + 1)).flatten) ∧ Upto [iv, d] H H') (E := E0) c2 g2 (by omega) (dp_upto u2 _ _ (noL_tree ti) dpi) ti
        (fun H3 c3 u3 => ⟨_, rfl, by rw [flat_take hli, run_append]; exact c3, u2.trans u3⟩)
      rw [← nn_half] at key
      exact key
    · rintro σ H2 ⟨z, rfl, c2, u2⟩
      have e : ys.length = ls.length := by rw [hly, tl.1]
      rw [e, List.take_length] at c2
      refine kq H2 ?_ u2
      rw [run_append, hs1]
      exact c2
end
end Bo

/-! octets_of, band_octets. -/
namespace Bo
open PySem PySem.Spec L2 PyProof.Rows
/-- the octets of what is put stand at q -/
def OctQ (H : Hp) (l : Ev) (Q : VK) : Prop := ∀ (H' : Hp) (q : Addr) (oc : List Int), Same H H' → IsOct (run st0 l) oc → oc.length ≤ 2000 → H' q = some (.tup (oc.map V.int)) → Q (.ref q) H'
def spOctOf (K : PySem.W.Frag) : Sp := fun vs H Q _ => ∃ v ts l, vs = [v] ∧ Dp K H v (.tuple ts) ∧ BandE ts l ∧ l.length ≤ 8000 ∧ OctQ H l Q
def spBand (K : PySem.W.Frag) : Sp := fun vs H Q E => ∃ v d, vs = [v] ∧ Dp K H v d ∧ (bandB d = false → Refuse K H v E) ∧ (bandB d = true → ∃ ts l, d = .tuple ts ∧ BandE ts l ∧ l.length ≤ 8000 ∧ OctQ H l Q)
theorem octets_do {K : PySem.W.Frag} {H : Hp} {c iv d : Addr} {s : CoSt Kk} {N : Nat} {Q : VK} {E : XK} (ca : CoAt K H c iv d s) (g : Good s N) (hN : N ≤ 8000) (hq : ∀ (H' : Hp) (q : Addr) (l : List Int), Same H H' → IsOct s l → l.length ≤ 2000 → H' q = some (.tup (l.map V.int)) → Q (.ref q) H') : spOctets K [.ref c] H Q E :=
  ⟨c, iv, d, s, N, rfl, ca, g, hN, hq⟩
section
variable {w : World} {K : PySem.W.Frag} {mg : Str → Option Value} {base : Heap}
theorem ok_put_tree (T : Tx K mg) (D_put_leaf : Dfn pr w K mg base CX0 6 "put_leaf" (spPutLeaf K)) (M_put : Mtd pr w K mg base CX0 3 "Coder" "put" (spPut K)) : Dfn pr w K mg base CX0 9 "put_tree" (spPutTree K 2) := by
  have d0 := step_put_tree (m := 0) T (by decide) (Nat.le_refl 6) D_put_leaf M_put ((void_put_tree T).mono (by decide)) (fun m' e => by cases e)
  have d1 := step_put_tree (m := 1) T (by decide) (by decide) D_put_leaf M_put d0 (fun m' e => by injection e with e; rw [← e])
  exact step_put_tree (m := 2) T (by decide) (by decide) D_put_leaf M_put d1 (fun m' e => by injection e with e; rw [← e])
theorem ok_octets_of (T : Tx K mg) (K_Coder : Mkd pr w K mg base CX0 3 "Coder" (spCoInit K)) (D_put_tree : Dfn pr w K mg base CX0 9 "put_tree" (spPutTree K 2)) (M_octets : Mtd pr w K mg base CX0 3 "Coder" "octets" (spOctets K)) : Dfn pr w K mg base CX0 10 "octets_of" (spOctOf K) := by
  refine mk_dfn (x_octets_of T) (g_octets_of T) sc_octets_of (fun vs H Q E h => by obtain ⟨_, _, _, rfl, _⟩ := h; rfl) fun cdv A outer s H vs Q E hr h => ?_
  obtain ⟨v, ts, l, rfl, dp, be, hN, kq⟩ := h
  refine ⟨_, PSs.nox (pss_cons (ps_set (i := 1) sc_octets_of.nd rfl (Or.inl rfl) (pe_mak0 K_Coder hr (by decide) pass0))
 (pss_cons (ps_for PassesOwn.never rfl (pi_tup (pv 0)) (pg_name (i := 2) sc_octets_of.nd rfl (Or.inl rfl))
 (pss_one (ps_expr (pe_cal D_put_tree hr (by decide) pass0 (pa_cons (pv 1) (pa_cons (pv 2) (pa_cons (pe_num (n_BLOCK T)) pa_nil)))))))
 (pss_one (ps_ret (pe_mtd0 M_octets hr (by decide) pass0 (pv 1)))))), ?_⟩
  cases dp with
  | @tup a xs _ hx hxs =>
  obtain ⟨ls, tl, el⟩ := TL.of_band be
  intro c dx hc hdx ne
  refine ⟨c, dx, rfl, upd_same, fun H1 iv d c1 u1 hiv hd => ⟨rfl, ?_⟩⟩
  have s0 : Same H (upd (upd H dx (.own c)) c (.ins (He.ga K "Coder") dx [])) := fun b o e => by
    rw [upd_ne (ne_of_none e hc), upd_ne (ne_of_none e hdx)]
    exact e
  have s1 : Same H H1 := fun b o e => u1.kp b o (by simp [ne_of_none e hc]) (s0 b o e)
  have s2 : ∀ H2, Upto [iv, d] H1 H2 → Same H H2 := fun H2 u b o e => u.kp b o (by simp [ne_of_none (s0 b o e) hiv, ne_of_none (s0 b o e) hd]) (s1 b o e)
  have hly := dpAll_length hxs
  have hle : ls.flatten.length ≤ 8000 := by rw [el]; exact hN
  refine ⟨_, rfl, a, rfl, ⟨xs, Same.sqT s1 hx⟩, ?_⟩
  refine for_tup (xs := xs) (fun i σ H' => ∃ z, σ = [some (.ref a), some (.ref c), z] ∧ CoAt K H' c iv d (run st0 (ls.take i).flatten) ∧ Upto [iv, d] H1 H') ⟨none, rfl, c1, .refl⟩ (fun i σ H' _ h => ?_) ?_ ?_
  · obtain ⟨_, _, _, u2⟩ := h
    exact u2.sqT (Same.sqT s1 hx)
  · rintro i x σ H2 hi ⟨z, rfl, c2, u2⟩
    obtain ⟨di, hdi, dpi⟩ := dpAll_get hxs hi
    have hil : i < ls.length := by
      rw [← tl.1]
      exact (List.getElem?_eq_some_iff.mp hdi).1
    have hli := List.getElem?_eq_getElem hil
    have ti := tl.2 i di _ hdi hli
    have lt_ := flat_take_le hli
    have g2 := runG (l := (ls.take i).flatten) (good0 (κ := Kk))
    refine ⟨_, rfl, _, rfl, ?_⟩
    exact putTree_do (m := 2) c2 g2 (by omega) (dp_same (s2 H2 u2) _ _ dpi) ti fun H3 c3 u3 => ⟨_, rfl, by rw [flat_take hli, run_append]; exact c3, u2.trans u3⟩
  · rintro σ H2 ⟨z, rfl, c2, u2⟩
    have e : xs.length = ls.length := by rw [hly, tl.1]
    rw [e, List.take_length, el] at c2
    have g2 := runG (l := l) (good0 (κ := Kk))
    obtain ⟨dc, hc2⟩ := c2.1
    exact ⟨_, rfl, c, dc, _, rfl, hc2, rfl, octets_do (E := E0) c2 g2 (by omega) fun H3 q oc s3 io hl hq => kq H3 q oc ((s2 H2 u2).trans s3) io hl hq⟩
theorem ok_band_octets (T : Tx K mg) (D_need_band_tree : Dfn pr w K mg base (L2.CX pr w) 9 "need_band_tree" (spNeed K)) (D_octets_of : Dfn pr w K mg base CX0 10 "octets_of" (spOctOf K)) : ∃ fd, FnP K "band_octets" "band_octets" s_band_octets (He.ga K "band_octets") fd ∧ Binds K fd ["trees"] [] ∧ FnOk pr w K mg base (L2.CX pr w) 11 (He.ga K "band_octets") fd ["trees"] (spBand K) := by
  obtain ⟨fd, F, b⟩ := x_band_octets T
  refine ⟨fd, F, b, FunD.ok F sc_band_octets (fun vs H Q E h => by obtain ⟨_, _, rfl, _⟩ := h; rfl) fun cdv A outer s H vs Q E hr h => ?_⟩
  obtain ⟨v, d, rfl, hd, k1, k2⟩ := h
  refine ⟨_, (pss_one (ps_ret (pe_cal D_octets_of hr (by decide) pass0 (pa_cons (pe_cal D_need_band_tree hr (by decide) (passes_call (takes_of rfl rfl rfl rfl) (fun _ _ _ _ h => h)) (pa_cons (pv 0) pa_nil)) pa_nil)))), ?_⟩
  refine ⟨_, rfl, v, d, rfl, hd, fun hb H' s1 => ?_, fun hb => k1 hb⟩
  obtain ⟨ts, l, rfl, be, hN, kq⟩ := k2 hb
  exact ⟨v, ts, l, rfl, dp_same s1 _ _ hd, be, hN, fun H2 q oc s2 io hl hq => kq H2 q oc (s1.trans s2) io hl hq⟩
/-- the program, as the law may call it -/
structure Prog (P : Program) (w : World) (K : PySem.W.Frag) (mg : Str → Option Value) (base : Heap) : Prop where
  band : Dfn P w K mg base (L2.CX P w) 11 "band_octets" (spBand K)
  word : ∃ fd, FnOk P w K mg base (L2.CX P w) 11 (He.ga K "band_octets") fd ["trees"] (spBand K) ∧ KBinds K fd ["trees"] ["trees"] (fun us ws => us ++ ws) (fun vs zs => vs ++ zs)
theorem program (T : Tx K mg) : Prog pr w K mg base := by
  have D_figures_in := ok_figures_in (w := w) (base := base) T
  have D_folded := ok_folded (w := w) (base := base) T
  have D_word_at := ok_word_at (w := w) (base := base) T
  have K_Interval := ok_Interval (w := w) (base := base) T
  have M_cut := ok_cut (w := w) (base := base) T
  have M_narrow := ok_narrow T M_cut
  have K_Coder := ok_Coder T K_Interval
  have M_put := ok_put T M_narrow
  have M_state := ok_state (w := w) (base := base) T
  have D_figures_of := ok_figures_of (w := w) (base := base) T
  have D_octets_at := ok_octets_at T D_figures_of
  have M_octets := ok_octets T D_octets_at M_state
  have D_put_number := ok_put_number T D_figures_in M_put
  have D_put_signed := ok_put_signed T D_put_number D_folded
  have D_is_integer := ok_is_integer (w := w) (base := base) T
  have D_is_within := ok_is_within T D_is_integer
  have D_is_levels := ok_is_levels T D_is_within
  have D_is_leaf := ok_is_leaf T D_is_integer D_is_within D_is_levels
  have D_is_tree := ok_is_tree T D_is_leaf
  have D_is_band_tree := ok_is_band_tree T D_is_tree
  have D_need := ok_need_band_tree T D_is_band_tree
  have D_is_empty := ok_is_empty (w := w) (base := base) T
  have D_put_leaf := ok_put_leaf T D_put_number D_put_signed D_word_at D_is_empty M_put
  have D_put_tree := ok_put_tree T D_put_leaf M_put
  have D_octets_of := ok_octets_of T K_Coder D_put_tree M_octets
  obtain ⟨fd, F, b, G⟩ := ok_band_octets T D_need D_octets_of
  refine ⟨⟨⟨fd, ["trees"], G, b⟩, g_band_octets T, F.kp⟩, fd, G, ⟨fun s us ws X hl => ?_, fun r1 r2 => r1.append r2⟩⟩
  obtain ⟨oc, od, dV, kV, doc, pm, an, cdv,
      ct, osl, rfl, lk, hcd, hD, hK⟩ := F.ex
  rcases hD with ⟨_,
      rfl⟩ | ⟨e, _⟩
  · match us, ws, hl with
    | [], [_], _ => exact .of_eq rfl
    | [_], [], _ => exact .of_eq rfl
  · exact absurd rfl e
end
end Bo

/-! The law's coder: its list, a bit put. -/
namespace Bo
open PySem PySem.Spec L2 PyProof.Rows
def lcL (s : CoSt Kk) (d : Addr) : List V := [.int s.low, .int s.width, .int (s.count : Int), .ref d]
def LcAt (H : Hp) (a d : Addr) (s : CoSt Kk) : Prop := H a = some (.lst (lcL s d)) ∧ H d = some (.dT (vch s.ch))
theorem LcAt.ne {H : Hp} {a d : Addr} {s : CoSt Kk} (h : LcAt H a d s) : a ≠ d := ne_of h.1 h.2 (fun z => nomatch z)
theorem LcAt.same {H H' : Hp} {a d : Addr} {s : CoSt Kk} (h : LcAt H a d s) (u : Same H H') : LcAt H' a d s := ⟨u _ _ h.1, u _ _ h.2⟩
def spLCo : Sp := fun vs H Q _ => vs = [] ∧ ∀ (H' : Hp) (a d : Addr), LcAt H' a d st0 → Same H H' → H a = none → H d = none → Q (.ref a) H'
def spLNar : Sp := fun vs H Q _ => ∃ (a d q : Addr) (s : CoSt Kk) (k : Kk) (b : Int) (N : Nat), vs = [.ref a, .ref q, .int b] ∧ LcAt H a d s ∧ H q = some (.tup (k.map kV)) ∧ Good s N ∧ N ≤ 100000 ∧ ∀ H', LcAt H' a d (part s k b) → Upto [a, d] H H' → Q .non H'
@[irreducible] def spLPut : Sp := fun vs H Q _ => ∃ (a d q : Addr) (s : CoSt Kk) (k : Kk) (b : Int) (N : Nat), vs = [.ref a, .ref q, .int b] ∧ LcAt H a d s ∧ H q = some (.tup (k.map kV)) ∧ Good s N ∧ N ≤ 100000 ∧ ∀ H', LcAt H' a d (put s k b) → Upto [a, d] H H' → Q .non H'
section
variable {w : World} {K : PySem.W.Frag} {mg : Str → Option Value} {base : Heap}
theorem ok_l_coder (T : Tx K mg) : Dfn pr w K mg base CX0 1 "_law_coder" spLCo := by
  refine mk_dfn (x_l_coder T) (g_l_coder T) sc_l_coder (fun vs H Q E h => by obtain ⟨rfl, _⟩ := h; rfl) fun cdv A outer s H vs Q E hr h => ?_
  obtain ⟨rfl, k⟩ := h
  refine ⟨_, PSs.nox (pss_one (ps_ret (pe_lst (pa_cons pe_int (pa_cons pe_int (pa_cons pe_int (pa_cons pe_dnewT pa_nil))))))), ?_⟩
  intro d hd
  refine ⟨(by show 4 ≤ sizeLine; decide), fun a ha => ?_⟩
  have n : a ≠ d := fun z => by rw [z, upd_same] at ha; cases ha
  have ha0 : H a = none := by rw [upd_ne n] at ha; exact ha
  refine k _ a d ⟨upd_same, by rw [upd_ne (Ne.symm n), upd_same]; rfl⟩ ((Same.new hd).trans (Same.new ha)) ha0 hd
theorem ok_l_narrow (T : Tx K mg) : Dfn pr w K mg base CX0 1 "_law_narrow" spLNar := by
  refine mk_dfn (x_l_narrow T) (g_l_narrow T) sc_l_narrow (fun vs H Q E h => by obtain ⟨_, _, _, _, _, _, _, rfl, _⟩ := h; rfl) fun cdv A outer s H vs Q E hr h => ?_
  obtain ⟨a, d, q, st, k, b, N, rfl, la, hq, g, hN, kq⟩ := h
  have nd := la.ne
  obtain ⟨ha, hd⟩ := id la
  have mid := part_mid g k b
  have hlen : (vch st.ch).length < sizeLine := by
    rw [vch_length, sizeLine_eq]
    have := g.len
    omega
  have e := valV_vch k st.ch
  refine ⟨_, PSs.nox (pss_cons (ps_set (i := 3) sc_l_narrow.nd rfl (Or.inl rfl) (pe_ix ix_list (pv 0) pe_int (fun _ _ => rfl)))
 (pss_cons (ps_set (i := 4) sc_l_narrow.nd rfl (Or.inl rfl) pe_int)
 (pss_mid (ps_if (pt_cmp (pc_din (hu_of hr) (pv 1) (pv 3)))
 (pss_one (ps_set (i := 4) sc_l_narrow.nd rfl (Or.inl rfl) (pe_dget (hu_of hr) (pv 3) (pv 1) (fun _ _ => rfl))))
 pss_nil)
 (pss_cons (ps_set (i := 5) sc_l_narrow.nd rfl (Or.inl rfl) (pe_op op_mul (pe_op op_fdiv (pe_ix ix_list (pv 0) pe_int (fun _ _ => rfl)) pe_int) (pv 4)))
 (pss_mid (ps_if (pt_cmpR op_eq (pv 2) pe_int (nomark _))
 (pss_cons (ps_asg (pv 5) (pg_sub (pv 0) pe_int set_list))
 (pss_one (ps_set (i := 4) sc_l_narrow.nd rfl (Or.inl rfl) (pe_op op_add (pv 4) (pe_op op_fdiv (pe_op op_sub pe_int (pv 4)) pe_int)))))
 (pss_cons (ps_asg (pe_op op_add (pe_ix ix_list (pv 0) pe_int (fun _ _ => rfl)) (pv 5)) (pg_sub (pv 0) pe_int set_list))
 (pss_cons (ps_asg (pe_op op_sub (pe_ix ix_list (pv 0) pe_int (fun _ _ => rfl)) (pv 5)) (pg_sub (pv 0) pe_int set_list))
 (pss_one (ps_set (i := 4) sc_l_narrow.nd rfl (Or.inl rfl) (pe_op op_sub (pv 4) (pe_op op_fdiv (pv 4) pe_int)))))))
 (pss_one (ps_dput (hu_of hr) (pv 3) (pv 1) (pv 4) rfl))))))), ?_⟩
  refine ⟨_, rfl, a, _, 3, _, rfl, rfl, SqL.of ha, atI_nat (j := 3) rfl, ?_⟩
  refine ⟨fun σ' H' => σ' = [some (.ref a), some (.ref q), some (.int b), some (.ref d), some (.int (getC st.ch k)), none] ∧ H' = H, ?_, ?_⟩
  · refine ⟨_, rfl, _, rfl, d, _, rfl, DGet.t hd hq, _, rfl, ?_⟩
    cases hv : valV (vch st.ch) k with
    | none =>
      rw [hv] at e
      refine iteF ⟨?_, rfl⟩
      rw [← e]
      rfl
    | some v =>
      rw [hv] at e
      refine iteT ⟨_, rfl, _, rfl, d, _, rfl, (by rw [← hv]; exact DGet.t hd hq), ?_, rfl⟩
      rw [← e]
      rfl
  · rintro σ' H' ⟨rfl, rfl⟩
    refine ⟨_, rfl, a, _, 1, _, rfl, rfl, SqL.of ha, atI_nat (j := 1) rfl, _, _, rfl, rfl, ⟨by decide, by decide⟩, _, rfl, _, _, rfl, rfl, .inl ?_, ?_⟩
    · have := g.wlo
      have := g.whi
      omega
    refine ⟨fun σ' H1 => (∃ p', σ' = [some (.ref a), some (.ref q), some (.int b), some (.ref d), some (.int p'), some (.int (cut st k))] ∧ setC st.ch k p' = (part st k b).ch) ∧ H1 = upd H' a (.lst (lcL (part st k b) d)), ?_, ?_⟩
    · refine ⟨_, rfl, rfl, _, rfl, ?_⟩
      refine ite2 (fun hc => ?_) (fun hc => ?_)
      · have hb : b = 0 := by simpa using hc
        have hpart : part st k b = ⟨st.low, cut st k, st.count, setC st.ch k (getC st.ch k + (4096 - getC st.ch k) / 32)⟩ := if_pos hb
        refine ⟨_, rfl, _, rfl, a, _, 1, 1, rfl, rfl, ha, rfl, ?_⟩
        refine ⟨_, rfl, _, rfl, _, _, rfl, rfl, _, _, rfl, rfl, ⟨by decide, by decide⟩, _, _, rfl, rfl, ?_⟩
        rw [hpart]
        exact ⟨⟨_, rfl, rfl⟩, rfl⟩
      · have hb : ¬ b = 0 := by simpa using hc
        have hpart : part st k b = ⟨st.low + cut st k, st.width - cut st k, st.count, setC st.ch k (getC st.ch k - getC st.ch k / 32)⟩ := if_neg hb
        refine ⟨_, rfl, a, _, 0, _, rfl, rfl, SqL.of ha, atI_nat (j := 0) rfl, _, rfl, _, _, rfl, rfl, _, rfl, a, _, 0, 0, rfl, rfl, ha, rfl, ?_⟩
        refine ⟨_, rfl, a, _, 1, _, rfl, rfl, SqL.of upd_same, atI_nat (j := 1) rfl, _, rfl, _, _, rfl, rfl, _, rfl, a, _, 1, 1, rfl, rfl, upd_same, rfl, ?_⟩
        refine ⟨_, rfl, _, rfl, _, _, rfl, rfl, ⟨by decide, by decide⟩, _, _, rfl, rfl, ?_⟩
        rw [hpart, upd_upd]
        exact ⟨⟨_, rfl, rfl⟩, rfl⟩
    · rintro σ' H1 ⟨⟨p', rfl, ep⟩, rfl⟩
      have hd1 : upd H' a (.lst (lcL (part st k b) d)) d = some (.dT (vch st.ch)) := by rw [upd_ne (Ne.symm nd)]; exact hd
      have hq1 : upd H' a (.lst (lcL (part st k b) d)) q = some (.tup (k.map kV)) := by rw [upd_ne (ne_of hq ha (fun z => nomatch z))]; exact hq
      refine ⟨_, rfl, _, rfl, _, rfl, d, _, rfl, DPut.t hd1 hq1 hlen, ?_⟩
      rw [putK_vch k _ _ g.nd]
      refine kq _ ⟨by rw [upd_ne nd, upd_same], by rw [upd_same, ep]⟩ ((Upto.put (by simp) ha (fun z => z)).trans (Upto.put (by simp) hd1 (fun z => z)))
theorem ok_l_put (T : Tx K mg) (D_l_narrow : Dfn pr w K mg base CX0 1 "_law_narrow" spLNar) : Dfn pr w K mg base CX0 2 "_law_put" spLPut := by
  refine mk_dfn (x_l_put T) (g_l_put T) sc_l_put (fun vs H Q E h => by unfold spLPut at h; obtain ⟨_, _, _, _, _, _, _, rfl, _⟩ := h; rfl) fun cdv A outer s H vs Q E hr h => ?_
  unfold spLPut at h
  obtain ⟨a, d, q, st, k, b, N, rfl, la, hq, g, hN, kq⟩ := h
  have mid := part_mid g k b
  refine ⟨_, PSs.nox (pss_cons (ps_expr (pe_cal D_l_narrow hr (by decide) pass0 (pa_cons (pv 0) (pa_cons (pv 1) (pa_cons (pv 2) pa_nil)))))
 (pss_one (ps_for PassesOwn.never rfl (pi_range1 rfl (f_range T) (pa_cons pe_int pa_nil)) (pg_name (i := 3) sc_l_put.nd rfl (Or.inl rfl))
 (pss_one (ps_if (pt_cmpR op_lt (pe_ix ix_list (pv 0) pe_int (fun _ _ => rfl)) pe_int (nomark _))
 (pss_cons (ps_asg (pe_op op_mul (pe_ix ix_list (pv 0) pe_int (fun _ _ => rfl)) pe_int) (pg_sub (pv 0) pe_int set_list))
 (pss_cons (ps_asg (pe_op op_mul (pe_ix ix_list (pv 0) pe_int (fun _ _ => rfl)) pe_int) (pg_sub (pv 0) pe_int set_list))
 (pss_one (ps_asg (pe_op op_add (pe_ix ix_list (pv 0) pe_int (fun _ _ => rfl)) pe_int) (pg_sub (pv 0) pe_int set_list)))))
 pss_nil))))), ?_⟩
  refine ⟨_, rfl, _, rfl, _, rfl, a, d, q, st, k, b, N, rfl, la, hq, g, hN, fun H1 l1 u1 => ?_⟩
  refine ⟨4, rfl, by decide, by decide, ?_⟩
  refine for_range (n := 4) (fun i σ H' => ∃ z t, σ = [some (.ref a), some (.ref q), some (.int b), z] ∧ LcAt H' a d t ∧ Upto [a, d] H H' ∧ 65536 ≤ t.width ∧ norm t = put st k b ∧ (0 < i → t = put st k b)) ⟨none, _, rfl, l1, u1, mid.wlo, rfl, fun z => absurd z (Nat.lt_irrefl 0)⟩ ?_ ?_
  · rintro i σ H2 hi ⟨z, t, rfl, lt_, up, hw, hn, h0⟩
    obtain ⟨ha, hd⟩ := id lt_
    refine ⟨_, rfl, a, _, 1, _, rfl, rfl, SqL.of ha, atI_nat (j := 1) rfl, _, _, rfl, rfl, _, rfl, ?_⟩
    refine ite2 (fun hc => ?_) (fun hc => ?_)
    · have hlt : t.width < 16777216 := of_decide_eq_true hc
      refine ⟨_, rfl, a, _, 0, _, rfl, rfl, SqL.of ha, atI_nat (j := 0) rfl, _, _, rfl, rfl, .inr (by decide), _, rfl, a, _, 0, 0, rfl, rfl, ha, rfl, ?_⟩
      refine ⟨_, rfl, a, _, 1, _, rfl, rfl, SqL.of upd_same, atI_nat (j := 1) rfl, _, _, rfl, rfl, .inr (by decide), _, rfl, a, _, 1, 1, rfl, rfl, upd_same, rfl, ?_⟩
      refine ⟨_, rfl, a, _, 2, _, rfl, rfl, SqL.of upd_same, atI_nat (j := 2) rfl, _, _, rfl, rfl, _, rfl, a, _, 2, 2, rfl, rfl, upd_same, rfl, ?_⟩
      rw [upd_upd, upd_upd]
      have e1 : norm t = wider t := if_pos hlt
      have e2 : wider t = put st k b := by rw [← hn, e1]
      refine ⟨_, wider t, rfl, ⟨upd_same, by rw [upd_ne (Ne.symm lt_.ne)]; exact hd⟩, up.trans (Upto.put (by simp) ha (fun z => z)), ?_, ?_, fun _ => e2⟩
      · show (65536 : Int) ≤ t.width * 256
        omega
      · rw [← hn, ← e1]
        exact norm_norm hw
    · have e1 : norm t = t := if_neg fun z => hc (decide_eq_true z)
      exact ⟨_, t, rfl, lt_, up, hw, hn, fun _ => by rw [← hn, e1]⟩
  · rintro σ H2 ⟨z, t, rfl, lt_, up, hw, hn, h0⟩
    have e := h0 (by decide)
    subst e
    exact kq H2 lt_ up
end
theorem lput_do {H : Hp} {a d : Addr} {s : CoSt Kk} {p : Addr} {k : Kk} {b : Int} {N : Nat} {Q : VK} {E : XK} (la : LcAt H a d s) (g : Good s N) (hN : N ≤ 100000) (hp : H p = none) (hq : ∀ H', LcAt H' a d (put s k b) → Upto [a, d] H H' → Q .non H') :
    spLPut [.ref a, .ref p, .int b] (upd H p (.tup (k.map kV))) Q E := by
  unfold spLPut
  exact ⟨a, d, p, s, k, b, N, rfl, la.same (Same.new hp), upd_same, g, hN, fun H' c' u => hq H' c' ((Upto.new hp).trans u)⟩
end Bo

/-! The law's coder: its octets. -/
namespace Bo
open PySem PySem.Spec L2 PyProof.Rows
def pows (n : Nat) : List V := (List.range n).map fun j => V.int (256 ^ j)
theorem pows_get {n j : Nat} (h : j < n) : (pows n)[j]? = some (.int (256 ^ j)) := by
  unfold pows
  rw [List.getElem?_map, List.getElem?_range h]
  rfl
theorem pows_succ (n : Nat) : pows (n + 1) = pows n ++ [.int (256 ^ n)] := by
  unfold pows
  rw [List.range_succ, List.map_append]
  rfl
theorem pows_length (n : Nat) : (pows n).length = n := by unfold pows; simp
def spLOct : Sp := fun vs H Q _ => ∃ (a d : Addr) (s : CoSt Kk) (N : Nat), vs = [.ref a] ∧ LcAt H a d s ∧ Good s N ∧ N ≤ 8000 ∧
  ∀ (H' : Hp) (q : Addr) (l : List Int), Same H H' → IsOct s l → l.length ≤ 2000 → H' q = some (.tup (l.map V.int)) → Q (.ref q) H'
theorem loct_do {H : Hp} {a d : Addr} {s : CoSt Kk} {N : Nat} {Q : VK} {E : XK} (la : LcAt H a d s) (g : Good s N) (hN : N ≤ 8000) (hq : ∀ (H' : Hp) (q : Addr) (l : List Int), Same H H' → IsOct s l → l.length ≤ 2000 → H' q = some (.tup (l.map V.int)) → Q (.ref q) H') : spLOct [.ref a] H Q E :=
  ⟨a, d, s, N, rfl, la, g, hN, hq⟩
section
variable {w : World} {K : PySem.W.Frag} {mg : Str → Option Value} {base : Heap}
theorem ok_l_octets (T : Tx K mg) : Dfn pr w K mg base CX0 1 "_law_octets" spLOct := by
  refine mk_dfn (x_l_octets T) (g_l_octets T) sc_l_octets (fun vs H Q E h => by obtain ⟨_, _, _, _, rfl, _⟩ := h; rfl) fun cdv A outer s H vs Q E hr h => ?_
  obtain ⟨a, d, st, N, rfl, la, g, hN, kq⟩ := h
  obtain ⟨ha, hd⟩ := id la
  have hcnt := g.count_small hN
  refine ⟨_, PSs.nox (pss_cons (ps_asg (pe_slice sl_list (pv 0) po_none (po_some pe_int)) (pg_lst rfl (pgs_cons (pg_name (i := 1) sc_l_octets.nd rfl (Or.inl rfl)) (pgs_cons (pg_name (i := 2) sc_l_octets.nd rfl (Or.inl rfl)) (pgs_cons (pg_name (i := 3) sc_l_octets.nd rfl (Or.inl rfl)) pgs_nil)))))
 (pss_cons (ps_set (i := 4) sc_l_octets.nd rfl (Or.inr rfl) (pe_lst (pa_cons pe_int pa_nil)))
 (pss_cons (ps_for PassesOwn.never rfl (pi_range1 rfl (f_range T) (pa_cons (pv 3) pa_nil)) (pg_name (i := 5) sc_l_octets.nd rfl (Or.inr rfl))
 (pss_one (ps_expr (pe_bm PySem.F.plainAttrs_list PySem.F.slot_list_append PySem.F.type_list_append mt_append (pv 4) (pa_cons (pe_op op_mul (pe_ix ix_list (pv 4) (pe_un un_neg pe_int) (fun _ _ => rfl)) pe_int) pa_nil)))))
 (pss_cons (ps_for PassesOwn.never rfl (pi_range1 rfl (f_range T) (pa_cons (pe_op op_add (pv 3) pe_int) pa_nil)) (pg_name (i := 5) sc_l_octets.nd rfl (Or.inr rfl))
 (pss_cons (ps_set (i := 6) sc_l_octets.nd rfl (Or.inl rfl) (pe_ix ix_list (pv 4) (pe_op op_sub (pv 3) (pv 5)) (fun _ _ => rfl)))
 (pss_cons (ps_set (i := 7) sc_l_octets.nd rfl (Or.inr rfl) (pe_op op_fdivP (pe_op op_sub (pe_op op_add (pv 1) (pv 6)) pe_int) (pv 6)))
 (pss_one (ps_if (PW.pt (pw_and (pt_cmpR op_lt (pe_op op_mulW (pv 7) (pv 6)) (pe_op op_add (pv 1) (pv 2)) (nomark _)) (pw_and1 (pt_cmpR op_lt (pv 7) (pe_ix ix_list (pv 4) (pv 5) (fun _ _ => rfl)) (nomark _)))))
 (pss_one (ps_ret (pe_callTy call_tuple_of (by rfl) (f_tuple T) (by decide +kernel) (pa_cons (pe_lc (own := [("_law_j", 8)]) (g := gName 8) (tt := tYes) rfl sc_l_octets.nd (pi_range1 rfl (f_range T) (pa_cons (pv 5) pa_nil)) (blkOk_by (N := ["_law_coder_here", "_law_low", "_law_width", "_law_count", "_law_powers", "_law_k", "_law_unit", "_law_v", "_law_j"]) (sc := (defScope s_l_octets)) (by decide +kernel)) (fun _ _ _ _ _ => pg_name (i := 8) sc_l_octets.nd rfl (Or.inl rfl)) (fun _ _ _ _ _ => pts_nil) (fun _ _ _ _ _ => (pe_op op_mod (pe_callTy call_int1 (by rfl) (f_int T) (by decide +kernel) (pa_cons (pe_op op_fdivP (pv 7) (pe_ix (r := rIxL K) ix_list (pv 4) (pe_op op_sub (pe_op op_sub (pv 5) pe_int) (pv 8)) (fun _ _ => rfl))) pa_nil)) pe_int))) pa_nil))))
 pss_nil)))))
 (pss_one (ps_ret pe_non)))))), ?_⟩
  refine ⟨_, rfl, 3, rfl, a, _, rfl, SqL.of ha, fun p hp => ?_⟩
  refine ⟨p, [.int st.low, .int st.width, .int (st.count : Int)], rfl, SqL.of upd_same, rfl, _, _, rfl, _, _, rfl, _, _, rfl, rfl, ?_⟩
  refine ⟨(by show 1 ≤ sizeLine; decide), fun r hr1 => ?_⟩
  have s0 : Same H (upd (upd H p (.lst [.int st.low, .int st.width, .int (st.count : Int)])) r (.lst [.int 1])) := (Same.new hp).trans (Same.new hr1)
  have hr0 : H r = none := by
    have n : r ≠ p := fun z => by rw [z, upd_same] at hr1; cases hr1
    rw [upd_ne n] at hr1
    exact hr1
  refine ⟨_, rfl, (st.count : Int), rfl, by omega, by omega, ?_⟩
  rw [Int.toNat_natCast]
  refine for_range (lo := 0) (n := st.count) (fun i σ H' => ∃ z, σ = [some (.ref a), some (.int st.low), some (.int st.width), some (.int (st.count : Int)), some (.ref r), z, none, none, none] ∧ H' r = some (.lst (pows (i + 1))) ∧ Same H H') ⟨none, rfl, upd_same, s0⟩ ?_ ?_
  · rintro i σ H' hi ⟨z, rfl, h1, s1⟩
    refine ⟨_, rfl, .inl ⟨rfl, _, SqL.of h1⟩, _, rfl, _, rfl, r, _, -1, _, rfl, rfl, SqL.of h1, (by rw [pows_succ]; exact atI_last _ _), _, _, rfl, rfl, .inr (by decide), r, _, _, rfl, rfl, h1, ?_, ?_⟩
    · rw [pows_length, sizeLine_eq]
      omega
    · refine ⟨_, rfl, ?_, ?_⟩
      · rw [upd_same, pows_succ (i + 1), Int.pow_succ]
      · intro b o e
        rw [upd_ne (ne_of_none e hr0)]
        exact s1 _ _ e
  · rintro σ H1 ⟨z, rfl, h1, s1⟩
    refine ⟨_, rfl, _, _, rfl, rfl, (st.count : Int) + 1, rfl, by omega, by omega, ?_⟩
    refine for_range (lo := 0) (n := ((st.count : Int) + 1).toNat) (fun i σ H' => ∃ z u v, σ = [some (.ref a), some (.int st.low), some (.int st.width), some (.int (st.count : Int)), some (.ref r), z, u, v, none] ∧ H' = H1 ∧ ∀ j, j < i → ¬ Fnd st j) ⟨z, none, none, rfl, rfl, fun j hj => absurd hj (Nat.not_lt_zero _)⟩ ?_ ?_
    · rintro k σ H' hk ⟨z, u, v, rfl, rfl, hno⟩
      have hk : k ≤ st.count := by omega
      have ek : (0 : Int) + (k : Int) = (k : Int) := Int.zero_add _
      have hu := unit_pos st k
      have hn := num_lt (k := k) g hN
      have hn1 : (st.low + unit st k - 1).natAbs < 2 ^ 12033 := natAbs_lt_of hn.1 hn.2
      have hdiv : CDivP (st.low + unit st k - 1) (unit st k) := divP hu (Nat.lt_of_lt_of_le hn1 (Nat.pow_le_pow_right (by decide) (by decide)))
      have hc0 := ceil_nonneg g k
      have hcn : (ceilAt st k).natAbs < 2 ^ 12033 := natAbs_lt_of hc0 (ceil_lt2 g hN)
      have hmul : CMulW (ceilAt st k) (unit st k) :=
        wide_mul hcn (natAbs_lt_of (Int.le_of_lt hu) (Int.lt_of_le_of_lt (unit_le g hN) (by rw [show (2 : Int) ^ 12033 = 2 ^ 12032 * 2 from Int.pow_succ 2 12032]; have : (0 : Int) < 2 ^ 12032 := Int.pow_pos (by decide); omega))) (by decide) (by decide) (by decide)
      rw [ek]
      refine ⟨_, rfl, _, rfl, _, rfl, _, _, rfl, rfl, r, pows (st.count + 1), (st.count : Int) - (k : Int), .int (unit st k), rfl, rfl, SqL.of h1, ?_, ?_⟩
      · rw [show (st.count : Int) - (k : Int) = ((st.count - k : Nat) : Int) by omega]
        exact atI_nat (pows_get (by omega))
      refine ⟨_, rfl, _, rfl, _, _, rfl, rfl, _, _, rfl, rfl, _, rfl, _, _, rfl, rfl, hdiv, ?_⟩
      refine ⟨_, rfl, _, rfl, _, _, rfl, rfl, hmul, _, rfl, _, rfl, _, _, rfl, rfl, _, _, rfl, rfl, _, rfl, ?_⟩
      refine ite2 (fun hc => ?_) (fun hc => iteF ?_)
      · have hf : Fnd st k := of_decide_eq_true (p := (st.low + unit st k - 1) / unit st k * unit st k < st.low + st.width) hc
        have hlt := ceil_lt g hk hf
        refine ⟨_, rfl, _, rfl, _, rfl, r, _, (k : Int), .int (256 ^ k), rfl, rfl, SqL.of h1, atI_nat (pows_get (by omega)), _, _, rfl, rfl, _, rfl, ?_⟩
        rw [show decide ((st.low + unit st k - 1) / unit st k < 256 ^ k) = true from decide_eq_true hlt]
        refine iteT ⟨_, rfl, (k : Int), rfl, by omega, by omega, fun D hD => ?_⟩
        rw [Int.toNat_natCast]
        refine lc_range (lo := 0) (n := k) (fun i H' => H' D = some (.lst (((figs (ceilAt st k) k).take i).map V.int)) ∧ Same H H' ∧ H' r = some (.lst (pows (st.count + 1)))) ⟨by rw [upd_same]; rfl, s1.trans (Same.new hD), by rw [upd_ne (ne_of_none h1 hD)]; exact h1⟩ ?_ ?_
        · rintro i H2 hi ⟨h2, s2, h3⟩
          have ei : (0 : Int) + (i : Int) = (i : Int) := Int.zero_add _
          rw [ei]
          refine ⟨rfl, ?_⟩
          unfold tYes
          dsimp only
          have hp0 : (0 : Int) < 256 ^ (k - 1 - i) := Int.pow_pos (by decide)
          have hd2 : CDivP (ceilAt st k) (256 ^ (k - 1 - i)) := divP hp0 (Nat.lt_of_lt_of_le hcn (Nat.pow_le_pow_right (by decide) (by decide)))
          refine iteT ⟨_, rfl, _, rfl, _, rfl, _, _, rfl, rfl, _, rfl, _, _, rfl, rfl, r, pows (st.count + 1), (k : Int) - 1 - (i : Int), .int (256 ^ (k - 1 - i)), rfl, rfl, SqL.of h3, ?_, ?_⟩
          · rw [show (k : Int) - 1 - (i : Int) = ((k - 1 - i : Nat) : Int) by omega]
            exact atI_nat (pows_get (by omega))
          refine ⟨_, _, rfl, rfl, hd2, .inl ⟨_, rfl, _, _, rfl, rfl, (by show (0 : Int) < 256; decide), _, h2, ?_, ?_, ?_, ?_⟩⟩
          · rw [List.length_map, List.length_take, sizeLine_eq]
            omega
          · rw [upd_same, List.take_succ, List.map_append]
            unfold figs
            rw [List.getElem?_map, List.getElem?_range hi]
            rfl
          · intro b o e
            have nb : b ≠ D := fun z => by
              rw [z] at e
              rw [s1 _ _ e] at hD
              cases hD
            rw [upd_ne nb]
            exact s2 _ _ e
          · rw [upd_ne (ne_of_none h1 hD)]
            exact h3
        · rintro H2 ⟨h2, s2, _⟩
          refine ⟨D, _, rfl, .inl ⟨SqL.of h2, fun t ht => ?_⟩⟩
          have e3 : (figs (ceilAt st k) k).take k = figs (ceilAt st k) k := List.take_of_length_le (by rw [figs_length]; exact Nat.le_refl _)
          rw [e3]
          refine kq _ t (figs (ceilAt st k) k) (s2.trans (Same.new ht)) ⟨k, hk, hf, hno, rfl⟩ (by rw [figs_length]; omega) upd_same
      · have hf : ¬ Fnd st k := fun z => hc (decide_eq_true (p := (st.low + unit st k - 1) / unit st k * unit st k < st.low + st.width) z)
        refine ⟨_, _, _, rfl, rfl, fun j hj => ?_⟩
        by_cases z : j = k
        · rw [z]; exact hf
        · exact hno j (by omega)
    · rintro σ H' ⟨z, u, v, rfl, rfl, hno⟩
      exact absurd (fnd_count g) (hno st.count (by omega))
end
end Bo

/-! The law's numbers. -/
namespace Bo
open PySem PySem.Spec L2 PyProof.Rows
def bitL (v : Int) (n : Nat) : List V := (List.range n).map fun j => V.int ((v + 1) / 2 ^ j % 2)
theorem bitL_get {v : Int} {n j : Nat} (h : j < n) : (bitL v n)[j]? = some (.int ((v + 1) / 2 ^ j % 2)) := by
  unfold bitL
  rw [List.getElem?_map, List.getElem?_range h]
  rfl
theorem bitL_succ (v : Int) (n : Nat) : bitL v (n + 1) = bitL v n ++ [.int ((v + 1) / 2 ^ n % 2)] := by
  unfold bitL
  rw [List.range_succ, List.map_append]
  rfl
theorem bitL_length (v : Int) (n : Nat) : (bitL v n).length = n := by unfold bitL; simp
theorem rest_zero {v : Int} (hv : 0 ≤ v) (i : Nat) (hi : i ≤ fg v) : ((v + 1) / 2 ^ i = 0) ↔ i = fg v := by
  have e : v + 1 = (((v + 1).toNat : Nat) : Int) := (Int.toNat_of_nonneg (by omega)).symm
  have e2 : (v + 1) / 2 ^ i = (((v + 1).toNat / 2 ^ i : Nat) : Int) := by
    rw [e, two_pow_of]
    simp
  rw [e2]
  constructor
  · intro h
    have h0 : (v + 1).toNat / 2 ^ i = 0 := by omega
    by_cases c : i < fg v
    · exact absurd h0 (div_lt_bl c)
    · omega
  · intro h
    have h0 : (v + 1).toNat / 2 ^ i = 0 := div_bl (h.symm ▸ rfl)
    rw [h0]
    rfl
theorem two_half (x : Int) (i : Nat) : x / 2 ^ i / 2 = x / 2 ^ (i + 1) := by
  rw [Int.pow_succ, Int.ediv_ediv_of_nonneg (Int.pow_nonneg (by decide))]
def spLFig : Sp := fun vs H Q _ => ∃ v : Int, vs = [.int v] ∧ 0 ≤ v ∧ v < 65535 ∧ ∀ (H' : Hp) (p : Addr), Same H H' → H p = none → H' p = some (.lst (bitL v (fg v))) → Q (.ref p) H'
@[irreducible] def spLNum : Sp := fun vs H Q _ => ∃ (a d : Addr) (s : CoSt Kk) (wd : Str) (v : Int) (N : Nat), vs = [.ref a, .str wd, .int v] ∧ LcAt H a d s ∧ Good s N ∧ N + (evNum wd v).length ≤ 100000 ∧ 0 ≤ v ∧ v < 65535 ∧
  ∀ H', LcAt H' a d (run s (evNum wd v)) → Upto [a, d] H H' → Q .non H'
theorem lnum_do {H : Hp} {a d : Addr} {s : CoSt Kk} {wd : Str} {v : Int} {N : Nat} {Q : VK} {E : XK} (la : LcAt H a d s) (g : Good s N) (hN : N + (evNum wd v).length ≤ 100000) (h0 : 0 ≤ v) (h1 : v < 65535)
    (hq : ∀ H', LcAt H' a d (run s (evNum wd v)) → Upto [a, d] H H' → Q .non H') : spLNum [.ref a, .str wd, .int v] H Q E := by
  unfold spLNum
  exact ⟨a, d, s, wd, v, N, rfl, la, g, hN, h0, h1, hq⟩
section
variable {w : World} {K : PySem.W.Frag} {mg : Str → Option Value} {base : Heap}
theorem ok_l_figures (T : Tx K mg) : Dfn pr w K mg base CX0 1 "_law_figures" spLFig := by
  refine mk_dfn (x_l_figures T) (g_l_figures T) sc_l_figures (fun vs H Q E h => by obtain ⟨_, rfl, _⟩ := h; rfl) fun cdv A outer s H vs Q E hr h => ?_
  obtain ⟨v, rfl, hv0, hv1, kq⟩ := h
  have hfg : fg v ≤ 16 := fg_le (by omega)
  refine ⟨_, PSs.nox (pss_cons (ps_set (i := 1) sc_l_figures.nd rfl (Or.inl rfl) (pe_lst pa_nil))
 (pss_cons (ps_set (i := 2) sc_l_figures.nd rfl (Or.inl rfl) (pe_op op_add (pv 0) pe_int))
 (pss_cons (ps_for PassesOwn.never rfl (pi_range1 rfl (f_range T) (pa_cons pe_int pa_nil)) (pg_name (i := 3) sc_l_figures.nd rfl (Or.inl rfl))
 (pss_cons (ps_if (pt_cmpR op_eq (pv 2) pe_int (nomark _))
 (pss_one ps_break)
 pss_nil)
 (pss_cons (ps_expr (pe_bm PySem.F.plainAttrs_list PySem.F.slot_list_append PySem.F.type_list_append mt_append (pv 1) (pa_cons (pe_op op_mod (pe_callTy call_int1 (by rfl) (f_int T) (by decide +kernel) (pa_cons (pv 2) pa_nil)) pe_int) pa_nil)))
 (pss_one (ps_set (i := 2) sc_l_figures.nd rfl (Or.inl rfl) (pe_op op_fdiv (pv 2) pe_int))))))
 (pss_one (ps_ret (pv 1)))))), ?_⟩
  refine ⟨Nat.zero_le _,
      fun l hl => ?_⟩
  refine ⟨_, rfl, _, _, rfl, rfl, 17, rfl, by decide, by decide, ?_⟩
  refine for_range (lo := 0) (n := 17) (fun i σ H' => ∃ z, σ = [some (.int v), some (.ref l), some (.int ((v + 1) / 2 ^ i)), z] ∧ H' = upd H l (.lst (bitL v i)) ∧ i ≤ fg v) ⟨none, by simp [L2.start], rfl, Nat.zero_le _⟩ ?_ ?_
  · rintro i σ H' hi ⟨z, rfl, rfl, hif⟩
    have hz := rest_zero hv0 i hif
    refine ⟨_, rfl, ⟨rfl, _, rfl, ?_⟩⟩
    refine ite2 (fun hc => ?_) (fun hc => ?_)
    · have h0 : (v + 1) / 2 ^ i = 0 := by
        have := of_decide_eq_true hc
        injection this
      have e := hz.mp h0
      subst e
      exact ⟨_, rfl, kq _ l (Same.new hl) hl upd_same⟩
    · have h0 : ¬ (v + 1) / 2 ^ i = 0 := fun z => hc (decide_eq_true (by rw [z]))
      have hne : ¬ i = fg v := fun z => h0 (hz.mpr z)
      refine ⟨_, rfl, .inl ⟨rfl, _, SqL.of upd_same⟩, _, rfl, .inl ⟨_, rfl, _, _, rfl, rfl, (by show (0 : Int) < 2; decide), l, _, _, rfl, rfl, upd_same, ?_, ?_⟩⟩
      · rw [bitL_length, sizeLine_eq]
        omega
      · rw [upd_upd]
        refine ⟨_, rfl, _, _, rfl, rfl, ⟨by decide, by decide⟩, some (.int (0 + (i : Int))), ?_, ?_, by omega⟩
        · rw [← two_half]
          rfl
        · rw [bitL_succ]
  · rintro σ H' ⟨z, rfl, rfl, h⟩
    exact absurd h (by omega)
theorem ok_l_put_number (T : Tx K mg) (D_l_figures : Dfn pr w K mg base CX0 1 "_law_figures" spLFig) (D_l_put : Dfn pr w K mg base CX0 2 "_law_put" spLPut) : Dfn pr w K mg base CX0 3 "_law_put_number" spLNum := by
  refine mk_dfn (x_l_put_number T) (g_l_put_number T) sc_l_put_number (fun vs H Q E h => by unfold spLNum at h; obtain ⟨_, _, _, _, _, _, rfl, _⟩ := h; rfl) fun cdv A outer s H vs Q E hr h => ?_
  unfold spLNum at h
  obtain ⟨a, d, st, wd, v, N, rfl, la, g, hN, hv0, hv1, kq⟩ := h
  refine ⟨_, PSs.nox (pss_cons (ps_set (i := 3) sc_l_put_number.nd rfl (Or.inl rfl) (pe_cal D_l_figures hr (by decide) pass0 (pa_cons (pv 2) pa_nil)))
 (pss_cons (ps_set (i := 4) sc_l_put_number.nd rfl (Or.inl rfl) (pe_callB call_len_seq (by rfl) (f_len T) PySem.boot_len (pa_cons (pv 3) pa_nil)))
 (pss_cons (ps_for PassesOwn.never rfl (pi_range1 rfl (f_range T) (pa_cons (pe_op op_sub (pv 4) pe_int) pa_nil)) (pg_name (i := 5) sc_l_put_number.nd rfl (Or.inl rfl))
 (pss_one (ps_expr (pe_cal D_l_put hr (by decide) pass0 (pa_cons (pv 0) (pa_cons (pe_tup (pa_cons (pv 1) (pa_cons pe_int (pa_cons (pv 5) pa_nil)))) (pa_cons pe_int pa_nil)))))))
 (pss_mid (ps_if (pt_cmpR op_lt (pv 4) pe_int (nomark _))
 (pss_one (ps_expr (pe_cal D_l_put hr (by decide) pass0 (pa_cons (pv 0) (pa_cons (pe_tup (pa_cons (pv 1) (pa_cons pe_int (pa_cons (pe_op op_sub (pv 4) pe_int) pa_nil)))) (pa_cons pe_int pa_nil))))))
 pss_nil)
 (pss_one (ps_for PassesOwn.never rfl (pi_range3 rfl (f_range T) (pa_cons (pe_op op_sub (pv 4) pe_int) (pa_cons (pe_un un_neg pe_int) (pa_cons (pe_un un_neg pe_int) pa_nil)))) (pg_name (i := 6) sc_l_put_number.nd rfl (Or.inl rfl))
 (pss_one (ps_expr (pe_cal D_l_put hr (by decide) pass0 (pa_cons (pv 0) (pa_cons (pe_tup (pa_cons (pv 1) (pa_cons pe_int (pa_cons (pv 6) pa_nil)))) (pa_cons (pe_ix ix_list (pv 3) (pv 6) (fun _ _ => rfl)) pa_nil)))))))))))), ?_⟩
  have hfg1 : 1 ≤ fg v := fg_pos hv0
  have hfg2 : fg v ≤ 16 := fg_le (by omega)
  have e5 : (evNum wd v).length = (fg v - 1) + ((evB wd v).length + (fg v - 1)) := by
    unfold evNum
    rw [List.length_append, List.length_append, List.length_map, List.length_map, List.length_range]
  have lA : ∀ i, ((List.range i).map (evA wd)).length = i := fun i => by rw [List.length_map, List.length_range]
  have lC : ∀ i, ((List.range i).map (evC wd v)).length = i := fun i => by rw [List.length_map, List.length_range]
  refine ⟨_, rfl, v, rfl, hv0, hv1, fun H0 p s0 hp h0 => ?_⟩
  have npa : p ≠ a := Ne.symm (ne_of_none la.1 hp)
  have npd : p ≠ d := Ne.symm (ne_of_none la.2 hp)
  have figs_ : ∀ H', Upto [a, d] H0 H' → H' p = some (.lst (bitL v (fg v))) := fun H' u => u.kp p _ (by simp [npa, npd]) h0
  refine ⟨_, rfl, p, _, rfl, .inl (SqL.of h0), ?_⟩
  rw [bitL_length]
  refine ⟨_, rfl, _, _, rfl, rfl, ((fg v : Nat) : Int) - 1, rfl, by omega, by omega, ?_⟩
  refine for_range (lo := 0) (n := (((fg v : Nat) : Int) - 1).toNat) (fun i σ H' => ∃ x y, σ = [some (.ref a), some (.str wd), some (.int v), some (.ref p), some (.int ((fg v : Nat) : Int)), x, y] ∧ LcAt H' a d (run st ((List.range i).map (evA wd))) ∧ Upto [a, d] H0 H') ⟨none, none, rfl, la.same s0, .refl⟩ ?_ ?_
  · rintro i σ H1 hi ⟨x, y, rfl, c1, u1⟩
    have hi2 : i < fg v - 1 := by omega
    refine ⟨_, rfl, _, rfl, _, rfl, (by show 3 ≤ sizeLine; decide), fun q hq => ?_⟩
    have g1 := runG (l := (List.range i).map (evA wd)) g
    rw [lA] at g1
    show spLPut [.ref a, .ref q, .int 1] (upd H1 q (.tup ((k3 wd 0 (0 + (i : Int))).map kV))) _ E0
    refine lput_do c1 g1 (by omega) hq fun H2 c2 u2 => ⟨_, _, rfl, ?_, u1.trans u2⟩
    rw [map_range_succ, run_append, run_one]
    rw [Int.zero_add] at c2
    exact c2
  · rintro σ H1 ⟨x, y, rfl, c1, u1⟩
    have eA : (((fg v : Nat) : Int) - 1).toNat = fg v - 1 := by omega
    rw [eA] at c1
    have gA := runG (l := (List.range (fg v - 1)).map (evA wd)) g
    rw [lA] at gA
    refine ⟨fun σ' H' => σ' = [some (.ref a), some (.str wd), some (.int v), some (.ref p), some (.int ((fg v : Nat) : Int)), x, y] ∧ LcAt H' a d (run st ((List.range (fg v - 1)).map (evA wd) ++ evB wd v)) ∧ Upto [a, d] H0 H', ?_, ?_⟩
    · refine ⟨_, rfl, _, _, rfl, rfl, _, rfl, ?_⟩
      refine ite2 (fun hc => ?_) (fun hc => ?_)
      · have h16 : fg v < 16 := by
          have := of_decide_eq_true hc
          omega
        have eB : evB wd v = [(k3 wd 0 ((fg v : Int) - 1), 0)] := if_pos h16
        refine ⟨_, rfl, _, rfl, _, rfl, _, _, rfl, rfl, (by show 3 ≤ sizeLine; decide), fun q hq => ?_⟩
        show spLPut [.ref a, .ref q, .int 0] (upd H1 q (.tup ((k3 wd 0 ((fg v : Int) - 1)).map kV))) _ E0
        refine lput_do c1 gA (by omega) hq fun H2 c2 u2 => ⟨rfl, ?_, u1.trans u2⟩
        rw [run_append, eB, run_one]
        exact c2
      · have h16 : ¬ fg v < 16 := fun z => hc (decide_eq_true (by omega))
        have eB : evB wd v = [] := if_neg h16
        refine ⟨rfl, ?_, u1⟩
        rw [eB, List.append_nil]
        exact c1
    · rintro σ' H2 ⟨rfl, c2, u2⟩
      refine ⟨_, rfl, _, _, rfl, rfl, _, rfl, _, rfl, ((fg v : Nat) : Int) - 2, -1, -1, _, rfl, RgC.neg (by omega) (by omega) (by decide) (by decide), ?_⟩
      refine for_rangeC (lo := ((fg v : Nat) : Int) - 2) (c := -1) (n := (((fg v : Nat) : Int) - 2 - -1).toNat) (fun i σ H' => ∃ x y, σ = [some (.ref a), some (.str wd), some (.int v), some (.ref p), some (.int ((fg v : Nat) : Int)), x, y] ∧
        LcAt H' a d (run st ((List.range (fg v - 1)).map (evA wd) ++ (evB wd v ++ (List.range i).map (evC wd v)))) ∧ Upto [a, d] H0 H') ⟨x, y, rfl, ?_, u2⟩ ?_ ?_
      · rw [List.range_zero, List.map_nil, List.append_nil]
        exact c2
      · rintro i σ H3 hi ⟨x3, y3, rfl, c3, u3⟩
        have hi2 : i < fg v - 1 := by omega
        have ej : ((fg v : Nat) : Int) - 2 + (i : Nat) * -1 = ((fg v : Nat) : Int) - 2 - (i : Int) := by omega
        have en : ((fg v : Nat) : Int) - 2 - (i : Int) = ((fg v - 2 - i : Nat) : Int) := by omega
        rw [ej]
        refine ⟨_, rfl, _, rfl, _, rfl, (by show 3 ≤ sizeLine; decide), fun q hq => ?_⟩
        have hfq := figs_ H3 u3
        refine ⟨_, rfl, _, rfl, p, _, _, .int ((v + 1) / 2 ^ (fg v - 2 - i) % 2), rfl, rfl, SqL.of (by rw [upd_ne (ne_of_none hfq hq)]; exact hfq), ?_, ?_⟩
        · rw [en]
          exact atI_nat (bitL_get (by omega))
        have g3 := runG (l := (List.range (fg v - 1)).map (evA wd) ++ (evB wd v ++ (List.range i).map (evC wd v))) g
        rw [List.length_append, List.length_append, lA, lC] at g3
        show spLPut [.ref a, .ref q, .int ((v + 1) / 2 ^ (fg v - 2 - i) % 2)] (upd H3 q (.tup ((k3 wd 1 (((fg v : Nat) : Int) - 2 - (i : Int))).map kV))) _ E0
        refine lput_do c3 g3 (by omega) hq fun H4 c4 u4 => ⟨_, _, rfl, ?_, u3.trans u4⟩
        rw [map_range_succ, ← List.append_assoc (evB wd v), ← List.append_assoc, run_append, run_one]
        exact c4
      · rintro σ H3 ⟨x3, y3, rfl, c3, u3⟩
        have en : (((fg v : Nat) : Int) - 2 - -1).toNat = fg v - 1 := by omega
        rw [en] at c3
        exact kq H3 c3 ((Upto.of s0).trans u3)
theorem ok_l_unsigned (T : Tx K mg) : Dfn pr w K mg base CX0 1 "_law_unsigned" spFold := by
  refine mk_dfn (x_l_unsigned T) (g_l_unsigned T) sc_l_unsigned (fun vs H Q E h => by obtain ⟨_, rfl, _⟩ := h; rfl) fun cdv A outer s H vs Q E hr h => ?_
  obtain ⟨v, rfl, k⟩ := h
  refine ⟨_, PSs.nox (pss_cons (ps_if (pt_cmpR op_gt (pv 0) pe_int (nomark _))
 (pss_one (ps_ret (pe_op op_sub (pe_op op_mul pe_int (pv 0)) pe_int)))
 pss_nil)
 (pss_one (ps_ret (pe_op op_mul (pe_un un_neg pe_int) (pv 0))))), ?_⟩
  refine ⟨_, rfl, ⟨_, _, rfl, rfl, _, rfl, ?_⟩⟩
  unfold fold at k
  refine ite2 (fun hc => ?_) (fun hc => ?_)
  · rw [if_pos (of_decide_eq_true hc)] at k
    exact ⟨_, rfl, _, _, rfl, rfl, .inl (by decide), _, _, rfl, rfl, k⟩
  · rw [if_neg (fun z => hc (decide_eq_true z))] at k
    exact ⟨_, rfl, _, rfl, _, _, rfl, rfl, .inl (by decide), k⟩
theorem ok_l_word (T : Tx K mg) : Dfn pr w K mg base CX0 1 "_law_word" spWord := by
  refine mk_dfn (x_l_word T) (g_l_word T) sc_l_word (fun vs H Q E h => by obtain ⟨_, _, rfl, _⟩ := h; rfl) fun cdv A outer s H vs Q E hr h => ?_
  obtain ⟨i, j, rfl, k⟩ := h
  refine ⟨_, PSs.nox (pss_mid (ps_if (PW.pt (pw_and (pt_cmpR op_eq (pv 0) pe_int (nomark _)) (pw_and1 (pt_cmpR op_eq (pv 1) pe_int (nomark _)))))
 (pss_one (ps_ret pe_str))
 pss_nil)
 (pss_cons (ps_if (PW.pt (pw_and (pt_cmpR op_lt (pv 0) pe_int (nomark _)) (pw_and1 (pt_cmpR op_lt (pv 1) pe_int (nomark _)))))
 (pss_one (ps_ret pe_str))
 pss_nil)
 (pss_one (ps_ret pe_str)))), ?_⟩
  unfold word at k
  have step : ∀ (a : Nat), (decide (V.int (a : Int) = V.int 0) = true) = (a = 0) := fun a => by simp
  have two : ∀ (a : Nat), (decide ((a : Int) < 2) = true) = (a < 2) := fun a => by simp; omega
  refine ⟨fun σ' H' => σ' = [some (.int (i : Int)), some (.int (j : Int))] ∧ H' = H ∧ ¬ (i = 0 ∧ j = 0), ?_, ?_⟩
  · refine ⟨_, rfl, rfl, _, rfl, ?_⟩
    refine ite2 (fun h1 => ?_) (fun h1 => iteF ⟨rfl, rfl, fun z => h1 (by rw [z.1]; rfl)⟩)
    refine ⟨_, rfl, ⟨rfl, _, rfl, ?_⟩⟩
    refine ite2 (fun h2 => ?_) (fun h2 => ⟨rfl, rfl, fun z => h2 (by rw [z.2]; rfl)⟩)
    have e1 : i = 0 := step i ▸ h1
    have e2 : j = 0 := step j ▸ h2
    rw [if_pos ⟨e1, e2⟩] at k
    exact k
  · rintro σ' H' ⟨rfl, rfl, h00⟩
    rw [if_neg h00] at k
    refine ⟨_, rfl, ⟨_, _, rfl, rfl, _, rfl, ?_⟩⟩
    refine ite2 (fun h1 => ?_) (fun h1 => iteF ?_)
    · refine ⟨_, rfl, _, _, rfl, rfl, _, rfl, ?_⟩
      refine ite2 (fun h2 => ?_) (fun h2 => ?_)
      · rw [if_pos ⟨two i ▸ h1, two j ▸ h2⟩] at k
        exact k
      · rw [if_neg fun z => h2 (two j ▸ z.2)] at k
        exact k
    · rw [if_neg fun z => h1 (two i ▸ z.1)] at k
      exact k
end
end Bo

/-! The law's leaves. -/
namespace Bo
open PySem PySem.Spec L2 PyProof.Rows
theorem LcAt.upto {H H' : Hp} {a d : Addr} {s : CoSt Kk} {S : List Addr} (h : LcAt H a d s) (u : Upto S H H') (ha : a ∉ S) (hd : d ∉ S) : LcAt H' a d s := ⟨u.kp _ _ ha h.1, u.kp _ _ hd h.2⟩
theorem tYes_do {σ : L2.St} {H : Hp} {A B : Hp → Prop} (h : A H) : tYes σ H fun b H3 => if b = true then A H3 else B H3 := by
  unfold tYes
  exact iteT h
@[irreducible] def spLLeaf (K : PySem.W.Frag) : Sp := fun vs H Q _ => ∃ (a d : Addr) (p : V) (s : CoSt Kk) (l : Leaf) (n N : Nat), vs = [.ref a, p, .int (n : Nat)] ∧ LcAt H a d s ∧ Good s N ∧ N + (evLeaf n l).length ≤ 100000 ∧ Dp K H p l.data ∧ l.Ok n ∧ n ≤ 8 ∧
  ∀ H', LcAt H' a d (run s (evLeaf n l)) → Upto [a, d] H H' → Q .non H'
theorem lleaf_do {K : PySem.W.Frag} {H : Hp} {a d : Addr} {p : V} {s : CoSt Kk} {l : Leaf} {n N : Nat} {Q : VK} {E : XK} (la : LcAt H a d s) (g : Good s N) (hN : N + (evLeaf n l).length ≤ 100000) (dp : Dp K H p l.data) (ok : l.Ok n) (hn : n ≤ 8)
    (hq : ∀ H', LcAt H' a d (run s (evLeaf n l)) → Upto [a, d] H H' → Q .non H') : spLLeaf K [.ref a, p, .int (n : Nat)] H Q E := by
  unfold spLLeaf
  exact ⟨a, d, p, s, l, n, N, rfl, la, g, hN, dp, ok, hn, hq⟩
section
variable {w : World} {K : PySem.W.Frag} {mg : Str → Option Value} {base : Heap}
theorem ok_l_is_empty (T : Tx K mg) : Dfn pr w K mg base CX0 1 "_law_is_empty" (spEmpty K) := by
  refine mk_dfn (x_l_is_empty T) (g_l_is_empty T) sc_l_is_empty (fun vs H Q E h => by obtain ⟨_, _, _, _, rfl, _⟩ := h; rfl) fun cdv A outer s H vs Q E hr h => ?_
  obtain ⟨a, xs, rows, n, rfl, hx, hrow, sq, hn, k⟩ := h
  refine ⟨_, PSs.nox (pss_one (ps_ret (pe_callB (cr_all rfl) (by rfl) (f_all T) (by decide +kernel) (pa_cons (pe_lc (own := [("_law_row", 1)]) (g := gName 1) (tt := tYes) rfl sc_l_is_empty.nd (pi_tup (pv 0)) (blkOk_by (N := ["_law_levels", "_law_row", "_law_level_here"]) (sc := (defScope s_l_is_empty)) (by decide +kernel)) (fun _ _ _ _ _ => pg_name (i := 1) sc_l_is_empty.nd rfl (Or.inl rfl)) (fun _ _ _ _ _ => pts_nil) (fun _ _ _ _ _ => (pe_callB (r := rAll K) (cr_all rfl) (by rfl) (f_all T) (by decide +kernel) (pa_cons (pe_lc (wi := iTup K (tVar 1)) (own := [("_law_level_here", 2)]) (g := gName 2) (tt := tYes) rfl sc_l_is_empty.nd (pi_tup (pv 1)) (blkOk_by (N := ["_law_levels", "_law_row", "_law_level_here"]) (sc := { kind := .function, names := [(".0", .local), ("_law_row", .local), ("all", .globalImplicit)], isGenerator := false, isCoroutine := false }) (by decide +kernel)) (fun _ _ _ _ _ => pg_name (i := 2) sc_l_is_empty.nd rfl (Or.inl rfl)) (fun _ _ _ _ _ => pts_nil) (fun _ _ _ _ _ => (pe_cmpR op_eq (pv 2) pe_int (nomark _)))) pa_nil)))) pa_nil)))), ?_⟩
  have hlen := hrow.1
  have hrl := sq.len
  refine ⟨_, rfl, a, rfl, ⟨xs, hx⟩, fun D hD => ?_⟩
  refine lc_tup (xs := xs) (fun i H' => H' D = some (.lst ((rows.take i).map fun r => V.bl (r.all fun v => v == 0))) ∧ Same H H') ⟨by rw [upd_same]; rfl, Same.new hD⟩ (fun i H' _ h => Same.sqT h.2 hx) ?_ ?_
  · rintro i x H1 hi ⟨h1, s1⟩
    have hir : i < rows.length := by
      have := (List.getElem?_eq_some_iff.mp
          hi).1
      omega
    obtain ⟨b, hb1, hb2⟩ := hrow.2 i rows[i] (List.getElem?_eq_getElem hir)
    rw [hi] at hb1
    cases hb1
    have hrn := sq.row rows[i] (List.getElem_mem hir)
    have er : rows[i]? = some rows[i] := List.getElem?_eq_getElem hir
    generalize rows[i] = r at hb2 hrn er
    refine ⟨rfl, tYes_do ?_⟩
    refine ⟨_, rfl, b, rfl, ⟨_, Same.sqT s1 hb2⟩, fun D2 hD2 => ?_⟩
    have nD : D ≠ D2 := ne_of_none h1 hD2
    refine lc_tup (xs := r.map V.int) (fun j H' => H' D2 = some (.lst ((r.take j).map fun v => V.bl (v == 0))) ∧ Same H H' ∧ H' D = some (.lst ((rows.take i).map fun r => V.bl (r.all fun v => v == 0)))) ⟨by rw [upd_same]; rfl, s1.trans (Same.new hD2), by rw [upd_ne nD]; exact h1⟩ (fun j H' _ h => Same.sqT h.2.1 hb2) ?_ ?_
    · rintro j x H2 hj ⟨h2, s2, h3⟩
      rw [List.getElem?_map] at hj
      cases e : r[j]? with
      | none => rw [e] at hj; cases hj
      | some v =>
        rw [e] at hj
        cases hj
        have hjl := (List.getElem?_eq_some_iff.mp e).1
        have hD2n : H D2 = none := by
          cases q : H D2 with
          | none => rfl
          | some o => rw [s1 _ _ q] at hD2; cases hD2
        refine ⟨rfl, tYes_do ?_⟩
        refine ⟨_, rfl, rfl, _, h2, ?_, ?_, ?_, ?_⟩
        · rw [List.length_map, List.length_take, sizeLine_eq]
          omega
        · rw [upd_same, List.take_succ, List.map_append, e, dec_int]
          rfl
        · intro q o e2
          rw [upd_ne (ne_of_none e2 hD2n)]
          exact s2 _ _ e2
        · rw [upd_ne nD]
          exact h3
    · rintro H2 ⟨h2, s2, h3⟩
      rw [List.length_map, List.take_length] at h2
      refine ⟨D2, r.map fun v => v == 0, rfl, SqL.of (by rw [h2, List.map_map]; rfl), _, h3, ?_, ?_, ?_⟩
      · rw [List.length_map, List.length_take, sizeLine_eq]
        omega
      · rw [upd_same, List.take_succ, List.map_append, er]
        have e3 : (r.map fun v => v == 0).all id = r.all fun v => v == 0 := by rw [List.all_map]; rfl
        rw [e3]
        rfl
      · intro q o e2
        rw [upd_ne (ne_of_none e2 hD)]
        exact s2 _ _ e2
  · rintro H1 ⟨h1, s1⟩
    have e2 : xs.length = rows.length := hlen
    rw [e2, List.take_length] at h1
    refine ⟨D, rows.map fun r => r.all fun v => v == 0, rfl, SqL.of (by rw [h1, List.map_map]; rfl), ?_⟩
    have e3 : (rows.map fun r => r.all fun v => v == 0).all id = emptyR rows := by rw [List.all_map]; rfl
    rw [e3]
    exact k H1 s1
theorem ok_l_put_leaf (T : Tx K mg) (D_l_put_number : Dfn pr w K mg base CX0 3 "_law_put_number" spLNum) (D_l_unsigned : Dfn pr w K mg base CX0 1 "_law_unsigned" spFold) (D_l_word : Dfn pr w K mg base CX0 1 "_law_word" spWord) (D_l_is_empty : Dfn pr w K mg base CX0 1 "_law_is_empty" (spEmpty K)) (D_l_put : Dfn pr w K mg base CX0 2 "_law_put" spLPut) : Dfn pr w K mg base CX0 4 "_law_put_leaf" (spLLeaf K) := by
  refine mk_dfn (x_l_put_leaf T) (g_l_put_leaf T) sc_l_put_leaf (fun vs H Q E h => by unfold spLLeaf at h; obtain ⟨_, _, _, _, _, _, _, rfl, _⟩ := h; rfl) fun cdv A outer s H vs Q E hr h => ?_
  unfold spLLeaf at h
  obtain ⟨a, d, p, st, l, n, N, rfl, la, g, hN, dp, ok, hn, kq⟩ := h
  rw [evLeaf_len] at hN
  refine ⟨_, PSs.nox (pss_cons (ps_asg (pv 1) (pg_tup rfl (pgs_cons (pg_name (i := 3) sc_l_put_leaf.nd rfl (Or.inl rfl)) (pgs_cons (pg_name (i := 4) sc_l_put_leaf.nd rfl (Or.inl rfl)) (pgs_cons (pg_name (i := 5) sc_l_put_leaf.nd rfl (Or.inl rfl)) (pgs_cons (pg_name (i := 6) sc_l_put_leaf.nd rfl (Or.inl rfl)) (pgs_cons (pg_name (i := 7) sc_l_put_leaf.nd rfl (Or.inl rfl)) (pgs_cons (pg_name (i := 8) sc_l_put_leaf.nd rfl (Or.inl rfl)) (pgs_cons (pg_name (i := 9) sc_l_put_leaf.nd rfl (Or.inl rfl)) pgs_nil)))))))))
 (pss_cons (ps_expr (pe_cal D_l_put_number hr (by decide) pass0 (pa_cons (pv 0) (pa_cons pe_str (pa_cons (pe_bm PySem.F.plainAttrs_list PySem.F.slot_list_index PySem.F.type_list_index mt_lixS (pe_lst (pa_cons pe_str (pa_cons pe_str (pa_cons pe_str (pa_cons pe_str (pa_cons pe_str pa_nil)))))) (pa_cons (pv 4) pa_nil)) pa_nil)))))
 (pss_mid (ps_if (pt_cmpR op_eq (pv 4) pe_str (nomark _))
 (pss_cons (ps_expr (pe_cal D_l_put_number hr (by decide) pass0 (pa_cons (pv 0) (pa_cons pe_str (pa_cons (pv 5) pa_nil)))))
 (pss_cons (ps_expr (pe_cal D_l_put_number hr (by decide) pass0 (pa_cons (pv 0) (pa_cons pe_str (pa_cons (pe_cal D_l_unsigned hr (by decide) pass0 (pa_cons (pv 6) pa_nil)) pa_nil)))))
 (pss_one (ps_expr (pe_cal D_l_put_number hr (by decide) pass0 (pa_cons (pv 0) (pa_cons pe_str (pa_cons (pe_cal D_l_unsigned hr (by decide) pass0 (pa_cons (pv 7) pa_nil)) pa_nil))))))))
 pss_nil)
 (pss_cons (ps_expr (pe_cal D_l_put_number hr (by decide) pass0 (pa_cons (pv 0) (pa_cons pe_str (pa_cons (pe_bm PySem.F.plainAttrs_list PySem.F.slot_list_index PySem.F.type_list_index mt_lixI (pe_lst (pa_cons pe_int (pa_cons pe_int (pa_cons pe_int (pa_cons pe_int (pa_cons pe_int (pa_cons pe_int (pa_cons pe_int pa_nil)))))))) (pa_cons (pv 8) pa_nil)) pa_nil)))))
 (pss_cons (ps_set (i := 10) sc_l_put_leaf.nd rfl (Or.inl rfl) (pe_cal D_l_is_empty hr (by decide) pass0 (pa_cons (pv 9) pa_nil)))
 (pss_cons (ps_expr (pe_cal D_l_put hr (by decide) pass0 (pa_cons (pv 0) (pa_cons (pe_tup (pa_cons pe_str (pa_cons (pv 2) pa_nil))) (pa_cons (pe_callTy call_int1 (by rfl) (f_int T) (by decide +kernel) (pa_cons (pv 10) pa_nil)) pa_nil)))))
 (pss_one (ps_if (pt_not (pt_val (pv 10)))
 (pss_one (ps_for PassesOwn.never rfl (pi_range1 rfl (f_range T) (pa_cons (pv 2) pa_nil)) (pg_name (i := 11) sc_l_put_leaf.nd rfl (Or.inl rfl))
 (pss_one (ps_for PassesOwn.never rfl (pi_range1 rfl (f_range T) (pa_cons (pv 2) pa_nil)) (pg_name (i := 12) sc_l_put_leaf.nd rfl (Or.inl rfl))
 (pss_one (ps_expr (pe_cal D_l_put_number hr (by decide) pass0 (pa_cons (pv 0) (pa_cons (pe_cal D_l_word hr (by decide) pass0 (pa_cons (pv 11) (pa_cons (pv 12) pa_nil))) (pa_cons (pe_cal D_l_unsigned hr (by decide) pass0 (pa_cons (pe_ix ix_tup (pe_ix ix_tup (pv 9) (pv 11) (fun _ _ => rfl)) (pv 12) (fun _ _ => rfl)) pa_nil)) pa_nil))))))))))
 pss_nil)))))))), ?_⟩
  cases dp with
  | @tup ad xs _ hx hxs =>
  obtain ⟨v0, v1, v2, v3, v4, v5, v6, rfl, p0, p1, p2, p3, p4, p5, p6⟩ := dpAll7 hxs
  cases p1
  cases p2
  cases p3
  cases p4
  cases p5
  cases p6 with
  | @tup b ys _ hy hys =>
  have hrow := rowsAt hys
  refine ⟨_, rfl, ad, _, rfl, hx, rfl, _, _, rfl, _, _, rfl, _, _, rfl, _, _, rfl, _, _, rfl, _, _, rfl, _, _, rfl, rfl, ?_⟩
  have i1 : (modes.idxOf l.mode : Nat) < 5 := List.idxOf_lt_length_of_mem ok.mode
  have i2 : (facs.idxOf l.q : Nat) < 7 := List.idxOf_lt_length_of_mem ok.q
  refine ⟨_, rfl, (by show 5 ≤ sizeLine; decide), fun ml hml => ?_⟩
  refine ⟨.inl ⟨rfl, _, SqL.of upd_same⟩, _, rfl, _, modes, l.mode, rfl, rfl, SqL.of upd_same, ok.mode, ?_⟩
  refine lnum_do (la.same (Same.new hml)) g (by omega) (by omega) (by omega) fun H1 c1 u1 => ?_
  have u1 : Upto [a, d] H H1 := (Upto.new hml).trans u1
  have g1 := runG (l := evNum "mode" (modes.idxOf l.mode : Nat)) g
  generalize hs1 : run st (evNum "mode" (modes.idxOf l.mode : Nat)) = s1 at c1 g1
  refine ⟨fun σ' H' => σ' = [some (.ref a), some (.ref ad), some (.int (n : Nat)), some v0, some (.str l.mode), some (.int l.slot), some (.int l.dy), some (.int l.dx), some (.int l.q), some (.ref b), none, none, none] ∧ LcAt H' a d (run s1 (evMot l)) ∧ Upto [a, d] H H', ?_, ?_⟩
  · refine ⟨_, rfl, rfl, _, rfl, ?_⟩
    refine ite2 (fun hc => ?_) (fun hc => ?_)
    · have hm : l.mode = "motion" := by
        have h3 := of_decide_eq_true hc
        injection h3
      have em : evMot l = evNum "slot" l.slot ++ (evNum "dy" (fold l.dy) ++ evNum "dx" (fold l.dx)) := if_pos hm
      rw [em, List.length_append, List.length_append] at hN
      have := ok.slot
      have := ok.dy
      have := ok.dx
      have f0 := fold_nonneg l.dy
      have f1 := fold_le (b := 31) ok.dy.1 ok.dy.2
      have f2 := fold_nonneg l.dx
      have f3 := fold_le (b := 31) ok.dx.1 ok.dx.2
      refine ⟨_, rfl, _, rfl, lnum_do c1 g1 (by omega) (by omega) (by omega) fun H2 c2 u2 => ?_⟩
      have g2 := runG (l := evNum "slot" l.slot) g1
      refine ⟨_, rfl, _, rfl, _, rfl, lnum_do c2 g2 (by omega) (by omega) (by omega) fun H3 c3 u3 => ?_⟩
      have g3 := runG (l := evNum "dy" (fold l.dy)) g2
      refine ⟨_, rfl, _, rfl, _, rfl, lnum_do c3 g3 (by omega) (by omega) (by omega) fun H4 c4 u4 => ?_⟩
      refine ⟨rfl, ?_, u1.trans (u2.trans (u3.trans u4))⟩
      rw [em, run_append, run_append]
      exact c4
    · have hm : ¬ l.mode = "motion" := fun z => hc (decide_eq_true (by rw [z]))
      have em : evMot l = [] := if_neg hm
      refine ⟨rfl, ?_, u1⟩
      rw [em]
      exact c1
  · rintro σ' H2 ⟨rfl, c2, u2⟩
    have g2 := runG (l := evMot l) g1
    generalize hs2 : run s1 (evMot l) = s2 at c2 g2
    refine ⟨_, rfl, (by show 7 ≤ sizeLine; decide), fun fl hfl => ?_⟩
    refine ⟨.inl ⟨rfl, _, SqL.of upd_same⟩, _, rfl, _, facs, l.q, rfl, rfl, SqL.of upd_same, ok.q, ?_⟩
    refine lnum_do (c2.same (Same.new hfl)) g2 (by omega) (by omega) (by omega) fun H3 c3 u3 => ?_
    have g3 := runG (l := evNum "q" (facs.idxOf l.q : Nat)) g2
    generalize hs3 : run s2 (evNum "q" (facs.idxOf l.q : Nat)) = s3 at c3 g3
    have u3 : Upto [a, d] H H3 := u2.trans ((Upto.new hfl).trans u3)
    have fin : ∀ H', LcAt H' a d (run s3 (evEmp n l.rows)) → Upto [a, d] H H' → Q .non H' := fun H' c4 u4 => by
      refine kq H' ?_ u4
      unfold evLeaf
      rw [run_append, hs1, run_append, hs2, run_append, hs3]
      exact c4
    refine ⟨_, rfl, b, ys, l.rows, n, rfl, u3.sqT hy, hrow.mono u3, ok.sq, hn, fun H4 s4 => ?_⟩
    have c3 := c3.same s4
    have u3 : Upto [a, d] H H4 := u3.trans (Upto.of s4)
    have e0 : (evEmp n l.rows).length = 1 + (if emptyR l.rows then ([] : Ev) else evLv n l.rows).length := by
      unfold evEmp
      rw [List.length_cons, Nat.add_comm]
    refine ⟨_, rfl, _, rfl, (by show 2 ≤ sizeLine; decide), fun q hq => ⟨_, rfl, .inr ⟨_, rfl, ?_⟩⟩⟩
    show spLPut [.ref a, .ref q, .int (if emptyR l.rows then 1 else 0)] (upd H4 q (.tup ((k2 "empty" (n : Int)).map kV))) _ E0
    refine lput_do c3 g3 (by omega) hq fun H5 c5 u5 => ?_
    have g5 := put_good g3 (k2 "empty" (n : Int)) (if emptyR l.rows then 1 else 0)
    generalize hs5 : put s3 (k2 "empty" (n : Int)) (if emptyR l.rows then 1 else 0) = s5 at c5 g5
    have u5 : Upto [a, d] H H5 := u3.trans u5
    have fin : ∀ H', LcAt H' a d (run s5 (if emptyR l.rows then [] else evLv n l.rows)) → Upto [a, d] H H' → Q .non H' := fun H' c6 u6 => by
      refine fin H' ?_ u6
      unfold evEmp
      rw [run_cons, hs5]
      exact c6
    refine ⟨_, rfl, _, rfl, ?_⟩
    rcases ff_tt (emptyR l.rows) with z | z
    · rw [z] at fin e0 ⊢
      rw [if_neg (by decide)] at fin e0
      have hlr := ok.sq.len
      have hly := hrow.1
      refine iteT ⟨_, rfl, (n : Int), rfl, by omega, by omega, ?_⟩
      rw [Int.toNat_natCast]
      refine for_range (lo := 0) (n := n) (fun i σ H' => ∃ e x1 x2, σ = [some (.ref a), some (.ref ad), some (.int (n : Nat)), some v0, some (.str l.mode), some (.int l.slot), some (.int l.dy), some (.int l.dx), some (.int l.q), some (.ref b), e, x1, x2] ∧
        LcAt H' a d (run s5 ((List.range i).flatMap fun i => evRow n i (l.rows.getD i []))) ∧ Upto [a, d] H H') ⟨_, none, none, rfl, c5, u5⟩ ?_ ?_
      · rintro i σ H6 hi ⟨e, x1, x2, rfl, c6, u6⟩
        have hir : i < l.rows.length := by omega
        obtain ⟨bi, hb1, hb2⟩ := hrow.2 i l.rows[i] (List.getElem?_eq_getElem hir)
        have er : l.rows.getD i [] = l.rows[i] := by simp [List.getD, hir]
        have hrl := ok.sq.row l.rows[i] (List.getElem_mem hir)
        have hlv := ok.sq.lv l.rows[i] (List.getElem_mem hir)
        generalize l.rows[i] = r at hb2 er hrl hlv
        have lenI := flat_split (f := fun i => evRow n i (l.rows.getD i [])) (i := i) (n := n) (by omega)
        have lenE : (evLv n l.rows).length = ((List.range n).flatMap fun i => evRow n i (l.rows.getD i [])).length := rfl
        rw [er] at lenI
        have ei : (0 : Int) + (i : Int) = (i : Int) := Int.zero_add _
        rw [ei]
        refine ⟨_, rfl, (n : Int), rfl, by omega, by omega, ?_⟩
        rw [Int.toNat_natCast]
        refine for_range (lo := 0) (n := n) (fun k σ H' => ∃ e x2, σ = [some (.ref a), some (.ref ad), some (.int (n : Nat)), some v0, some (.str l.mode), some (.int l.slot), some (.int l.dy), some (.int l.dx), some (.int l.q), some (.ref b), e, some (.int (i : Nat)), x2] ∧
          LcAt H' a d (run s5 (((List.range i).flatMap fun i => evRow n i (l.rows.getD i [])) ++ (List.range k).flatMap fun k => evCell i k r)) ∧ Upto [a, d] H H') ⟨e, x2, rfl, by rw [List.range_zero, List.flatMap_nil, List.append_nil]; exact c6, u6⟩ ?_ ?_
        · rintro k σ H8 hk ⟨e, x2, rfl, c8, u8⟩
          have hkr : k < r.length := by omega
          have ek : r.getD k 0 = r[k] := by simp [List.getD, hkr]
          have hv := hlv r[k] (List.getElem_mem hkr)
          have lenK := flat_split (f := fun k => evCell i k r) (i := k) (n := n) (by omega)
          have lenR : (evRow n i r).length = ((List.range n).flatMap fun k => evCell i k r).length := rfl
          have g9 := runG (l := ((List.range i).flatMap fun i => evRow n i (l.rows.getD i [])) ++ (List.range k).flatMap fun k => evCell i k r) g5
          have ec : evNum (word i k) (fold r[k]) = evCell i k r := by
            unfold evCell
            rw [ek]
          have ekk : (0 : Int) + (k : Int) = (k : Int) := Int.zero_add _
          rw [ekk]
          have f0 := fold_nonneg r[k]
          have f1 := fold_le (b := 2000) hv.1 hv.2
          have hk2 : (r.map V.int)[k]? = some (.int r[k]) := by rw [List.getElem?_map, List.getElem?_eq_getElem hkr]; rfl
          refine ⟨_, rfl, _, rfl, _, rfl, i, k, rfl, _, rfl, _, rfl, b, ys, (i : Int), .ref bi, rfl, rfl, u8.sqT hy, atI_nat hb1, _, rfl, bi, _, (k : Int), .int r[k], rfl, rfl, u8.sqT hb2, atI_nat hk2, _, rfl, lnum_do c8 g9 ?_ f0 (by omega) fun H10 c10 u10 => ⟨_, _, rfl, ?_, u8.trans u10⟩⟩
          · rw [ec, List.length_append]
            omega
          · rw [flat_succ, ← List.append_assoc, run_append, ← ec]
            exact c10
        · rintro σ H8 ⟨e, x2, rfl, c8, u8⟩
          refine ⟨_, _, _, rfl, ?_, u8⟩
          rw [flat_succ, er]
          exact c8
      · rintro σ H6 ⟨e, x1, x2, rfl, c6, u6⟩
        exact fin H6 c6 u6
    · rw [z] at fin ⊢
      rw [if_pos rfl] at fin
      exact iteF (fin H5 c5 u5)
end
end Bo

/-! The law's trees, written. -/
namespace Bo
open PySem PySem.Spec L2 PyProof.Rows
@[irreducible] def spLTree (K : PySem.W.Frag) (m : Nat) : Sp := fun vs H Q _ => ∃ (a d : Addr) (p : V) (s : CoSt Kk) (dt : PyData) (l : Ev) (N : Nat), vs = [.ref a, p, .int (nn m : Nat)] ∧ LcAt H a d s ∧ Good s N ∧ N + l.length ≤ 100000 ∧ Dp K H p dt ∧ TreeE m dt l ∧
  ∀ H', LcAt H' a d (run s l) → Upto [a, d] H H' → Q .non H'
theorem ltree_do {K : PySem.W.Frag} {m : Nat} {H : Hp} {a d : Addr} {p : V} {s : CoSt Kk} {dt : PyData} {l : Ev} {N : Nat} {Q : VK} {E : XK} (la : LcAt H a d s) (g : Good s N) (hN : N + l.length ≤ 100000) (dp : Dp K H p dt) (te : TreeE m dt l)
    (hq : ∀ H', LcAt H' a d (run s l) → Upto [a, d] H H' → Q .non H') : spLTree K m [.ref a, p, .int (nn m : Nat)] H Q E := by
  unfold spLTree
  exact ⟨a, d, p, s, dt, l, N, rfl, la, g, hN, dp, te, hq⟩
section
variable {w : World} {K : PySem.W.Frag} {mg : Str → Option Value} {base : Heap}
theorem void_l_put_tree (T : Tx K mg) : Dfn pr w K mg base CX0 1 "_law_put_tree" spNone :=
  mk_dfn (x_l_put_tree T) (g_l_put_tree T) sc_l_put_tree (fun vs H Q E h => h.elim) fun cdv A outer s H vs Q E hr h => h.elim
theorem step_l_put_tree (T : Tx K mg) {k m : Nat} {sp : Sp} (hm : m ≤ 2) (hk : 4 ≤ k) (D_l_put_leaf : Dfn pr w K mg base CX0 4 "_law_put_leaf" (spLLeaf K)) (D_l_put : Dfn pr w K mg base CX0 2 "_law_put" spLPut) (D_l_put_tree : Dfn pr w K mg base CX0 k "_law_put_tree" sp) (hsp : ∀ m', m = m' + 1 → sp = spLTree K m') : Dfn pr w K mg base CX0 (k + 1) "_law_put_tree" (spLTree K m) := by
  refine mk_dfn (x_l_put_tree T) (g_l_put_tree T) sc_l_put_tree (fun vs H Q E h => by unfold spLTree at h; obtain ⟨_, _, _, _, _, _, _, rfl, _⟩ := h; rfl) fun cdv A outer s H vs Q E hr h => ?_
  unfold spLTree at h
  obtain ⟨a, d, p, st, dt, l, N, rfl, la, g, hN, dp, te, kq⟩ := h
  refine ⟨_, PSs.nox (pss_mid (ps_if (pt_cmpR op_gt (pv 2) pe_int (nomark _))
 (pss_one (ps_expr (pe_cal D_l_put hr (by omega) pass0 (pa_cons (pv 0) (pa_cons (pe_tup (pa_cons pe_str (pa_cons (pv 2) pa_nil))) (pa_cons (pe_callTy call_int1 (by rfl) (f_int T) (by decide +kernel) (pa_cons (pe_cmpR op_eq (pe_ix ix_tup (pv 1) pe_int (fun _ _ => rfl)) pe_str (nomark _)) pa_nil)) pa_nil))))))
 pss_nil)
 (pss_one (ps_if (pt_cmpR op_eq (pe_ix ix_tup (pv 1) pe_int (fun _ _ => rfl)) pe_str (nomark _))
 (pss_one (ps_for PassesOwn.never rfl (pi_tup (pe_ix ix_tup (pv 1) pe_int (fun _ _ => rfl))) (pg_name (i := 3) sc_l_put_tree.nd rfl (Or.inl rfl))
 (pss_one (ps_expr (pe_cal D_l_put_tree hr (by omega) pass0 (pa_cons (pv 0) (pa_cons (pv 3) (pa_cons (pe_op op_fdiv (pv 2) pe_int) pa_nil))))))))
 (pss_one (ps_expr (pe_cal D_l_put_leaf hr (by omega) pass0 (pa_cons (pv 0) (pa_cons (pv 1) (pa_cons (pv 2) pa_nil))))))))), ?_⟩
  have head : ∃ (s0 : Str) (ds : List PyData) (isb : Bool) (b : Int) (tl : Ev), dt = .tuple (.str s0 :: ds) ∧ decide (V.str s0 = V.str "split") = isb ∧ b = (if isb = true then 1 else 0) ∧ l = evSpl m b ++ tl := by
    cases te with
    | leaf h => exact ⟨"leaf", _, false, 0, _, rfl, rfl, rfl, rfl⟩
    | split ha hb hc hd => exact ⟨"split", _, true, 1, _, rfl, rfl, rfl, rfl⟩
  obtain ⟨s0, ds0, isb, b, tl, ed, es, eb, el⟩ := head
  have hx : ∃ ad xs, p = .ref ad ∧ SqT K H ad xs ∧ DpAll K H xs (.str s0 :: ds0) ∧ xs[0]? = some (.str s0) := by
    subst ed
    cases dp with
    | @tup ad xs _ hx hxs =>
      refine ⟨ad, xs, rfl, hx, hxs, ?_⟩
      cases hxs with
      | cons h _ => cases h; rfl
  obtain ⟨ad, xs, rfl, hx, hxs, hx0⟩ := hx
  refine ⟨fun σ' H' => σ' = [some (.ref a), some (.ref ad), some (.int (nn m : Nat)), none] ∧ LcAt H' a d (run st (evSpl m b)) ∧ Upto [a, d] H H', ?_, ?_⟩
  · refine ⟨_, rfl, _, _, rfl, rfl, _, rfl, ?_⟩
    rw [gt_two]
    cases m with
    | zero => exact iteF ⟨rfl, la, .refl⟩
    | succ m =>
      refine iteT ⟨_, rfl, _, rfl, (by show 2 ≤ sizeLine; decide), fun q hq => ?_⟩
      refine ⟨_, rfl, ad, xs, 0, .str s0, rfl, rfl, Same.sqT (Same.new hq) hx, atI_nat hx0, rfl, .inr ⟨_, rfl, ?_⟩⟩
      rw [es]
      have hN1 : N + 1 ≤ 100000 := by
        rw [el, List.length_append] at hN
        have : (evSpl (m + 1) b).length = 1 := rfl
        omega
      show spLPut [.ref a, .ref q, .int (if isb = true then 1 else 0)] (upd H q (.tup ((k2 "split" (nn (m + 1) : Nat)).map kV))) _ E0
      rw [← eb]
      exact lput_do la g (by omega) hq fun H5 c5 u5 => ⟨rfl, c5, u5⟩
  · rintro σ' H1 ⟨rfl, c1, u1⟩
    have g1 := runG (l := evSpl m b) g
    refine ⟨_, rfl, ad, xs, 0, .str s0, rfl, rfl, u1.sqT hx, atI_nat hx0, rfl, _, rfl, ?_⟩
    rw [es]
    cases te with
    | @leaf _ lf ok =>
      cases ed
      have ei : isb = false := es.symm.trans rfl
      subst ei
      have eb : b = 0 := eb
      subst eb
      have e2 : tl = evLeaf (nn m) lf := (List.append_cancel_left el).symm
      subst e2
      rw [List.length_append] at hN
      refine iteF ⟨_, rfl, _, rfl, _, rfl, ?_⟩
      refine lleaf_do c1 g1 (by omega) (dp_upto u1 _ _ (noL_leaf lf) dp) ok (nn_le hm) fun H2 c2 u2 => kq H2 ?_ (u1.trans u2)
      rw [run_append]
      exact c2
    | @split m x1 x2 x3 x4 la' lb lc ld ha hb hc hd =>
      have e2 := hsp m rfl
      subst e2
      cases ed
      have ei : isb = true := es.symm.trans rfl
      subst ei
      have eb : b = 1 := eb
      subst eb
      have e2 : tl = la' ++ (lb ++ (lc ++ ld)) := (List.append_cancel_left el).symm
      subst e2
      rw [List.length_append] at hN
      generalize hs1 : run st (evSpl (m + 1) 1) = s1 at c1 g1
      cases hxs with
      | @cons v0 vs _ _ p0 ps =>
      cases ps with
      | @cons v1 vs _ _ p1 ps =>
      cases ps
      cases p1 with
      | @tup bd ys _ hy hys =>
      have tl := TL.of4 ha hb hc hd
      have ef : [la', lb, lc, ld].flatten = la' ++ (lb ++ (lc ++ ld)) := by simp
      have hly := dpAll_length hys
      rw [← ef] at hN
      have kq : ∀ H', LcAt H' a d (run st (evSpl (m + 1) 1 ++ [la', lb, lc, ld].flatten)) → Upto [a, d] H H' → Q .non H' := by rw [ef]; exact kq
      generalize [x1, x2, x3, x4] = ds at hys tl hly
      generalize [la', lb, lc, ld] = ls at tl hN kq
      refine iteT ⟨_, rfl, ad, _, 1, _, rfl, rfl, u1.sqT hx, atI_nat (j := 1) rfl, bd, rfl, ⟨ys, u1.sqT hy⟩, ?_⟩
      refine for_tup (xs := ys) (fun i σ H' => ∃ z, σ = [some (.ref a), some (.ref ad), some (.int (nn (m + 1) : Nat)), z] ∧ LcAt H' a d (run s1 (ls.take i).flatten) ∧ Upto [a, d] H H') ⟨none, rfl, c1, u1⟩ (fun i σ H' _ h => ?_) ?_ ?_
      · obtain ⟨_, _, _, u2⟩ := h
        exact u2.sqT hy
      · rintro i x σ H2 hi ⟨z, rfl, c2, u2⟩
        obtain ⟨di, hdi, dpi⟩ := dpAll_get hys hi
        have hil : i < ls.length := by
          rw [← tl.1]
          exact (List.getElem?_eq_some_iff.mp hdi).1
        have hli := List.getElem?_eq_getElem hil
        have ti := tl.2 i di _ hdi hli
        have lt_ := flat_take_le hli
        have g2 := runG (l := (ls.take i).flatten) g1
        refine ⟨_, rfl, _, rfl, _, rfl, _, _, rfl, rfl, ⟨by decide, by decide⟩, ?_⟩
        have key := ltree_do (m := m) (Q := fun _ H' => ∃ z, [some (V.ref a), some (V.ref ad), some (V.int (nn (m + 1) : Nat)), some x] = [some (.ref a), some (.ref ad), some (.int (nn (m + 1) : Nat)), z] ∧ LcAt H' a d (run s1 (ls.take (i + 1)).flatten) ∧ Upto [a, d] H H') (E := E0) c2 g2 (by omega) (dp_upto u2 _ _ (noL_tree ti) dpi) ti
          (fun H3 c3 u3 => ⟨_, rfl, by rw [flat_take hli, run_append]; exact c3, u2.trans u3⟩)
        rw [← nn_half] at key
        exact key
      · rintro σ H2 ⟨z, rfl, c2, u2⟩
        have e : ys.length = ls.length := by rw [hly, tl.1]
        rw [e, List.take_length] at c2
        refine kq H2 ?_ u2
        rw [run_append]
        rw [← hs1] at c2
        exact c2
theorem ok_l_put_tree (T : Tx K mg) (D_l_put_leaf : Dfn pr w K mg base CX0 4 "_law_put_leaf" (spLLeaf K)) (D_l_put : Dfn pr w K mg base CX0 2 "_law_put" spLPut) : Dfn pr w K mg base CX0 7 "_law_put_tree" (spLTree K 2) := by
  have d0 := step_l_put_tree (m := 0) T (by decide) (Nat.le_refl 4) D_l_put_leaf D_l_put ((void_l_put_tree T).mono (by decide)) (fun m' e => by cases e)
  have d1 := step_l_put_tree (m := 1) T (by decide) (by decide) D_l_put_leaf D_l_put d0 (fun m' e => by injection e with e; rw [← e])
  exact step_l_put_tree (m := 2) T (by decide) (by decide) D_l_put_leaf D_l_put d1 (fun m' e => by injection e with e; rw [← e])
theorem ok_l_written (T : Tx K mg) (D_l_coder : Dfn pr w K mg base CX0 1 "_law_coder" spLCo) (D_l_put_tree : Dfn pr w K mg base CX0 7 "_law_put_tree" (spLTree K 2)) (D_l_octets : Dfn pr w K mg base CX0 1 "_law_octets" spLOct) : Dfn pr w K mg base CX0 8 "_law_written" (spOctOf K) := by
  refine mk_dfn (x_l_written T) (g_l_written T) sc_l_written (fun vs H Q E h => by obtain ⟨_, _, _, rfl, _⟩ := h; rfl) fun cdv A outer s H vs Q E hr h => ?_
  obtain ⟨v, ts, l, rfl, dp, be, hN, kq⟩ := h
  refine ⟨_, PSs.nox (pss_cons (ps_set (i := 1) sc_l_written.nd rfl (Or.inl rfl) (pe_cal0 D_l_coder hr (by decide) pass0))
 (pss_cons (ps_for PassesOwn.never rfl (pi_tup (pv 0)) (pg_name (i := 2) sc_l_written.nd rfl (Or.inl rfl))
 (pss_one (ps_expr (pe_cal D_l_put_tree hr (by decide) pass0 (pa_cons (pv 1) (pa_cons (pv 2) (pa_cons pe_int pa_nil)))))))
 (pss_one (ps_ret (pe_cal D_l_octets hr (by decide) pass0 (pa_cons (pv 1) pa_nil)))))), ?_⟩
  cases dp with
  | @tup ad xs _ hx hxs =>
  obtain ⟨ls, tl, el⟩ := TL.of_band be
  refine ⟨rfl, fun H1 a d c1 s1 ha hd => ?_⟩
  have s2 : ∀ H2, Upto [a, d] H1 H2 → Same H H2 := fun H2 u b o e => u.kp b o (by simp [ne_of_none e ha, ne_of_none e hd]) (s1 b o e)
  have hly := dpAll_length hxs
  have hle : ls.flatten.length ≤ 8000 := by rw [el]; exact hN
  refine ⟨_, rfl, ad, rfl, ⟨xs, Same.sqT s1 hx⟩, ?_⟩
  refine for_tup (xs := xs) (fun i σ H' => ∃ z, σ = [some (.ref ad), some (.ref a), z] ∧ LcAt H' a d (run st0 (ls.take i).flatten) ∧ Upto [a, d] H1 H') ⟨none, rfl, c1, .refl⟩ (fun i σ H' _ h => ?_) ?_ ?_
  · obtain ⟨_, _, _, u2⟩ := h
    exact u2.sqT (Same.sqT s1 hx)
  · rintro i x σ H2 hi ⟨z, rfl, c2, u2⟩
    obtain ⟨di, hdi, dpi⟩ := dpAll_get hxs hi
    have hil : i < ls.length := by
      rw [← tl.1]
      exact (List.getElem?_eq_some_iff.mp hdi).1
    have hli := List.getElem?_eq_getElem hil
    have ti := tl.2 i di _ hdi hli
    have lt_ := flat_take_le hli
    have g2 := runG (l := (ls.take i).flatten) (good0 (κ := Kk))
    refine ⟨_, rfl, _, rfl, ?_⟩
    exact ltree_do (m := 2) c2 g2 (by omega) (dp_same (s2 H2 u2) _ _ dpi) ti fun H3 c3 u3 => ⟨_, rfl, by rw [flat_take hli, run_append]; exact c3, u2.trans u3⟩
  · rintro σ H2 ⟨z, rfl, c2, u2⟩
    have e : xs.length = ls.length := by rw [hly, tl.1]
    rw [e, List.take_length, el] at c2
    have g2 := runG (l := l) (good0 (κ := Kk))
    exact ⟨_, rfl, loct_do (E := E0) c2 g2 (by omega) fun H3 q oc s3 io hl hq => kq H3 q oc ((s2 H2 u2).trans s3) io hl hq⟩
end
end Bo

/-! The law's checks of trees. -/
namespace Bo
open PySem PySem.Spec L2 PyProof.Rows
section
variable {w : World} {K : PySem.W.Frag} {mg : Str → Option Value} {base : Heap}
theorem ok_l_is_integer (T : Tx K mg) : Dfn pr w K mg base CX0 1 "_law_is_integer" (spIsInt K) := by
  refine mk_dfn (x_l_is_integer T) (g_l_is_integer T) sc_l_is_integer (fun vs H Q E h => by obtain ⟨_, _, rfl, _⟩ := h; rfl) fun cdv A outer s H vs Q E hr h => ?_
  obtain ⟨v, d, rfl, hd, k⟩ := h
  refine ⟨_, PSs.nox (pss_one (ps_ret (pe_and (pe_callB call_isiD (by rfl) (f_isinstance T) (by decide +kernel) (pa_cons (pv 0) (pa_cons (pe_bltn (v := .ty "int") (by rfl) (f_int T) (by decide +kernel) rfl) pa_nil))) (pe_one (pe_not (pe_callB call_isiD (by rfl) (f_isinstance T) (by decide +kernel) (pa_cons (pv 0) (pa_cons (pe_bltn (v := .ty "bool") (by rfl) (f_bool T) (by decide +kernel) rfl) pa_nil)))))))), ?_⟩
  rw [← intB_eq] at k
  refine ⟨_, rfl, _, d, "int", rfl, by simp, hd, _, rfl, ?_⟩
  refine ite2 (fun hc => ?_) (fun hc => ?_)
  · rw [if_pos hc] at k
    exact ⟨_, rfl, _, d, "bool", rfl, by simp, hd, _, rfl, k⟩
  · rw [if_neg hc] at k
    exact k
theorem ok_l_is_leaf (T : Tx K mg) (D_l_is_integer : Dfn pr w K mg base CX0 1 "_law_is_integer" (spIsInt K)) : Dfn pr w K mg base CX0 2 "_law_is_leaf" (spLeafOk K) := by
  refine mk_dfn (x_l_is_leaf T) (g_l_is_leaf T) sc_l_is_leaf (fun vs H Q E h => by obtain ⟨_, _, _, _, rfl, _⟩ := h; rfl) fun cdv A outer s H vs Q E hr h => ?_
  obtain ⟨v, s0, ds0, n, rfl, hn, hd, k⟩ := h
  refine ⟨_, PSs.nox (pss_cons (ps_if (PW.pt (pw_or (pt_cmpR op_ne (pe_callB call_len_seq (by rfl) (f_len T) PySem.boot_len (pa_cons (pv 0) pa_nil)) pe_int (nomark _)) (pw_or (pt_cmpR op_ne (pe_ix ix_tup (pv 0) pe_int (fun _ _ => rfl)) pe_str (nomark _)) (pw_or1 (pt_not (pt_val (pe_callB call_isiD (by rfl) (f_isinstance T) (by decide +kernel) (pa_cons (pe_ix ix_tup (pv 0) pe_int (fun _ _ => rfl)) (pa_cons (pe_bltn (v := .ty "str") (by rfl) (f_str T) (by decide +kernel) rfl) pa_nil)))))))))
 (pss_one (ps_ret pe_bl))
 pss_nil)
 (pss_cons (ps_if (pt_cmpR op_notIn_seq (pe_ix ix_tup (pv 0) pe_int (fun _ _ => rfl)) (pe_lst (pa_cons pe_str (pa_cons pe_str (pa_cons pe_str (pa_cons pe_str (pa_cons pe_str pa_nil)))))) (by with_unfolding_all rfl))
 (pss_one (ps_ret pe_bl))
 pss_nil)
 (pss_cons (ps_for PassesOwn.never rfl (pi_tup (pe_slice sl_tupA (pv 0) (po_some pe_int) (po_some pe_int))) (pg_name (i := 2) sc_l_is_leaf.nd rfl (Or.inl rfl))
 (pss_one (ps_if (pt_not (pt_val (pe_cal D_l_is_integer hr (by decide) pass0 (pa_cons (pv 2) pa_nil))))
 (pss_one (ps_ret pe_bl))
 pss_nil)))
 (pss_cons (ps_asg (pe_slice sl_tupA (pv 0) (po_some pe_int) (po_some pe_int)) (pg_tup rfl (pgs_cons (pg_name (i := 3) sc_l_is_leaf.nd rfl (Or.inl rfl)) (pgs_cons (pg_name (i := 4) sc_l_is_leaf.nd rfl (Or.inl rfl)) (pgs_cons (pg_name (i := 5) sc_l_is_leaf.nd rfl (Or.inl rfl)) (pgs_cons (pg_name (i := 6) sc_l_is_leaf.nd rfl (Or.inl rfl)) pgs_nil))))))
 (pss_cons (ps_if (PW.pt (pw_or (pt_cmpR op_lt (pv 3) pe_int (nomark _)) (pw_or (pt_cmpR op_gt (pv 3) pe_int (nomark _)) (pw_or (pt_cmpR op_gt (pe_callB call_abs (by rfl) (f_abs T) (by decide +kernel) (pa_cons (pv 4) pa_nil)) pe_int (nomark _)) (pw_or (pt_cmpR op_gt (pe_callB call_abs (by rfl) (f_abs T) (by decide +kernel) (pa_cons (pv 5) pa_nil)) pe_int (nomark _)) (pw_or1 (pt_cmpR op_notIn_seq (pv 6) (pe_lst (pa_cons pe_int (pa_cons pe_int (pa_cons pe_int (pa_cons pe_int (pa_cons pe_int (pa_cons pe_int (pa_cons pe_int pa_nil)))))))) (by with_unfolding_all rfl))))))))
 (pss_one (ps_ret pe_bl))
 pss_nil)
 (pss_mid (ps_if (PW.pt (pw_and (pt_cmpR op_ne (pe_ix ix_tup (pv 0) pe_int (fun _ _ => rfl)) pe_str (nomark _)) (pw_and1 (PW.pt (pw_or (pt_cmpR op_ne (pv 3) pe_int (nomark _)) (pw_or (pt_cmpR op_ne (pv 4) pe_int (nomark _)) (pw_or1 (pt_cmpR op_ne (pv 5) pe_int (nomark _)))))))))
 (pss_one (ps_ret pe_bl))
 pss_nil)
 (pss_cons (ps_if (PW.pt (pw_or (pt_not (pt_val (pe_callB call_isiD (by rfl) (f_isinstance T) (by decide +kernel) (pa_cons (pe_ix ix_tup (pv 0) pe_int (fun _ _ => rfl)) (pa_cons (pe_bltn (v := .ty "tuple") (by rfl) (f_tuple T) (by decide +kernel) rfl) pa_nil))))) (pw_or1 (pt_cmpR op_ne (pe_callB call_len_seq (by rfl) (f_len T) PySem.boot_len (pa_cons (pe_ix ix_tup (pv 0) pe_int (fun _ _ => rfl)) pa_nil)) (pv 1) (nomark _)))))
 (pss_one (ps_ret pe_bl))
 pss_nil)
 (pss_cons (ps_for PassesOwn.never rfl (pi_tup (pe_ix ix_tup (pv 0) pe_int (fun _ _ => rfl))) (pg_name (i := 7) sc_l_is_leaf.nd rfl (Or.inl rfl))
 (pss_cons (ps_if (PW.pt (pw_or (pt_not (pt_val (pe_callB call_isiD (by rfl) (f_isinstance T) (by decide +kernel) (pa_cons (pv 7) (pa_cons (pe_bltn (v := .ty "tuple") (by rfl) (f_tuple T) (by decide +kernel) rfl) pa_nil))))) (pw_or1 (pt_cmpR op_ne (pe_callB call_len_seq (by rfl) (f_len T) PySem.boot_len (pa_cons (pv 7) pa_nil)) (pv 1) (nomark _)))))
 (pss_one (ps_ret pe_bl))
 pss_nil)
 (pss_one (ps_for PassesOwn.never rfl (pi_tup (pv 7)) (pg_name (i := 8) sc_l_is_leaf.nd rfl (Or.inl rfl))
 (pss_one (ps_if (PW.pt (pw_or (pt_not (pt_val (pe_cal D_l_is_integer hr (by decide) pass0 (pa_cons (pv 8) pa_nil)))) (pw_or1 (pt_cmpR op_gt (pe_callB call_abs (by rfl) (f_abs T) (by decide +kernel) (pa_cons (pv 8) pa_nil)) pe_int (nomark _)))))
 (pss_one (ps_ret pe_bl))
 pss_nil))))))
 (pss_one (ps_ret pe_bl)))))))))), ?_⟩
  have here : ∀ b, leafB n (.str s0 :: ds0) = b → ∀ H', Same H H' → Q (.bl b) H' := fun b e H' s1 => by
    rw [e] at k
    exact k H' s1
  have rf : Same H H := fun _ _ e => e
  cases hd with
  | @tup a xs _ hx hxs =>
  have hl := dpAll_length hxs
  refine ⟨_, rfl, a, xs, rfl, .inr hx, rfl, _, rfl, ?_⟩
  refine ite2 (fun h1 => ?_) (fun h1 => ?_)
  · refine iteT (here false (leafB_len fun z => ?_) H rf)
    rw [hl, z] at h1
    simp at h1
  have h7 : (PyData.str s0 :: ds0).length = 7 := by
    have : ¬ ¬ (V.int (xs.length : Int) = V.int 7) := by simpa using h1
    have h3 := Classical.not_not.mp this
    injection h3 with h3
    omega
  obtain ⟨a0, a1, a2, a3, a4, a5, a6, e7⟩ := seven h7
  rw [e7] at hxs here k
  have ea0 : a0 = .str s0 := by
    injection e7 with e70 _
    exact e70.symm
  subst ea0
  clear e7 h7 h1 hl
  obtain ⟨v0, v1, v2, v3, v4, v5, v6, rfl, p0, p1, p2, p3, p4, p5, p6⟩ := dpAll7 hxs
  cases p0
  refine ⟨_, rfl, a, _, 0, _, rfl, rfl, hx, atI_nat (j := 0) rfl, rfl, _, rfl, ?_⟩
  by_cases hs0 : ¬ s0 = "leaf"
  · rw [show decide (V.str s0 = V.str "leaf") = false from decide_eq_false fun z => hs0 (by injection z)]
    have e8 : isS "leaf" (.str s0) = false := decide_eq_false hs0
    exact iteT (iteT (here false (by simp only [leafB, e8, Bool.false_and]) H rf))
  have hs0 := Classical.not_not.mp hs0
  subst hs0
  refine iteF ⟨_, rfl, a, _, 1, v1, rfl, rfl, hx, atI_nat (j := 1) rfl, v1, a1, "str", rfl, by simp, p1, _, rfl, ?_⟩
  rcases ff_tt (isD "str" a1) with hc | hc
  · rw [hc]
    refine iteT (here false ?_ H rf)
    have z : modeB a1 = false := by cases a1 <;> first | rfl | cases hc
    simp only [leafB, z, Bool.false_and, Bool.and_false]
  rw [hc]
  obtain ⟨md, rfl, rfl⟩ := dp_str p1 hc
  refine iteF ⟨_, rfl, a, _, 1, _, rfl, rfl, hx, atI_nat (j := 1) rfl, ?_⟩
  refine ⟨(by show 5 ≤ sizeLine; decide), fun ml hml => ⟨ml, modes.map V.str, rfl, .inl (SqL.of upd_same), rfl, flat_strs _, _, rfl, ?_⟩⟩
  rw [inV_strs]
  have s1 := Same.new (o := .lst (modes.map V.str)) hml
  by_cases hm : ¬ md ∈ modes
  · rw [decide_eq_false hm]
    refine iteT (here false ?_ _ s1)
    have z : modeB (.str md) = false := decide_eq_false hm
    simp only [leafB, z, Bool.false_and, Bool.and_false]
  have hm := Classical.not_not.mp hm
  rw [decide_eq_true hm]
  refine iteF ⟨_, rfl, 2, rfl, 6, rfl, a, _, rfl, Same.sqT s1 hx, fun z => absurd (show HT.sIx 7 0 (some 2) = 0 from z.1) (by decide), fun _ p hp => ?_⟩
  have s2 := s1.trans (Same.new (o := .tup [v2, v3, v4, v5]) hp)
  refine ⟨p, rfl, ⟨[v2, v3, v4, v5], SqT.of upd_same⟩, ?_⟩
  have q4 : DpAll K H [v2, v3, v4, v5] [a2, a3, a4, a5] := .cons p2 (.cons p3 (.cons p4 (.cons p5 .nil)))
  have bad : ∀ d, d ∈ [a2, a3, a4, a5] → intB d = false → leafB n [.str "leaf", .str md, a2, a3, a4, a5, a6] = false := by
    intro d hd hi
    have w_ : ∀ a b, within a b d = false := fun a b => within_no hi
    have f_ : facB d = false := by cases d <;> first | rfl | cases hi
    have : d = a2 ∨ d = a3 ∨ d = a4 ∨ d = a5 := by simpa using hd
    rcases this with rfl | rfl | rfl | rfl
    · simp only [leafB, w_, Bool.false_and, Bool.and_false]
    · simp only [leafB, w_, Bool.false_and, Bool.and_false]
    · simp only [leafB, w_, Bool.false_and, Bool.and_false]
    · simp only [leafB, f_, Bool.false_and, Bool.and_false]
  refine for_tup (xs := [v2, v3, v4, v5]) (fun i σ H' => ∃ z, σ = [some (.ref a), some (.int (n : Int)), z, none, none, none, none, none, none] ∧ SqT K H' p [v2, v3, v4, v5] ∧ Same H H' ∧ ([a2, a3, a4, a5].take i).all intB = true) ⟨none, rfl, SqT.of upd_same, s2, rfl⟩ (fun i σ H' _ h => ?_) ?_ ?_
  · obtain ⟨_, _, h, _⟩ := h
    exact h
  · rintro i x σ H' hi ⟨z, rfl, h1, s3, h3⟩
    obtain ⟨di, hdi, dpi⟩ := dpAll_get q4 hi
    refine ⟨_, rfl, x, di, rfl, dp_same s3 _ _ dpi, _, rfl, ?_⟩
    rcases ff_tt (intB di) with hz | hz
    · rw [hz]
      exact iteT (here false (bad di (List.mem_of_getElem? hdi) hz) _ s3)
    · rw [hz]
      refine iteF ⟨_, rfl, h1, s3, ?_⟩
      rw [List.take_succ, List.all_append, h3, hdi]
      simp [hz]
  · rintro σ H1 ⟨z, rfl, _, s3, h3⟩
    have h3 : [a2, a3, a4, a5].all intB = true := h3
    have j : intB a2 = true ∧ intB a3 = true ∧ intB a4 = true ∧ intB a5 = true := by simpa using h3
    obtain ⟨sl, rfl, rfl⟩ := dp_int p2 j.1
    obtain ⟨dy, rfl, rfl⟩ := dp_int p3 j.2.1
    obtain ⟨dx, rfl, rfl⟩ := dp_int p4 j.2.2.1
    obtain ⟨q, rfl, rfl⟩ := dp_int p5 j.2.2.2
    have m1 : modeB (.str md) = true := decide_eq_true hm
    have e0 : isS "leaf" (.str "leaf") = true := rfl
    have base_ : leafB n [.str "leaf", .str md, .int sl, .int dy, .int dx, .int q, a6] = (within 0 2 (.int sl) && (facB (.int q) && (within (-31) 31 (.int dy) && (within (-31) 31 (.int dx) && ((isS "motion" (.str md) || (isZ (.int sl) && (isZ (.int dy) && isZ (.int dx)))) && lvB n a6))))) := by
      simp only [leafB, e0, m1, Bool.true_and]
    rw [base_] at here k
    have no : ∀ H', Same H H' → ¬ (0 ≤ sl ∧ sl ≤ 2 ∧ q ∈ facs ∧ -31 ≤ dy ∧ dy ≤ 31 ∧ -31 ≤ dx ∧ dx ≤ 31) → Q (.bl false) H' := fun H' s4 h => here false (Bool.eq_false_iff.mpr fun e => h (by
      simp only [within, facB, Bool.and_eq_true, decide_eq_true_eq] at e
      obtain ⟨⟨e1, e2⟩, e3, ⟨e4, e5⟩, ⟨e6, e7⟩, _⟩ := e
      exact ⟨e1, e2, e3, e4, e5, e6, e7⟩)) H' s4
    refine ⟨_, rfl, 2, rfl, 6, rfl, a, _, rfl, Same.sqT s3 hx, fun z => absurd (show HT.sIx 7 0 (some 2) = 0 from z.1) (by decide), fun _ p2' hp2 => ?_⟩
    have s4 := s3.trans (Same.new (o := .tup [.int sl, .int dy, .int dx, .int q]) hp2)
    refine ⟨p2', _, rfl, SqT.of upd_same, rfl, _, _, rfl, _, _, rfl, _, _, rfl, _, _, rfl, rfl, ?_⟩
    refine ⟨_, rfl, ⟨_, _, rfl, rfl, _, rfl, ?_⟩⟩
    refine ite2 (fun hc => ?_) (fun h1 => ?_)
    · refine iteT ?_
      refine no _ s4 fun h => ?_
      obtain ⟨e1, e2, _, e3, e4, e5, e6⟩ := h
      have := of_decide_eq_true hc
      omega
    have h1 : 0 ≤ sl := by
      have : ¬ sl < 0 := fun z => h1 (decide_eq_true z)
      omega
    refine ⟨_, rfl, ⟨_, _, rfl, rfl, _, rfl, ?_⟩⟩
    refine ite2 (fun hc => ?_) (fun h2 => ?_)
    · refine iteT ?_
      refine no _ s4 fun h => ?_
      obtain ⟨e1, e2, _, e3, e4, e5, e6⟩ := h
      have := of_decide_eq_true hc
      omega
    have h2 : sl ≤ 2 := by
      have : ¬ 2 < sl := fun z => h2 (decide_eq_true z)
      omega
    refine ⟨_, rfl, ⟨_, rfl, _, _, rfl, rfl, _, rfl, ?_⟩⟩
    refine ite2 (fun hc => ?_) (fun h3 => ?_)
    · refine iteT ?_
      refine no _ s4 fun h => ?_
      obtain ⟨e1, e2, _, e3, e4, e5, e6⟩ := h
      have := of_decide_eq_true hc
      split at this <;> omega
    have h3 : -31 ≤ dy ∧ dy ≤ 31 := by
      have : ¬ 31 < (if dy < 0 then -dy else dy) := fun z => h3 (decide_eq_true z)
      split at this <;> omega
    refine ⟨_, rfl, ⟨_, rfl, _, _, rfl, rfl, _, rfl, ?_⟩⟩
    refine ite2 (fun hc => ?_) (fun h4 => ?_)
    · refine iteT ?_
      refine no _ s4 fun h => ?_
      obtain ⟨e1, e2, _, e3, e4, e5, e6⟩ := h
      have := of_decide_eq_true hc
      split at this <;> omega
    have h4 : -31 ≤ dx ∧ dx ≤ 31 := by
      have : ¬ 31 < (if dx < 0 then -dx else dx) := fun z => h4 (decide_eq_true z)
      split at this <;> omega
    refine ⟨_, rfl, (by show 7 ≤ sizeLine; decide), fun fl hfl => ⟨fl, facs.map V.int, rfl, .inl (SqL.of upd_same), rfl, flat_ints _, _, rfl, ?_⟩⟩
    rw [inV_ints]
    have s5 := s4.trans (Same.new (o := .lst (facs.map V.int)) hfl)
    by_cases hq : ¬ q ∈ facs
    · rw [decide_eq_false hq]
      exact iteT (no _ s5 fun h => hq h.2.2.1)
    have hq := Classical.not_not.mp hq
    rw [decide_eq_true hq]
    have base2 : (within 0 2 (.int sl) && (facB (.int q) && (within (-31) 31 (.int dy) && (within (-31) 31 (.int dx) && ((isS "motion" (.str md) || (isZ (.int sl) && (isZ (.int dy) && isZ (.int dx)))) && lvB n a6))))) = ((isS "motion" (.str md) || (isZ (.int sl) && (isZ (.int dy) && isZ (.int dx)))) && lvB n a6) := by
      rw [within_int ⟨h1, h2⟩, within_int h3, within_int h4, show facB (.int q) = true from decide_eq_true hq]
      simp only [Bool.true_and]
    rw [base2] at here k
    clear no base2 base_ bad
    refine iteF ⟨fun σ' H' => σ' = [some (.ref a), some (.int (n : Int)), z, some (.int sl), some (.int dy), some (.int dx), some (.int q), none, none] ∧ Same H H' ∧ (isS "motion" (.str md) || (isZ (.int sl) && (isZ (.int dy) && isZ (.int dx)))) = true, ?_, ?_⟩
    · refine ⟨_, rfl, a, _, 1, _, rfl, rfl, Same.sqT s5 hx, atI_nat (j := 1) rfl, rfl, _, rfl, ?_⟩
      by_cases hmo : md = "motion"
      · subst hmo
        exact iteF (iteF ⟨rfl, s5, rfl⟩)
      · rw [show decide (V.str md = V.str "motion") = false from decide_eq_false fun z => hmo (by injection z)]
        have em : isS "motion" (.str md) = false := decide_eq_false hmo
        refine iteT ⟨_, rfl, rfl, _, rfl, ?_⟩
        rw [em, Bool.false_or] at here ⊢
        by_cases z1 : ¬ sl = 0
        · rw [show decide (V.int sl = V.int 0) = false from decide_eq_false fun z => z1 (by injection z)]
          refine iteT (iteT (here false ?_ _ s5))
          rw [show isZ (.int sl) = false from decide_eq_false z1]
          rfl
        have z1 := Classical.not_not.mp z1
        subst z1
        refine iteF ⟨_, rfl, rfl, _, rfl, ?_⟩
        by_cases z1 : ¬ dy = 0
        · rw [show decide (V.int dy = V.int 0) = false from decide_eq_false fun z => z1 (by injection z)]
          refine iteT (iteT (here false ?_ _ s5))
          rw [show isZ (.int dy) = false from decide_eq_false z1, Bool.false_and, Bool.and_false]
          rfl
        have z1 := Classical.not_not.mp z1
        subst z1
        refine iteF ⟨_, rfl, rfl, _, rfl, ?_⟩
        by_cases z1 : ¬ dx = 0
        · rw [show decide (V.int dx = V.int 0) = false from decide_eq_false fun z => z1 (by injection z)]
          refine iteT (here false ?_ _ s5)
          rw [show isZ (.int dx) = false from decide_eq_false z1, Bool.and_false, Bool.and_false]
          rfl
        have z1 := Classical.not_not.mp z1
        subst z1
        exact iteF ⟨rfl, s5, rfl⟩
    · rintro σ' H6 ⟨rfl, s6, hz⟩
      rw [hz, Bool.true_and] at here k
      clear s5 s4 hfl hp2 s3 h3 hml hp s1 s2
      have p6' := dp_same s6 _ _ p6
      have x6 := Same.sqT s6 hx
      refine ⟨_, rfl, a, _, 6, v6, rfl, rfl, x6, atI_nat (j := 6) rfl, v6, a6, "tuple", rfl, by simp, p6', _, rfl, ?_⟩
      rcases ff_tt (isD "tuple" a6) with hc6 | hc6
      · rw [hc6]
        refine iteT (iteT (here false ?_ _ s6))
        cases a6 <;> first | rfl | cases hc6
      rw [hc6]
      obtain ⟨b, ys, es, rfl, rfl, hy, hys⟩ := dp_tup p6 hc6
      have hly := dpAll_length hys
      have el : lvB n (.tuple es) = (es.length == n && es.all (rowB n)) := rfl
      rw [el] at here k
      refine iteF ⟨_, rfl, a, _, 6, _, rfl, rfl, x6, atI_nat (j := 6) rfl, b, ys, rfl, .inr (Same.sqT s6 hy), _, rfl, rfl, _, rfl, ?_⟩
      by_cases h2 : ¬ es.length = n
      · rw [show decide (V.int (ys.length : Int) = V.int (n : Int)) = false from decide_eq_false fun z => by injection z with z; omega]
        exact iteT (here false (by rw [beq_false_of_ne h2, Bool.false_and]) _ s6)
      have h2 := Classical.not_not.mp h2
      rw [show decide (V.int (ys.length : Int) = V.int (n : Int)) = true from decide_eq_true (by rw [hly, h2])]
      rw [h2, beq_self_eq_true, Bool.true_and] at here k
      refine iteF ⟨_, rfl, a, _, 6, _, rfl, rfl, x6, atI_nat (j := 6) rfl, b, rfl, ⟨ys, Same.sqT s6 hy⟩, ?_⟩
      refine for_tup (xs := ys) (fun i σ H' => ∃ r o, σ = [some (.ref a), some (.int (n : Int)), z, some (.int sl), some (.int dy), some (.int dx), some (.int q), r, o] ∧ H' = H6 ∧ (es.take i).all (rowB n) = true) ⟨none, none, rfl, rfl, rfl⟩ (fun i σ H' _ h => ?_) ?_ ?_
      · obtain ⟨_, _, _, rfl, _⟩ := h
        exact Same.sqT s6 hy
      · rintro i x σ H' hi ⟨r, o, rfl, rfl, hall⟩
        obtain ⟨dr, hdr, dpr⟩ := dpAll_get hys hi
        have dpr := dp_same s6 _ _ dpr
        have take_ : (es.take (i + 1)).all (rowB n) = rowB n dr := by
          rw [List.take_succ, List.all_append, hall, hdr]
          simp
        have out : rowB n dr = false → Q (.bl false) H' := fun zz => by
          refine here false ?_ _ s6
          rw [List.all_eq_false]
          exact ⟨dr, List.mem_of_getElem? hdr, by rw [zz]; simp⟩
        refine ⟨_, rfl, x, dr, "tuple", rfl, by simp, dpr, _, rfl, ?_⟩
        rcases ff_tt (isD "tuple" dr) with hcr | hcr
        · rw [hcr]
          refine iteT (iteT (out ?_))
          cases dr <;> first | rfl | cases hcr
        rw [hcr]
        obtain ⟨br, zs, cs, rfl, rfl, hzr, hzs⟩ := dp_tup dpr hcr
        have hlz := dpAll_length hzs
        have er : rowB n (.tuple cs) = (cs.length == n && cs.all (within (-2000) 2000)) := rfl
        rw [er] at out take_
        refine iteF ⟨_, rfl, br, zs, rfl, .inr hzr, _, rfl, rfl, _, rfl, ?_⟩
        by_cases h5 : ¬ cs.length = n
        · rw [show decide (V.int (zs.length : Int) = V.int (n : Int)) = false from decide_eq_false fun z => by injection z with z; omega]
          exact iteT (out (by rw [beq_false_of_ne h5, Bool.false_and]))
        have h5 := Classical.not_not.mp h5
        rw [show decide (V.int (zs.length : Int) = V.int (n : Int)) = true from decide_eq_true (by rw [hlz, h5])]
        rw [h5, beq_self_eq_true, Bool.true_and] at out take_
        refine iteF ⟨_, rfl, br, rfl, ⟨zs, hzr⟩, ?_⟩
        refine for_tup (xs := zs) (fun j σ H2 => ∃ o, σ = [some (.ref a), some (.int (n : Int)), z, some (.int sl), some (.int dy), some (.int dx), some (.int q), some (.ref br), o] ∧ H2 = H' ∧ (cs.take j).all (within (-2000) 2000) = true) ⟨_, rfl, rfl, rfl⟩ (fun j σ H2 _ h => ?_) ?_ ?_
        · obtain ⟨_, _, rfl, _⟩ := h
          exact hzr
        · rintro j x σ H2 hj ⟨o, rfl, rfl, hall2⟩
          obtain ⟨dc, hdc, dpc⟩ := dpAll_get hzs hj
          have take2 : (cs.take (j + 1)).all (within (-2000) 2000) = within (-2000) 2000 dc := by
            rw [List.take_succ, List.all_append, hall2, hdc]
            simp
          have out2 : within (-2000) 2000 dc = false → Q (.bl false) H2 := fun zz => by
            refine out ?_
            rw [List.all_eq_false]
            exact ⟨dc, List.mem_of_getElem? hdc, by rw [zz]; simp⟩
          refine ⟨_, rfl, x, dc, rfl, dpc, _, rfl, ?_⟩
          rcases ff_tt (intB dc) with hi2 | hi2
          · rw [hi2]
            exact iteT (iteT (out2 (within_no hi2)))
          rw [hi2]
          obtain ⟨lv, rfl, rfl⟩ := dp_int dpc hi2
          refine iteF ⟨_, rfl, _, rfl, _, _, rfl, rfl, _, rfl, ?_⟩
          have ew : within (-2000) 2000 (.int lv) = (decide (-2000 ≤ lv) && decide (lv ≤ 2000)) := rfl
          refine ite2 (fun hc => ?_) (fun hc => ?_)
          · refine out2 ?_
            have hc := of_decide_eq_true hc
            rw [ew]
            refine Bool.eq_false_iff.mpr fun e => ?_
            simp only [Bool.and_eq_true, decide_eq_true_eq] at e
            split at hc <;> omega
          · refine ⟨_, rfl, rfl, ?_⟩
            have hc : ¬ 2000 < (if lv < 0 then -lv else lv) := fun z => hc (decide_eq_true z)
            rw [take2, ew]
            simp only [Bool.and_eq_true,
                decide_eq_true_eq]
            split at hc <;> omega
        · rintro σ H2 ⟨o, rfl, rfl, hall2⟩
          rw [hlz, List.take_length] at hall2
          exact ⟨_, _, rfl, rfl, by rw [take_, hall2]⟩
      · rintro σ H' ⟨r, o, rfl, rfl, hall⟩
        rw [hly, List.take_length] at hall
        rw [hall] at k
        exact k H' s6
end
end Bo

/-! The law's checks: trees, bands. -/
namespace Bo
open PySem PySem.Spec L2 PyProof.Rows
section
variable {w : World} {K : PySem.W.Frag} {mg : Str → Option Value} {base : Heap}
theorem void_l_is_tree (T : Tx K mg) : Dfn pr w K mg base CX0 1 "_law_is_tree" spNone :=
  mk_dfn (x_l_is_tree T) (g_l_is_tree T) sc_l_is_tree (fun vs H Q E h => h.elim) fun cdv A outer s H vs Q E hr h => h.elim
theorem step_l_is_tree (T : Tx K mg) {k m : Nat} {sp : Sp} (hm : m ≤ 2) (hk : 2 ≤ k) (D_l_is_leaf : Dfn pr w K mg base CX0 2 "_law_is_leaf" (spLeafOk K)) (D_l_is_tree : Dfn pr w K mg base CX0 k "_law_is_tree" sp) (hsp : ∀ m', m = m' + 1 → sp = spTreeOk K m') : Dfn pr w K mg base CX0 (k + 1) "_law_is_tree" (spTreeOk K m) := by
  refine mk_dfn (x_l_is_tree T) (g_l_is_tree T) sc_l_is_tree (fun vs H Q E h => by obtain ⟨_, _, rfl, _⟩ := h; rfl) fun cdv A outer s H vs Q E hr h => ?_
  obtain ⟨v, d, rfl, hd, k⟩ := h
  refine ⟨_, PSs.nox (pss_cons (ps_if (PW.pt (pw_or (pt_not (pt_val (pe_callB call_isiD (by rfl) (f_isinstance T) (by decide +kernel) (pa_cons (pv 0) (pa_cons (pe_bltn (v := .ty "tuple") (by rfl) (f_tuple T) (by decide +kernel) rfl) pa_nil))))) (pw_or (pt_cmpR op_eq (pe_callB call_len_seq (by rfl) (f_len T) PySem.boot_len (pa_cons (pv 0) pa_nil)) pe_int (nomark _)) (pw_or1 (pt_not (pt_val (pe_callB call_isiD (by rfl) (f_isinstance T) (by decide +kernel) (pa_cons (pe_ix ix_tup (pv 0) pe_int (fun _ _ => rfl)) (pa_cons (pe_bltn (v := .ty "str") (by rfl) (f_str T) (by decide +kernel) rfl) pa_nil)))))))))
 (pss_one (ps_ret pe_bl))
 pss_nil)
 (pss_cons (ps_if (pt_cmpR op_ne (pe_ix ix_tup (pv 0) pe_int (fun _ _ => rfl)) pe_str (nomark _))
 (pss_one (ps_ret (pe_cal D_l_is_leaf hr (by omega) pass0 (pa_cons (pv 0) (pa_cons (pv 1) pa_nil)))))
 pss_nil)
 (pss_cons (ps_if (PW.pt (pw_or (pt_cmpR op_eq (pv 1) pe_int (nomark _)) (pw_or (pt_cmpR op_ne (pe_callB call_len_seq (by rfl) (f_len T) PySem.boot_len (pa_cons (pv 0) pa_nil)) pe_int (nomark _)) (pw_or (pt_not (pt_val (pe_callB call_isiD (by rfl) (f_isinstance T) (by decide +kernel) (pa_cons (pe_ix ix_tup (pv 0) pe_int (fun _ _ => rfl)) (pa_cons (pe_bltn (v := .ty "tuple") (by rfl) (f_tuple T) (by decide +kernel) rfl) pa_nil))))) (pw_or1 (pt_cmpR op_ne (pe_callB call_len_seq (by rfl) (f_len T) PySem.boot_len (pa_cons (pe_ix ix_tup (pv 0) pe_int (fun _ _ => rfl)) pa_nil)) pe_int (nomark _)))))))
 (pss_one (ps_ret pe_bl))
 pss_nil)
 (pss_cons (ps_for PassesOwn.never rfl (pi_tup (pe_ix ix_tup (pv 0) pe_int (fun _ _ => rfl))) (pg_name (i := 2) sc_l_is_tree.nd rfl (Or.inl rfl))
 (pss_one (ps_if (pt_not (pt_val (pe_cal D_l_is_tree hr (by omega) pass0 (pa_cons (pv 2) (pa_cons (pe_op op_fdiv (pv 1) pe_int) pa_nil)))))
 (pss_one (ps_ret pe_bl))
 pss_nil)))
 (pss_one (ps_ret pe_bl)))))), ?_⟩
  have here : ∀ b, treeB m d = b → Q (.bl b) H := fun b e => by
    rw [e] at k
    exact k H (fun _ _ e => e)
  refine ⟨_, rfl, v, d, "tuple", rfl, by simp, hd, _, rfl, ?_⟩
  rcases ff_tt (isD "tuple" d) with hc | hc
  · rw [hc]
    refine iteT (iteT (here false (treeB_no ?_)))
    cases d <;> first | rfl | cases hc
  rw [hc]
  obtain ⟨a, xs, ds, rfl, rfl, hx, hxs⟩ := dp_tup hd hc
  have hl := dpAll_length hxs
  refine iteF ⟨_, rfl, a, xs, rfl, .inr hx, rfl, _, rfl, ?_⟩
  cases ds with
  | nil =>
    have e0 : xs = [] := List.eq_nil_of_length_eq_zero hl
    subst e0
    exact iteT (iteT (here false (treeB_no rfl)))
  | cons d0 ds =>
  cases hxs with
  | @cons v0 vs _ _ p0 ps =>
  rw [show decide (V.int ((v0 :: vs).length : Int) = V.int 0) = false from decide_eq_false fun z => by injection z with z; rw [List.length_cons] at z; omega]
  refine iteF ⟨_, rfl, a, _, 0, v0, rfl, rfl, hx, atI_nat (j := 0) rfl, v0, d0, "str", rfl, by simp, p0, _, rfl, ?_⟩
  rcases ff_tt (isD "str" d0) with hs | hs
  · rw [hs]
    refine iteT (here false (treeB_no ?_))
    cases d0 <;> first | rfl | cases hs
  rw [hs]
  obtain ⟨s0, rfl, rfl⟩ := dp_str p0 hs
  have hh : headS (.tuple (.str s0 :: ds)) = some (s0, .str s0 :: ds) := rfl
  refine iteF ⟨_, rfl, a, _, 0, _, rfl, rfl, hx, atI_nat (j := 0) rfl, rfl, _, rfl, ?_⟩
  by_cases h0 : ¬ s0 = "split"
  · rw [show decide (V.str s0 = V.str "split") = false from decide_eq_false fun z => h0 (by injection z)]
    rw [treeB_leafy hh h0] at k
    exact iteT ⟨_, rfl, _, rfl, _, s0, ds, nn m, rfl, nn_le hm, hd, k⟩
  have h0 := Classical.not_not.mp h0
  rw [show decide (V.str s0 = V.str "split") = true from decide_eq_true (by rw [h0])]
  refine iteF ⟨_, rfl, rfl, _, rfl, ?_⟩
  cases m with
  | zero =>
    refine iteT (iteT (here false (treeB_split0 hh h0)))
  | succ m =>
  have e2 := hsp m rfl
  subst e2
  rw [treeB_split hh h0] at here k
  rw [show decide (V.int (nn (m + 1) : Nat) = V.int 2) = false from decide_eq_false fun z => by have := (nn_two _).mp z; omega]
  refine iteF ⟨_, rfl, a, _, rfl, .inr hx, rfl, _, rfl, ?_⟩
  by_cases h2 : ¬ ds.length = 1
  · have e3 : splitB (treeB m) (.str s0 :: ds) = false := by
      match ds, h2 with
      | [], _ => rfl
      | [_], h => exact absurd rfl h
      | _ :: _ :: _, _ => simp only [splitB]
    rw [show decide (V.int ((V.str s0 :: vs).length : Int) = V.int 2) = false from decide_eq_false fun z => by injection z with z; rw [hl, List.length_cons] at z; omega]
    exact iteT (iteT (here false e3))
  have h2 := Classical.not_not.mp h2
  match ds, h2 with
  | [d1], _ =>
  cases ps with
  | @cons v1 vs _ _ p1 ps =>
  cases ps
  refine iteF ⟨_, rfl, a, _, 1, v1, rfl, rfl, hx, atI_nat (j := 1) rfl, v1, d1, "tuple", rfl, by simp, p1, _, rfl, ?_⟩
  rcases ff_tt (isD "tuple" d1) with hc1 | hc1
  · rw [hc1]
    have e3 : splitB (treeB m) [.str s0, d1] = false := by cases d1 <;> first | rfl | cases hc1
    exact iteT (iteT (here false e3))
  rw [hc1]
  obtain ⟨b, ys, es, rfl, rfl, hy, hys⟩ := dp_tup p1 hc1
  have hly := dpAll_length hys
  have e4 : splitB (treeB m) [.str s0, .tuple es] = (es.length == 4 && es.all (treeB m)) := rfl
  rw [e4] at here k
  refine iteF ⟨_, rfl, a, _, 1, _, rfl, rfl, hx, atI_nat (j := 1) rfl, b, ys, rfl, .inr hy, rfl, _, rfl, ?_⟩
  by_cases h4 : ¬ es.length = 4
  · rw [show decide (V.int (ys.length : Int) = V.int 4) = false from decide_eq_false fun z => by injection z with z; omega]
    exact iteT (here false (by rw [beq_false_of_ne h4, Bool.false_and]))
  have h4 := Classical.not_not.mp h4
  rw [show decide (V.int (ys.length : Int) = V.int 4) = true from decide_eq_true (by rw [hly, h4]; rfl)]
  rw [h4, beq_self_eq_true, Bool.true_and] at k
  refine iteF ⟨_, rfl, a, _, 1, _, rfl, rfl, hx, atI_nat (j := 1) rfl, b, rfl, ⟨ys, hy⟩, ?_⟩
  refine for_tup (xs := ys) (fun i σ H' => ∃ z, σ = [some (.ref a), some (.int (nn (m + 1) : Nat)), z] ∧ Same H H' ∧ (es.take i).all (treeB m) = true) ⟨none, rfl, fun _ _ e => e, rfl⟩ (fun i σ H' _ h => ?_) ?_ ?_
  · obtain ⟨_, _, s1, _⟩ := h
    exact Same.sqT s1 hy
  · rintro i x σ H' hi ⟨z, rfl, s1, hall⟩
    obtain ⟨di, hdi, dpi⟩ := dpAll_get hys hi
    refine ⟨_, rfl, _, rfl, _, _, rfl, rfl, ⟨by decide, by decide⟩, x, di, congrArg (fun z => [x, V.int z]) (nn_half m), dp_same s1 _ _ dpi, fun H2 s2 => ⟨_, rfl, ?_⟩⟩
    rcases ff_tt (treeB m di) with ht | ht
    · rw [ht]
      refine iteT ?_
      have : es.all (treeB m) = false := by
        rw [List.all_eq_false]
        exact ⟨di, List.mem_of_getElem? hdi, by rw [ht]; simp⟩
      rw [this] at k
      exact k H2 (s1.trans s2)
    · rw [ht]
      refine iteF ⟨_, rfl, s1.trans s2, ?_⟩
      rw [List.take_succ, List.all_append, hall, hdi]
      simp [ht]
  · rintro σ H' ⟨z, rfl, s1, hall⟩
    rw [hly, List.take_length] at hall
    rw [hall] at k
    exact k H' s1
theorem ok_l_is_tree (T : Tx K mg) (D_l_is_leaf : Dfn pr w K mg base CX0 2 "_law_is_leaf" (spLeafOk K)) : Dfn pr w K mg base CX0 5 "_law_is_tree" (spTreeOk K 2) := by
  have d0 := step_l_is_tree (m := 0) T (by decide) (Nat.le_refl 2) D_l_is_leaf ((void_l_is_tree T).mono (by decide)) (fun m' e => by cases e)
  have d1 := step_l_is_tree (m := 1) T (by decide) (by decide) D_l_is_leaf d0 (fun m' e => by injection e with e; rw [← e])
  exact step_l_is_tree (m := 2) T (by decide) (by decide) D_l_is_leaf d1 (fun m' e => by injection e with e; rw [← e])
def spBandL (K : PySem.W.Frag) : Sp := fun vs H Q _ => ∃ v d, ∃ n : Nat, vs = [v, .int n] ∧ 1 ≤ n ∧ n ≤ 4 ∧ Dp K H v d ∧ ∀ H', Same H H' → Q (.bl (bandN n d)) H'
theorem ok_l_is_band (T : Tx K mg) (D_l_is_tree : Dfn pr w K mg base CX0 5 "_law_is_tree" (spTreeOk K 2)) : Dfn pr w K mg base CX0 6 "_law_is_band" (spBandL K) := by
  refine mk_dfn (x_l_is_band T) (g_l_is_band T) sc_l_is_band (fun vs H Q E h => by obtain ⟨_, _, _, rfl, _⟩ := h; rfl) fun cdv A outer s H vs Q E hr h => ?_
  obtain ⟨v, d, n, rfl, hn1, hn, hd, k⟩ := h
  refine ⟨_, PSs.nox (pss_cons (ps_if (PW.pt (pw_or (pt_not (pt_val (pe_callB call_isiD (by rfl) (f_isinstance T) (by decide +kernel) (pa_cons (pv 0) (pa_cons (pe_bltn (v := .ty "tuple") (by rfl) (f_tuple T) (by decide +kernel) rfl) pa_nil))))) (pw_or (pt_cmpR op_ne (pe_callB call_len_seq (by rfl) (f_len T) PySem.boot_len (pa_cons (pv 0) pa_nil)) (pv 1) (nomark _)) (pw_or (pt_cmpR op_lt (pv 1) pe_int (nomark _)) (pw_or1 (pt_cmpR op_gt (pv 1) pe_int (nomark _)))))))
 (pss_one (ps_ret pe_bl))
 pss_nil)
 (pss_cons (ps_for PassesOwn.never rfl (pi_tup (pv 0)) (pg_name (i := 2) sc_l_is_band.nd rfl (Or.inl rfl))
 (pss_one (ps_if (pt_not (pt_val (pe_cal D_l_is_tree hr (by decide) pass0 (pa_cons (pv 2) (pa_cons pe_int pa_nil)))))
 (pss_one (ps_ret pe_bl))
 pss_nil)))
 (pss_one (ps_ret
     pe_bl)))), ?_⟩
  refine ⟨_, rfl, v, d, "tuple", rfl, by simp, hd, _, rfl, ?_⟩
  rcases ff_tt (isD "tuple" d) with hc | hc
  · rw [hc]
    have e : bandN n d = false := by cases d <;> first | rfl | cases hc
    rw [e] at k
    exact iteT (iteT (k H (fun _ _ e => e)))
  rw [hc]
  obtain ⟨a, xs, ds, rfl, rfl, hx, hxs⟩ := dp_tup hd hc
  have hl := dpAll_length hxs
  have e4 : bandN n (.tuple ds) = (ds.length == n && ds.all (treeB 2)) := rfl
  rw [e4] at k
  refine iteF ⟨_, rfl, a, xs, rfl, .inr hx, _, rfl, rfl, _, rfl, ?_⟩
  by_cases h4 : ¬ ds.length = n
  · rw [show decide (V.int (xs.length : Int) = V.int (n : Int)) = false from decide_eq_false fun z => by injection z with z; omega]
    rw [beq_false_of_ne h4, Bool.false_and] at k
    exact iteT (iteT (k H (fun _ _ e => e)))
  have h4 := Classical.not_not.mp h4
  rw [show decide (V.int (xs.length : Int) = V.int (n : Int)) = true from decide_eq_true (by rw [hl, h4])]
  rw [h4, beq_self_eq_true, Bool.true_and] at k
  refine iteF ⟨_, rfl, _, _, rfl, rfl, _, rfl, ?_⟩
  rw [show decide ((n : Int) < 1) = false from decide_eq_false (by omega)]
  refine iteF ⟨_, rfl, _, _, rfl, rfl, _, rfl, ?_⟩
  rw [show decide ((4 : Int) < (n : Int)) = false from decide_eq_false (by omega)]
  refine iteF ⟨_, rfl, a, rfl, ⟨xs, hx⟩, ?_⟩
  refine for_tup (xs := xs) (fun i σ H' => ∃ z, σ = [some (.ref a), some (.int (n : Int)), z] ∧ Same H H' ∧ (ds.take i).all (treeB 2) = true) ⟨none, rfl, fun _ _ e => e, rfl⟩ (fun i σ H' _ h => ?_) ?_ ?_
  · obtain ⟨_, _, s1, _⟩ := h
    exact Same.sqT s1 hx
  · rintro i x σ H' hi ⟨z, rfl, s1, hall⟩
    obtain ⟨di, hdi, dpi⟩ := dpAll_get hxs hi
    refine ⟨_, rfl, x, di, rfl, dp_same s1 _ _ dpi, fun H2 s2 => ⟨_, rfl, ?_⟩⟩
    rcases ff_tt (treeB 2 di) with ht | ht
    · rw [ht]
      refine iteT ?_
      have : ds.all (treeB 2) = false := by
        rw [List.all_eq_false]
        exact ⟨di, List.mem_of_getElem? hdi, by rw [ht]; simp⟩
      rw [this] at k
      exact k H2 (s1.trans s2)
    · rw [ht]
      refine iteF ⟨_, rfl, s1.trans s2, ?_⟩
      rw [List.take_succ, List.all_append, hall, hdi]
      simp [ht]
  · rintro σ H' ⟨z, rfl, s1, hall⟩
    rw [hl, List.take_length] at hall
    rw [hall] at k
    exact k H' s1
end
end Bo

/-! The law's hand: draws, take, level, shift. -/
namespace Bo
open PySem PySem.Spec L2 PyProof.Rows
/-- the hand: the draws' list, the place, the rows and the motions that are left -/
def HandAt (H : Hp) (h D : Addr) (mot : Nat) : Prop := ∃ (L : List Int) (at_ : Nat) (rows : Int), H h = some (.lst [.ref D, .int (at_ : Int), .int rows, .int (mot : Int)]) ∧ H D = some (.lst (L.map V.int))
theorem HandAt.ne {H : Hp} {h D : Addr} {mot : Nat} (x : HandAt H h D mot) : D ≠ h := by
  obtain ⟨L, a, r, h1, h2⟩ := x
  intro z
  rw [z, h1] at h2
  have h3 := Option.some.inj h2
  cases L with
  | nil => cases h3
  | cons i L =>
    injection h3 with h4
    injection h4 with h5
    cases h5
theorem HandAt.same {H H' : Hp} {h D : Addr} {mot : Nat} (x : HandAt H h D mot) (s : Same H H') : HandAt H' h D mot := by
  obtain ⟨L, a, r, h1, h2⟩ := x
  exact ⟨L, a, r, s _ _ h1, s _ _ h2⟩
def spDraws (K : PySem.W.Frag) : Sp := fun vs H Q _ => ∃ (a : Addr) (ns : List Int), vs = [.ref a, .int 760] ∧ SqL K H a (ns.map V.int) ∧ ns.length ≤ 1000 ∧ ∀ (H' : Hp) (D : Addr) (L : List Int), Same H H' → H D = none → H' D = some (.lst (L.map V.int)) → Q (.ref D) H'
@[irreducible] def spTake : Sp := fun vs H Q _ => ∃ (h D : Addr) (mot : Nat) (many : Int), vs = [.ref h, .int many] ∧ HandAt H h D mot ∧ 0 < many ∧ ∀ (H' : Hp) (t : Int), HandAt H' h D mot → Upto [h] H H' → 0 ≤ t → t < many → Q (.int t) H'
theorem take_do {H : Hp} {h D : Addr} {mot : Nat} {many : Int} {Q : VK} {E : XK} (ha : HandAt H h D mot) (hm : 0 < many) (hq : ∀ (H' : Hp) (t : Int), HandAt H' h D mot → Upto [h] H H' → 0 ≤ t → t < many → Q (.int t) H') : spTake [.ref h, .int many] H Q E := by
  unfold spTake
  exact ⟨h, D, mot, many, rfl, ha, hm, hq⟩
def spIn (lo hi : Int) : Sp := fun vs H Q _ => ∃ (h D : Addr) (mot : Nat), vs = [.ref h] ∧ HandAt H h D mot ∧ ∀ (H' : Hp) (t : Int), HandAt H' h D mot → Upto [h] H H' → lo ≤ t → t ≤ hi → Q (.int t) H'
section
variable {w : World} {K : PySem.W.Frag} {mg : Str → Option Value} {base : Heap}
theorem ok_l_take (T : Tx K mg) : Dfn pr w K mg base CX0 1 "_law_take" spTake := by
  refine mk_dfn (x_l_take T) (g_l_take T) sc_l_take (fun vs H Q E h => by unfold spTake at h; obtain ⟨_, _, _, _, rfl, _⟩ := h; rfl) fun cdv A outer s H vs Q E hr h => ?_
  unfold spTake at h
  obtain ⟨h, D, mot, many, rfl, ha, hm, kq⟩ := h
  have nD := ha.ne
  obtain ⟨L, at_, rows, h1, h2⟩ := ha
  refine ⟨_, PSs.nox (pss_cons (ps_set (i := 2) sc_l_take.nd rfl (Or.inl rfl) (pe_ix ix_list (pv 0) pe_int (fun _ _ => rfl)))
 (pss_cons (ps_asg (pe_op op_add (pv 2) pe_int) (pg_sub (pv 0) pe_int set_list))
 (pss_cons (ps_set (i := 3) sc_l_take.nd rfl (Or.inl rfl) (pe_ix ix_list (pv 0) pe_int (fun _ _ => rfl)))
 (pss_cons (ps_if (pt_cmpR op_ge (pv 2) (pe_callB call_len_seq (by rfl) (f_len T) PySem.boot_len (pa_cons (pv 3) pa_nil)) (nomark _))
 (pss_one (ps_ret pe_int))
 pss_nil)
 (pss_one (ps_ret (pe_op op_mod (pe_op op_fdiv (pe_callTy call_int1 (by rfl) (f_int T) (by decide +kernel) (pa_cons (pe_ix ix_list (pv 3) (pv 2) (fun _ _ => rfl)) pa_nil)) pe_int) (pv 1)))))))), ?_⟩
  refine ⟨_, rfl, h, _, 1, _, rfl, rfl, SqL.of h1, atI_nat (j := 1) rfl, ?_⟩
  refine ⟨_, rfl, _, _, rfl, rfl, _, rfl, h, _, 1, 1, rfl, rfl, h1, rfl, ?_⟩
  refine ⟨_, rfl, h, _, 0, _, rfl, rfl, SqL.of upd_same, atI_nat (j := 0) rfl, ?_⟩
  have h3 : HandAt (upd H h (.lst [.ref D, .int ((at_ : Int) + 1), .int rows, .int (mot : Int)])) h D mot := ⟨L, at_ + 1, rows, upd_same, by rw [upd_ne nD]; exact h2⟩
  have u3 : Upto [h] H (upd H h (.lst [.ref D, .int ((at_ : Int) + 1), .int rows, .int (mot : Int)])) := Upto.put (by simp) h1 (fun z => z)
  have hD : upd H h (.lst [.ref D, .int ((at_ : Int) + 1), .int rows, .int (mot : Int)]) D = some (.lst (L.map V.int)) := by rw [upd_ne nD]; exact h2
  refine ⟨_, rfl, _, rfl, D, _, rfl, .inl (SqL.of hD), _, _, rfl, rfl, _, rfl, ?_⟩
  rw [List.length_map]
  refine ite2 (fun hc => ?_) (fun hc => ?_)
  · exact kq _ 0 h3 u3 (by decide) hm
  · have hlt : at_ < L.length := by
      have : ¬ (L.length : Int) ≤ (at_ : Int) := fun z => hc (decide_eq_true z)
      omega
    have hg : (L.map V.int)[at_]? = some (.int L[at_]) := by rw [List.getElem?_map, List.getElem?_eq_getElem hlt]; rfl
    refine ⟨_, rfl, _, rfl, D, _, _, _, rfl, rfl, SqL.of hD, atI_nat hg, .inl ⟨_, rfl, _, _, rfl, rfl, ⟨by decide, by decide⟩, _, rfl, _, _, rfl, rfl, hm, ?_⟩⟩
    exact kq _ _ h3 u3 (Int.emod_nonneg _ (by omega)) (Int.emod_lt_of_pos _ hm)
theorem ok_l_draws (T : Tx K mg) : Dfn pr w K mg base CX0 1 "_law_draws" (spDraws K) := by
  refine mk_dfn (x_l_draws T) (g_l_draws T) sc_l_draws (fun vs H Q E h => by obtain ⟨_, _, rfl, _⟩ := h; rfl) fun cdv A outer s H vs Q E hr h => ?_
  obtain ⟨a, ns, rfl, ha, hns, kq⟩ := h
  refine ⟨_, PSs.nox (pss_cons (ps_setLc (i := 3) (own := [("_law_cell", 2)]) (g := gName 2) (tt := tYes) rfl sc_l_draws.nd rfl rfl (sw_true rfl rfl rfl (by decide +kernel)) (pi_list (pv 0)) (blkOk_by (N := ["_law_script", "_law_many", "_law_cell", "_law_rests", "_law_draws_here", "_law_k", "_law_at", "_law_mixed"]) (sc := (defScope s_l_draws)) (by decide +kernel)) (fun _ _ _ _ _ => pg_name (i := 2) sc_l_draws.nd rfl (Or.inl rfl)) (fun _ _ _ _ _ => pts_nil) (fun _ _ _ _ _ => (pe_callB call_abs (by rfl) (f_abs T) (by decide +kernel) (pa_cons (pe_callTy call_int1 (by rfl) (f_int T) (by decide +kernel) (pa_cons (pv 2) pa_nil)) pa_nil))))
 (pss_cons (ps_set (i := 4) sc_l_draws.nd rfl (Or.inl rfl) (pe_lst pa_nil))
 (pss_cons (ps_for PassesOwn.never rfl (pi_range1 rfl (f_range T) (pa_cons (pv 1) pa_nil)) (pg_name (i := 5) sc_l_draws.nd rfl (Or.inl rfl))
 (pss_cons (ps_set (i := 2) sc_l_draws.nd rfl (Or.inl rfl) (pv 5))
 (pss_mid (ps_if (pt_cmpR op_gt (pe_callB call_len_seq (by rfl) (f_len T) PySem.boot_len (pa_cons (pv 0) pa_nil)) pe_int (nomark _))
 (pss_cons (ps_set (i := 6) sc_l_draws.nd rfl (Or.inl rfl) (pe_op op_mod (pv 5) (pe_callB call_len_seq (by rfl) (f_len T) PySem.boot_len (pa_cons (pv 0) pa_nil))))
 (pss_cons (ps_set (i := 2) sc_l_draws.nd rfl (Or.inl rfl) (pe_callTy call_int1 (by rfl) (f_int T) (by decide +kernel) (pa_cons (pe_ix ix_list (pv 0) (pv 6) (fun _ _ => rfl)) pa_nil)))
 (pss_one (ps_if (PW.pt (pw_and (pt_cmpR op_ge (pv 2) (pe_op op_pow pe_int pe_int) (nomark _)) (pw_and1 (pt_cmpR op_gt (pe_ix ix_list (pv 3) (pv 6) (fun _ _ => rfl)) pe_int (nomark _)))))
 (pss_cons (ps_expr (pe_bm PySem.F.plainAttrs_list PySem.F.slot_list_append PySem.F.type_list_append mt_append (pv 4) (pa_cons (pe_op op_mod (pe_callTy call_int1 (by rfl) (f_int T) (by decide +kernel) (pa_cons (pe_ix ix_list (pv 3) (pv 6) (fun _ _ => rfl)) pa_nil)) pe_int) pa_nil)))
 (pss_cons (ps_asg (pe_op op_fdiv (pe_callTy call_int1 (by rfl) (f_int T) (by decide +kernel) (pa_cons (pe_ix ix_list (pv 3) (pv 6) (fun _ _ => rfl)) pa_nil)) pe_int) (pg_sub (pv 3) (pv 6) set_list))
 (pss_one ps_continue)))
 pss_nil))))
 pss_nil)
 (pss_cons (ps_set (i := 7) sc_l_draws.nd rfl (Or.inl rfl) (pe_op op_mod (pe_callTy call_int1 (by rfl) (f_int T) (by decide +kernel) (pa_cons (pe_op op_add (pe_op op_add (pe_op op_mul (pv 2) pe_int) (pe_op op_mul (pv 5) pe_int)) pe_int) pa_nil)) pe_int))
 (pss_cons (ps_set (i := 7) sc_l_draws.nd rfl (Or.inl rfl) (pe_op op_mod (pe_callTy call_int1 (by rfl) (f_int T) (by decide +kernel) (pa_cons (pe_op op_add (pe_op op_fdiv (pe_op op_mul (pv 7) (pv 7)) pe_int) (pv 7)) pa_nil)) pe_int))
 (pss_one (ps_expr (pe_bm PySem.F.plainAttrs_list PySem.F.slot_list_append PySem.F.type_list_append mt_append (pv 4) (pa_cons (pe_op op_mod (pe_callTy call_int1 (by rfl) (f_int T) (by decide +kernel) (pa_cons (pe_op op_add (pe_op op_fdiv (pe_op op_mul (pv 7) (pv 7)) pe_int) (pe_op op_mul (pv 5) pe_int)) pa_nil)) pe_int) pa_nil)))))))))
 (pss_one (ps_ret (pv 4)))))), ?_⟩
  refine ⟨_, rfl, a, rfl, ⟨_, ha⟩, fun R hR => ?_⟩
  refine lc_list (xs := ns.map V.int) (fun i H' => Same H H' ∧ H' R = some (.lst ((ns.take i).map fun n => V.int (if n < 0 then -n else n)))) ⟨Same.new hR, by rw [upd_same]; rfl⟩ (fun i H' _ h => ?_) ?_ ?_
  · exact Same.seq h.1 ha
  · rintro i x H1 hi ⟨s1, h1⟩
    rw [List.getElem?_map] at hi
    cases e : ns[i]? with
    | none => rw [e] at hi; cases hi
    | some v =>
      rw [e] at hi
      cases hi
      have hil := (List.getElem?_eq_some_iff.mp e).1
      refine ⟨rfl, tYes_do ?_⟩
      refine ⟨_, rfl, .inl ⟨_, rfl, _, rfl, _, h1, ?_, ?_, ?_⟩⟩
      · rw [List.length_map, List.length_take, sizeLine_eq]
        omega
      · intro b o e2
        rw [upd_ne (ne_of_none e2 hR)]
        exact s1 _ _ e2
      · rw [upd_same, List.take_succ, List.map_append, e]
        rfl
  · rintro H1 ⟨s1, h1⟩
    refine ⟨Nat.zero_le _, fun D hD1 => ?_⟩
    have nRD : R ≠ D := ne_of_none h1 hD1
    have hD : H D = none := by
      cases q : H D with
      | none => rfl
      | some o => rw [s1 _ _ q] at hD1; cases hD1
    refine ⟨_, rfl, 760, rfl, by decide, by decide, ?_⟩
    refine for_range (lo := 0) (n := 760) (fun i σ H' => ∃ (c k at_ mx : Option V) (rs L : List Int), σ = [some (.ref a), some (.int 760), c, some (.ref R), some (.ref D), k, at_, mx] ∧ H' R = some (.lst (rs.map V.int)) ∧ rs.length = ns.length ∧ H' D = some (.lst (L.map V.int)) ∧ L.length = i ∧ Same H H')
      ⟨none, none, none, none, _, [], rfl, by rw [upd_ne nRD, h1]; show _ = some (HO.lst ((ns.map fun n => if n < 0 then -n else n).map V.int)); rw [List.map_map, List.length_map, List.take_length]; rfl, by rw [List.length_map], upd_same, rfl, s1.trans (Same.new hD1)⟩ ?_ ?_
    · rintro i σ H2 hi ⟨c, k, at_, mx, rs, L, rfl, hR2, hrs, hD2, hL, s2⟩
      have ek : (0 : Int) + (i : Int) = (i : Int) := Int.zero_add _
      rw [ek]
      refine ⟨_, rfl, ?_⟩
      refine ⟨fun σ' H' => ∃ (cv : Int) (at_ : Option V), σ' = [some (.ref a), some (.int 760), some (.int cv), some (.ref R), some (.ref D), some (.int (i : Int)), at_, mx] ∧ H' = H2, ?_, ?_⟩
      · refine ⟨_, rfl, a, _, rfl, .inl (Same.seq s2 ha), _, _, rfl, rfl, _, rfl, ?_⟩
        rw [List.length_map]
        refine ite2 (fun hc => ?_) (fun hc => ⟨_, _, rfl, rfl⟩)
        have hpos : (0 : Int) < (ns.length : Int) := of_decide_eq_true hc
        have hr0 := Int.emod_nonneg (i : Int) (show (ns.length : Int) ≠ 0 by omega)
        have hr1 := Int.emod_lt_of_pos (i : Int) hpos
        have er : (i : Int) % (ns.length : Int) = (((i : Int) % (ns.length : Int)).toNat : Int) := (Int.toNat_of_nonneg hr0).symm
        have hrl : ((i : Int) % (ns.length : Int)).toNat < ns.length := by omega
        have hrl2 : ((i : Int) % (ns.length : Int)).toNat < rs.length := by omega
        have hx1 : (ns.map V.int)[((i : Int) % (ns.length : Int)).toNat]? = some (.int ns[((i : Int) % (ns.length : Int)).toNat]) := by rw [List.getElem?_map, List.getElem?_eq_getElem hrl]; rfl
        have hx2 : (rs.map V.int)[((i : Int) % (ns.length : Int)).toNat]? = some (.int rs[((i : Int) % (ns.length : Int)).toNat]) := by rw [List.getElem?_map, List.getElem?_eq_getElem hrl2]; rfl
        refine ⟨_, rfl, _, rfl, a, _, rfl, .inl (Same.seq s2 ha), _, _, rfl, rfl, (by rw [List.length_map]; exact hpos), ?_⟩
        rw [List.length_map]
        refine ⟨_, rfl, _, rfl, a, _, _, _, rfl, rfl, Same.seq s2 ha, (by rw [er]; exact atI_nat hx1), .inl ⟨_, rfl, ?_⟩⟩
        refine ⟨_, rfl, _, _, rfl, rfl, ⟨by decide, by decide, by decide⟩, _, _, rfl, rfl, _, rfl, ?_⟩
        refine ite2 (fun hc1 => ?_) (fun hc1 => iteF ⟨_, _, rfl, rfl⟩)
        refine ⟨_, rfl, _, rfl, R, _, _, _, rfl, rfl, SqL.of hR2, (by rw [er]; exact atI_nat hx2), _, _, rfl, rfl, _, rfl, ?_⟩
        refine ite2 (fun hc2 => ?_) (fun hc2 => ⟨_, _, rfl, rfl⟩)
        refine ⟨_, rfl, .inl ⟨rfl, _, SqL.of hD2⟩, _, rfl, _, rfl, R, _, _, _, rfl, rfl, SqL.of hR2, (by rw [er]; exact atI_nat hx2), .inl ⟨_, rfl, _, _, rfl, rfl, (by show (0 : Int) < 1000003; decide), D, _, _, rfl, rfl, hD2, ?_, ?_⟩⟩
        · rw [List.length_map, sizeLine_eq]
          omega
        have hR3 : ∀ o, upd H2 D o R = some (.lst (rs.map V.int)) := fun o => by rw [upd_ne nRD]; exact hR2
        refine ⟨_, rfl, _, rfl, R, _, _, _, rfl, rfl, SqL.of (hR3 _), (by rw [er]; exact atI_nat hx2), .inl ⟨_, rfl, _, _, rfl, rfl, ⟨by decide, by decide⟩, _, rfl, _, rfl, R, _, _, ((i : Int) % (ns.length : Int)).toNat, rfl, rfl, hR3 _, ?_, ?_⟩⟩
        · unfold ixN
          rw [if_pos hr0, if_pos (by rw [List.length_map]; omega)]
        · refine ⟨_, _, _, _, rs.set ((i : Int) % (ns.length : Int)).toNat (rs[((i : Int) % (ns.length : Int)).toNat] / 1000003), L ++ [rs[((i : Int) % (ns.length : Int)).toNat] % 1000003], rfl, ?_, ?_, ?_, ?_, ?_⟩
          · rw [upd_same, List.map_set]
          · rw [List.length_set, hrs]
          · rw [upd_ne (Ne.symm nRD), upd_same, List.map_append]
            rfl
          · rw [List.length_append, hL]
            rfl
          · intro b o e
            rw [upd_ne (ne_of_none e hR), upd_ne (ne_of_none e hD)]
            exact s2 _ _ e
      · rintro σ' H3 ⟨cv, at2, rfl, rfl⟩
        refine ⟨_, rfl, _, _, rfl, rfl, .inr (by decide), _, rfl, _, _, rfl, rfl, .inr (by decide), _, _, rfl, rfl, _, _, rfl, rfl, .inl ⟨_, rfl, _, _, rfl, rfl, (by show (0 : Int) < 2147483647; decide), ?_⟩⟩
        have m1 := Int.emod_nonneg (cv * 48271 + (i : Int) * 69621 + 11) (show (2147483647 : Int) ≠ 0 by decide)
        have m2 := Int.emod_lt_of_pos (cv * 48271 + (i : Int) * 69621 + 11) (show (0 : Int) < 2147483647 by decide)
        dsimp only
        generalize (cv * 48271 + (i : Int) * 69621 + 11) % 2147483647 = x at m1 m2
        refine ⟨_, rfl, _, rfl, _, _, rfl, rfl, .inl ⟨by omega, by omega⟩, _, _, rfl, rfl, ⟨by decide, by decide⟩, _, rfl, _, _, rfl, rfl, .inl ⟨_, rfl, _, _, rfl, rfl, (by show (0 : Int) < 2147483629; decide), ?_⟩⟩
        have m3 := Int.emod_nonneg (x * x / 4096 + x) (show (2147483629 : Int) ≠ 0 by decide)
        have m4 := Int.emod_lt_of_pos (x * x / 4096 + x) (show (0 : Int) < 2147483629 by decide)
        dsimp only
        generalize (x * x / 4096 + x) % 2147483629 = y at m3 m4
        refine ⟨_, rfl, .inl ⟨rfl, _, SqL.of hD2⟩, _, rfl, _, rfl, _, _, rfl, rfl, .inl ⟨by omega, by omega⟩, _, _, rfl, rfl, ⟨by decide, by decide⟩, _, rfl, _, _, rfl, rfl, .inr (by decide), _, _, rfl, rfl, .inl ⟨_, rfl, _, _, rfl, rfl, (by show (0 : Int) < 2147483629; decide), D, _, _, rfl, rfl, hD2, ?_, ?_⟩⟩
        · rw [List.length_map, sizeLine_eq]
          omega
        · refine ⟨_, _, _, _, rs, L ++ [(y * y / 4096 + (i : Int) * 7919) % 2147483629], rfl, ?_, hrs, ?_, ?_, ?_⟩
          · rw [upd_ne nRD]
            exact hR2
          · rw [upd_same, List.map_append]
            rfl
          · rw [List.length_append, hL]
            rfl
          · intro b o e
            rw [upd_ne (ne_of_none e hD)]
            exact s2 _ _ e
    · rintro σ H2 ⟨c, k, at_, mx, rs, L, rfl, hR2, hrs, hD2, hL, s2⟩
      exact ⟨_, rfl, kq H2 D L s2 hD hD2⟩
end
end Bo

/-! The law's hand: level, shift; grids. -/
namespace Bo
open PySem PySem.Spec L2 PyProof.Rows
theorem of_four {x0 x1 x2 x3 : Int} {t : Int} (h0 : 0 ≤ t) (h1 : t < 4) : ∃ v, atI [V.int x0, .int x1, .int x2, .int x3] t = some (.int v) ∧ (v = x0 ∨ v = x1 ∨ v = x2 ∨ v = x3) := by
  have : t = 0 ∨ t = 1 ∨ t = 2 ∨ t = 3 := by omega
  rcases this with rfl | rfl | rfl | rfl
  · exact ⟨x0, rfl, .inl rfl⟩
  · exact ⟨x1, rfl, .inr (.inl rfl)⟩
  · exact ⟨x2, rfl, .inr (.inr (.inl rfl))⟩
  · exact ⟨x3, rfl, .inr (.inr (.inr rfl))⟩
theorem HandAt.kept {H H' : Hp} {h D p : Addr} {mot : Nat} {o : HO} (ha : HandAt H h D mot) (hp : H p = none) (u : Upto [h] (upd H p o) H') : H' p = some o := by
  obtain ⟨L, a, r, h1, h2⟩ := ha
  refine u.kp p o ?_ upd_same
  have := ne_of_none h1 hp
  simp [Ne.symm this]
section
variable {w : World} {K : PySem.W.Frag} {mg : Str → Option Value} {base : Heap}
theorem ok_l_level (T : Tx K mg) (D_l_take : Dfn pr w K mg base CX0 1 "_law_take" spTake) : Dfn pr w K mg base CX0 2 "_law_level" (spIn (-2000) 2000) := by
  refine mk_dfn (x_l_level T) (g_l_level T) sc_l_level (fun vs H Q E h => by obtain ⟨_, _, _, rfl, _⟩ := h; rfl) fun cdv A outer s H vs Q E hr h => ?_
  obtain ⟨h, D, mot, rfl, ha, kq⟩ := h
  refine ⟨_, PSs.nox (pss_cons (ps_set (i := 1) sc_l_level.nd rfl (Or.inl rfl) (pe_cal D_l_take hr (by decide) pass0 (pa_cons (pv 0) (pa_cons pe_int pa_nil))))
 (pss_cons (ps_if (pt_cmpR op_eq (pv 1) pe_int (nomark _))
 (pss_one (ps_ret (pe_ix ix_list (pe_lst (pa_cons pe_int (pa_cons (pe_un un_neg pe_int) (pa_cons pe_int (pa_cons (pe_un un_neg pe_int) pa_nil))))) (pe_cal D_l_take hr (by decide) pass0 (pa_cons (pv 0) (pa_cons pe_int pa_nil))) (fun _ _ => rfl))))
 pss_nil)
 (pss_cons (ps_if (pt_cmpR op_eq (pv 1) pe_int (nomark _))
 (pss_one (ps_ret (pe_op op_sub (pe_cal D_l_take hr (by decide) pass0 (pa_cons (pv 0) (pa_cons pe_int pa_nil))) pe_int)))
 pss_nil)
 (pss_one (ps_ret (pe_op op_sub (pe_cal D_l_take hr (by decide) pass0 (pa_cons (pv 0) (pa_cons pe_int pa_nil))) pe_int)))))), ?_⟩
  refine ⟨_, rfl, take_do ha (by decide) fun H1 t h1 u1 l1 l2 => ?_⟩
  refine ⟨_, rfl, ⟨rfl, _, rfl, ?_⟩⟩
  refine ite2 (fun hc => ?_) (fun hc => ?_)
  · refine ⟨_, rfl, _, rfl, (by show 4 ≤ sizeLine; decide), fun l hl => ?_⟩
    refine ⟨_, rfl, take_do (h1.same (Same.new hl)) (by decide) fun H2 t2 h2 u2 l3 l4 => ?_⟩
    obtain ⟨v, hv, hcs⟩ := of_four (x0 := 2000) (x1 := -2000) (x2 := 1999) (x3 := -1) l3 l4
    exact ⟨l, _, t2, _, rfl, rfl, SqL.of (h1.kept hl u2), hv, kq H2 v h2 (u1.trans ((Upto.new hl).trans u2)) (by omega) (by omega)⟩
  · refine ⟨_, rfl, rfl, _, rfl, ?_⟩
    refine ite2 (fun hc => ?_) (fun hc => ?_)
    · exact ⟨_, rfl, take_do h1 (by decide) fun H2 t2 h2 u2 l3 l4 => ⟨_, _, rfl, rfl, kq H2 _ h2 (u1.trans u2) (by omega) (by omega)⟩⟩
    · exact ⟨_, rfl, take_do h1 (by decide) fun H2 t2 h2 u2 l3 l4 => ⟨_, _, rfl, rfl, kq H2 _ h2 (u1.trans u2) (by omega) (by omega)⟩⟩
theorem ok_l_shift (T : Tx K mg) (D_l_take : Dfn pr w K mg base CX0 1 "_law_take" spTake) : Dfn pr w K mg base CX0 2 "_law_shift" (spIn (-31) 31) := by
  refine mk_dfn (x_l_shift T) (g_l_shift T) sc_l_shift (fun vs H Q E h => by obtain ⟨_, _, _, rfl, _⟩ := h; rfl) fun cdv A outer s H vs Q E hr h => ?_
  obtain ⟨h, D, mot, rfl, ha, kq⟩ := h
  refine ⟨_, PSs.nox (pss_cons (ps_set (i := 1) sc_l_shift.nd rfl (Or.inl rfl) (pe_cal D_l_take hr (by decide) pass0 (pa_cons (pv 0) (pa_cons pe_int pa_nil))))
 (pss_cons (ps_if (pt_cmpR op_eq (pv 1) pe_int (nomark _))
 (pss_one (ps_ret (pe_ix ix_list (pe_lst (pa_cons (pe_un un_neg pe_int) (pa_cons pe_int (pa_cons (pe_un un_neg pe_int) (pa_cons pe_int pa_nil))))) (pe_cal D_l_take hr (by decide) pass0 (pa_cons (pv 0) (pa_cons pe_int pa_nil))) (fun _ _ => rfl))))
 pss_nil)
 (pss_cons (ps_if (pt_cmpR op_eq (pv 1) pe_int (nomark _))
 (pss_one (ps_ret (pe_op op_sub (pe_cal D_l_take hr (by decide) pass0 (pa_cons (pv 0) (pa_cons pe_int pa_nil))) pe_int)))
 pss_nil)
 (pss_one (ps_ret (pe_op op_sub (pe_cal D_l_take hr (by decide) pass0 (pa_cons (pv 0) (pa_cons pe_int pa_nil))) pe_int)))))), ?_⟩
  refine ⟨_, rfl, take_do ha (by decide) fun H1 t h1 u1 l1 l2 => ?_⟩
  refine ⟨_, rfl, ⟨rfl, _, rfl, ?_⟩⟩
  refine ite2 (fun hc => ?_) (fun hc => ?_)
  · refine ⟨_, rfl, _, rfl, (by show 4 ≤ sizeLine; decide), fun l hl => ?_⟩
    refine ⟨_, rfl, take_do (h1.same (Same.new hl)) (by decide) fun H2 t2 h2 u2 l3 l4 => ?_⟩
    obtain ⟨v, hv, hcs⟩ := of_four (x0 := -31) (x1 := 31) (x2 := -30) (x3 := 1) l3 l4
    exact ⟨l, _, t2, _, rfl, rfl, SqL.of (h1.kept hl u2), hv, kq H2 v h2 (u1.trans ((Upto.new hl).trans u2)) (by omega) (by omega)⟩
  · refine ⟨_, rfl, rfl, _, rfl, ?_⟩
    refine ite2 (fun hc => ?_) (fun hc => ?_)
    · exact ⟨_, rfl, take_do h1 (by decide) fun H2 t2 h2 u2 l3 l4 => ⟨_, _, rfl, rfl, kq H2 _ h2 (u1.trans u2) (by omega) (by omega)⟩⟩
    · exact ⟨_, rfl, take_do h1 (by decide) fun H2 t2 h2 u2 l3 l4 => ⟨_, _, rfl, rfl, kq H2 _ h2 (u1.trans u2) (by omega) (by omega)⟩⟩
end
/-! ### a grid of levels in the making -/
structure Grid (H0 H : Hp) (h R : Addr) (ps : List Addr) (n : Nat) (rows : List (List Int)) : Prop where
  r : H R = some (.lst (ps.map V.ref))
  len : ps.length = n
  rl : rows.length = n
  rn : ∀ r ∈ rows, r.length = n
  lv : ∀ r ∈ rows, ∀ v ∈ r, -2000 ≤ v ∧ v ≤ 2000
  at_ : ∀ (i : Nat) (p : Addr) (r : List Int), ps[i]? = some p → rows[i]? = some r → H p = some (.lst (r.map V.int))
  nd : ps.Nodup
  nR : H0 R = none
  np : ∀ p ∈ ps, H0 p = none
  nh : h ≠ R ∧ h ∉ ps
  up : Upto [h] H0 H
theorem Grid.upto {H0 H H' : Hp} {h R : Addr} {ps : List Addr} {n : Nat} {rows : List (List Int)} (g : Grid H0 H h R ps n rows) (u : Upto [h] H H') : Grid H0 H' h R ps n rows where
  r := u.kp _ _ (by simp [Ne.symm g.nh.1]) g.r
  len := g.len
  rl := g.rl
  rn := g.rn
  lv := g.lv
  at_ := fun i p r e1 e2 => u.kp _ _ (by
    have : p ≠ h := fun z => g.nh.2 (z ▸ List.mem_of_getElem? e1)
    simp [this]) (g.at_ i p r e1 e2)
  nd := g.nd
  nR := g.nR
  np := g.np
  nh := g.nh
  up := g.up.trans u
theorem mem_set_or {α : Type} {l : List α} {i : Nat} {x y : α} (h : y ∈ l.set i x) : y ∈ l ∨ y = x := List.mem_or_eq_of_mem_set h
theorem nodup_get {p : Addr} : ∀ {ps : List Addr} {i j : Nat}, ps.Nodup → ps[i]? = some p → ps[j]? = some p → i = j
  | [], _, _, _, e1, _ => by cases e1
  | q :: ps, i, j, h, e1, e2 => by
    have h' :=
      List.nodup_cons.mp h
    cases i with
    | zero =>
      cases j with
      | zero => rfl
      | succ j =>
        cases e1
        exact absurd (List.mem_of_getElem? (l := ps) e2) h'.1
    | succ i =>
      cases j with
      | zero =>
        cases e2
        exact absurd (List.mem_of_getElem? (l := ps) e1) h'.1
      | succ j => rw [nodup_get (ps := ps) h'.2 e1 e2]
theorem Grid.set {H0 H : Hp} {h R p : Addr} {ps : List Addr} {n i k : Nat} {rows : List (List Int)} {r : List Int} {v : Int} (g : Grid H0 H h R ps n rows) (hp : ps[i]? = some p) (hr : rows[i]? = some r) (hk : k < n) (hv : -2000 ≤ v ∧ v ≤ 2000) :
    Grid H0 (upd H p (.lst ((r.map V.int).set k (.int v)))) h R ps n (rows.set i (r.set k v)) where
  r := by
    have : R ≠ p := fun z => by
      have h1 := g.at_ i p r hp hr
      rw [← z, g.r] at h1
      have h2 := Option.some.inj h1
      injection h2 with h3
      have h4 := congrArg List.length h3
      have hrm := List.mem_of_getElem? hr
      cases r with
      | nil =>
        have := g.rn _ hrm
        simp at this
        omega
      | cons x r =>
        cases ps with
        | nil => cases hp
        | cons q ps => cases h3
    rw [upd_ne this]
    exact g.r
  len := g.len
  rl := by rw [List.length_set]; exact g.rl
  rn := fun x hx => by
    rcases mem_set_or hx with z | z
    · exact g.rn x z
    · rw [z, List.length_set]
      exact g.rn r (List.mem_of_getElem? hr)
  lv := fun x hx y hy => by
    rcases mem_set_or hx with z | z
    · exact g.lv x z y hy
    · rw [z] at hy
      rcases mem_set_or hy with q | q
      · exact g.lv r (List.mem_of_getElem? hr) y q
      · rw [q]; exact hv
  at_ := fun j q x e1 e2 => by
    by_cases z : i = j
    · subst z
      rw [hp] at e1
      cases e1
      have hil := (List.getElem?_eq_some_iff.mp hr).1
      rw [List.getElem?_set_self hil] at e2
      cases e2
      rw [upd_same, List.map_set]
    · rw [List.getElem?_set_ne z] at e2
      have nq : q ≠ p := fun zz => z (nodup_get g.nd hp (zz ▸ e1))
      rw [upd_ne nq]
      exact g.at_ j q x e1 e2
  nd := g.nd
  nR := g.nR
  np := g.np
  nh := g.nh
  up := g.up.mut (g.np p (List.mem_of_getElem? hp))
theorem Grid.row {H0 H : Hp} {h R : Addr} {ps : List Addr} {n i : Nat} {rows : List (List Int)} (g : Grid H0 H h R ps n rows) (hi : i < n) : ∃ p r, ps[i]? = some p ∧ rows[i]? = some r ∧ r.length = n ∧ (ps.map V.ref)[i]? = some (.ref p) ∧ H p = some (.lst (r.map V.int)) := by
  have h1 : i < ps.length := by rw [g.len]; exact hi
  have h2 : i < rows.length := by rw [g.rl]; exact hi
  refine ⟨ps[i], rows[i], List.getElem?_eq_getElem h1, List.getElem?_eq_getElem h2, g.rn _ (List.getElem_mem h2), ?_, g.at_ i _ _ (List.getElem?_eq_getElem h1) (List.getElem?_eq_getElem h2)⟩
  rw [List.getElem?_map,
      List.getElem?_eq_getElem h1]
  rfl
theorem set_cost {rows : List (List Int)} {i k : Nat} {r : List Int} {v : Int} (hr : rows[i]? = some r) (hk : k < r.length) (hv : -2000 ≤ v ∧ v ≤ 2000) : sqC (rows.set i (r.set k v)) ≤ sqC rows + 22 := by
  obtain ⟨hi, e⟩ := List.getElem?_eq_some_iff.mp hr
  have h1 := sqC_set (rows := rows) (i := i) (r := r.set k v) hi
  have h2 := rowC_set (r := r) (k := k) (v := v) hk
  have h3 := cst_big hv.1 hv.2
  have h4 := cst_pos r[k]
  rw [e] at h1
  omega
def SmallG (rows : List (List Int)) : Prop := ∀ r ∈ rows, ∀ v ∈ r, -2 ≤ v ∧ v ≤ 2
theorem SmallG.set {rows : List (List Int)} {i k : Nat} {r : List Int} {v : Int} (s : SmallG rows) (hr : rows[i]? = some r) (hv : -2 ≤ v ∧ v ≤ 2) : SmallG (rows.set i (r.set k v)) := fun x hx y hy => by
  rcases mem_set_or hx with z | z
  · exact s x z y hy
  · rw [z] at hy
    rcases mem_set_or hy with q | q
    · exact s r (List.mem_of_getElem? hr) y q
    · rw [q]; exact hv
theorem SmallG.cost {rows : List (List Int)} {n : Nat} (s : SmallG rows) (hl : rows.length = n) (hn : ∀ r ∈ rows, r.length = n) : sqC rows ≤ 5 * n * n := by
  have h := sqC_le (rows := rows) (c := 5) (n := n) fun r hr => ⟨hn r hr, fun v hv => cst_small (s r hr v hv).1 (s r hr v hv).2⟩
  rw [hl] at h
  exact h
def zeroG (n : Nat) : List (List Int) := List.replicate n (List.replicate n 0)
theorem zeroG_small (n : Nat) : SmallG (zeroG n) := fun r hr v hv => by
  have h1 := (List.mem_replicate.mp hr).2
  subst h1
  have h2 := (List.mem_replicate.mp hv).2
  subst h2
  decide
theorem zeroG_cost (n : Nat) : sqC (zeroG n) ≤ n * n := by
  have h := sqC_le (rows := zeroG n) (c := 1) (n := n) fun r hr => by
    have h1 := (List.mem_replicate.mp hr).2
    subst h1
    refine ⟨List.length_replicate, fun v hv => ?_⟩
    have h2 := (List.mem_replicate.mp hv).2
    subst h2
    rw [cst_zero]
    exact Nat.le_refl 1
  have e : (zeroG n).length = n := List.length_replicate
  rw [e, Nat.one_mul] at h
  exact h
def cS : Nat → Nat
  | 0 => 92
  | 1 => 126
  | _ => 342
def FinG (n : Nat) (rows : List (List Int)) : Prop := sqC rows ≤ n * n + 110 ∨ sqC rows ≤ 5 * n * n + 22
theorem FinG.le {m : Nat} {rows : List (List Int)} (f : FinG (nn m) rows) (hm : m ≤ 2) (hl : rows.length = nn m) (hn : ∀ r ∈ rows, r.length = nn m) (hv : ∀ r ∈ rows, ∀ v ∈ r, -2000 ≤ v ∧ v ≤ 2000) : sqC rows ≤ cS m := by
  have h := sqC_le (rows := rows) (c := 23) (n := nn m) fun r hr => ⟨hn r hr, fun v q => cst_big (hv r hr v q).1 (hv r hr v q).2⟩
  rw [hl] at h
  have : m = 0 ∨ m = 1 ∨ m = 2 := by omega
  rcases this with rfl | rfl | rfl
  · exact h
  · have e : nn 1 = 4 := rfl
    rw [e] at f
    show sqC rows ≤ 126
    rcases f with f | f <;> omega
  · have e : nn 2 = 8 := rfl
    rw [e] at f
    show sqC rows ≤ 342
    rcases f with f | f <;> omega
end Bo

/-! The law's hand: squares. -/
namespace Bo
open PySem PySem.Spec L2 PyProof.Rows
def rTupOf (K : PySem.W.Frag) : List V → Hp → VK → Prop := fun xs H Q => ∃ p ys, xs = [.ref p] ∧ ((SqL K H p ys ∧ ∀ l, H l = none → Q (.ref l) (upd H l (.tup ys))) ∨ (SqT K H p ys ∧ Q (.ref p) H))
@[irreducible] def spSquare (K : PySem.W.Frag) : Sp := fun vs H Q _ => ∃ (h D : Addr) (mot m : Nat), vs = [.ref h, .int (nn m : Nat)] ∧ m ≤ 2 ∧ HandAt H h D mot ∧
  ∀ (H' : Hp) (p : Addr) (rows : List (List Int)), HandAt H' h D mot → Upto [h] H H' → Sq (nn m) rows → sqC rows ≤ cS m → Dp K H' (.ref p) (dRows rows) → Q (.ref p) H'
theorem square_do {K : PySem.W.Frag} {H : Hp} {h D : Addr} {mot m : Nat} {Q : VK} {E : XK} (hm : m ≤ 2) (ha : HandAt H h D mot) (hq : ∀ (H' : Hp) (p : Addr) (rows : List (List Int)), HandAt H' h D mot → Upto [h] H H' → Sq (nn m) rows → sqC rows ≤ cS m → Dp K H' (.ref p) (dRows rows) → Q (.ref p) H') :
    spSquare K [.ref h, .int (nn m : Nat)] H Q E := by
  unfold spSquare
  exact ⟨h, D, mot, m, rfl, hm, ha, hq⟩
theorem level_do {H : Hp} {h D : Addr} {mot : Nat} {lo hi : Int} {Q : VK} {E : XK} (ha : HandAt H h D mot) (hq : ∀ (H' : Hp) (t : Int), HandAt H' h D mot → Upto [h] H H' → lo ≤ t → t ≤ hi → Q (.int t) H') : spIn lo hi [.ref h] H Q E := ⟨h, D, mot, rfl, ha, hq⟩
theorem ixN_nat {n k : Nat} (h : k < n) : ixN n (k : Int) = some k := by
  unfold ixN
  rw [if_pos (by omega),
      if_pos (by omega)]
  simp
theorem HandAt.set {H : Hp} {h D p : Addr} {mot : Nat} {o : HO} (ha : HandAt H h D mot) (h1 : p ≠ h) (h2 : p ≠ D) : HandAt (upd H p o) h D mot := by
  obtain ⟨L, a, r, e1, e2⟩ := ha
  exact ⟨L, a, r, by rw [upd_ne (Ne.symm h1)]; exact e1, by rw [upd_ne (Ne.symm h2)]; exact e2⟩
theorem HandAt.off {H : Hp} {h D p : Addr} {mot : Nat} (ha : HandAt H h D mot) (hp : H p = none) : p ≠ h ∧ p ≠ D := by
  obtain ⟨L, a, r, e1, e2⟩ := ha
  exact ⟨Ne.symm (ne_of_none e1 hp), Ne.symm (ne_of_none e2 hp)⟩
/-- one row's one cell gets a level -/
theorem spot {K : PySem.W.Frag} {H0 H : Hp} {h R Da : Addr} {ps : List Addr} {mot mot0 m : Nat} {rows : List (List Int)} {D : Ends} {t i' k' row fg : Option V} (g : Grid H0 H h R ps (nn m) rows) (h0 : HandAt H0 h Da mot0) (ha : HandAt H h Da mot)
    (q : ∀ (row' : Option V) (H' : Hp) (i k : Nat) (r : List Int) (v : Int), rows[i]? = some r → k < nn m → (-2000 ≤ v ∧ v ≤ 2000) → Grid H0 H' h R ps (nn m) (rows.set i (r.set k v)) → HandAt H' h Da mot → D.nx [some (.ref h), some (.int (nn m : Nat)), t, i', k', some (.ref R), row', fg] H') :
    tSeq (tAsg (tOp (rIxL K) (tVar 5) (tCall spTake [] E0 (tCons (tVar 0) (tCons (tVar 1) tNil)))) (gName 6))
      (tAsg (tCall (spIn (-2000) 2000) [] E0 (tCons (tVar 0) tNil)) (gSub (tVar 6) (tCall spTake [] E0 (tCons (tVar 0) (tCons (tVar 1) tNil))) rSetL)) D [some (.ref h), some (.int (nn m : Nat)), t, i', k', some (.ref R), row, fg] H := by
  have hn : (0 : Int) < (nn m : Nat) := by
    have : 0 < nn m := Nat.pow_pos (by decide)
    omega
  refine ⟨_, rfl, _, rfl, _, rfl, take_do ha hn fun H1 x ha1 u1 x0 x1 => ?_⟩
  have g1 := g.upto u1
  obtain ⟨p, r, e1, e2, e3, e4, e5⟩ := g1.row (i := x.toNat) (by omega)
  refine ⟨R, _, x, .ref p, rfl, rfl, SqL.of g1.r, ?_, ?_⟩
  · rw [show x = ((x.toNat : Nat) : Int) from (Int.toNat_of_nonneg x0).symm]
    exact atI_nat e4
  refine ⟨_, rfl, h, Da, mot, rfl, ha1, fun H2 v ha2 u2 v0 v1 => ?_⟩
  have g2 := g1.upto u2
  refine ⟨_, rfl, _, rfl, _, rfl, take_do ha2 hn fun H3 y ha3 u3 y0 y1 => ?_⟩
  have g3 := g2.upto u3
  have e6 := g3.at_ _ p r e1 e2
  refine ⟨p, _, y, y.toNat, rfl, rfl, e6, ?_, ?_⟩
  · rw [List.length_map, e3, show y = ((y.toNat : Nat) : Int) from (Int.toNat_of_nonneg y0).symm]
    rw [Int.toNat_natCast]
    exact ixN_nat (by omega)
  have off := h0.off (g.np p (List.mem_of_getElem? e1))
  exact q _ _ _ _ r v e2 (by omega) ⟨v0, v1⟩ (g3.set e1 e2 (by omega) ⟨v0, v1⟩) (ha3.set off.1 off.2)
def CondG (n : Nat) (t : Int) (j : Int) (rows : List (List Int)) : Prop := (t ≤ j → FinG n rows) ∧ (j < t → rows = zeroG n)
theorem CondG.skip {n : Nat} {t j : Int} {rows : List (List Int)} (c : CondG n t j rows) (h : t ≠ j + 1) : CondG n t (j + 1) rows := ⟨fun z => c.1 (by omega), fun z => c.2 (by omega)⟩
theorem CondG.fin {n : Nat} {t j : Int} {rows : List (List Int)} (f : FinG n rows) (h : t ≤ j) : CondG n t j rows := ⟨fun _ => f, fun z => absurd z (by omega)⟩
theorem zeroG_fin (n : Nat) : FinG n (zeroG n) := .inl (Nat.le_trans (zeroG_cost n) (Nat.le_add_right _ _))
section
variable {w : World} {K : PySem.W.Frag} {mg : Str → Option Value} {base : Heap}
theorem ok_l_square (T : Tx K mg) (D_l_take : Dfn pr w K mg base CX0 1 "_law_take" spTake) (D_l_level : Dfn pr w K mg base CX0 2 "_law_level" (spIn (-2000) 2000)) : Dfn pr w K mg base CX0 3 "_law_square" (spSquare K) := by
  refine mk_dfn (x_l_square T) (g_l_square T) sc_l_square (fun vs H Q E h => by unfold spSquare at h; obtain ⟨_, _, _, _, rfl, _⟩ := h; rfl) fun cdv A outer s H vs Q E hr h => ?_
  unfold spSquare at h
  obtain ⟨h, D, mot, m, rfl, hm, ha, kq⟩ := h
  refine ⟨_, PSs.nox (pss_cons (ps_set (i := 2) sc_l_square.nd rfl (Or.inl rfl) (pe_cal D_l_take hr (by decide) pass0 (pa_cons (pv 0) (pa_cons pe_int pa_nil))))
 (pss_cons (ps_setLc (i := 5) (own := [("_law_i", 3)]) (g := gName 3) (tt := tYes) rfl sc_l_square.nd rfl rfl (sw_true rfl rfl rfl (by decide +kernel)) (pi_range1 rfl (f_range T) (pa_cons (pv 1) pa_nil)) (blkOk_by (N := ["_law_hand", "_law_n", "_law_kind", "_law_i", "_law_k", "_law_rows", "_law_row", "_law_figures_here"]) (sc := (defScope s_l_square)) (by decide +kernel)) (fun _ _ _ _ _ => pg_name (i := 3) sc_l_square.nd rfl (Or.inl rfl)) (fun _ _ _ _ _ => pts_nil) (fun _ _ _ _ _ => (pe_lc (own := [("_law_k", 4)]) (g := gName 4) (tt := tYes) rfl sc_l_square.nd (pi_range1 rfl (f_range T) (pa_cons (pv 1) pa_nil)) (blkOk_by (N := ["_law_hand", "_law_n", "_law_kind", "_law_i", "_law_k", "_law_rows", "_law_row", "_law_figures_here"]) (sc := { kind := .function, names := [(".0", .local), ("_law_i", .local), ("range", .globalImplicit), ("_law_n", .cell)], isGenerator := false, isCoroutine := false }) (by decide +kernel)) (fun _ _ _ _ _ => pg_name (i := 4) sc_l_square.nd rfl (Or.inl rfl)) (fun _ _ _ _ _ => pts_nil) (fun _ _ _ _ _ => pe_int))))
 (pss_mid (ps_if (pt_cmpR op_eq (pv 2) pe_int (nomark _))
 (pss_cons (ps_set (i := 6) sc_l_square.nd rfl (Or.inl rfl) (pe_ix ix_list (pv 5) (pe_cal D_l_take hr (by decide) pass0 (pa_cons (pv 0) (pa_cons (pv 1) pa_nil))) (fun _ _ => rfl)))
 (pss_one (ps_asg (pe_cal D_l_level hr (by decide) pass0 (pa_cons (pv 0) pa_nil)) (pg_sub (pv 6) (pe_cal D_l_take hr (by decide) pass0 (pa_cons (pv 0) (pa_cons (pv 1) pa_nil))) set_list))))
 pss_nil)
 (pss_mid (ps_if (pt_cmpR op_eq (pv 2) pe_int (nomark _))
 (pss_one (ps_for PassesOwn.never rfl (pi_range1 rfl (f_range T) (pa_cons pe_int pa_nil)) (pg_name (i := 3) sc_l_square.nd rfl (Or.inl rfl))
 (pss_cons (ps_set (i := 6) sc_l_square.nd rfl (Or.inl rfl) (pe_ix ix_list (pv 5) (pv 3) (fun _ _ => rfl)))
 (pss_one (ps_for PassesOwn.never rfl (pi_range1 rfl (f_range T) (pa_cons pe_int pa_nil)) (pg_name (i := 4) sc_l_square.nd rfl (Or.inl rfl))
 (pss_one (ps_asg (pe_cal D_l_level hr (by decide) pass0 (pa_cons (pv 0) pa_nil)) (pg_sub (pv 6) (pv 4) set_list))))))))
 pss_nil)
 (pss_mid (ps_if (pt_cmpR op_eq (pv 2) pe_int (nomark _))
 (pss_one (ps_for PassesOwn.never rfl (pi_range1 rfl (f_range T) (pa_cons (pe_op op_add pe_int (pe_cal D_l_take hr (by decide) pass0 (pa_cons (pv 0) (pa_cons pe_int pa_nil)))) pa_nil)) (pg_name (i := 3) sc_l_square.nd rfl (Or.inl rfl))
 (pss_cons (ps_set (i := 6) sc_l_square.nd rfl (Or.inl rfl) (pe_ix ix_list (pv 5) (pe_cal D_l_take hr (by decide) pass0 (pa_cons (pv 0) (pa_cons (pv 1) pa_nil))) (fun _ _ => rfl)))
 (pss_one (ps_asg (pe_cal D_l_level hr (by decide) pass0 (pa_cons (pv 0) pa_nil)) (pg_sub (pv 6) (pe_cal D_l_take hr (by decide) pass0 (pa_cons (pv 0) (pa_cons (pv 1) pa_nil))) set_list))))))
 pss_nil)
 (pss_mid (ps_if (pt_cmpR op_eq (pv 2) pe_int (nomark _))
 (pss_one (ps_for PassesOwn.never rfl (pi_list (pv 5)) (pg_name (i := 6) sc_l_square.nd rfl (Or.inl rfl))
 (pss_cons (ps_asg (pe_op op_sub (pe_cal D_l_take hr (by decide) pass0 (pa_cons (pv 0) (pa_cons pe_int pa_nil))) pe_int) (pg_sub (pv 6) pe_int set_list))
 (pss_one (ps_asg (pe_op op_sub (pe_cal D_l_take hr (by decide) pass0 (pa_cons (pv 0) (pa_cons pe_int pa_nil))) pe_int) (pg_sub (pv 6) (pe_op op_sub (pv 1) pe_int) set_list))))))
 pss_nil)
 (pss_mid (ps_if (PW.pt (pw_and (pt_cmpR op_eq (pv 2) pe_int (nomark _)) (pw_and1 (pt_cmpR op_ge (pe_ix ix_list (pv 0) pe_int (fun _ _ => rfl)) (pv 1) (nomark _)))))
 (pss_cons (ps_asg (pe_op op_sub (pe_ix ix_list (pv 0) pe_int (fun _ _ => rfl)) (pv 1)) (pg_sub (pv 0) pe_int set_list))
 (pss_cons (ps_for PassesOwn.never rfl (pi_list (pv 5)) (pg_name (i := 6) sc_l_square.nd rfl (Or.inl rfl))
 (pss_cons (ps_set (i := 7) sc_l_square.nd rfl (Or.inl rfl) pe_int)
 (pss_one (ps_for PassesOwn.never rfl (pi_range1 rfl (f_range T) (pa_cons (pv 1) pa_nil)) (pg_name (i := 4) sc_l_square.nd rfl (Or.inl rfl))
 (pss_mid (ps_if (PW.pt (pw_or (pt_cmpR op_eq (pv 4) pe_int (nomark _)) (pw_or1 (pt_cmpR op_eq (pv 4) pe_int (nomark _)))))
 (pss_one (ps_set (i := 7) sc_l_square.nd rfl (Or.inl rfl) (pe_cal D_l_take hr (by decide) pass0 (pa_cons (pv 0) (pa_cons pe_int pa_nil)))))
 pss_nil)
 (pss_cons (ps_asg (pe_op op_sub (pe_op op_mod (pe_callTy call_int1 (by rfl) (f_int T) (by decide +kernel) (pa_cons (pv 7) pa_nil)) pe_int) pe_int) (pg_sub (pv 6) (pv 4) set_list))
 (pss_one (ps_set (i := 7) sc_l_square.nd rfl (Or.inl rfl) (pe_op op_fdiv (pv 7) pe_int)))))))))
 (pss_cons (ps_set (i := 6) sc_l_square.nd rfl (Or.inl rfl) (pe_ix ix_list (pv 5) (pe_cal D_l_take hr (by decide) pass0 (pa_cons (pv 0) (pa_cons (pv 1) pa_nil))) (fun _ _ => rfl)))
 (pss_one (ps_asg (pe_cal D_l_level hr (by decide) pass0 (pa_cons (pv 0) pa_nil)) (pg_sub (pv 6) (pe_cal D_l_take hr (by decide) pass0 (pa_cons (pv 0) (pa_cons (pv 1) pa_nil))) set_list))))))
 pss_nil)
 (pss_one (ps_ret (pe_callTy call_tuple_of (by rfl) (f_tuple T) (by decide +kernel) (pa_cons (pe_lc (own := [("_law_row", 6)]) (g := gName 6) (tt := tYes) rfl sc_l_square.nd (pi_list (pv 5)) (blkOk_by (N := ["_law_hand", "_law_n", "_law_kind", "_law_i", "_law_k", "_law_rows", "_law_row", "_law_figures_here"]) (sc := (defScope s_l_square)) (by decide +kernel)) (fun _ _ _ _ _ => pg_name (i := 6) sc_l_square.nd rfl (Or.inl rfl)) (fun _ _ _ _ _ => pts_nil) (fun _ _ _ _ _ => (pe_callTy (r := rTupOf K) call_tuple_of (by rfl) (f_tuple T) (by decide +kernel) (pa_cons (pv 6) pa_nil)))) pa_nil))))))))))), ?_⟩
  refine ⟨_, rfl, take_do ha (by decide) fun H1 t h1 u1 t0 t6 => ?_⟩
  have hn8 := nn_le hm
  have hn2 : 2 ≤ nn m := by
    unfold nn
    have : 0 < 2 ^ m := Nat.pow_pos (by decide)
    rw [Nat.pow_succ]
    omega
  generalize hnn : nn m = n at hn8 hn2
  have hnp : (0 : Int) < (n : Int) := by omega
  -- the zeros
  refine ⟨_, rfl, (n : Int), rfl, by omega, by omega, fun R hR => ?_⟩
  rw [Int.toNat_natCast]
  have hR0 : H R = none := u1.free (by have := h1.off hR; simp [this.1]) hR
  have hRh : R ≠ h := (h1.off hR).1
  refine lc_range (lo := 0) (n := n) (fun i H' => ∃ ps : List Addr, H' R = some (.lst (ps.map V.ref)) ∧ ps.length = i ∧ (∀ p ∈ ps, H' p = some (.lst ((List.replicate n (0 : Int)).map V.int)) ∧ H1 p = none ∧ p ≠ R) ∧ ps.Nodup ∧ Same H1 H') ⟨[], by rw [upd_same]; rfl, rfl, by simp, List.nodup_nil, Same.new hR⟩ ?_ ?_
  · rintro i H2 hi ⟨ps, hr2, hl2, hp2, nd2, s2⟩
    refine ⟨rfl, tYes_do ?_⟩
    refine ⟨_, rfl, (n : Int), rfl, by omega, by omega, fun p hp => ?_⟩
    rw [Int.toNat_natCast]
    have hp1 : H1 p = none := by
      cases q : H1 p with
      | none => rfl
      | some o => rw [s2 _ _ q] at hp; cases hp
    have npR : R ≠ p := ne_of_none hr2 hp
    refine lc_range (lo := 0) (n := n) (fun j H' => H' p = some (.lst ((List.replicate j (0 : Int)).map V.int)) ∧ Same H2 H') ⟨by rw [upd_same]; rfl, Same.new hp⟩ ?_ ?_
    · rintro j H3 hj ⟨h3, s3⟩
      refine ⟨rfl, tYes_do ⟨_, h3, ?_, ?_, ?_⟩⟩
      · rw [List.length_map, List.length_replicate, sizeLine_eq]
        omega
      · rw [upd_same, List.replicate_succ', List.map_append]
        rfl
      · intro b o e
        rw [upd_ne (ne_of_none e hp)]
        exact s3 _ _ e
    · rintro H3 ⟨h3, s3⟩
      refine ⟨_, s3 _ _ hr2, ?_, ps ++ [p], ?_, ?_, ?_, ?_, ?_⟩
      · rw [List.length_map, sizeLine_eq]
        omega
      · rw [upd_same, List.map_append]
        rfl
      · rw [List.length_append, hl2]
        rfl
      · intro q hq
        rcases List.mem_append.mp hq with z | z
        · obtain ⟨a1, a2, a3⟩ := hp2 q z
          exact ⟨by rw [upd_ne a3]; exact s3 _ _ a1, a2, a3⟩
        · have z : q = p := by simpa using z
          rw [z]
          exact ⟨by rw [upd_ne (Ne.symm npR)]; exact h3, hp1, Ne.symm npR⟩
      · rw [List.nodup_append]
        refine ⟨nd2, by simp, fun x hx y hy => ?_⟩
        have hy : y = p := by simpa using hy
        rw [hy]
        have := (hp2 x hx).1
        exact ne_of_none this hp
      · intro b o e
        rw [upd_ne (ne_of_none e hR)]
        exact s3 _ _ (s2 _ _ e)
  rintro H2 ⟨ps, hr2, hl2, hp2, nd2, s2⟩
  have g2 : Grid H H2 h R ps n (zeroG n) := {
    r := hr2
    len := hl2
    rl := List.length_replicate
    rn := fun r hr => by rw [(List.mem_replicate.mp hr).2, List.length_replicate]
    lv := fun r hr v hv => by
      rw [(List.mem_replicate.mp hr).2] at hv
      rw [(List.mem_replicate.mp hv).2]
      decide
    at_ := fun i p r e1 e2 => by
      have e3 := (List.mem_replicate.mp (List.mem_of_getElem? e2)).2
      rw [e3]
      exact (hp2 p (List.mem_of_getElem? e1)).1
    nd := nd2
    nR := hR0
    np := fun p hp => u1.free (by have := h1.off (hp2 p hp).2.1; simp [this.1]) (hp2 p hp).2.1
    nh := ⟨Ne.symm hRh, fun z => by
      have := h1.off (hp2 h z).2.1
      exact this.1 rfl⟩
    up := u1.trans (.of s2) }
  have ha2 := h1.same s2
  clear hp2 s2 hr2 hl2
  refine ⟨fun σ' H' => ∃ (i k row fg : Option V) (rows : List (List Int)), σ' = [some (.ref h), some (.int (n : Nat)), some (.int t), i, k, some (.ref R), row, fg] ∧ Grid H H' h R ps n rows ∧ HandAt H' h D mot ∧ CondG n t 1 rows, ?_, ?_⟩
  · refine ⟨_, rfl, rfl, _, rfl, ?_⟩
    refine ite2 (fun hc => ?_) (fun hc => ?_)
    · have ht : t = 1 := by
        have h3 := of_decide_eq_true hc
        injection h3
      subst hnn
      refine spot g2 ha ha2 fun row' H' i k r v e1 e2 e3 g3 ha3 => ⟨_, _, _, _, _, rfl, g3, ha3, .fin (.inl ?_) (by omega)⟩
      have h4 := set_cost e1 (v := v) (k := k) (by rw [g2.rn r (List.mem_of_getElem? e1)]; exact e2) e3
      have h5 := zeroG_cost (nn m)
      omega
    · have ht : t ≠ 1 := fun z => hc (decide_eq_true (by rw [z]))
      exact ⟨_, _, _, _, _, rfl, g2, ha2, CondG.skip (j := 0) ⟨fun _ => zeroG_fin n, fun _ => rfl⟩ ht⟩
  rintro σ' H3 ⟨i3, k3, row3, fg3, rows3, rfl, g3, ha3, c3⟩
  -- kind 2
  refine ⟨fun σ' H' => ∃ (i k row fg : Option V) (rows : List (List Int)), σ' = [some (.ref h), some (.int (n : Nat)), some (.int t), i, k, some (.ref R), row, fg] ∧ Grid H H' h R ps n rows ∧ HandAt H' h D mot ∧ CondG n t 2 rows, ?_, ?_⟩
  · refine ⟨_, rfl, rfl, _, rfl, ?_⟩
    refine ite2 (fun hc => ?_) (fun hc => ?_)
    · have ht : t = 2 := by
        have h3 := of_decide_eq_true hc
        injection h3
      have ez := c3.2 (by omega)
      subst ez
      refine ⟨2, rfl, by decide, by decide, ?_⟩
      refine for_range (lo := 0) (n := 2) (fun a σ' H' => ∃ (i k row fg : Option V) (rows : List (List Int)), σ' = [some (.ref h), some (.int (n : Nat)), some (.int t), i, k, some (.ref R), row, fg] ∧ Grid H H' h R ps n rows ∧ HandAt H' h D mot ∧ sqC rows ≤ n * n + 44 * a) ⟨i3, k3, row3, fg3, _, rfl, g3, ha3, zeroG_cost n⟩ ?_ ?_
      · rintro a σ H4 hai ⟨i4, k4, row4, fg4, rows4, rfl, g4, ha4, c4⟩
        obtain ⟨p, r, e1, e2, e3, e4, e5⟩ := g4.row (i := a) (by omega)
        have ea : (0 : Int) + (a : Int) = (a : Int) := Int.zero_add _
        rw [ea]
        refine ⟨_, rfl, _, rfl, R, _, (a : Int), .ref p, rfl, rfl, SqL.of g4.r, atI_nat e4, ?_⟩
        refine ⟨2, rfl, by decide, by decide, ?_⟩
        refine for_range (lo := 0) (n := 2) (fun b σ' H' => ∃ (k fg : Option V) (rows : List (List Int)) (r : List Int), σ' = [some (.ref h), some (.int (n : Nat)), some (.int t), some (.int (a : Int)), k, some (.ref R), some (.ref p), fg] ∧ Grid H H' h R ps n rows ∧ HandAt H' h D mot ∧ rows[a]? = some r ∧ sqC rows ≤ n * n + 44 * a + 22 * b) ⟨k4, fg4, rows4, r, rfl, g4, ha4, e2, c4⟩ ?_ ?_
        · rintro b σ H5 hb ⟨k5, fg5, rows5, r5, rfl, g5, ha5, er5, c5⟩
          have eb : (0 : Int) + (b : Int) = (b : Int) := Int.zero_add _
          rw [eb]
          refine ⟨_, rfl, h, D, mot, rfl, ha5, fun H6 v ha6 u6 v0 v1 => ?_⟩
          have g6 := g5.upto u6
          have hr5 := g6.rn r5 (List.mem_of_getElem? er5)
          refine ⟨_, rfl, _, rfl, p, _, (b : Int), b, rfl, rfl, g6.at_ _ p r5 e1 er5, by rw [List.length_map, hr5]; exact ixN_nat (by omega), ?_⟩
          have off := ha.off (g6.np p (List.mem_of_getElem? e1))
          refine ⟨_, _, _, r5.set b v, rfl, g6.set e1 er5 (by omega) ⟨v0, v1⟩, ha6.set off.1 off.2, List.getElem?_set_self (List.getElem?_eq_some_iff.mp er5).1, ?_⟩
          have := set_cost er5 (v := v) (k := b) (by omega) ⟨v0, v1⟩
          omega
        · rintro σ H5 ⟨k5, fg5, rows5, r5, rfl, g5, ha5, er5, c5⟩
          exact ⟨_, _, _, _, _, rfl, g5, ha5, by omega⟩
      · rintro σ H4 ⟨i4, k4, row4, fg4, rows4, rfl, g4, ha4, c4⟩
        exact ⟨_, _, _, _, _, rfl, g4, ha4, .fin (.inl (by omega)) (by omega)⟩
    · have ht : t ≠ 2 := fun z => hc (decide_eq_true (by rw [z]))
      exact ⟨_, _, _, _, _, rfl, g3, ha3, CondG.skip (j := 1) c3 ht⟩
  clear c3 ha3 g3
  rintro σ' H3 ⟨i3, k3, row3, fg3, rows3, rfl, g3, ha3, c3⟩
  -- kind 3
  refine ⟨fun σ' H' => ∃ (i k row fg : Option V) (rows : List (List Int)), σ' = [some (.ref h), some (.int (n : Nat)), some (.int t), i, k, some (.ref R), row, fg] ∧ Grid H H' h R ps n rows ∧ HandAt H' h D mot ∧ CondG n t 3 rows, ?_, ?_⟩
  · refine ⟨_, rfl, rfl, _, rfl, ?_⟩
    refine ite2 (fun hc => ?_) (fun hc => ?_)
    · have ht : t = 3 := by
        have h3 := of_decide_eq_true hc
        injection h3
      have ez := c3.2 (by omega)
      subst ez
      refine ⟨_, rfl, take_do ha3 (by decide) fun H4 x ha4 u4 x0 x1 => ?_⟩
      refine ⟨_, _, rfl, rfl, 1 + x, rfl, by omega, by omega, ?_⟩
      refine for_range (lo := 0) (n := (1 + x).toNat) (fun a σ' H' => ∃ (i k row fg : Option V) (rows : List (List Int)), σ' = [some (.ref h), some (.int (n : Nat)), some (.int t), i, k, some (.ref R), row, fg] ∧ Grid H H' h R ps n rows ∧ HandAt H' h D mot ∧ sqC rows ≤ n * n + 22 * a) ⟨i3, k3, row3, fg3, _, rfl, g3.upto u4, ha4, zeroG_cost n⟩ ?_ ?_
      · rintro a σ H5 hai ⟨i5, k5, row5, fg5, rows5, rfl, g5, ha5, c5⟩
        subst hnn
        refine spot g5 ha ha5 fun row' H' i k r v e1 e2 e3 g6 ha6 => ⟨_, _, _, _, _, rfl, g6, ha6, ?_⟩
        have h4 := set_cost e1 (v := v) (k := k) (by rw [g5.rn r (List.mem_of_getElem? e1)]; exact e2) e3
        omega
      · rintro σ H5 ⟨i5, k5, row5, fg5, rows5, rfl, g5, ha5, c5⟩
        exact ⟨_, _, _, _, _, rfl, g5, ha5, .fin (.inl (by omega)) (by omega)⟩
    · have ht : t ≠ 3 := fun z => hc (decide_eq_true (by rw [z]))
      exact ⟨_, _, _, _, _, rfl, g3, ha3, CondG.skip (j := 2) c3 ht⟩
  clear c3 ha3 g3
  rintro σ' H3 ⟨i3, k3, row3, fg3, rows3, rfl, g3, ha3, c3⟩
  -- kind 4
  refine ⟨fun σ' H' => ∃ (i k row fg : Option V) (rows : List (List Int)), σ' = [some (.ref h), some (.int (n : Nat)), some (.int t), i, k, some (.ref R), row, fg] ∧ Grid H H' h R ps n rows ∧ HandAt H' h D mot ∧ CondG n t 4 rows, ?_, ?_⟩
  · refine ⟨_, rfl, rfl, _, rfl, ?_⟩
    refine ite2 (fun hc => ?_) (fun hc => ?_)
    · have ht : t = 4 := by
        have h3 := of_decide_eq_true hc
        injection h3
      have ez := c3.2 (by omega)
      subst ez
      refine ⟨_, rfl, R, rfl, ⟨_, SqL.of g3.r⟩, ?_⟩
      refine for_list (xs := ps.map V.ref) (fun a σ' H' => ∃ (i k row fg : Option V) (rows : List (List Int)), σ' = [some (.ref h), some (.int (n : Nat)), some (.int t), i, k, some (.ref R), row, fg] ∧ Grid H H' h R ps n rows ∧ HandAt H' h D mot ∧ SmallG rows) ⟨i3, k3, row3, fg3, _, rfl, g3, ha3, zeroG_small n⟩ (fun a σ H' _ hh => ?_) ?_ ?_
      · obtain ⟨_, _, _, _, _, _, gg, _⟩ := hh
        exact SqL.of gg.r
      · rintro a x σ H4 hx ⟨i4, k4, row4, fg4, rows4, rfl, g4, ha4, c4⟩
        have hal : a < n := by
          have := (List.getElem?_eq_some_iff.mp hx).1
          rw [List.length_map, g4.len] at this
          exact this
        obtain ⟨p, r, e1, e2, e3, e4, e5⟩ := g4.row hal
        rw [e4] at hx
        cases hx
        refine ⟨_, rfl, take_do ha4 (by decide) fun H5 x ha5 u5 x0 x1 => ?_⟩
        have g5 := g4.upto u5
        have off := ha.off (g4.np p (List.mem_of_getElem? e1))
        refine ⟨_, _, rfl, rfl, _, rfl, p, _, 0, 0, rfl, rfl, g5.at_ _ p r e1 e2, by rw [List.length_map, e3]; exact ixN_nat (k := 0) (by omega), ?_⟩
        have g6 := g5.set e1 e2 (k := 0) (v := x - 1) (by omega) (by omega)
        have ha6 := ha5.set (o := .lst ((r.map V.int).set 0 (.int (x - 1)))) off.1 off.2
        have c6 := c4.set (k := 0) (v := x - 1) e2 (by omega)
        have er6 : (rows4.set a (r.set 0 (x - 1)))[a]? = some (r.set 0 (x - 1)) := List.getElem?_set_self (List.getElem?_eq_some_iff.mp e2).1
        refine ⟨_, rfl, take_do ha6 (by decide) fun H7 y ha7 u7 y0 y1 => ?_⟩
        have g7 := g6.upto u7
        refine ⟨_, _, rfl, rfl, _, rfl, _, rfl, _, _, rfl, rfl, p, _, (n : Int) - 1, n - 1, rfl, rfl, g7.at_ _ p _ e1 er6, ?_, ?_⟩
        · rw [List.length_map, List.length_set, e3, show (n : Int) - 1 = ((n - 1 : Nat) : Int) by omega]
          exact ixN_nat (by omega)
        · exact ⟨_, _, _, _, _, rfl, g7.set e1 er6 (k := n - 1) (v := y - 2) (by omega) (by omega), ha7.set off.1 off.2, c6.set er6 (by omega)⟩
      · rintro σ H4 ⟨i4, k4, row4, fg4, rows4, rfl, g4, ha4, c4⟩
        have := c4.cost g4.rl g4.rn
        exact ⟨_, _, _, _, _, rfl, g4, ha4, .fin (.inr (by omega)) (by omega)⟩
    · have ht : t ≠ 4 := fun z => hc (decide_eq_true (by rw [z]))
      exact ⟨_, _, _, _, _, rfl, g3, ha3, CondG.skip (j := 3) c3 ht⟩
  clear c3 ha3 g3
  rintro σ' H3 ⟨i3, k3, row3, fg3, rows3, rfl, g3, ha3, c3⟩
  -- kind 5
  refine ⟨fun σ' H' => ∃ (i k row fg : Option V) (rows : List (List Int)), σ' = [some (.ref h), some (.int (n : Nat)), some (.int t), i, k, some (.ref R), row, fg] ∧ Grid H H' h R ps n rows ∧ HandAt H' h D mot ∧ FinG n rows, ?_, ?_⟩
  · have f3 : FinG n rows3 := by
      by_cases z : t ≤ 4
      · exact c3.1 z
      · rw [c3.2 (by omega)]
        exact zeroG_fin n
    refine ⟨_, rfl, ⟨rfl, _, rfl, ?_⟩⟩
    refine ite2 (fun hc => ?_) (fun hc => iteF ⟨_, _, _, _, _, rfl, g3, ha3, f3⟩)
    have ht : t = 5 := by
      have h3 := of_decide_eq_true hc
      injection h3
    have ez := c3.2 (by omega)
    subst ez
    obtain ⟨L, at_, rw_, q1, q2⟩ := id ha3
    refine ⟨_, rfl, h, _, 2, _, rfl, rfl, SqL.of q1, atI_nat (j := 2) rfl, _, rfl, _, _, rfl, rfl, _, rfl, ?_⟩
    refine ite2 (fun hc => ?_) (fun hc => ⟨_, _, _, _, _, rfl, g3, ha3, f3⟩)
    refine ⟨_, rfl, h, _, 2, _, rfl, rfl, SqL.of q1, atI_nat (j := 2) rfl, _, rfl, _, _, rfl, rfl, _, rfl, h, _, 2, 2, rfl, rfl, q1, rfl, ?_⟩
    have hu : Upto [h] H3 (upd H3 h (.lst [.ref D, .int (at_ : Int), .int (rw_ - (n : Int)), .int (mot : Int)])) := Upto.put (by simp) q1 (fun z => z)
    have ha4 : HandAt (upd H3 h (.lst [.ref D, .int (at_ : Int), .int (rw_ - (n : Int)), .int (mot : Int)])) h D mot := ⟨L, at_, _, upd_same, by rw [upd_ne ha3.ne]; exact q2⟩
    have g4 := g3.upto hu
    refine ⟨_, rfl, R, rfl, ⟨_, SqL.of g4.r⟩, ?_⟩
    refine for_list (xs := ps.map V.ref) (fun a σ' H' => ∃ (i k row fg : Option V) (rows : List (List Int)), σ' = [some (.ref h), some (.int (n : Nat)), some (.int t), i, k, some (.ref R), row, fg] ∧ Grid H H' h R ps n rows ∧ HandAt H' h D mot ∧ SmallG rows) ⟨i3, k3, row3, fg3, _, rfl, g4, ha4, zeroG_small n⟩ (fun a σ H' _ hh => ?_) ?_ ?_
    · obtain ⟨_, _, _, _, _, _, gg, _⟩ := hh
      exact SqL.of gg.r
    · rintro a x σ H4 hx ⟨i4, k4, row4, fg4, rows4, rfl, g4, ha4, c4⟩
      have hal : a < n := by
        have := (List.getElem?_eq_some_iff.mp hx).1
        rw [List.length_map, g4.len] at this
        exact this
      obtain ⟨p, r, e1, e2, e3, e4, e5⟩ := g4.row hal
      rw [e4] at hx
      cases hx
      refine ⟨_, rfl, (n : Int), rfl, by omega, by omega, ?_⟩
      rw [Int.toNat_natCast]
      have off := ha.off (g4.np p (List.mem_of_getElem? e1))
      refine for_range (lo := 0) (n := n) (fun b σ' H' => ∃ (k : Option V) (fv : Int) (rows : List (List Int)) (r : List Int), σ' = [some (.ref h), some (.int (n : Nat)), some (.int t), i4, k, some (.ref R), some (.ref p), some (.int fv)] ∧ Grid H H' h R ps n rows ∧ HandAt H' h D mot ∧ rows[a]? = some r ∧ SmallG rows) ⟨k4, 0, rows4, r, rfl, g4, ha4, e2, c4⟩ ?_ ?_
      · rintro b σ H5 hb ⟨k5, fv, rows5, r5, rfl, g5, ha5, er5, c5⟩
        have eb : (0 : Int) + (b : Int) = (b : Int) := Int.zero_add _
        rw [eb]
        refine ⟨fun σ' H' => ∃ fv : Int, σ' = [some (.ref h), some (.int (n : Nat)), some (.int t), i4, some (.int (b : Int)), some (.ref R), some (.ref p), some (.int fv)] ∧ HandAt H' h D mot ∧ Upto [h] H5 H', ?_, ?_⟩
        · have tk : tAsg (tCall spTake [] E0 (tCons (tVar 0) (tCons (tC (V.int 625)) tNil))) (gName 7) { nx := fun σ' H' => ∃ fv : Int, σ' = [some (.ref h), some (.int (n : Nat)), some (.int t), i4, some (.int (b : Int)), some (.ref R), some (.ref p), some (.int fv)] ∧ HandAt H' h D mot ∧ Upto [h] H5 H', rt := Q } [some (.ref h), some (.int (n : Nat)), some (.int t), i4, some (.int (b : Int)), some (.ref R), some (.ref p), some (.int fv)] H5 :=
            ⟨_, rfl, take_do ha5 (by decide) fun H6 y ha6 u6 y0 y1 => ⟨_, rfl, ha6, u6⟩⟩
          refine ⟨_, rfl, ⟨rfl, _, rfl, ?_⟩⟩
          refine ite2 (fun hc => iteT ?_) (fun hc => ?_)
          · exact tk
          · refine ⟨_, rfl, rfl, _, rfl, ?_⟩
            refine ite2 (fun hc => ?_) (fun hc => ?_)
            · exact tk
            · exact ⟨_, rfl, ha5, .refl⟩
        · rintro σ' H6 ⟨fv, rfl, ha6, u6⟩
          have g6 := g5.upto u6
          have hr5 := g6.rn r5 (List.mem_of_getElem? er5)
          refine ⟨_, rfl, .inl ⟨_, rfl, _, _, rfl, rfl, (by show (0 : Int) < 5; decide), _, _, rfl, rfl, _, rfl, _, rfl, p, _, (b : Int), b, rfl, rfl, g6.at_ _ p r5 e1 er5, by rw [List.length_map, hr5]; exact ixN_nat hb, ?_⟩⟩
          refine ⟨_, rfl, _, _, rfl, rfl, ⟨by decide, by decide⟩, ?_⟩
          have m1 := Int.emod_nonneg fv (show (5 : Int) ≠ 0 by decide)
          have m2 := Int.emod_lt_of_pos fv (show (0 : Int) < 5 by decide)
          exact ⟨_, _, _, r5.set b (fv % 5 - 2), rfl, g6.set e1 er5 (k := b) (v := fv % 5 - 2) (by omega) (by omega), ha6.set off.1 off.2, List.getElem?_set_self (List.getElem?_eq_some_iff.mp er5).1, c5.set er5 (by omega)⟩
      · rintro σ H5 ⟨k5, fv, rows5, r5, rfl, g5, ha5, er5, c5⟩
        exact ⟨_, _, _, _, _, rfl, g5, ha5, c5⟩
    · rintro σ H9 ⟨i9, k9, row9, fg9, rows9, rfl, g9, ha9, c9⟩
      have hcost := c9.cost g9.rl g9.rn
      subst hnn
      refine spot g9 ha ha9 fun row' H' i k r v e1 e2 e3 g5 ha5 => ⟨_, _, _, _, _, rfl, g5, ha5, .inr ?_⟩
      have h4 := set_cost e1 (v := v) (k := k) (by rw [g9.rn r (List.mem_of_getElem? e1)]; exact e2) e3
      omega
  clear c3 ha3 g3
  rintro σ' H3 ⟨i3, k3, row3, fg3, rows3, rfl, g3, ha3, f3⟩
  -- the tuple of tuples
  refine ⟨_, rfl, R, rfl, ⟨_, SqL.of g3.r⟩, fun B hB => ?_⟩
  refine lc_list (xs := ps.map V.ref) (fun a H' => ∃ acc, H' B = some (.lst acc) ∧ acc.length = a ∧ DpAll K H' acc ((rows3.take a).map dRow) ∧ Same H3 H') ⟨[], upd_same, rfl, by rw [List.take_zero]; exact .nil, Same.new hB⟩ (fun a H' _ hh => ?_) ?_ ?_
  · obtain ⟨_, _, _, _, s4⟩ := hh
    exact SqL.of (s4 _ _ g3.r)
  · rintro a x H4 hx ⟨acc, b1, b2, b3, s4⟩
    have hal : a < n := by
      have := (List.getElem?_eq_some_iff.mp hx).1
      rw [List.length_map, g3.len] at this
      exact this
    obtain ⟨p, r, e1, e2, e3, e4, e5⟩ := g3.row hal
    rw [e4] at hx
    cases hx
    refine ⟨rfl, tYes_do ?_⟩
    refine ⟨_, rfl, p, _, rfl, .inl ⟨SqL.of (s4 _ _ e5), fun q hq => ?_⟩⟩
    have s5 := Same.new (o := .tup (r.map V.int)) hq
    refine ⟨acc, s5 _ _ b1, ?_, acc ++ [.ref q], upd_same, by rw [List.length_append, b2]; rfl, ?_, ?_⟩
    · rw [b2, sizeLine_eq]
      omega
    · have up5 : Upto [B] H4 (upd (upd H4 q (.tup (r.map V.int))) B (.lst (acc ++ [.ref q]))) := (Upto.new hq).trans (Upto.put (by simp) (s5 _ _ b1) (fun z => z))
      rw [List.take_succ, e2, List.map_append]
      have nq : q ≠ B := Ne.symm (ne_of_none b1 hq)
      refine dpAll_append (dpAll_upto up5 _ _ noL_rows b3) (.cons (.tup (SqT.of (by rw [upd_ne nq]; exact upd_same)) dpAll_ints) .nil)
    · intro b o e
      rw [upd_ne (ne_of_none e hB), upd_ne (ne_of_none (s4 _ _ e) hq)]
      exact s4 _ _ e
  · rintro H4 ⟨acc, b1, b2, b3, s4⟩
    refine ⟨B, _, rfl, .inl ⟨SqL.of b1, fun q hq => ?_⟩⟩
    have e6 : (ps.map V.ref).length = rows3.length := by rw [List.length_map, g3.len, g3.rl]
    rw [e6, List.take_length] at b3
    have s5 := s4.trans (Same.new (o := .tup acc) hq)
    subst hnn
    exact kq _ q rows3 (ha3.same s5) (g3.up.trans (.of s5)) ⟨g3.rl, g3.rn, g3.lv⟩ (f3.le hm g3.rl g3.rn g3.lv) (.tup (SqT.of upd_same) (dpAll_same (Same.new hq) _ _ b3))
end
end Bo

/-! The law's hand: leaves, trees, bands. -/
namespace Bo
open PySem PySem.Spec L2 PyProof.Rows
theorem evEmp_len {n : Nat} {rows : List (List Int)} (hl : rows.length = n) (hn : ∀ r ∈ rows, r.length = n) : (evEmp n rows).length ≤ 1 + sqC rows := by
  unfold evEmp
  rw [List.length_cons]
  split
  · rw [List.length_nil]
    omega
  · have := evLv_len hl hn
    omega
theorem evLeaf_cost {n : Nat} {l : Leaf} (ok : l.Ok n) : (evLeaf n l).length ≤ 11 + sqC l.rows + (if l.mode = "motion" then 25 else 0) := by
  rw [evLeaf_len]
  have i1 : (modes.idxOf l.mode : Nat) < 5 := List.idxOf_lt_length_of_mem ok.mode
  have i2 : (facs.idxOf l.q : Nat) < 7 := List.idxOf_lt_length_of_mem ok.q
  have h1 := evNum_le (w := "mode") (v := (modes.idxOf l.mode : Nat)) (m := 3) (by omega) (by decide)
  have h2 := evNum_le (w := "q") (v := (facs.idxOf l.q : Nat)) (m := 3) (by omega) (by decide)
  have h3 := evEmp_len ok.sq.len ok.sq.row
  have h4 : (evMot l).length ≤ (if l.mode = "motion" then 25 else 0) := by
    unfold evMot
    split
    · have := ok.slot
      have f1 := fold_le (b := 31) ok.dy.1 ok.dy.2
      have f3 := fold_le (b := 31) ok.dx.1 ok.dx.2
      have a1 := evNum_le (w := "slot") (v := l.slot) (m := 2) (by omega) (by decide)
      have a2 := evNum_le (w := "dy") (v := fold l.dy) (m := 6) (by omega) (by decide)
      have a3 := evNum_le (w := "dx") (v := fold l.dx) (m := 6) (by omega) (by decide)
      rw [List.length_append, List.length_append]
      omega
    · exact Nat.le_refl _
  omega
def bM : Nat → Nat
  | 0 => 103
  | 1 => 413
  | _ => 1653
@[irreducible] def spLeafG (K : PySem.W.Frag) : Sp := fun vs H Q _ => ∃ (h D : Addr) (mot m : Nat) (mo : Int), vs = [.ref h, .int (nn m : Nat), .int mo] ∧ m ≤ 2 ∧ 1 ≤ mo ∧ mo ≤ 5 ∧ HandAt H h D mot ∧
  ∀ (H' : Hp) (v : V) (l : Leaf) (mot' : Nat), l.Ok (nn m) → Dp K H' v l.data → HandAt H' h D mot' → Upto [h] H H' → (evLeaf (nn m) l).length + 25 * mot' ≤ 11 + cS m + 25 * mot → Q v H'
theorem leafG_do {K : PySem.W.Frag} {H : Hp} {h D : Addr} {mot m : Nat} {mo : Int} {Q : VK} {E : XK} (hm : m ≤ 2) (h1 : 1 ≤ mo) (h5 : mo ≤ 5) (ha : HandAt H h D mot)
    (hq : ∀ (H' : Hp) (v : V) (l : Leaf) (mot' : Nat), l.Ok (nn m) → Dp K H' v l.data → HandAt H' h D mot' → Upto [h] H H' → (evLeaf (nn m) l).length + 25 * mot' ≤ 11 + cS m + 25 * mot → Q v H') : spLeafG K [.ref h, .int (nn m : Nat), .int mo] H Q E := by
  unfold spLeafG
  exact ⟨h, D, mot, m, mo, rfl, hm, h1, h5, ha, hq⟩
@[irreducible] def spTreeG (K : PySem.W.Frag) (m : Nat) : Sp := fun vs H Q _ => ∃ (h D : Addr) (mot : Nat) (mo : Int), vs = [.ref h, .int (nn m : Nat), .int mo] ∧ 1 ≤ mo ∧ mo ≤ 5 ∧ HandAt H h D mot ∧
  ∀ (H' : Hp) (v : V) (d : PyData) (l : Ev) (mot' : Nat), TreeE m d l → Dp K H' v d → HandAt H' h D mot' → Upto [h] H H' → l.length + 25 * mot' ≤ bM m + 25 * mot → Q v H'
theorem treeG_do {K : PySem.W.Frag} {H : Hp} {h D : Addr} {mot m : Nat} {mo : Int} {Q : VK} {E : XK} (h1 : 1 ≤ mo) (h5 : mo ≤ 5) (ha : HandAt H h D mot)
    (hq : ∀ (H' : Hp) (v : V) (d : PyData) (l : Ev) (mot' : Nat), TreeE m d l → Dp K H' v d → HandAt H' h D mot' → Upto [h] H H' → l.length + 25 * mot' ≤ bM m + 25 * mot → Q v H') : spTreeG K m [.ref h, .int (nn m : Nat), .int mo] H Q E := by
  unfold spTreeG
  exact ⟨h, D, mot, mo, rfl, h1, h5, ha, hq⟩
theorem pick_str {ms : List Str} {t : Int} (h0 : 0 ≤ t) (h1 : t < ms.length) : ∃ x, x ∈ ms ∧ atI (ms.map V.str) t = some (.str x) := by
  obtain ⟨n, rfl⟩ : ∃ n : Nat, t = (n : Int) := ⟨t.toNat, (Int.toNat_of_nonneg h0).symm⟩
  have hl : n < ms.length := by omega
  refine ⟨ms[n], List.getElem_mem hl, atI_nat ?_⟩
  rw [List.getElem?_map, List.getElem?_eq_getElem hl]
  rfl
theorem pick_int {ms : List Int} {t : Int} (h0 : 0 ≤ t) (h1 : t < ms.length) : ∃ x, x ∈ ms ∧ atI (ms.map V.int) t = some (.int x) := by
  obtain ⟨n, rfl⟩ : ∃ n : Nat, t = (n : Int) := ⟨t.toNat, (Int.toNat_of_nonneg h0).symm⟩
  have hl : n < ms.length := by omega
  refine ⟨ms[n], List.getElem_mem hl, atI_nat ?_⟩
  rw [List.getElem?_map, List.getElem?_eq_getElem hl]
  rfl
section
variable {w : World} {K : PySem.W.Frag} {mg : Str → Option Value} {base : Heap}
theorem ok_l_leaf (T : Tx K mg) (D_l_take : Dfn pr w K mg base CX0 1 "_law_take" spTake) (D_l_shift : Dfn pr w K mg base CX0 2 "_law_shift" (spIn (-31) 31)) (D_l_square : Dfn pr w K mg base CX0 3 "_law_square" (spSquare K)) : Dfn pr w K mg base CX0 4 "_law_leaf" (spLeafG K) := by
  refine mk_dfn (x_l_leaf T) (g_l_leaf T) sc_l_leaf (fun vs H Q E h => by unfold spLeafG at h; obtain ⟨_, _, _, _, _, rfl, _⟩ := h; rfl) fun cdv A outer s H vs Q E hr h => ?_
  unfold spLeafG at h
  obtain ⟨h, D, mot, m, mo, rfl, hm, h1, h5, ha, kq⟩ := h
  refine ⟨_, PSs.nox (pss_cons (ps_set (i := 3) sc_l_leaf.nd rfl (Or.inl rfl) (pe_ix ix_list (pe_lst (pa_cons pe_str (pa_cons pe_str (pa_cons pe_str (pa_cons pe_str (pa_cons pe_str pa_nil)))))) (pe_cal D_l_take hr (by decide) pass0 (pa_cons (pv 0) (pa_cons (pv 2) pa_nil))) (fun _ _ => rfl)))
 (pss_cons (ps_asg (pe_tup (pa_cons pe_int (pa_cons pe_int (pa_cons pe_int pa_nil)))) (pg_tup rfl (pgs_cons (pg_name (i := 4) sc_l_leaf.nd rfl (Or.inl rfl)) (pgs_cons (pg_name (i := 5) sc_l_leaf.nd rfl (Or.inl rfl)) (pgs_cons (pg_name (i := 6) sc_l_leaf.nd rfl (Or.inl rfl)) pgs_nil)))))
 (pss_mid (ps_if (PW.pt (pw_and (pt_cmpR op_eq (pv 3) pe_str (nomark _)) (pw_and1 (pt_cmpR op_eq (pe_ix ix_list (pv 0) pe_int (fun _ _ => rfl)) pe_int (nomark _)))))
 (pss_one (ps_set (i := 3) sc_l_leaf.nd rfl (Or.inl rfl) pe_str))
 pss_nil)
 (pss_mid (ps_if (pt_cmpR op_eq (pv 3) pe_str (nomark _))
 (pss_cons (ps_asg (pe_op op_sub (pe_ix ix_list (pv 0) pe_int (fun _ _ => rfl)) pe_int) (pg_sub (pv 0) pe_int set_list))
 (pss_one (ps_par3 (i := 4) (j := 5) (l := 6) rfl sc_l_leaf.nd rfl rfl rfl (by decide) (by decide) (by decide) rfl rfl rfl (pa_cons (pe_cal D_l_take hr (by decide) pass0 (pa_cons (pv 0) (pa_cons pe_int pa_nil))) (pa_cons (pe_cal D_l_shift hr (by decide) pass0 (pa_cons (pv 0) pa_nil)) (pa_cons (pe_cal D_l_shift hr (by decide) pass0 (pa_cons (pv 0) pa_nil)) pa_nil))) (by rfl))))
 pss_nil)
 (pss_cons (ps_set (i := 7) sc_l_leaf.nd rfl (Or.inl rfl) (pe_ix ix_list (pe_lst (pa_cons pe_int (pa_cons pe_int (pa_cons pe_int (pa_cons pe_int (pa_cons pe_int (pa_cons pe_int (pa_cons pe_int pa_nil)))))))) (pe_cal D_l_take hr (by decide) pass0 (pa_cons (pv 0) (pa_cons pe_int pa_nil))) (fun _ _ => rfl)))
 (pss_one (ps_ret (pe_tup (pa_cons pe_str (pa_cons (pv 3) (pa_cons (pv 4) (pa_cons (pv 5) (pa_cons (pv 6) (pa_cons (pv 7) (pa_cons (pe_cal D_l_square hr (by decide) pass0 (pa_cons (pv 0) (pa_cons (pv 1) pa_nil))) pa_nil))))))))))))))), ?_⟩
  refine ⟨(by show 5 ≤ sizeLine; decide), fun l hl => ?_⟩
  have ha0 := ha.same (Same.new (o := .lst (modes.map V.str)) hl)
  refine ⟨_, rfl, _, rfl, take_do ha0 (by omega) fun H1 t ha1 u1 t0 t1 => ?_⟩
  obtain ⟨md, hmd, hat⟩ := pick_str (ms := modes) t0 (by show t < 5; omega)
  refine ⟨l, modes.map V.str, t, .str md, rfl, rfl, SqL.of (ha.kept hl u1), hat, ?_⟩
  have u1 : Upto [h] H H1 := (Upto.new hl).trans u1
  refine ⟨(by show 3 ≤ sizeLine; decide), fun p hp => ⟨p, _, rfl, SqT.of upd_same, rfl, _, _, rfl, _, _, rfl, _, _, rfl, rfl, ?_⟩⟩
  have ha2 := ha1.same (Same.new (o := .tup [.int 0, .int 0, .int 0]) hp)
  have u2 := u1.trans (Upto.new (o := .tup [.int 0, .int 0, .int 0]) hp)
  refine ⟨fun σ' H' => ∃ md : Str, σ' = [some (.ref h), some (.int (nn m : Nat)), some (.int mo), some (.str md), some (.int 0), some (.int 0), some (.int 0), none] ∧ md ∈ modes ∧ (md = "motion" → mot ≠ 0) ∧ HandAt H' h D mot ∧ Upto [h] H H', ?_, ?_⟩
  · refine ⟨_, rfl, rfl, _, rfl, ?_⟩
    obtain ⟨L, at_, rw_, q1, q2⟩ := id ha2
    refine ite2 (fun hc => ?_) (fun hc => iteF ⟨md, rfl, hmd, fun z => absurd (decide_eq_true (by rw [z])) hc, ha2, u2⟩)
    refine ⟨_, rfl, h, _, 3, _, rfl, rfl, SqL.of q1, atI_nat (j := 3) rfl, rfl, _, rfl, ?_⟩
    refine ite2 (fun hc2 => ?_) (fun hc2 => ?_)
    · exact ⟨"slope", rfl, by simp [modes], fun z => absurd z (by decide +kernel), ha2, u2⟩
    · exact ⟨md, rfl, hmd, fun _ z => hc2 (decide_eq_true (by rw [z]; rfl)), ha2, u2⟩
  clear ha2 u2 hp hat hmd ha1
  rintro σ' H3 ⟨md, rfl, hmd, hmot, ha3, u3⟩
  refine ⟨fun σ' H' => ∃ (sl dy dx : Int) (mot' : Nat), σ' = [some (.ref h), some (.int (nn m : Nat)), some (.int mo), some (.str md), some (.int sl), some (.int dy), some (.int dx), none] ∧ (0 ≤ sl ∧ sl ≤ 2) ∧ (-31 ≤ dy ∧ dy ≤ 31) ∧ (-31 ≤ dx ∧ dx ≤ 31) ∧ (md = "motion" ∨ (sl = 0 ∧ dy = 0 ∧ dx = 0)) ∧
    (if md = "motion" then 25 else 0) + 25 * mot' ≤ 25 * mot ∧ HandAt H' h D mot' ∧ Upto [h] H H', ?_, ?_⟩
  · refine ⟨_, rfl, rfl, _, rfl, ?_⟩
    refine ite2 (fun hc => ?_) (fun hc => ?_)
    · have em : md = "motion" := by
        have h3 := of_decide_eq_true hc
        injection h3
      have hm0 := hmot em
      obtain ⟨L, at_, rw_, q1, q2⟩ := id ha3
      refine ⟨_, rfl, h, _, 3, _, rfl, rfl, SqL.of q1, atI_nat (j := 3) rfl, _, _, rfl, rfl, _, rfl, h, _, 3, 3, rfl, rfl, q1, rfl, ?_⟩
      have hu : Upto [h] H3 (upd H3 h (.lst [.ref D, .int (at_ : Int), .int rw_, .int ((mot : Int) - 1)])) := Upto.put (by simp) q1 (fun z => z)
      have ha4 : HandAt (upd H3 h (.lst [.ref D, .int (at_ : Int), .int rw_, .int ((mot : Int) - 1)])) h D (mot - 1) := ⟨L, at_, rw_, by rw [upd_same, show ((mot - 1 : Nat) : Int) = (mot : Int) - 1 by omega], by rw [upd_ne ha3.ne]; exact q2⟩
      refine ⟨_, rfl, take_do ha4 (by decide) fun H5 x ha5 u5 x0 x1 => ?_⟩
      refine ⟨_, rfl, h, D, mot - 1, rfl, ha5, fun H6 y ha6 u6 y0 y1 => ?_⟩
      refine ⟨_, rfl, h, D, mot - 1, rfl, ha6, fun H7 z ha7 u7 z0 z1 => ?_⟩
      refine ⟨_, _, _, rfl, x, y, z, mot - 1, rfl, by omega, by omega, by omega, .inl em, ?_, ha7, u3.trans (hu.trans (u5.trans (u6.trans u7)))⟩
      rw [if_pos em]
      omega
    · have em : ¬ md = "motion" := fun z => hc (decide_eq_true (by rw [z]))
      refine ⟨0, 0, 0, mot, rfl, by decide, by decide, by decide, .inr ⟨rfl, rfl, rfl⟩, ?_, ha3, u3⟩
      rw [if_neg em]
      omega
  clear ha3 u3 hmot
  rintro σ' H3 ⟨sl, dy, dx, mot', rfl, b1, b2, b3, b4, b5, ha3, u3⟩
  refine ⟨(by show 7 ≤ sizeLine; decide), fun l hl => ?_⟩
  have ha4 := ha3.same (Same.new (o := .lst (facs.map V.int)) hl)
  refine ⟨_, rfl, take_do ha4 (by decide) fun H5 t ha5 u5 t0 t1 => ?_⟩
  obtain ⟨q, hq, hat⟩ := pick_int (ms := facs) t0 (by show t < 7; omega)
  refine ⟨l, facs.map V.int, t, .int q, rfl, rfl, SqL.of (ha3.kept hl u5), hat, ?_⟩
  have u5 : Upto [h] H H5 := u3.trans ((Upto.new hl).trans u5)
  refine ⟨_, rfl, _, rfl, _, rfl, _, rfl, _, rfl, _, rfl, _, rfl, square_do hm ha5 fun H6 p rows ha6 u6 sq cst dp => ?_⟩
  refine ⟨(by show 7 ≤ sizeLine; decide), fun r hr => ?_⟩
  have s7 := Same.new (o := .tup [.str "leaf", .str md, .int sl, .int dy, .int dx, .int q, .ref p]) hr
  have ok : (Leaf.mk md sl dy dx q rows).Ok (nn m) := ⟨hmd, b1, b2, b3, b4, hq, sq⟩
  refine kq _ _ ⟨md, sl, dy, dx, q, rows⟩ mot' ok (.tup (SqT.of upd_same) (.cons (.str _) (.cons (.str _) (.cons (.int _) (.cons (.int _) (.cons (.int _) (.cons (.int _) (.cons (dp_same s7 _ _ dp) .nil)))))))) (ha6.same s7) (u5.trans (u6.trans (.of s7))) ?_
  have := evLeaf_cost ok
  dsimp only at this
  omega
end
end Bo

/-! The law's hand: trees, bands. -/
namespace Bo
open PySem PySem.Spec L2 PyProof.Rows
theorem HandAt.ne_none {H : Hp} {h D p : Addr} {mot : Nat} (ha : HandAt H h D mot) (hp : H p = none) : p ∉ [h] := by
  have := ha.off hp
  simp [this.1]
theorem TL.snoc {m : Nat} {d : PyData} {l : Ev} : ∀ {ds : List PyData} {ls : List Ev}, TL m ds ls → TreeE m d l → TL m (ds ++ [d]) (ls ++ [l])
  | [], [], _, h => TL.cons h TL.nil
  | [], _ :: _, t, _ => by cases t.1
  | _ :: _, [], t, _ => by cases t.1
  | x :: ds, y :: ls, t, h => by
    have h0 : TreeE m x y := t.2 0 x y rfl rfl
    have t' : TL m ds ls := ⟨by have := t.1; rw [List.length_cons, List.length_cons] at this; omega, fun i a b e1 e2 => t.2 (i + 1) a b e1 e2⟩
    exact TL.cons h0 (TL.snoc t' h)
theorem TL.noL {m : Nat} : ∀ {ds : List PyData} {ls : List Ev}, TL m ds ls → noLAll ds = true
  | [], _, _ => by simp only [noLAll]
  | _ :: _, [], t => by cases t.1
  | x :: ds, y :: ls, t => by
    have h0 : TreeE m x y := t.2 0 x y rfl rfl
    have t' : TL m ds ls := ⟨by have := t.1; rw [List.length_cons, List.length_cons] at this; omega, fun i a b e1 e2 => t.2 (i + 1) a b e1 e2⟩
    simp only [noLAll, noL_tree h0, TL.noL t', Bool.and_self]
theorem TL.band : ∀ {ds : List PyData} {ls : List Ev}, TL 2 ds ls → BandE ds ls.flatten
  | [], [], _ => .nil
  | [], _ :: _, t => by cases t.1
  | _ :: _, [], t => by cases t.1
  | x :: ds, y :: ls, t => by
    have h0 : TreeE 2 x y := t.2 0 x y rfl rfl
    have t' : TL 2 ds ls := ⟨by have := t.1; rw [List.length_cons, List.length_cons] at this; omega, fun i a b e1 e2 => t.2 (i + 1) a b e1 e2⟩
    rw [List.flatten_cons]
    exact .cons h0 (TL.band t')
theorem TL.four {m : Nat} {ds : List PyData} {ls : List Ev} (t : TL m ds ls) (h : ds.length = 4) : ∃ a b c d la lb lc ld, ds = [a, b, c, d] ∧ ls = [la, lb, lc, ld] ∧ TreeE m a la ∧ TreeE m b lb ∧ TreeE m c lc ∧ TreeE m d ld := by
  match ds, ls, t, h with
  | [a, b, c, d], [la, lb, lc, ld], t, _ => exact ⟨a, b, c, d, la, lb, lc, ld, rfl, rfl, t.2 0 a la rfl rfl, t.2 1 b lb rfl rfl, t.2 2 c lc rfl rfl, t.2 3 d ld rfl rfl⟩
  | [_, _, _, _], [], t, _ => cases t.1
  | [_, _, _, _], [_], t, _ => cases t.1
  | [_, _, _, _], [_, _], t, _ => cases t.1
  | [_, _, _, _], [_, _, _], t, _ => cases t.1
  | [_, _, _, _], _ :: _ :: _ :: _ :: _ :: _, t, _ => have := t.1; simp at this
/-- [tree(..) for k in range(n)] -/
theorem lc_trees {K : PySem.W.Frag} {m n j : Nat} {te : TE} {vs : List Nat} {σ : L2.St} {H1 : Hp} {h Da D : Addr} {mot : Nat} {Qd : Hp → Prop} (hn : n ≤ 100) (hD : H1 D = none) (ha : HandAt H1 h Da mot)
    (he : ∀ (i : Int) (H' : Hp) (mot1 : Nat), HandAt H' h Da mot1 → ∀ Q' : VK, (∀ (H2 : Hp) (v : V) (d : PyData) (l : Ev) (mot2 : Nat), TreeE m d l → Dp K H2 v d → HandAt H2 h Da mot2 → Upto [h] H' H2 → l.length + 25 * mot2 ≤ bM m + 25 * mot1 → Q' v H2) → te ((wipe σ vs).set j (some (.int i))) H' Q')
    (hw : ∀ x, wipe ((wipe σ vs).set j (some x)) vs = wipe σ vs)
    (hq : ∀ (H' : Hp) (acc : List V) (ds : List PyData) (ls : List Ev) (mot' : Nat), H' D = some (.lst acc) → DpAll K H' acc ds → TL m ds ls → ds.length = n → HandAt H' h Da mot' → Upto [h] H1 H' → ls.flatten.length + 25 * mot' ≤ n * bM m + 25 * mot → Qd H') :
    ∃ W : Nat → Nat → Hp → Prop, (∃ m,
        W 0 m (upd H1 D (.lst []))) ∧ ∀ i m H, W i m H →
      ((Itr 0 n).stop i H ∧ Qd H) ∨ ((Itr 0 n).go i H ∧ ∃ Nx : Hp → Prop, (∀ H', Nx H' → ∃ m', m' < m ∧ W (i + 1) m' H') ∧ ∀ x H', (Itr 0 n).yld i H x H' → gName j x (wipe σ vs) H' fun σ2 H2 => wipe σ2 vs = wipe σ vs ∧ tYes σ2 H2 fun b H3 =>
        if b = true then te σ2 H3 fun y H4 => ∃ acc, H4 D = some (.lst
            acc) ∧ acc.length < sizeLine ∧ Nx (upd H4 D (.lst (acc ++ [y]))) else Nx H3) := by
  have hDh : D ∉ [h] := ha.ne_none hD
  have nh : D ≠ h := (ha.off hD).1
  have na : D ≠ Da := (ha.off hD).2
  refine lc_range (lo := 0) (n := n) (fun i H' => ∃ (acc : List V) (ds : List PyData) (ls : List Ev) (mot' : Nat), H' D = some (.lst acc) ∧ DpAll K H' acc ds ∧ TL m ds ls ∧ ds.length = i ∧ HandAt H' h Da mot' ∧ Upto [h] H1 H' ∧ ls.flatten.length + 25 * mot' ≤ i * bM m + 25 * mot)
    ⟨[], [], [], mot, upd_same, .nil, TL.nil, rfl, ha.same (Same.new hD), Upto.new hD, by rw [List.flatten_nil, List.length_nil, Nat.zero_mul]; exact Nat.le_refl _⟩ ?_ ?_
  · rintro i H' hi ⟨acc, ds, ls, mot1, b1, b2, b3, b4, b5, b6, b7⟩
    refine ⟨hw _, tYes_do ?_⟩
    refine he _ H' mot1 b5 _ fun H2 v d l mot2 te_ dp ha2 u2 c2 => ⟨acc, u2.kp _ _ hDh b1, ?_, acc ++ [v], ds ++ [d], ls ++ [l], mot2, upd_same, ?_, b3.snoc te_, ?_, ?_, ?_, ?_⟩
    · rw [dpAll_length b2, b4, sizeLine_eq]
      omega
    · have e1 := u2.kp _ _ hDh b1
      have u3 : Upto [D] H2 (upd H2 D (.lst (acc ++ [v]))) := Upto.put (by simp) e1 (fun z => z)
      exact dpAll_append (dpAll_upto u3 _ _ b3.noL (dpAll_upto u2 _ _ b3.noL b2)) (.cons (dp_upto u3 _ _ (noL_tree te_) dp) .nil)
    · rw [List.length_append, b4]
      rfl
    · exact ha2.set nh na
    · exact (b6.trans u2).mut hD
    · rw [List.flatten_append, List.length_append, Nat.add_mul, Nat.one_mul]
      have : [l].flatten.length = l.length := by simp
      omega
  · rintro H' ⟨acc, ds, ls, mot1, b1, b2, b3, b4, b5, b6, b7⟩
    exact hq H' acc ds ls mot1 b1 b2 b3 b4 b5 b6 b7
@[irreducible] def spBandG (K : PySem.W.Frag) : Sp := fun vs H Q _ => ∃ (h D : Addr) (mot : Nat) (mo n : Int), vs = [.ref h, .int n, .int mo] ∧ 1 ≤ n ∧ n ≤ 4 ∧ 1 ≤ mo ∧ mo ≤ 5 ∧ HandAt H h D mot ∧
  ∀ (H' : Hp) (p : Addr) (ts : List PyData) (l : Ev) (mot' : Nat), BandE ts l → (ts.length : Int) = n → Dp K H' (.ref p) (.tuple ts) → HandAt H' h D mot' → Upto [h] H H' → l.length ≤ 6612 + 25 * mot → Q (.ref p) H'
theorem bandG_do {K : PySem.W.Frag} {H : Hp} {h D : Addr} {mot : Nat} {mo n : Int} {Q : VK} {E : XK} (n1 : 1 ≤ n) (n4 : n ≤ 4) (h1 : 1 ≤ mo) (h5 : mo ≤ 5) (ha : HandAt H h D mot)
    (hq : ∀ (H' : Hp) (p : Addr) (ts : List PyData) (l : Ev) (mot' : Nat), BandE ts l → (ts.length : Int) = n → Dp K H' (.ref p) (.tuple ts) → HandAt H' h D mot' → Upto [h] H H' → l.length ≤ 6612 + 25 * mot → Q (.ref p) H') : spBandG K [.ref h, .int n, .int mo] H Q E := by
  unfold spBandG
  exact ⟨h, D, mot, mo, n, rfl, n1, n4, h1, h5, ha, hq⟩
section
variable {w : World} {K : PySem.W.Frag} {mg : Str → Option Value} {base : Heap}
theorem void_l_tree (T : Tx K mg) : Dfn pr w K mg base CX0 1 "_law_tree" spNone :=
  mk_dfn (x_l_tree T) (g_l_tree T) sc_l_tree (fun vs H Q E h => h.elim) fun cdv A outer s H vs Q E hr h => h.elim
theorem step_l_tree (T : Tx K mg) {k m : Nat} {sp : Sp} (hm : m ≤ 2) (hk : 4 ≤ k) (D_l_take : Dfn pr w K mg base CX0 1 "_law_take" spTake) (D_l_leaf : Dfn pr w K mg base CX0 4 "_law_leaf" (spLeafG K)) (D_l_tree : Dfn pr w K mg base CX0 k "_law_tree" sp) (hsp : ∀ m', m = m' + 1 → sp = spTreeG K m') : Dfn pr w K mg base CX0 (k + 1) "_law_tree" (spTreeG K m) := by
  refine mk_dfn (x_l_tree T) (g_l_tree T) sc_l_tree (fun vs H Q E h => by unfold spTreeG at h; obtain ⟨_, _, _, _, rfl, _⟩ := h; rfl) fun cdv A outer s H vs Q E hr h => ?_
  unfold spTreeG at h
  obtain ⟨h, Da, mot, mo, rfl, h1, h5, ha, kq⟩ := h
  refine ⟨_, PSs.nox (pss_cons (ps_if (PW.pt (pw_and (pt_cmpR op_gt (pv 1) pe_int (nomark _)) (pw_and1 (pt_cmpR op_gt (pe_cal D_l_take hr (by omega) pass0 (pa_cons (pv 0) (pa_cons pe_int pa_nil))) pe_int (nomark _)))))
 (pss_one (ps_ret (pe_tup (pa_cons pe_str (pa_cons (pe_callTy call_tuple_of (by rfl) (f_tuple T) (by decide +kernel) (pa_cons (pe_lc (own := [("_law_k", 3)]) (g := gName 3) (tt := tYes) rfl sc_l_tree.nd (pi_range1 rfl (f_range T) (pa_cons pe_int pa_nil)) (blkOk_by (N := ["_law_hand", "_law_n", "_law_modes", "_law_k"]) (sc := (defScope s_l_tree)) (by decide +kernel)) (fun _ _ _ _ _ => pg_name (i := 3) sc_l_tree.nd rfl (Or.inl rfl)) (fun _ _ _ _ _ => pts_nil) (fun _ _ _ _ _ => (pe_cal D_l_tree hr (by omega) pass0 (pa_cons (pv 0) (pa_cons (pe_op op_fdiv (pv 1) pe_int) (pa_cons (pv 2) pa_nil)))))) pa_nil)) pa_nil)))))
 pss_nil)
 (pss_one (ps_ret (pe_cal D_l_leaf hr (by omega) pass0 (pa_cons (pv 0) (pa_cons (pv 1) (pa_cons (pv 2) pa_nil))))))), ?_⟩
  have leaf : ∀ H1, HandAt H1 h Da mot → Upto [h] H H1 → tRet (tCall (spLeafG K) [] E0 (tCons (tVar 0) (tCons (tVar 1) (tCons (tVar 2) tNil)))) { nx := fun _ H' => Q V.non H', rt := Q } [some (.ref h), some (.int (nn m : Nat)), some (.int mo), none] H1 := by
    intro H1 ha1 u1
    refine ⟨_, rfl, _, rfl, _, rfl, leafG_do hm h1 h5 ha1 fun H2 v l mot' ok dp ha2 u2 c2 => ?_⟩
    refine kq H2 v l.data _ mot' (.leaf ok) dp ha2 (u1.trans u2) ?_
    have e : (evSpl m 0).length ≤ 1 := by cases m <;> simp [evSpl]
    have e0 : m = 0 → (evSpl m 0).length = 0 := fun z => by subst z; rfl
    rw [List.length_append]
    have : m = 0 ∨ m = 1 ∨ m = 2 := by omega
    rcases this with rfl | rfl | rfl
    · have := e0 rfl
      have a1 : cS 0 = 92 := rfl
      have a2 : bM 0 = 103 := rfl
      omega
    · have a1 : cS 1 = 126 := rfl
      have a2 : bM 1 = 413 := rfl
      omega
    · have a1 : cS 2 = 342 := rfl
      have a2 : bM 2 = 1653 := rfl
      omega
  refine ⟨_, rfl, ⟨_, _, rfl, rfl, _, rfl, ?_⟩⟩
  rw [gt_two]
  cases m with
  | zero => exact iteF (iteF (leaf H ha .refl))
  | succ m =>
  have e2 := hsp m rfl
  subst e2
  refine iteT ⟨_, rfl, take_do ha (by decide) fun H1 t ha1 u1 t0 t1 => ⟨_, _, rfl, rfl, _, rfl, ?_⟩⟩
  refine ite2 (fun hc => ?_) (fun hc => leaf H1 ha1 u1)
  refine ⟨4, rfl, by decide, by decide, fun D hD => ?_⟩
  refine lc_trees (K := K) (m := m) (n := 4) (h := h) (Da := Da) (by decide) hD ha1 (fun i H' mot1 ha2 Q' hq' => ?_) (fun _ => rfl) ?_
  · refine ⟨_, rfl, _, rfl, _, _, rfl, rfl, ⟨by decide, by decide⟩, _, rfl, ?_⟩
    have key := treeG_do (m := m) (Q := Q') (E := E0) h1 h5 ha2 hq'
    rw [← nn_half] at key
    exact key
  · intro H2 acc ds ls mot2 b1 b2 b3 b4 b5 b6 b7
    obtain ⟨a, b, c, d, la, lb, lc, ld, rfl, rfl, ta, tb, tc, td⟩ := b3.four b4
    refine ⟨D, acc, rfl, .inl ⟨SqL.of b1, fun t ht => ?_⟩⟩
    have s3 := Same.new (o := .tup acc) ht
    refine ⟨(by show 2 ≤ sizeLine; decide), fun r hr => ?_⟩
    have s4 := Same.new (o := .tup [.str "split", .ref t]) hr
    refine kq _ _ (.tuple [.str "split", .tuple [a, b, c, d]]) _ mot2 (.split ta tb tc td) (.tup (SqT.of upd_same) (.cons (.str _) (.cons (.tup (SqT.of (s4 _ _ upd_same)) (dpAll_same (s3.trans s4) _ _ b2)) .nil))) (b5.same (s3.trans s4)) (u1.trans (b6.trans (.of (s3.trans s4)))) ?_
    have e1 : [la, lb, lc, ld].flatten.length = (la ++ (lb ++ (lc ++ ld))).length := by simp
    have e3 : (evSpl (m + 1) 1).length = 1 := rfl
    rw [List.length_append, ← e1, e3]
    have : m = 0 ∨ m = 1 := by omega
    rcases this with rfl | rfl
    · have a1 : bM 0 = 103 := rfl
      have a2 : bM 1 = 413 := rfl
      show _ ≤ bM 1 + _
      omega
    · have a1 : bM 1 = 413 := rfl
      have a2 : bM 2 = 1653 := rfl
      show _ ≤ bM 2 + _
      omega
theorem ok_l_tree (T : Tx K mg) (D_l_take : Dfn pr w K mg base CX0 1 "_law_take" spTake) (D_l_leaf : Dfn pr w K mg base CX0 4 "_law_leaf" (spLeafG K)) : Dfn pr w K mg base CX0 7 "_law_tree" (spTreeG K 2) := by
  have d0 := step_l_tree (m := 0) T (by decide) (Nat.le_refl 4) D_l_take D_l_leaf ((void_l_tree T).mono (by decide)) (fun m' e => by cases e)
  have d1 := step_l_tree (m := 1) T (by decide) (by decide) D_l_take D_l_leaf d0 (fun m' e => by injection e with e; rw [← e])
  exact step_l_tree (m := 2) T (by decide) (by decide) D_l_take D_l_leaf d1 (fun m' e => by injection e with e; rw [← e])
theorem ok_l_band (T : Tx K mg) (D_l_tree : Dfn pr w K mg base CX0 7 "_law_tree" (spTreeG K 2)) : Dfn pr w K mg base CX0 8 "_law_band" (spBandG K) := by
  refine mk_dfn (x_l_band T) (g_l_band T) sc_l_band (fun vs H Q E h => by unfold spBandG at h; obtain ⟨_, _, _, _, _, rfl, _⟩ := h; rfl) fun cdv A outer s H vs Q E hr h => ?_
  unfold spBandG at h
  obtain ⟨h, Da, mot, mo, n, rfl, n1, n4, h1, h5, ha, kq⟩ := h
  refine ⟨_, PSs.nox (pss_one (ps_ret (pe_callTy call_tuple_of (by rfl) (f_tuple T) (by decide +kernel) (pa_cons (pe_lc (own := [("_law_k", 3)]) (g := gName 3) (tt := tYes) rfl sc_l_band.nd (pi_range1 rfl (f_range T) (pa_cons (pv 1) pa_nil)) (blkOk_by (N := ["_law_hand", "_law_blocks", "_law_modes", "_law_k"]) (sc := (defScope s_l_band)) (by decide +kernel)) (fun _ _ _ _ _ => pg_name (i := 3) sc_l_band.nd rfl (Or.inl rfl)) (fun _ _ _ _ _ => pts_nil) (fun _ _ _ _ _ => (pe_cal D_l_tree hr (by decide) pass0 (pa_cons (pv 0) (pa_cons pe_int (pa_cons (pv 2) pa_nil)))))) pa_nil)))), ?_⟩
  refine ⟨_, rfl, n, rfl, by omega, by omega, fun D hD => ?_⟩
  refine lc_trees (K := K) (m := 2) (n := n.toNat) (h := h) (Da := Da) (by omega) hD ha (fun i H' mot1 ha2 Q' hq' => ?_) (fun _ => rfl) ?_
  · exact ⟨_, rfl, _, rfl, treeG_do (m := 2) h1 h5 ha2 hq'⟩
  · intro H2 acc ds ls mot2 b1 b2 b3 b4 b5 b6 b7
    refine ⟨D, acc, rfl, .inl ⟨SqL.of b1, fun t ht => ?_⟩⟩
    have s3 := Same.new (o := .tup acc) ht
    refine kq _ t ds ls.flatten mot2 b3.band (by omega) (.tup (SqT.of upd_same) (dpAll_same s3 _ _ b2)) (b5.same s3) (b6.trans (.of s3)) ?_
    have a2 : bM 2 = 1653 := rfl
    have : n.toNat = 1 ∨ n.toNat = 2 ∨ n.toNat = 3 ∨ n.toNat = 4 := by omega
    rcases this with e | e | e | e <;> rw [e] at b7 <;> omega
end
end Bo

/-! What the law bends: tuples cut and joined; a part replaced. -/
namespace Bo
open PySem PySem.Spec L2 PyProof.Rows
/-! ### tuples cut and joined, wherever the answer stands -/
theorem cut_whole {xs : List V} {lo hi : Option Int} (h : HT.sIx xs.length 0 lo = 0 ∧ HT.sIx xs.length xs.length hi = xs.length) : cutV xs lo hi = xs := by
  unfold cutV
  rw [h.1, h.2]
  simp
theorem cut_take (xs : List V) (n : Nat) : cutV xs none (some (n : Int)) = xs.take n := by
  unfold cutV
  rw [HT.sIx_none, HT.sIx_nat, List.drop_zero, Nat.sub_zero]
  apply List.ext_getElem?
  intro i
  simp only [List.getElem?_take]
  split
  · split
    · rfl
    · omega
  · split
    · rw [List.getElem?_eq_none (by omega)]
    · rfl
theorem cut_drop (xs : List V) (n : Nat) : cutV xs (some (n : Int)) none = xs.drop n := by
  unfold cutV
  rw [HT.sIx_none, HT.sIx_nat]
  by_cases h : n ≤ xs.length
  · rw [Nat.min_eq_left h]
    exact List.take_of_length_le (by rw [List.length_drop]; exact Nat.le_refl _)
  · rw [Nat.min_eq_right (by omega),
        List.drop_of_length_le (Nat.le_refl _), List.drop_of_length_le (by omega)]
    simp
theorem cut_init (xs : List V) : cutV xs none (some (-1)) = xs.take (xs.length - 1) := by
  unfold cutV
  have e : HT.sIx xs.length xs.length (some (-1)) = xs.length - 1 := by
    show (if (-1 : Int) < 0 then ((-1 : Int) + (xs.length : Int)).toNat else min (-1 : Int).toNat xs.length) = xs.length - 1
    rw [if_pos (by decide)]
    omega
  rw [HT.sIx_none, e, List.drop_zero, Nat.sub_zero]
theorem cut_last (xs : List V) : cutV xs (some (-1)) none = xs.drop (xs.length - 1) := by
  unfold cutV
  have e : HT.sIx xs.length 0 (some (-1)) = xs.length - 1 := by
    show (if (-1 : Int) < 0 then ((-1 : Int) + (xs.length : Int)).toNat else min (-1 : Int).toNat xs.length) = xs.length - 1
    rw [if_pos (by decide)]
    omega
  rw [HT.sIx_none, e]
  exact List.take_of_length_le (by rw [List.length_drop]; exact Nat.le_refl _)
def rSlE (K : PySem.W.Frag) : V → Option Int → Option Int → Hp → VK → Prop := fun x lo hi H Q => ∃ a xs, x = .ref a ∧ SqT K H a xs ∧ ∀ (H' : Hp) (q : Addr), Same H H' → SqT K H' q (cutV xs lo hi) → Q (.ref q) H'
def rCatE (K : PySem.W.Frag) : R2 := fun x y H Q => ∃ a b xs ys, x = .ref a ∧ y = .ref b ∧ SqT K H a xs ∧ SqT K H b ys ∧ xs.length + ys.length ≤ sizeLine ∧ ∀ (H' : Hp) (q : Addr), Same H H' → SqT K H' q (xs ++ ys) → Q (.ref q) H'
section
variable {X : Cx}
theorem sl_tupE : SlR X (rSlE X.K) := by
  intro pins s σ H x v vl vu
  intro lo hi sl Q I rx hs pl pu h
  obtain ⟨a, xs, rfl, ⟨hx, q⟩⟩ := h
  exact sl_tupA pins s σ H _ v vl vu lo hi sl Q I rx hs pl pu ⟨a, xs, rfl, hx, fun wh => q H a (fun _ _ e => e) (by rw [cut_whole wh]; exact hx), fun _ p hp => q _ p (Same.new hp) (SqT.of upd_same)⟩
theorem op_catE : OpR X (binaryOp .Add) (rCatE X.K) := by
  intro pins s σ H x y
  intro v u Q I rx ry h
  obtain ⟨a, b, xs, ys, rfl, rfl, ha, hb, hz, q⟩ := h
  exact op_catA pins s σ H _ _ v u Q I rx ry ⟨a, b, xs, ys, rfl, rfl, ha, hb, hz, fun e => q H b (fun _ _ e => e) (by rw [e]; exact hb), fun _ e => q H a (fun _ _ e => e) (by rw [e, List.append_nil]; exact ha), fun _ _ p hp => q _ p (Same.new hp) (SqT.of upd_same)⟩
end
/-! ### what stands in a band -/
mutual
def kid : PyData → Bool
  | .int i => decide (-5000 ≤ i) && decide (i ≤ 5000)
  | .str _ => true
  | .tuple xs => kidAll xs
  | _ => false
def kidAll : List PyData → Bool
  | [] => true
  | x :: xs => kid x && kidAll xs
end
theorem kidAll_get : ∀ {ds : List PyData} {i : Nat} {d : PyData}, kidAll ds = true → ds[i]? = some d → kid d = true
  | [], _, _, _, e => by cases e
  | x :: xs, i, d, h, e => by
    have h2 : kid x = true ∧ kidAll xs = true := by simpa only [kidAll, Bool.and_eq_true] using h
    cases i with
    | zero => cases e; exact h2.1
    | succ i => exact kidAll_get h2.2 e
theorem kid_ints : ∀ {l : List Int}, (∀ v ∈ l, -2000 ≤ v ∧ v ≤ 2000) → kidAll (l.map PyData.int) = true
  | [], _ => by simp only [List.map_nil, kidAll]
  | v :: l, h => by
    have h1 := h v (List.mem_cons_self ..)
    have h2 := kid_ints (l := l) fun x hx => h x (List.mem_cons_of_mem _ hx)
    simp only [List.map_cons, kidAll, kid, h2, Bool.and_true, Bool.and_eq_true, decide_eq_true_eq]
    omega
theorem kid_rows : ∀ {rows : List (List Int)}, (∀ r ∈ rows, ∀ v ∈ r, -2000 ≤ v ∧ v ≤ 2000) → kidAll (rows.map dRow) = true
  | [], _ => by simp only [List.map_nil, kidAll]
  | r :: rows, h => by
    have h1 := kid_ints (h r (List.mem_cons_self ..))
    have h2 := kid_rows (rows := rows) fun x hx => h x (List.mem_cons_of_mem _ hx)
    simp only [List.map_cons, kidAll, dRow, kid, h1, h2, Bool.and_self]
theorem kid_leaf {n : Nat} {l : Leaf} (ok : l.Ok n) : kid l.data = true := by
  have h1 := kid_rows ok.sq.lv
  have h2 := ok.slot
  have h3 := ok.dy
  have h4 := ok.dx
  have h5 := facs_small ok.q
  simp only [Leaf.data, kid, kidAll, dRows, h1, Bool.and_true, Bool.true_and, Bool.and_eq_true, decide_eq_true_eq]
  omega
theorem kid_tree : ∀ {m : Nat} {d : PyData} {l : Ev}, TreeE m d l → kid d = true
  | _, _, _, .leaf h => kid_leaf h
  | _, _, _, .split ha hb hc hd => by simp only [kid, kidAll, kid_tree ha, kid_tree hb, kid_tree hc, kid_tree hd, Bool.and_self]
theorem kid_band : ∀ {ts : List PyData} {l : Ev}, BandE ts l → kidAll ts = true
  | _, _, .nil => by simp only [kidAll]
  | _, _, .cons h hs => by simp only [kidAll, kid_tree h, kid_band hs, Bool.and_self]
mutual
theorem kid_noL : ∀ d : PyData, kid d = true → noL d = true
  | .int _, _ => by simp only [noL]
  | .str _, _ => by simp only [noL]
  | .tuple xs, h => by
    simp only [kid] at h
    simp only [noL]
    exact kid_noLAll xs h
  | .none, h => by simp only [kid] at h; cases h
  | .bool _, h => by simp only [kid] at h; cases h
  | .list _, h => by simp only [kid] at h; cases h
  | .dict _, h => by simp only [kid] at h; cases h
theorem kid_noLAll : ∀ ds : List PyData, kidAll ds = true → noLAll ds = true
  | [], _ => by simp only [noLAll]
  | x :: xs, h => by
    have h2 : kid x = true ∧ kidAll xs = true := by simpa only [kidAll, Bool.and_eq_true] using h
    simp only [noLAll, kid_noL x h2.1, kid_noLAll xs h2.2, Bool.and_self]
end
/-! ### sizes of parts -/
theorem SizedAll.get {B D : Nat} : ∀ {ds : List PyData} {i : Nat} {d : PyData}, SizedAll B D ds → ds[i]? = some d → Sized B D d
  | [], _, _, _, e => by cases e
  | x :: xs, i, d, h, e => by
    have h1 := h.ni
    have h2 := h.we
    have h3 := h.de
    simp only [niceAll, Bool.and_eq_true] at h1
    simp only [PyData.weightAll] at h2
    simp only [PyData.depthAll] at h3
    cases i with
    | zero =>
      cases e
      exact ⟨h1.1, by omega, by omega⟩
    | succ i => exact SizedAll.get (ds := xs) ⟨h1.2, by omega, by omega⟩ e
theorem SizedAll.take {B D : Nat} : ∀ {ds : List PyData} (n : Nat), SizedAll B D ds → SizedAll B D (ds.take n)
  | [], n, h => by simpa using h
  | x :: xs, 0, h => SizedAll.nil.mono (Nat.le_refl _) (Nat.le_refl _)
  | x :: xs, n + 1, h => by
    have h1 := h.ni
    have h2 := h.we
    have h3 := h.de
    simp only [niceAll, Bool.and_eq_true] at h1
    simp only [PyData.weightAll] at h2
    simp only [PyData.depthAll] at h3
    have t := SizedAll.take (B := B - (x.weight + 1)) (D := D) (ds := xs) n ⟨h1.2, by omega, by omega⟩
    exact (SizedAll.cons (B := x.weight) ⟨h1.1, Nat.le_refl _, by omega⟩ t).mono (by omega) (Nat.le_refl _)
theorem SizedAll.drop {B D : Nat} : ∀ {ds : List PyData} (n : Nat), SizedAll B D ds → SizedAll B D (ds.drop n)
  | [], n, h => by simpa using h
  | x :: xs, 0, h => h
  | x :: xs, n + 1, h => by
    have h1 := h.ni
    have h2 := h.we
    have h3 := h.de
    simp only [niceAll, Bool.and_eq_true] at h1
    simp only [PyData.weightAll] at h2
    simp only [PyData.depthAll] at h3
    exact SizedAll.drop (ds := xs) n ⟨h1.2, by omega, by omega⟩
theorem SizedAll.one {B D : Nat} {d : PyData} (h : Sized B D d) : SizedAll (B + 1) D [d] := (SizedAll.cons h (SizedAll.nil (B := 0))).mono (by omega) (Nat.le_refl _)
theorem SizedAll.rev {B D : Nat} : ∀ {ds : List PyData}, SizedAll B D ds → SizedAll B D ds.reverse
  | [], h => h
  | x :: xs, h => by
    have h1 := h.ni
    have h2 := h.we
    have h3 := h.de
    simp only [niceAll, Bool.and_eq_true] at h1
    simp only [PyData.weightAll] at h2
    simp only [PyData.depthAll] at h3
    have t := SizedAll.rev (B := B - (x.weight + 1)) (D := D) (ds := xs) ⟨h1.2, by omega, by omega⟩
    rw [List.reverse_cons]
    exact (t.append (SizedAll.one (B := x.weight) ⟨h1.1, Nat.le_refl _, by omega⟩)).mono (by omega) (Nat.le_refl _)
theorem dpAll_rev {K : PySem.W.Frag} {H : Hp} : ∀ {vs : List V} {ds : List PyData}, DpAll K H vs ds → DpAll K H vs.reverse ds.reverse
  | _, _, .nil => .nil
  | _, _, .cons h t => by
    rw [List.reverse_cons,
        List.reverse_cons]
    exact dpAll_append (dpAll_rev t) (.cons h .nil)
end Bo

/-! What the law bends: _law_wrong. -/
namespace Bo
open PySem PySem.Spec L2 PyProof.Rows
/-- a value that stands for its data, not too great -/
structure Got (K : PySem.W.Frag) (H : Hp) (B D : Nat) (v : V) : Prop where
  ex : ∃ d, Dp K H v d ∧ Sized B D d
theorem Got.mk' {K : PySem.W.Frag} {H : Hp} {B D B' D' : Nat} {v : V} {d : PyData} (h : Dp K H v d) (s : Sized B D d) (hb : B ≤ B') (hd : D ≤ D') : Got K H B' D' v := ⟨⟨d, h, s.mono hb hd⟩⟩
theorem Got.same {K : PySem.W.Frag} {H H' : Hp} {B D : Nat} {v : V} (g : Got K H B D v) (s : Same H H') : Got K H' B D v := by
  obtain ⟨d, h, z⟩ := g.ex
  exact ⟨⟨d, dp_same s _ _ h, z⟩⟩
@[irreducible] def spWrong (K : PySem.W.Frag) : Sp := fun vs H Q _ => ∃ (h Da : Addr) (mot B D : Nat) (v : V) (d : PyData), vs = [.ref h, v] ∧ Dp K H v d ∧ kid d = true ∧ Sized B (D + 1) d ∧ B ≤ 100000 ∧ HandAt H h Da mot ∧
  ∀ (H' : Hp) (v' : V), Got K H' (2 * B + 100) (D + 2) v' → HandAt H' h Da mot → Upto [h] H H' → Q v' H'
theorem wrong_do {K : PySem.W.Frag} {H : Hp} {h Da : Addr} {mot B D : Nat} {v : V} {d : PyData} {Q : VK} {E : XK} (dp : Dp K H v d) (kd : kid d = true) (sz : Sized B (D + 1) d) (hB : B ≤ 100000) (ha : HandAt H h Da mot)
    (hq : ∀ (H' : Hp) (v' : V), Got K H' (2 * B + 100) (D + 2) v' → HandAt H' h Da mot → Upto [h] H H' → Q v' H') : spWrong K [.ref h, v] H Q E := by
  unfold spWrong
  exact ⟨h, Da, mot, B, D, v, d, rfl, dp, kd, sz, hB, ha, hq⟩
/-- one of these -/
theorem pick {P : V → Prop} : ∀ {xs : List V} {t : Int}, 0 ≤ t → t < xs.length → (∀ x ∈ xs, P x) → ∃ v, atI xs t = some v ∧ P v := by
  intro xs t h0 h1 hp
  obtain ⟨n, rfl⟩ : ∃ n : Nat, t = (n : Int) := ⟨t.toNat, (Int.toNat_of_nonneg h0).symm⟩
  have hl : n < xs.length := by omega
  exact ⟨xs[n], atI_nat (List.getElem?_eq_getElem hl), hp _ (List.getElem_mem hl)⟩
section
variable {w : World} {K : PySem.W.Frag} {mg : Str → Option Value} {base : Heap}
theorem ok_l_wrong (T : Tx K mg) (D_l_take : Dfn pr w K mg base CX0 1 "_law_take" spTake) (D_l_is_integer : Dfn pr w K mg base CX0 1 "_law_is_integer" (spIsInt K)) : Dfn pr w K mg base CX0 2 "_law_wrong" (spWrong K) := by
  refine mk_dfn (x_l_wrong T) (g_l_wrong T) sc_l_wrong (fun vs H Q E h => by unfold spWrong at h; obtain ⟨_, _, _, _, _, _, _, rfl, _⟩ := h; rfl) fun cdv A outer s H vs Q E hr h => ?_
  unfold spWrong at h
  obtain ⟨h, Da, mot, B, D, v, d, rfl, dp, kd, sz, hB, ha, kq⟩ := h
  refine ⟨_, PSs.nox (pss_cons (ps_set (i := 2) sc_l_wrong.nd rfl (Or.inl rfl) (pe_cal D_l_take hr (by decide) pass0 (pa_cons (pv 0) (pa_cons pe_int pa_nil))))
 (pss_cons (ps_if (pt_cmpR op_lt (pv 2) pe_int (nomark _))
 (pss_one (ps_ret (pe_ix ix_list (pe_lst (pa_cons pe_non (pa_cons pe_bl (pa_cons pe_str (pa_cons (pe_tup pa_nil) (pa_cons (pe_lst pa_nil) (pa_cons (pe_un un_neg pe_int) pa_nil))))))) (pv 2) (fun _ _ => rfl))))
 pss_nil)
 (pss_cons (ps_if (pt_cmpR op_eq (pv 2) pe_int (nomark _))
 (pss_one (ps_ret (pe_lst (pa_cons (pv 1) pa_nil))))
 pss_nil)
 (pss_cons (ps_if (pt_val (pe_callB call_isiD (by rfl) (f_isinstance T) (by decide +kernel) (pa_cons (pv 1) (pa_cons (pe_bltn (v := .ty "tuple") (by rfl) (f_tuple T) (by decide +kernel) rfl) pa_nil))))
 (pss_one (ps_ret (pe_ix ix_list (pe_lst (pa_cons (pe_callTy call_list_of (by rfl) (f_list T) (by decide +kernel) (pa_cons (pv 1) pa_nil)) (pa_cons (pe_slice sl_tupE (pv 1) po_none (po_some (pe_un un_neg pe_int))) (pa_cons (pe_op op_catE (pv 1) (pe_slice sl_tupE (pv 1) (po_some (pe_un un_neg pe_int)) po_none)) (pa_cons (pe_op op_catE (pv 1) (pe_tup (pa_cons pe_int pa_nil))) (pa_cons (pe_tup (pa_cons (pv 1) pa_nil)) (pa_cons (pe_revT (pv 1)) (pa_cons (pe_callTy call_list_of (by rfl) (f_list T) (by decide +kernel) (pa_cons (pv 1) pa_nil)) pa_nil)))))))) (pe_op op_sub (pv 2) pe_int) (fun _ _ => rfl))))
 pss_nil)
 (pss_cons (ps_if (pt_val (pe_callB call_isiD (by rfl) (f_isinstance T) (by decide +kernel) (pa_cons (pv 1) (pa_cons (pe_bltn (v := .ty "str") (by rfl) (f_str T) (by decide +kernel) rfl) pa_nil))))
 (pss_one (ps_ret (pe_ix ix_list (pe_lst (pa_cons (pe_op op_add_str (pv 1) pe_str) (pa_cons (pe_slice sl_str (pv 1) po_none (po_some (pe_un un_neg pe_int))) (pa_cons pe_str (pa_cons pe_str (pa_cons pe_str (pa_cons pe_str (pa_cons pe_str pa_nil)))))))) (pe_op op_sub (pv 2) pe_int) (fun _ _ => rfl))))
 pss_nil)
 (pss_cons (ps_if (pt_not (pt_val (pe_cal D_l_is_integer hr (by decide) pass0 (pa_cons (pv 1) pa_nil))))
 (pss_one (ps_ret pe_non))
 pss_nil)
 (pss_cons (ps_set (i := 3) sc_l_wrong.nd rfl (Or.inl rfl) (pe_ix ix_list (pe_lst (pa_cons pe_int (pa_cons (pe_un un_neg pe_int) (pa_cons pe_int (pa_cons (pe_un un_neg pe_int) (pa_cons pe_int (pa_cons pe_int (pa_cons pe_int (pa_cons pe_int (pa_cons pe_int (pa_cons pe_int (pa_cons pe_int pa_nil)))))))))))) (pe_cal D_l_take hr (by decide) pass0 (pa_cons (pv 0) (pa_cons pe_int pa_nil))) (fun _ _ => rfl)))
 (pss_one (ps_ret (pe_ix ix_list (pe_lst (pa_cons (pe_op op_add (pv 1) pe_int) (pa_cons (pe_un un_neg (pv 1)) (pa_cons (pv 3) (pa_cons (pv 3) (pa_cons (pe_cmpR op_eq (pv 1) pe_int (nomark _)) (pa_cons (pe_op op_sub (pv 1) pe_int) (pa_cons (pv 3) pa_nil)))))))) (pe_op op_sub (pv 2) pe_int) (fun _ _ => rfl))))))))))), ?_⟩
  refine ⟨_, rfl, take_do ha (by decide) fun H1 t ha1 u1 t0 t1 => ?_⟩
  have dp1 := dp_upto u1 _ _ (kid_noL d kd) dp
  have fin : ∀ (H' : Hp) (v' : V), Same H1 H' → Got K H' (2 * B + 100) (D + 2) v' → Q v' H' := fun H' v' s1 g => kq H' v' g (ha1.same s1) (u1.trans (.of s1))
  refine ⟨_, rfl, ⟨_, _, rfl, rfl, _, rfl, ?_⟩⟩
  refine ite2 (fun hc => ?_) (fun hc => ?_)
  · have ht : t < 6 := of_decide_eq_true hc
    refine ⟨(by show 0 ≤ sizeLine; decide), fun p hp => ⟨(by show 0 ≤ sizeLine; decide), fun q hq => ⟨_, rfl, (by show 6 ≤ sizeLine; decide), fun l hl => ?_⟩⟩⟩
    have s1 := Same.new (o := .tup []) hp
    have s2 := Same.new (o := .lst []) hq
    have s3 := Same.new (o := .lst [.non, .bl true, .str "leaf", .ref p, .ref q, .int (-1)]) hl
    obtain ⟨x, hx, hg⟩ := pick (P := fun x => Got K (upd (upd (upd H1 p (.tup [])) q (.lst [])) l (.lst [.non, .bl true, .str "leaf", .ref p, .ref q, .int (-1)])) (2 * B + 100) (D + 2) x) (xs := [.non, .bl true, .str "leaf", .ref p, .ref q, .int (-1)]) t0 (by show t < 6; omega) (by
      intro x hx
      simp only [List.mem_cons,
          List.not_mem_nil, or_false] at hx
      rcases hx with rfl | rfl | rfl | rfl | rfl | rfl
      · exact Got.mk' .non (Sized.none (D := 0)) (by omega) (by omega)
      · exact Got.mk' (.bl true) (Sized.bool (D := 0)) (by omega) (by omega)
      · exact Got.mk' (.str _) (Sized.str (n := 4) (D := 0) (by decide +kernel)) (by omega) (by omega)
      · exact Got.mk' (.tup (SqT.of (s3 _ _ (s2 _ _ upd_same))) .nil) (Sized.tuple (SizedAll.nil (B := 0) (D := 0))) (by omega) (by omega)
      · exact Got.mk' (.lst (SqL.of (s3 _ _ upd_same)) .nil) (Sized.list (SizedAll.nil (B := 0) (D := 0))) (by omega) (by omega)
      · exact Got.mk' (.int _) (Sized.int (D := 0) (by decide)) (by omega) (by omega))
    exact ⟨_, rfl, l, _, t, x, rfl, rfl, SqL.of upd_same, hx, fin _ x (s1.trans (s2.trans s3)) hg⟩
  refine ⟨_, rfl, ⟨rfl, _, rfl, ?_⟩⟩
  refine ite2 (fun hc6 => ?_) (fun hc6 => ?_)
  · refine ⟨_, rfl, (by show 1 ≤ sizeLine; decide), fun l hl => ?_⟩
    have s3 := Same.new (o := .lst [v]) hl
    exact fin _ (.ref l) s3 (Got.mk' (.lst (SqL.of upd_same) (.cons (dp_same s3 _ _ dp1) .nil)) (Sized.list (SizedAll.one sz)) (by omega) (by omega))
  have ht7 : 7 ≤ t := by
    have a1 : ¬ t < 6 := fun z => hc (decide_eq_true z)
    have a2 : ¬ t = 6 := fun z => hc6 (decide_eq_true (by rw [z]))
    omega
  clear hc hc6
  refine ⟨_, rfl, v, d, "tuple", rfl, by simp, dp1, _, rfl, ?_⟩
  rcases ff_tt (isD "tuple" d) with hc | hc
  · rw [hc]
    refine iteF ⟨_, rfl, v, d, "str", rfl, by simp, dp1, _, rfl, ?_⟩
    rcases ff_tt (isD "str" d) with hs | hs
    · rw [hs]
      have hi : intB d = true := by
        cases d with
        | int i => rfl
        | str x => cases hs
        | tuple xs => cases hc
        | none => simp only [kid] at kd; cases kd
        | bool b => simp only [kid] at kd; cases kd
        | list xs => simp only [kid] at kd; cases kd
        | dict xs => simp only [kid] at kd; cases kd
      obtain ⟨i, rfl, rfl⟩ := dp_int dp1 hi
      have hb : -5000 ≤ i ∧ i ≤ 5000 := by simpa only [kid, Bool.and_eq_true, decide_eq_true_eq] using kd
      refine iteF ⟨_, rfl, .int i, .int i, rfl, .int i, _, rfl, ?_⟩
      refine iteF ⟨_, rfl, _, rfl, (by show 11 ≤ sizeLine; decide), fun l hl => ?_⟩
      refine ⟨_, rfl, take_do (ha1.same (Same.new hl)) (by decide) fun H2 t2 ha2 u2 x0 x1 => ?_⟩
      obtain ⟨fv, hfb, hfv⟩ := pick_int (ms := [2001, -2001, 32, -32, 128, 0, 6, 48, 1, 2, 3]) x0 (by show t2 < 11; omega)
      have hfb : -10000 ≤ fv ∧ fv ≤ 10000 := by
        simp only [List.mem_cons, List.not_mem_nil, or_false] at hfb
        omega
      refine ⟨l, _, t2, .int fv, rfl, rfl, SqL.of (ha1.kept hl u2), hfv, ?_⟩
      have u2 : Upto [h] H H2 := u1.trans ((Upto.new hl).trans u2)
      have gi : ∀ (H' : Hp) (j : Int), -10000 ≤ j ∧ j ≤ 10000 → Got K H' (2 * B + 100) (D + 2) (.int j) := fun H' j z => Got.mk' (.int j) (Sized.int (D := 0) z) (by omega) (by omega)
      refine ⟨_, rfl, _, _, rfl, rfl, _, rfl, _, rfl, _, rfl, _, rfl, _, rfl, rfl, _, rfl, _, _, rfl, rfl, _, rfl, (by show 7 ≤ sizeLine; decide), fun L hL => ?_⟩
      have sL := Same.new (o := .lst [.int (i + 1), .int (-i), .int fv, .int fv, .bl (decide (V.int i = V.int 1)), .int (i - 1), .int fv]) hL
      obtain ⟨x, hx, hg⟩ := pick (P := fun x => Got K (upd H2 L (.lst [.int (i + 1), .int (-i), .int fv, .int fv, .bl (decide (V.int i = V.int 1)), .int (i - 1), .int fv])) (2 * B + 100) (D + 2) x) (xs := [.int (i + 1), .int (-i), .int fv, .int fv, .bl (decide (V.int i = V.int 1)), .int (i - 1), .int fv]) (t := t - 7) (by omega) (by show t - 7 < 7; omega) (by
        intro x hx
        simp only [List.mem_cons,
            List.not_mem_nil, or_false] at hx
        rcases hx with rfl | rfl | rfl | rfl | rfl | rfl | rfl
        · exact gi _ _ (by omega)
        · exact gi _ _ (by omega)
        · exact gi _ _ hfb
        · exact gi _ _ hfb
        · exact Got.mk' (.bl _) (Sized.bool (D := 0)) (by omega) (by omega)
        · exact gi _ _ (by omega)
        · exact gi _ _ hfb)
      exact ⟨_, rfl, _, _, rfl, rfl, L, _, _, x, rfl, rfl, SqL.of upd_same, hx, kq _ x hg (ha2.same sL) (u2.trans (.of sL))⟩
    · rw [hs]
      obtain ⟨z, rfl, rfl⟩ := dp_str dp1 hs
      have hzw : z.length ≤ B := by
        have := sz.we
        simp only [PyData.weight] at this
        exact this
      have hzn : ∀ c ∈ z.cps.toList, c < 1000 := by
        have := sz.ni
        simp only [nice, List.all_eq_true, decide_eq_true_eq] at this
        exact this
      have gs : ∀ (H' : Hp) (y : Str), y.length ≤ B + 10 → (∀ c ∈ y.cps.toList, c < 1000) → Got K H' (2 * B + 100) (D + 2) (.str y) := fun H' y y1 y2 =>
        Got.mk' (B := B + 10) (D := 0) (.str y) ⟨by simp only [nice, List.all_eq_true, decide_eq_true_eq]; exact y2, by simp only [PyData.weight]; exact y1, by simp only [PyData.depth]; exact Nat.le_refl _⟩ (by omega) (by omega)
      have gc : ∀ (H' : Hp) (y : Str), plainS 10 y = true → Got K H' (2 * B + 100) (D + 2) (.str y) := fun H' y y1 => Got.mk' (.str y) (Sized.str (D := 0) y1) (by omega) (by omega)
      refine iteT ⟨_, rfl, _, _, rfl, rfl, ?_, _, rfl, _, rfl, _, rfl, z, rfl, ?_, (by show 7 ≤ sizeLine; decide), fun L hL => ?_⟩
      · rw [sizeLine_eq]
        have : ("s" : Str).length = 1 := by decide +kernel
        omega
      · rw [sizeLine_eq]
        omega
      have sL := Same.new (o := .lst [.str (z ++ "s"), .str (cutS z none (some (-1))), .str "", .str "motion", .str "split", .str "slop", .str "flat"]) hL
      obtain ⟨x, hx, hg⟩ := pick (P := fun x => Got K (upd H1 L (.lst [.str (z ++ "s"), .str (cutS z none (some (-1))), .str "", .str "motion", .str "split", .str "slop", .str "flat"])) (2 * B + 100) (D + 2) x) (xs := [.str (z ++ "s"), .str (cutS z none (some (-1))), .str "", .str "motion", .str "split", .str "slop", .str "flat"]) (t := t - 7) (by omega) (by show t - 7 < 7; omega) (by
        intro x hx
        simp only [List.mem_cons,
            List.not_mem_nil, or_false] at hx
        rcases hx with rfl | rfl | rfl | rfl | rfl | rfl | rfl
        · refine gs _ _ ?_ ?_
          · have e : (z ++ ("s" : Str)).length = z.length + ("s" : Str).length := by
              show (z.cps ++ _).size = _
              rw [Array.size_append]
              rfl
            have : ("s" : Str).length = 1 := by decide +kernel
            omega
          · intro c hc
            have hc : c ∈ (z.cps ++ ("s" : Str).cps).toList := hc
            rw [Array.toList_append, List.mem_append] at hc
            rcases hc with q | q
            · exact hzn c q
            · have e : ("s" : Str).cps.toList = [115] := by decide +kernel
              rw [e] at q
              have : c = 115 := by simpa using q
              omega
        · refine gs _ _ ?_ ?_
          · have := cutS_length z none (some (-1))
            omega
          · intro c hc
            exact hzn c (List.mem_of_mem_drop (List.mem_of_mem_take hc))
        · exact gc _ _ (by decide +kernel)
        · exact gc _ _ (by decide +kernel)
        · exact gc _ _ (by decide +kernel)
        · exact gc _ _ (by decide +kernel)
        · exact gc _ _ (by decide +kernel))
      exact ⟨_, rfl, _, _, rfl, rfl, L, _, _, x, rfl, rfl, SqL.of upd_same, hx, fin _ x sL hg⟩
  · rw [hc]
    obtain ⟨a, xs, ds, rfl, rfl, hx, hxs⟩ := dp_tup dp1 hc
    have sa := SizedAll.of_tuple sz
    have hlen := dpAll_length hxs
    have hle : ds.length ≤ B := by
      have := sa.we
      have h2 : ∀ l : List PyData, l.length ≤ PyData.weightAll l := fun l => by
        induction l with
        | nil => exact Nat.zero_le _
        | cons y l ih =>
          simp only [PyData.weightAll, List.length_cons]
          omega
      exact Nat.le_trans (h2 ds) this
    refine iteT ⟨_, rfl, a, xs, rfl, .inr hx, fun l1 hl1 => ?_⟩
    have s1 := Same.new (o := .lst xs) hl1
    refine ⟨_, rfl, _, rfl, _, rfl, a, xs, rfl, Same.sqT s1 hx, fun H2 q2 s12 t2 => ?_⟩
    have s2 := s1.trans s12
    refine ⟨_, rfl, _, rfl, _, rfl, _, rfl, a, xs, rfl, Same.sqT s2 hx, fun H3 q3 s3 t3 => ?_⟩
    have s23 := s3
    have s3 := s2.trans s3
    refine ⟨a, q3, xs, _, rfl, rfl, Same.sqT s3 hx, t3, ?_, fun H4 q4 s4 t4 => ?_⟩
    · rw [cut_last, List.length_drop, sizeLine_eq]
      omega
    have s34 := s4
    have s4 := s3.trans s4
    refine ⟨_, rfl, (by show 1 ≤ sizeLine; decide), fun p5 hp5 => ?_⟩
    have s45 := Same.new (o := .tup [.int 0]) hp5
    have s5 := s4.trans s45
    refine ⟨a, p5, xs, [.int 0], rfl, rfl, Same.sqT s5 hx, SqT.of upd_same, ?_, fun H6 q6 s6 t6 => ?_⟩
    · rw [sizeLine_eq]
      show xs.length + 1 ≤ _
      omega
    have s56 := s6
    have s6 := s5.trans s6
    refine ⟨_, rfl, (by show 1 ≤ sizeLine; decide), fun p7 hp7 => ?_⟩
    have s67 := Same.new (o := .tup [.ref a]) hp7
    have s7 := s6.trans s67
    refine ⟨_, rfl, a, xs, rfl, Same.sqT s7 hx, fun p8 hp8 => ?_⟩
    have s78 := Same.new (o := .tup xs.reverse) hp8
    have s8 := s7.trans s78
    refine ⟨_, rfl, a, xs, rfl, .inr (Same.sqT s8 hx), fun l9 hl9 => ?_⟩
    have s89 := Same.new (o := .lst xs) hl9
    have s9 := s8.trans s89
    refine ⟨(by show 7 ≤ sizeLine; decide), fun L hL => ?_⟩
    have s9L := Same.new (o := .lst [.ref l1, .ref q2, .ref q4, .ref q6, .ref p7, .ref p8, .ref l9]) hL
    have sL := s9.trans s9L
    have d0 := dpAll_same sL _ _ hxs
    have c8 := s89.trans s9L
    have c7 := s78.trans c8
    have c6 := s67.trans c7
    have c5 := s56.trans c6
    have c4 := s45.trans c5
    have c3 := s34.trans c4
    have c2 := s23.trans c3
    obtain ⟨x, hx, hg⟩ := pick (P := fun x => Got K (upd (upd (upd (upd H6 p7 (.tup [.ref a])) p8 (.tup xs.reverse)) l9 (.lst xs)) L (.lst [.ref l1, .ref q2, .ref q4, .ref q6, .ref p7, .ref p8, .ref l9])) (2 * B + 100) (D + 2) x) (xs := [.ref l1, .ref q2, .ref q4, .ref q6, .ref p7, .ref p8, .ref l9]) (t := t - 7) (by omega) (by show t - 7 < 7; omega) (by
      intro x hx9
      simp only [List.mem_cons, List.not_mem_nil, or_false] at hx9
      have s1L : upd (upd (upd (upd H6 p7 (.tup [.ref a])) p8 (.tup xs.reverse)) l9 (.lst xs)) L (.lst [.ref l1, .ref q2, .ref q4, .ref q6, .ref p7, .ref p8, .ref l9]) l1 = some (.lst xs) := by
        have e2 : H2 l1 = some (.lst xs) := s12 _ _ upd_same
        exact c2 _ _ e2
      rcases hx9 with rfl | rfl | rfl | rfl | rfl | rfl | rfl
      · exact Got.mk' (.lst (SqL.of s1L) d0) (Sized.list sa) (by omega) (by omega)
      · refine Got.mk' (.tup (Same.sqT c2 t2) ?_) (Sized.tuple (sa.take (ds.length - 1))) (by omega) (by omega)
        rw [cut_init, hlen]
        exact dpAll_take _ d0
      · refine Got.mk' (.tup (Same.sqT c4 t4) ?_) (Sized.tuple (sa.append (sa.drop (ds.length - 1)))) (by omega) (by omega)
        rw [cut_last, hlen]
        exact dpAll_append d0 (dpAll_drop _ d0)
      · exact Got.mk' (.tup (Same.sqT c6 t6) (dpAll_append d0 (.cons (.int 0) .nil))) (Sized.tuple (sa.append (SizedAll.one (Sized.int (by decide))))) (by omega) (by omega)
      · exact Got.mk' (.tup (SqT.of (c7 _ _ upd_same)) (.cons (dp_same sL _ _ (.tup hx hxs)) .nil)) (Sized.tuple (SizedAll.one sz)) (by omega) (by omega)
      · exact Got.mk' (.tup (SqT.of (c8 _ _ upd_same)) (dpAll_rev d0)) (Sized.tuple sa.rev) (by omega) (by omega)
      · exact Got.mk' (.lst (SqL.of (s9L _ _ upd_same)) d0) (Sized.list sa) (by omega) (by omega))
    exact ⟨_, rfl, _, _, rfl, rfl, L, _, _, x, rfl, rfl, SqL.of upd_same, hx, fin _ x sL hg⟩
end
end Bo

/-! What the law bends: _law_spoilt. -/
namespace Bo
open PySem PySem.Spec L2 PyProof.Rows
/-- a place passed on the way down -/
def Par (K : PySem.W.Frag) (H : Hp) (p : V) : Prop := ∃ (q a : Addr) (at_ : Nat) (xs : List V) (ds : List PyData), p = .ref q ∧ H q = some (.tup [.ref a, .int (at_ : Int)]) ∧ SqT K H a xs ∧ DpAll K H xs ds ∧ kidAll ds = true ∧ SizedAll 13000 7 ds
theorem Par.upto {K : PySem.W.Frag} {S : List Addr} {H H' : Hp} {p : V} (x : Par K H p) (u : Upto S H H') : Par K H' p := by
  obtain ⟨q, a, at_, xs, ds, e, h1, h2, h3, h4, h5⟩ := x
  exact ⟨q, a, at_, xs, ds, e, u.tup h1, u.sqT h2, dpAll_upto u _ _ (kid_noLAll ds h4) h3, h4, h5⟩
/-- old[:at] + (part,) + old[at + 1:] -/
theorem joined {K : PySem.W.Frag} {H : Hp} {xs : List V} {ds : List PyData} {v : V} {q : Addr} {B D n : Nat} (hd : DpAll K H xs ds) (hs : SizedAll 13000 7 ds) (g : Got K H B D v) (hq : SqT K H q (xs.take n ++ [v] ++ xs.drop (n + 1))) : Got K H (B + 26002) (max D 7 + 1) (.ref q) := by
  obtain ⟨d, h, z⟩ := g.ex
  refine Got.mk' (.tup hq (dpAll_append (dpAll_append (dpAll_take n hd) (.cons h .nil)) (dpAll_drop (n + 1) hd)))
    (Sized.tuple (((hs.take n).mono (Nat.le_refl _) (Nat.le_max_right D 7)).append (SizedAll.one (z.mono (Nat.le_refl _) (Nat.le_max_left D 7))) |>.append ((hs.drop (n + 1)).mono (Nat.le_refl _) (Nat.le_max_right D 7)))) (by omega) (Nat.le_refl _)
@[irreducible] def spSpoilt (K : PySem.W.Frag) : Sp := fun vs H Q _ => ∃ (h Da : Addr) (mot : Nat) (v : V) (d : PyData) (n : Int), vs = [.ref h, v, .int n] ∧ Dp K H v d ∧ kid d = true ∧ Sized 13000 8 d ∧ 0 ≤ n ∧ n < 10 ∧ HandAt H h Da mot ∧
  ∀ (H' : Hp) (v' : V), Got K H' 300000 30 v' → HandAt H' h Da mot → Upto [h] H H' → Q v' H'
theorem spoilt_do {K : PySem.W.Frag} {H : Hp} {h Da : Addr} {mot : Nat} {v : V} {d : PyData} {n : Int} {Q : VK} {E : XK} (dp : Dp K H v d) (kd : kid d = true) (sz : Sized 13000 8 d) (n0 : 0 ≤ n) (n1 : n < 10) (ha : HandAt H h Da mot)
    (hq : ∀ (H' : Hp) (v' : V), Got K H' 300000 30 v' → HandAt H' h Da mot → Upto [h] H H' → Q v' H') : spSpoilt K [.ref h, v, .int n] H Q E := by
  unfold spSpoilt
  exact ⟨h, Da, mot, v, d, n, rfl, dp, kd, sz, n0, n1, ha, hq⟩
section
variable {w : World} {K : PySem.W.Frag} {mg : Str → Option Value} {base : Heap}
theorem ok_l_spoilt (T : Tx K mg) (D_l_take : Dfn pr w K mg base CX0 1 "_law_take" spTake) (D_l_wrong : Dfn pr w K mg base CX0 2 "_law_wrong" (spWrong K)) : Dfn pr w K mg base CX0 3 "_law_spoilt" (spSpoilt K) := by
  refine mk_dfn (x_l_spoilt T) (g_l_spoilt T) sc_l_spoilt (fun vs H Q E h => by unfold spSpoilt at h; obtain ⟨_, _, _, _, _, _, rfl, _⟩ := h; rfl) fun cdv A outer s H vs Q E hr h => ?_
  unfold spSpoilt at h
  obtain ⟨h, Da, mot, v, d, n, rfl, dp, kd, sz, n0, n1, ha, kq⟩ := h
  refine ⟨_, PSs.nox (pss_cons (ps_set (i := 3) sc_l_spoilt.nd rfl (Or.inl rfl) (pe_lst pa_nil))
 (pss_cons (ps_set (i := 4) sc_l_spoilt.nd rfl (Or.inl rfl) (pv 1))
 (pss_mid (ps_for PassesOwn.never rfl (pi_range1 rfl (f_range T) (pa_cons (pv 2) pa_nil)) (pg_name (i := 5) sc_l_spoilt.nd rfl (Or.inl rfl))
 (pss_one (ps_if (PW.pt (pw_and (pt_val (pe_callB call_isiD (by rfl) (f_isinstance T) (by decide +kernel) (pa_cons (pv 4) (pa_cons (pe_bltn (v := .ty "tuple") (by rfl) (f_tuple T) (by decide +kernel) rfl) pa_nil)))) (pw_and1 (pt_cmpR op_gt (pe_callB call_len_seq (by rfl) (f_len T) PySem.boot_len (pa_cons (pv 4) pa_nil)) pe_int (nomark _)))))
 (pss_cons (ps_set (i := 6) sc_l_spoilt.nd rfl (Or.inl rfl) (pe_cal D_l_take hr (by decide) pass0 (pa_cons (pv 0) (pa_cons (pe_callB call_len_seq (by rfl) (f_len T) PySem.boot_len (pa_cons (pv 4) pa_nil)) pa_nil))))
 (pss_cons (ps_expr (pe_bm PySem.F.plainAttrs_list PySem.F.slot_list_append PySem.F.type_list_append mt_append (pv 3) (pa_cons (pe_tup (pa_cons (pv 4) (pa_cons (pv 6) pa_nil))) pa_nil)))
 (pss_one (ps_set (i := 4) sc_l_spoilt.nd rfl (Or.inl rfl) (pe_ix ix_tup (pv 4) (pv 6) (fun _ _ => rfl))))))
 pss_nil)))
 (pss_cons (ps_set (i := 7) sc_l_spoilt.nd rfl (Or.inl rfl) (pe_cal D_l_wrong hr (by decide) pass0 (pa_cons (pv 0) (pa_cons (pv 4) pa_nil))))
 (pss_cons (ps_for PassesOwn.never rfl (pi_range1 rfl (f_range T) (pa_cons (pe_callB call_len_seq (by rfl) (f_len T) PySem.boot_len (pa_cons (pv 3) pa_nil)) pa_nil)) (pg_name (i := 5) sc_l_spoilt.nd rfl (Or.inl rfl))
 (pss_cons (ps_asg (pe_ix ix_list (pv 3) (pe_op op_sub (pe_op op_sub (pe_callB call_len_seq (by rfl) (f_len T) PySem.boot_len (pa_cons (pv 3) pa_nil)) pe_int) (pv 5)) (fun _ _ => rfl)) (pg_tup rfl (pgs_cons (pg_name (i := 8) sc_l_spoilt.nd rfl (Or.inl rfl)) (pgs_cons (pg_name (i := 6) sc_l_spoilt.nd rfl (Or.inl rfl)) pgs_nil))))
 (pss_one (ps_set (i := 7) sc_l_spoilt.nd rfl (Or.inl rfl) (pe_op op_catE (pe_op op_catE (pe_slice sl_tupE (pv 8) po_none (po_some (pv 6))) (pe_tup (pa_cons (pv 7) pa_nil))) (pe_slice sl_tupE (pv 8) (po_some (pe_op op_add (pv 6) pe_int)) po_none))))))
 (pss_one (ps_ret (pv 7)))))))), ?_⟩
  refine ⟨Nat.zero_le _, fun P hP => ?_⟩
  have hPh : P ∉ [h] := ha.ne_none hP
  have offP := ha.off hP
  refine ⟨_, rfl, ?_⟩
  refine ⟨fun σ' H' => ∃ (here : V) (st at_ : Option V) (ps : List V) (dh : PyData), σ' = [some (.ref h), some v, some (.int n), some (.ref P), some here, st, at_, none, none] ∧ H' P = some (.lst ps) ∧ (∀ p ∈ ps, Par K H' p) ∧ ps.length ≤ 10 ∧ Dp K H' here dh ∧ kid dh = true ∧ Sized 13000 8 dh ∧ HandAt H' h Da mot ∧ Upto [h] H H', ?_, ?_⟩
  · refine ⟨_, rfl, n, rfl, by omega, by omega, ?_⟩
    refine for_range (lo := 0) (n := n.toNat) (fun i σ' H' => ∃ (here : V) (st at_ : Option V) (ps : List V) (dh : PyData), σ' = [some (.ref h), some v, some (.int n), some (.ref P), some here, st, at_, none, none] ∧ H' P = some (.lst ps) ∧ (∀ p ∈ ps, Par K H' p) ∧ ps.length ≤ i ∧ Dp K H' here dh ∧ kid dh = true ∧ Sized 13000 8 dh ∧ HandAt H' h Da mot ∧ Upto [h] H H')
      ⟨v, none, none, [], d, rfl, upd_same, by simp, Nat.le_refl _, dp_same (Same.new hP) _ _ dp, kd, sz, ha.same (Same.new hP), Upto.new hP⟩ ?_ ?_
    · rintro i σ H1 hi ⟨here, st, at_, ps, dh, rfl, b1, b2, b3, b4, b5, b6, b7, b8⟩
      refine ⟨_, rfl, here, dh, "tuple", rfl, by simp, b4, _, rfl, ?_⟩
      rcases ff_tt (isD "tuple" dh) with hc | hc
      · rw [hc]
        exact iteF (iteF ⟨here, _, at_, ps, dh, rfl, b1, b2, by omega, b4, b5, b6, b7, b8⟩)
      rw [hc]
      obtain ⟨a, xs, ds, rfl, rfl, hx, hxs⟩ := dp_tup b4 hc
      have hl := dpAll_length hxs
      refine iteT ⟨_, rfl, a, xs, rfl, .inr hx, _, _, rfl, rfl, _, rfl, ?_⟩
      refine ite2 (fun hc2 => ?_) (fun hc2 => ⟨_, _, at_, ps, _, rfl, b1, b2, by omega, b4, b5, b6, b7, b8⟩)
      have hpos : (0 : Int) < (xs.length : Int) := of_decide_eq_true hc2
      refine ⟨_, rfl, _, rfl, a, xs, rfl, .inr hx, take_do b7 hpos fun H2 t ha2 u2 t0 t1 => ?_⟩
      obtain ⟨k, rfl⟩ : ∃ k : Nat, t = (k : Int) := ⟨t.toNat, (Int.toNat_of_nonneg t0).symm⟩
      have hk : k < xs.length := by omega
      have hkx := List.getElem?_eq_getElem hk
      obtain ⟨dk, hdk, dpk⟩ := dpAll_get hxs hkx
      have kds : kidAll ds = true := by simpa only [kid] using b5
      have sds := SizedAll.of_tuple b6
      have e1 := u2.kp _ _ hPh b1
      refine ⟨_, rfl, .inl ⟨rfl, _, SqL.of e1⟩, _, rfl, _, rfl, (by show 2 ≤ sizeLine; decide), fun q hq => ?_⟩
      have s3 := Same.new (o := .tup [.ref a, .int (k : Int)]) hq
      refine ⟨P, ps, _, rfl, rfl, s3 _ _ e1, ?_, ?_⟩
      · rw [sizeLine_eq]
        omega
      have u4 : Upto [P] H2 (upd (upd H2 q (.tup [.ref a, .int (k : Int)])) P (.lst (ps ++ [.ref q]))) := (Upto.new hq).trans (Upto.put (by simp) (s3 _ _ e1) (fun z => z))
      have nq : q ≠ P := Ne.symm (ne_of_none e1 hq)
      refine ⟨_, rfl, _, rfl, a, xs, _, xs[k], rfl, rfl, u4.sqT (u2.sqT hx), atI_nat hkx, ?_⟩
      refine ⟨_, _, _, ps ++ [.ref q], dk, rfl, upd_same, ?_, ?_, ?_, kidAll_get kds hdk, (sds.get hdk).mono (Nat.le_refl _) (by omega), ?_, ?_⟩
      · intro p hp
        rcases List.mem_append.mp hp
          with z | z
        · exact ((b2 p z).upto u2).upto u4
        · have z : p = .ref q := by simpa using z
          subst z
          exact ⟨q, a, k, xs, ds, rfl, by rw [upd_ne nq]; exact upd_same, u4.sqT (u2.sqT hx), dpAll_upto u4 _ _ (kid_noLAll ds kds) (dpAll_upto u2 _ _ (kid_noLAll ds kds) hxs), kds, sds⟩
      · rw [List.length_append]
        show ps.length + 1 ≤ i + 1
        omega
      · have kn := kid_noL dk (kidAll_get kds hdk)
        exact dp_upto u4 _ _ kn (dp_upto u2 _ _ kn dpk)
      · exact (ha2.same s3).set offP.1 offP.2
      · exact (b8.trans (u2.trans (.of s3))).mut hP
    · rintro σ H1 ⟨here, st, at_, ps, dh, rfl, b1, b2, b3, b4, b5, b6, b7, b8⟩
      exact ⟨here, st, at_, ps, dh, rfl, b1, b2, by omega, b4, b5, b6, b7, b8⟩
  rintro σ' H1 ⟨here, st, at_, ps, dh, rfl, b1, b2, b3, b4, b5, b6, b7, b8⟩
  refine ⟨_, rfl, _, rfl, wrong_do (D := 7) b4 b5 b6 (by decide) b7 fun H2 v2 g2 ha2 u2 => ?_⟩
  have e2 := u2.kp _ _ hPh b1
  refine ⟨_, rfl, P, ps, rfl, .inl (SqL.of e2), _, rfl, by omega, by omega, ?_⟩
  rw [Int.toNat_natCast]
  refine for_range (lo := 0) (n := ps.length) (fun i σ' H' => ∃ (st at_ old : Option V) (part : V), σ' = [some (.ref h), some v, some (.int n), some (.ref P), some here, st, at_, some part, old] ∧ Same H2 H' ∧ Got K H' (26100 + i * 26002) (9 + i) part) ⟨st, at_, none, v2, rfl, fun _ _ e => e, g2.ex.elim fun d z => Got.mk' z.1 z.2 (by omega) (by omega)⟩ ?_ ?_
  · rintro i σ H3 hi ⟨st3, at3, old3, part, rfl, s3, g3⟩
    have ei : (0 : Int) + (i : Int) = (i : Int) := Int.zero_add _
    rw [ei]
    have hj : ps.length - 1 - i < ps.length := by omega
    have hpj := List.getElem?_eq_getElem hj
    obtain ⟨q, a, k, xs, ds, ep, p1, p2, p3, p4, p5⟩ := ((b2 _ (List.getElem_mem hj)).upto u2).upto (S := []) (.of s3)
    rw [ep] at hpj
    refine ⟨_, rfl, _, rfl, P, ps, rfl, .inl (SqL.of (s3 _ _ e2)), _, _, rfl, rfl, _, rfl, _, _, rfl, rfl, P, ps, _, .ref q, rfl, rfl, SqL.of (s3 _ _ e2), ?_, ?_⟩
    · rw [show (ps.length : Int) - 1 - (i : Int) = ((ps.length - 1 - i : Nat) : Int) by omega]
      exact atI_nat hpj
    refine ⟨q, _, rfl, SqT.of p1, rfl, _, _, rfl, _, _, rfl, rfl, ?_⟩
    have hl := dpAll_length p3
    have hle : xs.length ≤ 13000 := by
      have := p5.we
      have h2 : ∀ l : List PyData, l.length ≤ PyData.weightAll l := fun l => by
        induction l with
        | nil => exact Nat.zero_le _
        | cons y l ih =>
          simp only [PyData.weightAll, List.length_cons]
          omega
      have := h2 ds
      omega
    refine ⟨_, rfl, _, rfl, _, rfl, a, xs, rfl, p2, fun H4 q4 s4 t4 => ?_⟩
    refine ⟨_, rfl, (by show 1 ≤ sizeLine; decide), fun p6 hp6 => ?_⟩
    have s5 := Same.new (o := .tup [part]) hp6
    refine ⟨q4, p6, _, [part], rfl, rfl, Same.sqT s5 t4, SqT.of upd_same, ?_, fun H7 q7 s7 t7 => ?_⟩
    · have := cutV_length xs none (some (k : Int))
      rw [sizeLine_eq]
      show _ + 1 ≤ _
      omega
    have s47 := s4.trans (s5.trans s7)
    refine ⟨_, rfl, _, rfl, _, _, rfl, rfl, _, rfl, a, xs, rfl, Same.sqT s47 p2, fun H8 q8 s8 t8 => ?_⟩
    refine ⟨q7, q8, _, _, rfl, rfl, Same.sqT s8 t7, t8, ?_, fun H9 q9 s9 t9 => ?_⟩
    · have a1 := cutV_length xs none (some (k : Int))
      have a2 := cutV_length xs (some ((k : Int) + 1)) none
      rw [List.length_append, sizeLine_eq]
      show _ + 1 + _ ≤ _
      omega
    have s49 := s47.trans (s8.trans s9)
    refine ⟨_, _, _, .ref q9, rfl, s3.trans s49, ?_⟩
    rw [cut_take, show (k : Int) + 1 = ((k + 1 : Nat) : Int) by omega, cut_drop] at t9
    have gj := joined (n := k) (dpAll_same s49 _ _ p3) p5 (g3.same s49) t9
    obtain ⟨dd, z1, z2⟩ := gj.ex
    exact Got.mk' z1 z2 (by omega) (by omega)
  · rintro σ H3 ⟨st3, at3, old3, part, rfl, s3, g3⟩
    obtain ⟨dd, z1, z2⟩ := g3.ex
    exact ⟨_, rfl, kq H3 part (Got.mk' z1 z2 (by omega) (by omega)) (ha2.same s3) (b8.trans (u2.trans (.of s3)))⟩
end
end Bo

/-! What the law bends: _law_grafted. -/
namespace Bo
open PySem PySem.Spec L2 PyProof.Rows
/-- a value without lists, not too great -/
structure GotN (K : PySem.W.Frag) (H : Hp) (B D : Nat) (v : V) : Prop where
  ex : ∃ d, Dp K H v d ∧ Sized B D d ∧ noL d = true
theorem GotN.upto {K : PySem.W.Frag} {S : List Addr} {H H' : Hp} {B D : Nat} {v : V} (g : GotN K H B D v) (u : Upto S H H') : GotN K H' B D v := by
  obtain ⟨d, h, z, n⟩ := g.ex
  exact ⟨⟨d, dp_upto u _ _ n h, z, n⟩⟩
theorem GotN.same {K : PySem.W.Frag} {H H' : Hp} {B D : Nat} {v : V} (g : GotN K H B D v) (s : Same H H') : GotN K H' B D v := g.upto (S := []) (.of s)
theorem GotN.mono {K : PySem.W.Frag} {H : Hp} {B D B' D' : Nat} {v : V} (g : GotN K H B D v) (hb : B ≤ B') (hd : D ≤ D') : GotN K H B' D' v := by
  obtain ⟨d, h, z, n⟩ := g.ex
  exact ⟨⟨d, h, z.mono hb hd, n⟩⟩
theorem GotN.got {K : PySem.W.Frag} {H : Hp} {B D : Nat} {v : V} (g : GotN K H B D v) : Got K H B D v := by
  obtain ⟨d, h, z, n⟩ := g.ex
  exact ⟨⟨d, h, z⟩⟩
theorem GotN.leaf {K : PySem.W.Frag} {H : Hp} {m : Nat} {v : V} {l : Leaf} (hm : m ≤ 1) (h : Dp K H v l.data) (ok : l.Ok (nn m)) : GotN K H 400 3 v := by
  refine ⟨⟨_, h, (sized_leaf ok).mono ?_ (Nat.le_refl _), noL_leaf l⟩⟩
  have : m = 0 ∨ m = 1 := by omega
  rcases this with rfl | rfl
    <;> decide
/-- ('split', (a, b, c, d)) -/
theorem GotN.split {K : PySem.W.Frag} {H : Hp} {B D : Nat} {a b c d : V} {p q : Addr} (ga : GotN K H B D a) (gb : GotN K H B D b) (gc : GotN K H B D c) (gd : GotN K H B D d) (hp : H p = some (.tup [a, b, c, d])) (hq : H q = some (.tup [.str "split", .ref p])) : GotN K H (4 * B + 20) (D + 2) (.ref q) := by
  obtain ⟨da, h1, z1, n1⟩ := ga.ex
  obtain ⟨db, h2, z2, n2⟩ := gb.ex
  obtain ⟨dc, h3, z3, n3⟩ := gc.ex
  obtain ⟨dd, h4, z4, n4⟩ := gd.ex
  refine ⟨⟨.tuple [.str "split", .tuple [da, db, dc, dd]], .tup (SqT.of hq) (.cons (.str _) (.cons (.tup (SqT.of hp) (.cons h1 (.cons h2 (.cons h3 (.cons h4 .nil))))) .nil)), ?_, ?_⟩⟩
  · have q := Sized.tuple (SizedAll.cons z1 (SizedAll.cons z2 (SizedAll.cons z3 (SizedAll.cons z4 (SizedAll.nil (B := 0) (D := D))))))
    refine (Sized.tuple (SizedAll.cons (Sized.str (n := 5) (D := D + 1) (by decide +kernel)) (SizedAll.cons q (SizedAll.nil (B := 0))))).mono (by omega) (Nat.le_refl _)
  · simp only [noL, noLAll, n1, n2, n3, n4, Bool.and_self]
@[irreducible] def spGraft (K : PySem.W.Frag) : Sp := fun vs H Q _ => ∃ (h Da : Addr) (mot : Nat) (v : V) (ts : List PyData), vs = [.ref h, v] ∧ Dp K H v (.tuple ts) ∧ kidAll ts = true ∧ SizedAll 13000 7 ts ∧ 1 ≤ ts.length ∧ ts.length ≤ 4 ∧ HandAt H h Da mot ∧
  ∀ (H' : Hp) (v' : V) (mot' : Nat), Got K H' 300000 30 v' → HandAt H' h Da mot' → Upto [h] H H' → Q v' H'
theorem graft_do {K : PySem.W.Frag} {H : Hp} {h Da : Addr} {mot : Nat} {v : V} {ts : List PyData} {Q : VK} {E : XK} (dp : Dp K H v (.tuple ts)) (kd : kidAll ts = true) (sz : SizedAll 13000 7 ts) (n1 : 1 ≤ ts.length) (n4 : ts.length ≤ 4) (ha : HandAt H h Da mot)
    (hq : ∀ (H' : Hp) (v' : V) (mot' : Nat), Got K H' 300000 30 v' → HandAt H' h Da mot' → Upto [h] H H' → Q v' H') : spGraft K [.ref h, v] H Q E := by
  unfold spGraft
  exact ⟨h, Da, mot, v, ts, rfl, dp, kd, sz, n1, n4, ha, hq⟩
theorem GotN.split2 {K : PySem.W.Frag} {H : Hp} {B D : Nat} {a b c d : V} {p q : Addr} (ga : GotN K H B D a) (gb : GotN K H B D b) (gc : GotN K H B D c) (gd : GotN K H B D d) (hp : H p = none) (hq : upd H p (.tup [a, b, c, d]) q = none) :
    GotN K (upd (upd H p (.tup [a, b, c, d])) q (.tup [.str "split", .ref p])) (4 * B + 20) (D + 2) (.ref q) ∧ Same H (upd (upd H p (.tup [a, b, c, d])) q (.tup [.str "split", .ref p])) := by
  have s1 := Same.new (o := .tup [a, b, c, d]) hp
  have s2 := Same.new (o := .tup [.str "split", .ref p]) hq
  have s3 := s1.trans s2
  exact ⟨GotN.split (ga.same s3) (gb.same s3) (gc.same s3) (gd.same s3) (s2 _ _ upd_same) upd_same, s3⟩
section
variable {w : World} {K : PySem.W.Frag} {mg : Str → Option Value} {base : Heap}
theorem ok_l_grafted (T : Tx K mg) (D_l_take : Dfn pr w K mg base CX0 1 "_law_take" spTake) (D_l_leaf : Dfn pr w K mg base CX0 4 "_law_leaf" (spLeafG K)) : Dfn pr w K mg base CX0 5 "_law_grafted" (spGraft K) := by
  refine mk_dfn (x_l_grafted T) (g_l_grafted T) sc_l_grafted (fun vs H Q E h => by unfold spGraft at h; obtain ⟨_, _, _, _, _, rfl, _⟩ := h; rfl) fun cdv A outer s H vs Q E hr h => ?_
  unfold spGraft at h
  obtain ⟨h, Da, mot, v, ts, rfl, dp, kd, sz, n1, n4, ha, kq⟩ := h
  refine ⟨_, PSs.nox (pss_cons (ps_set (i := 2) sc_l_grafted.nd rfl (Or.inl rfl) (pe_cal D_l_leaf hr (by decide) pass0 (pa_cons (pv 0) (pa_cons pe_int (pa_cons pe_int pa_nil)))))
 (pss_cons (ps_set (i := 3) sc_l_grafted.nd rfl (Or.inl rfl) (pe_ix ix_list (pe_lst (pa_cons pe_int (pa_cons pe_int pa_nil))) (pe_cal D_l_take hr (by decide) pass0 (pa_cons (pv 0) (pa_cons pe_int pa_nil))) (fun _ _ => rfl)))
 (pss_cons (ps_set (i := 4) sc_l_grafted.nd rfl (Or.inl rfl) (pe_cal D_l_leaf hr (by decide) pass0 (pa_cons (pv 0) (pa_cons (pv 3) (pa_cons pe_int pa_nil)))))
 (pss_cons (ps_set (i := 5) sc_l_grafted.nd rfl (Or.inl rfl) (pe_cal D_l_take hr (by decide) pass0 (pa_cons (pv 0) (pa_cons pe_int pa_nil))))
 (pss_cons (ps_set (i := 6) sc_l_grafted.nd rfl (Or.inl rfl) (pe_tup (pa_cons pe_str (pa_cons (pe_tup (pa_cons (pv 2) (pa_cons (pv 2) (pa_cons (pv 2) (pa_cons (pv 2) pa_nil))))) pa_nil))))
 (pss_mid (ps_if (pt_cmpR op_eq (pv 5) pe_int (nomark _))
 (pss_one (ps_set (i := 4) sc_l_grafted.nd rfl (Or.inl rfl) (pe_tup (pa_cons pe_str (pa_cons (pe_tup (pa_cons (pe_tup (pa_cons pe_str (pa_cons (pe_tup (pa_cons (pv 2) (pa_cons (pv 6) (pa_cons (pv 2) (pa_cons (pv 2) pa_nil))))) pa_nil))) (pa_cons (pv 6) (pa_cons (pv 6) (pa_cons (pv 6) pa_nil))))) pa_nil)))))
 pss_nil)
 (pss_mid (ps_if (pt_cmpR op_eq (pv 5) pe_int (nomark _))
 (pss_one (ps_set (i := 4) sc_l_grafted.nd rfl (Or.inl rfl) (pe_tup (pa_cons pe_str (pa_cons (pe_tup (pa_cons (pe_cal D_l_leaf hr (by decide) pass0 (pa_cons (pv 0) (pa_cons pe_int (pa_cons pe_int pa_nil)))) (pa_cons (pv 6) (pa_cons (pv 2) (pa_cons (pv 6) pa_nil))))) pa_nil)))))
 pss_nil)
 (pss_mid (ps_if (pt_cmpR op_eq (pv 5) pe_int (nomark _))
 (pss_cons (ps_set (i := 7) sc_l_grafted.nd rfl (Or.inl rfl) (pe_tup (pa_cons pe_str (pa_cons (pe_ix ix_tup (pv 2) pe_int (fun _ _ => rfl)) (pa_cons pe_int (pa_cons pe_int (pa_cons pe_int (pa_cons (pe_ix ix_tup (pv 2) pe_int (fun _ _ => rfl)) (pa_cons (pe_tup (pa_cons (pe_tup (pa_cons (pe_ix ix_tup (pe_ix ix_tup (pe_ix ix_tup (pv 2) pe_int (fun _ _ => rfl)) pe_int (fun _ _ => rfl)) pe_int (fun _ _ => rfl)) pa_nil)) pa_nil)) pa_nil)))))))))
 (pss_one (ps_set (i := 4) sc_l_grafted.nd rfl (Or.inl rfl) (pe_tup (pa_cons pe_str (pa_cons (pe_tup (pa_cons (pv 6) (pa_cons (pe_tup (pa_cons pe_str (pa_cons (pe_tup (pa_cons (pv 2) (pa_cons (pv 2) (pa_cons (pe_tup (pa_cons pe_str (pa_cons (pe_tup (pa_cons (pv 7) (pa_cons (pv 7) (pa_cons (pv 7) (pa_cons (pv 7) pa_nil))))) pa_nil))) (pa_cons (pv 2) pa_nil))))) pa_nil))) (pa_cons (pv 6) (pa_cons (pv 6) pa_nil))))) pa_nil))))))
 pss_nil)
 (pss_cons (ps_set (i := 8) sc_l_grafted.nd rfl (Or.inl rfl) (pe_cal D_l_take hr (by decide) pass0 (pa_cons (pv 0) (pa_cons (pe_callB call_len_seq (by rfl) (f_len T) PySem.boot_len (pa_cons (pv 1) pa_nil)) pa_nil))))
 (pss_one (ps_ret (pe_op op_catE (pe_op op_catE (pe_slice sl_tupE (pv 1) po_none (po_some (pv 8))) (pe_tup (pa_cons (pv 4) pa_nil))) (pe_slice sl_tupE (pv 1) (po_some (pe_op op_add (pv 8) pe_int)) po_none))))))))))))), ?_⟩
  refine ⟨_, rfl, leafG_do (m := 0) (by decide) (by decide) (by decide) ha fun H1 sm l mot1 ok dpl ha1 u1 c1 => ?_⟩
  refine ⟨(by show 2 ≤ sizeLine; decide), fun nl hnl => ?_⟩
  refine ⟨_, rfl, take_do (ha1.same (Same.new hnl)) (by decide) fun H2 t ha2 u2 t0 t1 => ?_⟩
  have hn : ∃ m : Nat, m ≤ 1 ∧ atI [V.int 2, V.int 4] t = some (.int (nn m : Nat)) := by
    have : t = 0 ∨ t = 1 := by omega
    rcases this with rfl | rfl
    · exact ⟨0, by decide, rfl⟩
    · exact ⟨1, by decide, rfl⟩
  obtain ⟨m, hm, hat⟩ := hn
  refine ⟨nl, [V.int 2, V.int 4], t, _, rfl, rfl, SqL.of (ha1.kept hnl u2), hat, ?_⟩
  have u2 : Upto [h] H H2 := u1.trans ((Upto.new hnl).trans u2)
  have u12 : Upto [h] H1 H2 := (Upto.new hnl).trans (by assumption)
  refine ⟨_, rfl, _, rfl, leafG_do (m := m) (by omega) (by decide) (by decide) ha2 fun H3 od l2 mot3 ok2 dpl2 ha3 u3 c3 => ?_⟩
  have u3' : Upto [h] H H3 := u2.trans u3
  refine ⟨_, rfl, take_do ha3 (by decide) fun H4 k ha4 u4 k0 k1 => ?_⟩
  have u4' : Upto [h] H H4 := u3'.trans u4
  have dpl4 := dp_upto (u12.trans (u3.trans u4)) _ _ (noL_leaf l) dpl
  have gs4 := GotN.leaf (m := 0) (by decide) dpl4 ok
  have go4 := (GotN.leaf (m := m) hm dpl2 ok2).upto u4
  refine ⟨_, rfl, _, rfl, _, rfl, _, rfl, (by show 4 ≤ sizeLine; decide), fun p5 hp5 => ⟨(by show 2 ≤ sizeLine; decide), fun q5 hq5 => ?_⟩⟩
  obtain ⟨gq0, s5⟩ := GotN.split2 gs4 gs4 gs4 gs4 hp5 hq5
  have gq : GotN K _ 2000 5 (.ref q5) := gq0.mono (by decide) (by decide)
  clear gq0
  have u5 := u4'.trans (Upto.of s5)
  have dpl5 := dp_same s5 _ _ dpl4
  have go5 := (go4.same s5).mono (B' := 33000) (D' := 11) (by decide) (by decide)
  have ha5 := ha4.same s5
  generalize upd (upd H4 p5 (HO.tup [sm, sm, sm, sm])) q5 (HO.tup [V.str "split", V.ref p5]) = H5 at gq u5 dpl5 go5 ha5
  -- kind 1
  refine ⟨fun σ' H' => ∃ (od : V) (one : Option V) (mot' : Nat), σ' = [some (.ref h), some v, some sm, some (.int (nn m : Nat)), some od, some (.int k), some (.ref q5), one, none] ∧ Dp K H' sm l.data ∧ GotN K H' 2000 5 (.ref q5) ∧ GotN K H' 33000 11 od ∧ HandAt H' h Da mot' ∧ Upto [h] H H', ?_, ?_⟩
  · refine ⟨_, rfl, rfl, _, rfl, ?_⟩
    refine ite2 (fun hc => ?_) (fun hc => ⟨od, none, mot3, rfl, dpl5, gq, go5, ha5, u5⟩)
    have gs5 : GotN K H5 2000 5 sm := (GotN.leaf (m := 0) (by decide) dpl5 ok).mono (by decide) (by decide)
    refine ⟨_, rfl, _, rfl, _, rfl, _, rfl, (by show 4 ≤ sizeLine; decide), fun p6 hp6 => ⟨(by show 2 ≤ sizeLine; decide), fun q6 hq6 => ?_⟩⟩
    obtain ⟨g6, s6⟩ := GotN.split2 gs5 gq gs5 gs5 hp6 hq6
    refine ⟨_, rfl, _, rfl, _, rfl, (by show 4 ≤ sizeLine; decide), fun p7 hp7 => ⟨(by show 2 ≤ sizeLine; decide), fun q7 hq7 => ?_⟩⟩
    have gq6 := (gq.same s6).mono (B' := 8020) (D' := 7) (by decide) (by decide)
    obtain ⟨g7, s7⟩ := GotN.split2 g6 gq6 gq6 gq6 hp7 hq7
    have s67 := s6.trans s7
    exact ⟨_, none, mot3, rfl, dp_same s67 _ _ dpl5, gq.same s67, g7.mono (by decide) (by decide), ha5.same s67, u5.trans (.of s67)⟩
  clear gq u5 dpl5 go5 ha5
  rintro σ' H5 ⟨od5, one5, mot5, rfl, dpl5, gq, go5, ha5, u5⟩
  -- kind 2
  refine ⟨fun σ' H' => ∃ (od : V) (one : Option V) (mot' : Nat), σ' = [some (.ref h), some v, some sm, some (.int (nn m : Nat)), some od, some (.int k), some (.ref q5), one, none] ∧ Dp K H' sm l.data ∧ GotN K H' 2000 5 (.ref q5) ∧ GotN K H' 33000 11 od ∧ HandAt H' h Da mot' ∧ Upto [h] H H', ?_, ?_⟩
  · refine ⟨_, rfl, rfl, _, rfl, ?_⟩
    refine ite2 (fun hc => ?_) (fun hc => ⟨od5, one5, mot5, rfl, dpl5, gq, go5, ha5, u5⟩)
    refine ⟨_, rfl, leafG_do (m := 1) (by decide) (by decide) (by decide) ha5 fun H6 lf l6 mot6 ok6 dpl6 ha6 u6 c6 => ?_⟩
    have g6 : GotN K H6 2000 5 lf := (GotN.leaf (m := 1) (by decide) dpl6 ok6).mono (by decide) (by decide)
    have gq6 := gq.upto u6
    have dps6 := dp_upto u6 _ _ (noL_leaf l) dpl5
    have gs6 : GotN K H6 2000 5 sm := (GotN.leaf (m := 0) (by decide) dps6 ok).mono (by decide) (by decide)
    refine ⟨_, rfl, _, rfl, _, rfl, (by show 4 ≤ sizeLine; decide), fun p7 hp7 => ⟨(by show 2 ≤ sizeLine; decide), fun q7 hq7 => ?_⟩⟩
    obtain ⟨g7, s7⟩ := GotN.split2 g6 gq6 gs6 gq6 hp7 hq7
    exact ⟨_, one5, mot6, rfl, dp_same s7 _ _ dps6, gq6.same s7, g7.mono (by decide) (by decide), ha6.same s7, u5.trans (u6.trans (.of s7))⟩
  clear gq u5 dpl5 go5 ha5
  rintro σ' H5 ⟨od5, one5, mot5, rfl, dpl5, gq, go5, ha5, u5⟩
  -- kind 3
  refine ⟨fun σ' H' => ∃ (od : V) (one : Option V) (mot' : Nat), σ' = [some (.ref h), some v, some sm, some (.int (nn m : Nat)), some od, some (.int k), some (.ref q5), one, none] ∧ Dp K H' sm l.data ∧ GotN K H' 2000 5 (.ref q5) ∧ GotN K H' 33000 11 od ∧ HandAt H' h Da mot' ∧ Upto [h] H H', ?_, ?_⟩
  · refine ⟨_, rfl, rfl, _, rfl, ?_⟩
    refine ite2 (fun hc => ?_) (fun hc => ⟨od5, one5, mot5, rfl, dpl5, gq, go5, ha5, u5⟩)
    have gs5 : GotN K H5 2000 6 sm := (GotN.leaf (m := 0) (by decide) dpl5 ok).mono (by decide) (by decide)
    have dpl5' := dpl5
    cases dpl5' with
    | @tup a xs _ hx hxs =>
    obtain ⟨v0, v1, v2, v3, v4, v5, v6, rfl, p0, p1, p2, p3, p4, p5', p6⟩ := dpAll7 hxs
    cases p1
    cases p5'
    cases p6 with
    | @tup b ys _ hy hys =>
    have hrow := rowsAt hys
    have hl2 : l.rows.length = 2 := ok.sq.len
    have h1l : 1 < l.rows.length := by omega
    obtain ⟨r1, hr1, hr1q⟩ := hrow.2 1 l.rows[1] (List.getElem?_eq_getElem h1l)
    have hrl : l.rows[1].length = 2 := ok.sq.row _ (List.getElem_mem h1l)
    have h11 : 1 < l.rows[1].length := by omega
    have hlv := ok.sq.lv _ (List.getElem_mem h1l) _ (List.getElem_mem h11)
    have hcell : (l.rows[1].map V.int)[1]? = some (.int l.rows[1][1]) := by rw [List.getElem?_map, List.getElem?_eq_getElem h11]; rfl
    generalize l.rows[1][1] = cv at hlv hcell
    refine ⟨_, rfl, a, _, 1, _, rfl, rfl, hx, atI_nat (j := 1) rfl, ?_⟩
    refine ⟨_, rfl, a, _, 5, _, rfl, rfl, hx, atI_nat (j := 5) rfl, ?_⟩
    refine ⟨_, rfl, a, _, 6, _, rfl, rfl, hx, atI_nat (j := 6) rfl, b, ys, 1, _, rfl, rfl, hy, atI_nat (j := 1) hr1, r1, _, 1, _, rfl, rfl, hr1q, atI_nat (j := 1) hcell, ?_⟩
    refine ⟨(by show 1 ≤ sizeLine; decide), fun p6 hp6 => ⟨(by show 1 ≤ sizeLine; decide), fun p7 hp7 => ⟨(by show 7 ≤ sizeLine; decide), fun p8 hp8 => ?_⟩⟩⟩
    have s6 := Same.new (o := .tup [.int cv]) hp6
    have s7 := Same.new (o := .tup [.ref p6]) hp7
    have s8 := Same.new (o := .tup [.str "leaf", .str l.mode, .int 0, .int 0, .int 0, .int l.q, .ref p7]) hp8
    have g8 : GotN K (upd (upd (upd H5 p6 (.tup [.int cv])) p7 (.tup [.ref p6])) p8 (.tup [.str "leaf", .str l.mode, .int 0, .int 0, .int 0, .int l.q, .ref p7])) 400 4 (.ref p8) := by
      refine ⟨⟨.tuple [.str "leaf", .str l.mode, .int 0, .int 0, .int 0, .int l.q, .tuple [.tuple [.int cv]]], .tup (SqT.of upd_same) (.cons (.str _) (.cons (.str _) (.cons (.int _) (.cons (.int _) (.cons (.int _) (.cons (.int _) (.cons (.tup (SqT.of (s8 _ _ upd_same)) (.cons (.tup (SqT.of ((s7.trans s8) _ _ upd_same)) (.cons (.int _) .nil)) .nil)) .nil))))))), ?_, ?_⟩⟩
      · have fq := facs_small ok.q
        refine (Sized.tuple (SizedAll.cons (Sized.str (n := 4) (D := 3) (by decide +kernel)) (SizedAll.cons (Sized.str (n := 6) (D := 3) (modes_plain ok.mode)) (SizedAll.cons (Sized.int (by decide)) (SizedAll.cons (Sized.int (by decide)) (SizedAll.cons (Sized.int (by decide)) (SizedAll.cons (Sized.int (i := l.q) (by omega)) (SizedAll.one ((Sized.tuple (SizedAll.one (Sized.tuple (SizedAll.one (Sized.int (D := 0) (i := cv) (by omega)))))).mono (Nat.le_refl _) (by decide)))))))))).mono (by decide) (Nat.le_refl _)
      · simp only [noL, noLAll, Bool.and_self]
    have s58 := s6.trans (s7.trans s8)
    have gs8 := gs5.same s58
    have gq8 := gq.same s58
    have dps8 := dp_same s58 _ _ dpl5
    have ha8 := ha5.same s58
    have u8 := u5.trans (Upto.of s58)
    generalize upd (upd (upd H5 p6 (HO.tup [V.int cv])) p7 (HO.tup [V.ref p6])) p8 (HO.tup [V.str "leaf", V.str l.mode, V.int 0, V.int 0, V.int 0, V.int l.q, V.ref p7]) = H8 at g8 gs8 gq8 dps8 ha8 u8
    refine ⟨_, rfl, _, rfl, _, rfl, _, rfl, _, rfl, _, rfl, _, rfl, (by show 4 ≤ sizeLine; decide), fun p9 hp9 => ⟨(by show 2 ≤ sizeLine; decide), fun q9 hq9 => ?_⟩⟩
    obtain ⟨g9, s9⟩ := GotN.split2 g8 g8 g8 g8 hp9 hq9
    have g9 := g9.mono (B' := 2000) (D' := 6) (by decide) (by decide)
    have gs9 := gs8.same s9
    refine ⟨_, rfl, (by show 4 ≤ sizeLine; decide), fun pa hpa => ⟨(by show 2 ≤ sizeLine; decide), fun qa hqa => ?_⟩⟩
    obtain ⟨ga, sa⟩ := GotN.split2 gs9 gs9 g9 gs9 hpa hqa
    have s9a := s9.trans sa
    have gqa := (gq8.same s9a).mono (B' := 8020) (D' := 8) (by decide) (by decide)
    refine ⟨_, rfl, _, rfl, (by show 4 ≤ sizeLine; decide), fun pb hpb => ⟨(by show 2 ≤ sizeLine; decide), fun qb hqb => ?_⟩⟩
    obtain ⟨gb, sb⟩ := GotN.split2 gqa ga gqa gqa hpb hqb
    have s9b := s9a.trans sb
    exact ⟨_, _, mot5, rfl, dp_same s9b _ _ dps8, gq8.same s9b, gb.mono (by decide) (by decide), ha8.same s9b, u8.trans (.of s9b)⟩
  clear gq u5 dpl5 go5 ha5
  rintro σ' H5 ⟨od5, one5, mot5, rfl, dpl5, gq, go5, ha5, u5⟩
  have dpv := dp_upto u5 (.tuple ts) v (by simp only [noL]; exact kid_noLAll ts kd) dp
  cases dpv with
  | @tup a xs _ hx hxs =>
  have hl := dpAll_length hxs
  refine ⟨_, rfl, _, rfl, a, xs, rfl, .inr hx, take_do ha5 (by omega) fun H6 t ha6 u6 t0 t1 => ?_⟩
  obtain ⟨kk, rfl⟩ : ∃ kk : Nat, t = (kk : Int) := ⟨t.toNat, (Int.toNat_of_nonneg t0).symm⟩
  have hx6 := u6.sqT hx
  have hxs6 := dpAll_upto u6 _ _ (kid_noLAll ts kd) hxs
  have go6 := go5.upto u6
  refine ⟨_, rfl, _, rfl, _, rfl, a, xs, rfl, hx6, fun H7 q7 s7 t7 => ?_⟩
  refine ⟨_, rfl, (by show 1 ≤ sizeLine; decide), fun p8 hp8 => ?_⟩
  have s8 := Same.new (o := .tup [od5]) hp8
  refine ⟨q7, p8, _, [od5], rfl, rfl, Same.sqT s8 t7, SqT.of upd_same, ?_, fun H9 q9 s9 t9 => ?_⟩
  · have := cutV_length xs none (some (kk : Int))
    rw [sizeLine_eq]
    show _ + 1 ≤ _
    omega
  have s69 := s7.trans (s8.trans s9)
  refine ⟨_, rfl, _, rfl, _, _, rfl, rfl, _, rfl, a, xs, rfl, Same.sqT s69 hx6, fun Ha qa sa ta => ?_⟩
  refine ⟨q9, qa, _, _, rfl, rfl, Same.sqT sa t9, ta, ?_, fun Hb qb sb tb => ?_⟩
  · have a1 := cutV_length xs none (some (kk : Int))
    have a2 := cutV_length xs (some ((kk : Int) + 1)) none
    rw [List.length_append, sizeLine_eq]
    show _ + 1 + _ ≤ _
    omega
  have s6b := s69.trans (sa.trans sb)
  rw [cut_take, show (kk : Int) + 1 = ((kk + 1 : Nat) : Int) by omega, cut_drop] at tb
  have gj := joined (n := kk) (dpAll_same s6b _ _ hxs6) sz (go6.got.same s6b) tb
  obtain ⟨dd, z1, z2⟩ := gj.ex
  exact kq Hb (.ref qb) mot5 (Got.mk' z1 z2 (by omega) (by omega)) (ha6.same s6b) (u5.trans (u6.trans (.of s6b)))
end
end Bo

/-! _law_refused. -/
namespace Bo
open PySem PySem.Spec L2 PyProof.Rows
/-- isinstance of a caught error, its class told in the reading -/
def rIsE (D T a : Addr) (cls : Value) (d : Option Addr) : List V → Hp → VK → Prop := fun xs H Q => ∃ (dd : Addr) (fs : List (Str × V)), xs = [.ref a, .ref T] ∧ cls = .ref D ∧ d = some dd ∧ H dd = some (.xd fs) ∧ Q (.bl true) H
theorem call_isEr {X : Cx} {a D : Addr} {oe : Obj} {cls : Value} {d : Option Addr} {pn : List (Addr × Obj)} {T : Addr} (C : ErrC X.K D T) (hz : Zc cls d oe) (hf : ∃ vs, oe.data = .fields vs) :
    CallR (X.suite a ((a, oe) :: pn)) (.builtin "isinstance") (rIsE D T a cls d) := by
  intro pins s σ H
  intro xs us Q I r h
  obtain ⟨dd, fs, e1, e2, e3, e4, q⟩ := h
  subst e2
  exact call_isEd C hz hf pins s σ H xs us Q I r ⟨dd, fs, e1, e3, e4, q⟩
def spRefused (K : PySem.W.Frag) : Sp := fun vs H Q _ => ∃ v d, vs = [v] ∧ Dp K H v d ∧ Sized 1000000 60 d ∧ bandB d = false ∧ ∀ H', Same H H' → Q (.bl true) H'
section
variable {w : World} {K : PySem.W.Frag} {mg : Str → Option Value} {base : Heap}
theorem ok_l_refused (T : Tx K mg) (G : Prog pr w K mg base) : DfnG pr w K mg base CX0 12 "_law_refused" (spRefused K) := by
  refine mk_dfnG (x_l_refused T) (g_l_refused T) sc_l_refused (fun vs H Q E h => by obtain ⟨_, _, rfl, _⟩ := h; rfl) fun cdv A outer s H vs Q E hg hr h => ?_
  obtain ⟨v, d, rfl, hd, sz, hb, k⟩ := h
  have hgu : (A.deeper (envOfC "_law_refused" (defScope s_l_refused) s.heap.objs.size (He.ga K "_law_refused") cdv)).guards = some [] := hg
  have hu := hr.units
  have fit := sz.fits (Nat.le_refl _) (Nat.le_refl _)
  refine ⟨_, PSs.nox (pss_cons (ps_set (i := 1) sc_l_refused.nd rfl (Or.inl rfl) (pe_callB (call_reprD hu hgu) (by rfl) (f_repr T) (by decide +kernel) (pa_cons (pv 0) pa_nil)))
 (pss_cons (ps_try_as (i := 2) (Wout := fun _ _ _ _ => False) rfl rfl sc_l_refused.nd rfl rfl ⟨rfl, by decide, .inl (g_InvalidTree T)⟩ takes0 (fun W pn xe tk _ => pss_one (ps_expr (by exact (pe_calS G.band hr (by decide) (fun σ => passAt tk σ) (pa_cons (pv 0) pa_nil))))) (fun a oe cls d pn hz hf => pss_one (ps_ret (pe_and (pe_callB (r := rIsE (He.ga K "InvalidTree") (He.ga K "TideError") a cls d) (call_isEr (err_tree T) hz hf) (by rfl) (f_isinstance T) (by decide +kernel) (pa_cons (pv 2) (pa_cons (pe_glob (v := .ref (He.ga K "TideError")) rfl (g_TideError T) rfl) pa_nil))) (pe_one (pe_cmpR op_eq (pe_callB (r := rRepr K) (call_reprD hu hgu) (by rfl) (f_repr T) (by decide +kernel) (pa_cons (pe_xf (err_tree T).xf (a_InvalidTree_value T) hz hf (pv 2)) pa_nil)) (pv 1) (nomark _)))))))
 (pss_one (ps_ret
     pe_bl)))), ?_⟩
  refine ⟨_, rfl, v, d, rfl, hd, fit.1, fit.2.1, fit.2.2.1, fit.2.2.2, ?_⟩
  refine ⟨_, rfl, v, d, rfl, hd, fun _ => ?_, fun z => by rw [hb] at z; cases z⟩
  intro H' dd s1 hx
  refine ⟨true, exm_tree T, fun _ a ha => ?_, fun q => nomatch q⟩
  refine ⟨_, rfl, dd, _, rfl, rfl, rfl, hx, _, rfl, iteT ?_⟩
  refine ⟨_, rfl, rfl, rfl, dd, _, v, rfl, hx, rfl, v, d, rfl, dp_same s1 _ _ hd, fit.1, fit.2.1, fit.2.2.1, fit.2.2.2, _, rfl, rfl, ?_⟩
  rw [show decide (V.str d.shown = V.str d.shown) = true from decide_eq_true rfl]
  exact k H' s1
end
end Bo

/-! The law itself. -/
namespace Bo
open PySem PySem.Spec L2 PyProof.Rows
section
variable {X : Cx} {CX : CXT} {k : Nat} {f : Addr} {fd : FuncData} {ps ks : List Str} {sp : Sp} {E : XK} {x : Str} {p pos : Pos} {kws : List Keyword} {tk : TA} {g : List Value → List Value → List Value} {gV : List V → List V → List V}
/-- f(k = v, ..) -/
theorem pe_word (F : FnOk X.prog X.w X.K X.mg X.base CX k f fd ps sp) (hr : Room k X.A) (hg : Gl X x) (hm : X.mg x = some (.ref f)) (hk : PySem.W.keepIn X.K (.ref f) = true) (hb : KBinds X.K fd ps ks g gV) (hx : Passes CX X E) (hkw : PK X kws tk)
    (hall : (backToKw pos (keywordEach kws X.env)).all (·.1.isSome) = true := by rfl) (hks : (backToKw pos
        (keywordEach kws X.env)).filterMap (·.1) = ks := by rfl) (hdb : (x == ("__debug__" : Str)) = false := by decide)
    (hpl : ((backTo pos (starEach [] X.env)).any (·.1) || (backToKw
        pos (keywordEach kws X.env)).any (·.1.isNone)) = false := by rfl) :
    PE X (.Call (.Name x p) [] kws pos) (tCallK sp gV E tNil tk) := by
  refine ⟨fun pins s σ H Q I h => wpAny_Call_Name_kw (ld_glob I hg hm ?_ hdb)⟩
  refine PySem.W.callWith_KW0 (h₀ := X.base) I.ok.mod.kin hk hall ?_ hpl
  refine thn (hkw.run pos pins s σ H _ I h) fun ws s2 z => ?_
  obtain ⟨zs, H2, I2, rz, q2⟩ := z
  refine ⟨I2.kIn, ?_⟩
  rw [hks]
  exact run_fnk (us := []) (vs := []) F hr hb hx I2 .nil rz q2
end
theorem oct_sized {s : CoSt Kk} {oc : List Int} (io : IsOct s oc) (hl : oc.length ≤ 2000) : Sized 30000 1 (.tuple (oc.map PyData.int)) := by
  obtain ⟨k, _, _, _, e⟩ := io
  have hb : ∀ i ∈ oc, -10000 ≤ i ∧ i ≤ 10000 := fun i hi => by
    rw [e] at hi
    have := figs_bound i hi
    omega
  exact (Sized.tuple (sized_ints hb)).mono (by omega) (Nat.le_refl _)
theorem band_first {ts : List PyData} {l : Ev} (h : BandE ts l) (h1 : 1 ≤ ts.length) : ∃ t l0, ts[0]? = some t ∧ ts.take 1 = [t] ∧ BandE [t] l0 ∧ l0.length ≤ l.length ∧ TreeE 2 t l0 := by
  cases h with
  | nil => simp at h1
  | @cons t ts l ls ht hs =>
    refine ⟨t, l, rfl, rfl, ?_, by rw [List.length_append]; omega, ht⟩
    have := BandE.cons ht .nil
    rw [List.append_nil] at this
    exact this
theorem tree_no_band {t : PyData} {l : Ev} (h : TreeE 2 t l) : bandB t = false := by
  cases h with
  | leaf ok =>
    show bandB (.tuple _) = false
    rw [bandB_tuple, decide_eq_false (by simp), Bool.false_and]
  | split ha hb hc hd =>
    rw [bandB_tuple, List.all_cons, treeB_no (m := 2) (d := .str "split") rfl, Bool.false_and, Bool.and_false]
def spLaw (K : PySem.W.Frag) : Sp := fun vs H Q _ => ∃ (a : Addr) (ns : List
    Int), vs = [.ref a] ∧ SqL K H a (ns.map V.int) ∧ ns.length ≤ 63 ∧ ∀ H', Q (.bl true) H'
section
variable {w : World} {K : PySem.W.Frag} {mg : Str → Option Value} {base : Heap}
theorem ok_law {fd : FuncData} (F : FnP K "law" "law" s_law (He.ga K "law") fd) (T : Tx K mg) (G : Prog pr w K mg base) (D_l_draws : Dfn pr w K mg base CX0 1 "_law_draws" (spDraws K)) (D_l_take : Dfn pr w K mg base CX0 1 "_law_take" spTake) (D_l_band : Dfn pr w K mg base CX0 8 "_law_band" (spBandG K)) (D_l_written : Dfn pr w K mg base CX0 8 "_law_written" (spOctOf K))
    (D_l_spoilt : Dfn pr w K mg base CX0 3 "_law_spoilt" (spSpoilt K)) (D_l_grafted : Dfn pr w K mg base CX0 5 "_law_grafted" (spGraft K)) (D_l_is_band : Dfn pr w K mg base CX0 6 "_law_is_band" (spBandL K)) (D_l_refused : DfnG pr w K mg base CX0 12 "_law_refused" (spRefused K)) : FnG pr w K mg base CX0 13 (He.ga K "law") fd ["_law_script"] (spLaw K) := by
  obtain ⟨fdW, FW, bW⟩ := G.word
  refine okG F sc_law (fun vs H Q E h => by obtain ⟨_, _, rfl, _⟩ := h; rfl) fun cdv A outer s H vs Q E hg hr h => ?_
  obtain ⟨a, ns, rfl, ha, hns, kq⟩ := h
  have hgu : (A.deeper (envOfC "law" (defScope s_law) s.heap.objs.size (He.ga K "law") cdv)).guards = some [] := hg
  have hu := hr.units
  refine ⟨_, PSs.nox (pss_cons (ps_set (i := 1) sc_law.nd rfl (Or.inl rfl) (pe_lst (pa_cons (pe_cal D_l_draws hr (by decide) pass0 (pa_cons (pv 0) (pa_cons pe_int pa_nil))) (pa_cons pe_int (pa_cons pe_int (pa_cons pe_int pa_nil))))))
 (pss_cons (ps_set (i := 2) sc_law.nd rfl (Or.inl rfl) (pe_ix ix_list (pe_lst (pa_cons pe_int (pa_cons pe_int (pa_cons pe_int (pa_cons pe_int (pa_cons pe_int (pa_cons pe_int (pa_cons pe_int pa_nil)))))))) (pe_cal D_l_take hr (by decide) pass0 (pa_cons (pv 1) (pa_cons pe_int pa_nil))) (fun _ _ => rfl)))
 (pss_cons (ps_set (i := 3) sc_law.nd rfl (Or.inl rfl) (pe_cal D_l_band hr (by decide) pass0 (pa_cons (pv 1) (pa_cons (pv 2) (pa_cons pe_int pa_nil)))))
 (pss_cons (ps_set (i := 4) sc_law.nd rfl (Or.inl rfl) (pe_cal D_l_written hr (by decide) pass0 (pa_cons (pv 3) pa_nil)))
 (pss_cons (ps_set (i := 5) sc_law.nd rfl (Or.inl rfl) (pe_callB (call_reprD hu hgu) (by rfl) (f_repr T) (by decide +kernel) (pa_cons (pv 3) pa_nil)))
 (pss_cons (ps_for PassesOwn.never rfl (pi_range1 rfl (f_range T) (pa_cons pe_int pa_nil)) (pg_name (i := 6) sc_law.nd rfl (Or.inl rfl))
 (pss_cons (ps_set (i := 7) sc_law.nd rfl (Or.inl rfl) (pe_word FW (hr.mono (by decide)) (by rfl) (g_band_octets T) G.band.kp bW passL (pk_cons (pv 3) pk_nil)))
 (pss_cons (ps_if (PW.pt (pw_or (pt_cmpR op_ne (pe_callB (call_reprD hu hgu) (by rfl) (f_repr T) (by decide +kernel) (pa_cons (pv 7) pa_nil)) (pe_callB (call_reprD hu hgu) (by rfl) (f_repr T) (by decide +kernel) (pa_cons (pv 4) pa_nil)) (nomark _)) (pw_or1 (pt_cmpR op_ne (pe_callB (call_reprD hu hgu) (by rfl) (f_repr T) (by decide +kernel) (pa_cons (pv 3) pa_nil)) (pv 5) (nomark _)))))
 (pss_one (ps_ret pe_bl))
 pss_nil)
 (pss_one (ps_if (pt_cmpR op_ne (pe_callB (call_reprD hu hgu) (by rfl) (f_repr T) (by decide +kernel) (pa_cons (pe_cal G.band hr (by decide) passL (pa_cons (pe_slice sl_tupE (pv 3) po_none (po_some pe_int)) pa_nil)) pa_nil)) (pe_callB (call_reprD hu hgu) (by rfl) (f_repr T) (by decide +kernel) (pa_cons (pe_cal D_l_written hr (by decide) pass0 (pa_cons (pe_slice sl_tupE (pv 3) po_none (po_some pe_int)) pa_nil)) pa_nil)) (nomark _))
 (pss_one (ps_ret pe_bl))
 pss_nil)))))
 (pss_cons (ps_asg pe_int (pg_sub (pv 1) pe_int set_list))
 (pss_cons (ps_for PassesOwn.never rfl (pi_range1 rfl (f_range T) (pa_cons pe_int pa_nil)) (pg_name (i := 8) sc_law.nd rfl (Or.inl rfl))
 (pss_cons (ps_set (i := 9) sc_law.nd rfl (Or.inr rfl) (pe_cal D_l_spoilt hr (by decide) pass0 (pa_cons (pv 1) (pa_cons (pv 3) (pa_cons (pe_cal D_l_take hr (by decide) pass0 (pa_cons (pv 1) (pa_cons pe_int pa_nil))) pa_nil)))))
 (pss_mid (ps_if (pt_cmpR op_eq (pv 8) pe_int (nomark _))
 (pss_one (ps_set (i := 9) sc_law.nd rfl (Or.inr rfl) (pe_cal D_l_grafted hr (by decide) pass0 (pa_cons (pv 1) (pa_cons (pv 3) pa_nil)))))
 pss_nil)
 (pss_one (ps_if (PW.pt (pw_and (pt_not (pt_val (pe_callB (cr_any rfl) (by rfl) (f_any T) (by decide +kernel) (pa_cons (pe_lc (own := [("_law_count", 10)]) (g := gName 10) (tt := tYes) rfl sc_law.nd (pi_list (pe_lst (pa_cons pe_int (pa_cons pe_int (pa_cons pe_int (pa_cons pe_int pa_nil)))))) (blkOk_by (N := ["_law_script", "_law_hand", "_law_blocks", "_law_band_here", "_law_due", "_law_before", "_law_step", "_law_found", "_law_k", "_law_bent", "_law_count"]) (sc := (defScope s_law)) (by decide +kernel)) (fun _ _ _ _ _ => pg_name (i := 10) sc_law.nd rfl (Or.inl rfl)) (fun _ _ _ _ _ => pts_nil) (fun _ _ _ _ _ => (pe_cal D_l_is_band hr (by decide) pass0 (pa_cons (pv 9) (pa_cons (pv 10) pa_nil))))) pa_nil)))) (pw_and1 (pt_not (pt_val (pe_calG (E := E0) D_l_refused hr (by decide) hgu (pa_cons (pv 9) pa_nil)))))))
 (pss_one (ps_ret pe_bl))
 pss_nil)))))
 (pss_one (ps_ret (pe_and (pe_calG (E := E0) D_l_refused hr (by decide) hgu (pa_cons (pe_tup pa_nil) pa_nil)) (pe_and (pe_calG (E := E0) D_l_refused hr (by decide) hgu (pa_cons (pe_callTy call_list_of (by rfl) (f_list T) (by decide +kernel) (pa_cons (pv 3) pa_nil)) pa_nil)) (pe_one (pe_calG (E := E0) D_l_refused hr (by decide) hgu (pa_cons (pe_ix ix_tup (pv 3) pe_int (fun _ _ => rfl)) pa_nil))))))))))))))), ?_⟩
  refine ⟨_, rfl, a, ns, rfl, ha, by omega, fun H1 D L s1 hD0 hD => ?_⟩
  refine ⟨(by show 4 ≤ sizeLine; decide), fun h hh => ?_⟩
  have nDh : D ≠ h := ne_of_none hD hh
  have ha1 : HandAt (upd H1 h (.lst [.ref D, .int 0, .int 16, .int 12])) h D 12 := ⟨L, 0, 16, upd_same, by rw [upd_ne nDh]; exact hD⟩
  generalize upd H1 h (HO.lst [.ref D, .int 0, .int 16, .int 12]) = H1' at ha1
  refine ⟨(by show 7 ≤ sizeLine; decide), fun nl hnl => ?_⟩
  refine ⟨_, rfl, take_do (ha1.same (Same.new hnl)) (by decide) fun H2 t ha2 u2 t0 t1 => ?_⟩
  obtain ⟨n, hn, hat⟩ := pick_int (ms := [1, 1, 1, 2, 2, 3, 4]) t0 (by show t < 7; omega)
  have hnb : 1 ≤ n ∧ n ≤ 4 := by
    simp only [List.mem_cons, List.not_mem_nil, or_false] at hn
    omega
  refine ⟨nl, _, t, .int n, rfl, rfl, SqL.of (ha1.kept hnl u2), hat, ?_⟩
  refine ⟨_, rfl, _, rfl, bandG_do hnb.1 hnb.2 (by decide) (by decide) ha2 fun H3 p ts l mot3 be hlen dp ha3 u3 c3 => ?_⟩
  have hl8 : l.length ≤ 8000 := by omega
  have t1l : 1 ≤ ts.length := by omega
  have t4l : ts.length ≤ 4 := by omega
  have bok := bandB_ok be t1l t4l
  have szB : SizedAll 13000 7 ts := (sized_band be).mono (by omega) (Nat.le_refl _)
  have szT : Sized 13000 8 (.tuple ts) := Sized.tuple szB
  have fitB := szT.fits (by decide) (by decide)
  have kidB := kid_band be
  have noLB := kid_noLAll ts kidB
  refine ⟨_, rfl, .ref p, ts, l, rfl, dp, be, hl8, fun H4 q oc s4 io hol hq => ?_⟩
  have dp4 := dp_same s4 _ _ dp
  have ha4 := ha3.same s4
  have fitO := (oct_sized io hol).fits (by decide) (by decide)
  have dq4 : Dp K H4 (.ref q) (.tuple (oc.map PyData.int)) := .tup (SqT.of hq) dpAll_ints
  obtain ⟨tt, l0, ht0, ht1, be0, hl0, te0⟩ := band_first be t1l
  have bok0 := bandB_ok be0 (Nat.le_refl 1) (by show 1 ≤ 4; decide)
  obtain ⟨xs, hx4, hxs4⟩ : ∃ xs, SqT K H4 p xs ∧ DpAll K H4 xs ts := by
    cases dp4 with
    | tup h1 h2 => exact ⟨_, h1, h2⟩
  refine ⟨_, rfl, .ref p, .tuple ts, rfl, dp4, fitB.1, fitB.2.1, fitB.2.2.1, fitB.2.2.2, ?_⟩
  refine ⟨2, rfl, by decide, by decide, ?_⟩
  refine for_range (lo := 0) (n := 2) (fun i σ H' => ∃ st f, σ = [some (.ref a), some (.ref h), some (.int n), some (.ref p), some (.ref q), some (.str (PyData.tuple ts).shown), st, f, none, none, none] ∧ Same H4 H') ⟨none, none, rfl, fun _ _ e => e⟩ ?_ ?_
  · rintro i σ H5 hi ⟨st, f, rfl, s5⟩
    refine ⟨_, rfl, .ref p, .tuple ts, rfl, dp_same s5 _ _ dp4, fun z => (by rw [bok] at z; cases z), fun _ => ⟨ts, l, rfl, be, hl8, fun H6 q6 oc6 s6 io6 hol6 hq6 => ?_⟩⟩
    have e6 : oc6 = oc := IsOct.uniq io6 io
    subst e6
    have s56 := s5.trans s6
    refine ⟨_, rfl, .ref q6, _, rfl, .tup (SqT.of hq6) dpAll_ints, fitO.1, fitO.2.1, fitO.2.2.1, fitO.2.2.2, ?_⟩
    refine ⟨_, rfl, .ref q, _, rfl, dp_same s56 _ _ dq4, fitO.1, fitO.2.1, fitO.2.2.1, fitO.2.2.2, rfl, _, rfl, ?_⟩
    rw [show decide (V.str (PyData.tuple (oc6.map PyData.int)).shown = V.str (PyData.tuple (oc6.map PyData.int)).shown) = true from decide_eq_true rfl]
    refine iteF ⟨_, rfl, .ref p, .tuple ts, rfl, dp_same s56 _ _ dp4, fitB.1, fitB.2.1, fitB.2.2.1, fitB.2.2.2, _, rfl, rfl, _, rfl, ?_⟩
    rw [show decide (V.str (PyData.tuple ts).shown = V.str (PyData.tuple ts).shown) = true from decide_eq_true rfl]
    refine iteF ?_
    refine ⟨_, rfl, 1, rfl, p, xs, rfl, Same.sqT s56 hx4, fun H7 q7 s7 t7 => ?_⟩
    have s57 := s56.trans s7
    have dp7 : Dp K H7 (.ref q7) (.tuple [tt]) := by
      rw [show cutV xs none (some 1) = xs.take 1 from cut_take xs 1] at t7
      have z := dpAll_take 1 (dpAll_same s57 _ _ hxs4)
      rw [ht1] at z
      exact .tup t7 z
    refine ⟨.ref q7, .tuple [tt], rfl, dp7, fun z => (by rw [bok0] at z; cases z), fun _ => ⟨[tt], l0, rfl, be0, by omega, fun H8 q8 oc8 s8 io8 hol8 hq8 => ?_⟩⟩
    have s58 := s57.trans s8
    have fit8 := (oct_sized io8 hol8).fits (by decide) (by decide)
    refine ⟨.ref q8, _, rfl, .tup (SqT.of hq8) dpAll_ints, fit8.1, fit8.2.1, fit8.2.2.1, fit8.2.2.2, ?_⟩
    refine ⟨_, rfl, 1, rfl, p, xs, rfl, Same.sqT s58 hx4, fun H9 q9 s9 t9 => ?_⟩
    have s59 := s58.trans s9
    have dp9 : Dp K H9 (.ref q9) (.tuple [tt]) := by
      rw [show cutV xs none (some 1) = xs.take 1 from cut_take xs 1] at t9
      have z := dpAll_take 1 (dpAll_same s59 _ _ hxs4)
      rw [ht1] at z
      exact .tup t9 z
    refine ⟨.ref q9, [tt], l0, rfl, dp9, be0, by omega, fun Ha qa oca sa ioa hola hqa => ?_⟩
    have ea : oca = oc8 := IsOct.uniq ioa io8
    subst ea
    refine ⟨.ref qa, _, rfl, .tup (SqT.of hqa) dpAll_ints, fit8.1, fit8.2.1, fit8.2.2.1, fit8.2.2.2, rfl, _, rfl, ?_⟩
    rw [show decide (V.str (PyData.tuple (oca.map PyData.int)).shown = V.str (PyData.tuple (oca.map PyData.int)).shown) = true from decide_eq_true rfl]
    exact iteF ⟨_, _, rfl, s59.trans sa⟩
  · rintro σ H5 ⟨st, f, rfl, s5⟩
    have ha5 := ha4.same s5
    have dp5 := dp_same s5 _ _ dp4
    obtain ⟨L5, at5, rw5, q1, q2⟩ := id ha5
    refine ⟨_, rfl, h, _, 1, 1, rfl, rfl, q1, rfl, ?_⟩
    have hu6 : Upto [h] H5 (upd H5 h (.lst [.ref D, .int 640, .int rw5, .int (mot3 : Int)])) := Upto.put (by simp) q1 (fun z => z)
    have ha6 : HandAt (upd H5 h (.lst [.ref D, .int 640, .int rw5, .int (mot3 : Int)])) h D mot3 := ⟨L5, 640, rw5, upd_same, by rw [upd_ne ha5.ne]; exact q2⟩
    have dp6 := dp_upto hu6 (.tuple ts) (.ref p) (by simp only [noL]; exact noLB) dp5
    refine ⟨4, rfl, by decide, by decide, ?_⟩
    refine for_range (lo := 0) (n := 4) (fun i σ H' => ∃ st f k bt mot', σ = [some (.ref a), some (.ref h), some (.int n), some (.ref p), some (.ref q), some (.str (PyData.tuple ts).shown), st, f, k, bt, none] ∧ HandAt H' h D mot' ∧ Dp K H' (.ref p) (.tuple ts)) ⟨st, f, none, none, mot3, rfl, ha6, dp6⟩ ?_ ?_
    · rintro i σ H7 hi ⟨st7, f7, k7, bt7, mot7, rfl, ha7, dp7⟩
      refine ⟨_, rfl, _, rfl, _, rfl, take_do ha7 (by decide) fun H8 x ha8 u8 x0 x1 => ?_⟩
      have dp8 := dp_upto u8 (.tuple ts) (.ref p) (by simp only [noL]; exact noLB) dp7
      refine spoilt_do dp8 (by simp only [kid]; exact kidB) szT x0 x1 ha8 fun H9 v9 g9 ha9 u9 => ?_
      have dp9 := dp_upto u9 (.tuple ts) (.ref p) (by simp only [noL]; exact noLB) dp8
      refine ⟨fun σ' H' => ∃ (bt : V) (mot' : Nat), σ' = [some (.ref a), some (.ref h), some (.int n), some (.ref p), some (.ref q), some (.str (PyData.tuple ts).shown), st7, f7, some (.int (0 + (i : Int))), some bt, none] ∧ HandAt H' h D mot' ∧ Dp K H' (.ref p) (.tuple ts) ∧ Got K H' 300000 30 bt, ?_, ?_⟩
      · refine ⟨_, rfl, rfl, _, rfl, ?_⟩
        refine ite2 (fun hc => ?_) (fun hc => ⟨v9, mot7, rfl, ha9, dp9, g9⟩)
        refine ⟨_, rfl, _, rfl, graft_do dp9 kidB szB t1l t4l ha9 fun Ha va mota ga haa ua => ?_⟩
        exact ⟨va, mota, rfl, haa, dp_upto ua (.tuple ts) (.ref p) (by simp only [noL]; exact noLB) dp9, ga⟩
      · rintro σ' Ha ⟨bt, mota, rfl, haa, dpa, ga⟩
        obtain ⟨db, dpb, szb⟩ := ga.ex
        refine ⟨(by show 4 ≤ sizeLine; decide), fun cl hcl => ?_⟩
        have sb := Same.new (o := .lst [.int 1, .int 2, .int 3, .int 4]) hcl
        refine ⟨cl, rfl, ⟨_, SqL.of upd_same⟩, fun R hR => ?_⟩
        have hRa : Ha R = none := by
          cases q : Ha R with
          | none => rfl
          | some o => rw [sb _ _ q] at hR; cases hR
        refine lc_list (xs := [.int 1, .int 2, .int 3, .int 4]) (fun j H' => H' R = some (.lst (([1, 2, 3, 4].take j).map fun c => V.bl (bandN c db))) ∧ Same (upd Ha cl (.lst [.int 1, .int 2, .int 3, .int 4])) H') ⟨by rw [upd_same]; rfl, Same.new hR⟩ (fun j H' _ hh => SqL.of (hh.2 _ _ upd_same)) ?_ ?_
        · rintro j x Hc hj ⟨hc1, hc2⟩
          have hjc : ∃ c : Nat, x = .int (c : Int) ∧ 1 ≤ c ∧ c ≤ 4 ∧ [1, 2, 3, 4][j]? = some c := by
            match j, hj with
            | 0, hj => cases hj; exact ⟨1, rfl, by decide, by decide, rfl⟩
            | 1, hj => cases hj; exact ⟨2, rfl, by decide, by decide, rfl⟩
            | 2, hj => cases hj; exact ⟨3, rfl, by decide, by decide, rfl⟩
            | 3, hj => cases hj; exact ⟨4, rfl, by decide, by decide, rfl⟩
            | _ + 4, hj => cases hj
          obtain ⟨c, rfl, c1, c4, hcj⟩ := hjc
          refine ⟨rfl, tYes_do ?_⟩
          refine ⟨_, rfl, _, rfl, bt, db, c, rfl, c1, c4, dp_same (sb.trans hc2) _ _ dpb, fun Hd sd => ⟨_, sd _ _ hc1, ?_, ?_, ?_⟩⟩
          · rw [List.length_map, List.length_take, sizeLine_eq]
            have : ([1, 2, 3, 4] : List Nat).length = 4 := rfl
            omega
          · rw [upd_same, List.take_succ, List.map_append, hcj]
            rfl
          · intro b o e
            rw [upd_ne (ne_of_none e hR)]
            exact sd _ _ (hc2 _ _ e)
        · rintro Hc ⟨hc1, hc2⟩
          have sc := sb.trans hc2
          refine ⟨R, [1, 2, 3, 4].map fun c => bandN c db, rfl, SqL.of (by rw [hc1]; rfl), _, rfl, ?_⟩
          have eb : ([1, 2, 3, 4].map fun c => bandN c db).any id = bandB db := by
            unfold bandB
            rw [List.any_map]
            rfl
          rw [eb]
          have back : ∀ H', Same Ha H' → ∃ st f k bt' mot', [some (V.ref a), some (.ref h), some (.int n), some (.ref p), some (.ref q), some (.str (PyData.tuple ts).shown), st7, f7, some (.int (0 + (i : Int))), some bt, none] = [some (.ref a), some (.ref h), some (.int n), some (.ref p), some (.ref q), some (.str (PyData.tuple ts).shown), st, f, k, bt', none] ∧ HandAt H' h D mot' ∧ Dp K H' (.ref p) (.tuple ts) :=
            fun H' s' => ⟨_, _, _, _, mota, rfl, haa.same s', dp_same s' _ _ dpa⟩
          rcases ff_tt (bandB db) with hb | hb
          · rw [hb]
            refine iteT ⟨_, rfl, bt, db, rfl, dp_same sc _ _ dpb, szb.mono (by decide) (by decide), hb, fun Hd sd => ⟨_, rfl, iteF ?_⟩⟩
            exact back Hd (sc.trans sd)
          · rw [hb]
            exact iteF (iteF (back Hc sc))
    · rintro σ H7 ⟨st7, f7, k7, bt7, mot7, rfl, ha7, dp7⟩
      obtain ⟨xs7, hx7, hxs7⟩ : ∃ xs, SqT K H7 p xs ∧ DpAll K H7 xs ts := by
        cases dp7 with
        | tup h1 h2 => exact ⟨_, h1, h2⟩
      refine ⟨(by show 0 ≤ sizeLine; decide), fun e8 he8 => ?_⟩
      have s8 := Same.new (o := .tup []) he8
      refine ⟨.ref e8, .tuple [], rfl, .tup (SqT.of upd_same) .nil, (Sized.tuple (SizedAll.nil (B := 0) (D := 0))).mono (by decide) (by decide), rfl, fun H9 s9 => ⟨_, rfl, iteT ?_⟩⟩
      have s79 := s8.trans s9
      refine ⟨_, rfl, p, xs7, rfl, .inr (Same.sqT s79 hx7), fun l10 hl10 => ?_⟩
      have s10 := Same.new (o := .lst xs7) hl10
      refine ⟨.ref l10, .list ts, rfl, .lst (SqL.of upd_same) (dpAll_same (s79.trans s10) _ _ hxs7), (Sized.list szB).mono (by decide) (by decide), rfl, fun H11 s11 => ⟨_, rfl, iteT ?_⟩⟩
      have s711 := (s79.trans s10).trans s11
      have hx0 : ∃ v0, xs7[0]? = some v0 ∧ Dp K H11 v0 tt := by
        have hl := dpAll_length hxs7
        have h0 : 0 < xs7.length := by omega
        obtain ⟨d0, hd0, dp0⟩ := dpAll_get hxs7 (List.getElem?_eq_getElem h0)
        rw [ht0] at hd0
        cases hd0
        exact ⟨_, List.getElem?_eq_getElem h0, dp_same s711 _ _ dp0⟩
      obtain ⟨v0, hv0, dpv⟩ := hx0
      refine ⟨_, rfl, p, xs7, 0, v0, rfl, rfl, Same.sqT s711 hx7, atI_nat (j := 0) hv0, v0, tt, rfl, dpv, ?_, tree_no_band te0, fun H12 _ => kq H12⟩
      exact (szB.get ht0).mono (by decide) (by decide)
end
end Bo

/-! The end: the guarded promise of the law at the caller. -/
namespace Bo
open PySem PySem.Spec L2 PyProof.Rows
section
variable {P : Program} {w : World} {K : PySem.W.Frag} {mg mb : Str → Option Value} {k : Nat} {fl sc : Addr} {fd : FuncData} {x : Str} {sp : Sp} {s1 : Shared} {us : List Value} {ns : List Int}
/-- the words of the answer that the caller asks -/
def AnsT (s1 : Shared) : Result → Shared → Prop := fun r s2 => r = .ok (.ret (.bool true)) ∧ OldK s1.heap s2.heap ∧ s2.os = s1.os ∧ AllBare s2.gens
/-- the script's place alone may be tracked, frozen -/
structure Alone (K : PySem.W.Frag) (T : Hp) (sc : Addr) : Prop where
  one : ∀ c u, T c = some u → c = sc ∧ ∃ ob ys, u = .frz ob (.lst ys)
  out : T sc ≠ none → K.lookup sc = none
/-- from a tracked heap with the script alone in it -/
theorem from_alone {T : Hp} (KX : K.In s1.heap) (gl : s1.heap.Ns mainGlobals mg) (bl : s1.heap.Ns builtinsNs mb) (bb : ∀ y : Str, y ≠ "__name__" → mb y = bootBuiltins y) (nolim : s1.heap.NoLimit) (ge : s1.gens = #[])
    (hs : s1.heap.get? sc = some { cls := .type "list", data := .seq us.toArray }) (room : Room k callerA)
    (G : ∀ base : Heap, K.In base → base.Ns mainGlobals mg → FnG P w K mg base CX0 k fl fd [x] sp) (bind : BindsTo s1 fd ⟨[.ref sc], []⟩ [(x, .ref sc)])
    (al : Alone K T sc) (ok : HOk P w T s1.heap) (pr : sp [.ref sc] T (fun v _ => v = .bl true) fun _ _ _ => False) :
    codeAny (model P w) callerA (.call (.ref fl) ⟨[.ref sc], []⟩) (AnsT s1) s1 := by
  have free_of : ∀ (c : Addr) (o : Obj), s1.heap.get? c = some o → (∀ d n, o.data ≠ .seq d n) → T c = none := fun c o e nd => by
    cases q : T c with
    | none => rfl
    | some u =>
      have z := (al.one c u q).1
      rw [z, hs] at e
      have z2 := Option.some.inj e
      rw [← z2] at nd
      exact absurd rfl (nd us.toArray _)
  have ns_of : ∀ (c : Addr) (m : Str → Option Value), s1.heap.Ns c m → (hidT s1.heap T).Ns c m := fun c m z => by
    obtain ⟨o, es, ep, e1, e2, e3⟩ := z
    exact ⟨o, es, ep, hidT_get e1 (free_of c o e1 fun d n q => by rw [e2] at q; cases q), e2, e3⟩
  have inK : K.In (hidT s1.heap T) := fun c o e => hidT_get (KX c o e) (by
    cases q : T c with
    | none => rfl
    | some u =>
      have z := (al.one c u q).1
      have z2 := al.out (by rw [← z, q]; exact fun r => nomatch r)
      rw [z, z2] at e
      cases e)
  have md : Mod K mg (hidT s1.heap T) := by
    obtain ⟨ml, l1, l2⟩ := nolim
    exact ⟨inK, ns_of _ _ gl, ⟨mb, ns_of _ _ bl, bb⟩, ⟨ml, ns_of _ _ l1, l2⟩⟩
  have en : Env0 P w K mg (hidT s1.heap T) callerA [] s1 T := by
    refine ⟨rfl, md, fun c o e => of_hidT e, Nat.le_of_eq (hidT_size _ _), True.intro, fun c hc => ?_, ok, AllBare.of_eq ge⟩
    exact absurd (show c ∈ ([] : List Addr) from hc) (by simp)
  have go := (G _ inK (ns_of _ _ gl)).go (args := ⟨[.ref sc], []⟩) (us := [.ref sc]) (vs := [.ref sc]) room rfl en bind (.cons rfl .nil) pr
  refine codeAny_mono go fun r s2 q => ?_
  cases r with
  | error er => exact (q : False).elim
  | ok f =>
    cases f with
    | next => exact (q : False).elim
    | brk => exact (q : False).elim
    | cont => exact (q : False).elim
    | ret y =>
      obtain ⟨v, T2, q1, q2, q3, q4, q5, q6⟩ := q
      have q6 : v = .bl true := q6
      subst q6
      have q5 : y = Value.bool true := q5
      subst q5
      refine ⟨rfl, OldK.of_keep fun c o e => ?_, q1, q2⟩
      cases qq : T c with
      | none =>
        refine q3.keep c o e qq (fun z => ?_) (by simp)
        exact absurd (show c ∈ ([] : List Addr) from z) (by simp)
      | some u =>
        obtain ⟨_, ob, ys, z⟩ := al.one c u qq
        rw [z] at qq
        have a1 := (ok c _ qq).1
        have a2 := (q4 c _ (q3.frzs c ob _ qq)).1
        rw [e] at a1
        cases a1
        exact a2
/-- the law's def, called at its script -/
theorem law_guarded (KX : K.In s1.heap) (gl : s1.heap.Ns mainGlobals mg) (bl : s1.heap.Ns builtinsNs mb) (bb : ∀ y : Str, y ≠ "__name__" → mb y = bootBuiltins y) (nolim : s1.heap.NoLimit) (ge : s1.gens = #[])
    (hs : s1.heap.get? sc = some { cls := .type "list", data := .seq us.toArray }) (isI : IntsAre us ns) (len : ns.length ≤ sizeLine) (room : Room k callerA)
    (G : ∀ base : Heap, K.In base → base.Ns mainGlobals mg → FnG P w K mg base CX0 k fl fd [x] sp) (bind : BindsTo s1 fd ⟨[.ref sc], []⟩ [(x, .ref sc)])
    (pr : ∀ T : Hp, SqL K T sc (ns.map V.int) → sp [.ref sc] T (fun v _ => v = .bl true) fun _ _ _ => False) :
    codeAny (model P w) callerA (.call (.ref fl) ⟨[.ref sc], []⟩) (AnsT s1) s1 := by
  have rv := vals_ints isI
  have ll := isI.length
  cases hk : K.lookup sc with
  | some o =>
    have e := KX sc o hk
    rw [hs] at e
    have e2 := Option.some.inj e
    subst e2
    have sq : SqL K (fun _ => none) sc (ns.map V.int) := .inr ⟨_, us.toArray, _, hk, rfl, rfl, rfl, by rw [List.size_toArray, ll]; exact len, by simpa using rv⟩
    exact from_alone (T := fun _ => none) KX gl bl bb nolim ge hs room G bind ⟨fun c u z => (nomatch z), fun z => absurd rfl z⟩ (fun c u z => (nomatch z)) (pr _ sq)
  | none =>
    let T : Hp := fun c => if c = sc then some (.frz { cls := .type "list", data := .seq us.toArray } (.lst (ns.map V.int))) else none
    have at_ : T sc = some (.frz { cls := .type "list", data := .seq us.toArray } (.lst (ns.map V.int))) := if_pos rfl
    have only : ∀ c u, T c = some u → c = sc ∧ u = .frz { cls := .type "list", data := .seq us.toArray } (.lst (ns.map V.int)) := fun c u z => by
      by_cases hc : c = sc
      · rw [hc, at_] at z
        exact ⟨hc, (Option.some.inj z).symm⟩
      · have z2 : T c = none := if_neg hc
        rw [z2] at z
        cases z
    refine from_alone (T := T) KX gl bl bb nolim ge hs room G bind ⟨fun c u z => ⟨(only c u z).1, _, _, (only c u z).2⟩, fun _ => hk⟩ (fun c u z => ?_) (pr T (.inl (.inr ⟨_, at_⟩)))
    obtain ⟨z1, z2⟩ := only c u z
    subst z1 z2
    exact ⟨hs, by rw [List.length_map]; exact len, us, _, rv, hs⟩
end
end Bo

/-! All together. -/
namespace Bo
open PySem PySem.Spec L2 PyProof.Rows
section
variable {w : World} {K : PySem.W.Frag} {mg : Str → Option Value} {base : Heap}
theorem law_all {fd : FuncData} (F : FnP K "law" "law" s_law (He.ga K "law") fd) (T : Tx K mg) : FnG pr w K mg base CX0 13 (He.ga K "law") fd ["_law_script"] (spLaw K) := by
  have G := program (w := w) (base := base) T
  have D_l_draws := ok_l_draws (w := w) (base := base) T
  have D_l_take := ok_l_take (w := w) (base := base) T
  have D_l_level := ok_l_level T D_l_take
  have D_l_shift := ok_l_shift T D_l_take
  have D_l_square := ok_l_square T D_l_take D_l_level
  have D_l_leaf := ok_l_leaf T D_l_take D_l_shift D_l_square
  have D_l_tree := ok_l_tree T D_l_take D_l_leaf
  have D_l_band := ok_l_band T D_l_tree
  have D_l_coder := ok_l_coder (w := w) (base := base) T
  have D_l_narrow := ok_l_narrow (w := w) (base := base) T
  have D_l_put := ok_l_put T D_l_narrow
  have D_l_octets := ok_l_octets (w := w) (base := base) T
  have D_l_figures := ok_l_figures (w := w) (base := base) T
  have D_l_put_number := ok_l_put_number T D_l_figures D_l_put
  have D_l_unsigned := ok_l_unsigned (w := w) (base := base) T
  have D_l_word := ok_l_word (w := w) (base := base) T
  have D_l_is_empty := ok_l_is_empty (w := w) (base := base) T
  have D_l_put_leaf := ok_l_put_leaf T D_l_put_number D_l_unsigned D_l_word D_l_is_empty D_l_put
  have D_l_put_tree := ok_l_put_tree T D_l_put_leaf D_l_put
  have D_l_written := ok_l_written T D_l_coder D_l_put_tree D_l_octets
  have D_l_is_integer := ok_l_is_integer (w := w) (base := base) T
  have D_l_is_leaf := ok_l_is_leaf T D_l_is_integer
  have D_l_is_tree := ok_l_is_tree T D_l_is_leaf
  have D_l_is_band := ok_l_is_band T D_l_is_tree
  have D_l_wrong := ok_l_wrong T D_l_take D_l_is_integer
  have D_l_spoilt := ok_l_spoilt T D_l_take D_l_wrong
  have D_l_grafted := ok_l_grafted T D_l_take D_l_leaf
  have D_l_refused := ok_l_refused T G
  exact ok_law F T G D_l_draws D_l_take D_l_band D_l_written D_l_spoilt D_l_grafted D_l_is_band D_l_refused
end
end Bo
open PySem PySem.W
open PySem.Calls PyProof.Rows
theorem PySem.Challenge.cw_picturetide_k17_whole_band_octets_holds : PySem.Challenge.rw_picturetide_k17_whole_band_octets.Holds := by
  w_on; o_law
  refine HandSHeadRun.head_any (r := Bo.Rw) (q := view Bo.Rw.prog [74]) (H := Bo.hookM) (ob := Bo.obT) (M := 6000) (loose := Bo.loose) (d := HandSHeadRun.topDef Bo.Rw.prog 74) (kwd := []) Bo.obT_eq
    (by kernel_rfl) (fun s => by kernel_rfl) Bo.hdRun (by kernel_rfl) (by kernel_rfl) (by kernel_rfl) (by rfl) (by first | assumption | decide +kernel) (by decide +kernel) ⟨rfl, rfl, rfl, rfl, rfl, by decide +kernel⟩ ?hw ?hc
  case hw => w_witness2
  case hc =>
    refine Att.attach_call (l := PySem.Challenge.rw_picturetide_k17_whole_band_octets) (n := 63) rfl (by kernel_rfl) fun w s₀ s₁ mg mb fa o pm cd doc sc us ns GG Y ho hd hcd hmg hobj hints hlen hgens => ?_
    obtain ⟨K, KX, c⟩ := Y
    have T := Bo.tx_of KX GG.T.g c
    have hmg2 : mg ("law" : PySem.Str) = some (.ref fa) := by
      have e : (HandSHeadRun.topDef Bo.Rw.prog 74).name = ("law" : PySem.Str) := by kernel_rfl
      rw [← e]
      exact hmg
    have e := hmg2.symm.trans (Bo.g_law T)
    have e2 : fa = He.ga K "law" := by
      have z := Option.some.inj e
      injection z
    subst e2
    obtain ⟨fd, F, b⟩ := Bo.x_law T
    have bind : BindsTo s₁ fd ⟨[.ref sc], []⟩ [(("_law_script" : PySem.Str), .ref sc)] := b s₁ [.ref sc] KX rfl
    exact Bo.law_guarded KX GG.T.g GG.T.b GG.T.builtins GG.T.nolimit hgens hobj hints (Nat.le_trans hlen (by decide)) ⟨rfl, by decide, by decide⟩ (fun base hb hm => Bo.law_all F T) bind
      (fun H hS => ⟨sc, ns, rfl, hS, hlen, fun _ => rfl⟩)

