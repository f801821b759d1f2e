import PyProof.Rows.All
import Wide.All
import OpenK.AllK
import Wide.FinOn
import HandS.ForMost
import HandS.Wide
import HandS.WideBits
import HandS.IsInst
import HandS.Conv
import HandS.Zip
import HandS.Walk
import PySem.Challenge.RW_bendproof_k42_rows_told
set_option Elab.async false
set_option autoImplicit false
set_option linter.all false
set_option maxRecDepth 100000

/-! BMath -/
section
set_option maxHeartbeats 4000000
namespace BP
abbrev Rt := Int × Int
def mk (t m : Int) : Rt := (t / (Int.gcd t m : Int), m / (Int.gcd t m : Int))
def padd (a b : Rt) : Rt := mk (a.1 * b.2 + b.1 * a.2) (a.2 * b.2)
def pmul (a b : Rt) : Rt := mk (a.1 * b.1) (a.2 * b.2)
def neg (a : Rt) : Rt := (-a.1, a.2)
/-- in lowest terms, its bottom divides E, its size is at most N -/
structure Bd (E N : Nat) (r : Rt) : Prop where
  pos : 0 < r.2
  cop : Int.gcd r.1 r.2 = 1
  dvd : r.2.natAbs ∣ E
  le : r.1.natAbs ≤ N * r.2.natAbs
/-- what the program's sums and products take -/
structure Fit (r : Rt) : Prop where
  pos : 0 < r.2
  bot : r.2.natAbs < 2 ^ 4000
  top : r.1.natAbs < 2 ^ 8000

theorem gcd_pos {t m : Int} (h : 0 < m) : 0 < Int.gcd t m := Int.gcd_pos_of_ne_zero_right _ (by omega)
theorem mk_one (t : Int) : mk t 1 = (t, 1) := by
  unfold mk
  rw [Int.gcd_one_right]
  simp
theorem mk_cop {t m : Int} (h : Int.gcd t m = 1) : mk t m = (t, m) := by
  unfold mk
  rw [h]
  simp
theorem mk_pos {t m : Int} (h : 0 < m) : 0 < (mk t m).2 := by
  have g := gcd_pos (t := t) h
  have d : (Int.gcd t m : Int) ∣ m := Int.gcd_dvd_right ..
  exact Int.ediv_pos_of_pos_of_dvd h (by omega) d
theorem mk_gcd {t m : Int} (h : 0 < m) : Int.gcd (mk t m).1 (mk t m).2 = 1 := by
  have g := gcd_pos (t := t) h
  exact Int.gcd_ediv_gcd_ediv_gcd g
theorem mk_mul {t m : Int} : t = (mk t m).1 * (Int.gcd t m : Int) ∧ m = (mk t m).2 * (Int.gcd t m : Int) := by
  constructor
  · exact (Int.ediv_mul_cancel (Int.gcd_dvd_left ..)).symm
  · exact (Int.ediv_mul_cancel (Int.gcd_dvd_right ..)).symm
theorem mk_bd {E N : Nat} {t m : Int} (h : 0 < m) (hd : m.natAbs ∣ E * t.natAbs) (hl : t.natAbs ≤ N * m.natAbs) : Bd E N (mk t m) := by
  have g := gcd_pos (t := t) h
  obtain ⟨e1, e2⟩ := mk_mul (t := t) (m := m)
  refine ⟨mk_pos h, mk_gcd h, ?_, ?_⟩
  · have hd2 : m.natAbs ∣ E * m.natAbs := Nat.dvd_mul_left ..
    have hd3 : m.natAbs ∣ Nat.gcd (E * t.natAbs) (E * m.natAbs) := Nat.dvd_gcd hd hd2
    rw [Nat.gcd_mul_left] at hd3
    have eg : Nat.gcd t.natAbs m.natAbs = Int.gcd t m := rfl
    rw [eg] at hd3
    have em : m.natAbs = (mk t m).2.natAbs * Int.gcd t m := by
      have := congrArg Int.natAbs e2
      rw [Int.natAbs_mul] at this
      simpa using this
    rw [em] at hd3
    exact Nat.dvd_of_mul_dvd_mul_right g hd3
  · have em : m.natAbs = (mk t m).2.natAbs * Int.gcd t m := by
      have := congrArg Int.natAbs e2
      rw [Int.natAbs_mul] at this
      simpa using this
    have et : t.natAbs = (mk t m).1.natAbs * Int.gcd t m := by
      have := congrArg Int.natAbs e1
      rw [Int.natAbs_mul] at this
      simpa using this
    rw [em, et, ← Nat.mul_assoc] at hl
    exact Nat.le_of_mul_le_mul_right hl g
theorem Bd.mono {E N E' N' : Nat} {r : Rt} (h : Bd E N r) (he : E ∣ E') (hn : N ≤ N') : Bd E' N' r :=
  ⟨h.pos, h.cop, Nat.dvd_trans h.dvd he, Nat.le_trans h.le (Nat.mul_le_mul_right _ hn)⟩
theorem Bd.neg {E N : Nat} {r : Rt} (h : Bd E N r) : Bd E N (neg r) :=
  ⟨h.pos, by unfold BP.neg; simpa using h.cop, h.dvd, by unfold BP.neg; simpa using h.le⟩
theorem Bd.add {E N N' : Nat} {a b : Rt} (h : Bd E N a) (h' : Bd E N' b) : Bd E (N + N') (padd a b) := by
  unfold padd
  refine mk_bd (Int.mul_pos h.pos h'.pos) ?_ ?_
  · obtain ⟨x, ex⟩ := h.dvd
    obtain ⟨y, ey⟩ := h'.dvd
    have ha : (a.2.natAbs : Int) = a.2 := Int.natAbs_of_nonneg (Int.le_of_lt h.pos)
    have hb : (b.2.natAbs : Int) = b.2 := Int.natAbs_of_nonneg (Int.le_of_lt h'.pos)
    have k : (a.2 * b.2) ∣ (E : Int) * (a.1 * b.2 + b.1 * a.2) := by
      refine ⟨(x : Int) * a.1 + (y : Int) * b.1, ?_⟩
      have e1 : (E : Int) = a.2 * x := by rw [ex, Int.natCast_mul, ha]
      have e2 : (E : Int) = b.2 * y := by rw [ey, Int.natCast_mul, hb]
      rw [Int.mul_add, Int.mul_add]
      have p1 : (E : Int) * (a.1 * b.2) = a.2 * b.2 * (x * a.1) := by rw [e1]; ac_rfl
      have p2 : (E : Int) * (b.1 * a.2) = a.2 * b.2 * (y * b.1) := by rw [e2]; ac_rfl
      rw [p1, p2]
    have k2 := Int.natAbs_dvd_natAbs.mpr k
    rw [Int.natAbs_mul (E : Int)] at k2
    simpa using k2
  · have q1 : (a.1 * b.2).natAbs ≤ N * (a.2 * b.2).natAbs := by
      rw [Int.natAbs_mul, Int.natAbs_mul, ← Nat.mul_assoc]
      exact Nat.mul_le_mul_right _ h.le
    have q2 : (b.1 * a.2).natAbs ≤ N' * (a.2 * b.2).natAbs := by
      rw [Int.natAbs_mul, Int.natAbs_mul, Nat.mul_comm a.2.natAbs, ← Nat.mul_assoc]
      exact Nat.mul_le_mul_right _ h'.le
    rw [Nat.add_mul]
    exact Nat.le_trans (Int.natAbs_add_le ..) (Nat.add_le_add q1 q2)
theorem Bd.mul {E N E' N' : Nat} {a b : Rt} (h : Bd E N a) (h' : Bd E' N' b) : Bd (E * E') (N * N') (pmul a b) := by
  unfold pmul
  refine mk_bd (Int.mul_pos h.pos h'.pos) ?_ ?_
  · rw [Int.natAbs_mul]
    exact Nat.dvd_trans (Nat.mul_dvd_mul h.dvd h'.dvd) (Nat.dvd_mul_right ..)
  · rw [Int.natAbs_mul, Int.natAbs_mul]
    have := Nat.mul_le_mul h.le h'.le
    rw [Nat.mul_mul_mul_comm] at this
    exact this
theorem Bd.fit {E N : Nat} {r : Rt} (h : Bd E N r) (hE : 0 < E) (h1 : E < 2 ^ 4000) (h2 : N * E < 2 ^ 8000) : Fit r := by
  have q : r.2.natAbs ≤ E := Nat.le_of_dvd hE h.dvd
  exact ⟨h.pos, Nat.lt_of_le_of_lt q h1, Nat.lt_of_le_of_lt (Nat.le_trans h.le (Nat.mul_le_mul_left _ q)) h2⟩

/-! ### the laws of the reckoning -/
theorem padd_comm (a b : Rt) : padd a b = padd b a := by
  unfold padd
  rw [Int.add_comm (a.1 * b.2), Int.mul_comm a.2]
theorem pmul_comm (a b : Rt) : pmul a b = pmul b a := by
  unfold pmul
  rw [Int.mul_comm a.1, Int.mul_comm a.2]
theorem neg_neg (a : Rt) : neg (neg a) = a := by
  unfold neg
  simp
theorem pmul_down {E N : Nat} {a : Rt} (h : Bd E N a) : pmul a (-1, 1) = neg a := by
  unfold pmul neg
  have e : Int.gcd (a.1 * -1) (a.2 * 1) = 1 := by
    have := h.cop
    simpa using this
  show mk (a.1 * -1) (a.2 * 1) = _
  rw [mk_cop e]
  simp
theorem down_pmul {E N : Nat} {a : Rt} (h : Bd E N a) : pmul (-1, 1) a = neg a := by rw [pmul_comm, pmul_down h]

/-! ### the loops that find the greatest divisor -/
theorem gcd_step {a b : Int} (ha : 0 ≤ a) (hb : 0 < b) : Int.gcd b (a % b) = Int.gcd a b := by
  obtain ⟨x, rfl⟩ := Int.eq_ofNat_of_zero_le ha
  obtain ⟨y, rfl⟩ := Int.eq_ofNat_of_zero_le (Int.le_of_lt hb)
  show Nat.gcd y (x % y) = Nat.gcd x y
  rw [Nat.gcd_comm x, Nat.gcd_rec y x, Nat.gcd_comm]
/-! ### levels: a place's figures grow with its number -/
def DD : Nat := 21000000000
def MM : Nat := 2 ^ 66
def SS : Nat := 2 ^ 63
/-- a share, a constant, a side -/
abbrev Sh (r : Rt) : Prop := Bd DD SS r
abbrev Lv (n : Nat) (r : Rt) : Prop := Bd (DD ^ n) (MM ^ n) r
theorem DD_le : DD ≤ 2 ^ 35 := by decide
theorem Lv.mono {n m : Nat} {r : Rt} (h : Lv n r) (hm : n ≤ m) : Lv m r :=
  Bd.mono h (Nat.pow_dvd_pow _ hm) (Nat.pow_le_pow_right (by decide) hm)
theorem Lv.of {r : Rt} (h : Sh r) : Lv 1 r := by
  refine Bd.mono h ?_ ?_
  · rw [Nat.pow_one]
    exact Nat.dvd_refl _
  · decide
theorem pow_fit {n : Nat} (hn : n ≤ 60) : 0 < DD ^ n ∧ DD ^ n < 2 ^ 4000 ∧ MM ^ n * DD ^ n < 2 ^ 8000 := by
  have h1 : DD ^ n ≤ 2 ^ (35 * n) := by
    rw [Nat.pow_mul]
    exact Nat.pow_le_pow_left DD_le n
  have h2 : MM ^ n = 2 ^ (66 * n) := by
    unfold MM
    rw [← Nat.pow_mul]
  refine ⟨Nat.pow_pos (by decide), Nat.lt_of_le_of_lt h1 (Nat.pow_lt_pow_right (by decide) (by omega)), ?_⟩
  refine Nat.lt_of_le_of_lt (Nat.mul_le_mul (Nat.le_of_eq h2) h1) ?_
  rw [← Nat.pow_add]
  exact Nat.pow_lt_pow_right (by decide) (by omega)
theorem Lv.fit {n : Nat} {r : Rt} (h : Lv n r) (hn : n ≤ 60) : Fit r := by
  obtain ⟨a, b, c⟩ := pow_fit hn
  exact Bd.fit h a b c
theorem Sh.fit {r : Rt} (h : Sh r) : Fit r := (Lv.of h).fit (by decide)
theorem Lv.add {n : Nat} {a b : Rt} (h : Lv n a) (h' : Lv n b) : Lv (n + 1) (padd a b) := by
  refine Bd.mono (Bd.add h h') (Nat.pow_dvd_pow _ (Nat.le_succ n)) ?_
  rw [Nat.pow_succ]
  have : 2 ≤ MM := by decide
  have := Nat.mul_le_mul_left (MM ^ n) this
  omega
theorem Lv.mul {n m : Nat} {a b : Rt} (h : Lv n a) (h' : Lv m b) : Lv (n + m) (pmul a b) := by
  have := Bd.mul h h'
  rw [← Nat.pow_add, ← Nat.pow_add] at this
  exact this
theorem Lv.neg {n : Nat} {a : Rt} (h : Lv n a) : Lv n (neg a) := Bd.neg h
theorem Lv.zero (n : Nat) : Lv n (0, 1) := ⟨by decide, by decide, by simp, by simp⟩
theorem Lv.one (n : Nat) : Lv n (1, 1) := by
  refine ⟨by decide, by decide, by simp, ?_⟩
  have : 0 < MM ^ n := Nat.pow_pos (by decide)
  simp
  omega
theorem Lv.down (n : Nat) : Lv n (-1, 1) := by
  refine ⟨by decide, by decide, by simp, ?_⟩
  have : 0 < MM ^ n := Nat.pow_pos (by decide)
  simp
  omega
/-- a sum on its way: k parts -/
abbrev Pt (n k : Nat) (r : Rt) : Prop := Bd (DD ^ (n + 1)) (k * (SS * MM ^ n)) r
theorem Pt.of {n : Nat} {c : Rt} (h : Sh c) : Pt n 1 c := by
  refine Bd.mono h ?_ ?_
  · rw [Nat.pow_succ]
    exact Nat.dvd_mul_left ..
  · have : 0 < MM ^ n := Nat.pow_pos (by decide)
    rw [Nat.one_mul]
    exact Nat.le_mul_of_pos_right _ this
theorem Pt.zero (n : Nat) : Pt n 1 (0, 1) := ⟨by decide, by decide, by simp, by simp⟩
theorem Pt.step {n k : Nat} {a s x : Rt} (h : Pt n k a) (hs : Sh s) (hx : Lv n x) : Pt n (k + 1) (padd a (pmul s x)) := by
  have hm := Bd.mul hs hx
  have e : DD * DD ^ n = DD ^ (n + 1) := by rw [Nat.pow_succ, Nat.mul_comm]
  rw [e] at hm
  have := Bd.add h hm
  refine Bd.mono this (Nat.dvd_refl _) ?_
  rw [Nat.add_mul, Nat.one_mul]
  exact Nat.le_refl _
theorem Pt.lv {n k : Nat} {a : Rt} (h : Pt n k a) (hk : k ≤ 8) : Lv (n + 1) a := by
  refine Bd.mono h (Nat.dvd_refl _) ?_
  rw [Nat.pow_succ, ← Nat.mul_assoc, Nat.mul_comm (MM ^ n)]
  refine Nat.mul_le_mul_right _ ?_
  have : k * SS ≤ 8 * SS := Nat.mul_le_mul_right _ hk
  exact Nat.le_trans this (by decide)
theorem share_lv {n : Nat} {s x : Rt} (hs : Sh s) (hx : Lv n x) : Lv (n + 1) (pmul s x) := by
  have := Lv.mul (Lv.of hs) hx
  rw [Nat.add_comm] at this
  exact this
theorem share_lv' {n : Nat} {s x : Rt} (hs : Sh s) (hx : Lv n x) : Lv (n + 1) (pmul x s) := Lv.mul hx (Lv.of hs)
end BP
end


/-! BNet -/
section
set_option maxHeartbeats 4000000
namespace BP
/-! ### nets, their spans, their forms: plain mirrors -/
inductive U where
  | bend (p : Nat)
  | sum (c : Rt) (ts : List (Nat × Rt))
inductive C3 where
  | on | off | opn
  deriving DecidableEq
def U.isBend : U → Bool
  | .bend _ => true
  | .sum _ _ => false
def U.src : U → Nat
  | .bend p => p
  | .sum _ _ => 0
structure UOk (n : Nat) (u : U) : Prop where
  bend : ∀ p, u = .bend p → p < n
  con : ∀ c ts, u = .sum c ts → Sh c
  few : ∀ c ts, u = .sum c ts → ts.length ≤ 3
  ok : ∀ c ts, u = .sum c ts → ∀ t ∈ ts, t.1 < n ∧ Sh t.2
  nd : ∀ c ts, u = .sum c ts → (ts.map (·.1)).Nodup
abbrev z0 : Rt := (0, 1)
abbrev z1 : Rt := (1, 1)
def dflE : Rt × Rt := (z0, z0)
def swapE (s : Rt) (e : Rt × Rt) : Rt × Rt := if s.1 < 0 then (e.2, e.1) else e
def spanTerm (known : List (Rt × Rt)) (acc : Rt × Rt) (t : Nat × Rt) : Rt × Rt :=
  (padd acc.1 (pmul t.2 (swapE t.2 (known.getD t.1 dflE)).1), padd acc.2 (pmul t.2 (swapE t.2 (known.getD t.1 dflE)).2))
def spanSum (known : List (Rt × Rt)) (c : Rt) (ts : List (Nat × Rt)) : Rt × Rt := ts.foldl (spanTerm known) (c, c)
def relu (a : Rt) : Rt := if a.1 < 0 then z0 else a
def spanOf (known : List (Rt × Rt)) : U → Rt × Rt
  | .bend p => (relu (known.getD p dflE).1, relu (known.getD p dflE).2)
  | .sum c ts => spanSum known c ts
def spansF (sides : List (Rt × Rt)) (us : List U) : List (Rt × Rt) := us.foldl (fun k u => k ++ [spanOf k u]) sides

def still (m : Nat) : List Rt := List.replicate (1 + m) z0
def lone (k m : Nat) : List Rt := (still m).set (1 + k) z1
def addF (a b : List Rt) : List Rt := List.zipWith padd a b
def scaleF (f : List Rt) (b : Rt) : List Rt := f.map fun x => pmul x b
def formTerm (known : List (List Rt)) (acc : List Rt) (t : Nat × Rt) : List Rt := addF acc (scaleF (known.getD t.1 []) t.2)
def sumForm (known : List (List Rt)) (m : Nat) (c : Rt) (ts : List (Nat × Rt)) : List Rt := ts.foldl (formTerm known) ((still m).set 0 c)
structure FS where
  known : List (List Rt)
  bent : Nat
  opened : Nat
def fStep (cs : List C3) (m : Nat) (s : FS) : U → FS
  | .sum c ts => ⟨s.known ++ [sumForm s.known m c ts], s.bent, s.opened⟩
  | .bend p => match cs.getD s.bent .off with
    | .on => ⟨s.known ++ [s.known.getD p []], s.bent + 1, s.opened⟩
    | .off => ⟨s.known ++ [still m], s.bent + 1, s.opened⟩
    | .opn => ⟨s.known ++ [lone s.opened m], s.bent + 1, s.opened + 1⟩
def opens (cs : List C3) : Nat := cs.count .opn
def formsS (many : Nat) (us : List U) (cs : List C3) : FS := us.foldl (fStep cs (many + opens cs)) ⟨(List.range many).map fun k => lone k (many + opens cs), 0, many⟩
def formsF (many : Nat) (us : List U) (cs : List C3) : List (List Rt) := (formsS many us cs).known
def bendsN : List U → Nat
  | [] => 0
  | u :: r => (if u.isBend then 1 else 0) + bendsN r
/-- the bends' places, the first unit's place being n -/
def bendsAt (n : Nat) : List U → List Nat
  | [] => []
  | u :: r => if u.isBend then n :: bendsAt (n + 1) r else bendsAt (n + 1) r

/-! ### rows -/
abbrev Rw := List Rt × Rt
def naF (f : List Rt) (n : Rt) : Rw := (f.tail, padd n (neg (f.headD z0)))
def nbF (f : List Rt) (n : Rt) : Rw := (f.tail.map neg, padd (f.headD z0) (neg n))
def downF (f : List Rt) : List Rt := scaleF f (-1, 1)
def thirdF (e : Rt × Rt) (src own : List Rt) : Rw :=
  if 0 ≤ e.1.1 then naF (addF own (downF src)) z0
  else if e.2.1 ≤ 0 then naF own z0
  else naF (addF (scaleF own (padd e.2 (neg e.1))) (scaleF src (neg e.2))) (neg (pmul e.2 e.1))
def bendRows (st : C3) (e : Rt × Rt) (src own : List Rt) : List Rw := match st with
  | .on => [nbF src z0]
  | .off => [naF src z0]
  | .opn => [nbF own z0, naF (addF src (downF own)) z0, thirdF e src own]
def inRows (S : List (Rt × Rt)) (F : List (List Rt)) (k : Nat) : List Rw := [naF (F.getD k []) (S.getD k dflE).2, nbF (F.getD k []) (S.getD k dflE).1]
def srcAt (many : Nat) (us : List U) (pl : Nat) : Nat := (us.getD (pl - many) (.bend 0)).src
def rowsOfBend (many : Nat) (us : List U) (S : List (Rt × Rt)) (F : List (List Rt)) (q : C3 × Nat) : List Rw :=
  bendRows q.1 (S.getD (srcAt many us q.2) dflE) (F.getD (srcAt many us q.2) []) (F.getD q.2 [])
def rowsF (many : Nat) (us : List U) (cs : List C3) (S : List (Rt × Rt)) (F : List (List Rt)) : List Rw :=
  (List.range many).flatMap (inRows S F) ++ (cs.zip (bendsAt many us)).flatMap (rowsOfBend many us S F)

/-! ### what the law writes instead -/
theorem neg_form {n : Nat} : ∀ {f : List Rt}, (∀ r ∈ f, Lv n r) → downF f = f.map neg
  | [], _ => rfl
  | a :: r, h => by
    have ih := neg_form (f := r) fun x hx => h x (List.mem_cons_of_mem _ hx)
    unfold downF scaleF at ih ⊢
    rw [List.map_cons, List.map_cons, ih, pmul_down (h a List.mem_cons_self)]
theorem headD_map {f : List Rt} : (f.map neg).headD z0 = neg (f.headD z0) := by
  cases f with
  | nil => rfl
  | cons a r => rfl
/-- not below, as the law writes it -/
theorem nb_law {n : Nat} {f : List Rt} (h : ∀ r ∈ f, Lv n r) (x : Rt) : naF (downF f) (neg x) = nbF f x := by
  rw [neg_form h]
  unfold naF nbF
  rw [headD_map, neg_neg, ← List.map_tail, padd_comm]
theorem neg_z0 : neg z0 = z0 := by decide
theorem neg_z1 : neg z1 = (-1, 1) := by decide

/-! ### bounds of the folds -/
theorem zip_all {α β γ : Type} {f : α → β → γ} {P : α → Prop} {Q : β → Prop} {R : γ → Prop} (h : ∀ a b, P a → Q b → R (f a b)) : ∀ {xs : List α} {ys : List β}, (∀ a ∈ xs, P a) → (∀ b ∈ ys, Q b) → ∀ r ∈ List.zipWith f xs ys, R r
  | [], _, _, _, r, hr => by simp at hr
  | _ :: _, [], _, _, r, hr => by simp at hr
  | a :: xs, b :: ys, h1, h2, r, hr => by
    rw [List.zipWith_cons_cons] at hr
    rcases List.mem_cons.mp hr with e | hr
    · rw [e]
      exact h a b (h1 a List.mem_cons_self) (h2 b List.mem_cons_self)
    · exact zip_all h (fun a m => h1 a (List.mem_cons_of_mem _ m)) (fun b m => h2 b (List.mem_cons_of_mem _ m)) r hr
theorem getD_mem {α : Type} {l : List α} {i : Nat} {d : α} (h : i < l.length) : l.getD i d ∈ l := by
  rw [List.getD_eq_getElem?_getD, List.getElem?_eq_getElem h]
  exact List.getElem_mem h
theorem getD_of {α : Type} {l : List α} {i : Nat} {d x : α} (h : l[i]? = some x) : l.getD i d = x := by
  rw [List.getD_eq_getElem?_getD, h]
  rfl
theorem still_len (m : Nat) : (still m).length = 1 + m := by simp [still]
theorem still_mem {m : Nat} {r : Rt} (h : r ∈ still m) : r = z0 := (List.mem_replicate.mp h).2
theorem lone_len (k m : Nat) : (lone k m).length = 1 + m := by simp [lone, still]
theorem lone_mem {k m : Nat} {r : Rt} (h : r ∈ lone k m) : r = z0 ∨ r = z1 := by
  rcases List.mem_or_eq_of_mem_set h with h | h
  · exact .inl (still_mem h)
  · exact .inr h
theorem lone_lv {n k m : Nat} {r : Rt} (h : r ∈ lone k m) : Lv n r := by
  rcases lone_mem h with e | e
  · rw [e]
    exact Lv.zero n
  · rw [e]
    exact Lv.one n
theorem still_lv {n m : Nat} {r : Rt} (h : r ∈ still m) : Lv n r := by
  rw [still_mem h]
  exact Lv.zero n
/-- forms over m variables at level n -/
abbrev KF (n m : Nat) (known : List (List Rt)) : Prop := ∀ f ∈ known, f.length = 1 + m ∧ ∀ r ∈ f, Lv n r
abbrev KS (n : Nat) (known : List (Rt × Rt)) : Prop := ∀ e ∈ known, Lv n e.1 ∧ Lv n e.2
abbrev TOk (n : Nat) (ts : List (Nat × Rt)) : Prop := ∀ t ∈ ts, t.1 < n ∧ Sh t.2
theorem sumForm_fold {n m : Nat} {known : List (List Rt)} (hk : KF n m known) : ∀ {ts : List (Nat × Rt)} {acc : List Rt} {k : Nat}, TOk known.length ts → acc.length = 1 + m → (∀ r ∈ acc, Pt n k r) →
    (ts.foldl (formTerm known) acc).length = 1 + m ∧ ∀ r ∈ ts.foldl (formTerm known) acc, Pt n (k + ts.length) r
  | [], acc, k, _, hl, ha => ⟨hl, ha⟩
  | t :: ts, acc, k, ht, hl, ha => by
    obtain ⟨t1, t2⟩ := ht t List.mem_cons_self
    obtain ⟨f1, f2⟩ := hk _ (getD_mem (d := []) t1)
    have ih := sumForm_fold (n := n) (m := m) hk (ts := ts) (acc := formTerm known acc t) (k := k + 1) (fun u hu => ht u (List.mem_cons_of_mem _ hu)) (by
      unfold formTerm addF scaleF
      rw [List.length_zipWith, List.length_map, hl, f1]
      omega) (by
      unfold formTerm addF
      refine zip_all (P := fun r => Pt n k r) (Q := fun r => ∃ x, Lv n x ∧ r = pmul x t.2) (fun a b h1 h2 => ?_) ha (fun b hb => ?_)
      · obtain ⟨x, hx, e⟩ := h2
        rw [e, pmul_comm]
        exact Pt.step h1 t2 hx
      · obtain ⟨x, hx, e⟩ := List.mem_map.mp hb
        exact ⟨x, f2 x hx, e.symm⟩)
    have e : k + (t :: ts).length = k + 1 + ts.length := by
      rw [List.length_cons]
      omega
    rw [e]
    exact ih
theorem sumForm_lv {n m : Nat} {known : List (List Rt)} {c : Rt} {ts : List (Nat × Rt)} (hk : KF n m known) (hc : Sh c) (ht : TOk known.length ts) (hl : ts.length ≤ 3) :
    (sumForm known m c ts).length = 1 + m ∧ ∀ r ∈ sumForm known m c ts, Lv (n + 1) r := by
  have h := sumForm_fold (n := n) (m := m) hk (ts := ts) (acc := (still m).set 0 c) (k := 1) ht (by rw [List.length_set, still_len]) (fun r hr => by
    rcases List.mem_or_eq_of_mem_set hr with h | h
    · rw [still_mem h]
      exact Pt.zero n
    · rw [h]
      exact Pt.of hc)
  exact ⟨h.1, fun r hr => (h.2 r hr).lv (by omega)⟩
theorem swap_lv {n : Nat} {s : Rt} {e : Rt × Rt} (h : Lv n e.1 ∧ Lv n e.2) : Lv n (swapE s e).1 ∧ Lv n (swapE s e).2 := by
  unfold swapE
  split
  · exact ⟨h.2, h.1⟩
  · exact h
theorem spanSum_fold {n : Nat} {known : List (Rt × Rt)} (hk : KS n known) : ∀ {ts : List (Nat × Rt)} {acc : Rt × Rt} {k : Nat}, TOk known.length ts → Pt n k acc.1 ∧ Pt n k acc.2 →
    Pt n (k + ts.length) (ts.foldl (spanTerm known) acc).1 ∧ Pt n (k + ts.length) (ts.foldl (spanTerm known) acc).2
  | [], acc, k, _, ha => ha
  | t :: ts, acc, k, ht, ha => by
    obtain ⟨t1, t2⟩ := ht t List.mem_cons_self
    have hs := swap_lv (s := t.2) (hk _ (getD_mem (d := dflE) t1))
    have ih := spanSum_fold (n := n) hk (ts := ts) (acc := spanTerm known acc t) (k := k + 1) (fun u hu => ht u (List.mem_cons_of_mem _ hu)) ⟨Pt.step ha.1 t2 hs.1, Pt.step ha.2 t2 hs.2⟩
    have e : k + (t :: ts).length = k + 1 + ts.length := by
      rw [List.length_cons]
      omega
    rw [e]
    exact ih
theorem spanSum_lv {n : Nat} {known : List (Rt × Rt)} {c : Rt} {ts : List (Nat × Rt)} (hk : KS n known) (hc : Sh c) (ht : TOk known.length ts) (hl : ts.length ≤ 3) : Lv (n + 1) (spanSum known c ts).1 ∧ Lv (n + 1) (spanSum known c ts).2 := by
  have h := spanSum_fold (n := n) hk (ts := ts) (acc := (c, c)) (k := 1) ht ⟨Pt.of hc, Pt.of hc⟩
  exact ⟨h.1.lv (by omega), h.2.lv (by omega)⟩
theorem TOk.take {n : Nat} {ts : List (Nat × Rt)} (h : TOk n ts) (i : Nat) : TOk n (ts.take i) := fun t ht => h t (List.mem_of_mem_take ht)
theorem take_len {α : Type} {l : List α} {k : Nat} (h : l.length ≤ k) (i : Nat) : (l.take i).length ≤ k := by
  rw [List.length_take]
  omega
theorem take_next {β : Type} {l : List β} {i : Nat} {x : β} (at_ : l[i]? = some x) : l.take (i + 1) = l.take i ++ [x] := by
  rw [List.take_succ, at_]
  rfl
theorem foldl_next {α β : Type} {f : β → α → β} {l : List α} {i : Nat} {x : α} {b : β} (h : l[i]? = some x) : (l.take (i + 1)).foldl f b = f ((l.take i).foldl f b) x := by
  rw [take_next h, List.foldl_append]
  rfl
end BP
end


/-! BNet2 -/
section
set_option maxHeartbeats 4000000
namespace BP
/-- the units, the first of them at place n -/
abbrev NetOk (n : Nat) (us : List U) : Prop := ∀ i u, us[i]? = some u → UOk (n + i) u
theorem relu_lv {n : Nat} {a : Rt} (h : Lv n a) : Lv n (relu a) := by
  unfold relu
  split
  · exact Lv.zero n
  · exact h
theorem spanOf_lv {n k : Nat} {known : List (Rt × Rt)} {u : U} (hk : KS n known) (hu : UOk k u) (hl : known.length = k) : Lv (n + 1) (spanOf known u).1 ∧ Lv (n + 1) (spanOf known u).2 := by
  cases u with
  | bend p =>
    have h := hk _ (getD_mem (d := dflE) (show p < known.length by rw [hl]; exact hu.bend p rfl))
    exact ⟨(relu_lv h.1).mono (Nat.le_succ n), (relu_lv h.2).mono (Nat.le_succ n)⟩
  | sum c ts => exact spanSum_lv hk (hu.con c ts rfl) (by rw [hl]; exact hu.ok c ts rfl) (hu.few c ts rfl)
theorem spans_next {sides : List (Rt × Rt)} {us : List U} {i : Nat} {u : U} (h : us[i]? = some u) : spansF sides (us.take (i + 1)) = spansF sides (us.take i) ++ [spanOf (spansF sides (us.take i)) u] := by
  unfold spansF
  rw [foldl_next h]
theorem spans_ok {sides : List (Rt × Rt)} {us : List U} (hs : KS 1 sides) (hu : NetOk sides.length us) : ∀ i, i ≤ us.length → (spansF sides (us.take i)).length = sides.length + i ∧ KS (1 + i) (spansF sides (us.take i))
  | 0, _ => ⟨rfl, hs⟩
  | i + 1, hi => by
    obtain ⟨h1, h2⟩ := spans_ok hs hu i (by omega)
    have e : us[i]? = some us[i] := List.getElem?_eq_getElem (by omega)
    rw [spans_next e]
    refine ⟨by rw [List.length_append, h1]; rfl, fun x hx => ?_⟩
    rcases List.mem_append.mp hx with hx | hx
    · exact ⟨(h2 x hx).1.mono (by omega), (h2 x hx).2.mono (by omega)⟩
    · rw [List.mem_singleton.mp hx]
      exact spanOf_lv h2 (hu i _ e) h1
theorem spans_all {sides : List (Rt × Rt)} {us : List U} (hs : KS 1 sides) (hu : NetOk sides.length us) : (spansF sides us).length = sides.length + us.length ∧ KS (1 + us.length) (spansF sides us) := by
  have h := spans_ok hs hu us.length (Nat.le_refl _)
  rw [List.take_length] at h
  exact h
/-! ### forms -/
theorem bendsN_append (a b : List U) : bendsN (a ++ b) = bendsN a + bendsN b := by
  induction a with
  | nil => simp [bendsN]
  | cons u r ih =>
    show (if u.isBend then 1 else 0) + bendsN (r ++ b) = (if u.isBend then 1 else 0) + bendsN r + bendsN b
    rw [ih]
    omega
theorem bendsN_le : ∀ us : List U, bendsN us ≤ us.length
  | [] => Nat.le_refl _
  | u :: r => by
    have := bendsN_le r
    show (if u.isBend then 1 else 0) + bendsN r ≤ r.length + 1
    split <;> omega
theorem bendsN_take {us : List U} {i : Nat} {p : Nat} (h : us[i]? = some (.bend p)) : bendsN (us.take i) < bendsN us := by
  have e : us = us.take (i + 1) ++ us.drop (i + 1) := (List.take_append_drop _ _).symm
  have e2 : bendsN us = bendsN (us.take (i + 1)) + bendsN (us.drop (i + 1)) := by rw [← bendsN_append, List.take_append_drop]
  have e3 : bendsN (us.take (i + 1)) = bendsN (us.take i) + 1 := by
    rw [take_next h, bendsN_append]
    rfl
  omega
def initS (many m : Nat) : FS := ⟨(List.range many).map fun k => lone k m, 0, many⟩
def stepsF (many m : Nat) (cs : List C3) (us : List U) : FS := us.foldl (fStep cs m) (initS many m)
theorem formsF_eq (many : Nat) (us : List U) (cs : List C3) : formsF many us cs = (stepsF many (many + opens cs) cs us).known := rfl
theorem steps_next {many m : Nat} {cs : List C3} {us : List U} {i : Nat} {u : U} (h : us[i]? = some u) : stepsF many m cs (us.take (i + 1)) = fStep cs m (stepsF many m cs (us.take i)) u := by
  unfold stepsF
  rw [foldl_next h]
theorem opens_take_lt {cs : List C3} {b : Nat} (h : cs[b]? = some .opn) : opens (cs.take b) < opens cs := by
  have e : cs = cs.take (b + 1) ++ cs.drop (b + 1) := (List.take_append_drop _ _).symm
  have e2 : opens cs = opens (cs.take (b + 1)) + opens (cs.drop (b + 1)) := by
    unfold opens
    rw [← List.count_append, List.take_append_drop]
  have e3 : opens (cs.take (b + 1)) = opens (cs.take b) + 1 := by
    unfold opens
    rw [take_next h, List.count_append]
    rfl
  omega
theorem opens_next {cs : List C3} {b : Nat} {c : C3} (h : cs[b]? = some c) : opens (cs.take (b + 1)) = opens (cs.take b) + (if c = .opn then 1 else 0) := by
  unfold opens
  rw [take_next h, List.count_append]
  cases c <;> rfl
structure FOk (many m : Nat) (cs : List C3) (us : List U) (i : Nat) (s : FS) : Prop where
  len : s.known.length = many + i
  kf : KF (1 + i) m s.known
  bent : s.bent = bendsN (us.take i)
  opened : s.opened = many + opens (cs.take s.bent)
theorem kf_mono {n n' m : Nat} {k : List (List Rt)} (h : KF n m k) (hn : n ≤ n') : KF n' m k := fun f hf => ⟨(h f hf).1, fun r hr => ((h f hf).2 r hr).mono hn⟩
theorem ks_mono {n n' : Nat} {k : List (Rt × Rt)} (h : KS n k) (hn : n ≤ n') : KS n' k := fun e he => ⟨(h e he).1.mono hn, (h e he).2.mono hn⟩
theorem kf_snoc {n m : Nat} {k : List (List Rt)} {f : List Rt} (h : KF n m k) (h1 : f.length = 1 + m) (h2 : ∀ r ∈ f, Lv n r) : KF n m (k ++ [f]) := fun g hg => by
  rcases List.mem_append.mp hg with hg | hg
  · exact h g hg
  · rw [List.mem_singleton.mp hg]
    exact ⟨h1, h2⟩
theorem steps_ok {many m : Nat} {cs : List C3} {us : List U} (hm : m = many + opens cs) (hu : NetOk many us) (hc : cs.length = bendsN us) : ∀ i, i ≤ us.length → FOk many m cs us i (stepsF many m cs (us.take i))
  | 0, _ => by
    refine ⟨by simp [stepsF, initS], fun f hf => ?_, rfl, ?_⟩
    · obtain ⟨k, _, e⟩ := List.mem_map.mp (show f ∈ (List.range many).map (fun k => lone k m) from hf)
      rw [← e]
      exact ⟨lone_len _ _, fun r hr => lone_lv hr⟩
    · show many = many + opens (cs.take 0)
      simp [opens]
  | i + 1, hi => by
    have ih := steps_ok hm hu hc i (by omega)
    have e : us[i]? = some us[i] := List.getElem?_eq_getElem (by omega)
    have hui := hu i _ e
    have h2 := kf_mono ih.kf (show 1 + i ≤ 1 + (i + 1) by omega)
    rw [steps_next e]
    generalize hs : stepsF many m cs (us.take i) = s at ih h2
    have eb : bendsN (us.take (i + 1)) = bendsN (us.take i) + (if (us[i]).isBend then 1 else 0) := by
      rw [take_next e, bendsN_append]
      show _ + ((if (us[i]).isBend then 1 else 0) + 0) = _
      rfl
    generalize us[i] = u at e hui eb
    cases u with
    | sum c ts =>
      have hsum := sumForm_lv (m := m) ih.kf (hui.con c ts rfl) (by rw [ih.len]; exact hui.ok c ts rfl) (hui.few c ts rfl)
      refine ⟨?_, ?_, ?_, ih.opened⟩
      · show (s.known ++ [_]).length = _
        rw [List.length_append, ih.len]
        rfl
      · exact kf_snoc h2 hsum.1 (fun r hr => (hsum.2 r hr).mono (by omega))
      · show s.bent = _
        rw [eb, ih.bent]
        rfl
    | bend p =>
      have hb : s.bent < cs.length := by
        rw [ih.bent, hc]
        exact bendsN_take e
      have ec : cs[s.bent]? = some cs[s.bent] := List.getElem?_eq_getElem hb
      have eg : cs.getD s.bent .off = cs[s.bent] := getD_of ec
      have eo := opens_next ec
      have hp : p < s.known.length := by
        rw [ih.len]
        exact hui.bend p rfl
      have eb2 : s.bent + 1 = bendsN (us.take (i + 1)) := by
        rw [eb, ih.bent]
        rfl
      unfold fStep
      rw [eg]
      generalize cs[s.bent] = cc at ec eo
      cases cc with
      | on =>
        refine ⟨by show (s.known ++ [_]).length = _; rw [List.length_append, ih.len]; rfl, kf_snoc h2 (h2 _ (getD_mem hp)).1 (h2 _ (getD_mem hp)).2, eb2, ?_⟩
        show s.opened = many + opens (cs.take (s.bent + 1))
        rw [eo, ih.opened]
        rfl
      | off =>
        refine ⟨by show (s.known ++ [_]).length = _; rw [List.length_append, ih.len]; rfl, kf_snoc h2 (still_len m) (fun r hr => still_lv hr), eb2, ?_⟩
        show s.opened = many + opens (cs.take (s.bent + 1))
        rw [eo, ih.opened]
        rfl
      | opn =>
        refine ⟨by show (s.known ++ [_]).length = _; rw [List.length_append, ih.len]; rfl, kf_snoc h2 (lone_len _ m) (fun r hr => lone_lv hr), eb2, ?_⟩
        show s.opened + 1 = many + opens (cs.take (s.bent + 1))
        rw [eo, ih.opened]
        rfl
theorem forms_all {many : Nat} {cs : List C3} {us : List U} (hu : NetOk many us) (hc : cs.length = bendsN us) : (formsF many us cs).length = many + us.length ∧ KF (1 + us.length) (many + opens cs) (formsF many us cs) := by
  have h := steps_ok (m := many + opens cs) rfl hu hc us.length (Nat.le_refl _)
  rw [List.take_length] at h
  exact ⟨h.len, h.kf⟩
theorem opens_le (cs : List C3) : opens cs ≤ cs.length := List.count_le_length ..
/-! ### the bends' places -/
theorem bendsAt_snoc : ∀ (n : Nat) (us : List U) (u : U), bendsAt n (us ++ [u]) = bendsAt n us ++ (if u.isBend then [n + us.length] else [])
  | n, [], u => by
    show (if u.isBend then n :: bendsAt (n + 1) [] else bendsAt (n + 1) []) = _
    cases u <;> rfl
  | n, a :: r, u => by
    have ih := bendsAt_snoc (n + 1) r u
    have e : n + (a :: r).length = n + 1 + r.length := by
      rw [List.length_cons]
      omega
    show (if a.isBend then n :: bendsAt (n + 1) (r ++ [u]) else bendsAt (n + 1) (r ++ [u])) = (if a.isBend then n :: bendsAt (n + 1) r else bendsAt (n + 1) r) ++ _
    rw [ih, e]
    cases a.isBend <;> rfl
theorem bendsAt_len : ∀ (n : Nat) (us : List U), (bendsAt n us).length = bendsN us
  | _, [] => rfl
  | n, u :: r => by
    have ih := bendsAt_len (n + 1) r
    show (if u.isBend then n :: bendsAt (n + 1) r else bendsAt (n + 1) r).length = (if u.isBend then 1 else 0) + bendsN r
    cases u.isBend with
    | true =>
      show (bendsAt (n + 1) r).length + 1 = 1 + bendsN r
      omega
    | false =>
      show (bendsAt (n + 1) r).length = 0 + bendsN r
      omega
theorem bendsAt_mem : ∀ {n : Nat} {us : List U} {q : Nat}, q ∈ bendsAt n us → n ≤ q ∧ ∃ p, us[q - n]? = some (.bend p)
  | n, [], q, h => by cases h
  | n, u :: r, q, h => by
    have h' : q ∈ (if u.isBend then n :: bendsAt (n + 1) r else bendsAt (n + 1) r) := h
    have rec_ : q ∈ bendsAt (n + 1) r → n ≤ q ∧ ∃ p, (u :: r)[q - n]? = some (.bend p) := fun h => by
      obtain ⟨h1, p, h2⟩ := bendsAt_mem h
      refine ⟨by omega, p, ?_⟩
      have e : q - n = (q - (n + 1)) + 1 := by omega
      rw [e, List.getElem?_cons_succ]
      exact h2
    cases u with
    | sum c ts => exact rec_ h'
    | bend p =>
      rcases List.mem_cons.mp (show q ∈ n :: bendsAt (n + 1) r from h') with e | h
      · refine ⟨by omega, p, ?_⟩
        rw [e, Nat.sub_self]
        rfl
      · exact rec_ h
theorem srcAt_of {n : Nat} {us : List U} {q p : Nat} (h : us[q - n]? = some (.bend p)) : srcAt n us q = p := by
  unfold srcAt
  rw [getD_of h]
  rfl
end BP
end


/-! BRep -/
section
set_option maxHeartbeats 4000000
namespace BP
open PySem L2
/-! ### the text by places -/
def top (i : Nat) : Stmt := PySem.Challenge.pw_bendproof_k42_rows_told.main.body.getD i (.Pass ⟨0, 0, 0, 0⟩)
/-! ### a def that keeps its promise, found by its name -/
def HasFn (K : PySem.W.Frag) (mg : Str → Option Value) (x : Str) (st : Stmt) (ps : List Str) : Prop :=
  ∃ f fd, Fun K x x st f fd ∧ mg x = some (.ref f) ∧ Binds K fd ps []
def Kept (P : Program) (w : World) (K : PySem.W.Frag) (mg : Str → Option Value) (base : Heap) (k : Nat) (x : Str) (ps : List Str) (sp : Sp) : Prop :=
  ∃ f fd, FnOk P w K mg base CX0 k f fd ps sp ∧ mg x = some (.ref f) ∧ PySem.W.keepIn K (.ref f) = true ∧ Binds K fd ps []
theorem kept_of {P : Program} {w : World} {K : PySem.W.Frag} {mg : Str → Option Value} {base : Heap} {k : Nat} {x : Str} {st : Stmt} {ps : List Str} {sp : Sp} (h : HasFn K mg x st ps)
    (ok : ∀ f fd, Fun K x x st f fd → FnOk P w K mg base CX0 k f fd ps sp) : Kept P w K mg base k x ps sp := by
  obtain ⟨f, fd, F, m, b⟩ := h
  exact ⟨f, fd, ok f fd F, m, F.kp, b⟩
section
variable {X : Cx} {k : Nat} {x : Str} {ps : List Str} {sp : Sp} {p pos : Pos} {e : Expr} {es : List Expr} {t : TA}
theorem pe_k (F : Kept X.prog X.w X.K X.mg X.base k x ps sp) (hr : Room k X.A) (hg : Gl X x) (ha : PA X (e :: es) t)
    (nodb : (x == ("__debug__" : Str)) = false := by decide) (each : starEach (e :: es) X.env = (false, eval e X.env) :: starEach es X.env := by rfl) (nostar : (backTo pos (starEach es X.env)).any (·.1) = false := by rfl) :
    PE X (.Call (.Name x p) (e :: es) [] pos) (tCall sp [] E0 t) := by
  obtain ⟨f, fd, G, hm, kp, hb⟩ := F
  exact pe_call G hr hg hm kp hb .nil pass0 ha nodb each nostar
end

/-! ### heaps -/
def hide (l : Addr) (H : Hp) : Hp := fun b => if b = l then none else H b
/-- what is new since H, and of the old all but the lists -/
def fr (H H' : Hp) : Hp := fun b => match H b with
  | some (.lst _) => none
  | _ => H' b
section
variable {H H' H0 H1 H2 : Hp} {l p a b : Addr} {o : HO}
theorem hide_at (h : b ≠ l) : hide l H b = H b := if_neg h
theorem hide_self : hide l H l = none := if_pos rfl
theorem hide_upd : hide l (upd H l o) = hide l H := by
  funext b
  unfold hide
  by_cases h : b = l
  · rw [if_pos h, if_pos h]
  · rw [if_neg h, if_neg h, upd_ne h]
theorem hide_sub : Same (hide l H) H := fun b o h => by
  by_cases e : b = l
  · rw [e, hide_self] at h
    cases h
  · rw [hide_at e] at h
    exact h
theorem same_hide (s : Same H H') : Same (hide l H) (hide l H') := fun b o h => by
  by_cases e : b = l
  · rw [e, hide_self] at h
    cases h
  · rw [hide_at e] at h ⊢
    exact s b o h
theorem same_into (s : Same H0 H) (n : H0 l = none) : Same H0 (hide l H) := fun b o h => by
  rw [hide_at (ne_of_none h n)]
  exact s b o h
theorem same_new (n : H p = none) : Same H (upd H p o) := fun b u h => by
  rw [upd_ne (ne_of_none h n)]
  exact h
/-- an object that H0 does not know may change -/
theorem same_mut (s : Same H0 H) (n : H0 l = none) : Same H0 (upd H l o) := fun b u h => by
  rw [upd_ne (ne_of_none h n)]
  exact s b u h
theorem fr_at (h : ∀ xs, H b ≠ some (.lst xs)) : fr H H' b = H' b := by
  unfold fr
  split
  · rename_i xs e
    exact absurd e (h xs)
  · rfl
theorem fr_new (h : H b = none) : fr H H' b = H' b := fr_at fun xs e => by
  rw [h] at e
  cases e
theorem fr_old {xs : List V} (h : H b = some (.lst xs)) : fr H H' b = none := by
  unfold fr
  rw [h]
theorem fr_sub : Same (fr H H') H' := fun b o h => by
  unfold fr at h
  split at h
  · cases h
  · exact h
theorem fr_mono (s : Same H1 H2) : Same (fr H H1) (fr H H2) := fun b o h => by
  unfold fr at h ⊢
  split at h
  · cases h
  · exact s b o h
theorem fr_from (s : Same H0 H) : Same (fr H H') (fr H0 H') := fun b o h => by
  unfold fr at h ⊢
  split
  · rename_i xs e
    rw [s b _ e] at h
    cases h
  · split at h
    · cases h
    · exact h
theorem fr_hide {xs : List V} (e : H l = some (.lst xs)) : Same (fr H H') (hide l H') := fun b o h => by
  have n : b ≠ l := fun q => by
    rw [q, fr_old e] at h
    cases h
  rw [hide_at n]
  exact fr_sub b o h
/-- a callee's news, at the caller's entry H0 and beside its own list at l -/
theorem fr_in {xs : List V} (s : Same H0 H) (e : H l = some (.lst xs)) : Same (fr H H') (hide l (fr H0 H')) := fun b o h => by
  have n : b ≠ l := fun q => by
    rw [q, fr_old e] at h
    cases h
  rw [hide_at n]
  exact fr_from s b o h
theorem hide_fr_upd : hide l (fr H (upd H' l o)) = hide l (fr H H') := by
  funext b
  unfold hide
  by_cases h : b = l
  · rw [if_pos h, if_pos h]
  · rw [if_neg h, if_neg h]
    unfold fr
    rw [upd_ne h]
end
/-- tuples are kept -/
def Tk (K : PySem.W.Frag) (H H' : Hp) : Prop := ∀ b xs, SqT K H b xs → SqT K H' b xs
section
variable {K : PySem.W.Frag} {H H' H0 H1 H2 : Hp} {l p a b : Addr} {o : HO}
theorem Tk.refl : Tk K H H := fun _ _ h => h
theorem Tk.trans (h : Tk K H H1) (h' : Tk K H1 H2) : Tk K H H2 := fun b xs q => h' b xs (h b xs q)
theorem same_tup (s : Same H H') : Tk K H H' := fun b xs h => by
  rcases h with (h | ⟨o, h⟩) | h
  · exact .inl (.inl (s _ _ h))
  · exact .inl (.inr ⟨o, s _ _ h⟩)
  · exact .inr h
theorem tk_upd {ys : List V} (e : H l = some (.lst ys)) : Tk K H (upd H l o) := fun b xs h => by
  rcases h with (h | ⟨u, h⟩) | h
  · exact .inl (.inl (by rw [upd_ne (ne_of h e (by intro q; cases q))]; exact h))
  · exact .inl (.inr ⟨u, by rw [upd_ne (ne_of h e (by intro q; cases q))]; exact h⟩)
  · exact .inr h
theorem tk_hide {ys : List V} (e : H l = some (.lst ys)) : Tk K H (hide l H) := fun b xs h => by
  rcases h with (h | ⟨u, h⟩) | h
  · exact .inl (.inl (by rw [hide_at (ne_of h e (by intro q; cases q))]; exact h))
  · exact .inl (.inr ⟨u, by rw [hide_at (ne_of h e (by intro q; cases q))]; exact h⟩)
  · exact .inr h
theorem tk_fr (s : Same H H') : Tk K H' (fr H H') := fun b xs h => by
  rcases h with (h | ⟨u, h⟩) | h
  · exact .inl (.inl (by rw [fr_at (fun ys e => by rw [s _ _ e] at h; cases h)]; exact h))
  · exact .inl (.inr ⟨u, by rw [fr_at (fun ys e => by rw [s _ _ e] at h; cases h)]; exact h⟩)
  · exact .inr h
end

/-! ### what stands for what -/
abbrev Rp (α : Type) : Type := Hp → V → α → Prop
def rInt : Rp Int := fun _ v i => v = .int i
def rNat : Rp Nat := fun _ v i => v = .int (i : Int)
/-- a tuple of two -/
def rPair (K : PySem.W.Frag) {α β : Type} (R : Rp α) (S : Rp β) : Rp (α × β) := fun H v p => ∃ a x y, v = .ref a ∧ SqT K H a [x, y] ∧ R H x p.1 ∧ S H y p.2
abbrev rRat (K : PySem.W.Frag) : Rp Rt := rPair K rInt rInt
/-- a list -/
def rLst {α : Type} (R : Rp α) : Rp (List α) := fun H v xs => ∃ a vs, v = .ref a ∧ H a = some (.lst vs) ∧ Paired (R H) vs xs
abbrev rForm (K : PySem.W.Frag) : Rp (List Rt) := rLst (rRat K)
abbrev rSpan (K : PySem.W.Frag) : Rp (Rt × Rt) := rPair K (rRat K) (rRat K)
abbrev rRow (K : PySem.W.Frag) : Rp Rw := rPair K (rForm K) (rRat K)
abbrev rTerm (K : PySem.W.Frag) : Rp (Nat × Rt) := rPair K rNat (rRat K)
def rUnit (K : PySem.W.Frag) : Rp U := fun H v u => match u with
  | .bend p => ∃ a, v = .ref a ∧ SqT K H a [.str "bend", .int (p : Int)]
  | .sum c ts => ∃ a x y, v = .ref a ∧ SqT K H a [.str "sum", x, y] ∧ rRat K H x c ∧ rLst (rTerm K) H y ts
def C3.txt : C3 → Str
  | .on => "on"
  | .off => "off"
  | .opn => "open"
def rC3 : Rp C3 := fun _ v c => v = .str c.txt
/-- R speaks of tuples alone -/
def TupR (K : PySem.W.Frag) {α : Type} (R : Rp α) : Prop := ∀ H H' v x, Tk K H H' → R H v x → R H' v x
/-- R stays where nothing known is changed -/
def MonR {α : Type} (R : Rp α) : Prop := ∀ H H' v x, Same H H' → R H v x → R H' v x
section
variable {K : PySem.W.Frag} {α β : Type} {R : Rp α} {S : Rp β}
theorem TupR.mon (h : TupR K R) : MonR R := fun H H' v x s q => h H H' v x (same_tup s) q
theorem t_int : TupR K rInt := fun _ _ _ _ _ h => h
theorem t_nat : TupR K rNat := fun _ _ _ _ _ h => h
theorem t_c3 : TupR K rC3 := fun _ _ _ _ _ h => h
theorem t_pair (hR : TupR K R) (hS : TupR K S) : TupR K (rPair K R S) := fun H H' v p k h => by
  obtain ⟨a, x, y, e, q, h1, h2⟩ := h
  exact ⟨a, x, y, e, k _ _ q, hR _ _ _ _ k h1, hS _ _ _ _ k h2⟩
theorem t_rat : TupR K (rRat K) := t_pair t_int t_int
theorem t_span : TupR K (rSpan K) := t_pair t_rat t_rat
theorem t_term : TupR K (rTerm K) := t_pair t_nat t_rat
theorem m_pair (hR : MonR R) (hS : MonR S) : MonR (rPair K R S) := fun H H' v p k h => by
  obtain ⟨a, x, y, e, q, h1, h2⟩ := h
  exact ⟨a, x, y, e, same_tup k _ _ q, hR _ _ _ _ k h1, hS _ _ _ _ k h2⟩
theorem m_lst (hR : MonR R) : MonR (rLst R) := fun H H' v p k h => by
  obtain ⟨a, vs, e, q, h1⟩ := h
  exact ⟨a, vs, e, k _ _ q, h1.mono fun x y z => hR _ _ _ _ k z⟩
theorem m_form : MonR (rForm K) := m_lst t_rat.mon
theorem m_row : MonR (rRow K) := m_pair m_form t_rat.mon
theorem m_forms : MonR (rLst (rForm K)) := m_lst m_form
theorem m_rows : MonR (rLst (rRow K)) := m_lst m_row
theorem m_spans : MonR (rLst (rSpan K)) := m_lst t_span.mon
theorem m_terms : MonR (rLst (rTerm K)) := m_lst t_term.mon
theorem m_case : MonR (rLst rC3) := m_lst fun _ _ _ _ _ h => h
theorem m_unit : MonR (rUnit K) := fun H H' v u s h => by
  cases u with
  | bend p =>
    obtain ⟨a, e, q⟩ := h
    exact ⟨a, e, same_tup s _ _ q⟩
  | sum c ts =>
    obtain ⟨a, x, y, e, q, h1, h2⟩ := h
    exact ⟨a, x, y, e, same_tup s _ _ q, t_rat.mon _ _ _ _ s h1, m_terms _ _ _ _ s h2⟩
theorem m_units : MonR (rLst (rUnit K)) := m_lst m_unit
theorem p_tk {H H' : Hp} {vs : List V} {xs : List α} (hR : TupR K R) (k : Tk K H H') (h : Paired (R H) vs xs) : Paired (R H') vs xs := h.mono fun x y z => hR _ _ _ _ k z
theorem p_sm {H H' : Hp} {vs : List V} {xs : List α} (hR : MonR R) (k : Same H H') (h : Paired (R H) vs xs) : Paired (R H') vs xs := h.mono fun x y z => hR _ _ _ _ k z
theorem pr_get {F : V → α → Prop} : ∀ {vs : List V} {xs : List α} {i : Nat} {v : V}, Paired F vs xs → vs[i]? = some v → ∃ x, xs[i]? = some x ∧ F v x
  | _, _, _, _, .nil, e => by simp at e
  | _, _, 0, _, .cons r _, e => by
    simp at e
    subst e
    exact ⟨_, rfl, r⟩
  | _, _, i + 1, v, .cons _ t, e => by
    obtain ⟨x, h1, h2⟩ := pr_get (i := i) (v := v) t (by simpa using e)
    exact ⟨x, by simpa using h1, h2⟩
theorem pr_at {F : V → α → Prop} : ∀ {vs : List V} {xs : List α} {i : Nat} {x : α}, Paired F vs xs → xs[i]? = some x → ∃ v, vs[i]? = some v ∧ F v x
  | _, _, _, _, .nil, e => by simp at e
  | _, _, 0, _, .cons r _, e => by
    simp at e
    subst e
    exact ⟨_, rfl, r⟩
  | _, _, i + 1, v, .cons _ t, e => by
    obtain ⟨x, h1, h2⟩ := pr_at (i := i) (x := v) t (by simpa using e)
    exact ⟨x, by simpa using h1, h2⟩
end
end BP
end


/-! BHead -/
section
set_option maxHeartbeats 4000000
namespace BP
open PySem L2
/-! ### the addresses that the top has made -/
structure Ad where
  aN : Addr
  aO : Addr
  cB : Addr
  cN : Addr
  Box___init__ : Addr
  Box_told : Addr
  Net___init__ : Addr
  Net_told : Addr
  Net_bends : Addr
/-- a method of a class of the text, at its address -/
def HasMe (K : PySem.W.Frag) (x qual : Str) (st : Stmt) (f : Addr) (ps : List Str) : Prop := ∃ fd, Fun K x qual st f fd ∧ Binds K fd ps []
def KeptA (P : Program) (w : World) (K : PySem.W.Frag) (mg : Str → Option Value) (base : Heap) (k : Nat) (f : Addr) (ps : List Str) (sp : Sp) : Prop :=
  ∃ fd, FnOk P w K mg base CX0 k f fd ps sp ∧ Binds K fd ps []
theorem keptA_of {P : Program} {w : World} {K : PySem.W.Frag} {mg : Str → Option Value} {base : Heap} {k : Nat} {x qual : Str} {st : Stmt} {f : Addr} {ps : List Str} {sp : Sp} (h : HasMe K x qual st f ps)
    (ok : ∀ fd, Fun K x qual st f fd → FnOk P w K mg base CX0 k f fd ps sp) : KeptA P w K mg base k f ps sp := by
  obtain ⟨fd, F, b⟩ := h
  exact ⟨fd, ok fd F, b⟩
section
variable {X : Cx} {k : Nat} {f C : Addr} {x m : Str} {ps : List Str} {sp : Sp} {p pos apos : Pos} {e o : Expr} {es : List Expr} {t : TA} {ta : TE}
theorem pe_m0 {pl : Sem Bool} (he : PE X o ta) (c : Cls X.K C) (hm : Meth X.K C m f) (F : KeptA X.prog X.w X.K X.mg X.base k f ps sp) (hr : Room k X.A)
    (read : eval (.Call (.Attribute o m apos) [] [] pos) X.env = (do { let of_ ← eval o X.env; standAt apos.atName; let (g, own) ← holding [of_] (getMethod of_ m pl); callWith pos g own (backTo pos (starEach [] X.env)) (backToKw pos (keywordEach [] X.env)) }) := by rfl) :
    PE X (.Call (.Attribute o m apos) [] [] pos) (tMeth C m sp [] E0 ta tNil) := by
  obtain ⟨fd, G, b⟩ := F
  exact pe_meth0 he c hm G hr b .nil pass0 read
theorem pe_mk (M : Mk X.K C f) (F : KeptA X.prog X.w X.K X.mg X.base k f ps sp) (hr : Room (k + 1) X.A) (hg : Gl X x) (hm : X.mg x = some (.ref C)) (ha : PA X (e :: es) t)
    (nodb : (x == ("__debug__" : Str)) = false := by decide) (each : starEach (e :: es) X.env = (false, eval e X.env) :: starEach es X.env := by rfl) (nostar : (backTo pos (starEach es X.env)).any (·.1) = false := by rfl) :
    PE X (.Call (.Name x p) (e :: es) [] pos) (tMake C sp [] E0 t) := by
  obtain ⟨fd, G, b⟩ := F
  exact pe_make M G hr hg hm b .nil pass0 ha nodb each nostar
/-- a module's whole number -/
theorem pe_gi {i : Int} (hg : Gl X x) (hm : ∃ t, X.mg x = some (.int i t)) (hd : (x == ("__debug__" : Str)) = false := by decide) : PE X (.Name x pos) (tC (.int i)) := by
  obtain ⟨t, h⟩ := hm
  exact pe_glob hg h ⟨_, rfl⟩ hd
end
/-! ### list.count of a text -/
def rCntS (K : PySem.W.Frag) : V → List V → Hp → VK → Prop := fun x xs H Q => ∃ (p : Addr) (ys : List V) (y : V), x = .ref p ∧ xs = [y] ∧ SqL K H p ys ∧ flatV y = true ∧ ys.all flatV = true ∧ Q (.int ((ys.countP fun z => eqV z y : Nat) : Int)) H
theorem count_eqU {x : V} : ∀ {xs : List V} {us : List Value}, Vals xs us → xs.all flatV = true → us.countP (eqU x) = xs.countP fun y => eqV y x
  | _, _, .nil, _ => rfl
  | _, _, .cons r t, h => by
    rw [List.all_cons, Bool.and_eq_true] at h
    rw [List.countP_cons, List.countP_cons, count_eqU t h.2, eqU_of r h.1]
theorem mt_countS {X : Cx} : MtR X "list.count" (rCntS X.K) := by
  rintro pins s σ H x xs v us Q I rx rxs ⟨p, ys, y, rfl, rfl, hs, fy, fa, q⟩
  cases rx
  obtain ⟨u, eus, ru⟩ := rxs.one
  subst eus
  obtain ⟨its, rv, ⟨⟨cls, dd, data, slots⟩, n, at_, ec0, _, ed⟩, _⟩ := I.list hs
  have ec1 : cls = .type "list" := ec0
  subst ec1
  have ed1 : data = .seq its.toArray n := ed
  subst ed1
  refine call_meets PySem.F.slot_list_count ⟨_, at_, rfl⟩ PySem.F.entry_list_count (PySem.F.args_list_count_2 _ _) (SeqAt.list_countAt p its.toArray n dd slots u (eqU y)) ⟨at_, fun z hz => mem_eqAt ru fy rv fa z (by simpa using hz), ?_⟩
  have ec : its.toArray.toList.countP (eqU y) = ys.countP fun z => eqV z y := count_eqU rv fa
  refine ⟨.int ((ys.countP fun z => eqV z y : Nat) : Int), H, I.tok _, ⟨s.toks, ?_⟩, q⟩
  show Value.int ((its.toArray.toList.countP (eqU y) : Nat) : Int) s.toks = Value.int ((ys.countP fun z => eqV z y : Nat) : Int) s.toks
  rw [ec]
/-! ### what the top has written -/
structure Txt (K : PySem.W.Frag) (mg : Str → Option Value) (A : Ad) : Prop where
  b_len : mg "len" = none
  b_isinstance : mg "isinstance" = none
  b_bool : mg "bool" = none
  b_int : mg "int" = none
  b_list : mg "list" = none
  b_tuple : mg "tuple" = none
  b_str : mg "str" = none
  b_divmod : mg "divmod" = none
  b_abs : mg "abs" = none
  b_min : mg "min" = none
  b_all : mg "all" = none
  b_range : mg "range" = none
  b_zip : mg "zip" = none
  b_enumerate : mg "enumerate" = none
  b_set : mg "set" = none
  gN : mg "NOUGHT" = some (.ref A.aN)
  gO : mg "ONE" = some (.ref A.aO)
  tN : ∀ H, SqT K H A.aN [.int 0, .int 1]
  tO : ∀ H, SqT K H A.aO [.int 1, .int 1]
  gMOST : ∃ t, mg "MOST" = some (.int 6 t)
  gMOST_INS : ∃ t, mg "MOST_INS" = some (.int 6 t)
  gMOST_UNITS : ∃ t, mg "MOST_UNITS" = some (.int 80 t)
  gMOST_BENDS : ∃ t, mg "MOST_BENDS" = some (.int 20 t)
  gMOST_OUTS : ∃ t, mg "MOST_OUTS" = some (.int 12 t)
  gBox : mg "Box" = some (.ref A.cB)
  gNet : mg "Net" = some (.ref A.cN)
  cBox : Cls K A.cB
  cNet : Cls K A.cN
  mkBox : Mk K A.cB A.Box___init__
  mkNet : Mk K A.cN A.Net___init__
  m_Box_told : Meth K A.cB "told" A.Box_told
  m_Net_told : Meth K A.cN "told" A.Net_told
  m_Net_bends : Meth K A.cN "bends" A.Net_bends
  n_sides : NoAttr K A.cB "sides"
  n_many : NoAttr K A.cN "many"
  n_units : NoAttr K A.cN "units"
  n_outs : NoAttr K A.cN "outs"
abbrev s_is_whole : Stmt := top 8
theorem sc_is_whole : FnScope ["thing"] ["thing"] (defScope s_is_whole) := ⟨rfl, rfl, rfl, by decide +kernel, rfl, by decide +kernel, by decide +kernel⟩
abbrev s_divisor : Stmt := top 9
theorem sc_divisor : FnScope ["one", "other", "often", "rest"] ["one", "other"] (defScope s_divisor) := ⟨rfl, rfl, rfl, by decide +kernel, rfl, by decide +kernel, by decide +kernel⟩
abbrev s_is_ratio : Stmt := top 10
theorem sc_is_ratio : FnScope ["thing"] ["thing"] (defScope s_is_ratio) := ⟨rfl, rfl, rfl, by decide +kernel, rfl, by decide +kernel, by decide +kernel⟩
abbrev s_lowest : Stmt := top 11
theorem sc_lowest : FnScope ["top", "bottom", "by"] ["top", "bottom"] (defScope s_lowest) := ⟨rfl, rfl, rfl, by decide +kernel, rfl, by decide +kernel, by decide +kernel⟩
abbrev s_plus : Stmt := top 12
theorem sc_plus : FnScope ["one", "other"] ["one", "other"] (defScope s_plus) := ⟨rfl, rfl, rfl, by decide +kernel, rfl, by decide +kernel, by decide +kernel⟩
abbrev s_negated : Stmt := top 13
theorem sc_negated : FnScope ["one"] ["one"] (defScope s_negated) := ⟨rfl, rfl, rfl, by decide +kernel, rfl, by decide +kernel, by decide +kernel⟩
abbrev s_minus : Stmt := top 14
theorem sc_minus : FnScope ["one", "other"] ["one", "other"] (defScope s_minus) := ⟨rfl, rfl, rfl, by decide +kernel, rfl, by decide +kernel, by decide +kernel⟩
abbrev s_times : Stmt := top 15
theorem sc_times : FnScope ["one", "other"] ["one", "other"] (defScope s_times) := ⟨rfl, rfl, rfl, by decide +kernel, rfl, by decide +kernel, by decide +kernel⟩
abbrev s_less : Stmt := top 16
theorem sc_less : FnScope ["one", "other"] ["one", "other"] (defScope s_less) := ⟨rfl, rfl, rfl, by decide +kernel, rfl, by decide +kernel, by decide +kernel⟩
abbrev s_added : Stmt := top 18
theorem sc_added : FnScope ["one", "other", "first", "second"] ["one", "other"] (defScope s_added) := ⟨rfl, rfl, rfl, by decide +kernel, rfl, by decide +kernel, by decide +kernel⟩
abbrev s_scaled : Stmt := top 19
theorem sc_scaled : FnScope ["form", "by", "share"] ["form", "by"] (defScope s_scaled) := ⟨rfl, rfl, rfl, by decide +kernel, rfl, by decide +kernel, by decide +kernel⟩
abbrev s_greater_of : Stmt := top 21
theorem sc_greater_of : FnScope ["one", "other"] ["one", "other"] (defScope s_greater_of) := ⟨rfl, rfl, rfl, by decide +kernel, rfl, by decide +kernel, by decide +kernel⟩
abbrev s_span_of_sum : Stmt := top 22
theorem sc_span_of_sum : FnScope ["constant", "terms", "known", "low", "high", "place", "share", "ends"] ["constant", "terms", "known"] (defScope s_span_of_sum) := ⟨rfl, rfl, rfl, by decide +kernel, rfl, by decide +kernel, by decide +kernel⟩
abbrev s_spans : Stmt := top 23
theorem sc_spans : FnScope ["net", "box", "known", "unit", "low", "high"] ["net", "box"] (defScope s_spans) := ⟨rfl, rfl, rfl, by decide +kernel, rfl, by decide +kernel, by decide +kernel⟩
abbrev s_still_form : Stmt := top 25
theorem sc_still_form : FnScope ["many"] ["many"] (defScope s_still_form) := ⟨rfl, rfl, rfl, by decide +kernel, rfl, by decide +kernel, by decide +kernel⟩
abbrev s_lone_form : Stmt := top 26
theorem sc_lone_form : FnScope ["k", "many", "made"] ["k", "many"] (defScope s_lone_form) := ⟨rfl, rfl, rfl, by decide +kernel, rfl, by decide +kernel, by decide +kernel⟩
abbrev s_sum_form : Stmt := top 27
theorem sc_sum_form : FnScope ["constant", "terms", "known", "many", "made", "place", "share"] ["constant", "terms", "known", "many"] (defScope s_sum_form) := ⟨rfl, rfl, rfl, by decide +kernel, rfl, by decide +kernel, by decide +kernel⟩
abbrev s_forms_in : Stmt := top 28
theorem sc_forms_in : FnScope ["net", "case", "many", "known", "bent", "opened", "unit", "k"] ["net", "case"] (defScope s_forms_in) := ⟨rfl, rfl, rfl, by decide +kernel, rfl, by decide +kernel, by decide +kernel⟩
abbrev s_not_above : Stmt := top 29
theorem sc_not_above : FnScope ["form", "number"] ["form", "number"] (defScope s_not_above) := ⟨rfl, rfl, rfl, by decide +kernel, rfl, by decide +kernel, by decide +kernel⟩
abbrev s_not_below : Stmt := top 30
theorem sc_not_below : FnScope ["form", "number", "share"] ["form", "number"] (defScope s_not_below) := ⟨rfl, rfl, rfl, by decide +kernel, rfl, by decide +kernel, by decide +kernel⟩
abbrev s_third_row : Stmt := top 31
theorem sc_third_row : FnScope ["side", "source", "own", "low", "high", "slanted"] ["side", "source", "own"] (defScope s_third_row) := ⟨rfl, rfl, rfl, by decide +kernel, rfl, by decide +kernel, by decide +kernel⟩
abbrev s_rows_of_bend : Stmt := top 32
theorem sc_rows_of_bend : FnScope ["state", "side", "source", "own", "below"] ["state", "side", "source", "own"] (defScope s_rows_of_bend) := ⟨rfl, rfl, rfl, by decide +kernel, rfl, by decide +kernel, by decide +kernel⟩
abbrev s_rows_by : Stmt := top 33
theorem sc_rows_by : FnScope ["net", "sides", "case", "known", "kept", "k", "bent", "place", "source"] ["net", "sides", "case", "known"] (defScope s_rows_by) := ⟨rfl, rfl, rfl, by decide +kernel, rfl, by decide +kernel, by decide +kernel⟩
abbrev s_rows_in : Stmt := top 34
theorem sc_rows_in : FnScope ["net", "box", "case"] ["net", "box", "case"] (defScope s_rows_in) := ⟨rfl, rfl, rfl, by decide +kernel, rfl, by decide +kernel, by decide +kernel⟩
abbrev s_is_side : Stmt := top 37
theorem sc_is_side : FnScope ["thing"] ["thing"] (defScope s_is_side) := ⟨rfl, rfl, rfl, by decide +kernel, rfl, by decide +kernel, by decide +kernel⟩
abbrev s_Box___init__ : Stmt := inClass (top 38) 0
theorem sc_Box___init__ : FnScope ["self", "sides", "side"] ["self", "sides"] (defScope s_Box___init__) := ⟨rfl, rfl, rfl, by decide +kernel, rfl, by decide +kernel, by decide +kernel⟩
abbrev s_Box_told : Stmt := inClass (top 38) 1
theorem sc_Box_told : FnScope ["self"] ["self"] (defScope s_Box_told) := ⟨rfl, rfl, rfl, by decide +kernel, rfl, by decide +kernel, by decide +kernel⟩
abbrev s_is_place : Stmt := top 44
theorem sc_is_place : FnScope ["thing", "many"] ["thing", "many"] (defScope s_is_place) := ⟨rfl, rfl, rfl, by decide +kernel, rfl, by decide +kernel, by decide +kernel⟩
abbrev s_is_term : Stmt := top 45
theorem sc_is_term : FnScope ["thing", "many"] ["thing", "many"] (defScope s_is_term) := ⟨rfl, rfl, rfl, by decide +kernel, rfl, by decide +kernel, by decide +kernel⟩
abbrev s_is_sum : Stmt := top 46
theorem sc_is_sum : FnScope ["thing", "many", "term"] ["thing", "many"] (defScope s_is_sum) := ⟨rfl, rfl, rfl, by decide +kernel, rfl, by decide +kernel, by decide +kernel⟩
abbrev s_is_unit : Stmt := top 47
theorem sc_is_unit : FnScope ["thing", "many"] ["thing", "many"] (defScope s_is_unit) := ⟨rfl, rfl, rfl, by decide +kernel, rfl, by decide +kernel, by decide +kernel⟩
abbrev s_copied_unit : Stmt := top 48
theorem sc_copied_unit : FnScope ["unit"] ["unit"] (defScope s_copied_unit) := ⟨rfl, rfl, rfl, by decide +kernel, rfl, by decide +kernel, by decide +kernel⟩
abbrev s_Net___init__ : Stmt := inClass (top 49) 0
theorem sc_Net___init__ : FnScope ["self", "many", "units", "outs", "unit", "k", "place"] ["self", "many", "units", "outs"] (defScope s_Net___init__) := ⟨rfl, rfl, rfl, by decide +kernel, rfl, by decide +kernel, by decide +kernel⟩
abbrev s_Net_told : Stmt := inClass (top 49) 1
theorem sc_Net_told : FnScope ["self", "unit"] ["self"] (defScope s_Net_told) := ⟨rfl, rfl, rfl, by decide +kernel, rfl, by decide +kernel, by decide +kernel⟩
abbrev s_Net_bends : Stmt := inClass (top 49) 4
theorem sc_Net_bends : FnScope ["self", "k", "unit"] ["self"] (defScope s_Net_bends) := ⟨rfl, rfl, rfl, by decide +kernel, rfl, by decide +kernel, by decide +kernel⟩
abbrev s__law_cell_at : Stmt := top 51
theorem sc__law_cell_at : FnScope ["_law_script", "_law_k"] ["_law_script", "_law_k"] (defScope s__law_cell_at) := ⟨rfl, rfl, rfl, by decide +kernel, rfl, by decide +kernel, by decide +kernel⟩
abbrev s__law_mixed : Stmt := top 52
theorem sc__law_mixed : FnScope ["_law_cell", "_law_k", "_law_number"] ["_law_cell", "_law_k"] (defScope s__law_mixed) := ⟨rfl, rfl, rfl, by decide +kernel, rfl, by decide +kernel, by decide +kernel⟩
abbrev s__law_wide : Stmt := top 53
theorem sc__law_wide : FnScope ["_law_number", "_law_k", "_law_wide_here", "_law_j"] ["_law_number", "_law_k"] (defScope s__law_wide) := ⟨rfl, rfl, rfl, by decide +kernel, rfl, by decide +kernel, by decide +kernel⟩
abbrev s__law_seeds : Stmt := top 54
theorem sc__law_seeds : FnScope ["_law_script", "_law_start", "_law_many_here", "_law_total", "_law_rest", "_law_at", "_law_cell", "_law_seeds_here", "_law_k"] ["_law_script", "_law_start", "_law_many_here"] (defScope s__law_seeds) := ⟨rfl, rfl, rfl, by decide +kernel, rfl, by decide +kernel, by decide +kernel⟩
abbrev s__law_part : Stmt := top 55
theorem sc__law_part : FnScope ["_law_top", "_law_bottom", "_law_rest", "_law_by"] ["_law_top", "_law_bottom"] (defScope s__law_part) := ⟨rfl, rfl, rfl, by decide +kernel, rfl, by decide +kernel, by decide +kernel⟩
abbrev s__law_sum : Stmt := top 56
theorem sc__law_sum : FnScope ["_law_one", "_law_other", "_law_top"] ["_law_one", "_law_other"] (defScope s__law_sum) := ⟨rfl, rfl, rfl, by decide +kernel, rfl, by decide +kernel, by decide +kernel⟩
abbrev s__law_many : Stmt := top 57
theorem sc__law_many : FnScope ["_law_one", "_law_other"] ["_law_one", "_law_other"] (defScope s__law_many) := ⟨rfl, rfl, rfl, by decide +kernel, rfl, by decide +kernel, by decide +kernel⟩
abbrev s__law_taken : Stmt := top 58
theorem sc__law_taken : FnScope ["_law_number", "_law_great", "_law_top", "_law_way", "_law_far", "_law_tail"] ["_law_number", "_law_great"] (defScope s__law_taken) := ⟨rfl, rfl, rfl, by decide +kernel, rfl, by decide +kernel, by decide +kernel⟩
abbrev s__law_small : Stmt := top 59
theorem sc__law_small : FnScope ["_law_number", "_law_great"] ["_law_number", "_law_great"] (defScope s__law_small) := ⟨rfl, rfl, rfl, by decide +kernel, rfl, by decide +kernel, by decide +kernel⟩
abbrev s__law_unit : Stmt := top 60
theorem sc__law_unit : FnScope ["_law_number", "_law_places", "_law_bent", "_law_great", "_law_kind", "_law_way", "_law_more", "_law_left", "_law_terms", "_law_k", "_law_coin", "_law_spot", "_law_share"] ["_law_number", "_law_places", "_law_bent", "_law_great"] (defScope s__law_unit) := ⟨rfl, rfl, rfl, by decide +kernel, rfl, by decide +kernel, by decide +kernel⟩
abbrev s__law_net : Stmt := top 61
theorem sc__law_net : FnScope ["_law_script", "_law_start", "_law_most_bends", "_law_seeds_here", "_law_lead", "_law_more", "_law_many_here", "_law_great", "_law_size", "_law_units", "_law_bends_here", "_law_number", "_law_unit_here", "_law_outs", "_law_k"] ["_law_script", "_law_start", "_law_most_bends"] (defScope s__law_net) := ⟨rfl, rfl, rfl, by decide +kernel, rfl, by decide +kernel, by decide +kernel⟩
abbrev s__law_sides : Stmt := top 62
theorem sc__law_sides : FnScope ["_law_script", "_law_start", "_law_many_here", "_law_sides_here", "_law_number", "_law_low", "_law_wide_here"] ["_law_script", "_law_start", "_law_many_here"] (defScope s__law_sides) := ⟨rfl, rfl, rfl, by decide +kernel, rfl, by decide +kernel, by decide +kernel⟩
abbrev s__law_bends : Stmt := top 63
theorem sc__law_bends : FnScope ["_law_net_here", "_law_k"] ["_law_net_here"] (defScope s__law_bends) := ⟨rfl, rfl, rfl, by decide +kernel, rfl, by decide +kernel, by decide +kernel⟩
abbrev s__law_case : Stmt := top 64
theorem sc__law_case : FnScope ["_law_net_here", "_law_number", "_law_k"] ["_law_net_here", "_law_number"] (defScope s__law_case) := ⟨rfl, rfl, rfl, by decide +kernel, rfl, by decide +kernel, by decide +kernel⟩
abbrev s__law_alike : Stmt := top 65
theorem sc__law_alike : FnScope ["_law_found", "_law_due_here", "_law_one", "_law_other"] ["_law_found", "_law_due_here"] (defScope s__law_alike) := ⟨rfl, rfl, rfl, by decide +kernel, rfl, by decide +kernel, by decide +kernel⟩
abbrev s__law_not_above : Stmt := top 66
theorem sc__law_not_above : FnScope ["_law_form", "_law_number"] ["_law_form", "_law_number"] (defScope s__law_not_above) := ⟨rfl, rfl, rfl, by decide +kernel, rfl, by decide +kernel, by decide +kernel⟩
abbrev s__law_times : Stmt := top 67
theorem sc__law_times : FnScope ["_law_form", "_law_by", "_law_share"] ["_law_form", "_law_by"] (defScope s__law_times) := ⟨rfl, rfl, rfl, by decide +kernel, rfl, by decide +kernel, by decide +kernel⟩
abbrev s__law_both : Stmt := top 68
theorem sc__law_both : FnScope ["_law_one", "_law_other", "_law_first", "_law_second"] ["_law_one", "_law_other"] (defScope s__law_both) := ⟨rfl, rfl, rfl, by decide +kernel, rfl, by decide +kernel, by decide +kernel⟩
abbrev s__law_third : Stmt := top 69
theorem sc__law_third : FnScope ["_law_low", "_law_high", "_law_source", "_law_own", "_law_down", "_law_wide_here", "_law_slanted"] ["_law_low", "_law_high", "_law_source", "_law_own"] (defScope s__law_third) := ⟨rfl, rfl, rfl, by decide +kernel, rfl, by decide +kernel, by decide +kernel⟩
abbrev s__law_due : Stmt := top 70
theorem sc__law_due : FnScope ["_law_told", "_law_case_here", "_law_forms", "_law_sides_here", "_law_down", "_law_rows_due", "_law_k", "_law_state", "_law_place", "_law_at", "_law_source", "_law_own"] ["_law_told", "_law_case_here", "_law_forms", "_law_sides_here"] (defScope s__law_due) := ⟨rfl, rfl, rfl, by decide +kernel, rfl, by decide +kernel, by decide +kernel⟩
abbrev s_law : Stmt := top 71
theorem sc_law : FnScope ["_law_script", "_law_told", "_law_net_here", "_law_sides_here", "_law_boxes_here", "_law_lead", "_law_k", "_law_box", "_law_case_here", "_law_due_here", "_law_found", "_law_shares", "_law_bound", "_law_low", "_law_high"] ["_law_script"] (defScope s_law) := ⟨rfl, rfl, rfl, by decide +kernel, rfl, by decide +kernel, by decide +kernel⟩
structure Fns (K : PySem.W.Frag) (mg : Str → Option Value) (A : Ad) : Prop where
  is_whole : HasFn K mg "is_whole" s_is_whole ["thing"]
  divisor : HasFn K mg "divisor" s_divisor ["one", "other"]
  is_ratio : HasFn K mg "is_ratio" s_is_ratio ["thing"]
  lowest : HasFn K mg "lowest" s_lowest ["top", "bottom"]
  plus : HasFn K mg "plus" s_plus ["one", "other"]
  negated : HasFn K mg "negated" s_negated ["one"]
  minus : HasFn K mg "minus" s_minus ["one", "other"]
  times : HasFn K mg "times" s_times ["one", "other"]
  less : HasFn K mg "less" s_less ["one", "other"]
  added : HasFn K mg "added" s_added ["one", "other"]
  scaled : HasFn K mg "scaled" s_scaled ["form", "by"]
  greater_of : HasFn K mg "greater_of" s_greater_of ["one", "other"]
  span_of_sum : HasFn K mg "span_of_sum" s_span_of_sum ["constant", "terms", "known"]
  spans : HasFn K mg "spans" s_spans ["net", "box"]
  still_form : HasFn K mg "still_form" s_still_form ["many"]
  lone_form : HasFn K mg "lone_form" s_lone_form ["k", "many"]
  sum_form : HasFn K mg "sum_form" s_sum_form ["constant", "terms", "known", "many"]
  forms_in : HasFn K mg "forms_in" s_forms_in ["net", "case"]
  not_above : HasFn K mg "not_above" s_not_above ["form", "number"]
  not_below : HasFn K mg "not_below" s_not_below ["form", "number"]
  third_row : HasFn K mg "third_row" s_third_row ["side", "source", "own"]
  rows_of_bend : HasFn K mg "rows_of_bend" s_rows_of_bend ["state", "side", "source", "own"]
  rows_by : HasFn K mg "rows_by" s_rows_by ["net", "sides", "case", "known"]
  rows_in : HasFn K mg "rows_in" s_rows_in ["net", "box", "case"]
  is_side : HasFn K mg "is_side" s_is_side ["thing"]
  Box___init__ : HasMe K "__init__" "Box.__init__" s_Box___init__ A.Box___init__ ["self", "sides"]
  Box_told : HasMe K "told" "Box.told" s_Box_told A.Box_told ["self"]
  is_place : HasFn K mg "is_place" s_is_place ["thing", "many"]
  is_term : HasFn K mg "is_term" s_is_term ["thing", "many"]
  is_sum : HasFn K mg "is_sum" s_is_sum ["thing", "many"]
  is_unit : HasFn K mg "is_unit" s_is_unit ["thing", "many"]
  copied_unit : HasFn K mg "copied_unit" s_copied_unit ["unit"]
  Net___init__ : HasMe K "__init__" "Net.__init__" s_Net___init__ A.Net___init__ ["self", "many", "units", "outs"]
  Net_told : HasMe K "told" "Net.told" s_Net_told A.Net_told ["self"]
  Net_bends : HasMe K "bends" "Net.bends" s_Net_bends A.Net_bends ["self"]
  _law_cell_at : HasFn K mg "_law_cell_at" s__law_cell_at ["_law_script", "_law_k"]
  _law_mixed : HasFn K mg "_law_mixed" s__law_mixed ["_law_cell", "_law_k"]
  _law_wide : HasFn K mg "_law_wide" s__law_wide ["_law_number", "_law_k"]
  _law_seeds : HasFn K mg "_law_seeds" s__law_seeds ["_law_script", "_law_start", "_law_many_here"]
  _law_part : HasFn K mg "_law_part" s__law_part ["_law_top", "_law_bottom"]
  _law_sum : HasFn K mg "_law_sum" s__law_sum ["_law_one", "_law_other"]
  _law_many : HasFn K mg "_law_many" s__law_many ["_law_one", "_law_other"]
  _law_taken : HasFn K mg "_law_taken" s__law_taken ["_law_number", "_law_great"]
  _law_small : HasFn K mg "_law_small" s__law_small ["_law_number", "_law_great"]
  _law_unit : HasFn K mg "_law_unit" s__law_unit ["_law_number", "_law_places", "_law_bent", "_law_great"]
  _law_net : HasFn K mg "_law_net" s__law_net ["_law_script", "_law_start", "_law_most_bends"]
  _law_sides : HasFn K mg "_law_sides" s__law_sides ["_law_script", "_law_start", "_law_many_here"]
  _law_bends : HasFn K mg "_law_bends" s__law_bends ["_law_net_here"]
  _law_case : HasFn K mg "_law_case" s__law_case ["_law_net_here", "_law_number"]
  _law_alike : HasFn K mg "_law_alike" s__law_alike ["_law_found", "_law_due_here"]
  _law_not_above : HasFn K mg "_law_not_above" s__law_not_above ["_law_form", "_law_number"]
  _law_times : HasFn K mg "_law_times" s__law_times ["_law_form", "_law_by"]
  _law_both : HasFn K mg "_law_both" s__law_both ["_law_one", "_law_other"]
  _law_third : HasFn K mg "_law_third" s__law_third ["_law_low", "_law_high", "_law_source", "_law_own"]
  _law_due : HasFn K mg "_law_due" s__law_due ["_law_told", "_law_case_here", "_law_forms", "_law_sides_here"]
  law : HasFn K mg "law" s_law ["_law_script"]
end BP
end


/-! A1 -/
section
set_option maxHeartbeats 4000000
namespace BP
open PySem L2
def spIsWhole : Sp := fun vs H Q _ => ∃ i : Int, vs = [.int i] ∧ Q (.bl true) H
def spDivisor : Sp := fun vs H Q _ => ∃ a b : Int, vs = [.int a, .int b] ∧ 0 ≤ a ∧ 0 ≤ b ∧ b.natAbs < 2 ^ 8900 ∧ ∀ H', Same H H' → Q (.int (Int.gcd a b : Int)) H'
/-- the quotients by their greatest divisor; the bottom from 1 on -/
def spLowest (K : PySem.W.Frag) : Sp := fun vs H Q _ => ∃ t m : Int, vs = [.int t, .int m] ∧ 0 < m ∧ m.natAbs < 2 ^ 8900 ∧ ∀ H' v, Same H H' → rRat K H' v (mk t m) → Q v H'
/-- two ratios to one -/
def spTwo (K : PySem.W.Frag) (f : Rt → Rt → Rt) : Sp := fun vs H Q _ => ∃ (x y : V) (a b : Rt), vs = [x, y] ∧ rRat K H x a ∧ rRat K H y b ∧ Fit a ∧ Fit b ∧ ∀ H' v, Same H H' → rRat K H' v (f a b) → Q v H'
def spNeg (K : PySem.W.Frag) : Sp := fun vs H Q _ => ∃ (x : V) (a : Rt), vs = [x] ∧ rRat K H x a ∧ ∀ H' v, Same H H' → rRat K H' v (neg a) → Q v H'
def spLess (K : PySem.W.Frag) : Sp := fun vs H Q _ => ∃ (x y : V) (a b : Rt), vs = [x, y] ∧ rRat K H x a ∧ rRat K H y b ∧ Fit a ∧ Fit b ∧ Q (.bl (decide (a.1 * b.2 < b.1 * a.2))) H
def spGreater (K : PySem.W.Frag) : Sp := fun vs H Q _ => ∃ (x y : V) (a b : Rt), vs = [x, y] ∧ rRat K H x a ∧ rRat K H y b ∧ Fit a ∧ Fit b ∧ ∀ v, rRat K H v (if a.1 * b.2 < b.1 * a.2 then b else a) → Q v H
theorem two89 {n : Nat} {x : Int} (hn : n ≤ 8900) (h : x.natAbs < 2 ^ n) : x.natAbs < 2 ^ 8900 := Nat.lt_of_lt_of_le h (Nat.pow_le_pow_right (by decide) hn)
theorem divp_small {i j : Int} (hj : 0 < j) (h : j.natAbs < 2 ^ 8900) : CDivP i j := ⟨hj, PyProof.noPylong_of_log2 (wide_div (i := i) (b := 8900) hj h (by decide) (by decide)).2⟩
theorem divw_small {i j : Int} (hj : 0 < j) (h : j.natAbs < 2 ^ 8900) : CDivW i j := wide_div (b := 8900) hj h (by decide) (by decide)
theorem Fit.mulTB {a b : Rt} (h : Fit a) (h' : Fit b) : CMulW a.1 b.2 := wide_mul (a := 8000) (b := 4000) h.top h'.bot (by decide) (by decide) (by decide)
theorem Fit.mulBB {a b : Rt} (h : Fit a) (h' : Fit b) : CMulW a.2 b.2 := wide_mul (a := 4000) (b := 4000) h.bot h'.bot (by decide) (by decide) (by decide)
theorem Fit.mulTT {a b : Rt} (h : Fit a) (h' : Fit b) : CMulW a.1 b.1 := wide_mul (a := 8000) (b := 8000) h.top h'.top (by decide) (by decide) (by decide)
theorem Fit.bb {a b : Rt} (h : Fit a) (h' : Fit b) : 0 < a.2 * b.2 ∧ (a.2 * b.2).natAbs < 2 ^ 8900 := ⟨Int.mul_pos h.pos h'.pos, two89 (n := 4000 + 4000) (by decide) (wide_lt h.bot h'.bot)⟩
theorem abs_if (t : Int) : (if t < 0 then -t else t) = (t.natAbs : Int) := by
  split <;> omega
section
variable {P : Program} {w : World} {K : PySem.W.Frag} {mg : Str → Option Value} {base : Heap} {A : Ad}
theorem int_ty {H : Hp} {i : Int} : TyX K H (.int i) (.type "int") := .base (.int i)
theorem ok_is_whole (T : Txt K mg A) (F : Fns K mg A) : Kept P w K mg base 1 "is_whole" ["thing"] spIsWhole := kept_of F.is_whole fun f fd Fn => by
  refine Fn.ok sc_is_whole (fun vs H Q E h => ?_) (fun cdv Ar outer s H vs Q E hr h => ?_)
  · obtain ⟨i, rfl, _⟩ := h
    rfl
  · obtain ⟨i, rfl, k⟩ := h
    refine ⟨_, (pss_one (ps_ret (pe_and (pe_callB call_isi (by rfl) T.b_isinstance (by decide +kernel) (pa_cons (pv 0) (pa_cons (pe_bltn (v := .ty "int") rfl T.b_int (by decide +kernel) rfl) pa_nil))) (pe_one (pe_not (pe_callB call_isi (by rfl) T.b_isinstance (by decide +kernel) (pa_cons (pv 0) (pa_cons (pe_bltn (v := .ty "bool") rfl T.b_bool (by decide +kernel) rfl) pa_nil)))))))), ?_⟩
    refine ⟨_, rfl, _, _, _, _, true, rfl, .ty "int", int_ty, kit_ty (by decide +kernel), _, rfl, ?_⟩
    refine iteT ?_
    exact ⟨_, rfl, _, _, _, _, false, rfl, .ty "bool", int_ty, kit_ty (by decide +kernel), _, rfl, k⟩
theorem ok_divisor (T : Txt K mg A) (F : Fns K mg A) : Kept P w K mg base 1 "divisor" ["one", "other"] spDivisor := kept_of F.divisor fun f fd Fn => by
  refine Fn.ok sc_divisor (fun vs H Q E h => ?_) (fun cdv Ar outer s H vs Q E hr h => ?_)
  · obtain ⟨a, b, rfl, _⟩ := h
    rfl
  · obtain ⟨a, b, rfl, ha, hb, hs, k⟩ := h
    refine ⟨_, (pss_cons (ps_while PassesOwn.never (pt_cmpR op_ne (pv 1) pe_int (nomark _))
        (pss_cons (ps_asg (pe_callB call_divmodW (by rfl) T.b_divmod (by decide +kernel) (pa_cons (pv 0) (pa_cons (pv 1) pa_nil))) (pg_tup rfl (pgs_cons (pg_name (i := 2) sc_divisor.nd rfl (Or.inl rfl)) (pgs_cons (pg_name (i := 3) sc_divisor.nd rfl (Or.inl rfl)) pgs_nil))))
        (pss_cons (ps_set (i := 0) sc_divisor.nd rfl (Or.inl rfl) (pv 1))
        (pss_one (ps_set (i := 1) sc_divisor.nd rfl (Or.inl rfl) (pv 3))))))
      (pss_one (ps_ret (pv 0)))), ?_⟩
    refine while_by (fun σ H' => ∃ (x y : Int) (v2 v3 : Option V), σ = [some (.int x), some (.int y), v2, v3] ∧ 0 ≤ x ∧ 0 ≤ y ∧ y.natAbs < 2 ^ 8900 ∧ Int.gcd x y = Int.gcd a b ∧ Same H H')
      (fun σ _ => match σ with | [_, some (.int y), _, _] => y.toNat | _ => 0) ⟨a, b, none, none, rfl, ha, hb, hs, rfl, Same.refl H⟩ ?_ ?_
    · rintro σ H' ⟨x, y, v2, v3, rfl, hx, hy, hs, hg, s0⟩
      refine ⟨_, rfl, rfl, _, rfl, ?_⟩
      by_cases e : y = 0
      · subst e
        refine iteNS rfl ?_
        refine ⟨_, rfl, ?_⟩
        have eg : x = (Int.gcd a b : Int) := by
          rw [← hg, Int.gcd_zero_right]
          omega
        rw [eg]
        exact k H' s0
      · have ey : decide (V.int y = V.int 0) = false := decide_eq_false fun q => e (by injection q)
        rw [ey]
        refine iteT ?_
        have hy0 : 0 < y := by omega
        have h1 := Int.emod_nonneg x (show y ≠ 0 by omega)
        have h2 := Int.emod_lt_of_pos x hy0
        refine ⟨_, rfl, _, rfl, x, y, rfl, divp_small hy0 hs, fun p hp => ?_⟩
        refine ⟨p, _, rfl, SqT.of upd_same, rfl, _, _, rfl, _, _, rfl, rfl, ?_⟩
        refine ⟨_, rfl, _, rfl, ?_⟩
        refine ⟨⟨y, x % y, _, _, rfl, hy, h1, Nat.lt_of_le_of_lt (by omega) hs, ?_, s0.trans (same_new hp)⟩, ?_⟩
        · rw [gcd_step hx hy0, hg]
        · show (x % y).toNat < y.toNat
          omega
    · rintro σ H Q Q' m ⟨v, e, hs, k, ek, q⟩
      exact ⟨v, e, hs, k, ek, m _ _ q⟩
theorem ok_lowest (T : Txt K mg A) (F : Fns K mg A) : Kept P w K mg base 2 "lowest" ["top", "bottom"] (spLowest K) := kept_of F.lowest fun f fd Fn => by
  refine Fn.ok sc_lowest (fun vs H Q E h => ?_) (fun cdv Ar outer s H vs Q E hr h => ?_)
  · obtain ⟨t, m, rfl, _⟩ := h
    rfl
  · obtain ⟨t, m, rfl, hm, hs, k⟩ := h
    refine ⟨_, (pss_cons (ps_set (i := 2) sc_lowest.nd rfl (Or.inl rfl) (pe_k (ok_divisor T F) (hr.mono (by decide)) rfl (pa_cons (pe_callB call_abs (by rfl) T.b_abs (by decide +kernel) (pa_cons (pv 0) pa_nil)) (pa_cons (pe_callB call_abs (by rfl) T.b_abs (by decide +kernel) (pa_cons (pv 1) pa_nil)) pa_nil))))
      (pss_cons (ps_if (pt_cmpR op_lt (pv 1) pe_int (nomark _)) (pss_one (ps_set (i := 2) sc_lowest.nd rfl (Or.inl rfl) (pe_un un_neg (pv 2))))
        pss_nil)
      (pss_one (ps_ret (pe_tup (pa_cons (pe_op op_fdivW (pv 0) (pv 2)) (pa_cons (pe_op op_fdivW (pv 1) (pv 2)) pa_nil))))))), ?_⟩
    refine ⟨_, rfl, _, rfl, _, rfl, _, rfl, ?_⟩
    rw [abs_if, abs_if]
    refine ⟨(t.natAbs : Int), (m.natAbs : Int), rfl, by omega, by omega, by simpa using hs, fun H1 s1 => ?_⟩
    have eg : Int.gcd (t.natAbs : Int) (m.natAbs : Int) = Int.gcd t m := by simp [Int.gcd]
    rw [eg]
    refine ⟨_, rfl, _, _, rfl, rfl, _, rfl, ?_⟩
    rw [decide_eq_false (show ¬ m < 0 by omega)]
    refine iteF ?_
    have g0 : 0 < (Int.gcd t m : Int) := by
      have := gcd_pos (t := t) hm
      omega
    have g1 : ((Int.gcd t m : Int)).natAbs < 2 ^ 8900 := by
      have d : (Int.gcd t m : Int) ∣ m := Int.gcd_dvd_right ..
      have := Int.le_of_dvd hm d
      exact Nat.lt_of_le_of_lt (by omega) hs
    refine ⟨_, rfl, _, rfl, _, _, rfl, rfl, divw_small g0 g1, _, rfl, _, rfl, _, _, rfl, rfl, divw_small g0 g1, by show 2 ≤ sizeLine; decide, fun p hp => ?_⟩
    exact k _ _ (s1.trans (same_new hp)) ⟨p, _, _, rfl, SqT.of upd_same, rfl, rfl⟩
theorem dI {i j : Int} : decide (V.int i = V.int j) = decide (i = j) := by
  by_cases e : i = j
  · subst e
    simp
  · rw [decide_eq_false e, decide_eq_false (fun q => e (by injection q))]
theorem ok_plus (T : Txt K mg A) (F : Fns K mg A) : Kept P w K mg base 3 "plus" ["one", "other"] (spTwo K padd) := kept_of F.plus fun f fd Fn => by
  refine Fn.ok sc_plus (fun vs H Q E h => ?_) (fun cdv Ar outer s H vs Q E hr h => ?_)
  · obtain ⟨x, y, a, b, rfl, _⟩ := h
    rfl
  · obtain ⟨x, y, a, b, rfl, ⟨p, _, _, rfl, qa, rfl, rfl⟩, ⟨p', _, _, rfl, qb, rfl, rfl⟩, fa, fb, k⟩ := h
    refine ⟨_, (pss_cons (ps_if (PW.pt (pw_and (pt_cmpR op_eq (pe_ix ix_tup (pv 0) pe_int (fun _ _ => rfl)) pe_int (nomark _)) (pw_and1 (pt_cmpR op_eq (pe_ix ix_tup (pv 1) pe_int (fun _ _ => rfl)) pe_int (nomark _))))) (pss_one (ps_ret (pe_tup (pa_cons (pe_op op_add (pe_ix ix_tup (pv 0) pe_int (fun _ _ => rfl)) (pe_ix ix_tup (pv 1) pe_int (fun _ _ => rfl))) (pa_cons pe_int pa_nil)))))
        pss_nil)
      (pss_one (ps_ret (pe_k (ok_lowest T F) (hr.mono (by decide)) rfl (pa_cons (pe_op op_add (pe_op op_mulW (pe_ix ix_tup (pv 0) pe_int (fun _ _ => rfl)) (pe_ix ix_tup (pv 1) pe_int (fun _ _ => rfl))) (pe_op op_mulW (pe_ix ix_tup (pv 1) pe_int (fun _ _ => rfl)) (pe_ix ix_tup (pv 0) pe_int (fun _ _ => rfl)))) (pa_cons (pe_op op_mulW (pe_ix ix_tup (pv 0) pe_int (fun _ _ => rfl)) (pe_ix ix_tup (pv 1) pe_int (fun _ _ => rfl))) pa_nil)))))), ?_⟩
    refine ⟨_, rfl, p, _, _, _, rfl, rfl, qa, rfl, rfl, _, rfl, ?_⟩
    rw [dI]
    have bb := fa.bb fb
    by_cases e1 : a.2 = 1
    · rw [decide_eq_true e1]
      refine iteT ⟨_, rfl, p', _, _, _, rfl, rfl, qb, rfl, rfl, _, rfl, ?_⟩
      rw [dI]
      by_cases e2 : b.2 = 1
      · rw [decide_eq_true e2]
        refine iteT ⟨_, rfl, p, _, _, _, rfl, rfl, qa, rfl, _, rfl, p', _, _, _, rfl, rfl, qb, rfl, _, _, rfl, rfl, by show 2 ≤ sizeLine; decide, fun c hc => ?_⟩
        have e : padd a b = (a.1 + b.1, 1) := by
          unfold padd
          rw [e1, e2, Int.mul_one, Int.mul_one, Int.mul_one, mk_one]
        refine k _ _ (same_new hc) ⟨c, _, _, rfl, SqT.of upd_same, ?_, ?_⟩
        · rw [e] <;> rfl
        · rw [e] <;> rfl
      · rw [decide_eq_false e2]
        refine iteF ?_
        exact ⟨_, rfl, p, _, _, _, rfl, rfl, qa, rfl, _, rfl, p', _, _, _, rfl, rfl, qb, rfl, _, _, rfl, rfl, fa.mulTB fb, _, rfl, p', _, _, _, rfl, rfl, qb, rfl, _, rfl, p, _, _, _, rfl, rfl, qa, rfl, _, _, rfl, rfl, fb.mulTB fa, _, _, rfl, rfl,
          _, rfl, p, _, _, _, rfl, rfl, qa, rfl, _, rfl, p', _, _, _, rfl, rfl, qb, rfl, _, _, rfl, rfl, fa.mulBB fb, _, _, rfl, bb.1, bb.2, fun H1 v s1 r => k H1 v s1 r⟩
    · rw [decide_eq_false e1]
      refine iteF (iteF ?_)
      exact ⟨_, rfl, p, _, _, _, rfl, rfl, qa, rfl, _, rfl, p', _, _, _, rfl, rfl, qb, rfl, _, _, rfl, rfl, fa.mulTB fb, _, rfl, p', _, _, _, rfl, rfl, qb, rfl, _, rfl, p, _, _, _, rfl, rfl, qa, rfl, _, _, rfl, rfl, fb.mulTB fa, _, _, rfl, rfl,
        _, rfl, p, _, _, _, rfl, rfl, qa, rfl, _, rfl, p', _, _, _, rfl, rfl, qb, rfl, _, _, rfl, rfl, fa.mulBB fb, _, _, rfl, bb.1, bb.2, fun H1 v s1 r => k H1 v s1 r⟩
theorem ok_times (T : Txt K mg A) (F : Fns K mg A) : Kept P w K mg base 3 "times" ["one", "other"] (spTwo K pmul) := kept_of F.times fun f fd Fn => by
  refine Fn.ok sc_times (fun vs H Q E h => ?_) (fun cdv Ar outer s H vs Q E hr h => ?_)
  · obtain ⟨x, y, a, b, rfl, _⟩ := h
    rfl
  · obtain ⟨x, y, a, b, rfl, ⟨p, _, _, rfl, qa, rfl, rfl⟩, ⟨p', _, _, rfl, qb, rfl, rfl⟩, fa, fb, k⟩ := h
    refine ⟨_, (pss_cons (ps_if (PW.pt (pw_and (pt_cmpR op_eq (pe_ix ix_tup (pv 0) pe_int (fun _ _ => rfl)) pe_int (nomark _)) (pw_and1 (pt_cmpR op_eq (pe_ix ix_tup (pv 1) pe_int (fun _ _ => rfl)) pe_int (nomark _))))) (pss_one (ps_ret (pe_tup (pa_cons (pe_op op_mulW (pe_ix ix_tup (pv 0) pe_int (fun _ _ => rfl)) (pe_ix ix_tup (pv 1) pe_int (fun _ _ => rfl))) (pa_cons pe_int pa_nil)))))
        pss_nil)
      (pss_one (ps_ret (pe_k (ok_lowest T F) (hr.mono (by decide)) rfl (pa_cons (pe_op op_mulW (pe_ix ix_tup (pv 0) pe_int (fun _ _ => rfl)) (pe_ix ix_tup (pv 1) pe_int (fun _ _ => rfl))) (pa_cons (pe_op op_mulW (pe_ix ix_tup (pv 0) pe_int (fun _ _ => rfl)) (pe_ix ix_tup (pv 1) pe_int (fun _ _ => rfl))) pa_nil)))))), ?_⟩
    refine ⟨_, rfl, p, _, _, _, rfl, rfl, qa, rfl, rfl, _, rfl, ?_⟩
    rw [dI]
    have bb := fa.bb fb
    by_cases e1 : a.2 = 1
    · rw [decide_eq_true e1]
      refine iteT ⟨_, rfl, p', _, _, _, rfl, rfl, qb, rfl, rfl, _, rfl, ?_⟩
      rw [dI]
      by_cases e2 : b.2 = 1
      · rw [decide_eq_true e2]
        refine iteT ⟨_, rfl, p, _, _, _, rfl, rfl, qa, rfl, _, rfl, p', _, _, _, rfl, rfl, qb, rfl, _, _, rfl, rfl, fa.mulTT fb, by show 2 ≤ sizeLine; decide, fun c hc => ?_⟩
        have e : pmul a b = (a.1 * b.1, 1) := by
          unfold pmul
          rw [e1, e2, Int.mul_one, mk_one]
        refine k _ _ (same_new hc) ⟨c, _, _, rfl, SqT.of upd_same, ?_, ?_⟩
        · rw [e] <;> rfl
        · rw [e] <;> rfl
      · rw [decide_eq_false e2]
        refine iteF ?_
        exact ⟨_, rfl, p, _, _, _, rfl, rfl, qa, rfl, _, rfl, p', _, _, _, rfl, rfl, qb, rfl, _, _, rfl, rfl, fa.mulTT fb,
          _, rfl, p, _, _, _, rfl, rfl, qa, rfl, _, rfl, p', _, _, _, rfl, rfl, qb, rfl, _, _, rfl, rfl, fa.mulBB fb, _, _, rfl, bb.1, bb.2, fun H1 v s1 r => k H1 v s1 r⟩
    · rw [decide_eq_false e1]
      refine iteF (iteF ?_)
      exact ⟨_, rfl, p, _, _, _, rfl, rfl, qa, rfl, _, rfl, p', _, _, _, rfl, rfl, qb, rfl, _, _, rfl, rfl, fa.mulTT fb,
        _, rfl, p, _, _, _, rfl, rfl, qa, rfl, _, rfl, p', _, _, _, rfl, rfl, qb, rfl, _, _, rfl, rfl, fa.mulBB fb, _, _, rfl, bb.1, bb.2, fun H1 v s1 r => k H1 v s1 r⟩
theorem ok_negated (T : Txt K mg A) (F : Fns K mg A) : Kept P w K mg base 1 "negated" ["one"] (spNeg K) := kept_of F.negated fun f fd Fn => by
  refine Fn.ok sc_negated (fun vs H Q E h => ?_) (fun cdv Ar outer s H vs Q E hr h => ?_)
  · obtain ⟨x, a, rfl, _⟩ := h
    rfl
  · obtain ⟨x, a, rfl, ⟨p, _, _, rfl, qa, rfl, rfl⟩, k⟩ := h
    refine ⟨_, (pss_one (ps_ret (pe_tup (pa_cons (pe_un un_neg (pe_ix ix_tup (pv 0) pe_int (fun _ _ => rfl))) (pa_cons (pe_ix ix_tup (pv 0) pe_int (fun _ _ => rfl)) pa_nil))))), ?_⟩
    refine ⟨_, rfl, p, _, _, _, rfl, rfl, qa, rfl, _, rfl, _, rfl, p, _, _, _, rfl, rfl, qa, rfl, by show 2 ≤ sizeLine; decide, fun c hc => ?_⟩
    exact k _ _ (same_new hc) ⟨c, _, _, rfl, SqT.of upd_same, rfl, rfl⟩
theorem Fit.neg {a : Rt} (h : Fit a) : Fit (neg a) := ⟨h.pos, h.bot, by show (-a.1).natAbs < _; rw [Int.natAbs_neg]; exact h.top⟩
theorem ok_minus (T : Txt K mg A) (F : Fns K mg A) : Kept P w K mg base 4 "minus" ["one", "other"] (spTwo K fun a b => padd a (neg b)) := kept_of F.minus fun f fd Fn => by
  refine Fn.ok sc_minus (fun vs H Q E h => ?_) (fun cdv Ar outer s H vs Q E hr h => ?_)
  · obtain ⟨x, y, a, b, rfl, _⟩ := h
    rfl
  · obtain ⟨x, y, a, b, rfl, ha, hb, fa, fb, k⟩ := h
    refine ⟨_, (pss_one (ps_ret (pe_k (ok_plus T F) (hr.mono (by decide)) rfl (pa_cons (pv 0) (pa_cons (pe_k (ok_negated T F) (hr.mono (by decide)) rfl (pa_cons (pv 1) pa_nil)) pa_nil))))), ?_⟩
    refine ⟨_, rfl, _, rfl, y, b, rfl, hb, fun H1 v s1 r1 => ?_⟩
    exact ⟨x, v, a, neg b, rfl, t_rat.mon _ _ _ _ s1 ha, r1, fa, fb.neg, fun H2 u s2 r2 => k H2 u (s1.trans s2) r2⟩
theorem ok_less (T : Txt K mg A) (F : Fns K mg A) : Kept P w K mg base 1 "less" ["one", "other"] (spLess K) := kept_of F.less fun f fd Fn => by
  refine Fn.ok sc_less (fun vs H Q E h => ?_) (fun cdv Ar outer s H vs Q E hr h => ?_)
  · obtain ⟨x, y, a, b, rfl, _⟩ := h
    rfl
  · obtain ⟨x, y, a, b, rfl, ⟨p, _, _, rfl, qa, rfl, rfl⟩, ⟨p', _, _, rfl, qb, rfl, rfl⟩, fa, fb, k⟩ := h
    refine ⟨_, (pss_one (ps_ret (pe_cmpR op_lt (pe_op op_mulW (pe_ix ix_tup (pv 0) pe_int (fun _ _ => rfl)) (pe_ix ix_tup (pv 1) pe_int (fun _ _ => rfl))) (pe_op op_mulW (pe_ix ix_tup (pv 1) pe_int (fun _ _ => rfl)) (pe_ix ix_tup (pv 0) pe_int (fun _ _ => rfl))) (nomark _)))), ?_⟩
    exact ⟨_, rfl, p, _, _, _, rfl, rfl, qa, rfl, _, rfl, p', _, _, _, rfl, rfl, qb, rfl, _, _, rfl, rfl, fa.mulTB fb, _, rfl, p', _, _, _, rfl, rfl, qb, rfl, _, rfl, p, _, _, _, rfl, rfl, qa, rfl, _, _, rfl, rfl, fb.mulTB fa, _, _, rfl, rfl, k⟩
theorem ok_greater_of (T : Txt K mg A) (F : Fns K mg A) : Kept P w K mg base 2 "greater_of" ["one", "other"] (spGreater K) := kept_of F.greater_of fun f fd Fn => by
  refine Fn.ok sc_greater_of (fun vs H Q E h => ?_) (fun cdv Ar outer s H vs Q E hr h => ?_)
  · obtain ⟨x, y, a, b, rfl, _⟩ := h
    rfl
  · obtain ⟨x, y, a, b, rfl, ha, hb, fa, fb, k⟩ := h
    refine ⟨_, (pss_cons (ps_if (pt_val (pe_k (ok_less T F) (hr.mono (by decide)) rfl (pa_cons (pv 0) (pa_cons (pv 1) pa_nil)))) (pss_one (ps_ret (pv 1)))
        pss_nil)
      (pss_one (ps_ret (pv 0)))), ?_⟩
    refine ⟨_, rfl, _, rfl, x, y, a, b, rfl, ha, hb, fa, fb, _, rfl, ?_⟩
    refine ite2 (fun e => ?_) (fun e => ?_)
    · refine ⟨_, rfl, k _ ?_⟩
      rw [if_pos (of_decide_eq_true e)]
      exact hb
    · refine ⟨_, rfl, k _ ?_⟩
      rw [if_neg (fun q => e (decide_eq_true q))]
      exact ha
end
end BP
end


/-! A2 -/
section
set_option maxHeartbeats 4000000
namespace BP
open PySem L2
/-! ### a comprehension whose items are told by out -/
theorem lc_h {β : Type} {J : It} {n : Nat} {G : Hp → Prop} {Y : Nat → Hp → V → Hp → Prop} {g : TG} {tt : TT} {te : TE} {ws : List Nat} {σ : L2.St} {H1 : Hp} {D : Addr} {Qd : Hp → Prop} {R : Rp β}
    (hR : MonR R) (w : Walk J n G Y) (out : List β) (hn : out.length = n) (hz : n ≤ 10000) (hD : H1 D = none) (hG : ∀ H', Same H1 H' → G H') (hY : ∀ i Hc x H', Y i Hc x H' → Same Hc H')
    (hs : ∀ i x Hc H' y (Z : VK) (N : Hp → Prop), i < n → out[i]? = some y → Same H1 Hc → Y i Hc x H' → (∀ v H4, Same H' H4 → R (fr H' H4) v y → Z v H4) →
      g x (wipe σ ws) H' fun σ2 H2 => wipe σ2 ws = wipe σ ws ∧ tt σ2 H2 fun b H3 => if b = true then te σ2 H3 Z else N H3)
    (hd : ∀ H' vs, Same H1 H' → H' D = some (.lst vs) → Paired (R (hide D (fr H1 H'))) vs out → Qd H') : ∃ W : Nat → Nat → Hp → Prop, (∃ m, W 0 m (upd H1 D (.lst []))) ∧ ∀ i m H, W i m H →
      (J.stop i H ∧ Qd H) ∨ (J.go i H ∧ ∃ Nx : Hp → Prop, (∀ H', Nx H' → ∃ m', m' < m ∧ W (i + 1) m' H') ∧ ∀ x H', J.yld i H x H' → g x (wipe σ ws) H' fun σ2 H2 => wipe σ2 ws = wipe σ ws ∧ tt σ2 H2 fun b H3 => if b = true then te σ2 H3 fun y H4 => ∃ acc, H4 D = some (.lst acc) ∧ acc.length < sizeLine ∧ Nx (upd H4 D (.lst (acc ++ [y]))) else Nx H3) := by
  refine lc_it w (fun i Hc => Same H1 Hc ∧ ∃ vs, Hc D = some (.lst vs) ∧ Paired (R (hide D (fr H1 Hc))) vs (out.take i)) ⟨same_new hD, [], upd_same, .nil⟩ (fun i H _ h => hG H h.1) ?_ ?_
  · rintro i x Hc H' hi ⟨s1, vs, hv, hp⟩ y1
    have hio : i < out.length := by omega
    have ho : out[i]? = some out[i] := List.getElem?_eq_getElem hio
    have s2 := hY _ _ _ _ y1
    refine hs i x Hc H' out[i] _ _ hi ho s1 y1 fun v H4 s4 r => ?_
    have e4 : H4 D = some (.lst vs) := s4 _ _ (s2 _ _ hv)
    have hl := hp.length
    rw [List.length_take] at hl
    refine ⟨vs, e4, Nat.lt_of_le_of_lt (show vs.length ≤ 10000 by omega) (by decide), same_mut ((s1.trans s2).trans s4) hD, _, upd_same, ?_⟩
    rw [hide_fr_upd, take_next ho]
    exact (p_sm hR (same_hide (fr_mono (s2.trans s4))) hp).snoc (hR _ _ _ _ (fr_in (s1.trans s2) (s2 _ _ hv)) r)
  · rintro H ⟨s1, vs, hv, hp⟩
    rw [List.take_of_length_le (Nat.le_of_eq hn)] at hp
    exact hd H vs s1 hv hp
theorem lc_m {β : Type} {J : It} {n : Nat} {G : Hp → Prop} {Y : Nat → Hp → V → Hp → Prop} {g : TG} {tt : TT} {te : TE} {ws : List Nat} {σ : L2.St} {H1 : Hp} {D : Addr} {Qd : Hp → Prop} {R : Rp β}
    (hR : MonR R) (w : Walk J n G Y) (out : List β) (hn : out.length = n) (hz : n ≤ 10000) (hD : H1 D = none) (hG : ∀ H', Same H1 H' → G H') (hY : ∀ i Hc x H', Y i Hc x H' → Same Hc H')
    (hs : ∀ i x Hc H' y (Z : VK) (N : Hp → Prop), i < n → out[i]? = some y → Same H1 Hc → Y i Hc x H' → (∀ v H4, Same H' H4 → R (fr H' H4) v y → Z v H4) →
      g x (wipe σ ws) H' fun σ2 H2 => wipe σ2 ws = wipe σ ws ∧ tt σ2 H2 fun b H3 => if b = true then te σ2 H3 Z else N H3)
    (hd : ∀ H', Same H1 H' → rLst R (fr H1 H') (.ref D) out → Qd H') : ∃ W : Nat → Nat → Hp → Prop, (∃ m, W 0 m (upd H1 D (.lst []))) ∧ ∀ i m H, W i m H →
      (J.stop i H ∧ Qd H) ∨ (J.go i H ∧ ∃ Nx : Hp → Prop, (∀ H', Nx H' → ∃ m', m' < m ∧ W (i + 1) m' H') ∧ ∀ x H', J.yld i H x H' → g x (wipe σ ws) H' fun σ2 H2 => wipe σ2 ws = wipe σ ws ∧ tt σ2 H2 fun b H3 => if b = true then te σ2 H3 fun y H4 => ∃ acc, H4 D = some (.lst acc) ∧ acc.length < sizeLine ∧ Nx (upd H4 D (.lst (acc ++ [y]))) else Nx H3) :=
  lc_h hR w out hn hz hD hG hY hs fun H' vs s1 hv hp => hd H' s1 ⟨D, vs, rfl, by rw [fr_new hD]; exact hv, p_sm hR hide_sub hp⟩
theorem yat_same {xs : List V} {i : Nat} {Hc H' : Hp} {x : V} (h : YAt xs i Hc x H') : Same Hc H' := by
  obtain ⟨rfl, _⟩ := h
  exact Same.refl _
theorem ypair_same {xs ys : Nat → Option V} {i : Nat} {Hc H' : Hp} {x : V} (h : YPair xs ys i Hc x H') : Same Hc H' := by
  obtain ⟨T, u, v, _, hT, rfl, _⟩ := h
  exact same_new hT
theorem yfn_same {f : Nat → V} {i : Nat} {Hc H' : Hp} {x : V} (h : YFn f i Hc x H') : Same Hc H' := by
  obtain ⟨rfl, _⟩ := h
  exact Same.refl _
/-! ### the promises -/
def spAdded (K : PySem.W.Frag) : Sp := fun vs H Q _ => ∃ (x y : V) (f g : List Rt), vs = [x, y] ∧ rForm K H x f ∧ rForm K H y g ∧ f.length = g.length ∧ f.length ≤ 100 ∧ (∀ r ∈ f, Fit r) ∧ (∀ r ∈ g, Fit r) ∧
  ∀ H' v, Same H H' → rForm K (fr H H') v (addF f g) → Q v H'
def spScaled (K : PySem.W.Frag) : Sp := fun vs H Q _ => ∃ (x y : V) (f : List Rt) (b : Rt), vs = [x, y] ∧ rForm K H x f ∧ rRat K H y b ∧ f.length ≤ 100 ∧ (∀ r ∈ f, Fit r) ∧ Fit b ∧
  ∀ H' v, Same H H' → rForm K (fr H H') v (scaleF f b) → Q v H'
def spStill (K : PySem.W.Frag) : Sp := fun vs H Q _ => ∃ m : Nat, vs = [.int (m : Int)] ∧ m ≤ 90 ∧ ∀ H' v, Same H H' → rForm K (fr H H') v (still m) → Q v H'
def spLone (K : PySem.W.Frag) : Sp := fun vs H Q _ => ∃ k m : Nat, vs = [.int (k : Int), .int (m : Int)] ∧ k < m ∧ m ≤ 90 ∧ ∀ H' v, Same H H' → rForm K (fr H H') v (lone k m) → Q v H'
def spSumForm (K : PySem.W.Frag) : Sp := fun vs H Q _ => ∃ (x y z : V) (n m : Nat) (c : Rt) (ts : List (Nat × Rt)) (known : List (List Rt)), vs = [x, y, z, .int (m : Int)] ∧ rRat K H x c ∧ rLst (rTerm K) H y ts ∧ rLst (rForm K) H z known ∧
  n ≤ 40 ∧ m ≤ 90 ∧ KF n m known ∧ Sh c ∧ TOk known.length ts ∧ ts.length ≤ 3 ∧ ∀ H' v, Same H H' → rForm K (fr H H') v (sumForm known m c ts) → Q v H'
def spSpanSum (K : PySem.W.Frag) : Sp := fun vs H Q _ => ∃ (x y z : V) (n : Nat) (c : Rt) (ts : List (Nat × Rt)) (known : List (Rt × Rt)), vs = [x, y, z] ∧ rRat K H x c ∧ rLst (rTerm K) H y ts ∧ rLst (rSpan K) H z known ∧
  n ≤ 40 ∧ KS n known ∧ Sh c ∧ TOk known.length ts ∧ ts.length ≤ 3 ∧ ∀ H' v, Same H H' → rSpan K H' v (spanSum known c ts) → Q v H'
section
variable {P : Program} {w : World} {K : PySem.W.Frag} {mg : Str → Option Value} {base : Heap} {A : Ad}
theorem ok_added (T : Txt K mg A) (F : Fns K mg A) : Kept P w K mg base 4 "added" ["one", "other"] (spAdded K) := kept_of F.added fun f fd Fn => by
  refine Fn.ok sc_added (fun vs H Q E h => ?_) (fun cdv Ar outer s H vs Q E hr h => ?_)
  · obtain ⟨x, y, f, g, rfl, _⟩ := h
    rfl
  · obtain ⟨x, y, f, g, rfl, ⟨a, us, rfl, ha, pa⟩, ⟨b, ws, rfl, hb, pb⟩, hl, hz, ff, fg, k⟩ := h
    refine ⟨_, (pss_one (ps_ret (pe_lc (g := gTup K 2 (gCons (gName 2) (gCons (gName 3) (gNil)))) (tt := tYes) (own := [("first", 2), ("second", 3)]) (by rfl) sc_added.nd (pi_zip (by rfl) T.b_zip (pa_cons (pv 0) (pa_cons (pv 1) pa_nil))) (blkOk_by (own := [("first", 2), ("second", 3)]) (N := ["one", "other", "first", "second"]) (sc := defScope s_added) (by decide +kernel)) (fun _ _ _ _ _ => by exact (pg_tup rfl (pgs_cons (pg_name (i := 2) sc_added.nd rfl (Or.inl rfl)) (pgs_cons (pg_name (i := 3) sc_added.nd rfl (Or.inl rfl)) pgs_nil)))) (fun _ _ _ _ _ => pts_nil) (fun _ _ _ _ _ => (pe_k (ok_plus T F) (hr.mono (by decide)) rfl (pa_cons (pv 2) (pa_cons (pv 3) pa_nil))))))), ?_⟩
    have la := pa.length
    have lb := pb.length
    refine ⟨_, rfl, _, rfl, a, b, us, ws, rfl, SqL.of ha, SqL.of hb, fun D hD => lc_m (R := rRat K) t_rat.mon (walk_zip (n := f.length) (by omega)) (addF f g) (by unfold addF; rw [List.length_zipWith]; omega) (by omega) hD
      (fun H' s => ⟨SqL.of (s _ _ ha), SqL.of (s _ _ hb)⟩) (fun _ _ _ _ h => ypair_same h) ?_ fun H' s r => k H' _ s r⟩
    rintro i x Hc H' y Z N hi ho s1 ⟨T1, u, v, rfl, hT, rfl, hu, hv⟩ hZ
    obtain ⟨r1, e1, q1⟩ := pr_get pa hu
    obtain ⟨r2, e2, q2⟩ := pr_get pb hv
    have ey : y = padd r1 r2 := by
      unfold addF at ho
      rw [List.getElem?_zipWith, e1, e2] at ho
      exact (Option.some.inj ho).symm
    have s2 : Same Hc (upd Hc T1 (.tup [u, v])) := same_new hT
    refine ⟨T1, _, rfl, SqT.of upd_same, rfl, _, _, rfl, _, _, rfl, rfl, rfl, ?_⟩
    refine ⟨_, rfl, _, rfl, u, v, r1, r2, rfl, t_rat.mon _ _ _ _ (s1.trans s2) q1, t_rat.mon _ _ _ _ (s1.trans s2) q2, ff _ (List.mem_of_getElem? e1), fg _ (List.mem_of_getElem? e2), fun H4 z s4 r => ?_⟩
    rw [ey] at hZ
    exact hZ z H4 s4 (t_rat _ _ _ _ (tk_fr s4) r)
theorem ok_scaled (T : Txt K mg A) (F : Fns K mg A) : Kept P w K mg base 4 "scaled" ["form", "by"] (spScaled K) := kept_of F.scaled fun f fd Fn => by
  refine Fn.ok sc_scaled (fun vs H Q E h => ?_) (fun cdv Ar outer s H vs Q E hr h => ?_)
  · obtain ⟨x, y, f, g, rfl, _⟩ := h
    rfl
  · obtain ⟨x, y, f, b, rfl, ⟨a, us, rfl, ha, pa⟩, hb, hz, ff, fb, k⟩ := h
    refine ⟨_, (pss_one (ps_ret (pe_lc (g := gName 2) (tt := tYes) (own := [("share", 2)]) (by rfl) sc_scaled.nd (pi_list (pv 0)) (blkOk_by (own := [("share", 2)]) (N := ["form", "by", "share"]) (sc := defScope s_scaled) (by decide +kernel)) (fun _ _ _ _ _ => by exact (pg_name (i := 2) sc_scaled.nd rfl (Or.inl rfl))) (fun _ _ _ _ _ => pts_nil) (fun _ _ _ _ _ => (pe_k (ok_times T F) (hr.mono (by decide)) rfl (pa_cons (pv 2) (pa_cons (pv 1) pa_nil))))))), ?_⟩
    have la := pa.length
    refine ⟨_, rfl, a, rfl, ⟨_, SqL.of ha⟩, fun D hD => lc_m (R := rRat K) t_rat.mon walk_list (scaleF f b) (by unfold scaleF; rw [List.length_map]; omega) (by omega) hD
      (fun H' s => SqL.of (s _ _ ha)) (fun _ _ _ _ h => yat_same h) ?_ fun H' s r => k H' _ s r⟩
    rintro i x Hc H' z Z N hi ho s1 ⟨rfl, hu⟩ hZ
    obtain ⟨r1, e1, q1⟩ := pr_get pa hu
    have ez : z = pmul r1 b := by
      unfold scaleF at ho
      rw [List.getElem?_map, e1] at ho
      exact (Option.some.inj ho).symm
    refine ⟨rfl, ?_⟩
    refine ⟨_, rfl, _, rfl, x, y, r1, b, rfl, t_rat.mon _ _ _ _ s1 q1, t_rat.mon _ _ _ _ s1 hb, ff _ (List.mem_of_getElem? e1), fb, fun H4 v s4 r => ?_⟩
    rw [ez] at hZ
    exact hZ v H4 s4 (t_rat _ _ _ _ (tk_fr s4) r)
theorem rep_paired {H : Hp} {a : Addr} {r : Rt} (h : SqT K H a [.int r.1, .int r.2]) : ∀ n, Paired (rRat K H) (List.replicate n (V.ref a)) (List.replicate n r)
  | 0 => .nil
  | n + 1 => .cons ⟨a, _, _, rfl, h, rfl, rfl⟩ (rep_paired h n)
theorem ok_still_form (T : Txt K mg A) (F : Fns K mg A) : Kept P w K mg base 1 "still_form" ["many"] (spStill K) := kept_of F.still_form fun f fd Fn => by
  refine Fn.ok sc_still_form (fun vs H Q E h => ?_) (fun cdv Ar outer s H vs Q E hr h => ?_)
  · obtain ⟨m, rfl, _⟩ := h
    rfl
  · obtain ⟨m, rfl, hm, k⟩ := h
    refine ⟨_, (pss_one (ps_ret (pe_op op_rep (pe_lst (pa_cons (pe_glob (v := .ref A.aN) rfl T.gN rfl) pa_nil)) (pe_op op_add pe_int (pv 0))))), ?_⟩
    have sz : (sizeLine : Nat) = 16777216 := sizeLine_eq
    refine ⟨by show 1 ≤ sizeLine; decide, fun l hl => ⟨_, rfl, _, _, rfl, rfl, l, (1 + m : Int), _, rfl, rfl, upd_same, by omega, by omega, ?_, fun p hp => ?_⟩⟩
    · have e : (1 + (m : Int)).toNat = 1 + m := by omega
      rw [e, sz]
      show 1 * (1 + m) ≤ 16777216
      omega
    · have s1 : Same H (upd H l (.lst [.ref A.aN])) := same_new hl
      refine k _ _ (s1.trans (same_new hp)) ⟨p, List.replicate (1 + m) (.ref A.aN), rfl, ?_, rep_paired (T.tN _) _⟩
      rw [fr_new (s1.free hp), upd_same]
      have e : (1 + (m : Int)).toNat = 1 + m := by omega
      rw [e]
      have e2 : (List.replicate (1 + m) [V.ref A.aN]).flatten = List.replicate (1 + m) (.ref A.aN) := by simp
      rw [e2]
theorem fr_fresh {H H' : Hp} {p : Addr} {xs : List V} (s : Same H H') (h : fr H H' p = some (.lst xs)) : H p = none := by
  cases e : H p with
  | none => rfl
  | some o =>
    have e2 := s _ _ e
    have e3 := fr_sub _ _ h
    rw [e2] at e3
    cases e3
    rw [fr_old e] at h
    cases h
theorem p_set {α : Type} {F : V → α → Prop} {v : V} {x : α} (h : F v x) : ∀ {vs : List V} {xs : List α} (i : Nat), Paired F vs xs → Paired F (vs.set i v) (xs.set i x)
  | _, _, _, .nil => .nil
  | _, _, 0, .cons _ t => .cons h t
  | _, _, i + 1, .cons r t => .cons r (p_set h i t)
theorem tk_in {H H1 : Hp} {p : Addr} {xs : List V} {o : HO} (s : Same H H1) (n : H p = none) (h : H1 p = some (.lst xs)) : Tk K (fr H H1) (fr H (upd H1 p o)) :=
  ((same_tup fr_sub).trans (tk_upd h)).trans (tk_fr (same_mut s n))
theorem set_form {H H1 : Hp} {p : Addr} {vs : List V} {f : List Rt} {v : V} {r : Rt} (s : Same H H1) (h : fr H H1 p = some (.lst vs)) (pf : Paired (rRat K (fr H H1)) vs f) (hr : rRat K H1 v r) (j : Nat) :
    rForm K (fr H (upd H1 p (.lst (vs.set j v)))) (.ref p) (f.set j r) := by
  have n := fr_fresh s h
  have e := fr_sub _ _ h
  have tk : Tk K (fr H H1) (fr H (upd H1 p (.lst (vs.set j v)))) := tk_in s n e
  refine ⟨p, vs.set j v, rfl, by rw [fr_new n, upd_same], p_set ?_ j (p_tk t_rat tk pf)⟩
  exact t_rat _ _ _ _ ((tk_fr s).trans tk) hr
theorem ixN_nat {n j : Nat} (h : j < n) : ixN n (j : Int) = some j := by
  unfold ixN
  rw [if_pos (by omega), if_pos (by omega)]
  simp
theorem ok_lone_form (T : Txt K mg A) (F : Fns K mg A) : Kept P w K mg base 2 "lone_form" ["k", "many"] (spLone K) := kept_of F.lone_form fun f fd Fn => by
  refine Fn.ok sc_lone_form (fun vs H Q E h => ?_) (fun cdv Ar outer s H vs Q E hr h => ?_)
  · obtain ⟨j, m, rfl, _⟩ := h
    rfl
  · obtain ⟨j, m, rfl, hj, hm, k⟩ := h
    refine ⟨_, (pss_cons (ps_set (i := 2) sc_lone_form.nd rfl (Or.inl rfl) (pe_k (ok_still_form T F) (hr.mono (by decide)) rfl (pa_cons (pv 1) pa_nil)))
      (pss_cons (ps_asg (pe_glob (v := .ref A.aO) rfl T.gO rfl) (pg_sub (pv 2) (pe_op op_add pe_int (pv 0)) set_list))
      (pss_one (ps_ret (pv 2))))), ?_⟩
    refine ⟨_, rfl, m, rfl, hm, ?_⟩
    rintro H1 v s1 ⟨p, us, rfl, hp, pp⟩
    have hl := pp.length
    rw [still_len] at hl
    refine ⟨_, rfl, _, rfl, _, _, rfl, rfl, p, us, 1 + (j : Int), 1 + j, rfl, rfl, fr_sub _ _ hp, ?_, ?_⟩
    · have e : 1 + (j : Int) = ((1 + j : Nat) : Int) := by omega
      rw [e]
      exact ixN_nat (by omega)
    · refine ⟨_, rfl, ?_⟩
      exact k _ _ (same_mut s1 (fr_fresh s1 hp)) (set_form (r := z1) s1 hp pp ⟨A.aO, _, _, rfl, T.tO _, rfl, rfl⟩ _)
theorem ok_sum_form (T : Txt K mg A) (F : Fns K mg A) : Kept P w K mg base 5 "sum_form" ["constant", "terms", "known", "many"] (spSumForm K) := kept_of F.sum_form fun f fd Fn => by
  refine Fn.ok sc_sum_form (fun vs H Q E h => ?_) (fun cdv Ar outer s H vs Q E hr h => ?_)
  · obtain ⟨x, y, z, n, m, c, ts, known, rfl, _⟩ := h
    rfl
  · obtain ⟨x, y, z, n, m, c, ts, known, rfl, hx, ⟨a, us, rfl, ha, pa⟩, ⟨b, ks, rfl, hb, pb⟩, hn, hm, hk, hc, ht, hl, k⟩ := h
    refine ⟨_, (pss_cons (ps_set (i := 4) sc_sum_form.nd rfl (Or.inl rfl) (pe_k (ok_still_form T F) (hr.mono (by decide)) rfl (pa_cons (pv 3) pa_nil)))
      (pss_cons (ps_asg (pv 0) (pg_sub (pv 4) pe_int set_list))
      (pss_cons (ps_for PassesOwn.never rfl (pi_list (pv 1)) (pg_tup rfl (pgs_cons (pg_name (i := 5) sc_sum_form.nd rfl (Or.inl rfl)) (pgs_cons (pg_name (i := 6) sc_sum_form.nd rfl (Or.inl rfl)) pgs_nil)))
        (pss_one (ps_set (i := 4) sc_sum_form.nd rfl (Or.inl rfl) (pe_k (ok_added T F) (hr.mono (by decide)) rfl (pa_cons (pv 4) (pa_cons (pe_k (ok_scaled T F) (hr.mono (by decide)) rfl (pa_cons (pe_ix ix_list (pv 2) (pv 5) (fun _ _ => rfl)) (pa_cons (pv 6) pa_nil))) pa_nil))))))
      (pss_one (ps_ret (pv 4)))))), ?_⟩
    refine ⟨_, rfl, m, rfl, hm, ?_⟩
    rintro H1 v s1 ⟨p, ws, rfl, hp, pp⟩
    have hwl := pp.length
    rw [still_len] at hwl
    refine ⟨_, rfl, _, rfl, p, ws, 0, 0, rfl, rfl, fr_sub _ _ hp, ixN_nat (j := 0) (by omega), ?_⟩
    have n1 := fr_fresh s1 hp
    refine ⟨_, rfl, a, rfl, ⟨us, SqL.of (same_mut s1 n1 _ _ ha)⟩, for_list (K := K) (a := a) (xs := us) (fun i σ Hc => ∃ (v : V) (v5 v6 : Option V), σ = [some x, some (.ref a), some (.ref b), some (.int (m : Int)), some v, v5, v6] ∧ Same H Hc ∧
      rForm K (fr H Hc) v (sumForm known m c (ts.take i))) ⟨_, none, none, rfl, same_mut s1 n1, set_form s1 hp pp (t_rat.mon _ _ _ _ s1 hx) 0⟩ (fun i σ Hc _ ⟨_, _, _, _, sc, _⟩ => SqL.of (sc _ _ ha)) ?_ ?_⟩
    · rintro i u σ Hc hi ⟨v, v5, v6, rfl, sc, rv⟩
      obtain ⟨t, et, a2, _, _, rfl, q2, rfl, rs⟩ := pr_get pa hi
      obtain ⟨t1, t2⟩ := ht _ (List.mem_of_getElem? et)
      have eg : known[t.1]? = some (known.getD t.1 []) := by
        rw [List.getD_eq_getElem?_getD, List.getElem?_eq_getElem t1]
        rfl
      obtain ⟨kv, ek, rk⟩ := pr_at pb eg
      obtain ⟨f1, f2⟩ := hk _ (getD_mem (d := []) t1)
      have bd := sumForm_lv (ts := ts.take i) hk hc (ht.take i) (take_len hl i)
      refine ⟨a2, _, rfl, same_tup sc _ _ q2, rfl, _, _, rfl, _, _, rfl, rfl, ?_⟩
      refine ⟨_, rfl, _, rfl, _, rfl, b, ks, _, kv, rfl, rfl, SqL.of (sc _ _ hb), atI_nat ek, _, rfl, kv, _, known.getD t.1 [], t.2, rfl, m_form _ _ _ _ sc rk, t_rat.mon _ _ _ _ sc rs, by omega, fun r hr => (f2 r hr).fit (by omega), t2.fit, fun H2 v2 s2 r2 => ?_⟩
      refine ⟨v, v2, sumForm known m c (ts.take i), scaleF (known.getD t.1 []) t.2, rfl, m_form _ _ _ _ (fr_sub (H := H)) (m_form _ _ _ _ (fr_mono s2) rv), m_form _ _ _ _ fr_sub r2, ?_, by omega, fun r hr => (bd.2 r hr).fit (by omega), fun r hr => ?_, fun H3 v3 s3 r3 => ?_⟩
      · unfold scaleF
        rw [List.length_map, bd.1, f1]
      · obtain ⟨q, hq, e⟩ := List.mem_map.mp hr
        rw [← e]
        exact (share_lv' t2 (f2 q hq)).fit (by omega)
      · refine ⟨v3, _, _, rfl, (sc.trans s2).trans s3, ?_⟩
        have e : sumForm known m c (ts.take (i + 1)) = addF (sumForm known m c (ts.take i)) (scaleF (known.getD t.1 []) t.2) := by
          unfold sumForm
          rw [foldl_next et]
          rfl
        rw [e]
        exact m_form _ _ _ _ (fr_from (sc.trans s2)) r3
    · rintro σ Hc ⟨v, v5, v6, rfl, sc, rv⟩
      rw [List.take_of_length_le (by rw [pa.length]; exact Nat.le_refl _)] at rv
      exact ⟨_, rfl, k _ _ sc rv⟩
def tHalf (K : PySem.W.Frag) (i : Nat) (j : Int) : TS := tAsg (tCall (spTwo K padd) [] E0 (tCons (tVar i) (tCons (tCall (spTwo K pmul) [] E0 (tCons (tVar 6) (tCons (tOp (rIxT K) (tVar 7) (tC (.int j))) tNil))) tNil))) (gName i)
theorem span_rest {x0 x1 x2 v3 v4 e vs : V} {v5 : Option V} {H : Hp} {D : Ends} {a b s : Rt} {E : Rt × Rt} (h3 : rRat K H v3 a) (h4 : rRat K H v4 b) (he : rSpan K H e E) (hs : rRat K H vs s)
    (fa : Fit a) (fb : Fit b) (fs : Fit s) (f1 : Fit E.1) (f2 : Fit E.2) (g1 : Fit (pmul s E.1)) (g2 : Fit (pmul s E.2))
    (k : ∀ (w3 w4 : V) H2, Same H H2 → rRat K H2 w3 (padd a (pmul s E.1)) → rRat K H2 w4 (padd b (pmul s E.2)) → D.nx [some x0, some x1, some x2, some w3, some w4, v5, some vs, some e] H2) :
    tSeq (tHalf K 3 0) (tHalf K 4 1) D [some x0, some x1, some x2, some v3, some v4, v5, some vs, some e] H := by
  obtain ⟨p, y1, y2, rfl, q, r1, r2⟩ := he
  refine ⟨_, rfl, _, rfl, _, rfl, p, _, _, y1, rfl, rfl, q, rfl, vs, y1, s, E.1, rfl, hs, r1, fs, f1, fun H1 u1 s1 k1 => ?_⟩
  refine ⟨v3, u1, a, _, rfl, t_rat.mon _ _ _ _ s1 h3, k1, fa, g1, fun H2 u2 s2 k2 => ?_⟩
  have s12 := s1.trans s2
  refine ⟨_, rfl, _, rfl, _, rfl, p, _, _, y2, rfl, rfl, same_tup s12 _ _ q, rfl, vs, y2, s, E.2, rfl, t_rat.mon _ _ _ _ s12 hs, t_rat.mon _ _ _ _ s12 r2, fs, f2, fun H3 u3 s3 k3 => ?_⟩
  refine ⟨v4, u3, b, _, rfl, t_rat.mon _ _ _ _ (s12.trans s3) h4, k3, fb, g2, fun H4 u4 s4 k4 => ?_⟩
  exact k u2 u4 H4 ((s12.trans s3).trans s4) (t_rat.mon _ _ _ _ (s3.trans s4) k2) k4
theorem ok_span_of_sum (T : Txt K mg A) (F : Fns K mg A) : Kept P w K mg base 4 "span_of_sum" ["constant", "terms", "known"] (spSpanSum K) := kept_of F.span_of_sum fun f fd Fn => by
  refine Fn.ok sc_span_of_sum (fun vs H Q E h => ?_) (fun cdv Ar outer s H vs Q E hr h => ?_)
  · obtain ⟨x, y, z, n, c, ts, known, rfl, _⟩ := h
    rfl
  · obtain ⟨x, y, z, n, c, ts, known, rfl, hx, ⟨a, us, rfl, ha, pa⟩, ⟨b, ks, rfl, hb, pb⟩, hn, hk, hc, ht, hl, k⟩ := h
    refine ⟨_, (pss_cons (ps_set (i := 3) sc_span_of_sum.nd rfl (Or.inl rfl) (pv 0))
      (pss_cons (ps_set (i := 4) sc_span_of_sum.nd rfl (Or.inl rfl) (pv 0))
      (pss_cons (ps_for PassesOwn.never rfl (pi_list (pv 1)) (pg_tup rfl (pgs_cons (pg_name (i := 5) sc_span_of_sum.nd rfl (Or.inl rfl)) (pgs_cons (pg_name (i := 6) sc_span_of_sum.nd rfl (Or.inl rfl)) pgs_nil)))
        (pss_cons (ps_set (i := 7) sc_span_of_sum.nd rfl (Or.inl rfl) (pe_ix ix_list (pv 2) (pv 5) (fun _ _ => rfl)))
        (pss_cons (ps_if (pt_val (pe_k (ok_less T F) (hr.mono (by decide)) rfl (pa_cons (pv 6) (pa_cons (pe_glob (v := .ref A.aN) rfl T.gN rfl) pa_nil)))) (pss_one (ps_set (i := 7) sc_span_of_sum.nd rfl (Or.inl rfl) (pe_tup (pa_cons (pe_ix ix_tup (pv 7) pe_int (fun _ _ => rfl)) (pa_cons (pe_ix ix_tup (pv 7) pe_int (fun _ _ => rfl)) pa_nil)))))
          pss_nil)
        (pss_cons (ps_set (i := 3) sc_span_of_sum.nd rfl (Or.inl rfl) (pe_k (ok_plus T F) (hr.mono (by decide)) rfl (pa_cons (pv 3) (pa_cons (pe_k (ok_times T F) (hr.mono (by decide)) rfl (pa_cons (pv 6) (pa_cons (pe_ix ix_tup (pv 7) pe_int (fun _ _ => rfl)) pa_nil))) pa_nil))))
        (pss_one (ps_set (i := 4) sc_span_of_sum.nd rfl (Or.inl rfl) (pe_k (ok_plus T F) (hr.mono (by decide)) rfl (pa_cons (pv 4) (pa_cons (pe_k (ok_times T F) (hr.mono (by decide)) rfl (pa_cons (pv 6) (pa_cons (pe_ix ix_tup (pv 7) pe_int (fun _ _ => rfl)) pa_nil))) pa_nil)))))))))
      (pss_one (ps_ret (pe_tup (pa_cons (pv 3) (pa_cons (pv 4) pa_nil)))))))), ?_⟩
    refine ⟨_, rfl, _, rfl, ?_⟩
    refine ⟨_, rfl, a, rfl, ⟨us, SqL.of ha⟩, for_list (K := K) (a := a) (xs := us) (fun i σ Hc => ∃ (v3 v4 : V) (v5 v6 v7 : Option V), σ = [some x, some (.ref a), some (.ref b), some v3, some v4, v5, v6, v7] ∧ Same H Hc ∧
      rRat K Hc v3 (spanSum known c (ts.take i)).1 ∧ rRat K Hc v4 (spanSum known c (ts.take i)).2) ⟨x, x, none, none, none, rfl, Same.refl H, hx, hx⟩ (fun i σ Hc _ ⟨_, _, _, _, _, _, sc, _⟩ => SqL.of (sc _ _ ha)) ?_ ?_⟩
    · rintro i u σ Hc hi ⟨v3, v4, v5, v6, v7, rfl, sc, r3, r4⟩
      obtain ⟨t, et, a2, _, y2, rfl, q2, rfl, rs⟩ := pr_get pa hi
      obtain ⟨t1, t2⟩ := ht _ (List.mem_of_getElem? et)
      have eg : known[t.1]? = some (known.getD t.1 dflE) := by
        rw [List.getD_eq_getElem?_getD, List.getElem?_eq_getElem t1]
        rfl
      obtain ⟨kv, ek, rk⟩ := pr_at pb eg
      have hkt := hk _ (getD_mem (d := dflE) t1)
      have bd := spanSum_lv (ts := ts.take i) hk hc (ht.take i) (take_len hl i)
      have hsw := swap_lv (s := t.2) hkt
      refine ⟨a2, _, rfl, same_tup sc _ _ q2, rfl, _, _, rfl, _, _, rfl, rfl, ?_⟩
      have rsc := t_rat.mon _ _ _ _ sc rs
      refine ⟨_, rfl, _, rfl, b, ks, _, kv, rfl, rfl, SqL.of (sc _ _ hb), atI_nat ek, ?_⟩
      refine ⟨_, rfl, _, _, t.2, z0, rfl, rsc, ⟨A.aN, _, _, rfl, T.tN _, rfl, rfl⟩, t2.fit, (Lv.zero 1).fit (by decide), _, rfl, ?_⟩
      have es : spanSum known c (ts.take (i + 1)) = spanTerm known (spanSum known c (ts.take i)) t := by
        unfold spanSum
        rw [foldl_next et]
      have fin : ∀ (e : V) (H1 : Hp), Same Hc H1 → ∀ (w3 w4 : V) H2, Same H1 H2 → rRat K H2 w3 (padd (spanSum known c (ts.take i)).1 (pmul t.2 (swapE t.2 (known.getD t.1 dflE)).1)) → rRat K H2 w4 (padd (spanSum known c (ts.take i)).2 (pmul t.2 (swapE t.2 (known.getD t.1 dflE)).2)) →
          ∃ (v3 v4 : V) (v5 v6 v7 : Option V), [some x, some (.ref a), some (.ref b), some w3, some w4, some (.int (t.1 : Int)), some y2, some e] = [some x, some (.ref a), some (.ref b), some v3, some v4, v5, v6, v7] ∧ Same H H2 ∧
            rRat K H2 v3 (spanSum known c (ts.take (i + 1))).1 ∧ rRat K H2 v4 (spanSum known c (ts.take (i + 1))).2 := fun e H1 s1 w3 w4 H2 s2 k3 k4 => by
        rw [es]
        exact ⟨w3, w4, _, _, _, rfl, (sc.trans s1).trans s2, k3, k4⟩
      have b1 := bd.1.fit (by omega)
      have b2 := bd.2.fit (by omega)
      have c1 := hsw.1.fit (show n ≤ 60 by omega)
      have c2 := hsw.2.fit (show n ≤ 60 by omega)
      have d1 := (share_lv t2 hsw.1).fit (show n + 1 ≤ 60 by omega)
      have d2 := (share_lv t2 hsw.2).fit (show n + 1 ≤ 60 by omega)
      have em : t.2.1 * z0.2 < z0.1 * t.2.2 ↔ t.2.1 < 0 := by
        show t.2.1 * 1 < 0 * t.2.2 ↔ t.2.1 < 0
        rw [Int.mul_one, Int.zero_mul]
      refine ite2 (fun e => ?_) (fun e => ?_)
      · have lt := em.mp (of_decide_eq_true e)
        obtain ⟨p3, y3, y4, rfl, q3, w1, w2⟩ := t_span.mon _ _ _ _ sc rk
        refine ⟨_, rfl, p3, _, _, y4, rfl, rfl, q3, rfl, _, rfl, p3, _, _, y3, rfl, rfl, q3, rfl, by show 2 ≤ sizeLine; decide, fun p hp => ?_⟩
        have s1 : Same Hc (upd Hc p (.tup [y4, y3])) := same_new hp
        have ew : swapE t.2 (known.getD t.1 dflE) = ((known.getD t.1 dflE).2, (known.getD t.1 dflE).1) := if_pos lt
        exact span_rest (E := swapE t.2 (known.getD t.1 dflE)) (t_rat.mon _ _ _ _ s1 r3) (t_rat.mon _ _ _ _ s1 r4) (by rw [ew]; exact ⟨p, _, _, rfl, SqT.of upd_same, t_rat.mon _ _ _ _ s1 w2, t_rat.mon _ _ _ _ s1 w1⟩) (t_rat.mon _ _ _ _ s1 rsc) b1 b2 t2.fit c1 c2 d1 d2
          (fin _ _ s1)
      · have nlt : ¬ t.2.1 < 0 := fun q => e (decide_eq_true (em.mpr q))
        have ew : swapE t.2 (known.getD t.1 dflE) = known.getD t.1 dflE := if_neg nlt
        exact span_rest (E := swapE t.2 (known.getD t.1 dflE)) r3 r4 (by rw [ew]; exact t_span.mon _ _ _ _ sc rk) rsc b1 b2 t2.fit c1 c2 d1 d2 (fin _ _ (Same.refl _))
    · rintro σ Hc ⟨v3, v4, v5, v6, v7, rfl, sc, r3, r4⟩
      rw [List.take_of_length_le (by rw [pa.length]; exact Nat.le_refl _)] at r3 r4
      refine ⟨_, rfl, _, rfl, by show 2 ≤ sizeLine; decide, fun p hp => ?_⟩
      exact k _ _ (sc.trans (same_new hp)) ⟨p, _, _, rfl, SqT.of upd_same, t_rat.mon _ _ _ _ (same_new hp) r3, t_rat.mon _ _ _ _ (same_new hp) r4⟩
end
end BP
end


/-! A3 -/
section
set_option maxHeartbeats 4000000
namespace BP
open PySem L2
theorem sIx_one (n : Nat) (h : 1 ≤ n) : HT.sIx n 0 (some (1 : Int)) = 1 := by
  have e := HT.sIx_nat n 0 1
  have e1 : ((1 : Nat) : Int) = 1 := rfl
  rw [e1] at e
  rw [e]
  omega
theorem cut_tail {xs : List V} (h : 1 ≤ xs.length) : cutV xs (some 1) none = xs.tail := by
  unfold cutV
  rw [sIx_one _ h, HT.sIx_none, List.drop_one, List.take_of_length_le]
  rw [List.length_tail]
  exact Nat.le_refl _
theorem p_tail {α : Type} {F : V → α → Prop} {vs : List V} {xs : List α} (h : Paired F vs xs) : Paired F vs.tail xs.tail := by
  cases h with
  | nil => exact .nil
  | cons r t => exact t
theorem p_head {F : V → Rt → Prop} {vs : List V} {xs : List Rt} (h : Paired F vs xs) (hl : 1 ≤ xs.length) : ∃ u, vs[0]? = some u ∧ F u (xs.headD z0) := by
  cases h with
  | nil => simp at hl
  | cons r t => exact ⟨_, rfl, r⟩
theorem headD_mem {xs : List Rt} (hl : 1 ≤ xs.length) : xs.headD z0 ∈ xs := by
  cases xs with
  | nil => simp at hl
  | cons a r => exact List.mem_cons_self
section
variable {K : PySem.W.Frag}
theorem mk_row {H Hc : Hp} {q : Addr} {vf vr : V} {f : List Rt} {r : Rt} (s : Same H Hc) (n : Hc q = none) (hf : rForm K (fr H Hc) vf f) (hr : rRat K Hc vr r) : rRow K (fr H (upd Hc q (.tup [vf, vr]))) (.ref q) (f, r) :=
  ⟨q, vf, vr, rfl, SqT.of (by rw [fr_new (s.free n), upd_same]), m_form _ _ _ _ (fr_mono (same_new n)) hf, t_rat _ _ _ _ ((same_tup (same_new n)).trans (tk_fr (s.trans (same_new n)))) hr⟩
end
/-! ### the promises -/
def spNotAbove (K : PySem.W.Frag) : Sp := fun vs H Q _ => ∃ (x y : V) (f : List Rt) (r : Rt), vs = [x, y] ∧ rForm K H x f ∧ rRat K H y r ∧ 1 ≤ f.length ∧ f.length ≤ 100 ∧ (∀ q ∈ f, Fit q) ∧ Fit r ∧ ∀ H' v, Same H H' → rRow K (fr H H') v (naF f r) → Q v H'
def spNotBelow (K : PySem.W.Frag) : Sp := fun vs H Q _ => ∃ (x y : V) (f : List Rt) (r : Rt), vs = [x, y] ∧ rForm K H x f ∧ rRat K H y r ∧ 1 ≤ f.length ∧ f.length ≤ 100 ∧ (∀ q ∈ f, Fit q) ∧ Fit r ∧ ∀ H' v, Same H H' → rRow K (fr H H') v (nbF f r) → Q v H'
def spThird (K : PySem.W.Frag) : Sp := fun vs H Q _ => ∃ (x y z : V) (e : Rt × Rt) (src own : List Rt), vs = [x, y, z] ∧ rSpan K H x e ∧ rForm K H y src ∧ rForm K H z own ∧ 1 ≤ own.length ∧ own.length ≤ 100 ∧ src.length = own.length ∧
  (Lv 20 e.1 ∧ Lv 20 e.2) ∧ (∀ q ∈ src, Lv 20 q) ∧ (∀ q ∈ own, Lv 20 q) ∧ ∀ H' v, Same H H' → rRow K (fr H H') v (thirdF e src own) → Q v H'
def spBendRows (K : PySem.W.Frag) : Sp := fun vs H Q _ => ∃ (c x y z : V) (st : C3) (e : Rt × Rt) (src own : List Rt), vs = [c, x, y, z] ∧ rC3 H c st ∧ rSpan K H x e ∧ rForm K H y src ∧ rForm K H z own ∧ 1 ≤ own.length ∧ own.length ≤ 100 ∧ src.length = own.length ∧
  (Lv 20 e.1 ∧ Lv 20 e.2) ∧ (∀ q ∈ src, Lv 20 q) ∧ (∀ q ∈ own, Lv 20 q) ∧ ∀ H' v, Same H H' → rLst (rRow K) (fr H H') v (bendRows st e src own) → Q v H'
section
variable {P : Program} {w : World} {K : PySem.W.Frag} {mg : Str → Option Value} {base : Heap} {A : Ad}
theorem rN (T : Txt K mg A) (H : Hp) : rRat K H (.ref A.aN) z0 := ⟨A.aN, _, _, rfl, T.tN _, rfl, rfl⟩
theorem rO (T : Txt K mg A) (H : Hp) : rRat K H (.ref A.aO) z1 := ⟨A.aO, _, _, rfl, T.tO _, rfl, rfl⟩
theorem ok_not_above (T : Txt K mg A) (F : Fns K mg A) : Kept P w K mg base 5 "not_above" ["form", "number"] (spNotAbove K) := kept_of F.not_above fun f fd Fn => by
  refine Fn.ok sc_not_above (fun vs H Q E h => ?_) (fun cdv Ar outer s H vs Q E hr h => ?_)
  · obtain ⟨x, y, f, r, rfl, _⟩ := h
    rfl
  · obtain ⟨x, y, f, r, rfl, ⟨a, us, rfl, ha, pa⟩, hy, h1, h2, ff, fr', k⟩ := h
    refine ⟨_, (pss_one (ps_ret (pe_tup (pa_cons (pe_slice sl_list (pv 0) (po_some pe_int) po_none) (pa_cons (pe_k (ok_minus T F) (hr.mono (by decide)) rfl (pa_cons (pv 1) (pa_cons (pe_ix ix_list (pv 0) pe_int (fun _ _ => rfl)) pa_nil))) pa_nil))))), ?_⟩
    have la := pa.length
    obtain ⟨u, eu, ru⟩ := p_head pa h1
    refine ⟨_, rfl, 1, rfl, a, us, rfl, SqL.of ha, fun p hp => ?_⟩
    have s1 : Same H (upd H p (.lst (cutV us (some 1) none))) := same_new hp
    refine ⟨_, rfl, _, rfl, a, us, 0, u, rfl, rfl, SqL.of (s1 _ _ ha), atI_nat (j := 0) eu, y, u, r, f.headD z0, rfl, t_rat.mon _ _ _ _ s1 hy, t_rat.mon _ _ _ _ s1 ru, fr', ff _ (headD_mem h1), fun H2 v2 s2 r2 => ?_⟩
    refine ⟨by show 2 ≤ sizeLine; decide, fun q hq => ?_⟩
    have s12 := s1.trans s2
    refine k _ _ (s12.trans (same_new hq)) (mk_row s12 hq ⟨p, us.tail, rfl, ?_, ?_⟩ r2)
    · rw [fr_new hp, ← cut_tail (by omega)]
      exact s2 _ _ upd_same
    · exact p_tk t_rat ((same_tup s12).trans (tk_fr s12)) (p_tail pa)
theorem ok_not_below (T : Txt K mg A) (F : Fns K mg A) : Kept P w K mg base 5 "not_below" ["form", "number"] (spNotBelow K) := kept_of F.not_below fun f fd Fn => by
  refine Fn.ok sc_not_below (fun vs H Q E h => ?_) (fun cdv Ar outer s H vs Q E hr h => ?_)
  · obtain ⟨x, y, f, r, rfl, _⟩ := h
    rfl
  · obtain ⟨x, y, f, r, rfl, ⟨a, us, rfl, ha, pa⟩, hy, h1, h2, ff, fr', k⟩ := h
    refine ⟨_, (pss_one (ps_ret (pe_tup (pa_cons (pe_lc (g := gName 2) (tt := tYes) (own := [("share", 2)]) (by rfl) sc_not_below.nd (pi_list (pe_slice sl_list (pv 0) (po_some pe_int) po_none)) (blkOk_by (own := [("share", 2)]) (N := ["form", "number", "share"]) (sc := defScope s_not_below) (by decide +kernel)) (fun _ _ _ _ _ => by exact (pg_name (i := 2) sc_not_below.nd rfl (Or.inl rfl))) (fun _ _ _ _ _ => pts_nil) (fun _ _ _ _ _ => (pe_k (ok_negated T F) (hr.mono (by decide)) rfl (pa_cons (pv 2) pa_nil)))) (pa_cons (pe_k (ok_minus T F) (hr.mono (by decide)) rfl (pa_cons (pe_ix ix_list (pv 0) pe_int (fun _ _ => rfl)) (pa_cons (pv 1) pa_nil))) pa_nil))))), ?_⟩
    have la := pa.length
    obtain ⟨u, eu, ru⟩ := p_head pa h1
    refine ⟨_, rfl, 1, rfl, a, us, rfl, SqL.of ha, fun p hp => ?_⟩
    have s1 : Same H (upd H p (.lst (cutV us (some 1) none))) := same_new hp
    have et : cutV us (some 1) none = us.tail := cut_tail (by omega)
    have hp1 : upd H p (.lst (cutV us (some 1) none)) p = some (.lst us.tail) := by rw [upd_same, et]
    refine ⟨p, rfl, ⟨_, SqL.of hp1⟩, fun D hD => lc_m (R := rRat K) t_rat.mon walk_list (f.tail.map neg) (by rw [List.length_map, List.length_tail, List.length_tail]; omega) (by rw [List.length_tail]; omega) hD
      (fun H' s => SqL.of (s _ _ hp1)) (fun _ _ _ _ h => yat_same h) ?_ fun H' s rl => ?_⟩
    · rintro i x Hc H' z Z N hi ho sc ⟨rfl, hu⟩ hZ
      obtain ⟨q, e1, q1⟩ := pr_get (p_tail pa) hu
      have ez : z = neg q := by
        rw [List.getElem?_map, e1] at ho
        exact (Option.some.inj ho).symm
      refine ⟨rfl, ?_⟩
      refine ⟨_, rfl, x, q, rfl, t_rat.mon _ _ _ _ (s1.trans sc) q1, fun H4 v s4 r => ?_⟩
      rw [ez] at hZ
      exact hZ v H4 s4 (t_rat _ _ _ _ (tk_fr s4) r)
    · have s2 := s1.trans s
      refine ⟨_, rfl, a, us, 0, u, rfl, rfl, SqL.of (s2 _ _ ha), atI_nat (j := 0) eu, _, rfl, u, y, f.headD z0, r, rfl, t_rat.mon _ _ _ _ s2 ru, t_rat.mon _ _ _ _ s2 hy, ff _ (headD_mem h1), fr', fun H2 v2 s3 r2 => ?_⟩
      refine ⟨by show 2 ≤ sizeLine; decide, fun q hq => ?_⟩
      have s23 := s2.trans s3
      refine k _ _ (s23.trans (same_new hq)) (mk_row s23 hq (m_form _ _ _ _ (fun b o h => fr_mono s3 _ _ (fr_from s1 _ _ h)) rl) r2)
theorem add_lv {n : Nat} {f g : List Rt} (hf : ∀ r ∈ f, Lv n r) (hg : ∀ r ∈ g, Lv n r) : ∀ r ∈ addF f g, Lv (n + 1) r := zip_all (P := fun r => Lv n r) (Q := fun r => Lv n r) (fun a b h1 h2 => Lv.add h1 h2) hf hg
theorem scale_lv {n m : Nat} {f : List Rt} {b : Rt} (hf : ∀ r ∈ f, Lv n r) (hb : Lv m b) : ∀ r ∈ scaleF f b, Lv (n + m) r := fun r hr => by
  obtain ⟨q, hq, e⟩ := List.mem_map.mp hr
  rw [← e]
  exact Lv.mul (hf q hq) hb
theorem lv_fit {n : Nat} {f : List Rt} (h : ∀ r ∈ f, Lv n r) (hn : n ≤ 60) : ∀ r ∈ f, Fit r := fun r hr => (h r hr).fit hn
theorem scale_len (f : List Rt) (b : Rt) : (scaleF f b).length = f.length := List.length_map ..
theorem add_len {f g : List Rt} (h : f.length = g.length) : (addF f g).length = g.length := by
  unfold addF
  rw [List.length_zipWith]
  omega
theorem ok_third_row (T : Txt K mg A) (F : Fns K mg A) : Kept P w K mg base 6 "third_row" ["side", "source", "own"] (spThird K) := kept_of F.third_row fun f fd Fn => by
  refine Fn.ok sc_third_row (fun vs H Q E h => ?_) (fun cdv Ar outer s H vs Q E hr h => ?_)
  · obtain ⟨x, y, z, e, src, own, rfl, _⟩ := h
    rfl
  · obtain ⟨x, y, z, e, src, own, rfl, ⟨p, lo, hi, rfl, hp, rl, rh⟩, hs, ho, h1, h2, hl, ⟨el, eh⟩, fs, fo, k⟩ := h
    refine ⟨_, (pss_cons (ps_asg (pv 0) (pg_tup rfl (pgs_cons (pg_name (i := 3) sc_third_row.nd rfl (Or.inl rfl)) (pgs_cons (pg_name (i := 4) sc_third_row.nd rfl (Or.inl rfl)) pgs_nil))))
      (pss_cons (ps_if (pt_not (pt_val (pe_k (ok_less T F) (hr.mono (by decide)) rfl (pa_cons (pv 3) (pa_cons (pe_glob (v := .ref A.aN) rfl T.gN rfl) pa_nil))))) (pss_one (ps_ret (pe_k (ok_not_above T F) (hr.mono (by decide)) rfl (pa_cons (pe_k (ok_added T F) (hr.mono (by decide)) rfl (pa_cons (pv 2) (pa_cons (pe_k (ok_scaled T F) (hr.mono (by decide)) rfl (pa_cons (pv 1) (pa_cons (pe_k (ok_negated T F) (hr.mono (by decide)) rfl (pa_cons (pe_glob (v := .ref A.aO) rfl T.gO rfl) pa_nil)) pa_nil))) pa_nil))) (pa_cons (pe_glob (v := .ref A.aN) rfl T.gN rfl) pa_nil)))))
        pss_nil)
      (pss_cons (ps_if (pt_not (pt_val (pe_k (ok_less T F) (hr.mono (by decide)) rfl (pa_cons (pe_glob (v := .ref A.aN) rfl T.gN rfl) (pa_cons (pv 4) pa_nil))))) (pss_one (ps_ret (pe_k (ok_not_above T F) (hr.mono (by decide)) rfl (pa_cons (pv 2) (pa_cons (pe_glob (v := .ref A.aN) rfl T.gN rfl) pa_nil)))))
        pss_nil)
      (pss_cons (ps_set (i := 5) sc_third_row.nd rfl (Or.inl rfl) (pe_k (ok_added T F) (hr.mono (by decide)) rfl (pa_cons (pe_k (ok_scaled T F) (hr.mono (by decide)) rfl (pa_cons (pv 2) (pa_cons (pe_k (ok_minus T F) (hr.mono (by decide)) rfl (pa_cons (pv 4) (pa_cons (pv 3) pa_nil))) pa_nil))) (pa_cons (pe_k (ok_scaled T F) (hr.mono (by decide)) rfl (pa_cons (pv 1) (pa_cons (pe_k (ok_negated T F) (hr.mono (by decide)) rfl (pa_cons (pv 4) pa_nil)) pa_nil))) pa_nil))))
      (pss_one (ps_ret (pe_k (ok_not_above T F) (hr.mono (by decide)) rfl (pa_cons (pv 5) (pa_cons (pe_k (ok_negated T F) (hr.mono (by decide)) rfl (pa_cons (pe_k (ok_times T F) (hr.mono (by decide)) rfl (pa_cons (pv 4) (pa_cons (pv 3) pa_nil))) pa_nil)) pa_nil))))))))), ?_⟩
    refine ⟨_, rfl, p, _, rfl, hp, rfl, _, _, rfl, _, _, rfl, rfl, ?_⟩
    refine ⟨_, rfl, lo, _, e.1, z0, rfl, rl, rN T _, el.fit (by decide), (Lv.zero 1).fit (by decide), _, rfl, ?_⟩
    have em : e.1.1 * z0.2 < z0.1 * e.1.2 ↔ ¬ 0 ≤ e.1.1 := by
      show e.1.1 * 1 < 0 * e.1.2 ↔ _
      rw [Int.mul_one, Int.zero_mul]
      omega
    have eh2 : z0.1 * e.2.2 < e.2.1 * z0.2 ↔ ¬ e.2.1 ≤ 0 := by
      show 0 * e.2.2 < e.2.1 * 1 ↔ _
      rw [Int.mul_one, Int.zero_mul]
      omega
    have zf : Fit z0 := (Lv.zero 1).fit (by decide)
    by_cases c1 : 0 ≤ e.1.1
    · rw [decide_eq_false (fun q => (em.mp q) c1)]
      have ds : ∀ r ∈ downF src, Lv 21 r := scale_lv fs (Lv.down 1)
      have fo21 : ∀ r ∈ own, Lv 21 r := fun r h => (fo r h).mono (by decide)
      refine iteT ⟨_, rfl, _, rfl, _, z1, rfl, rO T _, fun H1 v1 s1 r1 => ?_⟩
      refine ⟨y, v1, src, neg z1, rfl, m_form _ _ _ _ s1 hs, r1, by omega, lv_fit fs (by decide), (Lv.one 1).neg.fit (by decide), fun H2 v2 s2 r2 => ?_⟩
      refine ⟨z, v2, own, downF src, rfl, m_form _ _ _ _ (s1.trans s2) ho, m_form _ _ _ _ fr_sub r2, ?_, by omega, lv_fit fo (by decide), lv_fit ds (by decide), fun H3 v3 s3 r3 => ?_⟩
      · show own.length = (scaleF src (-1, 1)).length
        rw [scale_len, hl]
      · have s13 := (s1.trans s2).trans s3
        refine ⟨v3, _, addF own (downF src), z0, rfl, m_form _ _ _ _ fr_sub r3, rN T _, ?_, ?_, lv_fit (add_lv fo21 ds) (by decide), zf, fun H4 v4 s4 r4 => ?_⟩
        · rw [add_len (by show own.length = (scaleF src (-1, 1)).length; rw [scale_len, hl])]
          show 1 ≤ (scaleF src (-1, 1)).length
          rw [scale_len]
          omega
        · rw [add_len (by show own.length = (scaleF src (-1, 1)).length; rw [scale_len, hl])]
          show (scaleF src (-1, 1)).length ≤ 100
          rw [scale_len]
          omega
        · refine k H4 v4 (s13.trans s4) ?_
          have et : thirdF e src own = naF (addF own (downF src)) z0 := if_pos c1
          rw [et]
          exact m_row _ _ _ _ (fr_from s13) r4
    · rw [decide_eq_true (em.mpr c1)]
      refine iteF ⟨_, rfl, _, _, z0, e.2, rfl, rN T _, rh, zf, eh.fit (by decide), _, rfl, ?_⟩
      by_cases c2 : e.2.1 ≤ 0
      · rw [decide_eq_false (fun q => (eh2.mp q) c2)]
        refine iteT ⟨_, rfl, z, _, own, z0, rfl, ho, rN T _, h1, h2, lv_fit fo (by decide), zf, fun H4 v4 s4 r4 => ?_⟩
        refine k H4 v4 s4 ?_
        have et : thirdF e src own = naF own z0 := by
          unfold thirdF
          rw [if_neg c1, if_pos c2]
        rw [et]
        exact r4
      · rw [decide_eq_true (eh2.mpr c2)]
        have wd : Lv 21 (padd e.2 (neg e.1)) := Lv.add eh el.neg
        have so : ∀ r ∈ scaleF own (padd e.2 (neg e.1)), Lv 41 r := scale_lv fo wd
        have ss : ∀ r ∈ scaleF src (neg e.2), Lv 41 r := fun r h => (scale_lv fs eh.neg r h).mono (by decide)
        have ls : (scaleF own (padd e.2 (neg e.1))).length = (scaleF src (neg e.2)).length := by rw [scale_len, scale_len, hl]
        refine iteF ⟨_, rfl, _, rfl, _, rfl, hi, lo, e.2, e.1, rfl, rh, rl, eh.fit (by decide), el.fit (by decide), fun H1 v1 s1 r1 => ?_⟩
        refine ⟨z, v1, own, _, rfl, m_form _ _ _ _ s1 ho, r1, h2, lv_fit fo (by decide), wd.fit (by decide), fun H2 v2 s2 r2 => ?_⟩
        have s12 := s1.trans s2
        refine ⟨_, rfl, _, rfl, hi, e.2, rfl, t_rat.mon _ _ _ _ s12 rh, fun H3 v3 s3 r3 => ?_⟩
        have s13 := s12.trans s3
        refine ⟨y, v3, src, _, rfl, m_form _ _ _ _ s13 hs, r3, by omega, lv_fit fs (by decide), eh.neg.fit (by decide), fun H4 v4 s4 r4 => ?_⟩
        have s14 := s13.trans s4
        refine ⟨v2, v4, _, _, rfl, m_form _ _ _ _ (s3.trans s4) (m_form _ _ _ _ fr_sub r2), m_form _ _ _ _ fr_sub r4, ls, by rw [scale_len]; omega, lv_fit so (by decide), lv_fit ss (by decide), fun H5 v5 s5 r5 => ?_⟩
        have s15 := s14.trans s5
        refine ⟨_, rfl, _, rfl, _, rfl, hi, lo, e.2, e.1, rfl, t_rat.mon _ _ _ _ s15 rh, t_rat.mon _ _ _ _ s15 rl, eh.fit (by decide), el.fit (by decide), fun H6 v6 s6 r6 => ?_⟩
        refine ⟨v6, _, rfl, r6, fun H7 v7 s7 r7 => ?_⟩
        have s57 := s6.trans s7
        refine ⟨v5, v7, _, _, rfl, m_form _ _ _ _ s57 (m_form _ _ _ _ fr_sub r5), r7, by rw [add_len ls, scale_len]; omega, by rw [add_len ls, scale_len]; omega, lv_fit (add_lv so ss) (by decide), (Lv.mul eh el).neg.fit (by decide), fun H8 v8 s8 r8 => ?_⟩
        refine k H8 v8 ((s15.trans s57).trans s8) ?_
        have et : thirdF e src own = naF (addF (scaleF own (padd e.2 (neg e.1))) (scaleF src (neg e.2))) (neg (pmul e.2 e.1)) := by
          unfold thirdF
          rw [if_neg c1, if_neg c2]
        rw [et]
        exact m_row _ _ _ _ (fr_from (s15.trans s57)) r8
theorem txt_eq (c d : C3) : decide (V.str c.txt = V.str d.txt) = decide (c = d) := by
  cases c <;> cases d <;> decide +kernel
theorem ok_rows_of_bend (T : Txt K mg A) (F : Fns K mg A) : Kept P w K mg base 7 "rows_of_bend" ["state", "side", "source", "own"] (spBendRows K) := kept_of F.rows_of_bend fun f fd Fn => by
  refine Fn.ok sc_rows_of_bend (fun vs H Q E h => ?_) (fun cdv Ar outer s H vs Q E hr h => ?_)
  · obtain ⟨c, x, y, z, st, e, src, own, rfl, _⟩ := h
    rfl
  · obtain ⟨c, x, y, z, st, e, src, own, rfl, rfl, he, hs, ho, h1, h2, hl, ⟨el, eh⟩, fs, fo, k⟩ := h
    refine ⟨_, (pss_cons (ps_if (pt_cmpR op_eq (pv 0) pe_str (nomark _)) (pss_one (ps_ret (pe_lst (pa_cons (pe_k (ok_not_below T F) (hr.mono (by decide)) rfl (pa_cons (pv 2) (pa_cons (pe_glob (v := .ref A.aN) rfl T.gN rfl) pa_nil))) pa_nil))))
        pss_nil)
      (pss_cons (ps_if (pt_cmpR op_eq (pv 0) pe_str (nomark _)) (pss_one (ps_ret (pe_lst (pa_cons (pe_k (ok_not_above T F) (hr.mono (by decide)) rfl (pa_cons (pv 2) (pa_cons (pe_glob (v := .ref A.aN) rfl T.gN rfl) pa_nil))) pa_nil))))
        pss_nil)
      (pss_cons (ps_set (i := 4) sc_rows_of_bend.nd rfl (Or.inl rfl) (pe_k (ok_added T F) (hr.mono (by decide)) rfl (pa_cons (pv 2) (pa_cons (pe_k (ok_scaled T F) (hr.mono (by decide)) rfl (pa_cons (pv 3) (pa_cons (pe_k (ok_negated T F) (hr.mono (by decide)) rfl (pa_cons (pe_glob (v := .ref A.aO) rfl T.gO rfl) pa_nil)) pa_nil))) pa_nil))))
      (pss_one (ps_ret (pe_lst (pa_cons (pe_k (ok_not_below T F) (hr.mono (by decide)) rfl (pa_cons (pv 3) (pa_cons (pe_glob (v := .ref A.aN) rfl T.gN rfl) pa_nil))) (pa_cons (pe_k (ok_not_above T F) (hr.mono (by decide)) rfl (pa_cons (pv 4) (pa_cons (pe_glob (v := .ref A.aN) rfl T.gN rfl) pa_nil))) (pa_cons (pe_k (ok_third_row T F) (hr.mono (by decide)) rfl (pa_cons (pv 1) (pa_cons (pv 2) (pa_cons (pv 3) pa_nil)))) pa_nil))))))))), ?_⟩
    have zf : Fit z0 := (Lv.zero 1).fit (by decide)
    refine ⟨_, rfl, rfl, _, rfl, ?_⟩
    show if decide (V.str st.txt = V.str C3.on.txt) = true then _ else _
    rw [txt_eq]
    by_cases c1 : st = .on
    · subst c1
      refine iteT ⟨_, rfl, y, _, src, z0, rfl, hs, rN T _, by omega, by omega, lv_fit fs (by decide), zf, fun H1 v1 s1 r1 => ⟨by show 1 ≤ sizeLine; decide, fun l hl => ?_⟩⟩
      refine k _ _ (s1.trans (same_new hl)) ⟨l, [v1], rfl, by rw [fr_new (s1.free hl), upd_same], .cons ?_ .nil⟩
      exact m_row _ _ _ _ (fr_mono (same_new hl)) r1
    · rw [decide_eq_false c1]
      refine iteF ⟨_, rfl, rfl, _, rfl, ?_⟩
      show if decide (V.str st.txt = V.str C3.off.txt) = true then _ else _
      rw [txt_eq]
      by_cases c2 : st = .off
      · subst c2
        refine iteT ⟨_, rfl, y, _, src, z0, rfl, hs, rN T _, by omega, by omega, lv_fit fs (by decide), zf, fun H1 v1 s1 r1 => ⟨by show 1 ≤ sizeLine; decide, fun l hl => ?_⟩⟩
        refine k _ _ (s1.trans (same_new hl)) ⟨l, [v1], rfl, by rw [fr_new (s1.free hl), upd_same], .cons ?_ .nil⟩
        exact m_row _ _ _ _ (fr_mono (same_new hl)) r1
      · rw [decide_eq_false c2]
        have c3 : st = .opn := by
          cases st with
          | on => exact absurd rfl c1
          | off => exact absurd rfl c2
          | opn => rfl
        subst c3
        have dl : (downF own).length = own.length := scale_len _ _
        have dn : ∀ r ∈ downF own, Lv 21 r := scale_lv fo (Lv.down 1)
        have fs21 : ∀ r ∈ src, Lv 21 r := fun r h => (fs r h).mono (by decide)
        have sl : src.length = (downF own).length := by omega
        refine iteF ⟨_, rfl, _, rfl, _, z1, rfl, rO T _, fun H1 v1 s1 r1 => ?_⟩
        refine ⟨z, v1, own, neg z1, rfl, m_form _ _ _ _ s1 ho, r1, h2, lv_fit fo (by decide), (Lv.one 1).neg.fit (by decide), fun H2 v2 s2 r2 => ?_⟩
        have s12 := s1.trans s2
        refine ⟨y, v2, src, downF own, rfl, m_form _ _ _ _ s12 hs, m_form _ _ _ _ fr_sub r2, sl, by omega, lv_fit fs (by decide), lv_fit dn (by decide), fun H3 v3 s3 r3 => ?_⟩
        have s13 := s12.trans s3
        refine ⟨_, rfl, z, _, own, z0, rfl, m_form _ _ _ _ s13 ho, rN T _, h1, h2, lv_fit fo (by decide), zf, fun H4 v4 s4 r4 => ?_⟩
        have s14 := s13.trans s4
        have al : (addF src (downF own)).length = own.length := by rw [add_len sl, dl]
        refine ⟨_, rfl, v3, _, addF src (downF own), z0, rfl, m_form _ _ _ _ s4 (m_form _ _ _ _ fr_sub r3), rN T _, by omega, by omega, lv_fit (add_lv fs21 dn) (by decide), zf, fun H5 v5 s5 r5 => ?_⟩
        have s15 := s14.trans s5
        refine ⟨_, rfl, _, rfl, _, rfl, x, y, z, e, src, own, rfl, t_span.mon _ _ _ _ s15 he, m_form _ _ _ _ s15 hs, m_form _ _ _ _ s15 ho, h1, h2, hl, ⟨el, eh⟩, fs, fo, fun H6 v6 s6 r6 => ?_⟩
        refine ⟨by show 3 ≤ sizeLine; decide, fun l hl => ?_⟩
        have s16 := s15.trans s6
        have sl7 : Same H6 (upd H6 l (.lst [v4, v5, v6])) := same_new hl
        refine k _ _ (s16.trans sl7) ⟨l, [v4, v5, v6], rfl, by rw [fr_new (s16.free hl), upd_same], .cons ?_ (.cons ?_ (.cons ?_ .nil))⟩
        · exact m_row _ _ _ _ (fr_mono ((s5.trans s6).trans sl7)) (m_row _ _ _ _ (fr_from s13) r4)
        · exact m_row _ _ _ _ (fr_mono (s6.trans sl7)) (m_row _ _ _ _ (fr_from s14) r5)
        · exact m_row _ _ _ _ (fr_mono sl7) (m_row _ _ _ _ (fr_from s15) r6)
end
end BP
end


/-! A4 -/
section
set_option maxHeartbeats 4000000
namespace BP
open PySem L2
/-! ### a box and a net as they stand -/
def bxf (l : Addr) : List (Str × V) := putF "sides" (.ref l) []
def ntf (many : Nat) (lu lo : Addr) : List (Str × V) := putF "outs" (.ref lo) (putF "units" (.ref lu) (putF "many" (.int (many : Int)) []))
theorem ne_mu : ¬ (("many" : Str) = "units") := by decide +kernel
theorem ne_mo : ¬ (("many" : Str) = "outs") := by decide +kernel
theorem ne_uo : ¬ (("units" : Str) = "outs") := by decide +kernel
theorem bxf_sides (l : Addr) : (bxf l).lookup ("sides" : Str) = some (.ref l) := by
  unfold bxf
  rw [lookup_putF, if_pos rfl]
theorem bxf_no {l : Addr} {m : Str} (h : ¬ m = "sides") : (bxf l).lookup m = none := by
  unfold bxf
  rw [lookup_putF, if_neg h]
  all_goals rfl
theorem ntf_many (n : Nat) (a b : Addr) : (ntf n a b).lookup ("many" : Str) = some (.int (n : Int)) := by
  unfold ntf
  rw [lookup_putF, if_neg ne_mo, lookup_putF, if_neg ne_mu, lookup_putF, if_pos rfl]
theorem ntf_units (n : Nat) (a b : Addr) : (ntf n a b).lookup ("units" : Str) = some (.ref a) := by
  unfold ntf
  rw [lookup_putF, if_neg ne_uo, lookup_putF, if_pos rfl]
theorem ntf_outs (n : Nat) (a b : Addr) : (ntf n a b).lookup ("outs" : Str) = some (.ref b) := by
  unfold ntf
  rw [lookup_putF, if_pos rfl]
theorem ntf_no {n : Nat} {a b : Addr} {m : Str} (h1 : ¬ m = "outs") (h2 : ¬ m = "units") (h3 : ¬ m = "many") : (ntf n a b).lookup m = none := by
  unfold ntf
  rw [lookup_putF, if_neg h1, lookup_putF, if_neg h2, lookup_putF, if_neg h3]
  all_goals rfl
def rBox (K : PySem.W.Frag) (A : Ad) : Rp (List (Rt × Rt)) := fun H v sides => ∃ p dx l, v = .ref p ∧ H p = some (.ins A.cB dx (bxf l)) ∧ rLst (rSpan K) H (.ref l) sides
structure NetD where
  many : Nat
  us : List U
  outs : List Nat
def rNet (K : PySem.W.Frag) (A : Ad) : Rp NetD := fun H v N => ∃ p dx lu lo, v = .ref p ∧ H p = some (.ins A.cN dx (ntf N.many lu lo)) ∧ rLst (rUnit K) H (.ref lu) N.us ∧ rLst rNat H (.ref lo) N.outs
/-- what a net tells: a tuple of three -/
def rTold (K : PySem.W.Frag) : Rp NetD := fun H v N => ∃ a y z, v = .ref a ∧ SqT K H a [.int (N.many : Int), y, z] ∧ rLst (rUnit K) H y N.us ∧ rLst rNat H z N.outs
theorem m_nats : MonR (rLst rNat) := m_lst fun _ _ _ _ _ h => h
theorem m_cases : MonR (rLst rC3) := m_lst fun _ _ _ _ _ h => h
theorem m_box {K : PySem.W.Frag} {A : Ad} : MonR (rBox K A) := fun H H' v s k h => by
  obtain ⟨p, dx, l, e, h1, h2⟩ := h
  exact ⟨p, dx, l, e, k _ _ h1, m_spans _ _ _ _ k h2⟩
theorem m_net {K : PySem.W.Frag} {A : Ad} : MonR (rNet K A) := fun H H' v s k h => by
  obtain ⟨p, dx, lu, lo, e, h1, h2, h3⟩ := h
  exact ⟨p, dx, lu, lo, e, k _ _ h1, m_units _ _ _ _ k h2, m_nats _ _ _ _ k h3⟩
theorem m_told {K : PySem.W.Frag} : MonR (rTold K) := fun H H' v s k h => by
  obtain ⟨a, y, z, e, h1, h2, h3⟩ := h
  exact ⟨a, y, z, e, same_tup k _ _ h1, m_units _ _ _ _ k h2, m_nats _ _ _ _ k h3⟩
/-- what is asked of a net's data -/
structure NOk (N : NetD) : Prop where
  m1 : 1 ≤ N.many
  m6 : N.many ≤ 6
  few : N.us.length ≤ 12
  ok : NetOk N.many N.us
/-! ### the promises -/
def spCopied (K : PySem.W.Frag) : Sp := fun vs H Q _ => ∃ (x : V) (u : U), vs = [x] ∧ rUnit K H x u ∧ ∀ H' v, Same H H' → rUnit K (fr H H') v u → Q v H'
def spBoxTold (K : PySem.W.Frag) (A : Ad) : Sp := fun vs H Q _ => ∃ (x : V) (s : List (Rt × Rt)), vs = [x] ∧ rBox K A H x s ∧ ∀ H' v, Same H H' → rLst (rSpan K) (fr H H') v s → Q v H'
def spNetTold (K : PySem.W.Frag) (A : Ad) : Sp := fun vs H Q _ => ∃ (x : V) (N : NetD), vs = [x] ∧ rNet K A H x N ∧ N.us.length ≤ 12 ∧ ∀ H' v, Same H H' → rTold K (fr H H') v N → Q v H'
def spNetBends (K : PySem.W.Frag) (A : Ad) : Sp := fun vs H Q _ => ∃ (x : V) (N : NetD), vs = [x] ∧ rNet K A H x N ∧ N.us.length ≤ 12 ∧ ∀ H' v, Same H H' → rLst rNat (fr H H') v (bendsAt N.many N.us) → Q v H'
section
variable {P : Program} {w : World} {K : PySem.W.Frag} {mg : Str → Option Value} {base : Heap} {A : Ad}
theorem str_sb : decide (V.str "sum" = V.str "bend") = false := by decide +kernel
theorem copy_form {α : Type} {R : Rp α} (hR : TupR K R) {H Hc : Hp} {l : Addr} {us : List V} {xs : List α} (s : Same H Hc) (n : Hc l = none) (p : Paired (R Hc) us xs) : rLst R (fr H (upd Hc l (.lst us))) (.ref l) xs :=
  ⟨l, us, rfl, by rw [fr_new (s.free n), upd_same], p_tk hR ((same_tup (same_new n)).trans (tk_fr (s.trans (same_new n)))) p⟩
theorem ok_copied_unit (T : Txt K mg A) (F : Fns K mg A) : Kept P w K mg base 1 "copied_unit" ["unit"] (spCopied K) := kept_of F.copied_unit fun f fd Fn => by
  refine Fn.ok sc_copied_unit (fun vs H Q E h => ?_) (fun cdv Ar outer s H vs Q E hr h => ?_)
  · obtain ⟨x, u, rfl, _⟩ := h
    rfl
  · obtain ⟨x, u, rfl, hu, k⟩ := h
    refine ⟨_, (pss_cons (ps_if (pt_cmpR op_eq (pe_ix ix_tup (pv 0) pe_int (fun _ _ => rfl)) pe_str (nomark _)) (pss_one (ps_ret (pv 0)))
        pss_nil)
      (pss_one (ps_ret (pe_tup (pa_cons pe_str (pa_cons (pe_ix ix_tup (pv 0) pe_int (fun _ _ => rfl)) (pa_cons (pe_callTy call_list_of (by rfl) T.b_list (by decide +kernel) (pa_cons (pe_ix ix_tup (pv 0) pe_int (fun _ _ => rfl)) pa_nil)) pa_nil))))))), ?_⟩
    cases u with
    | bend p =>
      obtain ⟨a, rfl, q⟩ := hu
      refine ⟨_, rfl, a, _, _, _, rfl, rfl, q, rfl, rfl, _, rfl, ?_⟩
      rw [decide_eq_true rfl]
      refine iteT ⟨_, rfl, ?_⟩
      exact k H _ (Same.refl H) ⟨a, rfl, tk_fr (Same.refl H) _ _ q⟩
    | sum c ts =>
      obtain ⟨a, x1, y1, rfl, q, rc, l, us, rfl, hl, pl⟩ := hu
      refine ⟨_, rfl, a, _, _, _, rfl, rfl, q, rfl, rfl, _, rfl, ?_⟩
      rw [str_sb]
      refine iteF ⟨_, rfl, a, _, _, x1, rfl, rfl, q, rfl, _, rfl, a, _, _, _, rfl, rfl, q, rfl, l, us, rfl, .inl (SqL.of hl), fun p hp => ⟨by show 3 ≤ sizeLine; decide, fun t ht => ?_⟩⟩
      have s1 : Same H (upd H p (.lst us)) := same_new hp
      have s2 := s1.trans (same_new (o := .tup [.str "sum", x1, .ref p]) ht)
      refine k _ _ s2 ⟨t, x1, .ref p, rfl, SqT.of (by rw [fr_new (s1.free ht), upd_same]), t_rat _ _ _ _ ((same_tup s2).trans (tk_fr s2)) rc, ?_⟩
      exact m_terms _ _ _ _ (fr_mono (same_new ht)) (copy_form t_term (Same.refl H) hp pl)
theorem ok_Box_told (T : Txt K mg A) (F : Fns K mg A) : KeptA P w K mg base 1 A.Box_told ["self"] (spBoxTold K A) := keptA_of F.Box_told fun fd Fn => by
  refine Fn.ok sc_Box_told (fun vs H Q E h => ?_) (fun cdv Ar outer s H vs Q E hr h => ?_)
  · obtain ⟨x, u, rfl, _⟩ := h
    rfl
  · obtain ⟨x, sd, rfl, ⟨p, dx, l, rfl, hp, l', us, e, hl, pl⟩, k⟩ := h
    cases e
    refine ⟨_, (pss_one (ps_ret (pe_callTy call_list_of (by rfl) T.b_list (by decide +kernel) (pa_cons (pe_fld (pv 0) rfl) pa_nil)))), ?_⟩
    refine ⟨_, rfl, p, A.cB, dx, _, _, rfl, hp, T.cBox, T.n_sides, bxf_sides _, l, us, rfl, .inl (SqL.of hl), fun q hq => ?_⟩
    exact k _ _ (same_new hq) (copy_form t_span (Same.refl H) hq pl)
theorem ok_Net_told (T : Txt K mg A) (F : Fns K mg A) : KeptA P w K mg base 2 A.Net_told ["self"] (spNetTold K A) := keptA_of F.Net_told fun fd Fn => by
  refine Fn.ok sc_Net_told (fun vs H Q E h => ?_) (fun cdv Ar outer s H vs Q E hr h => ?_)
  · obtain ⟨x, u, rfl, _⟩ := h
    rfl
  · obtain ⟨x, N, rfl, ⟨p, dx, lu, lo, rfl, hp, ⟨lu', us, eu, hu, pu⟩, lo', os, eo, ho, po⟩, hz, k⟩ := h
    cases eu
    cases eo
    refine ⟨_, (pss_one (ps_ret (pe_tup (pa_cons (pe_fld (pv 0) rfl) (pa_cons (pe_lc (g := gName 1) (tt := tYes) (own := [("unit", 1)]) (by rfl) sc_Net_told.nd (pi_list (pe_fld (pv 0) rfl)) (blkOk_by (own := [("unit", 1)]) (N := ["self", "unit"]) (sc := defScope s_Net_told) (by decide +kernel)) (fun _ _ _ _ _ => by exact (pg_name (i := 1) sc_Net_told.nd rfl (Or.inl rfl))) (fun _ _ _ _ _ => pts_nil) (fun _ _ _ _ _ => (pe_k (ok_copied_unit T F) (hr.mono (by decide)) rfl (pa_cons (pv 1) pa_nil)))) (pa_cons (pe_callTy call_list_of (by rfl) T.b_list (by decide +kernel) (pa_cons (pe_fld (pv 0) rfl) pa_nil)) pa_nil)))))), ?_⟩
    have lu1 := pu.length
    refine ⟨_, rfl, p, A.cN, dx, _, _, rfl, hp, T.cNet, T.n_many, ntf_many _ _ _, _, rfl, p, A.cN, dx, _, _, rfl, hp, T.cNet, T.n_units, ntf_units _ _ _, lu, rfl, ⟨_, SqL.of hu⟩, fun D hD =>
      lc_m (R := rUnit K) m_unit walk_list N.us (by omega) (by omega) hD (fun H' s => SqL.of (s _ _ hu)) (fun _ _ _ _ h => yat_same h) ?_ fun H' s r => ?_⟩
    · rintro i x Hc H' u Z Nx hi ho2 sc ⟨rfl, hx⟩ hZ
      obtain ⟨u', e1, q1⟩ := pr_get pu hx
      rw [e1] at ho2
      cases ho2
      refine ⟨rfl, ?_⟩
      exact ⟨_, rfl, x, u, rfl, m_unit _ _ _ _ sc q1, fun H4 v s4 r => hZ v H4 s4 r⟩
    · refine ⟨_, rfl, p, A.cN, dx, _, _, rfl, s _ _ hp, T.cNet, T.n_outs, ntf_outs _ _ _, lo, os, rfl, .inl (SqL.of (s _ _ ho)), fun q hq => ⟨by show 3 ≤ sizeLine; decide, fun t ht => ?_⟩⟩
      have s1 : Same H (upd H' q (.lst os)) := s.trans (same_new hq)
      have s2 := s1.trans (same_new (o := .tup [.int (N.many : Int), .ref D, .ref q]) ht)
      refine k _ _ s2 ⟨t, .ref D, .ref q, rfl, SqT.of (by rw [fr_new (s1.free ht), upd_same]), m_units _ _ _ _ (fr_mono ((same_new hq).trans (same_new ht))) r, ?_⟩
      refine m_nats _ _ _ _ (fr_mono (same_new ht)) ⟨q, os, rfl, by rw [fr_new (s.free hq), upd_same], po.mono fun _ _ h => h⟩
theorem ok_Net_bends (T : Txt K mg A) (F : Fns K mg A) : KeptA P w K mg base 1 A.Net_bends ["self"] (spNetBends K A) := keptA_of F.Net_bends fun fd Fn => by
  refine Fn.ok sc_Net_bends (fun vs H Q E h => ?_) (fun cdv Ar outer s H vs Q E hr h => ?_)
  · obtain ⟨x, u, rfl, _⟩ := h
    rfl
  · obtain ⟨x, N, rfl, ⟨p, dx, lu, lo, rfl, hp, ⟨lu', us, eu, hu, pu⟩, ho⟩, hz, k⟩ := h
    cases eu
    refine ⟨_, (pss_one (ps_ret (pe_lc (g := gTup K 2 (gCons (gName 1) (gCons (gName 2) (gNil)))) (tt := tTest (tOp rEq (tOp (rIxT K) (tVar 2) (tC (.int 0))) (tC (.str "bend")))) (te := tOp (rI0 fun i j => .int (i + j)) (tFld K (tVar 0) "many") (tVar 1)) (own := [("k", 1), ("unit", 2)]) (by rfl) sc_Net_bends.nd (pi_enum (by rfl) T.b_enumerate (pa_cons (pe_fld (pv 0) rfl) pa_nil)) (blkOk_by (own := [("k", 1), ("unit", 2)]) (N := ["self", "k", "unit"]) (sc := defScope s_Net_bends) (by decide +kernel)) (fun _ _ _ _ _ => by exact (pg_tup rfl (pgs_cons (pg_name (i := 1) sc_Net_bends.nd rfl (Or.inl rfl)) (pgs_cons (pg_name (i := 2) sc_Net_bends.nd rfl (Or.inl rfl)) pgs_nil)))) (fun _ _ _ _ _ => (pts_one (pt_cmpR op_eq (pe_ix ix_tup (pv 2) pe_int (fun _ _ => rfl)) pe_str (nomark _)))) (fun _ _ _ _ _ => (pe_op op_add (pe_fld (pv 0) rfl) (pv 1)))))), ?_⟩
    have lu1 := pu.length
    refine ⟨_, rfl, p, A.cN, dx, _, _, rfl, hp, T.cNet, T.n_units, ntf_units _ _ _, lu, us, rfl, SqL.of hu, fun D hD =>
      lc_it walk_enum (fun i Hc => Same H Hc ∧ ∃ vs, Hc D = some (.lst vs) ∧ Paired (rNat Hc) vs (bendsAt N.many (N.us.take i))) ⟨same_new hD, [], upd_same, .nil⟩ (fun i Hc _ h => SqL.of (h.1 _ _ hu)) ?_ ?_⟩
    · rintro i v Hc H' hi ⟨sc, vs, hv, pv⟩ ⟨T1, a, b, rfl, hT, rfl, ha, hb⟩
      cases ha
      have sT : Same Hc (upd Hc T1 (.tup [.int (i : Nat), b])) := same_new hT
      obtain ⟨u, e1, q1⟩ := pr_get pu hb
      have q2 := m_unit _ _ _ _ (sc.trans sT) q1
      have eb : bendsAt N.many (N.us.take (i + 1)) = bendsAt N.many (N.us.take i) ++ (if u.isBend then [N.many + i] else []) := by
        have el : (N.us.take i).length = i := by
          rw [List.length_take]
          omega
        rw [take_next e1, bendsAt_snoc, el]
      have hlen : vs.length ≤ 12 := by
        rw [pv.length, bendsAt_len]
        have := bendsN_le (N.us.take i)
        rw [List.length_take] at this
        omega
      refine ⟨T1, _, rfl, SqT.of upd_same, rfl, _, _, rfl, _, _, rfl, rfl, rfl, ?_⟩
      cases u with
      | bend pp =>
        obtain ⟨a, rfl, q⟩ := q2
        refine ⟨_, rfl, a, _, _, _, rfl, rfl, q, rfl, rfl, _, rfl, ?_⟩
        rw [decide_eq_true rfl]
        refine iteT ⟨_, rfl, p, A.cN, dx, _, _, rfl, (sc.trans sT) _ _ hp, T.cNet, T.n_many, ntf_many _ _ _, _, rfl, _, _, rfl, rfl, vs, sT _ _ hv, Nat.lt_of_le_of_lt hlen (by decide), ?_⟩
        refine ⟨same_mut (sc.trans sT) hD, _, upd_same, ?_⟩
        rw [eb]
        exact (pv.mono fun _ _ h => h).snoc (by show V.int _ = V.int _; rw [Int.natCast_add])
      | sum c ts =>
        obtain ⟨a, x1, y1, rfl, q, _⟩ := q2
        refine ⟨_, rfl, a, _, _, _, rfl, rfl, q, rfl, rfl, _, rfl, ?_⟩
        rw [str_sb]
        refine iteF ⟨sc.trans sT, vs, sT _ _ hv, ?_⟩
        rw [eb]
        show Paired _ vs (_ ++ [])
        rw [List.append_nil]
        exact pv.mono fun _ _ h => h
    · rintro Hc ⟨sc, vs, hv, pv⟩
      rw [List.take_of_length_le (by omega)] at pv
      exact k Hc _ sc ⟨D, vs, rfl, by rw [fr_new hD]; exact hv, pv.mono fun _ _ h => h⟩
end
end BP
end


/-! A5 -/
section
set_option maxHeartbeats 4000000
namespace BP
open PySem L2
def spSpans (K : PySem.W.Frag) (A : Ad) : Sp := fun vs H Q _ => ∃ (x y : V) (N : NetD) (sd : List (Rt × Rt)), vs = [x, y] ∧ rNet K A H x N ∧ rBox K A H y sd ∧ NOk N ∧ sd.length = N.many ∧ KS 1 sd ∧
  ∀ H' v, Same H H' → rLst (rSpan K) (fr H H') v (spansF sd N.us) → Q v H'
def spFormsIn (K : PySem.W.Frag) (A : Ad) : Sp := fun vs H Q _ => ∃ (x y : V) (N : NetD) (cs : List C3), vs = [x, y] ∧ rNet K A H x N ∧ rLst rC3 H y cs ∧ NOk N ∧ cs.length = bendsN N.us ∧
  ∀ H' v, Same H H' → rLst (rForm K) (fr H H') v (formsF N.many N.us cs) → Q v H'
section
variable {P : Program} {w : World} {K : PySem.W.Frag} {mg : Str → Option Value} {base : Heap} {A : Ad}
theorem relu_if (a : Rt) : (if a.1 * z0.2 < z0.1 * a.2 then z0 else a) = relu a := by
  have e : a.1 * z0.2 < z0.1 * a.2 ↔ a.1 < 0 := by
    show a.1 * 1 < 0 * a.2 ↔ _
    rw [Int.mul_one, Int.zero_mul]
  unfold relu
  by_cases h : a.1 < 0
  · rw [if_pos h, if_pos (e.mpr h)]
  · rw [if_neg h, if_neg fun q => h (e.mp q)]
theorem ok_spans (T : Txt K mg A) (F : Fns K mg A) : Kept P w K mg base 5 "spans" ["net", "box"] (spSpans K A) := kept_of F.spans fun f fd Fn => by
  refine Fn.ok sc_spans (fun vs H Q E h => ?_) (fun cdv Ar outer s H vs Q E hr h => ?_)
  · obtain ⟨x, y, N, sd, rfl, _⟩ := h
    rfl
  · obtain ⟨x, y, N, sd, rfl, hN, hB, ok, hsd, ks, k⟩ := h
    refine ⟨_, (pss_cons (ps_setLc (i := 2) rfl sc_spans.nd rfl rfl (sw_true rfl rfl rfl (by decide +kernel)) (g := gTup K 2 (gCons (gName 4) (gCons (gName 5) (gNil)))) (tt := tYes) (own := [("low", 4), ("high", 5)]) (pi_list (pe_m0 (pv 1) T.cBox T.m_Box_told (ok_Box_told T F) (hr.mono (by decide)))) (blkOk_by (own := [("low", 4), ("high", 5)]) (N := ["net", "box", "known", "unit", "low", "high"]) (sc := defScope s_spans) (by decide +kernel)) (fun _ _ _ _ _ => by exact (pg_tup rfl (pgs_cons (pg_name (i := 4) sc_spans.nd rfl (Or.inl rfl)) (pgs_cons (pg_name (i := 5) sc_spans.nd rfl (Or.inl rfl)) pgs_nil)))) (fun _ _ _ _ _ => pts_nil) (fun _ _ _ _ _ => (pe_tup (pa_cons (pv 4) (pa_cons (pv 5) pa_nil)))))
      (pss_cons (ps_for PassesOwn.never rfl (pi_list (pe_ix ix_tup (pe_m0 (pv 0) T.cNet T.m_Net_told (ok_Net_told T F) (hr.mono (by decide))) pe_int (fun _ _ => rfl))) (pg_name (i := 3) sc_spans.nd rfl (Or.inl rfl))
        (pss_one (ps_if (pt_cmpR op_eq (pe_ix ix_tup (pv 3) pe_int (fun _ _ => rfl)) pe_str (nomark _)) (pss_one (ps_expr (pe_bm PySem.F.plainAttrs_list PySem.F.slot_list_append PySem.F.type_list_append mt_append (pv 2) (pa_cons (pe_k (ok_span_of_sum T F) (hr.mono (by decide)) rfl (pa_cons (pe_ix ix_tup (pv 3) pe_int (fun _ _ => rfl)) (pa_cons (pe_ix ix_tup (pv 3) pe_int (fun _ _ => rfl)) (pa_cons (pv 2) pa_nil)))) pa_nil))))
          (pss_cons (ps_asg (pe_ix ix_list (pv 2) (pe_ix ix_tup (pv 3) pe_int (fun _ _ => rfl)) (fun _ _ => rfl)) (pg_tup rfl (pgs_cons (pg_name (i := 4) sc_spans.nd rfl (Or.inl rfl)) (pgs_cons (pg_name (i := 5) sc_spans.nd rfl (Or.inl rfl)) pgs_nil))))
          (pss_one (ps_expr (pe_bm PySem.F.plainAttrs_list PySem.F.slot_list_append PySem.F.type_list_append mt_append (pv 2) (pa_cons (pe_tup (pa_cons (pe_k (ok_greater_of T F) (hr.mono (by decide)) rfl (pa_cons (pv 4) (pa_cons (pe_glob (v := .ref A.aN) rfl T.gN rfl) pa_nil))) (pa_cons (pe_k (ok_greater_of T F) (hr.mono (by decide)) rfl (pa_cons (pv 5) (pa_cons (pe_glob (v := .ref A.aN) rfl T.gN rfl) pa_nil))) pa_nil))) pa_nil))))))))
      (pss_one (ps_ret (pv 2))))), ?_⟩
    obtain ⟨pb, dxb, lb, rfl, hpb, hBl⟩ := id hB
    refine ⟨_, rfl, pb, dxb, _, rfl, hpb, bxf_no (by decide +kernel), _, sd, rfl, hB, ?_⟩
    rintro H1 v1 s1 ⟨q, qs, rfl, hq, pq⟩
    have hq1 := fr_sub _ _ hq
    have lq := pq.length
    have okm := ok.m6
    refine ⟨q, rfl, ⟨_, SqL.of hq1⟩, fun l hl => lc_m (R := rSpan K) t_span.mon walk_list sd (by omega) (by omega) hl (fun H' s => SqL.of (s _ _ hq1)) (fun _ _ _ _ h => yat_same h) ?_ ?_⟩
    · rintro i u Hc H' e Z Nx hi ho sc ⟨rfl, hu⟩ hZ
      obtain ⟨e', e1, t, a, b, rfl, ht, ra, rb⟩ := pr_get pq hu
      rw [e1] at ho
      cases ho
      have ht2 := same_tup sc _ _ (same_tup fr_sub _ _ ht)
      refine ⟨t, _, rfl, ht2, rfl, _, _, rfl, _, _, rfl, rfl, rfl, ?_⟩
      refine ⟨_, rfl, _, rfl, by show 2 ≤ sizeLine; decide, fun p hp => ?_⟩
      have sp : Same H' (upd H' p (.tup [a, b])) := same_new hp
      refine hZ _ _ sp ⟨p, a, b, rfl, SqT.of (by rw [fr_new hp, upd_same]), ?_, ?_⟩
      · exact t_rat _ _ _ _ ((same_tup (sc.trans sp)).trans (tk_fr sp)) (t_rat.mon _ _ _ _ fr_sub ra)
      · exact t_rat _ _ _ _ ((same_tup (sc.trans sp)).trans (tk_fr sp)) (t_rat.mon _ _ _ _ fr_sub rb)
    · rintro H2 s2 ⟨l', ls, el, hl2, pl⟩
      cases el
      have hl3 : H2 l = some (.lst ls) := fr_sub _ _ hl2
      have s12 := s1.trans s2
      have nl : H l = none := s1.free hl
      obtain ⟨pn, dxn, lu, lo, rfl, hpn, hNr⟩ := id hN
      -- what the net tells
      refine ⟨_, rfl, pn, dxn, _, rfl, s12 _ _ hpn, ntf_no (by decide +kernel) (by decide +kernel) (by decide +kernel), _, N, rfl, m_net _ _ _ _ s12 hN, ok.few, ?_⟩
      rintro H3 v3 s3 ⟨ta, ty, tz, rfl, hta, ⟨ul, us, rfl, hul, pu⟩, _⟩
      have hl4 : H3 l = some (.lst ls) := s3 _ _ hl3
      have hb : Same (fr H2 H3) (hide l H3) := fr_hide hl3
      have s3' : Same H (hide l H3) := same_into (s12.trans s3) nl
      have hul2 := hb _ _ hul
      have pu2 := p_sm m_unit hb pu
      have lu1 := pu.length
      have sdo : NetOk sd.length N.us := by rw [hsd]; exact ok.ok
      refine ⟨ta, _, _, _, rfl, rfl, same_tup fr_sub _ _ hta, rfl, ul, rfl, ⟨us, SqL.of (fr_sub _ _ hul)⟩, for_list (K := K) (a := ul) (xs := us) (fun i σ Hc => ∃ (v3 v4 v5 : Option V) (vs : List V), σ = [some (.ref pn), some (.ref pb), some (.ref l), v3, v4, v5] ∧ Same (hide l H3) Hc ∧
        Hc l = some (.lst vs) ∧ Paired (rSpan K Hc) vs (spansF sd (N.us.take i))) ⟨none, none, none, ls, rfl, hide_sub, hl4, p_tk t_span (same_tup s3) (p_sm t_span.mon fr_sub pl)⟩ (fun i σ Hc _ ⟨_, _, _, _, _, sc, _⟩ => SqL.of (sc _ _ hul2)) ?_ ?_⟩
      · rintro i u σ Hc hi ⟨v3, v4, v5, vs, rfl, sc, hv, pv⟩
        obtain ⟨un, e1, q1⟩ := pr_get pu2 hi
        have q2 := m_unit _ _ _ _ sc q1
        have hi12 : i ≤ N.us.length := Nat.le_of_lt (List.getElem?_eq_some_iff.mp e1).1
        obtain ⟨b1, b2⟩ := spans_ok ks sdo i hi12
        have okf := ok.few
        have hlen : vs.length < sizeLine := Nat.lt_of_le_of_lt (show vs.length ≤ 100 by rw [pv.length, b1]; omega) (by decide)
        have en := spans_next (sides := sd) e1
        have uok := ok.ok i un e1
        -- the end of a turn
        have fin : ∀ (H5 : Hp) (z : V) (w3 w4 w5 : Option V), Same Hc H5 → rSpan K H5 z (spanOf (spansF sd (N.us.take i)) un) → ∃ (v3 v4 v5 : Option V) (vs' : List V), [some (.ref pn), some (.ref pb), some (.ref l), w3, w4, w5] = [some (.ref pn), some (.ref pb), some (.ref l), v3, v4, v5] ∧
            Same (hide l H3) (upd H5 l (.lst (vs ++ [z]))) ∧ (upd H5 l (.lst (vs ++ [z]))) l = some (.lst vs') ∧ Paired (rSpan K (upd H5 l (.lst (vs ++ [z])))) vs' (spansF sd (N.us.take (i + 1))) := fun H5 z w3 w4 w5 s5 rz => by
          have tk : Tk K H5 (upd H5 l (.lst (vs ++ [z]))) := tk_upd (s5 _ _ hv)
          refine ⟨w3, w4, w5, _, rfl, same_mut (sc.trans s5) hide_self, upd_same, ?_⟩
          rw [en]
          exact (p_tk t_span ((same_tup s5).trans tk) pv).snoc (t_span _ _ _ _ tk rz)
        cases un with
        | sum c ts =>
          obtain ⟨a, x1, y1, rfl, q, rc, rt⟩ := q2
          refine ⟨_, rfl, a, _, _, _, rfl, rfl, q, rfl, rfl, _, rfl, ?_⟩
          rw [decide_eq_true rfl]
          refine iteT ⟨_, rfl, .inl ⟨rfl, _, SqL.of hv⟩, _, rfl, a, _, _, x1, rfl, rfl, q, rfl, _, rfl, a, _, _, y1, rfl, rfl, q, rfl, _, rfl, x1, y1, .ref l, 1 + i, c, ts, _, rfl, rc, rt, ⟨l, vs, rfl, hv, pv⟩, by omega, b2, uok.con _ _ rfl, ?_, uok.few _ _ rfl, fun H5 z s5 rz => ?_⟩
          · rw [b1, hsd]
            exact uok.ok _ _ rfl
          · exact ⟨l, vs, z, rfl, rfl, s5 _ _ hv, hlen, fin H5 z _ _ _ s5 rz⟩
        | bend p =>
          obtain ⟨a, rfl, q⟩ := q2
          have hp := uok.bend p rfl
          have eg : (spansF sd (N.us.take i))[p]? = some ((spansF sd (N.us.take i)).getD p dflE) := by
            rw [List.getD_eq_getElem?_getD, List.getElem?_eq_getElem (by rw [b1]; omega)]
            rfl
          obtain ⟨kv, ek, t, a1, a2, rfl, ht, r1, r2⟩ := pr_at pv eg
          have hkt := b2 _ (List.mem_of_getElem? eg)
          have f1 := hkt.1.fit (show 1 + i ≤ 60 by omega)
          have f2 := hkt.2.fit (show 1 + i ≤ 60 by omega)
          have zf : Fit z0 := (Lv.zero 1).fit (by decide)
          refine ⟨_, rfl, a, _, _, _, rfl, rfl, q, rfl, rfl, _, rfl, ?_⟩
          have e0 : decide (V.str "bend" = V.str "sum") = false := by decide +kernel
          rw [e0]
          refine iteF ⟨_, rfl, _, rfl, a, _, _, _, rfl, rfl, q, rfl, l, vs, _, _, rfl, rfl, SqL.of hv, atI_nat ek, t, _, rfl, ht, rfl, _, _, rfl, _, _, rfl, rfl, ?_⟩
          refine ⟨_, rfl, .inl ⟨rfl, _, SqL.of hv⟩, _, rfl, a1, _, _, z0, rfl, r1, rN T _, f1, zf, fun w1 k1 => ?_⟩
          rw [relu_if] at k1
          refine ⟨_, rfl, a2, _, _, z0, rfl, r2, rN T _, f2, zf, fun w2 k2 => ?_⟩
          rw [relu_if] at k2
          refine ⟨by show 2 ≤ sizeLine; decide, fun pt hpt => ?_⟩
          have s5 : Same Hc (upd Hc pt (.tup [w1, w2])) := same_new hpt
          refine ⟨l, vs, _, rfl, rfl, s5 _ _ hv, hlen, fin _ _ _ _ _ s5 ⟨pt, w1, w2, rfl, SqT.of upd_same, t_rat.mon _ _ _ _ s5 k1, t_rat.mon _ _ _ _ s5 k2⟩⟩
      · rintro σ Hc ⟨v3, v4, v5, vs, rfl, sc, hv, pv⟩
        rw [List.take_of_length_le (by omega)] at pv
        have s4 := s3'.trans sc
        exact ⟨_, rfl, k Hc _ s4 ⟨l, vs, rfl, by rw [fr_new nl]; exact hv, p_tk t_span (tk_fr s4) pv⟩⟩
theorem gname_eq {i : Nat} {v v' : V} {σ : L2.St} {H : Hp} {Q : L2.St → Hp → Prop} (e : v = v') (h : gName i v' σ H Q) : gName i v σ H Q := by
  rw [e]
  exact h
theorem case_flat {H : Hp} : ∀ {vs : List V} {cs : List C3}, Paired (rC3 H) vs cs → vs.all flatV = true ∧ (vs.countP fun z => eqV z (.str "open")) = opens cs
  | _, _, .nil => ⟨rfl, rfl⟩
  | v :: vs, c :: cs, .cons r t => by
    obtain ⟨h1, h2⟩ := case_flat t
    have hv : v = .str c.txt := r
    subst hv
    refine ⟨by rw [List.all_cons, h1]; rfl, ?_⟩
    unfold opens at h2 ⊢
    rw [List.countP_cons, List.count_cons, h2]
    have e : eqV (V.str c.txt) (.str "open") = (c == C3.opn) := by cases c <;> decide +kernel
    rw [e]
theorem ok_forms_in (T : Txt K mg A) (F : Fns K mg A) : Kept P w K mg base 6 "forms_in" ["net", "case"] (spFormsIn K A) := kept_of F.forms_in fun f fd Fn => by
  refine Fn.ok sc_forms_in (fun vs H Q E h => ?_) (fun cdv Ar outer s H vs Q E hr h => ?_)
  · obtain ⟨x, y, N, cs, rfl, _⟩ := h
    rfl
  · obtain ⟨x, y, N, cs, rfl, ⟨p, dx, lu, lo, rfl, hp, ⟨lu', us, eu, hu, pu⟩, ho⟩, ⟨b, ws, rfl, hb, pw⟩, ok, hcs, k⟩ := h
    cases eu
    refine ⟨_, (pss_cons (ps_set (i := 2) sc_forms_in.nd rfl (Or.inr rfl) (pe_op op_add (pe_fld (pv 0) rfl) (pe_bm PySem.F.plainAttrs_list PySem.F.slot_list_count PySem.F.type_list_count mt_countS (pv 1) (pa_cons pe_str pa_nil))))
      (pss_cons (ps_setLc (i := 3) rfl sc_forms_in.nd rfl rfl (sw_true rfl rfl rfl (by decide +kernel)) (g := gName 7) (tt := tYes) (own := [("k", 7)]) (pi_range1 (by rfl) T.b_range (pa_cons (pe_fld (pv 0) rfl) pa_nil)) (blkOk_by (own := [("k", 7)]) (N := ["net", "case", "many", "known", "bent", "opened", "unit", "k"]) (sc := defScope s_forms_in) (by decide +kernel)) (fun _ _ _ _ _ => by exact (pg_name (i := 7) sc_forms_in.nd rfl (Or.inl rfl))) (fun _ _ _ _ _ => pts_nil) (fun _ _ _ _ _ => (pe_k (ok_lone_form T F) (hr.mono (by decide)) rfl (pa_cons (pv 7) (pa_cons (pv 2) pa_nil)))))
      (pss_cons (ps_set (i := 4) sc_forms_in.nd rfl (Or.inl rfl) pe_int)
      (pss_cons (ps_set (i := 5) sc_forms_in.nd rfl (Or.inl rfl) (pe_fld (pv 0) rfl))
      (pss_cons (ps_for PassesOwn.never rfl (pi_list (pe_fld (pv 0) rfl)) (pg_name (i := 6) sc_forms_in.nd rfl (Or.inl rfl))
        (pss_cons (ps_if (pt_cmpR op_eq (pe_ix ix_tup (pv 6) pe_int (fun _ _ => rfl)) pe_str (nomark _)) (pss_cons (ps_expr (pe_bm PySem.F.plainAttrs_list PySem.F.slot_list_append PySem.F.type_list_append mt_append (pv 3) (pa_cons (pe_k (ok_sum_form T F) (hr.mono (by decide)) rfl (pa_cons (pe_ix ix_tup (pv 6) pe_int (fun _ _ => rfl)) (pa_cons (pe_ix ix_tup (pv 6) pe_int (fun _ _ => rfl)) (pa_cons (pv 3) (pa_cons (pv 2) pa_nil))))) pa_nil)))
          (pss_one ps_continue))
          pss_nil)
        (pss_cons (ps_if (pt_cmpR op_eq (pe_ix ix_list (pv 1) (pv 4) (fun _ _ => rfl)) pe_str (nomark _)) (pss_one (ps_expr (pe_bm PySem.F.plainAttrs_list PySem.F.slot_list_append PySem.F.type_list_append mt_append (pv 3) (pa_cons (pe_callTy call_list_of (by rfl) T.b_list (by decide +kernel) (pa_cons (pe_ix ix_list (pv 3) (pe_ix ix_tup (pv 6) pe_int (fun _ _ => rfl)) (fun _ _ => rfl)) pa_nil)) pa_nil))))
          (pss_one (ps_if (pt_cmpR op_eq (pe_ix ix_list (pv 1) (pv 4) (fun _ _ => rfl)) pe_str (nomark _)) (pss_one (ps_expr (pe_bm PySem.F.plainAttrs_list PySem.F.slot_list_append PySem.F.type_list_append mt_append (pv 3) (pa_cons (pe_k (ok_still_form T F) (hr.mono (by decide)) rfl (pa_cons (pv 2) pa_nil)) pa_nil))))
            (pss_cons (ps_expr (pe_bm PySem.F.plainAttrs_list PySem.F.slot_list_append PySem.F.type_list_append mt_append (pv 3) (pa_cons (pe_k (ok_lone_form T F) (hr.mono (by decide)) rfl (pa_cons (pv 5) (pa_cons (pv 2) pa_nil))) pa_nil)))
            (pss_one (ps_aug (i := 5) sc_forms_in.nd rfl (Or.inl rfl) pe_int ip_add))))))
        (pss_one (ps_aug (i := 4) sc_forms_in.nd rfl (Or.inl rfl) pe_int ip_add)))))
      (pss_one (ps_ret (pv 3)))))))), ?_⟩
    obtain ⟨flat, cnt⟩ := case_flat pw
    have lu1 := pu.length
    have lw := pw.length
    have okf := ok.few
    have okm := ok.m6
    have bn := bendsN_le N.us
    have ol := opens_le cs
    refine ⟨_, rfl, p, A.cN, dx, _, _, rfl, hp, T.cNet, T.n_many, ntf_many _ _ _, _, rfl, .inl ⟨rfl, _, SqL.of hb⟩, b, ws, _, rfl, rfl, SqL.of hb, rfl, flat, _, _, rfl, rfl, ?_⟩
    refine gname_eq (v' := .int ((N.many + opens cs : Nat) : Int)) (by rw [cnt, Int.natCast_add]) ?_
    generalize hm : N.many + opens cs = m
    have hm40 : m ≤ 90 := by omega
    refine ⟨_, rfl, p, A.cN, dx, _, _, rfl, hp, T.cNet, T.n_many, ntf_many _ _ _, (N.many : Int), rfl, by omega, by omega, fun l hl => lc_h (R := rForm K) m_form walk_range ((List.range N.many).map fun k => lone k m) (by rw [List.length_map, List.length_range]; omega) (by omega) hl
      (fun _ _ => True.intro) (fun _ _ _ _ h => yfn_same h) ?_ ?_⟩
    · rintro i v Hc H' g Z Nx hi ho2 sc ⟨rfl, rfl⟩ hZ
      have him : i < N.many := by omega
      have eg : g = lone i m := by
        rw [List.getElem?_map, List.getElem?_range him] at ho2
        exact (Option.some.inj ho2).symm
      refine ⟨rfl, ?_⟩
      refine ⟨_, rfl, _, rfl, i, m, by show [V.int (0 + (i : Int)), V.int (m : Int)] = _; rw [Int.zero_add], by omega, hm40, fun H4 v s4 r => ?_⟩
      rw [eg] at hZ
      exact hZ v H4 s4 r
    · rintro H1 ls s1 hl2 pl
      refine ⟨_, rfl, p, A.cN, dx, _, _, rfl, s1 _ _ hp, T.cNet, T.n_many, ntf_many _ _ _, ?_⟩
      refine ⟨_, rfl, p, A.cN, dx, _, _, rfl, s1 _ _ hp, T.cNet, T.n_units, ntf_units _ _ _, lu, rfl, ⟨us, SqL.of (s1 _ _ hu)⟩, for_list (K := K) (a := lu) (xs := us) (fun i σ Hc => ∃ (v6 : Option V) (vs : List V), σ = [some (.ref p), some (.ref b), some (.int (m : Int)), some (.ref l),
          some (.int ((stepsF N.many m cs (N.us.take i)).bent : Int)), some (.int ((stepsF N.many m cs (N.us.take i)).opened : Int)), v6, none] ∧ Same H Hc ∧ Hc l = some (.lst vs) ∧ Paired (rForm K (hide l (fr H Hc))) vs (stepsF N.many m cs (N.us.take i)).known)
        ⟨none, ls, rfl, s1, hl2, pl⟩ (fun i σ Hc _ ⟨_, _, _, sc, _⟩ => SqL.of (sc _ _ hu)) ?_ ?_⟩
      · rintro i u σ Hc hi ⟨v6, vs, rfl, sc, hv, pv⟩
        obtain ⟨un, e1, q1⟩ := pr_get pu hi
        have q2 := m_unit _ _ _ _ sc q1
        have hi12 : i ≤ N.us.length := Nat.le_of_lt (List.getElem?_eq_some_iff.mp e1).1
        have so := steps_ok hm.symm ok.ok hcs i hi12
        have en := steps_next (many := N.many) (m := m) (cs := cs) e1
        have uok := ok.ok i un e1
        generalize hst : stepsF N.many m cs (N.us.take i) = st at so en pv ⊢
        have hlen : vs.length < sizeLine := Nat.lt_of_le_of_lt (show vs.length ≤ 100 by rw [pv.length, so.len]; omega) (by decide)
        -- a form is appended
        have fin : ∀ (H5 : Hp) (z : V) (g : List Rt), Same Hc H5 → rForm K (fr Hc H5) z g → Same H (upd H5 l (.lst (vs ++ [z]))) ∧ (upd H5 l (.lst (vs ++ [z]))) l = some (.lst (vs ++ [z])) ∧ Paired (rForm K (hide l (fr H (upd H5 l (.lst (vs ++ [z])))))) (vs ++ [z]) (st.known ++ [g]) := fun H5 z g s5 rz => by
          refine ⟨same_mut (sc.trans s5) hl, upd_same, ?_⟩
          rw [hide_fr_upd]
          exact (p_sm m_form (same_hide (fr_mono s5)) pv).snoc (m_form _ _ _ _ (fr_in sc hv) rz)
        have pk : Paired (rForm K Hc) vs st.known := p_sm m_form (fun b o h => fr_sub _ _ (hide_sub _ _ h)) pv
        cases un with
        | sum c ts =>
          obtain ⟨a, x1, y1, rfl, q, rc, rt⟩ := q2
          refine ⟨_, rfl, a, _, _, _, rfl, rfl, q, rfl, rfl, _, rfl, ?_⟩
          rw [decide_eq_true rfl]
          refine iteT ⟨_, rfl, .inl ⟨rfl, _, SqL.of hv⟩, _, rfl, a, _, _, x1, rfl, rfl, q, rfl, _, rfl, a, _, _, y1, rfl, rfl, q, rfl, _, rfl, _, rfl, x1, y1, .ref l, 1 + i, m, c, ts, st.known, rfl, rc, rt, ⟨l, vs, rfl, hv, pk⟩, by omega, hm40, so.kf, uok.con _ _ rfl, ?_, uok.few _ _ rfl, fun H5 z s5 rz => ?_⟩
          · rw [so.len]
            exact uok.ok _ _ rfl
          · refine ⟨l, vs, z, rfl, rfl, s5 _ _ hv, hlen, ?_⟩
            obtain ⟨f1, f2, f3⟩ := fin H5 z _ s5 rz
            show ∃ (v6 : Option V) (vs : List V), _
            rw [en]
            exact ⟨_, _, rfl, f1, f2, f3⟩
        | bend pp =>
          obtain ⟨a, rfl, q⟩ := q2
          have hpp := uok.bend pp rfl
          have hbl : st.bent < cs.length := by
            rw [so.bent, hcs]
            exact bendsN_take e1
          have ec : cs[st.bent]? = some cs[st.bent] := List.getElem?_eq_getElem hbl
          have eg : cs.getD st.bent .off = cs[st.bent] := getD_of ec
          have eo := opens_take_lt (cs := cs) (b := st.bent)
          have en2 : fStep cs m st (.bend pp) = match cs[st.bent] with
              | .on => ⟨st.known ++ [st.known.getD pp []], st.bent + 1, st.opened⟩
              | .off => ⟨st.known ++ [still m], st.bent + 1, st.opened⟩
              | .opn => ⟨st.known ++ [lone st.opened m], st.bent + 1, st.opened + 1⟩ := by
            unfold fStep
            rw [eg]
            all_goals (cases cs[st.bent] <;> rfl)
          generalize cs[st.bent] = cc at ec eg en2
          obtain ⟨cv, ecv, rcv⟩ := pr_at pw ec
          have rcv' : cv = .str cc.txt := rcv
          subst rcv'
          have e0 : decide (V.str "bend" = V.str "sum") = false := by decide +kernel
          refine ⟨_, rfl, a, _, _, _, rfl, rfl, q, rfl, rfl, _, rfl, ?_⟩
          rw [e0]
          refine iteF ⟨_, rfl, _, rfl, b, ws, _, _, rfl, rfl, SqL.of (sc _ _ hb), atI_nat ecv, rfl, _, rfl, ?_⟩
          show if decide (V.str cc.txt = V.str C3.on.txt) = true then _ else _
          rw [txt_eq]
          have ekn : st.known[pp]? = some (st.known.getD pp []) := by
            rw [List.getD_eq_getElem?_getD, List.getElem?_eq_getElem (by rw [so.len]; exact hpp)]
            rfl
          by_cases c1 : cc = .on
          · subst c1
            obtain ⟨kv, ek, kl, kws, rfl, hkl, pkl⟩ := pr_at pk ekn
            refine iteT ⟨_, rfl, .inl ⟨rfl, _, SqL.of hv⟩, _, rfl, _, rfl, a, _, _, _, rfl, rfl, q, rfl, l, vs, _, _, rfl, rfl, SqL.of hv, atI_nat ek, kl, kws, rfl, .inl (SqL.of hkl), fun pn hpn => ?_⟩
            have s5 : Same Hc (upd Hc pn (.lst kws)) := same_new hpn
            refine ⟨l, vs, _, rfl, rfl, s5 _ _ hv, hlen, ?_⟩
            obtain ⟨f1, f2, f3⟩ := fin _ (.ref pn) (st.known.getD pp []) s5 (copy_form t_rat (Same.refl Hc) hpn pkl)
            refine ⟨_, rfl, _, _, rfl, rfl, ?_⟩
            show ∃ (v6 : Option V) (vs : List V), _
            rw [en, en2]
            exact ⟨_, _, rfl, f1, f2, f3⟩
          · rw [decide_eq_false c1]
            refine iteF ⟨_, rfl, _, rfl, b, ws, _, _, rfl, rfl, SqL.of (sc _ _ hb), atI_nat ecv, rfl, _, rfl, ?_⟩
            show if decide (V.str cc.txt = V.str C3.off.txt) = true then _ else _
            rw [txt_eq]
            by_cases c2 : cc = .off
            · subst c2
              refine iteT ⟨_, rfl, .inl ⟨rfl, _, SqL.of hv⟩, _, rfl, m, rfl, hm40, fun H5 z s5 rz => ?_⟩
              refine ⟨l, vs, z, rfl, rfl, s5 _ _ hv, hlen, ?_⟩
              obtain ⟨f1, f2, f3⟩ := fin H5 z _ s5 rz
              refine ⟨_, rfl, _, _, rfl, rfl, ?_⟩
              show ∃ (v6 : Option V) (vs : List V), _
              rw [en, en2]
              exact ⟨_, _, rfl, f1, f2, f3⟩
            · rw [decide_eq_false c2]
              have c3 : cc = .opn := by
                cases cc with
                | on => exact absurd rfl c1
                | off => exact absurd rfl c2
                | opn => rfl
              subst c3
              have olt := eo ec
              have ope := so.opened
              refine iteF ⟨_, rfl, .inl ⟨rfl, _, SqL.of hv⟩, _, rfl, _, rfl, st.opened, m, rfl, by omega, hm40, fun H5 z s5 rz => ?_⟩
              refine ⟨l, vs, z, rfl, rfl, s5 _ _ hv, hlen, ?_⟩
              obtain ⟨f1, f2, f3⟩ := fin H5 z _ s5 rz
              refine ⟨_, rfl, _, _, rfl, rfl, ?_⟩
              refine ⟨_, rfl, _, _, rfl, rfl, ?_⟩
              show ∃ (v6 : Option V) (vs : List V), _
              rw [en, en2]
              exact ⟨_, _, rfl, f1, f2, f3⟩
      · rintro σ Hc ⟨v6, vs, rfl, sc, hv, pv⟩
        rw [List.take_of_length_le (by omega)] at pv
        refine ⟨_, rfl, k Hc _ sc ⟨l, vs, rfl, by rw [fr_new hl]; exact hv, ?_⟩⟩
        rw [formsF_eq, hm]
        exact p_sm m_form hide_sub pv
end
end BP
end


/-! A6 -/
section
set_option maxHeartbeats 4000000
namespace BP
open PySem L2
/-- a new list, whose items do not lean on the list itself -/
def rLstH {α : Type} (R : Rp α) (H H' : Hp) (v : V) (xs : List α) : Prop := ∃ a vs, v = .ref a ∧ H a = none ∧ H' a = some (.lst vs) ∧ Paired (R (hide a (fr H H'))) vs xs
theorem rLstH.lst {α : Type} {R : Rp α} (hR : MonR R) {H H' : Hp} {v : V} {xs : List α} (h : rLstH R H H' v xs) : rLst R (fr H H') v xs := by
  obtain ⟨a, vs, e, n, q, p⟩ := h
  exact ⟨a, vs, e, by rw [fr_new n]; exact q, p_sm hR hide_sub p⟩
theorem rLstH.back {α : Type} {R : Rp α} (hR : MonR R) {H0 H H' : Hp} {v : V} {xs : List α} (s : Same H0 H) (h : rLstH R H H' v xs) : rLstH R H0 H' v xs := by
  obtain ⟨a, vs, e, n, q, p⟩ := h
  exact ⟨a, vs, e, s.free n, q, p_sm hR (same_hide (fr_from s)) p⟩
def spRowsBy (K : PySem.W.Frag) (A : Ad) : Sp := fun vs H Q _ => ∃ (x y c z : V) (N : NetD) (S : List (Rt × Rt)) (cs : List C3) (Fm : List (List Rt)) (m : Nat), vs = [x, y, c, z] ∧ rNet K A H x N ∧ rLst (rSpan K) H y S ∧ rLst rC3 H c cs ∧ rLst (rForm K) H z Fm ∧
  NOk N ∧ S.length = N.many + N.us.length ∧ Fm.length = N.many + N.us.length ∧ KS 20 S ∧ KF 20 m Fm ∧ m ≤ 90 ∧ cs.length = bendsN N.us ∧ ∀ H' v, Same H H' → rLstH (rRow K) H H' v (rowsF N.many N.us cs S Fm) → Q v H'
def spRowsIn (K : PySem.W.Frag) (A : Ad) : Sp := fun vs H Q _ => ∃ (x y c : V) (N : NetD) (sd : List (Rt × Rt)) (cs : List C3), vs = [x, y, c] ∧ rNet K A H x N ∧ rBox K A H y sd ∧ rLst rC3 H c cs ∧
  NOk N ∧ sd.length = N.many ∧ KS 1 sd ∧ cs.length = bendsN N.us ∧ ∀ H' v, Same H H' → rLstH (rRow K) H H' v (rowsF N.many N.us cs (spansF sd N.us) (formsF N.many N.us cs)) → Q v H'
theorem p_append {α : Type} {F : V → α → Prop} : ∀ {vs ws : List V} {xs ys : List α}, Paired F vs xs → Paired F ws ys → Paired F (vs ++ ws) (xs ++ ys)
  | _, _, _, _, .nil, h => h
  | _, _, _, _, .cons r t, h => .cons r (p_append t h)
theorem bendRows_le (st : C3) (e : Rt × Rt) (a b : List Rt) : (bendRows st e a b).length ≤ 3 := by
  cases st <;> simp [bendRows]
theorem flat_le {α : Type} {f : α → List Rw} (h : ∀ a, (f a).length ≤ 3) : ∀ l : List α, (l.flatMap f).length ≤ 3 * l.length
  | [] => Nat.zero_le _
  | a :: r => by
    have h1 := h a
    have h2 := flat_le h r
    rw [List.flatMap_cons, List.length_append, List.length_cons]
    omega
theorem flat_next {α : Type} {f : α → List Rw} {l : List α} {i : Nat} {x : α} (h : l[i]? = some x) : (l.take (i + 1)).flatMap f = (l.take i).flatMap f ++ f x := by
  rw [take_next h, List.flatMap_append, List.flatMap_cons, List.flatMap_nil, List.append_nil]
theorem get_at {α : Type} {l : List α} {i : Nat} {d : α} (h : i < l.length) : l[i]? = some (l.getD i d) := by
  rw [List.getD_eq_getElem?_getD, List.getElem?_eq_getElem h]
  rfl
section
variable {P : Program} {w : World} {K : PySem.W.Frag} {mg : Str → Option Value} {base : Heap} {A : Ad}
theorem ok_rows_by (T : Txt K mg A) (F : Fns K mg A) : Kept P w K mg base 8 "rows_by" ["net", "sides", "case", "known"] (spRowsBy K A) := kept_of F.rows_by fun f fd Fn => by
  refine Fn.ok sc_rows_by (fun vs H Q E h => ?_) (fun cdv Ar outer s H vs Q E hr h => ?_)
  · obtain ⟨x, y, c, z, N, S, cs, Fm, m, rfl, _⟩ := h
    rfl
  · obtain ⟨x, y, c, z, N, S, cs, Fm, m, rfl, hN, ⟨sb, ss, rfl, hs, ps⟩, ⟨cb, ws, rfl, hc, pc⟩, ⟨fb, fs, rfl, hf, pf⟩, ok, lS, lF, kS, kF, hm, hcs, k⟩ := h
    obtain ⟨p, dx, lu, lo, rfl, hp, ⟨lu', us, eu, hu, pu⟩, ho⟩ := id hN
    cases eu
    refine ⟨_, (pss_cons (ps_set (i := 4) sc_rows_by.nd rfl (Or.inl rfl) (pe_lst pa_nil))
      (pss_cons (ps_for PassesOwn.never rfl (pi_range1 (by rfl) T.b_range (pa_cons (pe_fld (pv 0) rfl) pa_nil)) (pg_name (i := 5) sc_rows_by.nd rfl (Or.inl rfl))
        (pss_cons (ps_expr (pe_bm PySem.F.plainAttrs_list PySem.F.slot_list_append PySem.F.type_list_append mt_append (pv 4) (pa_cons (pe_k (ok_not_above T F) (hr.mono (by decide)) rfl (pa_cons (pe_ix ix_list (pv 3) (pv 5) (fun _ _ => rfl)) (pa_cons (pe_ix ix_tup (pe_ix ix_list (pv 1) (pv 5) (fun _ _ => rfl)) pe_int (fun _ _ => rfl)) pa_nil))) pa_nil)))
        (pss_one (ps_expr (pe_bm PySem.F.plainAttrs_list PySem.F.slot_list_append PySem.F.type_list_append mt_append (pv 4) (pa_cons (pe_k (ok_not_below T F) (hr.mono (by decide)) rfl (pa_cons (pe_ix ix_list (pv 3) (pv 5) (fun _ _ => rfl)) (pa_cons (pe_ix ix_tup (pe_ix ix_list (pv 1) (pv 5) (fun _ _ => rfl)) pe_int (fun _ _ => rfl)) pa_nil))) pa_nil))))))
      (pss_cons (ps_for PassesOwn.never rfl (pi_enum (by rfl) T.b_enumerate (pa_cons (pe_m0 (pv 0) T.cNet T.m_Net_bends (ok_Net_bends T F) (hr.mono (by decide))) pa_nil)) (pg_tup rfl (pgs_cons (pg_name (i := 6) sc_rows_by.nd rfl (Or.inl rfl)) (pgs_cons (pg_name (i := 7) sc_rows_by.nd rfl (Or.inl rfl)) pgs_nil)))
        (pss_cons (ps_set (i := 8) sc_rows_by.nd rfl (Or.inl rfl) (pe_ix ix_tup (pe_ix ix_list (pe_fld (pv 0) rfl) (pe_op op_sub (pv 7) (pe_fld (pv 0) rfl)) (fun _ _ => rfl)) pe_int (fun _ _ => rfl)))
        (pss_one (ps_expr (pe_bm PySem.F.plainAttrs_list PySem.F.slot_list_extend PySem.F.type_list_extend mt_extend (pv 4) (pa_cons (pe_k (ok_rows_of_bend T F) (hr.mono (by decide)) rfl (pa_cons (pe_ix ix_list (pv 2) (pv 6) (fun _ _ => rfl)) (pa_cons (pe_ix ix_list (pv 1) (pv 8) (fun _ _ => rfl)) (pa_cons (pe_ix ix_list (pv 3) (pv 8) (fun _ _ => rfl)) (pa_cons (pe_ix ix_list (pv 3) (pv 7) (fun _ _ => rfl)) pa_nil))))) pa_nil))))))
      (pss_one (ps_ret (pv 4)))))), ?_⟩
    have okf := ok.few
    have okm := ok.m6
    have bn := bendsN_le N.us
    refine ⟨Nat.zero_le _, fun l hl => ?_⟩
    have s0 : Same H (upd H l (.lst [])) := same_new hl
    refine ⟨_, rfl, p, A.cN, dx, _, _, rfl, s0 _ _ hp, T.cNet, T.n_many, ntf_many _ _ _, (N.many : Int), rfl, by omega, by omega, for_range (lo := 0) (n := (N.many : Int).toNat) (fun i σ Hc => ∃ (v5 : Option V) (vs : List V), σ = [some (.ref p), some (.ref sb), some (.ref cb), some (.ref fb), some (.ref l), v5, none, none, none] ∧
      Same H Hc ∧ Hc l = some (.lst vs) ∧ Paired (rRow K (hide l (fr H Hc))) vs ((List.range i).flatMap (inRows S Fm))) ⟨none, [], rfl, s0, upd_same, .nil⟩ ?_ ?_⟩
    · rintro i σ Hc hi ⟨v5, vs, rfl, sc, hv, pv⟩
      have him : i < N.many := by omega
      have hlen : vs.length ≤ 3 * i := by
        rw [pv.length]
        have h := flat_le (f := inRows S Fm) (fun a => by show 2 ≤ 3; omega) (List.range i)
        rw [List.length_range] at h
        exact h
      have eS := get_at (d := dflE) (show i < S.length by omega)
      have eF := get_at (d := []) (show i < Fm.length by omega)
      obtain ⟨sv, es, t, a1, a2, rfl, ht, r1, r2⟩ := pr_at ps eS
      obtain ⟨fv, ef, rf⟩ := pr_at pf eF
      obtain ⟨k1, k2⟩ := kS _ (List.mem_of_getElem? eS)
      obtain ⟨g1, g2⟩ := kF _ (List.mem_of_getElem? eF)
      refine ⟨_, rfl, .inl ⟨rfl, _, SqL.of hv⟩, _, rfl, _, rfl, fb, fs, _, fv, rfl, rfl, SqL.of (sc _ _ hf), at_of (Int.zero_add _) ef, _, rfl, _, rfl, sb, ss, _, _, rfl, rfl, SqL.of (sc _ _ hs), at_of (Int.zero_add _) es, t, _, _, a2, rfl, rfl, same_tup sc _ _ ht, rfl,
        fv, a2, _, _, rfl, m_form _ _ _ _ sc rf, t_rat.mon _ _ _ _ sc r2, by omega, by omega, lv_fit g2 (by decide), k2.fit (by decide), fun H2 z2 s2 q2 => ?_⟩
      refine ⟨l, vs, z2, rfl, rfl, s2 _ _ hv, Nat.lt_of_le_of_lt (show vs.length ≤ 100 by omega) (by decide), ?_⟩
      have sc3 : Same H (upd H2 l (.lst (vs ++ [z2]))) := same_mut (sc.trans s2) hl
      refine ⟨_, rfl, .inl ⟨rfl, _, SqL.of upd_same⟩, _, rfl, _, rfl, fb, fs, _, fv, rfl, rfl, SqL.of (sc3 _ _ hf), at_of (Int.zero_add _) ef, _, rfl, _, rfl, sb, ss, _, _, rfl, rfl, SqL.of (sc3 _ _ hs), at_of (Int.zero_add _) es, t, _, _, a1, rfl, rfl, same_tup sc3 _ _ ht, rfl,
        fv, a1, _, _, rfl, m_form _ _ _ _ sc3 rf, t_rat.mon _ _ _ _ sc3 r1, by omega, by omega, lv_fit g2 (by decide), k1.fit (by decide), fun H4 z4 s4 q4 => ?_⟩
      refine ⟨l, vs ++ [z2], z4, rfl, rfl, s4 _ _ upd_same, ?_, ?_⟩
      · rw [List.length_append]
        exact Nat.lt_of_le_of_lt (show vs.length + 1 ≤ 100 by omega) (by decide)
      · refine ⟨_, _, rfl, same_mut (sc3.trans s4) hl, upd_same, ?_⟩
        rw [hide_fr_upd]
        have ea : (List.range (i + 1)).flatMap (inRows S Fm) = ((List.range i).flatMap (inRows S Fm) ++ [naF (Fm.getD i []) (S.getD i dflE).2]) ++ [nbF (Fm.getD i []) (S.getD i dflE).1] := by
          rw [List.range_succ, List.flatMap_append, List.flatMap_cons, List.flatMap_nil, List.append_nil, List.append_assoc]
          rfl
        rw [ea]
        have h24 : Same (hide l (fr H H2)) (hide l (fr H H4)) := fun b o h => by
          have h' : hide l (fr H (upd H2 l (.lst (vs ++ [z2])))) b = some o := by
            rw [hide_fr_upd]
            exact h
          exact same_hide (fr_mono s4) _ _ h'
        refine ((p_sm m_row (Same.trans (same_hide (fr_mono s2)) h24) pv).snoc ?_).snoc ?_
        · exact m_row _ _ _ _ h24 (m_row _ _ _ _ (fr_in sc hv) q2)
        · exact m_row _ _ _ _ (fr_in sc3 upd_same) q4
    · rintro σ H1 ⟨v5, vs1, rfl, s1, hv1, pv1⟩
      have em : (N.many : Int).toNat = N.many := by omega
      rw [em] at pv1
      -- the bends
      refine ⟨_, rfl, p, dx, _, rfl, s1 _ _ hp, ntf_no (by decide +kernel) (by decide +kernel) (by decide +kernel), _, N, rfl, m_net _ _ _ _ s1 hN, okf, ?_⟩
      rintro H2 v2 s2 ⟨bl, bs, rfl, hbl, pb⟩
      have hv2 := s2 _ _ hv1
      have s12 := s1.trans s2
      have hbs : (hide l H2) bl = some (.lst bs) := fr_hide hv1 _ _ hbl
      have lb := pb.length
      rw [bendsAt_len] at lb
      refine ⟨bl, bs, rfl, SqL.of (hide_sub _ _ hbs), for_it (L2.walk_enum (K := K) (a := bl) (xs := bs)) (fun i σ Hc => ∃ (v5 v6 v7 v8 : Option V) (vs : List V), σ = [some (.ref p), some (.ref sb), some (.ref cb), some (.ref fb), some (.ref l), v5, v6, v7, v8] ∧
        Same H Hc ∧ Same (hide l H2) Hc ∧ Hc l = some (.lst vs) ∧ Paired (rRow K (hide l (fr H Hc))) vs ((List.range N.many).flatMap (inRows S Fm) ++ ((cs.zip (bendsAt N.many N.us)).take i).flatMap (rowsOfBend N.many N.us S Fm)))
        ⟨v5, none, none, none, vs1, rfl, s12, hide_sub, hv2, ?_⟩ (fun i σ Hc _ ⟨_, _, _, _, _, _, _, sh, _⟩ => SqL.of (sh _ _ hbs)) ?_ ?_⟩
      · show Paired _ vs1 (_ ++ [])
        rw [List.append_nil]
        exact p_sm m_row (same_hide (fr_mono s2)) pv1
      · rintro i v σ Hc Hd hi ⟨v5, v6, v7, v8, vs, rfl, sc, sh, hv, pv⟩ ⟨T1, a, b, rfl, hT, rfl, ha, hb⟩
        cases ha
        have sT : Same Hc (upd Hc T1 (.tup [.int (i : Nat), b])) := same_new hT
        have sd := sc.trans sT
        obtain ⟨q, eq, rq⟩ := pr_get pb hb
        have rq' : b = .int (q : Int) := rq
        subst rq'
        obtain ⟨hq1, pp, hq2⟩ := bendsAt_mem (List.mem_of_getElem? eq)
        have hql : q - N.many < N.us.length := (List.getElem?_eq_some_iff.mp hq2).1
        obtain ⟨uv, euv, ta, rfl, hta⟩ := pr_at pu hq2
        have hpp : pp < N.many + (q - N.many) := (ok.ok _ _ hq2).bend pp rfl
        have eS := get_at (d := dflE) (show pp < S.length by omega)
        have eF := get_at (d := []) (show pp < Fm.length by omega)
        have eG := get_at (d := []) (show q < Fm.length by omega)
        have hic : i < cs.length := by omega
        have ec : cs[i]? = some cs[i] := List.getElem?_eq_getElem hic
        generalize cs[i] = cc at ec
        obtain ⟨cv, ecv, rcv⟩ := pr_at pc ec
        obtain ⟨sv, es, rs⟩ := pr_at ps eS
        obtain ⟨fv, ef, rf⟩ := pr_at pf eF
        obtain ⟨gv, eg, rg⟩ := pr_at pf eG
        obtain ⟨k1, k2⟩ := kS _ (List.mem_of_getElem? eS)
        obtain ⟨f1, f2⟩ := kF _ (List.mem_of_getElem? eF)
        obtain ⟨g1, g2⟩ := kF _ (List.mem_of_getElem? eG)
        have ez : (cs.zip (bendsAt N.many N.us))[i]? = some (cc, q) := by
          rw [List.zip, List.getElem?_zipWith, ec, eq]
        have hlen : vs.length ≤ 60 := by
          rw [pv.length, List.length_append]
          have h1 := flat_le (f := inRows S Fm) (fun a => by show 2 ≤ 3; omega) (List.range N.many)
          have h2 := flat_le (f := rowsOfBend N.many N.us S Fm) (fun a => bendRows_le _ _ _ _) ((cs.zip (bendsAt N.many N.us)).take i)
          rw [List.length_range] at h1
          rw [List.length_take] at h2
          omega
        refine ⟨T1, _, rfl, SqT.of upd_same, rfl, _, _, rfl, _, _, rfl, rfl, ?_⟩
        refine ⟨_, rfl, p, A.cN, dx, _, _, rfl, sd _ _ hp, T.cNet, T.n_units, ntf_units _ _ _, _, rfl, _, rfl, p, A.cN, dx, _, _, rfl, sd _ _ hp, T.cNet, T.n_many, ntf_many _ _ _, _, _, rfl, rfl, lu, us, _, _, rfl, rfl, SqL.of (sd _ _ hu), at_of (j := q - N.many) (by omega) euv,
          ta, _, _, _, rfl, rfl, same_tup sd _ _ hta, rfl, ?_⟩
        refine ⟨_, rfl, .inl ⟨rfl, _, SqL.of (sT _ _ hv)⟩, _, rfl, _, rfl, cb, ws, _, cv, rfl, rfl, SqL.of (sd _ _ hc), atI_nat ecv, _, rfl, _, rfl, sb, ss, _, sv, rfl, rfl, SqL.of (sd _ _ hs), atI_nat es,
          _, rfl, _, rfl, fb, fs, _, fv, rfl, rfl, SqL.of (sd _ _ hf), atI_nat ef, _, rfl, _, rfl, fb, fs, _, gv, rfl, rfl, SqL.of (sd _ _ hf), atI_nat eg,
          cv, sv, fv, gv, cc, _, _, _, rfl, rcv, t_span.mon _ _ _ _ sd rs, m_form _ _ _ _ sd rf, m_form _ _ _ _ sd rg, by omega, by omega, by omega, ⟨k1, k2⟩, f2, g2, ?_⟩
        rintro H5 z5 s5 ⟨rb, zs, rfl, hrb, pz⟩
        have hv5 := (sT.trans s5) _ _ hv
        have lz := pz.length
        have lz3 := bendRows_le cc (S.getD pp dflE) (Fm.getD pp []) (Fm.getD q [])
        refine ⟨l, rb, vs, zs, rfl, rfl, hv5, fr_sub _ _ hrb, Nat.le_trans (show vs.length + zs.length ≤ 100 by omega) (by decide), ?_⟩
        refine ⟨_, _, _, _, _, rfl, same_mut (sd.trans s5) hl, same_mut ((sh.trans sT).trans s5) hide_self, upd_same, ?_⟩
        rw [hide_fr_upd, flat_next ez, ← List.append_assoc]
        have er : rowsOfBend N.many N.us S Fm (cc, q) = bendRows cc (S.getD pp dflE) (Fm.getD pp []) (Fm.getD q []) := by
          show bendRows cc (S.getD (srcAt N.many N.us q) dflE) (Fm.getD (srcAt N.many N.us q) []) (Fm.getD q []) = _
          rw [srcAt_of hq2]
        rw [er]
        exact p_append (p_sm m_row (same_hide (fr_mono (sT.trans s5))) pv) (p_sm m_row (fr_in sd (sT _ _ hv)) pz)
      · rintro σ Hc ⟨v5, v6, v7, v8, vs, rfl, sc, sh, hv, pv⟩
        rw [List.take_of_length_le (by rw [List.length_zip, bendsAt_len]; omega)] at pv
        exact ⟨_, rfl, k Hc _ sc ⟨l, vs, rfl, hl, hv, pv⟩⟩
theorem ok_rows_in (T : Txt K mg A) (F : Fns K mg A) : Kept P w K mg base 9 "rows_in" ["net", "box", "case"] (spRowsIn K A) := kept_of F.rows_in fun f fd Fn => by
  refine Fn.ok sc_rows_in (fun vs H Q E h => ?_) (fun cdv Ar outer s H vs Q E hr h => ?_)
  · obtain ⟨x, y, c, N, sd, cs, rfl, _⟩ := h
    rfl
  · obtain ⟨x, y, c, N, sd, cs, rfl, hN, hB, hC, ok, lsd, ks, hcs, k⟩ := h
    refine ⟨_, (pss_one (ps_ret (pe_k (ok_rows_by T F) (hr.mono (by decide)) rfl (pa_cons (pv 0) (pa_cons (pe_k (ok_spans T F) (hr.mono (by decide)) rfl (pa_cons (pv 0) (pa_cons (pv 1) pa_nil))) (pa_cons (pv 2) (pa_cons (pe_k (ok_forms_in T F) (hr.mono (by decide)) rfl (pa_cons (pv 0) (pa_cons (pv 2) pa_nil))) pa_nil))))))), ?_⟩
    have okf := ok.few
    have okm := ok.m6
    have bn := bendsN_le N.us
    have ol := opens_le cs
    have sa := spans_all ks (by rw [lsd]; exact ok.ok)
    have fa := forms_all (cs := cs) ok.ok hcs
    refine ⟨_, rfl, _, rfl, _, rfl, x, y, N, sd, rfl, hN, hB, ok, lsd, ks, fun H1 v1 s1 r1 => ?_⟩
    refine ⟨_, rfl, _, rfl, _, rfl, x, c, N, cs, rfl, m_net _ _ _ _ s1 hN, m_cases _ _ _ _ s1 hC, ok, hcs, fun H2 v2 s2 r2 => ?_⟩
    have s12 := s1.trans s2
    refine ⟨x, v1, c, v2, N, spansF sd N.us, cs, formsF N.many N.us cs, N.many + opens cs, rfl, m_net _ _ _ _ s12 hN, m_spans _ _ _ _ s2 (m_spans _ _ _ _ fr_sub r1), m_cases _ _ _ _ s12 hC, m_forms _ _ _ _ fr_sub r2,
      ok, by rw [sa.1, lsd], fa.1, ks_mono sa.2 (by omega), kf_mono fa.2 (by omega), by omega, hcs, fun H3 v3 s3 r3 => ?_⟩
    exact k H3 v3 (s12.trans s3) (r3.back m_row s12)
end
end BP
end


/-! A7 -/
section
set_option maxHeartbeats 4000000
namespace BP
open PySem L2
def spPart (K : PySem.W.Frag) : Sp := fun vs H Q _ => ∃ t m : Int, vs = [.int t, .int m] ∧ 0 < m ∧ m.natAbs < 2 ^ 8900 ∧ ∀ H' v, Same H H' → rRat K H' v (mk t m) → Q v H'
def spLawThird (K : PySem.W.Frag) : Sp := fun vs H Q _ => ∃ (x1 x2 y z : V) (e : Rt × Rt) (src own : List Rt), vs = [x1, x2, y, z] ∧ rRat K H x1 e.1 ∧ rRat K H x2 e.2 ∧ rForm K H y src ∧ rForm K H z own ∧ 1 ≤ own.length ∧ own.length ≤ 100 ∧ src.length = own.length ∧
  (Lv 20 e.1 ∧ Lv 20 e.2) ∧ (∀ q ∈ src, Lv 20 q) ∧ (∀ q ∈ own, Lv 20 q) ∧ ∀ H' v, Same H H' → rRow K (fr H H') v (thirdF e src own) → Q v H'
section
variable {P : Program} {w : World} {K : PySem.W.Frag} {mg : Str → Option Value} {base : Heap} {A : Ad}
theorem ok__law_part (T : Txt K mg A) (F : Fns K mg A) : Kept P w K mg base 1 "_law_part" ["_law_top", "_law_bottom"] (spPart K) := kept_of F._law_part fun f fd Fn => by
  refine Fn.ok sc__law_part (fun vs H Q E h => ?_) (fun cdv Ar outer s H vs Q E hr h => ?_)
  · obtain ⟨t, m, rfl, _⟩ := h
    rfl
  · obtain ⟨t, m, rfl, hm, hs, k⟩ := h
    refine ⟨_, (pss_cons (ps_set (i := 2) sc__law_part.nd rfl (Or.inl rfl) (pe_callB call_abs (by rfl) T.b_abs (by decide +kernel) (pa_cons (pv 0) pa_nil)))
      (pss_cons (ps_set (i := 3) sc__law_part.nd rfl (Or.inl rfl) (pv 1))
      (pss_cons (ps_while PassesOwn.never (pt_cmpR op_gt (pv 2) pe_int (nomark _))
        (pss_one (ps_par (i := 2) (j := 3) (by rfl) sc__law_part.nd rfl rfl (by decide) rfl rfl (pa_cons (pe_op op_mod (pv 3) (pv 2)) (pa_cons (pv 2) pa_nil)) (by rfl))))
      (pss_one (ps_ret (pe_tup (pa_cons (pe_op op_fdivW (pv 0) (pv 3)) (pa_cons (pe_op op_fdivW (pv 1) (pv 3)) pa_nil)))))))), ?_⟩
    refine ⟨_, rfl, t, rfl, ?_⟩
    refine ⟨_, rfl, ?_⟩
    refine gname_eq (i := 3) (v' := .int m) rfl ?_
    rw [abs_if]
    refine while_by (fun σ H' => ∃ x y : Int, σ = [some (.int t), some (.int m), some (.int x), some (.int y)] ∧ 0 ≤ x ∧ 0 < y ∧ Int.gcd x y = Int.gcd t m ∧ H' = H)
      (fun σ _ => match σ with | [_, _, some (.int x), _] => x.toNat | _ => 0) ⟨(t.natAbs : Int), m, rfl, by omega, hm, by simp [Int.gcd], rfl⟩ ?_ ?_
    · rintro σ H' ⟨x, y, rfl, hx, hy, hg, rfl⟩
      refine ⟨_, rfl, _, _, rfl, rfl, _, rfl, ?_⟩
      by_cases e : x = 0
      · subst e
        rw [decide_eq_false (by omega)]
        refine iteF ?_
        have eg : y = (Int.gcd t m : Int) := by
          rw [← hg, Int.gcd_zero_left]
          omega
        have g1 : y.natAbs < 2 ^ 8900 := by
          have d : (Int.gcd t m : Int) ∣ m := Int.gcd_dvd_right ..
          have := Int.le_of_dvd hm d
          exact Nat.lt_of_le_of_lt (by omega) hs
        refine ⟨_, rfl, _, rfl, _, _, rfl, rfl, divw_small hy g1, _, rfl, _, rfl, _, _, rfl, rfl, divw_small hy g1, by show 2 ≤ sizeLine; decide, fun p hp => ?_⟩
        refine k _ _ (same_new hp) ⟨p, _, _, rfl, SqT.of upd_same, ?_, ?_⟩
        · rw [eg]
          rfl
        · rw [eg]
          rfl
      · rw [decide_eq_true (by omega)]
        refine iteT ?_
        have h1 := Int.emod_nonneg y (show x ≠ 0 by omega)
        have h2 := Int.emod_lt_of_pos y (show 0 < x by omega)
        refine ⟨_, rfl, _, rfl, _, _, rfl, rfl, by omega, _, rfl, _, _, rfl, ⟨y % x, x, rfl, h1, by omega, ?_, rfl⟩, ?_⟩
        · rw [← hg, Int.gcd_comm (y % x), gcd_step (Int.le_of_lt hy) (by omega), Int.gcd_comm]
        · show (y % x).toNat < x.toNat
          omega
    · rintro σ H Q Q' mo ⟨v, e, i, j, e1, e2, k, ek, q⟩
      exact ⟨v, e, i, j, e1, e2, k, ek, mo _ _ q⟩
theorem ok__law_sum (T : Txt K mg A) (F : Fns K mg A) : Kept P w K mg base 2 "_law_sum" ["_law_one", "_law_other"] (spTwo K padd) := kept_of F._law_sum fun f fd Fn => by
  refine Fn.ok sc__law_sum (fun vs H Q E h => ?_) (fun cdv Ar outer s H vs Q E hr h => ?_)
  · obtain ⟨x, y, a, b, rfl, _⟩ := h
    rfl
  · obtain ⟨x, y, a, b, rfl, ⟨p, _, _, rfl, qa, rfl, rfl⟩, ⟨p', _, _, rfl, qb, rfl, rfl⟩, fa, fb, k⟩ := h
    refine ⟨_, (pss_cons (ps_set (i := 2) sc__law_sum.nd rfl (Or.inl rfl) (pe_op op_add (pe_op op_mulW (pe_ix ix_tup (pv 0) pe_int (fun _ _ => rfl)) (pe_ix ix_tup (pv 1) pe_int (fun _ _ => rfl))) (pe_op op_mulW (pe_ix ix_tup (pv 1) pe_int (fun _ _ => rfl)) (pe_ix ix_tup (pv 0) pe_int (fun _ _ => rfl)))))
      (pss_one (ps_ret (pe_k (ok__law_part T F) (hr.mono (by decide)) rfl (pa_cons (pv 2) (pa_cons (pe_op op_mulW (pe_ix ix_tup (pv 0) pe_int (fun _ _ => rfl)) (pe_ix ix_tup (pv 1) pe_int (fun _ _ => rfl))) pa_nil)))))), ?_⟩
    have bb := fa.bb fb
    refine ⟨_, rfl, p, _, _, _, rfl, rfl, qa, rfl, _, rfl, p', _, _, _, rfl, rfl, qb, rfl, _, _, rfl, rfl, fa.mulTB fb, _, rfl, p', _, _, _, rfl, rfl, qb, rfl, _, rfl, p, _, _, _, rfl, rfl, qa, rfl, _, _, rfl, rfl, fb.mulTB fa, _, _, rfl, rfl, ?_⟩
    exact ⟨_, rfl, _, rfl, p, _, _, _, rfl, rfl, qa, rfl, _, rfl, p', _, _, _, rfl, rfl, qb, rfl, _, _, rfl, rfl, fa.mulBB fb, _, _, rfl, bb.1, bb.2, fun H1 v s1 r => k H1 v s1 r⟩
theorem ok__law_many (T : Txt K mg A) (F : Fns K mg A) : Kept P w K mg base 2 "_law_many" ["_law_one", "_law_other"] (spTwo K pmul) := kept_of F._law_many fun f fd Fn => by
  refine Fn.ok sc__law_many (fun vs H Q E h => ?_) (fun cdv Ar outer s H vs Q E hr h => ?_)
  · obtain ⟨x, y, a, b, rfl, _⟩ := h
    rfl
  · obtain ⟨x, y, a, b, rfl, ⟨p, _, _, rfl, qa, rfl, rfl⟩, ⟨p', _, _, rfl, qb, rfl, rfl⟩, fa, fb, k⟩ := h
    refine ⟨_, (pss_one (ps_ret (pe_k (ok__law_part T F) (hr.mono (by decide)) rfl (pa_cons (pe_op op_mulW (pe_ix ix_tup (pv 0) pe_int (fun _ _ => rfl)) (pe_ix ix_tup (pv 1) pe_int (fun _ _ => rfl))) (pa_cons (pe_op op_mulW (pe_ix ix_tup (pv 0) pe_int (fun _ _ => rfl)) (pe_ix ix_tup (pv 1) pe_int (fun _ _ => rfl))) pa_nil))))), ?_⟩
    have bb := fa.bb fb
    exact ⟨_, rfl, p, _, _, _, rfl, rfl, qa, rfl, _, rfl, p', _, _, _, rfl, rfl, qb, rfl, _, _, rfl, rfl, fa.mulTT fb,
      _, rfl, p, _, _, _, rfl, rfl, qa, rfl, _, rfl, p', _, _, _, rfl, rfl, qb, rfl, _, _, rfl, rfl, fa.mulBB fb, _, _, rfl, bb.1, bb.2, fun H1 v s1 r => k H1 v s1 r⟩
theorem ok__law_times (T : Txt K mg A) (F : Fns K mg A) : Kept P w K mg base 3 "_law_times" ["_law_form", "_law_by"] (spScaled K) := kept_of F._law_times fun f fd Fn => by
  refine Fn.ok sc__law_times (fun vs H Q E h => ?_) (fun cdv Ar outer s H vs Q E hr h => ?_)
  · obtain ⟨x, y, f, g, rfl, _⟩ := h
    rfl
  · obtain ⟨x, y, f, b, rfl, ⟨a, us, rfl, ha, pa⟩, hb, hz, ff, fb, k⟩ := h
    refine ⟨_, (pss_one (ps_ret (pe_lc (g := gName 2) (tt := tYes) (own := [("_law_share", 2)]) (by rfl) sc__law_times.nd (pi_list (pv 0)) (blkOk_by (own := [("_law_share", 2)]) (N := ["_law_form", "_law_by", "_law_share"]) (sc := defScope s__law_times) (by decide +kernel)) (fun _ _ _ _ _ => by exact (pg_name (i := 2) sc__law_times.nd rfl (Or.inl rfl))) (fun _ _ _ _ _ => pts_nil) (fun _ _ _ _ _ => (pe_k (ok__law_many T F) (hr.mono (by decide)) rfl (pa_cons (pv 2) (pa_cons (pv 1) pa_nil))))))), ?_⟩
    have la := pa.length
    refine ⟨_, rfl, a, rfl, ⟨_, SqL.of ha⟩, fun D hD => lc_m (R := rRat K) t_rat.mon walk_list (scaleF f b) (by unfold scaleF; rw [List.length_map]; omega) (by omega) hD
      (fun H' s => SqL.of (s _ _ ha)) (fun _ _ _ _ h => yat_same h) ?_ fun H' s r => k H' _ s r⟩
    rintro i x Hc H' z Z N hi ho s1 ⟨rfl, hu⟩ hZ
    obtain ⟨r1, e1, q1⟩ := pr_get pa hu
    have ez : z = pmul r1 b := by
      unfold scaleF at ho
      rw [List.getElem?_map, e1] at ho
      exact (Option.some.inj ho).symm
    refine ⟨rfl, ?_⟩
    refine ⟨_, rfl, _, rfl, x, y, r1, b, rfl, t_rat.mon _ _ _ _ s1 q1, t_rat.mon _ _ _ _ s1 hb, ff _ (List.mem_of_getElem? e1), fb, fun H4 v s4 r => ?_⟩
    rw [ez] at hZ
    exact hZ v H4 s4 (t_rat _ _ _ _ (tk_fr s4) r)
theorem ok__law_both (T : Txt K mg A) (F : Fns K mg A) : Kept P w K mg base 3 "_law_both" ["_law_one", "_law_other"] (spAdded K) := kept_of F._law_both fun f fd Fn => by
  refine Fn.ok sc__law_both (fun vs H Q E h => ?_) (fun cdv Ar outer s H vs Q E hr h => ?_)
  · obtain ⟨x, y, f, g, rfl, _⟩ := h
    rfl
  · obtain ⟨x, y, f, g, rfl, ⟨a, us, rfl, ha, pa⟩, ⟨b, ws, rfl, hb, pb⟩, hl, hz, ff, fg, k⟩ := h
    refine ⟨_, (pss_one (ps_ret (pe_lc (g := gTup K 2 (gCons (gName 2) (gCons (gName 3) (gNil)))) (tt := tYes) (own := [("_law_first", 2), ("_law_second", 3)]) (by rfl) sc__law_both.nd (pi_zip (by rfl) T.b_zip (pa_cons (pv 0) (pa_cons (pv 1) pa_nil))) (blkOk_by (own := [("_law_first", 2), ("_law_second", 3)]) (N := ["_law_one", "_law_other", "_law_first", "_law_second"]) (sc := defScope s__law_both) (by decide +kernel)) (fun _ _ _ _ _ => by exact (pg_tup rfl (pgs_cons (pg_name (i := 2) sc__law_both.nd rfl (Or.inl rfl)) (pgs_cons (pg_name (i := 3) sc__law_both.nd rfl (Or.inl rfl)) pgs_nil)))) (fun _ _ _ _ _ => pts_nil) (fun _ _ _ _ _ => (pe_k (ok__law_sum T F) (hr.mono (by decide)) rfl (pa_cons (pv 2) (pa_cons (pv 3) pa_nil))))))), ?_⟩
    have la := pa.length
    have lb := pb.length
    refine ⟨_, rfl, _, rfl, a, b, us, ws, rfl, SqL.of ha, SqL.of hb, fun D hD => lc_m (R := rRat K) t_rat.mon (walk_zip (n := f.length) (by omega)) (addF f g) (by unfold addF; rw [List.length_zipWith]; omega) (by omega) hD
      (fun H' s => ⟨SqL.of (s _ _ ha), SqL.of (s _ _ hb)⟩) (fun _ _ _ _ h => ypair_same h) ?_ fun H' s r => k H' _ s r⟩
    rintro i x Hc H' y Z N hi ho s1 ⟨T1, u, v, rfl, hT, rfl, hu, hv⟩ hZ
    obtain ⟨r1, e1, q1⟩ := pr_get pa hu
    obtain ⟨r2, e2, q2⟩ := pr_get pb hv
    have ey : y = padd r1 r2 := by
      unfold addF at ho
      rw [List.getElem?_zipWith, e1, e2] at ho
      exact (Option.some.inj ho).symm
    have s2 : Same Hc (upd Hc T1 (.tup [u, v])) := same_new hT
    refine ⟨T1, _, rfl, SqT.of upd_same, rfl, _, _, rfl, _, _, rfl, rfl, rfl, ?_⟩
    refine ⟨_, rfl, _, rfl, u, v, r1, r2, rfl, t_rat.mon _ _ _ _ (s1.trans s2) q1, t_rat.mon _ _ _ _ (s1.trans s2) q2, ff _ (List.mem_of_getElem? e1), fg _ (List.mem_of_getElem? e2), fun H4 z s4 r => ?_⟩
    rw [ey] at hZ
    exact hZ z H4 s4 (t_rat _ _ _ _ (tk_fr s4) r)
theorem ok__law_not_above (T : Txt K mg A) (F : Fns K mg A) : Kept P w K mg base 3 "_law_not_above" ["_law_form", "_law_number"] (spNotAbove K) := kept_of F._law_not_above fun f fd Fn => by
  refine Fn.ok sc__law_not_above (fun vs H Q E h => ?_) (fun cdv Ar outer s H vs Q E hr h => ?_)
  · obtain ⟨x, y, f, r, rfl, _⟩ := h
    rfl
  · obtain ⟨x, y, f, r, rfl, ⟨a, us, rfl, ha, pa⟩, hy, h1, h2, ff, fr', k⟩ := h
    refine ⟨_, (pss_one (ps_ret (pe_tup (pa_cons (pe_callTy call_list_of (by rfl) T.b_list (by decide +kernel) (pa_cons (pe_slice sl_list (pv 0) (po_some pe_int) po_none) pa_nil)) (pa_cons (pe_k (ok__law_sum T F) (hr.mono (by decide)) rfl (pa_cons (pv 1) (pa_cons (pe_tup (pa_cons (pe_op op_sub pe_int (pe_ix ix_tup (pe_ix ix_list (pv 0) pe_int (fun _ _ => rfl)) pe_int (fun _ _ => rfl))) (pa_cons (pe_ix ix_tup (pe_ix ix_list (pv 0) pe_int (fun _ _ => rfl)) pe_int (fun _ _ => rfl)) pa_nil))) pa_nil))) pa_nil))))), ?_⟩
    have la := pa.length
    obtain ⟨u, eu, ta, _, _, rfl, hta, rfl, rfl⟩ := p_head pa h1
    refine ⟨_, rfl, 1, rfl, a, us, rfl, SqL.of ha, fun p0 hp0 => ?_⟩
    have s0 : Same H (upd H p0 (.lst (cutV us (some 1) none))) := same_new hp0
    refine ⟨p0, _, rfl, .inl (SqL.of upd_same), fun p hp => ?_⟩
    have s1 := s0.trans (same_new (o := .lst (cutV us (some 1) none)) hp)
    refine ⟨_, rfl, _, rfl, a, us, 0, _, rfl, rfl, SqL.of (s1 _ _ ha), atI_nat (j := 0) eu, ta, _, _, _, rfl, rfl, same_tup s1 _ _ hta, rfl, _, _, rfl, rfl, _, rfl, a, us, 0, _, rfl, rfl, SqL.of (s1 _ _ ha), atI_nat (j := 0) eu, ta, _, _, _, rfl, rfl, same_tup s1 _ _ hta, rfl, by show 2 ≤ sizeLine; decide, fun pt hpt => ?_⟩
    have s2 := s1.trans (same_new (o := .tup [.int (0 - (f.headD z0).1), .int (f.headD z0).2]) hpt)
    refine ⟨y, .ref pt, r, neg (f.headD z0), rfl, t_rat.mon _ _ _ _ s2 hy, ⟨pt, _, _, rfl, SqT.of upd_same, ?_, rfl⟩, fr', (ff _ (headD_mem h1)).neg, fun H2 v2 s3 r2 => ?_⟩
    · show V.int _ = V.int _
      rw [Int.zero_sub]
      rfl
    · refine ⟨by show 2 ≤ sizeLine; decide, fun q hq => ?_⟩
      have s23 := s2.trans s3
      refine k _ _ (s23.trans (same_new hq)) (mk_row s23 hq ⟨p, us.tail, rfl, ?_, ?_⟩ r2)
      · rw [fr_new (s0.free hp), ← cut_tail (by omega)]
        exact s3 _ _ (same_new hpt _ _ upd_same)
      · exact p_tk t_rat ((same_tup s23).trans (tk_fr s23)) (p_tail pa)
theorem rNew {H : Hp} {p : Addr} {a b : Int} (r : Rt) (h : H p = some (.tup [.int a, .int b])) (e1 : a = r.1) (e2 : b = r.2) : rRat K H (.ref p) r := by
  subst e1 e2
  exact ⟨p, _, _, rfl, SqT.of h, rfl, rfl⟩
theorem ok__law_third (T : Txt K mg A) (F : Fns K mg A) : Kept P w K mg base 4 "_law_third" ["_law_low", "_law_high", "_law_source", "_law_own"] (spLawThird K) := kept_of F._law_third fun f fd Fn => by
  refine Fn.ok sc__law_third (fun vs H Q E h => ?_) (fun cdv Ar outer s H vs Q E hr h => ?_)
  · obtain ⟨x1, x2, y, z, e, src, own, rfl, _⟩ := h
    rfl
  · obtain ⟨x1, x2, y, z, e, src, own, rfl, rl, rh, hs, ho, h1, h2, hl, ⟨el, eh⟩, fs, fo, k⟩ := h
    refine ⟨_, (pss_cons (ps_set (i := 4) sc__law_third.nd rfl (Or.inl rfl) (pe_tup (pa_cons (pe_un un_neg pe_int) (pa_cons pe_int pa_nil))))
      (pss_cons (ps_if (pt_cmpR op_ge (pe_ix ix_tup (pv 0) pe_int (fun _ _ => rfl)) pe_int (nomark _)) (pss_one (ps_ret (pe_k (ok__law_not_above T F) (hr.mono (by decide)) rfl (pa_cons (pe_k (ok__law_both T F) (hr.mono (by decide)) rfl (pa_cons (pv 3) (pa_cons (pe_k (ok__law_times T F) (hr.mono (by decide)) rfl (pa_cons (pv 2) (pa_cons (pv 4) pa_nil))) pa_nil))) (pa_cons (pe_tup (pa_cons pe_int (pa_cons pe_int pa_nil))) pa_nil)))))
        pss_nil)
      (pss_cons (ps_if (pt_cmpR op_le (pe_ix ix_tup (pv 1) pe_int (fun _ _ => rfl)) pe_int (nomark _)) (pss_one (ps_ret (pe_k (ok__law_not_above T F) (hr.mono (by decide)) rfl (pa_cons (pv 3) (pa_cons (pe_tup (pa_cons pe_int (pa_cons pe_int pa_nil))) pa_nil)))))
        pss_nil)
      (pss_cons (ps_set (i := 5) sc__law_third.nd rfl (Or.inl rfl) (pe_k (ok__law_sum T F) (hr.mono (by decide)) rfl (pa_cons (pv 1) (pa_cons (pe_k (ok__law_many T F) (hr.mono (by decide)) rfl (pa_cons (pv 0) (pa_cons (pv 4) pa_nil))) pa_nil))))
      (pss_cons (ps_set (i := 6) sc__law_third.nd rfl (Or.inl rfl) (pe_k (ok__law_both T F) (hr.mono (by decide)) rfl (pa_cons (pe_k (ok__law_times T F) (hr.mono (by decide)) rfl (pa_cons (pv 3) (pa_cons (pv 5) pa_nil))) (pa_cons (pe_k (ok__law_times T F) (hr.mono (by decide)) rfl (pa_cons (pv 2) (pa_cons (pe_k (ok__law_many T F) (hr.mono (by decide)) rfl (pa_cons (pv 1) (pa_cons (pv 4) pa_nil))) pa_nil))) pa_nil))))
      (pss_one (ps_ret (pe_k (ok__law_not_above T F) (hr.mono (by decide)) rfl (pa_cons (pv 6) (pa_cons (pe_k (ok__law_many T F) (hr.mono (by decide)) rfl (pa_cons (pv 4) (pa_cons (pe_k (ok__law_many T F) (hr.mono (by decide)) rfl (pa_cons (pv 1) (pa_cons (pv 0) pa_nil))) pa_nil))) pa_nil)))))))))), ?_⟩
    have zf : Fit z0 := (Lv.zero 1).fit (by decide)
    have df : Fit (-1, 1) := (Lv.down 1).fit (by decide)
    have ds : ∀ r ∈ downF src, Lv 21 r := scale_lv fs (Lv.down 1)
    have fo21 : ∀ r ∈ own, Lv 21 r := fun r h => (fo r h).mono (by decide)
    have dl : (downF src).length = src.length := scale_len _ _
    refine ⟨1, rfl, by show 2 ≤ sizeLine; decide, fun pd hpd => ?_⟩
    have s0 : Same H (upd H pd (.tup [.int (-1), .int 1])) := same_new hpd
    have rd : rRat K (upd H pd (.tup [.int (-1), .int 1])) (.ref pd) (-1, 1) := ⟨pd, _, _, rfl, SqT.of upd_same, rfl, rfl⟩
    have rl0 := t_rat.mon _ _ _ _ s0 rl
    have rh0 := t_rat.mon _ _ _ _ s0 rh
    have hs0 := m_form _ _ _ _ s0 hs
    have ho0 := m_form _ _ _ _ s0 ho
    generalize upd H pd (.tup [.int (-1), .int 1]) = H0 at s0 rd rl0 rh0 hs0 ho0 ⊢
    obtain ⟨pl, _, _, rfl, ql, rfl, rfl⟩ := id rl0
    obtain ⟨ph, _, _, rfl, qh, rfl, rfl⟩ := id rh0
    refine ⟨_, rfl, pl, _, _, _, rfl, rfl, ql, rfl, _, _, rfl, rfl, _, rfl, ?_⟩
    by_cases c1 : 0 ≤ e.1.1
    · rw [decide_eq_true c1]
      refine iteT ⟨_, rfl, _, rfl, _, rfl, y, .ref pd, src, (-1, 1), rfl, hs0, rd, by omega, lv_fit fs (by decide), df, fun H2 v2 s2 r2 => ?_⟩
      refine ⟨z, v2, own, downF src, rfl, m_form _ _ _ _ s2 ho0, m_form _ _ _ _ fr_sub r2, by omega, by omega, lv_fit fo (by decide), lv_fit ds (by decide), fun H3 v3 s3 r3 => ?_⟩
      refine ⟨by show 2 ≤ sizeLine; decide, fun pz hpz => ?_⟩
      have al : (addF own (downF src)).length = (downF src).length := add_len (by omega)
      have s4 : Same H3 (upd H3 pz (.tup [.int 0, .int 1])) := same_new hpz
      refine ⟨v3, _, addF own (downF src), z0, rfl, m_form _ _ _ _ s4 (m_form _ _ _ _ fr_sub r3), ⟨pz, _, _, rfl, SqT.of upd_same, rfl, rfl⟩, by omega, by omega, lv_fit (add_lv fo21 ds) (by decide), zf, fun H5 v5 s5 r5 => ?_⟩
      have s05 := ((s0.trans s2).trans s3).trans s4
      refine k H5 v5 (s05.trans s5) ?_
      have et : thirdF e src own = naF (addF own (downF src)) z0 := if_pos c1
      rw [et]
      exact m_row _ _ _ _ (fr_from s05) r5
    · rw [decide_eq_false c1]
      refine iteF ⟨_, rfl, ph, _, _, _, rfl, rfl, qh, rfl, _, _, rfl, rfl, _, rfl, ?_⟩
      by_cases c2 : e.2.1 ≤ 0
      · rw [decide_eq_true c2]
        refine iteT ⟨_, rfl, by show 2 ≤ sizeLine; decide, fun pz hpz => ?_⟩
        have s4 : Same H0 (upd H0 pz (.tup [.int 0, .int 1])) := same_new hpz
        refine ⟨z, _, own, z0, rfl, m_form _ _ _ _ s4 ho0, ⟨pz, _, _, rfl, SqT.of upd_same, rfl, rfl⟩, h1, h2, lv_fit fo (by decide), zf, fun H5 v5 s5 r5 => ?_⟩
        refine k H5 v5 ((s0.trans s4).trans s5) ?_
        have et : thirdF e src own = naF own z0 := by
          unfold thirdF
          rw [if_neg c1, if_pos c2]
        rw [et]
        exact m_row _ _ _ _ (fr_from (s0.trans s4)) r5
      · rw [decide_eq_false c2]
        have wd : Lv 21 (padd e.2 (neg e.1)) := Lv.add eh el.neg
        have so : ∀ r ∈ scaleF own (padd e.2 (neg e.1)), Lv 41 r := scale_lv fo wd
        have ss : ∀ r ∈ scaleF src (neg e.2), Lv 41 r := fun r h => (scale_lv fs eh.neg r h).mono (by decide)
        have ls : (scaleF own (padd e.2 (neg e.1))).length = (scaleF src (neg e.2)).length := by rw [scale_len, scale_len, hl]
        have lo1 : (scaleF own (padd e.2 (neg e.1))).length = own.length := scale_len _ _
        refine iteF ⟨_, rfl, _, rfl, _, rfl, .ref pl, .ref pd, e.1, (-1, 1), rfl, rl0, rd, el.fit (by decide), df, fun H1 v1 s1 r1 => ?_⟩
        rw [pmul_down el] at r1
        refine ⟨.ref ph, v1, e.2, neg e.1, rfl, t_rat.mon _ _ _ _ s1 rh0, r1, eh.fit (by decide), el.neg.fit (by decide), fun H2 v2 s2 r2 => ?_⟩
        have s12 := s1.trans s2
        refine ⟨_, rfl, _, rfl, z, v2, own, _, rfl, m_form _ _ _ _ s12 ho0, r2, h2, lv_fit fo (by decide), wd.fit (by decide), fun H3 v3 s3 r3 => ?_⟩
        have s13 := s12.trans s3
        refine ⟨_, rfl, _, rfl, _, rfl, .ref ph, .ref pd, e.2, (-1, 1), rfl, t_rat.mon _ _ _ _ s13 rh0, t_rat.mon _ _ _ _ s13 rd, eh.fit (by decide), df, fun H4 v4 s4 r4 => ?_⟩
        rw [pmul_down eh] at r4
        have s14 := s13.trans s4
        refine ⟨y, v4, src, neg e.2, rfl, m_form _ _ _ _ s14 hs0, r4, by omega, lv_fit fs (by decide), eh.neg.fit (by decide), fun H5 v5 s5 r5 => ?_⟩
        have s15 := s14.trans s5
        refine ⟨v3, v5, _, _, rfl, m_form _ _ _ _ (s4.trans s5) (m_form _ _ _ _ fr_sub r3), m_form _ _ _ _ fr_sub r5, ls, by omega, lv_fit so (by decide), lv_fit ss (by decide), fun H6 v6 s6 r6 => ?_⟩
        have s16 := s15.trans s6
        refine ⟨_, rfl, _, rfl, _, rfl, _, rfl, .ref ph, .ref pl, e.2, e.1, rfl, t_rat.mon _ _ _ _ s16 rh0, t_rat.mon _ _ _ _ s16 rl0, eh.fit (by decide), el.fit (by decide), fun H7 v7 s7 r7 => ?_⟩
        have pf : Lv 40 (pmul e.2 e.1) := Lv.mul eh el
        refine ⟨.ref pd, v7, (-1, 1), pmul e.2 e.1, rfl, t_rat.mon _ _ _ _ (s16.trans s7) rd, r7, df, pf.fit (by decide), fun H8 v8 s8 r8 => ?_⟩
        rw [down_pmul pf] at r8
        have s68 := s7.trans s8
        have al : (addF (scaleF own (padd e.2 (neg e.1))) (scaleF src (neg e.2))).length = (scaleF src (neg e.2)).length := add_len ls
        refine ⟨v6, v8, _, _, rfl, m_form _ _ _ _ s68 (m_form _ _ _ _ fr_sub r6), r8, by omega, by omega, lv_fit (add_lv so ss) (by decide), pf.neg.fit (by decide), fun H9 v9 s9 r9 => ?_⟩
        have s08 := (s0.trans s16).trans s68
        refine k H9 v9 (s08.trans s9) ?_
        have et : thirdF e src own = naF (addF (scaleF own (padd e.2 (neg e.1))) (scaleF src (neg e.2))) (neg (pmul e.2 e.1)) := by
          unfold thirdF
          rw [if_neg c1, if_neg c2]
        rw [et]
        exact m_row _ _ _ _ (fr_from s08) r9
end
end BP
end


/-! A8 -/
section
set_option maxHeartbeats 4000000
namespace BP
open PySem L2
def spLawBends (K : PySem.W.Frag) : Sp := fun vs H Q _ => ∃ (x : V) (N : NetD), vs = [x] ∧ rTold K H x N ∧ N.us.length ≤ 12 ∧ ∀ H' v, Same H H' → rLst rNat (fr H H') v (bendsAt N.many N.us) → Q v H'
def spDue (K : PySem.W.Frag) : Sp := fun vs H Q _ => ∃ (x c z y : V) (N : NetD) (S : List (Rt × Rt)) (cs : List C3) (Fm : List (List Rt)) (m : Nat), vs = [x, c, z, y] ∧ rTold K H x N ∧ rLst (rSpan K) H y S ∧ rLst rC3 H c cs ∧ rLst (rForm K) H z Fm ∧
  NOk N ∧ S.length = N.many + N.us.length ∧ Fm.length = N.many + N.us.length ∧ KS 20 S ∧ KF 20 m Fm ∧ m ≤ 90 ∧ cs.length = bendsN N.us ∧ ∀ H' v, Same H H' → rLst (rRow K) (fr H H') v (rowsF N.many N.us cs S Fm) → Q v H'
section
variable {P : Program} {w : World} {K : PySem.W.Frag} {mg : Str → Option Value} {base : Heap} {A : Ad}
theorem ok__law_bends (T : Txt K mg A) (F : Fns K mg A) : Kept P w K mg base 1 "_law_bends" ["_law_net_here"] (spLawBends K) := kept_of F._law_bends fun f fd Fn => by
  refine Fn.ok sc__law_bends (fun vs H Q E h => ?_) (fun cdv Ar outer s H vs Q E hr h => ?_)
  · obtain ⟨x, u, rfl, _⟩ := h
    rfl
  · obtain ⟨x, N, rfl, ⟨ta, y, z, rfl, hta, ⟨lu, us, rfl, hu, pu⟩, ho⟩, hz, k⟩ := h
    refine ⟨_, (pss_one (ps_ret (pe_lc (g := gName 1) (tt := tTest (tOp rEq (tOp (rIxT K) (tOp (rIxL K) (tOp (rIxT K) (tVar 0) (tC (.int 1))) (tVar 1)) (tC (.int 0))) (tC (.str "bend")))) (te := tOp (rI0 fun i j => .int (i + j)) (tOp (rIxT K) (tVar 0) (tC (.int 0))) (tVar 1)) (own := [("_law_k", 1)]) (by rfl) sc__law_bends.nd (pi_range1 (by rfl) T.b_range (pa_cons (pe_callB call_len_seq (by rfl) T.b_len PySem.boot_len (pa_cons (pe_ix ix_tup (pv 0) pe_int (fun _ _ => rfl)) pa_nil)) pa_nil)) (blkOk_by (own := [("_law_k", 1)]) (N := ["_law_net_here", "_law_k"]) (sc := defScope s__law_bends) (by decide +kernel)) (fun _ _ _ _ _ => by exact (pg_name (i := 1) sc__law_bends.nd rfl (Or.inl rfl))) (fun _ _ _ _ _ => (pts_one (pt_cmpR op_eq (pe_ix ix_tup (pe_ix ix_list (pe_ix ix_tup (pv 0) pe_int (fun _ _ => rfl)) (pv 1) (fun _ _ => rfl)) pe_int (fun _ _ => rfl)) pe_str (nomark _)))) (fun _ _ _ _ _ => (pe_op op_add (pe_ix ix_tup (pv 0) pe_int (fun _ _ => rfl)) (pv 1)))))), ?_⟩
    have lu1 := pu.length
    refine ⟨_, rfl, ta, _, _, _, rfl, rfl, hta, rfl, lu, us, rfl, .inl (SqL.of hu), (us.length : Int), rfl, by omega, by omega, fun D hD =>
      lc_it walk_range (fun i Hc => Same H Hc ∧ ∃ vs, Hc D = some (.lst vs) ∧ Paired (rNat Hc) vs (bendsAt N.many (N.us.take i))) ⟨same_new hD, [], upd_same, .nil⟩ (fun i Hc _ h => True.intro) ?_ ?_⟩
    · rintro i v Hc H' hi ⟨sc, vs, hv, pv⟩ ⟨rfl, rfl⟩
      have hi2 : i < N.us.length := by omega
      have e1 : N.us[i]? = some N.us[i] := List.getElem?_eq_getElem hi2
      generalize N.us[i] = u at e1
      obtain ⟨uv, eu, q1⟩ := pr_at pu e1
      have q2 := m_unit _ _ _ _ sc q1
      have eb : bendsAt N.many (N.us.take (i + 1)) = bendsAt N.many (N.us.take i) ++ (if u.isBend then [N.many + i] else []) := by
        have el : (N.us.take i).length = i := by
          rw [List.length_take]
          omega
        rw [take_next e1, bendsAt_snoc, el]
      have hlen : vs.length ≤ 12 := by
        rw [pv.length, bendsAt_len]
        have := bendsN_le (N.us.take i)
        rw [List.length_take] at this
        omega
      refine ⟨rfl, ?_⟩
      cases u with
      | bend pp =>
        obtain ⟨a, rfl, q⟩ := q2
        refine ⟨_, rfl, ta, _, _, _, rfl, rfl, same_tup sc _ _ hta, rfl, _, rfl, lu, us, _, _, rfl, rfl, SqL.of (sc _ _ hu), at_of (Int.zero_add _) eu, a, _, _, _, rfl, rfl, q, rfl, rfl, _, rfl, ?_⟩
        rw [decide_eq_true rfl]
        refine iteT ⟨_, rfl, ta, _, _, _, rfl, rfl, same_tup sc _ _ hta, rfl, _, rfl, _, _, rfl, rfl, vs, hv, Nat.lt_of_le_of_lt hlen (by decide), ?_⟩
        refine ⟨same_mut sc hD, _, upd_same, ?_⟩
        rw [eb]
        exact (pv.mono fun _ _ h => h).snoc (by show V.int (_ + (0 + _)) = V.int _; rw [Int.natCast_add, Int.zero_add])
      | sum c ts =>
        obtain ⟨a, x1, y1, rfl, q, _⟩ := q2
        refine ⟨_, rfl, ta, _, _, _, rfl, rfl, same_tup sc _ _ hta, rfl, _, rfl, lu, us, _, _, rfl, rfl, SqL.of (sc _ _ hu), at_of (Int.zero_add _) eu, a, _, _, _, rfl, rfl, q, rfl, rfl, _, rfl, ?_⟩
        rw [str_sb]
        refine iteF ⟨sc, vs, hv, ?_⟩
        rw [eb]
        show Paired _ vs (_ ++ [])
        rw [List.append_nil]
        exact pv.mono fun _ _ h => h
    · rintro Hc ⟨sc, vs, hv, pv⟩
      rw [List.take_of_length_le (by omega)] at pv
      exact k Hc _ sc ⟨D, vs, rfl, by rw [fr_new hD]; exact hv, pv.mono fun _ _ h => h⟩
/-- the rows so far, in the list at l -/
def LSt (K : PySem.W.Frag) (H Hd B : Hp) (l : Addr) (rows : List Rw) (Hx : Hp) : Prop := Same H Hx ∧ Same Hd Hx ∧ Same B Hx ∧ ∃ vs, Hx l = some (.lst vs) ∧ Paired (rRow K (hide l (fr H Hx))) vs rows
theorem LSt.push {H Hd B Hx Hy H5 : Hp} {l : Addr} {rows : List Rw} {z : V} {row : Rw} (nl : H l = none) (nd : Hd l = none) (nb : B l = none) (L : LSt K H Hd B l rows Hx) (s1 : Same Hx Hy) (s2 : Same Hy H5) (r : rRow K (fr Hy H5) z row) :
    ∃ vs, H5 l = some (.lst vs) ∧ vs.length = rows.length ∧ LSt K H Hd B l (rows ++ [row]) (upd H5 l (.lst (vs ++ [z]))) := by
  obtain ⟨a, b, c, vs, hv, pv⟩ := L
  have s12 := s1.trans s2
  refine ⟨vs, s12 _ _ hv, pv.length, same_mut (a.trans s12) nl, same_mut (b.trans s12) nd, same_mut (c.trans s12) nb, _, upd_same, ?_⟩
  rw [hide_fr_upd]
  exact (p_sm m_row (same_hide (fr_mono s12)) pv).snoc (m_row _ _ _ _ (fr_in (a.trans s1) (s1 _ _ hv)) r)
theorem LSt.same {H Hd B Hx Hy : Hp} {l : Addr} {rows : List Rw} (L : LSt K H Hd B l rows Hx) (s : Same Hx Hy) : LSt K H Hd B l rows Hy := by
  obtain ⟨a, b, c, vs, hv, pv⟩ := L
  exact ⟨a.trans s, b.trans s, c.trans s, vs, s _ _ hv, p_sm m_row (same_hide (fr_mono s)) pv⟩
theorem nb_zero {n : Nat} {f : List Rt} (h : ∀ r ∈ f, Lv n r) : naF (downF f) z0 = nbF f z0 := by
  have e := nb_law h z0
  rw [neg_z0] at e
  exact e
theorem ok__law_due (T : Txt K mg A) (F : Fns K mg A) : Kept P w K mg base 5 "_law_due" ["_law_told", "_law_case_here", "_law_forms", "_law_sides_here"] (spDue K) := kept_of F._law_due fun f fd Fn => by
  refine Fn.ok sc__law_due (fun vs H Q E h => ?_) (fun cdv Ar outer s H vs Q E hr h => ?_)
  · obtain ⟨x, c, z, y, N, S, cs, Fm, m, rfl, _⟩ := h
    rfl
  · obtain ⟨x, c, z, y, N, S, cs, Fm, m, rfl, hN, ⟨sb, ss, rfl, hs, ps⟩, ⟨cb, ws, rfl, hc, pc⟩, ⟨fb, fs, rfl, hf, pf⟩, ok, lS, lF, kS, kF, hm, hcs, k⟩ := h
    obtain ⟨ta, y, z, rfl, hta, ⟨lu, us, rfl, hu, pu⟩, ho⟩ := id hN
    refine ⟨_, (pss_cons (ps_set (i := 4) sc__law_due.nd rfl (Or.inl rfl) (pe_tup (pa_cons (pe_un un_neg pe_int) (pa_cons pe_int pa_nil))))
      (pss_cons (ps_set (i := 5) sc__law_due.nd rfl (Or.inl rfl) (pe_lst pa_nil))
      (pss_cons (ps_for PassesOwn.never rfl (pi_range1 (by rfl) T.b_range (pa_cons (pe_ix ix_tup (pv 0) pe_int (fun _ _ => rfl)) pa_nil)) (pg_name (i := 6) sc__law_due.nd rfl (Or.inl rfl))
        (pss_cons (ps_expr (pe_bm PySem.F.plainAttrs_list PySem.F.slot_list_append PySem.F.type_list_append mt_append (pv 5) (pa_cons (pe_k (ok__law_not_above T F) (hr.mono (by decide)) rfl (pa_cons (pe_ix ix_list (pv 2) (pv 6) (fun _ _ => rfl)) (pa_cons (pe_ix ix_tup (pe_ix ix_list (pv 3) (pv 6) (fun _ _ => rfl)) pe_int (fun _ _ => rfl)) pa_nil))) pa_nil)))
        (pss_one (ps_expr (pe_bm PySem.F.plainAttrs_list PySem.F.slot_list_append PySem.F.type_list_append mt_append (pv 5) (pa_cons (pe_k (ok__law_not_above T F) (hr.mono (by decide)) rfl (pa_cons (pe_k (ok__law_times T F) (hr.mono (by decide)) rfl (pa_cons (pe_ix ix_list (pv 2) (pv 6) (fun _ _ => rfl)) (pa_cons (pv 4) pa_nil))) (pa_cons (pe_k (ok__law_many T F) (hr.mono (by decide)) rfl (pa_cons (pv 4) (pa_cons (pe_ix ix_tup (pe_ix ix_list (pv 3) (pv 6) (fun _ _ => rfl)) pe_int (fun _ _ => rfl)) pa_nil))) pa_nil))) pa_nil))))))
      (pss_cons (ps_for PassesOwn.never rfl (pi_zip (by rfl) T.b_zip (pa_cons (pv 1) (pa_cons (pe_k (ok__law_bends T F) (hr.mono (by decide)) rfl (pa_cons (pv 0) pa_nil)) pa_nil))) (pg_tup rfl (pgs_cons (pg_name (i := 7) sc__law_due.nd rfl (Or.inl rfl)) (pgs_cons (pg_name (i := 8) sc__law_due.nd rfl (Or.inl rfl)) pgs_nil)))
        (pss_cons (ps_set (i := 9) sc__law_due.nd rfl (Or.inl rfl) (pe_ix ix_tup (pe_ix ix_list (pe_ix ix_tup (pv 0) pe_int (fun _ _ => rfl)) (pe_op op_sub (pv 8) (pe_ix ix_tup (pv 0) pe_int (fun _ _ => rfl))) (fun _ _ => rfl)) pe_int (fun _ _ => rfl)))
        (pss_cons (ps_set (i := 10) sc__law_due.nd rfl (Or.inl rfl) (pe_ix ix_list (pv 2) (pv 9) (fun _ _ => rfl)))
        (pss_cons (ps_if (pt_cmpR op_eq (pv 7) pe_str (nomark _)) (pss_one (ps_expr (pe_bm PySem.F.plainAttrs_list PySem.F.slot_list_append PySem.F.type_list_append mt_append (pv 5) (pa_cons (pe_k (ok__law_not_above T F) (hr.mono (by decide)) rfl (pa_cons (pv 10) (pa_cons (pe_tup (pa_cons pe_int (pa_cons pe_int pa_nil))) pa_nil))) pa_nil))))
          pss_nil)
        (pss_cons (ps_if (pt_cmpR op_eq (pv 7) pe_str (nomark _)) (pss_one (ps_expr (pe_bm PySem.F.plainAttrs_list PySem.F.slot_list_append PySem.F.type_list_append mt_append (pv 5) (pa_cons (pe_k (ok__law_not_above T F) (hr.mono (by decide)) rfl (pa_cons (pe_k (ok__law_times T F) (hr.mono (by decide)) rfl (pa_cons (pv 10) (pa_cons (pv 4) pa_nil))) (pa_cons (pe_tup (pa_cons pe_int (pa_cons pe_int pa_nil))) pa_nil))) pa_nil))))
          pss_nil)
        (pss_one (ps_if (pt_cmpR op_eq (pv 7) pe_str (nomark _)) (pss_cons (ps_set (i := 11) sc__law_due.nd rfl (Or.inl rfl) (pe_ix ix_list (pv 2) (pv 8) (fun _ _ => rfl)))
          (pss_cons (ps_expr (pe_bm PySem.F.plainAttrs_list PySem.F.slot_list_append PySem.F.type_list_append mt_append (pv 5) (pa_cons (pe_k (ok__law_not_above T F) (hr.mono (by decide)) rfl (pa_cons (pe_k (ok__law_times T F) (hr.mono (by decide)) rfl (pa_cons (pv 11) (pa_cons (pv 4) pa_nil))) (pa_cons (pe_tup (pa_cons pe_int (pa_cons pe_int pa_nil))) pa_nil))) pa_nil)))
          (pss_cons (ps_expr (pe_bm PySem.F.plainAttrs_list PySem.F.slot_list_append PySem.F.type_list_append mt_append (pv 5) (pa_cons (pe_k (ok__law_not_above T F) (hr.mono (by decide)) rfl (pa_cons (pe_k (ok__law_both T F) (hr.mono (by decide)) rfl (pa_cons (pv 10) (pa_cons (pe_k (ok__law_times T F) (hr.mono (by decide)) rfl (pa_cons (pv 11) (pa_cons (pv 4) pa_nil))) pa_nil))) (pa_cons (pe_tup (pa_cons pe_int (pa_cons pe_int pa_nil))) pa_nil))) pa_nil)))
          (pss_one (ps_expr (pe_bm PySem.F.plainAttrs_list PySem.F.slot_list_append PySem.F.type_list_append mt_append (pv 5) (pa_cons (pe_k (ok__law_third T F) (hr.mono (by decide)) rfl (pa_cons (pe_ix ix_tup (pe_ix ix_list (pv 3) (pv 9) (fun _ _ => rfl)) pe_int (fun _ _ => rfl)) (pa_cons (pe_ix ix_tup (pe_ix ix_list (pv 3) (pv 9) (fun _ _ => rfl)) pe_int (fun _ _ => rfl)) (pa_cons (pv 10) (pa_cons (pv 11) pa_nil))))) pa_nil)))))))
          pss_nil)))))))
      (pss_one (ps_ret (pv 5))))))), ?_⟩
    have okf := ok.few
    have okm := ok.m6
    have bn := bendsN_le N.us
    have zf : Fit z0 := (Lv.zero 1).fit (by decide)
    have df : Fit (-1, 1) := (Lv.down 1).fit (by decide)
    refine ⟨1, rfl, by show 2 ≤ sizeLine; decide, fun pd hpd => ?_⟩
    have sd : Same H (upd H pd (.tup [.int (-1), .int 1])) := same_new hpd
    have rd : rRat K (upd H pd (.tup [.int (-1), .int 1])) (.ref pd) (-1, 1) := ⟨pd, _, _, rfl, SqT.of upd_same, rfl, rfl⟩
    refine gname_eq (i := 4) (v' := .ref pd) rfl ?_
    generalize upd H pd (.tup [.int (-1), .int 1]) = Hd at sd rd ⊢
    refine ⟨Nat.zero_le _, fun l hl => ?_⟩
    have nl : H l = none := sd.free hl
    have sl : Same Hd (upd Hd l (.lst [])) := same_new hl
    have s0 := sd.trans sl
    refine ⟨_, rfl, ta, _, _, _, rfl, rfl, same_tup s0 _ _ hta, rfl, (N.many : Int), rfl, by omega, by omega, for_range (lo := 0) (n := (N.many : Int).toNat) (fun i σ Hc => ∃ (v6 : Option V) (vs : List V), σ = [some (.ref ta), some (.ref cb), some (.ref fb), some (.ref sb), some (.ref pd), some (.ref l), v6, none, none, none, none, none] ∧
      Same H Hc ∧ Same Hd Hc ∧ Hc l = some (.lst vs) ∧ Paired (rRow K (hide l (fr H Hc))) vs ((List.range i).flatMap (inRows S Fm))) ⟨none, [], rfl, s0, sl, upd_same, .nil⟩ ?_ ?_⟩
    · rintro i σ Hc hi ⟨v6, vs, rfl, sc, sdc, hv, pv⟩
      have him : i < N.many := by omega
      have hlen : vs.length ≤ 3 * i := by
        rw [pv.length]
        have h := flat_le (f := inRows S Fm) (fun a => by show 2 ≤ 3; omega) (List.range i)
        rw [List.length_range] at h
        exact h
      have eS := get_at (d := dflE) (show i < S.length by omega)
      have eF := get_at (d := []) (show i < Fm.length by omega)
      obtain ⟨sv, es, t, a1, a2, rfl, ht, r1, r2⟩ := pr_at ps eS
      obtain ⟨fv, ef, rf⟩ := pr_at pf eF
      obtain ⟨k1, k2⟩ := kS _ (List.mem_of_getElem? eS)
      obtain ⟨g1, g2⟩ := kF _ (List.mem_of_getElem? eF)
      have dn : ∀ r ∈ downF (Fm.getD i []), Lv 21 r := scale_lv g2 (Lv.down 1)
      have dl : (downF (Fm.getD i [])).length = (Fm.getD i []).length := scale_len _ _
      refine ⟨_, rfl, .inl ⟨rfl, _, SqL.of hv⟩, _, rfl, _, rfl, fb, fs, _, fv, rfl, rfl, SqL.of (sc _ _ hf), at_of (Int.zero_add _) ef, _, rfl, _, rfl, sb, ss, _, _, rfl, rfl, SqL.of (sc _ _ hs), at_of (Int.zero_add _) es, t, _, _, a2, rfl, rfl, same_tup sc _ _ ht, rfl,
        fv, a2, _, _, rfl, m_form _ _ _ _ sc rf, t_rat.mon _ _ _ _ sc r2, by omega, by omega, lv_fit g2 (by decide), k2.fit (by decide), fun H2 z2 s2 q2 => ?_⟩
      refine ⟨l, vs, z2, rfl, rfl, s2 _ _ hv, Nat.lt_of_le_of_lt (show vs.length ≤ 100 by omega) (by decide), ?_⟩
      have sc3 : Same H (upd H2 l (.lst (vs ++ [z2]))) := same_mut (sc.trans s2) nl
      have sd3 : Same Hd (upd H2 l (.lst (vs ++ [z2]))) := same_mut (sdc.trans s2) hl
      refine ⟨_, rfl, .inl ⟨rfl, _, SqL.of upd_same⟩, _, rfl, _, rfl, fb, fs, _, fv, rfl, rfl, SqL.of (sc3 _ _ hf), at_of (Int.zero_add _) ef, _, rfl, fv, .ref pd, _, (-1, 1), rfl, m_form _ _ _ _ sc3 rf, t_rat.mon _ _ _ _ sd3 rd, by omega, lv_fit g2 (by decide), df, fun H3 z3 s3 q3 => ?_⟩
      have sc4 := sc3.trans s3
      refine ⟨_, rfl, _, rfl, _, rfl, sb, ss, _, _, rfl, rfl, SqL.of (sc4 _ _ hs), at_of (Int.zero_add _) es, t, _, _, a1, rfl, rfl, same_tup sc4 _ _ ht, rfl,
        .ref pd, a1, (-1, 1), _, rfl, t_rat.mon _ _ _ _ (sd3.trans s3) rd, t_rat.mon _ _ _ _ sc4 r1, df, k1.fit (by decide), fun H4 z4 s4 q4 => ?_⟩
      rw [down_pmul k1] at q4
      refine ⟨z3, z4, downF (Fm.getD i []), neg (S.getD i dflE).1, rfl, m_form _ _ _ _ s4 (m_form _ _ _ _ fr_sub q3), q4, by omega, by omega, lv_fit dn (by decide), k1.neg.fit (by decide), fun H5 z5 s5 q5 => ?_⟩
      rw [nb_law g2] at q5
      have s35 := (s3.trans s4).trans s5
      refine ⟨l, vs ++ [z2], z5, rfl, rfl, s35 _ _ upd_same, ?_, ?_⟩
      · rw [List.length_append]
        exact Nat.lt_of_le_of_lt (show vs.length + 1 ≤ 100 by omega) (by decide)
      · refine ⟨_, _, rfl, same_mut (sc3.trans s35) nl, same_mut (sd3.trans s35) hl, upd_same, ?_⟩
        rw [hide_fr_upd]
        have ea : (List.range (i + 1)).flatMap (inRows S Fm) = ((List.range i).flatMap (inRows S Fm) ++ [naF (Fm.getD i []) (S.getD i dflE).2]) ++ [nbF (Fm.getD i []) (S.getD i dflE).1] := by
          rw [List.range_succ, List.flatMap_append, List.flatMap_cons, List.flatMap_nil, List.append_nil, List.append_assoc]
          rfl
        rw [ea]
        have h24 : Same (hide l (fr H H2)) (hide l (fr H H5)) := fun b o h => by
          have h' : hide l (fr H (upd H2 l (.lst (vs ++ [z2])))) b = some o := by
            rw [hide_fr_upd]
            exact h
          exact same_hide (fr_mono s35) _ _ h'
        refine ((p_sm m_row (Same.trans (same_hide (fr_mono s2)) h24) pv).snoc ?_).snoc ?_
        · exact m_row _ _ _ _ h24 (m_row _ _ _ _ (fr_in sc hv) q2)
        · exact m_row _ _ _ _ (fr_in (sc3.trans (s3.trans s4)) ((s3.trans s4) _ _ upd_same)) q5
    · rintro σ H1 ⟨v6, vs1, rfl, s1, sd1, hv1, pv1⟩
      have em : (N.many : Int).toNat = N.many := by omega
      rw [em] at pv1
      refine ⟨_, rfl, _, rfl, _, N, rfl, m_told _ _ _ _ s1 hN, okf, ?_⟩
      rintro H2 v2 s2 ⟨bl, bs, rfl, hbl, pb⟩
      have hv2 := s2 _ _ hv1
      have s12 := s1.trans s2
      have sd2 := sd1.trans s2
      have hbs : (hide l H2) bl = some (.lst bs) := fr_hide hv1 _ _ hbl
      have lb := pb.length
      have lw := pc.length
      rw [bendsAt_len] at lb
      refine ⟨cb, bl, ws, bs, rfl, SqL.of (s12 _ _ hc), SqL.of (hide_sub _ _ hbs), for_it (L2.walk_zip (K := K) (a := cb) (b := bl) (xs := ws) (ys := bs) (n := bs.length) (by omega)) (fun i σ Hc => ∃ (v6 v7 v8 v9 v10 v11 : Option V) (vs : List V), σ = [some (.ref ta), some (.ref cb), some (.ref fb), some (.ref sb), some (.ref pd), some (.ref l), v6, v7, v8, v9, v10, v11] ∧
        Same H Hc ∧ Same Hd Hc ∧ Same (hide l H2) Hc ∧ Hc l = some (.lst vs) ∧ Paired (rRow K (hide l (fr H Hc))) vs ((List.range N.many).flatMap (inRows S Fm) ++ ((cs.zip (bendsAt N.many N.us)).take i).flatMap (rowsOfBend N.many N.us S Fm)))
        ⟨v6, none, none, none, none, none, vs1, rfl, s12, sd2, hide_sub, hv2, ?_⟩ (fun i σ Hc _ ⟨_, _, _, _, _, _, _, _, s, _, sh, _⟩ => ⟨SqL.of (s _ _ hc), SqL.of (sh _ _ hbs)⟩) ?_ ?_⟩
      · show Paired _ vs1 (_ ++ [])
        rw [List.append_nil]
        exact p_sm m_row (same_hide (fr_mono s2)) pv1
      · rintro i v σ Hc He hi ⟨v6, v7, v8, v9, v10, v11, vs, rfl, sc, sdc, sh, hv, pv⟩ ⟨T1, cv, b, rfl, hT, rfl, ecv, hb⟩
        have sT : Same Hc (upd Hc T1 (.tup [cv, b])) := same_new hT
        have sd' := sc.trans sT
        have sdd := sdc.trans sT
        obtain ⟨q, eq, rq⟩ := pr_get pb hb
        have rq' : b = .int (q : Int) := rq
        subst rq'
        obtain ⟨hq1, pp, hq2⟩ := bendsAt_mem (List.mem_of_getElem? eq)
        have hql : q - N.many < N.us.length := (List.getElem?_eq_some_iff.mp hq2).1
        obtain ⟨uv, euv, tu, rfl, htu⟩ := pr_at pu hq2
        have hpp : pp < N.many + (q - N.many) := (ok.ok _ _ hq2).bend pp rfl
        have eS := get_at (d := dflE) (show pp < S.length by omega)
        have eF := get_at (d := []) (show pp < Fm.length by omega)
        have eG := get_at (d := []) (show q < Fm.length by omega)
        obtain ⟨cc, ec, rcv⟩ := pr_get pc ecv
        have rcv' : cv = .str cc.txt := rcv
        subst rcv'
        obtain ⟨sv, es, t, a1, a2, rfl, ht, r1, r2⟩ := pr_at ps eS
        obtain ⟨fv, ef, rf⟩ := pr_at pf eF
        obtain ⟨gv, eg, rg⟩ := pr_at pf eG
        obtain ⟨k1, k2⟩ := kS _ (List.mem_of_getElem? eS)
        obtain ⟨f1, f2⟩ := kF _ (List.mem_of_getElem? eF)
        obtain ⟨g1, g2⟩ := kF _ (List.mem_of_getElem? eG)
        have ez : (cs.zip (bendsAt N.many N.us))[i]? = some (cc, q) := by
          rw [List.zip, List.getElem?_zipWith, ec, eq]
        have er : rowsOfBend N.many N.us S Fm (cc, q) = bendRows cc (S.getD pp dflE) (Fm.getD pp []) (Fm.getD q []) := by
          show bendRows cc (S.getD (srcAt N.many N.us q) dflE) (Fm.getD (srcAt N.many N.us q) []) (Fm.getD q []) = _
          rw [srcAt_of hq2]
        have hlen : vs.length ≤ 60 := by
          rw [pv.length, List.length_append]
          have h1 := flat_le (f := inRows S Fm) (fun a => by show 2 ≤ 3; omega) (List.range N.many)
          have h2 := flat_le (f := rowsOfBend N.many N.us S Fm) (fun a => bendRows_le _ _ _ _) ((cs.zip (bendsAt N.many N.us)).take i)
          rw [List.length_range] at h1
          rw [List.length_take] at h2
          omega
        have L0 : LSt K H Hd (hide l H2) l ((List.range N.many).flatMap (inRows S Fm) ++ ((cs.zip (bendsAt N.many N.us)).take i).flatMap (rowsOfBend N.many N.us S Fm)) Hc := ⟨sc, sdc, sh, vs, hv, pv⟩
        have L1 := L0.same sT
        have lrows : ((List.range N.many).flatMap (inRows S Fm) ++ ((cs.zip (bendsAt N.many N.us)).take i).flatMap (rowsOfBend N.many N.us S Fm)).length = vs.length := pv.length.symm
        have enext : (List.range N.many).flatMap (inRows S Fm) ++ ((cs.zip (bendsAt N.many N.us)).take (i + 1)).flatMap (rowsOfBend N.many N.us S Fm) = ((List.range N.many).flatMap (inRows S Fm) ++ ((cs.zip (bendsAt N.many N.us)).take i).flatMap (rowsOfBend N.many N.us S Fm)) ++ bendRows cc (S.getD pp dflE) (Fm.getD pp []) (Fm.getD q []) := by
          rw [flat_next ez, ← List.append_assoc, er]
        generalize (List.range N.many).flatMap (inRows S Fm) ++ ((cs.zip (bendsAt N.many N.us)).take i).flatMap (rowsOfBend N.many N.us S Fm) = rows at L0 L1 lrows enext
        have lc : ∀ {n m : Nat}, n = m → m ≤ 100 → n < sizeLine := fun e h => Nat.lt_of_le_of_lt (show _ ≤ 100 by omega) (by decide)
        -- the end of a turn
        have fin : ∀ (Hz : Hp) (w7 w8 w9 w10 w11 : Option V), LSt K H Hd (hide l H2) l (rows ++ bendRows cc (S.getD pp dflE) (Fm.getD pp []) (Fm.getD q [])) Hz → ∃ (v6' v7 v8 v9 v10 v11 : Option V) (vs : List V), [some (.ref ta), some (.ref cb), some (.ref fb), some (.ref sb), some (.ref pd), some (.ref l), v6, w7, w8, w9, w10, w11] = [some (.ref ta), some (.ref cb), some (.ref fb), some (.ref sb), some (.ref pd), some (.ref l), v6', v7, v8, v9, v10, v11] ∧
            Same H Hz ∧ Same Hd Hz ∧ Same (hide l H2) Hz ∧ Hz l = some (.lst vs) ∧ Paired (rRow K (hide l (fr H Hz))) vs ((List.range N.many).flatMap (inRows S Fm) ++ ((cs.zip (bendsAt N.many N.us)).take (i + 1)).flatMap (rowsOfBend N.many N.us S Fm)) := fun Hz w7 w8 w9 w10 w11 L => by
          rw [enext]
          obtain ⟨a, b, c, us', hu', pu'⟩ := L
          exact ⟨_, _, _, _, _, _, us', rfl, a, b, c, hu', pu'⟩
        have hvT := sT _ _ hv
        refine ⟨T1, _, rfl, SqT.of upd_same, rfl, _, _, rfl, _, _, rfl, rfl, ?_⟩
        refine ⟨_, rfl, ta, _, _, _, rfl, rfl, same_tup sd' _ _ hta, rfl, _, rfl, _, rfl, ta, _, _, _, rfl, rfl, same_tup sd' _ _ hta, rfl, _, _, rfl, rfl, lu, us, _, _, rfl, rfl, SqL.of (sd' _ _ hu), at_of (j := q - N.many) (by omega) euv, tu, _, _, _, rfl, rfl, same_tup sd' _ _ htu, rfl, ?_⟩
        refine ⟨_, rfl, _, rfl, fb, fs, _, fv, rfl, rfl, SqL.of (sd' _ _ hf), atI_nat ef, ?_⟩
        refine ⟨_, rfl, rfl, _, rfl, ?_⟩
        show if decide (V.str cc.txt = V.str C3.off.txt) = true then _ else _
        rw [txt_eq]
        have rdT := t_rat.mon _ _ _ _ sdd rd
        have rfT := m_form _ _ _ _ sd' rf
        have rgT := m_form _ _ _ _ sd' rg
        have dnf : ∀ r ∈ downF (Fm.getD pp []), Lv 21 r := scale_lv f2 (Lv.down 1)
        have dng : ∀ r ∈ downF (Fm.getD q []), Lv 21 r := scale_lv g2 (Lv.down 1)
        have dlf : (downF (Fm.getD pp [])).length = (Fm.getD pp []).length := scale_len _ _
        have dlg : (downF (Fm.getD q [])).length = (Fm.getD q []).length := scale_len _ _
        have f221 : ∀ r ∈ Fm.getD pp [], Lv 21 r := fun r h => (f2 r h).mono (by decide)
        generalize upd Hc T1 (.tup [.str cc.txt, .int (q : Int)]) = He at sT sd' sdd L1 hvT rdT rfT rgT ⊢
        cases cc with
        | off =>
          rw [decide_eq_true rfl]
          refine iteT ⟨_, rfl, .inl ⟨rfl, _, SqL.of hvT⟩, _, rfl, by show 2 ≤ sizeLine; decide, fun pz hpz => ?_⟩
          have sz : Same He (upd He pz (.tup [.int 0, .int 1])) := same_new hpz
          refine ⟨fv, .ref pz, _, z0, rfl, m_form _ _ _ _ sz rfT, ⟨pz, _, _, rfl, SqT.of upd_same, rfl, rfl⟩, by omega, by omega, lv_fit f2 (by decide), zf, fun H5 z5 s5 q5 => ?_⟩
          obtain ⟨us', hu', lu', L5⟩ := L1.push nl hl hide_self sz s5 q5
          refine ⟨l, us', z5, rfl, rfl, hu', lc lu' (by omega), ?_⟩
          refine ⟨_, rfl, rfl, _, rfl, ?_⟩
          show if decide (V.str C3.off.txt = V.str C3.on.txt) = true then _ else _
          rw [txt_eq, decide_eq_false (by decide)]
          refine iteF ⟨_, rfl, rfl, _, rfl, ?_⟩
          show if decide (V.str C3.off.txt = V.str C3.opn.txt) = true then _ else _
          rw [txt_eq, decide_eq_false (by decide)]
          exact iteF (fin _ _ _ _ _ _ L5)
        | on =>
          rw [decide_eq_false (by decide)]
          refine iteF ⟨_, rfl, rfl, _, rfl, ?_⟩
          show if decide (V.str C3.on.txt = V.str C3.on.txt) = true then _ else _
          rw [txt_eq, decide_eq_true rfl]
          refine iteT ⟨_, rfl, .inl ⟨rfl, _, SqL.of hvT⟩, _, rfl, _, rfl, fv, .ref pd, _, (-1, 1), rfl, rfT, rdT, by omega, lv_fit f2 (by decide), df, fun H3 z3 s3 q3 => ⟨by show 2 ≤ sizeLine; decide, fun pz hpz => ?_⟩⟩
          have sz : Same H3 (upd H3 pz (.tup [.int 0, .int 1])) := same_new hpz
          refine ⟨z3, .ref pz, _, z0, rfl, m_form _ _ _ _ sz (m_form _ _ _ _ fr_sub q3), ⟨pz, _, _, rfl, SqT.of upd_same, rfl, rfl⟩, by rw [scale_len]; omega, by rw [scale_len]; omega, lv_fit dnf (by decide), zf, fun H5 z5 s5 q5 => ?_⟩
          have q5' : rRow K (fr (upd H3 pz (.tup [.int 0, .int 1])) H5) z5 (nbF (Fm.getD pp []) z0) := by
            rw [← nb_zero f2]
            exact q5
          obtain ⟨us', hu', lu', L5⟩ := L1.push nl hl hide_self (s3.trans sz) s5 q5'
          refine ⟨l, us', z5, rfl, rfl, hu', lc lu' (by omega), ?_⟩
          refine ⟨_, rfl, rfl, _, rfl, ?_⟩
          show if decide (V.str C3.on.txt = V.str C3.opn.txt) = true then _ else _
          rw [txt_eq, decide_eq_false (by decide)]
          exact iteF (fin _ _ _ _ _ _ L5)
        | opn =>
          rw [decide_eq_false (by decide)]
          refine iteF ⟨_, rfl, rfl, _, rfl, ?_⟩
          show if decide (V.str C3.opn.txt = V.str C3.on.txt) = true then _ else _
          rw [txt_eq, decide_eq_false (by decide)]
          refine iteF ⟨_, rfl, rfl, _, rfl, ?_⟩
          show if decide (V.str C3.opn.txt = V.str C3.opn.txt) = true then _ else _
          rw [txt_eq, decide_eq_true rfl]
          refine iteT ⟨_, rfl, _, rfl, fb, fs, _, gv, rfl, rfl, SqL.of (sd' _ _ hf), atI_nat eg, ?_⟩
          -- the first row
          refine ⟨_, rfl, .inl ⟨rfl, _, SqL.of hvT⟩, _, rfl, _, rfl, gv, .ref pd, _, (-1, 1), rfl, rgT, rdT, by omega, lv_fit g2 (by decide), df, fun H3 z3 s3 q3 => ⟨by show 2 ≤ sizeLine; decide, fun pz hpz => ?_⟩⟩
          have sz : Same H3 (upd H3 pz (.tup [.int 0, .int 1])) := same_new hpz
          refine ⟨z3, .ref pz, _, z0, rfl, m_form _ _ _ _ sz (m_form _ _ _ _ fr_sub q3), ⟨pz, _, _, rfl, SqT.of upd_same, rfl, rfl⟩, by rw [scale_len]; omega, by rw [scale_len]; omega, lv_fit dng (by decide), zf, fun H5 z5 s5 q5 => ?_⟩
          have q5' : rRow K (fr (upd H3 pz (.tup [.int 0, .int 1])) H5) z5 (nbF (Fm.getD q []) z0) := by
            rw [← nb_zero g2]
            exact q5
          obtain ⟨us1, hu1, lu1, L5⟩ := L1.push nl hl hide_self (s3.trans sz) s5 q5'
          refine ⟨l, us1, z5, rfl, rfl, hu1, lc lu1 (by omega), ?_⟩
          have ll1 : us1.length ≤ 60 := by omega
          generalize upd H5 l (.lst (us1 ++ [z5])) = Hf at L5 ⊢
          obtain ⟨e1, e2, e3, ws1, hw1, pw1⟩ := id L5
          -- the second row
          refine ⟨_, rfl, .inl ⟨rfl, _, SqL.of hw1⟩, _, rfl, _, rfl, _, rfl, gv, .ref pd, _, (-1, 1), rfl, m_form _ _ _ _ e1 rg, t_rat.mon _ _ _ _ e2 rd, by omega, lv_fit g2 (by decide), df, fun H6 z6 s6 q6 => ?_⟩
          have al : (addF (Fm.getD pp []) (downF (Fm.getD q []))).length = (downF (Fm.getD q [])).length := add_len (by omega)
          refine ⟨fv, z6, _, _, rfl, m_form _ _ _ _ (e1.trans s6) rf, m_form _ _ _ _ fr_sub q6, by show (Fm.getD pp []).length = (downF (Fm.getD q [])).length; omega, by omega, lv_fit f2 (by decide), lv_fit dng (by decide), fun H7 z7 s7 q7 => ⟨by show 2 ≤ sizeLine; decide, fun py hpy => ?_⟩⟩
          have sy : Same H7 (upd H7 py (.tup [.int 0, .int 1])) := same_new hpy
          refine ⟨z7, .ref py, addF (Fm.getD pp []) (downF (Fm.getD q [])), z0, rfl, m_form _ _ _ _ sy (m_form _ _ _ _ fr_sub q7), ⟨py, _, _, rfl, SqT.of upd_same, rfl, rfl⟩, by omega, by omega, lv_fit (add_lv f221 dng) (by decide), zf, fun H8 z8 s8 q8 => ?_⟩
          obtain ⟨us2, hu2, lu2, L8⟩ := L5.push nl hl hide_self ((s6.trans s7).trans sy) s8 q8
          have ll2 : us2.length ≤ 61 := by
            rw [lu2, List.length_append]
            have : ([nbF (Fm.getD q []) z0] : List Rw).length = 1 := rfl
            omega
          refine ⟨l, us2, z8, rfl, rfl, hu2, lc rfl (by omega), ?_⟩
          generalize upd H8 l (.lst (us2 ++ [z8])) = Hg at L8 ⊢
          obtain ⟨g1', g2', g3', ws2, hw2, pw2⟩ := id L8
          -- the third row
          refine ⟨_, rfl, .inl ⟨rfl, _, SqL.of hw2⟩, _, rfl, _, rfl, sb, ss, _, _, rfl, rfl, SqL.of (g1' _ _ hs), atI_nat es, t, _, _, a1, rfl, rfl, same_tup g1' _ _ ht, rfl, _, rfl, _, rfl, sb, ss, _, _, rfl, rfl, SqL.of (g1' _ _ hs), atI_nat es, t, _, _, a2, rfl, rfl, same_tup g1' _ _ ht, rfl, _, rfl, _, rfl,
            a1, a2, fv, gv, S.getD pp dflE, _, _, rfl, t_rat.mon _ _ _ _ g1' r1, t_rat.mon _ _ _ _ g1' r2, m_form _ _ _ _ g1' rf, m_form _ _ _ _ g1' rg, by omega, by omega, by omega, ⟨k1, k2⟩, f2, g2, fun H9 z9 s9 q9 => ?_⟩
          obtain ⟨us3, hu3, lu3, L9⟩ := L8.push nl hl hide_self (Same.refl _) s9 q9
          have ll3 : us3.length ≤ 70 := by
            rw [lu3, List.length_append, List.length_append]
            have h1 : ([nbF (Fm.getD q []) z0] : List Rw).length = 1 := rfl
            have h2 : ([naF (addF (Fm.getD pp []) (downF (Fm.getD q []))) z0] : List Rw).length = 1 := rfl
            omega
          refine ⟨l, us3, z9, rfl, rfl, hu3, lc rfl (by omega), ?_⟩
          refine fin _ _ _ _ _ _ ?_
          have eb : rows ++ bendRows C3.opn (S.getD pp dflE) (Fm.getD pp []) (Fm.getD q []) = ((rows ++ [nbF (Fm.getD q []) z0]) ++ [naF (addF (Fm.getD pp []) (downF (Fm.getD q []))) z0]) ++ [thirdF (S.getD pp dflE) (Fm.getD pp []) (Fm.getD q [])] := by
            rw [List.append_assoc, List.append_assoc]
            rfl
          rw [eb]
          exact L9
      · rintro σ Hc ⟨v6, v7, v8, v9, v10, v11, vs, rfl, sc, sdc, sh, hv, pv⟩
        rw [List.take_of_length_le (by rw [List.length_zip, bendsAt_len]; omega)] at pv
        exact ⟨_, rfl, k Hc _ sc ⟨l, vs, rfl, by rw [fr_new nl]; exact hv, p_sm m_row hide_sub pv⟩⟩
end
end BP
end


/-! A9 -/
section
set_option maxHeartbeats 4000000
namespace BP
open PySem L2
/-- the same data, at most n deep -/
def Al (K : PySem.W.Frag) : Nat → Hp → V → V → Prop
  | 0, _, x, y => ∃ i, x = .int i ∧ y = .int i
  | n + 1, H, x, y => (∃ i, x = .int i ∧ y = .int i) ∨ ∃ a b xs ys, x = .ref a ∧ y = .ref b ∧ ((H a = some (.lst xs) ∧ H b = some (.lst ys)) ∨ (SqT K H a xs ∧ SqT K H b ys)) ∧ xs.length = ys.length ∧ xs.length ≤ 1000 ∧
      ∀ (i : Nat) u v, xs[i]? = some u → ys[i]? = some v → Al K n H u v
theorem Al.mono {K : PySem.W.Frag} {H H' : Hp} (s : Same H H') : ∀ {n : Nat} {x y : V}, Al K n H x y → Al K n H' x y
  | 0, _, _, h => h
  | n + 1, _, _, .inl h => .inl h
  | n + 1, _, _, .inr ⟨a, b, xs, ys, e1, e2, h, l1, l2, k⟩ => .inr ⟨a, b, xs, ys, e1, e2, h.elim (fun h => .inl ⟨s _ _ h.1, s _ _ h.2⟩) (fun h => .inr ⟨same_tup s _ _ h.1, same_tup s _ _ h.2⟩), l1, l2, fun i u v h1 h2 => Al.mono s (k i u v h1 h2)⟩
def spAlike (K : PySem.W.Frag) (n : Nat) : Sp := fun vs H Q _ => ∃ x y : V, vs = [x, y] ∧ Al K n H x y ∧ ∀ H', Same H H' → Q (.bl true) H'
def rTrue : Rp Unit := fun _ v _ => v = .bl true
section
variable {P : Program} {w : World} {K : PySem.W.Frag} {mg : Str → Option Value} {base : Heap} {A : Ad}
theorem tup_ty {H : Hp} {a : Addr} {xs : List V} (h : SqT K H a xs) : TyX K H (.ref a) (.type "tuple") := by
  rcases h with (h | ⟨o, h⟩) | ⟨o, its, n, h, c, _⟩
  · exact .base (.tup h)
  · exact .fTuple h
  · exact .kTuple h c
theorem lst_ty {H : Hp} {a : Addr} {xs : List V} (h : H a = some (.lst xs)) : TyX K H (.ref a) (.type "list") := .base (.lst h)
theorem walk_zipT {a b : Addr} {xs ys : List V} {n : Nat} (hn : n = min xs.length ys.length) : Walk (RZ.ItzT K a b) n (fun H => SqT K H a xs ∧ SqT K H b ys) (YPair (fun i => xs[i]?) (fun i => ys[i]?)) := by
  subst hn
  constructor
  · intro i _ lt qs
    have lx : i < xs.length := by omega
    have ly : i < ys.length := by omega
    exact ⟨xs, ys, xs[i], ys[i], qs.1, qs.2, List.getElem?_eq_getElem lx, List.getElem?_eq_getElem ly⟩
  · exact fun _ qs => ⟨xs, ys, qs.1, qs.2, by omega⟩
  · rintro i H v H' _ qs ⟨T, x, z, e1, e2, e3, hx, hz⟩
    exact ⟨T, x, z, e1, e2, e3, hx xs qs.1, hz ys qs.2⟩
theorem all_true {H : Hp} : ∀ {vs : List V} {us : List Unit}, Paired (rTrue H) vs us → vs = (List.replicate us.length true).map V.bl
  | _, _, .nil => rfl
  | v :: vs, u :: us, .cons r t => by
    have e := all_true t
    have r' : v = .bl true := r
    rw [r', List.length_cons, List.replicate_succ, List.map_cons, ← e]
theorem all_id (n : Nat) : (List.replicate n true).all id = true := by
  induction n with
  | zero => rfl
  | succ n ih => rw [List.replicate_succ, List.all_cons, ih]; rfl
theorem ok_alike (T : Txt K mg A) (F : Fns K mg A) : ∀ n : Nat, Kept P w K mg base (n + 1) "_law_alike" ["_law_found", "_law_due_here"] (spAlike K n)
  | 0 => kept_of F._law_alike fun f fd Fn => by
    refine Fn.ok sc__law_alike (fun vs H Q E h => ?_) (fun cdv Ar outer s H vs Q E hr h => ?_)
    · obtain ⟨x, y, rfl, _⟩ := h
      rfl
    · obtain ⟨_, _, rfl, ⟨i, rfl, rfl⟩, k⟩ := h
      refine ⟨_, (pss_cons (ps_if (PW.pt (pw_or (pt_val (pe_callB call_isi (by rfl) T.b_isinstance (by decide +kernel) (pa_cons (pv 1) (pa_cons (pe_bltn (v := .ty "list") rfl T.b_list (by decide +kernel) rfl) pa_nil)))) (pw_or1 (pt_val (pe_callB call_isi (by rfl) T.b_isinstance (by decide +kernel) (pa_cons (pv 1) (pa_cons (pe_bltn (v := .ty "tuple") rfl T.b_tuple (by decide +kernel) rfl) pa_nil))))))) pss_never
        pss_nil)
      (pss_one (ps_ret (pe_and (pe_callB call_isi (by rfl) T.b_isinstance (by decide +kernel) (pa_cons (pv 0) (pa_cons (pe_bltn (v := .ty "int") rfl T.b_int (by decide +kernel) rfl) pa_nil))) (pe_and (pe_not (pe_callB call_isi (by rfl) T.b_isinstance (by decide +kernel) (pa_cons (pv 0) (pa_cons (pe_bltn (v := .ty "bool") rfl T.b_bool (by decide +kernel) rfl) pa_nil)))) (pe_one (pe_cmpR op_eq (pv 0) (pv 1) (nomark _)))))))), ?_⟩
      refine ⟨_, rfl, _, _, _, _, false, rfl, .ty "list", int_ty, kit_ty (by decide +kernel), _, rfl, iteF ⟨_, rfl, _, _, _, _, false, rfl, .ty "tuple", int_ty, kit_ty (by decide +kernel), _, rfl, iteF ?_⟩⟩
      refine ⟨_, rfl, _, _, _, _, true, rfl, .ty "int", int_ty, kit_ty (by decide +kernel), _, rfl, iteT ⟨_, rfl, _, _, _, _, false, rfl, .ty "bool", int_ty, kit_ty (by decide +kernel), _, rfl, _, rfl, iteT ⟨_, rfl, _, rfl, rfl, ?_⟩⟩⟩
      rw [decide_eq_true rfl]
      exact k H (Same.refl H)
  | n + 1 => kept_of F._law_alike fun f fd Fn => by
    have ih := ok_alike T F n
    refine Fn.ok sc__law_alike (fun vs H Q E h => ?_) (fun cdv Ar outer s H vs Q E hr h => ?_)
    · obtain ⟨x, y, rfl, _⟩ := h
      rfl
    · obtain ⟨x, y, rfl, ha, k⟩ := h
      refine ⟨_, (pss_cons (ps_if (PW.pt (pw_or (pt_val (pe_callB call_isi (by rfl) T.b_isinstance (by decide +kernel) (pa_cons (pv 1) (pa_cons (pe_bltn (v := .ty "list") rfl T.b_list (by decide +kernel) rfl) pa_nil)))) (pw_or1 (pt_val (pe_callB call_isi (by rfl) T.b_isinstance (by decide +kernel) (pa_cons (pv 1) (pa_cons (pe_bltn (v := .ty "tuple") rfl T.b_tuple (by decide +kernel) rfl) pa_nil))))))) (pss_cons (ps_if (PW.pt (pw_or (pt_cmpR op_ne (pe_callB call_isi (by rfl) T.b_isinstance (by decide +kernel) (pa_cons (pv 0) (pa_cons (pe_bltn (v := .ty "list") rfl T.b_list (by decide +kernel) rfl) pa_nil))) (pe_callB call_isi (by rfl) T.b_isinstance (by decide +kernel) (pa_cons (pv 1) (pa_cons (pe_bltn (v := .ty "list") rfl T.b_list (by decide +kernel) rfl) pa_nil))) (nomark _)) (pw_or1 (pt_cmpR op_ne (pe_callB call_isi (by rfl) T.b_isinstance (by decide +kernel) (pa_cons (pv 0) (pa_cons (pe_bltn (v := .ty "tuple") rfl T.b_tuple (by decide +kernel) rfl) pa_nil))) (pe_callB call_isi (by rfl) T.b_isinstance (by decide +kernel) (pa_cons (pv 1) (pa_cons (pe_bltn (v := .ty "tuple") rfl T.b_tuple (by decide +kernel) rfl) pa_nil))) (nomark _))))) (pss_one (ps_ret pe_bl))
          pss_nil)
        (pss_cons (ps_if (pt_cmpR op_ne (pe_callB call_len_seq (by rfl) T.b_len PySem.boot_len (pa_cons (pv 0) pa_nil)) (pe_callB call_len_seq (by rfl) T.b_len PySem.boot_len (pa_cons (pv 1) pa_nil)) (nomark _)) (pss_one (ps_ret pe_bl))
          pss_nil)
        (pss_one (ps_ret (pe_callB (cr_all rfl) (by rfl) T.b_all (by decide +kernel) (pa_cons (pe_lc (g := gTup K 2 (gCons (gName 2) (gCons (gName 3) (gNil)))) (tt := tYes) (own := [("_law_one", 2), ("_law_other", 3)]) (by rfl) sc__law_alike.nd (RZ.pi_zipA (by rfl) T.b_zip (pa_cons (pv 0) (pa_cons (pv 1) pa_nil))) (blkOk_by (own := [("_law_one", 2), ("_law_other", 3)]) (N := ["_law_found", "_law_due_here", "_law_one", "_law_other"]) (sc := defScope s__law_alike) (by decide +kernel)) (fun _ _ _ _ _ => by exact (pg_tup rfl (pgs_cons (pg_name (i := 2) sc__law_alike.nd rfl (Or.inl rfl)) (pgs_cons (pg_name (i := 3) sc__law_alike.nd rfl (Or.inl rfl)) pgs_nil)))) (fun _ _ _ _ _ => pts_nil) (fun _ _ _ _ _ => (pe_k ih hr rfl (pa_cons (pv 2) (pa_cons (pv 3) pa_nil))))) pa_nil))))))
        pss_nil)
      (pss_one (ps_ret (pe_and (pe_callB call_isi (by rfl) T.b_isinstance (by decide +kernel) (pa_cons (pv 0) (pa_cons (pe_bltn (v := .ty "int") rfl T.b_int (by decide +kernel) rfl) pa_nil))) (pe_and (pe_not (pe_callB call_isi (by rfl) T.b_isinstance (by decide +kernel) (pa_cons (pv 0) (pa_cons (pe_bltn (v := .ty "bool") rfl T.b_bool (by decide +kernel) rfl) pa_nil)))) (pe_one (pe_cmpR op_eq (pv 0) (pv 1) (nomark _)))))))), ?_⟩
      rcases ha with ⟨i, rfl, rfl⟩ | ⟨a, b, xs, ys, rfl, rfl, hk, hl, hz, ki⟩
      · refine ⟨_, rfl, _, _, _, _, false, rfl, .ty "list", int_ty, kit_ty (by decide +kernel), _, rfl, iteF ⟨_, rfl, _, _, _, _, false, rfl, .ty "tuple", int_ty, kit_ty (by decide +kernel), _, rfl, iteF ?_⟩⟩
        refine ⟨_, rfl, _, _, _, _, true, rfl, .ty "int", int_ty, kit_ty (by decide +kernel), _, rfl, iteT ⟨_, rfl, _, _, _, _, false, rfl, .ty "bool", int_ty, kit_ty (by decide +kernel), _, rfl, _, rfl, iteT ⟨_, rfl, _, rfl, rfl, ?_⟩⟩⟩
        rw [decide_eq_true rfl]
        exact k H (Same.refl H)
      · have step : ∀ (i : Nat) (x : V) (Hc H' : Hp) (y : Unit) (Z : VK) (N : Hp → Prop), Same H Hc → YPair (fun i => xs[i]?) (fun i => ys[i]?) i Hc x H' → (∀ v H4, Same H' H4 → rTrue (fr H' H4) v y → Z v H4) →
            gTup K 2 (gCons (gName 2) (gCons (gName 3) gNil)) x (wipe [some (.ref a), some (.ref b), none, none] [2, 3]) H' fun σ2 H2 => wipe σ2 [2, 3] = wipe [some (.ref a), some (.ref b), none, none] [2, 3] ∧ tYes σ2 H2 fun b H3 =>
              if b = true then tCall (spAlike K n) [] E0 (tCons (tVar 2) (tCons (tVar 3) tNil)) σ2 H3 Z else N H3 := by
          rintro i x Hc H' y Z N s1 ⟨T1, u, v, rfl, hT, rfl, hu, hv⟩ hZ
          refine ⟨T1, _, rfl, SqT.of upd_same, rfl, _, _, rfl, _, _, rfl, rfl, rfl, ?_⟩
          exact ⟨_, rfl, _, rfl, u, v, rfl, (ki i u v hu hv).mono (s1.trans (same_new hT)), fun H4 s4 => hZ _ H4 s4 rfl⟩
        have fin : ∀ (D : Addr) H', Same H H' → rLst rTrue (fr H H') (.ref D) (List.replicate xs.length ()) → ∃ (a : Addr) (bs : List Bool), [V.ref D] = [V.ref a] ∧ SqL K H' a (bs.map V.bl) ∧ Q (.bl (bs.all id)) H' := by
          rintro D H' s1 ⟨D', vs, e, hv, pv⟩
          cases e
          have e1 := all_true pv
          rw [List.length_replicate] at e1
          refine ⟨D, List.replicate xs.length true, rfl, SqL.of (by rw [← e1]; exact fr_sub _ _ hv), ?_⟩
          rw [all_id]
          exact k H' s1
        have mt : MonR rTrue := fun _ _ _ _ _ h => h
        rcases hk with ⟨h1, h2⟩ | ⟨h1, h2⟩
        · refine ⟨_, rfl, _, _, _, _, true, rfl, .ty "list", lst_ty h2, kit_ty (by decide +kernel), _, rfl, iteT ?_⟩
          refine ⟨_, rfl, _, _, _, _, true, rfl, .ty "list", lst_ty h1, kit_ty (by decide +kernel), _, rfl, _, _, _, _, true, rfl, .ty "list", lst_ty h2, kit_ty (by decide +kernel), rfl, _, rfl, iteNS rfl ?_⟩
          refine ⟨_, rfl, _, _, _, _, false, rfl, .ty "tuple", lst_ty h1, kit_ty (by decide +kernel), _, rfl, _, _, _, _, false, rfl, .ty "tuple", lst_ty h2, kit_ty (by decide +kernel), rfl, _, rfl, iteNS rfl ?_⟩
          refine ⟨_, rfl, a, xs, rfl, .inl (SqL.of h1), _, rfl, b, ys, rfl, .inl (SqL.of h2), rfl, _, rfl, iteNS (by rw [hl]) ?_⟩
          exact ⟨_, rfl, _, rfl, a, b, xs, ys, rfl, .inl ⟨SqL.of h1, SqL.of h2, fun D hD => lc_m (R := rTrue) mt (L2.walk_zip (n := xs.length) (by omega)) (List.replicate xs.length ()) (by simp) (by omega) hD (fun H' s => ⟨SqL.of (s _ _ h1), SqL.of (s _ _ h2)⟩) (fun _ _ _ _ h => ypair_same h)
            (fun i x Hc H' y Z N _ _ s1 hy hZ => step i x Hc H' y Z N s1 hy hZ) (fin D)⟩⟩
        · refine ⟨_, rfl, _, _, _, _, false, rfl, .ty "list", tup_ty h2, kit_ty (by decide +kernel), _, rfl, iteF ⟨_, rfl, _, _, _, _, true, rfl, .ty "tuple", tup_ty h2, kit_ty (by decide +kernel), _, rfl, iteT ?_⟩⟩
          refine ⟨_, rfl, _, _, _, _, false, rfl, .ty "list", tup_ty h1, kit_ty (by decide +kernel), _, rfl, _, _, _, _, false, rfl, .ty "list", tup_ty h2, kit_ty (by decide +kernel), rfl, _, rfl, iteNS rfl ?_⟩
          refine ⟨_, rfl, _, _, _, _, true, rfl, .ty "tuple", tup_ty h1, kit_ty (by decide +kernel), _, rfl, _, _, _, _, true, rfl, .ty "tuple", tup_ty h2, kit_ty (by decide +kernel), rfl, _, rfl, iteNS rfl ?_⟩
          refine ⟨_, rfl, a, xs, rfl, .inr h1, _, rfl, b, ys, rfl, .inr h2, rfl, _, rfl, iteNS (by rw [hl]) ?_⟩
          exact ⟨_, rfl, _, rfl, a, b, xs, ys, rfl, .inr ⟨h1, h2, fun D hD => lc_m (R := rTrue) mt (walk_zipT (n := xs.length) (by omega)) (List.replicate xs.length ()) (by simp) (by omega) hD (fun H' s => ⟨same_tup s _ _ h1, same_tup s _ _ h2⟩) (fun _ _ _ _ h => ypair_same h)
            (fun i x Hc H' y Z N _ _ s1 hy hZ => step i x Hc H' y Z N s1 hy hZ) (fin D)⟩⟩
end
end BP
end


/-! A10 -/
section
set_option maxHeartbeats 4000000
namespace BP
open PySem L2
/-- a ratio in lowest terms, as the program asks -/
structure Rok (r : Rt) : Prop where
  fit : Fit r
  cop : Int.gcd r.1 r.2 = 1
theorem Rok.of {E N n : Nat} {r : Rt} (h : Lv n r) (hn : n ≤ 60) : Rok r := ⟨h.fit hn, h.cop⟩
def spIsRatio (K : PySem.W.Frag) : Sp := fun vs H Q _ => ∃ (x : V) (r : Rt), vs = [x] ∧ rRat K H x r ∧ Rok r ∧ ∀ H', Same H H' → Q (.bl true) H'
def spIsSide (K : PySem.W.Frag) : Sp := fun vs H Q _ => ∃ (x : V) (e : Rt × Rt), vs = [x] ∧ rSpan K H x e ∧ Rok e.1 ∧ Rok e.2 ∧ e.1.1 * e.2.2 ≤ e.2.1 * e.1.2 ∧ ∀ H', Same H H' → Q (.bl true) H'
def spIsPlace : Sp := fun vs H Q _ => ∃ i m : Int, vs = [.int i, .int m] ∧ 0 ≤ i ∧ i < m ∧ Q (.bl true) H
def spIsTerm (K : PySem.W.Frag) : Sp := fun vs H Q _ => ∃ (x : V) (m : Nat) (t : Nat × Rt), vs = [x, .int (m : Int)] ∧ rTerm K H x t ∧ t.1 < m ∧ Sh t.2 ∧ ∀ H', Same H H' → Q (.bl true) H'
def spIsSum (K : PySem.W.Frag) : Sp := fun vs H Q _ => ∃ (x : V) (m : Nat) (c : Rt) (ts : List (Nat × Rt)), vs = [x, .int (m : Int)] ∧ rUnit K H x (.sum c ts) ∧ UOk m (.sum c ts) ∧ ∀ H', Same H H' → Q (.bl true) H'
def spIsUnit (K : PySem.W.Frag) : Sp := fun vs H Q _ => ∃ (x : V) (m : Nat) (u : U), vs = [x, .int (m : Int)] ∧ rUnit K H x u ∧ UOk m u ∧ ∀ H', Same H H' → Q (.bl true) H'
theorem iteDT {c A B : Prop} [Decidable c] (hc : c) (h : A) : if decide c = true then A else B := by
  rw [if_pos (decide_eq_true hc)]
  exact h
theorem iteDF {c A B : Prop} [Decidable c] (hc : ¬ c) (h : B) : if decide c = true then A else B := by
  rw [if_neg (fun q => hc (of_decide_eq_true q))]
  exact h
def rLn (K : PySem.W.Frag) : List V → Hp → VK → Prop := fun xs H Q => ∃ p ys, xs = [.ref p] ∧ (SqL K H p ys ∨ SqT K H p ys) ∧ Q (.int ys.length) H
section
variable {P : Program} {w : World} {K : PySem.W.Frag} {mg : Str → Option Value} {base : Heap} {A : Ad}
theorem ok_is_ratio (T : Txt K mg A) (F : Fns K mg A) : Kept P w K mg base 2 "is_ratio" ["thing"] (spIsRatio K) := kept_of F.is_ratio fun f fd Fn => by
  refine Fn.ok sc_is_ratio (fun vs H Q E h => ?_) (fun cdv Ar outer s H vs Q E hr h => ?_)
  · obtain ⟨x, r, rfl, _⟩ := h
    rfl
  · obtain ⟨x, r, rfl, ⟨p, _, _, rfl, q, rfl, rfl⟩, ok, k⟩ := h
    refine ⟨_, (pss_cons (ps_if (PW.pt (pw_or (pt_not (pt_val (pe_callB call_isi (by rfl) T.b_isinstance (by decide +kernel) (pa_cons (pv 0) (pa_cons (pe_bltn (v := .ty "tuple") rfl T.b_tuple (by decide +kernel) rfl) pa_nil))))) (pw_or (pt_cmpR op_ne (pe_callB call_len_seq (by rfl) T.b_len PySem.boot_len (pa_cons (pv 0) pa_nil)) pe_int (nomark _)) (pw_or (pt_not (pt_val (pe_k (ok_is_whole T F) (hr.mono (by decide)) rfl (pa_cons (pe_ix ix_tup (pv 0) pe_int (fun _ _ => rfl)) pa_nil)))) (pw_or1 (pt_not (pt_val (pe_k (ok_is_whole T F) (hr.mono (by decide)) rfl (pa_cons (pe_ix ix_tup (pv 0) pe_int (fun _ _ => rfl)) pa_nil))))))))) (pss_one (ps_ret pe_bl))
        pss_nil)
      (pss_one (ps_ret (pe_and (pe_cmpR op_ge (pe_ix ix_tup (pv 0) pe_int (fun _ _ => rfl)) pe_int (nomark _)) (pe_one (pe_cmpR op_eq (pe_k (ok_divisor T F) (hr.mono (by decide)) rfl (pa_cons (pe_callB call_abs (by rfl) T.b_abs (by decide +kernel) (pa_cons (pe_ix ix_tup (pv 0) pe_int (fun _ _ => rfl)) pa_nil)) (pa_cons (pe_ix ix_tup (pv 0) pe_int (fun _ _ => rfl)) pa_nil))) pe_int (nomark _))))))), ?_⟩
    refine ⟨_, rfl, _, _, _, _, true, rfl, .ty "tuple", tup_ty q, kit_ty (by decide +kernel), _, rfl, iteF ?_⟩
    refine ⟨_, rfl, p, _, rfl, .inr q, rfl, _, rfl, iteNS rfl ?_⟩
    refine ⟨_, rfl, p, _, _, _, rfl, rfl, q, rfl, _, rfl, _, rfl, iteF ?_⟩
    refine ⟨_, rfl, p, _, _, _, rfl, rfl, q, rfl, _, rfl, _, rfl, iteF ?_⟩
    refine ⟨_, rfl, p, _, _, _, rfl, rfl, q, rfl, _, _, rfl, rfl, _, rfl, ?_⟩
    have hp := ok.fit.pos
    rw [decide_eq_true (show (1 : Int) ≤ r.2 by omega)]
    refine iteT ⟨_, rfl, p, _, _, _, rfl, rfl, q, rfl, _, rfl, _, rfl, p, _, _, _, rfl, rfl, q, rfl, _, _, rfl, ?_, Int.le_of_lt hp, two89 (by decide) ok.fit.bot, fun H1 s1 => ⟨rfl, ?_⟩⟩
    · rw [abs_if]
      omega
    · have eg : Int.gcd (if r.1 < 0 then -r.1 else r.1) r.2 = 1 := by
        rw [abs_if]
        show Nat.gcd ((r.1.natAbs : Int)).natAbs r.2.natAbs = 1
        rw [Int.natAbs_natCast]
        exact ok.cop
      have e1 : decide (V.int ((1 : Nat) : Int) = V.int 1) = true := decide_eq_true rfl
      rw [eg, e1]
      exact k H1 s1
theorem ok_is_side (T : Txt K mg A) (F : Fns K mg A) : Kept P w K mg base 3 "is_side" ["thing"] (spIsSide K) := kept_of F.is_side fun f fd Fn => by
  refine Fn.ok sc_is_side (fun vs H Q E h => ?_) (fun cdv Ar outer s H vs Q E hr h => ?_)
  · obtain ⟨x, r, rfl, _⟩ := h
    rfl
  · obtain ⟨x, e, rfl, ⟨p, a, b, rfl, q, ra, rb⟩, oa, ob, hl, k⟩ := h
    refine ⟨_, (pss_cons (ps_if (PW.pt (pw_or (pt_not (pt_val (pe_callB call_isi (by rfl) T.b_isinstance (by decide +kernel) (pa_cons (pv 0) (pa_cons (pe_bltn (v := .ty "tuple") rfl T.b_tuple (by decide +kernel) rfl) pa_nil))))) (pw_or1 (pt_cmpR op_ne (pe_callB call_len_seq (by rfl) T.b_len PySem.boot_len (pa_cons (pv 0) pa_nil)) pe_int (nomark _))))) (pss_one (ps_ret pe_bl))
        pss_nil)
      (pss_one (ps_ret (pe_and (pe_k (ok_is_ratio T F) (hr.mono (by decide)) rfl (pa_cons (pe_ix ix_tup (pv 0) pe_int (fun _ _ => rfl)) pa_nil)) (pe_and (pe_k (ok_is_ratio T F) (hr.mono (by decide)) rfl (pa_cons (pe_ix ix_tup (pv 0) pe_int (fun _ _ => rfl)) pa_nil)) (pe_one (pe_not (pe_k (ok_less T F) (hr.mono (by decide)) rfl (pa_cons (pe_ix ix_tup (pv 0) pe_int (fun _ _ => rfl)) (pa_cons (pe_ix ix_tup (pv 0) pe_int (fun _ _ => rfl)) pa_nil)))))))))), ?_⟩
    refine ⟨_, rfl, _, _, _, _, true, rfl, .ty "tuple", tup_ty q, kit_ty (by decide +kernel), _, rfl, iteF ?_⟩
    refine ⟨_, rfl, p, _, rfl, .inr q, rfl, _, rfl, iteNS rfl ?_⟩
    refine ⟨_, rfl, p, _, _, a, rfl, rfl, q, rfl, a, e.1, rfl, ra, oa, fun H1 s1 => ⟨_, rfl, iteT ?_⟩⟩
    have q1 := same_tup s1 _ _ q
    refine ⟨_, rfl, p, _, _, b, rfl, rfl, q1, rfl, b, e.2, rfl, t_rat.mon _ _ _ _ s1 rb, ob, fun H2 s2 => ⟨_, rfl, iteT ?_⟩⟩
    have q2 := same_tup s2 _ _ q1
    have s12 := s1.trans s2
    refine ⟨_, rfl, p, _, _, b, rfl, rfl, q2, rfl, _, rfl, p, _, _, a, rfl, rfl, q2, rfl, b, a, e.2, e.1, rfl, t_rat.mon _ _ _ _ s12 rb, t_rat.mon _ _ _ _ s12 ra, ob.fit, oa.fit, _, rfl, ?_⟩
    rw [decide_eq_false (by omega)]
    exact k H2 s12
theorem ok_is_place (T : Txt K mg A) (F : Fns K mg A) : Kept P w K mg base 2 "is_place" ["thing", "many"] spIsPlace := kept_of F.is_place fun f fd Fn => by
  refine Fn.ok sc_is_place (fun vs H Q E h => ?_) (fun cdv Ar outer s H vs Q E hr h => ?_)
  · obtain ⟨i, m, rfl, _⟩ := h
    rfl
  · obtain ⟨i, m, rfl, h0, h1, k⟩ := h
    refine ⟨_, (pss_one (ps_ret (pe_and (pe_k (ok_is_whole T F) (hr.mono (by decide)) rfl (pa_cons (pv 0) pa_nil)) (pe_one (pe_chain op_le op_lt pe_int (pv 0) (pv 1)))))), ?_⟩
    refine ⟨_, rfl, i, rfl, _, rfl, iteT ⟨_, rfl, _, _, rfl, rfl, _, rfl, ?_⟩⟩
    refine iteDT h0 ⟨_, rfl, _, _, rfl, rfl, ?_⟩
    show Q (V.bl (decide (i < m))) H
    rw [decide_eq_true h1]
    exact k
theorem ok_is_term (T : Txt K mg A) (F : Fns K mg A) : Kept P w K mg base 3 "is_term" ["thing", "many"] (spIsTerm K) := kept_of F.is_term fun f fd Fn => by
  refine Fn.ok sc_is_term (fun vs H Q E h => ?_) (fun cdv Ar outer s H vs Q E hr h => ?_)
  · obtain ⟨x, m, t, rfl, _⟩ := h
    rfl
  · obtain ⟨x, m, t, rfl, ⟨p, _, b, rfl, q, rfl, rb⟩, h1, h2, k⟩ := h
    refine ⟨_, (pss_one (ps_ret (pe_and (pe_callB call_isi (by rfl) T.b_isinstance (by decide +kernel) (pa_cons (pv 0) (pa_cons (pe_bltn (v := .ty "tuple") rfl T.b_tuple (by decide +kernel) rfl) pa_nil))) (pe_and (pe_cmpR op_eq (pe_callB call_len_seq (by rfl) T.b_len PySem.boot_len (pa_cons (pv 0) pa_nil)) pe_int (nomark _)) (pe_and (pe_k (ok_is_place T F) (hr.mono (by decide)) rfl (pa_cons (pe_ix ix_tup (pv 0) pe_int (fun _ _ => rfl)) (pa_cons (pv 1) pa_nil))) (pe_one (pe_k (ok_is_ratio T F) (hr.mono (by decide)) rfl (pa_cons (pe_ix ix_tup (pv 0) pe_int (fun _ _ => rfl)) pa_nil)))))))), ?_⟩
    refine ⟨_, rfl, _, _, _, _, true, rfl, .ty "tuple", tup_ty q, kit_ty (by decide +kernel), _, rfl, iteT ?_⟩
    refine ⟨_, rfl, p, _, rfl, .inr q, rfl, _, rfl, ?_⟩
    refine iteDT rfl ⟨_, rfl, p, _, _, _, rfl, rfl, q, rfl, _, rfl, _, _, rfl, by omega, by omega, _, rfl, iteT ?_⟩
    exact ⟨_, rfl, p, _, _, b, rfl, rfl, q, rfl, b, t.2, rfl, rb, ⟨h2.fit, h2.cop⟩, k⟩
theorem nodup_int : ∀ {l : List Nat}, l.Nodup → (l.map fun n : Nat => (n : Int)).Nodup
  | [], _ => List.nodup_nil
  | a :: r, h => by
    obtain ⟨h1, h2⟩ := List.nodup_cons.mp h
    rw [List.map_cons, List.nodup_cons]
    refine ⟨fun q => ?_, nodup_int h2⟩
    obtain ⟨b, hb, e⟩ := List.mem_map.mp q
    have e2 : b = a := by omega
    exact h1 (e2 ▸ hb)
theorem ok_is_sum (T : Txt K mg A) (F : Fns K mg A) : Kept P w K mg base 4 "is_sum" ["thing", "many"] (spIsSum K) := kept_of F.is_sum fun f fd Fn => by
  refine Fn.ok sc_is_sum (fun vs H Q E h => ?_) (fun cdv Ar outer s H vs Q E hr h => ?_)
  · obtain ⟨x, m, c, ts, rfl, _⟩ := h
    rfl
  · obtain ⟨x, m, c, ts, rfl, ⟨p, xc, yt, rfl, q, rc, l, us, rfl, hu, pu⟩, uok, k⟩ := h
    refine ⟨_, (pss_cons (ps_if (PW.pt (pw_or (pt_cmpR op_ne (pe_callB call_len_seq (by rfl) T.b_len PySem.boot_len (pa_cons (pv 0) pa_nil)) pe_int (nomark _)) (pw_or (pt_not (pt_val (pe_k (ok_is_ratio T F) (hr.mono (by decide)) rfl (pa_cons (pe_ix ix_tup (pv 0) pe_int (fun _ _ => rfl)) pa_nil)))) (pw_or1 (pt_not (pt_val (pe_callB call_isi (by rfl) T.b_isinstance (by decide +kernel) (pa_cons (pe_ix ix_tup (pv 0) pe_int (fun _ _ => rfl)) (pa_cons (pe_bltn (v := .ty "list") rfl T.b_list (by decide +kernel) rfl) pa_nil))))))))) (pss_one (ps_ret pe_bl))
        pss_nil)
      (pss_cons (ps_if (pt_not (pt_val (pe_callB (cr_all rfl) (by rfl) T.b_all (by decide +kernel) (pa_cons (pe_lc (g := gName 2) (tt := tYes) (own := [("term", 2)]) (by rfl) sc_is_sum.nd (pi_list (pe_ix ix_tup (pv 0) pe_int (fun _ _ => rfl))) (blkOk_by (own := [("term", 2)]) (N := ["thing", "many", "term"]) (sc := defScope s_is_sum) (by decide +kernel)) (fun _ _ _ _ _ => by exact (pg_name (i := 2) sc_is_sum.nd rfl (Or.inl rfl))) (fun _ _ _ _ _ => pts_nil) (fun _ _ _ _ _ => (pe_k (ok_is_term T F) (hr.mono (by decide)) rfl (pa_cons (pv 2) (pa_cons (pv 1) pa_nil))))) pa_nil)))) (pss_one (ps_ret pe_bl))
        pss_nil)
      (pss_one (ps_ret (pe_cmpR op_eq (RZ.pe_lenSetI rfl T.b_len rfl T.b_set (pe_lc (g := gName 2) (tt := tYes) (te := tOp (rIxT K) (tVar 2) (tC (.int 0))) (own := [("term", 2)]) (by rfl) sc_is_sum.nd (pi_list (pe_ix ix_tup (pv 0) pe_int (fun _ _ => rfl))) (blkOk_by (own := [("term", 2)]) (N := ["thing", "many", "term"]) (sc := defScope s_is_sum) (by decide +kernel)) (fun _ _ _ _ _ => by exact (pg_name (i := 2) sc_is_sum.nd rfl (Or.inl rfl))) (fun _ _ _ _ _ => pts_nil) (fun _ _ _ _ _ => (pe_ix ix_tup (pv 2) pe_int (fun _ _ => rfl))))) (pe_callB call_len_seq (by rfl) T.b_len PySem.boot_len (pa_cons (pe_ix ix_tup (pv 0) pe_int (fun _ _ => rfl)) pa_nil)) (nomark _)))))), ?_⟩
    have hc := uok.con c ts rfl
    have hf := uok.few c ts rfl
    have hok := uok.ok c ts rfl
    have lu := pu.length
    refine ⟨_, rfl, p, _, rfl, .inr q, rfl, _, rfl, iteNS rfl ?_⟩
    refine ⟨_, rfl, p, _, _, xc, rfl, rfl, q, rfl, xc, c, rfl, rc, ⟨hc.fit, hc.cop⟩, fun H1 s1 => ⟨_, rfl, iteF ?_⟩⟩
    have q1 := same_tup s1 _ _ q
    have hu1 := s1 _ _ hu
    refine ⟨_, rfl, p, _, _, _, rfl, rfl, q1, rfl, _, _, _, _, true, rfl, .ty "list", lst_ty hu1, kit_ty (by decide +kernel), _, rfl, iteF ?_⟩
    refine ⟨_, rfl, p, _, _, _, rfl, rfl, q1, rfl, l, rfl, ⟨us, SqL.of hu1⟩, fun D hD => lc_m (R := rTrue) (fun _ _ _ _ _ h => h) walk_list (List.replicate us.length ()) (by simp) (by omega) hD (fun H' s => SqL.of (s _ _ hu1)) (fun _ _ _ _ h => yat_same h) ?_ ?_⟩
    · rintro i x Hc H' z Z N hi ho sc ⟨rfl, hx⟩ hZ
      obtain ⟨t, e1, r1⟩ := pr_get pu hx
      have ht := hok t (List.mem_of_getElem? e1)
      refine ⟨rfl, ?_⟩
      exact ⟨_, rfl, _, rfl, x, m, t, rfl, t_term.mon _ _ _ _ (s1.trans sc) r1, ht.1, ht.2, fun H4 s4 => hZ _ H4 s4 rfl⟩
    · rintro H2 s2 ⟨D', vs, e, hv, pv⟩
      cases e
      have e1 := all_true pv
      rw [List.length_replicate] at e1
      refine ⟨D, List.replicate us.length true, rfl, SqL.of (by rw [← e1]; exact fr_sub _ _ hv), _, rfl, ?_⟩
      rw [all_id]
      have s12 := s1.trans s2
      have q2 := same_tup s12 _ _ q
      have hu2 := s12 _ _ hu
      refine iteF ⟨_, rfl, p, _, _, _, rfl, rfl, q2, rfl, l, rfl, ⟨us, SqL.of hu2⟩, fun D2 hD2 => lc_m (R := rNat) (fun _ _ _ _ _ h => h) walk_list (ts.map (·.1)) (by rw [List.length_map]; omega) (by omega) hD2 (fun H' s => SqL.of (s _ _ hu2)) (fun _ _ _ _ h => yat_same h) ?_ ?_⟩
      · rintro i x Hc H' z Z N hi ho sc ⟨rfl, hx⟩ hZ
        obtain ⟨t, e1, tp, _, y2, rfl, qt, rfl, _⟩ := pr_get pu hx
        have ez : z = t.1 := by
          rw [List.getElem?_map, e1] at ho
          exact (Option.some.inj ho).symm
        refine ⟨rfl, ?_⟩
        refine ⟨_, rfl, tp, _, _, _, rfl, rfl, same_tup (s12.trans sc) _ _ qt, rfl, ?_⟩
        rw [ez] at hZ
        exact hZ _ _ (Same.refl _) rfl
      · rintro H3 s3 ⟨D3, ws, e, hw, pw⟩
        cases e
        have ew : ∀ {vs : List V} {ns : List Nat}, Paired (rNat (fr H2 H3)) vs ns → vs = (ns.map fun n : Nat => (n : Int)).map V.int := fun {vs ns} h => by
          induction h with
          | nil => rfl
          | cons r t ih =>
            have r' : _ = V.int _ := r
            rw [r', List.map_cons, List.map_cons, ← ih]
        have s13 := s12.trans s3
        refine ⟨D2, (ts.map (·.1)).map fun n : Nat => (n : Int), rfl, SqL.of (by rw [← ew pw]; exact fr_sub _ _ hw), nodup_int (uok.nd c ts rfl), by rw [List.length_map, List.length_map]; omega, ?_⟩
        refine ⟨_, rfl, p, _, _, _, rfl, rfl, same_tup s13 _ _ q, rfl, l, us, rfl, .inl (SqL.of (s13 _ _ hu)), rfl, ?_⟩
        rw [decide_eq_true (by rw [List.length_map, List.length_map, lu])]
        exact k H3 s13
theorem ok_is_unit (T : Txt K mg A) (F : Fns K mg A) : Kept P w K mg base 5 "is_unit" ["thing", "many"] (spIsUnit K) := kept_of F.is_unit fun f fd Fn => by
  refine Fn.ok sc_is_unit (fun vs H Q E h => ?_) (fun cdv Ar outer s H vs Q E hr h => ?_)
  · obtain ⟨x, m, u, rfl, _⟩ := h
    rfl
  · obtain ⟨x, m, u, rfl, hu, uok, k⟩ := h
    refine ⟨_, (pss_cons (ps_if (PW.pt (pw_or (pt_not (pt_val (pe_callB call_isi (by rfl) T.b_isinstance (by decide +kernel) (pa_cons (pv 0) (pa_cons (pe_bltn (v := .ty "tuple") rfl T.b_tuple (by decide +kernel) rfl) pa_nil))))) (pw_or (pt_cmpR op_eq (pe_callB call_len_seq (by rfl) T.b_len PySem.boot_len (pa_cons (pv 0) pa_nil)) pe_int (nomark _)) (pw_or1 (pt_not (pt_val (pe_callB call_isi (by rfl) T.b_isinstance (by decide +kernel) (pa_cons (pe_ix ix_tup (pv 0) pe_int (fun _ _ => rfl)) (pa_cons (pe_bltn (v := .ty "str") rfl T.b_str (by decide +kernel) rfl) pa_nil))))))))) (pss_one (ps_ret pe_bl))
        pss_nil)
      (pss_cons (ps_if (pt_cmpR op_eq (pe_ix ix_tup (pv 0) pe_int (fun _ _ => rfl)) pe_str (nomark _)) (pss_one (ps_ret (pe_and (pe_cmpR op_eq (pe_callB call_len_seq (by rfl) T.b_len PySem.boot_len (pa_cons (pv 0) pa_nil)) pe_int (nomark _)) (pe_one (pe_k (ok_is_place T F) (hr.mono (by decide)) rfl (pa_cons (pe_ix ix_tup (pv 0) pe_int (fun _ _ => rfl)) (pa_cons (pv 1) pa_nil)))))))
        pss_nil)
      (pss_one (ps_ret (pe_and (pe_cmpR op_eq (pe_ix ix_tup (pv 0) pe_int (fun _ _ => rfl)) pe_str (nomark _)) (pe_one (pe_k (ok_is_sum T F) (hr.mono (by decide)) rfl (pa_cons (pv 0) (pa_cons (pv 1) pa_nil))))))))), ?_⟩
    have str_ty : ∀ z : Str, TyX K H (.str z) (.type "str") := fun z => .base (.str z)
    cases u with
    | bend pp =>
      obtain ⟨p, rfl, q⟩ := hu
      have hp := uok.bend pp rfl
      refine ⟨_, rfl, _, _, _, _, true, rfl, .ty "tuple", tup_ty q, kit_ty (by decide +kernel), _, rfl, iteF ?_⟩
      refine ⟨_, rfl, p, _, rfl, .inr q, rfl, _, rfl, ?_⟩
      refine iteDF (fun z => absurd (V.int.inj z) (show ¬ ((2 : Nat) : Int) = 0 by decide)) ⟨_, rfl, p, _, _, _, rfl, rfl, q, rfl, _, _, _, _, true, rfl, .ty "str", str_ty _, kit_ty (by decide +kernel), _, rfl, iteF ?_⟩
      refine ⟨_, rfl, p, _, _, _, rfl, rfl, q, rfl, rfl, _, rfl, ?_⟩
      rw [decide_eq_true rfl]
      refine iteT ⟨_, rfl, p, _, rfl, .inr q, rfl, _, rfl, ?_⟩
      exact iteDT rfl ⟨_, rfl, p, _, _, _, rfl, rfl, q, rfl, _, rfl, _, _, rfl, by omega, by omega, k H (Same.refl H)⟩
    | sum c ts =>
      obtain ⟨p, xc, yt, rfl, q, rest⟩ := id hu
      refine ⟨_, rfl, _, _, _, _, true, rfl, .ty "tuple", tup_ty q, kit_ty (by decide +kernel), _, rfl, iteF ?_⟩
      refine ⟨_, rfl, p, _, rfl, .inr q, rfl, _, rfl, ?_⟩
      refine iteDF (fun z => absurd (V.int.inj z) (show ¬ ((3 : Nat) : Int) = 0 by decide)) ⟨_, rfl, p, _, _, _, rfl, rfl, q, rfl, _, _, _, _, true, rfl, .ty "str", str_ty _, kit_ty (by decide +kernel), _, rfl, iteF ?_⟩
      refine ⟨_, rfl, p, _, _, _, rfl, rfl, q, rfl, rfl, _, rfl, ?_⟩
      rw [str_sb]
      refine iteF ⟨_, rfl, p, _, _, _, rfl, rfl, q, rfl, rfl, _, rfl, ?_⟩
      rw [decide_eq_true rfl]
      exact iteT ⟨_, rfl, _, rfl, _, m, c, ts, rfl, hu, uok, k⟩
end
end BP
end


/-! A11 -/
section
set_option maxHeartbeats 4000000
namespace BP
open PySem L2
/-- what is made of a class is no part of what R speaks of -/
def InsR {α : Type} (R : Rp α) : Prop := ∀ (H : Hp) (p C dx : Addr) (fs : List (Str × V)) v x, H p = some (.ins C dx fs) → R H v x → R (hide p H) v x
def SideOk (sd : List (Rt × Rt)) : Prop := ∀ e ∈ sd, Rok e.1 ∧ Rok e.2 ∧ e.1.1 * e.2.2 ≤ e.2.1 * e.1.2
def spBoxInit (K : PySem.W.Frag) (A : Ad) : Sp := fun vs H Q _ => ∃ (Hb : Hp) (p dx : Addr) (y : V) (sd : List (Rt × Rt)), vs = [.ref p, y] ∧ Same Hb H ∧ Hb p = none ∧ H p = some (.ins A.cB dx []) ∧ rLst (rSpan K) Hb y sd ∧ 1 ≤ sd.length ∧ sd.length ≤ 6 ∧ SideOk sd ∧
  ∀ H', Same Hb H' → rBox K A H' (.ref p) sd → Q .non H'
def spNetInit (K : PySem.W.Frag) (A : Ad) : Sp := fun vs H Q _ => ∃ (Hb : Hp) (p dx : Addr) (y z : V) (N : NetD), vs = [.ref p, .int (N.many : Int), y, z] ∧ Same Hb H ∧ Hb p = none ∧ H p = some (.ins A.cN dx []) ∧ rLst (rUnit K) Hb y N.us ∧ rLst rNat Hb z N.outs ∧ NOk N ∧
  1 ≤ N.outs.length ∧ N.outs.length ≤ 12 ∧ (∀ o ∈ N.outs, o < N.many + N.us.length) ∧ ∀ H', Same Hb H' → rNet K A H' (.ref p) N → Q .non H'
section
variable {P : Program} {w : World} {K : PySem.W.Frag} {mg : Str → Option Value} {base : Heap} {A : Ad}
theorem tk_ins {H : Hp} {p C dx : Addr} {fs : List (Str × V)} (e : H p = some (.ins C dx fs)) : Tk K H (hide p H) := fun b xs h => by
  rcases h with (h | ⟨u, h⟩) | h
  · exact .inl (.inl (by rw [hide_at (ne_of h e (by intro q; cases q))]; exact h))
  · exact .inl (.inr ⟨u, by rw [hide_at (ne_of h e (by intro q; cases q))]; exact h⟩)
  · exact .inr h
theorem i_tup {α : Type} {R : Rp α} (h : TupR K R) : InsR R := fun H p C dx fs v x e r => h _ _ _ _ (tk_ins e) r
theorem i_lst {α : Type} {R : Rp α} (h : InsR R) : InsR (rLst R) := fun H p C dx fs v x e r => by
  obtain ⟨a, vs, e1, q, h1⟩ := r
  exact ⟨a, vs, e1, by rw [hide_at (ne_of q e (by intro z; cases z))]; exact q, h1.mono fun x y z => h _ _ _ _ _ _ _ e z⟩
theorem i_unit : InsR (rUnit K) := fun H p C dx fs v u e r => by
  cases u with
  | bend q =>
    obtain ⟨a, e1, h⟩ := r
    exact ⟨a, e1, tk_ins e _ _ h⟩
  | sum c ts =>
    obtain ⟨a, x, y, e1, h, h1, h2⟩ := r
    exact ⟨a, x, y, e1, tk_ins e _ _ h, t_rat _ _ _ _ (tk_ins e) h1, i_lst (i_tup t_term) _ _ _ _ _ _ _ e h2⟩
theorem hide_to {H : Hp} {p : Addr} {o : HO} : Same (hide p H) (upd H p o) := fun b u h => by
  have n : b ≠ p := fun q => by
    rw [q, hide_self] at h
    cases h
  rw [upd_ne n]
  rw [hide_at n] at h
  exact h
theorem trues {H H1 : Hp} {D : Addr} {n : Nat} (s : Same H H1) (h : rLst rTrue (fr H H1) (.ref D) (List.replicate n ())) : H1 D = some (.lst ((List.replicate n true).map V.bl)) := by
  obtain ⟨D', vs, e, hv, pv⟩ := h
  cases e
  have e1 := all_true pv
  rw [List.length_replicate] at e1
  rw [← e1]
  exact fr_sub _ _ hv
theorem m_true : MonR rTrue := fun _ _ _ _ _ h => h
theorem ok_Box___init__ (T : Txt K mg A) (F : Fns K mg A) : KeptA P w K mg base 4 A.Box___init__ ["self", "sides"] (spBoxInit K A) := keptA_of F.Box___init__ fun fd Fn => by
  refine Fn.ok sc_Box___init__ (fun vs H Q E h => ?_) (fun cdv Ar outer s H vs Q E hr h => ?_)
  · obtain ⟨Hb, p, dx, y, sd, rfl, _⟩ := h
    rfl
  · obtain ⟨Hb, p, dx, y, sd, rfl, sb, np, hp, ⟨l, us, rfl, hl, pl⟩, h1, h6, ok, k⟩ := h
    refine ⟨_, (pss_cons (ps_if (PW.pt (pw_or (pt_not (pt_val (pe_callB call_isi (by rfl) T.b_isinstance (by decide +kernel) (pa_cons (pv 1) (pa_cons (pe_bltn (v := .ty "list") rfl T.b_list (by decide +kernel) rfl) pa_nil))))) (pw_or1 (pt_not (pt_chain op_le op_le pe_int (pe_callB call_len_seq (by rfl) T.b_len PySem.boot_len (pa_cons (pv 1) pa_nil)) (pe_gi rfl T.gMOST)))))) pss_never
        pss_nil)
      (pss_cons (ps_if (pt_not (pt_val (pe_callB (cr_all rfl) (by rfl) T.b_all (by decide +kernel) (pa_cons (pe_lc (g := gName 2) (tt := tYes) (own := [("side", 2)]) (by rfl) sc_Box___init__.nd (pi_list (pv 1)) (blkOk_by (own := [("side", 2)]) (N := ["self", "sides", "side"]) (sc := defScope s_Box___init__) (by decide +kernel)) (fun _ _ _ _ _ => by exact (pg_name (i := 2) sc_Box___init__.nd rfl (Or.inl rfl))) (fun _ _ _ _ _ => pts_nil) (fun _ _ _ _ _ => (pe_k (ok_is_side T F) (hr.mono (by decide)) rfl (pa_cons (pv 2) pa_nil)))) pa_nil)))) pss_never
        pss_nil)
      (pss_one (ps_fld (pv 0) (pe_callTy call_list_of (by rfl) T.b_list (by decide +kernel) (pa_cons (pv 1) pa_nil)) rfl)))), ?_⟩
    have lu := pl.length
    have hl1 := sb _ _ hl
    refine ⟨_, rfl, _, _, _, _, true, rfl, .ty "list", lst_ty hl1, kit_ty (by decide +kernel), _, rfl, iteF ?_⟩
    refine ⟨_, rfl, l, us, rfl, .inl (SqL.of hl1), _, _, rfl, rfl, _, rfl, iteDT (by omega) ⟨_, _, rfl, rfl, _, rfl, iteNS (by omega) ?_⟩⟩
    refine ⟨_, rfl, l, rfl, ⟨us, SqL.of hl1⟩, fun D hD => lc_m (R := rTrue) m_true walk_list (List.replicate us.length ()) (by simp) (by omega) hD (fun H' s => SqL.of (s _ _ hl1)) (fun _ _ _ _ h => yat_same h) ?_ ?_⟩
    · rintro i x Hc H' z Z N hi ho sc ⟨rfl, hx⟩ hZ
      obtain ⟨e, e1, r1⟩ := pr_get pl hx
      obtain ⟨o1, o2, o3⟩ := ok e (List.mem_of_getElem? e1)
      refine ⟨rfl, ?_⟩
      exact ⟨_, rfl, x, e, rfl, t_span.mon _ _ _ _ (sb.trans sc) r1, o1, o2, o3, fun H4 s4 => hZ _ H4 s4 rfl⟩
    · rintro H2 s2 r2
      refine ⟨D, _, rfl, SqL.of (trues s2 r2), _, rfl, ?_⟩
      rw [all_id]
      have s02 := sb.trans s2
      refine iteF ⟨_, rfl, l, us, rfl, .inl (SqL.of (s02 _ _ hl)), fun q hq => ?_⟩
      have hpq : upd H2 q (.lst us) p = some (.ins A.cB dx []) := same_new hq _ _ (s2 _ _ hp)
      have s3 : Same Hb (upd H2 q (.lst us)) := s02.trans (same_new hq)
      refine ⟨_, rfl, p, A.cB, dx, _, rfl, hpq, T.cBox, T.n_sides, by show 0 < 1000; decide, ?_⟩
      have nqp : q ≠ p := (ne_of_none (s2 _ _ hp) hq).symm
      refine k _ (same_mut s3 np) ⟨p, dx, q, rfl, upd_same, q, us, rfl, by rw [upd_ne nqp, upd_same], ?_⟩
      exact p_sm t_span.mon (same_mut s3 np) pl
theorem ok_Net___init__ (T : Txt K mg A) (F : Fns K mg A) : KeptA P w K mg base 6 A.Net___init__ ["self", "many", "units", "outs"] (spNetInit K A) := keptA_of F.Net___init__ fun fd Fn => by
  refine Fn.ok sc_Net___init__ (fun vs H Q E h => ?_) (fun cdv Ar outer s H vs Q E hr h => ?_)
  · obtain ⟨Hb, p, dx, y, z, N, rfl, _⟩ := h
    rfl
  · obtain ⟨Hb, p, dx, y, z, N, rfl, sb, np, hp, ⟨lu, us, rfl, hu, pu⟩, ⟨lo, os, rfl, ho, po⟩, ok, o1, o12, oo, k⟩ := h
    refine ⟨_, (pss_cons (ps_if (PW.pt (pw_or (pt_not (pt_val (pe_k (ok_is_whole T F) (hr.mono (by decide)) rfl (pa_cons (pv 1) pa_nil)))) (pw_or1 (pt_not (pt_chain op_le op_le pe_int (pv 1) (pe_gi rfl T.gMOST_INS)))))) pss_never
        pss_nil)
      (pss_cons (ps_if (PW.pt (pw_or (pt_not (pt_val (pe_callB call_isi (by rfl) T.b_isinstance (by decide +kernel) (pa_cons (pv 2) (pa_cons (pe_bltn (v := .ty "list") rfl T.b_list (by decide +kernel) rfl) pa_nil))))) (pw_or1 (pt_cmpR op_gt (pe_callB call_len_seq (by rfl) T.b_len PySem.boot_len (pa_cons (pv 2) pa_nil)) (pe_gi rfl T.gMOST_UNITS) (nomark _))))) pss_never
        pss_nil)
      (pss_cons (ps_if (pt_not (pt_val (pe_callB (cr_all rfl) (by rfl) T.b_all (by decide +kernel) (pa_cons (pe_lc (g := gTup K 2 (gCons (gName 5) (gCons (gName 4) (gNil)))) (tt := tYes) (own := [("k", 5), ("unit", 4)]) (by rfl) sc_Net___init__.nd (pi_enum (by rfl) T.b_enumerate (pa_cons (pv 2) pa_nil)) (blkOk_by (own := [("k", 5), ("unit", 4)]) (N := ["self", "many", "units", "outs", "unit", "k", "place"]) (sc := defScope s_Net___init__) (by decide +kernel)) (fun _ _ _ _ _ => by exact (pg_tup rfl (pgs_cons (pg_name (i := 5) sc_Net___init__.nd rfl (Or.inl rfl)) (pgs_cons (pg_name (i := 4) sc_Net___init__.nd rfl (Or.inl rfl)) pgs_nil)))) (fun _ _ _ _ _ => pts_nil) (fun _ _ _ _ _ => (pe_k (ok_is_unit T F) (hr.mono (by decide)) rfl (pa_cons (pv 4) (pa_cons (pe_op op_add (pv 1) (pv 5)) pa_nil))))) pa_nil)))) pss_never
        pss_nil)
      (pss_cons (ps_if (PW.pt (pw_or (pt_not (pt_val (pe_callB call_isi (by rfl) T.b_isinstance (by decide +kernel) (pa_cons (pv 3) (pa_cons (pe_bltn (v := .ty "list") rfl T.b_list (by decide +kernel) rfl) pa_nil))))) (pw_or1 (pt_not (pt_chain op_le op_le pe_int (pe_callB call_len_seq (by rfl) T.b_len PySem.boot_len (pa_cons (pv 3) pa_nil)) (pe_gi rfl T.gMOST_OUTS)))))) pss_never
        pss_nil)
      (pss_cons (ps_if (pt_not (pt_val (pe_callB (cr_all rfl) (by rfl) T.b_all (by decide +kernel) (pa_cons (pe_lc (g := gName 6) (tt := tYes) (te := tCall spIsPlace [] E0 (tCons (tVar 6) (tCons (tOp (rI0 fun i j => .int (i + j)) (tVar 1) (tCB (rLn K) (tCons (tVar 2) tNil))) tNil))) (own := [("place", 6)]) (by rfl) sc_Net___init__.nd (pi_list (pv 3)) (blkOk_by (own := [("place", 6)]) (N := ["self", "many", "units", "outs", "unit", "k", "place"]) (sc := defScope s_Net___init__) (by decide +kernel)) (fun _ _ _ _ _ => by exact (pg_name (i := 6) sc_Net___init__.nd rfl (Or.inl rfl))) (fun _ _ _ _ _ => pts_nil) (fun _ _ _ _ _ => (pe_k (ok_is_place T F) (hr.mono (by decide)) rfl (pa_cons (pv 6) (pa_cons (pe_op op_add (pv 1) (pe_callB call_len_seq (by rfl) T.b_len PySem.boot_len (pa_cons (pv 2) pa_nil))) pa_nil))))) pa_nil)))) pss_never
        pss_nil)
      (pss_cons (ps_fld (pv 0) (pv 1) rfl)
      (pss_cons (ps_fld (pv 0) (pe_lc (g := gName 4) (tt := tYes) (own := [("unit", 4)]) (by rfl) sc_Net___init__.nd (pi_list (pv 2)) (blkOk_by (own := [("unit", 4)]) (N := ["self", "many", "units", "outs", "unit", "k", "place"]) (sc := defScope s_Net___init__) (by decide +kernel)) (fun _ _ _ _ _ => by exact (pg_name (i := 4) sc_Net___init__.nd rfl (Or.inl rfl))) (fun _ _ _ _ _ => pts_nil) (fun _ _ _ _ _ => (pe_k (ok_copied_unit T F) (hr.mono (by decide)) rfl (pa_cons (pv 4) pa_nil)))) rfl)
      (pss_cons (ps_fld (pv 0) (pe_callTy call_list_of (by rfl) T.b_list (by decide +kernel) (pa_cons (pv 3) pa_nil)) rfl)
      (pss_one (ps_if (pt_cmpR op_gt (pe_callB call_len_seq (by rfl) T.b_len PySem.boot_len (pa_cons (pe_m0 (pv 0) T.cNet T.m_Net_bends (ok_Net_bends T F) (hr.mono (by decide))) pa_nil)) (pe_gi rfl T.gMOST_BENDS) (nomark _)) pss_never
        pss_nil)))))))))), ?_⟩
    have l1 := pu.length
    have l2 := po.length
    have okf := ok.few
    have ok1 := ok.m1
    have ok6 := ok.m6
    have hu1 := sb _ _ hu
    have ho1 := sb _ _ ho
    refine ⟨_, rfl, _, rfl, _, rfl, iteF ⟨_, rfl, _, _, rfl, rfl, _, rfl, iteDT (by omega) ⟨_, _, rfl, rfl, _, rfl, iteNS (by omega) ?_⟩⟩⟩
    refine ⟨_, rfl, _, _, _, _, true, rfl, .ty "list", lst_ty hu1, kit_ty (by decide +kernel), _, rfl, iteF ?_⟩
    refine ⟨_, rfl, lu, us, rfl, .inl (SqL.of hu1), _, _, rfl, rfl, _, rfl, iteDF (by omega) ?_⟩
    refine ⟨_, rfl, lu, us, rfl, SqL.of hu1, fun D hD => lc_m (R := rTrue) m_true L2.walk_enum (List.replicate us.length ()) (by simp) (by omega) hD (fun H' s => SqL.of (s _ _ hu1)) (fun _ _ _ _ h => ypair_same h) ?_ ?_⟩
    · rintro i x Hc H' z Z Nx hi ho2 sc ⟨T1, a, b, rfl, hT, rfl, ha, hb⟩ hZ
      cases ha
      obtain ⟨u, e1, r1⟩ := pr_get pu hb
      have sT : Same Hc (upd Hc T1 (.tup [.int (i : Nat), b])) := same_new hT
      refine ⟨T1, _, rfl, SqT.of upd_same, rfl, _, _, rfl, _, _, rfl, rfl, rfl, ?_⟩
      exact ⟨_, rfl, _, rfl, _, rfl, _, _, rfl, rfl, b, N.many + i, u, by show [b, V.int ((N.many : Int) + (i : Int))] = _; rw [← Int.natCast_add], m_unit _ _ _ _ ((sb.trans sc).trans sT) r1, ok.ok i u e1, fun H4 s4 => hZ _ H4 s4 rfl⟩
    · rintro H2 s2 r2
      refine ⟨D, _, rfl, SqL.of (trues s2 r2), _, rfl, ?_⟩
      rw [all_id]
      have ho2 := s2 _ _ ho1
      refine iteF ⟨_, rfl, _, _, _, _, true, rfl, .ty "list", lst_ty ho2, kit_ty (by decide +kernel), _, rfl, iteF ?_⟩
      refine ⟨_, rfl, lo, os, rfl, .inl (SqL.of ho2), _, _, rfl, rfl, _, rfl, iteDT (by omega) ⟨_, _, rfl, rfl, _, rfl, iteNS (by omega) ?_⟩⟩
      refine ⟨_, rfl, lo, rfl, ⟨os, SqL.of ho2⟩, fun D2 hD2 => lc_m (R := rTrue) m_true walk_list (List.replicate os.length ()) (by simp) (by omega) hD2 (fun H' s => SqL.of (s _ _ ho2)) (fun _ _ _ _ h => yat_same h) ?_ ?_⟩
      · rintro i x Hc H' z Z Nx hi ho3 sc ⟨rfl, hx⟩ hZ
        obtain ⟨q, e1, r1⟩ := pr_get po hx
        have r1' : x = .int (q : Int) := r1
        subst r1'
        have hq := oo q (List.mem_of_getElem? e1)
        refine ⟨rfl, ?_⟩
        exact ⟨_, rfl, _, rfl, _, rfl, lu, us, rfl, .inl (SqL.of ((s2.trans sc) _ _ hu1)), _, _, rfl, rfl, _, _, rfl, by omega, by omega, hZ _ _ (Same.refl _) rfl⟩
      · rintro H3 s3 r3
        refine ⟨D2, _, rfl, SqL.of (trues s3 r3), _, rfl, ?_⟩
        rw [all_id]
        have s13 := s2.trans s3
        have sb3 := sb.trans s13
        refine iteF ⟨_, rfl, _, rfl, p, A.cN, dx, _, rfl, s13 _ _ hp, T.cNet, T.n_many, by show 0 < 1000; decide, ?_⟩
        -- self.units
        have sb4 : Same Hb (upd H3 p (.ins A.cN dx (putF "many" (.int (N.many : Int)) []))) := same_mut sb3 np
        generalize hH4 : upd H3 p (.ins A.cN dx (putF "many" (.int (N.many : Int)) [])) = H4 at sb4 ⊢
        have hp4 : H4 p = some (.ins A.cN dx (putF "many" (.int (N.many : Int)) [])) := by rw [← hH4, upd_same]
        have hu4 := sb4 _ _ hu
        refine ⟨_, rfl, lu, rfl, ⟨us, SqL.of hu4⟩, fun D3 hD3 => lc_m (R := rUnit K) m_unit walk_list N.us (by omega) (by omega) hD3 (fun H' s => SqL.of (s _ _ hu4)) (fun _ _ _ _ h => yat_same h) ?_ ?_⟩
        · rintro i x Hc H' u Z Nx hi ho3 sc ⟨rfl, hx⟩ hZ
          obtain ⟨u', e1, q1⟩ := pr_get pu hx
          rw [e1] at ho3
          cases ho3
          refine ⟨rfl, ?_⟩
          exact ⟨_, rfl, x, u, rfl, m_unit _ _ _ _ (sb4.trans sc) q1, fun H5 v s5 r => hZ v H5 s5 r⟩
        · rintro H5 s5 r5
          have hp5 := s5 _ _ hp4
          have sb5 := sb4.trans s5
          refine ⟨_, rfl, p, A.cN, dx, _, rfl, hp5, T.cNet, T.n_units, Nat.lt_of_le_of_lt (length_putF _ _ _) (by decide), ?_⟩
          have ru : rLst (rUnit K) (hide p H5) (.ref D3) N.us := i_lst i_unit _ _ _ _ _ _ _ hp5 (m_units _ _ _ _ fr_sub r5)
          have sb6 : Same Hb (upd H5 p (.ins A.cN dx (putF "units" (.ref D3) (putF "many" (.int (N.many : Int)) [])))) := same_mut sb5 np
          have ru6 := m_units _ _ _ _ (hide_to (o := .ins A.cN dx (putF "units" (.ref D3) (putF "many" (.int (N.many : Int)) [])))) ru
          generalize hH6 : upd H5 p (.ins A.cN dx (putF "units" (.ref D3) (putF "many" (.int (N.many : Int)) []))) = H6 at sb6 ru6 ⊢
          have hp6 : H6 p = some (.ins A.cN dx (putF "units" (.ref D3) (putF "many" (.int (N.many : Int)) []))) := by rw [← hH6, upd_same]
          -- self.outs
          refine ⟨_, rfl, lo, os, rfl, .inl (SqL.of (sb6 _ _ ho)), fun q hq => ?_⟩
          have s67 : Same H6 (upd H6 q (.lst os)) := same_new hq
          have hp7 := s67 _ _ hp6
          refine ⟨_, rfl, p, A.cN, dx, _, rfl, hp7, T.cNet, T.n_outs, Nat.lt_of_le_of_lt (length_putF _ _ _) (Nat.lt_of_le_of_lt (Nat.add_le_add_right (length_putF _ _ _) 1) (by decide)), ?_⟩
          have nqp : q ≠ p := (ne_of_none hp6 hq).symm
          have ru8 := m_units _ _ _ _ (hide_to (o := .ins A.cN dx (ntf N.many D3 q))) (i_lst i_unit _ _ _ _ _ _ _ hp7 (m_units _ _ _ _ s67 ru6))
          have sb8 : Same Hb (upd (upd H6 q (.lst os)) p (.ins A.cN dx (ntf N.many D3 q))) := same_mut (sb6.trans s67) np
          have net : rNet K A (upd (upd H6 q (.lst os)) p (.ins A.cN dx (ntf N.many D3 q))) (.ref p) N := ⟨p, dx, D3, q, rfl, upd_same, ru8, q, os, rfl, by rw [upd_ne nqp, upd_same], po.mono fun _ _ h => h⟩
          have hp8 : upd (upd H6 q (.lst os)) p (.ins A.cN dx (ntf N.many D3 q)) p = some (.ins A.cN dx (ntf N.many D3 q)) := upd_same
          show (_ : L2.St → Hp → Prop) _ (upd (upd H6 q (.lst os)) p (.ins A.cN dx (ntf N.many D3 q)))
          generalize upd (upd H6 q (.lst os)) p (.ins A.cN dx (ntf N.many D3 q)) = H8 at sb8 net hp8 ⊢
          refine ⟨_, rfl, p, dx, _, rfl, hp8, ntf_no (by decide +kernel) (by decide +kernel) (by decide +kernel), _, N, rfl, net, okf, ?_⟩
          rintro H9 v9 s9 ⟨b, bs, rfl, hb, pb⟩
          have lb := pb.length
          rw [bendsAt_len] at lb
          have bn := bendsN_le N.us
          refine ⟨b, bs, rfl, .inl (SqL.of (fr_sub _ _ hb)), _, _, rfl, rfl, _, rfl, iteDF (by omega) ?_⟩
          exact k H9 (sb8.trans s9) (m_net _ _ _ _ s9 net)
end
end BP
end


/-! A12 -/
section
set_option maxHeartbeats 4000000
namespace BP
open PySem L2
/-- the ways of a statement joined: J holds behind each of them -/
def tJ (t : TS) : TS := fun D σ H => ∃ J : L2.St → Hp → Prop, t { D with nx := J } σ H ∧ ∀ σ' H', J σ' H' → D.nx σ' H'
theorem ps_j {X : Cx} {st : Stmt} {t : TS} (h : PS X st t) : PS X st (tJ t) := by
  refine ⟨fun pins s σ H D I q => ?_⟩
  obtain ⟨J, q, k⟩ := q
  refine thn (h.run pins s σ H { D with nx := J } I q) fun f s1 q1 => ?_
  cases f with
  | next =>
    obtain ⟨σ', H', I', q'⟩ := q1
    exact ⟨σ', H', I', k σ' H' q'⟩
  | brk => exact q1
  | cont => exact q1
  | ret v => exact q1
def spCell (K : PySem.W.Frag) : Sp := fun vs H Q _ => ∃ (a : Addr) (ns : List Int) (k : Nat), vs = [.ref a, .int (k : Int)] ∧ SqL K H a (ns.map V.int) ∧ ∀ i : Int, Q (.int i) H
def spMixed : Sp := fun vs H Q _ => ∃ c k : Int, vs = [.int c, .int k] ∧ ∀ r : Int, 0 ≤ r → r < 2 ^ 31 → Q (.int r) H
def spWide : Sp := fun vs H Q _ => ∃ n k : Int, vs = [.int n, .int k] ∧ ∀ r : Int, 0 ≤ r → Q (.int r) H
def spSeeds (K : PySem.W.Frag) : Sp := fun vs H Q _ => ∃ (a : Addr) (ns : List Int) (st many : Nat), vs = [.ref a, .int (st : Int), .int (many : Int)] ∧ SqL K H a (ns.map V.int) ∧ many ≤ 100 ∧
  ∀ H' p (rs : List Int), Same H H' → H p = none → rs.length = many → (∀ r ∈ rs, 0 ≤ r) → H' p = some (.lst (rs.map V.int)) → Q (.ref p) H'
def spTaken (K : PySem.W.Frag) : Sp := fun vs H Q _ => ∃ (n : Int) (g : Bool), vs = [.int n, .bl g] ∧ 0 ≤ n ∧ ∀ H' v (n' : Int) (r : Rt), Same H H' → 0 ≤ n' → Sh r → (g = false → Bd 12 6 r) → rPair K rInt (rRat K) H' v (n', r) → Q v H'
def spSmall (K : PySem.W.Frag) : Sp := fun vs H Q _ => ∃ (n : Int) (g : Bool), vs = [.int n, .bl g] ∧ 0 ≤ n ∧ ∀ H' v (r : Rt), Same H H' → Sh r → (g = false → Bd 12 6 r) → rRat K H' v r → Q v H'
section
variable {P : Program} {w : World} {K : PySem.W.Frag} {mg : Str → Option Value} {base : Heap} {A : Ad}
theorem ok__law_cell_at (T : Txt K mg A) (F : Fns K mg A) : Kept P w K mg base 1 "_law_cell_at" ["_law_script", "_law_k"] (spCell K) := kept_of F._law_cell_at fun f fd Fn => by
  refine Fn.ok sc__law_cell_at (fun vs H Q E h => ?_) (fun cdv Ar outer s H vs Q E hr h => ?_)
  · obtain ⟨a, ns, j, rfl, _⟩ := h
    rfl
  · obtain ⟨a, ns, j, rfl, hs, k⟩ := h
    refine ⟨_, (pss_cons (ps_if (pt_cmpR op_lt (pv 1) (pe_callB call_len_seq (by rfl) T.b_len PySem.boot_len (pa_cons (pv 0) pa_nil)) (nomark _)) (pss_one (ps_ret (pe_ix ix_list (pv 0) (pv 1) (fun _ _ => rfl))))
        pss_nil)
      (pss_one (ps_ret pe_int))), ?_⟩
    refine ⟨_, rfl, _, rfl, a, _, rfl, .inl hs, _, _, rfl, rfl, _, rfl, ?_⟩
    refine ite2 (fun e => ?_) (fun e => k 0)
    have hj : j < ns.length := by
      have := of_decide_eq_true e
      rw [List.length_map] at this
      omega
    refine ⟨_, rfl, _, rfl, a, _, _, .int ns[j], rfl, rfl, hs, atI_nat (j := j) ?_, k _⟩
    rw [List.getElem?_map, List.getElem?_eq_getElem hj]
    rfl
theorem ok__law_mixed (T : Txt K mg A) (F : Fns K mg A) : Kept P w K mg base 1 "_law_mixed" ["_law_cell", "_law_k"] spMixed := kept_of F._law_mixed fun f fd Fn => by
  refine Fn.ok sc__law_mixed (fun vs H Q E h => ?_) (fun cdv Ar outer s H vs Q E hr h => ?_)
  · obtain ⟨c, j, rfl, _⟩ := h
    rfl
  · obtain ⟨c, j, rfl, k⟩ := h
    refine ⟨_, (pss_cons (ps_set (i := 2) sc__law_mixed.nd rfl (Or.inl rfl) (pe_op op_mod (pe_op op_add (pe_op op_add (pe_op op_mod (pv 0) pe_int) (pe_op op_mul pe_int (pv 1))) pe_int) pe_int))
      (pss_cons (ps_set (i := 2) sc__law_mixed.nd rfl (Or.inl rfl) (pe_op op_mod (pe_op op_mul (pe_op op_add (pv 2) pe_int) (pe_op op_add (pe_op op_add (pv 2) pe_int) (pv 1))) pe_int))
      (pss_one (ps_ret (pe_op op_fdiv (pe_op op_mod (pe_op op_mul (pv 2) (pe_op op_add (pv 2) pe_int)) pe_int) pe_int))))), ?_⟩
    refine ⟨_, rfl, _, _, rfl, rfl, by show (0 : Int) < 2147483647; decide, _, rfl, _, _, rfl, rfl, .inl ⟨by decide, by decide⟩, _, _, rfl, rfl, _, _, rfl, rfl, _, _, rfl, rfl, by show (0 : Int) < 2147483629; decide, ?_⟩
    have a1 := Int.emod_nonneg (c % 2147483647 + 16807 * j + 7) (show (2147483629 : Int) ≠ 0 by decide)
    have a2 := Int.emod_lt_of_pos (c % 2147483647 + 16807 * j + 7) (show (0 : Int) < 2147483629 by decide)
    refine gname_eq (i := 2) (v' := .int ((c % 2147483647 + 16807 * j + 7) % 2147483629)) rfl ?_
    generalize (c % 2147483647 + 16807 * j + 7) % 2147483629 = n1 at a1 a2 ⊢
    refine ⟨_, rfl, _, _, rfl, rfl, _, rfl, _, _, rfl, rfl, _, rfl, _, _, rfl, rfl, _, _, rfl, rfl, .inl ⟨by omega, by omega⟩, _, _, rfl, rfl, by show (0 : Int) < 2147483587; decide, ?_⟩
    have b1 := Int.emod_nonneg ((n1 + 48271) * (n1 + 69621 + j)) (show (2147483587 : Int) ≠ 0 by decide)
    have b2 := Int.emod_lt_of_pos ((n1 + 48271) * (n1 + 69621 + j)) (show (0 : Int) < 2147483587 by decide)
    refine gname_eq (i := 2) (v' := .int ((n1 + 48271) * (n1 + 69621 + j) % 2147483587)) rfl ?_
    generalize (n1 + 48271) * (n1 + 69621 + j) % 2147483587 = n2 at b1 b2 ⊢
    refine ⟨_, rfl, _, rfl, _, _, rfl, rfl, _, _, rfl, rfl, .inl ⟨by omega, by omega⟩, _, _, rfl, rfl, by show (0 : Int) < 2147483579; decide, _, _, rfl, rfl, ⟨by decide, by decide⟩, ?_⟩
    have c1 := Int.emod_nonneg (n2 * (n2 + 40692)) (show (2147483579 : Int) ≠ 0 by decide)
    have c2 := Int.emod_lt_of_pos (n2 * (n2 + 40692)) (show (0 : Int) < 2147483579 by decide)
    refine k (n2 * (n2 + 40692) % 2147483579 / 5) ?_ ?_ <;> omega
theorem ok__law_wide (T : Txt K mg A) (F : Fns K mg A) : Kept P w K mg base 2 "_law_wide" ["_law_number", "_law_k"] spWide := kept_of F._law_wide fun f fd Fn => by
  refine Fn.ok sc__law_wide (fun vs H Q E h => ?_) (fun cdv Ar outer s H vs Q E hr h => ?_)
  · obtain ⟨c, j, rfl, _⟩ := h
    rfl
  · obtain ⟨n, j, rfl, k⟩ := h
    refine ⟨_, (pss_cons (ps_set (i := 2) sc__law_wide.nd rfl (Or.inl rfl) pe_int)
      (pss_cons (ps_for PassesOwn.never rfl (pi_range1 (by rfl) T.b_range (pa_cons pe_int pa_nil)) (pg_name (i := 3) sc__law_wide.nd rfl (Or.inl rfl))
        (pss_one (ps_set (i := 2) sc__law_wide.nd rfl (Or.inl rfl) (pe_op op_add (pe_op op_mul (pv 2) (pe_op op_pow pe_int pe_int)) (pe_op op_mod (pe_k (ok__law_mixed T F) (hr.mono (by decide)) rfl (pa_cons (pv 0) (pa_cons (pe_op op_add (pe_op op_mul pe_int (pv 1)) (pv 3)) pa_nil))) (pe_op op_pow pe_int pe_int))))))
      (pss_one (ps_ret (pv 2))))), ?_⟩
    refine ⟨6, rfl, by decide, by decide, for_range (lo := 0) (n := 6) (fun i σ H' => ∃ (z : Int) (v : Option V), σ = [some (.int n), some (.int j), some (.int z), v] ∧ 0 ≤ z ∧ H' = H) ⟨0, none, rfl, by decide, rfl⟩ ?_ ?_⟩
    · rintro i σ H' hi ⟨z, v, rfl, hz, rfl⟩
      refine ⟨_, rfl, _, _, rfl, rfl, ⟨by decide, by decide, by decide⟩, _, _, rfl, rfl, .inr ⟨by decide +kernel, by decide +kernel⟩, _, rfl, _, rfl, _, _, rfl, rfl, .inl ⟨by decide, by decide⟩, _, rfl, _, _, rfl, rfl, n, _, rfl, fun r h0 h1 => ?_⟩
      refine ⟨_, _, rfl, rfl, ⟨by decide, by decide, by decide⟩, _, _, rfl, rfl, by show (0 : Int) < 10 ^ (8 : Int).toNat; decide +kernel, _, _, rfl, rfl, ?_⟩
      refine ⟨z * 10 ^ (8 : Int).toNat + r % 10 ^ (8 : Int).toNat, _, rfl, ?_, rfl⟩
      have p8 : (0 : Int) < 10 ^ (8 : Int).toNat := by decide +kernel
      have m1 := Int.mul_nonneg hz (Int.le_of_lt p8)
      have m2 := Int.emod_nonneg r (Int.ne_of_gt p8)
      omega
    · rintro σ H' ⟨z, v, rfl, hz, rfl⟩
      exact ⟨_, rfl, k z hz⟩
theorem cut_ints {ns : List Int} {lo hi : Option Int} : ∃ ms : List Int, cutV (ns.map V.int) lo hi = ms.map V.int := by
  unfold cutV
  rw [← List.map_drop, ← List.map_take]
  exact ⟨_, rfl⟩
theorem ok__law_seeds (T : Txt K mg A) (F : Fns K mg A) : Kept P w K mg base 3 "_law_seeds" ["_law_script", "_law_start", "_law_many_here"] (spSeeds K) := kept_of F._law_seeds fun f fd Fn => by
  refine Fn.ok sc__law_seeds (fun vs H Q E h => ?_) (fun cdv Ar outer s H vs Q E hr h => ?_)
  · obtain ⟨a, ns, st, many, rfl, _⟩ := h
    rfl
  · obtain ⟨a, ns, st, many, rfl, hs, hm, k⟩ := h
    refine ⟨_, (pss_cons (ps_set (i := 3) sc__law_seeds.nd rfl (Or.inl rfl) (pe_k (ok__law_cell_at T F) (hr.mono (by decide)) rfl (pa_cons (pv 0) (pa_cons (pv 1) pa_nil))))
      (pss_cons (ps_set (i := 4) sc__law_seeds.nd rfl (Or.inl rfl) pe_int)
      (pss_cons (ps_j (ps_if (pt_cmpR op_eq (pe_op op_mod (pv 3) pe_int) pe_int (nomark _)) (pss_one (ps_set (i := 4) sc__law_seeds.nd rfl (Or.inl rfl) (pe_op op_fdiv (pe_callB call_abs (by rfl) T.b_abs (by decide +kernel) (pa_cons (pv 3) pa_nil)) pe_int)))
        pss_nil))
      (pss_cons (ps_for PassesOwn.never rfl (pi_enum (by rfl) T.b_enumerate (pa_cons (pe_slice sl_list (pv 0) (po_some (pv 1)) po_none) pa_nil)) (pg_tup rfl (pgs_cons (pg_name (i := 5) sc__law_seeds.nd rfl (Or.inl rfl)) (pgs_cons (pg_name (i := 6) sc__law_seeds.nd rfl (Or.inl rfl)) pgs_nil)))
        (pss_one (ps_set (i := 3) sc__law_seeds.nd rfl (Or.inl rfl) (pe_op op_mod (pe_op op_add (pe_op op_mul (pv 3) pe_int) (pe_k (ok__law_mixed T F) (hr.mono (by decide)) rfl (pa_cons (pv 6) (pa_cons (pv 5) pa_nil)))) pe_int))))
      (pss_cons (ps_set (i := 7) sc__law_seeds.nd rfl (Or.inl rfl) (pe_lst pa_nil))
      (pss_cons (ps_for PassesOwn.never rfl (pi_range1 (by rfl) T.b_range (pa_cons (pv 2) pa_nil)) (pg_name (i := 8) sc__law_seeds.nd rfl (Or.inl rfl))
        (pss_cons (ps_j (ps_if (pt_cmpR op_gt (pv 4) (pe_op op_pow pe_int pe_int) (nomark _)) (pss_one (ps_expr (pe_bm PySem.F.plainAttrs_list PySem.F.slot_list_append PySem.F.type_list_append mt_append (pv 7) (pa_cons (pe_op op_mod (pv 4) (pe_op op_pow pe_int pe_int)) pa_nil))))
          (pss_one (ps_expr (pe_bm PySem.F.plainAttrs_list PySem.F.slot_list_append PySem.F.type_list_append mt_append (pv 7) (pa_cons (pe_k (ok__law_wide T F) (hr.mono (by decide)) rfl (pa_cons (pe_op op_add (pv 3) (pe_op op_mul pe_int (pv 8))) (pa_cons (pv 8) pa_nil))) pa_nil))))))
        (pss_one (ps_set (i := 4) sc__law_seeds.nd rfl (Or.inl rfl) (pe_op op_fdivW (pv 4) (pe_op op_pow pe_int pe_int))))))
      (pss_one (ps_ret (pv 7))))))))), ?_⟩
    refine ⟨_, rfl, _, rfl, a, ns, st, rfl, hs, fun t0 => ?_⟩
    refine ⟨fun σ H' => ∃ z : Int, σ = [some (.ref a), some (.int (st : Int)), some (.int (many : Int)), some (.int t0), some (.int z), none, none, none, none] ∧ 0 ≤ z ∧ H' = H, ?_, ?_⟩
    · refine ⟨_, rfl, _, _, rfl, rfl, by show (0 : Int) < 3; decide, rfl, _, rfl, ?_⟩
      refine ite2 (fun e => ?_) (fun e => ⟨0, rfl, by decide, rfl⟩)
      refine ⟨_, rfl, _, rfl, _, _, rfl, rfl, ⟨by decide, by decide⟩, _, rfl, ?_, rfl⟩
      rw [abs_if]
      omega
    · rintro σ H' ⟨z, rfl, hz, rfl⟩
      obtain ⟨ms, ems⟩ := cut_ints (ns := ns) (lo := some (st : Int)) (hi := none)
      refine ⟨_, rfl, _, rfl, _, rfl, a, _, rfl, hs, fun p hp => ?_⟩
      have sp : Same H' (upd H' p (.lst (cutV (ns.map V.int) (some (st : Int)) none))) := same_new hp
      have hpm : upd H' p (.lst (cutV (ns.map V.int) (some (st : Int)) none)) p = some (.lst (ms.map V.int)) := by rw [upd_same, ems]
      generalize upd H' p (.lst (cutV (ns.map V.int) (some (st : Int)) none)) = H1 at sp hpm ⊢
      refine ⟨p, _, rfl, SqL.of hpm, for_it L2.walk_enum (fun i σ Hc => ∃ (t : Int) (v5 v6 : Option V), σ = [some (.ref a), some (.int (st : Int)), some (.int (many : Int)), some (.int t), some (.int z), v5, v6, none, none] ∧ Same H1 Hc)
        ⟨t0, none, none, rfl, Same.refl _⟩ (fun i σ Hc _ ⟨_, _, _, _, s⟩ => SqL.of (s _ _ hpm)) ?_ ?_⟩
      · rintro i x σ Hc Hd hi ⟨t, v5, v6, rfl, sc⟩ ⟨T1, u, v, rfl, hT, rfl, hu, hv⟩
        cases hu
        obtain ⟨c, rfl⟩ : ∃ c, v = V.int c := by
          have hv' : (ms.map V.int)[i]? = some v := hv
          rw [List.getElem?_map] at hv'
          cases e : ms[i]? with
          | none =>
            rw [e] at hv'
            cases hv'
          | some c =>
            rw [e] at hv'
            exact ⟨c, (Option.some.inj hv').symm⟩
        refine ⟨T1, _, rfl, SqT.of upd_same, rfl, _, _, rfl, _, _, rfl, rfl, ?_⟩
        refine ⟨_, rfl, _, _, rfl, rfl, .inr ⟨by decide, by decide⟩, _, rfl, _, rfl, c, _, rfl, fun r h0 h1 => ?_⟩
        exact ⟨_, _, rfl, rfl, _, _, rfl, rfl, by show (0 : Int) < 999999999989; decide, _, _, _, rfl, sc.trans (same_new hT)⟩
      · rintro σ H2 ⟨t, v5, v6, rfl, s2⟩
        have s02 := sp.trans s2
        refine ⟨Nat.zero_le _, fun l hl => ?_⟩
        have nl : H' l = none := s02.free hl
        refine ⟨_, rfl, (many : Int), rfl, by omega, by omega, for_range (lo := 0) (n := (many : Int).toNat) (fun i σ Hc => ∃ (z : Int) (v8 : Option V) (rs : List Int), σ = [some (.ref a), some (.int (st : Int)), some (.int (many : Int)), some (.int t), some (.int z), v5, v6, some (.ref l), v8] ∧
          0 ≤ z ∧ Same H' Hc ∧ rs.length = i ∧ (∀ r ∈ rs, 0 ≤ r) ∧ Hc l = some (.lst (rs.map V.int))) ⟨z, none, [], rfl, hz, s02.trans (same_new hl), rfl, List.forall_mem_nil _, upd_same⟩ ?_ ?_⟩
        · rintro i σ Hc hi ⟨z, v8, rs, rfl, hz, sc, hl2, hr2, hc⟩
          have hlen : (rs.map V.int).length < sizeLine := by
            rw [List.length_map]
            exact Nat.lt_of_le_of_lt (show rs.length ≤ 100 by omega) (by decide)
          have p48 : (0 : Int) < 10 ^ (48 : Int).toNat := by decide +kernel
          -- a number is appended
          have push : ∀ r : Int, 0 ≤ r → ∃ (rs' : List Int), (upd Hc l (.lst (rs.map V.int ++ [.int r]))) l = some (.lst (rs'.map V.int)) ∧ rs'.length = i + 1 ∧ (∀ q ∈ rs', 0 ≤ q) ∧ Same H' (upd Hc l (.lst (rs.map V.int ++ [.int r]))) := fun r h0 => by
            refine ⟨rs ++ [r], by rw [upd_same, List.map_append]; rfl, by rw [List.length_append, hl2]; rfl, fun q hq => ?_, same_mut sc nl⟩
            rcases List.mem_append.mp hq with hq | hq
            · exact hr2 q hq
            · rw [List.mem_singleton.mp hq]
              exact h0
          refine ⟨fun σ Hd => ∃ rs' : List Int, σ = [some (.ref a), some (.int (st : Int)), some (.int (many : Int)), some (.int t), some (.int z), v5, v6, some (.ref l), some (.int (0 + (i : Int)))] ∧ Hd l = some (.lst (rs'.map V.int)) ∧ rs'.length = i + 1 ∧ (∀ q ∈ rs', 0 ≤ q) ∧ Same H' Hd, ?_, ?_⟩
          · refine ⟨_, rfl, _, _, rfl, rfl, ⟨by decide, by decide, by decide⟩, _, _, rfl, rfl, _, rfl, ?_⟩
            refine ite2 (fun e => ?_) (fun e => ?_)
            · refine ⟨_, rfl, .inl ⟨rfl, _, SqL.of hc⟩, _, rfl, _, _, rfl, rfl, ⟨by decide, by decide, by decide⟩, _, _, rfl, rfl, p48, l, _, _, rfl, rfl, hc, hlen, ?_⟩
              obtain ⟨rs', q1, q2, q3, q4⟩ := push (z % 10 ^ (48 : Int).toNat) (Int.emod_nonneg _ (Int.ne_of_gt p48))
              exact ⟨rs', rfl, q1, q2, q3, q4⟩
            · refine ⟨_, rfl, .inl ⟨rfl, _, SqL.of hc⟩, _, rfl, _, rfl, _, _, rfl, rfl, .inl ⟨by decide, by decide⟩, _, _, rfl, rfl, _, rfl, _, _, rfl, fun r h0 => ?_⟩
              refine ⟨l, _, _, rfl, rfl, hc, hlen, ?_⟩
              obtain ⟨rs', q1, q2, q3, q4⟩ := push r h0
              exact ⟨rs', rfl, q1, q2, q3, q4⟩
          · rintro σ Hd ⟨rs', rfl, q1, q2, q3, q4⟩
            refine ⟨_, rfl, _, _, rfl, rfl, ⟨by decide, by decide, by decide⟩, _, _, rfl, rfl, ⟨p48, by decide +kernel⟩, ?_⟩
            exact ⟨z / 10 ^ (48 : Int).toNat, _, rs', rfl, Int.ediv_nonneg hz (Int.le_of_lt p48), q4, q2, q3, q1⟩
        · rintro σ Hc ⟨z, v8, rs, rfl, hz, sc, hl2, hr2, hc⟩
          exact ⟨_, rfl, k Hc l rs sc nl (by omega) hr2 hc⟩
end
end BP
end


/-! A13 -/
section
set_option maxHeartbeats 4000000
namespace BP
open PySem L2
theorem pick6 {y : Int} (h0 : 0 ≤ y) (h1 : y < 6) : ∃ b : Int, atI [V.int 1, .int 1, .int 1, .int 2, .int 3, .int 4] y = some (.int b) ∧ (b = 1 ∨ b = 2 ∨ b = 3 ∨ b = 4) := by
  rcases (show y = 0 ∨ y = 1 ∨ y = 2 ∨ y = 3 ∨ y = 4 ∨ y = 5 by omega) with e | e | e | e | e | e <;> subst e
  · exact ⟨1, rfl, by decide⟩
  · exact ⟨1, rfl, by decide⟩
  · exact ⟨1, rfl, by decide⟩
  · exact ⟨2, rfl, by decide⟩
  · exact ⟨3, rfl, by decide⟩
  · exact ⟨4, rfl, by decide⟩
theorem pick3 {y : Int} (h0 : 0 ≤ y) (h1 : y < 3) : ∃ b : Int, atI [V.int 1, .int 7, .int (10 ^ (9 : Int).toNat)] y = some (.int b) ∧ (b = 1 ∨ b = 7 ∨ b = 1000000000) := by
  rcases (show y = 0 ∨ y = 1 ∨ y = 2 by omega) with e | e | e <;> subst e
  · exact ⟨1, rfl, by decide⟩
  · exact ⟨7, rfl, by decide⟩
  · refine ⟨10 ^ (9 : Int).toNat, rfl, .inr (.inr (by decide +kernel))⟩
theorem bd_small {t b : Int} (h0 : -6 ≤ t) (h1 : t ≤ 6) (hb : b = 1 ∨ b = 2 ∨ b = 3 ∨ b = 4) : Bd 12 6 (mk t b) := by
  have p : 0 < b := by omega
  refine mk_bd p ?_ ?_
  · refine Nat.dvd_trans ?_ (Nat.dvd_mul_right ..)
    rcases hb with e | e | e | e <;> subst e <;> decide
  · have : t.natAbs ≤ 6 := by omega
    exact Nat.le_trans this (Nat.le_mul_of_pos_right _ (by omega))
theorem bd_great {t b : Int} (h0 : t.natAbs ≤ SS) (hb : b = 1 ∨ b = 7 ∨ b = 1000000000) : Sh (mk t b) := by
  have p : 0 < b := by omega
  refine mk_bd p ?_ ?_
  · refine Nat.dvd_trans ?_ (Nat.dvd_mul_right ..)
    rcases hb with e | e | e <;> subst e <;> decide
  · exact Nat.le_trans h0 (Nat.le_mul_of_pos_right _ (by omega))
theorem Bd.sh {r : Rt} (h : Bd 12 6 r) : Sh r := h.mono (by decide) (by decide)
theorem small89 {b : Int} (h0 : 0 < b) (h1 : b ≤ 1000000000) : b.natAbs < 2 ^ 8900 := two89 (n := 40) (by decide) (by show b.natAbs < 1099511627776; omega)
theorem erase_map {α β : Type} (f : α → β) : ∀ (l : List α) (j : Nat), (l.map f).eraseIdx j = (l.eraseIdx j).map f
  | [], _ => by simp
  | _ :: _, 0 => by simp
  | a :: r, j + 1 => by
    have ih := erase_map f r j
    simp [ih]
def nV (n : Nat) : V := .int (n : Int)
def spUnit (K : PySem.W.Frag) : Sp := fun vs H Q _ => ∃ (n : Int) (k : Nat) (bent g : Bool), vs = [.int n, .int (k : Int), .bl bent, .bl g] ∧ 0 ≤ n ∧ 1 ≤ k ∧ k ≤ 20 ∧ ∀ H' v u, Same H H' → UOk k u → rUnit K (fr H H') v u → Q v H'
section
variable {P : Program} {w : World} {K : PySem.W.Frag} {mg : Str → Option Value} {base : Heap} {A : Ad}
theorem ok__law_taken (T : Txt K mg A) (F : Fns K mg A) : Kept P w K mg base 2 "_law_taken" ["_law_number", "_law_great"] (spTaken K) := kept_of F._law_taken fun f fd Fn => by
  refine Fn.ok sc__law_taken (fun vs H Q E h => ?_) (fun cdv Ar outer s H vs Q E hr h => ?_)
  · obtain ⟨n, g, rfl, _⟩ := h
    rfl
  · obtain ⟨n, g, rfl, hn, k⟩ := h
    refine ⟨_, (pss_cons (ps_asg (pe_callB call_divmod (by rfl) T.b_divmod (by decide +kernel) (pa_cons (pv 0) (pa_cons pe_int pa_nil))) (pg_tup rfl (pgs_cons (pg_name (i := 0) sc__law_taken.nd rfl (Or.inl rfl)) (pgs_cons (pg_name (i := 2) sc__law_taken.nd rfl (Or.inl rfl)) pgs_nil))))
      (pss_cons (ps_asg (pe_callB call_divmod (by rfl) T.b_divmod (by decide +kernel) (pa_cons (pv 0) (pa_cons pe_int pa_nil))) (pg_tup rfl (pgs_cons (pg_name (i := 0) sc__law_taken.nd rfl (Or.inl rfl)) (pgs_cons (pg_name (i := 3) sc__law_taken.nd rfl (Or.inl rfl)) pgs_nil))))
      (pss_cons (ps_j (ps_if (pt_val (pv 1)) (pss_cons (ps_asg (pe_callB call_divmod (by rfl) T.b_divmod (by decide +kernel) (pa_cons (pv 0) (pa_cons pe_int pa_nil))) (pg_tup rfl (pgs_cons (pg_name (i := 0) sc__law_taken.nd rfl (Or.inl rfl)) (pgs_cons (pg_name (i := 4) sc__law_taken.nd rfl (Or.inl rfl)) pgs_nil))))
        (pss_one (ps_if (pt_cmpR op_eq (pv 4) pe_int (nomark _)) (pss_cons (ps_asg (pe_callB call_divmod (by rfl) T.b_divmod (by decide +kernel) (pa_cons (pv 0) (pa_cons (pe_op op_pow pe_int pe_int) pa_nil))) (pg_tup rfl (pgs_cons (pg_name (i := 0) sc__law_taken.nd rfl (Or.inl rfl)) (pgs_cons (pg_name (i := 5) sc__law_taken.nd rfl (Or.inl rfl)) pgs_nil))))
          (pss_one (ps_ret (pe_tup (pa_cons (pv 0) (pa_cons (pe_k (ok__law_part T F) (hr.mono (by decide)) rfl (pa_cons (pe_op op_add (pe_op op_mul (pe_op op_sub (pv 2) pe_int) (pe_op op_pow pe_int pe_int)) (pv 5)) (pa_cons (pe_ix ix_list (pe_lst (pa_cons pe_int (pa_cons pe_int (pa_cons (pe_op op_pow pe_int pe_int) pa_nil)))) (pe_op op_mod (pv 3) pe_int) (fun _ _ => rfl)) pa_nil))) pa_nil))))))
          pss_nil)))
        pss_nil))
      (pss_one (ps_ret (pe_tup (pa_cons (pv 0) (pa_cons (pe_k (ok__law_part T F) (hr.mono (by decide)) rfl (pa_cons (pe_op op_sub (pv 2) pe_int) (pa_cons (pe_ix ix_list (pe_lst (pa_cons pe_int (pa_cons pe_int (pa_cons pe_int (pa_cons pe_int (pa_cons pe_int (pa_cons pe_int pa_nil))))))) (pv 3) (fun _ _ => rfl)) pa_nil))) pa_nil)))))))), ?_⟩
    refine ⟨_, rfl, _, _, rfl, ⟨by decide, by decide⟩, fun p1 hp1 => ⟨p1, _, rfl, SqT.of upd_same, rfl, _, _, rfl, _, _, rfl, rfl, ?_⟩⟩
    have s1 : Same H (upd H p1 (.tup [.int (n / 13), .int (n % 13)])) := same_new hp1
    have t0 := Int.emod_nonneg n (show (13 : Int) ≠ 0 by decide)
    have t1 := Int.emod_lt_of_pos n (show (0 : Int) < 13 by decide)
    have n1 : 0 ≤ n / 13 := by omega
    generalize upd H p1 (.tup [.int (n / 13), .int (n % 13)]) = H1 at s1 ⊢
    refine ⟨_, rfl, _, _, rfl, ⟨by decide, by decide⟩, fun p2 hp2 => ⟨p2, _, rfl, SqT.of upd_same, rfl, _, _, rfl, _, _, rfl, rfl, ?_⟩⟩
    have s2 := s1.trans (same_new (o := .tup [.int (n / 13 / 6), .int (n / 13 % 6)]) hp2)
    have w0 := Int.emod_nonneg (n / 13) (show (6 : Int) ≠ 0 by decide)
    have w1 := Int.emod_lt_of_pos (n / 13) (show (0 : Int) < 6 by decide)
    have n2 : 0 ≤ n / 13 / 6 := by omega
    generalize upd H1 p2 (.tup [.int (n / 13 / 6), .int (n / 13 % 6)]) = H2 at s2 ⊢
    generalize n / 13 / 6 = m at n2 ⊢
    generalize n / 13 % 6 = wy at w0 w1 ⊢
    generalize n % 13 = tp at t0 t1 ⊢
    refine ⟨fun σ H' => ∃ (q : Int) (v4 v5 : Option V), σ = [some (.int q), some (.bl g), some (.int tp), some (.int wy), v4, v5] ∧ 0 ≤ q ∧ Same H H', ?_, ?_⟩
    · refine ⟨_, rfl, _, rfl, ?_⟩
      cases g with
      | false => exact iteF ⟨_, _, _, rfl, n2, s2⟩
      | true =>
        refine iteT ⟨_, rfl, _, _, rfl, ⟨by decide, by decide⟩, fun p3 hp3 => ⟨p3, _, rfl, SqT.of upd_same, rfl, _, _, rfl, _, _, rfl, rfl, ?_⟩⟩
        have s3 := s2.trans (same_new (o := .tup [.int (m / 3), .int (m % 3)]) hp3)
        have n3 : 0 ≤ m / 3 := by omega
        generalize upd H2 p3 (.tup [.int (m / 3), .int (m % 3)]) = H3 at s3 ⊢
        refine ⟨_, rfl, rfl, _, rfl, ?_⟩
        refine ite2 (fun _ => ?_) (fun _ => ⟨_, _, _, rfl, n3, s3⟩)
        refine ⟨_, rfl, _, _, rfl, rfl, ⟨by decide, by decide, by decide⟩, _, _, rfl, ⟨by decide +kernel, by decide +kernel⟩, fun p4 hp4 => ⟨p4, _, rfl, SqT.of upd_same, rfl, _, _, rfl, _, _, rfl, rfl, ?_⟩⟩
        have s4 := s3.trans (same_new (o := .tup [.int (m / 3 / 10 ^ (9 : Int).toNat), .int (m / 3 % 10 ^ (9 : Int).toNat)]) hp4)
        have e9 : (10 : Int) ^ (9 : Int).toNat = 1000000000 := by decide +kernel
        have n4 : 0 ≤ m / 3 / 10 ^ (9 : Int).toNat := by
          rw [e9]
          omega
        have r0 : 0 ≤ m / 3 % 10 ^ (9 : Int).toNat := by
          rw [e9]
          omega
        have r1 : m / 3 % 10 ^ (9 : Int).toNat < 1000000000 := by
          rw [e9]
          omega
        generalize upd H3 p4 (.tup [.int (m / 3 / 10 ^ (9 : Int).toNat), .int (m / 3 % 10 ^ (9 : Int).toNat)]) = H4 at s4 ⊢
        generalize m / 3 / 10 ^ (9 : Int).toNat = m4 at n4 ⊢
        generalize m / 3 % 10 ^ (9 : Int).toNat = tl at r0 r1 ⊢
        obtain ⟨b, eb, hb⟩ := pick3 (y := wy % 3) (by omega) (by omega)
        have e18 : (10 : Int) ^ (18 : Int).toNat = 1000000000000000000 := by decide +kernel
        refine ⟨_, rfl, _, rfl, _, _, rfl, rfl, _, _, rfl, rfl, ⟨by decide, by decide, by decide⟩, _, _, rfl, rfl, .inl ⟨by omega, by omega⟩, _, rfl, _, _, rfl, rfl, _, _, rfl, rfl, ⟨by decide, by decide, by decide⟩, by show 3 ≤ sizeLine; decide, fun q hq => ?_⟩
        refine ⟨_, rfl, _, _, rfl, rfl, by show (0 : Int) < 3; decide, q, _, _, _, rfl, rfl, SqL.of upd_same, eb, _, b, rfl, by omega, small89 (by omega) (by omega), fun H5 v5 s5 r5 => ?_⟩
        refine ⟨by show 2 ≤ sizeLine; decide, fun pt hpt => ?_⟩
        have s45 := (s4.trans (same_new hq)).trans s5
        refine k _ _ m4 _ (s45.trans (same_new hpt)) n4 (bd_great ?_ hb) (fun z => by cases z) ⟨pt, _, _, rfl, SqT.of upd_same, rfl, t_rat.mon _ _ _ _ (same_new hpt) r5⟩
        rw [e18]
        show _ ≤ 9223372036854775808
        omega
    · rintro σ H' ⟨q, v4, v5, rfl, hq0, sq⟩
      obtain ⟨b, eb, hb⟩ := pick6 w0 w1
      refine ⟨_, rfl, _, rfl, _, _, rfl, rfl, by show 6 ≤ sizeLine; decide, fun l hl => ?_⟩
      refine ⟨_, rfl, l, _, _, _, rfl, rfl, SqL.of upd_same, eb, _, b, rfl, by omega, small89 (by omega) (by omega), fun H5 v5 s5 r5 => ?_⟩
      refine ⟨by show 2 ≤ sizeLine; decide, fun pt hpt => ?_⟩
      have s45 := (sq.trans (same_new hl)).trans s5
      have bs : Bd 12 6 (mk (tp - 6) b) := bd_small (by omega) (by omega) hb
      exact k _ _ q _ (s45.trans (same_new hpt)) hq0 bs.sh (fun _ => bs) ⟨pt, _, _, rfl, SqT.of upd_same, rfl, t_rat.mon _ _ _ _ (same_new hpt) r5⟩
theorem ok__law_small (T : Txt K mg A) (F : Fns K mg A) : Kept P w K mg base 3 "_law_small" ["_law_number", "_law_great"] (spSmall K) := kept_of F._law_small fun f fd Fn => by
  refine Fn.ok sc__law_small (fun vs H Q E h => ?_) (fun cdv Ar outer s H vs Q E hr h => ?_)
  · obtain ⟨n, g, rfl, _⟩ := h
    rfl
  · obtain ⟨n, g, rfl, hn, k⟩ := h
    refine ⟨_, (pss_one (ps_ret (pe_ix ix_tup (pe_k (ok__law_taken T F) (hr.mono (by decide)) rfl (pa_cons (pv 0) (pa_cons (pv 1) pa_nil))) pe_int (fun _ _ => rfl)))), ?_⟩
    refine ⟨_, rfl, _, rfl, n, g, rfl, hn, ?_⟩
    rintro H1 v n' r s1 h1 h2 h3 ⟨p, _, y, rfl, q, rfl, ry⟩
    exact ⟨p, _, _, y, rfl, rfl, q, rfl, k H1 y r s1 h2 h3 ry⟩
theorem ok__law_unit (T : Txt K mg A) (F : Fns K mg A) : Kept P w K mg base 4 "_law_unit" ["_law_number", "_law_places", "_law_bent", "_law_great"] (spUnit K) := kept_of F._law_unit fun f fd Fn => by
  refine Fn.ok sc__law_unit (fun vs H Q E h => ?_) (fun cdv Ar outer s H vs Q E hr h => ?_)
  · obtain ⟨n, pl, bent, g, rfl, _⟩ := h
    rfl
  · obtain ⟨n, pl, bent, g, rfl, hn, hp1, hp2, k⟩ := h
    refine ⟨_, (pss_cons (ps_asg (pe_callB call_divmod (by rfl) T.b_divmod (by decide +kernel) (pa_cons (pv 0) (pa_cons pe_int pa_nil))) (pg_tup rfl (pgs_cons (pg_name (i := 0) sc__law_unit.nd rfl (Or.inl rfl)) (pgs_cons (pg_name (i := 4) sc__law_unit.nd rfl (Or.inl rfl)) pgs_nil))))
      (pss_cons (ps_j (ps_if (PW.pt (pw_and (pt_cmpR op_lt (pv 4) pe_int (nomark _)) (pw_and1 (pt_val (pv 2))))) (pss_cons (ps_asg (pe_callB call_divmod (by rfl) T.b_divmod (by decide +kernel) (pa_cons (pv 0) (pa_cons pe_int pa_nil))) (pg_tup rfl (pgs_cons (pg_name (i := 0) sc__law_unit.nd rfl (Or.inl rfl)) (pgs_cons (pg_name (i := 5) sc__law_unit.nd rfl (Or.inl rfl)) pgs_nil))))
        (pss_one (ps_ret (pe_tup (pa_cons pe_str (pa_cons (pe_ix ix_list (pe_lst (pa_cons (pe_op op_mod (pv 0) (pv 1)) (pa_cons (pe_op op_sub (pv 1) pe_int) pa_nil))) (pe_callTy call_int1 (by rfl) T.b_int (by decide +kernel) (pa_cons (pe_cmpR op_gt (pv 5) pe_int (nomark _)) pa_nil)) (fun _ _ => rfl)) pa_nil))))))
        pss_nil))
      (pss_cons (ps_asg (pe_callB call_divmod (by rfl) T.b_divmod (by decide +kernel) (pa_cons (pv 0) (pa_cons pe_int pa_nil))) (pg_tup rfl (pgs_cons (pg_name (i := 0) sc__law_unit.nd rfl (Or.inl rfl)) (pgs_cons (pg_name (i := 6) sc__law_unit.nd rfl (Or.inl rfl)) pgs_nil))))
      (pss_cons (ps_set (i := 7) sc__law_unit.nd rfl (Or.inl rfl) (pe_listRg rfl rfl T.b_list (prg_1 rfl T.b_range (pv 1))))
      (pss_cons (ps_set (i := 8) sc__law_unit.nd rfl (Or.inl rfl) (pe_lst pa_nil))
      (pss_cons (ps_for PassesOwn.never rfl (pi_range1 (by rfl) T.b_range (pa_cons (pe_callB (call_min2 rfl) (by rfl) T.b_min (by decide +kernel) (pa_cons (pv 1) (pa_cons (pe_op op_add pe_int (pv 6)) pa_nil))) pa_nil)) (pg_name (i := 9) sc__law_unit.nd rfl (Or.inl rfl))
        (pss_cons (ps_asg (pe_callB call_divmod (by rfl) T.b_divmod (by decide +kernel) (pa_cons (pv 0) (pa_cons pe_int pa_nil))) (pg_tup rfl (pgs_cons (pg_name (i := 0) sc__law_unit.nd rfl (Or.inl rfl)) (pgs_cons (pg_name (i := 10) sc__law_unit.nd rfl (Or.inl rfl)) pgs_nil))))
        (pss_cons (ps_asg (pe_callB call_divmod (by rfl) T.b_divmod (by decide +kernel) (pa_cons (pv 0) (pa_cons (pe_callB call_len_seq (by rfl) T.b_len PySem.boot_len (pa_cons (pv 7) pa_nil)) pa_nil))) (pg_tup rfl (pgs_cons (pg_name (i := 0) sc__law_unit.nd rfl (Or.inl rfl)) (pgs_cons (pg_name (i := 11) sc__law_unit.nd rfl (Or.inl rfl)) pgs_nil))))
        (pss_cons (ps_j (ps_if (PW.pt (pw_and (pt_cmpR op_eq (pv 9) pe_int (nomark _)) (pw_and1 (pt_cmpR op_eq (pv 10) pe_int (nomark _))))) (pss_one (ps_set (i := 11) sc__law_unit.nd rfl (Or.inl rfl) (pe_op op_sub (pe_callB call_len_seq (by rfl) T.b_len PySem.boot_len (pa_cons (pv 7) pa_nil)) pe_int)))
          pss_nil))
        (pss_cons (ps_asg (pe_k (ok__law_taken T F) (hr.mono (by decide)) rfl (pa_cons (pv 0) (pa_cons (pv 3) pa_nil))) (pg_tup rfl (pgs_cons (pg_name (i := 0) sc__law_unit.nd rfl (Or.inl rfl)) (pgs_cons (pg_name (i := 12) sc__law_unit.nd rfl (Or.inl rfl)) pgs_nil))))
        (pss_one (ps_expr (pe_bm PySem.F.plainAttrs_list PySem.F.slot_list_append PySem.F.type_list_append mt_append (pv 8) (pa_cons (pe_tup (pa_cons (pe_bm PySem.F.plainAttrs_list PySem.F.slot_list_pop PySem.F.type_list_pop mt_popAt (pv 7) (pa_cons (pv 11) pa_nil)) (pa_cons (pv 12) pa_nil))) pa_nil)))))))))
      (pss_one (ps_ret (pe_tup (pa_cons pe_str (pa_cons (pe_k (ok__law_small T F) (hr.mono (by decide)) rfl (pa_cons (pv 0) (pa_cons (pv 3) pa_nil))) (pa_cons (pv 8) pa_nil)))))))))))), ?_⟩
    refine ⟨_, rfl, _, _, rfl, ⟨by decide, by decide⟩, fun p1 hp1' => ⟨p1, _, rfl, SqT.of upd_same, rfl, _, _, rfl, _, _, rfl, rfl, ?_⟩⟩
    have s1 : Same H (upd H p1 (.tup [.int (n / 5), .int (n % 5)])) := same_new hp1'
    have n1 : 0 ≤ n / 5 := by omega
    generalize upd H p1 (.tup [.int (n / 5), .int (n % 5)]) = H1 at s1 ⊢
    generalize n / 5 = m at n1 ⊢
    generalize n % 5 = kd
    refine ⟨fun σ H' => σ = [some (.int m), some (.int (pl : Int)), some (.bl bent), some (.bl g), some (.int kd), none, none, none, none, none, none, none, none] ∧ H' = H1, ?_, ?_⟩
    · refine ⟨_, rfl, _, _, rfl, rfl, _, rfl, ?_⟩
      refine ite2 (fun _ => ⟨_, rfl, _, rfl, ?_⟩) (fun _ => iteF ⟨rfl, rfl⟩)
      cases bent with
      | false => exact iteF ⟨rfl, rfl⟩
      | true =>
        refine iteT ⟨_, rfl, _, _, rfl, ⟨by decide, by decide⟩, fun p2 hp2' => ⟨p2, _, rfl, SqT.of upd_same, rfl, _, _, rfl, _, _, rfl, rfl, ?_⟩⟩
        have s2 := s1.trans (same_new (o := .tup [.int (m / 3), .int (m % 3)]) hp2')
        generalize upd H1 p2 (.tup [.int (m / 3), .int (m % 3)]) = H2 at s2 ⊢
        generalize m / 3 = q
        generalize m % 3 = wy
        refine ⟨_, rfl, _, rfl, _, _, rfl, rfl, by show (0 : Int) < (pl : Int); omega, _, rfl, _, _, rfl, rfl, by show 2 ≤ sizeLine; decide, fun l hl => ?_⟩
        refine ⟨_, rfl, _, _, rfl, rfl, .inr ⟨_, rfl, ?_⟩⟩
        have q0 := Int.emod_nonneg q (show (pl : Int) ≠ 0 by omega)
        have q1 := Int.emod_lt_of_pos q (show (0 : Int) < (pl : Int) by omega)
        have s3 := s2.trans (same_new (o := .lst [.int (q % (pl : Int)), .int ((pl : Int) - 1)]) hl)
        have fin : ∀ z : Int, 0 ≤ z → z < pl → ([V.str "bend", V.int z].length ≤ sizeLine ∧ ∀ pt, upd H2 l (.lst [.int (q % (pl : Int)), .int ((pl : Int) - 1)]) pt = none → Q (.ref pt) (upd (upd H2 l (.lst [.int (q % (pl : Int)), .int ((pl : Int) - 1)])) pt (.tup [.str "bend", .int z]))) := fun z z0 z1 => by
          refine ⟨by show 2 ≤ sizeLine; decide, fun pt hpt => ?_⟩
          have s4 := s3.trans (same_new (o := .tup [.str "bend", .int z]) hpt)
          obtain ⟨j, ej⟩ : ∃ j : Nat, z = (j : Int) := ⟨z.toNat, by omega⟩
          subst ej
          refine k _ _ (.bend j) s4 ⟨fun p e => ?_, fun _ _ e => (by cases e), fun _ _ e => (by cases e), fun _ _ e => (by cases e), fun _ _ e => (by cases e)⟩ ⟨pt, rfl, SqT.of (by rw [fr_new (s3.free hpt), upd_same])⟩
          cases e
          omega
        by_cases hw : 0 < wy
        · rw [decide_eq_true hw]
          exact ⟨l, _, _, _, rfl, rfl, SqL.of upd_same, rfl, fin _ (by omega) (by omega)⟩
        · rw [decide_eq_false hw]
          exact ⟨l, _, _, _, rfl, rfl, SqL.of upd_same, rfl, fin _ q0 q1⟩
    · rintro σ H' ⟨rfl, rfl⟩
      refine ⟨_, rfl, _, _, rfl, ⟨by decide, by decide⟩, fun p2 hp2' => ⟨p2, _, rfl, SqT.of upd_same, rfl, _, _, rfl, _, _, rfl, rfl, ?_⟩⟩
      have s2 := s1.trans (same_new (o := .tup [.int (m / 3), .int (m % 3)]) hp2')
      have m0 := Int.emod_nonneg m (show (3 : Int) ≠ 0 by decide)
      have m1 := Int.emod_lt_of_pos m (show (0 : Int) < 3 by decide)
      have q0 : 0 ≤ m / 3 := by omega
      generalize upd H' p2 (.tup [.int (m / 3), .int (m % 3)]) = H2 at s2 ⊢
      generalize m / 3 = q at q0 ⊢
      generalize m % 3 = mo at m0 m1 ⊢
      refine ⟨_, rfl, _, rfl, RgOk.of_le (by omega) (by omega) (by omega) (by omega), fun l hl => ?_⟩
      have nl : H l = none := s2.free hl
      have el : rgV 0 (pl : Int) = (List.range pl).map nV := by
        unfold rgV
        have e : ((pl : Int) - 0).toNat = pl := by omega
        rw [e]
        exact List.map_congr_left fun i _ => by show V.int (0 + (i : Int)) = V.int (i : Int); rw [Int.zero_add]
      rw [el]
      have s3 := s2.trans (same_new (o := .lst ((List.range pl).map nV)) hl)
      have hl3 : upd H2 l (.lst ((List.range pl).map nV)) l = some (.lst ((List.range pl).map nV)) := upd_same
      refine gname_eq (i := 7) (v' := .ref l) rfl ?_
      generalize upd H2 l (.lst ((List.range pl).map nV)) = H3 at s3 hl3 ⊢
      refine ⟨Nat.zero_le _, fun tl htl => ?_⟩
      have ntl : H tl = none := s3.free htl
      have nlt : l ≠ tl := ne_of_none hl3 htl
      refine ⟨_, rfl, _, rfl, _, _, rfl, rfl, _, _, rfl, _, rfl, ?_, ?_, ?_⟩
      · split <;> omega
      · split <;> omega
      have hturn : (if 1 + mo < (pl : Int) then 1 + mo else (pl : Int)).toNat ≤ 3 ∧ (if 1 + mo < (pl : Int) then 1 + mo else (pl : Int)).toNat ≤ pl := by
        split <;> omega
      generalize (if 1 + mo < (pl : Int) then 1 + mo else (pl : Int)).toNat = tn at hturn ⊢
      refine for_range (lo := 0) (n := tn) (fun i σ Hc => ∃ (z : Int) (v9 v10 v11 v12 : Option V) (ls : List Nat) (ts : List (Nat × Rt)) (vt : List V), σ = [some (.int z), some (.int (pl : Int)), some (.bl bent), some (.bl g), some (.int kd), none, some (.int mo), some (.ref l), some (.ref tl), v9, v10, v11, v12] ∧
        0 ≤ z ∧ Same H Hc ∧ Hc l = some (.lst (ls.map nV)) ∧ Hc tl = some (.lst vt) ∧ Paired (rTerm K Hc) vt ts ∧ ts.length = i ∧ ls.length + i = pl ∧ ls.Nodup ∧ (∀ x ∈ ls, x < pl) ∧ (∀ t ∈ ts, t.1 < pl ∧ Sh t.2 ∧ t.1 ∉ ls) ∧ (ts.map (·.1)).Nodup)
        ⟨q, none, none, none, none, List.range pl, [], [], rfl, q0, s3.trans (same_new htl), same_new htl _ _ hl3, upd_same, .nil, rfl, by simp, List.nodup_range, fun x hx => List.mem_range.mp hx, List.forall_mem_nil _, List.nodup_nil⟩ ?_ ?_
      · rintro i σ Hc hi ⟨z, v9, v10, v11, v12, ls, ts, vt, rfl, hz, sc, hlc, htc, pv, lts, lls, nd, lt, tok, tnd⟩
        have hls : 1 ≤ ls.length := by omega
        refine ⟨_, rfl, _, _, rfl, ⟨by decide, by decide⟩, fun p3 hp3 => ⟨p3, _, rfl, SqT.of upd_same, rfl, _, _, rfl, _, _, rfl, rfl, ?_⟩⟩
        have s4 : Same Hc (upd Hc p3 (.tup [.int (z / 2), .int (z % 2)])) := same_new hp3
        have z2 : 0 ≤ z / 2 := by omega
        generalize upd Hc p3 (.tup [.int (z / 2), .int (z % 2)]) = H4 at s4 ⊢
        generalize z / 2 = z' at z2 ⊢
        generalize z % 2 = coin
        refine ⟨_, rfl, _, rfl, l, _, rfl, .inl (SqL.of (s4 _ _ hlc)), _, _, rfl, ⟨by rw [List.length_map]; omega, by rw [List.length_map]; omega⟩, fun p4 hp4 => ⟨p4, _, rfl, SqT.of upd_same, rfl, _, _, rfl, _, _, rfl, rfl, ?_⟩⟩
        have elen : ((ls.map nV).length : Int) = (ls.length : Int) := by rw [List.length_map]
        rw [elen]
        have s5 := s4.trans (same_new (o := .tup [.int (z' / (ls.length : Int)), .int (z' % (ls.length : Int))]) hp4)
        have b0 := Int.emod_nonneg z' (show (ls.length : Int) ≠ 0 by omega)
        have b1 := Int.emod_lt_of_pos z' (show (0 : Int) < (ls.length : Int) by omega)
        have z3 : 0 ≤ z' / (ls.length : Int) := Int.ediv_nonneg z2 (by omega)
        generalize upd H4 p4 (.tup [.int (z' / (ls.length : Int)), .int (z' % (ls.length : Int))]) = H5 at s5 ⊢
        generalize z' / (ls.length : Int) = z'' at z3 ⊢
        generalize z' % (ls.length : Int) = sp at b0 b1 ⊢
        refine ⟨fun σ H' => ∃ sp : Int, σ = [some (.int z''), some (.int (pl : Int)), some (.bl bent), some (.bl g), some (.int kd), none, some (.int mo), some (.ref l), some (.ref tl), some (.int (0 + (i : Int))), some (.int coin), some (.int sp), v12] ∧ 0 ≤ sp ∧ sp < ls.length ∧ H' = H5, ?_, ?_⟩
        · refine ⟨_, rfl, rfl, _, rfl, ?_⟩
          refine ite2 (fun _ => ⟨_, rfl, rfl, _, rfl, ?_⟩) (fun _ => iteF ⟨sp, rfl, b0, b1, rfl⟩)
          refine ite2 (fun _ => ?_) (fun _ => ⟨sp, rfl, b0, b1, rfl⟩)
          exact ⟨_, rfl, l, _, rfl, .inl (SqL.of (s5 _ _ hlc)), _, _, rfl, rfl, _, rfl, by rw [List.length_map]; omega, by rw [List.length_map]; omega, rfl⟩
        · rintro σ H' ⟨sp, rfl, c0, c1, rfl⟩
          refine ⟨_, rfl, _, rfl, z'', g, rfl, z3, ?_⟩
          rintro H6 v6 z6 r s6 h6 hsh _ ⟨pr, _, y, rfl, qr, rfl, ry⟩
          have s56 := s5.trans s6
          refine ⟨pr, _, rfl, qr, rfl, _, _, rfl, _, _, rfl, rfl, ?_⟩
          obtain ⟨j, rfl⟩ : ∃ j : Nat, sp = (j : Int) := ⟨sp.toNat, by omega⟩
          have hj : j < ls.length := by omega
          have hjm : j < (ls.map nV).length := by
            rw [List.length_map]
            exact hj
          have ej : ls[j]? = some ls[j] := List.getElem?_eq_getElem hj
          have ejm : (ls.map nV)[j]? = some (nV ls[j]) := by
            rw [List.getElem?_map, ej]
            rfl
          have hx := lt _ (List.getElem_mem hj)
          have hmem : ls[j] ∈ ls := List.getElem_mem hj
          have hnot : ls[j] ∉ ls.eraseIdx j := fun hm => by
            obtain ⟨i', hne, he⟩ := List.mem_eraseIdx_iff_getElem?.mp hm
            exact hne (nd_ix nd he ej)
          generalize ls[j] = xj at ej ejm hx hmem hnot
          refine ⟨_, rfl, .inl ⟨rfl, _, SqL.of (s56 _ _ htc)⟩, _, rfl, .inl ⟨rfl, _, SqL.of (s56 _ _ hlc)⟩, _, rfl, l, _, (j : Int), j, _, rfl, rfl, s56 _ _ hlc, by omega, by omega, (ixN_seq (ixN_nat hjm)).1, ejm, ?_⟩
          rw [erase_map]
          have s6l : Same H (upd H6 l (.lst ((ls.eraseIdx j).map nV))) := same_mut (sc.trans s56) nl
          have tk6 : Tk K H6 (upd H6 l (.lst ((ls.eraseIdx j).map nV))) := tk_upd (s56 _ _ hlc)
          have htc6 : upd H6 l (.lst ((ls.eraseIdx j).map nV)) tl = some (.lst vt) := by
            rw [upd_ne nlt.symm]
            exact s56 _ _ htc
          have hlc6 : upd H6 l (.lst ((ls.eraseIdx j).map nV)) l = some (.lst ((ls.eraseIdx j).map nV)) := upd_same
          generalize upd H6 l (.lst ((ls.eraseIdx j).map nV)) = H7 at s6l tk6 htc6 hlc6 ⊢
          refine ⟨_, rfl, by show 2 ≤ sizeLine; decide, fun pt hpt => ?_⟩
          have s8 : Same H7 (upd H7 pt (.tup [nV xj, y])) := same_new hpt
          have hlen : vt.length < sizeLine := Nat.lt_of_le_of_lt (show vt.length ≤ 100 by rw [pv.length]; omega) (by decide)
          refine ⟨tl, vt, .ref pt, rfl, rfl, s8 _ _ htc6, hlen, ?_⟩
          have tk9 : Tk K (upd H7 pt (.tup [nV xj, y])) (upd (upd H7 pt (.tup [nV xj, y])) tl (.lst (vt ++ [.ref pt]))) := tk_upd (s8 _ _ htc6)
          have elen2 : (ls.eraseIdx j).length = ls.length - 1 := by
            rw [List.length_eraseIdx, if_pos hj]
          refine ⟨z6, _, _, _, _, ls.eraseIdx j, ts ++ [(xj, r)], vt ++ [.ref pt], rfl, h6, same_mut (s6l.trans s8) ntl, ?_, upd_same, ?_, by rw [List.length_append, lts]; rfl, by omega, nd.sublist (List.eraseIdx_sublist ..), fun x hx2 => lt x (List.mem_of_mem_eraseIdx hx2), ?_, ?_⟩
          · rw [upd_ne nlt]
            exact s8 _ _ hlc6
          · refine Paired.snoc (p_tk t_term ((((same_tup s56).trans tk6).trans (same_tup s8)).trans tk9) pv) ?_
            exact t_term _ _ _ _ tk9 ⟨pt, _, _, rfl, SqT.of upd_same, rfl, t_rat _ _ _ _ (tk6.trans (same_tup s8)) ry⟩
          · intro t ht
            rcases List.mem_append.mp ht with ht | ht
            · obtain ⟨q1, q2, q3⟩ := tok t ht
              exact ⟨q1, q2, fun hm => q3 (List.mem_of_mem_eraseIdx hm)⟩
            · rw [List.mem_singleton.mp ht]
              exact ⟨hx, hsh, hnot⟩
          · rw [List.map_append, List.nodup_append]
            refine ⟨tnd, by simp, ?_⟩
            intro a ha b hb
            have eb : b = xj := by simpa using hb
            rw [eb]
            rintro rfl
            obtain ⟨t, ht, e⟩ := List.mem_map.mp ha
            exact (tok t ht).2.2 (by rw [e]; exact hmem)
      · rintro σ Hc ⟨z, v9, v10, v11, v12, ls, ts, vt, rfl, hz, sc, hlc, htc, pv, lts, lls, nd, lt, tok, tnd⟩
        refine ⟨_, rfl, _, rfl, z, g, rfl, hz, fun H5 v5 c s5 h1 _ h3 => ?_⟩
        refine ⟨_, rfl, by show 3 ≤ sizeLine; decide, fun pt hpt => ?_⟩
        have s6 : Same H5 (upd H5 pt (.tup [.str "sum", v5, .ref tl])) := same_new hpt
        have s06 := (sc.trans s5).trans s6
        refine k _ _ (.sum c ts) s06 ⟨fun _ e => (by cases e), fun _ _ e => (by cases e; exact h1), fun _ _ e => (by cases e; omega), fun _ _ e => (by cases e; exact fun t ht => ⟨(tok t ht).1, (tok t ht).2.1⟩), fun _ _ e => (by cases e; exact tnd)⟩ ?_
        refine ⟨pt, v5, .ref tl, rfl, SqT.of (by rw [fr_new ((sc.trans s5).free hpt), upd_same]), t_rat _ _ _ _ ((same_tup s6).trans (tk_fr s06)) h3, tl, vt, rfl, ?_, p_tk t_term ((same_tup (s5.trans s6)).trans (tk_fr s06)) pv⟩
        rw [fr_new ntl]
        exact (s5.trans s6) _ _ htc
end
end BP
end


/-! A14 -/
section
set_option maxHeartbeats 4000000
namespace BP
open PySem L2
def absR (r : Rt) : Rt := ((r.1.natAbs : Int), r.2)
theorem Bd.abs {E N : Nat} {r : Rt} (h : Bd E N r) : Bd E N (absR r) :=
  ⟨h.pos, by show Nat.gcd ((r.1.natAbs : Int)).natAbs r.2.natAbs = 1; rw [Int.natAbs_natCast]; exact h.cop, h.dvd, by show ((r.1.natAbs : Int)).natAbs ≤ _; rw [Int.natAbs_natCast]; exact h.le⟩
theorem padd_ge {a b : Rt} (ha : 0 < a.2) (hb : 0 < b.2) (h0 : 0 ≤ b.1) : a.1 * (padd a b).2 ≤ (padd a b).1 * a.2 := by
  have hm : 0 < a.2 * b.2 := Int.mul_pos ha hb
  obtain ⟨e1, e2⟩ := mk_mul (t := a.1 * b.2 + b.1 * a.2) (m := a.2 * b.2)
  have g : 0 < ((Int.gcd (a.1 * b.2 + b.1 * a.2) (a.2 * b.2) : Nat) : Int) := by
    have := gcd_pos (t := a.1 * b.2 + b.1 * a.2) hm
    omega
  unfold padd
  generalize ((Int.gcd (a.1 * b.2 + b.1 * a.2) (a.2 * b.2) : Nat) : Int) = gg at e1 e2 g
  generalize mk (a.1 * b.2 + b.1 * a.2) (a.2 * b.2) = q at e1 e2 ⊢
  refine Int.le_of_mul_le_mul_right ?_ g
  have l1 : a.1 * q.2 * gg = a.1 * (a.2 * b.2) := by rw [Int.mul_assoc, ← e2]
  have l2 : q.1 * a.2 * gg = (a.1 * b.2 + b.1 * a.2) * a.2 := by rw [Int.mul_assoc, Int.mul_comm a.2 gg, ← Int.mul_assoc, ← e1]
  rw [l1, l2, Int.add_mul]
  have l3 : a.1 * (a.2 * b.2) = a.1 * b.2 * a.2 := by rw [Int.mul_comm a.2 b.2, Int.mul_assoc]
  rw [l3]
  have l4 : 0 ≤ b.1 * a.2 * a.2 := Int.mul_nonneg (Int.mul_nonneg h0 (Int.le_of_lt ha)) (Int.le_of_lt ha)
  omega
theorem rat_trans {a b c : Rt} (hb : 0 < b.2) (ha : 0 < a.2) (hc : 0 < c.2) (h1 : a.1 * b.2 ≤ b.1 * a.2) (h2 : b.1 * c.2 ≤ c.1 * b.2) : a.1 * c.2 ≤ c.1 * a.2 := by
  refine Int.le_of_mul_le_mul_right ?_ hb
  have e1 : a.1 * c.2 * b.2 = a.1 * b.2 * c.2 := by ac_rfl
  have e2 : c.1 * a.2 * b.2 = c.1 * b.2 * a.2 := by ac_rfl
  have e3 : b.1 * a.2 * c.2 = b.1 * c.2 * a.2 := by ac_rfl
  rw [e1, e2]
  exact Int.le_trans (Int.mul_le_mul_of_nonneg_right h1 (Int.le_of_lt hc)) (by rw [e3]; exact Int.mul_le_mul_of_nonneg_right h2 (Int.le_of_lt ha))
/-- a side as the law draws it, the top's size at most n -/
structure SdOk (n : Nat) (e : Rt × Rt) : Prop where
  lo : Bd 12 6 e.1
  hi : Bd 12 n e.2
  le : e.1.1 * e.2.2 ≤ e.2.1 * e.1.2
theorem Bd.lv1 {n : Nat} {r : Rt} (h : Bd 12 n r) (hn : n ≤ 20) : Lv 1 r := by
  refine Bd.mono h ?_ ?_
  · rw [Nat.pow_one]
    decide
  · rw [Nat.pow_one]
    exact Nat.le_trans hn (by decide)
theorem SdOk.ks {n : Nat} {sd : List (Rt × Rt)} (hn : n ≤ 20) (h : ∀ e ∈ sd, SdOk n e) : KS 1 sd := fun e he => ⟨(h e he).lo.lv1 (by decide), (h e he).hi.lv1 hn⟩
theorem SdOk.side {n : Nat} {sd : List (Rt × Rt)} (hn : n ≤ 20) (h : ∀ e ∈ sd, SdOk n e) : SideOk sd := fun e he => by
  have a := (h e he).lo.lv1 (show 6 ≤ 20 by decide)
  have b := (h e he).hi.lv1 hn
  exact ⟨⟨a.fit (by decide), a.cop⟩, ⟨b.fit (by decide), b.cop⟩, (h e he).le⟩
structure OutOk (N : NetD) : Prop where
  one : 1 ≤ N.outs.length
  most : N.outs.length ≤ 12
  ok : ∀ o ∈ N.outs, o < N.many + N.us.length
def spSides (K : PySem.W.Frag) : Sp := fun vs H Q _ => ∃ (a : Addr) (ns : List Int) (many : Nat), vs = [.ref a, .int 1, .int (many : Int)] ∧ SqL K H a (ns.map V.int) ∧ many ≤ 6 ∧
  ∀ H' v (sd : List (Rt × Rt)), Same H H' → sd.length = many → (∀ e ∈ sd, SdOk 12 e) → rLst (rSpan K) (fr H H') v sd → Q v H'
def spNet (K : PySem.W.Frag) : Sp := fun vs H Q _ => ∃ (a : Addr) (ns : List Int), vs = [.ref a, .int 1, .int 3] ∧ SqL K H a (ns.map V.int) ∧
  ∀ H' v (N : NetD), Same H H' → NOk N → OutOk N → rTold K (fr H H') v N → Q v H'
def spCase (K : PySem.W.Frag) : Sp := fun vs H Q _ => ∃ (x : V) (n : Int) (N : NetD), vs = [x, .int n] ∧ rTold K H x N ∧ N.us.length ≤ 12 ∧
  ∀ H' v (cs : List C3), Same H H' → cs.length = bendsN N.us → rLst rC3 (fr H H') v cs → Q v H'
section
variable {P : Program} {w : World} {K : PySem.W.Frag} {mg : Str → Option Value} {base : Heap} {A : Ad}
/-- some of a list of numbers from 0 on -/
theorem cut_some {rs : List Int} {x k : Nat} (h : x + k ≤ rs.length) (h0 : ∀ r ∈ rs, 0 ≤ r) : ∃ ms : List Int, cutV (rs.map V.int) (some (x : Int)) (some ((x + k : Nat) : Int)) = ms.map V.int ∧ ms.length = k ∧ ∀ r ∈ ms, 0 ≤ r := by
  refine ⟨(rs.drop x).take k, ?_, ?_, fun r hr => h0 r (List.mem_of_mem_drop (List.mem_of_mem_take hr))⟩
  · unfold cutV
    rw [HT.sIx_nat, HT.sIx_nat, List.length_map]
    have e1 : min x rs.length = x := by omega
    have e2 : min (x + k) rs.length - x = k := by omega
    rw [e1, e2, ← List.map_drop, ← List.map_take]
  · rw [List.length_take, List.length_drop]
    omega
theorem int_at {ms : List Int} {i : Nat} {v : V} (h : (ms.map V.int)[i]? = some v) : ∃ c, v = V.int c ∧ c ∈ ms := by
  rw [List.getElem?_map] at h
  cases e : ms[i]? with
  | none =>
    rw [e] at h
    cases h
  | some c =>
    rw [e] at h
    exact ⟨c, (Option.some.inj h).symm, List.mem_of_getElem? e⟩
theorem ok__law_sides (T : Txt K mg A) (F : Fns K mg A) : Kept P w K mg base 4 "_law_sides" ["_law_script", "_law_start", "_law_many_here"] (spSides K) := kept_of F._law_sides fun f fd Fn => by
  refine Fn.ok sc__law_sides (fun vs H Q E h => ?_) (fun cdv Ar outer s H vs Q E hr h => ?_)
  · obtain ⟨a, ns, many, rfl, _⟩ := h
    rfl
  · obtain ⟨a, ns, many, rfl, hs, hm, k⟩ := h
    refine ⟨_, (pss_cons (ps_set (i := 3) sc__law_sides.nd rfl (Or.inl rfl) (pe_lst pa_nil))
      (pss_cons (ps_for PassesOwn.never rfl (pi_list (pe_slice sl_list (pe_k (ok__law_seeds T F) (hr.mono (by decide)) rfl (pa_cons (pv 0) (pa_cons (pv 1) (pa_cons pe_int pa_nil)))) (po_some pe_int) (po_some (pe_op op_add pe_int (pv 2))))) (pg_name (i := 4) sc__law_sides.nd rfl (Or.inl rfl))
        (pss_cons (ps_asg (pe_k (ok__law_taken T F) (hr.mono (by decide)) rfl (pa_cons (pv 4) (pa_cons pe_bl pa_nil))) (pg_tup rfl (pgs_cons (pg_name (i := 4) sc__law_sides.nd rfl (Or.inl rfl)) (pgs_cons (pg_name (i := 5) sc__law_sides.nd rfl (Or.inl rfl)) pgs_nil))))
        (pss_cons (ps_set (i := 6) sc__law_sides.nd rfl (Or.inl rfl) (pe_k (ok__law_small T F) (hr.mono (by decide)) rfl (pa_cons (pv 4) (pa_cons pe_bl pa_nil))))
        (pss_one (ps_expr (pe_bm PySem.F.plainAttrs_list PySem.F.slot_list_append PySem.F.type_list_append mt_append (pv 3) (pa_cons (pe_tup (pa_cons (pv 5) (pa_cons (pe_k (ok__law_sum T F) (hr.mono (by decide)) rfl (pa_cons (pv 5) (pa_cons (pe_tup (pa_cons (pe_callB call_abs (by rfl) T.b_abs (by decide +kernel) (pa_cons (pe_ix ix_tup (pv 6) pe_int (fun _ _ => rfl)) pa_nil)) (pa_cons (pe_ix ix_tup (pv 6) pe_int (fun _ _ => rfl)) pa_nil))) pa_nil))) pa_nil))) pa_nil)))))))
      (pss_one (ps_ret (pv 3))))), ?_⟩
    refine ⟨Nat.zero_le _, fun l hl => ?_⟩
    have s0 : Same H (upd H l (.lst [])) := same_new hl
    refine ⟨_, rfl, _, rfl, a, ns, 1, 19, rfl, s0.seq hs, by decide, fun H1 p rs s1 hp hlen hr0 hrs => ?_⟩
    have hl1 : H1 l = some (.lst []) := s1 _ _ upd_same
    obtain ⟨ms, ems, lms, hms⟩ := cut_some (rs := rs) (x := 13) (k := many) (by omega) hr0
    refine ⟨13, rfl, _, rfl, _, _, rfl, rfl, _, rfl, p, _, rfl, SqL.of hrs, fun q hq => ?_⟩
    have e13 : (13 : Int) + (many : Int) = ((13 + many : Nat) : Int) := by omega
    have s2 : Same H1 (upd H1 q (.lst (cutV (rs.map V.int) (some 13) (some (13 + (many : Int)))))) := same_new hq
    have hq2 : upd H1 q (.lst (cutV (rs.map V.int) (some 13) (some (13 + (many : Int))))) q = some (.lst (ms.map V.int)) := by
      rw [upd_same, e13]
      exact congrArg (fun z => some (HO.lst z)) ems
    have hl2 := s2 _ _ hl1
    have s02 := (s0.trans s1).trans s2
    generalize upd H1 q (.lst (cutV (rs.map V.int) (some 13) (some (13 + (many : Int))))) = H2 at s2 hq2 hl2 s02 ⊢
    have nlq : q ≠ l := (ne_of_none hl1 hq).symm
    have hqh : (hide l H2) q = some (.lst (ms.map V.int)) := by rw [hide_at nlq]; exact hq2
    refine ⟨q, rfl, ⟨_, SqL.of hq2⟩, for_list (K := K) (a := q) (xs := ms.map V.int) (fun i σ Hc => ∃ (v4 v5 v6 : Option V) (vt : List V) (sd : List (Rt × Rt)), σ = [some (.ref a), some (.int 1), some (.int (many : Int)), some (.ref l), v4, v5, v6] ∧ Same H Hc ∧ Same (hide l H2) Hc ∧ Hc l = some (.lst vt) ∧
      Paired (rSpan K Hc) vt sd ∧ sd.length = i ∧ ∀ e ∈ sd, SdOk 12 e) ⟨none, none, none, [], [], rfl, s02, hide_sub, hl2, .nil, rfl, List.forall_mem_nil _⟩ (fun i σ Hc _ ⟨_, _, _, _, _, _, _, sh, _⟩ => SqL.of (sh _ _ hqh)) ?_ ?_⟩
    · rintro i x σ Hc hi ⟨v4, v5, v6, vt, sd, rfl, sc, sh, hv, pv, lsd, oks⟩
      obtain ⟨n, rfl, hn⟩ := int_at hi
      have n0 := hms n hn
      have hi2 : i < many := by
        have := (List.getElem?_eq_some_iff.mp hi).1
        rw [List.length_map] at this
        omega
      refine ⟨_, rfl, n, false, rfl, n0, ?_⟩
      rintro H3 v3 n' r s3 h3 _ hr3 ⟨pt, _, y, rfl, qt, rfl, ry⟩
      have br := hr3 rfl
      refine ⟨pt, _, rfl, qt, rfl, _, _, rfl, _, _, rfl, rfl, ?_⟩
      refine ⟨_, rfl, n', false, rfl, h3, fun H4 v4 u s4 _ hu3 ru => ?_⟩
      have bu := hu3 rfl
      have s34 := s3.trans s4
      obtain ⟨pu, _, _, rfl, qu, rfl, rfl⟩ := ru
      have ry4 := t_rat.mon _ _ _ _ s4 ry
      refine ⟨_, rfl, .inl ⟨rfl, _, SqL.of (s34 _ _ hv)⟩, _, rfl, _, rfl, _, rfl, pu, _, _, _, rfl, rfl, qu, rfl, _, rfl, _, rfl, pu, _, _, _, rfl, rfl, qu, rfl, by show 2 ≤ sizeLine; decide, fun pa hpa => ?_⟩
      rw [abs_if]
      have s5 : Same H4 (upd H4 pa (.tup [.int (u.1.natAbs : Int), .int u.2])) := same_new hpa
      have bhi := Bd.add br bu.abs
      refine ⟨y, .ref pa, r, absR u, rfl, t_rat.mon _ _ _ _ s5 ry4, ⟨pa, _, _, rfl, SqT.of upd_same, rfl, rfl⟩, br.sh.fit, bu.abs.sh.fit, fun H6 v6 s6 r6 => ?_⟩
      refine ⟨by show 2 ≤ sizeLine; decide, fun pz hpz => ?_⟩
      have s7 : Same H6 (upd H6 pz (.tup [y, v6])) := same_new hpz
      have s37 := ((s34.trans s5).trans s6).trans s7
      have hv7 := s37 _ _ hv
      refine ⟨l, vt, .ref pz, rfl, rfl, hv7, Nat.lt_of_le_of_lt (show vt.length ≤ 100 by rw [pv.length]; omega) (by decide), ?_⟩
      have tk : Tk K (upd H6 pz (.tup [y, v6])) (upd (upd H6 pz (.tup [y, v6])) l (.lst (vt ++ [.ref pz]))) := tk_upd hv7
      refine ⟨_, _, _, vt ++ [.ref pz], sd ++ [(r, padd r (absR u))], rfl, same_mut (sc.trans s37) hl, same_mut (sh.trans s37) hide_self, upd_same, ?_, by rw [List.length_append, lsd]; rfl, ?_⟩
      · refine Paired.snoc (p_tk t_span ((same_tup s37).trans tk) pv) ?_
        exact t_span _ _ _ _ tk ⟨pz, y, v6, rfl, SqT.of upd_same, t_rat.mon _ _ _ _ ((s5.trans s6).trans s7) ry4, t_rat.mon _ _ _ _ s7 r6⟩
      · intro e he
        rcases List.mem_append.mp he with he | he
        · exact oks e he
        · rw [List.mem_singleton.mp he]
          exact ⟨br, bhi, padd_ge br.pos bu.pos (by show (0 : Int) ≤ (u.1.natAbs : Int); omega)⟩
    · rintro σ Hc ⟨v4, v5, v6, vt, sd, rfl, sc, sh, hv, pv, lsd, oks⟩
      rw [List.length_map, lms] at lsd
      exact ⟨_, rfl, k Hc _ sd sc lsd oks ⟨l, vt, rfl, by rw [fr_new hl]; exact hv, p_tk t_span (tk_fr sc) pv⟩⟩
theorem c3_at {r : Int} (h0 : 0 ≤ r) : ∃ c : C3, atI [V.str "on", .str "off", .str "open"] (r % 3) = some (.str c.txt) := by
  rcases (show r % 3 = 0 ∨ r % 3 = 1 ∨ r % 3 = 2 by omega) with e | e | e <;> rw [e]
  · exact ⟨.on, rfl⟩
  · exact ⟨.off, rfl⟩
  · exact ⟨.opn, rfl⟩
theorem ok__law_case (T : Txt K mg A) (F : Fns K mg A) : Kept P w K mg base 2 "_law_case" ["_law_net_here", "_law_number"] (spCase K) := kept_of F._law_case fun f fd Fn => by
  refine Fn.ok sc__law_case (fun vs H Q E h => ?_) (fun cdv Ar outer s H vs Q E hr h => ?_)
  · obtain ⟨x, n, N, rfl, _⟩ := h
    rfl
  · obtain ⟨x, n, N, rfl, hN, hz, k⟩ := h
    refine ⟨_, (pss_one (ps_ret (pe_lc (g := gName 2) (tt := tYes) (te := tOp (rIxL K) (tLst (tCons (tC (.str "on")) (tCons (tC (.str "off")) (tCons (tC (.str "open")) tNil)))) (tOp (rI (fun _ j => 0 < j) fun i j => .int (i % j)) (tCall spMixed [] E0 (tCons (tVar 1) (tCons (tOp (rI0 fun i j => .int (i + j)) (tC (.int 20)) (tVar 2)) tNil))) (tC (.int 3)))) (own := [("_law_k", 2)]) (by rfl) sc__law_case.nd (pi_range1 (by rfl) T.b_range (pa_cons (pe_callB call_len_seq (by rfl) T.b_len PySem.boot_len (pa_cons (pe_k (ok__law_bends T F) (hr.mono (by decide)) rfl (pa_cons (pv 0) pa_nil)) pa_nil)) pa_nil)) (blkOk_by (own := [("_law_k", 2)]) (N := ["_law_net_here", "_law_number", "_law_k"]) (sc := defScope s__law_case) (by decide +kernel)) (fun _ _ _ _ _ => by exact (pg_name (i := 2) sc__law_case.nd rfl (Or.inl rfl))) (fun _ _ _ _ _ => pts_nil) (fun _ _ _ _ _ => (pe_ix ix_list (pe_lst (pa_cons pe_str (pa_cons pe_str (pa_cons pe_str pa_nil)))) (pe_op op_mod (pe_k (ok__law_mixed T F) (hr.mono (by decide)) rfl (pa_cons (pv 1) (pa_cons (pe_op op_add pe_int (pv 2)) pa_nil))) pe_int) (fun _ _ => rfl)))))), ?_⟩
    refine ⟨_, rfl, x, N, rfl, hN, hz, ?_⟩
    rintro H1 v1 s1 ⟨b, bs, rfl, hb, pb⟩
    have lb := pb.length
    rw [bendsAt_len] at lb
    have bn := bendsN_le N.us
    refine ⟨b, bs, rfl, .inl (SqL.of (fr_sub _ _ hb)), (bs.length : Int), rfl, by omega, by omega, fun D hD =>
      lc_it walk_range (fun i Hc => Same H1 Hc ∧ ∃ (vs : List V) (cs : List C3), Hc D = some (.lst vs) ∧ Paired (rC3 Hc) vs cs ∧ cs.length = i) ⟨same_new hD, [], [], upd_same, .nil, rfl⟩ (fun i Hc _ h => True.intro) ?_ ?_⟩
    · rintro i v Hc H' hi ⟨sc, vs, cs, hv, pv, lcs⟩ ⟨rfl, rfl⟩
      refine ⟨rfl, ?_⟩
      refine ⟨by show 3 ≤ sizeLine; decide, fun q hq => ⟨_, rfl, _, rfl, _, _, rfl, rfl, n, _, rfl, fun r h0 h1 => ?_⟩⟩
      obtain ⟨c, ec⟩ := c3_at h0
      have s2 : Same H' (upd H' q (.lst [.str "on", .str "off", .str "open"])) := same_new hq
      refine ⟨_, _, rfl, rfl, by show (0 : Int) < 3; decide, q, _, _, _, rfl, rfl, SqL.of upd_same, ec, vs, s2 _ _ hv, Nat.lt_of_le_of_lt (show vs.length ≤ 100 by rw [pv.length]; omega) (by decide), ?_⟩
      exact ⟨same_mut (sc.trans s2) hD, _, cs ++ [c], upd_same, (pv.mono fun _ _ h => h).snoc rfl, by rw [List.length_append, lcs]; rfl⟩
    · rintro Hc ⟨sc, vs, cs, hv, pv, lcs⟩
      have nD := s1.free hD
      exact k Hc _ cs (s1.trans sc) (by omega) ⟨D, vs, rfl, by rw [fr_new nD]; exact hv, pv.mono fun _ _ h => h⟩
end
end BP
end


/-! A15 -/
section
set_option maxHeartbeats 4000000
namespace BP
open PySem L2
section
variable {P : Program} {w : World} {K : PySem.W.Frag} {mg : Str → Option Value} {base : Heap} {A : Ad}
theorem netOk_snoc {n : Nat} {us : List U} {u : U} (h : NetOk n us) (hu : UOk (n + us.length) u) : NetOk n (us ++ [u]) := fun i v hv => by
  by_cases hi : i < us.length
  · rw [List.getElem?_append_left hi] at hv
    exact h i v hv
  · rw [List.getElem?_append_right (by omega)] at hv
    have e : i - us.length = 0 := by
      have := (List.getElem?_eq_some_iff.mp hv).1
      simp at this
      omega
    rw [e] at hv
    have e2 : u = v := Option.some.inj hv
    have e3 : i = us.length := by omega
    rw [← e2, e3]
    exact hu
theorem ok__law_net (T : Txt K mg A) (F : Fns K mg A) : Kept P w K mg base 5 "_law_net" ["_law_script", "_law_start", "_law_most_bends"] (spNet K) := kept_of F._law_net fun f fd Fn => by
  refine Fn.ok sc__law_net (fun vs H Q E h => ?_) (fun cdv Ar outer s H vs Q E hr h => ?_)
  · obtain ⟨a, ns, rfl, _⟩ := h
    rfl
  · obtain ⟨a, ns, rfl, hs, k⟩ := h
    refine ⟨_, (pss_cons (ps_set (i := 3) sc__law_net.nd rfl (Or.inl rfl) (pe_k (ok__law_seeds T F) (hr.mono (by decide)) rfl (pa_cons (pv 0) (pa_cons (pv 1) (pa_cons pe_int pa_nil)))))
      (pss_cons (ps_asg (pe_callB call_divmod (by rfl) T.b_divmod (by decide +kernel) (pa_cons (pe_ix ix_list (pv 3) pe_int (fun _ _ => rfl)) (pa_cons pe_int pa_nil))) (pg_tup rfl (pgs_cons (pg_name (i := 4) sc__law_net.nd rfl (Or.inl rfl)) (pgs_cons (pg_name (i := 5) sc__law_net.nd rfl (Or.inl rfl)) pgs_nil))))
      (pss_cons (ps_set (i := 6) sc__law_net.nd rfl (Or.inl rfl) (pe_op op_add pe_int (pv 5)))
      (pss_cons (ps_set (i := 7) sc__law_net.nd rfl (Or.inl rfl) (pe_cmpR op_eq (pe_op op_mod (pv 4) pe_int) pe_int (nomark _)))
      (pss_cons (ps_set (i := 8) sc__law_net.nd rfl (Or.inl rfl) (pe_op op_add pe_int (pe_op op_mod (pe_op op_fdiv (pv 4) pe_int) pe_int)))
      (pss_cons (ps_set (i := 4) sc__law_net.nd rfl (Or.inl rfl) (pe_op op_fdiv (pv 4) pe_int))
      (pss_cons (ps_set (i := 9) sc__law_net.nd rfl (Or.inl rfl) (pe_lst pa_nil))
      (pss_cons (ps_set (i := 10) sc__law_net.nd rfl (Or.inl rfl) pe_int)
      (pss_cons (ps_j (ps_if (pt_val (pv 7)) (pss_one (ps_set (i := 2) sc__law_net.nd rfl (Or.inl rfl) (pe_callB (call_min2 rfl) (by rfl) T.b_min (by decide +kernel) (pa_cons (pv 2) (pa_cons pe_int pa_nil)))))
        pss_nil))
      (pss_cons (ps_for PassesOwn.never rfl (pi_list (pe_slice sl_list (pv 3) (po_some pe_int) (po_some (pe_op op_add pe_int (pv 8))))) (pg_name (i := 11) sc__law_net.nd rfl (Or.inl rfl))
        (pss_cons (ps_set (i := 12) sc__law_net.nd rfl (Or.inl rfl) (pe_k (ok__law_unit T F) (hr.mono (by decide)) rfl (pa_cons (pv 11) (pa_cons (pe_op op_add (pv 6) (pe_callB call_len_seq (by rfl) T.b_len PySem.boot_len (pa_cons (pv 9) pa_nil))) (pa_cons (pe_cmpR op_lt (pv 10) (pv 2) (nomark _)) (pa_cons (pv 7) pa_nil))))))
        (pss_cons (ps_set (i := 10) sc__law_net.nd rfl (Or.inl rfl) (pe_op op_add (pv 10) (pe_callTy call_int1 (by rfl) T.b_int (by decide +kernel) (pa_cons (pe_cmpR op_eq (pe_ix ix_tup (pv 12) pe_int (fun _ _ => rfl)) pe_str (nomark _)) pa_nil))))
        (pss_one (ps_expr (pe_bm PySem.F.plainAttrs_list PySem.F.slot_list_append PySem.F.type_list_append mt_append (pv 9) (pa_cons (pv 12) pa_nil)))))))
      (pss_cons (ps_set (i := 13) sc__law_net.nd rfl (Or.inl rfl) (pe_lst (pa_cons (pe_op op_sub (pe_op op_add (pv 6) (pv 8)) pe_int) pa_nil)))
      (pss_cons (ps_for PassesOwn.never rfl (pi_range1 (by rfl) T.b_range (pa_cons (pe_op op_mod (pv 4) pe_int) pa_nil)) (pg_name (i := 14) sc__law_net.nd rfl (Or.inl rfl))
        (pss_cons (ps_set (i := 4) sc__law_net.nd rfl (Or.inl rfl) (pe_op op_fdivW (pv 4) (pe_op op_add (pv 6) (pv 8))))
        (pss_one (ps_expr (pe_bm PySem.F.plainAttrs_list PySem.F.slot_list_append PySem.F.type_list_append mt_append (pv 13) (pa_cons (pe_op op_mod (pv 4) (pe_op op_add (pv 6) (pv 8))) pa_nil))))))
      (pss_one (ps_ret (pe_tup (pa_cons (pv 6) (pa_cons (pv 9) (pa_cons (pv 13) pa_nil)))))))))))))))))), ?_⟩
    refine ⟨_, rfl, _, rfl, a, ns, 1, 13, rfl, hs, by decide, fun H1 p rs s1 hp hlen hr0 hrs => ?_⟩
    have hr1 : 0 < rs.length := by omega
    have e0 : (rs.map V.int)[0]? = some (.int rs[0]) := by
      rw [List.getElem?_map, List.getElem?_eq_getElem hr1]
      rfl
    have z0' := hr0 _ (List.getElem_mem hr1)
    generalize rs[0] = r0 at e0 z0'
    refine ⟨_, rfl, p, _, 0, _, rfl, rfl, SqL.of hrs, atI_nat (j := 0) e0, _, _, rfl, ⟨by decide, by decide⟩, fun p2 hp2 => ⟨p2, _, rfl, SqT.of upd_same, rfl, _, _, rfl, _, _, rfl, rfl, ?_⟩⟩
    have s2 := s1.trans (same_new (o := .tup [.int (r0 / 3), .int (r0 % 3)]) hp2)
    have hrs2 := same_new (o := .tup [.int (r0 / 3), .int (r0 % 3)]) hp2 _ _ hrs
    have l0 : 0 ≤ r0 / 3 := by omega
    have m0 := Int.emod_nonneg r0 (show (3 : Int) ≠ 0 by decide)
    have m1 := Int.emod_lt_of_pos r0 (show (0 : Int) < 3 by decide)
    generalize upd H1 p2 (.tup [.int (r0 / 3), .int (r0 % 3)]) = H2 at s2 hrs2 ⊢
    generalize r0 / 3 = ld at l0 ⊢
    generalize r0 % 3 = mr at m0 m1 ⊢
    obtain ⟨M, eM⟩ : ∃ M : Nat, 1 + mr = (M : Int) := ⟨(1 + mr).toNat, by omega⟩
    refine ⟨_, rfl, _, _, rfl, rfl, ?_⟩
    refine gname_eq (i := 6) (v' := .int (M : Int)) (by show V.int (1 + mr) = _; rw [eM]) ?_
    refine ⟨_, rfl, _, _, rfl, rfl, by show (0 : Int) < 8; decide, rfl, ?_⟩
    refine gname_eq (i := 7) (v' := .bl (decide (V.int (ld % 8) = V.int 0))) rfl ?_
    generalize decide (V.int (ld % 8) = V.int 0) = g
    have s0 := Int.emod_nonneg (ld / 8) (show (12 : Int) ≠ 0 by decide)
    have s1' := Int.emod_lt_of_pos (ld / 8) (show (0 : Int) < 12 by decide)
    obtain ⟨S, eS⟩ : ∃ S : Nat, 1 + ld / 8 % 12 = (S : Int) := ⟨(1 + ld / 8 % 12).toNat, by omega⟩
    refine ⟨_, rfl, _, _, rfl, rfl, ⟨by decide, by decide⟩, _, _, rfl, rfl, by show (0 : Int) < 12; decide, _, _, rfl, rfl, ?_⟩
    refine gname_eq (i := 8) (v' := .int (S : Int)) (by show V.int (1 + ld / 8 % 12) = _; rw [eS]) ?_
    refine ⟨_, rfl, _, _, rfl, rfl, ⟨by decide, by decide⟩, ?_⟩
    refine gname_eq (i := 4) (v' := .int (ld / 96)) rfl ?_
    have l1 : 0 ≤ ld / 96 := by omega
    have hM1 : 1 ≤ M := by omega
    have hM3 : M ≤ 3 := by omega
    have hS1 : 1 ≤ S := by omega
    have hS12 : S ≤ 12 := by omega
    generalize ld / 96 = ld2 at l1 ⊢
    refine ⟨Nat.zero_le _, fun ul hul => ?_⟩
    have nul : H ul = none := s2.free hul
    have s3 := s2.trans (same_new (o := .lst []) hul)
    have hrs3 := same_new (o := .lst []) hul _ _ hrs2
    have hul3 : upd H2 ul (.lst []) ul = some (.lst []) := upd_same
    refine gname_eq (i := 9) (v' := .ref ul) rfl ?_
    generalize upd H2 ul (.lst []) = H3 at s3 hrs3 hul3 ⊢
    refine ⟨fun σ H' => ∃ mb : Int, σ = [some (.ref a), some (.int 1), some (.int mb), some (.ref p), some (.int ld2), some (.int mr), some (.int (M : Int)), some (.bl g), some (.int (S : Int)), some (.ref ul), some (.int 0), none, none, none, none] ∧ H' = H3, ?_, ?_⟩
    · refine ⟨_, rfl, _, rfl, ?_⟩
      cases g with
      | false => exact iteF ⟨_, rfl, rfl⟩
      | true => exact iteT ⟨_, rfl, _, _, rfl, _, rfl, rfl⟩
    · rintro σ H' ⟨mb, rfl, rfl⟩
      obtain ⟨ms, ems, lms, hms⟩ := cut_some (rs := rs) (x := 1) (k := S) (by omega) hr0
      refine ⟨_, rfl, 1, rfl, _, rfl, _, _, rfl, rfl, _, rfl, p, _, rfl, SqL.of hrs3, fun q hq => ?_⟩
      have e13 : (1 : Int) + (S : Int) = ((1 + S : Nat) : Int) := by omega
      have s4 : Same H' (upd H' q (.lst (cutV (rs.map V.int) (some 1) (some (1 + (S : Int)))))) := same_new hq
      have hq4 : upd H' q (.lst (cutV (rs.map V.int) (some 1) (some (1 + (S : Int))))) q = some (.lst (ms.map V.int)) := by
        rw [upd_same, e13]
        exact congrArg (fun z => some (HO.lst z)) ems
      have hul4 := s4 _ _ hul3
      have s04 := s3.trans s4
      have nq : q ≠ ul := (ne_of_none hul3 hq).symm
      generalize upd H' q (.lst (cutV (rs.map V.int) (some 1) (some (1 + (S : Int))))) = H4 at s4 hq4 hul4 s04 ⊢
      have hqh : (hide ul H4) q = some (.lst (ms.map V.int)) := by rw [hide_at nq]; exact hq4
      refine ⟨q, rfl, ⟨_, SqL.of hq4⟩, for_list (K := K) (a := q) (xs := ms.map V.int) (fun i σ Hc => ∃ (bh : Int) (v11 v12 : Option V) (vt : List V) (us : List U), σ = [some (.ref a), some (.int 1), some (.int mb), some (.ref p), some (.int ld2), some (.int mr), some (.int (M : Int)), some (.bl g), some (.int (S : Int)), some (.ref ul), some (.int bh), v11, v12, none, none] ∧
        Same H Hc ∧ Same (hide ul H4) Hc ∧ Hc ul = some (.lst vt) ∧ Paired (rUnit K (hide ul (fr H Hc))) vt us ∧ us.length = i ∧ NetOk M us) ⟨0, none, none, [], [], rfl, s04, hide_sub, hul4, .nil, rfl, fun i u h => by simp at h⟩
        (fun i σ Hc _ ⟨_, _, _, _, _, _, _, sh, _⟩ => SqL.of (sh _ _ hqh)) ?_ ?_⟩
      · rintro i x σ Hc hi ⟨bh, v11, v12, vt, us, rfl, sc, sh, hv, pv, lus, nok⟩
        obtain ⟨n, rfl, hn⟩ := int_at hi
        have n0 := hms n hn
        have hi2 : i < S := by
          have := (List.getElem?_eq_some_iff.mp hi).1
          rw [List.length_map] at this
          omega
        have lvt := pv.length
        refine ⟨_, rfl, _, rfl, _, rfl, ul, vt, rfl, .inl (SqL.of hv), _, _, rfl, rfl, _, rfl, _, rfl, _, _, rfl, rfl, _, rfl, n, M + us.length, decide (bh < mb), g, ?_, n0, by omega, by omega, fun H5 v5 u s5 hu r5 => ?_⟩
        · show [V.int n, V.int ((M : Int) + (vt.length : Int)), V.bl (decide (bh < mb)), V.bl g] = _
          rw [lvt, Int.natCast_add]
        · have s05 := sc.trans s5
          have ru : rUnit K H5 v5 u := m_unit _ _ _ _ fr_sub r5
          have fin : ∀ (bh' : Int), ∃ (bh : Int) (v11 v12 : Option V) (vt' : List V) (us' : List U), [some (.ref a), some (.int 1), some (.int mb), some (.ref p), some (.int ld2), some (.int mr), some (.int (M : Int)), some (.bl g), some (.int (S : Int)), some (.ref ul), some (.int bh'), some (.int n), some v5, none, none] = [some (.ref a), some (.int 1), some (.int mb), some (.ref p), some (.int ld2), some (.int mr), some (.int (M : Int)), some (.bl g), some (.int (S : Int)), some (.ref ul), some (.int bh), v11, v12, none, none] ∧
              Same H (upd H5 ul (.lst (vt ++ [v5]))) ∧ Same (hide ul H4) (upd H5 ul (.lst (vt ++ [v5]))) ∧ (upd H5 ul (.lst (vt ++ [v5]))) ul = some (.lst vt') ∧ Paired (rUnit K (hide ul (fr H (upd H5 ul (.lst (vt ++ [v5])))))) vt' us' ∧ us'.length = i + 1 ∧ NetOk M us' := fun bh' => by
            refine ⟨bh', _, _, _, us ++ [u], rfl, same_mut s05 nul, same_mut (sh.trans s5) hide_self, upd_same, ?_, by rw [List.length_append, lus]; rfl, netOk_snoc nok hu⟩
            rw [hide_fr_upd]
            exact (p_sm m_unit (same_hide (fr_mono s5)) pv).snoc (m_unit _ _ _ _ (fr_in sc hv) r5)
          have hlv : vt.length < sizeLine := Nat.lt_of_le_of_lt (show vt.length ≤ 100 by omega) (by decide)
          cases u with
          | bend pp =>
            obtain ⟨t5, rfl, q5⟩ := ru
            refine ⟨_, rfl, _, rfl, t5, _, _, _, rfl, rfl, q5, rfl, rfl, .inr ⟨_, rfl, _, _, rfl, rfl, ?_⟩⟩
            exact ⟨_, rfl, .inl ⟨rfl, _, SqL.of (s5 _ _ hv)⟩, _, rfl, ul, vt, _, rfl, rfl, s5 _ _ hv, hlv, fin _⟩
          | sum c ts =>
            obtain ⟨t5, x5, y5, rfl, q5, _⟩ := ru
            refine ⟨_, rfl, _, rfl, t5, _, _, _, rfl, rfl, q5, rfl, rfl, .inr ⟨_, rfl, _, _, rfl, rfl, ?_⟩⟩
            exact ⟨_, rfl, .inl ⟨rfl, _, SqL.of (s5 _ _ hv)⟩, _, rfl, ul, vt, _, rfl, rfl, s5 _ _ hv, hlv, fin _⟩
      · rintro σ Hc ⟨bh, v11, v12, vt, us, rfl, sc, sh, hv, pv, lus, nok⟩
        rw [List.length_map, lms] at lus
        refine ⟨_, rfl, _, rfl, _, _, rfl, rfl, _, _, rfl, rfl, Nat.le_trans (show 1 ≤ 100 by decide) (by decide), fun ol hol => ?_⟩
        have nol : H ol = none := sc.free hol
        have s5 : Same Hc (upd Hc ol (.lst [.int ((M : Int) + (S : Int) - 1)])) := same_new hol
        have ho5 : upd Hc ol (.lst [.int ((M : Int) + (S : Int) - 1)]) ol = some (.lst [.int ((M : Int) + (S : Int) - 1)]) := upd_same
        have nuo : ul ≠ ol := ne_of_none hv hol
        refine gname_eq (i := 13) (v' := .ref ol) rfl ?_
        generalize upd Hc ol (.lst [.int ((M : Int) + (S : Int) - 1)]) = H5 at s5 ho5 ⊢
        have t0 := Int.emod_nonneg ld2 (show (3 : Int) ≠ 0 by decide)
        have t1 := Int.emod_lt_of_pos ld2 (show (0 : Int) < 3 by decide)
        refine ⟨_, rfl, _, _, rfl, rfl, by show (0 : Int) < 3; decide, _, rfl, ?_, ?_, ?_⟩
        · show -(2 ^ 62) ≤ ld2 % 3
          omega
        · show ld2 % 3 < 2 ^ 62
          omega
        have ht : (ld2 % 3).toNat ≤ 2 := by omega
        show ∃ W : Nat → Nat → L2.St → Hp → Prop, _
        refine for_range (lo := 0) (n := (ld2 % 3).toNat) (fun i σ Hd => ∃ (ld3 : Int) (v14 : Option V) (os : List Nat), σ = [some (.ref a), some (.int 1), some (.int mb), some (.ref p), some (.int ld3), some (.int mr), some (.int (M : Int)), some (.bl g), some (.int (S : Int)), some (.ref ul), some (.int bh), v11, v12, some (.ref ol), v14] ∧
          0 ≤ ld3 ∧ Same Hc Hd ∧ Hd ol = some (.lst (os.map nV)) ∧ os.length = 1 + i ∧ ∀ o ∈ os, o < M + S) ⟨ld2, none, [M + S - 1], rfl, l1, s5, ?_, rfl, fun o ho => ?_⟩ ?_ ?_
        · rw [ho5]
          show some (HO.lst [V.int ((M : Int) + (S : Int) - 1)]) = some (HO.lst [V.int ((M + S - 1 : Nat) : Int)])
          rw [show ((M + S - 1 : Nat) : Int) = (M : Int) + (S : Int) - 1 by omega]
        · rw [List.mem_singleton.mp ho]
          omega
        · rintro i σ Hd hi ⟨ld3, v14, os, rfl, h3, sd, hos, los, oos⟩
          have pMS : (0 : Int) < (M : Int) + (S : Int) := by omega
          have dMS := divw_small (i := ld3) pMS (small89 pMS (by omega))
          refine ⟨_, rfl, _, rfl, _, rfl, _, _, rfl, rfl, _, _, rfl, rfl, dMS, ?_⟩
          have h4 : 0 ≤ ld3 / ((M : Int) + (S : Int)) := Int.ediv_nonneg h3 (Int.le_of_lt pMS)
          refine gname_eq (i := 4) (v' := .int (ld3 / ((M : Int) + (S : Int)))) rfl ?_
          generalize ld3 / ((M : Int) + (S : Int)) = ld4 at h4 ⊢
          have z0 := Int.emod_nonneg ld4 (Int.ne_of_gt pMS)
          have z1 := Int.emod_lt_of_pos ld4 pMS
          refine ⟨_, rfl, .inl ⟨rfl, _, SqL.of hos⟩, ?_⟩
          refine ⟨_, rfl, _, rfl, _, rfl, _, _, rfl, rfl, _, _, rfl, rfl, pMS, ol, os.map nV, _, rfl, rfl, hos, ?_, ?_⟩
          · rw [List.length_map]
            exact Nat.lt_of_le_of_lt (show os.length ≤ 100 by omega) (by decide)
          · obtain ⟨o, eo⟩ : ∃ o : Nat, ld4 % ((M : Int) + (S : Int)) = (o : Int) := ⟨(ld4 % ((M : Int) + (S : Int))).toNat, by omega⟩
            refine ⟨ld4, _, os ++ [o], rfl, h4, same_mut sd hol, ?_, by rw [List.length_append, los]; show 1 + i + 1 = 1 + (i + 1); omega, fun o' ho' => ?_⟩
            · rw [upd_same, List.map_append]
              show some (HO.lst (List.map nV os ++ [V.int (ld4 % ((M : Int) + (S : Int)))])) = _
              rw [eo]
              rfl
            · rcases List.mem_append.mp ho' with h | h
              · exact oos o' h
              · rw [List.mem_singleton.mp h]
                omega
        · rintro σ Hd ⟨ld3, v14, os, rfl, h3, sd, hos, los, oos⟩
          refine ⟨_, rfl, _, rfl, _, rfl, by show 3 ≤ sizeLine; decide, fun pt hpt => ?_⟩
          have s6 : Same Hd (upd Hd pt (.tup [.int (M : Int), .ref ul, .ref ol])) := same_new hpt
          have scd := sc.trans sd
          have s06 := scd.trans s6
          refine k _ _ ⟨M, us, os⟩ s06 ⟨hM1, by show M ≤ 6; omega, by show us.length ≤ 12; omega, nok⟩ ⟨by show 1 ≤ os.length; omega, by show os.length ≤ 12; omega, fun o ho => by show o < M + us.length; rw [lus]; exact oos o ho⟩ ?_
          refine ⟨pt, .ref ul, .ref ol, rfl, SqT.of (by rw [fr_new (scd.free hpt), upd_same]), ⟨ul, vt, rfl, by rw [fr_new nul]; exact (sd.trans s6) _ _ hv, ?_⟩, ⟨ol, os.map nV, rfl, by rw [fr_new nol]; exact s6 _ _ hos, ?_⟩⟩
          · exact p_sm m_unit (fun b o h => fr_mono (sd.trans s6) _ _ (hide_sub _ _ h)) pv
          · have : ∀ l : List Nat, Paired (rNat (fr H (upd Hd pt (.tup [.int (M : Int), .ref ul, .ref ol])))) (l.map nV) l := fun l => by
              induction l with
              | nil => exact .nil
              | cons x r ih => exact .cons rfl ih
            exact this os
end
end BP
end


/-! A16 -/
section
set_option maxHeartbeats 4000000
namespace BP
open PySem L2
/-- what stands twice for the same is alike -/
def AlR (K : PySem.W.Frag) {α : Type} (G : α → Prop) (R : Rp α) (n : Nat) : Prop := ∀ H x y u, G u → R H x u → R H y u → Al K n H x y
section
variable {K : PySem.W.Frag} {α β : Type} {R : Rp α} {S : Rp β} {G : α → Prop} {J : β → Prop} {n : Nat}
theorem al_int : AlR K (fun _ => True) rInt n := fun H x y u _ h1 h2 => by
  cases n with
  | zero => exact ⟨u, h1, h2⟩
  | succ n => exact .inl ⟨u, h1, h2⟩
theorem al_pair (hR : AlR K G R n) (hS : AlR K J S n) : AlR K (fun p => G p.1 ∧ J p.2) (rPair K R S) (n + 1) := fun H x y p g h1 h2 => by
  obtain ⟨a, x1, x2, rfl, qa, r1, r2⟩ := h1
  obtain ⟨b, y1, y2, rfl, qb, s1, s2⟩ := h2
  refine .inr ⟨a, b, [x1, x2], [y1, y2], rfl, rfl, .inr ⟨qa, qb⟩, rfl, by show 2 ≤ 1000; decide, fun i u v hu hv => ?_⟩
  match i, hu, hv with
  | 0, hu, hv =>
    cases hu
    cases hv
    exact hR _ _ _ _ g.1 r1 s1
  | 1, hu, hv =>
    cases hu
    cases hv
    exact hS _ _ _ _ g.2 r2 s2
  | i + 2, hu, hv => simp at hu
theorem al_lst (hR : AlR K G R n) : AlR K (fun l => l.length ≤ 1000 ∧ ∀ u ∈ l, G u) (rLst R) (n + 1) := fun H x y l g h1 h2 => by
  obtain ⟨a, xs, rfl, qa, pa⟩ := h1
  obtain ⟨b, ys, rfl, qb, pb⟩ := h2
  have la := pa.length
  have lb := pb.length
  have gl := g.1
  refine .inr ⟨a, b, xs, ys, rfl, rfl, .inl ⟨qa, qb⟩, by omega, by omega, fun i u v hu hv => ?_⟩
  obtain ⟨o, e1, r1⟩ := pr_get pa hu
  obtain ⟨o', e2, r2⟩ := pr_get pb hv
  rw [e1] at e2
  cases e2
  exact hR _ _ _ _ (g.2 _ (List.mem_of_getElem? e1)) r1 r2
theorem AlR.imp {G' : α → Prop} (h : AlR K G R n) (i : ∀ u, G' u → G u) : AlR K G' R n := fun H x y u g => h H x y u (i u g)
/-- few rows, each of few shares -/
def RowsFew (l : List Rw) : Prop := l.length ≤ 54 ∧ ∀ r ∈ l, r.1.length ≤ 100
theorem al_rows : AlR K RowsFew (rLst (rRow K)) 4 := by
  have h1 : AlR K (fun _ : Rt => True) (rRat K) 1 := (al_pair al_int al_int).imp fun _ _ => ⟨True.intro, True.intro⟩
  have h2 : AlR K (fun _ : Rt => True) (rRat K) 2 := (al_pair al_int al_int).imp fun _ _ => ⟨True.intro, True.intro⟩
  exact (al_lst (al_pair (al_lst h1) h2)).imp fun l h => ⟨Nat.le_trans h.1 (by decide), fun u hu => ⟨⟨Nat.le_trans (h.2 u hu) (by decide), fun _ _ => True.intro⟩, True.intro⟩⟩
end
theorem naF_len (f : List Rt) (x : Rt) : (naF f x).1.length ≤ f.length := by
  show f.tail.length ≤ _
  rw [List.length_tail]
  omega
theorem nbF_len (f : List Rt) (x : Rt) : (nbF f x).1.length ≤ f.length := by
  show (f.tail.map neg).length ≤ _
  rw [List.length_map, List.length_tail]
  omega
theorem addF_len (f g : List Rt) : (addF f g).length ≤ f.length := by
  unfold addF
  rw [List.length_zipWith]
  omega
theorem scaleF_len (f : List Rt) (b : Rt) : (scaleF f b).length = f.length := List.length_map _
theorem thirdF_len (e : Rt × Rt) (src own : List Rt) : (thirdF e src own).1.length ≤ own.length := by
  unfold thirdF
  split
  · exact Nat.le_trans (naF_len _ _) (addF_len _ _)
  · split
    · exact naF_len _ _
    · refine Nat.le_trans (naF_len _ _) (Nat.le_trans (addF_len _ _) ?_)
      rw [scaleF_len]
      exact Nat.le_refl _
theorem bendRows_len {st : C3} {e : Rt × Rt} {src own : List Rt} {m : Nat} (h1 : src.length ≤ m) (h2 : own.length ≤ m) : ∀ r ∈ bendRows st e src own, r.1.length ≤ m := by
  intro r hr
  cases st with
  | on =>
    rw [List.mem_singleton.mp (show r ∈ [nbF src z0] from hr)]
    exact Nat.le_trans (nbF_len _ _) h1
  | off =>
    rw [List.mem_singleton.mp (show r ∈ [naF src z0] from hr)]
    exact Nat.le_trans (naF_len _ _) h1
  | opn =>
    have hr' : r ∈ [nbF own z0, naF (addF src (downF own)) z0, thirdF e src own] := hr
    rcases List.mem_cons.mp hr' with h | h
    · rw [h]
      exact Nat.le_trans (nbF_len _ _) h2
    · rcases List.mem_cons.mp h with h | h
      · rw [h]
        exact Nat.le_trans (naF_len _ _) (Nat.le_trans (addF_len _ _) h1)
      · rw [List.mem_singleton.mp h]
        exact Nat.le_trans (thirdF_len _ _ _) h2
theorem getD_len {F : List (List Rt)} {m : Nat} (h : ∀ f ∈ F, f.length ≤ m) (i : Nat) : (F.getD i []).length ≤ m := by
  by_cases hi : i < F.length
  · exact h _ (getD_mem hi)
  · rw [List.getD_eq_getElem?_getD, List.getElem?_eq_none (by omega)]
    exact Nat.zero_le _
theorem rows_few {many : Nat} {us : List U} {cs : List C3} {S : List (Rt × Rt)} {F : List (List Rt)} (h6 : many ≤ 6) (h12 : us.length ≤ 12) (hF : ∀ f ∈ F, f.length ≤ 100) : RowsFew (rowsF many us cs S F) := by
  refine ⟨?_, fun r hr => ?_⟩
  · unfold rowsF
    have h1 := flat_le (f := inRows S F) (fun a => by show 2 ≤ 3; omega) (List.range many)
    have h2 := flat_le (f := rowsOfBend many us S F) (fun a => bendRows_le _ _ _ _) (cs.zip (bendsAt many us))
    have h3 := bendsN_le us
    rw [List.length_range] at h1
    rw [List.length_zip, bendsAt_len] at h2
    rw [List.length_append]
    omega
  · unfold rowsF at hr
    rcases List.mem_append.mp hr with h | h
    · obtain ⟨k, _, h⟩ := List.mem_flatMap.mp h
      rcases List.mem_cons.mp (show r ∈ [naF (F.getD k []) (S.getD k dflE).2, nbF (F.getD k []) (S.getD k dflE).1] from h) with h | h
      · rw [h]
        exact Nat.le_trans (naF_len _ _) (getD_len hF k)
      · rw [List.mem_singleton.mp h]
        exact Nat.le_trans (nbF_len _ _) (getD_len hF k)
    · obtain ⟨q, _, h⟩ := List.mem_flatMap.mp h
      exact bendRows_len (getD_len hF _) (getD_len hF _) r h
end BP
end


/-! A17 -/
section
set_option maxHeartbeats 4000000
namespace BP
open PySem L2
def spLaw (K : PySem.W.Frag) : Sp := fun vs H Q _ => ∃ (a : Addr) (ns : List Int), vs = [.ref a] ∧ SqL K H a (ns.map V.int) ∧ ∀ H', Q (.bl true) H'
section
variable {P : Program} {w : World} {K : PySem.W.Frag} {mg : Str → Option Value} {base : Heap} {A : Ad}
theorem ok__law_alike (T : Txt K mg A) (F : Fns K mg A) : Kept P w K mg base 5 "_law_alike" ["_law_found", "_law_due_here"] (spAlike K 4) := ok_alike T F 4
theorem ok_law {f : Addr} {fd : FuncData} (Fn : Fun K "law" "law" s_law f fd) (T : Txt K mg A) (F : Fns K mg A) : FnOk P w K mg base CX0 10 f fd ["_law_script"] (spLaw K) := by
  refine Fn.ok sc_law (fun vs H Q E h => ?_) (fun cdv Ar outer s H vs Q E hr h => ?_)
  · obtain ⟨a, ns, rfl, _⟩ := h
    rfl
  · obtain ⟨a, ns, rfl, hs, k⟩ := h
    refine ⟨_, (pss_cons (ps_set (i := 1) sc_law.nd rfl (Or.inl rfl) (pe_k (ok__law_net T F) (hr.mono (by decide)) rfl (pa_cons (pv 0) (pa_cons pe_int (pa_cons pe_int pa_nil)))))
      (pss_cons (ps_set (i := 2) sc_law.nd rfl (Or.inl rfl) (pe_mk T.mkNet (ok_Net___init__ T F) (hr.mono (by decide)) rfl T.gNet (pa_cons (pe_ix ix_tup (pv 1) pe_int (fun _ _ => rfl)) (pa_cons (pe_ix ix_tup (pv 1) pe_int (fun _ _ => rfl)) (pa_cons (pe_ix ix_tup (pv 1) pe_int (fun _ _ => rfl)) pa_nil)))))
      (pss_cons (ps_set (i := 3) sc_law.nd rfl (Or.inl rfl) (pe_k (ok__law_sides T F) (hr.mono (by decide)) rfl (pa_cons (pv 0) (pa_cons pe_int (pa_cons (pe_ix ix_tup (pv 1) pe_int (fun _ _ => rfl)) pa_nil)))))
      (pss_cons (ps_set (i := 4) sc_law.nd rfl (Or.inl rfl) (pe_lst (pa_cons (pe_mk T.mkBox (ok_Box___init__ T F) (hr.mono (by decide)) rfl T.gBox (pa_cons (pv 3) pa_nil)) (pa_cons (pe_mk T.mkBox (ok_Box___init__ T F) (hr.mono (by decide)) rfl T.gBox (pa_cons (pe_lc (g := gTup K 2 (gCons (gName 13) (gCons (gName 14) (gNil)))) (tt := tYes) (own := [("_law_low", 13), ("_law_high", 14)]) (by rfl) sc_law.nd (pi_list (pv 3)) (blkOk_by (own := [("_law_low", 13), ("_law_high", 14)]) (N := ["_law_script", "_law_told", "_law_net_here", "_law_sides_here", "_law_boxes_here", "_law_lead", "_law_k", "_law_box", "_law_case_here", "_law_due_here", "_law_found", "_law_shares", "_law_bound", "_law_low", "_law_high"]) (sc := defScope s_law) (by decide +kernel)) (fun _ _ _ _ _ => by exact (pg_tup rfl (pgs_cons (pg_name (i := 13) sc_law.nd rfl (Or.inl rfl)) (pgs_cons (pg_name (i := 14) sc_law.nd rfl (Or.inl rfl)) pgs_nil)))) (fun _ _ _ _ _ => pts_nil) (fun _ _ _ _ _ => (pe_tup (pa_cons (pv 13) (pa_cons (pe_k (ok__law_sum T F) (hr.mono (by decide)) rfl (pa_cons (pv 14) (pa_cons (pe_tup (pa_cons pe_int (pa_cons pe_int pa_nil))) pa_nil))) pa_nil))))) pa_nil)) pa_nil))))
      (pss_cons (ps_set (i := 5) sc_law.nd rfl (Or.inl rfl) (pe_k (ok__law_mixed T F) (hr.mono (by decide)) rfl (pa_cons (pe_k (ok__law_cell_at T F) (hr.mono (by decide)) rfl (pa_cons (pv 0) (pa_cons pe_int pa_nil))) (pa_cons pe_int pa_nil))))
      (pss_cons (ps_for PassesOwn.never rfl (pi_range1 (by rfl) T.b_range (pa_cons pe_int pa_nil)) (pg_name (i := 6) sc_law.nd rfl (Or.inl rfl))
        (pss_cons (ps_set (i := 7) sc_law.nd rfl (Or.inl rfl) (pe_ix ix_list (pv 4) (pe_op op_mod (pv 6) pe_int) (fun _ _ => rfl)))
        (pss_cons (ps_set (i := 8) sc_law.nd rfl (Or.inl rfl) (pe_k (ok__law_case T F) (hr.mono (by decide)) rfl (pa_cons (pv 1) (pa_cons (pe_k (ok__law_mixed T F) (hr.mono (by decide)) rfl (pa_cons (pv 5) (pa_cons (pe_op op_add pe_int (pv 6)) pa_nil))) pa_nil))))
        (pss_cons (ps_set (i := 9) sc_law.nd rfl (Or.inl rfl) (pe_k (ok__law_due T F) (hr.mono (by decide)) rfl (pa_cons (pv 1) (pa_cons (pv 8) (pa_cons (pe_k (ok_forms_in T F) (hr.mono (by decide)) rfl (pa_cons (pv 2) (pa_cons (pv 8) pa_nil))) (pa_cons (pe_k (ok_spans T F) (hr.mono (by decide)) rfl (pa_cons (pv 2) (pa_cons (pv 7) pa_nil))) pa_nil))))))
        (pss_cons (ps_set (i := 10) sc_law.nd rfl (Or.inl rfl) (pe_k (ok_rows_in T F) (hr.mono (by decide)) rfl (pa_cons (pv 2) (pa_cons (pv 7) (pa_cons (pe_callTy call_list_of (by rfl) T.b_list (by decide +kernel) (pa_cons (pv 8) pa_nil)) pa_nil)))))
        (pss_cons (ps_if (pt_not (pt_val (pe_k (ok__law_alike T F) (hr.mono (by decide)) rfl (pa_cons (pv 10) (pa_cons (pv 9) pa_nil))))) (pss_one (ps_ret pe_bl))
          pss_nil)
        (pss_cons (ps_for PassesOwn.never rfl (pi_list (pv 10)) (pg_tup rfl (pgs_cons (pg_name (i := 11) sc_law.nd rfl (Or.inl rfl)) (pgs_cons (pg_name (i := 12) sc_law.nd rfl (Or.inl rfl)) pgs_nil)))
          (pss_one (ps_expr (pe_bm PySem.F.plainAttrs_list PySem.F.slot_list_append PySem.F.type_list_append mt_append (pv 11) (pa_cons (pe_tup (pa_cons pe_int (pa_cons pe_int pa_nil))) pa_nil)))))
        (pss_cons (ps_expr (pe_bm0 PySem.F.plainAttrs_list PySem.F.slot_list_clear PySem.F.type_list_clear mt_clear (pv 10)))
        (pss_one (ps_if (pt_not (pt_val (pe_k (ok__law_alike T F) (hr.mono (by decide)) rfl (pa_cons (pe_k (ok_rows_in T F) (hr.mono (by decide)) rfl (pa_cons (pv 2) (pa_cons (pv 7) (pa_cons (pv 8) pa_nil)))) (pa_cons (pv 9) pa_nil))))) (pss_one (ps_ret pe_bl))
          pss_nil))))))))))
      (pss_one (ps_ret pe_bl)))))))), ?_⟩
    refine ⟨_, rfl, a, ns, rfl, hs, ?_⟩
    rintro H1 v1 N s1 ok oo r1
    have r1' := m_told _ _ _ _ fr_sub r1
    obtain ⟨ta, y, z, rfl, ht, hu, ho⟩ := id r1'
    have okf := ok.few
    have ok6 := ok.m6
    have ok1 := ok.m1
    refine ⟨_, rfl, ta, _, _, _, rfl, rfl, ht, rfl, _, rfl, ta, _, _, _, rfl, rfl, ht, rfl, _, rfl, ta, _, _, _, rfl, rfl, ht, rfl, fun p dx np ndx nex => ?_⟩
    have sp1 := same_new (o := .own p) ndx
    have np1 : upd H1 dx (.own p) p = none := by rw [upd_ne (Ne.symm nex)]; exact np
    refine ⟨H1, p, dx, y, z, N, rfl, sp1.trans (same_new np1), np, upd_same, hu, ho, ok, oo.one, oo.most, oo.ok, fun H2 s2 hnet => ⟨rfl, ?_⟩⟩
    have s12 := s1.trans s2
    refine ⟨_, rfl, _, rfl, ta, _, _, _, rfl, rfl, same_tup s2 _ _ ht, rfl, a, ns, N.many, rfl, s12.seq hs, ok6, ?_⟩
    rintro H3 v3 sd s3 lsd oks r3
    have r3' := m_spans _ _ _ _ fr_sub r3
    obtain ⟨sl, ss, rfl, hsl, psl⟩ := id r3'
    have lss := psl.length
    refine ⟨_, rfl, fun pb db npb ndb neb => ?_⟩
    have sb1 : Same H3 (upd (upd H3 db (.own pb)) pb (.ins A.cB db [])) := (same_new ndb).trans (same_new (by rw [upd_ne (Ne.symm neb)]; exact npb))
    refine ⟨H3, pb, db, .ref sl, sd, rfl, sb1, npb, upd_same, r3', by omega, by omega, SdOk.side (by decide) oks, fun H4 s4 hb1 => ⟨rfl, ?_⟩⟩
    have r4 := m_spans _ _ _ _ s4 r3'
    have hsl4 := s4 _ _ hsl
    have bhalf : Bd 12 1 (1, 2) := ⟨by decide, by decide, by decide, by decide⟩
    refine ⟨_, rfl, sl, rfl, ⟨ss, SqL.of hsl4⟩, fun D hD => lc_m (R := rSpan K) t_span.mon walk_list (sd.map fun e => (e.1, padd e.2 (1, 2))) (by rw [List.length_map]; omega) (by omega) hD (fun H' s => SqL.of (s _ _ hsl4)) (fun _ _ _ _ h => yat_same h) ?_ ?_⟩
    · rintro i x Hc H' u Z Nx hi ho2 sc ⟨rfl, hx⟩ hZ
      obtain ⟨e, e1, q1⟩ := pr_get psl hx
      rw [List.getElem?_map, e1] at ho2
      cases ho2
      obtain ⟨pt, lo, hi', rfl, qt, rlo, rhi⟩ := t_span.mon _ _ _ _ (s4.trans sc) q1
      have ok1 := oks e (List.mem_of_getElem? e1)
      refine ⟨pt, _, rfl, qt, rfl, _, _, rfl, _, _, rfl, rfl, rfl, ?_⟩
      refine ⟨_, rfl, _, rfl, by show 2 ≤ sizeLine; decide, fun pq hpq => ?_⟩
      have s5 : Same H' (upd H' pq (.tup [.int 1, .int 2])) := same_new hpq
      refine ⟨hi', .ref pq, e.2, (1, 2), rfl, t_rat.mon _ _ _ _ s5 rhi, ⟨pq, _, _, rfl, SqT.of upd_same, rfl, rfl⟩, (ok1.hi.lv1 (by decide)).fit (by decide), bhalf.fit (by decide) (by decide) (by decide), fun H6 v6 s6 r6 => ⟨by show 2 ≤ sizeLine; decide, fun pr hpr => ?_⟩⟩
      have s7 : Same H6 (upd H6 pr (.tup [lo, v6])) := same_new hpr
      have s57 := (s5.trans s6).trans s7
      exact hZ _ _ s57 (t_span _ _ _ _ (tk_fr s57) ⟨pr, lo, v6, rfl, SqT.of upd_same, t_rat.mon _ _ _ _ s57 rlo, t_rat.mon _ _ _ _ s7 r6⟩)
    intro H5 s5 r5
    have r5' := m_spans _ _ _ _ fr_sub r5
    have oks2 : ∀ e ∈ sd.map (fun e : Rt × Rt => (e.1, padd e.2 (1, 2))), SdOk 13 e := fun e he => by
      obtain ⟨e', he', rfl⟩ := List.mem_map.mp he
      have o := oks e' he'
      have b2 := Bd.add o.hi bhalf
      exact ⟨o.lo, b2, rat_trans o.hi.pos o.lo.pos b2.pos o.le (padd_ge o.hi.pos bhalf.pos (by decide))⟩
    have lsd2 : (sd.map fun e : Rt × Rt => (e.1, padd e.2 (1, 2))).length = N.many := by rw [List.length_map, lsd]
    generalize (sd.map fun e : Rt × Rt => (e.1, padd e.2 (1, 2))) = sd2 at r5 r5' oks2 lsd2
    intro pc dc npc ndc nec
    have sc1 : Same H5 (upd (upd H5 dc (.own pc)) pc (.ins A.cB dc [])) := (same_new ndc).trans (same_new (by rw [upd_ne (Ne.symm nec)]; exact npc))
    refine ⟨H5, pc, dc, .ref D, sd2, rfl, sc1, npc, upd_same, r5', by omega, by omega, SdOk.side (by decide) oks2, fun H6 s6 hb2 => ⟨rfl, ?_⟩⟩
    refine ⟨by show 2 ≤ sizeLine; decide, fun bl hbl => ?_⟩
    have s7 : Same H6 (upd H6 bl (.lst [.ref pb, .ref pc])) := same_new hbl
    have hbx : upd H6 bl (.lst [.ref pb, .ref pc]) bl = some (.lst [.ref pb, .ref pc]) := upd_same
    have s47 := (s5.trans s6).trans s7
    have s27 := (s3.trans s4).trans s47
    have ksd := SdOk.ks (by decide) oks
    have ksd2 := SdOk.ks (by decide) oks2
    have nB := m_net _ _ _ _ s27 hnet
    have tB := m_told _ _ _ _ (s2.trans s27) r1'
    have bB := m_box _ _ _ _ s47 hb1
    have cB := m_box _ _ _ _ s7 hb2
    have sB := (s12.trans s27).seq hs
    generalize upd H6 bl (.lst [.ref pb, .ref pc]) = B at hbx nB tB bB cB sB ⊢
    have pick : ∀ i : Nat, ∃ (pa : Addr) (sd : List (Rt × Rt)), atI [V.ref pb, .ref pc] ((i : Int) % 2) = some (.ref pa) ∧ rBox K A B (.ref pa) sd ∧ sd.length = N.many ∧ KS 1 sd := fun i => by
      rcases (show (i : Int) % 2 = 0 ∨ (i : Int) % 2 = 1 by omega) with e | e <;> rw [e]
      · exact ⟨pb, sd, rfl, bB, lsd, ksd⟩
      · exact ⟨pc, sd2, rfl, cB, lsd2, ksd2⟩
    refine ⟨_, rfl, a, ns, 0, rfl, sB, fun c => ⟨c, 1, rfl, fun ld l0 l1 => ?_⟩⟩
    refine ⟨4, rfl, by decide, by decide, for_range (lo := 0) (n := 4) (fun i σ Hc => ∃ v6 v7 v8 v9 v10 v11 v12 v13 v14 : Option V, σ = [some (.ref a), some (.ref ta), some (.ref p), some (.ref sl), some (.ref bl), some (.int ld), v6, v7, v8, v9, v10, v11, v12, v13, v14] ∧ Same B Hc)
      ⟨none, none, none, none, none, none, none, none, none, rfl, Same.refl _⟩ ?_ ?_⟩
    · rintro i σ Hc hi ⟨v6, v7, v8, v9, v10, v11, v12, v13, v14, rfl, sc⟩
      obtain ⟨pa, sx, epa, bx, lsx, ksx⟩ := pick i
      refine ⟨_, rfl, _, rfl, _, _, rfl, rfl, by show (0 : Int) < 2; decide, bl, _, _, _, rfl, rfl, SqL.of (sc _ _ hbx), by rw [Int.zero_add]; exact epa, ?_⟩
      refine ⟨_, rfl, _, rfl, _, rfl, _, _, rfl, rfl, ld, _, rfl, fun r q0 q1 => ?_⟩
      refine ⟨_, r, N, rfl, m_told _ _ _ _ sc tB, okf, ?_⟩
      rintro H1' cv cs sa lcs rcs
      have rcs1 := m_cases _ _ _ _ fr_sub rcs
      have sc1 := sc.trans sa
      have okr := opens_le cs
      have bn := bendsN_le N.us
      have sx1 := spans_all ksx (by rw [lsx]; exact ok.ok)
      have fa := forms_all (cs := cs) ok.ok lcs
      refine ⟨_, rfl, _, rfl, _, rfl, _, rfl, _, cv, N, cs, rfl, m_net _ _ _ _ sc1 nB, rcs1, ok, lcs, fun H2' fv sb rf => ?_⟩
      have rf1 := m_forms _ _ _ _ fr_sub rf
      have sc2 := sc1.trans sb
      refine ⟨_, rfl, _, rfl, _, _, N, sx, rfl, m_net _ _ _ _ sc2 nB, m_box _ _ _ _ sc2 bx, ok, lsx, ksx, fun H3' xv sd3 rx => ?_⟩
      have rx1 := m_spans _ _ _ _ fr_sub rx
      have sc3 := sc2.trans sd3
      refine ⟨_, cv, fv, xv, N, spansF sx N.us, cs, formsF N.many N.us cs, N.many + opens cs, rfl, m_told _ _ _ _ sc3 tB, rx1, m_cases _ _ _ _ (sb.trans sd3) rcs1, m_forms _ _ _ _ sd3 rf1,
        ok, by rw [sx1.1, lsx], fa.1, ks_mono sx1.2 (by omega), kf_mono fa.2 (by omega), by omega, lcs, fun H4' dv s4' rd => ?_⟩
      have rd1 := m_rows _ _ _ _ fr_sub rd
      have sc4 := sc3.trans s4'
      have rcs4 := m_cases _ _ _ _ ((sb.trans sd3).trans s4') rcs1
      have few : RowsFew (rowsF N.many N.us cs (spansF sx N.us) (formsF N.many N.us cs)) := rows_few ok6 okf fun f hf => by
        have := (fa.2 f hf).1
        omega
      generalize hrows : rowsF N.many N.us cs (spansF sx N.us) (formsF N.many N.us cs) = rows at rd1 few
      obtain ⟨ca, cvs, rfl, hca, pca⟩ := id rcs4
      refine ⟨_, rfl, _, rfl, _, rfl, ca, cvs, rfl, .inl (SqL.of hca), fun cq hcq => ?_⟩
      have s5' : Same H4' (upd H4' cq (.lst cvs)) := same_new hcq
      have sc5 := sc4.trans s5'
      refine ⟨_, _, .ref cq, N, sx, cs, rfl, m_net _ _ _ _ sc5 nB, m_box _ _ _ _ sc5 bx, ⟨cq, cvs, rfl, upd_same, pca.mono fun _ _ h => h⟩, ok, lsx, ksx, lcs, ?_⟩
      rw [hrows]
      have rd5 := m_rows _ _ _ _ s5' rd1
      have rcs5 := m_cases _ _ _ _ s5' rcs4
      generalize upd H4' cq (.lst cvs) = H5' at sc5 rd5 rcs5 ⊢
      rintro H6' v s6' ⟨fl, ws, rfl, nfl, hfl, pf⟩
      have sc6 := sc5.trans s6'
      have sin : Same (hide fl (fr H5' H6')) H6' := hide_sub.trans fr_sub
      refine ⟨_, rfl, _, rfl, _, _, rfl, al_rows _ _ _ rows few ⟨fl, ws, rfl, hfl, p_sm m_row sin pf⟩ (m_rows _ _ _ _ s6' rd5), fun H7' s7' => ⟨_, rfl, iteF ?_⟩⟩
      have s57' := s6'.trans s7'
      have lws := pf.length
      have hw0 := few.1
      refine ⟨_, rfl, fl, rfl, ⟨ws, SqL.of (s7' _ _ hfl)⟩, for_list (K := K) (a := fl) (xs := ws) (fun j σ Hx => ∃ v11 v12 : Option V, σ = [some (.ref a), some (.ref ta), some (.ref p), some (.ref sl), some (.ref bl), some (.int ld), some (.int (0 + (i : Int))), some (.ref pa), some (.ref ca), some dv, some (.ref fl), v11, v12, v13, v14] ∧
        Same H5' Hx ∧ Hx fl = some (.lst ws) ∧ Tk K H7' Hx ∧ ∀ b xs, hide fl (fr H5' H6') b = some (.lst xs) → ∃ ys, Hx b = some (.lst ys) ∧ ys.length ≤ xs.length + j) ⟨v11, v12, rfl, s57', s7' _ _ hfl, Tk.refl, fun b xs h => ⟨xs, s7' _ _ (sin _ _ h), Nat.le_refl _⟩⟩
        (fun j σ Hx _ ⟨_, _, _, _, h, _, _⟩ => SqL.of h) ?_ ?_⟩
      · rintro j x σ Hx hj ⟨v11, v12, rfl, sx5, hx1, tk, hls⟩
        obtain ⟨row, er, pt, _, bd, rfl, qt, ⟨sha, shs, rfl, hsh, psh⟩, rb⟩ := pr_get pf hj
        have qt1 := tk _ _ (same_tup s7' _ _ (same_tup sin _ _ qt))
        have nsf : sha ≠ fl := fun e => by
          rw [e, hide_self] at hsh
          cases hsh
        have hsh1 : fr H5' H6' sha = some (.lst shs) := hide_sub _ _ hsh
        have nsh : H5' sha = none := fr_fresh s6' hsh1
        obtain ⟨ys, hys, lys⟩ := hls _ _ hsh
        have l100 := few.2 row (List.mem_of_getElem? er)
        have lsh := psh.length
        have hjw : j < ws.length := (List.getElem?_eq_some_iff.mp hj).1
        refine ⟨pt, _, rfl, qt1, rfl, _, _, rfl, _, _, rfl, rfl, ?_⟩
        refine ⟨_, rfl, .inl ⟨rfl, _, SqL.of hys⟩, by show 2 ≤ sizeLine; decide, fun pq hpq => ?_⟩
        have s8 : Same Hx (upd Hx pq (.tup [.int 7, .int 1])) := same_new hpq
        refine ⟨sha, ys, .ref pq, rfl, rfl, s8 _ _ hys, Nat.lt_of_le_of_lt (show ys.length ≤ 1000 by omega) (by decide), ?_⟩
        refine ⟨_, _, rfl, same_mut (sx5.trans s8) nsh, ?_, (tk.trans (same_tup s8)).trans (tk_upd (s8 _ _ hys)), fun b xs h => ?_⟩
        · rw [upd_ne nsf.symm]
          exact s8 _ _ hx1
        · by_cases e : b = sha
          · subst e
            rw [hsh] at h
            cases h
            exact ⟨_, upd_same, by rw [List.length_append]; show ys.length + 1 ≤ _; omega⟩
          · obtain ⟨zs, h1, h2⟩ := hls b xs h
            exact ⟨zs, by rw [upd_ne e]; exact s8 _ _ h1, by omega⟩
      · rintro σ Hx ⟨v11, v12, rfl, sx5, hx1, tk, hls⟩
        refine ⟨_, rfl, .inl ⟨rfl, _, SqL.of hx1⟩, fl, ws, rfl, rfl, hx1, ?_⟩
        have s9 : Same H5' (upd Hx fl (.lst [])) := same_mut sx5 nfl
        generalize upd Hx fl (.lst []) = H8 at s9 ⊢
        have sc8 := sc5.trans s9
        refine ⟨_, rfl, _, rfl, _, rfl, _, _, _, N, sx, cs, rfl, m_net _ _ _ _ sc8 nB, m_box _ _ _ _ sc8 bx, m_cases _ _ _ _ s9 rcs5, ok, lsx, ksx, lcs, ?_⟩
        rw [hrows]
        rintro H9 v s10 rl
        have rl1 := m_rows _ _ _ _ fr_sub (rl.lst m_row)
        refine ⟨_, rfl, _, _, rfl, al_rows _ _ _ rows few rl1 (m_rows _ _ _ _ (s9.trans s10) rd5), fun H10 s11 => ⟨_, rfl, iteF ?_⟩⟩
        exact ⟨_, _, _, _, _, _, _, _, _, rfl, (sc8.trans s10).trans s11⟩
    · rintro σ Hc ⟨v6, v7, v8, v9, v10, v11, v12, v13, v14, rfl, sc⟩
      exact k Hc
end
end BP
end


/-! A18 -/
section
set_option maxHeartbeats 4000000
namespace BP
open PySem L2
theorem has_is_whole {K : PySem.W.Frag} {h : Heap} {mg : Str → Option Value} {f : Addr} {oc : Value} {od an : Option Addr} {sl : Array (Option Value)} {kV dc pm cd ct : Value} (X : K.In h) (G : h.Ns mainGlobals mg) (a : PySem.W.nsIn K mainGlobals "is_whole" = some (some (.ref f))) (l : K.lookup f = some ⟨oc, od, .func (PySem.W.fnOf "is_whole" "is_whole" (defArgs s_is_whole) (defBody s_is_whole) (defScope s_is_whole) .none kV dc pm an cd ct), sl⟩) (c : PySem.W.codeIn K cd "is_whole" = true) (k : PySem.W.keepIn K (.ref f) = true) :
    HasFn K mg "is_whole" s_is_whole ["thing"] := ⟨f, _, fun_mk (st := s_is_whole) l c k, PySem.W.mg_of X G a, (fun_mk (st := s_is_whole) l c k).binds (ps := ["thing"]) fun _ _ _ _ _ _ us hl => match us, hl with | [_], _ => rfl⟩
theorem has_divisor {K : PySem.W.Frag} {h : Heap} {mg : Str → Option Value} {f : Addr} {oc : Value} {od an : Option Addr} {sl : Array (Option Value)} {kV dc pm cd ct : Value} (X : K.In h) (G : h.Ns mainGlobals mg) (a : PySem.W.nsIn K mainGlobals "divisor" = some (some (.ref f))) (l : K.lookup f = some ⟨oc, od, .func (PySem.W.fnOf "divisor" "divisor" (defArgs s_divisor) (defBody s_divisor) (defScope s_divisor) .none kV dc pm an cd ct), sl⟩) (c : PySem.W.codeIn K cd "divisor" = true) (k : PySem.W.keepIn K (.ref f) = true) :
    HasFn K mg "divisor" s_divisor ["one", "other"] := ⟨f, _, fun_mk (st := s_divisor) l c k, PySem.W.mg_of X G a, (fun_mk (st := s_divisor) l c k).binds (ps := ["one", "other"]) fun _ _ _ _ _ _ us hl => match us, hl with | [_, _], _ => rfl⟩
theorem has_is_ratio {K : PySem.W.Frag} {h : Heap} {mg : Str → Option Value} {f : Addr} {oc : Value} {od an : Option Addr} {sl : Array (Option Value)} {kV dc pm cd ct : Value} (X : K.In h) (G : h.Ns mainGlobals mg) (a : PySem.W.nsIn K mainGlobals "is_ratio" = some (some (.ref f))) (l : K.lookup f = some ⟨oc, od, .func (PySem.W.fnOf "is_ratio" "is_ratio" (defArgs s_is_ratio) (defBody s_is_ratio) (defScope s_is_ratio) .none kV dc pm an cd ct), sl⟩) (c : PySem.W.codeIn K cd "is_ratio" = true) (k : PySem.W.keepIn K (.ref f) = true) :
    HasFn K mg "is_ratio" s_is_ratio ["thing"] := ⟨f, _, fun_mk (st := s_is_ratio) l c k, PySem.W.mg_of X G a, (fun_mk (st := s_is_ratio) l c k).binds (ps := ["thing"]) fun _ _ _ _ _ _ us hl => match us, hl with | [_], _ => rfl⟩
theorem has_lowest {K : PySem.W.Frag} {h : Heap} {mg : Str → Option Value} {f : Addr} {oc : Value} {od an : Option Addr} {sl : Array (Option Value)} {kV dc pm cd ct : Value} (X : K.In h) (G : h.Ns mainGlobals mg) (a : PySem.W.nsIn K mainGlobals "lowest" = some (some (.ref f))) (l : K.lookup f = some ⟨oc, od, .func (PySem.W.fnOf "lowest" "lowest" (defArgs s_lowest) (defBody s_lowest) (defScope s_lowest) .none kV dc pm an cd ct), sl⟩) (c : PySem.W.codeIn K cd "lowest" = true) (k : PySem.W.keepIn K (.ref f) = true) :
    HasFn K mg "lowest" s_lowest ["top", "bottom"] := ⟨f, _, fun_mk (st := s_lowest) l c k, PySem.W.mg_of X G a, (fun_mk (st := s_lowest) l c k).binds (ps := ["top", "bottom"]) fun _ _ _ _ _ _ us hl => match us, hl with | [_, _], _ => rfl⟩
theorem has_plus {K : PySem.W.Frag} {h : Heap} {mg : Str → Option Value} {f : Addr} {oc : Value} {od an : Option Addr} {sl : Array (Option Value)} {kV dc pm cd ct : Value} (X : K.In h) (G : h.Ns mainGlobals mg) (a : PySem.W.nsIn K mainGlobals "plus" = some (some (.ref f))) (l : K.lookup f = some ⟨oc, od, .func (PySem.W.fnOf "plus" "plus" (defArgs s_plus) (defBody s_plus) (defScope s_plus) .none kV dc pm an cd ct), sl⟩) (c : PySem.W.codeIn K cd "plus" = true) (k : PySem.W.keepIn K (.ref f) = true) :
    HasFn K mg "plus" s_plus ["one", "other"] := ⟨f, _, fun_mk (st := s_plus) l c k, PySem.W.mg_of X G a, (fun_mk (st := s_plus) l c k).binds (ps := ["one", "other"]) fun _ _ _ _ _ _ us hl => match us, hl with | [_, _], _ => rfl⟩
theorem has_negated {K : PySem.W.Frag} {h : Heap} {mg : Str → Option Value} {f : Addr} {oc : Value} {od an : Option Addr} {sl : Array (Option Value)} {kV dc pm cd ct : Value} (X : K.In h) (G : h.Ns mainGlobals mg) (a : PySem.W.nsIn K mainGlobals "negated" = some (some (.ref f))) (l : K.lookup f = some ⟨oc, od, .func (PySem.W.fnOf "negated" "negated" (defArgs s_negated) (defBody s_negated) (defScope s_negated) .none kV dc pm an cd ct), sl⟩) (c : PySem.W.codeIn K cd "negated" = true) (k : PySem.W.keepIn K (.ref f) = true) :
    HasFn K mg "negated" s_negated ["one"] := ⟨f, _, fun_mk (st := s_negated) l c k, PySem.W.mg_of X G a, (fun_mk (st := s_negated) l c k).binds (ps := ["one"]) fun _ _ _ _ _ _ us hl => match us, hl with | [_], _ => rfl⟩
theorem has_minus {K : PySem.W.Frag} {h : Heap} {mg : Str → Option Value} {f : Addr} {oc : Value} {od an : Option Addr} {sl : Array (Option Value)} {kV dc pm cd ct : Value} (X : K.In h) (G : h.Ns mainGlobals mg) (a : PySem.W.nsIn K mainGlobals "minus" = some (some (.ref f))) (l : K.lookup f = some ⟨oc, od, .func (PySem.W.fnOf "minus" "minus" (defArgs s_minus) (defBody s_minus) (defScope s_minus) .none kV dc pm an cd ct), sl⟩) (c : PySem.W.codeIn K cd "minus" = true) (k : PySem.W.keepIn K (.ref f) = true) :
    HasFn K mg "minus" s_minus ["one", "other"] := ⟨f, _, fun_mk (st := s_minus) l c k, PySem.W.mg_of X G a, (fun_mk (st := s_minus) l c k).binds (ps := ["one", "other"]) fun _ _ _ _ _ _ us hl => match us, hl with | [_, _], _ => rfl⟩
theorem has_times {K : PySem.W.Frag} {h : Heap} {mg : Str → Option Value} {f : Addr} {oc : Value} {od an : Option Addr} {sl : Array (Option Value)} {kV dc pm cd ct : Value} (X : K.In h) (G : h.Ns mainGlobals mg) (a : PySem.W.nsIn K mainGlobals "times" = some (some (.ref f))) (l : K.lookup f = some ⟨oc, od, .func (PySem.W.fnOf "times" "times" (defArgs s_times) (defBody s_times) (defScope s_times) .none kV dc pm an cd ct), sl⟩) (c : PySem.W.codeIn K cd "times" = true) (k : PySem.W.keepIn K (.ref f) = true) :
    HasFn K mg "times" s_times ["one", "other"] := ⟨f, _, fun_mk (st := s_times) l c k, PySem.W.mg_of X G a, (fun_mk (st := s_times) l c k).binds (ps := ["one", "other"]) fun _ _ _ _ _ _ us hl => match us, hl with | [_, _], _ => rfl⟩
theorem has_less {K : PySem.W.Frag} {h : Heap} {mg : Str → Option Value} {f : Addr} {oc : Value} {od an : Option Addr} {sl : Array (Option Value)} {kV dc pm cd ct : Value} (X : K.In h) (G : h.Ns mainGlobals mg) (a : PySem.W.nsIn K mainGlobals "less" = some (some (.ref f))) (l : K.lookup f = some ⟨oc, od, .func (PySem.W.fnOf "less" "less" (defArgs s_less) (defBody s_less) (defScope s_less) .none kV dc pm an cd ct), sl⟩) (c : PySem.W.codeIn K cd "less" = true) (k : PySem.W.keepIn K (.ref f) = true) :
    HasFn K mg "less" s_less ["one", "other"] := ⟨f, _, fun_mk (st := s_less) l c k, PySem.W.mg_of X G a, (fun_mk (st := s_less) l c k).binds (ps := ["one", "other"]) fun _ _ _ _ _ _ us hl => match us, hl with | [_, _], _ => rfl⟩
theorem has_added {K : PySem.W.Frag} {h : Heap} {mg : Str → Option Value} {f : Addr} {oc : Value} {od an : Option Addr} {sl : Array (Option Value)} {kV dc pm cd ct : Value} (X : K.In h) (G : h.Ns mainGlobals mg) (a : PySem.W.nsIn K mainGlobals "added" = some (some (.ref f))) (l : K.lookup f = some ⟨oc, od, .func (PySem.W.fnOf "added" "added" (defArgs s_added) (defBody s_added) (defScope s_added) .none kV dc pm an cd ct), sl⟩) (c : PySem.W.codeIn K cd "added" = true) (k : PySem.W.keepIn K (.ref f) = true) :
    HasFn K mg "added" s_added ["one", "other"] := ⟨f, _, fun_mk (st := s_added) l c k, PySem.W.mg_of X G a, (fun_mk (st := s_added) l c k).binds (ps := ["one", "other"]) fun _ _ _ _ _ _ us hl => match us, hl with | [_, _], _ => rfl⟩
theorem has_scaled {K : PySem.W.Frag} {h : Heap} {mg : Str → Option Value} {f : Addr} {oc : Value} {od an : Option Addr} {sl : Array (Option Value)} {kV dc pm cd ct : Value} (X : K.In h) (G : h.Ns mainGlobals mg) (a : PySem.W.nsIn K mainGlobals "scaled" = some (some (.ref f))) (l : K.lookup f = some ⟨oc, od, .func (PySem.W.fnOf "scaled" "scaled" (defArgs s_scaled) (defBody s_scaled) (defScope s_scaled) .none kV dc pm an cd ct), sl⟩) (c : PySem.W.codeIn K cd "scaled" = true) (k : PySem.W.keepIn K (.ref f) = true) :
    HasFn K mg "scaled" s_scaled ["form", "by"] := ⟨f, _, fun_mk (st := s_scaled) l c k, PySem.W.mg_of X G a, (fun_mk (st := s_scaled) l c k).binds (ps := ["form", "by"]) fun _ _ _ _ _ _ us hl => match us, hl with | [_, _], _ => rfl⟩
theorem has_greater_of {K : PySem.W.Frag} {h : Heap} {mg : Str → Option Value} {f : Addr} {oc : Value} {od an : Option Addr} {sl : Array (Option Value)} {kV dc pm cd ct : Value} (X : K.In h) (G : h.Ns mainGlobals mg) (a : PySem.W.nsIn K mainGlobals "greater_of" = some (some (.ref f))) (l : K.lookup f = some ⟨oc, od, .func (PySem.W.fnOf "greater_of" "greater_of" (defArgs s_greater_of) (defBody s_greater_of) (defScope s_greater_of) .none kV dc pm an cd ct), sl⟩) (c : PySem.W.codeIn K cd "greater_of" = true) (k : PySem.W.keepIn K (.ref f) = true) :
    HasFn K mg "greater_of" s_greater_of ["one", "other"] := ⟨f, _, fun_mk (st := s_greater_of) l c k, PySem.W.mg_of X G a, (fun_mk (st := s_greater_of) l c k).binds (ps := ["one", "other"]) fun _ _ _ _ _ _ us hl => match us, hl with | [_, _], _ => rfl⟩
theorem has_span_of_sum {K : PySem.W.Frag} {h : Heap} {mg : Str → Option Value} {f : Addr} {oc : Value} {od an : Option Addr} {sl : Array (Option Value)} {kV dc pm cd ct : Value} (X : K.In h) (G : h.Ns mainGlobals mg) (a : PySem.W.nsIn K mainGlobals "span_of_sum" = some (some (.ref f))) (l : K.lookup f = some ⟨oc, od, .func (PySem.W.fnOf "span_of_sum" "span_of_sum" (defArgs s_span_of_sum) (defBody s_span_of_sum) (defScope s_span_of_sum) .none kV dc pm an cd ct), sl⟩) (c : PySem.W.codeIn K cd "span_of_sum" = true) (k : PySem.W.keepIn K (.ref f) = true) :
    HasFn K mg "span_of_sum" s_span_of_sum ["constant", "terms", "known"] := ⟨f, _, fun_mk (st := s_span_of_sum) l c k, PySem.W.mg_of X G a, (fun_mk (st := s_span_of_sum) l c k).binds (ps := ["constant", "terms", "known"]) fun _ _ _ _ _ _ us hl => match us, hl with | [_, _, _], _ => rfl⟩
theorem has_spans {K : PySem.W.Frag} {h : Heap} {mg : Str → Option Value} {f : Addr} {oc : Value} {od an : Option Addr} {sl : Array (Option Value)} {kV dc pm cd ct : Value} (X : K.In h) (G : h.Ns mainGlobals mg) (a : PySem.W.nsIn K mainGlobals "spans" = some (some (.ref f))) (l : K.lookup f = some ⟨oc, od, .func (PySem.W.fnOf "spans" "spans" (defArgs s_spans) (defBody s_spans) (defScope s_spans) .none kV dc pm an cd ct), sl⟩) (c : PySem.W.codeIn K cd "spans" = true) (k : PySem.W.keepIn K (.ref f) = true) :
    HasFn K mg "spans" s_spans ["net", "box"] := ⟨f, _, fun_mk (st := s_spans) l c k, PySem.W.mg_of X G a, (fun_mk (st := s_spans) l c k).binds (ps := ["net", "box"]) fun _ _ _ _ _ _ us hl => match us, hl with | [_, _], _ => rfl⟩
theorem has_still_form {K : PySem.W.Frag} {h : Heap} {mg : Str → Option Value} {f : Addr} {oc : Value} {od an : Option Addr} {sl : Array (Option Value)} {kV dc pm cd ct : Value} (X : K.In h) (G : h.Ns mainGlobals mg) (a : PySem.W.nsIn K mainGlobals "still_form" = some (some (.ref f))) (l : K.lookup f = some ⟨oc, od, .func (PySem.W.fnOf "still_form" "still_form" (defArgs s_still_form) (defBody s_still_form) (defScope s_still_form) .none kV dc pm an cd ct), sl⟩) (c : PySem.W.codeIn K cd "still_form" = true) (k : PySem.W.keepIn K (.ref f) = true) :
    HasFn K mg "still_form" s_still_form ["many"] := ⟨f, _, fun_mk (st := s_still_form) l c k, PySem.W.mg_of X G a, (fun_mk (st := s_still_form) l c k).binds (ps := ["many"]) fun _ _ _ _ _ _ us hl => match us, hl with | [_], _ => rfl⟩
theorem has_lone_form {K : PySem.W.Frag} {h : Heap} {mg : Str → Option Value} {f : Addr} {oc : Value} {od an : Option Addr} {sl : Array (Option Value)} {kV dc pm cd ct : Value} (X : K.In h) (G : h.Ns mainGlobals mg) (a : PySem.W.nsIn K mainGlobals "lone_form" = some (some (.ref f))) (l : K.lookup f = some ⟨oc, od, .func (PySem.W.fnOf "lone_form" "lone_form" (defArgs s_lone_form) (defBody s_lone_form) (defScope s_lone_form) .none kV dc pm an cd ct), sl⟩) (c : PySem.W.codeIn K cd "lone_form" = true) (k : PySem.W.keepIn K (.ref f) = true) :
    HasFn K mg "lone_form" s_lone_form ["k", "many"] := ⟨f, _, fun_mk (st := s_lone_form) l c k, PySem.W.mg_of X G a, (fun_mk (st := s_lone_form) l c k).binds (ps := ["k", "many"]) fun _ _ _ _ _ _ us hl => match us, hl with | [_, _], _ => rfl⟩
theorem has_sum_form {K : PySem.W.Frag} {h : Heap} {mg : Str → Option Value} {f : Addr} {oc : Value} {od an : Option Addr} {sl : Array (Option Value)} {kV dc pm cd ct : Value} (X : K.In h) (G : h.Ns mainGlobals mg) (a : PySem.W.nsIn K mainGlobals "sum_form" = some (some (.ref f))) (l : K.lookup f = some ⟨oc, od, .func (PySem.W.fnOf "sum_form" "sum_form" (defArgs s_sum_form) (defBody s_sum_form) (defScope s_sum_form) .none kV dc pm an cd ct), sl⟩) (c : PySem.W.codeIn K cd "sum_form" = true) (k : PySem.W.keepIn K (.ref f) = true) :
    HasFn K mg "sum_form" s_sum_form ["constant", "terms", "known", "many"] := ⟨f, _, fun_mk (st := s_sum_form) l c k, PySem.W.mg_of X G a, (fun_mk (st := s_sum_form) l c k).binds (ps := ["constant", "terms", "known", "many"]) fun _ _ _ _ _ _ us hl => match us, hl with | [_, _, _, _], _ => rfl⟩
theorem has_forms_in {K : PySem.W.Frag} {h : Heap} {mg : Str → Option Value} {f : Addr} {oc : Value} {od an : Option Addr} {sl : Array (Option Value)} {kV dc pm cd ct : Value} (X : K.In h) (G : h.Ns mainGlobals mg) (a : PySem.W.nsIn K mainGlobals "forms_in" = some (some (.ref f))) (l : K.lookup f = some ⟨oc, od, .func (PySem.W.fnOf "forms_in" "forms_in" (defArgs s_forms_in) (defBody s_forms_in) (defScope s_forms_in) .none kV dc pm an cd ct), sl⟩) (c : PySem.W.codeIn K cd "forms_in" = true) (k : PySem.W.keepIn K (.ref f) = true) :
    HasFn K mg "forms_in" s_forms_in ["net", "case"] := ⟨f, _, fun_mk (st := s_forms_in) l c k, PySem.W.mg_of X G a, (fun_mk (st := s_forms_in) l c k).binds (ps := ["net", "case"]) fun _ _ _ _ _ _ us hl => match us, hl with | [_, _], _ => rfl⟩
theorem has_not_above {K : PySem.W.Frag} {h : Heap} {mg : Str → Option Value} {f : Addr} {oc : Value} {od an : Option Addr} {sl : Array (Option Value)} {kV dc pm cd ct : Value} (X : K.In h) (G : h.Ns mainGlobals mg) (a : PySem.W.nsIn K mainGlobals "not_above" = some (some (.ref f))) (l : K.lookup f = some ⟨oc, od, .func (PySem.W.fnOf "not_above" "not_above" (defArgs s_not_above) (defBody s_not_above) (defScope s_not_above) .none kV dc pm an cd ct), sl⟩) (c : PySem.W.codeIn K cd "not_above" = true) (k : PySem.W.keepIn K (.ref f) = true) :
    HasFn K mg "not_above" s_not_above ["form", "number"] := ⟨f, _, fun_mk (st := s_not_above) l c k, PySem.W.mg_of X G a, (fun_mk (st := s_not_above) l c k).binds (ps := ["form", "number"]) fun _ _ _ _ _ _ us hl => match us, hl with | [_, _], _ => rfl⟩
theorem has_not_below {K : PySem.W.Frag} {h : Heap} {mg : Str → Option Value} {f : Addr} {oc : Value} {od an : Option Addr} {sl : Array (Option Value)} {kV dc pm cd ct : Value} (X : K.In h) (G : h.Ns mainGlobals mg) (a : PySem.W.nsIn K mainGlobals "not_below" = some (some (.ref f))) (l : K.lookup f = some ⟨oc, od, .func (PySem.W.fnOf "not_below" "not_below" (defArgs s_not_below) (defBody s_not_below) (defScope s_not_below) .none kV dc pm an cd ct), sl⟩) (c : PySem.W.codeIn K cd "not_below" = true) (k : PySem.W.keepIn K (.ref f) = true) :
    HasFn K mg "not_below" s_not_below ["form", "number"] := ⟨f, _, fun_mk (st := s_not_below) l c k, PySem.W.mg_of X G a, (fun_mk (st := s_not_below) l c k).binds (ps := ["form", "number"]) fun _ _ _ _ _ _ us hl => match us, hl with | [_, _], _ => rfl⟩
theorem has_third_row {K : PySem.W.Frag} {h : Heap} {mg : Str → Option Value} {f : Addr} {oc : Value} {od an : Option Addr} {sl : Array (Option Value)} {kV dc pm cd ct : Value} (X : K.In h) (G : h.Ns mainGlobals mg) (a : PySem.W.nsIn K mainGlobals "third_row" = some (some (.ref f))) (l : K.lookup f = some ⟨oc, od, .func (PySem.W.fnOf "third_row" "third_row" (defArgs s_third_row) (defBody s_third_row) (defScope s_third_row) .none kV dc pm an cd ct), sl⟩) (c : PySem.W.codeIn K cd "third_row" = true) (k : PySem.W.keepIn K (.ref f) = true) :
    HasFn K mg "third_row" s_third_row ["side", "source", "own"] := ⟨f, _, fun_mk (st := s_third_row) l c k, PySem.W.mg_of X G a, (fun_mk (st := s_third_row) l c k).binds (ps := ["side", "source", "own"]) fun _ _ _ _ _ _ us hl => match us, hl with | [_, _, _], _ => rfl⟩
theorem has_rows_of_bend {K : PySem.W.Frag} {h : Heap} {mg : Str → Option Value} {f : Addr} {oc : Value} {od an : Option Addr} {sl : Array (Option Value)} {kV dc pm cd ct : Value} (X : K.In h) (G : h.Ns mainGlobals mg) (a : PySem.W.nsIn K mainGlobals "rows_of_bend" = some (some (.ref f))) (l : K.lookup f = some ⟨oc, od, .func (PySem.W.fnOf "rows_of_bend" "rows_of_bend" (defArgs s_rows_of_bend) (defBody s_rows_of_bend) (defScope s_rows_of_bend) .none kV dc pm an cd ct), sl⟩) (c : PySem.W.codeIn K cd "rows_of_bend" = true) (k : PySem.W.keepIn K (.ref f) = true) :
    HasFn K mg "rows_of_bend" s_rows_of_bend ["state", "side", "source", "own"] := ⟨f, _, fun_mk (st := s_rows_of_bend) l c k, PySem.W.mg_of X G a, (fun_mk (st := s_rows_of_bend) l c k).binds (ps := ["state", "side", "source", "own"]) fun _ _ _ _ _ _ us hl => match us, hl with | [_, _, _, _], _ => rfl⟩
theorem has_rows_by {K : PySem.W.Frag} {h : Heap} {mg : Str → Option Value} {f : Addr} {oc : Value} {od an : Option Addr} {sl : Array (Option Value)} {kV dc pm cd ct : Value} (X : K.In h) (G : h.Ns mainGlobals mg) (a : PySem.W.nsIn K mainGlobals "rows_by" = some (some (.ref f))) (l : K.lookup f = some ⟨oc, od, .func (PySem.W.fnOf "rows_by" "rows_by" (defArgs s_rows_by) (defBody s_rows_by) (defScope s_rows_by) .none kV dc pm an cd ct), sl⟩) (c : PySem.W.codeIn K cd "rows_by" = true) (k : PySem.W.keepIn K (.ref f) = true) :
    HasFn K mg "rows_by" s_rows_by ["net", "sides", "case", "known"] := ⟨f, _, fun_mk (st := s_rows_by) l c k, PySem.W.mg_of X G a, (fun_mk (st := s_rows_by) l c k).binds (ps := ["net", "sides", "case", "known"]) fun _ _ _ _ _ _ us hl => match us, hl with | [_, _, _, _], _ => rfl⟩
theorem has_rows_in {K : PySem.W.Frag} {h : Heap} {mg : Str → Option Value} {f : Addr} {oc : Value} {od an : Option Addr} {sl : Array (Option Value)} {kV dc pm cd ct : Value} (X : K.In h) (G : h.Ns mainGlobals mg) (a : PySem.W.nsIn K mainGlobals "rows_in" = some (some (.ref f))) (l : K.lookup f = some ⟨oc, od, .func (PySem.W.fnOf "rows_in" "rows_in" (defArgs s_rows_in) (defBody s_rows_in) (defScope s_rows_in) .none kV dc pm an cd ct), sl⟩) (c : PySem.W.codeIn K cd "rows_in" = true) (k : PySem.W.keepIn K (.ref f) = true) :
    HasFn K mg "rows_in" s_rows_in ["net", "box", "case"] := ⟨f, _, fun_mk (st := s_rows_in) l c k, PySem.W.mg_of X G a, (fun_mk (st := s_rows_in) l c k).binds (ps := ["net", "box", "case"]) fun _ _ _ _ _ _ us hl => match us, hl with | [_, _, _], _ => rfl⟩
theorem has_is_side {K : PySem.W.Frag} {h : Heap} {mg : Str → Option Value} {f : Addr} {oc : Value} {od an : Option Addr} {sl : Array (Option Value)} {kV dc pm cd ct : Value} (X : K.In h) (G : h.Ns mainGlobals mg) (a : PySem.W.nsIn K mainGlobals "is_side" = some (some (.ref f))) (l : K.lookup f = some ⟨oc, od, .func (PySem.W.fnOf "is_side" "is_side" (defArgs s_is_side) (defBody s_is_side) (defScope s_is_side) .none kV dc pm an cd ct), sl⟩) (c : PySem.W.codeIn K cd "is_side" = true) (k : PySem.W.keepIn K (.ref f) = true) :
    HasFn K mg "is_side" s_is_side ["thing"] := ⟨f, _, fun_mk (st := s_is_side) l c k, PySem.W.mg_of X G a, (fun_mk (st := s_is_side) l c k).binds (ps := ["thing"]) fun _ _ _ _ _ _ us hl => match us, hl with | [_], _ => rfl⟩
theorem has_Box___init__ {K : PySem.W.Frag} {f : Addr} {oc : Value} {od an : Option Addr} {sl : Array (Option Value)} {kV dc pm cd ct : Value} (l : K.lookup f = some ⟨oc, od, .func (PySem.W.fnOf "__init__" "Box.__init__" (defArgs s_Box___init__) (defBody s_Box___init__) (defScope s_Box___init__) .none kV dc pm an cd ct), sl⟩) (c : PySem.W.codeIn K cd "Box.__init__" = true) (k : PySem.W.keepIn K (.ref f) = true) :
    HasMe K "__init__" "Box.__init__" s_Box___init__ f ["self", "sides"] := ⟨_, fun_mk (st := s_Box___init__) l c k, (fun_mk (st := s_Box___init__) l c k).binds (ps := ["self", "sides"]) fun _ _ _ _ _ _ us hl => match us, hl with | [_, _], _ => rfl⟩
theorem has_Box_told {K : PySem.W.Frag} {f : Addr} {oc : Value} {od an : Option Addr} {sl : Array (Option Value)} {kV dc pm cd ct : Value} (l : K.lookup f = some ⟨oc, od, .func (PySem.W.fnOf "told" "Box.told" (defArgs s_Box_told) (defBody s_Box_told) (defScope s_Box_told) .none kV dc pm an cd ct), sl⟩) (c : PySem.W.codeIn K cd "Box.told" = true) (k : PySem.W.keepIn K (.ref f) = true) :
    HasMe K "told" "Box.told" s_Box_told f ["self"] := ⟨_, fun_mk (st := s_Box_told) l c k, (fun_mk (st := s_Box_told) l c k).binds (ps := ["self"]) fun _ _ _ _ _ _ us hl => match us, hl with | [_], _ => rfl⟩
theorem has_is_place {K : PySem.W.Frag} {h : Heap} {mg : Str → Option Value} {f : Addr} {oc : Value} {od an : Option Addr} {sl : Array (Option Value)} {kV dc pm cd ct : Value} (X : K.In h) (G : h.Ns mainGlobals mg) (a : PySem.W.nsIn K mainGlobals "is_place" = some (some (.ref f))) (l : K.lookup f = some ⟨oc, od, .func (PySem.W.fnOf "is_place" "is_place" (defArgs s_is_place) (defBody s_is_place) (defScope s_is_place) .none kV dc pm an cd ct), sl⟩) (c : PySem.W.codeIn K cd "is_place" = true) (k : PySem.W.keepIn K (.ref f) = true) :
    HasFn K mg "is_place" s_is_place ["thing", "many"] := ⟨f, _, fun_mk (st := s_is_place) l c k, PySem.W.mg_of X G a, (fun_mk (st := s_is_place) l c k).binds (ps := ["thing", "many"]) fun _ _ _ _ _ _ us hl => match us, hl with | [_, _], _ => rfl⟩
theorem has_is_term {K : PySem.W.Frag} {h : Heap} {mg : Str → Option Value} {f : Addr} {oc : Value} {od an : Option Addr} {sl : Array (Option Value)} {kV dc pm cd ct : Value} (X : K.In h) (G : h.Ns mainGlobals mg) (a : PySem.W.nsIn K mainGlobals "is_term" = some (some (.ref f))) (l : K.lookup f = some ⟨oc, od, .func (PySem.W.fnOf "is_term" "is_term" (defArgs s_is_term) (defBody s_is_term) (defScope s_is_term) .none kV dc pm an cd ct), sl⟩) (c : PySem.W.codeIn K cd "is_term" = true) (k : PySem.W.keepIn K (.ref f) = true) :
    HasFn K mg "is_term" s_is_term ["thing", "many"] := ⟨f, _, fun_mk (st := s_is_term) l c k, PySem.W.mg_of X G a, (fun_mk (st := s_is_term) l c k).binds (ps := ["thing", "many"]) fun _ _ _ _ _ _ us hl => match us, hl with | [_, _], _ => rfl⟩
theorem has_is_sum {K : PySem.W.Frag} {h : Heap} {mg : Str → Option Value} {f : Addr} {oc : Value} {od an : Option Addr} {sl : Array (Option Value)} {kV dc pm cd ct : Value} (X : K.In h) (G : h.Ns mainGlobals mg) (a : PySem.W.nsIn K mainGlobals "is_sum" = some (some (.ref f))) (l : K.lookup f = some ⟨oc, od, .func (PySem.W.fnOf "is_sum" "is_sum" (defArgs s_is_sum) (defBody s_is_sum) (defScope s_is_sum) .none kV dc pm an cd ct), sl⟩) (c : PySem.W.codeIn K cd "is_sum" = true) (k : PySem.W.keepIn K (.ref f) = true) :
    HasFn K mg "is_sum" s_is_sum ["thing", "many"] := ⟨f, _, fun_mk (st := s_is_sum) l c k, PySem.W.mg_of X G a, (fun_mk (st := s_is_sum) l c k).binds (ps := ["thing", "many"]) fun _ _ _ _ _ _ us hl => match us, hl with | [_, _], _ => rfl⟩
theorem has_is_unit {K : PySem.W.Frag} {h : Heap} {mg : Str → Option Value} {f : Addr} {oc : Value} {od an : Option Addr} {sl : Array (Option Value)} {kV dc pm cd ct : Value} (X : K.In h) (G : h.Ns mainGlobals mg) (a : PySem.W.nsIn K mainGlobals "is_unit" = some (some (.ref f))) (l : K.lookup f = some ⟨oc, od, .func (PySem.W.fnOf "is_unit" "is_unit" (defArgs s_is_unit) (defBody s_is_unit) (defScope s_is_unit) .none kV dc pm an cd ct), sl⟩) (c : PySem.W.codeIn K cd "is_unit" = true) (k : PySem.W.keepIn K (.ref f) = true) :
    HasFn K mg "is_unit" s_is_unit ["thing", "many"] := ⟨f, _, fun_mk (st := s_is_unit) l c k, PySem.W.mg_of X G a, (fun_mk (st := s_is_unit) l c k).binds (ps := ["thing", "many"]) fun _ _ _ _ _ _ us hl => match us, hl with | [_, _], _ => rfl⟩
theorem has_copied_unit {K : PySem.W.Frag} {h : Heap} {mg : Str → Option Value} {f : Addr} {oc : Value} {od an : Option Addr} {sl : Array (Option Value)} {kV dc pm cd ct : Value} (X : K.In h) (G : h.Ns mainGlobals mg) (a : PySem.W.nsIn K mainGlobals "copied_unit" = some (some (.ref f))) (l : K.lookup f = some ⟨oc, od, .func (PySem.W.fnOf "copied_unit" "copied_unit" (defArgs s_copied_unit) (defBody s_copied_unit) (defScope s_copied_unit) .none kV dc pm an cd ct), sl⟩) (c : PySem.W.codeIn K cd "copied_unit" = true) (k : PySem.W.keepIn K (.ref f) = true) :
    HasFn K mg "copied_unit" s_copied_unit ["unit"] := ⟨f, _, fun_mk (st := s_copied_unit) l c k, PySem.W.mg_of X G a, (fun_mk (st := s_copied_unit) l c k).binds (ps := ["unit"]) fun _ _ _ _ _ _ us hl => match us, hl with | [_], _ => rfl⟩
theorem has_Net___init__ {K : PySem.W.Frag} {f : Addr} {oc : Value} {od an : Option Addr} {sl : Array (Option Value)} {kV dc pm cd ct : Value} (l : K.lookup f = some ⟨oc, od, .func (PySem.W.fnOf "__init__" "Net.__init__" (defArgs s_Net___init__) (defBody s_Net___init__) (defScope s_Net___init__) .none kV dc pm an cd ct), sl⟩) (c : PySem.W.codeIn K cd "Net.__init__" = true) (k : PySem.W.keepIn K (.ref f) = true) :
    HasMe K "__init__" "Net.__init__" s_Net___init__ f ["self", "many", "units", "outs"] := ⟨_, fun_mk (st := s_Net___init__) l c k, (fun_mk (st := s_Net___init__) l c k).binds (ps := ["self", "many", "units", "outs"]) fun _ _ _ _ _ _ us hl => match us, hl with | [_, _, _, _], _ => rfl⟩
theorem has_Net_told {K : PySem.W.Frag} {f : Addr} {oc : Value} {od an : Option Addr} {sl : Array (Option Value)} {kV dc pm cd ct : Value} (l : K.lookup f = some ⟨oc, od, .func (PySem.W.fnOf "told" "Net.told" (defArgs s_Net_told) (defBody s_Net_told) (defScope s_Net_told) .none kV dc pm an cd ct), sl⟩) (c : PySem.W.codeIn K cd "Net.told" = true) (k : PySem.W.keepIn K (.ref f) = true) :
    HasMe K "told" "Net.told" s_Net_told f ["self"] := ⟨_, fun_mk (st := s_Net_told) l c k, (fun_mk (st := s_Net_told) l c k).binds (ps := ["self"]) fun _ _ _ _ _ _ us hl => match us, hl with | [_], _ => rfl⟩
theorem has_Net_bends {K : PySem.W.Frag} {f : Addr} {oc : Value} {od an : Option Addr} {sl : Array (Option Value)} {kV dc pm cd ct : Value} (l : K.lookup f = some ⟨oc, od, .func (PySem.W.fnOf "bends" "Net.bends" (defArgs s_Net_bends) (defBody s_Net_bends) (defScope s_Net_bends) .none kV dc pm an cd ct), sl⟩) (c : PySem.W.codeIn K cd "Net.bends" = true) (k : PySem.W.keepIn K (.ref f) = true) :
    HasMe K "bends" "Net.bends" s_Net_bends f ["self"] := ⟨_, fun_mk (st := s_Net_bends) l c k, (fun_mk (st := s_Net_bends) l c k).binds (ps := ["self"]) fun _ _ _ _ _ _ us hl => match us, hl with | [_], _ => rfl⟩
theorem has__law_cell_at {K : PySem.W.Frag} {h : Heap} {mg : Str → Option Value} {f : Addr} {oc : Value} {od an : Option Addr} {sl : Array (Option Value)} {kV dc pm cd ct : Value} (X : K.In h) (G : h.Ns mainGlobals mg) (a : PySem.W.nsIn K mainGlobals "_law_cell_at" = some (some (.ref f))) (l : K.lookup f = some ⟨oc, od, .func (PySem.W.fnOf "_law_cell_at" "_law_cell_at" (defArgs s__law_cell_at) (defBody s__law_cell_at) (defScope s__law_cell_at) .none kV dc pm an cd ct), sl⟩) (c : PySem.W.codeIn K cd "_law_cell_at" = true) (k : PySem.W.keepIn K (.ref f) = true) :
    HasFn K mg "_law_cell_at" s__law_cell_at ["_law_script", "_law_k"] := ⟨f, _, fun_mk (st := s__law_cell_at) l c k, PySem.W.mg_of X G a, (fun_mk (st := s__law_cell_at) l c k).binds (ps := ["_law_script", "_law_k"]) fun _ _ _ _ _ _ us hl => match us, hl with | [_, _], _ => rfl⟩
theorem has__law_mixed {K : PySem.W.Frag} {h : Heap} {mg : Str → Option Value} {f : Addr} {oc : Value} {od an : Option Addr} {sl : Array (Option Value)} {kV dc pm cd ct : Value} (X : K.In h) (G : h.Ns mainGlobals mg) (a : PySem.W.nsIn K mainGlobals "_law_mixed" = some (some (.ref f))) (l : K.lookup f = some ⟨oc, od, .func (PySem.W.fnOf "_law_mixed" "_law_mixed" (defArgs s__law_mixed) (defBody s__law_mixed) (defScope s__law_mixed) .none kV dc pm an cd ct), sl⟩) (c : PySem.W.codeIn K cd "_law_mixed" = true) (k : PySem.W.keepIn K (.ref f) = true) :
    HasFn K mg "_law_mixed" s__law_mixed ["_law_cell", "_law_k"] := ⟨f, _, fun_mk (st := s__law_mixed) l c k, PySem.W.mg_of X G a, (fun_mk (st := s__law_mixed) l c k).binds (ps := ["_law_cell", "_law_k"]) fun _ _ _ _ _ _ us hl => match us, hl with | [_, _], _ => rfl⟩
theorem has__law_wide {K : PySem.W.Frag} {h : Heap} {mg : Str → Option Value} {f : Addr} {oc : Value} {od an : Option Addr} {sl : Array (Option Value)} {kV dc pm cd ct : Value} (X : K.In h) (G : h.Ns mainGlobals mg) (a : PySem.W.nsIn K mainGlobals "_law_wide" = some (some (.ref f))) (l : K.lookup f = some ⟨oc, od, .func (PySem.W.fnOf "_law_wide" "_law_wide" (defArgs s__law_wide) (defBody s__law_wide) (defScope s__law_wide) .none kV dc pm an cd ct), sl⟩) (c : PySem.W.codeIn K cd "_law_wide" = true) (k : PySem.W.keepIn K (.ref f) = true) :
    HasFn K mg "_law_wide" s__law_wide ["_law_number", "_law_k"] := ⟨f, _, fun_mk (st := s__law_wide) l c k, PySem.W.mg_of X G a, (fun_mk (st := s__law_wide) l c k).binds (ps := ["_law_number", "_law_k"]) fun _ _ _ _ _ _ us hl => match us, hl with | [_, _], _ => rfl⟩
theorem has__law_seeds {K : PySem.W.Frag} {h : Heap} {mg : Str → Option Value} {f : Addr} {oc : Value} {od an : Option Addr} {sl : Array (Option Value)} {kV dc pm cd ct : Value} (X : K.In h) (G : h.Ns mainGlobals mg) (a : PySem.W.nsIn K mainGlobals "_law_seeds" = some (some (.ref f))) (l : K.lookup f = some ⟨oc, od, .func (PySem.W.fnOf "_law_seeds" "_law_seeds" (defArgs s__law_seeds) (defBody s__law_seeds) (defScope s__law_seeds) .none kV dc pm an cd ct), sl⟩) (c : PySem.W.codeIn K cd "_law_seeds" = true) (k : PySem.W.keepIn K (.ref f) = true) :
    HasFn K mg "_law_seeds" s__law_seeds ["_law_script", "_law_start", "_law_many_here"] := ⟨f, _, fun_mk (st := s__law_seeds) l c k, PySem.W.mg_of X G a, (fun_mk (st := s__law_seeds) l c k).binds (ps := ["_law_script", "_law_start", "_law_many_here"]) fun _ _ _ _ _ _ us hl => match us, hl with | [_, _, _], _ => rfl⟩
theorem has__law_part {K : PySem.W.Frag} {h : Heap} {mg : Str → Option Value} {f : Addr} {oc : Value} {od an : Option Addr} {sl : Array (Option Value)} {kV dc pm cd ct : Value} (X : K.In h) (G : h.Ns mainGlobals mg) (a : PySem.W.nsIn K mainGlobals "_law_part" = some (some (.ref f))) (l : K.lookup f = some ⟨oc, od, .func (PySem.W.fnOf "_law_part" "_law_part" (defArgs s__law_part) (defBody s__law_part) (defScope s__law_part) .none kV dc pm an cd ct), sl⟩) (c : PySem.W.codeIn K cd "_law_part" = true) (k : PySem.W.keepIn K (.ref f) = true) :
    HasFn K mg "_law_part" s__law_part ["_law_top", "_law_bottom"] := ⟨f, _, fun_mk (st := s__law_part) l c k, PySem.W.mg_of X G a, (fun_mk (st := s__law_part) l c k).binds (ps := ["_law_top", "_law_bottom"]) fun _ _ _ _ _ _ us hl => match us, hl with | [_, _], _ => rfl⟩
theorem has__law_sum {K : PySem.W.Frag} {h : Heap} {mg : Str → Option Value} {f : Addr} {oc : Value} {od an : Option Addr} {sl : Array (Option Value)} {kV dc pm cd ct : Value} (X : K.In h) (G : h.Ns mainGlobals mg) (a : PySem.W.nsIn K mainGlobals "_law_sum" = some (some (.ref f))) (l : K.lookup f = some ⟨oc, od, .func (PySem.W.fnOf "_law_sum" "_law_sum" (defArgs s__law_sum) (defBody s__law_sum) (defScope s__law_sum) .none kV dc pm an cd ct), sl⟩) (c : PySem.W.codeIn K cd "_law_sum" = true) (k : PySem.W.keepIn K (.ref f) = true) :
    HasFn K mg "_law_sum" s__law_sum ["_law_one", "_law_other"] := ⟨f, _, fun_mk (st := s__law_sum) l c k, PySem.W.mg_of X G a, (fun_mk (st := s__law_sum) l c k).binds (ps := ["_law_one", "_law_other"]) fun _ _ _ _ _ _ us hl => match us, hl with | [_, _], _ => rfl⟩
theorem has__law_many {K : PySem.W.Frag} {h : Heap} {mg : Str → Option Value} {f : Addr} {oc : Value} {od an : Option Addr} {sl : Array (Option Value)} {kV dc pm cd ct : Value} (X : K.In h) (G : h.Ns mainGlobals mg) (a : PySem.W.nsIn K mainGlobals "_law_many" = some (some (.ref f))) (l : K.lookup f = some ⟨oc, od, .func (PySem.W.fnOf "_law_many" "_law_many" (defArgs s__law_many) (defBody s__law_many) (defScope s__law_many) .none kV dc pm an cd ct), sl⟩) (c : PySem.W.codeIn K cd "_law_many" = true) (k : PySem.W.keepIn K (.ref f) = true) :
    HasFn K mg "_law_many" s__law_many ["_law_one", "_law_other"] := ⟨f, _, fun_mk (st := s__law_many) l c k, PySem.W.mg_of X G a, (fun_mk (st := s__law_many) l c k).binds (ps := ["_law_one", "_law_other"]) fun _ _ _ _ _ _ us hl => match us, hl with | [_, _], _ => rfl⟩
theorem has__law_taken {K : PySem.W.Frag} {h : Heap} {mg : Str → Option Value} {f : Addr} {oc : Value} {od an : Option Addr} {sl : Array (Option Value)} {kV dc pm cd ct : Value} (X : K.In h) (G : h.Ns mainGlobals mg) (a : PySem.W.nsIn K mainGlobals "_law_taken" = some (some (.ref f))) (l : K.lookup f = some ⟨oc, od, .func (PySem.W.fnOf "_law_taken" "_law_taken" (defArgs s__law_taken) (defBody s__law_taken) (defScope s__law_taken) .none kV dc pm an cd ct), sl⟩) (c : PySem.W.codeIn K cd "_law_taken" = true) (k : PySem.W.keepIn K (.ref f) = true) :
    HasFn K mg "_law_taken" s__law_taken ["_law_number", "_law_great"] := ⟨f, _, fun_mk (st := s__law_taken) l c k, PySem.W.mg_of X G a, (fun_mk (st := s__law_taken) l c k).binds (ps := ["_law_number", "_law_great"]) fun _ _ _ _ _ _ us hl => match us, hl with | [_, _], _ => rfl⟩
theorem has__law_small {K : PySem.W.Frag} {h : Heap} {mg : Str → Option Value} {f : Addr} {oc : Value} {od an : Option Addr} {sl : Array (Option Value)} {kV dc pm cd ct : Value} (X : K.In h) (G : h.Ns mainGlobals mg) (a : PySem.W.nsIn K mainGlobals "_law_small" = some (some (.ref f))) (l : K.lookup f = some ⟨oc, od, .func (PySem.W.fnOf "_law_small" "_law_small" (defArgs s__law_small) (defBody s__law_small) (defScope s__law_small) .none kV dc pm an cd ct), sl⟩) (c : PySem.W.codeIn K cd "_law_small" = true) (k : PySem.W.keepIn K (.ref f) = true) :
    HasFn K mg "_law_small" s__law_small ["_law_number", "_law_great"] := ⟨f, _, fun_mk (st := s__law_small) l c k, PySem.W.mg_of X G a, (fun_mk (st := s__law_small) l c k).binds (ps := ["_law_number", "_law_great"]) fun _ _ _ _ _ _ us hl => match us, hl with | [_, _], _ => rfl⟩
theorem has__law_unit {K : PySem.W.Frag} {h : Heap} {mg : Str → Option Value} {f : Addr} {oc : Value} {od an : Option Addr} {sl : Array (Option Value)} {kV dc pm cd ct : Value} (X : K.In h) (G : h.Ns mainGlobals mg) (a : PySem.W.nsIn K mainGlobals "_law_unit" = some (some (.ref f))) (l : K.lookup f = some ⟨oc, od, .func (PySem.W.fnOf "_law_unit" "_law_unit" (defArgs s__law_unit) (defBody s__law_unit) (defScope s__law_unit) .none kV dc pm an cd ct), sl⟩) (c : PySem.W.codeIn K cd "_law_unit" = true) (k : PySem.W.keepIn K (.ref f) = true) :
    HasFn K mg "_law_unit" s__law_unit ["_law_number", "_law_places", "_law_bent", "_law_great"] := ⟨f, _, fun_mk (st := s__law_unit) l c k, PySem.W.mg_of X G a, (fun_mk (st := s__law_unit) l c k).binds (ps := ["_law_number", "_law_places", "_law_bent", "_law_great"]) fun _ _ _ _ _ _ us hl => match us, hl with | [_, _, _, _], _ => rfl⟩
theorem has__law_net {K : PySem.W.Frag} {h : Heap} {mg : Str → Option Value} {f : Addr} {oc : Value} {od an : Option Addr} {sl : Array (Option Value)} {kV dc pm cd ct : Value} (X : K.In h) (G : h.Ns mainGlobals mg) (a : PySem.W.nsIn K mainGlobals "_law_net" = some (some (.ref f))) (l : K.lookup f = some ⟨oc, od, .func (PySem.W.fnOf "_law_net" "_law_net" (defArgs s__law_net) (defBody s__law_net) (defScope s__law_net) .none kV dc pm an cd ct), sl⟩) (c : PySem.W.codeIn K cd "_law_net" = true) (k : PySem.W.keepIn K (.ref f) = true) :
    HasFn K mg "_law_net" s__law_net ["_law_script", "_law_start", "_law_most_bends"] := ⟨f, _, fun_mk (st := s__law_net) l c k, PySem.W.mg_of X G a, (fun_mk (st := s__law_net) l c k).binds (ps := ["_law_script", "_law_start", "_law_most_bends"]) fun _ _ _ _ _ _ us hl => match us, hl with | [_, _, _], _ => rfl⟩
theorem has__law_sides {K : PySem.W.Frag} {h : Heap} {mg : Str → Option Value} {f : Addr} {oc : Value} {od an : Option Addr} {sl : Array (Option Value)} {kV dc pm cd ct : Value} (X : K.In h) (G : h.Ns mainGlobals mg) (a : PySem.W.nsIn K mainGlobals "_law_sides" = some (some (.ref f))) (l : K.lookup f = some ⟨oc, od, .func (PySem.W.fnOf "_law_sides" "_law_sides" (defArgs s__law_sides) (defBody s__law_sides) (defScope s__law_sides) .none kV dc pm an cd ct), sl⟩) (c : PySem.W.codeIn K cd "_law_sides" = true) (k : PySem.W.keepIn K (.ref f) = true) :
    HasFn K mg "_law_sides" s__law_sides ["_law_script", "_law_start", "_law_many_here"] := ⟨f, _, fun_mk (st := s__law_sides) l c k, PySem.W.mg_of X G a, (fun_mk (st := s__law_sides) l c k).binds (ps := ["_law_script", "_law_start", "_law_many_here"]) fun _ _ _ _ _ _ us hl => match us, hl with | [_, _, _], _ => rfl⟩
theorem has__law_bends {K : PySem.W.Frag} {h : Heap} {mg : Str → Option Value} {f : Addr} {oc : Value} {od an : Option Addr} {sl : Array (Option Value)} {kV dc pm cd ct : Value} (X : K.In h) (G : h.Ns mainGlobals mg) (a : PySem.W.nsIn K mainGlobals "_law_bends" = some (some (.ref f))) (l : K.lookup f = some ⟨oc, od, .func (PySem.W.fnOf "_law_bends" "_law_bends" (defArgs s__law_bends) (defBody s__law_bends) (defScope s__law_bends) .none kV dc pm an cd ct), sl⟩) (c : PySem.W.codeIn K cd "_law_bends" = true) (k : PySem.W.keepIn K (.ref f) = true) :
    HasFn K mg "_law_bends" s__law_bends ["_law_net_here"] := ⟨f, _, fun_mk (st := s__law_bends) l c k, PySem.W.mg_of X G a, (fun_mk (st := s__law_bends) l c k).binds (ps := ["_law_net_here"]) fun _ _ _ _ _ _ us hl => match us, hl with | [_], _ => rfl⟩
theorem has__law_case {K : PySem.W.Frag} {h : Heap} {mg : Str → Option Value} {f : Addr} {oc : Value} {od an : Option Addr} {sl : Array (Option Value)} {kV dc pm cd ct : Value} (X : K.In h) (G : h.Ns mainGlobals mg) (a : PySem.W.nsIn K mainGlobals "_law_case" = some (some (.ref f))) (l : K.lookup f = some ⟨oc, od, .func (PySem.W.fnOf "_law_case" "_law_case" (defArgs s__law_case) (defBody s__law_case) (defScope s__law_case) .none kV dc pm an cd ct), sl⟩) (c : PySem.W.codeIn K cd "_law_case" = true) (k : PySem.W.keepIn K (.ref f) = true) :
    HasFn K mg "_law_case" s__law_case ["_law_net_here", "_law_number"] := ⟨f, _, fun_mk (st := s__law_case) l c k, PySem.W.mg_of X G a, (fun_mk (st := s__law_case) l c k).binds (ps := ["_law_net_here", "_law_number"]) fun _ _ _ _ _ _ us hl => match us, hl with | [_, _], _ => rfl⟩
theorem has__law_alike {K : PySem.W.Frag} {h : Heap} {mg : Str → Option Value} {f : Addr} {oc : Value} {od an : Option Addr} {sl : Array (Option Value)} {kV dc pm cd ct : Value} (X : K.In h) (G : h.Ns mainGlobals mg) (a : PySem.W.nsIn K mainGlobals "_law_alike" = some (some (.ref f))) (l : K.lookup f = some ⟨oc, od, .func (PySem.W.fnOf "_law_alike" "_law_alike" (defArgs s__law_alike) (defBody s__law_alike) (defScope s__law_alike) .none kV dc pm an cd ct), sl⟩) (c : PySem.W.codeIn K cd "_law_alike" = true) (k : PySem.W.keepIn K (.ref f) = true) :
    HasFn K mg "_law_alike" s__law_alike ["_law_found", "_law_due_here"] := ⟨f, _, fun_mk (st := s__law_alike) l c k, PySem.W.mg_of X G a, (fun_mk (st := s__law_alike) l c k).binds (ps := ["_law_found", "_law_due_here"]) fun _ _ _ _ _ _ us hl => match us, hl with | [_, _], _ => rfl⟩
theorem has__law_not_above {K : PySem.W.Frag} {h : Heap} {mg : Str → Option Value} {f : Addr} {oc : Value} {od an : Option Addr} {sl : Array (Option Value)} {kV dc pm cd ct : Value} (X : K.In h) (G : h.Ns mainGlobals mg) (a : PySem.W.nsIn K mainGlobals "_law_not_above" = some (some (.ref f))) (l : K.lookup f = some ⟨oc, od, .func (PySem.W.fnOf "_law_not_above" "_law_not_above" (defArgs s__law_not_above) (defBody s__law_not_above) (defScope s__law_not_above) .none kV dc pm an cd ct), sl⟩) (c : PySem.W.codeIn K cd "_law_not_above" = true) (k : PySem.W.keepIn K (.ref f) = true) :
    HasFn K mg "_law_not_above" s__law_not_above ["_law_form", "_law_number"] := ⟨f, _, fun_mk (st := s__law_not_above) l c k, PySem.W.mg_of X G a, (fun_mk (st := s__law_not_above) l c k).binds (ps := ["_law_form", "_law_number"]) fun _ _ _ _ _ _ us hl => match us, hl with | [_, _], _ => rfl⟩
theorem has__law_times {K : PySem.W.Frag} {h : Heap} {mg : Str → Option Value} {f : Addr} {oc : Value} {od an : Option Addr} {sl : Array (Option Value)} {kV dc pm cd ct : Value} (X : K.In h) (G : h.Ns mainGlobals mg) (a : PySem.W.nsIn K mainGlobals "_law_times" = some (some (.ref f))) (l : K.lookup f = some ⟨oc, od, .func (PySem.W.fnOf "_law_times" "_law_times" (defArgs s__law_times) (defBody s__law_times) (defScope s__law_times) .none kV dc pm an cd ct), sl⟩) (c : PySem.W.codeIn K cd "_law_times" = true) (k : PySem.W.keepIn K (.ref f) = true) :
    HasFn K mg "_law_times" s__law_times ["_law_form", "_law_by"] := ⟨f, _, fun_mk (st := s__law_times) l c k, PySem.W.mg_of X G a, (fun_mk (st := s__law_times) l c k).binds (ps := ["_law_form", "_law_by"]) fun _ _ _ _ _ _ us hl => match us, hl with | [_, _], _ => rfl⟩
theorem has__law_both {K : PySem.W.Frag} {h : Heap} {mg : Str → Option Value} {f : Addr} {oc : Value} {od an : Option Addr} {sl : Array (Option Value)} {kV dc pm cd ct : Value} (X : K.In h) (G : h.Ns mainGlobals mg) (a : PySem.W.nsIn K mainGlobals "_law_both" = some (some (.ref f))) (l : K.lookup f = some ⟨oc, od, .func (PySem.W.fnOf "_law_both" "_law_both" (defArgs s__law_both) (defBody s__law_both) (defScope s__law_both) .none kV dc pm an cd ct), sl⟩) (c : PySem.W.codeIn K cd "_law_both" = true) (k : PySem.W.keepIn K (.ref f) = true) :
    HasFn K mg "_law_both" s__law_both ["_law_one", "_law_other"] := ⟨f, _, fun_mk (st := s__law_both) l c k, PySem.W.mg_of X G a, (fun_mk (st := s__law_both) l c k).binds (ps := ["_law_one", "_law_other"]) fun _ _ _ _ _ _ us hl => match us, hl with | [_, _], _ => rfl⟩
theorem has__law_third {K : PySem.W.Frag} {h : Heap} {mg : Str → Option Value} {f : Addr} {oc : Value} {od an : Option Addr} {sl : Array (Option Value)} {kV dc pm cd ct : Value} (X : K.In h) (G : h.Ns mainGlobals mg) (a : PySem.W.nsIn K mainGlobals "_law_third" = some (some (.ref f))) (l : K.lookup f = some ⟨oc, od, .func (PySem.W.fnOf "_law_third" "_law_third" (defArgs s__law_third) (defBody s__law_third) (defScope s__law_third) .none kV dc pm an cd ct), sl⟩) (c : PySem.W.codeIn K cd "_law_third" = true) (k : PySem.W.keepIn K (.ref f) = true) :
    HasFn K mg "_law_third" s__law_third ["_law_low", "_law_high", "_law_source", "_law_own"] := ⟨f, _, fun_mk (st := s__law_third) l c k, PySem.W.mg_of X G a, (fun_mk (st := s__law_third) l c k).binds (ps := ["_law_low", "_law_high", "_law_source", "_law_own"]) fun _ _ _ _ _ _ us hl => match us, hl with | [_, _, _, _], _ => rfl⟩
theorem has__law_due {K : PySem.W.Frag} {h : Heap} {mg : Str → Option Value} {f : Addr} {oc : Value} {od an : Option Addr} {sl : Array (Option Value)} {kV dc pm cd ct : Value} (X : K.In h) (G : h.Ns mainGlobals mg) (a : PySem.W.nsIn K mainGlobals "_law_due" = some (some (.ref f))) (l : K.lookup f = some ⟨oc, od, .func (PySem.W.fnOf "_law_due" "_law_due" (defArgs s__law_due) (defBody s__law_due) (defScope s__law_due) .none kV dc pm an cd ct), sl⟩) (c : PySem.W.codeIn K cd "_law_due" = true) (k : PySem.W.keepIn K (.ref f) = true) :
    HasFn K mg "_law_due" s__law_due ["_law_told", "_law_case_here", "_law_forms", "_law_sides_here"] := ⟨f, _, fun_mk (st := s__law_due) l c k, PySem.W.mg_of X G a, (fun_mk (st := s__law_due) l c k).binds (ps := ["_law_told", "_law_case_here", "_law_forms", "_law_sides_here"]) fun _ _ _ _ _ _ us hl => match us, hl with | [_, _, _, _], _ => rfl⟩
theorem has_law {K : PySem.W.Frag} {h : Heap} {mg : Str → Option Value} {f : Addr} {oc : Value} {od an : Option Addr} {sl : Array (Option Value)} {kV dc pm cd ct : Value} (X : K.In h) (G : h.Ns mainGlobals mg) (a : PySem.W.nsIn K mainGlobals "law" = some (some (.ref f))) (l : K.lookup f = some ⟨oc, od, .func (PySem.W.fnOf "law" "law" (defArgs s_law) (defBody s_law) (defScope s_law) .none kV dc pm an cd ct), sl⟩) (c : PySem.W.codeIn K cd "law" = true) (k : PySem.W.keepIn K (.ref f) = true) :
    HasFn K mg "law" s_law ["_law_script"] := ⟨f, _, fun_mk (st := s_law) l c k, PySem.W.mg_of X G a, (fun_mk (st := s_law) l c k).binds (ps := ["_law_script"]) fun _ _ _ _ _ _ us hl => match us, hl with | [_], _ => rfl⟩
theorem tup_of {K : PySem.W.Frag} {a : Addr} {od : Option Addr} {i j : Int} {t u : Tok} {n : Nat} {sl : Array (Option Value)} (l : K.lookup a = some ⟨.type "tuple", od, .seq #[.int i t, .int j u] n, sl⟩) : ∀ H, SqT K H a [.int i, .int j] :=
  fun H => .inr ⟨_, _, _, l, rfl, rfl, by show 2 ≤ sizeLine; decide, .cons ⟨_, rfl⟩ (.cons ⟨_, rfl⟩ .nil)⟩
theorem all_mk {l : PySem.W.OpenLaw} {w : World} {K : PySem.W.Frag} {h : Heap} {mg : Str → Option Value} {fa fl aN aO cB cN : Addr} {d_Box___init__ d_Box_told d_Net___init__ d_Net_told d_Net_bends : Addr} {oN oO od an : Option Addr} {sN sO sl : Array (Option Value)} {oc kV dc pm cd ct : Value} {kN kO : Nat} {tN1 tN2 tO1 tO2 : Tok} {tMOST tMOST_INS tMOST_UNITS tMOST_BENDS tMOST_OUTS : Tok} (X : K.In h) (G : h.Ns mainGlobals mg) (hfa : mg "law" = some (.ref fa))
    (aLaw : PySem.W.nsIn K mainGlobals "law" = some (some (.ref fl)))
    (lLaw : K.lookup fl = some ⟨oc, od, .func (PySem.W.fnOf "law" "law" (defArgs s_law) (defBody s_law) (defScope s_law) .none kV dc pm an cd ct), sl⟩)
    (cLaw : PySem.W.codeIn K cd "law" = true)
    (kLaw : PySem.W.keepIn K (.ref fl) = true)
    (gN : PySem.W.nsIn K mainGlobals "NOUGHT" = some (some (.ref aN)))
    (lN : K.lookup aN = some ⟨.type "tuple", oN, .seq #[.int 0 tN1, .int 1 tN2] kN, sN⟩)
    (gO : PySem.W.nsIn K mainGlobals "ONE" = some (some (.ref aO)))
    (lO : K.lookup aO = some ⟨.type "tuple", oO, .seq #[.int 1 tO1, .int 1 tO2] kO, sO⟩)
    (gMOST : PySem.W.nsIn K mainGlobals "MOST" = some (some (.int 6 tMOST)))
    (gMOST_INS : PySem.W.nsIn K mainGlobals "MOST_INS" = some (some (.int 6 tMOST_INS)))
    (gMOST_UNITS : PySem.W.nsIn K mainGlobals "MOST_UNITS" = some (some (.int 80 tMOST_UNITS)))
    (gMOST_BENDS : PySem.W.nsIn K mainGlobals "MOST_BENDS" = some (some (.int 20 tMOST_BENDS)))
    (gMOST_OUTS : PySem.W.nsIn K mainGlobals "MOST_OUTS" = some (some (.int 12 tMOST_OUTS)))
    (z_len : PySem.W.nsIn K mainGlobals "len" = some none)
    (z_isinstance : PySem.W.nsIn K mainGlobals "isinstance" = some none)
    (z_bool : PySem.W.nsIn K mainGlobals "bool" = some none)
    (z_int : PySem.W.nsIn K mainGlobals "int" = some none)
    (z_list : PySem.W.nsIn K mainGlobals "list" = some none)
    (z_tuple : PySem.W.nsIn K mainGlobals "tuple" = some none)
    (z_str : PySem.W.nsIn K mainGlobals "str" = some none)
    (z_divmod : PySem.W.nsIn K mainGlobals "divmod" = some none)
    (z_abs : PySem.W.nsIn K mainGlobals "abs" = some none)
    (z_min : PySem.W.nsIn K mainGlobals "min" = some none)
    (z_all : PySem.W.nsIn K mainGlobals "all" = some none)
    (z_range : PySem.W.nsIn K mainGlobals "range" = some none)
    (z_zip : PySem.W.nsIn K mainGlobals "zip" = some none)
    (z_enumerate : PySem.W.nsIn K mainGlobals "enumerate" = some none)
    (z_set : PySem.W.nsIn K mainGlobals "set" = some none)
    (gBox : PySem.W.nsIn K mainGlobals "Box" = some (some (.ref cB)))
    (pgBox : PySem.W.plainGet K cB Str.empty = true)
    (hdBox : PySem.W.hasDictIn K cB = true)
    (poBox : PySem.W.plainOver K cB = true)
    (saBox : PySem.W.findIn K (.ref cB) "__setattr__" = some (some (.builtin "object.__setattr__")))
    (mkBox : PySem.W.makesIn K cB = true)
    (kcBox : PySem.W.keepIn K (.ref cB) = true)
    (gNet : PySem.W.nsIn K mainGlobals "Net" = some (some (.ref cN)))
    (pgNet : PySem.W.plainGet K cN Str.empty = true)
    (hdNet : PySem.W.hasDictIn K cN = true)
    (poNet : PySem.W.plainOver K cN = true)
    (saNet : PySem.W.findIn K (.ref cN) "__setattr__" = some (some (.builtin "object.__setattr__")))
    (mkNet : PySem.W.makesIn K cN = true)
    (kcNet : PySem.W.keepIn K (.ref cN) = true)
    (n_sides : PySem.W.findIn K (.ref cB) "sides" = some none)
    (n_many : PySem.W.findIn K (.ref cN) "many" = some none)
    (n_units : PySem.W.findIn K (.ref cN) "units" = some none)
    (n_outs : PySem.W.findIn K (.ref cN) "outs" = some none)
    (a_Box___init__ : PySem.W.findIn K (.ref cB) "__init__" = some (some (.ref d_Box___init__)))
    (i_Box___init__ : PySem.W.isFn K (.ref d_Box___init__) = true)
    (k_Box___init__ : PySem.W.keepIn K (.ref d_Box___init__) = true)
    (a_Box_told : PySem.W.findIn K (.ref cB) "told" = some (some (.ref d_Box_told)))
    (i_Box_told : PySem.W.isFn K (.ref d_Box_told) = true)
    (k_Box_told : PySem.W.keepIn K (.ref d_Box_told) = true)
    (a_Net___init__ : PySem.W.findIn K (.ref cN) "__init__" = some (some (.ref d_Net___init__)))
    (i_Net___init__ : PySem.W.isFn K (.ref d_Net___init__) = true)
    (k_Net___init__ : PySem.W.keepIn K (.ref d_Net___init__) = true)
    (a_Net_told : PySem.W.findIn K (.ref cN) "told" = some (some (.ref d_Net_told)))
    (i_Net_told : PySem.W.isFn K (.ref d_Net_told) = true)
    (k_Net_told : PySem.W.keepIn K (.ref d_Net_told) = true)
    (a_Net_bends : PySem.W.findIn K (.ref cN) "bends" = some (some (.ref d_Net_bends)))
    (i_Net_bends : PySem.W.isFn K (.ref d_Net_bends) = true)
    (k_Net_bends : PySem.W.keepIn K (.ref d_Net_bends) = true)
    (f_is_whole : HasFn K mg "is_whole" s_is_whole ["thing"])
    (f_divisor : HasFn K mg "divisor" s_divisor ["one", "other"])
    (f_is_ratio : HasFn K mg "is_ratio" s_is_ratio ["thing"])
    (f_lowest : HasFn K mg "lowest" s_lowest ["top", "bottom"])
    (f_plus : HasFn K mg "plus" s_plus ["one", "other"])
    (f_negated : HasFn K mg "negated" s_negated ["one"])
    (f_minus : HasFn K mg "minus" s_minus ["one", "other"])
    (f_times : HasFn K mg "times" s_times ["one", "other"])
    (f_less : HasFn K mg "less" s_less ["one", "other"])
    (f_added : HasFn K mg "added" s_added ["one", "other"])
    (f_scaled : HasFn K mg "scaled" s_scaled ["form", "by"])
    (f_greater_of : HasFn K mg "greater_of" s_greater_of ["one", "other"])
    (f_span_of_sum : HasFn K mg "span_of_sum" s_span_of_sum ["constant", "terms", "known"])
    (f_spans : HasFn K mg "spans" s_spans ["net", "box"])
    (f_still_form : HasFn K mg "still_form" s_still_form ["many"])
    (f_lone_form : HasFn K mg "lone_form" s_lone_form ["k", "many"])
    (f_sum_form : HasFn K mg "sum_form" s_sum_form ["constant", "terms", "known", "many"])
    (f_forms_in : HasFn K mg "forms_in" s_forms_in ["net", "case"])
    (f_not_above : HasFn K mg "not_above" s_not_above ["form", "number"])
    (f_not_below : HasFn K mg "not_below" s_not_below ["form", "number"])
    (f_third_row : HasFn K mg "third_row" s_third_row ["side", "source", "own"])
    (f_rows_of_bend : HasFn K mg "rows_of_bend" s_rows_of_bend ["state", "side", "source", "own"])
    (f_rows_by : HasFn K mg "rows_by" s_rows_by ["net", "sides", "case", "known"])
    (f_rows_in : HasFn K mg "rows_in" s_rows_in ["net", "box", "case"])
    (f_is_side : HasFn K mg "is_side" s_is_side ["thing"])
    (f_Box___init__ : HasMe K "__init__" "Box.__init__" s_Box___init__ d_Box___init__ ["self", "sides"])
    (f_Box_told : HasMe K "told" "Box.told" s_Box_told d_Box_told ["self"])
    (f_is_place : HasFn K mg "is_place" s_is_place ["thing", "many"])
    (f_is_term : HasFn K mg "is_term" s_is_term ["thing", "many"])
    (f_is_sum : HasFn K mg "is_sum" s_is_sum ["thing", "many"])
    (f_is_unit : HasFn K mg "is_unit" s_is_unit ["thing", "many"])
    (f_copied_unit : HasFn K mg "copied_unit" s_copied_unit ["unit"])
    (f_Net___init__ : HasMe K "__init__" "Net.__init__" s_Net___init__ d_Net___init__ ["self", "many", "units", "outs"])
    (f_Net_told : HasMe K "told" "Net.told" s_Net_told d_Net_told ["self"])
    (f_Net_bends : HasMe K "bends" "Net.bends" s_Net_bends d_Net_bends ["self"])
    (f__law_cell_at : HasFn K mg "_law_cell_at" s__law_cell_at ["_law_script", "_law_k"])
    (f__law_mixed : HasFn K mg "_law_mixed" s__law_mixed ["_law_cell", "_law_k"])
    (f__law_wide : HasFn K mg "_law_wide" s__law_wide ["_law_number", "_law_k"])
    (f__law_seeds : HasFn K mg "_law_seeds" s__law_seeds ["_law_script", "_law_start", "_law_many_here"])
    (f__law_part : HasFn K mg "_law_part" s__law_part ["_law_top", "_law_bottom"])
    (f__law_sum : HasFn K mg "_law_sum" s__law_sum ["_law_one", "_law_other"])
    (f__law_many : HasFn K mg "_law_many" s__law_many ["_law_one", "_law_other"])
    (f__law_taken : HasFn K mg "_law_taken" s__law_taken ["_law_number", "_law_great"])
    (f__law_small : HasFn K mg "_law_small" s__law_small ["_law_number", "_law_great"])
    (f__law_unit : HasFn K mg "_law_unit" s__law_unit ["_law_number", "_law_places", "_law_bent", "_law_great"])
    (f__law_net : HasFn K mg "_law_net" s__law_net ["_law_script", "_law_start", "_law_most_bends"])
    (f__law_sides : HasFn K mg "_law_sides" s__law_sides ["_law_script", "_law_start", "_law_many_here"])
    (f__law_bends : HasFn K mg "_law_bends" s__law_bends ["_law_net_here"])
    (f__law_case : HasFn K mg "_law_case" s__law_case ["_law_net_here", "_law_number"])
    (f__law_alike : HasFn K mg "_law_alike" s__law_alike ["_law_found", "_law_due_here"])
    (f__law_not_above : HasFn K mg "_law_not_above" s__law_not_above ["_law_form", "_law_number"])
    (f__law_times : HasFn K mg "_law_times" s__law_times ["_law_form", "_law_by"])
    (f__law_both : HasFn K mg "_law_both" s__law_both ["_law_one", "_law_other"])
    (f__law_third : HasFn K mg "_law_third" s__law_third ["_law_low", "_law_high", "_law_source", "_law_own"])
    (f__law_due : HasFn K mg "_law_due" s__law_due ["_law_told", "_law_case_here", "_law_forms", "_law_sides_here"])
    (f_law : HasFn K mg "law" s_law ["_law_script"]) :
    ∃ fd : FuncData, (∀ (s : Shared) (v : Value), BindsTo s fd ⟨[v], []⟩ [("_law_script", v)]) ∧ ∀ base : Heap, K.In base → base.Ns mainGlobals mg → FnOk l.prog w K mg base CX0 10 fa fd ["_law_script"] (spLaw K) := by
  have e := hfa.symm.trans (PySem.W.mg_of X G aLaw)
  cases e
  have T : Txt K mg ⟨aN, aO, cB, cN, d_Box___init__, d_Box_told, d_Net___init__, d_Net_told, d_Net_bends⟩ := ⟨PySem.W.mg_none_of X G z_len, PySem.W.mg_none_of X G z_isinstance, PySem.W.mg_none_of X G z_bool, PySem.W.mg_none_of X G z_int, PySem.W.mg_none_of X G z_list, PySem.W.mg_none_of X G z_tuple, PySem.W.mg_none_of X G z_str, PySem.W.mg_none_of X G z_divmod, PySem.W.mg_none_of X G z_abs, PySem.W.mg_none_of X G z_min, PySem.W.mg_none_of X G z_all, PySem.W.mg_none_of X G z_range, PySem.W.mg_none_of X G z_zip, PySem.W.mg_none_of X G z_enumerate, PySem.W.mg_none_of X G z_set, PySem.W.mg_of X G gN, PySem.W.mg_of X G gO, tup_of lN, tup_of lO, ⟨_, PySem.W.mg_of X G gMOST⟩, ⟨_, PySem.W.mg_of X G gMOST_INS⟩, ⟨_, PySem.W.mg_of X G gMOST_UNITS⟩, ⟨_, PySem.W.mg_of X G gMOST_BENDS⟩, ⟨_, PySem.W.mg_of X G gMOST_OUTS⟩, PySem.W.mg_of X G gBox, PySem.W.mg_of X G gNet, ⟨pgBox, hdBox, poBox, saBox⟩, ⟨pgNet, hdNet, poNet, saNet⟩, ⟨mkBox, a_Box___init__, i_Box___init__, kcBox⟩, ⟨mkNet, a_Net___init__, i_Net___init__, kcNet⟩, ⟨a_Box_told, i_Box_told, k_Box_told⟩, ⟨a_Net_told, i_Net_told, k_Net_told⟩, ⟨a_Net_bends, i_Net_bends, k_Net_bends⟩, n_sides, n_many, n_units, n_outs⟩
  have F : Fns K mg ⟨aN, aO, cB, cN, d_Box___init__, d_Box_told, d_Net___init__, d_Net_told, d_Net_bends⟩ := ⟨f_is_whole, f_divisor, f_is_ratio, f_lowest, f_plus, f_negated, f_minus, f_times, f_less, f_added, f_scaled, f_greater_of, f_span_of_sum, f_spans, f_still_form, f_lone_form, f_sum_form, f_forms_in, f_not_above, f_not_below, f_third_row, f_rows_of_bend, f_rows_by, f_rows_in, f_is_side, f_Box___init__, f_Box_told, f_is_place, f_is_term, f_is_sum, f_is_unit, f_copied_unit, f_Net___init__, f_Net_told, f_Net_bends, f__law_cell_at, f__law_mixed, f__law_wide, f__law_seeds, f__law_part, f__law_sum, f__law_many, f__law_taken, f__law_small, f__law_unit, f__law_net, f__law_sides, f__law_bends, f__law_case, f__law_alike, f__law_not_above, f__law_times, f__law_both, f__law_third, f__law_due, f_law⟩
  exact ⟨PySem.W.fnOf "law" "law" (defArgs s_law) (defBody s_law) (defScope s_law) .none kV dc pm an cd ct, fun s v => .of_eq rfl, fun base _ _ => ok_law (fun_mk (st := s_law) lLaw cLaw kLaw) T F⟩
theorem walk {l : PySem.W.OpenLaw} {q : Program} {loose : List Str} {XP : (Str → Option Value) → Heap → Prop} {YP : World → Heap → Prop} {d : DefRec} {K : Params → PySem.W.Frag} (hn : l.most = some 63) (hdf : d.params.defaults = [])
    (hY : ∀ (w : World) (h : Heap), YP w h → (K w.params).In h)
    (F : ∀ (w : World) (mg : Str → Option Value) (fa : Addr) (h : Heap), (K w.params).In h → h.Ns mainGlobals mg → mg d.name = some (.ref fa) →
      ∃ fd : FuncData, (∀ (s : Shared) (u : Value), BindsTo s fd ⟨[u], []⟩ [("_law_script", u)]) ∧ ∀ base : Heap, (K w.params).In base → base.Ns mainGlobals mg → FnOk l.prog w (K w.params) mg base CX0 10 fa fd ["_law_script"] (spLaw (K w.params))) :
    PySem.W.WalkO q loose XP YP l.row.toRowW d [] (fun f vs => PySem.call f vs) :=
  L2.walk_of (n := 63) (k := 10) (x := "_law_script") (CX := fun _ => CX0) (sp := fun w => spLaw (K w.params)) hn (by decide) hdf ⟨rfl, by decide, by decide⟩ hY F (fun _ _ a ns hl _ hS => ⟨a, ns, rfl, hS, fun _ => rfl⟩) fun _ _ _ _ _ z => z
end BP
end


/-! A19 -/
open PySem PySem.W PyProof.Rows
set_option maxRecDepth 100000 in
set_option maxHeartbeats 0 in
theorem PySem.Challenge.cw_bendproof_k42_rows_told_holds : PySem.Challenge.rw_bendproof_k42_rows_told.Holds := by
  w_on; o_law; k_head; (case hw => w_witness2)
  k_fill
  refine BP.walk (l := PySem.Challenge.rw_bendproof_k42_rows_told) rfl rfl (fun w h Y => PySem.W.kIn_of Y) ?F
  case F =>
    intro w mg fa h KX G hmg
    refine' BP.all_mk KX G hmg ?aLaw ?lLaw ?cLaw ?kLaw ?gN ?lN ?gO ?lO ?gMOST ?gMOST_INS ?gMOST_UNITS ?gMOST_BENDS ?gMOST_OUTS ?z_len ?z_isinstance ?z_bool ?z_int ?z_list ?z_tuple ?z_str ?z_divmod ?z_abs ?z_min ?z_all ?z_range ?z_zip ?z_enumerate ?z_set ?gBox ?pgBox ?hdBox ?poBox ?saBox ?mkBox ?kcBox ?gNet ?pgNet ?hdNet ?poNet ?saNet ?mkNet ?kcNet ?n_sides ?n_many ?n_units ?n_outs ?a_Box___init__ ?i_Box___init__ ?k_Box___init__ ?a_Box_told ?i_Box_told ?k_Box_told ?a_Net___init__ ?i_Net___init__ ?k_Net___init__ ?a_Net_told ?i_Net_told ?k_Net_told ?a_Net_bends ?i_Net_bends ?k_Net_bends ?f_is_whole ?f_divisor ?f_is_ratio ?f_lowest ?f_plus ?f_negated ?f_minus ?f_times ?f_less ?f_added ?f_scaled ?f_greater_of ?f_span_of_sum ?f_spans ?f_still_form ?f_lone_form ?f_sum_form ?f_forms_in ?f_not_above ?f_not_below ?f_third_row ?f_rows_of_bend ?f_rows_by ?f_rows_in ?f_is_side ?f_Box___init__ ?f_Box_told ?f_is_place ?f_is_term ?f_is_sum ?f_is_unit ?f_copied_unit ?f_Net___init__ ?f_Net_told ?f_Net_bends ?f__law_cell_at ?f__law_mixed ?f__law_wide ?f__law_seeds ?f__law_part ?f__law_sum ?f__law_many ?f__law_taken ?f__law_small ?f__law_unit ?f__law_net ?f__law_sides ?f__law_bends ?f__law_case ?f__law_alike ?f__law_not_above ?f__law_times ?f__law_both ?f__law_third ?f__law_due ?f_law
    (case aLaw => k_is)
    (case lLaw => k_is)
    (case cLaw => k_is)
    (case kLaw => k_is)
    (case gN => k_is)
    (case lN => k_is)
    (case gO => k_is)
    (case lO => k_is)
    (case gMOST => k_is)
    (case gMOST_INS => k_is)
    (case gMOST_UNITS => k_is)
    (case gMOST_BENDS => k_is)
    (case gMOST_OUTS => k_is)
    (case z_len => k_is)
    (case z_isinstance => k_is)
    (case z_bool => k_is)
    (case z_int => k_is)
    (case z_list => k_is)
    (case z_tuple => k_is)
    (case z_str => k_is)
    (case z_divmod => k_is)
    (case z_abs => k_is)
    (case z_min => k_is)
    (case z_all => k_is)
    (case z_range => k_is)
    (case z_zip => k_is)
    (case z_enumerate => k_is)
    (case z_set => k_is)
    (case gBox => k_is)
    (case pgBox => k_is)
    (case hdBox => k_is)
    (case poBox => k_is)
    (case saBox => k_is)
    (case mkBox => k_is)
    (case kcBox => k_is)
    (case gNet => k_is)
    (case pgNet => k_is)
    (case hdNet => k_is)
    (case poNet => k_is)
    (case saNet => k_is)
    (case mkNet => k_is)
    (case kcNet => k_is)
    (case n_sides => k_is)
    (case n_many => k_is)
    (case n_units => k_is)
    (case n_outs => k_is)
    (case a_Box___init__ => k_is)
    (case i_Box___init__ => k_is)
    (case k_Box___init__ => k_is)
    (case a_Box_told => k_is)
    (case i_Box_told => k_is)
    (case k_Box_told => k_is)
    (case a_Net___init__ => k_is)
    (case i_Net___init__ => k_is)
    (case k_Net___init__ => k_is)
    (case a_Net_told => k_is)
    (case i_Net_told => k_is)
    (case k_Net_told => k_is)
    (case a_Net_bends => k_is)
    (case i_Net_bends => k_is)
    (case k_Net_bends => k_is)
    (case f_is_whole => refine' BP.has_is_whole KX G ?a ?l ?c ?k; (case a => k_is); (case l => k_is); (case c => k_is); (case k => k_is))
    (case f_divisor => refine' BP.has_divisor KX G ?a ?l ?c ?k; (case a => k_is); (case l => k_is); (case c => k_is); (case k => k_is))
    (case f_is_ratio => refine' BP.has_is_ratio KX G ?a ?l ?c ?k; (case a => k_is); (case l => k_is); (case c => k_is); (case k => k_is))
    (case f_lowest => refine' BP.has_lowest KX G ?a ?l ?c ?k; (case a => k_is); (case l => k_is); (case c => k_is); (case k => k_is))
    (case f_plus => refine' BP.has_plus KX G ?a ?l ?c ?k; (case a => k_is); (case l => k_is); (case c => k_is); (case k => k_is))
    (case f_negated => refine' BP.has_negated KX G ?a ?l ?c ?k; (case a => k_is); (case l => k_is); (case c => k_is); (case k => k_is))
    (case f_minus => refine' BP.has_minus KX G ?a ?l ?c ?k; (case a => k_is); (case l => k_is); (case c => k_is); (case k => k_is))
    (case f_times => refine' BP.has_times KX G ?a ?l ?c ?k; (case a => k_is); (case l => k_is); (case c => k_is); (case k => k_is))
    (case f_less => refine' BP.has_less KX G ?a ?l ?c ?k; (case a => k_is); (case l => k_is); (case c => k_is); (case k => k_is))
    (case f_added => refine' BP.has_added KX G ?a ?l ?c ?k; (case a => k_is); (case l => k_is); (case c => k_is); (case k => k_is))
    (case f_scaled => refine' BP.has_scaled KX G ?a ?l ?c ?k; (case a => k_is); (case l => k_is); (case c => k_is); (case k => k_is))
    (case f_greater_of => refine' BP.has_greater_of KX G ?a ?l ?c ?k; (case a => k_is); (case l => k_is); (case c => k_is); (case k => k_is))
    (case f_span_of_sum => refine' BP.has_span_of_sum KX G ?a ?l ?c ?k; (case a => k_is); (case l => k_is); (case c => k_is); (case k => k_is))
    (case f_spans => refine' BP.has_spans KX G ?a ?l ?c ?k; (case a => k_is); (case l => k_is); (case c => k_is); (case k => k_is))
    (case f_still_form => refine' BP.has_still_form KX G ?a ?l ?c ?k; (case a => k_is); (case l => k_is); (case c => k_is); (case k => k_is))
    (case f_lone_form => refine' BP.has_lone_form KX G ?a ?l ?c ?k; (case a => k_is); (case l => k_is); (case c => k_is); (case k => k_is))
    (case f_sum_form => refine' BP.has_sum_form KX G ?a ?l ?c ?k; (case a => k_is); (case l => k_is); (case c => k_is); (case k => k_is))
    (case f_forms_in => refine' BP.has_forms_in KX G ?a ?l ?c ?k; (case a => k_is); (case l => k_is); (case c => k_is); (case k => k_is))
    (case f_not_above => refine' BP.has_not_above KX G ?a ?l ?c ?k; (case a => k_is); (case l => k_is); (case c => k_is); (case k => k_is))
    (case f_not_below => refine' BP.has_not_below KX G ?a ?l ?c ?k; (case a => k_is); (case l => k_is); (case c => k_is); (case k => k_is))
    (case f_third_row => refine' BP.has_third_row KX G ?a ?l ?c ?k; (case a => k_is); (case l => k_is); (case c => k_is); (case k => k_is))
    (case f_rows_of_bend => refine' BP.has_rows_of_bend KX G ?a ?l ?c ?k; (case a => k_is); (case l => k_is); (case c => k_is); (case k => k_is))
    (case f_rows_by => refine' BP.has_rows_by KX G ?a ?l ?c ?k; (case a => k_is); (case l => k_is); (case c => k_is); (case k => k_is))
    (case f_rows_in => refine' BP.has_rows_in KX G ?a ?l ?c ?k; (case a => k_is); (case l => k_is); (case c => k_is); (case k => k_is))
    (case f_is_side => refine' BP.has_is_side KX G ?a ?l ?c ?k; (case a => k_is); (case l => k_is); (case c => k_is); (case k => k_is))
    (case f_Box___init__ => refine' BP.has_Box___init__ ?l ?c ?k; (case l => k_is); (case c => k_is); (case k => k_is))
    (case f_Box_told => refine' BP.has_Box_told ?l ?c ?k; (case l => k_is); (case c => k_is); (case k => k_is))
    (case f_is_place => refine' BP.has_is_place KX G ?a ?l ?c ?k; (case a => k_is); (case l => k_is); (case c => k_is); (case k => k_is))
    (case f_is_term => refine' BP.has_is_term KX G ?a ?l ?c ?k; (case a => k_is); (case l => k_is); (case c => k_is); (case k => k_is))
    (case f_is_sum => refine' BP.has_is_sum KX G ?a ?l ?c ?k; (case a => k_is); (case l => k_is); (case c => k_is); (case k => k_is))
    (case f_is_unit => refine' BP.has_is_unit KX G ?a ?l ?c ?k; (case a => k_is); (case l => k_is); (case c => k_is); (case k => k_is))
    (case f_copied_unit => refine' BP.has_copied_unit KX G ?a ?l ?c ?k; (case a => k_is); (case l => k_is); (case c => k_is); (case k => k_is))
    (case f_Net___init__ => refine' BP.has_Net___init__ ?l ?c ?k; (case l => k_is); (case c => k_is); (case k => k_is))
    (case f_Net_told => refine' BP.has_Net_told ?l ?c ?k; (case l => k_is); (case c => k_is); (case k => k_is))
    (case f_Net_bends => refine' BP.has_Net_bends ?l ?c ?k; (case l => k_is); (case c => k_is); (case k => k_is))
    (case f__law_cell_at => refine' BP.has__law_cell_at KX G ?a ?l ?c ?k; (case a => k_is); (case l => k_is); (case c => k_is); (case k => k_is))
    (case f__law_mixed => refine' BP.has__law_mixed KX G ?a ?l ?c ?k; (case a => k_is); (case l => k_is); (case c => k_is); (case k => k_is))
    (case f__law_wide => refine' BP.has__law_wide KX G ?a ?l ?c ?k; (case a => k_is); (case l => k_is); (case c => k_is); (case k => k_is))
    (case f__law_seeds => refine' BP.has__law_seeds KX G ?a ?l ?c ?k; (case a => k_is); (case l => k_is); (case c => k_is); (case k => k_is))
    (case f__law_part => refine' BP.has__law_part KX G ?a ?l ?c ?k; (case a => k_is); (case l => k_is); (case c => k_is); (case k => k_is))
    (case f__law_sum => refine' BP.has__law_sum KX G ?a ?l ?c ?k; (case a => k_is); (case l => k_is); (case c => k_is); (case k => k_is))
    (case f__law_many => refine' BP.has__law_many KX G ?a ?l ?c ?k; (case a => k_is); (case l => k_is); (case c => k_is); (case k => k_is))
    (case f__law_taken => refine' BP.has__law_taken KX G ?a ?l ?c ?k; (case a => k_is); (case l => k_is); (case c => k_is); (case k => k_is))
    (case f__law_small => refine' BP.has__law_small KX G ?a ?l ?c ?k; (case a => k_is); (case l => k_is); (case c => k_is); (case k => k_is))
    (case f__law_unit => refine' BP.has__law_unit KX G ?a ?l ?c ?k; (case a => k_is); (case l => k_is); (case c => k_is); (case k => k_is))
    (case f__law_net => refine' BP.has__law_net KX G ?a ?l ?c ?k; (case a => k_is); (case l => k_is); (case c => k_is); (case k => k_is))
    (case f__law_sides => refine' BP.has__law_sides KX G ?a ?l ?c ?k; (case a => k_is); (case l => k_is); (case c => k_is); (case k => k_is))
    (case f__law_bends => refine' BP.has__law_bends KX G ?a ?l ?c ?k; (case a => k_is); (case l => k_is); (case c => k_is); (case k => k_is))
    (case f__law_case => refine' BP.has__law_case KX G ?a ?l ?c ?k; (case a => k_is); (case l => k_is); (case c => k_is); (case k => k_is))
    (case f__law_alike => refine' BP.has__law_alike KX G ?a ?l ?c ?k; (case a => k_is); (case l => k_is); (case c => k_is); (case k => k_is))
    (case f__law_not_above => refine' BP.has__law_not_above KX G ?a ?l ?c ?k; (case a => k_is); (case l => k_is); (case c => k_is); (case k => k_is))
    (case f__law_times => refine' BP.has__law_times KX G ?a ?l ?c ?k; (case a => k_is); (case l => k_is); (case c => k_is); (case k => k_is))
    (case f__law_both => refine' BP.has__law_both KX G ?a ?l ?c ?k; (case a => k_is); (case l => k_is); (case c => k_is); (case k => k_is))
    (case f__law_third => refine' BP.has__law_third KX G ?a ?l ?c ?k; (case a => k_is); (case l => k_is); (case c => k_is); (case k => k_is))
    (case f__law_due => refine' BP.has__law_due KX G ?a ?l ?c ?k; (case a => k_is); (case l => k_is); (case c => k_is); (case k => k_is))
    (case f_law => refine' BP.has_law KX G ?a ?l ?c ?k; (case a => k_is); (case l => k_is); (case c => k_is); (case k => k_is))
