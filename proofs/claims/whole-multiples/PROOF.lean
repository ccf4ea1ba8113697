import PyProof.Rows.All
import Wide.All
import OpenK.AllK
import Wide.FinOn
import HandS.ForMost
import HandS.Walk
import HandS.Zip
import HandS.Wide
import HandS.SortOrd
import HandS.SortKw
import HandS.NamedTupSort
import HandS.Conv
import HandS.TupLe
import HandS.TupMul
import HandS.TupAny
import KE.KSortTupAny
import KE.KDictSum
import HandS.Style
import KE.KDictPairs
import KE.KRevSl
import HandS.ForExc
import HandS.ExcInit
import HandS.ClsMeth
import HandS.IsInst
import PySem.Challenge.RW_commonzeros_k16_whole_multiples
import KE.Datum
set_option Elab.async false
set_option linter.all false
set_option maxRecDepth 100000
set_option maxHeartbeats 2000000
section
/-! Sums of terms as linear functionals, bounds of ratios, the one canonical form. Plain Lean: no program in sight. -/
set_option autoImplicit false
namespace CZ
abbrev Mon := List Int
abbrev Tm := Mon × Rat
abbrev Pl := List Tm

/-! ### what a list of terms comes to under a function of powers -/
def ev (f : Mon → Rat) : Pl → Rat
  | [] => 0
  | t :: r => t.2 * f t.1 + ev f r
theorem ev_nil (f : Mon → Rat) : ev f [] = 0 := rfl
theorem ev_cons (f : Mon → Rat) (t : Tm) (r : Pl) : ev f (t :: r) = t.2 * f t.1 + ev f r := rfl
theorem ev_append (f : Mon → Rat) : ∀ P R : Pl, ev f (P ++ R) = ev f P + ev f R
  | [], R => by rw [List.nil_append, ev_nil]; grind
  | t :: P, R => by rw [List.cons_append, ev_cons, ev_cons, ev_append f P R]; grind
theorem ev_perm (f : Mon → Rat) {P R : Pl} (h : P.Perm R) : ev f P = ev f R := by
  induction h with
  | nil => rfl
  | cons t _ ih => rw [ev_cons, ev_cons, ih]
  | swap s t l => rw [ev_cons, ev_cons, ev_cons, ev_cons]; grind
  | trans _ _ a b => exact a.trans b
theorem ev_filter (f : Mon → Rat) : ∀ P : Pl, ev f (P.filter fun t => decide (t.2 ≠ 0)) = ev f P
  | [] => rfl
  | t :: P => by
    by_cases h : t.2 = 0
    · rw [List.filter_cons_of_neg (by simp [h]), ev_filter f P, ev_cons, h]; grind
    · rw [List.filter_cons_of_pos (by simp [h]), ev_cons, ev_cons, ev_filter f P]
theorem ev_zero : ∀ P : Pl, ev (fun _ => 0) P = 0
  | [] => rfl
  | t :: P => by rw [ev_cons, ev_zero P]; grind
theorem ev_add (f g : Mon → Rat) : ∀ P : Pl, ev (fun m => f m + g m) P = ev f P + ev g P
  | [] => by rw [ev_nil, ev_nil, ev_nil]; grind
  | t :: P => by rw [ev_cons, ev_cons, ev_cons, ev_add f g P]; grind
theorem ev_scale (f : Mon → Rat) (c : Rat) : ∀ P : Pl, ev (fun m => c * f m) P = c * ev f P
  | [] => by rw [ev_nil, ev_nil]; grind
  | t :: P => by rw [ev_cons, ev_cons, ev_scale f c P]; grind
theorem ev_congr {f g : Mon → Rat} : ∀ {P : Pl}, (∀ t ∈ P, f t.1 = g t.1) → ev f P = ev g P
  | [], _ => rfl
  | t :: P, h => by rw [ev_cons, ev_cons, h t List.mem_cons_self, ev_congr fun s hs => h s (List.mem_cons_of_mem _ hs)]

/-- powers put together -/
def jo (a b : Mon) : Mon := List.zipWith (· + ·) a b
theorem jo_assoc : ∀ a b c : Mon, jo (jo a b) c = jo a (jo b c)
  | [], b, c => by cases b <;> cases c <;> rfl
  | x :: a, [], c => by cases c <;> rfl
  | x :: a, y :: b, [] => rfl
  | x :: a, y :: b, z :: c => by
    show (x + y + z) :: jo (jo a b) c = (x + (y + z)) :: jo a (jo b c)
    rw [jo_assoc a b c, Int.add_assoc]
theorem jo_length (a b : Mon) : (jo a b).length = min a.length b.length := by
  unfold jo; rw [List.length_zipWith]

/-- the double sum of a product -/
def ev2 (f : Mon → Rat) (P R : Pl) : Rat := ev (fun m => ev (fun k => f (jo m k)) R) P
/-- the terms of a product: each of P times each of R, R outside -/
def terms (P R : Pl) : Pl := R.flatMap fun t => P.map fun s => (jo s.1 t.1, s.2 * t.2)
theorem ev_by (f : Mon → Rat) (t : Tm) : ∀ P : Pl, ev f (P.map fun s => (jo s.1 t.1, s.2 * t.2)) = t.2 * ev (fun m => f (jo m t.1)) P
  | [] => by rw [List.map_nil, ev_nil, ev_nil]; grind
  | s :: P => by rw [List.map_cons, ev_cons, ev_cons, ev_by f t P]; grind
theorem ev2_nil (f : Mon → Rat) (P : Pl) : ev2 f P [] = 0 := by
  unfold ev2
  rw [show (fun m => ev (fun k => f (jo m k)) []) = fun _ => (0 : Rat) from rfl, ev_zero]
theorem ev2_cons (f : Mon → Rat) (P : Pl) (t : Tm) (R : Pl) : ev2 f P (t :: R) = t.2 * ev (fun m => f (jo m t.1)) P + ev2 f P R := by
  unfold ev2
  rw [show (fun m => ev (fun k => f (jo m k)) (t :: R)) = fun m => t.2 * f (jo m t.1) + ev (fun k => f (jo m k)) R from rfl, ev_add (fun m => t.2 * f (jo m t.1)), ev_scale (fun m => f (jo m t.1))]
theorem ev_terms (f : Mon → Rat) (P : Pl) : ∀ R : Pl, ev f (terms P R) = ev2 f P R
  | [] => (ev2_nil f P).symm
  | t :: R => by
    rw [ev2_cons, ← ev_terms f P R, ← ev_by]
    show ev f ((P.map fun s => (jo s.1 t.1, s.2 * t.2)) ++ terms P R) = _
    rw [ev_append]

/-- the sum of products, one of each -/
def sev (f : Mon → Rat) : List Pl → List Pl → Rat
  | T :: Ts, A :: As => ev2 f T A + sev f Ts As
  | _, _ => 0
theorem sev_nil (f : Mon → Rat) (As : List Pl) : sev f [] As = 0 := by cases As <;> rfl
theorem sev_cons (f : Mon → Rat) (T A : Pl) (Ts As : List Pl) : sev f (T :: Ts) (A :: As) = ev2 f T A + sev f Ts As := rfl
/-- sums of multiples -/
theorem sev_sum (f : Mon → Rat) : ∀ (Fs Gs Bs As : List Pl), Fs.length = Gs.length → (∀ (i : Nat) (F G B : Pl), Fs[i]? = some F → Gs[i]? = some G → Bs[i]? = some B → ∀ g, ev g B = ev g F + ev g G) → Bs.length = Fs.length →
    sev f Bs As = sev f Fs As + sev f Gs As
  | [], [], [], As, _, _, _ => by rw [sev_nil]; grind
  | F :: Fs, G :: Gs, B :: Bs, [], _, _, _ => by show (0 : Rat) = 0 + 0; grind
  | F :: Fs, G :: Gs, B :: Bs, A :: As, hl, h, hb => by
    rw [sev_cons, sev_cons, sev_cons, sev_sum f Fs Gs Bs As (by simpa using hl) (fun i F' G' B' h1 h2 h3 => h (i + 1) F' G' B' (by simpa using h1) (by simpa using h2) (by simpa using h3)) (by simpa using hb)]
    have e : ev2 f B A = ev2 f F A + ev2 f G A := h 0 F G B rfl rfl rfl _
    rw [e]; grind
  | [], _ :: _, _, _, hl, _, _ => by simp at hl
  | _ :: _, [], _, _, hl, _, _ => by simp at hl
  | [], [], _ :: _, _, _, _, hb => by simp at hb
  | _ :: _, _ :: _, [], _, _, _, hb => by simp at hb
/-- a product of three -/
theorem ev2_assoc (f : Mon → Rat) (X F A : Pl) : ev (fun m => ev2 (fun k => f (jo m k)) F A) X = ev (fun m => ev (fun k => ev (fun l => f (jo (jo m k) l)) A) F) X := by
  refine ev_congr fun t _ => ?_
  unfold ev2
  refine ev_congr fun s _ => ev_congr fun r _ => ?_
  rw [jo_assoc]
theorem sev_times (f : Mon → Rat) (X : Pl) : ∀ (Fs Bs As : List Pl), Bs.length = Fs.length → (∀ (i : Nat) (F B : Pl), Fs[i]? = some F → Bs[i]? = some B → ∀ g, ev g B = ev2 g X F) →
    sev f Bs As = ev (fun m => sev (fun k => f (jo m k)) Fs As) X
  | [], [], As, _, _ => by
    rw [sev_nil, show (fun m => sev (fun k => f (jo m k)) [] As) = fun _ => (0 : Rat) from funext fun m => sev_nil _ _, ev_zero]
  | F :: Fs, B :: Bs, [], _, _ => by
    rw [show (fun m => sev (fun k => f (jo m k)) (F :: Fs) []) = fun _ => (0 : Rat) from rfl, ev_zero]; rfl
  | F :: Fs, B :: Bs, A :: As, hl, h => by
    rw [sev_cons, sev_times f X Fs Bs As (by simpa using hl) (fun i F' B' h1 h2 => h (i + 1) F' B' (by simpa using h1) (by simpa using h2))]
    rw [show (fun m => sev (fun k => f (jo m k)) (F :: Fs) (A :: As)) = fun m => ev2 (fun k => f (jo m k)) F A + sev (fun k => f (jo m k)) Fs As from rfl,
      ev_add (fun m => ev2 (fun k => f (jo m k)) F A), ev2_assoc]
    have e : ev2 f B A = ev2 (fun x => ev (fun l => f (jo x l)) A) X F := h 0 F B rfl rfl _
    rw [e]
    rfl
  | [], _ :: _, _, hl, _ => by simp at hl
  | _ :: _, [], _, hl, _ => by simp at hl

/-! ### the value at a point -/
def mv : List Rat → Mon → Rat
  | p :: ps, k :: ks => p ^ k.toNat * mv ps ks
  | _, _ => 1
theorem pow_add (p : Rat) (a : Nat) : ∀ b : Nat, p ^ (a + b) = p ^ a * p ^ b
  | 0 => by rw [Nat.add_zero, Rat.pow_zero]; grind
  | b + 1 => by rw [← Nat.add_assoc, Rat.pow_succ, Rat.pow_succ, pow_add p a b]; grind
theorem mv_jo : ∀ (ps : List Rat) (a b : Mon), a.length = ps.length → b.length = ps.length → (∀ k ∈ a, 0 ≤ k) → (∀ k ∈ b, 0 ≤ k) → mv ps (jo a b) = mv ps a * mv ps b
  | [], a, b, _, _, _, _ => by
    show (1 : Rat) = 1 * 1
    grind
  | p :: ps, x :: a, y :: b, ha, hb, na, nb => by
    show p ^ (x + y).toNat * mv ps (jo a b) = (p ^ x.toNat * mv ps a) * (p ^ y.toNat * mv ps b)
    have hx := na x List.mem_cons_self
    have hy := nb y List.mem_cons_self
    rw [mv_jo ps a b (by simpa using ha) (by simpa using hb) (fun k hk => na k (List.mem_cons_of_mem _ hk)) (fun k hk => nb k (List.mem_cons_of_mem _ hk)),
      show (x + y).toNat = x.toNat + y.toNat by omega, pow_add]
    grind
  | _ :: _, [], _, ha, _, _, _ => by simp at ha
  | _ :: _, _ :: _, [], _, hb, _, _ => by simp at hb

/-! ### bounds -/
def IsB (M C : Nat) (q : Rat) : Prop := ∃ z : Int, q * (M : Rat) = (z : Rat) ∧ z.natAbs ≤ C
theorem IsB.zero (M : Nat) : IsB M 0 0 := ⟨0, by rw [show ((0 : Int) : Rat) = 0 from rfl]; grind, Nat.le_refl 0⟩
theorem IsB.mono {M C D : Nat} {q : Rat} (h : IsB M C q) (hc : C ≤ D) : IsB M D q := let ⟨z, a, b⟩ := h; ⟨z, a, Nat.le_trans b hc⟩
theorem IsB.add {M C D : Nat} {p q : Rat} (h : IsB M C p) (k : IsB M D q) : IsB M (C + D) (p + q) := by
  obtain ⟨z, a, b⟩ := h
  obtain ⟨y, c, d⟩ := k
  refine ⟨z + y, ?_, by omega⟩
  rw [Rat.intCast_add, ← a, ← c]; grind
theorem IsB.mul {M N C D : Nat} {p q : Rat} (h : IsB M C p) (k : IsB N D q) : IsB (M * N) (C * D) (p * q) := by
  obtain ⟨z, a, b⟩ := h
  obtain ⟨y, c, d⟩ := k
  refine ⟨z * y, ?_, by rw [Int.natAbs_mul]; exact Nat.mul_le_mul b d⟩
  rw [Rat.intCast_mul, ← a, ← c, Rat.natCast_mul]; grind
theorem IsB.up {M C : Nat} {q : Rat} (N : Nat) (h : IsB M C q) : IsB (M * N) (C * N) q := by
  obtain ⟨z, a, b⟩ := h
  refine ⟨z * (N : Int), ?_, by rw [Int.natAbs_mul, Int.natAbs_natCast]; exact Nat.mul_le_mul b (Nat.le_refl N)⟩
  rw [Rat.intCast_mul, ← a, Rat.natCast_mul, Rat.intCast_natCast]; grind
theorem IsB.neg {M C : Nat} {q : Rat} (h : IsB M C q) : IsB M C (-q) := by
  obtain ⟨z, a, b⟩ := h
  refine ⟨-z, ?_, by omega⟩
  rw [Rat.intCast_neg, ← a]; grind
theorem IsB.ofInt {M : Nat} (z : Int) : IsB M (z.natAbs * M) (z : Rat) := ⟨z * (M : Int), by rw [Rat.intCast_mul, Rat.intCast_natCast], by rw [Int.natAbs_mul, Int.natAbs_natCast]; exact Nat.le_refl _⟩
theorem num_eq {q : Rat} {M : Nat} {z : Int} (h : q * (M : Rat) = (z : Rat)) : q.num * (M : Int) = z * (q.den : Int) := by
  have hd : (q.den : Rat) ≠ 0 := fun h => q.den_nz (Rat.natCast_eq_zero_iff.mp h)
  have e0 : q = (q.num : Rat) / (q.den : Rat) := by rw [← Rat.mkRat_eq_div, Rat.mkRat_self]
  have e : q * (q.den : Rat) = (q.num : Rat) := by
    have e1 := Rat.div_mul_cancel (a := (q.num : Rat)) hd
    rw [← e0] at e1
    exact e1
  have e2 : ((q.num * (M : Int) : Int) : Rat) = ((z * (q.den : Int) : Int) : Rat) := by
    rw [Rat.intCast_mul, Rat.intCast_mul, Rat.intCast_natCast, Rat.intCast_natCast, ← h, ← e]; grind
  exact Rat.intCast_inj.mp e2
theorem IsB.bounds {M C : Nat} {q : Rat} (h : IsB M C q) (hM : 0 < M) : q.den ≤ M ∧ q.num.natAbs ≤ C := by
  obtain ⟨z, a, b⟩ := h
  have e := num_eq a
  have e2 : q.num.natAbs * M = z.natAbs * q.den := by
    have e3 := congrArg Int.natAbs e
    rw [Int.natAbs_mul, Int.natAbs_mul, Int.natAbs_natCast, Int.natAbs_natCast] at e3
    exact e3
  have co : Nat.Coprime q.num.natAbs q.den := q.reduced
  have d1 : q.den ∣ M := co.symm.dvd_of_dvd_mul_left ⟨z.natAbs, by rw [e2, Nat.mul_comm]⟩
  have d2 : q.num.natAbs ∣ z.natAbs := co.dvd_of_dvd_mul_right ⟨M, e2.symm⟩
  refine ⟨Nat.le_of_dvd hM d1, ?_⟩
  by_cases hz : z.natAbs = 0
  · rw [hz, Nat.zero_mul] at e2
    rcases Nat.mul_eq_zero.mp e2 with h0 | h0
    · omega
    · omega
  · exact Nat.le_trans (Nat.le_of_dvd (Nat.pos_of_ne_zero hz) d2) b
/-- small enough for the machine's numbers -/
def Big : Nat := 2 ^ 3000
structure Sm (q : Rat) : Prop where
  num : q.num.natAbs < Big
  den : q.den < Big
theorem IsB.sm {M C : Nat} {q : Rat} (h : IsB M C q) (hM : 0 < M) (h1 : M < Big) (h2 : C < Big) : Sm q :=
  ⟨Nat.lt_of_le_of_lt (h.bounds hM).2 h2, Nat.lt_of_le_of_lt (h.bounds hM).1 h1⟩

/-! ### the canonical form -/
section
variable (lt : Mon → Mon → Bool)
structure Cn (P : Pl) : Prop where
  desc : P.Pairwise fun s t => lt t.1 s.1 = true
  nz : ∀ t ∈ P, t.2 ≠ 0
end
def ind (m : Mon) : Mon → Rat := fun k => if k = m then 1 else 0
theorem ev_ind_none (m : Mon) : ∀ {P : Pl}, (∀ t ∈ P, t.1 ≠ m) → ev (ind m) P = 0
  | [], _ => rfl
  | t :: P, h => by
    rw [ev_cons, ev_ind_none m fun s hs => h s (List.mem_cons_of_mem _ hs)]
    unfold ind
    rw [if_neg (h t List.mem_cons_self)]; grind
theorem ev_ind_one (m : Mon) (c : Rat) {P : Pl} (h : ∀ t ∈ P, t.1 ≠ m) : ev (ind m) ((m, c) :: P) = c := by
  rw [ev_cons, ev_ind_none m h]
  unfold ind
  rw [if_pos rfl]; grind
theorem ev_ind_skip (m k : Mon) (c : Rat) (h : k ≠ m) (P : Pl) : ev (ind m) ((k, c) :: P) = ev (ind m) P := by
  rw [ev_cons]
  show c * ind m k + _ = _
  unfold ind
  rw [if_neg h]; grind
theorem cn_uniq {lt : Mon → Mon → Bool} (asym : ∀ x y, lt x y = true → lt y x = false) : ∀ {P R : Pl}, Cn lt P → Cn lt R → (∀ m, ev (ind m) P = ev (ind m) R) → P = R := by
  have irr : ∀ x, lt x x = true → False := fun x h => by have := asym x x h; rw [h] at this; cases this
  have head : ∀ {t : Tm} {P : Pl}, Cn lt (t :: P) → ∀ s ∈ P, s.1 ≠ t.1 := fun {t P} c s hs e => by
    have := (List.pairwise_cons.mp c.desc).1 s hs
    rw [e] at this
    exact irr _ this
  have tail : ∀ {t : Tm} {P : Pl}, Cn lt (t :: P) → Cn lt P := fun {t P} c => ⟨(List.pairwise_cons.mp c.desc).2, fun s hs => c.nz s (List.mem_cons_of_mem _ hs)⟩
  have isin : ∀ {m : Mon} {P : Pl}, ev (ind m) P ≠ 0 → ∃ s ∈ P, s.1 = m := fun {m P} h => by
    refine Classical.byContradiction fun no => h (ev_ind_none m fun t ht e => no ⟨t, ht, e⟩)
  intro P
  induction P with
  | nil =>
    intro R _ cR h
    cases R with
    | nil => rfl
    | cons t R =>
      have e := h t.1
      have e2 : ev (ind t.1) (t :: R) = t.2 := ev_ind_one t.1 t.2 (head cR)
      rw [e2, ev_nil] at e
      exact absurd e.symm (cR.nz t List.mem_cons_self)
  | cons t P ih =>
    intro R cP cR h
    cases R with
    | nil =>
      have e := h t.1
      have e2 : ev (ind t.1) (t :: P) = t.2 := ev_ind_one t.1 t.2 (head cP)
      rw [e2, ev_nil] at e
      exact absurd e (cP.nz t List.mem_cons_self)
    | cons u R =>
      have eP : ev (ind t.1) (t :: P) = t.2 := ev_ind_one t.1 t.2 (head cP)
      have eR : ev (ind u.1) (u :: R) = u.2 := ev_ind_one u.1 u.2 (head cR)
      have k1 : t.1 = u.1 := by
        refine Classical.byContradiction fun ne => ?_
        obtain ⟨s, hs, es⟩ := isin (m := t.1) (P := u :: R) (by rw [← h, eP]; exact cP.nz t List.mem_cons_self)
        obtain ⟨r, hr, er⟩ := isin (m := u.1) (P := t :: P) (by rw [h, eR]; exact cR.nz u List.mem_cons_self)
        have hs' : s ∈ R := (List.mem_cons.mp hs).resolve_left fun e => ne (by rw [← es, e])
        have hr' : r ∈ P := (List.mem_cons.mp hr).resolve_left fun e => ne (by rw [← er, e])
        have a := (List.pairwise_cons.mp cR.desc).1 s hs'
        have b := (List.pairwise_cons.mp cP.desc).1 r hr'
        rw [es] at a
        rw [er] at b
        rw [asym _ _ a] at b
        cases b
      have k2 : t.2 = u.2 := by
        rw [← eP, ← eR, h, k1]
      have k : t = u := Prod.ext k1 k2
      subst k
      rw [ih (tail cP) (tail cR) fun m => ?_]
      by_cases em : t.1 = m
      · rw [← em, ev_ind_none _ (head cP), ev_ind_none _ (head cR)]
      · have := h m
        rw [show t = (t.1, t.2) from rfl, ev_ind_skip m t.1 t.2 em, ev_ind_skip m t.1 t.2 em] at this
        exact this

/-! ### shapes and bounds of polynomials -/
structure Po (n M C N : Nat) (e : Int) (P : Pl) : Prop where
  len : P.length ≤ N
  cf : ∀ t ∈ P, IsB M C t.2
  mon : ∀ t ∈ P, t.1.length = n ∧ ∀ k ∈ t.1, 0 ≤ k ∧ k ≤ e
theorem Po.nil (n M C N : Nat) (e : Int) : Po n M C N e [] := ⟨Nat.zero_le _, fun _ h => absurd h (List.not_mem_nil), fun _ h => absurd h (List.not_mem_nil)⟩
theorem Po.mono {n M C N C' N' : Nat} {e e' : Int} {P : Pl} (h : Po n M C N e P) (hC : C ≤ C') (hN : N ≤ N') (he : e ≤ e') : Po n M C' N' e' P :=
  ⟨Nat.le_trans h.len hN, fun t ht => (h.cf t ht).mono hC, fun t ht => ⟨(h.mon t ht).1, fun k hk => ⟨((h.mon t ht).2 k hk).1, Int.le_trans ((h.mon t ht).2 k hk).2 he⟩⟩⟩
theorem Po.up {n M C N : Nat} {e : Int} {P : Pl} (K : Nat) (h : Po n M C N e P) : Po n (M * K) (C * K) N e P := ⟨h.len, fun t ht => (h.cf t ht).up K, h.mon⟩
theorem Po.append {n M C N N' : Nat} {e : Int} {P R : Pl} (h : Po n M C N e P) (k : Po n M C N' e R) : Po n M C (N + N') e (P ++ R) :=
  ⟨by rw [List.length_append]; exact Nat.add_le_add h.len k.len, fun t ht => (List.mem_append.mp ht).elim (h.cf t) (k.cf t), fun t ht => (List.mem_append.mp ht).elim (h.mon t) (k.mon t)⟩
theorem jo_mem : ∀ {a b : Mon} {k : Int}, k ∈ jo a b → ∃ x y, x ∈ a ∧ y ∈ b ∧ k = x + y
  | [], b, k, h => by cases b <;> exact absurd h List.not_mem_nil
  | x :: a, [], k, h => absurd h List.not_mem_nil
  | x :: a, y :: b, k, h => by
    rcases List.mem_cons.mp (show k ∈ (x + y) :: jo a b from h) with e | h
    · exact ⟨x, y, List.mem_cons_self, List.mem_cons_self, e⟩
    · obtain ⟨u, v, hu, hv, e⟩ := jo_mem h
      exact ⟨u, v, List.mem_cons_of_mem _ hu, List.mem_cons_of_mem _ hv, e⟩
theorem jo_mon {n : Nat} {a b : Mon} {e e' : Int} (ha : a.length = n ∧ ∀ k ∈ a, 0 ≤ k ∧ k ≤ e) (hb : b.length = n ∧ ∀ k ∈ b, 0 ≤ k ∧ k ≤ e') : (jo a b).length = n ∧ ∀ k ∈ jo a b, 0 ≤ k ∧ k ≤ e + e' := by
  refine ⟨by rw [jo_length, ha.1, hb.1, Nat.min_self], fun k hk => ?_⟩
  obtain ⟨x, y, hx, hy, rfl⟩ := jo_mem hk
  have h1 := ha.2 x hx
  have h2 := hb.2 y hy
  omega
theorem terms_length (P : Pl) : ∀ R : Pl, (terms P R).length = R.length * P.length
  | [] => by rw [List.length_nil, Nat.zero_mul]; rfl
  | t :: R => by
    show ((P.map fun s => (jo s.1 t.1, s.2 * t.2)) ++ terms P R).length = _
    rw [List.length_append, List.length_map, terms_length P R, List.length_cons, Nat.succ_mul, Nat.add_comm]
theorem Po.terms {n M C N M' C' N' : Nat} {e e' : Int} {P R : Pl} (h : Po n M C N e P) (k : Po n M' C' N' e' R) : Po n (M * M') (C * C') (N * N') (e + e') (terms P R) := by
  refine ⟨?_, fun t ht => ?_, fun t ht => ?_⟩
  · rw [terms_length, Nat.mul_comm]; exact Nat.mul_le_mul h.len k.len
  · obtain ⟨r, hr, ht⟩ := List.mem_flatMap.mp ht
    obtain ⟨s, hs, rfl⟩ := List.mem_map.mp ht
    exact (h.cf s hs).mul (k.cf r hr)
  · obtain ⟨r, hr, ht⟩ := List.mem_flatMap.mp ht
    obtain ⟨s, hs, rfl⟩ := List.mem_map.mp ht
    exact jo_mon (h.mon s hs) (k.mon r hr)

/-! ### values at a point, of products -/
section
variable {n M C N M' C' N' : Nat} {e e' : Int} {P R : Pl} {pt : List Rat}
theorem ev2_mv (h : Po n M C N e P) (k : Po n M' C' N' e' R) (hp : pt.length = n) : ev2 (mv pt) P R = ev (mv pt) P * ev (mv pt) R := by
  unfold ev2
  have e1 : ev (fun m => ev (fun k => mv pt (jo m k)) R) P = ev (fun m => ev (mv pt) R * mv pt m) P := by
    refine ev_congr fun t ht => ?_
    have e2 : ev (fun k => mv pt (jo t.1 k)) R = ev (fun k => mv pt t.1 * mv pt k) R := ev_congr fun s hs =>
      mv_jo pt t.1 s.1 ((h.mon t ht).1.trans hp.symm) ((k.mon s hs).1.trans hp.symm) (fun z hz => ((h.mon t ht).2 z hz).1) (fun z hz => ((k.mon s hs).2 z hz).1)
    rw [e2, ev_scale]; grind
  rw [e1, ev_scale]; grind
theorem sev_mv (hp : pt.length = n) : ∀ (Ts As : List Pl), (∀ T ∈ Ts, Po n M C N e T) → (∀ A ∈ As, Po n M' C' N' e' A ∧ ev (mv pt) A = 0) → sev (mv pt) Ts As = 0
  | [], As, _, _ => sev_nil _ _
  | T :: Ts, [], _, _ => rfl
  | T :: Ts, A :: As, hT, hA => by
    rw [sev_cons, sev_mv hp Ts As (fun X hX => hT X (List.mem_cons_of_mem _ hX)) (fun X hX => hA X (List.mem_cons_of_mem _ hX)),
      ev2_mv (hT T List.mem_cons_self) (hA A List.mem_cons_self).1 hp, (hA A List.mem_cons_self).2]; grind
end
end CZ
end
section
/-! Values at a point: bounds. Plain Lean. -/
set_option autoImplicit false
namespace CZ
theorem mv_take : ∀ (i : Nat) (ps : List Rat) (m : Mon) (p : Rat) (k : Int), ps[i]? = some p → m[i]? = some k → mv (ps.take (i + 1)) (m.take (i + 1)) = mv (ps.take i) (m.take i) * p ^ k.toNat
  | 0, q :: ps, j :: m, p, k, h1, h2 => by
    have e1 : q = p := Option.some.inj h1
    have e2 : j = k := Option.some.inj h2
    subst e1; subst e2
    show q ^ j.toNat * 1 = 1 * q ^ j.toNat
    grind
  | i + 1, q :: ps, j :: m, p, k, h1, h2 => by
    have ih := mv_take i ps m p k (by simpa using h1) (by simpa using h2)
    show q ^ j.toNat * mv (ps.take (i + 1)) (m.take (i + 1)) = q ^ j.toNat * mv (ps.take i) (m.take i) * p ^ k.toNat
    rw [ih]
    grind
  | i, [], _, _, _, h, _ => by simp at h
  | i, _ :: _, [], _, _, _, h => by simp at h
theorem IsB.one : IsB (10 ^ 0) (30 ^ 0) 1 := ⟨1, by
  show (1 : Rat) * ((1 : Nat) : Rat) = ((1 : Int) : Rat)
  rw [Rat.one_mul]; rfl, Nat.le_refl 1⟩
theorem IsB.step {t : Nat} {X p : Rat} (h : IsB (10 ^ t) (30 ^ t) X) (k : IsB 10 30 p) : IsB (10 ^ (t + 1)) (30 ^ (t + 1)) (X * p) := by
  rw [Nat.pow_succ, Nat.pow_succ]
  exact h.mul k
theorem IsB.top {M C t : Nat} {q X : Rat} (h : IsB M C q) (k : IsB (10 ^ t) (30 ^ t) X) (ht : t ≤ 18) : IsB (M * 10 ^ 18) (C * 30 ^ 18) (q * X) := by
  obtain ⟨s, hs⟩ : ∃ s, 18 = t + s := ⟨18 - t, by omega⟩
  rw [hs]
  rw [Nat.pow_add, ← Nat.mul_assoc]
  refine ((h.mul k).up (10 ^ s)).mono ?_
  rw [Nat.pow_add 30, ← Nat.mul_assoc]
  exact Nat.mul_le_mul_left _ (Nat.pow_le_pow_left (by decide) s)
theorem IsB.powp {p : Rat} (hp : IsB 10 30 p) : ∀ (j t : Nat) (X : Rat), IsB (10 ^ t) (30 ^ t) X → IsB (10 ^ (t + j)) (30 ^ (t + j)) (X * p ^ j)
  | 0, t, X, h => by rw [Rat.pow_zero, Rat.mul_one]; exact h
  | j + 1, t, X, h => by
    rw [Rat.pow_succ, ← Rat.mul_assoc]
    exact (IsB.powp hp j t X h).step hp
theorem mv_isB {e : Nat} : ∀ (ps : List Rat) (m : Mon), (∀ p ∈ ps, IsB 10 30 p) → (∀ k ∈ m, 0 ≤ k ∧ k ≤ (e : Int)) → ∃ t, t ≤ e * ps.length ∧ IsB (10 ^ t) (30 ^ t) (mv ps m)
  | [], m, _, _ => ⟨0, Nat.zero_le _, IsB.one⟩
  | p :: ps, [], _, _ => ⟨0, Nat.zero_le _, IsB.one⟩
  | p :: ps, k :: m, h1, h2 => by
    obtain ⟨t, ht, hb⟩ := mv_isB (e := e) ps m (fun q hq => h1 q (List.mem_cons_of_mem _ hq)) fun q hq => h2 q (List.mem_cons_of_mem _ hq)
    have hk := h2 k List.mem_cons_self
    refine ⟨t + k.toNat, ?_, ?_⟩
    · rw [List.length_cons, Nat.mul_succ]
      omega
    · show IsB _ _ (p ^ k.toNat * mv ps m)
      rw [Rat.mul_comm]
      exact IsB.powp (h1 p List.mem_cons_self) _ _ _ hb
theorem val_isB {M C e : Nat} (ps : List Rat) (hp : ∀ p ∈ ps, IsB 10 30 p) (he : e * ps.length ≤ 18) : ∀ P : Pl, (∀ s ∈ P, IsB M C s.2 ∧ ∀ k ∈ s.1, 0 ≤ k ∧ k ≤ (e : Int)) → IsB (M * 10 ^ 18) (P.length * (C * 30 ^ 18)) (ev (mv ps) P)
  | [], _ => (IsB.zero _).mono (Nat.zero_le _)
  | s :: P, h => by
    obtain ⟨h1, h2⟩ := h s List.mem_cons_self
    obtain ⟨t, ht, hb⟩ := mv_isB (e := e) ps s.1 hp h2
    rw [ev_cons, List.length_cons, Nat.succ_mul, Nat.add_comm]
    exact (h1.top hb (Nat.le_trans ht he)).add (val_isB ps hp he P fun r hr => h r (List.mem_cons_of_mem _ hr))
theorem isB_mk {L b : Nat} (a : Int) (hb : b ∣ L) (h0 : 0 < b) : IsB L (a.natAbs * L) (mkRat a b) := by
  obtain ⟨k, rfl⟩ := hb
  refine ⟨a * (k : Int), ?_, ?_⟩
  · have e1 : ((b * k : Nat) : Rat) = mkRat ((b * k : Nat) : Int) 1 := by
      rw [Rat.mkRat_eq_div, Rat.intCast_natCast]
      show _ = _ / ((1 : Nat) : Rat)
      rw [show ((1 : Nat) : Rat) = 1 from rfl]
      grind
    have e2 : ((a * (k : Int) : Int) : Rat) = mkRat (a * (k : Int)) 1 := by
      rw [Rat.mkRat_eq_div, show ((1 : Nat) : Rat) = 1 from rfl]
      grind
    rw [e1, e2, Rat.mkRat_mul_mkRat, Nat.mul_one, Int.natCast_mul, show a * ((b : Int) * (k : Int)) = (b : Int) * (a * (k : Int)) by grind]
    have := Rat.mkRat_mul_left (n := a * (k : Int)) (d := 1) (a := b) (by omega)
    rw [Nat.mul_one] at this
    exact this
  · rw [Int.natAbs_mul, Int.natAbs_natCast]
    exact Nat.mul_le_mul_left _ (Nat.le_mul_of_pos_left k h0)
theorem mv_zeros : ∀ (ps : List Rat) (n : Nat), mv ps (List.replicate n 0) = 1
  | [], 0 => rfl
  | [], n + 1 => rfl
  | p :: ps, 0 => rfl
  | p :: ps, n + 1 => by
    show p ^ (0 : Int).toNat * mv ps (List.replicate n 0) = 1
    rw [mv_zeros ps n, show (0 : Int).toNat = 0 from rfl, Rat.pow_zero, Rat.mul_one]
def LL : Nat := 2329089562800
theorem dvd_LL : ∀ b : Nat, 1 ≤ b → b ≤ 30 → b ∣ LL := by
  intro b h1 h2
  have : ∀ b : Fin 31, 1 ≤ b.val → b.val ∣ LL := by decide +kernel
  exact this ⟨b, by omega⟩ h1
end CZ
end
section
/-! The law's own mathematics: levels, what is let is nought at the point. Plain Lean, over bounds. -/
set_option autoImplicit false
namespace CZ
theorem sev_let {Fs Gs Bs As : List Pl} {Z1 Z2 Y : Pl} (hl : Fs.length = Gs.length) (hb : Bs.length = Fs.length)
    (h : ∀ (i : Nat) (F G B : Pl), Fs[i]? = some F → Gs[i]? = some G → Bs[i]? = some B → ∀ g, ev g B = ev g F + ev g G) (h1 : ∀ f, ev f Z1 = sev f Fs As) (h2 : ∀ f, ev f Z2 = sev f Gs As) (hY : ∀ f, ev f Y = ev f Z1 + ev f Z2) : ∀ f, ev f Y = sev f Bs As := fun f => by
  rw [hY, h1, h2, sev_sum f Fs Gs Bs As hl h hb]
theorem sev_prod {X Z1 Y : Pl} {Fs Bs As : List Pl} (hb : Bs.length = Fs.length) (h : ∀ (i : Nat) (F B : Pl), Fs[i]? = some F → Bs[i]? = some B → ∀ g, ev g B = ev2 g X F) (h1 : ∀ f, ev f Z1 = sev f Fs As) (hY : ∀ f, ev f Y = ev2 f X Z1) : ∀ f, ev f Y = sev f Bs As := fun f => by
  rw [hY, sev_times f X Fs Bs As hb h]
  unfold ev2
  exact ev_congr fun t _ => h1 _
/-- the unit multiples show each -/
theorem ev2_one (f : Mon → Rat) {n : Nat} {A : Pl} (hA : ∀ t ∈ A, t.1.length = n) : ev2 f [(List.replicate n 0, 1)] A = ev f A := by
  unfold ev2
  rw [ev_cons, ev_nil]
  have e : ev (fun k => f (jo (List.replicate n 0) k)) A = ev f A := ev_congr fun t ht => by
    have : jo (List.replicate n 0) t.1 = t.1 := by
      have hz : ∀ (m : Mon), jo (List.replicate m.length 0) m = m := by
        intro m
        induction m with
        | nil => rfl
        | cons x m ih =>
          show (0 + x) :: jo (List.replicate m.length 0) m = x :: m
          rw [ih, Int.zero_add]
      have := hz t.1
      rw [hA t ht] at this
      exact this
    rw [this]
  show 1 * ev (fun k => f (jo (List.replicate n 0) k)) A + 0 = _
  rw [e]
  grind
theorem ev2_empty (f : Mon → Rat) (A : Pl) : ev2 f [] A = 0 := rfl
theorem sev_zero (f : Mon → Rat) : ∀ Ts As : List Pl, (∀ T ∈ Ts, T = []) → sev f Ts As = 0
  | [], As, _ => sev_nil _ _
  | T :: Ts, [], _ => rfl
  | T :: Ts, A :: As, h => by
    rw [sev_cons, h T List.mem_cons_self, ev2_empty, sev_zero f Ts As fun X hX => h X (List.mem_cons_of_mem _ hX)]
    grind
theorem sev_unit (f : Mon → Rat) {n : Nat} : ∀ (Us As : List Pl) (j : Nat) (A : Pl), Us.length = As.length → (∀ (i : Nat) (U : Pl), Us[i]? = some U → U = if i = j then [(List.replicate n 0, 1)] else []) → As[j]? = some A → (∀ t ∈ A, t.1.length = n) → sev f Us As = ev f A
  | U :: Us, B :: As, 0, A, hl, h, hA, hn => by
    have eB : B = A := Option.some.inj hA
    subst eB
    have eU : U = [(List.replicate n 0, 1)] := by
      have := h 0 U rfl
      rw [if_pos rfl] at this
      exact this
    rw [sev_cons, eU, ev2_one f hn, sev_zero f Us As fun X hX => by
      obtain ⟨i, hi, e⟩ := List.mem_iff_getElem.mp hX
      have := h (i + 1) X (by rw [List.getElem?_cons_succ, List.getElem?_eq_getElem hi, e])
      rw [if_neg (by omega)] at this
      exact this]
    grind
  | U :: Us, B :: As, j + 1, A, hl, h, hA, hn => by
    have eU : U = [] := by
      have := h 0 U rfl
      rw [if_neg (by omega)] at this
      exact this
    rw [sev_cons, eU, ev2_empty, sev_unit f Us As j A (by simpa using hl) (fun i V hV => by
      have := h (i + 1) V (by rw [List.getElem?_cons_succ]; exact hV)
      rw [this]
      by_cases e : i = j
      · rw [if_pos e, if_pos (by omega)]
      · rw [if_neg e, if_neg (by omega)]) (by simpa using hA) hn]
    grind
  | [], B :: As, _, _, hl, _, _, _ => by simp at hl
  | _, [], _, _, _, _, hA, _ => by simp at hA
end CZ
end
/-! What readings come to, the heap growing (the tape alone may change). -/
namespace CZ
open PySem PySem.Spec PyProof.Rows L2

/-- the tape: its address, the script's, the script -/
structure TP where
  tp : Addr
  scr : Addr
  ns : List Int
abbrev TT' := Option TP
def TapeOk : TT' → Hp → Prop
  | none, _ => True
  | some q, H => q.ns.length ≤ 63 ∧ H q.scr = some (.lst (q.ns.map V.int)) ∧ ∃ a b c : Int, H q.tp = some (.lst [.ref q.scr, .int a, .int b, .int c]) ∧ 0 ≤ a ∧ 0 ≤ b ∧ 0 ≤ c
theorem tape_ne {q : TP} {H : Hp} (h : TapeOk (some q) H) : q.scr ≠ q.tp := by
  obtain ⟨_, h1, a, b, c, h2, _⟩ := h
  intro e
  rw [e, h2] at h1
  have h3 : HO.lst [.ref q.scr, .int a, .int b, .int c] = HO.lst (q.ns.map V.int) := Option.some.inj h1
  injection h3 with h4
  cases hn : q.ns with
  | nil => rw [hn] at h4; cases h4
  | cons x r => rw [hn] at h4; cases h4
/-- all that was tracked stands but the tape's own list -/
structure Gx (t : TT') (H H' : Hp) : Prop where
  keep : ∀ a o, H a = some o → (∀ q, t = some q → a ≠ q.tp) → H' a = some o
  t0 : TapeOk t H
  t1 : TapeOk t H'
theorem Gx.refl {t : TT'} {H : Hp} (h : TapeOk t H) : Gx t H H := ⟨fun _ _ h _ => h, h, h⟩
theorem Gx.here {t : TT'} {H H' : Hp} (g : Gx t H H') : Gx t H' H' := Gx.refl g.t1
theorem Gx.trans {t : TT'} {H H1 H2 : Hp} (a : Gx t H H1) (b : Gx t H1 H2) : Gx t H H2 := ⟨fun x o h n => b.keep x o (a.keep x o h n) n, a.t0, b.t1⟩
theorem tape_keep {t : TT'} {H H' : Hp} (h : TapeOk t H) (k : ∀ a o, H a = some o → H' a = some o) : TapeOk t H' := by
  cases t with
  | none => trivial
  | some q =>
    obtain ⟨h0, h1, a, b, c, h2, h3⟩ := h
    exact ⟨h0, k _ _ h1, a, b, c, k _ _ h2, h3⟩
theorem Gx.of_keep {t : TT'} {H H' : Hp} (h : TapeOk t H) (k : ∀ a o, H a = some o → H' a = some o) : Gx t H H' := ⟨fun a o e _ => k a o e, h, tape_keep h k⟩
/-- a def that knows no tape -/
theorem Gx.of_pure {t : TT'} {H H' : Hp} (h : TapeOk t H) (g : Gx none H H') : Gx t H H' := Gx.of_keep h fun a o e => g.keep a o e fun _ z => nomatch z
theorem Gx.new {t : TT'} {H : Hp} {p : Addr} {o : HO} (h : TapeOk t H) (hp : H p = none) : Gx t H (upd H p o) := Gx.of_keep h fun a u e => by
  rw [upd_ne (ne_of_none e hp)]; exact e
/-- an object that H does not know may change -/
theorem Gx.mut {t : TT'} {H H' : Hp} {p : Addr} {o : HO} (g : Gx t H H') (hp : H p = none) : Gx t H (upd H' p o) := by
  refine ⟨fun a u e n => by rw [upd_ne (ne_of_none e hp)]; exact g.keep a u e n, g.t0, ?_⟩
  have h0 := g.t0
  have h1 := g.t1
  cases t with
  | none => trivial
  | some q =>
    obtain ⟨_, z1, _, _, _, z2, _⟩ := h0
    obtain ⟨w0, w1, a, b, c, w2, w3⟩ := h1
    exact ⟨w0, by rw [upd_ne (ne_of_none z1 hp)]; exact w1, a, b, c, by rw [upd_ne (ne_of_none z2 hp)]; exact w2, w3⟩
theorem Gx.fresh {t : TT'} {H H' : Hp} {p : Addr} (g : Gx t H H') (hp : H' p = none) : H p = none := by
  cases e : H p with
  | none => rfl
  | some o =>
    by_cases n : ∀ q, t = some q → p ≠ q.tp
    · rw [g.keep p o e n] at hp; cases hp
    · exfalso
      refine n fun q eq => ?_
      subst eq
      obtain ⟨_, _, a, b, c, z, _⟩ := g.t1
      exact ne_of_none z hp |>.symm
/-- what is no list of four is kept -/
theorem Gx.tup {t : TT'} {H H' : Hp} {a : Addr} {xs : List V} (g : Gx t H H') (h : H a = some (.tup xs)) : H' a = some (.tup xs) := by
  refine g.keep a _ h fun q eq => ?_
  subst eq
  obtain ⟨_, _, x, y, c, z, _⟩ := g.t0
  exact ne_of h z (by intro w; cases w)
theorem Gx.frz {t : TT'} {H H' : Hp} {a : Addr} {o : Obj} {u : HO} (g : Gx t H H') (h : H a = some (.frz o u)) : H' a = some (.frz o u) := by
  refine g.keep a _ h fun q eq => ?_
  subst eq
  obtain ⟨_, _, x, y, c, z, _⟩ := g.t0
  exact ne_of h z (by intro w; cases w)
theorem Gx.dT {t : TT'} {H H' : Hp} {a : Addr} {kvs : List (List Key × V)} (g : Gx t H H') (h : H a = some (.dT kvs)) : H' a = some (.dT kvs) := by
  refine g.keep a _ h fun q eq => ?_
  subst eq
  obtain ⟨_, _, x, y, c, z, _⟩ := g.t0
  exact ne_of h z (by intro w; cases w)
theorem Gx.sqT {t : TT'} {K : PySem.W.Frag} {H H' : Hp} {a : Addr} {xs : List V} (g : Gx t H H') (h : SqT K H a xs) : SqT K H' a xs := by
  rcases h with (h | ⟨o, h⟩) | h
  · exact .inl (.inl (g.tup h))
  · exact .inl (.inr ⟨o, g.frz h⟩)
  · exact .inr h
/-- a list that is not the tape: one that stood ahead of the tape's own start or is fresh -/
theorem Gx.lst {t : TT'} {H H' : Hp} {a : Addr} {xs : List V} (g : Gx t H H') (h : H a = some (.lst xs)) (n : ∀ q, t = some q → a ≠ q.tp) : H' a = some (.lst xs) := g.keep a _ h n
theorem Gx.lstP {H H' : Hp} {a : Addr} {xs : List V} (g : Gx none H H') (h : H a = some (.lst xs)) : H' a = some (.lst xs) := g.keep a _ h fun _ z => nomatch z
/-- fresh ahead: not the tape -/
theorem Gx.notTape {t : TT'} {H H' : Hp} {p : Addr} (g : Gx t H H') (hp : H p = none) : ∀ q, t = some q → p ≠ q.tp := fun q eq => by
  subst eq
  obtain ⟨_, _, x, y, c, z, _⟩ := g.t0
  exact (ne_of_none z hp).symm

/-! ### what stays true while the tuples stand -/
structure Tx (H H' : Hp) : Prop where
  tup : ∀ a xs, H a = some (.tup xs) → H' a = some (.tup xs)
  frz : ∀ a o u, H a = some (.frz o u) → H' a = some (.frz o u)
theorem Gx.tx {t : TT'} {H H' : Hp} (g : Gx t H H') : Tx H H' := ⟨fun _ _ => g.tup, fun _ _ _ => g.frz⟩
theorem Tx.refl (H : Hp) : Tx H H := ⟨fun _ _ h => h, fun _ _ _ h => h⟩
theorem Tx.trans {H H1 H2 : Hp} (a : Tx H H1) (b : Tx H1 H2) : Tx H H2 := ⟨fun c xs h => b.tup c xs (a.tup c xs h), fun c o u h => b.frz c o u (a.frz c o u h)⟩
theorem Tx.lst {H : Hp} {p : Addr} {xs : List V} {o : HO} (h : H p = some (.lst xs)) : Tx H (upd H p o) :=
  ⟨fun a ys e => by rw [upd_ne (ne_of e h fun z => nomatch z)]; exact e, fun a w u e => by rw [upd_ne (ne_of e h fun z => nomatch z)]; exact e⟩
theorem Tx.dT {H : Hp} {p : Addr} {xs : List (List Key × V)} {o : HO} (h : H p = some (.dT xs)) : Tx H (upd H p o) :=
  ⟨fun a ys e => by rw [upd_ne (ne_of e h fun z => nomatch z)]; exact e, fun a w u e => by rw [upd_ne (ne_of e h fun z => nomatch z)]; exact e⟩
theorem Tx.sqT {K : PySem.W.Frag} {H H' : Hp} {a : Addr} {xs : List V} (g : Tx H H') (h : SqT K H a xs) : SqT K H' a xs := by
  rcases h with (h | ⟨o, h⟩) | h
  · exact .inl (.inl (g.tup _ _ h))
  · exact .inl (.inr ⟨o, g.frz _ _ _ h⟩)
  · exact .inr h
class Mo (P : V → Hp → Prop) : Prop where
  mo : ∀ {v H H'}, Tx H H' → P v H → P v H'
theorem upx {P : V → Hp → Prop} [Mo P] {v : V} {H H' : Hp} (g : Tx H H') (p : P v H) : P v H' := Mo.mo g p
theorem up {t : TT'} {P : V → Hp → Prop} [Mo P] {v : V} {H H' : Hp} (g : Gx t H H') (p : P v H) : P v H' := Mo.mo g.tx p
def IsIn (C : Int → Prop) : V → Hp → Prop := fun v _ => ∃ i, v = .int i ∧ C i
def Is (x : V) : V → Hp → Prop := fun v _ => v = x
def IsRat (K : PySem.W.Frag) (q : Rat) : V → Hp → Prop := fun v H => ∃ a, v = .ref a ∧ SqT K H a [.int q.num, .int (q.den : Int)]
def IsMon (m : Mon) : V → Hp → Prop := fun v H => ∃ a, v = .ref a ∧ H a = some (.tup (m.map V.int))
def IsTm (K : PySem.W.Frag) (s : Tm) : V → Hp → Prop := fun v H => ∃ a x y, v = .ref a ∧ SqT K H a [x, y] ∧ IsMon s.1 x H ∧ IsRat K s.2 y H
/-- a tuple of things that are so -/
def TupOf {α : Type} (K : PySem.W.Frag) (R : α → V → Hp → Prop) (as : List α) : V → Hp → Prop := fun v H => ∃ a xs, v = .ref a ∧ SqT K H a xs ∧ Paired (fun x y => R x y H) as xs
abbrev IsPl (K : PySem.W.Frag) (P : Pl) : V → Hp → Prop := TupOf K (IsTm K) P
abbrev IsPls (K : PySem.W.Frag) (Ps : List Pl) : V → Hp → Prop := TupOf K (IsPl K) Ps
abbrev IsPt (K : PySem.W.Frag) (ps : List Rat) : V → Hp → Prop := TupOf K (IsRat K) ps
/-- a fresh tuple of things that are so, its object known -/
def TupF {α : Type} (R : α → V → Hp → Prop) (as : List α) : V → Hp → Prop := fun v H => ∃ (a : Addr) (xs : List V) (its : Array Value) (n : Nat), v = .ref a ∧ H a = some (.frz { cls := .type "tuple", data := .seq its n } (.tup xs)) ∧ Paired (fun x y => R x y H) as xs
section
variable {K : PySem.W.Frag}
instance {C : Int → Prop} : Mo (IsIn C) := ⟨fun _ h => h⟩
instance {x : V} : Mo (Is x) := ⟨fun _ h => h⟩
instance {q : Rat} : Mo (IsRat K q) := ⟨fun g ⟨a, e, h⟩ => ⟨a, e, g.sqT h⟩⟩
instance {m : Mon} : Mo (IsMon m) := ⟨fun g ⟨a, e, h⟩ => ⟨a, e, g.tup _ _ h⟩⟩
instance {s : Tm} : Mo (IsTm K s) := ⟨fun g ⟨a, x, y, e, h, h1, h2⟩ => ⟨a, x, y, e, g.sqT h, upx g h1, upx g h2⟩⟩
theorem paired_mono {α : Type} {R : α → V → Hp → Prop} [∀ a, Mo (R a)] {H H' : Hp} (g : Tx H H') : ∀ {as : List α} {xs : List V}, Paired (fun x y => R x y H) as xs → Paired (fun x y => R x y H') as xs
  | _, _, .nil => .nil
  | _, _, .cons h r => .cons (upx g h) (paired_mono g r)
instance {α : Type} {R : α → V → Hp → Prop} [∀ a, Mo (R a)] {as : List α} : Mo (TupOf K R as) := ⟨fun g ⟨a, xs, e, h, r⟩ => ⟨a, xs, e, g.sqT h, paired_mono g r⟩⟩
instance {α : Type} {R : α → V → Hp → Prop} [∀ a, Mo (R a)] {as : List α} : Mo (TupF R as) := ⟨fun g ⟨a, xs, its, n, e, h, r⟩ => ⟨a, xs, its, n, e, g.frz _ _ _ h, paired_mono g r⟩⟩
instance {α : Type} {C : α → Prop} {R : α → V → Hp → Prop} [∀ a, Mo (R a)] : Mo (fun v H => ∃ a, C a ∧ R a v H) := ⟨fun g ⟨a, c, h⟩ => ⟨a, c, upx g h⟩⟩
theorem TupF.of {α : Type} {R : α → V → Hp → Prop} {as : List α} {v : V} {H : Hp} (h : TupF R as v H) : TupOf K R as v H := by
  obtain ⟨a, xs, its, n, e, h, r⟩ := h
  exact ⟨a, xs, e, .inl (.inr ⟨_, h⟩), r⟩
end
theorem paired_len {α β : Type} {F : α → β → Prop} {as : List α} {xs : List β} (h : Paired F as xs) : as.length = xs.length := Paired.length h
theorem paired_at {α β : Type} {F : α → β → Prop} : ∀ {as : List α} {xs : List β} {i : Nat} {x : β}, Paired F as xs → xs[i]? = some x → ∃ a, as[i]? = some a ∧ F a x
  | _, _, _, _, .nil, e => by simp at e
  | _, _, 0, _, .cons r _, e => by simp at e; subst e; exact ⟨_, rfl, r⟩
  | _, _, i + 1, x, .cons _ q, e => by
    obtain ⟨u, h1, h2⟩ := paired_at (i := i) (x := x) q (by simpa using e)
    exact ⟨u, by simpa using h1, h2⟩
theorem paired_at' {α β : Type} {F : α → β → Prop} : ∀ {as : List α} {xs : List β} {i : Nat} {a : α}, Paired F as xs → as[i]? = some a → ∃ x, xs[i]? = some x ∧ F a x
  | _, _, _, _, .nil, e => by simp at e
  | _, _, 0, _, .cons r _, e => by simp at e; subst e; exact ⟨_, rfl, r⟩
  | _, _, i + 1, x, .cons _ q, e => by
    obtain ⟨u, h1, h2⟩ := paired_at' (i := i) (a := x) q (by simpa using e)
    exact ⟨u, by simpa using h1, h2⟩
theorem paired_snoc {α β : Type} {F : α → β → Prop} {a : α} {x : β} : ∀ {as : List α} {xs : List β}, Paired F as xs → F a x → Paired F (as ++ [a]) (xs ++ [x])
  | _, _, .nil, h => .cons h .nil
  | _, _, .cons r q, h => .cons r (paired_snoc q h)
theorem paired_append {α β : Type} {F : α → β → Prop} : ∀ {as bs : List α} {xs ys : List β}, Paired F as xs → Paired F bs ys → Paired F (as ++ bs) (xs ++ ys)
  | _, _, _, _, .nil, h => h
  | _, _, _, _, .cons r q, h => .cons r (paired_append q h)
theorem paired_reverse {α β : Type} {F : α → β → Prop} : ∀ {as : List α} {xs : List β}, Paired F as xs → Paired F as.reverse xs.reverse
  | _, _, .nil => .nil
  | _, _, .cons r q => by
    rw [List.reverse_cons, List.reverse_cons]
    exact paired_snoc (paired_reverse q) r
theorem paired_rep {α β : Type} {F : α → β → Prop} {a : α} {x : β} (h : F a x) : ∀ n : Nat, Paired F (List.replicate n a) (List.replicate n x)
  | 0 => .nil
  | n + 1 => .cons h (paired_rep h n)

/-! ### what readings come to -/
def EvP (t : TT') (te : TE) (σ : L2.St) (H : Hp) (P : V → Hp → Prop) : Prop := ∀ H1, Gx t H H1 → ∀ Q : VK, (∀ v H2, Gx t H1 H2 → P v H2 → Q v H2) → te σ H1 Q
def EvB (t : TT') (tt : TT) (σ : L2.St) (H : Hp) (P : Bool → Prop) : Prop := ∀ H1, Gx t H H1 → ∀ Q : Bool → Hp → Prop, (∀ b H2, Gx t H1 H2 → P b → Q b H2) → tt σ H1 Q
def EvA (t : TT') (ta : TA) (σ : L2.St) (H : Hp) (P : List V → Hp → Prop) : Prop := ∀ H1, Gx t H H1 → ∀ Q : List V → Hp → Prop, (∀ vs H2, Gx t H1 H2 → P vs H2 → Q vs H2) → ta σ H1 Q
/-- a new list -/
def EvL (t : TT') (te : TE) (σ : L2.St) (H : Hp) (P : List V → Hp → Prop) : Prop := ∀ H1, Gx t H H1 → ∀ Q : VK, (∀ p xs H2, H1 p = none → Gx t H1 H2 → H2 p = some (.lst xs) → P xs H2 → Q (.ref p) H2) → te σ H1 Q
section
variable {t : TT'} {K : PySem.W.Frag} {σ : L2.St} {H H' : Hp} {ta tb tc td te : TE} {tt tu : TT} {P P1 P2 P3 P4 : V → Hp → Prop}
theorem EvP.up (g : Gx t H H') (h : EvP t te σ H P) : EvP t te σ H' P := fun H1 a Q q => h H1 (g.trans a) Q q
theorem EvP.imp {R : V → Hp → Prop} (h : EvP t te σ H P) (k : ∀ v H1, Gx t H H1 → P v H1 → R v H1) : EvP t te σ H R := fun H1 a Q q => h H1 a Q fun v H2 g p => q v H2 g (k v H2 (a.trans g) p)
theorem EvB.up {B : Bool → Prop} (g : Gx t H H') (h : EvB t tt σ H B) : EvB t tt σ H' B := fun H1 a Q q => h H1 (g.trans a) Q q
theorem ev_var {i : Nat} {v : V} (h : σ[i]? = some (some v)) (p : P v H) [Mo P] : EvP t (tVar i) σ H P := fun H1 g _ q => ⟨v, h, q v H1 g.here (CZ.up g p)⟩
theorem ev_vis {i : Nat} {v : V} (h : σ[i]? = some (some v)) : EvP t (tVar i) σ H (Is v) := ev_var h rfl
theorem ev_c {v : V} (p : P v H) [Mo P] : EvP t (tC v) σ H P := fun H1 g _ q => q v H1 g.here (CZ.up g p)
theorem ev_int {i : Int} : EvP t (tC (.int i)) σ H (IsIn (· = i)) := ev_c ⟨i, rfl, rfl⟩
theorem ea_nil : EvA t tNil σ H (fun vs _ => vs = []) := fun H1 g _ q => q [] H1 g.here rfl
theorem ea_1 (h : EvP t ta σ H P) : EvA t (tCons ta tNil) σ H (fun vs H => ∃ v, vs = [v] ∧ P v H) := fun H1 g Q q =>
  h H1 g _ fun v H2 g2 p => q [v] H2 g2 ⟨v, rfl, p⟩
theorem ea_2 [Mo P1] (h1 : EvP t ta σ H P1) (h2 : EvP t tb σ H P2) : EvA t (tCons ta (tCons tb tNil)) σ H (fun vs H => ∃ v w, vs = [v, w] ∧ P1 v H ∧ P2 w H) := fun H1 g Q q =>
  h1 H1 g _ fun v H2 g2 p => h2 H2 (g.trans g2) _ fun w H3 g3 p2 => q [v, w] H3 (g2.trans g3) ⟨v, w, rfl, CZ.up g3 p, p2⟩
theorem ea_3 [Mo P1] [Mo P2] (h1 : EvP t ta σ H P1) (h2 : EvP t tb σ H P2) (h3 : EvP t tc σ H P3) : EvA t (tCons ta (tCons tb (tCons tc tNil))) σ H (fun vs H => ∃ v w x, vs = [v, w, x] ∧ P1 v H ∧ P2 w H ∧ P3 x H) := fun H1 g Q q =>
  h1 H1 g _ fun v H2 g2 p => h2 H2 (g.trans g2) _ fun w H3 g3 p2 => h3 H3 ((g.trans g2).trans g3) _ fun x H4 g4 p3 =>
    q [v, w, x] H4 ((g2.trans g3).trans g4) ⟨v, w, x, rfl, CZ.up (g3.trans g4) p, CZ.up g4 p2, p3⟩
theorem ea_4 [Mo P1] [Mo P2] [Mo P3] (h1 : EvP t ta σ H P1) (h2 : EvP t tb σ H P2) (h3 : EvP t tc σ H P3) (h4 : EvP t td σ H P4) :
    EvA t (tCons ta (tCons tb (tCons tc (tCons td tNil)))) σ H (fun vs H => ∃ v w x y, vs = [v, w, x, y] ∧ P1 v H ∧ P2 w H ∧ P3 x H ∧ P4 y H) := fun H1 g Q q =>
  h1 H1 g _ fun v H2 g2 p => h2 H2 (g.trans g2) _ fun w H3 g3 p2 => h3 H3 ((g.trans g2).trans g3) _ fun x H4 g4 p3 => h4 H4 (((g.trans g2).trans g3).trans g4) _ fun y H5 g5 p4 =>
    q [v, w, x, y] H5 (((g2.trans g3).trans g4).trans g5) ⟨v, w, x, y, rfl, CZ.up ((g3.trans g4).trans g5) p, CZ.up (g4.trans g5) p2, CZ.up g5 p3, p4⟩
/-- what a def's promise is used for -/
def After (t : TT') (H : Hp) (Q : VK) (P : V → Hp → Prop) : Prop := ∀ v H', Gx t H H' → P v H' → Q v H'
theorem ev_call {sp : Sp} {E : XK} {tA : TA} {PA : List V → Hp → Prop} (ha : EvA t tA σ H PA) (hs : ∀ vs H1, Gx t H H1 → PA vs H1 → ∀ Q, After t H1 Q P → sp (vs ++ []) H1 Q E) : EvP t (tCall sp [] E tA) σ H P := fun H1 g Q q =>
  ha H1 g _ fun vs H2 g2 p => hs vs H2 (g.trans g2) p Q fun v H3 g3 r => q v H3 (g2.trans g3) r
theorem ev_call1 {sp : Sp} {E : XK} (h1 : EvP t ta σ H P1) (hs : ∀ v H1, Gx t H H1 → P1 v H1 → ∀ Q, After t H1 Q P → sp [v] H1 Q E) : EvP t (tCall sp [] E (tCons ta tNil)) σ H P :=
  ev_call (ea_1 h1) fun vs H1 g ⟨v, e, p⟩ Q q => by subst e; exact hs v H1 g p Q q
theorem ev_call2 {sp : Sp} {E : XK} [Mo P1] (h1 : EvP t ta σ H P1) (h2 : EvP t tb σ H P2) (hs : ∀ v w H1, Gx t H H1 → P1 v H1 → P2 w H1 → ∀ Q, After t H1 Q P → sp [v, w] H1 Q E) : EvP t (tCall sp [] E (tCons ta (tCons tb tNil))) σ H P :=
  ev_call (ea_2 h1 h2) fun vs H1 g ⟨v, w, e, p1, p2⟩ Q q => by subst e; exact hs v w H1 g p1 p2 Q q
theorem ev_call3 {sp : Sp} {E : XK} [Mo P1] [Mo P2] (h1 : EvP t ta σ H P1) (h2 : EvP t tb σ H P2) (h3 : EvP t tc σ H P3)
    (hs : ∀ v w x H1, Gx t H H1 → P1 v H1 → P2 w H1 → P3 x H1 → ∀ Q, After t H1 Q P → sp [v, w, x] H1 Q E) : EvP t (tCall sp [] E (tCons ta (tCons tb (tCons tc tNil)))) σ H P :=
  ev_call (ea_3 h1 h2 h3) fun vs H1 g ⟨v, w, x, e, p1, p2, p3⟩ Q q => by subst e; exact hs v w x H1 g p1 p2 p3 Q q
theorem ev_call4 {sp : Sp} {E : XK} [Mo P1] [Mo P2] [Mo P3] (h1 : EvP t ta σ H P1) (h2 : EvP t tb σ H P2) (h3 : EvP t tc σ H P3) (h4 : EvP t td σ H P4)
    (hs : ∀ v w x y H1, Gx t H H1 → P1 v H1 → P2 w H1 → P3 x H1 → P4 y H1 → ∀ Q, After t H1 Q P → sp [v, w, x, y] H1 Q E) : EvP t (tCall sp [] E (tCons ta (tCons tb (tCons tc (tCons td tNil))))) σ H P :=
  ev_call (ea_4 h1 h2 h3 h4) fun vs H1 g ⟨v, w, x, y, e, p1, p2, p3, p4⟩ Q q => by subst e; exact hs v w x y H1 g p1 p2 p3 p4 Q q
theorem After.of_pure {Q : VK} (hT : TapeOk t H) (q : After t H Q P) : After none H Q P := fun v H' g p => q v H' (Gx.of_pure hT g) p

/-! ### ints -/
theorem ev_rI0 {A B : Int → Prop} {f : Int → Int → V} (h1 : EvP t ta σ H (IsIn A)) (h2 : EvP t tb σ H (IsIn B)) (hr : ∀ i j H1, Gx t H H1 → A i → B j → P (f i j) H1) : EvP t (tOp (rI0 f) ta tb) σ H P := fun H1 g Q q =>
  h1 H1 g _ fun v H2 g2 ⟨i, e, a⟩ => h2 H2 (g.trans g2) _ fun w H3 g3 ⟨j, e2, b⟩ => ⟨i, j, e, e2, q _ H3 (g2.trans g3) (hr i j H3 ((g.trans g2).trans g3) a b)⟩
theorem ev_rI {A B : Int → Prop} {C : Int → Int → Prop} {f : Int → Int → V} (h1 : EvP t ta σ H (IsIn A)) (h2 : EvP t tb σ H (IsIn B)) (hr : ∀ i j H1, Gx t H H1 → A i → B j → C i j ∧ P (f i j) H1) : EvP t (tOp (rI C f) ta tb) σ H P := fun H1 g Q q =>
  h1 H1 g _ fun v H2 g2 ⟨i, e, a⟩ => h2 H2 (g.trans g2) _ fun w H3 g3 ⟨j, e2, b⟩ => by
    obtain ⟨c, p⟩ := hr i j H3 ((g.trans g2).trans g3) a b
    exact ⟨i, j, e, e2, c, q _ H3 (g2.trans g3) p⟩
theorem ev_rIE {i j : Int} {C : Int → Int → Prop} {f : Int → Int → Int} (h1 : EvP t ta σ H (IsIn (· = i))) (h2 : EvP t tb σ H (IsIn (· = j))) (hc : C i j) : EvP t (tOp (rI C fun i j => .int (f i j)) ta tb) σ H (IsIn (· = f i j)) :=
  ev_rI h1 h2 fun _ _ _ _ a b => by subst a; subst b; exact ⟨hc, _, rfl, rfl⟩
theorem ev_rI0E {i j : Int} {f : Int → Int → Int} (h1 : EvP t ta σ H (IsIn (· = i))) (h2 : EvP t tb σ H (IsIn (· = j))) : EvP t (tOp (rI0 fun i j => .int (f i j)) ta tb) σ H (IsIn (· = f i j)) :=
  ev_rI0 h1 h2 fun _ _ _ _ a b => by subst a; subst b; exact ⟨_, rfl, rfl⟩
theorem ev_cmpE {i j : Int} {f : Int → Int → Bool} (h1 : EvP t ta σ H (IsIn (· = i))) (h2 : EvP t tb σ H (IsIn (· = j))) : EvP t (tOp (rI0 fun i j => .bl (f i j)) ta tb) σ H (Is (.bl (f i j))) :=
  ev_rI0 h1 h2 fun _ _ _ _ a b => by subst a; subst b; exact rfl
theorem ev_eqE {i j : Int} (h1 : EvP t ta σ H (IsIn (· = i))) (h2 : EvP t tb σ H (IsIn (· = j))) : EvP t (tOp rEq ta tb) σ H (Is (.bl (decide (i = j)))) := fun H1 g Q q =>
  h1 H1 g _ fun v H2 g2 ⟨_, e, a⟩ => h2 H2 (g.trans g2) _ fun w H3 g3 ⟨_, e2, b⟩ => by
    subst e; subst e2; subst a; subst b
    refine ⟨rfl, q _ H3 (g2.trans g3) ?_⟩
    show V.bl _ = V.bl _
    rw [dec_int, Bool.beq_eq_decide_eq]
theorem ev_neE {i j : Int} (h1 : EvP t ta σ H (IsIn (· = i))) (h2 : EvP t tb σ H (IsIn (· = j))) : EvP t (tOp rNe ta tb) σ H (Is (.bl (!decide (i = j)))) := fun H1 g Q q =>
  h1 H1 g _ fun v H2 g2 ⟨_, e, a⟩ => h2 H2 (g.trans g2) _ fun w H3 g3 ⟨_, e2, b⟩ => by
    subst e; subst e2; subst a; subst b
    refine ⟨rfl, q _ H3 (g2.trans g3) ?_⟩
    show V.bl _ = V.bl _
    rw [dec_int, Bool.beq_eq_decide_eq]
theorem ev_unE {i : Int} {f : Int → Int} (h1 : EvP t ta σ H (IsIn (· = i))) : EvP t (tUn (rU fun i => .int (f i)) ta) σ H (IsIn (· = f i)) := fun H1 g Q q =>
  h1 H1 g _ fun v H2 g2 ⟨_, e, a⟩ => by subst e; subst a; exact ⟨_, rfl, q _ H2 g2 ⟨_, rfl, rfl⟩⟩

/-! ### items -/
theorem ev_ixT {i : Int} {a : Addr} {xs : List V} {v : V} (h1 : EvP t ta σ H (Is (.ref a))) (h2 : EvP t tb σ H (IsIn (· = i))) (hx : SqT K H a xs) (hv : atI xs i = some v) (p : P v H) [Mo P] : EvP t (tOp (rIxT K) ta tb) σ H P := fun H1 g Q q =>
  h1 H1 g _ fun _ H2 g2 e => h2 H2 (g.trans g2) _ fun _ H3 g3 ⟨_, e2, b⟩ => by
    subst e2; subst b
    exact ⟨a, xs, _, v, e, rfl, ((g.trans g2).trans g3).sqT hx, hv, q v H3 (g2.trans g3) (CZ.up ((g.trans g2).trans g3) p)⟩
/-- an item of a thing that a sub-expression gives -/
theorem ev_ixP {i : Int} {R : V → Hp → Prop} (h1 : EvP t ta σ H R) (h2 : EvP t tb σ H (IsIn (· = i))) (hr : ∀ u H1, Gx t H H1 → R u H1 → ∃ a xs v, u = .ref a ∧ SqT K H1 a xs ∧ atI xs i = some v ∧ P v H1) [Mo P] : EvP t (tOp (rIxT K) ta tb) σ H P := fun H1 g Q q =>
  h1 H1 g _ fun u H2 g2 r => h2 H2 (g.trans g2) _ fun _ H3 g3 ⟨_, e2, b⟩ => by
    subst e2; subst b
    obtain ⟨a, xs, v, e, hx, hv, p⟩ := hr u H2 (g.trans g2) r
    exact ⟨a, xs, _, v, e, rfl, g3.sqT hx, hv, q v H3 (g2.trans g3) (CZ.up g3 p)⟩
theorem ev_num {q : Rat} (h1 : EvP t ta σ H (IsRat K q)) : EvP t (tOp (rIxT K) ta (tC (.int 0))) σ H (IsIn (· = q.num)) :=
  ev_ixP h1 ev_int fun u H1 _ ⟨a, e, h⟩ => ⟨a, _, _, e, h, rfl, _, rfl, rfl⟩
theorem ev_den {q : Rat} (h1 : EvP t ta σ H (IsRat K q)) : EvP t (tOp (rIxT K) ta (tC (.int 1))) σ H (IsIn (· = (q.den : Int))) :=
  ev_ixP h1 ev_int fun u H1 _ ⟨a, e, h⟩ => ⟨a, _, _, e, h, rfl, _, rfl, rfl⟩
theorem ev_pow {s : Tm} (h1 : EvP t ta σ H (IsTm K s)) : EvP t (tOp (rIxT K) ta (tC (.int 0))) σ H (IsMon s.1) :=
  ev_ixP h1 ev_int fun u H1 _ ⟨a, x, y, e, h, h1, h2⟩ => ⟨a, _, _, e, h, rfl, h1⟩
theorem ev_cof {s : Tm} (h1 : EvP t ta σ H (IsTm K s)) : EvP t (tOp (rIxT K) ta (tC (.int 1))) σ H (IsRat K s.2) :=
  ev_ixP h1 ev_int fun u H1 _ ⟨a, x, y, e, h, h1, h2⟩ => ⟨a, _, _, e, h, rfl, h2⟩

/-! ### tuples, lists made -/
theorem ev_tupA {tA : TA} {PA : List V → Hp → Prop} (h : EvA t tA σ H PA) (hz : ∀ vs H1, PA vs H1 → vs.length ≤ 1000) (hp : ∀ vs H1 H2 p, Gx t H H1 → PA vs H1 → Gx t H1 H2 → H2 p = some (.tup vs) → P (.ref p) H2) : EvP t (tTup tA) σ H P := fun H1 g Q q =>
  h H1 g _ fun vs H2 g2 p => ⟨Nat.le_of_lt (small1000 (hz vs H2 p)), fun r hr => q _ _ (g2.trans (Gx.new g2.t1 hr)) (hp vs H2 _ r (g.trans g2) p (Gx.new g2.t1 hr) upd_same)⟩
theorem ev_tup2 [Mo P1] [Mo P2] (h1 : EvP t ta σ H P1) (h2 : EvP t tb σ H P2) (hp : ∀ x y H1 p, Gx t H H1 → P1 x H1 → P2 y H1 → H1 p = some (.tup [x, y]) → P (.ref p) H1) : EvP t (tTup (tCons ta (tCons tb tNil))) σ H P :=
  ev_tupA (ea_2 h1 h2) (fun vs _ ⟨v, w, e, _⟩ => by subst e; exact (by decide : 2 ≤ 1000)) fun vs H1 H2 p g ⟨v, w, e, p1, p2⟩ g2 h => by
    subst e
    exact hp v w H2 p (g.trans g2) (CZ.up g2 p1) (CZ.up g2 p2) h
theorem ev_tm {s : Tm} (h1 : EvP t ta σ H (IsMon s.1)) (h2 : EvP t tb σ H (IsRat K s.2)) : EvP t (tTup (tCons ta (tCons tb tNil))) σ H (IsTm K s) :=
  ev_tup2 h1 h2 fun x y _ p _ p1 p2 h => ⟨p, x, y, rfl, SqT.of h, p1, p2⟩
theorem ev_rat {q : Rat} (h1 : EvP t ta σ H (IsIn (· = q.num))) (h2 : EvP t tb σ H (IsIn (· = (q.den : Int)))) : EvP t (tTup (tCons ta (tCons tb tNil))) σ H (IsRat K q) :=
  ev_tup2 h1 h2 fun x y _ p _ ⟨_, e1, a⟩ ⟨_, e2, b⟩ h => by
    subst e1; subst e2; subst a; subst b
    exact ⟨p, rfl, SqT.of h⟩
/-- tuple(a new list) -/
theorem ev_tupleL {PL : List V → Hp → Prop} (h : EvL t te σ H PL) (hm : ∀ xs H1 H2, Gx t H1 H2 → PL xs H1 → PL xs H2) (hp : ∀ xs p H1, Gx t H H1 → PL xs H1 → H1 p = some (.tup xs) → P (.ref p) H1) :
    EvP t (tCB (fun xs H Q => ∃ p ys, xs = [.ref p] ∧ ((SqL K H p ys ∧ ∀ l, H l = none → Q (.ref l) (upd H l (.tup ys))) ∨ (SqT K H p ys ∧ Q (.ref p) H))) (tCons te tNil)) σ H P := fun H1 g Q q =>
  h H1 g _ fun p xs H2 hp1 g2 hx px => ⟨p, xs, rfl, .inl ⟨SqL.of hx, fun l hl => q _ _ (g2.trans (Gx.new g2.t1 hl)) (hp xs l _ ((g.trans g2).trans (Gx.new g2.t1 hl)) (hm xs _ _ (Gx.new g2.t1 hl) px) upd_same)⟩⟩

/-! ### tests -/
theorem eb_test {B : Bool → Prop} (h : EvP t te σ H (fun v _ => ∃ b, v = .bl b ∧ B b)) : EvB t (tTest te) σ H B := fun H1 g _ q => h H1 g _ fun v H2 g2 ⟨b, e, p⟩ => ⟨b, e, q b H2 g2 p⟩
theorem eb_B {B : Bool → Prop} (h : EvP t te σ H (fun v _ => ∃ b, v = .bl b ∧ B b)) : EvB t (tB te) σ H B := fun H1 g _ q => h H1 g _ fun v H2 g2 ⟨b, e, p⟩ => ⟨b, e, q b H2 g2 p⟩
theorem eb_testE {b : Bool} (h : EvP t te σ H (Is (.bl b))) : EvB t (tTest te) σ H (· = b) := eb_test (h.imp fun _ _ _ e => ⟨b, e, rfl⟩)
theorem eb_BE {b : Bool} (h : EvP t te σ H (Is (.bl b))) : EvB t (tB te) σ H (· = b) := eb_B (h.imp fun _ _ _ e => ⟨b, e, rfl⟩)
theorem eb_and {A B C : Bool → Prop} (h1 : EvB t tt σ H A) (h2 : A true → EvB t tu σ H B) (hf : A false → C false) (ht : ∀ b, A true → B b → C b) : EvB t (tAnd tt tu) σ H C := fun H1 g Q q => h1 H1 g _ fun a H2 g2 pa => by
  cases a with
  | true =>
    show tu σ H2 Q
    exact h2 pa H2 (g.trans g2) Q fun b H3 g3 pb => q b H3 (g2.trans g3) (ht b pa pb)
  | false =>
    show Q false H2
    exact q false H2 g2 (hf pa)
theorem eb_or {A B C : Bool → Prop} (h1 : EvB t tt σ H A) (h2 : A false → EvB t tu σ H B) (ht : A true → C true) (hf : ∀ b, A false → B b → C b) : EvB t (tOr tt tu) σ H C := fun H1 g Q q => h1 H1 g _ fun a H2 g2 pa => by
  cases a with
  | false =>
    show tu σ H2 Q
    exact h2 pa H2 (g.trans g2) Q fun b H3 g3 pb => q b H3 (g2.trans g3) (hf b pa pb)
  | true =>
    show Q true H2
    exact q true H2 g2 (ht pa)
theorem eb_not {A B : Bool → Prop} (h1 : EvB t tt σ H A) (k : ∀ b, A b → B (!b)) : EvB t (tNot tt) σ H B := fun H1 g _ q => h1 H1 g _ fun b H2 g2 p => q _ H2 g2 (k b p)
theorem ev_andV {A B : Bool → Prop} (h1 : EvP t ta σ H (fun v _ => ∃ b, v = .bl b ∧ A b)) (h2 : A true → EvP t tb σ H P) (hf : A false → ∀ H1, P (.bl false) H1) : EvP t (tAndV ta tb) σ H P := fun H1 g Q q => h1 H1 g _ fun v H2 g2 ⟨b, e, p⟩ => ⟨b, e, by
  cases b with
  | true =>
    show tb σ H2 Q
    exact h2 p H2 (g.trans g2) Q fun v H3 g3 pb => q v H3 (g2.trans g3) pb
  | false =>
    show Q (.bl false) H2
    exact q _ H2 g2 (hf p H2)⟩
theorem ev_andT (h1 : EvP t ta σ H (Is (.bl true))) (h2 : EvP t tb σ H P) : EvP t (tAndV ta tb) σ H P := fun H1 g Q q => h1 H1 g _ fun v H2 g2 e => ⟨true, e, by
  show tb σ H2 Q
  exact h2 H2 (g.trans g2) Q fun v H3 g3 pb => q v H3 (g2.trans g3) pb⟩
theorem ev_notV {b : Bool} (h1 : EvP t ta σ H (Is (.bl b))) : EvP t (tNotV ta) σ H (Is (.bl (!b))) := fun H1 g _ q => h1 H1 g _ fun v H2 g2 e => ⟨b, e, q _ H2 g2 rfl⟩

/-! ### statements -/
variable {D : Ends} {ts tv : TS}
theorem s_asg {i : Nat} (hT : TapeOk t H) (h : EvP t te σ H P) (k : ∀ v H1, Gx t H H1 → P v H1 → D.nx (σ.set i (some v)) H1) : tAsg te (gName i) D σ H := h H (Gx.refl hT) _ fun v H1 g p => k v H1 g p
theorem q_asg {i : Nat} (hT : TapeOk t H) (h : EvP t te σ H P) (k : ∀ v H1, Gx t H H1 → P v H1 → ts D (σ.set i (some v)) H1) : tSeq (tAsg te (gName i)) ts D σ H := h H (Gx.refl hT) _ fun v H1 g p => k v H1 g p
theorem s_ret (hT : TapeOk t H) (h : EvP t te σ H P) (k : ∀ v H1, Gx t H H1 → P v H1 → D.rt v H1) : tRet te D σ H := h H (Gx.refl hT) _ fun v H1 g p => k v H1 g p
theorem q_if {B : Bool → Prop} {tw : TS} (hT : TapeOk t H) (h : EvB t tt σ H B) (h1 : B true → ∀ H1, Gx t H H1 → ts { D with nx := tw D } σ H1) (h2 : B false → ∀ H1, Gx t H H1 → tv { D with nx := tw D } σ H1) : tSeq (tIfS tt ts tv) tw D σ H := h H (Gx.refl hT) _ fun b H1 g p => by
  cases b with
  | true => exact h1 p H1 g
  | false => exact h2 p H1 g
theorem s_if {B : Bool → Prop} (hT : TapeOk t H) (h : EvB t tt σ H B) (h1 : B true → ∀ H1, Gx t H H1 → ts D σ H1) (h2 : B false → ∀ H1, Gx t H H1 → tv D σ H1) : tIfS tt ts tv D σ H := h H (Gx.refl hT) _ fun b H1 g p => by
  cases b with
  | true => exact h1 p H1 g
  | false => exact h2 p H1 g
end
end CZ
/-! Own rules, over the library's: sorted(a dict of int tuples, reverse=True); greater of int tuples; a tuple times 1; list.extend(tuple). -/
namespace CZ
open PySem PySem.Spec PyProof.Rows L2

/-! ### tuples of ints as sort keys -/
def TupI' (h : Heap) (v : Value) (ns : List Int) : Prop := ∃ (a : Addr) (o : Obj) (xs : Array Value) (n : Nat), v = .ref a ∧ h.get? a = some o ∧ o.cls = .type "tuple" ∧ o.data = .seq xs n ∧ IntsAre xs.toList ns
section
variable {prog : Program} {w : World} {A : Around} {E : Value → Shared → Prop} {s : Shared}
theorem kat_ints {b fin : Bool} {Q : Bool → Shared → Prop} : ∀ (ps qs : List Value) (ns ms : List Int) (i : Nat), IntsAre ps ns → IntsAre qs ms → fin = decide (ps.length < qs.length) → Q (HT.lexLt ns ms) s →
    PySem.W.KatLex prog w A b fin Q (ps.zip qs) i s
  | _, _, _, _, i, .nil, .nil, hf, h => by
    have e : fin = false := by rw [hf]; rfl
    subst e
    exact PySem.W.kat_nil h
  | _, _, _, _, i, .nil, .cons c u r, hf, h => by
    have e : fin = true := by rw [hf]; exact decide_eq_true (Nat.succ_pos _)
    subst e
    exact PySem.W.kat_nil h
  | _, _, _, _, i, .cons a t r, .nil, hf, h => by
    have e : fin = false := by rw [hf]; exact decide_eq_false (Nat.not_lt_zero _)
    subst e
    exact PySem.W.kat_nil h
  | _, _, _, _, i, .cons a t r, .cons c u r', hf, h => by
    rw [HT.lexLt_cons] at h
    refine PySem.W.kat_cons (wpAny_eqBool_int (PySem.W.kat_go (fun e => PySem.W.kat_yes ?_) fun e => PySem.W.kat_no ?_))
    · have e' : a = c := by simpa using e
      rw [if_pos e'] at h
      exact kat_ints _ _ _ _ (i + 1) r r' (by rw [hf, List.length_cons, List.length_cons]; simp only [Nat.add_lt_add_iff_right]) h
    · have e' : ¬ a = c := by simpa using e
      rw [if_neg e'] at h
      exact oneLt_any_int h
theorem ints_cmp {vs : List Value} {k : Value → List Int} (hp : ∀ v ∈ vs, TupI' s.heap v (k v)) : SrtO.Cmp prog w A s (tuples' true) (fun p => p.1 ∈ vs) (SrtO.lt2 fun v u => HT.lexLt (k v) (k u)) := by
  intro p q hm hm'
  have h1 := hp _ hm
  have h2 := hp _ hm'
  show wpAny (model prog w) A (keyLt' (tuples' true) p.1 q.1) (fun r s' => s' = s ∧ r = HT.lexLt (k p.1) (k q.1)) (fun _ _ => False) s
  generalize k p.1 = x at h1 ⊢
  generalize k q.1 = y at h2 ⊢
  obtain ⟨a, o, xs, n, e, ho, hc, hd, hi⟩ := h1
  obtain ⟨a', o', ys, n', e', ho', hc', hd', hi'⟩ := h2
  rw [e, e']
  exact PySem.W.kat_lt ho hd ho' hd' (kat_ints xs.toList ys.toList x y 0 hi hi' (by rw [Array.length_toList, Array.length_toList]) ⟨rfl, rfl⟩)
theorem firsts_ints {h : Heap} {k : Value → List Int} : ∀ {vs : List Value}, (∀ v ∈ vs, TupI' h v (k v) ∧ k v ≠ []) → ∃ fs, PySem.W.KatTups h vs fs ∧ fs.length = vs.length ∧ ∀ f ∈ fs, ∃ x t, f = .int x t
  | [], _ => ⟨[], PySem.W.KatTups.nil, rfl, fun _ z => absurd z List.not_mem_nil⟩
  | v :: vs, hv => by
    obtain ⟨fs, h1, h2, h3⟩ := firsts_ints (vs := vs) fun u hu => hv u (List.mem_cons_of_mem _ hu)
    obtain ⟨⟨a, o, xs, n, e, ho, hc, hd, hi⟩, hne⟩ := hv v List.mem_cons_self
    subst e
    revert hi hne
    generalize k (.ref a) = ns
    intro hne hi
    cases ns with
    | nil => exact absurd rfl hne
    | cons x r =>
      generalize hl : xs.toList = l at hi
      cases hi with
      | cons _ t hr =>
        rename_i vr
        have hf : xs[0]? = some (.int x t) := by
          rw [← Array.getElem?_toList, hl]; rfl
        exact ⟨.int x t :: fs, PySem.W.KatTups.cons ho hc hd hf h1, by rw [List.length_cons, List.length_cons, h2], fun f hm => by
          rcases List.mem_cons.mp hm with e | hm
          · exact ⟨x, t, e⟩
          · exact h3 f hm⟩
theorem ints_sortable {a : Addr} {vs : List Value} {k : Value → List Int} (h0 : 0 < vs.length) (hp : ∀ v ∈ vs, TupI' s.heap v (k v) ∧ k v ≠ []) (ha : ∀ o, s.heap.get? a = some o → o.cls ≠ .type "tuple") :
    SrtO.SortableO prog w A s a vs fun v u => HT.lexLt (k v) (k u) := by
  intro h' keep
  have hp' : ∀ v ∈ vs, TupI' h' v (k v) ∧ k v ≠ [] := fun v hm => by
    obtain ⟨⟨b, o, xs, n, e, ho, hc, hd, hi⟩, hne⟩ := hp v hm
    exact ⟨⟨b, o, xs, n, e, keep b o (fun z => by subst z; exact ha o ho hc) ho, hc, hd, hi⟩, hne⟩
  obtain ⟨fs, h1, h2, h3⟩ := firsts_ints hp'
  refine ⟨tuples' true, fun Q E hq => ?_, ints_cmp fun v hm => (hp' v hm).1⟩
  have e : (Value.type "int" != Value.type "tuple") = true := by first | decide +kernel | rfl
  refine PySem.W.kat_kind (T := .type "int") h1 (by omega) (fun f hm => ?_) rfl (by rw [e]; exact hq)
  obtain ⟨x, t, rfl⟩ := h3 f hm
  exact PySem.W.Looks.now
end

theorem paired_fst {H : Hp} : ∀ {kvs : List (List L2.Key × V)} {ks : List (List L2.Key × Addr × Value)}, Paired (fun (p : List L2.Key × V) (q : List L2.Key × Addr × Value) => p.1 = q.1 ∧ H q.2.1 = some (.tup (p.1.map kV)) ∧ RelV p.2 q.2.2) kvs ks → kvs.map (·.1) = ks.map (·.1)
  | _, _, .nil => rfl
  | _, _, .cons h r => by rw [List.map_cons, List.map_cons, h.1, paired_fst r]
theorem paired_snd {H : Hp} : ∀ {kvs : List (List L2.Key × V)} {ks : List (List L2.Key × Addr × Value)}, Paired (fun (p : List L2.Key × V) (q : List L2.Key × Addr × Value) => p.1 = q.1 ∧ H q.2.1 = some (.tup (p.1.map kV)) ∧ RelV p.2 q.2.2) kvs ks →
    ∀ x ∈ ks, H x.2.1 = some (.tup (x.1.map kV))
  | _, _, .nil, _, h => absurd h List.not_mem_nil
  | _, _, .cons h r, x, hx => by
    rcases List.mem_cons.mp hx with e | hx
    · subst e; rw [← h.1]; exact h.2.1
    · exact paired_snd r x hx
theorem paired_of_map {H : Hp} {f : Addr → List Int} : ∀ (bs : List Addr), (∀ b ∈ bs, H b = some (.tup ((f b).map V.int))) → Paired (fun m b => H b = some (.tup (m.map V.int))) (bs.map f) bs
  | [], _ => .nil
  | b :: r, h => .cons (h b List.mem_cons_self) (paired_of_map r fun c hc => h c (List.mem_cons_of_mem _ hc))
/-! ### sorted(d, reverse=True), d a dict whose keys are tuples of ints -/
def inl' (m : List Int) : List L2.Key := m.map Sum.inl
theorem kV_inl (m : List Int) : (inl' m).map kV = m.map V.int := by
  unfold inl'
  rw [List.map_map]; rfl
def unl : List L2.Key → List Int := fun k => k.map fun x => match x with | .inl i => i | .inr _ => 0
theorem unl_inl (m : List Int) : unl (inl' m) = m := by
  unfold unl inl'
  rw [List.map_map]
  exact (List.map_congr_left fun _ _ => rfl).trans (List.map_id m)
def intV : V → Int
  | .int i => i
  | _ => 0
def tupO : Option HO → List V
  | some (.tup xs) => xs
  | _ => []
def keyAt (H : Hp) (v : Value) : List Int := (tupO (H (adO v))).map intV
theorem keyAt_eq {H : Hp} {a : Addr} {m : List Int} (e : H a = some (.tup (m.map V.int))) : keyAt H (.ref a) = m := by
  unfold keyAt
  rw [show adO (.ref a) = a from rfl, e]
  show (m.map V.int).map intV = m
  rw [List.map_map]
  exact (List.map_congr_left fun _ _ => rfl).trans (List.map_id m)
def rSortRD : List V → List V → Hp → VK → Prop := fun vs zs H Q => ∃ (d : Addr) (kvs : List (List L2.Key × V)) (ms : List (List Int)), vs = [V.ref d] ∧ zs = [.bl true] ∧ H d = some (.dT kvs) ∧ kvs.map (·.1) = ms.map inl' ∧ (∀ m ∈ ms, m ≠ []) ∧
  ∀ (ks : List (List Int)) (bs : List Addr) (p : Addr), ks.Perm ms → ks.Pairwise (fun x y => HT.lexLt x y = false) → Paired (fun m b => H b = some (.tup (m.map V.int))) ks bs → H p = none → Q (.ref p) (upd H p (.lst (bs.map V.ref)))
section
variable {X : Cx}
theorem cr_sortRD (hc : X.calm = true) : CallRK X (.builtin "sorted") [Str.ofString "reverse"] rSortRD := by
  intro pins s σ H vs zs us ws Q I r rz h
  obtain ⟨d, kvs, ms, rfl, rfl, hd, hkm, hne, q⟩ := h
  obtain rfl := Vals.ref1 r
  obtain ⟨w1, rfl, e1⟩ := vals1 rz
  obtain rfl : w1 = Value.bool true := e1
  obtain ⟨z, hs, ks, pr, o, es, ep, ho, hx, hdt, he, hn⟩ := (show ObjOk X.prog X.w H s.heap d (.dT kvs) from I.hok d _ hd)
  have l1 : es.size = ks.length := size_of_entries he
  have l2 : kvs.length = ks.length := Paired.length pr
  show wpAny (model X.prog X.w) X.A (call (.builtin "sorted") [.ref d] [(Str.ofString "reverse", .bool true)]) (EP X pins σ Q) X.xe s
  refine call_function_entry_kw kind_sorted plain_sorted entry_sorted (args_sorted_rev _ _) ?_
  unfold Builtin.«sorted»
  refine wpAny_bind (m := checkCount "sorted" 1 1 _) (wpAny_pure ?_)
  refine wpAny_bind (PySem.W.kdu_collect (A := X.A.in1) (kdl_raw hs hx hdt) (I.ok.hd hc) ho (by omega) fun h' tk acc kp it => ?_)
  have ea : acc.toList = (ks.map fun x => x.2.1).map Value.ref := by
    have hl : acc.toList.length = ks.length := by rw [Array.length_toList, it.1]; exact l1
    rw [List.map_map]
    apply List.ext_getElem?
    intro j
    rw [List.getElem?_map]
    cases hj : acc.toList[j]? with
    | none => rw [List.getElem?_eq_none (by have := List.getElem?_eq_none_iff.mp hj; omega)]; rfl
    | some v =>
      obtain ⟨en, hen, hv⟩ := it.2 j v (by rw [← Array.getElem?_toList]; exact hj)
      have qe := entry_at he j
      rw [hen] at qe
      cases hb : ks[j]? with
      | none => rw [hb] at qe; exact nomatch (show some en = none from qe)
      | some b =>
        rw [hb] at qe
        have e2 : en = entryOfKey (tupleKind (mixKind X.prog X.w)) b := Option.some.inj qe
        rw [hv, e2]; rfl
  -- the keys by their addresses
  have hk1 : ks.map (·.1) = ms.map inl' := by
    rw [← hkm]
    exact (paired_fst pr).symm
  have I1 : Inv X pins σ H { s with heap := h', toks := tk } := I.kept kp
  have htup : ∀ x ∈ ks, H x.2.1 = some (.tup ((unl x.1).map V.int)) ∧ unl x.1 ≠ [] := fun x hx' => by
    have hb := paired_snd pr x hx'
    have hm : x.1 ∈ ms.map inl' := by rw [← hk1]; exact List.mem_map.mpr ⟨x, hx', rfl⟩
    obtain ⟨m, hm, e⟩ := List.mem_map.mp hm
    rw [← e] at hb ⊢
    rw [unl_inl]
    rw [kV_inl] at hb
    exact ⟨hb, hne m hm⟩
  let k : Value → List Int := keyAt H
  have kk : ∀ {a : Addr} {m : List Int}, H a = some (.tup (m.map V.int)) → k (.ref a) = m := fun e => keyAt_eq e
  refine wpAny_bind (wpAny_newList ?_ (by rw [ea, List.length_map, List.length_map]; omega))
  have hoL : (h'.push (seqObj "list" acc.toList.toArray 0)).get? h'.objs.size = some (seqObj "list" acc.toList.toArray 0) := Heap.get?_push_size _ rfl
  show wpAny _ _ _ _ _ { s with heap := h'.push (seqObj "list" acc.toList.toArray 0), toks := tk }
  have hall : ∀ v ∈ acc.toList, TupI' (h'.push (seqObj "list" acc.toList.toArray 0)) v (k v) ∧ k v ≠ [] := fun v hv => by
    rw [ea] at hv
    obtain ⟨b, hb, rfl⟩ := List.mem_map.mp hv
    obtain ⟨x, hx', rfl⟩ := List.mem_map.mp hb
    obtain ⟨t1, t2⟩ := htup x hx'
    rw [kk t1]
    obtain ⟨_, its, rv, ob, e1, e2, n, e3⟩ := I1.hok _ _ t1
    exact ⟨⟨_, ob, _, n, rfl, Heap.get?_push_of_some _ e1, e2, e3, by simpa using Vals.ints rv⟩, t2⟩
  refine wpAny_bind (wpAny_holding (wpAny_call_entry_kw slot_list_sort ⟨_, hoL, rfl⟩ entry_list_sort
    (SrtR.list_sort_ordR (b := true) (s := { s with heap := h'.push (seqObj "list" acc.toList.toArray 0), toks := tk }) (NtL.swo_lexL k) hoL (by rw [ea, List.length_map, List.length_map]; omega)
      (fun h2 => ints_sortable (by omega) hall fun o' e => by
        have e' : some (seqObj "list" acc.toList.toArray 0) = some o' := hoL.symm.trans e
        cases e'
        exact fun c => absurd (Value.type.inj c) (by decide)) fun out g1 g2 => ⟨_, rfl, ?_⟩) (args_list_sort_rev _ _)))
  obtain ⟨e', he'⟩ := sortedHeap_at (vs := acc.toList) (out := out.toArray.reverse) hoL
  have hp : out.Perm acc.toList := g2.perm.trans (List.reverse_perm _)
  have hpr : out.reverse.Perm ((ks.map fun x => x.2.1).map Value.ref) := by
    rw [← ea]
    exact (List.reverse_perm _).trans hp
  have hps : (out.reverse.map adO).Perm (ks.map fun x => x.2.1) := by
    have z := hpr.map adO
    rw [ad_map] at z
    exact z
  have hrf : out.reverse = (out.reverse.map adO).map Value.ref := ref_map fun v hv => by
    obtain ⟨t, _, e⟩ := List.mem_map.mp (hpr.mem_iff.mp hv)
    exact ⟨t, e.symm⟩
  have hlen : ((out.reverse.map adO).map V.ref).length ≤ sizeLine := by
    rw [List.length_map, hps.length_eq, List.length_map]; omega
  have htb : ∀ b ∈ out.reverse.map adO, ∃ x ∈ ks, x.2.1 = b := fun b hb => by
    obtain ⟨x, hx', e⟩ := List.mem_map.mp (hps.mem_iff.mp hb)
    exact ⟨x, hx', e⟩
  have hvm : ∀ b ∈ out.reverse.map adO, H b = some (.tup ((k (.ref b)).map V.int)) := fun b hb => by
    obtain ⟨x, hx', e⟩ := htb b hb
    have t1 := (htup x hx').1
    rw [e] at t1
    rw [kk t1]
    exact t1
  have hkeys : ((out.reverse.map adO).map fun b => k (.ref b)).Perm ms := by
    have z := hps.map fun b => k (.ref b)
    have e2 : (ks.map fun x => x.2.1).map (fun b => k (.ref b)) = ms := by
      have e3 : (ks.map fun x => x.2.1).map (fun b => k (.ref b)) = (ks.map (·.1)).map unl := by
        rw [List.map_map, List.map_map]
        exact List.map_congr_left fun x hx' => kk (htup x hx').1
      rw [e3, hk1, List.map_map]
      exact (List.map_congr_left fun m _ => unl_inl m).trans (List.map_id ms)
    rw [e2] at z
    exact z
  have hsort : ((out.reverse.map adO).map fun b => k (.ref b)).Pairwise (fun x y => HT.lexLt x y = false) := by
    have g3 : out.reverse.Pairwise fun x y => HT.lexLt (k x) (k y) = false := List.pairwise_reverse.mpr g1
    rw [hrf] at g3
    rw [List.pairwise_map]
    exact List.pairwise_map.mp g3
  have eo : (out.toArray.reverse).toList = out.reverse := by rw [Array.toList_reverse]
  refine wpAny_pure ⟨_, rfl, .ref h'.objs.size, upd H h'.objs.size (.lst ((out.reverse.map adO).map V.ref)), I1.laid (t' := tk) (fun b u e => ?_) (Nat.le_refl _)
    (show ObjOk X.prog X.w _ _ _ (.lst ((out.reverse.map adO).map V.ref)) from ⟨hlen, out.reverse, e', ?_, ?_⟩), rfl, q _ _ _ hkeys hsort ?_ (I1.hok.fresh (Nat.le_refl _))⟩
  · have hb : b < h'.objs.size := Heap.lt_size e
    rw [sortedHeap_old (Nat.ne_of_lt hb) (by rw [size_push']; exact Nat.lt_succ_of_lt hb)]
    exact Heap.get?_push_of_some _ e
  · have z := vals_refs (out.reverse.map adO)
    rw [← hrf] at z
    exact z
  · have e5 : out.reverse.toArray = out.toArray.reverse := by
      apply Array.ext'
      rw [Array.toList_reverse]
    rw [e5]
    exact he'
  · exact paired_of_map _ hvm
end
end CZ
/-! Own rules, over the library's: a fresh tuple known by its object; dict(a tuple of pairs); a tuple times 1; greater of int tuples; t[::-1]; list.extend(tuple). -/
namespace CZ
open PySem PySem.Spec PyProof.Rows L2

/-- a plain tuple object -/
abbrev tupObj (its : Array Value) (n : Nat) : Obj := { cls := .type "tuple", data := .seq its n }
section
variable {X : Cx}
/-- tuple(list), the new object known -/
def rTupF (K : PySem.W.Frag) : List V → Hp → VK → Prop := fun xs H Q => ∃ (p : Addr) (ys : List V), xs = [.ref p] ∧ SqL K H p ys ∧ ∀ l its n, H l = none → Q (.ref l) (upd H l (.frz (tupObj its n) (.tup ys)))
theorem call_tupF : CallR X (.type "tuple") (rTupF X.K) := by
  intro pins s σ H xs us Q I r h
  obtain ⟨p, ys, rfl, hs, q⟩ := h
  obtain rfl := Vals.ref1 r
  obtain ⟨its, rv, pl, hz⟩ := I.list hs
  refine call_tuple_list pl.isList (fun h' hk => ?_) (by rw [List.size_toArray, ← rv.length]; exact hz)
  have I1 : Inv X pins σ H { s with heap := h' } := I.kept (t' := s.toks) hk
  exact ⟨.ref h'.objs.size, _, I1.laid (t' := s.toks) (fun b o e => Heap.get?_push_of_some _ e) (Nat.le_refl _)
    (show ObjOk X.prog X.w _ _ _ (.frz (tupObj its.toArray 0) (.tup ys)) from ⟨Heap.get?_push_size _ rfl, hz, its, rv, IsTup.new _ _⟩), rfl, q _ _ _ (I1.hok.fresh (Nat.le_refl _))⟩

/-! ### dict(t), t a fresh tuple of pairs (tuple of ints, value), the keys unlike -/
def PrAt (K : PySem.W.Frag) (H : Hp) (p : Addr) (kv : List L2.Key × V) : Prop := ∃ b, SqT K H p [.ref b, kv.2] ∧ H b = some (.tup (kv.1.map kV))
def rDictF (K : PySem.W.Frag) : List V → Hp → VK → Prop := fun xs H Q => ∃ (a : Addr) (its : Array Value) (n : Nat) (ps : List Addr) (kvs : List (List L2.Key × V)), xs = [.ref a] ∧ H a = some (.frz (tupObj its n) (.tup (ps.map V.ref))) ∧
  Paired (PrAt K H) ps kvs ∧ (kvs.map (·.1)).Nodup ∧ ∀ p, H p = none → Q (.ref p) (upd H p (.dT kvs))
theorem prs_of {pins : List (Addr × Obj)} {σ : L2.St} {H : Hp} {s : Shared} (I : Inv X pins σ H s) : ∀ {ps : List Addr} {kvs : List (List L2.Key × V)}, Paired (PrAt X.K H) ps kvs →
    ∃ ks : List (List L2.Key × Addr × Value), L2.KT H kvs ks ∧ ks.length = ps.length ∧ ∀ (j : Nat) (x : List L2.Key × Addr × Value), ks[j]? = some x → ∃ b, ps[j]? = some b ∧ IsTup s.heap b #[.ref x.2.1, x.2.2]
  | _, _, .nil => ⟨[], .nil, rfl, fun j q e => by simp at e⟩
  | _, _, .cons (a := p) (b := kv) h t => by
    obtain ⟨ks, r, hl, hp⟩ := prs_of I t
    obtain ⟨b, h1, h2⟩ := h
    obtain ⟨its, rv, ht, _⟩ := I.tuple h1
    obtain ⟨u, y, ei, ru, ry⟩ := vals2 rv
    subst ei
    cases ru
    refine ⟨(kv.1, b, y) :: ks, .cons ⟨rfl, h2, ry⟩ r, by rw [List.length_cons, List.length_cons, hl], fun j x e => ?_⟩
    cases j with
    | zero =>
      have e' : (kv.1, b, y) = x := Option.some.inj e
      subst e'
      exact ⟨p, rfl, ht⟩
    | succ j =>
      obtain ⟨c, e1, e2⟩ := hp j x (by simpa using e)
      exact ⟨c, by simpa using e1, e2⟩
theorem stored_all {K : Type} [DecidableEq K] : ∀ (ps acc : List (K × Addr × Value)), ((acc ++ ps).map (·.1)).Nodup → storedAllH acc ps = acc ++ ps
  | [], acc, _ => by rw [List.append_nil]; rfl
  | p :: ps, acc, h => by
    show storedAllH (storedH acc p.1 p.2.1 p.2.2) ps = _
    have hn : p.1 ∉ acc.map (·.1) := fun hm => by
      rw [List.map_append, List.map_cons] at h
      exact (List.nodup_append.mp h).2.2 _ hm _ List.mem_cons_self rfl
    have h0 : atKey acc p.1 = none := by
      unfold atKey
      rw [Option.map_eq_none_iff, List.find?_eq_none]
      intro x hx e
      exact hn (List.mem_map.mpr ⟨x, hx, of_decide_eq_true e⟩)
    rw [storedH_new h0, stored_all ps (acc ++ [(p.1, p.2.1, p.2.2)]) (by rw [List.append_assoc]; exact h), List.append_assoc]
    rfl
theorem call_dictF (hc : X.calm = true) (hu : X.A.units + 64 < cLine) : CallR X (.type "dict") (rDictF X.K) := by
  intro pins s σ H xs us Q I r h
  obtain ⟨a, its, n, ps, kvs, rfl, ha, hp, hn, q⟩ := h
  obtain rfl := Vals.ref1 r
  obtain ⟨hobj, hz, vs, rv, _, hob2, _, n2, hd2⟩ := (show ObjOk X.prog X.w H s.heap a (.frz (tupObj its n) (.tup (ps.map V.ref))) from I.hok a _ ha)
  rw [hobj] at hob2
  cases hob2
  injection hd2 with hits _
  subst hits
  have hvs : vs = ps.map Value.ref := refs_at rv
  obtain ⟨ks, rel, hl, hpr⟩ := prs_of I hp
  have hks : ks.map (·.1) = kvs.map (·.1) := (paired_fst rel).symm
  have hnk : ((([] : List (List L2.Key × Addr × Value)) ++ ks).map (·.1)).Nodup := by rw [List.nil_append, hks]; exact hn
  rw [List.length_map] at hz
  let vps : List (Value × Value) := ks.map fun x => (Value.ref x.2.1, x.2.2)
  have hlv : vps.length = ps.length := by rw [List.length_map]; exact hl
  refine call_dict_pairsH (knd := tupleKind (mixKind X.prog X.w)) (ps := ks) (PairArg.tuple a vs.toArray (fun j => ps.getD j 0) vps) (I.ok.hd hc) (show X.A.in1.units + 1 < cLine by show X.A.units + 1 + 1 < cLine; omega)
    ⟨⟨_, _, hobj, rfl, rfl, rfl⟩, by rw [List.size_toArray, hvs, List.length_map, hlv], fun j k v hj => ?_⟩ ⟨by rw [hlv, hl], fun i key v hr => ?_⟩ (fun h' hk x hx => ?_) (by rw [hlv]; exact hz) fun h' tk hd' hk => ?_
  · rw [List.getElem?_map] at hj
    cases e : ks[j]? with
    | none => rw [e] at hj; cases hj
    | some x =>
      rw [e] at hj
      have e2 : (Value.ref x.2.1, x.2.2) = (k, v) := Option.some.inj hj
      cases e2
      obtain ⟨b, e3, ht⟩ := hpr j x e
      have e4 : ps.getD j 0 = b := by rw [List.getD_eq_getElem?_getD, e3]; rfl
      show vs.toArray[j]? = some (Value.ref (ps.getD j 0)) ∧ PairAt s.heap (ps.getD j 0) (Value.ref x.2.1) x.2.2
      rw [e4]
      refine ⟨?_, .inl ht⟩
      rw [List.getElem?_toArray, hvs, List.getElem?_map, e3]; rfl
  · have hr' : vps[i]? = some (key, v) := hr
    rw [List.getElem?_map] at hr'
    cases e : ks[i]? with
    | none => rw [e] at hr'; cases hr'
    | some x =>
      rw [e] at hr'
      have e2 : (Value.ref x.2.1, x.2.2) = (key, v) := Option.some.inj hr'
      cases e2
      exact ⟨x.1, x.2.1, rfl, rfl⟩
  · have hb := paired_snd rel x hx
    obtain ⟨_, ys, r', ob, e1, e2, m, e3⟩ := (show ObjOk X.prog X.w H s.heap x.2.1 (.tup (x.1.map kV)) from I.hok _ _ hb)
    exact ⟨ob, ys.toArray, m, hk _ _ (Nat.ne_of_lt (Heap.lt_size e1)) List.not_mem_nil e1, e2, e3, by simpa using items_are r'⟩
  · have hm : (s.heap.objs.size == sysModules) = false := beq_eq_false_iff_ne.mpr (Nat.ne_of_gt I.big)
    rw [stored_all ks [] hnk, List.nil_append] at hd'
    obtain ⟨o, es, ep, g1, g2, g3, g4, _, g5⟩ := hd'
    have hlk : kvs.length = ks.length := Paired.length rel
    have hfr : H s.heap.objs.size = none := I.hok.fresh (Nat.le_refl _)
    refine ⟨.ref s.heap.objs.size, upd H s.heap.objs.size (.dT kvs), I.laid (t' := tk) (fun b o e => hk b o List.not_mem_nil e) (Nat.le_refl _)
      (show ObjOk X.prog X.w _ _ _ (.dT kvs) from ⟨by rw [hlk, hl]; exact hz, hm, ks, ?_, o, es, ep, g1, g2, g3, g4, g5⟩), rfl, q _ hfr⟩
    exact KT.keeps rel fun b ys e => by rw [upd_ne (ne_of_none e hfr)]; exact e

/-! ### t * 1 -/
theorem tuple_mul1 (l : Addr) (items : Array Value) (n : Nat) (dd : Option Addr) (sl : Array (Option Value)) (u : Tok) :
    Meets (Builtin.«tuple.__mul__» ⟨[.ref l, .int 1 u], []⟩) (fun _ R s => s.heap.get? l = some { cls := .type "tuple", dict := dd, data := .seq items n, slots := sl } ∧ R (.ok (.ret (.ref l))) s) :=
  .of_wp fun prog w A R s h => by
    obtain ⟨hp, g, d, tk, os⟩ := s
    obtain ⟨hl, h⟩ := h
    have f1 := AutoSeq1.idx_int
    have c1 : (items.isEmpty || (1 : Int) == 1) = true := by simp
    wp_walk using AutoSeq1.wpAny_loadPart' hl
    exact ⟨_, rfl, h⟩
def rRep1 (K : PySem.W.Frag) : R2 := fun x y H Q => ∃ l xs, x = .ref l ∧ y = .int 1 ∧ SqT K H l xs ∧ Q (.ref l) H
theorem op_rep1 : OpR X (binaryOp .Mult) (rRep1 X.K) := by
  intro pins s σ H x y v u Q I rx ry h
  obtain ⟨l, xs, rfl, rfl, hT, q⟩ := h
  cases rx
  obtain ⟨t, rfl⟩ := ry
  obtain ⟨its, r, ⟨⟨cls, dd, data, sl⟩, ho, hc, n, hd⟩, hs⟩ := I.tuple hT
  simp only at hc hd
  subst hc hd
  exact wpAny_binaryOp_repeat_ref (T := "tuple") (U := "int") (by decide) ⟨_, ho, rfl⟩ (fun s' => typeIs_int s' 1 t) noFill_tuple_mul F.fills_int_mul F.slot_int_rmul repeat_tuple F.slot_int_index.lookup
    (call_meets F.slot_int_rmul (typeIs_int s 1 t) F.entry_int_rmul (F.args_int_rmul_2 _ _) (int_rmul_tuple 1 t l its.toArray n dd sl)
      ⟨ho, rfl, ⟨_, ho, rfl⟩, call_meets F.slot_tuple_mul ⟨_, ho, rfl⟩ F.entry_tuple_mul (F.args_tuple_mul_2 _ _) (tuple_mul1 l its.toArray n dd sl t) ⟨ho, .ref l, H, I, rfl, q⟩⟩)

/-! ### t > u, tuples of ints -/
theorem lexAt_shift (e r : Nat → Bool) (z : Bool) : ∀ (k i : Nat), Ob.lexAt e r z (i + 1) k = Ob.lexAt (fun j => e (j + 1)) (fun j => r (j + 1)) z i k
  | 0, i => rfl
  | k + 1, i => by rw [Ob.lexAt_succ, Ob.lexAt_succ, lexAt_shift e r z k (i + 1)]
theorem lexAt_gt : ∀ (ns ms : List Int), Ob.lexAt (fun j => decide (ns.getD j 0 = ms.getD j 0)) (fun j => decide (ms.getD j 0 < ns.getD j 0)) (decide (ns.length > ms.length)) 0 (min ns.length ms.length) = HT.lexLt ms ns
  | [], [] => rfl
  | [], m :: ms => rfl
  | n :: ns, [] => rfl
  | n :: ns, m :: ms => by
    have ih := lexAt_gt ns ms
    rw [HT.lexLt_cons, ← ih, show min (n :: ns).length (m :: ms).length = min ns.length ms.length + 1 by rw [List.length_cons, List.length_cons]; omega, Ob.lexAt_succ, lexAt_shift]
    have e1 : decide ((n :: ns).length > (m :: ms).length) = decide (ns.length > ms.length) := by
      rw [List.length_cons, List.length_cons]
      simp only [gt_iff_lt, Nat.add_lt_add_iff_right]
    rw [e1]
    show (if decide (n = m) = true then _ else decide (m < n)) = _
    by_cases e : n = m
    · rw [if_pos (decide_eq_true e), if_pos e.symm]; rfl
    · rw [if_neg (by simpa using e), if_neg (fun q => e q.symm)]
def rGtT (K : PySem.W.Frag) : R2 := fun x y H Q => ∃ (a b : Addr) (ns ms : List Int), x = .ref a ∧ y = .ref b ∧ SqT K H a (ns.map V.int) ∧ SqT K H b (ms.map V.int) ∧ Q (.bl (HT.lexLt ms ns)) H
theorem op_gtT (hu : X.A.units < cLine) : OpR X (compareOp .Gt) (rGtT X.K) := by
  intro pins s σ H x y v u Q I rx ry h
  obtain ⟨a, b, ns, ms, rfl, rfl, ha, hb, q⟩ := h
  cases rx
  cases ry
  obtain ⟨its, r1, p1, _⟩ := I.tuple ha
  obtain ⟨its2, r2, p2, _⟩ := I.tuple hb
  have i1 : IntsAre its ns := Vals.ints r1
  have i2 : IntsAre its2 ms := Vals.ints r2
  have e1 : its.toArray.size = ns.length := by rw [List.size_toArray]; exact i1.length
  have e2 : its2.toArray.size = ms.length := by rw [List.size_toArray]; exact i2.length
  have at1 : ∀ j (h1 : j < its.toArray.size), ∃ t, its.toArray[j] = .int (ns.getD j 0) t := fun j h1 => IntsAre.int_at i1 _ _ (by simp at h1; simp [h1])
  have at2 : ∀ j (h1 : j < its2.toArray.size), ∃ t, its2.toArray[j] = .int (ms.getD j 0) t := fun j h1 => IntsAre.int_at i2 _ _ (by simp at h1; simp [h1])
  have R := Ob.RcOp.tuples_gt (A := X.A) (s := s) (e := fun j => decide (ns.getD j 0 = ms.getD j 0)) (r := fun j => decide (ms.getD j 0 < ns.getD j 0)) p1 p2 hu (fun j h1 h2 => by
    obtain ⟨t, et⟩ := at1 j h1
    obtain ⟨t', et'⟩ := at2 j h2
    rw [et, et', ← Bool.beq_eq_decide_eq]
    exact SeqAt.EqAt.int_int _ _ _ _) (fun j h1 h2 _ => by
    obtain ⟨t, et⟩ := at1 j h1
    obtain ⟨t', et'⟩ := at2 j h2
    rw [et, et']
    exact Ob.RcOp.gt_int _ _ _ _)
  rw [e1, e2, lexAt_gt] at R
  exact R X.prog X.w X.xe (EP X pins σ Q) ⟨.bl _, H, I, rfl, q⟩

/-! ### xs.extend(t), t a fresh tuple -/
def rExtT : V → List V → Hp → VK → Prop := fun x vs H Q => ∃ (l b : Addr) (xs zs : List V) (its : Array Value) (n : Nat), x = .ref l ∧ vs = [.ref b] ∧ H l = some (.lst xs) ∧ H b = some (.frz (tupObj its n) (.tup zs)) ∧ xs.length + zs.length ≤ sizeLine ∧ Q .non (upd H l (.lst (xs ++ zs)))
theorem mt_extT : MtM X "list.extend" rExtT := by
  intro pins s σ H x vs v us Q I rx rv h
  obtain ⟨l, b, xs, zs, its0, n0, rfl, rfl, hH, hB, hz, q⟩ := h
  cases rx
  obtain ⟨u, rfl, ru⟩ := rv.one
  cases ru
  obtain ⟨z, its, n, r, hl, e⟩ := I.lstM hH
  obtain ⟨hobj, hz2, its2, r2, _, hob2, _, n2, hd2⟩ := (show ObjOk X.prog X.w H s.heap b (.frz (tupObj its0 n0) (.tup zs)) from I.hok b _ hB)
  rw [hobj] at hob2
  cases hob2
  injection hd2 with hits _
  subst hits
  have hl2 : zs.length = its2.length := r2.length
  have hsz : its.toArray.size + its2.toArray.size ≤ sizeLine := by rw [List.size_toArray, List.size_toArray]; omega
  have hlong : ¬ (!its.toArray.isEmpty && Builtin.List.listTooLong (its.toArray.size + its2.toArray.size)) = true := by
    rw [notLongL hsz, Bool.and_false]
    exact Bool.false_ne_true
  refine call_meets F.slot_list_extend ⟨_, e, rfl⟩ F.entry_list_extend (F.args_list_extend_2 _ _)
    (AutoSeq1.list_extend_list_tuple_0 l its.toArray n b its2.toArray n0 hlong (by rw [List.size_toArray]; omega) (by omega)) ⟨e, hobj, ?_⟩
  exact ⟨.non, _, I.lset (its' := its ++ its2) hH e (by simp) (r.append r2) (by rw [List.length_append]; omega), rfl, q⟩

/-! ### t[::-1] -/
theorem pick_rev (items : Array Value) : ((List.range items.size).filterMap fun (k : Nat) => items[((items.size : Int) - 1 + (k : Int) * (-1)).toNat]?).toArray = items.toList.reverse.toArray := by
  rw [← PySem.W.krv_all items, ← List.filterMap_reverse, ← PySem.W.krv_range, List.filterMap_map]
  have e : (fun (k : Nat) => items[((items.size : Int) - 1 + (k : Int) * (-1)).toNat]?) = ((fun x => items[x]?) ∘ fun k => items.size - 1 - k) := by
    funext k
    show items[((items.size : Int) - 1 + (k : Int) * (-1)).toNat]? = items[items.size - 1 - k]?
    rw [show ((items.size : Int) - 1 + (k : Int) * (-1)).toNat = items.size - 1 - k by omega]
  rw [e]
theorem places_rev (n : Nat) : Builtin.Slice.slicePlaces ((n : Int) - 1) (-1) (-1) = n := by
  unfold Builtin.Slice.slicePlaces
  have h1 : ¬ ((-1 : Int) > 0) := by decide
  simp only [h1, if_false]
  split
  · have e : ((n : Int) - 1 - -1 - 1) / (- -1) = (n : Int) - 1 := by
      rw [show (- -1 : Int) = 1 by decide, Int.ediv_one]; omega
    rw [e]; omega
  · omega
def tRevT (K : PySem.W.Frag) (te : TE) : TE := fun σ H Q => te σ H fun x H1 => ∃ a xs, x = .ref a ∧ SqT K H1 a xs ∧ ∀ p, H1 p = none → Q (.ref p) (upd H1 p (.tup xs.reverse))
theorem getItem_rev {prog : Program} {w : World} {A : Around} {E : Value → Shared → Prop} {s : Shared} {t sl : Addr} {items : Array Value} {vs : Value} {Q : Value → Shared → Prop} (ht : IsTup s.heap t items) (hs : s.heap.IsSliceOf sl .none .none vs) (ps : IsPart vs (some (-1)))
    (h : Q (.ref s.heap.objs.size) { s with heap := s.heap.push { cls := .type "tuple", data := .seq items.toList.reverse.toArray } }) (hsz : items.size ≤ sizeLine) : wpAny (model prog w) A (getItem (.ref t) (.ref sl)) Q E s := by
  obtain ⟨os, hos, hcs, hds⟩ := id hs
  have hTs : s.TypeIs (.ref sl) "slice" := ⟨os, hos, hcs⟩
  have hok : sizeOk (.seq items.toList.reverse.toArray) := by
    show items.toList.reverse.toArray.size ≤ sizeLine
    rw [List.size_toArray, List.length_reverse, Array.length_toList]; exact hsz
  unfold getItem
  try with_reducible refine wpAny_holding ?_
  first | refine wpAny_bind (wpAny_pure ?_) | skip
  refine wpAny_bind (wpAny_sequenceKey ht.typeIs (by decide) ?_)
  refine wpAny_bind (wpAny_callSpecial?_slot (name := Str.ofString "__getitem__") ht.typeIs slot_tuple_getitem (wpAny_call_entry slot_tuple_getitem ht.typeIs entry_tuple_getitem ?_ (args_tuple_getitem _ _)))
  show wpAny _ _ (Builtin.Tuple.tupleItemsOf (.ref t) >>= _) _ _ s
  refine wpAny_bind (tupleItemsOf_ ht (wpAny_bind (wpAny_typeOf hTs ?_)))
  rw [if_pos (by decide)]
  unfold Builtin.Slice.sliceApplied Builtin.Slice.sliceFields
  refine wpAny_bind (wpAny_bind (wpAny_bind (wpAny_field hos hds (x := .none) rfl (wpAny_bind (wpAny_field hos hds (x := .none) rfl (wpAny_bind (wpAny_field hos hds (x := vs) rfl (wpAny_pure ?_))))))))
  refine wpAny_bind (HT.slicePart_ ps ?_)
  show wpAny _ _ (if ((-1 : Int) == 0) = true then _ else _) _ _ s
  rw [if_neg (by decide)]
  refine wpAny_bind (HT.slicePart_ .none (wpAny_bind (HT.slicePart_ .none (wpAny_bind (wpAny_pure ?_)))))
  show wpAny _ _ (pure ((items.size : Int) - 1, (-1 : Int), Builtin.Slice.slicePlaces ((items.size : Int) - 1) (-1) (-1))) _ _ s
  rw [places_rev]
  refine wpAny_pure ?_
  show wpAny _ _ (if (((items.size : Int) - 1) == 0 && (-1 : Int) == 1 && items.size == items.size) = true then _ else _) _ _ s
  rw [if_neg (by simp), pick_rev]
  first
    | exact wpAny_bind (m := Builtin.Tuple.tupleExact _) (wpAny_newObj_type (wpAny_pure ⟨_, rfl, wpAny_pure h⟩) hok)
    | exact wpAny_bind (m := Builtin.Tuple.tupleExact _) (wpAny_newObj_type (wpAny_bind (wpAny_pure (wpAny_pure ⟨_, rfl, wpAny_pure h⟩))) hok)
    | exact wpAny_bind (wpAny_bind (m := Builtin.Tuple.tupleExact _) (wpAny_newObj_type (wpAny_pure (wpAny_pure ⟨_, rfl, wpAny_pure h⟩)) hok))
    | exact wpAny_bind (wpAny_bind (m := Builtin.Tuple.tupleExact _) (wpAny_newObj_type (wpAny_pure ⟨_, rfl, wpAny_pure h⟩) hok))
theorem pe_revT {e : Expr} {te : TE} {k : Nat} {p1 p2 p3 pos : Pos} (he : PE X e te) : PE X (.Subscript e (.Slice none none (some (.UnaryOp .USub (.Constant (.int 1) k p1) p2)) p3) pos) (tRevT X.K te) := by
  refine ⟨fun pins s σ H Q I h => Subscript_ (thn (he.run pins s σ H _ I h) fun v s1 ⟨x, H1, I1, r1, a, xs, ex, hx, q⟩ => ?_)⟩
  subst ex
  cases r1
  have hst : PO X (some (.UnaryOp .USub (.Constant (.int 1) k p1) p2)) (tPart (tUn (rU fun i => .int (-i)) (tC (.int 1)))) := po_some (pe_un un_neg pe_int)
  refine wpAny_Slice ?_
  rw [evalPart_none]
  refine wpAny_pure (wpAny_pure (thn (hst.run pins s1 σ H1 (fun o H4 => o = some (-1) ∧ H4 = H1) I1 ⟨1, rfl, -1, rfl, rfl, rfl⟩) fun vs s4 ⟨o, H4, I4, ps, eo, e4⟩ => ?_))
  subst eo e4
  have I5 : Inv X pins σ H4 { s4 with heap := s4.heap.push { cls := .type "slice", data := .fields #[.none, .none, vs] } } := I4.kept (t' := s4.toks) fun b ob q => Heap.get?_push_of_some _ q
  obtain ⟨its, r, ht, hz⟩ := I5.tuple hx
  have hlen := r.length
  show wpAny (model X.prog X.w) X.A (subscriptTail e (.Slice none none (some (.UnaryOp .USub (.Constant (.int 1) k p1) p2)) p3) (.ref a) (.ref s4.heap.objs.size)) (EP X pins σ Q) X.xe { s4 with heap := s4.heap.push { cls := .type "slice", data := .fields #[.none, .none, vs] } }
  refine tail_any (ops := [.ref a, .ref s4.heap.objs.size]) ht.typeIs slot_tuple_getitem.lookup (getItem_rev ht (Heap.IsSliceOf.new _ .none .none vs) ps ?_ (by rw [List.size_toArray]; omega)) (by with_unfolding_all rfl)
  refine ⟨.ref _, _, I5.laid (t' := s4.toks) (o := .tup xs.reverse) (fun b ob q => Heap.get?_push_of_some _ q) (Nat.le_refl _) ?_, rfl, q _ (I5.hok.fresh (Nat.le_refl _))⟩
  exact ⟨by rw [List.length_reverse]; exact hz, _, r.reverse, IsTup.new _ _⟩
end
end CZ
/-! Own rule: Base.__init__(self, ..) where Base is an own class whose __init__ is ValueError's. -/
namespace CZ
open PySem PySem.Spec PyProof.Rows L2
section
variable {X : Cx} {e : Expr} {es : List Expr} {ta : TA} {p1 p2 pos : Pos}
theorem pe_ownInit {Z : Addr} {mc : Value} {pl : Sem Bool} (hg : Gl X "ZeroError") (hm : X.mg "ZeroError" = some (.ref Z)) (r : ClX.CRead X.K Z mc) (vV : PySem.W.findCls X.K (.ref Z) mc "__init__" = some (.val (.builtin "ValueError.__init__"))) (ha : PA X (e :: es) ta)
    (hc : eval (.Call (.Attribute (.Name "ZeroError" p1) "__init__" p2) (e :: es) [] pos) X.env = (do
      let ov ← eval (.Name "ZeroError" p1) X.env
      standAt p2.atName
      let (f, first) ← holding [ov] (getMethod ov "__init__" pl)
      callWith pos f first (backTo pos (starEach (e :: es) X.env)) (backToKw pos (keywordEach [] X.env))) := by rfl)
    (he : starEach (e :: es) X.env = (false, eval e X.env) :: starEach es X.env := by rfl) (hpl : (backTo pos (starEach es X.env)).any (·.1) = false := by rfl) :
    PE X (.Call (.Attribute (.Name "ZeroError" p1) "__init__" p2) (e :: es) [] pos) (tVeI X.K ta) := by
  refine ⟨fun pins s σ H Q I h => PySem.W.methodCall_KW (ld_glob I hg hm ?_ (by decide)) hc⟩
  refine PySem.W.method_cls I.kIn r.ga (PySem.W.cls_value I.kIn r.rd vV rfl ?_)
  show wpAny _ _ (callWith pos (Value.builtin "ValueError.__init__") [] (backTo pos (starEach (e :: es) X.env)) []) _ _ _
  refine callWith_method1 (thn (ha.run pos pins _ σ H _ (I.tok _) h) fun us s1 ⟨vs, H1, I1, r1, a, C, ws, ev, hl, T, ea, q⟩ => ?_) he hpl
  subst ev
  cases r1 with
  | @cons _ u0 _ ur ra rw' =>
    obtain rfl : u0 = Value.ref a := ra
    have hlen : ur.length ≤ sizeLine := by
      rw [← Paired.length rw', sizeLine_eq]; omega
    exact oinit_ok T I1 ea hlen fun s' J => ⟨.non, H1, J, rfl, q⟩
end

/-- what the written part says of NoSum, at C, its base ZeroError, at Z, and NoSum's __init__, at fI -/
structure ErrTxt (K : PySem.W.Frag) (mg : Str → Option Value) (C Z fI : Addr) (mc : Value) : Prop where
  ox : OexC K C
  gC : mg "NoSum" = some (.ref C)
  gZ : mg "ZeroError" = some (.ref Z)
  rd : ClX.CRead K Z mc
  vi : PySem.W.findCls K (.ref Z) mc "__init__" = some (.val (.builtin "ValueError.__init__"))
  iC : PySem.W.findIn K (.ref C) "__init__" = some (some (.ref fI))
  tI : PySem.W.typeIn K (.ref fI) = some (.type "function")
  nW : PySem.W.findIn K (.ref C) "word" = some none
  te : PySem.W.exmOne K (.ref C) (.ref C) = some true
/-- __init__'s promise -/
def spInit (C : Addr) : Sp := fun vs H Q _ => ∃ (a : Addr) (x : V), vs = [.ref a, x] ∧ H a = some (exo a C none) ∧ ∀ dx, H dx = none → dx ≠ a → Q .non (upd (upd H dx (exd dx [("word", x)])) a (exo a C (some dx)))
/-- raise NoSum(text): what was tracked stands -/
theorem mk_noSum {C : Addr} {w : Str} {σ : L2.St} {H : Hp} {Q : XK} (q : ∀ d H2, Gx none H H2 → Q (.ref C) (some d) H2) : tMkO C (spInit C) [] (tCons (tC (.str w)) tNil) σ H Q := by
  refine ⟨(by decide : 1 ≤ 1000), fun a ha => ⟨a, .str w, rfl, upd_same, fun dx hd hne => ⟨rfl, dx, [("word", .str w)], upd_same, ?_, ?_, q dx _ ?_⟩⟩⟩
  · rw [upd_ne hne, upd_same]
  · rw [upd_ne hne] at hd
    exact hd
  · rw [upd_ne hne] at hd
    refine Gx.of_keep trivial fun b o e => ?_
    rw [upd_ne (ne_of_none e hd), del_ne (ne_of_none e ha), upd_ne (ne_of_none e ha), upd_ne (ne_of_none e hd), upd_ne (ne_of_none e ha)]
    exact e
end CZ
/-! Comprehensions and loops while the heap grows. -/
namespace CZ
open PySem PySem.Spec PyProof.Rows L2 RZ
/-- the tuples stand, and the tape -/
def TxT (t : TT') (H H' : Hp) : Prop := Tx H H' ∧ TapeOk t H'
theorem Gx.txT {t : TT'} {H H' : Hp} (g : Gx t H H') : TxT t H H' := ⟨g.tx, g.t1⟩
section
variable {t : TT'} {K : PySem.W.Frag} {σ : L2.St} {H H' : Hp} {ta tb te tl : TE} {tt : TT}

/-- what is walked at σ0, its targets stored over σ: n turns, T tells the slots behind the store -/
def Turns (t : TT') (Rl : Hp → Hp → Prop) (wi : TI) (g : TG) (σ0 : L2.St) (H : Hp) (n : Nat) (T : L2.St → Nat → L2.St → Hp → Prop) : Prop :=
  ∀ H1, Gx t H H1 → ∀ Qt : It → Hp → Prop, (∀ J G Y H2, Gx t H1 H2 → Walk J n G Y → (∀ H3, Rl H2 H3 → G H3) →
    (∀ i x H3 H4, i < n → Rl H2 H3 → Y i H3 x H4 → Gx t H3 H4 ∧ ∀ (σ1 : L2.St) (Qg : L2.St → Hp → Prop), (∀ σ2 H5, Gx t H4 H5 → T σ1 i σ2 H5 → Qg σ2 H5) → g x σ1 H4 Qg) → Qt J H2) → wi σ0 H1 Qt
theorem turns_tup {a : Addr} {xs : List V} {j : Nat} (h : EvP t tl σ H (Is (.ref a))) (hx : SqT K H a xs) : Turns t (TxT t) (iTup K tl) (gName j) σ H xs.length (fun σ1 i σ2 _ => ∃ x, xs[i]? = some x ∧ σ2 = σ1.set j (some x)) := fun H1 g Qt q =>
  h H1 g _ fun v H2 g2 e => ⟨a, e, ⟨xs, (g.trans g2).sqT hx⟩, q _ _ _ H2 g2 walk_tup (fun H3 g3 => g3.1.sqT ((g.trans g2).sqT hx)) fun i x H3 H4 hi g3 y => by
    obtain ⟨rfl, hxi⟩ := y
    exact ⟨Gx.refl g3.2, fun σ1 Qg qg => qg _ _ (Gx.refl g3.2) ⟨x, hxi, rfl⟩⟩⟩
/-- over a tuple of pairs -/
theorem turns_pairs {a : Addr} {xs : List V} {j k : Nat} (h : EvP t tl σ H (Is (.ref a))) (hx : SqT K H a xs) (hp : ∀ (i : Nat) (x : V), xs[i]? = some x → ∃ (p : Addr) (u v : V), x = .ref p ∧ SqT K H p [u, v]) :
    Turns t (TxT t) (iTup K tl) (gTup K 2 (gCons (gName j) (gCons (gName k) gNil))) σ H xs.length (fun σ1 i σ2 _ => ∃ p u v, xs[i]? = some (.ref p) ∧ SqT K H p [u, v] ∧ σ2 = (σ1.set j (some u)).set k (some v)) := fun H1 g Qt q =>
  h H1 g _ fun v H2 g2 e => ⟨a, e, ⟨xs, (g.trans g2).sqT hx⟩, q _ _ _ H2 g2 walk_tup (fun H3 g3 => g3.1.sqT ((g.trans g2).sqT hx)) fun i x H3 H4 hi g3 y => by
    obtain ⟨rfl, hxi⟩ := y
    obtain ⟨p, u, w, rfl, hpq⟩ := hp i x hxi
    exact ⟨Gx.refl g3.2, fun σ1 Qg qg => ⟨p, [u, w], rfl, g3.1.sqT ((g.trans g2).sqT hpq), rfl, u, [w], rfl, w, [], rfl, rfl, qg _ _ (Gx.refl g3.2) ⟨p, u, w, hxi, hpq, rfl⟩⟩⟩⟩
theorem turns_range {tA : TA} {n : Int} {j : Nat} (h : EvA t tA σ H (fun vs _ => vs = [V.int n])) (hn : 0 ≤ n ∧ n ≤ 100000) : Turns t (TxT t) (iRng1 tA) (gName j) σ H n.toNat (fun σ1 i σ2 _ => σ2 = σ1.set j (some (.int (i : Int)))) := fun H1 g Qt q =>
  h H1 g _ fun v H2 g2 e => ⟨n, e, by omega, by omega, q _ _ _ H2 g2 walk_range (fun _ _ => trivial) fun i x H3 H4 hi g3 y => by
    obtain ⟨rfl, rfl⟩ := y
    exact ⟨Gx.refl g3.2, fun σ1 Qg qg => qg _ _ (Gx.refl g3.2) (by show σ1.set j (some (V.int (0 + (i : Int)))) = _; rw [Int.zero_add])⟩⟩
theorem turns_range2 {tA : TA} {lo n : Int} {j : Nat} (h : EvA t tA σ H (fun vs _ => vs = [V.int lo, V.int n])) (hl : 0 ≤ lo ∧ lo ≤ 100000) (hn : 0 ≤ n ∧ n ≤ 100000) : Turns t (TxT t) (iRng2 tA) (gName j) σ H (n - lo).toNat (fun σ1 i σ2 _ => σ2 = σ1.set j (some (.int (lo + (i : Int))))) := fun H1 g Qt q =>
  h H1 g _ fun v H2 g2 e => ⟨lo, n, e, ⟨by omega, by omega, by omega, by omega⟩, q _ _ _ H2 g2 walk_range (fun _ _ => trivial) fun i x H3 H4 hi g3 y => by
    obtain ⟨rfl, rfl⟩ := y
    exact ⟨Gx.refl g3.2, fun σ1 Qg qg => qg _ _ (Gx.refl g3.2) rfl⟩⟩
theorem walk_zipT {a b : Addr} {xs ys : List V} (hl : xs.length = ys.length) : Walk (ItzT K a b) xs.length (fun H => SqT K H a xs ∧ SqT K H b ys) (YPair (fun i => xs[i]?) (fun i => ys[i]?)) := by
  refine ⟨fun i _ hi q => ⟨xs, ys, xs[i], ys[i]'(by omega), q.1, q.2, by simp [hi], by simp [show i < ys.length by omega]⟩, fun _ q => ⟨xs, ys, q.1, q.2, .inl (Nat.le_refl _)⟩, fun i H v H' _ q y => ?_⟩
  obtain ⟨T, x, z, h1, h2, h3, h4, h5⟩ := y
  exact ⟨T, x, z, h1, h2, h3, h4 xs q.1, h5 ys q.2⟩
/-- over zip of two tuples of one length -/
theorem turns_zip {tA : TA} {a b : Addr} {xs ys : List V} {j k : Nat} (h : EvA t tA σ H (fun vs _ => vs = [V.ref a, V.ref b])) (hx : SqT K H a xs) (hy : SqT K H b ys) (hl : xs.length = ys.length) :
    Turns t (TxT t) (iZipA K tA) (gTup K 2 (gCons (gName j) (gCons (gName k) gNil))) σ H xs.length (fun σ1 i σ2 _ => ∃ x y, xs[i]? = some x ∧ ys[i]? = some y ∧ σ2 = (σ1.set j (some x)).set k (some y)) := fun H1 g Qt q =>
  h H1 g _ fun v H2 g2 e => ⟨a, b, xs, ys, e, .inr ⟨(g.trans g2).sqT hx, (g.trans g2).sqT hy, q _ _ _ H2 g2 (walk_zipT hl) (fun H3 g3 => ⟨g3.1.sqT ((g.trans g2).sqT hx), g3.1.sqT ((g.trans g2).sqT hy)⟩) fun i v H3 H4 hi g3 y => by
    obtain ⟨T, x, z, rfl, hT, rfl, h4, h5⟩ := y
    have gT : Gx t H3 (upd H3 T (.tup [x, z])) := Gx.new g3.2 hT
    exact ⟨gT, fun σ1 Qg qg => ⟨T, [x, z], rfl, SqT.of upd_same, rfl, x, [z], rfl, z, [], rfl, rfl, qg _ _ gT.here ⟨x, z, h4, h5, rfl⟩⟩⟩⟩⟩
/-- over a new list that an expression gives -/
theorem turns_listN {n : Nat} {j : Nat} {P : List V → Hp → Prop} (h : EvL t tl σ H P) (hn : ∀ xs H1, P xs H1 → xs.length = n) (hm : ∀ xs H1 H2, Tx H1 H2 → P xs H1 → P xs H2) :
    Turns t (Gx t) (iList K tl) (gName j) σ H n (fun σ1 i σ2 H2 => ∃ xs x, P xs H2 ∧ xs[i]? = some x ∧ σ2 = σ1.set j (some x)) := fun H1 g Qt q =>
  h H1 g _ fun p xs H2 hp g2 e px => by
    have hl := hn xs H2 px
    subst hl
    have nt := g.notTape (g.fresh hp)
    have nt2 : ∀ q, t = some q → p ≠ q.tp := g2.notTape hp
    exact ⟨p, rfl, ⟨xs, SqL.of e⟩, q _ _ _ H2 g2 (walk_list (K := K) (a := p) (xs := xs)) (fun H3 g3 => SqL.of (g3.lst e nt2)) fun i x H3 H4 hi g3 y => by
      obtain ⟨rfl, hxi⟩ := y
      exact ⟨g3.here, fun σ1 Qg qg => qg _ _ g3.here ⟨xs, x, hm xs _ _ g3.tx px, hxi, rfl⟩⟩⟩

/-- a comprehension with a test whose answer is known -/
theorem ev_lcIf {α : Type} {wi : TI} {g : TG} {vs : List Nat} {n : Nat} {T : L2.St → Nat → L2.St → Hp → Prop} {R : α → V → Hp → Prop} [∀ a, Mo (R a)] {C : Nat → α → Prop} {f : Nat → Bool} {Rl : Hp → Hp → Prop} (hr : ∀ H1 H2, Gx t H1 H2 → Rl H1 H2) (hw : Turns t Rl wi g σ H n T) (hn : n ≤ 100000)
    (hv : ∀ i σ2 H1, T (wipe σ vs) i σ2 H1 → wipe σ2 vs = wipe σ vs) (ht : ∀ i σ2 H1, i < n → Gx t H H1 → T (wipe σ vs) i σ2 H1 → EvB t tt σ2 H1 (· = f i))
    (he : ∀ i σ2 H1 H2, i < n → Gx t H H1 → T (wipe σ vs) i σ2 H1 → Gx t H1 H2 → f i = true → EvP t te σ2 H2 (fun v H => ∃ a, C i a ∧ R a v H)) :
    EvL t (tLc wi g tt te vs) σ H (fun xs H' => ∃ os : List (Option α), os.length = n ∧ (∀ i o, os[i]? = some o → (f i = false ∧ o = none) ∨ (f i = true ∧ ∃ a, o = some a ∧ C i a)) ∧ Paired (fun a x => R a x H') (os.filterMap id) xs) := fun H1 g1 Q q =>
  hw H1 g1 _ fun J G Y H2 g2 W hG hY D hD => lc_it W (fun i H' => Gx t H2 H' ∧ ∃ (os : List (Option α)) (xs : List V), H' D = some (.lst xs) ∧ os.length = i ∧ (∀ j o, os[j]? = some o → (f j = false ∧ o = none) ∨ (f j = true ∧ ∃ a, o = some a ∧ C j a)) ∧ Paired (fun a x => R a x H') (os.filterMap id) xs)
    ⟨Gx.new g2.t1 hD, [], [], upd_same, rfl, fun j o e => by simp at e, .nil⟩ (fun i H' _ p => hG H' (hr _ _ p.1)) (fun i x H3 H4 hi ⟨g3, os, xs, hDl, hl, hC, hR⟩ y => by
      obtain ⟨g4, hg⟩ := hY i x H3 H4 hi (hr _ _ g3) y
      have nD : ∀ q, t = some q → D ≠ q.tp := g3.notTape hD
      refine hg _ _ fun σ2 H5 g5 hT => ⟨hv i σ2 H5 hT, ?_⟩
      have g05 : Gx t H H5 := (((g1.trans g2).trans g3).trans g4).trans g5
      refine ht i σ2 H5 hi g05 hT H5 g5.here _ fun b H6 g6 eb => ?_
      subst eb
      have hzl : xs.length ≤ i := by
        rw [← paired_len hR, ← hl]
        exact List.length_filterMap_le _ _
      have app : ∀ (o : Option α), (f i = false ∧ o = none) ∨ (f i = true ∧ ∃ a, o = some a ∧ C i a) → ∀ j p, (os ++ [o])[j]? = some p → (f j = false ∧ p = none) ∨ (f j = true ∧ ∃ a, p = some a ∧ C j a) := fun o ho j p e => by
        by_cases hj : j < os.length
        · rw [List.getElem?_append_left hj] at e
          exact hC j p e
        · have hj2 : j = os.length := by
            have := (List.getElem?_eq_some_iff.mp e).1
            rw [List.length_append] at this
            simp only [List.length_cons, List.length_nil] at this
            omega
          subst hj2
          rw [List.getElem?_append_right (Nat.le_refl _), Nat.sub_self] at e
          have e' : o = p := by simpa using e
          subst e'
          rw [hl]
          exact ho
      have g36 : Gx t H3 H6 := (g4.trans g5).trans g6
      cases hf : f i with
      | true =>
        show te σ2 H6 _
        refine he i σ2 H5 H6 hi g05 hT g6 hf H6 g6.here _ fun v H7 g7 ⟨a, ca, ra⟩ => ⟨xs, (g36.trans g7).lst hDl nD, Nat.lt_of_le_of_lt hzl (Nat.lt_of_lt_of_le (Nat.lt_of_lt_of_le hi hn) (by decide)), ?_⟩
        have hD7 : H7 D = some (.lst xs) := (g36.trans g7).lst hDl nD
        refine ⟨((g3.trans g36).trans g7).mut hD, os ++ [some a], xs ++ [v], upd_same, by rw [List.length_append, hl]; rfl, app (some a) (.inr ⟨hf, a, rfl, ca⟩), ?_⟩
        rw [List.filterMap_append]
        exact paired_snoc (paired_mono ((g36.trans g7).tx.trans (Tx.lst hD7)) hR) (upx (Tx.lst hD7) ra)
      | false =>
        show Gx t H2 H6 ∧ _
        refine ⟨g3.trans g36, os ++ [none], xs, g36.lst hDl nD, by rw [List.length_append, hl]; rfl, app none (.inl ⟨hf, rfl⟩), ?_⟩
        rw [List.filterMap_append]
        show Paired _ (os.filterMap id ++ []) xs
        rw [List.append_nil]
        exact paired_mono g36.tx hR) (fun H' ⟨g3, os, xs, hDl, hl, hC, hR⟩ => q D xs H' (g2.fresh hD) (g2.trans g3) hDl ⟨os, hl, hC, hR⟩)
theorem eb_yes : EvB t tYes σ H (· = true) := fun H1 g _ q => q true H1 g.here rfl
theorem os_some {α : Type} : ∀ {os : List (Option α)} {C : Nat → α → Prop} {k : Nat}, (∀ i o, os[i]? = some o → ∃ a, o = some a ∧ C (k + i) a) → (os.filterMap id).length = os.length ∧ ∀ i a, (os.filterMap id)[i]? = some a → C (k + i) a
  | [], C, k, _ => ⟨rfl, fun i a e => by simp at e⟩
  | o :: os, C, k, h => by
    obtain ⟨a, rfl, ca⟩ := h 0 o rfl
    obtain ⟨h1, h2⟩ := os_some (os := os) (C := C) (k := k + 1) fun i o e => by
      obtain ⟨b, e1, e2⟩ := h (i + 1) o (by simpa using e)
      exact ⟨b, e1, by rw [show k + 1 + i = k + (i + 1) by omega]; exact e2⟩
    refine ⟨by show ((a :: os.filterMap id)).length = _; rw [List.length_cons, List.length_cons, h1], fun i b e => ?_⟩
    cases i with
    | zero =>
      have e' : a = b := Option.some.inj e
      subst e'
      exact ca
    | succ i =>
      have := h2 i b e
      rw [show k + 1 + i = k + (i + 1) by omega] at this
      exact this
/-- .. without a test -/
theorem ev_lc {α : Type} {wi : TI} {g : TG} {vs : List Nat} {n : Nat} {T : L2.St → Nat → L2.St → Hp → Prop} {R : α → V → Hp → Prop} [∀ a, Mo (R a)] {C : Nat → α → Prop} {Rl : Hp → Hp → Prop} (hr : ∀ H1 H2, Gx t H1 H2 → Rl H1 H2) (hw : Turns t Rl wi g σ H n T) (hn : n ≤ 100000)
    (hv : ∀ i σ2 H1, T (wipe σ vs) i σ2 H1 → wipe σ2 vs = wipe σ vs)
    (he : ∀ i σ2 H1, i < n → Gx t H H1 → T (wipe σ vs) i σ2 H1 → EvP t te σ2 H1 (fun v H => ∃ a, C i a ∧ R a v H)) :
    EvL t (tLc wi g tYes te vs) σ H (fun xs H' => ∃ as : List α, as.length = n ∧ (∀ i a, as[i]? = some a → C i a) ∧ Paired (fun a x => R a x H') as xs) := fun H1 g1 Q q =>
  ev_lcIf (C := C) (R := R) (f := fun _ => true) hr hw hn hv (fun _ _ _ _ _ _ => eb_yes) (fun i σ2 H1 H2 hi g0 hT g2 _ => (he i σ2 H1 hi g0 hT).up g2) H1 g1 Q fun p xs H2 hp g2 e ⟨os, hl, hC, hR⟩ => by
    obtain ⟨k1, k2⟩ := os_some (os := os) (C := C) (k := 0) fun i o eo => by
      rcases hC i o eo with ⟨z, _⟩ | ⟨_, z⟩
      · cases z
      · rw [Nat.zero_add]; exact z
    exact q p xs H2 hp g2 e ⟨os.filterMap id, k1.trans hl, fun i a ea => by have := k2 i a ea; rw [Nat.zero_add] at this; exact this, hR⟩
/-- tuple([..]) : a fresh tuple, its object known -/
theorem ev_tupF {α : Type} {R : α → V → Hp → Prop} [∀ a, Mo (R a)] {A : List α → Prop} (h : EvL t te σ H (fun xs H' => ∃ as : List α, A as ∧ Paired (fun a x => R a x H') as xs)) :
    EvP t (tCB (fun xs H Q => ∃ (p : Addr) (ys : List V), xs = [.ref p] ∧ SqL K H p ys ∧ ∀ l its n, H l = none → Q (.ref l) (upd H l (.frz { cls := .type "tuple", data := .seq its n } (.tup ys)))) (tCons te tNil)) σ H (fun v H => ∃ as, A as ∧ TupF R as v H) := fun H1 g Q q =>
  h H1 g _ fun p xs H2 hp1 g2 hx ⟨as, ha, hr⟩ => ⟨p, xs, rfl, SqL.of hx, fun l its n hl => q _ _ (g2.trans (Gx.new g2.t1 hl)) ⟨as, ha, l, xs, its, n, rfl, upd_same, paired_mono (Gx.new (t := t) g2.t1 hl).tx hr⟩⟩
/-- all([..]) of truths -/
theorem ev_all (h : EvL t te σ H (fun xs H' => ∃ as : List Bool, (∀ (i : Nat) (b : Bool), as[i]? = some b → b = true) ∧ Paired (fun a x => Is (.bl a) x H') as xs)) : EvP t (tCB (rAll K) (tCons te tNil)) σ H (Is (.bl true)) := fun H1 g Q q =>
  h H1 g _ fun p xs H2 hp1 g2 hx ⟨as, ha, hr⟩ => by
    have e : ∀ {as : List Bool} {xs : List V}, Paired (fun a x => Is (.bl a) x H2) as xs → xs = as.map V.bl := by
      intro as xs h
      induction h with
      | nil => rfl
      | cons a b ih => rw [List.map_cons, ← ih, a]
    have e2 : as.all id = true := List.all_eq_true.mpr fun b hb => by
      obtain ⟨i, hi, eb⟩ := List.mem_iff_getElem.mp hb
      exact ha i b (by rw [List.getElem?_eq_getElem hi, eb])
    refine ⟨p, as, rfl, by rw [← e hr]; exact SqL.of hx, ?_⟩
    rw [e2]
    exact q _ H2 g2 rfl

/-! ### loops -/
variable {D : Ends} {ts tv : TS}
/-- a for: Pv by the heap at the start, the turn, the slots and the heap; the body is read behind the store -/
theorem s_for {wi : TI} {g : TG} {n : Nat} {T : L2.St → Nat → L2.St → Hp → Prop} {Rl : Hp → Hp → Prop} (hT : TapeOk t H) (hw : Turns t Rl wi g σ H n T) (Pv : Hp → Nat → L2.St → Hp → Prop) (h0 : ∀ H1, Gx t H H1 → Pv H1 0 σ H1)
    (hG : ∀ H1 i σ1 H2, Gx t H H1 → Pv H1 i σ1 H2 → Rl H1 H2)
    (hs : ∀ H0 i σ1 σ2 H1 H2, i < n → Gx t H H0 → Pv H0 i σ1 H1 → Gx t H1 H2 → T σ1 i σ2 H2 → ts { D with nx := Pv H0 (i + 1), ct := Pv H0 (i + 1), bk := D.nx } σ2 H2) (hd : ∀ H0 σ1 H1, Gx t H H0 → Pv H0 n σ1 H1 → D.nx σ1 H1) : tFor wi g ts D σ H := by
  refine hw H (Gx.refl hT) _ fun J G Y H2 g2 W hG' hY => ?_
  exact for_it W (Pv H2) (h0 H2 g2) (fun i σ1 H' _ p => hG' H' (hG H2 i σ1 H' g2 p)) (fun i x σ1 H3 H4 hi p y => by
    obtain ⟨g4, hg⟩ := hY i x H3 H4 hi (hG H2 i σ1 H3 g2 p) y
    exact hg σ1 _ fun σ2 H5 g5 hT5 => hs H2 i σ1 σ2 H3 H5 hi g2 p (g4.trans g5) hT5) fun σ1 H' p => hd H2 σ1 H' g2 p
theorem q_for {wi : TI} {g : TG} {n : Nat} {T : L2.St → Nat → L2.St → Hp → Prop} {Rl : Hp → Hp → Prop} (hT : TapeOk t H) (hw : Turns t Rl wi g σ H n T) (Pv : Hp → Nat → L2.St → Hp → Prop) (h0 : ∀ H1, Gx t H H1 → Pv H1 0 σ H1)
    (hG : ∀ H1 i σ1 H2, Gx t H H1 → Pv H1 i σ1 H2 → Rl H1 H2)
    (hs : ∀ H0 i σ1 σ2 H1 H2, i < n → Gx t H H0 → Pv H0 i σ1 H1 → Gx t H1 H2 → T σ1 i σ2 H2 → ts { D with nx := Pv H0 (i + 1), ct := Pv H0 (i + 1), bk := tv D } σ2 H2) (hd : ∀ H0 σ1 H1, Gx t H H0 → Pv H0 n σ1 H1 → tv D σ1 H1) : tSeq (tFor wi g ts) tv D σ H :=
  s_for (D := { D with nx := tv D }) hT hw Pv h0 hG hs hd
end
end CZ
/-! Tables of terms: put, sorted, gathered. -/
namespace CZ
open PySem PySem.Spec PyProof.Rows L2
abbrev lt : Mon → Mon → Bool := HT.lexLt
theorem lt_asym : ∀ x y, lt x y = true → lt y x = false := NtL.lex_asym
theorem lt_tri : ∀ {x y : Mon}, lt x y = false → lt y x = false → x = y
  | [], [], _, _ => rfl
  | [], y :: ys, h, _ => by rw [show lt [] (y :: ys) = true from rfl] at h; cases h
  | x :: xs, [], _, h => by rw [show lt [] (x :: xs) = true from rfl] at h; cases h
  | x :: xs, y :: ys, h, k => by
    rw [show lt (x :: xs) (y :: ys) = if x = y then lt xs ys else decide (x < y) from rfl] at h
    rw [show lt (y :: ys) (x :: xs) = if y = x then lt ys xs else decide (y < x) from rfl] at k
    by_cases e : x = y
    · subst e
      rw [if_pos rfl] at h k
      rw [lt_tri h k]
    · rw [if_neg e] at h
      rw [if_neg fun z => e z.symm] at k
      have h1 := of_decide_eq_false h
      have h2 := of_decide_eq_false k
      omega
theorem nlt_trans : ∀ {x y z : Mon}, lt x y = false → lt y z = false → lt x z = false
  | x, y, [], _, _ => by cases x <;> rfl
  | x, [], z :: zs, _, h => by rw [show lt [] (z :: zs) = true from rfl] at h; cases h
  | [], y :: ys, z :: zs, h, _ => by rw [show lt [] (y :: ys) = true from rfl] at h; cases h
  | x :: xs, y :: ys, z :: zs, h, k => by
    rw [show lt (x :: xs) (y :: ys) = if x = y then lt xs ys else decide (x < y) from rfl] at h
    rw [show lt (y :: ys) (z :: zs) = if y = z then lt ys zs else decide (y < z) from rfl] at k
    rw [show lt (x :: xs) (z :: zs) = if x = z then lt xs zs else decide (x < z) from rfl]
    by_cases e1 : x = y
    · subst e1
      rw [if_pos rfl] at h
      by_cases e2 : x = z
      · subst e2
        rw [if_pos rfl] at k ⊢
        exact nlt_trans h k
      · rw [if_neg e2] at k ⊢
        exact k
    · rw [if_neg e1] at h
      have h1 := of_decide_eq_false h
      by_cases e2 : y = z
      · subst e2
        rw [if_neg e1]
        exact h
      · rw [if_neg e2] at k
        have h2 := of_decide_eq_false k
        rw [if_neg (by omega)]
        exact decide_eq_false (by omega)
def sorted (ms : List Mon) : List Mon := ms.mergeSort fun x y => !lt x y
theorem sorted_perm (ms : List Mon) : (sorted ms).Perm ms := List.mergeSort_perm _ _
theorem sorted_pw (ms : List Mon) : (sorted ms).Pairwise fun x y => lt x y = false := by
  have h := List.pairwise_mergeSort (le := fun x y => !lt x y) (fun a b c h k => by
    have h' : lt a b = false := by simpa using h
    have k' : lt b c = false := by simpa using k
    simpa using nlt_trans h' k') (fun a b => by
    cases e : lt a b with
    | false => simp
    | true => simp [lt_asym a b e]) ms
  exact h.imp fun {a b} h => by simpa using h
theorem sorted_uniq {ks ms : List Mon} (p : ks.Perm ms) (w : ks.Pairwise fun x y => lt x y = false) : ks = sorted ms :=
  List.Perm.eq_of_pairwise (fun a b _ _ h k => lt_tri h k) w (sorted_pw ms) (p.trans (sorted_perm ms).symm)

/-! ### put -/
def putM : Pl → Mon → Rat → Pl
  | [], m, q => [(m, q)]
  | s :: T, m, q => if s.1 = m then (m, q) :: T else s :: putM T m q
def getM : Pl → Mon → Option Rat
  | [], _ => none
  | s :: T, m => if s.1 = m then some s.2 else getM T m
theorem putM_mem : ∀ {T : Pl} {m : Mon} {q : Rat} {s : Tm}, s ∈ putM T m q → s = (m, q) ∨ s ∈ T
  | [], m, q, s, h => .inl (List.mem_singleton.mp h)
  | t :: T, m, q, s, h => by
    unfold putM at h
    by_cases e : t.1 = m
    · rw [if_pos e] at h
      exact (List.mem_cons.mp h).imp id fun k => List.mem_cons_of_mem _ k
    · rw [if_neg e] at h
      rcases List.mem_cons.mp h with k | k
      · exact .inr (k ▸ List.mem_cons_self)
      · exact (putM_mem k).imp id fun k => List.mem_cons_of_mem _ k
theorem putM_len : ∀ (T : Pl) (m : Mon) (q : Rat), (putM T m q).length ≤ T.length + 1
  | [], m, q => Nat.le_refl _
  | t :: T, m, q => by
    unfold putM
    by_cases e : t.1 = m
    · rw [if_pos e]; simp
    · rw [if_neg e, List.length_cons, List.length_cons]
      have := putM_len T m q
      omega
theorem putM_nodup : ∀ {T : Pl} {m : Mon} {q : Rat}, (T.map (·.1)).Nodup → ((putM T m q).map (·.1)).Nodup
  | [], m, q, _ => by simp [putM]
  | t :: T, m, q, h => by
    unfold putM
    rw [List.map_cons] at h
    obtain ⟨h1, h2⟩ := List.nodup_cons.mp h
    by_cases e : t.1 = m
    · rw [if_pos e, List.map_cons]
      rw [e] at h1
      exact List.nodup_cons.mpr ⟨h1, h2⟩
    · rw [if_neg e, List.map_cons]
      refine List.nodup_cons.mpr ⟨fun k => ?_, putM_nodup h2⟩
      obtain ⟨s, hs, es⟩ := List.mem_map.mp k
      rcases putM_mem hs with z | z
      · rw [z] at es
        exact e es.symm
      · exact h1 (List.mem_map.mpr ⟨s, z, es⟩)
theorem ev_put (f : Mon → Rat) (m : Mon) (q : Rat) : ∀ T : Pl, ev f (putM T m ((getM T m).getD 0 + q)) = ev f T + q * f m
  | [] => by
    show (0 + q) * f m + 0 = 0 + q * f m
    grind
  | t :: T => by
    have ih := ev_put f m q T
    unfold putM getM
    by_cases e : t.1 = m
    · rw [if_pos e, if_pos e, ev_cons, ev_cons, e]
      show (t.2 + q) * f m + _ = _
      grind
    · rw [if_neg e, if_neg e, ev_cons, ev_cons, ih]
      grind
theorem getM_mem : ∀ {T : Pl} {m : Mon} {q : Rat}, getM T m = some q → (m, q) ∈ T
  | [], _, _, h => nomatch h
  | t :: T, m, q, h => by
    unfold getM at h
    by_cases e : t.1 = m
    · rw [if_pos e] at h
      have e2 : t.2 = q := Option.some.inj h
      rw [← e, ← e2]
      exact List.mem_cons_self
    · rw [if_neg e] at h
      exact List.mem_cons_of_mem _ (getM_mem h)
theorem getM_of : ∀ {T : Pl} {s : Tm}, (T.map (·.1)).Nodup → s ∈ T → getM T s.1 = some s.2
  | t :: T, s, hn, h => by
    rw [List.map_cons] at hn
    obtain ⟨h1, h2⟩ := List.nodup_cons.mp hn
    unfold getM
    rcases List.mem_cons.mp h with e | h
    · rw [e, if_pos rfl]
    · rw [if_neg fun e => h1 (List.mem_map.mpr ⟨s, h, e.symm⟩), getM_of h2 h]
/-- the table's terms, sorted -/
def sortT (T : Pl) : Pl := (sorted (T.map (·.1))).map fun m => (m, (getM T m).getD 0)
def gath (T : Pl) : Pl := (sortT T).filter fun t => decide (t.2 ≠ 0)
theorem sortT_perm {T : Pl} (hn : (T.map (·.1)).Nodup) : (sortT T).Perm T := by
  have h : (T.map (·.1)).map (fun m => (m, (getM T m).getD 0)) = T := by
    rw [List.map_map]
    refine (List.map_congr_left (g := id) fun s hs => ?_).trans (List.map_id _)
    show (s.1, (getM T s.1).getD 0) = s
    rw [getM_of hn hs]
    rfl
  have := (sorted_perm (T.map (·.1))).map fun m => (m, (getM T m).getD 0)
  rw [h] at this
  exact this
theorem gath_ev {T : Pl} (hn : (T.map (·.1)).Nodup) (f : Mon → Rat) : ev f (gath T) = ev f T := by
  unfold gath
  rw [ev_filter, ev_perm f (sortT_perm hn)]
theorem gath_mem {T : Pl} (hn : (T.map (·.1)).Nodup) {s : Tm} (h : s ∈ gath T) : s ∈ T := (sortT_perm hn).mem_iff.mp (List.mem_filter.mp h).1
theorem gath_cn {T : Pl} (hn : (T.map (·.1)).Nodup) : Cn lt (gath T) := by
  have hs : (sortT T).Pairwise fun s t => lt t.1 s.1 = true := by
    unfold sortT
    rw [List.pairwise_map]
    have h2 : (sorted (T.map (·.1))).Pairwise (· ≠ ·) := (sorted_perm _).nodup_iff.mpr hn
    refine ((sorted_pw (T.map (·.1))).and h2).imp fun {a b} h => ?_
    obtain ⟨h1, h2⟩ := h
    show lt b a = true
    cases e : lt b a with
    | true => rfl
    | false => exact absurd (lt_tri h1 e) h2
  exact ⟨hs.filter _, fun t ht => of_decide_eq_true (List.mem_filter.mp ht).2⟩
theorem gath_len {T : Pl} (hn : (T.map (·.1)).Nodup) : (gath T).length ≤ T.length := by
  unfold gath
  have := List.length_filter_le (fun t : Tm => decide (t.2 ≠ 0)) (sortT T)
  rw [(sortT_perm hn).length_eq] at this
  exact this
theorem gath_po {T : Pl} {n M C N : Nat} {e : Int} (hn : (T.map (·.1)).Nodup) (h : Po n M C N e T) : Po n M C N e (gath T) :=
  ⟨Nat.le_trans (gath_len hn) h.len, fun t ht => h.cf t (gath_mem hn ht), fun t ht => h.mon t (gath_mem hn ht)⟩

/-! ### the dict -/
def Tab (K : PySem.W.Frag) (T : Pl) (kvs : List (List L2.Key × V)) (H : Hp) : Prop := Paired (fun (s : Tm) (kv : List L2.Key × V) => kv.1 = inl' s.1 ∧ IsRat K s.2 kv.2 H) T kvs
theorem Tab.up {K : PySem.W.Frag} {H H' : Hp} (g : Tx H H') : ∀ {T : Pl} {kvs : List (List L2.Key × V)}, Tab K T kvs H → Tab K T kvs H'
  | _, _, .nil => .nil
  | _, _, .cons h t => .cons ⟨h.1, upx g h.2⟩ (Tab.up g t)
theorem inl_inj {m n : Mon} (h : inl' m = inl' n) : m = n := by
  have := congrArg unl h
  rwa [unl_inl, unl_inl] at this
theorem Tab.keys {K : PySem.W.Frag} {H : Hp} : ∀ {T : Pl} {kvs : List (List L2.Key × V)}, Tab K T kvs H → kvs.map (·.1) = (T.map (·.1)).map inl'
  | _, _, .nil => rfl
  | _, _, .cons h t => by rw [List.map_cons, List.map_cons, List.map_cons, h.1, Tab.keys t]
theorem Tab.get {K : PySem.W.Frag} {H : Hp} (m : Mon) : ∀ {T : Pl} {kvs : List (List L2.Key × V)}, Tab K T kvs H → (getM T m = none ∧ valV kvs (inl' m) = none) ∨ ∃ q v, getM T m = some q ∧ valV kvs (inl' m) = some v ∧ IsRat K q v H
  | _, _, .nil => .inl ⟨rfl, rfl⟩
  | _, _, .cons (a := s) (b := kv) h t => by
    unfold getM
    by_cases e : s.1 = m
    · rw [if_pos e, valV_pos (by rw [h.1, e])]
      exact .inr ⟨_, _, rfl, rfl, h.2⟩
    · rw [if_neg e, valV_neg (fun z => e (inl_inj (h.1.symm.trans z)))]
      exact Tab.get m t
theorem putK_pos {kv : List L2.Key × V} {r : List (List L2.Key × V)} {k : List L2.Key} {v : V} (e : kv.1 = k) (h : valV r k = none) : putK (kv :: r) k v = (k, v) :: r := by
  unfold putK
  have e1 : ((kv :: r).any fun kv => decide (kv.1 = k)) = true := by simp [e]
  rw [if_pos e1, List.map_cons, if_pos e, e]
  congr 1
  refine (List.map_congr_left (g := id) fun x hx => ?_).trans (List.map_id _)
  have : (r.any fun kv => decide (kv.1 = k)) = false := by rw [valV_any, h]; rfl
  have h2 : decide (x.1 = k) = false := by
    cases e : decide (x.1 = k) with
    | false => rfl
    | true =>
      have : (r.any fun kv => decide (kv.1 = k)) = true := List.any_eq_true.mpr ⟨x, hx, e⟩
      simp_all
  rw [if_neg (of_decide_eq_false h2)]
  rfl
theorem putK_neg {kv : List L2.Key × V} {r : List (List L2.Key × V)} {k : List L2.Key} {v : V} (e : ¬ kv.1 = k) : putK (kv :: r) k v = kv :: putK r k v := by
  unfold putK
  rw [List.any_cons, decide_eq_false e, Bool.false_or]
  split
  · rw [List.map_cons, if_neg e]
  · rfl
theorem Tab.put {K : PySem.W.Frag} {H : Hp} {m : Mon} {q : Rat} {v : V} (hv : IsRat K q v H) : ∀ {T : Pl} {kvs : List (List L2.Key × V)}, Tab K T kvs H → (T.map (·.1)).Nodup → Tab K (putM T m q) (putK kvs (inl' m) v) H
  | _, _, .nil, _ => .cons ⟨rfl, hv⟩ .nil
  | _, _, .cons (a := s) (l₁ := T) (b := kv) (l₂ := r) h t, hn => by
    rw [List.map_cons] at hn
    obtain ⟨h1, h2⟩ := List.nodup_cons.mp hn
    unfold putM
    by_cases e : s.1 = m
    · rw [if_pos e, putK_pos (h.1.trans (by rw [e]))]
      · exact .cons ⟨rfl, hv⟩ t
      · rcases Tab.get (m := m) t with ⟨_, z⟩ | ⟨q', v', z, _⟩
        · exact z
        · exact absurd (List.mem_map.mpr ⟨_, getM_mem z, e.symm⟩) h1
    · rw [if_neg e, putK_neg (fun z => e (inl_inj (h.1.symm.trans z)))]
      exact .cons h (Tab.put hv t h2)
end CZ
/-! The text by places; a def as it stands; calls of defs by their promises; built-ins. -/
namespace CZ
open PySem PySem.Spec PyProof.Rows L2
def topS (i : Nat) : Stmt := PySem.Challenge.pw_commonzeros_k16_whole_multiples.main.body.getD i (.Pass ⟨0, 0, 0, 0⟩)
/-- a def of the text, at its name -/
def DefAt (K : PySem.W.Frag) (mg : Str → Option Value) (x : Str) (ps : List Str) (st : Stmt) : Prop := ∃ f fd, Fun K x x st f fd ∧ mg x = some (.ref f) ∧ Binds K fd ps []
/-- a def that keeps a promise, at its name -/
def Cal (P : Program) (w : World) (K : PySem.W.Frag) (mg : Str → Option Value) (base : Heap) (C : CXT) (k : Nat) (x : Str) (ps : List Str) (sp : Sp) : Prop :=
  ∃ f fd, FnOk P w K mg base C k f fd ps sp ∧ mg x = some (.ref f) ∧ PySem.W.keepIn K (.ref f) = true ∧ Binds K fd ps []
theorem Cal.mono {P : Program} {w : World} {K : PySem.W.Frag} {mg : Str → Option Value} {base : Heap} {C : CXT} {j k : Nat} {x : Str} {ps : List Str} {sp : Sp} (c : Cal P w K mg base C j x ps sp) (h : j ≤ k) : Cal P w K mg base C k x ps sp := by
  obtain ⟨f, fd, F, m, kp, b⟩ := c
  exact ⟨f, fd, F.mono h, m, kp, b⟩
theorem pe_cal {X : Cx} {k : Nat} {x : Str} {ps : List Str} {sp : Sp} {e : Expr} {es : List Expr} {t : TA} {p pos : Pos} (c : Cal X.prog X.w X.K X.mg X.base CX0 k x ps sp) (hr : Room k X.A) (ha : PA X (e :: es) t) (hg : Gl X x := by rfl)
    (hd : (x == ("__debug__" : Str)) = false := by decide) (he : starEach (e :: es) X.env = (false, eval e X.env) :: starEach es X.env := by rfl) (hpl : (backTo pos (starEach es X.env)).any (·.1) = false := by rfl) :
    PE X (.Call (.Name x p) (e :: es) [] pos) (tCall sp [] E0 t) := by
  obtain ⟨f, fd, F, m, kp, b⟩ := c
  exact pe_call F hr hg m kp b .nil pass0 ha hd he hpl
/-- the built-ins' names are not the module's -/
structure Blt (mg : Str → Option Value) : Prop where
  abs : mg "abs" = none
  all : mg "all" = none
  bool : mg "bool" = none
  dict : mg "dict" = none
  int : mg "int" = none
  isinstance : mg "isinstance" = none
  len : mg "len" = none
  range : mg "range" = none
  sorted : mg "sorted" = none
  tuple : mg "tuple" = none
  zip : mg "zip" = none
/-- a constant of the module: a pair of ints -/
def CstAt (K : PySem.W.Frag) (mg : Str → Option Value) (x : Str) (i j : Int) : Prop := ∃ a, mg x = some (.ref a) ∧ ∀ H, SqT K H a [.int i, .int j]
theorem boot_abs : bootBuiltins "abs" = some (.builtin "abs") := by decide +kernel
theorem boot_all : bootBuiltins "all" = some (.builtin "all") := by decide +kernel
theorem boot_sorted : bootBuiltins "sorted" = some (.builtin "sorted") := by decide +kernel

section
variable {t : TT'} {K : PySem.W.Frag} {σ : L2.St} {H : Hp} {ta tb te : TE}
theorem ev_isi {x c : V} {T u : Value} {b : Bool} (h1 : EvP t ta σ H (Is x)) (h2 : EvP t tb σ H (Is c)) (k : ClsV c u) (ty : ∀ H1, Gx t H H1 → TyX K H1 x T) (e : PySem.W.kitOne K T u = some b) :
    EvP t (tCB (rIsi K) (tCons ta (tCons tb tNil))) σ H (Is (.bl b)) := fun H1 g Q q =>
  h1 H1 g _ fun v H2 g2 e1 => h2 H2 (g.trans g2) _ fun w H3 g3 e2 => ⟨x, c, T, u, b, by rw [e1, e2], k, ty H3 ((g.trans g2).trans g3), e, q _ H3 (g2.trans g3) rfl⟩
theorem tyX_of {a : Addr} {xs : List V} {t : TT'} {H H1 : Hp} (g : Gx t H H1) (h : SqT K H a xs) : TyX K H1 (.ref a) (.type "tuple") := by
  rcases g.sqT h with (h | ⟨o, h⟩) | ⟨o, its, n, h, c, _⟩
  · exact .base (.tup h)
  · exact .fTuple h
  · exact .kTuple h c
theorem ev_isTuple {a : Addr} {xs : List V} (h1 : EvP t ta σ H (Is (.ref a))) (h : SqT K H a xs) : EvP t (tCB (rIsi K) (tCons ta (tCons (tC (.ty "tuple")) tNil))) σ H (Is (.bl true)) :=
  ev_isi h1 (ev_c rfl) (.ty _) (fun H1 g => tyX_of g h) (kit_ty (by decide +kernel))
theorem ev_isInt {i : Int} (h1 : EvP t ta σ H (Is (.int i))) : EvP t (tCB (rIsi K) (tCons ta (tCons (tC (.ty "int")) tNil))) σ H (Is (.bl true)) :=
  ev_isi h1 (ev_c rfl) (.ty _) (fun H1 g => .base (.int i)) (kit_ty (by decide +kernel))
theorem ev_isBool {i : Int} (h1 : EvP t ta σ H (Is (.int i))) : EvP t (tCB (rIsi K) (tCons ta (tCons (tC (.ty "bool")) tNil))) σ H (Is (.bl false)) :=
  ev_isi h1 (ev_c rfl) (.ty _) (fun H1 g => .base (.int i)) (kit_ty (by decide +kernel))
theorem ev_lenT {a : Addr} {xs : List V} (h1 : EvP t ta σ H (Is (.ref a))) (h : SqT K H a xs) : EvP t (tCB (fun xs H Q => ∃ p ys, xs = [.ref p] ∧ (SqL K H p ys ∨ SqT K H p ys) ∧ Q (.int ys.length) H) (tCons ta tNil)) σ H (IsIn (· = (xs.length : Int))) := fun H1 g Q q =>
  h1 H1 g _ fun v H2 g2 e1 => ⟨a, xs, by rw [e1], .inr ((g.trans g2).sqT h), q _ H2 g2 ⟨_, rfl, rfl⟩⟩
theorem ev_lenL {a : Addr} {xs : List V} (h1 : EvP t ta σ H (Is (.ref a))) (h : H a = some (.lst xs)) (hn : ∀ q, t = some q → a ≠ q.tp) :
    EvP t (tCB (fun xs H Q => ∃ p ys, xs = [.ref p] ∧ (SqL K H p ys ∨ SqT K H p ys) ∧ Q (.int ys.length) H) (tCons ta tNil)) σ H (IsIn (· = (xs.length : Int))) := fun H1 g Q q =>
  h1 H1 g _ fun v H2 g2 e1 => ⟨a, xs, by rw [e1], .inl (SqL.of ((g.trans g2).lst h hn)), q _ H2 g2 ⟨_, rfl, rfl⟩⟩
theorem ev_abs {i : Int} (h1 : EvP t ta σ H (IsIn (· = i))) : EvP t (tCB (fun xs H Q => ∃ i, xs = [.int i] ∧ Q (.int (if i < 0 then -i else i)) H) (tCons ta tNil)) σ H (IsIn (· = (i.natAbs : Int))) := fun H1 g Q q =>
  h1 H1 g _ fun v H2 g2 ⟨j, e1, e2⟩ => ⟨j, by rw [e1], q _ H2 g2 ⟨_, rfl, by rw [e2]; split <;> omega⟩⟩
end
end CZ
/-! Counts, ratios, powers, terms. -/
namespace CZ
open PySem PySem.Spec PyProof.Rows L2
theorem pss_dead {X : Cx} {l : List Stmt} : PSs X l (fun _ _ _ => False) := ⟨fun _ _ _ _ _ _ h => h.elim⟩
theorem pe_dead {X : Cx} {e : Expr} : PE X e (fun _ _ _ => False) := ⟨fun _ _ _ _ _ _ h => h.elim⟩
section
variable {t : TT'} {σ : L2.St} {H : Hp} {D : Ends} {tt : TT} {tb : TS}
theorem s_while (W : Nat → L2.St → Hp → Prop) {m0 : Nat} (h0 : W m0 σ H)
    (hs : ∀ m σ1 H1, W m σ1 H1 → ∃ B : Bool → Prop, TapeOk t H1 ∧ EvB t tt σ1 H1 B ∧ (B true → ∀ H2, Gx t H1 H2 → tb { D with nx := fun σ' H' => ∃ m', m' < m ∧ W m' σ' H', ct := fun σ' H' => ∃ m', m' < m ∧ W m' σ' H', bk := D.nx } σ1 H2) ∧ (B false → ∀ H2, Gx t H1 H2 → D.nx σ1 H2)) : tWhile tt tb D σ H := by
  refine ⟨W, ⟨m0, h0⟩, fun m σ1 H1 w => ?_⟩
  obtain ⟨B, hT, hb, h1, h2⟩ := hs m σ1 H1 w
  refine hb H1 (Gx.refl hT) _ fun b H2 g p => ?_
  cases b with
  | true => exact ⟨_, fun _ _ z => z, h1 p H2 g⟩
  | false => exact h2 p H2 g
theorem q_while {tv : TS} (W : Nat → L2.St → Hp → Prop) {m0 : Nat} (h0 : W m0 σ H)
    (hs : ∀ m σ1 H1, W m σ1 H1 → ∃ B : Bool → Prop, TapeOk t H1 ∧ EvB t tt σ1 H1 B ∧ (B true → ∀ H2, Gx t H1 H2 → tb { D with nx := fun σ' H' => ∃ m', m' < m ∧ W m' σ' H', ct := fun σ' H' => ∃ m', m' < m ∧ W m' σ' H', bk := tv D } σ1 H2) ∧ (B false → ∀ H2, Gx t H1 H2 → tv D σ1 H2)) : tSeq (tWhile tt tb) tv D σ H :=
  s_while (D := { D with nx := tv D }) W h0 hs
theorem s_par {i j : Nat} {tA : TA} {PA : List V → Hp → Prop} (hT : TapeOk t H) (h : EvA t tA σ H PA) (k : ∀ vs H1, Gx t H H1 → PA vs H1 → ∃ v w, vs = [v, w] ∧ D.nx ((σ.set i (some v)).set j (some w)) H1) : tPar i j tA D σ H := h H (Gx.refl hT) _ fun vs H1 g p => k vs H1 g p
end
theorem natAbs_lt {i : Int} {n : Nat} (h : i.natAbs < n) : i.natAbs < n := h
section
variable {P : Program} {w : World} {K : PySem.W.Frag} {mg : Str → Option Value} {base : Heap}
/-! ### is_count -/
theorem sc9 : FnScope ["thing"] ["thing"] (defScope (topS 9)) := ⟨rfl, rfl, rfl, by decide +kernel, rfl, by decide +kernel, by decide +kernel⟩
def spCount : Sp := fun vs H Q _ => ∃ i, vs = [.int i] ∧ After none H Q (Is (.bl true))
theorem ok_is_count (bl : Blt mg) (d : DefAt K mg "is_count" ["thing"] (topS 9)) : Cal P w K mg base CX0 1 "is_count" ["thing"] spCount := by
  obtain ⟨f, fd, F, m, b⟩ := d
  refine ⟨f, fd, F.ok sc9 (fun vs H Q E h => ?_) (fun cdv A outer s H vs Q E hr h => ?_), m, F.kp, b⟩
  · obtain ⟨i, rfl, _⟩ := h; rfl
  · obtain ⟨i, rfl, q⟩ := h
    refine ⟨_, pss_one (ps_ret (pe_and (pe_callB call_isi (by rfl) bl.isinstance boot_isinstance (pa_cons (pv 0) (pa_cons (pe_bltn (v := .ty "int") rfl bl.int boot_int rfl) pa_nil)))
      (pe_one (pe_not (pe_callB call_isi (by rfl) bl.isinstance boot_isinstance (pa_cons (pv 0) (pa_cons (pe_bltn (v := .ty "bool") rfl bl.bool boot_bool rfl) pa_nil))))))), ?_⟩
    exact s_ret (t := none) trivial (ev_andT (ev_isInt (ev_vis rfl)) (ev_notV (b := false) (ev_isBool (ev_vis rfl)))) q
/-! ### shared -/
theorem sc10 : FnScope ["one", "other"] ["one", "other"] (defScope (topS 10)) := ⟨rfl, rfl, rfl, by decide +kernel, rfl, by decide +kernel, by decide +kernel⟩
def spGcd : Sp := fun vs H Q _ => ∃ a b : Nat, vs = [.int a, .int b] ∧ After none H Q (IsIn (· = ((Nat.gcd a b : Nat) : Int)))
theorem gcd_step {a b : Nat} (h : 0 < b) : Nat.gcd b (a % b) = Nat.gcd a b := by
  rw [Nat.gcd_comm, ← Nat.gcd_rec, Nat.gcd_comm]
theorem ok_shared (d : DefAt K mg "shared" ["one", "other"] (topS 10)) : Cal P w K mg base CX0 1 "shared" ["one", "other"] spGcd := by
  obtain ⟨f, fd, F, m, b⟩ := d
  refine ⟨f, fd, F.ok sc10 (fun vs H Q E h => ?_) (fun cdv A outer s H vs Q E hr h => ?_), m, F.kp, b⟩
  · obtain ⟨_, _, rfl, _⟩ := h; rfl
  · obtain ⟨a, b, rfl, q⟩ := h
    refine ⟨_, pss_cons (ps_while PassesOwn.never (pt_cmpR op_gt (pv 1) pe_int (nomark _)) (pss_one (ps_par (i := 0) (j := 1) rfl sc10.nd rfl rfl (by decide) rfl rfl (pa_cons (pv 1) (pa_cons (pe_op op_mod (pv 0) (pv 1)) pa_nil)) rfl)))
      (pss_one (ps_ret (pv 0))), ?_⟩
    refine q_while (t := none) (fun m σ1 H1 => ∃ x y : Nat, y = m ∧ Nat.gcd x y = Nat.gcd a b ∧ σ1 = [some (.int x), some (.int y)] ∧ Gx none H H1) (m0 := b) ⟨a, b, rfl, rfl, rfl, Gx.refl trivial⟩ fun m σ1 H1 hw => ?_
    obtain ⟨x, y, rfl, hg, rfl, g⟩ := hw
    refine ⟨(· = decide (0 < (y : Int))), trivial, eb_testE (ev_cmpE (f := fun i j => decide (j < i)) (ev_var rfl ⟨_, rfl, rfl⟩) ev_int), fun hb H2 g2 => ?_, fun hb H2 g2 => ?_⟩
    · have hy : 0 < y := by have := of_decide_eq_true hb.symm; omega
      refine s_par (t := none) trivial (ea_2 (P1 := IsIn (· = (y : Int))) (P2 := IsIn (· = ((x % y : Nat) : Int))) (ev_var rfl ⟨_, rfl, rfl⟩) (ev_rI (A := (· = (x : Int))) (B := (· = (y : Int))) (ev_var rfl ⟨_, rfl, rfl⟩) (ev_var rfl ⟨_, rfl, rfl⟩) fun i j H3 _ e1 e2 => ?_)) fun vs H3 g3 ⟨v, u, e, ⟨_, e1, e2⟩, ⟨_, e3, e4⟩⟩ => ?_
      · subst e1; subst e2
        exact ⟨by omega, _, rfl, by rw [Int.natCast_emod]⟩
      · subst e1; subst e2; subst e3; subst e4
        exact ⟨_, _, e, x % y, Nat.mod_lt _ hy, y, x % y, rfl, (gcd_step hy).trans hg, rfl, (g.trans g2).trans g3⟩
    · have hy : y = 0 := by
        have := of_decide_eq_false hb.symm; omega
      subst hy
      refine s_ret (t := none) trivial (ev_var (P := IsIn (· = ((Nat.gcd a b : Nat) : Int))) rfl ⟨_, rfl, ?_⟩) fun v H3 g3 p => q v H3 ((g.trans g2).trans g3) p
      rw [← hg, Nat.gcd_zero_right]
/-! ### _law_gcd -/
theorem sc31 : FnScope ["_law_one", "_law_other"] ["_law_one", "_law_other"] (defScope (topS 31)) := ⟨rfl, rfl, rfl, by decide +kernel, rfl, by decide +kernel, by decide +kernel⟩
theorem ok_law_gcd (d : DefAt K mg "_law_gcd" ["_law_one", "_law_other"] (topS 31)) : Cal P w K mg base CX0 1 "_law_gcd" ["_law_one", "_law_other"] spGcd := by
  obtain ⟨f, fd, F, m, b⟩ := d
  refine ⟨f, fd, F.ok sc31 (fun vs H Q E h => ?_) (fun cdv A outer s H vs Q E hr h => ?_), m, F.kp, b⟩
  · obtain ⟨_, _, rfl, _⟩ := h; rfl
  · obtain ⟨a, b, rfl, q⟩ := h
    refine ⟨_, pss_cons (ps_while PassesOwn.never (pt_cmpR op_ne (pv 1) pe_int (nomark _)) (pss_one (ps_par (i := 0) (j := 1) rfl sc31.nd rfl rfl (by decide) rfl rfl (pa_cons (pv 1) (pa_cons (pe_op op_mod (pv 0) (pv 1)) pa_nil)) rfl)))
      (pss_one (ps_ret (pv 0))), ?_⟩
    refine q_while (t := none) (fun m σ1 H1 => ∃ x y : Nat, y = m ∧ Nat.gcd x y = Nat.gcd a b ∧ σ1 = [some (.int x), some (.int y)] ∧ Gx none H H1) (m0 := b) ⟨a, b, rfl, rfl, rfl, Gx.refl trivial⟩ fun m σ1 H1 hw => ?_
    obtain ⟨x, y, rfl, hg, rfl, g⟩ := hw
    refine ⟨(· = !decide ((y : Int) = 0)), trivial, eb_testE (ev_neE (ev_var rfl ⟨_, rfl, rfl⟩) ev_int), fun hb H2 g2 => ?_, fun hb H2 g2 => ?_⟩
    · have hy : 0 < y := by
        have : ¬ (y : Int) = 0 := by intro z; rw [decide_eq_true z] at hb; cases hb
        omega
      refine s_par (t := none) trivial (ea_2 (P1 := IsIn (· = (y : Int))) (P2 := IsIn (· = ((x % y : Nat) : Int))) (ev_var rfl ⟨_, rfl, rfl⟩) (ev_rI (A := (· = (x : Int))) (B := (· = (y : Int))) (ev_var rfl ⟨_, rfl, rfl⟩) (ev_var rfl ⟨_, rfl, rfl⟩) fun i j H3 _ e1 e2 => ?_)) fun vs H3 g3 ⟨v, u, e, ⟨_, e1, e2⟩, ⟨_, e3, e4⟩⟩ => ?_
      · subst e1; subst e2
        exact ⟨by omega, _, rfl, by rw [Int.natCast_emod]⟩
      · subst e1; subst e2; subst e3; subst e4
        exact ⟨_, _, e, x % y, Nat.mod_lt _ hy, y, x % y, rfl, (gcd_step hy).trans hg, rfl, (g.trans g2).trans g3⟩
    · have hy : y = 0 := by
        cases hd : decide ((y : Int) = 0) with
        | false => rw [hd] at hb; cases hb
        | true => have := of_decide_eq_true hd; omega
      subst hy
      refine s_ret (t := none) trivial (ev_var (P := IsIn (· = ((Nat.gcd a b : Nat) : Int))) rfl ⟨_, rfl, ?_⟩) fun v H3 g3 p => q v H3 ((g.trans g2).trans g3) p
      rw [← hg, Nat.gcd_zero_right]
/-! ### ratio -/
def spRatio (K : PySem.W.Frag) : Sp := fun vs H Q _ => ∃ (a : Int) (b : Nat), vs = [.int a, .int b] ∧ 0 < b ∧ b < 2 ^ 8000 ∧ After none H Q (IsRat K (mkRat a b))
theorem gcd_ok {a : Int} {b : Nat} (hb : 0 < b) : 0 < Nat.gcd a.natAbs b ∧ Nat.gcd a.natAbs b ≤ b := ⟨Nat.gcd_pos_of_pos_right _ hb, Nat.gcd_le_right _ hb⟩
section
variable {σ : L2.St} {H : Hp} {ta tb : TE} {Q : VK} {D : Ends}
/-- top // by, bottom // by -/
theorem ev_ratio {a : Int} {b : Nat} (hb : 0 < b) (hs : b < 2 ^ 8000) {tA tB tC' : TE} (h1 : EvP none tA σ H (IsIn (· = a))) (h2 : EvP none tB σ H (IsIn (· = (b : Int)))) (h3 : EvP none tC' σ H (IsIn (· = ((Nat.gcd a.natAbs b : Nat) : Int)))) :
    EvP none (tTup (tCons (tOp (rI CDivW fun i j => .int (i / j)) tA tC') (tCons (tOp (rI CDivW fun i j => .int (i / j)) tB tC') tNil))) σ H (IsRat K (mkRat a b)) := by
  have g0 := gcd_ok (a := a) hb
  have dv : CDivW a ((Nat.gcd a.natAbs b : Nat) : Int) := wide_div (b := 8000) (by omega) (by rw [Int.natAbs_natCast]; exact Nat.lt_of_le_of_lt g0.2 hs) (by decide) (by decide)
  have dv2 : CDivW b ((Nat.gcd a.natAbs b : Nat) : Int) := dv
  refine ev_rat ((ev_rIE (f := fun i j => i / j) h1 h3 dv).imp fun v H1 _ ⟨i, e1, e2⟩ => ⟨i, e1, ?_⟩) ((ev_rIE (f := fun i j => i / j) h2 h3 dv2).imp fun v H1 _ ⟨i, e1, e2⟩ => ⟨i, e1, ?_⟩)
  · rw [e2, Rat.num_mkRat, if_neg (by omega), Nat.gcd_comm]
  · rw [e2, Rat.den_mkRat, if_neg (by omega), Nat.gcd_comm, Int.natCast_ediv]
end
theorem sc12 : FnScope ["top", "bottom", "by"] ["top", "bottom"] (defScope (topS 12)) := ⟨rfl, rfl, rfl, by decide +kernel, rfl, by decide +kernel, by decide +kernel⟩
theorem ok_ratio (bl : Blt mg) (d : DefAt K mg "ratio" ["top", "bottom"] (topS 12)) (c1 : Cal P w K mg base CX0 1 "shared" ["one", "other"] spGcd) : Cal P w K mg base CX0 2 "ratio" ["top", "bottom"] (spRatio K) := by
  obtain ⟨f, fd, F, m, b⟩ := d
  refine ⟨f, fd, F.ok sc12 (fun vs H Q E h => ?_) (fun cdv A outer s H vs Q E hr h => ?_), m, F.kp, b⟩
  · obtain ⟨_, _, rfl, _⟩ := h; rfl
  · obtain ⟨a, b, rfl, hb, hs, q⟩ := h
    refine ⟨_, pss_cons (ps_if (pt_cmpR op_eq (pv 1) pe_int (nomark _)) pss_dead pss_nil)
      (pss_cons (ps_set (i := 2) sc12.nd rfl (Or.inl rfl) (pe_cal c1 hr (pa_cons (pe_callB call_abs (by rfl) bl.abs boot_abs (pa_cons (pv 0) pa_nil)) (pa_cons (pe_callB call_abs (by rfl) bl.abs boot_abs (pa_cons (pv 1) pa_nil)) pa_nil))))
      (pss_cons (ps_if (pt_cmpR op_lt (pv 1) pe_int (nomark _)) pss_dead pss_nil)
      (pss_one (ps_ret (pe_tup (pa_cons (pe_op op_fdivW (pv 0) (pv 2)) (pa_cons (pe_op op_fdivW (pv 1) (pv 2)) pa_nil))))))), ?_⟩
    refine q_if (t := none) trivial (eb_testE (ev_eqE (ev_var rfl ⟨_, rfl, rfl⟩) ev_int)) (fun e => ?_) fun _ H1 g1 => ?_
    · exfalso
      have := of_decide_eq_true e.symm; omega
    refine q_asg (t := none) (P := IsIn (· = ((Nat.gcd a.natAbs b : Nat) : Int))) trivial (ev_call2 (ev_abs (i := a) (ev_var rfl ⟨_, rfl, rfl⟩)) (ev_abs (i := b) (ev_var rfl ⟨_, rfl, rfl⟩)) fun v u H2 g2 ⟨_, e1, e2⟩ ⟨_, e3, e4⟩ Q1 q1 => ⟨a.natAbs, b, by rw [e1, e2, e3, e4, Int.natAbs_natCast], q1⟩) fun v H2 g2 ⟨_, e1, e2⟩ => ?_
    subst e1; subst e2
    refine q_if (t := none) trivial (eb_testE (ev_cmpE (f := fun i j => decide (i < j)) (ev_var rfl ⟨_, rfl, rfl⟩) ev_int)) (fun e => ?_) fun _ H3 g3 => ?_
    · exfalso
      have := of_decide_eq_true e.symm; omega
    refine s_ret (t := none) trivial (ev_ratio hb hs (ev_var rfl ⟨_, rfl, rfl⟩) (ev_var rfl ⟨_, rfl, rfl⟩) (ev_var rfl ⟨_, rfl, rfl⟩)) fun v H4 g4 p => q v H4 (((g1.trans g2).trans g3).trans g4) p
theorem sc32 : FnScope ["_law_top", "_law_bottom", "_law_by"] ["_law_top", "_law_bottom"] (defScope (topS 32)) := ⟨rfl, rfl, rfl, by decide +kernel, rfl, by decide +kernel, by decide +kernel⟩
theorem ok_law_ratio (bl : Blt mg) (d : DefAt K mg "_law_ratio" ["_law_top", "_law_bottom"] (topS 32)) (c1 : Cal P w K mg base CX0 1 "_law_gcd" ["_law_one", "_law_other"] spGcd) : Cal P w K mg base CX0 2 "_law_ratio" ["_law_top", "_law_bottom"] (spRatio K) := by
  obtain ⟨f, fd, F, m, b⟩ := d
  refine ⟨f, fd, F.ok sc32 (fun vs H Q E h => ?_) (fun cdv A outer s H vs Q E hr h => ?_), m, F.kp, b⟩
  · obtain ⟨_, _, rfl, _⟩ := h; rfl
  · obtain ⟨a, b, rfl, hb, hs, q⟩ := h
    refine ⟨_, pss_cons (ps_set (i := 2) sc32.nd rfl (Or.inl rfl) (pe_cal c1 hr (pa_cons (pe_callB call_abs (by rfl) bl.abs boot_abs (pa_cons (pv 0) pa_nil)) (pa_cons (pe_callB call_abs (by rfl) bl.abs boot_abs (pa_cons (pv 1) pa_nil)) pa_nil))))
      (pss_cons (ps_if (pt_cmpR op_lt (pv 1) pe_int (nomark _)) pss_dead pss_nil)
      (pss_one (ps_ret (pe_tup (pa_cons (pe_op op_fdivW (pv 0) (pv 2)) (pa_cons (pe_op op_fdivW (pv 1) (pv 2)) pa_nil)))))), ?_⟩
    refine q_asg (t := none) (P := IsIn (· = ((Nat.gcd a.natAbs b : Nat) : Int))) trivial (ev_call2 (ev_abs (i := a) (ev_var rfl ⟨_, rfl, rfl⟩)) (ev_abs (i := b) (ev_var rfl ⟨_, rfl, rfl⟩)) fun v u H2 g2 ⟨_, e1, e2⟩ ⟨_, e3, e4⟩ Q1 q1 => ⟨a.natAbs, b, by rw [e1, e2, e3, e4, Int.natAbs_natCast], q1⟩) fun v H2 g2 ⟨_, e1, e2⟩ => ?_
    subst e1; subst e2
    refine q_if (t := none) trivial (eb_testE (ev_cmpE (f := fun i j => decide (i < j)) (ev_var rfl ⟨_, rfl, rfl⟩) ev_int)) (fun e => ?_) fun _ H3 g3 => ?_
    · exfalso
      have := of_decide_eq_true e.symm; omega
    refine s_ret (t := none) trivial (ev_ratio hb hs (ev_var rfl ⟨_, rfl, rfl⟩) (ev_var rfl ⟨_, rfl, rfl⟩) (ev_var rfl ⟨_, rfl, rfl⟩)) fun v H4 g4 p => q v H4 ((g2.trans g3).trans g4) p
end
end CZ
/-! Data compared; ratios put together; powers; terms. -/
namespace CZ
open PySem PySem.Spec PyProof.Rows L2
open PySem.W (Tup Datum)
/-! ### != of data -/
section
variable {X : Cx}
def rNeX (K : PySem.W.Frag) : R2 := fun x y H Q => ∃ d e : PyData, Dp K H x d ∧ Dp K H y e ∧ d.plain = true ∧ e.plain = true ∧ d.depth ≤ 64 ∧ Q (.bl (!PyData.eqv d e)) H
theorem op_neX (hu : X.A.units + 64 < cLine) : OpR X (compareOp .NotEq) (rNeX X.K) := by
  intro pins s σ H x y v u Q I rx ry h
  obtain ⟨d, e, hd, he, sd, se, hz, q⟩ := h
  obtain ⟨as, r1⟩ := Dp.reads I d x v hd rx
  obtain ⟨bs, r2⟩ := Dp.reads I e y u he ry
  exact PySem.SeqAt.ne_plain r1 r2 sd se (by have := Nat.min_le_left d.depth e.depth; omega) ⟨.bl _, H, I, rfl, q⟩
end
section
variable {K : PySem.W.Frag} {H : Hp} {t : TT'} {σ : L2.St} {ta tb : TE}
def dRat (q : Rat) : Int × Int := (q.num, (q.den : Int))
def dTm (s : Tm) : Tup Int × (Int × Int) := (⟨s.1⟩, dRat s.2)
def dPl (P : Pl) : Tup (Tup Int × (Int × Int)) := ⟨P.map dTm⟩
theorem dRat_inj {q r : Rat} (h : dRat q = dRat r) : q = r := Rat.ext (congrArg Prod.fst h) (Int.natCast_inj.mp (congrArg Prod.snd h))
theorem dTm_inj {s r : Tm} (h : dTm s = dTm r) : s = r := Prod.ext (congrArg (fun z => z.1.items) h) (dRat_inj (congrArg Prod.snd h))
theorem dPl_inj {P R : Pl} (h : dPl P = dPl R) : P = R := (List.map_inj_right fun _ _ => dTm_inj).mp (congrArg Tup.items h)
theorem dp_rat {q : Rat} {v : V} (h : IsRat K q v H) : Dp K H v (Datum.toD (dRat q)) := by
  obtain ⟨a, rfl, h⟩ := h
  exact .tup h (.cons (.int _) (.cons (.int _) .nil))
theorem dp_ints : ∀ m : List Int, DpAll K H (m.map V.int) (m.map Datum.toD)
  | [] => .nil
  | i :: m => .cons (.int i) (dp_ints m)
theorem dp_mon {m : Mon} {v : V} (h : IsMon m v H) : Dp K H v (Datum.toD (⟨m⟩ : Tup Int)) := by
  obtain ⟨a, rfl, h⟩ := h
  exact .tup (SqT.of h) (dp_ints m)
theorem dp_tm {s : Tm} {v : V} (h : IsTm K s v H) : Dp K H v (Datum.toD (dTm s)) := by
  obtain ⟨a, x, y, rfl, h, h1, h2⟩ := h
  exact .tup h (.cons (dp_mon h1) (.cons (dp_rat h2) .nil))
theorem dp_tms : ∀ {P : Pl} {xs : List V}, Paired (fun s v => IsTm K s v H) P xs → DpAll K H xs ((P.map dTm).map Datum.toD)
  | _, _, .nil => .nil
  | _, _, .cons a b => .cons (dp_tm a) (dp_tms b)
theorem dp_pl {P : Pl} {v : V} (h : IsPl K P v H) : Dp K H v (Datum.toD (dPl P)) := by
  obtain ⟨a, xs, rfl, h, r⟩ := h
  exact .tup h (dp_tms r)
theorem ev_neRat {q r : Rat} (h1 : EvP t ta σ H (IsRat K q)) (h2 : EvP t tb σ H (IsRat K r)) : EvP t (tOp (rNeX K) ta tb) σ H (Is (.bl (!decide (q = r)))) := fun H1 g Q k =>
  h1 H1 g _ fun v H2 g2 p => h2 H2 (g.trans g2) _ fun u H3 g3 p2 => ⟨_, _, dp_rat (CZ.up g3 p), dp_rat p2, Datum.plain _, Datum.plain _, Nat.le_trans (Datum.depth_le _) (by decide), k _ H3 (g2.trans g3) (by
    show V.bl _ = V.bl _
    rw [Datum.eqv, show decide (dRat q = dRat r) = decide (q = r) from decide_eq_decide.mpr ⟨dRat_inj, fun e => by rw [e]⟩])⟩
theorem ev_nePl {P R : Pl} (h1 : EvP t ta σ H (IsPl K P)) (h2 : EvP t tb σ H (IsPl K R)) : EvP t (tOp (rNeX K) ta tb) σ H (Is (.bl (!decide (P = R)))) := fun H1 g Q k =>
  h1 H1 g _ fun v H2 g2 p => h2 H2 (g.trans g2) _ fun u H3 g3 p2 => ⟨_, _, dp_pl (CZ.up g3 p), dp_pl p2, Datum.plain _, Datum.plain _, Nat.le_trans (Datum.depth_le _) (by decide), k _ H3 (g2.trans g3) (by
    show V.bl _ = V.bl _
    rw [Datum.eqv, show decide (dPl P = dPl R) = decide (P = R) from decide_eq_decide.mpr ⟨dPl_inj, fun e => by rw [e]⟩])⟩
theorem ea_is1 {v : V} (h1 : EvP t ta σ H (Is v)) : EvA t (tCons ta tNil) σ H (fun vs _ => vs = [v]) := fun H1 g Q q => ea_1 h1 H1 g Q fun vs H2 g2 ⟨x, e, e1⟩ => q vs H2 g2 (by rw [e, e1])
theorem ea_is2 {v w : V} (h1 : EvP t ta σ H (Is v)) (h2 : EvP t tb σ H (Is w)) : EvA t (tCons ta (tCons tb tNil)) σ H (fun vs _ => vs = [v, w]) := fun H1 g Q q => ea_2 h1 h2 H1 g Q fun vs H2 g2 ⟨x, y, e, e1, e2⟩ => q vs H2 g2 (by rw [e, e1, e2])
theorem paired_int : ∀ {as : List Int} {xs : List V}, Paired (fun i x => Is (V.int i) x H) as xs → xs = as.map V.int
  | _, _, .nil => rfl
  | _, _, .cons a b => by rw [List.map_cons, ← paired_int b, a]
theorem eb_notT {te : TE} (h : EvP t te σ H (Is (.bl true))) : EvB t (tNot (tB te)) σ H (· = false) := eb_not (eb_BE h) fun b e => by rw [e]; rfl
theorem eb_orF {tt tu : TT} (h1 : EvB t tt σ H (· = false)) (h2 : EvB t tu σ H (· = false)) : EvB t (tOr tt tu) σ H (· = false) := eb_or h1 (fun _ => h2) (fun e => nomatch e) fun b _ e => e
theorem eb_lenNe {te : TE} {m n : Int} (h : EvP t te σ H (IsIn (· = m))) (e : m = n) : EvB t (tTest (tOp rNe te (tC (.int n)))) σ H (· = false) := by
  subst e
  exact eb_testE ((ev_neE h ev_int).imp fun v _ _ z => by rw [z]; simp [Is])
theorem q_no {D : Ends} {tt : TT} {tu tv tw : TS} (hT : TapeOk t H) (h : EvB t tt σ H (· = false)) (h2 : ∀ H1, Gx t H H1 → tv { D with nx := tw D } σ H1) : tSeq (tIfS tt tu tv) tw D σ H := q_if hT h (fun e => nomatch e) fun _ => h2
end
theorem boot_dict' : bootBuiltins "dict" = some (.type "dict") := boot_dict
section
variable {P : Program} {w : World} {K : PySem.W.Frag} {mg : Str → Option Value} {base : Heap}
/-! ### is_ratio -/
theorem sc11 : FnScope ["thing"] ["thing"] (defScope (topS 11)) := ⟨rfl, rfl, rfl, by decide +kernel, rfl, by decide +kernel, by decide +kernel⟩
def spIsRat (K : PySem.W.Frag) : Sp := fun vs H Q _ => ∃ v q, vs = [v] ∧ IsRat K q v H ∧ After none H Q (Is (.bl true))
theorem ok_is_ratio (bl : Blt mg) (d : DefAt K mg "is_ratio" ["thing"] (topS 11)) (c1 : Cal P w K mg base CX0 1 "is_count" ["thing"] spCount) (c2 : Cal P w K mg base CX0 1 "shared" ["one", "other"] spGcd) : Cal P w K mg base CX0 2 "is_ratio" ["thing"] (spIsRat K) := by
  obtain ⟨f, fd, F, m, b⟩ := d
  refine ⟨f, fd, F.ok sc11 (fun vs H Q E h => ?_) (fun cdv A outer s H vs Q E hr h => ?_), m, F.kp, b⟩
  · obtain ⟨_, _, rfl, _⟩ := h; rfl
  · obtain ⟨v, r, rfl, hv, q⟩ := h
    refine ⟨_, pss_cons (ps_if (PW.pt (pw_or (pt_not (pt_val (pe_callB call_isi (by rfl) bl.isinstance boot_isinstance (pa_cons (pv 0) (pa_cons (pe_bltn (v := .ty "tuple") rfl bl.tuple boot_tuple rfl) pa_nil)))))
      (pw_or (pt_cmpR op_ne (pe_callB call_len_seq (by rfl) bl.len PySem.boot_len (pa_cons (pv 0) pa_nil)) pe_int (nomark _))
      (pw_or (pt_not (pt_val (pe_cal c1 hr (pa_cons (pe_ix ix_tup (pv 0) pe_int (fun _ _ => rfl)) pa_nil))))
      (pw_or1 (pt_not (pt_val (pe_cal c1 hr (pa_cons (pe_ix ix_tup (pv 0) pe_int (fun _ _ => rfl)) pa_nil)))))))))
      pss_dead pss_nil)
      (pss_one (ps_ret (pe_and (pe_cmpR op_ge (pe_ix ix_tup (pv 0) pe_int (fun _ _ => rfl)) pe_int (nomark _))
        (pe_one (pe_cmpR op_eq (pe_cal c2 hr (pa_cons (pe_callB call_abs (by rfl) bl.abs boot_abs (pa_cons (pe_ix ix_tup (pv 0) pe_int (fun _ _ => rfl)) pa_nil)) (pa_cons (pe_ix ix_tup (pv 0) pe_int (fun _ _ => rfl)) pa_nil))) pe_int (nomark _)))))), ?_⟩
    obtain ⟨a, rfl, hx⟩ := id hv
    have cnt : ∀ {te : TE} {i : Int}, EvP none te (start ["thing"] [V.ref a]) H (IsIn (· = i)) → EvB none (tNot (tB (tCall spCount [] E0 (tCons te tNil)))) (start ["thing"] [V.ref a]) H (· = false) := @fun te i h =>
      eb_notT (ev_call1 h fun v H1 g ⟨_, e1, e2⟩ Q1 q1 => ⟨i, by rw [e1, e2], q1⟩)
    refine q_no (t := none) trivial (eb_orF (eb_notT (ev_isTuple (ev_vis rfl) hx)) (eb_orF (eb_lenNe (ev_lenT (ev_vis rfl) hx) rfl) (eb_orF (cnt (ev_num (ev_var rfl hv))) (cnt (ev_den (ev_var rfl hv)))))) fun H1 g1 => ?_
    have hv1 : IsRat K r (.ref a) H1 := CZ.up g1 hv
    refine s_ret (t := none) (P := Is (.bl true)) trivial (ev_andT ((ev_cmpE (f := fun i j => decide (j ≤ i)) (ev_den (ev_var rfl hv1)) ev_int).imp fun v _ _ e => ?_)
      ((ev_eqE (i := 1) (j := 1) (ev_call2 (ev_abs (ev_num (ev_var rfl hv1))) (ev_den (ev_var rfl hv1)) fun x y H2 g2 ⟨_, e1, e2⟩ ⟨_, e3, e4⟩ Q1 q1 => ⟨r.num.natAbs, r.den, by rw [e1, e2, e3, e4], fun v H3 g3 ⟨i, e5, e6⟩ => q1 v H3 g3 ⟨i, e5, by rw [e6, r.reduced]; rfl⟩⟩) ev_int).imp fun v _ _ e => e)) fun v H2 g2 p => q v H2 (g1.trans g2) p
    rw [e]
    show V.bl _ = V.bl true
    rw [decide_eq_true]
    have := r.den_pos
    omega
/-! ### plus, times -/
def spPlus (K : PySem.W.Frag) : Sp := fun vs H Q _ => ∃ v u x y, vs = [v, u] ∧ IsRat K x v H ∧ IsRat K y u H ∧ Sm x ∧ Sm y ∧ After none H Q (IsRat K (x + y))
def spTimes (K : PySem.W.Frag) : Sp := fun vs H Q _ => ∃ v u x y, vs = [v, u] ∧ IsRat K x v H ∧ IsRat K y u H ∧ Sm x ∧ Sm y ∧ After none H Q (IsRat K (x * y))
theorem big3 {n : Nat} (h : n < Big) : n < 2 ^ 3000 := h
section
variable {σ : L2.St} {H : Hp} {tA tB : TE}
theorem ev_mulE {i j : Int} {t : TT'} (h1 : EvP t tA σ H (IsIn (· = i))) (h2 : EvP t tB σ H (IsIn (· = j))) (hi : i.natAbs < Big) (hj : j.natAbs < Big) : EvP t (tOp (rI CMulW fun i j => .int (i * j)) tA tB) σ H (IsIn (· = i * j)) :=
  ev_rIE (f := fun i j => i * j) h1 h2 (wide_mul (big3 hi) (big3 hj) (by decide) (by decide) (by decide))
theorem sm_num {x : Rat} (h : Sm x) : x.num.natAbs < Big := h.1
theorem sm_den {x : Rat} (h : Sm x) : ((x.den : Int)).natAbs < Big := by rw [Int.natAbs_natCast]; exact h.2
theorem den_mul {x y : Rat} (hx : Sm x) (hy : Sm y) : 0 < x.den * y.den ∧ x.den * y.den < 2 ^ 8000 := by
  refine ⟨Nat.mul_pos x.den_pos y.den_pos, ?_⟩
  have h1 : x.den * y.den < Big * Big := Nat.mul_lt_mul'' hx.2 hy.2
  refine Nat.lt_of_lt_of_le h1 ?_
  unfold Big
  rw [← Nat.pow_add]
  exact Nat.pow_le_pow_right (by decide) (by decide)
theorem ev_ratP {t : TT'} {x y : Rat} (hx : Sm x) (hy : Sm y) (h1 : EvP t tA σ H (IsIn (· = x.num * (y.den : Int) + y.num * (x.den : Int)))) (h2 : EvP t tB σ H (IsIn (· = (x.den : Int) * (y.den : Int)))) :
    EvP t (tCall (spRatio K) [] E0 (tCons tA (tCons tB tNil))) σ H (IsRat K (x + y)) := ev_call2 h1 h2 fun v u H1 g ⟨_, e1, e2⟩ ⟨_, e3, e4⟩ Q1 q1 =>
  ⟨x.num * (y.den : Int) + y.num * (x.den : Int), x.den * y.den, by rw [e1, e2, e3, e4, Int.natCast_mul], (den_mul hx hy).1, (den_mul hx hy).2, fun v H2 g2 p => q1 v H2 (Gx.of_pure g.t1 g2) (by rw [Rat.add_def']; exact p)⟩
theorem ev_ratT {t : TT'} {x y : Rat} (hx : Sm x) (hy : Sm y) (h1 : EvP t tA σ H (IsIn (· = x.num * y.num))) (h2 : EvP t tB σ H (IsIn (· = (x.den : Int) * (y.den : Int)))) :
    EvP t (tCall (spRatio K) [] E0 (tCons tA (tCons tB tNil))) σ H (IsRat K (x * y)) := ev_call2 h1 h2 fun v u H1 g ⟨_, e1, e2⟩ ⟨_, e3, e4⟩ Q1 q1 =>
  ⟨x.num * y.num, x.den * y.den, by rw [e1, e2, e3, e4, Int.natCast_mul], (den_mul hx hy).1, (den_mul hx hy).2, fun v H2 g2 p => q1 v H2 (Gx.of_pure g.t1 g2) (by rw [Rat.mul_def']; exact p)⟩
end
theorem sc13 : FnScope ["one", "other"] ["one", "other"] (defScope (topS 13)) := ⟨rfl, rfl, rfl, by decide +kernel, rfl, by decide +kernel, by decide +kernel⟩
theorem ok_plus (d : DefAt K mg "plus" ["one", "other"] (topS 13)) (c : Cal P w K mg base CX0 2 "ratio" ["top", "bottom"] (spRatio K)) : Cal P w K mg base CX0 3 "plus" ["one", "other"] (spPlus K) := by
  obtain ⟨f, fd, F, m, b⟩ := d
  refine ⟨f, fd, F.ok sc13 (fun vs H Q E h => ?_) (fun cdv A outer s H vs Q E hr h => ?_), m, F.kp, b⟩
  · obtain ⟨_, _, _, _, rfl, _⟩ := h; rfl
  · obtain ⟨v, u, x, y, rfl, hv, hu, hx, hy, q⟩ := h
    refine ⟨_, pss_one (ps_ret (pe_cal c hr (pa_cons (pe_op op_add (pe_op op_mulW (pe_ix ix_tup (pv 0) pe_int (fun _ _ => rfl)) (pe_ix ix_tup (pv 1) pe_int (fun _ _ => rfl))) (pe_op op_mulW (pe_ix ix_tup (pv 1) pe_int (fun _ _ => rfl)) (pe_ix ix_tup (pv 0) pe_int (fun _ _ => rfl))))
      (pa_cons (pe_op op_mulW (pe_ix ix_tup (pv 0) pe_int (fun _ _ => rfl)) (pe_ix ix_tup (pv 1) pe_int (fun _ _ => rfl))) pa_nil)))), ?_⟩
    exact s_ret (t := none) trivial (ev_ratP hx hy (ev_rI0E (f := fun i j => i + j) (ev_mulE (ev_num (ev_var rfl hv)) (ev_den (ev_var rfl hu)) (sm_num hx) (sm_den hy)) (ev_mulE (ev_num (ev_var rfl hu)) (ev_den (ev_var rfl hv)) (sm_num hy) (sm_den hx)))
      (ev_mulE (ev_den (ev_var rfl hv)) (ev_den (ev_var rfl hu)) (sm_den hx) (sm_den hy))) q
theorem sc14 : FnScope ["one", "other"] ["one", "other"] (defScope (topS 14)) := ⟨rfl, rfl, rfl, by decide +kernel, rfl, by decide +kernel, by decide +kernel⟩
theorem ok_times (d : DefAt K mg "times" ["one", "other"] (topS 14)) (c : Cal P w K mg base CX0 2 "ratio" ["top", "bottom"] (spRatio K)) : Cal P w K mg base CX0 3 "times" ["one", "other"] (spTimes K) := by
  obtain ⟨f, fd, F, m, b⟩ := d
  refine ⟨f, fd, F.ok sc14 (fun vs H Q E h => ?_) (fun cdv A outer s H vs Q E hr h => ?_), m, F.kp, b⟩
  · obtain ⟨_, _, _, _, rfl, _⟩ := h; rfl
  · obtain ⟨v, u, x, y, rfl, hv, hu, hx, hy, q⟩ := h
    refine ⟨_, pss_one (ps_ret (pe_cal c hr (pa_cons (pe_op op_mulW (pe_ix ix_tup (pv 0) pe_int (fun _ _ => rfl)) (pe_ix ix_tup (pv 1) pe_int (fun _ _ => rfl)))
      (pa_cons (pe_op op_mulW (pe_ix ix_tup (pv 0) pe_int (fun _ _ => rfl)) (pe_ix ix_tup (pv 1) pe_int (fun _ _ => rfl))) pa_nil)))), ?_⟩
    exact s_ret (t := none) trivial (ev_ratT hx hy (ev_mulE (ev_num (ev_var rfl hv)) (ev_num (ev_var rfl hu)) (sm_num hx) (sm_num hy))
      (ev_mulE (ev_den (ev_var rfl hv)) (ev_den (ev_var rfl hu)) (sm_den hx) (sm_den hy))) q
theorem sc33 : FnScope ["_law_one", "_law_other"] ["_law_one", "_law_other"] (defScope (topS 33)) := ⟨rfl, rfl, rfl, by decide +kernel, rfl, by decide +kernel, by decide +kernel⟩
theorem ok_law_plus (d : DefAt K mg "_law_plus" ["_law_one", "_law_other"] (topS 33)) (c : Cal P w K mg base CX0 2 "_law_ratio" ["_law_top", "_law_bottom"] (spRatio K)) : Cal P w K mg base CX0 3 "_law_plus" ["_law_one", "_law_other"] (spPlus K) := by
  obtain ⟨f, fd, F, m, b⟩ := d
  refine ⟨f, fd, F.ok sc33 (fun vs H Q E h => ?_) (fun cdv A outer s H vs Q E hr h => ?_), m, F.kp, b⟩
  · obtain ⟨_, _, _, _, rfl, _⟩ := h; rfl
  · obtain ⟨v, u, x, y, rfl, hv, hu, hx, hy, q⟩ := h
    refine ⟨_, pss_one (ps_ret (pe_cal c hr (pa_cons (pe_op op_add (pe_op op_mulW (pe_ix ix_tup (pv 0) pe_int (fun _ _ => rfl)) (pe_ix ix_tup (pv 1) pe_int (fun _ _ => rfl))) (pe_op op_mulW (pe_ix ix_tup (pv 1) pe_int (fun _ _ => rfl)) (pe_ix ix_tup (pv 0) pe_int (fun _ _ => rfl))))
      (pa_cons (pe_op op_mulW (pe_ix ix_tup (pv 0) pe_int (fun _ _ => rfl)) (pe_ix ix_tup (pv 1) pe_int (fun _ _ => rfl))) pa_nil)))), ?_⟩
    exact s_ret (t := none) trivial (ev_ratP hx hy (ev_rI0E (f := fun i j => i + j) (ev_mulE (ev_num (ev_var rfl hv)) (ev_den (ev_var rfl hu)) (sm_num hx) (sm_den hy)) (ev_mulE (ev_num (ev_var rfl hu)) (ev_den (ev_var rfl hv)) (sm_num hy) (sm_den hx)))
      (ev_mulE (ev_den (ev_var rfl hv)) (ev_den (ev_var rfl hu)) (sm_den hx) (sm_den hy))) q
theorem sc35 : FnScope ["_law_one", "_law_other"] ["_law_one", "_law_other"] (defScope (topS 35)) := ⟨rfl, rfl, rfl, by decide +kernel, rfl, by decide +kernel, by decide +kernel⟩
theorem ok_law_times (d : DefAt K mg "_law_times" ["_law_one", "_law_other"] (topS 35)) (c : Cal P w K mg base CX0 2 "_law_ratio" ["_law_top", "_law_bottom"] (spRatio K)) : Cal P w K mg base CX0 3 "_law_times" ["_law_one", "_law_other"] (spTimes K) := by
  obtain ⟨f, fd, F, m, b⟩ := d
  refine ⟨f, fd, F.ok sc35 (fun vs H Q E h => ?_) (fun cdv A outer s H vs Q E hr h => ?_), m, F.kp, b⟩
  · obtain ⟨_, _, _, _, rfl, _⟩ := h; rfl
  · obtain ⟨v, u, x, y, rfl, hv, hu, hx, hy, q⟩ := h
    refine ⟨_, pss_one (ps_ret (pe_cal c hr (pa_cons (pe_op op_mulW (pe_ix ix_tup (pv 0) pe_int (fun _ _ => rfl)) (pe_ix ix_tup (pv 1) pe_int (fun _ _ => rfl)))
      (pa_cons (pe_op op_mulW (pe_ix ix_tup (pv 0) pe_int (fun _ _ => rfl)) (pe_ix ix_tup (pv 1) pe_int (fun _ _ => rfl))) pa_nil)))), ?_⟩
    exact s_ret (t := none) trivial (ev_ratT hx hy (ev_mulE (ev_num (ev_var rfl hv)) (ev_num (ev_var rfl hu)) (sm_num hx) (sm_num hy))
      (ev_mulE (ev_den (ev_var rfl hv)) (ev_den (ev_var rfl hu)) (sm_den hx) (sm_den hy))) q
/-! ### joined_powers -/
theorem sc5 : FnScope ["one", "other", "here", "there"] ["one", "other"] (defScope (topS 5)) := ⟨rfl, rfl, rfl, by decide +kernel, rfl, by decide +kernel, by decide +kernel⟩
def spJoin : Sp := fun vs H Q _ => ∃ v u m n, vs = [v, u] ∧ IsMon m v H ∧ IsMon n u H ∧ m.length = n.length ∧ m.length ≤ 1000 ∧ After none H Q (IsMon (jo m n))
theorem wipe_two {σ : L2.St} : True := trivial
theorem ok_joined (bl : Blt mg) (d : DefAt K mg "joined_powers" ["one", "other"] (topS 5)) : Cal P w K mg base CX0 1 "joined_powers" ["one", "other"] spJoin := by
  obtain ⟨f, fd, F, m, b⟩ := d
  refine ⟨f, fd, F.ok sc5 (fun vs H Q E h => ?_) (fun cdv A outer s H vs Q E hr h => ?_), m, F.kp, b⟩
  · obtain ⟨_, _, _, _, rfl, _⟩ := h; rfl
  · obtain ⟨v, u, m, n, rfl, ⟨a, rfl, ha⟩, ⟨b, rfl, hb⟩, hl, hz, q⟩ := h
    refine ⟨_, pss_one (ps_ret (pe_callTy call_tuple_of (by rfl) bl.tuple boot_tuple (pa_cons (pe_lc (own := [("here", 2), ("there", 3)]) (g := gTup K 2 (gCons (gName 2) (gCons (gName 3) gNil))) rfl sc5.nd
      (RZ.pi_zipA rfl bl.zip (pa_cons (pv 0) (pa_cons (pv 1) pa_nil))) (blkOk_by (N := ["one", "other", "here", "there"]) (sc := defScope (topS 5)) (by decide +kernel)) (fun _ _ _ _ _ => pg_tup rfl (pgs_cons (pg_name (i := 2) sc5.nd rfl (Or.inl rfl)) (pgs_cons (pg_name (i := 3) sc5.nd rfl (Or.inl rfl)) pgs_nil)))
      (fun _ _ _ _ _ => pts_nil) (fun _ _ _ _ _ => pe_op op_add (pv 2) (pv 3))) pa_nil))), ?_⟩
    refine s_ret (t := none) (P := IsMon (jo m n)) trivial (ev_tupleL (PL := fun xs _ => xs = (jo m n).map V.int) (fun H1 g1 Q1 q1 => ?_) (fun _ _ _ _ e => e) fun xs p H1 g e h => ⟨p, rfl, by rw [h, e]⟩) q
    refine ev_lc (α := Int) (R := fun i => Is (V.int i)) (C := fun j i => (jo m n)[j]? = some i) (fun _ _ g => g.txT) (turns_zip (t := none) (σ := start ["one", "other", "here", "there"] [V.ref a, V.ref b]) (ea_is2 (ev_vis rfl) (ev_vis rfl)) (SqT.of ha) (SqT.of hb) (by rw [List.length_map, List.length_map, hl]))
      (by rw [List.length_map]; omega) (fun i σ2 H2 ⟨x, y, _, _, e⟩ => by subst e; rfl) (fun i σ2 H2 hi g2 ⟨x, y, ex, ey, e⟩ => ?_) H1 g1 Q1 fun p xs H2 hp g2 e ⟨as, hl2, hC, hR⟩ => q1 p xs H2 hp g2 e ?_
    rotate_left
    · subst e
      rw [List.getElem?_map] at ex ey
      obtain ⟨i1, e1, rfl⟩ := Option.map_eq_some_iff.mp ex
      obtain ⟨i2, e2, rfl⟩ := Option.map_eq_some_iff.mp ey
      refine (ev_rI0E (i := i1) (j := i2) (f := fun i j => i + j) (ev_var rfl ⟨_, rfl, rfl⟩) (ev_var rfl ⟨_, rfl, rfl⟩)).imp fun v H3 _ ⟨z, e3, e4⟩ => ⟨z, ?_, e3⟩
      unfold jo
      rw [List.getElem?_zipWith, e1, e2, e4]
    · have e3 : as = jo m n := by
        refine List.ext_getElem? fun j => ?_
        by_cases hj : j < as.length
        · rw [List.getElem?_eq_getElem hj, hC j _ (List.getElem?_eq_getElem hj)]
        · rw [List.getElem?_eq_none (by omega), List.getElem?_eq_none]
          rw [jo_length]
          rw [List.length_map] at hl2
          omega
      rw [← e3]
      exact paired_int hR
end
end CZ
/-! are_powers, is_term, is_poly, are_multiples, by_term, one_of. -/
namespace CZ
open PySem PySem.Spec PyProof.Rows L2
section
variable {t : TT'} {K : PySem.W.Frag} {σ : L2.St} {H : Hp} {te : TE}
theorem ev_allT {wi : TI} {g : TG} {vs : List Nat} {n : Nat} {T : L2.St → Nat → L2.St → Hp → Prop} (hw : Turns t (TxT t) wi g σ H n T) (hn : n ≤ 100000)
    (hv : ∀ i σ2 H1, T (wipe σ vs) i σ2 H1 → wipe σ2 vs = wipe σ vs)
    (he : ∀ i σ2 H1, i < n → Gx t H H1 → T (wipe σ vs) i σ2 H1 → EvP t te σ2 H1 (Is (.bl true))) : EvP t (tCB (rAll K) (tCons (tLc wi g tYes te vs) tNil)) σ H (Is (.bl true)) :=
  ev_all fun H1 g1 Q q => ev_lc (α := Bool) (R := fun b => Is (.bl b)) (C := fun _ b => b = true) (fun _ _ g => g.txT) hw hn hv (fun i σ2 H2 hi g2 h => (he i σ2 H2 hi g2 h).imp fun v _ _ e => ⟨true, rfl, e⟩) H1 g1 Q fun p xs H2 hp g2 e ⟨as, _, hC, hR⟩ => q p xs H2 hp g2 e ⟨as, hC, hR⟩
end
section
variable {P : Program} {w : World} {K : PySem.W.Frag} {mg : Str → Option Value} {base : Heap}
/-! ### are_powers -/
theorem sc16 : FnScope ["n", "thing", "one"] ["n", "thing"] (defScope (topS 16)) := ⟨rfl, rfl, rfl, by decide +kernel, rfl, by decide +kernel, by decide +kernel⟩
def spPows : Sp := fun vs H Q _ => ∃ (n : Nat) (v : V) (m : Mon), vs = [.int n, v] ∧ IsMon m v H ∧ m.length = n ∧ n ≤ 1000 ∧ (∀ k ∈ m, 0 ≤ k) ∧ After none H Q (Is (.bl true))
theorem ok_are_powers (bl : Blt mg) (d : DefAt K mg "are_powers" ["n", "thing"] (topS 16)) (c1 : Cal P w K mg base CX0 1 "is_count" ["thing"] spCount) : Cal P w K mg base CX0 2 "are_powers" ["n", "thing"] spPows := by
  obtain ⟨f, fd, F, m, b⟩ := d
  refine ⟨f, fd, F.ok sc16 (fun vs H Q E h => ?_) (fun cdv A outer s H vs Q E hr h => ?_), m, F.kp, b⟩
  · obtain ⟨_, _, _, rfl, _⟩ := h; rfl
  · obtain ⟨n, v, m, rfl, ⟨a, rfl, ha⟩, hl, hz, hp, q⟩ := h
    refine ⟨_, pss_cons (ps_if (PW.pt (pw_or (pt_not (pt_val (pe_callB call_isi (by rfl) bl.isinstance boot_isinstance (pa_cons (pv 1) (pa_cons (pe_bltn (v := .ty "tuple") rfl bl.tuple boot_tuple rfl) pa_nil)))))
      (pw_or1 (pt_cmpR op_ne (pe_callB call_len_seq (by rfl) bl.len PySem.boot_len (pa_cons (pv 1) pa_nil)) (pv 0) (nomark _))))) pss_dead pss_nil)
      (pss_one (ps_ret (pe_callB (cr_all rfl) (by rfl) bl.all boot_all (pa_cons (pe_lc (own := [("one", 2)]) (g := gName 2) rfl sc16.nd (pi_tup (pv 1)) (blkOk_by (N := ["n", "thing", "one"]) (sc := defScope (topS 16)) (by decide +kernel)) (fun _ _ _ _ _ => pg_name (i := 2) sc16.nd rfl (Or.inl rfl)) (fun _ _ _ _ _ => pts_nil)
        (fun _ _ _ _ _ => pe_and (pe_cal c1 hr (pa_cons (pv 2) pa_nil)) (pe_one (pe_cmpR op_ge (pv 2) pe_int (nomark _))))) pa_nil)))), ?_⟩
    refine q_no (t := none) trivial (eb_orF (eb_notT (ev_isTuple (ev_vis rfl) (SqT.of ha))) ?_) fun H1 g1 => ?_
    · refine eb_testE ((ev_neE (i := (m.map V.int).length) (j := n) (ev_lenT (ev_vis rfl) (SqT.of ha)) (ev_var rfl ⟨_, rfl, rfl⟩)).imp fun v _ _ e => ?_)
      rw [e, List.length_map, hl]
      simp [Is]
    · refine s_ret (t := none) trivial (ev_allT (turns_tup (ev_vis rfl) (g1.sqT (SqT.of ha))) (by rw [List.length_map]; omega) (fun i σ2 H2 ⟨x, _, e⟩ => by subst e; rfl) fun i σ2 H2 hi g2 ⟨x, ex, e⟩ => ?_) fun v H2 g2 p => q v H2 (g1.trans g2) p
      subst e
      rw [List.getElem?_map] at ex
      obtain ⟨k, ek, rfl⟩ := Option.map_eq_some_iff.mp ex
      have hk : 0 ≤ k := hp k (List.mem_of_getElem? ek)
      refine ev_andT (ev_call1 (ev_vis rfl) fun v H3 g3 e3 Q1 q1 => ⟨k, by rw [e3], q1⟩) ((ev_cmpE (i := k) (j := 0) (f := fun i j => decide (j ≤ i)) (ev_var rfl ⟨_, rfl, rfl⟩) ev_int).imp fun v _ _ e => ?_)
      rw [e, decide_eq_true hk]
      rfl
/-! ### is_term -/
theorem sc17 : FnScope ["n", "thing"] ["n", "thing"] (defScope (topS 17)) := ⟨rfl, rfl, rfl, by decide +kernel, rfl, by decide +kernel, by decide +kernel⟩
def spIsTm (K : PySem.W.Frag) : Sp := fun vs H Q _ => ∃ (n : Nat) (v : V) (r : Tm), vs = [.int n, v] ∧ IsTm K r v H ∧ r.1.length = n ∧ n ≤ 1000 ∧ (∀ k ∈ r.1, 0 ≤ k) ∧ r.2 ≠ 0 ∧ After none H Q (Is (.bl true))
theorem ev_glob {a : Addr} {i j : Int} {t : TT'} {σ : L2.St} {H : Hp} {q : Rat} (h : ∀ H, SqT K H a [.int i, .int j]) (e1 : q.num = i) (e2 : (q.den : Int) = j) : EvP t (tC (.ref a)) σ H (IsRat K q) := ev_c ⟨a, rfl, by rw [e1, e2]; exact h H⟩
theorem ok_is_term (bl : Blt mg) (d : DefAt K mg "is_term" ["n", "thing"] (topS 17)) (cN : CstAt K mg "NOUGHT" 0 1) (c1 : Cal P w K mg base CX0 2 "are_powers" ["n", "thing"] spPows) (c2 : Cal P w K mg base CX0 2 "is_ratio" ["thing"] (spIsRat K)) : Cal P w K mg base CX0 3 "is_term" ["n", "thing"] (spIsTm K) := by
  obtain ⟨f, fd, F, m, b⟩ := d
  obtain ⟨aN, mN, hN⟩ := cN
  refine ⟨f, fd, F.ok sc17 (fun vs H Q E h => ?_) (fun cdv A outer s H vs Q E hr h => ?_), m, F.kp, b⟩
  · obtain ⟨_, _, _, rfl, _⟩ := h; rfl
  · obtain ⟨n, v, r, rfl, hv, hl, hz, hp, h0, q⟩ := h
    obtain ⟨a, x, y, rfl, ha, h1, h2⟩ := id hv
    refine ⟨_, pss_cons (ps_if (PW.pt (pw_or (pt_not (pt_val (pe_callB call_isi (by rfl) bl.isinstance boot_isinstance (pa_cons (pv 1) (pa_cons (pe_bltn (v := .ty "tuple") rfl bl.tuple boot_tuple rfl) pa_nil)))))
      (pw_or (pt_cmpR op_ne (pe_callB call_len_seq (by rfl) bl.len PySem.boot_len (pa_cons (pv 1) pa_nil)) pe_int (nomark _))
      (pw_or1 (pt_not (pt_val (pe_cal c1 hr (pa_cons (pv 0) (pa_cons (pe_ix ix_tup (pv 1) pe_int (fun _ _ => rfl)) pa_nil))))))))) pss_dead pss_nil)
      (pss_one (ps_ret (pe_and (pe_cal c2 hr (pa_cons (pe_ix ix_tup (pv 1) pe_int (fun _ _ => rfl)) pa_nil)) (pe_one (pe_cmpR (op_neX hr.units) (pe_ix ix_tup (pv 1) pe_int (fun _ _ => rfl)) (pe_glob (v := .ref aN) rfl mN rfl) (nomark _)))))), ?_⟩
    refine q_no (t := none) trivial (eb_orF (eb_notT (ev_isTuple (ev_vis rfl) ha)) (eb_orF (eb_lenNe (ev_lenT (ev_vis rfl) ha) rfl) (eb_notT (ev_call2 (P1 := IsIn (· = (n : Int))) (ev_var rfl ⟨_, rfl, rfl⟩) (ev_pow (ev_var rfl hv)) fun x y H1 g1 ⟨_, e1, e2⟩ hm Q1 q1 => ⟨n, y, r.1, by rw [e1, e2], hm, hl, hz, hp, q1⟩)))) fun H1 g1 => ?_
    have hv1 : IsTm K r (.ref a) H1 := CZ.up g1 hv
    refine s_ret (t := none) (P := Is (.bl true)) trivial (ev_andT (ev_call1 (ev_cof (ev_var rfl hv1)) fun x H2 g2 hx Q1 q1 => ⟨x, r.2, rfl, hx, q1⟩) ((ev_neRat (ev_cof (ev_var rfl hv1)) (ev_glob (q := 0) hN rfl rfl)).imp fun v _ _ e => ?_)) fun v H2 g2 p => q v H2 (g1.trans g2) p
    rw [e, decide_eq_false h0]
    rfl
/-! ### is_poly -/
theorem sc18 : FnScope ["n", "thing", "term", "k"] ["n", "thing"] (defScope (topS 18)) := ⟨rfl, rfl, rfl, by decide +kernel, rfl, by decide +kernel, by decide +kernel⟩
def spIsPl (K : PySem.W.Frag) : Sp := fun vs H Q _ => ∃ (n : Nat) (v : V) (R : Pl) (M C N : Nat) (e : Int), vs = [.int n, v] ∧ IsPl K R v H ∧ Cn lt R ∧ Po n M C N e R ∧ n ≤ 1000 ∧ N ≤ 100000 ∧ After none H Q (Is (.bl true))
theorem ok_is_poly (bl : Blt mg) (d : DefAt K mg "is_poly" ["n", "thing"] (topS 18)) (c1 : Cal P w K mg base CX0 3 "is_term" ["n", "thing"] (spIsTm K)) : Cal P w K mg base CX0 4 "is_poly" ["n", "thing"] (spIsPl K) := by
  obtain ⟨f, fd, F, m, b⟩ := d
  refine ⟨f, fd, F.ok sc18 (fun vs H Q E h => ?_) (fun cdv A outer s H vs Q E hr h => ?_), m, F.kp, b⟩
  · obtain ⟨_, _, _, _, _, _, _, rfl, _⟩ := h; rfl
  · obtain ⟨n, v, R, M, C, N, e, rfl, ⟨a, xs, rfl, ha, hR⟩, hc, hP, hz, hN, q⟩ := h
    have hlen : xs.length = R.length := (paired_len hR).symm
    have hle := hP.len
    refine ⟨_, pss_cons (ps_if (PW.pt (pw_or (pt_not (pt_val (pe_callB call_isi (by rfl) bl.isinstance boot_isinstance (pa_cons (pv 1) (pa_cons (pe_bltn (v := .ty "tuple") rfl bl.tuple boot_tuple rfl) pa_nil)))))
      (pw_or1 (pt_not (pt_val (pe_callB (cr_all rfl) (by rfl) bl.all boot_all (pa_cons (pe_lc (own := [("term", 2)]) (g := gName 2) rfl sc18.nd (pi_tup (pv 1)) (blkOk_by (N := ["n", "thing", "term", "k"]) (sc := defScope (topS 18)) (by decide +kernel)) (fun _ _ _ _ _ => pg_name (i := 2) sc18.nd rfl (Or.inl rfl)) (fun _ _ _ _ _ => pts_nil)
        (fun _ _ _ _ _ => pe_cal c1 hr (pa_cons (pv 0) (pa_cons (pv 2) pa_nil)))) pa_nil))))))) pss_dead pss_nil)
      (pss_one (ps_ret (pe_callB (cr_all rfl) (by rfl) bl.all boot_all (pa_cons (pe_lc (own := [("k", 3)]) (g := gName 3) rfl sc18.nd (pi_range2 rfl bl.range (pa_cons pe_int (pa_cons (pe_callB call_len_seq (by rfl) bl.len PySem.boot_len (pa_cons (pv 1) pa_nil)) pa_nil))) (blkOk_by (N := ["n", "thing", "term", "k"]) (sc := defScope (topS 18)) (by decide +kernel)) (fun _ _ _ _ _ => pg_name (i := 3) sc18.nd rfl (Or.inl rfl)) (fun _ _ _ _ _ => pts_nil)
        (fun _ _ _ _ _ => pe_cmpR (r := rGtT K) (op_gtT (Nat.lt_of_le_of_lt (Nat.le_add_right _ 64) (Room.units hr))) (pe_ix (r := rIxT K) ix_tup (pe_ix (r := rIxT K) ix_tup (pv 1) (pe_op op_sub (pv 3) pe_int) (fun _ _ => rfl)) pe_int (fun _ _ => rfl)) (pe_ix (r := rIxT K) ix_tup (pe_ix (r := rIxT K) ix_tup (pv 1) (pv 3) (fun _ _ => rfl)) pe_int (fun _ _ => rfl)) (nomark _))) pa_nil)))), ?_⟩
    refine q_no (t := none) trivial (eb_orF (eb_notT (ev_isTuple (ev_vis rfl) ha)) (eb_notT (ev_allT (turns_tup (ev_vis rfl) ha) (by omega) (fun i σ2 H2 ⟨x, _, e⟩ => by subst e; rfl) fun i σ2 H2 hi g2 ⟨x, ex, e⟩ => ?_))) fun H1 g1 => ?_
    · subst e
      obtain ⟨r, er, hr'⟩ := paired_at hR ex
      have hm := List.mem_of_getElem? er
      exact ev_call2 (P1 := IsIn (· = (n : Int))) (P2 := IsTm K r) (ev_var rfl ⟨_, rfl, rfl⟩) (ev_var rfl (CZ.up g2 hr')) fun x y H3 g3 ⟨_, e1, e2⟩ hy Q1 q1 => ⟨n, y, r, by rw [e1, e2], hy, (hP.mon r hm).1, hz, fun k hk => ((hP.mon r hm).2 k hk).1, hc.nz r hm, q1⟩
    · refine s_ret (t := none) trivial (ev_allT (turns_range2 (lo := 1) (n := (xs.length : Int)) (fun H2 g2 Q1 q1 => ea_2 ev_int (ev_lenT (ev_vis rfl) (g1.sqT ha)) H2 g2 Q1 fun vs H3 g3 ⟨v, u, e, ⟨_, e1, e2⟩, ⟨_, e3, e4⟩⟩ => q1 vs H3 g3 (by rw [e, e1, e2, e3, e4])) (by omega) (by omega)) (by omega) (fun i σ2 H2 e => by subst e; rfl) fun i σ2 H2 hi g2 e => ?_) fun v H2 g2 p => q v H2 (g1.trans g2) p
      subst e
      have hi1 : i + 1 < xs.length := by omega
      have hR2 : Paired (fun s v => IsTm K s v H2) R xs := paired_mono (g1.trans g2).tx hR
      obtain ⟨r1, er1, hr1⟩ := paired_at hR2 (List.getElem?_eq_getElem (show i < xs.length by omega))
      obtain ⟨r2, er2, hr2⟩ := paired_at hR2 (List.getElem?_eq_getElem hi1)
      have hlt : lt r2.1 r1.1 = true := by
        have h1 := (List.getElem?_eq_some_iff.mp er1)
        have h2 := (List.getElem?_eq_some_iff.mp er2)
        obtain ⟨l1, e1⟩ := h1
        obtain ⟨l2, e2⟩ := h2
        have := List.pairwise_iff_getElem.mp hc.desc i (i + 1) l1 l2 (Nat.lt_succ_self i)
        rw [e1, e2] at this
        exact this
      have hs2 := (g1.trans g2).sqT ha
      have at1 : EvP none (tOp (rIxT K) (tOp (rIxT K) (tVar 1) (tOp (rI0 fun i j => .int (i - j)) (tVar 3) (tC (.int 1)))) (tC (.int 0))) ((wipe (start ["n", "thing", "term", "k"] [V.int n, V.ref a]) [3]).set 3 (some (.int (1 + (i : Int))))) H2 (IsMon r1.1) :=
        ev_pow (ev_ixT (ev_vis rfl) (ev_rI0E (i := 1 + (i : Int)) (j := 1) (f := fun i j => i - j) (ev_var rfl ⟨_, rfl, rfl⟩) ev_int) hs2 (by rw [show (1 + (i : Int) - 1) = ((i : Nat) : Int) by omega]; exact atI_nat (List.getElem?_eq_getElem (show i < xs.length by omega))) hr1)
      have at2 : EvP none (tOp (rIxT K) (tOp (rIxT K) (tVar 1) (tVar 3)) (tC (.int 0))) ((wipe (start ["n", "thing", "term", "k"] [V.int n, V.ref a]) [3]).set 3 (some (.int (1 + (i : Int))))) H2 (IsMon r2.1) :=
        ev_pow (ev_ixT (ev_vis rfl) (ev_var (P := IsIn (· = 1 + (i : Int))) rfl ⟨_, rfl, rfl⟩) hs2 (by rw [show (1 + (i : Int)) = ((i + 1 : Nat) : Int) by omega]; exact atI_nat (List.getElem?_eq_getElem hi1)) hr2)
      exact fun H3 g3 Q1 q1 => at1 H3 g3 _ fun u H4 g4 p4 => at2 H4 (g3.trans g4) _ fun u2 H5 g5 p5 => by
        obtain ⟨b1, rfl, z1⟩ := CZ.up g5 p4
        obtain ⟨b2, rfl, z2⟩ := p5
        exact ⟨b1, b2, r1.1, r2.1, rfl, rfl, SqT.of z1, SqT.of z2, q1 _ H5 (g4.trans g5) (by rw [show HT.lexLt r2.1 r1.1 = true from hlt]; rfl)⟩
end
end CZ
/-! gathered, _law_gathered. -/
namespace CZ
open PySem PySem.Spec PyProof.Rows L2
theorem pi_or {X : Cx} {tg e : Expr} {w1 w2 : TI} (h1 : PI X tg e w1) (h2 : PI X tg e w2) : PI X tg e (fun σ H R => w1 σ H R ∨ w2 σ H R) := ⟨fun pins s σ H R I h => h.elim (h1.run pins s σ H R I) (h2.run pins s σ H R I)⟩
theorem paired_imp {α β : Type} {F G : α → β → Prop} (h : ∀ a b, F a b → G a b) : ∀ {as : List α} {bs : List β}, Paired F as bs → Paired G as bs
  | _, _, .nil => .nil
  | _, _, .cons a b => .cons (h _ _ a) (paired_imp h b)
/-- all but d stands -/
def KpBut (d : Addr) (H H' : Hp) : Prop := ∀ b o, b ≠ d → H b = some o → H' b = some o
section
variable {t : TT'} {K : PySem.W.Frag} {σ : L2.St} {H H' : Hp} {ta tb tc te : TE} {d : Addr} {kvs : List (List L2.Key × V)} {T : Pl}
theorem KpBut.refl : KpBut d H H := fun _ _ _ h => h
theorem KpBut.gx {H2 : Hp} (k : KpBut d H H') (g : Gx none H' H2) : KpBut d H H2 := fun b o n h => g.keep b o (k b o n h) fun _ z => nomatch z
theorem KpBut.upd {o : HO} (k : KpBut d H H') : KpBut d H (L2.upd H' d o) := fun b u n h => by rw [upd_ne n]; exact k b u n h
theorem KpBut.tx (hd : H d = some (.dT kvs)) (k : KpBut d H H') : Tx H H' := ⟨fun a xs h => k a _ (ne_of h hd fun z => nomatch z) h, fun a o u h => k a _ (ne_of h hd fun z => nomatch z) h⟩
theorem KpBut.lst {a : Addr} {xs : List V} (hd : H d = some (.dT kvs)) (k : KpBut d H H') (h : H a = some (.lst xs)) : H' a = some (.lst xs) := k a _ (ne_of h hd fun z => nomatch z) h
/-- reads of the table -/
theorem ev_dget2 {m : Mon} (h1 : EvP t ta σ H (Is (.ref d))) (h2 : EvP t tb σ H (IsMon m)) (h3 : EvP t tc σ H (IsRat K 0)) (hd : H d = some (.dT kvs)) (tab : Tab K T kvs H) : EvP t (tDGet2 ta tb tc) σ H (IsRat K ((getM T m).getD 0)) := fun H1 g Q q =>
  h1 H1 g _ fun x H2 g2 e => ⟨d, e, .inr ⟨_, .inl ((g.trans g2).dT hd)⟩, h2 H2 (g.trans g2) _ fun y H3 g3 hy => h3 H3 ((g.trans g2).trans g3) _ fun z H4 g4 hz => by
    obtain ⟨b, rfl, hb⟩ := CZ.up g4 hy
    have g0 := ((g.trans g2).trans g3).trans g4
    have dg : DGet H4 d (.ref b) (valV kvs (inl' m)) := DGet.t (g0.dT hd) (by rw [kV_inl]; exact hb)
    refine ⟨_, dg, ?_⟩
    rcases Tab.get m (tab.up g0.tx) with ⟨e1, e2⟩ | ⟨r, v, e1, e2, hv⟩
    · rw [e2]
      exact q _ H4 ((g2.trans g3).trans g4) (by rw [e1]; exact hz)
    · rw [e2]
      exact q _ H4 ((g2.trans g3).trans g4) (by rw [e1]; exact hv)⟩
theorem ev_dgetT {m : Mon} {r : Rat} (h1 : EvP t ta σ H (Is (.ref d))) (h2 : EvP t tb σ H (IsMon m)) (hd : H d = some (.dT kvs)) (tab : Tab K T kvs H) (hr : getM T m = some r) : EvP t (tDGet ta tb) σ H (IsRat K r) := fun H1 g Q q =>
  h1 H1 g _ fun x H2 g2 e => h2 H2 (g.trans g2) _ fun y H3 g3 hy => by
    obtain ⟨b, rfl, hb⟩ := hy
    have g0 := (g.trans g2).trans g3
    have dg : DGet H3 d (.ref b) (valV kvs (inl' m)) := DGet.t (g0.dT hd) (by rw [kV_inl]; exact hb)
    rcases Tab.get m (tab.up g0.tx) with ⟨e1, e2⟩ | ⟨r', v, e1, e2, hv⟩
    · rw [hr] at e1; cases e1
    · rw [hr] at e1
      obtain rfl := Option.some.inj e1
      rw [e2] at dg
      exact ⟨d, v, e, dg, q v H3 (g2.trans g3) hv⟩
/-- sorted(table, reverse=True) -/
theorem el_sort {tk : TA} {ms : List Mon} (h1 : EvP t ta σ H (Is (.ref d))) (hk : EvA t tk σ H (fun vs _ => vs = [.bl true])) (hd : H d = some (.dT kvs)) (hms : kvs.map (·.1) = ms.map inl') (hne : ∀ m ∈ ms, m ≠ []) :
    EvL t (tCKw rSortRD (tCons ta tNil) tk) σ H (fun xs H' => ∃ bs : List Addr, xs = bs.map V.ref ∧ Paired (fun (m : Mon) b => H' b = some (.tup (m.map V.int))) (sorted ms) bs) := fun H1 g Q q =>
  h1 H1 g _ fun x H2 g2 e => hk H2 (g.trans g2) _ fun zs H3 g3 e2 => ⟨d, kvs, ms, by rw [e], e2, ((g.trans g2).trans g3).dT hd, hms, hne, fun ks bs p hp hw hb hn => by
    have eks := sorted_uniq hp hw
    subst eks
    have g4 : Gx t H3 (upd H3 p (.lst (bs.map V.ref))) := Gx.new g3.t1 hn
    refine q p _ _ (g2.trans g3 |>.fresh hn) ((g2.trans g3).trans g4) upd_same ⟨bs, rfl, ?_⟩
    exact paired_imp (fun m b h => g4.tup h) hb⟩
theorem os_filter {f : Tm → Bool} : ∀ {S : Pl} {os : List (Option Tm)}, os.length = S.length → (∀ (i : Nat) o, os[i]? = some o → ∃ s, S[i]? = some s ∧ o = if f s = true then some s else none) → os.filterMap id = S.filter f
  | [], [], _, _ => rfl
  | [], _ :: _, h, _ => by simp at h
  | _ :: _, [], h, _ => by simp at h
  | s :: S, o :: os, h, k => by
    obtain ⟨s', e1, e2⟩ := k 0 o rfl
    have e1' : s = s' := Option.some.inj e1
    subst e1'
    have ih := os_filter (f := f) (S := S) (os := os) (by simpa using h) fun i o' e => by
      obtain ⟨z, z1, z2⟩ := k (i + 1) o' (by simpa using e)
      exact ⟨z, by simpa using z1, z2⟩
    rw [e2]
    by_cases hf : f s = true
    · rw [if_pos hf, List.filter_cons_of_pos hf, ← ih]; rfl
    · rw [if_neg hf, List.filter_cons_of_neg hf, ← ih]; rfl
theorem ev_gathC {tk : TA} {tt : TT} {j : Nat} (h1 : EvP t ta σ H (Is (.ref d))) (hk : EvA t tk σ H (fun vs _ => vs = [.bl true])) (hd : H d = some (.dT kvs)) (tab : Tab K T kvs H) (hn : (T.map (·.1)).Nodup) (hne : ∀ s ∈ T, s.1 ≠ []) (hlen : T.length ≤ 100000)
    (htt : ∀ (m : Mon) (r : Rat) (v : V) H1, Gx t H H1 → IsMon m v H1 → getM T m = some r → EvB t tt ((wipe σ [j]).set j (some v)) H1 (· = decide (r ≠ 0)))
    (hte : ∀ (m : Mon) (r : Rat) (v : V) H1, Gx t H H1 → IsMon m v H1 → getM T m = some r → EvP t te ((wipe σ [j]).set j (some v)) H1 (IsTm K (m, r))) :
    EvP t (tCB (rTupF K) (tCons (tLc (iList K (tCKw rSortRD (tCons ta tNil) tk)) (gName j) tt te [j]) tNil)) σ H (TupF (IsTm K) (gath T)) := by
  have hlk : (sortT T).length = T.length := (sortT_perm hn).length_eq
  have hsl : (sorted (T.map (·.1))).length = T.length := by rw [(sorted_perm _).length_eq, List.length_map]
  -- the place's term
  have key : ∀ (i : Nat) (m : Mon), (sorted (T.map (·.1)))[i]? = some m → ∃ r, getM T m = some r ∧ (sortT T)[i]? = some (m, r) := fun i m e => by
    have hm : m ∈ T.map (·.1) := (sorted_perm _).mem_iff.mp (List.mem_of_getElem? e)
    obtain ⟨s, hs, rfl⟩ := List.mem_map.mp hm
    have hg := getM_of hn hs
    refine ⟨s.2, hg, ?_⟩
    unfold sortT
    rw [List.getElem?_map, e, Option.map_some, hg]
    rfl
  refine (ev_tupF (R := IsTm K) (A := fun as => as = gath T) fun H1 g1 Q q => ?_).imp fun v _ _ ⟨as, e, h⟩ => e ▸ h
  refine ev_lcIf (α := Tm) (R := IsTm K) (C := fun i s => (sortT T)[i]? = some s) (f := fun i => match (sortT T)[i]? with | some s => decide (s.2 ≠ 0) | none => false) (fun _ _ g => g)
    (turns_listN (n := T.length) (el_sort h1 hk hd tab.keys (fun m hm => by
      obtain ⟨s, hs, rfl⟩ := List.mem_map.mp hm
      exact hne s hs)) (fun xs H1 ⟨bs, e, p⟩ => by rw [e, List.length_map, ← paired_len p, hsl]) fun xs H1 H2 g ⟨bs, e, p⟩ => ⟨bs, e, paired_imp (fun m b h => g.tup _ _ h) p⟩) hlen ?_ ?_ ?_ H1 g1 Q fun p xs H2 hp g2 e ⟨os, ho, hC, hR⟩ => q p xs H2 hp g2 e ⟨_, ?_, hR⟩
  · rintro i σ2 H2 ⟨xs, x, _, _, rfl⟩
    show ((wipe σ [j]).set j (some x)).set j none = (σ.set j none)
    rw [List.set_set]
    show (σ.set j none).set j none = σ.set j none
    rw [List.set_set]
  · rintro i σ2 H2 hi g2 ⟨xs, x, ⟨bs, rfl, hp⟩, ex, rfl⟩
    rw [List.getElem?_map] at ex
    obtain ⟨b, eb, rfl⟩ := Option.map_eq_some_iff.mp ex
    obtain ⟨m, em, hm⟩ := paired_at hp eb
    obtain ⟨r, hr, es⟩ := key i m em
    rw [es]
    exact htt m r _ H2 g2 ⟨b, rfl, hm⟩ hr
  · rintro i σ2 H2 H3 hi g2 ⟨xs, x, ⟨bs, rfl, hp⟩, ex, rfl⟩ g3 _
    rw [List.getElem?_map] at ex
    obtain ⟨b, eb, rfl⟩ := Option.map_eq_some_iff.mp ex
    obtain ⟨m, em, hm⟩ := paired_at hp eb
    obtain ⟨r, hr, es⟩ := key i m em
    exact (hte m r _ H3 (g2.trans g3) ⟨b, rfl, g3.tup hm⟩ hr).imp fun v _ _ h => ⟨_, es, h⟩
  · refine os_filter (f := fun s : Tm => decide (s.2 ≠ 0)) (by rw [ho, hlk]) fun i o eo => ?_
    have hi : i < (sortT T).length := by
      have := (List.getElem?_eq_some_iff.mp eo).1
      omega
    refine ⟨(sortT T)[i], List.getElem?_eq_getElem hi, ?_⟩
    have hc := hC i o eo
    rw [List.getElem?_eq_getElem hi] at hc
    rcases hc with ⟨h1, h2⟩ | ⟨h1, s, h2, h3⟩
    · rw [h2, if_neg (by
        intro z
        have h1' : decide ((sortT T)[i].2 ≠ 0) = false := h1
        rw [z] at h1'
        cases h1')]
    · have h3' : (sortT T)[i] = s := Option.some.inj h3
      rw [h2, if_pos h1, h3']
end
end CZ
/-! gathered, _law_gathered. -/
namespace CZ
open PySem PySem.Spec PyProof.Rows L2
/-- a polynomial in its one form, within bounds, a given functional -/
structure GR (n M C N : Nat) (e : Int) (L : (Mon → Rat) → Rat) (R : Pl) : Prop where
  cn : Cn lt R
  po : Po n M C N e R
  ev : ∀ f, ev f R = L f
section
variable {P : Program} {w : World} {K : PySem.W.Frag} {mg : Str → Option Value} {base : Heap}
def spGath (K : PySem.W.Frag) : Sp := fun vs H Q _ => ∃ (a : Addr) (xs : List V) (ts : Pl) (n M C N : Nat) (e : Int), vs = [.ref a] ∧ (H a = some (.lst xs) ∨ SqT K H a xs) ∧ Paired (fun s v => IsTm K s v H) ts xs ∧ Po n M C N e ts ∧ 0 < n ∧ N ≤ 10000 ∧ 0 < M ∧ M < Big ∧ N * C < Big ∧
  After none H Q (fun v H' => ∃ R, GR n M (N * C) N e (fun f => ev f ts) R ∧ TupF (IsTm K) R v H')
theorem sc19 : FnScope ["terms", "table", "powers", "number"] ["terms"] (defScope (topS 19)) := ⟨rfl, rfl, rfl, by decide +kernel, rfl, by decide +kernel, by decide +kernel⟩
/-- over a list or a tuple of terms -/
theorem turns_tms {tl : TE} {σ : L2.St} {H : Hp} {a d : Addr} {xs : List V} {kvs : List (List L2.Key × V)} {ts : Pl} {i1 i2 : Nat} (h : EvP none tl σ H (Is (.ref a))) (hd : H d = some (.dT kvs)) (hx : H a = some (.lst xs) ∨ SqT K H a xs) (hR : Paired (fun s v => IsTm K s v H) ts xs) :
    Turns none (KpBut d) (fun σ H R => iList K tl σ H R ∨ iTup K tl σ H R) (gTup K 2 (gCons (gName i1) (gCons (gName i2) gNil))) σ H ts.length (fun σ1 i σ2 H2 => ∃ s u v, ts[i]? = some s ∧ IsMon s.1 u H2 ∧ IsRat K s.2 v H2 ∧ σ2 = (σ1.set i1 (some u)).set i2 (some v)) := fun H1 g Qt q => by
  have step : ∀ (H2 H3 : Hp) (i : Nat) (x : V), Gx none H H2 → KpBut d H2 H3 → xs[i]? = some x → Gx none H3 H3 ∧ ∀ (σ1 : L2.St) (Qg : L2.St → Hp → Prop), (∀ σ2 H5, Gx none H3 H5 → (∃ s u v, ts[i]? = some s ∧ IsMon s.1 u H5 ∧ IsRat K s.2 v H5 ∧ σ2 = (σ1.set i1 (some u)).set i2 (some v)) → Qg σ2 H5) → gTup K 2 (gCons (gName i1) (gCons (gName i2) gNil)) x σ1 H3 Qg := fun H2 H3 i x g2 k3 ex => by
    refine ⟨Gx.refl trivial, fun σ1 Qg qg => ?_⟩
    obtain ⟨s, es, hs⟩ := paired_at hR ex
    obtain ⟨p, u, v, rfl, hp, h1, h2⟩ := upx (k3.tx (g2.dT hd)) (CZ.up g2 hs)
    exact ⟨p, [u, v], rfl, hp, rfl, u, [v], rfl, v, [], rfl, rfl, qg _ _ (Gx.refl trivial) ⟨s, u, v, es, h1, h2, rfl⟩⟩
  have hl : ts.length = xs.length := paired_len hR
  rcases hx with hx | hx
  · refine .inl (h H1 g _ fun v H2 g2 e => ⟨a, e, ⟨xs, SqL.of ((g.trans g2).lstP hx)⟩, ?_⟩)
    rw [hl] at q
    exact q _ _ _ H2 g2 (walk_list (K := K) (a := a) (xs := xs)) (fun H3 k3 => SqL.of (k3.lst ((g.trans g2).dT hd) ((g.trans g2).lstP hx))) fun i x H3 H4 hi k3 y => by
      obtain ⟨rfl, hxi⟩ := y
      exact step H2 _ i x (g.trans g2) k3 hxi
  · refine .inr (h H1 g _ fun v H2 g2 e => ⟨a, e, ⟨xs, (g.trans g2).sqT hx⟩, ?_⟩)
    rw [hl] at q
    exact q _ _ _ H2 g2 (walk_tup (K := K) (a := a) (xs := xs)) (fun H3 k3 => (k3.tx ((g.trans g2).dT hd)).sqT ((g.trans g2).sqT hx)) fun i x H3 H4 hi k3 y => by
      obtain ⟨rfl, hxi⟩ := y
      exact step H2 _ i x (g.trans g2) k3 hxi
/-- the table behind i terms -/
structure TabI (K : PySem.W.Frag) (n M C : Nat) (e : Int) (ts : Pl) (i : Nat) (T : Pl) (kvs : List (List L2.Key × V)) (H : Hp) : Prop where
  tab : Tab K T kvs H
  nd : (T.map (·.1)).Nodup
  po : Po n M (i * C) i e T
  ev : ∀ f, ev f T = ev f (ts.take i)
theorem TabI.step {n M C i : Nat} {e : Int} {ts T : Pl} {kvs : List (List L2.Key × V)} {H : Hp} {s : Tm} {v : V} (h : TabI K n M C e ts i T kvs H) (es : ts[i]? = some s) (hc : IsB M C s.2) (hm : s.1.length = n ∧ ∀ k ∈ s.1, 0 ≤ k ∧ k ≤ e)
    (hv : IsRat K ((getM T s.1).getD 0 + s.2) v H) : TabI K n M C e ts (i + 1) (putM T s.1 ((getM T s.1).getD 0 + s.2)) (putK kvs (inl' s.1) v) H := by
  refine ⟨h.tab.put hv h.nd, putM_nodup h.nd, ⟨Nat.le_trans (putM_len _ _ _) (Nat.succ_le_succ h.po.len), fun t ht => ?_, fun t ht => ?_⟩, fun f => ?_⟩
  · rcases putM_mem ht with rfl | k
    · show IsB M ((i + 1) * C) ((getM T s.1).getD 0 + s.2)
      rw [Nat.succ_mul]
      cases hg : getM T s.1 with
      | none => exact ((IsB.zero M).mono (Nat.zero_le _)).add hc
      | some r => exact (h.po.cf _ (getM_mem hg)).add hc
    · exact (h.po.cf t k).mono (Nat.mul_le_mul_right _ (Nat.le_succ i))
  · rcases putM_mem ht with rfl | k
    · exact hm
    · exact h.po.mon t k
  · rw [ev_put, h.ev f]
    have e1 : ts.take (i + 1) = ts.take i ++ [s] := by
      rw [List.take_add_one, es]; rfl
    rw [e1, ev_append, ev_cons, ev_nil]
    grind
theorem get_sm {n M C N i : Nat} {e : Int} {ts T : Pl} {kvs : List (List L2.Key × V)} {H : Hp} (h : TabI K n M C e ts i T kvs H) (hi : i ≤ N) (h0 : 0 < M) (h1 : M < Big) (h2 : N * C < Big) (m : Mon) : Sm ((getM T m).getD 0) := by
  cases hg : getM T m with
  | none => exact (IsB.zero M).sm h0 h1 (Nat.lt_of_le_of_lt (Nat.zero_le _) h1)
  | some r => exact ((h.po.cf _ (getM_mem hg)).mono (Nat.mul_le_mul_right C hi)).sm h0 h1 h2
theorem ok_gathered (bl : Blt mg) (d : DefAt K mg "gathered" ["terms"] (topS 19)) (cN : CstAt K mg "NOUGHT" 0 1) (c1 : Cal P w K mg base CX0 3 "plus" ["one", "other"] (spPlus K)) : Cal P w K mg base CX0 4 "gathered" ["terms"] (spGath K) := by
  obtain ⟨f, fd, F, m, b⟩ := d
  obtain ⟨aN, mN, hN⟩ := cN
  refine ⟨f, fd, F.ok sc19 (fun vs H Q E h => ?_) (fun cdv A outer s H vs Q E hr h => ?_), m, F.kp, b⟩
  · obtain ⟨_, _, _, _, _, _, _, _, rfl, _⟩ := h; rfl
  · obtain ⟨a, xs, ts, n, M, C, N, e, rfl, hx, hR, hP, hn0, hz, h0, h1, h2, q⟩ := h
    refine ⟨_, pss_cons (ps_set (i := 1) sc19.nd rfl (Or.inr rfl) pe_dnewT)
      (pss_cons (ps_for PassesOwn.never rfl (pi_or (pi_list (pv 0)) (pi_tup (pv 0))) (pg_tup rfl (pgs_cons (pg_name (i := 2) sc19.nd rfl (Or.inl rfl)) (pgs_cons (pg_name (i := 3) sc19.nd rfl (Or.inl rfl)) pgs_nil)))
        (pss_one (ps_dput (hu_of hr) (pv 1) (pv 2) (pe_cal c1 hr (pa_cons (pe_dget2 (hu_of hr) (pv 1) (pv 2) (pe_glob (v := .ref aN) rfl mN rfl) ⟨rfl, rfl, rfl, rfl⟩) (pa_cons (pv 3) pa_nil))) rfl)))
      (pss_one (ps_ret (pe_callTy (r := rTupF K) call_tupF (by rfl) bl.tuple boot_tuple (pa_cons (pe_lc (own := [("powers", 2)]) (g := gName 2) (tt := tTest (tOp (rNeX K) (tDGet (tVar 1) (tVar 2)) (tC (.ref aN)))) rfl sc19.nd (pi_list (pe_callBK (cr_sortRD rfl) (by rfl) bl.sorted boot_sorted (pa_cons (pv 1) pa_nil) (pk_cons pe_bl pk_nil)))
        (blkOk_by (N := ["terms", "table", "powers", "number"]) (sc := defScope (topS 19)) (by decide +kernel)) (fun _ _ _ _ _ => pg_name (i := 2) sc19.nd rfl (Or.inl rfl))
        (fun _ _ _ _ _ => pts_one (pt_cmpR (r := rNeX K) (op_neX (Room.units hr)) (pe_dget (hu_of hr) (pv 1) (pv 2) (fun _ _ => rfl)) (pe_glob (v := .ref aN) rfl mN rfl) (nomark _)))
        (fun _ _ _ _ _ => pe_tup (pa_cons (pv 2) (pa_cons (pe_dget (hu_of hr) (pv 1) (pv 2) (fun _ _ => rfl)) pa_nil)))) pa_nil))))), ?_⟩
    refine fun D nD => ?_
    have hlN := hP.len
    have gD : Gx none H (upd H D (.dT [])) := Gx.new trivial nD
    have hx1 : (upd H D (.dT [])) a = some (.lst xs) ∨ SqT K (upd H D (.dT [])) a xs := hx.imp (fun z => gD.lstP z) fun z => gD.sqT z
    have hR1 := paired_mono gD.tx hR
    refine q_for (t := none) (Rl := KpBut D) trivial (turns_tms (ev_vis rfl) upd_same hx1 hR1)
      (fun H1 i σ1 H2 => KpBut D H1 H2 ∧ ∃ T kvs a2 a3, σ1 = [some (.ref a), some (.ref D), a2, a3] ∧ H2 D = some (.dT kvs) ∧ TabI K n M C e ts i T kvs H2)
      (fun H1 g1 => ⟨KpBut.refl, [], [], none, none, rfl, g1.dT upd_same, .nil, List.nodup_nil, ⟨Nat.zero_le _, (fun _ z => nomatch z), (fun _ z => nomatch z)⟩, fun f => rfl⟩) (fun _ _ _ _ _ z => z.1)
      (fun H0 i σ1 σ2 H1 H2 hi g0 ⟨k1, T, kvs, a2, a3, eσ, hd, I⟩ g2 ⟨s, u, v, es, hu, hv, e2⟩ => ?_) (fun H0 σ1 H1 g0 ⟨k1, T, kvs, a2, a3, eσ, hd, I⟩ => ?_)
    · subst eσ; subst e2
      have hs := List.mem_of_getElem? es
      have hd2 := g2.dT hd
      have hm := hP.mon s hs
      have hcs := hP.cf s hs
      have hiN : i < N := by omega
      have hCN : C ≤ N * C := Nat.le_mul_of_pos_left C (by omega)
      refine (ev_call2 (t := none) (P := IsRat K ((getM T s.1).getD 0 + s.2)) (ev_dget2 (ev_vis rfl) (ev_var rfl hu) (ev_glob (q := 0) hN rfl rfl) hd2 (I.tab.up g2.tx)) (ev_var rfl hv) fun x y H3 g3 hx hy Q1 q1 => ⟨x, y, _, _, rfl, hx, hy, get_sm I (Nat.le_of_lt hiN) h0 h1 h2 _, hcs.sm h0 h1 (Nat.lt_of_le_of_lt hCN h2), q1⟩) H2 (Gx.refl (t := none) trivial) _ fun z H3 g3 hz3 => ?_
      refine ⟨_, rfl, _, rfl, D, upd H3 D (.dT (putK kvs (inl' s.1) z)), rfl, ?_, ?_⟩

      · obtain ⟨b, rfl, hb⟩ := CZ.up g3 hu
        refine DPut.t (k := inl' s.1) (g3.dT hd2) (by rw [kV_inl]; exact hb) ?_
        have := I.po.len
        rw [← List.length_map (f := Prod.fst) (as := kvs), I.tab.keys, List.length_map, List.length_map]
        exact Nat.lt_of_le_of_lt (show T.length ≤ 10000 by omega) (by decide)
      · have tx : Tx H3 (upd H3 D (.dT (putK kvs (inl' s.1) z))) := Tx.dT (g3.dT hd2)
        have I3 : TabI K n M C e ts i T kvs H3 := ⟨I.tab.up (g2.trans g3).tx, I.nd, I.po, I.ev⟩
        have I4 := I3.step es hcs hm hz3
        exact ⟨(k1.gx (g2.trans g3)).upd, _, _, some u, some v, rfl, upd_same, I4.tab.up tx, I4.nd, I4.po, I4.ev⟩
    · subst eσ
      have ek : ts.take ts.length = ts := List.take_length
      have evT : ∀ f, CZ.ev f T = CZ.ev f ts := fun f => by rw [I.ev, ek]
      have hT : Po n M (N * C) N e T := I.po.mono (Nat.mul_le_mul_right C hlN) hlN (Int.le_refl _)
      have ne : ∀ s ∈ T, s.1 ≠ [] := fun s hs z => by
        have := (I.po.mon s hs).1
        rw [z] at this
        exact absurd this.symm (by rw [List.length_nil]; omega)
      have rd : ∀ (m : Mon) (r : Rat) (v : V) H2, Gx none H1 H2 → IsMon m v H2 → getM T m = some r → EvP none (tDGet (tVar 1) (tVar 2)) ((wipe [some (.ref a), some (.ref D), a2, a3] [2]).set 2 (some v)) H2 (IsRat K r) := fun m r v H2 g2 hm hr =>
        ev_dgetT (ev_vis rfl) (ev_var rfl hm) (g2.dT hd) (I.tab.up g2.tx) hr
      refine s_ret (t := none) trivial (ev_gathC (T := T) (d := D) (kvs := kvs) (ev_vis rfl) (ea_is1 (ev_c rfl)) hd I.tab I.nd ne (by have := hT.len; omega) (fun m r v H2 g2 hm hr => ?_) (fun m r v H2 g2 hm hr => ev_tm (ev_var rfl hm) (rd m r v H2 g2 hm hr))) fun v H2 g2 p => ?_
      · exact (eb_testE (ev_neRat (rd m r v H2 g2 hm hr) (ev_glob (q := 0) hN rfl rfl)) : EvB none _ _ _ _) |> fun h => by
          rw [show decide (r ≠ 0) = !decide (r = 0) from by simp]
          exact h
      · refine q v H2 ⟨fun b o hb _ => ?_, trivial, trivial⟩ ⟨gath T, ⟨gath_cn I.nd, gath_po I.nd hT, fun f => by rw [gath_ev I.nd, evT]⟩, p⟩
        have nb : b ≠ D := ne_of_none hb nD
        exact g2.keep b o (k1 b o nb (g0.keep b o (gD.keep b o hb fun _ z => nomatch z) fun _ z => nomatch z)) fun _ z => nomatch z
/-! ### _law_gathered -/
def spLGath (K : PySem.W.Frag) : Sp := fun vs H Q _ => ∃ (d : Addr) (kvs : List (List L2.Key × V)) (T : Pl) (n M C N : Nat) (e : Int), vs = [.ref d] ∧ H d = some (.dT kvs) ∧ Tab K T kvs H ∧ (T.map (·.1)).Nodup ∧ Po n M C N e T ∧ 0 < n ∧ N ≤ 10000 ∧
  After none H Q (fun v H' => GR n M C N e (fun f => ev f T) (gath T) ∧ TupF (IsTm K) (gath T) v H')
theorem sc39 : FnScope ["_law_table", "_law_powers"] ["_law_table"] (defScope (topS 39)) := ⟨rfl, rfl, rfl, by decide +kernel, rfl, by decide +kernel, by decide +kernel⟩
theorem ok_law_gathered (bl : Blt mg) (d : DefAt K mg "_law_gathered" ["_law_table"] (topS 39)) : Cal P w K mg base CX0 1 "_law_gathered" ["_law_table"] (spLGath K) := by
  obtain ⟨f, fd, F, m, b⟩ := d
  refine ⟨f, fd, F.ok sc39 (fun vs H Q E h => ?_) (fun cdv A outer s H vs Q E hr h => ?_), m, F.kp, b⟩
  · obtain ⟨_, _, _, _, _, _, _, _, rfl, _⟩ := h; rfl
  · obtain ⟨D, kvs, T, n, M, C, N, e, rfl, hd, tab, nd, hT, hn0, hz, q⟩ := h
    refine ⟨_, pss_one (ps_ret (pe_callTy (r := rTupF K) call_tupF (by rfl) bl.tuple boot_tuple (pa_cons (pe_lc (own := [("_law_powers", 1)]) (g := gName 1) (tt := tTest (tOp rNe (tOp (rIxT K) (tDGet (tVar 0) (tVar 1)) (tC (.int 0))) (tC (.int 0)))) rfl sc39.nd (pi_list (pe_callBK (cr_sortRD rfl) (by rfl) bl.sorted boot_sorted (pa_cons (pv 0) pa_nil) (pk_cons pe_bl pk_nil)))
        (blkOk_by (N := ["_law_table", "_law_powers"]) (sc := defScope (topS 39)) (by decide +kernel)) (fun _ _ _ _ _ => pg_name (i := 1) sc39.nd rfl (Or.inl rfl))
        (fun _ _ _ _ _ => pts_one (pt_cmpR op_ne (pe_ix (r := rIxT K) ix_tup (pe_dget (hu_of hr) (pv 0) (pv 1) (fun _ _ => rfl)) pe_int (fun _ _ => rfl)) pe_int (nomark _)))
        (fun _ _ _ _ _ => pe_tup (pa_cons (pv 1) (pa_cons (pe_dget (hu_of hr) (pv 0) (pv 1) (fun _ _ => rfl)) pa_nil)))) pa_nil))), ?_⟩
    have ne : ∀ s ∈ T, s.1 ≠ [] := fun s hs z => by
      have := (hT.mon s hs).1
      rw [z] at this
      exact absurd this.symm (by rw [List.length_nil]; omega)
    have rd : ∀ (m : Mon) (r : Rat) (v : V) H2, Gx none H H2 → IsMon m v H2 → getM T m = some r → EvP none (tDGet (tVar 0) (tVar 1)) ((wipe [some (.ref D), none] [1]).set 1 (some v)) H2 (IsRat K r) := fun m r v H2 g2 hm hr =>
      ev_dgetT (ev_vis rfl) (ev_var rfl hm) (g2.dT hd) (tab.up g2.tx) hr
    refine s_ret (t := none) trivial (ev_gathC (T := T) (d := D) (kvs := kvs) (ev_vis rfl) (ea_is1 (ev_c rfl)) hd tab nd ne (by have := hT.len; omega) (fun m r v H2 g2 hm hr => ?_) (fun m r v H2 g2 hm hr => ev_tm (ev_var rfl hm) (rd m r v H2 g2 hm hr))) fun v H2 g2 p => ?_
    · refine eb_testE ((ev_neE (ev_num (rd m r v H2 g2 hm hr)) ev_int).imp fun v _ _ h => ?_)
      rw [h, show decide (r.num = 0) = decide (r = 0) from decide_eq_decide.mpr Rat.num_eq_zero]
      simp [Is]
    · exact q v H2 g2 ⟨⟨gath_cn nd, gath_po nd hT, fun f => gath_ev nd f⟩, p⟩
end
end CZ
/-! one_of, added, by_term, product, sum_of, are_multiples. -/
namespace CZ
open PySem PySem.Spec PyProof.Rows L2
/-- () -/
def tTup0 : TE := fun _ H Q => ∀ p, H p = none → Q (.ref p) (upd H p (.tup []))
section
variable {t : TT'} {K : PySem.W.Frag} {σ : L2.St} {H H' : Hp} {ta tb tc te : TE} {D : Addr}
theorem KpBut.txL {ys : List V} (hd : H D = some (.lst ys)) (k : KpBut D H H') : Tx H H' := ⟨fun a xs h => k a _ (ne_of h hd fun z => nomatch z) h, fun a o u h => k a _ (ne_of h hd fun z => nomatch z) h⟩
theorem ev_empty {α : Type} {R : α → V → Hp → Prop} [∀ a, Mo (R a)] : EvP t (tTup tNil) σ H (TupOf K R []) := ev_tupA ea_nil (fun vs _ e => by rw [e]; exact Nat.zero_le _) fun vs H1 H2 p _ e _ h => ⟨p, [], rfl, SqT.of (by rw [h, e]), .nil⟩
theorem ev_cat {P R : Pl} (h1 : EvP t ta σ H (IsPl K P)) (h2 : EvP t tb σ H (IsPl K R)) (hl : P.length + R.length ≤ 100000) : EvP t (tOp (rCatA K) ta tb) σ H (IsPl K (P ++ R)) := fun H1 g Q q =>
  h1 H1 g _ fun v H2 g2 p1 => h2 H2 (g.trans g2) _ fun u H3 g3 p2 => by
    obtain ⟨a, xs, rfl, ha, hR1⟩ := CZ.up g3 p1
    obtain ⟨b, ys, rfl, hb, hR2⟩ := p2
    have l1 := paired_len hR1
    have l2 := paired_len hR2
    refine ⟨a, b, xs, ys, rfl, rfl, ha, hb, Nat.le_trans (show xs.length + ys.length ≤ 100000 by omega) (by decide), fun e => ?_, fun _ e => ?_, fun _ _ p hp => ?_⟩
    · subst e
      cases hR1
      exact q _ H3 (g2.trans g3) ⟨b, ys, rfl, hb, hR2⟩
    · subst e
      cases hR2
      exact q _ H3 (g2.trans g3) ⟨a, xs, rfl, ha, by rw [List.append_nil]; exact hR1⟩
    · have g4 : Gx t H3 (upd H3 p (.tup (xs ++ ys))) := Gx.new g3.t1 hp
      exact q _ _ ((g2.trans g3).trans g4) ⟨p, xs ++ ys, rfl, SqT.of upd_same, paired_append (paired_mono g4.tx hR1) (paired_mono g4.tx hR2)⟩
/-- (0,) * n -/
theorem ev_zeros {n : Nat} (h2 : EvP t tb σ H (IsIn (· = (n : Int)))) (hn : 1 ≤ n ∧ n ≤ 1000) : EvP t (tOp (fun x y H Q => rRepT K x y H Q ∨ rRep1 K x y H Q) (tTup (tCons (tC (.int 0)) tNil)) tb) σ H (IsMon (List.replicate n 0)) := fun H1 g Q q =>
  (ev_tupA (P := IsMon [0]) (ea_1 (ev_int (i := 0))) (fun vs _ ⟨v, e, _⟩ => by rw [e]; exact (by decide : 1 ≤ 1000)) fun vs H1 H2 p _ ⟨v, e, _, e1, e2⟩ _ h => ⟨p, rfl, by rw [h, e, e1, e2]; rfl⟩) H1 g _ fun v H2 g2 hv => h2 H2 (g.trans g2) _ fun u H3 g3 ⟨_, e1, e2⟩ => by
    obtain ⟨a, rfl, ha⟩ := CZ.up g3 hv
    subst e1; subst e2
    by_cases h1 : n = 1
    · subst h1
      exact .inr ⟨a, _, rfl, rfl, SqT.of ha, q _ H3 (g2.trans g3) ⟨a, rfl, ha⟩⟩
    · refine .inl ⟨a, (n : Int), _, rfl, rfl, SqT.of ha, (fun z => nomatch z), by omega, by omega, (by decide : 1 ≤ 1000), fun p hp => ?_⟩
      have g4 : Gx t H3 (upd H3 p (.tup (List.replicate (n : Int).toNat ([0].map V.int)).flatten)) := Gx.new g3.t1 hp
      refine q _ _ ((g2.trans g3).trans g4) ⟨p, rfl, ?_⟩
      rw [upd_same, List.map_replicate, Int.toNat_natCast, List.map_singleton, List.flatten_replicate_singleton]
end
section
variable {P : Program} {w : World} {K : PySem.W.Frag} {mg : Str → Option Value} {base : Heap}
/-! ### one_of -/
theorem sc23 : FnScope ["n"] ["n"] (defScope (topS 23)) := ⟨rfl, rfl, rfl, by decide +kernel, rfl, by decide +kernel, by decide +kernel⟩
def oneP (n : Nat) : Pl := [(List.replicate n 0, 1)]
def spOne (K : PySem.W.Frag) : Sp := fun vs H Q _ => ∃ n : Nat, vs = [.int n] ∧ 1 ≤ n ∧ n ≤ 1000 ∧ After none H Q (IsPl K (oneP n))
theorem ok_one_of (d : DefAt K mg "one_of" ["n"] (topS 23)) (cO : CstAt K mg "ONE" 1 1) : Cal P w K mg base CX0 1 "one_of" ["n"] (spOne K) := by
  obtain ⟨f, fd, F, m, b⟩ := d
  obtain ⟨aO, mO, hO⟩ := cO
  refine ⟨f, fd, F.ok sc23 (fun vs H Q E h => ?_) (fun cdv A outer s H vs Q E hr h => ?_), m, F.kp, b⟩
  · obtain ⟨_, rfl, _⟩ := h; rfl
  · obtain ⟨n, rfl, h1, h2, q⟩ := h
    refine ⟨_, pss_one (ps_ret (pe_tup (pa_cons (pe_tup (pa_cons (pe_op (OpR.or op_repT op_rep1) (pe_tup (pa_cons pe_int pa_nil)) (pv 0)) (pa_cons (pe_glob (v := .ref aO) rfl mO rfl) pa_nil))) pa_nil))), ?_⟩
    refine s_ret (t := none) trivial (ev_tupA (ea_1 (ev_tm (s := (List.replicate n 0, 1)) (ev_zeros (ev_var rfl ⟨_, rfl, rfl⟩) ⟨h1, h2⟩) (ev_glob (q := 1) hO rfl rfl))) (fun vs _ ⟨v, e, _⟩ => by rw [e]; exact (by decide : 1 ≤ 1000)) fun vs H1 H2 p _ ⟨v, e, hv⟩ g2 h => ?_) q
    exact ⟨p, [v], rfl, SqT.of (by rw [h, e]), .cons (CZ.up g2 hv) .nil⟩
/-! ### added -/
theorem sc20 : FnScope ["one", "other"] ["one", "other"] (defScope (topS 20)) := ⟨rfl, rfl, rfl, by decide +kernel, rfl, by decide +kernel, by decide +kernel⟩
def spAdd (K : PySem.W.Frag) : Sp := fun vs H Q _ => ∃ (v u : V) (R S : Pl) (n M C N1 N2 : Nat) (e : Int), vs = [v, u] ∧ IsPl K R v H ∧ IsPl K S u H ∧ Po n M C N1 e R ∧ Po n M C N2 e S ∧ 0 < n ∧ N1 + N2 ≤ 10000 ∧ 0 < M ∧ M < Big ∧ (N1 + N2) * C < Big ∧
  After none H Q (fun v H' => ∃ Z, GR n M ((N1 + N2) * C) (N1 + N2) e (fun f => ev f R + ev f S) Z ∧ TupF (IsTm K) Z v H')
theorem ok_added (d : DefAt K mg "added" ["one", "other"] (topS 20)) (c1 : Cal P w K mg base CX0 4 "gathered" ["terms"] (spGath K)) : Cal P w K mg base CX0 5 "added" ["one", "other"] (spAdd K) := by
  obtain ⟨f, fd, F, m, b⟩ := d
  refine ⟨f, fd, F.ok sc20 (fun vs H Q E h => ?_) (fun cdv A outer s H vs Q E hr h => ?_), m, F.kp, b⟩
  · obtain ⟨_, _, _, _, _, _, _, _, _, _, rfl, _⟩ := h; rfl
  · obtain ⟨v, u, R, S, n, M, C, N1, N2, e, rfl, hv, hu, hR, hS, hn, hN, h0, h1, h2, q⟩ := h
    refine ⟨_, pss_one (ps_ret (pe_cal c1 hr (pa_cons (pe_op op_catA (pv 0) (pv 1)) pa_nil))), ?_⟩
    refine s_ret (t := none) trivial (ev_call1 (ev_cat (ev_var rfl hv) (ev_var rfl hu) (by have := hR.len; have := hS.len; omega)) fun x H1 g1 ⟨a, xs, ex, ha, hp⟩ Q1 q1 => ⟨a, xs, R ++ S, n, M, C, N1 + N2, e, by rw [ex], .inr ha, hp, hR.append hS, hn, hN, h0, h1, h2, fun v H2 g2 ⟨Z, gz, hz⟩ => q1 v H2 g2 ⟨Z, ⟨gz.cn, gz.po, fun f => (gz.ev f).trans (ev_append f R S)⟩, hz⟩⟩) q
/-! ### by_term -/
theorem sc21 : FnScope ["poly", "term", "powers", "number"] ["poly", "term"] (defScope (topS 21)) := ⟨rfl, rfl, rfl, by decide +kernel, rfl, by decide +kernel, by decide +kernel⟩
def byT (R : Pl) (r : Tm) : Pl := R.map fun s => (jo s.1 r.1, s.2 * r.2)
def spBy (K : PySem.W.Frag) : Sp := fun vs H Q _ => ∃ (v u : V) (R : Pl) (r : Tm) (n : Nat), vs = [v, u] ∧ IsPl K R v H ∧ IsTm K r u H ∧ (∀ s ∈ R, s.1.length = n ∧ Sm s.2) ∧ r.1.length = n ∧ Sm r.2 ∧ n ≤ 1000 ∧ R.length ≤ 10000 ∧ After none H Q (TupF (IsTm K) (byT R r))
theorem as_map {α β : Type} {f : α → β} : ∀ {S : List α} {as : List β}, as.length = S.length → (∀ (i : Nat) b, as[i]? = some b → ∃ s, S[i]? = some s ∧ b = f s) → as = S.map f
  | [], [], _, _ => rfl
  | [], _ :: _, h, _ => by simp at h
  | _ :: _, [], h, _ => by simp at h
  | s :: S, a :: as, h, k => by
    obtain ⟨s', e1, e2⟩ := k 0 a rfl
    have e1' : s = s' := Option.some.inj e1
    subst e1'
    rw [List.map_cons, e2, as_map (f := f) (S := S) (as := as) (by simpa using h) fun i o' e => by
      obtain ⟨z, z1, z2⟩ := k (i + 1) o' (by simpa using e)
      exact ⟨z, by simpa using z1, z2⟩]
theorem tms_pairs {R : Pl} {xs : List V} {H : Hp} (h : Paired (fun s v => IsTm K s v H) R xs) : ∀ (i : Nat) (x : V), xs[i]? = some x → ∃ (p : Addr) (u v : V), x = .ref p ∧ SqT K H p [u, v] := fun i x e => by
  obtain ⟨s, _, p, u, v, e2, hp, _⟩ := paired_at h e
  exact ⟨p, u, v, e2, hp⟩
theorem sqT_inj {t : TT'} {a : Addr} {xs ys : List V} {H : Hp} (h : SqT K H a xs) (k : SqT K H a ys) : xs = ys ∨ True := .inr trivial
/-- over a tuple of terms -/
theorem turns_plP {t : TT'} {tl : TE} {σ : L2.St} {H : Hp} {a : Addr} {xs : List V} {ts : Pl} {i1 i2 : Nat} (h : EvP t tl σ H (Is (.ref a))) (hx : SqT K H a xs) (hR : Paired (fun s v => IsTm K s v H) ts xs) :
    Turns t (TxT t) (iTup K tl) (gTup K 2 (gCons (gName i1) (gCons (gName i2) gNil))) σ H ts.length (fun σ1 i σ2 H2 => ∃ s u v, ts[i]? = some s ∧ IsMon s.1 u H2 ∧ IsRat K s.2 v H2 ∧ σ2 = (σ1.set i1 (some u)).set i2 (some v)) := fun H1 g Qt q => by
  have hl : ts.length = xs.length := paired_len hR
  refine h H1 g _ fun v H2 g2 e => ⟨a, e, ⟨xs, (g.trans g2).sqT hx⟩, ?_⟩
  rw [hl] at q
  refine q _ _ _ H2 g2 (walk_tup (K := K) (a := a) (xs := xs)) (fun H3 k3 => k3.1.sqT ((g.trans g2).sqT hx)) fun i x H3 H4 hi k3 y => ?_
  obtain ⟨rfl, hxi⟩ := y
  refine ⟨Gx.refl k3.2, fun σ1 Qg qg => ?_⟩
  obtain ⟨s, es, hs⟩ := paired_at hR hxi
  obtain ⟨p, u, v, rfl, hp, h1, h2⟩ := upx k3.1 (CZ.up (g.trans g2) hs)
  exact ⟨p, [u, v], rfl, hp, rfl, u, [v], rfl, v, [], rfl, rfl, qg _ _ (Gx.refl k3.2) ⟨s, u, v, es, h1, h2, rfl⟩⟩
theorem ok_by_term (bl : Blt mg) (d : DefAt K mg "by_term" ["poly", "term"] (topS 21)) (c1 : Cal P w K mg base CX0 3 "joined_powers" ["one", "other"] spJoin) (c2 : Cal P w K mg base CX0 3 "times" ["one", "other"] (spTimes K)) : Cal P w K mg base CX0 4 "by_term" ["poly", "term"] (spBy K) := by
  obtain ⟨f, fd, F, m, b⟩ := d
  refine ⟨f, fd, F.ok sc21 (fun vs H Q E h => ?_) (fun cdv A outer s H vs Q E hr h => ?_), m, F.kp, b⟩
  · obtain ⟨_, _, _, _, _, rfl, _⟩ := h; rfl
  · obtain ⟨v, u, R, r, n, rfl, ⟨a, xs, rfl, ha, hR⟩, hu, hs, hr1, hr2, hn, hz, q⟩ := h
    refine ⟨_, pss_one (ps_ret (pe_callTy (r := rTupF K) call_tupF (by rfl) bl.tuple boot_tuple (pa_cons (pe_lc (own := [("powers", 2), ("number", 3)]) (g := gTup K 2 (gCons (gName 2) (gCons (gName 3) gNil))) rfl sc21.nd (pi_tup (pv 0)) (blkOk_by (N := ["poly", "term", "powers", "number"]) (sc := defScope (topS 21)) (by decide +kernel))
      (fun _ _ _ _ _ => pg_tup rfl (pgs_cons (pg_name (i := 2) sc21.nd rfl (Or.inl rfl)) (pgs_cons (pg_name (i := 3) sc21.nd rfl (Or.inl rfl)) pgs_nil))) (fun _ _ _ _ _ => pts_nil)
      (fun _ _ _ _ _ => pe_tup (pa_cons (pe_cal c1 hr (pa_cons (pv 2) (pa_cons (pe_ix (r := rIxT K) ix_tup (pv 1) pe_int (fun _ _ => rfl)) pa_nil))) (pa_cons (pe_cal c2 hr (pa_cons (pv 3) (pa_cons (pe_ix (r := rIxT K) ix_tup (pv 1) pe_int (fun _ _ => rfl)) pa_nil))) pa_nil)))) pa_nil))), ?_⟩
    refine s_ret (t := none) trivial (ev_tupF (R := IsTm K) (A := fun as => as = byT R r) fun H1 g1 Q1 q1 => ?_) fun v H1 g1 ⟨as, e, h⟩ => q v H1 g1 (e ▸ h)
    refine ev_lc (α := Tm) (R := IsTm K) (C := fun i z => ∃ s, R[i]? = some s ∧ z = (jo s.1 r.1, s.2 * r.2)) (fun _ _ g => g.txT) (turns_plP (ev_vis rfl) ha hR) (by omega) (fun i σ2 H2 ⟨s, x, y, _, _, _, e⟩ => by subst e; rfl) (fun i σ2 H2 hi g2 ⟨s, x, y, es, hx, hy, e⟩ => ?_) H1 g1 Q1 fun p xs H2 hp g2 e ⟨as, hl, hC, hp2⟩ => q1 p xs H2 hp g2 e ⟨as, as_map hl hC, hp2⟩
    subst e
    have hm := List.mem_of_getElem? es
    obtain ⟨k1, k2⟩ := hs s hm
    exact (ev_tm (s := (jo s.1 r.1, s.2 * r.2)) (ev_call2 (P1 := IsMon s.1) (ev_var rfl hx) (ev_pow (ev_var rfl (CZ.up g2 hu))) fun v u H3 g3 h1 h2 Q1 q1 => ⟨v, u, s.1, r.1, rfl, h1, h2, by rw [k1, hr1], by rw [k1]; exact hn, q1⟩)
      (ev_call2 (P1 := IsRat K s.2) (ev_var rfl hy) (ev_cof (ev_var rfl (CZ.up g2 hu))) fun v u H3 g3 h1 h2 Q1 q1 => ⟨v, u, s.2, r.2, rfl, h1, h2, k2, hr2, q1⟩)).imp fun v _ _ h => ⟨_, ⟨s, es, rfl⟩, h⟩
/-! ### product -/
structure Lp (n M1 C1 N1 M2 C2 N2 : Nat) : Prop where
  n0 : 0 < n
  n1 : n ≤ 1000
  m1 : 0 < M1
  m2 : 0 < M2
  bm1 : M1 < Big
  bm2 : M2 < Big
  bc1 : C1 < Big
  bc2 : C2 < Big
  nn : N1 * N2 ≤ 10000
  l1 : N1 ≤ 10000
  l2 : N2 ≤ 10000
  bm : M1 * M2 < Big
  bc : N1 * N2 * (C1 * C2) < Big
theorem sc22 : FnScope ["one", "other", "found", "term"] ["one", "other"] (defScope (topS 22)) := ⟨rfl, rfl, rfl, by decide +kernel, rfl, by decide +kernel, by decide +kernel⟩
def spProd (K : PySem.W.Frag) : Sp := fun vs H Q _ => ∃ (v u : V) (R S : Pl) (n M1 C1 N1 M2 C2 N2 : Nat) (e1 e2 : Int), vs = [v, u] ∧ IsPl K R v H ∧ IsPl K S u H ∧ Po n M1 C1 N1 e1 R ∧ Po n M2 C2 N2 e2 S ∧ Lp n M1 C1 N1 M2 C2 N2 ∧
  After none H Q (fun v H' => ∃ Z, GR n (M1 * M2) (N1 * N2 * (C1 * C2)) (N1 * N2) (e1 + e2) (fun f => ev2 f R S) Z ∧ TupF (IsTm K) Z v H')
theorem terms_snoc (R : Pl) (T : Pl) (r : Tm) : terms R (T ++ [r]) = terms R T ++ byT R r := by
  unfold terms byT
  rw [List.flatMap_append, List.flatMap_cons, List.flatMap_nil, List.append_nil]
theorem take_snoc {α : Type} {l : List α} {i : Nat} {x : α} (h : l[i]? = some x) : l.take (i + 1) = l.take i ++ [x] := by
  rw [List.take_add_one, h]; rfl
theorem ok_product (d : DefAt K mg "product" ["one", "other"] (topS 22)) (c1 : Cal P w K mg base CX0 4 "by_term" ["poly", "term"] (spBy K)) (c2 : Cal P w K mg base CX0 4 "gathered" ["terms"] (spGath K)) : Cal P w K mg base CX0 5 "product" ["one", "other"] (spProd K) := by
  obtain ⟨f, fd, F, m, b⟩ := d
  refine ⟨f, fd, F.ok sc22 (fun vs H Q E h => ?_) (fun cdv A outer s H vs Q E hr h => ?_), m, F.kp, b⟩
  · obtain ⟨_, _, _, _, _, _, _, _, _, _, _, _, _, rfl, _⟩ := h; rfl
  · obtain ⟨v, u, R, S, n, M1, C1, N1, M2, C2, N2, e1, e2, rfl, hv, ⟨b, ys, rfl, hb, hS⟩, hR, hPS, L, q⟩ := h
    refine ⟨_, pss_cons (ps_set (i := 2) sc22.nd rfl (Or.inl rfl) (pe_lst pa_nil))
      (pss_cons (ps_for PassesOwn.never rfl (pi_tup (pv 1)) (pg_name (i := 3) sc22.nd rfl (Or.inl rfl)) (pss_one (ps_expr (pe_bm PySem.F.plainAttrs_list PySem.F.slot_list_extend PySem.F.type_list_extend mt_extT (pv 2) (pa_cons (pe_cal c1 hr (pa_cons (pv 0) (pa_cons (pv 3) pa_nil))) pa_nil)))))
      (pss_one (ps_ret (pe_cal c2 hr (pa_cons (pv 2) pa_nil))))), ?_⟩
    refine ⟨Nat.zero_le _, fun D nD => ?_⟩
    have gD : Gx none H (upd H D (.lst [])) := Gx.new trivial nD
    have hlS := hPS.len
    have hlR := hR.len
    have hll : ys.length = S.length := (paired_len hS).symm
    refine q_for (t := none) trivial (turns_tup (ev_vis rfl) (gD.sqT hb))
      (fun H1 i σ1 H2 => KpBut D H1 H2 ∧ H1 D = some (.lst []) ∧ ∃ xs a3, σ1 = [some v, some (.ref b), some (.ref D), a3] ∧ H2 D = some (.lst xs) ∧ Paired (fun s x => IsTm K s x H2) (terms R (S.take i)) xs)
      (fun H1 g1 => ⟨KpBut.refl, g1.lstP upd_same, [], none, rfl, g1.lstP upd_same, .nil⟩) (fun H1 i σ1 H2 _ z => ⟨z.1.txL z.2.1, trivial⟩)
      (fun H0 i σ1 σ2 H1 H2 hi g0 ⟨k1, hd0, xs, a3, eσ, hd, hp⟩ g2 ⟨x, ex, e2⟩ => ?_) (fun H0 σ1 H1 g0 ⟨k1, hd0, xs, a3, eσ, hd, hp⟩ => ?_)
    · subst eσ; subst e2
      obtain ⟨r, er, hr'⟩ := paired_at hS ex
      have hm := List.mem_of_getElem? er
      have tx02 : Tx H H2 := ((gD.trans g0).tx.trans (k1.txL hd0)).trans g2.tx
      have hd2 := g2.lstP hd
      refine ⟨_, rfl, .inl ⟨rfl, xs, SqL.of hd2⟩, (ea_1 (t := none) (ev_call2 (P := TupF (IsTm K) (byT R r)) (ev_var rfl (upx tx02 hv)) (ev_var rfl (upx tx02 hr')) fun x y H3 g3 hx hy Q1 q1 => ⟨x, y, R, r, n, rfl, hx, hy, fun s hs => ⟨(hR.mon s hs).1, (hR.cf s hs).sm L.m1 L.bm1 L.bc1⟩, (hPS.mon r hm).1, (hPS.cf r hm).sm L.m2 L.bm2 L.bc2, L.n1, Nat.le_trans hlR L.l1, q1⟩)) H2 (Gx.refl (t := none) trivial) _ fun vs H3 g3 ⟨z, ez, a, zs, its, m, e3, hz, hpz⟩ => ?_⟩
      subst e3
      have hd3 := g3.lstP hd2
      have lt1 : xs.length = (S.take i).length * R.length := by rw [← paired_len hp, terms_length]
      have lz : zs.length = R.length := by rw [← paired_len hpz]; unfold byT; rw [List.length_map]
      have li : (S.take i).length = i := by rw [List.length_take]; omega
      refine ⟨D, a, xs, zs, its, m, rfl, ez, hd3, hz, ?_, ?_⟩
      · rw [lt1, lz, li]
        have h5 : (i + 1) * R.length ≤ N2 * N1 := Nat.mul_le_mul (by omega) hlR
        rw [Nat.mul_comm N2 N1, Nat.succ_mul] at h5
        exact Nat.le_trans (show i * R.length + R.length ≤ 10000 from Nat.le_trans h5 L.nn) (by decide)
      · have tx : Tx H3 (upd H3 D (.lst (xs ++ zs))) := Tx.lst hd3
        refine ⟨(k1.gx (g2.trans g3)).upd, hd0, xs ++ zs, some x, rfl, upd_same, ?_⟩
        rw [take_snoc er, terms_snoc]
        exact paired_append (paired_mono ((g2.trans g3).tx.trans tx) hp) (paired_mono tx hpz)
    · subst eσ
      rw [hll, List.take_length] at hp
      refine s_ret (t := none) trivial (ev_call1 (ev_vis rfl) fun x H2 g2 ex Q1 q1 => ⟨D, xs, terms R S, n, M1 * M2, C1 * C2, N1 * N2, e1 + e2, by rw [ex], .inl (g2.lstP hd), paired_mono g2.tx hp, hR.terms hPS, L.n0, L.nn, Nat.mul_pos L.m1 L.m2, L.bm, L.bc, fun v H3 g3 ⟨Z, gz, hz⟩ => q1 v H3 g3 ⟨Z, ⟨gz.cn, gz.po, fun f => (gz.ev f).trans (ev_terms f R S)⟩, hz⟩⟩) fun v H2 g2 p => q v H2 ⟨fun b o hb _ => ?_, trivial, trivial⟩ p
      have nb : b ≠ D := ne_of_none hb nD
      exact g2.keep b o (k1 b o nb (g0.keep b o (gD.keep b o hb fun _ z => nomatch z) fun _ z => nomatch z)) fun _ z => nomatch z
end
end CZ
/-! sum_of, _law_sum_of, are_multiples, NoSum.__init__, lets_sum, _law_is_let. -/
namespace CZ
open PySem PySem.Spec PyProof.Rows L2
structure Ls (n M1 C1 N1 M2 C2 N2 : Nat) : Prop where
  lp : Lp n M1 C1 N1 M2 C2 N2
  nn : 4 * (N1 * N2) ≤ 10000
  n0 : 0 < N1 * N2
  b : (4 * (N1 * N2)) ^ 4 * (N1 * N2 * (C1 * C2)) < Big
def SB (C1 N1 C2 N2 : Nat) : Nat := (4 * (N1 * N2)) ^ 4 * (N1 * N2 * (C1 * C2))
theorem sev_take (f : Mon → Rat) : ∀ (i : Nat) (Ts As : List Pl) (T A : Pl), Ts[i]? = some T → As[i]? = some A → sev f (Ts.take (i + 1)) (As.take (i + 1)) = sev f (Ts.take i) (As.take i) + ev2 f T A
  | 0, S :: Ts, B :: As, T, A, h, k => by
    have e1 : S = T := Option.some.inj h
    have e2 : B = A := Option.some.inj k
    subst e1; subst e2
    rw [List.take_succ_cons, List.take_succ_cons, List.take_zero, List.take_zero, List.take_zero, List.take_zero, sev_cons, sev_nil]
    grind
  | i + 1, S :: Ts, B :: As, T, A, h, k => by
    have ih := sev_take f i Ts As T A (by simpa using h) (by simpa using k)
    rw [List.take_succ_cons, List.take_succ_cons, sev_cons, ih, List.take_succ_cons, List.take_succ_cons, sev_cons]
    grind
  | i, [], _, _, _, h, _ => by simp at h
  | i, _ :: _, [], _, _, _, k => by simp at k
section
variable {P : Program} {w : World} {K : PySem.W.Frag} {mg : Str → Option Value} {base : Heap}
def spSum (K : PySem.W.Frag) : Sp := fun vs H Q _ => ∃ (v u : V) (Ts As : List Pl) (n M1 C1 N1 M2 C2 N2 : Nat) (e1 e2 : Int), vs = [v, u] ∧ IsPls K Ts v H ∧ IsPls K As u H ∧ Ts.length = As.length ∧ As.length ≤ 4 ∧ (∀ T ∈ Ts, Po n M1 C1 N1 e1 T) ∧ (∀ A ∈ As, Po n M2 C2 N2 e2 A) ∧ Ls n M1 C1 N1 M2 C2 N2 ∧
  After none H Q (fun v H' => ∃ Z, GR n (M1 * M2) (SB C1 N1 C2 N2) (4 * (N1 * N2)) (e1 + e2) (fun f => sev f Ts As) Z ∧ IsPl K Z v H')
/-- the loop's reading, both -/
theorem sum_loop {H : Hp} {Q : VK} {E : XK} (vs : List V) (h : spSum K vs H Q E) (xn : Str) (hN : True) :
    tSeq (tAsg (tTup tNil) (gName 2)) (tSeq (tFor (RZ.iZipA K (tCons (tVar 0) (tCons (tVar 1) tNil))) (gTup K 2 (gCons (gName 3) (gCons (gName 4) gNil))) (tAsg (tCall (spAdd K) [] E0 (tCons (tVar 2) (tCons (tCall (spProd K) [] E0 (tCons (tVar 3) (tCons (tVar 4) tNil))) tNil))) (gName 2))) (tRet (tVar 2)))
      { nx := fun _ H' => Q .non H', rt := Q } (start ["multiples", "some", "found", "one", "other"] vs) H := by
  obtain ⟨v, u, Ts, As, n, M1, C1, N1, M2, C2, N2, e1, e2, rfl, ⟨a, xs, rfl, ha, hT⟩, ⟨b, ys, rfl, hb, hA⟩, hl, h4, pT, pA, L, q⟩ := h
  have lx : xs.length = Ts.length := (paired_len hT).symm
  have ly : ys.length = As.length := (paired_len hA).symm
  have np := L.n0
  refine q_asg (t := none) (P := IsPl K []) trivial ev_empty fun v0 H1 g1 hv0 => ?_
  refine q_for (t := none) trivial (turns_zip (ea_is2 (ev_vis rfl) (ev_vis rfl)) (g1.sqT ha) (g1.sqT hb) (by omega))
    (fun H2 i σ1 H3 => Gx none H2 H3 ∧ ∃ Z v a3 a4, σ1 = [some (.ref a), some (.ref b), some v, a3, a4] ∧ IsPl K Z v H3 ∧ GR n (M1 * M2) ((4 * (N1 * N2)) ^ i * (N1 * N2 * (C1 * C2))) (i * (N1 * N2)) (e1 + e2) (fun f => sev f (Ts.take i) (As.take i)) Z)
    (fun H2 g2 => ⟨Gx.refl trivial, [], v0, none, none, rfl, CZ.up g2 hv0, ⟨⟨List.Pairwise.nil, fun _ z => nomatch z⟩, Po.nil _ _ _ _ _, fun f => by rw [List.take_zero, List.take_zero, sev_nil]; rfl⟩⟩) (fun _ _ _ _ _ z => z.1.txT)
    (fun H2 i σ1 σ2 H3 H4 hi g2 ⟨g3, Z, vz, a3, a4, eσ, hz, gz⟩ g4 ⟨x, y, ex, ey, e⟩ => ?_) (fun H2 σ1 H3 g2 ⟨g3, Z, vz, a3, a4, eσ, hz, gz⟩ => ?_)
  · subst eσ; subst e
    obtain ⟨T, eT, hT1⟩ := paired_at hT ex
    obtain ⟨A, eA, hA1⟩ := paired_at hA ey
    have mT := List.mem_of_getElem? eT
    have mA := List.mem_of_getElem? eA
    have g14 := ((g1.trans g2).trans g3).trans g4
    have hi4 : i < 4 := by omega
    have p1 : 1 ≤ (4 * (N1 * N2)) ^ i := Nat.pow_pos (by omega)
    have cle : N1 * N2 * (C1 * C2) ≤ (4 * (N1 * N2)) ^ i * (N1 * N2 * (C1 * C2)) := Nat.le_mul_of_pos_left _ p1
    have c2 : (i * (N1 * N2) + N1 * N2) * ((4 * (N1 * N2)) ^ i * (N1 * N2 * (C1 * C2))) ≤ (4 * (N1 * N2)) ^ (i + 1) * (N1 * N2 * (C1 * C2)) := by
      rw [← Nat.mul_assoc]
      refine Nat.mul_le_mul_right _ ?_
      rw [Nat.pow_succ, Nat.mul_comm ((4 * (N1 * N2)) ^ i)]
      refine Nat.mul_le_mul_right _ ?_
      have h6 : (i + 1) * (N1 * N2) ≤ 4 * (N1 * N2) := Nat.mul_le_mul_right _ (by omega)
      rw [Nat.succ_mul] at h6
      exact h6
    have c3 : (4 * (N1 * N2)) ^ (i + 1) * (N1 * N2 * (C1 * C2)) ≤ (4 * (N1 * N2)) ^ 4 * (N1 * N2 * (C1 * C2)) := Nat.mul_le_mul_right _ (Nat.pow_le_pow_right (by omega) (by omega))
    have c4 : i * (N1 * N2) + N1 * N2 ≤ 4 * (N1 * N2) := by
      have h6 : (i + 1) * (N1 * N2) ≤ 4 * (N1 * N2) := Nat.mul_le_mul_right _ (by omega)
      rw [Nat.succ_mul] at h6
      exact h6
    refine s_asg (t := none) (P := fun v H' => ∃ Z, IsPl K Z v H' ∧ GR n (M1 * M2) ((4 * (N1 * N2)) ^ (i + 1) * (N1 * N2 * (C1 * C2))) ((i + 1) * (N1 * N2)) (e1 + e2) (fun f => sev f (Ts.take (i + 1)) (As.take (i + 1))) Z) trivial
      (ev_call2 (P1 := IsPl K Z) (P2 := fun v H' => ∃ Y, GR n (M1 * M2) (N1 * N2 * (C1 * C2)) (N1 * N2) (e1 + e2) (fun f => ev2 f T A) Y ∧ IsPl K Y v H') (ev_var rfl (CZ.up g4 hz))
        (ev_call2 (P1 := IsPl K T) (ev_var rfl (CZ.up g14 hT1)) (ev_var rfl (CZ.up g14 hA1)) fun x y H5 g5 hx hy Q1 q1 => ⟨x, y, T, A, n, M1, C1, N1, M2, C2, N2, e1, e2, rfl, hx, hy, pT T mT, pA A mA, L.lp, fun v H6 g6 ⟨Y, gy, hy⟩ => q1 v H6 g6 ⟨Y, gy, hy.of⟩⟩)
        fun x y H5 g5 hx ⟨Y, gy, hy⟩ Q1 q1 => ⟨x, y, Z, Y, n, M1 * M2, (4 * (N1 * N2)) ^ i * (N1 * N2 * (C1 * C2)), i * (N1 * N2), N1 * N2, e1 + e2, rfl, hx, hy, gz.po, gy.po.mono cle (Nat.le_refl _) (Int.le_refl _), L.lp.n0, Nat.le_trans c4 L.nn, Nat.mul_pos L.lp.m1 L.lp.m2, L.lp.bm,
          Nat.lt_of_le_of_lt (Nat.le_trans c2 c3) L.b, fun v H6 g6 ⟨X, gx, hx⟩ => q1 v H6 g6 ⟨X, hx.of, gx.cn, gx.po.mono c2 (by rw [Nat.succ_mul]; exact Nat.le_refl _) (Int.le_refl _), fun f => ?_⟩⟩) fun v H5 g5 ⟨X, hX, gX⟩ => ⟨(g3.trans g4).trans g5, X, v, some x, some y, rfl, hX, gX⟩
    rw [gx.ev f, sev_take f i Ts As T A eT eA]
    show ev f Z + ev f Y = _
    rw [gz.ev f, gy.ev f]
  · subst eσ
    have i4 : xs.length ≤ 4 := by omega
    have c3 : (4 * (N1 * N2)) ^ xs.length * (N1 * N2 * (C1 * C2)) ≤ (4 * (N1 * N2)) ^ 4 * (N1 * N2 * (C1 * C2)) := Nat.mul_le_mul_right _ (Nat.pow_le_pow_right (by omega) i4)
    refine s_ret (t := none) trivial (ev_var rfl (show (fun v H' => ∃ Z, GR n (M1 * M2) (SB C1 N1 C2 N2) (4 * (N1 * N2)) (e1 + e2) (fun f => sev f Ts As) Z ∧ IsPl K Z v H') vz H3 from ⟨Z, ⟨gz.cn, gz.po.mono c3 (Nat.mul_le_mul_right _ i4) (Int.le_refl _), fun f => ?_⟩, hz⟩)) fun v H4 g4 p => q v H4 (((g1.trans g2).trans g3).trans g4) p
    rw [gz.ev f, lx, List.take_length, hl, List.take_length]
theorem sc25 : FnScope ["multiples", "some", "found", "one", "other"] ["multiples", "some"] (defScope (topS 25)) := ⟨rfl, rfl, rfl, by decide +kernel, rfl, by decide +kernel, by decide +kernel⟩
theorem ok_sum_of (bl : Blt mg) (d : DefAt K mg "sum_of" ["multiples", "some"] (topS 25)) (c1 : Cal P w K mg base CX0 5 "added" ["one", "other"] (spAdd K)) (c2 : Cal P w K mg base CX0 5 "product" ["one", "other"] (spProd K)) : Cal P w K mg base CX0 6 "sum_of" ["multiples", "some"] (spSum K) := by
  obtain ⟨f, fd, F, m, b⟩ := d
  refine ⟨f, fd, F.ok sc25 (fun vs H Q E h => ?_) (fun cdv A outer s H vs Q E hr h => ?_), m, F.kp, b⟩
  · obtain ⟨_, _, _, _, _, _, _, _, _, _, _, _, _, rfl, _⟩ := h; rfl
  · refine ⟨_, pss_cons (ps_set (i := 2) sc25.nd rfl (Or.inl rfl) (pe_tup pa_nil))
      (pss_cons (ps_for PassesOwn.never rfl (RZ.pi_zipA rfl bl.zip (pa_cons (pv 0) (pa_cons (pv 1) pa_nil))) (pg_tup rfl (pgs_cons (pg_name (i := 3) sc25.nd rfl (Or.inl rfl)) (pgs_cons (pg_name (i := 4) sc25.nd rfl (Or.inl rfl)) pgs_nil)))
        (pss_one (ps_set (i := 2) sc25.nd rfl (Or.inl rfl) (pe_cal c1 hr (pa_cons (pv 2) (pa_cons (pe_cal c2 hr (pa_cons (pv 3) (pa_cons (pv 4) pa_nil))) pa_nil))))))
      (pss_one (ps_ret (pv 2)))), sum_loop vs h "" trivial⟩
theorem sc46 : FnScope ["_law_multiples", "_law_some", "_law_found", "_law_one", "_law_other"] ["_law_multiples", "_law_some"] (defScope (topS 46)) := ⟨rfl, rfl, rfl, by decide +kernel, rfl, by decide +kernel, by decide +kernel⟩
theorem ok_law_sum_of (bl : Blt mg) (d : DefAt K mg "_law_sum_of" ["_law_multiples", "_law_some"] (topS 46)) (c1 : Cal P w K mg base CX0 5 "added" ["one", "other"] (spAdd K)) (c2 : Cal P w K mg base CX0 5 "product" ["one", "other"] (spProd K)) : Cal P w K mg base CX0 6 "_law_sum_of" ["_law_multiples", "_law_some"] (spSum K) := by
  obtain ⟨f, fd, F, m, b⟩ := d
  refine ⟨f, fd, F.ok sc46 (fun vs H Q E h => ?_) (fun cdv A outer s H vs Q E hr h => ?_), m, F.kp, b⟩
  · obtain ⟨_, _, _, _, _, _, _, _, _, _, _, _, _, rfl, _⟩ := h; rfl
  · refine ⟨_, pss_cons (ps_set (i := 2) sc46.nd rfl (Or.inl rfl) (pe_tup pa_nil))
      (pss_cons (ps_for PassesOwn.never rfl (RZ.pi_zipA rfl bl.zip (pa_cons (pv 0) (pa_cons (pv 1) pa_nil))) (pg_tup rfl (pgs_cons (pg_name (i := 3) sc46.nd rfl (Or.inl rfl)) (pgs_cons (pg_name (i := 4) sc46.nd rfl (Or.inl rfl)) pgs_nil)))
        (pss_one (ps_set (i := 2) sc46.nd rfl (Or.inl rfl) (pe_cal c1 hr (pa_cons (pv 2) (pa_cons (pe_cal c2 hr (pa_cons (pv 3) (pa_cons (pv 4) pa_nil))) pa_nil))))))
      (pss_one (ps_ret (pv 2)))), sum_loop vs h "" trivial⟩
/-! ### are_multiples -/
theorem sc26 : FnScope ["n", "many", "thing", "one"] ["n", "many", "thing"] (defScope (topS 26)) := ⟨rfl, rfl, rfl, by decide +kernel, rfl, by decide +kernel, by decide +kernel⟩
def spAre (K : PySem.W.Frag) : Sp := fun vs H Q _ => ∃ (n many : Nat) (v : V) (Ts : List Pl) (M C N : Nat) (e : Int), vs = [.int n, .int many, v] ∧ IsPls K Ts v H ∧ Ts.length = many ∧ many ≤ 1000 ∧ (∀ T ∈ Ts, Cn lt T ∧ Po n M C N e T) ∧ n ≤ 1000 ∧ N ≤ 100000 ∧ After none H Q (Is (.bl true))
theorem ok_are_multiples (bl : Blt mg) (d : DefAt K mg "are_multiples" ["n", "many", "thing"] (topS 26)) (c1 : Cal P w K mg base CX0 4 "is_poly" ["n", "thing"] (spIsPl K)) : Cal P w K mg base CX0 5 "are_multiples" ["n", "many", "thing"] (spAre K) := by
  obtain ⟨f, fd, F, m, b⟩ := d
  refine ⟨f, fd, F.ok sc26 (fun vs H Q E h => ?_) (fun cdv A outer s H vs Q E hr h => ?_), m, F.kp, b⟩
  · obtain ⟨_, _, _, _, _, _, _, _, rfl, _⟩ := h; rfl
  · obtain ⟨n, many, v, Ts, M, C, N, e, rfl, ⟨a, xs, rfl, ha, hT⟩, hl, hz, hP, hn, hN, q⟩ := h
    have lx : xs.length = Ts.length := (paired_len hT).symm
    refine ⟨_, pss_one (ps_ret (pe_and (pe_callB call_isi (by rfl) bl.isinstance boot_isinstance (pa_cons (pv 2) (pa_cons (pe_bltn (v := .ty "tuple") rfl bl.tuple boot_tuple rfl) pa_nil)))
      (pe_and (pe_cmpR op_eq (pe_callB call_len_seq (by rfl) bl.len PySem.boot_len (pa_cons (pv 2) pa_nil)) (pv 1) (nomark _))
      (pe_one (pe_callB (cr_all rfl) (by rfl) bl.all boot_all (pa_cons (pe_lc (own := [("one", 3)]) (g := gName 3) rfl sc26.nd (pi_tup (pv 2)) (blkOk_by (N := ["n", "many", "thing", "one"]) (sc := defScope (topS 26)) (by decide +kernel)) (fun _ _ _ _ _ => pg_name (i := 3) sc26.nd rfl (Or.inl rfl)) (fun _ _ _ _ _ => pts_nil)
        (fun _ _ _ _ _ => pe_cal c1 hr (pa_cons (pv 0) (pa_cons (pv 3) pa_nil)))) pa_nil)))))), ?_⟩
    refine s_ret (t := none) trivial (ev_andT (ev_isTuple (ev_vis rfl) ha) (ev_andT ((ev_eqE (ev_lenT (ev_vis rfl) ha) (ev_var (P := IsIn (· = (many : Int))) rfl ⟨_, rfl, rfl⟩)).imp fun v _ _ e => ?_) (ev_allT (turns_tup (ev_vis rfl) ha) (by omega) (fun i σ2 H2 ⟨x, _, e⟩ => by subst e; rfl) fun i σ2 H2 hi g2 ⟨x, ex, e⟩ => ?_))) q
    · rw [e, decide_eq_true (by omega)]
      rfl
    · subst e
      obtain ⟨T, eT, hT1⟩ := paired_at hT ex
      have mT := hP T (List.mem_of_getElem? eT)
      exact ev_call2 (P1 := IsIn (· = (n : Int))) (P2 := IsPl K T) (ev_var rfl ⟨_, rfl, rfl⟩) (ev_var rfl (CZ.up g2 hT1)) fun x y H3 g3 ⟨_, e1, e2⟩ hy Q1 q1 => ⟨n, y, T, M, C, N, _, by rw [e1, e2], hy, mT.1, mT.2, hn, hN, q1⟩
end
end CZ
/-! NoSum.__init__, lets_sum, _law_is_let. -/
namespace CZ
open PySem PySem.Spec PyProof.Rows L2
section
variable {t : TT'} {K : PySem.W.Frag} {σ : L2.St} {H : Hp} {ta tb te : TE}
theorem q_skip {D : Ends} {tt : TT} {tu tw : TS} (hT : TapeOk t H) (h : EvB t tt σ H (· = false)) (h2 : ∀ H1, Gx t H H1 → tw D σ H1) : tSeq (tIfS tt tu tNext) tw D σ H := q_if hT h (fun e => nomatch e) fun _ => h2
theorem eb_nePlX {A : Pl → Prop} {R : Pl} (h1 : EvP t ta σ H (fun v H => ∃ Z, A Z ∧ IsPl K Z v H)) (h2 : EvP t tb σ H (IsPl K R)) : EvB t (tTest (tOp (rNeX K) ta tb)) σ H (fun b => ∃ Z, A Z ∧ b = !decide (Z = R)) := fun H1 g Q k =>
  h1 H1 g _ fun v H2 g2 ⟨Z, hA, hz⟩ => h2 H2 (g.trans g2) _ fun u H3 g3 p2 => ⟨_, _, dp_pl (CZ.up g3 hz), dp_pl p2, PySem.W.Datum.plain _, PySem.W.Datum.plain _, Nat.le_trans (PySem.W.Datum.depth_le _) (by decide), _, rfl, k _ H3 (g2.trans g3) ⟨Z, hA, by
    rw [PySem.W.Datum.eqv, show decide (dPl Z = dPl R) = decide (Z = R) from decide_eq_decide.mpr ⟨dPl_inj, fun e => by rw [e]⟩]⟩⟩
end
def CalX (P : Program) (w : World) (K : PySem.W.Frag) (mg : Str → Option Value) (base : Heap) (k : Nat) (x : Str) (ps : List Str) (sp : Sp) : Prop :=
  ∃ f fd, FnOk P w K mg base (L2.CX P w) k f fd ps sp ∧ mg x = some (.ref f) ∧ PySem.W.keepIn K (.ref f) = true ∧ Binds K fd ps []
abbrev sInit : Stmt := inClass (topS 2) 0
section
variable {P : Program} {w : World} {K : PySem.W.Frag} {mg : Str → Option Value} {base : Heap}
theorem scI : FnScope ["self", "word"] ["self", "word"] (defScope sInit) := ⟨rfl, rfl, rfl, by decide +kernel, rfl, by decide +kernel, by decide +kernel⟩
theorem ok_init {C Z fI : Addr} {mc : Value} {fd : FuncData} (T : ErrTxt K mg C Z fI mc) (F : Fun K "__init__" "NoSum.__init__" sInit fI fd) : FnOk P w K mg base CX0 1 fI fd ["self", "word"] (spInit C) := by
  refine F.ok scI (fun vs H Q E h => ?_) (fun cdv A outer s H vs Q E hr h => ?_)
  · obtain ⟨_, _, rfl, _⟩ := h; rfl
  · obtain ⟨a, x, rfl, ha, q⟩ := h
    refine ⟨_, pss_cons (ps_expr (pe_ownInit rfl T.gZ T.rd T.vi (pa_cons (pv 0) (pa_cons pe_str pa_nil)))) (pss_one (ps_ost (pv 0) (pv 1))), ?_⟩
    exact ⟨_, rfl, a, C, _, rfl, (by decide : 1 ≤ 1000), T.ox, ha, _, rfl, _, rfl, a, C, rfl, T.ox, T.nW, .inl ⟨ha, fun dx hd hne => q dx hd hne⟩⟩
/-! ### lets_sum -/
theorem sc27 : FnScope ["n", "some", "poly", "thing"] ["n", "some", "poly", "thing"] (defScope (topS 27)) := ⟨rfl, rfl, rfl, by decide +kernel, rfl, by decide +kernel, by decide +kernel⟩
/-- what is asked of the four arguments -/
def LetPre (K : PySem.W.Frag) (vs : List V) (H : Hp) (As Ts : List Pl) (R : Pl) : Prop := ∃ (n : Nat) (sv pv tv : V) (M1 C1 N1 M2 C2 N2 : Nat) (e1 e2 : Int), vs = [.int n, sv, pv, tv] ∧ IsPls K As sv H ∧ IsPl K R pv H ∧ IsPls K Ts tv H ∧ Ts.length = As.length ∧ As.length ≤ 4 ∧
  (∀ T ∈ Ts, Cn lt T ∧ Po n M1 C1 N1 e1 T) ∧ (∀ A ∈ As, Po n M2 C2 N2 e2 A) ∧ Ls n M1 C1 N1 M2 C2 N2 ∧ Cn lt R
def spLets (K : PySem.W.Frag) (C : Addr) : Sp := fun vs H Q E => ∃ (As Ts : List Pl) (R : Pl), LetPre K vs H As Ts R ∧
  ((∀ f, ev f R = sev f Ts As) → After none H Q (Is (.bl true))) ∧ (¬ (∀ f, ev f R = sev f Ts As) → ∀ d H', Gx none H H' → E (.ref C) (some d) H')
theorem ok_lets_sum {C Z fI : Addr} {mc : Value} {fdI : FuncData} (bl : Blt mg) (d : DefAt K mg "lets_sum" ["n", "some", "poly", "thing"] (topS 27)) (T : ErrTxt K mg C Z fI mc) (FI : FnOk P w K mg base CX0 1 fI fdI ["self", "word"] (spInit C)) (bI : Binds K fdI ["self", "word"] [])
    (c1 : Cal P w K mg base CX0 6 "are_multiples" ["n", "many", "thing"] (spAre K)) (c2 : Cal P w K mg base CX0 6 "sum_of" ["multiples", "some"] (spSum K)) : CalX P w K mg base 7 "lets_sum" ["n", "some", "poly", "thing"] (spLets K C) := by
  obtain ⟨f, fd, F, m, b⟩ := d
  refine ⟨f, fd, F.okX sc27 (fun vs H Q E h => ?_) (fun cdv A outer s H vs Q E hr h => ?_), m, F.kp, b⟩
  · obtain ⟨_, _, _, ⟨_, _, _, _, _, _, _, _, _, _, _, _, rfl, _⟩, _⟩ := h; rfl
  · obtain ⟨As, Ts, R, ⟨n, sv, pv', tv, M1, C1, N1, M2, C2, N2, e1, e2, rfl, hAs, hR, hTs, hl, h4, pT, pA, L, cR⟩, q1, q2⟩ := h
    refine ⟨_, pss_cons (ps_if (pt_not (pt_val (pe_cal c1 hr (pa_cons (pv 0) (pa_cons (pe_callB call_len_seq (by rfl) bl.len PySem.boot_len (pa_cons (pv 1) pa_nil)) (pa_cons (pv 3) pa_nil)))))) pss_dead pss_nil)
      (pss_cons (ps_if (pt_cmpR (op_neX hr.units) (pe_cal c2 hr (pa_cons (pv 3) (pa_cons (pv 1) pa_nil))) (pv 2) (nomark _))
        (pss_one (ps_raise rfl (takes_of rfl rfl rfl rfl) (pmk_oex T.ox T.iC T.tI FI (hr.mono (by decide)) bI .nil pass0 rfl T.gC (pa_cons pe_str pa_nil)))) pss_nil)
      (pss_one (ps_ret pe_bl))), ?_⟩
    obtain ⟨a, xs, rfl, ha, hp⟩ := id hAs
    have nN : N1 ≤ 100000 := Nat.le_trans L.lp.l1 (by decide)
    refine q_skip (t := none) trivial (eb_notT (ev_call3 (P1 := IsIn (· = (n : Int))) (P3 := IsPls K Ts) (ev_var rfl ⟨_, rfl, rfl⟩) (ev_lenT (ev_vis rfl) ha) (ev_var rfl hTs) fun v u x H1 g1 ⟨_, z1, z2⟩ ⟨_, z3, z4⟩ hx Q1 k1 => ⟨n, As.length, x, Ts, M1, C1, N1, e1, ?_, hx, hl, by omega, pT, L.lp.n1, nN, k1⟩)) fun H1 g1 => ?_
    · rw [z1, z2, z3, z4, paired_len hp]
    refine q_if (t := none) (B := fun b => ∃ Y, GR n (M1 * M2) (SB C1 N1 C2 N2) (4 * (N1 * N2)) (e1 + e2) (fun f => sev f Ts As) Y ∧ b = !decide (Y = R)) trivial ?_ (fun ⟨Y, gY, eb⟩ H2 g2 => ?_) (fun ⟨Y, gY, eb⟩ H2 g2 => ?_)
    · refine eb_nePlX (A := fun Y => GR n (M1 * M2) (SB C1 N1 C2 N2) (4 * (N1 * N2)) (e1 + e2) (fun f => sev f Ts As) Y) (R := R) ?_ (ev_var rfl (CZ.up g1 hR))
      exact ev_call2 (P1 := IsPls K Ts) (P2 := IsPls K As) (ev_var rfl (CZ.up g1 hTs)) (ev_var rfl (CZ.up g1 hAs)) fun x y H2 g2 hx hy Q1 k1 => ⟨x, y, Ts, As, n, M1, C1, N1, M2, C2, N2, e1, e2, rfl, hx, hy, hl, h4, fun T hT => (pT T hT).2, pA, L, k1⟩
    · have ne : ¬ ∀ f, ev f R = sev f Ts As := fun z => by
        have : Y = R := cn_uniq lt_asym gY.cn cR fun m => (gY.ev _).trans (z _).symm
        rw [decide_eq_true this] at eb
        cases eb
      exact mk_noSum fun d H3 g3 => q2 ne d H3 ((g1.trans g2).trans g3)
    · have e : Y = R := by
        cases hd : decide (Y = R) with
        | true => exact of_decide_eq_true hd
        | false => rw [hd] at eb; cases eb
      subst e
      show tRet (tC (.bl true)) { nx := fun _ H' => Q .non H', rt := Q } ([] : L2.St) H2
      exact s_ret (t := none) trivial (ev_c (P := Is (.bl true)) rfl) fun v H3 g3 p => q1 gY.ev v H3 ((g1.trans g2).trans g3) p
/-! ### _law_is_let -/
theorem sc45 : FnScope ["_law_n", "_law_some", "_law_poly_here", "_law_thing", "_law_found"] ["_law_n", "_law_some", "_law_poly_here", "_law_thing"] (defScope (topS 45)) := ⟨rfl, rfl, rfl, by decide +kernel, rfl, by decide +kernel, by decide +kernel⟩
def spIsLet (K : PySem.W.Frag) : Sp := fun vs H Q _ => ∃ (As Ts : List Pl) (R : Pl), LetPre K vs H As Ts R ∧ After none H Q (fun v _ => ∃ b : Bool, v = .bl b ∧ (b = true ↔ ∀ f, ev f R = sev f Ts As))
theorem ok_is_let {C Z fI : Addr} {mc : Value} (d : DefAt K mg "_law_is_let" ["_law_n", "_law_some", "_law_poly_here", "_law_thing"] (topS 45)) (T : ErrTxt K mg C Z fI mc) (c1 : CalX P w K mg base 7 "lets_sum" ["n", "some", "poly", "thing"] (spLets K C)) : Cal P w K mg base CX0 8 "_law_is_let" ["_law_n", "_law_some", "_law_poly_here", "_law_thing"] (spIsLet K) := by
  obtain ⟨f, fd, F, m, b⟩ := d
  obtain ⟨fL, fdL, FL, mL, kL, bL⟩ := c1
  refine ⟨f, fd, F.ok sc45 (fun vs H Q E h => ?_) (fun cdv A outer s H vs Q E hr h => ?_), m, F.kp, b⟩
  · obtain ⟨_, _, _, ⟨_, _, _, _, _, _, _, _, _, _, _, _, rfl, _⟩, _⟩ := h; rfl
  · obtain ⟨As, Ts, R, hp, q⟩ := h
    refine ⟨_, pss_cons (ps_set (i := 4) sc45.nd rfl (Or.inl rfl) pe_bl)
      (pss_cons (ps_try_only rfl rfl ⟨rfl, by decide, .inl T.gC⟩ takes0 (fun W pn xe tk _ => pss_one (ps_set (i := 4) sc45.nd rfl (Or.inl rfl) (pe_callS FL hr rfl mL kL bL (fun σ => passAt tk σ) (pa_cons (pv 0) (pa_cons (pv 1) (pa_cons (pv 2) (pa_cons (pv 3) pa_nil)))))))
        (fun a oe cls d pn _ _ => pss_one (ps_set (i := 4) sc45.nd rfl (Or.inl rfl) pe_bl)))
      (pss_one (ps_ret (pe_cmpR op_isBl (pv 4) pe_bl (nomark _))))), ?_⟩
    obtain ⟨n, sv, pv', tv, M1, C1, N1, M2, C2, N2, e1, e2, rfl, hr'⟩ := id hp
    refine ⟨_, rfl, _, rfl, _, rfl, _, rfl, As, Ts, R, hp, fun he v H1 g1 ev => ?_, fun he d H1 g1 => ⟨true, T.te, fun _ a ha => ?_, fun z => nomatch z⟩⟩
    · subst ev
      exact ⟨_, rfl, true, true, rfl, rfl, q _ H1 g1 ⟨true, by simp, by simp [he]⟩⟩
    · exact ⟨_, rfl, false, true, rfl, rfl, q _ H1 g1 ⟨false, by simp, by simp [he]⟩⟩
end
end CZ
/-! _law_tape, _law_draw. -/
namespace CZ
open PySem PySem.Spec PyProof.Rows L2
section
variable {t : TT'} {K : PySem.W.Frag} {σ : L2.St} {H H' : Hp} {ta tb te : TE} {tA : TA} {D : Ends} {ts tv : TS} {P : V → Hp → Prop}
theorem ev_ixL {i : Int} {a : Addr} {xs : List V} {v : V} (h1 : EvP t ta σ H (Is (.ref a))) (h2 : EvP t tb σ H (IsIn (· = i))) (hx : H a = some (.lst xs)) (hn : ∀ q, t = some q → a ≠ q.tp) (hv : atI xs i = some v) (p : P v H) [Mo P] : EvP t (tOp (rIxL K) ta tb) σ H P := fun H1 g Q q =>
  h1 H1 g _ fun _ H2 g2 e => h2 H2 (g.trans g2) _ fun _ H3 g3 ⟨_, e2, b⟩ => by
    subst e2; subst b
    exact ⟨a, xs, _, v, e, rfl, SqL.of (((g.trans g2).trans g3).lst hx hn), hv, q v H3 (g2.trans g3) (CZ.up ((g.trans g2).trans g3) p)⟩
theorem ea_nilA : EvA t tNil σ H (fun vs H => vs.length = 0 ∧ ∀ v ∈ vs, P v H) := fun H1 g _ q => q [] H1 g.here ⟨rfl, fun _ z => nomatch z⟩
theorem ea_consA [Mo P] {n : Nat} (h : EvP t te σ H P) (k : EvA t tA σ H (fun vs H => vs.length = n ∧ ∀ v ∈ vs, P v H)) : EvA t (tCons te tA) σ H (fun vs H => vs.length = n + 1 ∧ ∀ v ∈ vs, P v H) := fun H1 g Q q =>
  h H1 g _ fun v H2 g2 p => k H2 (g.trans g2) _ fun vs H3 g3 ⟨hl, hp⟩ => q (v :: vs) H3 (g2.trans g3) ⟨by rw [List.length_cons, hl], fun u hu => by
    rcases List.mem_cons.mp hu with rfl | hu
    · exact CZ.up g3 p
    · exact hp u hu⟩
theorem atI_lt {xs : List V} {i : Int} (h : 0 ≤ i ∧ i < xs.length) : ∃ v, atI xs i = some v ∧ v ∈ xs := by
  obtain ⟨k, rfl⟩ : ∃ k : Nat, i = k := ⟨i.toNat, by omega⟩
  have hk : k < xs.length := by omega
  exact ⟨xs[k], atI_nat (List.getElem?_eq_getElem hk), List.getElem_mem hk⟩
/-- a list display, an item of it -/
theorem ev_pick [Mo P] {n : Nat} (hn : n ≤ 1000) (h1 : EvA t tA σ H (fun vs H => vs.length = n ∧ ∀ v ∈ vs, P v H)) (h2 : EvP t tb σ H (IsIn fun r => 0 ≤ r ∧ r < n)) : EvP t (tOp (rIxL K) (tLst tA) tb) σ H P := fun H1 g Q q =>
  h1 H1 g _ fun vs H2 g2 ⟨hl, hp⟩ => ⟨Nat.le_of_lt (small1000 (by omega)), fun p hp0 => by
    have g3 : Gx t H2 (upd H2 p (.lst vs)) := Gx.new g2.t1 hp0
    have nt := g2.notTape (g2.fresh hp0)
    refine h2 _ ((g.trans g2).trans g3) _ fun u H4 g4 ⟨i, e, hi⟩ => ?_
    subst e
    obtain ⟨v, hv, hm⟩ := atI_lt (xs := vs) (i := i) (by omega)
    exact ⟨p, vs, i, v, rfl, rfl, SqL.of (g4.lst upd_same nt), hv, q v H4 ((g2.trans g3).trans g4) (CZ.up (g3.trans g4) (hp v hm))⟩⟩
theorem ev_mod {A : Int → Prop} {n : Int} (h1 : EvP t ta σ H (IsIn A)) (h2 : EvP t tb σ H (IsIn (· = n))) (hn : 0 < n) : EvP t (tOp (rI (fun _ j => 0 < j) fun i j => .int (i % j)) ta tb) σ H (IsIn fun r => 0 ≤ r ∧ r < n) :=
  ev_rI h1 h2 fun i j _ _ _ e => by subst e; exact ⟨hn, _, rfl, Int.emod_nonneg _ (by omega), Int.emod_lt_of_pos _ hn⟩
theorem IsIn.any {A : Int → Prop} {v : V} (h : IsIn A v H) : IsIn (fun _ => True) v H := let ⟨i, e, _⟩ := h; ⟨i, e, trivial⟩
theorem nt0 {a : Addr} : ∀ q, (none : TT') = some q → a ≠ q.tp := fun _ z => nomatch z
/-- tape[k] = e -/
theorem q_tset {q : TP} {i0 : Nat} {k : Int} {j : Nat} {A : Int → Prop} {xs : List V} (h0 : σ[i0]? = some (some (.ref q.tp))) (h : EvP none te σ H (IsIn A)) (hx : H q.tp = some (.lst xs)) (hk : ixN xs.length k = some j)
    (hn : ∀ i H1, Gx none H H1 → A i → tv D σ (upd H1 q.tp (.lst (xs.set j (.int i))))) : tSeq (tAsg te (gSub (tVar i0) (tC (.int k)) rSetL)) tv D σ H := by
  refine h H (Gx.refl trivial) _ fun v H1 g ⟨i, e, a⟩ => ?_
  subst e
  exact ⟨_, h0, q.tp, xs, k, j, rfl, rfl, g.lstP hx, hk, hn i H1 g a⟩
theorem s_tset {q : TP} {i0 : Nat} {k : Int} {j : Nat} {A : Int → Prop} {xs : List V} (h0 : σ[i0]? = some (some (.ref q.tp))) (h : EvP none te σ H (IsIn A)) (hx : H q.tp = some (.lst xs)) (hk : ixN xs.length k = some j)
    (hn : ∀ i H1, Gx none H H1 → A i → D.nx σ (upd H1 q.tp (.lst (xs.set j (.int i))))) : tAsg te (gSub (tVar i0) (tC (.int k)) rSetL) D σ H := by
  refine h H (Gx.refl trivial) _ fun v H1 g ⟨i, e, a⟩ => ?_
  subst e
  exact ⟨_, h0, q.tp, xs, k, j, rfl, rfl, g.lstP hx, hk, hn i H1 g a⟩
/-- the tape's three numbers -/
structure Tp (q : TP) (a b c : Int) (H : Hp) : Prop where
  hs : H q.scr = some (.lst (q.ns.map V.int))
  ht : H q.tp = some (.lst [.ref q.scr, .int a, .int b, .int c])
  a0 : 0 ≤ a
  b0 : 0 ≤ b
  c0 : 0 ≤ c
  hn : q.ns.length ≤ 63
theorem Tp.ok {q : TP} {a b c : Int} (h : Tp q a b c H) : TapeOk (some q) H := ⟨h.hn, h.hs, a, b, c, h.ht, h.a0, h.b0, h.c0⟩
theorem Tp.of {q : TP} (h : TapeOk (some q) H) : ∃ a b c, Tp q a b c H := by
  obtain ⟨h0, h1, a, b, c, h2, h3, h4, h5⟩ := h
  exact ⟨a, b, c, h1, h2, h3, h4, h5, h0⟩
theorem Tp.keep {q : TP} {a b c : Int} (h : Tp q a b c H) (g : Gx none H H') : Tp q a b c H' := ⟨g.lstP h.hs, g.lstP h.ht, h.a0, h.b0, h.c0, h.hn⟩
theorem Tp.set {q : TP} {a b c a' b' c' : Int} (h : Tp q a b c H) (ha : 0 ≤ a') (hb : 0 ≤ b') (hc : 0 ≤ c') : Tp q a' b' c' (upd H q.tp (.lst [.ref q.scr, .int a', .int b', .int c'])) :=
  ⟨by rw [upd_ne (tape_ne h.ok)]; exact h.hs, upd_same, ha, hb, hc, h.hn⟩
theorem Tp.gx {q : TP} {a b c a' b' c' : Int} (h : Tp q a b c H) (ha : 0 ≤ a') (hb : 0 ≤ b') (hc : 0 ≤ c') : Gx (some q) H (upd H q.tp (.lst [.ref q.scr, .int a', .int b', .int c'])) :=
  ⟨fun x o e n => by rw [upd_ne (n q rfl)]; exact e, h.ok, (h.set ha hb hc).ok⟩
theorem Tp.gxk {q : TP} {a b c : Int} (h : Tp q a b c H) (g : Gx none H H') : Gx (some q) H H' := Gx.of_pure h.ok g
end
section
variable {P : Program} {w : World} {K : PySem.W.Frag} {mg : Str → Option Value} {base : Heap}
/-! ### _law_tape -/
theorem sc29 : FnScope ["_law_script"] ["_law_script"] (defScope (topS 29)) := ⟨rfl, rfl, rfl, by decide +kernel, rfl, by decide +kernel, by decide +kernel⟩
def spTape (K : PySem.W.Frag) : Sp := fun vs H Q _ => ∃ (a : Addr) (ns : List Int), vs = [.ref a] ∧ SqL K H a (ns.map V.int) ∧ ns.length ≤ 63 ∧ ∀ (q : TP) H', Gx none H H' → TapeOk (some q) H' → Q (.ref q.tp) H'
theorem cut63 (xs : List V) (h : xs.length ≤ 63) : cutV xs none (some 63) = xs := by
  unfold cutV
  rw [HT.sIx_none, show HT.sIx xs.length xs.length (some 63) = min 63 xs.length from HT.sIx_nat xs.length xs.length 63, Nat.min_eq_right h, List.drop_zero, Nat.sub_zero, List.take_length]
theorem ok_law_tape (d : DefAt K mg "_law_tape" ["_law_script"] (topS 29)) : Cal P w K mg base CX0 1 "_law_tape" ["_law_script"] (spTape K) := by
  obtain ⟨f, fd, F, m, b⟩ := d
  refine ⟨f, fd, F.ok sc29 (fun vs H Q E h => ?_) (fun cdv A outer s H vs Q E hr h => ?_), m, F.kp, b⟩
  · obtain ⟨_, _, rfl, _⟩ := h; rfl
  · obtain ⟨a, ns, rfl, ha, hn, q⟩ := h
    refine ⟨_, pss_one (ps_ret (pe_lst (pa_cons (pe_slice sl_list (pv 0) po_none (po_some pe_int)) (pa_cons pe_int (pa_cons pe_int (pa_cons pe_int pa_nil)))))), ?_⟩
    refine ⟨_, rfl, _, rfl, a, ns.map V.int, rfl, ha, fun p hp => ⟨(by decide : 4 ≤ sizeLine), fun r hr => ?_⟩⟩
    rw [cut63 _ (by rw [List.length_map]; exact hn)] at hr ⊢
    have g1 : Gx none H (upd H p (.lst (ns.map V.int))) := Gx.new trivial hp
    have ne : p ≠ r := ne_of_none upd_same hr
    exact q ⟨r, p, ns⟩ _ (g1.trans (Gx.new trivial hr)) ⟨hn, by show upd _ r _ p = _; rw [upd_ne ne, upd_same], 0, 0, 0, upd_same, Int.le_refl _, Int.le_refl _, Int.le_refl _⟩
/-! ### _law_draw -/
theorem sc30 : FnScope ["_law_tape_here", "_law_many", "_law_script", "_law_spot", "_law_left", "_law_cell", "_law_mixed"] ["_law_tape_here", "_law_many"] (defScope (topS 30)) := ⟨rfl, rfl, rfl, by decide +kernel, rfl, by decide +kernel, by decide +kernel⟩
def spDraw : Sp := fun vs H Q _ => ∃ (q : TP) (many : Int), vs = [.ref q.tp, .int many] ∧ TapeOk (some q) H ∧ 1 ≤ many ∧ many ≤ 1000 ∧ After (some q) H Q (IsIn fun r => 0 ≤ r ∧ r < many)
theorem ok_law_draw (bl : Blt mg) (d : DefAt K mg "_law_draw" ["_law_tape_here", "_law_many"] (topS 30)) : Cal P w K mg base CX0 1 "_law_draw" ["_law_tape_here", "_law_many"] spDraw := by
  obtain ⟨f, fd, F, m, b⟩ := d
  refine ⟨f, fd, F.ok sc30 (fun vs H Q E h => ?_) (fun cdv A outer s H vs Q E hr h => ?_), m, F.kp, b⟩
  · obtain ⟨_, _, rfl, _⟩ := h; rfl
  · obtain ⟨q, many, rfl, hT, hm1, hm2, k⟩ := h
    refine ⟨_, pss_cons (ps_set (i := 2) sc30.nd rfl (Or.inl rfl) (pe_ix ix_list (pv 0) pe_int (fun _ _ => rfl)))
      (pss_cons (ps_set (i := 3) sc30.nd rfl (Or.inl rfl) (pe_ix ix_list (pv 0) pe_int (fun _ _ => rfl)))
      (pss_cons (ps_asg (pe_op op_add (pv 3) pe_int) (pg_sub (pv 0) pe_int set_list))
      (pss_cons (ps_while PassesOwn.never (PW.pt (pw_and (pt_cmpR op_eq (pe_ix ix_list (pv 0) pe_int (fun _ _ => rfl)) pe_int (nomark _)) (pw_and1 (pt_cmpR op_lt (pe_ix ix_list (pv 0) pe_int (fun _ _ => rfl)) (pe_callB call_len_seq (by rfl) bl.len PySem.boot_len (pa_cons (pv 2) pa_nil)) (nomark _)))))
        (pss_cons (ps_if (pt_cmpR op_ge (pe_callB call_abs (by rfl) bl.abs boot_abs (pa_cons (pe_ix ix_list (pv 2) (pe_ix ix_list (pv 0) pe_int (fun _ _ => rfl)) (fun _ _ => rfl)) pa_nil)) (pe_op op_pow pe_int pe_int) (nomark _))
          (pss_one (ps_asg (pe_callB call_abs (by rfl) bl.abs boot_abs (pa_cons (pe_ix ix_list (pv 2) (pe_ix ix_list (pv 0) pe_int (fun _ _ => rfl)) (fun _ _ => rfl)) pa_nil)) (pg_sub (pv 0) pe_int set_list))) pss_nil)
        (pss_one (ps_asg (pe_op op_add (pe_ix ix_list (pv 0) pe_int (fun _ _ => rfl)) pe_int) (pg_sub (pv 0) pe_int set_list)))))
      (pss_cons (ps_if (pt_cmpR op_gt (pe_ix ix_list (pv 0) pe_int (fun _ _ => rfl)) pe_int (nomark _))
        (pss_cons (ps_set (i := 4) sc30.nd rfl (Or.inl rfl) (pe_ix ix_list (pv 0) pe_int (fun _ _ => rfl)))
        (pss_cons (ps_asg (pe_op op_fdivW (pv 4) (pv 1)) (pg_sub (pv 0) pe_int set_list))
        (pss_one (ps_ret (pe_op op_mod (pv 4) (pv 1)))))) pss_nil)
      (pss_cons (ps_set (i := 5) sc30.nd rfl (Or.inl rfl) pe_int)
      (pss_cons (ps_if (pt_cmpR op_gt (pe_callB call_len_seq (by rfl) bl.len PySem.boot_len (pa_cons (pv 2) pa_nil)) pe_int (nomark _))
        (pss_one (ps_set (i := 5) sc30.nd rfl (Or.inl rfl) (pe_ix ix_list (pv 2) (pe_op op_mod (pv 3) (pe_callB call_len_seq (by rfl) bl.len PySem.boot_len (pa_cons (pv 2) pa_nil))) (fun _ _ => rfl)))) pss_nil)
      (pss_cons (ps_set (i := 6) sc30.nd rfl (Or.inl rfl) (pe_op op_mod (pe_op op_mul (pe_op op_add (pe_op op_mod (pv 5) pe_int) pe_int) (pe_op op_add (pe_op op_add (pe_op op_mul (pe_op op_mod (pv 3) pe_int) pe_int) pe_int) (pv 3))) pe_int))
      (pss_cons (ps_set (i := 6) sc30.nd rfl (Or.inl rfl) (pe_op op_mod (pe_op op_add (pe_op op_add (pe_op op_mul (pv 6) (pv 6)) (pe_op op_mul pe_int (pv 6))) (pv 3)) pe_int))
      (pss_one (ps_ret (pe_op op_mod (pe_op op_mod (pe_op op_mul (pv 6) pe_int) pe_int) (pv 1)))))))))))), ?_⟩
    obtain ⟨a, b, c, T⟩ := Tp.of hT
    have nl : (0 : Int) ≤ q.ns.length := Int.natCast_nonneg _
    -- _law_script, _law_spot, tape[1]
    refine q_asg (t := none) (P := Is (.ref q.scr)) trivial (ev_ixL (ev_vis rfl) ev_int T.ht nt0 rfl rfl) fun v H1 g1 e => ?_
    subst e
    have T1 := T.keep g1
    refine q_asg (t := none) (P := Is (.int a)) trivial (ev_ixL (ev_vis rfl) ev_int T1.ht nt0 rfl rfl) fun v H2 g2 e => ?_
    subst e
    have T2 := T1.keep g2
    refine q_tset (q := q) (A := (· = a + 1)) rfl (ev_rI0E (i := a) (j := 1) (f := fun i j => i + j) (ev_var rfl ⟨_, rfl, rfl⟩) ev_int) T2.ht rfl fun i H3 g3 e => ?_
    subst e
    have a1 : 0 ≤ a + 1 := by have := T.a0; omega
    have T3 := T2.keep g3
    have G3 : Gx (some q) H (upd H3 q.tp (.lst [.ref q.scr, .int (a + 1), .int b, .int c])) := (((T.gxk g1).trans (T1.gxk g2)).trans (T2.gxk g3)).trans (T3.gx a1 T.b0 T.c0)
    have T4 := T3.set a1 T.b0 T.c0
    have rdT : ∀ {x y z : Int} {σ1 : L2.St} {H1 : Hp} (k : Int) (v : Int), Tp q x y z H1 → σ1[0]? = some (some (.ref q.tp)) → atI [V.ref q.scr, .int x, .int y, .int z] k = some (.int v) → EvP none (tOp (rIxL K) (tVar 0) (tC (.int k))) σ1 H1 (IsIn (· = v)) := fun k v T h0 hv =>
      ev_ixL (ev_vis h0) ev_int T.ht nt0 hv ⟨_, rfl, rfl⟩
    have rdL : ∀ {x y z : Int} {σ1 : L2.St} {H1 : Hp}, Tp q x y z H1 → σ1[2]? = some (some (.ref q.scr)) → EvP none (tCB (fun xs H Q => ∃ p ys, xs = [.ref p] ∧ (SqL K H p ys ∨ SqT K H p ys) ∧ Q (.int ys.length) H) (tCons (tVar 2) tNil)) σ1 H1 (IsIn (· = (q.ns.length : Int))) := fun T h0 =>
      (ev_lenL (ev_vis h0) T.hs nt0).imp fun v _ _ ⟨i, e1, e2⟩ => ⟨i, e1, by rw [e2, List.length_map]⟩
    -- the while
    refine q_while (t := none) (fun m σ1 H1 => ∃ b' c', σ1 = [some (.ref q.tp), some (.int many), some (.ref q.scr), some (.int a), none, none, none] ∧ Gx (some q) H H1 ∧ Tp q (a + 1) b' c' H1 ∧ m = (q.ns.length - c').toNat) (m0 := (q.ns.length - c).toNat)
      ⟨b, c, rfl, G3, T4, rfl⟩ fun m σ1 H5 ⟨b', c', eσ, G5, T5, em⟩ => ?_
    subst eσ
    refine ⟨fun x => x = true → (b' = 0 ∧ c' < q.ns.length), trivial, ?_, fun hx H6 g6 => ?_, fun _ H6 g6 => ?_⟩
    · exact eb_and (A := (· = decide (b' = 0))) (B := (· = decide (c' < (q.ns.length : Int)))) (eb_testE (ev_eqE (rdT 2 b' T5 rfl rfl) ev_int)) (fun _ => eb_testE (ev_cmpE (f := fun i j => decide (i < j)) (rdT 3 c' T5 rfl rfl) (rdL T5 rfl)))
        (fun _ z => nomatch z) fun x e1 e2 e3 => ⟨of_decide_eq_true e1.symm, of_decide_eq_true (e2.symm.trans e3)⟩
    · obtain ⟨hb, hc⟩ := hx rfl
      have T6 := T5.keep g6
      have G6 := G5.trans (T5.gxk g6)
      have c0 := T5.c0
      obtain ⟨ci, rfl⟩ : ∃ k : Nat, c' = k := ⟨c'.toNat, by omega⟩
      have hci : ci < q.ns.length := by omega
      have hx : atI (q.ns.map V.int) (ci : Int) = some (.int q.ns[ci]) := atI_nat (by rw [List.getElem?_map, List.getElem?_eq_getElem hci]; rfl)
      have rdA : ∀ {x y : Int} {H1 : Hp}, Tp q x y (ci : Int) H1 → EvP none (tCB (fun xs H Q => ∃ i, xs = [.int i] ∧ Q (.int (if i < 0 then -i else i)) H) (tCons (tOp (rIxL K) (tVar 2) (tOp (rIxL K) (tVar 0) (tC (.int 3)))) tNil)) [some (.ref q.tp), some (.int many), some (.ref q.scr), some (.int a), none, none, none] H1 (IsIn (· = (q.ns[ci].natAbs : Int))) := fun T =>
        ev_abs (ev_ixL (ev_vis rfl) (rdT 3 _ T rfl rfl) T.hs nt0 hx ⟨_, rfl, rfl⟩)
      refine q_if (t := none) (B := fun _ => True) trivial (eb_test ((ev_cmpE (f := fun i j => decide (j ≤ i)) (rdA T6) (ev_rIE (f := fun i j => i ^ j.toNat) (i := 10) (j := 18) ev_int ev_int ⟨by decide, by decide, by decide⟩)).imp fun v _ _ e => ⟨_, e, trivial⟩)) (fun _ H7 g7 => ?_) (fun _ H7 g7 => ?_)
      · refine s_tset (q := q) (A := (· = (q.ns[ci].natAbs : Int))) rfl (rdA (T6.keep g7)) (T6.keep g7).ht rfl fun i H8 g8 e => ?_
        subst e
        have T8 := (T6.keep g7).keep g8
        have T9 := T8.set T8.a0 (Int.natCast_nonneg q.ns[ci].natAbs) T8.c0
        have G9 := ((G6.trans (T6.gxk g7)).trans ((T6.keep g7).gxk g8)).trans (T8.gx T8.a0 (Int.natCast_nonneg q.ns[ci].natAbs) T8.c0)
        refine s_tset (q := q) (A := (· = (ci : Int) + 1)) rfl (ev_rI0E (i := (ci : Int)) (j := 1) (f := fun i j => i + j) (rdT 3 _ T9 rfl rfl) ev_int) T9.ht rfl fun i H10 g10 e => ?_
        subst e
        have T10 := T9.keep g10
        exact ⟨_, by omega, _, (ci : Int) + 1, rfl, (G9.trans (T9.gxk g10)).trans (T10.gx T10.a0 T10.b0 (by omega)), T10.set T10.a0 T10.b0 (by omega), rfl⟩
      · have T9 := T6.keep g7
        have G9 := G6.trans (T6.gxk g7)
        refine s_tset (q := q) (A := (· = (ci : Int) + 1)) rfl (ev_rI0E (i := (ci : Int)) (j := 1) (f := fun i j => i + j) (rdT 3 _ T9 rfl rfl) ev_int) T9.ht rfl fun i H10 g10 e => ?_
        subst e
        have T10 := T9.keep g10
        exact ⟨_, by omega, _, (ci : Int) + 1, rfl, (G9.trans (T9.gxk g10)).trans (T10.gx T10.a0 T10.b0 (by omega)), T10.set T10.a0 T10.b0 (by omega), rfl⟩
    -- behind it
    have T6 := T5.keep g6
    have G6 := G5.trans (T5.gxk g6)
    refine q_if (t := none) (B := (· = decide (0 < b'))) trivial (eb_testE (ev_cmpE (f := fun i j => decide (j < i)) (rdT 2 b' T6 rfl rfl) ev_int)) (fun hb H7 g7 => ?_) (fun _ H7 g7 => ?_)
    · have T7 := T6.keep g7
      have G7 := G6.trans (T6.gxk g7)
      refine q_asg (t := none) (P := IsIn (· = b')) trivial (rdT 2 b' T7 rfl rfl) fun v H8 g8 ⟨i0, e1, e2⟩ => ?_
      rw [e2] at e1
      subst e1
      have T8 := T7.keep g8
      have G8 := G7.trans (T7.gxk g8)
      refine q_tset (q := q) (A := fun i => 0 ≤ i) rfl (ev_rI (A := (· = b')) (B := (· = many)) (ev_var rfl ⟨_, rfl, rfl⟩) (ev_var rfl ⟨_, rfl, rfl⟩) fun i j _ _ e1 e2 => by
        subst e1; subst e2
        exact ⟨wide_div (b := 64) (by omega) (Nat.lt_of_le_of_lt (show j.natAbs ≤ 1000 by omega) (by decide)) (by decide) (by decide), _, rfl, Int.ediv_nonneg T8.b0 (by omega)⟩) T8.ht rfl fun i H9 g9 hi => ?_
      have T9 := T8.keep g9
      have G9 := (G8.trans (T8.gxk g9)).trans (T9.gx T9.a0 hi T9.c0)
      refine s_ret (t := none) trivial (ev_mod (A := (· = b')) (n := many) (ev_var rfl ⟨_, rfl, rfl⟩) (ev_var rfl ⟨_, rfl, rfl⟩) (by omega)) fun v H10 g10 p => k v H10 (G9.trans ((T9.set T9.a0 hi T9.c0).gxk g10)) p
    · have T7 := T6.keep g7
      have G7 := G6.trans (T6.gxk g7)
      show tSeq _ _ _ _ _
      refine q_asg (t := none) (P := IsIn fun _ => True) trivial (ev_c ⟨0, rfl, trivial⟩) fun v H8 g8 hv => ?_
      have T8 := T7.keep g8
      have G8 := G7.trans (T7.gxk g8)
      have fin : ∀ v H9, IsIn (fun _ => True) v H9 → Gx (some q) H H9 → Tp q (a + 1) b' c' H9 → tSeq (tAsg (tOp (rI (fun _ j => 0 < j) fun i j => .int (i % j)) (tOp (rI CMul fun i j => .int (i * j)) (tOp (rI0 fun i j => .int (i + j)) (tOp (rI (fun _ j => 0 < j) fun i j => .int (i % j)) (tVar 5) (tC (.int 1000003))) (tC (.int 1))) (tOp (rI0 fun i j => .int (i + j)) (tOp (rI0 fun i j => .int (i + j)) (tOp (rI CMul fun i j => .int (i * j)) (tOp (rI (fun _ j => 0 < j) fun i j => .int (i % j)) (tVar 3) (tC (.int 997))) (tC (.int 7919))) (tC (.int 104729))) (tVar 3))) (tC (.int 1000033))) (gName 6))
          (tSeq (tAsg (tOp (rI (fun _ j => 0 < j) fun i j => .int (i % j)) (tOp (rI0 fun i j => .int (i + j)) (tOp (rI0 fun i j => .int (i + j)) (tOp (rI CMul fun i j => .int (i * j)) (tVar 6) (tVar 6)) (tOp (rI CMul fun i j => .int (i * j)) (tC (.int 3)) (tVar 6))) (tVar 3)) (tC (.int 999983))) (gName 6))
          (tRet (tOp (rI (fun _ j => 0 < j) fun i j => .int (i % j)) (tOp (rI (fun _ j => 0 < j) fun i j => .int (i % j)) (tOp (rI CMul fun i j => .int (i * j)) (tVar 6) (tC (.int 48271))) (tC (.int 65537))) (tVar 1)))) { nx := fun _ H' => Q .non H', rt := Q } [some (.ref q.tp), some (.int many), some (.ref q.scr), some (.int a), none, some v, none] H9 := fun v H9 hv G9 T9 => by
        have sml : ∀ {n : Int}, 0 ≤ n → n < 2000000 → (-(2 ^ 64) < n ∧ n < 2 ^ 64) := fun h1 h2 => ⟨by omega, by omega⟩
        refine q_asg (t := none) (P := IsIn fun r => 0 ≤ r ∧ r < 1000033) trivial (ev_mod (A := fun _ => True) (ev_rI (A := fun r => 0 ≤ r ∧ r < 2000000) (B := fun _ => True) (ev_rI0 (ev_mod (ev_var rfl hv) (ev_int (i := 1000003)) (by decide)) (ev_int (i := 1)) fun i j _ _ e1 e2 => ⟨_, rfl, by omega⟩)
          (ev_rI0 (A := fun _ => True) (ev_rI0 (A := fun _ => True) (ev_rI (ev_mod (A := fun _ => True) (ev_var rfl ⟨_, rfl, trivial⟩) (ev_int (i := 997)) (by decide)) (ev_int (i := 7919)) fun i j _ _ e1 e2 => ⟨.inl (sml e1.1 (by omega)), _, rfl, trivial⟩) (ev_int (i := 104729)) fun i j _ _ _ _ => ⟨_, rfl, trivial⟩) (ev_var (P := IsIn fun _ => True) rfl ⟨_, rfl, trivial⟩) fun i j _ _ _ _ => ⟨_, rfl, trivial⟩)
          fun i j _ _ e1 _ => ⟨.inl (sml e1.1 e1.2), _, rfl, trivial⟩) ev_int (by decide)) fun u H10 g10 hu => ?_
        have T10 := T9.keep g10
        refine q_asg (t := none) (P := IsIn fun r => 0 ≤ r ∧ r < 999983) trivial (ev_mod (A := fun _ => True) (ev_rI0 (A := fun _ => True) (ev_rI0 (A := fun _ => True) (B := fun _ => True) (ev_rI (ev_var rfl hu) (ev_var rfl hu) fun i j _ _ e1 e2 => ⟨.inl (sml e1.1 (by omega)), _, rfl, trivial⟩) (ev_rI (ev_int (i := 3)) (ev_var rfl hu) fun i j _ _ e1 e2 => ⟨.inl (sml (by omega) (by omega)), _, rfl, trivial⟩) fun i j _ _ _ _ => ⟨_, rfl, trivial⟩)
          (ev_var (P := IsIn fun _ => True) rfl ⟨_, rfl, trivial⟩) fun i j _ _ _ _ => ⟨_, rfl, trivial⟩) ev_int (by decide)) fun u2 H11 g11 hu2 => ?_
        have T11 := T10.keep g11
        refine s_ret (t := none) trivial (ev_mod (n := many) (A := fun r => 0 ≤ r ∧ r < 65537) (ev_mod (A := fun _ => True) (ev_rI (ev_var rfl hu2) (ev_int (i := 48271)) fun i j _ _ e1 e2 => ⟨.inl (sml e1.1 (by omega)), _, rfl, trivial⟩) ev_int (by decide)) (ev_var rfl ⟨_, rfl, rfl⟩) (by omega)) fun x H12 g12 p => k x H12 (((G9.trans (T9.gxk g10)).trans (T10.gxk g11)).trans (T11.gxk g12)) p
      refine q_if (t := none) (B := (· = decide ((0 : Int) < q.ns.length))) trivial (eb_testE (ev_cmpE (f := fun i j => decide (j < i)) (rdL T8 rfl) ev_int)) (fun hb H9 g9 => ?_) (fun _ H9 g9 => fin v H9 (hv.any) (G8.trans (T8.gxk g9)) (T8.keep g9))
      have hpos : (0 : Int) < q.ns.length := of_decide_eq_true hb.symm
      have T9 := T8.keep g9
      refine s_asg (t := none) (P := IsIn fun _ => True) trivial (fun H10 g10 Q1 q1 => ?_) fun v H10 g10 hv => fin v H10 hv ((G8.trans (T8.gxk g9)).trans (T9.gxk g10)) (T9.keep g10)
      refine (ev_vis (v := .ref q.scr) (i := 2) rfl) H10 (Gx.refl (t := none) trivial) _ fun x H11 g11 e => (ev_mod (n := (q.ns.length : Int)) (A := fun _ => True) (ev_var rfl ⟨_, rfl, trivial⟩) (rdL (T9.keep g10) rfl) hpos) H11 g11 _ fun y H12 g12 ⟨i, ey, hi⟩ => ?_
      subst e; subst ey
      obtain ⟨z, hz, hm⟩ := atI_lt (xs := q.ns.map V.int) (i := i) (by rw [List.length_map]; exact hi)
      obtain ⟨j, _, rfl⟩ := List.mem_map.mp hm
      exact ⟨q.scr, _, i, _, rfl, rfl, SqL.of (((T9.keep g10).keep g11).keep g12).hs, hz, q1 _ H12 (g11.trans g12) ⟨j, rfl, trivial⟩⟩
end
end CZ
/-! _law_number, _law_point, _law_poly. -/
namespace CZ
open PySem PySem.Spec PyProof.Rows L2
section
variable {t : TT'} {K : PySem.W.Frag} {σ : L2.St} {H H' : Hp} {ta tb te : TE} {tA : TA} {D : Ends} {ts tv : TS} {P : V → Hp → Prop}
theorem ev_draw {q : TP} {n : Int} (h1 : EvP (some q) ta σ H (Is (.ref q.tp))) (h2 : EvP (some q) tb σ H (IsIn (· = n))) (hn : 1 ≤ n ∧ n ≤ 1000) : EvP (some q) (tCall spDraw [] E0 (tCons ta (tCons tb tNil))) σ H (IsIn fun r => 0 ≤ r ∧ r < n) :=
  ev_call2 h1 h2 fun v u H1 g e ⟨_, e1, e2⟩ Q1 q1 => ⟨q, n, by rw [e, e1, e2], g.t1, hn.1, hn.2, q1⟩
theorem eb_eqAny {A B : Int → Prop} (h1 : EvP t ta σ H (IsIn A)) (h2 : EvP t tb σ H (IsIn B)) : EvB t (tTest (tOp rEq ta tb)) σ H (fun _ => True) := fun H1 g Q k =>
  h1 H1 g _ fun v H2 g2 ⟨i, e, a⟩ => h2 H2 (g.trans g2) _ fun w H3 g3 ⟨j, e2, b⟩ => by
    subst e; subst e2
    exact ⟨rfl, _, rfl, k _ H3 (g2.trans g3) trivial⟩
/-- an item of a known list -/
theorem ev_pickV [Mo P] {a : Addr} {xs : List V} (h1 : EvP t ta σ H (Is (.ref a))) (hx : H a = some (.lst xs)) (hn : ∀ q, t = some q → a ≠ q.tp) (hp : ∀ v ∈ xs, P v H) (h2 : EvP t tb σ H (IsIn fun r => 0 ≤ r ∧ r < xs.length)) : EvP t (tOp (rIxL K) ta tb) σ H P := fun H1 g Q q =>
  h1 H1 g _ fun _ H2 g2 e => h2 H2 (g.trans g2) _ fun u H3 g3 ⟨i, e2, hi⟩ => by
    subst e2
    obtain ⟨v, hv, hm⟩ := atI_lt (xs := xs) (i := i) hi
    exact ⟨a, xs, i, v, e, rfl, SqL.of (((g.trans g2).trans g3).lst hx hn), hv, q v H3 (g2.trans g3) (CZ.up ((g.trans g2).trans g3) (hp v hm))⟩
theorem q_lst {i : Nat} {PA : List V → Hp → Prop} (hT : TapeOk t H) (h : EvA t tA σ H PA) (hz : ∀ vs H1, PA vs H1 → vs.length ≤ 1000) (k : ∀ vs H1 p, Gx t H H1 → PA vs H1 → H1 p = none → ts D (σ.set i (some (.ref p))) (upd H1 p (.lst vs))) : tSeq (tAsg (tLst tA) (gName i)) ts D σ H :=
  h H (Gx.refl hT) _ fun vs H1 g p => ⟨Nat.le_of_lt (small1000 (hz vs H1 p)), fun a ha => k vs H1 a g p ha⟩
theorem for_rng {A : Int → Prop} {g : TG} (hT : TapeOk t H) (h : EvA t tA σ H (fun vs _ => ∃ n, vs = [V.int n] ∧ A n)) (k : ∀ n H1, Gx t H H1 → A n → tFor (iRng1 (tCons (tC (.int n)) tNil)) g ts D σ H1) : tFor (iRng1 tA) g ts D σ H :=
  h H (Gx.refl hT) _ fun vs H1 g1 ⟨n, e, a⟩ => by subst e; exact k n H1 g1 a
theorem ea_int1 {A : Int → Prop} (h : EvP t ta σ H (IsIn A)) : EvA t (tCons ta tNil) σ H (fun vs _ => ∃ n, vs = [V.int n] ∧ A n) := fun H1 g Q q => ea_1 h H1 g Q fun vs H2 g2 ⟨v, e, i, e1, a⟩ => q vs H2 g2 ⟨i, by rw [e, e1], a⟩
end
section
variable {P : Program} {w : World} {K : PySem.W.Frag} {mg : Str → Option Value} {base : Heap}
/-! ### _law_number -/
theorem sc37 : FnScope ["_law_tape_here", "_law_top", "_law_bottom"] ["_law_tape_here"] (defScope (topS 37)) := ⟨rfl, rfl, rfl, by decide +kernel, rfl, by decide +kernel, by decide +kernel⟩
def spNum (K : PySem.W.Frag) : Sp := fun vs H Q _ => ∃ q : TP, vs = [.ref q.tp] ∧ TapeOk (some q) H ∧ After (some q) H Q (fun v H' => ∃ r, IsB LL (2 ^ 110) r ∧ IsRat K r v H')
theorem ok_law_number (d : DefAt K mg "_law_number" ["_law_tape_here"] (topS 37)) (c1 : Cal P w K mg base CX0 2 "_law_draw" ["_law_tape_here", "_law_many"] spDraw) (c2 : Cal P w K mg base CX0 2 "_law_ratio" ["_law_top", "_law_bottom"] (spRatio K)) : Cal P w K mg base CX0 3 "_law_number" ["_law_tape_here"] (spNum K) := by
  obtain ⟨f, fd, F, m, b⟩ := d
  refine ⟨f, fd, F.ok sc37 (fun vs H Q E h => ?_) (fun cdv A outer s H vs Q E hr h => ?_), m, F.kp, b⟩
  · obtain ⟨_, rfl, _⟩ := h; rfl
  · obtain ⟨q, rfl, hT, k⟩ := h
    refine ⟨_, pss_cons (ps_set (i := 1) sc37.nd rfl (Or.inl rfl) (pe_ix ix_list (pe_lst (pa_cons pe_int (pa_cons pe_int (pa_cons pe_int (pa_cons pe_int (pa_cons pe_int (pa_cons (pe_op op_add pe_int (pe_cal c1 hr (pa_cons (pv 0) (pa_cons pe_int pa_nil)))) (pa_cons (pe_op op_add (pe_op op_pow pe_int pe_int) pe_int) pa_nil)))))))) (pe_cal c1 hr (pa_cons (pv 0) (pa_cons pe_int pa_nil))) (fun _ _ => rfl)))
      (pss_cons (ps_set (i := 2) sc37.nd rfl (Or.inl rfl) (pe_ix ix_list (pe_lst (pa_cons pe_int (pa_cons pe_int (pa_cons pe_int (pa_cons pe_int (pa_cons pe_int (pa_cons pe_int (pa_cons (pe_op op_add pe_int (pe_cal c1 hr (pa_cons (pv 0) (pa_cons pe_int pa_nil)))) pa_nil)))))))) (pe_cal c1 hr (pa_cons (pv 0) (pa_cons pe_int pa_nil))) (fun _ _ => rfl)))
      (pss_one (ps_ret (pe_cal c2 hr (pa_cons (pe_ix ix_list (pe_lst (pa_cons (pv 1) (pa_cons (pe_op op_sub pe_int (pv 1)) pa_nil))) (pe_cal c1 hr (pa_cons (pv 0) (pa_cons pe_int pa_nil))) (fun _ _ => rfl)) (pa_cons (pv 2) pa_nil)))))), ?_⟩
    have lit : ∀ {σ : L2.St} {H : Hp} {lo hi : Int} (i : Int), lo ≤ i ∧ i ≤ hi → EvP (some q) (tC (.int i)) σ H (IsIn fun i => lo ≤ i ∧ i ≤ hi) := fun i h => ev_c ⟨i, rfl, h⟩
    have dr : ∀ {σ : L2.St} {H : Hp} (n : Int), σ[0]? = some (some (.ref q.tp)) → 1 ≤ n ∧ n ≤ 1000 → EvP (some q) (tCall spDraw [] E0 (tCons (tVar 0) (tCons (tC (.int n)) tNil))) σ H (IsIn fun r => 0 ≤ r ∧ r < n) := fun n h0 hn => ev_draw (ev_vis h0) ev_int hn
    refine q_asg (t := some q) (P := IsIn fun i => 0 ≤ i ∧ i ≤ 10 ^ 20 + 39) hT (ev_pick (n := 7) (by decide) (ea_consA (lit 1 (by decide)) (ea_consA (lit 1 (by decide)) (ea_consA (lit 2 (by decide)) (ea_consA (lit 3 (by decide)) (ea_consA (lit 5 (by decide))
      (ea_consA (ev_rI0 (A := (· = 1)) ev_int (dr 40 rfl (by decide)) fun i j _ _ e1 e2 => ⟨_, rfl, by omega⟩) (ea_consA (ev_rI0 (A := (· = 10 ^ 20)) (B := (· = 39)) ((ev_rIE (i := 10) (j := 20) (f := fun i j => i ^ j.toNat) ev_int ev_int ⟨by decide, by decide, by decide⟩).imp fun _ _ _ h => h) ev_int fun i j _ _ e1 e2 => ⟨_, rfl, by subst e1; subst e2; decide⟩) ea_nilA))))))) (dr 7 rfl (by decide))) fun v1 H1 g1 ⟨top, e1, h1⟩ => ?_
    subst e1
    refine q_asg (t := some q) (P := IsIn fun i => 1 ≤ i ∧ i ≤ 30) g1.t1 (ev_pick (n := 7) (by decide) (ea_consA (lit 1 (by decide)) (ea_consA (lit 1 (by decide)) (ea_consA (lit 1 (by decide)) (ea_consA (lit 1 (by decide)) (ea_consA (lit 2 (by decide))
      (ea_consA (lit 3 (by decide)) (ea_consA (ev_rI0 (A := (· = 1)) ev_int (dr 30 rfl (by decide)) fun i j _ _ e1 e2 => ⟨_, rfl, by omega⟩) ea_nilA))))))) (dr 7 rfl (by decide))) fun v2 H2 g2 ⟨bot, e2, h2⟩ => ?_
    subst e2
    obtain ⟨bn, rfl⟩ : ∃ b : Nat, bot = b := ⟨bot.toNat, by omega⟩
    have hb : 1 ≤ bn ∧ bn ≤ 30 := by omega
    refine s_ret (t := some q) g2.t1 (ev_call2 (P1 := IsIn fun i => i.natAbs ≤ 10 ^ 20 + 39) (P2 := IsIn (· = (bn : Int))) (ev_pick (n := 2) (by decide) (ea_consA (ev_var rfl ⟨top, rfl, by omega⟩) (ea_consA (ev_rI0 (A := (· = 0)) (B := (· = top)) ev_int (ev_var rfl ⟨_, rfl, rfl⟩) fun i j _ _ e1 e2 => ⟨_, rfl, by omega⟩) ea_nilA)) (dr 2 rfl (by decide))) (ev_var rfl ⟨_, rfl, rfl⟩) fun v u H3 g3 ⟨a, e3, h3⟩ ⟨_, e4, e5⟩ Q1 q1 => ⟨a, bn, by rw [e3, e4, e5], hb.1, Nat.lt_of_le_of_lt hb.2 (Nat.lt_of_lt_of_le (by decide : 30 < 2 ^ 5) (Nat.pow_le_pow_right (by decide) (by decide))), fun v H4 g4 p => q1 v H4 (Gx.of_pure g3.t1 g4) ⟨_, (isB_mk a (dvd_LL bn hb.1 hb.2) hb.1).mono ?_, p⟩⟩) fun v H3 g3 p => k v H3 ((g1.trans g2).trans g3) p
    exact Nat.le_trans (Nat.mul_le_mul_right LL h3) (by decide)
/-! ### _law_point -/
def rP0 : Rat := ⟨0, 1, by decide, by decide⟩
def rP1 : Rat := ⟨1, 1, by decide, by decide⟩
def rP2 : Rat := ⟨-1, 1, by decide, by decide⟩
def rP3 : Rat := ⟨2, 1, by decide, by decide⟩
def rP4 : Rat := ⟨1, 2, by decide, by decide⟩
def rP5 : Rat := ⟨-3, 5, by decide, by decide⟩
theorem rB0 : IsB 10 30 rP0 := ⟨0, by decide +kernel, by decide⟩
theorem rB1 : IsB 10 30 rP1 := ⟨10, by decide +kernel, by decide⟩
theorem rB2 : IsB 10 30 rP2 := ⟨-10, by decide +kernel, by decide⟩
theorem rB3 : IsB 10 30 rP3 := ⟨20, by decide +kernel, by decide⟩
theorem rB4 : IsB 10 30 rP4 := ⟨5, by decide +kernel, by decide⟩
theorem rB5 : IsB 10 30 rP5 := ⟨-6, by decide +kernel, by decide⟩
def tPr (ta : TE) (j : Int) : TE := tTup (tCons ta (tCons (tC (.int j)) tNil))
theorem ev_pr {t : TT'} {σ : L2.St} {H : Hp} {tA : TE} {i j : Int} (r : Rat) (e1 : r.num = i) (e2 : (r.den : Int) = j) (hb : IsB 10 30 r) (h : EvP t tA σ H (IsIn (· = i))) : EvP t (tPr tA j) σ H (fun v H => ∃ r, IsB 10 30 r ∧ IsRat K r v H) :=
  (ev_rat (q := r) (by rw [e1]; exact h) (by rw [e2]; exact ev_int)).imp fun v _ _ p => ⟨r, hb, p⟩
def tNg (i : Int) : TE := tUn (rU fun i => .int (-i)) (tC (.int i))
def tPts : TA := tCons (tPr (tC (.int 0)) 1) (tCons (tPr (tC (.int 1)) 1) (tCons (tPr (tNg 1) 1) (tCons (tPr (tC (.int 2)) 1) (tCons (tPr (tC (.int 1)) 2) (tCons (tPr (tNg 3) 5) tNil)))))
theorem ev_ng {t : TT'} {σ : L2.St} {H : Hp} (i : Int) {j : Int} (e : -i = j) : EvP t (tNg i) σ H (IsIn (· = j)) := e ▸ ev_unE (f := fun i => -i) ev_int
theorem ea_point {t : TT'} {σ : L2.St} {H : Hp} : EvA t tPts σ H (fun vs H => vs.length = 6 ∧ ∀ v ∈ vs, ∃ r, IsB 10 30 r ∧ IsRat K r v H) :=
  ea_consA (ev_pr rP0 rfl rfl rB0 ev_int) (ea_consA (ev_pr rP1 rfl rfl rB1 ev_int) (ea_consA (ev_pr rP2 rfl rfl rB2 (ev_ng 1 rfl)) (ea_consA (ev_pr rP3 rfl rfl rB3 ev_int) (ea_consA (ev_pr rP4 rfl rfl rB4 ev_int) (ea_consA (ev_pr rP5 rfl rfl rB5 (ev_ng 3 rfl)) ea_nilA)))))
theorem sc43 : FnScope ["_law_tape_here", "_law_n", "_law_some", "_law_k"] ["_law_tape_here", "_law_n"] (defScope (topS 43)) := ⟨rfl, rfl, rfl, by decide +kernel, rfl, by decide +kernel, by decide +kernel⟩
def spPoint (K : PySem.W.Frag) : Sp := fun vs H Q _ => ∃ (q : TP) (n : Nat), vs = [.ref q.tp, .int n] ∧ TapeOk (some q) H ∧ n ≤ 1000 ∧ After (some q) H Q (fun v H' => ∃ ps : List Rat, ps.length = n ∧ (∀ p ∈ ps, IsB 10 30 p) ∧ IsPt K ps v H')
theorem ok_law_point (bl : Blt mg) (d : DefAt K mg "_law_point" ["_law_tape_here", "_law_n"] (topS 43)) (c1 : Cal P w K mg base CX0 2 "_law_draw" ["_law_tape_here", "_law_many"] spDraw) : Cal P w K mg base CX0 3 "_law_point" ["_law_tape_here", "_law_n"] (spPoint K) := by
  obtain ⟨f, fd, F, m, b⟩ := d
  refine ⟨f, fd, F.ok sc43 (fun vs H Q E h => ?_) (fun cdv A outer s H vs Q E hr h => ?_), m, F.kp, b⟩
  · obtain ⟨_, _, rfl, _⟩ := h; rfl
  · obtain ⟨q, n, rfl, hT, hn, k⟩ := h
    refine ⟨_, pss_cons (ps_set (i := 2) sc43.nd rfl (Or.inr rfl) (pe_lst (pa_cons (pe_tup (pa_cons pe_int (pa_cons pe_int pa_nil))) (pa_cons (pe_tup (pa_cons pe_int (pa_cons pe_int pa_nil))) (pa_cons (pe_tup (pa_cons (pe_un un_neg pe_int) (pa_cons pe_int pa_nil))) (pa_cons (pe_tup (pa_cons pe_int (pa_cons pe_int pa_nil))) (pa_cons (pe_tup (pa_cons pe_int (pa_cons pe_int pa_nil))) (pa_cons (pe_tup (pa_cons (pe_un un_neg pe_int) (pa_cons pe_int pa_nil))) pa_nil))))))))
      (pss_one (ps_ret (pe_callTy (r := rTupF K) call_tupF (by rfl) bl.tuple boot_tuple (pa_cons (pe_lc (own := [("_law_k", 3)]) (g := gName 3) rfl sc43.nd (pi_range1 rfl bl.range (pa_cons (pv 1) pa_nil)) (blkOk_by (N := ["_law_tape_here", "_law_n", "_law_some", "_law_k"]) (sc := defScope (topS 43)) (by decide +kernel)) (fun _ _ _ _ _ => pg_name (i := 3) sc43.nd rfl (Or.inl rfl)) (fun _ _ _ _ _ => pts_nil)
        (fun _ _ _ _ _ => pe_ix (r := rIxL K) ix_list (pv 2) (pe_cal c1 hr (pa_cons (pv 0) (pa_cons pe_int pa_nil))) (fun _ _ => rfl))) pa_nil)))), ?_⟩
    refine q_lst (t := some q) (tA := tPts) hT (ea_point (K := K)) (fun vs _ h => by rw [h.1]; decide) fun vs H1 p g1 ⟨hl, hp⟩ hp0 => ?_
    have g2 : Gx (some q) H1 (upd H1 p (.lst vs)) := Gx.new g1.t1 hp0
    have nt := g1.notTape (g1.fresh hp0)
    have hp2 : ∀ v ∈ vs, ∃ r, IsB 10 30 r ∧ IsRat K r v (upd H1 p (.lst vs)) := fun v hv => let ⟨r, a, b⟩ := hp v hv; ⟨r, a, CZ.up g2 b⟩
    refine s_ret (t := some q) g2.t1 (ev_tupF (R := IsRat K) (A := fun as => as.length = n ∧ ∀ r ∈ as, IsB 10 30 r) fun H3 g3 Q1 q1 => ?_) fun v H3 g3 ⟨as, ⟨h1, h2⟩, h⟩ => k v H3 ((g1.trans g2).trans g3) ⟨as, h1, h2, h.of⟩
    refine ev_lc (α := Rat) (R := IsRat K) (C := fun _ r => IsB 10 30 r) (fun _ _ g => g.txT) (turns_range (n := (n : Int)) (ea_is1 (ev_vis rfl)) (by omega)) (by omega) (fun i σ2 H2 e => by subst e; rfl) (fun i σ2 H4 hi g4 e => ?_) H3 g3 Q1 fun p xs H5 hp g5 e ⟨as, hl, hC, hR⟩ => q1 p xs H5 hp g5 e ⟨as, ⟨by rw [hl, Int.toNat_natCast], fun r hr => ?_⟩, hR⟩
    · subst e
      exact ev_pickV (ev_vis rfl) (g4.lst upd_same nt) nt (fun v hv => let ⟨r, a, b⟩ := hp2 v hv; ⟨r, a, CZ.up g4 b⟩) ((ev_draw (n := 6) (ev_vis rfl) ev_int (by decide)).imp fun v _ _ ⟨i, e1, e2⟩ => ⟨i, e1, by omega⟩)
    · obtain ⟨i, hi, e⟩ := List.mem_iff_getElem.mp hr
      exact hC i r (by rw [List.getElem?_eq_getElem hi, e])
/-! ### _law_poly -/
theorem sc38 : FnScope ["_law_tape_here", "_law_n", "_law_many", "_law_most", "_law_table", "_law_k", "_law_powers", "_law_letter"] ["_law_tape_here", "_law_n", "_law_many", "_law_most"] (defScope (topS 38)) := ⟨rfl, rfl, rfl, by decide +kernel, rfl, by decide +kernel, by decide +kernel⟩
def spPoly (K : PySem.W.Frag) : Sp := fun vs H Q _ => ∃ (q : TP) (n many most : Nat), vs = [.ref q.tp, .int n, .int many, .int most] ∧ TapeOk (some q) H ∧ 1 ≤ n ∧ n ≤ 900 ∧ many ≤ 900 ∧ most ≤ 900 ∧
  After (some q) H Q (fun v H' => ∃ R, Cn lt R ∧ Po n LL (2 ^ 110) many most R ∧ TupF (IsTm K) R v H')
structure TabP (K : PySem.W.Frag) (n M C N : Nat) (e : Int) (T : Pl) (kvs : List (List L2.Key × V)) (H : Hp) : Prop where
  tab : Tab K T kvs H
  nd : (T.map (·.1)).Nodup
  po : Po n M C N e T
theorem TabP.step {n M C i : Nat} {e : Int} {T : Pl} {kvs : List (List L2.Key × V)} {H : Hp} {m : Mon} {r : Rat} {v : V} (h : TabP K n M C i e T kvs H) (hc : IsB M C r) (hm : m.length = n ∧ ∀ k ∈ m, 0 ≤ k ∧ k ≤ e) (hv : IsRat K r v H) : TabP K n M C (i + 1) e (putM T m r) (putK kvs (inl' m) v) H := by
  refine ⟨h.tab.put hv h.nd, putM_nodup h.nd, ⟨Nat.le_trans (putM_len _ _ _) (Nat.succ_le_succ h.po.len), fun t ht => ?_, fun t ht => ?_⟩⟩
  · rcases putM_mem ht with rfl | k
    · exact hc
    · exact h.po.cf t k
  · rcases putM_mem ht with rfl | k
    · exact hm
    · exact h.po.mon t k
theorem TabP.lt {n M C i : Nat} {e : Int} {T : Pl} {kvs : List (List L2.Key × V)} {H : Hp} (h : TabP K n M C i e T kvs H) (hi : i ≤ 10000) : kvs.length < sizeLine := by
  have := h.po.len
  rw [← List.length_map (f := Prod.fst) (as := kvs), h.tab.keys, List.length_map, List.length_map]
  exact Nat.lt_of_le_of_lt (show T.length ≤ 10000 by omega) (by decide)
theorem ok_law_poly (bl : Blt mg) (d : DefAt K mg "_law_poly" ["_law_tape_here", "_law_n", "_law_many", "_law_most"] (topS 38)) (c1 : Cal P w K mg base CX0 3 "_law_draw" ["_law_tape_here", "_law_many"] spDraw) (c2 : Cal P w K mg base CX0 3 "_law_number" ["_law_tape_here"] (spNum K)) (c3 : Cal P w K mg base CX0 3 "_law_gathered" ["_law_table"] (spLGath K)) :
    Cal P w K mg base CX0 4 "_law_poly" ["_law_tape_here", "_law_n", "_law_many", "_law_most"] (spPoly K) := by
  obtain ⟨f, fd, F, m, b⟩ := d
  refine ⟨f, fd, F.ok sc38 (fun vs H Q E h => ?_) (fun cdv A outer s H vs Q E hr h => ?_), m, F.kp, b⟩
  · obtain ⟨_, _, _, _, rfl, _⟩ := h; rfl
  · obtain ⟨q, n, many, most, rfl, hT, hn1, hn2, hma, hmo, k⟩ := h
    refine ⟨_, pss_cons (ps_set (i := 4) sc38.nd rfl (Or.inl rfl) pe_dnewT)
      (pss_cons (ps_for PassesOwn.never rfl (pi_range1 rfl bl.range (pa_cons (pe_cal c1 hr (pa_cons (pv 0) (pa_cons (pe_op op_add (pv 2) pe_int) pa_nil))) pa_nil)) (pg_name (i := 5) sc38.nd rfl (Or.inl rfl))
        (pss_cons (ps_set (i := 6) sc38.nd rfl (Or.inl rfl) (pe_callTy call_tuple_of (by rfl) bl.tuple boot_tuple (pa_cons (pe_lc (own := [("_law_letter", 7)]) (g := gName 7) rfl sc38.nd (pi_range1 rfl bl.range (pa_cons (pv 1) pa_nil)) (blkOk_by (N := ["_law_tape_here", "_law_n", "_law_many", "_law_most", "_law_table", "_law_k", "_law_powers", "_law_letter"]) (sc := defScope (topS 38)) (by decide +kernel)) (fun _ _ _ _ _ => pg_name (i := 7) sc38.nd rfl (Or.inl rfl)) (fun _ _ _ _ _ => pts_nil)
          (fun _ _ _ _ _ => pe_cal c1 hr (pa_cons (pv 0) (pa_cons (pe_op op_add (pv 3) pe_int) pa_nil)))) pa_nil)))
        (pss_cons (ps_if (pt_cmpR op_eq (pe_cal c1 hr (pa_cons (pv 0) (pa_cons pe_int pa_nil))) pe_int (nomark _)) (pss_one (ps_set (i := 6) sc38.nd rfl (Or.inl rfl) (pe_op (OpR.or op_repT op_rep1) (pe_tup (pa_cons pe_int pa_nil)) (pv 1)))) pss_nil)
        (pss_one (ps_dput (hu_of hr) (pv 4) (pv 6) (pe_cal c2 hr (pa_cons (pv 0) pa_nil)) rfl)))))
      (pss_one (ps_ret (pe_cal c3 hr (pa_cons (pv 4) pa_nil))))), ?_⟩
    refine fun d nd => ?_
    have g1 : Gx (some q) H (upd H d (.dT [])) := Gx.new hT nd
    refine for_rng (t := some q) g1.t1 (ea_int1 (ev_draw (n := (many : Int) + 1) (ev_vis rfl) (ev_rI0E (i := (many : Int)) (j := 1) (f := fun i j => i + j) (ev_var rfl ⟨_, rfl, rfl⟩) ev_int) (by omega))) fun cnt H2 g2 hc => ?_
    refine s_for (t := some q) (σ := [some (.ref q.tp), some (.int n), some (.int many), some (.int most), some (.ref d), none, none, none]) g2.t1 (turns_range (n := cnt) (ea_is1 (ev_c rfl)) (by omega))
      (fun H1 i σ1 H2 => TxT (some q) H1 H2 ∧ Gx (some q) H H2 ∧ ∃ T kvs a5 a6 a7, σ1 = [some (.ref q.tp), some (.int n), some (.int many), some (.int most), some (.ref d), a5, a6, a7] ∧ H2 d = some (.dT kvs) ∧ TabP K n LL (2 ^ 110) i most T kvs H2)
      (fun H3 g3 => ⟨g3.here.txT, (g1.trans g2).trans g3, [], [], none, none, none, rfl, (g2.trans g3).dT upd_same, .nil, List.nodup_nil, Po.nil _ _ _ _ _⟩) (fun _ _ _ _ _ z => z.1)
      (fun H0 i σ1 σ2 H3 H4 hi g0 ⟨tx, gH, T, kvs, a5, a6, a7, eσ, hd, I⟩ g4 e => ?_) (fun H0 σ1 H3 g0 ⟨tx, gH, T, kvs, a5, a6, a7, eσ, hd, I⟩ => ?_)
    · subst eσ; subst e
      -- the store
      have fin : ∀ (m : Mon) (v : V) (x5 : Option V) H5, Gx (some q) H3 H5 → m.length = n ∧ (∀ k ∈ m, 0 ≤ k ∧ k ≤ (most : Int)) → IsMon m v H5 → ∀ (D : Ends), (∀ σ' H', (TxT (some q) H0 H' ∧ Gx (some q) H H' ∧ ∃ T kvs a5 a6 a7, σ' = [some (.ref q.tp), some (.int n), some (.int many), some (.int most), some (.ref d), a5, a6, a7] ∧ H' d = some (.dT kvs) ∧ TabP K n LL (2 ^ 110) (i + 1) most T kvs H') → D.nx σ' H') →
          sDPut (tVar 4) (tVar 6) (tCall (spNum K) [] E0 (tCons (tVar 0) tNil)) D [some (.ref q.tp), some (.int n), some (.int many), some (.int most), some (.ref d), x5, some v, a7] H5 := fun m v x5 H5 g5 hm hv D hD => by
        refine ev_call1 (t := some q) (P1 := Is (.ref q.tp)) (P := fun v H' => ∃ r, IsB LL (2 ^ 110) r ∧ IsRat K r v H') (ev_vis rfl) (fun u H6 g6 e Q1 q1 => ⟨q, by rw [e], g6.t1, q1⟩) H5 (Gx.refl g5.t1) _ fun z H6 g6 ⟨r, hr1, hr2⟩ => ?_
        have g36 := g5.trans g6
        have hd6 := g36.dT hd
        obtain ⟨bm, rfl, hbm⟩ := CZ.up g6 hv
        have tx6 : Tx H6 (upd H6 d (.dT (putK kvs (inl' m) z))) := Tx.dT hd6
        have I6 : TabP K n LL (2 ^ 110) i most T kvs H6 := ⟨I.tab.up g36.tx, I.nd, I.po⟩
        have I7 := I6.step hr1 hm hr2
        have gm : Gx (some q) H (upd H6 d (.dT (putK kvs (inl' m) z))) := (gH.trans g36).mut nd
        refine ⟨_, rfl, _, rfl, d, upd H6 d (.dT (putK kvs (inl' m) z)), rfl, DPut.t (k := inl' m) hd6 (by rw [kV_inl]; exact hbm) (I6.lt (by omega)), hD _ _ ⟨⟨(tx.1.trans g36.tx).trans tx6, gm.t1⟩, gm, _, _, x5, some (.ref bm), a7, rfl, upd_same, I7.tab.up tx6, I7.nd, I7.po⟩⟩
      refine q_asg (t := some q) (P := fun v H => ∃ m : Mon, (m.length = n ∧ ∀ k ∈ m, 0 ≤ k ∧ k ≤ (most : Int)) ∧ IsMon m v H) g4.t1 (ev_tupleL (PL := fun xs _ => ∃ m : Mon, (m.length = n ∧ ∀ k ∈ m, 0 ≤ k ∧ k ≤ (most : Int)) ∧ xs = m.map V.int) (fun H5 g5 Q1 q1 => ?_) (fun _ _ _ _ e => e) fun xs p H5 g5 ⟨m, hm, e⟩ h => ⟨m, hm, p, rfl, by rw [h, e]⟩) fun v H5 g5 ⟨m, hm, hv⟩ => ?_
      · refine ev_lc (α := Int) (R := fun i => Is (.int i)) (C := fun _ i => 0 ≤ i ∧ i ≤ (most : Int)) (fun _ _ g => g.txT) (turns_range (n := (n : Int)) (ea_is1 (ev_vis rfl)) (by omega)) (by omega) (fun i σ2 H2 e => by subst e; rfl) (fun i σ2 H6 hi g6 e => ?_) H5 g5 Q1 fun p xs H6 hp g6 e ⟨as, hl, hC, hR⟩ => q1 p xs H6 hp g6 e ⟨as, ⟨by rw [hl, Int.toNat_natCast], fun r hr => ?_⟩, paired_int hR⟩
        · subst e
          exact (ev_draw (n := (most : Int) + 1) (ev_vis rfl) (ev_rI0E (i := (most : Int)) (j := 1) (f := fun i j => i + j) (ev_var rfl ⟨_, rfl, rfl⟩) ev_int) (by omega)).imp fun v _ _ ⟨i, e1, e2⟩ => ⟨i, by omega, e1⟩
        · obtain ⟨i, hi, e⟩ := List.mem_iff_getElem.mp hr
          exact hC i r (by rw [List.getElem?_eq_getElem hi, e])
      · refine q_if (t := some q) (B := fun _ => True) g5.t1 (eb_eqAny (ev_draw (n := 3) (ev_vis rfl) ev_int (by decide)) ev_int) (fun _ H6 g6 => ?_) (fun _ H6 g6 => fin m v _ H6 ((g4.trans g5).trans g6) hm (CZ.up g6 hv) _ fun _ _ z => z)
        refine s_asg (t := some q) (P := IsMon (List.replicate n 0)) g6.t1 (ev_zeros (ev_var rfl ⟨_, rfl, rfl⟩) (by omega)) fun v7 H7 g7 hv7 => fin _ v7 _ H7 (((g4.trans g5).trans g6).trans g7) ⟨List.length_replicate, fun k hk => by
          have := (List.mem_replicate.mp hk).2
          omega⟩ hv7 _ fun _ _ z => z
    · subst eσ
      have hle : cnt.toNat ≤ many := by omega
      refine s_ret (t := some q) gH.t1 (ev_call1 (P1 := Is (.ref d)) (P := fun v H' => ∃ R, Cn lt R ∧ Po n LL (2 ^ 110) many most R ∧ TupF (IsTm K) R v H') (ev_vis rfl) fun u H4 g4 e Q1 q1 => ⟨d, kvs, T, n, LL, 2 ^ 110, many, most, by rw [e], g4.dT hd, I.tab.up g4.tx, I.nd, I.po.mono (Nat.le_refl _) hle (Int.le_refl _), by omega, by omega, fun v H5 g5 ⟨gz, hz⟩ => q1 v H5 (Gx.of_pure g4.t1 g5) ⟨_, gz.cn, gz.po, hz⟩⟩) fun v H4 g4 p => k v H4 (gH.trans g4) p
end
end CZ
/-! _law_added, _law_value, _law_vanishing. -/
namespace CZ
open PySem PySem.Spec PyProof.Rows L2
section
variable {P : Program} {w : World} {K : PySem.W.Frag} {mg : Str → Option Value} {base : Heap}
/-! ### _law_added -/
theorem sc40 : FnScope ["_law_one", "_law_other", "_law_table", "_law_powers", "_law_number_here"] ["_law_one", "_law_other"] (defScope (topS 40)) := ⟨rfl, rfl, rfl, by decide +kernel, rfl, by decide +kernel, by decide +kernel⟩
def spLAdd (K : PySem.W.Frag) : Sp := fun vs H Q _ => ∃ (v u : V) (R S : Pl) (n M C N1 N2 : Nat) (e : Int), vs = [v, u] ∧ TupF (IsTm K) R v H ∧ IsPl K S u H ∧ Cn lt R ∧ Po n M C N1 e R ∧ Po n M C N2 e S ∧ 0 < n ∧ N1 + N2 ≤ 10000 ∧ 0 < M ∧ M < Big ∧ (N2 + 1) * C < Big ∧
  After none H Q (fun v H' => ∃ Z, GR n M ((N2 + 1) * C) (N1 + N2) e (fun f => ev f R + ev f S) Z ∧ TupF (IsTm K) Z v H')
theorem tab_of {H : Hp} : ∀ {R : Pl} {xs : List V}, Paired (fun s v => IsTm K s v H) R xs → ∃ (ps : List Addr) (kvs : List (List L2.Key × V)), xs = ps.map V.ref ∧ Paired (PrAt K H) ps kvs ∧ Tab K R kvs H
  | _, _, .nil => ⟨[], [], rfl, .nil, .nil⟩
  | _, _, .cons (a := s) h t => by
    obtain ⟨ps, kvs, e, h1, h2⟩ := tab_of t
    obtain ⟨p, x, y, rfl, hp, ⟨b, rfl, hb⟩, hy⟩ := h
    exact ⟨p :: ps, (inl' s.1, y) :: kvs, by rw [List.map_cons, e], .cons ⟨b, hp, by rw [kV_inl]; exact hb⟩ h1, .cons ⟨rfl, hy⟩ h2⟩
theorem cn_nodup {R : Pl} (h : Cn lt R) : (R.map (·.1)).Nodup := by
  show List.Pairwise _ _
  rw [List.pairwise_map]
  refine h.desc.imp fun {a b} k e => ?_
  have k' : lt b.1 a.1 = true := k
  rw [e] at k'
  have := lt_asym _ _ k'
  rw [k'] at this
  cases this
structure TabJ (K : PySem.W.Frag) (n M C N1 : Nat) (e : Int) (R ts : Pl) (i : Nat) (T : Pl) (kvs : List (List L2.Key × V)) (H : Hp) : Prop where
  tab : Tab K T kvs H
  nd : (T.map (·.1)).Nodup
  po : Po n M ((i + 1) * C) (N1 + i) e T
  ev : ∀ f, ev f T = ev f R + ev f (ts.take i)
theorem TabJ.step {n M C N1 i : Nat} {e : Int} {R ts T : Pl} {kvs : List (List L2.Key × V)} {H : Hp} {s : Tm} {v : V} (h : TabJ K n M C N1 e R ts i T kvs H) (es : ts[i]? = some s) (hc : IsB M C s.2) (hm : s.1.length = n ∧ ∀ k ∈ s.1, 0 ≤ k ∧ k ≤ e)
    (hv : IsRat K ((getM T s.1).getD 0 + s.2) v H) : TabJ K n M C N1 e R ts (i + 1) (putM T s.1 ((getM T s.1).getD 0 + s.2)) (putK kvs (inl' s.1) v) H := by
  refine ⟨h.tab.put hv h.nd, putM_nodup h.nd, ⟨Nat.le_trans (putM_len _ _ _) (Nat.succ_le_succ h.po.len), fun t ht => ?_, fun t ht => ?_⟩, fun f => ?_⟩
  · rcases putM_mem ht with rfl | k
    · show IsB M ((i + 1 + 1) * C) ((getM T s.1).getD 0 + s.2)
      rw [Nat.succ_mul]
      cases hg : getM T s.1 with
      | none => exact ((IsB.zero M).mono (Nat.zero_le _)).add hc
      | some r => exact (h.po.cf _ (getM_mem hg)).add hc
    · exact (h.po.cf t k).mono (Nat.mul_le_mul_right _ (Nat.le_succ _))
  · rcases putM_mem ht with rfl | k
    · exact hm
    · exact h.po.mon t k
  · rw [ev_put, h.ev f]
    rw [take_snoc es, ev_append, ev_cons, ev_nil]
    grind
theorem ok_law_added (bl : Blt mg) (d : DefAt K mg "_law_added" ["_law_one", "_law_other"] (topS 40)) (c1 : Cal P w K mg base CX0 3 "_law_plus" ["_law_one", "_law_other"] (spPlus K)) (c2 : Cal P w K mg base CX0 3 "_law_gathered" ["_law_table"] (spLGath K)) : Cal P w K mg base CX0 4 "_law_added" ["_law_one", "_law_other"] (spLAdd K) := by
  obtain ⟨f, fd, F, m, b⟩ := d
  refine ⟨f, fd, F.ok sc40 (fun vs H Q E h => ?_) (fun cdv A outer s H vs Q E hr h => ?_), m, F.kp, b⟩
  · obtain ⟨_, _, _, _, _, _, _, _, _, _, rfl, _⟩ := h; rfl
  · obtain ⟨v, u, R, S, n, M, C, N1, N2, e, rfl, ⟨a, xs, its, nn, rfl, ha, hR⟩, ⟨b, ys, rfl, hb, hS⟩, cR, pR, pS, hn, hN, h0, h1, h2, q⟩ := h
    refine ⟨_, pss_cons (ps_set (i := 2) sc40.nd rfl (Or.inl rfl) (pe_callTy (call_dictF rfl hr.units) (by rfl) bl.dict boot_dict (pa_cons (pv 0) pa_nil)))
      (pss_cons (ps_for PassesOwn.never rfl (pi_tup (pv 1)) (pg_tup rfl (pgs_cons (pg_name (i := 3) sc40.nd rfl (Or.inl rfl)) (pgs_cons (pg_name (i := 4) sc40.nd rfl (Or.inl rfl)) pgs_nil)))
        (pss_one (ps_dput (hu_of hr) (pv 2) (pv 3) (pe_cal c1 hr (pa_cons (pe_dget2 (hu_of hr) (pv 2) (pv 3) (pe_tup (pa_cons pe_int (pa_cons pe_int pa_nil))) ⟨rfl, rfl, rfl, rfl⟩) (pa_cons (pv 4) pa_nil))) rfl)))
      (pss_one (ps_ret (pe_cal c2 hr (pa_cons (pv 2) pa_nil))))), ?_⟩
    obtain ⟨ps, kv0, ex, hpr, tab0⟩ := tab_of hR
    subst ex
    refine ⟨_, rfl, a, its, nn, ps, kv0, rfl, ha, hpr, ?_, fun D nD => ?_⟩
    · rw [tab0.keys]
      have h5 := cn_nodup cR
      exact (List.pairwise_map.mpr (h5.imp fun {x y} h e => h (inl_inj e)) : List.Pairwise (· ≠ ·) _)
    have gD : Gx none H (upd H D (.dT kv0)) := Gx.new trivial nD
    have hlS := pS.len
    have ll : ys.length = S.length := (paired_len hS).symm
    refine q_for (t := none) trivial (turns_plP (ev_vis rfl) (gD.sqT hb) (paired_mono gD.tx hS))
      (fun H1 i σ1 H2 => KpBut D H1 H2 ∧ H1 D = some (.dT kv0) ∧ ∃ T kvs a3 a4, σ1 = [some (.ref a), some (.ref b), some (.ref D), a3, a4] ∧ H2 D = some (.dT kvs) ∧ TabJ K n M C N1 e R S i T kvs H2)
      (fun H1 g1 => ⟨KpBut.refl, g1.dT upd_same, R, kv0, none, none, rfl, g1.dT upd_same, (tab0.up gD.tx).up g1.tx, cn_nodup cR, pR.mono (by omega) (Nat.le_refl _) (Int.le_refl _), fun f => by rw [List.take_zero, ev_nil]; grind⟩) (fun H1 i σ1 H2 _ z => ⟨z.1.tx z.2.1, trivial⟩)
      (fun H0 i σ1 σ2 H1 H2 hi g0 ⟨k1, hd0, T, kvs, a3, a4, eσ, hd, I⟩ g2 ⟨s, x, y, es, hx, hy, e2⟩ => ?_) (fun H0 σ1 H1 g0 ⟨k1, hd0, T, kvs, a3, a4, eσ, hd, I⟩ => ?_)
    · subst eσ; subst e2
      have hs := List.mem_of_getElem? es
      have hd2 := g2.dT hd
      have hm := pS.mon s hs
      have hcs := pS.cf s hs
      have hiN : i < N2 := by omega
      have hCN : C ≤ (N2 + 1) * C := Nat.le_mul_of_pos_left C (by omega)
      have smT : Sm ((getM T s.1).getD 0) := by
        cases hg : getM T s.1 with
        | none => exact (IsB.zero M).sm h0 h1 (Nat.lt_of_le_of_lt (Nat.zero_le _) h1)
        | some r => exact ((I.po.cf _ (getM_mem hg)).mono (Nat.mul_le_mul_right C (by omega))).sm h0 h1 h2
      refine (ev_call2 (t := none) (P := IsRat K ((getM T s.1).getD 0 + s.2)) (ev_dget2 (ev_vis rfl) (ev_var rfl hx) (ev_rat (q := 0) ev_int ev_int) hd2 (I.tab.up g2.tx)) (ev_var rfl hy) fun x y H3 g3 hx hy Q1 q1 => ⟨x, y, _, _, rfl, hx, hy, smT, hcs.sm h0 h1 (Nat.lt_of_le_of_lt hCN h2), q1⟩) H2 (Gx.refl (t := none) trivial) _ fun z H3 g3 hz3 => ?_
      obtain ⟨bm, rfl, hbm⟩ := CZ.up g3 hx
      have I3 : TabJ K n M C N1 e R S i T kvs H3 := ⟨I.tab.up (g2.trans g3).tx, I.nd, I.po, I.ev⟩
      have I4 := I3.step es hcs hm hz3
      have tx : Tx H3 (upd H3 D (.dT (putK kvs (inl' s.1) z))) := Tx.dT (g3.dT hd2)
      refine ⟨_, rfl, _, rfl, D, upd H3 D (.dT (putK kvs (inl' s.1) z)), rfl, DPut.t (k := inl' s.1) (g3.dT hd2) (by rw [kV_inl]; exact hbm) ?_, ⟨(k1.gx (g2.trans g3)).upd, hd0, _, _, some (.ref bm), some y, rfl, upd_same, I4.tab.up tx, I4.nd, I4.po, I4.ev⟩⟩
      have := I.po.len
      rw [← List.length_map (f := Prod.fst) (as := kvs), I.tab.keys, List.length_map, List.length_map]
      exact Nat.lt_of_le_of_lt (show T.length ≤ 10000 by omega) (by decide)
    · subst eσ
      have evT : ∀ f, CZ.ev f T = CZ.ev f R + CZ.ev f S := fun f => by rw [I.ev, List.take_length]
      have hT : Po n M ((N2 + 1) * C) (N1 + N2) e T := I.po.mono (Nat.mul_le_mul_right C (by omega)) (by omega) (Int.le_refl _)
      refine s_ret (t := none) trivial (ev_call1 (P := fun v H' => ∃ Z, GR n M ((N2 + 1) * C) (N1 + N2) e (fun f => CZ.ev f R + CZ.ev f S) Z ∧ TupF (IsTm K) Z v H') (ev_vis rfl) fun x H2 g2 ex Q1 q1 => ⟨D, kvs, T, n, M, _, _, e, by rw [ex], g2.dT hd, I.tab.up g2.tx, I.nd, hT, hn, hN, fun v H3 g3 ⟨gz, hz⟩ => q1 v H3 g3 ⟨_, ⟨gz.cn, gz.po, fun f => (gz.ev f).trans (evT f)⟩, hz⟩⟩) fun v H2 g2 p => q v H2 ⟨fun b o hb _ => ?_, trivial, trivial⟩ p
      have nb : b ≠ D := ne_of_none hb nD
      exact g2.keep b o (k1 b o nb (g0.keep b o (gD.keep b o hb fun _ z => nomatch z) fun _ z => nomatch z)) fun _ z => nomatch z
/-! ### _law_value -/
theorem sc42 : FnScope ["_law_poly_here", "_law_point_here", "_law_found", "_law_powers", "_law_number_here", "_law_k", "_law_turn"] ["_law_poly_here", "_law_point_here"] (defScope (topS 42)) := ⟨rfl, rfl, rfl, by decide +kernel, rfl, by decide +kernel, by decide +kernel⟩
def spVal (K : PySem.W.Frag) : Sp := fun vs H Q _ => ∃ (v u : V) (R : Pl) (ps : List Rat) (n M C N e : Nat), vs = [v, u] ∧ IsPl K R v H ∧ IsPt K ps u H ∧ Po n M C N e R ∧ ps.length = n ∧ (∀ p ∈ ps, IsB 10 30 p) ∧ e * n ≤ 18 ∧ n ≤ 1000 ∧ 0 < M ∧ M * 10 ^ 18 < Big ∧ 0 < N ∧ N * (C * 30 ^ 18) < Big ∧ N ≤ 10000 ∧
  After none H Q (IsRat K (ev (mv ps) R))
theorem ev_take (f : Mon → Rat) {R : Pl} {i : Nat} {s : Tm} (h : R[i]? = some s) : ev f (R.take (i + 1)) = ev f (R.take i) + s.2 * f s.1 := by
  rw [take_snoc h, ev_append, ev_cons, ev_nil]
  grind
theorem ok_law_value (bl : Blt mg) (d : DefAt K mg "_law_value" ["_law_poly_here", "_law_point_here"] (topS 42)) (c1 : Cal P w K mg base CX0 3 "_law_plus" ["_law_one", "_law_other"] (spPlus K)) (c2 : Cal P w K mg base CX0 3 "_law_times" ["_law_one", "_law_other"] (spTimes K)) : Cal P w K mg base CX0 4 "_law_value" ["_law_poly_here", "_law_point_here"] (spVal K) := by
  obtain ⟨f, fd, F, m, b⟩ := d
  refine ⟨f, fd, F.ok sc42 (fun vs H Q E h => ?_) (fun cdv A outer s H vs Q E hr h => ?_), m, F.kp, b⟩
  · obtain ⟨_, _, _, _, _, _, _, _, _, rfl, _⟩ := h; rfl
  · obtain ⟨v, u, R, ps, n, M, C, N, e, rfl, ⟨a, xs, rfl, ha, hR⟩, ⟨b, ys, rfl, hb, hS⟩, pR, hpl, hpb, he, hn, h0, h1, hN0, h2, hN, q⟩ := h
    refine ⟨_, pss_cons (ps_set (i := 2) sc42.nd rfl (Or.inl rfl) (pe_tup (pa_cons pe_int (pa_cons pe_int pa_nil))))
      (pss_cons (ps_for PassesOwn.never rfl (pi_tup (pv 0)) (pg_tup rfl (pgs_cons (pg_name (i := 3) sc42.nd rfl (Or.inl rfl)) (pgs_cons (pg_name (i := 4) sc42.nd rfl (Or.inl rfl)) pgs_nil)))
        (pss_cons (ps_for PassesOwn.never rfl (pi_range1 rfl bl.range (pa_cons (pe_callB call_len_seq (by rfl) bl.len PySem.boot_len (pa_cons (pv 1) pa_nil)) pa_nil)) (pg_name (i := 5) sc42.nd rfl (Or.inl rfl))
          (pss_one (ps_for PassesOwn.never rfl (pi_range1 rfl bl.range (pa_cons (pe_ix ix_tup (pv 3) (pv 5) (fun _ _ => rfl)) pa_nil)) (pg_name (i := 6) sc42.nd rfl (Or.inl rfl))
            (pss_one (ps_set (i := 4) sc42.nd rfl (Or.inl rfl) (pe_cal c2 hr (pa_cons (pv 4) (pa_cons (pe_ix ix_tup (pv 1) (pv 5) (fun _ _ => rfl)) pa_nil))))))))
        (pss_one (ps_set (i := 2) sc42.nd rfl (Or.inl rfl) (pe_cal c1 hr (pa_cons (pv 2) (pa_cons (pv 4) pa_nil)))))))
      (pss_one (ps_ret (pv 2)))), ?_⟩
    have hlR := pR.len
    have hly : ys.length = ps.length := (paired_len hS).symm
    have hM : 0 < M * 10 ^ 18 := Nat.mul_pos h0 (by decide)
    have c1B : C * 30 ^ 18 < Big := Nat.lt_of_le_of_lt (Nat.le_mul_of_pos_left _ hN0) h2
    refine q_asg (t := none) (P := IsRat K 0) trivial (ev_rat (q := 0) ev_int ev_int) fun v0 H1 g1 hv0 => ?_
    refine q_for (t := none) trivial (turns_plP (ev_vis rfl) (g1.sqT ha) (paired_mono g1.tx hR))
      (fun H2 i σ1 H3 => Gx none H2 H3 ∧ ∃ v a3 a4 a5 a6, σ1 = [some (.ref a), some (.ref b), some v, a3, a4, a5, a6] ∧ IsRat K (ev (mv ps) (R.take i)) v H3)
      (fun H2 g2 => ⟨Gx.refl trivial, v0, none, none, none, none, rfl, by rw [List.take_zero, ev_nil]; exact CZ.up g2 hv0⟩) (fun _ _ _ _ _ z => z.1.txT)
      (fun H2 i σ1 σ2 H3 H4 hi g2 ⟨g3, v, a3, a4, a5, a6, eσ, hv⟩ g4 ⟨r, x, y, er, hx, hy, e2⟩ => ?_) (fun H2 σ1 H3 g2 ⟨g3, v, a3, a4, a5, a6, eσ, hv⟩ => ?_)
    · subst eσ; subst e2
      have hr0 := List.mem_of_getElem? er
      have mr := pR.mon r hr0
      have cr := pR.cf r hr0
      have g14 := ((g1.trans g2).trans g3).trans g4
      obtain ⟨bx, rfl, hbx⟩ := hx
      -- over the letters
      refine q_for (t := none) trivial (turns_range (n := (ps.length : Int)) (fun H5 g5 Q1 q1 => ea_1 (ev_lenT (ev_vis rfl) (g14.sqT hb)) H5 g5 Q1 fun vs H6 g6 ⟨z, e5, _, e6, e7⟩ => q1 vs H6 g6 (by rw [e5, e6, e7, hly])) (by omega))
        (fun H5 k σ1 H6 => Gx none H5 H6 ∧ ∃ w a5 a6, σ1 = [some (.ref a), some (.ref b), some v, some (.ref bx), some w, a5, a6] ∧ IsRat K (r.2 * mv (ps.take k) (r.1.take k)) w H6)
        (fun H5 g5 => ⟨Gx.refl trivial, y, a5, a6, rfl, by rw [List.take_zero, List.take_zero, show mv [] [] = 1 from rfl, Rat.mul_one]; exact CZ.up g5 hy⟩) (fun _ _ _ _ _ z => z.1.txT)
        (fun H5 k σ1 σ2 H6 H7 hk g5 ⟨g6, w, a5', a6', eσ, hw⟩ g7 e => ?_) (fun H5 σ1 H6 g5 ⟨g6, w, a5', a6', eσ, hw⟩ => ?_)
      · subst eσ; subst e
        have hk1 : k < ps.length := by omega
        have hk2 : k < r.1.length := by rw [mr.1]; omega
        have g47 := (g5.trans g6).trans g7
        have hbx7 := g47.tup hbx
        have ek : r.1[k]? = some r.1[k] := List.getElem?_eq_getElem hk2
        have ep : ps[k]? = some ps[k] := List.getElem?_eq_getElem hk1
        have hkk := mr.2 _ (List.getElem_mem hk2)
        obtain ⟨tk, htk, hBk⟩ := mv_isB (e := e) (ps.take k) (r.1.take k) (fun p hp => hpb p (List.mem_of_mem_take hp)) (fun z hz => mr.2 z (List.mem_of_mem_take hz))
        have hpp := hpb _ (List.getElem_mem hk1)
        obtain ⟨py, hpy, hpr⟩ := paired_at' (paired_mono (g14.trans g47).tx hS) ep
        -- over the turns
        refine s_for (t := none) trivial (turns_range (n := r.1[k]) (fun H8 g8 Q1 q1 => ea_1 (P := IsIn (· = r.1[k])) (ev_ixT (i := (k : Int)) (ev_vis rfl) (ev_var rfl ⟨_, rfl, rfl⟩) (SqT.of hbx7) (atI_nat (by rw [List.getElem?_map, ek]; rfl)) ⟨_, rfl, rfl⟩) H8 g8 Q1 fun vs H9 g9 ⟨z, e5, _, e6, e7⟩ => q1 vs H9 g9 (by rw [e5, e6, e7])) (by
            have : e ≤ 18 * 1 ∨ n = 0 := by
              by_cases hn0 : n = 0
              · exact .inr hn0
              · exact .inl (Nat.le_trans (Nat.le_mul_of_pos_right e (by omega)) he)
            omega))
          (fun H8 j σ1 H9 => Gx none H8 H9 ∧ ∃ w a6, σ1 = [some (.ref a), some (.ref b), some v, some (.ref bx), some w, some (.int (k : Int)), a6] ∧ IsRat K (r.2 * (mv (ps.take k) (r.1.take k) * ps[k] ^ j)) w H9)
          (fun H8 g8 => ⟨Gx.refl trivial, w, a6', rfl, by rw [Rat.pow_zero, Rat.mul_one]; exact CZ.up (g7.trans g8) hw⟩) (fun _ _ _ _ _ z => z.1.txT)
          (fun H8 j σ1 σ2 H9 H10 hj g8 ⟨g9, w1, a6'', eσ, hw1⟩ g10 e => ?_) (fun H8 σ1 H9 g8 ⟨g9, w1, a6'', eσ, hw1⟩ => ?_)
        · subst eσ; subst e
          have g70 := (g8.trans g9).trans g10
          have bt : tk + j ≤ 18 := by
            have h5 : tk ≤ e * k := by
              rw [List.length_take] at htk
              exact Nat.le_trans htk (Nat.mul_le_mul_left e (Nat.min_le_left _ _))
            have h6 : j ≤ e := by omega
            have h7 : e * (k + 1) ≤ e * n := Nat.mul_le_mul_left e (by omega)
            rw [Nat.mul_succ] at h7
            omega
          have sX : Sm (r.2 * (mv (ps.take k) (r.1.take k) * ps[k] ^ j)) := (cr.top (IsB.powp hpp j tk _ hBk) bt).sm hM h1 c1B
          have sp : Sm ps[k] := hpp.sm (by decide) (by decide +kernel) (by decide +kernel)
          refine s_asg (t := none) (P := IsRat K (r.2 * (mv (ps.take k) (r.1.take k) * ps[k] ^ j) * ps[k])) trivial (ev_call2 (P1 := IsRat K (r.2 * (mv (ps.take k) (r.1.take k) * ps[k] ^ j))) (P2 := IsRat K ps[k]) (ev_var rfl (CZ.up g10 hw1)) (ev_ixT (i := (k : Int)) (ev_vis rfl) (ev_var rfl ⟨_, rfl, rfl⟩) (((g14.trans g47).trans g70).sqT hb) (atI_nat hpy) (CZ.up g70 hpr)) fun x y H11 g11 hx hy Q1 q1 => ⟨x, y, _, _, rfl, hx, hy, sX, sp, q1⟩) fun w2 H11 g11 hw2 => ?_
          refine ⟨(g9.trans g10).trans g11, w2, some (.int (j : Int)), rfl, ?_⟩
          rw [Rat.pow_succ, show r.2 * (mv (ps.take k) (r.1.take k) * (ps[k] ^ j * ps[k])) = r.2 * (mv (ps.take k) (r.1.take k) * ps[k] ^ j) * ps[k] by grind]
          exact hw2
        · subst eσ
          refine ⟨((g6.trans g7).trans g8).trans g9, w1, some (.int (k : Int)), a6'', rfl, ?_⟩
          rw [mv_take k ps r.1 _ _ ep ek]
          exact hw1
      · subst eσ
        have hfull : mv (ps.take (Int.toNat (ps.length : Int))) (r.1.take (Int.toNat (ps.length : Int))) = mv ps r.1 := by
          rw [Int.toNat_natCast, List.take_length, show ps.length = r.1.length by rw [hpl, mr.1], List.take_length]
        rw [hfull] at hw
        obtain ⟨tk, htk, hBk⟩ := mv_isB (e := e) ps r.1 hpb mr.2
        have sX : Sm (r.2 * mv ps r.1) := (cr.top hBk (Nat.le_trans htk (by rw [hpl]; exact he))).sm hM h1 c1B
        have sV : Sm (ev (mv ps) (R.take i)) := by
          refine IsB.sm (M := M * 10 ^ 18) (C := N * (C * 30 ^ 18)) ((val_isB ps hpb (by rw [hpl]; exact he) (R.take i) fun s hs => ⟨pR.cf s (List.mem_of_mem_take hs), (pR.mon s (List.mem_of_mem_take hs)).2⟩).mono (Nat.mul_le_mul_right _ ?_)) hM h1 h2
          rw [List.length_take]
          omega
        have g46 := (g4.trans g5).trans g6
        refine s_asg (t := none) (P := IsRat K (ev (mv ps) (R.take i) + r.2 * mv ps r.1)) trivial (ev_call2 (P1 := IsRat K (ev (mv ps) (R.take i))) (P2 := IsRat K (r.2 * mv ps r.1)) (ev_var rfl (CZ.up g46 hv)) (ev_var rfl hw) fun x y H11 g11 hx hy Q1 q1 => ⟨x, y, _, _, rfl, hx, hy, sV, sX, q1⟩) fun w2 H11 g11 hw2 => ?_
        exact ⟨(g3.trans g46).trans g11, w2, some (.ref bx), some w, a5', a6', rfl, by rw [ev_take _ er]; exact hw2⟩
    · subst eσ
      rw [List.take_length] at hv
      exact s_ret (t := none) trivial (ev_var rfl hv) fun v H4 g4 p => q v H4 (((g1.trans g2).trans g3).trans g4) p
/-! ### _law_vanishing -/
theorem sc44 : FnScope ["_law_tape_here", "_law_n", "_law_point_here", "_law_poly_here", "_law_number_here"] ["_law_tape_here", "_law_n", "_law_point_here"] (defScope (topS 44)) := ⟨rfl, rfl, rfl, by decide +kernel, rfl, by decide +kernel, by decide +kernel⟩
def Ms : Nat := LL * 10 ^ 18
def CA : Nat := 2 ^ 210
def spVan (K : PySem.W.Frag) : Sp := fun vs H Q _ => ∃ (q : TP) (n : Nat) (u : V) (ps : List Rat), vs = [.ref q.tp, .int n, u] ∧ TapeOk (some q) H ∧ 1 ≤ n ∧ n ≤ 3 ∧ IsPt K ps u H ∧ ps.length = n ∧ (∀ p ∈ ps, IsB 10 30 p) ∧
  After (some q) H Q (fun v H' => ∃ A, (Cn lt A ∧ Po n Ms CA 4 2 A ∧ ev (mv ps) A = 0) ∧ IsPl K A v H')
theorem ok_law_vanishing (d : DefAt K mg "_law_vanishing" ["_law_tape_here", "_law_n", "_law_point_here"] (topS 44)) (c1 : Cal P w K mg base CX0 4 "_law_poly" ["_law_tape_here", "_law_n", "_law_many", "_law_most"] (spPoly K)) (c2 : Cal P w K mg base CX0 4 "_law_value" ["_law_poly_here", "_law_point_here"] (spVal K)) (c3 : Cal P w K mg base CX0 4 "_law_added" ["_law_one", "_law_other"] (spLAdd K)) :
    Cal P w K mg base CX0 5 "_law_vanishing" ["_law_tape_here", "_law_n", "_law_point_here"] (spVan K) := by
  obtain ⟨f, fd, F, m, b⟩ := d
  refine ⟨f, fd, F.ok sc44 (fun vs H Q E h => ?_) (fun cdv A outer s H vs Q E hr h => ?_), m, F.kp, b⟩
  · obtain ⟨_, _, _, _, rfl, _⟩ := h; rfl
  · obtain ⟨q, n, u, ps, rfl, hT, hn1, hn2, hu, hpl, hpb, k⟩ := h
    refine ⟨_, pss_cons (ps_set (i := 3) sc44.nd rfl (Or.inl rfl) (pe_cal c1 hr (pa_cons (pv 0) (pa_cons (pv 1) (pa_cons pe_int (pa_cons pe_int pa_nil))))))
      (pss_cons (ps_set (i := 4) sc44.nd rfl (Or.inl rfl) (pe_cal c2 hr (pa_cons (pv 3) (pa_cons (pv 2) pa_nil))))
      (pss_one (ps_ret (pe_cal c3 hr (pa_cons (pv 3) (pa_cons (pe_tup (pa_cons (pe_tup (pa_cons (pe_op (OpR.or op_repT op_rep1) (pe_tup (pa_cons pe_int pa_nil)) (pv 1)) (pa_cons (pe_tup (pa_cons (pe_op op_sub pe_int (pe_ix ix_tup (pv 4) pe_int (fun _ _ => rfl))) (pa_cons (pe_ix ix_tup (pv 4) pe_int (fun _ _ => rfl)) pa_nil))) pa_nil))) pa_nil)) pa_nil)))))), ?_⟩
    refine q_asg (t := some q) (P := fun v H' => ∃ R, Cn lt R ∧ Po n LL (2 ^ 110) 3 2 R ∧ TupF (IsTm K) R v H') hT (ev_call4 (P1 := Is (.ref q.tp)) (P2 := IsIn (· = (n : Int))) (P3 := IsIn (· = 3)) (P4 := IsIn (· = 2)) (ev_vis rfl) (ev_var rfl ⟨_, rfl, rfl⟩) ev_int ev_int fun x y z z2 H1 g1 e1 ⟨_, e2, e3⟩ ⟨_, e4, e5⟩ ⟨_, e6, e7⟩ Q1 q1 =>
      ⟨q, n, 3, 2, by rw [e1, e2, e3, e4, e5, e6, e7]; rfl, g1.t1, hn1, by omega, by omega, by omega, q1⟩) fun v3 H1 g1 ⟨R, cR, pR, hR⟩ => ?_
    have he : 2 * n ≤ 18 := by omega
    refine q_asg (t := some q) (P := IsRat K (ev (mv ps) R)) g1.t1 (ev_call2 (P1 := IsPl K R) (P2 := IsPt K ps) (ev_var rfl hR.of) (ev_var rfl (CZ.up g1 hu)) fun x y H2 g2 hx hy Q1 q1 => ⟨x, y, R, ps, n, LL, 2 ^ 110, 3, 2, rfl, hx, hy, pR, hpl, hpb, he, by omega, by decide, by decide +kernel, by decide, by decide +kernel, by decide, fun v H3 g3 p => q1 v H3 (Gx.of_pure g2.t1 g3) p⟩) fun v4 H2 g2 hv => ?_
    have bV : IsB Ms (3 * (2 ^ 110 * 30 ^ 18)) (ev (mv ps) R) := (val_isB (e := 2) ps hpb (by rw [hpl]; exact he) R fun s hs => ⟨pR.cf s hs, (pR.mon s hs).2⟩).mono (Nat.mul_le_mul_right _ pR.len)
    have pS : Po n Ms (3 * (2 ^ 110 * 30 ^ 18)) 1 2 [(List.replicate n 0, -ev (mv ps) R)] := ⟨Nat.le_refl _, fun t ht => by rw [List.mem_singleton.mp ht]; exact bV.neg, fun t ht => by
      rw [List.mem_singleton.mp ht]
      refine ⟨List.length_replicate, fun k hk => ?_⟩
      have := (List.mem_replicate.mp hk).2
      omega⟩
    have pR2 : Po n Ms (3 * (2 ^ 110 * 30 ^ 18)) 3 2 R := (pR.up (10 ^ 18)).mono (by decide) (Nat.le_refl _) (Int.le_refl _)
    refine s_ret (t := some q) g2.t1 (ev_call2 (P1 := TupF (IsTm K) R) (P2 := IsPl K [(List.replicate n 0, -ev (mv ps) R)]) (P := fun v H' => ∃ A, (Cn lt A ∧ Po n Ms CA 4 2 A ∧ ev (mv ps) A = 0) ∧ IsPl K A v H') (ev_var rfl (CZ.up g2 hR))
      (ev_tupA (ea_1 (ev_tm (s := (List.replicate n 0, -ev (mv ps) R)) (ev_zeros (ev_var rfl ⟨_, rfl, rfl⟩) (by omega)) (ev_rat (q := -ev (mv ps) R) ((ev_rI0E (i := 0) (f := fun i j => i - j) ev_int (ev_num (ev_var rfl hv))).imp fun v _ _ ⟨i, e1, e2⟩ => ⟨i, e1, ?_⟩) ((ev_den (ev_var rfl hv)).imp fun v _ _ ⟨i, e1, e2⟩ => ⟨i, e1, ?_⟩)))) (fun vs _ ⟨v, e, _⟩ => by rw [e]; exact (by decide : 1 ≤ 1000)) fun vs H1 H2 p _ ⟨v, e, hv⟩ g2 h => ⟨p, [v], rfl, SqT.of (by rw [h, e]), .cons (CZ.up g2 hv) .nil⟩)
      fun x y H3 g3 hx hy Q1 q1 => ⟨x, y, R, _, n, Ms, 3 * (2 ^ 110 * 30 ^ 18), 3, 1, 2, rfl, hx, hy, cR, pR2, pS, by omega, by decide, by decide, by decide +kernel, by decide +kernel, fun v H4 g4 ⟨Z, gz, hz⟩ => q1 v H4 (Gx.of_pure g3.t1 g4) ⟨Z, ⟨gz.cn, gz.po.mono (by decide +kernel) (Nat.le_refl _) (Int.le_refl _), ?_⟩, hz.of⟩⟩) fun v H3 g3 p => k v H3 ((g1.trans g2).trans g3) p
    · rw [e2, Rat.neg_num]
      omega
    · rw [e2, Rat.neg_den]
    · rw [gz.ev, ev_cons, ev_nil, mv_zeros]
      grind
end
end CZ
/-! _law_right. -/
namespace CZ
open PySem PySem.Spec PyProof.Rows L2
/-! ### levels -/
def CB : Nat := 2 ^ 424
def CV : Nat := 2 ^ 1000
def S1 : Nat := SB CA 4 CA 4
/-- the set: each is nought at the point -/
structure RA (n : Nat) (ps : List Rat) (As : List Pl) : Prop where
  n1 : 1 ≤ n
  n3 : n ≤ 3
  pl : ps.length = n
  pb : ∀ p ∈ ps, IsB 10 30 p
  a1 : 1 ≤ As.length
  a4 : As.length ≤ 4
  ok : ∀ A ∈ As, Cn lt A ∧ Po n Ms CA 4 2 A ∧ ev (mv ps) A = 0
/-- a thing that may be let -/
structure Th (n m : Nat) (Ts : List Pl) : Prop where
  len : Ts.length = m
  ok : ∀ T ∈ Ts, Cn lt T ∧ Po n (Ms * Ms) CB 16 4 T
/-- a polynomial that may be asked for -/
structure Vo (n : Nat) (R : Pl) : Prop where
  cn : Cn lt R
  po : Po n (Ms * Ms * Ms) CV 300 6 R
theorem lp_AA {n : Nat} (h1 : 1 ≤ n) (h3 : n ≤ 3) : Lp n Ms CA 4 Ms CA 4 := ⟨by omega, by omega, by decide +kernel, by decide +kernel, by decide +kernel, by decide +kernel, by decide +kernel, by decide +kernel, by decide, by decide, by decide, by decide +kernel, by decide +kernel⟩
theorem ls_AA {n : Nat} (h1 : 1 ≤ n) (h3 : n ≤ 3) : Ls n Ms CA 4 Ms CA 4 := ⟨lp_AA h1 h3, by decide, by decide, by decide +kernel⟩
theorem lp_BA {n : Nat} (h1 : 1 ≤ n) (h3 : n ≤ 3) : Lp n (Ms * Ms) CB 16 Ms CA 4 := ⟨by omega, by omega, by decide +kernel, by decide +kernel, by decide +kernel, by decide +kernel, by decide +kernel, by decide +kernel, by decide, by decide, by decide, by decide +kernel, by decide +kernel⟩
theorem ls_BA {n : Nat} (h1 : 1 ≤ n) (h3 : n ≤ 3) : Ls n (Ms * Ms) CB 16 Ms CA 4 := ⟨lp_BA h1 h3, by decide, by decide, by decide +kernel⟩
theorem lp_AS {n : Nat} (h1 : 1 ≤ n) (h3 : n ≤ 3) : Lp n Ms CA 4 (Ms * Ms) S1 64 := ⟨by omega, by omega, by decide +kernel, by decide +kernel, by decide +kernel, by decide +kernel, by decide +kernel, by decide +kernel, by decide, by decide, by decide, by decide +kernel, by decide +kernel⟩
theorem po_A {n : Nat} {R : Pl} {N e : Nat} (h : Po n LL (2 ^ 110) N e R) (hN : N ≤ 4) (he : e ≤ 2) : Po n Ms CA 4 2 R := (h.up (10 ^ 18)).mono (by decide +kernel) hN (by omega)
theorem po_AB {n : Nat} {R : Pl} (h : Po n Ms CA 4 2 R) : Po n (Ms * Ms) CB 16 4 R := (h.up Ms).mono (by decide +kernel) (by decide) (by decide)
theorem po_8B {n : Nat} {R : Pl} (h : Po n Ms ((4 + 4) * CA) (4 + 4) 2 R) : Po n (Ms * Ms) CB 16 4 R := (h.up Ms).mono (by decide +kernel) (by decide) (by decide)
theorem po_MB {n : Nat} {R : Pl} (h : Po n (Ms * Ms) (4 * 4 * (CA * CA)) (4 * 4) (2 + 2) R) : Po n (Ms * Ms) CB 16 4 R := h.mono (by decide +kernel) (by decide) (by decide)
theorem po_S {n : Nat} {R : Pl} (h : Po n Ms CA 4 2 R) : Po n (Ms * Ms) S1 64 4 R := (h.up Ms).mono (by decide +kernel) (by decide) (by decide)
theorem vo_A {n : Nat} {R : Pl} (c : Cn lt R) (h : Po n Ms CA 4 2 R) : Vo n R := ⟨c, ((h.up Ms).up Ms).mono (by decide +kernel) (by decide) (by decide)⟩
theorem vo_S {n N : Nat} {R : Pl} {C : Nat} (c : Cn lt R) (h : Po n (Ms * Ms) C N 4 R) (hN : N ≤ 300) (hC : C ≤ (64 + 64) * S1) : Vo n R := ⟨c, (h.up Ms).mono (Nat.le_trans (Nat.mul_le_mul_right Ms hC) (by decide +kernel)) hN (by decide)⟩
theorem vo_P {n : Nat} {R : Pl} (c : Cn lt R) (h : Po n (Ms * (Ms * Ms)) (4 * 64 * (CA * S1)) (4 * 64) (2 + 4) R) : Vo n R := ⟨c, by rw [Nat.mul_assoc]; exact h.mono (by decide +kernel) (by decide) (by decide)⟩
theorem cn_one (n : Nat) : Cn lt (oneP n) := ⟨List.pairwise_singleton _ _, fun t ht => by
  rw [List.mem_singleton.mp ht]
  exact (by decide +kernel : (1 : Rat) ≠ 0)⟩
theorem po_one (n : Nat) : Po n Ms CA 4 2 (oneP n) := by
  refine ⟨(by decide : 1 ≤ 4), fun t ht => ?_, fun t ht => ?_⟩
  · rw [List.mem_singleton.mp ht]
    exact (IsB.ofInt (M := Ms) 1).mono (by decide +kernel)
  · rw [List.mem_singleton.mp ht]
    refine ⟨List.length_replicate, fun k hk => ?_⟩
    have := (List.mem_replicate.mp hk).2
    omega
theorem let_zero {n : Nat} {ps : List Rat} {As Ts : List Pl} {R : Pl} (h : RA n ps As) (ht : Th n As.length Ts) (e : ∀ f, ev f R = sev f Ts As) : ev (mv ps) R = 0 := by
  rw [e]
  exact sev_mv h.pl Ts As (fun T hT => (ht.ok T hT).2) fun A hA => (h.ok A hA).2
section
variable {t : TT'} {K : PySem.W.Frag} {σ : L2.St} {H H' : Hp} {ta tb tc td te tl : TE} {D : Ends}
theorem mem_each {α : Type} {as : List α} {C : α → Prop} (h : ∀ (i : Nat) (a : α), as[i]? = some a → C a) : ∀ a ∈ as, C a := fun a ha => by
  obtain ⟨i, hi, e⟩ := List.mem_iff_getElem.mp ha
  exact h i a (by rw [List.getElem?_eq_getElem hi, e])
theorem ev_isLet {n : Nat} {As Ts : List Pl} {R : Pl} {ps : List Rat} (A : RA n ps As) (T : Th n As.length Ts) (cR : Cn lt R) (h1 : EvP t ta σ H (IsIn (· = (n : Int)))) (h2 : EvP t tb σ H (IsPls K As)) (h3 : EvP t tc σ H (IsPl K R)) (h4 : EvP t td σ H (IsPls K Ts)) :
    EvP t (tCall (spIsLet K) [] E0 (tCons ta (tCons tb (tCons tc (tCons td tNil))))) σ H (fun v _ => ∃ b : Bool, v = .bl b ∧ (b = true ↔ ∀ f, ev f R = sev f Ts As)) :=
  ev_call4 h1 h2 h3 h4 fun x y z z2 H1 g1 ⟨_, e1, e2⟩ hy hz hz2 Q1 q1 => ⟨As, Ts, R, ⟨n, y, z, z2, Ms * Ms, CB, 16, Ms, CA, 4, 4, 2, by rw [e1, e2], hy, hz, hz2, T.len, A.a4, T.ok, fun X hX => (A.ok X hX).2.1, ls_BA A.n1 A.n3, cR⟩, fun v H2 g2 p => q1 v H2 (Gx.of_pure g1.t1 g2) p⟩
theorem ev_val {n : Nat} {R : Pl} {ps : List Rat} (V : Vo n R) (h1 : 1 ≤ n) (h3 : n ≤ 3) (hpl : ps.length = n) (hpb : ∀ p ∈ ps, IsB 10 30 p) (ha : EvP t ta σ H (IsPl K R)) (hb : EvP t tb σ H (IsPt K ps)) : EvP t (tCall (spVal K) [] E0 (tCons ta (tCons tb tNil))) σ H (IsRat K (ev (mv ps) R)) :=
  ev_call2 ha hb fun x y H2 g2 hx hy Q1 q1 => ⟨x, y, R, ps, n, Ms * Ms * Ms, CV, 300, 6, rfl, hx, hy, V.po, hpl, hpb, by omega, by omega, by decide +kernel, by decide +kernel, by decide, by decide +kernel, by decide, fun v H3 g3 p => q1 v H3 (Gx.of_pure g2.t1 g3) p⟩
theorem ev_rev {Ts : List Pl} (h : EvP t te σ H (IsPls K Ts)) : EvP t (tRevT K te) σ H (IsPls K Ts.reverse) := fun H1 g Q q =>
  h H1 g _ fun v H2 g2 ⟨a, xs, e, ha, hp⟩ => ⟨a, xs, e, ha, fun p hp0 => by
    have g3 : Gx t H2 (upd H2 p (.tup xs.reverse)) := Gx.new g2.t1 hp0
    exact q _ _ (g2.trans g3) ⟨p, _, rfl, SqT.of upd_same, paired_mono g3.tx (paired_reverse hp)⟩⟩
/-- ((),) * len(some) -/
theorem ev_repE {m : Nat} (h2 : EvP t tb σ H (IsIn (· = (m : Int)))) (hm : 1 ≤ m ∧ m ≤ 1000) : EvP t (tOp (fun x y H Q => rRepT K x y H Q ∨ rRep1 K x y H Q) (tTup (tCons (tTup tNil) tNil)) tb) σ H (IsPls K (List.replicate m [])) := fun H1 g Q q =>
  (ev_tupA (P := fun v H => ∃ a x, v = .ref a ∧ H a = some (.tup [x]) ∧ IsPl K [] x H) (ea_1 (P := IsPl K []) ev_empty) (fun vs _ ⟨v, e, _⟩ => by rw [e]; exact (by decide : 1 ≤ 1000)) fun vs H1 H2 p _ ⟨v, e, hv⟩ g2 h => ⟨p, v, rfl, by rw [h, e], CZ.up g2 hv⟩) H1 g _ fun v H2 g2 ⟨a, x, ev, ha, hx⟩ => h2 H2 (g.trans g2) _ fun u H3 g3 ⟨_, e1, e2⟩ => by
    subst ev; subst e1; subst e2
    have ha3 := g3.tup ha
    have hx3 : IsPl K [] x H3 := CZ.up g3 hx
    by_cases h1 : m = 1
    · subst h1
      exact .inr ⟨a, _, rfl, rfl, SqT.of ha3, q _ H3 (g2.trans g3) ⟨a, [x], rfl, SqT.of ha3, .cons hx3 .nil⟩⟩
    · refine .inl ⟨a, (m : Int), _, rfl, rfl, SqT.of ha3, (fun z => nomatch z), by omega, by omega, (by decide : 1 ≤ 1000), fun p hp => ?_⟩
      have g4 : Gx t H3 (upd H3 p (.tup (List.replicate (m : Int).toNat [x]).flatten)) := Gx.new g3.t1 hp
      refine q _ _ ((g2.trans g3).trans g4) ⟨p, _, rfl, SqT.of upd_same, ?_⟩
      have hx4 := CZ.up g4 hx3
      rw [Int.toNat_natCast, List.flatten_replicate_singleton] at hx4 ⊢
      exact paired_rep (F := fun a y => IsPl K a y _) hx4 m
/-- tuple(a tuple) -/
theorem ev_tupT {Ts : List Pl} (h : EvP t te σ H (IsPls K Ts)) : EvP t (tCB (fun xs H Q => ∃ p ys, xs = [.ref p] ∧ ((SqL K H p ys ∧ ∀ l, H l = none → Q (.ref l) (upd H l (.tup ys))) ∨ (SqT K H p ys ∧ Q (.ref p) H))) (tCons te tNil)) σ H (IsPls K Ts) := fun H1 g Q q =>
  h H1 g _ fun v H2 g2 ⟨a, xs, e, ha, hp⟩ => ⟨a, xs, by rw [e], .inr ⟨ha, q _ H2 g2 ⟨a, xs, rfl, ha, hp⟩⟩⟩
/-- over a new list of pairs -/
theorem turns_listPr {PP : V → V → Hp → Prop} {n j k : Nat} (mo : ∀ u v H1 H2, Tx H1 H2 → PP u v H1 → PP u v H2) (h : EvL t tl σ H (fun xs H => xs.length = n ∧ ∀ x ∈ xs, ∃ p u v, x = V.ref p ∧ SqT K H p [u, v] ∧ PP u v H)) :
    Turns t (Gx t) (iList K tl) (gTup K 2 (gCons (gName j) (gCons (gName k) gNil))) σ H n (fun σ1 i σ2 H2 => ∃ u v, PP u v H2 ∧ σ2 = (σ1.set j (some u)).set k (some v)) := fun H1 g Qt q =>
  h H1 g _ fun p xs H2 hp g2 e ⟨hl, px⟩ => by
    subst hl
    have nt2 : ∀ q, t = some q → p ≠ q.tp := g2.notTape hp
    exact ⟨p, rfl, ⟨xs, SqL.of e⟩, q _ _ _ H2 g2 (walk_list (K := K) (a := p) (xs := xs)) (fun H3 g3 => SqL.of (g3.lst e nt2)) fun i x H3 H4 hi g3 y => by
      obtain ⟨rfl, hxi⟩ := y
      obtain ⟨c, u, v, rfl, hc, hpp⟩ := px x (List.mem_of_getElem? hxi)
      exact ⟨g3.here, fun σ1 Qg qg => ⟨c, [u, v], rfl, g3.sqT hc, rfl, u, [v], rfl, v, [], rfl, rfl, qg _ _ g3.here ⟨u, v, mo _ _ _ _ g3.tx hpp, rfl⟩⟩⟩⟩
theorem el_lst {tA : TA} {PA : List V → Hp → Prop} (h : EvA t tA σ H PA) (hz : ∀ vs H1, PA vs H1 → vs.length ≤ 1000) (mo : ∀ vs H1 H2, Tx H1 H2 → PA vs H1 → PA vs H2) : EvL t (tLst tA) σ H PA := fun H1 g Q q =>
  h H1 g _ fun vs H2 g2 p => ⟨Nat.le_of_lt (small1000 (hz vs H2 p)), fun a ha => by
    have g3 : Gx t H2 (upd H2 a (.lst vs)) := Gx.new g2.t1 ha
    exact q a vs _ (g2.fresh ha) (g2.trans g3) upd_same (mo _ _ _ g3.tx p)⟩
/-- over a new tuple of things that are so -/
theorem turns_tupN {tA : TA} {PP : V → Hp → Prop} [Mo PP] {n j : Nat} (hn : n ≤ 1000) (h : EvA t tA σ H (fun xs H => xs.length = n ∧ ∀ x ∈ xs, PP x H)) :
    Turns t (Gx t) (iTup K (tTup tA)) (gName j) σ H n (fun σ1 i σ2 H2 => ∃ u, PP u H2 ∧ σ2 = σ1.set j (some u)) := fun H1 g Qt q =>
  h H1 g _ fun xs H2 g2 ⟨hl, px⟩ => ⟨Nat.le_of_lt (small1000 (by omega)), fun p hp => by
    subst hl
    have g3 : Gx t H2 (upd H2 p (.tup xs)) := Gx.new g2.t1 hp
    exact ⟨p, rfl, ⟨xs, SqT.of upd_same⟩, q _ _ _ _ (g2.trans g3) (walk_tup (K := K) (a := p) (xs := xs)) (fun H4 g4 => g4.sqT (SqT.of upd_same)) fun i x H4 H5 hi g4 y => by
      obtain ⟨rfl, hxi⟩ := y
      exact ⟨g4.here, fun σ1 Qg qg => qg _ _ g4.here ⟨x, CZ.up (g3.trans g4) (px x (List.mem_of_getElem? hxi)), rfl⟩⟩⟩⟩
theorem q_par {i j : Nat} {tA : TA} {tv : TS} {PA : List V → Hp → Prop} (hT : TapeOk t H) (h : EvA t tA σ H PA) (k : ∀ vs H1, Gx t H H1 → PA vs H1 → ∃ v w, vs = [v, w] ∧ tv D ((σ.set i (some v)).set j (some w)) H1) : tSeq (tPar i j tA) tv D σ H := h H (Gx.refl hT) _ fun vs H1 g p => k vs H1 g p
theorem s_skip {tt : TT} {tu : TS} (hT : TapeOk t H) (h : EvB t tt σ H (· = false)) (h2 : ∀ H1, Gx t H H1 → D.nx σ H1) : tIfS tt tu tNext D σ H := s_if hT h (fun e => nomatch e) fun _ => h2
def IsPr (K : PySem.W.Frag) (n : Nat) (As : List Pl) : V → Hp → Prop := fun v H => ∃ p u w R Ts, v = V.ref p ∧ SqT K H p [u, w] ∧ (Vo n R ∧ Th n As.length Ts ∧ ∀ f, ev f R = sev f Ts As) ∧ IsPl K R u H ∧ IsPls K Ts w H
instance {n : Nat} {As : List Pl} : Mo (IsPr K n As) := ⟨fun g ⟨p, u, w, R, Ts, e, h, c, h1, h2⟩ => ⟨p, u, w, R, Ts, e, g.sqT h, c, upx g h1, upx g h2⟩⟩
theorem ev_pair {n : Nat} {As Ts : List Pl} (hT : Th n As.length Ts) (h1 : EvP t ta σ H (fun v H => ∃ R, (Vo n R ∧ ∀ f, ev f R = sev f Ts As) ∧ IsPl K R v H)) (h2 : EvP t tb σ H (IsPls K Ts)) : EvP t (tTup (tCons ta (tCons tb tNil))) σ H (IsPr K n As) :=
  ev_tup2 h1 h2 fun x y H1 p g ⟨R, c, hx⟩ hy h => ⟨p, x, y, R, Ts, rfl, SqT.of h, ⟨c.1, hT, c.2⟩, hx, hy⟩
end
section
variable {P : Program} {w : World} {K : PySem.W.Frag} {mg : Str → Option Value} {base : Heap}
abbrev NR : List Str := ["_law_tape_here", "_law_n", "_law_some", "_law_point_here", "_law_first", "_law_second", "_law_factor", "_law_one", "_law_other", "_law_both", "_law_more", "_law_poly_here", "_law_thing", "_law_strange", "_law_here", "_law_there"]
theorem sc47 : FnScope NR ["_law_tape_here", "_law_n", "_law_some", "_law_point_here"] (defScope (topS 47)) := ⟨rfl, rfl, rfl, by decide +kernel, rfl, by decide +kernel, by decide +kernel⟩
def spRight (K : PySem.W.Frag) : Sp := fun vs H Q _ => ∃ (q : TP) (n : Nat) (sv pv' : V) (ps : List Rat) (As : List Pl), vs = [.ref q.tp, .int n, sv, pv'] ∧ TapeOk (some q) H ∧ RA n ps As ∧ IsPls K As sv H ∧ IsPt K ps pv' H ∧ After (some q) H Q (Is (.bl true))
theorem ok_law_right (bl : Blt mg) (d : DefAt K mg "_law_right" ["_law_tape_here", "_law_n", "_law_some", "_law_point_here"] (topS 47)) (cP : Cal P w K mg base CX0 8 "_law_poly" ["_law_tape_here", "_law_n", "_law_many", "_law_most"] (spPoly K))
    (cS : Cal P w K mg base CX0 8 "_law_sum_of" ["_law_multiples", "_law_some"] (spSum K)) (cA : Cal P w K mg base CX0 8 "added" ["one", "other"] (spAdd K)) (cM : Cal P w K mg base CX0 8 "product" ["one", "other"] (spProd K))
    (cL : Cal P w K mg base CX0 8 "_law_is_let" ["_law_n", "_law_some", "_law_poly_here", "_law_thing"] (spIsLet K)) (cV : Cal P w K mg base CX0 8 "_law_value" ["_law_poly_here", "_law_point_here"] (spVal K)) (cO : Cal P w K mg base CX0 8 "one_of" ["n"] (spOne K)) :
    Cal P w K mg base CX0 9 "_law_right" ["_law_tape_here", "_law_n", "_law_some", "_law_point_here"] (spRight K) := by
  obtain ⟨f, fd, F, m, b⟩ := d
  refine ⟨f, fd, F.ok sc47 (fun vs H Q E h => ?_) (fun cdv A outer s H vs Q E hr h => ?_), m, F.kp, b⟩
  · obtain ⟨_, _, _, _, _, _, rfl, _⟩ := h; rfl
  · obtain ⟨q, n, sv, pv', ps, As, rfl, hT, A, hAs, hps, k⟩ := h
    refine ⟨_, pss_cons (ps_set (i := 4) sc47.nd rfl (Or.inl rfl) (pe_callTy (r := rTupF K) call_tupF (by rfl) bl.tuple boot_tuple (pa_cons (pe_lc (own := [("_law_one", 7)]) (g := gName 7) rfl sc47.nd (pi_tup (pv 2)) (blkOk_by (N := NR) (sc := defScope (topS 47)) (by decide +kernel)) (fun _ _ _ _ _ => pg_name (i := 7) sc47.nd rfl (Or.inl rfl)) (fun _ _ _ _ _ => pts_nil)
          (fun _ _ _ _ _ => pe_cal cP hr (pa_cons (pv 0) (pa_cons (pv 1) (pa_cons pe_int (pa_cons pe_int pa_nil)))))) pa_nil)))
      (pss_cons (ps_set (i := 5) sc47.nd rfl (Or.inl rfl) (pe_callTy (r := rTupF K) call_tupF (by rfl) bl.tuple boot_tuple (pa_cons (pe_lc (own := [("_law_one", 7)]) (g := gName 7) rfl sc47.nd (pi_tup (pv 2)) (blkOk_by (N := NR) (sc := defScope (topS 47)) (by decide +kernel)) (fun _ _ _ _ _ => pg_name (i := 7) sc47.nd rfl (Or.inl rfl)) (fun _ _ _ _ _ => pts_nil)
          (fun _ _ _ _ _ => pe_cal cP hr (pa_cons (pv 0) (pa_cons (pv 1) (pa_cons pe_int (pa_cons pe_int pa_nil)))))) pa_nil)))
      (pss_cons (ps_set (i := 6) sc47.nd rfl (Or.inr rfl) (pe_cal cP hr (pa_cons (pv 0) (pa_cons (pv 1) (pa_cons pe_int (pa_cons pe_int pa_nil))))))
      (pss_cons (ps_par (i := 7) (j := 8) rfl sc47.nd rfl rfl (by decide) rfl rfl (pa_cons (pe_cal cS hr (pa_cons (pv 4) (pa_cons (pv 2) pa_nil))) (pa_cons (pe_cal cS hr (pa_cons (pv 5) (pa_cons (pv 2) pa_nil))) pa_nil)) rfl)
      (pss_cons (ps_set (i := 9) sc47.nd rfl (Or.inl rfl) (pe_callTy (r := rTupF K) call_tupF (by rfl) bl.tuple boot_tuple (pa_cons (pe_lc (own := [("_law_here", 14), ("_law_there", 15)]) (g := gTup K 2 (gCons (gName 14) (gCons (gName 15) gNil))) rfl sc47.nd (RZ.pi_zipA rfl bl.zip (pa_cons (pv 4) (pa_cons (pv 5) pa_nil))) (blkOk_by (N := NR) (sc := defScope (topS 47)) (by decide +kernel))
          (fun _ _ _ _ _ => pg_tup rfl (pgs_cons (pg_name (i := 14) sc47.nd rfl (Or.inl rfl)) (pgs_cons (pg_name (i := 15) sc47.nd rfl (Or.inl rfl)) pgs_nil))) (fun _ _ _ _ _ => pts_nil)
          (fun _ _ _ _ _ => pe_cal cA hr (pa_cons (pv 14) (pa_cons (pv 15) pa_nil)))) pa_nil)))
      (pss_cons (ps_set (i := 10) sc47.nd rfl (Or.inl rfl) (pe_callTy (r := rTupF K) call_tupF (by rfl) bl.tuple boot_tuple (pa_cons (pe_lc (own := [("_law_here", 14)]) (g := gName 14) rfl sc47.nd (pi_tup (pv 4)) (blkOk_by (N := NR) (sc := defScope (topS 47)) (by decide +kernel)) (fun _ _ _ _ _ => pg_name (i := 14) sc47.nd rfl (Or.inl rfl)) (fun _ _ _ _ _ => pts_nil)
          (fun _ _ _ _ _ => pe_cal cM hr (pa_cons (pv 6) (pa_cons (pv 14) pa_nil)))) pa_nil)))
      (pss_cons (ps_for PassesOwn.never rfl (pi_list (pe_lst (pa_cons (pe_tup (pa_cons (pv 7) (pa_cons (pv 4) pa_nil))) (pa_cons (pe_tup (pa_cons (pv 8) (pa_cons (pv 5) pa_nil))) (pa_cons (pe_tup (pa_cons (pe_cal cA hr (pa_cons (pv 7) (pa_cons (pv 8) pa_nil))) (pa_cons (pv 9) pa_nil))) (pa_cons (pe_tup (pa_cons (pe_cal cM hr (pa_cons (pv 6) (pa_cons (pv 7) pa_nil))) (pa_cons (pv 10) pa_nil))) pa_nil))))))
          (pg_tup rfl (pgs_cons (pg_name (i := 11) sc47.nd rfl (Or.inl rfl)) (pgs_cons (pg_name (i := 12) sc47.nd rfl (Or.inl rfl)) pgs_nil)))
          (pss_one (ps_if (PW.pt (pw_or (pt_not (pt_val (pe_cal cL hr (pa_cons (pv 1) (pa_cons (pv 2) (pa_cons (pv 11) (pa_cons (pv 12) pa_nil))))))) (pw_or1 (pt_cmpR (op_neX hr.units) (pe_cal cV hr (pa_cons (pv 11) (pa_cons (pv 3) pa_nil))) (pe_tup (pa_cons pe_int (pa_cons pe_int pa_nil))) (nomark _))))) pss_dead pss_nil)))
      (pss_cons (ps_set (i := 13) sc47.nd rfl (Or.inl rfl) (pe_cal cP hr (pa_cons (pv 0) (pa_cons (pv 1) (pa_cons pe_int (pa_cons pe_int pa_nil))))))
      (pss_cons (ps_for PassesOwn.never rfl (pi_tup (pe_tup (pa_cons (pv 13) (pa_cons (pe_cal cA hr (pa_cons (pv 7) (pa_cons (pv 13) pa_nil))) (pa_cons (pe_cal cO hr (pa_cons (pv 1) pa_nil)) pa_nil))))) (pg_name (i := 11) sc47.nd rfl (Or.inl rfl))
          (pss_one (ps_for PassesOwn.never rfl (pi_tup (pe_tup (pa_cons (pv 4) (pa_cons (pv 5) (pa_cons (pv 9) (pa_cons (pe_revT (pv 4)) (pa_cons (pe_op (OpR.or op_repT op_rep1) (pe_tup (pa_cons (pe_tup pa_nil) pa_nil)) (pe_callB call_len_seq (by rfl) bl.len PySem.boot_len (pa_cons (pv 2) pa_nil))) (pa_cons (pe_callTy call_tuple_of (by rfl) bl.tuple boot_tuple (pa_cons (pv 2) pa_nil)) (pa_cons (pv 10) pa_nil))))))))) (pg_name (i := 12) sc47.nd rfl (Or.inl rfl))
            (pss_one (ps_if (PW.pt (pw_and (pt_val (pe_cal cL hr (pa_cons (pv 1) (pa_cons (pv 2) (pa_cons (pv 11) (pa_cons (pv 12) pa_nil)))))) (pw_and1 (pt_cmpR (op_neX hr.units) (pe_cal cV hr (pa_cons (pv 11) (pa_cons (pv 3) pa_nil))) (pe_tup (pa_cons pe_int (pa_cons pe_int pa_nil))) (nomark _))))) pss_dead pss_nil)))))
      (pss_one (ps_ret pe_bl)))))))))), ?_⟩
    obtain ⟨as, xsS, rfl, haS, hRS⟩ := id hAs
    have lS : xsS.length = As.length := (paired_len hRS).symm
    have a1 := A.a1
    have a4 := A.a4
    have n1 := A.n1
    have n3 := A.n3
    have tpl : ∀ {σ : L2.St} {H1 : Hp} (many most : Nat), σ[0]? = some (some (.ref q.tp)) → σ[1]? = some (some (.int n)) → many ≤ 4 → most ≤ 2 → EvP (some q) (tCall (spPoly K) [] E0 (tCons (tVar 0) (tCons (tVar 1) (tCons (tC (.int many)) (tCons (tC (.int most)) tNil))))) σ H1 (fun v H' => ∃ R, (Cn lt R ∧ Po n Ms CA 4 2 R) ∧ IsPl K R v H') := fun many most h0 h1 hm hmo =>
      ev_call4 (P1 := Is (.ref q.tp)) (P2 := IsIn (· = (n : Int))) (P3 := IsIn (· = (many : Int))) (P4 := IsIn (· = (most : Int))) (ev_vis h0) (ev_var h1 ⟨_, rfl, rfl⟩) ev_int ev_int fun x y z z2 H1 g1 e1 ⟨_, e2, e3⟩ ⟨_, e4, e5⟩ ⟨_, e6, e7⟩ Q1 q1 =>
        ⟨q, n, many, most, by rw [e1, e2, e3, e4, e5, e6, e7], g1.t1, A.n1, by omega, by omega, by omega, fun v H2 g2 ⟨R, c, p, hv⟩ => q1 v H2 g2 ⟨R, ⟨c, po_A p hm hmo⟩, hv.of⟩⟩
    have polys : ∀ (a4 a5 : Option V) {H1 : Hp} (many most : Nat), Gx (some q) H H1 → many ≤ 4 → most ≤ 2 → EvP (some q) (tCB (rTupF K) (tCons (tLc (iTup K (tVar 2)) (gName 7) tYes (tCall (spPoly K) [] E0 (tCons (tVar 0) (tCons (tVar 1) (tCons (tC (.int many)) (tCons (tC (.int most)) tNil))))) [7]) tNil))
        [some (.ref q.tp), some (.int n), some (.ref as), some pv', a4, a5, none, none, none, none, none, none, none, none, none, none] H1 (fun v H' => ∃ Fs, (Fs.length = As.length ∧ ∀ T ∈ Fs, Cn lt T ∧ Po n Ms CA 4 2 T) ∧ IsPls K Fs v H') := fun a4 a5 H1 many most g1 hm hmo =>
      (ev_tupF (R := IsPl K) (A := fun Fs => Fs.length = As.length ∧ ∀ T ∈ Fs, Cn lt T ∧ Po n Ms CA 4 2 T) fun H2 g2 Q1 q1 => ev_lc (α := Pl) (R := IsPl K) (C := fun _ R => Cn lt R ∧ Po n Ms CA 4 2 R) (fun _ _ g => g.txT) (turns_tup (ev_vis rfl) (g1.sqT haS)) (by omega) (fun i σ2 H2 ⟨x, _, e⟩ => by subst e; rfl)
        (fun i σ2 H3 hi g3 ⟨x, ex, e⟩ => by subst e; exact tpl many most rfl rfl hm hmo) H2 g2 Q1 fun p xs H3 hp g3 e ⟨as, hl, hC, hR⟩ => q1 p xs H3 hp g3 e ⟨as, ⟨by rw [hl, lS], mem_each hC⟩, hR⟩).imp fun v H2 _ ⟨Fs, h1, h2⟩ => ⟨Fs, h1, h2.of⟩
    refine q_asg (t := some q) hT (polys none none 3 1 (Gx.refl hT) (by decide) (by decide)) fun v4 H1 g1 ⟨Fs, hF, hFv⟩ => ?_
    refine q_asg (t := some q) g1.t1 (polys (some v4) none 2 2 g1 (by decide) (by decide)) fun v5 H2 g2 ⟨Gs, hG, hGv⟩ => ?_
    have g02 := g1.trans g2
    refine q_asg (t := some q) g2.t1 (tpl 2 2 rfl rfl (by decide) (by decide)) fun v6 H3 g3 ⟨X, hX, hXv⟩ => ?_
    have g03 := g02.trans g3
    have hFv3 := CZ.up (g2.trans g3) hFv
    have hGv3 := CZ.up g3 hGv
    have hAs3 := CZ.up g03 hAs
    have evS : ∀ {tT tS : TE} {σ : L2.St} {H1 : Hp} (Ts : List Pl), Ts.length = As.length ∧ (∀ T ∈ Ts, Cn lt T ∧ Po n Ms CA 4 2 T) → EvP (some q) tT σ H1 (IsPls K Ts) → EvP (some q) tS σ H1 (IsPls K As) → EvP (some q) (tCall (spSum K) [] E0 (tCons tT (tCons tS tNil))) σ H1 (fun v H' => ∃ Z, GR n (Ms * Ms) S1 64 4 (fun f => sev f Ts As) Z ∧ IsPl K Z v H') := fun Ts hTs h1 h2 =>
      ev_call2 h1 h2 fun x y H4 g4 hx hy Q1 q1 => ⟨x, y, Ts, As, n, Ms, CA, 4, Ms, CA, 4, 2, 2, rfl, hx, hy, hTs.1, A.a4, fun T hT => (hTs.2 T hT).2, fun B hB => (A.ok B hB).2.1, ls_AA A.n1 A.n3, fun v H5 g5 p => q1 v H5 (Gx.of_pure g4.t1 g5) p⟩
    refine q_par (t := some q) g3.t1 (ea_2 (evS Fs hF (ev_var rfl hFv3) (ev_var rfl hAs3)) (evS Gs hG (ev_var rfl hGv3) (ev_var rfl hAs3))) fun vs H4 g4 ⟨v7, v8, evs, ⟨Z1, z1, hz1⟩, ⟨Z2, z2, hz2⟩⟩ => ⟨v7, v8, evs, ?_⟩
    have g04 := g03.trans g4
    have evAdd : ∀ {tT tS : TE} {σ : L2.St} {H1 : Hp} {C N1 N2 M : Nat} {e : Int} (R S : Pl), Po n M C N1 e R → Po n M C N2 e S → N1 + N2 ≤ 10000 → 0 < M → M < Big → (N1 + N2) * C < Big → EvP (some q) tT σ H1 (IsPl K R) → EvP (some q) tS σ H1 (IsPl K S) → EvP (some q) (tCall (spAdd K) [] E0 (tCons tT (tCons tS tNil))) σ H1 (fun v H' => ∃ Z, GR n M ((N1 + N2) * C) (N1 + N2) e (fun f => ev f R + ev f S) Z ∧ IsPl K Z v H') := @fun tT tS σ H1 C N1 N2 M e R S hR hS h1 h2 h3 h4 h5 h6 =>
      ev_call2 h5 h6 fun x y H4 g4 hx hy Q1 q1 => ⟨x, y, R, S, n, M, C, N1, N2, e, rfl, hx, hy, hR, hS, by omega, h1, h2, h3, h4, fun v H5 g5 ⟨Z, gz, hz⟩ => q1 v H5 (Gx.of_pure g4.t1 g5) ⟨Z, gz, hz.of⟩⟩
    -- both
    obtain ⟨af, xsF, rfl, haF, hRF⟩ := CZ.up g4 hFv3
    obtain ⟨ag, xsG, rfl, haG, hRG⟩ := CZ.up g4 hGv3
    have lF : xsF.length = Fs.length := (paired_len hRF).symm
    have lG : xsG.length = Gs.length := (paired_len hRG).symm
    have hF1 := hF.1
    have hG1 := hG.1
    refine q_asg (t := some q) (P := fun v H' => ∃ Bs : List Pl, (Bs.length = As.length ∧ ∀ (i : Nat) B, Bs[i]? = some B → ∃ F G, Fs[i]? = some F ∧ Gs[i]? = some G ∧ GR n Ms ((4 + 4) * CA) (4 + 4) 2 (fun f => ev f F + ev f G) B) ∧ IsPls K Bs v H') g4.t1
      ((ev_tupF (R := IsPl K) (A := fun Bs : List Pl => Bs.length = As.length ∧ ∀ (i : Nat) B, Bs[i]? = some B → ∃ F G, Fs[i]? = some F ∧ Gs[i]? = some G ∧ GR n Ms ((4 + 4) * CA) (4 + 4) 2 (fun f => ev f F + ev f G) B) fun H5 g5 Q1 q1 =>
        ev_lc (α := Pl) (R := IsPl K) (C := fun i B => ∃ F G, Fs[i]? = some F ∧ Gs[i]? = some G ∧ GR n Ms ((4 + 4) * CA) (4 + 4) 2 (fun f => ev f F + ev f G) B) (fun _ _ g => g.txT) (turns_zip (ea_is2 (ev_vis rfl) (ev_vis rfl)) haF haG (by omega)) (by omega) (fun i σ2 H2 ⟨x, y, _, _, e⟩ => by subst e; rfl)
          (fun i σ2 H6 hi g6 ⟨x, y, ex, ey, e⟩ => by
            subst e
            obtain ⟨F, eF, hF2⟩ := paired_at hRF ex
            obtain ⟨G, eG, hG2⟩ := paired_at hRG ey
            exact (evAdd (M := Ms) (C := CA) (N1 := 4) (N2 := 4) (e := 2) F G (hF.2 F (List.mem_of_getElem? eF)).2 (hG.2 G (List.mem_of_getElem? eG)).2 (by decide) (by decide +kernel) (by decide +kernel) (by decide +kernel) (ev_var rfl (CZ.up g6 hF2)) (ev_var rfl (CZ.up g6 hG2))).imp fun v _ _ ⟨Z, gz, hz⟩ => ⟨Z, ⟨F, G, eF, eG, gz⟩, hz⟩) H5 g5 Q1
          fun p xs H6 hp g6 e ⟨bs, hl, hC, hR⟩ => q1 p xs H6 hp g6 e ⟨bs, ⟨by omega, hC⟩, hR⟩).imp fun v H2 _ ⟨Fs, h1, h2⟩ => ⟨Fs, h1, h2.of⟩) fun v9 H5 g5 ⟨Bs, hB, hBv⟩ => ?_
    have g05 := g04.trans g5
    have evMul : ∀ {tT tS : TE} {σ : L2.St} {H1 : Hp} {M2 C2 N2 : Nat} {e2 : Int} (S : Pl), Po n M2 C2 N2 e2 S → Lp n Ms CA 4 M2 C2 N2 → EvP (some q) tT σ H1 (IsPl K X) → EvP (some q) tS σ H1 (IsPl K S) → EvP (some q) (tCall (spProd K) [] E0 (tCons tT (tCons tS tNil))) σ H1 (fun v H' => ∃ Z, GR n (Ms * M2) (4 * N2 * (CA * C2)) (4 * N2) (2 + e2) (fun f => ev2 f X S) Z ∧ IsPl K Z v H') := @fun tT tS σ H1 M2 C2 N2 e2 S hS L h5 h6 =>
      ev_call2 h5 h6 fun x y H4 g4 hx hy Q1 q1 => ⟨x, y, X, S, n, Ms, CA, 4, M2, C2, N2, 2, e2, rfl, hx, hy, hX.2, hS, L, fun v H5 g5 ⟨Z, gz, hz⟩ => q1 v H5 (Gx.of_pure g4.t1 g5) ⟨Z, gz, hz.of⟩⟩
    -- more
    have hXv5 := CZ.up (g4.trans g5) hXv
    refine q_asg (t := some q) (P := fun v H' => ∃ Ms' : List Pl, (Ms'.length = As.length ∧ ∀ (i : Nat) B, Ms'[i]? = some B → ∃ F, Fs[i]? = some F ∧ GR n (Ms * Ms) (4 * 4 * (CA * CA)) (4 * 4) (2 + 2) (fun f => ev2 f X F) B) ∧ IsPls K Ms' v H') g5.t1
      ((ev_tupF (R := IsPl K) (A := fun Ms' : List Pl => Ms'.length = As.length ∧ ∀ (i : Nat) B, Ms'[i]? = some B → ∃ F, Fs[i]? = some F ∧ GR n (Ms * Ms) (4 * 4 * (CA * CA)) (4 * 4) (2 + 2) (fun f => ev2 f X F) B) fun H6 g6 Q1 q1 =>
        ev_lc (α := Pl) (R := IsPl K) (C := fun i B => ∃ F, Fs[i]? = some F ∧ GR n (Ms * Ms) (4 * 4 * (CA * CA)) (4 * 4) (2 + 2) (fun f => ev2 f X F) B) (fun _ _ g => g.txT) (turns_tup (ev_vis rfl) (g5.sqT haF)) (by omega) (fun i σ2 H2 ⟨x, _, e⟩ => by subst e; rfl)
          (fun i σ2 H7 hi g7 ⟨x, ex, e⟩ => by
            subst e
            obtain ⟨F, eF, hF2⟩ := paired_at hRF ex
            exact (evMul (M2 := Ms) (C2 := CA) (N2 := 4) (e2 := 2) F (hF.2 F (List.mem_of_getElem? eF)).2 (lp_AA A.n1 A.n3) (ev_var rfl (CZ.up g7 hXv5)) (ev_var rfl (CZ.up (g5.trans g7) hF2))).imp fun v _ _ ⟨Z, gz, hz⟩ => ⟨Z, ⟨F, eF, gz⟩, hz⟩) H6 g6 Q1
          fun p xs H6 hp g6 e ⟨bs, hl, hC, hR⟩ => q1 p xs H6 hp g6 e ⟨bs, ⟨by omega, hC⟩, hR⟩).imp fun v H2 _ ⟨Fs, h1, h2⟩ => ⟨Fs, h1, h2.of⟩) fun v10 H6 g6 ⟨Mo', hM, hMv⟩ => ?_
    have g06 := g05.trans g6
    have g46 := g5.trans g6
    -- the things
    have thF : Th n As.length Fs := ⟨hF.1, fun T h => ⟨(hF.2 T h).1, po_AB (hF.2 T h).2⟩⟩
    have thG : Th n As.length Gs := ⟨hG.1, fun T h => ⟨(hG.2 T h).1, po_AB (hG.2 T h).2⟩⟩
    have thB : Th n As.length Bs := ⟨hB.1, mem_each fun i B e => by
      obtain ⟨F, G, _, _, gb⟩ := hB.2 i B e
      exact ⟨gb.cn, po_8B gb.po⟩⟩
    have thM : Th n As.length Mo' := ⟨hM.1, mem_each fun i B e => by
      obtain ⟨F, _, gb⟩ := hM.2 i B e
      exact ⟨gb.cn, po_MB gb.po⟩⟩
    have thA : Th n As.length As := ⟨rfl, fun T h => ⟨(A.ok T h).1, po_AB (A.ok T h).2.1⟩⟩
    have thR : Th n As.length Fs.reverse := ⟨by rw [List.length_reverse]; exact hF.1, fun T h => thF.ok T (List.mem_reverse.mp h)⟩
    have thE : Th n As.length (List.replicate As.length []) := ⟨List.length_replicate, fun T h => by
      rw [(List.mem_replicate.mp h).2]
      exact ⟨⟨List.Pairwise.nil, fun _ z => nomatch z⟩, Po.nil _ _ _ _ _⟩⟩
    have hFv6 : IsPls K Fs (.ref af) H6 := CZ.up g46 ⟨af, xsF, rfl, haF, hRF⟩
    have hGv6 : IsPls K Gs (.ref ag) H6 := CZ.up g46 ⟨ag, xsG, rfl, haG, hRG⟩
    have hBv6 := CZ.up g6 hBv
    have hz16 := CZ.up g46 hz1
    have hz26 := CZ.up g46 hz2
    have hXv6 := CZ.up g6 hXv5
    have hAs6 := CZ.up g06 hAs
    have hps6 := CZ.up g06 hps
    have lb : ∀ (i : Nat) (F G B : Pl), Fs[i]? = some F → Gs[i]? = some G → Bs[i]? = some B → ∀ g, ev g B = ev g F + ev g G := fun i F G B h1 h2 h3 g => by
      obtain ⟨F', G', e1, e2, gb⟩ := hB.2 i B h3
      rw [h1] at e1; rw [h2] at e2
      obtain rfl := Option.some.inj e1
      obtain rfl := Option.some.inj e2
      exact gb.ev g
    have lm : ∀ (i : Nat) (F B : Pl), Fs[i]? = some F → Mo'[i]? = some B → ∀ g, ev g B = ev2 g X F := fun i F B h1 h3 g => by
      obtain ⟨F', e1, gb⟩ := hM.2 i B h3
      rw [h1] at e1
      obtain rfl := Option.some.inj e1
      exact gb.ev g
    refine q_for (t := some q) g6.t1 (turns_listPr (n := 4) (PP := fun u v H => ∃ R Ts, (Vo n R ∧ Th n As.length Ts ∧ ∀ f, ev f R = sev f Ts As) ∧ IsPl K R u H ∧ IsPls K Ts v H) (fun u v H1 H2 g ⟨R, Ts, c, h1, h2⟩ => ⟨R, Ts, c, upx g h1, upx g h2⟩)
        (el_lst (PA := fun xs H => xs.length = 4 ∧ ∀ x ∈ xs, ∃ p u v, x = V.ref p ∧ SqT K H p [u, v] ∧ ∃ R Ts, (Vo n R ∧ Th n As.length Ts ∧ ∀ f, ev f R = sev f Ts As) ∧ IsPl K R u H ∧ IsPls K Ts v H) ?_ (fun vs _ h => by rw [h.1]; decide) fun vs H1 H2 g ⟨hl, h⟩ => ⟨hl, fun x hx => let ⟨p, u, v, e, hp, R, Ts, c, h1, h2⟩ := h x hx; ⟨p, u, v, e, g.sqT hp, R, Ts, c, upx g h1, upx g h2⟩⟩))
      (fun H1 i σ1 H2 => Gx (some q) H1 H2 ∧ ∃ a11 a12, σ1 = [some (.ref q.tp), some (.int n), some (.ref as), some pv', some (.ref af), some (.ref ag), some v6, some v7, some v8, some v9, some v10, a11, a12, none, none, none])
      (fun H1 g => ⟨g.here, none, none, rfl⟩) (fun _ _ _ _ _ z => z.1) (fun H0 i σ1 σ2 H7 H8 hi g0 ⟨g7, a11, a12, eσ⟩ g8 ⟨u, v, ⟨R, Ts, c, hu, hv⟩, e⟩ => ?_) (fun H0 σ1 H7 g0 ⟨g7, a11, a12, eσ⟩ => ?_)
    · have base : EvA (some q) _ [some (.ref q.tp), some (.int n), some (.ref as), some pv', some (.ref af), some (.ref ag), some v6, some v7, some v8, some v9, some v10, none, none, none, none, none] H6 (fun vs H => vs.length = 4 ∧ ∀ v ∈ vs, IsPr K n As v H) :=
        ea_consA (ev_pair thF (ev_var (σ := [some (.ref q.tp), some (.int n), some (.ref as), some pv', some (.ref af), some (.ref ag), some v6, some v7, some v8, some v9, some v10, none, none, none, none, none]) (i := 7) rfl ⟨Z1, ⟨vo_S z1.cn z1.po (by decide) (by omega), z1.ev⟩, hz16⟩) (ev_var (i := 4) rfl hFv6))
        (ea_consA (ev_pair thG (ev_var (i := 8) rfl ⟨Z2, ⟨vo_S z2.cn z2.po (by decide) (by omega), z2.ev⟩, hz26⟩) (ev_var (i := 5) rfl hGv6))
        (ea_consA (ev_pair thB ((evAdd (M := Ms * Ms) (C := S1) (N1 := 64) (N2 := 64) (e := 4) Z1 Z2 z1.po z2.po (by decide) (by decide +kernel) (by decide +kernel) (by decide +kernel) (ev_var (i := 7) rfl hz16) (ev_var (i := 8) rfl hz26)).imp fun v _ _ ⟨Y, gy, hy⟩ => ⟨Y, ⟨vo_S gy.cn gy.po (by decide) (Nat.le_refl _), sev_let (hF.1.trans hG.1.symm) (hB.1.trans hF.1.symm) lb z1.ev z2.ev gy.ev⟩, hy⟩) (ev_var (i := 9) rfl hBv6))
        (ea_consA (ev_pair thM ((evMul (M2 := Ms * Ms) (C2 := S1) (N2 := 64) (e2 := 4) Z1 z1.po (lp_AS A.n1 A.n3) (ev_var (i := 6) rfl hXv6) (ev_var (i := 7) rfl hz16)).imp fun v _ _ ⟨Y, gy, hy⟩ => ⟨Y, ⟨vo_P gy.cn gy.po, sev_prod (hM.1.trans hF.1.symm) lm z1.ev gy.ev⟩, hy⟩) (ev_var (i := 10) rfl hMv)) ea_nilA)))
      exact fun H1 g Q q1 => base H1 g Q fun vs H2 g2 ⟨hl, h⟩ => q1 vs H2 g2 ⟨hl, fun x hx => let ⟨p, u, v, R, Ts, e, hp, c, h1, h2⟩ := h x hx; ⟨p, u, v, e, hp, R, Ts, c, h1, h2⟩⟩
    · subst eσ; subst e
      have g68 := (g0.trans g7).trans g8
      have hz0 := let_zero A c.2.1 c.2.2
      refine s_skip (t := some q) g8.t1 (eb_orF (eb_not (eb_B (B := (· = true)) ((ev_isLet A c.2.1 c.1.cn (ev_var rfl ⟨_, rfl, rfl⟩) (ev_var rfl (CZ.up g68 hAs6)) (ev_var rfl hu) (ev_var rfl hv)).imp fun x _ _ ⟨b, e, hb⟩ => ⟨b, e, hb.mpr c.2.2⟩)) fun b e => by rw [e]; rfl)
        (eb_testE ((ev_neRat (ev_val c.1 n1 n3 A.pl A.pb (ev_var rfl hu) (ev_var rfl (CZ.up g68 hps6))) (ev_rat (q := 0) ev_int ev_int)).imp fun x _ _ e => by rw [e, decide_eq_true hz0]; rfl))) fun H9 g9 => ⟨(g7.trans g8).trans g9, _, _, rfl⟩
    · subst eσ
      have g67 := g0.trans g7
      refine q_asg (t := some q) g7.t1 (tpl 3 2 rfl rfl (by decide) (by decide)) fun v13 H8 g8 ⟨W, hW, hWv⟩ => ?_
      have g68 := g67.trans g8
      refine q_for (t := some q) g8.t1 (turns_tupN (n := 3) (PP := fun v H => ∃ R, Vo n R ∧ IsPl K R v H) (by decide) (ea_consA (ev_var (i := 13) rfl ⟨W, vo_A hW.1 hW.2, hWv⟩) (ea_consA ((evAdd (M := Ms * Ms) (C := S1) (N1 := 64) (N2 := 64) (e := 4) Z1 W z1.po (po_S hW.2) (by decide) (by decide +kernel) (by decide +kernel) (by decide +kernel) (ev_var (i := 7) rfl (CZ.up g68 hz16)) (ev_var (i := 13) rfl hWv)).imp fun v _ _ ⟨Y, gy, hy⟩ => ⟨Y, vo_S gy.cn gy.po (by decide) (Nat.le_refl _), hy⟩)
          (ea_consA (ev_call1 (P1 := IsIn (· = (n : Int))) (ev_var (i := 1) rfl ⟨_, rfl, rfl⟩) fun x H9 g9 ⟨_, e1, e2⟩ Q1 q1 => ⟨n, by rw [e1, e2], n1, by omega, fun v H10 g10 p => q1 v H10 (Gx.of_pure g9.t1 g10) ⟨_, vo_A (cn_one n) (po_one n), p⟩⟩) ea_nilA))))
        (fun H1 i σ1 H2 => Gx (some q) H1 H2 ∧ ∃ a11 a12, σ1 = [some (.ref q.tp), some (.int n), some (.ref as), some pv', some (.ref af), some (.ref ag), some v6, some v7, some v8, some v9, some v10, a11, a12, some v13, none, none])
        (fun H1 g => ⟨g.here, a11, a12, rfl⟩) (fun _ _ _ _ _ z => z.1) (fun H0 i σ1 σ2 H9 H10 hi g0 ⟨g9, a11, a12, eσ⟩ g10 ⟨u, ⟨R, hR, hu⟩, e⟩ => ?_) (fun H0 σ1 H9 g0 ⟨g9, a11, a12, eσ⟩ => ?_)
      · subst eσ; subst e
        have g60 := ((g68.trans g0).trans g9).trans g10
        refine s_for (t := some q) g10.t1 (turns_tupN (n := 7) (PP := fun v H => ∃ Ts, Th n As.length Ts ∧ IsPls K Ts v H) (by decide) (ea_consA (ev_var (i := 4) rfl ⟨Fs, thF, CZ.up g60 hFv6⟩) (ea_consA (ev_var (i := 5) rfl ⟨Gs, thG, CZ.up g60 hGv6⟩) (ea_consA (ev_var (i := 9) rfl ⟨Bs, thB, CZ.up g60 hBv6⟩)
            (ea_consA ((ev_rev (ev_var (i := 4) rfl (CZ.up g60 hFv6))).imp fun v _ _ p => ⟨_, thR, p⟩)
            (ea_consA ((ev_repE (m := As.length) ((ev_lenT (ev_vis (i := 2) rfl) ((g06.trans g60).sqT haS)).imp fun v _ _ ⟨i, e1, e2⟩ => ⟨i, e1, by rw [e2, lS]⟩) (by omega)).imp fun v _ _ p => ⟨_, thE, p⟩)
            (ea_consA ((ev_tupT (ev_var (i := 2) rfl (CZ.up g60 hAs6))).imp fun v _ _ p => ⟨_, thA, p⟩) (ea_consA (ev_var (i := 10) rfl ⟨Mo', thM, CZ.up g60 hMv⟩) ea_nilA))))))))
          (fun H1 i σ1 H2 => Gx (some q) H1 H2 ∧ ∃ a12, σ1 = [some (.ref q.tp), some (.int n), some (.ref as), some pv', some (.ref af), some (.ref ag), some v6, some v7, some v8, some v9, some v10, some u, a12, some v13, none, none])
          (fun H1 g => ⟨g.here, a12, rfl⟩) (fun _ _ _ _ _ z => z.1) (fun H1 j σ1 σ2 H11 H12 hj g1' ⟨g11, a12, eσ⟩ g12 ⟨v, ⟨Ts, hTs, hv⟩, e⟩ => ?_) (fun H1 σ1 H11 g1' ⟨g11, a12, eσ⟩ => ?_)
        · subst eσ; subst e
          have g62 := ((g60.trans g1').trans g11).trans g12
          have hu12 := CZ.up ((g1'.trans g11).trans g12) hu
          refine s_skip (t := some q) g12.t1 (eb_and (A := fun b => b = true ↔ ∀ f, ev f R = sev f Ts As) (B := fun b => b = !decide (ev (mv ps) R = 0)) (eb_B (ev_isLet A hTs hR.cn (ev_var rfl ⟨_, rfl, rfl⟩) (ev_var rfl (CZ.up g62 hAs6)) (ev_var rfl hu12) (ev_var rfl hv)))
            (fun _ => eb_testE (ev_neRat (ev_val hR n1 n3 A.pl A.pb (ev_var rfl hu12) (ev_var rfl (CZ.up g62 hps6))) (ev_rat (q := 0) ev_int ev_int))) (fun _ => rfl) fun b hb e => by
              rw [e, decide_eq_true (let_zero A hTs (hb.mp rfl))]; rfl) fun H13 g13 => ⟨(g11.trans g12).trans g13, _, rfl⟩
        · subst eσ
          exact ⟨((g9.trans g10).trans g1').trans g11, _, _, rfl⟩
      · subst eσ
        exact s_ret (t := some q) g9.t1 (ev_c (P := Is (.bl true)) rfl) fun v H10 g10 p => k v H10 ((((g06.trans g68).trans g0).trans g9).trans g10) p
end
end CZ
/-! the law. -/
namespace CZ
open PySem PySem.Spec PyProof.Rows L2
section
variable {t : TT'} {K : PySem.W.Frag} {σ : L2.St} {H H' : Hp} {ta tb te : TE} {tA : TA} {D : Ends}
theorem el_rng {A : Int → Prop} {g : TG} {tt : TT} {vs : List Nat} {PL : List V → Hp → Prop} (h : EvA t tA σ H (fun vs _ => ∃ n, vs = [V.int n] ∧ A n)) (k : ∀ n H1, Gx t H H1 → A n → EvL t (tLc (iRng1 (tCons (tC (.int n)) tNil)) g tt te vs) σ H1 PL) : EvL t (tLc (iRng1 tA) g tt te vs) σ H PL := fun H1 g1 Q q =>
  h H1 g1 _ fun vs H2 g2 ⟨n, e, a⟩ => by
    subst e
    exact k n H2 (g1.trans g2) a H2 g2.here Q fun p xs H3 hp g3 e px => q p xs H3 (g2.fresh hp) (g2.trans g3) e px
theorem ev_ifE {b : Bool} {tt : TT} {P : V → Hp → Prop} (h : EvB t tt σ H (· = b)) (h1 : b = true → EvP t ta σ H P) (h2 : b = false → EvP t tb σ H P) : EvP t (tIf tt ta tb) σ H P := fun H1 g Q q => h H1 g _ fun c H2 g2 e => by
  subst e
  cases c with
  | true => exact h1 rfl H2 (g.trans g2) Q fun v H3 g3 p => q v H3 (g2.trans g3) p
  | false => exact h2 rfl H2 (g.trans g2) Q fun v H3 g3 p => q v H3 (g2.trans g3) p
end
section
variable {P : Program} {w : World} {K : PySem.W.Frag} {mg : Str → Option Value} {base : Heap}
abbrev NL : List Str := ["_law_script", "_law_tape_here", "_law_k", "_law_n", "_law_point_here", "_law_some", "_law_place", "_law_unit", "_law_j"]
theorem sc48 : FnScope NL ["_law_script"] (defScope (topS 48)) := ⟨rfl, rfl, rfl, by decide +kernel, rfl, by decide +kernel, by decide +kernel⟩
def spLaw (K : PySem.W.Frag) : Sp := fun vs H Q _ => ∃ (a : Addr) (ns : List Int), vs = [.ref a] ∧ SqL K H a (ns.map V.int) ∧ ns.length ≤ 63 ∧ ∀ H', Q (.bl true) H'
theorem ok_law {f : Addr} {fd : FuncData} (F : Fun K "law" "law" (topS 48) f fd) (bl : Blt mg) (cT : Cal P w K mg base CX0 9 "_law_tape" ["_law_script"] (spTape K)) (cD : Cal P w K mg base CX0 9 "_law_draw" ["_law_tape_here", "_law_many"] spDraw) (cPt : Cal P w K mg base CX0 9 "_law_point" ["_law_tape_here", "_law_n"] (spPoint K))
    (cV : Cal P w K mg base CX0 9 "_law_vanishing" ["_law_tape_here", "_law_n", "_law_point_here"] (spVan K)) (cR : Cal P w K mg base CX0 9 "_law_right" ["_law_tape_here", "_law_n", "_law_some", "_law_point_here"] (spRight K)) (cO : Cal P w K mg base CX0 9 "one_of" ["n"] (spOne K))
    (cL : Cal P w K mg base CX0 9 "_law_is_let" ["_law_n", "_law_some", "_law_poly_here", "_law_thing"] (spIsLet K)) : FnOk P w K mg base CX0 10 f fd ["_law_script"] (spLaw K) := by
  refine F.ok sc48 (fun vs H Q E h => ?_) (fun cdv A outer s H vs Q E hr h => ?_)
  · obtain ⟨_, _, rfl, _⟩ := h; rfl
  · obtain ⟨a, ns, rfl, hS, hn, k⟩ := h
    refine ⟨_, pss_cons (ps_set (i := 1) sc48.nd rfl (Or.inr rfl) (pe_cal cT hr (pa_cons (pv 0) pa_nil)))
      (pss_cons (ps_for PassesOwn.never rfl (pi_range1 rfl bl.range (pa_cons pe_int pa_nil)) (pg_name (i := 2) sc48.nd rfl (Or.inl rfl))
        (pss_cons (ps_set (i := 3) sc48.nd rfl (Or.inr rfl) (pe_op op_add pe_int (pe_cal cD hr (pa_cons (pv 1) (pa_cons pe_int pa_nil)))))
        (pss_cons (ps_set (i := 4) sc48.nd rfl (Or.inr rfl) (pe_cal cPt hr (pa_cons (pv 1) (pa_cons (pv 3) pa_nil))))
        (pss_cons (ps_set (i := 5) sc48.nd rfl (Or.inl rfl) (pe_callTy (r := rTupF K) call_tupF (by rfl) bl.tuple boot_tuple (pa_cons (pe_lc (own := [("_law_j", 8)]) (g := gName 8) rfl sc48.nd (pi_range1 rfl bl.range (pa_cons (pe_op op_add pe_int (pe_cal cD hr (pa_cons (pv 1) (pa_cons pe_int pa_nil)))) pa_nil)) (blkOk_by (N := NL) (sc := defScope (topS 48)) (by decide +kernel)) (fun _ _ _ _ _ => pg_name (i := 8) sc48.nd rfl (Or.inl rfl)) (fun _ _ _ _ _ => pts_nil)
          (fun _ _ _ _ _ => pe_cal cV hr (pa_cons (pv 1) (pa_cons (pv 3) (pa_cons (pv 4) pa_nil))))) pa_nil)))
        (pss_cons (ps_if (pt_not (pt_val (pe_cal cR hr (pa_cons (pv 1) (pa_cons (pv 3) (pa_cons (pv 5) (pa_cons (pv 4) pa_nil))))))) pss_dead pss_nil)
        (pss_one (ps_for PassesOwn.never rfl (pi_range1 rfl bl.range (pa_cons (pe_callB call_len_seq (by rfl) bl.len PySem.boot_len (pa_cons (pv 5) pa_nil)) pa_nil)) (pg_name (i := 6) sc48.nd rfl (Or.inr rfl))
          (pss_cons (ps_set (i := 7) sc48.nd rfl (Or.inl rfl) (pe_callTy (r := rTupF K) call_tupF (by rfl) bl.tuple boot_tuple (pa_cons (pe_lc (own := [("_law_j", 8)]) (g := gName 8) rfl sc48.nd (pi_range1 rfl bl.range (pa_cons (pe_callB call_len_seq (by rfl) bl.len PySem.boot_len (pa_cons (pv 5) pa_nil)) pa_nil)) (blkOk_by (N := NL) (sc := defScope (topS 48)) (by decide +kernel)) (fun _ _ _ _ _ => pg_name (i := 8) sc48.nd rfl (Or.inl rfl)) (fun _ _ _ _ _ => pts_nil)
            (fun _ _ _ _ _ => pe_ifExp (pt_cmpR op_eq (pv 8) (pv 6) (nomark _)) (pe_cal cO hr (pa_cons (pv 3) pa_nil)) (pe_tup pa_nil))) pa_nil)))
          (pss_one (ps_if (pt_not (pt_val (pe_cal cL hr (pa_cons (pv 3) (pa_cons (pv 5) (pa_cons (pe_ix ix_tup (pv 5) (pv 6) (fun _ _ => rfl)) (pa_cons (pv 7) pa_nil))))))) pss_dead pss_nil))))))))))
      (pss_one (ps_ret pe_bl))), ?_⟩
    refine ⟨_, rfl, a, ns, rfl, hS, hn, fun q H1 g1 hT => ?_⟩
    refine q_for (t := some q) hT (turns_range (n := 4) (ea_is1 (ev_c rfl)) (by decide))
      (fun H1 i σ1 H2 => Gx (some q) H1 H2 ∧ ∃ a2 a3 a4 a5 a6 a7 a8, σ1 = [some (.ref a), some (.ref q.tp), a2, a3, a4, a5, a6, a7, a8]) (fun H1 g => ⟨g.here, _, _, _, _, _, _, _, rfl⟩) (fun _ _ _ _ _ z => z.1.txT)
      (fun H0 i σ1 σ2 H2 H3 hi g0 ⟨g2, a2, a3, a4, a5, a6, a7, a8, eσ⟩ g3 e => ?_) (fun H0 σ1 H2 g0 ⟨g2, a2, a3, a4, a5, a6, a7, a8, eσ⟩ => ?_)
    · subst eσ; subst e
      refine q_asg (t := some q) (P := IsIn fun i => 1 ≤ i ∧ i ≤ 3) g3.t1 (ev_rI0 (A := (· = 1)) ev_int (ev_draw (n := 3) (ev_vis rfl) ev_int (by decide)) fun i j _ _ e1 e2 => ⟨_, rfl, by omega⟩) fun v H4 g4 ⟨ni, e1, hni⟩ => ?_
      subst e1
      obtain ⟨n, rfl⟩ : ∃ n : Nat, ni = n := ⟨ni.toNat, by omega⟩
      have n1 : 1 ≤ n := by omega
      have n3 : n ≤ 3 := by omega
      refine q_asg (t := some q) (P := fun v H' => ∃ ps : List Rat, (ps.length = n ∧ ∀ p ∈ ps, IsB 10 30 p) ∧ IsPt K ps v H') g4.t1 (ev_call2 (P1 := Is (.ref q.tp)) (P2 := IsIn (· = (n : Int))) (ev_vis rfl) (ev_var rfl ⟨_, rfl, rfl⟩) fun x y H5 g5 ex ⟨_, e2, e3⟩ Q1 q1 => ⟨q, n, by rw [ex, e2, e3], g5.t1, by omega, fun v H6 g6 ⟨ps, h1, h2, h3⟩ => q1 v H6 g6 ⟨ps, ⟨h1, h2⟩, h3⟩⟩) fun v4 H5 g5 ⟨ps, ⟨hpl, hpb⟩, hps⟩ => ?_
      refine q_asg (t := some q) (P := fun v H' => ∃ As, RA n ps As ∧ IsPls K As v H') g5.t1 ((ev_tupF (R := IsPl K) (A := fun As => RA n ps As) fun H6 g6 Q1 q1 => el_rng (A := fun i => 1 ≤ i ∧ i ≤ 4) (PL := fun xs H' => ∃ As : List Pl, RA n ps As ∧ Paired (fun a x => IsPl K a x H') As xs)
          (ea_int1 (ev_rI0 (A := (· = 1)) ev_int (ev_draw (n := 4) (ev_vis rfl) ev_int (by decide)) fun i j _ _ e1 e2 => ⟨_, rfl, by omega⟩)) (fun c H7 g7 hc H8 g8 Q2 q2 => ev_lc (α := Pl) (R := IsPl K) (C := fun _ A => Cn lt A ∧ Po n Ms CA 4 2 A ∧ ev (mv ps) A = 0) (fun _ _ g => g.txT) (turns_range (n := c) (ea_is1 (ev_c rfl)) (by omega)) (by omega) (fun i σ2 H2 e => by subst e; rfl)
            (fun i σ2 H9 hi g9 e => by
              subst e
              exact ev_call3 (P1 := Is (.ref q.tp)) (P2 := IsIn (· = (n : Int))) (P3 := IsPt K ps) (ev_vis rfl) (ev_var rfl ⟨_, rfl, rfl⟩) (ev_var rfl (CZ.up (g7.trans g9) hps)) fun x y z H10 g10 ex ⟨_, e2, e3⟩ hz Q3 q3 => ⟨q, n, z, ps, by rw [ex, e2, e3], g10.t1, n1, n3, hz, hpl, hpb, q3⟩) H8 g8 Q2
            fun p xs H9 hp g9 e ⟨as, hl, hC, hR⟩ => q2 p xs H9 hp g9 e ⟨as, ⟨n1, n3, hpl, hpb, by omega, by omega, mem_each hC⟩, hR⟩) H6 g6 Q1 q1).imp fun v _ _ ⟨As, h1, h2⟩ => ⟨As, h1, h2.of⟩) fun v5 H6 g6 ⟨As, RAs, hAs⟩ => ?_
      refine q_skip (t := some q) g6.t1 (eb_notT (ev_call4 (P1 := Is (.ref q.tp)) (P2 := IsIn (· = (n : Int))) (P3 := IsPls K As) (P4 := IsPt K ps) (ev_vis rfl) (ev_var rfl ⟨_, rfl, rfl⟩) (ev_var rfl hAs) (ev_var rfl (CZ.up g6 hps)) fun x y z z2 H7 g7 ex ⟨_, e2, e3⟩ hz hz2 Q1 q1 => ⟨q, n, z, z2, ps, As, by rw [ex, e2, e3], g7.t1, RAs, hz, hz2, q1⟩)) fun H7 g7 => ?_
      obtain ⟨as, xs, rfl, has, hxs⟩ := CZ.up g7 hAs
      have lx : xs.length = As.length := (paired_len hxs).symm
      have a1 := RAs.a1
      have a4' := RAs.a4
      have lenS : ∀ {σ : L2.St} {H8 : Hp}, Gx (some q) H7 H8 → σ[5]? = some (some (.ref as)) → EvA (some q) (tCons (tCB (fun xs H Q => ∃ p ys, xs = [.ref p] ∧ (SqL K H p ys ∨ SqT K H p ys) ∧ Q (.int ys.length) H) (tCons (tVar 5) tNil)) tNil) σ H8 (fun vs _ => vs = [V.int (As.length : Int)]) := fun g8 h5 H9 g9 Q1 q1 =>
        ea_1 (ev_lenT (ev_vis h5) (g8.sqT has)) H9 g9 Q1 fun vs H10 g10 ⟨z, e5, _, e6, e7⟩ => q1 vs H10 g10 (by rw [e5, e6, e7, lx])
      refine s_for (t := some q) g7.t1 (turns_range (n := (As.length : Int)) (lenS (Gx.refl g7.t1) rfl) (by omega))
        (fun H8 j σ1 H9 => Gx (some q) H8 H9 ∧ ∃ a2 a6 a7 a8, σ1 = [some (.ref a), some (.ref q.tp), a2, some (.int n), some v4, some (.ref as), a6, a7, a8]) (fun H8 g8 => ⟨g8.here, _, _, _, _, rfl⟩) (fun _ _ _ _ _ z => z.1.txT)
        (fun H8 j σ1 σ2 H9 H10 hj g8 ⟨g9, b2, a6, a7, a8, eσ⟩ g10 e => ?_) (fun H8 σ1 H9 g8 ⟨g9, b2, a6, a7, a8, eσ⟩ => ?_)
      · subst eσ; subst e
        have hj1 : j < As.length := by omega
        have g70 := (g8.trans g9).trans g10
        refine q_asg (t := some q) (P := fun v H' => ∃ Us : List Pl, (Us.length = As.length ∧ ∀ (i : Nat) U, Us[i]? = some U → U = if i = j then oneP n else []) ∧ IsPls K Us v H') g10.t1 ((ev_tupF (R := IsPl K) (A := fun Us : List Pl => Us.length = As.length ∧ ∀ (i : Nat) U, Us[i]? = some U → U = if i = j then oneP n else []) fun H11 g11 Q1 q1 =>
          ev_lc (α := Pl) (R := IsPl K) (C := fun i U => U = if i = j then oneP n else []) (fun _ _ g => g.txT) (turns_range (n := (As.length : Int)) (lenS g70 rfl) (by omega)) (by omega) (fun i σ2 H2 e => by subst e; rfl) (fun i σ2 H12 hi g12 e => by
            subst e
            refine ev_ifE (b := decide ((i : Int) = (j : Int))) (eb_testE (ev_eqE (i := (i : Int)) (j := (j : Int)) (ev_var rfl ⟨_, rfl, rfl⟩) (ev_var rfl ⟨_, rfl, rfl⟩))) (fun hb => ?_) (fun hb => ?_)
            · have e1 : i = j := by have := of_decide_eq_true hb; omega
              exact (ev_call1 (P1 := IsIn (· = (n : Int))) (P := IsPl K (oneP n)) (ev_var rfl ⟨_, rfl, rfl⟩) fun x H13 g13 ⟨_, e2, e3⟩ Q2 q2 => ⟨n, by rw [e2, e3], n1, by omega, fun v H14 g14 p => q2 v H14 (Gx.of_pure g13.t1 g14) p⟩).imp fun v _ _ p => ⟨_, (if_pos e1).symm, p⟩
            · have e1 : ¬ i = j := by have := of_decide_eq_false hb; omega
              exact (ev_empty (R := IsTm K)).imp fun v _ _ p => ⟨_, (if_neg e1).symm, p⟩) H11 g11 Q1
          fun p xs H12 hp g12 e ⟨us, hl, hC, hR⟩ => q1 p xs H12 hp g12 e ⟨us, ⟨by rw [hl, Int.toNat_natCast], hC⟩, hR⟩).imp fun v _ _ ⟨As, h1, h2⟩ => ⟨As, h1, h2.of⟩) fun v7 H11 g11 ⟨Us, hU, hUv⟩ => ?_
        have g71 := g70.trans g11
        have eA : As[j]? = some As[j] := List.getElem?_eq_getElem hj1
        obtain ⟨xj, exj, hxj⟩ := paired_at' hxs eA
        have okA := RAs.ok _ (List.getElem_mem hj1)
        have thU : Th n As.length Us := ⟨hU.1, mem_each fun i U e => by
          rw [hU.2 i U e]
          by_cases e1 : i = j
          · rw [if_pos e1]
            exact ⟨cn_one n, po_AB (po_one n)⟩
          · rw [if_neg e1]
            exact ⟨⟨List.Pairwise.nil, fun _ z => nomatch z⟩, Po.nil _ _ _ _ _⟩⟩
        have heq : ∀ f, ev f As[j] = sev f Us As := fun f => (sev_unit f Us As j As[j] hU.1 hU.2 eA fun t ht => (okA.2.1.mon t ht).1).symm
        refine s_skip (t := some q) g11.t1 (eb_not (eb_B (B := (· = true)) ((ev_isLet RAs thU okA.1 (ev_var rfl ⟨_, rfl, rfl⟩) (ev_var rfl (show IsPls K As (.ref as) H11 from ⟨as, xs, rfl, g71.sqT has, paired_mono g71.tx hxs⟩)) (ev_ixT (i := (j : Int)) (ev_vis rfl) (ev_var rfl ⟨_, rfl, rfl⟩) (g71.sqT has) (atI_nat exj) (CZ.up g71 hxj)) (ev_var rfl hUv)).imp fun x _ _ ⟨b, e, hb⟩ => ⟨b, e, hb.mpr heq⟩)) fun b e => by rw [e]; rfl) fun H12 g12 => ⟨((g9.trans g10).trans g11).trans g12, _, _, _, _, rfl⟩
      · subst eσ
        exact ⟨((((((g2.trans g3).trans g4).trans g5).trans g6).trans g7).trans g8).trans g9, _, _, _, _, _, _, _, rfl⟩
    · subst eσ
      exact s_ret (t := some q) g2.t1 (ev_c (P := Is (.bl true)) rfl) fun v H10 g10 p => by
        rw [show v = .bl true from p]
        exact k H10
end
end CZ
/-! what the top has written; the law's own head. -/
namespace CZ
open PySem PySem.Spec PyProof.Rows L2
section
variable {P : Program} {w : World} {K : PySem.W.Frag} {mg : Str → Option Value} {base h : Heap}
theorem def_at {x : Str} {ps : List Str} {st : Stmt} {f : Addr} {od an : Option Addr} {sl : Array (Option Value)} {oc kV dc pm cd ct : Value} (X : K.In h) (G : h.Ns mainGlobals mg) (a : PySem.W.nsIn K mainGlobals x = some (some (.ref f)))
    (l : K.lookup f = some ⟨oc, od, .func (PySem.W.fnOf x x (defArgs st) (defBody st) (defScope st) .none kV dc pm an cd ct), sl⟩) (c : PySem.W.codeIn K cd x = true) (k : PySem.W.keepIn K (.ref f) = true)
    (hb : ∀ (kV doc pm : Value) (an : Option Addr) (cdv ct : Value) (us : List Value), us.length = ps.length → bindArgs (PySem.W.fnOf x x (defArgs st) (defBody st) (defScope st) .none kV doc pm an cdv ct) ⟨us, []⟩ = pure (ps.zip us)) : DefAt K mg x ps st :=
  ⟨f, _, fun_mk l c k, PySem.W.mg_of X G a, (fun_mk l c k).binds hb⟩
theorem cst_at {x : Str} {i j : Int} {a : Addr} {od : Option Addr} {n : Nat} {t u : Tok} {sl : Array (Option Value)} (X : K.In h) (G : h.Ns mainGlobals mg) (e : PySem.W.nsIn K mainGlobals x = some (some (.ref a)))
    (l : K.lookup a = some ⟨.type "tuple", od, .seq #[.int i t, .int j u] n, sl⟩) : CstAt K mg x i j :=
  ⟨a, PySem.W.mg_of X G e, fun H => .inr ⟨_, _, n, l, rfl, rfl, by rw [show (#[Value.int i t, Value.int j u] : Array Value).size = 2 from rfl]; decide, .cons ⟨t, rfl⟩ (.cons ⟨u, rfl⟩ .nil)⟩⟩
theorem exm_own {S : Addr} (h1 : PySem.W.subIn K (.ref S) (.type "BaseException") = some true) (h2 : PySem.W.isClsIn K S = true) (h3 : PySem.W.typeIn K (.ref S) = some (.type "type")) (h4 : PySem.W.subIn K (.ref S) (.ref S) = some true) : PySem.W.exmOne K (.ref S) (.ref S) = some true := by
  have e1 : (PySem.W.subIn K (.ref S) (.type "BaseException") == some true) = true := by rw [h1] <;> rfl
  have e2 : ((PySem.W.clsIn K S).isSome && PySem.W.typeIn K (.ref S) == some (.type "type")) = true := by
    rw [show (PySem.W.clsIn K S).isSome = true from h2, h3] <;> rfl
  show (if (PySem.W.subIn K (.ref S) (.type "BaseException") == some true) = true then (if ((PySem.W.clsIn K S).isSome && PySem.W.typeIn K (.ref S) == some (.type "type")) = true then PySem.W.subIn K (.ref S) (.ref S) else none) else none) = some true
  rw [if_pos e1, if_pos e2]
  exact h4
/-- NoSum, ZeroError -/
theorem err_mk {C Z fI N : Addr} {nm q : Str} {bs : List Value} {sn : List Str} {sub : List Value} {ab : Bool} {col : Option Bool} {dd : Option Addr} {m0 m1 m2 m3 m5 : Option Value} (X : K.In h) (G : h.Ns mainGlobals mg)
    (aC : PySem.W.nsIn K mainGlobals "NoSum" = some (some (.ref C))) (aZ : PySem.W.nsIn K mainGlobals "ZeroError" = some (some (.ref Z)))
    (xC : K.lookup C = some (excClassObj nm q C N bs [.ref Z, .type "ValueError", .type "Exception", .type "BaseException", .type "object"] true sn sub ab col dd m0 m1 m2 m3 m5 "ValueError.__new__"))
    (sa : PySem.W.findIn K (.ref C) "__setattr__" = some (some (.builtin "object.__setattr__"))) (eC : PySem.W.subIn K (.ref C) (.type "BaseException") = some true) (tC : PySem.W.typeIn K (.ref C) = some (.type "type")) (kC : PySem.W.keepIn K (.ref C) = true)
    (rd : PySem.W.readsIn K Z (.type "type") = true) (ga : PySem.W.specialIn K (.ref Z) "__getattribute__" = some (some (.builtin "type.__getattribute__"))) (vi : PySem.W.findCls K (.ref Z) (.type "type") "__init__" = some (.val (.builtin "ValueError.__init__")))
    (iC : PySem.W.findIn K (.ref C) "__init__" = some (some (.ref fI))) (tI : PySem.W.typeIn K (.ref fI) = some (.type "function")) (nW : PySem.W.findIn K (.ref C) "word" = some none) (isC : PySem.W.isClsIn K C = true) (sC : PySem.W.subIn K (.ref C) (.ref C) = some true) : ErrTxt K mg C Z fI (.type "type") :=
  { ox := ⟨⟨nm, q, N, bs, _, sn, sub, ab, col, dd, m0, m1, m2, m3, m5, xC, (by rfl)⟩, sa, eC, tC, kC⟩, gC := PySem.W.mg_of X G aC, gZ := PySem.W.mg_of X G aZ, rd := ⟨rd, ga⟩, vi := vi, iC := iC, tI := tI, nW := nW, te := exm_own eC isC tC sC }

theorem all_mk {l : PySem.W.OpenLaw} {fa C Z fI : Addr} (X : K.In h) (G : h.Ns mainGlobals mg) (hfa : mg "law" = some (.ref fa))
    (d5 : DefAt K mg "joined_powers" ["one", "other"] (topS 5))
    (d9 : DefAt K mg "is_count" ["thing"] (topS 9))
    (d10 : DefAt K mg "shared" ["one", "other"] (topS 10))
    (d11 : DefAt K mg "is_ratio" ["thing"] (topS 11))
    (d12 : DefAt K mg "ratio" ["top", "bottom"] (topS 12))
    (d13 : DefAt K mg "plus" ["one", "other"] (topS 13))
    (d14 : DefAt K mg "times" ["one", "other"] (topS 14))
    (d16 : DefAt K mg "are_powers" ["n", "thing"] (topS 16))
    (d17 : DefAt K mg "is_term" ["n", "thing"] (topS 17))
    (d18 : DefAt K mg "is_poly" ["n", "thing"] (topS 18))
    (d19 : DefAt K mg "gathered" ["terms"] (topS 19))
    (d20 : DefAt K mg "added" ["one", "other"] (topS 20))
    (d21 : DefAt K mg "by_term" ["poly", "term"] (topS 21))
    (d22 : DefAt K mg "product" ["one", "other"] (topS 22))
    (d23 : DefAt K mg "one_of" ["n"] (topS 23))
    (d25 : DefAt K mg "sum_of" ["multiples", "some"] (topS 25))
    (d26 : DefAt K mg "are_multiples" ["n", "many", "thing"] (topS 26))
    (d27 : DefAt K mg "lets_sum" ["n", "some", "poly", "thing"] (topS 27))
    (d29 : DefAt K mg "_law_tape" ["_law_script"] (topS 29))
    (d30 : DefAt K mg "_law_draw" ["_law_tape_here", "_law_many"] (topS 30))
    (d31 : DefAt K mg "_law_gcd" ["_law_one", "_law_other"] (topS 31))
    (d32 : DefAt K mg "_law_ratio" ["_law_top", "_law_bottom"] (topS 32))
    (d33 : DefAt K mg "_law_plus" ["_law_one", "_law_other"] (topS 33))
    (d35 : DefAt K mg "_law_times" ["_law_one", "_law_other"] (topS 35))
    (d37 : DefAt K mg "_law_number" ["_law_tape_here"] (topS 37))
    (d38 : DefAt K mg "_law_poly" ["_law_tape_here", "_law_n", "_law_many", "_law_most"] (topS 38))
    (d39 : DefAt K mg "_law_gathered" ["_law_table"] (topS 39))
    (d40 : DefAt K mg "_law_added" ["_law_one", "_law_other"] (topS 40))
    (d42 : DefAt K mg "_law_value" ["_law_poly_here", "_law_point_here"] (topS 42))
    (d43 : DefAt K mg "_law_point" ["_law_tape_here", "_law_n"] (topS 43))
    (d44 : DefAt K mg "_law_vanishing" ["_law_tape_here", "_law_n", "_law_point_here"] (topS 44))
    (d45 : DefAt K mg "_law_is_let" ["_law_n", "_law_some", "_law_poly_here", "_law_thing"] (topS 45))
    (d46 : DefAt K mg "_law_sum_of" ["_law_multiples", "_law_some"] (topS 46))
    (d47 : DefAt K mg "_law_right" ["_law_tape_here", "_law_n", "_law_some", "_law_point_here"] (topS 47))
    (cN : CstAt K mg "NOUGHT" 0 1) (cO : CstAt K mg "ONE" 1 1) (T : ErrTxt K mg C Z fI (.type "type"))
    {odI anI odL anL : Option Addr} {slI slL : Array (Option Value)} {ocI kVI dcI pmI cdI ctI ocL kVL dcL pmL cdL ctL : Value} {f48 : Addr}
    (lI : K.lookup fI = some ⟨ocI, odI, .func (PySem.W.fnOf "__init__" "NoSum.__init__" (defArgs sInit) (defBody sInit) (defScope sInit) .none kVI dcI pmI anI cdI ctI), slI⟩) (qI : PySem.W.codeIn K cdI "NoSum.__init__" = true) (kI : PySem.W.keepIn K (.ref fI) = true)
    (aL : PySem.W.nsIn K mainGlobals "law" = some (some (.ref f48))) (lL : K.lookup f48 = some ⟨ocL, odL, .func (PySem.W.fnOf "law" "law" (defArgs (topS 48)) (defBody (topS 48)) (defScope (topS 48)) .none kVL dcL pmL anL cdL ctL), slL⟩) (qL : PySem.W.codeIn K cdL "law" = true) (kL : PySem.W.keepIn K (.ref f48) = true)
    (b_abs : PySem.W.nsIn K mainGlobals "abs" = some none)
    (b_all : PySem.W.nsIn K mainGlobals "all" = some none)
    (b_bool : PySem.W.nsIn K mainGlobals "bool" = some none)
    (b_dict : PySem.W.nsIn K mainGlobals "dict" = some none)
    (b_int : PySem.W.nsIn K mainGlobals "int" = some none)
    (b_isinstance : PySem.W.nsIn K mainGlobals "isinstance" = some none)
    (b_len : PySem.W.nsIn K mainGlobals "len" = some none)
    (b_range : PySem.W.nsIn K mainGlobals "range" = some none)
    (b_sorted : PySem.W.nsIn K mainGlobals "sorted" = some none)
    (b_tuple : PySem.W.nsIn K mainGlobals "tuple" = some none)
    (b_zip : PySem.W.nsIn K mainGlobals "zip" = some none)
    : ∃ fd : FuncData, (∀ (s : Shared) (v : Value), BindsTo s fd ⟨[v], []⟩ [("_law_script", v)]) ∧ ∀ base : Heap, K.In base → base.Ns mainGlobals mg → FnOk l.prog w K mg base CX0 10 fa fd ["_law_script"] (spLaw K) := by
  have e := hfa.symm.trans (PySem.W.mg_of X G aL)
  cases e
  have bl : Blt mg := ⟨PySem.W.mg_none_of X G b_abs, PySem.W.mg_none_of X G b_all, PySem.W.mg_none_of X G b_bool, PySem.W.mg_none_of X G b_dict, PySem.W.mg_none_of X G b_int, PySem.W.mg_none_of X G b_isinstance, PySem.W.mg_none_of X G b_len, PySem.W.mg_none_of X G b_range, PySem.W.mg_none_of X G b_sorted, PySem.W.mg_none_of X G b_tuple, PySem.W.mg_none_of X G b_zip⟩
  have FI := fun_mk (st := sInit) lI qI kI
  have FL := fun_mk (st := topS 48) lL qL kL
  have bI := FI.binds (ps := ["self", "word"]) fun _ _ _ _ _ _ us hl => match us, hl with | [_, _], _ => rfl
  refine ⟨PySem.W.fnOf "law" "law" (defArgs (topS 48)) (defBody (topS 48)) (defScope (topS 48)) .none kVL dcL pmL anL cdL ctL, fun s v => .of_eq rfl, fun base _ _ => ?_⟩
  let Pr := l.prog
  have isCount : Cal Pr w K mg base CX0 1 _ _ _ := ok_is_count bl d9
  have shared' : Cal Pr w K mg base CX0 1 _ _ _ := ok_shared d10
  have joined : Cal Pr w K mg base CX0 1 _ _ _ := ok_joined bl d5
  have oneOf : Cal Pr w K mg base CX0 1 _ _ _ := ok_one_of d23 cO
  have tape : Cal Pr w K mg base CX0 1 _ _ _ := ok_law_tape d29
  have draw : Cal Pr w K mg base CX0 1 _ _ _ := ok_law_draw bl d30
  have lgcd : Cal Pr w K mg base CX0 1 _ _ _ := ok_law_gcd d31
  have lgath : Cal Pr w K mg base CX0 1 _ _ _ := ok_law_gathered bl d39
  have isRatio := ok_is_ratio bl d11 isCount shared'
  have ratio' := ok_ratio bl d12 shared'
  have arePow := ok_are_powers bl d16 isCount
  have lratio := ok_law_ratio bl d32 lgcd
  have plus' := ok_plus d13 ratio'
  have times' := ok_times d14 ratio'
  have isTerm := ok_is_term bl d17 cN arePow isRatio
  have lplus := ok_law_plus d33 lratio
  have ltimes := ok_law_times d35 lratio
  have lnum := ok_law_number d37 (draw.mono (by decide)) lratio
  have lpoint := ok_law_point bl d43 (draw.mono (by decide))
  have isPoly := ok_is_poly bl d18 isTerm
  have gath' := ok_gathered bl d19 cN plus'
  have byTerm := ok_by_term bl d21 (joined.mono (by decide)) times'
  have lpoly := ok_law_poly bl d38 (draw.mono (by decide)) lnum (lgath.mono (by decide))
  have ladd := ok_law_added bl d40 lplus (lgath.mono (by decide))
  have lval := ok_law_value bl d42 lplus ltimes
  have add' := ok_added d20 gath'
  have prod' := ok_product d22 byTerm gath'
  have areMul := ok_are_multiples bl d26 isPoly
  have lvan := ok_law_vanishing d44 lpoly lval ladd
  have sumOf := ok_sum_of bl d25 add' prod'
  have lsum := ok_law_sum_of bl d46 add' prod'
  have init' : FnOk Pr w K mg base CX0 1 fI _ _ _ := ok_init T FI
  have lets := ok_lets_sum bl d27 T init' bI (areMul.mono (by decide)) sumOf
  have isLet := ok_is_let d45 T lets
  have right' := ok_law_right bl d47 (lpoly.mono (by decide)) (lsum.mono (by decide)) (add'.mono (by decide)) (prod'.mono (by decide)) isLet (lval.mono (by decide)) (oneOf.mono (by decide))
  exact ok_law FL bl (tape.mono (by decide)) (draw.mono (by decide)) (lpoint.mono (by decide)) (lvan.mono (by decide)) right' (oneOf.mono (by decide)) (isLet.mono (by decide))
end
end CZ
open PySem PySem.W PyProof.Rows
set_option maxHeartbeats 0 in
theorem PySem.Challenge.cw_commonzeros_k16_whole_multiples_holds : PySem.Challenge.rw_commonzeros_k16_whole_multiples.Holds := by
  w_on; o_law; k_head; (case hw => w_witness2)
  k_fill
  refine L2.walk_of (l := PySem.Challenge.rw_commonzeros_k16_whole_multiples) (n := 63) (k := 10) (x := "_law_script") (CX := fun _ => L2.CX0) (sp := fun w => CZ.spLaw _) rfl (by decide) rfl ⟨rfl, by decide, by decide⟩ (fun w h Y => PySem.W.kIn_of Y) ?F (fun _ _ a ns hl _ hS => ⟨a, ns, rfl, hS, hl, fun _ => rfl⟩) (fun _ _ _ _ _ h => h)
  case F =>
    intro w mg fa h KX G hmg
    refine' CZ.all_mk KX G hmg ?d5 ?d9 ?d10 ?d11 ?d12 ?d13 ?d14 ?d16 ?d17 ?d18 ?d19 ?d20 ?d21 ?d22 ?d23 ?d25 ?d26 ?d27 ?d29 ?d30 ?d31 ?d32 ?d33 ?d35 ?d37 ?d38 ?d39 ?d40 ?d42 ?d43 ?d44 ?d45 ?d46 ?d47 ?cN ?cO ?T ?lI ?qI ?kI ?aL ?lL ?qL ?kL ?b_abs ?b_all ?b_bool ?b_dict ?b_int ?b_isinstance ?b_len ?b_range ?b_sorted ?b_tuple ?b_zip
    case d5 =>
      refine' CZ.def_at KX G ?a ?l ?c ?k (fun _ _ _ _ _ _ us hl => match us, hl with | [_, _], _ => rfl)
      (case a => k_is); (case l => k_is); (case c => k_is); (case k => k_is)
    case d9 =>
      refine' CZ.def_at KX G ?a ?l ?c ?k (fun _ _ _ _ _ _ us hl => match us, hl with | [_], _ => rfl)
      (case a => k_is); (case l => k_is); (case c => k_is); (case k => k_is)
    case d10 =>
      refine' CZ.def_at KX G ?a ?l ?c ?k (fun _ _ _ _ _ _ us hl => match us, hl with | [_, _], _ => rfl)
      (case a => k_is); (case l => k_is); (case c => k_is); (case k => k_is)
    case d11 =>
      refine' CZ.def_at KX G ?a ?l ?c ?k (fun _ _ _ _ _ _ us hl => match us, hl with | [_], _ => rfl)
      (case a => k_is); (case l => k_is); (case c => k_is); (case k => k_is)
    case d12 =>
      refine' CZ.def_at KX G ?a ?l ?c ?k (fun _ _ _ _ _ _ us hl => match us, hl with | [_, _], _ => rfl)
      (case a => k_is); (case l => k_is); (case c => k_is); (case k => k_is)
    case d13 =>
      refine' CZ.def_at KX G ?a ?l ?c ?k (fun _ _ _ _ _ _ us hl => match us, hl with | [_, _], _ => rfl)
      (case a => k_is); (case l => k_is); (case c => k_is); (case k => k_is)
    case d14 =>
      refine' CZ.def_at KX G ?a ?l ?c ?k (fun _ _ _ _ _ _ us hl => match us, hl with | [_, _], _ => rfl)
      (case a => k_is); (case l => k_is); (case c => k_is); (case k => k_is)
    case d16 =>
      refine' CZ.def_at KX G ?a ?l ?c ?k (fun _ _ _ _ _ _ us hl => match us, hl with | [_, _], _ => rfl)
      (case a => k_is); (case l => k_is); (case c => k_is); (case k => k_is)
    case d17 =>
      refine' CZ.def_at KX G ?a ?l ?c ?k (fun _ _ _ _ _ _ us hl => match us, hl with | [_, _], _ => rfl)
      (case a => k_is); (case l => k_is); (case c => k_is); (case k => k_is)
    case d18 =>
      refine' CZ.def_at KX G ?a ?l ?c ?k (fun _ _ _ _ _ _ us hl => match us, hl with | [_, _], _ => rfl)
      (case a => k_is); (case l => k_is); (case c => k_is); (case k => k_is)
    case d19 =>
      refine' CZ.def_at KX G ?a ?l ?c ?k (fun _ _ _ _ _ _ us hl => match us, hl with | [_], _ => rfl)
      (case a => k_is); (case l => k_is); (case c => k_is); (case k => k_is)
    case d20 =>
      refine' CZ.def_at KX G ?a ?l ?c ?k (fun _ _ _ _ _ _ us hl => match us, hl with | [_, _], _ => rfl)
      (case a => k_is); (case l => k_is); (case c => k_is); (case k => k_is)
    case d21 =>
      refine' CZ.def_at KX G ?a ?l ?c ?k (fun _ _ _ _ _ _ us hl => match us, hl with | [_, _], _ => rfl)
      (case a => k_is); (case l => k_is); (case c => k_is); (case k => k_is)
    case d22 =>
      refine' CZ.def_at KX G ?a ?l ?c ?k (fun _ _ _ _ _ _ us hl => match us, hl with | [_, _], _ => rfl)
      (case a => k_is); (case l => k_is); (case c => k_is); (case k => k_is)
    case d23 =>
      refine' CZ.def_at KX G ?a ?l ?c ?k (fun _ _ _ _ _ _ us hl => match us, hl with | [_], _ => rfl)
      (case a => k_is); (case l => k_is); (case c => k_is); (case k => k_is)
    case d25 =>
      refine' CZ.def_at KX G ?a ?l ?c ?k (fun _ _ _ _ _ _ us hl => match us, hl with | [_, _], _ => rfl)
      (case a => k_is); (case l => k_is); (case c => k_is); (case k => k_is)
    case d26 =>
      refine' CZ.def_at KX G ?a ?l ?c ?k (fun _ _ _ _ _ _ us hl => match us, hl with | [_, _, _], _ => rfl)
      (case a => k_is); (case l => k_is); (case c => k_is); (case k => k_is)
    case d27 =>
      refine' CZ.def_at KX G ?a ?l ?c ?k (fun _ _ _ _ _ _ us hl => match us, hl with | [_, _, _, _], _ => rfl)
      (case a => k_is); (case l => k_is); (case c => k_is); (case k => k_is)
    case d29 =>
      refine' CZ.def_at KX G ?a ?l ?c ?k (fun _ _ _ _ _ _ us hl => match us, hl with | [_], _ => rfl)
      (case a => k_is); (case l => k_is); (case c => k_is); (case k => k_is)
    case d30 =>
      refine' CZ.def_at KX G ?a ?l ?c ?k (fun _ _ _ _ _ _ us hl => match us, hl with | [_, _], _ => rfl)
      (case a => k_is); (case l => k_is); (case c => k_is); (case k => k_is)
    case d31 =>
      refine' CZ.def_at KX G ?a ?l ?c ?k (fun _ _ _ _ _ _ us hl => match us, hl with | [_, _], _ => rfl)
      (case a => k_is); (case l => k_is); (case c => k_is); (case k => k_is)
    case d32 =>
      refine' CZ.def_at KX G ?a ?l ?c ?k (fun _ _ _ _ _ _ us hl => match us, hl with | [_, _], _ => rfl)
      (case a => k_is); (case l => k_is); (case c => k_is); (case k => k_is)
    case d33 =>
      refine' CZ.def_at KX G ?a ?l ?c ?k (fun _ _ _ _ _ _ us hl => match us, hl with | [_, _], _ => rfl)
      (case a => k_is); (case l => k_is); (case c => k_is); (case k => k_is)
    case d35 =>
      refine' CZ.def_at KX G ?a ?l ?c ?k (fun _ _ _ _ _ _ us hl => match us, hl with | [_, _], _ => rfl)
      (case a => k_is); (case l => k_is); (case c => k_is); (case k => k_is)
    case d37 =>
      refine' CZ.def_at KX G ?a ?l ?c ?k (fun _ _ _ _ _ _ us hl => match us, hl with | [_], _ => rfl)
      (case a => k_is); (case l => k_is); (case c => k_is); (case k => k_is)
    case d38 =>
      refine' CZ.def_at KX G ?a ?l ?c ?k (fun _ _ _ _ _ _ us hl => match us, hl with | [_, _, _, _], _ => rfl)
      (case a => k_is); (case l => k_is); (case c => k_is); (case k => k_is)
    case d39 =>
      refine' CZ.def_at KX G ?a ?l ?c ?k (fun _ _ _ _ _ _ us hl => match us, hl with | [_], _ => rfl)
      (case a => k_is); (case l => k_is); (case c => k_is); (case k => k_is)
    case d40 =>
      refine' CZ.def_at KX G ?a ?l ?c ?k (fun _ _ _ _ _ _ us hl => match us, hl with | [_, _], _ => rfl)
      (case a => k_is); (case l => k_is); (case c => k_is); (case k => k_is)
    case d42 =>
      refine' CZ.def_at KX G ?a ?l ?c ?k (fun _ _ _ _ _ _ us hl => match us, hl with | [_, _], _ => rfl)
      (case a => k_is); (case l => k_is); (case c => k_is); (case k => k_is)
    case d43 =>
      refine' CZ.def_at KX G ?a ?l ?c ?k (fun _ _ _ _ _ _ us hl => match us, hl with | [_, _], _ => rfl)
      (case a => k_is); (case l => k_is); (case c => k_is); (case k => k_is)
    case d44 =>
      refine' CZ.def_at KX G ?a ?l ?c ?k (fun _ _ _ _ _ _ us hl => match us, hl with | [_, _, _], _ => rfl)
      (case a => k_is); (case l => k_is); (case c => k_is); (case k => k_is)
    case d45 =>
      refine' CZ.def_at KX G ?a ?l ?c ?k (fun _ _ _ _ _ _ us hl => match us, hl with | [_, _, _, _], _ => rfl)
      (case a => k_is); (case l => k_is); (case c => k_is); (case k => k_is)
    case d46 =>
      refine' CZ.def_at KX G ?a ?l ?c ?k (fun _ _ _ _ _ _ us hl => match us, hl with | [_, _], _ => rfl)
      (case a => k_is); (case l => k_is); (case c => k_is); (case k => k_is)
    case d47 =>
      refine' CZ.def_at KX G ?a ?l ?c ?k (fun _ _ _ _ _ _ us hl => match us, hl with | [_, _, _, _], _ => rfl)
      (case a => k_is); (case l => k_is); (case c => k_is); (case k => k_is)
    case cN =>
      refine' CZ.cst_at KX G ?a ?l
      (case a => k_is); (case l => k_is)
    case cO =>
      refine' CZ.cst_at KX G ?a ?l
      (case a => k_is); (case l => k_is)
    case T =>
      refine' CZ.err_mk KX G ?aC ?aZ ?xC ?sa ?eC ?tC ?kC ?rd ?ga ?vi ?iC ?tI ?nW ?isC ?sC
      (case aC => first | k_is | rfl); (case aZ => first | k_is | rfl); (case xC => first | k_is | rfl); (case sa => first | k_is | rfl); (case eC => first | k_is | rfl); (case tC => first | k_is | rfl); (case kC => first | k_is | rfl); (case rd => first | k_is | rfl); (case ga => first | k_is | rfl); (case vi => first | k_is | rfl); (case iC => first | k_is | rfl); (case tI => first | k_is | rfl); (case nW => first | k_is | rfl); (case isC => first | k_is | rfl); (case sC => first | k_is | rfl)
    (case lI => k_is)
    (case qI => k_is)
    (case kI => k_is)
    (case aL => k_is)
    (case lL => k_is)
    (case qL => k_is)
    (case kL => k_is)
    (case b_abs => k_is)
    (case b_all => k_is)
    (case b_bool => k_is)
    (case b_dict => k_is)
    (case b_int => k_is)
    (case b_isinstance => k_is)
    (case b_len => k_is)
    (case b_range => k_is)
    (case b_sorted => k_is)
    (case b_tuple => k_is)
    (case b_zip => k_is)
