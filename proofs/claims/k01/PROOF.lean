import PyProof.Rows.All
import Wide.All
import OpenK.AllK
import Wide.FinOn
import HandS.ForMost
import HandS.TupAny
import HandS.Wide
import HandS.Gcd
import HandS.IsInst
import HandS.Rev
import HandS.Style
import HandS.Flow
import HandS.Defaults
import PyProof.ListMulRoad
import PyProof.FactsAll.tuple_2
import KE.GoesMore
import KE.GoesEnum
import HandS.HeadEnd
import HandS.TupMul
import HandS.Deep
import PySem.Challenge.RW_wayorring_k01_twelve_digits
import KE.KStateDown
import HandS.Head0
import HandS.Head1
import HandS.Head2
import HandS.HeadHook1
import HandS.HeadHook2
import HandS.HeadHook3
import HandS.HeadHook4
set_option Elab.async false
set_option linter.all false
set_option maxRecDepth 100000
set_option maxHeartbeats 4000000
namespace M
/-- below 2^n -/
def Bd (n : Nat) (i : Int) : Prop := i.natAbs < 2 ^ n
theorem Bd.mono {n m : Nat} {i : Int} (h : Bd n i) (e : n ≤ m) : Bd m i := Nat.lt_of_lt_of_le h (Nat.pow_le_pow_right (by decide) e)
theorem Bd.mul {n m : Nat} {i j : Int} (h : Bd n i) (k : Bd m j) : Bd (n + m) (i * j) := by
  unfold Bd
  rw [Int.natAbs_mul, Nat.pow_add]
  exact Nat.mul_lt_mul'' h k
theorem Bd.add {n : Nat} {i j : Int} (h : Bd n i) (k : Bd n j) : Bd (n + 1) (i + j) := by
  unfold Bd at *
  rw [Nat.pow_succ]
  omega
theorem Bd.neg {n : Nat} {i : Int} (h : Bd n i) : Bd n (-i) := by unfold Bd at *; rwa [Int.natAbs_neg]
theorem Bd.sub {n : Nat} {i j : Int} (h : Bd n i) (k : Bd n j) : Bd (n + 1) (i - j) := by
  rw [Int.sub_eq_add_neg]; exact h.add k.neg
theorem Bd.le {n : Nat} {i j : Int} (h : Bd n i) (k : j.natAbs ≤ i.natAbs) : Bd n j := Nat.lt_of_le_of_lt k h
theorem Bd.zero {n : Nat} : Bd n 0 := Nat.pow_pos (by decide)
theorem Bd.log {n : Nat} {i : Int} (h : Bd n i) : i.natAbs.log2 ≤ n := by
  by_cases e : i.natAbs = 0
  · rw [e, Nat.log2_zero]; exact Nat.zero_le _
  · exact Nat.le_of_lt ((Nat.log2_lt e).2 h)
end M
namespace M
/-! ### integer polynomials as lists, low powers first -/
def ev : List Int → Int → Int
  | [], _ => 0
  | a :: p, x => a + x * ev p x
def addL : List Int → List Int → List Int
  | [], q => q
  | a :: p, [] => a :: p
  | a :: p, b :: q => (a + b) :: addL p q
def mulL : List Int → List Int → List Int
  | [], _ => []
  | a :: p, q => addL (q.map (a * ·)) (0 :: mulL p q)
@[simp] theorem ev_nil {x : Int} : ev [] x = 0 := rfl
@[simp] theorem ev_cons {a x : Int} {p : List Int} : ev (a :: p) x = a + x * ev p x := rfl
theorem ev_addL {x : Int} : ∀ {p q : List Int}, ev (addL p q) x = ev p x + ev q x
  | [], q => by simp [addL]
  | a :: p, [] => by simp [addL]
  | a :: p, b :: q => by simp only [addL, ev_cons, ev_addL]; grind
theorem ev_scale {k x : Int} : ∀ {p : List Int}, ev (p.map (k * ·)) x = k * ev p x
  | [] => by simp
  | a :: p => by simp only [List.map_cons, ev_cons, ev_scale]; grind
theorem ev_scaleR {k x : Int} : ∀ {p : List Int}, ev (p.map (· * k)) x = k * ev p x
  | [] => by simp
  | a :: p => by simp only [List.map_cons, ev_cons, ev_scaleR]; grind
theorem ev_mulL {x : Int} : ∀ {p q : List Int}, ev (mulL p q) x = ev p x * ev q x
  | [], q => by simp [mulL]
  | a :: p, q => by simp only [mulL, ev_addL, ev_scale, ev_cons, ev_mulL]; grind
theorem ev_app {x : Int} : ∀ {p q : List Int}, ev (p ++ q) x = ev p x + x ^ p.length * ev q x
  | [], q => by simp
  | a :: p, q => by simp only [List.cons_append, ev_cons, ev_app, List.length_cons]; grind
theorem ev_zeros {x : Int} : ∀ {n : Nat}, ev (List.replicate n 0) x = 0
  | 0 => rfl
  | n + 1 => by simp only [List.replicate_succ, ev_cons, ev_zeros]; grind
theorem ev_set {x c : Int} : ∀ {p : List Int} {i : Nat} {d : Int}, p[i]? = some d → ev (p.set i c) x = ev p x + (c - d) * x ^ i
  | [], i, d, h => by simp at h
  | a :: p, 0, d, h => by simp at h; subst h; simp only [List.set_cons_zero, ev_cons]; grind
  | a :: p, i + 1, d, h => by
    simp only [List.getElem?_cons_succ] at h
    simp only [List.set_cons_succ, ev_cons, ev_set h]
    grind
theorem len_addL : ∀ {p q : List Int}, (addL p q).length = max p.length q.length
  | [], q => by simp [addL]
  | a :: p, [] => by simp [addL]
  | a :: p, b :: q => by simp only [addL, List.length_cons, len_addL]; omega
/-! ### trimmed -/
def Tr (p : List Int) : Prop := p.getLast? ≠ some 0
theorem Tr.nil : Tr [] := by simp [Tr]
theorem tr_snoc {p : List Int} {c : Int} : Tr (p ++ [c]) ↔ c ≠ 0 := by simp [Tr]
theorem tr_cons {p : List Int} {c : Int} (h : p ≠ []) : Tr (c :: p) ↔ Tr p := by
  cases p with
  | nil => exact absurd rfl h
  | cons a p => simp [Tr]
def trim : List Int → List Int
  | [] => []
  | a :: p => if trim p = [] ∧ a = 0 then [] else a :: trim p
theorem ev_trim {x : Int} : ∀ {p : List Int}, ev (trim p) x = ev p x
  | [] => rfl
  | a :: p => by
    unfold trim
    split
    · rename_i h
      have := @ev_trim x p
      rw [h.1] at this
      rw [ev_cons, ← this, h.2]; simp
    · rw [ev_cons, ev_trim, ev_cons]
theorem tr_trim : ∀ {p : List Int}, Tr (trim p)
  | [] => Tr.nil
  | a :: p => by
    unfold trim
    split
    · exact Tr.nil
    · rename_i h
      by_cases e : trim p = []
      · rw [e]
        have : a ≠ 0 := fun z => h ⟨e, z⟩
        simpa [Tr] using this
      · exact (tr_cons e).2 tr_trim
theorem len_trim : ∀ {p : List Int}, (trim p).length ≤ p.length
  | [] => Nat.le_refl _
  | a :: p => by
    unfold trim
    split
    · simp
    · simp only [List.length_cons]
      have := @len_trim p
      omega
theorem mem_trim {c : Int} : ∀ {p : List Int}, c ∈ trim p → c ∈ p
  | [], h => h
  | a :: p, h => by
    unfold trim at h
    split at h
    · simp at h
    · rcases List.mem_cons.mp h with h | h
      · rw [h]; simp
      · exact List.mem_cons_of_mem _ (mem_trim h)
/-! ### a polynomial is told by its values -/
theorem zero_of {p : List Int} : (∀ x : Int, x ≠ 0 → ev p x = 0) → ∀ c ∈ p, c = 0 := by
  induction p with
  | nil => intro _ c h; simp at h
  | cons a p ih =>
    intro h
    have ha : a = 0 := by
      have h1 := h (a.natAbs + 1 : Int) (by omega)
      have d : (a.natAbs + 1 : Int) ∣ a := ⟨-(ev p (a.natAbs + 1)), by rw [ev_cons] at h1; grind⟩
      by_cases z : a = 0
      · exact z
      · have := Int.le_of_dvd (by omega) (Int.dvd_natAbs.mpr d)
        omega
    subst ha
    intro c hc
    rcases List.mem_cons.mp hc with h2 | h2
    · exact h2
    · refine ih (fun x hx => ?_) c h2
      have := h x hx
      rw [ev_cons, Int.zero_add] at this
      exact (Int.mul_eq_zero.mp this).resolve_left hx
theorem tr_zero {p : List Int} (t : Tr p) (h : ∀ c ∈ p, c = 0) : p = [] := by
  rcases List.eq_nil_or_concat p with e | ⟨q, c, e⟩
  · exact e
  · rw [List.concat_eq_append] at e
    subst e
    exact absurd (h c (by simp)) (tr_snoc.mp t)
theorem tr_ev0 {p : List Int} (t : Tr p) (h : ∀ x : Int, x ≠ 0 → ev p x = 0) : p = [] := tr_zero t (zero_of h)
theorem addL_neg_eq : ∀ {p q : List Int}, p.length = q.length → (∀ c ∈ addL p (q.map (-1 * ·)), c = 0) → p = q
  | [], [], _, _ => rfl
  | a :: p, b :: q, hl, h => by
    simp only [List.map_cons, addL, List.mem_cons, forall_eq_or_imp] at h
    rw [addL_neg_eq (by simpa using hl) h.2]
    have := h.1
    congr 1
    omega
  | [], _ :: _, hl, _ => by simp at hl
  | _ :: _, [], hl, _ => by simp at hl
theorem ev_inj {p q : List Int} (tp : Tr p) (tq : Tr q) (h : ∀ x : Int, x ≠ 0 → ev p x = ev q x) : p = q := by
  have hz : ∀ c ∈ addL p (q.map (-1 * ·)), c = 0 := zero_of fun x hx => by rw [ev_addL, ev_scale, h x hx]; omega
  by_cases e : p.length = q.length
  · exact addL_neg_eq e hz
  · exfalso
    have key : ∀ {p q : List Int}, p.length < q.length → Tr q → (∀ c ∈ addL p q, c = 0) → False := by
      intro p
      induction p with
      | nil =>
        intro q hl t h
        have := tr_zero t (by simpa [addL] using h)
        subst this; simp at hl
      | cons a p ih =>
        intro q hl t h
        cases q with
        | nil => simp at hl
        | cons b q =>
          simp only [addL, List.mem_cons, forall_eq_or_imp] at h
          have hl' : p.length < q.length := by simpa using hl
          exact ih hl' ((tr_cons (by intro z; subst z; simp at hl')).mp t) h.2
    have key2 : ∀ {p q : List Int}, q.length < p.length → Tr p → (∀ c ∈ addL p q, c = 0) → False := by
      intro p
      induction p with
      | nil => intro q hl; simp at hl
      | cons a p ih =>
        intro q hl t h
        cases q with
        | nil =>
          have := tr_zero t (by simpa [addL] using h)
          simp at this
        | cons b q =>
          simp only [addL, List.mem_cons, forall_eq_or_imp] at h
          have hl' : q.length < p.length := by simpa using hl
          exact ih hl' ((tr_cons (by intro z; subst z; simp at hl')).mp t) h.2
    have tn : Tr (q.map (-1 * ·)) := by
      unfold Tr at tq ⊢
      rw [List.getLast?_map]
      cases hq : q.getLast? with
      | none => simp
      | some c => rw [hq] at tq; simp at tq ⊢; omega
    rcases Nat.lt_or_gt_of_ne e with l | l
    · exact key (by simpa using l) tn hz
    · exact key2 (by simpa using l) tp hz
theorem trim_tr {p : List Int} (t : Tr p) : trim p = p := ev_inj tr_trim t fun _ _ => ev_trim
theorem trim_eq {p q : List Int} (t : Tr q) (h : ∀ x : Int, x ≠ 0 → ev p x = ev q x) : trim p = q := ev_inj tr_trim t fun x hx => by rw [ev_trim]; exact h x hx
/-! ### products -/
theorem addL_snoc : ∀ {p q : List Int} {c : Int}, p.length ≤ q.length → addL p (q ++ [c]) = addL p q ++ [c]
  | [], q, c, _ => by simp [addL]
  | a :: p, [], c, h => by simp at h
  | a :: p, b :: q, c, h => by simp only [List.cons_append, addL]; rw [addL_snoc (by simpa using h)]
theorem mul_snoc : ∀ {p q : List Int} {a b : Int}, ∃ r, mulL (p ++ [a]) (q ++ [b]) = r ++ [a * b] ∧ r.length = p.length + q.length
  | [], q, a, b => by
    simp only [List.nil_append, mulL]
    refine ⟨q.map (a * ·), ?_, by simp⟩
    cases q with
    | nil => simp [addL]
    | cons c q =>
      simp only [List.cons_append, List.map_cons, List.map_append, List.map_nil, addL]
      congr 1
      · omega
      · cases q <;> simp [addL]
  | e :: p, q, a, b => by
    obtain ⟨r, h1, h2⟩ := @mul_snoc p q a b
    simp only [List.cons_append, mulL, h1]
    refine ⟨addL ((q ++ [b]).map (e * ·)) (0 :: r), ?_, ?_⟩
    · rw [← List.cons_append, addL_snoc]
      simp; omega
    · rw [len_addL]; simp; omega
theorem tr_mul {p q : List Int} (hp : Tr p) (hq : Tr q) (nq : q ≠ []) : Tr (mulL p q) := by
  rcases List.eq_nil_or_concat p with e | ⟨p', a, e⟩
  · subst e; exact Tr.nil
  obtain ⟨q', b, e2⟩ := (List.eq_nil_or_concat q).resolve_left nq
  rw [List.concat_eq_append] at e e2
  subst e; subst e2
  obtain ⟨r, h, _⟩ := @mul_snoc p' q' a b
  rw [h, tr_snoc]
  exact Int.mul_ne_zero (tr_snoc.mp hp) (tr_snoc.mp hq)
theorem len_mul {p q r : List Int} (hp : Tr p) (hq : Tr q) (hr : Tr r) (np : p ≠ []) (nq : q ≠ []) (h : ∀ x : Int, x ≠ 0 → ev r x = ev p x * ev q x) : r.length + 1 = p.length + q.length := by
  obtain ⟨p', a, rfl⟩ := (List.eq_nil_or_concat p).resolve_left np
  obtain ⟨q', b, rfl⟩ := (List.eq_nil_or_concat q).resolve_left nq
  rw [List.concat_eq_append] at *
  rw [List.concat_eq_append] at *
  obtain ⟨s, e, l⟩ := @mul_snoc p' q' a b
  have : r = s ++ [a * b] := ev_inj hr (tr_snoc.mpr (Int.mul_ne_zero (tr_snoc.mp hp) (tr_snoc.mp hq))) fun x hx => by rw [h x hx, ← e, ev_mulL]
  subst this
  simp; omega
end M
namespace M
theorem nat_dvd {d : Nat} {c : Int} : ((d : Int) ∣ c) ↔ d ∣ c.natAbs := by
  rw [← Int.natAbs_dvd_natAbs, Int.natAbs_natCast]
/-! ### content -/
def gcdL (p : List Int) : Nat := p.foldl (fun g c => Nat.gcd g c.natAbs) 0
theorem gcdF_dvd : ∀ {p : List Int} {g : Nat}, (p.foldl (fun g c => Nat.gcd g c.natAbs) g) ∣ g ∧ ∀ c ∈ p, ((p.foldl (fun g c => Nat.gcd g c.natAbs) g : Nat) : Int) ∣ c
  | [], g => ⟨Nat.dvd_refl _, fun c h => by simp at h⟩
  | a :: p, g => by
    obtain ⟨h1, h2⟩ := @gcdF_dvd p (Nat.gcd g a.natAbs)
    refine ⟨Nat.dvd_trans h1 (Nat.gcd_dvd_left ..), fun c hc => ?_⟩
    rcases List.mem_cons.mp hc with h | h
    · subst h
      exact nat_dvd.mpr (Nat.dvd_trans h1 (Nat.gcd_dvd_right ..))
    · exact h2 c h
theorem dvd_gcdF {d : Nat} : ∀ {p : List Int} {g : Nat}, d ∣ g → (∀ c ∈ p, (d : Int) ∣ c) → d ∣ p.foldl (fun g c => Nat.gcd g c.natAbs) g
  | [], g, h, _ => h
  | a :: p, g, h, k => dvd_gcdF (p := p) (Nat.dvd_gcd h (nat_dvd.mp (k a (by simp)))) fun c hc => k c (List.mem_cons_of_mem _ hc)
theorem gcdL_dvd {p : List Int} {c : Int} (h : c ∈ p) : (gcdL p : Int) ∣ c := gcdF_dvd.2 c h
theorem dvd_gcdL {p : List Int} {d : Nat} (h : ∀ c ∈ p, (d : Int) ∣ c) : d ∣ gcdL p := dvd_gcdF (Nat.dvd_zero d) h
/-! ### primitive, with a positive lead -/
def lead (p : List Int) : Int := p.getLast?.getD 0
theorem lead_snoc {p : List Int} {c : Int} : lead (p ++ [c]) = c := by simp [lead]
theorem lead_mem {p : List Int} (h : p ≠ []) : lead p ∈ p := by
  obtain ⟨q, c, rfl⟩ := (List.eq_nil_or_concat p).resolve_left h
  rw [List.concat_eq_append, lead_snoc]; simp
theorem lead_ne {p : List Int} (t : Tr p) (h : p ≠ []) : lead p ≠ 0 := by
  obtain ⟨q, c, rfl⟩ := (List.eq_nil_or_concat p).resolve_left h
  rw [List.concat_eq_append] at *
  rw [lead_snoc]; exact tr_snoc.mp t
structure PP (p : List Int) : Prop where
  tr : Tr p
  pr : gcdL p = 1
  pos : 0 < lead p
theorem PP.ne {p : List Int} (h : PP p) : p ≠ [] := by
  intro z; subst z; have := h.pos; simp [lead] at this
theorem lead_scale {k : Int} {p : List Int} (h : p ≠ []) : lead (p.map (k * ·)) = k * lead p := by
  obtain ⟨q, c, rfl⟩ := (List.eq_nil_or_concat p).resolve_left h
  rw [List.concat_eq_append, List.map_append, List.map_cons, List.map_nil, lead_snoc, lead_snoc]
theorem tr_of_lead {p : List Int} (h : lead p ≠ 0) : Tr p := by
  intro z; apply h; simp [lead, z]
theorem tr_scale {k : Int} {p : List Int} (hk : k ≠ 0) (t : Tr p) : Tr (p.map (k * ·)) := by
  by_cases e : p = []
  · subst e; exact Tr.nil
  · exact tr_of_lead (by rw [lead_scale e]; exact Int.mul_ne_zero hk (lead_ne t e))
theorem gcdL_scale {k : Int} {p : List Int} (h : gcdL p = 1) : gcdL (p.map (k * ·)) = k.natAbs := by
  apply Nat.dvd_antisymm
  · by_cases hk : k = 0
    · subst hk; exact Nat.dvd_zero _
    have h1 : k.natAbs ∣ gcdL (p.map (k * ·)) := dvd_gcdL fun c hc => by
      obtain ⟨b, _, rfl⟩ := List.mem_map.mp hc
      exact nat_dvd.mpr (by rw [Int.natAbs_mul]; exact Nat.dvd_mul_right ..)
    obtain ⟨m, hm⟩ := h1
    have hpos : 0 < k.natAbs := by omega
    have : m ∣ gcdL p := dvd_gcdL fun c hc => by
      have h2 := gcdL_dvd (p := p.map (k * ·)) (List.mem_map.mpr ⟨c, hc, rfl⟩)
      rw [hm] at h2
      have h3 := nat_dvd.mp h2
      rw [Int.natAbs_mul] at h3
      exact nat_dvd.mpr (Nat.dvd_of_mul_dvd_mul_left hpos h3)
    rw [h] at this
    rw [hm, Nat.dvd_one.mp this, Nat.mul_one]; exact Nat.dvd_refl _
  · exact dvd_gcdL fun c hc => by
      obtain ⟨b, _, rfl⟩ := List.mem_map.mp hc
      exact nat_dvd.mpr (by rw [Int.natAbs_mul]; exact Nat.dvd_mul_right ..)
theorem map_inj {k : Int} (hk : k ≠ 0) : ∀ {p q : List Int}, p.map (k * ·) = q.map (k * ·) → p = q
  | [], [], _ => rfl
  | a :: p, b :: q, h => by
    simp only [List.map_cons, List.cons.injEq] at h
    rw [map_inj hk h.2, Int.eq_of_mul_eq_mul_left hk h.1]
  | [], _ :: _, h => by simp at h
  | _ :: _, [], h => by simp at h
theorem pp_uniq {p q : List Int} {c d : Int} (hp : PP p) (hq : PP q) (hc : c ≠ 0) (hd : d ≠ 0) (h : ∀ x : Int, x ≠ 0 → c * ev p x = d * ev q x) : p = q := by
  have e : p.map (c * ·) = q.map (d * ·) := ev_inj (tr_scale hc hp.tr) (tr_scale hd hq.tr) fun x hx => by rw [ev_scale, ev_scale]; exact h x hx
  have h1 : c.natAbs = d.natAbs := by rw [← gcdL_scale hp.pr, ← gcdL_scale hq.pr, e]
  have h2 : c * lead p = d * lead q := by rw [← lead_scale hp.ne, ← lead_scale hq.ne, e]
  have h3 : c = d := by
    have a := hp.pos
    have b := hq.pos
    rcases Int.lt_or_gt_of_ne hc with c1 | c1 <;> rcases Int.lt_or_gt_of_ne hd with d1 | d1
    · omega
    · have := Int.mul_neg_of_neg_of_pos c1 a
      have := Int.mul_pos d1 b
      omega
    · have := Int.mul_neg_of_neg_of_pos d1 b
      have := Int.mul_pos c1 a
      omega
    · omega
  subst h3
  exact map_inj hc e
theorem pp_of {p : List Int} (t : Tr p) (h : p ≠ []) : ∃ r k, PP r ∧ k ≠ 0 ∧ k.natAbs = gcdL p ∧ (0 < k ↔ 0 < lead p) ∧ p = r.map (k * ·) := by
  have hl := lead_ne t h
  have hg : gcdL p ≠ 0 := fun z => by
    have := gcdL_dvd (lead_mem h)
    rw [z] at this
    exact hl (Int.zero_dvd.mp this)
  have main : ∀ k : Int, k.natAbs = gcdL p → (0 < k ↔ 0 < lead p) → ∃ r k, PP r ∧ k ≠ 0 ∧ k.natAbs = gcdL p ∧ (0 < k ↔ 0 < lead p) ∧ p = r.map (k * ·) := by
    intro k hk hs
    have k0 : k ≠ 0 := by omega
    have hd : ∀ c ∈ p, k ∣ c := fun c hc => Int.natAbs_dvd.mp (by rw [hk]; exact gcdL_dvd hc)
    have e : p = (p.map (· / k)).map (k * ·) := by
      rw [List.map_map]
      conv => lhs; rw [← List.map_id p]
      exact List.map_congr_left fun c hc => (Int.mul_ediv_cancel' (hd c hc)).symm
    have hne : p.map (· / k) ≠ [] := by simpa using h
    have el : lead p = k * lead (p.map (· / k)) := by
      conv => lhs; rw [e]
      exact lead_scale hne
    refine ⟨p.map (· / k), k, ⟨tr_of_lead fun z => hl (by rw [el, z, Int.mul_zero]), ?_, ?_⟩, k0, hk, hs, e⟩
    · have : gcdL p * gcdL (p.map (· / k)) ∣ gcdL p * 1 := by
        rw [Nat.mul_one]
        exact dvd_gcdL fun c hc => by
          have h1 := gcdL_dvd (p := p.map (· / k)) (List.mem_map.mpr ⟨c, hc, rfl⟩)
          obtain ⟨z, hz⟩ := h1
          have h2 := Int.mul_ediv_cancel' (hd c hc)
          refine nat_dvd.mpr ?_
          rw [← h2, Int.natAbs_mul, hk]
          exact Nat.mul_dvd_mul_left _ (nat_dvd.mp ⟨z, hz⟩)
      exact Nat.dvd_one.mp (Nat.dvd_of_mul_dvd_mul_left (by omega) this)
    · rcases Int.lt_or_gt_of_ne k0 with a | a
      · have : ¬ 0 < lead p := fun z => by have := hs.mpr z; omega
        have h3 : lead p < 0 := by omega
        rw [el] at h3
        rcases Int.lt_or_le 0 (lead (p.map (· / k))) with b | b
        · exact b
        · have := Int.mul_nonneg_of_nonpos_of_nonpos (by omega : k ≤ 0) b
          omega
      · have h3 := hs.mp a
        rw [el] at h3
        exact Int.pos_of_mul_pos_right h3 (by omega)
  by_cases s : 0 < lead p
  · exact main (gcdL p) (by simp) ⟨fun _ => s, fun _ => by omega⟩
  · exact main (-(gcdL p : Int)) (by simp) ⟨fun z => by omega, fun z => absurd z s⟩
end M
namespace M
/-! ### a linear factor keeps primitivity -/
/-- (a + b x) p(x) + e, by coefficients -/
def linL (a b : Int) : Int → List Int → List Int
  | e, [] => [e]
  | e, c :: p => (e + a * c) :: linL a b (b * c) p
theorem ev_linL {a b x : Int} : ∀ {p : List Int} {e : Int}, ev (linL a b e p) x = e + (a + b * x) * ev p x
  | [], e => by simp [linL]
  | c :: p, e => by simp only [linL, ev_cons, ev_linL]; grind
theorem linL_low {a b : Int} {d : Nat} : ∀ {p : List Int} {e : Int} {k : Nat}, (∀ c ∈ linL a b e p, (d : Int) ∣ c) → (d : Int) ∣ a ^ k * e → ∀ c ∈ p, (d : Int) ∣ a ^ (k + p.length) * c
  | [], e, k, _, _, c, hc => by simp at hc
  | q :: p, e, k, h, he, c, hc => by
    simp only [linL, List.mem_cons, forall_eq_or_imp] at h
    have h1 : (d : Int) ∣ a ^ (k + 1) * q := by
      have h2 := Int.dvd_mul_of_dvd_right (a := (d : Int)) (b := a ^ k) h.1
      rw [Int.mul_add] at h2
      have h3 := (Int.dvd_add_right he).mp h2
      rw [Int.pow_succ, Int.mul_assoc]; exact h3
    rcases List.mem_cons.mp hc with z | z
    · subst z
      obtain ⟨w, hw⟩ := h1
      exact ⟨a ^ p.length * w, by rw [List.length_cons, show k + (p.length + 1) = (k + 1) + p.length by omega, Int.pow_add]; grind⟩
    · have := linL_low h.2 (k := k + 1) (by obtain ⟨w, hw⟩ := h1; exact ⟨b * w, by grind⟩) c z
      rw [List.length_cons, show k + (p.length + 1) = (k + 1) + p.length by omega]; exact this
theorem linL_high {a b : Int} {d : Nat} : ∀ {p : List Int} {e : Int}, (∀ c ∈ linL a b e p, (d : Int) ∣ c) → (d : Int) ∣ b ^ p.length * e ∧ ∀ c ∈ p, (d : Int) ∣ b ^ p.length * c
  | [], e, h => by simp [linL] at h ⊢; exact h
  | q :: p, e, h => by
    simp only [linL, List.mem_cons, forall_eq_or_imp] at h
    obtain ⟨h1, h2⟩ := linL_high h.2
    have h3 : (d : Int) ∣ b ^ (p.length + 1) * q := by rw [Int.pow_succ, Int.mul_assoc]; exact h1
    refine ⟨?_, fun c hc => ?_⟩
    · obtain ⟨w, hw⟩ := h3
      obtain ⟨u, hu⟩ := h.1
      exact ⟨b ^ (p.length + 1) * u - a * w, by rw [List.length_cons]; grind⟩
    · rw [List.length_cons]
      rcases List.mem_cons.mp hc with z | z
      · rw [z]; exact h3
      · obtain ⟨w, hw⟩ := h2 c z
        exact ⟨b * w, by grind⟩
theorem dvd_cop {a b c : Int} {d m : Nat} (h : Int.gcd a b = 1) (h1 : (d : Int) ∣ a ^ m * c) (h2 : (d : Int) ∣ b ^ m * c) : (d : Int) ∣ c := by
  rw [nat_dvd, Int.natAbs_mul, Int.natAbs_pow] at *
  have h3 : d ∣ Nat.gcd (a.natAbs ^ m * c.natAbs) (b.natAbs ^ m * c.natAbs) := Nat.dvd_gcd h1 h2
  rw [Nat.gcd_mul_right] at h3
  have h4 : Nat.gcd (a.natAbs ^ m) (b.natAbs ^ m) = 1 := Nat.Coprime.pow m m h
  rwa [h4, Nat.one_mul] at h3
theorem linL_lead {a b : Int} : ∀ {p : List Int} {e : Int}, p ≠ [] → lead (linL a b e p) = b * lead p
  | [], e, h => absurd rfl h
  | [c], e, _ => by simp [linL, lead]
  | c :: c2 :: p, e, _ => by
    have := @linL_lead a b (c2 :: p) (b * c) (by simp)
    have h1 : ∀ (z : Int) (l : List Int), l ≠ [] → lead (z :: l) = lead l := fun z l hl => by
      cases l with
      | nil => exact absurd rfl hl
      | cons y l => simp [lead]
    rw [h1 c (c2 :: p) (by simp), ← this]
    conv => lhs; unfold linL
    exact h1 _ _ (by unfold linL; simp)
theorem PP.lin {a b : Int} {p r : List Int} (h : PP p) (hg : Int.gcd a b = 1) (hb : 0 < b) (tr : Tr r) (e : ∀ x : Int, x ≠ 0 → ev r x = (a + b * x) * ev p x) : PP r := by
  have hl : lead (linL a b 0 p) = b * lead p := linL_lead h.ne
  have hp : 0 < lead (linL a b 0 p) := by rw [hl]; exact Int.mul_pos hb h.pos
  have : r = linL a b 0 p := ev_inj tr (tr_of_lead (by omega)) fun x hx => by rw [e x hx, ev_linL]; omega
  subst this
  refine ⟨tr, ?_, hp⟩
  refine Nat.dvd_one.mp ?_
  rw [← h.pr]
  have hd : ∀ c ∈ linL a b 0 p, (gcdL (linL a b 0 p) : Int) ∣ c := fun c hc => gcdL_dvd hc
  refine dvd_gcdL fun c hc => ?_
  have h1 := linL_low (k := 0) hd (by simp) c hc
  rw [Nat.zero_add] at h1
  exact dvd_cop hg h1 ((linL_high hd).2 c hc)
theorem PP.one : PP [1] := ⟨by simp [Tr], by decide, by decide⟩
theorem PP.linear {a b : Int} (hg : Int.gcd a b = 1) (hb : 0 < b) : PP [a, b] := by
  refine PP.lin PP.one hg hb (tr_of_lead (by simp [lead]; omega)) fun x _ => ?_
  simp; grind
/-! ### coprime -/
def Cop (f g : Int → Int) : Prop := ∃ (c : Int) (u v : List Int), c ≠ 0 ∧ ∀ x, ev u x * f x + ev v x * g x = c
theorem Cop.symm {f g : Int → Int} : Cop f g → Cop g f := fun ⟨c, u, v, h, e⟩ => ⟨c, v, u, h, fun x => by rw [← e x]; grind⟩
theorem Cop.const {f : Int → Int} {k : Int} (h : k ≠ 0) : Cop f (fun _ => k) := ⟨k, [], [1], h, fun x => by simp⟩
theorem Cop.mul {f g h : Int → Int} : Cop f h → Cop g h → (hf : ∃ p, ∀ x, ev p x = f x) → (hg : ∃ p, ∀ x, ev p x = g x) → (hh : ∃ p, ∀ x, ev p x = h x) → Cop (fun x => f x * g x) h :=
  fun ⟨c, u, v, n, e⟩ ⟨d, s, t, m, k⟩ ⟨pf, ef⟩ ⟨pg, eg⟩ ⟨ph, eh⟩ =>
    ⟨c * d, mulL u s, addL (mulL (mulL u pf) t) (addL (mulL (mulL v s) pg) (mulL (mulL v t) ph)), Int.mul_ne_zero n m, fun x => by
      rw [← e x, ← k x]
      simp only [ev_addL, ev_mulL, ef, eg, eh]
      grind⟩
theorem Cop.add {f g k : Int → Int} (h : Cop f g) (hk : ∃ p, ∀ x, ev p x = k x) : Cop f (fun x => g x + f x * k x) := by
  obtain ⟨c, u, v, n, e⟩ := h
  obtain ⟨p, ep⟩ := hk
  refine ⟨c, addL u ((mulL v p).map (-1 * ·)), v, n, fun x => ?_⟩
  rw [← e x]
  simp only [ev_addL, ev_scale, ev_mulL, ep]
  grind
theorem Cop.congr {f f' g g' : Int → Int} (h : Cop f g) (e1 : ∀ x, f x = f' x) (e2 : ∀ x, g x = g' x) : Cop f' g' := by
  rw [← funext e1, ← funext e2]; exact h
/-! ### the divisor that Euclid finds -/
structure Gd (g p q : List Int) : Prop where
  l : ∃ (c : Int) (a : List Int), c ≠ 0 ∧ ∀ x, c * ev p x = ev g x * ev a x
  r : ∃ (c : Int) (a : List Int), c ≠ 0 ∧ ∀ x, c * ev q x = ev g x * ev a x
  b : ∃ (c : Int) (u v : List Int), c ≠ 0 ∧ ∀ x, ev u x * ev p x + ev v x * ev q x = c * ev g x
theorem Gd.symm {g p q : List Int} (h : Gd g p q) : Gd g q p := ⟨h.r, h.l, by
  obtain ⟨c, u, v, n, e⟩ := h.b
  exact ⟨c, v, u, n, fun x => by rw [← e x]; grind⟩⟩
theorem Gd.unscaleR {g p q q' : List Int} {k : Int} (h : Gd g p q) (hk : k ≠ 0) (e : ∀ x, ev q x = k * ev q' x) : Gd g p q' := by
  obtain ⟨c, a, n, ea⟩ := h.r
  obtain ⟨d, u, v, m, eb⟩ := h.b
  refine ⟨h.l, ⟨c * k, a, Int.mul_ne_zero n hk, fun x => ?_⟩, ⟨d, u, v.map (k * ·), m, fun x => ?_⟩⟩
  · rw [← ea x, e x]; grind
  · rw [← eb x, e x, ev_scale]; grind
theorem Gd.unscaleL {g p q p' : List Int} {k : Int} (h : Gd g p q) (hk : k ≠ 0) (e : ∀ x, ev p x = k * ev p' x) : Gd g p' q := (h.symm.unscaleR hk e).symm
theorem Gd.step {g p q r quo : List Int} {m : Int} (h : Gd g p q) (hm : m ≠ 0) (e : ∀ x, m * ev p x = ev quo x * ev q x + ev r x) : Gd g q r := by
  obtain ⟨c1, a1, n1, e1⟩ := h.l
  obtain ⟨c2, a2, n2, e2⟩ := h.r
  obtain ⟨d, u, v, n3, e3⟩ := h.b
  refine ⟨h.r, ⟨c1 * c2, addL (a1.map (m * c2 * ·)) ((mulL quo a2).map (-c1 * ·)), Int.mul_ne_zero n1 n2, fun x => ?_⟩, ⟨m * d, addL (mulL u quo) (v.map (m * ·)), u, Int.mul_ne_zero hm n3, fun x => ?_⟩⟩
  · have a := e x
    have b := e1 x
    have c := e2 x
    simp only [ev_addL, ev_scale, ev_mulL]
    have : ev r x = m * ev p x - ev quo x * ev q x := by omega
    rw [this]
    have h1 : c1 * c2 * (m * ev p x - ev quo x * ev q x) = m * c2 * (c1 * ev p x) - c1 * ev quo x * (c2 * ev q x) := by grind
    rw [h1, b, c]; grind
  · have a := e x
    simp only [ev_addL, ev_scale, ev_mulL]
    have : ev r x = m * ev p x - ev quo x * ev q x := by omega
    have c := e3 x
    rw [this]
    have h1 : (ev u x * ev quo x + m * ev v x) * ev q x + ev u x * (m * ev p x - ev quo x * ev q x) = m * (ev u x * ev p x + ev v x * ev q x) := by grind
    rw [h1, c]; grind
theorem Gd.done {g p : List Int} (h : Gd g p []) (hg : PP g) (hp : PP p) : p = g := by
  obtain ⟨c, a, n, e⟩ := h.l
  obtain ⟨d, u, v, m, k⟩ := h.b
  have na : trim a ≠ [] := fun z => hp.ne (tr_ev0 hp.tr fun x _ => by
    have h1 := e x
    rw [← ev_trim (p := a), z, ev_nil, Int.mul_zero] at h1
    exact (Int.mul_eq_zero.mp h1).resolve_left n)
  have nu : trim u ≠ [] := fun z => hg.ne (tr_ev0 hg.tr fun x _ => by
    have h1 := k x
    rw [← ev_trim (p := u), z] at h1
    simp only [ev_nil] at h1
    have h2 : d * ev g x = 0 := by omega
    exact (Int.mul_eq_zero.mp h2).resolve_left m)
  have l1 := len_mul hg.tr tr_trim (tr_scale n hp.tr) hg.ne na fun x _ => by rw [ev_scale, e x, ev_trim]
  have l2 := len_mul tr_trim hp.tr (tr_scale m hg.tr) nu hp.ne fun x _ => by
    rw [ev_scale, ev_trim, ← k x, ev_nil]; omega
  rw [List.length_map] at l1 l2
  have h1 : 0 < (trim a).length := by cases h : trim a with
    | nil => exact absurd h na
    | cons _ _ => simp
  have h2 : 0 < (trim u).length := by cases h : trim u with
    | nil => exact absurd h nu
    | cons _ _ => simp
  have h3 : (trim a).length = 1 := by omega
  obtain ⟨α, hα⟩ : ∃ α, trim a = [α] := by
    cases h : trim a with
    | nil => exact absurd h na
    | cons y l => cases l with
      | nil => exact ⟨y, rfl⟩
      | cons _ _ => rw [h] at h3; simp at h3
  have hα0 : α ≠ 0 := by
    have := @tr_trim a
    rw [hα] at this
    intro z; subst z; simp [Tr] at this
  refine pp_uniq hp hg n hα0 fun x _ => ?_
  rw [e x, ← ev_trim (p := a), hα]; simp [Int.mul_comm]
theorem Gd.of {g p q a b : List Int} (ep : ∀ x, ev p x = ev g x * ev a x) (eq : ∀ x, ev q x = ev g x * ev b x) (h : Cop (ev a) (ev b)) : Gd g p q := by
  obtain ⟨c, u, v, n, e⟩ := h
  refine ⟨⟨1, a, by decide, fun x => by rw [ep]; omega⟩, ⟨1, b, by decide, fun x => by rw [eq]; omega⟩, ⟨c, u, v, n, fun x => ?_⟩⟩
  rw [ep, eq, ← e x]; grind
theorem Gd.left {p : List Int} : Gd p p [] := ⟨⟨1, [1], by decide, fun x => by simp⟩, ⟨1, [], by decide, fun x => by simp⟩, ⟨1, [1], [], by decide, fun x => by simp⟩⟩
theorem Gd.same {p : List Int} : Gd p p p := ⟨⟨1, [1], by decide, fun x => by simp⟩, ⟨1, [1], by decide, fun x => by simp⟩, ⟨1, [1], [], by decide, fun x => by simp⟩⟩
/-! ### slopes -/
def IsD (f f' : Int → Int) : Prop := ∃ E : Int → Int → Int, ∀ x h, f (x + h) = f x + h * f' x + h * h * E x h
theorem IsD.uniq {f f' g' : Int → Int} (a : IsD f f') (b : IsD f g') (x : Int) : f' x = g' x := by
  obtain ⟨E, e⟩ := a
  obtain ⟨F, k⟩ := b
  have h0 : ((f' x - g' x).natAbs : Int) + 1 ≠ 0 := by omega
  have h1 := e x ((f' x - g' x).natAbs + 1)
  rw [k x] at h1
  generalize hh : ((f' x - g' x).natAbs : Int) + 1 = h at *
  have h2 : h * (f' x - g' x) = h * (h * (F x h - E x h)) := by grind
  have h3 := Int.eq_of_mul_eq_mul_left h0 h2
  by_cases z : f' x - g' x = 0
  · omega
  · have := Int.le_of_dvd (by omega) (Int.dvd_natAbs.mpr ⟨_, h3⟩)
    omega
theorem IsD.mul {f f' g g' : Int → Int} (a : IsD f f') (b : IsD g g') : IsD (fun x => f x * g x) (fun x => f' x * g x + f x * g' x) := by
  obtain ⟨E, e⟩ := a
  obtain ⟨F, k⟩ := b
  refine ⟨fun x h => E x h * g x + f x * F x h + f' x * g' x + h * E x h * g' x + h * f' x * F x h + h * h * E x h * F x h, fun x h => ?_⟩
  simp only [e, k]; grind
theorem IsD.lin {a b : Int} : IsD (fun x => a + b * x) (fun _ => b) := ⟨fun _ _ => 0, fun x h => by grind⟩
theorem IsD.congr {f g f' g' : Int → Int} (a : IsD f f') (h : ∀ x, f x = g x) (k : ∀ x, f' x = g' x) : IsD g g' := by rw [← funext h, ← funext k]; exact a
def dL : List Int → List Int
  | [] => []
  | _ :: p => addL p (0 :: dL p)
theorem isD_ev : ∀ {p : List Int}, IsD (ev p) (ev (dL p))
  | [] => ⟨fun _ _ => 0, fun x h => by simp [dL]⟩
  | a :: p => by
    obtain ⟨E, e⟩ := @isD_ev p
    refine ⟨fun x h => ev (dL p) x + x * E x h + h * E x h, fun x h => ?_⟩
    simp only [ev_cons, dL, ev_addL, e]; grind
def slopeL (p : List Int) : List Int := (p.mapIdx fun i c => (i : Int) * c).drop 1
theorem ev_idx {x : Int} : ∀ {p : List Int} {k : Nat}, ev (p.mapIdx fun i c => ((i + k : Nat) : Int) * c) x = k * ev p x + x * ev (dL p) x
  | [], k => by simp [dL]
  | a :: p, k => by
    have h : (fun i c => (((i + 1) + k : Nat) : Int) * c) = fun (i : Nat) (c : Int) => ((i + (k + 1) : Nat) : Int) * c := by funext i c; congr 2; omega
    simp only [List.mapIdx_cons, ev_cons, dL, ev_addL]
    rw [h, ev_idx]
    simp; grind
theorem ev_slope {p : List Int} {x : Int} : ev (slopeL p) x = ev (dL p) x := by
  cases p with
  | nil => rfl
  | cons a p =>
    unfold slopeL
    rw [List.mapIdx_cons, List.drop_succ_cons, List.drop_zero, ev_idx (k := 1)]
    simp only [dL, ev_addL, ev_cons]; simp
theorem isD_slope {p : List Int} : IsD (ev p) (ev (slopeL p)) := isD_ev.congr (fun _ => rfl) fun _ => ev_slope.symm
theorem tr_slope {p : List Int} (t : Tr p) : Tr (slopeL p) := by
  by_cases e : p = []
  · subst e; exact Tr.nil
  obtain ⟨q, c, rfl⟩ := (List.eq_nil_or_concat p).resolve_left e
  rw [List.concat_eq_append] at *
  unfold slopeL
  rw [List.mapIdx_append]
  cases q with
  | nil => exact Tr.nil
  | cons a q =>
    rw [List.mapIdx_cons, List.cons_append, List.drop_succ_cons, List.drop_zero]
    simp only [List.mapIdx_cons, List.mapIdx_nil]
    refine tr_snoc.mpr (Int.mul_ne_zero ?_ (tr_snoc.mp t))
    simp; omega
end M
namespace M
/-! ### sizes of rationals -/
def BR (n : Nat) (q : Rat) : Prop := Bd n q.num ∧ Bd n (q.den : Int)
theorem BR.mono {n m : Nat} {q : Rat} (h : BR n q) (e : n ≤ m) : BR m q := ⟨h.1.mono e, h.2.mono e⟩
theorem natAbs_ediv_le {a : Int} {b : Nat} : (a / (b : Int)).natAbs ≤ a.natAbs := by
  rcases Nat.eq_zero_or_pos b with h | h
  · subst h; simp
  · have := Int.natAbs_ediv_le_natAbs a b
    exact this
theorem BR.divInt {n : Nat} {a b : Int} (ha : Bd n a) (hb : Bd n b) (h1 : b ≠ 0) : BR n (Rat.divInt a b) := by
  refine ⟨?_, ?_⟩
  · rw [Rat.num_divInt]
    refine ha.le (Nat.le_trans (natAbs_ediv_le) ?_)
    rw [Int.natAbs_mul]
    have : b.sign.natAbs ≤ 1 := by rw [Int.natAbs_sign]; split <;> omega
    calc _ ≤ 1 * a.natAbs := Nat.mul_le_mul_right _ this
      _ = _ := Nat.one_mul _
  · rw [Rat.den_divInt, if_neg h1]
    exact hb.le (by simp only [Int.natAbs_natCast]; exact Nat.div_le_self ..)
theorem BR.mul {n m : Nat} {p q : Rat} (h : BR n p) (k : BR m q) : BR (n + m) (p * q) := by
  rw [Rat.mul_def', ← Rat.divInt_ofNat]
  refine BR.divInt (h.1.mul k.1) ?_ ?_
  · rw [Int.natCast_mul]; exact h.2.mul k.2
  · have := p.den_nz; have := q.den_nz
    exact_mod_cast Nat.mul_ne_zero ‹_› ‹_›
theorem BR.add {n m : Nat} {p q : Rat} (h : BR n p) (k : BR m q) : BR (n + m + 1) (p + q) := by
  rw [Rat.add_def', ← Rat.divInt_ofNat]
  refine BR.divInt ((h.1.mul k.2).add (by rw [Nat.add_comm]; exact k.1.mul h.2)) ?_ ?_
  · rw [Int.natCast_mul]; exact (h.2.mul k.2).mono (by omega)
  · have := p.den_nz; have := q.den_nz
    exact_mod_cast Nat.mul_ne_zero ‹_› ‹_›
theorem BR.int {n : Nat} {i : Int} (h : Bd n i) (hn : 1 ≤ n) : BR n (i : Rat) := ⟨h, by
  show (1 : Int).natAbs < 2 ^ n
  have : 2 ^ 1 ≤ 2 ^ n := Nat.pow_le_pow_right (by decide) hn
  simp at this ⊢; omega⟩
/-! ### values at rationals -/
def evR : List Int → Rat → Rat
  | [], _ => 0
  | a :: p, x => (a : Rat) + x * evR p x
@[simp] theorem evR_nil {x : Rat} : evR [] x = 0 := rfl
@[simp] theorem evR_cons {a : Int} {x : Rat} {p : List Int} : evR (a :: p) x = (a : Rat) + x * evR p x := rfl
theorem evR_addL {x : Rat} : ∀ {p q : List Int}, evR (addL p q) x = evR p x + evR q x
  | [], q => by simp only [addL, evR_nil]; grind
  | a :: p, [] => by simp only [addL, evR_nil]; grind
  | a :: p, b :: q => by simp only [addL, evR_cons, evR_addL]; grind
theorem evR_scale {k : Int} {x : Rat} : ∀ {p : List Int}, evR (p.map (k * ·)) x = k * evR p x
  | [] => by simp only [List.map_nil, evR_nil]; grind
  | a :: p => by simp only [List.map_cons, evR_cons, evR_scale]; grind
theorem evR_mulL {x : Rat} : ∀ {p q : List Int}, evR (mulL p q) x = evR p x * evR q x
  | [], q => by simp only [mulL, evR_nil]; grind
  | a :: p, q => by simp only [mulL, evR_addL, evR_scale, evR_cons, evR_mulL]; grind
theorem evR_trim {x : Rat} : ∀ {p : List Int}, evR (trim p) x = evR p x
  | [] => rfl
  | a :: p => by
    unfold trim
    split
    · rename_i h
      have := @evR_trim x p
      rw [h.1] at this
      rw [evR_cons, ← this, h.2]; simp only [evR_nil]; grind
    · rw [evR_cons, evR_trim, evR_cons]
theorem evR_bd {n m : Nat} {x : Rat} (hx : BR m x) (hn : 1 ≤ n) : ∀ {p : List Int}, (∀ c ∈ p, Bd n c) → BR (p.length * (n + m + 1) + 1) (evR p x)
  | [], _ => ⟨Bd.zero, by show (1 : Int).natAbs < _; simp⟩
  | a :: p, h => by
    have h1 := evR_bd hx hn (p := p) fun c hc => h c (List.mem_cons_of_mem _ hc)
    refine ((BR.int (h a (by simp)) hn).add (hx.mul h1)).mono ?_
    rw [List.length_cons, Nat.add_mul]; omega
/-! ### lowest terms -/
theorem fr_pos {a b : Int} (hb : 0 < b) : a.fdiv (Nat.gcd a.natAbs b.natAbs : Nat) = (Rat.divInt a b).num ∧ b.fdiv (Nat.gcd a.natAbs b.natAbs : Nat) = ((Rat.divInt a b).den : Int) := by
  have e : b.gcd a = Nat.gcd a.natAbs b.natAbs := by rw [Int.gcd_comm]; rfl
  rw [Rat.num_divInt, Rat.den_divInt, if_neg (by omega), e, Int.sign_eq_one_of_pos hb, Int.one_mul]
  refine ⟨Int.fdiv_eq_ediv_of_nonneg _ (by omega), ?_⟩
  rw [Int.fdiv_eq_ediv_of_nonneg _ (by omega), Int.natCast_ediv]
  congr 1; omega
theorem fr_neg {a b : Int} (hb : b < 0) : a.fdiv (-(Nat.gcd a.natAbs b.natAbs : Nat)) = (Rat.divInt a b).num ∧ b.fdiv (-(Nat.gcd a.natAbs b.natAbs : Nat)) = ((Rat.divInt a b).den : Int) := by
  have h := @fr_pos (-a) (-b) (by omega)
  rw [Int.natAbs_neg, Int.natAbs_neg, Rat.neg_divInt_neg] at h
  rw [← h.1, ← h.2]
  constructor
  · rw [← Int.neg_fdiv_neg, Int.neg_neg]
  · rw [← Int.neg_fdiv_neg, Int.neg_neg]
end M
namespace M
theorem num_eq (q : Rat) : (q.num : Rat) = q * (q.den : Int) := by
  have h := Rat.num_divInt_den q
  rw [Rat.divInt_eq_div] at h
  have hd : ((q.den : Int) : Rat) ≠ 0 := by
    have := q.den_nz
    exact_mod_cast this
  conv => rhs; rw [← h]
  rw [h]
  conv => rhs; lhs; rw [← h]
  rw [Rat.div_mul_cancel hd]
theorem horner {q : Rat} {A B c : Int} {e : Rat} (h : (A : Rat) * (q.den : Int) = e * B) : ((A * q.num + c * B : Int) : Rat) * (q.den : Int) = ((c : Rat) + q * e) * ((B * (q.den : Int) : Int) : Rat) := by
  rw [Rat.intCast_add, Rat.intCast_mul, Rat.intCast_mul, Rat.intCast_mul, num_eq q]
  grind
theorem horner_end {q : Rat} {A B : Int} {e : Rat} (hB : B ≠ 0) (h : (A : Rat) * (q.den : Int) = e * ((B * (q.den : Int) : Int) : Rat)) : Rat.divInt A B = e := by
  have hd : ((q.den : Int) : Rat) ≠ 0 := by
    have := q.den_nz
    exact_mod_cast this
  have hB' : (B : Rat) ≠ 0 := by exact_mod_cast hB
  rw [Rat.intCast_mul] at h
  rw [Rat.divInt_eq_div]
  grind
end M
namespace M
/-! ### one step of a division -/
theorem addL_snoc2 : ∀ {u v : List Int} {c d : Int}, u.length = v.length → addL (u ++ [c]) (v ++ [d]) = addL u v ++ [c + d]
  | [], [], c, d, _ => rfl
  | a :: u, b :: v, c, d, h => by simp only [List.cons_append, addL]; rw [addL_snoc2 (by simpa using h)]
  | [], _ :: _, _, _, h => by simp at h
  | _ :: _, [], _, _, h => by simp at h
theorem trim_snoc0 {w : List Int} : trim (w ++ [0]) = trim w := ev_inj tr_trim tr_trim fun x _ => by rw [ev_trim, ev_trim, ev_app]; simp
theorem bd_addL {n : Nat} : ∀ {p q : List Int}, (∀ c ∈ p, Bd n c) → (∀ c ∈ q, Bd n c) → ∀ c ∈ addL p q, Bd (n + 1) c
  | [], q, _, h, c, hc => (h c (by simpa [addL] using hc)).mono (by omega)
  | a :: p, [], h, _, c, hc => (h c (by simpa [addL] using hc)).mono (by omega)
  | a :: p, b :: q, h, k, c, hc => by
    simp only [addL, List.mem_cons] at hc
    rcases hc with hc | hc
    · subst hc; exact (h a (by simp)).add (k b (by simp))
    · exact bd_addL (fun c hc => h c (List.mem_cons_of_mem _ hc)) (fun c hc => k c (List.mem_cons_of_mem _ hc)) c hc
theorem bd_map {n m : Nat} {k : Int} {p : List Int} (h : ∀ c ∈ p, Bd n c) (hk : Bd m k) : ∀ c ∈ p.map (k * ·), Bd (m + n) c := fun c hc => by
  obtain ⟨d, hd, rfl⟩ := List.mem_map.mp hc
  exact hk.mul (h d hd)
theorem bd_mulL {n m : Nat} : ∀ {p q : List Int}, (∀ c ∈ p, Bd n c) → (∀ c ∈ q, Bd m c) → ∀ c ∈ mulL p q, Bd (n + m + p.length) c
  | [], q, _, _, c, hc => by simp [mulL] at hc
  | a :: p, q, h, k, c, hc => by
    have h1 := bd_mulL (fun c hc => h c (List.mem_cons_of_mem _ hc)) k
    have h2 := bd_map k (h a (by simp))
    refine bd_addL (n := n + m + p.length) (fun d hd => (h2 d hd).mono (by omega)) (fun d hd => ?_) c hc
    rcases List.mem_cons.mp hd with z | z
    · subst z; exact Bd.zero
    · exact h1 d z
theorem div_nums {a b : Int} (ha : a ≠ 0) (hb : b ≠ 0) : (gcdL [a, b] : Int) ≠ 0 ∧ (gcdL [a, b] : Int).natAbs ≤ b.natAbs ∧ (if b < 0 then -b else b).fdiv (gcdL [a, b] : Int) ≠ 0 ∧ ((if b < 0 then -b else b).fdiv (gcdL [a, b] : Int)).natAbs ≤ b.natAbs ∧
    (a * b.sign).fdiv (gcdL [a, b] : Int) ≠ 0 ∧ ((a * b.sign).fdiv (gcdL [a, b] : Int)).natAbs ≤ a.natAbs ∧ (if b < 0 then -b else b).fdiv (gcdL [a, b] : Int) * a = (a * b.sign).fdiv (gcdL [a, b] : Int) * b := by
  have da : (gcdL [a, b] : Int) ∣ a := gcdL_dvd (by simp)
  have db : (gcdL [a, b] : Int) ∣ b := gcdL_dvd (by simp)
  generalize gcdL [a, b] = g at *
  have eb : (if b < 0 then -b else b) = b.sign * b := by
    split
    · rw [Int.sign_eq_neg_one_of_neg ‹_›]; omega
    · rw [Int.sign_eq_one_of_pos (by omega)]; omega
  rw [eb]
  obtain ⟨a', rfl⟩ := da
  obtain ⟨b', rfl⟩ := db
  have hg : (g : Int) ≠ 0 := fun z => ha (by rw [z]; simp)
  have hs : (((g : Int) * b').sign) * (((g : Int) * b').sign) = 1 := by
    rcases Int.lt_or_gt_of_ne hb with h | h
    · rw [Int.sign_eq_neg_one_of_neg h]; rfl
    · rw [Int.sign_eq_one_of_pos h]; rfl
  have hsa : (((g : Int) * b').sign).natAbs = 1 := by
    rcases Int.lt_or_gt_of_ne hb with h | h
    · rw [Int.sign_eq_neg_one_of_neg h]; rfl
    · rw [Int.sign_eq_one_of_pos h]; rfl
  generalize ((g : Int) * b').sign = s at *
  have e1 : (s * ((g : Int) * b')).fdiv g = s * b' := by
    rw [Int.fdiv_eq_ediv_of_nonneg _ (by omega), show s * ((g : Int) * b') = (s * b') * g by grind, Int.mul_ediv_cancel _ hg]
  have e2 : ((g : Int) * a' * s).fdiv g = a' * s := by
    rw [Int.fdiv_eq_ediv_of_nonneg _ (by omega), show (g : Int) * a' * s = (a' * s) * g by grind, Int.mul_ediv_cancel _ hg]
  have hs0 : s ≠ 0 := by omega
  have ha' : a' ≠ 0 := fun z => ha (by rw [z, Int.mul_zero])
  have hb' : b' ≠ 0 := fun z => hb (by rw [z, Int.mul_zero])
  have g1 : 1 ≤ g := by omega
  rw [e1, e2]
  refine ⟨hg, ?_, Int.mul_ne_zero hs0 hb', ?_, Int.mul_ne_zero ha' hs0, ?_, by grind⟩
  · rw [Int.natAbs_mul, Int.natAbs_natCast]
    exact Nat.le_mul_of_pos_right _ (by omega)
  · rw [Int.natAbs_mul, Int.natAbs_mul, hsa, Nat.one_mul, Int.natAbs_natCast]
    exact Nat.le_mul_of_pos_left _ g1
  · rw [Int.natAbs_mul, Int.natAbs_mul, hsa, Nat.mul_one, Int.natAbs_natCast]
    exact Nat.le_mul_of_pos_left _ g1
theorem rest_step {r q : List Int} {f t : Int} (hr : r ≠ []) (hq : q ≠ []) (hl : q.length ≤ r.length) (h : f * lead r = t * lead q) :
    (trim (addL (r.map (f * ·)) ((List.replicate (r.length - q.length) 0 ++ q.map (t * ·)).map (-1 * ·)))).length < r.length ∧
    ∀ x, ev (trim (addL (r.map (f * ·)) ((List.replicate (r.length - q.length) 0 ++ q.map (t * ·)).map (-1 * ·)))) x = f * ev r x - x ^ (r.length - q.length) * (t * ev q x) := by
  constructor
  · obtain ⟨r', a, rfl⟩ := (List.eq_nil_or_concat r).resolve_left hr
    obtain ⟨q', b, rfl⟩ := (List.eq_nil_or_concat q).resolve_left hq
    rw [List.concat_eq_append] at *
    rw [List.concat_eq_append] at *
    rw [lead_snoc, lead_snoc] at h
    simp only [List.map_append, List.map_cons, List.map_nil]
    rw [← List.append_assoc, addL_snoc2 (by simp at hl ⊢; omega), show f * a + -1 * (t * b) = 0 by rw [h]; omega, trim_snoc0]
    refine Nat.lt_of_le_of_lt len_trim ?_
    rw [len_addL]
    simp at hl ⊢; omega
  · intro x
    rw [ev_trim, ev_addL, ev_scale, ev_scale, ev_app, ev_zeros, ev_scale]
    simp; grind
end M
namespace M
theorem getD_addL : ∀ {p q : List Int} {i : Nat}, (addL p q).getD i 0 = p.getD i 0 + q.getD i 0
  | [], q, i => by simp [addL]
  | a :: p, [], i => by simp [addL]
  | a :: p, b :: q, 0 => by simp [addL]
  | a :: p, b :: q, i + 1 => by
    have := @getD_addL p q i
    simpa [addL] using this
theorem getD_scale {k : Int} {p : List Int} {i : Nat} : (p.map (k * ·)).getD i 0 = k * p.getD i 0 := by
  simp only [List.getD_eq_getElem?_getD, List.getElem?_map]
  cases p[i]? <;> simp
theorem coef_eq {p q : List Int} (h : ∀ x : Int, x ≠ 0 → ev p x = ev q x) (i : Nat) : p.getD i 0 = q.getD i 0 := by
  have hz : ∀ c ∈ addL p (q.map (-1 * ·)), c = 0 := zero_of fun x hx => by rw [ev_addL, ev_scale, h x hx]; omega
  have h1 : (addL p (q.map (-1 * ·))).getD i 0 = 0 := by
    rw [List.getD_eq_getElem?_getD]
    cases e : (addL p (q.map (-1 * ·)))[i]? with
    | none => rfl
    | some c => exact hz c (List.mem_of_getElem? e)
  rw [getD_addL, getD_scale] at h1
  omega
/-- the top coefficient of a product of which the second ends in c -/
theorem coef_top {q u : List Int} {c : Int} (hq : q ≠ []) : (mulL q (u ++ [c])).getD (u.length + q.length - 1) 0 = lead q * c := by
  obtain ⟨q', b, rfl⟩ := (List.eq_nil_or_concat q).resolve_left hq
  rw [List.concat_eq_append, lead_snoc]
  obtain ⟨w, h1, h2⟩ := @mul_snoc q' u b c
  rw [h1]
  simp; rw [show u.length + q'.length = w.length by omega]
  simp
end M
namespace M
/-! ### linear factors -/
theorem Cop.lin {a b c d : Int} (h : a * d ≠ c * b) : Cop (fun x => a + b * x) (fun x => c + d * x) :=
  ⟨a * d - c * b, [d], [-b], by omega, fun x => by simp; grind⟩
theorem isP_lin {a b : Int} : ∃ p, ∀ x, ev p x = a + b * x := ⟨[a, b], fun x => by simp; grind⟩
theorem isP_mul {f g : Int → Int} (hf : ∃ p, ∀ x, ev p x = f x) (hg : ∃ p, ∀ x, ev p x = g x) : ∃ p, ∀ x, ev p x = f x * g x := by
  obtain ⟨p, hp⟩ := hf
  obtain ⟨q, hq⟩ := hg
  exact ⟨mulL p q, fun x => by rw [ev_mulL, hp, hq]⟩
theorem isP_add {f g : Int → Int} (hf : ∃ p, ∀ x, ev p x = f x) (hg : ∃ p, ∀ x, ev p x = g x) : ∃ p, ∀ x, ev p x = f x + g x := by
  obtain ⟨p, hp⟩ := hf
  obtain ⟨q, hq⟩ := hg
  exact ⟨addL p q, fun x => by rw [ev_addL, hp, hq]⟩
theorem isP_c {k : Int} : ∃ p, ∀ x, ev p x = k := ⟨[k], fun x => by simp⟩
theorem isP_ev {p : List Int} : ∃ q, ∀ x, ev q x = ev p x := ⟨p, fun _ => rfl⟩
theorem ev_lin {a b x : Int} : ev [a, b] x = a + b * x := by simp; grind
theorem bd_slope {n : Nat} {p : List Int} (hl : p.length ≤ 8) (h : ∀ c ∈ p, Bd n c) : ∀ c ∈ slopeL p, Bd (3 + n) c := fun c hc => by
  unfold slopeL at hc
  have h1 := List.mem_of_mem_drop hc
  rw [List.mem_mapIdx] at h1
  obtain ⟨i, hi, rfl⟩ := h1
  refine Bd.mul ?_ (h _ (List.getElem_mem _))
  unfold Bd
  simp; omega
/-- what the square free parts of (a0 + b0 x)^2 (a1 + b1 x)(a2 + b2 x) pass through -/
structure SF (a0 b0 : Int) (l r R w : List Int) : Prop where
  tR : Tr R
  tw : Tr w
  eR : ∀ x, ev R x = (a0 + b0 * x) * ev l x
  er : ∀ x, ev r x = (a0 + b0 * x) * ev R x
  es : ∀ x, ev (slopeL r) x = (a0 + b0 * x) * ev w x
  cop : Cop (ev R) (ev w)
  gap : ∀ x, ev w x - ev (slopeL R) x = b0 * ev l x
theorem sf_mk {a0 b0 a1 b1 a2 b2 : Int} {l r : List Int} (h01 : a0 * b1 ≠ a1 * b0) (h02 : a0 * b2 ≠ a2 * b0) (h12 : a1 * b2 ≠ a2 * b1) (hb0 : b0 ≠ 0) (hb1 : b1 ≠ 0) (hb2 : b2 ≠ 0)
    (er : ∀ x, ev r x = (a0 + b0 * x) * (a0 + b0 * x) * ev l x) (el : ∀ x, ev l x = (a1 + b1 * x) * (a2 + b2 * x)) :
    SF a0 b0 l r (trim (mulL [a0, b0] l)) (trim (addL (l.map (2 * b0 * ·)) (mulL [a0, b0] (slopeL l)))) := by
  have eR : ∀ x, ev (trim (mulL [a0, b0] l)) x = (a0 + b0 * x) * ev l x := fun x => by rw [ev_trim, ev_mulL, ev_lin]
  have ew : ∀ x, ev (trim (addL (l.map (2 * b0 * ·)) (mulL [a0, b0] (slopeL l)))) x = 2 * b0 * ev l x + (a0 + b0 * x) * ev (slopeL l) x := fun x => by rw [ev_trim, ev_addL, ev_scale, ev_mulL, ev_lin]
  have dl : ∀ x, ev (slopeL l) x = b1 * (a2 + b2 * x) + (a1 + b1 * x) * b2 := fun x => IsD.uniq isD_slope ((IsD.mul IsD.lin IsD.lin).congr (fun x => (el x).symm) fun _ => rfl) x
  have dR : ∀ x, ev (slopeL (trim (mulL [a0, b0] l))) x = b0 * ev l x + (a0 + b0 * x) * ev (slopeL l) x := fun x => IsD.uniq isD_slope ((IsD.mul IsD.lin isD_slope).congr (fun x => (eR x).symm) fun _ => rfl) x
  refine ⟨tr_trim, tr_trim, eR, fun x => by rw [er, eR]; grind, fun x => ?_, ?_, fun x => by rw [ew, dR]; grind⟩
  · have d1 := IsD.uniq (isD_slope (p := r)) ((IsD.mul (IsD.mul (IsD.lin (a := a0) (b := b0)) (IsD.lin (a := a0) (b := b0))) (isD_slope (p := l))).congr (fun x => (er x).symm) fun _ => rfl) x
    rw [d1, ew]; grind
  · have c12 : Cop (fun x => a1 + b1 * x) (fun x => a2 + b2 * x) := Cop.lin h12
    have c01 : Cop (fun x => a0 + b0 * x) (fun x => a1 + b1 * x) := Cop.lin h01
    have c02 : Cop (fun x => a0 + b0 * x) (fun x => a2 + b2 * x) := Cop.lin h02
    have two : (2 : Int) * b0 ≠ 0 := Int.mul_ne_zero (by decide) hb0
    -- the first factor
    have k0 : Cop (fun x => a0 + b0 * x) (ev (trim (addL (l.map (2 * b0 * ·)) (mulL [a0, b0] (slopeL l))))) := by
      have u1 := Cop.mul (Cop.const (f := fun x => a0 + b0 * x) two).symm (Cop.mul c01.symm c02.symm isP_lin isP_lin isP_lin) isP_c (isP_mul isP_lin isP_lin) isP_lin
      exact (u1.symm.add (isP_ev (p := slopeL l))).congr (fun _ => rfl) fun x => by rw [ew, el]
    have k1 : Cop (fun x => a1 + b1 * x) (ev (trim (addL (l.map (2 * b0 * ·)) (mulL [a0, b0] (slopeL l))))) := by
      have u1 := Cop.mul (Cop.const (f := fun x => a1 + b1 * x) hb1).symm (Cop.mul c01 c12.symm isP_lin isP_lin isP_lin) isP_c (isP_mul isP_lin isP_lin) isP_lin
      exact (u1.symm.add (k := fun x => (a0 + b0 * x) * b2 + 2 * b0 * (a2 + b2 * x)) (isP_add (isP_mul isP_lin isP_c) (isP_mul isP_c isP_lin))).congr (fun _ => rfl) fun x => by rw [ew, el, dl]; grind
    have k2 : Cop (fun x => a2 + b2 * x) (ev (trim (addL (l.map (2 * b0 * ·)) (mulL [a0, b0] (slopeL l))))) := by
      have u1 := Cop.mul (Cop.const (f := fun x => a2 + b2 * x) hb2).symm (Cop.mul c02 c12 isP_lin isP_lin isP_lin) isP_c (isP_mul isP_lin isP_lin) isP_lin
      exact (u1.symm.add (k := fun x => (a0 + b0 * x) * b1 + 2 * b0 * (a1 + b1 * x)) (isP_add (isP_mul isP_lin isP_c) (isP_mul isP_c isP_lin))).congr (fun _ => rfl) fun x => by rw [ew, el, dl]; grind
    exact (Cop.mul k0 (Cop.mul k1 k2 isP_lin isP_lin isP_ev) isP_lin (isP_mul isP_lin isP_lin) isP_ev).congr (fun x => by rw [eR, el]) fun _ => rfl
end M
/-! A layer of data over the hand layer: values as data (tuples within), mutable objects in a numbered store. -/
namespace Y
open PySem PySem.Spec PyProof.Rows L2

/-- data; ref n: the n-th object of the store; kl: a list of the written part -/
inductive D where
  | non | bl (b : Bool) | int (i : Int) | str (s : Str) | tup (xs : List D) | ref (n : Nat) | kl (xs : List D)
/-- an object of the store -/
inductive Ob where
  | lst (xs : List D)
  | ro (xs : List D)
  | ins (C : Addr) (fs : List (Str × D))
  | gone

section
variable (K : PySem.W.Frag)
mutual
def De (H : Hp) (ρ : List Addr) : V → D → Prop
  | v, .non => v = .non
  | v, .bl b => v = .bl b
  | v, .int i => v = .int i
  | v, .str s => v = .str s
  | v, .ref n => ∃ a, ρ[n]? = some a ∧ v = .ref a
  | v, .tup ds => ∃ a xs, v = .ref a ∧ SqT K H a xs ∧ DeAll H ρ xs ds
  | v, .kl ds => ∃ a xs, v = .ref a ∧ (∀ H', SqL K H' a xs) ∧ DeAll H ρ xs ds
def DeAll (H : Hp) (ρ : List Addr) : List V → List D → Prop
  | [], [] => True
  | v :: vs, d :: ds => De H ρ v d ∧ DeAll H ρ vs ds
  | _, _ => False
end
end

/-- later: tuples and locked objects stand, the store has grown -/
structure Lat (H : Hp) (ρ : List Addr) (H' : Hp) (ρ' : List Addr) : Prop where
  tup : ∀ a xs, H a = some (.tup xs) → H' a = some (.tup xs)
  frz : ∀ a o u, H a = some (.frz o u) → H' a = some (.frz o u)
  rho : ∀ (n : Nat) (a : Addr), ρ[n]? = some a → ρ'[n]? = some a

section
variable {K : PySem.W.Frag} {H H1 H' : Hp} {ρ ρ1 ρ' : List Addr}
theorem Lat.refl : Lat H ρ H ρ := ⟨fun _ _ h => h, fun _ _ _ h => h, fun _ _ h => h⟩
theorem Lat.trans (a : Lat H ρ H1 ρ1) (b : Lat H1 ρ1 H' ρ') : Lat H ρ H' ρ' :=
  ⟨fun x xs h => b.tup x xs (a.tup x xs h), fun x o u h => b.frz x o u (a.frz x o u h), fun n x h => b.rho n x (a.rho n x h)⟩
theorem Lat.sqT (l : Lat H ρ H' ρ') {a : Addr} {xs : List V} (h : SqT K H a xs) : SqT K H' a xs := by
  rcases h with (h | ⟨o, h⟩) | h
  · exact .inl (.inl (l.tup _ _ h))
  · exact .inl (.inr ⟨o, l.frz _ _ _ h⟩)
  · exact .inr h
mutual
theorem De.mono (l : Lat H ρ H' ρ') : ∀ {v : V} (d : D), De K H ρ v d → De K H' ρ' v d
  | v, .non, h => h
  | v, .bl b, h => h
  | v, .int i, h => h
  | v, .str s, h => h
  | v, .ref n, ⟨a, h, e⟩ => ⟨a, l.rho n a h, e⟩
  | v, .tup ds, ⟨a, xs, e, s, h⟩ => ⟨a, xs, e, l.sqT s, DeAll.mono l ds h⟩
  | v, .kl ds, ⟨a, xs, e, s, h⟩ => ⟨a, xs, e, s, DeAll.mono l ds h⟩
theorem DeAll.mono (l : Lat H ρ H' ρ') : ∀ {vs : List V} (ds : List D), DeAll K H ρ vs ds → DeAll K H' ρ' vs ds
  | [], [], h => h
  | v :: vs, d :: ds, ⟨h1, h2⟩ => ⟨De.mono l d h1, DeAll.mono l ds h2⟩
  | [], _ :: _, h => h
  | _ :: _, [], h => h
end
theorem DeAll.length : ∀ {vs : List V} {ds : List D}, DeAll K H ρ vs ds → vs.length = ds.length
  | [], [], _ => rfl
  | v :: vs, d :: ds, ⟨_, h2⟩ => by rw [List.length_cons, List.length_cons, DeAll.length h2]
  | [], _ :: _, h => h.elim
  | _ :: _, [], h => h.elim
theorem DeAll.get : ∀ {vs : List V} {ds : List D} {i : Nat} {d : D}, DeAll K H ρ vs ds → ds[i]? = some d → ∃ v, vs[i]? = some v ∧ De K H ρ v d
  | [], [], i, d, _, e => by simp at e
  | v :: vs, d :: ds, 0, d', ⟨h1, _⟩, e => by
    simp at e; subst e; exact ⟨v, rfl, h1⟩
  | v :: vs, d :: ds, i + 1, d', ⟨_, h2⟩, e => by
    obtain ⟨v', e1, e2⟩ := DeAll.get (i := i) h2 (by simpa using e)
    exact ⟨v', by simpa using e1, e2⟩
  | [], _ :: _, _, _, h, _ => h.elim
  | _ :: _, [], _, _, h, _ => h.elim
theorem DeAll.getV : ∀ {vs : List V} {ds : List D} {i : Nat} {v : V}, DeAll K H ρ vs ds → vs[i]? = some v → ∃ d, ds[i]? = some d ∧ De K H ρ v d
  | [], [], i, d, _, e => by simp at e
  | v :: vs, d :: ds, 0, v', ⟨h1, _⟩, e => by
    simp at e; subst e; exact ⟨d, rfl, h1⟩
  | v :: vs, d :: ds, i + 1, v', ⟨_, h2⟩, e => by
    obtain ⟨d', e1, e2⟩ := DeAll.getV (i := i) h2 (by simpa using e)
    exact ⟨d', by simpa using e1, e2⟩
  | [], _ :: _, _, _, h, _ => h.elim
  | _ :: _, [], _, _, h, _ => h.elim
theorem DeAll.append : ∀ {vs ws : List V} {ds es : List D}, DeAll K H ρ vs ds → DeAll K H ρ ws es → DeAll K H ρ (vs ++ ws) (ds ++ es)
  | [], _, [], _, _, h => h
  | v :: vs, _, d :: ds, _, ⟨h1, h2⟩, h => ⟨h1, DeAll.append h2 h⟩
  | [], _, _ :: _, _, h, _ => h.elim
  | _ :: _, _, [], _, h, _ => h.elim
theorem DeAll.set : ∀ {vs : List V} {ds : List D} (i : Nat) {v : V} {d : D}, DeAll K H ρ vs ds → De K H ρ v d → DeAll K H ρ (vs.set i v) (ds.set i d)
  | [], [], _, _, _, _, _ => trivial
  | v :: vs, d :: ds, 0, _, _, ⟨_, h2⟩, h => ⟨h, h2⟩
  | v :: vs, d :: ds, i + 1, _, _, ⟨h1, h2⟩, h => ⟨h1, DeAll.set i h2 h⟩
  | [], _ :: _, _, _, _, h, _ => h.elim
  | _ :: _, [], _, _, _, h, _ => h.elim
theorem DeAll.take : ∀ {vs : List V} {ds : List D} (n : Nat), DeAll K H ρ vs ds → DeAll K H ρ (vs.take n) (ds.take n)
  | _, _, 0, _ => by simp [DeAll]
  | [], [], n + 1, _ => by simp [DeAll]
  | v :: vs, d :: ds, n + 1, ⟨h1, h2⟩ => ⟨h1, DeAll.take n h2⟩
  | [], _ :: _, _ + 1, h => h.elim
  | _ :: _, [], _ + 1, h => h.elim
theorem DeAll.drop : ∀ {vs : List V} {ds : List D} (n : Nat), DeAll K H ρ vs ds → DeAll K H ρ (vs.drop n) (ds.drop n)
  | _, _, 0, h => h
  | [], [], n + 1, _ => by simp [DeAll]
  | v :: vs, d :: ds, n + 1, ⟨h1, h2⟩ => DeAll.drop n h2
  | [], _ :: _, _ + 1, h => h.elim
  | _ :: _, [], _ + 1, h => h.elim
theorem DeAll.reverse {vs : List V} {ds : List D} (h : DeAll K H ρ vs ds) : DeAll K H ρ vs.reverse ds.reverse := by
  induction vs generalizing ds with
  | nil => cases ds with
    | nil => exact h
    | cons d ds => exact h.elim
  | cons v vs ih => cases ds with
    | nil => exact h.elim
    | cons d ds =>
      rw [List.reverse_cons, List.reverse_cons]
      exact DeAll.append (ih h.2) ⟨h.1, trivial⟩
theorem DeAll.eraseIdx : ∀ {vs : List V} {ds : List D} (n : Nat), DeAll K H ρ vs ds → DeAll K H ρ (vs.eraseIdx n) (ds.eraseIdx n)
  | [], [], _, _ => by simp [DeAll]
  | v :: vs, d :: ds, 0, ⟨h1, h2⟩ => h2
  | v :: vs, d :: ds, n + 1, ⟨h1, h2⟩ => ⟨h1, DeAll.eraseIdx n h2⟩
  | [], _ :: _, _, h => h.elim
  | _ :: _, [], _, h => h.elim
theorem DeAll.rep {vs : List V} {ds : List D} (h : DeAll K H ρ vs ds) : ∀ n : Nat, DeAll K H ρ (List.replicate n vs).flatten (List.replicate n ds).flatten
  | 0 => trivial
  | n + 1 => by
    rw [List.replicate_succ, List.replicate_succ, List.flatten_cons, List.flatten_cons]
    exact DeAll.append h (DeAll.rep h n)
theorem DeAll.nil_iff {vs : List V} {ds : List D} (h : DeAll K H ρ vs ds) : vs = [] ↔ ds = [] := by
  have := h.length
  constructor
  · intro e; subst e; exact List.eq_nil_of_length_eq_zero this.symm
  · intro e; subst e; exact List.eq_nil_of_length_eq_zero this
theorem DeAll.isEmpty {vs : List V} {ds : List D} (h : DeAll K H ρ vs ds) : vs.isEmpty = ds.isEmpty := by
  cases vs <;> cases ds <;> first | rfl | exact h.elim
theorem DeAll.ints : ∀ {vs : List V} {ns : List Int}, DeAll K H ρ vs (ns.map D.int) → vs = ns.map V.int
  | [], [], _ => rfl
  | v :: vs, n :: ns, ⟨h1, h2⟩ => by rw [List.map_cons, DeAll.ints h2]; exact congrArg (· :: _) h1
  | [], _ :: _, h => h.elim
  | _ :: _, [], h => h.elim
theorem DeAll.of_ints : ∀ {ns : List Int}, DeAll K H ρ (ns.map V.int) (ns.map D.int)
  | [] => trivial
  | n :: ns => ⟨rfl, DeAll.of_ints⟩
theorem DeAll.bls : ∀ {vs : List V} {ns : List Bool}, DeAll K H ρ vs (ns.map D.bl) → vs = ns.map V.bl
  | [], [], _ => rfl
  | v :: vs, n :: ns, ⟨h1, h2⟩ => by rw [List.map_cons, DeAll.bls h2]; exact congrArg (· :: _) h1
  | [], _ :: _, h => h.elim
  | _ :: _, [], h => h.elim
end

/-! ### the store -/
section
variable (K : PySem.W.Frag)
/-- fields -/
def DeF (H : Hp) (ρ : List Addr) : List (Str × V) → List (Str × D) → Prop
  | [], [] => True
  | p :: ps, q :: qs => p.1 = q.1 ∧ De K H ρ p.2 q.2 ∧ DeF H ρ ps qs
  | _, _ => False
def ObOk (H : Hp) (ρ : List Addr) (a : Addr) : Ob → Prop
  | .lst ds => ∃ vs, H a = some (.lst vs) ∧ DeAll K H ρ vs ds
  | .ro ds => ∃ vs, (∃ o, H a = some (.frz o (.lst vs))) ∧ DeAll K H ρ vs ds
  | .ins C fs => ∃ dx vs, H a = some (.ins C dx vs) ∧ DeF K H ρ vs fs
  | .gone => True
structure StOk (H : Hp) (ρ : List Addr) (st : List Ob) : Prop where
  len : ρ.length = st.length
  nd : ρ.Nodup
  ob : ∀ (n : Nat) (o : Ob) (a : Addr), st[n]? = some o → ρ[n]? = some a → ObOk K H ρ a o
  tr : ∀ (n : Nat) (a : Addr), ρ[n]? = some a → ∃ u, H a = some u
structure SlOk (H : Hp) (ρ : List Addr) (σ : L2.St) (Γ : List (Option D)) : Prop where
  len : σ.length = Γ.length
  at_ : ∀ (i : Nat) (d : D), Γ[i]? = some (some d) → ∃ v, σ[i]? = some (some v) ∧ De K H ρ v d
end
end Y
namespace Y
open PySem PySem.Spec PyProof.Rows L2

abbrev Sl := List (Option D)
abbrev Sto := List Ob
abbrev DTE := Sl → Sto → (D → Sto → Prop) → Prop
abbrev DTT := Sl → Sto → (Bool → Sto → Prop) → Prop
abbrev DTA := Sl → Sto → (List D → Sto → Prop) → Prop
abbrev DTO := Sl → Sto → (Option Int → Sto → Prop) → Prop
structure DEnds where
  nx : Sl → Sto → Prop
  rt : D → Sto → Prop
  bk : Sl → Sto → Prop := fun _ _ => False
  ct : Sl → Sto → Prop := fun _ _ => False
abbrev DTS := DEnds → Sl → Sto → Prop
abbrev DTG := D → Sl → Sto → (Sl → Sto → Prop) → Prop
abbrev DTGs := List D → Sl → Sto → (Sl → Sto → Prop) → Prop
/-- what is done with values alone -/
abbrev DR1 := D → Sto → (D → Sto → Prop) → Prop
abbrev DR2 := D → D → Sto → (D → Sto → Prop) → Prop
abbrev DRL := List D → Sto → (D → Sto → Prop) → Prop

/-! ### how objects and the store go on -/
section
variable {K : PySem.W.Frag} {H H1 H' : Hp} {ρ ρ1 ρ' : List Addr} {st st' : Sto}
theorem DeF.mono (l : Lat H ρ H' ρ') : ∀ {vs : List (Str × V)} (fs : List (Str × D)), DeF K H ρ vs fs → DeF K H' ρ' vs fs
  | [], [], h => h
  | p :: ps, q :: qs, ⟨h1, h2, h3⟩ => ⟨h1, De.mono l _ h2, DeF.mono l qs h3⟩
  | [], _ :: _, h => h
  | _ :: _, [], h => h
theorem ObOk.keep (l : Lat H ρ H' ρ') {a : Addr} (e : H' a = H a) : ∀ {o : Ob}, ObOk K H ρ a o → ObOk K H' ρ' a o
  | .lst ds, ⟨vs, h, d⟩ => ⟨vs, e.trans h, DeAll.mono l ds d⟩
  | .ro ds, ⟨vs, ⟨o, q⟩, d⟩ => ⟨vs, ⟨o, l.frz _ _ _ q⟩, DeAll.mono l ds d⟩
  | .ins C fs, ⟨dx, vs, h, d⟩ => ⟨dx, vs, e.trans h, DeF.mono l fs d⟩
  | .gone, _ => trivial
theorem Lat.fresh {p : Addr} {o : HO} (hp : H p = none) : Lat H ρ (upd H p o) ρ :=
  ⟨fun a xs h => by rw [upd_ne (ne_of_none h hp)]; exact h, fun a ob u h => by rw [upd_ne (ne_of_none h hp)]; exact h, fun _ _ h => h⟩
theorem Lat.grow (l : Lat H ρ H' ρ') (p : Addr) : Lat H ρ H' (ρ' ++ [p]) :=
  ⟨l.tup, l.frz, fun n a h => by
    have h1 := l.rho n a h
    rw [List.getElem?_append_left (List.getElem?_eq_some_iff.mp h1).1]
    exact h1⟩
/-- an object that is no tuple and not locked is written -/
theorem Lat.put {p : Addr} {o : HO} (h1 : ∀ xs, H p ≠ some (.tup xs)) (h2 : ∀ ob u, H p ≠ some (.frz ob u)) : Lat H ρ (upd H p o) ρ :=
  ⟨fun a xs h => by
    have : a ≠ p := fun e => h1 xs (e ▸ h)
    rw [upd_ne this]; exact h, fun a ob u h => by
    have : a ≠ p := fun e => h2 ob u (e ▸ h)
    rw [upd_ne this]; exact h, fun _ _ h => h⟩
theorem SlOk.mono {σ : L2.St} {Γ : Sl} (l : Lat H ρ H' ρ') (s : SlOk K H ρ σ Γ) : SlOk K H' ρ' σ Γ :=
  ⟨s.len, fun i d e => let ⟨v, h1, h2⟩ := s.at_ i d e; ⟨v, h1, De.mono l d h2⟩⟩
theorem SlOk.set {σ : L2.St} {Γ : Sl} (s : SlOk K H ρ σ Γ) (i : Nat) {v : V} {d : D} (h : De K H ρ v d) : SlOk K H ρ (σ.set i (some v)) (Γ.set i (some d)) := by
  refine ⟨by rw [List.length_set, List.length_set, s.len], fun j e q => ?_⟩
  by_cases hj : i = j
  · subst hj
    have hl : i < Γ.length := by
      have := (List.getElem?_eq_some_iff.mp q).1
      rwa [List.length_set] at this
    rw [List.getElem?_set_self hl] at q
    cases q
    exact ⟨v, by rw [List.getElem?_set_self (by rw [s.len]; exact hl)], h⟩
  · rw [List.getElem?_set_ne hj] at q
    obtain ⟨w, h1, h2⟩ := s.at_ j e q
    exact ⟨w, by rw [List.getElem?_set_ne hj]; exact h1, h2⟩
theorem StOk.ne {p : Addr} (s : StOk K H ρ st) (hp : H p = none) {n : Nat} {a : Addr} (h : ρ[n]? = some a) : a ≠ p := by
  obtain ⟨u, hu⟩ := s.tr n a h
  exact ne_of_none hu hp
/-- a new object that the store doesn't keep (a tuple) -/
theorem StOk.fresh {p : Addr} {o : HO} (s : StOk K H ρ st) (hp : H p = none) : StOk K (upd H p o) ρ st :=
  ⟨s.len, s.nd, fun n ob a h1 h2 => ObOk.keep (Lat.fresh hp) (upd_ne (s.ne hp h2)) (s.ob n ob a h1 h2), fun n a h => by
    obtain ⟨u, hu⟩ := s.tr n a h
    exact ⟨u, by rw [upd_ne (s.ne hp h)]; exact hu⟩⟩
/-- a new object of the store -/
theorem StOk.alloc {p : Addr} {o : HO} {ob : Ob} (s : StOk K H ρ st) (hp : H p = none) (new : ObOk K (upd H p o) (ρ ++ [p]) p ob) : StOk K (upd H p o) (ρ ++ [p]) (st ++ [ob]) := by
  have l : Lat H ρ (upd H p o) (ρ ++ [p]) := (Lat.fresh hp).grow p
  refine ⟨by simp [s.len], ?_, fun n ob' a h1 h2 => ?_, fun n a h => ?_⟩
  · rw [List.nodup_append]
    refine ⟨s.nd, List.nodup_cons.mpr ⟨List.not_mem_nil, List.nodup_nil⟩, fun a ha b hb => ?_⟩
    obtain ⟨n, hn⟩ := List.mem_iff_getElem?.mp ha
    rw [List.mem_singleton.mp hb]
    exact s.ne hp hn
  · by_cases hn : n < st.length
    · rw [List.getElem?_append_left hn] at h1
      rw [List.getElem?_append_left (by rw [s.len]; exact hn)] at h2
      exact ObOk.keep l (upd_ne (s.ne hp h2)) (s.ob n ob' a h1 h2)
    · have e : n = st.length := by
        have := (List.getElem?_eq_some_iff.mp h1).1
        simp at this; omega
      subst e
      rw [List.getElem?_append_right (Nat.le_refl _), Nat.sub_self] at h1
      rw [← s.len, List.getElem?_append_right (Nat.le_refl _), Nat.sub_self] at h2
      cases h1; cases h2
      exact new
  · by_cases hn : n < ρ.length
    · rw [List.getElem?_append_left hn] at h
      obtain ⟨u, hu⟩ := s.tr n a h
      exact ⟨u, by rw [upd_ne (s.ne hp h)]; exact hu⟩
    · have e : n = ρ.length := by
        have := (List.getElem?_eq_some_iff.mp h).1
        simp at this; omega
      subst e
      rw [List.getElem?_append_right (Nat.le_refl _), Nat.sub_self] at h
      cases h
      exact ⟨o, upd_same⟩
/-- an object of the store is written -/
theorem StOk.put {p : Addr} {o : HO} {ob : Ob} {m : Nat} (s : StOk K H ρ st) (hm : ρ[m]? = some p) (l : Lat H ρ (upd H p o) ρ) (new : ObOk K (upd H p o) ρ p ob) : StOk K (upd H p o) ρ (st.set m ob) := by
  have hml : m < ρ.length := (List.getElem?_eq_some_iff.mp hm).1
  have other : ∀ (n : Nat) (a : Addr), ρ[n]? = some a → n ≠ m → a ≠ p := fun n a h hn e => by
    subst e
    obtain ⟨h1, e1⟩ := List.getElem?_eq_some_iff.mp h
    obtain ⟨h2, e2⟩ := List.getElem?_eq_some_iff.mp hm
    exact hn ((List.getElem_inj s.nd).mp (e1.trans e2.symm))
  refine ⟨by rw [List.length_set, s.len], s.nd, fun n ob' a h1 h2 => ?_, fun n a h => ?_⟩
  · by_cases hn : n = m
    · subst hn
      rw [List.getElem?_set_self (by rw [← s.len]; exact hml)] at h1
      cases h1
      rw [hm] at h2; cases h2
      exact new
    · rw [List.getElem?_set_ne (fun e => hn e.symm)] at h1
      exact ObOk.keep l (upd_ne (other n a h2 hn)) (s.ob n ob' a h1 h2)
  · by_cases hn : n = m
    · subst hn
      rw [hm] at h; cases h
      exact ⟨o, upd_same⟩
    · obtain ⟨u, hu⟩ := s.tr n a h
      exact ⟨u, by rw [upd_ne (other n a h hn)]; exact hu⟩
theorem Lat.putL {p : Addr} {vs ws : List V} (h : H p = some (.lst vs)) : Lat H ρ (upd H p (.lst ws)) ρ :=
  Lat.put (fun xs q => by rw [h] at q; cases q) (fun _ _ q => by rw [h] at q; cases q)
theorem StOk.lst {m : Nat} {ds : List D} {a : Addr} (s : StOk K H ρ st) (h : st[m]? = some (.lst ds)) (ha : ρ[m]? = some a) : ∃ vs, H a = some (.lst vs) ∧ DeAll K H ρ vs ds := s.ob m _ a h ha
theorem StOk.putL {m : Nat} {a : Addr} {vs ws : List V} {es : List D} (s : StOk K H ρ st) (ha : ρ[m]? = some a) (h : H a = some (.lst vs)) (d : DeAll K H ρ ws es) : StOk K (upd H a (.lst ws)) ρ (st.set m (.lst es)) :=
  s.put ha (Lat.putL h) ⟨ws, upd_same, DeAll.mono (Lat.putL h) es d⟩
theorem StOk.newL {p : Addr} {ws : List V} {es : List D} (s : StOk K H ρ st) (hp : H p = none) (d : DeAll K H ρ ws es) : StOk K (upd H p (.lst ws)) (ρ ++ [p]) (st ++ [.lst es]) :=
  s.alloc hp ⟨ws, upd_same, DeAll.mono ((Lat.fresh hp).grow p) es d⟩
theorem StOk.newAt {p : Addr} (s : StOk K H ρ st) : (ρ ++ [p])[st.length]? = some p := by
  rw [← s.len, List.getElem?_append_right (Nat.le_refl _), Nat.sub_self]; rfl
end

section
variable {K : PySem.W.Frag} {H : Hp} {ρ : List Addr}
theorem De.i {i : Int} : De K H ρ (.int i) (.int i) := rfl
theorem De.b {b : Bool} : De K H ρ (.bl b) (.bl b) := rfl
theorem De.n : De K H ρ .non .non := rfl
theorem De.s {x : Str} : De K H ρ (.str x) (.str x) := rfl
theorem DeAll.nil : DeAll K H ρ [] [] := trivial
theorem DeAll.cons {v : V} {d : D} {vs : List V} {ds : List D} (h : De K H ρ v d) (r : DeAll K H ρ vs ds) : DeAll K H ρ (v :: vs) (d :: ds) := ⟨h, r⟩
theorem De.t {a : Addr} {vs : List V} {ds : List D} (h : SqT K H a vs) (r : DeAll K H ρ vs ds) : De K H ρ (.ref a) (.tup ds) := ⟨a, vs, rfl, h, r⟩
theorem De.r {a : Addr} {n : Nat} (h : ρ[n]? = some a) : De K H ρ (.ref a) (.ref n) := ⟨a, h, rfl⟩
end

/-! ### the judgements -/
/-- what comes behind an expression, from (H, ρ) on -/
def Behind (K : PySem.W.Frag) (H : Hp) (ρ : List Addr) (Q : D → Sto → Prop) (QQ : VK) : Prop :=
  ∀ (v : V) (d : D) (H' : Hp) (ρ' : List Addr) (st' : Sto), Lat H ρ H' ρ' → StOk K H' ρ' st' → De K H' ρ' v d → Q d st' → QQ v H'
theorem Behind.later {K : PySem.W.Frag} {H H' : Hp} {ρ ρ' : List Addr} {Q : D → Sto → Prop} {QQ : VK} (b : Behind K H ρ Q QQ) (l : Lat H ρ H' ρ') : Behind K H' ρ' Q QQ :=
  fun v d H2 ρ2 st2 l2 s2 h2 q => b v d H2 ρ2 st2 (l.trans l2) s2 h2 q
def BehindT (K : PySem.W.Frag) (H : Hp) (ρ : List Addr) (Q : Bool → Sto → Prop) (QQ : Bool → Hp → Prop) : Prop :=
  ∀ (b : Bool) (H' : Hp) (ρ' : List Addr) (st' : Sto), Lat H ρ H' ρ' → StOk K H' ρ' st' → Q b st' → QQ b H'
def BehindA (K : PySem.W.Frag) (H : Hp) (ρ : List Addr) (Q : List D → Sto → Prop) (QQ : List V → Hp → Prop) : Prop :=
  ∀ (vs : List V) (ds : List D) (H' : Hp) (ρ' : List Addr) (st' : Sto), Lat H ρ H' ρ' → StOk K H' ρ' st' → DeAll K H' ρ' vs ds → Q ds st' → QQ vs H'
structure LE (K : PySem.W.Frag) (H : Hp) (ρ : List Addr) (D : DEnds) (DD : Ends) : Prop where
  nx : ∀ σ Γ H' ρ' st', Lat H ρ H' ρ' → StOk K H' ρ' st' → SlOk K H' ρ' σ Γ → D.nx Γ st' → DD.nx σ H'
  rt : Behind K H ρ D.rt DD.rt
  bk : ∀ σ Γ H' ρ' st', Lat H ρ H' ρ' → StOk K H' ρ' st' → SlOk K H' ρ' σ Γ → D.bk Γ st' → DD.bk σ H'
  ct : ∀ σ Γ H' ρ' st', Lat H ρ H' ρ' → StOk K H' ρ' st' → SlOk K H' ρ' σ Γ → D.ct Γ st' → DD.ct σ H'
theorem LE.later {K : PySem.W.Frag} {H H' : Hp} {ρ ρ' : List Addr} {D : DEnds} {DD : Ends} (e : LE K H ρ D DD) (l : Lat H ρ H' ρ') : LE K H' ρ' D DD :=
  ⟨fun σ Γ H2 ρ2 st2 l2 s2 g2 q => e.nx σ Γ H2 ρ2 st2 (l.trans l2) s2 g2 q, e.rt.later l, fun σ Γ H2 ρ2 st2 l2 s2 g2 q => e.bk σ Γ H2 ρ2 st2 (l.trans l2) s2 g2 q, fun σ Γ H2 ρ2 st2 l2 s2 g2 q => e.ct σ Γ H2 ρ2 st2 (l.trans l2) s2 g2 q⟩

def SndE (K : PySem.W.Frag) (t : TE) (f : DTE) : Prop := ∀ {H : Hp} {ρ : List Addr} {σ : L2.St} {Γ : Sl} {st : Sto} {Q : D → Sto → Prop} {QQ : VK}, StOk K H ρ st → SlOk K H ρ σ Γ → f Γ st Q → Behind K H ρ Q QQ → t σ H QQ
def SndT (K : PySem.W.Frag) (t : TT) (f : DTT) : Prop := ∀ {H : Hp} {ρ : List Addr} {σ : L2.St} {Γ : Sl} {st : Sto} {Q : Bool → Sto → Prop} {QQ : Bool → Hp → Prop}, StOk K H ρ st → SlOk K H ρ σ Γ → f Γ st Q → BehindT K H ρ Q QQ → t σ H QQ
def SndA (K : PySem.W.Frag) (t : TA) (f : DTA) : Prop := ∀ {H : Hp} {ρ : List Addr} {σ : L2.St} {Γ : Sl} {st : Sto} {Q : List D → Sto → Prop} {QQ : List V → Hp → Prop}, StOk K H ρ st → SlOk K H ρ σ Γ → f Γ st Q → BehindA K H ρ Q QQ → t σ H QQ
def SndO (K : PySem.W.Frag) (t : TO) (f : DTO) : Prop := ∀ {H : Hp} {ρ : List Addr} {σ : L2.St} {Γ : Sl} {st : Sto} {Q : Option Int → Sto → Prop} {QQ : Option Int → Hp → Prop}, StOk K H ρ st → SlOk K H ρ σ Γ → f Γ st Q →
  (∀ o H' ρ' st', Lat H ρ H' ρ' → StOk K H' ρ' st' → Q o st' → QQ o H') → t σ H QQ
def SndS (K : PySem.W.Frag) (t : TS) (f : DTS) : Prop := ∀ {H : Hp} {ρ : List Addr} {σ : L2.St} {Γ : Sl} {st : Sto} {D : DEnds} {DD : Ends}, StOk K H ρ st → SlOk K H ρ σ Γ → f D Γ st → LE K H ρ D DD → t DD σ H
def SndG (K : PySem.W.Frag) (t : TG) (f : DTG) : Prop := ∀ {H : Hp} {ρ : List Addr} {σ : L2.St} {Γ : Sl} {st : Sto} {v : V} {d : D} {Q : Sl → Sto → Prop} {QQ : L2.St → Hp → Prop}, StOk K H ρ st → SlOk K H ρ σ Γ → De K H ρ v d → f d Γ st Q →
  (∀ σ' Γ' H' ρ' st', Lat H ρ H' ρ' → StOk K H' ρ' st' → SlOk K H' ρ' σ' Γ' → Q Γ' st' → QQ σ' H') → t v σ H QQ
def SndGs (K : PySem.W.Frag) (t : TGs) (f : DTGs) : Prop := ∀ {H : Hp} {ρ : List Addr} {σ : L2.St} {Γ : Sl} {st : Sto} {vs : List V} {ds : List D} {Q : Sl → Sto → Prop} {QQ : L2.St → Hp → Prop}, StOk K H ρ st → SlOk K H ρ σ Γ → DeAll K H ρ vs ds → f ds Γ st Q →
  (∀ σ' Γ' H' ρ' st', Lat H ρ H' ρ' → StOk K H' ρ' st' → SlOk K H' ρ' σ' Γ' → Q Γ' st' → QQ σ' H') → t vs σ H QQ
/-- a rule on two values, on one, on a list of them -/
def Snd2 (K : PySem.W.Frag) (r : R2) (g : DR2) : Prop := ∀ {H : Hp} {ρ : List Addr} {st : Sto} {x y : V} {dx dy : D} {Q : D → Sto → Prop} {QQ : VK}, StOk K H ρ st → De K H ρ x dx → De K H ρ y dy → g dx dy st Q → Behind K H ρ Q QQ → r x y H QQ
def Snd1 (K : PySem.W.Frag) (r : V → Hp → VK → Prop) (g : DR1) : Prop := ∀ {H : Hp} {ρ : List Addr} {st : Sto} {x : V} {dx : D} {Q : D → Sto → Prop} {QQ : VK}, StOk K H ρ st → De K H ρ x dx → g dx st Q → Behind K H ρ Q QQ → r x H QQ
def SndL (K : PySem.W.Frag) (r : List V → Hp → VK → Prop) (g : DRL) : Prop := ∀ {H : Hp} {ρ : List Addr} {st : Sto} {xs : List V} {ds : List D} {Q : D → Sto → Prop} {QQ : VK}, StOk K H ρ st → DeAll K H ρ xs ds → g ds st Q → Behind K H ρ Q QQ → r xs H QQ

structure DE (X : Cx) (e : Expr) (t : TE) (f : DTE) : Prop where
  pe : PE X e t
  snd : SndE X.K t f
structure DT (X : Cx) (e : Expr) (t : TT) (f : DTT) : Prop where
  pt : PT X e t
  snd : SndT X.K t f
structure DW (X : Cx) (e : Expr) (t : TT) (f : DTT) : Prop where
  pw : PW X e t
  snd : SndT X.K t f
structure DA (X : Cx) (es : List Expr) (t : TA) (f : DTA) : Prop where
  pa : PA X es t
  snd : SndA X.K t f
structure DK (X : Cx) (ks : List Keyword) (t : TA) (f : DTA) : Prop where
  pk : PK X ks t
  snd : SndA X.K t f
structure DO (X : Cx) (e : Option Expr) (t : TO) (f : DTO) : Prop where
  po : PO X e t
  snd : SndO X.K t f
structure DS (X : Cx) (s : Stmt) (t : TS) (f : DTS) : Prop where
  ps : PS X s t
  snd : SndS X.K t f
structure DSs (X : Cx) (s : List Stmt) (t : TS) (f : DTS) : Prop where
  ps : PSs X s t
  snd : SndS X.K t f
structure DG (X : Cx) (e : Expr) (t : TG) (f : DTG) : Prop where
  pg : PG X e t
  snd : SndG X.K t f
structure DGs (X : Cx) (es : List Expr) (t : TGs) (f : DTGs) : Prop where
  pg : PGs X es t
  snd : SndGs X.K t f

/-! ### names, constants, operators -/
def fVar (i : Nat) : DTE := fun Γ st Q => match Γ[i]? with
  | some (some d) => Q d st
  | _ => False
def fC (d : D) : DTE := fun _ st Q => Q d st
def fBin (g : DR2) (fa fb : DTE) : DTE := fun Γ st Q => fa Γ st fun x st1 => fb Γ st1 fun y st2 => g x y st2 Q
def fUn (g : DR1) (fa : DTE) : DTE := fun Γ st Q => fa Γ st fun x st1 => g x st1 Q
section
variable {X : Cx} {a b c : Expr} {ta tb tc : TE} {fa fb fc : DTE} {pos : Pos}
theorem dv (i : Nat) {x : Str} (hN : X.N[i]? = some x := by rfl) (hv : Vis X.env.scope x := by first | exact Or.inl rfl | exact Or.inr (Or.inl rfl) | exact Or.inr (Or.inr rfl)) (hd : (x == ("__debug__" : Str)) = false := by decide)
    (hcd : (x == ("__classdict__" : Str)) = false := by decide) : DE X (.Name x pos) (tVar i) (fVar i) where
  pe := pe_var hN hv hd hcd
  snd := fun {H ρ σ Γ st Q QQ} s g h k => by
    unfold fVar at h
    split at h
    · rename_i d e
      obtain ⟨v, h1, h2⟩ := g.at_ i d e
      exact ⟨v, h1, k v d _ _ _ .refl s h2 h⟩
    · exact h.elim
theorem d_int {i : Int} {j : Nat} : DE X (.Constant (.int i) j pos) (tC (.int i)) (fC (.int i)) := ⟨pe_int, fun s _ h k => k _ _ _ _ _ .refl s De.i h⟩
theorem d_bl {b : Bool} {j : Nat} : DE X (.Constant (.bool b) j pos) (tC (.bl b)) (fC (.bl b)) := ⟨pe_bl, fun s _ h k => k _ _ _ _ _ .refl s De.b h⟩
theorem d_non {j : Nat} : DE X (.Constant .none j pos) (tC .non) (fC .non) := ⟨pe_non, fun s _ h k => k _ _ _ _ _ .refl s De.n h⟩
theorem d_str {x : Str} {j : Nat} : DE X (.Constant (.str x) j pos) (tC (.str x)) (fC (.str x)) := ⟨pe_str, fun s _ h k => k _ _ _ _ _ .refl s De.s h⟩
theorem d_op {op : Operator} {r : R2} {g : DR2} (ho : OpR X (binaryOp op) r) (hg : Snd2 X.K r g) (ha : DE X a ta fa) (hb : DE X b tb fb) : DE X (.BinOp a op b pos) (tOp r ta tb) (fBin g fa fb) :=
  ⟨pe_op ho ha.pe hb.pe, fun s G h k => ha.snd s G h fun x dx H1 ρ1 st1 l1 s1 h1 q1 => hb.snd s1 (G.mono l1) q1 fun y dy H2 ρ2 st2 l2 s2 h2 q2 => hg s2 (De.mono l2 _ h1) h2 q2 (k.later (l1.trans l2))⟩
theorem d_un {op : UnaryOp} {r : V → Hp → VK → Prop} {g : DR1} (ho : UnR X (unaryOp op) r) (hg : Snd1 X.K r g) (ha : DE X a ta fa) : DE X (.UnaryOp op a pos) (tUn r ta) (fUn g fa) :=
  ⟨pe_un ho ha.pe, fun s G h k => ha.snd s G h fun x dx H1 ρ1 st1 l1 s1 h1 q1 => hg s1 h1 q1 (k.later l1)⟩
theorem d_cmp {op : CmpOp} {r : R2} {g : DR2} (ho : OpR X (compareOp op) r) (hg : Snd2 X.K r g) (ha : DE X a ta fa) (hb : DE X b tb fb) (hm : behindInMarks op b = false) : DE X (.Compare a [op] [b] pos) (tOp r ta tb) (fBin g fa fb) :=
  ⟨pe_cmpR ho ha.pe hb.pe hm, fun s G h k => ha.snd s G h fun x dx H1 ρ1 st1 l1 s1 h1 q1 => hb.snd s1 (G.mono l1) q1 fun y dy H2 ρ2 st2 l2 s2 h2 q2 => hg s2 (De.mono l2 _ h1) h2 q2 (k.later (l1.trans l2))⟩
/-- a test that is a bool value -/
def fTest (f : DTE) : DTT := fun Γ st Q => f Γ st fun x st1 => match x with
  | .bl b => Q b st1
  | _ => False
theorem snd_test {K : PySem.W.Frag} {t : TE} {f : DTE} (h : SndE K t f) : SndT K (tTest t) (fTest f) := fun s G q k => h s G q fun v d H1 ρ1 st1 l1 s1 h1 q1 => by
  cases d with
  | bl b => exact ⟨b, h1, k _ _ _ _ l1 s1 q1⟩
  | _ => exact q1.elim
theorem dt_cmp {op : CmpOp} {r : R2} {g : DR2} (ho : OpR X (compareOp op) r) (hg : Snd2 X.K r g) (ha : DE X a ta fa) (hb : DE X b tb fb) (hm : behindInMarks op b = false) : DT X (.Compare a [op] [b] pos) (tTest (tOp r ta tb)) (fTest (fBin g fa fb)) :=
  ⟨pt_cmpR ho ha.pe hb.pe hm, snd_test (d_cmp (pos := pos) ho hg ha hb hm).snd⟩
/-- truth -/
def truD (d : D) (st : Sto) : Option Bool := match d with
  | .non => some false
  | .bl b => some b
  | .int i => some (i != 0)
  | .tup xs => some (!xs.isEmpty)
  | .ref n => (match st[n]? with
    | some (.lst xs) => some (!xs.isEmpty)
    | _ => none)
  | .str _ => none
  | .kl _ => none
def fTru (f : DTE) : DTT := fun Γ st Q => f Γ st fun x st1 => match truD x st1 with
  | some b => Q b st1
  | none => False
theorem tru_snd {K : PySem.W.Frag} {H : Hp} {ρ : List Addr} {st : Sto} {v : V} {d : D} {b : Bool} (s : StOk K H ρ st) (h : De K H ρ v d) (e : truD d st = some b) : TruV K v H b := by
  cases d with
  | non => cases h; cases e; rfl
  | bl c => cases h; cases e; rfl
  | int i => cases h; cases e; rfl
  | str x => cases e
  | kl ds => cases e
  | tup ds =>
    obtain ⟨a, xs, rfl, hs, hd⟩ := h
    cases e
    exact .inr (.inl ⟨xs, hs, by rw [hd.isEmpty]⟩)
  | ref n =>
    obtain ⟨a, ha, rfl⟩ := h
    unfold truD at e
    dsimp only at e
    split at e
    · rename_i ds q
      obtain ⟨vs, h1, h2⟩ := s.lst q ha
      cases e
      exact .inl ⟨vs, SqL.of h1, by rw [h2.isEmpty]⟩
    · cases e
theorem dt_tru (ha : DE X a ta fa) (he : ∀ whole, isTrue a X.env whole = (do let v ← whole; standAt a.pos; holding [v] (truthy v)) := by intro _; rfl) :
    DT X a (fun σ H Q => ta σ H fun x H' => ∃ k, TruV X.K x H' k ∧ Q k H') (fTru fa) :=
  ⟨pt_truth ha.pe he, fun s G h k => ha.snd s G h fun v d H1 ρ1 st1 l1 s1 h1 q1 => by
    split at q1
    · rename_i b e
      exact ⟨b, tru_snd s1 h1 e, k _ _ _ _ l1 s1 q1⟩
    · exact q1.elim⟩
/-! ### and, or, not -/
variable {t u : TT} {f g : DTT} {rest : List Expr}
def fAnd (f g : DTT) : DTT := fun Γ st Q => f Γ st fun c st1 => if c = true then g Γ st1 Q else Q false st1
def fOr (f g : DTT) : DTT := fun Γ st Q => f Γ st fun c st1 => if c = true then Q true st1 else g Γ st1 Q
def fNot (f : DTT) : DTT := fun Γ st Q => f Γ st fun c st1 => Q (!c) st1
theorem BehindT.later {K : PySem.W.Frag} {H H' : Hp} {ρ ρ' : List Addr} {Q : Bool → Sto → Prop} {QQ : Bool → Hp → Prop} (b : BehindT K H ρ Q QQ) (l : Lat H ρ H' ρ') : BehindT K H' ρ' Q QQ :=
  fun c H2 ρ2 st2 l2 s2 q => b c H2 ρ2 st2 (l.trans l2) s2 q
theorem dw_and1 (ha : DT X a t f) : DW X (.BoolOp .And [a] pos) t f := ⟨pw_and1 ha.pt, ha.snd⟩
theorem dw_or1 (ha : DT X a t f) : DW X (.BoolOp .Or [a] pos) t f := ⟨pw_or1 ha.pt, ha.snd⟩
theorem dw_and (ha : DT X a t f) (hb : DW X (.BoolOp .And (b :: rest) pos) u g) : DW X (.BoolOp .And (a :: b :: rest) pos) (tAnd t u) (fAnd f g) :=
  ⟨pw_and ha.pt hb.pw, fun s G h k => ha.snd s G h fun c H1 ρ1 st1 l1 s1 q1 => by
    cases c with
    | true => exact hb.snd s1 (G.mono l1) q1 (k.later l1)
    | false => exact k _ _ _ _ l1 s1 q1⟩
theorem dw_or (ha : DT X a t f) (hb : DW X (.BoolOp .Or (b :: rest) pos) u g) : DW X (.BoolOp .Or (a :: b :: rest) pos) (tOr t u) (fOr f g) :=
  ⟨pw_or ha.pt hb.pw, fun s G h k => ha.snd s G h fun c H1 ρ1 st1 l1 s1 q1 => by
    cases c with
    | true => exact k _ _ _ _ l1 s1 q1
    | false => exact hb.snd s1 (G.mono l1) q1 (k.later l1)⟩
theorem dw_pt (h : DW X a t f) : DT X a t f := ⟨h.pw.pt, h.snd⟩
theorem dt_not (ha : DT X a t f) : DT X (.UnaryOp .Not a pos) (tNot t) (fNot f) := ⟨pt_not ha.pt, fun s G h k => ha.snd s G h fun c H1 ρ1 st1 l1 s1 q1 => k _ _ _ _ l1 s1 q1⟩
/-- as values, of bools -/
def fAndV (fa fb : DTE) : DTE := fun Γ st Q => fa Γ st fun x st1 => match x with
  | .bl true => fb Γ st1 Q
  | .bl false => Q (.bl false) st1
  | _ => False
def fOrV (fa fb : DTE) : DTE := fun Γ st Q => fa Γ st fun x st1 => match x with
  | .bl true => Q (.bl true) st1
  | .bl false => fb Γ st1 Q
  | _ => False
def fNotV (fa : DTE) : DTE := fun Γ st Q => fa Γ st fun x st1 => match x with
  | .bl c => Q (.bl (!c)) st1
  | _ => False
theorem d_one {op : BoolOp} (h : DE X a ta fa) : DE X (.BoolOp op [a] pos) ta fa := ⟨pe_one h.pe, h.snd⟩
theorem d_and (ha : DE X a ta fa) (hb : DE X (.BoolOp .And (b :: rest) pos) tb fb) : DE X (.BoolOp .And (a :: b :: rest) pos) (tAndV ta tb) (fAndV fa fb) :=
  ⟨pe_and ha.pe hb.pe, fun s G h k => ha.snd s G h fun v d H1 ρ1 st1 l1 s1 h1 q1 => by
    cases d with
    | bl c =>
      refine ⟨c, h1, ?_⟩
      cases c with
      | true => exact hb.snd s1 (G.mono l1) q1 (k.later l1)
      | false => exact k _ _ _ _ _ l1 s1 De.b q1
    | _ => exact q1.elim⟩
theorem d_or (ha : DE X a ta fa) (hb : DE X (.BoolOp .Or (b :: rest) pos) tb fb) : DE X (.BoolOp .Or (a :: b :: rest) pos) (tOrV ta tb) (fOrV fa fb) :=
  ⟨pe_or ha.pe hb.pe, fun s G h k => ha.snd s G h fun v d H1 ρ1 st1 l1 s1 h1 q1 => by
    cases d with
    | bl c =>
      refine ⟨c, h1, ?_⟩
      cases c with
      | true => exact k _ _ _ _ _ l1 s1 De.b q1
      | false => exact hb.snd s1 (G.mono l1) q1 (k.later l1)
    | _ => exact q1.elim⟩
theorem d_not (ha : DE X a ta fa) : DE X (.UnaryOp .Not a pos) (tNotV ta) (fNotV fa) :=
  ⟨pe_not ha.pe, fun s G h k => ha.snd s G h fun v d H1 ρ1 st1 l1 s1 h1 q1 => by
    cases d with
    | bl c => exact ⟨c, h1, k _ _ _ _ _ l1 s1 De.b q1⟩
    | _ => exact q1.elim⟩
def fIf (f : DTT) (fa fb : DTE) : DTE := fun Γ st Q => f Γ st fun c st1 => if c = true then fa Γ st1 Q else fb Γ st1 Q
theorem d_if (hc : DT X c t f) (ha : DE X a ta fa) (hb : DE X b tb fb) : DE X (.IfExp c a b pos) (tIf t ta tb) (fIf f fa fb) :=
  ⟨pe_ifExp hc.pt ha.pe hb.pe, fun s G h k => hc.snd s G h fun c H1 ρ1 st1 l1 s1 q1 => by
    cases c with
    | true => exact ha.snd s1 (G.mono l1) q1 (k.later l1)
    | false => exact hb.snd s1 (G.mono l1) q1 (k.later l1)⟩
/-! ### displays, arguments -/
variable {es : List Expr} {tA : TA} {fA : DTA}
def fNil : DTA := fun _ st Q => Q [] st
def fCons (fa : DTE) (fr : DTA) : DTA := fun Γ st Q => fa Γ st fun x st1 => fr Γ st1 fun xs st2 => Q (x :: xs) st2
theorem da_nil : DA X [] tNil fNil := ⟨pa_nil, fun s _ h k => k _ _ _ _ _ .refl s DeAll.nil h⟩
theorem da_cons (ha : DE X a ta fa) (hr : DA X es tA fA) (hs : starEach (a :: es) X.env = (false, eval a X.env) :: starEach es X.env := by rfl) : DA X (a :: es) (tCons ta tA) (fCons fa fA) :=
  ⟨pa_cons ha.pe hr.pa hs, fun s G h k => ha.snd s G h fun v d H1 ρ1 st1 l1 s1 h1 q1 => hr.snd s1 (G.mono l1) q1 fun vs ds H2 ρ2 st2 l2 s2 h2 q2 => k _ _ _ _ _ (l1.trans l2) s2 (.cons (De.mono l2 _ h1) h2) q2⟩
def fTup (fA : DTA) : DTE := fun Γ st Q => fA Γ st fun ds st1 => ds.length ≤ 1000 ∧ Q (.tup ds) st1
def fLst (fA : DTA) : DTE := fun Γ st Q => fA Γ st fun ds st1 => ds.length ≤ 1000 ∧ Q (.ref st1.length) (st1 ++ [.lst ds])
theorem le_line {n : Nat} (h : n ≤ 1000) : n ≤ sizeLine := Nat.le_of_lt (small1000 h)
theorem d_tup {x1} (h : DA X es tA fA) : DE X (.Tuple es x1 pos) (tTup tA) (fTup fA) :=
  ⟨pe_tup h.pa, fun s G q k => h.snd s G q fun vs ds H1 ρ1 st1 l1 s1 h1 q1 => ⟨by rw [h1.length]; exact le_line q1.1, fun p hp => k _ _ _ _ _ (l1.trans (Lat.fresh hp)) (s1.fresh hp) (De.t (SqT.of upd_same) (DeAll.mono (Lat.fresh hp) _ h1)) q1.2⟩⟩
theorem d_lst (h : DA X es tA fA) : DE X (.List es pos) (tLst tA) (fLst fA) :=
  ⟨pe_lst h.pa, fun s G q k => h.snd s G q fun vs ds H1 ρ1 st1 l1 s1 h1 q1 => ⟨by rw [h1.length]; exact le_line q1.1, fun p hp => k _ _ _ _ _ (l1.trans ((Lat.fresh hp).grow p)) (s1.newL hp h1) (De.r s1.newAt) q1.2⟩⟩
end
end Y
namespace Y
open PySem PySem.Spec PyProof.Rows L2

def lim : Nat := 100000
theorem lim_le {n : Nat} (h : n ≤ lim) : n ≤ sizeLine := Nat.le_trans h (by rw [sizeLine_eq]; decide)
theorem lim_lt {n : Nat} (h : n < lim) : n < sizeLine := Nat.lt_of_lt_of_le h (by rw [sizeLine_eq]; decide)

/-! ### sequences -/
def seqOb : Ob → Option (List D)
  | .lst xs => some xs
  | .ro xs => some xs
  | _ => none
/-- a list's items; a list's or tuple's items -/
def lsD (st : Sto) : D → Option (List D)
  | .ref n => st[n]?.bind seqOb
  | _ => none
def sqD (st : Sto) : D → Option (List D)
  | .tup xs => some xs
  | .ref n => st[n]?.bind seqOb
  | _ => none
section
variable {K : PySem.W.Frag} {H : Hp} {ρ : List Addr} {st : Sto}
theorem StOk.sqL {n : Nat} {o : Ob} {a : Addr} {ds : List D} (s : StOk K H ρ st) (h : st[n]? = some o) (e : seqOb o = some ds) (ha : ρ[n]? = some a) : ∃ vs, SqL K H a vs ∧ DeAll K H ρ vs ds := by
  have q := s.ob n o a h ha
  cases o with
  | lst xs => cases e; obtain ⟨vs, h1, h2⟩ := q; exact ⟨vs, SqL.of h1, h2⟩
  | ro xs =>
    cases e
    obtain ⟨vs, h1, h2⟩ := q
    obtain ⟨o, h1⟩ := h1
    exact ⟨vs, .inl (.inr ⟨o, h1⟩), h2⟩
  | ins C fs => cases e
  | gone => cases e
theorem ls_snd {v : V} {d : D} {ds : List D} (s : StOk K H ρ st) (h : De K H ρ v d) (e : lsD st d = some ds) : ∃ a vs, v = .ref a ∧ SqL K H a vs ∧ DeAll K H ρ vs ds := by
  cases d with
  | ref n =>
    obtain ⟨a, ha, rfl⟩ := h
    have e1 : st[n]?.bind seqOb = some ds := e
    cases q : st[n]? with
    | none => rw [q] at e1; cases e1
    | some o =>
      rw [q] at e1
      obtain ⟨vs, h1, h2⟩ := s.sqL q e1 ha
      exact ⟨a, vs, rfl, h1, h2⟩
  | _ => cases e
theorem sq_snd {v : V} {d : D} {ds : List D} (s : StOk K H ρ st) (h : De K H ρ v d) (e : sqD st d = some ds) : ∃ a vs, v = .ref a ∧ (SqL K H a vs ∨ SqT K H a vs) ∧ DeAll K H ρ vs ds := by
  cases d with
  | tup xs =>
    cases e
    obtain ⟨a, vs, rfl, h1, h2⟩ := h
    exact ⟨a, vs, rfl, .inr h1, h2⟩
  | ref n =>
    obtain ⟨a, vs, h1, h2, h3⟩ := ls_snd (ds := ds) s h e
    exact ⟨a, vs, h1, .inl h2, h3⟩
  | _ => cases e
end

/-! ### arithmetic -/
def gI2 (C : Int → Int → Prop) (g : Int → Int → D) : DR2 := fun x y st Q => match x, y with
  | .int i, .int j => C i j ∧ Q (g i j) st
  | _, _ => False
def gI (g : Int → Int → D) : DR2 := fun x y st Q => match x, y with
  | .int i, .int j => Q (g i j) st
  | _, _ => False
section
variable {K : PySem.W.Frag}
theorem snd_I {C : Int → Int → Prop} {gv : Int → Int → V} {gd : Int → Int → D} (e : ∀ i j H ρ, De K H ρ (gv i j) (gd i j)) : Snd2 K (rI C gv) (gI2 C gd) := fun s hx hy q k => by
  unfold gI2 at q
  split at q
  · exact ⟨_, _, hx, hy, q.1, k _ _ _ _ _ .refl s (e _ _ _ _) q.2⟩
  · exact q.elim
theorem snd_I0 {gv : Int → Int → V} {gd : Int → Int → D} (e : ∀ i j H ρ, De K H ρ (gv i j) (gd i j)) : Snd2 K (rI0 gv) (gI gd) := fun s hx hy q k => by
  unfold gI at q
  split at q
  · exact ⟨_, _, hx, hy, k _ _ _ _ _ .refl s (e _ _ _ _) q⟩
  · exact q.elim
end
/-- the divisor of a division -/
def DvOk (j : Int) : Prop := j ≠ 0 ∧ j.natAbs.log2 < 9000
section
variable {X : Cx}
theorem op_mulA : OpR X (binaryOp .Mult) (rI IntMulOk fun i j => .int (i * j)) := opI fun _ _ _ _ _ _ _ hc q => mul_int q hc
theorem iop_mulA : OpR X (inplaceOp .Mult) (rI IntMulOk fun i j => .int (i * j)) := opI fun _ _ _ _ _ _ _ hc q => imul_int q hc
theorem op_dvA : OpR X (binaryOp .FloorDiv) (rI (fun _ j => DvOk j) fun i j => .int (i.fdiv j)) := opI fun _ _ _ _ _ _ _ hc q => floordiv_int hc.1 q (.inl (PyProof.noPylong_of_log2 hc.2))
end
/-- + -/
def gAdd : DR2 := fun x y st Q => match x, y with
  | .int i, .int j => Q (.int (i + j)) st
  | .tup a, .tup b => a.length + b.length ≤ lim ∧ Q (.tup (a ++ b)) st
  | .ref m, .ref n => (match st[m]?, st[n]? with
    | some (.lst a), some (.lst b) => a.length + b.length ≤ lim ∧ Q (.ref st.length) (st ++ [.lst (a ++ b)])
    | _, _ => False)
  | .str a, .str b => a.length + b.length ≤ lim ∧ Q (.str (a ++ b)) st
  | _, _ => False
def rAddR (K : PySem.W.Frag) : R2 := fun x y H Q => rI0 (fun i j => .int (i + j)) x y H Q ∨ (rCatA K x y H Q ∨ (rCat x y H Q ∨ (∃ i j, x = .str i ∧ y = .str j ∧ i.length + j.length ≤ sizeLine ∧ Q (.str (i ++ j)) H)))
theorem op_addR {X : Cx} : OpR X (binaryOp .Add) (rAddR X.K) := op_add.or (op_catA.or (op_cat.or op_add_str))
theorem snd_add {K : PySem.W.Frag} : Snd2 K (rAddR K) gAdd := fun {H ρ st x y dx dy Q QQ} s hx hy q k => by
  unfold gAdd at q
  split at q
  · exact .inl ⟨_, _, hx, hy, k _ _ _ _ _ .refl s De.i q⟩
  · rename_i a b
    obtain ⟨p, us, rfl, h1, h2⟩ := hx
    obtain ⟨r, ws, rfl, h3, h4⟩ := hy
    refine .inr (.inl ⟨p, r, us, ws, rfl, rfl, h1, h3, by rw [h2.length, h4.length]; exact lim_le q.1, fun e => ?_, fun e1 e2 => ?_, fun _ _ p hp => ?_⟩)
    · have e' := h2.nil_iff.mp e
      rw [e', List.nil_append] at q
      exact k _ _ _ _ _ .refl s (De.t h3 h4) q.2
    · have e' := h4.nil_iff.mp e2
      rw [e', List.append_nil] at q
      exact k _ _ _ _ _ .refl s (De.t h1 h2) q.2
    · exact k _ _ _ _ _ (Lat.fresh hp) (s.fresh hp) (De.t (SqT.of upd_same) (DeAll.mono (Lat.fresh hp) _ (h2.append h4))) q.2
  · rename_i m n
    obtain ⟨p, hp, rfl⟩ := hx
    obtain ⟨r, hr, rfl⟩ := hy
    split at q
    · rename_i a b e1 e2
      obtain ⟨us, h1, h2⟩ := s.lst e1 hp
      obtain ⟨ws, h3, h4⟩ := s.lst e2 hr
      refine .inr (.inr (.inl ⟨p, r, us, ws, rfl, rfl, h1, h3, by rw [h2.length, h4.length]; exact lim_le q.1, fun z hz => ?_⟩))
      exact k _ _ _ _ _ ((Lat.fresh hz).grow z) (s.newL hz (h2.append h4)) (De.r s.newAt) q.2
    · exact q.elim
  · exact .inr (.inr (.inr ⟨_, _, hx, hy, lim_le q.1, k _ _ _ _ _ .refl s De.s q.2⟩))
  · exact q.elim
/-- * -/
def gMul : DR2 := fun x y st Q => match x, y with
  | .int i, .int j => IntMulOk i j ∧ Q (.int (i * j)) st
  | .ref m, .int k => (match st[m]? with
    | some (.lst a) => -1000000 ≤ k ∧ a.length * k.toNat ≤ lim ∧ k ≤ 1000000 ∧ Q (.ref st.length) (st ++ [.lst (List.replicate k.toNat a).flatten])
    | _ => False)
  | _, _ => False
def rMulR : R2 := fun x y H Q => rI IntMulOk (fun i j => .int (i * j)) x y H Q ∨ rRep x y H Q
theorem op_mulR {X : Cx} : OpR X (binaryOp .Mult) rMulR := op_mulA.or op_rep
theorem snd_mul {K : PySem.W.Frag} : Snd2 K rMulR gMul := fun {H ρ st x y dx dy Q QQ} s hx hy q k => by
  unfold gMul at q
  split at q
  · exact .inl ⟨_, _, hx, hy, q.1, k _ _ _ _ _ .refl s De.i q.2⟩
  · rename_i m n
    obtain ⟨p, hp, rfl⟩ := hx
    cases hy
    split at q
    · rename_i a e1
      obtain ⟨us, h1, h2⟩ := s.lst e1 hp
      obtain ⟨q1, q2, q3, q4⟩ := q
      refine .inr ⟨p, n, us, rfl, rfl, h1, by omega, by omega, by rw [h2.length]; exact lim_le q2, fun z hz => ?_⟩
      exact k _ _ _ _ _ ((Lat.fresh hz).grow z) (s.newL hz (h2.rep _)) (De.r s.newAt) q4
    · exact q.elim
  · exact q.elim
def gDiv : DR2 := gI2 (fun _ j => DvOk j) fun i j => .int (i.fdiv j)
def gMod : DR2 := gI2 (fun _ j => j ≠ 0) fun i j => .int (i.fmod j)
def b2z (b : Bool) : Int := if b = true then 1 else 0
def gSub : DR2 := fun x y st Q => match x, y with
  | .int i, .int j => Q (.int (i - j)) st
  | .bl i, .bl j => Q (.int (b2z i - b2z j)) st
  | _, _ => False
def gAddI : DR2 := gI fun i j => .int (i + j)
def gSubI : DR2 := gI fun i j => .int (i - j)
def gMulI : DR2 := gI2 IntMulOk fun i j => .int (i * j)
def gPow : DR2 := gI2 CPow fun i j => .int (i ^ j.toNat)
def gNeg : DR1 := fun x st Q => match x with
  | .int i => Q (.int (-i)) st
  | _ => False
def gLt : DR2 := gI fun i j => .bl (decide (i < j))
def gLe : DR2 := gI fun i j => .bl (decide (i ≤ j))
def gGt : DR2 := gI fun i j => .bl (decide (j < i))
def gGe : DR2 := gI fun i j => .bl (decide (j ≤ i))
/-- == of scalars -/
def gEq : DR2 := fun x y st Q => match x, y with
  | .int i, .int j => Q (.bl (decide (i = j))) st
  | .bl i, .bl j => Q (.bl (decide (i = j))) st
  | .str i, .str j => Q (.bl (decide (i = j))) st
  | _, _ => False
def gNe : DR2 := fun x y st Q => gEq x y st fun d st1 => match d with
  | .bl b => Q (.bl (!b)) st1
  | _ => False
def rSubR : R2 := fun x y H Q => rI0 (fun i j => .int (i - j)) x y H Q ∨ ∃ i j, x = .bl i ∧ y = .bl j ∧ Q (.int (b2z i - b2z j)) H
theorem op_subR {X : Cx} : OpR X (binaryOp .Sub) rSubR := op_sub.or (by
  intro pins s σ H x y v u Q I rx ry ⟨i, j, e1, e2, q⟩
  subst e1; subst e2
  cases rx; cases ry
  exact PyProof.Rows.sub_bool ⟨.int _, H, I.tok _, ⟨_, rfl⟩, q⟩)
theorem snd_sub {K : PySem.W.Frag} : Snd2 K rSubR gSub := fun s hx hy q k => by
  unfold gSub at q
  split at q
  · exact .inl ⟨_, _, hx, hy, k _ _ _ _ _ .refl s De.i q⟩
  · exact .inr ⟨_, _, hx, hy, k _ _ _ _ _ .refl s De.i q⟩
  · exact q.elim
abbrev rDvR : R2 := rI (fun _ j => DvOk j) fun i j => .int (i.fdiv j)
abbrev rModR : R2 := rI (fun _ j => j ≠ 0) fun i j => .int (i.fmod j)
abbrev rPowR : R2 := rI CPow fun i j => .int (i ^ j.toNat)
abbrev rNegR : V → Hp → VK → Prop := rU fun i => .int (-i)
abbrev rLtR : R2 := rI0 fun i j => .bl (decide (i < j))
abbrev rLeR : R2 := rI0 fun i j => .bl (decide (i ≤ j))
abbrev rGtR : R2 := rI0 fun i j => .bl (decide (j < i))
abbrev rGeR : R2 := rI0 fun i j => .bl (decide (j ≤ i))
abbrev rIsNR : R2 := fun x y H Q => y = .non ∧ Q (.bl (decide (x = .non))) H
abbrev rNotNR : R2 := fun x y H Q => y = .non ∧ Q (.bl (!decide (x = .non))) H
section
variable {X : Cx} {K : PySem.W.Frag} {a b : Expr} {ta tb : TE} {fa fb : DTE} {pos : Pos}
theorem vdec {α : Type} {f : α → V} [DecidableEq α] (inj : ∀ x y, f x = f y → x = y) (x y : α) : decide (f x = f y) = decide (x = y) := by
  by_cases h : x = y
  · subst h; simp
  · rw [decide_eq_false h, decide_eq_false fun e => h (inj _ _ e)]
theorem snd_eq : Snd2 K rEq gEq := fun s hx hy q k => by
  unfold gEq at q
  split at q
  · cases hx; cases hy
    exact ⟨rfl, k _ _ _ _ _ .refl s (by rw [vdec (fun _ _ => V.int.inj)]; exact De.b) q⟩
  · cases hx; cases hy
    exact ⟨rfl, k _ _ _ _ _ .refl s (by rw [vdec (fun _ _ => V.bl.inj)]; exact De.b) q⟩
  · cases hx; cases hy
    exact ⟨rfl, k _ _ _ _ _ .refl s (by rw [vdec (fun _ _ => V.str.inj)]; exact De.b) q⟩
  · exact q.elim
theorem snd_ne : Snd2 K rNe gNe := fun s hx hy q k => by
  unfold gNe gEq at q
  split at q
  · cases hx; cases hy
    exact ⟨rfl, k _ _ _ _ _ .refl s (by rw [vdec (fun _ _ => V.int.inj)]; exact De.b) q⟩
  · cases hx; cases hy
    exact ⟨rfl, k _ _ _ _ _ .refl s (by rw [vdec (fun _ _ => V.bl.inj)]; exact De.b) q⟩
  · cases hx; cases hy
    exact ⟨rfl, k _ _ _ _ _ .refl s (by rw [vdec (fun _ _ => V.str.inj)]; exact De.b) q⟩
  · exact q.elim
theorem snd_neg : Snd1 K (rU fun i => .int (-i)) gNeg := fun s hx q k => by
  unfold gNeg at q
  split at q
  · exact ⟨_, hx, k _ _ _ _ _ .refl s De.i q⟩
  · exact q.elim
theorem d_add (ha : DE X a ta fa) (hb : DE X b tb fb) : DE X (.BinOp a .Add b pos) (tOp (rAddR X.K) ta tb) (fBin gAdd fa fb) := d_op op_addR snd_add ha hb
theorem d_mul (ha : DE X a ta fa) (hb : DE X b tb fb) : DE X (.BinOp a .Mult b pos) (tOp rMulR ta tb) (fBin gMul fa fb) := d_op op_mulR snd_mul ha hb
theorem d_sub (ha : DE X a ta fa) (hb : DE X b tb fb) : DE X (.BinOp a .Sub b pos) (tOp rSubR ta tb) (fBin gSub fa fb) := d_op op_subR snd_sub ha hb
theorem d_dv (ha : DE X a ta fa) (hb : DE X b tb fb) : DE X (.BinOp a .FloorDiv b pos) (tOp rDvR ta tb) (fBin gDiv fa fb) := d_op op_dvA (snd_I fun _ _ _ _ => De.i) ha hb
theorem d_mod (ha : DE X a ta fa) (hb : DE X b tb fb) : DE X (.BinOp a .Mod b pos) (tOp rModR ta tb) (fBin gMod fa fb) := d_op op_modN (snd_I fun _ _ _ _ => De.i) ha hb
theorem d_pow (ha : DE X a ta fa) (hb : DE X b tb fb) : DE X (.BinOp a .Pow b pos) (tOp rPowR ta tb) (fBin gPow fa fb) := d_op op_pow (snd_I fun _ _ _ _ => De.i) ha hb
theorem d_neg (ha : DE X a ta fa) : DE X (.UnaryOp .USub a pos) (tUn rNegR ta) (fUn gNeg fa) := d_un un_neg snd_neg ha
theorem d_lt (ha : DE X a ta fa) (hb : DE X b tb fb) : DE X (.Compare a [.Lt] [b] pos) (tOp rLtR ta tb) (fBin gLt fa fb) := d_cmp op_lt (snd_I0 fun _ _ _ _ => De.b) ha hb (nomark _)
theorem d_le (ha : DE X a ta fa) (hb : DE X b tb fb) : DE X (.Compare a [.LtE] [b] pos) (tOp rLeR ta tb) (fBin gLe fa fb) := d_cmp op_le (snd_I0 fun _ _ _ _ => De.b) ha hb (nomark _)
theorem d_gt (ha : DE X a ta fa) (hb : DE X b tb fb) : DE X (.Compare a [.Gt] [b] pos) (tOp rGtR ta tb) (fBin gGt fa fb) := d_cmp op_gt (snd_I0 fun _ _ _ _ => De.b) ha hb (nomark _)
theorem d_ge (ha : DE X a ta fa) (hb : DE X b tb fb) : DE X (.Compare a [.GtE] [b] pos) (tOp rGeR ta tb) (fBin gGe fa fb) := d_cmp op_ge (snd_I0 fun _ _ _ _ => De.b) ha hb (nomark _)
theorem d_eq (ha : DE X a ta fa) (hb : DE X b tb fb) : DE X (.Compare a [.Eq] [b] pos) (tOp rEq ta tb) (fBin gEq fa fb) := d_cmp op_eq snd_eq ha hb (nomark _)
theorem d_ne (ha : DE X a ta fa) (hb : DE X b tb fb) : DE X (.Compare a [.NotEq] [b] pos) (tOp rNe ta tb) (fBin gNe fa fb) := d_cmp op_ne snd_ne ha hb (nomark _)
theorem dt_lt (ha : DE X a ta fa) (hb : DE X b tb fb) : DT X (.Compare a [.Lt] [b] pos) (tTest (tOp rLtR ta tb)) (fTest (fBin gLt fa fb)) := dt_cmp op_lt (snd_I0 fun _ _ _ _ => De.b) ha hb (nomark _)
theorem dt_le (ha : DE X a ta fa) (hb : DE X b tb fb) : DT X (.Compare a [.LtE] [b] pos) (tTest (tOp rLeR ta tb)) (fTest (fBin gLe fa fb)) := dt_cmp op_le (snd_I0 fun _ _ _ _ => De.b) ha hb (nomark _)
theorem dt_gt (ha : DE X a ta fa) (hb : DE X b tb fb) : DT X (.Compare a [.Gt] [b] pos) (tTest (tOp rGtR ta tb)) (fTest (fBin gGt fa fb)) := dt_cmp op_gt (snd_I0 fun _ _ _ _ => De.b) ha hb (nomark _)
theorem dt_ge (ha : DE X a ta fa) (hb : DE X b tb fb) : DT X (.Compare a [.GtE] [b] pos) (tTest (tOp rGeR ta tb)) (fTest (fBin gGe fa fb)) := dt_cmp op_ge (snd_I0 fun _ _ _ _ => De.b) ha hb (nomark _)
theorem dt_eq (ha : DE X a ta fa) (hb : DE X b tb fb) : DT X (.Compare a [.Eq] [b] pos) (tTest (tOp rEq ta tb)) (fTest (fBin gEq fa fb)) := dt_cmp op_eq snd_eq ha hb (nomark _)
theorem dt_ne (ha : DE X a ta fa) (hb : DE X b tb fb) : DT X (.Compare a [.NotEq] [b] pos) (tTest (tOp rNe ta tb)) (fTest (fBin gNe fa fb)) := dt_cmp op_ne snd_ne ha hb (nomark _)
/-- is None, is not None -/
def isNonD : D → Bool
  | .non => true
  | _ => false
def gIsN : DR2 := fun x y st Q => match y with
  | .non => Q (.bl (isNonD x)) st
  | _ => False
def gNotN : DR2 := fun x y st Q => match y with
  | .non => Q (.bl (!isNonD x)) st
  | _ => False
theorem isNon_eq {H : Hp} {ρ : List Addr} {v : V} {d : D} (h : De K H ρ v d) : decide (v = .non) = isNonD d := by
  cases d with
  | non => cases h; rfl
  | bl b => cases h; rfl
  | int i => cases h; rfl
  | str x => cases h; rfl
  | tup ds => obtain ⟨a, xs, rfl, _⟩ := h; rfl
  | ref n => obtain ⟨a, _, rfl⟩ := h; rfl
  | kl ds => obtain ⟨a, xs, rfl, _⟩ := h; rfl
theorem snd_isN : Snd2 K (fun x y H Q => y = .non ∧ Q (.bl (decide (x = .non))) H) gIsN := fun s hx hy q k => by
  unfold gIsN at q
  split at q
  · cases hy
    exact ⟨rfl, k _ _ _ _ _ .refl s (by rw [isNon_eq hx]; exact De.b) q⟩
  · exact q.elim
theorem snd_notN : Snd2 K (fun x y H Q => y = .non ∧ Q (.bl (!decide (x = .non))) H) gNotN := fun s hx hy q k => by
  unfold gNotN at q
  split at q
  · cases hy
    exact ⟨rfl, k _ _ _ _ _ .refl s (by rw [isNon_eq hx]; exact De.b) q⟩
  · exact q.elim
theorem d_isN (ha : DE X a ta fa) (hb : DE X b tb fb) : DE X (.Compare a [.Is] [b] pos) (tOp rIsNR ta tb) (fBin gIsN fa fb) := d_cmp op_isN snd_isN ha hb (nomark _)
theorem dt_isN (ha : DE X a ta fa) (hb : DE X b tb fb) : DT X (.Compare a [.Is] [b] pos) (tTest (tOp rIsNR ta tb)) (fTest (fBin gIsN fa fb)) := dt_cmp op_isN snd_isN ha hb (nomark _)
theorem d_notN (ha : DE X a ta fa) (hb : DE X b tb fb) : DE X (.Compare a [.IsNot] [b] pos) (tOp rNotNR ta tb) (fBin gNotN fa fb) := d_cmp op_notN snd_notN ha hb (nomark _)
theorem dt_notN (ha : DE X a ta fa) (hb : DE X b tb fb) : DT X (.Compare a [.IsNot] [b] pos) (tTest (tOp rNotNR ta tb)) (fTest (fBin gNotN fa fb)) := dt_cmp op_notN snd_notN ha hb (nomark _)

/-! ### subscripts -/
def gIx : DR2 := fun x y st Q => match y with
  | .int i => (match (sqD st x).bind (fun xs => atI xs i) with
    | some d => Q d st
    | none => False)
  | _ => False
theorem DeAll.atI {H : Hp} {ρ : List Addr} {vs : List V} {ds : List D} {i : Int} {d : D} (h : DeAll K H ρ vs ds) (e : L2.atI ds i = some d) : ∃ v, L2.atI vs i = some v ∧ De K H ρ v d := by
  unfold L2.atI at e ⊢
  rw [h.length]
  cases q : ixN ds.length i with
  | none => rw [q] at e; cases e
  | some j =>
    rw [q] at e
    exact DeAll.get h e
theorem snd_ix : Snd2 K (rIx K) gIx := fun {H ρ st x y dx dy Q QQ} s hx hy q k => by
  unfold gIx at q
  split at q
  · rename_i i
    cases hy
    split at q
    · rename_i d e
      obtain ⟨ds, e1, e2⟩ := Option.bind_eq_some_iff.mp e
      obtain ⟨a, vs, rfl, h1, h2⟩ := sq_snd s hx e1
      obtain ⟨v, e3, h3⟩ := h2.atI e2
      have fin := k v d _ _ _ .refl s h3 q
      rcases h1 with h1 | h1
      · exact .inl ⟨a, vs, i, v, rfl, rfl, h1, e3, fin⟩
      · exact .inr (.inl ⟨a, vs, i, v, rfl, rfl, h1, e3, fin⟩)
    · exact q.elim
  · exact q.elim
theorem d_ix (ha : DE X a ta fa) (hb : DE X b tb fb) (hs : PlainIx b := by exact fun _ _ => rfl) : DE X (.Subscript a b pos) (tOp (rIx X.K) ta tb) (fBin gIx fa fb) :=
  ⟨pe_ix ix_seq ha.pe hb.pe hs, fun s G h k => ha.snd s G h fun x dx H1 ρ1 st1 l1 s1 h1 q1 => hb.snd s1 (G.mono l1) q1 fun y dy H2 ρ2 st2 l2 s2 h2 q2 => snd_ix s2 (De.mono l2 _ h1) h2 q2 (k.later (l1.trans l2))⟩
/-! ### slices -/
def cutD (xs : List D) (lo hi : Option Int) : List D := (xs.drop (HT.sIx xs.length 0 lo)).take (HT.sIx xs.length xs.length hi - HT.sIx xs.length 0 lo)
def fSl (fa : DTE) (fl fh : DTO) : DTE := fun Γ st Q => fa Γ st fun x st1 => fl Γ st1 fun lo st2 => fh Γ st2 fun hi st3 => match x with
  | .tup xs => Q (.tup (cutD xs lo hi)) st3
  | .ref n => (match st3[n]?.bind seqOb with
    | some xs => Q (.ref st3.length) (st3 ++ [.lst (cutD xs lo hi)])
    | none => False)
  | _ => False
def fNoP : DTO := fun _ st Q => Q none st
def fPart (f : DTE) : DTO := fun Γ st Q => f Γ st fun x st1 => match x with
  | .int i => Q (some i) st1
  | _ => False
variable {lo hi : Option Expr} {tl th : TO} {fl fh : DTO} {p2 : Pos}
theorem do_none : DO X none tNoPart fNoP := ⟨po_none, fun s _ h k => k _ _ _ _ .refl s h⟩
theorem do_some (h : DE X a ta fa) : DO X (some a) (tPart ta) (fPart fa) := ⟨po_some h.pe, fun s G q k => h.snd s G q fun v d H1 ρ1 st1 l1 s1 h1 q1 => by
  cases d with
  | int i => exact ⟨i, h1, k _ _ _ _ l1 s1 q1⟩
  | _ => exact q1.elim⟩
theorem DeAll.cut {H : Hp} {ρ : List Addr} {vs : List V} {ds : List D} (h : DeAll K H ρ vs ds) (lo hi : Option Int) : DeAll K H ρ (cutV vs lo hi) (cutD ds lo hi) := by
  unfold cutV cutD
  rw [h.length]
  exact (h.drop _).take _
theorem cut_whole {xs : List D} {lo hi : Option Int} (h : HT.sIx xs.length 0 lo = 0 ∧ HT.sIx xs.length xs.length hi = xs.length) : cutD xs lo hi = xs := by
  unfold cutD
  rw [h.1, h.2]
  simp
def rSlR (K : PySem.W.Frag) : V → Option Int → Option Int → Hp → VK → Prop := fun x lo hi H Q => rSlL K x lo hi H Q ∨ rSlA K x lo hi H Q
theorem d_sl (ha : DE X a ta fa) (hl : DO X lo tl fl) (hh : DO X hi th fh) : DE X (.Subscript a (.Slice lo hi none p2) pos) (tSl (rSlR X.K) ta tl th) (fSl fa fl fh) :=
  ⟨pe_slice (sl_list.or sl_tupA) ha.pe hl.po hh.po, fun s G h k => ha.snd s G h fun x dx H1 ρ1 st1 l1 s1 h1 q1 => hl.snd s1 (G.mono l1) q1 fun l H2 ρ2 st2 l2 s2 q2 => hh.snd s2 (G.mono (l1.trans l2)) q2 fun u H3 ρ3 st3 l3 s3 q3 => by
    have h3 := De.mono (l2.trans l3) _ h1
    have L := l1.trans (l2.trans l3)
    cases dx with
    | tup xs =>
      obtain ⟨p, vs, rfl, e1, e2⟩ := h3
      refine .inr ⟨p, vs, rfl, e1, fun e => ?_, fun _ z hz => ?_⟩
      · rw [e2.length] at e
        have q4 : _ := q3
        dsimp only at q4
        rw [cut_whole e] at q4
        exact k _ _ _ _ _ L s3 (De.t e1 e2) q4
      · exact k _ _ _ _ _ (L.trans (Lat.fresh hz)) (s3.fresh hz) (De.t (SqT.of upd_same) (DeAll.mono (Lat.fresh hz) _ (e2.cut l u))) q3
    | ref n =>
      dsimp only at q3
      split at q3
      · rename_i ds e
        obtain ⟨p, vs, rfl, e1, e2⟩ := ls_snd (d := .ref n) s3 h3 e
        exact .inl ⟨p, vs, rfl, e1, fun z hz => k _ _ _ _ _ (L.trans ((Lat.fresh hz).grow z)) (s3.newL hz (e2.cut l u)) (De.r s3.newAt) q3⟩
      · exact q3.elim
    | _ => exact q3.elim⟩
end
end Y
namespace Y
open PySem PySem.Spec PyProof.Rows L2

/-! ### built-in functions -/
def fFn (g : DRL) (fA : DTA) : DTE := fun Γ st Q => fA Γ st fun ds st1 => g ds st1 Q
section
variable {X : Cx} {K : PySem.W.Frag} {e a b : Expr} {es : List Expr} {ta tb te : TE} {tA tB : TA} {fa fb fe : DTE} {fA fB : DTA} {p pos : Pos} {x : Str}
theorem d_callB {id : String} {r : List V → Hp → VK → Prop} {g : DRL} (hc : CallR X (.builtin id) r) (hs : SndL X.K r g) (hg : Gl X x) (hm : X.mg x = none) (hv : bootBuiltins x = some (.builtin id)) (ha : DA X (e :: es) tA fA) (hn : x ≠ "__name__" := by decide) (hdb : (x == ("__debug__" : Str)) = false := by decide)
    (he : starEach (e :: es) X.env = (false, eval e X.env) :: starEach es X.env := by rfl) (hpl : (backTo pos (starEach es X.env)).any (·.1) = false := by rfl) : DE X (.Call (.Name x p) (e :: es) [] pos) (tCB r tA) (fFn g fA) :=
  ⟨pe_callB hc hg hm hv ha.pa hn hdb he hpl, fun s G h k => ha.snd s G h fun vs ds H1 ρ1 st1 l1 s1 h1 q1 => hs s1 h1 q1 (k.later l1)⟩
theorem d_callT {T : String} {r : List V → Hp → VK → Prop} {g : DRL} (hc : CallR X (.type T) r) (hs : SndL X.K r g) (hg : Gl X x) (hm : X.mg x = none) (hv : bootBuiltins x = some (.type T)) (ha : DA X (e :: es) tA fA) (hn : x ≠ "__name__" := by decide) (hdb : (x == ("__debug__" : Str)) = false := by decide)
    (he : starEach (e :: es) X.env = (false, eval e X.env) :: starEach es X.env := by rfl) (hpl : (backTo pos (starEach es X.env)).any (·.1) = false := by rfl) : DE X (.Call (.Name x p) (e :: es) [] pos) (tCB r tA) (fFn g fA) :=
  ⟨pe_callTy hc hg hm hv ha.pa hn hdb he hpl, fun s G h k => ha.snd s G h fun vs ds H1 ρ1 st1 l1 s1 h1 q1 => hs s1 h1 q1 (k.later l1)⟩
theorem d_callM {id : String} {r : List V → Hp → VK → Prop} {g : DRL} (hc : CallR X (.builtin id) r) (hs : SndL X.K r g) (hg : Gl X x) (hm : X.mg x = some (.builtin id)) (ha : DA X (e :: es) tA fA) (hdb : (x == ("__debug__" : Str)) = false := by decide)
    (he : starEach (e :: es) X.env = (false, eval e X.env) :: starEach es X.env := by rfl) (hpl : (backTo pos (starEach es X.env)).any (·.1) = false := by rfl) : DE X (.Call (.Name x p) (e :: es) [] pos) (tCB r tA) (fFn g fA) :=
  ⟨pe_callBfun hc hg hm ha.pa hdb he hpl, fun s G h k => ha.snd s G h fun vs ds H1 ρ1 st1 l1 s1 h1 q1 => hs s1 h1 q1 (k.later l1)⟩

theorem one_of {H : Hp} {ρ : List Addr} {xs : List V} {d : D} (h : DeAll K H ρ xs [d]) : ∃ v, xs = [v] ∧ De K H ρ v d := by
  cases xs with
  | nil => exact h.elim
  | cons v vs => cases vs with
    | nil => exact ⟨v, rfl, h.1⟩
    | cons w ws => exact h.2.elim
theorem two_of {H : Hp} {ρ : List Addr} {xs : List V} {d e : D} (h : DeAll K H ρ xs [d, e]) : ∃ v w, xs = [v, w] ∧ De K H ρ v d ∧ De K H ρ w e := by
  cases xs with
  | nil => exact h.elim
  | cons v vs =>
    obtain ⟨w, rfl, h2⟩ := one_of h.2
    exact ⟨v, w, rfl, h.1, h2⟩
theorem three_of {H : Hp} {ρ : List Addr} {xs : List V} {d e f : D} (h : DeAll K H ρ xs [d, e, f]) : ∃ u v w, xs = [u, v, w] ∧ De K H ρ u d ∧ De K H ρ v e ∧ De K H ρ w f := by
  cases xs with
  | nil => exact h.elim
  | cons u vs =>
    obtain ⟨v, w, rfl, h2, h3⟩ := two_of h.2
    exact ⟨u, v, w, rfl, h.1, h2, h3⟩

def gLen : DRL := fun ds st Q => match ds with
  | [x] => (match sqD st x with
    | some xs => Q (.int xs.length) st
    | none => False)
  | _ => False
def rLenR (K : PySem.W.Frag) : List V → Hp → VK → Prop := fun xs H Q => ∃ p ys, xs = [.ref p] ∧ (SqL K H p ys ∨ SqT K H p ys) ∧ Q (.int ys.length) H
theorem snd_len : SndL K (rLenR K) gLen := fun s h q k => by
  unfold gLen at q
  split at q
  · obtain ⟨v, rfl, h1⟩ := one_of h
    split at q
    · rename_i xs e
      obtain ⟨a, vs, rfl, h2, h3⟩ := sq_snd s h1 e
      exact ⟨a, vs, rfl, h2, by rw [h3.length]; exact k _ _ _ _ _ .refl s De.i q⟩
    · exact q.elim
  · exact q.elim
theorem d_len (hg : Gl X "len") (hm : X.mg "len" = none) (ha : DA X [a] tA fA) (he : starEach [a] X.env = (false, eval a X.env) :: starEach [] X.env := by rfl) : DE X (.Call (.Name "len" p) [a] [] pos) (tCB (rLenR X.K) tA) (fFn gLen fA) :=
  d_callB call_len_seq snd_len hg hm PySem.boot_len ha (he := he)
def gAbs : DRL := fun ds st Q => match ds with
  | [.int i] => Q (.int (if i < 0 then -i else i)) st
  | _ => False
def rAbsR : List V → Hp → VK → Prop := fun xs H Q => ∃ i, xs = [.int i] ∧ Q (.int (if i < 0 then -i else i)) H
theorem snd_abs : SndL K rAbsR gAbs := fun s h q k => by
  unfold gAbs at q
  split at q
  · obtain ⟨v, rfl, h1⟩ := one_of h
    cases h1
    exact ⟨_, rfl, k _ _ _ _ _ .refl s De.i q⟩
  · exact q.elim
theorem d_abs (hg : Gl X "abs") (hm : X.mg "abs" = none) (ha : DA X [a] tA fA) (he : starEach [a] X.env = (false, eval a X.env) :: starEach [] X.env := by rfl) : DE X (.Call (.Name "abs" p) [a] [] pos) (tCB rAbsR tA) (fFn gAbs fA) :=
  d_callB call_abs snd_abs hg hm (by decide +kernel) ha (he := he)
def gMax : DRL := fun ds st Q => match ds with
  | [.int i, .int j] => Q (.int (if j > i then j else i)) st
  | _ => False
def gMin : DRL := fun ds st Q => match ds with
  | [.int i, .int j] => Q (.int (if j < i then j else i)) st
  | _ => False
def rMaxR : List V → Hp → VK → Prop := fun xs H Q => ∃ i j, xs = [.int i, .int j] ∧ Q (.int (if j > i then j else i)) H
def rMinR : List V → Hp → VK → Prop := fun xs H Q => ∃ i j, xs = [.int i, .int j] ∧ Q (.int (if j < i then j else i)) H
theorem snd_max : SndL K rMaxR gMax := fun s h q k => by
  unfold gMax at q
  split at q
  · obtain ⟨v, w, rfl, h1, h2⟩ := two_of h
    cases h1; cases h2
    exact ⟨_, _, rfl, k _ _ _ _ _ .refl s De.i q⟩
  · exact q.elim
theorem snd_min : SndL K rMinR gMin := fun s h q k => by
  unfold gMin at q
  split at q
  · obtain ⟨v, w, rfl, h1, h2⟩ := two_of h
    cases h1; cases h2
    exact ⟨_, _, rfl, k _ _ _ _ _ .refl s De.i q⟩
  · exact q.elim
theorem d_max (hc : X.calm = true) (hg : Gl X "max") (hm : X.mg "max" = none) (ha : DA X [a, b] tA fA) (he : starEach [a, b] X.env = (false, eval a X.env) :: starEach [b] X.env := by rfl) (hpl : (backTo pos (starEach [b] X.env)).any (·.1) = false := by rfl) : DE X (.Call (.Name "max" p) [a, b] [] pos) (tCB rMaxR tA) (fFn gMax fA) :=
  d_callB (call_max2 hc) snd_max hg hm (by decide +kernel) ha (he := he) (hpl := hpl)
theorem d_min (hc : X.calm = true) (hg : Gl X "min") (hm : X.mg "min" = none) (ha : DA X [a, b] tA fA) (he : starEach [a, b] X.env = (false, eval a X.env) :: starEach [b] X.env := by rfl) (hpl : (backTo pos (starEach [b] X.env)).any (·.1) = false := by rfl) : DE X (.Call (.Name "min" p) [a, b] [] pos) (tCB rMinR tA) (fFn gMin fA) :=
  d_callB (call_min2 hc) snd_min hg hm (by decide +kernel) ha (he := he) (hpl := hpl)
/-- int(i) -/
def gInt : DRL := fun ds st Q => match ds with
  | [.int i] => Q (.int i) st
  | _ => False
def rIntR : List V → Hp → VK → Prop := fun xs H Q => (∃ i, xs = [.int i] ∧ Q (.int i) H) ∨ ∃ k, xs = [.bl k] ∧ Q (.int (if k then 1 else 0)) H
theorem snd_int : SndL K rIntR gInt := fun s h q k => by
  unfold gInt at q
  split at q
  · obtain ⟨v, rfl, h1⟩ := one_of h
    cases h1
    exact .inl ⟨_, rfl, k _ _ _ _ _ .refl s De.i q⟩
  · exact q.elim
theorem d_int1 (hg : Gl X "int") (hm : X.mg "int" = none) (ha : DA X [a] tA fA) (he : starEach [a] X.env = (false, eval a X.env) :: starEach [] X.env := by rfl) : DE X (.Call (.Name "int" p) [a] [] pos) (tCB rIntR tA) (fFn gInt fA) :=
  d_callT call_int1 snd_int hg hm boot_int ha (he := he)
/-- tuple(x), list(x) -/
def gTuple : DRL := fun ds st Q => match ds with
  | [x] => (match sqD st x with
    | some xs => Q (.tup xs) st
    | none => False)
  | _ => False
def rTupleR (K : PySem.W.Frag) : List V → Hp → VK → Prop := fun xs H Q => ∃ p ys, xs = [.ref p] ∧ ((SqL K H p ys ∧ ∀ l, H l = none → Q (.ref l) (upd H l (.tup ys))) ∨ (SqT K H p ys ∧ Q (.ref p) H))
theorem snd_tuple : SndL K (rTupleR K) gTuple := fun s h q k => by
  unfold gTuple at q
  split at q
  · obtain ⟨v, rfl, h1⟩ := one_of h
    split at q
    · rename_i xs e
      obtain ⟨a, vs, rfl, h2, h3⟩ := sq_snd s h1 e
      refine ⟨a, vs, rfl, ?_⟩
      rcases h2 with h2 | h2
      · exact .inl ⟨h2, fun z hz => k _ _ _ _ _ (Lat.fresh hz) (s.fresh hz) (De.t (SqT.of upd_same) (DeAll.mono (Lat.fresh hz) _ h3)) q⟩
      · exact .inr ⟨h2, k _ _ _ _ _ .refl s (De.t h2 h3) q⟩
    · exact q.elim
  · exact q.elim
theorem d_tuple (hg : Gl X "tuple") (hm : X.mg "tuple" = none) (ha : DA X [a] tA fA) (he : starEach [a] X.env = (false, eval a X.env) :: starEach [] X.env := by rfl) : DE X (.Call (.Name "tuple" p) [a] [] pos) (tCB (rTupleR X.K) tA) (fFn gTuple fA) :=
  d_callT call_tuple_of snd_tuple hg hm (by decide +kernel) ha (he := he)
def gList : DRL := fun ds st Q => match ds with
  | [x] => (match sqD st x with
    | some xs => Q (.ref st.length) (st ++ [.lst xs])
    | none => False)
  | _ => False
def rListR (K : PySem.W.Frag) : List V → Hp → VK → Prop := fun xs H Q => ∃ p ys, xs = [.ref p] ∧ (SqL K H p ys ∨ SqT K H p ys) ∧ ∀ l, H l = none → Q (.ref l) (upd H l (.lst ys))
theorem snd_list : SndL K (rListR K) gList := fun s h q k => by
  unfold gList at q
  split at q
  · obtain ⟨v, rfl, h1⟩ := one_of h
    split at q
    · rename_i xs e
      obtain ⟨a, vs, rfl, h2, h3⟩ := sq_snd s h1 e
      exact ⟨a, vs, rfl, h2, fun z hz => k _ _ _ _ _ ((Lat.fresh hz).grow z) (s.newL hz h3) (De.r s.newAt) q⟩
    · exact q.elim
  · exact q.elim
theorem d_list (hg : Gl X "list") (hm : X.mg "list" = none) (ha : DA X [a] tA fA) (he : starEach [a] X.env = (false, eval a X.env) :: starEach [] X.env := by rfl) : DE X (.Call (.Name "list" p) [a] [] pos) (tCB (rListR X.K) tA) (fFn gList fA) :=
  d_callT call_list_of snd_list hg hm (by decide +kernel) ha (he := he)
/-- gcd, off math -/
def gGcd : DRL := fun ds st Q => match ds with
  | [.int i, .int j] => Q (.int ((Nat.gcd i.natAbs j.natAbs : Nat) : Int)) st
  | _ => False
theorem snd_gcd : SndL K rGcd gGcd := fun s h q k => by
  unfold gGcd at q
  split at q
  · obtain ⟨v, w, rfl, h1, h2⟩ := two_of h
    cases h1; cases h2
    exact ⟨_, _, rfl, k _ _ _ _ _ .refl s De.i q⟩
  · exact q.elim
theorem d_gcd (hg : Gl X "gcd") (hm : X.mg "gcd" = some (.builtin "math.gcd")) (ha : DA X [a, b] tA fA) (he : starEach [a, b] X.env = (false, eval a X.env) :: starEach [b] X.env := by rfl) (hpl : (backTo pos (starEach [b] X.env)).any (·.1) = false := by rfl) : DE X (.Call (.Name "gcd" p) [a, b] [] pos) (tCB rGcd tA) (fFn gGcd fA) :=
  d_callM cr_gcd snd_gcd hg hm ha (he := he) (hpl := hpl)
/-- any of a list of ints -/
def gAnyI : DRL := fun ds st Q => match ds with
  | [x] => (match lsD st x with
    | some xs => ∃ ns : List Int, xs = ns.map D.int ∧ Q (.bl (ns.any fun i => i != 0)) st
    | none => False)
  | _ => False
def rAnyI (K : PySem.W.Frag) : List V → Hp → VK → Prop := fun vs H Q => ∃ (a : Addr) (ns : List Int), vs = [V.ref a] ∧ SqL K H a (ns.map V.int) ∧ Q (.bl (ns.any fun i => i != 0)) H
theorem intsLook {prog : Program} {w : World} {A : Around} {ns : List Int} {its : List Value} (r : Vals (ns.map V.int) its) : TruthOf prog w A (fun i v => its.toArray[i]? = some v) (fun i => (ns.map fun n => n != 0).getD i false) := fun i v s Q E hv hq => by
  have h1 : its[i]? = some v := by simpa using hv
  have hl : i < (ns.map V.int).length := by
    rw [r.length]
    exact (List.getElem?_eq_some_iff.mp h1).1
  have hl' : i < ns.length := by simpa using hl
  obtain ⟨u, e2, rv⟩ := Vals.get (i := i) (x := V.int ns[i]) r (by rw [List.getElem?_map, List.getElem?_eq_getElem hl']; rfl)
  rw [h1] at e2
  cases e2
  obtain ⟨t, rfl⟩ := rv
  have e3 : (ns.map fun n => n != 0).getD i false = (ns[i] != 0) := by
    rw [List.getD_eq_getElem?_getD, List.getElem?_map, List.getElem?_eq_getElem hl']; rfl
  have hq' : Q ((ns.map fun n => n != 0).getD i false) s := hq
  rw [e3] at hq'
  exact PySem.P.truthy_int hq'
theorem cr_anyI (hc : X.calm = true) : CallR X (.builtin "any") (rAnyI X.K) := by
  intro pins s σ H vs us Q I r ⟨a, ns, e1, hs, q⟩
  subst e1
  obtain ⟨its, rv, hl, hz⟩ := I.list hs
  rw [Vals.ref1 r]
  refine call_any_walk (iter_any hl.isList fun s₂ e2 ss hne => ?_)
  subst e2
  refine ⟨_, _, _, _, _, _, _, rfl, Walks.list (A := X.A.in1) (I.ok.hd hc) _ a hne its.toArray, ss, intsLook rv, fun h' tk hk => ⟨.bl _, H, I.kept fun b o eo => ?_, ?_, q⟩⟩
  · refine hk b o (fun z => ?_) (Heap.get?_push_of_some _ eo)
    rcases List.mem_cons.mp z with e1 | z
    · exact Nat.lt_irrefl _ (e1 ▸ Heap.lt_size eo)
    · cases z
  · have el := rv.length
    have : ns.any (fun i => i != 0) = (List.range its.toArray.size).any fun i => (ns.map fun n => n != 0).getD i false := by
      rw [List.length_map] at el
      have := any_range (ns.map fun n => n != 0)
      rw [List.length_map] at this
      rw [List.size_toArray, ← el, this, List.any_map]
      rfl
    show Value.bool _ = Value.bool _
    rw [this]
theorem snd_anyI : SndL K (rAnyI K) gAnyI := fun s h q k => by
  unfold gAnyI at q
  split at q
  · obtain ⟨v, rfl, h1⟩ := one_of h
    split at q
    · rename_i xs e
      obtain ⟨ns, rfl, q⟩ := q
      obtain ⟨a, vs, rfl, h2, h3⟩ := ls_snd s h1 e
      have := h3.ints
      subst this
      exact ⟨a, ns, rfl, h2, k _ _ _ _ _ .refl s De.b q⟩
    · exact q.elim
  · exact q.elim
theorem d_anyI (hc : X.calm = true) (hg : Gl X "any") (hm : X.mg "any" = none) (ha : DA X [a] tA fA) (he : starEach [a] X.env = (false, eval a X.env) :: starEach [] X.env := by rfl) : DE X (.Call (.Name "any" p) [a] [] pos) (tCB (rAnyI X.K) tA) (fFn gAnyI fA) :=
  d_callB (cr_anyI hc) snd_anyI hg hm (by decide +kernel) ha (he := he)
/-- isinstance(x, T), T one of int, bool, str, tuple -/
def tyD : D → Option String
  | .non => some "NoneType"
  | .bl _ => some "bool"
  | .int _ => some "int"
  | .str _ => some "str"
  | .tup _ => some "tuple"
  | .ref _ => none
  | .kl _ => none
def fIsi (T : String) (fa : DTE) : DTE := fun Γ st Q => fa Γ st fun x st1 => match (tyD x).bind fun t => kitB t T with
  | some b => Q (.bl b) st1
  | none => False
theorem tyX_of {H : Hp} {ρ : List Addr} {v : V} {d : D} {t : String} (h : De K H ρ v d) (e : tyD d = some t) : TyX K H v (.type t) := by
  cases d with
  | non => cases h; cases e; exact .base .non
  | bl b => cases h; cases e; exact .base (.bl _)
  | int i => cases h; cases e; exact .base (.int _)
  | str z => cases h; cases e; exact .base (.str _)
  | tup ds =>
    obtain ⟨a, xs, rfl, hs, _⟩ := h
    cases e
    rcases hs with (h | ⟨o, h⟩) | ⟨o, its, n, hk, hc, _⟩
    · exact .base (.tup h)
    · exact .fTuple h
    · exact .kTuple hk hc
  | ref n => cases e
  | kl _ => cases e
theorem d_isi {T : Str} {Ts : String} {p2 : Pos} (hg : Gl X "isinstance") (hm : X.mg "isinstance" = none) (hgT : Gl X T) (hmT : X.mg T = none) (hvT : bootBuiltins T = some (.type Ts)) (ha : DE X a ta fa) (hnT : T ≠ "__name__" := by decide) (hdT : (T == ("__debug__" : Str)) = false := by decide)
    (he : starEach [a, Expr.Name T p2] X.env = (false, eval a X.env) :: starEach [Expr.Name T p2] X.env := by rfl) (he2 : starEach [Expr.Name T p2] X.env = (false, eval (Expr.Name T p2) X.env) :: starEach [] X.env := by rfl) (hpl : (backTo pos (starEach [Expr.Name T p2] X.env)).any (·.1) = false := by rfl) :
    DE X (.Call (.Name "isinstance" p) [a, .Name T p2] [] pos) (tCB (rIsi X.K) (tCons ta (tCons (tC (.ty Ts)) tNil))) (fIsi Ts fa) :=
  ⟨pe_callB call_isi hg hm (by decide +kernel) (pa_cons ha.pe (pa_cons (pe_bltn (v := .ty Ts) hgT hmT hvT rfl hnT hdT) pa_nil he2) he) (he := he) (hpl := hpl), fun s G h k => ha.snd s G h fun v d H1 ρ1 st1 l1 s1 h1 q1 => by
    split at q1
    · rename_i b e
      obtain ⟨t, e1, e2⟩ := Option.bind_eq_some_iff.mp e
      exact ⟨v, .ty Ts, .type t, .type Ts, b, rfl, .ty Ts, tyX_of h1 e1, kit_ty e2, k _ _ _ _ _ l1 s1 De.b q1⟩
    · exact q1.elim⟩
end
end Y
namespace Y
open PySem PySem.Spec PyProof.Rows L2

/-! ### own defs: a promise over data -/
abbrev Con := List D → Sto → (D → Sto → Prop) → Prop
def spD (K : PySem.W.Frag) (n : Nat) (C : Con) : Sp := fun vs H Q _ => vs.length = n ∧ ∃ (ρ : List Addr) (st : Sto) (ds : List D) (QD : D → Sto → Prop), StOk K H ρ st ∧ DeAll K H ρ vs ds ∧ C ds st QD ∧ Behind K H ρ QD Q
/-- a def of the text by its name, with its promise -/
structure Own (P : Program) (w : World) (K : PySem.W.Frag) (mg : Str → Option Value) (base : Heap) (k : Nat) (x : Str) (ps : List Str) (C : Con) : Prop where
  ex : ∃ (f : Addr) (fd : FuncData), FnOk P w K mg base CX0 k f fd ps (spD K ps.length C) ∧ mg x = some (.ref f) ∧ PySem.W.keepIn K (.ref f) = true ∧ Binds K fd ps []
/-- how keywords are put in order: us, then ws by perm -/
def ordK {α : Type} (perm : List Nat) (us ws : List α) : List α := us ++ perm.filterMap fun i => ws[i]?
theorem ord_rel {perm : List Nat} {vs zs : List V} {us ws : List Value} (h1 : Vals vs us) (h2 : Vals zs ws) : Vals (ordK perm vs zs) (ordK perm us ws) := by
  refine h1.append ?_
  induction perm with
  | nil => exact .nil
  | cons i r ih =>
    rw [List.filterMap_cons, List.filterMap_cons]
    cases e : zs[i]? with
    | none =>
      rw [h2.none_of e]
      exact ih
    | some v =>
      obtain ⟨u, e2, rv⟩ := h2.get e
      rw [e2]
      exact .cons rv ih
structure OwnK (P : Program) (w : World) (K : PySem.W.Frag) (mg : Str → Option Value) (base : Heap) (k : Nat) (x : Str) (ps : List Str) (n : Nat) (ks : List Str) (perm : List Nat) (C : Con) : Prop where
  ex : ∃ (f : Addr) (fd : FuncData), FnOk P w K mg base CX0 k f fd ps (spD K ps.length C) ∧ mg x = some (.ref f) ∧ PySem.W.keepIn K (.ref f) = true ∧ KBn K fd ps n ks (ordK perm) (ordK perm)
def fCall (n : Nat) (C : Con) (fA : DTA) : DTE := fun Γ st Q => fA Γ st fun ds st1 => ds.length = n ∧ C ds st1 Q
def fCallK (n m l : Nat) (perm : List Nat) (C : Con) (fA fK : DTA) : DTE := fun Γ st Q => fA Γ st fun ds st1 => fK Γ st1 fun es st2 => ds.length = n ∧ es.length = m ∧ (ordK perm ds es).length = l ∧ C (ordK perm ds es) st2 Q
theorem De.ord {K : PySem.W.Frag} {H : Hp} {ρ : List Addr} {perm : List Nat} {vs ws : List V} {ds es : List D} (h1 : DeAll K H ρ vs ds) (h2 : DeAll K H ρ ws es) : DeAll K H ρ (ordK perm vs ws) (ordK perm ds es) := by
  refine h1.append ?_
  induction perm with
  | nil => exact DeAll.nil
  | cons i r ih =>
    rw [List.filterMap_cons, List.filterMap_cons]
    cases e : es[i]? with
    | none =>
      have : ws[i]? = none := by
        have := h2.length
        rw [List.getElem?_eq_none_iff] at e ⊢
        omega
      rw [this]
      exact ih
    | some d =>
      obtain ⟨v, e2, rv⟩ := h2.get e
      rw [e2]
      exact .cons rv ih
section
variable {X : Cx} {K : PySem.W.Frag} {e a b c : Expr} {es : List Expr} {ta tb te tc : TE} {tA tB tK : TA} {fa fb fe fc : DTE} {fA fB fK : DTA} {p pos : Pos} {x : Str} {k n : Nat} {ps : List Str} {C : Con} {kws : List Keyword}
theorem d_call (F : Own X.prog X.w X.K X.mg X.base k x ps C) (hr : Room k X.A) (hg : Gl X x) (ha : DA X (e :: es) tA fA) (hdb : (x == ("__debug__" : Str)) = false := by decide) (he : starEach (e :: es) X.env = (false, eval e X.env) :: starEach es X.env := by rfl)
    (hpl : (backTo pos (starEach es X.env)).any (·.1) = false := by rfl) : DE X (.Call (.Name x p) (e :: es) [] pos) (tCall (spD X.K ps.length C) [] E0 tA) (fCall ps.length C fA) where
  pe := let ⟨f, fd, h1, h2, h3, h4⟩ := F.ex; pe_call h1 hr hg h2 h3 h4 .nil pass0 ha.pa hdb he hpl
  snd := fun s G h k => ha.snd s G h fun vs ds H1 ρ1 st1 l1 s1 h1 q1 => ⟨by rw [List.append_nil, h1.length]; exact q1.1, ρ1, st1, ds, _, s1, by rw [List.append_nil]; exact h1, q1.2, k.later l1⟩
theorem d_call0 (F : Own X.prog X.w X.K X.mg X.base k x ps C) (hr : Room k X.A) (hg : Gl X x) (hdb : (x == ("__debug__" : Str)) = false := by decide) : DE X (.Call (.Name x p) [] [] pos) (tCall (spD X.K ps.length C) [] E0 tNil) (fCall ps.length C fNil) where
  pe := let ⟨f, fd, h1, h2, h3, h4⟩ := F.ex; pe_call0 h1 hr hg h2 h3 h4 .nil pass0 hdb
  snd := fun s G h k => ⟨h.1, _, _, _, _, s, DeAll.nil, h.2, k⟩
variable {nm : Option Str} {kpos : Pos}
theorem dk_nil : DK X [] tNil fNil := ⟨pk_nil, fun s _ h k => k _ _ _ _ _ .refl s DeAll.nil h⟩
theorem dk_cons (ha : DE X a ta fa) (hr : DK X kws tK fK) : DK X (⟨nm, a, kpos⟩ :: kws) (tCons ta tK) (fCons fa fK) :=
  ⟨pk_cons ha.pe hr.pk, fun s G h k => ha.snd s G h fun v d H1 ρ1 st1 l1 s1 h1 q1 => hr.snd s1 (G.mono l1) q1 fun vs ds H2 ρ2 st2 l2 s2 h2 q2 => k _ _ _ _ _ (l1.trans l2) s2 (.cons (De.mono l2 _ h1) h2) q2⟩
variable {ks : List Str} {perm : List Nat}
theorem d_callK (F : OwnK X.prog X.w X.K X.mg X.base k x ps n ks perm C) (hr : Room k X.A) (hg : Gl X x) (ha : DA X (e :: es) tA fA) (hkw : DK X kws tK fK) (hall : (backToKw pos (keywordEach kws X.env)).all (·.1.isSome) = true := by rfl) (hks : (backToKw pos (keywordEach kws X.env)).filterMap (·.1) = ks := by rfl)
    (hdb : (x == ("__debug__" : Str)) = false := by decide) (he : starEach (e :: es) X.env = (false, eval e X.env) :: starEach es X.env := by rfl)
    (hpl : ((backTo pos (starEach (e :: es) X.env)).any (·.1) || (backToKw pos (keywordEach kws X.env)).any (·.1.isNone)) = false := by rfl) :
    DE X (.Call (.Name x p) (e :: es) kws pos) (tCallN n ks.length (spD X.K ps.length C) (ordK perm) E0 tA tK) (fCallK n ks.length ps.length perm C fA fK) where
  pe := let ⟨f, fd, h1, h2, h3, h4⟩ := F.ex; pe_callN h1 hr hg h2 h3 h4 pass0 ha.pa hkw.pk hall hks hdb he hpl
  snd := fun s G h k => ha.snd s G h fun vs ds H1 ρ1 st1 l1 s1 h1 q1 => hkw.snd s1 (G.mono l1) q1 fun ws es H2 ρ2 st2 l2 s2 h2 q2 => by
    obtain ⟨e1, e2, e3, q⟩ := q2
    have h1' := DeAll.mono l2 _ h1
    have hO : DeAll X.K H2 ρ2 (ordK perm vs ws) (ordK perm ds es) := De.ord h1' h2
    exact ⟨by rw [h1.length]; exact e1, by rw [h2.length]; exact e2, by rw [hO.length]; exact e3, ρ2, st2, _, _, s2, hO, q, k.later (l1.trans l2)⟩
/-- keywords alone -/
theorem pe_onlyK {f : Addr} {fd : FuncData} {sp : Sp} {g : List Value → List Value → List Value} {gV : List V → List V → List V} (F : FnOk X.prog X.w X.K X.mg X.base CX0 k f fd ps sp) (hr : Room k X.A) (hg : Gl X x) (hm : X.mg x = some (.ref f)) (hk : PySem.W.keepIn X.K (.ref f) = true) (hb : KBn X.K fd ps 0 ks g gV)
    (hkw : PK X kws tK) (hall : (backToKw pos (keywordEach kws X.env)).all (·.1.isSome) = true) (hks : (backToKw pos (keywordEach kws X.env)).filterMap (·.1) = ks) (hdb : (x == ("__debug__" : Str)) = false)
    (hpl : ((backTo pos (starEach [] X.env)).any (·.1) || (backToKw pos (keywordEach kws X.env)).any (·.1.isNone)) = false) : PE X (.Call (.Name x p) [] kws pos) (tCallN 0 ks.length sp gV E0 tNil tK) := by
  refine ⟨fun pins s σ H Q I h => wpAny_Call_Name_kw (ld_glob I hg hm (PySem.W.callWith_KW0 (h₀ := X.base) I.ok.mod.kin hk hall (thn (hkw.run pos pins s σ H _ I h) fun ws s2 ⟨zs, H2, I2, rz, l1, l2, q2⟩ => ⟨I2.kIn, ?_⟩) hpl) hdb)⟩
  rw [hks]
  exact run_fnN F hr hb pass0 I2 .nil rz l1 l2 q2
theorem d_onlyK (F : OwnK X.prog X.w X.K X.mg X.base k x ps 0 ks perm C) (hr : Room k X.A) (hg : Gl X x) (hkw : DK X kws tK fK) (hall : (backToKw pos (keywordEach kws X.env)).all (·.1.isSome) = true := by rfl) (hks : (backToKw pos (keywordEach kws X.env)).filterMap (·.1) = ks := by rfl)
    (hdb : (x == ("__debug__" : Str)) = false := by decide) (hpl : ((backTo pos (starEach [] X.env)).any (·.1) || (backToKw pos (keywordEach kws X.env)).any (·.1.isNone)) = false := by rfl) :
    DE X (.Call (.Name x p) [] kws pos) (tCallN 0 ks.length (spD X.K ps.length C) (ordK perm) E0 tNil tK) (fCallK 0 ks.length ps.length perm C fNil fK) where
  pe := let ⟨f, fd, h1, h2, h3, h4⟩ := F.ex; pe_onlyK h1 hr hg h2 h3 h4 hkw.pk hall hks hdb hpl
  snd := fun s G h k => hkw.snd s G h fun ws es H2 ρ2 st2 l2 s2 h2 q2 => by
    obtain ⟨e1, e2, e3, q⟩ := q2
    have hO : DeAll X.K H2 ρ2 (ordK perm [] ws) (ordK perm [] es) := De.ord DeAll.nil h2
    exact ⟨rfl, by rw [h2.length]; exact e2, by rw [hO.length]; exact e3, ρ2, st2, _, _, s2, hO, q, k.later l2⟩

/-! ### methods of lists -/
def lstAt (st : Sto) (n : Nat) : Option (List D) := match st[n]? with
  | some (.lst xs) => some xs
  | _ => none
theorem lst_snd {H : Hp} {ρ : List Addr} {st : Sto} {n : Nat} {v : V} {ds : List D} (s : StOk K H ρ st) (h : De K H ρ v (.ref n)) (e : lstAt st n = some ds) : ∃ a vs, v = .ref a ∧ ρ[n]? = some a ∧ H a = some (.lst vs) ∧ DeAll K H ρ vs ds := by
  obtain ⟨a, ha, rfl⟩ := h
  unfold lstAt at e
  split at e
  · rename_i xs q
    cases e
    obtain ⟨vs, h1, h2⟩ := s.lst q ha
    exact ⟨a, vs, rfl, ha, h1, h2⟩
  · cases e
def isLst (st : Sto) : D → Prop
  | .ref n => (lstAt st n).isSome = true
  | _ => False
def fMt (g : D → List D → Sto → (D → Sto → Prop) → Prop) (fo : DTE) (fA : DTA) : DTE := fun Γ st Q => fo Γ st fun x st1 => isLst st1 x ∧ fA Γ st1 fun ds st2 => g x ds st2 Q
theorem tyL {H : Hp} {ρ : List Addr} {st : Sto} {v : V} {d : D} (s : StOk K H ρ st) (h : De K H ρ v d) (q : isLst st d) : tyV K "list" v H := by
  cases d with
  | ref n =>
    obtain ⟨ds, e⟩ := Option.isSome_iff_exists.mp q
    obtain ⟨a, vs, rfl, _, h1, _⟩ := lst_snd s h e
    exact .inl ⟨rfl, vs, SqL.of h1⟩
  | _ => exact q.elim
def SndM (K : PySem.W.Frag) (r : V → List V → Hp → VK → Prop) (g : D → List D → Sto → (D → Sto → Prop) → Prop) : Prop := ∀ {H : Hp} {ρ : List Addr} {st : Sto} {x : V} {d : D} {xs : List V} {ds : List D} {Q : D → Sto → Prop} {QQ : VK}, StOk K H ρ st → De K H ρ x d → DeAll K H ρ xs ds → g d ds st Q → Behind K H ρ Q QQ → r x xs H QQ
variable {o : Expr} {to : TE} {fo : DTE} {apos cpos : Pos}
theorem d_mt {name : Str} {id : String} {r : V → List V → Hp → VK → Prop} {g : D → List D → Sto → (D → Sto → Prop) → Prop} (slot : Slot "list" name id) (hty : typeOf (.builtin id) = pure (.type "method_descriptor")) (hm : MtR X id r) (hs : SndM X.K r g) (ho : DE X o to fo) (ha : DA X (e :: es) tA fA)
    (hbase : attributeBase o name X.env (eval o X.env) = eval o X.env) (hfew : ((backTo cpos (starEach (e :: es) X.env)).all (fun x => !x.1) && (backToKw cpos (keywordEach [] X.env)).all (fun x => x.1.isSome)
      && decide ((e :: es).length + ([] : List Keyword).length + (if ([] : List Keyword).isEmpty then 0 else 1) < 30)) = true)
    (hline : (apos.endLine == cpos.line) = true) (he : starEach (e :: es) X.env = (false, eval e X.env) :: starEach es X.env) (hpl : (backTo cpos (starEach es X.env)).any (·.1) = false) :
    DE X (.Call (.Attribute o name apos) (e :: es) [] cpos) (tBM X.K "list" r to tA) (fMt g fo fA) :=
  ⟨pe_bm PySem.F.plainAttrs_list slot hty hm ho.pe ha.pa hbase hfew hline he hpl, fun s G h k => ho.snd s G h fun v d H1 ρ1 st1 l1 s1 h1 q1 => ⟨tyL s1 h1 q1.1, ha.snd s1 (G.mono l1) q1.2 fun vs ds H2 ρ2 st2 l2 s2 h2 q2 => hs s2 (De.mono l2 _ h1) h2 q2 (k.later (l1.trans l2))⟩⟩
theorem d_mt0 {name : Str} {id : String} {r : V → List V → Hp → VK → Prop} {g : D → List D → Sto → (D → Sto → Prop) → Prop} (slot : Slot "list" name id) (hty : typeOf (.builtin id) = pure (.type "method_descriptor")) (hm : MtR X id r) (hs : SndM X.K r g) (ho : DE X o to fo)
    (hbase : attributeBase o name X.env (eval o X.env) = eval o X.env) (hline : (apos.endLine == cpos.line) = true) :
    DE X (.Call (.Attribute o name apos) [] [] cpos) (tBM0 X.K "list" r to) (fMt g fo fNil) :=
  ⟨pe_bm0 PySem.F.plainAttrs_list slot hty hm ho.pe hbase hline, fun s G h k => ho.snd s G h fun v d H1 ρ1 st1 l1 s1 h1 q1 => ⟨tyL s1 h1 q1.1, hs s1 h1 DeAll.nil q1.2 (k.later l1)⟩⟩
def gApp : D → List D → Sto → (D → Sto → Prop) → Prop := fun x ds st Q => match x, ds with
  | .ref n, [d] => (match lstAt st n with
    | some xs => xs.length < lim ∧ Q .non (st.set n (.lst (xs ++ [d])))
    | none => False)
  | _, _ => False
theorem snd_app : SndM K rAppend gApp := fun {H ρ st x d xs ds Q QQ} s hx h q k => by
  unfold gApp at q
  split at q
  · rename_i n y
    split at q
    · rename_i zs e
      obtain ⟨a, vs, rfl, ha, h1, h2⟩ := lst_snd s hx e
      obtain ⟨v, rfl, hv⟩ := one_of h
      exact ⟨a, vs, v, rfl, rfl, h1, by rw [h2.length]; exact lim_lt q.1, k _ _ _ _ _ (Lat.putL h1) (s.putL ha h1 (h2.append (.cons hv DeAll.nil))) De.n q.2⟩
    · exact q.elim
  · exact q.elim
theorem d_append (ho : DE X o to fo) (ha : DA X [e] tA fA) (hbase : attributeBase o "append" X.env (eval o X.env) = eval o X.env := by rfl) (hfew : ((backTo cpos (starEach [e] X.env)).all (fun x => !x.1) && (backToKw cpos (keywordEach [] X.env)).all (fun x => x.1.isSome)
      && decide ([e].length + ([] : List Keyword).length + (if ([] : List Keyword).isEmpty then 0 else 1) < 30)) = true := by rfl) (hline : (apos.endLine == cpos.line) = true := by rfl) (he : starEach [e] X.env = (false, eval e X.env) :: starEach [] X.env := by rfl) :
    DE X (.Call (.Attribute o "append" apos) [e] [] cpos) (tBM X.K "list" rAppend to tA) (fMt gApp fo fA) := d_mt PySem.F.slot_list_append PySem.F.type_list_append mt_append snd_app ho ha hbase hfew hline he rfl
/-- pop(i), i from 0 on -/
def gPopAt : D → List D → Sto → (D → Sto → Prop) → Prop := fun x ds st Q => match x, ds with
  | .ref n, [.int i] => (match lstAt st n with
    | some xs => 0 ≤ i ∧ i ≤ 1000000 ∧ (match xs[i.toNat]? with
      | some d => Q d (st.set n (.lst (xs.eraseIdx i.toNat)))
      | none => False)
    | none => False)
  | _, _ => False
theorem snd_popAt : SndM K rPopAt gPopAt := fun {H ρ st x d xs ds Q QQ} s hx h q k => by
  unfold gPopAt at q
  split at q
  · rename_i n i
    split at q
    · rename_i zs e
      obtain ⟨a, vs, rfl, ha, h1, h2⟩ := lst_snd s hx e
      obtain ⟨v, rfl, hv⟩ := one_of h
      cases hv
      obtain ⟨h0, hb, q⟩ := q
      split at q
      · rename_i y ey
        obtain ⟨w, e3, h3⟩ := h2.get ey
        have hlt : i.toNat < vs.length := (List.getElem?_eq_some_iff.mp e3).1
        exact ⟨a, vs, i, i.toNat, w, rfl, rfl, h1, by omega, by omega, seqIndex_of h0 (by omega), e3, k _ _ _ _ _ (Lat.putL h1) (s.putL ha h1 (h2.eraseIdx _)) (De.mono (Lat.putL h1) _ h3) q⟩
      · exact q.elim
    · exact q.elim
  · exact q.elim
theorem d_popAt (ho : DE X o to fo) (ha : DA X [e] tA fA) (hbase : attributeBase o "pop" X.env (eval o X.env) = eval o X.env := by rfl) (hfew : ((backTo cpos (starEach [e] X.env)).all (fun x => !x.1) && (backToKw cpos (keywordEach [] X.env)).all (fun x => x.1.isSome)
      && decide ([e].length + ([] : List Keyword).length + (if ([] : List Keyword).isEmpty then 0 else 1) < 30)) = true := by rfl) (hline : (apos.endLine == cpos.line) = true := by rfl) (he : starEach [e] X.env = (false, eval e X.env) :: starEach [] X.env := by rfl) :
    DE X (.Call (.Attribute o "pop" apos) [e] [] cpos) (tBM X.K "list" rPopAt to tA) (fMt gPopAt fo fA) := d_mt PySem.F.slot_list_pop PySem.F.type_list_pop mt_popAt snd_popAt ho ha hbase hfew hline he rfl
/-- pop() -/
def gPop : D → List D → Sto → (D → Sto → Prop) → Prop := fun x ds st Q => match x, ds with
  | .ref n, [] => (match lstAt st n with
    | some xs => (match xs[xs.length - 1]? with
      | some d => Q d (st.set n (.lst xs.dropLast))
      | none => False)
    | none => False)
  | _, _ => False
theorem DeAll.dropLast {H : Hp} {ρ : List Addr} {vs : List V} {ds : List D} (h : DeAll K H ρ vs ds) : DeAll K H ρ vs.dropLast ds.dropLast := by
  rw [List.dropLast_eq_take, List.dropLast_eq_take, h.length]
  exact h.take _
theorem snd_pop : SndM K rPop gPop := fun {H ρ st x d xs ds Q QQ} s hx h q k => by
  unfold gPop at q
  split at q
  · rename_i n
    split at q
    · rename_i zs e
      obtain ⟨a, vs, rfl, ha, h1, h2⟩ := lst_snd s hx e
      split at q
      · rename_i y ey
        obtain ⟨w, e3, h3⟩ := h2.get ey
        have hn : xs = [] := by
          cases xs with
          | nil => rfl
          | cons _ _ => exact h.elim
        exact ⟨a, vs, w, rfl, hn, h1, by rw [h2.length]; exact e3, k _ _ _ _ _ (Lat.putL h1) (s.putL ha h1 h2.dropLast) (De.mono (Lat.putL h1) _ h3) q⟩
      · exact q.elim
    · exact q.elim
  · exact q.elim
theorem d_pop (ho : DE X o to fo) (hbase : attributeBase o "pop" X.env (eval o X.env) = eval o X.env := by rfl) (hline : (apos.endLine == cpos.line) = true := by rfl) :
    DE X (.Call (.Attribute o "pop" apos) [] [] cpos) (tBM0 X.K "list" rPop to) (fMt gPop fo fNil) := d_mt0 PySem.F.slot_list_pop PySem.F.type_list_pop mt_pop snd_pop ho hbase hline

/-! ### statements -/
variable {s1 s2 : Stmt} {rest : List Stmt} {t u : TS} {f g : DTS}
def fNext : DTS := fun D Γ st => D.nx Γ st
def fSeq (f g : DTS) : DTS := fun D Γ st => f { D with nx := g D } Γ st
theorem ds_nil : DSs X [] tNext fNext := ⟨pss_nil, fun s G h e => e.nx _ _ _ _ _ .refl s G h⟩
theorem ds_cons {s1 : Stmt} (h1 : DS X s1 t f) (h2 : DSs X rest u g) : DSs X (s1 :: rest) (tSeq t u) (fSeq f g) :=
  ⟨pss_cons h1.ps h2.ps, fun {H ρ σ Γ st D DD} s G h e => h1.snd (DD := { DD with nx := u DD }) s G h ⟨fun σ' Γ' H' ρ' st' l s' G' q => h2.snd s' G' q (e.later l), e.rt, e.bk, e.ct⟩⟩
theorem ds_one {s1 : Stmt} (h1 : DS X s1 t f) : DSs X [s1] t f := ⟨pss_one h1.ps, h1.snd⟩
def fBreak : DTS := fun D Γ st => D.bk Γ st
def fCont : DTS := fun D Γ st => D.ct Γ st
theorem ds_pass : DS X (.Pass pos) tNext fNext := ⟨ps_pass, fun s G h e => e.nx _ _ _ _ _ .refl s G h⟩
theorem ds_break : DS X (.Break pos) tBreak fBreak := ⟨ps_break, fun s G h e => e.bk _ _ _ _ _ .refl s G h⟩
theorem ds_continue : DS X (.Continue pos) tCont fCont := ⟨ps_continue, fun s G h e => e.ct _ _ _ _ _ .refl s G h⟩
def fExp (fe : DTE) : DTS := fun D Γ st => fe Γ st fun _ st1 => D.nx Γ st1
theorem ds_expr (h : DE X e te fe) (hs : swapsWith e none pos.line X.env = pure false := by rfl) : DS X (.Expr e pos) (tDrop te) (fExp fe) :=
  ⟨ps_expr h.pe hs, fun s G q k => h.snd s G q fun v d H1 ρ1 st1 l1 s1 h1 q1 => k.nx _ _ _ _ _ l1 s1 (G.mono l1) q1⟩
def fRet (fe : DTE) : DTS := fun D Γ st => fe Γ st D.rt
theorem ds_ret (h : DE X e te fe) : DS X (.Return (some e) pos) (tRet te) (fRet fe) := ⟨ps_ret h.pe, fun s G q k => h.snd s G q k.rt⟩
def fRetN : DTS := fun D _ st => D.rt .non st
theorem ds_retN : DS X (.Return none pos) tRetN fRetN := ⟨ps_retN, fun s G q k => k.rt _ _ _ _ _ .refl s De.n q⟩
def fIfS (c : DTT) (f g : DTS) : DTS := fun D Γ st => c Γ st fun b st1 => if b = true then f D Γ st1 else g D Γ st1
variable {tt : TT} {ft : DTT} {ss1 ss2 : List Stmt}
theorem ds_if (hc : DT X c tt ft) (h1 : DSs X ss1 t f) (h2 : DSs X ss2 u g) : DS X (.If c ss1 ss2 pos) (tIfS tt t u) (fIfS ft f g) :=
  ⟨ps_if hc.pt h1.ps h2.ps, fun s G h e => hc.snd s G h fun b H1 ρ1 st1 l1 s1 q1 => by
    cases b with
    | true => exact h1.snd s1 (G.mono l1) q1 (e.later l1)
    | false => exact h2.snd s1 (G.mono l1) q1 (e.later l1)⟩
/-- name = e -/
def fSet (i : Nat) (fe : DTE) : DTS := fun D Γ st => fe Γ st fun d st1 => D.nx (Γ.set i (some d)) st1
theorem ds_set {i : Nat} {y : Str} {pos' : Pos} (hN : X.N.Nodup) (hi : X.N[i]? = some y) (hx : Loc X.env.scope y) (h : DE X e te fe) (hs : swapsWith e (some (.Name y pos')) pos.line X.env = pure false := by rfl) (hf : X.fn y = true ∨ X.env.scope.names.lookup y = some .local := by first | exact .inl rfl | exact .inr rfl | assumption) :
    DS X (.Assign [.Name y pos'] e pos) (tAsg te (gName i)) (fSet i fe) :=
  ⟨ps_set hN hi hx h.pe hs hf, fun s G q k => h.snd s G q fun v d H1 ρ1 st1 l1 s1 h1 q1 => k.nx _ _ _ _ _ l1 s1 ((G.mono l1).set i h1) q1⟩
/-- x, y = a, b by the swapped stores -/
def fPar (i j : Nat) (fA : DTA) : DTS := fun D Γ st => fA Γ st fun ds st1 => match ds with
  | [d, e] => D.nx ((Γ.set i (some d)).set j (some e)) st1
  | _ => False
theorem ds_par {i j : Nat} {y z : Str} {px py pt : Pos} {kt k2 pt2} (hc : X.calm = true) (hN : X.N.Nodup) (hi : X.N[i]? = some y) (hj : X.N[j]? = some z) (hij : i ≠ j) (hy : X.env.scope.names.lookup y = some .local) (hz : X.env.scope.names.lookup z = some .local) (ha : DA X [a, b] tA fA)
    (hw : swappedStores [.Tuple [.Name y px, .Name z py] kt pt] (.Tuple [a, b] k2 pt2) X.env = pure (some [y, z])) (hs : swapsWithSole [.Tuple [.Name y px, .Name z py] kt pt] (.Tuple [a, b] k2 pt2) pos.line X.env = pure false := by rfl) :
    DS X (.Assign [.Tuple [.Name y px, .Name z py] kt pt] (.Tuple [a, b] k2 pt2) pos) (tPar i j tA) (fPar i j fA) :=
  ⟨ps_par hc hN hi hj hij hy hz ha.pa hw hs, fun s G q k => ha.snd s G q fun vs ds H1 ρ1 st1 l1 s1 h1 q1 => by
    split at q1
    · obtain ⟨v, w, rfl, e1, e2⟩ := two_of h1
      exact ⟨v, w, rfl, k.nx _ _ _ _ _ l1 s1 (((G.mono l1).set i e1).set j e2) q1⟩
    · exact q1.elim⟩
def fPar3 (i j l : Nat) (fA : DTA) : DTS := fun D Γ st => fA Γ st fun ds st1 => match ds with
  | [d, e, f] => D.nx (((Γ.set i (some d)).set j (some e)).set l (some f)) st1
  | _ => False
/-- targets -/
def fGName (i : Nat) : DTG := fun d Γ st Q => Q (Γ.set i (some d)) st
theorem dg_name {i : Nat} {y : Str} (hN : X.N.Nodup) (hi : X.N[i]? = some y) (hx : Loc X.env.scope y) (hf : X.fn y = true ∨ X.env.scope.names.lookup y = some .local := by first | exact .inl rfl | exact .inr rfl | assumption) : DG X (.Name y pos) (gName i) (fGName i) :=
  ⟨pg_name hN hi hx hf, fun s G h q k => k _ _ _ _ _ .refl s (G.set i h) q⟩
def fGNil : DTGs := fun ds Γ st Q => match ds with
  | [] => Q Γ st
  | _ => False
def fGCons (f : DTG) (g : DTGs) : DTGs := fun ds Γ st Q => match ds with
  | d :: r => f d Γ st fun Γ' st' => g r Γ' st' Q
  | [] => False
variable {tg : TG} {tgs : TGs} {fg : DTG} {fgs : DTGs}
theorem dgs_nil : DGs X [] gNil fGNil := ⟨pgs_nil, fun {H ρ σ Γ st vs ds Q QQ} s G h q k => by
  cases ds with
  | nil =>
    cases vs with
    | nil => exact ⟨rfl, k _ _ _ _ _ .refl s G q⟩
    | cons _ _ => exact h.elim
  | cons _ _ => exact q.elim⟩
theorem dgs_cons (h1 : DG X e tg fg) (h2 : DGs X es tgs fgs) (hs : List.map (fun x => x.snd) (assignEach (e :: es) X.env) = assign e X.env :: List.map (fun x => x.snd) (assignEach es X.env) := by rfl) : DGs X (e :: es) (gCons tg tgs) (fGCons fg fgs) := ⟨pgs_cons h1.pg h2.pg hs, fun {H ρ σ Γ st vs ds Q QQ} s G h q k => by
  cases ds with
  | nil => exact q.elim
  | cons d ds =>
    cases vs with
    | nil => exact h.elim
    | cons v vs => exact ⟨v, vs, rfl, h1.snd s G h.1 q fun σ1 Γ1 H1 ρ1 st1 l1 s1 G1 q1 => h2.snd s1 G1 (DeAll.mono l1 _ h.2) q1 fun σ2 Γ2 H2 ρ2 st2 l2 s2 G2 q2 => k _ _ _ _ _ (l1.trans l2) s2 G2 q2⟩⟩
def fGTup (n : Nat) (fgs : DTGs) : DTG := fun d Γ st Q => match d with
  | .tup ds => ds.length = n ∧ fgs ds Γ st Q
  | _ => False
theorem dg_tup {k n : Nat} (hc : X.calm = true) (h : DGs X es tgs fgs) (hn : (assignEach es X.env).length = n := by rfl) (hst : (assignEach es X.env).findIdx? (·.1) = none := by rfl) : DG X (.Tuple es k pos) (gTup X.K n tgs) (fGTup n fgs) :=
  ⟨pg_tup hc h.pg hn hst, fun s G h1 q k => by
    unfold fGTup at q
    split at q
    · obtain ⟨a, xs, rfl, e1, e2⟩ := h1
      exact ⟨a, xs, rfl, e1, by rw [e2.length]; exact q.1, h.snd s G e2 q.2 k⟩
    · exact q.elim⟩
/-- o[i] = d of a list -/
def gSetL (x y d : D) (st : Sto) (Q : Sto → Prop) : Prop := match x, y with
  | .ref n, .int i => (match lstAt st n with
    | some xs => (match ixN xs.length i with
      | some j => Q (st.set n (.lst (xs.set j d)))
      | none => False)
    | none => False)
  | _, _ => False
theorem snd_setL {H : Hp} {ρ : List Addr} {st : Sto} {x y v : V} {dx dy d : D} {Q : Sto → Prop} {QQ : Hp → Prop} (s : StOk K H ρ st) (hx : De K H ρ x dx) (hy : De K H ρ y dy) (hv : De K H ρ v d) (q : gSetL dx dy d st Q)
    (k : ∀ H' ρ' st', Lat H ρ H' ρ' → StOk K H' ρ' st' → Q st' → QQ H') : rSetL x y v H QQ := by
  unfold gSetL at q
  split at q
  · rename_i n i
    cases hy
    split at q
    · rename_i zs e
      obtain ⟨a, vs, rfl, ha, h1, h2⟩ := lst_snd s hx e
      split at q
      · rename_i j ej
        exact ⟨a, vs, i, j, rfl, rfl, h1, by rw [h2.length]; exact ej, k _ _ _ (Lat.putL h1) (s.putL ha h1 (h2.set j hv)) q⟩
      · exact q.elim
    · exact q.elim
  · exact q.elim
def fGSub (fo fi : DTE) : DTG := fun d Γ st Q => fo Γ st fun x st1 => fi Γ st1 fun y st2 => gSetL x y d st2 fun st3 => Q Γ st3
variable {i : Expr} {ti : TE} {fi : DTE}
theorem dg_sub (ho : DE X o to fo) (hi : DE X i ti fi) (ha : ∀ v, assign (.Subscript o i pos) X.env v = (do
      let ov ← holding [v] (eval o X.env)
      let iv ← holding [v, ov] (eval i X.env)
      standAt pos
      holding [v, ov, iv] (setItem ov iv v)
      release [v, ov, iv] []) := by intro _; rfl) : DG X (.Subscript o i pos) (L2.gSub to ti rSetL) (fGSub fo fi) :=
  ⟨pg_sub ho.pe hi.pe set_list ha, fun s G h q k => ho.snd s G q fun x dx H1 ρ1 st1 l1 s1 h1 q1 => hi.snd s1 (G.mono l1) q1 fun y dy H2 ρ2 st2 l2 s2 h2 q2 =>
    snd_setL s2 (De.mono l2 _ h1) h2 (De.mono (l1.trans l2) _ h) q2 fun H3 ρ3 st3 l3 s3 q3 => k _ _ _ _ _ (l1.trans (l2.trans l3)) s3 (G.mono (l1.trans (l2.trans l3))) q3⟩
/-- target = e -/
def fAsg (fe : DTE) (fg : DTG) : DTS := fun D Γ st => fe Γ st fun d st1 => fg d Γ st1 D.nx
variable {tgt : Expr}
theorem ds_asg (h : DE X e te fe) (hg : DG X tgt tg fg) (hs : swapsWithSole [tgt] e pos.line X.env = pure false := by rfl) (hw : swappedStores [tgt] e X.env = pure none := by rfl) (h1 : List.map (fun x => x.snd) (assignEach [tgt] X.env) = [assign tgt X.env] := by rfl) : DS X (.Assign [tgt] e pos) (tAsg te tg) (fAsg fe fg) :=
  ⟨ps_asg h.pe hg.pg hs hw h1, fun s G q k => h.snd s G q fun v d H1 ρ1 st1 l1 s1 h1 q1 => hg.snd s1 (G.mono l1) h1 q1 fun σ2 Γ2 H2 ρ2 st2 l2 s2 G2 q2 => k.nx _ _ _ _ _ (l1.trans l2) s2 G2 q2⟩
theorem ds_par3 {i j l : Nat} {x y z : Str} {px py pz pt : Pos} {kt k2 pt2} (hc : X.calm = true) (hN : X.N.Nodup) (hi : X.N[i]? = some x) (hj : X.N[j]? = some y) (hl : X.N[l]? = some z) (hij : i ≠ j) (hil : i ≠ l) (hjl : j ≠ l)
    (hx : X.env.scope.names.lookup x = some .local) (hy : X.env.scope.names.lookup y = some .local) (hz : X.env.scope.names.lookup z = some .local) (ha : DA X [a, b, c] tA fA)
    (hw : swappedStores [.Tuple [.Name x px, .Name y py, .Name z pz] kt pt] (.Tuple [a, b, c] k2 pt2) X.env = pure (some [x, y, z]))
    (hs : swapsWithSole [.Tuple [.Name x px, .Name y py, .Name z pz] kt pt] (.Tuple [a, b, c] k2 pt2) pos.line X.env = pure false := by rfl) :
    DS X (.Assign [.Tuple [.Name x px, .Name y py, .Name z pz] kt pt] (.Tuple [a, b, c] k2 pt2) pos) (tPar3 i j l tA) (fPar3 i j l fA) :=
  ⟨ps_par3 hc hN hi hj hl hij hil hjl hx hy hz ha.pa hw hs, fun s G q k => ha.snd s G q fun vs ds H1 ρ1 st1 l1 s1 h1 q1 => by
    split at q1
    · obtain ⟨u, v, w, rfl, e1, e2, e3⟩ := three_of h1
      exact ⟨u, v, w, rfl, k.nx _ _ _ _ _ l1 s1 ((((G.mono l1).set i e1).set j e2).set l e3) q1⟩
    · exact q1.elim⟩
/-- name op= e -/
def fAug (i : Nat) (fe : DTE) (g : DR2) : DTS := fun D Γ st => match Γ[i]? with
  | some (some d) => fe Γ st fun y st1 => g d y st1 fun z st2 => D.nx (Γ.set i (some z)) st2
  | _ => False
theorem ds_aug {i : Nat} {y : Str} {op : Operator} {r : TIp} {g : DR2} {pos' : Pos} (ho : PIp X op r) (hgs : Snd2 X.K r g) (hN : X.N.Nodup) (hi : X.N[i]? = some y) (hx : Loc X.env.scope y) (h : DE X e te fe) (hf : X.fn y = true ∨ X.env.scope.names.lookup y = some .local := by first | exact .inl rfl | exact .inr rfl | assumption) :
    DS X (.AugAssign (.Name y pos') op e pos) (tAug i te r) (fAug i fe g) :=
  ⟨ps_aug hN hi hx h.pe ho hf, fun {H ρ σ Γ st D DD} s G q k => by
    unfold fAug at q
    split at q
    · rename_i d e1
      obtain ⟨v, e2, hv⟩ := G.at_ i d e1
      exact ⟨v, e2, h.snd s G q fun w dw H1 ρ1 st1 l1 s1 h1 q1 => hgs s1 (De.mono l1 _ hv) h1 q1 fun z dz H2 ρ2 st2 l2 s2 h2 q2 => k.nx _ _ _ _ _ (l1.trans l2) s2 ((G.mono (l1.trans l2)).set i h2) q2⟩
    · exact q.elim⟩
/-- o[i] op= e of a list -/
def fAugS (fo fi fe : DTE) (g : DR2) : DTS := fun D Γ st => fo Γ st fun x st1 => fi Γ st1 fun y st2 => match x, y with
  | .ref n, .int j => 0 ≤ j ∧ (match lstAt st2 n with
    | some xs => (match xs[j.toNat]? with
      | some d => fe Γ st2 fun z st3 => g d z st3 fun w st4 => gSetL x y w st4 fun st5 => D.nx Γ st5
      | none => False)
    | none => False)
  | _, _ => False
def rGetL : V → V → Hp → VK → Prop := fun x y H Q => ∃ p xs, ∃ j : Int, ∃ v, x = .ref p ∧ y = .int j ∧ H p = some (.lst xs) ∧ 0 ≤ j ∧ xs[j.toNat]? = some v ∧ Q v H
theorem get_list : PGet X rGetL := by
  intro pins s σ H o i ov iv Q I ro ri ⟨p, xs, j, v, e1, e2, hH, h0, hv, q⟩
  subst e1; subst e2
  cases ro
  obtain ⟨t, rfl⟩ := ri
  obtain ⟨its, rv, hl, hz⟩ := I.list (SqL.of hH)
  obtain ⟨u, e3, ru⟩ := rv.get hv
  have hlt := (List.getElem?_eq_some_iff.mp e3).1
  have e4 := rv.length
  have := line63
  exact wpAny_getItem_list hl.isList h0 (by omega) (by simpa using e3) ⟨v, H, I, ru, q⟩
theorem ds_augS {op : Operator} {r : TIp} {g : DR2} {tpos : Pos} (hop : PIp X op r) (hgs : Snd2 X.K r g) (ho : DE X o to fo) (hi : DE X i ti fi) (h : DE X e te fe)
    (ha : ∀ ov iv new, augStore i ov iv new = (do holding [new, ov, iv] (setItem ov iv new); release [new, ov, iv] []; pure .next) := by intros; rfl) : DS X (.AugAssign (.Subscript o i tpos) op e pos) (tAugS to ti te rGetL r rSetL) (fAugS fo fi fe g) :=
  ⟨ps_augS ho.pe hi.pe get_list h.pe hop set_list ha, fun {H ρ σ Γ st D DD} s G q k => ho.snd s G q fun x dx H1 ρ1 st1 l1 s1 h1 q1 => hi.snd s1 (G.mono l1) q1 fun y dy H2 ρ2 st2 l2 s2 h2 q2 => by
    have h1' := De.mono l2 _ h1
    split at q2
    · rename_i n j
      obtain ⟨h0, q2⟩ := q2
      split at q2
      · rename_i zs e
        split at q2
        · rename_i d ed
          obtain ⟨a, vs, rfl, ha', e1, e2⟩ := lst_snd s2 h1' e
          obtain ⟨v, e3, hv⟩ := e2.get ed
          cases h2
          refine ⟨a, vs, j, v, rfl, rfl, e1, h0, e3, h.snd s2 (G.mono (l1.trans l2)) q2 fun z dz H3 ρ3 st3 l3 s3 h3 q3 => hgs s3 (De.mono l3 _ hv) h3 q3 fun w dw H4 ρ4 st4 l4 s4 h4 q4 => ?_⟩
          exact snd_setL s4 (De.mono (l3.trans l4) _ h1') De.i h4 q4 fun H5 ρ5 st5 l5 s5 q5 => k.nx _ _ _ _ _ (l1.trans (l2.trans (l3.trans (l4.trans l5)))) s5 (G.mono (l1.trans (l2.trans (l3.trans (l4.trans l5))))) q5
        · exact q2.elim
      · exact q2.elim
    · exact q2.elim⟩
/-! ### while -/
def loopW (c : DTT) (f : DTS) (D : DEnds) : Nat → Sl → Sto → Prop
  | 0, _, _ => False
  | n + 1, Γ, st => c Γ st fun b st1 => if b = true then f { nx := loopW c f D n, rt := D.rt, bk := D.nx, ct := loopW c f D n } Γ st1 else D.nx Γ st1
def fWhile (c : DTT) (f : DTS) : DTS := fun D Γ st => ∃ n, loopW c f D n Γ st
theorem ds_while {body : List Stmt} (hp : PassesOwn (model X.prog X.w) X.A X.env X.xe) (hc : DT X c tt ft) (hb : DSs X body t f) : DS X (.While c body [] pos) (tWhile tt t) (fWhile ft f) :=
  ⟨ps_while hp hc.pt hb.ps, fun {H ρ σ Γ st D DD} s G ⟨n, q⟩ k => by
    refine ⟨fun m σ' H' => ∃ ρ' Γ' st', Lat H ρ H' ρ' ∧ StOk X.K H' ρ' st' ∧ SlOk X.K H' ρ' σ' Γ' ∧ loopW ft f D m Γ' st', ⟨n, ρ, Γ, st, .refl, s, G, q⟩, ?_⟩
    rintro m σ1 H1 ⟨ρ1, Γ1, st1, l1, s1, G1, q1⟩
    cases m with
    | zero => exact q1.elim
    | succ m =>
      refine hc.snd s1 G1 q1 fun b H2 ρ2 st2 l2 s2 q2 => ?_
      have k2 := k.later (l1.trans l2)
      cases b with
      | true =>
        refine ⟨fun σ3 H3 => ∃ ρ3 Γ3 st3, Lat H ρ H3 ρ3 ∧ StOk X.K H3 ρ3 st3 ∧ SlOk X.K H3 ρ3 σ3 Γ3 ∧ loopW ft f D m Γ3 st3, fun σ' H' ⟨ρ', Γ', st', a1, a2, a3, a4⟩ => ⟨m, Nat.lt_succ_self m, ρ', Γ', st', a1, a2, a3, a4⟩, ?_⟩
        refine hb.snd s2 (G1.mono l2) q2 ⟨fun σ' Γ' H' ρ' st' l' s' G' q' => ⟨ρ', Γ', st', (l1.trans l2).trans l', s', G', q'⟩, k2.rt, k2.nx, fun σ' Γ' H' ρ' st' l' s' G' q' => ⟨ρ', Γ', st', (l1.trans l2).trans l', s', G', q'⟩⟩
      | false => exact k2.nx _ _ _ _ _ .refl s2 (G1.mono l2) q2⟩
end
end Y
namespace Y
open PySem PySem.Spec PyProof.Rows L2

/-! ### enumerate of a tuple -/
section
open AutoSeq1 (wpAny_loadPart')
theorem enumNewT (l : Addr) (its : Array Value) (n : Nat) (dd : Option Addr) (sl : Array (Option Value)) :
    Meets (Builtin.«enumerate.__new__» ⟨[.type "enumerate", .ref l], []⟩) (fun _ R s => s.heap.get? l = some { cls := .type "tuple", dict := dd, data := .seq its n, slots := sl } ∧
      R (.ok (.ret (.ref (s.heap.push { cls := .type "tuple_iterator", data := .fields #[.ref l, .int 0 0] }).objs.size)))
        { s with heap := (s.heap.push { cls := .type "tuple_iterator", data := .fields #[.ref l, .int 0 0] }).push { cls := .type "enumerate", data := .fields #[.none, .bool false, .ref s.heap.objs.size, rawInt 0, .none, .none] } }) :=
  .of_wp fun prog w A R s hyp => by
    obtain ⟨hp, gg, dr, tk, os⟩ := s
    obtain ⟨hl, hyp⟩ := hyp
    have hsub := sub_enumerate
    have hT : Heap.IsTuple (Shared.heap ⟨hp, gg, dr, tk, os⟩) l its := ⟨_, hl, rfl, n, rfl⟩
    wp_walk using wpAny_loadPart' hl
    refine wpAny_stack_any fun stk => wpAny_pure ?_
    split
    · rename_i c _ _ _ _ _
      cases (c == Value.type "enumerate") <;> (wp_walk using wpAny_loadPart' hl, wpAny_pyIter_tuple hT; exact ⟨_, rfl, hyp⟩)
    · wp_walk using wpAny_loadPart' hl, wpAny_pyIter_tuple hT
      exact ⟨_, rfl, hyp⟩
end
section
variable {prog : Program} {w : World} {A : Around} {E : Value → Shared → Prop} {s : Shared}
theorem wpAny_pyNext_enum_endT {e it l : Addr} {i : Nat} {its : Array Value} {old : Value} {Q : Option Value → Shared → Prop} (hh : A.handled = none) (q1 : IsEnum s.heap e it i old) (q2 : s.heap.IsTupleIter it l i) (q3 : s.heap.IsTuple l its) (hx : its[i]? = none)
    (hQ : ∀ h', Heap.ExtBut it s.heap h' → Q none { s with heap := h' }) : wpAny (model prog w) A (pyNext (.ref e)) Q E s := by
  have ty : s.TypeIs (.ref e) "enumerate" := ⟨_, q1, rfl⟩
  unfold pyNext
  refine wpAny_bind (wpAny_attempt (wpAny_callSpecial?_slot (name := Str.ofString "__next__") ty F.slot_enumerate_next (wpAny_call_entry F.slot_enumerate_next ty F.entry_enumerate_next ?_ (F.args_enumerate_next_1 _))))
  show wpAny _ _ (field (.ref e) 2 >>= _) _ _ _
  refine wpAny_bind (wpAny_field q1 rfl (x := .ref it) rfl (wpAny_bind (wpAny_nextOf_tuple_end (A := A.in1) hh q2 q3 hx fun h' x he' ⟨o, ho, hc⟩ => ?_)))
  exact wpAny_bind (wpAny_isInstance (T := "StopIteration") (b := true) ⟨o, ho, hc⟩ isSubtype_stop (wpAny_pure (hQ _ he')))
theorem callEnumT {l : Addr} {its : Array Value} {Q : Value → Shared → Prop} (hL : s.heap.IsTuple l its)
    (h : ∀ h', IsEnum h' (s.heap.objs.size + 1) s.heap.objs.size 0 .none → h'.IsTupleIter s.heap.objs.size l 0 → (∀ b o, s.heap.get? b = some o → h'.get? b = some o) → Q (.ref (s.heap.objs.size + 1)) { s with heap := h' }) :
    wpAny (model prog w) A (call (.type "enumerate") [.ref l]) Q E s := by
  obtain ⟨⟨c, dd, dt, sl⟩, hl, hc, n, hd⟩ := hL
  have hc' : c = .type "tuple" := hc
  have hd' : dt = .seq its n := hd
  subst hc' hd'
  refine callType_new F.called_enumerate (by decide) (F.typeCall_enumerate_1 _) (F.newCall_enumerate_1 _) (fun obj => F.args_object_init_2 obj _) F.entry_enumerate_new (enumNewT l its n dd sl) ⟨hl, ?_⟩
  have hz : (s.heap.push { cls := .type "tuple_iterator", data := .fields #[.ref l, .int 0 0] }).objs.size = s.heap.objs.size + 1 := Heap.size_push ..
  show _ ∧ _
  rw [hz]
  have he : IsEnum ((s.heap.push { cls := .type "tuple_iterator", data := .fields #[.ref l, .int 0 0] }).push { cls := .type "enumerate", data := .fields #[.none, .bool false, .ref s.heap.objs.size, rawInt 0, .none, .none] }) (s.heap.objs.size + 1) s.heap.objs.size 0 .none := by
    have q := Heap.get?_push_size (s.heap.push { cls := .type "tuple_iterator", data := .fields #[.ref l, .int 0 0] }) (o := { cls := .type "enumerate", data := .fields #[.none, .bool false, .ref s.heap.objs.size, rawInt 0, .none, .none] }) rfl
    rw [hz] at q
    exact q
  exact ⟨⟨_, he, rfl⟩, h _ he ⟨_, Heap.get?_push_of_some _ (Heap.get?_push_size _ rfl), rfl, rfl⟩ fun b o x => Heap.get?_push_of_some _ (Heap.get?_push_of_some _ x)⟩
end
/-- the tuple at a, each item in a new pair with its place -/
def IteT (K : PySem.W.Frag) (a : Addr) : It where
  go := fun i H => ∃ (xs : List V) (x : V), SqT K H a xs ∧ xs[i]? = some x
  yld := fun i H v H' => ∃ (T : Addr) (x : V), v = .ref T ∧ H T = none ∧ H' = upd H T (.tup [.int (i : Nat), x]) ∧ ∀ xs, SqT K H a xs → xs[i]? = some x
  stop := fun i H => ∃ xs : List V, SqT K H a xs ∧ xs.length ≤ i
theorem tupNe {h : Heap} {a b : Addr} {its : Array Value} {o : Obj} (p : IsTup h a its) (e : h.get? b = some o) (c : o.cls ≠ .type "tuple") : a ≠ b := fun z => by
  obtain ⟨u, hu, hc, _⟩ := p
  rw [z, e] at hu
  cases hu
  exact c hc
theorem turnEnumT {P : Program} {w : World} {K : PySem.W.Frag} {elts : List Expr} {kk : Nat} {tpos : Pos} (a e it : Addr) :
    Turn P w K (.Tuple elts kk tpos) (IteT K a) [e, it] e (fun i h => (∃ old, IsEnum h e it ((i : Nat) : Int) old) ∧ h.IsTupleIter it a i ∧ e ≠ it) where
  mem := List.mem_cons_self
  obj := fun i h ⟨⟨old, q1⟩, ⟨o, q2, q3, q4⟩, _⟩ b hb => by
    rcases List.mem_cons.mp hb with z | z
    · subst z
      exact ⟨_, q1, fun v z => nomatch z⟩
    · have z' : b = it := by simpa using z
      subst z'
      exact ⟨o, q2, fun v z => by rw [q4] at z; cases z⟩
  keep := fun i h h' ⟨⟨old, q1⟩, q2, q3⟩ k => ⟨⟨old, k e (by simp) _ q1⟩, q2.at fun o q => k it (by simp) o q, q3⟩
  item := by
    intro X hP hw hK hc i pins s σ H E I hf ⟨⟨old, q1⟩, q2, q3⟩ ⟨xs, x, hx, ex⟩
    subst hP hw hK
    obtain ⟨its, rv, pt, hz⟩ := I.tuple hx
    obtain ⟨u, eu, ru⟩ := rv.get ex
    have hel : e < s.heap.objs.size := Heap.lt_size q1
    have hil : it < s.heap.objs.size := by obtain ⟨_, q, _⟩ := q2; exact Heap.lt_size q
    have nit : a ≠ it := by
      obtain ⟨o, qo, co, _⟩ := q2
      exact tupNe pt qo (by rw [co]; exact fun z => absurd (Value.type.inj z) (by decide))
    have ne' : a ≠ e := tupNe pt q1 (fun z => absurd (Value.type.inj z) (by decide))
    have hlt : i < its.toArray.size := by
      have := (List.getElem?_eq_some_iff.mp eu).1
      simpa using this
    refine wpAny_pyNext_enum_itemD (Draws.tuple (A := X.A.in1) (I.ok.hd hc) it a nit its.toArray) (i := i) q1 ⟨q2, pt⟩ hlt q3 (by simp; exact ⟨q3, ne'.symm⟩) fun y h1 tk hy he hst hT hsz hk => ?_
    have ey : y = u := by
      have e1 : its[i]? = some y := by simpa using hy
      rw [eu] at e1
      exact (Option.some.inj e1).symm
    subst ey
    refine ⟨_, rfl, wpAny_letOwnedTupleGo_enum (s := { s with heap := h1, toks := tk + 1 }) he fun h2 he2 sb => ?_⟩
    have hT2 : h2.get? s.heap.objs.size = some { cls := .type "tuple", data := .seq #[.int i tk, y] } := (sb.2 _ (Nat.ne_of_gt hel)).trans hT
    have new : ObjOk X.prog X.w (upd H s.heap.objs.size (.tup [.int (i : Nat), x])) h2 s.heap.objs.size (.tup [.int (i : Nat), x]) :=
      ⟨(show 2 ≤ sizeLine from le_line (by decide)), [.int i tk, y], .cons ⟨tk, rfl⟩ (.cons ru .nil), ⟨_, hT2, rfl, _, rfl⟩⟩
    have I1 : Inv X pins σ (upd H s.heap.objs.size (.tup [.int (i : Nat), x])) { s with heap := h2, toks := tk + 1 } := by
      refine I.turnedNew (ch := [e, it]) (fun b ob hb q => ?_) hf (Nat.le_refl _) new
      have b1 : b ≠ e := fun z => hb (by simp [z])
      have b2 : b ≠ it := fun z => hb (by simp [z])
      exact (sb.2 b b1).trans (hk b ob b1 b2 q)
    refine ⟨.ref s.heap.objs.size, _, I1, rfl, ⟨_, x, rfl, I.hok.fresh (Nat.le_refl _), rfl, fun ys hys => by rw [I.tuple_inj hys hx]; exact ex⟩, ⟨⟨y, ?_⟩, hst.1.at fun o q => (sb.2 it (Ne.symm q3)).trans q, q3⟩, fun b hb => ?_⟩
    · have e1 : ((i + 1 : Nat) : Int) = (i : Int) + 1 := by omega
      rw [e1]
      exact he2
    · have hb' : b < s.heap.objs.size := by
        rcases List.mem_cons.mp hb with z | z
        · rw [z]; exact hel
        · have z' : b = it := by simpa using z
          rw [z']; exact hil
      rw [upd_ne (Nat.ne_of_lt hb')]
      exact (hf b hb).1
  done := by
    intro X hP hw hK hc i pins s σ H E I hf ⟨⟨old, q1⟩, q2, q3⟩ ⟨xs, hx, ex⟩
    subst hP hw hK
    obtain ⟨its, rv, pt, hz⟩ := I.tuple hx
    obtain ⟨f0, f1, f2, f3, f4, f5⟩ := hf it (by simp)
    have nit : a ≠ it := by
      obtain ⟨o, qo, co, _⟩ := q2
      exact tupNe pt qo (by rw [co]; exact fun z => absurd (Value.type.inj z) (by decide))
    have hl := rv.length
    have D0 := Draws.tuple (prog := X.prog) (w := X.w) (A := X.A.in1) (I.ok.hd hc) it a nit its.toArray
    refine wpAny_pyNext_enum_endT (I.ok.hd hc) q1 q2 pt (by simp; omega) fun h1 eb => ⟨rfl, I.turned (t' := s.toks) (fun b o hb q => eb b o hb q) f0 f1 f3 f4 f5⟩
  self := fun A i s Q E ⟨⟨_, q1⟩, _⟩ h => wpAny_pyIter_enum q1 h

/-! ### what is walked -/
abbrev DTI := Sl → Sto → (List D → (Sto → Prop) → Sto → Prop) → Prop
/-- J goes over these items wherever Stand holds -/
def Foll (K : PySem.W.Frag) (H0 : Hp) (ρ0 : List Addr) (J : It) (items : List D) (Stand : Sto → Prop) : Prop :=
  ∀ (i : Nat) (H : Hp) (ρ : List Addr) (st : Sto), Lat H0 ρ0 H ρ → StOk K H ρ st → Stand st →
    (i < items.length → J.go i H ∧ ∀ x H', J.yld i H x H' → ∃ d, items[i]? = some d ∧ Lat H ρ H' ρ ∧ StOk K H' ρ st ∧ De K H' ρ x d) ∧ (items.length ≤ i → J.stop i H)
def SndI (K : PySem.W.Frag) (t : TI) (f : DTI) : Prop := ∀ {H : Hp} {ρ : List Addr} {σ : L2.St} {Γ : Sl} {st : Sto} {Q : List D → (Sto → Prop) → Sto → Prop} {R : It → Hp → Prop}, StOk K H ρ st → SlOk K H ρ σ Γ → f Γ st Q →
  (∀ J items Stand H' ρ' st', Lat H ρ H' ρ' → StOk K H' ρ' st' → Foll K H' ρ' J items Stand → Q items Stand st' → R J H') → t σ H R
structure DI (X : Cx) (tg it : Expr) (t : TI) (f : DTI) : Prop where
  pi : PI X tg it t
  snd : SndI X.K t f
section
variable {X : Cx} {K : PySem.W.Frag} {e a b c tgt iter : Expr} {es : List Expr} {ta tb te tc : TE} {tA : TA} {fa fb fe fc : DTE} {fA : DTA} {p pos tpos : Pos} {wi : TI} {fi : DTI}
/-- a list or a tuple -/
def iSeq (K : PySem.W.Frag) (tl : TE) : TI := fun σ H R => tl σ H fun x H1 => ∃ a, x = .ref a ∧ (((∃ xs, SqL K H1 a xs) ∧ R (Itl K a) H1) ∨ ((∃ xs, SqT K H1 a xs) ∧ R (Itt K a) H1))
theorem pi_seq {l : Expr} {tl : TE} (hl : PE X l tl) : PI X tgt l (iSeq X.K tl) := by
  refine ⟨fun pins s σ H R I h => thn (hl.run pins s σ H _ I h) fun v s1 ⟨x, H1, I1, r1, a, e1, q1⟩ => ?_⟩
  subst e1
  cases r1
  rcases q1 with ⟨⟨xs, hq⟩, q⟩ | ⟨⟨xs, hq⟩, q⟩
  · obtain ⟨its, rv, pl, hz⟩ := I1.list hq
    exact wpAny_pyIter_list pl.isList (pi_one (tk := s1.toks) I1 _ (turn_list a _) ⟨_, Heap.get?_push_size _ rfl, rfl, rfl⟩ q)
  · obtain ⟨its, rv, pl, hz⟩ := I1.tuple hq
    exact wpAny_pyIter_tuple (show s1.heap.IsTuple a its.toArray from pl) (pi_one (tk := s1.toks) I1 _ (turn_tuple a _) ⟨_, Heap.get?_push_size _ rfl, rfl, rfl⟩ q)
/-- what must stand while a sequence is walked -/
def standS (x : D) (xs : List D) : Sto → Prop := fun st => sqD st x = some xs
def itD (st : Sto) : D → Option (List D)
  | .kl xs => some xs
  | x => sqD st x
def standI (x : D) (xs : List D) : Sto → Prop := fun st => itD st x = some xs
def fSq (fe : DTE) : DTI := fun Γ st Q => fe Γ st fun x st1 => match itD st1 x with
  | some xs => Q xs (standI x xs) st1
  | none => False
theorem SqL.fun_ {H : Hp} {a : Addr} {xs ys : List V} (h : SqL K H a xs) (h' : SqL K H a ys) (nm : ∀ zs ws, SqL K H a zs → SqL K H a ws → zs = ws) : xs = ys := nm _ _ h h'
theorem foll_tup {H0 : Hp} {ρ0 : List Addr} {a : Addr} {vs : List V} {ds : List D} {S : Sto → Prop} (inj : True) (h : SqT K H0 a vs) (hd : DeAll K H0 ρ0 vs ds) : Foll K H0 ρ0 (Itt K a) ds S := fun i H ρ st l s _ => by
  have h1 := l.sqT h
  have hd1 := DeAll.mono l _ hd
  refine ⟨fun hi => ?_, fun hi => ⟨vs, h1, by rw [hd.length]; exact hi⟩⟩
  obtain ⟨v, e1, hv⟩ := hd1.get (List.getElem?_eq_getElem hi)
  refine ⟨⟨vs, v, h1, e1⟩, fun x H' ⟨e2, y⟩ => ?_⟩
  subst e2
  have e3 := y vs h1
  rw [e1] at e3
  cases e3
  exact ⟨ds[i], List.getElem?_eq_getElem hi, .refl, s, hv⟩
theorem foll_list {H0 : Hp} {ρ0 : List Addr} {a : Addr} {n : Nat} {ds : List D} (ha : ρ0[n]? = some a) : Foll K H0 ρ0 (Itl K a) ds (standI (.ref n) ds) := fun i H ρ st l s hs => by
  obtain ⟨a', vs, e1, h1, hd1⟩ := ls_snd (v := .ref a) (d := .ref n) s ⟨a, l.rho _ _ ha, rfl⟩ hs
  cases e1
  refine ⟨fun hi => ?_, fun hi => ⟨vs, h1, by rw [hd1.length]; exact hi⟩⟩
  obtain ⟨v, e1, hv⟩ := hd1.get (List.getElem?_eq_getElem hi)
  refine ⟨⟨vs, v, h1, e1⟩, fun x H' ⟨e2, y⟩ => ?_⟩
  subst e2
  have e3 := y vs h1
  rw [e1] at e3
  cases e3
  exact ⟨ds[i], List.getElem?_eq_getElem hi, .refl, s, hv⟩
theorem foll_kl {H0 : Hp} {ρ0 : List Addr} {a : Addr} {vs : List V} {ds : List D} {S : Sto → Prop} (h : ∀ H', SqL K H' a vs) (hd : DeAll K H0 ρ0 vs ds) : Foll K H0 ρ0 (Itl K a) ds S := fun i H ρ st l s _ => by
  have hd1 := DeAll.mono l _ hd
  refine ⟨fun hi => ?_, fun hi => ⟨vs, h H, by rw [hd.length]; exact hi⟩⟩
  obtain ⟨v, e1, hv⟩ := hd1.get (List.getElem?_eq_getElem hi)
  refine ⟨⟨vs, v, h H, e1⟩, fun x H' ⟨e2, y⟩ => ?_⟩
  subst e2
  have e3 := y vs (h _)
  rw [e1] at e3
  cases e3
  exact ⟨ds[i], List.getElem?_eq_getElem hi, .refl, s, hv⟩
theorem di_seq (h : DE X e te fe) : DI X tgt e (iSeq X.K te) (fSq fe) := ⟨pi_seq h.pe, fun {H ρ σ Γ st Q R} s G q k => h.snd s G q fun v d H1 ρ1 st1 l1 s1 h1 q1 => by
  split at q1
  · rename_i xs ex
    cases d with
    | tup ds =>
      cases ex
      obtain ⟨a, vs, rfl, e1, e2⟩ := h1
      exact ⟨a, rfl, .inr ⟨⟨vs, e1⟩, k _ _ _ _ _ _ l1 s1 (foll_tup trivial e1 e2) q1⟩⟩
    | ref n =>
      obtain ⟨a, vs, rfl, e1, e2⟩ := ls_snd (d := .ref n) s1 h1 ex
      obtain ⟨a', ha, e3⟩ := h1
      cases e3
      exact ⟨a, rfl, .inl ⟨⟨vs, e1⟩, k _ _ _ _ _ _ l1 s1 (foll_list ha) q1⟩⟩
    | kl ds =>
      cases ex
      obtain ⟨a, vs, rfl, e1, e2⟩ := h1
      exact ⟨a, rfl, .inl ⟨⟨vs, e1 _⟩, k _ _ _ _ _ _ l1 s1 (foll_kl e1 e2) q1⟩⟩
    | _ => cases ex
  · exact q1.elim⟩
/-- range -/
def rngD (lo : Int) (n : Nat) (c : Int) : List D := (List.range n).map fun (i : Nat) => D.int (lo + (i : Int) * c)
theorem rngD_get {lo c : Int} {n i : Nat} (h : i < n) : (rngD lo n c)[i]? = some (.int (lo + (i : Int) * c)) := by
  unfold rngD
  rw [List.getElem?_map, List.getElem?_range h]
  rfl
theorem rngD_len {lo c : Int} {n : Nat} : (rngD lo n c).length = n := by unfold rngD; rw [List.length_map, List.length_range]
theorem foll_r {H0 : Hp} {ρ0 : List Addr} {lo : Int} {n : Nat} : Foll K H0 ρ0 (Itr lo n) (rngD lo n 1) fun _ => True := fun i H ρ st l s _ => by
  rw [rngD_len]
  refine ⟨fun hi => ⟨hi, fun x H' ⟨e2, y⟩ => ?_⟩, fun hi => hi⟩
  subst e2; subst y
  exact ⟨_, rngD_get hi, .refl, s, by rw [Int.mul_one]; exact De.i⟩
theorem foll_rc {H0 : Hp} {ρ0 : List Addr} {lo c : Int} {n : Nat} : Foll K H0 ρ0 (Itc lo c n) (rngD lo n c) fun _ => True := fun i H ρ st l s _ => by
  rw [rngD_len]
  refine ⟨fun hi => ⟨hi, fun x H' ⟨e2, y⟩ => ?_⟩, fun hi => hi⟩
  subst e2; subst y
  exact ⟨_, rngD_get hi, .refl, s, De.i⟩
def bigI (i : Int) : Prop := -1000000000 ≤ i ∧ i ≤ 1000000000
def fRng1 (fA : DTA) : DTI := fun Γ st Q => fA Γ st fun ds st1 => match ds with
  | [.int j] => bigI j ∧ Q (rngD 0 j.toNat 1) (fun _ => True) st1
  | _ => False
def fRng2 (fA : DTA) : DTI := fun Γ st Q => fA Γ st fun ds st1 => match ds with
  | [.int i, .int j] => (bigI i ∧ bigI j) ∧ Q (rngD i (j - i).toNat 1) (fun _ => True) st1
  | _ => False
/-- range(i, j, -1) -/
def fRngN (fA : DTA) : DTI := fun Γ st Q => fA Γ st fun ds st1 => match ds with
  | [.int i, .int j, .int (-1)] => (bigI i ∧ bigI j) ∧ Q (rngD i (i - j).toNat (-1)) (fun _ => True) st1
  | _ => False
theorem di_rng1 (hg : Gl X "range") (hm : X.mg "range" = none) (h : DA X [a] tA fA) (hs : starEach [a] X.env = [(false, eval a X.env)] := by rfl) : DI X tgt (.Call (.Name "range" p) [a] [] pos) (iRng1 tA) (fRng1 fA) :=
  ⟨pi_range1 hg hm h.pa hs, fun s G q k => h.snd s G q fun vs ds H1 ρ1 st1 l1 s1 h1 q1 => by
    split at q1
    · obtain ⟨v, rfl, e1⟩ := one_of h1
      cases e1
      obtain ⟨⟨b1, b2⟩, q1⟩ := q1
      exact ⟨_, rfl, by omega, by omega, k _ _ _ _ _ _ l1 s1 foll_r q1⟩
    · exact q1.elim⟩
theorem di_rng2 (hg : Gl X "range") (hm : X.mg "range" = none) (h : DA X [a, b] tA fA) (hs : starEach [a, b] X.env = [(false, eval a X.env), (false, eval b X.env)] := by rfl) (hs2 : starEach [b] X.env = [(false, eval b X.env)] := by rfl) : DI X tgt (.Call (.Name "range" p) [a, b] [] pos) (iRng2 tA) (fRng2 fA) :=
  ⟨pi_range2 hg hm h.pa hs hs2, fun s G q k => h.snd s G q fun vs ds H1 ρ1 st1 l1 s1 h1 q1 => by
    split at q1
    · obtain ⟨v, w, rfl, e1, e2⟩ := two_of h1
      cases e1; cases e2
      obtain ⟨⟨⟨b1, b2⟩, b3, b4⟩, q1⟩ := q1
      exact ⟨_, _, rfl, ⟨by omega, by omega, by omega, by omega⟩, k _ _ _ _ _ _ l1 s1 foll_r q1⟩
    · exact q1.elim⟩
/-- enumerate -/
def enmD (xs : List D) : List D := xs.mapIdx fun i d => D.tup [.int (i : Int), d]
theorem enmD_get {xs : List D} {i : Nat} {d : D} (h : xs[i]? = some d) : (enmD xs)[i]? = some (.tup [.int (i : Int), d]) := by
  unfold enmD
  rw [List.getElem?_mapIdx, h]
  rfl
theorem enmD_len {xs : List D} : (enmD xs).length = xs.length := by unfold enmD; rw [List.length_mapIdx]
def iEnm (K : PySem.W.Frag) (ta : TA) : TI := fun σ H R => ta σ H fun vs H1 => ∃ a, vs = [.ref a] ∧ (((∃ xs, SqL K H1 a xs) ∧ R (Ite K a) H1) ∨ ((∃ xs, SqT K H1 a xs) ∧ R (IteT K a) H1))
theorem pi_enm {elts : List Expr} {kk : Nat} (hg : Gl X "enumerate") (hm : X.mg "enumerate" = none) (ha : PA X [e] tA) (hs : starEach [e] X.env = [(false, eval e X.env)] := by rfl) : PI X (.Tuple elts kk tpos) (.Call (.Name "enumerate" p) [e] [] pos) (iEnm X.K tA) := by
  refine ⟨fun pins s σ H R I h => Call_ (ld_blt I hg hm boot_enumerate (PyProof.Rows.callWith_type1 (thn (ha.run pos pins s σ H _ I h) fun us s1 ⟨vs, H1, I1, r1, a, ex, q1⟩ => ?_) hs rfl))⟩
  subst ex
  obtain ⟨u, rfl, ru⟩ := Vals.one r1
  cases ru
  have lay : ∀ {h' : Heap} {J : It} {tn : Nat → Heap → Prop}, (∀ b o, s1.heap.get? b = some o → h'.get? b = some o) → Turn X.prog X.w X.K (.Tuple elts kk tpos) J [s1.heap.objs.size + 1, s1.heap.objs.size] (s1.heap.objs.size + 1) tn → tn 0 h' → R J H1 →
      PIE X pins σ (.Tuple elts kk tpos) R (.ref (s1.heap.objs.size + 1)) { s1 with heap := h' } := fun {h' J tn} hk T st q => by
    refine ⟨_, _, tn, J, H1, rfl, I1.kept (t' := s1.toks) hk, T, st, fun b hb => ?_, q⟩
    have hle : s1.heap.objs.size ≤ b := by
      rcases List.mem_cons.mp hb with z | z
      · rw [z]; exact Nat.le_succ _
      · have z' : b = s1.heap.objs.size := by simpa using z
        rw [z']; exact Nat.le_refl _
    exact I1.fpOk hle (I1.hok.fresh hle)
  rcases q1 with ⟨⟨xs, hq⟩, q⟩ | ⟨⟨xs, hq⟩, q⟩
  · obtain ⟨its, rv, p', hz⟩ := I1.list hq
    exact call_enumerate_list p'.isList fun h' he hit hsz hk => wpAny_pyIter_enum he (lay hk (turn_enum a _ _) ⟨⟨.none, he⟩, hit, Nat.succ_ne_self _⟩ q)
  · obtain ⟨its, rv, p', hz⟩ := I1.tuple hq
    exact callEnumT (show s1.heap.IsTuple a its.toArray from p') fun h' he hit hk => wpAny_pyIter_enum he (lay hk (turnEnumT a _ _) ⟨⟨.none, he⟩, hit, Nat.succ_ne_self _⟩ q)
def fEnm (fA : DTA) : DTI := fun Γ st Q => fA Γ st fun ds st1 => match ds with
  | [x] => (match sqD st1 x with
    | some xs => Q (enmD xs) (standS x xs) st1
    | none => False)
  | _ => False
theorem pairNew {H : Hp} {ρ : List Addr} {T : Addr} {x y : V} {dx dy : D} (hT : H T = none) (h1 : De K H ρ x dx) (h2 : De K H ρ y dy) : De K (upd H T (.tup [x, y])) ρ (.ref T) (.tup [dx, dy]) :=
  De.t (SqT.of upd_same) (DeAll.mono (Lat.fresh hT) _ (.cons h1 (.cons h2 DeAll.nil)))
theorem foll_enT {H0 : Hp} {ρ0 : List Addr} {a : Addr} {vs : List V} {ds : List D} {S : Sto → Prop} (h : SqT K H0 a vs) (hd : DeAll K H0 ρ0 vs ds) : Foll K H0 ρ0 (IteT K a) (enmD ds) S := fun i H ρ st l s _ => by
  have h1 := l.sqT h
  have hd1 := DeAll.mono l _ hd
  rw [enmD_len]
  refine ⟨fun hi => ?_, fun hi => ⟨vs, h1, by rw [hd.length]; exact hi⟩⟩
  have eg := List.getElem?_eq_getElem hi
  obtain ⟨v, e1, hv⟩ := hd1.get eg
  refine ⟨⟨vs, v, h1, e1⟩, fun x H' ⟨T, y, e2, hT, e3, hy⟩ => ?_⟩
  subst e2; subst e3
  have e4 := hy vs h1
  rw [e1] at e4
  cases e4
  exact ⟨_, enmD_get eg, Lat.fresh hT, s.fresh hT, pairNew hT De.i hv⟩
theorem foll_enL {H0 : Hp} {ρ0 : List Addr} {a : Addr} {n : Nat} {ds : List D} (ha : ρ0[n]? = some a) : Foll K H0 ρ0 (Ite K a) (enmD ds) (standS (.ref n) ds) := fun i H ρ st l s hs => by
  obtain ⟨a', vs, e0, h1, hd1⟩ := ls_snd (v := .ref a) (d := .ref n) s ⟨a, l.rho _ _ ha, rfl⟩ hs
  cases e0
  rw [enmD_len]
  refine ⟨fun hi => ?_, fun hi => ⟨vs, h1, by rw [hd1.length]; exact hi⟩⟩
  have eg := List.getElem?_eq_getElem hi
  obtain ⟨v, e1, hv⟩ := hd1.get eg
  refine ⟨⟨vs, v, h1, e1⟩, fun x H' ⟨T, y, e2, hT, e3, hy⟩ => ?_⟩
  subst e2; subst e3
  have e4 := hy vs h1
  rw [e1] at e4
  cases e4
  exact ⟨_, enmD_get eg, Lat.fresh hT, s.fresh hT, pairNew hT De.i hv⟩
theorem di_enm {elts : List Expr} {kk : Nat} (hg : Gl X "enumerate") (hm : X.mg "enumerate" = none) (h : DA X [e] tA fA) (hs : starEach [e] X.env = [(false, eval e X.env)] := by rfl) : DI X (.Tuple elts kk tpos) (.Call (.Name "enumerate" p) [e] [] pos) (iEnm X.K tA) (fEnm fA) :=
  ⟨pi_enm hg hm h.pa hs, fun {H ρ σ Γ st Q R} s G q k => h.snd s G q fun vs ds H1 ρ1 st1 l1 s1 h1 q1 => by
    split at q1
    · rename_i x
      obtain ⟨v, rfl, hv⟩ := one_of h1
      split at q1
      · rename_i xs ex
        cases x with
        | tup ds =>
          cases ex
          obtain ⟨a, ws, rfl, e1, e2⟩ := hv
          exact ⟨a, rfl, .inr ⟨⟨ws, e1⟩, k _ _ _ _ _ _ l1 s1 (foll_enT e1 e2) q1⟩⟩
        | ref n =>
          obtain ⟨a, ws, rfl, e1, e2⟩ := ls_snd (d := .ref n) s1 hv ex
          obtain ⟨a', ha, e3⟩ := hv
          cases e3
          exact ⟨a, rfl, .inl ⟨⟨ws, e1⟩, k _ _ _ _ _ _ l1 s1 (foll_enL ha) q1⟩⟩
        | _ => cases ex
      · exact q1.elim
    · exact q1.elim⟩
/-- reversed -/
def fRevD (fe : DTE) : DTI := fun Γ st Q => fe Γ st fun x st1 => match sqD st1 x with
  | some xs => Q xs.reverse (standS x xs) st1
  | none => False
theorem rev_get {α : Type} {xs : List α} {i : Nat} (h : i < xs.length) : xs.reverse[i]? = xs[xs.length - 1 - i]? := by
  rw [List.getElem?_reverse h]
theorem di_rev (hg : Gl X "reversed") (hm : X.mg "reversed" = none) (h : DE X e te fe) (hs : starEach [e] X.env = (false, eval e X.env) :: starEach [] X.env := by rfl) : DI X tgt (.Call (.Name "reversed" p) [e] [] pos) (RT.iRevA X.K te) (fRevD fe) :=
  ⟨RT.pi_revA hg hm h.pe hs, fun {H ρ σ Γ st Q R} s G q k => h.snd s G q fun v d H1 ρ1 st1 l1 s1 h1 q1 => by
    split at q1
    · rename_i xs ex
      cases d with
      | tup ds =>
        cases ex
        obtain ⟨a, ws, rfl, e1, e2⟩ := h1
        refine ⟨a, ws, rfl, .inr ⟨e1, k _ _ _ _ _ _ l1 s1 (fun i H2 ρ2 st2 l2 s2 _ => ?_) q1⟩⟩
        have g1 := l2.sqT e1
        have g2 := (DeAll.mono l2 _ e2).reverse
        rw [List.length_reverse]
        refine ⟨fun hi => ?_, fun hi => (by rw [e2.length]; exact hi)⟩
        obtain ⟨w, e5, hw⟩ := g2.get (List.getElem?_eq_getElem (by rw [List.length_reverse]; exact hi))
        rw [rev_get (by rw [e2.length]; exact hi)] at e5
        refine ⟨⟨by rw [e2.length]; exact hi, ws, w, g1, e5⟩, fun x H' ⟨e6, y⟩ => ?_⟩
        subst e6
        have e7 := y ws g1
        rw [e5] at e7
        cases e7
        exact ⟨_, List.getElem?_eq_getElem (by rw [List.length_reverse]; exact hi), .refl, s2, hw⟩
      | ref n =>
        obtain ⟨a, ws, rfl, e1, e2⟩ := ls_snd (d := .ref n) s1 h1 ex
        obtain ⟨a', ha, e3⟩ := h1
        cases e3
        refine ⟨a, ws, rfl, .inl ⟨e1, k _ _ _ _ _ _ l1 s1 (fun i H2 ρ2 st2 l2 s2 hs2 => ?_) q1⟩⟩
        obtain ⟨a2, zs, z0, g1, g0⟩ := ls_snd (v := .ref a) (d := .ref n) s2 ⟨a, l2.rho _ _ ha, rfl⟩ hs2
        cases z0
        have g2 := g0.reverse
        have hl : ws.length = zs.length := by rw [e2.length, g0.length]
        rw [List.length_reverse]
        refine ⟨fun hi => ?_, fun hi => (by rw [e2.length]; exact hi)⟩
        obtain ⟨w, e5, hw⟩ := g2.get (List.getElem?_eq_getElem (by rw [List.length_reverse]; exact hi))
        rw [rev_get (by rw [g0.length]; exact hi)] at e5
        refine ⟨⟨by rw [e2.length]; exact hi, zs, w, g1, by rw [hl]; exact e5⟩, fun x H' ⟨e6, y⟩ => ?_⟩
        subst e6
        have e7 := y zs g1
        rw [hl, e5] at e7
        cases e7
        exact ⟨_, List.getElem?_eq_getElem (by rw [List.length_reverse]; exact hi), .refl, s2, hw⟩
      | _ => cases ex
    · exact q1.elim⟩

/-! ### for -/
def loopF (S : Sto → Prop) (g : DTG) (f : DTS) (E : DEnds) : List D → Sl → Sto → Prop
  | [], Γ, st => S st ∧ E.nx Γ st
  | x :: r, Γ, st => S st ∧ g x Γ st fun Γ' st' => f { nx := loopF S g f E r, rt := E.rt, bk := E.nx, ct := loopF S g f E r } Γ' st'
def fFor (fi : DTI) (g : DTG) (f : DTS) : DTS := fun D Γ st => fi Γ st fun items S st1 => loopF S g f D items Γ st1
variable {tg : TG} {fg : DTG} {t : TS} {f : DTS} {body : List Stmt}
theorem ds_for (hp : PassesOwn (model X.prog X.w) X.A X.env X.xe) (hc : X.calm = true) (hi : DI X tgt iter wi fi) (hg : DG X tgt tg fg) (hb : DSs X body t f) (hs : ∀ x, foldedSetIterable iter X.env x = pure x := by intro _; rfl) : DS X (.For tgt iter body [] pos) (tFor wi tg t) (fFor fi fg f) :=
  ⟨ps_for hp hc hi.pi hg.pg hb.ps hs, fun {H ρ σ Γ st D DD} s G q k => hi.snd s G q fun J items S H1 ρ1 st1 l1 s1 fo q1 => by
    refine ⟨fun i m σ' H' => ∃ ρ' Γ' st', Lat H1 ρ1 H' ρ' ∧ StOk X.K H' ρ' st' ∧ SlOk X.K H' ρ' σ' Γ' ∧ m = items.length - i ∧ i ≤ items.length ∧ loopF S fg f D (items.drop i) Γ' st', ⟨items.length, ρ1, Γ, st1, .refl, s1, G.mono l1, (Nat.sub_zero _).symm, Nat.zero_le _, q1⟩, ?_⟩
    rintro i m σ2 H2 ⟨ρ2, Γ2, st2, l2, s2, G2, rfl, hle, q2⟩
    have k2 := k.later (l1.trans l2)
    by_cases hi : i < items.length
    · rw [List.drop_eq_getElem_cons hi] at q2
      obtain ⟨hS, q2⟩ := q2
      obtain ⟨f1, f2⟩ := (fo i H2 ρ2 st2 l2 s2 hS).1 hi
      refine .inr ⟨f1, fun σ' H' => ∃ ρ' Γ' st', Lat H1 ρ1 H' ρ' ∧ StOk X.K H' ρ' st' ∧ SlOk X.K H' ρ' σ' Γ' ∧ loopF S fg f D (items.drop (i + 1)) Γ' st', fun σ' H' ⟨ρ', Γ', st', a1, a2, a3, a4⟩ => ⟨items.length - (i + 1), by omega, ρ', Γ', st', a1, a2, a3, rfl, hi, a4⟩, fun x H3 hy => ?_⟩
      obtain ⟨d, e3, l3, s3, h3⟩ := f2 x H3 hy
      rw [List.getElem?_eq_getElem hi] at e3
      cases e3
      refine hg.snd s3 (G2.mono l3) h3 q2 fun σ4 Γ4 H4 ρ4 st4 l4 s4 G4 q4 => ?_
      have L := l2.trans (l3.trans l4)
      have k4 := k2.later (l3.trans l4)
      exact hb.snd s4 G4 q4 ⟨fun σ' Γ' H' ρ' st' l' s' G' q' => ⟨ρ', Γ', st', L.trans l', s', G', q'⟩, k4.rt, k4.nx, fun σ' Γ' H' ρ' st' l' s' G' q' => ⟨ρ', Γ', st', L.trans l', s', G', q'⟩⟩
    · have e : i = items.length := by omega
      subst e
      rw [List.drop_length] at q2
      exact .inl ⟨(fo _ H2 ρ2 st2 l2 s2 q2.1).2 (Nat.le_refl _), k2.nx _ _ _ _ _ .refl s2 G2 q2.2⟩⟩
/-! ### comprehensions -/
def wipeD (Γ : Sl) : List Nat → Sl
  | [] => Γ
  | v :: vs => (wipeD Γ vs).set v none
theorem SlOk.wipe {H : Hp} {ρ : List Addr} {σ : L2.St} {Γ : Sl} (G : SlOk K H ρ σ Γ) : ∀ vs : List Nat, SlOk K H ρ (L2.wipe σ vs) (wipeD Γ vs)
  | [] => G
  | v :: vs => by
    have ih := SlOk.wipe G vs
    unfold L2.wipe wipeD
    refine ⟨by rw [List.length_set, List.length_set, ih.len], fun j d q => ?_⟩
    by_cases hj : v = j
    · subst hj
      have hl : v < (wipeD Γ vs).length := by
        have := (List.getElem?_eq_some_iff.mp q).1
        rwa [List.length_set] at this
      rw [List.getElem?_set_self hl] at q
      cases q
    · rw [List.getElem?_set_ne hj] at q
      obtain ⟨w, h1, h2⟩ := ih.at_ j d q
      exact ⟨w, by rw [List.getElem?_set_ne hj]; exact h1, h2⟩
/-- the new list stands at n -/
def loopC (S : Sto → Prop) (g : DTG) (ft : DTT) (fe : DTE) (Γ0 : Sl) (n : Nat) (Q : Sto → Prop) : List D → Sto → Prop
  | [], st => S st ∧ Q st
  | x :: r, st => S st ∧ g x Γ0 st fun Γ' st1 => ft Γ' st1 fun b st2 => if b = true then fe Γ' st2 fun y st3 => (match lstAt st3 n with
      | some xs => xs.length < lim ∧ loopC S g ft fe Γ0 n Q r (st3.set n (.lst (xs ++ [y])))
      | none => False) else loopC S g ft fe Γ0 n Q r st2
def fLc (fi : DTI) (g : DTG) (ft : DTT) (fe : DTE) (vs : List Nat) : DTE := fun Γ st Q => fi Γ st fun items S st1 => loopC S g ft fe (wipeD Γ vs) st1.length (fun st2 => Q (.ref st1.length) st2) items (st1 ++ [.lst []])
/-- that the block's own slots alone are stored by its target: wiped, the slots are the same -/
structure DTs (X : Cx) (ifs : List Expr) (t : TT) (f : DTT) : Prop where
  pt : PTs X ifs t
  snd : SndT X.K t f
def fYes : DTT := fun _ st Q => Q true st
theorem dts_nil : DTs X [] tYes fYes := ⟨pts_nil, fun s _ h k => k _ _ _ _ .refl s h⟩
theorem dts_one {cnd : Expr} {tt : TT} {ft : DTT} (h : DT X cnd tt ft) : DTs X [cnd] tt ft := ⟨pts_one h.pt, h.snd⟩
/-- a target that stores into slots of vs alone -/
def Within (vs : List Nat) (t : TG) : Prop := ∀ v σ H Q, t v σ H Q → t v σ H fun σ' H' => L2.wipe σ' vs = L2.wipe σ vs ∧ Q σ' H'
theorem wipe_set {σ : L2.St} {vs : List Nat} {i : Nat} {o : Option V} (h : i ∈ vs) : L2.wipe (σ.set i o) vs = L2.wipe σ vs := by
  have key : ∀ (vs : List Nat) (j : Nat), (L2.wipe (σ.set i o) vs)[j]? = if j = i ∧ i ∉ vs then (L2.wipe (σ.set i o) vs)[j]? else (L2.wipe σ vs)[j]? := by
    intro vs
    induction vs with
    | nil =>
      intro j
      by_cases hj : j = i
      · subst hj; simp
      · rw [if_neg (by simp [hj])]
        show (σ.set i o)[j]? = σ[j]?
        rw [List.getElem?_set_ne (fun e => hj e.symm)]
    | cons v vs ih =>
      intro j
      by_cases hc : j = i ∧ i ∉ v :: vs
      · rw [if_pos hc]
      · rw [if_neg hc]
        unfold L2.wipe
        by_cases hv : v = j
        · subst hv
          by_cases hl : v < σ.length
          · rw [List.getElem?_set_self (by rw [wipe_length, List.length_set]; exact hl), List.getElem?_set_self (by rw [wipe_length]; exact hl)]
          · rw [List.getElem?_eq_none (by rw [List.length_set, wipe_length, List.length_set]; omega), List.getElem?_eq_none (by rw [List.length_set, wipe_length]; omega)]
        · rw [List.getElem?_set_ne hv, List.getElem?_set_ne hv, ih j]
          by_cases hj : j = i ∧ i ∉ vs
          · exfalso
            apply hc
            refine ⟨hj.1, fun hm => ?_⟩
            rcases List.mem_cons.mp hm with z | z
            · exact hv (z.symm.trans hj.1.symm)
            · exact hj.2 z
          · rw [if_neg hj]
  apply List.ext_getElem?
  intro j
  rw [key vs j, if_neg (fun z => z.2 h)]
theorem within_name {vs : List Nat} {i : Nat} (h : i ∈ vs) : Within vs (gName i) := fun v σ H Q q => ⟨wipe_set h, q⟩
def WithinS (vs : List Nat) (t : TGs) : Prop := ∀ xs σ H Q, t xs σ H Q → t xs σ H fun σ' H' => L2.wipe σ' vs = L2.wipe σ vs ∧ Q σ' H'
theorem withins_nil {vs : List Nat} : WithinS vs gNil := fun xs σ H Q q => ⟨q.1, rfl, q.2⟩
theorem withins_cons {vs : List Nat} {t : TG} {u : TGs} (h1 : Within vs t) (h2 : WithinS vs u) (m : ∀ v σ H Q Q', (∀ σ H, Q σ H → Q' σ H) → t v σ H Q → t v σ H Q') (m2 : ∀ v σ H Q Q', (∀ σ H, Q σ H → Q' σ H) → u v σ H Q → u v σ H Q') : WithinS vs (gCons t u) := fun xs σ H Q ⟨v, r, e, q⟩ =>
  ⟨v, r, e, m v σ H _ _ (fun σ1 H1 ⟨e1, q1⟩ => m2 r σ1 H1 _ _ (fun σ2 H2 ⟨e2, q2⟩ => ⟨e2.trans e1, q2⟩) (h2 r σ1 H1 Q q1)) (h1 v σ H _ q)⟩
theorem within_tup {vs : List Nat} {n : Nat} {u : TGs} (h : WithinS vs u) : Within vs (gTup K n u) := fun v σ H Q ⟨a, xs, e, hs, hl, q⟩ => ⟨a, xs, e, hs, hl, h xs σ H Q q⟩
theorem mono_name {i : Nat} : ∀ v σ H Q Q', (∀ σ H, Q σ H → Q' σ H) → gName i v σ H Q → gName i v σ H Q' := fun _ _ _ _ _ f q => f _ _ q
theorem mono_nil : ∀ v σ H Q Q', (∀ σ H, Q σ H → Q' σ H) → gNil v σ H Q → gNil v σ H Q' := fun _ _ _ _ _ f q => ⟨q.1, f _ _ q.2⟩
theorem mono_cons {t : TG} {u : TGs} (m : ∀ v σ H Q Q', (∀ σ H, Q σ H → Q' σ H) → t v σ H Q → t v σ H Q') (m2 : ∀ v σ H Q Q', (∀ σ H, Q σ H → Q' σ H) → u v σ H Q → u v σ H Q') : ∀ v σ H Q Q', (∀ σ H, Q σ H → Q' σ H) → gCons t u v σ H Q → gCons t u v σ H Q' :=
  fun _ _ _ _ _ f ⟨v, r, e, q⟩ => ⟨v, r, e, m _ _ _ _ _ (fun σ1 H1 q1 => m2 _ _ _ _ _ f q1) q⟩
theorem mono_tup {n : Nat} {u : TGs} (m2 : ∀ v σ H Q Q', (∀ σ H, Q σ H → Q' σ H) → u v σ H Q → u v σ H Q') : ∀ v σ H Q Q', (∀ σ H, Q σ H → Q' σ H) → gTup K n u v σ H Q → gTup K n u v σ H Q' :=
  fun _ _ _ _ _ f ⟨a, xs, e, h1, h2, q⟩ => ⟨a, xs, e, h1, h2, m2 _ _ _ _ _ f q⟩
/-- the comprehension's reading is sound -/
theorem snd_lc {vs : List Nat} {tt : TT} {ft : DTT} (hi : SndI K wi fi) (hg : SndG K tg fg) (ht : SndT K tt ft) (he : SndE K te fe) (hw : Within vs tg) : SndE K (tLc wi tg tt te vs) (fLc fi fg ft fe vs) :=
  fun {H ρ σ Γ st Q QQ} s G q k => hi s G q fun J items S H1 ρ1 st1 l1 s1 fo q1 => fun L hL => by
    have lA : Lat H1 ρ1 (upd H1 L (.lst [])) (ρ1 ++ [L]) := (Lat.fresh hL).grow L
    have sA := s1.newL (ws := []) (es := []) hL DeAll.nil
    have atL : (ρ1 ++ [L])[st1.length]? = some L := s1.newAt
    refine ⟨fun i m H' => ∃ ρ' st', Lat (upd H1 L (.lst [])) (ρ1 ++ [L]) H' ρ' ∧ StOk K H' ρ' st' ∧ m = items.length - i ∧ i ≤ items.length ∧ loopC S fg ft fe (wipeD Γ vs) st1.length (fun st2 => Q (.ref st1.length) st2) (items.drop i) st', ⟨items.length, _, _, .refl, sA, (Nat.sub_zero _).symm, Nat.zero_le _, q1⟩, ?_⟩
    rintro i m H2 ⟨ρ2, st2, l2, s2, rfl, hle, q2⟩
    have lT := lA.trans l2
    have atL2 : ρ2[st1.length]? = some L := l2.rho _ _ atL
    by_cases hlt : i < items.length
    · rw [List.drop_eq_getElem_cons hlt] at q2
      obtain ⟨hS, q2⟩ := q2
      obtain ⟨f1, f2⟩ := (fo i H2 ρ2 st2 lT s2 hS).1 hlt
      refine .inr ⟨f1, fun H' => ∃ ρ' st', Lat (upd H1 L (.lst [])) (ρ1 ++ [L]) H' ρ' ∧ StOk K H' ρ' st' ∧ loopC S fg ft fe (wipeD Γ vs) st1.length (fun st2 => Q (.ref st1.length) st2) (items.drop (i + 1)) st', fun H' ⟨ρ', st', a1, a2, a3⟩ => ⟨items.length - (i + 1), by omega, ρ', st', a1, a2, rfl, hlt, a3⟩, fun x H3 hy => ?_⟩
      obtain ⟨d, e3, l3, s3, h3⟩ := f2 x H3 hy
      rw [List.getElem?_eq_getElem hlt] at e3
      cases e3
      have G3 : SlOk K H3 ρ2 (L2.wipe σ vs) (wipeD Γ vs) := (G.mono (l1.trans (lT.trans l3))).wipe vs
      have hh := hg (QQ := fun σ2 H2 => tt σ2 H2 fun b H3 => if b = true then te σ2 H3 fun y H4 => ∃ acc, H4 L = some (.lst acc) ∧ acc.length < sizeLine ∧ ∃ ρ' st', Lat (upd H1 L (.lst [])) (ρ1 ++ [L]) (upd H4 L (.lst (acc ++ [y]))) ρ' ∧ StOk K (upd H4 L (.lst (acc ++ [y]))) ρ' st' ∧ loopC S fg ft fe (wipeD Γ vs) st1.length (fun st2 => Q (.ref st1.length) st2) (items.drop (i + 1)) st'
          else ∃ ρ' st', Lat (upd H1 L (.lst [])) (ρ1 ++ [L]) H3 ρ' ∧ StOk K H3 ρ' st' ∧ loopC S fg ft fe (wipeD Γ vs) st1.length (fun st2 => Q (.ref st1.length) st2) (items.drop (i + 1)) st') s3 G3 h3 q2 fun σ4 Γ4 H4 ρ4 st4 l4 s4 G4 q4 => ?_
      · have h5 := hw _ _ _ _ hh
        have ew : L2.wipe (L2.wipe σ vs) vs = L2.wipe σ vs := by
          have : ∀ us : List Nat, (∀ v ∈ us, v ∈ vs) → L2.wipe (L2.wipe σ us) vs = L2.wipe σ vs := by
            intro us
            induction us with
            | nil => intro _; rfl
            | cons u us ih =>
              intro hu
              have e1 : L2.wipe σ (u :: us) = (L2.wipe σ us).set u none := rfl
              rw [e1, wipe_set (hu u List.mem_cons_self)]
              exact ih fun v hv => hu v (List.mem_cons_of_mem _ hv)
          exact this vs fun v hv => hv
        rw [ew] at h5
        exact h5
      · refine ht s4 G4 q4 fun b H5 ρ5 st5 l5 s5 q5 => ?_
        cases b with
        | true =>
          refine he s5 (G4.mono l5) q5 fun y dy H6 ρ6 st6 l6 s6 h6 q6 => ?_
          have lU := l2.trans (l3.trans (l4.trans (l5.trans l6)))
          have at6 : ρ6[st1.length]? = some L := lU.rho _ _ atL
          split at q6
          · rename_i zs ez
            obtain ⟨a, ws, e7, ha, h7, h8⟩ := lst_snd s6 (v := .ref L) ⟨L, at6, rfl⟩ ez
            cases e7
            exact ⟨ws, h7, by rw [h8.length]; exact lim_lt q6.1, ρ6, _, lU.trans (Lat.putL h7), s6.putL at6 h7 (h8.append (.cons h6 DeAll.nil)), q6.2⟩
          · exact q6.elim
        | false => exact ⟨ρ5, st5, l2.trans (l3.trans (l4.trans l5)), s5, q5⟩
    · have e : i = items.length := by omega
      subst e
      rw [List.drop_length] at q2
      exact .inl ⟨(fo _ H2 ρ2 st2 lT s2 q2.1).2 (Nat.le_refl _), k _ _ _ _ _ (l1.trans lT) s2 (De.r atL2) q2.2⟩
variable {elt : Expr} {ifs : List Expr} {scope : Scope} {own : List (Str × Nat)} {tt : TT} {ft : DTT}
theorem d_lc (hc : X.calm = true) (hN : X.N.Nodup) (hi : DI X tgt iter wi fi) (ok : BlkOk X.N X.env.scope scope own)
    (hg : ∀ (s : Shared) (H : Hp) (C : Addr) (cl : List (Str × Addr)) (fp : List Addr), DG (X.blk s H scope (compEnvC scope cl C X.env) fp) tgt tg fg)
    (ht : ∀ (s : Shared) (H : Hp) (C : Addr) (cl : List (Str × Addr)) (fp : List Addr), DTs (X.blk s H scope (compEnvC scope cl C X.env) fp) ifs tt ft)
    (he : ∀ (s : Shared) (H : Hp) (C : Addr) (cl : List (Str × Addr)) (fp : List Addr), DE (X.blk s H scope (compEnvC scope cl C X.env) fp) elt te fe) (hw : Within (own.map (·.2)) tg) (s0 : Shared) (hs : ∀ x, foldedSetIterable iter X.env x = pure x := by intro _; rfl) :
    DE X (.ListComp elt [⟨tgt, iter, ifs, 0⟩] scope pos) (tLc wi tg tt te (own.map (·.2))) (fLc fi fg ft fe (own.map (·.2))) :=
  ⟨pe_lc hc hN hi.pi ok (fun s H C cl fp => (hg s H C cl fp).pg) (fun s H C cl fp => (ht s H C cl fp).pt) (fun s H C cl fp => (he s H C cl fp).pe) hs,
    snd_lc hi.snd (hg s0 (fun _ => none) 0 [] []).snd (ht s0 (fun _ => none) 0 [] []).snd (he s0 (fun _ => none) 0 [] []).snd hw⟩
/-- name = [..] -/
theorem ds_setLc {i : Nat} {y : Str} {py spos : Pos} (hc : X.calm = true) (hN : X.N.Nodup) (hy : X.N[i]? = some y) (hyl : X.env.scope.names.lookup y = some .local)
    (hsw : swapsWith (.ListComp elt [⟨tgt, iter, ifs, 0⟩] scope pos) (some (.Name y py)) spos.line X.env = pure true) (hi : DI X tgt iter wi fi) (ok : BlkOk X.N X.env.scope scope own)
    (hg : ∀ (s : Shared) (H : Hp) (C : Addr) (cl : List (Str × Addr)) (fp : List Addr), DG (X.blk s H scope (compEnvC scope cl C X.env) fp) tgt tg fg)
    (ht : ∀ (s : Shared) (H : Hp) (C : Addr) (cl : List (Str × Addr)) (fp : List Addr), DTs (X.blk s H scope (compEnvC scope cl C X.env) fp) ifs tt ft)
    (he : ∀ (s : Shared) (H : Hp) (C : Addr) (cl : List (Str × Addr)) (fp : List Addr), DE (X.blk s H scope (compEnvC scope cl C X.env) fp) elt te fe) (hw : Within (own.map (·.2)) tg) (s0 : Shared) (hs : ∀ x, foldedSetIterable iter X.env x = pure x := by intro _; rfl) :
    DS X (.Assign [.Name y py] (.ListComp elt [⟨tgt, iter, ifs, 0⟩] scope pos) spos) (tAsg (tLc wi tg tt te (own.map (·.2))) (gName i)) (fSet i (fLc fi fg ft fe (own.map (·.2)))) :=
  ⟨ps_setLc hc hN hy hyl hsw hi.pi ok (fun s H C cl fp => (hg s H C cl fp).pg) (fun s H C cl fp => (ht s H C cl fp).pt) (fun s H C cl fp => (he s H C cl fp).pe) hs,
    fun s G q k => snd_lc hi.snd (hg s0 (fun _ => none) 0 [] []).snd (ht s0 (fun _ => none) 0 [] []).snd (he s0 (fun _ => none) 0 [] []).snd hw s G q fun v d H1 ρ1 st1 l1 s1 h1 q1 => k.nx _ _ _ _ _ l1 s1 ((G.mono l1).set i h1) q1⟩
end
end Y
namespace Y
open PySem PySem.Spec PyProof.Rows L2

/-! ### numbers of the store below a bound -/
mutual
def D.lt (n : Nat) : D → Prop
  | .ref m => m < n
  | .tup xs => D.ltAll n xs
  | .kl xs => D.ltAll n xs
  | _ => True
def D.ltAll (n : Nat) : List D → Prop
  | [] => True
  | d :: ds => D.lt n d ∧ D.ltAll n ds
end
def D.ltF (n : Nat) : List (Str × D) → Prop
  | [] => True
  | d :: ds => D.lt n d.2 ∧ D.ltF n ds
def Ob.lt (n : Nat) : Ob → Prop
  | .lst xs => D.ltAll n xs
  | .ro xs => D.ltAll n xs
  | .ins _ fs => D.ltF n fs
  | .gone => True
/-- a store whose objects name objects of the store -/
def Wf (n : Nat) (st : Sto) : Prop := ∀ (i : Nat) (o : Ob), st[i]? = some o → Ob.lt n o
section
variable {K : PySem.W.Frag} {H H' : Hp} {ρ ρ' : List Addr} {st : Sto} {n m : Nat}
mutual
theorem De.lt : ∀ {v : V} (d : D), De K H ρ v d → D.lt ρ.length d
  | _, .non, _ => trivial
  | _, .bl _, _ => trivial
  | _, .int _, _ => trivial
  | _, .str _, _ => trivial
  | _, .ref m, ⟨a, h, _⟩ => (List.getElem?_eq_some_iff.mp h).1
  | _, .tup ds, ⟨_, _, _, _, h⟩ => DeAll.lt ds h
  | _, .kl ds, ⟨_, _, _, _, h⟩ => DeAll.lt ds h
theorem DeAll.lt : ∀ {vs : List V} (ds : List D), DeAll K H ρ vs ds → D.ltAll ρ.length ds
  | [], [], _ => trivial
  | v :: vs, d :: ds, ⟨h1, h2⟩ => ⟨De.lt d h1, DeAll.lt ds h2⟩
  | [], _ :: _, h => h.elim
  | _ :: _, [], h => h.elim
end
theorem DeF.lt : ∀ {vs : List (Str × V)} (fs : List (Str × D)), DeF K H ρ vs fs → D.ltF ρ.length fs
  | [], [], _ => trivial
  | p :: ps, q :: qs, ⟨_, h2, h3⟩ => ⟨De.lt _ h2, DeF.lt qs h3⟩
  | [], _ :: _, h => h.elim
  | _ :: _, [], h => h.elim
theorem StOk.wf (s : StOk K H ρ st) : Wf st.length st := fun i o e => by
  have hi : i < st.length := (List.getElem?_eq_some_iff.mp e).1
  obtain ⟨a, ha⟩ : ∃ a, ρ[i]? = some a := ⟨ρ[i]'(by rw [s.len]; exact hi), List.getElem?_eq_getElem _⟩
  have q := s.ob i o a e ha
  rw [← s.len]
  cases o with
  | lst xs => obtain ⟨vs, _, h⟩ := q; exact DeAll.lt xs h
  | ro xs => obtain ⟨vs, _, h⟩ := q; exact DeAll.lt xs h
  | ins C fs => obtain ⟨_, vs, _, h⟩ := q; exact DeF.lt fs h
  | gone => trivial
mutual
theorem De.cut : ∀ {v : V} (d : D), De K H ρ v d → D.lt n d → De K H (ρ.take n) v d
  | _, .non, h, _ => h
  | _, .bl _, h, _ => h
  | _, .int _, h, _ => h
  | _, .str _, h, _ => h
  | _, .ref m, ⟨a, h, e⟩, hl => ⟨a, by rw [List.getElem?_take_of_lt hl]; exact h, e⟩
  | _, .tup ds, ⟨a, xs, e, h1, h⟩, hl => ⟨a, xs, e, h1, DeAll.cutL ds h hl⟩
  | _, .kl ds, ⟨a, xs, e, h1, h⟩, hl => ⟨a, xs, e, h1, DeAll.cutL ds h hl⟩
theorem DeAll.cutL : ∀ {vs : List V} (ds : List D), DeAll K H ρ vs ds → D.ltAll n ds → DeAll K H (ρ.take n) vs ds
  | [], [], _, _ => trivial
  | v :: vs, d :: ds, ⟨h1, h2⟩, ⟨l1, l2⟩ => ⟨De.cut d h1 l1, DeAll.cutL ds h2 l2⟩
  | [], _ :: _, h, _ => h.elim
  | _ :: _, [], h, _ => h.elim
end
theorem DeF.cut : ∀ {vs : List (Str × V)} (fs : List (Str × D)), DeF K H ρ vs fs → D.ltF n fs → DeF K H (ρ.take n) vs fs
  | [], [], _, _ => trivial
  | p :: ps, q :: qs, ⟨h1, h2, h3⟩, ⟨l1, l2⟩ => ⟨h1, De.cut _ h2 l1, DeF.cut qs h3 l2⟩
  | [], _ :: _, h, _ => h.elim
  | _ :: _, [], h, _ => h.elim
theorem StOk.cut {st1 : Sto} (s : StOk K H ρ st) (hp : st1 <+: st) (hw : Wf st1.length st1) : StOk K H (ρ.take st1.length) st1 := by
  obtain ⟨g, rfl⟩ := hp
  have hl : st1.length ≤ ρ.length := by rw [s.len, List.length_append]; omega
  refine ⟨by rw [List.length_take]; omega, s.nd.sublist (List.take_sublist _ _), fun i o a e1 e2 => ?_, fun i a e => ?_⟩
  · have hi : i < st1.length := (List.getElem?_eq_some_iff.mp e1).1
    rw [List.getElem?_take_of_lt hi] at e2
    have q := s.ob i o a (by rw [List.getElem?_append_left hi]; exact e1) e2
    have w := hw i o e1
    cases o with
    | lst xs => obtain ⟨vs, h1, h⟩ := q; exact ⟨vs, h1, DeAll.cutL xs h w⟩
    | ro xs => obtain ⟨vs, h1, h⟩ := q; exact ⟨vs, h1, DeAll.cutL xs h w⟩
    | ins C fs => obtain ⟨dx, vs, h1, h⟩ := q; exact ⟨dx, vs, h1, DeF.cut fs h w⟩
    | gone => trivial
  · have hi : i < st1.length := by
      have := (List.getElem?_eq_some_iff.mp e).1
      rw [List.length_take] at this
      omega
    rw [List.getElem?_take_of_lt hi] at e
    exact s.tr i a e
mutual
theorem D.lt_mono (h : n ≤ m) : ∀ (d : D), D.lt n d → D.lt m d
  | .non, _ => trivial
  | .bl _, _ => trivial
  | .int _, _ => trivial
  | .str _, _ => trivial
  | .ref _, q => Nat.lt_of_lt_of_le q h
  | .tup ds, q => D.ltAll_mono h ds q
  | .kl ds, q => D.ltAll_mono h ds q
theorem D.ltAll_mono (h : n ≤ m) : ∀ (ds : List D), D.ltAll n ds → D.ltAll m ds
  | [], _ => trivial
  | d :: ds, ⟨a, b⟩ => ⟨D.lt_mono h d a, D.ltAll_mono h ds b⟩
end
end
/-- what stands behind a return: the store may be cut to a beginning that names itself alone -/
def RetOk (st0 : Sto) (QD : D → Sto → Prop) (d : D) (st' : Sto) : Prop := ∃ st1, st1 <+: st' ∧ st0.length ≤ st1.length ∧ Wf st1.length st1 ∧ D.lt st1.length d ∧ QD d st1
theorem RetOk.pure {st0 st' : Sto} {QD : D → Sto → Prop} {d : D} (hp : st0 <+: st') (hw : Wf st0.length st0) (hd : D.lt 0 d) (q : QD d st0) : RetOk st0 QD d st' := ⟨st0, hp, Nat.le_refl _, hw, D.lt_mono (Nat.zero_le _) d hd, q⟩
/-- the slots at the start -/
def startD (n : Nat) (ds : List D) : Sl := ds.map some ++ List.replicate (n - ds.length) none
theorem start_ok {K : PySem.W.Frag} {H : Hp} {ρ : List Addr} {N : List Str} {vs : List V} {ds : List D} (h : DeAll K H ρ vs ds) : SlOk K H ρ (L2.start N vs) (startD N.length ds) := by
  have hl := h.length
  unfold L2.start startD
  refine ⟨by simp [hl], fun i d e => ?_⟩
  by_cases hi : i < ds.length
  · rw [List.getElem?_append_left (by simpa using hi), List.getElem?_map] at e
    obtain ⟨x, ex, e2⟩ := Option.map_eq_some_iff.mp e
    cases e2
    obtain ⟨v, h1, h2⟩ := h.get ex
    exact ⟨v, by rw [List.getElem?_append_left (by simp; omega), List.getElem?_map, h1]; rfl, h2⟩
  · rw [List.getElem?_append_right (by simp; omega)] at e
    have := List.mem_of_getElem? e
    rw [List.mem_replicate] at this
    cases this.2
section
variable {P : Program} {w : World} {K : PySem.W.Frag} {mg : Str → Option Value} {base : Heap} {x : Str} {params : Arguments} {body : List Stmt} {scope : Scope} {fa : Addr} {fd : FuncData} {N ps : List Str} {k n : Nat} {C : Con} {f : DTS}
/-- THE RULE for a def: its body's reading, and that the reading keeps the promise -/
theorem fnD (F : FunD K x x params body scope [] [] fa fd) (S : FnScope N ps scope)
    (hb : ∀ (cdv : Value) (A : Around) (outer : List Env) (s : Shared) (H : Hp) (E : XK), Room k (A.deeper (envOfC x scope s.heap.objs.size fa cdv)) → ∃ t, DSs (cxOf CX0 P w K mg base N x scope fa cdv A outer s H E).nox body t f)
    (th : ∀ (ds : List D) (st : Sto) (QD : D → Sto → Prop), ds.length = ps.length → Wf st.length st → D.ltAll st.length ds → C ds st QD → f { nx := fun _ st' => RetOk st QD .non st', rt := RetOk st QD } (startD N.length ds) st) :
    FnOk P w K mg base CX0 (k + 1) fa fd ps (spD K ps.length C) := by
  refine F.ok S (fun vs H Q E h => h.1) fun cdv A outer s H vs Q E hr h => ?_
  obtain ⟨hl, ρ, st, ds, QD, so, hd, hC, hQ⟩ := h
  obtain ⟨t, hb'⟩ := hb cdv A outer s H E hr
  have fin : ∀ (v : V) (d : D) (H' : Hp) (ρ' : List Addr) (st' : Sto), Lat H ρ H' ρ' → StOk K H' ρ' st' → De K H' ρ' v d → RetOk st QD d st' → Q v H' := fun v d H' ρ' st' l' s' h' ⟨st1, hp, hle, hw, hlt, q⟩ => by
    refine hQ v d H' (ρ'.take st1.length) st1 ⟨l'.tup, l'.frz, fun i a e => ?_⟩ (s'.cut hp hw) (De.cut d h' hlt) q
    have hi : i < st.length := by
      have := (List.getElem?_eq_some_iff.mp e).1
      rw [so.len] at this; exact this
    rw [List.getElem?_take_of_lt (by omega)]
    exact l'.rho i a e
  refine ⟨t, hb'.ps.nox, hb'.snd so (start_ok hd) (th ds st QD (by rw [← hd.length]; exact hl) so.wf (by rw [← so.len]; exact DeAll.lt ds hd) hC) ⟨fun σ Γ H' ρ' st' l' s' _ q => ?_, fin, fun _ _ _ _ _ _ _ _ q => q, fun _ _ _ _ _ _ _ _ q => q⟩⟩
  exact fin .non .non H' ρ' st' l' s' De.n q
theorem own_mk (G : FnOk P w K mg base CX0 k fa fd ps (spD K ps.length C)) (F : FunD K x x params body scope [] [] fa fd) (hm : mg x = some (.ref fa))
    (h : ∀ (kV doc pm : Value) (an : Option Addr) (cdv ct : Value) (us : List Value), us.length = ps.length → bindArgs (PySem.W.fnOf x x params body scope .none kV doc pm an cdv ct) ⟨us, []⟩ = pure (ps.zip us)) : Own P w K mg base k x ps C :=
  ⟨fa, fd, G, hm, F.kp, F.bindsN h⟩
theorem ownK_mk {ks : List Str} {perm : List Nat} (G : FnOk P w K mg base CX0 k fa fd ps (spD K ps.length C)) (F : FunD K x x params body scope [] [] fa fd) (hm : mg x = some (.ref fa))
    (h : ∀ (kV doc pm : Value) (an : Option Addr) (cdv ct : Value) (us ws : List Value), us.length = n → ws.length = ks.length → bindArgs (PySem.W.fnOf x x params body scope .none kV doc pm an cdv ct) ⟨us, ks.zip ws⟩ = pure (ps.zip (ordK perm us ws))) : OwnK P w K mg base k x ps n ks perm C := by
  obtain ⟨oc, od, dV, kV, doc, pm, an, cdv, ct, osl, e, lk, hcd, hD, hK⟩ := F.ex
  rcases hD with ⟨_, e2⟩ | ⟨e2, _⟩
  · subst e2
    subst e
    exact ⟨fa, _, G, hm, F.kp, ⟨fun s us ws _ l1 l2 => .of_eq (h kV doc pm an cdv ct us ws l1 l2), fun h1 h2 => ord_rel h1 h2⟩⟩
  · exact absurd rfl e2
end
/-! ### the law's end -/
/-- the law's promise: given the script, in any form, True -/
def cLaw (most : Nat) : Con := fun ds st Q => ∃ ns : List Int, ns.length ≤ most ∧ ((ds = [.kl (ns.map D.int)] ∧ st = []) ∨ (ds = [.ref 0] ∧ (st = [.lst (ns.map D.int)] ∨ st = [.ro (ns.map D.int)]))) ∧ ∀ st', Q (.bl true) st'
theorem law_sp {K : PySem.W.Frag} {H : Hp} {a : Addr} {ns : List Int} {most : Nat} {E : XK} (hl : ns.length ≤ most) (h : SqL K H a (ns.map V.int)) : spD K 1 (cLaw most) [.ref a] H (fun v _ => v = .bl true) E := by
  refine ⟨rfl, ?_⟩
  have fin : ∀ (ρ : List Addr), Behind K H ρ (fun d _ => d = D.bl true) (fun v _ => v = .bl true) := fun ρ v d H' ρ' st' l s hv e => by
    subst e
    exact hv
  rcases h with (h | ⟨o, h⟩) | ⟨o, its, n, hk, hc, hd, hs, hz, r⟩
  · refine ⟨[a], [.lst (ns.map D.int)], [.ref 0], fun d _ => d = .bl true, ⟨rfl, by simp, fun i o b e1 e2 => ?_, fun i b e => ?_⟩, .cons (De.r rfl) DeAll.nil, ⟨ns, hl, .inr ⟨rfl, .inl rfl⟩, fun _ => rfl⟩, fin _⟩
    · cases i with
      | zero =>
        cases e1; cases e2
        exact ⟨_, h, DeAll.of_ints⟩
      | succ i => simp at e1
    · cases i with
      | zero => cases e; exact ⟨_, h⟩
      | succ i => simp at e
  · refine ⟨[a], [.ro (ns.map D.int)], [.ref 0], fun d _ => d = .bl true, ⟨rfl, by simp, fun i o' b e1 e2 => ?_, fun i b e => ?_⟩, .cons (De.r rfl) DeAll.nil, ⟨ns, hl, .inr ⟨rfl, .inr rfl⟩, fun _ => rfl⟩, fin _⟩
    · cases i with
      | zero =>
        cases e1; cases e2
        exact ⟨_, ⟨o, h⟩, DeAll.of_ints⟩
      | succ i => simp at e1
    · cases i with
      | zero => cases e; exact ⟨_, h⟩
      | succ i => simp at e
  · refine ⟨[], [], [.kl (ns.map D.int)], fun d _ => d = .bl true, ⟨rfl, List.nodup_nil, fun i o' b e1 e2 => ?_, fun i b e => ?_⟩, .cons ⟨a, _, rfl, fun H' => .inr ⟨o, its, n, hk, hc, hd, hs, hz, r⟩, DeAll.of_ints⟩ DeAll.nil, ⟨ns, hl, .inl ⟨rfl, rfl⟩, fun _ => rfl⟩, fin _⟩
    · simp at e1
    · simp at e
end Y
namespace Y
open PySem PySem.Spec PyProof.Rows L2

/-! ### tuple * int, any number -/
section
open AutoSeq1 (wpAny_loadPart')
/-- by 1: itself -/
theorem tupTimes1 (l : Addr) (its : Array Value) (n : Nat) (dd : Option Addr) (sl : Array (Option Value)) (u : Tok) :
    Meets (Builtin.«tuple.__mul__» ⟨[.ref l, .int 1 u], []⟩) (fun _ R s => s.heap.get? l = some { cls := .type "tuple", dict := dd, data := .seq its n, slots := sl } ∧ R (.ok (.ret (Value.ref l))) s) :=
  .of_wp fun prog w A R s hyp => by
    obtain ⟨hp, gg, dr, tk, os⟩ := s
    obtain ⟨hl, hyp⟩ := hyp
    have f1 := AutoSeq1.idx_int
    have c1 : (its.isEmpty || ((1 : Int) == 1)) = true := by simp
    wp_walk using wpAny_loadPart' hl
    exact ⟨_, rfl, hyp⟩
/-- by 0 or less: the empty one, if it isn't empty itself -/
theorem tupTimes0 (l : Addr) (its : Array Value) (n : Nat) (dd : Option Addr) (sl : Array (Option Value)) (x : Int) (u : Tok) (c0 : (decide (x < -(2 ^ 63)) || decide (x ≥ 2 ^ 63)) = false) (c1 : (its.isEmpty || x == 1) = false) (c2 : (decide (x ≤ 0) || its.isEmpty) = true) :
    Meets (Builtin.«tuple.__mul__» ⟨[.ref l, .int x u], []⟩) (fun _ R s => s.heap.get? l = some { cls := .type "tuple", dict := dd, data := .seq its n, slots := sl } ∧
      R (.ok (.ret (Value.ref s.heap.objs.size))) { s with heap := s.heap.push { cls := Value.type "tuple", data := Data.seq #[] } }) :=
  .of_wp fun prog w A R s hyp => by
    obtain ⟨hp, gg, dr, tk, os⟩ := s
    obtain ⟨hl, hyp⟩ := hyp
    have f1 := AutoSeq1.idx_int
    wp_walk using wpAny_loadPart' hl
    refine wpAny_ite_false (decide_eq_false (by rw [c0]; exact Bool.false_ne_true)) ?_
    wp_walk using wpAny_loadPart' hl
    exact ⟨_, rfl, hyp⟩
end
/-- tuple * int -/
def rTimes (K : PySem.W.Frag) : R2 := fun x y H Q => ∃ (l : Addr) (k : Int) (xs : List V), x = .ref l ∧ y = .int k ∧ SqT K H l xs ∧ xs ≠ [] ∧ -1000000 ≤ k ∧ k ≤ 1000 ∧ xs.length ≤ 1000 ∧ (k = 1 → Q (.ref l) H) ∧ (k ≤ 0 → ∀ p, H p = none → Q (.ref p) (upd H p (.tup []))) ∧
  (2 ≤ k → ∀ p, H p = none → Q (.ref p) (upd H p (.tup (List.replicate k.toNat xs).flatten)))
section
variable {X : Cx} {K : PySem.W.Frag} {e a b c : Expr} {es : List Expr} {ta tb te tc : TE} {tA : TA} {fa fb fe fc : DTE} {fA : DTA} {p pos tpos : Pos}
theorem op_times : OpR X (binaryOp .Mult) (rTimes X.K) := by
  intro pins s σ H x y v u Q I rx ry ⟨l, k, xs, e1, e2, hT, hne, h1, h2, hz, q1, q2, q3⟩
  by_cases h3 : 2 ≤ k
  · exact op_repT pins s σ H x y v u Q I rx ry ⟨l, k, xs, e1, e2, hT, hne, h3, h2, hz, q3 h3⟩
  · subst e1; subst e2
    cases rx
    obtain ⟨t, rfl⟩ := ry
    obtain ⟨its, r, ⟨⟨cls, dd, data, sl⟩, ho, hc, n, hd⟩, hs⟩ := I.tuple hT
    have hc' : cls = .type "tuple" := hc
    have hd' : data = .seq its.toArray n := hd
    subst hc' hd'
    have road : ∀ {R : Value → Shared → Prop}, wpAny (model X.prog X.w) X.A (call (.builtin "tuple.__mul__") [.ref l, .int k t]) R X.xe s → wpAny (model X.prog X.w) X.A (binaryOp .Mult (.ref l) (.int k t)) R X.xe s := fun {R} hin =>
      wpAny_binaryOp_repeat_ref (T := "tuple") (U := "int") (by decide) ⟨_, ho, rfl⟩ (fun s' => typeIs_int s' k t) noFill_tuple_mul F.fills_int_mul F.slot_int_rmul repeat_tuple F.slot_int_index.lookup
        (call_meets F.slot_int_rmul (typeIs_int s k t) F.entry_int_rmul (F.args_int_rmul_2 _ _) (int_rmul_tuple k t l its.toArray n dd sl) ⟨ho, rfl, ⟨_, ho, rfl⟩, hin⟩)
    by_cases h4 : k = 1
    · subst h4
      exact road (call_meets F.slot_tuple_mul ⟨_, ho, rfl⟩ F.entry_tuple_mul (F.args_tuple_mul_2 _ _) (tupTimes1 l its.toArray n dd sl t) ⟨ho, ⟨.ref l, H, I, rfl, q1 rfl⟩⟩)
    · have hi : its.toArray.isEmpty = false := by
        cases its with
        | nil => cases r; exact absurd rfl hne
        | cons _ _ => rfl
      refine road (call_meets F.slot_tuple_mul ⟨_, ho, rfl⟩ F.entry_tuple_mul (F.args_tuple_mul_2 _ _) (tupTimes0 l its.toArray n dd sl k t ?_ ?_ ?_) ⟨ho, ?_⟩)
      · rw [decide_eq_false (by omega), decide_eq_false (by omega)]; rfl
      · rw [hi, Bool.false_or]
        exact beq_eq_false_iff_ne.mpr h4
      · rw [decide_eq_true (by omega)]; rfl
      · refine ⟨.ref s.heap.objs.size, _, I.laid (t' := s.toks) (o := .tup []) (fun b ob q => Heap.get?_push_of_some _ q) (Nat.le_refl _) ?_, rfl, q2 (by omega) _ (I.hok.fresh (Nat.le_refl _))⟩
        exact ⟨Nat.zero_le _, [], .nil, IsTup.new _ _⟩
/-- *, of ints, lists, tuples by an int -/
def gTimes : DR2 := fun x y st Q => match x, y with
  | .tup a, .int k => a ≠ [] ∧ -1000000 ≤ k ∧ k ≤ 1000 ∧ a.length ≤ 1000 ∧ Q (.tup (List.replicate k.toNat a).flatten) st
  | x, y => gMul x y st Q
def rTimesR (K : PySem.W.Frag) : R2 := fun x y H Q => rMulR x y H Q ∨ rTimes K x y H Q
theorem snd_times : Snd2 K (rTimesR K) gTimes := fun {H ρ st x y dx dy Q QQ} s hx hy q k => by
  unfold gTimes at q
  split at q
  · rename_i a n
    obtain ⟨h0, h1, h2, h3, q⟩ := q
    obtain ⟨l, vs, rfl, e1, e2⟩ := hx
    cases hy
    refine .inr ⟨l, n, vs, rfl, rfl, e1, fun z => h0 (e2.nil_iff.mp z), h1, h2, by rw [e2.length]; exact h3, fun z => ?_, fun z p hp => ?_, fun z p hp => ?_⟩
    · subst z
      have e3 : (List.replicate (1 : Int).toNat a).flatten = a := by simp
      rw [e3] at q
      exact k _ _ _ _ _ .refl s (De.t e1 e2) q
    · have e3 : n.toNat = 0 := by omega
      rw [e3] at q
      exact k _ _ _ _ _ (Lat.fresh hp) (s.fresh hp) (De.t (SqT.of upd_same) DeAll.nil) q
    · exact k _ _ _ _ _ (Lat.fresh hp) (s.fresh hp) (De.t (SqT.of upd_same) (DeAll.mono (Lat.fresh hp) _ (e2.rep _))) q
  · exact .inl (snd_mul s hx hy q k)
theorem d_times (ha : DE X a ta fa) (hb : DE X b tb fb) : DE X (.BinOp a .Mult b pos) (tOp (rTimesR X.K) ta tb) (fBin gTimes fa fb) := d_op (op_mulR.or op_times) snd_times ha hb

/-! ### range downwards -/
variable {tgt : Expr}
theorem di_rngN (hg : Gl X "range") (hm : X.mg "range" = none) (h : DA X [a, b, c] tA fA) (hs : starEach [a, b, c] X.env = (false, eval a X.env) :: starEach [b, c] X.env := by rfl) (hpl : (backTo pos (starEach [b, c] X.env)).any (·.1) = false := by rfl) :
    DI X tgt (.Call (.Name "range" p) [a, b, c] [] pos) (iRng3 tA) (fRngN fA) :=
  ⟨pi_range3 hg hm h.pa hs hpl, fun s G q k => h.snd s G q fun vs ds H1 ρ1 st1 l1 s1 h1 q1 => by
    split at q1
    · obtain ⟨u, v, w, rfl, e1, e2, e3⟩ := three_of h1
      cases e1; cases e2; cases e3
      obtain ⟨⟨⟨b1, b2⟩, b3, b4⟩, q1⟩ := q1
      exact ⟨_, _, -1, _, rfl, RgC.neg (by omega) (by omega) (by omega) (by omega), k _ _ _ _ _ _ l1 s1 foll_rc q1⟩
    · exact q1.elim⟩
end

/-! ### data as the library has it; in, not in -/
mutual
def D.py : D → PyData
  | .non => .none
  | .bl b => .bool b
  | .int i => .int i
  | .str s => .str s
  | .tup xs => .tuple (D.pyAll xs)
  | .ref _ => .none
  | .kl _ => .none
def D.pyAll : List D → List PyData
  | [] => []
  | d :: ds => D.py d :: D.pyAll ds
end
mutual
/-- no object of the store within -/
def D.flat : D → Bool
  | .tup xs => D.flatAll xs
  | .ref _ => false
  | .kl _ => false
  | .str s => PyData.strOk s
  | _ => true
def D.flatAll : List D → Bool
  | [] => true
  | d :: ds => D.flat d && D.flatAll ds
end
section
variable {K : PySem.W.Frag} {H : Hp} {ρ : List Addr} {st : Sto}
mutual
theorem De.dp : ∀ {v : V} (d : D), De K H ρ v d → D.flat d = true → Dp K H v d.py
  | _, .non, h, _ => by cases h; exact .non
  | _, .bl b, h, _ => by cases h; exact .bl b
  | _, .int i, h, _ => by cases h; exact .int i
  | _, .str s, h, _ => by cases h; exact .str s
  | _, .tup ds, ⟨a, xs, e, hs, h⟩, f => by subst e; exact .tup hs (DeAll.dp ds h f)
  | _, .ref _, _, f => nomatch f
  | _, .kl _, _, f => nomatch f
theorem DeAll.dp : ∀ {vs : List V} (ds : List D), DeAll K H ρ vs ds → D.flatAll ds = true → DpAll K H vs (D.pyAll ds)
  | [], [], _, _ => .nil
  | v :: vs, d :: ds, ⟨h1, h2⟩, f => .cons (De.dp d h1 (Bool.and_eq_true_iff.mp f).1) (DeAll.dp ds h2 (Bool.and_eq_true_iff.mp f).2)
  | [], _ :: _, h, _ => h.elim
  | _ :: _, [], h, _ => h.elim
end
mutual
theorem D.canLay : ∀ d : D, D.flat d = true → d.py.canLay0 = true
  | .non, _ => by simp [D.py, PyData.canLay0]
  | .bl b, _ => by simp [D.py, PyData.canLay0]
  | .int i, _ => by simp [D.py, PyData.canLay0]
  | .str s, h => by simp only [D.py, PyData.canLay0]; exact h
  | .tup ds, h => by simp only [D.py, PyData.canLay0]; exact D.canLayAll ds h
  | .ref _, h => nomatch h
  | .kl _, h => nomatch h
theorem D.canLayAll : ∀ ds : List D, D.flatAll ds = true → PyData.canLayAll0 (D.pyAll ds) = true
  | [], _ => by simp [D.pyAll, PyData.canLayAll0]
  | d :: ds, h => by
    simp only [D.pyAll, PyData.canLayAll0, Bool.and_eq_true]
    exact ⟨D.canLay d (Bool.and_eq_true_iff.mp h).1, D.canLayAll ds (Bool.and_eq_true_iff.mp h).2⟩
end
theorem D.shaped {d : D} (f : D.flat d = true) (h : d.py.depth ≤ 64) : SeqAt.shaped d.py = true := by
  unfold SeqAt.shaped
  rw [D.canLay d f, decide_eq_true h]
  rfl
end
def eqvD (z x : D) : Bool := PyData.eqv z.py x.py
def gInW (neg : Bool) : DR2 := fun x y st Q => match lsD st y with
  | some xs => x.flat = true ∧ D.flatAll xs = true ∧ x.py.depth ≤ 63 ∧ (∀ z ∈ xs, z.py.depth ≤ 62) ∧ Q (.bl (if neg = true then !xs.any fun z => eqvD z x else xs.any fun z => eqvD z x)) st
  | none => False
def gIn : DR2 := gInW false
def gNotIn : DR2 := gInW true
section
variable {X : Cx} {K : PySem.W.Frag} {a b : Expr} {ta tb : TE} {fa fb : DTE} {pos : Pos} {k : Nat}
theorem depthAll_le {n : Nat} : ∀ {xs : List D}, (∀ z ∈ xs, z.py.depth ≤ n) → PyData.depthAll (D.pyAll xs) ≤ n
  | [], _ => by simp [D.pyAll, PyData.depthAll]
  | x :: xs, h => by
    have h1 := h x List.mem_cons_self
    have h2 := depthAll_le (xs := xs) fun z hz => h z (List.mem_cons_of_mem _ hz)
    simp only [D.pyAll, PyData.depthAll]
    omega
theorem list_shaped {xs : List D} (f : D.flatAll xs = true) (h : ∀ z ∈ xs, z.py.depth ≤ 62) : SeqAt.shaped (.list (D.pyAll xs)) = true := by
  have h1 := depthAll_le h
  have h2 : PyData.depth (.list (D.pyAll xs)) ≤ 64 := by simp only [PyData.depth]; omega
  unfold SeqAt.shaped
  rw [decide_eq_true h2, Bool.and_true]
  simp only [PyData.canLay0]
  exact D.canLayAll xs f
theorem anyPy {xs : List D} {x : D} : (D.pyAll xs).any (fun z => PyData.eqv z x.py) = xs.any fun z => eqvD z x := by
  induction xs with
  | nil => rfl
  | cons y ys ih =>
    rw [D.pyAll, List.any_cons, List.any_cons, ih]
    rfl
theorem list_dp {H : Hp} {ρ : List Addr} {st : Sto} {v : V} {d : D} {xs : List D} (s : StOk K H ρ st) (h : De K H ρ v d) (e : lsD st d = some xs) (f : D.flatAll xs = true) : Dp K H v (.list (D.pyAll xs)) := by
  obtain ⟨p, vs, rfl, h1, h2⟩ := ls_snd s h e
  exact .lst h1 (DeAll.dp xs h2 f)
theorem snd_in : Snd2 K (rInD K) gIn := fun {H ρ st x y dx dy Q QQ} s hx hy q k => by
  unfold gIn gInW at q
  split at q
  · rename_i xs e
    obtain ⟨h1, h2, h3, h4, q⟩ := q
    exact ⟨dx.py, D.pyAll xs, De.dp _ hx h1, list_dp s hy e h2, D.shaped h1 (by omega), list_shaped h2 h4, by rw [anyPy]; exact k _ _ _ _ _ .refl s De.b q⟩
  · exact q.elim
theorem snd_notin : Snd2 K (rNotInD K) gNotIn := fun {H ρ st x y dx dy Q QQ} s hx hy q k => by
  unfold gNotIn gInW at q
  split at q
  · rename_i xs e
    obtain ⟨h1, h2, h3, h4, q⟩ := q
    exact ⟨dx.py, D.pyAll xs, De.dp _ hx h1, list_dp s hy e h2, D.shaped h1 (by omega), list_shaped h2 h4, by rw [anyPy]; exact k _ _ _ _ _ .refl s De.b q⟩
  · exact q.elim
theorem room65 (hr : Room k X.A) : X.A.units + 65 < cLine := by
  have := hr.un
  have e : cLine = cLine := rfl
  omega
theorem dt_in (hr : Room k X.A) (ha : DE X a ta fa) (hb : DE X b tb fb) (hm : behindInMarks .In b = false := by rfl) : DT X (.Compare a [.In] [b] pos) (tTest (tOp (rInD X.K) ta tb)) (fTest (fBin gIn fa fb)) := dt_cmp (op_inD (room65 hr)) snd_in ha hb hm
theorem dt_notin (hr : Room k X.A) (ha : DE X a ta fa) (hb : DE X b tb fb) (hm : behindInMarks .NotIn b = false := by rfl) : DT X (.Compare a [.NotIn] [b] pos) (tTest (tOp (rNotInD X.K) ta tb)) (fTest (fBin gNotIn fa fb)) := dt_cmp (op_notInD (room65 hr)) snd_notin ha hb hm
end
end Y
namespace Y
open PySem PySem.Spec PyProof.Rows L2

/-! ### readings by simp -/
section
variable {f g h : DTE} {t u : DTT} {fA fB : DTA} {fs gs : DTS} {fg : DTG} {fgs : DTGs} {fi : DTI} {E : DEnds} {Γ : Sl} {st : Sto} {d x y : D} {o : Option D} {i j : Nat} {Q : D → Sto → Prop} {QT : Bool → Sto → Prop} {QA : List D → Sto → Prop} {QG : Sl → Sto → Prop} {QI : List D → (Sto → Prop) → Sto → Prop} {QO : Option Int → Sto → Prop} {ds : List D} {g1 : DR1} {g2 : DR2} {gL : DRL}
@[simp] theorem fVar_zero : fVar 0 (some d :: Γ) st Q = Q d st := propext Iff.rfl
@[simp] theorem fVar_succ : fVar (i + 1) (o :: Γ) st Q = fVar i Γ st Q := propext Iff.rfl
@[simp] theorem fC_eq : fC d Γ st Q = Q d st := propext Iff.rfl
@[simp] theorem fBin_eq : fBin g2 f g Γ st Q = f Γ st fun x st1 => g Γ st1 fun y st2 => g2 x y st2 Q := propext Iff.rfl
@[simp] theorem fUn_eq : fUn g1 f Γ st Q = f Γ st fun x st1 => g1 x st1 Q := propext Iff.rfl
@[simp] theorem fTest_eq : fTest f Γ st QT = f Γ st fun x st1 => match x with
  | .bl b => QT b st1
  | _ => False := propext Iff.rfl
@[simp] theorem fTru_eq : fTru f Γ st QT = f Γ st fun x st1 => match truD x st1 with
  | some b => QT b st1
  | none => False := propext Iff.rfl
@[simp] theorem tru_tup {xs : List D} : truD (.tup xs) st = some (!xs.isEmpty) := rfl
@[simp] theorem tru_bl {b : Bool} : truD (.bl b) st = some b := rfl
@[simp] theorem tru_int {i : Int} : truD (.int i) st = some (i != 0) := rfl
@[simp] theorem tru_non : truD .non st = some false := rfl
@[simp] theorem fAnd_eq : fAnd t u Γ st QT = t Γ st fun c st1 => if c = true then u Γ st1 QT else QT false st1 := propext Iff.rfl
@[simp] theorem fOr_eq : fOr t u Γ st QT = t Γ st fun c st1 => if c = true then QT true st1 else u Γ st1 QT := propext Iff.rfl
@[simp] theorem fNot_eq : fNot t Γ st QT = t Γ st fun c st1 => QT (!c) st1 := propext Iff.rfl
@[simp] theorem fIf_eq : fIf t f g Γ st Q = t Γ st fun c st1 => if c = true then f Γ st1 Q else g Γ st1 Q := propext Iff.rfl
@[simp] theorem fAndV_eq : fAndV f g Γ st Q = f Γ st fun x st1 => match x with
  | .bl true => g Γ st1 Q
  | .bl false => Q (.bl false) st1
  | _ => False := propext Iff.rfl
@[simp] theorem fOrV_eq : fOrV f g Γ st Q = f Γ st fun x st1 => match x with
  | .bl true => Q (.bl true) st1
  | .bl false => g Γ st1 Q
  | _ => False := propext Iff.rfl
@[simp] theorem fNotV_eq : fNotV f Γ st Q = f Γ st fun x st1 => match x with
  | .bl c => Q (.bl (!c)) st1
  | _ => False := propext Iff.rfl
@[simp] theorem fNil_eq : fNil Γ st QA = QA [] st := propext Iff.rfl
@[simp] theorem fCons_eq : fCons f fA Γ st QA = f Γ st fun x st1 => fA Γ st1 fun xs st2 => QA (x :: xs) st2 := propext Iff.rfl
@[simp] theorem fTup_eq : fTup fA Γ st Q = fA Γ st fun ds st1 => ds.length ≤ 1000 ∧ Q (.tup ds) st1 := propext Iff.rfl
@[simp] theorem fLst_eq : fLst fA Γ st Q = fA Γ st fun ds st1 => ds.length ≤ 1000 ∧ Q (.ref st1.length) (st1 ++ [.lst ds]) := propext Iff.rfl
@[simp] theorem fFn_eq : fFn gL fA Γ st Q = fA Γ st fun ds st1 => gL ds st1 Q := propext Iff.rfl
@[simp] theorem fSl_eq {fl fh : DTO} : fSl f fl fh Γ st Q = f Γ st fun x st1 => fl Γ st1 fun lo st2 => fh Γ st2 fun hi st3 => match x with
  | .tup xs => Q (.tup (cutD xs lo hi)) st3
  | .ref n => (match st3[n]?.bind seqOb with
    | some xs => Q (.ref st3.length) (st3 ++ [.lst (cutD xs lo hi)])
    | none => False)
  | _ => False := propext Iff.rfl
@[simp] theorem fNoP_eq : fNoP Γ st QO = QO none st := propext Iff.rfl
@[simp] theorem fPart_eq : fPart f Γ st QO = f Γ st fun x st1 => match x with
  | .int i => QO (some i) st1
  | _ => False := propext Iff.rfl
@[simp] theorem fIsi_eq {T : String} : fIsi T f Γ st Q = f Γ st fun x st1 => match (tyD x).bind fun t => kitB t T with
  | some b => Q (.bl b) st1
  | none => False := propext Iff.rfl
@[simp] theorem fCall_eq {n : Nat} {C : Con} : fCall n C fA Γ st Q = fA Γ st fun ds st1 => ds.length = n ∧ C ds st1 Q := propext Iff.rfl
@[simp] theorem fCallK_eq {n m l : Nat} {perm : List Nat} {C : Con} : fCallK n m l perm C fA fB Γ st Q = fA Γ st fun ds st1 => fB Γ st1 fun es st2 => ds.length = n ∧ es.length = m ∧ (ordK perm ds es).length = l ∧ C (ordK perm ds es) st2 Q := propext Iff.rfl
@[simp] theorem fMt_eq {gm : D → List D → Sto → (D → Sto → Prop) → Prop} : fMt gm f fA Γ st Q = f Γ st fun x st1 => isLst st1 x ∧ fA Γ st1 fun ds st2 => gm x ds st2 Q := propext Iff.rfl
@[simp] theorem isLst_eq {n : Nat} : isLst st (.ref n) = ((lstAt st n).isSome = true) := propext Iff.rfl
@[simp] theorem fNext_eq : fNext E Γ st = E.nx Γ st := propext Iff.rfl
@[simp] theorem fSeq_eq : fSeq fs gs E Γ st = fs { nx := gs E, rt := E.rt, bk := E.bk, ct := E.ct } Γ st := propext Iff.rfl
@[simp] theorem fBreak_eq : fBreak E Γ st = E.bk Γ st := propext Iff.rfl
@[simp] theorem fCont_eq : fCont E Γ st = E.ct Γ st := propext Iff.rfl
@[simp] theorem fExp_eq : fExp f E Γ st = f Γ st fun _ st1 => E.nx Γ st1 := propext Iff.rfl
@[simp] theorem fRet_eq : fRet f E Γ st = f Γ st E.rt := propext Iff.rfl
@[simp] theorem fRetN_eq : fRetN E Γ st = E.rt .non st := propext Iff.rfl
@[simp] theorem fIfS_eq : fIfS t fs gs E Γ st = t Γ st fun b st1 => if b = true then fs E Γ st1 else gs E Γ st1 := propext Iff.rfl
@[simp] theorem fSet_eq : fSet i f E Γ st = f Γ st fun d st1 => E.nx (Γ.set i (some d)) st1 := propext Iff.rfl
@[simp] theorem fPar_eq : fPar i j fA E Γ st = fA Γ st fun ds st1 => match ds with
  | [d, e] => E.nx ((Γ.set i (some d)).set j (some e)) st1
  | _ => False := propext Iff.rfl
@[simp] theorem fPar3_eq {l : Nat} : fPar3 i j l fA E Γ st = fA Γ st fun ds st1 => match ds with
  | [d, e, f] => E.nx (((Γ.set i (some d)).set j (some e)).set l (some f)) st1
  | _ => False := propext Iff.rfl
@[simp] theorem fGName_eq : fGName i d Γ st QG = QG (Γ.set i (some d)) st := propext Iff.rfl
@[simp] theorem fGNil_eq : fGNil [] Γ st QG = QG Γ st := propext Iff.rfl
@[simp] theorem fGCons_eq : fGCons fg fgs (d :: ds) Γ st QG = fg d Γ st fun Γ' st' => fgs ds Γ' st' QG := propext Iff.rfl
@[simp] theorem fGTup_eq {n : Nat} : fGTup n fgs (.tup ds) Γ st QG = (ds.length = n ∧ fgs ds Γ st QG) := propext Iff.rfl
@[simp] theorem fGSub_eq : fGSub f g d Γ st QG = f Γ st fun x st1 => g Γ st1 fun y st2 => gSetL x y d st2 fun st3 => QG Γ st3 := propext Iff.rfl
@[simp] theorem fAsg_eq : fAsg f fg E Γ st = f Γ st fun d st1 => fg d Γ st1 E.nx := propext Iff.rfl
@[simp] theorem fAug_zero : fAug 0 f g2 E (some d :: Γ) st = f (some d :: Γ) st fun y st1 => g2 d y st1 fun z st2 => E.nx (some z :: Γ) st2 := propext Iff.rfl
theorem fAug_at (h : Γ[i]? = some (some d)) : fAug i f g2 E Γ st = f Γ st fun y st1 => g2 d y st1 fun z st2 => E.nx (Γ.set i (some z)) st2 := by unfold fAug; rw [h]
@[simp] theorem fAugS_eq : fAugS f g h g2 E Γ st = f Γ st fun x st1 => g Γ st1 fun y st2 => match x, y with
  | .ref n, .int j => 0 ≤ j ∧ (match lstAt st2 n with
    | some xs => (match xs[j.toNat]? with
      | some d => h Γ st2 fun z st3 => g2 d z st3 fun w st4 => gSetL x y w st4 fun st5 => E.nx Γ st5
      | none => False)
    | none => False)
  | _, _ => False := propext Iff.rfl
@[simp] theorem fFor_eq : fFor fi fg fs E Γ st = fi Γ st fun items S st1 => loopF S fg fs E items Γ st1 := propext Iff.rfl
@[simp] theorem fLc_eq {vs : List Nat} : fLc fi fg t f vs Γ st Q = fi Γ st fun items S st1 => loopC S fg t f (wipeD Γ vs) st1.length (fun st2 => Q (.ref st1.length) st2) items (st1 ++ [.lst []]) := propext Iff.rfl
@[simp] theorem fYes_eq : fYes Γ st QT = QT true st := propext Iff.rfl
@[simp] theorem fSq_eq : fSq f Γ st QI = f Γ st fun x st1 => match itD st1 x with
  | some xs => QI xs (standI x xs) st1
  | none => False := propext Iff.rfl
@[simp] theorem fRng1_eq : fRng1 fA Γ st QI = fA Γ st fun ds st1 => match ds with
  | [.int j] => bigI j ∧ QI (rngD 0 j.toNat 1) (fun _ => True) st1
  | _ => False := propext Iff.rfl
@[simp] theorem fRng2_eq : fRng2 fA Γ st QI = fA Γ st fun ds st1 => match ds with
  | [.int i, .int j] => (bigI i ∧ bigI j) ∧ QI (rngD i (j - i).toNat 1) (fun _ => True) st1
  | _ => False := propext Iff.rfl
@[simp] theorem fRngN_eq : fRngN fA Γ st QI = fA Γ st fun ds st1 => match ds with
  | [.int i, .int j, .int (-1)] => (bigI i ∧ bigI j) ∧ QI (rngD i (i - j).toNat (-1)) (fun _ => True) st1
  | _ => False := propext Iff.rfl
@[simp] theorem fEnm_eq : fEnm fA Γ st QI = fA Γ st fun ds st1 => match ds with
  | [x] => (match sqD st1 x with
    | some xs => QI (enmD xs) (standS x xs) st1
    | none => False)
  | _ => False := propext Iff.rfl
@[simp] theorem fRevD_eq : fRevD f Γ st QI = f Γ st fun x st1 => match sqD st1 x with
  | some xs => QI xs.reverse (standS x xs) st1
  | none => False := propext Iff.rfl
/-! operations -/
variable {a b : Int} {xs ys : List D} {n m : Nat} {p q : Bool} {s z : Str}
@[simp] theorem gAdd_ii : gAdd (.int a) (.int b) st Q = Q (.int (a + b)) st := propext Iff.rfl
@[simp] theorem gAdd_tt : gAdd (.tup xs) (.tup ys) st Q = (xs.length + ys.length ≤ lim ∧ Q (.tup (xs ++ ys)) st) := propext Iff.rfl
@[simp] theorem gMul_ii : gMul (.int a) (.int b) st Q = (IntMulOk a b ∧ Q (.int (a * b)) st) := propext Iff.rfl
@[simp] theorem gMul_ri : gMul (.ref n) (.int b) st Q = (match st[n]? with
    | some (.lst a) => -1000000 ≤ b ∧ a.length * b.toNat ≤ lim ∧ b ≤ 1000000 ∧ Q (.ref st.length) (st ++ [.lst (List.replicate b.toNat a).flatten])
    | _ => False) := propext Iff.rfl
@[simp] theorem gTimes_ti : gTimes (.tup xs) (.int b) st Q = (xs ≠ [] ∧ -1000000 ≤ b ∧ b ≤ 1000 ∧ xs.length ≤ 1000 ∧ Q (.tup (List.replicate b.toNat xs).flatten) st) := propext Iff.rfl
@[simp] theorem gTimes_ii : gTimes (.int a) (.int b) st Q = (IntMulOk a b ∧ Q (.int (a * b)) st) := propext Iff.rfl
@[simp] theorem gDiv_ii : gDiv (.int a) (.int b) st Q = (DvOk b ∧ Q (.int (a.fdiv b)) st) := propext Iff.rfl
@[simp] theorem gMod_ii : gMod (.int a) (.int b) st Q = (b ≠ 0 ∧ Q (.int (a.fmod b)) st) := propext Iff.rfl
@[simp] theorem gPow_ii : gPow (.int a) (.int b) st Q = (CPow a b ∧ Q (.int (a ^ b.toNat)) st) := propext Iff.rfl
@[simp] theorem gSub_ii : gSub (.int a) (.int b) st Q = Q (.int (a - b)) st := propext Iff.rfl
@[simp] theorem gSub_bb : gSub (.bl p) (.bl q) st Q = Q (.int (b2z p - b2z q)) st := propext Iff.rfl
@[simp] theorem gAddI_ii : gAddI (.int a) (.int b) st Q = Q (.int (a + b)) st := propext Iff.rfl
@[simp] theorem gSubI_ii : gSubI (.int a) (.int b) st Q = Q (.int (a - b)) st := propext Iff.rfl
@[simp] theorem gMulI_ii : gMulI (.int a) (.int b) st Q = (IntMulOk a b ∧ Q (.int (a * b)) st) := propext Iff.rfl
@[simp] theorem gNeg_i : gNeg (.int a) st Q = Q (.int (-a)) st := propext Iff.rfl
@[simp] theorem gLt_ii : gLt (.int a) (.int b) st Q = Q (.bl (decide (a < b))) st := propext Iff.rfl
@[simp] theorem gLe_ii : gLe (.int a) (.int b) st Q = Q (.bl (decide (a ≤ b))) st := propext Iff.rfl
@[simp] theorem gGt_ii : gGt (.int a) (.int b) st Q = Q (.bl (decide (b < a))) st := propext Iff.rfl
@[simp] theorem gGe_ii : gGe (.int a) (.int b) st Q = Q (.bl (decide (b ≤ a))) st := propext Iff.rfl
@[simp] theorem gEq_ii : gEq (.int a) (.int b) st Q = Q (.bl (decide (a = b))) st := propext Iff.rfl
@[simp] theorem gEq_bb : gEq (.bl p) (.bl q) st Q = Q (.bl (decide (p = q))) st := propext Iff.rfl
@[simp] theorem gEq_ss : gEq (.str s) (.str z) st Q = Q (.bl (decide (s = z))) st := propext Iff.rfl
@[simp] theorem gNe_ii : gNe (.int a) (.int b) st Q = Q (.bl (!decide (a = b))) st := propext Iff.rfl
@[simp] theorem gNe_ss : gNe (.str s) (.str z) st Q = Q (.bl (!decide (s = z))) st := propext Iff.rfl
@[simp] theorem gIsN_n : gIsN x .non st Q = Q (.bl (isNonD x)) st := propext Iff.rfl
@[simp] theorem gNotN_n : gNotN x .non st Q = Q (.bl (!isNonD x)) st := propext Iff.rfl
@[simp] theorem isNon_non : isNonD .non = true := rfl
@[simp] theorem isNon_tup : isNonD (.tup xs) = false := rfl
@[simp] theorem isNon_int : isNonD (.int a) = false := rfl
@[simp] theorem isNon_bl : isNonD (.bl p) = false := rfl
@[simp] theorem gLen_1 : gLen [x] st Q = (match sqD st x with
    | some xs => Q (.int xs.length) st
    | none => False) := propext Iff.rfl
@[simp] theorem gAbs_i : gAbs [.int a] st Q = Q (.int (if a < 0 then -a else a)) st := propext Iff.rfl
@[simp] theorem gMax_ii : gMax [.int a, .int b] st Q = Q (.int (if b > a then b else a)) st := propext Iff.rfl
@[simp] theorem gMin_ii : gMin [.int a, .int b] st Q = Q (.int (if b < a then b else a)) st := propext Iff.rfl
@[simp] theorem gInt_i : gInt [.int a] st Q = Q (.int a) st := propext Iff.rfl
@[simp] theorem gTuple_1 : gTuple [x] st Q = (match sqD st x with
    | some xs => Q (.tup xs) st
    | none => False) := propext Iff.rfl
@[simp] theorem gList_1 : gList [x] st Q = (match sqD st x with
    | some xs => Q (.ref st.length) (st ++ [.lst xs])
    | none => False) := propext Iff.rfl
@[simp] theorem gGcd_ii : gGcd [.int a, .int b] st Q = Q (.int ((Nat.gcd a.natAbs b.natAbs : Nat) : Int)) st := propext Iff.rfl
@[simp] theorem gAnyI_1 : gAnyI [x] st Q = (match lsD st x with
    | some xs => ∃ ns : List Int, xs = ns.map D.int ∧ Q (.bl (ns.any fun i => i != 0)) st
    | none => False) := propext Iff.rfl
@[simp] theorem gApp_r : gApp (.ref n) [d] st Q = (match lstAt st n with
    | some xs => xs.length < lim ∧ Q .non (st.set n (.lst (xs ++ [d])))
    | none => False) := propext Iff.rfl
@[simp] theorem gIx_i : gIx x (.int a) st Q = (match (sqD st x).bind (fun xs => atI xs a) with
    | some d => Q d st
    | none => False) := propext Iff.rfl
@[simp] theorem gSetL_ri {R : Sto → Prop} : gSetL (.ref n) (.int a) d st R = (match lstAt st n with
    | some xs => (match ixN xs.length a with
      | some j => R (st.set n (.lst (xs.set j d)))
      | none => False)
    | none => False) := propext Iff.rfl
/-! sequences, the store -/
@[simp] theorem sqD_tup : sqD st (.tup xs) = some xs := rfl
@[simp] theorem sqD_ref : sqD st (.ref n) = st[n]?.bind seqOb := rfl
@[simp] theorem lsD_ref : lsD st (.ref n) = st[n]?.bind seqOb := rfl
@[simp] theorem itD_tup : itD st (.tup xs) = some xs := rfl
@[simp] theorem itD_ref : itD st (.ref n) = st[n]?.bind seqOb := rfl
@[simp] theorem itD_kl : itD st (.kl xs) = some xs := rfl
@[simp] theorem seqOb_lst : seqOb (.lst xs) = some xs := rfl
@[simp] theorem seqOb_ro : seqOb (.ro xs) = some xs := rfl
@[simp] theorem standI_tup : standI (.tup xs) xs st := rfl
@[simp] theorem standI_kl : standI (.kl xs) xs st := rfl
@[simp] theorem standS_tup : standS (.tup xs) xs st := rfl
variable {st2 : Sto} {ob ob2 : Ob}
@[simp] theorem get_app0 : (st ++ st2)[st.length]? = st2[0]? := by rw [List.getElem?_append_right (Nat.le_refl _), Nat.sub_self]
@[simp] theorem get_appk {k : Nat} : (st ++ st2)[st.length + k]? = st2[k]? := by rw [List.getElem?_append_right (by omega), Nat.add_sub_cancel_left]
@[simp] theorem set_app0 : (st ++ st2).set st.length ob = st ++ st2.set 0 ob := by rw [List.set_append_right _ _ (Nat.le_refl _), Nat.sub_self]
@[simp] theorem set_appk {k : Nat} : (st ++ st2).set (st.length + k) ob = st ++ st2.set k ob := by rw [List.set_append_right _ _ (by omega), Nat.add_sub_cancel_left]
@[simp] theorem lstAt_app0 : lstAt (st ++ st2) st.length = lstAt st2 0 := by unfold lstAt; rw [get_app0]
@[simp] theorem lstAt_appk {k : Nat} : lstAt (st ++ st2) (st.length + k) = lstAt st2 k := by unfold lstAt; rw [get_appk]
@[simp] theorem lstAt_cons0 : lstAt (.lst xs :: st) 0 = some xs := rfl
@[simp] theorem lstAt_consk {k : Nat} : lstAt (ob :: st) (k + 1) = lstAt st k := rfl
@[simp] theorem lstAt_nil {k : Nat} : lstAt [] k = none := rfl
end
theorem wipeD_nil {Γ : Sl} : wipeD Γ [] = Γ := rfl
theorem wipeD_cons {Γ : Sl} {v : Nat} {vs : List Nat} : wipeD Γ (v :: vs) = (wipeD Γ vs).set v none := rfl

/-! ### loops -/
section
variable {S : Sto → Prop} {g : DTG} {ft : DTT} {fe : DTE} {f : DTS} {E : DEnds} {Γ : Sl} {st : Sto} {Q : Sto → Prop} {n : Nat}
theorem loopF_nil : loopF S g f E [] Γ st = (S st ∧ E.nx Γ st) := rfl
theorem loopF_cons {x : D} {r : List D} : loopF S g f E (x :: r) Γ st = (S st ∧ g x Γ st fun Γ' st' => f { nx := loopF S g f E r, rt := E.rt, bk := E.nx, ct := loopF S g f E r } Γ' st') := rfl
theorem loopW_succ {c : DTT} {n : Nat} : loopW c f E (n + 1) Γ st = c Γ st fun b st1 => if b = true then f { nx := loopW c f E n, rt := E.rt, bk := E.nx, ct := loopW c f E n } Γ st1 else E.nx Γ st1 := rfl
/-- a list of what a pure element says of each item -/
theorem loopC_map (h : D → D) : ∀ (items acc : List D), acc.length + items.length ≤ lim → (∀ acc : List D, S (st ++ [Ob.lst acc])) → (∀ x ∈ items, ∀ (acc : List D) (R : D → Sto → Prop), R (h x) (st ++ [Ob.lst acc]) → g x Γ (st ++ [.lst acc]) fun Γ' st1 => fe Γ' st1 R) →
    Q (st ++ [.lst (acc ++ items.map h)]) → loopC S g fYes fe Γ st.length Q items (st ++ [.lst acc])
  | [], acc, _, hs, _, q => ⟨hs acc, by simpa using q⟩
  | x :: r, acc, hl, hs, hx, q => by
    rw [List.length_cons] at hl
    refine ⟨hs acc, hx x (List.mem_cons_self ..) acc _ ?_⟩
    show (match lstAt (st ++ [.lst acc]) st.length with
      | some xs => xs.length < lim ∧ loopC S g fYes fe Γ st.length Q r ((st ++ [Ob.lst acc]).set st.length (Ob.lst (xs ++ [h x])))
      | none => False)
    rw [lstAt_app0, lstAt_cons0]
    refine ⟨by omega, ?_⟩
    rw [set_app0]
    refine loopC_map h r (acc ++ [h x]) (by simp; omega) hs (fun y hy => hx y (List.mem_cons_of_mem _ hy)) ?_
    simpa using q
/-- the same, some left out -/
theorem loopC_filter (c : D → Bool) (h : D → D) : ∀ (items acc : List D), acc.length + items.length ≤ lim → (∀ acc : List D, S (st ++ [Ob.lst acc])) →
    (∀ x ∈ items, ∀ (acc : List D) (R : D → Sto → Prop) (R' : Sto → Prop), (if c x = true then R (h x) (st ++ [Ob.lst acc]) else R' (st ++ [Ob.lst acc])) → g x Γ (st ++ [.lst acc]) fun Γ' st1 => ft Γ' st1 fun b st2 => if b = true then fe Γ' st2 R else R' st2) →
    Q (st ++ [.lst (acc ++ (items.filter c).map h)]) → loopC S g ft fe Γ st.length Q items (st ++ [.lst acc])
  | [], acc, _, hs, _, q => ⟨hs acc, by simpa using q⟩
  | x :: r, acc, hl, hs, hx, q => by
    rw [List.length_cons] at hl
    refine ⟨hs acc, hx x (List.mem_cons_self ..) acc _ _ ?_⟩
    by_cases e : c x = true
    · rw [if_pos e]
      show (match lstAt (st ++ [.lst acc]) st.length with
        | some xs => xs.length < lim ∧ loopC S g ft fe Γ st.length Q r ((st ++ [Ob.lst acc]).set st.length (Ob.lst (xs ++ [h x])))
        | none => False)
      rw [lstAt_app0, lstAt_cons0]
      refine ⟨by omega, ?_⟩
      rw [set_app0]
      refine loopC_filter c h r (acc ++ [h x]) (by simp; omega) hs (fun y hy => hx y (List.mem_cons_of_mem _ hy)) ?_
      rw [List.filter_cons, if_pos e] at q
      simpa using q
    · rw [if_neg e]
      refine loopC_filter c h r acc (by omega) hs (fun y hy => hx y (List.mem_cons_of_mem _ hy)) ?_
      rw [List.filter_cons, if_neg e] at q
      exact q
end

/-! ### sizes -/
theorem _root_.M.Bd.mulOk {n m : Nat} {i j : Int} (h : M.Bd n i) (k : M.Bd m j) (hn : n < 1000000 := by omega) (hm : m < 1000000 := by omega) : IntMulOk i j := by
  have := h.log
  have := k.log
  refine IntMulOk.of_bits ?_ ?_
  · unfold Builtin.Int.intBits; split <;> omega
  · unfold Builtin.Int.intBits; split <;> omega
theorem _root_.M.Bd.dvOk {n : Nat} {j : Int} (h : M.Bd n j) (e : j ≠ 0) (hn : n < 9000) : DvOk j := ⟨e, Nat.lt_of_le_of_lt h.log hn⟩
end Y
namespace Y
open PySem PySem.Spec PyProof.Rows L2

section
variable {f : DTE} {g2 : DR2} {E : DEnds} {Γ : Sl} {st : Sto} {d : D}
@[simp] theorem fAug_1 {o0 : Option D} : fAug 1 f g2 E (o0 :: some d :: Γ) st = f (o0 :: some d :: Γ) st fun y st1 => g2 d y st1 fun z st2 => E.nx (o0 :: some z :: Γ) st2 := propext Iff.rfl
@[simp] theorem fAug_2 {o0 o1 : Option D} : fAug 2 f g2 E (o0 :: o1 :: some d :: Γ) st = f (o0 :: o1 :: some d :: Γ) st fun y st1 => g2 d y st1 fun z st2 => E.nx (o0 :: o1 :: some z :: Γ) st2 := propext Iff.rfl
@[simp] theorem fAug_3 {o0 o1 o2 : Option D} : fAug 3 f g2 E (o0 :: o1 :: o2 :: some d :: Γ) st = f (o0 :: o1 :: o2 :: some d :: Γ) st fun y st1 => g2 d y st1 fun z st2 => E.nx (o0 :: o1 :: o2 :: some z :: Γ) st2 := propext Iff.rfl
@[simp] theorem fAug_4 {o0 o1 o2 o3 : Option D} : fAug 4 f g2 E (o0 :: o1 :: o2 :: o3 :: some d :: Γ) st = f (o0 :: o1 :: o2 :: o3 :: some d :: Γ) st fun y st1 => g2 d y st1 fun z st2 => E.nx (o0 :: o1 :: o2 :: o3 :: some z :: Γ) st2 := propext Iff.rfl
@[simp] theorem fAug_5 {o0 o1 o2 o3 o4 : Option D} : fAug 5 f g2 E (o0 :: o1 :: o2 :: o3 :: o4 :: some d :: Γ) st = f (o0 :: o1 :: o2 :: o3 :: o4 :: some d :: Γ) st fun y st1 => g2 d y st1 fun z st2 => E.nx (o0 :: o1 :: o2 :: o3 :: o4 :: some z :: Γ) st2 := propext Iff.rfl
@[simp] theorem fAug_6 {o0 o1 o2 o3 o4 o5 : Option D} : fAug 6 f g2 E (o0 :: o1 :: o2 :: o3 :: o4 :: o5 :: some d :: Γ) st = f (o0 :: o1 :: o2 :: o3 :: o4 :: o5 :: some d :: Γ) st fun y st1 => g2 d y st1 fun z st2 => E.nx (o0 :: o1 :: o2 :: o3 :: o4 :: o5 :: some z :: Γ) st2 := propext Iff.rfl
@[simp] theorem fAug_7 {o0 o1 o2 o3 o4 o5 o6 : Option D} : fAug 7 f g2 E (o0 :: o1 :: o2 :: o3 :: o4 :: o5 :: o6 :: some d :: Γ) st = f (o0 :: o1 :: o2 :: o3 :: o4 :: o5 :: o6 :: some d :: Γ) st fun y st1 => g2 d y st1 fun z st2 => E.nx (o0 :: o1 :: o2 :: o3 :: o4 :: o5 :: o6 :: some z :: Γ) st2 := propext Iff.rfl
@[simp] theorem fAug_8 {o0 o1 o2 o3 o4 o5 o6 o7 : Option D} : fAug 8 f g2 E (o0 :: o1 :: o2 :: o3 :: o4 :: o5 :: o6 :: o7 :: some d :: Γ) st = f (o0 :: o1 :: o2 :: o3 :: o4 :: o5 :: o6 :: o7 :: some d :: Γ) st fun y st1 => g2 d y st1 fun z st2 => E.nx (o0 :: o1 :: o2 :: o3 :: o4 :: o5 :: o6 :: o7 :: some z :: Γ) st2 := propext Iff.rfl
@[simp] theorem fAug_9 {o0 o1 o2 o3 o4 o5 o6 o7 o8 : Option D} : fAug 9 f g2 E (o0 :: o1 :: o2 :: o3 :: o4 :: o5 :: o6 :: o7 :: o8 :: some d :: Γ) st = f (o0 :: o1 :: o2 :: o3 :: o4 :: o5 :: o6 :: o7 :: o8 :: some d :: Γ) st fun y st1 => g2 d y st1 fun z st2 => E.nx (o0 :: o1 :: o2 :: o3 :: o4 :: o5 :: o6 :: o7 :: o8 :: some z :: Γ) st2 := propext Iff.rfl
end
/-- enumerated from k on -/
def enmK (k : Nat) (xs : List D) : List D := xs.mapIdx fun i d => D.tup [.int ((k + i : Nat) : Int), d]
theorem enmD_K {xs : List D} : enmD xs = enmK 0 xs := by
  unfold enmD enmK
  congr 1
  funext i d
  rw [Nat.zero_add]
@[simp] theorem enmK_nil {k : Nat} : enmK k [] = [] := rfl
theorem enmK_cons {k : Nat} {x : D} {xs : List D} : enmK k (x :: xs) = D.tup [.int (k : Int), x] :: enmK (k + 1) xs := by
  unfold enmK
  rw [List.mapIdx_cons]
  congr 1
  congr 1
  funext i d
  congr 4
  omega
theorem enmK_len {k : Nat} {xs : List D} : (enmK k xs).length = xs.length := by simp [enmK]
theorem rngD_zero {lo c : Int} : rngD lo 0 c = [] := rfl
theorem rngD_succ {lo c : Int} {n : Nat} : rngD lo (n + 1) c = D.int lo :: rngD (lo + c) n c := by
  unfold rngD
  rw [List.range_succ_eq_map, List.map_cons, List.map_map]
  congr 1
  · simp
  · apply List.map_congr_left
    intro i _
    simp only [Function.comp]
    congr 1
    rw [Int.natCast_succ, Int.add_mul]
    omega
theorem atI_mapN {p : List Int} {j : Nat} {c : Int} (h : p[j]? = some c) : L2.atI (p.map D.int) (j : Int) = some (.int c) := atI_nat (by rw [List.getElem?_map, h]; rfl)
theorem atI_map {p : List Int} {i : Int} {j : Nat} {c : Int} (e : i = (j : Int)) (h : p[j]? = some c) : L2.atI (p.map D.int) i = some (.int c) := by rw [e]; exact atI_mapN h
theorem cut_hi {xs : List D} {k : Nat} : cutD xs none (some (k : Int)) = xs.take k := by
  unfold cutD
  rw [HT.sIx_none, HT.sIx_nat, List.drop_zero, Nat.sub_zero]
  by_cases h : k ≤ xs.length
  · rw [Nat.min_eq_left h]
  · rw [Nat.min_eq_right (by omega), List.take_of_length_le (Nat.le_refl _), List.take_of_length_le (by omega)]
theorem cut_lo {xs : List D} {k : Nat} : cutD xs (some (k : Int)) none = xs.drop k := by
  unfold cutD
  rw [HT.sIx_none, HT.sIx_nat]
  by_cases h : k ≤ xs.length
  · rw [Nat.min_eq_left h, List.take_of_length_le (by simp)]
  · rw [Nat.min_eq_right (by omega), Nat.sub_self, List.take_zero, List.drop_eq_nil_of_le (by omega)]
theorem cut_hi' {p : List Int} {k : Nat} : cutD (p.map D.int) none (some (k : Int)) = (p.take k).map D.int := by rw [cut_hi, List.map_take]
theorem ixN_nat {n j : Nat} (h : j < n) : L2.ixN n (j : Int) = some j := by
  unfold L2.ixN
  rw [if_pos (by omega), if_pos (by omega)]; simp
@[simp] theorem atI_0 {α : Type} {x : α} {xs : List α} : L2.atI (x :: xs) 0 = some x := by
  have := @atI_nat α (x :: xs) 0 x rfl
  exact this
@[simp] theorem atI_1 {α : Type} {x y : α} {xs : List α} : L2.atI (x :: y :: xs) 1 = some y := by
  have := @atI_nat α (x :: y :: xs) 1 y rfl
  exact this
@[simp] theorem atI_2 {α : Type} {x y z : α} {xs : List α} : L2.atI (x :: y :: z :: xs) 2 = some z := by
  have := @atI_nat α (x :: y :: z :: xs) 2 z rfl
  exact this
@[simp] theorem atI_3 {α : Type} {x y z u : α} {xs : List α} : L2.atI (x :: y :: z :: u :: xs) 3 = some u := by
  have := @atI_nat α (x :: y :: z :: u :: xs) 3 u rfl
  exact this
@[simp] theorem ixN_0 {n : Nat} : L2.ixN (n + 1) 0 = some 0 := by
  have := @ixN_nat (n + 1) 0 (by omega)
  exact this
section
variable {S : Sto → Prop} {g : DTG} {fe : DTE} {Γ : Sl} {st : Sto} {Q : Sto → Prop}
/-- a list of numbers, each by its own -/
theorem loopC_ints (h : Int → Int) (p : List Int) (hl : p.length ≤ lim) (hs : ∀ acc : List D, S (st ++ [Ob.lst acc])) (hx : ∀ c ∈ p, ∀ (acc : List D) (R : D → Sto → Prop), R (.int (h c)) (st ++ [Ob.lst acc]) → g (.int c) Γ (st ++ [Ob.lst acc]) fun Γ' st1 => fe Γ' st1 R)
    (q : Q (st ++ [Ob.lst ((p.map h).map D.int)])) : loopC S g fYes fe Γ st.length Q (p.map D.int) (st ++ [Ob.lst []]) := by
  refine loopC_map (fun d => match d with | .int c => .int (h c) | d => d) (p.map D.int) [] (by simpa using hl) hs (fun x hx2 acc R hR => ?_) ?_
  · obtain ⟨c, hc, rfl⟩ := List.mem_map.mp hx2
    exact hx c hc acc R hR
  · rw [List.nil_append]
    have : (p.map D.int).map (fun d => match d with | .int c => D.int (h c) | d => d) = (p.map h).map D.int := by
      rw [List.map_map, List.map_map]; rfl
    rw [this]; exact q
/-- a list of data, each by its item -/
theorem loopC_any {α : Type} (h : α → D) (k : α → D) (p : List α) (hl : p.length ≤ lim) (hs : ∀ acc : List D, S (st ++ [Ob.lst acc])) (hx : ∀ c ∈ p, ∀ (acc : List D) (R : D → Sto → Prop), R (h c) (st ++ [Ob.lst acc]) → g (k c) Γ (st ++ [Ob.lst acc]) fun Γ' st1 => fe Γ' st1 R)
    (q : Q (st ++ [Ob.lst (p.map h)])) : loopC S g fYes fe Γ st.length Q (p.map k) (st ++ [Ob.lst []]) := by
  have gen : ∀ (r : List α) (acc : List D), acc.length + r.length ≤ lim → (∀ c ∈ r, c ∈ p) → acc ++ r.map h = p.map h → loopC S g fYes fe Γ st.length Q (r.map k) (st ++ [Ob.lst acc]) := by
    intro r
    induction r with
    | nil =>
      intro acc _ _ e
      rw [List.map_nil, List.append_nil] at e
      exact ⟨hs acc, by rw [e]; exact q⟩
    | cons x r ih =>
      intro acc hl hm e
      rw [List.length_cons] at hl
      refine ⟨hs acc, hx x (hm x (List.mem_cons_self ..)) acc _ ?_⟩
      show (match lstAt (st ++ [Ob.lst acc]) st.length with
        | some xs => xs.length < lim ∧ loopC S g fYes fe Γ st.length Q (r.map k) ((st ++ [Ob.lst acc]).set st.length (Ob.lst (xs ++ [h x])))
        | none => False)
      rw [lstAt_app0, lstAt_cons0]
      refine ⟨by omega, ?_⟩
      rw [set_app0]
      exact ih (acc ++ [h x]) (by simp; omega) (fun c hc => hm c (List.mem_cons_of_mem _ hc)) (by rw [← e]; simp)
  exact gen p [] (by simpa using hl) (fun _ h => h) (by simp)
end
end Y
namespace Y
open PySem PySem.Spec PyProof.Rows L2
/-! ### the same rules, the text's frozen part told by name: within comprehensions -/
section
variable {X : Cx} {a b e : Expr} {es : List Expr} {ta tb : TE} {tA : TA} {tgs : TGs} {fa fb : DTE} {fA : DTA} {fgs : DTGs} {pos p : Pos} {k : Nat} {x : Str} {ps : List Str} {C : Con}
theorem d_addK (K0 : PySem.W.Frag) (hK : X.K = K0) (ha : DE X a ta fa) (hb : DE X b tb fb) : DE X (.BinOp a .Add b pos) (tOp (rAddR K0) ta tb) (fBin gAdd fa fb) := hK ▸ d_add ha hb
theorem d_timesK (K0 : PySem.W.Frag) (hK : X.K = K0) (ha : DE X a ta fa) (hb : DE X b tb fb) : DE X (.BinOp a .Mult b pos) (tOp (rTimesR K0) ta tb) (fBin gTimes fa fb) := hK ▸ d_times ha hb
theorem d_ixK (K0 : PySem.W.Frag) (hK : X.K = K0) (ha : DE X a ta fa) (hb : DE X b tb fb) (hs : PlainIx b := by exact fun _ _ => rfl) : DE X (.Subscript a b pos) (tOp (rIx K0) ta tb) (fBin gIx fa fb) := hK ▸ d_ix ha hb hs
theorem d_lenK (K0 : PySem.W.Frag) (hK : X.K = K0) (hg : Gl X "len") (hm : X.mg "len" = none) (ha : DA X [a] tA fA) (he : starEach [a] X.env = (false, eval a X.env) :: starEach [] X.env := by rfl) : DE X (.Call (.Name "len" p) [a] [] pos) (tCB (rLenR K0) tA) (fFn gLen fA) := hK ▸ d_len hg hm ha he
theorem d_tupleK (K0 : PySem.W.Frag) (hK : X.K = K0) (hg : Gl X "tuple") (hm : X.mg "tuple" = none) (ha : DA X [a] tA fA) (he : starEach [a] X.env = (false, eval a X.env) :: starEach [] X.env := by rfl) : DE X (.Call (.Name "tuple" p) [a] [] pos) (tCB (rTupleR K0) tA) (fFn gTuple fA) := hK ▸ d_tuple hg hm ha he
theorem d_listK (K0 : PySem.W.Frag) (hK : X.K = K0) (hg : Gl X "list") (hm : X.mg "list" = none) (ha : DA X [a] tA fA) (he : starEach [a] X.env = (false, eval a X.env) :: starEach [] X.env := by rfl) : DE X (.Call (.Name "list" p) [a] [] pos) (tCB (rListR K0) tA) (fFn gList fA) := hK ▸ d_list hg hm ha he
theorem dg_tupK (K0 : PySem.W.Frag) (hK : X.K = K0) {k n : Nat} (hc : X.calm = true) (h : DGs X es tgs fgs) (hn : (assignEach es X.env).length = n := by rfl) (hst : (assignEach es X.env).findIdx? (·.1) = none := by rfl) : DG X (.Tuple es k pos) (gTup K0 n tgs) (fGTup n fgs) := hK ▸ dg_tup hc h hn hst
theorem d_callIn (K0 : PySem.W.Frag) (hK : X.K = K0) (F : Own X.prog X.w K0 X.mg X.base k x ps C) (hr : Room k X.A) (hg : Gl X x) (ha : DA X (e :: es) tA fA) (hdb : (x == ("__debug__" : Str)) = false := by decide) (he : starEach (e :: es) X.env = (false, eval e X.env) :: starEach es X.env := by rfl)
    (hpl : (backTo pos (starEach es X.env)).any (·.1) = false := by rfl) : DE X (.Call (.Name x p) (e :: es) [] pos) (tCall (spD K0 ps.length C) [] E0 tA) (fCall ps.length C fA) := by
  subst hK
  exact d_call F hr hg ha hdb he hpl
theorem d_call0In (K0 : PySem.W.Frag) (hK : X.K = K0) (F : Own X.prog X.w K0 X.mg X.base k x ps C) (hr : Room k X.A) (hg : Gl X x) (hdb : (x == ("__debug__" : Str)) = false := by decide) : DE X (.Call (.Name x p) [] [] pos) (tCall (spD K0 ps.length C) [] E0 tNil) (fCall ps.length C fNil) := by
  subst hK
  exact d_call0 F hr hg hdb
end
end Y
namespace K01
open PySem PySem.Spec PyProof.Rows L2 Y M
/-! ### the promises -/
abbrev tz (p : List Int) : D := .tup (p.map D.int)
abbrev tR (q : Rat) : D := .tup [.int q.num, .int (q.den : Int)]
def BdL (n : Nat) (p : List Int) : Prop := ∀ c ∈ p, Bd n c
def C_frac : Con := fun ds st Q => ∃ (a b : Int) (n : Nat), ds = [.int a, .int b] ∧ b ≠ 0 ∧ Bd n b ∧ n < 9000 ∧ Q (tR (Rat.divInt a b)) st
def C_sign_of : Con := fun ds st Q => ∃ a : Int, ds = [.int a] ∧ Q (.int a.sign) st
def C_common_divisor : Con := fun ds st Q => ∃ p : List Int, ds = [tz p] ∧ Q (.int (gcdL p)) st
def C_trimmed : Con := fun ds st Q => ∃ (m : Nat) (p : List Int), ds = [.ref m] ∧ st[m]? = some (.lst (p.map D.int)) ∧ Q (tz (trim p)) st
def C_poly_plus : Con := fun ds st Q => ∃ p q : List Int, ds = [tz p, tz q] ∧ Q (tz (trim (addL p q))) st
def C_poly_scaled : Con := fun ds st Q => ∃ (p : List Int) (k : Int), ds = [tz p, .int k] ∧ p.length ≤ 1000 ∧ (∀ c ∈ p, IntMulOk c k) ∧ Q (tz (if k = 0 then [] else p.map (k * ·))) st
def C_poly_minus : Con := fun ds st Q => ∃ p q : List Int, ds = [tz p, tz q] ∧ q.length ≤ 1000 ∧ Q (tz (trim (addL p (q.map (-1 * ·))))) st
def C_poly_raised : Con := fun ds st Q => ∃ (p : List Int) (n : Nat), ds = [tz p, .int (n : Int)] ∧ n ≤ 1000 ∧ p.length ≤ 1000 ∧ Q (tz (if p = [] then [] else List.replicate n 0 ++ p)) st
def C_slope : Con := fun ds st Q => ∃ p : List Int, ds = [tz p] ∧ p.length ≤ 1000 ∧ Q (tz (slopeL p)) st
def C_content : Con := C_common_divisor
def C_reduced : Con := fun ds st Q => ∃ (p : List Int) (n : Nat), ds = [tz p] ∧ p.length ≤ 1000 ∧ BdL n p ∧ n < 9000 ∧ Q (tz (if 1 < gcdL p then p.map (·.fdiv (gcdL p : Int)) else p)) st
def C_primitive : Con := fun ds st Q => ∃ (p : List Int) (n : Nat), ds = [tz p] ∧ p.length ≤ 1000 ∧ BdL n p ∧ n < 9000 ∧ ((p = [] ∧ Q (tz []) st) ∨ ∃ (r : List Int) (k : Int), PP r ∧ k ≠ 0 ∧ p = r.map (k * ·) ∧ Q (tz r) st)
def C_divided : Con := fun ds st Q => ∃ (p q : List Int) (n : Nat), ds = [tz p, tz q] ∧ Tr p ∧ Tr q ∧ q ≠ [] ∧ p.length ≤ 100 ∧ q.length ≤ p.length ∧ BdL n p ∧ BdL n q ∧ n + (p.length + 1 - q.length) * (n + 1) < 9000 ∧
  ∀ (m : Int) (quo r : List Int), m ≠ 0 → Tr r → r.length < q.length → (∀ x, m * ev p x = ev quo x * ev q x + ev r x) → BdL (n + (p.length + 1 - q.length) * (n + 1)) r → Q (.tup [.int m, tz quo, tz r]) st
def C_exact_over : Con := fun ds st Q => ∃ (p q r : List Int) (n : Nat), ds = [tz p, tz q] ∧ Tr p ∧ Tr q ∧ q ≠ [] ∧ Tr r ∧ p.length ≤ 100 ∧ q.length ≤ 100 ∧ (∀ x, ev p x = ev q x * ev r x) ∧ BdL n q ∧ BdL n r ∧ n < 9000 ∧ Q (tz r) st
def C_scaled_value : Con := fun ds st Q => ∃ (p : List Int) (q : Rat) (n m : Nat), ds = [tz p, tR q] ∧ BdL n p ∧ BR m q ∧ n + 1 + p.length * (m + 1) < 9000 ∧ ∀ A B : Int, 0 < B → Bd (n + 1 + p.length * (m + 1)) A → Bd (n + 1 + p.length * (m + 1)) B → Rat.divInt A B = evR p q → Q (.tup [.int A, .int B]) st
def C_value_at : Con := fun ds st Q => ∃ (p : List Int) (q : Rat) (n m : Nat), ds = [tz p, tR q] ∧ BdL n p ∧ BR m q ∧ n + 1 + p.length * (m + 1) < 9000 ∧ Q (tR (evR p q)) st
def C_common : Con := fun ds st Q => ∃ (p q g : List Int) (n : Nat), ds = [tz p, tz q] ∧ Tr p ∧ Tr q ∧ PP g ∧ Gd g p q ∧ BdL n p ∧ BdL n q ∧ p.length ≤ 5 ∧ q.length ≤ 5 ∧ n ≤ 45 ∧ Q (tz g) st
/-- a + b x, whose root is -a / b -/
structure Ln (a b : Int) : Prop where
  g : Int.gcd a b = 1
  p : 0 < b
  sa : Bd 7 a
  sb : Bd 7 b
def C_square_free : Con := fun ds st Q => ∃ (a0 b0 a1 b1 a2 b2 k : Int) (p r l : List Int), ds = [tz p] ∧ Ln a0 b0 ∧ Ln a1 b1 ∧ Ln a2 b2 ∧ a0 * b1 ≠ a1 * b0 ∧ a0 * b2 ≠ a2 * b0 ∧ a1 * b2 ≠ a2 * b1 ∧ k ≠ 0 ∧ Bd 8 k ∧ Tr r ∧ Tr l ∧ p = r.map (k * ·) ∧
  (∀ x, ev r x = (a0 + b0 * x) * (a0 + b0 * x) * ev l x) ∧ (∀ x, ev l x = (a1 + b1 * x) * (a2 + b2 * x)) ∧ Q (.tup [.tup [tz l, .int 1], .tup [tz [a0, b0], .int 2]]) st
/-! the law's own -/
/-- the source of draws: the first s + 1 objects, itself the last -/
structure Src (s : Nat) (pre : Sto) : Prop where
  len : pre.length = s + 1
  wf : Wf (s + 1) pre
  ex : ∃ (g c : Nat) (n0 n1 : Int) (great cells : List Int), pre[s]? = some (.lst [.int n0, .int n1, .ref g, .ref c]) ∧ g < s ∧ c < s ∧ g ≠ c ∧ 0 ≤ n0 ∧ 0 ≤ n1 ∧ pre[g]? = some (.lst (great.map D.int)) ∧ (∀ x ∈ great, 0 ≤ x) ∧
    pre[c]? = some (.lst (cells.map D.int)) ∧ cells ≠ [] ∧ ∀ x ∈ cells, 0 ≤ x ∧ x < 2147483647
def C_law_src : Con := fun ds st Q => ∃ ns : List Int, ns.length ≤ 1000 ∧ ((ds = [.kl (ns.map D.int)] ∧ st = []) ∨ (ds = [.ref 0] ∧ (st = [.lst (ns.map D.int)] ∨ st = [.ro (ns.map D.int)]))) ∧ ∀ s pre, Src s pre → Q (.ref s) pre
/-- a function of the source, and how its answer stands -/
def CSrc (ar : List D → Prop) (R : D → Prop) : Con := fun ds st Q => ∃ (s : Nat) (pre post : Sto) (es : List D), ds = .ref s :: es ∧ st = pre ++ post ∧ Src s pre ∧ ar es ∧ ∀ d pre', R d → Src s pre' → Q d (pre' ++ post)
def C_law_draw : Con := fun ds st Q => ∃ (s : Nat) (pre post : Sto) (many : Int), ds = [.ref s, .int many] ∧ st = pre ++ post ∧ Src s pre ∧ 0 < many ∧ many < 2 ^ 60 ∧ ∀ (n : Int) pre', 0 ≤ n → n < many → Src s pre' → Q (.int n) (pre' ++ post)
def C_law_pick : Con := fun ds st Q => ∃ (s m : Nat) (pre post : Sto) (xs : List D), ds = [.ref s, .ref m] ∧ st = pre ++ post ∧ Src s pre ∧ s < m ∧ st[m]? = some (.lst xs) ∧ xs ≠ [] ∧ xs.length ≤ 1000 ∧ (∀ d ∈ xs, D.lt 0 d) ∧ ∀ (d : D) pre', d ∈ xs → Src s pre' → Q d (pre' ++ post)
def C_law_wide : Con := fun ds st Q => ∃ (s : Nat) (pre post : Sto), ds = [.ref s] ∧ st = pre ++ post ∧ Src s pre ∧ ∀ (n : Int) pre', Bd 40 n → Src s pre' → Q (.int n) (pre' ++ post)
def C_law_widefraction : Con := fun ds st Q => ∃ (s : Nat) (pre post : Sto), ds = [.ref s] ∧ st = pre ++ post ∧ Src s pre ∧ ∀ (q : Rat) pre', BR 41 q → Src s pre' → Q (tR q) (pre' ++ post)
def C_law_polynomial : Con := fun ds st Q => ∃ (s : Nat) (pre post : Sto) (n k : Nat) (size : Int), ds = [.ref s, .int (n : Int), .int size] ∧ st = pre ++ post ∧ Src s pre ∧ n ≤ 100 ∧ 2 ≤ size ∧ size < 2 ^ k ∧ 2 ≤ k ∧ k ≤ 50 ∧ ∀ (p : List Int) pre', p.length = n + 1 → BdL k p → Src s pre' → Q (tz p) (pre' ++ post)
def cR (a b : Int) : D := .tup [.int a, .int b]
/-- five linear factors, no two with one root -/
structure Lns (ls : List (Int × Int)) : Prop where
  len : ls.length = 5
  ln : ∀ l ∈ ls, Ln l.1 l.2
  ne : ∀ (i j : Nat) (l m : Int × Int), ls[i]? = some l → ls[j]? = some m → i ≠ j → l.1 * m.2 ≠ m.1 * l.2
def C_law_linear : Con := fun ds st Q => ∃ (s : Nat) (pre post : Sto), ds = [.ref s, .int 5] ∧ st = pre ++ post ∧ Src s pre ∧ ∀ (ls : List (Int × Int)) pre' (ob : List D), Lns ls → Src s pre' → D.ltAll 0 ob → Q (.ref (st.length + 1)) (pre' ++ post ++ [.lst ob, .lst (ls.map fun l => tz [l.1, l.2])])
def C_law_values : Con := fun ds st Q => ∃ (s : Nat) (pre post : Sto), ds = [.ref s] ∧ st = pre ++ post ∧ Src s pre ∧ ∀ pre', Src s pre' → Q (.bl true) (pre' ++ post)
mutual
def dep : D → Nat
  | .tup xs => 1 + depL xs
  | _ => 1
def depL : List D → Nat
  | [] => 0
  | d :: ds => max (dep d) (depL ds)
end
mutual
def plain : D → Bool
  | .int _ => true
  | .tup xs => plainL xs && xs.length ≤ 1000
  | _ => false
def plainL : List D → Bool
  | [] => true
  | d :: ds => plain d && plainL ds
end
/-- equal data: True -/
def CEq (k : Nat) : Con := fun ds st Q => ∃ d : D, ds = [d, d] ∧ plain d = true ∧ dep d ≤ k ∧ Q (.bl true) st
def C_law_eq : Con := CEq 8
def C_law_gcd : Con := fun ds st Q => ∃ (a b : Int) (n : Nat), ds = [.int a, .int b] ∧ Bd n a ∧ Bd n b ∧ n ≤ 9000 ∧ Q (.int (Nat.gcd a.natAbs b.natAbs : Nat)) st
def C_law_fr : Con := fun ds st Q => ∃ (a b : Int) (n : Nat), ds = [.int a, .int b] ∧ b ≠ 0 ∧ Bd n a ∧ Bd n b ∧ n < 9000 ∧ Q (tR (Rat.divInt a b)) st
def C_law_add : Con := fun ds st Q => ∃ (p q : Rat) (n m : Nat), ds = [tR p, tR q] ∧ BR n p ∧ BR m q ∧ n + m + 1 < 9000 ∧ Q (tR (p + q)) st
def C_law_mul : Con := fun ds st Q => ∃ (p q : Rat) (n m : Nat), ds = [tR p, tR q] ∧ BR n p ∧ BR m q ∧ n + m < 9000 ∧ Q (tR (p * q)) st
def C_law_trim : Con := fun ds st Q => ∃ (d : D) (p : List Int), ds = [d] ∧ sqD st d = some (p.map D.int) ∧ p.length ≤ 1000000 ∧ Q (tz (trim p)) st
def C_law_pmul : Con := fun ds st Q => ∃ (p q : List Int) (n m : Nat), ds = [tz p, tz q] ∧ p.length ≤ 100 ∧ q.length ≤ 100 ∧ BdL n p ∧ BdL m q ∧ n < 100000 ∧ m < 100000 ∧ Q (tz (trim (mulL p q))) st
def C_law_padd : Con := fun ds st Q => ∃ p q : List Int, ds = [tz p, tz q] ∧ p.length ≤ 1000 ∧ q.length ≤ 1000 ∧ Q (tz (trim (addL p q))) st
def C_law_pscale : Con := fun ds st Q => ∃ (p : List Int) (k : Int), ds = [tz p, .int k] ∧ p.length ≤ 1000 ∧ (∀ c ∈ p, IntMulOk k c) ∧ Q (tz (trim (p.map (k * ·)))) st
/-- p of q -/
def intoL : List Int → List Int → List Int
  | [], _ => []
  | c :: p, q => trim (addL (trim (mulL (intoL p q) q)) (trim [c]))
def C_law_pinto : Con := fun ds st Q => ∃ (p q : List Int) (n : Nat), ds = [tz p, tz q] ∧ p.length ≤ 4 ∧ q.length ≤ 3 ∧ BdL n p ∧ BdL n q ∧ n ≤ 100 ∧ Q (tz (intoL p q)) st
def C_law_prim : Con := fun ds st Q => ∃ (p r : List Int) (k : Int) (n : Nat), ds = [tz p] ∧ PP r ∧ k ≠ 0 ∧ p = r.map (k * ·) ∧ p.length ≤ 1000 ∧ BdL n p ∧ n < 9000 ∧ Q (tz r) st
def C_law_pat : Con := fun ds st Q => ∃ (p : List Int) (q : Rat) (n m : Nat), ds = [tz p, tR q] ∧ p.length ≤ 1000 ∧ 1 ≤ n ∧ BdL n p ∧ BR m q ∧ p.length * (n + m + 1) + n + m + 2 < 9000 ∧ Q (tR (evR p q)) st
def C_law : Con := cLaw 1000
end K01
namespace K01
open PySem PySem.Spec PyProof.Rows L2 Y M
/-! ### the readings -/
def rd_frac : DTS :=
  (fSeq (fSet 2 (fFn gGcd (fCons (fVar 0) (fCons (fVar 1) fNil))))
  (fSeq (fIfS (fTest (fBin gLt (fVar 1) (fC (.int 0)))) (fSet 2 (fUn gNeg (fVar 2))) fNext)
  (fRet (fTup (fCons (fBin gDiv (fVar 0) (fVar 2)) (fCons (fBin gDiv (fVar 1) (fVar 2)) fNil))))))
def rd_sign_of : DTS :=
  (fRet (fBin gSub (fBin gGt (fVar 0) (fC (.int 0))) (fBin gLt (fVar 0) (fC (.int 0)))))
def tg_common_divisor_1 : DTG :=
  (fGName 2)
def bd_common_divisor_1 : DTS :=
  (fSet 1 (fFn gGcd (fCons (fVar 1) (fCons (fVar 2) fNil))))
def rd_common_divisor : DTS :=
  (fSeq (fSet 1 (fC (.int 0)))
  (fSeq (fFor (fSq (fVar 0)) tg_common_divisor_1 bd_common_divisor_1)
  (fRet (fVar 1))))
def cd_trimmed_1 : DTT :=
  (fAnd (fTest (fBin gGt (fVar 1) (fC (.int 0)))) (fTest (fBin gEq (fBin gIx (fVar 0) (fBin gSub (fVar 1) (fC (.int 1)))) (fC (.int 0)))))
def bd_trimmed_1 : DTS :=
  (fAug 1 (fC (.int 1)) gSubI)
def rd_trimmed : DTS :=
  (fSeq (fSet 1 (fFn gLen (fCons (fVar 0) fNil)))
  (fSeq (fWhile cd_trimmed_1 bd_trimmed_1)
  (fRet (fFn gTuple (fCons (fSl (fVar 0) fNoP (fPart (fVar 1))) fNil)))))
def tg_poly_plus_1 : DTG :=
  (fGTup 2 (fGCons (fGName 5) (fGCons (fGName 6) fGNil)))
def bd_poly_plus_1 : DTS :=
  (fAugS (fVar 2) (fVar 5) (fVar 6) gAddI)
def rd_poly_plus : DTS :=
  (fSeq (fAsg (fIf (fTest (fBin gGe (fFn gLen (fCons (fVar 0) fNil)) (fFn gLen (fCons (fVar 1) fNil)))) (fTup (fCons (fVar 0) (fCons (fVar 1) fNil))) (fTup (fCons (fVar 1) (fCons (fVar 0) fNil)))) (fGTup 2 (fGCons (fGName 3) (fGCons (fGName 4) fGNil))))
  (fSeq (fSet 2 (fFn gList (fCons (fVar 3) fNil)))
  (fSeq (fFor (fEnm (fCons (fVar 4) fNil)) tg_poly_plus_1 bd_poly_plus_1)
  (fRet (fCall 1 C_trimmed (fCons (fVar 2) fNil))))))
def rd_poly_scaled : DTS :=
  (fRet (fIf (fTest (fBin gNe (fVar 1) (fC (.int 0)))) (fFn gTuple (fCons (fLc (fSq (fVar 0)) (fGName 2) fYes (fBin gMul (fVar 2) (fVar 1)) [2]) fNil)) (fTup fNil)))
def rd_poly_minus : DTS :=
  (fRet (fCall 2 C_poly_plus (fCons (fVar 0) (fCons (fCall 2 C_poly_scaled (fCons (fVar 1) (fCons (fUn gNeg (fC (.int 1))) fNil))) fNil))))
def rd_poly_raised : DTS :=
  (fRet (fIf (fTru (fVar 0)) (fBin gAdd (fBin gTimes (fTup (fCons (fC (.int 0)) fNil)) (fVar 1)) (fVar 0)) (fTup fNil)))
def rd_slope : DTS :=
  (fRet (fFn gTuple (fCons (fSl (fLc (fEnm (fCons (fVar 0) fNil)) (fGTup 2 (fGCons (fGName 1) (fGCons (fGName 2) fGNil))) fYes (fBin gMul (fVar 1) (fVar 2)) [1, 2]) (fPart (fC (.int 1))) fNoP) fNil)))
def rd_content : DTS :=
  (fRet (fCall 1 C_common_divisor (fCons (fVar 0) fNil)))
def rd_reduced : DTS :=
  (fSeq (fSet 1 (fCall 1 C_content (fCons (fVar 0) fNil)))
  (fRet (fIf (fTest (fBin gGt (fVar 1) (fC (.int 1)))) (fFn gTuple (fCons (fLc (fSq (fVar 0)) (fGName 2) fYes (fBin gDiv (fVar 2) (fVar 1)) [2]) fNil)) (fVar 0))))
def rd_primitive : DTS :=
  (fSeq (fSet 1 (fCall 1 C_reduced (fCons (fVar 0) fNil)))
  (fRet (fIf (fAnd (fTru (fVar 1)) (fTest (fBin gLt (fBin gIx (fVar 1) (fUn gNeg (fC (.int 1)))) (fC (.int 0))))) (fCall 2 C_poly_scaled (fCons (fVar 1) (fCons (fUn gNeg (fC (.int 1))) fNil))) (fVar 1))))
def cd_divided_1 : DTT :=
  (fTest (fBin gGe (fFn gLen (fCons (fVar 4) fNil)) (fFn gLen (fCons (fVar 1) fNil))))
def bd_divided_1 : DTS :=
  (fSeq (fSet 5 (fCall 1 C_common_divisor (fCons (fTup (fCons (fBin gIx (fVar 4) (fUn gNeg (fC (.int 1)))) (fCons (fBin gIx (fVar 1) (fUn gNeg (fC (.int 1)))) fNil))) fNil)))
  (fSeq (fAsg (fTup (fCons (fBin gDiv (fFn gAbs (fCons (fBin gIx (fVar 1) (fUn gNeg (fC (.int 1)))) fNil)) (fVar 5)) (fCons (fBin gDiv (fBin gMul (fBin gIx (fVar 4) (fUn gNeg (fC (.int 1)))) (fCall 1 C_sign_of (fCons (fBin gIx (fVar 1) (fUn gNeg (fC (.int 1)))) fNil))) (fVar 5)) fNil))) (fGTup 2 (fGCons (fGName 7) (fGCons (fGName 8) fGNil))))
  (fSeq (fSet 6 (fBin gSub (fFn gLen (fCons (fVar 4) fNil)) (fFn gLen (fCons (fVar 1) fNil))))
  (fSeq (fSet 3 (fLc (fSq (fVar 3)) (fGName 9) fYes (fBin gMul (fVar 9) (fVar 7)) [9]))
  (fSeq (fAugS (fVar 3) (fVar 6) (fVar 8) gAddI)
  (fSeq (fSet 4 (fCall 2 C_poly_minus (fCons (fCall 2 C_poly_scaled (fCons (fVar 4) (fCons (fVar 7) fNil))) (fCons (fCall 2 C_poly_raised (fCons (fCall 2 C_poly_scaled (fCons (fVar 1) (fCons (fVar 8) fNil))) (fCons (fVar 6) fNil))) fNil))))
  (fAug 2 (fVar 7) gMulI)))))))
def rd_divided : DTS :=
  (fSeq (fPar3 2 3 4 (fCons (fC (.int 1)) (fCons (fBin gMul (fLst (fCons (fC (.int 0)) fNil)) (fFn gMax (fCons (fC (.int 0)) (fCons (fBin gAdd (fBin gSub (fFn gLen (fCons (fVar 0) fNil)) (fFn gLen (fCons (fVar 1) fNil))) (fC (.int 1))) fNil)))) (fCons (fVar 0) fNil))))
  (fSeq (fWhile cd_divided_1 bd_divided_1)
  (fRet (fTup (fCons (fVar 2) (fCons (fCall 1 C_trimmed (fCons (fVar 3) fNil)) (fCons (fVar 4) fNil)))))))
def tg_exact_over_1 : DTG :=
  (fGTup 2 (fGCons (fGName 6) (fGCons (fGName 7) fGNil)))
def bd_exact_over_1 : DTS :=
  (fAugS (fVar 3) (fBin gAdd (fVar 2) (fVar 6)) (fBin gMul (fBin gIx (fVar 4) (fVar 2)) (fVar 7)) gSubI)
def tg_exact_over_2 : DTG :=
  (fGName 2)
def bd_exact_over_2 : DTS :=
  (fSeq (fSet 5 (fBin gIx (fVar 3) (fBin gSub (fBin gAdd (fVar 2) (fFn gLen (fCons (fVar 1) fNil))) (fC (.int 1)))))
  (fSeq (fIfS (fTest (fBin gNe (fBin gMod (fVar 5) (fBin gIx (fVar 1) (fUn gNeg (fC (.int 1))))) (fC (.int 0)))) (fRet (fC .non)) fNext)
  (fSeq (fAsg (fBin gDiv (fVar 5) (fBin gIx (fVar 1) (fUn gNeg (fC (.int 1))))) (fGSub (fVar 4) (fVar 2)))
  (fFor (fEnm (fCons (fVar 1) fNil)) tg_exact_over_1 bd_exact_over_1))))
def rd_exact_over : DTS :=
  (fSeq (fPar 3 4 (fCons (fFn gList (fCons (fVar 0) fNil)) (fCons (fBin gMul (fLst (fCons (fC (.int 0)) fNil)) (fFn gMax (fCons (fC (.int 0)) (fCons (fBin gAdd (fBin gSub (fFn gLen (fCons (fVar 0) fNil)) (fFn gLen (fCons (fVar 1) fNil))) (fC (.int 1))) fNil)))) fNil)))
  (fSeq (fFor (fRngN (fCons (fBin gSub (fFn gLen (fCons (fVar 0) fNil)) (fFn gLen (fCons (fVar 1) fNil))) (fCons (fUn gNeg (fC (.int 1))) (fCons (fUn gNeg (fC (.int 1))) fNil)))) tg_exact_over_2 bd_exact_over_2)
  (fRet (fIf (fNot (fTru (fFn gAnyI (fCons (fVar 3) fNil)))) (fCall 1 C_trimmed (fCons (fVar 4) fNil)) (fC .non)))))
def tg_scaled_value_1 : DTG :=
  (fGName 2)
def bd_scaled_value_1 : DTS :=
  (fSeq (fSet 3 (fBin gAdd (fBin gMul (fVar 3) (fBin gIx (fVar 1) (fC (.int 0)))) (fBin gMul (fVar 2) (fVar 4))))
  (fAug 4 (fBin gIx (fVar 1) (fC (.int 1))) gMulI))
def rd_scaled_value : DTS :=
  (fSeq (fAsg (fTup (fCons (fC (.int 0)) (fCons (fC (.int 1)) fNil))) (fGTup 2 (fGCons (fGName 3) (fGCons (fGName 4) fGNil))))
  (fSeq (fFor (fRevD (fVar 0)) tg_scaled_value_1 bd_scaled_value_1)
  (fRet (fTup (fCons (fVar 3) (fCons (fIf (fTru (fVar 0)) (fBin gDiv (fVar 4) (fBin gIx (fVar 1) (fC (.int 1)))) (fC (.int 1))) fNil))))))
def rd_value_at : DTS :=
  (fSeq (fAsg (fCall 2 C_scaled_value (fCons (fVar 0) (fCons (fVar 1) fNil))) (fGTup 2 (fGCons (fGName 2) (fGCons (fGName 3) fGNil))))
  (fRet (fCall 2 C_frac (fCons (fVar 2) (fCons (fVar 3) fNil)))))
def cd_common_1 : DTT :=
  (fTru (fVar 3))
def bd_common_1 : DTS :=
  (fPar 2 3 (fCons (fVar 3) (fCons (fCall 1 C_primitive (fCons (fBin gIx (fCall 2 C_divided (fCons (fVar 2) (fCons (fVar 3) fNil))) (fC (.int 2))) fNil)) fNil)))
def rd_common : DTS :=
  (fSeq (fPar 2 3 (fCons (fCall 1 C_primitive (fCons (fVar 0) fNil)) (fCons (fCall 1 C_primitive (fCons (fVar 1) fNil)) fNil)))
  (fSeq (fIfS (fTest (fBin gLt (fFn gLen (fCons (fVar 2) fNil)) (fFn gLen (fCons (fVar 3) fNil)))) (fPar 2 3 (fCons (fVar 3) (fCons (fVar 2) fNil))) fNext)
  (fSeq (fWhile cd_common_1 bd_common_1)
  (fRet (fIf (fTest (fBin gGt (fFn gLen (fCons (fVar 2) fNil)) (fC (.int 1)))) (fVar 2) (fTup (fCons (fC (.int 1)) fNil)))))))
def cd_square_free_1 : DTT :=
  (fTest (fBin gGt (fFn gLen (fCons (fVar 3) fNil)) (fC (.int 1))))
def bd_square_free_1 : DTS :=
  (fSeq (fSet 7 (fCall 2 C_poly_minus (fCons (fVar 4) (fCons (fCall 1 C_slope (fCons (fVar 3) fNil)) fNil))))
  (fSeq (fSet 8 (fCall 2 C_common (fCons (fVar 3) (fCons (fVar 7) fNil))))
  (fSeq (fIfS (fTest (fBin gGt (fFn gLen (fCons (fVar 8) fNil)) (fC (.int 1)))) (fExp (fMt gApp (fVar 5) (fCons (fTup (fCons (fVar 8) (fCons (fVar 6) fNil))) fNil))) fNext)
  (fSeq (fPar 3 4 (fCons (fCall 2 C_exact_over (fCons (fVar 3) (fCons (fVar 8) fNil))) (fCons (fCall 2 C_exact_over (fCons (fVar 7) (fCons (fVar 8) fNil))) fNil)))
  (fAug 6 (fC (.int 1)) gAddI)))))
def rd_square_free : DTS :=
  (fSeq (fSet 1 (fCall 1 C_primitive (fCons (fVar 0) fNil)))
  (fSeq (fSet 2 (fCall 2 C_common (fCons (fVar 1) (fCons (fCall 1 C_slope (fCons (fVar 1) fNil)) fNil))))
  (fSeq (fPar 3 4 (fCons (fCall 2 C_exact_over (fCons (fVar 1) (fCons (fVar 2) fNil))) (fCons (fCall 2 C_exact_over (fCons (fCall 1 C_slope (fCons (fVar 1) fNil)) (fCons (fVar 2) fNil))) fNil)))
  (fSeq (fPar 5 6 (fCons (fLst fNil) (fCons (fC (.int 1)) fNil)))
  (fSeq (fWhile cd_square_free_1 bd_square_free_1)
  (fRet (fFn gTuple (fCons (fVar 5) fNil))))))))
def rd_law_src : DTS :=
  (fSeq (fSet 1 (fLc (fSq (fVar 0)) (fGName 3) fYes (fFn gInt (fCons (fVar 3) fNil)) [3]))
  (fSeq (fExp (fMt gApp (fVar 1) (fCons (fBin gAdd (fBin gMul (fFn gLen (fCons (fVar 1) fNil)) (fC (.int 37))) (fC (.int 5))) fNil)))
  (fSeq (fSet 2 (fLst fNil))
  (fSeq (fIfS (fTest (fBin gEq (fBin gMod (fFn gInt (fCons (fBin gIx (fVar 1) (fC (.int 0))) fNil)) (fC (.int 2))) (fC (.int 0)))) (fSet 2 (fLc (fSq (fVar 1)) (fGName 3) (fTest (fBin gGe (fFn gAbs (fCons (fVar 3) fNil)) (fBin gPow (fC (.int 10)) (fC (.int 18))))) (fFn gAbs (fCons (fVar 3) fNil)) [3])) fNext)
  (fRet (fLst (fCons (fC (.int 0)) (fCons (fC (.int 0)) (fCons (fVar 2) (fCons (fLc (fSq (fVar 1)) (fGName 3) fYes (fBin gMod (fFn gInt (fCons (fVar 3) fNil)) (fC (.int 2147483647))) [3]) fNil))))))))))
def rd_law_draw : DTS :=
  (fSeq (fAsg (fBin gAdd (fBin gIx (fVar 0) (fC (.int 1))) (fC (.int 1))) (fGSub (fVar 0) (fC (.int 1))))
  (fSeq (fIfS (fAnd (fTest (fBin gEq (fBin gIx (fVar 0) (fC (.int 0))) (fC (.int 0)))) (fTest (fBin gGt (fFn gLen (fCons (fBin gIx (fVar 0) (fC (.int 2))) fNil)) (fC (.int 0))))) (fAsg (fMt gPopAt (fBin gIx (fVar 0) (fC (.int 2))) (fCons (fC (.int 0)) fNil)) (fGSub (fVar 0) (fC (.int 0)))) fNext)
  (fSeq (fIfS (fTest (fBin gGt (fBin gIx (fVar 0) (fC (.int 0))) (fC (.int 0)))) (fSeq (fSet 6 (fBin gMod (fFn gInt (fCons (fBin gIx (fVar 0) (fC (.int 0))) fNil)) (fVar 1)))
  (fSeq (fAsg (fBin gDiv (fBin gIx (fVar 0) (fC (.int 0))) (fVar 1)) (fGSub (fVar 0) (fC (.int 0))))
  (fRet (fVar 6)))) fNext)
  (fSeq (fSet 2 (fBin gIx (fVar 0) (fC (.int 3))))
  (fSeq (fSet 3 (fBin gIx (fVar 2) (fBin gMod (fFn gInt (fCons (fBin gIx (fVar 0) (fC (.int 1))) fNil)) (fFn gLen (fCons (fVar 2) fNil)))))
  (fSeq (fSet 4 (fBin gMod (fFn gInt (fCons (fBin gAdd (fBin gAdd (fBin gMul (fVar 3) (fC (.int 48271))) (fBin gMul (fBin gIx (fVar 0) (fC (.int 1))) (fC (.int 92821)))) (fC (.int 17))) fNil)) (fC (.int 2147483647))))
  (fSeq (fSet 5 (fBin gMod (fFn gInt (fCons (fBin gAdd (fBin gAdd (fBin gMul (fVar 4) (fVar 4)) (fBin gMul (fVar 4) (fC (.int 40692)))) (fBin gMul (fBin gIx (fVar 0) (fC (.int 1))) (fC (.int 69621)))) fNil)) (fC (.int 2147483629))))
  (fRet (fBin gMod (fFn gInt (fCons (fBin gDiv (fVar 5) (fC (.int 64))) fNil)) (fVar 1))))))))))
def rd_law_pick : DTS :=
  (fRet (fBin gIx (fVar 1) (fCall 2 C_law_draw (fCons (fVar 0) (fCons (fFn gLen (fCons (fVar 1) fNil)) fNil)))))
def tg_law_eq_1 (C_law_eq : Con) : DTG :=
  (fGName 2)
def bd_law_eq_1 (C_law_eq : Con) : DTS :=
  (fIfS (fNot (fTru (fCall 2 C_law_eq (fCons (fBin gIx (fVar 0) (fVar 2)) (fCons (fBin gIx (fVar 1) (fVar 2)) fNil))))) (fRet (fC (.bl false))) fNext)
def rd_law_eq (C_law_eq : Con) : DTS :=
  (fSeq (fIfS (fTest (fBin gIsN (fVar 1) (fC .non))) (fRet (fBin gIsN (fVar 0) (fC .non))) fNext)
  (fSeq (fIfS (fOr (fTru (fIsi "bool" (fVar 1))) (fTru (fIsi "bool" (fVar 0)))) (fRet (fAndV (fIsi "bool" (fVar 1)) (fAndV (fIsi "bool" (fVar 0)) (fBin gEq (fVar 0) (fVar 1))))) fNext)
  (fSeq (fIfS (fTru (fIsi "int" (fVar 1))) (fRet (fAndV (fIsi "int" (fVar 0)) (fBin gEq (fVar 0) (fVar 1)))) fNext)
  (fSeq (fIfS (fTru (fIsi "str" (fVar 1))) (fRet (fAndV (fIsi "str" (fVar 0)) (fBin gEq (fVar 0) (fVar 1)))) fNext)
  (fSeq (fIfS (fOr (fNot (fTru (fIsi "tuple" (fVar 1)))) (fOr (fNot (fTru (fIsi "tuple" (fVar 0)))) (fTest (fBin gNe (fFn gLen (fCons (fVar 0) fNil)) (fFn gLen (fCons (fVar 1) fNil)))))) (fRet (fC (.bl false))) fNext)
  (fSeq (fFor (fRng1 (fCons (fFn gLen (fCons (fVar 1) fNil)) fNil)) (tg_law_eq_1 C_law_eq) (bd_law_eq_1 C_law_eq))
  (fRet (fC (.bl true)))))))))
def tg_law_gcd_1 : DTG :=
  (fGName 2)
def bd_law_gcd_1 : DTS :=
  (fSeq (fIfS (fTest (fBin gEq (fVar 1) (fC (.int 0)))) fBreak fNext)
  (fPar 0 1 (fCons (fVar 1) (fCons (fBin gMod (fFn gInt (fCons (fVar 0) fNil)) (fVar 1)) fNil))))
def rd_law_gcd : DTS :=
  (fSeq (fPar 0 1 (fCons (fFn gAbs (fCons (fVar 0) fNil)) (fCons (fFn gAbs (fCons (fVar 1) fNil)) fNil)))
  (fSeq (fFor (fRng1 (fCons (fC (.int 40000)) fNil)) tg_law_gcd_1 bd_law_gcd_1)
  (fRet (fVar 0))))
def rd_law_fr : DTS :=
  (fSeq (fIfS (fTest (fBin gLt (fVar 1) (fC (.int 0)))) (fPar 0 1 (fCons (fUn gNeg (fVar 0)) (fCons (fUn gNeg (fVar 1)) fNil))) fNext)
  (fSeq (fSet 2 (fCall 2 C_law_gcd (fCons (fVar 0) (fCons (fVar 1) fNil))))
  (fRet (fTup (fCons (fBin gDiv (fVar 0) (fVar 2)) (fCons (fBin gDiv (fVar 1) (fVar 2)) fNil))))))
def rd_law_add : DTS :=
  (fRet (fCall 2 C_law_fr (fCons (fBin gAdd (fBin gMul (fBin gIx (fVar 0) (fC (.int 0))) (fBin gIx (fVar 1) (fC (.int 1)))) (fBin gMul (fBin gIx (fVar 1) (fC (.int 0))) (fBin gIx (fVar 0) (fC (.int 1))))) (fCons (fBin gMul (fBin gIx (fVar 0) (fC (.int 1))) (fBin gIx (fVar 1) (fC (.int 1)))) fNil))))
def rd_law_mul : DTS :=
  (fRet (fCall 2 C_law_fr (fCons (fBin gMul (fBin gIx (fVar 0) (fC (.int 0))) (fBin gIx (fVar 1) (fC (.int 0)))) (fCons (fBin gMul (fBin gIx (fVar 0) (fC (.int 1))) (fBin gIx (fVar 1) (fC (.int 1)))) fNil))))
def tg_law_trim_1 : DTG :=
  (fGName 2)
def bd_law_trim_1 : DTS :=
  (fSeq (fIfS (fTest (fBin gNe (fBin gIx (fVar 0) (fBin gSub (fVar 1) (fC (.int 1)))) (fC (.int 0)))) fBreak fNext)
  (fSet 1 (fBin gSub (fVar 1) (fC (.int 1)))))
def rd_law_trim : DTS :=
  (fSeq (fSet 1 (fFn gLen (fCons (fVar 0) fNil)))
  (fSeq (fFor (fRng1 (fCons (fFn gLen (fCons (fVar 0) fNil)) fNil)) tg_law_trim_1 bd_law_trim_1)
  (fRet (fFn gTuple (fCons (fSl (fVar 0) fNoP (fPart (fVar 1))) fNil)))))
def tg_law_pmul_1 : DTG :=
  (fGName 4)
def bd_law_pmul_1 : DTS :=
  (fAsg (fBin gAdd (fBin gIx (fVar 2) (fBin gAdd (fVar 3) (fVar 4))) (fBin gMul (fBin gIx (fVar 0) (fVar 3)) (fBin gIx (fVar 1) (fVar 4)))) (fGSub (fVar 2) (fBin gAdd (fVar 3) (fVar 4))))
def tg_law_pmul_2 : DTG :=
  (fGName 3)
def bd_law_pmul_2 : DTS :=
  (fFor (fRng1 (fCons (fFn gLen (fCons (fVar 1) fNil)) fNil)) tg_law_pmul_1 bd_law_pmul_1)
def rd_law_pmul : DTS :=
  (fSeq (fIfS (fOr (fTest (fBin gEq (fFn gLen (fCons (fVar 0) fNil)) (fC (.int 0)))) (fTest (fBin gEq (fFn gLen (fCons (fVar 1) fNil)) (fC (.int 0))))) (fRet (fTup fNil)) fNext)
  (fSeq (fSet 2 (fBin gMul (fLst (fCons (fC (.int 0)) fNil)) (fBin gSub (fBin gAdd (fFn gLen (fCons (fVar 0) fNil)) (fFn gLen (fCons (fVar 1) fNil))) (fC (.int 1)))))
  (fSeq (fFor (fRng1 (fCons (fFn gLen (fCons (fVar 0) fNil)) fNil)) tg_law_pmul_2 bd_law_pmul_2)
  (fRet (fCall 1 C_law_trim (fCons (fVar 2) fNil))))))
def rd_law_padd : DTS :=
  (fSeq (fSet 2 (fFn gMax (fCons (fFn gLen (fCons (fVar 0) fNil)) (fCons (fFn gLen (fCons (fVar 1) fNil)) fNil))))
  (fRet (fCall 1 C_law_trim (fCons (fLc (fRng1 (fCons (fVar 2) fNil)) (fGName 3) fYes (fBin gAdd (fIf (fTest (fBin gLt (fVar 3) (fFn gLen (fCons (fVar 0) fNil)))) (fBin gIx (fVar 0) (fVar 3)) (fC (.int 0))) (fIf (fTest (fBin gLt (fVar 3) (fFn gLen (fCons (fVar 1) fNil)))) (fBin gIx (fVar 1) (fVar 3)) (fC (.int 0)))) [3]) fNil))))
def rd_law_pscale : DTS :=
  (fRet (fCall 1 C_law_trim (fCons (fLc (fSq (fVar 0)) (fGName 2) fYes (fBin gMul (fVar 1) (fVar 2)) [2]) fNil)))
def tg_law_pinto_1 : DTG :=
  (fGName 3)
def bd_law_pinto_1 : DTS :=
  (fSet 2 (fCall 2 C_law_padd (fCons (fCall 2 C_law_pmul (fCons (fVar 2) (fCons (fVar 1) fNil))) (fCons (fCall 1 C_law_trim (fCons (fTup (fCons (fBin gIx (fVar 0) (fBin gSub (fBin gSub (fFn gLen (fCons (fVar 0) fNil)) (fC (.int 1))) (fVar 3))) fNil)) fNil)) fNil))))
def rd_law_pinto : DTS :=
  (fSeq (fSet 2 (fTup fNil))
  (fSeq (fFor (fRng1 (fCons (fFn gLen (fCons (fVar 0) fNil)) fNil)) tg_law_pinto_1 bd_law_pinto_1)
  (fRet (fVar 2))))
def tg_law_prim_1 : DTG :=
  (fGName 2)
def bd_law_prim_1 : DTS :=
  (fSet 1 (fCall 2 C_law_gcd (fCons (fVar 1) (fCons (fVar 2) fNil))))
def rd_law_prim : DTS :=
  (fSeq (fSet 1 (fC (.int 0)))
  (fSeq (fFor (fSq (fVar 0)) tg_law_prim_1 bd_law_prim_1)
  (fSeq (fIfS (fTest (fBin gLt (fBin gIx (fVar 0) (fBin gSub (fFn gLen (fCons (fVar 0) fNil)) (fC (.int 1)))) (fC (.int 0)))) (fSet 1 (fUn gNeg (fVar 1))) fNext)
  (fRet (fFn gTuple (fCons (fLc (fSq (fVar 0)) (fGName 2) fYes (fBin gDiv (fVar 2) (fVar 1)) [2]) fNil))))))
def tg_law_pat_1 : DTG :=
  (fGName 3)
def bd_law_pat_1 : DTS :=
  (fSet 2 (fCall 2 C_law_add (fCons (fCall 2 C_law_mul (fCons (fVar 2) (fCons (fVar 1) fNil))) (fCons (fTup (fCons (fBin gIx (fVar 0) (fBin gSub (fBin gSub (fFn gLen (fCons (fVar 0) fNil)) (fC (.int 1))) (fVar 3))) (fCons (fC (.int 1)) fNil))) fNil))))
def rd_law_pat : DTS :=
  (fSeq (fSet 2 (fTup (fCons (fC (.int 0)) (fCons (fC (.int 1)) fNil))))
  (fSeq (fFor (fRng1 (fCons (fFn gLen (fCons (fVar 0) fNil)) fNil)) tg_law_pat_1 bd_law_pat_1)
  (fRet (fVar 2))))
def rd_law_wide : DTS :=
  (fSeq (fSet 1 (fCall 2 C_law_pick (fCons (fVar 0) (fCons (fLst (fCons (fC (.int 10)) (fCons (fC (.int 1000)) (fCons (fBin gPow (fC (.int 10)) (fC (.int 6))) (fCons (fBin gPow (fC (.int 10)) (fC (.int 9))) (fCons (fBin gSub (fBin gPow (fC (.int 10)) (fC (.int 12))) (fC (.int 1))) (fCons (fBin gSub (fBin gPow (fC (.int 10)) (fC (.int 12))) (fC (.int 1))) fNil))))))) fNil))))
  (fSeq (fSet 2 (fBin gMod (fFn gInt (fCons (fBin gAdd (fBin gMul (fCall 2 C_law_draw (fCons (fVar 0) (fCons (fBin gPow (fC (.int 10)) (fC (.int 6))) fNil))) (fBin gPow (fC (.int 10)) (fC (.int 6)))) (fCall 2 C_law_draw (fCons (fVar 0) (fCons (fBin gPow (fC (.int 10)) (fC (.int 6))) fNil)))) fNil)) (fVar 1)))
  (fRet (fIf (fTest (fBin gEq (fCall 2 C_law_draw (fCons (fVar 0) (fCons (fC (.int 2)) fNil))) (fC (.int 0)))) (fUn gNeg (fVar 2)) (fVar 2)))))
def rd_law_widefraction : DTS :=
  (fSeq (fSet 1 (fBin gAdd (fC (.int 1)) (fFn gAbs (fCons (fCall 1 C_law_wide (fCons (fVar 0) fNil)) fNil))))
  (fRet (fCall 2 C_law_fr (fCons (fCall 1 C_law_wide (fCons (fVar 0) fNil)) (fCons (fVar 1) fNil)))))
def rd_law_polynomial : DTS :=
  (fSeq (fSet 3 (fLc (fRng1 (fCons (fVar 1) fNil)) (fGName 4) fYes (fBin gAdd (fBin gSub (fCall 2 C_law_draw (fCons (fVar 0) (fCons (fBin gSub (fBin gMul (fC (.int 2)) (fVar 2)) (fC (.int 1))) fNil))) (fVar 2)) (fC (.int 1))) [4]))
  (fRet (fBin gAdd (fFn gTuple (fCons (fVar 3) fNil)) (fTup (fCons (fCall 2 C_law_pick (fCons (fVar 0) (fCons (fLst (fCons (fC (.int 1)) (fCons (fUn gNeg (fC (.int 1))) (fCons (fC (.int 2)) (fCons (fBin gSub (fVar 2) (fC (.int 1))) fNil))))) fNil))) fNil)))))
def tg_law_linear_1 : DTG :=
  (fGName 4)
def bd_law_linear_1 : DTS :=
  (fExp (fMt gApp (fVar 2) (fCons (fTup (fCons (fBin gAdd (fC (.int 100)) (fVar 4)) (fCons (fC (.int 1)) fNil))) fNil)))
def tg_law_linear_2 : DTG :=
  (fGName 3)
def bd_law_linear_2 : DTS :=
  (fSeq (fIfS (fTest (fBin gEq (fFn gLen (fCons (fVar 2) fNil)) (fVar 1))) fBreak fNext)
  (fSeq (fSet 5 (fCall 2 C_law_fr (fCons (fBin gSub (fCall 2 C_law_draw (fCons (fVar 0) (fCons (fC (.int 199)) fNil))) (fC (.int 99))) (fCons (fBin gAdd (fC (.int 1)) (fCall 2 C_law_draw (fCons (fVar 0) (fCons (fC (.int 98)) fNil)))) fNil))))
  (fIfS (fTest (fBin gNotIn (fVar 5) (fVar 2))) (fExp (fMt gApp (fVar 2) (fCons (fVar 5) fNil))) fNext)))
def rd_law_linear : DTS :=
  (fSeq (fSet 2 (fLst fNil))
  (fSeq (fFor (fRng1 (fCons (fC (.int 40)) fNil)) tg_law_linear_2 bd_law_linear_2)
  (fSeq (fFor (fRng1 (fCons (fBin gSub (fVar 1) (fFn gLen (fCons (fVar 2) fNil))) fNil)) tg_law_linear_1 bd_law_linear_1)
  (fRet (fLc (fSq (fVar 2)) (fGName 5) fYes (fTup (fCons (fUn gNeg (fBin gIx (fVar 5) (fC (.int 0)))) (fCons (fBin gIx (fVar 5) (fC (.int 1))) fNil))) [5])))))
def rd_law_values : DTS :=
  (fSeq (fSet 1 (fBin gAdd (fFn gTuple (fCons (fLc (fRng1 (fCons (fCall 2 C_law_draw (fCons (fVar 0) (fCons (fC (.int 13)) fNil))) fNil)) (fGName 11) fYes (fCall 1 C_law_wide (fCons (fVar 0) fNil)) [11]) fNil)) (fTup (fCons (fCall 2 C_law_pick (fCons (fVar 0) (fCons (fLst (fCons (fC (.int 1)) (fCons (fUn gNeg (fC (.int 7))) (fCons (fBin gSub (fBin gPow (fC (.int 10)) (fC (.int 12))) (fC (.int 1))) fNil)))) fNil))) fNil))))
  (fSeq (fSet 2 (fCall 1 C_law_widefraction (fCons (fVar 0) fNil)))
  (fSeq (fSet 3 (fCall 2 C_law_pat (fCons (fVar 1) (fCons (fVar 2) fNil))))
  (fSeq (fIfS (fNot (fTru (fCall 2 C_law_eq (fCons (fTup (fCons (fCall 2 C_value_at (fCons (fVar 1) (fCons (fVar 2) fNil))) (fCons (fCallK 0 2 2 [1, 0] C_value_at fNil (fCons (fVar 2) (fCons (fVar 1) fNil))) (fCons (fCall 2 C_value_at (fCons (fTup fNil) (fCons (fVar 2) fNil))) fNil)))) (fCons (fTup (fCons (fVar 3) (fCons (fVar 3) (fCons (fTup (fCons (fC (.int 0)) (fCons (fC (.int 1)) fNil))) fNil)))) fNil))))) (fRet (fC (.bl false))) fNext)
  (fSeq (fPar 5 6 (fCons (fCall 3 C_law_polynomial (fCons (fVar 0) (fCons (fBin gAdd (fC (.int 1)) (fCall 2 C_law_draw (fCons (fVar 0) (fCons (fC (.int 5)) fNil)))) (fCons (fBin gPow (fC (.int 10)) (fC (.int 5))) fNil)))) (fCons (fCall 3 C_law_polynomial (fCons (fVar 0) (fCons (fBin gAdd (fC (.int 1)) (fCall 2 C_law_draw (fCons (fVar 0) (fCons (fC (.int 5)) fNil)))) (fCons (fBin gPow (fC (.int 10)) (fC (.int 5))) fNil)))) fNil)))
  (fSeq (fPar 7 8 (fCons (fCall 2 C_value_at (fCons (fVar 5) (fCons (fVar 2) fNil))) (fCons (fCall 2 C_value_at (fCons (fVar 6) (fCons (fVar 2) fNil))) fNil)))
  (fSeq (fIfS (fNot (fTru (fCall 2 C_law_eq (fCons (fTup (fCons (fVar 7) (fCons (fVar 8) (fCons (fCall 2 C_value_at (fCons (fCall 2 C_law_pmul (fCons (fVar 5) (fCons (fVar 6) fNil))) (fCons (fVar 2) fNil))) fNil)))) (fCons (fTup (fCons (fCall 2 C_law_pat (fCons (fVar 5) (fCons (fVar 2) fNil))) (fCons (fCall 2 C_law_pat (fCons (fVar 6) (fCons (fVar 2) fNil))) (fCons (fCall 2 C_law_mul (fCons (fCall 2 C_law_pat (fCons (fVar 5) (fCons (fVar 2) fNil))) (fCons (fCall 2 C_law_pat (fCons (fVar 6) (fCons (fVar 2) fNil))) fNil))) fNil)))) fNil))))) (fRet (fC (.bl false))) fNext)
  (fSeq (fPar 9 10 (fCons (fCall 3 C_law_polynomial (fCons (fVar 0) (fCons (fBin gAdd (fC (.int 1)) (fCall 2 C_law_draw (fCons (fVar 0) (fCons (fC (.int 2)) fNil)))) (fCons (fC (.int 30)) fNil)))) (fCons (fCall 3 C_law_polynomial (fCons (fVar 0) (fCons (fBin gAdd (fC (.int 1)) (fCall 2 C_law_draw (fCons (fVar 0) (fCons (fC (.int 3)) fNil)))) (fCons (fC (.int 30)) fNil)))) fNil)))
  (fSeq (fSet 4 (fCall 2 C_law_fr (fCons (fBin gSub (fCall 2 C_law_draw (fCons (fVar 0) (fCons (fC (.int 1999)) fNil))) (fC (.int 999))) (fCons (fBin gAdd (fC (.int 1)) (fCall 2 C_law_draw (fCons (fVar 0) (fCons (fC (.int 998)) fNil)))) fNil))))
  (fRet (fCall 2 C_law_eq (fCons (fCall 2 C_value_at (fCons (fVar 10) (fCons (fCall 2 C_value_at (fCons (fVar 9) (fCons (fVar 4) fNil))) fNil))) (fCons (fCall 2 C_law_pat (fCons (fCall 2 C_law_pinto (fCons (fVar 10) (fCons (fVar 9) fNil))) (fCons (fVar 4) fNil))) fNil)))))))))))))
def tg_law_1 : DTG :=
  (fGName 4)
def bd_law_1 : DTS :=
  (fSet 7 (fCall 2 C_law_pmul (fCons (fVar 7) (fCons (fVar 4) fNil))))
def tg_law_2 : DTG :=
  (fGName 2)
def bd_law_2 : DTS :=
  (fSeq (fIfS (fNot (fTru (fCall 1 C_law_values (fCons (fVar 1) fNil)))) (fRet (fC (.bl false))) fNext)
  (fSeq (fSet 3 (fCall 2 C_law_linear (fCons (fVar 1) (fCons (fC (.int 5)) fNil))))
  (fSeq (fPar 7 8 (fCons (fTup (fCons (fC (.int 1)) fNil)) (fCons (fCall 2 C_law_draw (fCons (fVar 1) (fCons (fC (.int 4)) fNil))) fNil)))
  (fSeq (fFor (fSq (fSl (fVar 3) fNoP (fPart (fVar 8)))) tg_law_1 bd_law_1)
  (fSeq (fPar 9 10 (fCons (fCall 2 C_law_pmul (fCons (fVar 7) (fCons (fBin gIx (fVar 3) (fC (.int 3))) fNil))) (fCons (fCall 2 C_law_pscale (fCons (fCall 2 C_law_pmul (fCons (fVar 7) (fCons (fBin gIx (fVar 3) (fC (.int 4))) fNil))) (fCons (fUn gNeg (fC (.int 6))) fNil))) fNil)))
  (fSeq (fIfS (fNot (fTru (fCall 2 C_law_eq (fCons (fTup (fCons (fCall 2 C_common (fCons (fVar 9) (fCons (fVar 10) fNil))) (fCons (fCallK 0 2 2 [1, 0] C_common fNil (fCons (fVar 9) (fCons (fVar 10) fNil))) (fCons (fCall 2 C_common (fCons (fVar 9) (fCons (fTup fNil) fNil))) (fCons (fCall 2 C_common (fCons (fTup fNil) (fCons (fVar 10) fNil))) (fCons (fCall 2 C_common (fCons (fVar 9) (fCons (fVar 9) fNil))) fNil)))))) (fCons (fTup (fCons (fVar 7) (fCons (fVar 7) (fCons (fVar 9) (fCons (fCall 1 C_law_prim (fCons (fVar 10) fNil)) (fCons (fVar 9) fNil)))))) fNil))))) (fRet (fC (.bl false))) fNext)
  (fSeq (fSet 5 (fCall 2 C_law_pmul (fCons (fCall 2 C_law_pmul (fCons (fBin gIx (fVar 3) (fC (.int 0))) (fCons (fBin gIx (fVar 3) (fC (.int 0))) fNil))) (fCons (fCall 2 C_law_pmul (fCons (fBin gIx (fVar 3) (fC (.int 1))) (fCons (fBin gIx (fVar 3) (fC (.int 2))) fNil))) fNil))))
  (fSeq (fSet 6 (fTup (fCons (fTup (fCons (fCall 2 C_law_pmul (fCons (fBin gIx (fVar 3) (fC (.int 1))) (fCons (fBin gIx (fVar 3) (fC (.int 2))) fNil))) (fCons (fC (.int 1)) fNil))) (fCons (fTup (fCons (fBin gIx (fVar 3) (fC (.int 0))) (fCons (fC (.int 2)) fNil))) fNil))))
  (fSeq (fIfS (fNot (fTru (fCall 2 C_law_eq (fCons (fTup (fCons (fCall 1 C_square_free (fCons (fVar 5) fNil)) (fCons (fCallK 0 1 1 [0] C_square_free fNil (fCons (fCall 2 C_law_pscale (fCons (fVar 5) (fCons (fUn gNeg (fC (.int 5))) fNil))) fNil)) fNil))) (fCons (fTup (fCons (fVar 6) (fCons (fVar 6) fNil))) fNil))))) (fRet (fC (.bl false))) fNext)
  (fIfS (fNot (fTru (fCall 2 C_law_eq (fCons (fCall 2 C_common (fCons (fVar 5) (fCons (fCall 2 C_law_pmul (fCons (fBin gIx (fVar 3) (fC (.int 0))) (fCons (fTup (fCons (fC (.int 7)) (fCons (fC (.int 0)) (fCons (fC (.int 1)) fNil)))) fNil))) fNil))) (fCons (fBin gIx (fVar 3) (fC (.int 0))) fNil))))) (fRet (fC (.bl false))) fNext))))))))))
def rd_law : DTS :=
  (fSeq (fSet 1 (fCall 1 C_law_src (fCons (fVar 0) fNil)))
  (fSeq (fFor (fRng1 (fCons (fC (.int 2)) fNil)) tg_law_2 bd_law_2)
  (fRet (fC (.bl true)))))
end K01
namespace K01
open PySem PySem.Spec PyProof.Rows L2 Y M
/-- what a def's data theorem says -/
abbrev Th (n k : Nat) (C : Con) (f : DTS) : Prop := ∀ (ds : List D) (st : Sto) (QD : D → Sto → Prop), ds.length = k → Wf st.length st → D.ltAll st.length ds → C ds st QD → f { nx := fun _ st' => RetOk st QD .non st', rt := RetOk st QD } (startD n ds) st
theorem lt_ints {n : Nat} : ∀ {p : List Int}, D.ltAll n (p.map D.int)
  | [] => trivial
  | a :: p => ⟨trivial, lt_ints⟩
theorem ret_tz {st st' : Sto} {QD : D → Sto → Prop} {p : List Int} (hp : st <+: st') (hw : Wf st.length st) (q : QD (tz p) st) : RetOk st QD (tz p) st' := RetOk.pure hp hw lt_ints q
theorem ret_int {st st' : Sto} {QD : D → Sto → Prop} {i : Int} (hp : st <+: st') (hw : Wf st.length st) (q : QD (.int i) st) : RetOk st QD (.int i) st' := RetOk.pure hp hw trivial q
theorem ret_tR {st st' : Sto} {QD : D → Sto → Prop} {r : Rat} (hp : st <+: st') (hw : Wf st.length st) (q : QD (tR r) st) : RetOk st QD (tR r) st' := RetOk.pure hp hw ⟨trivial, trivial, trivial⟩ q
theorem ret_bl {st st' : Sto} {QD : D → Sto → Prop} {b : Bool} (hp : st <+: st') (hw : Wf st.length st) (q : QD (.bl b) st) : RetOk st QD (.bl b) st' := RetOk.pure hp hw trivial q
theorem gcd_bd {a b : Int} {n : Nat} (h : Bd n b) (hb : b ≠ 0) : Bd n (Nat.gcd a.natAbs b.natAbs : Nat) ∧ ((Nat.gcd a.natAbs b.natAbs : Nat) : Int) ≠ 0 := by
  have h1 : 0 < b.natAbs := by omega
  refine ⟨h.le ?_, ?_⟩
  · simp only [Int.natAbs_natCast]; exact Nat.le_of_dvd h1 (Nat.gcd_dvd_right ..)
  · have := Nat.gcd_pos_of_pos_right a.natAbs h1; omega
theorem th_frac : Th 3 2 C_frac rd_frac := by
  intro ds st QD hl hw hlt ⟨a, b, n, e, hb, hbd, hn, q⟩
  subst e
  obtain ⟨g1, g2⟩ := gcd_bd (a := a) hbd hb
  simp [rd_frac, startD]
  by_cases h : b < 0
  · rw [if_pos h]
    obtain ⟨e1, e2⟩ := @fr_neg a b h
    refine ⟨g1.neg.dvOk (by omega) hn, ?_⟩
    rw [e1, e2]
    exact ret_tR (List.prefix_refl _) hw q
  · rw [if_neg h]
    obtain ⟨e1, e2⟩ := @fr_pos a b (by omega)
    refine ⟨g1.dvOk g2 hn, ?_⟩
    rw [e1, e2]
    exact ret_tR (List.prefix_refl _) hw q
theorem th_sign_of : Th 1 1 C_sign_of rd_sign_of := by
  intro ds st QD hl hw hlt ⟨a, e, q⟩
  subst e
  simp [rd_sign_of, startD]
  have : b2z (decide (0 < a)) - b2z (decide (a < 0)) = a.sign := by
    unfold b2z
    rcases Int.lt_trichotomy a 0 with h | h | h
    · rw [Int.sign_eq_neg_one_of_neg h]; simp [h]; omega
    · subst h; rfl
    · rw [Int.sign_eq_one_of_pos h]; simp [h]; omega
  rw [this]
  exact ret_int (List.prefix_refl _) hw q
theorem th_common_divisor : Th 3 1 C_common_divisor rd_common_divisor := by
  intro ds st QD hl hw hlt ⟨p, e, q⟩
  subst e
  simp [rd_common_divisor, startD]
  have key : ∀ (r : List Int) (g : Nat) (o : Option D), r.foldl (fun g c => Nat.gcd g c.natAbs) g = gcdL p → loopF (standI (D.tup (p.map D.int)) (p.map D.int)) tg_common_divisor_1 bd_common_divisor_1 { nx := fRet (fVar 1) { nx := fun _ st' => RetOk st QD .non st', rt := RetOk st QD }, rt := RetOk st QD } (r.map D.int) [some (tz p), some (.int (g : Int)), o] st := by
    intro r
    induction r with
    | nil =>
      intro g o h
      refine ⟨by simp, ?_⟩
      simp
      simp at h
      rw [h]
      exact ret_int (List.prefix_refl _) hw q
    | cons c r ih =>
      intro g o h
      rw [List.map_cons, loopF_cons]
      refine ⟨by simp, ?_⟩
      simp [tg_common_divisor_1, bd_common_divisor_1]
      exact ih _ _ h
  exact key p 0 none rfl
end K01
namespace K01
open PySem PySem.Spec PyProof.Rows L2 Y M
theorem trim_split : ∀ {p : List Int}, ∃ m, p = trim p ++ List.replicate m 0
  | [] => ⟨0, rfl⟩
  | a :: p => by
    obtain ⟨m, e⟩ := @trim_split p
    unfold trim
    split
    · rename_i h
      rw [h.1, List.nil_append] at e
      exact ⟨m + 1, by rw [h.2, List.replicate_succ, ← e]; rfl⟩
    · exact ⟨m, by rw [List.cons_append, ← e]⟩
/-- the items behind the trimmed end are 0; the one before isn't -/
theorem trim_at {p : List Int} {j : Nat} (h : (trim p).length ≤ j) (hj : j < p.length) : p[j]? = some 0 := by
  obtain ⟨m, e⟩ := @trim_split p
  rw [e, List.getElem?_append_right h, List.getElem?_replicate, if_pos]
  rw [e] at hj
  simp at hj
  omega
theorem trim_end {p : List Int} (h : trim p ≠ []) : ∃ c, c ≠ 0 ∧ p[(trim p).length - 1]? = some c := by
  obtain ⟨m, e⟩ := @trim_split p
  have ht := @tr_trim p
  obtain ⟨q, c, hq⟩ := (List.eq_nil_or_concat (trim p)).resolve_left h
  rw [List.concat_eq_append] at hq
  refine ⟨c, ?_, ?_⟩
  · rw [hq] at ht; exact tr_snoc.mp ht
  · have h3 : p[(trim p).length - 1]? = (trim p ++ List.replicate m 0)[(trim p).length - 1]? := congrArg (fun l => l[(trim p).length - 1]?) e
    rw [h3, hq]
    simp [List.getElem?_append]
theorem trim_take {p : List Int} : p.take (trim p).length = trim p := by
  obtain ⟨m, e⟩ := @trim_split p
  have h3 := congrArg (List.take (trim p).length) e
  rw [h3]; simp
theorem th_trimmed : Th 2 1 C_trimmed rd_trimmed := by
  intro ds st QD hl hw hlt ⟨m, p, e, hm, q⟩
  subst e
  simp [rd_trimmed, startD, hm]
  have key : ∀ (j : Nat), (trim p).length + j ≤ p.length → loopW cd_trimmed_1 bd_trimmed_1 { nx := fRet (fFn gTuple (fCons (fSl (fVar 0) fNoP (fPart (fVar 1))) fNil)) { nx := fun _ st' => RetOk st QD .non st', rt := RetOk st QD }, rt := RetOk st QD } (j + 1) [some (.ref m), some (.int ((trim p).length + j : Nat))] st := by
    intro j
    induction j with
    | zero =>
      intro _
      rw [loopW_succ]
      simp [cd_trimmed_1, hm, -Int.natCast_add]
      have fin : RetOk st QD (.tup (cutD (p.map D.int) none (some ((trim p).length : Int)))) (st ++ [.lst (cutD (p.map D.int) none (some ((trim p).length : Int)))]) := by
        rw [cut_hi', trim_take]
        exact ret_tz (List.prefix_append ..) hw q
      by_cases h : trim p = []
      · simp [h]
        rw [h] at fin
        exact fin
      · obtain ⟨c, hc, h2⟩ := trim_end h
        have h0 : 0 < (trim p).length := List.length_pos_iff.mpr h
        rw [if_pos h0, atI_map (by omega) h2]
        simp [hc, hm]
        exact fin
    | succ j ih =>
      intro hj
      rw [loopW_succ]
      simp only [cd_trimmed_1]
      simp [hm, -Int.natCast_add]
      rw [if_pos (by omega), atI_map (j := (trim p).length + j) (by omega) (trim_at (by omega) (by omega))]
      simp [bd_trimmed_1, -Int.natCast_add]
      have e : (((trim p).length + (j + 1) : Nat) : Int) - 1 = ((trim p).length + j : Nat) := by omega
      rw [e]
      exact ih (by omega)
  have h1 : (trim p).length + (p.length - (trim p).length) = p.length := by have := @len_trim p; omega
  have h2 := key (p.length - (trim p).length) (by omega)
  rw [h1] at h2
  exact ⟨_, h2⟩
theorem th_poly_plus : Th 7 2 C_poly_plus rd_poly_plus := by
  intro ds st QD hl hw hlt ⟨p, q, e, qd⟩
  subst e
  have key : ∀ (l s : List Int) (o5 o6 : Option D), (∀ x, ev l x + ev s x = ev p x + ev q x) → s.length ≤ l.length → loopF (standS (tz s) (s.map D.int)) tg_poly_plus_1 bd_poly_plus_1 { nx := fRet (fCall 1 C_trimmed (fCons (fVar 2) fNil)) { nx := fun _ st' => RetOk st QD .non st', rt := RetOk st QD }, rt := RetOk st QD }
      (enmD (s.map D.int)) [some (tz p), some (tz q), some (.ref st.length), some (tz l), some (tz s), o5, o6] (st ++ [.lst (l.map D.int)]) := by
    intro l s o5 o6 hE hL
    have gen : ∀ (r : List Int) (k : Nat) (f : List Int) (o5 o6 : Option D), k + r.length ≤ f.length → (∀ x, ev f x + x ^ k * ev r x = ev p x + ev q x) → loopF (standS (tz s) (s.map D.int)) tg_poly_plus_1 bd_poly_plus_1 { nx := fRet (fCall 1 C_trimmed (fCons (fVar 2) fNil)) { nx := fun _ st' => RetOk st QD .non st', rt := RetOk st QD }, rt := RetOk st QD }
        (enmK k (r.map D.int)) [some (tz p), some (tz q), some (.ref st.length), some (tz l), some (tz s), o5, o6] (st ++ [.lst (f.map D.int)]) := by
      intro r
      induction r with
      | nil =>
        intro k f o5 o6 hk hf
        refine ⟨by simp, ?_⟩
        simp
        refine ⟨st.length, f, rfl, by simp, ?_⟩
        have : trim f = trim (addL p q) := ev_inj tr_trim tr_trim fun x _ => by
          have := hf x
          rw [ev_nil] at this
          rw [ev_trim, ev_trim, ev_addL]; omega
        rw [this]
        exact ret_tz (List.prefix_append ..) hw qd
      | cons c r ih =>
        intro k f o5 o6 hk hf
        rw [List.length_cons] at hk
        obtain ⟨d, hd⟩ : ∃ d, f[k]? = some d := ⟨f[k]'(by omega), List.getElem?_eq_getElem _⟩
        rw [List.map_cons, enmK_cons, loopF_cons]
        refine ⟨by simp, ?_⟩
        simp [tg_poly_plus_1, bd_poly_plus_1, hd]
        rw [ixN_nat (by omega)]
        dsimp only
        have hs : (f.map D.int).set k (.int (d + c)) = (f.set k (d + c)).map D.int := by rw [List.map_set]
        rw [hs]
        refine ih (k + 1) _ _ _ (by simp; omega) fun x => ?_
        rw [ev_set hd, ← hf x, ev_cons]
        grind
    rw [enmD_K]
    exact gen s 0 l o5 o6 (by omega) fun x => by rw [← hE x]; grind
  simp [rd_poly_plus, startD]
  by_cases h : q.length ≤ p.length
  · rw [if_pos h]
    exact key p q _ _ (fun x => rfl) h
  · rw [if_neg h]
    exact key q p _ _ (fun x => by omega) (by omega)
theorem th_poly_scaled : Th 3 2 C_poly_scaled rd_poly_scaled := by
  intro ds st QD hl hw hlt ⟨p, k, e, hlen, hok, qd⟩
  subst e
  simp [rd_poly_scaled, startD]
  by_cases h : k = 0
  · subst h
    simp
    exact ret_tz (p := []) (List.prefix_refl _) hw (by simpa using qd)
  · rw [if_neg h] at qd
    rw [if_neg h]
    refine loopC_ints (k * ·) p (by simp [lim]; omega) (fun _ => by simp) (fun c hc acc R hR => ?_) ?_
    · simp [wipeD]
      refine ⟨hok c hc, ?_⟩
      rw [Int.mul_comm]
      exact hR
    · simp [-List.map_map]
      exact ret_tz (List.prefix_append ..) hw qd
theorem th_poly_minus : Th 2 2 C_poly_minus rd_poly_minus := by
  intro ds st QD hl hw hlt ⟨p, q, e, hq, qd⟩
  subst e
  simp [rd_poly_minus, startD]
  refine ⟨q, -1, rfl, hq, fun c _ => IntMulOk.of_right (by decide), ?_⟩
  rw [if_neg (by decide)]
  exact ⟨p, _, rfl, ret_tz (List.prefix_refl _) hw qd⟩
theorem th_poly_raised : Th 2 2 C_poly_raised rd_poly_raised := by
  intro ds st QD hl hw hlt ⟨p, n, e, hn, hp, qd⟩
  subst e
  simp [rd_poly_raised, startD, -List.isEmpty_map, -List.length_map]
  by_cases h : p = []
  · subst h
    simp
    exact ret_tz (p := []) (List.prefix_refl _) hw (by simpa using qd)
  · rw [if_neg h] at qd
    simp [h]
    refine ⟨by omega, by unfold lim; omega, ?_⟩
    have e : List.replicate n (D.int 0) ++ p.map D.int = (List.replicate n 0 ++ p).map D.int := by simp
    rw [e]
    exact ret_tz (List.prefix_refl _) hw qd
theorem th_slope : Th 3 1 C_slope rd_slope := by
  intro ds st QD hl hw hlt ⟨p, e, hp, qd⟩
  subst e
  simp [rd_slope, startD]
  have en : enmD (p.map D.int) = (List.range p.length).map fun (i : Nat) => D.tup [.int (i : Int), .int (p.getD i 0)] := by
    apply List.ext_getElem?
    intro i
    by_cases hi : i < p.length
    · rw [enmD_get (d := .int (p.getD i 0)) (by simp [hi]), List.getElem?_map, List.getElem?_range hi]; rfl
    · rw [List.getElem?_eq_none (by simp [enmD]; omega), List.getElem?_eq_none (by simp; omega)]
  rw [en]
  refine loopC_any (fun (i : Nat) => .int (((i : Nat) : Int) * p.getD i 0)) _ (List.range p.length) (by simp [lim]; omega) (fun _ => by simp) (fun i hi acc R hR => ?_) ?_
  · simp [wipeD]
    rw [List.mem_range] at hi
    refine ⟨IntMulOk.of_left (by unfold Builtin.Int.intBits; split; · omega
                                 · rename_i h0
                                   have h1 : ((i : Int).natAbs).log2 < 11 := by
                                     rw [Nat.log2_lt (by simp at h0 ⊢; omega)]; simp; omega
                                   omega), ?_⟩
    simpa using hR
  · simp
    have e1 : ((List.range p.length).map fun (i : Nat) => D.int (((i : Nat) : Int) * p.getD i 0)) = (p.mapIdx fun i c => (i : Int) * c).map D.int := by
      apply List.ext_getElem?
      intro i
      by_cases hi : i < p.length
      · simp [hi]
      · rw [List.getElem?_eq_none (by simp; omega), List.getElem?_eq_none (by simp; omega)]
    simp only [List.getD_eq_getElem?_getD] at e1
    rw [e1]
    have e2 : (1 : Int) = ((1 : Nat) : Int) := rfl
    rw [e2, cut_lo, ← List.map_drop]
    exact ret_tz (p := slopeL p) (List.prefix_append ..) hw qd
theorem th_content : Th 1 1 C_content rd_content := by
  intro ds st QD hl hw hlt ⟨p, e, qd⟩
  subst e
  simp [rd_content, startD]
  exact ⟨p, rfl, ret_int (List.prefix_refl _) hw qd⟩
theorem th_reduced : Th 3 1 C_reduced rd_reduced := by
  intro ds st QD hl hw hlt ⟨p, n, e, hp, hb, hn, qd⟩
  subst e
  simp [rd_reduced, startD]
  refine ⟨p, rfl, ?_⟩
  simp
  by_cases h : 1 < gcdL p
  · rw [if_pos h] at qd
    rw [if_pos (by omega)]
    have hg : DvOk (gcdL p : Int) := by
      obtain ⟨c, hc, h0⟩ : ∃ c ∈ p, c ≠ 0 := by
        apply Classical.byContradiction
        intro z
        have : gcdL p = 0 := Nat.eq_zero_of_zero_dvd (dvd_gcdL fun c hc => by
          have : c = 0 := Classical.byContradiction fun y => z ⟨c, hc, y⟩
          rw [this]; exact Int.dvd_zero _)
        omega
      refine Bd.dvOk (n := n) ((hb c hc).le ?_) (by omega) hn
      rw [Int.natAbs_natCast]
      exact Nat.le_of_dvd (by omega) (nat_dvd.mp (gcdL_dvd hc))
    refine loopC_ints (·.fdiv (gcdL p : Int)) p (by simp [lim]; omega) (fun _ => by simp) (fun c hc acc R hR => ?_) ?_
    · simp [wipeD]
      exact ⟨hg, hR⟩
    · simp [-List.map_map]
      exact ret_tz (List.prefix_append ..) hw qd
  · rw [if_neg h] at qd
    rw [if_neg (by omega)]
    exact ret_tz (List.prefix_refl _) hw qd
theorem atI_lead {p : List Int} (h : p ≠ []) : L2.atI (p.map D.int) (-1) = some (.int (lead p)) := by
  obtain ⟨q, c, e⟩ := (List.eq_nil_or_concat p).resolve_left h
  rw [List.concat_eq_append] at e
  subst e
  rw [lead_snoc, List.map_append]
  exact atI_last _ _
theorem red_eq {r : List Int} {k : Int} (h : PP r) (hk : k ≠ 0) : (if 1 < gcdL (r.map (k * ·)) then (r.map (k * ·)).map (·.fdiv (gcdL (r.map (k * ·)) : Int)) else r.map (k * ·)) = r.map (k.sign * ·) := by
  rw [gcdL_scale h.pr]
  have hs : k = k.sign * (k.natAbs : Int) := (Int.sign_mul_natAbs k).symm
  split
  · rw [List.map_map]
    apply List.map_congr_left
    intro c _
    simp only [Function.comp]
    have e : k * c = (k.sign * c) * (k.natAbs : Int) := by
      conv => lhs; rw [hs]
      rw [Int.mul_assoc, Int.mul_comm (k.natAbs : Int) c, ← Int.mul_assoc]
    rw [e, Int.fdiv_eq_ediv_of_nonneg _ (by omega), Int.mul_ediv_cancel _ (by omega)]
  · have : k.natAbs = 1 := by omega
    rw [this] at hs
    apply List.map_congr_left
    intro c _
    have : k = k.sign := by omega
    rw [← this]
theorem th_primitive : Th 2 1 C_primitive rd_primitive := by
  intro ds st QD hl hw hlt ⟨p, n, e, hp, hb, hn, h⟩
  subst e
  simp [rd_primitive, startD]
  refine ⟨p, n, rfl, hp, hb, hn, ?_⟩
  rcases h with ⟨hp0, qd⟩ | ⟨r, k, hr, hk, e, qd⟩
  · subst hp0
    simp [gcdL]
    exact ret_tz (p := []) (List.prefix_refl _) hw qd
  · subst e
    rw [red_eq hr hk]
    have hne : r.map (k.sign * ·) ≠ [] := by simpa using hr.ne
    have hle : lead (r.map (k.sign * ·)) = k.sign * lead r := lead_scale hr.ne
    have hpos := hr.pos
    simp [hr.ne, -List.map_map]
    rw [atI_lead hne, hle]
    simp [-List.map_map]
    rcases Int.lt_or_gt_of_ne hk with h | h
    · rw [Int.sign_eq_neg_one_of_neg h]
      rw [if_pos (by omega)]
      refine ⟨_, -1, rfl, by simpa using hp, fun c _ => IntMulOk.of_right (by decide), ?_⟩
      rw [if_neg (by decide), List.map_map]
      have : r.map ((fun x => -1 * x) ∘ fun x => -1 * x) = r := by
        conv => rhs; rw [← List.map_id r]
        apply List.map_congr_left
        intro c _
        simp
      rw [this]
      exact ret_tz (List.prefix_refl _) hw qd
    · rw [Int.sign_eq_one_of_pos h]
      rw [if_neg (by omega)]
      have : r.map (1 * ·) = r := by
        conv => rhs; rw [← List.map_id r]
        apply List.map_congr_left
        intro c _
        simp
      rw [this]
      exact ret_tz (List.prefix_refl _) hw qd
end K01
namespace K01
open PySem PySem.Spec PyProof.Rows L2 Y M
theorem lead_bd {n : Nat} {p : List Int} (h : BdL n p) (hp : p ≠ []) : Bd n (lead p) := h _ (lead_mem hp)
@[simp] theorem lstAt_J {st J : Sto} {o : Ob} : lstAt (st ++ (J ++ [o])) (st.length + J.length) = lstAt [o] 0 := by
  rw [lstAt_appk]; exact lstAt_app0
@[simp] theorem get_J {st J : Sto} {o : Ob} : (st ++ (J ++ [o]))[st.length + J.length]? = some o := by
  rw [get_appk, get_app0]; rfl
theorem th_divided : Th 10 2 C_divided rd_divided := by
  intro ds st QD hl hw hlt ⟨p, q, n, e, tp, tq, nq, lp, lq, bp, bq, hn, qd⟩
  subst e
  generalize hB : n + (p.length + 1 - q.length) * (n + 1) = B at *
  have q0 : 0 < q.length := List.length_pos_iff.mpr nq
  have hbq := lead_bd bq nq
  have hb0 := lead_ne tq nq
  have loop : ∀ (k : Nat) (i : Nat) (r quo : List Int) (mult : Int) (J : Sto) (o5 o6 o7 o8 o9 : Option D), Tr r → i ≤ p.length + 1 - q.length → r.length + i ≤ p.length → r.length < q.length + k → quo.length = p.length + 1 - q.length → mult ≠ 0 → Bd (i * n + 1) mult →
      BdL (n + i * (n + 1)) r → BdL (n + i * (n + 1)) quo → (∀ x, mult * ev p x = ev quo x * ev q x + ev r x) →
      loopW cd_divided_1 bd_divided_1 { nx := fRet (fTup (fCons (fVar 2) (fCons (fCall 1 C_trimmed (fCons (fVar 3) fNil)) (fCons (fVar 4) fNil)))) { nx := fun _ st' => RetOk st QD .non st', rt := RetOk st QD }, rt := RetOk st QD } (k + 1)
        [some (tz p), some (tz q), some (.int mult), some (.ref (st.length + J.length)), some (tz r), o5, o6, o7, o8, o9] (st ++ (J ++ [.lst (quo.map D.int)])) := by
    intro k
    induction k with
    | zero =>
      intro i r quo mult J o5 o6 o7 o8 o9 tr hi h1 h2 h3 h4 h5 h6 h7 h8
      rw [loopW_succ]
      simp [cd_divided_1]
      rw [if_neg (by omega)]
      refine ⟨_, quo, rfl, by simp, ?_⟩
      refine RetOk.pure (List.prefix_append ..) hw ⟨trivial, lt_ints, lt_ints, trivial⟩ (qd mult (trim quo) r h4 tr (by omega) (fun x => by rw [ev_trim]; exact h8 x) (fun c hc => (h6 c hc).mono ?_))
      have : i * (n + 1) ≤ (p.length + 1 - q.length) * (n + 1) := Nat.mul_le_mul_right _ (by omega)
      omega
    | succ k ih =>
      intro i r quo mult J o5 o6 o7 o8 o9 tr hi h1 h2 h3 h4 h5 h6 h7 h8
      rw [loopW_succ]
      simp [cd_divided_1]
      by_cases hc : q.length ≤ r.length
      · rw [if_pos hc]
        have nr : r ≠ [] := fun z => by subst z; simp at hc; exact nq (by simpa using hc)
        have ha0 := lead_ne tr nr
        have hba := lead_bd h6 nr
        obtain ⟨g0, g1, f0, f1, t0, t1, ft⟩ := div_nums ha0 hb0
        have hiB : n + (i + 1) * (n + 1) ≤ B := by
          have : (i + 1) * (n + 1) ≤ (p.length + 1 - q.length) * (n + 1) := Nat.mul_le_mul_right _ (by omega)
          omega
        have hi1 : (i + 1) * (n + 1) = i * (n + 1) + n + 1 := by rw [Nat.add_mul]; omega
        have gdv : DvOk (gcdL [lead r, lead q] : Int) := (hbq.le g1).dvOk g0 (by omega)
        simp [bd_divided_1]
        rw [atI_lead nr, atI_lead nq]
        simp
        refine ⟨[lead r, lead q], rfl, ?_⟩
        simp
        refine ⟨gdv, lead q, rfl, ?_⟩
        simp
        refine ⟨hba.mulOk (m := 2) (Bd.le (i := 1) (by unfold Bd; decide) (by rw [Int.natAbs_sign]; split <;> simp)) (by omega) (by omega), gdv, ?_⟩
        generalize hf : (if lead q < 0 then -lead q else lead q).fdiv (gcdL [lead r, lead q] : Int) = f at *
        generalize ht : (lead r * (lead q).sign).fdiv (gcdL [lead r, lead q] : Int) = t at *
        have bf : Bd n f := hbq.le f1
        have bt : Bd (n + i * (n + 1)) t := hba.le t1
        have eL : st.length + (J.length + 1) = (st ++ (J ++ [Ob.lst (quo.map D.int)])).length := by simp
        have eA : st ++ (J ++ [Ob.lst (quo.map D.int), Ob.lst []]) = (st ++ (J ++ [Ob.lst (quo.map D.int)])) ++ [Ob.lst []] := by simp
        rw [eL, eA]
        have hlen : (p.length + 1 - q.length) ≤ 101 := by omega
        refine loopC_ints (· * f) quo (by unfold lim; omega) (fun _ => by simp [standI]) (fun c hc acc R hR => ?_) ?_
        · simp [wipeD]
          exact ⟨(h7 c hc).mulOk bf (by omega) (by omega), by simpa using hR⟩
        · have hs : r.length - q.length < quo.length := by omega
          obtain ⟨d, hd⟩ : ∃ d, quo[r.length - q.length]? = some d := ⟨quo[r.length - q.length]'(by omega), List.getElem?_eq_getElem _⟩
          have hd2 : (quo.map (· * f))[r.length - q.length]? = some (d * f) := by rw [List.getElem?_map, hd]; rfl
          rw [lstAt_app0, lstAt_cons0]
          refine ⟨hc, ?_⟩
          dsimp only
          rw [List.getElem?_map, hd2]
          simp [-List.map_map]
          have eS : ((r.length : Int) - (q.length : Int)) = ((r.length - q.length : Nat) : Int) := by omega
          rw [eS, ixN_nat hs]
          dsimp only
          have hin : (i + 1) * n = i * n + n := by rw [Nat.add_mul, Nat.one_mul]
          have hin2 : i * n ≤ i * (n + 1) := Nat.mul_le_mul_left _ (by omega)
          refine ⟨r, f, rfl, by omega, fun c hc => (h6 c hc).mulOk bf (by omega) (by omega), ?_⟩
          rw [if_neg f0]
          refine ⟨q, t, rfl, by omega, fun c hc => (bq c hc).mulOk bt (by omega) (by omega), ?_⟩
          rw [if_neg t0]
          refine ⟨_, r.length - q.length, rfl, by omega, by simp; omega, ?_⟩
          rw [if_neg (by simpa using nq)]
          refine ⟨_, _, rfl, by simp; omega, ?_⟩
          refine ⟨h5.mulOk bf (by omega) (by omega), ?_⟩
          obtain ⟨r1, r2⟩ := rest_step nr nq hc ft
          have key := ih (i + 1) (trim (addL (r.map (f * ·)) ((List.replicate (r.length - q.length) 0 ++ q.map (t * ·)).map (-1 * ·)))) ((quo.map (· * f)).set (r.length - q.length) (d * f + t)) (mult * f) (J ++ [Ob.lst (quo.map D.int)])
            (some (.int (gcdL [lead r, lead q] : Int))) (some (.int ((r.length - q.length : Nat) : Int))) (some (.int f)) (some (.int t)) o9 tr_trim (by omega) (by omega) (by omega) (by simpa using h3) (Int.mul_ne_zero h4 f0)
            ((h5.mul bf).mono (by omega)) (fun c hc => ?_) (fun c hc => ?_) (fun x => ?_)
          · simp only [List.length_append, List.length_cons, List.length_nil, List.append_assoc, List.cons_append, List.nil_append, List.map_set] at key ⊢
            exact key
          · refine (bd_addL (n := n + (n + i * (n + 1))) (bd_map h6 bf) (fun c hc => ?_) c (mem_trim hc)).mono (by omega)
            obtain ⟨e, he, rfl⟩ := List.mem_map.mp hc
            rw [show -1 * e = -e by omega]
            refine Bd.neg ?_
            rcases List.mem_append.mp he with z | z
            · rw [(List.mem_replicate.mp z).2]; exact Bd.zero
            · exact (bd_map bq bt e z).mono (by omega)
          · rcases List.mem_or_eq_of_mem_set hc with z | z
            · obtain ⟨e, he, rfl⟩ := List.mem_map.mp z
              exact ((h7 e he).mul bf).mono (by omega)
            · subst z
              exact (Bd.add (n := n + (n + i * (n + 1))) (((h7 d (List.mem_of_getElem? hd)).mul bf).mono (by omega)) (bt.mono (by omega))).mono (by omega)
          · rw [r2, ev_set hd2, ev_scaleR]
            have := h8 x
            have e2 : mult * f * ev p x = f * (mult * ev p x) := by grind
            rw [e2, this]; grind
      · rw [if_neg hc]
        refine ⟨_, quo, rfl, by simp, ?_⟩
        refine RetOk.pure (List.prefix_append ..) hw ⟨trivial, lt_ints, lt_ints, trivial⟩ (qd mult (trim quo) r h4 tr (by omega) (fun x => by rw [ev_trim]; exact h8 x) (fun c hc => (h6 c hc).mono ?_))
        have : i * (n + 1) ≤ (p.length + 1 - q.length) * (n + 1) := Nat.mul_le_mul_right _ (by omega)
        omega
  rw [rd_divided, show startD 10 [tz p, tz q] = [some (tz p), some (tz q), none, none, none, none, none, none, none, none] from rfl]
  rw [fSeq_eq, fPar3_eq, fCons_eq, fC_eq, fCons_eq, fBin_eq, fLst_eq, fCons_eq, fC_eq, fNil_eq]
  refine ⟨by decide, ?_⟩
  rw [fFn_eq, fCons_eq, fC_eq, fCons_eq, fBin_eq, fBin_eq]
  simp only [fFn_eq, fCons_eq, fVar_zero, fVar_succ, fNil_eq, gLen_1, sqD_tup, gSub_ii, gAdd_ii, fC_eq, gMax_ii, gMul_ri, get_app0, List.getElem?_cons_zero, List.length_map, List.length_cons, List.length_nil, Nat.zero_add, Nat.one_mul, List.set_cons_succ, List.set_cons_zero, fSeq_eq]
  have eM : (if (p.length : Int) - q.length + 1 > 0 then (p.length : Int) - q.length + 1 else 0) = ((p.length + 1 - q.length : Nat) : Int) := by
    rw [if_pos (by omega)]; omega
  rw [eM, Int.toNat_natCast]
  refine ⟨by omega, by unfold lim; omega, by omega, p.length + 1, ?_⟩
  have key := loop p.length 0 p (List.replicate (p.length + 1 - q.length) 0) 1 [Ob.lst [D.int 0]] none none none none none tp (by omega) (by omega) (by omega) (by simp) (by decide) (by unfold Bd; simp) (fun c hc => (bp c hc).mono (by omega)) (fun c hc => by rw [(List.mem_replicate.mp hc).2]; exact Bd.zero) (fun x => by rw [ev_zeros]; omega)
  have eF : (List.replicate (p.length + 1 - q.length) [D.int 0]).flatten = (List.replicate (p.length + 1 - q.length) 0).map D.int := by simp
  rw [eF]
  simp only [List.length_append, List.length_cons, List.length_nil, List.append_assoc, List.cons_append, List.nil_append] at key ⊢
  exact key
end K01
namespace K01
open PySem PySem.Spec PyProof.Rows L2 Y M
theorem getD_some {p : List Int} {i : Nat} {c : Int} (h : i < p.length) (e : p.getD i 0 = c) : p[i]? = some c := by
  rw [List.getElem?_eq_getElem h, ← e]; simp [h]
/-- rest[shift + power] -= found[shift] * number, over q -/
theorem ex_inner {p q : List Int} {st : Sto} {J : Ob} {found : List Int} {s : Nat} {c : Int} {n : Nat} (hs : found[s]? = some c) (bq : BdL n q) (bc : Bd n c) (hn : n < 9000) {E : DEnds} {o5 : Option D} {T : Int → Int}
    (fin : ∀ (rest : List Int) (o6 o7 : Option D), rest.length = p.length → (∀ x, ev rest x = T x) → E.nx [some (tz p), some (tz q), some (.int (s : Int)), some (.ref st.length), some (.ref (st.length + 2)), o5, o6, o7] (st ++ [.lst (rest.map D.int), J, .lst (found.map D.int)])) :
    ∀ (r : List Int) (k : Nat) (rest : List Int) (o6 o7 : Option D), (∀ d ∈ r, d ∈ q) → rest.length = p.length → s + k + r.length ≤ p.length → (∀ x, ev rest x - c * x ^ (s + k) * ev r x = T x) →
      loopF (standS (tz q) (q.map D.int)) tg_exact_over_1 bd_exact_over_1 E (enmK k (r.map D.int)) [some (tz p), some (tz q), some (.int (s : Int)), some (.ref st.length), some (.ref (st.length + 2)), o5, o6, o7] (st ++ [.lst (rest.map D.int), J, .lst (found.map D.int)]) := by
  intro r
  induction r with
  | nil =>
    intro k rest o6 o7 _ hl _ hT
    refine ⟨by simp, fin rest o6 o7 hl fun x => ?_⟩
    rw [← hT x, ev_nil]; omega
  | cons d r ih =>
    intro k rest o6 o7 hm hl hk hT
    rw [List.length_cons] at hk
    obtain ⟨e, he⟩ : ∃ e, rest[s + k]? = some e := ⟨rest[s + k]'(by omega), List.getElem?_eq_getElem _⟩
    rw [List.map_cons, enmK_cons, loopF_cons]
    refine ⟨by simp, ?_⟩
    simp [tg_exact_over_1, bd_exact_over_1]
    have e1 : (s : Int) + (k : Int) = ((s + k : Nat) : Int) := by omega
    rw [e1]
    refine ⟨by omega, ?_⟩
    rw [Int.toNat_natCast, he]
    simp [-Int.natCast_add]
    rw [atI_mapN hs]
    simp [-Int.natCast_add]
    refine ⟨bc.mulOk (bq d (hm d (by simp))) (by omega) (by omega), ?_⟩
    rw [ixN_nat (by omega)]
    have e2 : (rest.map D.int).set (s + k) (.int (e - c * d)) = (rest.set (s + k) (e - c * d)).map D.int := by rw [List.map_set]
    simp only [e2]
    refine ih (k + 1) _ _ _ (fun z hz => hm z (List.mem_cons_of_mem _ hz)) (by simpa using hl) (by omega) fun x => ?_
    rw [ev_set he, ← hT x, ev_cons]
    have : x ^ (s + (k + 1)) = x ^ (s + k) * x := by rw [← Nat.add_assoc, Int.pow_succ]
    rw [this]; grind
theorem th_exact_over : Th 8 2 C_exact_over rd_exact_over := by
  intro ds st QD hl hw hlt ⟨p, q, r, n, e, tp, tq, nq, tr, lp, lq, hE, bq, br, hn, qd⟩
  subst e
  have hL : ((p.length : Int) - q.length + 1).toNat = r.length := by
    by_cases h : r = []
    · subst h
      have : p = [] := tr_ev0 tp fun x _ => by rw [hE x]; simp
      subst this
      have := List.length_pos_iff.mpr nq
      simp; omega
    · have := len_mul tq tr tp nq h fun x _ => hE x
      omega
  have hb0 := lead_ne tq nq
  have hbb := lead_bd bq nq
  have q0 := List.length_pos_iff.mpr nq
  have loop : ∀ (s : Nat) (rest : List Int) (J : Ob) (o2 o5 o6 o7 : Option D), s ≤ r.length → rest.length = p.length → (∀ x, ev rest x = ev q x * ev (r.take s) x) →
      loopF (fun _ => True) tg_exact_over_2 bd_exact_over_2 { nx := fRet (fIf (fNot (fTru (fFn gAnyI (fCons (fVar 3) fNil)))) (fCall 1 C_trimmed (fCons (fVar 4) fNil)) (fC .non)) { nx := fun _ st' => RetOk st QD .non st', rt := RetOk st QD }, rt := RetOk st QD }
        (rngD ((s : Int) - 1) s (-1)) [some (tz p), some (tz q), o2, some (.ref st.length), some (.ref (st.length + 2)), o5, o6, o7] (st ++ [.lst (rest.map D.int), J, .lst ((List.replicate s 0 ++ r.drop s).map D.int)]) := by
    intro s
    induction s with
    | zero =>
      intro rest J o2 o5 o6 o7 hs hl hev
      rw [rngD_zero]
      refine ⟨trivial, ?_⟩
      have hz : ∀ c ∈ rest, c = 0 := zero_of fun x _ => by rw [hev x]; simp
      simp
      refine ⟨rest, rfl, ?_⟩
      rw [if_neg (fun ⟨x, hx, h0⟩ => h0 (hz x hx))]
      refine ⟨st.length + 2, r, rfl, by simp, ?_⟩
      rw [trim_tr tr]
      exact ret_tz (List.prefix_append ..) hw qd
    | succ s ih =>
      intro rest J o2 o5 o6 o7 hs hl hev
      rw [rngD_succ, loopF_cons]
      refine ⟨trivial, ?_⟩
      have es : (((s + 1 : Nat) : Int) - 1) = (s : Int) := by omega
      rw [es]
      have hr : r[s]? = some (r[s]'(by omega)) := List.getElem?_eq_getElem _
      generalize r[s]'(by omega) = c at *
      have htake : r.take (s + 1) = r.take s ++ [c] := by rw [List.take_add_one, hr]; rfl
      have hpl : p.length + 1 = q.length + r.length := len_mul tq tr tp nq (fun z => by subst z; simp at hr) fun x _ => hE x
      have htop : rest[s + q.length - 1]? = some (lead q * c) := by
        refine getD_some (by omega) ?_
        rw [coef_eq (q := mulL q (r.take s ++ [c])) (fun x _ => by rw [hev x, ev_mulL, htake])]
        have := coef_top (q := q) (u := r.take s) (c := c) nq
        rw [List.length_take, Nat.min_eq_left (by omega)] at this
        exact this
      have bc : Bd n c := br c (List.mem_of_getElem? hr)
      simp [tg_exact_over_2, bd_exact_over_2]
      rw [atI_map (j := s + q.length - 1) (by omega) htop]
      simp
      rw [atI_lead nq]
      simp
      refine ⟨hb0, hbb.dvOk hb0 hn, ?_⟩
      rw [ixN_nat (by omega)]
      have ediv : (lead q * c).fdiv (lead q) = c := by
        rw [Int.mul_comm]
        exact Int.mul_fdiv_cancel _ hb0
      have efound : (List.replicate (s + 1) (D.int 0) ++ List.drop (s + 1) (r.map D.int)).set s (.int c) = (List.replicate s 0 ++ r.drop s).map D.int := by
        have h1 : r.drop s = c :: r.drop (s + 1) := by
          rw [List.drop_eq_getElem_cons (by omega)]
          rw [List.getElem?_eq_getElem (by omega)] at hr
          rw [Option.some.inj hr]
        rw [h1, List.replicate_succ', List.append_assoc, List.set_append_right _ _ (by simp)]
        simp [List.map_drop]
      have hfs : (List.replicate s 0 ++ r.drop s)[s]? = some c := by
        rw [List.getElem?_append_right (by simp)]
        simp [hr]
      rw [ediv]
      simp only [efound]
      rw [enmD_K]
      refine ex_inner hfs bq bc hn (T := fun x => ev q x * ev (r.take s) x) (fun rest2 o6 o7 hl2 hev2 => ?_) q 0 rest _ _ (fun d hd => hd) hl (by omega) (fun x => ?_)
      · exact ih rest2 J _ _ _ _ (by omega) hl2 hev2
      · rw [hev x, htake, ev_app, List.length_take, Nat.min_eq_left (by omega)]
        simp; grind
  rw [rd_exact_over, show startD 8 [tz p, tz q] = [some (tz p), some (tz q), none, none, none, none, none, none] from rfl]
  have eM : (if (p.length : Int) - q.length + 1 > 0 then (p.length : Int) - q.length + 1 else 0) = (r.length : Int) := by
    split <;> omega
  rw [fSeq_eq, fPar_eq, fCons_eq, fFn_eq, fCons_eq, fVar_zero, fNil_eq, gList_1, sqD_tup]
  dsimp only
  rw [fCons_eq, fBin_eq, fLst_eq, fCons_eq, fC_eq, fNil_eq]
  refine ⟨by decide, ?_⟩
  rw [fFn_eq, fCons_eq, fC_eq, fCons_eq, fBin_eq, fBin_eq]
  simp only [fFn_eq, fCons_eq, fVar_zero, fVar_succ, fNil_eq, gLen_1, sqD_tup, gSub_ii, gAdd_ii, fC_eq, gMax_ii, List.length_map]
  rw [eM, gMul_ri, get_app0, List.getElem?_cons_zero]
  dsimp only
  refine ⟨by omega, by rw [Int.toNat_natCast, List.length_singleton]; unfold lim; omega, by omega, ?_⟩
  simp only [fSeq_eq, fFor_eq, fRngN_eq, List.set_cons_succ, List.set_cons_zero, fCons_eq, fNil_eq, fBin_eq, fFn_eq, fVar_zero, fVar_succ, gLen_1, sqD_tup, gSub_ii, fUn_eq, fC_eq, gNeg_i, List.length_map]
  refine ⟨⟨⟨by omega, by omega⟩, by unfold bigI; omega⟩, ?_⟩
  have eR : rngD ((p.length : Int) - q.length) ((p.length : Int) - q.length - -1).toNat (-1) = rngD ((r.length : Int) - 1) r.length (-1) := by
    have e1 : ((p.length : Int) - q.length - -1).toNat = r.length := by omega
    rw [e1]
    by_cases h : r.length = 0
    · rw [h, rngD_zero, rngD_zero]
    · congr 1; omega
  rw [eR]
  have key := loop r.length p (.lst [.int 0]) none none none none (Nat.le_refl _) rfl (fun x => by rw [List.take_length]; exact hE x)
  have eF : (List.replicate r.length [D.int 0]).flatten = (List.replicate r.length 0 ++ r.drop r.length).map D.int := by simp
  rw [Int.toNat_natCast, eF]
  simp only [List.length_append, List.length_cons, List.length_nil, List.append_assoc, List.cons_append, List.nil_append] at key ⊢
  exact key
end K01
namespace K01
open PySem PySem.Spec PyProof.Rows L2 Y M
theorem th_scaled_value : Th 5 2 C_scaled_value rd_scaled_value := by
  intro ds st QD hl hw hlt ⟨p, q, n, m, e, bp, bq, hn, qd⟩
  subst e
  have dn : (q.den : Int) ≠ 0 := by have := q.den_nz; omega
  have dp : 0 < (q.den : Int) := by have := q.den_pos; omega
  have loop : ∀ (r s : List Int) (A B : Int) (o2 : Option D), p = r.reverse ++ s → B = (q.den : Int) ^ s.length → Bd (n + 1 + s.length * (m + 1)) A → Bd (s.length * m + 1) B → (A : Rat) * (q.den : Int) = evR s q * B →
      loopF (standS (tz p) (p.map D.int)) tg_scaled_value_1 bd_scaled_value_1 { nx := fRet (fTup (fCons (fVar 3) (fCons (fIf (fTru (fVar 0)) (fBin gDiv (fVar 4) (fBin gIx (fVar 1) (fC (.int 1)))) (fC (.int 1))) fNil))) { nx := fun _ st' => RetOk st QD .non st', rt := RetOk st QD }, rt := RetOk st QD }
        (r.map D.int) [some (tz p), some (tR q), o2, some (.int A), some (.int B)] st := by
    intro r
    induction r with
    | nil =>
      intro s A B o2 hp hB bA bB hE
      rw [List.reverse_nil, List.nil_append] at hp
      subst hp
      refine ⟨by simp, ?_⟩
      simp
      by_cases h : p = []
      · subst h
        simp
        have hA : A = 0 := by
          have h1 : (A : Rat) * (q.den : Int) = 0 := by rw [hE]; simp only [evR_nil]; grind
          have h2 : ((q.den : Int) : Rat) ≠ 0 := by exact_mod_cast dn
          have h3 := (Rat.mul_eq_zero.mp h1).resolve_right h2
          exact_mod_cast h3
        subst hA
        refine RetOk.pure (List.prefix_refl _) hw ⟨trivial, trivial, trivial⟩ (qd 0 1 (by decide) bA ?_ (by simp))
        exact (Bd.le (i := 1) (j := 1) (n := 1) (by unfold Bd; decide) (by simp)).mono (by omega)
      · rw [if_neg h]
        obtain ⟨k, hk⟩ : ∃ k, p.length = k + 1 := ⟨p.length - 1, by have := List.length_pos_iff.mpr h; omega⟩
        rw [hk, Int.pow_succ] at hB
        have hdv : B.fdiv (q.den : Int) = (q.den : Int) ^ k := by rw [hB]; exact Int.mul_fdiv_cancel _ dn
        refine ⟨bq.2.dvOk dn (by have : m + 1 ≤ p.length * (m + 1) := Nat.le_mul_of_pos_left _ (by omega); omega), ?_⟩
        rw [hdv]
        have hpow : 0 < (q.den : Int) ^ k := Int.pow_pos dp
        refine RetOk.pure (List.prefix_refl _) hw ⟨trivial, trivial, trivial⟩ (qd A _ hpow bA ?_ (horner_end (by omega) (by rw [hE, hB])))
        have : p.length * m + 1 ≤ p.length * (m + 1) := by rw [Nat.mul_add]; omega
        refine (bB.mono (by omega)).le ?_
        rw [hB, Int.natAbs_mul]
        exact Nat.le_mul_of_pos_right _ (by omega)
    | cons c r ih =>
      intro s A B o2 hp hB bA bB hE
      rw [List.map_cons, loopF_cons]
      refine ⟨by simp, ?_⟩
      simp [tg_scaled_value_1, bd_scaled_value_1]
      have bc : Bd n c := bp c (by rw [hp]; simp)
      have hlen : p.length = r.length + 1 + s.length := by rw [hp]; simp; omega
      have h1 : (s.length + 1) * (m + 1) ≤ p.length * (m + 1) := Nat.mul_le_mul_right _ (by omega)
      have h2 : (s.length + 1) * (m + 1) = s.length * (m + 1) + m + 1 := by rw [Nat.add_mul]; omega
      have h3 : s.length * (m + 1) = s.length * m + s.length := by rw [Nat.mul_add]; omega
      have h4 : (s.length + 1) * m = s.length * m + m := by rw [Nat.add_mul]; omega
      refine ⟨bA.mulOk bq.1 (by omega) (by omega), bc.mulOk bB (by omega) (by omega), bB.mulOk bq.2 (by omega) (by omega), ?_⟩
      refine ih (c :: s) _ _ _ (by rw [hp]; simp) (by rw [hB, List.length_cons, Int.pow_succ]) ?_ ?_ (by rw [evR_cons]; exact horner hE)
      · rw [List.length_cons]
        exact (Bd.add (n := n + 1 + s.length * (m + 1) + m) (bA.mul bq.1) ((bc.mul bB).mono (by omega))).mono (by omega)
      · rw [List.length_cons]; exact (bB.mul bq.2).mono (by omega)
  simp [rd_scaled_value, startD]
  rw [← List.map_reverse]
  refine loop p.reverse [] 0 1 none (by simp) (by simp) Bd.zero (by unfold Bd; simp) ?_
  simp only [evR_nil]; grind
theorem th_value_at : Th 4 2 C_value_at rd_value_at := by
  intro ds st QD hl hw hlt ⟨p, q, n, m, e, bp, bq, hn, qd⟩
  subst e
  simp [rd_value_at, startD]
  refine ⟨p, q, n, m, rfl, bp, bq, hn, fun A B hB bA bB hE => ?_⟩
  simp
  refine ⟨A, B, _, rfl, by omega, bB, hn, ?_⟩
  rw [hE]
  exact ret_tR (List.prefix_refl _) hw qd
end K01
namespace K01
open PySem PySem.Spec PyProof.Rows L2 Y M
theorem bd_unscale {n : Nat} {k : Int} {r : List Int} (hk : k ≠ 0) (h : BdL n (r.map (k * ·))) : BdL n r := fun c hc => by
  refine (h (k * c) (List.mem_map.mpr ⟨c, hc, rfl⟩)).le ?_
  rw [Int.natAbs_mul]
  exact Nat.le_mul_of_pos_left _ (by omega)
theorem ev_map {k x : Int} {r : List Int} : ev (r.map (k * ·)) x = k * ev r x := ev_scale
theorem pp_one {g : List Int} (h : PP g) (hl : ¬ 1 < g.length) : g = [1] := by
  cases g with
  | nil => exact absurd rfl h.ne
  | cons a l =>
    have : l = [] := by cases l with
      | nil => rfl
      | cons _ _ => simp at hl
    subst this
    have h1 := h.pr
    have h2 := h.pos
    simp [gcdL, lead] at h1 h2
    congr 1; omega
/-- the primitive part's promise, used -/
theorem use_prim {p : List Int} {n : Nat} {st : Sto} {Q : D → Sto → Prop} (tp : Tr p) (hl : p.length ≤ 1000) (hb : BdL n p) (hn : n < 9000) (h : ∀ r : List Int, (r = [] ∧ p = []) ∨ (PP r ∧ ∃ k : Int, k ≠ 0 ∧ p = r.map (k * ·)) → BdL n r → r.length = p.length → Q (tz r) st) : C_primitive [tz p] st Q := by
  refine ⟨p, n, rfl, hl, hb, hn, ?_⟩
  by_cases e : p = []
  · subst e
    exact .inl ⟨rfl, h [] (.inl ⟨rfl, rfl⟩) hb rfl⟩
  · obtain ⟨r, k, h1, h2, _, _, h3⟩ := pp_of tp e
    refine .inr ⟨r, k, h1, h2, h3, h r (.inr ⟨h1, k, h2, h3⟩) (bd_unscale h2 (h3 ▸ hb)) ?_⟩
    rw [h3]; simp
theorem th_common : Th 4 2 C_common rd_common := by
  intro ds st QD hl hw hlt ⟨p, q, g, n, e, tp, tq, hg, hgd, bp, bq, lp, lq, hn, qd⟩
  subst e
  have loop : ∀ (k : Nat) (one other : List Int) (B : Nat), PP one → (other = [] ∨ PP other) → other.length ≤ one.length → one.length ≤ 5 → other.length ≤ k → ((other.length < one.length ∧ (B + 2) * 3 ^ one.length ≤ 22842) ∨ B ≤ 45) → BdL B one → BdL B other → Gd g one other →
      loopW cd_common_1 bd_common_1 { nx := fRet (fIf (fTest (fBin gGt (fFn gLen (fCons (fVar 2) fNil)) (fC (.int 1)))) (fVar 2) (fTup (fCons (fC (.int 1)) fNil))) { nx := fun _ st' => RetOk st QD .non st', rt := RetOk st QD }, rt := RetOk st QD } (k + 1)
        [some (tz p), some (tz q), some (tz one), some (tz other)] st := by
    intro k
    induction k with
    | zero =>
      intro one other B h1 h2 h3 h4 h5 h6 b1 b2 h7
      have : other = [] := List.length_eq_zero_iff.mp (by omega)
      subst this
      have := h7.done hg h1
      subst this
      rw [loopW_succ]
      simp [cd_common_1]
      by_cases hL : 1 < one.length
      · rw [if_pos (by omega)]; exact ret_tz (List.prefix_refl _) hw qd
      · rw [if_neg (by omega)]
        have := pp_one h1 hL
        subst this
        exact ret_tz (p := [1]) (List.prefix_refl _) hw qd
    | succ k ih =>
      intro one other B h1 h2 h3 h4 h5 h6 b1 b2 h7
      rw [loopW_succ]
      simp [cd_common_1]
      rcases h2 with h2 | h2
      · subst h2
        have := h7.done hg h1
        subst this
        simp
        by_cases hL : 1 < one.length
        · rw [if_pos (by omega)]; exact ret_tz (List.prefix_refl _) hw qd
        · rw [if_neg (by omega)]
          have := pp_one h1 hL
          subst this
          exact ret_tz (p := [1]) (List.prefix_refl _) hw qd
      · rw [if_neg h2.ne]
        simp [bd_common_1]
        have l0 := List.length_pos_iff.mpr h2.ne
        have hb : B + (one.length + 1 - other.length) * (B + 1) < 9000 ∧ (B + (one.length + 1 - other.length) * (B + 1) + 2) * 3 ^ other.length ≤ 22842 := by
          generalize one.length = a at *
          generalize other.length = b at *
          have ha : a = 1 ∨ a = 2 ∨ a = 3 ∨ a = 4 ∨ a = 5 := by omega
          have hb : b = 1 ∨ b = 2 ∨ b = 3 ∨ b = 4 ∨ b = 5 := by omega
          rcases ha with rfl | rfl | rfl | rfl | rfl <;> rcases hb with rfl | rfl | rfl | rfl | rfl <;> simp at h3 h6 ⊢ <;> omega
        refine ⟨one, other, B, rfl, h1.tr, h2.tr, h2.ne, by omega, h3, b1, b2, hb.1, fun m quo r hm tr hr hE br => ?_⟩
        simp
        refine use_prim tr (by omega) br hb.1 fun r' hr' br' hl' => ?_
        refine ih other r' _ h2 (hr'.imp (·.1) (·.1)) (by omega) (by omega) (by omega) (.inl ⟨by omega, hb.2⟩) (fun c hc => (b2 c hc).mono (by omega)) br' ?_
        have h8 := h7.step hm hE
        rcases hr' with ⟨h9, h10⟩ | ⟨_, k, hk, h10⟩
        · rw [h9]; rw [h10] at h8; exact h8
        · exact h8.unscaleR hk fun x => by rw [h10, ev_scale]
  simp [rd_common, startD]
  refine use_prim tp (by omega) bp (by omega) fun one h1 b1 l1 => ?_
  refine use_prim tq (by omega) bq (by omega) fun other h2 b2 l2 => ?_
  have hgd1 : Gd g one q := by
    rcases h1 with ⟨h9, h10⟩ | ⟨_, k, hk, h10⟩
    · rw [h9]; rw [h10] at hgd; exact hgd
    · exact hgd.unscaleL hk fun x => by rw [h10, ev_scale]
  have hgd2 : Gd g one other := by
    rcases h2 with ⟨h9, h10⟩ | ⟨_, k, hk, h10⟩
    · rw [h9]; rw [h10] at hgd1; exact hgd1
    · exact hgd1.unscaleR hk fun x => by rw [h10, ev_scale]
  have nn : ¬ (one = [] ∧ other = []) := fun ⟨z1, z2⟩ => by
    subst z1; subst z2
    obtain ⟨c, u, v, hc, hE⟩ := hgd2.b
    refine hg.ne (tr_ev0 hg.tr fun x _ => ?_)
    have := hE x
    simp at this
    exact (Int.mul_eq_zero.mp this.symm).resolve_left hc
  simp
  by_cases hc : one.length < other.length
  · rw [if_pos hc]
    have ho : PP other := h2.resolve_left (fun z => by rw [z.1] at hc; simp at hc) |>.1
    exact ⟨_, loop one.length other one n ho (h1.imp (·.1) (·.1)) (by omega) (by omega) (Nat.le_refl _) (.inr hn) b2 b1 hgd2.symm⟩
  · rw [if_neg hc]
    have ho : PP one := h1.resolve_left (fun z => nn ⟨z.1, by
      have : one.length = 0 := by rw [z.1]; rfl
      exact List.length_eq_zero_iff.mp (by omega)⟩) |>.1
    exact ⟨_, loop other.length one other n ho (h2.imp (·.1) (·.1)) (by omega) (by omega) (Nat.le_refl _) (.inr hn) b1 b2 hgd2⟩
end K01
namespace K01
open PySem PySem.Spec PyProof.Rows L2 Y M
theorem Ln.pp {a b : Int} (h : Ln a b) : PP [a, b] := PP.linear h.g h.p
theorem Ln.bd {a b : Int} (h : Ln a b) : BdL 7 [a, b] := fun c hc => by
  simp at hc
  rcases hc with rfl | rfl
  · exact h.sa
  · exact h.sb
theorem th_square_free : Th 9 1 C_square_free rd_square_free := by
  intro ds st QD hl hw hlt ⟨a0, b0, a1, b1, a2, b2, k, p, r, l, e, l0, l1, l2, h01, h02, h12, hk, bk, tr, tl, hp, er, el, qd⟩
  subst e
  have hb0 : b0 ≠ 0 := by have := l0.p; omega
  have sf := sf_mk h01 h02 h12 hb0 (by have := l1.p; omega) (by have := l2.p; omega) er el
  have eL : l = mulL [a1, b1] [a2, b2] := ev_inj tl (tr_mul l1.pp.tr l2.pp.tr l2.pp.ne) fun x _ => by rw [el, ev_mulL, ev_lin, ev_lin]
  have bl : BdL 16 l := by rw [eL]; exact bd_mulL l1.bd l2.bd
  have pl : PP l := PP.lin l2.pp l1.g l1.p tl fun x _ => by rw [el, ev_lin]
  have ll : l.length = 3 := by
    have := len_mul l1.pp.tr l2.pp.tr tl l1.pp.ne l2.pp.ne fun x _ => by rw [el, ev_lin, ev_lin]
    simp at this; omega
  have bR : BdL 25 (trim (mulL [a0, b0] l)) := fun c hc => bd_mulL l0.bd bl c (mem_trim hc)
  have bw : BdL 40 (trim (addL (l.map (2 * b0 * ·)) (mulL [a0, b0] (slopeL l)))) := fun c hc => by
    refine (bd_addL (n := 28) (fun c hc => ?_) (fun c hc => ?_) c (mem_trim hc)).mono (by omega)
    · exact (bd_map bl (m := 9) (Bd.mul (n := 2) (by unfold Bd; decide) l0.sb) c hc).mono (by omega)
    · exact (bd_mulL l0.bd (bd_slope (by omega) bl) c hc).mono (by simp)
  have lw : (trim (addL (l.map (2 * b0 * ·)) (mulL [a0, b0] (slopeL l)))).length ≤ 10 := by
    refine Nat.le_trans len_trim ?_
    have h1 : (slopeL l).length = 2 := by simp [slopeL, ll]
    obtain ⟨s1, s2, hs⟩ : ∃ s1 s2, slopeL l = [s1, s2] := by
      match h : slopeL l, h1 with
      | [s1, s2], _ => exact ⟨s1, s2, rfl⟩
    rw [len_addL, hs]
    simp [ll, mulL, addL]
  generalize trim (mulL [a0, b0] l) = R at *
  generalize trim (addL (l.map (2 * b0 * ·)) (mulL [a0, b0] (slopeL l))) = w at *
  have pR : PP R := pl.lin l0.g l0.p sf.tR fun x _ => sf.eR x
  have pr : PP r := pR.lin l0.g l0.p tr fun x _ => sf.er x
  have lR : R.length = 4 := by
    have := len_mul l0.pp.tr tl sf.tR l0.pp.ne pl.ne fun x _ => by rw [sf.eR, ev_lin]
    simp at this; omega
  have lr : r.length = 5 := by
    have := len_mul l0.pp.tr sf.tR tr l0.pp.ne pR.ne fun x _ => by rw [sf.er, ev_lin]
    simp at this; omega
  have eR2 : r = mulL [a0, b0] R := ev_inj tr (tr_mul l0.pp.tr sf.tR pR.ne) fun x _ => by rw [sf.er, ev_mulL, ev_lin]
  have br : BdL 34 r := by rw [eR2]; exact fun c hc => (bd_mulL l0.bd bR c hc).mono (by simp)
  have bs : BdL 37 (slopeL r) := bd_slope (by omega) br
  have ls : (slopeL r).length = 4 := by simp [slopeL, lr]
  have bp : BdL 42 p := by rw [hp]; exact bd_map br bk
  have lp : p.length = 5 := by rw [hp]; simpa using lr
  have tp : Tr p := by rw [hp]; exact tr_scale hk tr
  simp [rd_square_free, startD]
  refine ⟨p, 42, rfl, by omega, bp, by omega, .inr ⟨r, k, pr, hk, hp, ?_⟩⟩
  simp
  refine ⟨r, rfl, by omega, ?_⟩
  refine ⟨r, slopeL r, [a0, b0], 40, rfl, tr, tr_slope tr, l0.pp, Gd.of (fun x => by rw [sf.er, ev_lin]) (fun x => by rw [sf.es, ev_lin]) sf.cop, fun c hc => (br c hc).mono (by omega), fun c hc => (bs c hc).mono (by omega), by omega, by omega, by omega, ?_⟩
  simp
  refine ⟨r, [a0, b0], R, 40, rfl, tr, l0.pp.tr, l0.pp.ne, sf.tR, by omega, by simp, fun x => by rw [sf.er, ev_lin], fun c hc => (l0.bd c hc).mono (by omega), fun c hc => (bR c hc).mono (by omega), by omega, ?_⟩
  refine ⟨r, rfl, by omega, ?_⟩
  refine ⟨slopeL r, [a0, b0], w, 40, rfl, tr_slope tr, l0.pp.tr, l0.pp.ne, sf.tw, by omega, by simp, fun x => by rw [sf.es, ev_lin], fun c hc => (l0.bd c hc).mono (by omega), bw, by omega, ?_⟩
  simp
  refine ⟨3, ?_⟩
  rw [loopW_succ]
  simp [cd_square_free_1, lR]
  have lsR : (slopeL R).length = 3 := by simp [slopeL, lR]
  have bsR : BdL 28 (slopeL R) := bd_slope (by omega) bR
  have egap : trim (addL w ((slopeL R).map (-1 * ·))) = l.map (b0 * ·) := trim_eq (tr_scale hb0 tl) fun x _ => by rw [ev_addL, ev_scale, ev_scale, ← sf.gap x]; omega
  have bgap : BdL 23 (l.map (b0 * ·)) := bd_map bl l0.sb
  have b1' : BdL 40 [1] := fun c hc => by simp at hc; subst hc; unfold Bd; decide
  have tb0 : Tr [b0] := by simpa [Tr] using hb0
  have bb0 : BdL 40 [b0] := fun c hc => by simp at hc; subst hc; exact l0.sb.mono (by omega)
  simp [bd_square_free_1]
  refine ⟨R, rfl, by omega, ?_⟩
  refine ⟨w, slopeL R, rfl, by omega, ?_⟩
  rw [egap]
  simp [-List.map_map]
  refine ⟨R, l.map (b0 * ·), l, 40, rfl, sf.tR, tr_scale hb0 tl, pl, Gd.of (a := [a0, b0]) (b := [b0]) (fun x => by rw [sf.eR, ev_lin, Int.mul_comm]) (fun x => by rw [ev_scale]; simp [Int.mul_comm]) ((Cop.const (k := b0) hb0).congr (fun _ => rfl) fun x => by simp), fun c hc => (bR c hc).mono (by omega), fun c hc => (bgap c hc).mono (by omega), by omega, by simp [ll], by omega, ?_⟩
  simp [ll, lim, -List.map_map]
  refine ⟨R, l, [a0, b0], 40, rfl, sf.tR, tl, pl.ne, l0.pp.tr, by omega, by omega, fun x => by rw [sf.eR, ev_lin, Int.mul_comm], fun c hc => (bl c hc).mono (by omega), fun c hc => (l0.bd c hc).mono (by omega), by omega, ?_⟩
  refine ⟨l.map (b0 * ·), l, [b0], 40, rfl, tr_scale hb0 tl, tl, pl.ne, tb0, by simp [ll], by omega, fun x => by rw [ev_scale]; simp [Int.mul_comm], fun c hc => (bl c hc).mono (by omega), bb0, by omega, ?_⟩
  show loopW cd_square_free_1 bd_square_free_1 _ 2 _ _
  rw [loopW_succ]
  simp [cd_square_free_1, bd_square_free_1]
  refine ⟨[a0, b0], rfl, by simp, ?_⟩
  have esl : slopeL [a0, b0] = [b0] := by simp [slopeL]
  have b00 : BdL 40 [a0, b0] := fun c hc => (l0.bd c hc).mono (by omega)
  have bnil : BdL 40 [] := fun c hc => by simp at hc
  rw [esl]
  refine ⟨[b0], [b0], rfl, by simp, ?_⟩
  have ez : trim (addL [b0] ([b0].map (-1 * ·))) = [] := by simp [addL, trim]; omega
  rw [ez]
  dsimp only
  refine ⟨[a0, b0], [], [a0, b0], 40, rfl, l0.pp.tr, Tr.nil, l0.pp, Gd.left, b00, bnil, by simp, by simp, by omega, ?_⟩
  simp [lim]
  refine ⟨[a0, b0], [a0, b0], [1], 40, rfl, l0.pp.tr, l0.pp.tr, l0.pp.ne, by simp [Tr], by simp, by simp, fun x => by simp, b00, b1', by omega, ?_⟩
  refine ⟨[], [a0, b0], [], 40, rfl, Tr.nil, l0.pp.tr, l0.pp.ne, Tr.nil, by simp, by simp, fun x => by simp, b00, bnil, by omega, ?_⟩
  show loopW cd_square_free_1 bd_square_free_1 _ 1 _ _
  rw [loopW_succ]
  simp [cd_square_free_1]
  refine RetOk.pure (List.prefix_append ..) hw ⟨⟨lt_ints, trivial, trivial⟩, ⟨⟨trivial, trivial, trivial⟩, trivial, trivial⟩, trivial⟩ qd
end K01
namespace K01
open PySem PySem.Spec PyProof.Rows L2 Y M
theorem gcd_step {a b : Nat} : Nat.gcd b (a % b) = Nat.gcd a b := by
  rw [Nat.gcd_comm a b, Nat.gcd_rec b a, Nat.gcd_comm]
theorem th_law_gcd : Th 3 2 C_law_gcd rd_law_gcd := by
  intro ds st QD hl hw hlt ⟨a, b, n, e, ba, bb, hn, qd⟩
  subst e
  simp [rd_law_gcd, startD]
  refine ⟨by unfold bigI; decide, ?_⟩
  have loop : ∀ (m : Nat) (lo : Int) (x y N : Nat) (o : Option D), x * y < 2 ^ m → y ≤ x → m + 1 ≤ N → Nat.gcd x y = Nat.gcd a.natAbs b.natAbs →
      loopF (fun _ => True) tg_law_gcd_1 bd_law_gcd_1 { nx := fRet (fVar 0) { nx := fun _ st' => RetOk st QD .non st', rt := RetOk st QD }, rt := RetOk st QD } (rngD lo N 1) [some (.int (x : Int)), some (.int (y : Int)), o] st := by
    intro m
    induction m with
    | zero =>
      intro lo x y N o hxy hle hN hg
      obtain ⟨N, rfl⟩ : ∃ k, N = k + 1 := ⟨N - 1, by omega⟩
      have hy : y = 0 := by
        by_cases hy : y = 0
        · exact hy
        · have : 1 ≤ x * y := Nat.mul_pos (by omega) (by omega)
          omega
      subst hy
      rw [rngD_succ, loopF_cons]
      refine ⟨trivial, ?_⟩
      simp [tg_law_gcd_1, bd_law_gcd_1]
      rw [Nat.gcd_zero_right] at hg
      rw [hg]
      exact ret_int (List.prefix_refl _) hw qd
    | succ m ih =>
      intro lo x y N o hxy hle hN hg
      obtain ⟨N, rfl⟩ : ∃ k, N = k + 1 := ⟨N - 1, by omega⟩
      rw [rngD_succ, loopF_cons]
      refine ⟨trivial, ?_⟩
      simp [tg_law_gcd_1, bd_law_gcd_1]
      by_cases hy : y = 0
      · rw [if_pos hy]
        subst hy
        rw [Nat.gcd_zero_right] at hg
        rw [hg]
        exact ret_int (List.prefix_refl _) hw qd
      · rw [if_neg hy]
        refine ⟨hy, ?_⟩
        have e1 : (x : Int).fmod (y : Int) = ((x % y : Nat) : Int) := by
          rw [Int.fmod_eq_emod_of_nonneg _ (by omega)]; rfl
        rw [e1]
        refine ih (lo + 1) y (x % y) N _ ?_ (Nat.le_of_lt (Nat.mod_lt _ (by omega))) (by omega) (by rw [gcd_step]; exact hg)
        have h1 := Nat.mod_add_div x y
        have h2 : 1 ≤ x / y := Nat.div_pos hle (by omega)
        have h3 := Nat.mod_lt x (show y > 0 by omega)
        have h4 : 2 * (x % y) ≤ x := by
          have : y * 1 ≤ y * (x / y) := Nat.mul_le_mul_left _ h2
          omega
        have h5 : 2 * (y * (x % y)) ≤ x * y := by
          calc 2 * (y * (x % y)) = y * (2 * (x % y)) := by rw [Nat.mul_left_comm]
            _ ≤ y * x := Nat.mul_le_mul_left _ h4
            _ = x * y := Nat.mul_comm ..
        rw [Nat.pow_succ] at hxy
        omega
  have ea : ∀ z : Int, (if z < 0 then -z else z) = ((z.natAbs : Nat) : Int) := fun z => by split <;> omega
  rw [ea, ea]
  unfold Bd at ba bb
  have hpow : ∀ {x y : Nat}, x < 2 ^ n → y < 2 ^ n → x * y < 2 ^ (n + n) := fun hx hy => by rw [Nat.pow_add]; exact Nat.mul_lt_mul'' hx hy
  by_cases h : b.natAbs ≤ a.natAbs
  · exact loop (n + n) 0 a.natAbs b.natAbs 40000 none (hpow ba bb) h (by omega) rfl
  · rw [show (40000 : Nat) = 39999 + 1 from rfl, rngD_succ, loopF_cons]
    refine ⟨trivial, ?_⟩
    simp [tg_law_gcd_1, bd_law_gcd_1]
    have hb : b ≠ 0 := by omega
    rw [if_neg hb]
    refine ⟨hb, ?_⟩
    have e1 : (a.natAbs : Int).fmod (b.natAbs : Int) = (a.natAbs : Int) := by
      rw [Int.fmod_eq_emod_of_nonneg _ (by omega), Int.emod_eq_of_lt (by omega) (by omega)]
    have key := loop (n + n) (0 + 1) b.natAbs a.natAbs 39999 (some (.int 0)) (hpow bb ba) (by omega) (by omega) (by rw [Nat.gcd_comm])
    rw [e1]
    exact key
theorem th_law_fr : Th 3 2 C_law_fr rd_law_fr := by
  intro ds st QD hl hw hlt ⟨a, b, n, e, hb, ba, bb, hn, qd⟩
  subst e
  simp [rd_law_fr, startD]
  by_cases h : b < 0
  · rw [if_pos h]
    refine ⟨-a, -b, n, rfl, ba.neg, bb.neg, by omega, ?_⟩
    simp
    obtain ⟨g1, g2⟩ := gcd_bd (a := a) bb hb
    obtain ⟨e1, e2⟩ := @fr_pos (-a) (-b) (by omega)
    rw [Int.natAbs_neg, Int.natAbs_neg, Rat.neg_divInt_neg] at e1 e2
    refine ⟨g1.dvOk g2 hn, ?_⟩
    rw [e1, e2]
    exact ret_tR (List.prefix_refl _) hw qd
  · rw [if_neg h]
    refine ⟨a, b, n, rfl, ba, bb, by omega, ?_⟩
    simp
    obtain ⟨g1, g2⟩ := gcd_bd (a := a) bb hb
    obtain ⟨e1, e2⟩ := @fr_pos a b (by omega)
    refine ⟨g1.dvOk g2 hn, ?_⟩
    rw [e1, e2]
    exact ret_tR (List.prefix_refl _) hw qd
theorem den_ne (q : Rat) : (q.den : Int) ≠ 0 := by have := q.den_nz; omega
theorem th_law_add : Th 2 2 C_law_add rd_law_add := by
  intro ds st QD hl hw hlt ⟨p, q, n, m, e, bp, bq, hn, qd⟩
  subst e
  simp [rd_law_add, startD]
  refine ⟨bp.1.mulOk bq.2 (by omega) (by omega), bq.1.mulOk bp.2 (by omega) (by omega), bp.2.mulOk bq.2 (by omega) (by omega), ?_⟩
  refine ⟨_, _, n + m + 1, rfl, Int.mul_ne_zero (den_ne p) (den_ne q), (bp.1.mul bq.2).add (by rw [Nat.add_comm]; exact bq.1.mul bp.2), (bp.2.mul bq.2).mono (by omega), hn, ?_⟩
  have : Rat.divInt (p.num * q.den + q.num * p.den) ((p.den : Int) * q.den) = p + q := by
    rw [Rat.add_def', ← Rat.divInt_ofNat, Int.natCast_mul]
  rw [this]
  exact ret_tR (List.prefix_refl _) hw qd
theorem th_law_mul : Th 2 2 C_law_mul rd_law_mul := by
  intro ds st QD hl hw hlt ⟨p, q, n, m, e, bp, bq, hn, qd⟩
  subst e
  simp [rd_law_mul, startD]
  refine ⟨bp.1.mulOk bq.1 (by omega) (by omega), bp.2.mulOk bq.2 (by omega) (by omega), ?_⟩
  refine ⟨_, _, n + m, rfl, Int.mul_ne_zero (den_ne p) (den_ne q), bp.1.mul bq.1, bp.2.mul bq.2, hn, ?_⟩
  have : Rat.divInt (p.num * q.num) ((p.den : Int) * q.den) = p * q := by
    rw [Rat.mul_def', ← Rat.divInt_ofNat, Int.natCast_mul]
  rw [this]
  exact ret_tR (List.prefix_refl _) hw qd
end K01
namespace K01
open PySem PySem.Spec PyProof.Rows L2 Y M
theorem th_law_trim : Th 3 1 C_law_trim rd_law_trim := by
  intro ds st QD hl hw hlt ⟨d, p, e, hd, hp, qd⟩
  subst e
  have fin : RetOk st QD (tz (trim p)) st ∧ ∀ o, RetOk st QD (tz (trim p)) (st ++ [o]) := ⟨ret_tz (List.prefix_refl _) hw qd, fun o => ret_tz (List.prefix_append ..) hw qd⟩
  have loop : ∀ (j : Nat) (lo : Int) (o : Option D), (trim p).length + j ≤ p.length → loopF (fun _ => True) tg_law_trim_1 bd_law_trim_1 { nx := fRet (fFn gTuple (fCons (fSl (fVar 0) fNoP (fPart (fVar 1))) fNil)) { nx := fun _ st' => RetOk st QD .non st', rt := RetOk st QD }, rt := RetOk st QD }
      (rngD lo ((trim p).length + j) 1) [some d, some (.int ((trim p).length + j : Nat)), o] st := by
    have cut : fRet (fFn gTuple (fCons (fSl (fVar 0) fNoP (fPart (fVar 1))) fNil)) { nx := fun _ st' => RetOk st QD .non st', rt := RetOk st QD } [some d, some (.int ((trim p).length : Nat)), none] st ∧ ∀ o, fRet (fFn gTuple (fCons (fSl (fVar 0) fNoP (fPart (fVar 1))) fNil)) { nx := fun _ st' => RetOk st QD .non st', rt := RetOk st QD } [some d, some (.int ((trim p).length : Nat)), o] st := by
      have gen : ∀ o, fRet (fFn gTuple (fCons (fSl (fVar 0) fNoP (fPart (fVar 1))) fNil)) { nx := fun _ st' => RetOk st QD .non st', rt := RetOk st QD } [some d, some (.int ((trim p).length : Nat)), o] st := by
        intro o
        simp
        cases d with
        | tup xs =>
          rw [sqD_tup] at hd
          cases hd
          simp
          rw [cut_hi', trim_take]
          exact fin.1
        | ref m =>
          rw [sqD_ref] at hd
          simp [hd]
          rw [cut_hi', trim_take]
          exact fin.2 _
        | _ => cases hd
      exact ⟨gen none, gen⟩
    intro j
    induction j with
    | zero =>
      intro lo o hj
      by_cases h : trim p = []
      · rw [h]
        refine ⟨trivial, ?_⟩
        have := cut.2 o
        rw [h] at this
        exact this
      · obtain ⟨c, hc, h2⟩ := trim_end h
        have h0 : 0 < (trim p).length := List.length_pos_iff.mpr h
        obtain ⟨k, hk⟩ : ∃ k, (trim p).length = k + 1 := ⟨(trim p).length - 1, by omega⟩
        rw [Nat.add_zero, hk, rngD_succ, loopF_cons, ← hk]
        refine ⟨trivial, ?_⟩
        simp [tg_law_trim_1, bd_law_trim_1]
        rw [hd]
        simp
        rw [atI_map (by omega) h2]
        simp [hc]
        have h9 := cut.2 (some (D.int lo))
        simp at h9
        exact h9
    | succ j ih =>
      intro lo o hj
      rw [← Nat.add_assoc, rngD_succ, loopF_cons]
      refine ⟨trivial, ?_⟩
      simp [tg_law_trim_1, bd_law_trim_1]
      rw [hd]
      simp
      rw [atI_map (j := (trim p).length + j) (by omega) (trim_at (by omega) (by omega))]
      simp
      have := ih (lo + 1) (some (.int lo)) (by omega)
      have e : ((trim p).length : Int) + (j : Int) = (((trim p).length + j : Nat) : Int) := by omega
      rw [e]
      exact this
  simp [rd_law_trim, startD]
  rw [hd]
  simp
  refine ⟨by unfold bigI; omega, ?_⟩
  have h1 : (trim p).length + (p.length - (trim p).length) = p.length := by have := @len_trim p; omega
  have := loop (p.length - (trim p).length) 0 none (by omega)
  rw [h1] at this
  exact this
theorem th_law_pscale : Th 3 2 C_law_pscale rd_law_pscale := by
  intro ds st QD hl hw hlt ⟨p, k, e, hp, hk, qd⟩
  subst e
  simp [rd_law_pscale, startD]
  refine loopC_ints (k * ·) p (by unfold lim; omega) (fun _ => by simp) (fun c hc acc R hR => ?_) ?_
  · simp [wipeD]
    exact ⟨hk c hc, hR⟩
  · exact ⟨.ref st.length, p.map (k * ·), rfl, by simp, by simp; omega, ret_tz (List.prefix_append ..) hw qd⟩
theorem th_law_padd : Th 4 2 C_law_padd rd_law_padd := by
  intro ds st QD hl hw hlt ⟨p, q, e, hp, hq, qd⟩
  subst e
  simp [rd_law_padd, startD]
  have eM : (if p.length < q.length then (q.length : Int) else p.length) = ((max p.length q.length : Nat) : Int) := by split <;> omega
  rw [eM]
  refine ⟨by unfold bigI; omega, ?_⟩
  have eR : rngD 0 ((max p.length q.length : Nat) : Int).toNat 1 = (List.range (max p.length q.length)).map fun i => D.int ((i : Nat) : Int) := by
    unfold rngD
    rw [Int.toNat_natCast]
    apply List.map_congr_left
    intro i _
    congr 1; omega
  rw [eR]
  refine loopC_any (fun (i : Nat) => .int (p.getD i 0 + q.getD i 0)) _ (List.range (max p.length q.length)) (by simp [lim]; omega) (fun _ => trivial) (fun i hi acc R hR => ?_) ?_
  · simp [wipeD]
    have gP : ∀ z : List Int, i < z.length → L2.atI (z.map D.int) (i : Int) = some (.int (z.getD i 0)) := fun z hz => atI_mapN (by simp [hz])
    have gN : ∀ z : List Int, ¬ i < z.length → z.getD i 0 = 0 := fun z hz => by simp [hz]
    by_cases h1 : i < p.length <;> by_cases h2 : i < q.length
    · rw [if_pos h1, gP p h1]
      dsimp only
      rw [if_pos h2, gP q h2]
      exact hR
    · rw [if_pos h1, gP p h1]
      dsimp only
      rw [if_neg h2]
      rw [gN q h2] at hR
      exact hR
    · rw [if_neg h1, if_pos h2, gP q h2]
      rw [gN p h1] at hR
      exact hR
    · rw [if_neg h1, if_neg h2]
      rw [gN p h1, gN q h2] at hR
      exact hR
  · simp
    have e1 : ((List.range (max p.length q.length)).map fun (i : Nat) => D.int (p.getD i 0 + q.getD i 0)) = (addL p q).map D.int := by
      apply List.ext_getElem?
      intro i
      by_cases hi : i < max p.length q.length
      · rw [List.getElem?_map, List.getElem?_range hi, List.getElem?_map, getD_some (p := addL p q) (c := p.getD i 0 + q.getD i 0) (by rw [len_addL]; exact hi) getD_addL]
        rfl
      · rw [List.getElem?_eq_none (by simp; omega), List.getElem?_eq_none (by rw [List.length_map, len_addL]; omega)]
    simp only [List.getD_eq_getElem?_getD] at e1
    rw [e1]
    exact ⟨.ref st.length, addL p q, rfl, by simp, by rw [len_addL]; omega, ret_tz (List.prefix_append ..) hw qd⟩
end K01
namespace K01
open PySem PySem.Spec PyProof.Rows L2 Y M
theorem drop_get {p r : List Int} {i : Nat} {c : Int} (h : p.drop i = c :: r) : p[i]? = some c ∧ p.drop (i + 1) = r := by
  have h1 : i < p.length := by
    apply Classical.byContradiction
    intro z
    rw [List.drop_eq_nil_of_le (by omega)] at h
    cases h
  rw [List.drop_eq_getElem_cons h1] at h
  cases h
  exact ⟨List.getElem?_eq_getElem h1, rfl⟩
theorem pm_inner {p q : List Int} {st : Sto} {J : Ob} {i : Nat} {c : Int} {n m : Nat} (hi : p[i]? = some c) (bp : BdL n p) (bq : BdL m q) (hn : n < 100000) (hm : m < 100000) {E : DEnds} {T : Int → Int} {N : Nat}
    (fin : ∀ (found : List Int) (o4 : Option D), found.length = N → (∀ x, ev found x = T x) → E.nx [some (tz p), some (tz q), some (.ref (st.length + 1)), some (.int (i : Int)), o4] (st ++ [J, .lst (found.map D.int)])) :
    ∀ (r : List Int) (k : Nat) (found : List Int) (o4 : Option D), q.drop k = r → found.length = N → i + k + r.length ≤ N → (∀ x, ev found x + c * x ^ (i + k) * ev r x = T x) →
      loopF (fun _ => True) tg_law_pmul_1 bd_law_pmul_1 E (rngD (k : Int) r.length 1) [some (tz p), some (tz q), some (.ref (st.length + 1)), some (.int (i : Int)), o4] (st ++ [J, .lst (found.map D.int)]) := by
  intro r
  induction r with
  | nil =>
    intro k found o4 _ hl _ hT
    refine ⟨trivial, fin found o4 hl fun x => ?_⟩
    rw [← hT x, ev_nil]; omega
  | cons d r ih =>
    intro k found o4 hd hl hk hT
    rw [List.length_cons] at hk
    obtain ⟨h1, h2⟩ := drop_get hd
    obtain ⟨e, he⟩ : ∃ e, found[i + k]? = some e := ⟨found[i + k]'(by omega), List.getElem?_eq_getElem _⟩
    rw [List.length_cons, rngD_succ, loopF_cons]
    refine ⟨trivial, ?_⟩
    simp [tg_law_pmul_1, bd_law_pmul_1]
    rw [atI_map (j := i + k) (by omega) he]
    dsimp only
    rw [atI_mapN hi]
    dsimp only
    rw [atI_mapN h1]
    simp
    refine ⟨(bp c (List.mem_of_getElem? hi)).mulOk (bq d (List.mem_of_getElem? h1)) (by omega) (by omega), ?_⟩
    have e1 : (i : Int) + (k : Int) = ((i + k : Nat) : Int) := by omega
    rw [e1, ixN_nat (by omega)]
    have e2 : (found.map D.int).set (i + k) (.int (e + c * d)) = (found.set (i + k) (e + c * d)).map D.int := by rw [List.map_set]
    simp only [e2]
    refine ih (k + 1) _ _ h2 (by simpa using hl) (by omega) fun x => ?_
    rw [ev_set he, ← hT x, ev_cons]
    have : x ^ (i + (k + 1)) = x ^ (i + k) * x := by rw [← Nat.add_assoc, Int.pow_succ]
    rw [this]; grind
theorem th_law_pmul : Th 5 2 C_law_pmul rd_law_pmul := by
  intro ds st QD hl hw hlt ⟨p, q, n, m, e, lp, lq, bp, bq, hn, hm, qd⟩
  subst e
  have zero : p = [] ∨ q = [] → trim (mulL p q) = [] := fun h => trim_eq Tr.nil fun x _ => by
    rw [ev_mulL]
    rcases h with rfl | rfl <;> simp
  rw [rd_law_pmul, show startD 5 [tz p, tz q] = [some (tz p), some (tz q), none, none, none] from rfl]
  rw [fSeq_eq, fIfS_eq, fOr_eq]
  simp only [fTest_eq, fBin_eq, fFn_eq, fCons_eq, fVar_zero, fVar_succ, fNil_eq, gLen_1, sqD_tup, fC_eq, gEq_ii, List.length_map]
  by_cases hp : p = []
  · subst hp
    simp
    rw [zero (.inl rfl)] at qd
    exact ret_tz (p := []) (List.prefix_refl _) hw qd
  by_cases hq : q = []
  · subst hq
    have : ¬ ((p.length : Int) = 0) := by have := List.length_pos_iff.mpr hp; omega
    simp [hp]
    rw [zero (.inr rfl)] at qd
    exact ret_tz (p := []) (List.prefix_refl _) hw qd
  have p0 := List.length_pos_iff.mpr hp
  have q0 := List.length_pos_iff.mpr hq
  rw [if_neg (by simp [hp]), if_neg (by simp [hq]), fNext_eq]
  dsimp only
  rw [fSeq_eq, fSet_eq, fBin_eq, fLst_eq, fCons_eq, fC_eq, fNil_eq]
  refine ⟨by decide, ?_⟩
  simp only [fBin_eq, fFn_eq, fCons_eq, fVar_zero, fVar_succ, fNil_eq, gLen_1, sqD_tup, fC_eq, gAdd_ii, gSub_ii, List.length_map]
  have eN : (p.length : Int) + (q.length : Int) - 1 = ((p.length + q.length - 1 : Nat) : Int) := by omega
  rw [eN, gMul_ri, get_app0, List.getElem?_cons_zero]
  dsimp only
  refine ⟨by omega, by rw [Int.toNat_natCast, List.length_singleton]; unfold lim; omega, by omega, ?_⟩
  simp only [fSeq_eq, fFor_eq, fRng1_eq, List.set_cons_succ, List.set_cons_zero, fCons_eq, fNil_eq, fBin_eq, fFn_eq, fVar_zero, fVar_succ, gLen_1, sqD_tup, List.length_map]
  refine ⟨by unfold bigI; omega, ?_⟩
  have loop : ∀ (r : List Int) (i : Nat) (found : List Int) (o3 o4 : Option D), p.drop i = r → found.length = p.length + q.length - 1 → i + r.length ≤ p.length → (∀ x, ev found x + x ^ i * ev r x * ev q x = ev p x * ev q x) →
      loopF (fun _ => True) tg_law_pmul_2 bd_law_pmul_2 { nx := fRet (fCall 1 C_law_trim (fCons (fVar 2) fNil)) { nx := fun _ st' => RetOk st QD .non st', rt := RetOk st QD }, rt := RetOk st QD }
        (rngD (i : Int) r.length 1) [some (tz p), some (tz q), some (.ref (st.length + 1)), o3, o4] (st ++ [.lst [.int 0], .lst (found.map D.int)]) := by
    intro r
    induction r with
    | nil =>
      intro i found o3 o4 _ hl _ hT
      refine ⟨trivial, ?_⟩
      simp
      have : trim found = trim (mulL p q) := ev_inj tr_trim tr_trim fun x _ => by rw [ev_trim, ev_trim, ev_mulL, ← hT x, ev_nil]; grind
      exact ⟨_, found, rfl, by simp, by omega, by rw [this]; exact ret_tz (List.prefix_append ..) hw qd⟩
    | cons c r ih =>
      intro i found o3 o4 hd hl hi hT
      obtain ⟨h1, h2⟩ := drop_get hd
      rw [List.length_cons] at hi
      rw [List.length_cons, rngD_succ, loopF_cons]
      refine ⟨trivial, ?_⟩
      simp [tg_law_pmul_2, bd_law_pmul_2]
      refine ⟨by unfold bigI; omega, ?_⟩
      have key := pm_inner (st := st) (J := .lst [.int 0]) h1 bp bq hn hm (T := fun x => ev found x + c * x ^ i * ev q x) (N := p.length + q.length - 1)
        (E := { nx := loopF (fun _ => True) tg_law_pmul_2 bd_law_pmul_2 { nx := fRet (fCall 1 C_law_trim (fCons (fVar 2) fNil)) { nx := fun _ st' => RetOk st QD .non st', rt := RetOk st QD }, rt := RetOk st QD } (rngD ((i : Int) + 1) r.length 1), rt := RetOk st QD, bk := fRet (fCall 1 C_law_trim (fCons (fVar 2) fNil)) { nx := fun _ st' => RetOk st QD .non st', rt := RetOk st QD }, ct := loopF (fun _ => True) tg_law_pmul_2 bd_law_pmul_2 { nx := fRet (fCall 1 C_law_trim (fCons (fVar 2) fNil)) { nx := fun _ st' => RetOk st QD .non st', rt := RetOk st QD }, rt := RetOk st QD } (rngD ((i : Int) + 1) r.length 1) })
        (fun found' o4' hl' hT' => ?_) q 0 found o4 rfl hl (by omega) (fun x => by simp)
      · exact key
      · refine ih (i + 1) found' _ _ h2 hl' (by omega) fun x => ?_
        rw [hT' x, ← hT x, ev_cons, Int.pow_succ]; grind
  have key := loop p 0 (List.replicate (p.length + q.length - 1) 0) none none rfl (by simp) (by omega) (fun x => by rw [ev_zeros]; grind)
  have eF : (List.replicate (p.length + q.length - 1) [D.int 0]).flatten = (List.replicate (p.length + q.length - 1) 0).map D.int := by simp
  rw [Int.toNat_natCast, Int.toNat_natCast, eF]
  simp only [List.length_append, List.length_cons, List.length_nil, List.append_assoc, List.cons_append, List.nil_append] at key ⊢
  exact key
end K01
namespace K01
open PySem PySem.Spec PyProof.Rows L2 Y M
theorem into_bd {p q : List Int} {n : Nat} (hq : q.length ≤ 3) (bq : BdL n q) : p.length ≤ 4 → BdL n p → BdL (p.length * (n + 20) + n) (intoL p q) ∧ (intoL p q).length ≤ 3 * p.length + 1 := by
  induction p with
  | nil => intro _ _; exact ⟨fun c hc => by simp [intoL] at hc, by simp [intoL]⟩
  | cons a p ih =>
    intro hp bp
    rw [List.length_cons] at hp
    obtain ⟨h1, h2⟩ := ih (by omega) (fun c hc => bp c (List.mem_cons_of_mem _ hc))
    have lm : ∀ u : List Int, (mulL u q).length ≤ u.length + q.length := by
      intro u
      induction u with
      | nil => simp [mulL]
      | cons c u ih => simp only [mulL, len_addL, List.length_map, List.length_cons]; omega
    constructor
    · intro c hc
      unfold intoL at hc
      have h3 := mem_trim hc
      rw [List.length_cons, Nat.add_mul]
      refine (bd_addL (n := p.length * (n + 20) + n + n + 13) (fun d hd => ?_) (fun d hd => ?_) c h3).mono (by omega)
      · exact (bd_mulL h1 bq d (mem_trim hd)).mono (by omega)
      · have := mem_trim hd
        simp at this
        subst this
        exact (bp d (by simp)).mono (by omega)
    · unfold intoL
      refine Nat.le_trans len_trim ?_
      rw [len_addL, List.length_cons]
      have h3 : (trim (mulL (intoL p q) q)).length ≤ (mulL (intoL p q) q).length := len_trim
      have h4 := lm (intoL p q)
      have h5 : (trim [a]).length ≤ 1 := len_trim
      omega
theorem rev_get {p r s : List Int} {c : Int} (h : p = (c :: r).reverse ++ s) : p[r.length]? = some c := by
  rw [h, List.reverse_cons, List.append_assoc, List.getElem?_append_right (by simp)]
  simp
theorem th_law_pinto : Th 4 2 C_law_pinto rd_law_pinto := by
  intro ds st QD hl hw hlt ⟨p, q, n, e, lp, lq, bp, bq, hn, qd⟩
  subst e
  simp [rd_law_pinto, startD]
  refine ⟨by unfold bigI; omega, ?_⟩
  have loop : ∀ (r s : List Int) (i : Nat) (o3 : Option D), p = r.reverse ++ s → i + r.length = p.length →
      loopF (fun _ => True) tg_law_pinto_1 bd_law_pinto_1 { nx := fRet (fVar 2) { nx := fun _ st' => RetOk st QD .non st', rt := RetOk st QD }, rt := RetOk st QD }
        (rngD (i : Int) r.length 1) [some (tz p), some (tz q), some (tz (intoL s q)), o3] st := by
    intro r
    induction r with
    | nil =>
      intro s i o3 hs hi
      rw [List.reverse_nil, List.nil_append] at hs
      subst hs
      refine ⟨trivial, ?_⟩
      simp
      exact ret_tz (List.prefix_refl _) hw qd
    | cons c r ih =>
      intro s i o3 hs hi
      have hg := rev_get hs
      have hlen : p.length = r.length + 1 + s.length := by rw [hs]; simp; omega
      rw [List.length_cons, rngD_succ, loopF_cons]
      refine ⟨trivial, ?_⟩
      simp [tg_law_pinto_1, bd_law_pinto_1]
      have bs : BdL n s := fun d hd => bp d (by rw [hs]; simp [hd])
      obtain ⟨b1, l1⟩ := into_bd lq bq (p := s) (by omega) bs
      have : s.length * (n + 20) ≤ 4 * (n + 20) := Nat.mul_le_mul_right _ (by omega)
      refine ⟨intoL s q, q, s.length * (n + 20) + n, n, rfl, by omega, by omega, b1, bq, by omega, by omega, ?_⟩
      rw [atI_map (j := r.length) (by simp at hi; omega) hg]
      simp
      refine ⟨.tup [.int c], [c], rfl, rfl, by simp, ?_⟩
      have lm : (trim (mulL (intoL s q) q)).length ≤ 1000 := by
        have h5 := into_bd lq bq (p := c :: s) (by simp; omega) (fun d hd => by
          rcases List.mem_cons.mp hd with z | z
          · subst z; exact bp d (List.mem_of_getElem? hg)
          · exact bs d z)
        have h6 : ∀ u : List Int, (mulL u q).length ≤ u.length + q.length := by
          intro u
          induction u with
          | nil => simp [mulL]
          | cons c u ih => simp only [mulL, len_addL, List.length_map, List.length_cons]; omega
        have h7 := h6 (intoL s q)
        have h8 : (trim (mulL (intoL s q) q)).length ≤ (mulL (intoL s q) q).length := len_trim
        omega
      refine ⟨_, _, rfl, lm, Nat.le_trans len_trim (by simp), ?_⟩
      exact ih (c :: s) (i + 1) _ (by rw [hs]; simp) (by simp at hi ⊢; omega)
  have key := loop p.reverse [] 0 none (by simp) (by simp)
  rw [List.length_reverse] at key
  exact key
theorem th_law_pat : Th 4 2 C_law_pat rd_law_pat := by
  intro ds st QD hl hw hlt ⟨p, q, n, m, e, lp, h1n, bp, bq, hn, qd⟩
  subst e
  simp [rd_law_pat, startD]
  refine ⟨by unfold bigI; omega, ?_⟩
  have loop : ∀ (r s : List Int) (i : Nat) (o3 : Option D), p = r.reverse ++ s → i + r.length = p.length →
      loopF (fun _ => True) tg_law_pat_1 bd_law_pat_1 { nx := fRet (fVar 2) { nx := fun _ st' => RetOk st QD .non st', rt := RetOk st QD }, rt := RetOk st QD }
        (rngD (i : Int) r.length 1) [some (tz p), some (tR q), some (tR (evR s q)), o3] st := by
    intro r
    induction r with
    | nil =>
      intro s i o3 hs hi
      rw [List.reverse_nil, List.nil_append] at hs
      subst hs
      refine ⟨trivial, ?_⟩
      simp
      exact ret_tR (List.prefix_refl _) hw qd
    | cons c r ih =>
      intro s i o3 hs hi
      have hg := rev_get hs
      have hlen : p.length = r.length + 1 + s.length := by rw [hs]; simp; omega
      rw [List.length_cons, rngD_succ, loopF_cons]
      refine ⟨trivial, ?_⟩
      simp [tg_law_pat_1, bd_law_pat_1]
      have bs : BdL n s := fun d hd => bp d (by rw [hs]; simp [hd])
      have b1 := evR_bd bq h1n bs
      have : s.length * (n + m + 1) ≤ p.length * (n + m + 1) := Nat.mul_le_mul_right _ (by omega)
      refine ⟨evR s q, q, _, m, rfl, b1, bq, by omega, ?_⟩
      rw [atI_map (j := r.length) (by simp at hi; omega) hg]
      simp
      have bc : BR n (c : Rat) := BR.int (bp c (List.mem_of_getElem? hg)) h1n
      refine ⟨evR s q * q, (c : Rat), _, n, rfl, b1.mul bq, bc, by omega, ?_⟩
      have e2 : evR s q * q + (c : Rat) = evR (c :: s) q := by rw [evR_cons]; grind
      rw [e2]
      exact ih (c :: s) (i + 1) _ (by rw [hs]; simp) (by simp at hi ⊢; omega)
  have key := loop p.reverse [] 0 none (by simp) (by simp)
  rw [List.length_reverse] at key
  exact key
end K01
namespace K01
open PySem PySem.Spec PyProof.Rows L2 Y M
theorem gcdN_bd {g : Nat} {c : Int} {n : Nat} (hg : Bd n (g : Int)) (hc : Bd n c) : Bd n (Nat.gcd g c.natAbs : Nat) := by
  by_cases h : c = 0
  · subst h; simpa using hg
  · have : Nat.gcd g c.natAbs ≤ c.natAbs := Nat.le_of_dvd (by omega) (Nat.gcd_dvd_right ..)
    exact hc.le (by simpa using this)
theorem th_law_prim : Th 3 1 C_law_prim rd_law_prim := by
  intro ds st QD hl hw hlt ⟨p, r, k, n, e, pr, hk, hp, lp, bp, hn, qd⟩
  subst e
  have ne : p ≠ [] := by rw [hp]; simpa using pr.ne
  have hlead : lead p = k * lead r := by rw [hp]; exact lead_scale pr.ne
  have hpos := pr.pos
  have hg : gcdL p = k.natAbs := by rw [hp]; exact gcdL_scale pr.pr
  have p0 := List.length_pos_iff.mpr ne
  have bk : Bd n k := (bp _ (lead_mem ne)).le (by rw [hlead, Int.natAbs_mul]; exact Nat.le_mul_of_pos_right _ (by omega))
  have hlast : p[p.length - 1]? = some (lead p) := by
    obtain ⟨q, c, e⟩ := (List.eq_nil_or_concat p).resolve_left ne
    rw [List.concat_eq_append] at e
    rw [e, lead_snoc]; simp
  have fin : loopC (standI (tz p) (p.map D.int)) (fGName 2) fYes (fBin gDiv (fVar 2) (fVar 1)) [some (tz p), some (.int k), none] st.length (fun st2 => fFn gTuple (fCons (fC (.ref st.length)) fNil) [] st2 (RetOk st QD)) (p.map D.int) (st ++ [.lst []]) := by
    refine loopC_ints (·.fdiv k) p (by unfold lim; omega) (fun _ => by simp) (fun c hc acc R hR => ?_) ?_
    · simp
      exact ⟨bk.dvOk hk hn, hR⟩
    · have e1 : p.map (·.fdiv k) = r := by
        rw [hp, List.map_map]
        conv => rhs; rw [← List.map_id r]
        apply List.map_congr_left
        intro c _
        simp only [Function.comp, id]
        rw [Int.mul_comm]
        exact Int.mul_fdiv_cancel _ hk
      rw [e1]
      simp
      exact ret_tz (List.prefix_append ..) hw qd
  simp [rd_law_prim, startD]
  have loop : ∀ (s : List Int) (g : Nat) (o : Option D), (∀ c ∈ s, c ∈ p) → Bd n (g : Int) → s.foldl (fun g c => Nat.gcd g c.natAbs) g = gcdL p →
      loopF (standI (tz p) (p.map D.int)) tg_law_prim_1 bd_law_prim_1 { nx := fSeq (fIfS (fTest (fBin gLt (fBin gIx (fVar 0) (fBin gSub (fFn gLen (fCons (fVar 0) fNil)) (fC (.int 1)))) (fC (.int 0)))) (fSet 1 (fUn gNeg (fVar 1))) fNext) (fRet (fFn gTuple (fCons (fLc (fSq (fVar 0)) (fGName 2) fYes (fBin gDiv (fVar 2) (fVar 1)) [2]) fNil))) { nx := fun _ st' => RetOk st QD .non st', rt := RetOk st QD }, rt := RetOk st QD }
        (s.map D.int) [some (tz p), some (.int (g : Int)), o] st := by
    intro s
    induction s with
    | nil =>
      intro g o _ _ h
      simp at h
      refine ⟨by simp, ?_⟩
      simp
      rw [atI_map (j := p.length - 1) (by omega) hlast]
      simp
      have f1 := fin
      by_cases hneg : lead p < 0
      · rw [if_pos hneg]
        have : -(g : Int) = k := by
          have : k < 0 := by
            rw [hlead] at hneg
            apply Classical.byContradiction
            intro z
            have := Int.mul_nonneg (by omega : 0 ≤ k) (by omega : 0 ≤ lead r)
            omega
          omega
        rw [this]
        simpa [wipeD] using f1
      · rw [if_neg hneg]
        have : (g : Int) = k := by
          have : 0 ≤ k := by
            rw [hlead] at hneg
            apply Classical.byContradiction
            intro z
            have := Int.mul_neg_of_neg_of_pos (by omega : k < 0) hpos
            omega
          omega
        rw [this]
        simpa [wipeD] using f1
    | cons c s ih =>
      intro g o hm bg h
      rw [List.map_cons, loopF_cons]
      refine ⟨by simp, ?_⟩
      simp [tg_law_prim_1, bd_law_prim_1]
      have bc := bp c (hm c (by simp))
      refine ⟨g, c, n, rfl, bg, bc, by omega, ?_⟩
      rw [Int.natAbs_natCast]
      exact ih _ _ (fun d hd => hm d (List.mem_cons_of_mem _ hd)) (gcdN_bd bg bc) h
  exact loop p 0 none (fun _ h => h) Bd.zero rfl
theorem kit_ib : kitB "int" "bool" = some false := by rfl
theorem kit_ii : kitB "int" "int" = some true := by rfl
theorem kit_tb : kitB "tuple" "bool" = some false := by rfl
theorem kit_ti : kitB "tuple" "int" = some false := by rfl
theorem kit_ts : kitB "tuple" "str" = some false := by rfl
theorem kit_tt : kitB "tuple" "tuple" = some true := by rfl
theorem eq_vac : ∀ {ds : List D} {st : Sto} {Q : D → Sto → Prop}, ¬ CEq 0 ds st Q := fun ⟨d, _, _, h, _⟩ => by
  cases d <;> simp [dep] at h
theorem plainL_get : ∀ {xs : List D} {i : Nat} {d : D}, plainL xs = true → xs[i]? = some d → plain d = true
  | x :: xs, 0, d, h, e => by
    simp [plainL] at h e
    exact e ▸ h.1
  | x :: xs, i + 1, d, h, e => by
    simp [plainL] at h e
    exact plainL_get h.2 e
theorem depL_get : ∀ {xs : List D} {i : Nat} {d : D}, xs[i]? = some d → dep d ≤ depL xs
  | x :: xs, 0, d, e => by
    simp at e
    subst e
    simp only [depL]; omega
  | x :: xs, i + 1, d, e => by
    simp at e
    have := depL_get e
    simp only [depL]; omega
theorem th_law_eq {k : Nat} : Th 3 2 (CEq (k + 1)) (rd_law_eq (CEq k)) := by
  intro ds st QD hl hw hlt ⟨d, e, hp, hd, qd⟩
  subst e
  cases d with
  | int i =>
    simp [rd_law_eq, startD, tyD, kit_ib, kit_ii]
    exact ret_bl (List.prefix_refl _) hw qd
  | tup xs =>
    simp [plain] at hp
    simp [dep] at hd
    simp [rd_law_eq, startD, tyD, kit_tb, kit_ti, kit_ts, kit_tt]
    refine ⟨by unfold bigI; omega, ?_⟩
    have loop : ∀ (r : Nat) (i : Nat) (o : Option D), i + r = xs.length → loopF (fun _ => True) (tg_law_eq_1 (CEq k)) (bd_law_eq_1 (CEq k)) { nx := fRet (fC (.bl true)) { nx := fun _ st' => RetOk st QD .non st', rt := RetOk st QD }, rt := RetOk st QD }
        (rngD (i : Int) r 1) [some (.tup xs), some (.tup xs), o] st := by
      intro r
      induction r with
      | zero =>
        intro i o _
        refine ⟨trivial, ?_⟩
        simp
        exact ret_bl (List.prefix_refl _) hw qd
      | succ r ih =>
        intro i o hi
        obtain ⟨x, hx⟩ : ∃ x, xs[i]? = some x := ⟨xs[i]'(by omega), List.getElem?_eq_getElem _⟩
        rw [rngD_succ, loopF_cons]
        refine ⟨trivial, ?_⟩
        simp [tg_law_eq_1, bd_law_eq_1]
        rw [atI_nat hx]
        simp
        refine ⟨x, rfl, plainL_get hp.1 hx, by have := depL_get hx; omega, ?_⟩
        simp
        exact ih (i + 1) _ (by omega)
    exact loop xs.length 0 none (by omega)
  | _ => simp [plain] at hp
end K01
namespace K01
open PySem PySem.Spec PyProof.Rows L2 Y M
structure SrcR (s g c : Nat) (n0 n1 : Int) (great cells : List Int) (st0 st : Sto) : Prop where
  len : st.length = st0.length
  e1 : st[s]? = some (.lst [.int n0, .int n1, .ref g, .ref c])
  e2 : st[g]? = some (.lst (great.map D.int))
  e3 : st[c]? = some (.lst (cells.map D.int))
  oth : ∀ i, i ≠ s → i ≠ g → st[i]? = st0[i]?
theorem SrcR.setS {s g c : Nat} {n0 n1 m0 m1 : Int} {great cells : List Int} {st0 st : Sto} (h : SrcR s g c n0 n1 great cells st0 st) (hg : g ≠ s) (hc : c ≠ s) : SrcR s g c m0 m1 great cells st0 (st.set s (.lst [.int m0, .int m1, .ref g, .ref c])) := by
  have hs : s < st.length := (List.getElem?_eq_some_iff.mp h.e1).1
  refine ⟨by rw [List.length_set]; exact h.len, by rw [List.getElem?_set_self hs], by rw [List.getElem?_set_ne (Ne.symm hg)]; exact h.e2, by rw [List.getElem?_set_ne (Ne.symm hc)]; exact h.e3, fun i h1 h2 => by rw [List.getElem?_set_ne (Ne.symm h1)]; exact h.oth i h1 h2⟩
theorem SrcR.setG {s g c : Nat} {n0 n1 : Int} {great great' cells : List Int} {st0 st : Sto} (h : SrcR s g c n0 n1 great cells st0 st) (hg : g ≠ s) (hc : g ≠ c) : SrcR s g c n0 n1 great' cells st0 (st.set g (.lst (great'.map D.int))) := by
  have hs : g < st.length := (List.getElem?_eq_some_iff.mp h.e2).1
  refine ⟨by rw [List.length_set]; exact h.len, by rw [List.getElem?_set_ne hg]; exact h.e1, by rw [List.getElem?_set_self hs], by rw [List.getElem?_set_ne hc]; exact h.e3, fun i h1 h2 => by rw [List.getElem?_set_ne (Ne.symm h2)]; exact h.oth i h1 h2⟩
theorem SrcR.out {s g c : Nat} {n0 n1 : Int} {great cells : List Int} {pre post st : Sto} (h : SrcR s g c n0 n1 great cells (pre ++ post) st) (hp : Src s pre) (hg : g < s) (hc : c < s) (hgc : g ≠ c) (h0 : 0 ≤ n0) (h1 : 0 ≤ n1) (h2 : ∀ x ∈ great, 0 ≤ x) (h3 : cells ≠ []) (h4 : ∀ x ∈ cells, 0 ≤ x ∧ x < 2147483647) :
    ∃ pre', st = pre' ++ post ∧ Src s pre' := by
  have hl : st.length = s + 1 + post.length := by rw [h.len, List.length_append, hp.len]
  have hd : st.drop (s + 1) = post := by
    apply List.ext_getElem?
    intro i
    rw [List.getElem?_drop, h.oth _ (by omega) (by omega), List.getElem?_append_right (by rw [hp.len]; omega), hp.len]
    congr 1; omega
  refine ⟨st.take (s + 1), by rw [← hd, List.take_append_drop], by rw [List.length_take]; omega, fun i o ho => ?_, g, c, n0, n1, great, cells, ?_, hg, hc, hgc, h0, h1, ?_, h2, ?_, h3, h4⟩
  · have hi : i < s + 1 := by
      have := (List.getElem?_eq_some_iff.mp ho).1
      rw [List.length_take] at this; omega
    rw [List.getElem?_take_of_lt hi] at ho
    by_cases e1 : i = s
    · subst e1
      rw [h.e1] at ho
      cases ho
      exact ⟨trivial, trivial, (by show g < i + 1; omega), (by show c < i + 1; omega), trivial⟩
    by_cases e2 : i = g
    · subst e2
      rw [h.e2] at ho
      cases ho
      exact lt_ints
    · rw [h.oth i e1 e2, List.getElem?_append_left (by rw [hp.len]; omega)] at ho
      exact hp.wf i o ho
  · rw [List.getElem?_take_of_lt (by omega)]; exact h.e1
  · rw [List.getElem?_take_of_lt (by omega)]; exact h.e2
  · rw [List.getElem?_take_of_lt (by omega)]; exact h.e3
theorem Src.wfAll {s : Nat} {pre pre' post : Sto} (hw : Wf (pre ++ post).length (pre ++ post)) (h : Src s pre) (h' : Src s pre') : Wf (pre' ++ post).length (pre' ++ post) := by
  intro i o ho
  have hl : (pre' ++ post).length = (pre ++ post).length := by rw [List.length_append, List.length_append, h.len, h'.len]
  by_cases hi : i < pre'.length
  · rw [List.getElem?_append_left hi] at ho
    have hwf := h'.wf i o ho
    have hle : s + 1 ≤ (pre' ++ post).length := by rw [List.length_append, h'.len]; omega
    cases o with
    | lst xs => exact D.ltAll_mono hle xs hwf
    | ro xs => exact D.ltAll_mono hle xs hwf
    | ins C fs =>
      have gen : ∀ fs : List (Str × D), D.ltF (s + 1) fs → D.ltF (pre' ++ post).length fs := by
        intro fs
        induction fs with
        | nil => intro _; trivial
        | cons f fs ih => intro q; exact ⟨D.lt_mono hle _ q.1, ih q.2⟩
      exact gen fs hwf
    | gone => trivial
  · rw [hl]
    refine hw i o ?_
    rw [List.getElem?_append_right (by rw [h.len]; rw [h'.len] at hi; omega), h.len]
    rw [List.getElem?_append_right (by omega), h'.len] at ho
    exact ho
/-- an answer that stands by itself, the source drawn from -/
theorem ret_src {s : Nat} {pre pre' post ex : Sto} {QD : D → Sto → Prop} {d : D} (hw : Wf (pre ++ post).length (pre ++ post)) (h : Src s pre) (h' : Src s pre') (hd : D.lt 0 d) (q : QD d (pre' ++ post)) : RetOk (pre ++ post) QD d (pre' ++ post ++ ex) :=
  ⟨pre' ++ post, List.prefix_append .., by rw [List.length_append, List.length_append, h.len, h'.len]; exact Nat.le_refl _, Src.wfAll hw h h', D.lt_mono (Nat.zero_le _) d hd, q⟩
theorem ret_src0 {s : Nat} {pre pre' post : Sto} {QD : D → Sto → Prop} {d : D} (hw : Wf (pre ++ post).length (pre ++ post)) (h : Src s pre) (h' : Src s pre') (hd : D.lt 0 d) (q : QD d (pre' ++ post)) : RetOk (pre ++ post) QD d (pre' ++ post) := by
  have := ret_src (ex := []) hw h h' hd q
  rwa [List.append_nil] at this
def drawLate : DTS :=
  (fSeq (fSet 2 (fBin gIx (fVar 0) (fC (.int 3))))
  (fSeq (fSet 3 (fBin gIx (fVar 2) (fBin gMod (fFn gInt (fCons (fBin gIx (fVar 0) (fC (.int 1))) fNil)) (fFn gLen (fCons (fVar 2) fNil)))))
  (fSeq (fSet 4 (fBin gMod (fFn gInt (fCons (fBin gAdd (fBin gAdd (fBin gMul (fVar 3) (fC (.int 48271))) (fBin gMul (fBin gIx (fVar 0) (fC (.int 1))) (fC (.int 92821)))) (fC (.int 17))) fNil)) (fC (.int 2147483647))))
  (fSeq (fSet 5 (fBin gMod (fFn gInt (fCons (fBin gAdd (fBin gAdd (fBin gMul (fVar 4) (fVar 4)) (fBin gMul (fVar 4) (fC (.int 40692)))) (fBin gMul (fBin gIx (fVar 0) (fC (.int 1))) (fC (.int 69621)))) fNil)) (fC (.int 2147483629))))
  (fRet (fBin gMod (fFn gInt (fCons (fBin Y.gDiv (fVar 5) (fC (.int 64))) fNil)) (fVar 1)))))))
def drawTail : DTS :=
  fSeq (fIfS (fTest (fBin gGt (fBin gIx (fVar 0) (fC (.int 0))) (fC (.int 0)))) (fSeq (fSet 6 (fBin gMod (fFn gInt (fCons (fBin gIx (fVar 0) (fC (.int 0))) fNil)) (fVar 1)))
  (fSeq (fAsg (fBin Y.gDiv (fBin gIx (fVar 0) (fC (.int 0))) (fVar 1)) (fGSub (fVar 0) (fC (.int 0))))
  (fRet (fVar 6)))) fNext) drawLate
theorem th_law_draw : Th 7 2 C_law_draw rd_law_draw := by
  intro ds st QD hl hw hlt ⟨s, pre, post, many, e, e2, hS, hm, hm2, qd⟩
  subst e; subst e2
  obtain ⟨g, c, n0, n1, great, cells, f1, hg, hc, hgc, h0, h1, f2, h2, f3, h3, h4⟩ := hS.ex
  have R0 : SrcR s g c n0 n1 great cells (pre ++ post) (pre ++ post) := ⟨rfl, by rw [List.getElem?_append_left (by rw [hS.len]; omega)]; exact f1, by rw [List.getElem?_append_left (by rw [hS.len]; omega)]; exact f2, by rw [List.getElem?_append_left (by rw [hS.len]; omega)]; exact f3, fun _ _ _ => rfl⟩
  have R1 : SrcR s g c n0 (n1 + 1) great cells (pre ++ post) ((pre ++ post).set s (.lst [.int n0, .int (n1 + 1), .ref g, .ref c])) := R0.setS (by omega) (by omega)
  have L0 : lstAt (pre ++ post) s = some [.int n0, .int n1, .ref g, .ref c] := by unfold lstAt; rw [R0.e1]
  have i41 : ixN 4 1 = some 1 := by rfl
  have i40 : ixN 4 0 = some 0 := by rfl
  rw [rd_law_draw, show startD 7 [.ref s, .int many] = [some (.ref s), some (.int many), none, none, none, none, none] from rfl]
  rw [fSeq_eq, fAsg_eq]
  simp only [fBin_eq, fVar_zero, fC_eq, gIx_i, sqD_ref, R0.e1, Option.bind_some, seqOb_lst, atI_1, gAdd_ii, fGSub_eq, gSetL_ri, L0, List.length_cons, List.length_nil, Nat.zero_add, Nat.reduceAdd, i41, List.set_cons_succ, List.set_cons_zero]
  generalize (pre ++ post).set s (.lst [.int n0, .int (n1 + 1), .ref g, .ref c]) = st1 at *
  -- the rest of it, from any state of the source
  have tail : ∀ (n0 : Int) (great : List Int) (st1 : Sto), 0 ≤ n0 → (∀ x ∈ great, 0 ≤ x) → SrcR s g c n0 (n1 + 1) great cells (pre ++ post) st1 →
      drawTail { nx := fun _ st' => RetOk (pre ++ post) QD .non st', rt := RetOk (pre ++ post) QD } [some (.ref s), some (.int many), none, none, none, none, none] st1 := by
    intro n0 great st1 h0 h2 R
    have L1 : lstAt st1 s = some [.int n0, .int (n1 + 1), .ref g, .ref c] := by unfold lstAt; rw [R.e1]
    have fm : ∀ a b : Int, 0 ≤ a → 0 < b → 0 ≤ a.fmod b ∧ a.fmod b < b := fun a b ha hb => by
      rw [Int.fmod_eq_emod_of_nonneg _ (by omega)]
      exact ⟨Int.emod_nonneg _ (by omega), Int.emod_lt_of_pos _ hb⟩
    have dm : DvOk many := by
      refine Bd.dvOk (n := 60) ?_ (by omega) (by omega)
      unfold Bd; omega
    rw [drawTail, fSeq_eq, fIfS_eq]
    simp only [fTest_eq, fBin_eq, fVar_zero, fC_eq, gIx_i, sqD_ref, R.e1, Option.bind_some, seqOb_lst, atI_0, gGt_ii, decide_eq_true_eq]
    by_cases hn : 0 < n0
    · rw [if_pos hn]
      simp only [fSeq_eq, fSet_eq, fBin_eq, fFn_eq, fCons_eq, fNil_eq, fVar_zero, fVar_succ, fC_eq, gIx_i, sqD_ref, R.e1, Option.bind_some, seqOb_lst, atI_0, gInt_i, gMod_ii, List.set_cons_succ, List.set_cons_zero]
      refine ⟨by omega, ?_⟩
      simp only [fAsg_eq, fBin_eq, fVar_zero, fVar_succ, fC_eq, gIx_i, sqD_ref, R.e1, Option.bind_some, seqOb_lst, atI_0, gDiv_ii]
      refine ⟨dm, ?_⟩
      simp only [fGSub_eq, fVar_zero, fC_eq, gSetL_ri, L1, List.length_cons, List.length_nil, Nat.zero_add, Nat.reduceAdd, i40, List.set_cons_zero, fRet_eq, fVar_succ]
      have hq : 0 ≤ n0.fdiv many := by
        rw [Int.fdiv_eq_ediv_of_nonneg _ (by omega)]
        exact Int.ediv_nonneg h0 (by omega)
      obtain ⟨pre', e1, hS'⟩ := (R.setS (m0 := n0.fdiv many) (m1 := n1 + 1) (by omega) (by omega)).out hS hg hc hgc hq (by omega) h2 h3 h4
      rw [e1]
      exact ret_src0 hw hS hS' trivial (qd _ pre' (fm n0 many h0 hm).1 (fm n0 many h0 hm).2 hS')
    · rw [if_neg hn, fNext_eq]
      dsimp only
      obtain ⟨pre', e1, hS'⟩ := R.out hS hg hc hgc h0 (by omega) h2 h3 h4
      have hlen : 0 < cells.length := List.length_pos_iff.mpr h3
      have hix := fm (n1 + 1) cells.length (by omega) (by omega)
      obtain ⟨cell, hcell⟩ : ∃ cell, cells[((n1 + 1).fmod cells.length).toNat]? = some cell := ⟨cells[((n1 + 1).fmod cells.length).toNat]'(by omega), List.getElem?_eq_getElem _⟩
      have hc4 := h4 cell (List.mem_of_getElem? hcell)
      rw [drawLate]
      simp only [fSeq_eq, fSet_eq, fBin_eq, fFn_eq, fCons_eq, fNil_eq, fVar_zero, fVar_succ, fC_eq, gIx_i, sqD_ref, R.e1, R.e3, Option.bind_some, seqOb_lst, atI_0, atI_1, atI_3, gInt_i, gMod_ii, gLen_1, List.set_cons_succ, List.set_cons_zero, List.length_map]
      refine ⟨by omega, ?_⟩
      rw [atI_map (j := ((n1 + 1).fmod cells.length).toNat) (by omega) hcell]
      simp only [fSeq_eq, fSet_eq, fBin_eq, fFn_eq, fCons_eq, fNil_eq, fVar_zero, fVar_succ, fC_eq, gIx_i, sqD_ref, R.e1, R.e3, Option.bind_some, seqOb_lst, atI_0, atI_1, atI_3, gInt_i, gMod_ii, gMul_ii, gAdd_ii, gDiv_ii, List.set_cons_succ, List.set_cons_zero, fRet_eq]
      have sm : ∀ a b : Int, b.natAbs < 2 ^ 31 → IntMulOk a b := fun a b h => IntMulOk.of_right (intBits_le_64 (by omega) (by omega))
      refine ⟨sm _ _ (by decide), sm _ _ (by decide), by decide, ?_⟩
      generalize hone : (cell * 48271 + (n1 + 1) * 92821 + 17).fmod 2147483647 = one
      have h5 := fm (cell * 48271 + (n1 + 1) * 92821 + 17) 2147483647 (by omega) (by decide)
      rw [hone] at h5
      refine ⟨sm _ _ (by omega), sm _ _ (by decide), sm _ _ (by decide), by decide, Bd.dvOk (n := 10) (by unfold Bd; decide) (by decide) (by decide), by omega, ?_⟩
      have h6 := fm (one * one + one * 40692 + (n1 + 1) * 69621) 2147483629 (by
        have := Int.mul_nonneg h5.1 h5.1
        omega) (by decide)
      generalize (one * one + one * 40692 + (n1 + 1) * 69621).fmod 2147483629 = two at *
      have h7 := fm (two.fdiv 64) many (by rw [Int.fdiv_eq_ediv_of_nonneg _ (by decide)]; omega) hm
      rw [e1]
      exact ret_src0 hw hS hS' trivial (qd _ pre' h7.1 h7.2 hS')
  rw [fSeq_eq, fIfS_eq, fAnd_eq]
  simp only [fTest_eq, fBin_eq, fVar_zero, fC_eq, gIx_i, sqD_ref, R1.e1, Option.bind_some, seqOb_lst, atI_0, gEq_ii, decide_eq_true_eq]
  by_cases hz : n0 = 0
  · rw [if_pos hz]
    simp only [fBin_eq, fFn_eq, fCons_eq, fNil_eq, fVar_zero, fC_eq, gIx_i, sqD_ref, R1.e1, R1.e2, Option.bind_some, seqOb_lst, atI_2, gLen_1, gGt_ii, decide_eq_true_eq, List.length_map]
    cases great with
    | nil =>
      rw [if_neg (by simp), fNext_eq]
      exact tail n0 [] st1 h0 h2 R1
    | cons x gr =>
      rw [if_pos (by simp)]
      have Lg : lstAt st1 g = some (D.int x :: gr.map D.int) := by unfold lstAt; rw [R1.e2]; rfl
      have R2 : SrcR s g c n0 (n1 + 1) gr cells (pre ++ post) (st1.set g (.lst (gr.map D.int))) := R1.setG (by omega) hgc
      have L2 : lstAt (st1.set g (.lst (gr.map D.int))) s = some [.int n0, .int (n1 + 1), .ref g, .ref c] := by unfold lstAt; rw [R2.e1]
      simp only [fAsg_eq, fMt_eq, fBin_eq, fCons_eq, fNil_eq, fVar_zero, fC_eq, gIx_i, sqD_ref, R1.e1, Option.bind_some, seqOb_lst, atI_2, isLst_eq, Lg, Option.isSome_some, gPopAt]
      refine ⟨trivial, by decide, by decide, ?_⟩
      show fGSub (fVar 0) (fC (.int 0)) (.int x) _ (st1.set g (.lst (gr.map D.int))) _
      simp only [fGSub_eq, fVar_zero, fC_eq, gSetL_ri, L2, List.length_cons, List.length_nil, Nat.zero_add, Nat.reduceAdd, i40, List.set_cons_zero]
      exact tail x gr _ (h2 x (by simp)) (fun y hy => h2 y (List.mem_cons_of_mem _ hy)) (R2.setS (by omega) (by omega))
  · rw [if_neg hz]
    simp only [Bool.false_eq_true, if_false, fNext_eq]
    exact tail n0 great st1 h0 h2 R1
end K01
namespace K01
open PySem PySem.Spec PyProof.Rows L2 Y M
theorem ret_srcA {s : Nat} {pre pre' post ex : Sto} {QD : D → Sto → Prop} {d : D} (hw : Wf (pre ++ post).length (pre ++ post)) (h : Src s pre) (h' : Src s pre') (hd : D.lt 0 d) (q : QD d (pre' ++ post)) : RetOk (pre ++ post) QD d (pre' ++ (post ++ ex)) := by
  rw [← List.append_assoc]; exact ret_src hw h h' hd q
theorem th_law_pick : Th 2 2 C_law_pick rd_law_pick := by
  intro ds st QD hl hw hlt ⟨s, m, pre, post, xs, e, e2, hS, hsm, hm, hx, hlen, hlt0, qd⟩
  subst e; subst e2
  simp [rd_law_pick, startD, hm]
  refine ⟨s, pre, post, xs.length, rfl, rfl, hS, by have := List.length_pos_iff.mpr hx; omega, by omega, fun n pre' h0 h1 hS' => ?_⟩
  have hm' : (pre' ++ post)[m]? = some (.lst xs) := by
    rw [List.getElem?_append_right (by rw [hS'.len]; omega), hS'.len]
    rw [List.getElem?_append_right (by rw [hS.len]; omega), hS.len] at hm
    exact hm
  simp [hm']
  obtain ⟨d, hd⟩ : ∃ d, xs[n.toNat]? = some d := ⟨xs[n.toNat]'(by omega), List.getElem?_eq_getElem _⟩
  have e1 : n = ((n.toNat : Nat) : Int) := by omega
  rw [e1, atI_nat hd]
  exact ret_src0 hw hS hS' (hlt0 d (List.mem_of_getElem? hd)) (qd d pre' (List.mem_of_getElem? hd) hS')
theorem th_law_wide : Th 3 1 C_law_wide rd_law_wide := by
  intro ds st QD hl hw hlt ⟨s, pre, post, e, e2, hS, qd⟩
  subst e; subst e2
  rw [rd_law_wide, show startD 3 [.ref s] = [some (.ref s), none, none] from rfl]
  have p6 : CPow 10 6 := ⟨by decide, by decide, by decide⟩
  have p9 : CPow 10 9 := ⟨by decide, by decide, by decide⟩
  have p12 : CPow 10 12 := ⟨by decide, by decide, by decide⟩
  simp only [fSeq_eq, fSet_eq, fCall_eq, fCons_eq, fNil_eq, fVar_zero, fLst_eq, fC_eq, fBin_eq, gPow_ii, gSub_ii]
  refine ⟨p6, p9, p12, p12, by decide, rfl, ?_⟩
  refine ⟨s, (pre ++ post).length, pre, post ++ [.lst [.int 10, .int 1000, .int (10 ^ 6), .int (10 ^ 9), .int (10 ^ 12 - 1), .int (10 ^ 12 - 1)]], [.int 10, .int 1000, .int (10 ^ 6), .int (10 ^ 9), .int (10 ^ 12 - 1), .int (10 ^ 12 - 1)], rfl, by simp, hS, by rw [List.length_append, hS.len]; omega, by simp, by simp, by simp, ?_, fun d pre1 hd hS1 => ?_⟩
  · intro d hd
    simp at hd
    rcases hd with rfl | rfl | rfl | rfl | rfl <;> trivial
  · obtain ⟨size, rfl, z1, z2⟩ : ∃ size : Int, d = .int size ∧ 0 < size ∧ size < 2 ^ 40 := by
      simp at hd
      rcases hd with rfl | rfl | rfl | rfl | rfl <;> exact ⟨_, rfl, by decide, by decide⟩
    simp only [fSeq_eq, fSet_eq, fCall_eq, fCons_eq, fNil_eq, fVar_zero, fVar_succ, fC_eq, fBin_eq, fFn_eq, gPow_ii, List.set_cons_succ, List.set_cons_zero]
    refine ⟨p6, rfl, s, pre1, _, 10 ^ 6, rfl, rfl, hS1, by decide, by decide, fun n1 pre2 a1 a2 hS2 => ?_⟩
    simp only [gPow_ii, gMul_ii]
    refine ⟨p6, IntMulOk.of_right (by decide), p6, rfl, s, pre2, _, 10 ^ 6, rfl, rfl, hS2, by decide, by decide, fun n2 pre3 b1 b2 hS3 => ?_⟩
    simp only [gAdd_ii, gInt_i, gMod_ii]
    refine ⟨by omega, ?_⟩
    simp only [fRet_eq, fIf_eq, fTest_eq, fBin_eq, fCall_eq, fCons_eq, fNil_eq, fVar_zero, fVar_succ, fC_eq, fUn_eq, gNeg_i]
    refine ⟨rfl, s, pre3, _, 2, rfl, rfl, hS3, by decide, by decide, fun n3 pre4 c1 c2 hS4 => ?_⟩
    simp only [gEq_ii, decide_eq_true_eq]
    generalize hv : (n1 * 10 ^ (6 : Int).toNat + n2).fmod size = v
    have hv1 : 0 ≤ v ∧ v < size := by
      rw [← hv, Int.fmod_eq_emod_of_nonneg _ (by omega)]
      exact ⟨Int.emod_nonneg _ (by omega), Int.emod_lt_of_pos _ z1⟩
    have bv : Bd 40 v := by unfold Bd; omega
    split
    · exact ret_srcA hw hS hS4 (d := .int (-v)) trivial (qd _ pre4 bv.neg hS4)
    · exact ret_srcA hw hS hS4 (d := .int v) trivial (qd _ pre4 bv hS4)
theorem th_law_widefraction : Th 2 1 C_law_widefraction rd_law_widefraction := by
  intro ds st QD hl hw hlt ⟨s, pre, post, e, e2, hS, qd⟩
  subst e; subst e2
  rw [rd_law_widefraction, show startD 2 [.ref s] = [some (.ref s), none] from rfl]
  simp only [fSeq_eq, fSet_eq, fCall_eq, fCons_eq, fNil_eq, fVar_zero, fC_eq, fBin_eq, fFn_eq]
  refine ⟨rfl, s, pre, post, rfl, rfl, hS, fun n1 pre1 b1 hS1 => ?_⟩
  simp only [gAbs_i, gAdd_ii, fRet_eq, fCall_eq, fCons_eq, fNil_eq, fVar_zero, fVar_succ, List.set_cons_succ, List.set_cons_zero]
  refine ⟨rfl, s, pre1, post, rfl, rfl, hS1, fun n2 pre2 b2 hS2 => ?_⟩
  have b3 : Bd 41 (1 + if n1 < 0 then -n1 else n1) := by
    unfold Bd at *
    split <;> omega
  have h3 : (1 + if n1 < 0 then -n1 else n1) ≠ 0 := by split <;> omega
  refine ⟨rfl, n2, _, 41, rfl, h3, b2.mono (by omega), b3, by omega, ?_⟩
  exact ret_src0 hw hS hS2 ⟨trivial, trivial, trivial⟩ (qd _ pre2 (BR.divInt (b2.mono (by omega)) b3 h3) hS2)
/-- a list that draws for each item -/
theorem draw_loop {s : Nat} {S : Sto → Prop} {Γ : Sl} {g : DTG} {fe : DTE} {post : Sto} {Q : Sto → Prop} {n : Nat} {R : Int → Prop} (hS : ∀ st, S st)
    (hx : ∀ (i : Int) (pre : Sto) (acc : List D) (QQ : D → Sto → Prop), Src s pre → (∀ (m : Int) pre', R m → Src s pre' → QQ (.int m) (pre' ++ (post ++ [.lst acc]))) → g (.int i) Γ (pre ++ (post ++ [.lst acc])) fun Γ' st1 => fe Γ' st1 QQ)
    (hn : n = s + 1 + post.length) : ∀ (k : Nat) (lo : Int) (acc : List Int) (pre : Sto), acc.length + k ≤ 1000 → (∀ c ∈ acc, R c) → Src s pre → (∀ (p : List Int) pre', p.length = acc.length + k → (∀ c ∈ p, R c) → Src s pre' → Q (pre' ++ (post ++ [.lst (p.map D.int)]))) →
      loopC S g fYes fe Γ n Q (rngD lo k 1) (pre ++ (post ++ [.lst (acc.map D.int)])) := by
  intro k
  induction k with
  | zero =>
    intro lo acc pre _ ha hp q
    exact ⟨hS _, q acc pre rfl ha hp⟩
  | succ k ih =>
    intro lo acc pre hk ha hp q
    rw [rngD_succ]
    refine ⟨hS _, hx lo pre _ _ hp fun m pre' hm hp' => ?_⟩
    have hl : (pre' ++ post).length = n := by rw [List.length_append, hp'.len, hn]
    rw [← List.append_assoc]
    show (match lstAt (pre' ++ post ++ [Ob.lst (acc.map D.int)]) n with
      | some xs => xs.length < lim ∧ loopC S g fYes fe Γ n Q (rngD (lo + 1) k 1) ((pre' ++ post ++ [Ob.lst (acc.map D.int)]).set n (Ob.lst (xs ++ [D.int m])))
      | none => False)
    rw [← hl, lstAt_app0, lstAt_cons0]
    refine ⟨by simp [lim]; omega, ?_⟩
    rw [set_app0, hl]
    have e : acc.map D.int ++ [D.int m] = (acc ++ [m]).map D.int := by simp
    rw [List.set_cons_zero, e, List.append_assoc]
    refine ih (lo + 1) (acc ++ [m]) pre' (by simp; omega) (fun c hc => ?_) hp' fun p pre2 hp2 h3 h4 => q p pre2 (by rw [hp2]; simp; omega) h3 h4
    rcases List.mem_append.mp hc with z | z
    · exact ha c z
    · simp at z; exact z ▸ hm
end K01
namespace K01
open PySem PySem.Spec PyProof.Rows L2 Y M
theorem th_law_polynomial : Th 5 3 C_law_polynomial rd_law_polynomial := by
  intro ds st QD hl hw hlt ⟨s, pre, post, n, k, size, e, e2, hS, hn, hs2, hsk, hk2, hk, qd⟩
  subst e; subst e2
  have hsz : size < 2 ^ 50 := Int.lt_of_lt_of_le hsk (by
    have : (2 : Nat) ^ k ≤ 2 ^ 50 := Nat.pow_le_pow_right (by decide) hk
    exact_mod_cast this)
  have bsz : ∀ c : Int, -size < c → c < size → Bd k c := fun c h1 h2 => by
    unfold Bd
    have : ((2 ^ k : Nat) : Int) = 2 ^ k := by simp
    omega
  rw [rd_law_polynomial, show startD 5 [.ref s, .int (n : Int), .int size] = [some (.ref s), some (.int (n : Int)), some (.int size), none, none] from rfl]
  simp only [fSeq_eq, fSet_eq, fLc_eq, fRng1_eq, fCons_eq, fNil_eq, fVar_zero, fVar_succ]
  refine ⟨by unfold bigI; omega, ?_⟩
  rw [Int.toNat_natCast, List.append_assoc]
  refine draw_loop (R := Bd k) (post := post) (fun _ => trivial) (fun i pre1 acc QQ hp h => ?_) (by rw [List.length_append, hS.len]) n 0 [] pre (by simp; omega) (fun c hc => by simp at hc) hS (fun p pre1 hpl hpb hp1 => ?_)
  · simp only [fGName_eq, wipeD, List.set_cons_succ, List.set_cons_zero, fBin_eq, fCall_eq, fCons_eq, fNil_eq, fVar_zero, fVar_succ, fC_eq, gMul_ii, gSub_ii]
    refine ⟨IntMulOk.of_left (by decide), rfl, s, pre1, _, 2 * size - 1, rfl, rfl, hp, by omega, by omega, fun m pre2 h0 h1 hp2 => ?_⟩
    simp only [gSub_ii, gAdd_ii]
    exact h _ pre2 (bsz _ (by omega) (by omega)) hp2
  · have hl1 : (pre1 ++ post).length = (pre ++ post).length := by rw [List.length_append, List.length_append, hS.len, hp1.len]
    simp only [fRet_eq, fBin_eq, fFn_eq, fCons_eq, fNil_eq, fVar_zero, fVar_succ, List.set_cons_succ, List.set_cons_zero, gTuple_1, sqD_ref, fTup_eq, fCall_eq, fLst_eq, fC_eq, fUn_eq, gNeg_i]
    rw [← List.append_assoc, ← hl1, get_app0]
    simp only [List.getElem?_cons_zero, Option.bind_some, seqOb_lst, gSub_ii]
    refine ⟨by simp, rfl, ?_⟩
    refine ⟨s, (pre1 ++ (post ++ [Ob.lst (p.map D.int)])).length, pre1, post ++ [Ob.lst (p.map D.int), Ob.lst [D.int 1, .int (-1), .int 2, .int (size - 1)]], [D.int 1, .int (-1), .int 2, .int (size - 1)], by simp, by simp, hp1, by rw [List.length_append, hp1.len]; omega, ?_, by simp, by simp, ?_, fun d pre2 hd hp2 => ?_⟩
    · have : pre1 ++ post ++ [Ob.lst (p.map D.int)] ++ [Ob.lst [.int 1, .int (-1), .int 2, .int (size - 1)]] = (pre1 ++ (post ++ [Ob.lst (p.map D.int)])) ++ [Ob.lst [.int 1, .int (-1), .int 2, .int (size - 1)]] := by simp
      rw [this, get_app0]; rfl
    · intro d hd
      simp at hd
      rcases hd with rfl | rfl | rfl | rfl <;> trivial
    · obtain ⟨v, rfl, bv⟩ : ∃ v : Int, d = .int v ∧ Bd k v := by
        simp at hd
        rcases hd with rfl | rfl | rfl | rfl
        · exact ⟨_, rfl, bsz _ (by omega) (by omega)⟩
        · exact ⟨_, rfl, bsz _ (by omega) (by omega)⟩
        · refine ⟨_, rfl, ?_⟩
          exact Bd.mono (n := 2) (by unfold Bd; decide) hk2
        · exact ⟨_, rfl, bsz _ (by omega) (by omega)⟩
      simp only [gAdd_tt]
      refine ⟨by simp, by simp [lim]; simp at hpl; omega, ?_⟩
      have e1 : p.map D.int ++ [D.int v] = (p ++ [v]).map D.int := by simp
      rw [e1]
      refine ret_srcA hw hS hp2 (d := tz (p ++ [v])) lt_ints (qd _ pre2 (by simp at hpl ⊢; omega) (fun c hc => ?_) hp2)
      rcases List.mem_append.mp hc with z | z
      · exact hpb c z
      · simp at z; exact z ▸ bv
end K01
namespace K01
open PySem PySem.Spec PyProof.Rows L2 Y M
/-- a store of lists of numbers -/
def IntSt (st : Sto) : Prop := ∀ o ∈ st, ∃ p : List Int, o = .lst (p.map D.int) ∨ o = .ro (p.map D.int)
theorem IntSt.lt {st : Sto} (h : IntSt st) {n i : Nat} {o : Ob} (e : st[i]? = some o) : Ob.lt n o := by
  obtain ⟨p, rfl | rfl⟩ := h o (List.mem_of_getElem? e)
  · exact lt_ints
  · exact lt_ints
theorem src_mk {st : Sto} {g c : Nat} {great cells : List Int} (h : IntSt st) (hg : st[g]? = some (.lst (great.map D.int))) (hc : st[c]? = some (.lst (cells.map D.int))) (hgc : g ≠ c) (h2 : ∀ x ∈ great, 0 ≤ x) (h3 : cells ≠ []) (h4 : ∀ x ∈ cells, 0 ≤ x ∧ x < 2147483647) :
    Src st.length (st ++ [.lst [.int 0, .int 0, .ref g, .ref c]]) := by
  have lg := (List.getElem?_eq_some_iff.mp hg).1
  have lc := (List.getElem?_eq_some_iff.mp hc).1
  refine ⟨by simp, fun i o e => ?_, g, c, 0, 0, great, cells, by simp, lg, lc, hgc, by decide, by decide, by rw [List.getElem?_append_left lg]; exact hg, h2, by rw [List.getElem?_append_left lc]; exact hc, h3, h4⟩
  by_cases hi : i < st.length
  · rw [List.getElem?_append_left hi] at e
    exact h.lt e
  · have hi2 : i = st.length := by
      have := (List.getElem?_eq_some_iff.mp e).1
      simp at this; omega
    subst hi2
    rw [get_app0] at e
    cases e
    exact ⟨trivial, trivial, (by show g < st.length + 1; omega), (by show c < st.length + 1; omega), trivial⟩
theorem ret_mk {st st' : Sto} {QD : D → Sto → Prop} {s : Nat} (hS : Src s st') (hle : st.length ≤ st'.length) (q : QD (.ref s) st') : RetOk st QD (.ref s) st' :=
  ⟨st', List.prefix_refl _, hle, by rw [hS.len]; exact hS.wf, by show s < st'.length; rw [hS.len]; omega, q⟩
theorem th_law_src : Th 4 1 C_law_src rd_law_src := by
  intro ds st QD hl hw hlt ⟨ns, hns, h, qd⟩
  obtain ⟨x, hds, hI, hint⟩ : ∃ x, ds = [x] ∧ (∀ l, itD (st ++ l) x = some (ns.map D.int)) ∧ IntSt st := by
    rcases h with ⟨rfl, rfl⟩ | ⟨rfl, rfl | rfl⟩
    · exact ⟨_, rfl, fun l => rfl, fun o ho => by simp at ho⟩
    · exact ⟨_, rfl, fun l => rfl, fun o ho => by simp at ho; exact ⟨ns, .inl ho⟩⟩
    · exact ⟨_, rfl, fun l => rfl, fun o ho => by simp at ho; exact ⟨ns, .inr ho⟩⟩
  subst hds
  have hI0 : itD st x = some (ns.map D.int) := by have := hI []; rwa [List.append_nil] at this
  rw [rd_law_src, show startD 4 [x] = [some x, none, none, none] from rfl]
  simp only [fSeq_eq, fSet_eq, fLc_eq, fSq_eq, fVar_zero, hI0]
  refine loopC_ints id ns (by unfold lim; omega) (fun acc => hI _) (fun c hc acc R hR => ?_) ?_
  · simp only [fGName_eq, wipeD, List.set_cons_succ, List.set_cons_zero, fFn_eq, fCons_eq, fNil_eq, fVar_zero, fVar_succ, gInt_i]
    exact hR
  · rw [List.map_id]
    simp only [fExp_eq, fMt_eq, fVar_zero, fVar_succ, List.set_cons_succ, List.set_cons_zero, isLst_eq, lstAt_app0, lstAt_cons0, Option.isSome_some, fCons_eq, fNil_eq, fBin_eq, fFn_eq, fC_eq, gLen_1, sqD_ref, get_app0, List.getElem?_cons_zero, Option.bind_some, seqOb_lst, gMul_ii, gAdd_ii, List.length_map]
    refine ⟨trivial, IntMulOk.of_right (by decide), ?_⟩
    simp only [gApp_r, lstAt_app0, lstAt_cons0, set_app0, List.set_cons_zero]
    refine ⟨by simp [lim]; omega, ?_⟩
    generalize hce : (ns.length : Int) * 37 + 5 = ce
    have ecells : ns.map D.int ++ [D.int ce] = (ns ++ [ce]).map D.int := by simp
    rw [ecells]
    have hcl : (ns ++ [ce]).length ≤ 1001 := by simp; omega
    have hcn : ns ++ [ce] ≠ [] := by simp
    generalize ns ++ [ce] = cells at *
    obtain ⟨c0, hc0⟩ : ∃ c0, cells[0]? = some c0 := ⟨cells[0]'(List.length_pos_iff.mpr hcn), List.getElem?_eq_getElem _⟩
    have hC : ∀ J : Sto, (st ++ [Ob.lst (cells.map D.int)] ++ J)[st.length]? = some (.lst (cells.map D.int)) := fun J => by rw [List.append_assoc, get_app0]; rfl
    have fin : ∀ (J : Sto) (g : Nat) (great : List Int) (o3 : Option D), IntSt J → (st ++ [Ob.lst (cells.map D.int)] ++ J)[g]? = some (.lst (great.map D.int)) → (∀ y ∈ great, 0 ≤ y) →
        fRet (fLst (fCons (fC (.int 0)) (fCons (fC (.int 0)) (fCons (fVar 2) (fCons (fLc (fSq (fVar 1)) (fGName 3) fYes (fBin gMod (fFn gInt (fCons (fVar 3) fNil)) (fC (.int 2147483647))) [3]) fNil))))) { nx := fun _ st' => RetOk st QD .non st', rt := RetOk st QD } [some x, some (.ref st.length), some (.ref g), o3] (st ++ [Ob.lst (cells.map D.int)] ++ J) := by
      intro J g great o3 hJ hg hgr
      have lg := (List.getElem?_eq_some_iff.mp hg).1
      simp only [fRet_eq, fLst_eq, fCons_eq, fNil_eq, fC_eq, fVar_zero, fVar_succ, fLc_eq, fSq_eq, itD_ref, hC, Option.bind_some, seqOb_lst]
      refine loopC_ints (·.fmod 2147483647) cells (by unfold lim; omega) (fun acc => ?_) (fun c hc acc R hR => ?_) ?_
      · unfold standI
        rw [itD_ref, List.append_assoc, hC]; rfl
      · simp only [fGName_eq, wipeD, List.set_cons_succ, List.set_cons_zero, fFn_eq, fCons_eq, fNil_eq, fVar_zero, fVar_succ, gInt_i, fBin_eq, fC_eq, gMod_ii]
        exact ⟨by decide, hR⟩
      · refine ⟨by simp, ?_⟩
        have hst : IntSt (st ++ [Ob.lst (cells.map D.int)] ++ J ++ [Ob.lst ((cells.map (·.fmod 2147483647)).map D.int)]) := fun o ho => by
          simp only [List.mem_append, List.mem_singleton] at ho
          rcases ho with ((ho | ho) | ho) | ho
          · exact hint o ho
          · exact ⟨_, .inl ho⟩
          · exact hJ o ho
          · exact ⟨_, .inl ho⟩
        have hS := src_mk (g := g) (c := (st ++ [Ob.lst (cells.map D.int)] ++ J).length) (great := great) (cells := cells.map (·.fmod 2147483647)) hst (by rw [List.getElem?_append_left lg]; exact hg) (by rw [get_app0]; rfl) (by omega) hgr (by simpa using hcn) (fun y hy => by
          obtain ⟨z, _, rfl⟩ := List.mem_map.mp hy
          rw [Int.fmod_eq_emod_of_nonneg _ (by decide)]
          omega)
        exact ret_mk hS (by simp) (qd _ _ hS)
    simp only [fSeq_eq, fSet_eq, fLst_eq, fNil_eq, List.set_cons_succ, List.set_cons_zero]
    refine ⟨by decide, ?_⟩
    rw [fIfS_eq]
    simp only [fTest_eq, fBin_eq, fFn_eq, fCons_eq, fNil_eq, fVar_zero, fVar_succ, fC_eq, gIx_i, sqD_ref, hC, Option.bind_some, seqOb_lst]
    rw [show (0 : Int) = ((0 : Nat) : Int) from rfl, atI_mapN hc0]
    simp only [gInt_i, gMod_ii, gEq_ii, decide_eq_true_eq]
    refine ⟨by decide, ?_⟩
    split
    · simp only [fSet_eq, fLc_eq, fSq_eq, fVar_zero, fVar_succ, itD_ref, hC, Option.bind_some, seqOb_lst, List.set_cons_succ, List.set_cons_zero]
      have hitems : cells.map D.int = cells.map D.int := rfl
      refine loopC_filter (fun d => match d with | .int c => decide ((10 : Int) ^ (18 : Int).toNat ≤ (if c < 0 then -c else c)) | _ => false) (fun d => match d with | .int c => .int (if c < 0 then -c else c) | d => d) (cells.map D.int) [] (by simp [lim]; omega) (fun acc => ?_) (fun y hy acc R R' hR => ?_) ?_
      · unfold standI
        rw [itD_ref, List.append_assoc, hC]; rfl
      · obtain ⟨c, hc, rfl⟩ := List.mem_map.mp hy
        simp only [fGName_eq, wipeD, List.set_cons_succ, List.set_cons_zero, fTest_eq, fFn_eq, fCons_eq, fNil_eq, fVar_zero, fVar_succ, fBin_eq, fC_eq, gAbs_i, gPow_ii, gGe_ii]
        exact ⟨⟨by decide, by decide, by decide⟩, hR⟩
      · have eg : ((cells.map D.int).filter (fun d => match d with | .int c => decide ((10 : Int) ^ (18 : Int).toNat ≤ (if c < 0 then -c else c)) | _ => false)).map (fun d => match d with | .int c => D.int (if c < 0 then -c else c) | d => d) = ((cells.filter fun c => decide ((10 : Int) ^ (18 : Int).toNat ≤ (if c < 0 then -c else c))).map fun c => if c < 0 then -c else c).map D.int := by
          rw [List.filter_map, List.map_map, List.map_map]
          rfl
        rw [List.nil_append, eg]
        have key := fin ([Ob.lst []] ++ [Ob.lst (((cells.filter fun c => decide ((10 : Int) ^ (18 : Int).toNat ≤ (if c < 0 then -c else c))).map fun c => if c < 0 then -c else c).map D.int)]) (st ++ [Ob.lst (cells.map D.int)] ++ [Ob.lst []]).length ((cells.filter fun c => decide ((10 : Int) ^ (18 : Int).toNat ≤ (if c < 0 then -c else c))).map fun c => if c < 0 then -c else c) none
          (fun o ho => by
            simp only [List.mem_append, List.mem_singleton] at ho
            rcases ho with ho | ho
            · exact ⟨[], .inl (by simpa using ho)⟩
            · exact ⟨_, .inl ho⟩) (by rw [← List.append_assoc, get_app0]; rfl) (fun y hy => by
            obtain ⟨z, _, rfl⟩ := List.mem_map.mp hy
            split <;> omega)
        rw [← List.append_assoc] at key
        exact key
    · exact fin [.lst []] (st ++ [Ob.lst (cells.map D.int)]).length [] none (fun o ho => ⟨[], .inl (by simpa using ho)⟩) (by rw [get_app0]; rfl) (fun y hy => by simp at hy)
end K01
namespace K01
open PySem PySem.Spec PyProof.Rows L2 Y M
theorem eqv_pair {a b c d : Int} : eqvD (cR a b) (cR c d) = (decide (a = c) && decide (b = d)) := by
  simp [eqvD, cR, D.py, D.pyAll, PyData.eqv, PyData.eqvAll]
  rfl
theorem flat_pair {a b : Int} : D.flat (cR a b) = true := by rfl
end K01
namespace K01
open PySem PySem.Spec PyProof.Rows L2 Y M
theorem num_le {a b : Int} : (Rat.divInt a b).num.natAbs ≤ a.natAbs := by
  rw [Rat.num_divInt]
  refine Nat.le_trans natAbs_ediv_le ?_
  rw [Int.natAbs_mul]
  have : b.sign.natAbs ≤ 1 := by rw [Int.natAbs_sign]; split <;> omega
  calc _ ≤ 1 * a.natAbs := Nat.mul_le_mul_right _ this
    _ = _ := Nat.one_mul _
theorem flat_Rs : ∀ {acc : List Rat}, D.flatAll (acc.map tR) = true
  | [] => rfl
  | _ :: _ => by
    rw [List.map_cons, D.flatAll, flat_Rs]; rfl
theorem dep_R {q : Rat} : (tR q).py.depth ≤ 62 := by
  simp [tR, D.py, D.pyAll, PyData.depth, PyData.depthAll]
theorem any_R {q : Rat} : ∀ {acc : List Rat}, ((acc.map tR).any fun z => eqvD z (tR q)) = decide (q ∈ acc)
  | [] => by simp
  | p :: acc => by
    rw [List.map_cons, List.any_cons, any_R]
    have h : eqvD (tR p) (tR q) = decide (q = p) := by
      rw [show eqvD (tR p) (tR q) = (decide (p.num = q.num) && decide ((p.den : Int) = q.den)) from eqv_pair]
      rw [← Bool.decide_and, decide_eq_decide]
      constructor
      · rintro ⟨h1, h2⟩
        exact (Rat.ext h1 (by exact_mod_cast h2)).symm
      · rintro rfl
        exact ⟨rfl, rfl⟩
    rw [h, ← Bool.decide_or, decide_eq_decide, List.mem_cons]
theorem notin_R {st : Sto} {n : Nat} {acc : List Rat} {q : Rat} {Q : D → Sto → Prop} (h : st[n]? = some (.lst (acc.map tR))) (hq : Q (.bl (!decide (q ∈ acc))) st) : gNotIn (tR q) (.ref n) st Q := by
  unfold gNotIn gInW
  have h2 : lsD st (.ref n) = some (acc.map tR) := by rw [lsD_ref, h]; rfl
  rw [h2]
  refine ⟨rfl, flat_Rs, Nat.le_trans dep_R (by decide), fun z hz => ?_, ?_⟩
  · obtain ⟨p, _, rfl⟩ := List.mem_map.mp hz
    exact dep_R
  · rw [if_pos rfl, any_R]; exact hq
theorem Ob.lt_mono {n m : Nat} (hle : n ≤ m) : ∀ {o : Ob}, Ob.lt n o → Ob.lt m o
  | .lst xs, h => D.ltAll_mono hle xs h
  | .ro xs, h => D.ltAll_mono hle xs h
  | .ins C fs, h => by
    have gen : ∀ fs : List (Str × D), D.ltF n fs → D.ltF m fs := by
      intro fs
      induction fs with
      | nil => intro _; trivial
      | cons f fs ih => intro q; exact ⟨D.lt_mono hle _ q.1, ih q.2⟩
    exact gen fs h
  | .gone, _ => trivial
theorem ret_srcX {s i : Nat} {pre pre' post ex : Sto} {QD : D → Sto → Prop} (hw : Wf (pre ++ post).length (pre ++ post)) (h : Src s pre) (h' : Src s pre') (he : ∀ o ∈ ex, Ob.lt 0 o) (hi : i < (pre' ++ post ++ ex).length) (q : QD (.ref i) (pre' ++ post ++ ex)) :
    RetOk (pre ++ post) QD (.ref i) (pre' ++ post ++ ex) := by
  refine ⟨_, List.prefix_refl _, by simp [h.len, h'.len], fun j o ho => ?_, hi, q⟩
  by_cases hj : j < (pre' ++ post).length
  · rw [List.getElem?_append_left hj] at ho
    exact Ob.lt_mono (by simp) (Src.wfAll hw h h' j o ho)
  · rw [List.getElem?_append_right (by omega)] at ho
    exact Ob.lt_mono (Nat.zero_le _) (he o (List.mem_of_getElem? ho))
structure Fnd (b : Int) (acc : List Rat) : Prop where
  nd : acc.Nodup
  sz : ∀ q ∈ acc, BR 7 q
  lo : ∀ q ∈ acc, q.num < b
theorem Fnd.nil {b : Int} : Fnd b [] := ⟨List.nodup_nil, fun q h => (nomatch h), fun q h => (nomatch h)⟩
theorem Fnd.snoc {b c : Int} {acc : List Rat} {q : Rat} (h : Fnd b acc) (hn : q ∉ acc) (hz : BR 7 q) (hb : b ≤ c) (hq : q.num < c) : Fnd c (acc ++ [q]) := by
  refine ⟨?_, fun p hp => ?_, fun p hp => ?_⟩
  · rw [List.nodup_append]
    refine ⟨h.nd, List.nodup_cons.mpr ⟨List.not_mem_nil, List.nodup_nil⟩, fun a ha b hb e => ?_⟩
    rw [List.mem_singleton.mp hb] at e
    exact hn (e ▸ ha)
  · rcases List.mem_append.mp hp with z | z
    · exact h.sz p z
    · rw [List.mem_singleton.mp z]; exact hz
  · rcases List.mem_append.mp hp with z | z
    · exact Int.lt_of_lt_of_le (h.lo p z) hb
    · rw [List.mem_singleton.mp z]; exact hq
theorem Fnd.lns {b : Int} {acc : List Rat} (h : Fnd b acc) (hl : acc.length = 5) : Lns (acc.map fun q => (-q.num, (q.den : Int))) := by
  refine ⟨by simpa using hl, fun l hm => ?_, fun i j l m h1 h2 hij e => ?_⟩
  · obtain ⟨q, hq, rfl⟩ := List.mem_map.mp hm
    have hz := h.sz q hq
    refine ⟨?_, ?_, hz.1.neg, hz.2⟩
    · show Int.gcd (-q.num) q.den = 1
      rw [Int.neg_gcd]
      exact q.reduced
    · show 0 < (q.den : Int)
      have := q.den_nz
      omega
  · rw [List.getElem?_map] at h1 h2
    obtain ⟨p, hp, rfl⟩ := Option.map_eq_some_iff.mp h1
    obtain ⟨q, hq, rfl⟩ := Option.map_eq_some_iff.mp h2
    have e1 : p.num * (q.den : Int) = q.num * (p.den : Int) := by
      have e' : -p.num * (q.den : Int) = -q.num * (p.den : Int) := e
      rw [Int.neg_mul, Int.neg_mul] at e'
      omega
    have e2 : p = q := by
      rw [← Rat.num_divInt_den p, ← Rat.num_divInt_den q]
      rw [Rat.divInt_eq_divInt_iff (by have := p.den_nz; omega) (by have := q.den_nz; omega)]
      exact e1
    subst e2
    obtain ⟨li, ei⟩ := List.getElem?_eq_some_iff.mp hp
    obtain ⟨lj, ej⟩ := List.getElem?_eq_some_iff.mp hq
    exact hij ((List.getElem_inj h.nd).mp (ei.trans ej.symm))
section
variable {s n0 : Nat} {post : Sto}
theorem tail_get (pre1 : Sto) (o : Ob) (hn : n0 = (pre1 ++ post).length) : (pre1 ++ (post ++ [o]))[n0]? = some o := by rw [← List.append_assoc, hn, get_app0]; rfl
theorem tail_lst (pre1 : Sto) (xs : List D) (hn : n0 = (pre1 ++ post).length) : lstAt (pre1 ++ (post ++ [Ob.lst xs])) n0 = some xs := by unfold lstAt; rw [tail_get pre1 _ hn]
theorem tail_set (pre1 : Sto) (o o2 : Ob) (hn : n0 = (pre1 ++ post).length) : (pre1 ++ (post ++ [o])).set n0 o2 = pre1 ++ (post ++ [o2]) := by rw [← List.append_assoc, hn, set_app0, List.append_assoc]; rfl
theorem lin_loop1 {E : DEnds} (hn : ∀ pre1, Src s pre1 → n0 = (pre1 ++ post).length)
    (hE : ∀ (acc : List Rat) pre1 o3 o5, acc.length ≤ 5 → Fnd 100 acc → Src s pre1 → E.nx [some (.ref s), some (.int 5), some (.ref n0), o3, none, o5] (pre1 ++ (post ++ [.lst (acc.map tR)]))) :
    ∀ (k : Nat) (lo : Int) (acc : List Rat) pre1 o3 o5, acc.length ≤ 5 → Fnd 100 acc → Src s pre1 →
      loopF (fun _ => True) tg_law_linear_2 bd_law_linear_2 E (rngD lo k 1) [some (.ref s), some (.int 5), some (.ref n0), o3, none, o5] (pre1 ++ (post ++ [.lst (acc.map tR)])) := by
  intro k
  induction k with
  | zero => intro lo acc pre1 o3 o5 hl hf hS; exact ⟨trivial, hE acc pre1 o3 o5 hl hf hS⟩
  | succ k ih =>
    intro lo acc pre1 o3 o5 hl hf hS
    rw [rngD_succ, loopF_cons]
    refine ⟨trivial, ?_⟩
    rw [tg_law_linear_2, fGName_eq, bd_law_linear_2, fSeq_eq, fIfS_eq]
    simp only [List.set_cons_succ, List.set_cons_zero, fTest_eq, fBin_eq, fFn_eq, fCons_eq, fNil_eq, fVar_zero, fVar_succ, gLen_1, sqD_ref, tail_get pre1 _ (hn pre1 hS), Option.bind_some, seqOb_lst, gEq_ii, decide_eq_true_eq, List.length_map]
    by_cases h5 : (acc.length : Int) = 5
    · rw [if_pos h5, fBreak_eq]
      exact hE acc pre1 _ o5 hl hf hS
    · rw [if_neg h5, fNext_eq]
      dsimp only
      simp only [fSeq_eq, fSet_eq, fCall_eq, fCons_eq, fNil_eq, fBin_eq, fVar_zero, fVar_succ, fC_eq]
      refine ⟨rfl, s, pre1, _, 199, rfl, rfl, hS, by decide, by decide, fun n1 pre2 a1 a2 hS2 => ?_⟩
      simp only [gSub_ii]
      refine ⟨rfl, s, pre2, _, 98, rfl, rfl, hS2, by decide, by decide, fun n2 pre3 b1 b2 hS3 => ?_⟩
      simp only [gAdd_ii]
      have c1 : Bd 7 (n1 - 99) := by unfold Bd; omega
      have c2 : Bd 7 (1 + n2) := by unfold Bd; omega
      refine ⟨rfl, n1 - 99, 1 + n2, 7, rfl, by omega, c1, c2, by omega, ?_⟩
      have hz := BR.divInt c1 c2 (by omega)
      have hq := @num_le (n1 - 99) (1 + n2)
      generalize Rat.divInt (n1 - 99) (1 + n2) = q at *
      simp only [List.set_cons_succ, List.set_cons_zero, fIfS_eq, fTest_eq, fBin_eq, fVar_zero, fVar_succ]
      refine notin_R (tail_get pre3 _ (hn pre3 hS3)) ?_
      by_cases hm : q ∈ acc
      · rw [decide_eq_true hm]
        simp only [Bool.not_true, Bool.false_eq_true, if_false, fNext_eq]
        exact ih (lo + 1) acc pre3 _ _ hl hf hS3
      · rw [decide_eq_false hm]
        simp only [Bool.not_false, if_true, fExp_eq, fMt_eq, fVar_zero, fVar_succ, isLst_eq, tail_lst pre3 _ (hn pre3 hS3), Option.isSome_some, fCons_eq, fNil_eq, gApp_r, tail_set pre3 _ _ (hn pre3 hS3)]
        refine ⟨trivial, by simp [lim]; omega, ?_⟩
        have e : acc.map tR ++ [tR q] = (acc ++ [q]).map tR := by simp
        rw [e]
        exact ih (lo + 1) (acc ++ [q]) pre3 _ _ (by simp; omega) (hf.snoc hm hz (by omega) (by omega)) hS3
theorem lin_loop2 {E : DEnds} {o3 o5 : Option D} {pre1 : Sto} (hS : Src s pre1) (hn : n0 = (pre1 ++ post).length)
    (hE : ∀ (acc : List Rat) o4, acc.length = 5 → Fnd 105 acc → E.nx [some (.ref s), some (.int 5), some (.ref n0), o3, o4, o5] (pre1 ++ (post ++ [.lst (acc.map tR)]))) :
    ∀ (k j : Nat) (acc : List Rat) o4, k + j ≤ 5 → acc.length + k = 5 → Fnd (100 + j) acc →
      loopF (fun _ => True) tg_law_linear_1 bd_law_linear_1 E (rngD j k 1) [some (.ref s), some (.int 5), some (.ref n0), o3, o4, o5] (pre1 ++ (post ++ [.lst (acc.map tR)])) := by
  intro k
  induction k with
  | zero => intro j acc o4 hj hl hf; exact ⟨trivial, hE acc o4 hl ⟨hf.nd, hf.sz, fun q hq => by have := hf.lo q hq; omega⟩⟩
  | succ k ih =>
    intro j acc o4 hj hl hf
    rw [rngD_succ, loopF_cons]
    refine ⟨trivial, ?_⟩
    rw [tg_law_linear_1, fGName_eq, bd_law_linear_1]
    simp only [List.set_cons_succ, List.set_cons_zero, fExp_eq, fMt_eq, fTup_eq, fC_eq, fBin_eq, fVar_zero, fVar_succ, isLst_eq, tail_lst pre1 _ hn, Option.isSome_some, fCons_eq, fNil_eq, gAdd_ii, gApp_r, tail_set pre1 _ _ hn]
    refine ⟨trivial, by simp, by simp [lim]; omega, ?_⟩
    have e0 : D.tup [D.int (100 + (j : Int)), D.int 1] = tR ((100 + (j : Int) : Int) : Rat) := rfl
    have e : acc.map tR ++ [tR ((100 + (j : Int) : Int) : Rat)] = (acc ++ [((100 + (j : Int) : Int) : Rat)]).map tR := by simp
    rw [e0, e]
    have := ih (j + 1) (acc ++ [((100 + (j : Int) : Int) : Rat)]) (some (.int j)) (by omega) (by simp; omega) (hf.snoc (fun hm => by
      have h1 := hf.lo _ hm
      have h2 : ((100 + (j : Int) : Int) : Rat).num = 100 + (j : Int) := rfl
      omega) (BR.int (by unfold Bd; omega) (by decide)) (by push_cast; omega) (by show 100 + (j : Int) < _; push_cast; omega))
    exact this
end
theorem lt_Rs {n : Nat} : ∀ {acc : List Rat}, D.ltAll n (acc.map tR)
  | [] => trivial
  | _ :: _ => ⟨⟨trivial, trivial, trivial⟩, lt_Rs⟩
theorem lt_lns {n : Nat} : ∀ {ls : List (Int × Int)}, D.ltAll n (ls.map fun l => tz [l.1, l.2])
  | [] => trivial
  | _ :: _ => ⟨⟨trivial, trivial, trivial⟩, lt_lns⟩
theorem th_law_linear : Th 6 2 C_law_linear rd_law_linear := by
  intro ds st QD hl hw hlt ⟨s, pre, post, e, e2, hS, qd⟩
  subst e; subst e2
  have hn : ∀ pre1, Src s pre1 → (pre ++ post).length = (pre1 ++ post).length := fun pre1 h => by rw [List.length_append, List.length_append, h.len, hS.len]
  rw [rd_law_linear, show startD 6 [.ref s, .int 5] = [some (.ref s), some (.int 5), none, none, none, none] from rfl]
  simp only [fSeq_eq, fSet_eq, fLst_eq, fNil_eq, List.set_cons_succ, List.set_cons_zero]
  refine ⟨by decide, ?_⟩
  rw [fFor_eq, fRng1_eq]
  simp only [fCons_eq, fNil_eq, fC_eq]
  refine ⟨by unfold bigI; omega, ?_⟩
  rw [List.append_assoc]
  refine lin_loop1 (n0 := (pre ++ post).length) hn (fun acc pre1 o3 o5 hl hf hS1 => ?_) 40 0 [] pre none none (by simp) Fnd.nil hS
  simp only [fSeq_eq, fFor_eq, fRng1_eq, fCons_eq, fNil_eq, fBin_eq, fFn_eq, fVar_zero, fVar_succ, gLen_1]
  rw [sqD_ref, tail_get pre1 _ (hn pre1 hS1)]
  simp only [Option.bind_some, seqOb_lst, gSub_ii, fNil_eq, List.length_map]
  refine ⟨by unfold bigI; omega, ?_⟩
  rw [show ((5 : Int) - (acc.length : Int)).toNat = 5 - acc.length from by omega]
  refine lin_loop2 (n0 := (pre ++ post).length) hS1 (hn pre1 hS1) (fun acc o4 hl hf => ?_) (5 - acc.length) 0 acc none (by omega) (by omega) ⟨hf.nd, hf.sz, fun q hq => by have := hf.lo q hq; omega⟩
  simp only [fRet_eq, fLc_eq, fSq_eq, fVar_zero, fVar_succ, itD_ref, tail_get pre1 _ (hn pre1 hS1), Option.bind_some, seqOb_lst]
  rw [← List.append_assoc]
  refine loopC_any (st := pre1 ++ post ++ [Ob.lst (acc.map tR)]) (fun q : Rat => tz [-q.num, (q.den : Int)]) tR acc (by simp [lim]; omega) (fun acc2 => ?_) (fun q hq acc2 R hR => ?_) ?_
  · unfold standI
    rw [itD_ref, hn pre1 hS1, List.append_assoc (pre1 ++ post), get_app0]; rfl
  · simp only [fGName_eq, wipeD, List.set_cons_succ, List.set_cons_zero, fTup_eq, fCons_eq, fNil_eq, fUn_eq, fBin_eq, fVar_zero, fVar_succ, fC_eq, gIx_i, sqD_tup, Option.bind_some, atI_0, atI_1, gNeg_i]
    exact ⟨by simp, hR⟩
  · have e1 : acc.map (fun q : Rat => tz [-q.num, (q.den : Int)]) = (acc.map fun q => (-q.num, (q.den : Int))).map fun l => tz [l.1, l.2] := by rw [List.map_map]; rfl
    have hln : (pre1 ++ post ++ [Ob.lst (acc.map tR)]).length = (pre ++ post).length + 1 := by rw [List.length_append, ← hn pre1 hS1]; rfl
    have key := qd (acc.map fun q => (-q.num, (q.den : Int))) pre1 (acc.map tR) (hf.lns hl) hS1 lt_Rs
    rw [hln, e1, List.append_assoc (pre1 ++ post)]
    refine ret_srcX hw hS hS1 (fun o ho => ?_) (by simp only [List.length_append, List.length_cons, List.length_nil, hS.len, hS1.len]; omega) key
    simp only [List.cons_append, List.nil_append, List.mem_cons, List.not_mem_nil, or_false] at ho
    rcases ho with rfl | rfl
    · exact lt_Rs
    · exact lt_lns
end K01
namespace K01
open PySem PySem.Spec PyProof.Rows L2 Y M
theorem evR_into {x : Rat} {q : List Int} : ∀ {p : List Int}, evR (intoL p q) x = evR p (evR q x)
  | [] => rfl
  | c :: p => by
    rw [intoL, evR_trim, evR_addL, evR_trim, evR_mulL, evR_trim, evR_into, evR_cons, evR_cons, evR_nil]
    grind
theorem tR_zero : tR 0 = D.tup [.int 0, .int 1] := rfl
theorem plain_R {q : Rat} : plain (tR q) = true := by rfl
theorem dep_tR {q : Rat} : dep (tR q) = 2 := by rfl
theorem len_mulL_le : ∀ {p q : List Int}, (mulL p q).length ≤ p.length + q.length
  | [], q => by simp [mulL]
  | a :: p, q => by
    simp only [mulL, len_addL, List.length_cons, List.length_map]
    have := @len_mulL_le p q
    omega
theorem cpow {b e : Int} (h1 : 0 ≤ e) (h2 : CPow b e) : CPow b e := h2
theorem bd_pmul {n m : Nat} {p q : List Int} (h : BdL n p) (k : BdL m q) : BdL (n + m + p.length) (trim (mulL p q)) := fun c hc => bd_mulL h k c (mem_trim hc)
theorem evR_bd' {n m N : Nat} {x : Rat} {p : List Int} (hx : BR m x) (hn : 1 ≤ n) (h : BdL n p) (e : p.length * (n + m + 1) + 1 ≤ N) : BR N (evR p x) := (evR_bd hx hn h).mono e
theorem th_law_values : Th 12 1 C_law_values rd_law_values := by
  intro ds st QD hl hw hlt ⟨s, pre, post, e, e2, hS, qd⟩
  subst e; subst e2
  have p12 : CPow 10 12 := ⟨by decide, by decide, by decide⟩
  have p5 : CPow 10 5 := ⟨by decide, by decide, by decide⟩
  rw [rd_law_values, show startD 12 [.ref s] = [some (.ref s), none, none, none, none, none, none, none, none, none, none, none] from rfl]
  simp only [fSeq_eq, fSet_eq, fBin_eq, fFn_eq, fLc_eq, fRng1_eq, fCall_eq, fCons_eq, fNil_eq, fVar_zero, fC_eq]
  refine ⟨rfl, s, pre, _, 13, rfl, rfl, hS, by decide, by decide, fun n1 pre1 a1 a2 hS1 => ?_⟩
  refine ⟨by unfold bigI; omega, ?_⟩
  rw [List.append_assoc]
  refine draw_loop (R := Bd 40) (post := post) (fun _ => trivial) (fun i pre2 acc QQ hp h => ?_) (by rw [List.length_append, hS1.len]) n1.toNat 0 [] pre1 (by simp; omega) (fun c hc => by simp at hc) hS1 (fun p0 pre2 hpl hpb hS2 => ?_)
  · simp only [fGName_eq, wipeD, List.set_cons_succ, List.set_cons_zero, fCall_eq, fCons_eq, fNil_eq, fVar_zero, fVar_succ]
    exact ⟨rfl, s, pre2, _, rfl, rfl, hp, fun m pre3 hm hp3 => h m pre3 hm hp3⟩
  have hl1 : (pre1 ++ post).length = (pre2 ++ post).length := by rw [List.length_append, List.length_append, hS1.len, hS2.len]
  simp only [gTuple_1, sqD_ref]
  rw [← List.append_assoc, hl1, get_app0]
  simp only [List.getElem?_cons_zero, Option.bind_some, seqOb_lst, fTup_eq, fCall_eq, fCons_eq, fNil_eq, fVar_zero, fLst_eq, fC_eq, fUn_eq, gNeg_i, fBin_eq, gPow_ii, gSub_ii]
  refine ⟨p12, by decide, rfl, s, _, pre2, post ++ [Ob.lst (p0.map D.int)] ++ [Ob.lst [D.int 1, .int (-7), .int (10 ^ (12 : Int).toNat - 1)]], [D.int 1, .int (-7), .int (10 ^ (12 : Int).toNat - 1)], rfl, by simp, hS2, by rw [List.length_append, List.length_append, hS2.len]; omega, by rw [get_app0]; rfl, by simp, by simp, ?_, fun d pre3 hd hS3 => ?_⟩
  · intro d hd
    simp only [List.mem_cons, List.not_mem_nil, or_false] at hd
    rcases hd with rfl | rfl | rfl <;> trivial
  obtain ⟨v, rfl, bv⟩ : ∃ v : Int, d = .int v ∧ Bd 40 v := by
    simp only [List.mem_cons, List.not_mem_nil, or_false] at hd
    rcases hd with rfl | rfl | rfl
    · exact ⟨_, rfl, by unfold Bd; decide⟩
    · exact ⟨_, rfl, by unfold Bd; decide⟩
    · exact ⟨_, rfl, by unfold Bd; decide⟩
  simp only [gAdd_tt]
  simp only [List.length_nil, Nat.zero_add] at hpl
  refine ⟨by simp, by simp [lim]; omega, ?_⟩
  have e1 : p0.map D.int ++ [D.int v] = (p0 ++ [v]).map D.int := by simp
  rw [e1]
  have bp : BdL 40 (p0 ++ [v]) := fun c hc => by
    rcases List.mem_append.mp hc with z | z
    · exact hpb c z
    · simp at z; exact z ▸ bv
  have lp : (p0 ++ [v]).length ≤ 13 := by simp; omega
  clear hd hpb bv e1 hpl
  generalize p0 ++ [v] = p at *
  obtain ⟨ex, hex⟩ : ∃ ex, post ++ [Ob.lst (p0.map D.int)] ++ [Ob.lst [D.int 1, .int (-7), .int (10 ^ (12 : Int).toNat - 1)]] = post ++ ex := ⟨_, List.append_assoc ..⟩
  rw [hex]
  clear hex
  -- q, due
  simp only [fSet_eq, fSeq_eq, fCall_eq, fCons_eq, fNil_eq, fVar_zero, fVar_succ, List.set_cons_succ, List.set_cons_zero]
  refine ⟨rfl, s, pre3, _, rfl, rfl, hS3, fun q pre4 bq hS4 => ?_⟩
  have hb1 := Nat.mul_le_mul_right 82 lp
  have hb2 := Nat.mul_le_mul_right 42 lp
  refine ⟨rfl, p, q, 40, 41, rfl, by omega, by decide, bp, bq, by omega, ?_⟩
  simp only [fIfS_eq, fNot_eq, fTru_eq, fTup_eq, fCallK_eq, fC_eq, fSet_eq, fSeq_eq, fCall_eq, fCons_eq, fNil_eq, fVar_zero, fVar_succ, List.set_cons_succ, List.set_cons_zero]
  refine ⟨rfl, p, q, 40, 41, rfl, bp, bq, by omega, ?_⟩
  refine ⟨rfl, rfl, rfl, p, q, 40, 41, rfl, bp, bq, by omega, ?_⟩
  refine ⟨by decide, rfl, [], q, 40, 41, rfl, fun c hc => (nomatch hc), bq, by simp, ?_⟩
  refine ⟨by simp, by simp, by simp, rfl, .tup [tR (evR p q), tR (evR p q), tR 0], rfl, rfl, by simp [dep, depL], ?_⟩
  simp only [tru_bl, Bool.not_true, Bool.false_eq_true, if_false, fNext_eq]
  -- one, other
  have pol : ∀ (n : Int) (k : Nat), 0 ≤ n → n < k → ∃ m : Nat, 1 + n = (m : Int) ∧ m ≤ k := fun n k h1 h2 => ⟨(1 + n).toNat, by omega, by omega⟩
  simp only [fPar_eq, fBin_eq, fC_eq, fSeq_eq, fCall_eq, fCons_eq, fNil_eq, fVar_zero, fVar_succ]
  refine ⟨rfl, s, pre4, _, 5, rfl, rfl, hS4, by decide, by decide, fun n2 pre5 b1 b2 hS5 => ?_⟩
  obtain ⟨m2, e2, l2⟩ := pol n2 5 b1 b2
  simp only [gAdd_ii, gPow_ii, e2]
  refine ⟨p5, rfl, s, pre5, _, m2, 17, 10 ^ 5, rfl, rfl, hS5, by omega, by decide, by decide, by decide, by decide, fun one pre6 lo bo hS6 => ?_⟩
  refine ⟨rfl, s, pre6, _, 5, rfl, rfl, hS6, by decide, by decide, fun n3 pre7 c1 c2 hS7 => ?_⟩
  obtain ⟨m3, e3, l3⟩ := pol n3 5 c1 c2
  simp only [gAdd_ii, gPow_ii, e3]
  refine ⟨p5, rfl, s, pre7, _, m3, 17, 10 ^ 5, rfl, rfl, hS7, by omega, by decide, by decide, by decide, by decide, fun other pre8 lr br hS8 => ?_⟩
  simp only [fPar_eq, fBin_eq, fC_eq, fSeq_eq, fCall_eq, fCons_eq, fNil_eq, fVar_zero, fVar_succ, List.set_cons_succ, List.set_cons_zero]
  have lo6 : one.length ≤ 6 := by omega
  have lr6 : other.length ≤ 6 := by omega
  have hb3 := Nat.mul_le_mul_right 42 lo6
  have hb4 := Nat.mul_le_mul_right 42 lr6
  have hb5 := Nat.mul_le_mul_right 59 lo6
  have hb6 := Nat.mul_le_mul_right 59 lr6
  refine ⟨rfl, one, q, 17, 41, rfl, bo, bq, by omega, ?_⟩
  refine ⟨rfl, other, q, 17, 41, rfl, br, bq, by omega, ?_⟩
  simp only [fIfS_eq, fNot_eq, fTru_eq, fTup_eq, fPar_eq, fBin_eq, fC_eq, fSeq_eq, fCall_eq, fCons_eq, fNil_eq, fVar_zero, fVar_succ, List.set_cons_succ, List.set_cons_zero]
  refine ⟨rfl, one, other, 17, 17, rfl, by omega, by omega, bo, br, by omega, by omega, ?_⟩
  have lt1 : (trim (mulL one other)).length ≤ 12 := Nat.le_trans len_trim (Nat.le_trans len_mulL_le (by omega))
  have hb7 := Nat.mul_le_mul_right 42 lt1
  refine ⟨rfl, trim (mulL one other), q, 17 + 17 + one.length, 41, rfl, bd_pmul bo br, bq, by omega, ?_⟩
  refine ⟨by simp, ?_⟩
  refine ⟨rfl, one, q, 17, 41, rfl, by omega, by decide, bo, bq, by omega, ?_⟩
  refine ⟨rfl, other, q, 17, 41, rfl, by omega, by decide, br, bq, by omega, ?_⟩
  refine ⟨rfl, one, q, 17, 41, rfl, by omega, by decide, bo, bq, by omega, ?_⟩
  refine ⟨rfl, other, q, 17, 41, rfl, by omega, by decide, br, bq, by omega, ?_⟩
  refine ⟨rfl, evR one q, evR other q, 400, 400, rfl, evR_bd' bq (by decide) bo (by omega), evR_bd' bq (by decide) br (by omega), by decide, ?_⟩
  rw [evR_trim, evR_mulL]
  refine ⟨by simp, rfl, .tup [tR (evR one q), tR (evR other q), tR (evR one q * evR other q)], rfl, rfl, by simp [dep, depL], ?_⟩
  simp only [tru_bl, Bool.not_true, Bool.false_eq_true, if_false, fNext_eq]
  clear hb1 hb2 hb3 hb4 hb5 hb6 hb7
  -- inner, outer, small
  simp only [fPar_eq, fBin_eq, fC_eq, fSeq_eq, fCall_eq, fCons_eq, fNil_eq, fVar_zero, fVar_succ]
  refine ⟨rfl, s, pre8, _, 2, rfl, rfl, hS8, by decide, by decide, fun n4 pre9 b1 b2 hS9 => ?_⟩
  obtain ⟨m4, e4, l4⟩ := pol n4 2 b1 b2
  simp only [gAdd_ii, e4]
  refine ⟨rfl, s, pre9, _, m4, 5, 30, rfl, rfl, hS9, by omega, by decide, by decide, by decide, by decide, fun inner pre10 li bi hS10 => ?_⟩
  refine ⟨rfl, s, pre10, _, 3, rfl, rfl, hS10, by decide, by decide, fun n5 pre11 c1 c2 hS11 => ?_⟩
  obtain ⟨m5, e5, l5⟩ := pol n5 3 c1 c2
  simp only [gAdd_ii, e5]
  refine ⟨rfl, s, pre11, _, m5, 5, 30, rfl, rfl, hS11, by omega, by decide, by decide, by decide, by decide, fun outer pre12 lu bu hS12 => ?_⟩
  simp only [fSet_eq, fBin_eq, fC_eq, fSeq_eq, fCall_eq, fCons_eq, fNil_eq, fVar_zero, fVar_succ, List.set_cons_succ, List.set_cons_zero]
  refine ⟨rfl, s, pre12, _, 1999, rfl, rfl, hS12, by decide, by decide, fun n6 pre13 d1 d2 hS13 => ?_⟩
  simp only [gSub_ii]
  refine ⟨rfl, s, pre13, _, 998, rfl, rfl, hS13, by decide, by decide, fun n7 pre14 f1 f2 hS14 => ?_⟩
  simp only [gAdd_ii]
  have g1 : Bd 10 (n6 - 999) := by unfold Bd; omega
  have g2 : Bd 10 (1 + n7) := by unfold Bd; omega
  refine ⟨rfl, n6 - 999, 1 + n7, 10, rfl, by omega, g1, g2, by omega, ?_⟩
  have bs := BR.divInt g1 g2 (by omega)
  generalize Rat.divInt (n6 - 999) (1 + n7) = small at *
  simp only [fRet_eq, fCall_eq, fCons_eq, fNil_eq, fVar_zero, fVar_succ, List.set_cons_succ, List.set_cons_zero]
  have li3 : inner.length ≤ 3 := by omega
  have lu4 : outer.length ≤ 4 := by omega
  have hb1 := Nat.mul_le_mul_right 11 li3
  have hb2 := Nat.mul_le_mul_right 16 li3
  refine ⟨rfl, inner, small, 5, 10, rfl, bi, bs, by omega, ?_⟩
  have bv2 : BR 49 (evR inner small) := evR_bd' bs (by decide) bi (by omega)
  have hb3 := Nat.mul_le_mul_right 50 lu4
  refine ⟨rfl, outer, evR inner small, 5, 49, rfl, bu, bv2, by omega, ?_⟩
  refine ⟨rfl, outer, inner, 5, rfl, lu4, li3, bu, bi, by omega, ?_⟩
  obtain ⟨bt, lt⟩ := into_bd li3 bi lu4 bu
  have bt2 : BdL 105 (intoL outer inner) := fun c hc => (bt c hc).mono (by omega)
  have lt2 : (intoL outer inner).length ≤ 13 := by omega
  have hb4 := Nat.mul_le_mul_right 116 lt2
  refine ⟨rfl, intoL outer inner, small, 105, 10, rfl, by omega, by decide, bt2, bs, by omega, ?_⟩
  rw [evR_into]
  refine ⟨rfl, tR (evR outer (evR inner small)), rfl, rfl, by simp [dep, depL], ?_⟩
  exact ret_srcA hw hS hS14 trivial (qd pre14 hS14)
end K01
namespace K01
open PySem PySem.Spec PyProof.Rows L2 Y M
abbrev lnD (l : Int × Int) : D := tz [l.1, l.2]
def pv (ls : List (Int × Int)) (x : Int) : Int := ls.foldl (fun v l => v * (l.1 + l.2 * x)) 1
theorem pv_snoc {ls : List (Int × Int)} {l : Int × Int} {x : Int} : pv (ls ++ [l]) x = pv ls x * (l.1 + l.2 * x) := by
  unfold pv
  rw [List.foldl_append]
  rfl
structure SH (ls : List (Int × Int)) (sh : List Int) : Prop where
  pp : PP sh
  ev : ∀ x, ev sh x = pv ls x
  len : sh.length = ls.length + 1
theorem SH.one : SH [] [1] := ⟨PP.one, fun x => by simp [pv], rfl⟩
theorem tr_ln {l : Int × Int} (h : Ln l.1 l.2) : Tr [l.1, l.2] := (PP.linear h.g h.p).tr
theorem SH.step {ls : List (Int × Int)} {sh : List Int} {l : Int × Int} (h : SH ls sh) (hl : Ln l.1 l.2) : SH (ls ++ [l]) (trim (mulL sh [l.1, l.2])) := by
  have e : ∀ x, M.ev (trim (mulL sh [l.1, l.2])) x = M.ev sh x * (l.1 + l.2 * x) := fun x => by rw [ev_trim, ev_mulL, ev_lin]
  refine ⟨PP.lin h.pp hl.g hl.p tr_trim fun x _ => by rw [e, Int.mul_comm], fun x => by rw [e, h.ev, pv_snoc], ?_⟩
  have := len_mul h.pp.tr (tr_ln hl) (tr_trim (p := mulL sh [l.1, l.2])) h.pp.ne (by simp) fun x _ => by rw [ev_trim, ev_mulL]
  simp at this ⊢
  rw [h.len] at this
  omega
theorem bd_ln {l : Int × Int} (h : Ln l.1 l.2) : BdL 7 [l.1, l.2] := fun c hc => by
  simp only [List.mem_cons, List.not_mem_nil, or_false] at hc
  rcases hc with rfl | rfl
  · exact h.sa
  · exact h.sb
theorem plain_ints : ∀ {p : List Int}, plainL (p.map D.int) = true
  | [] => by simp [plainL]
  | a :: p => by simp [plainL, plain, plain_ints]
theorem plain_tz {p : List Int} (h : p.length ≤ 1000) : plain (tz p) = true := by simp [plain, plain_ints, h]
theorem dep_ints : ∀ {p : List Int}, depL (p.map D.int) ≤ 1
  | [] => by simp [depL]
  | a :: p => by
    have := @dep_ints p
    simp [depL, dep, this]
theorem dep_tz {p : List Int} : dep (tz p) ≤ 2 := by
  have := @dep_ints p
  simp only [dep]; omega
theorem atI_4 {α : Type} {x y z u v : α} {xs : List α} : L2.atI (x :: y :: z :: u :: v :: xs) 4 = some v := by
  have := @atI_nat α (x :: y :: z :: u :: v :: xs) 4 v rfl
  exact this
/-! the plain facts -/
theorem cop_scale {f g : Int → Int} {k : Int} (h : Cop f g) (hk : k ≠ 0) (hf : ∃ p, ∀ x, ev p x = f x) (hg : ∃ p, ∀ x, ev p x = g x) : Cop f (fun x => k * g x) :=
  (Cop.mul (Cop.const hk).symm h.symm isP_c hg hf).symm
theorem gd_two {sh : List Int} {l m : Int × Int} (ne : l.1 * m.2 ≠ m.1 * l.2) {k : Int} (hk : k ≠ 0) : Gd sh (trim (mulL sh [l.1, l.2])) ((trim (mulL sh [m.1, m.2])).map (k * ·)) := by
  refine Gd.of (a := [l.1, l.2]) (b := [m.1, m.2].map (k * ·)) (fun x => by rw [ev_trim, ev_mulL]) (fun x => by rw [ev_scale, ev_scale, ev_trim, ev_mulL]; grind) ?_
  exact (cop_scale (Cop.lin ne) hk isP_lin isP_lin).congr (fun x => ev_lin.symm) (fun x => by rw [ev_scale, ev_lin])
theorem gd_nilL {g : List Int} {k : Int} (hk : k ≠ 0) : Gd g [] (g.map (k * ·)) :=
  ⟨⟨1, [], by decide, fun x => by simp⟩, ⟨1, [k], by decide, fun x => by rw [ev_scale]; simp; grind⟩, ⟨k, [], [1], hk, fun x => by rw [ev_scale]; simp⟩⟩
theorem cop_sq {a b : Int} (hb : b ≠ 0) : Cop (fun x => a + b * x) (fun x => 7 + x * x) := by
  refine ⟨7 * (b * b) + a * a, [a, -b], [b * b], ?_, fun x => by simp; grind⟩
  have h1 : 0 < b * b := by
    rcases Int.lt_or_gt_of_ne hb with h | h
    · exact Int.mul_pos_of_neg_of_neg h h
    · exact Int.mul_pos h h
  have h2 : 0 ≤ a * a := by
    rcases Int.le_total 0 a with h | h
    · exact Int.mul_nonneg h h
    · exact Int.mul_nonneg_of_nonpos_of_nonpos h h
  omega
theorem gd_last {l0 l1 l2 : Int × Int} {r q B : List Int} (h0 : l0.2 ≠ 0) (h1 : l1.2 ≠ 0) (h2 : l2.2 ≠ 0) (er : ∀ x, ev r x = (l0.1 + l0.2 * x) * (l0.1 + l0.2 * x) * ev B x) (eB : ∀ x, ev B x = (l1.1 + l1.2 * x) * (l2.1 + l2.2 * x))
    (eq : ∀ x, ev q x = (l0.1 + l0.2 * x) * (7 + x * x)) : Gd [l0.1, l0.2] r q := by
  refine Gd.of (a := mulL [l0.1, l0.2] (mulL [l1.1, l1.2] [l2.1, l2.2])) (b := [7, 0, 1]) (fun x => by rw [ev_mulL, ev_mulL, ev_lin, ev_lin, ev_lin, er, eB]; grind) (fun x => by rw [eq, ev_lin]; simp) ?_
  refine Cop.congr (f := fun x => (l0.1 + l0.2 * x) * ((l1.1 + l1.2 * x) * (l2.1 + l2.2 * x))) (g := fun x => 7 + x * x) ?_ (fun x => by rw [ev_mulL, ev_mulL, ev_lin, ev_lin, ev_lin]) (fun x => by simp)
  have hp : ∃ p, ∀ x, ev p x = 7 + x * x := ⟨[7, 0, 1], fun x => by simp⟩
  exact Cop.mul (cop_sq h0) (Cop.mul (cop_sq h1) (cop_sq h2) isP_lin isP_lin hp) isP_lin (isP_mul isP_lin isP_lin) hp
theorem sh_loop {s np : Nat} {S : Sto → Prop} {st : Sto} {E : DEnds} {o0 o2 o5 o6 o8 o9 o10 : Option D} {ls : List (Int × Int)} (hst : S st) (hc : ls.length ≤ 3) (hln : ∀ l ∈ ls, Ln l.1 l.2)
    (hE : ∀ (sh : List Int) o4, SH ls sh → BdL (1 + 10 * ls.length) sh → E.nx [o0, some (.ref s), o2, some (.ref np), o4, o5, o6, some (tz sh), o8, o9, o10] st) :
    ∀ (rest done : List (Int × Int)) (sh : List Int) o4, done ++ rest = ls → SH done sh → BdL (1 + 10 * done.length) sh →
      loopF S tg_law_1 bd_law_1 E (rest.map lnD) [o0, some (.ref s), o2, some (.ref np), o4, o5, o6, some (tz sh), o8, o9, o10] st := by
  intro rest
  induction rest with
  | nil =>
    intro done sh o4 e h b
    rw [List.append_nil] at e
    subst e
    exact ⟨hst, hE sh o4 h b⟩
  | cons l rest ih =>
    intro done sh o4 e h b
    have hll : done.length + 1 + rest.length = ls.length := by rw [← e]; simp; omega
    have hl : Ln l.1 l.2 := hln l (by rw [← e]; simp)
    rw [List.map_cons, loopF_cons]
    refine ⟨hst, ?_⟩
    rw [tg_law_1, fGName_eq, bd_law_1]
    simp only [fSet_eq, fCall_eq, fCons_eq, fNil_eq, fVar_zero, fVar_succ, List.set_cons_succ, List.set_cons_zero]
    have hlen := h.len
    refine ⟨rfl, sh, [l.1, l.2], 1 + 10 * done.length, 7, rfl, by omega, by simp, b, bd_ln hl, by omega, by decide, ?_⟩
    refine ih (done ++ [l]) _ _ (by rw [← e]; simp) (h.step hl) fun x hx => (bd_pmul b (bd_ln hl) x hx).mono (by simp; omega)
theorem law_loop {s : Nat} {E : DEnds} {o0 : Option D} (hE : ∀ (pre post : Sto) o2 o3 o4 o5 o6 o7 o8 o9 o10, Src s pre → E.nx [o0, some (.ref s), o2, o3, o4, o5, o6, o7, o8, o9, o10] (pre ++ post)) :
    ∀ (k : Nat) (lo : Int) (pre post : Sto) o2 o3 o4 o5 o6 o7 o8 o9 o10, Src s pre → loopF (fun _ => True) tg_law_2 bd_law_2 E (rngD lo k 1) [o0, some (.ref s), o2, o3, o4, o5, o6, o7, o8, o9, o10] (pre ++ post) := by
  intro k
  induction k with
  | zero => intro lo pre post o2 o3 o4 o5 o6 o7 o8 o9 o10 hS; exact ⟨trivial, hE pre post _ _ _ _ _ _ _ _ _ hS⟩
  | succ k ih =>
    intro lo pre post o2 o3 o4 o5 o6 o7 o8 o9 o10 hS
    rw [rngD_succ, loopF_cons]
    refine ⟨trivial, ?_⟩
    rw [tg_law_2, fGName_eq, bd_law_2]
    simp only [fSeq_eq, fIfS_eq, fNot_eq, fTru_eq, fSet_eq, fCall_eq, fCons_eq, fNil_eq, fVar_zero, fVar_succ, List.set_cons_succ, List.set_cons_zero]
    refine ⟨rfl, s, pre, post, rfl, rfl, hS, fun pre1 hS1 => ?_⟩
    simp only [tru_bl, Bool.not_true, Bool.false_eq_true, if_false, fNext_eq, fSeq_eq, fSet_eq, fCall_eq, fCons_eq, fNil_eq, fC_eq, fVar_zero, fVar_succ, List.set_cons_succ, List.set_cons_zero]
    refine ⟨rfl, s, pre1, post, rfl, rfl, hS1, fun ls pre2 ob hL hS2 hob => ?_⟩
    have hl12 : (pre1 ++ post).length = (pre2 ++ post).length := by rw [List.length_append, List.length_append, hS1.len, hS2.len]
    rw [hl12, List.append_assoc]
    simp only [fPar_eq, fTup_eq, fC_eq, fSeq_eq, fCall_eq, fCons_eq, fNil_eq, fVar_zero, fVar_succ, List.set_cons_succ, List.set_cons_zero]
    refine ⟨by decide, rfl, s, pre2, _, 4, rfl, rfl, hS2, by decide, by decide, fun c pre3 c1 c2 hS3 => ?_⟩
    have hl23 : (pre2 ++ post).length = (pre3 ++ post).length := by rw [List.length_append, List.length_append, hS2.len, hS3.len]
    obtain ⟨cn, rfl⟩ : ∃ cn : Nat, c = (cn : Int) := ⟨c.toNat, by omega⟩
    rw [hl23, ← List.append_assoc]
    have hP : ∀ ex, (pre3 ++ post ++ [Ob.lst ob, .lst (ls.map lnD)] ++ ex)[(pre3 ++ post).length + 1]? = some (.lst (ls.map lnD)) := fun ex => by rw [List.append_assoc, get_appk]; rfl
    have hP0 : (pre3 ++ post ++ [Ob.lst ob, .lst (ls.map lnD)])[(pre3 ++ post).length + 1]? = some (.lst (ls.map lnD)) := by rw [get_appk]; rfl
    simp only [fFor_eq, fSq_eq, fSl_eq, fNoP_eq, fPart_eq, fVar_zero, fVar_succ, hP0, Option.bind_some, seqOb_lst, cut_hi, itD_ref, get_app0, List.getElem?_cons_zero]
    rw [← List.map_take]
    obtain ⟨st4, hst4⟩ : ∃ st4, st4 = pre3 ++ post ++ [Ob.lst ob, .lst (ls.map lnD)] ++ [Ob.lst ((ls.take cn).map lnD)] := ⟨_, rfl⟩
    have hP4 := hP [Ob.lst ((ls.take cn).map lnD)]
    have hE4 : ∀ o2 o3 o4 o5 o6 o7 o8 o9 o10, loopF (fun _ => True) tg_law_2 bd_law_2 E (rngD (lo + 1) k 1) [o0, some (.ref s), o2, o3, o4, o5, o6, o7, o8, o9, o10] st4 := by
      intro o2 o3 o4 o5 o6 o7 o8 o9 o10
      rw [hst4, List.append_assoc, List.append_assoc]
      exact ih (lo + 1) pre3 _ _ _ _ _ _ _ _ _ _ hS3
    have hs4 : standI (.ref (pre3 ++ post ++ [Ob.lst ob, .lst (ls.map lnD)]).length) ((ls.take cn).map lnD) st4 := by
      unfold standI
      rw [hst4, itD_ref, get_app0]; rfl
    rw [← hst4] at hP4 ⊢
    clear hst4 hP hP0
    generalize (pre3 ++ post ++ [Ob.lst ob, .lst (ls.map lnD)]).length = n4 at *
    generalize (pre3 ++ post).length + 1 = np at *
    have hlen := hL.len
    refine sh_loop (ls := ls.take cn) hs4 (by rw [List.length_take]; omega) (fun l hl => hL.ln l (List.mem_of_mem_take hl)) (fun sh o4 hSh bSh => ?_) (ls.take cn) [] [1] _ (by simp) SH.one (fun c hc => by
      simp at hc; subst hc; unfold Bd; decide)
    obtain ⟨l0, l1, l2, l3, l4, rfl⟩ : ∃ l0 l1 l2 l3 l4, ls = [l0, l1, l2, l3, l4] := by
      match ls, hlen with
      | [a, b, c, d, e], _ => exact ⟨a, b, c, d, e, rfl⟩
    have h0 := hL.ln l0 (by simp)
    have h1 := hL.ln l1 (by simp)
    have h2 := hL.ln l2 (by simp)
    have h3 := hL.ln l3 (by simp)
    have h4 := hL.ln l4 (by simp)
    have n01 := hL.ne 0 1 l0 l1 rfl rfl (by decide)
    have n02 := hL.ne 0 2 l0 l2 rfl rfl (by decide)
    have n12 := hL.ne 1 2 l1 l2 rfl rfl (by decide)
    have n34 := hL.ne 3 4 l3 l4 rfl rfl (by decide)
    have lsh : sh.length ≤ 4 := by rw [hSh.len, List.length_take]; omega
    have bsh : BdL 31 sh := fun c hc => (bSh c hc).mono (by rw [List.length_take]; omega)
    simp only [List.map_cons, List.map_nil] at hP4
    have hp := hSh.step h3
    have hq := hSh.step h4
    have lp : (trim (mulL sh [l3.1, l3.2])).length ≤ 5 := by rw [hp.len]; simp; omega
    have lq : (trim (mulL sh [l4.1, l4.2])).length ≤ 5 := by rw [hq.len]; simp; omega
    have bp : BdL 45 (trim (mulL sh [l3.1, l3.2])) := fun c hc => (bd_pmul bsh (bd_ln h3) c hc).mono (by omega)
    have bq0 : BdL 42 (trim (mulL sh [l4.1, l4.2])) := fun c hc => (bd_pmul bsh (bd_ln h4) c hc).mono (by omega)
    have bq : BdL 45 ((trim (mulL sh [l4.1, l4.2])).map (-6 * ·)) := bd_map (m := 3) bq0 (by unfold Bd; decide)
    have gpq := gd_two (sh := sh) n34 (k := -6) (by decide)
    have tq := tr_scale (k := -6) (by decide) hq.pp.tr
    have eq6 : trim ((trim (mulL sh [l4.1, l4.2])).map (-6 * ·)) = (trim (mulL sh [l4.1, l4.2])).map (-6 * ·) := trim_tr tq
    have gnq := gd_nilL (g := trim (mulL sh [l4.1, l4.2])) (k := -6) (by decide)
    simp only [fPar_eq, fSeq_eq, fCall_eq, fCons_eq, fNil_eq, fBin_eq, fUn_eq, gNeg_i, fC_eq, fVar_zero, fVar_succ, gIx_i, sqD_ref, hP4, Option.bind_some, seqOb_lst, atI_3, atI_4, List.set_cons_succ, List.set_cons_zero]
    refine ⟨rfl, sh, [l3.1, l3.2], 31, 7, rfl, by omega, by simp, bsh, bd_ln h3, by decide, by decide, ?_⟩
    simp only [hP4, Option.bind_some, seqOb_lst, atI_4]
    refine ⟨rfl, sh, [l4.1, l4.2], 31, 7, rfl, by omega, by simp, bsh, bd_ln h4, by decide, by decide, ?_⟩
    refine ⟨rfl, trim (mulL sh [l4.1, l4.2]), -6, rfl, by omega, fun c hc => IntMulOk.of_left (by decide), ?_⟩
    rw [eq6]
    generalize trim (mulL sh [l3.1, l3.2]) = p at *
    generalize trim (mulL sh [l4.1, l4.2]) = q at *
    simp only [fIfS_eq, fNot_eq, fTru_eq, fTup_eq, fCallK_eq, fSeq_eq, fCall_eq, fCons_eq, fNil_eq, fVar_zero, fVar_succ, List.set_cons_succ, List.set_cons_zero]
    have lq6 : (q.map (-6 * ·)).length ≤ 5 := by simpa using lq
    refine ⟨rfl, p, q.map (-6 * ·), sh, 45, rfl, hp.pp.tr, tq, hSh.pp, gpq, bp, bq, lp, lq6, by decide, ?_⟩
    refine ⟨rfl, rfl, rfl, q.map (-6 * ·), p, sh, 45, rfl, tq, hp.pp.tr, hSh.pp, gpq.symm, bq, bp, lq6, lp, by decide, ?_⟩
    refine ⟨by simp, rfl, p, [], p, 45, rfl, hp.pp.tr, Tr.nil, hp.pp, Gd.left, bp, (fun c hc => nomatch hc), lp, by decide, by decide, ?_⟩
    refine ⟨by simp, rfl, [], q.map (-6 * ·), q, 45, rfl, Tr.nil, tq, hq.pp, gnq, (fun c hc => nomatch hc), bq, by decide, lq6, by decide, ?_⟩
    refine ⟨rfl, p, p, p, 45, rfl, hp.pp.tr, hp.pp.tr, hp.pp, Gd.same, bp, bp, lp, lp, by decide, ?_⟩
    refine ⟨by simp, ?_⟩
    refine ⟨rfl, q.map (-6 * ·), q, -6, 45, rfl, hq.pp, by decide, rfl, by omega, bq, by decide, ?_⟩
    refine ⟨by simp, rfl, .tup [tz sh, tz sh, tz p, tz q, tz p], rfl, ?_, ?_, ?_⟩
    · simp only [plain, plainL, plain_ints, List.length_map, List.length_cons, List.length_nil, Bool.true_and, Bool.and_true, Bool.and_eq_true, decide_eq_true_eq]
      refine ⟨⟨?_, ?_, ?_, ?_, ?_⟩, ?_⟩ <;> omega
    · have a1 := @dep_ints sh
      have a2 := @dep_ints p
      have a3 := @dep_ints q
      simp only [dep, depL]
      omega
    clear hSh bSh lsh bsh hp hq lp lq bp bq0 bq gpq tq eq6 gnq lq6 n34
    -- r
    simp only [tru_bl, Bool.not_true, Bool.false_eq_true, if_false, fNext_eq, fSeq_eq, fSet_eq, fCall_eq, fCons_eq, fNil_eq, fBin_eq, fC_eq, fVar_zero, fVar_succ, gIx_i, sqD_ref, hP4, Option.bind_some, seqOb_lst, atI_0, atI_1, atI_2, List.set_cons_succ, List.set_cons_zero]
    refine ⟨rfl, [l0.1, l0.2], [l0.1, l0.2], 7, 7, rfl, by simp, by simp, bd_ln h0, bd_ln h0, by decide, by decide, ?_⟩
    simp only [hP4, Option.bind_some, seqOb_lst, atI_0, atI_1, atI_2]
    refine ⟨rfl, [l1.1, l1.2], [l2.1, l2.2], 7, 7, rfl, by simp, by simp, bd_ln h1, bd_ln h2, by decide, by decide, ?_⟩
    have eA : ∀ x, M.ev (trim (mulL [l0.1, l0.2] [l0.1, l0.2])) x = (l0.1 + l0.2 * x) * (l0.1 + l0.2 * x) := fun x => by rw [ev_trim, ev_mulL, ev_lin]
    have eB : ∀ x, M.ev (trim (mulL [l1.1, l1.2] [l2.1, l2.2])) x = (l1.1 + l1.2 * x) * (l2.1 + l2.2 * x) := fun x => by rw [ev_trim, ev_mulL, ev_lin, ev_lin]
    have hA := len_mul (tr_ln h0) (tr_ln h0) (tr_trim (p := mulL [l0.1, l0.2] [l0.1, l0.2])) (by simp) (by simp) fun x _ => by rw [ev_trim, ev_mulL]
    have hB := len_mul (tr_ln h1) (tr_ln h2) (tr_trim (p := mulL [l1.1, l1.2] [l2.1, l2.2])) (by simp) (by simp) fun x _ => by rw [ev_trim, ev_mulL]
    have bA : BdL 16 (trim (mulL [l0.1, l0.2] [l0.1, l0.2])) := fun c hc => (bd_pmul (bd_ln h0) (bd_ln h0) c hc).mono (by simp)
    have bB : BdL 16 (trim (mulL [l1.1, l1.2] [l2.1, l2.2])) := fun c hc => (bd_pmul (bd_ln h1) (bd_ln h2) c hc).mono (by simp)
    have tA : Tr (trim (mulL [l0.1, l0.2] [l0.1, l0.2])) := tr_trim
    have tB : Tr (trim (mulL [l1.1, l1.2] [l2.1, l2.2])) := tr_trim
    generalize trim (mulL [l0.1, l0.2] [l0.1, l0.2]) = A at *
    obtain ⟨B, hBe⟩ : ∃ B, B = trim (mulL [l1.1, l1.2] [l2.1, l2.2]) := ⟨_, rfl⟩
    rw [← hBe] at eB hB bB tB ⊢
    simp only [List.length_cons, List.length_nil] at hA hB
    refine ⟨rfl, A, B, 16, 16, rfl, by omega, by omega, bA, bB, by decide, by decide, ?_⟩
    have nA : A ≠ [] := fun z => by rw [z] at hA; simp at hA
    have nB : B ≠ [] := fun z => by rw [z] at hB; simp at hB
    have hr := len_mul tA tB (tr_trim (p := mulL A B)) nA nB fun x _ => by rw [ev_trim, ev_mulL]
    have er : ∀ x, M.ev (trim (mulL A B)) x = (l0.1 + l0.2 * x) * (l0.1 + l0.2 * x) * M.ev B x := fun x => by rw [ev_trim, ev_mulL, eA]
    have br : BdL 35 (trim (mulL A B)) := fun c hc => (bd_pmul bA bB c hc).mono (by omega)
    have tr : Tr (trim (mulL A B)) := tr_trim
    generalize trim (mulL A B) = r at *
    have lr : r.length = 5 := by omega
    -- due
    simp only [fSeq_eq, fSet_eq, fTup_eq, fCall_eq, fCons_eq, fNil_eq, fBin_eq, fC_eq, fVar_zero, fVar_succ, gIx_i, sqD_ref, hP4, Option.bind_some, seqOb_lst, atI_0, atI_1, atI_2, List.set_cons_succ, List.set_cons_zero]
    refine ⟨rfl, [l1.1, l1.2], [l2.1, l2.2], 7, 7, rfl, by simp, by simp, bd_ln h1, bd_ln h2, by decide, by decide, ?_⟩
    rw [← hBe]
    simp only [hP4, Option.bind_some, seqOb_lst, atI_0]
    refine ⟨by simp, by simp, by simp, ?_⟩
    simp only [fIfS_eq, fNot_eq, fTru_eq, fSeq_eq, fTup_eq, fCall_eq, fCallK_eq, fCons_eq, fNil_eq, fUn_eq, gNeg_i, fBin_eq, fC_eq, fVar_zero, fVar_succ, List.set_cons_succ, List.set_cons_zero]
    refine ⟨rfl, l0.1, l0.2, l1.1, l1.2, l2.1, l2.2, 1, r, r, B, rfl, h0, h1, h2, n01, n02, n12, by decide, by unfold Bd; decide, tr, tB, by simp, er, eB, ?_⟩
    have t5 := tr_scale (k := -5) (by decide) tr
    refine ⟨rfl, r, -5, rfl, by omega, fun c hc => IntMulOk.of_left (by decide), ?_⟩
    rw [trim_tr t5]
    refine ⟨rfl, rfl, rfl, l0.1, l0.2, l1.1, l1.2, l2.1, l2.2, -5, r.map (-5 * ·), r, B, rfl, h0, h1, h2, n01, n02, n12, by decide, by unfold Bd; decide, tr, tB, rfl, er, eB, ?_⟩
    refine ⟨by simp, by simp, rfl, .tup [.tup [.tup [tz B, .int 1], .tup [tz [l0.1, l0.2], .int 2]], .tup [.tup [tz B, .int 1], .tup [tz [l0.1, l0.2], .int 2]]], rfl, ?_, ?_, ?_⟩
    · simp only [plain, plainL, plain_ints, List.length_map, List.length_cons, List.length_nil, Bool.true_and, Bool.and_true, Bool.and_eq_true, decide_eq_true_eq]
      have : B.length ≤ 1000 := by omega
      simp [this]
    · have a1 := @dep_ints B
      have a2 := @dep_ints [l0.1, l0.2]
      simp only [dep, depL] at a2 ⊢
      omega
    -- the last
    simp only [tru_bl, Bool.not_true, Bool.false_eq_true, if_false, fNext_eq, fIfS_eq, fNot_eq, fTru_eq, fSeq_eq, fTup_eq, fCall_eq, fCons_eq, fNil_eq, fBin_eq, fC_eq, fVar_zero, fVar_succ, gIx_i, sqD_ref, hP4, Option.bind_some, seqOb_lst, atI_0]
    refine ⟨by simp, rfl, [l0.1, l0.2], [7, 0, 1], 7, 3, rfl, by simp, by simp, bd_ln h0, fun c hc => ?_, by decide, by decide, ?_⟩
    · simp only [List.mem_cons, List.not_mem_nil, or_false] at hc
      rcases hc with rfl | rfl | rfl <;> (unfold Bd; decide)
    have eq : ∀ x, M.ev (trim (mulL [l0.1, l0.2] [7, 0, 1])) x = (l0.1 + l0.2 * x) * (7 + x * x) := fun x => by rw [ev_trim, ev_mulL, ev_lin]; simp
    have ll : (trim (mulL [l0.1, l0.2] [7, 0, 1])).length ≤ 5 := Nat.le_trans len_trim (Nat.le_trans len_mulL_le (by simp))
    have bl : BdL 45 (trim (mulL [l0.1, l0.2] [7, 0, 1])) := fun c hc => (bd_pmul (m := 3) (bd_ln h0) (fun c hc => by
      simp only [List.mem_cons, List.not_mem_nil, or_false] at hc
      rcases hc with rfl | rfl | rfl <;> (unfold Bd; decide)) c hc).mono (by simp)
    have nz : ∀ {l : Int × Int}, Ln l.1 l.2 → l.2 ≠ 0 := fun h => by have := h.p; omega
    refine ⟨rfl, r, trim (mulL [l0.1, l0.2] [7, 0, 1]), [l0.1, l0.2], 45, rfl, tr, tr_trim, PP.linear h0.g h0.p, gd_last (nz h0) (nz h1) (nz h2) er eB eq, fun c hc => (br c hc).mono (by decide), bl, by omega, ll, by decide, ?_⟩
    simp only [hP4, Option.bind_some, seqOb_lst, atI_0]
    refine ⟨rfl, tz [l0.1, l0.2], rfl, plain_tz (by simp), Nat.le_trans dep_tz (by decide), ?_⟩
    simp only [tru_bl, Bool.not_true, Bool.false_eq_true, if_false, fNext_eq]
    exact hE4 _ _ _ _ _ _ _ _ _
theorem th_law : Th 11 1 C_law rd_law := by
  intro ds st QD hl hw hlt ⟨ns, hns, h, qd⟩
  obtain ⟨x, rfl⟩ : ∃ x, ds = [x] := by
    rcases h with ⟨rfl, _⟩ | ⟨rfl, _⟩ <;> exact ⟨_, rfl⟩
  have hst : st.length ≤ 1 := by
    rcases h with ⟨_, rfl⟩ | ⟨_, rfl | rfl⟩ <;> simp
  rw [rd_law, show startD 11 [x] = [some x, none, none, none, none, none, none, none, none, none, none] from rfl]
  simp only [fSeq_eq, fSet_eq, fCall_eq, fCons_eq, fNil_eq, fVar_zero, List.set_cons_succ, List.set_cons_zero]
  refine ⟨rfl, ns, hns, h, fun s pre hS => ?_⟩
  simp only [fFor_eq, fRng1_eq, fCons_eq, fNil_eq, fC_eq]
  refine ⟨by unfold bigI; omega, ?_⟩
  have := law_loop (s := s) (o0 := some x) (E := { nx := fRet (fC (.bl true)) { nx := fun _ st' => RetOk st QD .non st', rt := RetOk st QD }, rt := RetOk st QD }) (fun pre post o2 o3 o4 o5 o6 o7 o8 o9 o10 hS => by
    show RetOk st QD (.bl true) (pre ++ post)
    exact ⟨pre, List.prefix_append .., by rw [hS.len]; omega, by rw [hS.len]; exact hS.wf, trivial, qd pre⟩) 2 0 pre [] none none none none none none none none none hS
  rw [List.append_nil] at this
  exact this
end K01
namespace K01
open PySem PySem.Spec PyProof.Rows L2 Y M
def top (i : Nat) : Stmt := PySem.Challenge.pw_wayorring_k01_twelve_digits.main.body.getD i (.Pass ⟨0, 0, 0, 0⟩)
abbrev s_frac : Stmt := top 2
abbrev s_sign_of : Stmt := top 3
abbrev s_common_divisor : Stmt := top 4
abbrev s_trimmed : Stmt := top 6
abbrev s_poly_plus : Stmt := top 7
abbrev s_poly_scaled : Stmt := top 8
abbrev s_poly_minus : Stmt := top 9
abbrev s_poly_raised : Stmt := top 10
abbrev s_slope : Stmt := top 11
abbrev s_content : Stmt := top 12
abbrev s_reduced : Stmt := top 13
abbrev s_primitive : Stmt := top 14
abbrev s_divided : Stmt := top 15
abbrev s_exact_over : Stmt := top 16
abbrev s_scaled_value : Stmt := top 17
abbrev s_value_at : Stmt := top 18
abbrev s_common : Stmt := top 19
abbrev s_square_free : Stmt := top 20
abbrev s__law_src : Stmt := top 22
abbrev s__law_draw : Stmt := top 23
abbrev s__law_pick : Stmt := top 24
abbrev s__law_eq : Stmt := top 25
abbrev s__law_gcd : Stmt := top 26
abbrev s__law_fr : Stmt := top 27
abbrev s__law_add : Stmt := top 28
abbrev s__law_mul : Stmt := top 29
abbrev s__law_trim : Stmt := top 30
abbrev s__law_pmul : Stmt := top 31
abbrev s__law_padd : Stmt := top 32
abbrev s__law_pscale : Stmt := top 33
abbrev s__law_pinto : Stmt := top 34
abbrev s__law_prim : Stmt := top 35
abbrev s__law_pat : Stmt := top 36
abbrev s__law_wide : Stmt := top 37
abbrev s__law_widefraction : Stmt := top 38
abbrev s__law_polynomial : Stmt := top 39
abbrev s__law_linear : Stmt := top 40
abbrev s__law_values : Stmt := top 41
abbrev s_law : Stmt := top 42
structure Txt (K : PySem.W.Frag) (mg : Str → Option Value) : Prop where
  abs : mg "abs" = none
  any : mg "any" = none
  bool : mg "bool" = none
  enumerate : mg "enumerate" = none
  int : mg "int" = none
  isinstance : mg "isinstance" = none
  len : mg "len" = none
  list : mg "list" = none
  max : mg "max" = none
  range : mg "range" = none
  reversed : mg "reversed" = none
  str : mg "str" = none
  tuple : mg "tuple" = none
  gcd : mg "gcd" = some (.builtin "math.gcd")
variable {P : Program} {w : World} {K : PySem.W.Frag} {mg : Str → Option Value} {base : Heap}
abbrev N_frac : List Str := ["above", "below", "by"]
theorem sc_frac : FnScope N_frac ["above", "below"] (defScope s_frac) := ⟨rfl, rfl, rfl, by decide +kernel, rfl, by decide +kernel, by decide +kernel⟩
theorem de_frac {fa : Addr} {fd : FuncData} (T : Txt K mg) (F : FunD K "frac" "frac" (defArgs s_frac) (defBody s_frac) (defScope s_frac) [] [] fa fd) : FnOk P w K mg base CX0 1 fa fd ["above", "below"] (spD K 2 C_frac) :=
  fnD (f := rd_frac) F sc_frac (fun cdv A outer s H E hr => ⟨_, (ds_cons (ds_set (i := 2) sc_frac.nd rfl (Or.inl rfl) (d_gcd (by rfl) T.gcd (da_cons (dv 0) (da_cons (dv 1) da_nil))))
    (ds_cons (ds_if (dt_lt (dv 1) d_int) (ds_one (ds_set (i := 2) sc_frac.nd rfl (Or.inl rfl) (d_neg (dv 2)))) ds_nil)
    (ds_one (ds_ret (d_tup (da_cons (d_dv (dv 0) (dv 2)) (da_cons (d_dv (dv 1) (dv 2)) da_nil)))))))⟩)
    th_frac
abbrev N_sign_of : List Str := ["number"]
theorem sc_sign_of : FnScope N_sign_of ["number"] (defScope s_sign_of) := ⟨rfl, rfl, rfl, by decide +kernel, rfl, by decide +kernel, by decide +kernel⟩
theorem de_sign_of {fa : Addr} {fd : FuncData} (T : Txt K mg) (F : FunD K "sign_of" "sign_of" (defArgs s_sign_of) (defBody s_sign_of) (defScope s_sign_of) [] [] fa fd) : FnOk P w K mg base CX0 1 fa fd ["number"] (spD K 1 C_sign_of) :=
  fnD (f := rd_sign_of) F sc_sign_of (fun cdv A outer s H E hr => ⟨_, (ds_one (ds_ret (d_sub (d_gt (dv 0) d_int) (d_lt (dv 0) d_int))))⟩)
    th_sign_of
abbrev N_common_divisor : List Str := ["numbers", "found", "number"]
theorem sc_common_divisor : FnScope N_common_divisor ["numbers"] (defScope s_common_divisor) := ⟨rfl, rfl, rfl, by decide +kernel, rfl, by decide +kernel, by decide +kernel⟩
theorem de_common_divisor {fa : Addr} {fd : FuncData} (T : Txt K mg) (F : FunD K "common_divisor" "common_divisor" (defArgs s_common_divisor) (defBody s_common_divisor) (defScope s_common_divisor) [] [] fa fd) : FnOk P w K mg base CX0 1 fa fd ["numbers"] (spD K 1 C_common_divisor) :=
  fnD (f := rd_common_divisor) F sc_common_divisor (fun cdv A outer s H E hr => ⟨_, (ds_cons (ds_set (i := 1) sc_common_divisor.nd rfl (Or.inl rfl) d_int)
    (ds_cons (ds_for PassesOwn.never rfl (di_seq (dv 0)) (dg_name (i := 2) sc_common_divisor.nd rfl (Or.inl rfl)) (ds_one (ds_set (i := 1) sc_common_divisor.nd rfl (Or.inl rfl) (d_gcd (by rfl) T.gcd (da_cons (dv 1) (da_cons (dv 2) da_nil))))))
    (ds_one (ds_ret (dv 1)))))⟩)
    th_common_divisor
abbrev N_trimmed : List Str := ["numbers", "many"]
theorem sc_trimmed : FnScope N_trimmed ["numbers"] (defScope s_trimmed) := ⟨rfl, rfl, rfl, by decide +kernel, rfl, by decide +kernel, by decide +kernel⟩
theorem de_trimmed {fa : Addr} {fd : FuncData} (T : Txt K mg) (F : FunD K "trimmed" "trimmed" (defArgs s_trimmed) (defBody s_trimmed) (defScope s_trimmed) [] [] fa fd) : FnOk P w K mg base CX0 1 fa fd ["numbers"] (spD K 1 C_trimmed) :=
  fnD (f := rd_trimmed) F sc_trimmed (fun cdv A outer s H E hr => ⟨_, (ds_cons (ds_set (i := 1) sc_trimmed.nd rfl (Or.inl rfl) (d_len (by rfl) T.len (da_cons (dv 0) da_nil)))
    (ds_cons (ds_while PassesOwn.never (dw_pt (dw_and (dt_gt (dv 1) d_int) (dw_and1 (dt_eq (d_ix (dv 0) (d_sub (dv 1) d_int)) d_int)))) (ds_one (ds_aug iop_sub (snd_I0 fun _ _ _ _ => De.i) sc_trimmed.nd (i := 1) rfl (Or.inl rfl) d_int)))
    (ds_one (ds_ret (d_tuple (by rfl) T.tuple (da_cons (d_sl (dv 0) do_none (do_some (dv 1))) da_nil))))))⟩)
    th_trimmed
abbrev N_poly_plus : List Str := ["p", "q", "found", "longer", "shorter", "power", "number"]
theorem sc_poly_plus : FnScope N_poly_plus ["p", "q"] (defScope s_poly_plus) := ⟨rfl, rfl, rfl, by decide +kernel, rfl, by decide +kernel, by decide +kernel⟩
theorem de_poly_plus {fa : Addr} {fd : FuncData} (T : Txt K mg) (O_trimmed : Own P w K mg base 1 "trimmed" ["numbers"] C_trimmed) (F : FunD K "poly_plus" "poly_plus" (defArgs s_poly_plus) (defBody s_poly_plus) (defScope s_poly_plus) [] [] fa fd) : FnOk P w K mg base CX0 2 fa fd ["p", "q"] (spD K 2 C_poly_plus) :=
  fnD (f := rd_poly_plus) F sc_poly_plus (fun cdv A outer s H E hr => ⟨_, (ds_cons (ds_asg (d_if (dt_ge (d_len (by rfl) T.len (da_cons (dv 0) da_nil)) (d_len (by rfl) T.len (da_cons (dv 1) da_nil))) (d_tup (da_cons (dv 0) (da_cons (dv 1) da_nil))) (d_tup (da_cons (dv 1) (da_cons (dv 0) da_nil)))) (dg_tup rfl (dgs_cons (dg_name (i := 3) sc_poly_plus.nd rfl (Or.inl rfl)) (dgs_cons (dg_name (i := 4) sc_poly_plus.nd rfl (Or.inl rfl)) dgs_nil))))
    (ds_cons (ds_set (i := 2) sc_poly_plus.nd rfl (Or.inl rfl) (d_list (by rfl) T.list (da_cons (dv 3) da_nil)))
    (ds_cons (ds_for PassesOwn.never rfl (di_enm (by rfl) T.enumerate (da_cons (dv 4) da_nil)) (dg_tup rfl (dgs_cons (dg_name (i := 5) sc_poly_plus.nd rfl (Or.inl rfl)) (dgs_cons (dg_name (i := 6) sc_poly_plus.nd rfl (Or.inl rfl)) dgs_nil))) (ds_one (ds_augS iop_add (snd_I0 fun _ _ _ _ => De.i) (dv 2) (dv 5) (dv 6))))
    (ds_one (ds_ret (d_call (ps := ["numbers"]) O_trimmed (hr.mono (by decide)) (by rfl) (da_cons (dv 2) da_nil)))))))⟩)
    th_poly_plus
abbrev N_poly_scaled : List Str := ["p", "number", "one"]
theorem sc_poly_scaled : FnScope N_poly_scaled ["p", "number"] (defScope s_poly_scaled) := ⟨rfl, rfl, rfl, by decide +kernel, rfl, by decide +kernel, by decide +kernel⟩
theorem de_poly_scaled {fa : Addr} {fd : FuncData} (T : Txt K mg) (F : FunD K "poly_scaled" "poly_scaled" (defArgs s_poly_scaled) (defBody s_poly_scaled) (defScope s_poly_scaled) [] [] fa fd) : FnOk P w K mg base CX0 1 fa fd ["p", "number"] (spD K 2 C_poly_scaled) :=
  fnD (f := rd_poly_scaled) F sc_poly_scaled (fun cdv A outer s H E hr => ⟨_, (ds_one (ds_ret (d_if (dt_ne (dv 1) d_int) (d_tuple (by rfl) T.tuple (da_cons (d_lc (own := [("one", 2)]) rfl sc_poly_scaled.nd (di_seq (dv 0)) (blkOk_by (own := [("one", 2)]) (N := N_poly_scaled) (sc := defScope s_poly_scaled) (by decide +kernel)) (fun _ _ _ _ _ => (dg_name (i := 2) sc_poly_scaled.nd rfl (Or.inl rfl))) (fun _ _ _ _ _ => dts_nil) (fun _ _ _ _ _ => (d_mul (dv 2) (dv 1))) (within_name (by simp)) s) da_nil)) (d_tup da_nil))))⟩)
    th_poly_scaled
abbrev N_poly_minus : List Str := ["p", "q"]
theorem sc_poly_minus : FnScope N_poly_minus ["p", "q"] (defScope s_poly_minus) := ⟨rfl, rfl, rfl, by decide +kernel, rfl, by decide +kernel, by decide +kernel⟩
theorem de_poly_minus {fa : Addr} {fd : FuncData} (T : Txt K mg) (O_poly_scaled : Own P w K mg base 1 "poly_scaled" ["p", "number"] C_poly_scaled) (O_poly_plus : Own P w K mg base 2 "poly_plus" ["p", "q"] C_poly_plus) (F : FunD K "poly_minus" "poly_minus" (defArgs s_poly_minus) (defBody s_poly_minus) (defScope s_poly_minus) [] [] fa fd) : FnOk P w K mg base CX0 3 fa fd ["p", "q"] (spD K 2 C_poly_minus) :=
  fnD (f := rd_poly_minus) F sc_poly_minus (fun cdv A outer s H E hr => ⟨_, (ds_one (ds_ret (d_call (ps := ["p", "q"]) O_poly_plus (hr.mono (by decide)) (by rfl) (da_cons (dv 0) (da_cons (d_call (ps := ["p", "number"]) O_poly_scaled (hr.mono (by decide)) (by rfl) (da_cons (dv 1) (da_cons (d_neg d_int) da_nil))) da_nil)))))⟩)
    th_poly_minus
abbrev N_poly_raised : List Str := ["p", "many"]
theorem sc_poly_raised : FnScope N_poly_raised ["p", "many"] (defScope s_poly_raised) := ⟨rfl, rfl, rfl, by decide +kernel, rfl, by decide +kernel, by decide +kernel⟩
theorem de_poly_raised {fa : Addr} {fd : FuncData} (T : Txt K mg) (F : FunD K "poly_raised" "poly_raised" (defArgs s_poly_raised) (defBody s_poly_raised) (defScope s_poly_raised) [] [] fa fd) : FnOk P w K mg base CX0 1 fa fd ["p", "many"] (spD K 2 C_poly_raised) :=
  fnD (f := rd_poly_raised) F sc_poly_raised (fun cdv A outer s H E hr => ⟨_, (ds_one (ds_ret (d_if (dt_tru (dv 0)) (d_add (d_times (d_tup (da_cons d_int da_nil)) (dv 1)) (dv 0)) (d_tup da_nil))))⟩)
    th_poly_raised
abbrev N_slope : List Str := ["p", "power", "number"]
theorem sc_slope : FnScope N_slope ["p"] (defScope s_slope) := ⟨rfl, rfl, rfl, by decide +kernel, rfl, by decide +kernel, by decide +kernel⟩
theorem de_slope {fa : Addr} {fd : FuncData} (T : Txt K mg) (F : FunD K "slope" "slope" (defArgs s_slope) (defBody s_slope) (defScope s_slope) [] [] fa fd) : FnOk P w K mg base CX0 1 fa fd ["p"] (spD K 1 C_slope) :=
  fnD (f := rd_slope) F sc_slope (fun cdv A outer s H E hr => ⟨_, (ds_one (ds_ret (d_tuple (by rfl) T.tuple (da_cons (d_sl (d_lc (own := [("power", 1), ("number", 2)]) rfl sc_slope.nd (di_enm (by rfl) T.enumerate (da_cons (dv 0) da_nil)) (blkOk_by (own := [("power", 1), ("number", 2)]) (N := N_slope) (sc := defScope s_slope) (by decide +kernel)) (fun _ _ _ _ _ => (dg_tupK K rfl rfl (dgs_cons (dg_name (i := 1) sc_slope.nd rfl (Or.inl rfl)) (dgs_cons (dg_name (i := 2) sc_slope.nd rfl (Or.inl rfl)) dgs_nil)))) (fun _ _ _ _ _ => dts_nil) (fun _ _ _ _ _ => (d_mul (dv 1) (dv 2))) (within_tup (withins_cons (within_name (by simp)) (withins_cons (within_name (by simp)) withins_nil mono_name mono_nil) mono_name (mono_cons mono_name mono_nil))) s) (do_some d_int) do_none) da_nil))))⟩)
    th_slope
abbrev N_content : List Str := ["p"]
theorem sc_content : FnScope N_content ["p"] (defScope s_content) := ⟨rfl, rfl, rfl, by decide +kernel, rfl, by decide +kernel, by decide +kernel⟩
theorem de_content {fa : Addr} {fd : FuncData} (T : Txt K mg) (O_common_divisor : Own P w K mg base 1 "common_divisor" ["numbers"] C_common_divisor) (F : FunD K "content" "content" (defArgs s_content) (defBody s_content) (defScope s_content) [] [] fa fd) : FnOk P w K mg base CX0 2 fa fd ["p"] (spD K 1 C_content) :=
  fnD (f := rd_content) F sc_content (fun cdv A outer s H E hr => ⟨_, (ds_one (ds_ret (d_call (ps := ["numbers"]) O_common_divisor (hr.mono (by decide)) (by rfl) (da_cons (dv 0) da_nil))))⟩)
    th_content
abbrev N_reduced : List Str := ["p", "by", "number"]
theorem sc_reduced : FnScope N_reduced ["p"] (defScope s_reduced) := ⟨rfl, rfl, rfl, by decide +kernel, rfl, by decide +kernel, by decide +kernel⟩
theorem de_reduced {fa : Addr} {fd : FuncData} (T : Txt K mg) (O_content : Own P w K mg base 2 "content" ["p"] C_content) (F : FunD K "reduced" "reduced" (defArgs s_reduced) (defBody s_reduced) (defScope s_reduced) [] [] fa fd) : FnOk P w K mg base CX0 3 fa fd ["p"] (spD K 1 C_reduced) :=
  fnD (f := rd_reduced) F sc_reduced (fun cdv A outer s H E hr => ⟨_, (ds_cons (ds_set (i := 1) sc_reduced.nd rfl (Or.inr rfl) (d_call (ps := ["p"]) O_content (hr.mono (by decide)) (by rfl) (da_cons (dv 0) da_nil)))
    (ds_one (ds_ret (d_if (dt_gt (dv 1) d_int) (d_tuple (by rfl) T.tuple (da_cons (d_lc (own := [("number", 2)]) rfl sc_reduced.nd (di_seq (dv 0)) (blkOk_by (own := [("number", 2)]) (N := N_reduced) (sc := defScope s_reduced) (by decide +kernel)) (fun _ _ _ _ _ => (dg_name (i := 2) sc_reduced.nd rfl (Or.inl rfl))) (fun _ _ _ _ _ => dts_nil) (fun _ _ _ _ _ => (d_dv (dv 2) (dv 1))) (within_name (by simp)) s) da_nil)) (dv 0)))))⟩)
    th_reduced
abbrev N_primitive : List Str := ["p", "found"]
theorem sc_primitive : FnScope N_primitive ["p"] (defScope s_primitive) := ⟨rfl, rfl, rfl, by decide +kernel, rfl, by decide +kernel, by decide +kernel⟩
theorem de_primitive {fa : Addr} {fd : FuncData} (T : Txt K mg) (O_poly_scaled : Own P w K mg base 1 "poly_scaled" ["p", "number"] C_poly_scaled) (O_reduced : Own P w K mg base 3 "reduced" ["p"] C_reduced) (F : FunD K "primitive" "primitive" (defArgs s_primitive) (defBody s_primitive) (defScope s_primitive) [] [] fa fd) : FnOk P w K mg base CX0 4 fa fd ["p"] (spD K 1 C_primitive) :=
  fnD (f := rd_primitive) F sc_primitive (fun cdv A outer s H E hr => ⟨_, (ds_cons (ds_set (i := 1) sc_primitive.nd rfl (Or.inl rfl) (d_call (ps := ["p"]) O_reduced (hr.mono (by decide)) (by rfl) (da_cons (dv 0) da_nil)))
    (ds_one (ds_ret (d_if (dw_pt (dw_and (dt_tru (dv 1)) (dw_and1 (dt_lt (d_ix (dv 1) (d_neg d_int)) d_int)))) (d_call (ps := ["p", "number"]) O_poly_scaled (hr.mono (by decide)) (by rfl) (da_cons (dv 1) (da_cons (d_neg d_int) da_nil))) (dv 1)))))⟩)
    th_primitive
abbrev N_divided : List Str := ["p", "q", "multiplier", "quotient", "rest", "by", "shift", "factor", "part", "one"]
theorem sc_divided : FnScope N_divided ["p", "q"] (defScope s_divided) := ⟨rfl, rfl, rfl, by decide +kernel, rfl, by decide +kernel, by decide +kernel⟩
theorem de_divided {fa : Addr} {fd : FuncData} (T : Txt K mg) (O_trimmed : Own P w K mg base 1 "trimmed" ["numbers"] C_trimmed) (O_poly_scaled : Own P w K mg base 1 "poly_scaled" ["p", "number"] C_poly_scaled) (O_poly_raised : Own P w K mg base 1 "poly_raised" ["p", "many"] C_poly_raised) (O_poly_minus : Own P w K mg base 3 "poly_minus" ["p", "q"] C_poly_minus) (O_sign_of : Own P w K mg base 1 "sign_of" ["number"] C_sign_of) (O_common_divisor : Own P w K mg base 1 "common_divisor" ["numbers"] C_common_divisor) (F : FunD K "divided" "divided" (defArgs s_divided) (defBody s_divided) (defScope s_divided) [] [] fa fd) : FnOk P w K mg base CX0 4 fa fd ["p", "q"] (spD K 2 C_divided) :=
  fnD (f := rd_divided) F sc_divided (fun cdv A outer s H E hr => ⟨_, (ds_cons (ds_par3 rfl sc_divided.nd (i := 2) (j := 3) (l := 4) rfl rfl rfl (by decide) (by decide) (by decide) rfl rfl rfl (da_cons d_int (da_cons (d_mul (d_lst (da_cons d_int da_nil)) (d_max rfl (by rfl) T.max (da_cons d_int (da_cons (d_add (d_sub (d_len (by rfl) T.len (da_cons (dv 0) da_nil)) (d_len (by rfl) T.len (da_cons (dv 1) da_nil))) d_int) da_nil)))) (da_cons (dv 0) da_nil))) rfl)
    (ds_cons (ds_while PassesOwn.never (dt_ge (d_len (by rfl) T.len (da_cons (dv 4) da_nil)) (d_len (by rfl) T.len (da_cons (dv 1) da_nil))) (ds_cons (ds_set (i := 5) sc_divided.nd rfl (Or.inl rfl) (d_call (ps := ["numbers"]) O_common_divisor (hr.mono (by decide)) (by rfl) (da_cons (d_tup (da_cons (d_ix (dv 4) (d_neg d_int)) (da_cons (d_ix (dv 1) (d_neg d_int)) da_nil))) da_nil)))
    (ds_cons (ds_asg (d_tup (da_cons (d_dv (d_abs (by rfl) T.abs (da_cons (d_ix (dv 1) (d_neg d_int)) da_nil)) (dv 5)) (da_cons (d_dv (d_mul (d_ix (dv 4) (d_neg d_int)) (d_call (ps := ["number"]) O_sign_of (hr.mono (by decide)) (by rfl) (da_cons (d_ix (dv 1) (d_neg d_int)) da_nil))) (dv 5)) da_nil))) (dg_tup rfl (dgs_cons (dg_name (i := 7) sc_divided.nd rfl (Or.inr rfl)) (dgs_cons (dg_name (i := 8) sc_divided.nd rfl (Or.inl rfl)) dgs_nil))))
    (ds_cons (ds_set (i := 6) sc_divided.nd rfl (Or.inl rfl) (d_sub (d_len (by rfl) T.len (da_cons (dv 4) da_nil)) (d_len (by rfl) T.len (da_cons (dv 1) da_nil))))
    (ds_cons (ds_setLc (own := [("one", 9)]) rfl sc_divided.nd (i := 3) rfl rfl (sw_true rfl rfl rfl (by decide +kernel)) (di_seq (dv 3)) (blkOk_by (own := [("one", 9)]) (N := N_divided) (sc := defScope s_divided) (by decide +kernel)) (fun _ _ _ _ _ => (dg_name (i := 9) sc_divided.nd rfl (Or.inl rfl))) (fun _ _ _ _ _ => dts_nil) (fun _ _ _ _ _ => (d_mul (dv 9) (dv 7))) (within_name (by simp)) s)
    (ds_cons (ds_augS iop_add (snd_I0 fun _ _ _ _ => De.i) (dv 3) (dv 6) (dv 8))
    (ds_cons (ds_set (i := 4) sc_divided.nd rfl (Or.inl rfl) (d_call (ps := ["p", "q"]) O_poly_minus (hr.mono (by decide)) (by rfl) (da_cons (d_call (ps := ["p", "number"]) O_poly_scaled (hr.mono (by decide)) (by rfl) (da_cons (dv 4) (da_cons (dv 7) da_nil))) (da_cons (d_call (ps := ["p", "many"]) O_poly_raised (hr.mono (by decide)) (by rfl) (da_cons (d_call (ps := ["p", "number"]) O_poly_scaled (hr.mono (by decide)) (by rfl) (da_cons (dv 1) (da_cons (dv 8) da_nil))) (da_cons (dv 6) da_nil))) da_nil))))
    (ds_one (ds_aug iop_mulA (snd_I fun _ _ _ _ => De.i) sc_divided.nd (i := 2) rfl (Or.inl rfl) (dv 7))))))))))
    (ds_one (ds_ret (d_tup (da_cons (dv 2) (da_cons (d_call (ps := ["numbers"]) O_trimmed (hr.mono (by decide)) (by rfl) (da_cons (dv 3) da_nil)) (da_cons (dv 4) da_nil))))))))⟩)
    th_divided
abbrev N_exact_over : List Str := ["p", "q", "shift", "rest", "found", "top", "power", "number"]
theorem sc_exact_over : FnScope N_exact_over ["p", "q"] (defScope s_exact_over) := ⟨rfl, rfl, rfl, by decide +kernel, rfl, by decide +kernel, by decide +kernel⟩
theorem de_exact_over {fa : Addr} {fd : FuncData} (T : Txt K mg) (O_trimmed : Own P w K mg base 1 "trimmed" ["numbers"] C_trimmed) (F : FunD K "exact_over" "exact_over" (defArgs s_exact_over) (defBody s_exact_over) (defScope s_exact_over) [] [] fa fd) : FnOk P w K mg base CX0 2 fa fd ["p", "q"] (spD K 2 C_exact_over) :=
  fnD (f := rd_exact_over) F sc_exact_over (fun cdv A outer s H E hr => ⟨_, (ds_cons (ds_par rfl sc_exact_over.nd (i := 3) (j := 4) rfl rfl (by decide) rfl rfl (da_cons (d_list (by rfl) T.list (da_cons (dv 0) da_nil)) (da_cons (d_mul (d_lst (da_cons d_int da_nil)) (d_max rfl (by rfl) T.max (da_cons d_int (da_cons (d_add (d_sub (d_len (by rfl) T.len (da_cons (dv 0) da_nil)) (d_len (by rfl) T.len (da_cons (dv 1) da_nil))) d_int) da_nil)))) da_nil)) rfl)
    (ds_cons (ds_for PassesOwn.never rfl (di_rngN (by rfl) T.range (da_cons (d_sub (d_len (by rfl) T.len (da_cons (dv 0) da_nil)) (d_len (by rfl) T.len (da_cons (dv 1) da_nil))) (da_cons (d_neg d_int) (da_cons (d_neg d_int) da_nil)))) (dg_name (i := 2) sc_exact_over.nd rfl (Or.inl rfl)) (ds_cons (ds_set (i := 5) sc_exact_over.nd rfl (Or.inl rfl) (d_ix (dv 3) (d_sub (d_add (dv 2) (d_len (by rfl) T.len (da_cons (dv 1) da_nil))) d_int)))
    (ds_cons (ds_if (dt_ne (d_mod (dv 5) (d_ix (dv 1) (d_neg d_int))) d_int) (ds_one (ds_ret d_non)) ds_nil)
    (ds_cons (ds_asg (d_dv (dv 5) (d_ix (dv 1) (d_neg d_int))) (dg_sub (dv 4) (dv 2)))
    (ds_one (ds_for PassesOwn.never rfl (di_enm (by rfl) T.enumerate (da_cons (dv 1) da_nil)) (dg_tup rfl (dgs_cons (dg_name (i := 6) sc_exact_over.nd rfl (Or.inl rfl)) (dgs_cons (dg_name (i := 7) sc_exact_over.nd rfl (Or.inl rfl)) dgs_nil))) (ds_one (ds_augS iop_sub (snd_I0 fun _ _ _ _ => De.i) (dv 3) (d_add (dv 2) (dv 6)) (d_mul (d_ix (dv 4) (dv 2)) (dv 7))))))))))
    (ds_one (ds_ret (d_if (dt_not (dt_tru (d_anyI rfl (by rfl) T.any (da_cons (dv 3) da_nil)))) (d_call (ps := ["numbers"]) O_trimmed (hr.mono (by decide)) (by rfl) (da_cons (dv 4) da_nil)) d_non)))))⟩)
    th_exact_over
abbrev N_scaled_value : List Str := ["p", "q", "number", "above", "below"]
theorem sc_scaled_value : FnScope N_scaled_value ["p", "q"] (defScope s_scaled_value) := ⟨rfl, rfl, rfl, by decide +kernel, rfl, by decide +kernel, by decide +kernel⟩
theorem de_scaled_value {fa : Addr} {fd : FuncData} (T : Txt K mg) (F : FunD K "scaled_value" "scaled_value" (defArgs s_scaled_value) (defBody s_scaled_value) (defScope s_scaled_value) [] [] fa fd) : FnOk P w K mg base CX0 1 fa fd ["p", "q"] (spD K 2 C_scaled_value) :=
  fnD (f := rd_scaled_value) F sc_scaled_value (fun cdv A outer s H E hr => ⟨_, (ds_cons (ds_asg (d_tup (da_cons d_int (da_cons d_int da_nil))) (dg_tup rfl (dgs_cons (dg_name (i := 3) sc_scaled_value.nd rfl (Or.inl rfl)) (dgs_cons (dg_name (i := 4) sc_scaled_value.nd rfl (Or.inl rfl)) dgs_nil))))
    (ds_cons (ds_for PassesOwn.never rfl (di_rev (by rfl) T.reversed (dv 0)) (dg_name (i := 2) sc_scaled_value.nd rfl (Or.inl rfl)) (ds_cons (ds_set (i := 3) sc_scaled_value.nd rfl (Or.inl rfl) (d_add (d_mul (dv 3) (d_ix (dv 1) d_int)) (d_mul (dv 2) (dv 4))))
    (ds_one (ds_aug iop_mulA (snd_I fun _ _ _ _ => De.i) sc_scaled_value.nd (i := 4) rfl (Or.inl rfl) (d_ix (dv 1) d_int)))))
    (ds_one (ds_ret (d_tup (da_cons (dv 3) (da_cons (d_if (dt_tru (dv 0)) (d_dv (dv 4) (d_ix (dv 1) d_int)) d_int) da_nil)))))))⟩)
    th_scaled_value
abbrev N_value_at : List Str := ["p", "q", "above", "below"]
theorem sc_value_at : FnScope N_value_at ["p", "q"] (defScope s_value_at) := ⟨rfl, rfl, rfl, by decide +kernel, rfl, by decide +kernel, by decide +kernel⟩
theorem de_value_at {fa : Addr} {fd : FuncData} (T : Txt K mg) (O_frac : Own P w K mg base 1 "frac" ["above", "below"] C_frac) (O_scaled_value : Own P w K mg base 1 "scaled_value" ["p", "q"] C_scaled_value) (F : FunD K "value_at" "value_at" (defArgs s_value_at) (defBody s_value_at) (defScope s_value_at) [] [] fa fd) : FnOk P w K mg base CX0 2 fa fd ["p", "q"] (spD K 2 C_value_at) :=
  fnD (f := rd_value_at) F sc_value_at (fun cdv A outer s H E hr => ⟨_, (ds_cons (ds_asg (d_call (ps := ["p", "q"]) O_scaled_value (hr.mono (by decide)) (by rfl) (da_cons (dv 0) (da_cons (dv 1) da_nil))) (dg_tup rfl (dgs_cons (dg_name (i := 2) sc_value_at.nd rfl (Or.inl rfl)) (dgs_cons (dg_name (i := 3) sc_value_at.nd rfl (Or.inl rfl)) dgs_nil))))
    (ds_one (ds_ret (d_call (ps := ["above", "below"]) O_frac (hr.mono (by decide)) (by rfl) (da_cons (dv 2) (da_cons (dv 3) da_nil))))))⟩)
    th_value_at
abbrev N_common : List Str := ["p", "q", "one", "other"]
theorem sc_common : FnScope N_common ["p", "q"] (defScope s_common) := ⟨rfl, rfl, rfl, by decide +kernel, rfl, by decide +kernel, by decide +kernel⟩
theorem de_common {fa : Addr} {fd : FuncData} (T : Txt K mg) (O_divided : Own P w K mg base 4 "divided" ["p", "q"] C_divided) (O_primitive : Own P w K mg base 4 "primitive" ["p"] C_primitive) (F : FunD K "common" "common" (defArgs s_common) (defBody s_common) (defScope s_common) [] [] fa fd) : FnOk P w K mg base CX0 5 fa fd ["p", "q"] (spD K 2 C_common) :=
  fnD (f := rd_common) F sc_common (fun cdv A outer s H E hr => ⟨_, (ds_cons (ds_par rfl sc_common.nd (i := 2) (j := 3) rfl rfl (by decide) rfl rfl (da_cons (d_call (ps := ["p"]) O_primitive (hr.mono (by decide)) (by rfl) (da_cons (dv 0) da_nil)) (da_cons (d_call (ps := ["p"]) O_primitive (hr.mono (by decide)) (by rfl) (da_cons (dv 1) da_nil)) da_nil)) rfl)
    (ds_cons (ds_if (dt_lt (d_len (by rfl) T.len (da_cons (dv 2) da_nil)) (d_len (by rfl) T.len (da_cons (dv 3) da_nil))) (ds_one (ds_par rfl sc_common.nd (i := 2) (j := 3) rfl rfl (by decide) rfl rfl (da_cons (dv 3) (da_cons (dv 2) da_nil)) rfl)) ds_nil)
    (ds_cons (ds_while PassesOwn.never (dt_tru (dv 3)) (ds_one (ds_par rfl sc_common.nd (i := 2) (j := 3) rfl rfl (by decide) rfl rfl (da_cons (dv 3) (da_cons (d_call (ps := ["p"]) O_primitive (hr.mono (by decide)) (by rfl) (da_cons (d_ix (d_call (ps := ["p", "q"]) O_divided (hr.mono (by decide)) (by rfl) (da_cons (dv 2) (da_cons (dv 3) da_nil))) d_int) da_nil)) da_nil)) rfl)))
    (ds_one (ds_ret (d_if (dt_gt (d_len (by rfl) T.len (da_cons (dv 2) da_nil)) d_int) (dv 2) (d_tup (da_cons d_int da_nil))))))))⟩)
    th_common
abbrev N_square_free : List Str := ["p", "one", "by", "left", "other", "found", "power", "gap", "part"]
theorem sc_square_free : FnScope N_square_free ["p"] (defScope s_square_free) := ⟨rfl, rfl, rfl, by decide +kernel, rfl, by decide +kernel, by decide +kernel⟩
theorem de_square_free {fa : Addr} {fd : FuncData} (T : Txt K mg) (O_exact_over : Own P w K mg base 2 "exact_over" ["p", "q"] C_exact_over) (O_common : Own P w K mg base 5 "common" ["p", "q"] C_common) (O_slope : Own P w K mg base 1 "slope" ["p"] C_slope) (O_poly_minus : Own P w K mg base 3 "poly_minus" ["p", "q"] C_poly_minus) (O_primitive : Own P w K mg base 4 "primitive" ["p"] C_primitive) (F : FunD K "square_free" "square_free" (defArgs s_square_free) (defBody s_square_free) (defScope s_square_free) [] [] fa fd) : FnOk P w K mg base CX0 6 fa fd ["p"] (spD K 1 C_square_free) :=
  fnD (f := rd_square_free) F sc_square_free (fun cdv A outer s H E hr => ⟨_, (ds_cons (ds_set (i := 1) sc_square_free.nd rfl (Or.inl rfl) (d_call (ps := ["p"]) O_primitive (hr.mono (by decide)) (by rfl) (da_cons (dv 0) da_nil)))
    (ds_cons (ds_set (i := 2) sc_square_free.nd rfl (Or.inl rfl) (d_call (ps := ["p", "q"]) O_common (hr.mono (by decide)) (by rfl) (da_cons (dv 1) (da_cons (d_call (ps := ["p"]) O_slope (hr.mono (by decide)) (by rfl) (da_cons (dv 1) da_nil)) da_nil))))
    (ds_cons (ds_par rfl sc_square_free.nd (i := 3) (j := 4) rfl rfl (by decide) rfl rfl (da_cons (d_call (ps := ["p", "q"]) O_exact_over (hr.mono (by decide)) (by rfl) (da_cons (dv 1) (da_cons (dv 2) da_nil))) (da_cons (d_call (ps := ["p", "q"]) O_exact_over (hr.mono (by decide)) (by rfl) (da_cons (d_call (ps := ["p"]) O_slope (hr.mono (by decide)) (by rfl) (da_cons (dv 1) da_nil)) (da_cons (dv 2) da_nil))) da_nil)) rfl)
    (ds_cons (ds_par rfl sc_square_free.nd (i := 5) (j := 6) rfl rfl (by decide) rfl rfl (da_cons (d_lst da_nil) (da_cons d_int da_nil)) rfl)
    (ds_cons (ds_while PassesOwn.never (dt_gt (d_len (by rfl) T.len (da_cons (dv 3) da_nil)) d_int) (ds_cons (ds_set (i := 7) sc_square_free.nd rfl (Or.inl rfl) (d_call (ps := ["p", "q"]) O_poly_minus (hr.mono (by decide)) (by rfl) (da_cons (dv 4) (da_cons (d_call (ps := ["p"]) O_slope (hr.mono (by decide)) (by rfl) (da_cons (dv 3) da_nil)) da_nil))))
    (ds_cons (ds_set (i := 8) sc_square_free.nd rfl (Or.inl rfl) (d_call (ps := ["p", "q"]) O_common (hr.mono (by decide)) (by rfl) (da_cons (dv 3) (da_cons (dv 7) da_nil))))
    (ds_cons (ds_if (dt_gt (d_len (by rfl) T.len (da_cons (dv 8) da_nil)) d_int) (ds_one (ds_expr (d_append (dv 5) (da_cons (d_tup (da_cons (dv 8) (da_cons (dv 6) da_nil))) da_nil)))) ds_nil)
    (ds_cons (ds_par rfl sc_square_free.nd (i := 3) (j := 4) rfl rfl (by decide) rfl rfl (da_cons (d_call (ps := ["p", "q"]) O_exact_over (hr.mono (by decide)) (by rfl) (da_cons (dv 3) (da_cons (dv 8) da_nil))) (da_cons (d_call (ps := ["p", "q"]) O_exact_over (hr.mono (by decide)) (by rfl) (da_cons (dv 7) (da_cons (dv 8) da_nil))) da_nil)) rfl)
    (ds_one (ds_aug iop_add (snd_I0 fun _ _ _ _ => De.i) sc_square_free.nd (i := 6) rfl (Or.inl rfl) d_int)))))))
    (ds_one (ds_ret (d_tuple (by rfl) T.tuple (da_cons (dv 5) da_nil)))))))))⟩)
    th_square_free
abbrev N_law_src : List Str := ["script", "cells", "great", "cell"]
theorem sc_law_src : FnScope N_law_src ["script"] (defScope s__law_src) := ⟨rfl, rfl, rfl, by decide +kernel, rfl, by decide +kernel, by decide +kernel⟩
theorem de_law_src {fa : Addr} {fd : FuncData} (T : Txt K mg) (F : FunD K "_law_src" "_law_src" (defArgs s__law_src) (defBody s__law_src) (defScope s__law_src) [] [] fa fd) : FnOk P w K mg base CX0 1 fa fd ["script"] (spD K 1 C_law_src) :=
  fnD (f := rd_law_src) F sc_law_src (fun cdv A outer s H E hr => ⟨_, (ds_cons (ds_setLc (own := [("cell", 3)]) rfl sc_law_src.nd (i := 1) rfl rfl (sw_true rfl rfl rfl (by decide +kernel)) (di_seq (dv 0)) (blkOk_by (own := [("cell", 3)]) (N := N_law_src) (sc := defScope s__law_src) (by decide +kernel)) (fun _ _ _ _ _ => (dg_name (i := 3) sc_law_src.nd rfl (Or.inl rfl))) (fun _ _ _ _ _ => dts_nil) (fun _ _ _ _ _ => (d_int1 (by rfl) T.int (da_cons (dv 3) da_nil))) (within_name (by simp)) s)
    (ds_cons (ds_expr (d_append (dv 1) (da_cons (d_add (d_mul (d_len (by rfl) T.len (da_cons (dv 1) da_nil)) d_int) d_int) da_nil)))
    (ds_cons (ds_set (i := 2) sc_law_src.nd rfl (Or.inl rfl) (d_lst da_nil))
    (ds_cons (ds_if (dt_eq (d_mod (d_int1 (by rfl) T.int (da_cons (d_ix (dv 1) d_int) da_nil)) d_int) d_int) (ds_one (ds_setLc (own := [("cell", 3)]) rfl sc_law_src.nd (i := 2) rfl rfl (sw_true rfl rfl rfl (by decide +kernel)) (di_seq (dv 1)) (blkOk_by (own := [("cell", 3)]) (N := N_law_src) (sc := defScope s__law_src) (by decide +kernel)) (fun _ _ _ _ _ => (dg_name (i := 3) sc_law_src.nd rfl (Or.inl rfl))) (fun _ _ _ _ _ => (dts_one (dt_ge (d_abs (by rfl) T.abs (da_cons (dv 3) da_nil)) (d_pow d_int d_int)))) (fun _ _ _ _ _ => (d_abs (by rfl) T.abs (da_cons (dv 3) da_nil))) (within_name (by simp)) s)) ds_nil)
    (ds_one (ds_ret (d_lst (da_cons d_int (da_cons d_int (da_cons (dv 2) (da_cons (d_lc (own := [("cell", 3)]) rfl sc_law_src.nd (di_seq (dv 1)) (blkOk_by (own := [("cell", 3)]) (N := N_law_src) (sc := defScope s__law_src) (by decide +kernel)) (fun _ _ _ _ _ => (dg_name (i := 3) sc_law_src.nd rfl (Or.inl rfl))) (fun _ _ _ _ _ => dts_nil) (fun _ _ _ _ _ => (d_mod (d_int1 (by rfl) T.int (da_cons (dv 3) da_nil)) d_int)) (within_name (by simp)) s) da_nil)))))))))))⟩)
    th_law_src
abbrev N_law_draw : List Str := ["src", "many", "cells", "cell", "one", "two", "digit"]
theorem sc_law_draw : FnScope N_law_draw ["src", "many"] (defScope s__law_draw) := ⟨rfl, rfl, rfl, by decide +kernel, rfl, by decide +kernel, by decide +kernel⟩
theorem de_law_draw {fa : Addr} {fd : FuncData} (T : Txt K mg) (F : FunD K "_law_draw" "_law_draw" (defArgs s__law_draw) (defBody s__law_draw) (defScope s__law_draw) [] [] fa fd) : FnOk P w K mg base CX0 1 fa fd ["src", "many"] (spD K 2 C_law_draw) :=
  fnD (f := rd_law_draw) F sc_law_draw (fun cdv A outer s H E hr => ⟨_, (ds_cons (ds_asg (d_add (d_ix (dv 0) d_int) d_int) (dg_sub (dv 0) d_int))
    (ds_cons (ds_if (dw_pt (dw_and (dt_eq (d_ix (dv 0) d_int) d_int) (dw_and1 (dt_gt (d_len (by rfl) T.len (da_cons (d_ix (dv 0) d_int) da_nil)) d_int)))) (ds_one (ds_asg (d_popAt (d_ix (dv 0) d_int) (da_cons d_int da_nil)) (dg_sub (dv 0) d_int))) ds_nil)
    (ds_cons (ds_if (dt_gt (d_ix (dv 0) d_int) d_int) (ds_cons (ds_set (i := 6) sc_law_draw.nd rfl (Or.inl rfl) (d_mod (d_int1 (by rfl) T.int (da_cons (d_ix (dv 0) d_int) da_nil)) (dv 1)))
    (ds_cons (ds_asg (d_dv (d_ix (dv 0) d_int) (dv 1)) (dg_sub (dv 0) d_int))
    (ds_one (ds_ret (dv 6))))) ds_nil)
    (ds_cons (ds_set (i := 2) sc_law_draw.nd rfl (Or.inl rfl) (d_ix (dv 0) d_int))
    (ds_cons (ds_set (i := 3) sc_law_draw.nd rfl (Or.inl rfl) (d_ix (dv 2) (d_mod (d_int1 (by rfl) T.int (da_cons (d_ix (dv 0) d_int) da_nil)) (d_len (by rfl) T.len (da_cons (dv 2) da_nil)))))
    (ds_cons (ds_set (i := 4) sc_law_draw.nd rfl (Or.inl rfl) (d_mod (d_int1 (by rfl) T.int (da_cons (d_add (d_add (d_mul (dv 3) d_int) (d_mul (d_ix (dv 0) d_int) d_int)) d_int) da_nil)) d_int))
    (ds_cons (ds_set (i := 5) sc_law_draw.nd rfl (Or.inl rfl) (d_mod (d_int1 (by rfl) T.int (da_cons (d_add (d_add (d_mul (dv 4) (dv 4)) (d_mul (dv 4) d_int)) (d_mul (d_ix (dv 0) d_int) d_int)) da_nil)) d_int))
    (ds_one (ds_ret (d_mod (d_int1 (by rfl) T.int (da_cons (d_dv (dv 5) d_int) da_nil)) (dv 1)))))))))))⟩)
    th_law_draw
abbrev N_law_pick : List Str := ["src", "some"]
theorem sc_law_pick : FnScope N_law_pick ["src", "some"] (defScope s__law_pick) := ⟨rfl, rfl, rfl, by decide +kernel, rfl, by decide +kernel, by decide +kernel⟩
theorem de_law_pick {fa : Addr} {fd : FuncData} (T : Txt K mg) (O_law_draw : Own P w K mg base 1 "_law_draw" ["src", "many"] C_law_draw) (F : FunD K "_law_pick" "_law_pick" (defArgs s__law_pick) (defBody s__law_pick) (defScope s__law_pick) [] [] fa fd) : FnOk P w K mg base CX0 2 fa fd ["src", "some"] (spD K 2 C_law_pick) :=
  fnD (f := rd_law_pick) F sc_law_pick (fun cdv A outer s H E hr => ⟨_, (ds_one (ds_ret (d_ix (dv 1) (d_call (ps := ["src", "many"]) O_law_draw (hr.mono (by decide)) (by rfl) (da_cons (dv 0) (da_cons (d_len (by rfl) T.len (da_cons (dv 1) da_nil)) da_nil))))))⟩)
    th_law_pick
abbrev N_law_eq : List Str := ["found", "due", "k"]
theorem sc_law_eq : FnScope N_law_eq ["found", "due"] (defScope s__law_eq) := ⟨rfl, rfl, rfl, by decide +kernel, rfl, by decide +kernel, by decide +kernel⟩
theorem de_law_eq_step {lv j : Nat} {fa : Addr} {fd : FuncData} (T : Txt K mg) (O_law_eq : Own P w K mg base lv "_law_eq" ["found", "due"] (CEq j)) (F : FunD K "_law_eq" "_law_eq" (defArgs s__law_eq) (defBody s__law_eq) (defScope s__law_eq) [] [] fa fd) : FnOk P w K mg base CX0 (lv + 1) fa fd ["found", "due"] (spD K 2 (CEq (j + 1))) :=
  fnD (f := rd_law_eq (CEq j)) F sc_law_eq (fun cdv A outer s H E hr => ⟨_, (ds_cons (ds_if (dt_isN (dv 1) d_non) (ds_one (ds_ret (d_isN (dv 0) d_non))) ds_nil)
    (ds_cons (ds_if (dw_pt (dw_or (dt_tru (d_isi (Ts := "bool") (by rfl) T.isinstance (by rfl) T.bool (by decide +kernel) (dv 1))) (dw_or1 (dt_tru (d_isi (Ts := "bool") (by rfl) T.isinstance (by rfl) T.bool (by decide +kernel) (dv 0)))))) (ds_one (ds_ret (d_and (d_isi (Ts := "bool") (by rfl) T.isinstance (by rfl) T.bool (by decide +kernel) (dv 1)) (d_and (d_isi (Ts := "bool") (by rfl) T.isinstance (by rfl) T.bool (by decide +kernel) (dv 0)) (d_one (d_eq (dv 0) (dv 1))))))) ds_nil)
    (ds_cons (ds_if (dt_tru (d_isi (Ts := "int") (by rfl) T.isinstance (by rfl) T.int (by decide +kernel) (dv 1))) (ds_one (ds_ret (d_and (d_isi (Ts := "int") (by rfl) T.isinstance (by rfl) T.int (by decide +kernel) (dv 0)) (d_one (d_eq (dv 0) (dv 1)))))) ds_nil)
    (ds_cons (ds_if (dt_tru (d_isi (Ts := "str") (by rfl) T.isinstance (by rfl) T.str (by decide +kernel) (dv 1))) (ds_one (ds_ret (d_and (d_isi (Ts := "str") (by rfl) T.isinstance (by rfl) T.str (by decide +kernel) (dv 0)) (d_one (d_eq (dv 0) (dv 1)))))) ds_nil)
    (ds_cons (ds_if (dw_pt (dw_or (dt_not (dt_tru (d_isi (Ts := "tuple") (by rfl) T.isinstance (by rfl) T.tuple (by decide +kernel) (dv 1)))) (dw_or (dt_not (dt_tru (d_isi (Ts := "tuple") (by rfl) T.isinstance (by rfl) T.tuple (by decide +kernel) (dv 0)))) (dw_or1 (dt_ne (d_len (by rfl) T.len (da_cons (dv 0) da_nil)) (d_len (by rfl) T.len (da_cons (dv 1) da_nil))))))) (ds_one (ds_ret d_bl)) ds_nil)
    (ds_cons (ds_for PassesOwn.never rfl (di_rng1 (by rfl) T.range (da_cons (d_len (by rfl) T.len (da_cons (dv 1) da_nil)) da_nil)) (dg_name (i := 2) sc_law_eq.nd rfl (Or.inl rfl)) (ds_one (ds_if (dt_not (dt_tru (d_call (ps := ["found", "due"]) O_law_eq hr (by rfl) (da_cons (d_ix (dv 0) (dv 2)) (da_cons (d_ix (dv 1) (dv 2)) da_nil))))) (ds_one (ds_ret d_bl)) ds_nil)))
    (ds_one (ds_ret d_bl))))))))⟩)
    th_law_eq
abbrev N_law_gcd : List Str := ["one", "other", "turn"]
theorem sc_law_gcd : FnScope N_law_gcd ["one", "other"] (defScope s__law_gcd) := ⟨rfl, rfl, rfl, by decide +kernel, rfl, by decide +kernel, by decide +kernel⟩
theorem de_law_gcd {fa : Addr} {fd : FuncData} (T : Txt K mg) (F : FunD K "_law_gcd" "_law_gcd" (defArgs s__law_gcd) (defBody s__law_gcd) (defScope s__law_gcd) [] [] fa fd) : FnOk P w K mg base CX0 1 fa fd ["one", "other"] (spD K 2 C_law_gcd) :=
  fnD (f := rd_law_gcd) F sc_law_gcd (fun cdv A outer s H E hr => ⟨_, (ds_cons (ds_par rfl sc_law_gcd.nd (i := 0) (j := 1) rfl rfl (by decide) rfl rfl (da_cons (d_abs (by rfl) T.abs (da_cons (dv 0) da_nil)) (da_cons (d_abs (by rfl) T.abs (da_cons (dv 1) da_nil)) da_nil)) rfl)
    (ds_cons (ds_for PassesOwn.never rfl (di_rng1 (by rfl) T.range (da_cons d_int da_nil)) (dg_name (i := 2) sc_law_gcd.nd rfl (Or.inl rfl)) (ds_cons (ds_if (dt_eq (dv 1) d_int) (ds_one ds_break) ds_nil)
    (ds_one (ds_par rfl sc_law_gcd.nd (i := 0) (j := 1) rfl rfl (by decide) rfl rfl (da_cons (dv 1) (da_cons (d_mod (d_int1 (by rfl) T.int (da_cons (dv 0) da_nil)) (dv 1)) da_nil)) rfl))))
    (ds_one (ds_ret (dv 0)))))⟩)
    th_law_gcd
abbrev N_law_fr : List Str := ["top", "bottom", "shared"]
theorem sc_law_fr : FnScope N_law_fr ["top", "bottom"] (defScope s__law_fr) := ⟨rfl, rfl, rfl, by decide +kernel, rfl, by decide +kernel, by decide +kernel⟩
theorem de_law_fr {fa : Addr} {fd : FuncData} (T : Txt K mg) (O_law_gcd : Own P w K mg base 1 "_law_gcd" ["one", "other"] C_law_gcd) (F : FunD K "_law_fr" "_law_fr" (defArgs s__law_fr) (defBody s__law_fr) (defScope s__law_fr) [] [] fa fd) : FnOk P w K mg base CX0 2 fa fd ["top", "bottom"] (spD K 2 C_law_fr) :=
  fnD (f := rd_law_fr) F sc_law_fr (fun cdv A outer s H E hr => ⟨_, (ds_cons (ds_if (dt_lt (dv 1) d_int) (ds_one (ds_par rfl sc_law_fr.nd (i := 0) (j := 1) rfl rfl (by decide) rfl rfl (da_cons (d_neg (dv 0)) (da_cons (d_neg (dv 1)) da_nil)) rfl)) ds_nil)
    (ds_cons (ds_set (i := 2) sc_law_fr.nd rfl (Or.inl rfl) (d_call (ps := ["one", "other"]) O_law_gcd (hr.mono (by decide)) (by rfl) (da_cons (dv 0) (da_cons (dv 1) da_nil))))
    (ds_one (ds_ret (d_tup (da_cons (d_dv (dv 0) (dv 2)) (da_cons (d_dv (dv 1) (dv 2)) da_nil)))))))⟩)
    th_law_fr
abbrev N_law_add : List Str := ["one", "other"]
theorem sc_law_add : FnScope N_law_add ["one", "other"] (defScope s__law_add) := ⟨rfl, rfl, rfl, by decide +kernel, rfl, by decide +kernel, by decide +kernel⟩
theorem de_law_add {fa : Addr} {fd : FuncData} (T : Txt K mg) (O_law_fr : Own P w K mg base 2 "_law_fr" ["top", "bottom"] C_law_fr) (F : FunD K "_law_add" "_law_add" (defArgs s__law_add) (defBody s__law_add) (defScope s__law_add) [] [] fa fd) : FnOk P w K mg base CX0 3 fa fd ["one", "other"] (spD K 2 C_law_add) :=
  fnD (f := rd_law_add) F sc_law_add (fun cdv A outer s H E hr => ⟨_, (ds_one (ds_ret (d_call (ps := ["top", "bottom"]) O_law_fr (hr.mono (by decide)) (by rfl) (da_cons (d_add (d_mul (d_ix (dv 0) d_int) (d_ix (dv 1) d_int)) (d_mul (d_ix (dv 1) d_int) (d_ix (dv 0) d_int))) (da_cons (d_mul (d_ix (dv 0) d_int) (d_ix (dv 1) d_int)) da_nil)))))⟩)
    th_law_add
abbrev N_law_mul : List Str := ["one", "other"]
theorem sc_law_mul : FnScope N_law_mul ["one", "other"] (defScope s__law_mul) := ⟨rfl, rfl, rfl, by decide +kernel, rfl, by decide +kernel, by decide +kernel⟩
theorem de_law_mul {fa : Addr} {fd : FuncData} (T : Txt K mg) (O_law_fr : Own P w K mg base 2 "_law_fr" ["top", "bottom"] C_law_fr) (F : FunD K "_law_mul" "_law_mul" (defArgs s__law_mul) (defBody s__law_mul) (defScope s__law_mul) [] [] fa fd) : FnOk P w K mg base CX0 3 fa fd ["one", "other"] (spD K 2 C_law_mul) :=
  fnD (f := rd_law_mul) F sc_law_mul (fun cdv A outer s H E hr => ⟨_, (ds_one (ds_ret (d_call (ps := ["top", "bottom"]) O_law_fr (hr.mono (by decide)) (by rfl) (da_cons (d_mul (d_ix (dv 0) d_int) (d_ix (dv 1) d_int)) (da_cons (d_mul (d_ix (dv 0) d_int) (d_ix (dv 1) d_int)) da_nil)))))⟩)
    th_law_mul
abbrev N_law_trim : List Str := ["p", "many", "k"]
theorem sc_law_trim : FnScope N_law_trim ["p"] (defScope s__law_trim) := ⟨rfl, rfl, rfl, by decide +kernel, rfl, by decide +kernel, by decide +kernel⟩
theorem de_law_trim {fa : Addr} {fd : FuncData} (T : Txt K mg) (F : FunD K "_law_trim" "_law_trim" (defArgs s__law_trim) (defBody s__law_trim) (defScope s__law_trim) [] [] fa fd) : FnOk P w K mg base CX0 1 fa fd ["p"] (spD K 1 C_law_trim) :=
  fnD (f := rd_law_trim) F sc_law_trim (fun cdv A outer s H E hr => ⟨_, (ds_cons (ds_set (i := 1) sc_law_trim.nd rfl (Or.inl rfl) (d_len (by rfl) T.len (da_cons (dv 0) da_nil)))
    (ds_cons (ds_for PassesOwn.never rfl (di_rng1 (by rfl) T.range (da_cons (d_len (by rfl) T.len (da_cons (dv 0) da_nil)) da_nil)) (dg_name (i := 2) sc_law_trim.nd rfl (Or.inl rfl)) (ds_cons (ds_if (dt_ne (d_ix (dv 0) (d_sub (dv 1) d_int)) d_int) (ds_one ds_break) ds_nil)
    (ds_one (ds_set (i := 1) sc_law_trim.nd rfl (Or.inl rfl) (d_sub (dv 1) d_int)))))
    (ds_one (ds_ret (d_tuple (by rfl) T.tuple (da_cons (d_sl (dv 0) do_none (do_some (dv 1))) da_nil))))))⟩)
    th_law_trim
abbrev N_law_pmul : List Str := ["p", "q", "found", "i", "k"]
theorem sc_law_pmul : FnScope N_law_pmul ["p", "q"] (defScope s__law_pmul) := ⟨rfl, rfl, rfl, by decide +kernel, rfl, by decide +kernel, by decide +kernel⟩
theorem de_law_pmul {fa : Addr} {fd : FuncData} (T : Txt K mg) (O_law_trim : Own P w K mg base 1 "_law_trim" ["p"] C_law_trim) (F : FunD K "_law_pmul" "_law_pmul" (defArgs s__law_pmul) (defBody s__law_pmul) (defScope s__law_pmul) [] [] fa fd) : FnOk P w K mg base CX0 2 fa fd ["p", "q"] (spD K 2 C_law_pmul) :=
  fnD (f := rd_law_pmul) F sc_law_pmul (fun cdv A outer s H E hr => ⟨_, (ds_cons (ds_if (dw_pt (dw_or (dt_eq (d_len (by rfl) T.len (da_cons (dv 0) da_nil)) d_int) (dw_or1 (dt_eq (d_len (by rfl) T.len (da_cons (dv 1) da_nil)) d_int)))) (ds_one (ds_ret (d_tup da_nil))) ds_nil)
    (ds_cons (ds_set (i := 2) sc_law_pmul.nd rfl (Or.inl rfl) (d_mul (d_lst (da_cons d_int da_nil)) (d_sub (d_add (d_len (by rfl) T.len (da_cons (dv 0) da_nil)) (d_len (by rfl) T.len (da_cons (dv 1) da_nil))) d_int)))
    (ds_cons (ds_for PassesOwn.never rfl (di_rng1 (by rfl) T.range (da_cons (d_len (by rfl) T.len (da_cons (dv 0) da_nil)) da_nil)) (dg_name (i := 3) sc_law_pmul.nd rfl (Or.inl rfl)) (ds_one (ds_for PassesOwn.never rfl (di_rng1 (by rfl) T.range (da_cons (d_len (by rfl) T.len (da_cons (dv 1) da_nil)) da_nil)) (dg_name (i := 4) sc_law_pmul.nd rfl (Or.inl rfl)) (ds_one (ds_asg (d_add (d_ix (dv 2) (d_add (dv 3) (dv 4))) (d_mul (d_ix (dv 0) (dv 3)) (d_ix (dv 1) (dv 4)))) (dg_sub (dv 2) (d_add (dv 3) (dv 4))))))))
    (ds_one (ds_ret (d_call (ps := ["p"]) O_law_trim (hr.mono (by decide)) (by rfl) (da_cons (dv 2) da_nil)))))))⟩)
    th_law_pmul
abbrev N_law_padd : List Str := ["p", "q", "many", "k"]
theorem sc_law_padd : FnScope N_law_padd ["p", "q"] (defScope s__law_padd) := ⟨rfl, rfl, rfl, by decide +kernel, rfl, by decide +kernel, by decide +kernel⟩
theorem de_law_padd {fa : Addr} {fd : FuncData} (T : Txt K mg) (O_law_trim : Own P w K mg base 1 "_law_trim" ["p"] C_law_trim) (F : FunD K "_law_padd" "_law_padd" (defArgs s__law_padd) (defBody s__law_padd) (defScope s__law_padd) [] [] fa fd) : FnOk P w K mg base CX0 2 fa fd ["p", "q"] (spD K 2 C_law_padd) :=
  fnD (f := rd_law_padd) F sc_law_padd (fun cdv A outer s H E hr => ⟨_, (ds_cons (ds_set (i := 2) sc_law_padd.nd rfl (Or.inl rfl) (d_max rfl (by rfl) T.max (da_cons (d_len (by rfl) T.len (da_cons (dv 0) da_nil)) (da_cons (d_len (by rfl) T.len (da_cons (dv 1) da_nil)) da_nil))))
    (ds_one (ds_ret (d_call (ps := ["p"]) O_law_trim (hr.mono (by decide)) (by rfl) (da_cons (d_lc (own := [("k", 3)]) rfl sc_law_padd.nd (di_rng1 (by rfl) T.range (da_cons (dv 2) da_nil)) (blkOk_by (own := [("k", 3)]) (N := N_law_padd) (sc := defScope s__law_padd) (by decide +kernel)) (fun _ _ _ _ _ => (dg_name (i := 3) sc_law_padd.nd rfl (Or.inl rfl))) (fun _ _ _ _ _ => dts_nil) (fun _ _ _ _ _ => (d_addK K rfl (d_if (dt_lt (dv 3) (d_lenK K rfl (by rfl) T.len (da_cons (dv 0) da_nil))) (d_ixK K rfl (dv 0) (dv 3)) d_int) (d_if (dt_lt (dv 3) (d_lenK K rfl (by rfl) T.len (da_cons (dv 1) da_nil))) (d_ixK K rfl (dv 1) (dv 3)) d_int))) (within_name (by simp)) s) da_nil)))))⟩)
    th_law_padd
abbrev N_law_pscale : List Str := ["p", "number", "one"]
theorem sc_law_pscale : FnScope N_law_pscale ["p", "number"] (defScope s__law_pscale) := ⟨rfl, rfl, rfl, by decide +kernel, rfl, by decide +kernel, by decide +kernel⟩
theorem de_law_pscale {fa : Addr} {fd : FuncData} (T : Txt K mg) (O_law_trim : Own P w K mg base 1 "_law_trim" ["p"] C_law_trim) (F : FunD K "_law_pscale" "_law_pscale" (defArgs s__law_pscale) (defBody s__law_pscale) (defScope s__law_pscale) [] [] fa fd) : FnOk P w K mg base CX0 2 fa fd ["p", "number"] (spD K 2 C_law_pscale) :=
  fnD (f := rd_law_pscale) F sc_law_pscale (fun cdv A outer s H E hr => ⟨_, (ds_one (ds_ret (d_call (ps := ["p"]) O_law_trim (hr.mono (by decide)) (by rfl) (da_cons (d_lc (own := [("one", 2)]) rfl sc_law_pscale.nd (di_seq (dv 0)) (blkOk_by (own := [("one", 2)]) (N := N_law_pscale) (sc := defScope s__law_pscale) (by decide +kernel)) (fun _ _ _ _ _ => (dg_name (i := 2) sc_law_pscale.nd rfl (Or.inl rfl))) (fun _ _ _ _ _ => dts_nil) (fun _ _ _ _ _ => (d_mul (dv 1) (dv 2))) (within_name (by simp)) s) da_nil))))⟩)
    th_law_pscale
abbrev N_law_pinto : List Str := ["p", "q", "found", "k"]
theorem sc_law_pinto : FnScope N_law_pinto ["p", "q"] (defScope s__law_pinto) := ⟨rfl, rfl, rfl, by decide +kernel, rfl, by decide +kernel, by decide +kernel⟩
theorem de_law_pinto {fa : Addr} {fd : FuncData} (T : Txt K mg) (O_law_trim : Own P w K mg base 1 "_law_trim" ["p"] C_law_trim) (O_law_pmul : Own P w K mg base 2 "_law_pmul" ["p", "q"] C_law_pmul) (O_law_padd : Own P w K mg base 2 "_law_padd" ["p", "q"] C_law_padd) (F : FunD K "_law_pinto" "_law_pinto" (defArgs s__law_pinto) (defBody s__law_pinto) (defScope s__law_pinto) [] [] fa fd) : FnOk P w K mg base CX0 3 fa fd ["p", "q"] (spD K 2 C_law_pinto) :=
  fnD (f := rd_law_pinto) F sc_law_pinto (fun cdv A outer s H E hr => ⟨_, (ds_cons (ds_set (i := 2) sc_law_pinto.nd rfl (Or.inl rfl) (d_tup da_nil))
    (ds_cons (ds_for PassesOwn.never rfl (di_rng1 (by rfl) T.range (da_cons (d_len (by rfl) T.len (da_cons (dv 0) da_nil)) da_nil)) (dg_name (i := 3) sc_law_pinto.nd rfl (Or.inl rfl)) (ds_one (ds_set (i := 2) sc_law_pinto.nd rfl (Or.inl rfl) (d_call (ps := ["p", "q"]) O_law_padd (hr.mono (by decide)) (by rfl) (da_cons (d_call (ps := ["p", "q"]) O_law_pmul (hr.mono (by decide)) (by rfl) (da_cons (dv 2) (da_cons (dv 1) da_nil))) (da_cons (d_call (ps := ["p"]) O_law_trim (hr.mono (by decide)) (by rfl) (da_cons (d_tup (da_cons (d_ix (dv 0) (d_sub (d_sub (d_len (by rfl) T.len (da_cons (dv 0) da_nil)) d_int) (dv 3))) da_nil)) da_nil)) da_nil))))))
    (ds_one (ds_ret (dv 2)))))⟩)
    th_law_pinto
abbrev N_law_prim : List Str := ["p", "shared", "one"]
theorem sc_law_prim : FnScope N_law_prim ["p"] (defScope s__law_prim) := ⟨rfl, rfl, rfl, by decide +kernel, rfl, by decide +kernel, by decide +kernel⟩
theorem de_law_prim {fa : Addr} {fd : FuncData} (T : Txt K mg) (O_law_gcd : Own P w K mg base 1 "_law_gcd" ["one", "other"] C_law_gcd) (F : FunD K "_law_prim" "_law_prim" (defArgs s__law_prim) (defBody s__law_prim) (defScope s__law_prim) [] [] fa fd) : FnOk P w K mg base CX0 2 fa fd ["p"] (spD K 1 C_law_prim) :=
  fnD (f := rd_law_prim) F sc_law_prim (fun cdv A outer s H E hr => ⟨_, (ds_cons (ds_set (i := 1) sc_law_prim.nd rfl (Or.inr rfl) d_int)
    (ds_cons (ds_for PassesOwn.never rfl (di_seq (dv 0)) (dg_name (i := 2) sc_law_prim.nd rfl (Or.inl rfl)) (ds_one (ds_set (i := 1) sc_law_prim.nd rfl (Or.inr rfl) (d_call (ps := ["one", "other"]) O_law_gcd (hr.mono (by decide)) (by rfl) (da_cons (dv 1) (da_cons (dv 2) da_nil))))))
    (ds_cons (ds_if (dt_lt (d_ix (dv 0) (d_sub (d_len (by rfl) T.len (da_cons (dv 0) da_nil)) d_int)) d_int) (ds_one (ds_set (i := 1) sc_law_prim.nd rfl (Or.inr rfl) (d_neg (dv 1)))) ds_nil)
    (ds_one (ds_ret (d_tuple (by rfl) T.tuple (da_cons (d_lc (own := [("one", 2)]) rfl sc_law_prim.nd (di_seq (dv 0)) (blkOk_by (own := [("one", 2)]) (N := N_law_prim) (sc := defScope s__law_prim) (by decide +kernel)) (fun _ _ _ _ _ => (dg_name (i := 2) sc_law_prim.nd rfl (Or.inl rfl))) (fun _ _ _ _ _ => dts_nil) (fun _ _ _ _ _ => (d_dv (dv 2) (dv 1))) (within_name (by simp)) s) da_nil)))))))⟩)
    th_law_prim
abbrev N_law_pat : List Str := ["p", "q", "total", "k"]
theorem sc_law_pat : FnScope N_law_pat ["p", "q"] (defScope s__law_pat) := ⟨rfl, rfl, rfl, by decide +kernel, rfl, by decide +kernel, by decide +kernel⟩
theorem de_law_pat {fa : Addr} {fd : FuncData} (T : Txt K mg) (O_law_mul : Own P w K mg base 3 "_law_mul" ["one", "other"] C_law_mul) (O_law_add : Own P w K mg base 3 "_law_add" ["one", "other"] C_law_add) (F : FunD K "_law_pat" "_law_pat" (defArgs s__law_pat) (defBody s__law_pat) (defScope s__law_pat) [] [] fa fd) : FnOk P w K mg base CX0 4 fa fd ["p", "q"] (spD K 2 C_law_pat) :=
  fnD (f := rd_law_pat) F sc_law_pat (fun cdv A outer s H E hr => ⟨_, (ds_cons (ds_set (i := 2) sc_law_pat.nd rfl (Or.inl rfl) (d_tup (da_cons d_int (da_cons d_int da_nil))))
    (ds_cons (ds_for PassesOwn.never rfl (di_rng1 (by rfl) T.range (da_cons (d_len (by rfl) T.len (da_cons (dv 0) da_nil)) da_nil)) (dg_name (i := 3) sc_law_pat.nd rfl (Or.inl rfl)) (ds_one (ds_set (i := 2) sc_law_pat.nd rfl (Or.inl rfl) (d_call (ps := ["one", "other"]) O_law_add (hr.mono (by decide)) (by rfl) (da_cons (d_call (ps := ["one", "other"]) O_law_mul (hr.mono (by decide)) (by rfl) (da_cons (dv 2) (da_cons (dv 1) da_nil))) (da_cons (d_tup (da_cons (d_ix (dv 0) (d_sub (d_sub (d_len (by rfl) T.len (da_cons (dv 0) da_nil)) d_int) (dv 3))) (da_cons d_int da_nil))) da_nil))))))
    (ds_one (ds_ret (dv 2)))))⟩)
    th_law_pat
abbrev N_law_wide : List Str := ["src", "size", "number"]
theorem sc_law_wide : FnScope N_law_wide ["src"] (defScope s__law_wide) := ⟨rfl, rfl, rfl, by decide +kernel, rfl, by decide +kernel, by decide +kernel⟩
theorem de_law_wide {fa : Addr} {fd : FuncData} (T : Txt K mg) (O_law_draw : Own P w K mg base 1 "_law_draw" ["src", "many"] C_law_draw) (O_law_pick : Own P w K mg base 2 "_law_pick" ["src", "some"] C_law_pick) (F : FunD K "_law_wide" "_law_wide" (defArgs s__law_wide) (defBody s__law_wide) (defScope s__law_wide) [] [] fa fd) : FnOk P w K mg base CX0 3 fa fd ["src"] (spD K 1 C_law_wide) :=
  fnD (f := rd_law_wide) F sc_law_wide (fun cdv A outer s H E hr => ⟨_, (ds_cons (ds_set (i := 1) sc_law_wide.nd rfl (Or.inl rfl) (d_call (ps := ["src", "some"]) O_law_pick (hr.mono (by decide)) (by rfl) (da_cons (dv 0) (da_cons (d_lst (da_cons d_int (da_cons d_int (da_cons (d_pow d_int d_int) (da_cons (d_pow d_int d_int) (da_cons (d_sub (d_pow d_int d_int) d_int) (da_cons (d_sub (d_pow d_int d_int) d_int) da_nil))))))) da_nil))))
    (ds_cons (ds_set (i := 2) sc_law_wide.nd rfl (Or.inl rfl) (d_mod (d_int1 (by rfl) T.int (da_cons (d_add (d_mul (d_call (ps := ["src", "many"]) O_law_draw (hr.mono (by decide)) (by rfl) (da_cons (dv 0) (da_cons (d_pow d_int d_int) da_nil))) (d_pow d_int d_int)) (d_call (ps := ["src", "many"]) O_law_draw (hr.mono (by decide)) (by rfl) (da_cons (dv 0) (da_cons (d_pow d_int d_int) da_nil)))) da_nil)) (dv 1)))
    (ds_one (ds_ret (d_if (dt_eq (d_call (ps := ["src", "many"]) O_law_draw (hr.mono (by decide)) (by rfl) (da_cons (dv 0) (da_cons d_int da_nil))) d_int) (d_neg (dv 2)) (dv 2))))))⟩)
    th_law_wide
abbrev N_law_widefraction : List Str := ["src", "bottom"]
theorem sc_law_widefraction : FnScope N_law_widefraction ["src"] (defScope s__law_widefraction) := ⟨rfl, rfl, rfl, by decide +kernel, rfl, by decide +kernel, by decide +kernel⟩
theorem de_law_widefraction {fa : Addr} {fd : FuncData} (T : Txt K mg) (O_law_wide : Own P w K mg base 3 "_law_wide" ["src"] C_law_wide) (O_law_fr : Own P w K mg base 2 "_law_fr" ["top", "bottom"] C_law_fr) (F : FunD K "_law_widefraction" "_law_widefraction" (defArgs s__law_widefraction) (defBody s__law_widefraction) (defScope s__law_widefraction) [] [] fa fd) : FnOk P w K mg base CX0 4 fa fd ["src"] (spD K 1 C_law_widefraction) :=
  fnD (f := rd_law_widefraction) F sc_law_widefraction (fun cdv A outer s H E hr => ⟨_, (ds_cons (ds_set (i := 1) sc_law_widefraction.nd rfl (Or.inl rfl) (d_add d_int (d_abs (by rfl) T.abs (da_cons (d_call (ps := ["src"]) O_law_wide (hr.mono (by decide)) (by rfl) (da_cons (dv 0) da_nil)) da_nil))))
    (ds_one (ds_ret (d_call (ps := ["top", "bottom"]) O_law_fr (hr.mono (by decide)) (by rfl) (da_cons (d_call (ps := ["src"]) O_law_wide (hr.mono (by decide)) (by rfl) (da_cons (dv 0) da_nil)) (da_cons (dv 1) da_nil))))))⟩)
    th_law_widefraction
abbrev N_law_polynomial : List Str := ["src", "degree", "size", "found", "k"]
theorem sc_law_polynomial : FnScope N_law_polynomial ["src", "degree", "size"] (defScope s__law_polynomial) := ⟨rfl, rfl, rfl, by decide +kernel, rfl, by decide +kernel, by decide +kernel⟩
theorem de_law_polynomial {fa : Addr} {fd : FuncData} (T : Txt K mg) (O_law_pick : Own P w K mg base 2 "_law_pick" ["src", "some"] C_law_pick) (O_law_draw : Own P w K mg base 1 "_law_draw" ["src", "many"] C_law_draw) (F : FunD K "_law_polynomial" "_law_polynomial" (defArgs s__law_polynomial) (defBody s__law_polynomial) (defScope s__law_polynomial) [] [] fa fd) : FnOk P w K mg base CX0 3 fa fd ["src", "degree", "size"] (spD K 3 C_law_polynomial) :=
  fnD (f := rd_law_polynomial) F sc_law_polynomial (fun cdv A outer s H E hr => ⟨_, (ds_cons (ds_setLc (own := [("k", 4)]) rfl sc_law_polynomial.nd (i := 3) rfl rfl (sw_true rfl rfl rfl (by decide +kernel)) (di_rng1 (by rfl) T.range (da_cons (dv 1) da_nil)) (blkOk_by (own := [("k", 4)]) (N := N_law_polynomial) (sc := defScope s__law_polynomial) (by decide +kernel)) (fun _ _ _ _ _ => (dg_name (i := 4) sc_law_polynomial.nd rfl (Or.inl rfl))) (fun _ _ _ _ _ => dts_nil) (fun _ _ _ _ _ => (d_addK K rfl (d_sub (d_callIn K rfl (ps := ["src", "many"]) O_law_draw (hr.mono (by decide)) (by rfl) (da_cons (dv 0) (da_cons (d_sub (d_mul d_int (dv 2)) d_int) da_nil))) (dv 2)) d_int)) (within_name (by simp)) s)
    (ds_one (ds_ret (d_add (d_tuple (by rfl) T.tuple (da_cons (dv 3) da_nil)) (d_tup (da_cons (d_call (ps := ["src", "some"]) O_law_pick (hr.mono (by decide)) (by rfl) (da_cons (dv 0) (da_cons (d_lst (da_cons d_int (da_cons (d_neg d_int) (da_cons d_int (da_cons (d_sub (dv 2) d_int) da_nil))))) da_nil))) da_nil))))))⟩)
    th_law_polynomial
abbrev N_law_linear : List Str := ["src", "many", "found", "turn", "k", "one"]
theorem sc_law_linear : FnScope N_law_linear ["src", "many"] (defScope s__law_linear) := ⟨rfl, rfl, rfl, by decide +kernel, rfl, by decide +kernel, by decide +kernel⟩
theorem de_law_linear {fa : Addr} {fd : FuncData} (T : Txt K mg) (O_law_draw : Own P w K mg base 1 "_law_draw" ["src", "many"] C_law_draw) (O_law_fr : Own P w K mg base 2 "_law_fr" ["top", "bottom"] C_law_fr) (F : FunD K "_law_linear" "_law_linear" (defArgs s__law_linear) (defBody s__law_linear) (defScope s__law_linear) [] [] fa fd) : FnOk P w K mg base CX0 3 fa fd ["src", "many"] (spD K 2 C_law_linear) :=
  fnD (f := rd_law_linear) F sc_law_linear (fun cdv A outer s H E hr => ⟨_, (ds_cons (ds_set (i := 2) sc_law_linear.nd rfl (Or.inl rfl) (d_lst da_nil))
    (ds_cons (ds_for PassesOwn.never rfl (di_rng1 (by rfl) T.range (da_cons d_int da_nil)) (dg_name (i := 3) sc_law_linear.nd rfl (Or.inl rfl)) (ds_cons (ds_if (dt_eq (d_len (by rfl) T.len (da_cons (dv 2) da_nil)) (dv 1)) (ds_one ds_break) ds_nil)
    (ds_cons (ds_set (i := 5) sc_law_linear.nd rfl (Or.inl rfl) (d_call (ps := ["top", "bottom"]) O_law_fr (hr.mono (by decide)) (by rfl) (da_cons (d_sub (d_call (ps := ["src", "many"]) O_law_draw (hr.mono (by decide)) (by rfl) (da_cons (dv 0) (da_cons d_int da_nil))) d_int) (da_cons (d_add d_int (d_call (ps := ["src", "many"]) O_law_draw (hr.mono (by decide)) (by rfl) (da_cons (dv 0) (da_cons d_int da_nil)))) da_nil))))
    (ds_one (ds_if (dt_notin hr (dv 5) (dv 2)) (ds_one (ds_expr (d_append (dv 2) (da_cons (dv 5) da_nil)))) ds_nil)))))
    (ds_cons (ds_for PassesOwn.never rfl (di_rng1 (by rfl) T.range (da_cons (d_sub (dv 1) (d_len (by rfl) T.len (da_cons (dv 2) da_nil))) da_nil)) (dg_name (i := 4) sc_law_linear.nd rfl (Or.inl rfl)) (ds_one (ds_expr (d_append (dv 2) (da_cons (d_tup (da_cons (d_add d_int (dv 4)) (da_cons d_int da_nil))) da_nil)))))
    (ds_one (ds_ret (d_lc (own := [("one", 5)]) rfl sc_law_linear.nd (di_seq (dv 2)) (blkOk_by (own := [("one", 5)]) (N := N_law_linear) (sc := defScope s__law_linear) (by decide +kernel)) (fun _ _ _ _ _ => (dg_name (i := 5) sc_law_linear.nd rfl (Or.inl rfl))) (fun _ _ _ _ _ => dts_nil) (fun _ _ _ _ _ => (d_tup (da_cons (d_neg (d_ixK K rfl (dv 5) d_int)) (da_cons (d_ixK K rfl (dv 5) d_int) da_nil)))) (within_name (by simp)) s))))))⟩)
    th_law_linear
abbrev N_law_values : List Str := ["src", "p", "q", "due", "small", "one", "other", "first", "second", "inner", "outer", "k"]
theorem sc_law_values : FnScope N_law_values ["src"] (defScope s__law_values) := ⟨rfl, rfl, rfl, by decide +kernel, rfl, by decide +kernel, by decide +kernel⟩
theorem de_law_values {fa : Addr} {fd : FuncData} (T : Txt K mg) (O_law_pinto : Own P w K mg base 3 "_law_pinto" ["p", "q"] C_law_pinto) (O_law_pat : Own P w K mg base 4 "_law_pat" ["p", "q"] C_law_pat) (O_value_at : Own P w K mg base 2 "value_at" ["p", "q"] C_value_at) (O_law_eq : Own P w K mg base 8 "_law_eq" ["found", "due"] C_law_eq) (O_law_draw : Own P w K mg base 1 "_law_draw" ["src", "many"] C_law_draw) (O_law_fr : Own P w K mg base 2 "_law_fr" ["top", "bottom"] C_law_fr) (O_law_polynomial : Own P w K mg base 3 "_law_polynomial" ["src", "degree", "size"] C_law_polynomial) (O_law_mul : Own P w K mg base 3 "_law_mul" ["one", "other"] C_law_mul) (O_law_pmul : Own P w K mg base 2 "_law_pmul" ["p", "q"] C_law_pmul) (O_law_widefraction : Own P w K mg base 4 "_law_widefraction" ["src"] C_law_widefraction) (O_law_wide : Own P w K mg base 3 "_law_wide" ["src"] C_law_wide) (O_law_pick : Own P w K mg base 2 "_law_pick" ["src", "some"] C_law_pick) (OK_value_at_0_q_p : OwnK P w K mg base 2 "value_at" ["p", "q"] 0 ["q", "p"] [1, 0] C_value_at) (F : FunD K "_law_values" "_law_values" (defArgs s__law_values) (defBody s__law_values) (defScope s__law_values) [] [] fa fd) : FnOk P w K mg base CX0 9 fa fd ["src"] (spD K 1 C_law_values) :=
  fnD (f := rd_law_values) F sc_law_values (fun cdv A outer s H E hr => ⟨_, (ds_cons (ds_set (i := 1) sc_law_values.nd rfl (Or.inl rfl) (d_add (d_tuple (by rfl) T.tuple (da_cons (d_lc (own := [("k", 11)]) rfl sc_law_values.nd (di_rng1 (by rfl) T.range (da_cons (d_call (ps := ["src", "many"]) O_law_draw (hr.mono (by decide)) (by rfl) (da_cons (dv 0) (da_cons d_int da_nil))) da_nil)) (blkOk_by (own := [("k", 11)]) (N := N_law_values) (sc := defScope s__law_values) (by decide +kernel)) (fun _ _ _ _ _ => (dg_name (i := 11) sc_law_values.nd rfl (Or.inl rfl))) (fun _ _ _ _ _ => dts_nil) (fun _ _ _ _ _ => (d_callIn K rfl (ps := ["src"]) O_law_wide (hr.mono (by decide)) (by rfl) (da_cons (dv 0) da_nil))) (within_name (by simp)) s) da_nil)) (d_tup (da_cons (d_call (ps := ["src", "some"]) O_law_pick (hr.mono (by decide)) (by rfl) (da_cons (dv 0) (da_cons (d_lst (da_cons d_int (da_cons (d_neg d_int) (da_cons (d_sub (d_pow d_int d_int) d_int) da_nil)))) da_nil))) da_nil))))
    (ds_cons (ds_set (i := 2) sc_law_values.nd rfl (Or.inl rfl) (d_call (ps := ["src"]) O_law_widefraction (hr.mono (by decide)) (by rfl) (da_cons (dv 0) da_nil)))
    (ds_cons (ds_set (i := 3) sc_law_values.nd rfl (Or.inl rfl) (d_call (ps := ["p", "q"]) O_law_pat (hr.mono (by decide)) (by rfl) (da_cons (dv 1) (da_cons (dv 2) da_nil))))
    (ds_cons (ds_if (dt_not (dt_tru (d_call (ps := ["found", "due"]) O_law_eq (hr.mono (by decide)) (by rfl) (da_cons (d_tup (da_cons (d_call (ps := ["p", "q"]) O_value_at (hr.mono (by decide)) (by rfl) (da_cons (dv 1) (da_cons (dv 2) da_nil))) (da_cons (d_onlyK (ps := ["p", "q"]) (ks := ["q", "p"]) (perm := [1, 0]) OK_value_at_0_q_p (hr.mono (by decide)) (by rfl) (dk_cons (dv 2) (dk_cons (dv 1) dk_nil))) (da_cons (d_call (ps := ["p", "q"]) O_value_at (hr.mono (by decide)) (by rfl) (da_cons (d_tup da_nil) (da_cons (dv 2) da_nil))) da_nil)))) (da_cons (d_tup (da_cons (dv 3) (da_cons (dv 3) (da_cons (d_tup (da_cons d_int (da_cons d_int da_nil))) da_nil)))) da_nil))))) (ds_one (ds_ret d_bl)) ds_nil)
    (ds_cons (ds_par rfl sc_law_values.nd (i := 5) (j := 6) rfl rfl (by decide) rfl rfl (da_cons (d_call (ps := ["src", "degree", "size"]) O_law_polynomial (hr.mono (by decide)) (by rfl) (da_cons (dv 0) (da_cons (d_add d_int (d_call (ps := ["src", "many"]) O_law_draw (hr.mono (by decide)) (by rfl) (da_cons (dv 0) (da_cons d_int da_nil)))) (da_cons (d_pow d_int d_int) da_nil)))) (da_cons (d_call (ps := ["src", "degree", "size"]) O_law_polynomial (hr.mono (by decide)) (by rfl) (da_cons (dv 0) (da_cons (d_add d_int (d_call (ps := ["src", "many"]) O_law_draw (hr.mono (by decide)) (by rfl) (da_cons (dv 0) (da_cons d_int da_nil)))) (da_cons (d_pow d_int d_int) da_nil)))) da_nil)) rfl)
    (ds_cons (ds_par rfl sc_law_values.nd (i := 7) (j := 8) rfl rfl (by decide) rfl rfl (da_cons (d_call (ps := ["p", "q"]) O_value_at (hr.mono (by decide)) (by rfl) (da_cons (dv 5) (da_cons (dv 2) da_nil))) (da_cons (d_call (ps := ["p", "q"]) O_value_at (hr.mono (by decide)) (by rfl) (da_cons (dv 6) (da_cons (dv 2) da_nil))) da_nil)) rfl)
    (ds_cons (ds_if (dt_not (dt_tru (d_call (ps := ["found", "due"]) O_law_eq (hr.mono (by decide)) (by rfl) (da_cons (d_tup (da_cons (dv 7) (da_cons (dv 8) (da_cons (d_call (ps := ["p", "q"]) O_value_at (hr.mono (by decide)) (by rfl) (da_cons (d_call (ps := ["p", "q"]) O_law_pmul (hr.mono (by decide)) (by rfl) (da_cons (dv 5) (da_cons (dv 6) da_nil))) (da_cons (dv 2) da_nil))) da_nil)))) (da_cons (d_tup (da_cons (d_call (ps := ["p", "q"]) O_law_pat (hr.mono (by decide)) (by rfl) (da_cons (dv 5) (da_cons (dv 2) da_nil))) (da_cons (d_call (ps := ["p", "q"]) O_law_pat (hr.mono (by decide)) (by rfl) (da_cons (dv 6) (da_cons (dv 2) da_nil))) (da_cons (d_call (ps := ["one", "other"]) O_law_mul (hr.mono (by decide)) (by rfl) (da_cons (d_call (ps := ["p", "q"]) O_law_pat (hr.mono (by decide)) (by rfl) (da_cons (dv 5) (da_cons (dv 2) da_nil))) (da_cons (d_call (ps := ["p", "q"]) O_law_pat (hr.mono (by decide)) (by rfl) (da_cons (dv 6) (da_cons (dv 2) da_nil))) da_nil))) da_nil)))) da_nil))))) (ds_one (ds_ret d_bl)) ds_nil)
    (ds_cons (ds_par rfl sc_law_values.nd (i := 9) (j := 10) rfl rfl (by decide) rfl rfl (da_cons (d_call (ps := ["src", "degree", "size"]) O_law_polynomial (hr.mono (by decide)) (by rfl) (da_cons (dv 0) (da_cons (d_add d_int (d_call (ps := ["src", "many"]) O_law_draw (hr.mono (by decide)) (by rfl) (da_cons (dv 0) (da_cons d_int da_nil)))) (da_cons d_int da_nil)))) (da_cons (d_call (ps := ["src", "degree", "size"]) O_law_polynomial (hr.mono (by decide)) (by rfl) (da_cons (dv 0) (da_cons (d_add d_int (d_call (ps := ["src", "many"]) O_law_draw (hr.mono (by decide)) (by rfl) (da_cons (dv 0) (da_cons d_int da_nil)))) (da_cons d_int da_nil)))) da_nil)) rfl)
    (ds_cons (ds_set (i := 4) sc_law_values.nd rfl (Or.inl rfl) (d_call (ps := ["top", "bottom"]) O_law_fr (hr.mono (by decide)) (by rfl) (da_cons (d_sub (d_call (ps := ["src", "many"]) O_law_draw (hr.mono (by decide)) (by rfl) (da_cons (dv 0) (da_cons d_int da_nil))) d_int) (da_cons (d_add d_int (d_call (ps := ["src", "many"]) O_law_draw (hr.mono (by decide)) (by rfl) (da_cons (dv 0) (da_cons d_int da_nil)))) da_nil))))
    (ds_one (ds_ret (d_call (ps := ["found", "due"]) O_law_eq (hr.mono (by decide)) (by rfl) (da_cons (d_call (ps := ["p", "q"]) O_value_at (hr.mono (by decide)) (by rfl) (da_cons (dv 10) (da_cons (d_call (ps := ["p", "q"]) O_value_at (hr.mono (by decide)) (by rfl) (da_cons (dv 9) (da_cons (dv 4) da_nil))) da_nil))) (da_cons (d_call (ps := ["p", "q"]) O_law_pat (hr.mono (by decide)) (by rfl) (da_cons (d_call (ps := ["p", "q"]) O_law_pinto (hr.mono (by decide)) (by rfl) (da_cons (dv 10) (da_cons (dv 9) da_nil))) (da_cons (dv 4) da_nil))) da_nil))))))))))))))⟩)
    th_law_values
abbrev N_law : List Str := ["script", "src", "turn", "parts", "one", "r", "due", "shared", "cut", "p", "q"]
theorem sc_law : FnScope N_law ["script"] (defScope s_law) := ⟨rfl, rfl, rfl, by decide +kernel, rfl, by decide +kernel, by decide +kernel⟩
theorem de_law {fa : Addr} {fd : FuncData} (T : Txt K mg) (O_law_pmul : Own P w K mg base 2 "_law_pmul" ["p", "q"] C_law_pmul) (O_common : Own P w K mg base 5 "common" ["p", "q"] C_common) (O_law_eq : Own P w K mg base 8 "_law_eq" ["found", "due"] C_law_eq) (O_law_pscale : Own P w K mg base 2 "_law_pscale" ["p", "number"] C_law_pscale) (O_square_free : Own P w K mg base 6 "square_free" ["p"] C_square_free) (O_law_prim : Own P w K mg base 2 "_law_prim" ["p"] C_law_prim) (O_law_draw : Own P w K mg base 1 "_law_draw" ["src", "many"] C_law_draw) (O_law_linear : Own P w K mg base 3 "_law_linear" ["src", "many"] C_law_linear) (O_law_values : Own P w K mg base 9 "_law_values" ["src"] C_law_values) (O_law_src : Own P w K mg base 1 "_law_src" ["script"] C_law_src) (OK_square_free_0_p : OwnK P w K mg base 6 "square_free" ["p"] 0 ["p"] [0] C_square_free) (OK_common_0_q_p : OwnK P w K mg base 5 "common" ["p", "q"] 0 ["q", "p"] [1, 0] C_common) (F : FunD K "law" "law" (defArgs s_law) (defBody s_law) (defScope s_law) [] [] fa fd) : FnOk P w K mg base CX0 10 fa fd ["script"] (spD K 1 C_law) :=
  fnD (f := rd_law) F sc_law (fun cdv A outer s H E hr => ⟨_, (ds_cons (ds_set (i := 1) sc_law.nd rfl (Or.inl rfl) (d_call (ps := ["script"]) O_law_src (hr.mono (by decide)) (by rfl) (da_cons (dv 0) da_nil)))
    (ds_cons (ds_for PassesOwn.never rfl (di_rng1 (by rfl) T.range (da_cons d_int da_nil)) (dg_name (i := 2) sc_law.nd rfl (Or.inl rfl)) (ds_cons (ds_if (dt_not (dt_tru (d_call (ps := ["src"]) O_law_values (hr.mono (by decide)) (by rfl) (da_cons (dv 1) da_nil)))) (ds_one (ds_ret d_bl)) ds_nil)
    (ds_cons (ds_set (i := 3) sc_law.nd rfl (Or.inl rfl) (d_call (ps := ["src", "many"]) O_law_linear (hr.mono (by decide)) (by rfl) (da_cons (dv 1) (da_cons d_int da_nil))))
    (ds_cons (ds_par rfl sc_law.nd (i := 7) (j := 8) rfl rfl (by decide) rfl rfl (da_cons (d_tup (da_cons d_int da_nil)) (da_cons (d_call (ps := ["src", "many"]) O_law_draw (hr.mono (by decide)) (by rfl) (da_cons (dv 1) (da_cons d_int da_nil))) da_nil)) rfl)
    (ds_cons (ds_for PassesOwn.never rfl (di_seq (d_sl (dv 3) do_none (do_some (dv 8)))) (dg_name (i := 4) sc_law.nd rfl (Or.inl rfl)) (ds_one (ds_set (i := 7) sc_law.nd rfl (Or.inl rfl) (d_call (ps := ["p", "q"]) O_law_pmul (hr.mono (by decide)) (by rfl) (da_cons (dv 7) (da_cons (dv 4) da_nil))))))
    (ds_cons (ds_par rfl sc_law.nd (i := 9) (j := 10) rfl rfl (by decide) rfl rfl (da_cons (d_call (ps := ["p", "q"]) O_law_pmul (hr.mono (by decide)) (by rfl) (da_cons (dv 7) (da_cons (d_ix (dv 3) d_int) da_nil))) (da_cons (d_call (ps := ["p", "number"]) O_law_pscale (hr.mono (by decide)) (by rfl) (da_cons (d_call (ps := ["p", "q"]) O_law_pmul (hr.mono (by decide)) (by rfl) (da_cons (dv 7) (da_cons (d_ix (dv 3) d_int) da_nil))) (da_cons (d_neg d_int) da_nil))) da_nil)) rfl)
    (ds_cons (ds_if (dt_not (dt_tru (d_call (ps := ["found", "due"]) O_law_eq (hr.mono (by decide)) (by rfl) (da_cons (d_tup (da_cons (d_call (ps := ["p", "q"]) O_common (hr.mono (by decide)) (by rfl) (da_cons (dv 9) (da_cons (dv 10) da_nil))) (da_cons (d_onlyK (ps := ["p", "q"]) (ks := ["q", "p"]) (perm := [1, 0]) OK_common_0_q_p (hr.mono (by decide)) (by rfl) (dk_cons (dv 9) (dk_cons (dv 10) dk_nil))) (da_cons (d_call (ps := ["p", "q"]) O_common (hr.mono (by decide)) (by rfl) (da_cons (dv 9) (da_cons (d_tup da_nil) da_nil))) (da_cons (d_call (ps := ["p", "q"]) O_common (hr.mono (by decide)) (by rfl) (da_cons (d_tup da_nil) (da_cons (dv 10) da_nil))) (da_cons (d_call (ps := ["p", "q"]) O_common (hr.mono (by decide)) (by rfl) (da_cons (dv 9) (da_cons (dv 9) da_nil))) da_nil)))))) (da_cons (d_tup (da_cons (dv 7) (da_cons (dv 7) (da_cons (dv 9) (da_cons (d_call (ps := ["p"]) O_law_prim (hr.mono (by decide)) (by rfl) (da_cons (dv 10) da_nil)) (da_cons (dv 9) da_nil)))))) da_nil))))) (ds_one (ds_ret d_bl)) ds_nil)
    (ds_cons (ds_set (i := 5) sc_law.nd rfl (Or.inl rfl) (d_call (ps := ["p", "q"]) O_law_pmul (hr.mono (by decide)) (by rfl) (da_cons (d_call (ps := ["p", "q"]) O_law_pmul (hr.mono (by decide)) (by rfl) (da_cons (d_ix (dv 3) d_int) (da_cons (d_ix (dv 3) d_int) da_nil))) (da_cons (d_call (ps := ["p", "q"]) O_law_pmul (hr.mono (by decide)) (by rfl) (da_cons (d_ix (dv 3) d_int) (da_cons (d_ix (dv 3) d_int) da_nil))) da_nil))))
    (ds_cons (ds_set (i := 6) sc_law.nd rfl (Or.inl rfl) (d_tup (da_cons (d_tup (da_cons (d_call (ps := ["p", "q"]) O_law_pmul (hr.mono (by decide)) (by rfl) (da_cons (d_ix (dv 3) d_int) (da_cons (d_ix (dv 3) d_int) da_nil))) (da_cons d_int da_nil))) (da_cons (d_tup (da_cons (d_ix (dv 3) d_int) (da_cons d_int da_nil))) da_nil))))
    (ds_cons (ds_if (dt_not (dt_tru (d_call (ps := ["found", "due"]) O_law_eq (hr.mono (by decide)) (by rfl) (da_cons (d_tup (da_cons (d_call (ps := ["p"]) O_square_free (hr.mono (by decide)) (by rfl) (da_cons (dv 5) da_nil)) (da_cons (d_onlyK (ps := ["p"]) (ks := ["p"]) (perm := [0]) OK_square_free_0_p (hr.mono (by decide)) (by rfl) (dk_cons (d_call (ps := ["p", "number"]) O_law_pscale (hr.mono (by decide)) (by rfl) (da_cons (dv 5) (da_cons (d_neg d_int) da_nil))) dk_nil)) da_nil))) (da_cons (d_tup (da_cons (dv 6) (da_cons (dv 6) da_nil))) da_nil))))) (ds_one (ds_ret d_bl)) ds_nil)
    (ds_one (ds_if (dt_not (dt_tru (d_call (ps := ["found", "due"]) O_law_eq (hr.mono (by decide)) (by rfl) (da_cons (d_call (ps := ["p", "q"]) O_common (hr.mono (by decide)) (by rfl) (da_cons (dv 5) (da_cons (d_call (ps := ["p", "q"]) O_law_pmul (hr.mono (by decide)) (by rfl) (da_cons (d_ix (dv 3) d_int) (da_cons (d_tup (da_cons d_int (da_cons d_int (da_cons d_int da_nil)))) da_nil))) da_nil))) (da_cons (d_ix (dv 3) d_int) da_nil))))) (ds_one (ds_ret d_bl)) ds_nil))))))))))))
    (ds_one (ds_ret d_bl))))⟩)
    th_law
end K01
namespace K01
open PySem PySem.Spec PyProof.Rows L2 Y M
/-! ### the head -/
def d_frac : He.DefD := ⟨("frac", none), "frac", "frac", defArgs s_frac, defBody s_frac, defScope s_frac, [], []⟩
def d_sign_of : He.DefD := ⟨("sign_of", none), "sign_of", "sign_of", defArgs s_sign_of, defBody s_sign_of, defScope s_sign_of, [], []⟩
def d_common_divisor : He.DefD := ⟨("common_divisor", none), "common_divisor", "common_divisor", defArgs s_common_divisor, defBody s_common_divisor, defScope s_common_divisor, [], []⟩
def d_trimmed : He.DefD := ⟨("trimmed", none), "trimmed", "trimmed", defArgs s_trimmed, defBody s_trimmed, defScope s_trimmed, [], []⟩
def d_poly_plus : He.DefD := ⟨("poly_plus", none), "poly_plus", "poly_plus", defArgs s_poly_plus, defBody s_poly_plus, defScope s_poly_plus, [], []⟩
def d_poly_scaled : He.DefD := ⟨("poly_scaled", none), "poly_scaled", "poly_scaled", defArgs s_poly_scaled, defBody s_poly_scaled, defScope s_poly_scaled, [], []⟩
def d_poly_minus : He.DefD := ⟨("poly_minus", none), "poly_minus", "poly_minus", defArgs s_poly_minus, defBody s_poly_minus, defScope s_poly_minus, [], []⟩
def d_poly_raised : He.DefD := ⟨("poly_raised", none), "poly_raised", "poly_raised", defArgs s_poly_raised, defBody s_poly_raised, defScope s_poly_raised, [], []⟩
def d_slope : He.DefD := ⟨("slope", none), "slope", "slope", defArgs s_slope, defBody s_slope, defScope s_slope, [], []⟩
def d_content : He.DefD := ⟨("content", none), "content", "content", defArgs s_content, defBody s_content, defScope s_content, [], []⟩
def d_reduced : He.DefD := ⟨("reduced", none), "reduced", "reduced", defArgs s_reduced, defBody s_reduced, defScope s_reduced, [], []⟩
def d_primitive : He.DefD := ⟨("primitive", none), "primitive", "primitive", defArgs s_primitive, defBody s_primitive, defScope s_primitive, [], []⟩
def d_divided : He.DefD := ⟨("divided", none), "divided", "divided", defArgs s_divided, defBody s_divided, defScope s_divided, [], []⟩
def d_exact_over : He.DefD := ⟨("exact_over", none), "exact_over", "exact_over", defArgs s_exact_over, defBody s_exact_over, defScope s_exact_over, [], []⟩
def d_scaled_value : He.DefD := ⟨("scaled_value", none), "scaled_value", "scaled_value", defArgs s_scaled_value, defBody s_scaled_value, defScope s_scaled_value, [], []⟩
def d_value_at : He.DefD := ⟨("value_at", none), "value_at", "value_at", defArgs s_value_at, defBody s_value_at, defScope s_value_at, [], []⟩
def d_common : He.DefD := ⟨("common", none), "common", "common", defArgs s_common, defBody s_common, defScope s_common, [], []⟩
def d_square_free : He.DefD := ⟨("square_free", none), "square_free", "square_free", defArgs s_square_free, defBody s_square_free, defScope s_square_free, [], []⟩
def d__law_src : He.DefD := ⟨("_law_src", none), "_law_src", "_law_src", defArgs s__law_src, defBody s__law_src, defScope s__law_src, [], []⟩
def d__law_draw : He.DefD := ⟨("_law_draw", none), "_law_draw", "_law_draw", defArgs s__law_draw, defBody s__law_draw, defScope s__law_draw, [], []⟩
def d__law_pick : He.DefD := ⟨("_law_pick", none), "_law_pick", "_law_pick", defArgs s__law_pick, defBody s__law_pick, defScope s__law_pick, [], []⟩
def d__law_eq : He.DefD := ⟨("_law_eq", none), "_law_eq", "_law_eq", defArgs s__law_eq, defBody s__law_eq, defScope s__law_eq, [], []⟩
def d__law_gcd : He.DefD := ⟨("_law_gcd", none), "_law_gcd", "_law_gcd", defArgs s__law_gcd, defBody s__law_gcd, defScope s__law_gcd, [], []⟩
def d__law_fr : He.DefD := ⟨("_law_fr", none), "_law_fr", "_law_fr", defArgs s__law_fr, defBody s__law_fr, defScope s__law_fr, [], []⟩
def d__law_add : He.DefD := ⟨("_law_add", none), "_law_add", "_law_add", defArgs s__law_add, defBody s__law_add, defScope s__law_add, [], []⟩
def d__law_mul : He.DefD := ⟨("_law_mul", none), "_law_mul", "_law_mul", defArgs s__law_mul, defBody s__law_mul, defScope s__law_mul, [], []⟩
def d__law_trim : He.DefD := ⟨("_law_trim", none), "_law_trim", "_law_trim", defArgs s__law_trim, defBody s__law_trim, defScope s__law_trim, [], []⟩
def d__law_pmul : He.DefD := ⟨("_law_pmul", none), "_law_pmul", "_law_pmul", defArgs s__law_pmul, defBody s__law_pmul, defScope s__law_pmul, [], []⟩
def d__law_padd : He.DefD := ⟨("_law_padd", none), "_law_padd", "_law_padd", defArgs s__law_padd, defBody s__law_padd, defScope s__law_padd, [], []⟩
def d__law_pscale : He.DefD := ⟨("_law_pscale", none), "_law_pscale", "_law_pscale", defArgs s__law_pscale, defBody s__law_pscale, defScope s__law_pscale, [], []⟩
def d__law_pinto : He.DefD := ⟨("_law_pinto", none), "_law_pinto", "_law_pinto", defArgs s__law_pinto, defBody s__law_pinto, defScope s__law_pinto, [], []⟩
def d__law_prim : He.DefD := ⟨("_law_prim", none), "_law_prim", "_law_prim", defArgs s__law_prim, defBody s__law_prim, defScope s__law_prim, [], []⟩
def d__law_pat : He.DefD := ⟨("_law_pat", none), "_law_pat", "_law_pat", defArgs s__law_pat, defBody s__law_pat, defScope s__law_pat, [], []⟩
def d__law_wide : He.DefD := ⟨("_law_wide", none), "_law_wide", "_law_wide", defArgs s__law_wide, defBody s__law_wide, defScope s__law_wide, [], []⟩
def d__law_widefraction : He.DefD := ⟨("_law_widefraction", none), "_law_widefraction", "_law_widefraction", defArgs s__law_widefraction, defBody s__law_widefraction, defScope s__law_widefraction, [], []⟩
def d__law_polynomial : He.DefD := ⟨("_law_polynomial", none), "_law_polynomial", "_law_polynomial", defArgs s__law_polynomial, defBody s__law_polynomial, defScope s__law_polynomial, [], []⟩
def d__law_linear : He.DefD := ⟨("_law_linear", none), "_law_linear", "_law_linear", defArgs s__law_linear, defBody s__law_linear, defScope s__law_linear, [], []⟩
def d__law_values : He.DefD := ⟨("_law_values", none), "_law_values", "_law_values", defArgs s__law_values, defBody s__law_values, defScope s__law_values, [], []⟩
def d_law : He.DefD := ⟨("law", none), "law", "law", defArgs s_law, defBody s_law, defScope s_law, [], []⟩
def fn : List He.DefD := ([d_frac, d_sign_of, d_common_divisor, d_trimmed, d_poly_plus, d_poly_scaled, d_poly_minus, d_poly_raised, d_slope, d_content, d_reduced, d_primitive, d_divided, d_exact_over, d_scaled_value, d_value_at, d_common, d_square_free, d__law_src, d__law_draw, d__law_pick, d__law_eq, d__law_gcd, d__law_fr, d__law_add, d__law_mul, d__law_trim, d__law_pmul, d__law_padd, d__law_pscale] : List He.DefD) ++ ([d__law_pinto, d__law_prim, d__law_pat, d__law_wide, d__law_widefraction, d__law_polynomial, d__law_linear, d__law_values, d_law] : List He.DefD)
def fa : List He.Fa := ([.glo "frac", .glo "sign_of", .glo "common_divisor", .glo "trimmed", .glo "poly_plus", .glo "poly_scaled", .glo "poly_minus", .glo "poly_raised", .glo "slope", .glo "content", .glo "reduced", .glo "primitive", .glo "divided", .glo "exact_over", .glo "scaled_value", .glo "value_at", .glo "common", .glo "square_free", .glo "_law_src", .glo "_law_draw", .glo "_law_pick", .glo "_law_eq", .glo "_law_gcd", .glo "_law_fr", .glo "_law_add", .glo "_law_mul", .glo "_law_trim", .glo "_law_pmul", .glo "_law_padd", .glo "_law_pscale"] : List He.Fa) ++ ([.glo "_law_pinto", .glo "_law_prim", .glo "_law_pat", .glo "_law_wide", .glo "_law_widefraction", .glo "_law_polynomial", .glo "_law_linear", .glo "_law_values", .glo "law", .free "abs", .free "any", .free "bool", .free "enumerate", .free "int", .free "isinstance", .free "len", .free "list", .free "max", .free "range", .free "reversed", .free "str", .free "tuple"] : List He.Fa)
def exK (K : PySem.W.Frag) : Bool := (He.eqO (PySem.W.nsIn K mainGlobals "gcd") (some (some (.builtin "math.gcd"))))
abbrev hk : PySem.W.Hook := He.hookX 4 fa fn [] [] exK
theorem facts {P : Program} {w : World} {K : PySem.W.Frag} {h h0 : Heap} {mg : Str → Option Value} {f : Addr} (X : K.In h) (G : h.Ns mainGlobals mg) (hfa : mg ("law" : Str) = some (.ref f)) (c : He.SaysX fa fn [] [] exK w h0 K) :
    ∃ fd : FuncData, (∀ (s : Shared) (v : Value), BindsTo s fd ⟨[v], []⟩ [("script", v)]) ∧ ∀ base : Heap, K.In base → base.Ns mainGlobals mg → FnOk P w K mg base CX0 10 f fd ["script"] (spD K 1 C_law) := by
  have T : Txt K mg := ⟨He.free_ok X G (c.t.d.fact 39 (f := .free "abs") rfl), He.free_ok X G (c.t.d.fact 40 (f := .free "any") rfl), He.free_ok X G (c.t.d.fact 41 (f := .free "bool") rfl), He.free_ok X G (c.t.d.fact 42 (f := .free "enumerate") rfl), He.free_ok X G (c.t.d.fact 43 (f := .free "int") rfl), He.free_ok X G (c.t.d.fact 44 (f := .free "isinstance") rfl), He.free_ok X G (c.t.d.fact 45 (f := .free "len") rfl), He.free_ok X G (c.t.d.fact 46 (f := .free "list") rfl), He.free_ok X G (c.t.d.fact 47 (f := .free "max") rfl), He.free_ok X G (c.t.d.fact 48 (f := .free "range") rfl), He.free_ok X G (c.t.d.fact 49 (f := .free "reversed") rfl), He.free_ok X G (c.t.d.fact 50 (f := .free "str") rfl), He.free_ok X G (c.t.d.fact 51 (f := .free "tuple") rfl), PySem.W.mg_of X G (He.eqO_ok c.more)⟩
  obtain ⟨fd_frac, F_frac⟩ := c.t.d.def_ 0 (d := d_frac) rfl
  have g_frac := He.glo_ok X G (c.t.d.fact 0 (f := .glo "frac") rfl)
  obtain ⟨fd_sign_of, F_sign_of⟩ := c.t.d.def_ 1 (d := d_sign_of) rfl
  have g_sign_of := He.glo_ok X G (c.t.d.fact 1 (f := .glo "sign_of") rfl)
  obtain ⟨fd_common_divisor, F_common_divisor⟩ := c.t.d.def_ 2 (d := d_common_divisor) rfl
  have g_common_divisor := He.glo_ok X G (c.t.d.fact 2 (f := .glo "common_divisor") rfl)
  obtain ⟨fd_trimmed, F_trimmed⟩ := c.t.d.def_ 3 (d := d_trimmed) rfl
  have g_trimmed := He.glo_ok X G (c.t.d.fact 3 (f := .glo "trimmed") rfl)
  obtain ⟨fd_poly_plus, F_poly_plus⟩ := c.t.d.def_ 4 (d := d_poly_plus) rfl
  have g_poly_plus := He.glo_ok X G (c.t.d.fact 4 (f := .glo "poly_plus") rfl)
  obtain ⟨fd_poly_scaled, F_poly_scaled⟩ := c.t.d.def_ 5 (d := d_poly_scaled) rfl
  have g_poly_scaled := He.glo_ok X G (c.t.d.fact 5 (f := .glo "poly_scaled") rfl)
  obtain ⟨fd_poly_minus, F_poly_minus⟩ := c.t.d.def_ 6 (d := d_poly_minus) rfl
  have g_poly_minus := He.glo_ok X G (c.t.d.fact 6 (f := .glo "poly_minus") rfl)
  obtain ⟨fd_poly_raised, F_poly_raised⟩ := c.t.d.def_ 7 (d := d_poly_raised) rfl
  have g_poly_raised := He.glo_ok X G (c.t.d.fact 7 (f := .glo "poly_raised") rfl)
  obtain ⟨fd_slope, F_slope⟩ := c.t.d.def_ 8 (d := d_slope) rfl
  have g_slope := He.glo_ok X G (c.t.d.fact 8 (f := .glo "slope") rfl)
  obtain ⟨fd_content, F_content⟩ := c.t.d.def_ 9 (d := d_content) rfl
  have g_content := He.glo_ok X G (c.t.d.fact 9 (f := .glo "content") rfl)
  obtain ⟨fd_reduced, F_reduced⟩ := c.t.d.def_ 10 (d := d_reduced) rfl
  have g_reduced := He.glo_ok X G (c.t.d.fact 10 (f := .glo "reduced") rfl)
  obtain ⟨fd_primitive, F_primitive⟩ := c.t.d.def_ 11 (d := d_primitive) rfl
  have g_primitive := He.glo_ok X G (c.t.d.fact 11 (f := .glo "primitive") rfl)
  obtain ⟨fd_divided, F_divided⟩ := c.t.d.def_ 12 (d := d_divided) rfl
  have g_divided := He.glo_ok X G (c.t.d.fact 12 (f := .glo "divided") rfl)
  obtain ⟨fd_exact_over, F_exact_over⟩ := c.t.d.def_ 13 (d := d_exact_over) rfl
  have g_exact_over := He.glo_ok X G (c.t.d.fact 13 (f := .glo "exact_over") rfl)
  obtain ⟨fd_scaled_value, F_scaled_value⟩ := c.t.d.def_ 14 (d := d_scaled_value) rfl
  have g_scaled_value := He.glo_ok X G (c.t.d.fact 14 (f := .glo "scaled_value") rfl)
  obtain ⟨fd_value_at, F_value_at⟩ := c.t.d.def_ 15 (d := d_value_at) rfl
  have g_value_at := He.glo_ok X G (c.t.d.fact 15 (f := .glo "value_at") rfl)
  obtain ⟨fd_common, F_common⟩ := c.t.d.def_ 16 (d := d_common) rfl
  have g_common := He.glo_ok X G (c.t.d.fact 16 (f := .glo "common") rfl)
  obtain ⟨fd_square_free, F_square_free⟩ := c.t.d.def_ 17 (d := d_square_free) rfl
  have g_square_free := He.glo_ok X G (c.t.d.fact 17 (f := .glo "square_free") rfl)
  obtain ⟨fd_law_src, F_law_src⟩ := c.t.d.def_ 18 (d := d__law_src) rfl
  have g_law_src := He.glo_ok X G (c.t.d.fact 18 (f := .glo "_law_src") rfl)
  obtain ⟨fd_law_draw, F_law_draw⟩ := c.t.d.def_ 19 (d := d__law_draw) rfl
  have g_law_draw := He.glo_ok X G (c.t.d.fact 19 (f := .glo "_law_draw") rfl)
  obtain ⟨fd_law_pick, F_law_pick⟩ := c.t.d.def_ 20 (d := d__law_pick) rfl
  have g_law_pick := He.glo_ok X G (c.t.d.fact 20 (f := .glo "_law_pick") rfl)
  obtain ⟨fd_law_eq, F_law_eq⟩ := c.t.d.def_ 21 (d := d__law_eq) rfl
  have g_law_eq := He.glo_ok X G (c.t.d.fact 21 (f := .glo "_law_eq") rfl)
  obtain ⟨fd_law_gcd, F_law_gcd⟩ := c.t.d.def_ 22 (d := d__law_gcd) rfl
  have g_law_gcd := He.glo_ok X G (c.t.d.fact 22 (f := .glo "_law_gcd") rfl)
  obtain ⟨fd_law_fr, F_law_fr⟩ := c.t.d.def_ 23 (d := d__law_fr) rfl
  have g_law_fr := He.glo_ok X G (c.t.d.fact 23 (f := .glo "_law_fr") rfl)
  obtain ⟨fd_law_add, F_law_add⟩ := c.t.d.def_ 24 (d := d__law_add) rfl
  have g_law_add := He.glo_ok X G (c.t.d.fact 24 (f := .glo "_law_add") rfl)
  obtain ⟨fd_law_mul, F_law_mul⟩ := c.t.d.def_ 25 (d := d__law_mul) rfl
  have g_law_mul := He.glo_ok X G (c.t.d.fact 25 (f := .glo "_law_mul") rfl)
  obtain ⟨fd_law_trim, F_law_trim⟩ := c.t.d.def_ 26 (d := d__law_trim) rfl
  have g_law_trim := He.glo_ok X G (c.t.d.fact 26 (f := .glo "_law_trim") rfl)
  obtain ⟨fd_law_pmul, F_law_pmul⟩ := c.t.d.def_ 27 (d := d__law_pmul) rfl
  have g_law_pmul := He.glo_ok X G (c.t.d.fact 27 (f := .glo "_law_pmul") rfl)
  obtain ⟨fd_law_padd, F_law_padd⟩ := c.t.d.def_ 28 (d := d__law_padd) rfl
  have g_law_padd := He.glo_ok X G (c.t.d.fact 28 (f := .glo "_law_padd") rfl)
  obtain ⟨fd_law_pscale, F_law_pscale⟩ := c.t.d.def_ 29 (d := d__law_pscale) rfl
  have g_law_pscale := He.glo_ok X G (c.t.d.fact 29 (f := .glo "_law_pscale") rfl)
  obtain ⟨fd_law_pinto, F_law_pinto⟩ := c.t.d.def_ 30 (d := d__law_pinto) rfl
  have g_law_pinto := He.glo_ok X G (c.t.d.fact 30 (f := .glo "_law_pinto") rfl)
  obtain ⟨fd_law_prim, F_law_prim⟩ := c.t.d.def_ 31 (d := d__law_prim) rfl
  have g_law_prim := He.glo_ok X G (c.t.d.fact 31 (f := .glo "_law_prim") rfl)
  obtain ⟨fd_law_pat, F_law_pat⟩ := c.t.d.def_ 32 (d := d__law_pat) rfl
  have g_law_pat := He.glo_ok X G (c.t.d.fact 32 (f := .glo "_law_pat") rfl)
  obtain ⟨fd_law_wide, F_law_wide⟩ := c.t.d.def_ 33 (d := d__law_wide) rfl
  have g_law_wide := He.glo_ok X G (c.t.d.fact 33 (f := .glo "_law_wide") rfl)
  obtain ⟨fd_law_widefraction, F_law_widefraction⟩ := c.t.d.def_ 34 (d := d__law_widefraction) rfl
  have g_law_widefraction := He.glo_ok X G (c.t.d.fact 34 (f := .glo "_law_widefraction") rfl)
  obtain ⟨fd_law_polynomial, F_law_polynomial⟩ := c.t.d.def_ 35 (d := d__law_polynomial) rfl
  have g_law_polynomial := He.glo_ok X G (c.t.d.fact 35 (f := .glo "_law_polynomial") rfl)
  obtain ⟨fd_law_linear, F_law_linear⟩ := c.t.d.def_ 36 (d := d__law_linear) rfl
  have g_law_linear := He.glo_ok X G (c.t.d.fact 36 (f := .glo "_law_linear") rfl)
  obtain ⟨fd_law_values, F_law_values⟩ := c.t.d.def_ 37 (d := d__law_values) rfl
  have g_law_values := He.glo_ok X G (c.t.d.fact 37 (f := .glo "_law_values") rfl)
  obtain ⟨fd_law, F_law⟩ := c.t.d.def_ 38 (d := d_law) rfl
  have e := hfa.symm.trans (He.glo_ok X G (c.t.d.fact 38 (f := .glo "law") rfl))
  cases e
  have b := FunD.bindsA (ps := ["script"]) F_law fun _ _ _ _ _ _ us hl => match us, hl with | [_], _ => rfl
  refine ⟨fd_law, fun s v => b s [v] rfl, fun base _ _ => ?_⟩
  have G_frac := de_frac (P := P) (w := w) (base := base) T F_frac
  have O_frac : Own P w K mg base 1 "frac" ["above", "below"] C_frac := own_mk G_frac F_frac g_frac (fun _ _ _ _ _ _ us hl => match us, hl with | [_, _], _ => rfl)
  have G_sign_of := de_sign_of (P := P) (w := w) (base := base) T F_sign_of
  have O_sign_of : Own P w K mg base 1 "sign_of" ["number"] C_sign_of := own_mk G_sign_of F_sign_of g_sign_of (fun _ _ _ _ _ _ us hl => match us, hl with | [_], _ => rfl)
  have G_common_divisor := de_common_divisor (P := P) (w := w) (base := base) T F_common_divisor
  have O_common_divisor : Own P w K mg base 1 "common_divisor" ["numbers"] C_common_divisor := own_mk G_common_divisor F_common_divisor g_common_divisor (fun _ _ _ _ _ _ us hl => match us, hl with | [_], _ => rfl)
  have G_trimmed := de_trimmed (P := P) (w := w) (base := base) T F_trimmed
  have O_trimmed : Own P w K mg base 1 "trimmed" ["numbers"] C_trimmed := own_mk G_trimmed F_trimmed g_trimmed (fun _ _ _ _ _ _ us hl => match us, hl with | [_], _ => rfl)
  have G_poly_plus := de_poly_plus (P := P) (w := w) (base := base) T O_trimmed F_poly_plus
  have O_poly_plus : Own P w K mg base 2 "poly_plus" ["p", "q"] C_poly_plus := own_mk G_poly_plus F_poly_plus g_poly_plus (fun _ _ _ _ _ _ us hl => match us, hl with | [_, _], _ => rfl)
  have G_poly_scaled := de_poly_scaled (P := P) (w := w) (base := base) T F_poly_scaled
  have O_poly_scaled : Own P w K mg base 1 "poly_scaled" ["p", "number"] C_poly_scaled := own_mk G_poly_scaled F_poly_scaled g_poly_scaled (fun _ _ _ _ _ _ us hl => match us, hl with | [_, _], _ => rfl)
  have G_poly_minus := de_poly_minus (P := P) (w := w) (base := base) T O_poly_scaled O_poly_plus F_poly_minus
  have O_poly_minus : Own P w K mg base 3 "poly_minus" ["p", "q"] C_poly_minus := own_mk G_poly_minus F_poly_minus g_poly_minus (fun _ _ _ _ _ _ us hl => match us, hl with | [_, _], _ => rfl)
  have G_poly_raised := de_poly_raised (P := P) (w := w) (base := base) T F_poly_raised
  have O_poly_raised : Own P w K mg base 1 "poly_raised" ["p", "many"] C_poly_raised := own_mk G_poly_raised F_poly_raised g_poly_raised (fun _ _ _ _ _ _ us hl => match us, hl with | [_, _], _ => rfl)
  have G_slope := de_slope (P := P) (w := w) (base := base) T F_slope
  have O_slope : Own P w K mg base 1 "slope" ["p"] C_slope := own_mk G_slope F_slope g_slope (fun _ _ _ _ _ _ us hl => match us, hl with | [_], _ => rfl)
  have G_content := de_content (P := P) (w := w) (base := base) T O_common_divisor F_content
  have O_content : Own P w K mg base 2 "content" ["p"] C_content := own_mk G_content F_content g_content (fun _ _ _ _ _ _ us hl => match us, hl with | [_], _ => rfl)
  have G_reduced := de_reduced (P := P) (w := w) (base := base) T O_content F_reduced
  have O_reduced : Own P w K mg base 3 "reduced" ["p"] C_reduced := own_mk G_reduced F_reduced g_reduced (fun _ _ _ _ _ _ us hl => match us, hl with | [_], _ => rfl)
  have G_primitive := de_primitive (P := P) (w := w) (base := base) T O_poly_scaled O_reduced F_primitive
  have O_primitive : Own P w K mg base 4 "primitive" ["p"] C_primitive := own_mk G_primitive F_primitive g_primitive (fun _ _ _ _ _ _ us hl => match us, hl with | [_], _ => rfl)
  have G_divided := de_divided (P := P) (w := w) (base := base) T O_trimmed O_poly_scaled O_poly_raised O_poly_minus O_sign_of O_common_divisor F_divided
  have O_divided : Own P w K mg base 4 "divided" ["p", "q"] C_divided := own_mk G_divided F_divided g_divided (fun _ _ _ _ _ _ us hl => match us, hl with | [_, _], _ => rfl)
  have G_exact_over := de_exact_over (P := P) (w := w) (base := base) T O_trimmed F_exact_over
  have O_exact_over : Own P w K mg base 2 "exact_over" ["p", "q"] C_exact_over := own_mk G_exact_over F_exact_over g_exact_over (fun _ _ _ _ _ _ us hl => match us, hl with | [_, _], _ => rfl)
  have G_scaled_value := de_scaled_value (P := P) (w := w) (base := base) T F_scaled_value
  have O_scaled_value : Own P w K mg base 1 "scaled_value" ["p", "q"] C_scaled_value := own_mk G_scaled_value F_scaled_value g_scaled_value (fun _ _ _ _ _ _ us hl => match us, hl with | [_, _], _ => rfl)
  have G_value_at := de_value_at (P := P) (w := w) (base := base) T O_frac O_scaled_value F_value_at
  have O_value_at : Own P w K mg base 2 "value_at" ["p", "q"] C_value_at := own_mk G_value_at F_value_at g_value_at (fun _ _ _ _ _ _ us hl => match us, hl with | [_, _], _ => rfl)
  have OK_value_at_0_q_p : OwnK P w K mg base 2 "value_at" ["p", "q"] 0 ["q", "p"] [1, 0] C_value_at := ownK_mk G_value_at F_value_at g_value_at (fun _ _ _ _ _ _ us ws hl hl2 => match us, hl, ws, hl2 with | [], _, [_, _], _ => rfl)
  have G_common := de_common (P := P) (w := w) (base := base) T O_divided O_primitive F_common
  have O_common : Own P w K mg base 5 "common" ["p", "q"] C_common := own_mk G_common F_common g_common (fun _ _ _ _ _ _ us hl => match us, hl with | [_, _], _ => rfl)
  have OK_common_0_q_p : OwnK P w K mg base 5 "common" ["p", "q"] 0 ["q", "p"] [1, 0] C_common := ownK_mk G_common F_common g_common (fun _ _ _ _ _ _ us ws hl hl2 => match us, hl, ws, hl2 with | [], _, [_, _], _ => rfl)
  have G_square_free := de_square_free (P := P) (w := w) (base := base) T O_exact_over O_common O_slope O_poly_minus O_primitive F_square_free
  have O_square_free : Own P w K mg base 6 "square_free" ["p"] C_square_free := own_mk G_square_free F_square_free g_square_free (fun _ _ _ _ _ _ us hl => match us, hl with | [_], _ => rfl)
  have OK_square_free_0_p : OwnK P w K mg base 6 "square_free" ["p"] 0 ["p"] [0] C_square_free := ownK_mk G_square_free F_square_free g_square_free (fun _ _ _ _ _ _ us ws hl hl2 => match us, hl, ws, hl2 with | [], _, [_], _ => rfl)
  have G_law_src := de_law_src (P := P) (w := w) (base := base) T F_law_src
  have O_law_src : Own P w K mg base 1 "_law_src" ["script"] C_law_src := own_mk G_law_src F_law_src g_law_src (fun _ _ _ _ _ _ us hl => match us, hl with | [_], _ => rfl)
  have G_law_draw := de_law_draw (P := P) (w := w) (base := base) T F_law_draw
  have O_law_draw : Own P w K mg base 1 "_law_draw" ["src", "many"] C_law_draw := own_mk G_law_draw F_law_draw g_law_draw (fun _ _ _ _ _ _ us hl => match us, hl with | [_, _], _ => rfl)
  have G_law_pick := de_law_pick (P := P) (w := w) (base := base) T O_law_draw F_law_pick
  have O_law_pick : Own P w K mg base 2 "_law_pick" ["src", "some"] C_law_pick := own_mk G_law_pick F_law_pick g_law_pick (fun _ _ _ _ _ _ us hl => match us, hl with | [_, _], _ => rfl)
  have O0_law_eq : Own P w K mg base 0 "_law_eq" ["found", "due"] (CEq 0) := own_mk ⟨fun vs H Q E h => h.1, fun A outer s H args us vs Q E _ _ _ _ h => by
    obtain ⟨_, ρ, st, ds, QD, _, _, hC, _⟩ := h
    exact absurd hC eq_vac⟩ F_law_eq g_law_eq (fun _ _ _ _ _ _ us hl => match us, hl with | [_, _], _ => rfl)
  have O1_law_eq : Own P w K mg base 1 "_law_eq" ["found", "due"] (CEq 1) := own_mk (de_law_eq_step T O0_law_eq F_law_eq) F_law_eq g_law_eq (fun _ _ _ _ _ _ us hl => match us, hl with | [_, _], _ => rfl)
  have O2_law_eq : Own P w K mg base 2 "_law_eq" ["found", "due"] (CEq 2) := own_mk (de_law_eq_step T O1_law_eq F_law_eq) F_law_eq g_law_eq (fun _ _ _ _ _ _ us hl => match us, hl with | [_, _], _ => rfl)
  have O3_law_eq : Own P w K mg base 3 "_law_eq" ["found", "due"] (CEq 3) := own_mk (de_law_eq_step T O2_law_eq F_law_eq) F_law_eq g_law_eq (fun _ _ _ _ _ _ us hl => match us, hl with | [_, _], _ => rfl)
  have O4_law_eq : Own P w K mg base 4 "_law_eq" ["found", "due"] (CEq 4) := own_mk (de_law_eq_step T O3_law_eq F_law_eq) F_law_eq g_law_eq (fun _ _ _ _ _ _ us hl => match us, hl with | [_, _], _ => rfl)
  have O5_law_eq : Own P w K mg base 5 "_law_eq" ["found", "due"] (CEq 5) := own_mk (de_law_eq_step T O4_law_eq F_law_eq) F_law_eq g_law_eq (fun _ _ _ _ _ _ us hl => match us, hl with | [_, _], _ => rfl)
  have O6_law_eq : Own P w K mg base 6 "_law_eq" ["found", "due"] (CEq 6) := own_mk (de_law_eq_step T O5_law_eq F_law_eq) F_law_eq g_law_eq (fun _ _ _ _ _ _ us hl => match us, hl with | [_, _], _ => rfl)
  have O7_law_eq : Own P w K mg base 7 "_law_eq" ["found", "due"] (CEq 7) := own_mk (de_law_eq_step T O6_law_eq F_law_eq) F_law_eq g_law_eq (fun _ _ _ _ _ _ us hl => match us, hl with | [_, _], _ => rfl)
  have O8_law_eq : Own P w K mg base 8 "_law_eq" ["found", "due"] (CEq 8) := own_mk (de_law_eq_step T O7_law_eq F_law_eq) F_law_eq g_law_eq (fun _ _ _ _ _ _ us hl => match us, hl with | [_, _], _ => rfl)
  have O_law_eq : Own P w K mg base 8 "_law_eq" ["found", "due"] C_law_eq := O8_law_eq
  have G_law_gcd := de_law_gcd (P := P) (w := w) (base := base) T F_law_gcd
  have O_law_gcd : Own P w K mg base 1 "_law_gcd" ["one", "other"] C_law_gcd := own_mk G_law_gcd F_law_gcd g_law_gcd (fun _ _ _ _ _ _ us hl => match us, hl with | [_, _], _ => rfl)
  have G_law_fr := de_law_fr (P := P) (w := w) (base := base) T O_law_gcd F_law_fr
  have O_law_fr : Own P w K mg base 2 "_law_fr" ["top", "bottom"] C_law_fr := own_mk G_law_fr F_law_fr g_law_fr (fun _ _ _ _ _ _ us hl => match us, hl with | [_, _], _ => rfl)
  have G_law_add := de_law_add (P := P) (w := w) (base := base) T O_law_fr F_law_add
  have O_law_add : Own P w K mg base 3 "_law_add" ["one", "other"] C_law_add := own_mk G_law_add F_law_add g_law_add (fun _ _ _ _ _ _ us hl => match us, hl with | [_, _], _ => rfl)
  have G_law_mul := de_law_mul (P := P) (w := w) (base := base) T O_law_fr F_law_mul
  have O_law_mul : Own P w K mg base 3 "_law_mul" ["one", "other"] C_law_mul := own_mk G_law_mul F_law_mul g_law_mul (fun _ _ _ _ _ _ us hl => match us, hl with | [_, _], _ => rfl)
  have G_law_trim := de_law_trim (P := P) (w := w) (base := base) T F_law_trim
  have O_law_trim : Own P w K mg base 1 "_law_trim" ["p"] C_law_trim := own_mk G_law_trim F_law_trim g_law_trim (fun _ _ _ _ _ _ us hl => match us, hl with | [_], _ => rfl)
  have G_law_pmul := de_law_pmul (P := P) (w := w) (base := base) T O_law_trim F_law_pmul
  have O_law_pmul : Own P w K mg base 2 "_law_pmul" ["p", "q"] C_law_pmul := own_mk G_law_pmul F_law_pmul g_law_pmul (fun _ _ _ _ _ _ us hl => match us, hl with | [_, _], _ => rfl)
  have G_law_padd := de_law_padd (P := P) (w := w) (base := base) T O_law_trim F_law_padd
  have O_law_padd : Own P w K mg base 2 "_law_padd" ["p", "q"] C_law_padd := own_mk G_law_padd F_law_padd g_law_padd (fun _ _ _ _ _ _ us hl => match us, hl with | [_, _], _ => rfl)
  have G_law_pscale := de_law_pscale (P := P) (w := w) (base := base) T O_law_trim F_law_pscale
  have O_law_pscale : Own P w K mg base 2 "_law_pscale" ["p", "number"] C_law_pscale := own_mk G_law_pscale F_law_pscale g_law_pscale (fun _ _ _ _ _ _ us hl => match us, hl with | [_, _], _ => rfl)
  have G_law_pinto := de_law_pinto (P := P) (w := w) (base := base) T O_law_trim O_law_pmul O_law_padd F_law_pinto
  have O_law_pinto : Own P w K mg base 3 "_law_pinto" ["p", "q"] C_law_pinto := own_mk G_law_pinto F_law_pinto g_law_pinto (fun _ _ _ _ _ _ us hl => match us, hl with | [_, _], _ => rfl)
  have G_law_prim := de_law_prim (P := P) (w := w) (base := base) T O_law_gcd F_law_prim
  have O_law_prim : Own P w K mg base 2 "_law_prim" ["p"] C_law_prim := own_mk G_law_prim F_law_prim g_law_prim (fun _ _ _ _ _ _ us hl => match us, hl with | [_], _ => rfl)
  have G_law_pat := de_law_pat (P := P) (w := w) (base := base) T O_law_mul O_law_add F_law_pat
  have O_law_pat : Own P w K mg base 4 "_law_pat" ["p", "q"] C_law_pat := own_mk G_law_pat F_law_pat g_law_pat (fun _ _ _ _ _ _ us hl => match us, hl with | [_, _], _ => rfl)
  have G_law_wide := de_law_wide (P := P) (w := w) (base := base) T O_law_draw O_law_pick F_law_wide
  have O_law_wide : Own P w K mg base 3 "_law_wide" ["src"] C_law_wide := own_mk G_law_wide F_law_wide g_law_wide (fun _ _ _ _ _ _ us hl => match us, hl with | [_], _ => rfl)
  have G_law_widefraction := de_law_widefraction (P := P) (w := w) (base := base) T O_law_wide O_law_fr F_law_widefraction
  have O_law_widefraction : Own P w K mg base 4 "_law_widefraction" ["src"] C_law_widefraction := own_mk G_law_widefraction F_law_widefraction g_law_widefraction (fun _ _ _ _ _ _ us hl => match us, hl with | [_], _ => rfl)
  have G_law_polynomial := de_law_polynomial (P := P) (w := w) (base := base) T O_law_pick O_law_draw F_law_polynomial
  have O_law_polynomial : Own P w K mg base 3 "_law_polynomial" ["src", "degree", "size"] C_law_polynomial := own_mk G_law_polynomial F_law_polynomial g_law_polynomial (fun _ _ _ _ _ _ us hl => match us, hl with | [_, _, _], _ => rfl)
  have G_law_linear := de_law_linear (P := P) (w := w) (base := base) T O_law_draw O_law_fr F_law_linear
  have O_law_linear : Own P w K mg base 3 "_law_linear" ["src", "many"] C_law_linear := own_mk G_law_linear F_law_linear g_law_linear (fun _ _ _ _ _ _ us hl => match us, hl with | [_, _], _ => rfl)
  have G_law_values := de_law_values (P := P) (w := w) (base := base) T O_law_pinto O_law_pat O_value_at O_law_eq O_law_draw O_law_fr O_law_polynomial O_law_mul O_law_pmul O_law_widefraction O_law_wide O_law_pick OK_value_at_0_q_p F_law_values
  have O_law_values : Own P w K mg base 9 "_law_values" ["src"] C_law_values := own_mk G_law_values F_law_values g_law_values (fun _ _ _ _ _ _ us hl => match us, hl with | [_], _ => rfl)
  have G_law := de_law (P := P) (w := w) (base := base) T O_law_pmul O_common O_law_eq O_law_pscale O_square_free O_law_prim O_law_draw O_law_linear O_law_values O_law_src OK_square_free_0_p OK_common_0_q_p F_law
  exact G_law
end K01
open PySem PySem.W PySem.Calls PyProof.Rows
theorem PySem.Challenge.cw_wayorring_k01_twelve_digits_holds : PySem.Challenge.rw_wayorring_k01_twelve_digits.Holds := by
  w_on; o_law
  o_head K01.hk
  case hw => w_witness2
  case hc =>
    refine L2.walk_ofE (l := PySem.Challenge.rw_wayorring_k01_twelve_digits) (n := 63) (k := 10) (x := "script") (CX := L2.CX0) rfl (by decide) (by kernel_rfl) ⟨rfl, by decide, by decide⟩ ?F (fun _ _ _ _ z => z)
    intro w mg fa h W G hmg0
    obtain ⟨K, KX, c⟩ := W
    have hmg : mg ("law" : PySem.Str) = some (.ref fa) := by
      have e : (HandSHeadRun.topDef (OpenLaw.row PySem.Challenge.rw_wayorring_k01_twelve_digits).prog 42).name = ("law" : PySem.Str) := by kernel_rfl
      rw [← e]
      exact hmg0
    obtain ⟨fd, hb, hF⟩ := K01.facts (P := (PySem.Challenge.rw_wayorring_k01_twelve_digits).prog) (w := w) KX G hmg c
    exact ⟨K, fd, Y.spD K 1 K01.C_law, KX, hb, fun H a ns hl _ hS => Y.law_sp (Nat.le_trans hl (by decide)) hS, hF⟩
