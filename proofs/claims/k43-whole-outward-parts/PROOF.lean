import PyProof.Rows.All
import Wide.All
import OpenK.AllK
import Wide.FinOn
import HandS.ForMost
import HandS.Style
import HandS.NoneIn
import HandS.SortRule
import HandS.SortInts
import HandS.Deep
import HandS.DictComp
import HandS.IsInst
import HandS.Zip
import HandS.Flow
import KE.DatumOrd
import KE.KTupSum
import KE.GoesMore
import PyProof.Draws
import HandS.Evl
import PySem.Challenge.RW_leaprows_k43_whole_outward_parts
set_option Elab.async false
set_option linter.all false
set_option maxRecDepth 100000
set_option maxHeartbeats 4000000
/-! Leaps as words: the head of a word is the last leap, true over the right stone, false over the left one. -/
namespace LR
abbrev Wd := List Bool
abbrev Pr := Int × Int
def stepP (p : Pr) (c : Bool) : Pr := if c = true then (p.1 + p.2, p.2) else (p.1, p.1 + p.2)
def pr : Wd → Pr
  | [] => (1, 1)
  | c :: w => stepP (pr w) c
def par (p : Pr) : Option Pr := if p.1 = p.2 then none else some (if p.2 < p.1 then (p.1 - p.2, p.2) else (p.1, p.2 - p.1))
theorem pr_t (w : Wd) : pr (true :: w) = ((pr w).1 + (pr w).2, (pr w).2) := rfl
theorem pr_f (w : Wd) : pr (false :: w) = ((pr w).1, (pr w).1 + (pr w).2) := rfl
theorem pr_pos : ∀ w, 1 ≤ (pr w).1 ∧ 1 ≤ (pr w).2
  | [] => ⟨Int.le_refl _, Int.le_refl _⟩
  | true :: w => by
    have h := pr_pos w
    rw [pr_t]
    constructor <;> dsimp only <;> omega
  | false :: w => by
    have h := pr_pos w
    rw [pr_f]
    constructor <;> dsimp only <;> omega
theorem par_nil : par (pr []) = none := rfl
theorem par_cons (c : Bool) (w : Wd) : par (pr (c :: w)) = some (pr w) := by
  have h := pr_pos w
  cases c with
  | true =>
    rw [pr_t]
    unfold par
    dsimp only
    rw [if_neg (by omega), if_pos (by omega)]
    congr 1
    exact Prod.ext (by dsimp only; omega) rfl
  | false =>
    rw [pr_f]
    unfold par
    dsimp only
    rw [if_neg (by omega), if_neg (by omega)]
    congr 1
    exact Prod.ext rfl (by dsimp only; omega)
theorem pr_inj : ∀ u v : Wd, pr u = pr v → u = v
  | [], [], _ => rfl
  | [], c :: v, h => by
    have e := congrArg par h
    rw [par_cons, par_nil] at e
    cases e
  | c :: u, [], h => by
    have e := congrArg par h
    rw [par_cons, par_nil] at e
    cases e
  | c :: u, d :: v, h => by
    have e := congrArg par h
    rw [par_cons, par_cons] at e
    have e2 := pr_inj u v (Option.some.inj e)
    subst e2
    have hp := pr_pos u
    cases c <;> cases d
    · rfl
    · rw [pr_f, pr_t] at h
      have := congrArg Prod.fst h
      dsimp only at this
      omega
    · rw [pr_f, pr_t] at h
      have := congrArg Prod.fst h
      dsimp only at this
      omega
    · rfl
theorem pr_gcd : ∀ w, Int.gcd (pr w).1 (pr w).2 = 1
  | [] => rfl
  | true :: w => by
    rw [pr_t]
    show Int.gcd ((pr w).1 + (pr w).2) (pr w).2 = 1
    rw [Int.gcd_add_self_left]
    exact pr_gcd w
  | false :: w => by
    rw [pr_f]
    show Int.gcd (pr w).1 ((pr w).1 + (pr w).2) = 1
    rw [Int.add_comm, Int.gcd_add_self_right]
    exact pr_gcd w
theorem pr_two : ∀ w : Wd, (pr w).1 ≤ 2 ^ w.length ∧ (pr w).2 ≤ 2 ^ w.length
  | [] => ⟨Int.le_refl _, Int.le_refl _⟩
  | true :: w => by
    have h := pr_two w
    have h0 := pr_pos w
    rw [pr_t, List.length_cons, Int.pow_succ]
    constructor <;> dsimp only <;> omega
  | false :: w => by
    have h := pr_two w
    have h0 := pr_pos w
    rw [pr_f, List.length_cons, Int.pow_succ]
    constructor <;> dsimp only <;> omega
theorem pr_len : ∀ w : Wd, (w.length : Int) + 2 ≤ (pr w).1 + (pr w).2
  | [] => by decide
  | true :: w => by
    have h := pr_len w
    have hp := pr_pos w
    rw [pr_t, List.length_cons]
    dsimp only
    omega
  | false :: w => by
    have h := pr_len w
    have hp := pr_pos w
    rw [pr_f, List.length_cons]
    dsimp only
    omega
theorem pr_small (w : Wd) (h : w.length ≤ 5) : (pr w).1 ≤ 13 ∧ (pr w).2 ≤ 13 := by
  match w, h with
  | [], _ => decide
  | [a], _ => revert a; decide
  | [a, b], _ => revert a b; decide
  | [a, b, c], _ => revert a b c; decide
  | [a, b, c, d], _ => revert a b c d; decide
  | [a, b, c, d, e], _ => revert a b c d e; decide
  | _ :: _ :: _ :: _ :: _ :: _ :: _, h => exact absurd h (by simp only [List.length_cons]; omega)
theorem pr_thousand (w : Wd) (h : w.length ≤ 9) : (pr w).1 ≤ 1000 ∧ (pr w).2 ≤ 1000 := by
  have h2 := pr_two w
  have h3 : (2 : Int) ^ w.length ≤ 2 ^ 9 := by
    have q : 2 ^ w.length ≤ 2 ^ 9 := Nat.pow_le_pow_right (by decide) h
    exact_mod_cast q
  have h4 : (2 : Int) ^ 9 = 512 := rfl
  omega

/-! ### the words in a box, each ahead of what comes from it -/
section
variable (W H : Int)
def inb (w : Wd) : Bool := decide ((pr w).1 ≤ W ∧ (pr w).2 ≤ H)
def fu (w : Wd) : Nat := (W + H + 1 - (pr w).1 - (pr w).2).toNat
def preN : Nat → Wd → List Wd
  | 0, _ => []
  | n + 1, u => if inb W H u = true then u :: (preN n (true :: u) ++ preN n (false :: u)) else []
def P (u : Wd) : List Wd := preN W H (fu W H u) u
end
section
variable {W H : Int}
theorem inb_iff {w : Wd} : inb W H w = true ↔ (pr w).1 ≤ W ∧ (pr w).2 ≤ H := decide_eq_true_iff
theorem inb_up {c : Bool} {w : Wd} (h : inb W H (c :: w) = true) : inb W H w = true := by
  rw [inb_iff] at h ⊢
  have hp := pr_pos w
  cases c
  · rw [pr_f] at h
    dsimp only at h
    omega
  · rw [pr_t] at h
    dsimp only at h
    omega
theorem inb_suf {u : Wd} : ∀ {v : Wd}, u <:+ v → inb W H v = true → inb W H u = true
  | [], h, hv => by
    rw [List.suffix_nil] at h
    rw [h]
    exact hv
  | c :: v, h, hv => by
    rcases List.suffix_cons_iff.mp h with e | e
    · rw [e]; exact hv
    · exact inb_suf e (inb_up hv)
theorem fu_cons {c : Bool} {w : Wd} (h : inb W H w = true) : fu W H (c :: w) < fu W H w := by
  rw [inb_iff] at h
  have hp := pr_pos w
  unfold fu
  cases c
  · rw [pr_f]
    dsimp only
    omega
  · rw [pr_t]
    dsimp only
    omega
theorem preN_enough : ∀ (n m : Nat) (u : Wd), fu W H u ≤ n → fu W H u ≤ m → preN W H n u = preN W H m u
  | 0, 0, _, _, _ => rfl
  | 0, m + 1, u, h, _ => by
    have hn : inb W H u = false := by
      cases e : inb W H u with
      | false => rfl
      | true =>
        have := fu_cons (c := true) e
        omega
    unfold preN
    rw [hn]
    rfl
  | n + 1, 0, u, _, h => by
    have hn : inb W H u = false := by
      cases e : inb W H u with
      | false => rfl
      | true =>
        have := fu_cons (c := true) e
        omega
    unfold preN
    rw [hn]
    rfl
  | n + 1, m + 1, u, h1, h2 => by
    unfold preN
    cases e : inb W H u with
    | false => rfl
    | true =>
      have q1 := fu_cons (c := true) e
      have q2 := fu_cons (c := false) e
      rw [preN_enough n m (true :: u) (by omega) (by omega), preN_enough n m (false :: u) (by omega) (by omega)]
theorem P_in {u : Wd} (h : inb W H u = true) : P W H u = u :: (P W H (true :: u) ++ P W H (false :: u)) := by
  have q1 := fu_cons (c := true) h
  have q2 := fu_cons (c := false) h
  obtain ⟨n, hn⟩ : ∃ n, fu W H u = n + 1 := ⟨fu W H u - 1, by omega⟩
  unfold P
  rw [hn]
  show (if inb W H u = true then u :: (preN W H n (true :: u) ++ preN W H n (false :: u)) else []) = _
  rw [if_pos h, preN_enough n _ (true :: u) (by omega) (Nat.le_refl _), preN_enough n _ (false :: u) (by omega) (Nat.le_refl _)]
theorem P_out {u : Wd} (h : inb W H u = false) : P W H u = [] := by
  unfold P
  cases fu W H u with
  | zero => rfl
  | succ n =>
    unfold preN
    rw [h]
    rfl
/-- induction along the words in the box -/
theorem P_ind {C : Wd → Prop} (ho : ∀ u, inb W H u = false → C u) (hi : ∀ u, inb W H u = true → C (true :: u) → C (false :: u) → C u) : ∀ u, C u := by
  have go : ∀ (n : Nat) (u : Wd), fu W H u ≤ n → C u := by
    intro n
    induction n with
    | zero =>
      intro u h
      refine ho u ?_
      cases e : inb W H u with
      | false => rfl
      | true =>
        have := fu_cons (c := true) e
        omega
    | succ n ih =>
      intro u h
      cases e : inb W H u with
      | false => exact ho u e
      | true =>
        have q1 := fu_cons (c := true) e
        have q2 := fu_cons (c := false) e
        exact hi u e (ih _ (by omega)) (ih _ (by omega))
  exact fun u => go _ u (Nat.le_refl _)
theorem P_suf : ∀ (u v : Wd), v ∈ P W H u → u <:+ v := by
  refine P_ind (W := W) (H := H) (fun u h v hv => ?_) (fun u h i1 i2 v hv => ?_)
  · rw [P_out h] at hv
    cases hv
  · rw [P_in h] at hv
    rcases List.mem_cons.mp hv with e | hv
    · rw [e]; exact List.suffix_refl _
    · rcases List.mem_append.mp hv with hv | hv
      · exact (List.suffix_cons _ _).trans (i1 v hv)
      · exact (List.suffix_cons _ _).trans (i2 v hv)
theorem P_inb : ∀ (u v : Wd), v ∈ P W H u → inb W H v = true := by
  refine P_ind (W := W) (H := H) (fun u h v hv => ?_) (fun u h i1 i2 v hv => ?_)
  · rw [P_out h] at hv
    cases hv
  · rw [P_in h] at hv
    rcases List.mem_cons.mp hv with e | hv
    · rw [e]; exact h
    · rcases List.mem_append.mp hv with hv | hv
      · exact i1 v hv
      · exact i2 v hv
theorem P_self {u : Wd} (h : inb W H u = true) : u ∈ P W H u := by
  rw [P_in h]
  exact List.mem_cons_self
theorem P_kid (c : Bool) : ∀ (u v : Wd), v ∈ P W H u → inb W H (c :: v) = true → c :: v ∈ P W H u := by
  refine P_ind (W := W) (H := H) (fun u h v hv hc => ?_) (fun u h i1 i2 v hv hc => ?_)
  · rw [P_out h] at hv
    cases hv
  · rw [P_in h] at hv ⊢
    rcases List.mem_cons.mp hv with e | hv
    · subst e
      refine List.mem_cons_of_mem _ (List.mem_append.mpr ?_)
      cases c
      · exact .inr (P_self hc)
      · exact .inl (P_self hc)
    · refine List.mem_cons_of_mem _ (List.mem_append.mpr ?_)
      rcases List.mem_append.mp hv with hv | hv
      · exact .inl (i1 v hv hc)
      · exact .inr (i2 v hv hc)
theorem P_mem {u : Wd} : ∀ {v : Wd}, u <:+ v → inb W H v = true → v ∈ P W H u
  | [], h, hv => by
    rw [List.suffix_nil] at h
    subst h
    exact P_self hv
  | c :: v, h, hv => by
    rcases List.suffix_cons_iff.mp h with e | e
    · subst e; exact P_self hv
    · exact P_kid c _ _ (P_mem e (inb_up hv)) hv
/-- two words of which neither is longer, both ends of one word, are one -/
theorem suf_eq {u v w : Wd} (h1 : u <:+ w) (h2 : v <:+ w) (hl : u.length = v.length) : u = v := by
  rcases List.suffix_or_suffix_of_suffix h1 h2 with h | h
  · exact h.eq_of_length hl
  · exact (h.eq_of_length hl.symm).symm
theorem suf_not {u v : Wd} (h : u <:+ v) (hl : v.length < u.length) : False := by
  have := h.length_le
  omega
theorem P_cons_ne {c d : Bool} {u v : Wd} (h1 : (c :: u) <:+ v) (h2 : (d :: u) <:+ v) : c = d := by
  have e := suf_eq h1 h2 rfl
  exact (List.cons.inj e).1
def anc (u q : Wd) : Bool := decide (u <:+ q)
theorem anc_iff {u q : Wd} : anc u q = true ↔ u <:+ q := decide_eq_true_iff
theorem P_filter {u : Wd} (hu : inb W H u = true) : ∀ v : Wd, v <:+ u → (P W H v).filter (anc u) = P W H u := by
  refine P_ind (W := W) (H := H) (fun v h hv => ?_) (fun v h i1 i2 hv => ?_)
  · rw [inb_suf hv hu] at h
    cases h
  · by_cases e : v = u
    · subst e
      exact List.filter_eq_self.mpr fun q hq => anc_iff.mpr (P_suf v q hq)
    · obtain ⟨t, ht⟩ := hv
      obtain ⟨t', c, rfl⟩ : ∃ t' c, t = t' ++ [c] := by
        rcases List.eq_nil_or_concat t with z | ⟨t', c, z⟩
        · exact absurd (by rw [z] at ht; exact ht) e
        · exact ⟨t', c, by rw [z, List.concat_eq_append]⟩
      have hc : (c :: v) <:+ u := ⟨t', by rw [← ht]; simp⟩
      have hl : v.length < u.length := by
        have := hc.length_le
        simp only [List.length_cons] at this
        omega
      have hv0 : anc u v = false := by
        cases q : anc u v with
        | false => rfl
        | true => exact (suf_not (anc_iff.mp q) hl).elim
      have other : ∀ d, d ≠ c → (P W H (d :: v)).filter (anc u) = [] := fun d hd => by
        rw [List.filter_eq_nil_iff]
        intro q hq ha
        exact hd (P_cons_ne (P_suf _ _ hq) (hc.trans (anc_iff.mp ha)))
      rw [P_in h, List.filter_cons, hv0, if_neg Bool.false_ne_true, List.filter_append]
      cases c
      · rw [other true (by decide), i2 hc, List.nil_append]
      · rw [other false (by decide), i1 hc, List.append_nil]
/-! ### a fold from the last word to the first: what is kept at a word from what comes from it -/
abbrev Fn := Pr → Option Int
def upf (f : Fn) (p : Pr) (x : Int) : Fn := fun q => if q = p then some x else f q
theorem upf_same {f : Fn} {p : Pr} {x : Int} : upf f p x p = some x := if_pos rfl
theorem upf_ne {f : Fn} {p q : Pr} {x : Int} (h : q ≠ p) : upf f p x q = f q := if_neg h
def gst (nd : Int → Int) (cb : Int → Int → Int) (f : Fn) (p : Pr) : Fn :=
  match par p with
  | none => upf f p (nd ((f p).getD 0))
  | some q => upf (upf f p (nd ((f p).getD 0))) q (cb (((upf f p (nd ((f p).getD 0))) q).getD 0) (nd ((f p).getD 0)))
def runF (nd : Int → Int) (cb : Int → Int → Int) (f : Fn) (l : List Wd) : Fn := (l.reverse.map pr).foldl (gst nd cb) f
theorem runF_app {nd cb f} {l k : List Wd} : runF nd cb f (l ++ k) = runF nd cb (runF nd cb f k) l := by
  unfold runF
  rw [List.reverse_append, List.map_append, List.foldl_append]
theorem runF_cons {nd cb f} {u : Wd} {l : List Wd} : runF nd cb f (u :: l) = gst nd cb (runF nd cb f l) (pr u) := by
  unfold runF
  rw [List.reverse_cons, List.map_append, List.foldl_append]
  rfl
theorem fold_sub {nd : Int → Int} {cb : Int → Int → Int} {T : Wd → Int}
    (hT : ∀ u, inb W H u = true → T u = nd (if inb W H (true :: u) = true then cb (if inb W H (false :: u) = true then cb 0 (T (false :: u)) else 0) (T (true :: u)) else (if inb W H (false :: u) = true then cb 0 (T (false :: u)) else 0))) :
    ∀ (u : Wd) (f : Fn), (∀ v, u <:+ v → f (pr v) = none) →
      (∀ v, v ∈ P W H u → runF nd cb f (P W H u) (pr v) = some (T v)) ∧
      (∀ p, (∀ v ∈ P W H u, p ≠ pr v) → (∀ c u0, u = c :: u0 → p ≠ pr u0) → runF nd cb f (P W H u) p = f p) ∧
      (∀ c u0, u = c :: u0 → runF nd cb f (P W H u) (pr u0) = if inb W H u = true then some (cb ((f (pr u0)).getD 0) (T u)) else f (pr u0)) := by
  refine P_ind (W := W) (H := H) (fun u h f hf => ?_) (fun u h i1 i2 f hf => ?_)
  · rw [P_out h]
    refine ⟨fun v hv => (nomatch hv), fun p _ _ => rfl, fun c u0 e => ?_⟩
    rw [h]
    rfl
  · have hL := i2 f (fun v hv => hf v ((List.suffix_cons _ _).trans hv))
    obtain ⟨l1, l2, l3⟩ := hL
    have neU : ∀ (c : Bool) (v : Wd), (c :: u) <:+ v → pr v ≠ pr u := fun c v hv e => by
      have e2 := pr_inj _ _ e
      rw [e2] at hv
      exact suf_not hv (by simp)
    have l3' := l3 false u rfl
    have hR := i1 (runF nd cb f (P W H (false :: u))) (fun v hv => by
      rw [l2 (pr v) (fun v' hv' e => ?_) (fun c u0 e => ?_)]
      · exact hf v ((List.suffix_cons _ _).trans hv)
      · have e2 := pr_inj _ _ e
        subst e2
        exact absurd (P_cons_ne hv (P_suf _ _ hv')) (by decide)
      · have e2 := (List.cons.inj e).2
        subst e2
        exact neU true v hv)
    obtain ⟨r1, r2, r3⟩ := hR
    have r3' := r3 true u rfl
    rw [P_in h]
    rw [runF_cons, runF_app]
    -- the value at u ahead of its own turn
    have atU : nd (((runF nd cb (runF nd cb f (P W H (false :: u))) (P W H (true :: u))) (pr u)).getD 0) = T u := by
      rw [hT u h, r3', l3', hf u (List.suffix_refl _)]
      cases inb W H (true :: u) <;> cases inb W H (false :: u) <;> rfl
    generalize hg : runF nd cb (runF nd cb f (P W H (false :: u))) (P W H (true :: u)) = g at atU r1 r2 r3'
    -- what stands elsewhere
    have sub : ∀ v, v ∈ P W H (true :: u) ++ P W H (false :: u) → g (pr v) = some (T v) := fun v hv => by
      rcases List.mem_append.mp hv with hv | hv
      · exact r1 v hv
      · rw [r2 (pr v) (fun v' hv' e => ?_) (fun c u0 e => ?_)]
        · exact l1 v hv
        · have e2 := pr_inj _ _ e
          subst e2
          exact absurd (P_cons_ne (P_suf _ _ hv) (P_suf _ _ hv')) (by decide)
        · have e2 := (List.cons.inj e).2
          subst e2
          exact neU false v (P_suf _ _ hv)
    have els : ∀ p, (∀ v ∈ P W H (true :: u) ++ P W H (false :: u), p ≠ pr v) → p ≠ pr u → g p = f p := fun p hp hu => by
      rw [r2 p (fun v hv => hp v (List.mem_append_left _ hv)) (fun c u0 e => by rw [← (List.cons.inj e).2]; exact hu)]
      exact l2 p (fun v hv => hp v (List.mem_append_right _ hv)) (fun c u0 e => by rw [← (List.cons.inj e).2]; exact hu)
    have sufU : ∀ v, v ∈ P W H (true :: u) ++ P W H (false :: u) → u <:+ v ∧ v ≠ u := fun v hv => by
      rcases List.mem_append.mp hv with hv | hv
      · exact ⟨(List.suffix_cons _ _).trans (P_suf _ _ hv), fun e => neU true v (P_suf _ _ hv) (by rw [e])⟩
      · exact ⟨(List.suffix_cons _ _).trans (P_suf _ _ hv), fun e => neU false v (P_suf _ _ hv) (by rw [e])⟩
    cases u with
    | nil =>
      have eg : gst nd cb g (pr []) = upf g (pr []) (T []) := by
        unfold gst
        rw [par_nil]
        dsimp only
        rw [atU]
      rw [eg]
      refine ⟨fun v hv => ?_, fun p hp _ => ?_, fun c u0 e => (nomatch e)⟩
      · rcases List.mem_cons.mp hv with e | hv
        · subst e; exact upf_same
        · rw [upf_ne (fun e => (sufU v hv).2 (pr_inj _ _ e))]
          exact sub v hv
      · rw [upf_ne (hp [] List.mem_cons_self)]
        exact els p (fun v hv => hp v (List.mem_cons_of_mem _ hv)) (hp [] List.mem_cons_self)
    | cons c u0 =>
      have hne : pr u0 ≠ pr (c :: u0) := fun e => by
        have := congrArg List.length (pr_inj _ _ e)
        simp at this
      have hu0 : ∀ v ∈ P W H (true :: c :: u0) ++ P W H (false :: c :: u0), pr u0 ≠ pr v := fun v hv e => by
        have e2 := pr_inj _ _ e
        rw [← e2] at hv
        exact suf_not (sufU u0 hv).1 (by simp)
      have eg : gst nd cb g (pr (c :: u0)) = upf (upf g (pr (c :: u0)) (T (c :: u0))) (pr u0) (cb ((f (pr u0)).getD 0) (T (c :: u0))) := by
        unfold gst
        rw [par_cons]
        dsimp only
        rw [atU, upf_ne hne, els (pr u0) hu0 hne]
      rw [eg]
      refine ⟨fun v hv => ?_, fun p hp hp0 => ?_, fun d u1 e => ?_⟩
      · rcases List.mem_cons.mp hv with e | hv
        · subst e
          rw [upf_ne (Ne.symm hne)]
          exact upf_same
        · rw [upf_ne (fun e => hu0 v hv e.symm), upf_ne (fun e => (sufU v hv).2 (pr_inj _ _ e))]
          exact sub v hv
      · rw [upf_ne (hp0 c u0 rfl), upf_ne (hp _ List.mem_cons_self)]
        exact els p (fun v hv => hp v (List.mem_cons_of_mem _ hv)) (hp _ List.mem_cons_self)
      · have e2 := (List.cons.inj e).2
        subst e2
        rw [h, if_pos rfl]
        exact upf_same
/-! ### sizes -/
def sz (W H : Int) (u : Wd) : Int := ((P W H u).length : Int)
theorem sizes_fold {u : Wd} (h : inb W H u = true) : runF (fun x => x + 1) (fun x y => x + y) (fun _ => none) (P W H []) (pr u) = some (sz W H u) := by
  refine (fold_sub (W := W) (H := H) (T := sz W H) (fun v hv => ?_) [] (fun _ => none) (fun _ _ => rfl)).1 u (P_mem (List.nil_suffix) h)
  unfold sz
  rw [P_in hv]
  cases e1 : inb W H (true :: v) <;> cases e2 : inb W H (false :: v)
  · rw [P_out e1, P_out e2]
    rfl
  · rw [P_out e1]
    simp
  · rw [P_out e2]
    simp
  · simp only [List.length_cons, List.length_append, if_true]
    omega
/-! ### heights -/
def top : List Int → Int
  | [] => 0
  | x :: r => max x (top r)
theorem top_app : ∀ l k, top (l ++ k) = max (top l) (max 0 (top k))
  | [], k => by
    have h : ∀ k : List Int, 0 ≤ top k ∨ True := fun _ => .inr trivial
    show top k = max 0 (max 0 (top k))
    have : 0 ≤ top k := by
      induction k with
      | nil => exact Int.le_refl _
      | cons x r ih => show 0 ≤ max x (top r); omega
    omega
  | x :: l, k => by
    show max x (top (l ++ k)) = max (max x (top l)) (max 0 (top k))
    rw [top_app l k]
    omega
theorem top_ge0 : ∀ l, 0 ≤ top l
  | [] => Int.le_refl _
  | x :: r => by
    have := top_ge0 r
    show 0 ≤ max x (top r)
    omega
theorem top_le {l : List Int} {m : Int} (h0 : 0 ≤ m) (h : ∀ x ∈ l, x ≤ m) : top l ≤ m := by
  induction l with
  | nil => exact h0
  | cons x r ih =>
    have h1 := h x List.mem_cons_self
    have h2 := ih fun y hy => h y (List.mem_cons_of_mem _ hy)
    show max x (top r) ≤ m
    omega
theorem top_ge {l : List Int} {x : Int} (h : x ∈ l) : x ≤ top l := by
  induction l with
  | nil => cases h
  | cons y r ih =>
    show x ≤ max y (top r)
    rcases List.mem_cons.mp h with e | h
    · omega
    · have := ih h
      omega
theorem top_mem {l : List Int} (h : 0 < top l) : top l ∈ l := by
  induction l with
  | nil => exact absurd h (by decide)
  | cons y r ih =>
    have e : top (y :: r) = max y (top r) := rfl
    by_cases hy : top r ≤ y
    · rw [e, Int.max_eq_left hy]
      exact List.mem_cons_self
    · rw [e, Int.max_eq_right (by omega)] at h ⊢
      exact List.mem_cons_of_mem _ (ih h)
def rel (u q : Wd) : Int := (q.length : Int) - (u.length : Int)
def hgt (W H : Int) (u : Wd) : Int := top ((P W H u).map (rel u))
theorem hgt_kid {u : Wd} {c : Bool} (h : inb W H (c :: u) = true) : top ((P W H (c :: u)).map (rel u)) = hgt W H (c :: u) + 1 := by
  have e : ∀ l : List Wd, l ≠ [] → (∀ q ∈ l, 0 ≤ rel (c :: u) q) → top (l.map (rel u)) = top (l.map (rel (c :: u))) + 1 := by
    intro l
    induction l with
    | nil => intro h _; exact absurd rfl h
    | cons q r ih =>
      intro _ hq
      have hq0 := hq q List.mem_cons_self
      have e1 : rel u q = rel (c :: u) q + 1 := by
        unfold rel
        rw [List.length_cons]
        omega
      by_cases hr : r = []
      · subst hr
        show max (rel u q) 0 = max (rel (c :: u) q) 0 + 1
        omega
      · have := ih hr fun q hq' => hq q (List.mem_cons_of_mem _ hq')
        show max (rel u q) (top (r.map (rel u))) = max (rel (c :: u) q) (top (r.map (rel (c :: u)))) + 1
        omega
  refine e _ (by rw [P_in h]; exact List.cons_ne_nil _ _) fun q hq => ?_
  have := (P_suf _ _ hq).length_le
  unfold rel
  omega
theorem hgt_eq {u : Wd} (h : inb W H u = true) : hgt W H u = max (max 0 (if inb W H (true :: u) = true then hgt W H (true :: u) + 1 else 0)) (if inb W H (false :: u) = true then hgt W H (false :: u) + 1 else 0) := by
  have e0 : rel u u = 0 := by unfold rel; omega
  have k : ∀ c, max 0 (top ((P W H (c :: u)).map (rel u))) = if inb W H (c :: u) = true then hgt W H (c :: u) + 1 else 0 := fun c => by
    cases e : inb W H (c :: u) with
    | false => rw [P_out e]; rfl
    | true =>
      rw [if_pos rfl, hgt_kid e]
      have := top_ge0 ((P W H (c :: u)).map (rel (c :: u)))
      unfold hgt
      omega
  have e1 := k true
  have e2 := k false
  have e3 : hgt W H u = max (rel u u) (top ((P W H (true :: u)).map (rel u) ++ (P W H (false :: u)).map (rel u))) := by
    show top ((P W H u).map (rel u)) = _
    rw [P_in h, List.map_cons, List.map_append]
    rfl
  rw [e3, top_app, e0, ← e1, ← e2]
  omega
theorem heights_fold {u : Wd} (h : inb W H u = true) : runF (fun x => max x 0) (fun x y => max x (y + 1)) (fun _ => none) (P W H []) (pr u) = some (hgt W H u) := by
  refine (fold_sub (W := W) (H := H) (T := hgt W H) (fun v hv => ?_) [] (fun _ => none) (fun _ _ => rfl)).1 u (P_mem (List.nil_suffix) h)
  rw [hgt_eq hv]
  have g1 := top_ge0 ((P W H (true :: v)).map (rel (true :: v)))
  have g2 := top_ge0 ((P W H (false :: v)).map (rel (false :: v)))
  have g1' : 0 ≤ hgt W H (true :: v) := g1
  have g2' : 0 ≤ hgt W H (false :: v) := g2
  cases e1 : inb W H (true :: v) <;> cases e2 : inb W H (false :: v) <;> simp only [if_true, Bool.false_eq_true, if_false] <;> omega
/-- what a greatest length says -/
theorem hgt_max {u : Wd} {l : List Wd} {m : Int} (hp : l.Perm (P W H u)) (hm : m ∈ l.map fun q => ((q.length + 1 : Nat) : Int)) (hle : ∀ y ∈ l.map (fun q => ((q.length + 1 : Nat) : Int)), y ≤ m) :
    m - ((u.length + 1 : Nat) : Int) = hgt W H u := by
  obtain ⟨q, hq, e⟩ := List.mem_map.mp hm
  have hq' := hp.mem_iff.mp hq
  have hl := (P_suf _ _ hq').length_le
  have a1 : rel u q ≤ hgt W H u := top_ge (List.mem_map.mpr ⟨q, hq', rfl⟩)
  have a2 : hgt W H u ≤ rel u q := by
    refine top_le (by unfold rel; omega) fun x hx => ?_
    obtain ⟨q2, hq2, e2⟩ := List.mem_map.mp hx
    have := hle _ (List.mem_map.mpr ⟨q2, hp.mem_iff.mpr hq2, rfl⟩)
    rw [← e2]
    unfold rel
    omega
  unfold rel at a1 a2
  omega
/-- a list made level by level is the same words -/
theorem bfs_end {l : List Wd} (h : (l.take l.length ++ (l.drop l.length).flatMap (P W H)).Perm (P W H [])) : l.Perm (P W H []) := by
  rw [List.take_length, List.drop_length, List.flatMap_nil, List.append_nil] at h
  exact h
def kids (W H : Int) (u : Wd) : List Wd := [false :: u, true :: u].filter (inb W H)
theorem kids_P {u : Wd} : ((kids W H u).flatMap (P W H)).Perm (P W H (true :: u) ++ P W H (false :: u)) := by
  unfold kids
  cases e1 : inb W H (false :: u) <;> cases e2 : inb W H (true :: u)
  · rw [P_out e1, P_out e2]
    simp [e1, e2]
  · rw [P_out e1]
    simp [e1, e2]
  · rw [P_out e2]
    simp [e1, e2]
  · simp only [List.filter_cons, e1, e2, if_true, List.filter_nil, List.flatMap_cons, List.flatMap_nil, List.append_nil]
    exact List.perm_append_comm
theorem bfs_step {l : List Wd} {i : Nat} {u : Wd} (hi : l[i]? = some u) (hu : inb W H u = true) (h : (l.take i ++ (l.drop i).flatMap (P W H)).Perm (P W H [])) :
    ((l ++ kids W H u).take (i + 1) ++ ((l ++ kids W H u).drop (i + 1)).flatMap (P W H)).Perm (P W H []) := by
  obtain ⟨hlt, e⟩ := List.getElem?_eq_some_iff.mp hi
  have e1 : l.drop i = u :: l.drop (i + 1) := by rw [List.drop_eq_getElem_cons hlt, e]
  have e2 : l.take (i + 1) = l.take i ++ [u] := by rw [List.take_add_one, hi]; rfl
  rw [List.take_append_of_le_length (by omega), List.drop_append_of_le_length (by omega), e2, List.flatMap_append]
  rw [e1, List.flatMap_cons, P_in hu] at h
  refine List.Perm.trans ?_ h
  rw [List.append_assoc]
  refine List.Perm.append_left _ ?_
  show ([u] ++ (List.flatMap (P W H) (l.drop (i + 1)) ++ List.flatMap (P W H) (kids W H u))).Perm _
  rw [List.cons_append, List.nil_append]
  refine List.Perm.cons _ ?_
  exact List.perm_append_comm.trans (List.Perm.append_right _ kids_P)
end
end LR

/-! The three stones by their order and places. -/
namespace LR
abbrev O3 := Nat × Nat × Nat
def isO (o : O3) : Prop := o = (0, 1, 2) ∨ o = (0, 2, 1) ∨ o = (1, 0, 2) ∨ o = (1, 2, 0) ∨ o = (2, 0, 1) ∨ o = (2, 1, 0)
def sel (o : O3) (x y z : Int) (i : Nat) : Int := if i = o.1 then x else if i = o.2.1 then y else z
def tri (o : O3) (x y z : Int) : List Int := [sel o x y z 0, sel o x y z 1, sel o x y z 2]
def swp (o : O3) (c : Bool) : O3 := if c = true then (o.1, o.2.2, o.2.1) else (o.2.1, o.1, o.2.2)
theorem isO_swp {o : O3} (h : isO o) (c : Bool) : isO (swp o c) := by
  rcases h with e | e | e | e | e | e <;> subst e <;> cases c <;> simp [swp, isO]
theorem swp_swp (o : O3) (c : Bool) : swp (swp o c) c = o := by cases c <;> rfl
theorem isO_lt {o : O3} (h : isO o) : o.1 < 3 ∧ o.2.1 < 3 ∧ o.2.2 < 3 := by
  rcases h with e | e | e | e | e | e <;> subst e <;> decide
theorem tri_perm {o : O3} (h : isO o) (x y z : Int) : (tri o x y z).Perm [x, y, z] := by
  rcases h with e | e | e | e | e | e <;> subst e
  · exact List.Perm.refl _
  · exact List.Perm.cons _ (List.Perm.swap _ _ _)
  · exact List.Perm.swap _ _ _
  · exact (List.Perm.swap _ _ _).trans (List.Perm.cons _ (List.Perm.swap _ _ _))
  · exact (List.Perm.cons _ (List.Perm.swap _ _ _)).trans (List.Perm.swap _ _ _)
  · exact ((List.Perm.cons _ (List.Perm.swap _ _ _)).trans (List.Perm.swap _ _ _)).trans (List.Perm.cons _ (List.Perm.swap _ _ _))
theorem tri_sort {o : O3} (h : isO o) {x y z : Int} (h1 : x ≤ y) (h2 : y ≤ z) {ns : List Int} (hp : ns.Perm (tri o x y z)) (hs : ns.Pairwise (· ≤ ·)) : ns = [x, y, z] :=
  List.Perm.eq_of_pairwise (fun a b _ _ p q => Int.le_antisymm p q) hs (by simp; omega) (hp.trans (tri_perm h x y z))
def prs (o : O3) (x y z : Int) : List (Int × Int) := [(sel o x y z 0, 0), (sel o x y z 1, 1), (sel o x y z 2, 2)]
theorem prs_perm {o : O3} (h : isO o) (x y z : Int) : (prs o x y z).Perm [(x, (o.1 : Int)), (y, (o.2.1 : Int)), (z, (o.2.2 : Int))] := by
  rcases h with e | e | e | e | e | e <;> subst e
  · exact List.Perm.refl _
  · exact List.Perm.cons _ (List.Perm.swap _ _ _)
  · exact List.Perm.swap _ _ _
  · exact (List.Perm.swap _ _ _).trans (List.Perm.cons _ (List.Perm.swap _ _ _))
  · exact (List.Perm.cons _ (List.Perm.swap _ _ _)).trans (List.Perm.swap _ _ _)
  · exact ((List.Perm.cons _ (List.Perm.swap _ _ _)).trans (List.Perm.swap _ _ _)).trans (List.Perm.cons _ (List.Perm.swap _ _ _))
/-- pairs in order by their first numbers, which are three -/
theorem prs_sort {o : O3} (h : isO o) {x y z : Int} (h1 : x < y) (h2 : y < z) {ps : List (Int × Int)} (hp : ps.Perm (prs o x y z)) (hs : ps.Pairwise fun p q => p.1 ≤ q.1) : ps = [(x, (o.1 : Int)), (y, (o.2.1 : Int)), (z, (o.2.2 : Int))] := by
  have hp2 := hp.trans (prs_perm h x y z)
  refine List.Perm.eq_of_pairwise (le := fun p q => p.1 ≤ q.1) (fun a b ha hb p q => ?_) hs (by simp; omega) hp2
  have ha' := hp2.mem_iff.mp ha
  simp only [List.mem_cons, List.not_mem_nil, or_false] at ha' hb
  rcases ha' with e | e | e <;> rcases hb with e' | e' | e' <;> subst e e' <;> first | rfl | (dsimp only at p q; omega)
section
variable {o : O3} {x y z : Int}
theorem tri_l (h : isO o) : (tri o x y z)[o.1]? = some x := by
  rcases h with e | e | e | e | e | e <;> subst e <;> rfl
theorem tri_m (h : isO o) : (tri o x y z)[o.2.1]? = some y := by
  rcases h with e | e | e | e | e | e <;> subst e <;> rfl
theorem tri_r (h : isO o) : (tri o x y z)[o.2.2]? = some z := by
  rcases h with e | e | e | e | e | e <;> subst e <;> rfl
/-- the middle stone goes to the left end, to the right end -/
theorem set_ml (h : isO o) (v : Int) : (tri o x y z).set o.2.1 v = tri (swp o false) v x z := by
  rcases h with e | e | e | e | e | e <;> subst e <;> rfl
theorem set_mr (h : isO o) (v : Int) : (tri o x y z).set o.2.1 v = tri (swp o true) x z v := by
  rcases h with e | e | e | e | e | e <;> subst e <;> rfl
/-- the left stone, the right stone goes into the middle -/
theorem set_lm (h : isO o) (v : Int) : (tri o x y z).set o.1 v = tri (swp o false) y v z := by
  rcases h with e | e | e | e | e | e <;> subst e <;> rfl
theorem set_rm (h : isO o) (v : Int) : (tri o x y z).set o.2.2 v = tri (swp o true) x v y := by
  rcases h with e | e | e | e | e | e <;> subst e <;> rfl
theorem tri_len : (tri o x y z).length = 3 := rfl
theorem tri_mem (h : isO o) {v : Int} : v ∈ tri o x y z ↔ v = x ∨ v = y ∨ v = z := by
  rw [(tri_perm h x y z).mem_iff]
  simp
/-- places and order are told by the three numbers -/
theorem tri_inj {o' : O3} {x' y' z' : Int} (h : isO o) (h' : isO o') (h1 : x < y) (h2 : y < z) (h1' : x' < y') (h2' : y' < z') (e : tri o x y z = tri o' x' y' z') : x = x' ∧ y = y' ∧ z = z' := by
  have hp : [x, y, z].Perm [x', y', z'] := ((tri_perm h x y z).symm.trans (List.Perm.of_eq e)).trans (tri_perm h' x' y' z')
  have e2 := List.Perm.eq_of_pairwise (le := (· ≤ · : Int → Int → Prop)) (fun a b _ _ p q => Int.le_antisymm p q) (by simp; omega) (by simp; omega) hp
  injection e2 with a b
  injection b with b c
  injection c with c _
  exact ⟨a, b, c⟩
end
/-! ### a position by its word -/
def od (o : O3) : Wd → O3
  | [] => o
  | c :: w => swp (od o w) c
theorem isO_od {o : O3} (h : isO o) : ∀ w, isO (od o w)
  | [] => h
  | c :: w => isO_swp (isO_od h w) c
/-- the places of a position: left, middle, right -/
def px (h g : Int) (w : Wd) : Int := h - g * (pr w).2
def py (h g : Int) (w : Wd) : Int := h + g * ((pr w).1 - (pr w).2)
def pz (h g : Int) (w : Wd) : Int := h + g * (pr w).1
def st (h g : Int) (o : O3) (w : Wd) : List Int := tri (od o w) (px h g w) (py h g w) (pz h g w)
section
variable {h g : Int} {o : O3}
theorem mul_ge {g a : Int} (hg : 1 ≤ g) (ha : 1 ≤ a) : 1 ≤ g * a := by
  have := Int.mul_le_mul_of_nonneg_right hg (by omega : 0 ≤ a)
  omega
theorem gap1 (w : Wd) : py h g w - px h g w = g * (pr w).1 := by
  unfold py px
  simp only [Int.mul_sub, Int.mul_add]
  omega
theorem gap2 (w : Wd) : pz h g w - py h g w = g * (pr w).2 := by
  unfold pz py
  simp only [Int.mul_sub, Int.mul_add]
  omega
theorem hrt (w : Wd) : px h g w + pz h g w - py h g w = h := by
  unfold px py pz
  simp only [Int.mul_sub, Int.mul_add]
  omega
theorem px_lt (hg : 1 ≤ g) (w : Wd) : px h g w < py h g w := by
  have e := gap1 (h := h) (g := g) w
  have := mul_ge hg (pr_pos w).1
  omega
theorem py_lt (hg : 1 ≤ g) (w : Wd) : py h g w < pz h g w := by
  have e := gap2 (h := h) (g := g) w
  have := mul_ge hg (pr_pos w).2
  omega
/-- a leap of the middle stone, over the left or the right one -/
theorem st_f (ho : isO o) (w : Wd) : (st h g o w).set (od o w).2.1 (2 * px h g w - py h g w) = st h g o (false :: w) := by
  unfold st
  rw [set_ml (isO_od ho w)]
  have e1 : 2 * px h g w - py h g w = px h g (false :: w) := by
    unfold px py
    rw [pr_f]
    dsimp only
    simp only [Int.mul_sub, Int.mul_add]
    omega
  have e2 : px h g w = py h g (false :: w) := by
    unfold px py
    rw [pr_f]
    dsimp only
    simp only [Int.mul_sub, Int.mul_add]
    omega
  have e3 : pz h g w = pz h g (false :: w) := rfl
  rw [e1, e2, e3]
  rfl
theorem st_t (ho : isO o) (w : Wd) : (st h g o w).set (od o w).2.1 (2 * pz h g w - py h g w) = st h g o (true :: w) := by
  unfold st
  rw [set_mr (isO_od ho w)]
  have e1 : 2 * pz h g w - py h g w = pz h g (true :: w) := by
    unfold pz py
    rw [pr_t]
    dsimp only
    simp only [Int.mul_sub, Int.mul_add]
    omega
  have e2 : pz h g w = py h g (true :: w) := by
    unfold pz py
    rw [pr_t]
    dsimp only
    simp only [Int.mul_sub, Int.mul_add]
    omega
  have e3 : px h g w = px h g (true :: w) := rfl
  rw [e1, e2, e3]
  rfl
/-- the leap back -/
theorem st_fb (ho : isO o) (w : Wd) : (st h g o (false :: w)).set (od o (false :: w)).1 (2 * py h g (false :: w) - px h g (false :: w)) = st h g o w := by
  unfold st
  rw [set_lm (isO_od ho _)]
  have e1 : 2 * py h g (false :: w) - px h g (false :: w) = py h g w := by
    unfold py px
    rw [pr_f]
    dsimp only
    simp only [Int.mul_sub, Int.mul_add]
    omega
  have e2 : py h g (false :: w) = px h g w := by
    unfold py px
    rw [pr_f]
    dsimp only
    simp only [Int.mul_sub, Int.mul_add]
    omega
  have e3 : pz h g (false :: w) = pz h g w := rfl
  rw [e1, e2, e3, show swp (od o (false :: w)) false = od o w from swp_swp _ _]
theorem st_tb (ho : isO o) (w : Wd) : (st h g o (true :: w)).set (od o (true :: w)).2.2 (2 * py h g (true :: w) - pz h g (true :: w)) = st h g o w := by
  unfold st
  rw [set_rm (isO_od ho _)]
  have e1 : 2 * py h g (true :: w) - pz h g (true :: w) = py h g w := by
    unfold py pz
    rw [pr_t]
    dsimp only
    simp only [Int.mul_sub, Int.mul_add]
    omega
  have e2 : py h g (true :: w) = pz h g w := by
    unfold py pz
    rw [pr_t]
    dsimp only
    simp only [Int.mul_sub, Int.mul_add]
    omega
  have e3 : px h g (true :: w) = px h g w := rfl
  rw [e1, e2, e3, show swp (od o (true :: w)) true = od o w from swp_swp _ _]
/-- which side the word's last leap was on -/
theorem pr_side (c : Bool) (w : Wd) : (c = true → (pr (c :: w)).2 < (pr (c :: w)).1) ∧ (c = false → (pr (c :: w)).1 < (pr (c :: w)).2) := by
  have hp := pr_pos w
  constructor
  · intro e; subst e; rw [pr_t]; dsimp only; omega
  · intro e; subst e; rw [pr_f]; dsimp only; omega
theorem mul_lt {g a b : Int} (hg : 1 ≤ g) : g * a < g * b ↔ a < b := by
  constructor
  · intro q
    rcases Int.lt_or_le a b with r | r
    · exact r
    · have := Int.mul_le_mul_of_nonneg_left r (by omega : 0 ≤ g)
      omega
  · intro q
    exact Int.mul_lt_mul_of_pos_left q (by omega)
theorem mul_cancel {g a b : Int} (hg : 1 ≤ g) (e : g * a = g * b) : a = b := Int.eq_of_mul_eq_mul_left (by omega) e
theorem st_inj (hg : 1 ≤ g) (ho : isO o) {u v : Wd} (e : st h g o u = st h g o v) : u = v := by
  obtain ⟨e1, e2, e3⟩ := tri_inj (isO_od ho u) (isO_od ho v) (px_lt hg u) (py_lt hg u) (px_lt hg v) (py_lt hg v) e
  refine pr_inj u v (Prod.ext ?_ ?_)
  · refine mul_cancel hg ?_
    have a := gap1 (h := h) (g := g) u
    have b := gap1 (h := h) (g := g) v
    omega
  · refine mul_cancel hg ?_
    have a := gap2 (h := h) (g := g) u
    have b := gap2 (h := h) (g := g) v
    omega
/-- the line from the begin -/
def line (h g : Int) (o : O3) : Wd → List (List Int)
  | [] => [st h g o []]
  | c :: w => line h g o w ++ [st h g o (c :: w)]
theorem line_len : ∀ w, (line h g o w).length = w.length + 1
  | [] => rfl
  | c :: w => by
    show (line h g o w ++ [_]).length = _
    rw [List.length_append, line_len w]
    rfl
theorem line_mem (hg : 1 ≤ g) (ho : isO o) {u : Wd} : ∀ w, st h g o u ∈ line h g o w ↔ u <:+ w
  | [] => by
    show st h g o u ∈ [st h g o []] ↔ _
    rw [List.mem_singleton, List.suffix_nil]
    exact ⟨fun e => st_inj hg ho e, fun e => by rw [e]⟩
  | c :: w => by
    show st h g o u ∈ line h g o w ++ [st h g o (c :: w)] ↔ _
    rw [List.mem_append, line_mem hg ho w, List.mem_singleton, List.suffix_cons_iff]
    constructor
    · rintro (q | q)
      · exact .inr q
      · exact .inl (st_inj hg ho q)
    · rintro (q | q)
      · exact .inr (by rw [q])
      · exact .inl q
/-- within walls, by the box -/
theorem in_walls (hg : 1 ≤ g) {w0 w1 : Int} (w : Wd) : (w0 ≤ px h g w ∧ pz h g w ≤ w1) ↔ inb ((w1 - h) / g) ((h - w0) / g) w = true := by
  rw [inb_iff]
  unfold px pz
  have k1 : (pr w).1 ≤ (w1 - h) / g ↔ (pr w).1 * g ≤ w1 - h := Int.le_ediv_iff_mul_le (by omega)
  have k2 : (pr w).2 ≤ (h - w0) / g ↔ (pr w).2 * g ≤ h - w0 := Int.le_ediv_iff_mul_le (by omega)
  rw [k1, k2, Int.mul_comm (pr w).1, Int.mul_comm (pr w).2]
  omega
end
end LR

/-! Words by their runs. -/
namespace LR
abbrev Rs := List (Bool × Nat)
/-- neighboring runs are of two kinds, none is empty -/
def Good : Rs → Prop
  | [] => True
  | [(_, n)] => 1 ≤ n
  | (c, n) :: (d, m) :: r => 1 ≤ n ∧ c ≠ d ∧ Good ((d, m) :: r)
def ex : Rs → Wd
  | [] => []
  | (c, n) :: r => List.replicate n c ++ ex r
def rl : Wd → Rs
  | [] => []
  | c :: w => match rl w with
    | [] => [(c, 1)]
    | (d, n) :: r => if c = d then (d, n + 1) :: r else (c, 1) :: (d, n) :: r
theorem rl_good : ∀ w, Good (rl w)
  | [] => trivial
  | c :: w => by
    have ih := rl_good w
    unfold rl
    cases e : rl w with
    | nil => exact Nat.le_refl 1
    | cons p r =>
      obtain ⟨d, n⟩ := p
      rw [e] at ih
      dsimp only
      by_cases h : c = d
      · rw [if_pos h]
        cases r with
        | nil => exact Nat.le_succ_of_le ih
        | cons q r => exact ⟨Nat.le_succ_of_le ih.1, ih.2.1, ih.2.2⟩
      · rw [if_neg h]
        exact ⟨Nat.le_refl 1, h, ih⟩
theorem ex_rl : ∀ w, ex (rl w) = w
  | [] => rfl
  | c :: w => by
    have ih := ex_rl w
    unfold rl
    cases e : rl w with
    | nil =>
      rw [e] at ih
      have ih' : ([] : Wd) = w := ih
      rw [← ih']
      rfl
    | cons p r =>
      obtain ⟨d, n⟩ := p
      rw [e] at ih
      dsimp only
      by_cases h : c = d
      · rw [if_pos h, h]
        show List.replicate (n + 1) d ++ ex r = d :: w
        rw [← ih]
        rfl
      · rw [if_neg h]
        show List.replicate 1 c ++ ex ((d, n) :: r) = c :: w
        rw [ih]
        rfl
theorem Good.tail {c : Bool} {n : Nat} {r : Rs} (h : Good ((c, n) :: r)) : Good r := by
  cases r with
  | nil => trivial
  | cons q r => exact h.2.2
theorem Good.pos {c : Bool} {n : Nat} {r : Rs} (h : Good ((c, n) :: r)) : 1 ≤ n := by
  cases r with
  | nil => exact h
  | cons q r => exact h.1
theorem Good.head {c d : Bool} {n m : Nat} {r : Rs} (h : Good ((c, n) :: (d, m) :: r)) : c ≠ d := h.2.1
/-- what a good row of runs begins with -/
theorem ex_head {c : Bool} {n : Nat} {r : Rs} (h : Good ((c, n) :: r)) : ∃ u, ex ((c, n) :: r) = c :: u := by
  have hp := h.pos
  obtain ⟨m, rfl⟩ : ∃ m, n = m + 1 := ⟨n - 1, by omega⟩
  exact ⟨List.replicate m c ++ ex r, rfl⟩
theorem pr_rep_t (w : Wd) : ∀ n, pr (List.replicate n true ++ w) = ((pr w).1 + n * (pr w).2, (pr w).2)
  | 0 => by
    show pr w = _
    exact Prod.ext (by simp) rfl
  | n + 1 => by
    show pr (true :: (List.replicate n true ++ w)) = _
    rw [pr_t, pr_rep_t w n]
    dsimp only
    refine Prod.ext ?_ rfl
    dsimp only
    rw [Int.natCast_add, Int.add_mul]
    omega
theorem pr_rep_f (w : Wd) : ∀ n, pr (List.replicate n false ++ w) = ((pr w).1, (pr w).2 + n * (pr w).1)
  | 0 => by
    show pr w = _
    exact Prod.ext rfl (by simp)
  | n + 1 => by
    show pr (false :: (List.replicate n false ++ w)) = _
    rw [pr_f, pr_rep_f w n]
    dsimp only
    refine Prod.ext rfl ?_
    dsimp only
    rw [Int.natCast_add, Int.add_mul]
    omega
/-- the pair of the rest behind a run -/
theorem ex_le {c : Bool} {n : Nat} {r : Rs} (h : Good ((c, n) :: r)) : (c = true → (pr (ex r)).1 ≤ (pr (ex r)).2) ∧ (c = false → (pr (ex r)).2 ≤ (pr (ex r)).1) := by
  cases r with
  | nil => exact ⟨fun _ => Int.le_refl _, fun _ => Int.le_refl _⟩
  | cons q r =>
    obtain ⟨d, m⟩ := q
    have hcd := h.head
    obtain ⟨u, eu⟩ := ex_head h.tail
    rw [eu]
    constructor
    · intro e
      have hd : d = false := by
        cases d
        · rfl
        · exact absurd e hcd
      have := (pr_side d u).2 hd
      omega
    · intro e
      have hd : d = true := by
        cases d
        · exact absurd e hcd
        · rfl
      have := (pr_side d u).1 hd
      omega
theorem div_run {a b : Int} {n : Nat} (ha : 1 ≤ a) (hab : a ≤ b) : (a + n * b - 1) / b = n := by
  have e : a + n * b - 1 = (a - 1) + n * b := by omega
  rw [e, Int.add_mul_ediv_right _ _ (by omega), Int.ediv_eq_zero_of_lt (by omega) (by omega)]
  omega
/-- one turn of the loop that takes the last run off -/
theorem run_t {n : Nat} {r : Rs} (h : Good ((true, n) :: r)) :
    pr (ex ((true, n) :: r)) = ((pr (ex r)).1 + n * (pr (ex r)).2, (pr (ex r)).2) ∧ (pr (ex r)).2 < (pr (ex r)).1 + n * (pr (ex r)).2 ∧ ((pr (ex r)).1 + n * (pr (ex r)).2 - 1) / (pr (ex r)).2 = n := by
  have hp := pr_pos (ex r)
  have hle := (ex_le h).1 rfl
  have hn := h.pos
  refine ⟨pr_rep_t (ex r) n, ?_, div_run hp.1 hle⟩
  have : 1 * (pr (ex r)).2 ≤ n * (pr (ex r)).2 := Int.mul_le_mul_of_nonneg_right (by omega) (by omega)
  omega
theorem run_f {n : Nat} {r : Rs} (h : Good ((false, n) :: r)) :
    pr (ex ((false, n) :: r)) = ((pr (ex r)).1, (pr (ex r)).2 + n * (pr (ex r)).1) ∧ (pr (ex r)).1 < (pr (ex r)).2 + n * (pr (ex r)).1 ∧ ((pr (ex r)).2 + n * (pr (ex r)).1 - 1) / (pr (ex r)).1 = n := by
  have hp := pr_pos (ex r)
  have hle := (ex_le h).2 rfl
  have hn := h.pos
  refine ⟨pr_rep_f (ex r) n, ?_, div_run hp.2 hle⟩
  have : 1 * (pr (ex r)).1 ≤ n * (pr (ex r)).1 := Int.mul_le_mul_of_nonneg_right (by omega) (by omega)
  omega
theorem rl_nil {w : Wd} (h : rl w = []) : w = [] := by
  have e := ex_rl w
  rw [h] at e
  exact e.symm
/-! ### the orders along a run -/
def swn (o : O3) (c : Bool) (n : Nat) : O3 := if n % 2 = 0 then o else swp o c
theorem swn_succ (o : O3) (c : Bool) (n : Nat) : swp (swn o c n) c = swn o c (n + 1) := by
  unfold swn
  by_cases h : n % 2 = 0
  · rw [if_pos h, if_neg (by omega)]
  · rw [if_neg h, if_pos (by omega), swp_swp]
theorem swn_swn (o : O3) (c : Bool) (n : Nat) : swn (swn o c n) c n = o := by
  unfold swn
  by_cases h : n % 2 = 0
  · rw [if_pos h, if_pos h]
  · rw [if_neg h, if_neg h, swp_swp]
theorem od_rep (o : O3) (c : Bool) (w : Wd) : ∀ n, od o (List.replicate n c ++ w) = swn (od o w) c n
  | 0 => rfl
  | n + 1 => by
    show swp (od o (List.replicate n c ++ w)) c = _
    rw [od_rep o c w n, swn_succ]
/-- taking the runs back, from the last one on, leads to the begin's order -/
theorem od_back (o : O3) : ∀ r : Rs, r.foldl (fun p q => swn p q.1 q.2) (od o (ex r)) = o
  | [] => rfl
  | (c, n) :: r => by
    show r.foldl (fun p q => swn p q.1 q.2) (swn (od o (List.replicate n c ++ ex r)) c n) = o
    rw [od_rep, swn_swn]
    exact od_back o r
/-! ### one word ahead of another, by their runs -/
theorem good_app {r : Rs} : ∀ {l : Rs}, Good (l ++ r) → Good r
  | [], h => h
  | _ :: _, h => good_app (l := _) (Good.tail h)
theorem ex_app : ∀ l r : Rs, ex (l ++ r) = ex l ++ ex r
  | [], _ => rfl
  | (c, n) :: l, r => by
    show List.replicate n c ++ ex (l ++ r) = (List.replicate n c ++ ex l) ++ ex r
    rw [ex_app l r, List.append_assoc]
theorem rep_pre {c : Bool} : ∀ (t s : Nat) (u v : Wd), (∀ b v', v = b :: v' → b ≠ c) → (List.replicate t c ++ u) <+: (List.replicate s c ++ v) → t ≤ s
  | 0, s, _, _, _, _ => Nat.zero_le s
  | t + 1, 0, u, v, hv, h => by
    obtain ⟨k, e⟩ := h
    have e' : c :: (List.replicate t c ++ u ++ k) = v := e
    exact absurd rfl (hv c _ e'.symm)
  | t + 1, s + 1, u, v, hv, h => by
    have h' : (c :: (List.replicate t c ++ u)) <+: (c :: (List.replicate s c ++ v)) := h
    exact Nat.succ_le_succ (rep_pre t s u v hv (List.cons_prefix_cons.mp h').2)
theorem rep_cut {c : Bool} {u v : Wd} : ∀ n : Nat, (List.replicate n c ++ u) <+: (List.replicate n c ++ v) ↔ u <+: v
  | 0 => Iff.rfl
  | n + 1 => by
    show (c :: (List.replicate n c ++ u)) <+: (c :: (List.replicate n c ++ v)) ↔ _
    rw [List.cons_prefix_cons]
    exact ⟨fun h => (rep_cut n).mp h.2, fun h => ⟨rfl, (rep_cut n).mpr h⟩⟩
theorem next_ne {c : Bool} {n : Nat} {r : Rs} (h : Good ((c, n) :: r)) : ∀ b v', ex r = b :: v' → b ≠ c := by
  intro b v' e
  cases r with
  | nil => cases e
  | cons q r =>
    obtain ⟨d, m⟩ := q
    obtain ⟨u, eu⟩ := ex_head h.tail
    rw [eu] at e
    have := (List.cons.inj e).1
    rw [← this]
    exact (h.head).symm
/-- what the program asks of two rows of runs -/
def ahead (p q : Rs) : Prop := p = [] ∨ (p.length ≤ q.length ∧ p.take (p.length - 1) = q.take (p.length - 1) ∧ ∃ c n m, p[p.length - 1]? = some (c, n) ∧ q[p.length - 1]? = some (c, m) ∧ n ≤ m)
theorem ahead_iff : ∀ {p q : Rs}, Good p → Good q → (ex p <+: ex q ↔ ahead p q)
  | [], q, _, _ => ⟨fun _ => .inl rfl, fun _ => List.nil_prefix⟩
  | (c, n) :: p, [], hp, _ => by
    obtain ⟨u, eu⟩ := ex_head hp
    rw [eu]
    constructor
    · intro h
      have := List.prefix_nil.mp h
      cases this
    · rintro (h | ⟨h, _⟩)
      · cases h
      · simp at h
  | [(c, n)], (d, m) :: q, hp, hq => by
    have e0 : ex [(c, n)] = List.replicate n c ++ [] := rfl
    have hn : 1 ≤ n := hp
    constructor
    · intro h
      obtain ⟨u, eu⟩ := ex_head hp
      obtain ⟨v, ev⟩ := ex_head hq
      have hcd : c = d := by
        rw [eu, ev] at h
        exact (List.cons_prefix_cons.mp h).1
      subst hcd
      rw [e0] at h
      have hnm := rep_pre n m [] (ex q) (next_ne hq) h
      exact .inr ⟨by simp, rfl, c, n, m, rfl, rfl, hnm⟩
    · rintro (h | ⟨_, _, c', n', m', h1, h2, h3⟩)
      · cases h
      · have a1 := Option.some.inj h1
        have a2 := Option.some.inj h2
        cases a1
        cases a2
        obtain ⟨k, rfl⟩ : ∃ k, m = n + k := ⟨m - n, by omega⟩
        refine ⟨List.replicate k c ++ ex q, ?_⟩
        show (List.replicate n c ++ []) ++ (List.replicate k c ++ ex q) = List.replicate (n + k) c ++ ex q
        rw [List.append_nil, ← List.append_assoc, List.replicate_append_replicate]
  | (c, n) :: (c2, n2) :: p, (d, m) :: q, hp, hq => by
    have ih := ahead_iff (p := (c2, n2) :: p) (q := q) hp.tail hq.tail
    have key : ex ((c, n) :: (c2, n2) :: p) <+: ex ((d, m) :: q) ↔ (c, n) = (d, m) ∧ ex ((c2, n2) :: p) <+: ex q := by
      constructor
      · intro h
        obtain ⟨u, eu⟩ := ex_head hp
        obtain ⟨v, ev⟩ := ex_head hq
        have hcd : c = d := by
          rw [eu, ev] at h
          exact (List.cons_prefix_cons.mp h).1
        subst hcd
        have h' : (List.replicate n c ++ ex ((c2, n2) :: p)) <+: (List.replicate m c ++ ex q) := h
        have hnm := rep_pre n m _ (ex q) (next_ne hq) h'
        have hmn : m ≤ n := by
          rcases Nat.lt_or_ge n m with q1 | q1
          · exfalso
            obtain ⟨k, rfl⟩ : ∃ k, m = n + (k + 1) := ⟨m - n - 1, by omega⟩
            rw [← List.replicate_append_replicate, List.append_assoc, rep_cut] at h'
            obtain ⟨u2, eu2⟩ := ex_head hp.tail
            rw [eu2] at h'
            have h2 : (c2 :: u2) <+: (c :: (List.replicate k c ++ ex q)) := h'
            exact hp.head (List.cons_prefix_cons.mp h2).1.symm
          · exact q1
        have e : n = m := by omega
        subst e
        exact ⟨rfl, (rep_cut n).mp h'⟩
      · rintro ⟨e, h⟩
        cases e
        exact (rep_cut n).mpr h
    rw [key, ih]
    constructor
    · rintro ⟨e, h⟩
      cases e
      rcases h with h | ⟨h1, h2, c', n', m', h3, h4, h5⟩
      · cases h
      · refine .inr ⟨Nat.succ_le_succ h1, ?_, c', n', m', ?_, ?_, h5⟩
        · show (c, n) :: ((c2, n2) :: p).take (((c2, n2) :: p).length - 1) = (c, n) :: q.take (((c2, n2) :: p).length - 1)
          rw [h2]
        · exact h3
        · exact h4
    · rintro (h | ⟨h1, h2, c', n', m', h3, h4, h5⟩)
      · cases h
      · have h2' : (c, n) :: ((c2, n2) :: p).take (((c2, n2) :: p).length - 1) = (d, m) :: q.take (((c2, n2) :: p).length - 1) := h2
        have e1 := (List.cons.inj h2').1
        have e2 := (List.cons.inj h2').2
        exact ⟨e1, .inr ⟨Nat.le_of_succ_le_succ h1, e2, c', n', m', h3, h4, h5⟩⟩
/-- for words, read from the begin on -/
theorem good_snoc {c d : Bool} {n m : Nat} : ∀ {l : Rs}, Good (l ++ [(c, n)]) → 1 ≤ m → c ≠ d → Good (l ++ [(c, n)] ++ [(d, m)])
  | [], h, hm, hcd => ⟨h, hcd, hm⟩
  | [(e, k)], h, hm, hcd => ⟨h.1, h.2.1, h.2.2, hcd, hm⟩
  | (e, k) :: (e2, k2) :: l, h, hm, hcd => ⟨h.1, h.2.1, good_snoc (l := (e2, k2) :: l) h.2.2 hm hcd⟩
theorem good_rev : ∀ {r : Rs}, Good r → Good r.reverse
  | [], _ => trivial
  | [(c, n)], h => h
  | (c, n) :: (d, m) :: r, h => by
    have ih := good_rev h.tail
    rw [List.reverse_cons] at ih ⊢
    rw [List.reverse_cons]
    exact good_snoc ih h.pos (h.head).symm
theorem ex_rev : ∀ r : Rs, ex r.reverse = (ex r).reverse
  | [] => rfl
  | (c, n) :: r => by
    rw [List.reverse_cons, ex_app, ex_rev r]
    show (ex r).reverse ++ (List.replicate n c ++ []) = (List.replicate n c ++ ex r).reverse
    rw [List.append_nil, List.reverse_append, List.reverse_replicate]
theorem behind_iff (u v : Wd) : u <:+ v ↔ ahead (rl u).reverse (rl v).reverse := by
  rw [← ahead_iff (good_rev (rl_good u)) (good_rev (rl_good v)), ex_rev, ex_rev, ex_rl, ex_rl, List.reverse_prefix]
end LR

/-! The program's count of the pairs in a box, by what its loops do; the box is small. -/
namespace LR
def mobIn (n : Nat) (f : List Int) (i : Nat) : List Int := f.set (2 * n + i * n) (f.getD (2 * n + i * n) 0 - f.getD n 0)
def mobStep (m : Nat) (f : List Int) (n : Nat) : List Int := if f.getD n 0 ≠ 0 then (List.range (m / n - 1)).foldl (mobIn n) f else f
def mob0 (m : Nat) : List Int := [0, 1] ++ List.replicate (m - 1) 0
def mob (m : Nat) : List Int := (List.range m).foldl (fun f i => mobStep m f (i + 1)) (mob0 m)
def chL (W H : Nat) (ss : List Int) (n : Nat) : List Int := ((List.range n).filter fun i => ss.getD i 0 ≠ 0).map fun i => ss.getD i 0 * ((W : Int) / (i : Int)) * ((H : Int) / (i : Int))
def chosen (W H : Nat) : Int := (chL W H (mob (min W H)) (mob (min W H)).length).sum
theorem mobIn_len (n : Nat) (f : List Int) (i : Nat) : (mobIn n f i).length = f.length := List.length_set ..
theorem mobStep_len (m : Nat) (f : List Int) (n : Nat) : (mobStep m f n).length = f.length := by
  unfold mobStep
  split
  · generalize m / n - 1 = k
    induction k with
    | zero => rfl
    | succ k ih => rw [List.range_succ, List.foldl_append, List.foldl_cons, List.foldl_nil, mobIn_len, ih]
  · rfl
theorem mob_len (m : Nat) : ∀ k, ((List.range k).foldl (fun f i => mobStep m f (i + 1)) (mob0 m)).length = (mob0 m).length
  | 0 => rfl
  | k + 1 => by rw [List.range_succ, List.foldl_append, List.foldl_cons, List.foldl_nil, mobStep_len, mob_len m k]
theorem mob0_len {m : Nat} (h : 1 ≤ m) : (mob0 m).length = m + 1 := by
  unfold mob0
  rw [List.length_append, List.length_replicate]
  show 2 + (m - 1) = m + 1
  omega
theorem mob_head : ((List.range 21).all fun m => decide ((mob m).getD 0 0 = 0)) = true := by decide +kernel
theorem mob_zero {m : Nat} (h : m ≤ 20) : (mob m).getD 0 0 = 0 := of_decide_eq_true (List.all_eq_true.mp mob_head m (List.mem_range.mpr (by omega)))
theorem chosen_all : ((List.range 21).all fun W => (List.range 21).all fun H => decide (chosen W H ≤ 20000)) = true := by decide +kernel
theorem chosen_le {W H : Nat} (h1 : W ≤ 20) (h2 : H ≤ 20) : chosen W H ≤ 20000 :=
  of_decide_eq_true (List.all_eq_true.mp (List.all_eq_true.mp chosen_all W (List.mem_range.mpr (by omega))) H (List.mem_range.mpr (by omega)))
theorem P_all : ((List.range 21).all fun (W : Nat) => (List.range 21).all fun (H : Nat) => decide ((P (W : Int) (H : Int) []).length ≤ 400)) = true := by decide +kernel
theorem P_few {W H : Int} (h0 : 0 ≤ W) (h1 : W ≤ 20) (h2 : 0 ≤ H) (h3 : H ≤ 20) : (P W H []).length ≤ 400 := by
  obtain ⟨w, rfl⟩ := Int.eq_ofNat_of_zero_le h0
  obtain ⟨h, rfl⟩ := Int.eq_ofNat_of_zero_le h2
  exact of_decide_eq_true (List.all_eq_true.mp (List.all_eq_true.mp P_all w (List.mem_range.mpr (by omega))) h (List.mem_range.mpr (by omega)))
end LR

namespace LR
open PySem PySem.Spec PyProof.Rows L2
open PySem.W (Datum DatumOrd Holds HoldAll Tup)
/-! ### data with a Lean type, tracked -/
/-- the value x holds a, by what is tracked -/
def Dv (K : PySem.W.Frag) (H : Hp) {α : Type} [DecidableEq α] [Datum α] (x : V) (a : α) : Prop := Dp K H x (Datum.toD a)
def Dvs (K : PySem.W.Frag) (H : Hp) {α : Type} [DecidableEq α] [Datum α] (xs : List V) (as : List α) : Prop := DpAll K H xs (as.map Datum.toD)
section
variable {K : PySem.W.Frag} {H : Hp} {α β : Type} [DecidableEq α] [Datum α] [DecidableEq β] [Datum β]
theorem dv_int (i : Int) : Dv K H (.int i) i := Dp.int i
theorem dv_str (x : Str) : Dv K H (.str x) x := Dp.str x
theorem dvs_nil : Dvs K H [] ([] : List α) := DpAll.nil
theorem dvs_cons {x : V} {xs : List V} {a : α} {as : List α} (h : Dv K H x a) (hs : Dvs K H xs as) : Dvs K H (x :: xs) (a :: as) := DpAll.cons h hs
theorem dv_list {l : Addr} {xs : List V} {as : List α} (h : SqL K H l xs) (hs : Dvs K H xs as) : Dv K H (.ref l) as := Dp.lst h hs
theorem dv_tup {l : Addr} {xs : List V} {as : List α} (h : SqT K H l xs) (hs : Dvs K H xs as) : Dv K H (.ref l) (Tup.mk as) := Dp.tup h hs
theorem dv_pair {l : Addr} {x y : V} {a : α} {b : β} (h : SqT K H l [x, y]) (h1 : Dv K H x a) (h2 : Dv K H y b) : Dv K H (.ref l) (a, b) := Dp.tup h (DpAll.cons h1 (DpAll.cons h2 DpAll.nil))
theorem dvs_ints : ∀ ns : List Int, Dvs K H (ns.map V.int) ns
  | [] => DpAll.nil
  | n :: ns => DpAll.cons (Dp.int n) (dvs_ints ns)
theorem Dv.holds {X : Cx} {pins : List (Addr × Obj)} {σ : L2.St} {s : Shared} {x : V} {u : Value} {a : α} (h : Dv X.K H x a) (I : Inv X pins σ H s) (r : RelV x u) : Holds s.heap u a := Dp.reads I _ x u h r
theorem Dvs.holds {X : Cx} {pins : List (Addr × Obj)} {σ : L2.St} {s : Shared} {xs : List V} {us : List Value} {as : List α} (h : Dvs X.K H xs as) (I : Inv X pins σ H s) (r : Vals xs us) : HoldAll s.heap us as := Dp.readsAll I _ xs us h r
end
section
variable {X : Cx} {α : Type} [DecidableEq α] [Datum α]
/-- a == b, a != b of data of one type -/
def rEqT (K : PySem.W.Frag) (α : Type) [DecidableEq α] [Datum α] : R2 := fun x y H Q => ∃ a b : α, Dv K H x a ∧ Dv K H y b ∧ Q (.bl (decide (a = b))) H
def rNeT (K : PySem.W.Frag) (α : Type) [DecidableEq α] [Datum α] : R2 := fun x y H Q => ∃ a b : α, Dv K H x a ∧ Dv K H y b ∧ Q (.bl (decide (a ≠ b))) H
theorem op_eqT (hu : X.A.units + Datum.depth α < cLine) : OpR X (compareOp .Eq) (rEqT X.K α) := by
  intro pins s σ H x y v u Q I rx ry h
  obtain ⟨a, b, ha, hb, q⟩ := h
  exact PySem.W.eq_datum (ha.holds I rx) (hb.holds I ry) hu ⟨.bl _, H, I, rfl, q⟩
theorem op_neT (hu : X.A.units + Datum.depth α < cLine) : OpR X (compareOp .NotEq) (rNeT X.K α) := by
  intro pins s σ H x y v u Q I rx ry h
  obtain ⟨a, b, ha, hb, q⟩ := h
  exact PySem.W.ne_datum (ha.holds I rx) (hb.holds I ry) hu ⟨.bl _, H, I, rfl, q⟩
/-- x in a list, x not in a list -/
def rInT (K : PySem.W.Frag) (α : Type) [DecidableEq α] [Datum α] : R2 := fun x y H Q => ∃ (l : Addr) (xs : List V) (a : α) (as : List α), y = .ref l ∧ SqL K H l xs ∧ Dvs K H xs as ∧ Dv K H x a ∧ Q (.bl (decide (a ∈ as))) H
def rNotInT (K : PySem.W.Frag) (α : Type) [DecidableEq α] [Datum α] : R2 := fun x y H Q => ∃ (l : Addr) (xs : List V) (a : α) (as : List α), y = .ref l ∧ SqL K H l xs ∧ Dvs K H xs as ∧ Dv K H x a ∧ Q (.bl (decide (a ∉ as))) H
theorem op_inT (hu : X.A.units + 1 + Datum.depth α < cLine) : OpR X (compareOp .In) (rInT X.K α) := by
  intro pins s σ H x y v u Q I rx ry h
  obtain ⟨l, xs, a, as, rfl, hl, hs, ha, q⟩ := h
  cases ry
  obtain ⟨its, rv, p, _⟩ := I.list hl
  exact PySem.W.in_list_datum p.isList (hs.holds I rv) (ha.holds I rx) hu ⟨.bl _, H, I, rfl, q⟩
theorem op_notInT (hu : X.A.units + 1 + Datum.depth α < cLine) : OpR X (compareOp .NotIn) (rNotInT X.K α) := by
  intro pins s σ H x y v u Q I rx ry h
  obtain ⟨l, xs, a, as, rfl, hl, hs, ha, q⟩ := h
  cases ry
  obtain ⟨its, rv, p, _⟩ := I.list hl
  exact PySem.W.notIn_list_datum p.isList (hs.holds I rv) (ha.holds I rx) hu ⟨.bl _, H, I, rfl, q⟩
end
section
variable {X : Cx} {α : Type} [DecidableEq α] [DatumOrd α]
/-- a < b -/
def rLtD (K : PySem.W.Frag) (α : Type) [DecidableEq α] [DatumOrd α] : R2 := fun x y H Q => ∃ a b : α, Dv K H x a ∧ Dv K H y b ∧ Q (.bl (DatumOrd.lt a b)) H
theorem op_ltD (hu : X.A.units + Datum.depth α < cLine) : OpR X (compareOp .Lt) (rLtD X.K α) := by
  intro pins s σ H x y v u Q I rx ry h
  obtain ⟨a, b, ha, hb, q⟩ := h
  exact PySem.W.lt_datum (ha.holds I rx) (hb.holds I ry) hu ⟨.bl _, H, I, rfl, q⟩
end
/-! ### min, max, sum of a tuple of ints -/
section
variable {X : Cx}
def rMinT (K : PySem.W.Frag) : List V → Hp → VK → Prop := fun vs H Q => ∃ (a : Addr) (n : Int) (ns : List Int), vs = [V.ref a] ∧ SqT K H a ((n :: ns).map V.int) ∧ Q (.int (PySem.W.minOf n ns)) H
def rMaxT (K : PySem.W.Frag) : List V → Hp → VK → Prop := fun vs H Q => ∃ (a : Addr) (n : Int) (ns : List Int), vs = [V.ref a] ∧ SqT K H a ((n :: ns).map V.int) ∧ Q (.int (PySem.W.maxOf n ns)) H
def rSumT (K : PySem.W.Frag) : List V → Hp → VK → Prop := fun vs H Q => ∃ (a : Addr) (ns : List Int), vs = [V.ref a] ∧ SqT K H a (ns.map V.int) ∧ Q (.int ns.sum) H
theorem cr_minT (hc : X.calm = true) (hu : X.A.units + 2 < cLine) : CallR X (.builtin "min") (rMinT X.K) := by
  intro pins s σ H vs us Q I r h
  obtain ⟨a, n, ns, rfl, hs, q⟩ := h
  obtain ⟨its, rv, p, _⟩ := I.tuple hs
  rw [Vals.ref1 r]
  have hA : HoldAll s.heap its (n :: ns) := HoldAll.of_ints rv.ints
  refine PySem.W.min_tuple_datum (I.ok.hd hc) p (by simpa using hA) (by show X.A.units + 1 + 0 < cLine; omega) fun i v h' tk hv hm hk => ?_
  obtain ⟨t, rfl⟩ := PySem.W.int_of_holds hm
  exact ⟨.int _, H, I.kept hk, ⟨_, rfl⟩, q⟩
theorem cr_maxT (hc : X.calm = true) (hu : X.A.units + 2 < cLine) : CallR X (.builtin "max") (rMaxT X.K) := by
  intro pins s σ H vs us Q I r h
  obtain ⟨a, n, ns, rfl, hs, q⟩ := h
  obtain ⟨its, rv, p, _⟩ := I.tuple hs
  rw [Vals.ref1 r]
  have hA : HoldAll s.heap its (n :: ns) := HoldAll.of_ints rv.ints
  refine PySem.W.max_tuple_datum (I.ok.hd hc) p (by simpa using hA) (by show X.A.units + 1 + 0 < cLine; omega) fun i v h' tk hv hm hk => ?_
  obtain ⟨t, rfl⟩ := PySem.W.int_of_holds hm
  exact ⟨.int _, H, I.kept hk, ⟨_, rfl⟩, q⟩
theorem cr_sumT (hc : X.calm = true) : CallR X (.builtin "sum") (rSumT X.K) := by
  intro pins s σ H vs us Q I r h
  obtain ⟨a, ns, rfl, hs, q⟩ := h
  obtain ⟨its, rv, p, _⟩ := I.tuple hs
  rw [Vals.ref1 r]
  have hi := rv.ints
  obtain ⟨xs, hx⟩ := hi.allInts.items
  have hn : numsOf its.toArray.toList = ns := by rw [show its.toArray.toList = its by simp, hi.numsOf]
  rw [hx] at p hn
  rw [nums_intItems] at hn
  refine PySem.W.ktm_sumG (I.ok.hd hc) p fun h' tk t' hk => ?_
  have e : preSum (numAt xs) xs.size = ns.sum := by rw [preSum_eq, List.take_of_length_le (by simp), hn]
  exact ⟨.int ns.sum, H, I.kept hk, ⟨t', by rw [e]⟩, q⟩
end
/-! ### xs[i] op= e -/
section
variable {X : Cx}
theorem get_list : PGet X (rIxL X.K) := by
  intro pins s σ H x y v u Q I rx ry h
  obtain ⟨p, xs, i, z, rfl, rfl, hq, he, q⟩ := h
  cases rx
  obtain ⟨t, rfl⟩ := ry
  obtain ⟨its, r, pl, hz⟩ := I.list hq
  obtain ⟨j, h1, h2, h3, h4, h5⟩ := atI_get he
  obtain ⟨w, ew, rw'⟩ := r.get h2
  have hl := r.length
  have hn := line63
  have fin : EP X pins σ Q w s := ⟨z, H, I, rw', q⟩
  by_cases h0 : 0 ≤ i
  · have hj : i.toNat = j := by
      rw [seqIndex_of h0 h5] at h1
      exact Option.some.inj h1
    exact wpAny_getItem_list pl.isList h0 (by omega) (by rw [hj]; simpa using ew) fin
  · have hj : (i + (its.toArray.size : Int)).toNat = j := by
      rw [seqIndex_neg (by omega) h4] at h1
      rw [List.size_toArray, ← hl]
      exact Option.some.inj h1
    exact wpAny_getItem_list_neg pl.isList (by omega) (by rw [List.size_toArray] <;> omega) (by omega) (by rw [hj]; simpa using ew) fin
end
end LR

namespace LR
open PySem PySem.Spec PyProof.Rows L2
open PySem.W (Datum DatumOrd Holds HoldAll Tup)
/-! ### sorted(t), a tuple of ints -/
section
variable {prog : Program} {w : World} {A : Around} {E : Value → Shared → Prop} {s : Shared}
theorem collect_tup {l : Addr} {vs : List Value} {Q : List Value → Shared → Prop} (hl : IsTup s.heap l vs.toArray)
    (h : Q vs { s with heap := (s.heap.push (seqObj "list" #[] 0)).update s.heap.objs.size (Obj.mapSeq (· ++ vs.toArray)) }) (hsz : vs.length ≤ sizeLine := by size_fits) :
    wpAny (model prog w) A (collect (.ref l)) Q E s := by
  obtain ⟨o, ho, hc, n, hd⟩ := id hl
  unfold collect
  refine wpAny_bind (wpAny_runValue (codeAny_builtin entry_proto_collect' ?_))
  show wpAny _ _ (do again (.builtin "list.__iadd__" ⟨[← newList [], .ref l], []⟩)) _ _ s
  refine wpAny_bind (wpAny_newList (wpAny_pure ⟨Code.quiet_builtin _ (by decide +kernel), codeAny_builtin entry_list_iadd' ?_⟩))
  show wpAny _ _ (Builtin.List.listExtendWith (.ref s.heap.objs.size) (.ref l) (.ref s.heap.objs.size)) _ _ { s with heap := s.heap.push (seqObj "list" #[] 0) }
  unfold Builtin.List.listExtendWith
  have ho' : (s.heap.push (seqObj "list" #[] 0)).get? l = some o := Heap.get?_push_of_some _ ho
  refine wpAny_bind (wpAny_typeOf (T := "tuple") ⟨o, ho', hc⟩ ?_)
  have ht : (Value.type "tuple" == Value.type "tuple") = true := by rfl
  rw [if_pos (by rw [ht]; simp)]
  refine wpAny_bind (listItems_at ho' hd ?_)
  refine wpAny_bind (listItems_at (xs := #[]) (n := 0) (Heap.get?_push_size _ rfl) rfl ?_)
  rw [if_neg (by simp)]
  refine wpAny_bind (listUpdate_at (xs := #[]) (n := 0) (Heap.get?_push_size _ rfl) rfl ?_ (Nat.zero_le _) (by show (#[] ++ vs.toArray).size ≤ sizeLine + 1; simp only [Array.size_append, List.size_toArray, List.length_nil]; omega))
  refine wpAny_pure ?_
  show wpAny (model prog w) A (do
      let o ← load s.heap.objs.size
      match o.data with
      | .seq xs _ => pure xs.toList
      | _ => unsupported "internal:collect") Q E { s with heap := (s.heap.push (seqObj "list" #[] 0)).update s.heap.objs.size (Obj.mapSeq (· ++ vs.toArray)) }
  refine wpAny_bind (wpAny_load (get?_update_seq (Heap.get?_push_size _ rfl) _) ?_)
  show wpAny _ _ (pure ((#[] : Array Value) ++ vs.toArray).toList) Q E _
  rw [show ((#[] : Array Value) ++ vs.toArray).toList = vs by simp]
  exact wpAny_pure h
open Srt SrtO in
theorem sorted_tup_ints {l : Addr} {vs : List Value} {ns : List Int} {Q : Value → Shared → Prop} (hl : IsTup s.heap l vs.toArray) (hI : IntsAre vs ns) (hz : vs.length ≤ sizeLine)
    (h : ∀ (out : List Value) (ns' : List Int) (p : Addr) (h' : Heap), IntsAre out ns' → ns'.Perm ns → ns'.Pairwise (· ≤ ·) → s.heap.objs.size ≤ p → (∀ b o, s.heap.get? b = some o → h'.get? b = some o) →
      (∃ n, h'.get? p = some { cls := .type "list", data := .seq out.toArray n }) → Q (.ref p) { s with heap := h' }) :
    wpAny (model prog w) A (call (.builtin "sorted") [.ref l]) Q E s := by
  refine Calls.call_function_entry kind_sorted plain_sorted entry_sorted (args_sorted1 _) ?_
  unfold Builtin.«sorted»
  refine wpAny_bind (m := checkCount "sorted" 1 1 _) (wpAny_pure ?_)
  refine wpAny_bind (collect_tup hl ?_ hz)
  refine wpAny_bind (wpAny_newList ?_ hz)
  have hsz : ((s.heap.push (seqObj "list" #[] 0)).update s.heap.objs.size (Obj.mapSeq (· ++ vs.toArray))).objs.size = s.heap.objs.size + 1 := by
    rw [Heap.size_update, size_push']
  have hoL : (((s.heap.push (seqObj "list" #[] 0)).update s.heap.objs.size (Obj.mapSeq (· ++ vs.toArray))).push (seqObj "list" vs.toArray 0)).get? (s.heap.objs.size + 1) = some (seqObj "list" vs.toArray 0) := by
    rw [← hsz]; exact Heap.get?_push_size _ rfl
  show wpAny _ _ _ _ _ { s with heap := ((s.heap.push (seqObj "list" #[] 0)).update s.heap.objs.size (Obj.mapSeq (· ++ vs.toArray))).push (seqObj "list" vs.toArray 0) }
  rw [hsz]
  refine wpAny_bind (wpAny_holding (wpAny_call_entry slot_list_sort ⟨_, hoL, rfl⟩ entry_list_sort (list_sort_ord swo_int hoL hz (fun h2 => ints_sortable hI h2) fun out hs hb => ⟨_, rfl, ?_⟩) (args_list_sort _)))
  obtain ⟨k1, k2, k3⟩ := ints_out hI hs hb
  obtain ⟨ep, he'⟩ := sortedAll_at s.heap vs out.toArray
  exact wpAny_pure ⟨_, rfl, h out _ _ _ k1 k2 k3 (Nat.le_succ _) (fun _ _ => sortedAll_old) ⟨ep, he'⟩⟩
end
section
variable {X : Cx}
def rSortedT3 (K : PySem.W.Frag) : List V → Hp → VK → Prop := fun vs H Q => ∃ (a : Addr) (ns : List Int), vs = [V.ref a] ∧ SqT K H a (ns.map V.int) ∧
  ∀ (ns' : List Int) (p : Addr), ns'.Perm ns → ns'.Pairwise (· ≤ ·) → H p = none → Q (.ref p) (upd H p (.lst (ns'.map V.int)))
theorem cr_sortedT3 : CallR X (.builtin "sorted") (rSortedT3 X.K) := by
  intro pins s σ H vs us Q I r h
  obtain ⟨a, ns, rfl, hs, q⟩ := h
  obtain ⟨its, rv, hl, hz⟩ := I.tuple hs
  rw [Vals.ref1 r]
  refine sorted_tup_ints hl rv.ints (by rw [← rv.length]; exact hz) fun out ns' p h' k1 k2 k3 hp hk ⟨ep, he'⟩ => ?_
  have hlen : (ns'.map V.int).length ≤ sizeLine := by
    rw [List.length_map, k2.length_eq]
    rw [List.length_map] at hz
    exact hz
  exact ⟨.ref p, upd H p (.lst (ns'.map V.int)), I.laid (t' := s.toks) hk hp ⟨hlen, out, ep, vals_of_ints k1, he'⟩, rfl, q ns' p k2 k3 (I.hok.fresh hp)⟩
end
end LR

namespace LR
open PySem PySem.Spec PyProof.Rows L2
open PySem.W (Datum DatumOrd Holds HoldAll Tup)
/-! ### enumerate(t), a tuple -/
open Sem (wp) in
open AutoSeq1 (wpAny_loadPart') in
theorem meets_enumerate_newT (l : Addr) (items : Array Value) (n : Nat) (dct : Option Addr) (sl : Array (Option Value)) :
    Meets (Builtin.«enumerate.__new__» ⟨[.type "enumerate", .ref l], []⟩) (fun _ R s => s.heap.get? l = some { cls := .type "tuple", dict := dct, data := .seq items n, slots := sl } ∧
      R (.ok (.ret (.ref (s.heap.push { cls := .type "tuple_iterator", data := .fields #[.ref l, .int 0 0] }).objs.size)))
        { s with heap := (s.heap.push { cls := .type "tuple_iterator", data := .fields #[.ref l, .int 0 0] }).push { cls := .type "enumerate", data := .fields #[.none, .bool false, .ref s.heap.objs.size, rawInt 0, .none, .none] } }) :=
  .of_wp fun prog w A R s h => by
    obtain ⟨hp, g, d, tk, os⟩ := s; obtain ⟨hl, h⟩ := h
    have hsub := sub_enumerate
    have hL : Heap.IsTuple (Shared.heap ⟨hp, g, d, tk, os⟩) l items := ⟨_, hl, rfl, n, rfl⟩
    wp_walk using wpAny_loadPart' hl
    refine wpAny_stack_any fun st => wpAny_pure ?_
    split
    · rename_i c _ _ _ _ _
      cases (c == Value.type "enumerate")
      · wp_walk using wpAny_loadPart' hl, wpAny_pyIter_tuple hL
        exact ⟨_, rfl, h⟩
      · wp_walk using wpAny_loadPart' hl, wpAny_pyIter_tuple hL
        exact ⟨_, rfl, h⟩
    · wp_walk using wpAny_loadPart' hl, wpAny_pyIter_tuple hL
      exact ⟨_, rfl, h⟩
section
variable {prog : Program} {w : World} {A : Around} {E : Value → Shared → Prop} {s : Shared}
theorem call_enumerate_tup {l : Addr} {items : Array Value} {Q : Value → Shared → Prop} (hL : s.heap.IsTuple l items)
    (h : ∀ h', IsEnum h' (s.heap.objs.size + 1) s.heap.objs.size 0 .none → h'.IsTupleIter s.heap.objs.size l 0 → h'.objs.size = s.heap.objs.size + 2 →
      (∀ b o, s.heap.get? b = some o → h'.get? b = some o) → Q (.ref (s.heap.objs.size + 1)) { s with heap := h' }) :
    wpAny (model prog w) A (call (.type "enumerate") [.ref l]) Q E s := by
  obtain ⟨⟨c, dct, dt, sl⟩, hl, hc, n, hd⟩ := hL
  replace hc : c = .type "tuple" := hc
  replace hd : dt = .seq items n := hd
  subst hc hd
  refine callType_new F.called_enumerate (by decide) (F.typeCall_enumerate_1 _) (F.newCall_enumerate_1 _) (fun obj => F.args_object_init_2 obj _) F.entry_enumerate_new
    (meets_enumerate_newT l items n dct sl) ⟨hl, ?_⟩
  have hz : (s.heap.push { cls := .type "tuple_iterator", data := .fields #[.ref l, .int 0 0] }).objs.size = s.heap.objs.size + 1 := Heap.size_push ..
  show _ ∧ _
  rw [hz]
  have he : IsEnum ((s.heap.push { cls := .type "tuple_iterator", data := .fields #[.ref l, .int 0 0] }).push
      { cls := .type "enumerate", data := .fields #[.none, .bool false, .ref s.heap.objs.size, rawInt 0, .none, .none] }) (s.heap.objs.size + 1) s.heap.objs.size 0 .none := by
    have := Heap.get?_push_size (s.heap.push { cls := .type "tuple_iterator", data := .fields #[.ref l, .int 0 0] })
      (o := { cls := .type "enumerate", data := .fields #[.none, .bool false, .ref s.heap.objs.size, rawInt 0, .none, .none] }) rfl
    rw [hz] at this; exact this
  refine ⟨⟨_, he, rfl⟩, h _ he ⟨_, Heap.get?_push_of_some _ (Heap.get?_push_size _ rfl), rfl, rfl⟩ (by rw [Heap.size_push, hz]) fun b o x => Heap.get?_push_of_some _ (Heap.get?_push_of_some _ x)⟩
end
/-- the tuple at a as it stands at each turn, each item in a new pair -/
def IteT (K : PySem.W.Frag) (a : Addr) : It :=
  ⟨fun i H => ∃ (xs : List V) (x : V), SqT K H a xs ∧ xs[i]? = some x, fun i H v H' => ∃ T x, v = .ref T ∧ H T = none ∧ H' = upd H T (.tup [.int (i : Nat), x]) ∧ ∀ xs, SqT K H a xs → xs[i]? = some x, fun i H => ∃ xs : List V, SqT K H a xs ∧ xs.length = i⟩
theorem turn_enumT {P : Program} {w : World} {K : PySem.W.Frag} {elts : List Expr} {kk : Nat} {tpos : Pos} (a e it : Addr) :
    Turn P w K (.Tuple elts kk tpos) (IteT K a) [e, it] e (fun i h => (∃ old, IsEnum h e it ((i : Nat) : Int) old) ∧ h.IsTupleIter it a i ∧ e ≠ it ∧ a ≠ it ∧ a ≠ e) where
  mem := by simp
  obj := fun i h st b hb => by
    obtain ⟨⟨old, he⟩, ⟨o, ho, hc, hd⟩, _⟩ := st
    have e' : b = e ∨ b = it := by simpa using hb
    rcases e' with z | z
    · rw [z]; exact ⟨_, he, fun v q => nomatch q⟩
    · rw [z]; exact ⟨o, ho, fun v q => by rw [hd] at q; cases q⟩
  keep := fun i h h' st k => let ⟨⟨old, he⟩, hi, hne⟩ := st; ⟨⟨old, k e (by simp) _ he⟩, hi.at fun o q => k it (by simp) o q, hne⟩
  item := by
    intro X hP hw hK hc i pins s σ H E I hf st hg
    subst hP hw hK
    obtain ⟨⟨old, he⟩, hit, hne, hai, hae⟩ := st
    obtain ⟨xs, x, hq, hx⟩ := hg
    obtain ⟨its, rv, p, hz⟩ := I.tuple hq
    obtain ⟨u, hu, ru⟩ := rv.get hx
    have hel : e < s.heap.objs.size := Heap.lt_size he
    have hil : it < s.heap.objs.size := by obtain ⟨_, q, _⟩ := hit; exact Heap.lt_size q
    have hlt : i < its.toArray.size := by
      have := (List.getElem?_eq_some_iff.mp hu).1
      simpa using this
    have p' : s.heap.IsTuple a its.toArray := p
    refine wpAny_pyNext_enum_itemD (Draws.tuple (prog := X.prog) (w := X.w) (A := X.A.in1) (I.ok.hd hc) it a hai its.toArray) he ⟨hit, p'⟩ hlt hne (by simp [hne, Ne.symm hae]) fun v h' tk hP ho hit' hT hsz hk => ?_
    have ev : v = u := by
      have q : its[i]? = some v := by simpa using hP
      rw [hu] at q
      exact (Option.some.inj q).symm
    subst ev
    refine ⟨_, rfl, wpAny_letOwnedTupleGo_enum (s := { s with heap := h', toks := tk + 1 }) ho fun h'' he' sb => ?_⟩
    have hT2 : h''.get? s.heap.objs.size = some { cls := .type "tuple", data := .seq #[.int i tk, v] } := (sb.2 _ (Nat.ne_of_gt hel)).trans hT
    have new : ObjOk X.prog X.w (upd H s.heap.objs.size (.tup [.int (i : Nat), x])) h'' s.heap.objs.size (.tup [.int (i : Nat), x]) :=
      ⟨by show 2 ≤ sizeLine; decide, [.int i tk, v], .cons ⟨_, rfl⟩ (.cons ru .nil), ⟨_, hT2, rfl, _, rfl⟩⟩
    have I1 : Inv X pins σ (upd H s.heap.objs.size (.tup [.int (i : Nat), x])) { s with heap := h'', toks := tk + 1 } :=
      I.turnedNew (ch := [e, it]) (fun b ob hb q => (sb.2 b (fun z => hb (by simp [z]))).trans (hk b ob (fun z => hb (by simp [z])) (fun z => hb (by simp [z])) q)) hf (Nat.le_refl _) new
    refine ⟨.ref s.heap.objs.size, _, I1, rfl, ⟨_, x, rfl, I.hok.fresh (Nat.le_refl _), rfl, fun ys hy => by rw [I.tuple_inj hy hq]; exact hx⟩, ⟨⟨v, ?_⟩, hit'.1.at fun o q => (sb.2 it (Ne.symm hne)).trans q, hne, hai, hae⟩, fun b hb => ?_⟩
    · have e1 : ((i + 1 : Nat) : Int) = (i : Int) + 1 := by omega
      rw [e1]; exact he'
    · have hb' : b < s.heap.objs.size := by
        have e' : b = e ∨ b = it := by simpa using hb
        rcases e' with z | z
        · rw [z]; exact hel
        · rw [z]; exact hil
      rw [upd_ne (Nat.ne_of_lt hb')]
      exact (hf b hb).1
  done := by
    intro X hP hw hK hc i pins s σ H E I hf st hg
    subst hP hw hK
    obtain ⟨⟨old, he⟩, hit, hne, hai, hae⟩ := st
    obtain ⟨xs, hq, hx⟩ := hg
    obtain ⟨its, rv, p, hz⟩ := I.tuple hq
    obtain ⟨f0, f1, f2, f3, f4, f5⟩ := hf it (by simp)
    have hl := rv.length
    have hn : i = its.toArray.size := by simp; omega
    subst hn
    have p' : s.heap.IsTuple a its.toArray := p
    exact wpAny_pyNext_enum_endD (Draws.tuple (prog := X.prog) (w := X.w) (A := X.A.in1) (I.ok.hd hc) it a hai its.toArray) he ⟨hit, p'⟩ fun h' eb => ⟨rfl, I.turned (t' := s.toks) (fun b o hb q => eb b o hb q) f0 f1 f3 f4 f5⟩
  self := fun A i s Q E st h => let ⟨⟨_, he⟩, _⟩ := st; wpAny_pyIter_enum he h
def iEnumT (K : PySem.W.Frag) (ta : TA) : TI := fun σ H R => ta σ H fun vs H1 => ∃ a xs, vs = [.ref a] ∧ SqT K H1 a xs ∧ R (IteT K a) H1
theorem pi_enumT {X : Cx} {e : Expr} {ta : TA} {p pos tpos : Pos} {elts : List Expr} {kk : Nat} (hg : Gl X "enumerate") (hm : X.mg "enumerate" = none) (ha : PA X [e] ta) (hs : starEach [e] X.env = [(false, eval e X.env)] := by rfl) :
    PI X (.Tuple elts kk tpos) (.Call (.Name "enumerate" p) [e] [] pos) (iEnumT X.K ta) := by
  refine ⟨fun pins s σ H R I h => ?_⟩
  refine Call_ (ld_blt I hg hm boot_enumerate (PyProof.Rows.callWith_type1 (thn (ha.run pos pins s σ H _ I h) fun us s1 ⟨vs, H1, I1, r1, q1⟩ => ?_) hs rfl))
  obtain ⟨a, xs, ex, hq, q⟩ := q1
  subst ex
  cases r1 with
  | cons r rr =>
    cases rr
    cases r
    obtain ⟨its, rv, p', hz⟩ := I1.tuple hq
    have hal : a < s1.heap.objs.size := by obtain ⟨_, q, _⟩ := p'; exact Heap.lt_size q
    refine call_enumerate_tup (show s1.heap.IsTuple a its.toArray from p') fun h' he hit hsz hk => wpAny_pyIter_enum he ?_
    have I2 : Inv X pins σ H1 { s1 with heap := h' } := I1.kept (t' := s1.toks) hk
    refine ⟨s1.heap.objs.size + 1, [s1.heap.objs.size + 1, s1.heap.objs.size], _, _, H1, rfl, I2, turn_enumT a (s1.heap.objs.size + 1) s1.heap.objs.size, ⟨⟨.none, he⟩, hit, Nat.succ_ne_self _, Nat.ne_of_lt hal, Nat.ne_of_lt (Nat.lt_succ_of_lt hal)⟩, fun b hb => ?_, q⟩
    have e' : b = s1.heap.objs.size + 1 ∨ b = s1.heap.objs.size := by simpa using hb
    have hle : s1.heap.objs.size ≤ b := by
      rcases e' with z | z
      · rw [z]; exact Nat.le_add_right _ _
      · rw [z]; exact Nat.le_refl _
    exact I1.fpOk hle (I1.hok.fresh hle)
/-- a comprehension over enumerate of a tuple that stands -/
theorem lc_enumT {K : PySem.W.Frag} {a : Addr} {xs : List V} {g : TG} {tt : TT} {te : TE} {vs : List Nat} {σ : L2.St} {H1 : Hp} {D : Addr} {Qd : Hp → Prop} (Pv : Nat → Hp → Prop) (h0 : Pv 0 (upd H1 D (.lst []))) (hl : ∀ i H, i ≤ xs.length → Pv i H → SqT K H a xs)
    (hs : ∀ (i : Nat) x T H, xs[i]? = some x → Pv i H → H T = none → g (.ref T) (wipe σ vs) (upd H T (.tup [.int (i : Nat), x])) fun σ2 H2 => wipe σ2 vs = wipe σ vs ∧ tt σ2 H2 fun b H3 =>
      if b = true then te σ2 H3 fun y H4 => ∃ acc, H4 D = some (.lst acc) ∧ acc.length < sizeLine ∧ Pv (i + 1) (upd H4 D (.lst (acc ++ [y]))) else Pv (i + 1) H3) (hd : ∀ H, Pv xs.length H → Qd H) :
    ∃ W : Nat → Nat → Hp → Prop, (∃ m, W 0 m (upd H1 D (.lst []))) ∧ ∀ i m H, W i m H →
      ((IteT K a).stop i H ∧ Qd H) ∨ ((IteT K a).go i H ∧ ∃ Nx : Hp → Prop, (∀ H', Nx H' → ∃ m', m' < m ∧ W (i + 1) m' H') ∧ ∀ x H', (IteT K a).yld i H x H' → g x (wipe σ vs) H' fun σ2 H2 => wipe σ2 vs = wipe σ vs ∧ tt σ2 H2 fun b H3 =>
        if b = true then te σ2 H3 fun y H4 => ∃ acc, H4 D = some (.lst acc) ∧ acc.length < sizeLine ∧ Nx (upd H4 D (.lst (acc ++ [y]))) else Nx H3) := by
  refine ⟨fun i m H => m = xs.length - i ∧ i ≤ xs.length ∧ Pv i H, ⟨xs.length, by simp, Nat.zero_le _, h0⟩, ?_⟩
  rintro i m H ⟨rfl, hi, p⟩
  have q := hl i H hi p
  by_cases hlt : i < xs.length
  · refine .inr ⟨⟨xs, xs[i], q, by simp [hlt]⟩, Pv (i + 1), fun H' p' => ⟨xs.length - (i + 1), by omega, rfl, hlt, p'⟩, fun x H' y => ?_⟩
    obtain ⟨T, x', rfl, hT, rfl, f⟩ := y
    exact hs i x' T _ (f xs q) p hT
  · have e : i = xs.length := by omega
    subst e
    exact .inl ⟨⟨xs, q, rfl⟩, hd H p⟩
/-- .. of a list that stands -/
theorem lc_enum {K : PySem.W.Frag} {a : Addr} {xs : List V} {g : TG} {tt : TT} {te : TE} {vs : List Nat} {σ : L2.St} {H1 : Hp} {D : Addr} {Qd : Hp → Prop} (Pv : Nat → Hp → Prop) (h0 : Pv 0 (upd H1 D (.lst []))) (hl : ∀ i H, i ≤ xs.length → Pv i H → SqL K H a xs)
    (hs : ∀ (i : Nat) x T H, xs[i]? = some x → Pv i H → H T = none → g (.ref T) (wipe σ vs) (upd H T (.tup [.int (i : Nat), x])) fun σ2 H2 => wipe σ2 vs = wipe σ vs ∧ tt σ2 H2 fun b H3 =>
      if b = true then te σ2 H3 fun y H4 => ∃ acc, H4 D = some (.lst acc) ∧ acc.length < sizeLine ∧ Pv (i + 1) (upd H4 D (.lst (acc ++ [y]))) else Pv (i + 1) H3) (hd : ∀ H, Pv xs.length H → Qd H) :
    ∃ W : Nat → Nat → Hp → Prop, (∃ m, W 0 m (upd H1 D (.lst []))) ∧ ∀ i m H, W i m H →
      ((Ite K a).stop i H ∧ Qd H) ∨ ((Ite K a).go i H ∧ ∃ Nx : Hp → Prop, (∀ H', Nx H' → ∃ m', m' < m ∧ W (i + 1) m' H') ∧ ∀ x H', (Ite K a).yld i H x H' → g x (wipe σ vs) H' fun σ2 H2 => wipe σ2 vs = wipe σ vs ∧ tt σ2 H2 fun b H3 =>
        if b = true then te σ2 H3 fun y H4 => ∃ acc, H4 D = some (.lst acc) ∧ acc.length < sizeLine ∧ Nx (upd H4 D (.lst (acc ++ [y]))) else Nx H3) := by
  refine ⟨fun i m H => m = xs.length - i ∧ i ≤ xs.length ∧ Pv i H, ⟨xs.length, by simp, Nat.zero_le _, h0⟩, ?_⟩
  rintro i m H ⟨rfl, hi, p⟩
  have q := hl i H hi p
  by_cases hlt : i < xs.length
  · refine .inr ⟨⟨xs, xs[i], q, by simp [hlt]⟩, Pv (i + 1), fun H' p' => ⟨xs.length - (i + 1), by omega, rfl, hlt, p'⟩, fun x H' y => ?_⟩
    obtain ⟨T, x', rfl, hT, rfl, f⟩ := y
    exact hs i x' T _ (f xs q) p hT
  · have e : i = xs.length := by omega
    subst e
    exact .inl ⟨⟨xs, q, Nat.le_refl _⟩, hd H p⟩
/-! ### max(a, b) of data -/
section
variable {prog : Program} {w : World} {A : Around} {E : Value → Shared → Prop} {s : Shared}
open PySem.W in
theorem call_max_twoD {a b : Value} {da db : PyData} {as bs : List Addr} {Q : Value → Shared → Prop} (hh : A.handled = none) (ra : Reads s.heap a da as) (rb : Reads s.heap b db bs) (hal : AlikeAll [da, db]) (hu : A.units + 1 + PyData.depthAll [da, db] < cLine)
    (h : ∀ h' tk, (∀ b o, s.heap.get? b = some o → h'.get? b = some o) → Q (if dataLt da db = true then b else a) { s with heap := h', toks := tk }) :
    wpAny (model prog w) A (call (.builtin "max") [a, b]) Q E s := by
  have hname : (toString "max" ++ toString ".loop" : String) = "max.loop" := by decide
  refine call_function_tree F.kind_max F.plain_max F.entry_max (F.args_max2 _ _) ?_
  show wpAny _ A.in1 (Builtin.Builtins.bindParams "max" ["key", "default"] 0 ⟨[], []⟩ >>= _) _ _ s
  refine wpAny_bind (wpAny_of_eq (show Builtin.Builtins.bindParams "max" ["key", "default"] 0 ⟨[], []⟩ = pure [none, none] from rfl) ?_)
  show wpAny _ A.in1 (newTuple [a, b] >>= _) _ _ s
  refine wpAny_bind (wpAny_newObj_type ?_)
  have hT : (s.heap.push { cls := .type "tuple", data := .seq #[a, b] }).IsTuple s.heap.objs.size #[a, b] := ⟨_, Heap.get?_push_size _ rfl, rfl, 0, rfl⟩
  have k0 : ∀ b' o, s.heap.get? b' = some o → (s.heap.push { cls := .type "tuple", data := .seq #[a, b] }).get? b' = some o := fun b' o e => Heap.get?_push_of_some _ e
  have hr : ReadsAll s.heap (#[a, b] : Array Value).toList [da, db] (as ++ (bs ++ [])) := .cons ra (.cons rb .nil)
  refine wpAny_bind (iter_tupleW (A := A.in1) (s := { s with heap := s.heap.push { cls := .type "tuple", data := .seq #[a, b] } }) hh hT fun s₂ e W st hfp hw hk => ?_)
  refine wpAny_bind (wpAny_newObj_type ?_)
  generalize hI : (s.heap.push { cls := .type "tuple", data := .seq #[a, b] }).objs.size = I at *
  have hSf : s₂.heap.objs.size ∉ [I, s.heap.objs.size] := fun hm => Nat.lt_irrefl _ (hfp _ hm)
  have hw' : ∀ b o, s.heap.get? b = some o → b ∉ [I] := fun b' o q => hw b' o (k0 b' o q)
  have hkeep : ∀ b o, s.heap.get? b = some o → s₂.heap.get? b = some o := fun b' o q => hk b' o (k0 b' o q)
  have hcmp : CmpIn prog w A.in1 .Gt s.heap (fun i v => (#[a, b] : Array Value)[i]? = some v) (fun i j => dataLt ([da, db].getD j .none) ([da, db].getD i .none)) := cmpIn_gt (A := A.in1) hr hal (by show A.units + 1 + _ < _; exact hu)
  rw [hname]
  have st' := W.frame 0 s₂ (s₂.heap.push { cls := .type "list", data := .seq #[] 0 }) s₂.toks st (Nat.le_refl _) fun b' _ o q => Heap.get?_push_of_some _ q
  refine wpAny_pure ⟨plainId_quiet F.plain_max_loop _, codeAny_max_loop_firstH W s.heap hw' _ hcmp s₂.heap.objs.size hSf (fresh_in hkeep) _ (by show 0 < 2; decide) (fun b' o q => Heap.get?_push_of_some _ (hkeep b' o q)) st' (Heap.get?_push_size _ rfl) fun v s' hP hm => ?_⟩
  have hm2 := Moved.drop_new (tk := s₂.toks) hm (Nat.le_refl _)
  obtain ⟨h', tk, rfl, hk'⟩ := moved_old e (by rw [← hI]) hm2
  have fin := h h' tk fun b' o q => hk' b' o (k0 b' o q)
  have hv : v = if dataLt da db = true then b else a := by
    have hP' : (#[a, b] : Array Value)[argBest (fun i j => dataLt ([da, db].getD j .none) ([da, db].getD i .none)) 1]? = some v := hP
    unfold argBest at hP'
    have e1 : argBest (fun i j => dataLt ([da, db].getD j .none) ([da, db].getD i .none)) 0 = 0 := rfl
    rw [e1] at hP'
    cases q : dataLt da db with
    | true =>
      have q' : dataLt ([da, db].getD 0 .none) ([da, db].getD 1 .none) = true := q
      simp only [q', if_true] at hP' ⊢
      exact (Option.some.inj hP').symm
    | false =>
      have q' : dataLt ([da, db].getD 0 .none) ([da, db].getD 1 .none) = false := q
      simp only [q', Bool.false_eq_true, if_false] at hP' ⊢
      exact (Option.some.inj hP').symm
  rw [hv]
  exact fin
end
section
variable {X : Cx} {α : Type} [DecidableEq α] [DatumOrd α]
def rMax2D (K : PySem.W.Frag) (α : Type) [DecidableEq α] [DatumOrd α] : List V → Hp → VK → Prop := fun vs H Q => ∃ (x y : V) (a b : α), vs = [x, y] ∧ Dv K H x a ∧ Dv K H y b ∧ Q (if DatumOrd.lt a b = true then y else x) H
theorem cr_max2D (hc : X.calm = true) (hu : X.A.units + 1 + Datum.depth α < cLine) : CallR X (.builtin "max") (rMax2D X.K α) := by
  intro pins s σ H vs us Q I r h
  obtain ⟨x, y, a, b, rfl, ha, hb, q⟩ := h
  obtain ⟨u, v, rfl, rx, ry⟩ := vals2 r
  obtain ⟨as, ra⟩ := ha.holds I rx
  obtain ⟨bs, rb⟩ := hb.holds I ry
  refine call_max_twoD (I.ok.hd hc) ra rb (PySem.W.alikeAll_datum [a, b]) (PySem.W.room_all (PySem.W.depthAll_map [a, b]) hu) fun h' tk hk => ?_
  rw [DatumOrd.lt_eq]
  refine ⟨if DatumOrd.lt a b = true then y else x, H, I.kept hk, ?_, q⟩
  cases DatumOrd.lt a b with
  | true => exact ry
  | false => exact rx
end
end LR

/-! The defs by their places in the text, and their names by slot. Printed by gen_sc.py. -/
namespace LR
open PySem PySem.Spec PyProof.Rows L2
def topS (i : Nat) : Stmt := PySem.Challenge.pw_leaprows_k43_whole_outward_parts.main.body.getD i (.Pass ⟨0, 0, 0, 0⟩)
abbrev s_is_int : Stmt := topS 10
abbrev n_is_int : List Str := ["value"]
theorem sc_is_int : FnScope ["value"] ["value"] (defScope s_is_int) := ⟨rfl, rfl, rfl, by decide +kernel, rfl, by decide +kernel, by decide +kernel⟩
abbrev s_is_in : Stmt := topS 11
abbrev n_is_in : List Str := ["value", "least", "most"]
theorem sc_is_in : FnScope ["value", "least", "most"] ["value", "least", "most"] (defScope s_is_in) := ⟨rfl, rfl, rfl, by decide +kernel, rfl, by decide +kernel, by decide +kernel⟩
abbrev s_is_state : Stmt := topS 12
abbrev n_is_state : List Str := ["value", "place"]
theorem sc_is_state : FnScope ["value", "place"] ["value"] (defScope s_is_state) := ⟨rfl, rfl, rfl, by decide +kernel, rfl, by decide +kernel, by decide +kernel⟩
abbrev s_need_state : Stmt := topS 13
abbrev n_need_state : List Str := ["value"]
theorem sc_need_state : FnScope ["value"] ["value"] (defScope s_need_state) := ⟨rfl, rfl, rfl, by decide +kernel, rfl, by decide +kernel, by decide +kernel⟩
abbrev s_order_of : Stmt := topS 14
abbrev n_order_of : List Str := ["state", "place", "stone"]
theorem sc_order_of : FnScope ["state", "place", "stone"] ["state"] (defScope s_order_of) := ⟨rfl, rfl, rfl, by decide +kernel, rfl, by decide +kernel, by decide +kernel⟩
abbrev s_common : Stmt := topS 15
abbrev n_common : List Str := ["one", "other"]
theorem sc_common : FnScope ["one", "other"] ["one", "other"] (defScope s_common) := ⟨rfl, rfl, rfl, by decide +kernel, rfl, by decide +kernel, by decide +kernel⟩
abbrev s_gaps_of : Stmt := topS 16
abbrev n_gaps_of : List Str := ["state", "x", "y", "z"]
theorem sc_gaps_of : FnScope ["state", "x", "y", "z"] ["state"] (defScope s_gaps_of) := ⟨rfl, rfl, rfl, by decide +kernel, rfl, by decide +kernel, by decide +kernel⟩
abbrev s_middle_of : Stmt := topS 17
abbrev n_middle_of : List Str := ["state", "x", "y", "z"]
theorem sc_middle_of : FnScope ["state", "x", "y", "z"] ["state"] (defScope s_middle_of) := ⟨rfl, rfl, rfl, by decide +kernel, rfl, by decide +kernel, by decide +kernel⟩
abbrev s_grain_of : Stmt := topS 18
abbrev n_grain_of : List Str := ["state", "one", "other"]
theorem sc_grain_of : FnScope ["state", "one", "other"] ["state"] (defScope s_grain_of) := ⟨rfl, rfl, rfl, by decide +kernel, rfl, by decide +kernel, by decide +kernel⟩
abbrev s_pair_of : Stmt := topS 19
abbrev n_pair_of : List Str := ["state", "grain", "one", "other"]
theorem sc_pair_of : FnScope ["state", "grain", "one", "other"] ["state"] (defScope s_pair_of) := ⟨rfl, rfl, rfl, by decide +kernel, rfl, by decide +kernel, by decide +kernel⟩
abbrev s_leaps_of : Stmt := topS 20
abbrev n_leaps_of : List Str := ["state", "found", "left", "middle", "right", "one", "other"]
theorem sc_leaps_of : FnScope ["state", "found", "left", "middle", "right", "one", "other"] ["state"] (defScope s_leaps_of) := ⟨rfl, rfl, rfl, by decide +kernel, rfl, by decide +kernel, by decide +kernel⟩
abbrev s_leapt_to : Stmt := topS 21
abbrev n_leapt_to : List Str := ["state", "stone", "over", "found"]
theorem sc_leapt_to : FnScope ["state", "stone", "over", "found"] ["state", "stone", "over"] (defScope s_leapt_to) := ⟨rfl, rfl, rfl, by decide +kernel, rfl, by decide +kernel, by decide +kernel⟩
abbrev s_need_leap : Stmt := topS 22
abbrev n_need_leap : List Str := ["state", "stone", "over"]
theorem sc_need_leap : FnScope ["state", "stone", "over"] ["state", "stone", "over"] (defScope s_need_leap) := ⟨rfl, rfl, rfl, by decide +kernel, rfl, by decide +kernel, by decide +kernel⟩
abbrev s_runs_of : Stmt := topS 24
abbrev n_runs_of : List Str := ["state", "found", "one", "other", "times"]
theorem sc_runs_of : FnScope ["state", "found", "one", "other", "times"] ["state"] (defScope s_runs_of) := ⟨rfl, rfl, rfl, by decide +kernel, rfl, by decide +kernel, by decide +kernel⟩
abbrev s_order_behind : Stmt := topS 25
abbrev n_order_behind : List Str := ["order", "sign", "times", "left", "middle", "right"]
theorem sc_order_behind : FnScope ["order", "sign", "times", "left", "middle", "right"] ["order", "sign", "times"] (defScope s_order_behind) := ⟨rfl, rfl, rfl, by decide +kernel, rfl, by decide +kernel, by decide +kernel⟩
abbrev s_begin_order : Stmt := topS 26
abbrev n_begin_order : List Str := ["state", "order", "sign", "times"]
theorem sc_begin_order : FnScope ["state", "order", "sign", "times"] ["state"] (defScope s_begin_order) := ⟨rfl, rfl, rfl, by decide +kernel, rfl, by decide +kernel, by decide +kernel⟩
abbrev s_is_same : Stmt := topS 27
abbrev n_is_same : List Str := ["one", "other"]
theorem sc_is_same : FnScope ["one", "other"] ["one", "other"] (defScope s_is_same) := ⟨rfl, rfl, rfl, by decide +kernel, rfl, by decide +kernel, by decide +kernel⟩
abbrev s_are_walls : Stmt := topS 31
abbrev n_are_walls : List Str := ["value", "place"]
theorem sc_are_walls : FnScope ["value", "place"] ["value"] (defScope s_are_walls) := ⟨rfl, rfl, rfl, by decide +kernel, rfl, by decide +kernel, by decide +kernel⟩
abbrev s_need_walls : Stmt := topS 32
abbrev n_need_walls : List Str := ["state", "value"]
theorem sc_need_walls : FnScope ["state", "value"] ["state", "value"] (defScope s_need_walls) := ⟨rfl, rfl, rfl, by decide +kernel, rfl, by decide +kernel, by decide +kernel⟩
abbrev s_box_of : Stmt := topS 33
abbrev n_box_of : List Str := ["state", "walls", "middle", "grain"]
theorem sc_box_of : FnScope ["state", "walls", "middle", "grain"] ["state", "walls"] (defScope s_box_of) := ⟨rfl, rfl, rfl, by decide +kernel, rfl, by decide +kernel, by decide +kernel⟩
abbrev s_mobius : Stmt := topS 34
abbrev n_mobius : List Str := ["most", "found", "number", "more"]
theorem sc_mobius : FnScope ["most", "found", "number", "more"] ["most"] (defScope s_mobius) := ⟨rfl, rfl, rfl, by decide +kernel, rfl, by decide +kernel, by decide +kernel⟩
abbrev s_chosen_pairs : Stmt := topS 35
abbrev n_chosen_pairs : List Str := ["wide", "high", "signs", "at", "sign"]
theorem sc_chosen_pairs : FnScope ["wide", "high", "signs", "at", "sign"] ["wide", "high"] (defScope s_chosen_pairs) := ⟨rfl, rfl, rfl, by decide +kernel, rfl, by decide +kernel, by decide +kernel⟩
abbrev s_need_box : Stmt := topS 36
abbrev n_need_box : List Str := ["state", "walls", "most", "wide", "high"]
theorem sc_need_box : FnScope ["state", "walls", "most", "wide", "high"] ["state", "walls", "most"] (defScope s_need_box) := ⟨rfl, rfl, rfl, by decide +kernel, rfl, by decide +kernel, by decide +kernel⟩
abbrev s_pairs_within : Stmt := topS 37
abbrev n_pairs_within : List Str := ["wide", "high", "found", "rim", "one", "other"]
theorem sc_pairs_within : FnScope ["wide", "high", "found", "rim", "one", "other"] ["wide", "high"] (defScope s_pairs_within) := ⟨rfl, rfl, rfl, by decide +kernel, rfl, by decide +kernel, by decide +kernel⟩
abbrev s_need_field : Stmt := topS 38
abbrev n_need_field : List Str := ["state", "walls", "most", "wide", "high"]
theorem sc_need_field : FnScope ["state", "walls", "most", "wide", "high"] ["state", "walls", "most"] (defScope s_need_field) := ⟨rfl, rfl, rfl, by decide +kernel, rfl, by decide +kernel, by decide +kernel⟩
abbrev s_parent_of : Stmt := topS 39
abbrev n_parent_of : List Str := ["pair", "one", "other"]
theorem sc_parent_of : FnScope ["pair", "one", "other"] ["pair"] (defScope s_parent_of) := ⟨rfl, rfl, rfl, by decide +kernel, rfl, by decide +kernel, by decide +kernel⟩
abbrev s_heights_of : Stmt := topS 40
abbrev n_heights_of : List Str := ["pairs", "found", "pair", "parent", "size", "far"]
theorem sc_heights_of : FnScope ["pairs", "found", "pair", "parent", "size", "far"] ["pairs"] (defScope s_heights_of) := ⟨rfl, rfl, rfl, by decide +kernel, rfl, by decide +kernel, by decide +kernel⟩
abbrev s_max_low : Stmt := topS 41
abbrev n_max_low : List Str := ["one", "other"]
theorem sc_max_low : FnScope ["one", "other"] ["one", "other"] (defScope s_max_low) := ⟨rfl, rfl, rfl, by decide +kernel, rfl, by decide +kernel, by decide +kernel⟩
abbrev s_need_two : Stmt := topS 43
abbrev n_need_two : List Str := ["one", "other"]
theorem sc_need_two : FnScope ["one", "other"] ["one", "other"] (defScope s_need_two) := ⟨rfl, rfl, rfl, by decide +kernel, rfl, by decide +kernel, by decide +kernel⟩
abbrev s_behind_within : Stmt := topS 45
abbrev n_behind_within : List Str := ["state", "walls", "pairs"]
theorem sc_behind_within : FnScope ["state", "walls", "pairs"] ["state", "walls"] (defScope s_behind_within) := ⟨rfl, rfl, rfl, by decide +kernel, rfl, by decide +kernel, by decide +kernel⟩
abbrev s_ways_over : Stmt := topS 46
abbrev n_ways_over : List Str := ["state", "stone", "over", "walls", "there", "pairs", "here", "one", "other"]
theorem sc_ways_over : FnScope ["state", "stone", "over", "walls", "there", "pairs", "here", "one", "other"] ["state", "stone", "over", "walls"] (defScope s_ways_over) := ⟨rfl, rfl, rfl, by decide +kernel, rfl, by decide +kernel, by decide +kernel⟩
abbrev s_leaps_inside : Stmt := topS 47
abbrev n_leaps_inside : List Str := ["state", "walls", "pairs"]
theorem sc_leaps_inside : FnScope ["state", "walls", "pairs"] ["state", "walls"] (defScope s_leaps_inside) := ⟨rfl, rfl, rfl, by decide +kernel, rfl, by decide +kernel, by decide +kernel⟩
abbrev s_sizes_of : Stmt := topS 48
abbrev n_sizes_of : List Str := ["pairs", "found", "pair", "parent"]
theorem sc_sizes_of : FnScope ["pairs", "found", "pair", "parent"] ["pairs"] (defScope s_sizes_of) := ⟨rfl, rfl, rfl, by decide +kernel, rfl, by decide +kernel, by decide +kernel⟩
abbrev s_is_behind : Stmt := topS 49
abbrev n_is_behind : List Str := ["one", "other", "first", "second"]
theorem sc_is_behind : FnScope ["one", "other", "first", "second"] ["one", "other"] (defScope s_is_behind) := ⟨rfl, rfl, rfl, by decide +kernel, rfl, by decide +kernel, by decide +kernel⟩
abbrev s_law_taken : Stmt := topS 51
abbrev n_law_taken : List Str := ["_law_row", "_law_many", "_law_cell", "_law_found"]
theorem sc_law_taken : FnScope ["_law_row", "_law_many", "_law_cell", "_law_found"] ["_law_row", "_law_many"] (defScope s_law_taken) := ⟨rfl, rfl, rfl, by decide +kernel, rfl, by decide +kernel, by decide +kernel⟩
abbrev s_law_pick : Stmt := topS 52
abbrev n_law_pick : List Str := ["_law_row", "_law_things"]
theorem sc_law_pick : FnScope ["_law_row", "_law_things"] ["_law_row", "_law_things"] (defScope s_law_pick) := ⟨rfl, rfl, rfl, by decide +kernel, rfl, by decide +kernel, by decide +kernel⟩
abbrev s_law_alike : Stmt := topS 53
abbrev n_law_alike : List Str := ["_law_found", "_law_due", "_law_k"]
theorem sc_law_alike : FnScope ["_law_found", "_law_due", "_law_k"] ["_law_found", "_law_due"] (defScope s_law_alike) := ⟨rfl, rfl, rfl, by decide +kernel, rfl, by decide +kernel, by decide +kernel⟩
abbrev s_law_state : Stmt := topS 54
abbrev n_law_state : List Str := ["_law_row", "_law_most", "_law_stones", "_law_state_here", "_law_at", "_law_still", "_law_unit"]
theorem sc_law_state : FnScope ["_law_row", "_law_most", "_law_stones", "_law_state_here", "_law_at", "_law_still", "_law_unit"] ["_law_row", "_law_most"] (defScope s_law_state) := ⟨rfl, rfl, rfl, by decide +kernel, rfl, by decide +kernel, by decide +kernel⟩
abbrev s_law_walk : Stmt := topS 55
abbrev n_law_walk : List Str := ["_law_row", "_law_state_here", "_law_most", "_law_turn", "_law_left", "_law_middle", "_law_right"]
theorem sc_law_walk : FnScope ["_law_row", "_law_state_here", "_law_most", "_law_turn", "_law_left", "_law_middle", "_law_right"] ["_law_row", "_law_state_here", "_law_most"] (defScope s_law_walk) := ⟨rfl, rfl, rfl, by decide +kernel, rfl, by decide +kernel, by decide +kernel⟩
abbrev s_law_order : Stmt := topS 56
abbrev n_law_order : List Str := ["_law_state_here", "_law_place", "_law_stone"]
theorem sc_law_order : FnScope ["_law_state_here", "_law_place", "_law_stone"] ["_law_state_here"] (defScope s_law_order) := ⟨rfl, rfl, rfl, by decide +kernel, rfl, by decide +kernel, by decide +kernel⟩
abbrev s_law_leapt : Stmt := topS 57
abbrev n_law_leapt : List Str := ["_law_state_here", "_law_stone", "_law_over", "_law_found"]
theorem sc_law_leapt : FnScope ["_law_state_here", "_law_stone", "_law_over", "_law_found"] ["_law_state_here", "_law_stone", "_law_over"] (defScope s_law_leapt) := ⟨rfl, rfl, rfl, by decide +kernel, rfl, by decide +kernel, by decide +kernel⟩
abbrev s_law_leaps : Stmt := topS 58
abbrev n_law_leaps : List Str := ["_law_state_here", "_law_found", "_law_stone", "_law_over", "_law_third", "_law_there", "_law_low", "_law_high"]
theorem sc_law_leaps : FnScope ["_law_state_here", "_law_found", "_law_stone", "_law_over", "_law_third", "_law_there", "_law_low", "_law_high"] ["_law_state_here"] (defScope s_law_leaps) := ⟨rfl, rfl, rfl, by decide +kernel, rfl, by decide +kernel, by decide +kernel⟩
abbrev s_law_inward : Stmt := topS 59
abbrev n_law_inward : List Str := ["_law_state_here", "_law_left", "_law_middle", "_law_right", "_law_one", "_law_other"]
theorem sc_law_inward : FnScope ["_law_state_here", "_law_left", "_law_middle", "_law_right", "_law_one", "_law_other"] ["_law_state_here"] (defScope s_law_inward) := ⟨rfl, rfl, rfl, by decide +kernel, rfl, by decide +kernel, by decide +kernel⟩
abbrev s_law_line : Stmt := topS 60
abbrev n_law_line : List Str := ["_law_state_here", "_law_found"]
theorem sc_law_line : FnScope ["_law_state_here", "_law_found"] ["_law_state_here"] (defScope s_law_line) := ⟨rfl, rfl, rfl, by decide +kernel, rfl, by decide +kernel, by decide +kernel⟩
abbrev s_law_behind : Stmt := topS 61
abbrev n_law_behind : List Str := ["_law_state_here", "_law_leaps_here", "_law_found", "_law_turn", "_law_later", "_law_here", "_law_left", "_law_middle", "_law_right"]
theorem sc_law_behind : FnScope ["_law_state_here", "_law_leaps_here", "_law_found", "_law_turn", "_law_later", "_law_here", "_law_left", "_law_middle", "_law_right"] ["_law_state_here", "_law_leaps_here"] (defScope s_law_behind) := ⟨rfl, rfl, rfl, by decide +kernel, rfl, by decide +kernel, by decide +kernel⟩
abbrev s_law_field : Stmt := topS 62
abbrev n_law_field : List Str := ["_law_state_here", "_law_shuts_here", "_law_found", "_law_at", "_law_there"]
theorem sc_law_field : FnScope ["_law_state_here", "_law_shuts_here", "_law_found", "_law_at", "_law_there"] ["_law_state_here", "_law_shuts_here"] (defScope s_law_field) := ⟨rfl, rfl, rfl, by decide +kernel, rfl, by decide +kernel, by decide +kernel⟩
abbrev s_law_shuts : Stmt := topS 63
abbrev n_law_shuts : List Str := ["_law_row", "_law_state_here", "_law_most"]
theorem sc_law_shuts : FnScope ["_law_row", "_law_state_here", "_law_most"] ["_law_row", "_law_state_here", "_law_most"] (defScope s_law_shuts) := ⟨rfl, rfl, rfl, by decide +kernel, rfl, by decide +kernel, by decide +kernel⟩
abbrev s_law_common : Stmt := topS 64
abbrev n_law_common : List Str := ["_law_one", "_law_other"]
theorem sc_law_common : FnScope ["_law_one", "_law_other"] ["_law_one", "_law_other"] (defScope s_law_common) := ⟨rfl, rfl, rfl, by decide +kernel, rfl, by decide +kernel, by decide +kernel⟩
abbrev s_law_pair : Stmt := topS 65
abbrev n_law_pair : List Str := ["_law_state_here", "_law_left", "_law_middle", "_law_right", "_law_unit", "_law_still"]
theorem sc_law_pair : FnScope ["_law_state_here", "_law_left", "_law_middle", "_law_right", "_law_unit", "_law_still"] ["_law_state_here"] (defScope s_law_pair) := ⟨rfl, rfl, rfl, by decide +kernel, rfl, by decide +kernel, by decide +kernel⟩
abbrev s_law : Stmt := topS 66
abbrev n_law : List Str := ["_law_script", "_law_row", "_law_state_here", "_law_shuts_here", "_law_field_here", "_law_lines", "_law_here", "_law_behind_here", "_law_whole", "_law_other", "_law_stone", "_law_over", "_law_there", "_law_deep", "_law_many"]
theorem sc_law : FnScope ["_law_script", "_law_row", "_law_state_here", "_law_shuts_here", "_law_field_here", "_law_lines", "_law_here", "_law_behind_here", "_law_whole", "_law_other", "_law_stone", "_law_over", "_law_there", "_law_deep", "_law_many"] ["_law_script"] (defScope s_law) := ⟨rfl, rfl, rfl, by decide +kernel, rfl, by decide +kernel, by decide +kernel⟩
end LR

/-! What the top has written; a def's promise by its body; words of the heap. The structure Top is printed by gen_top.py. -/
namespace LR
open PySem PySem.Spec PyProof.Rows L2
/-- a def of the top -/
structure Dfn (K : PySem.W.Frag) (mg : Str → Option Value) (x : Str) (st : Stmt) (ps : List Str) : Prop where
  ex : ∃ (f : Addr) (fd : FuncData), Fun K x x st f fd ∧ mg x = some (.ref f) ∧ Binds K fd ps []
/-- a def that is called by its name, with its promise, at most so deep -/
structure Cal (P : Program) (w : World) (K : PySem.W.Frag) (mg : Str → Option Value) (base : Heap) (k : Nat) (x : Str) (sp : Sp) : Prop where
  ex : ∃ (f : Addr) (fd : FuncData) (ps : List Str), FnOk P w K mg base CX0 k f fd ps sp ∧ mg x = some (.ref f) ∧ PySem.W.keepIn K (.ref f) = true ∧ Binds K fd ps []
theorem Dfn.cal {P : Program} {w : World} {K : PySem.W.Frag} {mg : Str → Option Value} {base : Heap} {x : Str} {st : Stmt} {N ps : List Str} {k : Nat} {sp : Sp} (D : Dfn K mg x st ps) (S : FnScope N ps (defScope st)) (len : ∀ vs H Q E, sp vs H Q E → vs.length = ps.length)
    (hbody : ∀ (f : Addr) (cdv : Value) (A : Around) (outer : List Env) (s : Shared) (H : Hp) (vs : List V) (Q : VK) (E : XK), Room k (A.deeper (envOfC x (defScope st) s.heap.objs.size f cdv)) → sp vs H Q E →
      ∃ t, PSs (cxOf CX0 P w K mg base N x (defScope st) f cdv A outer s H E).nox (defBody st) t ∧ t { nx := fun _ H' => Q .non H', rt := Q } (start N vs) H) : Cal P w K mg base (k + 1) x sp := by
  obtain ⟨f, fd, F, hm, b⟩ := D.ex
  exact ⟨f, fd, ps, F.ok S len (hbody f), hm, F.kp, b⟩
/-- f(e, ..) -/
def tCl (sp : Sp) (t : TA) : TE := fun σ H Q => t σ H fun vs H1 => sp vs H1 Q E0
theorem pe_c {X : Cx} {k j : Nat} {x : Str} {sp : Sp} {p pos : Pos} {e : Expr} {es : List Expr} {t : TA} (c : Cal X.prog X.w X.K X.mg X.base k x sp) (hr : Room j X.A) (hk : k ≤ j) (hg : Gl X x) (ha : PA X (e :: es) t)
    (hdb : (x == ("__debug__" : Str)) = false := by decide) (he : starEach (e :: es) X.env = (false, eval e X.env) :: starEach es X.env := by rfl) (hpl : (backTo pos (starEach es X.env)).any (·.1) = false := by rfl) :
    PE X (.Call (.Name x p) (e :: es) [] pos) (tCl sp t) := by
  obtain ⟨f, fd, ps, F, hm, kp, b⟩ := c.ex
  have h : PE X (.Call (.Name x p) (e :: es) [] pos) (tCall sp [] E0 t) := pe_call F (hr.mono hk) hg hm kp b .nil pass0 ha hdb he hpl
  have e1 : tCl sp t = tCall sp [] E0 t := by
    unfold tCl tCall
    simp only [List.append_nil]
  rw [e1]
  exact h
structure Top (K : PySem.W.Frag) (mg : Str → Option Value) : Prop where
  z_isinstance : mg "isinstance" = none
  z_int : mg "int" = none
  z_bool : mg "bool" = none
  z_tuple : mg "tuple" = none
  z_len : mg "len" = none
  z_all : mg "all" = none
  z_sorted : mg "sorted" = none
  z_enumerate : mg "enumerate" = none
  z_abs : mg "abs" = none
  z_list : mg "list" = none
  z_min : mg "min" = none
  z_max : mg "max" = none
  z_range : mg "range" = none
  z_sum : mg "sum" = none
  z_str : mg "str" = none
  g_MP : ∃ u, mg "MOST_PLACE" = some u ∧ RelV (.int (10 ^ 18)) u
  g_ST : ∃ u, mg "STONES" = some u ∧ RelV (.int 3) u
  g_MS : ∃ u, mg "MOST_SIDE" = some u ∧ RelV (.int (10 ^ 5)) u
  g_MF : ∃ u, mg "MOST_FIELD" = some u ∧ RelV (.int 20000) u
  d_is_int : Dfn K mg "is_int" s_is_int ["value"]
  d_is_in : Dfn K mg "is_in" s_is_in ["value", "least", "most"]
  d_is_state : Dfn K mg "is_state" s_is_state ["value"]
  d_need_state : Dfn K mg "need_state" s_need_state ["value"]
  d_order_of : Dfn K mg "order_of" s_order_of ["state"]
  d_common : Dfn K mg "common" s_common ["one", "other"]
  d_gaps_of : Dfn K mg "gaps_of" s_gaps_of ["state"]
  d_middle_of : Dfn K mg "middle_of" s_middle_of ["state"]
  d_grain_of : Dfn K mg "grain_of" s_grain_of ["state"]
  d_pair_of : Dfn K mg "pair_of" s_pair_of ["state"]
  d_leaps_of : Dfn K mg "leaps_of" s_leaps_of ["state"]
  d_leapt_to : Dfn K mg "leapt_to" s_leapt_to ["state", "stone", "over"]
  d_need_leap : Dfn K mg "need_leap" s_need_leap ["state", "stone", "over"]
  d_runs_of : Dfn K mg "runs_of" s_runs_of ["state"]
  d_order_behind : Dfn K mg "order_behind" s_order_behind ["order", "sign", "times"]
  d_begin_order : Dfn K mg "begin_order" s_begin_order ["state"]
  d_is_same : Dfn K mg "is_same" s_is_same ["one", "other"]
  d_are_walls : Dfn K mg "are_walls" s_are_walls ["value"]
  d_need_walls : Dfn K mg "need_walls" s_need_walls ["state", "value"]
  d_box_of : Dfn K mg "box_of" s_box_of ["state", "walls"]
  d_mobius : Dfn K mg "mobius" s_mobius ["most"]
  d_chosen_pairs : Dfn K mg "chosen_pairs" s_chosen_pairs ["wide", "high"]
  d_need_box : Dfn K mg "need_box" s_need_box ["state", "walls", "most"]
  d_pairs_within : Dfn K mg "pairs_within" s_pairs_within ["wide", "high"]
  d_need_field : Dfn K mg "need_field" s_need_field ["state", "walls", "most"]
  d_parent_of : Dfn K mg "parent_of" s_parent_of ["pair"]
  d_heights_of : Dfn K mg "heights_of" s_heights_of ["pairs"]
  d_max_low : Dfn K mg "max_low" s_max_low ["one", "other"]
  d_need_two : Dfn K mg "need_two" s_need_two ["one", "other"]
  d_behind_within : Dfn K mg "behind_within" s_behind_within ["state", "walls"]
  d_ways_over : Dfn K mg "ways_over" s_ways_over ["state", "stone", "over", "walls"]
  d_leaps_inside : Dfn K mg "leaps_inside" s_leaps_inside ["state", "walls"]
  d_sizes_of : Dfn K mg "sizes_of" s_sizes_of ["pairs"]
  d_is_behind : Dfn K mg "is_behind" s_is_behind ["one", "other"]
  d_law_taken : Dfn K mg "_law_taken" s_law_taken ["_law_row", "_law_many"]
  d_law_pick : Dfn K mg "_law_pick" s_law_pick ["_law_row", "_law_things"]
  d_law_alike : Dfn K mg "_law_alike" s_law_alike ["_law_found", "_law_due"]
  d_law_state : Dfn K mg "_law_state" s_law_state ["_law_row", "_law_most"]
  d_law_walk : Dfn K mg "_law_walk" s_law_walk ["_law_row", "_law_state_here", "_law_most"]
  d_law_order : Dfn K mg "_law_order" s_law_order ["_law_state_here"]
  d_law_leapt : Dfn K mg "_law_leapt" s_law_leapt ["_law_state_here", "_law_stone", "_law_over"]
  d_law_leaps : Dfn K mg "_law_leaps" s_law_leaps ["_law_state_here"]
  d_law_inward : Dfn K mg "_law_inward" s_law_inward ["_law_state_here"]
  d_law_line : Dfn K mg "_law_line" s_law_line ["_law_state_here"]
  d_law_behind : Dfn K mg "_law_behind" s_law_behind ["_law_state_here", "_law_leaps_here"]
  d_law_field : Dfn K mg "_law_field" s_law_field ["_law_state_here", "_law_shuts_here"]
  d_law_shuts : Dfn K mg "_law_shuts" s_law_shuts ["_law_row", "_law_state_here", "_law_most"]
  d_law_common : Dfn K mg "_law_common" s_law_common ["_law_one", "_law_other"]
  d_law_pair : Dfn K mg "_law_pair" s_law_pair ["_law_state_here"]

/-! ### the heap -/
/-- a tuple of ints -/
def IT (H : Hp) (t : Addr) (ns : List Int) : Prop := H t = some (.tup (ns.map V.int))
theorem Same.new {H : Hp} {p : Addr} {o : HO} (h : H p = none) : Same H (upd H p o) := fun b x e => by
  rw [upd_ne (ne_of_none e h)]
  exact e
/-- what happens to an object that was not there at first does not count -/
theorem Same.wr {H H1 : Hp} {p : Addr} {o : HO} (s : Same H H1) (h : H p = none) : Same H (upd H1 p o) := fun b x e => by
  rw [upd_ne (ne_of_none e h)]
  exact s b x e
theorem Same.mk {H H1 : Hp} {p : Addr} {o : HO} (s : Same H H1) (h : H1 p = none) : Same H (upd H1 p o) := s.trans (Same.new h)
theorem IT.mv {H H' : Hp} {t : Addr} {ns : List Int} (h : IT H t ns) (s : Same H H') : IT H' t ns := s _ _ h
theorem IT.sq {K : PySem.W.Frag} {H : Hp} {t : Addr} {ns : List Int} (h : IT H t ns) : SqT K H t (ns.map V.int) := .inl (.inl h)
theorem q_t {p : Prop} [Decidable p] {Q : VK} {H : Hp} (h : p) (q : Q (.bl true) H) : Q (.bl (decide p)) H := by
  rw [decide_eq_true h]
  exact q
theorem q_f {p : Prop} [Decidable p] {Q : VK} {H : Hp} (h : ¬ p) (q : Q (.bl false) H) : Q (.bl (decide p)) H := by
  rw [decide_eq_false h]
  exact q
theorem dT {p : Prop} [Decidable p] (h : p) : V.bl (decide p) = V.bl true := by rw [decide_eq_true h]
theorem dF {p : Prop} [Decidable p] (h : ¬ p) : V.bl (decide p) = V.bl false := by rw [decide_eq_false h]
theorem pe_gl {X : Cx} {x : Str} {v : V} {pos : Pos} (hg : Gl X x) (h : ∃ u, X.mg x = some u ∧ RelV v u) (hd : (x == ("__debug__" : Str)) = false := by decide) : PE X (.Name x pos) (tC v) := by
  obtain ⟨u, hm, r⟩ := h
  exact pe_glob hg hm r hd
theorem map_at {ns : List Int} {i : Nat} {x : V} (h : (ns.map V.int)[i]? = some x) : ∃ z, ns[i]? = some z ∧ x = .int z := by
  rw [List.getElem?_map] at h
  cases e : ns[i]? with
  | none =>
    rw [e] at h
    cases h
  | some z =>
    rw [e] at h
    exact ⟨z, rfl, (Option.some.inj h).symm⟩
theorem szl {n : Nat} (h : n ≤ 100000) : n ≤ sizeLine := Nat.le_trans h (by decide)
theorem szt {n : Nat} (h : n < 100000) : n < sizeLine := Nat.lt_of_lt_of_le h (by decide)
theorem upd_it {H : Hp} {p t : Addr} {o : HO} {ns : List Int} (h : IT H t ns) (n : H p = none) : IT (upd H p o) t ns := Same.new n _ _ h
theorem at0 {α : Type} {x : α} {r : List α} : (x :: r)[0]? = some x := rfl
theorem at1 {α : Type} {x y : α} {r : List α} : (x :: y :: r)[1]? = some y := rfl
theorem at2 {α : Type} {x y z : α} {r : List α} : (x :: y :: z :: r)[2]? = some z := rfl
end LR

/-! Lists of tuples of ints in the heap; pairs sorted. -/
namespace LR
open PySem PySem.Spec PyProof.Rows L2
/-- tuples stay -/
def TK (H H' : Hp) : Prop := ∀ t xs, H t = some (.tup xs) → H' t = some (.tup xs)
theorem TK.refl (H : Hp) : TK H H := fun _ _ h => h
theorem TK.trans {H H1 H2 : Hp} (a : TK H H1) (b : TK H1 H2) : TK H H2 := fun t xs h => b t xs (a t xs h)
theorem Same.tk {H H' : Hp} (s : Same H H') : TK H H' := fun t xs h => s t _ h
theorem TK.new {H : Hp} {p : Addr} {o : HO} (h : H p = none) : TK H (upd H p o) := Same.tk (Same.new h)
theorem TK.lst {H : Hp} {p : Addr} {o : HO} {xs : List V} (h : H p = some (.lst xs)) : TK H (upd H p o) := fun t ys e => by
  rw [upd_ne (ne_of e h (by intro q; cases q))]
  exact e
theorem TK.dct {H : Hp} {p : Addr} {o : HO} {xs : List (List Key × V)} (h : H p = some (.dT xs)) : TK H (upd H p o) := fun t ys e => by
  rw [upd_ne (ne_of e h (by intro q; cases q))]
  exact e
theorem IT.tk {H H' : Hp} {t : Addr} {ns : List Int} (h : IT H t ns) (k : TK H H') : IT H' t ns := k _ _ h
/-- a list's items are tuples of ints -/
def Tps (H : Hp) : List V → List (List Int) → Prop
  | [], [] => True
  | v :: vs, n :: ns => (∃ t, v = .ref t ∧ IT H t n) ∧ Tps H vs ns
  | _, _ => False
theorem Tps.tk {H H' : Hp} (k : TK H H') : ∀ {vs : List V} {ns : List (List Int)}, Tps H vs ns → Tps H' vs ns
  | [], [], _ => trivial
  | _ :: _, _ :: _, ⟨⟨t, e, h⟩, r⟩ => ⟨⟨t, e, h.tk k⟩, Tps.tk k r⟩
  | [], _ :: _, h => h.elim
  | _ :: _, [], h => h.elim
theorem Tps.len {H : Hp} : ∀ {vs : List V} {ns : List (List Int)}, Tps H vs ns → vs.length = ns.length
  | [], [], _ => rfl
  | _ :: vs, _ :: ns, h => congrArg (· + 1) (Tps.len (vs := vs) (ns := ns) h.2)
  | [], _ :: _, h => h.elim
  | _ :: _, [], h => h.elim
theorem Tps.app {H : Hp} : ∀ {vs ws : List V} {ns ms : List (List Int)}, Tps H vs ns → Tps H ws ms → Tps H (vs ++ ws) (ns ++ ms)
  | [], _, [], _, _, h => h
  | _ :: _, _, _ :: _, _, ⟨a, r⟩, h => ⟨a, Tps.app r h⟩
  | [], _, _ :: _, _, h, _ => h.elim
  | _ :: _, _, [], _, h, _ => h.elim
theorem Tps.one {H : Hp} {t : Addr} {n : List Int} (h : IT H t n) : Tps H [.ref t] [n] := ⟨⟨t, rfl, h⟩, trivial⟩
theorem Tps.snoc {H : Hp} {vs : List V} {ns : List (List Int)} {t : Addr} {n : List Int} (h : Tps H vs ns) (h1 : IT H t n) : Tps H (vs ++ [.ref t]) (ns ++ [n]) := h.app (.one h1)
theorem Tps.get {H : Hp} : ∀ {vs : List V} {ns : List (List Int)}, Tps H vs ns → ∀ {i : Nat} {v : V}, vs[i]? = some v → ∃ t n, v = .ref t ∧ ns[i]? = some n ∧ IT H t n
  | [], _, _, _, _, h => by simp at h
  | _ :: _, _ :: _, ⟨⟨t, e, h⟩, _⟩, 0, v, q => by
    have q' := Option.some.inj q
    subst q'
    exact ⟨t, _, e, rfl, h⟩
  | _ :: vs, _ :: ns, ⟨_, r⟩, i + 1, v, q => by
    obtain ⟨t, n, a, b, c⟩ := Tps.get (vs := vs) (ns := ns) r (i := i) (v := v) (by simpa using q)
    exact ⟨t, n, a, by simpa using b, c⟩
  | _ :: _, [], h, _, _, _ => h.elim
theorem Tps.get' {H : Hp} : ∀ {vs : List V} {ns : List (List Int)}, Tps H vs ns → ∀ {i : Nat} {n : List Int}, ns[i]? = some n → ∃ t, vs[i]? = some (.ref t) ∧ IT H t n
  | _, [], _, _, _, h => by simp at h
  | _ :: _, _ :: _, ⟨⟨t, e, h⟩, _⟩, 0, n, q => by
    have q' := Option.some.inj q
    subst q'
    exact ⟨t, by rw [e]; rfl, h⟩
  | _ :: vs, _ :: ns, ⟨_, r⟩, i + 1, n, q => by
    obtain ⟨t, a, c⟩ := Tps.get' (vs := vs) (ns := ns) r (i := i) (n := n) (by simpa using q)
    exact ⟨t, by simpa using a, c⟩
  | [], _ :: _, h, _, _, _ => h.elim
theorem Tps.mem {H : Hp} {vs : List V} {ns : List (List Int)} (h : Tps H vs ns) {v : V} (hv : v ∈ vs) : ∃ t n, v = .ref t ∧ n ∈ ns ∧ IT H t n := by
  obtain ⟨i, hi, e⟩ := List.mem_iff_getElem.mp hv
  obtain ⟨t, n, a, b, c⟩ := h.get (i := i) (v := v) (by rw [List.getElem?_eq_getElem hi, e])
  exact ⟨t, n, a, List.mem_of_getElem? b, c⟩
theorem Tps.rev {H : Hp} : ∀ {vs : List V} {ns : List (List Int)}, Tps H vs ns → Tps H vs.reverse ns.reverse
  | [], [], _ => trivial
  | v :: vs, n :: ns, ⟨⟨t, e, h⟩, r⟩ => by
    rw [List.reverse_cons, List.reverse_cons, e]
    exact (Tps.rev r).snoc h
  | [], _ :: _, h => h.elim
  | _ :: _, [], h => h.elim
theorem Tps.dvs {K : PySem.W.Frag} {H : Hp} : ∀ {vs : List V} {ns : List (List Int)}, Tps H vs ns → Dvs K H vs (ns.map fun n => (PySem.W.Tup.mk n : PySem.W.Tup Int))
  | [], [], _ => dvs_nil
  | v :: vs, n :: ns, ⟨⟨t, e, h⟩, r⟩ => by
    rw [e]
    exact dvs_cons (dv_tup h.sq (dvs_ints n)) (Tps.dvs r)
  | [], _ :: _, h => h.elim
  | _ :: _, [], h => h.elim
/-! ### a pair read off the heap -/
def kOf (H : Hp) (v : V) : Int × Int :=
  match v with
  | .ref t => match H t with
    | some (.tup [.int i, .int j]) => (i, j)
    | _ => (0, 0)
  | _ => (0, 0)
theorem kOf_it {H : Hp} {t : Addr} {i j : Int} (h : IT H t [i, j]) : kOf H (.ref t) = (i, j) := by
  have h' : H t = some (.tup [.int i, .int j]) := h
  simp only [kOf, h']
def l2 (p : Int × Int) : List Int := [p.1, p.2]
theorem Tps.keys {H : Hp} : ∀ {vs : List V} {ps : List (Int × Int)}, Tps H vs (ps.map l2) → vs.map (kOf H) = ps
  | [], [], _ => rfl
  | v :: vs, p :: ps, ⟨⟨t, e, h⟩, r⟩ => by
    rw [List.map_cons, Tps.keys (vs := vs) (ps := ps) r, e, kOf_it (i := p.1) (j := p.2) h]
  | [], _ :: _, h => h.elim
  | _ :: _, [], h => h.elim
theorem Tps.pair {H : Hp} {vs : List V} {ps : List (Int × Int)} (h : Tps H vs (ps.map l2)) : ∀ x ∈ vs, ∃ t, x = V.ref t ∧ H t = some (.tup [.int (kOf H x).1, .int (kOf H x).2]) := fun x hx => by
  obtain ⟨t, n, rfl, hn, hi⟩ := h.mem hx
  obtain ⟨p, hp, rfl⟩ := List.mem_map.mp hn
  refine ⟨t, rfl, ?_⟩
  rw [kOf_it (i := p.1) (j := p.2) hi]
  exact hi
theorem Tps.of_keys {H : Hp} : ∀ {ys : List V}, (∀ x ∈ ys, ∃ t, x = V.ref t ∧ H t = some (.tup [.int (kOf H x).1, .int (kOf H x).2])) → Tps H ys ((ys.map (kOf H)).map l2)
  | [], _ => trivial
  | y :: ys, h => by
    obtain ⟨t, e, ht⟩ := h y List.mem_cons_self
    exact ⟨⟨t, e, ht⟩, Tps.of_keys fun x hx => h x (List.mem_cons_of_mem _ hx)⟩
/-- the list that sorted makes of pairs: its keys, a permutation in order by the first numbers -/
theorem sorted_keys {H : Hp} {xs ys : List V} {ps : List (Int × Int)} (h : Tps H xs (ps.map l2)) (hs : SrtO.Srtd (ltP (kOf H)) ys) (hb : SrtO.Stb (ltP (kOf H)) ys xs) :
    ∃ qs : List (Int × Int), Tps H ys (qs.map l2) ∧ qs.Perm ps ∧ qs.Pairwise fun p q => p.1 ≤ q.1 := by
  refine ⟨ys.map (kOf H), .of_keys fun x hx => h.pair x (hb.perm.mem_iff.mp hx), ?_, ?_⟩
  · have := hb.perm.map (kOf H)
    rw [h.keys] at this
    exact this
  · refine List.pairwise_map.mpr (List.Pairwise.imp (fun {a b} q => ?_) hs)
    have q' : SrtO.lexB (kOf H b) (kOf H a) = false := q
    have q2 := SrtO.lexB_no.mp q'
    omega
end LR

namespace LR
open PySem PySem.Spec PyProof.Rows L2
section
variable {P : Program} {w : World} {K : PySem.W.Frag} {mg : Str → Option Value} {base : Heap}
/-! ### is_int, is_in -/
def spIsInt : Sp := fun vs H Q _ => ∃ i : Int, vs = [.int i] ∧ Q (.bl true) H
theorem c_is_int (T : Top K mg) : Cal P w K mg base 1 "is_int" spIsInt := by
  refine T.d_is_int.cal sc_is_int (fun vs H Q E h => ?_) (fun f cdv A outer s H vs Q E hr h => ?_)
  · obtain ⟨i, rfl, _⟩ := h
    rfl
  · obtain ⟨i, rfl, q⟩ := h
    refine ⟨_, pss_one (ps_ret (pe_and (pe_callB call_isi (by rfl) T.z_isinstance (by decide +kernel) (pa_cons (pv 0) (pa_cons (pe_bltn (v := .ty "int") (by rfl) T.z_int (by decide +kernel) rfl) pa_nil)))
      (pe_one (pe_not (pe_callB call_isi (by rfl) T.z_isinstance (by decide +kernel) (pa_cons (pv 0) (pa_cons (pe_bltn (v := .ty "bool") (by rfl) T.z_bool (by decide +kernel) rfl) pa_nil))))))), ?_⟩
    refine ⟨_, rfl, _, _, _, _, _, rfl, .ty "int", .base (.int i), kit_ty (r := true) (by decide +kernel), true, rfl, iteT ?_⟩
    exact ⟨_, rfl, _, _, _, _, _, rfl, .ty "bool", .base (.int i), kit_ty (r := false) (by decide +kernel), false, rfl, q⟩
def spIsIn : Sp := fun vs H Q _ => ∃ i lo hi : Int, vs = [.int i, .int lo, .int hi] ∧ lo ≤ i ∧ i ≤ hi ∧ Q (.bl true) H
theorem c_is_in (T : Top K mg) : Cal P w K mg base 2 "is_in" spIsIn := by
  refine T.d_is_in.cal sc_is_in (fun vs H Q E h => ?_) (fun f cdv A outer s H vs Q E hr h => ?_)
  · obtain ⟨i, lo, hi, rfl, _⟩ := h
    rfl
  · obtain ⟨i, lo, hi, rfl, h1, h2, q⟩ := h
    refine ⟨_, pss_one (ps_ret (pe_and (pe_c (c_is_int T) hr (by decide) (by rfl) (pa_cons (pv 0) pa_nil)) (pe_one (pe_chain op_le op_le (pv 1) (pv 0) (pv 2))))), ?_⟩
    refine ⟨_, rfl, i, rfl, true, rfl, iteT ?_⟩
    refine ⟨_, rfl, _, rfl, lo, i, rfl, rfl, true, dT h1, iteT ?_⟩
    exact ⟨_, rfl, i, hi, rfl, rfl, q_t h2 q⟩
/-! ### is_state, need_state -/
def spIsState : Sp := fun vs H Q _ => ∃ (t : Addr) (ns : List Int), vs = [.ref t] ∧ IT H t ns ∧ ns.length = 3 ∧ (∀ n ∈ ns, -(10 ^ 18) ≤ n ∧ n ≤ 10 ^ 18) ∧ ns.Nodup ∧ ∀ H', Same H H' → Q (.bl true) H'
theorem all_rep : ∀ n : Nat, (List.replicate n true).all id = true
  | 0 => rfl
  | n + 1 => by
    rw [List.replicate_succ, List.all_cons, all_rep n]
    rfl
theorem c_is_state (T : Top K mg) : Cal P w K mg base 3 "is_state" spIsState := by
  refine T.d_is_state.cal sc_is_state (fun vs H Q E h => ?_) (fun f cdv A outer s H vs Q E hr h => ?_)
  · obtain ⟨t, ns, rfl, _⟩ := h
    rfl
  · obtain ⟨t, ns, rfl, ht, hl, hb, hn, q⟩ := h
    refine ⟨_, pss_cons (ps_if (PW.pt (pw_or (pt_not (pt_val (pe_callB call_isi (by rfl) T.z_isinstance (by decide +kernel) (pa_cons (pv 0) (pa_cons (pe_bltn (v := .ty "tuple") (by rfl) T.z_tuple (by decide +kernel) rfl) pa_nil)))))
        (pw_or1 (pt_cmpR op_ne (pe_callB call_len_seq (by rfl) T.z_len PySem.boot_len (pa_cons (pv 0) pa_nil)) (pe_gl (by rfl) T.g_ST) (nomark _))))) (pss_one (ps_ret pe_bl)) pss_nil)
      (pss_cons (ps_if (pt_not (pt_val (pe_callB (cr_all rfl) (by rfl) T.z_all (by decide +kernel) (pa_cons
          (pe_lc (own := [("place", 1)]) (g := gName 1) (tt := tYes) rfl sc_is_state.nd (pi_tup (pv 0)) (blkOk_by (own := [("place", 1)]) (N := n_is_state) (sc := defScope s_is_state) (by decide +kernel))
            (fun _ _ _ _ _ => pg_name (i := 1) sc_is_state.nd rfl (.inl rfl)) (fun _ _ _ _ _ => pts_nil)
            (fun _ _ _ _ _ => pe_c (c_is_in T) hr (by decide) (by rfl) (pa_cons (pv 1) (pa_cons (pe_un un_neg (pe_gl (by rfl) T.g_MP)) (pa_cons (pe_gl (by rfl) T.g_MP) pa_nil))))) pa_nil)))) (pss_one (ps_ret pe_bl)) pss_nil)
      (pss_one (ps_ret (pe_cmpR op_eq (pe_callB call_lenD (by rfl) T.z_len PySem.boot_len (pa_cons
          (pe_dc (own := [("place", 1)]) (g := gName 1) (tt := tYes) rfl sc_is_state.nd (pi_tup (pv 0)) (blkOk_by (own := [("place", 1)]) (N := n_is_state) (sc := defScope s_is_state) (by decide +kernel))
            (fun _ _ _ _ _ => pg_name (i := 1) sc_is_state.nd rfl (.inl rfl)) (fun _ _ _ _ _ => pts_nil) (fun _ _ _ _ _ => pv 1) (fun _ _ _ _ _ => pe_bl)) pa_nil)) (pe_gl (by rfl) T.g_ST) (nomark _))))), ?_⟩
    refine ⟨_, rfl, _, _, _, _, _, rfl, .ty "tuple", .base (.tup ht), kit_ty (r := true) (by decide +kernel), true, rfl, iteF ?_⟩
    refine ⟨_, rfl, t, _, rfl, .inr ht.sq, rfl, false, by rw [List.length_map, hl]; rfl, iteF ?_⟩
    -- all([...])
    refine ⟨_, rfl, t, rfl, ⟨_, ht.sq⟩, fun D hD => ?_⟩
    refine lc_tup (K := K) (a := t) (xs := ns.map V.int) (fun i H' => Same H H' ∧ H' D = some (.lst ((List.replicate i true).map V.bl))) ⟨Same.new hD, upd_same⟩ (fun i H' _ p => (ht.mv p.1).sq) ?_ ?_
    · rintro i x H' hx ⟨s1, hd⟩
      obtain ⟨z, hz, rfl⟩ := map_at hx
      have hzb := hb z (List.mem_of_getElem? hz)
      refine ⟨rfl, _, rfl, _, rfl, z, -(10 ^ 18), 10 ^ 18, rfl, hzb.1, hzb.2, _, hd, ?_, ?_⟩
      · have := (List.getElem?_eq_some_iff.mp hz).1
        rw [List.length_map, List.length_replicate]
        exact szt (by omega)
      · refine ⟨Same.wr s1 hD, ?_⟩
        rw [upd_same, List.replicate_succ', List.map_append]
        rfl
    · rintro H' ⟨s1, hd⟩
      refine ⟨D, _, rfl, SqL.of hd, true, ?_, iteF ?_⟩
      · rw [all_rep]
      -- len({..})
      have ht' := ht.mv s1
      refine ⟨_, rfl, t, rfl, ⟨_, ht'.sq⟩, fun D2 hD2 => ?_⟩
      refine dc_tup (K := K) (a := t) (xs := ns.map V.int) (fun i H2 => Same H H2 ∧ ∃ kvs : List (Key × V), H2 D2 = some (.dK kvs) ∧ kvs.length = i ∧ ∀ k, (valV kvs (Sum.inl k)).isSome = true ↔ k ∈ ns.take i) ⟨Same.mk s1 hD2, [], upd_same, rfl, fun k => by simp [valV_nil]⟩ (fun i H' _ p => (ht.mv p.1).sq) ?_ ?_
      · rintro i x H2 hx ⟨s2, kvs, hd2, hk, hv⟩
        obtain ⟨z, hz, rfl⟩ := map_at hx
        have hil := (List.getElem?_eq_some_iff.mp hz).1
        have hnew : valV kvs (Sum.inl z) = none := by
          cases e : valV kvs (Sum.inl z) with
          | none => rfl
          | some v =>
            have hm := (hv z).mp (by rw [e]; rfl)
            obtain ⟨j, hj, ej⟩ := List.mem_take_iff_getElem.mp hm
            have hz2 := (List.getElem?_eq_some_iff.mp hz).2
            have := (List.getElem_inj hn).mp (ej.trans hz2.symm)
            omega
        refine ⟨rfl, _, rfl, kvs, Sum.inl z, rfl, hd2, szt (by omega), Same.wr s2 (Same.free s1 hD2), putK kvs (Sum.inl z) (.bl true), upd_same, ?_, fun k => ?_⟩
        · rw [putK_new _ hnew, List.length_append, hk]
          rfl
        · rw [valV_put, List.take_add_one, hz]
          by_cases e : k = z
          · subst e
            simp
          · have e' : ¬ (Sum.inl k : Key) = Sum.inl z := fun q => e (Sum.inl.inj q)
            rw [if_neg e', hv k]
            simp [e]
      · rintro H2 ⟨s2, kvs, hd2, hk, hv⟩
        refine ⟨D2, kvs, rfl, hd2, rfl, ?_⟩
        rw [List.length_map, hl] at hk
        exact q_t (by rw [hk]; rfl) (q _ s2)
def spNeedState : Sp := fun vs H Q _ => ∃ (t : Addr) (ns : List Int), vs = [.ref t] ∧ IT H t ns ∧ ns.length = 3 ∧ (∀ n ∈ ns, -(10 ^ 18) ≤ n ∧ n ≤ 10 ^ 18) ∧ ns.Nodup ∧ ∀ H', Same H H' → Q .non H'
theorem c_need_state (T : Top K mg) : Cal P w K mg base 4 "need_state" spNeedState := by
  refine T.d_need_state.cal sc_need_state (fun vs H Q E h => ?_) (fun f cdv A outer s H vs Q E hr h => ?_)
  · obtain ⟨t, ns, rfl, _⟩ := h
    rfl
  · obtain ⟨t, ns, rfl, ht, hl, hb, hn, q⟩ := h
    refine ⟨_, pss_one (ps_if (pt_not (pt_val (pe_c (c_is_state T) hr (by decide) (by rfl) (pa_cons (pv 0) pa_nil)))) (pss_one ps_never) pss_nil), ?_⟩
    exact ⟨_, rfl, t, ns, rfl, ht, hl, hb, hn, fun H' s1 => ⟨true, rfl, iteF (q H' s1)⟩⟩
end
end LR

namespace LR
open PySem PySem.Spec PyProof.Rows L2
section
variable {P : Program} {w : World} {K : PySem.W.Frag} {mg : Str → Option Value} {base : Heap}
/-! ### order_of -/
def spOrder : Sp := fun vs H Q _ => ∃ (t : Addr) (o : O3) (x y z : Int), vs = [.ref t] ∧ IT H t (tri o x y z) ∧ isO o ∧ x < y ∧ y < z ∧
  ∀ H' p, Same H H' → IT H' p [(o.1 : Int), (o.2.1 : Int), (o.2.2 : Int)] → Q (.ref p) H'
theorem c_order_of (T : Top K mg) : Cal P w K mg base 1 "order_of" spOrder := by
  refine T.d_order_of.cal sc_order_of (fun vs H Q E h => ?_) (fun f cdv A outer s H vs Q E hr h => ?_)
  · obtain ⟨t, o, x, y, z, rfl, _⟩ := h
    rfl
  · obtain ⟨t, o, x, y, z, rfl, ht, ho, hxy, hyz, q⟩ := h
    refine ⟨_, pss_one (ps_ret (pe_callTy call_tuple_of (by rfl) T.z_tuple (by decide +kernel) (pa_cons
      (pe_lc (own := [("place", 1), ("stone", 2)]) (g := gTup K 2 (gCons (gName 1) (gCons (gName 2) gNil))) (tt := tYes) rfl sc_order_of.nd
        (pi_list (pe_callB cr_sortedPO (by rfl) T.z_sorted (by decide +kernel) (pa_cons
          (pe_lc (own := [("stone", 2), ("place", 1)]) (g := gTup K 2 (gCons (gName 2) (gCons (gName 1) gNil))) (tt := tYes) rfl sc_order_of.nd
            (pi_enumT (by rfl) T.z_enumerate (pa_cons (pv 0) pa_nil)) (blkOk_by (own := [("stone", 2), ("place", 1)]) (N := n_order_of) (sc := defScope s_order_of) (by decide +kernel))
            (fun _ _ _ _ _ => pg_tup rfl (pgs_cons (pg_name (i := 2) sc_order_of.nd rfl (.inl rfl)) (pgs_cons (pg_name (i := 1) sc_order_of.nd rfl (.inl rfl)) pgs_nil))) (fun _ _ _ _ _ => pts_nil)
            (fun _ _ _ _ _ => pe_tup (pa_cons (pv 1) (pa_cons (pv 2) pa_nil)))) pa_nil)))
        (blkOk_by (own := [("place", 1), ("stone", 2)]) (N := n_order_of) (sc := defScope s_order_of) (by decide +kernel))
        (fun _ _ _ _ _ => pg_tup rfl (pgs_cons (pg_name (i := 1) sc_order_of.nd rfl (.inl rfl)) (pgs_cons (pg_name (i := 2) sc_order_of.nd rfl (.inl rfl)) pgs_nil))) (fun _ _ _ _ _ => pts_nil)
        (fun _ _ _ _ _ => pv 2)) pa_nil))), ?_⟩
    -- [(place, stone) for stone, place in enumerate(state)]
    refine ⟨_, rfl, t, _, rfl, ht.sq, fun D hD => ?_⟩
    refine lc_enumT (K := K) (a := t) (xs := (tri o x y z).map V.int) (fun i H' => Same H H' ∧ ∃ vs, H' D = some (.lst vs) ∧ Tps H' vs (((prs o x y z).take i).map l2))
      ⟨Same.new hD, [], upd_same, trivial⟩ (fun i H' _ p => (ht.mv p.1).sq) ?_ ?_
    · rintro i v Tq H1 hv ⟨s1, vs, hd, hts⟩ hTq
      obtain ⟨n, hn, rfl⟩ := map_at hv
      have hil : i < 3 := (List.getElem?_eq_some_iff.mp hn).1
      have hpr : (prs o x y z)[i]? = some (n, (i : Int)) := by
        match i, hil, hn with
        | 0, _, hn => exact congrArg some (Prod.ext (Option.some.inj hn) rfl)
        | 1, _, hn => exact congrArg some (Prod.ext (Option.some.inj hn) rfl)
        | 2, _, hn => exact congrArg some (Prod.ext (Option.some.inj hn) rfl)
      have hDT : D ≠ Tq := ne_of_none hd hTq
      refine ⟨Tq, _, rfl, .inl (.inl upd_same), rfl, _, _, rfl, _, _, rfl, rfl, rfl, ?_⟩
      refine ⟨_, rfl, _, rfl, (by show 2 ≤ sizeLine; decide), fun p hp => ?_⟩
      have hpT : p ≠ Tq := fun e => by
        rw [e, upd_same] at hp
        cases hp
      have hDp : D ≠ p := fun e => by
        rw [← e, upd_ne hDT, hd] at hp
        cases hp
      have hD2 : upd (upd H1 Tq (.tup [.int (i : Nat), .int n])) p (.tup [.int n, .int (i : Nat)]) D = some (.lst vs) := by
        rw [upd_ne hDp, upd_ne hDT, hd]
      refine ⟨vs, hD2, szt (by rw [hts.len, List.length_map, List.length_take]; omega), Same.wr (Same.mk (Same.mk s1 hTq) hp) hD, vs ++ [.ref p], upd_same, ?_⟩
      have k1 : TK H1 (upd (upd H1 Tq (.tup [.int (i : Nat), .int n])) p (.tup [.int n, .int (i : Nat)])) := (TK.new hTq).trans (TK.new hp)
      rw [List.take_add_one, hpr, List.map_append]
      refine Tps.snoc ((hts.tk k1).tk (TK.lst hD2)) ?_
      show upd _ D _ p = _
      rw [upd_ne (Ne.symm hDp), upd_same]
      rfl
    · rintro H1 ⟨s1, vs, hd, hts⟩
      have e3 : (prs o x y z).take ((tri o x y z).map V.int).length = prs o x y z := rfl
      rw [e3] at hts
      refine ⟨D, vs, kOf H1, rfl, SqL.of hd, hts.pair, fun ys p hs hb hp => ?_⟩
      obtain ⟨qs, hq, hperm, hpw⟩ := sorted_keys hts hs hb
      have eq := prs_sort ho hxy hyz hperm hpw
      subst eq
      have s2 := Same.mk (o := .lst ys) s1 hp
      have hq2 : Tps (upd H1 p (.lst ys)) ys _ := hq.tk (TK.new hp)
      -- [stone for place, stone in ..]
      refine ⟨p, rfl, ⟨_, SqL.of upd_same⟩, fun D2 hD2 => ?_⟩
      have hpD2 : p ≠ D2 := fun e => by
        rw [← e, upd_same] at hD2
        cases hD2
      refine lc_list (K := K) (a := p) (xs := ys) (fun i H' => Same H H' ∧ H' p = some (.lst ys) ∧ Tps H' ys ([(x, (o.1 : Int)), (y, (o.2.1 : Int)), (z, (o.2.2 : Int))].map l2) ∧ H' D2 = some (.lst (([(o.1 : Int), (o.2.1 : Int), (o.2.2 : Int)].take i).map V.int)))
        ⟨Same.mk s2 hD2, by rw [upd_ne hpD2, upd_same], hq2.tk (TK.new hD2), upd_same⟩ (fun i H' _ p => SqL.of p.2.1) ?_ ?_
      · rintro i v H3 hv ⟨s3, hp3, ht3, hd3⟩
        obtain ⟨tt, n, rfl, hn, hit⟩ := ht3.get hv
        have hil : i < 3 := by
          have := (List.getElem?_eq_some_iff.mp hn).1
          exact this
        obtain ⟨a, b, rfl, hb2⟩ : ∃ a b : Int, n = [a, b] ∧ [(o.1 : Int), (o.2.1 : Int), (o.2.2 : Int)][i]? = some b := by
          match i, hil, hn with
          | 0, _, hn => exact ⟨_, _, (Option.some.inj hn).symm, rfl⟩
          | 1, _, hn => exact ⟨_, _, (Option.some.inj hn).symm, rfl⟩
          | 2, _, hn => exact ⟨_, _, (Option.some.inj hn).symm, rfl⟩
        refine ⟨tt, _, rfl, hit.sq, rfl, _, _, rfl, _, _, rfl, rfl, rfl, ?_⟩
        refine ⟨_, rfl, _, hd3, szt (by rw [List.length_map, List.length_take]; omega), Same.wr s3 (Same.free s2 hD2), by rw [upd_ne hpD2, hp3], ht3.tk (TK.lst hd3), ?_⟩
        rw [upd_same, List.take_add_one, hb2, List.map_append]
        rfl
      · rintro H3 ⟨s3, hp3, ht3, hd3⟩
        have e4 : ([(o.1 : Int), (o.2.1 : Int), (o.2.2 : Int)].take ys.length) = [(o.1 : Int), (o.2.1 : Int), (o.2.2 : Int)] := by
          rw [ht3.len]
          rfl
        rw [e4] at hd3
        refine ⟨D2, _, rfl, .inl ⟨SqL.of hd3, fun l hl => ?_⟩⟩
        exact q _ l (Same.mk s3 hl) upd_same
end
end LR

namespace LR
open PySem PySem.Spec PyProof.Rows L2
theorem iteNT {c A B : Prop} [Decidable c] (hc : ¬ c) (h : A) : if (!decide c) = true then A else B := by
  rw [decide_eq_false hc]
  exact iteT h
theorem iteD {c A B : Prop} [Decidable c] (hc : c) (h : A) : if decide c = true then A else B := by
  rw [decide_eq_true hc]
  exact iteT h
theorem iteE {c A B : Prop} [Decidable c] (hc : ¬ c) (h : B) : if decide c = true then A else B := by
  rw [decide_eq_false hc]
  exact iteF h
theorem gcd_turn {a b : Int} (ha : 0 ≤ a) (hb : 0 ≤ b) : Int.gcd b (a % b) = Int.gcd a b := by
  obtain ⟨m, rfl⟩ := Int.eq_ofNat_of_zero_le ha
  obtain ⟨n, rfl⟩ := Int.eq_ofNat_of_zero_le hb
  show Nat.gcd n (m % n) = Nat.gcd m n
  rw [Nat.gcd_comm, ← Nat.gcd_rec, Nat.gcd_comm]
section
variable {P : Program} {w : World} {K : PySem.W.Frag} {mg : Str → Option Value} {base : Heap}
/-! ### common -/
def spCommon : Sp := fun vs H Q _ => ∃ x y : Int, vs = [.int x, .int y] ∧ 0 ≤ x ∧ 0 ≤ y ∧ Q (.int (Int.gcd x y : Int)) H
theorem c_common (T : Top K mg) : Cal P w K mg base 1 "common" spCommon := by
  refine T.d_common.cal sc_common (fun vs H Q E h => ?_) (fun f cdv A outer s H vs Q E hr h => ?_)
  · obtain ⟨x, y, rfl, _⟩ := h
    rfl
  · obtain ⟨x, y, rfl, hx, hy, q⟩ := h
    refine ⟨_, pss_cons (ps_while PassesOwn.never (pt_cmpR op_ne (pv 1) pe_int (nomark _)) (pss_one (ps_par (i := 0) (j := 1) (by rfl) sc_common.nd rfl rfl (by decide) rfl rfl (pa_cons (pv 1) (pa_cons (pe_op op_mod (pv 0) (pv 1)) pa_nil)) (by rfl))))
      (pss_one (ps_ret (pe_callB call_abs (by rfl) T.z_abs (by decide +kernel) (pa_cons (pv 0) pa_nil)))), ?_⟩
    refine ⟨fun m σ H' => H' = H ∧ ∃ a b : Int, σ = [some (.int a), some (.int b)] ∧ 0 ≤ a ∧ 0 ≤ b ∧ Int.gcd a b = Int.gcd x y ∧ m = b.toNat, ⟨_, rfl, x, y, rfl, hx, hy, rfl, rfl⟩, ?_⟩
    rintro m σ H' ⟨rfl, a, b, rfl, ha, hb, hg, rfl⟩
    refine ⟨_, rfl, rfl, _, rfl, ?_⟩
    by_cases h0 : b = 0
    · subst h0
      refine iteNS rfl ?_
      refine ⟨_, rfl, a, rfl, ?_⟩
      have e : (if a < 0 then -a else a) = (Int.gcd x y : Int) := by
        rw [← hg, Int.gcd_zero_right, if_neg (by omega)]
        omega
      show Q (.int (if a < 0 then -a else a)) _
      rw [e]
      exact q
    · refine iteNT (fun e => h0 (V.int.inj e)) ?_
      refine ⟨fun σ' H2 => H2 = H' ∧ σ' = [some (.int b), some (.int (a % b))], ?_, ?_⟩
      · rintro σ' H2 ⟨rfl, rfl⟩
        have h1 := Int.emod_nonneg a h0
        have h2 := Int.emod_lt_of_pos a (show 0 < b by omega)
        exact ⟨(a % b).toNat, by omega, rfl, b, a % b, rfl, hb, h1, by rw [gcd_turn ha hb]; exact hg, rfl⟩
      · exact ⟨_, rfl, _, rfl, _, rfl, a, b, rfl, rfl, by omega, _, _, rfl, rfl, rfl⟩
/-! ### gaps_of, middle_of, grain_of, pair_of -/
def spGaps : Sp := fun vs H Q _ => ∃ (t : Addr) (o : O3) (x y z : Int), vs = [.ref t] ∧ IT H t (tri o x y z) ∧ isO o ∧ x < y ∧ y < z ∧
  ∀ H' p, Same H H' → IT H' p [y - x, z - y] → Q (.ref p) H'
theorem c_gaps_of (T : Top K mg) : Cal P w K mg base 1 "gaps_of" spGaps := by
  refine T.d_gaps_of.cal sc_gaps_of (fun vs H Q E h => ?_) (fun f cdv A outer s H vs Q E hr h => ?_)
  · obtain ⟨t, o, x, y, z, rfl, _⟩ := h
    rfl
  · obtain ⟨t, o, x, y, z, rfl, ht, ho, hxy, hyz, q⟩ := h
    refine ⟨_, pss_cons (ps_asg (pe_callB cr_sortedT3 (by rfl) T.z_sorted (by decide +kernel) (pa_cons (pv 0) pa_nil))
        (pg_unl (n := 3) rfl (pgs_cons (pg_name (i := 1) sc_gaps_of.nd rfl (.inl rfl)) (pgs_cons (pg_name (i := 2) sc_gaps_of.nd rfl (.inl rfl)) (pgs_cons (pg_name (i := 3) sc_gaps_of.nd rfl (.inl rfl)) pgs_nil)))))
      (pss_one (ps_ret (pe_tup (pa_cons (pe_op op_sub (pv 2) (pv 1)) (pa_cons (pe_op op_sub (pv 3) (pv 2)) pa_nil))))), ?_⟩
    refine ⟨_, rfl, t, _, rfl, ht.sq, fun ns' p hp hs np => ?_⟩
    have e := tri_sort ho (by omega) (by omega) hp hs
    subst e
    refine ⟨p, _, rfl, SqL.of upd_same, rfl, _, _, rfl, _, _, rfl, _, _, rfl, rfl, ?_⟩
    refine ⟨_, rfl, _, rfl, _, _, rfl, rfl, _, rfl, _, rfl, _, _, rfl, rfl, (by show 2 ≤ sizeLine; decide), fun p2 hp2 => ?_⟩
    exact q _ p2 (Same.mk (Same.new np) hp2) upd_same
def spMiddle : Sp := fun vs H Q _ => ∃ (t : Addr) (o : O3) (x y z : Int), vs = [.ref t] ∧ IT H t (tri o x y z) ∧ isO o ∧ x < y ∧ y < z ∧ ∀ H', Same H H' → Q (.int (x + z - y)) H'
theorem c_middle_of (T : Top K mg) : Cal P w K mg base 1 "middle_of" spMiddle := by
  refine T.d_middle_of.cal sc_middle_of (fun vs H Q E h => ?_) (fun f cdv A outer s H vs Q E hr h => ?_)
  · obtain ⟨t, o, x, y, z, rfl, _⟩ := h
    rfl
  · obtain ⟨t, o, x, y, z, rfl, ht, ho, hxy, hyz, q⟩ := h
    refine ⟨_, pss_cons (ps_asg (pe_callB cr_sortedT3 (by rfl) T.z_sorted (by decide +kernel) (pa_cons (pv 0) pa_nil))
        (pg_unl (n := 3) rfl (pgs_cons (pg_name (i := 1) sc_middle_of.nd rfl (.inl rfl)) (pgs_cons (pg_name (i := 2) sc_middle_of.nd rfl (.inl rfl)) (pgs_cons (pg_name (i := 3) sc_middle_of.nd rfl (.inl rfl)) pgs_nil)))))
      (pss_one (ps_ret (pe_op op_sub (pe_op op_add (pv 1) (pv 3)) (pv 2)))), ?_⟩
    refine ⟨_, rfl, t, _, rfl, ht.sq, fun ns' p hp hs np => ?_⟩
    have e := tri_sort ho (by omega) (by omega) hp hs
    subst e
    refine ⟨p, _, rfl, SqL.of upd_same, rfl, _, _, rfl, _, _, rfl, _, _, rfl, rfl, ?_⟩
    exact ⟨_, rfl, _, rfl, _, _, rfl, rfl, _, rfl, _, _, rfl, rfl, q _ (Same.new np)⟩
def spGrain : Sp := fun vs H Q _ => ∃ (t : Addr) (o : O3) (x y z : Int), vs = [.ref t] ∧ IT H t (tri o x y z) ∧ isO o ∧ x < y ∧ y < z ∧ ∀ H', Same H H' → Q (.int (Int.gcd (y - x) (z - y) : Int)) H'
theorem c_grain_of (T : Top K mg) : Cal P w K mg base 2 "grain_of" spGrain := by
  refine T.d_grain_of.cal sc_grain_of (fun vs H Q E h => ?_) (fun f cdv A outer s H vs Q E hr h => ?_)
  · obtain ⟨t, o, x, y, z, rfl, _⟩ := h
    rfl
  · obtain ⟨t, o, x, y, z, rfl, ht, ho, hxy, hyz, q⟩ := h
    refine ⟨_, pss_cons (ps_asg (pe_c (c_gaps_of T) hr (by decide) (by rfl) (pa_cons (pv 0) pa_nil))
        (pg_tup (n := 2) rfl (pgs_cons (pg_name (i := 1) sc_grain_of.nd rfl (.inl rfl)) (pgs_cons (pg_name (i := 2) sc_grain_of.nd rfl (.inl rfl)) pgs_nil))))
      (pss_one (ps_ret (pe_c (c_common T) hr (by decide) (by rfl) (pa_cons (pv 1) (pa_cons (pv 2) pa_nil))))), ?_⟩
    refine ⟨_, rfl, t, o, x, y, z, rfl, ht, ho, hxy, hyz, fun H1 p s1 hp => ?_⟩
    refine ⟨p, _, rfl, hp.sq, rfl, _, _, rfl, _, _, rfl, rfl, ?_⟩
    exact ⟨_, rfl, _, rfl, _, _, rfl, by omega, by omega, q _ s1⟩
def spPair : Sp := fun vs H Q _ => ∃ (t : Addr) (o : O3) (x y z g a b : Int), vs = [.ref t] ∧ IT H t (tri o x y z) ∧ isO o ∧ x < y ∧ y < z ∧ y - x = g * a ∧ z - y = g * b ∧ 0 < g ∧ g < 1073741824 ∧ Int.gcd a b = 1 ∧
  ∀ H' p, Same H H' → IT H' p [a, b] → Q (.ref p) H'
theorem gcd_scale {g a b : Int} (hg : 0 < g) (h1 : Int.gcd a b = 1) : (Int.gcd (g * a) (g * b) : Int) = g := by
  rw [Int.gcd_mul_left, h1]
  omega
theorem c_pair_of (T : Top K mg) : Cal P w K mg base 2 "pair_of" spPair := by
  refine T.d_pair_of.cal sc_pair_of (fun vs H Q E h => ?_) (fun f cdv A outer s H vs Q E hr h => ?_)
  · obtain ⟨t, o, x, y, z, g, a, b, rfl, _⟩ := h
    rfl
  · obtain ⟨t, o, x, y, z, g, a, b, rfl, ht, ho, hxy, hyz, ea, eb, hg0, hg1, h1, q⟩ := h
    refine ⟨_, pss_cons (ps_asg (pe_c (c_gaps_of T) hr (by decide) (by rfl) (pa_cons (pv 0) pa_nil))
        (pg_tup (n := 2) rfl (pgs_cons (pg_name (i := 2) sc_pair_of.nd rfl (.inl rfl)) (pgs_cons (pg_name (i := 3) sc_pair_of.nd rfl (.inl rfl)) pgs_nil))))
      (pss_cons (ps_set (i := 1) sc_pair_of.nd rfl (.inl rfl) (pe_c (c_common T) hr (by decide) (by rfl) (pa_cons (pv 2) (pa_cons (pv 3) pa_nil))))
      (pss_one (ps_ret (pe_tup (pa_cons (pe_op op_fdiv (pv 2) (pv 1)) (pa_cons (pe_op op_fdiv (pv 3) (pv 1)) pa_nil)))))), ?_⟩
    refine ⟨_, rfl, t, o, x, y, z, rfl, ht, ho, hxy, hyz, fun H1 p s1 hp => ?_⟩
    refine ⟨p, _, rfl, hp.sq, rfl, _, _, rfl, _, _, rfl, rfl, ?_⟩
    refine ⟨_, rfl, _, rfl, _, _, rfl, by omega, by omega, ?_⟩
    have eg : (Int.gcd (y - x) (z - y) : Int) = g := by rw [ea, eb]; exact gcd_scale hg0 h1
    rw [eg, ea, eb]
    refine ⟨_, rfl, _, rfl, _, _, rfl, rfl, ⟨hg0, hg1⟩, _, rfl, _, rfl, _, _, rfl, rfl, ⟨hg0, hg1⟩, (by show 2 ≤ sizeLine; decide), fun p2 hp2 => ?_⟩
    refine q _ p2 (Same.mk s1 hp2) ?_
    have e1 : g * a / g = a := Int.mul_ediv_cancel_left a (by omega)
    have e2 : g * b / g = b := Int.mul_ediv_cancel_left b (by omega)
    show upd _ p2 (.tup [.int (g * a / g), .int (g * b / g)]) p2 = _
    rw [upd_same, e1, e2]
    rfl
end
end LR

namespace LR
open PySem PySem.Spec PyProof.Rows L2
open PySem.W (Datum DatumOrd Holds HoldAll Tup)
theorem du {k n : Nat} {A : Around} (hr : Room k A) (h : n ≤ 60) : A.units + 1 + n < cLine := by
  have := hr.un
  omega
theorem du0 {k n : Nat} {A : Around} (hr : Room k A) (h : n ≤ 60) : A.units + n < cLine := by
  have := hr.un
  omega
def lv (o : O3) : List Int := [(o.1 : Int), (o.2.1 : Int), (o.2.2 : Int)]
def leapsL (o : O3) (x y z : Int) : List (Int × Int) :=
  [((o.2.1 : Int), (o.1 : Int)), ((o.2.1 : Int), (o.2.2 : Int))] ++ (if y - x < z - y then [((o.1 : Int), (o.2.1 : Int))] else []) ++ (if z - y < y - x then [((o.2.2 : Int), (o.2.1 : Int))] else [])
section
variable {P : Program} {w : World} {K : PySem.W.Frag} {mg : Str → Option Value} {base : Heap}
/-! ### leaps_of -/
def spLeaps : Sp := fun vs H Q _ => ∃ (t : Addr) (o : O3) (x y z : Int), vs = [.ref t] ∧ IT H t (tri o x y z) ∧ isO o ∧ x < y ∧ y < z ∧
  ∀ (H' : Hp) (p : Addr) (us : List V) (ds : List (Int × Int)), Same H H' → H' p = some (.lst us) → Tps H' us (ds.map l2) → ds.Perm (leapsL o x y z) → Q (.ref p) H'
theorem c_leaps_of (T : Top K mg) : Cal P w K mg base 2 "leaps_of" spLeaps := by
  refine T.d_leaps_of.cal sc_leaps_of (fun vs H Q E h => ?_) (fun f cdv A outer s H vs Q E hr h => ?_)
  · obtain ⟨t, o, x, y, z, rfl, _⟩ := h
    rfl
  · obtain ⟨t, o, x, y, z, rfl, ht, ho, hxy, hyz, q⟩ := h
    refine ⟨_, pss_cons (ps_asg (pe_c (c_order_of T) hr (by decide) (by rfl) (pa_cons (pv 0) pa_nil))
        (pg_tup (n := 3) rfl (pgs_cons (pg_name (i := 2) sc_leaps_of.nd rfl (.inl rfl)) (pgs_cons (pg_name (i := 3) sc_leaps_of.nd rfl (.inl rfl)) (pgs_cons (pg_name (i := 4) sc_leaps_of.nd rfl (.inl rfl)) pgs_nil)))))
      (pss_cons (ps_asg (pe_c (c_gaps_of T) hr (by decide) (by rfl) (pa_cons (pv 0) pa_nil))
        (pg_tup (n := 2) rfl (pgs_cons (pg_name (i := 5) sc_leaps_of.nd rfl (.inl rfl)) (pgs_cons (pg_name (i := 6) sc_leaps_of.nd rfl (.inl rfl)) pgs_nil))))
      (pss_cons (ps_set (i := 1) sc_leaps_of.nd rfl (.inl rfl) (pe_lst (pa_cons (pe_tup (pa_cons (pv 3) (pa_cons (pv 2) pa_nil))) (pa_cons (pe_tup (pa_cons (pv 3) (pa_cons (pv 4) pa_nil))) pa_nil))))
      (pss_cons (ps_if (pt_cmpR op_lt (pv 5) (pv 6) (nomark _)) (pss_one (ps_expr (pe_bm PySem.F.plainAttrs_list PySem.F.slot_list_append PySem.F.type_list_append mt_append (pv 1) (pa_cons (pe_tup (pa_cons (pv 2) (pa_cons (pv 3) pa_nil))) pa_nil)))) pss_nil)
      (pss_cons (ps_if (pt_cmpR op_lt (pv 6) (pv 5) (nomark _)) (pss_one (ps_expr (pe_bm PySem.F.plainAttrs_list PySem.F.slot_list_append PySem.F.type_list_append mt_append (pv 1) (pa_cons (pe_tup (pa_cons (pv 4) (pa_cons (pv 3) pa_nil))) pa_nil)))) pss_nil)
      (pss_one (ps_ret (pe_callB cr_sortedPO (by rfl) T.z_sorted (by decide +kernel) (pa_cons (pv 1) pa_nil)))))))), ?_⟩
    refine ⟨_, rfl, t, o, x, y, z, rfl, ht, ho, hxy, hyz, fun H1 p1 s1 hp1 => ?_⟩
    refine ⟨p1, _, rfl, hp1.sq, rfl, _, _, rfl, _, _, rfl, _, _, rfl, rfl, ?_⟩
    refine ⟨_, rfl, t, o, x, y, z, rfl, ht.mv s1, ho, hxy, hyz, fun H2 p2 s2 hp2 => ?_⟩
    refine ⟨p2, _, rfl, hp2.sq, rfl, _, _, rfl, _, _, rfl, rfl, ?_⟩
    have s12 := Same.trans s1 s2
    refine ⟨_, rfl, _, rfl, (by show 2 ≤ sizeLine; decide), fun a1 n1 => ?_⟩
    refine ⟨_, rfl, _, rfl, (by show 2 ≤ sizeLine; decide), fun a2 n2 => ⟨(by show 2 ≤ sizeLine; decide), fun L nL => ?_⟩⟩
    have ne12 : a1 ≠ a2 := fun e => by
      rw [← e, upd_same] at n2
      cases n2
    -- the list as it stands
    have fin : ∀ (H3 : Hp) (us : List V) (ds : List (Int × Int)), Same H H3 → H3 L = some (.lst us) → Tps H3 us (ds.map l2) → ds.Perm (leapsL o x y z) →
        tRet (tCB (rSortedPO K) (tCons (tVar 1) tNil)) { nx := fun _ H' => Q .non H', rt := Q } [some (.ref t), some (.ref L), some (.int o.1), some (.int o.2.1), some (.int o.2.2), some (.int (y - x)), some (.int (z - y))] H3 := by
      intro H3 us ds s3 hL ht3 hp
      refine ⟨_, rfl, L, us, kOf H3, rfl, SqL.of hL, ht3.pair, fun ys p hs hb hn => ?_⟩
      obtain ⟨qs, hq, hperm, _⟩ := sorted_keys ht3 hs hb
      exact q _ p ys qs (Same.mk s3 hn) upd_same (hq.tk (TK.new hn)) (hperm.trans hp)
    have sL := Same.mk (o := .lst [V.ref a1, V.ref a2]) (Same.mk (Same.mk s12 n1) n2) nL
    have nL0 : H L = none := Same.free (Same.mk (Same.mk s12 n1) n2) nL
    have tL : Tps (upd (upd (upd H2 a1 (.tup [.int o.2.1, .int o.1])) a2 (.tup [.int o.2.1, .int o.2.2])) L (.lst [.ref a1, .ref a2])) [.ref a1, .ref a2] ([((o.2.1 : Int), (o.1 : Int)), ((o.2.1 : Int), (o.2.2 : Int))].map l2) := by
      refine ⟨⟨a1, rfl, ?_⟩, ⟨a2, rfl, ?_⟩, trivial⟩
      · have e1 : IT (upd H2 a1 (.tup [.int o.2.1, .int o.1])) a1 [(o.2.1 : Int), (o.1 : Int)] := upd_same
        exact (e1.tk (TK.new n2)).tk (TK.new nL)
      · have e1 : IT (upd (upd H2 a1 (.tup [.int o.2.1, .int o.1])) a2 (.tup [.int o.2.1, .int o.2.2])) a2 [(o.2.1 : Int), (o.2.2 : Int)] := upd_same
        exact e1.tk (TK.new nL)
    -- one more leap
    have more : ∀ (H3 : Hp) (us : List V) (ds : List (Int × Int)) (i j : Int) (p : Addr), Same H H3 → H3 L = some (.lst us) → Tps H3 us (ds.map l2) → us.length ≤ 10 → H3 p = none →
        let H4 := upd (upd H3 p (.tup [.int i, .int j])) L (.lst (us ++ [.ref p]))
        upd H3 p (.tup [.int i, .int j]) L = some (.lst us) ∧ Same H H4 ∧ H4 L = some (.lst (us ++ [.ref p])) ∧ Tps H4 (us ++ [.ref p]) ((ds ++ [(i, j)]).map l2) := by
      intro H3 us ds i j p s3 hL ht3 hl hp
      have hLp : L ≠ p := ne_of_none hL hp
      have hL' : upd H3 p (.tup [.int i, .int j]) L = some (.lst us) := by rw [upd_ne hLp]; exact hL
      refine ⟨hL', Same.wr (Same.mk s3 hp) nL0, upd_same, ?_⟩
      rw [List.map_append]
      refine ((ht3.tk (TK.new hp)).tk (TK.lst hL')).snoc ?_
      show upd _ L _ p = _
      rw [upd_ne (Ne.symm hLp), upd_same]
      rfl
    refine ⟨_, rfl, _, rfl, _, _, rfl, rfl, _, rfl, ?_⟩
    by_cases h1 : y - x < z - y
    · refine iteD h1 ?_
      refine ⟨_, rfl, .inl ⟨rfl, _, SqL.of upd_same⟩, _, rfl, _, rfl, (by show 2 ≤ sizeLine; decide), fun p hp => ?_⟩
      obtain ⟨m1, m2, m3, m4⟩ := more _ _ _ _ _ p sL upd_same tL (by show 2 ≤ 10; decide) hp
      refine ⟨L, _, _, rfl, rfl, m1, (by show 2 < sizeLine; decide), ?_⟩
      refine ⟨_, rfl, _, rfl, _, _, rfl, rfl, _, rfl, iteE (by omega) ?_⟩
      refine fin _ _ _ m2 m3 m4 ?_
      unfold leapsL
      rw [if_pos h1, if_neg (by omega), List.append_nil]
    · refine iteE h1 ?_
      refine ⟨_, rfl, _, rfl, _, _, rfl, rfl, _, rfl, ?_⟩
      by_cases h2 : z - y < y - x
      · refine iteD h2 ?_
        refine ⟨_, rfl, .inl ⟨rfl, _, SqL.of upd_same⟩, _, rfl, _, rfl, (by show 2 ≤ sizeLine; decide), fun p hp => ?_⟩
        obtain ⟨m1, m2, m3, m4⟩ := more _ _ _ _ _ p sL upd_same tL (by show 2 ≤ 10; decide) hp
        refine ⟨L, _, _, rfl, rfl, m1, (by show 2 < sizeLine; decide), ?_⟩
        refine fin _ _ _ m2 m3 m4 ?_
        unfold leapsL
        rw [if_neg h1, if_pos h2, List.append_nil]
      · refine iteE h2 ?_
        refine fin _ _ _ sL upd_same tL ?_
        unfold leapsL
        rw [if_neg h1, if_neg h2, List.append_nil, List.append_nil]
/-! ### leapt_to -/
def spLeapt : Sp := fun vs H Q _ => ∃ (t : Addr) (ns : List Int) (i j : Nat) (a b : Int), vs = [.ref t, .int i, .int j] ∧ IT H t ns ∧ ns[i]? = some a ∧ ns[j]? = some b ∧
  ∀ H' p, Same H H' → IT H' p (ns.set i (2 * b - a)) → Q (.ref p) H'
theorem at_map {ns : List Int} {i : Nat} {a : Int} (h : ns[i]? = some a) : atI (ns.map V.int) (i : Int) = some (.int a) := at_of (j := i) rfl (by rw [List.getElem?_map, h]; rfl)
theorem ix_map {ns : List Int} {i : Nat} {a : Int} (h : ns[i]? = some a) : ixN (ns.map V.int).length (i : Int) = some i := by
  have hlt := (List.getElem?_eq_some_iff.mp h).1
  unfold ixN
  rw [if_pos (by omega), if_pos (by rw [List.length_map]; omega)]
  rfl
theorem c_leapt_to (T : Top K mg) : Cal P w K mg base 1 "leapt_to" spLeapt := by
  refine T.d_leapt_to.cal sc_leapt_to (fun vs H Q E h => ?_) (fun f cdv A outer s H vs Q E hr h => ?_)
  · obtain ⟨t, ns, i, j, a, b, rfl, _⟩ := h
    rfl
  · obtain ⟨t, ns, i, j, a, b, rfl, ht, ha, hb, q⟩ := h
    refine ⟨_, pss_cons (ps_set (i := 3) sc_leapt_to.nd rfl (.inl rfl) (pe_callTy call_list_of (by rfl) T.z_list (by decide +kernel) (pa_cons (pv 0) pa_nil)))
      (pss_cons (ps_asg (pe_op op_sub (pe_op op_mul pe_int (pe_ix ix_tup (pv 0) (pv 2) (fun _ _ => rfl))) (pe_ix ix_tup (pv 0) (pv 1) (fun _ _ => rfl))) (pg_sub (pv 3) (pv 1) set_list))
      (pss_one (ps_ret (pe_callTy call_tuple_of (by rfl) T.z_tuple (by decide +kernel) (pa_cons (pv 3) pa_nil))))), ?_⟩
    refine ⟨_, rfl, t, _, rfl, .inr ht.sq, fun L nL => ?_⟩
    have ht' : IT (upd H L (.lst (ns.map V.int))) t ns := ht.mv (Same.new nL)
    refine ⟨_, rfl, _, rfl, t, _, _, _, rfl, rfl, ht'.sq, at_map hb, 2, b, rfl, rfl, .inl ⟨by decide, by decide⟩, ?_⟩
    refine ⟨_, rfl, _, rfl, t, _, _, _, rfl, rfl, ht'.sq, at_map ha, _, _, rfl, rfl, ?_⟩
    refine ⟨_, rfl, _, rfl, L, _, _, i, rfl, rfl, upd_same, ix_map ha, ?_⟩
    refine ⟨_, rfl, L, _, rfl, .inl ⟨SqL.of upd_same, fun p hp => ?_⟩⟩
    refine q _ p (Same.mk (Same.wr (Same.new nL) nL) hp) ?_
    show upd _ p _ p = _
    rw [upd_same, List.map_set]
/-! ### need_leap -/
def spNeedLeap : Sp := fun vs H Q _ => ∃ (t : Addr) (o : O3) (x y z i j : Int), vs = [.ref t, .int i, .int j] ∧ IT H t (tri o x y z) ∧ isO o ∧ x < y ∧ y < z ∧ (i, j) ∈ leapsL o x y z ∧
  ∀ H', Same H H' → Q .non H'
theorem c_need_leap (T : Top K mg) : Cal P w K mg base 3 "need_leap" spNeedLeap := by
  refine T.d_need_leap.cal sc_need_leap (fun vs H Q E h => ?_) (fun f cdv A outer s H vs Q E hr h => ?_)
  · obtain ⟨t, o, x, y, z, i, j, rfl, _⟩ := h
    rfl
  · obtain ⟨t, o, x, y, z, i, j, rfl, ht, ho, hxy, hyz, hm, q⟩ := h
    refine ⟨_, pss_one (ps_if (PW.pt (pw_or (pt_not (pt_val (pe_c (c_is_int T) hr (by decide) (by rfl) (pa_cons (pv 1) pa_nil)))) (pw_or (pt_not (pt_val (pe_c (c_is_int T) hr (by decide) (by rfl) (pa_cons (pv 2) pa_nil))))
      (pw_or1 (pt_cmpR (op_notInT (α := Tup Int) (du hr (by decide))) (pe_tup (pa_cons (pv 1) (pa_cons (pv 2) pa_nil))) (pe_c (c_leaps_of T) hr (by decide) (by rfl) (pa_cons (pv 0) pa_nil)) (by rfl)))))) (pss_one ps_never) pss_nil), ?_⟩
    refine ⟨_, rfl, i, rfl, true, rfl, iteF ?_⟩
    refine ⟨_, rfl, j, rfl, true, rfl, iteF ?_⟩
    refine ⟨_, rfl, _, rfl, (by show 2 ≤ sizeLine; decide), fun p hp => ?_⟩
    refine ⟨_, rfl, t, o, x, y, z, rfl, ht.mv (Same.new hp), ho, hxy, hyz, fun H2 L us ds s2 hL hT hperm => ?_⟩
    have hp2 : IT H2 p [i, j] := s2 p _ upd_same
    refine ⟨L, us, Tup.mk [i, j], _, rfl, SqL.of hL, hT.dvs, dv_tup hp2.sq (dvs_ints _), _, rfl, ?_⟩
    refine iteE (fun hno => hno ?_) (q _ (Same.trans (Same.new hp) s2))
    refine List.mem_map.mpr ⟨[i, j], List.mem_map.mpr ⟨(i, j), hperm.mem_iff.mpr hm, rfl⟩, rfl⟩
end
end LR

namespace LR
open PySem PySem.Spec PyProof.Rows L2
open PySem.W (Datum DatumOrd Holds HoldAll Tup)
/-! ### a position in the heap -/
structure StOk (H : Hp) (t : Addr) (h g : Int) (o : O3) (w : Wd) : Prop where
  it : IT H t (st h g o w)
  ho : isO o
  g1 : 1 ≤ g
  g2 : g ≤ 10
  h1 : -20 ≤ h
  h2 : h ≤ 20
  ab : (pr w).1 ≤ 1000 ∧ (pr w).2 ≤ 1000
section
variable {H H' : Hp} {t : Addr} {h g : Int} {o : O3} {w : Wd}
theorem StOk.mv (s : StOk H t h g o w) (e : Same H H') : StOk H' t h g o w := { s with it := s.it.mv e }
theorem StOk.tk (s : StOk H t h g o w) (e : TK H H') : StOk H' t h g o w := { s with it := s.it.tk e }
theorem StOk.tr (s : StOk H t h g o w) : IT H t (tri (od o w) (px h g w) (py h g w) (pz h g w)) := s.it
theorem StOk.oo (s : StOk H t h g o w) : isO (od o w) := isO_od s.ho w
theorem StOk.lt1 (s : StOk H t h g o w) : px h g w < py h g w := px_lt s.g1 w
theorem StOk.lt2 (s : StOk H t h g o w) : py h g w < pz h g w := py_lt s.g1 w
end
/-- runs in the heap -/
def sg (c : Bool) : Str := if c = true then "R" else "L"
theorem sg_inj {c d : Bool} : sg c = sg d ↔ c = d := by
  cases c <;> cases d
  · exact ⟨fun _ => rfl, fun _ => rfl⟩
  · exact ⟨fun e => absurd e (by decide +kernel), fun e => nomatch e⟩
  · exact ⟨fun e => absurd e (by decide +kernel), fun e => nomatch e⟩
  · exact ⟨fun _ => rfl, fun _ => rfl⟩
def Rn (H : Hp) (t : Addr) (r : Bool × Nat) : Prop := H t = some (.tup [.str (sg r.1), .int (r.2 : Int)])
def Rns (H : Hp) : List V → Rs → Prop
  | [], [] => True
  | v :: vs, r :: rs => (∃ t, v = .ref t ∧ Rn H t r) ∧ Rns H vs rs
  | _, _ => False
section
variable {H H' : Hp}
theorem Rns.tk (k : TK H H') : ∀ {vs : List V} {rs : Rs}, Rns H vs rs → Rns H' vs rs
  | [], [], _ => trivial
  | _ :: _, _ :: _, ⟨⟨t, e, h⟩, r⟩ => ⟨⟨t, e, k _ _ h⟩, Rns.tk k r⟩
  | [], _ :: _, h => h.elim
  | _ :: _, [], h => h.elim
theorem Rns.len : ∀ {vs : List V} {rs : Rs}, Rns H vs rs → vs.length = rs.length
  | [], [], _ => rfl
  | _ :: vs, _ :: rs, h => congrArg (· + 1) (Rns.len (vs := vs) (rs := rs) h.2)
  | [], _ :: _, h => h.elim
  | _ :: _, [], h => h.elim
theorem Rns.app : ∀ {vs ws : List V} {rs qs : Rs}, Rns H vs rs → Rns H ws qs → Rns H (vs ++ ws) (rs ++ qs)
  | [], _, [], _, _, h => h
  | _ :: _, _, _ :: _, _, ⟨a, r⟩, h => ⟨a, Rns.app r h⟩
  | [], _, _ :: _, _, h, _ => h.elim
  | _ :: _, _, [], _, h, _ => h.elim
theorem Rns.snoc {vs : List V} {rs : Rs} {t : Addr} {r : Bool × Nat} (h : Rns H vs rs) (h1 : Rn H t r) : Rns H (vs ++ [.ref t]) (rs ++ [r]) := h.app ⟨⟨t, rfl, h1⟩, trivial⟩
theorem Rns.rev : ∀ {vs : List V} {rs : Rs}, Rns H vs rs → Rns H vs.reverse rs.reverse
  | [], [], _ => trivial
  | v :: vs, n :: ns, ⟨⟨t, e, h⟩, r⟩ => by
    rw [List.reverse_cons, List.reverse_cons, e]
    exact (Rns.rev r).snoc h
  | [], _ :: _, h => h.elim
  | _ :: _, [], h => h.elim
theorem Rns.get : ∀ {vs : List V} {rs : Rs}, Rns H vs rs → ∀ {i : Nat} {v : V}, vs[i]? = some v → ∃ t r, v = .ref t ∧ rs[i]? = some r ∧ Rn H t r
  | [], _, _, _, _, h => by simp at h
  | _ :: _, _ :: _, ⟨⟨t, e, h⟩, _⟩, 0, v, q => by
    have q' := Option.some.inj q
    subst q'
    exact ⟨t, _, e, rfl, h⟩
  | _ :: vs, _ :: ns, ⟨_, r⟩, i + 1, v, q => by
    obtain ⟨t, n, a, b, c⟩ := Rns.get (vs := vs) (rs := ns) r (i := i) (v := v) (by simpa using q)
    exact ⟨t, n, a, by simpa using b, c⟩
  | _ :: _, [], h, _, _, _ => h.elim
theorem Rns.get' : ∀ {vs : List V} {rs : Rs}, Rns H vs rs → ∀ {i : Nat} {r : Bool × Nat}, rs[i]? = some r → ∃ t, vs[i]? = some (.ref t) ∧ Rn H t r
  | _, [], _, _, _, h => by simp at h
  | _ :: _, _ :: _, ⟨⟨t, e, h⟩, _⟩, 0, n, q => by
    have q' := Option.some.inj q
    subst q'
    exact ⟨t, by rw [e]; rfl, h⟩
  | _ :: vs, _ :: ns, ⟨_, r⟩, i + 1, n, q => by
    obtain ⟨t, a, c⟩ := Rns.get' (vs := vs) (rs := ns) r (i := i) (r := n) (by simpa using q)
    exact ⟨t, by simpa using a, c⟩
  | [], _ :: _, h, _, _, _ => h.elim
theorem Rns.take : ∀ {vs : List V} {rs : Rs} (n : Nat), Rns H vs rs → Rns H (vs.take n) (rs.take n)
  | _, _, 0, _ => trivial
  | [], [], _ + 1, h => h
  | _ :: _, _ :: _, n + 1, ⟨a, r⟩ => ⟨a, Rns.take n r⟩
  | [], _ :: _, _, h => h.elim
  | _ :: _, [], _, h => h.elim
def sr (r : Bool × Nat) : Str × Int := (sg r.1, (r.2 : Int))
theorem sr_inj {r q : Bool × Nat} (e : sr r = sr q) : r = q := by
  have e1 := sg_inj.mp (congrArg Prod.fst e)
  have e2 : (r.2 : Int) = (q.2 : Int) := congrArg Prod.snd e
  exact Prod.ext e1 (by omega)
theorem map_sr_inj : ∀ {r q : Rs}, r.map sr = q.map sr → r = q
  | [], [], _ => rfl
  | [], _ :: _, h => nomatch h
  | _ :: _, [], h => nomatch h
  | a :: r, b :: q, h => by
    have h' : sr a :: r.map sr = sr b :: q.map sr := h
    rw [sr_inj (List.cons.inj h').1, map_sr_inj (List.cons.inj h').2]
theorem Rns.dvs {K : PySem.W.Frag} : ∀ {vs : List V} {rs : Rs}, Rns H vs rs → Dvs K H vs (rs.map sr)
  | [], [], _ => dvs_nil
  | v :: vs, r :: rs, ⟨⟨t, e, h⟩, q⟩ => by
    rw [e]
    exact dvs_cons (dv_pair (.inl (.inl h)) (dv_str _) (dv_int _)) (Rns.dvs q)
  | [], _ :: _, h => h.elim
  | _ :: _, [], h => h.elim
end
section
variable {P : Program} {w : World} {K : PySem.W.Frag} {mg : Str → Option Value} {base : Heap}
/-! ### runs_of -/
def spRuns : Sp := fun vs H Q _ => ∃ (t : Addr) (h g : Int) (o : O3) (u : Wd), vs = [.ref t] ∧ StOk H t h g o u ∧
  ∀ (H' : Hp) (p : Addr) (us : List V), Same H H' → H' p = some (.lst us) → Rns H' us (rl u).reverse → Q (.ref p) H'
theorem c_runs_of (T : Top K mg) : Cal P w K mg base 3 "runs_of" spRuns := by
  refine T.d_runs_of.cal sc_runs_of (fun vs H Q E h => ?_) (fun f cdv A outer s H vs Q E hr h => ?_)
  · obtain ⟨t, h, g, o, u, rfl, _⟩ := h
    rfl
  · obtain ⟨t, h, g, o, u, rfl, S, q⟩ := h
    refine ⟨_, pss_cons (ps_asg (pe_c (c_pair_of T) hr (by decide) (by rfl) (pa_cons (pv 0) pa_nil))
        (pg_tup (n := 2) rfl (pgs_cons (pg_name (i := 2) sc_runs_of.nd rfl (.inl rfl)) (pgs_cons (pg_name (i := 3) sc_runs_of.nd rfl (.inl rfl)) pgs_nil))))
      (pss_cons (ps_set (i := 1) sc_runs_of.nd rfl (.inl rfl) (pe_lst pa_nil))
      (pss_cons (ps_while PassesOwn.never (pt_cmpR op_ne (pv 2) (pv 3) (nomark _)) (pss_one (ps_if (pt_cmpR op_gt (pv 2) (pv 3) (nomark _))
        (pss_cons (ps_set (i := 4) sc_runs_of.nd rfl (.inl rfl) (pe_op op_fdiv (pe_op op_sub (pv 2) pe_int) (pv 3)))
          (pss_cons (ps_expr (pe_bm PySem.F.plainAttrs_list PySem.F.slot_list_append PySem.F.type_list_append mt_append (pv 1) (pa_cons (pe_tup (pa_cons pe_str (pa_cons (pv 4) pa_nil))) pa_nil)))
          (pss_one (ps_aug (i := 2) sc_runs_of.nd rfl (.inl rfl) (pe_op op_mul (pv 4) (pv 3)) ip_sub))))
        (pss_cons (ps_set (i := 4) sc_runs_of.nd rfl (.inl rfl) (pe_op op_fdiv (pe_op op_sub (pv 3) pe_int) (pv 2)))
          (pss_cons (ps_expr (pe_bm PySem.F.plainAttrs_list PySem.F.slot_list_append PySem.F.type_list_append mt_append (pv 1) (pa_cons (pe_tup (pa_cons pe_str (pa_cons (pv 4) pa_nil))) pa_nil)))
          (pss_one (ps_aug (i := 3) sc_runs_of.nd rfl (.inl rfl) (pe_op op_mul (pv 4) (pv 2)) ip_sub)))))))
      (pss_one (ps_ret (pe_revL (pv 1)))))), ?_⟩
    refine ⟨_, rfl, t, _, _, _, _, g, (pr u).1, (pr u).2, rfl, S.tr, S.oo, S.lt1, S.lt2, gap1 u, gap2 u, by have := S.g1; omega, by have := S.g2; omega, pr_gcd u, fun H1 p1 s1 hp1 => ?_⟩
    refine ⟨p1, _, rfl, hp1.sq, rfl, _, _, rfl, _, _, rfl, rfl, ?_⟩
    refine ⟨Nat.zero_le _, fun L nL => ?_⟩
    have nL0 : H L = none := Same.free s1 nL
    refine ⟨fun m σ H' => Same H H' ∧ ∃ (us : List V) (acc r : Rs) (a b : Int) (v : Option V), σ = [some (.ref t), some (.ref L), some (.int a), some (.int b), v] ∧ H' L = some (.lst us) ∧ Rns H' us acc ∧ acc ++ r = rl u ∧ Good r ∧ pr (ex r) = (a, b) ∧ a ≤ 1000 ∧ b ≤ 1000 ∧ acc.length + r.length ≤ 2000 ∧ m = r.length,
      ⟨(rl u).length, Same.mk s1 nL, [], [], rl u, _, _, none, rfl, upd_same, trivial, rfl, rl_good u, by rw [ex_rl], S.ab.1, S.ab.2, ?_, rfl⟩, ?_⟩
    · -- few runs
      have e1 : ∀ r : Rs, Good r → r.length ≤ (ex r).length := by
        intro r
        induction r with
        | nil => intro _; exact Nat.le_refl _
        | cons p r ih =>
          intro hg
          obtain ⟨c, n⟩ := p
          have h1 := hg.pos
          have h2 := ih hg.tail
          show r.length + 1 ≤ (List.replicate n c ++ ex r).length
          rw [List.length_append, List.length_replicate]
          omega
      have e2 := e1 (rl u) (rl_good u)
      rw [ex_rl] at e2
      have e3 := pr_len u
      have e4 := S.ab
      simp only [List.length_nil]
      omega
    rintro m σ H' ⟨s2, us, acc, r, a, b, v, rfl, hL, hR, hacc, hG, hpr, ha, hb, hlen, rfl⟩
    refine ⟨_, rfl, _, rfl, rfl, _, rfl, ?_⟩
    cases r with
    | nil =>
      have e : (1, 1) = (a, b) := hpr
      have ea : a = 1 := (congrArg Prod.fst e).symm
      have eb : b = 1 := (congrArg Prod.snd e).symm
      subst ea eb
      refine iteNS rfl ?_
      refine ⟨_, rfl, L, us, rfl, SqL.of hL, fun p hp => ?_⟩
      rw [List.append_nil] at hacc
      rw [hacc] at hR
      exact q _ p _ (Same.mk s2 hp) upd_same ((hR.tk (TK.new hp)).rev)
    | cons p r =>
      obtain ⟨c, n⟩ := p
      have fin : ∀ (k : Int) (H3 : Hp) (pp : Addr), k = (n : Int) → H' pp = none → H3 = upd (upd H' pp (.tup [.str (sg c), .int k])) L (.lst (us ++ [.ref pp])) →
          upd H' pp (.tup [.str (sg c), .int k]) L = some (.lst us) ∧ Same H H3 ∧ H3 L = some (.lst (us ++ [.ref pp])) ∧ Rns H3 (us ++ [.ref pp]) (acc ++ [(c, n)]) := by
        rintro k H3 pp rfl hpp rfl
        have hLp : L ≠ pp := ne_of_none hL hpp
        have hL' : upd H' pp (.tup [.str (sg c), .int (n : Int)]) L = some (.lst us) := by rw [upd_ne hLp]; exact hL
        refine ⟨hL', Same.wr (Same.mk s2 hpp) nL0, upd_same, ((hR.tk (TK.new hpp)).tk (TK.lst hL')).snoc ?_⟩
        show upd _ L _ pp = _
        rw [upd_ne (Ne.symm hLp), upd_same]
      have hlen1 : us.length < 2000 := by
        rw [hR.len]
        simp only [List.length_cons] at hlen
        omega
      have hpos := pr_pos (ex r)
      cases c with
      | true =>
        obtain ⟨e1, e2, e3⟩ := run_t hG
        rw [e1] at hpr
        have ea : (pr (ex r)).1 + n * (pr (ex r)).2 = a := congrArg Prod.fst hpr
        have eb : (pr (ex r)).2 = b := congrArg Prod.snd hpr
        rw [ea] at e2 e3
        rw [eb] at e2 e3 ea
        refine iteNT (fun e => by have := V.int.inj e; omega) ?_
        refine ⟨fun σ' H3 => ∃ v, σ' = [some (.ref t), some (.ref L), some (.int (pr (ex r)).1), some (.int b), v] ∧ Same H H3 ∧ ∃ us', H3 L = some (.lst us') ∧ Rns H3 us' (acc ++ [(true, n)]), ?_, ?_⟩
        · rintro σ' H3 ⟨v', rfl, s3, us', hL3, hR3⟩
          have hn0 : 0 ≤ (n : Int) * b := Int.mul_nonneg (by omega) (by omega)
          refine ⟨r.length, Nat.lt_succ_self _, s3, us', acc ++ [(true, n)], r, _, b, v', rfl, hL3, hR3, by rw [List.append_assoc]; exact hacc, hG.tail, by rw [← eb], by omega, hb, ?_, rfl⟩
          simp only [List.length_append, List.length_cons, List.length_nil] at hlen ⊢
          omega
        · refine ⟨_, rfl, _, rfl, _, _, rfl, rfl, _, rfl, iteD e2 ?_⟩
          refine ⟨_, rfl, a, 1, rfl, rfl, _, rfl, _, b, rfl, rfl, ⟨by omega, by omega⟩, ?_⟩
          refine ⟨_, rfl, .inl ⟨rfl, _, SqL.of hL⟩, _, rfl, (by show 2 ≤ sizeLine; decide), fun pp hpp => ?_⟩
          obtain ⟨f1, f2, f3, f4⟩ := fin _ _ pp e3 hpp rfl
          refine ⟨L, us, _, rfl, rfl, f1, szt (by omega), ?_⟩
          refine ⟨_, rfl, _, rfl, _, rfl, (a - 1) / b, b, rfl, rfl, .inr ⟨by omega, by omega⟩, a, _, rfl, rfl, ?_⟩
          refine ⟨some (.int ((a - 1) / b)), ?_, f2, _, f3, f4⟩
          have e4 : a - (a - 1) / b * b = (pr (ex r)).1 := by rw [e3]; omega
          show [some (V.ref t), some (V.ref L), some (V.int (a - (a - 1) / b * b)), some (V.int b), some (V.int ((a - 1) / b))] = _
          rw [e4]
      | false =>
        obtain ⟨e1, e2, e3⟩ := run_f hG
        rw [e1] at hpr
        have ea : (pr (ex r)).1 = a := congrArg Prod.fst hpr
        have eb : (pr (ex r)).2 + n * (pr (ex r)).1 = b := congrArg Prod.snd hpr
        rw [eb] at e2 e3
        rw [ea] at e2 e3 eb
        refine iteNT (fun e => by have := V.int.inj e; omega) ?_
        refine ⟨fun σ' H3 => ∃ v, σ' = [some (.ref t), some (.ref L), some (.int a), some (.int (pr (ex r)).2), v] ∧ Same H H3 ∧ ∃ us', H3 L = some (.lst us') ∧ Rns H3 us' (acc ++ [(false, n)]), ?_, ?_⟩
        · rintro σ' H3 ⟨v', rfl, s3, us', hL3, hR3⟩
          have hn0 : 0 ≤ (n : Int) * a := Int.mul_nonneg (by omega) (by omega)
          refine ⟨r.length, Nat.lt_succ_self _, s3, us', acc ++ [(false, n)], r, a, _, v', rfl, hL3, hR3, by rw [List.append_assoc]; exact hacc, hG.tail, by rw [← ea], ha, by omega, ?_, rfl⟩
          simp only [List.length_append, List.length_cons, List.length_nil] at hlen ⊢
          omega
        · refine ⟨_, rfl, _, rfl, _, _, rfl, rfl, _, rfl, iteE (by omega) ?_⟩
          refine ⟨_, rfl, b, 1, rfl, rfl, _, rfl, _, a, rfl, rfl, ⟨by omega, by omega⟩, ?_⟩
          refine ⟨_, rfl, .inl ⟨rfl, _, SqL.of hL⟩, _, rfl, (by show 2 ≤ sizeLine; decide), fun pp hpp => ?_⟩
          obtain ⟨f1, f2, f3, f4⟩ := fin _ _ pp e3 hpp rfl
          refine ⟨L, us, _, rfl, rfl, f1, szt (by omega), ?_⟩
          refine ⟨_, rfl, _, rfl, _, rfl, (b - 1) / a, a, rfl, rfl, .inr ⟨by omega, by omega⟩, b, _, rfl, rfl, ?_⟩
          refine ⟨some (.int ((b - 1) / a)), ?_, f2, _, f3, f4⟩
          have e4 : b - (b - 1) / a * a = (pr (ex r)).2 := by rw [e3]; omega
          show [some (V.ref t), some (V.ref L), some (V.int a), some (V.int (b - (b - 1) / a * a)), some (V.int ((b - 1) / a))] = _
          rw [e4]
end
end LR

namespace LR
open PySem PySem.Spec PyProof.Rows L2
open PySem.W (Datum DatumOrd Holds HoldAll Tup)
theorem cut_take {xs : List V} (k : Nat) : cutV xs none (some (k : Int)) = xs.take k := by
  unfold cutV
  rw [HT.sIx_none, HT.sIx_nat, List.drop_zero, Nat.sub_zero]
  rcases Nat.le_total k xs.length with h | h
  · rw [Nat.min_eq_left h]
  · rw [Nat.min_eq_right h, List.take_length, List.take_of_length_le h]
theorem cut_last {xs : List V} : cutV xs none (some (-1)) = xs.take (xs.length - 1) := by
  unfold cutV
  rw [HT.sIx_none, List.drop_zero, Nat.sub_zero]
  have e : HT.sIx xs.length xs.length (some (-1)) = xs.length - 1 := by
    show (if (-1 : Int) < 0 then ((-1 : Int) + (xs.length : Int)).toNat else min (-1 : Int).toNat xs.length) = _
    rw [if_pos (by decide)]
    omega
  rw [e]
theorem at_end {xs : List V} {v : V} (h : xs[xs.length - 1]? = some v) : atI xs (-1) = some v := by
  have hlt := (List.getElem?_eq_some_iff.mp h).1
  obtain ⟨ys, z, rfl⟩ : ∃ ys z, xs = ys ++ [z] := by
    rcases List.eq_nil_or_concat xs with e | ⟨ys, z, e⟩
    · rw [e] at hlt
      exact absurd hlt (Nat.not_lt_zero _)
    · exact ⟨ys, z, by rw [e, List.concat_eq_append]⟩
  have e : v = z := by simpa using h.symm
  rw [e]
  exact atI_last _ _
section
variable {H : Hp} {t : Addr} {h g : Int} {o : O3} {w : Wd}
theorem StOk.bd (s : StOk H t h g o w) : ∀ n ∈ st h g o w, -20000 ≤ n ∧ n ≤ 20000 := by
  intro n hn
  have hp := pr_pos w
  obtain ⟨ha, hb⟩ := s.ab
  have h1 := s.h1
  have h2 := s.h2
  have e1 : g * (pr w).1 ≤ 10 * 1000 := Int.mul_le_mul s.g2 ha (by omega) (by omega)
  have e2 : g * (pr w).2 ≤ 10 * 1000 := Int.mul_le_mul s.g2 hb (by omega) (by omega)
  have e3 := mul_ge s.g1 hp.1
  have e4 := mul_ge s.g1 hp.2
  rcases (tri_mem s.oo).mp hn with e | e | e
  · rw [e]; unfold px; omega
  · rw [e]; unfold py; rw [Int.mul_sub]; omega
  · rw [e]; unfold pz; omega
theorem StOk.nd (s : StOk H t h g o w) : (st h g o w).Nodup := by
  have a := s.lt1
  have b := s.lt2
  have e : [px h g w, py h g w, pz h g w].Nodup := by
    simp
    omega
  exact (tri_perm s.oo _ _ _).nodup_iff.mpr e
end
section
variable {P : Program} {w : World} {K : PySem.W.Frag} {mg : Str → Option Value} {base : Heap}
/-! ### order_behind, begin_order -/
def spOB : Sp := fun vs H Q _ => ∃ (t : Addr) (o : O3) (c : Bool) (n : Nat), vs = [.ref t, .str (sg c), .int (n : Int)] ∧ IT H t (lv o) ∧ ∀ H' p, Same H H' → IT H' p (lv (swn o c n)) → Q (.ref p) H'
theorem c_order_behind (T : Top K mg) : Cal P w K mg base 1 "order_behind" spOB := by
  refine T.d_order_behind.cal sc_order_behind (fun vs H Q E h => ?_) (fun f cdv A outer s H vs Q E hr h => ?_)
  · obtain ⟨t, o, c, n, rfl, _⟩ := h
    rfl
  · obtain ⟨t, o, c, n, rfl, ht, q⟩ := h
    refine ⟨_, pss_cons (ps_asg (pv 0) (pg_tup (n := 3) rfl (pgs_cons (pg_name (i := 3) sc_order_behind.nd rfl (.inl rfl)) (pgs_cons (pg_name (i := 4) sc_order_behind.nd rfl (.inl rfl)) (pgs_cons (pg_name (i := 5) sc_order_behind.nd rfl (.inl rfl)) pgs_nil)))))
      (pss_cons (ps_if (pt_cmpR op_eq (pe_op op_mod (pv 2) pe_int) pe_int (nomark _)) (pss_one (ps_ret (pv 0))) pss_nil)
      (pss_one (ps_ret (pe_ifExp (pt_cmpR op_eq (pv 1) pe_str (nomark _)) (pe_tup (pa_cons (pv 3) (pa_cons (pv 5) (pa_cons (pv 4) pa_nil)))) (pe_tup (pa_cons (pv 4) (pa_cons (pv 3) (pa_cons (pv 5) pa_nil)))))))), ?_⟩
    refine ⟨_, rfl, t, _, rfl, ht.sq, rfl, _, _, rfl, _, _, rfl, _, _, rfl, rfl, ?_⟩
    refine ⟨_, rfl, n, 2, rfl, rfl, (by show (0 : Int) < 2; decide), rfl, _, rfl, ?_⟩
    by_cases h2 : n % 2 = 0
    · refine iteD (congrArg V.int (by omega)) ?_
      refine ⟨_, rfl, q H t (Same.refl H) ?_⟩
      unfold swn
      rw [if_pos h2]
      exact ht
    · refine iteE (fun e => by have := V.int.inj e; omega) ?_
      have es : swn o c n = swp o c := if_neg h2
      rw [es] at q
      refine ⟨_, rfl, rfl, _, rfl, ?_⟩
      cases c with
      | true =>
        refine iteD rfl ?_
        exact ⟨_, rfl, _, rfl, _, rfl, (by show 3 ≤ sizeLine; decide), fun p hp => q _ p (Same.new hp) upd_same⟩
      | false =>
        refine iteE (fun e => absurd (V.str.inj e) (by decide +kernel)) ?_
        exact ⟨_, rfl, _, rfl, _, rfl, (by show 3 ≤ sizeLine; decide), fun p hp => q _ p (Same.new hp) upd_same⟩
def spBegin : Sp := fun vs H Q _ => ∃ (t : Addr) (h g : Int) (o : O3) (u : Wd), vs = [.ref t] ∧ StOk H t h g o u ∧ ∀ H' p, Same H H' → IT H' p (lv o) → Q (.ref p) H'
theorem c_begin_order (T : Top K mg) : Cal P w K mg base 4 "begin_order" spBegin := by
  refine T.d_begin_order.cal sc_begin_order (fun vs H Q E h => ?_) (fun f cdv A outer s H vs Q E hr h => ?_)
  · obtain ⟨t, h, g, o, u, rfl, _⟩ := h
    rfl
  · obtain ⟨t, h, g, o, u, rfl, S, q⟩ := h
    refine ⟨_, pss_cons (ps_set (i := 1) sc_begin_order.nd rfl (.inl rfl) (pe_c (c_order_of T) hr (by decide) (by rfl) (pa_cons (pv 0) pa_nil)))
      (pss_cons (ps_for PassesOwn.never rfl (pi_list (pe_revL (pe_c (c_runs_of T) hr (by decide) (by rfl) (pa_cons (pv 0) pa_nil))))
          (pg_tup (n := 2) rfl (pgs_cons (pg_name (i := 2) sc_begin_order.nd rfl (.inl rfl)) (pgs_cons (pg_name (i := 3) sc_begin_order.nd rfl (.inl rfl)) pgs_nil)))
        (pss_one (ps_set (i := 1) sc_begin_order.nd rfl (.inl rfl) (pe_c (c_order_behind T) hr (by decide) (by rfl) (pa_cons (pv 1) (pa_cons (pv 2) (pa_cons (pv 3) pa_nil)))))))
      (pss_one (ps_ret (pv 1)))), ?_⟩
    refine ⟨_, rfl, t, _, _, _, _, rfl, S.tr, S.oo, S.lt1, S.lt2, fun H1 p1 s1 hp1 => ?_⟩
    refine ⟨_, rfl, t, h, g, o, u, rfl, S.mv s1, fun H2 L us s2 hL hR => ?_⟩
    refine ⟨L, us, rfl, SqL.of hL, fun L2 nL2 => ?_⟩
    have s12 := Same.trans s1 s2
    have sL := Same.mk (o := .lst us.reverse) s12 nL2
    have hR2 : Rns (upd H2 L2 (.lst us.reverse)) us.reverse (rl u) := by
      have := (hR.tk (TK.new (o := .lst us.reverse) nL2)).rev
      rw [List.reverse_reverse] at this
      exact this
    refine ⟨L2, rfl, ⟨_, SqL.of upd_same⟩, for_list (K := K) (a := L2) (xs := us.reverse) (fun i σ H' => ∃ (p : Addr) (v2 v3 : Option V), σ = [some (.ref t), some (.ref p), v2, v3] ∧ Same H H' ∧ H' L2 = some (.lst us.reverse) ∧ Rns H' us.reverse (rl u) ∧
        IT H' p (lv (((rl u).take i).foldl (fun p q => swn p q.1 q.2) (od o u)))) ⟨p1, none, none, rfl, sL, upd_same, hR2, (hp1.mv s2).mv (Same.new nL2)⟩ (fun i σ H' _ p => by obtain ⟨_, _, _, _, _, e, _⟩ := p; exact SqL.of e) ?_ ?_⟩
    · rintro i v σ H' hv ⟨p, v2, v3, rfl, s3, hl3, hR3, hp3⟩
      obtain ⟨tt, r, rfl, hr3, hrn⟩ := hR3.get hv
      refine ⟨tt, _, rfl, .inl (.inl hrn), rfl, _, _, rfl, _, _, rfl, rfl, ?_⟩
      refine ⟨_, rfl, _, rfl, _, rfl, p, _, r.1, r.2, rfl, hp3, fun H4 p4 s4 hp4 => ?_⟩
      refine ⟨p4, _, _, rfl, Same.trans s3 s4, s4 _ _ hl3, hR3.tk (Same.tk s4), ?_⟩
      rw [List.take_add_one, hr3, List.foldl_append]
      exact hp4
    · rintro σ H' ⟨p, v2, v3, rfl, s3, hl3, hR3, hp3⟩
      refine ⟨_, rfl, q H' p s3 ?_⟩
      rw [hR3.len, List.take_length] at hp3
      have e := od_back o (rl u)
      rw [ex_rl] at e
      rw [e] at hp3
      exact hp3
/-! ### is_same, need_two -/
def spSame : Sp := fun vs H Q _ => ∃ (t t' : Addr) (h g : Int) (o : O3) (u v : Wd), vs = [.ref t, .ref t'] ∧ StOk H t h g o u ∧ StOk H t' h g o v ∧ ∀ H', Same H H' → Q (.bl true) H'
theorem c_is_same (T : Top K mg) : Cal P w K mg base 5 "is_same" spSame := by
  refine T.d_is_same.cal sc_is_same (fun vs H Q E h => ?_) (fun f cdv A outer s H vs Q E hr h => ?_)
  · obtain ⟨t, t', h, g, o, u, v, rfl, _⟩ := h
    rfl
  · obtain ⟨t, t', h, g, o, u, v, rfl, S, S', q⟩ := h
    refine ⟨_, pss_cons (ps_if (PW.pt (pw_or (pt_cmpR op_ne (pe_c (c_middle_of T) hr (by decide) (by rfl) (pa_cons (pv 0) pa_nil)) (pe_c (c_middle_of T) hr (by decide) (by rfl) (pa_cons (pv 1) pa_nil)) (nomark _))
        (pw_or1 (pt_cmpR op_ne (pe_c (c_grain_of T) hr (by decide) (by rfl) (pa_cons (pv 0) pa_nil)) (pe_c (c_grain_of T) hr (by decide) (by rfl) (pa_cons (pv 1) pa_nil)) (nomark _))))) (pss_one (ps_ret pe_bl)) pss_nil)
      (pss_one (ps_ret (pe_cmpR (op_eqT (α := Tup Int) (du0 hr (by decide))) (pe_c (c_begin_order T) hr (by decide) (by rfl) (pa_cons (pv 0) pa_nil)) (pe_c (c_begin_order T) hr (by decide) (by rfl) (pa_cons (pv 1) pa_nil)) (nomark _)))), ?_⟩
    have g0 : 0 < g := by have := S.g1; omega
    refine ⟨_, rfl, t, _, _, _, _, rfl, S.tr, S.oo, S.lt1, S.lt2, fun H1 s1 => ?_⟩
    refine ⟨_, rfl, t', _, _, _, _, rfl, (S'.mv s1).tr, S'.oo, S'.lt1, S'.lt2, fun H2 s2 => ⟨rfl, _, rfl, ?_⟩⟩
    rw [hrt, hrt]
    refine iteNS rfl ?_
    refine ⟨_, rfl, t, _, _, _, _, rfl, ((S.mv s1).mv s2).tr, S.oo, S.lt1, S.lt2, fun H3 s3 => ?_⟩
    refine ⟨_, rfl, t', _, _, _, _, rfl, (((S'.mv s1).mv s2).mv s3).tr, S'.oo, S'.lt1, S'.lt2, fun H4 s4 => ⟨rfl, _, rfl, ?_⟩⟩
    rw [gap1, gap2, gap1, gap2, gcd_scale g0 (pr_gcd u), gcd_scale g0 (pr_gcd v)]
    refine iteNS rfl ?_
    have S4 := (((S.mv s1).mv s2).mv s3).mv s4
    have S4' := (((S'.mv s1).mv s2).mv s3).mv s4
    have sa := Same.trans (Same.trans (Same.trans s1 s2) s3) s4
    refine ⟨_, rfl, t, h, g, o, u, rfl, S4, fun H5 p5 s5 hp5 => ?_⟩
    refine ⟨_, rfl, t', h, g, o, v, rfl, S4'.mv s5, fun H6 p6 s6 hp6 => ?_⟩
    refine ⟨Tup.mk (lv o), Tup.mk (lv o), dv_tup (hp5.mv s6).sq (dvs_ints _), dv_tup hp6.sq (dvs_ints _), ?_⟩
    exact q_t rfl (q _ (Same.trans (Same.trans sa s5) s6))
def spNeedTwo : Sp := fun vs H Q _ => ∃ (t t' : Addr) (h g : Int) (o : O3) (u v : Wd), vs = [.ref t, .ref t'] ∧ StOk H t h g o u ∧ StOk H t' h g o v ∧ ∀ H', Same H H' → Q .non H'
theorem c_need_two (T : Top K mg) : Cal P w K mg base 6 "need_two" spNeedTwo := by
  refine T.d_need_two.cal sc_need_two (fun vs H Q E h => ?_) (fun f cdv A outer s H vs Q E hr h => ?_)
  · obtain ⟨t, t', h, g, o, u, v, rfl, _⟩ := h
    rfl
  · obtain ⟨t, t', h, g, o, u, v, rfl, S, S', q⟩ := h
    refine ⟨_, pss_cons (ps_expr (pe_c (c_need_state T) hr (by decide) (by rfl) (pa_cons (pv 0) pa_nil)))
      (pss_cons (ps_expr (pe_c (c_need_state T) hr (by decide) (by rfl) (pa_cons (pv 1) pa_nil)))
      (pss_one (ps_if (pt_not (pt_val (pe_c (c_is_same T) hr (by decide) (by rfl) (pa_cons (pv 0) (pa_cons (pv 1) pa_nil))))) (pss_one ps_never) pss_nil))), ?_⟩
    refine ⟨_, rfl, t, _, rfl, S.it, rfl, fun n hn => by have := S.bd n hn; omega, S.nd, fun H1 s1 => ?_⟩
    refine ⟨_, rfl, t', _, rfl, (S'.mv s1).it, rfl, fun n hn => by have := S'.bd n hn; omega, S'.nd, fun H2 s2 => ?_⟩
    refine ⟨_, rfl, _, rfl, t, t', h, g, o, u, v, rfl, (S.mv s1).mv s2, (S'.mv s1).mv s2, fun H3 s3 => ⟨true, rfl, iteF ?_⟩⟩
    exact q _ (Same.trans (Same.trans s1 s2) s3)
/-! ### is_behind -/
def spIsBehind : Sp := fun vs H Q _ => ∃ (t t' : Addr) (h g : Int) (o : O3) (v u : Wd), vs = [.ref t, .ref t'] ∧ StOk H t h g o v ∧ StOk H t' h g o u ∧ ∀ H', Same H H' → Q (.bl (decide (u <:+ v))) H'
theorem c_is_behind (T : Top K mg) : Cal P w K mg base 7 "is_behind" spIsBehind := by
  refine T.d_is_behind.cal sc_is_behind (fun vs H Q E h => ?_) (fun f cdv A outer s H vs Q E hr h => ?_)
  · obtain ⟨t, t', h, g, o, v, u, rfl, _⟩ := h
    rfl
  · obtain ⟨t, t', h, g, o, v, u, rfl, S, S', q⟩ := h
    refine ⟨_, pss_cons (ps_expr (pe_c (c_need_two T) hr (by decide) (by rfl) (pa_cons (pv 0) (pa_cons (pv 1) pa_nil))))
      (pss_cons (ps_par (i := 2) (j := 3) (by rfl) sc_is_behind.nd rfl rfl (by decide) rfl rfl (pa_cons (pe_c (c_runs_of T) hr (by decide) (by rfl) (pa_cons (pv 1) pa_nil)) (pa_cons (pe_c (c_runs_of T) hr (by decide) (by rfl) (pa_cons (pv 0) pa_nil)) pa_nil)) (by rfl))
      (pss_cons (ps_if (pt_cmpR op_gt (pe_callB call_len_seq (by rfl) T.z_len PySem.boot_len (pa_cons (pv 2) pa_nil)) (pe_callB call_len_seq (by rfl) T.z_len PySem.boot_len (pa_cons (pv 3) pa_nil)) (nomark _)) (pss_one (ps_ret pe_bl)) pss_nil)
      (pss_cons (ps_if (pt_cmpR (op_eqT (α := List (Str × Int)) (du0 hr (by decide))) (pv 2) (pe_lst pa_nil) (nomark _)) (pss_one (ps_ret pe_bl)) pss_nil)
      (pss_one (ps_ret (pe_and (pe_cmpR (op_eqT (α := List (Str × Int)) (du0 hr (by decide))) (pe_slice sl_list (pv 2) po_none (po_some (pe_un un_neg pe_int)))
            (pe_slice sl_list (pv 3) po_none (po_some (pe_op op_sub (pe_callB call_len_seq (by rfl) T.z_len PySem.boot_len (pa_cons (pv 2) pa_nil)) pe_int))) (nomark _))
        (pe_and (pe_cmpR op_eq (pe_ix ix_tup (pe_ix ix_list (pv 2) (pe_un un_neg pe_int) (fun _ _ => rfl)) pe_int (fun _ _ => rfl))
            (pe_ix ix_tup (pe_ix ix_list (pv 3) (pe_op op_sub (pe_callB call_len_seq (by rfl) T.z_len PySem.boot_len (pa_cons (pv 2) pa_nil)) pe_int) (fun _ _ => rfl)) pe_int (fun _ _ => rfl)) (nomark _))
        (pe_one (pe_cmpR op_le (pe_ix ix_tup (pe_ix ix_list (pv 2) (pe_un un_neg pe_int) (fun _ _ => rfl)) pe_int (fun _ _ => rfl))
            (pe_ix ix_tup (pe_ix ix_list (pv 3) (pe_op op_sub (pe_callB call_len_seq (by rfl) T.z_len PySem.boot_len (pa_cons (pv 2) pa_nil)) pe_int) (fun _ _ => rfl)) pe_int (fun _ _ => rfl)) (nomark _)))))))))), ?_⟩
    refine ⟨_, rfl, _, rfl, t, t', h, g, o, v, u, rfl, S, S', fun H0 s0 => ?_⟩
    refine ⟨_, rfl, t', h, g, o, u, rfl, S'.mv s0, fun H1 L1 us1 s1 hL1 hR1 => ?_⟩
    refine ⟨_, rfl, t, h, g, o, v, rfl, (S.mv s0).mv s1, fun H2 L2 us2 s2 hL2 hR2 => ⟨_, _, rfl, ?_⟩⟩
    have hA1 : H2 L1 = some (.lst us1) := s2 _ _ hL1
    have hR1' := hR1.tk (Same.tk s2)
    have sA := Same.trans (Same.trans s0 s1) s2
    have key := behind_iff u v
    generalize hp : (rl u).reverse = p at *
    generalize hq : (rl v).reverse = r at *
    have l1 := hR1'.len
    have l2 := hR2.len
    refine ⟨_, rfl, L1, us1, rfl, .inl (SqL.of hA1), _, rfl, L2, us2, rfl, .inl (SqL.of hL2), _, _, rfl, rfl, _, rfl, ?_⟩
    by_cases hlen : us2.length < us1.length
    · refine iteD (by omega) ?_
      have hn : ¬ u <:+ v := fun q1 => by
        rcases key.mp q1 with e | ⟨e, _⟩
        · rw [e] at l1
          simp at l1
          rw [l1] at hlen
          simp at hlen
        · omega
      have := q H2 sA
      rw [decide_eq_false hn] at this
      exact this
    · refine iteE (by omega) ?_
      refine ⟨_, rfl, Nat.zero_le _, fun N nN => ?_⟩
      have hN : Dv K (upd H2 N (.lst [])) (.ref N) ([] : List (Str × Int)) := dv_list (SqL.of upd_same) dvs_nil
      have sN := Same.new (o := .lst []) nN
      have hA1' : upd H2 N (.lst []) L1 = some (.lst us1) := sN _ _ hA1
      have hL2' : upd H2 N (.lst []) L2 = some (.lst us2) := sN _ _ hL2
      have hRa := hR1'.tk (Same.tk sN)
      have hRb := hR2.tk (Same.tk sN)
      refine ⟨p.map sr, [], dv_list (SqL.of hA1') hRa.dvs, hN, _, rfl, ?_⟩
      by_cases he : p = []
      · refine iteD (by rw [he]; rfl) ?_
        have hy : u <:+ v := key.mpr (.inl he)
        have := q _ (Same.trans sA sN)
        rw [decide_eq_true hy] at this
        exact this
      · refine iteE (fun e => he (List.map_eq_nil_iff.mp e)) ?_
        generalize hH : upd H2 N (.lst []) = H3 at *
        have sB := Same.trans sA sN
        have hpl : 0 < p.length := by
          cases p with
          | nil => exact absurd rfl he
          | cons _ _ => exact Nat.succ_pos _
        have eI : ((us1.length : Nat) : Int) - 1 = ((us1.length - 1 : Nat) : Int) := by omega
        -- the last run of the first, the run at that place of the second
        obtain ⟨x, hx⟩ : ∃ x, p[us1.length - 1]? = some x := ⟨_, List.getElem?_eq_getElem (by omega)⟩
        obtain ⟨y, hy⟩ : ∃ y, r[us1.length - 1]? = some y := ⟨_, List.getElem?_eq_getElem (by omega)⟩
        obtain ⟨tx, gx, rx⟩ := hRa.get' hx
        obtain ⟨ty, gy, ry⟩ := hRb.get' hy
        have ans : u <:+ v ↔ (p.take (us1.length - 1) = r.take (us1.length - 1) ∧ x.1 = y.1 ∧ x.2 ≤ y.2) := by
          rw [key]
          constructor
          · rintro (e | ⟨_, e2, c, n, m, e3, e4, e5⟩)
            · exact absurd e he
            · rw [← l1] at e2 e3 e4
              rw [hx] at e3
              rw [hy] at e4
              have a1 := Option.some.inj e3
              have a2 := Option.some.inj e4
              subst a1 a2
              exact ⟨e2, rfl, e5⟩
          · rintro ⟨e1, e2, e3⟩
            refine .inr ⟨by omega, by rw [← l1]; exact e1, x.1, x.2, y.2, by rw [← l1, hx], by rw [← l1, hy, e2], e3⟩
        refine ⟨_, rfl, 1, rfl, _, rfl, L1, us1, rfl, SqL.of hA1', fun N1 n1 => ?_⟩
        have sN1 := Same.new (o := .lst (cutV us1 none (some (-1)))) n1
        have hA2 := sN1 _ _ hA1'
        have hL3 := sN1 _ _ hL2'
        refine ⟨_, rfl, _, rfl, L1, us1, rfl, .inl (SqL.of hA2), _, _, rfl, rfl, ((us1.length - 1 : Nat) : Int), congrArg V.int eI, L2, us2, rfl, SqL.of hL3, fun N2 n2 => ?_⟩
        generalize hk : us1.length - 1 = k at *
        have sN2 := Same.new (o := .lst (cutV us2 none (some (k : Int)))) n2
        have e1 : cutV us1 none (some (-1)) = us1.take k := by rw [cut_last, hk]
        have e2 : cutV us2 none (some (k : Int)) = us2.take k := cut_take k
        have hN1a : upd H3 N1 (.lst (cutV us1 none (some (-1)))) N1 = some (.lst (us1.take k)) := by rw [upd_same, e1]
        have hN2b : upd (upd H3 N1 (.lst (cutV us1 none (some (-1))))) N2 (.lst (cutV us2 none (some (k : Int)))) N2 = some (.lst (us2.take k)) := by rw [upd_same, e2]
        have sb := Same.trans sN1 sN2
        have hA4 := sb _ _ hA1'
        have hL4 := sb _ _ hL2'
        have hRc := hRa.tk (Same.tk sb)
        have hRd := hRb.tk (Same.tk sb)
        have rx' := SqT.of (K := K) (sb _ _ rx)
        have ry' := SqT.of (K := K) (sb _ _ ry)
        have sC := Same.trans sB sb
        refine ⟨(p.take k).map sr, (r.take k).map sr, dv_list (SqL.of (sN2 _ _ hN1a)) (hRc.take k).dvs, dv_list (SqL.of hN2b) (hRd.take k).dvs, _, rfl, ?_⟩
        have gx' : us1[us1.length - 1]? = some (.ref tx) := by rw [hk]; exact gx
        by_cases c1 : p.take k = r.take k
        · refine iteD (by rw [c1]) ?_
          refine ⟨_, rfl, 1, rfl, L1, us1, -1, _, rfl, rfl, SqL.of hA4, at_end gx', tx, _, 0, _, rfl, rfl, rx', atI_nat (j := 0) rfl, ?_⟩
          refine ⟨_, rfl, _, rfl, L1, us1, rfl, .inl (SqL.of hA4), _, _, rfl, rfl, L2, us2, (k : Int), _, rfl, congrArg V.int eI, SqL.of hL4, atI_nat gy, ty, _, 0, _, rfl, rfl, ry', atI_nat (j := 0) rfl, rfl, _, rfl, ?_⟩
          by_cases c2 : x.1 = y.1
          · refine iteD (by rw [c2]) ?_
            refine ⟨_, rfl, 1, rfl, L1, us1, -1, _, rfl, rfl, SqL.of hA4, at_end gx', tx, _, 1, _, rfl, rfl, rx', atI_nat (j := 1) rfl, ?_⟩
            refine ⟨_, rfl, _, rfl, L1, us1, rfl, .inl (SqL.of hA4), _, _, rfl, rfl, L2, us2, (k : Int), _, rfl, congrArg V.int eI, SqL.of hL4, atI_nat gy, ty, _, 1, _, rfl, rfl, ry', atI_nat (j := 1) rfl, _, _, rfl, rfl, ?_⟩
            have := q _ sC
            have ed : decide (u <:+ v) = decide ((x.2 : Int) ≤ (y.2 : Int)) := decide_eq_decide.mpr (ans.trans ⟨fun z => by have := z.2.2; omega, fun z => ⟨c1, c2, by omega⟩⟩)
            rw [ed] at this
            exact this
          · refine iteE (fun e => c2 (sg_inj.mp (V.str.inj e))) ?_
            have hn : ¬ u <:+ v := fun q1 => c2 (ans.mp q1).2.1
            have := q _ sC
            rw [decide_eq_false hn] at this
            exact this
        · refine iteE (fun e => c1 (map_sr_inj e)) ?_
          have hn : ¬ u <:+ v := fun q1 => c1 (ans.mp q1).1
          have := q _ sC
          rw [decide_eq_false hn] at this
          exact this
end
end LR

namespace LR
open PySem PySem.Spec PyProof.Rows L2
open PySem.W (Datum DatumOrd Holds HoldAll Tup)
theorem du2 {k : Nat} {A : Around} (hr : Room k A) : A.units + 2 < cLine := by
  have := hr.un
  omega
/-! ### walls in the heap -/
structure WlOk (H : Hp) (t : Addr) (h g w0 w1 W B : Int) : Prop where
  it : IT H t [w0, w1]
  eW : (w1 - h) / g = W
  eB : (h - w0) / g = B
  mW : W ≤ 20
  mB : B ≤ 20
  b0 : -1000000 ≤ w0 ∧ w0 ≤ 1000000
  b1 : -1000000 ≤ w1 ∧ w1 ≤ 1000000
theorem WlOk.mv {H H' : Hp} {t : Addr} {h g w0 w1 W B : Int} (s : WlOk H t h g w0 w1 W B) (e : Same H H') : WlOk H' t h g w0 w1 W B := { s with it := s.it.mv e }
theorem lt_dec {a b : Int} : (DatumOrd.lt a b = true) = (a < b) := by
  show (decide (a < b) = true) = (a < b)
  exact decide_eq_true_eq
theorem min_tri {o : O3} (ho : isO o) {x y z : Int} (h1 : x < y) (h2 : y < z) : PySem.W.minOf (sel o x y z 0) [sel o x y z 1, sel o x y z 2] = x := by
  unfold PySem.W.minOf
  simp only [List.foldl_cons, List.foldl_nil, lt_dec]
  rcases ho with e | e | e | e | e | e <;> subst e <;> simp only [sel] <;> simp <;> (repeat' split) <;> omega
theorem max_tri {o : O3} (ho : isO o) {x y z : Int} (h1 : x < y) (h2 : y < z) : PySem.W.maxOf (sel o x y z 0) [sel o x y z 1, sel o x y z 2] = z := by
  unfold PySem.W.maxOf
  simp only [List.foldl_cons, List.foldl_nil, lt_dec]
  rcases ho with e | e | e | e | e | e <;> subst e <;> simp only [sel] <;> simp <;> (repeat' split) <;> omega
theorem inb_box {h g w0 w1 W B : Int} (hg : 1 ≤ g) (eW : (w1 - h) / g = W) (eB : (h - w0) / g = B) {u : Wd} (hi : inb W B u = true) : w0 ≤ px h g u ∧ pz h g u ≤ w1 := by
  rw [← eW, ← eB] at hi
  exact (in_walls hg u).mpr hi
theorem inb_pos {W B : Int} {u : Wd} (hi : inb W B u = true) : 1 ≤ W ∧ 1 ≤ B := by
  have := inb_iff.mp hi
  have := pr_pos u
  omega
section
variable {P : Program} {w : World} {K : PySem.W.Frag} {mg : Str → Option Value} {base : Heap}
/-! ### are_walls, need_walls, box_of -/
def spAreWalls : Sp := fun vs H Q _ => ∃ (t : Addr) (ns : List Int), vs = [.ref t] ∧ IT H t ns ∧ ns.length = 2 ∧ (∀ n ∈ ns, -1000000 ≤ n ∧ n ≤ 1000000) ∧ ∀ H', Same H H' → Q (.bl true) H'
theorem c_are_walls (T : Top K mg) : Cal P w K mg base 3 "are_walls" spAreWalls := by
  refine T.d_are_walls.cal sc_are_walls (fun vs H Q E h => ?_) (fun f cdv A outer s H vs Q E hr h => ?_)
  · obtain ⟨t, ns, rfl, _⟩ := h
    rfl
  · obtain ⟨t, ns, rfl, ht, hl, hb, q⟩ := h
    refine ⟨_, pss_cons (ps_if (PW.pt (pw_or (pt_not (pt_val (pe_callB call_isi (by rfl) T.z_isinstance (by decide +kernel) (pa_cons (pv 0) (pa_cons (pe_bltn (v := .ty "tuple") (by rfl) T.z_tuple (by decide +kernel) rfl) pa_nil)))))
        (pw_or1 (pt_cmpR op_ne (pe_callB call_len_seq (by rfl) T.z_len PySem.boot_len (pa_cons (pv 0) pa_nil)) pe_int (nomark _))))) (pss_one (ps_ret pe_bl)) pss_nil)
      (pss_one (ps_ret (pe_callB (cr_all rfl) (by rfl) T.z_all (by decide +kernel) (pa_cons
          (pe_lc (own := [("place", 1)]) (g := gName 1) (tt := tYes) rfl sc_are_walls.nd (pi_tup (pv 0)) (blkOk_by (own := [("place", 1)]) (N := n_are_walls) (sc := defScope s_are_walls) (by decide +kernel))
            (fun _ _ _ _ _ => pg_name (i := 1) sc_are_walls.nd rfl (.inl rfl)) (fun _ _ _ _ _ => pts_nil)
            (fun _ _ _ _ _ => pe_c (c_is_in T) hr (by decide) (by rfl) (pa_cons (pv 1) (pa_cons (pe_op op_mul (pe_un un_neg pe_int) (pe_gl (by rfl) T.g_MP)) (pa_cons (pe_op op_mul pe_int (pe_gl (by rfl) T.g_MP)) pa_nil))))) pa_nil)))), ?_⟩
    refine ⟨_, rfl, _, _, _, _, _, rfl, .ty "tuple", .base (.tup ht), kit_ty (r := true) (by decide +kernel), true, rfl, iteF ?_⟩
    refine ⟨_, rfl, t, _, rfl, .inr ht.sq, rfl, false, by rw [List.length_map, hl]; rfl, iteF ?_⟩
    refine ⟨_, rfl, t, rfl, ⟨_, ht.sq⟩, fun D hD => ?_⟩
    refine lc_tup (K := K) (a := t) (xs := ns.map V.int) (fun i H' => Same H H' ∧ H' D = some (.lst ((List.replicate i true).map V.bl))) ⟨Same.new hD, upd_same⟩ (fun i H' _ p => (ht.mv p.1).sq) ?_ ?_
    · rintro i x H' hx ⟨s1, hd⟩
      obtain ⟨z, hz, rfl⟩ := map_at hx
      have hzb := hb z (List.mem_of_getElem? hz)
      refine ⟨rfl, _, rfl, 4, rfl, -4, 10 ^ 18, rfl, rfl, .inl ⟨by decide, by decide⟩, 4, 10 ^ 18, rfl, rfl, .inl ⟨by decide, by decide⟩, z, -4 * 10 ^ 18, 4 * 10 ^ 18, rfl, by omega, by omega, _, hd, ?_, ?_⟩
      · have := (List.getElem?_eq_some_iff.mp hz).1
        rw [List.length_map, List.length_replicate]
        exact szt (by omega)
      · refine ⟨Same.wr s1 hD, ?_⟩
        rw [upd_same, List.replicate_succ', List.map_append]
        rfl
    · rintro H' ⟨s1, hd⟩
      refine ⟨D, _, rfl, SqL.of hd, ?_⟩
      rw [all_rep]
      exact q H' s1
def spNeedWalls : Sp := fun vs H Q _ => ∃ (t t2 : Addr) (h g : Int) (o : O3) (u : Wd) (w0 w1 W B : Int), vs = [.ref t, .ref t2] ∧ StOk H t h g o u ∧ WlOk H t2 h g w0 w1 W B ∧ inb W B u = true ∧ ∀ H', Same H H' → Q .non H'
theorem c_need_walls (T : Top K mg) : Cal P w K mg base 5 "need_walls" spNeedWalls := by
  refine T.d_need_walls.cal sc_need_walls (fun vs H Q E h => ?_) (fun f cdv A outer s H vs Q E hr h => ?_)
  · obtain ⟨t, t2, h, g, o, u, w0, w1, W, B, rfl, _⟩ := h
    rfl
  · obtain ⟨t, t2, h, g, o, u, w0, w1, W, B, rfl, S, L, hi, q⟩ := h
    refine ⟨_, pss_cons (ps_expr (pe_c (c_need_state T) hr (by decide) (by rfl) (pa_cons (pv 0) pa_nil)))
      (pss_one (ps_if (PW.pt (pw_or (pt_not (pt_val (pe_c (c_are_walls T) hr (by decide) (by rfl) (pa_cons (pv 1) pa_nil))))
        (pw_or (pt_cmpR op_gt (pe_ix ix_tup (pv 1) pe_int (fun _ _ => rfl)) (pe_callB (cr_minT rfl (du2 hr)) (by rfl) T.z_min (by decide +kernel) (pa_cons (pv 0) pa_nil)) (nomark _))
        (pw_or1 (pt_cmpR op_lt (pe_ix ix_tup (pv 1) pe_int (fun _ _ => rfl)) (pe_callB (cr_maxT rfl (du2 hr)) (by rfl) T.z_max (by decide +kernel) (pa_cons (pv 0) pa_nil)) (nomark _)))))) (pss_one ps_never) pss_nil)), ?_⟩
    refine ⟨_, rfl, t, _, rfl, S.it, rfl, fun n hn => by have := S.bd n hn; omega, S.nd, fun H1 s1 => ?_⟩
    have hx := inb_box S.g1 L.eW L.eB hi
    refine ⟨_, rfl, t2, _, rfl, (L.mv s1).it, rfl, fun n hn => ?_, fun H2 s2 => ?_⟩
    · have a := L.b0
      have b := L.b1
      simp only [List.mem_cons, List.not_mem_nil, or_false] at hn
      rcases hn with e | e <;> omega
    · refine ⟨true, rfl, iteF ?_⟩
      have L2' := ((L.mv s1).mv s2).it.sq (K := K)
      have S2 := ((S.mv s1).mv s2)
      refine ⟨_, rfl, t2, _, 0, _, rfl, rfl, L2', atI_nat (j := 0) rfl, _, rfl, t, _, _, rfl, S2.tr.sq, _, _, rfl, rfl, _, rfl, ?_⟩
      rw [min_tri S.oo S.lt1 S.lt2]
      refine iteE (by omega) ?_
      refine ⟨_, rfl, t2, _, 1, _, rfl, rfl, L2', atI_nat (j := 1) rfl, _, rfl, t, _, _, rfl, S2.tr.sq, _, _, rfl, rfl, _, rfl, ?_⟩
      rw [max_tri S.oo S.lt1 S.lt2]
      refine iteE (by omega) (q _ (Same.trans s1 s2))
def spBox : Sp := fun vs H Q _ => ∃ (t t2 : Addr) (h g : Int) (o : O3) (u : Wd) (w0 w1 W B : Int), vs = [.ref t, .ref t2] ∧ StOk H t h g o u ∧ WlOk H t2 h g w0 w1 W B ∧ ∀ H' p, Same H H' → IT H' p [W, B] → Q (.ref p) H'
theorem c_box_of (T : Top K mg) : Cal P w K mg base 3 "box_of" spBox := by
  refine T.d_box_of.cal sc_box_of (fun vs H Q E h => ?_) (fun f cdv A outer s H vs Q E hr h => ?_)
  · obtain ⟨t, t2, h, g, o, u, w0, w1, W, B, rfl, _⟩ := h
    rfl
  · obtain ⟨t, t2, h, g, o, u, w0, w1, W, B, rfl, S, L, q⟩ := h
    refine ⟨_, pss_cons (ps_par (i := 2) (j := 3) (by rfl) sc_box_of.nd rfl rfl (by decide) rfl rfl (pa_cons (pe_c (c_middle_of T) hr (by decide) (by rfl) (pa_cons (pv 0) pa_nil)) (pa_cons (pe_c (c_grain_of T) hr (by decide) (by rfl) (pa_cons (pv 0) pa_nil)) pa_nil)) (by rfl))
      (pss_one (ps_ret (pe_tup (pa_cons (pe_op op_fdiv (pe_op op_sub (pe_ix ix_tup (pv 1) pe_int (fun _ _ => rfl)) (pv 2)) (pv 3)) (pa_cons (pe_op op_fdiv (pe_op op_sub (pv 2) (pe_ix ix_tup (pv 1) pe_int (fun _ _ => rfl))) (pv 3)) pa_nil))))), ?_⟩
    have g0 : 0 < g := by have := S.g1; omega
    have g9 := S.g2
    refine ⟨_, rfl, t, _, _, _, _, rfl, S.tr, S.oo, S.lt1, S.lt2, fun H1 s1 => ?_⟩
    refine ⟨_, rfl, t, _, _, _, _, rfl, (S.mv s1).tr, S.oo, S.lt1, S.lt2, fun H2 s2 => ⟨_, _, rfl, ?_⟩⟩
    rw [hrt, gap1, gap2, gcd_scale g0 (pr_gcd u)]
    have L2' := ((L.mv s1).mv s2).it.sq (K := K)
    refine ⟨_, rfl, t2, _, 1, _, rfl, rfl, L2', atI_nat (j := 1) rfl, _, rfl, _, _, rfl, rfl, _, rfl, _, _, rfl, rfl, ⟨g0, by omega⟩, ?_⟩
    refine ⟨_, rfl, _, rfl, t2, _, 0, _, rfl, rfl, L2', atI_nat (j := 0) rfl, _, _, rfl, rfl, _, rfl, _, _, rfl, rfl, ⟨g0, by omega⟩, (by show 2 ≤ sizeLine; decide), fun p hp => ?_⟩
    refine q _ p (Same.mk (Same.trans s1 s2) hp) ?_
    show upd _ p (.tup [.int ((w1 - h) / g), .int ((h - w0) / g)]) p = _
    rw [upd_same, L.eW, L.eB]
    rfl
end
end LR

namespace LR
open PySem PySem.Spec PyProof.Rows L2
open PySem.W (Datum DatumOrd Holds HoldAll Tup)
theorem rg_all : ((List.range 21).all fun m => (List.range m).all fun i => Builtin.Range.small (2 * (1 + (i : Int))) ((m : Int) + 1) (1 + (i : Int)) && decide (Builtin.Range.rangeSize (2 * (1 + (i : Int))) ((m : Int) + 1) (1 + (i : Int)) = ((m / (i + 1) - 1 : Nat) : Int))) = true := by decide +kernel
theorem rg_ok {m i : Nat} (hm : m ≤ 20) (hi : i < m) : RgC (2 * (1 + (i : Int))) ((m : Int) + 1) (1 + (i : Int)) (m / (i + 1) - 1) := by
  have h := List.all_eq_true.mp (List.all_eq_true.mp rg_all m (List.mem_range.mpr (by omega))) i (List.mem_range.mpr hi)
  rw [Bool.and_eq_true, decide_eq_true_eq] at h
  exact ⟨by omega, by omega, h.1, h.2⟩
theorem getD_at {f : List Int} {i : Nat} (h : i < f.length) : f[i]? = some (f.getD i 0) := by
  rw [List.getD_eq_getElem?_getD, List.getElem?_eq_getElem h]
  rfl
theorem flat_rep (k : Nat) (v : V) : (List.replicate k [v]).flatten = List.replicate k v := by
  induction k with
  | zero => rfl
  | succ k ih => rw [List.replicate_succ, List.flatten_cons, ih]; rfl
section
variable {P : Program} {w : World} {K : PySem.W.Frag} {mg : Str → Option Value} {base : Heap}
/-! ### mobius, chosen_pairs -/
def spMob : Sp := fun vs H Q _ => ∃ m : Nat, vs = [.int (m : Int)] ∧ 1 ≤ m ∧ m ≤ 20 ∧ ∀ (H' : Hp) (p : Addr), Same H H' → H' p = some (.lst ((mob m).map V.int)) → Q (.ref p) H'
theorem c_mobius (T : Top K mg) : Cal P w K mg base 1 "mobius" spMob := by
  refine T.d_mobius.cal sc_mobius (fun vs H Q E h => ?_) (fun f cdv A outer s H vs Q E hr h => ?_)
  · obtain ⟨m, rfl, _⟩ := h
    rfl
  · obtain ⟨m, rfl, hm1, hm2, q⟩ := h
    refine ⟨_, pss_cons (ps_set (i := 1) sc_mobius.nd rfl (.inl rfl) (pe_op op_cat (pe_lst (pa_cons pe_int (pa_cons pe_int pa_nil))) (pe_op op_rep (pe_lst (pa_cons pe_int pa_nil)) (pe_op op_sub (pv 0) pe_int))))
      (pss_cons (ps_for PassesOwn.never rfl (pi_range2 (by rfl) T.z_range (pa_cons pe_int (pa_cons (pe_op op_add (pv 0) pe_int) pa_nil))) (pg_name (i := 2) sc_mobius.nd rfl (.inl rfl))
        (pss_one (ps_if (pt_cmpR op_ne (pe_ix ix_list (pv 1) (pv 2) (fun _ _ => rfl)) pe_int (nomark _))
          (pss_one (ps_for PassesOwn.never rfl (pi_range3 rfl T.z_range (pa_cons (pe_op op_mul pe_int (pv 2)) (pa_cons (pe_op op_add (pv 0) pe_int) (pa_cons (pv 2) pa_nil)))) (pg_name (i := 3) sc_mobius.nd rfl (.inl rfl))
            (pss_one (ps_augS (pv 1) (pv 3) get_list (pe_ix ix_list (pv 1) (pv 2) (fun _ _ => rfl)) ip_sub set_list)))) pss_nil)))
      (pss_one (ps_ret (pv 1)))), ?_⟩
    refine ⟨(by show 2 ≤ sizeLine; decide), fun a na => ⟨(by show 1 ≤ sizeLine; decide), fun b nb => ?_⟩⟩
    refine ⟨_, rfl, m, 1, rfl, rfl, b, (m : Int) - 1, _, rfl, rfl, upd_same, by omega, by omega, ?_, fun c nc => ?_⟩
    · have e : (((m : Int) - 1).toNat) = m - 1 := by omega
      rw [e]
      exact szl (by simp only [List.length_cons, List.length_nil]; omega)
    have e1 : (((m : Int) - 1).toNat) = m - 1 := by omega
    rw [e1, flat_rep]
    have nac : a ≠ c := fun e => by
      have hab : a ≠ b := fun e => by
        rw [← e, upd_same] at nb
        cases nb
      rw [← e, upd_ne hab, upd_same] at nc
      cases nc
    have nab : a ≠ b := fun e => by
      rw [← e, upd_same] at nb
      cases nb
    refine ⟨a, c, _, _, rfl, rfl, by rw [upd_ne nac, upd_ne nab, upd_same], upd_same, szl (by simp only [List.length_cons, List.length_nil, List.length_replicate]; omega), fun L nL => ?_⟩
    have sL := Same.mk (o := .lst ([V.int 0, V.int 1] ++ List.replicate (m - 1) (V.int 0))) (Same.mk (o := .lst (List.replicate (m - 1) (V.int 0))) (Same.mk (o := .lst [V.int 0]) (Same.new (o := .lst [V.int 0, V.int 1]) na) nb) nc) nL
    have nL0 : H L = none := Same.free (Same.mk (o := .lst (List.replicate (m - 1) (V.int 0))) (Same.mk (o := .lst [V.int 0]) (Same.new (o := .lst [V.int 0, V.int 1]) na) nb) nc) nL
    have em0 : [V.int 0, V.int 1] ++ List.replicate (m - 1) (V.int 0) = (mob0 m).map V.int := by
      unfold mob0
      rw [List.map_append, List.map_replicate]
      rfl
    rw [em0] at sL ⊢
    have eN : (((m : Nat) : Int) + 1 - 1).toNat = m := by omega
    refine ⟨_, rfl, _, _, rfl, rfl, 1, (m : Int) + 1, rfl, ⟨by decide, by decide, by omega, by omega⟩, ?_⟩
    refine for_range (lo := 1) (n := ((m : Int) + 1 - 1).toNat) (fun i σ H' => ∃ v2 v3 : Option V, σ = [some (.int (m : Int)), some (.ref L), v2, v3] ∧ Same H H' ∧ H' L = some (.lst (((List.range i).foldl (fun f j => mobStep m f (j + 1)) (mob0 m)).map V.int)))
      ⟨none, none, rfl, sL, upd_same⟩ ?_ ?_
    · rintro i σ H' hi ⟨v2, v3, rfl, s1, hL⟩
      rw [eN] at hi
      have hlen := (mob_len m i).trans (mob0_len hm1)
      generalize hf : (List.range i).foldl (fun f j => mobStep m f (j + 1)) (mob0 m) = f at *
      have hat : (f.map V.int)[i + 1]? = some (.int (f.getD (i + 1) 0)) := by rw [List.getElem?_map, getD_at (by omega)]; rfl
      have eI : (1 : Int) + (i : Int) = ((i + 1 : Nat) : Int) := by omega
      have step : (List.range (i + 1)).foldl (fun f j => mobStep m f (j + 1)) (mob0 m) = mobStep m f (i + 1) := by
        rw [List.range_succ, List.foldl_append, hf]
        rfl
      refine ⟨_, rfl, _, rfl, L, _, _, _, rfl, rfl, SqL.of hL, at_of eI hat, rfl, _, rfl, ?_⟩
      by_cases h0 : f.getD (i + 1) 0 = 0
      · refine iteNS (congrArg V.int h0) ?_
        refine ⟨_, v3, rfl, s1, ?_⟩
        rw [step]
        unfold mobStep
        rw [if_neg (fun z => z h0)]
        exact hL
      · refine iteNT (fun e => h0 (V.int.inj e)) ?_
        refine ⟨_, rfl, 2, _, rfl, rfl, .inl ⟨by decide, by decide⟩, _, rfl, _, _, rfl, rfl, _, rfl, _, _, _, m / (i + 1) - 1, rfl, rg_ok hm2 hi, ?_⟩
        refine for_rangeC (lo := 2 * (1 + (i : Int))) (c := 1 + (i : Int)) (n := m / (i + 1) - 1) (fun k σ H2 => ∃ v3 : Option V, σ = [some (.int (m : Int)), some (.ref L), some (.int (1 + (i : Int))), v3] ∧ Same H H2 ∧ H2 L = some (.lst (((List.range k).foldl (mobIn (i + 1)) f).map V.int)))
          ⟨v3, rfl, s1, hL⟩ ?_ ?_
        · rintro k σ H2 hk ⟨v3, rfl, s2, hL2⟩
          have hlen2 : ((List.range k).foldl (mobIn (i + 1)) f).length = m + 1 := by
            rw [← hlen]
            clear hk hL2
            induction k with
            | zero => rfl
            | succ k ih => rw [List.range_succ, List.foldl_append, List.foldl_cons, List.foldl_nil, mobIn_len, ih]
          have step2 : (List.range (k + 1)).foldl (mobIn (i + 1)) f = mobIn (i + 1) ((List.range k).foldl (mobIn (i + 1)) f) k := by
            rw [List.range_succ, List.foldl_append]
            rfl
          generalize hf2 : (List.range k).foldl (mobIn (i + 1)) f = f2 at *
          have hle : 2 * (i + 1) + k * (i + 1) ≤ m := by
            have h1 : k + 2 ≤ m / (i + 1) := by omega
            have h2 := Nat.mul_le_of_le_div (i + 1) (k + 2) m h1
            rw [Nat.add_mul] at h2
            omega
          have eM : 2 * (1 + (i : Int)) + (k : Int) * (1 + (i : Int)) = ((2 * (i + 1) + k * (i + 1) : Nat) : Int) := by
            push_cast
            rw [Int.add_comm (i : Int) 1]
          have hat2 : (f2.map V.int)[i + 1]? = some (.int (f2.getD (i + 1) 0)) := by rw [List.getElem?_map, getD_at (by omega)]; rfl
          have hat3 : (f2.map V.int)[2 * (i + 1) + k * (i + 1)]? = some (.int (f2.getD (2 * (i + 1) + k * (i + 1)) 0)) := by rw [List.getElem?_map, getD_at (by omega)]; rfl
          have hix : ixN (f2.map V.int).length ((2 * (i + 1) + k * (i + 1) : Nat) : Int) = some (2 * (i + 1) + k * (i + 1)) := ix_map (getD_at (by omega))
          refine ⟨_, rfl, _, rfl, L, _, _, _, rfl, congrArg V.int eM, SqL.of hL2, atI_nat hat3, ?_⟩
          refine ⟨_, rfl, _, rfl, L, _, _, _, rfl, rfl, SqL.of hL2, at_of eI hat2, _, _, rfl, rfl, ?_⟩
          refine ⟨L, _, _, _, rfl, congrArg V.int eM, hL2, hix, _, rfl, Same.wr s2 nL0, ?_⟩
          rw [upd_same, step2]
          unfold mobIn
          rw [List.map_set]
        · rintro σ H2 ⟨v3, rfl, s2, hL2⟩
          refine ⟨_, v3, rfl, s2, ?_⟩
          rw [step]
          unfold mobStep
          rw [if_pos h0]
          exact hL2
    · rintro σ H' ⟨v2, v3, rfl, s1, hL⟩
      rw [eN] at hL
      exact ⟨_, rfl, q H' L s1 hL⟩
theorem chL_succ (W B : Nat) (ss : List Int) (n : Nat) : chL W B ss (n + 1) = chL W B ss n ++ (if ss.getD n 0 ≠ 0 then [ss.getD n 0 * ((W : Int) / (n : Int)) * ((B : Int) / (n : Int))] else []) := by
  unfold chL
  rw [List.range_succ, List.filter_append, List.map_append]
  congr 1
  by_cases h : ss.getD n 0 ≠ 0
  · rw [if_pos h, List.filter_cons, if_pos (decide_eq_true h)]
    rfl
  · rw [if_neg h, List.filter_cons, if_neg (by rw [decide_eq_false h]; exact Bool.false_ne_true)]
    rfl
theorem chL_len (W B : Nat) (ss : List Int) (n : Nat) : (chL W B ss n).length ≤ n := by
  unfold chL
  rw [List.length_map]
  refine Nat.le_trans (List.length_filter_le _ _) ?_
  rw [List.length_range]
  exact Nat.le_refl n
def spChosen : Sp := fun vs H Q _ => ∃ W B : Nat, vs = [.int (W : Int), .int (B : Int)] ∧ 1 ≤ W ∧ W ≤ 20 ∧ 1 ≤ B ∧ B ≤ 20 ∧ ∀ H', Same H H' → Q (.int (chosen W B)) H'
theorem c_chosen_pairs (T : Top K mg) : Cal P w K mg base 2 "chosen_pairs" spChosen := by
  refine T.d_chosen_pairs.cal sc_chosen_pairs (fun vs H Q E h => ?_) (fun f cdv A outer s H vs Q E hr h => ?_)
  · obtain ⟨W, B, rfl, _⟩ := h
    rfl
  · obtain ⟨W, B, rfl, hW1, hW2, hB1, hB2, q⟩ := h
    refine ⟨_, pss_cons (ps_set (i := 2) sc_chosen_pairs.nd rfl (.inl rfl) (pe_c (c_mobius T) hr (by decide) (by rfl) (pa_cons (pe_callB (call_min2 rfl) (by rfl) T.z_min (by decide +kernel) (pa_cons (pv 0) (pa_cons (pv 1) pa_nil))) pa_nil)))
      (pss_one (ps_ret (pe_callB (cr_sum rfl) (by rfl) T.z_sum (by decide +kernel) (pa_cons
        (pe_lc (own := [("at", 3), ("sign", 4)]) (g := gTup K 2 (gCons (gName 3) (gCons (gName 4) gNil))) (tt := tTest (tOp rNe (tVar 4) (tC (.int 0)))) rfl sc_chosen_pairs.nd
          (pi_enum (by rfl) T.z_enumerate (pa_cons (pv 2) pa_nil)) (blkOk_by (own := [("at", 3), ("sign", 4)]) (N := n_chosen_pairs) (sc := defScope s_chosen_pairs) (by decide +kernel))
          (fun _ _ _ _ _ => pg_tup rfl (pgs_cons (pg_name (i := 3) sc_chosen_pairs.nd rfl (.inl rfl)) (pgs_cons (pg_name (i := 4) sc_chosen_pairs.nd rfl (.inl rfl)) pgs_nil)))
          (fun _ _ _ _ _ => pts_one (pt_cmpR op_ne (pv 4) pe_int (nomark _)))
          (fun _ _ _ _ _ => pe_op op_mul (pe_op op_mul (pv 4) (pe_op op_fdiv (pv 0) (pv 3))) (pe_op op_fdiv (pv 1) (pv 3)))) pa_nil)))), ?_⟩
    have em : (if (B : Int) < (W : Int) then (B : Int) else (W : Int)) = ((min W B : Nat) : Int) := by
      by_cases h : B < W
      · rw [if_pos (by omega), Nat.min_eq_right (by omega)]
      · rw [if_neg (by omega), Nat.min_eq_left (by omega)]
    have hm1 : 1 ≤ min W B := Nat.le_min.mpr ⟨hW1, hB1⟩
    have hm2 : min W B ≤ 20 := Nat.le_trans (Nat.min_le_left _ _) hW2
    refine ⟨_, rfl, _, rfl, _, _, rfl, min W B, congrArg (fun z => [V.int z]) em, hm1, hm2, fun H1 L s1 hL => ?_⟩
    have hz := mob_zero hm2
    have hch : chosen W B = (chL W B (mob (min W B)) (mob (min W B)).length).sum := rfl
    have hml : (mob (min W B)).length = min W B + 1 := (mob_len _ _).trans (mob0_len hm1)
    generalize hss : mob (min W B) = ss at *
    refine ⟨_, rfl, L, _, rfl, SqL.of hL, fun D hD => ?_⟩
    have hD0 : H D = none := Same.free s1 hD
    have hDL : L ≠ D := ne_of_none hL hD
    refine lc_enum (K := K) (a := L) (xs := ss.map V.int) (fun i H' => Same H H' ∧ H' L = some (.lst (ss.map V.int)) ∧ H' D = some (.lst ((chL W B ss i).map V.int))) ⟨Same.mk s1 hD, by rw [upd_ne hDL]; exact hL, upd_same⟩ (fun i H' _ p => SqL.of p.2.1) ?_ ?_
    · rintro i v Tq H2 hv ⟨s2, hL2, hD2⟩ nT
      obtain ⟨n, hn, rfl⟩ := map_at hv
      have hil := (List.getElem?_eq_some_iff.mp hn).1
      have en : ss.getD i 0 = n := by
        rw [List.getD_eq_getElem?_getD, hn]
        rfl
      have neD : D ≠ Tq := ne_of_none hD2 nT
      have neL : L ≠ Tq := ne_of_none hL2 nT
      have s3 := Same.mk (o := .tup [V.int (i : Nat), V.int n]) s2 nT
      have hL3 : upd H2 Tq (.tup [V.int (i : Nat), V.int n]) L = some (.lst (ss.map V.int)) := by rw [upd_ne neL]; exact hL2
      have hD3 : upd H2 Tq (.tup [V.int (i : Nat), V.int n]) D = some (.lst ((chL W B ss i).map V.int)) := by rw [upd_ne neD]; exact hD2
      refine ⟨Tq, _, rfl, .inl (.inl upd_same), rfl, _, _, rfl, _, _, rfl, rfl, rfl, ?_⟩
      refine ⟨_, rfl, rfl, _, rfl, ?_⟩
      by_cases h0 : n = 0
      · refine iteNS (congrArg V.int h0) ⟨s3, hL3, ?_⟩
        rw [chL_succ, en, if_neg (fun z => z h0), List.append_nil]
        exact hD3
      · refine iteNT (fun e => h0 (V.int.inj e)) ?_
        have hi0 : 0 < i := by
          rcases Nat.eq_zero_or_pos i with e | e
          · subst e
            exact absurd (en.symm.trans hz) h0
          · exact e
        have b1 : 0 ≤ (W : Int) / (i : Int) := Int.ediv_nonneg (by omega) (by omega)
        have b2 : (W : Int) / (i : Int) ≤ W := Int.ediv_le_self _ (by omega)
        have b3 : 0 ≤ (B : Int) / (i : Int) := Int.ediv_nonneg (by omega) (by omega)
        have b4 : (B : Int) / (i : Int) ≤ B := Int.ediv_le_self _ (by omega)
        refine ⟨_, rfl, _, rfl, _, rfl, _, _, rfl, rfl, ⟨by omega, by omega⟩, n, (W : Int) / (i : Int), rfl, rfl, .inr ⟨by omega, by omega⟩, ?_⟩
        refine ⟨_, rfl, _, rfl, _, _, rfl, rfl, ⟨by omega, by omega⟩, _, (B : Int) / (i : Int), rfl, rfl, .inr ⟨by omega, by omega⟩, _, hD3, ?_, Same.wr s3 hD0, ?_, ?_⟩
        · rw [List.length_map]
          have := chL_len W B ss i
          exact szt (by omega)
        · rw [upd_ne hDL]
          exact hL3
        · rw [upd_same, chL_succ, en, if_pos h0, List.map_append]
          rfl
    · rintro H2 ⟨s2, hL2, hD2⟩
      rw [List.length_map] at hD2
      refine ⟨D, _, rfl, SqL.of hD2, ?_⟩
      have := q H2 s2
      rw [hch] at this
      exact this
end
end LR

namespace LR
open PySem PySem.Spec PyProof.Rows L2
open PySem.W (Datum DatumOrd Holds HoldAll Tup)
/-- a new tuple at the end of a list -/
theorem app_new {H1 : Hp} {R p : Addr} {rs : List V} {ns : List (List Int)} {n : List Int} (hR : H1 R = some (.lst rs)) (hT : Tps H1 rs ns) (hp : H1 p = none) :
    upd H1 p (.tup (n.map V.int)) R = some (.lst rs) ∧ upd (upd H1 p (.tup (n.map V.int))) R (.lst (rs ++ [.ref p])) R = some (.lst (rs ++ [.ref p])) ∧
    Tps (upd (upd H1 p (.tup (n.map V.int))) R (.lst (rs ++ [.ref p]))) (rs ++ [.ref p]) (ns ++ [n]) ∧ TK H1 (upd (upd H1 p (.tup (n.map V.int))) R (.lst (rs ++ [.ref p]))) ∧
    (∀ x o, x ≠ R → H1 x = some o → upd (upd H1 p (.tup (n.map V.int))) R (.lst (rs ++ [.ref p])) x = some o) ∧
    (∀ H, Same H H1 → H R = none → Same H (upd (upd H1 p (.tup (n.map V.int))) R (.lst (rs ++ [.ref p])))) := by
  have hRp : R ≠ p := ne_of_none hR hp
  have h1 : upd H1 p (.tup (n.map V.int)) R = some (.lst rs) := by rw [upd_ne hRp]; exact hR
  have k : TK H1 (upd (upd H1 p (.tup (n.map V.int))) R (.lst (rs ++ [.ref p]))) := (TK.new hp).trans (TK.lst h1)
  refine ⟨h1, upd_same, (hT.tk k).snoc ?_, k, fun x o hx e => ?_, fun H s hH => Same.wr (Same.mk s hp) hH⟩
  · show upd _ R _ p = _
    rw [upd_ne (Ne.symm hRp), upd_same]
  · rw [upd_ne hx, upd_ne (ne_of_none e hp)]
    exact e
/-- a word's pair as a tuple -/
def pl (w : Wd) : List Int := l2 (pr w)
theorem pl_inj {u v : Wd} (e : pl u = pl v) : u = v := by
  have e1 := (List.cons.inj e).1
  have e2 := (List.cons.inj (List.cons.inj e).2).1
  exact pr_inj u v (Prod.ext e1 e2)
section
variable {P : Program} {w : World} {K : PySem.W.Frag} {mg : Str → Option Value} {base : Heap}
/-! ### need_box -/
def spNeedBox : Sp := fun vs H Q _ => ∃ (t t2 : Addr) (h g : Int) (o : O3) (u : Wd) (w0 w1 W B k : Int), vs = [.ref t, .ref t2, .int k] ∧ 20 ≤ k ∧ StOk H t h g o u ∧ WlOk H t2 h g w0 w1 W B ∧ inb W B u = true ∧ ∀ H' p, Same H H' → IT H' p [W, B] → Q (.ref p) H'
theorem c_need_box (T : Top K mg) : Cal P w K mg base 6 "need_box" spNeedBox := by
  refine T.d_need_box.cal sc_need_box (fun vs H Q E h => ?_) (fun f cdv A outer s H vs Q E hr h => ?_)
  · obtain ⟨t, t2, h, g, o, u, w0, w1, W, B, k, rfl, _⟩ := h
    rfl
  · obtain ⟨t, t2, h, g, o, u, w0, w1, W, B, k, rfl, hk, S, L, hi, q⟩ := h
    refine ⟨_, pss_cons (ps_expr (pe_c (c_need_walls T) hr (by decide) (by rfl) (pa_cons (pv 0) (pa_cons (pv 1) pa_nil))))
      (pss_cons (ps_asg (pe_c (c_box_of T) hr (by decide) (by rfl) (pa_cons (pv 0) (pa_cons (pv 1) pa_nil))) (pg_tup (n := 2) rfl (pgs_cons (pg_name (i := 3) sc_need_box.nd rfl (.inl rfl)) (pgs_cons (pg_name (i := 4) sc_need_box.nd rfl (.inl rfl)) pgs_nil))))
      (pss_cons (ps_if (pt_cmpR op_gt (pe_callB (call_min2 rfl) (by rfl) T.z_min (by decide +kernel) (pa_cons (pv 3) (pa_cons (pv 4) pa_nil))) (pv 2) (nomark _)) (pss_one ps_never) pss_nil)
      (pss_one (ps_ret (pe_tup (pa_cons (pv 3) (pa_cons (pv 4) pa_nil))))))), ?_⟩
    refine ⟨_, rfl, _, rfl, t, t2, h, g, o, u, w0, w1, W, B, rfl, S, L, hi, fun H1 s1 => ?_⟩
    refine ⟨_, rfl, _, rfl, t, t2, h, g, o, u, w0, w1, W, B, rfl, S.mv s1, L.mv s1, fun H2 p2 s2 hp2 => ?_⟩
    refine ⟨p2, _, rfl, hp2.sq, rfl, _, _, rfl, _, _, rfl, rfl, ?_⟩
    have a := L.mW
    have b := L.mB
    refine ⟨_, rfl, _, rfl, W, B, rfl, _, rfl, _, _, rfl, rfl, _, rfl, iteE (by split <;> omega) ?_⟩
    exact ⟨_, rfl, _, rfl, (by show 2 ≤ sizeLine; decide), fun p hp => q _ p (Same.mk (Same.trans s1 s2) hp) upd_same⟩
/-! ### pairs_within -/
def spPW : Sp := fun vs H Q _ => ∃ (W B : Int), vs = [.int W, .int B] ∧ 1 ≤ W ∧ W ≤ 20 ∧ 1 ≤ B ∧ B ≤ 20 ∧ ∀ (H' : Hp) (p : Addr) (us : List V), Same H H' → H' p = some (.lst us) → Tps H' us ((LR.P W B []).map pl) → Q (.ref p) H'
theorem c_pairs_within (T : Top K mg) : Cal P w K mg base 1 "pairs_within" spPW := by
  refine T.d_pairs_within.cal sc_pairs_within (fun vs H Q E h => ?_) (fun f cdv A outer s H vs Q E hr h => ?_)
  · obtain ⟨W, B, rfl, _⟩ := h
    rfl
  · obtain ⟨W, B, rfl, hW1, hW2, hB1, hB2, q⟩ := h
    refine ⟨_, pss_cons (ps_par (i := 2) (j := 3) (by rfl) sc_pairs_within.nd rfl rfl (by decide) rfl rfl (pa_cons (pe_lst pa_nil) (pa_cons (pe_lst (pa_cons (pe_tup (pa_cons pe_int (pa_cons pe_int pa_nil))) pa_nil)) pa_nil)) (by rfl))
      (pss_cons (ps_while PassesOwn.never (pt_cmpR (op_neT (α := List (Tup Int)) (du0 hr (by decide))) (pv 3) (pe_lst pa_nil) (nomark _))
        (pss_cons (ps_asg (pe_bm0 PySem.F.plainAttrs_list PySem.F.slot_list_pop PySem.F.type_list_pop mt_pop (pv 3)) (pg_tup (n := 2) rfl (pgs_cons (pg_name (i := 4) sc_pairs_within.nd rfl (.inl rfl)) (pgs_cons (pg_name (i := 5) sc_pairs_within.nd rfl (.inl rfl)) pgs_nil))))
        (pss_cons (ps_expr (pe_bm PySem.F.plainAttrs_list PySem.F.slot_list_append PySem.F.type_list_append mt_append (pv 2) (pa_cons (pe_tup (pa_cons (pv 4) (pa_cons (pv 5) pa_nil))) pa_nil)))
        (pss_cons (ps_if (pt_cmpR op_le (pe_op op_add (pv 4) (pv 5)) (pv 1) (nomark _)) (pss_one (ps_expr (pe_bm PySem.F.plainAttrs_list PySem.F.slot_list_append PySem.F.type_list_append mt_append (pv 3) (pa_cons (pe_tup (pa_cons (pv 4) (pa_cons (pe_op op_add (pv 4) (pv 5)) pa_nil))) pa_nil)))) pss_nil)
        (pss_one (ps_if (pt_cmpR op_le (pe_op op_add (pv 4) (pv 5)) (pv 0) (nomark _)) (pss_one (ps_expr (pe_bm PySem.F.plainAttrs_list PySem.F.slot_list_append PySem.F.type_list_append mt_append (pv 3) (pa_cons (pe_tup (pa_cons (pe_op op_add (pv 4) (pv 5)) (pa_cons (pv 5) pa_nil))) pa_nil)))) pss_nil))))))
      (pss_one (ps_ret (pv 2)))), ?_⟩
    have few := P_few (W := W) (H := B) (by omega) hW2 (by omega) hB2
    refine ⟨Nat.zero_le _, fun F nF => ⟨(by show 2 ≤ sizeLine; decide), fun a na => ⟨(by show 1 ≤ sizeLine; decide), fun R nR => ⟨_, _, rfl, ?_⟩⟩⟩⟩
    have sF := Same.new (o := .lst []) nF
    have sa := Same.mk (o := .tup [V.int 1, V.int 1]) sF na
    have sR := Same.mk (o := .lst [V.ref a]) sa nR
    have nR0 : H R = none := Same.free sa nR
    have hF1 : upd H F (.lst []) F = some (.lst []) := upd_same
    have hF2 : upd (upd H F (.lst [])) a (.tup [.int 1, .int 1]) F = some (.lst []) := by rw [upd_ne (ne_of_none hF1 na)]; exact hF1
    have hFR : F ≠ R := ne_of_none hF2 nR
    have ib0 : inb W B [] = true := inb_iff.mpr ⟨hW1, hB1⟩
    refine ⟨fun m σ H' => Same H H' ∧ ∃ (us rs : List V) (fw rw : List Wd) (v4 v5 : Option V), σ = [some (.int W), some (.int B), some (.ref F), some (.ref R), v4, v5] ∧ H' F = some (.lst us) ∧ H' R = some (.lst rs) ∧ Tps H' us (fw.map pl) ∧ Tps H' rs (rw.map pl) ∧
        fw ++ rw.reverse.flatMap (LR.P W B) = LR.P W B [] ∧ (∀ v ∈ rw, inb W B v = true) ∧ m = (rw.reverse.flatMap (LR.P W B)).length,
      ⟨_, sR, [], [.ref a], [], [[]], none, none, rfl, by rw [upd_ne hFR]; exact hF2, upd_same, trivial, ⟨⟨a, rfl, ?_⟩, trivial⟩, ?_, ?_, rfl⟩, ?_⟩
    · have e : IT (upd (upd H F (.lst [])) a (.tup [.int 1, .int 1])) a [1, 1] := upd_same
      exact e.tk (TK.new nR)
    · show [] ++ (LR.P W B [] ++ []) = _
      rw [List.append_nil, List.nil_append]
    · intro v hv
      rw [List.mem_singleton.mp hv]
      exact ib0
    rintro m σ H' ⟨s1, us, rs, fw, rw', v4, v5, rfl, hF, hR, tF, tR, hsum, hin, rfl⟩
    refine ⟨_, rfl, Nat.zero_le _, fun N nN => ?_⟩
    have sN := Same.new (o := .lst []) nN
    have tR' := tR.tk (Same.tk sN)
    refine ⟨_, _, dv_list (SqL.of (sN _ _ hR)) tR'.dvs, dv_list (SqL.of upd_same) dvs_nil, _, rfl, ?_⟩
    have hF3 := sN _ _ hF
    have hR3 := sN _ _ hR
    have tF' := tF.tk (Same.tk sN)
    have s2 := Same.trans s1 sN
    generalize upd H' N (.lst []) = H2 at *
    have llen := congrArg List.length hsum
    rw [List.length_append] at llen
    rcases List.eq_nil_or_concat rw' with e | ⟨rw2, u, e⟩
    · subst e
      refine iteE (fun z => z rfl) ?_
      refine ⟨_, rfl, q H2 F us s2 hF3 ?_⟩
      have e2 : fw ++ [] = LR.P W B [] := hsum
      rw [List.append_nil] at e2
      rw [← e2]
      exact tF'
    · rw [List.concat_eq_append] at e
      subst e
      refine iteD (fun z => by simp at z) ?_
      rw [List.reverse_append] at hsum llen
      have hu : inb W B u = true := hin u (List.mem_append_right _ List.mem_cons_self)
      have hsum' : fw ++ (LR.P W B u ++ rw2.reverse.flatMap (LR.P W B)) = LR.P W B [] := hsum
      have llen' : fw.length + (LR.P W B u ++ rw2.reverse.flatMap (LR.P W B)).length = (LR.P W B []).length := llen
      rw [P_in hu] at hsum' llen'
      rw [List.map_append] at tR'
      -- the top of the pile
      obtain ⟨rs2, tt, rfl, tR2, htt⟩ : ∃ rs2 tt, rs = rs2 ++ [V.ref tt] ∧ Tps H2 rs2 (rw2.map pl) ∧ IT H2 tt (pl u) := by
        rcases List.eq_nil_or_concat rs with z | ⟨rs2, v, z⟩
        · rw [z] at tR'
          have := tR'.len
          simp at this
        · rw [List.concat_eq_append] at z
          subst z
          have hl := tR'.len
          simp only [List.length_append, List.length_cons, List.length_nil, List.length_map] at hl
          have key : ∀ (xs : List V) (ns : List (List Int)), xs.length = ns.length → Tps H2 (xs ++ [v]) (ns ++ [pl u]) → Tps H2 xs ns ∧ ∃ tt, v = .ref tt ∧ IT H2 tt (pl u) := by
            intro xs
            induction xs with
            | nil =>
              intro ns hl h
              cases ns with
              | nil =>
                obtain ⟨⟨tt, e, i⟩, _⟩ := h
                exact ⟨trivial, tt, e, i⟩
              | cons _ _ => simp at hl
            | cons x xs ih =>
              intro ns hl h
              cases ns with
              | nil => simp at hl
              | cons n ns =>
                obtain ⟨h1, h2⟩ := h
                obtain ⟨a, b⟩ := ih ns (by simpa using hl) h2
                exact ⟨⟨h1, a⟩, b⟩
          obtain ⟨h1, tt, e, h2⟩ := key rs2 (rw2.map pl) (by rw [List.length_map]; omega) tR'
          exact ⟨rs2, tt, by rw [e], h1, h2⟩
      refine ⟨fun σ' H3 => ∃ (c1 c2 : Bool), σ' = [some (.int W), some (.int B), some (.ref F), some (.ref R), some (.int (pr u).1), some (.int (pr u).2)] ∧ Same H H3 ∧ ∃ us' rs', H3 F = some (.lst us') ∧ H3 R = some (.lst rs') ∧ Tps H3 us' ((fw ++ [u]).map pl) ∧
          Tps H3 rs' ((rw2 ++ (if inb W B (false :: u) = true then [false :: u] else []) ++ (if inb W B (true :: u) = true then [true :: u] else [])).map pl), ?_, ?_⟩
      · rintro σ' H3 ⟨c1, c2, rfl, s3, us', rs', a1, a2, a3, a4⟩
        have kidsP : ((rw2 ++ (if inb W B (false :: u) = true then [false :: u] else []) ++ (if inb W B (true :: u) = true then [true :: u] else [])).reverse.flatMap (LR.P W B)) = (LR.P W B (true :: u) ++ LR.P W B (false :: u)) ++ rw2.reverse.flatMap (LR.P W B) := by
          rw [List.reverse_append, List.reverse_append, List.flatMap_append, List.flatMap_append, List.append_assoc]
          congr 1
          · cases e : inb W B (true :: u) with
            | true => simp
            | false => rw [P_out e]; rfl
          · congr 1
            cases e : inb W B (false :: u) with
            | true => simp
            | false => rw [P_out e]; rfl
        refine ⟨_, ?_, s3, us', rs', fw ++ [u], _, _, _, rfl, a1, a2, a3, a4, ?_, ?_, rfl⟩
        · rw [kidsP]
          have e0 : ([u].reverse ++ rw2.reverse).flatMap (LR.P W B) = u :: ((LR.P W B (true :: u) ++ LR.P W B (false :: u)) ++ rw2.reverse.flatMap (LR.P W B)) := by
            show (LR.P W B u ++ rw2.reverse.flatMap (LR.P W B)) = _
            rw [P_in hu]
            rfl
          rw [List.reverse_append, e0]
          exact Nat.lt_succ_self _
        · rw [kidsP, List.append_assoc]
          exact hsum'
        · intro v hv
          rw [List.mem_append, List.mem_append] at hv
          rcases hv with (hv | hv) | hv
          · exact hin v (List.mem_append_left _ hv)
          · split at hv
            · rename_i h1
              rw [List.mem_singleton.mp hv]
              exact h1
            · cases hv
          · split at hv
            · rename_i h1
              rw [List.mem_singleton.mp hv]
              exact h1
            · cases hv
      · -- one, other = rim.pop()
        have few1 : fw.length ≤ 400 := by omega
        have few2 : rw2.length ≤ 400 := by
          have e1 : ∀ l : List Wd, (∀ v ∈ l, inb W B v = true) → l.length ≤ (l.flatMap (LR.P W B)).length := by
            intro l
            induction l with
            | nil => intro _; exact Nat.le_refl _
            | cons x l ih =>
              intro hl
              have h1 := ih fun v hv => hl v (List.mem_cons_of_mem _ hv)
              rw [List.flatMap_cons, List.length_append, List.length_cons, P_in (hl x List.mem_cons_self), List.length_cons]
              omega
          have e2 := e1 rw2.reverse fun v hv => hin v (List.mem_append_left _ (List.mem_reverse.mp hv))
          rw [List.length_reverse] at e2
          simp only [List.length_append, List.length_cons] at llen'
          omega
        refine ⟨_, rfl, .inl ⟨rfl, _, SqL.of hR3⟩, R, _, .ref tt, rfl, rfl, hR3, by simp, ?_⟩
        rw [List.dropLast_concat]
        have kR : TK H2 (upd H2 R (.lst rs2)) := TK.lst hR3
        have sR2 := Same.wr (o := .lst rs2) s2 nR0
        have tFr := tF'.tk kR
        have tRr := tR2.tk kR
        have htr := htt.tk kR
        have hFr : upd H2 R (.lst rs2) F = some (.lst us) := by rw [upd_ne hFR]; exact hF3
        have hRr : upd H2 R (.lst rs2) R = some (.lst rs2) := upd_same
        generalize upd H2 R (.lst rs2) = H3 at *
        refine ⟨tt, _, rfl, htr.sq, rfl, _, _, rfl, _, _, rfl, rfl, ?_⟩
        -- found.append((one, other))
        refine ⟨_, rfl, .inl ⟨rfl, _, SqL.of hFr⟩, _, rfl, _, rfl, (by show 2 ≤ sizeLine; decide), fun p np => ?_⟩
        obtain ⟨n1, n2, n3, n4, n5, n6⟩ := app_new (n := [(pr u).1, (pr u).2]) hFr tFr np
        refine ⟨F, us, _, rfl, rfl, n1, ?_, ?_⟩
        · rw [tFr.len, List.length_map]
          exact szt (by omega)
        have nF0 : H F = none := nF
        have sF3 := n6 H sR2 nF0
        have hRf := n5 R _ (Ne.symm hFR) hRr
        have tRf := tRr.tk n4
        have tFf : Tps (upd (upd H3 p (.tup ([(pr u).1, (pr u).2].map V.int))) F (.lst (us ++ [.ref p]))) (us ++ [.ref p]) ((fw ++ [u]).map pl) := by
          rw [List.map_append]
          exact n3
        have hFf := n2
        clear n1 n3
        change Ends.nx _ _ (upd (upd H3 p (.tup ([(pr u).1, (pr u).2].map V.int))) F (.lst (us ++ [.ref p])))
        generalize upd (upd H3 p (.tup ([(pr u).1, (pr u).2].map V.int))) F (.lst (us ++ [.ref p])) = H4 at *
        have hin2 := inb_iff.mp hu
        have c1 : inb W B (false :: u) = true ↔ (pr u).1 + (pr u).2 ≤ B := by
          rw [inb_iff, pr_f]
          dsimp only
          omega
        have c2 : inb W B (true :: u) = true ↔ (pr u).1 + (pr u).2 ≤ W := by
          rw [inb_iff, pr_t]
          dsimp only
          omega
        -- the second if, from any pile
        have second : ∀ (H5 : Hp) (rs5 : List V) (rw5 : List Wd), Same H H5 → H5 F = some (.lst (us ++ [.ref p])) → H5 R = some (.lst rs5) → Tps H5 (us ++ [.ref p]) ((fw ++ [u]).map pl) → Tps H5 rs5 (rw5.map pl) → rw5.length ≤ 401 →
            ∀ (D : Ends), (∀ H6 us' rs', Same H H6 → H6 F = some (.lst us') → H6 R = some (.lst rs') → Tps H6 us' ((fw ++ [u]).map pl) → Tps H6 rs' ((rw5 ++ (if inb W B (true :: u) = true then [true :: u] else [])).map pl) → D.nx [some (.int W), some (.int B), some (.ref F), some (.ref R), some (.int (pr u).1), some (.int (pr u).2)] H6) →
            tIfS (tTest (tOp (rI0 fun i j => .bl (decide (i ≤ j))) (tOp (rI0 fun i j => .int (i + j)) (tVar 4) (tVar 5)) (tVar 0))) (tDrop (tBM K "list" rAppend (tVar 3) (tCons (tTup (tCons (tOp (rI0 fun i j => .int (i + j)) (tVar 4) (tVar 5)) (tCons (tVar 5) tNil))) tNil))) tNext D
              [some (.int W), some (.int B), some (.ref F), some (.ref R), some (.int (pr u).1), some (.int (pr u).2)] H5 := by
          intro H5 rs5 rw5 s5 hF5 hR5 tF5 tR5 hl5 D hD
          refine ⟨_, rfl, _, rfl, _, _, rfl, rfl, _, rfl, _, _, rfl, rfl, _, rfl, ?_⟩
          by_cases h2 : (pr u).1 + (pr u).2 ≤ W
          · refine iteD h2 ?_
            refine ⟨_, rfl, .inl ⟨rfl, _, SqL.of hR5⟩, _, rfl, _, rfl, _, _, rfl, rfl, _, rfl, (by show 2 ≤ sizeLine; decide), fun p2 np2 => ?_⟩
            obtain ⟨m1, m2, m3, m4, m5, m6⟩ := app_new (n := [(pr u).1 + (pr u).2, (pr u).2]) hR5 tR5 np2
            refine ⟨R, rs5, _, rfl, rfl, m1, ?_, ?_⟩
            · rw [tR5.len, List.length_map]
              exact szt (by omega)
            refine hD _ _ _ (m6 H s5 nR0) (m5 F _ hFR hF5) m2 (tF5.tk m4) ?_
            rw [if_pos (c2.mpr h2), List.map_append]
            exact m3
          · refine iteE h2 ?_
            refine hD H5 _ _ s5 hF5 hR5 tF5 ?_
            rw [if_neg (fun z => h2 (c2.mp z)), List.append_nil]
            exact tR5
        refine ⟨_, rfl, _, rfl, _, _, rfl, rfl, _, rfl, _, _, rfl, rfl, _, rfl, ?_⟩
        by_cases h1 : (pr u).1 + (pr u).2 ≤ B
        · refine iteD h1 ?_
          refine ⟨_, rfl, .inl ⟨rfl, _, SqL.of hRf⟩, _, rfl, _, rfl, _, rfl, _, _, rfl, rfl, (by show 2 ≤ sizeLine; decide), fun p2 np2 => ?_⟩
          obtain ⟨m1, m2, m3, m4, m5, m6⟩ := app_new (n := [(pr u).1, (pr u).1 + (pr u).2]) hRf tRf np2
          refine ⟨R, rs2, _, rfl, rfl, m1, ?_, ?_⟩
          · rw [tRf.len, List.length_map]
            exact szt (by omega)
          refine second _ (rs2 ++ [.ref p2]) (rw2 ++ [false :: u]) (m6 H sF3 nR0) (m5 F _ hFR hFf) m2 (tFf.tk m4) (by rw [List.map_append]; exact m3) (by simp only [List.length_append, List.length_cons, List.length_nil]; omega) _ ?_
          intro H6 us' rs' a1 a2 a3 a4 a5
          refine ⟨true, true, rfl, a1, us', rs', a2, a3, a4, ?_⟩
          rw [if_pos (c1.mpr h1)]
          exact a5
        · refine iteE h1 ?_
          refine second H4 rs2 rw2 sF3 hFf hRf tFf tRf (by omega) _ ?_
          intro H6 us' rs' a1 a2 a3 a4 a5
          refine ⟨true, true, rfl, a1, us', rs', a2, a3, a4, ?_⟩
          rw [if_neg (fun z => h1 (c1.mp z)), List.append_nil]
          exact a5
end
end LR

namespace LR
open PySem PySem.Spec PyProof.Rows L2
open PySem.W (Datum DatumOrd Holds HoldAll Tup)
section
variable {P : Program} {w : World} {K : PySem.W.Frag} {mg : Str → Option Value} {base : Heap}
/-! ### need_field -/
def spNeedField : Sp := fun vs H Q _ => ∃ (t t2 : Addr) (h g : Int) (o : O3) (u : Wd) (w0 w1 W B : Int), vs = [.ref t, .ref t2, .int 20000] ∧ StOk H t h g o u ∧ WlOk H t2 h g w0 w1 W B ∧ inb W B u = true ∧
  ∀ (H' : Hp) (p : Addr) (us : List V), Same H H' → H' p = some (.lst us) → Tps H' us ((LR.P W B []).map pl) → Q (.ref p) H'
theorem c_need_field (T : Top K mg) : Cal P w K mg base 7 "need_field" spNeedField := by
  refine T.d_need_field.cal sc_need_field (fun vs H Q E h => ?_) (fun f cdv A outer s H vs Q E hr h => ?_)
  · obtain ⟨t, t2, h, g, o, u, w0, w1, W, B, rfl, _⟩ := h
    rfl
  · obtain ⟨t, t2, h, g, o, u, w0, w1, W, B, rfl, S, L, hi, q⟩ := h
    refine ⟨_, pss_cons (ps_asg (pe_c (c_need_box T) hr (by decide) (by rfl) (pa_cons (pv 0) (pa_cons (pv 1) (pa_cons (pe_gl (by rfl) T.g_MS) pa_nil)))) (pg_tup (n := 2) rfl (pgs_cons (pg_name (i := 3) sc_need_field.nd rfl (.inl rfl)) (pgs_cons (pg_name (i := 4) sc_need_field.nd rfl (.inl rfl)) pgs_nil))))
      (pss_cons (ps_if (PW.pt (pw_or (pt_cmpR op_gt (pe_callB (call_max2 rfl) (by rfl) T.z_max (by decide +kernel) (pa_cons (pv 3) (pa_cons (pv 4) pa_nil))) (pv 2) (nomark _))
        (pw_or1 (pt_cmpR op_gt (pe_c (c_chosen_pairs T) hr (by decide) (by rfl) (pa_cons (pv 3) (pa_cons (pv 4) pa_nil))) (pv 2) (nomark _))))) (pss_one ps_never) pss_nil)
      (pss_one (ps_ret (pe_c (c_pairs_within T) hr (by decide) (by rfl) (pa_cons (pv 3) (pa_cons (pv 4) pa_nil)))))), ?_⟩
    refine ⟨_, rfl, _, rfl, t, t2, h, g, o, u, w0, w1, W, B, 10 ^ 5, rfl, by decide, S, L, hi, fun H1 p1 s1 hp1 => ?_⟩
    refine ⟨p1, _, rfl, hp1.sq, rfl, _, _, rfl, _, _, rfl, rfl, ?_⟩
    have a := L.mW
    have b := L.mB
    have hin := inb_iff.mp hi
    have hpp := pr_pos u
    obtain ⟨W', eW⟩ : ∃ W' : Nat, W = (W' : Int) := ⟨W.toNat, by omega⟩
    obtain ⟨B', eB⟩ : ∃ B' : Nat, B = (B' : Int) := ⟨B.toNat, by omega⟩
    refine ⟨_, rfl, _, rfl, W, B, rfl, _, rfl, _, _, rfl, rfl, false, dF (by split <;> omega), iteF ?_⟩
    have hc : chosen W' B' ≤ 20000 := chosen_le (by omega) (by omega)
    refine ⟨_, rfl, _, rfl, W', B', by rw [eW, eB], by omega, by omega, by omega, by omega, fun H2 s2 => ⟨_, rfl, _, _, rfl, rfl, false, dF (by omega), iteF ?_⟩⟩
    refine ⟨_, rfl, _, rfl, W, B, rfl, by omega, by omega, by omega, by omega, fun H3 p us s3 hp hT => ?_⟩
    exact q H3 p us (Same.trans (Same.trans s1 s2) s3) hp hT
/-! ### parent_of -/
def spParent : Sp := fun vs H Q _ => ∃ (t : Addr) (a b : Int), vs = [.ref t] ∧ IT H t [a, b] ∧ (par (a, b) = none → Q .non H) ∧ ∀ q, par (a, b) = some q → ∀ H' p, Same H H' → H p = none → H' = upd H p (.tup ((l2 q).map V.int)) → Q (.ref p) H'
theorem c_parent_of (T : Top K mg) : Cal P w K mg base 1 "parent_of" spParent := by
  refine T.d_parent_of.cal sc_parent_of (fun vs H Q E h => ?_) (fun f cdv A outer s H vs Q E hr h => ?_)
  · obtain ⟨t, a, b, rfl, _⟩ := h
    rfl
  · obtain ⟨t, a, b, rfl, ht, q1, q2⟩ := h
    refine ⟨_, pss_cons (ps_asg (pv 0) (pg_tup (n := 2) rfl (pgs_cons (pg_name (i := 1) sc_parent_of.nd rfl (.inl rfl)) (pgs_cons (pg_name (i := 2) sc_parent_of.nd rfl (.inl rfl)) pgs_nil))))
      (pss_cons (ps_if (pt_cmpR op_eq (pv 1) (pv 2) (nomark _)) (pss_one (ps_ret pe_non)) pss_nil)
      (pss_one (ps_ret (pe_ifExp (pt_cmpR op_gt (pv 1) (pv 2) (nomark _)) (pe_tup (pa_cons (pe_op op_sub (pv 1) (pv 2)) (pa_cons (pv 2) pa_nil))) (pe_tup (pa_cons (pv 1) (pa_cons (pe_op op_sub (pv 2) (pv 1)) pa_nil))))))), ?_⟩
    refine ⟨_, rfl, t, _, rfl, ht.sq, rfl, _, _, rfl, _, _, rfl, rfl, ?_⟩
    refine ⟨_, rfl, _, rfl, rfl, _, rfl, ?_⟩
    by_cases e : a = b
    · refine iteD (congrArg V.int e) ?_
      exact q1 (if_pos e)
    · refine iteE (fun z => e (V.int.inj z)) ?_
      refine ⟨_, rfl, _, rfl, _, _, rfl, rfl, decide (a > b), rfl, ?_⟩
      by_cases l : b < a
      · refine iteD (c := a > b) l ?_
        refine ⟨_, rfl, _, rfl, _, _, rfl, rfl, _, rfl, (by show 2 ≤ sizeLine; decide), fun p hp => ?_⟩
        exact q2 (a - b, b) (by unfold par; rw [if_neg e, if_pos l]) _ p (Same.new hp) hp rfl
      · refine iteE (c := a > b) l ?_
        refine ⟨_, rfl, _, rfl, _, rfl, _, _, rfl, rfl, (by show 2 ≤ sizeLine; decide), fun p hp => ?_⟩
        exact q2 (a, b - a) (by unfold par; rw [if_neg e, if_neg l]) _ p (Same.new hp) hp rfl
/-! ### max_low -/
theorem iteTc {c : Bool} {p q : Prop} (h : c = true) (hp : p) : if c = true then p else q := by rw [if_pos h]; exact hp
theorem iteFc {c : Bool} {p q : Prop} (h : ¬ c = true) (hq : q) : if c = true then p else q := by rw [if_neg h]; exact hq
/-- a tuple of a number and a pair -/
def NP (H : Hp) (r : Addr) (n : Int) : Prop := ∃ f, H r = some (.tup [.int n, .ref f]) ∧ ∃ a b, IT H f [a, b]
theorem NP.mv {H H' : Hp} {r : Addr} {n : Int} (h : NP H r n) (s : Same H H') : NP H' r n := by
  obtain ⟨f, e, a, b, hf⟩ := h
  exact ⟨f, s _ _ e, a, b, hf.mv s⟩
def spMaxLow : Sp := fun vs H Q _ => ∃ (r r' : Addr) (n n' : Int), vs = [.ref r, .ref r'] ∧ NP H r n ∧ NP H r' n' ∧ ∀ H' p, Same H H' → NP H' p (max n n') → Q (.ref p) H'
theorem c_max_low (T : Top K mg) : Cal P w K mg base 1 "max_low" spMaxLow := by
  refine T.d_max_low.cal sc_max_low (fun vs H Q E h => ?_) (fun f cdv A outer s H vs Q E hr h => ?_)
  · obtain ⟨r, r', n, n', rfl, _⟩ := h
    rfl
  · obtain ⟨r, r', n, n', rfl, h1, h2, q⟩ := h
    refine ⟨_, pss_one (ps_ret (pe_ifExp (pt_cmpR (op_ltD (α := Int × Tup Int) (du0 hr (by decide)))
        (pe_tup (pa_cons (pe_un un_neg (pe_ix ix_tup (pv 0) pe_int (fun _ _ => rfl))) (pa_cons (pe_ix ix_tup (pv 0) pe_int (fun _ _ => rfl)) pa_nil)))
        (pe_tup (pa_cons (pe_un un_neg (pe_ix ix_tup (pv 1) pe_int (fun _ _ => rfl))) (pa_cons (pe_ix ix_tup (pv 1) pe_int (fun _ _ => rfl)) pa_nil))) (nomark _)) (pv 0) (pv 1))), ?_⟩
    obtain ⟨f1, e1, a1, b1, i1⟩ := id h1
    obtain ⟨f2, e2, a2, b2, i2⟩ := id h2
    refine ⟨_, rfl, r, _, _, _, rfl, rfl, .inl (.inl e1), rfl, _, rfl, _, rfl, r, _, _, _, rfl, rfl, .inl (.inl e1), rfl, (by show 2 ≤ sizeLine; decide), fun p np => ?_⟩
    have sp := Same.new (o := .tup [.int (-n), .ref f1]) np
    have e2' := sp _ _ e2
    refine ⟨_, rfl, r', _, _, _, rfl, rfl, .inl (.inl e2'), rfl, _, rfl, _, rfl, r', _, _, _, rfl, rfl, .inl (.inl e2'), rfl, (by show 2 ≤ sizeLine; decide), fun p2 np2 => ?_⟩
    have s2 := Same.mk (o := .tup [.int (-n'), .ref f2]) sp np2
    have hp1 : upd (upd H p (.tup [.int (-n), .ref f1])) p2 (.tup [.int (-n'), .ref f2]) p = some (.tup [.int (-n), .ref f1]) := Same.new np2 _ _ upd_same
    have hp2 : upd (upd H p (.tup [.int (-n), .ref f1])) p2 (.tup [.int (-n'), .ref f2]) p2 = some (.tup [.int (-n'), .ref f2]) := upd_same
    generalize upd (upd H p (.tup [.int (-n), .ref f1])) p2 (.tup [.int (-n'), .ref f2]) = H2 at *
    refine ⟨(-n, Tup.mk [a1, b1]), (-n', Tup.mk [a2, b2]), dv_pair (.inl (.inl hp1)) (dv_int _) (dv_tup (i1.mv s2).sq (dvs_ints _)), dv_pair (.inl (.inl hp2)) (dv_int _) (dv_tup (i2.mv s2).sq (dvs_ints _)), _, rfl, ?_⟩
    have key : ∀ x y : Tup Int, (DatumOrd.lt (-n, x) (-n', y) = true → n' ≤ n) ∧ (¬ DatumOrd.lt (-n, x) (-n', y) = true → n ≤ n') := by
      intro x y
      have e : DatumOrd.lt (-n, x) (-n', y) = if -n = -n' then DatumOrd.lt x y else decide (-n < -n') := rfl
      rw [e]
      constructor
      · intro h
        split at h
        · omega
        · rw [decide_eq_true_iff] at h
          omega
      · intro h
        split at h
        · omega
        · rw [decide_eq_true_iff] at h
          omega
    obtain ⟨k1, k2⟩ := key (Tup.mk [a1, b1]) (Tup.mk [a2, b2])
    by_cases c : DatumOrd.lt (-n, Tup.mk [a1, b1]) (-n', Tup.mk [a2, b2]) = true
    · refine iteTc c ?_
      refine ⟨_, rfl, q H2 r s2 ?_⟩
      rw [Int.max_eq_left (k1 c)]
      exact h1.mv s2
    · refine iteFc c ?_
      refine ⟨_, rfl, q H2 r' s2 ?_⟩
      rw [Int.max_eq_right (k2 c)]
      exact h2.mv s2
end
end LR

namespace LR
open PySem PySem.Spec PyProof.Rows L2
open PySem.W (Datum DatumOrd Holds HoldAll Tup)
/-! ### dicts by pairs -/
def kP (p : Pr) : List Key := [.inl p.1, .inl p.2]
theorem kP_inj {p q : Pr} (e : kP p = kP q) : p = q := by
  have e1 := Sum.inl.inj (List.cons.inj e).1
  have e2 := Sum.inl.inj (List.cons.inj (List.cons.inj e).2).1
  exact Prod.ext e1 e2
theorem kP_at {H : Hp} {t : Addr} {p : Pr} (h : IT H t (l2 p)) : H t = some (.tup ((kP p).map kV)) := h
def SD (kvs : List (List Key × V)) (f : Fn) : Prop := ∀ p, valV kvs (kP p) = (f p).map V.int
theorem SD.put {kvs : List (List Key × V)} {f : Fn} (h : SD kvs f) (p : Pr) (x : Int) : SD (putK kvs (kP p) (.int x)) (upf f p x) := by
  intro q
  rw [valV_put]
  by_cases e : q = p
  · rw [e, if_pos rfl, upf_same]
    rfl
  · rw [if_neg (fun z => e (kP_inj z)), upf_ne e]
    exact h q
theorem SD.gd {kvs : List (List Key × V)} {f : Fn} (h : SD kvs f) (p : Pr) : (valV kvs (kP p)).getD (.int 0) = .int ((f p).getD 0) := by
  rw [h p]
  cases f p <;> rfl
/-- the fold over the last i words -/
def fa (nd : Int → Int) (cb : Int → Int → Int) (ws : List Wd) (i : Nat) : Fn := ((ws.reverse.take i).map pr).foldl (gst nd cb) fun _ => none
theorem fa_succ {nd : Int → Int} {cb : Int → Int → Int} {ws : List Wd} {i : Nat} {u : Wd} (h : ws.reverse[i]? = some u) : fa nd cb ws (i + 1) = gst nd cb (fa nd cb ws i) (pr u) := by
  unfold fa
  rw [List.take_add_one, h, List.map_append, List.foldl_append]
  rfl
theorem fa_all {nd : Int → Int} {cb : Int → Int → Int} {ws : List Wd} : fa nd cb ws ws.length = runF nd cb (fun _ => none) ws := by
  unfold fa runF
  rw [List.take_of_length_le (by rw [List.length_reverse]; exact Nat.le_refl _)]
theorem gst_none {nd : Int → Int} {cb : Int → Int → Int} {f : Fn} {p : Pr} (h : par p = none) : gst nd cb f p = upf f p (nd ((f p).getD 0)) := by
  unfold gst
  rw [h]
theorem gst_some {nd : Int → Int} {cb : Int → Int → Int} {f : Fn} {p q : Pr} (h : par p = some q) :
    gst nd cb f p = upf (upf f p (nd ((f p).getD 0))) q (cb (((upf f p (nd ((f p).getD 0))) q).getD 0) (nd ((f p).getD 0))) := by
  unfold gst
  rw [h]
section
variable {P : Program} {w : World} {K : PySem.W.Frag} {mg : Str → Option Value} {base : Heap}
/-! ### sizes_of -/
def spSizes : Sp := fun vs H Q _ => ∃ (a : Addr) (us : List V) (ws : List Wd), vs = [.ref a] ∧ H a = some (.lst us) ∧ Tps H us (ws.map pl) ∧ ws.length ≤ 400 ∧
  ∀ (H' : Hp) (d : Addr) (kvs : List (List Key × V)), Same H H' → H' d = some (.dT kvs) → SD kvs (runF (fun x => x + 1) (fun x y => x + y) (fun _ => none) ws) → Q (.ref d) H'
theorem c_sizes_of (T : Top K mg) : Cal P w K mg base 2 "sizes_of" spSizes := by
  refine T.d_sizes_of.cal sc_sizes_of (fun vs H Q E h => ?_) (fun f cdv A outer s H vs Q E hr h => ?_)
  · obtain ⟨a, us, ws, rfl, _⟩ := h
    rfl
  · obtain ⟨a, us, ws, rfl, ha, hT, hl, q⟩ := h
    have hu := du0 (n := 1) hr (by decide)
    refine ⟨_, pss_cons (ps_set (i := 1) sc_sizes_of.nd rfl (.inl rfl) pe_dnewT)
      (pss_cons (ps_for PassesOwn.never rfl (pi_list (pe_revL (pv 0))) (pg_name (i := 2) sc_sizes_of.nd rfl (.inl rfl))
        (pss_cons (ps_dput hu (pv 1) (pv 2) (pe_op op_add (pe_dget2 hu (pv 1) (pv 2) pe_int ⟨by rfl, by rfl, by rfl, by rfl⟩) pe_int) (by rfl))
        (pss_cons (ps_set (i := 3) sc_sizes_of.nd rfl (.inl rfl) (pe_c (c_parent_of T) hr (by decide) (by rfl) (pa_cons (pv 2) pa_nil)))
        (pss_one (ps_if (pt_cmp (pc_notN (pv 3))) (pss_one (ps_dput hu (pv 1) (pv 3) (pe_op op_add (pe_dget2 hu (pv 1) (pv 3) pe_int ⟨by rfl, by rfl, by rfl, by rfl⟩) (pe_dget hu (pv 1) (pv 2) (fun _ _ => rfl))) (by rfl))) pss_nil)))))
      (pss_one (ps_ret (pv 1)))), ?_⟩
    refine fun d nd => ?_
    have s1 := Same.new (o := .dT []) nd
    have ha1 := s1 _ _ ha
    have hd1 : upd H d (.dT []) d = some (.dT []) := upd_same
    have hT1 := hT.tk (Same.tk s1)
    refine ⟨_, rfl, a, us, rfl, SqL.of ha1, fun L nL => ?_⟩
    have s2 := Same.mk (o := .lst us.reverse) s1 nL
    have nL0 : H L = none := Same.free s1 nL
    have hdL : d ≠ L := ne_of_none hd1 nL
    have hd2 : upd (upd H d (.dT [])) L (.lst us.reverse) d = some (.dT []) := by rw [upd_ne hdL]; exact hd1
    have hL2 : upd (upd H d (.dT [])) L (.lst us.reverse) L = some (.lst us.reverse) := upd_same
    have hT2 : Tps (upd (upd H d (.dT [])) L (.lst us.reverse)) us.reverse (ws.reverse.map pl) := by
      have := (hT1.tk (TK.new (o := .lst us.reverse) nL)).rev
      rw [← List.map_reverse] at this
      exact this
    have hul : us.length = ws.length := by
      have := hT.len
      rw [List.length_map] at this
      exact this
    generalize upd (upd H d (.dT [])) L (.lst us.reverse) = H2 at *
    refine ⟨L, rfl, ⟨_, SqL.of hL2⟩, for_list (K := K) (a := L) (xs := us.reverse) (fun i σ H' => ∃ (v2 v3 : Option V) (kvs : List (List Key × V)), σ = [some (.ref a), some (.ref d), v2, v3] ∧ Same H H' ∧ H' L = some (.lst us.reverse) ∧ Tps H' us.reverse (ws.reverse.map pl) ∧
        H' d = some (.dT kvs) ∧ kvs.length ≤ 2 * i ∧ SD kvs (fa (fun x => x + 1) (fun x y => x + y) ws i)) ⟨none, none, [], rfl, s2, hL2, hT2, hd2, Nat.zero_le _, fun p => rfl⟩ (fun i σ H' _ p => by obtain ⟨_, _, _, _, _, e, _⟩ := p; exact SqL.of e) ?_ ?_⟩
    · rintro i v σ H' hv ⟨v2, v3, kvs, rfl, s3, hL3, hT3, hd3, hk3, hS3⟩
      have hil : i < us.length := by
        have := (List.getElem?_eq_some_iff.mp hv).1
        rw [List.length_reverse] at this
        exact this
      obtain ⟨t, n, rfl, hn, ht⟩ := hT3.get hv
      rw [List.getElem?_map] at hn
      obtain ⟨u, hwu, rfl⟩ := Option.map_eq_some_iff.mp hn
      have step := fa_succ (nd := fun x => x + 1) (cb := fun x y => x + y) hwu
      generalize fa (fun x => x + 1) (fun x y => x + y) ws i = f at *
      refine ⟨_, rfl, d, rfl, .inr ⟨kvs, .inl hd3⟩, _, rfl, _, DGet.t (k := kP (pr u)) hd3 (kP_at ht), _, _, hS3.gd (pr u), rfl, _, rfl, _, rfl, d, _, rfl, DPut.t (k := kP (pr u)) hd3 (kP_at ht) (szt (by omega)), ?_⟩
      have k1 : TK H' (upd H' d (.dT (putK kvs (kP (pr u)) (.int ((f (pr u)).getD 0 + 1))))) := TK.dct hd3
      have s4 : Same H (upd H' d (.dT (putK kvs (kP (pr u)) (.int ((f (pr u)).getD 0 + 1))))) := Same.wr s3 nd
      have hd4 : upd H' d (.dT (putK kvs (kP (pr u)) (.int ((f (pr u)).getD 0 + 1)))) d = _ := upd_same
      have hL4 : upd H' d (.dT (putK kvs (kP (pr u)) (.int ((f (pr u)).getD 0 + 1)))) L = _ := (upd_ne (Ne.symm hdL)).trans hL3
      have hT4 := hT3.tk k1
      have ht4 := ht.tk k1
      have hS4 := hS3.put (pr u) ((f (pr u)).getD 0 + 1)
      have hk4 := length_putK kvs (kP (pr u)) (.int ((f (pr u)).getD 0 + 1))
      generalize putK kvs (kP (pr u)) (.int ((f (pr u)).getD 0 + 1)) = kvs4 at *
      change Ends.nx _ _ (upd H' d (.dT kvs4))
      generalize upd H' d (.dT kvs4) = H4 at *
      refine ⟨_, rfl, t, (pr u).1, (pr u).2, rfl, ht4, fun en => ?_, fun p ep H5 tq s5 nq eH => ?_⟩
      · refine ⟨_, rfl, false, by rfl, iteF ?_⟩
        refine ⟨_, _, kvs4, rfl, s4, hL4, hT4, hd4, by omega, ?_⟩
        rw [step, gst_none en]
        exact hS4
      · have hd5 := s5 _ _ hd4
        have hq5 : IT H5 tq (l2 p) := by rw [eH]; exact upd_same
        refine ⟨_, rfl, true, by rfl, iteT ?_⟩
        have gv : valV kvs4 (kP (pr u)) = some (.int ((f (pr u)).getD 0 + 1)) := by
          rw [hS4 (pr u), upf_same]
          rfl
        have g2 : DGet H5 d (.ref t) (some (.int ((f (pr u)).getD 0 + 1))) := by
          rw [← gv]
          exact DGet.t (k := kP (pr u)) hd5 (kP_at (ht4.mv s5))
        refine ⟨_, rfl, d, rfl, .inr ⟨kvs4, .inl hd5⟩, _, rfl, _, DGet.t (k := kP p) hd5 (kP_at hq5), _, rfl, _, rfl, d, _, rfl, g2, _, _, hS4.gd p, rfl, _, rfl, _, rfl, d, _, rfl, DPut.t (k := kP p) hd5 (kP_at hq5) (szt (by omega)), ?_⟩
        have hk5 := length_putK kvs4 (kP p) (.int (((upf f (pr u) ((f (pr u)).getD 0 + 1)) p).getD 0 + ((f (pr u)).getD 0 + 1)))
        refine ⟨_, _, _, rfl, Same.wr (Same.trans s4 s5) nd, (upd_ne (Ne.symm hdL)).trans (s5 _ _ hL4), (hT4.tk (Same.tk s5)).tk (TK.dct hd5), upd_same, ?_, ?_⟩
        · show List.length (putK kvs4 (kP p) (.int (((upf f (pr u) ((f (pr u)).getD 0 + 1)) p).getD 0 + ((f (pr u)).getD 0 + 1)))) ≤ _
          omega
        · rw [step, gst_some ep]
          exact hS4.put p _
    · rintro σ H' ⟨v2, v3, kvs, rfl, s3, hL3, hT3, hd3, hk3, hS3⟩
      refine ⟨_, rfl, q H' d kvs s3 hd3 ?_⟩
      rw [List.length_reverse, hul, fa_all] at hS3
      exact hS3
end
end LR

namespace LR
open PySem PySem.Spec PyProof.Rows L2
open PySem.W (Datum DatumOrd Holds HoldAll Tup)
theorem NP.tk {H H' : Hp} {r : Addr} {n : Int} (h : NP H r n) (k : TK H H') : NP H' r n := by
  obtain ⟨f, e, a, b, hf⟩ := h
  exact ⟨f, k _ _ e, a, b, hf.tk k⟩
/-- a dict's values are tuples of a number and a pair -/
def HD (H : Hp) (kvs : List (List Key × V)) (f : Fn) : Prop := ∀ p, (f p = none → valV kvs (kP p) = none) ∧ ∀ x, f p = some x → ∃ r, valV kvs (kP p) = some (.ref r) ∧ NP H r x
theorem HD.tk {H H' : Hp} {kvs : List (List Key × V)} {f : Fn} (h : HD H kvs f) (k : TK H H') : HD H' kvs f := fun p => ⟨(h p).1, fun x e => by
  obtain ⟨r, a, b⟩ := (h p).2 x e
  exact ⟨r, a, b.tk k⟩⟩
theorem HD.put {H : Hp} {kvs : List (List Key × V)} {f : Fn} (h : HD H kvs f) {r : Addr} {x : Int} (p : Pr) (hr : NP H r x) : HD H (putK kvs (kP p) (.ref r)) (upf f p x) := by
  intro q
  rw [valV_put]
  by_cases e : q = p
  · rw [e, if_pos rfl, upf_same]
    refine ⟨fun z => (nomatch z), fun y ey => ⟨r, rfl, ?_⟩⟩
    rw [← Option.some.inj ey]
    exact hr
  · rw [if_neg (fun z => e (kP_inj z)), upf_ne e]
    exact h q
theorem HD.gd {H : Hp} {kvs : List (List Key × V)} {f : Fn} (h : HD H kvs f) {z : Addr} (p : Pr) (hz : NP H z 0) : ∃ r, (valV kvs (kP p)).getD (.ref z) = .ref r ∧ NP H r ((f p).getD 0) := by
  cases e : f p with
  | none =>
    rw [(h p).1 e]
    exact ⟨z, rfl, hz⟩
  | some x =>
    obtain ⟨r, a, b⟩ := (h p).2 x e
    rw [a]
    exact ⟨r, rfl, b⟩
section
variable {P : Program} {w : World} {K : PySem.W.Frag} {mg : Str → Option Value} {base : Heap}
/-! ### heights_of -/
def spHeights : Sp := fun vs H Q _ => ∃ (a : Addr) (us : List V) (ws : List Wd), vs = [.ref a] ∧ H a = some (.lst us) ∧ Tps H us (ws.map pl) ∧ ws.length ≤ 400 ∧
  ∀ (H' : Hp) (d : Addr) (kvs : List (List Key × V)), Same H H' → H' d = some (.dT kvs) → HD H' kvs (runF (fun x => max x 0) (fun x y => max x (y + 1)) (fun _ => none) ws) → Q (.ref d) H'
theorem c_heights_of (T : Top K mg) : Cal P w K mg base 2 "heights_of" spHeights := by
  refine T.d_heights_of.cal sc_heights_of (fun vs H Q E h => ?_) (fun f cdv A outer s H vs Q E hr h => ?_)
  · obtain ⟨a, us, ws, rfl, _⟩ := h
    rfl
  · obtain ⟨a, us, ws, rfl, ha, hT, hl, q⟩ := h
    have hu := du0 (n := 1) hr (by decide)
    refine ⟨_, pss_cons (ps_set (i := 1) sc_heights_of.nd rfl (.inl rfl) pe_dnewT)
      (pss_cons (ps_for PassesOwn.never rfl (pi_list (pe_revL (pv 0))) (pg_name (i := 2) sc_heights_of.nd rfl (.inl rfl))
        (pss_cons (ps_dput hu (pv 1) (pv 2) (pe_c (c_max_low T) hr (by decide) (by rfl) (pa_cons (pe_dget2 hu (pv 1) (pv 2) (pe_tup (pa_cons pe_int (pa_cons (pv 2) pa_nil))) ⟨by rfl, by rfl, by rfl, by rfl⟩) (pa_cons (pe_tup (pa_cons pe_int (pa_cons (pv 2) pa_nil))) pa_nil))) (by rfl))
        (pss_cons (ps_set (i := 3) sc_heights_of.nd rfl (.inl rfl) (pe_c (c_parent_of T) hr (by decide) (by rfl) (pa_cons (pv 2) pa_nil)))
        (pss_one (ps_if (pt_cmp (pc_notN (pv 3)))
          (pss_cons (ps_asg (pe_dget hu (pv 1) (pv 2) (fun _ _ => rfl)) (pg_tup (n := 2) rfl (pgs_cons (pg_name (i := 4) sc_heights_of.nd rfl (.inl rfl)) (pgs_cons (pg_name (i := 5) sc_heights_of.nd rfl (.inl rfl)) pgs_nil))))
          (pss_one (ps_dput hu (pv 1) (pv 3) (pe_c (c_max_low T) hr (by decide) (by rfl) (pa_cons (pe_dget2 hu (pv 1) (pv 3) (pe_tup (pa_cons pe_int (pa_cons (pv 3) pa_nil))) ⟨by rfl, by rfl, by rfl, by rfl⟩) (pa_cons (pe_tup (pa_cons (pe_op op_add (pv 4) pe_int) (pa_cons (pv 5) pa_nil))) pa_nil))) (by rfl)))) pss_nil)))))
      (pss_one (ps_ret (pv 1)))), ?_⟩
    refine fun d nd => ?_
    have s1 := Same.new (o := .dT []) nd
    have ha1 := s1 _ _ ha
    have hd1 : upd H d (.dT []) d = some (.dT []) := upd_same
    have hT1 := hT.tk (Same.tk s1)
    refine ⟨_, rfl, a, us, rfl, SqL.of ha1, fun L nL => ?_⟩
    have s2 := Same.mk (o := .lst us.reverse) s1 nL
    have nL0 : H L = none := Same.free s1 nL
    have hdL : d ≠ L := ne_of_none hd1 nL
    have hd2 : upd (upd H d (.dT [])) L (.lst us.reverse) d = some (.dT []) := by rw [upd_ne hdL]; exact hd1
    have hL2 : upd (upd H d (.dT [])) L (.lst us.reverse) L = some (.lst us.reverse) := upd_same
    have hT2 : Tps (upd (upd H d (.dT [])) L (.lst us.reverse)) us.reverse (ws.reverse.map pl) := by
      have := (hT1.tk (TK.new (o := .lst us.reverse) nL)).rev
      rw [← List.map_reverse] at this
      exact this
    have hul : us.length = ws.length := by
      have := hT.len
      rw [List.length_map] at this
      exact this
    generalize upd (upd H d (.dT [])) L (.lst us.reverse) = H2 at *
    refine ⟨L, rfl, ⟨_, SqL.of hL2⟩, for_list (K := K) (a := L) (xs := us.reverse) (fun i σ H' => ∃ (v2 v3 v4 v5 : Option V) (kvs : List (List Key × V)), σ = [some (.ref a), some (.ref d), v2, v3, v4, v5] ∧ Same H H' ∧ H' L = some (.lst us.reverse) ∧ Tps H' us.reverse (ws.reverse.map pl) ∧
        H' d = some (.dT kvs) ∧ kvs.length ≤ 2 * i ∧ HD H' kvs (fa (fun x => max x 0) (fun x y => max x (y + 1)) ws i)) ⟨none, none, none, none, [], rfl, s2, hL2, hT2, hd2, Nat.zero_le _, fun p => ⟨fun _ => rfl, fun x z => (nomatch z)⟩⟩ (fun i σ H' _ p => by obtain ⟨_, _, _, _, _, _, _, e, _⟩ := p; exact SqL.of e) ?_ ?_⟩
    · rintro i v σ H' hv ⟨v2, v3, v4, v5, kvs, rfl, s3, hL3, hT3, hd3, hk3, hS3⟩
      have hil : i < us.length := by
        have := (List.getElem?_eq_some_iff.mp hv).1
        rw [List.length_reverse] at this
        exact this
      obtain ⟨t, n, rfl, hn, ht⟩ := hT3.get hv
      rw [List.getElem?_map] at hn
      obtain ⟨u, hwu, rfl⟩ := Option.map_eq_some_iff.mp hn
      have step := fa_succ (nd := fun x => max x 0) (cb := fun x y => max x (y + 1)) hwu
      generalize fa (fun x => max x 0) (fun x y => max x (y + 1)) ws i = f at *
      -- found[pair] = max_low(..)
      refine ⟨_, rfl, d, rfl, .inr ⟨kvs, .inl hd3⟩, _, rfl, _, rfl, (by show 2 ≤ sizeLine; decide), fun z1 nz1 => ?_⟩
      have sz1 := Same.new (o := .tup [.int 0, .ref t]) nz1
      have hz1 : NP (upd H' z1 (.tup [.int 0, .ref t])) z1 0 := ⟨t, upd_same, _, _, ht.mv sz1⟩
      have hS4 := hS3.tk (Same.tk sz1)
      have hd4 := sz1 _ _ hd3
      have hL4 := sz1 _ _ hL3
      have hT4 := hT3.tk (Same.tk sz1)
      have ht4 := ht.mv sz1
      have s4 := Same.trans s3 sz1
      generalize upd H' z1 (.tup [.int 0, .ref t]) = H4 at *
      obtain ⟨r1, er1, hr1⟩ := hS4.gd (pr u) hz1
      refine ⟨_, DGet.t (k := kP (pr u)) hd4 (kP_at ht4), _, rfl, (by show 2 ≤ sizeLine; decide), fun z2 nz2 => ?_⟩
      have sz2 := Same.new (o := .tup [.int 0, .ref t]) nz2
      have hz2 : NP (upd H4 z2 (.tup [.int 0, .ref t])) z2 0 := ⟨t, upd_same, _, _, ht4.mv sz2⟩
      refine ⟨r1, z2, (f (pr u)).getD 0, 0, ?_, hr1.mv sz2, hz2, fun H5 r s5 hrr => ?_⟩
      · show [(valV kvs (kP (pr u))).getD (.ref z1), .ref z2] = _
        rw [er1]
      have s6 := Same.trans sz2 s5
      have hd5 := s6 _ _ hd4
      have hL5 := s6 _ _ hL4
      have hT5 := hT4.tk (Same.tk s6)
      have ht5 := ht4.mv s6
      have hS5 := hS4.tk (Same.tk s6)
      have s7 := Same.trans s4 s6
      clear hz1 hz2 hr1 er1 hS4 hd4 hL4 hT4 ht4 s4 hS3 hd3 hL3 hT3 ht s3 sz1 sz2 s5 s6 nz2
      refine ⟨_, rfl, _, rfl, d, _, rfl, DPut.t (k := kP (pr u)) hd5 (kP_at ht5) (szt (by omega)), ?_⟩
      have k1 : TK H5 (upd H5 d (.dT (putK kvs (kP (pr u)) (.ref r)))) := TK.dct hd5
      have s8 : Same H (upd H5 d (.dT (putK kvs (kP (pr u)) (.ref r)))) := Same.wr s7 nd
      have hd8 : upd H5 d (.dT (putK kvs (kP (pr u)) (.ref r))) d = _ := upd_same
      have hL8 : upd H5 d (.dT (putK kvs (kP (pr u)) (.ref r))) L = _ := (upd_ne (Ne.symm hdL)).trans hL5
      have hT8 := hT5.tk k1
      have ht8 := ht5.tk k1
      have hr8 := hrr.tk k1
      have hS8 := (hS5.put (pr u) hrr).tk k1
      have hk8 := length_putK kvs (kP (pr u)) (.ref r)
      have gv : valV (putK kvs (kP (pr u)) (.ref r)) (kP (pr u)) = some (.ref r) := by rw [valV_put, if_pos rfl]
      generalize putK kvs (kP (pr u)) (.ref r) = kvs8 at *
      change Ends.nx _ _ (upd H5 d (.dT kvs8))
      generalize upd H5 d (.dT kvs8) = H8 at *
      clear hd5 hL5 hT5 ht5 hS5 hrr k1 s7
      refine ⟨_, rfl, t, (pr u).1, (pr u).2, rfl, ht8, fun en => ?_, fun p ep H9 tq s9 nq eH => ?_⟩
      · refine ⟨_, rfl, false, by rfl, iteF ?_⟩
        refine ⟨_, _, _, _, kvs8, rfl, s8, hL8, hT8, hd8, by omega, ?_⟩
        rw [step, gst_none en]
        exact hS8
      · have hd9 := s9 _ _ hd8
        have hL9 := s9 _ _ hL8
        have hT9 := hT8.tk (Same.tk s9)
        have hS9 := hS8.tk (Same.tk s9)
        have hr9 := hr8.mv s9
        have hq9 : IT H9 tq (l2 p) := by rw [eH]; exact upd_same
        have sA := Same.trans s8 s9
        refine ⟨_, rfl, true, by rfl, iteT ?_⟩
        have g2 : DGet H9 d (.ref t) (some (.ref r)) := by
          rw [← gv]
          exact DGet.t (k := kP (pr u)) hd9 (kP_at (ht8.mv s9))
        obtain ⟨ff, ef, fa1, fb1, hff⟩ := id hr9
        refine ⟨_, rfl, _, rfl, d, _, rfl, g2, r, _, rfl, .inl (.inl ef), rfl, _, _, rfl, _, _, rfl, rfl, ?_⟩
        refine ⟨_, rfl, d, rfl, .inr ⟨kvs8, .inl hd9⟩, _, rfl, _, rfl, (by show 2 ≤ sizeLine; decide), fun z1 nz1 => ?_⟩
        have sz1 := Same.new (o := .tup [.int 0, .ref tq]) nz1
        have hz1 : NP (upd H9 z1 (.tup [.int 0, .ref tq])) z1 0 := ⟨tq, upd_same, _, _, hq9.mv sz1⟩
        obtain ⟨r1, er1, hr1⟩ := (hS9.tk (Same.tk sz1)).gd p hz1
        refine ⟨_, DGet.t (k := kP p) (sz1 _ _ hd9) (kP_at (hq9.mv sz1)), _, rfl, _, _, rfl, rfl, _, rfl, (by show 2 ≤ sizeLine; decide), fun z2 nz2 => ?_⟩
        have sz2 := Same.mk (o := .tup [.int (max ((f (pr u)).getD 0) 0 + 1), .ref ff]) sz1 nz2
        have hz2 : NP (upd (upd H9 z1 (.tup [.int 0, .ref tq])) z2 (.tup [.int (max ((f (pr u)).getD 0) 0 + 1), .ref ff])) z2 (max ((f (pr u)).getD 0) 0 + 1) := ⟨ff, upd_same, _, _, hff.mv sz2⟩
        refine ⟨r1, z2, _, _, ?_, hr1.mv (Same.new nz2), hz2, fun HB rb sB hrb => ?_⟩
        · show [(valV kvs8 (kP p)).getD (.ref z1), .ref z2] = _
          rw [er1]
        have s6 := Same.trans sz2 sB
        have hdB := s6 _ _ hd9
        refine ⟨_, rfl, _, rfl, d, _, rfl, DPut.t (k := kP p) hdB (kP_at (hq9.mv s6)) (szt (by omega)), ?_⟩
        have hk9 := length_putK kvs8 (kP p) (.ref rb)
        have kB : TK HB (upd HB d (.dT (putK kvs8 (kP p) (.ref rb)))) := TK.dct hdB
        refine ⟨_, _, _, _, _, rfl, Same.wr (Same.trans sA s6) nd, (upd_ne (Ne.symm hdL)).trans (s6 _ _ hL9), (hT9.tk (Same.tk s6)).tk kB, upd_same, ?_, ?_⟩
        · show List.length (putK kvs8 (kP p) (.ref rb)) ≤ _
          omega
        · rw [step, gst_some ep]
          exact ((hS9.tk (Same.tk s6)).put p hrb).tk kB
    · rintro σ H' ⟨v2, v3, v4, v5, kvs, rfl, s3, hL3, hT3, hd3, hk3, hS3⟩
      refine ⟨_, rfl, q H' d kvs s3 hd3 ?_⟩
      rw [List.length_reverse, hul, fa_all] at hS3
      exact hS3
/-! ### behind_within, leaps_inside -/
def spBehindWithin : Sp := fun vs H Q _ => ∃ (t t2 : Addr) (h g : Int) (o : O3) (u : Wd) (w0 w1 W B : Int), vs = [.ref t, .ref t2] ∧ StOk H t h g o u ∧ WlOk H t2 h g w0 w1 W B ∧ inb W B u = true ∧ ∀ H', Same H H' → Q (.int (sz W B u)) H'
theorem few_of {H : Hp} {t t2 : Addr} {h g : Int} {o : O3} {u : Wd} {w0 w1 W B : Int} (L : WlOk H t2 h g w0 w1 W B) (hi : inb W B u = true) : (LR.P W B []).length ≤ 400 := by
  have hin := inb_iff.mp hi
  have hpp := pr_pos u
  exact P_few (by omega) L.mW (by omega) L.mB
theorem pairT {H : Hp} {t : Addr} {u : Wd} (h : IT H t [(pr u).1, (pr u).2]) : H t = some (.tup ((kP (pr u)).map kV)) := h
theorem c_behind_within (T : Top K mg) : Cal P w K mg base 8 "behind_within" spBehindWithin := by
  refine T.d_behind_within.cal sc_behind_within (fun vs H Q E h => ?_) (fun f cdv A outer s H vs Q E hr h => ?_)
  · obtain ⟨t, t2, h, g, o, u, w0, w1, W, B, rfl, _⟩ := h
    rfl
  · obtain ⟨t, t2, h, g, o, u, w0, w1, W, B, rfl, S, L, hi, q⟩ := h
    have hu := du0 (n := 1) hr (by decide)
    refine ⟨_, pss_cons (ps_set (i := 2) sc_behind_within.nd rfl (.inl rfl) (pe_c (c_need_field T) hr (by decide) (by rfl) (pa_cons (pv 0) (pa_cons (pv 1) (pa_cons (pe_gl (by rfl) T.g_MF) pa_nil)))))
      (pss_one (ps_ret (pe_dget hu (pe_c (c_sizes_of T) hr (by decide) (by rfl) (pa_cons (pv 2) pa_nil)) (pe_c (c_pair_of T) hr (by decide) (by rfl) (pa_cons (pv 0) pa_nil)) (fun _ _ => rfl)))), ?_⟩
    refine ⟨_, rfl, _, rfl, t, t2, h, g, o, u, w0, w1, W, B, rfl, S, L, hi, fun H1 a us s1 ha hT => ?_⟩
    refine ⟨_, rfl, a, us, _, rfl, ha, hT, few_of (t := t) (o := o) L hi, fun H2 d kvs s2 hd hS => ?_⟩
    have S2 := (S.mv s1).mv s2
    refine ⟨_, rfl, t, _, _, _, _, g, (pr u).1, (pr u).2, rfl, S2.tr, S2.oo, S2.lt1, S2.lt2, gap1 u, gap2 u, by have := S2.g1; omega, by have := S2.g2; omega, pr_gcd u, fun H3 p s3 hp => ?_⟩
    have gv : valV kvs (kP (pr u)) = some (.int (sz W B u)) := by
      rw [hS (pr u), sizes_fold hi]
      rfl
    refine ⟨d, .int (sz W B u), rfl, ?_, q H3 (Same.trans (Same.trans s1 s2) s3)⟩
    rw [← gv]
    exact DGet.t (k := kP (pr u)) (s3 _ _ hd) (pairT hp)
def spLeapsInside : Sp := fun vs H Q _ => ∃ (t t2 : Addr) (h g : Int) (o : O3) (u : Wd) (w0 w1 W B : Int), vs = [.ref t, .ref t2] ∧ StOk H t h g o u ∧ WlOk H t2 h g w0 w1 W B ∧ inb W B u = true ∧ ∀ H', Same H H' → Q (.int (hgt W B u)) H'
theorem c_leaps_inside (T : Top K mg) : Cal P w K mg base 8 "leaps_inside" spLeapsInside := by
  refine T.d_leaps_inside.cal sc_leaps_inside (fun vs H Q E h => ?_) (fun f cdv A outer s H vs Q E hr h => ?_)
  · obtain ⟨t, t2, h, g, o, u, w0, w1, W, B, rfl, _⟩ := h
    rfl
  · obtain ⟨t, t2, h, g, o, u, w0, w1, W, B, rfl, S, L, hi, q⟩ := h
    have hu := du0 (n := 1) hr (by decide)
    refine ⟨_, pss_cons (ps_set (i := 2) sc_leaps_inside.nd rfl (.inl rfl) (pe_c (c_need_field T) hr (by decide) (by rfl) (pa_cons (pv 0) (pa_cons (pv 1) (pa_cons (pe_gl (by rfl) T.g_MF) pa_nil)))))
      (pss_one (ps_ret (pe_ix ix_tup (pe_dget hu (pe_c (c_heights_of T) hr (by decide) (by rfl) (pa_cons (pv 2) pa_nil)) (pe_c (c_pair_of T) hr (by decide) (by rfl) (pa_cons (pv 0) pa_nil)) (fun _ _ => rfl)) pe_int (fun _ _ => rfl)))), ?_⟩
    refine ⟨_, rfl, _, rfl, t, t2, h, g, o, u, w0, w1, W, B, rfl, S, L, hi, fun H1 a us s1 ha hT => ?_⟩
    refine ⟨_, rfl, a, us, _, rfl, ha, hT, few_of (t := t) (o := o) L hi, fun H2 d kvs s2 hd hS => ?_⟩
    have S2 := (S.mv s1).mv s2
    refine ⟨_, rfl, t, _, _, _, _, g, (pr u).1, (pr u).2, rfl, S2.tr, S2.oo, S2.lt1, S2.lt2, gap1 u, gap2 u, by have := S2.g1; omega, by have := S2.g2; omega, pr_gcd u, fun H3 p s3 hp => ?_⟩
    obtain ⟨r, gv, ff, ef, _⟩ := (hS (pr u)).2 _ (heights_fold hi)
    refine ⟨d, .ref r, rfl, ?_, r, _, _, _, rfl, rfl, .inl (.inl (s3 _ _ ef)), rfl, q H3 (Same.trans (Same.trans s1 s2) s3)⟩
    rw [← gv]
    exact DGet.t (k := kP (pr u)) (s3 _ _ hd) (pairT hp)
end
end LR

namespace LR
open PySem PySem.Spec PyProof.Rows L2
open PySem.W (Datum DatumOrd Holds HoldAll Tup)
/-- u and v lie a leap from one another; d is the one farther out -/
def Nb (u v d : Wd) : Prop := (∃ c, v = c :: u ∧ d = v) ∨ (∃ c, u = c :: v ∧ d = u)
theorem Nb.sums {u v d : Wd} (n : Nb u v d) : ((pr u).1 + (pr u).2 < (pr v).1 + (pr v).2 ∧ d = v) ∨ ((pr v).1 + (pr v).2 < (pr u).1 + (pr u).2 ∧ d = u) := by
  have key : ∀ (c : Bool) (x : Wd), (pr x).1 + (pr x).2 < (pr (c :: x)).1 + (pr (c :: x)).2 := by
    intro c x
    have := pr_pos x
    cases c
    · rw [pr_f]; dsimp only; omega
    · rw [pr_t]; dsimp only; omega
  rcases n with ⟨c, e, e2⟩ | ⟨c, e, e2⟩
  · exact .inl ⟨by rw [e]; exact key c u, e2⟩
  · exact .inr ⟨by rw [e]; exact key c v, e2⟩
theorem lt_np {n m : Int} {x y : Tup Int} : (n < m → DatumOrd.lt (n, x) (m, y) = true) ∧ (m < n → ¬ DatumOrd.lt (n, x) (m, y) = true) := by
  have e : DatumOrd.lt (n, x) (m, y) = if n = m then DatumOrd.lt x y else decide (n < m) := rfl
  rw [e]
  constructor
  · intro h
    rw [if_neg (by omega)]
    exact decide_eq_true h
  · intro h
    rw [if_neg (by omega)]
    exact fun z => absurd (of_decide_eq_true z) (by omega)
section
variable {P : Program} {w : World} {K : PySem.W.Frag} {mg : Str → Option Value} {base : Heap}
/-! ### ways_over -/
def spWays : Sp := fun vs H Q _ => ∃ (t t2 : Addr) (h g : Int) (o : O3) (u v d : Wd) (w0 w1 W B : Int) (i j : Nat) (a b : Int), vs = [.ref t, .int i, .int j, .ref t2] ∧ StOk H t h g o u ∧ WlOk H t2 h g w0 w1 W B ∧ inb W B u = true ∧ inb W B v = true ∧
  Nb u v d ∧ ((i : Int), (j : Int)) ∈ leapsL (od o u) (px h g u) (py h g u) (pz h g u) ∧ (st h g o u)[i]? = some a ∧ (st h g o u)[j]? = some b ∧ (st h g o u).set i (2 * b - a) = st h g o v ∧
  ∀ H', Same H H' → Q (.int (sz W B d * (((LR.P W B []).length : Int) - sz W B d))) H'
theorem c_ways_over (T : Top K mg) : Cal P w K mg base 8 "ways_over" spWays := by
  refine T.d_ways_over.cal sc_ways_over (fun vs H Q E h => ?_) (fun f cdv A outer s H vs Q E hr h => ?_)
  · obtain ⟨t, t2, h, g, o, u, v, d, w0, w1, W, B, i, j, a, b, rfl, _⟩ := h
    rfl
  · obtain ⟨t, t2, h, g, o, u, v, d, w0, w1, W, B, i, j, a, b, rfl, S, L, hi, hv, nb, hm, hai, hbj, est, q⟩ := h
    have hu := du0 (n := 1) hr (by decide)
    refine ⟨_, pss_cons (ps_expr (pe_c (c_need_state T) hr (by decide) (by rfl) (pa_cons (pv 0) pa_nil)))
      (pss_cons (ps_expr (pe_c (c_need_leap T) hr (by decide) (by rfl) (pa_cons (pv 0) (pa_cons (pv 1) (pa_cons (pv 2) pa_nil)))))
      (pss_cons (ps_expr (pe_c (c_need_walls T) hr (by decide) (by rfl) (pa_cons (pv 0) (pa_cons (pv 3) pa_nil))))
      (pss_cons (ps_set (i := 4) sc_ways_over.nd rfl (.inl rfl) (pe_c (c_leapt_to T) hr (by decide) (by rfl) (pa_cons (pv 0) (pa_cons (pv 1) (pa_cons (pv 2) pa_nil)))))
      (pss_cons (ps_if (PW.pt (pw_or (pt_cmpR op_lt (pe_callB (cr_minT rfl (du2 hr)) (by rfl) T.z_min (by decide +kernel) (pa_cons (pv 4) pa_nil)) (pe_ix ix_tup (pv 3) pe_int (fun _ _ => rfl)) (nomark _))
        (pw_or1 (pt_cmpR op_gt (pe_callB (cr_maxT rfl (du2 hr)) (by rfl) T.z_max (by decide +kernel) (pa_cons (pv 4) pa_nil)) (pe_ix ix_tup (pv 3) pe_int (fun _ _ => rfl)) (nomark _))))) (pss_one ps_never) pss_nil)
      (pss_cons (ps_set (i := 5) sc_ways_over.nd rfl (.inl rfl) (pe_c (c_need_field T) hr (by decide) (by rfl) (pa_cons (pv 0) (pa_cons (pv 3) (pa_cons (pe_gl (by rfl) T.g_MF) pa_nil)))))
      (pss_cons (ps_par (i := 7) (j := 8) (by rfl) sc_ways_over.nd rfl rfl (by decide) rfl rfl (pa_cons (pe_c (c_pair_of T) hr (by decide) (by rfl) (pa_cons (pv 0) pa_nil)) (pa_cons (pe_c (c_pair_of T) hr (by decide) (by rfl) (pa_cons (pv 4) pa_nil)) pa_nil)) (by rfl))
      (pss_cons (ps_set (i := 6) sc_ways_over.nd rfl (.inl rfl) (pe_dget hu (pe_c (c_sizes_of T) hr (by decide) (by rfl) (pa_cons (pv 5) pa_nil))
        (pe_ix ix_tup (pe_callB (cr_max2D (α := Int × Tup Int) rfl (du hr (by decide))) (by rfl) T.z_max (by decide +kernel)
          (pa_cons (pe_tup (pa_cons (pe_callB (cr_sumT rfl) (by rfl) T.z_sum (by decide +kernel) (pa_cons (pv 7) pa_nil)) (pa_cons (pv 7) pa_nil)))
          (pa_cons (pe_tup (pa_cons (pe_callB (cr_sumT rfl) (by rfl) T.z_sum (by decide +kernel) (pa_cons (pv 8) pa_nil)) (pa_cons (pv 8) pa_nil))) pa_nil))) pe_int (fun _ _ => rfl)) (fun _ _ => rfl)))
      (pss_one (ps_ret (pe_op op_mul (pv 6) (pe_op op_sub (pe_callB call_len_seq (by rfl) T.z_len PySem.boot_len (pa_cons (pv 5) pa_nil)) (pv 6)))))))))))), ?_⟩
    refine ⟨_, rfl, t, _, rfl, S.it, rfl, fun n hn => by have := S.bd n hn; omega, S.nd, fun H1 s1 => ?_⟩
    refine ⟨_, rfl, _, rfl, _, rfl, t, _, _, _, _, i, j, rfl, (S.mv s1).tr, S.oo, S.lt1, S.lt2, hm, fun H2 s2 => ?_⟩
    have s12 := Same.trans s1 s2
    refine ⟨_, rfl, _, rfl, t, t2, h, g, o, u, w0, w1, W, B, rfl, S.mv s12, L.mv s12, hi, fun H3 s3 => ?_⟩
    have s13 := Same.trans s12 s3
    refine ⟨_, rfl, _, rfl, _, rfl, t, _, i, j, a, b, rfl, (S.mv s13).it, hai, hbj, fun H4 t' s4 ht' => ?_⟩
    rw [est] at ht'
    have s14 := Same.trans s13 s4
    have S4 := S.mv s14
    have L4 := L.mv s14
    have hbv := inb_iff.mp hv
    have mW := L.mW
    have mB := L.mB
    have V4 : StOk H4 t' h g o v := ⟨ht', S.ho, S.g1, S.g2, S.h1, S.h2, by omega, by omega⟩
    have hx := inb_box S.g1 L.eW L.eB hv
    have L4' := L4.it.sq (K := K)
    clear s1 s2 s3 s4 s12 s13
    refine ⟨_, rfl, t', _, _, rfl, V4.tr.sq, _, rfl, t2, _, 0, _, rfl, rfl, L4', atI_nat (j := 0) rfl, _, _, rfl, rfl, _, rfl, ?_⟩
    rw [min_tri V4.oo V4.lt1 V4.lt2]
    refine iteE (by omega) ?_
    refine ⟨_, rfl, t', _, _, rfl, V4.tr.sq, _, rfl, t2, _, 1, _, rfl, rfl, L4', atI_nat (j := 1) rfl, _, _, rfl, rfl, _, rfl, ?_⟩
    rw [max_tri V4.oo V4.lt1 V4.lt2]
    refine iteE (by omega) ?_
    refine ⟨_, rfl, _, rfl, t, t2, h, g, o, u, w0, w1, W, B, rfl, S4, L4, hi, fun H5 pa us s5 hpa hT => ?_⟩
    have S5 := S4.mv s5
    have V5 := V4.mv s5
    refine ⟨_, rfl, t, _, _, _, _, g, (pr u).1, (pr u).2, rfl, S5.tr, S5.oo, S5.lt1, S5.lt2, gap1 u, gap2 u, by have := S5.g1; omega, by have := S5.g2; omega, pr_gcd u, fun H6 p6 s6 hp6 => ?_⟩
    have V6 := V5.mv s6
    refine ⟨_, rfl, t', _, _, _, _, g, (pr v).1, (pr v).2, rfl, V6.tr, V6.oo, V6.lt1, V6.lt2, gap1 v, gap2 v, by have := S5.g1; omega, by have := S5.g2; omega, pr_gcd v, fun H7 p7 s7 hp7 => ⟨_, _, rfl, ?_⟩⟩
    have s67 := Same.trans s6 s7
    have hfew := few_of (t := t) (o := o) L hi
    have hul : us.length = (LR.P W B []).length := by
      have := hT.len
      rw [List.length_map] at this
      exact this
    refine ⟨_, rfl, pa, us, _, rfl, s67 _ _ hpa, hT.tk (Same.tk s67), hfew, fun H8 dd kvs s8 hdd hS => ?_⟩
    have hp6' := (hp6.mv s7).mv s8
    have hp7' := hp7.mv s8
    have hpa8 := s8 _ _ (s67 _ _ hpa)
    refine ⟨_, rfl, p6, _, rfl, hp6'.sq, _, rfl, (by show 2 ≤ sizeLine; decide), fun e1 ne1 => ?_⟩
    have se1 := Same.new (o := .tup [.int [(pr u).1, (pr u).2].sum, .ref p6]) ne1
    have he1 : upd H8 e1 (.tup [.int [(pr u).1, (pr u).2].sum, .ref p6]) e1 = some (.tup [.int [(pr u).1, (pr u).2].sum, .ref p6]) := upd_same
    refine ⟨_, rfl, p7, _, rfl, (hp7'.mv se1).sq, _, rfl, (by show 2 ≤ sizeLine; decide), fun e2 ne2 => ?_⟩
    have se2 := Same.mk (o := .tup [.int [(pr v).1, (pr v).2].sum, .ref p7]) se1 ne2
    have he1' : upd (upd H8 e1 (.tup [.int [(pr u).1, (pr u).2].sum, .ref p6])) e2 (.tup [.int [(pr v).1, (pr v).2].sum, .ref p7]) e1 = some (.tup [.int [(pr u).1, (pr u).2].sum, .ref p6]) := Same.new ne2 _ _ he1
    have he2 : upd (upd H8 e1 (.tup [.int [(pr u).1, (pr u).2].sum, .ref p6])) e2 (.tup [.int [(pr v).1, (pr v).2].sum, .ref p7]) e2 = some (.tup [.int [(pr v).1, (pr v).2].sum, .ref p7]) := upd_same
    have sall := Same.trans (Same.trans (Same.trans (Same.trans s14 s5) s67) s8) se2
    generalize upd (upd H8 e1 (.tup [.int [(pr u).1, (pr u).2].sum, .ref p6])) e2 (.tup [.int [(pr v).1, (pr v).2].sum, .ref p7]) = H9 at *
    have hd9 := se2 _ _ hdd
    have hp69 := hp6'.mv se2
    have hp79 := hp7'.mv se2
    have hpa9 := se2 _ _ hpa8
    -- what is left, with the pair of the one farther out
    have hz0 : 0 ≤ sz W B d ∧ sz W B d < 2 ^ 64 := by
      have hd : inb W B d = true := by
        rcases nb with ⟨_, _, e⟩ | ⟨_, _, e⟩ <;> rw [e] <;> assumption
      have h1 : (LR.P W B d).length ≤ (LR.P W B []).length := by
        rw [← P_filter hd [] List.nil_suffix]
        exact List.length_filter_le _ _
      unfold sz
      omega
    have fin : ∀ (z : Int), z = sz W B d → tRet (tOp (rI CMul fun i j => .int (i * j)) (tVar 6) (tOp (rI0 fun i j => .int (i - j)) (tCB (fun xs H Q => ∃ p ys, xs = [.ref p] ∧ (SqL K H p ys ∨ SqT K H p ys) ∧ Q (.int ys.length) H) (tCons (tVar 5) tNil)) (tVar 6))) { nx := fun _ H' => Q .non H', rt := Q }
        [some (.ref t), some (.int i), some (.int j), some (.ref t2), some (.ref t'), some (.ref pa), some (.int z), some (.ref p6), some (.ref p7)] H9 := by
      rintro z rfl
      refine ⟨_, rfl, _, rfl, pa, us, rfl, .inl (SqL.of hpa9), _, rfl, _, _, rfl, rfl, _, _, rfl, rfl, .inl ⟨by omega, hz0.2⟩, ?_⟩
      have := q H9 sall
      rw [← hul] at this
      exact this
    have gd : ∀ x : Wd, inb W B x = true → valV kvs (kP (pr x)) = some (.int (sz W B x)) := by
      intro x hx
      rw [hS (pr x), sizes_fold hx]
      rfl
    refine ⟨.ref e1, .ref e2, ([(pr u).1, (pr u).2].sum, Tup.mk [(pr u).1, (pr u).2]), ([(pr v).1, (pr v).2].sum, Tup.mk [(pr v).1, (pr v).2]), rfl, dv_pair (.inl (.inl he1')) (dv_int _) (dv_tup hp69.sq (dvs_ints _)), dv_pair (.inl (.inl he2)) (dv_int _) (dv_tup hp79.sq (dvs_ints _)), ?_⟩
    have es : ∀ a b : Int, [a, b].sum = a + b := fun a b => by simp
    rcases nb.sums with ⟨hlt, ed⟩ | ⟨hlt, ed⟩
    · rw [if_pos (lt_np.1 (by rw [es, es]; exact hlt))]
      refine ⟨e2, _, _, _, rfl, rfl, .inl (.inl he2), rfl, dd, .int (sz W B v), rfl, ?_, ?_⟩
      · rw [← gd v hv]
        exact DGet.t (k := kP (pr v)) hd9 (pairT hp79)
      · exact fin _ (by rw [ed])
    · rw [if_neg (lt_np.2 (by rw [es, es]; exact hlt))]
      refine ⟨e1, _, _, _, rfl, rfl, .inl (.inl he1'), rfl, dd, .int (sz W B u), rfl, ?_, ?_⟩
      · rw [← gd u hi]
        exact DGet.t (k := kP (pr u)) hd9 (pairT hp69)
      · exact fin _ (by rw [ed])
end
end LR

namespace LR
open PySem PySem.Spec PyProof.Rows L2
open PySem.W (Datum DatumOrd Holds HoldAll Tup)
/-! ### the row of drawn numbers -/
/-- a list that nothing writes at -/
def Sc (K : PySem.W.Frag) (H : Hp) (a : Addr) (xs : List V) : Prop := (∃ o, H a = some (.frz o (.lst xs))) ∨ ∀ H', SqL K H' a xs
theorem Sc.sq {K : PySem.W.Frag} {H : Hp} {a : Addr} {xs : List V} (h : Sc K H a xs) : SqL K H a xs := by
  rcases h with ⟨o, e⟩ | h
  · exact .inl (.inr ⟨o, e⟩)
  · exact h H
/-- all that H knows but rw stands in H' -/
def Sx (rw' : Addr) (H H' : Hp) : Prop := ∀ b x, b ≠ rw' → H b = some x → H' b = some x
theorem Sx.refl {r : Addr} (H : Hp) : Sx r H H := fun _ _ _ e => e
theorem Sx.trans {r : Addr} {H H1 H2 : Hp} (a : Sx r H H1) (b : Sx r H1 H2) : Sx r H H2 := fun c x h e => b c x h (a c x h e)
theorem Sx.of {r : Addr} {H H' : Hp} (s : Same H H') : Sx r H H' := fun b x _ e => s b x e
theorem Sx.wr {r : Addr} {H : Hp} {o : HO} : Sx r H (upd H r o) := fun b x h e => by rw [upd_ne h]; exact e
theorem Sc.mv {K : PySem.W.Frag} {r : Addr} {H H' : Hp} {a : Addr} {xs ys : List V} (h : Sc K H a xs) (hr : H r = some (.lst ys)) (s : Sx r H H') : Sc K H' a xs := by
  rcases h with ⟨o, e⟩ | h
  · refine .inl ⟨o, s a _ (fun z => ?_) e⟩
    rw [z, hr] at e
    cases e
  · exact .inr h
structure Row (K : PySem.W.Frag) (H : Hp) (r : Addr) (ns : List Int) : Prop where
  ex : ∃ (a : Addr) (c1 c2 c3 : Int), H r = some (.lst [.ref a, .int c1, .int c2, .int c3]) ∧ 0 ≤ c1 ∧ Sc K H a (ns.map V.int)
theorem Row.lst {K : PySem.W.Frag} {H : Hp} {r : Addr} {ns : List Int} (R : Row K H r ns) : ∃ xs, H r = some (.lst xs) := by
  obtain ⟨a, c1, c2, c3, e, _⟩ := R.ex
  exact ⟨_, e⟩
theorem Row.tk {K : PySem.W.Frag} {H H' : Hp} {r : Addr} {ns : List Int} (R : Row K H r ns) (s : Sx r H H') : TK H H' := by
  obtain ⟨xs, e⟩ := R.lst
  intro t ys q
  refine s t _ (fun z => ?_) q
  rw [z, e] at q
  cases q
theorem Row.mv {K : PySem.W.Frag} {H H' : Hp} {r : Addr} {ns : List Int} (R : Row K H r ns) (s : Same H H') : Row K H' r ns := by
  obtain ⟨a, c1, c2, c3, e, h1, h2⟩ := R.ex
  exact ⟨a, c1, c2, c3, s _ _ e, h1, h2.mv e (Sx.of s)⟩
section
variable {P : Program} {w : World} {K : PySem.W.Frag} {mg : Str → Option Value} {base : Heap}
/-! ### _law_taken, _law_pick -/
def spTaken (K : PySem.W.Frag) : Sp := fun vs H Q _ => ∃ (r : Addr) (ns : List Int) (m : Int), vs = [.ref r, .int m] ∧ Row K H r ns ∧ 0 < m ∧ m < 1073741824 ∧ ∀ (H' : Hp) (v : Int), Sx r H H' → Row K H' r ns → 0 ≤ v → v < m → Q (.int v) H'
theorem c_law_taken (T : Top K mg) : Cal P w K mg base 1 "_law_taken" (spTaken K) := by
  refine T.d_law_taken.cal sc_law_taken (fun vs H Q E h => ?_) (fun f cdv A outer s H vs Q E hr h => ?_)
  · obtain ⟨r, ns, m, rfl, _⟩ := h
    rfl
  · obtain ⟨r, ns, m, rfl, R, hm1, hm2, q⟩ := h
    refine ⟨_, pss_cons (ps_if (pt_cmpR op_gt (pe_ix ix_list (pv 0) pe_int (fun _ _ => rfl)) pe_int (nomark _))
        (pss_cons (ps_set (i := 3) sc_law_taken.nd rfl (.inl rfl) (pe_op op_mod (pe_callTy call_int1 (by rfl) T.z_int (by decide +kernel) (pa_cons (pe_ix ix_list (pv 0) pe_int (fun _ _ => rfl)) pa_nil)) (pv 1)))
        (pss_cons (ps_asg (pe_op op_fdiv (pe_ix ix_list (pv 0) pe_int (fun _ _ => rfl)) (pv 1)) (pg_sub (pv 0) pe_int set_list))
        (pss_one (ps_ret (pv 3))))) pss_nil)
      (pss_cons (ps_asg (pe_op op_add (pe_ix ix_list (pv 0) pe_int (fun _ _ => rfl)) pe_int) (pg_sub (pv 0) pe_int set_list))
      (pss_cons (ps_if (pt_cmpR op_gt (pe_ix ix_list (pv 0) pe_int (fun _ _ => rfl)) (pe_callB call_len_seq (by rfl) T.z_len PySem.boot_len (pa_cons (pe_ix ix_list (pv 0) pe_int (fun _ _ => rfl)) pa_nil)) (nomark _))
        (pss_cons (ps_asg (pe_op op_mod (pe_callTy call_int1 (by rfl) T.z_int (by decide +kernel) (pa_cons (pe_op op_add (pe_op op_mul (pe_ix ix_list (pv 0) pe_int (fun _ _ => rfl)) pe_int) pe_int) pa_nil)) pe_int) (pg_sub (pv 0) pe_int set_list))
        (pss_one (ps_ret (pe_op op_mod (pe_callTy call_int1 (by rfl) T.z_int (by decide +kernel) (pa_cons (pe_op op_fdiv (pe_ix ix_list (pv 0) pe_int (fun _ _ => rfl)) pe_int) pa_nil)) (pv 1))))) pss_nil)
      (pss_cons (ps_set (i := 2) sc_law_taken.nd rfl (.inl rfl) (pe_ix ix_list (pe_ix ix_list (pv 0) pe_int (fun _ _ => rfl)) (pe_op op_sub (pe_ix ix_list (pv 0) pe_int (fun _ _ => rfl)) pe_int) (fun _ _ => rfl)))
      (pss_cons (ps_asg (pe_op op_mod (pe_callTy call_int1 (by rfl) T.z_int (by decide +kernel) (pa_cons (pe_op op_add (pe_op op_add (pe_op op_mul (pe_ix ix_list (pv 0) pe_int (fun _ _ => rfl)) pe_int) (pv 2)) pe_int) pa_nil)) pe_int) (pg_sub (pv 0) pe_int set_list))
      (pss_cons (ps_if (pt_cmpR op_ge (pv 2) (pe_op op_pow pe_int pe_int) (nomark _))
        (pss_one (ps_asg (pe_op op_fdiv (pv 2) (pv 1)) (pg_sub (pv 0) pe_int set_list))) pss_nil)
      (pss_one (ps_ret (pe_op op_mod (pe_callTy call_int1 (by rfl) T.z_int (by decide +kernel) (pa_cons (pv 2) pa_nil)) (pv 1))))))))), ?_⟩
    obtain ⟨a, c1, c2, c3, e, h1, hS⟩ := R.ex
    have md : ∀ x : Int, 0 ≤ x % m ∧ x % m < m := fun x => ⟨Int.emod_nonneg _ (by omega), Int.emod_lt_of_pos _ hm1⟩
    refine ⟨_, rfl, r, _, _, _, rfl, rfl, SqL.of e, rfl, _, _, rfl, rfl, _, rfl, ?_⟩
    by_cases h3 : c3 > 0
    · refine iteD h3 ?_
      refine ⟨_, rfl, r, _, _, _, rfl, rfl, SqL.of e, rfl, .inl ⟨_, rfl, _, rfl, _, _, rfl, rfl, hm1, ?_⟩⟩
      refine ⟨_, rfl, r, _, _, _, rfl, rfl, SqL.of e, rfl, _, rfl, _, _, rfl, rfl, ⟨hm1, hm2⟩, ?_⟩
      refine ⟨_, rfl, r, _, _, _, rfl, rfl, e, rfl, ?_⟩
      exact ⟨_, rfl, q _ _ Sx.wr ⟨a, c1, c2, c3 / m, upd_same, h1, hS.mv e Sx.wr⟩ (md c3).1 (md c3).2⟩
    · refine iteE h3 ?_
      refine ⟨_, rfl, r, _, _, _, rfl, rfl, SqL.of e, rfl, _, _, rfl, rfl, ?_⟩
      refine ⟨_, rfl, r, _, _, _, rfl, rfl, e, rfl, ?_⟩
      have s1 : Sx r H (upd H r (.lst [.ref a, .int (c1 + 1), .int c2, .int c3])) := Sx.wr
      have e1 : upd H r (.lst [.ref a, .int (c1 + 1), .int c2, .int c3]) r = some (.lst [.ref a, .int (c1 + 1), .int c2, .int c3]) := upd_same
      have hS1 := hS.mv e s1
      change Ends.nx _ _ (upd H r (.lst [.ref a, .int (c1 + 1), .int c2, .int c3]))
      generalize upd H r (.lst [.ref a, .int (c1 + 1), .int c2, .int c3]) = H1 at *
      refine ⟨_, rfl, r, _, _, _, rfl, rfl, SqL.of e1, rfl, _, rfl, r, _, _, _, rfl, rfl, SqL.of e1, rfl, a, _, rfl, .inl hS1.sq, _, _, rfl, rfl, _, rfl, ?_⟩
      rw [List.length_map]
      by_cases hl : c1 + 1 > (ns.length : Int)
      · refine iteD hl ?_
        refine ⟨_, rfl, r, _, _, _, rfl, rfl, SqL.of e1, rfl, _, _, rfl, rfl, .inr ⟨by decide, by decide⟩, _, _, rfl, rfl, .inl ⟨_, rfl, _, _, rfl, rfl, (by show (0 : Int) < 2147483647; decide), ?_⟩⟩
        refine ⟨_, rfl, r, _, _, _, rfl, rfl, e1, rfl, ?_⟩
        have s2 : Sx r H1 (upd H1 r (.lst [.ref a, .int (c1 + 1), .int ((c2 * 48271 + 11) % 2147483647), .int c3])) := Sx.wr
        have e2 : upd H1 r (.lst [.ref a, .int (c1 + 1), .int ((c2 * 48271 + 11) % 2147483647), .int c3]) r = some (.lst [.ref a, .int (c1 + 1), .int ((c2 * 48271 + 11) % 2147483647), .int c3]) := upd_same
        change Ends.nx _ _ (upd H1 r (.lst [.ref a, .int (c1 + 1), .int ((c2 * 48271 + 11) % 2147483647), .int c3]))
        refine ⟨_, rfl, r, _, _, _, rfl, rfl, SqL.of e2, rfl, _, _, rfl, rfl, ⟨by decide, by decide⟩, .inl ⟨_, rfl, _, rfl, _, _, rfl, rfl, hm1, ?_⟩⟩
        exact q _ _ (s1.trans s2) ⟨a, c1 + 1, _, c3, e2, by omega, hS1.mv e1 s2⟩ (md _).1 (md _).2
      · refine iteE hl ?_
        obtain ⟨k, hk⟩ : ∃ k : Nat, c1 = (k : Int) := ⟨c1.toNat, by omega⟩
        have hkl : k < ns.length := by omega
        have hat : atI (ns.map V.int) (c1 + 1 - 1) = some (.int ns[k]) := at_of (j := k) (by omega) (by rw [List.getElem?_map, List.getElem?_eq_getElem hkl]; rfl)
        refine ⟨_, rfl, r, _, _, _, rfl, rfl, SqL.of e1, rfl, _, rfl, r, _, _, _, rfl, rfl, SqL.of e1, rfl, _, _, rfl, rfl, a, _, _, _, rfl, rfl, hS1.sq, hat, ?_⟩
        generalize ns[k] = x
        refine ⟨_, rfl, r, _, _, _, rfl, rfl, SqL.of e1, rfl, _, _, rfl, rfl, .inr ⟨by decide, by decide⟩, _, rfl, _, _, rfl, rfl, _, _, rfl, rfl, .inl ⟨_, rfl, _, _, rfl, rfl, (by show (0 : Int) < 2147483647; decide), ?_⟩⟩
        refine ⟨_, rfl, r, _, _, _, rfl, rfl, e1, rfl, ?_⟩
        have s2 : Sx r H1 (upd H1 r (.lst [.ref a, .int (c1 + 1), .int ((c2 * 48271 + x + 11) % 2147483647), .int c3])) := Sx.wr
        have e2 : upd H1 r (.lst [.ref a, .int (c1 + 1), .int ((c2 * 48271 + x + 11) % 2147483647), .int c3]) r = some (.lst [.ref a, .int (c1 + 1), .int ((c2 * 48271 + x + 11) % 2147483647), .int c3]) := upd_same
        have hS2 := hS1.mv e1 s2
        change Ends.nx _ _ (upd H1 r (.lst [.ref a, .int (c1 + 1), .int ((c2 * 48271 + x + 11) % 2147483647), .int c3]))
        generalize upd H1 r (.lst [.ref a, .int (c1 + 1), .int ((c2 * 48271 + x + 11) % 2147483647), .int c3]) = H2 at *
        refine ⟨_, rfl, _, _, rfl, rfl, ⟨by decide, by decide, by decide⟩, _, _, rfl, rfl, _, rfl, ?_⟩
        refine ite2 (fun _ => ?_) (fun _ => ?_)
        · refine ⟨_, rfl, _, rfl, _, _, rfl, rfl, ⟨hm1, hm2⟩, ?_⟩
          refine ⟨_, rfl, r, _, _, _, rfl, rfl, e2, rfl, ?_⟩
          refine ⟨_, rfl, .inl ⟨_, rfl, _, rfl, _, _, rfl, rfl, hm1, ?_⟩⟩
          exact q _ _ ((s1.trans s2).trans Sx.wr) ⟨a, c1 + 1, _, x / m, upd_same, by omega, hS2.mv e2 Sx.wr⟩ (md _).1 (md _).2
        · refine ⟨_, rfl, .inl ⟨_, rfl, _, rfl, _, _, rfl, rfl, hm1, ?_⟩⟩
          exact q _ _ (s1.trans s2) ⟨a, c1 + 1, _, c3, e2, by omega, hS2⟩ (md _).1 (md _).2
def spPick (K : PySem.W.Frag) : Sp := fun vs H Q _ => ∃ (r l : Addr) (ns : List Int) (xs : List V), vs = [.ref r, .ref l] ∧ Row K H r ns ∧ H l = some (.lst xs) ∧ l ≠ r ∧ 0 < xs.length ∧ xs.length < 1000 ∧ ∀ (H' : Hp) (i : Nat) (v : V), Sx r H H' → Row K H' r ns → xs[i]? = some v → Q v H'
theorem c_law_pick (T : Top K mg) : Cal P w K mg base 2 "_law_pick" (spPick K) := by
  refine T.d_law_pick.cal sc_law_pick (fun vs H Q E h => ?_) (fun f cdv A outer s H vs Q E hr h => ?_)
  · obtain ⟨r, l, ns, xs, rfl, _⟩ := h
    rfl
  · obtain ⟨r, l, ns, xs, rfl, R, hl, hlr, h1, h2, q⟩ := h
    refine ⟨_, pss_one (ps_ret (pe_ix ix_list (pv 1) (pe_c (c_law_taken T) hr (by decide) (by rfl) (pa_cons (pv 0) (pa_cons (pe_callB call_len_seq (by rfl) T.z_len PySem.boot_len (pa_cons (pv 1) pa_nil)) pa_nil))) (fun _ _ => rfl))), ?_⟩
    refine ⟨_, rfl, _, rfl, _, rfl, l, xs, rfl, .inl (SqL.of hl), r, ns, _, rfl, R, by omega, by omega, fun H' v s R' v0 v1 => ?_⟩
    obtain ⟨k, rfl⟩ : ∃ k : Nat, v = (k : Int) := ⟨v.toNat, by omega⟩
    have hk : k < xs.length := by omega
    refine ⟨l, xs, _, xs[k], rfl, rfl, SqL.of (s _ _ hlr hl), atI_nat (List.getElem?_eq_getElem hk), ?_⟩
    exact q H' k _ s R' (List.getElem?_eq_getElem hk)
/-! ### _law_alike -/
def spAlike : Sp := fun vs H Q _ => ((∃ i : Int, vs = [.int i, .int i]) ∨ ∃ c : Bool, vs = [.bl c, .bl c]) ∧ ∀ H', Same H H' → Q (.bl true) H'
theorem c_law_alike (T : Top K mg) : Cal P w K mg base 1 "_law_alike" spAlike := by
  refine T.d_law_alike.cal sc_law_alike (fun vs H Q E h => ?_) (fun f cdv A outer s H vs Q E hr h => ?_)
  · obtain ⟨⟨i, rfl⟩ | ⟨c, rfl⟩, _⟩ := h <;> rfl
  · obtain ⟨hv, q⟩ := h
    refine ⟨_, pss_cons (ps_if (pt_val (pe_callB call_isiT (by rfl) T.z_isinstance (by decide +kernel) (pa_cons (pv 1) (pa_cons (pe_tup (pa_cons (pe_bltn (v := .ty "tuple") (by rfl) T.z_tuple (by decide +kernel) rfl) (pa_cons (pe_bltn (v := .ty "list") (by rfl) T.z_list (by decide +kernel) rfl) pa_nil))) pa_nil)))) pss_never pss_nil)
      (pss_cons (ps_if (PW.pt (pw_or (pt_cmp (pc_isN (pv 1))) (pw_or1 (pt_val (pe_callB call_isi (by rfl) T.z_isinstance (by decide +kernel) (pa_cons (pv 1) (pa_cons (pe_bltn (v := .ty "str") (by rfl) T.z_str (by decide +kernel) rfl) pa_nil))))))) (pss_one ps_never) pss_nil)
      (pss_one (ps_ret (pe_and (pe_callB call_isi (by rfl) T.z_isinstance (by decide +kernel) (pa_cons (pv 0) (pa_cons (pe_bltn (v := .ty "int") (by rfl) T.z_int (by decide +kernel) rfl) pa_nil)))
        (pe_and (pe_cmpR op_eq (pe_callB call_isi (by rfl) T.z_isinstance (by decide +kernel) (pa_cons (pv 0) (pa_cons (pe_bltn (v := .ty "bool") (by rfl) T.z_bool (by decide +kernel) rfl) pa_nil))) (pe_callB call_isi (by rfl) T.z_isinstance (by decide +kernel) (pa_cons (pv 1) (pa_cons (pe_bltn (v := .ty "bool") (by rfl) T.z_bool (by decide +kernel) rfl) pa_nil))) (nomark _))
        (pe_one (pe_cmpR op_eq (pv 0) (pv 1) (nomark _)))))))), ?_⟩
    rcases hv with ⟨i, rfl⟩ | ⟨c, rfl⟩
    · refine ⟨_, rfl, (by show 2 ≤ sizeLine; decide), fun p np => ?_⟩
      have s := Same.new (o := .tup [.ty "tuple", .ty "list"]) np
      refine ⟨_, p, _, _, [.type "tuple", .type "list"], false, rfl, upd_same, .cons (.ty _) (.cons (.ty _) .nil), .base (.int i), kitAny_cons (b := false) (kit_ty (by decide +kernel)) (fun _ => kitAny_cons (b := false) (kit_ty (by decide +kernel)) (fun _ => kitAny_nil) (fun z => (nomatch z))) (fun z => (nomatch z)), false, rfl, iteF ?_⟩
      refine ⟨_, rfl, false, rfl, iteF ?_⟩
      refine ⟨_, rfl, _, _, _, _, _, rfl, .ty "str", .base (.int i), kit_ty (r := false) (by decide +kernel), false, rfl, iteF ?_⟩
      refine ⟨_, rfl, _, _, _, _, _, rfl, .ty "int", .base (.int i), kit_ty (r := true) (by decide +kernel), true, rfl, iteT ?_⟩
      refine ⟨_, rfl, _, _, _, _, _, rfl, .ty "bool", .base (.int i), kit_ty (r := false) (by decide +kernel), _, rfl, _, _, _, _, _, rfl, .ty "bool", .base (.int i), kit_ty (r := false) (by decide +kernel), rfl, true, rfl, iteT ?_⟩
      exact ⟨_, rfl, _, rfl, rfl, q_t rfl (q _ s)⟩
    · refine ⟨_, rfl, (by show 2 ≤ sizeLine; decide), fun p np => ?_⟩
      have s := Same.new (o := .tup [.ty "tuple", .ty "list"]) np
      refine ⟨_, p, _, _, [.type "tuple", .type "list"], false, rfl, upd_same, .cons (.ty _) (.cons (.ty _) .nil), .base (.bl c), kitAny_cons (b := false) (kit_ty (by decide +kernel)) (fun _ => kitAny_cons (b := false) (kit_ty (by decide +kernel)) (fun _ => kitAny_nil) (fun z => (nomatch z))) (fun z => (nomatch z)), false, rfl, iteF ?_⟩
      refine ⟨_, rfl, false, rfl, iteF ?_⟩
      refine ⟨_, rfl, _, _, _, _, _, rfl, .ty "str", .base (.bl c), kit_ty (r := false) (by decide +kernel), false, rfl, iteF ?_⟩
      refine ⟨_, rfl, _, _, _, _, _, rfl, .ty "int", .base (.bl c), kit_ty (r := true) (by decide +kernel), true, rfl, iteT ?_⟩
      refine ⟨_, rfl, _, _, _, _, _, rfl, .ty "bool", .base (.bl c), kit_ty (r := true) (by decide +kernel), _, rfl, _, _, _, _, _, rfl, .ty "bool", .base (.bl c), kit_ty (r := true) (by decide +kernel), rfl, true, rfl, iteT ?_⟩
      exact ⟨_, rfl, _, rfl, rfl, q_t rfl (q _ s)⟩
end
end LR

namespace LR
open PySem PySem.Spec PyProof.Rows L2
open PySem.W (Datum DatumOrd Holds HoldAll Tup)
section
variable {P : Program} {w : World} {K : PySem.W.Frag} {mg : Str → Option Value} {base : Heap}
/-! ### _law_order -/
def spLOrder : Sp := fun vs H Q _ => ∃ (t : Addr) (o : O3) (x y z : Int), vs = [.ref t] ∧ IT H t (tri o x y z) ∧ isO o ∧ x < y ∧ y < z ∧
  ∀ H' p, Same H H' → H' p = some (.lst ((lv o).map V.int)) → Q (.ref p) H'
theorem c_law_order (T : Top K mg) : Cal P w K mg base 1 "_law_order" spLOrder := by
  refine T.d_law_order.cal sc_law_order (fun vs H Q E h => ?_) (fun f cdv A outer s H vs Q E hr h => ?_)
  · obtain ⟨t, o, x, y, z, rfl, _⟩ := h
    rfl
  · obtain ⟨t, o, x, y, z, rfl, ht, ho, hxy, hyz, q⟩ := h
    refine ⟨_, pss_one (ps_ret
      (pe_lc (own := [("_law_place", 1), ("_law_stone", 2)]) (g := gTup K 2 (gCons (gName 1) (gCons (gName 2) gNil))) (tt := tYes) rfl sc_law_order.nd
        (pi_list (pe_callB cr_sortedPO (by rfl) T.z_sorted (by decide +kernel) (pa_cons
          (pe_lc (own := [("_law_stone", 2)]) (g := gName 2) (tt := tYes) rfl sc_law_order.nd
            (pi_list (pe_lst (pa_cons pe_int (pa_cons pe_int (pa_cons pe_int pa_nil))))) (blkOk_by (own := [("_law_stone", 2)]) (N := n_law_order) (sc := defScope s_law_order) (by decide +kernel))
            (fun _ _ _ _ _ => pg_name (i := 2) sc_law_order.nd rfl (.inl rfl)) (fun _ _ _ _ _ => pts_nil)
            (fun _ _ _ _ _ => pe_tup (pa_cons (pe_ix (r := rIxT K) ix_tup (pv 0) (pv 2) (fun _ _ => rfl)) (pa_cons (pv 2) pa_nil)))) pa_nil)))
        (blkOk_by (own := [("_law_place", 1), ("_law_stone", 2)]) (N := n_law_order) (sc := defScope s_law_order) (by decide +kernel))
        (fun _ _ _ _ _ => pg_tup rfl (pgs_cons (pg_name (i := 1) sc_law_order.nd rfl (.inl rfl)) (pgs_cons (pg_name (i := 2) sc_law_order.nd rfl (.inl rfl)) pgs_nil))) (fun _ _ _ _ _ => pts_nil)
        (fun _ _ _ _ _ => pv 2))), ?_⟩
    refine ⟨(by show 3 ≤ sizeLine; decide), fun L0 nL0 => ⟨L0, rfl, ⟨_, SqL.of upd_same⟩, fun D hD => ?_⟩⟩
    have s0 := Same.new (o := .lst [V.int 0, V.int 1, V.int 2]) nL0
    have hL0 : upd H L0 (.lst [V.int 0, V.int 1, V.int 2]) L0 = some (.lst [V.int 0, V.int 1, V.int 2]) := upd_same
    have hDL : L0 ≠ D := ne_of_none hL0 hD
    have hD0 : H D = none := Same.free s0 hD
    refine lc_list (K := K) (a := L0) (xs := [V.int 0, V.int 1, V.int 2]) (fun i H' => Same H H' ∧ H' L0 = some (.lst [V.int 0, V.int 1, V.int 2]) ∧ ∃ vs, H' D = some (.lst vs) ∧ Tps H' vs (((prs o x y z).take i).map l2))
      ⟨Same.mk s0 hD, by rw [upd_ne hDL]; exact hL0, [], upd_same, trivial⟩ (fun i H' _ p => SqL.of p.2.1) ?_ ?_
    · rintro i v H1 hv ⟨s1, hl1, vs, hd, hts⟩
      have hil : i < 3 := (List.getElem?_eq_some_iff.mp hv).1
      obtain ⟨n, rfl, hn, hpr⟩ : ∃ n, v = .int (i : Int) ∧ (tri o x y z)[i]? = some n ∧ (prs o x y z)[i]? = some (n, (i : Int)) := by
        match i, hil, hv with
        | 0, _, hv => exact ⟨_, (Option.some.inj hv).symm, rfl, rfl⟩
        | 1, _, hv => exact ⟨_, (Option.some.inj hv).symm, rfl, rfl⟩
        | 2, _, hv => exact ⟨_, (Option.some.inj hv).symm, rfl, rfl⟩
      refine ⟨rfl, _, rfl, _, rfl, t, _, _, _, rfl, rfl, (ht.mv s1).sq, at_map hn, _, rfl, (by show 2 ≤ sizeLine; decide), fun p hp => ?_⟩
      have hDp : D ≠ p := ne_of_none hd hp
      have hLp : L0 ≠ p := ne_of_none hl1 hp
      have hD2 : upd H1 p (.tup [.int n, .int (i : Nat)]) D = some (.lst vs) := by rw [upd_ne hDp, hd]
      refine ⟨vs, hD2, szt (by rw [hts.len, List.length_map, List.length_take]; omega), Same.wr (Same.mk s1 hp) hD0, by rw [upd_ne hDL, upd_ne hLp, hl1], vs ++ [.ref p], upd_same, ?_⟩
      rw [List.take_add_one, hpr, List.map_append]
      refine Tps.snoc ((hts.tk (TK.new hp)).tk (TK.lst hD2)) ?_
      show upd _ D _ p = _
      rw [upd_ne (Ne.symm hDp), upd_same]
      rfl
    · rintro H1 ⟨s1, _, vs, hd, hts⟩
      have e3 : (prs o x y z).take ([V.int 0, V.int 1, V.int 2].length) = prs o x y z := rfl
      rw [e3] at hts
      refine ⟨D, vs, kOf H1, rfl, SqL.of hd, hts.pair, fun ys p hs hb hp => ?_⟩
      obtain ⟨qs, hq, hperm, hpw⟩ := sorted_keys hts hs hb
      have eq := prs_sort ho hxy hyz hperm hpw
      subst eq
      have s2 := Same.mk (o := .lst ys) s1 hp
      have hq2 : Tps (upd H1 p (.lst ys)) ys _ := hq.tk (TK.new hp)
      refine ⟨p, rfl, ⟨_, SqL.of upd_same⟩, fun D2 hD2 => ?_⟩
      have hpD2 : p ≠ D2 := fun e => by
        rw [← e, upd_same] at hD2
        cases hD2
      refine lc_list (K := K) (a := p) (xs := ys) (fun i H' => Same H H' ∧ H' p = some (.lst ys) ∧ Tps H' ys ([(x, (o.1 : Int)), (y, (o.2.1 : Int)), (z, (o.2.2 : Int))].map l2) ∧ H' D2 = some (.lst (((lv o).take i).map V.int)))
        ⟨Same.mk s2 hD2, by rw [upd_ne hpD2, upd_same], hq2.tk (TK.new hD2), upd_same⟩ (fun i H' _ p => SqL.of p.2.1) ?_ ?_
      · rintro i v H3 hv ⟨s3, hp3, ht3, hd3⟩
        obtain ⟨tt, n, rfl, hn, hit⟩ := ht3.get hv
        have hil : i < 3 := by
          have := (List.getElem?_eq_some_iff.mp hn).1
          exact this
        obtain ⟨a, b, rfl, hb2⟩ : ∃ a b : Int, n = [a, b] ∧ (lv o)[i]? = some b := by
          match i, hil, hn with
          | 0, _, hn => exact ⟨_, _, (Option.some.inj hn).symm, rfl⟩
          | 1, _, hn => exact ⟨_, _, (Option.some.inj hn).symm, rfl⟩
          | 2, _, hn => exact ⟨_, _, (Option.some.inj hn).symm, rfl⟩
        refine ⟨tt, _, rfl, hit.sq, rfl, _, _, rfl, _, _, rfl, rfl, rfl, ?_⟩
        refine ⟨_, rfl, _, hd3, szt (by rw [List.length_map, List.length_take]; omega), Same.wr s3 (Same.free s2 hD2), by rw [upd_ne hpD2, hp3], ht3.tk (TK.lst hd3), ?_⟩
        rw [upd_same, List.take_add_one, hb2, List.map_append]
        rfl
      · rintro H3 ⟨s3, hp3, ht3, hd3⟩
        have e4 : (lv o).take ys.length = lv o := by
          rw [ht3.len]
          rfl
        rw [e4] at hd3
        exact q H3 D2 s3 hd3
/-! ### _law_leapt -/
theorem c_law_leapt (T : Top K mg) : Cal P w K mg base 1 "_law_leapt" spLeapt := by
  refine T.d_law_leapt.cal sc_law_leapt (fun vs H Q E h => ?_) (fun f cdv A outer s H vs Q E hr h => ?_)
  · obtain ⟨t, ns, i, j, a, b, rfl, _⟩ := h
    rfl
  · obtain ⟨t, ns, i, j, a, b, rfl, ht, ha, hb, q⟩ := h
    refine ⟨_, pss_cons (ps_set (i := 3) sc_law_leapt.nd rfl (.inl rfl) (pe_callTy call_list_of (by rfl) T.z_list (by decide +kernel) (pa_cons (pv 0) pa_nil)))
      (pss_cons (ps_asg (pe_op op_sub (pe_op op_mul pe_int (pe_ix ix_tup (pv 0) (pv 2) (fun _ _ => rfl))) (pe_ix ix_tup (pv 0) (pv 1) (fun _ _ => rfl))) (pg_sub (pv 3) (pv 1) set_list))
      (pss_one (ps_ret (pe_callTy call_tuple_of (by rfl) T.z_tuple (by decide +kernel) (pa_cons (pv 3) pa_nil))))), ?_⟩
    refine ⟨_, rfl, t, _, rfl, .inr ht.sq, fun L nL => ?_⟩
    have ht' : IT (upd H L (.lst (ns.map V.int))) t ns := ht.mv (Same.new nL)
    refine ⟨_, rfl, _, rfl, t, _, _, _, rfl, rfl, ht'.sq, at_map hb, 2, b, rfl, rfl, .inl ⟨by decide, by decide⟩, ?_⟩
    refine ⟨_, rfl, _, rfl, t, _, _, _, rfl, rfl, ht'.sq, at_map ha, _, _, rfl, rfl, ?_⟩
    refine ⟨_, rfl, _, rfl, L, _, _, i, rfl, rfl, upd_same, ix_map ha, ?_⟩
    refine ⟨_, rfl, L, _, rfl, .inl ⟨SqL.of upd_same, fun p hp => ?_⟩⟩
    refine q _ p (Same.mk (Same.wr (Same.new nL) nL) hp) ?_
    show upd _ p _ p = _
    rw [upd_same, List.map_set]
/-! ### _law_inward -/
theorem lv_at {o : O3} (ho : isO o) {x y z : Int} : (tri o x y z)[o.1]? = some x ∧ (tri o x y z)[o.2.1]? = some y ∧ (tri o x y z)[o.2.2]? = some z := by
  rcases ho with e | e | e | e | e | e <;> subst e <;> exact ⟨rfl, rfl, rfl⟩
def spInward : Sp := fun vs H Q _ => ∃ (t : Addr) (h g : Int) (o : O3) (u : Wd), vs = [.ref t] ∧ StOk H t h g o u ∧ (u = [] → ∀ H', Same H H' → Q .non H') ∧ (∀ c v, u = c :: v → ∀ H' p, Same H H' → IT H' p (st h g o v) → Q (.ref p) H')
theorem c_law_inward (T : Top K mg) : Cal P w K mg base 2 "_law_inward" spInward := by
  refine T.d_law_inward.cal sc_law_inward (fun vs H Q E h => ?_) (fun f cdv A outer s H vs Q E hr h => ?_)
  · obtain ⟨t, h, g, o, u, rfl, _⟩ := h
    rfl
  · obtain ⟨t, h, g, o, u, rfl, S, q1, q2⟩ := h
    refine ⟨_, pss_cons (ps_asg (pe_c (c_law_order T) hr (by decide) (by rfl) (pa_cons (pv 0) pa_nil)) (pg_unl (n := 3) rfl (pgs_cons (pg_name (i := 1) sc_law_inward.nd rfl (.inl rfl)) (pgs_cons (pg_name (i := 2) sc_law_inward.nd rfl (.inl rfl)) (pgs_cons (pg_name (i := 3) sc_law_inward.nd rfl (.inl rfl)) pgs_nil)))))
      (pss_cons (ps_par (i := 4) (j := 5) (by rfl) sc_law_inward.nd rfl rfl (by decide) rfl rfl (pa_cons (pe_op op_sub (pe_ix ix_tup (pv 0) (pv 2) (fun _ _ => rfl)) (pe_ix ix_tup (pv 0) (pv 1) (fun _ _ => rfl))) (pa_cons (pe_op op_sub (pe_ix ix_tup (pv 0) (pv 3) (fun _ _ => rfl)) (pe_ix ix_tup (pv 0) (pv 2) (fun _ _ => rfl))) pa_nil)) (by rfl))
      (pss_cons (ps_if (pt_cmpR op_eq (pv 4) (pv 5) (nomark _)) (pss_one (ps_ret pe_non)) pss_nil)
      (pss_one (ps_ret (pe_ifExp (pt_cmpR op_lt (pv 4) (pv 5) (nomark _)) (pe_c (c_law_leapt T) hr (by decide) (by rfl) (pa_cons (pv 0) (pa_cons (pv 1) (pa_cons (pv 2) pa_nil)))) (pe_c (c_law_leapt T) hr (by decide) (by rfl) (pa_cons (pv 0) (pa_cons (pv 3) (pa_cons (pv 2) pa_nil))))))))), ?_⟩
    refine ⟨_, rfl, t, _, _, _, _, rfl, S.tr, S.oo, S.lt1, S.lt2, fun H1 p s1 hp => ?_⟩
    refine ⟨p, _, rfl, SqL.of hp, rfl, _, _, rfl, _, _, rfl, _, _, rfl, rfl, ?_⟩
    have S1 := S.mv s1
    have sq := S1.tr.sq (K := K)
    obtain ⟨a1, a2, a3⟩ := lv_at S.oo (x := px h g u) (y := py h g u) (z := pz h g u)
    refine ⟨_, rfl, _, rfl, t, _, _, _, rfl, rfl, sq, at_map a2, _, rfl, _, rfl, t, _, _, _, rfl, rfl, sq, at_map a1, _, _, rfl, rfl, ?_⟩
    refine ⟨_, rfl, _, rfl, t, _, _, _, rfl, rfl, sq, at_map a3, _, rfl, _, rfl, t, _, _, _, rfl, rfl, sq, at_map a2, _, _, rfl, rfl, _, _, rfl, ?_⟩
    change Ends.nx _ [some (.ref t), some (.int (od o u).1), some (.int (od o u).2.1), some (.int (od o u).2.2), some (.int (py h g u - px h g u)), some (.int (pz h g u - py h g u))] H1
    rw [gap1, gap2]
    have g1 := S.g1
    refine ⟨_, rfl, _, rfl, rfl, _, rfl, ?_⟩
    match u, S, S1, q1, q2, sq, a1, a2, a3 with
    | [], S, S1, q1, q2, sq, a1, a2, a3 =>
      refine iteD rfl ?_
      exact q1 rfl H1 s1
    | true :: v, S, S1, q1, q2, sq, a1, a2, a3 =>
      have hlt := (mul_lt (g := g) g1).mpr ((pr_side true v).1 rfl)
      refine iteE (fun e => by have := V.int.inj e; omega) ?_
      refine ⟨_, rfl, _, rfl, _, _, rfl, rfl, _, rfl, iteE (by omega) ?_⟩
      refine ⟨_, rfl, _, rfl, _, rfl, t, _, _, _, _, _, rfl, S1.tr, a3, a2, fun H2 p2 s2 hp2 => ?_⟩
      refine q2 true v rfl H2 p2 (Same.trans s1 s2) ?_
      have e := st_tb (h := h) (g := g) S.ho v
      rw [← e]
      exact hp2
    | false :: v, S, S1, q1, q2, sq, a1, a2, a3 =>
      have hlt := (mul_lt (g := g) g1).mpr ((pr_side false v).2 rfl)
      refine iteE (fun e => by have := V.int.inj e; omega) ?_
      refine ⟨_, rfl, _, rfl, _, _, rfl, rfl, _, rfl, iteD (by omega) ?_⟩
      refine ⟨_, rfl, _, rfl, _, rfl, t, _, _, _, _, _, rfl, S1.tr, a1, a2, fun H2 p2 s2 hp2 => ?_⟩
      refine q2 false v rfl H2 p2 (Same.trans s1 s2) ?_
      have e := st_fb (h := h) (g := g) S.ho v
      rw [← e]
      exact hp2
end
end LR

namespace LR
open PySem PySem.Spec PyProof.Rows L2
open PySem.W (Datum DatumOrd Holds HoldAll Tup)
/-- the line without its end -/
def lineP (h g : Int) (o : O3) : Wd → List (List Int)
  | [] => []
  | _ :: w => line h g o w
theorem line_P (h g : Int) (o : O3) : ∀ w, line h g o w = lineP h g o w ++ [st h g o w]
  | [] => rfl
  | _ :: _ => rfl
theorem StOk.suf {H : Hp} {t : Addr} {h g : Int} {o : O3} {u : Wd} (S : StOk H t h g o u) {v : Wd} (e : v <:+ u) {H' : Hp} {t' : Addr} (hi : IT H' t' (st h g o v)) : StOk H' t' h g o v := by
  have k := inb_iff.mp (inb_suf e (inb_iff (W := 1000) (H := 1000).mpr S.ab))
  exact ⟨hi, S.ho, S.g1, S.g2, S.h1, S.h2, k⟩
theorem StOk.len {H : Hp} {t : Addr} {h g : Int} {o : O3} {u : Wd} (S : StOk H t h g o u) : u.length ≤ 2000 := by
  have a := pr_len u
  have b := S.ab
  omega
theorem roles {o : O3} (ho : isO o) {i j k : Nat} (hi : i < 3) (hj : j < 3) (hne : j ≠ i) (hk : i + j + k = 3) :
    (i = o.2.1 ∧ j = o.1 ∧ k = o.2.2) ∨ (i = o.2.1 ∧ j = o.2.2 ∧ k = o.1) ∨ (i = o.1 ∧ j = o.2.1 ∧ k = o.2.2) ∨ (i = o.2.2 ∧ j = o.2.1 ∧ k = o.1) ∨ (i = o.1 ∧ j = o.2.2 ∧ k = o.2.1) ∨ (i = o.2.2 ∧ j = o.1 ∧ k = o.2.1) := by
  rcases ho with e | e | e | e | e | e <;> subst e <;> dsimp only <;> omega
/-- the leaps that the law counts -/
theorem law_leap {o : O3} (ho : isO o) {x y z : Int} (hxy : x < y) (hyz : y < z) {i j k : Nat} (hi : i < 3) (hj : j < 3) (hne : j ≠ i) (hk : i + j + k = 3) {a b c lo hi' : Int}
    (ha : (tri o x y z)[i]? = some a) (hb : (tri o x y z)[j]? = some b) (hc : (tri o x y z)[k]? = some c) (e1 : lo = min (2 * b - a) a) (e2 : hi' = max (2 * b - a) a) (hn : ¬ (lo ≤ c ∧ c ≤ hi')) : ((i : Int), (j : Int)) ∈ leapsL o x y z := by
  obtain ⟨a1, a2, a3⟩ := lv_at ho (x := x) (y := y) (z := z)
  unfold leapsL
  rw [List.mem_append, List.mem_append]
  rcases roles ho hi hj hne hk with ⟨rfl, rfl, rfl⟩ | ⟨rfl, rfl, rfl⟩ | ⟨rfl, rfl, rfl⟩ | ⟨rfl, rfl, rfl⟩ | ⟨rfl, rfl, rfl⟩ | ⟨rfl, rfl, rfl⟩ <;> simp only [a1, a2, a3, Option.some.injEq] at ha hb hc <;> subst ha hb hc
  · exact .inl (.inl List.mem_cons_self)
  · exact .inl (.inl (List.mem_cons_of_mem _ List.mem_cons_self))
  · refine .inl (.inr ?_)
    rw [if_pos (by omega)]
    exact List.mem_singleton.mpr rfl
  · refine .inr ?_
    rw [if_pos (by omega)]
    exact List.mem_singleton.mpr rfl
  · exfalso
    omega
  · exfalso
    omega
section
variable {P : Program} {w : World} {K : PySem.W.Frag} {mg : Str → Option Value} {base : Heap}
/-! ### _law_line -/
def spLine : Sp := fun vs H Q _ => ∃ (t : Addr) (h g : Int) (o : O3) (u : Wd), vs = [.ref t] ∧ StOk H t h g o u ∧ ∀ (H' : Hp) (p : Addr) (us : List V), Same H H' → H p = none → H' p = some (.lst us) → Tps H' us (line h g o u) → Q (.ref p) H'
theorem c_law_line (T : Top K mg) : Cal P w K mg base 3 "_law_line" spLine := by
  refine T.d_law_line.cal sc_law_line (fun vs H Q E h => ?_) (fun f cdv A outer s H vs Q E hr h => ?_)
  · obtain ⟨t, h, g, o, u, rfl, _⟩ := h
    rfl
  · obtain ⟨t, h, g, o, u, rfl, S, q⟩ := h
    refine ⟨_, pss_cons (ps_set (i := 1) sc_law_line.nd rfl (.inl rfl) (pe_lst (pa_cons (pv 0) pa_nil)))
      (pss_cons (ps_while PassesOwn.never (pt_cmp (pc_notN (pe_c (c_law_inward T) hr (by decide) (by rfl) (pa_cons (pe_ix ix_list (pv 1) (pe_un un_neg pe_int) (fun _ _ => rfl)) pa_nil))))
        (pss_one (ps_expr (pe_bm PySem.F.plainAttrs_list PySem.F.slot_list_append PySem.F.type_list_append mt_append (pv 1) (pa_cons (pe_c (c_law_inward T) hr (by decide) (by rfl) (pa_cons (pe_ix ix_list (pv 1) (pe_un un_neg pe_int) (fun _ _ => rfl)) pa_nil)) pa_nil)))))
      (pss_one (ps_ret (pe_revL (pv 1))))), ?_⟩
    refine ⟨_, rfl, (by show 1 ≤ sizeLine; decide), fun F nF => ?_⟩
    have sF := Same.new (o := .lst [V.ref t]) nF
    have lenU := S.len
    refine ⟨fun m σ H' => Same H H' ∧ ∃ (us : List V) (v : Wd) (fs pre : List (List Int)), σ = [some (.ref t), some (.ref F)] ∧ H' F = some (.lst us) ∧ Tps H' us fs ∧ fs = pre ++ [st h g o v] ∧ line h g o u = lineP h g o v ++ fs.reverse ∧ v <:+ u ∧ us.length + v.length = u.length + 1 ∧ m = v.length,
      ⟨_, sF, [.ref t], u, [st h g o u], [], rfl, upd_same, ⟨⟨t, rfl, S.it.mv sF⟩, trivial⟩, rfl, line_P h g o u, List.suffix_refl _, Nat.add_comm _ _, rfl⟩, ?_⟩
    rintro m σ H' ⟨s1, us, v, fs, pre, rfl, hF, hT, rfl, hline, hsuf, hlen, rfl⟩
    -- the last state
    have hul := hT.len
    rw [List.length_append, List.length_singleton] at hul
    obtain ⟨tl, htl, hit⟩ := hT.get' (i := us.length - 1) (n := st h g o v) (by rw [hul]; simp)
    have hend := at_end htl
    have Sv := S.suf hsuf hit
    refine ⟨_, rfl, _, rfl, F, _, _, _, rfl, rfl, SqL.of hF, hend, tl, h, g, o, v, rfl, Sv, fun ev H1 s2 => ?_, fun c v' ev H1 p s2 hp => ?_⟩
    · refine ⟨false, by rfl, iteF ?_⟩
      refine ⟨_, rfl, F, us, rfl, SqL.of (s2 _ _ hF), fun p hp => ?_⟩
      have s3 := Same.trans s1 s2
      refine q _ p _ (Same.mk s3 hp) (Same.free s3 hp) upd_same ?_
      have hT2 := ((hT.tk (Same.tk s2)).tk (TK.new (o := .lst us.reverse) hp)).rev
      rw [ev] at hline hT2
      have e0 : line h g o u = (pre ++ [st h g o []]).reverse := hline
      rw [e0]
      exact hT2
    · refine ⟨true, by rfl, iteT ?_⟩
      have hF1 := s2 _ _ hF
      have Sv1 := Sv.mv s2
      refine ⟨fun σ' H3 => σ' = [some (.ref t), some (.ref F)] ∧ Same H H3 ∧ ∃ p2, H3 F = some (.lst (us ++ [.ref p2])) ∧ Tps H3 (us ++ [.ref p2]) ((pre ++ [st h g o v]) ++ [st h g o v']), ?_, ?_⟩
      · rintro σ' H3 ⟨rfl, s3, p2, a1, a2⟩
        refine ⟨v'.length, by rw [ev]; exact Nat.lt_succ_self _, s3, _, v', _, _, rfl, a1, a2, rfl, ?_, ?_, ?_, rfl⟩
        · rw [hline, List.reverse_append (as := pre ++ [st h g o v]), ev]
          show line h g o v' ++ _ = lineP h g o v' ++ ([st h g o v'] ++ _)
          rw [line_P h g o v', List.append_assoc]
        · rw [ev] at hsuf
          exact (List.suffix_cons c v').trans hsuf
        · rw [ev, List.length_cons] at hlen
          rw [List.length_append, List.length_singleton]
          omega
      · refine ⟨_, rfl, .inl ⟨rfl, _, SqL.of hF1⟩, _, rfl, _, rfl, F, _, _, _, rfl, rfl, SqL.of hF1, hend, tl, h, g, o, v, rfl, Sv1, fun z => ?_, fun c2 v2 ev2 H2 p2 s3 hp2 => ?_⟩
        · rw [ev] at z
          cases z
        · rw [ev] at ev2
          obtain ⟨_, e2⟩ := List.cons.inj ev2
          subst e2
          have hF2 := s3 _ _ hF1
          refine ⟨F, us, _, rfl, rfl, hF2, szt (by omega), ?_⟩
          refine ⟨rfl, Same.wr (Same.trans (Same.trans s1 s2) s3) nF, p2, upd_same, ?_⟩
          exact (((hT.tk (Same.tk s2)).tk (Same.tk s3)).snoc hp2).tk (TK.lst hF2)
end
end LR

namespace LR
open PySem PySem.Spec PyProof.Rows L2
open PySem.W (Datum DatumOrd Holds HoldAll Tup)
theorem i012 {i : Nat} {v : V} (h : [V.int 0, V.int 1, V.int 2][i]? = some v) : i < 3 ∧ v = .int (i : Int) := by
  have hil : i < 3 := (List.getElem?_eq_some_iff.mp h).1
  refine ⟨hil, ?_⟩
  match i, hil, h with
  | 0, _, hv => exact (Option.some.inj hv).symm
  | 1, _, hv => exact (Option.some.inj hv).symm
  | 2, _, hv => exact (Option.some.inj hv).symm
theorem min2_eq {a b : Int} : (if b < a then b else a) = min a b := by
  split <;> omega
theorem max2_eq {a b : Int} : (if b > a then b else a) = max a b := by
  split <;> omega
section
variable {P : Program} {w : World} {K : PySem.W.Frag} {mg : Str → Option Value} {base : Heap}
/-! ### _law_leaps -/
def spLLeaps : Sp := fun vs H Q _ => ∃ (t : Addr) (o : O3) (x y z : Int), vs = [.ref t] ∧ IT H t (tri o x y z) ∧ isO o ∧ x < y ∧ y < z ∧
  ∀ (H' : Hp) (p : Addr) (us : List V) (ds : List (Int × Int)), Same H H' → H' p = some (.lst us) → Tps H' us (ds.map l2) → (∀ d ∈ ds, d ∈ leapsL o x y z) → Q (.ref p) H'
theorem c_law_leaps (T : Top K mg) : Cal P w K mg base 1 "_law_leaps" spLLeaps := by
  refine T.d_law_leaps.cal sc_law_leaps (fun vs H Q E h => ?_) (fun f cdv A outer s H vs Q E hr h => ?_)
  · obtain ⟨t, o, x, y, z, rfl, _⟩ := h
    rfl
  · obtain ⟨t, o, x, y, z, rfl, ht, ho, hxy, hyz, q⟩ := h
    refine ⟨_, pss_cons (ps_set (i := 1) sc_law_leaps.nd rfl (.inl rfl) (pe_lst pa_nil))
      (pss_cons (ps_for PassesOwn.never rfl (pi_list (pe_lst (pa_cons pe_int (pa_cons pe_int (pa_cons pe_int pa_nil))))) (pg_name (i := 2) sc_law_leaps.nd rfl (.inl rfl))
        (pss_one (ps_for PassesOwn.never rfl (pi_list (pe_lst (pa_cons pe_int (pa_cons pe_int (pa_cons pe_int pa_nil))))) (pg_name (i := 3) sc_law_leaps.nd rfl (.inl rfl))
          (pss_one (ps_if (pt_cmpR op_ne (pv 3) (pv 2) (nomark _))
            (pss_cons (ps_par (i := 4) (j := 5) (by rfl) sc_law_leaps.nd rfl rfl (by decide) rfl rfl (pa_cons (pe_op op_sub (pe_op op_sub pe_int (pv 2)) (pv 3)) (pa_cons (pe_op op_sub (pe_op op_mul pe_int (pe_ix ix_tup (pv 0) (pv 3) (fun _ _ => rfl))) (pe_ix ix_tup (pv 0) (pv 2) (fun _ _ => rfl))) pa_nil)) (by rfl))
            (pss_cons (ps_par (i := 6) (j := 7) (by rfl) sc_law_leaps.nd rfl rfl (by decide) rfl rfl (pa_cons (pe_callB (call_min2 rfl) (by rfl) T.z_min (by decide +kernel) (pa_cons (pv 5) (pa_cons (pe_ix ix_tup (pv 0) (pv 2) (fun _ _ => rfl)) pa_nil))) (pa_cons (pe_callB (call_max2 rfl) (by rfl) T.z_max (by decide +kernel) (pa_cons (pv 5) (pa_cons (pe_ix ix_tup (pv 0) (pv 2) (fun _ _ => rfl)) pa_nil))) pa_nil)) (by rfl))
            (pss_one (ps_if (pt_not (pt_chain op_le op_le (pv 6) (pe_ix ix_tup (pv 0) (pv 4) (fun _ _ => rfl)) (pv 7)))
              (pss_one (ps_expr (pe_bm PySem.F.plainAttrs_list PySem.F.slot_list_append PySem.F.type_list_append mt_append (pv 1) (pa_cons (pe_tup (pa_cons (pv 2) (pa_cons (pv 3) pa_nil))) pa_nil)))) pss_nil)))) pss_nil)))))
      (pss_one (ps_ret (pv 1)))), ?_⟩
    refine ⟨Nat.zero_le _, fun F nF => ?_⟩
    have sF := Same.new (o := .lst []) nF
    have hF0 : upd H F (.lst []) F = some (.lst []) := upd_same
    refine ⟨(by show 3 ≤ sizeLine; decide), fun L nL => ⟨L, rfl, ⟨_, SqL.of upd_same⟩, ?_⟩⟩
    have sL := Same.mk (o := .lst [V.int 0, V.int 1, V.int 2]) sF nL
    have hFL : F ≠ L := ne_of_none hF0 nL
    refine for_list (K := K) (a := L) (xs := [V.int 0, V.int 1, V.int 2]) (fun i σ H' => ∃ (v2 v3 v4 v5 v6 v7 : Option V) (us : List V) (ds : List (Int × Int)), σ = [some (.ref t), some (.ref F), v2, v3, v4, v5, v6, v7] ∧ Same H H' ∧ H' L = some (.lst [V.int 0, V.int 1, V.int 2]) ∧
        H' F = some (.lst us) ∧ Tps H' us (ds.map l2) ∧ (∀ d ∈ ds, d ∈ leapsL o x y z) ∧ us.length ≤ 3 * i)
      ⟨none, none, none, none, none, none, [], [], rfl, sL, upd_same, by rw [upd_ne hFL]; exact hF0, trivial, fun d hd => (nomatch hd), Nat.zero_le _⟩ (fun i σ H' _ p => by obtain ⟨_, _, _, _, _, _, _, _, _, _, e, _⟩ := p; exact SqL.of e) ?_ ?_
    · rintro i v σ H1 hv ⟨v2, v3, v4, v5, v6, v7, us, ds, rfl, s1, hL1, hF1, hT1, hd1, hn1⟩
      obtain ⟨hi, rfl⟩ := i012 hv
      refine ⟨(by show 3 ≤ sizeLine; decide), fun M nM => ⟨M, rfl, ⟨_, SqL.of upd_same⟩, ?_⟩⟩
      have sM := Same.new (o := .lst [V.int 0, V.int 1, V.int 2]) nM
      have hFM : F ≠ M := ne_of_none hF1 nM
      refine for_list (K := K) (a := M) (xs := [V.int 0, V.int 1, V.int 2]) (fun j σ H' => ∃ (v3 v4 v5 v6 v7 : Option V) (us : List V) (ds : List (Int × Int)), σ = [some (.ref t), some (.ref F), some (.int (i : Int)), v3, v4, v5, v6, v7] ∧ Same H H' ∧ H' L = some (.lst [V.int 0, V.int 1, V.int 2]) ∧ H' M = some (.lst [V.int 0, V.int 1, V.int 2]) ∧
          H' F = some (.lst us) ∧ Tps H' us (ds.map l2) ∧ (∀ d ∈ ds, d ∈ leapsL o x y z) ∧ us.length ≤ 3 * i + j)
        ⟨v3, v4, v5, v6, v7, us, ds, rfl, Same.mk s1 nM, sM _ _ hL1, upd_same, sM _ _ hF1, hT1.tk (Same.tk sM), hd1, hn1⟩ (fun i σ H' _ p => by obtain ⟨_, _, _, _, _, _, _, _, _, _, e, _⟩ := p; exact SqL.of e) ?_ ?_
      · rintro j v σ H2 hv ⟨v3, v4, v5, v6, v7, us, ds, rfl, s2, hL2, hM2, hF2, hT2, hd2, hn2⟩
        obtain ⟨hj, rfl⟩ := i012 hv
        refine ⟨_, rfl, _, rfl, rfl, _, rfl, ?_⟩
        by_cases hij : j = i
        · refine iteNS (congrArg V.int (by rw [hij])) ?_
          exact ⟨_, _, _, _, _, us, ds, rfl, s2, hL2, hM2, hF2, hT2, hd2, by omega⟩
        · refine iteNT (fun e => hij (by have := V.int.inj e; omega)) ?_
          have ht2 := ht.mv s2
          have sq := ht2.sq (K := K)
          have at3 : ∀ n, n < 3 → ∃ a, (tri o x y z)[n]? = some a := fun n hn => ⟨(tri o x y z)[n]'hn, List.getElem?_eq_getElem _⟩
          obtain ⟨a, ha⟩ := at3 i hi
          obtain ⟨b, hb⟩ := at3 j hj
          obtain ⟨c, hc⟩ := at3 (3 - i - j) (by omega)
          have hck : atI ((tri o x y z).map V.int) (3 - (i : Int) - (j : Int)) = some (.int c) := at_of (j := 3 - i - j) (by omega) (by rw [List.getElem?_map, hc]; rfl)
          refine ⟨_, rfl, _, _, rfl, rfl, _, rfl, _, _, rfl, rfl, ?_⟩
          refine ⟨_, rfl, _, rfl, t, _, _, _, rfl, rfl, sq, at_map hb, _, _, rfl, rfl, .inl ⟨by decide, by decide⟩, _, rfl, _, rfl, t, _, _, _, rfl, rfl, sq, at_map ha, _, _, rfl, rfl, _, _, rfl, ?_⟩
          refine ⟨_, rfl, _, rfl, _, rfl, t, _, _, _, rfl, rfl, sq, at_map ha, _, _, rfl, ?_⟩
          refine ⟨_, rfl, _, rfl, _, rfl, t, _, _, _, rfl, rfl, sq, at_map ha, _, _, rfl, _, _, rfl, ?_⟩
          have leap := fun (lo hi' : Int) (e1 : lo = min (2 * b - a) a) (e2 : hi' = max (2 * b - a) a) (hn : ¬ (lo ≤ c ∧ c ≤ hi')) => law_leap ho hxy hyz hi hj hij (k := 3 - i - j) (by omega) ha hb hc e1 e2 hn
          refine ⟨_, rfl, _, rfl, _, rfl, t, _, _, _, rfl, rfl, sq, hck, _, _, rfl, rfl, _, rfl, ?_⟩
          by_cases hlo : (if a < 2 * b - a then a else 2 * b - a) ≤ c
          · refine iteD hlo ?_
            refine ⟨_, rfl, _, _, rfl, rfl, _, rfl, ?_⟩
            by_cases hhi : c ≤ (if a > 2 * b - a then a else 2 * b - a)
            · refine iteNS hhi ?_
              exact ⟨_, _, _, _, _, us, ds, rfl, s2, hL2, hM2, hF2, hT2, hd2, by omega⟩
            · refine iteNT hhi ?_
              refine ⟨_, rfl, .inl ⟨rfl, _, SqL.of hF2⟩, _, rfl, _, rfl, (by show 2 ≤ sizeLine; decide), fun p np => ?_⟩
              obtain ⟨n1, n2, n3, n4, n5, n6⟩ := app_new (n := [(i : Int), (j : Int)]) hF2 hT2 np
              refine ⟨F, us, _, rfl, rfl, n1, szt (by omega), ?_⟩
              refine ⟨_, _, _, _, _, _, ds ++ [((i : Int), (j : Int))], rfl, n6 H s2 nF, n5 _ _ (Ne.symm hFL) hL2, n5 _ _ (Ne.symm hFM) hM2, n2, ?_, ?_, ?_⟩
              · rw [List.map_append]
                exact n3
              · intro d hd
                rcases List.mem_append.mp hd with hd | hd
                · exact hd2 d hd
                · rw [List.mem_singleton.mp hd]
                  exact leap _ _ min2_eq max2_eq (fun z => hhi z.2)
              · rw [List.length_append, List.length_singleton]
                omega
          · refine iteE hlo ⟨false, rfl, iteT ?_⟩
            refine ⟨_, rfl, .inl ⟨rfl, _, SqL.of hF2⟩, _, rfl, _, rfl, (by show 2 ≤ sizeLine; decide), fun p np => ?_⟩
            obtain ⟨n1, n2, n3, n4, n5, n6⟩ := app_new (n := [(i : Int), (j : Int)]) hF2 hT2 np
            refine ⟨F, us, _, rfl, rfl, n1, szt (by omega), ?_⟩
            refine ⟨_, _, _, _, _, _, ds ++ [((i : Int), (j : Int))], rfl, n6 H s2 nF, n5 _ _ (Ne.symm hFL) hL2, n5 _ _ (Ne.symm hFM) hM2, n2, ?_, ?_, ?_⟩
            · rw [List.map_append]
              exact n3
            · intro d hd
              rcases List.mem_append.mp hd with hd | hd
              · exact hd2 d hd
              · rw [List.mem_singleton.mp hd]
                exact leap _ _ min2_eq max2_eq (fun z => hlo z.1)
            · rw [List.length_append, List.length_singleton]
              omega
      · rintro σ H2 ⟨v3, v4, v5, v6, v7, us, ds, rfl, s2, hL2, hM2, hF2, hT2, hd2, hn2⟩
        exact ⟨_, _, _, _, _, _, us, ds, rfl, s2, hL2, hF2, hT2, hd2, hn2⟩
    · rintro σ H1 ⟨v2, v3, v4, v5, v6, v7, us, ds, rfl, s1, hL1, hF1, hT1, hd1, hn1⟩
      exact ⟨_, rfl, q H1 F us ds s1 hF1 hT1 hd1⟩
end
end LR

namespace LR
open PySem PySem.Spec PyProof.Rows L2
open PySem.W (Datum DatumOrd Holds HoldAll Tup)
section
variable {P : Program} {w : World} {K : PySem.W.Frag} {mg : Str → Option Value} {base : Heap}
/-! ### _law_behind, one leap -/
def spLBehind : Sp := fun vs H Q _ => ∃ (t : Addr) (h g : Int) (o : O3) (u : Wd), vs = [.ref t, .int 1] ∧ StOk H t h g o u ∧
  ∀ (H' : Hp) (p a b : Addr), Same H H' → H p = none → H' p = some (.lst [.ref a, .ref b]) → IT H' a (st h g o (false :: u)) → IT H' b (st h g o (true :: u)) → Q (.ref p) H'
theorem c_law_behind (T : Top K mg) : Cal P w K mg base 2 "_law_behind" spLBehind := by
  refine T.d_law_behind.cal sc_law_behind (fun vs H Q E h => ?_) (fun f cdv A outer s H vs Q E hr h => ?_)
  · obtain ⟨t, h, g, o, u, rfl, _⟩ := h
    rfl
  · obtain ⟨t, h, g, o, u, rfl, S, q⟩ := h
    refine ⟨_, pss_cons (ps_set (i := 2) sc_law_behind.nd rfl (.inl rfl) (pe_lst (pa_cons (pv 0) pa_nil)))
      (pss_cons (ps_for PassesOwn.never rfl (pi_range1 (by rfl) T.z_range (pa_cons (pv 1) pa_nil)) (pg_name (i := 3) sc_law_behind.nd rfl (.inl rfl))
        (pss_cons (ps_set (i := 4) sc_law_behind.nd rfl (.inl rfl) (pe_lst pa_nil))
        (pss_cons (ps_for PassesOwn.never rfl (pi_list (pv 2)) (pg_name (i := 5) sc_law_behind.nd rfl (.inl rfl))
          (pss_cons (ps_asg (pe_c (c_law_order T) hr (by decide) (by rfl) (pa_cons (pv 5) pa_nil)) (pg_unl (n := 3) rfl (pgs_cons (pg_name (i := 6) sc_law_behind.nd rfl (.inl rfl)) (pgs_cons (pg_name (i := 7) sc_law_behind.nd rfl (.inl rfl)) (pgs_cons (pg_name (i := 8) sc_law_behind.nd rfl (.inl rfl)) pgs_nil)))))
          (pss_one (ps_set (i := 4) sc_law_behind.nd rfl (.inl rfl) (pe_op op_cat (pv 4) (pe_lst (pa_cons (pe_c (c_law_leapt T) hr (by decide) (by rfl) (pa_cons (pv 5) (pa_cons (pv 7) (pa_cons (pv 6) pa_nil)))) (pa_cons (pe_c (c_law_leapt T) hr (by decide) (by rfl) (pa_cons (pv 5) (pa_cons (pv 7) (pa_cons (pv 8) pa_nil)))) pa_nil))))))))
        (pss_one (ps_set (i := 2) sc_law_behind.nd rfl (.inl rfl) (pv 4))))))
      (pss_one (ps_ret (pv 2)))), ?_⟩
    refine ⟨_, rfl, (by show 1 ≤ sizeLine; decide), fun F nF => ?_⟩
    have sF := Same.new (o := .lst [V.ref t]) nF
    have hF0 : upd H F (.lst [V.ref t]) F = some (.lst [V.ref t]) := upd_same
    refine ⟨_, rfl, 1, rfl, by decide, by decide, ?_⟩
    refine for_range (lo := 0) (n := (1 : Int).toNat) (fun i σ H' => Same H H' ∧ (i = 0 → ∃ (v3 v4 v5 v6 v7 v8 : Option V), σ = [some (.ref t), some (.int 1), some (.ref F), v3, v4, v5, v6, v7, v8] ∧ H' F = some (.lst [V.ref t])) ∧
        (i = 1 → ∃ (v3 v4 v5 v6 v7 v8 : Option V) (p a b : Addr), σ = [some (.ref t), some (.int 1), some (.ref p), v3, v4, v5, v6, v7, v8] ∧ H p = none ∧ H' p = some (.lst [.ref a, .ref b]) ∧ IT H' a (st h g o (false :: u)) ∧ IT H' b (st h g o (true :: u))))
      ⟨sF, fun _ => ⟨none, none, none, none, none, none, rfl, hF0⟩, fun z => (nomatch z)⟩ ?_ ?_
    · rintro i σ H1 hi ⟨s1, k0, -⟩
      have hi0 : i = 0 := Nat.lt_one_iff.mp hi
      subst hi0
      obtain ⟨v3, v4, v5, v6, v7, v8, rfl, hF1⟩ := k0 rfl
      refine ⟨Nat.zero_le _, fun L nL => ?_⟩
      have sL := Same.new (o := .lst []) nL
      have hL0 : upd H1 L (.lst []) L = some (.lst []) := upd_same
      refine ⟨_, rfl, F, rfl, ⟨_, SqL.of (sL _ _ hF1)⟩, ?_⟩
      refine for_list (K := K) (a := F) (xs := [V.ref t]) (fun i σ H' => Same H H' ∧ H' F = some (.lst [V.ref t]) ∧ (i = 0 → ∃ (v3 v5 v6 v7 v8 : Option V), σ = [some (.ref t), some (.int 1), some (.ref F), v3, some (.ref L), v5, v6, v7, v8] ∧ H' L = some (.lst [])) ∧
          (i = 1 → ∃ (v3 v5 v6 v7 v8 : Option V) (p a b : Addr), σ = [some (.ref t), some (.int 1), some (.ref F), v3, some (.ref p), v5, v6, v7, v8] ∧ H p = none ∧ H' p = some (.lst [.ref a, .ref b]) ∧ IT H' a (st h g o (false :: u)) ∧ IT H' b (st h g o (true :: u))))
        ⟨Same.mk s1 nL, sL _ _ hF1, fun _ => ⟨_, v5, v6, v7, v8, rfl, hL0⟩, fun z => (nomatch z)⟩ (fun i σ H' _ p => SqL.of p.2.1) ?_ ?_
      · rintro i v σ H2 hv ⟨s2, hF2, k0, -⟩
        have hi0 : i = 0 := Nat.lt_one_iff.mp (List.getElem?_eq_some_iff.mp hv).1
        subst hi0
        have ev : v = .ref t := (Option.some.inj hv).symm
        subst ev
        obtain ⟨v3, v5, v6, v7, v8, rfl, hL2⟩ := k0 rfl
        have S2 := S.mv s2
        obtain ⟨a1, a2, a3⟩ := lv_at S.oo (x := px h g u) (y := py h g u) (z := pz h g u)
        refine ⟨_, rfl, t, _, _, _, _, rfl, S2.tr, S2.oo, S2.lt1, S2.lt2, fun H3 p s3 hp => ?_⟩
        refine ⟨p, _, rfl, SqL.of hp, rfl, _, _, rfl, _, _, rfl, _, _, rfl, rfl, ?_⟩
        have S3 := S2.mv s3
        refine ⟨_, rfl, _, rfl, _, rfl, _, rfl, t, _, (od o u).2.1, (od o u).1, _, _, rfl, S3.tr, a2, a1, fun H4 pa s4 hpa => ?_⟩
        have S4 := S3.mv s4
        refine ⟨_, rfl, _, rfl, _, rfl, t, _, (od o u).2.1, (od o u).2.2, _, _, rfl, S4.tr, a2, a3, fun H5 pb s5 hpb => ?_⟩
        refine ⟨(by show 2 ≤ sizeLine; decide), fun M nM => ?_⟩
        have sa := Same.trans (Same.trans (Same.trans s2 s3) s4) s5
        have hL5 := s5 _ _ (s4 _ _ (s3 _ _ hL2))
        have sM := Same.new (o := .lst [V.ref pa, V.ref pb]) nM
        refine ⟨L, M, _, _, rfl, rfl, sM _ _ hL5, upd_same, (by show 0 + 2 ≤ sizeLine; decide), fun N nN => ?_⟩
        have sN := Same.mk (o := .lst ([] ++ [V.ref pa, V.ref pb])) sM nN
        refine ⟨Same.trans sa sN, sN _ _ (s5 _ _ (s4 _ _ (s3 _ _ hF2))), fun z => (nomatch z), fun _ => ⟨_, _, _, _, _, N, pa, pb, rfl, Same.free (Same.trans sa sM) nN, upd_same, ?_, ?_⟩⟩
        · have e := st_f (h := h) (g := g) S.ho u
          rw [← e]
          exact (hpa.mv s5).mv sN
        · have e := st_t (h := h) (g := g) S.ho u
          rw [← e]
          exact hpb.mv sN
      · rintro σ H2 ⟨s2, hF2, -, k1⟩
        obtain ⟨v3, v5, v6, v7, v8, p, a, b, rfl, e0, e1, e2, e3⟩ := k1 rfl
        exact ⟨_, rfl, s2, fun z => (nomatch z), fun _ => ⟨_, _, _, _, _, _, p, a, b, rfl, e0, e1, e2, e3⟩⟩
    · rintro σ H1 ⟨s1, -, k1⟩
      obtain ⟨v3, v4, v5, v6, v7, v8, p, a, b, rfl, e0, e1, e2, e3⟩ := k1 rfl
      exact ⟨_, rfl, q H1 p a b s1 e0 e1 e2 e3⟩
/-! ### _law_common, _law_pair -/
theorem c_law_common (T : Top K mg) : Cal P w K mg base 1 "_law_common" spCommon := by
  refine T.d_law_common.cal sc_law_common (fun vs H Q E h => ?_) (fun f cdv A outer s H vs Q E hr h => ?_)
  · obtain ⟨x, y, rfl, _⟩ := h
    rfl
  · obtain ⟨x, y, rfl, hx, hy, q⟩ := h
    refine ⟨_, pss_cons (ps_par (i := 0) (j := 1) (by rfl) sc_law_common.nd rfl rfl (by decide) rfl rfl (pa_cons (pe_callB call_abs (by rfl) T.z_abs (by decide +kernel) (pa_cons (pv 0) pa_nil)) (pa_cons (pe_callB call_abs (by rfl) T.z_abs (by decide +kernel) (pa_cons (pv 1) pa_nil)) pa_nil)) (by rfl))
      (pss_cons (ps_while PassesOwn.never (pt_cmpR op_ne (pv 1) pe_int (nomark _)) (pss_one (ps_par (i := 0) (j := 1) (by rfl) sc_law_common.nd rfl rfl (by decide) rfl rfl (pa_cons (pv 1) (pa_cons (pe_op op_mod (pv 0) (pv 1)) pa_nil)) (by rfl))))
      (pss_one (ps_ret (pv 0)))), ?_⟩
    refine ⟨_, rfl, x, rfl, _, rfl, y, rfl, _, _, rfl, ?_⟩
    refine ⟨fun m σ H' => H' = H ∧ ∃ a b : Int, σ = [some (.int a), some (.int b)] ∧ 0 ≤ a ∧ 0 ≤ b ∧ Int.gcd a b = Int.gcd x y ∧ m = b.toNat, ⟨_, rfl, x, y, ?_, hx, hy, rfl, rfl⟩, ?_⟩
    · show [some (V.int (if x < 0 then -x else x)), some (V.int (if y < 0 then -y else y))] = _
      rw [if_neg (by omega), if_neg (by omega)]
    rintro m σ H' ⟨rfl, a, b, rfl, ha, hb, hg, rfl⟩
    refine ⟨_, rfl, rfl, _, rfl, ?_⟩
    by_cases h0 : b = 0
    · subst h0
      refine iteNS rfl ?_
      refine ⟨_, rfl, ?_⟩
      have e : a = (Int.gcd x y : Int) := by
        rw [← hg, Int.gcd_zero_right]
        omega
      show Q (.int a) _
      rw [e]
      exact q
    · refine iteNT (fun e => h0 (V.int.inj e)) ?_
      refine ⟨fun σ' H2 => H2 = H' ∧ σ' = [some (.int b), some (.int (a % b))], ?_, ?_⟩
      · rintro σ' H2 ⟨rfl, rfl⟩
        have h1 := Int.emod_nonneg a h0
        have h2 := Int.emod_lt_of_pos a (show 0 < b by omega)
        exact ⟨(a % b).toNat, by omega, rfl, b, a % b, rfl, hb, h1, by rw [gcd_turn ha hb]; exact hg, rfl⟩
      · exact ⟨_, rfl, _, rfl, _, rfl, a, b, rfl, rfl, by omega, _, _, rfl, rfl, rfl⟩
def spLPair : Sp := fun vs H Q _ => ∃ (t : Addr) (h g : Int) (o : O3) (u : Wd), vs = [.ref t] ∧ StOk H t h g o u ∧ ∀ (H' : Hp) (p r : Addr), Same H H' → H' p = some (.tup [.int h, .int g, .ref r]) → Q (.ref p) H'
theorem c_law_pair (T : Top K mg) : Cal P w K mg base 2 "_law_pair" spLPair := by
  refine T.d_law_pair.cal sc_law_pair (fun vs H Q E h => ?_) (fun f cdv A outer s H vs Q E hr h => ?_)
  · obtain ⟨t, h, g, o, u, rfl, _⟩ := h
    rfl
  · obtain ⟨t, h, g, o, u, rfl, S, q⟩ := h
    refine ⟨_, pss_cons (ps_asg (pe_callB cr_sortedT3 (by rfl) T.z_sorted (by decide +kernel) (pa_cons (pv 0) pa_nil))
        (pg_unl (n := 3) rfl (pgs_cons (pg_name (i := 1) sc_law_pair.nd rfl (.inl rfl)) (pgs_cons (pg_name (i := 2) sc_law_pair.nd rfl (.inl rfl)) (pgs_cons (pg_name (i := 3) sc_law_pair.nd rfl (.inl rfl)) pgs_nil)))))
      (pss_cons (ps_par (i := 4) (j := 5) (by rfl) sc_law_pair.nd rfl rfl (by decide) rfl rfl (pa_cons (pe_c (c_law_common T) hr (by decide) (by rfl) (pa_cons (pe_op op_sub (pv 2) (pv 1)) (pa_cons (pe_op op_sub (pv 3) (pv 2)) pa_nil))) (pa_cons (pe_op op_sub (pe_op op_add (pv 1) (pv 3)) (pv 2)) pa_nil)) (by rfl))
      (pss_one (ps_ret (pe_tup (pa_cons (pv 5) (pa_cons (pv 4) (pa_cons (pe_tup (pa_cons (pe_op op_fdiv (pe_op op_sub (pv 3) (pv 5)) (pv 4)) (pa_cons (pe_op op_fdiv (pe_op op_sub (pv 5) (pv 1)) (pv 4)) pa_nil))) pa_nil))))))), ?_⟩
    have g0 : 0 < g := by have := S.g1; omega
    have g9 := S.g2
    have l1 := S.lt1
    have l2 := S.lt2
    refine ⟨_, rfl, t, _, rfl, S.tr.sq, fun ns' p hp hs np => ?_⟩
    have e := tri_sort S.oo (by omega) (by omega) hp hs
    subst e
    refine ⟨p, _, rfl, SqL.of upd_same, rfl, _, _, rfl, _, _, rfl, _, _, rfl, rfl, ?_⟩
    refine ⟨_, rfl, _, rfl, _, _, rfl, rfl, _, rfl, _, rfl, _, _, rfl, rfl, _, _, rfl, by omega, by omega, _, rfl, _, rfl, _, _, rfl, rfl, _, rfl, _, _, rfl, rfl, _, _, rfl, ?_⟩
    have eh := hrt (h := h) (g := g) u
    have eg : ((Int.gcd (py h g u - px h g u) (pz h g u - py h g u) : Nat) : Int) = g := by
      rw [gap1, gap2]
      exact gcd_scale g0 (pr_gcd u)
    change Ends.nx _ [some (.ref t), some (.int (px h g u)), some (.int (py h g u)), some (.int (pz h g u)), some (.int ((Int.gcd (py h g u - px h g u) (pz h g u - py h g u) : Nat) : Int)), some (.int (px h g u + pz h g u - py h g u))] _
    rw [eg, eh]
    refine ⟨_, rfl, _, rfl, _, rfl, _, rfl, _, _, rfl, rfl, _, rfl, _, _, rfl, rfl, ⟨g0, by omega⟩, _, rfl, _, rfl, _, _, rfl, rfl, _, rfl, _, _, rfl, rfl, ⟨g0, by omega⟩, (by show 2 ≤ sizeLine; decide), fun p2 np2 => ⟨(by show 3 ≤ sizeLine; decide), fun p3 np3 => ?_⟩⟩
    exact q _ p3 p2 (Same.mk (Same.mk (Same.new np) np2) np3) upd_same
end
end LR

namespace LR
open PySem PySem.Spec PyProof.Rows L2
open PySem.W (Datum DatumOrd Holds HoldAll Tup)
theorem Row.sx {K : PySem.W.Frag} {H H' : Hp} {r : Addr} {ns : List Int} (R : Row K H r ns) (s : Sx r H H') {a : Addr} {o : HO} (hn : ∀ xs, o ≠ .lst xs) (e : H a = some o) : H' a = some o := by
  obtain ⟨xs, er⟩ := R.lst
  refine s a _ (fun z => ?_) e
  rw [z, er] at e
  exact hn xs (Option.some.inj e).symm
theorem Row.ne {K : PySem.W.Frag} {H : Hp} {r p : Addr} {ns : List Int} (R : Row K H r ns) (h : H p = none) : p ≠ r := by
  obtain ⟨xs, er⟩ := R.lst
  exact Ne.symm (ne_of_none er h)
/-- the begin's stones -/
def part (o : O3) (x y z : Int) : Nat → List Int
  | 0 => [0, 0, 0]
  | 1 => [0, 0, 0].set o.1 x
  | 2 => ([0, 0, 0].set o.1 x).set o.2.1 y
  | _ => (([0, 0, 0].set o.1 x).set o.2.1 y).set o.2.2 z
theorem part_all {o : O3} (ho : isO o) (x y z : Int) : part o x y z 3 = tri o x y z := by
  rcases ho with e | e | e | e | e | e <;> subst e <;> rfl
theorem part_len (o : O3) (x y z : Int) : ∀ i, (part o x y z i).length = 3
  | 0 => rfl
  | 1 => by simp [part]
  | 2 => by simp [part]
  | _ + 3 => by simp [part]
theorem o_lt {o : O3} (ho : isO o) : o.1 < 3 ∧ o.2.1 < 3 ∧ o.2.2 < 3 := by
  rcases ho with e | e | e | e | e | e <;> subst e <;> exact ⟨by decide, by decide, by decide⟩
theorem st_nil (h g : Int) (o : O3) : st h g o [] = tri o (h - g) h (h + g) := by
  show tri o (h - g * 1) (h + g * (1 - 1)) (h + g * 1) = _
  rw [Int.mul_one, Int.sub_self, Int.mul_zero, Int.add_zero]
/-- the six orders of the stones -/
def six : List (List Int) := [[0, 1, 2], [0, 2, 1], [1, 0, 2], [1, 2, 0], [2, 0, 1], [2, 1, 0]]
theorem six_o {n : List Int} (h : n ∈ six) : ∃ o, isO o ∧ n = lv o := by
  simp only [six, List.mem_cons, List.not_mem_nil, or_false] at h
  rcases h with e | e | e | e | e | e <;> subst e
  · exact ⟨(0, 1, 2), .inl rfl, rfl⟩
  · exact ⟨(0, 2, 1), .inr (.inl rfl), rfl⟩
  · exact ⟨(1, 0, 2), .inr (.inr (.inl rfl)), rfl⟩
  · exact ⟨(1, 2, 0), .inr (.inr (.inr (.inl rfl))), rfl⟩
  · exact ⟨(2, 0, 1), .inr (.inr (.inr (.inr (.inl rfl)))), rfl⟩
  · exact ⟨(2, 1, 0), .inr (.inr (.inr (.inr (.inr rfl)))), rfl⟩
section
variable {P : Program} {w : World} {K : PySem.W.Frag} {mg : Str → Option Value} {base : Heap}
/-! ### _law_shuts -/
def spShuts (K : PySem.W.Frag) : Sp := fun vs H Q _ => ∃ (r t : Addr) (ns : List Int) (o : O3) (x y z m : Int), vs = [.ref r, .ref t, .int m] ∧ Row K H r ns ∧ IT H t (tri o x y z) ∧ isO o ∧ x < y ∧ y < z ∧ 0 ≤ m ∧ m ≤ 1000000 ∧
  ∀ (H' : Hp) (p : Addr) (e0 e1 : Int), Sx r H H' → Row K H' r ns → IT H' p [x - e0, z + e1] → 0 ≤ e0 → e0 ≤ m → 0 ≤ e1 → e1 ≤ m → Q (.ref p) H'
theorem c_law_shuts (T : Top K mg) : Cal P w K mg base 2 "_law_shuts" (spShuts K) := by
  refine T.d_law_shuts.cal sc_law_shuts (fun vs H Q E h => ?_) (fun f cdv A outer s H vs Q E hr h => ?_)
  · obtain ⟨r, t, ns, o, x, y, z, m, rfl, _⟩ := h
    rfl
  · obtain ⟨r, t, ns, o, x, y, z, m, rfl, R, ht, ho, hxy, hyz, hm0, hm1, q⟩ := h
    refine ⟨_, pss_one (ps_ret (pe_tup (pa_cons (pe_op op_sub (pe_callB (cr_minT rfl (du2 hr)) (by rfl) T.z_min (by decide +kernel) (pa_cons (pv 1) pa_nil)) (pe_c (c_law_taken T) hr (by decide) (by rfl) (pa_cons (pv 0) (pa_cons (pe_op op_add (pv 2) pe_int) pa_nil))))
      (pa_cons (pe_op op_add (pe_callB (cr_maxT rfl (du2 hr)) (by rfl) T.z_max (by decide +kernel) (pa_cons (pv 1) pa_nil)) (pe_c (c_law_taken T) hr (by decide) (by rfl) (pa_cons (pv 0) (pa_cons (pe_op op_add (pv 2) pe_int) pa_nil)))) pa_nil)))), ?_⟩
    refine ⟨_, rfl, t, _, _, rfl, ht.sq, _, rfl, _, rfl, _, _, rfl, rfl, r, ns, m + 1, rfl, R, by omega, by omega, fun H1 e0 s1 R1 b0 b1 => ?_⟩
    have ht1 := ht.tk (R.tk s1)
    refine ⟨_, _, rfl, rfl, _, rfl, t, _, _, rfl, ht1.sq, _, rfl, _, rfl, _, _, rfl, rfl, r, ns, m + 1, rfl, R1, by omega, by omega, fun H2 e1 s2 R2 b2 b3 => ?_⟩
    refine ⟨_, _, rfl, rfl, (by show 2 ≤ sizeLine; decide), fun p np => ?_⟩
    refine q _ p e0 e1 ((s1.trans s2).trans (Sx.of (Same.new np))) (R2.mv (Same.new np)) ?_ b0 (by omega) b2 (by omega)
    rw [min_tri ho hxy hyz, max_tri ho hxy hyz]
    exact upd_same
/-! ### _law_walk -/
def spWalk (K : PySem.W.Frag) : Sp := fun vs H Q _ => ∃ (r t : Addr) (ns : List Int) (h g : Int) (o : O3) (u : Wd) (m : Nat), vs = [.ref r, .ref t, .int (m : Int)] ∧ Row K H r ns ∧ StOk H t h g o u ∧ u.length + m ≤ 9 ∧
  ∀ (H' : Hp) (p : Addr) (v : Wd), Sx r H H' → Row K H' r ns → StOk H' p h g o v → v.length ≤ u.length + m → Q (.ref p) H'
theorem c_law_walk (T : Top K mg) : Cal P w K mg base 3 "_law_walk" (spWalk K) := by
  refine T.d_law_walk.cal sc_law_walk (fun vs H Q E h => ?_) (fun f cdv A outer s H vs Q E hr h => ?_)
  · obtain ⟨r, t, ns, h, g, o, u, m, rfl, _⟩ := h
    rfl
  · obtain ⟨r, t, ns, h, g, o, u, m, rfl, R, S, hm, q⟩ := h
    refine ⟨_, pss_cons (ps_for PassesOwn.never rfl (pi_range1 (by rfl) T.z_range (pa_cons (pe_c (c_law_taken T) hr (by decide) (by rfl) (pa_cons (pv 0) (pa_cons (pe_op op_add (pv 2) pe_int) pa_nil))) pa_nil)) (pg_name (i := 3) sc_law_walk.nd rfl (.inl rfl))
        (pss_cons (ps_asg (pe_c (c_law_order T) hr (by decide) (by rfl) (pa_cons (pv 1) pa_nil)) (pg_unl (n := 3) rfl (pgs_cons (pg_name (i := 4) sc_law_walk.nd rfl (.inl rfl)) (pgs_cons (pg_name (i := 5) sc_law_walk.nd rfl (.inl rfl)) (pgs_cons (pg_name (i := 6) sc_law_walk.nd rfl (.inl rfl)) pgs_nil)))))
        (pss_one (ps_set (i := 1) sc_law_walk.nd rfl (.inl rfl) (pe_c (c_law_leapt T) hr (by decide) (by rfl) (pa_cons (pv 1) (pa_cons (pv 5) (pa_cons (pe_c (c_law_pick T) hr (by decide) (by rfl) (pa_cons (pv 0) (pa_cons (pe_lst (pa_cons (pv 4) (pa_cons (pv 6) pa_nil))) pa_nil))) pa_nil))))))))
      (pss_one (ps_ret (pv 1))), ?_⟩
    refine ⟨_, rfl, _, rfl, _, _, rfl, rfl, r, ns, (m : Int) + 1, rfl, R, by omega, by omega, fun H0 n s0 R0 n0 n1 => ?_⟩
    obtain ⟨k, rfl⟩ : ∃ k : Nat, n = (k : Int) := ⟨n.toNat, by omega⟩
    have S0 := S.tk (R.tk s0)
    refine ⟨_, rfl, by omega, by omega, ?_⟩
    refine for_range (lo := 0) (n := ((k : Int)).toNat) (fun i σ H' => ∃ (p : Addr) (v : Wd) (v3 v4 v5 v6 : Option V), σ = [some (.ref r), some (.ref p), some (.int (m : Int)), v3, v4, v5, v6] ∧ Sx r H H' ∧ Row K H' r ns ∧ IT H' p (st h g o v) ∧ v.length ≤ u.length + i)
      ⟨t, u, none, none, none, none, rfl, s0, R0, S0.it, Nat.le_refl _⟩ ?_ ?_
    · rintro i σ H1 hi ⟨p, v, v3, v4, v5, v6, rfl, s1, R1, hp, hl⟩
      have hv9 := pr_thousand v (by omega)
      have V1 : StOk H1 p h g o v := ⟨hp, S.ho, S.g1, S.g2, S.h1, S.h2, hv9⟩
      obtain ⟨a1, a2, a3⟩ := lv_at V1.oo (x := px h g v) (y := py h g v) (z := pz h g v)
      refine ⟨_, rfl, p, _, _, _, _, rfl, V1.tr, V1.oo, V1.lt1, V1.lt2, fun H2 l s2 hl2 => ?_⟩
      refine ⟨l, _, rfl, SqL.of hl2, rfl, _, _, rfl, _, _, rfl, _, _, rfl, rfl, ?_⟩
      have V2 := V1.mv s2
      refine ⟨_, rfl, _, rfl, _, rfl, _, rfl, _, rfl, (by show 2 ≤ sizeLine; decide), fun L nL => ?_⟩
      have s3 := Same.mk (o := .lst [V.int (od o v).1, V.int (od o v).2.2]) s2 nL
      have R3 := R1.mv s3
      have V3 := V1.mv s3
      have hLr := (R1.mv s2).ne nL
      refine ⟨r, L, ns, _, rfl, R3, upd_same, hLr, (by show 0 < 2; decide), (by show 2 < 1000; decide), fun H3 j x s4 R4 hx => ?_⟩
      have V4 := V3.tk (R3.tk s4)
      have hj : j < 2 := (List.getElem?_eq_some_iff.mp hx).1
      have sx := (s1.trans (Sx.of s3)).trans s4
      have hj' : j = 0 ∨ j = 1 := by omega
      rcases hj' with rfl | rfl
      · have ex : x = .int ((od o v).1 : Int) := (Option.some.inj hx).symm
        subst ex
        refine ⟨p, _, (od o v).2.1, (od o v).1, _, _, rfl, V4.tr, a2, a1, fun H4 p2 s5 hp2 => ?_⟩
        refine ⟨p2, false :: v, _, _, _, _, rfl, sx.trans (Sx.of s5), R4.mv s5, ?_, by rw [List.length_cons]; omega⟩
        have e := st_f (h := h) (g := g) S.ho v
        rw [← e]
        exact hp2
      · have ex : x = .int ((od o v).2.2 : Int) := (Option.some.inj hx).symm
        subst ex
        refine ⟨p, _, (od o v).2.1, (od o v).2.2, _, _, rfl, V4.tr, a2, a3, fun H4 p2 s5 hp2 => ?_⟩
        refine ⟨p2, true :: v, _, _, _, _, rfl, sx.trans (Sx.of s5), R4.mv s5, ?_, by rw [List.length_cons]; omega⟩
        have e := st_t (h := h) (g := g) S.ho v
        rw [← e]
        exact hp2
    · rintro σ H1 ⟨p, v, v3, v4, v5, v6, rfl, s1, R1, hp, hl⟩
      exact ⟨_, rfl, q H1 p v s1 R1 ⟨hp, S.ho, S.g1, S.g2, S.h1, S.h2, pr_thousand v (by omega)⟩ (by omega)⟩
/-! ### _law_state -/
def spState (K : PySem.W.Frag) : Sp := fun vs H Q _ => ∃ (r : Addr) (ns : List Int) (m : Nat), vs = [.ref r, .int (m : Int)] ∧ Row K H r ns ∧ m ≤ 9 ∧
  ∀ (H' : Hp) (p : Addr) (h g : Int) (o : O3) (u : Wd), Sx r H H' → Row K H' r ns → StOk H' p h g o u → u.length ≤ m → Q (.ref p) H'
theorem c_law_state (T : Top K mg) : Cal P w K mg base 4 "_law_state" (spState K) := by
  refine T.d_law_state.cal sc_law_state (fun vs H Q E h => ?_) (fun f cdv A outer s H vs Q E hr h => ?_)
  · obtain ⟨r, ns, m, rfl, _⟩ := h
    rfl
  · obtain ⟨r, ns, m, rfl, R, hm, q⟩ := h
    refine ⟨_, pss_cons (ps_par (i := 5) (j := 6) (by rfl) sc_law_state.nd rfl rfl (by decide) rfl rfl (pa_cons (pe_op op_sub (pe_c (c_law_taken T) hr (by decide) (by rfl) (pa_cons (pv 0) (pa_cons pe_int pa_nil))) pe_int)
          (pa_cons (pe_c (c_law_pick T) hr (by decide) (by rfl) (pa_cons (pv 0) (pa_cons (pe_lst (pa_cons pe_int (pa_cons pe_int (pa_cons pe_int (pa_cons pe_int (pa_cons pe_int pa_nil)))))) pa_nil))) pa_nil)) (by rfl))
      (pss_cons (ps_set (i := 2) sc_law_state.nd rfl (.inl rfl) (pe_c (c_law_pick T) hr (by decide) (by rfl) (pa_cons (pv 0) (pa_cons (pe_lst
          (pa_cons (pe_tup (pa_cons pe_int (pa_cons pe_int (pa_cons pe_int pa_nil)))) (pa_cons (pe_tup (pa_cons pe_int (pa_cons pe_int (pa_cons pe_int pa_nil)))) (pa_cons (pe_tup (pa_cons pe_int (pa_cons pe_int (pa_cons pe_int pa_nil))))
          (pa_cons (pe_tup (pa_cons pe_int (pa_cons pe_int (pa_cons pe_int pa_nil)))) (pa_cons (pe_tup (pa_cons pe_int (pa_cons pe_int (pa_cons pe_int pa_nil)))) (pa_cons (pe_tup (pa_cons pe_int (pa_cons pe_int (pa_cons pe_int pa_nil)))) pa_nil))))))) pa_nil))))
      (pss_cons (ps_set (i := 3) sc_law_state.nd rfl (.inl rfl) (pe_lst (pa_cons pe_int (pa_cons pe_int (pa_cons pe_int pa_nil)))))
      (pss_cons (ps_for PassesOwn.never rfl (pi_range1 (by rfl) T.z_range (pa_cons pe_int pa_nil)) (pg_name (i := 4) sc_law_state.nd rfl (.inl rfl))
        (pss_one (ps_asg (pe_op op_add (pv 5) (pe_op op_mul (pe_op op_sub (pv 4) pe_int) (pv 6))) (pg_sub (pv 3) (pe_ix ix_tup (pv 2) (pv 4) (fun _ _ => rfl)) set_list))))
      (pss_one (ps_ret (pe_c (c_law_walk T) hr (by decide) (by rfl) (pa_cons (pv 0) (pa_cons (pe_callTy call_tuple_of (by rfl) T.z_tuple (by decide +kernel) (pa_cons (pv 3) pa_nil)) (pa_cons (pv 1) pa_nil))))))))), ?_⟩
    refine ⟨_, rfl, r, ns, 41, rfl, R, by decide, by decide, fun H1 c s1 R1 c0 c1 => ⟨_, _, rfl, rfl, ?_⟩⟩
    refine ⟨_, rfl, (by show 5 ≤ sizeLine; decide), fun L nL => ?_⟩
    have R2 := R1.mv (Same.new (o := .lst [V.int 1, V.int 1, V.int 2, V.int 3, V.int 10]) nL)
    refine ⟨r, L, ns, _, rfl, R2, upd_same, R1.ne nL, (by show 0 < 5; decide), (by show 5 < 1000; decide), fun H3 j x s3 R3 hx => ?_⟩
    obtain ⟨g, rfl, hg1, hg2⟩ : ∃ g : Int, x = .int g ∧ 1 ≤ g ∧ g ≤ 10 := by
      have hj : j < 5 := (List.getElem?_eq_some_iff.mp hx).1
      match j, hj, hx with
      | 0, _, hx => exact ⟨1, (Option.some.inj hx).symm, by decide, by decide⟩
      | 1, _, hx => exact ⟨1, (Option.some.inj hx).symm, by decide, by decide⟩
      | 2, _, hx => exact ⟨2, (Option.some.inj hx).symm, by decide, by decide⟩
      | 3, _, hx => exact ⟨3, (Option.some.inj hx).symm, by decide, by decide⟩
      | 4, _, hx => exact ⟨10, (Option.some.inj hx).symm, by decide, by decide⟩
    have sx3 := (s1.trans (Sx.of (Same.new (o := .lst [V.int 1, V.int 1, V.int 2, V.int 3, V.int 10]) nL))).trans s3
    clear R2 s3 hx nL s1 R1
    refine ⟨_, _, rfl, ?_⟩
    refine ⟨_, rfl, (by show 3 ≤ sizeLine; decide), fun p1 q1 => ⟨(by show 3 ≤ sizeLine; decide), fun p2 q2 => ⟨(by show 3 ≤ sizeLine; decide), fun p3 q3 => ⟨(by show 3 ≤ sizeLine; decide), fun p4 q4 => ⟨(by show 3 ≤ sizeLine; decide), fun p5 q5 => ⟨(by show 3 ≤ sizeLine; decide), fun p6 q6 => ⟨(by show 6 ≤ sizeLine; decide), fun L nL => ?_⟩⟩⟩⟩⟩⟩⟩
    have s4 : Same H3 (upd (upd (upd (upd (upd (upd H3 p1 (.tup [.int 0, .int 1, .int 2])) p2 (.tup [.int 0, .int 2, .int 1])) p3 (.tup [.int 1, .int 0, .int 2])) p4 (.tup [.int 1, .int 2, .int 0])) p5 (.tup [.int 2, .int 0, .int 1])) p6 (.tup [.int 2, .int 1, .int 0])) := Same.mk (Same.mk (Same.mk (Same.mk (Same.mk (Same.new q1) q2) q3) q4) q5) q6
    have t6 : Tps (upd (upd (upd (upd (upd (upd H3 p1 (.tup [.int 0, .int 1, .int 2])) p2 (.tup [.int 0, .int 2, .int 1])) p3 (.tup [.int 1, .int 0, .int 2])) p4 (.tup [.int 1, .int 2, .int 0])) p5 (.tup [.int 2, .int 0, .int 1])) p6 (.tup [.int 2, .int 1, .int 0])) [.ref p1, .ref p2, .ref p3, .ref p4, .ref p5, .ref p6] six := by
      have f6 := Same.new (o := .tup [V.int 2, V.int 1, V.int 0]) q6
      have f5 := Same.trans (Same.new (o := .tup [V.int 2, V.int 0, V.int 1]) q5) f6
      have f4 := Same.trans (Same.new (o := .tup [V.int 1, V.int 2, V.int 0]) q4) f5
      have f3 := Same.trans (Same.new (o := .tup [V.int 1, V.int 0, V.int 2]) q3) f4
      have f2 := Same.trans (Same.new (o := .tup [V.int 0, V.int 2, V.int 1]) q2) f3
      exact ⟨⟨p1, rfl, f2 _ _ upd_same⟩, ⟨p2, rfl, f3 _ _ upd_same⟩, ⟨p3, rfl, f4 _ _ upd_same⟩, ⟨p4, rfl, f5 _ _ upd_same⟩, ⟨p5, rfl, f6 _ _ upd_same⟩, ⟨p6, rfl, upd_same⟩, trivial⟩
    have nL4 : (upd (upd (upd (upd (upd (upd H3 p1 (.tup [.int 0, .int 1, .int 2])) p2 (.tup [.int 0, .int 2, .int 1])) p3 (.tup [.int 1, .int 0, .int 2])) p4 (.tup [.int 1, .int 2, .int 0])) p5 (.tup [.int 2, .int 0, .int 1])) p6 (.tup [.int 2, .int 1, .int 0])) L = none := nL
    have R4 := R3.mv s4
    have s5 := Same.new (o := .lst [V.ref p1, V.ref p2, V.ref p3, V.ref p4, V.ref p5, V.ref p6]) nL4
    have R5 := R4.mv s5
    refine ⟨r, L, ns, _, rfl, R5, upd_same, R4.ne nL4, (by show 0 < 6; decide), (by show 6 < 1000; decide), fun H6 j x s6 R6 hx => ?_⟩
    obtain ⟨ts, n, rfl, hn, hts⟩ := ((t6.tk (Same.tk s5)).tk (R5.tk s6)).get hx
    obtain ⟨o, ho, rfl⟩ := six_o (List.mem_of_getElem? hn)
    have sx6 := ((sx3.trans (Sx.of s4)).trans (Sx.of s5)).trans s6
    clear hx hn t6 nL nL4 q1 q2 q3 q4 q5 q6
    refine ⟨(by show 3 ≤ sizeLine; decide), fun B nB => ?_⟩
    have nBr := R6.ne nB
    have s7 := Same.new (o := .lst [V.int 0, V.int 0, V.int 0]) nB
    refine ⟨3, rfl, by decide, by decide, ?_⟩
    refine for_range (lo := 0) (n := (3 : Int).toNat) (fun i σ H' => ∃ v4 : Option V, σ = [some (.ref r), some (.int (m : Int)), some (.ref ts), some (.ref B), v4, some (.int (c - 20)), some (.int g)] ∧ Same H6 H' ∧ H' B = some (.lst ((part o (c - 20 - g) (c - 20) (c - 20 + g) i).map V.int)))
      ⟨none, rfl, s7, upd_same⟩ ?_ ?_
    · rintro i σ H7 hi ⟨v4, rfl, s8, hB⟩
      have hts7 := (hts.mv s8).sq (K := K)
      obtain ⟨o1, o2, o3⟩ := o_lt ho
      have hi' : i = 0 ∨ i = 1 ∨ i = 2 := by
        have : (3 : Int).toNat = 3 := rfl
        omega
      obtain ⟨k, hk, hat, hpart⟩ : ∃ k : Nat, k < 3 ∧ (lv o)[i]? = some (k : Int) ∧ part o (c - 20 - g) (c - 20) (c - 20 + g) (i + 1) = (part o (c - 20 - g) (c - 20) (c - 20 + g) i).set k (c - 20 + (0 + (i : Int) - 1) * g) := by
        rcases hi' with rfl | rfl | rfl
        · refine ⟨o.1, o1, rfl, ?_⟩
          rw [show c - 20 + (0 + ((0 : Nat) : Int) - 1) * g = c - 20 - g by omega]
          rfl
        · refine ⟨o.2.1, o2, rfl, ?_⟩
          rw [show c - 20 + (0 + ((1 : Nat) : Int) - 1) * g = c - 20 by omega]
          rfl
        · refine ⟨o.2.2, o3, rfl, ?_⟩
          rw [show c - 20 + (0 + ((2 : Nat) : Int) - 1) * g = c - 20 + g by omega]
          rfl
      have hat' : atI ((lv o).map V.int) (0 + (i : Int)) = some (.int (k : Int)) := at_of (j := i) (by omega) (by rw [List.getElem?_map, hat]; rfl)
      have hix : ixN ((part o (c - 20 - g) (c - 20) (c - 20 + g) i).map V.int).length (k : Int) = some k := ix_map (a := (part o (c - 20 - g) (c - 20) (c - 20 + g) i)[k]'(by rw [part_len]; exact hk)) (List.getElem?_eq_getElem _)
      refine ⟨_, rfl, _, rfl, _, _, rfl, rfl, _, rfl, _, _, rfl, rfl, .inr ⟨by omega, by omega⟩, _, _, rfl, rfl, ?_⟩
      refine ⟨_, rfl, _, rfl, _, rfl, ts, _, _, _, rfl, rfl, hts7, hat', B, _, _, k, rfl, rfl, hB, hix, ?_⟩
      refine ⟨_, rfl, Same.wr s8 nB, ?_⟩
      rw [upd_same, hpart, List.map_set]
    · rintro σ H7 ⟨v4, rfl, s8, hB⟩
      have eB : part o (c - 20 - g) (c - 20) (c - 20 + g) ((3 : Int).toNat) = st (c - 20) g o [] := by
        rw [st_nil]
        exact part_all ho _ _ _
      rw [eB] at hB
      refine ⟨_, rfl, _, rfl, B, _, rfl, .inl ⟨SqL.of hB, fun t nt => ?_⟩⟩
      have s9 := Same.mk (o := .tup ((st (c - 20) g o []).map V.int)) s8 nt
      have S9 : StOk (upd H7 t (.tup ((st (c - 20) g o []).map V.int))) t (c - 20) g o [] := ⟨upd_same, ho, hg1, hg2, by omega, by omega, by decide, by decide⟩
      refine ⟨_, rfl, r, t, ns, _, _, _, [], m, rfl, R6.mv s9, S9, by show 0 + m ≤ 9; omega, fun H8 p u s10 R10 S10 hl => ?_⟩
      exact q H8 p _ g o u ((sx6.trans (Sx.of s9)).trans s10) R10 S10 (by simpa using hl)
end
end LR

namespace LR
open PySem PySem.Spec PyProof.Rows L2
open PySem.W (Datum DatumOrd Holds HoldAll Tup)
theorem line_at0 (h g : Int) (o : O3) : ∀ w, (line h g o w)[0]? = some (st h g o [])
  | [] => rfl
  | c :: w => by
    show (line h g o w ++ [st h g o (c :: w)])[0]? = _
    rw [List.getElem?_append_left (by rw [line_len]; omega)]
    exact line_at0 h g o w
theorem flat_ge {W B : Int} : ∀ l : List Wd, (∀ v ∈ l, inb W B v = true) → l.length ≤ (l.flatMap (LR.P W B)).length
  | [], _ => Nat.le_refl _
  | x :: l, h => by
    have ih := flat_ge l fun v hv => h v (List.mem_cons_of_mem _ hv)
    rw [List.flatMap_cons, List.length_append, List.length_cons, P_in (h x List.mem_cons_self), List.length_cons]
    omega
theorem bfs_len {W B : Int} {l : List Wd} {i : Nat} (hi : i ≤ l.length) (hin : ∀ v ∈ l, inb W B v = true) (h : (l.take i ++ (l.drop i).flatMap (LR.P W B)).Perm (LR.P W B [])) : l.length ≤ (LR.P W B []).length := by
  have e := h.length_eq
  rw [List.length_append, List.length_take] at e
  have e2 := flat_ge (l.drop i) fun v hv => hin v (List.mem_of_mem_drop hv)
  rw [List.length_drop] at e2
  omega
section
variable {P : Program} {w : World} {K : PySem.W.Frag} {mg : Str → Option Value} {base : Heap}
/-! ### _law_field -/
def spField : Sp := fun vs H Q _ => ∃ (t t2 : Addr) (h g : Int) (o : O3) (u : Wd) (w0 w1 W B : Int), vs = [.ref t, .ref t2] ∧ StOk H t h g o u ∧ WlOk H t2 h g w0 w1 W B ∧ inb W B u = true ∧
  ∀ (H' : Hp) (p : Addr) (us : List V) (l : List Wd), Same H H' → H p = none → H' p = some (.lst us) → Tps H' us (l.map (st h g o)) → l.Perm (LR.P W B []) → Q (.ref p) H'
theorem c_law_field (T : Top K mg) : Cal P w K mg base 4 "_law_field" spField := by
  refine T.d_law_field.cal sc_law_field (fun vs H Q E h => ?_) (fun f cdv A outer s H vs Q E hr h => ?_)
  · obtain ⟨t, t2, h, g, o, u, w0, w1, W, B, rfl, _⟩ := h
    rfl
  · obtain ⟨t, t2, h, g, o, u, w0, w1, W, B, rfl, S, L, hu, q⟩ := h
    refine ⟨_, pss_cons (ps_par (i := 2) (j := 3) (by rfl) sc_law_field.nd rfl rfl (by decide) rfl rfl (pa_cons (pe_lst (pa_cons (pe_ix ix_list (pe_c (c_law_line T) hr (by decide) (by rfl) (pa_cons (pv 0) pa_nil)) pe_int (fun _ _ => rfl)) pa_nil)) (pa_cons pe_int pa_nil)) (by rfl))
      (pss_cons (ps_while PassesOwn.never (pt_cmpR op_lt (pv 3) (pe_callB call_len_seq (by rfl) T.z_len PySem.boot_len (pa_cons (pv 2) pa_nil)) (nomark _))
        (pss_cons (ps_for PassesOwn.never rfl (pi_list (pe_c (c_law_behind T) hr (by decide) (by rfl) (pa_cons (pe_ix ix_list (pv 2) (pv 3) (fun _ _ => rfl)) (pa_cons pe_int pa_nil)))) (pg_name (i := 4) sc_law_field.nd rfl (.inl rfl))
          (pss_one (ps_if (PW.pt (pw_and (pt_cmpR op_le (pe_ix ix_tup (pv 1) pe_int (fun _ _ => rfl)) (pe_callB (cr_minT rfl (du2 hr)) (by rfl) T.z_min (by decide +kernel) (pa_cons (pv 4) pa_nil)) (nomark _))
              (pw_and1 (pt_cmpR op_le (pe_callB (cr_maxT rfl (du2 hr)) (by rfl) T.z_max (by decide +kernel) (pa_cons (pv 4) pa_nil)) (pe_ix ix_tup (pv 1) pe_int (fun _ _ => rfl)) (nomark _)))))
            (pss_one (ps_expr (pe_bm PySem.F.plainAttrs_list PySem.F.slot_list_append PySem.F.type_list_append mt_append (pv 2) (pa_cons (pv 4) pa_nil)))) pss_nil)))
        (pss_one (ps_set (i := 3) sc_law_field.nd rfl (.inl rfl) (pe_op op_add (pv 3) pe_int)))))
      (pss_one (ps_ret (pv 2)))), ?_⟩
    have few := few_of (t := t) (o := o) L hu
    have hb0 := inb_pos hu
    have ib0 : inb W B [] = true := inb_iff.mpr hb0
    refine ⟨_, rfl, t, h, g, o, u, rfl, S, fun H1 pL us1 s1 _ hpL hT1 => ?_⟩
    obtain ⟨t0, ht0, hit0⟩ := hT1.get' (line_at0 h g o u)
    refine ⟨pL, _, _, _, rfl, rfl, SqL.of hpL, atI_nat (j := 0) ht0, (by show 1 ≤ sizeLine; decide), fun F nF => ⟨_, _, rfl, ?_⟩⟩
    have nF0 : H F = none := Same.free s1 nF
    have sF := Same.mk (o := .lst [V.ref t0]) s1 nF
    refine ⟨fun m σ H' => Same H H' ∧ ∃ (us : List V) (l : List Wd) (i : Nat) (v4 : Option V), σ = [some (.ref t), some (.ref t2), some (.ref F), some (.int (i : Int)), v4] ∧ H' F = some (.lst us) ∧ Tps H' us (l.map (st h g o)) ∧ i ≤ l.length ∧ (∀ v ∈ l, inb W B v = true) ∧
        (l.take i ++ (l.drop i).flatMap (LR.P W B)).Perm (LR.P W B []) ∧ m = (LR.P W B []).length + 1 - i,
      ⟨_, sF, [.ref t0], [[]], 0, none, rfl, upd_same, ⟨⟨t0, rfl, hit0.mv (Same.new nF)⟩, trivial⟩, Nat.zero_le _, fun v hv => by rw [List.mem_singleton.mp hv]; exact ib0, ?_, rfl⟩, ?_⟩
    · show ([] ++ (LR.P W B [] ++ [])).Perm _
      rw [List.nil_append, List.append_nil]
    rintro m σ H' ⟨s2, us, l, i, v4, rfl, hF, hT, hi, hin, hperm, rfl⟩
    have hul : us.length = l.length := by
      have := hT.len
      rw [List.length_map] at this
      exact this
    have hll := bfs_len hi hin hperm
    refine ⟨_, rfl, _, rfl, F, us, rfl, .inl (SqL.of hF), _, _, rfl, rfl, _, rfl, ?_⟩
    by_cases hlt : i < l.length
    · refine iteD (by omega) ?_
      refine ⟨fun σ' H3 => ∃ (us' : List V) (v4 : Option V) (v : Wd), l[i]? = some v ∧ inb W B v = true ∧ σ' = [some (.ref t), some (.ref t2), some (.ref F), some (.int ((i + 1 : Nat) : Int)), v4] ∧ Same H H3 ∧ H3 F = some (.lst us') ∧ Tps H3 us' ((l ++ kids W B v).map (st h g o)), ?_, ?_⟩
      · rintro σ' H3 ⟨us', v4, v, hv, hvi, rfl, s3, hF3, hT3⟩
        refine ⟨(LR.P W B []).length + 1 - (i + 1), by omega, s3, us', l ++ kids W B v, i + 1, v4, rfl, hF3, hT3, ?_, ?_, bfs_step hv hvi hperm, rfl⟩
        · rw [List.length_append]
          omega
        · intro x hx
          rcases List.mem_append.mp hx with hx | hx
          · exact hin x hx
          · exact (List.mem_filter.mp hx).2
      · have hv : l[i]? = some l[i] := List.getElem?_eq_getElem hlt
        generalize l[i] = v at hv
        have hvi := hin v (List.mem_of_getElem? hv)
        obtain ⟨tv, htv, hitv⟩ := hT.get' (i := i) (n := st h g o v) (by rw [List.getElem?_map, hv]; rfl)
        have hbv := inb_iff.mp hvi
        have mW := L.mW
        have mB := L.mB
        have Sv : StOk H' tv h g o v := ⟨hitv, S.ho, S.g1, S.g2, S.h1, S.h2, by omega, by omega⟩
        refine ⟨_, rfl, _, rfl, F, _, _, _, rfl, rfl, SqL.of hF, atI_nat htv, tv, h, g, o, v, rfl, Sv, fun H3 R a b s3 nR hR ha hb => ?_⟩
        have hF3 := s3 _ _ hF
        have hT3 := hT.tk (Same.tk s3)
        have s23 := Same.trans s2 s3
        have neR : R ≠ F := Ne.symm (ne_of_none hF nR)
        refine ⟨R, rfl, ⟨_, SqL.of hR⟩, ?_⟩
        have kk : ∀ (j : Nat) (c : Bool), [false, true][j]? = some c → [false :: v, true :: v].take (j + 1) = [false :: v, true :: v].take j ++ [c :: v] := by
          intro j c hj
          match j, hj with
          | 0, hj => rw [← Option.some.inj hj]; rfl
          | 1, hj => rw [← Option.some.inj hj]; rfl
        refine for_list (K := K) (a := R) (xs := [V.ref a, V.ref b]) (fun j σ H' => ∃ (us' : List V) (v4 : Option V), σ = [some (.ref t), some (.ref t2), some (.ref F), some (.int (i : Int)), v4] ∧ Same H H' ∧ H' R = some (.lst [V.ref a, V.ref b]) ∧ IT H' a (st h g o (false :: v)) ∧ IT H' b (st h g o (true :: v)) ∧
            H' F = some (.lst us') ∧ Tps H' us' ((l ++ ([false :: v, true :: v].take j).filter (inb W B)).map (st h g o)) ∧ us'.length ≤ us.length + j)
          ⟨us, v4, rfl, s23, hR, ha, hb, hF3, by rw [List.take_zero, List.filter_nil, List.append_nil]; exact hT3, Nat.le_refl _⟩ (fun j σ H' _ p => by obtain ⟨_, _, _, _, e, _⟩ := p; exact SqL.of e) ?_ ?_
        · rintro j x σ H4 hx ⟨us', v4, rfl, s4, hR4, ha4, hb4, hF4, hT4, hn4⟩
          obtain ⟨c, tc, rfl, hjc, htc⟩ : ∃ (c : Bool) (tc : Addr), x = .ref tc ∧ [false, true][j]? = some c ∧ IT H4 tc (st h g o (c :: v)) := by
            have hj : j < 2 := (List.getElem?_eq_some_iff.mp hx).1
            match j, hj, hx with
            | 0, _, hx => exact ⟨false, a, (Option.some.inj hx).symm, rfl, ha4⟩
            | 1, _, hx => exact ⟨true, b, (Option.some.inj hx).symm, rfl, hb4⟩
          have hj : j < 2 := (List.getElem?_eq_some_iff.mp hx).1
          have ek := kk j c hjc
          have L4 := (L.mv s4).it.sq (K := K)
          have oc := isO_od S.ho (c :: v)
          have l1 := px_lt (h := h) S.g1 (c :: v)
          have l2 := py_lt (h := h) S.g1 (c :: v)
          have walls : (w0 ≤ px h g (c :: v) ∧ pz h g (c :: v) ≤ w1) ↔ inb W B (c :: v) = true := by
            have := in_walls (h := h) S.g1 (w0 := w0) (w1 := w1) (c :: v)
            rw [L.eW, L.eB] at this
            exact this
          have out : ¬ inb W B (c :: v) = true → ∃ (us' : List V) (v4' : Option V), [some (.ref t), some (.ref t2), some (.ref F), some (.int (i : Int)), some (.ref tc)] = [some (.ref t), some (.ref t2), some (.ref F), some (.int (i : Int)), v4'] ∧ Same H H4 ∧ H4 R = some (.lst [V.ref a, V.ref b]) ∧ IT H4 a (st h g o (false :: v)) ∧ IT H4 b (st h g o (true :: v)) ∧
              H4 F = some (.lst us') ∧ Tps H4 us' ((l ++ ([false :: v, true :: v].take (j + 1)).filter (inb W B)).map (st h g o)) ∧ us'.length ≤ us.length + (j + 1) := by
            intro hno
            refine ⟨us', _, rfl, s4, hR4, ha4, hb4, hF4, ?_, by omega⟩
            rw [ek, List.filter_append, List.filter_cons, if_neg hno, List.filter_nil, List.append_nil]
            exact hT4
          refine ⟨_, rfl, t2, _, 0, _, rfl, rfl, L4, atI_nat (j := 0) rfl, _, rfl, tc, _, _, rfl, htc.sq, _, _, rfl, rfl, _, rfl, ?_⟩
          rw [min_tri oc l1 l2]
          by_cases h1 : w0 ≤ px h g (c :: v)
          · refine iteD h1 ?_
            refine ⟨_, rfl, tc, _, _, rfl, htc.sq, _, rfl, t2, _, 1, _, rfl, rfl, L4, atI_nat (j := 1) rfl, _, _, rfl, rfl, _, rfl, ?_⟩
            rw [max_tri oc l1 l2]
            by_cases h2 : pz h g (c :: v) ≤ w1
            · refine iteD h2 ?_
              have hyes := walls.mp ⟨h1, h2⟩
              refine ⟨_, rfl, .inl ⟨rfl, _, SqL.of hF4⟩, _, rfl, F, us', _, rfl, rfl, hF4, szt (by omega), ?_⟩
              have kF : TK H4 (upd H4 F (.lst (us' ++ [.ref tc]))) := TK.lst hF4
              refine ⟨us' ++ [.ref tc], _, rfl, Same.wr s4 nF0, (upd_ne neR).trans hR4, ha4.tk kF, hb4.tk kF, upd_same, ?_, by rw [List.length_append, List.length_singleton]; omega⟩
              rw [ek, List.filter_append, List.filter_cons, if_pos hyes, List.filter_nil, ← List.append_assoc, List.map_append]
              exact (hT4.snoc htc).tk kF
            · exact iteE h2 (out fun z => h2 (walls.mpr z).2)
          · exact iteE h1 (out fun z => h1 (walls.mpr z).1)
        · rintro σ H4 ⟨us', v4, rfl, s4, hR4, ha4, hb4, hF4, hT4, hn4⟩
          exact ⟨_, rfl, _, _, rfl, rfl, us', v4, v, hv, hvi, rfl, s4, hF4, hT4⟩
    · refine iteE (by omega) ?_
      have ei : i = l.length := by omega
      subst ei
      exact ⟨_, rfl, q H' F us l s2 nF0 hF hT (bfs_end hperm)⟩
end
end LR

namespace LR
open PySem PySem.Spec PyProof.Rows L2
open PySem.W (Datum DatumOrd Holds HoldAll Tup)
/-! ### the lines by their ends -/
def kT (ns : List Int) : List Key := ns.map Sum.inl
theorem kT_kV (ns : List Int) : (kT ns).map kV = ns.map V.int := by
  unfold kT
  rw [List.map_map]
  rfl
theorem kT_at {H : Hp} {t : Addr} {ns : List Int} (h : IT H t ns) : H t = some (.tup ((kT ns).map kV)) := by
  rw [kT_kV]
  exact h
theorem kT_inj : ∀ {a b : List Int}, kT a = kT b → a = b
  | [], [], _ => rfl
  | [], _ :: _, e => (nomatch e)
  | _ :: _, [], e => (nomatch e)
  | x :: a, y :: b, e => by
    have e1 := Sum.inl.inj (List.cons.inj e).1
    have e2 := kT_inj (a := a) (b := b) (List.cons.inj e).2
    rw [e1, e2]
/-- the line of a word, in the heap -/
def LL (H : Hp) (h g : Int) (o : O3) (v : V) (w : Wd) : Prop := ∃ (l : Addr) (us : List V), v = .ref l ∧ H l = some (.lst us) ∧ Tps H us (line h g o w)
theorem LL.mv {H H' : Hp} {h g : Int} {o : O3} {v : V} {w : Wd} (a : LL H h g o v w) (s : Same H H') : LL H' h g o v w := by
  obtain ⟨l, us, e, e1, e2⟩ := a
  exact ⟨l, us, e, s _ _ e1, e2.tk (Same.tk s)⟩
theorem LL.wr {H : Hp} {h g : Int} {o : O3} {v : V} {w : Wd} {d : Addr} {kvs kvs' : List (List Key × V)} (a : LL H h g o v w) (hd : H d = some (.dT kvs)) : LL (upd H d (.dT kvs')) h g o v w := by
  obtain ⟨l, us, e, e1, e2⟩ := a
  refine ⟨l, us, e, ?_, e2.tk (TK.dct hd)⟩
  rw [upd_ne (fun z => ?_)]
  · exact e1
  · rw [z, hd] at e1
    cases e1
/-- the dict of lines -/
def LD (H : Hp) (kvs : List (List Key × V)) (h g : Int) (o : O3) (ws : List Wd) : Prop := ∀ w, (w ∈ ws → ∃ v, valV kvs (kT (st h g o w)) = some v ∧ LL H h g o v w) ∧ (w ∉ ws → valV kvs (kT (st h g o w)) = none)
theorem LD.mv {H H' : Hp} {kvs : List (List Key × V)} {h g : Int} {o : O3} {ws : List Wd} (a : LD H kvs h g o ws) (s : Same H H') : LD H' kvs h g o ws := fun w => ⟨fun hw => by
  obtain ⟨v, e, l⟩ := (a w).1 hw
  exact ⟨v, e, l.mv s⟩, (a w).2⟩
theorem LD.put {H : Hp} {kvs : List (List Key × V)} {h g : Int} {o : O3} {ws : List Wd} {d : Addr} {v : V} {x : Wd} (a : LD H kvs h g o ws) (hg : 1 ≤ g) (ho : isO o) (hd : H d = some (.dT kvs)) (hl : LL H h g o v x) :
    LD (upd H d (.dT (putK kvs (kT (st h g o x)) v))) (putK kvs (kT (st h g o x)) v) h g o (ws ++ [x]) := by
  intro w
  rw [valV_put]
  by_cases e : w = x
  · subst e
    rw [if_pos rfl]
    exact ⟨fun _ => ⟨v, rfl, hl.wr hd⟩, fun z => absurd (List.mem_append_right _ List.mem_cons_self) z⟩
  · rw [if_neg (fun z => e (st_inj hg ho (kT_inj z)))]
    refine ⟨fun hw => ?_, fun hw => (a w).2 fun z => hw (List.mem_append_left _ z)⟩
    rcases List.mem_append.mp hw with hw | hw
    · obtain ⟨v', e1, e2⟩ := (a w).1 hw
      exact ⟨v', e1, e2.wr hd⟩
    · exact absurd (List.mem_singleton.mp hw) e
theorem in_line {h g : Int} {o : O3} (hg : 1 ≤ g) (ho : isO o) (u w : Wd) : decide ((Tup.mk (st h g o u) : Tup Int) ∈ (line h g o w).map fun n => (Tup.mk n : Tup Int)) = anc u w := by
  unfold anc
  refine decide_eq_decide.mpr ?_
  rw [← line_mem (h := h) hg ho w, List.mem_map]
  constructor
  · rintro ⟨n, hn, e⟩
    have e' : n = st h g o u := congrArg Tup.items e
    rw [← e']
    exact hn
  · intro hn
    exact ⟨_, hn, rfl⟩
/-- what the law has made -/
structure LS (H : Hp) (t t2 F d : Addr) (h g : Int) (o : O3) (u : Wd) (w0 w1 W B : Int) (us : List V) (l : List Wd) (kvs : List (List Key × V)) : Prop where
  S : StOk H t h g o u
  L : WlOk H t2 h g w0 w1 W B
  hu : inb W B u = true
  eF : H F = some (.lst us)
  tF : Tps H us (l.map (st h g o))
  pm : l.Perm (LR.P W B [])
  ed : H d = some (.dT kvs)
  ld : LD H kvs h g o l
section
variable {H H' : Hp} {t t2 F d : Addr} {h g : Int} {o : O3} {u : Wd} {w0 w1 W B : Int} {us : List V} {l : List Wd} {kvs : List (List Key × V)}
theorem LS.mv (a : LS H t t2 F d h g o u w0 w1 W B us l kvs) (s : Same H H') : LS H' t t2 F d h g o u w0 w1 W B us l kvs :=
  ⟨a.S.mv s, a.L.mv s, a.hu, s _ _ a.eF, a.tF.tk (Same.tk s), a.pm, s _ _ a.ed, a.ld.mv s⟩
theorem LS.len (a : LS H t t2 F d h g o u w0 w1 W B us l kvs) : us.length = l.length := by
  have := a.tF.len
  rw [List.length_map] at this
  exact this
theorem LS.few (a : LS H t t2 F d h g o u w0 w1 W B us l kvs) : l.length ≤ 400 := by
  rw [a.pm.length_eq]
  exact few_of (t := t) (o := o) a.L a.hu
theorem LS.inw (a : LS H t t2 F d h g o u w0 w1 W B us l kvs) {w : Wd} (hw : w ∈ l) : inb W B w = true := P_inb _ _ (a.pm.mem_iff.mp hw)
theorem LS.inl (a : LS H t t2 F d h g o u w0 w1 W B us l kvs) {w : Wd} (hw : inb W B w = true) : w ∈ l := a.pm.mem_iff.mpr (P_mem List.nil_suffix hw)
theorem LS.ok (a : LS H t t2 F d h g o u w0 w1 W B us l kvs) {w : Wd} {p : Addr} (hw : w ∈ l) (hp : IT H p (st h g o w)) : StOk H p h g o w := by
  have hb := inb_iff.mp (a.inw hw)
  have mW := a.L.mW
  have mB := a.L.mB
  exact ⟨hp, a.S.ho, a.S.g1, a.S.g2, a.S.h1, a.S.h2, by omega, by omega⟩
theorem LS.get (a : LS H t t2 F d h g o u w0 w1 W B us l kvs) {w : Wd} {p : Addr} (hw : w ∈ l) (hp : IT H p (st h g o w)) : ∃ (L : Addr) (vs : List V), DGet H d (.ref p) (some (.ref L)) ∧ H L = some (.lst vs) ∧ Tps H vs (line h g o w) ∧ vs.length = w.length + 1 := by
  obtain ⟨v, e, L, vs, rfl, e1, e2⟩ := (a.ld w).1 hw
  refine ⟨L, vs, ?_, e1, e2, ?_⟩
  · rw [← e]
    exact DGet.t (k := kT (st h g o w)) a.ed (kT_at hp)
  · rw [e2.len, line_len]
theorem LS.at (a : LS H t t2 F d h g o u w0 w1 W B us l kvs) {i : Nat} {v : V} (hv : us[i]? = some v) : ∃ p w, v = .ref p ∧ l[i]? = some w ∧ w ∈ l ∧ IT H p (st h g o w) := by
  obtain ⟨p, n, e, hn, hi⟩ := a.tF.get hv
  rw [List.getElem?_map] at hn
  obtain ⟨w, hw, rfl⟩ := Option.map_eq_some_iff.mp hn
  exact ⟨p, w, e, hw, List.mem_of_getElem? hw, hi⟩
theorem LS.mem (a : LS H t t2 F d h g o u w0 w1 W B us l kvs) : u ∈ l := a.inl a.hu
/-- how many lines a word is in -/
theorem LS.cnt (a : LS H t t2 F d h g o u w0 w1 W B us l kvs) {x : Wd} (hx : inb W B x = true) : (l.filter (anc x)).Perm (LR.P W B x) := by
  have := a.pm.filter (anc x)
  rw [P_filter hx [] List.nil_suffix] at this
  exact this
end
/-- a leap's end is a word a leap away -/
theorem leap_word {h g : Int} {o : O3} (hg : 1 ≤ g) (ho : isO o) (u : Wd) {p : Int × Int} (hp : p ∈ leapsL (od o u) (px h g u) (py h g u) (pz h g u)) :
    ∃ (i j : Nat) (a b : Int) (v d : Wd), p = ((i : Int), (j : Int)) ∧ (st h g o u)[i]? = some a ∧ (st h g o u)[j]? = some b ∧ (st h g o u).set i (2 * b - a) = st h g o v ∧ Nb u v d ∧ d = (if v.length > u.length then v else u) := by
  obtain ⟨a1, a2, a3⟩ := lv_at (isO_od ho u) (x := px h g u) (y := py h g u) (z := pz h g u)
  unfold leapsL at hp
  rw [List.mem_append, List.mem_append, List.mem_cons, List.mem_singleton] at hp
  rcases hp with ((e | e) | e) | e
  · exact ⟨_, _, _, _, false :: u, false :: u, e, a2, a1, st_f ho u, .inl ⟨false, rfl, rfl⟩, by rw [if_pos (by rw [List.length_cons]; omega)]⟩
  · exact ⟨_, _, _, _, true :: u, true :: u, e, a2, a3, st_t ho u, .inl ⟨true, rfl, rfl⟩, by rw [if_pos (by rw [List.length_cons]; omega)]⟩
  · split at e
    · rename_i hlt
      rw [List.mem_singleton] at e
      rw [gap1, gap2] at hlt
      have hlt' := (mul_lt hg).mp hlt
      match u, hlt', a1, a2, a3, e with
      | [], hlt', _, _, _, _ => exact absurd hlt' (by decide)
      | true :: v, hlt', _, _, _, _ =>
        have := (pr_side true v).1 rfl
        omega
      | false :: v, hlt', a1, a2, a3, e =>
        exact ⟨_, _, _, _, v, false :: v, e, a1, a2, st_fb ho v, .inr ⟨false, rfl, rfl⟩, by rw [if_neg (by rw [List.length_cons]; omega)]⟩
    · cases e
  · split at e
    · rename_i hlt
      rw [List.mem_singleton] at e
      rw [gap1, gap2] at hlt
      have hlt' := (mul_lt hg).mp hlt
      match u, hlt', a1, a2, a3, e with
      | [], hlt', _, _, _, _ => exact absurd hlt' (by decide)
      | false :: v, hlt', _, _, _, _ =>
        have := (pr_side false v).2 rfl
        omega
      | true :: v, hlt', a1, a2, a3, e =>
        exact ⟨_, _, _, _, v, true :: v, e, a3, a2, st_tb ho v, .inr ⟨true, rfl, rfl⟩, by rw [if_neg (by rw [List.length_cons]; omega)]⟩
    · cases e
/-- the shuts as walls -/
theorem shuts_ok {H : Hp} {t t2 : Addr} {h g : Int} {o : O3} {u : Wd} (S : StOk H t h g o u) (hl : u.length ≤ 5) {e0 e1 : Int} (b0 : 0 ≤ e0) (b1 : e0 ≤ 7 * g) (b2 : 0 ≤ e1) (b3 : e1 ≤ 7 * g) (hi : IT H t2 [px h g u - e0, pz h g u + e1]) :
    ∃ W B, WlOk H t2 h g (px h g u - e0) (pz h g u + e1) W B ∧ inb W B u = true := by
  have hs := pr_small u hl
  have g1 := S.g1
  have g2 := S.g2
  have k1 : g * (pr u).1 ≤ g * 13 := Int.mul_le_mul_of_nonneg_left hs.1 (by omega)
  have k2 : g * (pr u).2 ≤ g * 13 := Int.mul_le_mul_of_nonneg_left hs.2 (by omega)
  have c1 := mul_ge g1 (pr_pos u).1
  have c2 := mul_ge g1 (pr_pos u).2
  have h1 := S.h1
  have h2 := S.h2
  refine ⟨_, _, ⟨hi, rfl, rfl, ?_, ?_, ?_, ?_⟩, (in_walls g1 u).mp ⟨by omega, by omega⟩⟩
  · unfold pz
    exact Int.ediv_le_of_le_mul (by omega) (by omega)
  · unfold px
    exact Int.ediv_le_of_le_mul (by omega) (by omega)
  · unfold px
    omega
  · unfold pz
    omega
end LR

namespace LR
open PySem PySem.Spec PyProof.Rows L2
open PySem.W (Datum DatumOrd Holds HoldAll Tup)
theorem cr_lenS {X : Cx} : CallR X (.builtin "len") (Evl.rLenS X.K) := call_len_seq
/-- the words that x is behind of, here -/
abbrev tIn (K : PySem.W.Frag) (i : Nat) : TT := tTest (tOp (rInT K (Tup Int)) (tVar i) (tDGet (tVar 5) (tVar 6)))
/-- the words behind x, as a list of states -/
theorem cnt_lc {K : PySem.W.Frag} {H : Hp} {t t2 F d : Addr} {h g : Int} {o : O3} {u : Wd} {w0 w1 W B : Int} {us : List V} {l : List Wd} {kvs : List (List Key × V)} (a : LS H t t2 F d h g o u w0 w1 W B us l kvs) {x : Wd} {tx : Addr} (hx : IT H tx (st h g o x))
    {v0 v1 v2 v3 v6 v7 v8 v9 v10 v11 v12 v13 v14 : Option V} {i : Nat} (hi : ∀ v6, [v0, v1, v2, v3, some (.ref F), some (.ref d), v6, v7, v8, v9, v10, v11, v12, v13, v14][i]? = some (some (.ref tx))) {Q : VK}
    (q : ∀ (H' : Hp) (D : Addr) (vs : List V), Same H H' → H' D = some (.lst vs) → Tps H' vs ((l.filter (anc x)).map (st h g o)) → Q (.ref D) H') :
    tLc (iList K (tVar 4)) (gName 6) (tIn K i) (tVar 6) [6] [v0, v1, v2, v3, some (.ref F), some (.ref d), v6, v7, v8, v9, v10, v11, v12, v13, v14] H Q := by
  refine ⟨_, rfl, F, rfl, ⟨_, SqL.of a.eF⟩, fun D nD => ?_⟩
  have sD := Same.new (o := .lst []) nD
  refine lc_list (K := K) (a := F) (xs := us) (fun i H' => Same H H' ∧ ∃ vs, H' D = some (.lst vs) ∧ Tps H' vs (((l.take i).filter (anc x)).map (st h g o)) ∧ vs.length ≤ i)
    ⟨sD, [], upd_same, trivial, Nat.le_refl _⟩ (fun i H' _ p => SqL.of (p.1 _ _ a.eF)) ?_ ?_
  · rintro k v H1 hv ⟨s1, vs, hD, hT, hn⟩
    have a1 := a.mv s1
    obtain ⟨p, w, rfl, hlw, hmw, hp⟩ := a1.at hv
    obtain ⟨L, ls, hg, hL, hTL, _⟩ := a1.get hmw hp
    have few := a1.few
    have hk : k < us.length := (List.getElem?_eq_some_iff.mp hv).1
    rw [a1.len] at hk
    refine ⟨rfl, ?_⟩
    refine ⟨_, hi _, _, rfl, _, rfl, d, _, rfl, hg, L, ls, Tup.mk (st h g o x), _, rfl, SqL.of hL, hTL.dvs, dv_tup (hx.mv s1).sq (dvs_ints _), _, rfl, ?_⟩
    rw [in_line a1.S.g1 a1.S.ho]
    by_cases e : anc x w = true
    · refine iteTc e ?_
      have kD : TK H1 (upd H1 D (.lst (vs ++ [.ref p]))) := TK.lst hD
      refine ⟨_, rfl, vs, hD, szt (by omega), Same.wr s1 nD, vs ++ [.ref p], upd_same, ?_, by rw [List.length_append, List.length_singleton]; omega⟩
      rw [List.take_add_one, hlw, List.filter_append, List.map_append]
      have ef : (some w).toList.filter (anc x) = [w] := by
        show [w].filter (anc x) = [w]
        rw [List.filter_cons, if_pos e, List.filter_nil]
      rw [ef]
      exact (hT.snoc hp).tk kD
    · refine iteFc e ?_
      refine ⟨s1, vs, hD, ?_, by omega⟩
      rw [List.take_add_one, hlw, List.filter_append, List.map_append]
      have ef : (some w).toList.filter (anc x) = [] := by
        show [w].filter (anc x) = []
        rw [List.filter_cons, if_neg e, List.filter_nil]
      rw [ef, List.map_nil, List.append_nil]
      exact hT
  · rintro H1 ⟨s1, vs, hD, hT, _⟩
    rw [a.len, List.take_length] at hT
    exact q H1 D vs s1 hD hT
/-- how long the lines are -/
theorem len_lc {K : PySem.W.Frag} {H : Hp} {t t2 F d : Addr} {h g : Int} {o : O3} {u : Wd} {w0 w1 W B : Int} {us : List V} {l : List Wd} {kvs : List (List Key × V)} (a : LS H t t2 F d h g o u w0 w1 W B us l kvs) {bs : Addr} {vs : List V} {lw : List Wd} (hb : H bs = some (.lst vs)) (hT : Tps H vs (lw.map (st h g o))) (hin : ∀ w ∈ lw, w ∈ l) (hl : lw.length ≤ 400)
    {v0 v1 v2 v3 v4 v6 v8 v9 v10 v11 v12 v13 v14 : Option V} {Q : VK}
    (q : ∀ (H' : Hp) (D : Addr), Same H H' → H' D = some (.lst ((lw.map fun q => ((q.length + 1 : Nat) : Int)).map V.int)) → Q (.ref D) H') :
    tLc (iList K (tVar 7)) (gName 6) tYes (tCB (Evl.rLenS K) (tCons (tDGet (tVar 5) (tVar 6)) tNil)) [6] [v0, v1, v2, v3, v4, some (.ref d), v6, some (.ref bs), v8, v9, v10, v11, v12, v13, v14] H Q := by
  refine ⟨_, rfl, bs, rfl, ⟨_, SqL.of hb⟩, fun D nD => ?_⟩
  have sD := Same.new (o := .lst []) nD
  refine lc_list (K := K) (a := bs) (xs := vs) (fun i H' => Same H H' ∧ H' D = some (.lst (((lw.take i).map fun q => ((q.length + 1 : Nat) : Int)).map V.int)))
    ⟨sD, upd_same⟩ (fun i H' _ p => SqL.of (p.1 _ _ hb)) ?_ ?_
  · rintro k v H1 hv ⟨s1, hD⟩
    have a1 := a.mv s1
    obtain ⟨p, n, rfl, hn, hp⟩ := (hT.tk (Same.tk s1)).get hv
    rw [List.getElem?_map] at hn
    obtain ⟨w, hlw, rfl⟩ := Option.map_eq_some_iff.mp hn
    obtain ⟨L, ls, hg, hL, hTL, hlen⟩ := a1.get (hin w (List.mem_of_getElem? hlw)) hp
    refine ⟨rfl, ?_⟩
    refine ⟨_, rfl, _, rfl, d, _, rfl, hg, L, ls, rfl, .inl (SqL.of hL), _, hD, ?_, Same.wr s1 nD, ?_⟩
    · rw [List.length_map, List.length_map, List.length_take]
      exact szt (by omega)
    · rw [upd_same, List.take_add_one, hlw, hlen, List.map_append, List.map_append]
      rfl
  · rintro H1 ⟨s1, hD⟩
    have e : vs.length = lw.length := by
      have := hT.len
      rw [List.length_map] at this
      exact this
    rw [e, List.take_length] at hD
    exact q H1 D s1 hD
theorem if_var {c : Bool} {i j : Nat} {σ : L2.St} {H : Hp} {Q : VK} {x y : Addr} (hi : σ[i]? = some (some (.ref x))) (hj : σ[j]? = some (some (.ref y))) (q : Q (.ref (if c = true then x else y)) H) : if c = true then tVar i σ H Q else tVar j σ H Q := by
  cases c with
  | true => exact ⟨_, hi, q⟩
  | false => exact ⟨_, hj, q⟩
section
variable {P : Program} {w : World} {K : PySem.W.Frag} {mg : Str → Option Value} {base : Heap}
def spLaw (K : PySem.W.Frag) : Sp := fun vs H Q _ => ∃ (a : Addr) (ns : List Int), vs = [.ref a] ∧ SqL K H a (ns.map V.int) ∧ Only H ∧ ∀ H', Q (.bl true) H'
theorem ok_law (T : Top K mg) {f : Addr} {fd : FuncData} (Fn : Fun K "law" "law" s_law f fd) : FnOk P w K mg base CX0 9 f fd ["_law_script"] (spLaw K) := by
  refine Fn.ok sc_law (fun vs H Q E h => ?_) (fun cdv A outer s H vs Q E hr h => ?_)
  · obtain ⟨a, ns, rfl, _⟩ := h
    rfl
  · obtain ⟨a, ns, rfl, hS, hO, q⟩ := h
    refine ⟨_, pss_cons (ps_set (i := 1) sc_law.nd rfl (.inl rfl) (pe_lst (pa_cons (pv 0) (pa_cons pe_int (pa_cons pe_int (pa_cons pe_int pa_nil))))))
      (pss_cons (ps_set (i := 2) sc_law.nd rfl (.inr rfl) (pe_c (c_law_state T) hr (by decide) (by rfl) (pa_cons (pv 1) (pa_cons pe_int pa_nil))))
      (pss_cons (ps_set (i := 3) sc_law.nd rfl (.inl rfl) (pe_c (c_law_shuts T) hr (by decide) (by rfl) (pa_cons (pv 1) (pa_cons (pv 2) (pa_cons (pe_op op_mul pe_int (pe_ix ix_tup (pe_c (c_law_pair T) hr (by decide) (by rfl) (pa_cons (pv 2) pa_nil)) pe_int (fun _ _ => rfl))) pa_nil)))))
      (pss_cons (ps_set (i := 4) sc_law.nd rfl (.inl rfl) (pe_c (c_law_field T) hr (by decide) (by rfl) (pa_cons (pv 2) (pa_cons (pv 3) pa_nil))))
      (pss_cons (ps_set (i := 5) sc_law.nd rfl (.inr rfl) pe_dnewT)
      (pss_cons (ps_for PassesOwn.never rfl (pi_list (pv 4)) (pg_name (i := 6) sc_law.nd rfl (.inl rfl))
              (pss_one (ps_dput (du0 (n := 1) hr (by decide)) (pv 5) (pv 6) (pe_c (c_law_line T) hr (by decide) (by rfl) (pa_cons (pv 6) pa_nil)) (by rfl))))
      (pss_cons (ps_setLc (i := 7) (own := [("_law_here", 6)]) (g := gName 6) (tt := tIn K 2) rfl sc_law.nd rfl (by rfl) (by rfl) (pi_list (pv 4)) (blkOk_by (own := [("_law_here", 6)]) (N := n_law) (sc := defScope s_law) (by decide +kernel))
                (fun _ _ _ _ _ => pg_name (i := 6) sc_law.nd rfl (.inl rfl)) (fun _ _ _ _ _ => pts_one (pt_cmpR (r := rInT K (Tup Int)) (op_inT (du hr (by decide))) (pv 2) (pe_dget (du0 (n := 1) hr (by decide)) (pv 5) (pv 6) (fun _ _ => rfl)) (by rfl)))
                (fun _ _ _ _ _ => pv 6))
      (pss_cons (ps_set (i := 8) sc_law.nd rfl (.inl rfl) (pe_callB cr_lenS (by rfl) T.z_len PySem.boot_len (pa_cons (pe_dget (du0 (n := 1) hr (by decide)) (pv 5) (pv 2) (fun _ _ => rfl)) pa_nil)))
      (pss_cons (ps_if (pt_not (pt_val (pe_c (c_law_alike T) hr (by decide) (by rfl) (pa_cons (pe_c (c_behind_within T) hr (by decide) (by rfl) (pa_cons (pv 2) (pa_cons (pv 3) pa_nil))) (pa_cons (pe_callB cr_lenS (by rfl) T.z_len PySem.boot_len (pa_cons (pv 7) pa_nil)) pa_nil))))) (pss_one (ps_ret pe_bl)) pss_nil)
      (pss_cons (ps_if (pt_not (pt_val (pe_c (c_law_alike T) hr (by decide) (by rfl) (pa_cons (pe_c (c_leaps_inside T) hr (by decide) (by rfl) (pa_cons (pv 2) (pa_cons (pv 3) pa_nil))) (pa_cons (pe_op op_sub
                (pe_callB (cr_max rfl) (by rfl) T.z_max (by decide +kernel) (pa_cons (pe_lc (own := [("_law_here", 6)]) (g := gName 6) (tt := tYes) rfl sc_law.nd (pi_list (pv 7)) (blkOk_by (own := [("_law_here", 6)]) (N := n_law) (sc := defScope s_law) (by decide +kernel))
                  (fun _ _ _ _ _ => pg_name (i := 6) sc_law.nd rfl (.inl rfl)) (fun _ _ _ _ _ => pts_nil)
                  (fun _ _ _ _ _ => pe_callB (r := Evl.rLenS K) cr_lenS (by rfl) T.z_len PySem.boot_len (pa_cons (pe_dget (du0 (n := 1) hr (by decide)) (pv 5) (pv 6) (fun _ _ => rfl)) pa_nil))) pa_nil)) (pv 8)) pa_nil))))) (pss_one (ps_ret pe_bl)) pss_nil)
      (pss_cons (ps_for PassesOwn.never rfl (pi_list (pe_c (c_law_leaps T) hr (by decide) (by rfl) (pa_cons (pv 2) pa_nil))) (pg_tup (n := 2) rfl (pgs_cons (pg_name (i := 10) sc_law.nd rfl (.inl rfl)) (pgs_cons (pg_name (i := 11) sc_law.nd rfl (.inl rfl)) pgs_nil)))
              (pss_cons (ps_set (i := 12) sc_law.nd rfl (.inl rfl) (pe_c (c_law_leapt T) hr (by decide) (by rfl) (pa_cons (pv 2) (pa_cons (pv 10) (pa_cons (pv 11) pa_nil)))))
              (pss_one (ps_if (pt_cmp (pc_din (du0 (n := 1) hr (by decide)) (pv 12) (pv 5)))
                (pss_cons (ps_set (i := 13) sc_law.nd rfl (.inr rfl) (pe_ifExp (pt_cmpR op_gt (pe_callB cr_lenS (by rfl) T.z_len PySem.boot_len (pa_cons (pe_dget (du0 (n := 1) hr (by decide)) (pv 5) (pv 12) (fun _ _ => rfl)) pa_nil)) (pe_callB cr_lenS (by rfl) T.z_len PySem.boot_len (pa_cons (pe_dget (du0 (n := 1) hr (by decide)) (pv 5) (pv 2) (fun _ _ => rfl)) pa_nil)) (nomark _)) (pv 12) (pv 2)))
                (pss_cons (ps_set (i := 14) sc_law.nd rfl (.inl rfl) (pe_callB cr_lenS (by rfl) T.z_len PySem.boot_len (pa_cons (pe_lc (own := [("_law_here", 6)]) (g := gName 6) (tt := tIn K 13) rfl sc_law.nd (pi_list (pv 4)) (blkOk_by (own := [("_law_here", 6)]) (N := n_law) (sc := defScope s_law) (by decide +kernel))
                  (fun _ _ _ _ _ => pg_name (i := 6) sc_law.nd rfl (.inl rfl)) (fun _ _ _ _ _ => pts_one (pt_cmpR (r := rInT K (Tup Int)) (op_inT (du hr (by decide))) (pv 13) (pe_dget (du0 (n := 1) hr (by decide)) (pv 5) (pv 6) (fun _ _ => rfl)) (by rfl)))
                  (fun _ _ _ _ _ => pv 6)) pa_nil)))
                (pss_one (ps_if (pt_not (pt_val (pe_c (c_law_alike T) hr (by decide) (by rfl) (pa_cons (pe_c (c_ways_over T) hr (by decide) (by rfl) (pa_cons (pv 2) (pa_cons (pv 10) (pa_cons (pv 11) (pa_cons (pv 3) pa_nil)))))
                  (pa_cons (pe_op op_mul (pv 14) (pe_op op_sub (pe_callB cr_lenS (by rfl) T.z_len PySem.boot_len (pa_cons (pv 4) pa_nil)) (pv 14))) pa_nil))))) (pss_one (ps_ret pe_bl)) pss_nil)))) pss_nil))))
      (pss_cons (ps_set (i := 9) sc_law.nd rfl (.inl rfl) (pe_c (c_law_pick T) hr (by decide) (by rfl) (pa_cons (pv 1) (pa_cons (pe_lst (pa_cons (pe_c (c_law_pick T) hr (by decide) (by rfl) (pa_cons (pv 1) (pa_cons (pv 4) pa_nil)))
                (pa_cons (pe_c (c_law_walk T) hr (by decide) (by rfl) (pa_cons (pv 1) (pa_cons (pv 2) (pa_cons pe_int pa_nil)))) pa_nil))) pa_nil))))
      (pss_one (ps_ret (pe_c (c_law_alike T) hr (by decide) (by rfl) (pa_cons (pe_c (c_is_behind T) hr (by decide) (by rfl) (pa_cons (pv 9) (pa_cons (pv 2) pa_nil)))
                (pa_cons (pe_cmpR (op_inT (α := Tup Int) (du hr (by decide))) (pv 2) (pe_c (c_law_line T) hr (by decide) (by rfl) (pa_cons (pv 9) pa_nil)) (by rfl)) pa_nil)))))))))))))))), ?_⟩
    refine ⟨_, rfl, (by show 4 ≤ sizeLine; decide), fun r nr => ?_⟩
    have s0 := Same.new (o := .lst [V.ref a, V.int 0, V.int 4843, V.int 0]) nr
    have R0 : Row K (upd H r (.lst [V.ref a, V.int 0, V.int 4843, V.int 0])) r ns := by
      refine ⟨a, 0, 4843, 0, upd_same, Int.le_refl _, ?_⟩
      rcases hS with (e | ⟨o, e⟩) | e
      · rcases hO a with z | ⟨o, xs, z⟩
        · rw [z] at e
          cases e
        · rw [z] at e
          cases e
      · exact .inl ⟨o, s0 _ _ e⟩
      · exact .inr fun H' => .inr e
    refine ⟨_, rfl, r, ns, 5, rfl, R0, by decide, fun H1 t h g o u s1 R1 S1 hl5 => ?_⟩
    have g1 := S1.g1
    have g2 := S1.g2
    refine ⟨_, rfl, _, rfl, _, rfl, t, h, g, o, u, rfl, S1, fun H2 pp rr s2 hpp => ?_⟩
    refine ⟨pp, _, _, _, rfl, rfl, .inl (.inl hpp), atI_nat (j := 1) rfl, _, _, rfl, rfl, .inl ⟨by decide, by decide⟩, ?_⟩
    have S2 := S1.mv s2
    refine ⟨r, t, ns, _, _, _, _, _, rfl, R1.mv s2, S2.tr, S2.oo, S2.lt1, S2.lt2, by omega, by omega, fun H3 t2 e0 e1 s3 R3 ht2 b0 b1 b2 b3 => ?_⟩
    have S3 := S2.tk ((R1.mv s2).tk s3)
    obtain ⟨W, B, L3, hu3⟩ := shuts_ok S3 hl5 b0 b1 b2 b3 ht2
    clear s1 s2 s3 b0 b1 b2 b3 ht2 hpp S2 S1 R1 R0 s0
    generalize px h g u - e0 = w0 at L3
    generalize pz h g u + e1 = w1 at L3
    refine ⟨_, rfl, _, rfl, t, t2, h, g, o, u, w0, w1, W, B, rfl, S3, L3, hu3, fun H4 F us l s4 nF hF hT hP => ?_⟩
    have hFr : F ≠ r := R3.ne nF
    have R4 := R3.mv s4
    have S4 := S3.mv s4
    have L4 := L3.mv s4
    have hln : us.length = l.length := by
      have := hT.len
      rw [List.length_map] at this
      exact this
    have few : l.length ≤ 400 := by
      rw [hP.length_eq]
      exact few_of (t := t) (o := o) L4 hu3
    clear s4 nF S3 L3 R3
    refine fun d nd => ?_
    have s5 := Same.new (o := .dT []) nd
    refine ⟨_, rfl, F, rfl, ⟨_, SqL.of (s5 _ _ hF)⟩, for_list (K := K) (a := F) (xs := us) (fun i σ H' => ∃ (v6 : Option V) (kvs : List (List Key × V)), σ = [some (.ref a), some (.ref r), some (.ref t), some (.ref t2), some (.ref F), some (.ref d), v6, none, none, none, none, none, none, none, none] ∧ Same H4 H' ∧
        H' d = some (.dT kvs) ∧ LD H' kvs h g o (l.take i) ∧ kvs.length ≤ i) ⟨none, [], rfl, s5, upd_same, fun w => ⟨fun z => (nomatch z), fun _ => rfl⟩, Nat.le_refl _⟩ (fun i σ H' _ p => by obtain ⟨_, _, _, s, _⟩ := p; exact SqL.of (s _ _ hF)) ?_ ?_⟩
    · rintro i v σ H5 hv ⟨v6, kvs, rfl, s6, hd, hLD, hk⟩
      have hil : i < us.length := (List.getElem?_eq_some_iff.mp hv).1
      obtain ⟨p, n, rfl, hn, hp⟩ := (hT.tk (Same.tk s6)).get hv
      rw [List.getElem?_map] at hn
      obtain ⟨x, hlx, rfl⟩ := Option.map_eq_some_iff.mp hn
      have hx : inb W B x = true := P_inb _ _ (hP.mem_iff.mp (List.mem_of_getElem? hlx))
      have hb := inb_iff.mp hx
      have mW := L4.mW
      have mB := L4.mB
      refine ⟨_, rfl, p, h, g, o, x, rfl, ⟨hp, S4.ho, S4.g1, S4.g2, S4.h1, S4.h2, by omega, by omega⟩, fun H6 q6 us6 s7 n7 hq6 hT6 => ?_⟩
      have hd6 := s7 _ _ hd
      refine ⟨_, rfl, _, rfl, d, _, rfl, DPut.t (k := kT (st h g o x)) hd6 (kT_at (hp.mv s7)) (szt (by omega)), ?_⟩
      have hk2 := length_putK kvs (kT (st h g o x)) (.ref q6)
      refine ⟨_, _, rfl, Same.wr (Same.trans s6 s7) nd, upd_same, ?_, by omega⟩
      rw [List.take_add_one, hlx]
      exact (hLD.mv s7).put S4.g1 S4.ho hd6 ⟨q6, us6, rfl, hq6, hT6⟩
    rintro σ H5 ⟨v6, kvs, rfl, s6, hd, hLD, -⟩
    rw [hln, List.take_length] at hLD
    have R5 := R4.mv s6
    have A5 : LS H5 t t2 F d h g o u w0 w1 W B us l kvs := ⟨S4.mv s6, L4.mv s6, hu3, s6 _ _ hF, hT.tk (Same.tk s6), hP, hd, hLD⟩
    clear s5 s6 hd hLD nd R4 S4 L4 hT hF
    -- the words behind
    change tSeq (tAsg (tLc (iList K (tVar 4)) (gName 6) (tIn K 2) (tVar 6) [6]) (gName 7)) _ _ [some (.ref a), some (.ref r), some (.ref t), some (.ref t2), some (.ref F), some (.ref d), v6, none, none, none, none, none, none, none, none] H5
    refine cnt_lc (Q := fun x H1 => gName 7 x _ H1 _) A5 A5.S.it (i := 2) (fun _ => rfl) fun H6 bs vs s7 hbs hTb => ?_
    have A6 := A5.mv s7
    have R6 := R5.mv s7
    obtain ⟨Lu, ls, gu, hLu, hTu, lenu⟩ := A6.get A6.mem A6.S.it
    refine ⟨_, rfl, _, rfl, d, _, rfl, gu, Lu, ls, rfl, .inl (SqL.of hLu), ?_⟩
    rw [lenu]
    have cnt := A6.cnt A6.hu
    have lb : vs.length = (l.filter (anc u)).length := by
      have := hTb.len
      rw [List.length_map] at this
      exact this
    have szu : ((l.filter (anc u)).length : Int) = sz W B u := by
      rw [cnt.length_eq]
      rfl
    refine ⟨_, rfl, _, rfl, t, t2, h, g, o, u, w0, w1, W, B, rfl, A6.S, A6.L, A6.hu, fun H7 s8 => ?_⟩
    have hbs7 := s8 _ _ hbs
    refine ⟨_, rfl, bs, vs, rfl, .inl (SqL.of hbs7), .inl ⟨sz W B u, by rw [lb, szu]⟩, fun H8 s9 => ⟨true, rfl, iteF ?_⟩⟩
    have s89 := Same.trans s8 s9
    have A8 := A6.mv s89
    have R8 := R6.mv s89
    have hbs8 := s9 _ _ hbs7
    have hTb8 := hTb.tk (Same.tk s89)
    clear s8 s9 s89 hbs7 hTb hbs hTu hLu gu
    refine ⟨_, rfl, _, rfl, t, t2, h, g, o, u, w0, w1, W, B, rfl, A8.S, A8.L, A8.hu, fun H9 s10 => ?_⟩
    have A9 := A8.mv s10
    have R9 := R8.mv s10
    have few2 : (l.filter (anc u)).length ≤ 400 := Nat.le_trans (List.length_filter_le _ _) few
    change tCons (tOp (rI0 fun i j => .int (i - j)) (tCB (rMax K) (tCons (tLc (iList K (tVar 7)) (gName 6) tYes (tCB (Evl.rLenS K) (tCons (tDGet (tVar 5) (tVar 6)) tNil)) [6]) tNil)) (tVar 8)) tNil _ _ _
    refine len_lc (K := K) (Q := fun x H1 => tNil _ H1 fun xs H2 => rMax K (x :: xs) H2 fun m H3 => tVar 8 _ H3 fun y H4 => rI0 (fun i j => .int (i - j)) m y H4 _) A9 (s10 _ _ hbs8) (hTb8.tk (Same.tk s10)) (fun w hw => (List.mem_filter.mp hw).1) few2 fun H10 D s11 hD => ?_
    have pos : 0 < (l.filter (anc u)).length := List.length_pos_of_mem (List.mem_filter.mpr ⟨A9.mem, anc_iff.mpr (List.suffix_refl u)⟩)
    refine ⟨D, _, rfl, SqL.of hD, by rw [List.length_map]; exact pos, fun m hm hle => ?_⟩
    have hm2 := hgt_max cnt hm hle
    refine ⟨_, rfl, _, _, rfl, rfl, .inl ⟨hgt W B u, by rw [← hm2]⟩, fun H11 s12 => ⟨true, rfl, iteF ?_⟩⟩
    have s13 := Same.trans (Same.trans s10 s11) s12
    have A11 := A8.mv s13
    have R11 := R8.mv s13
    clear s10 s11 s12 s13 A9 R9 hD hm hle hm2
    -- the leaps
    refine ⟨_, rfl, t, _, _, _, _, rfl, A11.S.tr, A11.S.oo, A11.S.lt1, A11.S.lt2, fun H12 lp lus ds s14 hlp hTd hds => ?_⟩
    refine ⟨lp, rfl, ⟨_, SqL.of hlp⟩, for_list (K := K) (a := lp) (xs := lus) (fun i σ H' => ∃ v6 v10 v11 v12 v13 v14 : Option V, σ = [some (.ref a), some (.ref r), some (.ref t), some (.ref t2), some (.ref F), some (.ref d), v6, some (.ref bs), some (.int ((u.length + 1 : Nat) : Int)), none, v10, v11, v12, v13, v14] ∧ Same H12 H')
      ⟨_, none, none, none, none, none, rfl, Same.refl H12⟩ (fun i σ H' _ p => by obtain ⟨_, _, _, _, _, _, _, s⟩ := p; exact SqL.of (s _ _ hlp)) ?_ ?_⟩
    · rintro i0 v σ H13 hv ⟨v6, v10, v11, v12, v13, v14, rfl, s15⟩
      have A13 := (A11.mv s14).mv s15
      obtain ⟨tt, n, rfl, hn, htt⟩ := (hTd.tk (Same.tk s15)).get hv
      rw [List.getElem?_map] at hn
      obtain ⟨pp, hpp, rfl⟩ := Option.map_eq_some_iff.mp hn
      have hmem := hds pp (List.mem_of_getElem? hpp)
      obtain ⟨i, j, ca, cb, x, dd, rfl, hai, hbj, est, nb, edd⟩ := leap_word A13.S.g1 A13.S.ho u hmem
      refine ⟨tt, _, rfl, htt.sq, rfl, _, _, rfl, _, _, rfl, rfl, ?_⟩
      refine ⟨_, rfl, _, rfl, _, rfl, t, _, i, j, ca, cb, rfl, A13.S.it, hai, hbj, fun H14 tv s16 htv => ?_⟩
      rw [est] at htv
      have A14 := A13.mv s16
      have s1416 := Same.trans s15 s16
      by_cases hx : x ∈ l
      · obtain ⟨Lv, vls, gv, hLv, _, lenv⟩ := A14.get hx htv
        obtain ⟨Lu2, uls, gu, hLu2, _, lenu2⟩ := A14.get A14.mem A14.S.it
        refine ⟨_, rfl, _, rfl, d, _, rfl, gv, true, rfl, iteT ?_⟩
        refine ⟨_, rfl, _, rfl, d, _, rfl, gv, Lv, vls, rfl, .inl (SqL.of hLv), _, rfl, _, rfl, d, _, rfl, gu, Lu2, uls, rfl, .inl (SqL.of hLu2), _, _, rfl, rfl, _, rfl, if_var rfl rfl ?_⟩
        have htx : IT H14 (if decide ((vls.length : Int) > (uls.length : Int)) = true then tv else t) (st h g o dd) := by
          rw [edd]
          by_cases c : x.length > u.length
          · rw [if_pos c, if_pos (decide_eq_true (by omega))]
            exact htv
          · rw [if_neg c, if_neg (by rw [decide_eq_false (by omega)]; decide)]
            exact A14.S.it
        have hxb := A14.inw hx
        have hdb : inb W B dd = true := by
          rw [edd]
          split
          · exact hxb
          · exact A14.hu
        have szd : ((l.filter (anc dd)).length : Int) = sz W B dd := by
          rw [(A14.cnt hdb).length_eq]
          rfl
        change tSeq (tAsg (tCB (Evl.rLenS K) (tCons (tLc (iList K (tVar 4)) (gName 6) (tIn K 13) (tVar 6) [6]) tNil)) (gName 14)) _ _ [some (.ref a), some (.ref r), some (.ref t), some (.ref t2), some (.ref F), some (.ref d), v6, some (.ref bs), some (.int ((u.length + 1 : Nat) : Int)), none, some (.int (i : Int)), some (.int (j : Int)), some (.ref tv), some (.ref (if decide ((vls.length : Int) > (uls.length : Int)) = true then tv else t)), v14] H14
        refine cnt_lc (Q := fun x H1 => tNil _ H1 fun xs H2 => Evl.rLenS K (x :: xs) H2 fun y H3 => gName 14 y _ H3 _) A14 htx (i := 13) (fun _ => rfl) fun H15 D2 vs2 s17 hD2 hTD => ?_
        have A15 := A14.mv s17
        have lv2 : (vs2.length : Int) = sz W B dd := by
          have := hTD.len
          rw [List.length_map] at this
          rw [this, szd]
        have lu2 : (us.length : Int) = ((LR.P W B []).length : Int) := by rw [hln, hP.length_eq]
        have szb : 0 ≤ sz W B dd ∧ sz W B dd ≤ 400 := by
          have := List.length_filter_le (anc dd) l
          omega
        refine ⟨D2, vs2, rfl, .inl (SqL.of hD2), ?_⟩
        refine ⟨_, rfl, _, rfl, _, rfl, _, rfl, t, t2, h, g, o, u, x, dd, w0, w1, W, B, i, j, ca, cb, rfl, A15.S, A15.L, A15.hu, hxb, nb, hmem, hai, hbj, est, fun H16 s18 => ?_⟩
        refine ⟨_, rfl, _, rfl, F, us, rfl, .inl (SqL.of (s18 _ _ A15.eF)), _, rfl, _, _, rfl, rfl, _, _, rfl, rfl, .inl ⟨by omega, by omega⟩, .inl ⟨sz W B dd * (((LR.P W B []).length : Int) - sz W B dd), ?_⟩, fun H17 s19 => ⟨true, rfl, iteF ?_⟩⟩
        · rw [lv2, lu2]
        · exact ⟨_, _, _, _, _, _, rfl, Same.trans (Same.trans s1416 s17) (Same.trans s18 s19)⟩
      · refine ⟨_, rfl, _, rfl, d, _, rfl, DGet.t (k := kT (st h g o x)) A14.ed (kT_at htv), false, by rw [(A14.ld x).2 hx]; rfl, iteF ?_⟩
        exact ⟨_, _, _, _, _, _, rfl, s1416⟩
    rintro σ H13 ⟨v6, v10, v11, v12, v13, v14, rfl, s15⟩
    have A13 := (A11.mv s14).mv s15
    have R13 := (R11.mv s14).mv s15
    clear A11 R11 s14 s15 hlp hTd
    have lpos : 0 < us.length := by
      rw [hln]
      exact List.length_pos_of_mem A13.mem
    refine ⟨_, rfl, _, rfl, _, rfl, r, F, ns, us, rfl, R13, A13.eF, hFr, lpos, by omega, fun H14 k x s16 R14 hx => ?_⟩
    obtain ⟨p, wv, rfl, _, hwv, hp⟩ := A13.at hx
    have k14 := R13.tk s16
    have S14 := A13.S.tk k14
    have P14 := (A13.ok hwv hp).tk k14
    refine ⟨_, rfl, _, rfl, r, t, ns, h, g, o, u, 4, rfl, R14, S14, by omega, fun H15 p2 w2 s17 R15 S15 hl2 => ?_⟩
    have k15 := R14.tk s17
    refine ⟨(by show 2 ≤ sizeLine; decide), fun L nL => ?_⟩
    have s18 := Same.new (o := .lst [V.ref p, V.ref p2]) nL
    have R16 := R15.mv s18
    refine ⟨r, L, ns, _, rfl, R16, upd_same, R15.ne nL, (by show 0 < 2; decide), (by show 2 < 1000; decide), fun H17 k2 x2 s19 R17 hx2 => ?_⟩
    have k17 := R16.tk s19
    have S17 := ((S14.tk k15).mv s18).tk k17
    obtain ⟨pz, vz, rfl, Z17⟩ : ∃ pz vz, x2 = .ref pz ∧ StOk H17 pz h g o vz := by
      have hk2 : k2 < 2 := (List.getElem?_eq_some_iff.mp hx2).1
      match k2, hk2, hx2 with
      | 0, _, hx2 => exact ⟨p, wv, (Option.some.inj hx2).symm, ((P14.tk k15).mv s18).tk k17⟩
      | 1, _, hx2 => exact ⟨p2, w2, (Option.some.inj hx2).symm, (S15.mv s18).tk k17⟩
    refine ⟨_, rfl, _, rfl, pz, t, h, g, o, vz, u, rfl, Z17, S17, fun H18 s20 => ?_⟩
    refine ⟨_, rfl, _, rfl, pz, h, g, o, vz, rfl, Z17.mv s20, fun H19 qq us19 s21 _ hqq hT19 => ?_⟩
    have S19 := (S17.mv s20).mv s21
    refine ⟨qq, us19, Tup.mk (st h g o u), _, rfl, SqL.of hqq, hT19.dvs, dv_tup S19.it.sq (dvs_ints _), .inr ⟨decide (u <:+ vz), ?_⟩, fun H20 s22 => q H20⟩
    rw [in_line S19.g1 S19.ho]
    rfl
end
end LR

/-! What the top has written, def by def, and the end. Printed by gen_end.py. -/
namespace LR
open PySem PySem.Spec PyProof.Rows L2
theorem dfn_mk {K : PySem.W.Frag} {h : Heap} {mg : Str → Option Value} {x : Str} {st : Stmt} {ps : List Str} {f : Addr} {oc : Value} {od an : Option Addr} {osl : Array (Option Value)} {kV doc pm cdv ct : Value} (X : K.In h) (G : h.Ns mainGlobals mg)
    (hb : ∀ (kV doc pm : Value) (an : Option Addr) (cdv ct : Value) (us : List Value), us.length = ps.length → bindArgs (PySem.W.fnOf x x (defArgs st) (defBody st) (defScope st) .none kV doc pm an cdv ct) ⟨us, []⟩ = pure (ps.zip us))
    (a : PySem.W.nsIn K mainGlobals x = some (some (.ref f))) (l : K.lookup f = some ⟨oc, od, .func (PySem.W.fnOf x x (defArgs st) (defBody st) (defScope st) .none kV doc pm an cdv ct), osl⟩)
    (c : PySem.W.codeIn K cdv x = true) (k : PySem.W.keepIn K (.ref f) = true) : Dfn K mg x st ps :=
  ⟨f, _, fun_mk l c k, PySem.W.mg_of X G a, (fun_mk (st := st) l c k).binds hb⟩
theorem lit_int {h : Heap} {v : Value} {n : Int} (r : PySem.W.ReadsLit h v (.int n) []) : RelV (.int n) v := by
  cases r
  exact ⟨_, rfl⟩
theorem walk {l : PySem.W.OpenLaw} {q : Program} {loose : List Str} {lv : List (Str × PySem.W.WData)} {YP : World → Heap → Prop} {d : DefRec} {K : Params → PySem.W.Frag} (hn : l.most = some 63) (hdf : d.params.defaults = [])
    (hY : ∀ (w : World) (h : Heap), YP w h → (K w.params).In h)
    (F : ∀ (w : World) (mg : Str → Option Value) (fa : Addr) (h : Heap), (K w.params).In h → h.Ns mainGlobals mg → PySem.W.LooseAre lv mg h → mg d.name = some (.ref fa) →
      ∃ fd : FuncData, (∀ (s : Shared) (u : Value), BindsTo s fd ⟨[u], []⟩ [("_law_script", u)]) ∧ ∀ base : Heap, (K w.params).In base → base.Ns mainGlobals mg → FnOk l.prog w (K w.params) mg base CX0 9 fa fd ["_law_script"] (spLaw (K w.params))) :
    PySem.W.WalkO q loose (PySem.W.XL q lv) YP l.row.toRowW d [] (fun f vs => PySem.call f vs) := by
  refine Att.attach_call hn hdf fun w s0 s1 mg mb fa ob pm cd doc a vs ns G Y ho hd hcd hmg hobj hints hlen hg => ?_
  have KX := hY w _ Y
  obtain ⟨fd, hb, hF⟩ := F w mg fa _ KX G.T.g G.X.2 hmg
  exact law_call KX G.T.g G.T.b G.T.builtins G.T.nolimit hg hobj hints (Nat.le_trans hlen (by decide)) ⟨rfl, by decide, by decide⟩ hF hb (fun H hO hS => ⟨a, ns, rfl, hS, hO, fun _ => rfl⟩) fun H e s' z => z
theorem bd_is_int : ∀ (kV doc pm : Value) (an : Option Addr) (cdv ct : Value) (us : List Value), us.length = (["value"] : List Str).length → bindArgs (PySem.W.fnOf "is_int" "is_int" (defArgs s_is_int) (defBody s_is_int) (defScope s_is_int) .none kV doc pm an cdv ct) ⟨us, []⟩ = pure ((["value"] : List Str).zip us) :=
  fun _ _ _ _ _ _ us hl => match us, hl with | [_], _ => rfl
theorem bd_is_in : ∀ (kV doc pm : Value) (an : Option Addr) (cdv ct : Value) (us : List Value), us.length = (["value", "least", "most"] : List Str).length → bindArgs (PySem.W.fnOf "is_in" "is_in" (defArgs s_is_in) (defBody s_is_in) (defScope s_is_in) .none kV doc pm an cdv ct) ⟨us, []⟩ = pure ((["value", "least", "most"] : List Str).zip us) :=
  fun _ _ _ _ _ _ us hl => match us, hl with | [_, _, _], _ => rfl
theorem bd_is_state : ∀ (kV doc pm : Value) (an : Option Addr) (cdv ct : Value) (us : List Value), us.length = (["value"] : List Str).length → bindArgs (PySem.W.fnOf "is_state" "is_state" (defArgs s_is_state) (defBody s_is_state) (defScope s_is_state) .none kV doc pm an cdv ct) ⟨us, []⟩ = pure ((["value"] : List Str).zip us) :=
  fun _ _ _ _ _ _ us hl => match us, hl with | [_], _ => rfl
theorem bd_need_state : ∀ (kV doc pm : Value) (an : Option Addr) (cdv ct : Value) (us : List Value), us.length = (["value"] : List Str).length → bindArgs (PySem.W.fnOf "need_state" "need_state" (defArgs s_need_state) (defBody s_need_state) (defScope s_need_state) .none kV doc pm an cdv ct) ⟨us, []⟩ = pure ((["value"] : List Str).zip us) :=
  fun _ _ _ _ _ _ us hl => match us, hl with | [_], _ => rfl
theorem bd_order_of : ∀ (kV doc pm : Value) (an : Option Addr) (cdv ct : Value) (us : List Value), us.length = (["state"] : List Str).length → bindArgs (PySem.W.fnOf "order_of" "order_of" (defArgs s_order_of) (defBody s_order_of) (defScope s_order_of) .none kV doc pm an cdv ct) ⟨us, []⟩ = pure ((["state"] : List Str).zip us) :=
  fun _ _ _ _ _ _ us hl => match us, hl with | [_], _ => rfl
theorem bd_common : ∀ (kV doc pm : Value) (an : Option Addr) (cdv ct : Value) (us : List Value), us.length = (["one", "other"] : List Str).length → bindArgs (PySem.W.fnOf "common" "common" (defArgs s_common) (defBody s_common) (defScope s_common) .none kV doc pm an cdv ct) ⟨us, []⟩ = pure ((["one", "other"] : List Str).zip us) :=
  fun _ _ _ _ _ _ us hl => match us, hl with | [_, _], _ => rfl
theorem bd_gaps_of : ∀ (kV doc pm : Value) (an : Option Addr) (cdv ct : Value) (us : List Value), us.length = (["state"] : List Str).length → bindArgs (PySem.W.fnOf "gaps_of" "gaps_of" (defArgs s_gaps_of) (defBody s_gaps_of) (defScope s_gaps_of) .none kV doc pm an cdv ct) ⟨us, []⟩ = pure ((["state"] : List Str).zip us) :=
  fun _ _ _ _ _ _ us hl => match us, hl with | [_], _ => rfl
theorem bd_middle_of : ∀ (kV doc pm : Value) (an : Option Addr) (cdv ct : Value) (us : List Value), us.length = (["state"] : List Str).length → bindArgs (PySem.W.fnOf "middle_of" "middle_of" (defArgs s_middle_of) (defBody s_middle_of) (defScope s_middle_of) .none kV doc pm an cdv ct) ⟨us, []⟩ = pure ((["state"] : List Str).zip us) :=
  fun _ _ _ _ _ _ us hl => match us, hl with | [_], _ => rfl
theorem bd_grain_of : ∀ (kV doc pm : Value) (an : Option Addr) (cdv ct : Value) (us : List Value), us.length = (["state"] : List Str).length → bindArgs (PySem.W.fnOf "grain_of" "grain_of" (defArgs s_grain_of) (defBody s_grain_of) (defScope s_grain_of) .none kV doc pm an cdv ct) ⟨us, []⟩ = pure ((["state"] : List Str).zip us) :=
  fun _ _ _ _ _ _ us hl => match us, hl with | [_], _ => rfl
theorem bd_pair_of : ∀ (kV doc pm : Value) (an : Option Addr) (cdv ct : Value) (us : List Value), us.length = (["state"] : List Str).length → bindArgs (PySem.W.fnOf "pair_of" "pair_of" (defArgs s_pair_of) (defBody s_pair_of) (defScope s_pair_of) .none kV doc pm an cdv ct) ⟨us, []⟩ = pure ((["state"] : List Str).zip us) :=
  fun _ _ _ _ _ _ us hl => match us, hl with | [_], _ => rfl
theorem bd_leaps_of : ∀ (kV doc pm : Value) (an : Option Addr) (cdv ct : Value) (us : List Value), us.length = (["state"] : List Str).length → bindArgs (PySem.W.fnOf "leaps_of" "leaps_of" (defArgs s_leaps_of) (defBody s_leaps_of) (defScope s_leaps_of) .none kV doc pm an cdv ct) ⟨us, []⟩ = pure ((["state"] : List Str).zip us) :=
  fun _ _ _ _ _ _ us hl => match us, hl with | [_], _ => rfl
theorem bd_leapt_to : ∀ (kV doc pm : Value) (an : Option Addr) (cdv ct : Value) (us : List Value), us.length = (["state", "stone", "over"] : List Str).length → bindArgs (PySem.W.fnOf "leapt_to" "leapt_to" (defArgs s_leapt_to) (defBody s_leapt_to) (defScope s_leapt_to) .none kV doc pm an cdv ct) ⟨us, []⟩ = pure ((["state", "stone", "over"] : List Str).zip us) :=
  fun _ _ _ _ _ _ us hl => match us, hl with | [_, _, _], _ => rfl
theorem bd_need_leap : ∀ (kV doc pm : Value) (an : Option Addr) (cdv ct : Value) (us : List Value), us.length = (["state", "stone", "over"] : List Str).length → bindArgs (PySem.W.fnOf "need_leap" "need_leap" (defArgs s_need_leap) (defBody s_need_leap) (defScope s_need_leap) .none kV doc pm an cdv ct) ⟨us, []⟩ = pure ((["state", "stone", "over"] : List Str).zip us) :=
  fun _ _ _ _ _ _ us hl => match us, hl with | [_, _, _], _ => rfl
theorem bd_runs_of : ∀ (kV doc pm : Value) (an : Option Addr) (cdv ct : Value) (us : List Value), us.length = (["state"] : List Str).length → bindArgs (PySem.W.fnOf "runs_of" "runs_of" (defArgs s_runs_of) (defBody s_runs_of) (defScope s_runs_of) .none kV doc pm an cdv ct) ⟨us, []⟩ = pure ((["state"] : List Str).zip us) :=
  fun _ _ _ _ _ _ us hl => match us, hl with | [_], _ => rfl
theorem bd_order_behind : ∀ (kV doc pm : Value) (an : Option Addr) (cdv ct : Value) (us : List Value), us.length = (["order", "sign", "times"] : List Str).length → bindArgs (PySem.W.fnOf "order_behind" "order_behind" (defArgs s_order_behind) (defBody s_order_behind) (defScope s_order_behind) .none kV doc pm an cdv ct) ⟨us, []⟩ = pure ((["order", "sign", "times"] : List Str).zip us) :=
  fun _ _ _ _ _ _ us hl => match us, hl with | [_, _, _], _ => rfl
theorem bd_begin_order : ∀ (kV doc pm : Value) (an : Option Addr) (cdv ct : Value) (us : List Value), us.length = (["state"] : List Str).length → bindArgs (PySem.W.fnOf "begin_order" "begin_order" (defArgs s_begin_order) (defBody s_begin_order) (defScope s_begin_order) .none kV doc pm an cdv ct) ⟨us, []⟩ = pure ((["state"] : List Str).zip us) :=
  fun _ _ _ _ _ _ us hl => match us, hl with | [_], _ => rfl
theorem bd_is_same : ∀ (kV doc pm : Value) (an : Option Addr) (cdv ct : Value) (us : List Value), us.length = (["one", "other"] : List Str).length → bindArgs (PySem.W.fnOf "is_same" "is_same" (defArgs s_is_same) (defBody s_is_same) (defScope s_is_same) .none kV doc pm an cdv ct) ⟨us, []⟩ = pure ((["one", "other"] : List Str).zip us) :=
  fun _ _ _ _ _ _ us hl => match us, hl with | [_, _], _ => rfl
theorem bd_are_walls : ∀ (kV doc pm : Value) (an : Option Addr) (cdv ct : Value) (us : List Value), us.length = (["value"] : List Str).length → bindArgs (PySem.W.fnOf "are_walls" "are_walls" (defArgs s_are_walls) (defBody s_are_walls) (defScope s_are_walls) .none kV doc pm an cdv ct) ⟨us, []⟩ = pure ((["value"] : List Str).zip us) :=
  fun _ _ _ _ _ _ us hl => match us, hl with | [_], _ => rfl
theorem bd_need_walls : ∀ (kV doc pm : Value) (an : Option Addr) (cdv ct : Value) (us : List Value), us.length = (["state", "value"] : List Str).length → bindArgs (PySem.W.fnOf "need_walls" "need_walls" (defArgs s_need_walls) (defBody s_need_walls) (defScope s_need_walls) .none kV doc pm an cdv ct) ⟨us, []⟩ = pure ((["state", "value"] : List Str).zip us) :=
  fun _ _ _ _ _ _ us hl => match us, hl with | [_, _], _ => rfl
theorem bd_box_of : ∀ (kV doc pm : Value) (an : Option Addr) (cdv ct : Value) (us : List Value), us.length = (["state", "walls"] : List Str).length → bindArgs (PySem.W.fnOf "box_of" "box_of" (defArgs s_box_of) (defBody s_box_of) (defScope s_box_of) .none kV doc pm an cdv ct) ⟨us, []⟩ = pure ((["state", "walls"] : List Str).zip us) :=
  fun _ _ _ _ _ _ us hl => match us, hl with | [_, _], _ => rfl
theorem bd_mobius : ∀ (kV doc pm : Value) (an : Option Addr) (cdv ct : Value) (us : List Value), us.length = (["most"] : List Str).length → bindArgs (PySem.W.fnOf "mobius" "mobius" (defArgs s_mobius) (defBody s_mobius) (defScope s_mobius) .none kV doc pm an cdv ct) ⟨us, []⟩ = pure ((["most"] : List Str).zip us) :=
  fun _ _ _ _ _ _ us hl => match us, hl with | [_], _ => rfl
theorem bd_chosen_pairs : ∀ (kV doc pm : Value) (an : Option Addr) (cdv ct : Value) (us : List Value), us.length = (["wide", "high"] : List Str).length → bindArgs (PySem.W.fnOf "chosen_pairs" "chosen_pairs" (defArgs s_chosen_pairs) (defBody s_chosen_pairs) (defScope s_chosen_pairs) .none kV doc pm an cdv ct) ⟨us, []⟩ = pure ((["wide", "high"] : List Str).zip us) :=
  fun _ _ _ _ _ _ us hl => match us, hl with | [_, _], _ => rfl
theorem bd_need_box : ∀ (kV doc pm : Value) (an : Option Addr) (cdv ct : Value) (us : List Value), us.length = (["state", "walls", "most"] : List Str).length → bindArgs (PySem.W.fnOf "need_box" "need_box" (defArgs s_need_box) (defBody s_need_box) (defScope s_need_box) .none kV doc pm an cdv ct) ⟨us, []⟩ = pure ((["state", "walls", "most"] : List Str).zip us) :=
  fun _ _ _ _ _ _ us hl => match us, hl with | [_, _, _], _ => rfl
theorem bd_pairs_within : ∀ (kV doc pm : Value) (an : Option Addr) (cdv ct : Value) (us : List Value), us.length = (["wide", "high"] : List Str).length → bindArgs (PySem.W.fnOf "pairs_within" "pairs_within" (defArgs s_pairs_within) (defBody s_pairs_within) (defScope s_pairs_within) .none kV doc pm an cdv ct) ⟨us, []⟩ = pure ((["wide", "high"] : List Str).zip us) :=
  fun _ _ _ _ _ _ us hl => match us, hl with | [_, _], _ => rfl
theorem bd_need_field : ∀ (kV doc pm : Value) (an : Option Addr) (cdv ct : Value) (us : List Value), us.length = (["state", "walls", "most"] : List Str).length → bindArgs (PySem.W.fnOf "need_field" "need_field" (defArgs s_need_field) (defBody s_need_field) (defScope s_need_field) .none kV doc pm an cdv ct) ⟨us, []⟩ = pure ((["state", "walls", "most"] : List Str).zip us) :=
  fun _ _ _ _ _ _ us hl => match us, hl with | [_, _, _], _ => rfl
theorem bd_parent_of : ∀ (kV doc pm : Value) (an : Option Addr) (cdv ct : Value) (us : List Value), us.length = (["pair"] : List Str).length → bindArgs (PySem.W.fnOf "parent_of" "parent_of" (defArgs s_parent_of) (defBody s_parent_of) (defScope s_parent_of) .none kV doc pm an cdv ct) ⟨us, []⟩ = pure ((["pair"] : List Str).zip us) :=
  fun _ _ _ _ _ _ us hl => match us, hl with | [_], _ => rfl
theorem bd_heights_of : ∀ (kV doc pm : Value) (an : Option Addr) (cdv ct : Value) (us : List Value), us.length = (["pairs"] : List Str).length → bindArgs (PySem.W.fnOf "heights_of" "heights_of" (defArgs s_heights_of) (defBody s_heights_of) (defScope s_heights_of) .none kV doc pm an cdv ct) ⟨us, []⟩ = pure ((["pairs"] : List Str).zip us) :=
  fun _ _ _ _ _ _ us hl => match us, hl with | [_], _ => rfl
theorem bd_max_low : ∀ (kV doc pm : Value) (an : Option Addr) (cdv ct : Value) (us : List Value), us.length = (["one", "other"] : List Str).length → bindArgs (PySem.W.fnOf "max_low" "max_low" (defArgs s_max_low) (defBody s_max_low) (defScope s_max_low) .none kV doc pm an cdv ct) ⟨us, []⟩ = pure ((["one", "other"] : List Str).zip us) :=
  fun _ _ _ _ _ _ us hl => match us, hl with | [_, _], _ => rfl
theorem bd_need_two : ∀ (kV doc pm : Value) (an : Option Addr) (cdv ct : Value) (us : List Value), us.length = (["one", "other"] : List Str).length → bindArgs (PySem.W.fnOf "need_two" "need_two" (defArgs s_need_two) (defBody s_need_two) (defScope s_need_two) .none kV doc pm an cdv ct) ⟨us, []⟩ = pure ((["one", "other"] : List Str).zip us) :=
  fun _ _ _ _ _ _ us hl => match us, hl with | [_, _], _ => rfl
theorem bd_behind_within : ∀ (kV doc pm : Value) (an : Option Addr) (cdv ct : Value) (us : List Value), us.length = (["state", "walls"] : List Str).length → bindArgs (PySem.W.fnOf "behind_within" "behind_within" (defArgs s_behind_within) (defBody s_behind_within) (defScope s_behind_within) .none kV doc pm an cdv ct) ⟨us, []⟩ = pure ((["state", "walls"] : List Str).zip us) :=
  fun _ _ _ _ _ _ us hl => match us, hl with | [_, _], _ => rfl
theorem bd_ways_over : ∀ (kV doc pm : Value) (an : Option Addr) (cdv ct : Value) (us : List Value), us.length = (["state", "stone", "over", "walls"] : List Str).length → bindArgs (PySem.W.fnOf "ways_over" "ways_over" (defArgs s_ways_over) (defBody s_ways_over) (defScope s_ways_over) .none kV doc pm an cdv ct) ⟨us, []⟩ = pure ((["state", "stone", "over", "walls"] : List Str).zip us) :=
  fun _ _ _ _ _ _ us hl => match us, hl with | [_, _, _, _], _ => rfl
theorem bd_leaps_inside : ∀ (kV doc pm : Value) (an : Option Addr) (cdv ct : Value) (us : List Value), us.length = (["state", "walls"] : List Str).length → bindArgs (PySem.W.fnOf "leaps_inside" "leaps_inside" (defArgs s_leaps_inside) (defBody s_leaps_inside) (defScope s_leaps_inside) .none kV doc pm an cdv ct) ⟨us, []⟩ = pure ((["state", "walls"] : List Str).zip us) :=
  fun _ _ _ _ _ _ us hl => match us, hl with | [_, _], _ => rfl
theorem bd_sizes_of : ∀ (kV doc pm : Value) (an : Option Addr) (cdv ct : Value) (us : List Value), us.length = (["pairs"] : List Str).length → bindArgs (PySem.W.fnOf "sizes_of" "sizes_of" (defArgs s_sizes_of) (defBody s_sizes_of) (defScope s_sizes_of) .none kV doc pm an cdv ct) ⟨us, []⟩ = pure ((["pairs"] : List Str).zip us) :=
  fun _ _ _ _ _ _ us hl => match us, hl with | [_], _ => rfl
theorem bd_is_behind : ∀ (kV doc pm : Value) (an : Option Addr) (cdv ct : Value) (us : List Value), us.length = (["one", "other"] : List Str).length → bindArgs (PySem.W.fnOf "is_behind" "is_behind" (defArgs s_is_behind) (defBody s_is_behind) (defScope s_is_behind) .none kV doc pm an cdv ct) ⟨us, []⟩ = pure ((["one", "other"] : List Str).zip us) :=
  fun _ _ _ _ _ _ us hl => match us, hl with | [_, _], _ => rfl
theorem bd_law_taken : ∀ (kV doc pm : Value) (an : Option Addr) (cdv ct : Value) (us : List Value), us.length = (["_law_row", "_law_many"] : List Str).length → bindArgs (PySem.W.fnOf "_law_taken" "_law_taken" (defArgs s_law_taken) (defBody s_law_taken) (defScope s_law_taken) .none kV doc pm an cdv ct) ⟨us, []⟩ = pure ((["_law_row", "_law_many"] : List Str).zip us) :=
  fun _ _ _ _ _ _ us hl => match us, hl with | [_, _], _ => rfl
theorem bd_law_pick : ∀ (kV doc pm : Value) (an : Option Addr) (cdv ct : Value) (us : List Value), us.length = (["_law_row", "_law_things"] : List Str).length → bindArgs (PySem.W.fnOf "_law_pick" "_law_pick" (defArgs s_law_pick) (defBody s_law_pick) (defScope s_law_pick) .none kV doc pm an cdv ct) ⟨us, []⟩ = pure ((["_law_row", "_law_things"] : List Str).zip us) :=
  fun _ _ _ _ _ _ us hl => match us, hl with | [_, _], _ => rfl
theorem bd_law_alike : ∀ (kV doc pm : Value) (an : Option Addr) (cdv ct : Value) (us : List Value), us.length = (["_law_found", "_law_due"] : List Str).length → bindArgs (PySem.W.fnOf "_law_alike" "_law_alike" (defArgs s_law_alike) (defBody s_law_alike) (defScope s_law_alike) .none kV doc pm an cdv ct) ⟨us, []⟩ = pure ((["_law_found", "_law_due"] : List Str).zip us) :=
  fun _ _ _ _ _ _ us hl => match us, hl with | [_, _], _ => rfl
theorem bd_law_state : ∀ (kV doc pm : Value) (an : Option Addr) (cdv ct : Value) (us : List Value), us.length = (["_law_row", "_law_most"] : List Str).length → bindArgs (PySem.W.fnOf "_law_state" "_law_state" (defArgs s_law_state) (defBody s_law_state) (defScope s_law_state) .none kV doc pm an cdv ct) ⟨us, []⟩ = pure ((["_law_row", "_law_most"] : List Str).zip us) :=
  fun _ _ _ _ _ _ us hl => match us, hl with | [_, _], _ => rfl
theorem bd_law_walk : ∀ (kV doc pm : Value) (an : Option Addr) (cdv ct : Value) (us : List Value), us.length = (["_law_row", "_law_state_here", "_law_most"] : List Str).length → bindArgs (PySem.W.fnOf "_law_walk" "_law_walk" (defArgs s_law_walk) (defBody s_law_walk) (defScope s_law_walk) .none kV doc pm an cdv ct) ⟨us, []⟩ = pure ((["_law_row", "_law_state_here", "_law_most"] : List Str).zip us) :=
  fun _ _ _ _ _ _ us hl => match us, hl with | [_, _, _], _ => rfl
theorem bd_law_order : ∀ (kV doc pm : Value) (an : Option Addr) (cdv ct : Value) (us : List Value), us.length = (["_law_state_here"] : List Str).length → bindArgs (PySem.W.fnOf "_law_order" "_law_order" (defArgs s_law_order) (defBody s_law_order) (defScope s_law_order) .none kV doc pm an cdv ct) ⟨us, []⟩ = pure ((["_law_state_here"] : List Str).zip us) :=
  fun _ _ _ _ _ _ us hl => match us, hl with | [_], _ => rfl
theorem bd_law_leapt : ∀ (kV doc pm : Value) (an : Option Addr) (cdv ct : Value) (us : List Value), us.length = (["_law_state_here", "_law_stone", "_law_over"] : List Str).length → bindArgs (PySem.W.fnOf "_law_leapt" "_law_leapt" (defArgs s_law_leapt) (defBody s_law_leapt) (defScope s_law_leapt) .none kV doc pm an cdv ct) ⟨us, []⟩ = pure ((["_law_state_here", "_law_stone", "_law_over"] : List Str).zip us) :=
  fun _ _ _ _ _ _ us hl => match us, hl with | [_, _, _], _ => rfl
theorem bd_law_leaps : ∀ (kV doc pm : Value) (an : Option Addr) (cdv ct : Value) (us : List Value), us.length = (["_law_state_here"] : List Str).length → bindArgs (PySem.W.fnOf "_law_leaps" "_law_leaps" (defArgs s_law_leaps) (defBody s_law_leaps) (defScope s_law_leaps) .none kV doc pm an cdv ct) ⟨us, []⟩ = pure ((["_law_state_here"] : List Str).zip us) :=
  fun _ _ _ _ _ _ us hl => match us, hl with | [_], _ => rfl
theorem bd_law_inward : ∀ (kV doc pm : Value) (an : Option Addr) (cdv ct : Value) (us : List Value), us.length = (["_law_state_here"] : List Str).length → bindArgs (PySem.W.fnOf "_law_inward" "_law_inward" (defArgs s_law_inward) (defBody s_law_inward) (defScope s_law_inward) .none kV doc pm an cdv ct) ⟨us, []⟩ = pure ((["_law_state_here"] : List Str).zip us) :=
  fun _ _ _ _ _ _ us hl => match us, hl with | [_], _ => rfl
theorem bd_law_line : ∀ (kV doc pm : Value) (an : Option Addr) (cdv ct : Value) (us : List Value), us.length = (["_law_state_here"] : List Str).length → bindArgs (PySem.W.fnOf "_law_line" "_law_line" (defArgs s_law_line) (defBody s_law_line) (defScope s_law_line) .none kV doc pm an cdv ct) ⟨us, []⟩ = pure ((["_law_state_here"] : List Str).zip us) :=
  fun _ _ _ _ _ _ us hl => match us, hl with | [_], _ => rfl
theorem bd_law_behind : ∀ (kV doc pm : Value) (an : Option Addr) (cdv ct : Value) (us : List Value), us.length = (["_law_state_here", "_law_leaps_here"] : List Str).length → bindArgs (PySem.W.fnOf "_law_behind" "_law_behind" (defArgs s_law_behind) (defBody s_law_behind) (defScope s_law_behind) .none kV doc pm an cdv ct) ⟨us, []⟩ = pure ((["_law_state_here", "_law_leaps_here"] : List Str).zip us) :=
  fun _ _ _ _ _ _ us hl => match us, hl with | [_, _], _ => rfl
theorem bd_law_field : ∀ (kV doc pm : Value) (an : Option Addr) (cdv ct : Value) (us : List Value), us.length = (["_law_state_here", "_law_shuts_here"] : List Str).length → bindArgs (PySem.W.fnOf "_law_field" "_law_field" (defArgs s_law_field) (defBody s_law_field) (defScope s_law_field) .none kV doc pm an cdv ct) ⟨us, []⟩ = pure ((["_law_state_here", "_law_shuts_here"] : List Str).zip us) :=
  fun _ _ _ _ _ _ us hl => match us, hl with | [_, _], _ => rfl
theorem bd_law_shuts : ∀ (kV doc pm : Value) (an : Option Addr) (cdv ct : Value) (us : List Value), us.length = (["_law_row", "_law_state_here", "_law_most"] : List Str).length → bindArgs (PySem.W.fnOf "_law_shuts" "_law_shuts" (defArgs s_law_shuts) (defBody s_law_shuts) (defScope s_law_shuts) .none kV doc pm an cdv ct) ⟨us, []⟩ = pure ((["_law_row", "_law_state_here", "_law_most"] : List Str).zip us) :=
  fun _ _ _ _ _ _ us hl => match us, hl with | [_, _, _], _ => rfl
theorem bd_law_common : ∀ (kV doc pm : Value) (an : Option Addr) (cdv ct : Value) (us : List Value), us.length = (["_law_one", "_law_other"] : List Str).length → bindArgs (PySem.W.fnOf "_law_common" "_law_common" (defArgs s_law_common) (defBody s_law_common) (defScope s_law_common) .none kV doc pm an cdv ct) ⟨us, []⟩ = pure ((["_law_one", "_law_other"] : List Str).zip us) :=
  fun _ _ _ _ _ _ us hl => match us, hl with | [_, _], _ => rfl
theorem bd_law_pair : ∀ (kV doc pm : Value) (an : Option Addr) (cdv ct : Value) (us : List Value), us.length = (["_law_state_here"] : List Str).length → bindArgs (PySem.W.fnOf "_law_pair" "_law_pair" (defArgs s_law_pair) (defBody s_law_pair) (defScope s_law_pair) .none kV doc pm an cdv ct) ⟨us, []⟩ = pure ((["_law_state_here"] : List Str).zip us) :=
  fun _ _ _ _ _ _ us hl => match us, hl with | [_], _ => rfl
theorem bd_law : ∀ (kV doc pm : Value) (an : Option Addr) (cdv ct : Value) (us : List Value), us.length = (["_law_script"] : List Str).length → bindArgs (PySem.W.fnOf "law" "law" (defArgs s_law) (defBody s_law) (defScope s_law) .none kV doc pm an cdv ct) ⟨us, []⟩ = pure ((["_law_script"] : List Str).zip us) :=
  fun _ _ _ _ _ _ us hl => match us, hl with | [_], _ => rfl
theorem all_mk {l : PySem.W.OpenLaw} {w : World} {K : PySem.W.Frag} {h : Heap} {mg : Str → Option Value} {fa : Addr} (X : K.In h) (G : h.Ns mainGlobals mg) (hfa : mg "law" = some (.ref fa))
    (hMP : ∃ u, mg "MOST_PLACE" = some u ∧ RelV (.int (10 ^ 18)) u) (hMS : ∃ u, mg "MOST_SIDE" = some u ∧ RelV (.int (10 ^ 5)) u)
    {tS tF : _}
    {f0 : Addr} {oc0 kV0 dc0 pm0 cd0 ct0 : Value} {od0 an0 : Option Addr} {sl0 : Array (Option Value)}
    {f1 : Addr} {oc1 kV1 dc1 pm1 cd1 ct1 : Value} {od1 an1 : Option Addr} {sl1 : Array (Option Value)}
    {f2 : Addr} {oc2 kV2 dc2 pm2 cd2 ct2 : Value} {od2 an2 : Option Addr} {sl2 : Array (Option Value)}
    {f3 : Addr} {oc3 kV3 dc3 pm3 cd3 ct3 : Value} {od3 an3 : Option Addr} {sl3 : Array (Option Value)}
    {f4 : Addr} {oc4 kV4 dc4 pm4 cd4 ct4 : Value} {od4 an4 : Option Addr} {sl4 : Array (Option Value)}
    {f5 : Addr} {oc5 kV5 dc5 pm5 cd5 ct5 : Value} {od5 an5 : Option Addr} {sl5 : Array (Option Value)}
    {f6 : Addr} {oc6 kV6 dc6 pm6 cd6 ct6 : Value} {od6 an6 : Option Addr} {sl6 : Array (Option Value)}
    {f7 : Addr} {oc7 kV7 dc7 pm7 cd7 ct7 : Value} {od7 an7 : Option Addr} {sl7 : Array (Option Value)}
    {f8 : Addr} {oc8 kV8 dc8 pm8 cd8 ct8 : Value} {od8 an8 : Option Addr} {sl8 : Array (Option Value)}
    {f9 : Addr} {oc9 kV9 dc9 pm9 cd9 ct9 : Value} {od9 an9 : Option Addr} {sl9 : Array (Option Value)}
    {f10 : Addr} {oc10 kV10 dc10 pm10 cd10 ct10 : Value} {od10 an10 : Option Addr} {sl10 : Array (Option Value)}
    {f11 : Addr} {oc11 kV11 dc11 pm11 cd11 ct11 : Value} {od11 an11 : Option Addr} {sl11 : Array (Option Value)}
    {f12 : Addr} {oc12 kV12 dc12 pm12 cd12 ct12 : Value} {od12 an12 : Option Addr} {sl12 : Array (Option Value)}
    {f13 : Addr} {oc13 kV13 dc13 pm13 cd13 ct13 : Value} {od13 an13 : Option Addr} {sl13 : Array (Option Value)}
    {f14 : Addr} {oc14 kV14 dc14 pm14 cd14 ct14 : Value} {od14 an14 : Option Addr} {sl14 : Array (Option Value)}
    {f15 : Addr} {oc15 kV15 dc15 pm15 cd15 ct15 : Value} {od15 an15 : Option Addr} {sl15 : Array (Option Value)}
    {f16 : Addr} {oc16 kV16 dc16 pm16 cd16 ct16 : Value} {od16 an16 : Option Addr} {sl16 : Array (Option Value)}
    {f17 : Addr} {oc17 kV17 dc17 pm17 cd17 ct17 : Value} {od17 an17 : Option Addr} {sl17 : Array (Option Value)}
    {f18 : Addr} {oc18 kV18 dc18 pm18 cd18 ct18 : Value} {od18 an18 : Option Addr} {sl18 : Array (Option Value)}
    {f19 : Addr} {oc19 kV19 dc19 pm19 cd19 ct19 : Value} {od19 an19 : Option Addr} {sl19 : Array (Option Value)}
    {f20 : Addr} {oc20 kV20 dc20 pm20 cd20 ct20 : Value} {od20 an20 : Option Addr} {sl20 : Array (Option Value)}
    {f21 : Addr} {oc21 kV21 dc21 pm21 cd21 ct21 : Value} {od21 an21 : Option Addr} {sl21 : Array (Option Value)}
    {f22 : Addr} {oc22 kV22 dc22 pm22 cd22 ct22 : Value} {od22 an22 : Option Addr} {sl22 : Array (Option Value)}
    {f23 : Addr} {oc23 kV23 dc23 pm23 cd23 ct23 : Value} {od23 an23 : Option Addr} {sl23 : Array (Option Value)}
    {f24 : Addr} {oc24 kV24 dc24 pm24 cd24 ct24 : Value} {od24 an24 : Option Addr} {sl24 : Array (Option Value)}
    {f25 : Addr} {oc25 kV25 dc25 pm25 cd25 ct25 : Value} {od25 an25 : Option Addr} {sl25 : Array (Option Value)}
    {f26 : Addr} {oc26 kV26 dc26 pm26 cd26 ct26 : Value} {od26 an26 : Option Addr} {sl26 : Array (Option Value)}
    {f27 : Addr} {oc27 kV27 dc27 pm27 cd27 ct27 : Value} {od27 an27 : Option Addr} {sl27 : Array (Option Value)}
    {f28 : Addr} {oc28 kV28 dc28 pm28 cd28 ct28 : Value} {od28 an28 : Option Addr} {sl28 : Array (Option Value)}
    {f29 : Addr} {oc29 kV29 dc29 pm29 cd29 ct29 : Value} {od29 an29 : Option Addr} {sl29 : Array (Option Value)}
    {f30 : Addr} {oc30 kV30 dc30 pm30 cd30 ct30 : Value} {od30 an30 : Option Addr} {sl30 : Array (Option Value)}
    {f31 : Addr} {oc31 kV31 dc31 pm31 cd31 ct31 : Value} {od31 an31 : Option Addr} {sl31 : Array (Option Value)}
    {f32 : Addr} {oc32 kV32 dc32 pm32 cd32 ct32 : Value} {od32 an32 : Option Addr} {sl32 : Array (Option Value)}
    {f33 : Addr} {oc33 kV33 dc33 pm33 cd33 ct33 : Value} {od33 an33 : Option Addr} {sl33 : Array (Option Value)}
    {f34 : Addr} {oc34 kV34 dc34 pm34 cd34 ct34 : Value} {od34 an34 : Option Addr} {sl34 : Array (Option Value)}
    {f35 : Addr} {oc35 kV35 dc35 pm35 cd35 ct35 : Value} {od35 an35 : Option Addr} {sl35 : Array (Option Value)}
    {f36 : Addr} {oc36 kV36 dc36 pm36 cd36 ct36 : Value} {od36 an36 : Option Addr} {sl36 : Array (Option Value)}
    {f37 : Addr} {oc37 kV37 dc37 pm37 cd37 ct37 : Value} {od37 an37 : Option Addr} {sl37 : Array (Option Value)}
    {f38 : Addr} {oc38 kV38 dc38 pm38 cd38 ct38 : Value} {od38 an38 : Option Addr} {sl38 : Array (Option Value)}
    {f39 : Addr} {oc39 kV39 dc39 pm39 cd39 ct39 : Value} {od39 an39 : Option Addr} {sl39 : Array (Option Value)}
    {f40 : Addr} {oc40 kV40 dc40 pm40 cd40 ct40 : Value} {od40 an40 : Option Addr} {sl40 : Array (Option Value)}
    {f41 : Addr} {oc41 kV41 dc41 pm41 cd41 ct41 : Value} {od41 an41 : Option Addr} {sl41 : Array (Option Value)}
    {f42 : Addr} {oc42 kV42 dc42 pm42 cd42 ct42 : Value} {od42 an42 : Option Addr} {sl42 : Array (Option Value)}
    {f43 : Addr} {oc43 kV43 dc43 pm43 cd43 ct43 : Value} {od43 an43 : Option Addr} {sl43 : Array (Option Value)}
    {f44 : Addr} {oc44 kV44 dc44 pm44 cd44 ct44 : Value} {od44 an44 : Option Addr} {sl44 : Array (Option Value)}
    {f45 : Addr} {oc45 kV45 dc45 pm45 cd45 ct45 : Value} {od45 an45 : Option Addr} {sl45 : Array (Option Value)}
    {f46 : Addr} {oc46 kV46 dc46 pm46 cd46 ct46 : Value} {od46 an46 : Option Addr} {sl46 : Array (Option Value)}
    {f47 : Addr} {oc47 kV47 dc47 pm47 cd47 ct47 : Value} {od47 an47 : Option Addr} {sl47 : Array (Option Value)}
    {f48 : Addr} {oc48 kV48 dc48 pm48 cd48 ct48 : Value} {od48 an48 : Option Addr} {sl48 : Array (Option Value)}
    {f49 : Addr} {oc49 kV49 dc49 pm49 cd49 ct49 : Value} {od49 an49 : Option Addr} {sl49 : Array (Option Value)}
    (a0 : PySem.W.nsIn K mainGlobals "is_int" = some (some (.ref f0))) (l0 : K.lookup f0 = some ⟨oc0, od0, .func (PySem.W.fnOf "is_int" "is_int" (defArgs s_is_int) (defBody s_is_int) (defScope s_is_int) .none kV0 dc0 pm0 an0 cd0 ct0), sl0⟩) (c0 : PySem.W.codeIn K cd0 "is_int" = true) (k0 : PySem.W.keepIn K (.ref f0) = true)
    (a1 : PySem.W.nsIn K mainGlobals "is_in" = some (some (.ref f1))) (l1 : K.lookup f1 = some ⟨oc1, od1, .func (PySem.W.fnOf "is_in" "is_in" (defArgs s_is_in) (defBody s_is_in) (defScope s_is_in) .none kV1 dc1 pm1 an1 cd1 ct1), sl1⟩) (c1 : PySem.W.codeIn K cd1 "is_in" = true) (k1 : PySem.W.keepIn K (.ref f1) = true)
    (a2 : PySem.W.nsIn K mainGlobals "is_state" = some (some (.ref f2))) (l2 : K.lookup f2 = some ⟨oc2, od2, .func (PySem.W.fnOf "is_state" "is_state" (defArgs s_is_state) (defBody s_is_state) (defScope s_is_state) .none kV2 dc2 pm2 an2 cd2 ct2), sl2⟩) (c2 : PySem.W.codeIn K cd2 "is_state" = true) (k2 : PySem.W.keepIn K (.ref f2) = true)
    (a3 : PySem.W.nsIn K mainGlobals "need_state" = some (some (.ref f3))) (l3 : K.lookup f3 = some ⟨oc3, od3, .func (PySem.W.fnOf "need_state" "need_state" (defArgs s_need_state) (defBody s_need_state) (defScope s_need_state) .none kV3 dc3 pm3 an3 cd3 ct3), sl3⟩) (c3 : PySem.W.codeIn K cd3 "need_state" = true) (k3 : PySem.W.keepIn K (.ref f3) = true)
    (a4 : PySem.W.nsIn K mainGlobals "order_of" = some (some (.ref f4))) (l4 : K.lookup f4 = some ⟨oc4, od4, .func (PySem.W.fnOf "order_of" "order_of" (defArgs s_order_of) (defBody s_order_of) (defScope s_order_of) .none kV4 dc4 pm4 an4 cd4 ct4), sl4⟩) (c4 : PySem.W.codeIn K cd4 "order_of" = true) (k4 : PySem.W.keepIn K (.ref f4) = true)
    (a5 : PySem.W.nsIn K mainGlobals "common" = some (some (.ref f5))) (l5 : K.lookup f5 = some ⟨oc5, od5, .func (PySem.W.fnOf "common" "common" (defArgs s_common) (defBody s_common) (defScope s_common) .none kV5 dc5 pm5 an5 cd5 ct5), sl5⟩) (c5 : PySem.W.codeIn K cd5 "common" = true) (k5 : PySem.W.keepIn K (.ref f5) = true)
    (a6 : PySem.W.nsIn K mainGlobals "gaps_of" = some (some (.ref f6))) (l6 : K.lookup f6 = some ⟨oc6, od6, .func (PySem.W.fnOf "gaps_of" "gaps_of" (defArgs s_gaps_of) (defBody s_gaps_of) (defScope s_gaps_of) .none kV6 dc6 pm6 an6 cd6 ct6), sl6⟩) (c6 : PySem.W.codeIn K cd6 "gaps_of" = true) (k6 : PySem.W.keepIn K (.ref f6) = true)
    (a7 : PySem.W.nsIn K mainGlobals "middle_of" = some (some (.ref f7))) (l7 : K.lookup f7 = some ⟨oc7, od7, .func (PySem.W.fnOf "middle_of" "middle_of" (defArgs s_middle_of) (defBody s_middle_of) (defScope s_middle_of) .none kV7 dc7 pm7 an7 cd7 ct7), sl7⟩) (c7 : PySem.W.codeIn K cd7 "middle_of" = true) (k7 : PySem.W.keepIn K (.ref f7) = true)
    (a8 : PySem.W.nsIn K mainGlobals "grain_of" = some (some (.ref f8))) (l8 : K.lookup f8 = some ⟨oc8, od8, .func (PySem.W.fnOf "grain_of" "grain_of" (defArgs s_grain_of) (defBody s_grain_of) (defScope s_grain_of) .none kV8 dc8 pm8 an8 cd8 ct8), sl8⟩) (c8 : PySem.W.codeIn K cd8 "grain_of" = true) (k8 : PySem.W.keepIn K (.ref f8) = true)
    (a9 : PySem.W.nsIn K mainGlobals "pair_of" = some (some (.ref f9))) (l9 : K.lookup f9 = some ⟨oc9, od9, .func (PySem.W.fnOf "pair_of" "pair_of" (defArgs s_pair_of) (defBody s_pair_of) (defScope s_pair_of) .none kV9 dc9 pm9 an9 cd9 ct9), sl9⟩) (c9 : PySem.W.codeIn K cd9 "pair_of" = true) (k9 : PySem.W.keepIn K (.ref f9) = true)
    (a10 : PySem.W.nsIn K mainGlobals "leaps_of" = some (some (.ref f10))) (l10 : K.lookup f10 = some ⟨oc10, od10, .func (PySem.W.fnOf "leaps_of" "leaps_of" (defArgs s_leaps_of) (defBody s_leaps_of) (defScope s_leaps_of) .none kV10 dc10 pm10 an10 cd10 ct10), sl10⟩) (c10 : PySem.W.codeIn K cd10 "leaps_of" = true) (k10 : PySem.W.keepIn K (.ref f10) = true)
    (a11 : PySem.W.nsIn K mainGlobals "leapt_to" = some (some (.ref f11))) (l11 : K.lookup f11 = some ⟨oc11, od11, .func (PySem.W.fnOf "leapt_to" "leapt_to" (defArgs s_leapt_to) (defBody s_leapt_to) (defScope s_leapt_to) .none kV11 dc11 pm11 an11 cd11 ct11), sl11⟩) (c11 : PySem.W.codeIn K cd11 "leapt_to" = true) (k11 : PySem.W.keepIn K (.ref f11) = true)
    (a12 : PySem.W.nsIn K mainGlobals "need_leap" = some (some (.ref f12))) (l12 : K.lookup f12 = some ⟨oc12, od12, .func (PySem.W.fnOf "need_leap" "need_leap" (defArgs s_need_leap) (defBody s_need_leap) (defScope s_need_leap) .none kV12 dc12 pm12 an12 cd12 ct12), sl12⟩) (c12 : PySem.W.codeIn K cd12 "need_leap" = true) (k12 : PySem.W.keepIn K (.ref f12) = true)
    (a13 : PySem.W.nsIn K mainGlobals "runs_of" = some (some (.ref f13))) (l13 : K.lookup f13 = some ⟨oc13, od13, .func (PySem.W.fnOf "runs_of" "runs_of" (defArgs s_runs_of) (defBody s_runs_of) (defScope s_runs_of) .none kV13 dc13 pm13 an13 cd13 ct13), sl13⟩) (c13 : PySem.W.codeIn K cd13 "runs_of" = true) (k13 : PySem.W.keepIn K (.ref f13) = true)
    (a14 : PySem.W.nsIn K mainGlobals "order_behind" = some (some (.ref f14))) (l14 : K.lookup f14 = some ⟨oc14, od14, .func (PySem.W.fnOf "order_behind" "order_behind" (defArgs s_order_behind) (defBody s_order_behind) (defScope s_order_behind) .none kV14 dc14 pm14 an14 cd14 ct14), sl14⟩) (c14 : PySem.W.codeIn K cd14 "order_behind" = true) (k14 : PySem.W.keepIn K (.ref f14) = true)
    (a15 : PySem.W.nsIn K mainGlobals "begin_order" = some (some (.ref f15))) (l15 : K.lookup f15 = some ⟨oc15, od15, .func (PySem.W.fnOf "begin_order" "begin_order" (defArgs s_begin_order) (defBody s_begin_order) (defScope s_begin_order) .none kV15 dc15 pm15 an15 cd15 ct15), sl15⟩) (c15 : PySem.W.codeIn K cd15 "begin_order" = true) (k15 : PySem.W.keepIn K (.ref f15) = true)
    (a16 : PySem.W.nsIn K mainGlobals "is_same" = some (some (.ref f16))) (l16 : K.lookup f16 = some ⟨oc16, od16, .func (PySem.W.fnOf "is_same" "is_same" (defArgs s_is_same) (defBody s_is_same) (defScope s_is_same) .none kV16 dc16 pm16 an16 cd16 ct16), sl16⟩) (c16 : PySem.W.codeIn K cd16 "is_same" = true) (k16 : PySem.W.keepIn K (.ref f16) = true)
    (a17 : PySem.W.nsIn K mainGlobals "are_walls" = some (some (.ref f17))) (l17 : K.lookup f17 = some ⟨oc17, od17, .func (PySem.W.fnOf "are_walls" "are_walls" (defArgs s_are_walls) (defBody s_are_walls) (defScope s_are_walls) .none kV17 dc17 pm17 an17 cd17 ct17), sl17⟩) (c17 : PySem.W.codeIn K cd17 "are_walls" = true) (k17 : PySem.W.keepIn K (.ref f17) = true)
    (a18 : PySem.W.nsIn K mainGlobals "need_walls" = some (some (.ref f18))) (l18 : K.lookup f18 = some ⟨oc18, od18, .func (PySem.W.fnOf "need_walls" "need_walls" (defArgs s_need_walls) (defBody s_need_walls) (defScope s_need_walls) .none kV18 dc18 pm18 an18 cd18 ct18), sl18⟩) (c18 : PySem.W.codeIn K cd18 "need_walls" = true) (k18 : PySem.W.keepIn K (.ref f18) = true)
    (a19 : PySem.W.nsIn K mainGlobals "box_of" = some (some (.ref f19))) (l19 : K.lookup f19 = some ⟨oc19, od19, .func (PySem.W.fnOf "box_of" "box_of" (defArgs s_box_of) (defBody s_box_of) (defScope s_box_of) .none kV19 dc19 pm19 an19 cd19 ct19), sl19⟩) (c19 : PySem.W.codeIn K cd19 "box_of" = true) (k19 : PySem.W.keepIn K (.ref f19) = true)
    (a20 : PySem.W.nsIn K mainGlobals "mobius" = some (some (.ref f20))) (l20 : K.lookup f20 = some ⟨oc20, od20, .func (PySem.W.fnOf "mobius" "mobius" (defArgs s_mobius) (defBody s_mobius) (defScope s_mobius) .none kV20 dc20 pm20 an20 cd20 ct20), sl20⟩) (c20 : PySem.W.codeIn K cd20 "mobius" = true) (k20 : PySem.W.keepIn K (.ref f20) = true)
    (a21 : PySem.W.nsIn K mainGlobals "chosen_pairs" = some (some (.ref f21))) (l21 : K.lookup f21 = some ⟨oc21, od21, .func (PySem.W.fnOf "chosen_pairs" "chosen_pairs" (defArgs s_chosen_pairs) (defBody s_chosen_pairs) (defScope s_chosen_pairs) .none kV21 dc21 pm21 an21 cd21 ct21), sl21⟩) (c21 : PySem.W.codeIn K cd21 "chosen_pairs" = true) (k21 : PySem.W.keepIn K (.ref f21) = true)
    (a22 : PySem.W.nsIn K mainGlobals "need_box" = some (some (.ref f22))) (l22 : K.lookup f22 = some ⟨oc22, od22, .func (PySem.W.fnOf "need_box" "need_box" (defArgs s_need_box) (defBody s_need_box) (defScope s_need_box) .none kV22 dc22 pm22 an22 cd22 ct22), sl22⟩) (c22 : PySem.W.codeIn K cd22 "need_box" = true) (k22 : PySem.W.keepIn K (.ref f22) = true)
    (a23 : PySem.W.nsIn K mainGlobals "pairs_within" = some (some (.ref f23))) (l23 : K.lookup f23 = some ⟨oc23, od23, .func (PySem.W.fnOf "pairs_within" "pairs_within" (defArgs s_pairs_within) (defBody s_pairs_within) (defScope s_pairs_within) .none kV23 dc23 pm23 an23 cd23 ct23), sl23⟩) (c23 : PySem.W.codeIn K cd23 "pairs_within" = true) (k23 : PySem.W.keepIn K (.ref f23) = true)
    (a24 : PySem.W.nsIn K mainGlobals "need_field" = some (some (.ref f24))) (l24 : K.lookup f24 = some ⟨oc24, od24, .func (PySem.W.fnOf "need_field" "need_field" (defArgs s_need_field) (defBody s_need_field) (defScope s_need_field) .none kV24 dc24 pm24 an24 cd24 ct24), sl24⟩) (c24 : PySem.W.codeIn K cd24 "need_field" = true) (k24 : PySem.W.keepIn K (.ref f24) = true)
    (a25 : PySem.W.nsIn K mainGlobals "parent_of" = some (some (.ref f25))) (l25 : K.lookup f25 = some ⟨oc25, od25, .func (PySem.W.fnOf "parent_of" "parent_of" (defArgs s_parent_of) (defBody s_parent_of) (defScope s_parent_of) .none kV25 dc25 pm25 an25 cd25 ct25), sl25⟩) (c25 : PySem.W.codeIn K cd25 "parent_of" = true) (k25 : PySem.W.keepIn K (.ref f25) = true)
    (a26 : PySem.W.nsIn K mainGlobals "heights_of" = some (some (.ref f26))) (l26 : K.lookup f26 = some ⟨oc26, od26, .func (PySem.W.fnOf "heights_of" "heights_of" (defArgs s_heights_of) (defBody s_heights_of) (defScope s_heights_of) .none kV26 dc26 pm26 an26 cd26 ct26), sl26⟩) (c26 : PySem.W.codeIn K cd26 "heights_of" = true) (k26 : PySem.W.keepIn K (.ref f26) = true)
    (a27 : PySem.W.nsIn K mainGlobals "max_low" = some (some (.ref f27))) (l27 : K.lookup f27 = some ⟨oc27, od27, .func (PySem.W.fnOf "max_low" "max_low" (defArgs s_max_low) (defBody s_max_low) (defScope s_max_low) .none kV27 dc27 pm27 an27 cd27 ct27), sl27⟩) (c27 : PySem.W.codeIn K cd27 "max_low" = true) (k27 : PySem.W.keepIn K (.ref f27) = true)
    (a28 : PySem.W.nsIn K mainGlobals "need_two" = some (some (.ref f28))) (l28 : K.lookup f28 = some ⟨oc28, od28, .func (PySem.W.fnOf "need_two" "need_two" (defArgs s_need_two) (defBody s_need_two) (defScope s_need_two) .none kV28 dc28 pm28 an28 cd28 ct28), sl28⟩) (c28 : PySem.W.codeIn K cd28 "need_two" = true) (k28 : PySem.W.keepIn K (.ref f28) = true)
    (a29 : PySem.W.nsIn K mainGlobals "behind_within" = some (some (.ref f29))) (l29 : K.lookup f29 = some ⟨oc29, od29, .func (PySem.W.fnOf "behind_within" "behind_within" (defArgs s_behind_within) (defBody s_behind_within) (defScope s_behind_within) .none kV29 dc29 pm29 an29 cd29 ct29), sl29⟩) (c29 : PySem.W.codeIn K cd29 "behind_within" = true) (k29 : PySem.W.keepIn K (.ref f29) = true)
    (a30 : PySem.W.nsIn K mainGlobals "ways_over" = some (some (.ref f30))) (l30 : K.lookup f30 = some ⟨oc30, od30, .func (PySem.W.fnOf "ways_over" "ways_over" (defArgs s_ways_over) (defBody s_ways_over) (defScope s_ways_over) .none kV30 dc30 pm30 an30 cd30 ct30), sl30⟩) (c30 : PySem.W.codeIn K cd30 "ways_over" = true) (k30 : PySem.W.keepIn K (.ref f30) = true)
    (a31 : PySem.W.nsIn K mainGlobals "leaps_inside" = some (some (.ref f31))) (l31 : K.lookup f31 = some ⟨oc31, od31, .func (PySem.W.fnOf "leaps_inside" "leaps_inside" (defArgs s_leaps_inside) (defBody s_leaps_inside) (defScope s_leaps_inside) .none kV31 dc31 pm31 an31 cd31 ct31), sl31⟩) (c31 : PySem.W.codeIn K cd31 "leaps_inside" = true) (k31 : PySem.W.keepIn K (.ref f31) = true)
    (a32 : PySem.W.nsIn K mainGlobals "sizes_of" = some (some (.ref f32))) (l32 : K.lookup f32 = some ⟨oc32, od32, .func (PySem.W.fnOf "sizes_of" "sizes_of" (defArgs s_sizes_of) (defBody s_sizes_of) (defScope s_sizes_of) .none kV32 dc32 pm32 an32 cd32 ct32), sl32⟩) (c32 : PySem.W.codeIn K cd32 "sizes_of" = true) (k32 : PySem.W.keepIn K (.ref f32) = true)
    (a33 : PySem.W.nsIn K mainGlobals "is_behind" = some (some (.ref f33))) (l33 : K.lookup f33 = some ⟨oc33, od33, .func (PySem.W.fnOf "is_behind" "is_behind" (defArgs s_is_behind) (defBody s_is_behind) (defScope s_is_behind) .none kV33 dc33 pm33 an33 cd33 ct33), sl33⟩) (c33 : PySem.W.codeIn K cd33 "is_behind" = true) (k33 : PySem.W.keepIn K (.ref f33) = true)
    (a34 : PySem.W.nsIn K mainGlobals "_law_taken" = some (some (.ref f34))) (l34 : K.lookup f34 = some ⟨oc34, od34, .func (PySem.W.fnOf "_law_taken" "_law_taken" (defArgs s_law_taken) (defBody s_law_taken) (defScope s_law_taken) .none kV34 dc34 pm34 an34 cd34 ct34), sl34⟩) (c34 : PySem.W.codeIn K cd34 "_law_taken" = true) (k34 : PySem.W.keepIn K (.ref f34) = true)
    (a35 : PySem.W.nsIn K mainGlobals "_law_pick" = some (some (.ref f35))) (l35 : K.lookup f35 = some ⟨oc35, od35, .func (PySem.W.fnOf "_law_pick" "_law_pick" (defArgs s_law_pick) (defBody s_law_pick) (defScope s_law_pick) .none kV35 dc35 pm35 an35 cd35 ct35), sl35⟩) (c35 : PySem.W.codeIn K cd35 "_law_pick" = true) (k35 : PySem.W.keepIn K (.ref f35) = true)
    (a36 : PySem.W.nsIn K mainGlobals "_law_alike" = some (some (.ref f36))) (l36 : K.lookup f36 = some ⟨oc36, od36, .func (PySem.W.fnOf "_law_alike" "_law_alike" (defArgs s_law_alike) (defBody s_law_alike) (defScope s_law_alike) .none kV36 dc36 pm36 an36 cd36 ct36), sl36⟩) (c36 : PySem.W.codeIn K cd36 "_law_alike" = true) (k36 : PySem.W.keepIn K (.ref f36) = true)
    (a37 : PySem.W.nsIn K mainGlobals "_law_state" = some (some (.ref f37))) (l37 : K.lookup f37 = some ⟨oc37, od37, .func (PySem.W.fnOf "_law_state" "_law_state" (defArgs s_law_state) (defBody s_law_state) (defScope s_law_state) .none kV37 dc37 pm37 an37 cd37 ct37), sl37⟩) (c37 : PySem.W.codeIn K cd37 "_law_state" = true) (k37 : PySem.W.keepIn K (.ref f37) = true)
    (a38 : PySem.W.nsIn K mainGlobals "_law_walk" = some (some (.ref f38))) (l38 : K.lookup f38 = some ⟨oc38, od38, .func (PySem.W.fnOf "_law_walk" "_law_walk" (defArgs s_law_walk) (defBody s_law_walk) (defScope s_law_walk) .none kV38 dc38 pm38 an38 cd38 ct38), sl38⟩) (c38 : PySem.W.codeIn K cd38 "_law_walk" = true) (k38 : PySem.W.keepIn K (.ref f38) = true)
    (a39 : PySem.W.nsIn K mainGlobals "_law_order" = some (some (.ref f39))) (l39 : K.lookup f39 = some ⟨oc39, od39, .func (PySem.W.fnOf "_law_order" "_law_order" (defArgs s_law_order) (defBody s_law_order) (defScope s_law_order) .none kV39 dc39 pm39 an39 cd39 ct39), sl39⟩) (c39 : PySem.W.codeIn K cd39 "_law_order" = true) (k39 : PySem.W.keepIn K (.ref f39) = true)
    (a40 : PySem.W.nsIn K mainGlobals "_law_leapt" = some (some (.ref f40))) (l40 : K.lookup f40 = some ⟨oc40, od40, .func (PySem.W.fnOf "_law_leapt" "_law_leapt" (defArgs s_law_leapt) (defBody s_law_leapt) (defScope s_law_leapt) .none kV40 dc40 pm40 an40 cd40 ct40), sl40⟩) (c40 : PySem.W.codeIn K cd40 "_law_leapt" = true) (k40 : PySem.W.keepIn K (.ref f40) = true)
    (a41 : PySem.W.nsIn K mainGlobals "_law_leaps" = some (some (.ref f41))) (l41 : K.lookup f41 = some ⟨oc41, od41, .func (PySem.W.fnOf "_law_leaps" "_law_leaps" (defArgs s_law_leaps) (defBody s_law_leaps) (defScope s_law_leaps) .none kV41 dc41 pm41 an41 cd41 ct41), sl41⟩) (c41 : PySem.W.codeIn K cd41 "_law_leaps" = true) (k41 : PySem.W.keepIn K (.ref f41) = true)
    (a42 : PySem.W.nsIn K mainGlobals "_law_inward" = some (some (.ref f42))) (l42 : K.lookup f42 = some ⟨oc42, od42, .func (PySem.W.fnOf "_law_inward" "_law_inward" (defArgs s_law_inward) (defBody s_law_inward) (defScope s_law_inward) .none kV42 dc42 pm42 an42 cd42 ct42), sl42⟩) (c42 : PySem.W.codeIn K cd42 "_law_inward" = true) (k42 : PySem.W.keepIn K (.ref f42) = true)
    (a43 : PySem.W.nsIn K mainGlobals "_law_line" = some (some (.ref f43))) (l43 : K.lookup f43 = some ⟨oc43, od43, .func (PySem.W.fnOf "_law_line" "_law_line" (defArgs s_law_line) (defBody s_law_line) (defScope s_law_line) .none kV43 dc43 pm43 an43 cd43 ct43), sl43⟩) (c43 : PySem.W.codeIn K cd43 "_law_line" = true) (k43 : PySem.W.keepIn K (.ref f43) = true)
    (a44 : PySem.W.nsIn K mainGlobals "_law_behind" = some (some (.ref f44))) (l44 : K.lookup f44 = some ⟨oc44, od44, .func (PySem.W.fnOf "_law_behind" "_law_behind" (defArgs s_law_behind) (defBody s_law_behind) (defScope s_law_behind) .none kV44 dc44 pm44 an44 cd44 ct44), sl44⟩) (c44 : PySem.W.codeIn K cd44 "_law_behind" = true) (k44 : PySem.W.keepIn K (.ref f44) = true)
    (a45 : PySem.W.nsIn K mainGlobals "_law_field" = some (some (.ref f45))) (l45 : K.lookup f45 = some ⟨oc45, od45, .func (PySem.W.fnOf "_law_field" "_law_field" (defArgs s_law_field) (defBody s_law_field) (defScope s_law_field) .none kV45 dc45 pm45 an45 cd45 ct45), sl45⟩) (c45 : PySem.W.codeIn K cd45 "_law_field" = true) (k45 : PySem.W.keepIn K (.ref f45) = true)
    (a46 : PySem.W.nsIn K mainGlobals "_law_shuts" = some (some (.ref f46))) (l46 : K.lookup f46 = some ⟨oc46, od46, .func (PySem.W.fnOf "_law_shuts" "_law_shuts" (defArgs s_law_shuts) (defBody s_law_shuts) (defScope s_law_shuts) .none kV46 dc46 pm46 an46 cd46 ct46), sl46⟩) (c46 : PySem.W.codeIn K cd46 "_law_shuts" = true) (k46 : PySem.W.keepIn K (.ref f46) = true)
    (a47 : PySem.W.nsIn K mainGlobals "_law_common" = some (some (.ref f47))) (l47 : K.lookup f47 = some ⟨oc47, od47, .func (PySem.W.fnOf "_law_common" "_law_common" (defArgs s_law_common) (defBody s_law_common) (defScope s_law_common) .none kV47 dc47 pm47 an47 cd47 ct47), sl47⟩) (c47 : PySem.W.codeIn K cd47 "_law_common" = true) (k47 : PySem.W.keepIn K (.ref f47) = true)
    (a48 : PySem.W.nsIn K mainGlobals "_law_pair" = some (some (.ref f48))) (l48 : K.lookup f48 = some ⟨oc48, od48, .func (PySem.W.fnOf "_law_pair" "_law_pair" (defArgs s_law_pair) (defBody s_law_pair) (defScope s_law_pair) .none kV48 dc48 pm48 an48 cd48 ct48), sl48⟩) (c48 : PySem.W.codeIn K cd48 "_law_pair" = true) (k48 : PySem.W.keepIn K (.ref f48) = true)
    (a49 : PySem.W.nsIn K mainGlobals "law" = some (some (.ref f49))) (l49 : K.lookup f49 = some ⟨oc49, od49, .func (PySem.W.fnOf "law" "law" (defArgs s_law) (defBody s_law) (defScope s_law) .none kV49 dc49 pm49 an49 cd49 ct49), sl49⟩) (c49 : PySem.W.codeIn K cd49 "law" = true) (k49 : PySem.W.keepIn K (.ref f49) = true)
    (z_isinstance : PySem.W.nsIn K mainGlobals "isinstance" = some none)
    (z_int : PySem.W.nsIn K mainGlobals "int" = some none)
    (z_bool : PySem.W.nsIn K mainGlobals "bool" = some none)
    (z_tuple : PySem.W.nsIn K mainGlobals "tuple" = some none)
    (z_len : PySem.W.nsIn K mainGlobals "len" = some none)
    (z_all : PySem.W.nsIn K mainGlobals "all" = some none)
    (z_sorted : PySem.W.nsIn K mainGlobals "sorted" = some none)
    (z_enumerate : PySem.W.nsIn K mainGlobals "enumerate" = some none)
    (z_abs : PySem.W.nsIn K mainGlobals "abs" = some none)
    (z_list : PySem.W.nsIn K mainGlobals "list" = some none)
    (z_min : PySem.W.nsIn K mainGlobals "min" = some none)
    (z_max : PySem.W.nsIn K mainGlobals "max" = some none)
    (z_range : PySem.W.nsIn K mainGlobals "range" = some none)
    (z_sum : PySem.W.nsIn K mainGlobals "sum" = some none)
    (z_str : PySem.W.nsIn K mainGlobals "str" = some none)
    (g_ST : PySem.W.nsIn K mainGlobals "STONES" = some (some (.int 3 tS)))
    (g_MF : PySem.W.nsIn K mainGlobals "MOST_FIELD" = some (some (.int 20000 tF))) :
    ∃ fd : FuncData, (∀ (s : Shared) (u : Value), BindsTo s fd ⟨[u], []⟩ [("_law_script", u)]) ∧ ∀ base : Heap, K.In base → base.Ns mainGlobals mg → FnOk l.prog w K mg base CX0 9 fa fd ["_law_script"] (spLaw K) := by
  have T : Top K mg := ⟨PySem.W.mg_none_of X G z_isinstance,
    PySem.W.mg_none_of X G z_int,
    PySem.W.mg_none_of X G z_bool,
    PySem.W.mg_none_of X G z_tuple,
    PySem.W.mg_none_of X G z_len,
    PySem.W.mg_none_of X G z_all,
    PySem.W.mg_none_of X G z_sorted,
    PySem.W.mg_none_of X G z_enumerate,
    PySem.W.mg_none_of X G z_abs,
    PySem.W.mg_none_of X G z_list,
    PySem.W.mg_none_of X G z_min,
    PySem.W.mg_none_of X G z_max,
    PySem.W.mg_none_of X G z_range,
    PySem.W.mg_none_of X G z_sum,
    PySem.W.mg_none_of X G z_str,
    hMP,
    ⟨_, PySem.W.mg_of X G g_ST, ⟨_, rfl⟩⟩,
    hMS,
    ⟨_, PySem.W.mg_of X G g_MF, ⟨_, rfl⟩⟩,
    dfn_mk X G bd_is_int a0 l0 c0 k0,
    dfn_mk X G bd_is_in a1 l1 c1 k1,
    dfn_mk X G bd_is_state a2 l2 c2 k2,
    dfn_mk X G bd_need_state a3 l3 c3 k3,
    dfn_mk X G bd_order_of a4 l4 c4 k4,
    dfn_mk X G bd_common a5 l5 c5 k5,
    dfn_mk X G bd_gaps_of a6 l6 c6 k6,
    dfn_mk X G bd_middle_of a7 l7 c7 k7,
    dfn_mk X G bd_grain_of a8 l8 c8 k8,
    dfn_mk X G bd_pair_of a9 l9 c9 k9,
    dfn_mk X G bd_leaps_of a10 l10 c10 k10,
    dfn_mk X G bd_leapt_to a11 l11 c11 k11,
    dfn_mk X G bd_need_leap a12 l12 c12 k12,
    dfn_mk X G bd_runs_of a13 l13 c13 k13,
    dfn_mk X G bd_order_behind a14 l14 c14 k14,
    dfn_mk X G bd_begin_order a15 l15 c15 k15,
    dfn_mk X G bd_is_same a16 l16 c16 k16,
    dfn_mk X G bd_are_walls a17 l17 c17 k17,
    dfn_mk X G bd_need_walls a18 l18 c18 k18,
    dfn_mk X G bd_box_of a19 l19 c19 k19,
    dfn_mk X G bd_mobius a20 l20 c20 k20,
    dfn_mk X G bd_chosen_pairs a21 l21 c21 k21,
    dfn_mk X G bd_need_box a22 l22 c22 k22,
    dfn_mk X G bd_pairs_within a23 l23 c23 k23,
    dfn_mk X G bd_need_field a24 l24 c24 k24,
    dfn_mk X G bd_parent_of a25 l25 c25 k25,
    dfn_mk X G bd_heights_of a26 l26 c26 k26,
    dfn_mk X G bd_max_low a27 l27 c27 k27,
    dfn_mk X G bd_need_two a28 l28 c28 k28,
    dfn_mk X G bd_behind_within a29 l29 c29 k29,
    dfn_mk X G bd_ways_over a30 l30 c30 k30,
    dfn_mk X G bd_leaps_inside a31 l31 c31 k31,
    dfn_mk X G bd_sizes_of a32 l32 c32 k32,
    dfn_mk X G bd_is_behind a33 l33 c33 k33,
    dfn_mk X G bd_law_taken a34 l34 c34 k34,
    dfn_mk X G bd_law_pick a35 l35 c35 k35,
    dfn_mk X G bd_law_alike a36 l36 c36 k36,
    dfn_mk X G bd_law_state a37 l37 c37 k37,
    dfn_mk X G bd_law_walk a38 l38 c38 k38,
    dfn_mk X G bd_law_order a39 l39 c39 k39,
    dfn_mk X G bd_law_leapt a40 l40 c40 k40,
    dfn_mk X G bd_law_leaps a41 l41 c41 k41,
    dfn_mk X G bd_law_inward a42 l42 c42 k42,
    dfn_mk X G bd_law_line a43 l43 c43 k43,
    dfn_mk X G bd_law_behind a44 l44 c44 k44,
    dfn_mk X G bd_law_field a45 l45 c45 k45,
    dfn_mk X G bd_law_shuts a46 l46 c46 k46,
    dfn_mk X G bd_law_common a47 l47 c47 k47,
    dfn_mk X G bd_law_pair a48 l48 c48 k48⟩
  have e := hfa.symm.trans (PySem.W.mg_of X G a49)
  cases e
  exact ⟨_, fun s v => .of_eq (bd_law kV49 dc49 pm49 an49 cd49 ct49 [v] rfl), fun base _ _ => ok_law T (fun_mk (st := s_law) l49 c49 k49)⟩
end LR
open PySem PySem.W PyProof.Rows in
set_option maxRecDepth 100000 in
set_option maxHeartbeats 0 in
theorem PySem.Challenge.cw_leaprows_k43_whole_outward_parts_holds : PySem.Challenge.rw_leaprows_k43_whole_outward_parts.Holds := by
  w_on; o_law; k_head; (case hw => w_witness2)
  k_fill
  refine LR.walk (l := PySem.Challenge.rw_leaprows_k43_whole_outward_parts) rfl rfl (fun w h Y => PySem.W.kIn_of Y) ?F
  case F =>
    intro w mg fa h KX G LV hmg
    obtain ⟨vMP, hMP, rMP⟩ := LV.val (("MOST_PLACE" : Str), .int 1000000000000000000) (List.Mem.head _)
    obtain ⟨vMS, hMS, rMS⟩ := LV.val (("MOST_SIDE" : Str), .int 100000) (List.Mem.tail _ (List.Mem.head _))
    refine' LR.all_mk KX G hmg ⟨_, hMP, LR.lit_int rMP⟩ ⟨_, hMS, LR.lit_int rMS⟩ ?a0 ?l0 ?c0 ?k0 ?a1 ?l1 ?c1 ?k1 ?a2 ?l2 ?c2 ?k2 ?a3 ?l3 ?c3 ?k3 ?a4 ?l4 ?c4 ?k4 ?a5 ?l5 ?c5 ?k5 ?a6 ?l6 ?c6 ?k6 ?a7 ?l7 ?c7 ?k7 ?a8 ?l8 ?c8 ?k8 ?a9 ?l9 ?c9 ?k9 ?a10 ?l10 ?c10 ?k10 ?a11 ?l11 ?c11 ?k11 ?a12 ?l12 ?c12 ?k12 ?a13 ?l13 ?c13 ?k13 ?a14 ?l14 ?c14 ?k14 ?a15 ?l15 ?c15 ?k15 ?a16 ?l16 ?c16 ?k16 ?a17 ?l17 ?c17 ?k17 ?a18 ?l18 ?c18 ?k18 ?a19 ?l19 ?c19 ?k19 ?a20 ?l20 ?c20 ?k20 ?a21 ?l21 ?c21 ?k21 ?a22 ?l22 ?c22 ?k22 ?a23 ?l23 ?c23 ?k23 ?a24 ?l24 ?c24 ?k24 ?a25 ?l25 ?c25 ?k25 ?a26 ?l26 ?c26 ?k26 ?a27 ?l27 ?c27 ?k27 ?a28 ?l28 ?c28 ?k28 ?a29 ?l29 ?c29 ?k29 ?a30 ?l30 ?c30 ?k30 ?a31 ?l31 ?c31 ?k31 ?a32 ?l32 ?c32 ?k32 ?a33 ?l33 ?c33 ?k33 ?a34 ?l34 ?c34 ?k34 ?a35 ?l35 ?c35 ?k35 ?a36 ?l36 ?c36 ?k36 ?a37 ?l37 ?c37 ?k37 ?a38 ?l38 ?c38 ?k38 ?a39 ?l39 ?c39 ?k39 ?a40 ?l40 ?c40 ?k40 ?a41 ?l41 ?c41 ?k41 ?a42 ?l42 ?c42 ?k42 ?a43 ?l43 ?c43 ?k43 ?a44 ?l44 ?c44 ?k44 ?a45 ?l45 ?c45 ?k45 ?a46 ?l46 ?c46 ?k46 ?a47 ?l47 ?c47 ?k47 ?a48 ?l48 ?c48 ?k48 ?a49 ?l49 ?c49 ?k49 ?z_isinstance ?z_int ?z_bool ?z_tuple ?z_len ?z_all ?z_sorted ?z_enumerate ?z_abs ?z_list ?z_min ?z_max ?z_range ?z_sum ?z_str ?g_ST ?g_MF
    (case a0 => k_is)
    (case l0 => k_is)
    (case c0 => k_is)
    (case k0 => k_is)
    (case a1 => k_is)
    (case l1 => k_is)
    (case c1 => k_is)
    (case k1 => k_is)
    (case a2 => k_is)
    (case l2 => k_is)
    (case c2 => k_is)
    (case k2 => k_is)
    (case a3 => k_is)
    (case l3 => k_is)
    (case c3 => k_is)
    (case k3 => k_is)
    (case a4 => k_is)
    (case l4 => k_is)
    (case c4 => k_is)
    (case k4 => k_is)
    (case a5 => k_is)
    (case l5 => k_is)
    (case c5 => k_is)
    (case k5 => k_is)
    (case a6 => k_is)
    (case l6 => k_is)
    (case c6 => k_is)
    (case k6 => k_is)
    (case a7 => k_is)
    (case l7 => k_is)
    (case c7 => k_is)
    (case k7 => k_is)
    (case a8 => k_is)
    (case l8 => k_is)
    (case c8 => k_is)
    (case k8 => k_is)
    (case a9 => k_is)
    (case l9 => k_is)
    (case c9 => k_is)
    (case k9 => k_is)
    (case a10 => k_is)
    (case l10 => k_is)
    (case c10 => k_is)
    (case k10 => k_is)
    (case a11 => k_is)
    (case l11 => k_is)
    (case c11 => k_is)
    (case k11 => k_is)
    (case a12 => k_is)
    (case l12 => k_is)
    (case c12 => k_is)
    (case k12 => k_is)
    (case a13 => k_is)
    (case l13 => k_is)
    (case c13 => k_is)
    (case k13 => k_is)
    (case a14 => k_is)
    (case l14 => k_is)
    (case c14 => k_is)
    (case k14 => k_is)
    (case a15 => k_is)
    (case l15 => k_is)
    (case c15 => k_is)
    (case k15 => k_is)
    (case a16 => k_is)
    (case l16 => k_is)
    (case c16 => k_is)
    (case k16 => k_is)
    (case a17 => k_is)
    (case l17 => k_is)
    (case c17 => k_is)
    (case k17 => k_is)
    (case a18 => k_is)
    (case l18 => k_is)
    (case c18 => k_is)
    (case k18 => k_is)
    (case a19 => k_is)
    (case l19 => k_is)
    (case c19 => k_is)
    (case k19 => k_is)
    (case a20 => k_is)
    (case l20 => k_is)
    (case c20 => k_is)
    (case k20 => k_is)
    (case a21 => k_is)
    (case l21 => k_is)
    (case c21 => k_is)
    (case k21 => k_is)
    (case a22 => k_is)
    (case l22 => k_is)
    (case c22 => k_is)
    (case k22 => k_is)
    (case a23 => k_is)
    (case l23 => k_is)
    (case c23 => k_is)
    (case k23 => k_is)
    (case a24 => k_is)
    (case l24 => k_is)
    (case c24 => k_is)
    (case k24 => k_is)
    (case a25 => k_is)
    (case l25 => k_is)
    (case c25 => k_is)
    (case k25 => k_is)
    (case a26 => k_is)
    (case l26 => k_is)
    (case c26 => k_is)
    (case k26 => k_is)
    (case a27 => k_is)
    (case l27 => k_is)
    (case c27 => k_is)
    (case k27 => k_is)
    (case a28 => k_is)
    (case l28 => k_is)
    (case c28 => k_is)
    (case k28 => k_is)
    (case a29 => k_is)
    (case l29 => k_is)
    (case c29 => k_is)
    (case k29 => k_is)
    (case a30 => k_is)
    (case l30 => k_is)
    (case c30 => k_is)
    (case k30 => k_is)
    (case a31 => k_is)
    (case l31 => k_is)
    (case c31 => k_is)
    (case k31 => k_is)
    (case a32 => k_is)
    (case l32 => k_is)
    (case c32 => k_is)
    (case k32 => k_is)
    (case a33 => k_is)
    (case l33 => k_is)
    (case c33 => k_is)
    (case k33 => k_is)
    (case a34 => k_is)
    (case l34 => k_is)
    (case c34 => k_is)
    (case k34 => k_is)
    (case a35 => k_is)
    (case l35 => k_is)
    (case c35 => k_is)
    (case k35 => k_is)
    (case a36 => k_is)
    (case l36 => k_is)
    (case c36 => k_is)
    (case k36 => k_is)
    (case a37 => k_is)
    (case l37 => k_is)
    (case c37 => k_is)
    (case k37 => k_is)
    (case a38 => k_is)
    (case l38 => k_is)
    (case c38 => k_is)
    (case k38 => k_is)
    (case a39 => k_is)
    (case l39 => k_is)
    (case c39 => k_is)
    (case k39 => k_is)
    (case a40 => k_is)
    (case l40 => k_is)
    (case c40 => k_is)
    (case k40 => k_is)
    (case a41 => k_is)
    (case l41 => k_is)
    (case c41 => k_is)
    (case k41 => k_is)
    (case a42 => k_is)
    (case l42 => k_is)
    (case c42 => k_is)
    (case k42 => k_is)
    (case a43 => k_is)
    (case l43 => k_is)
    (case c43 => k_is)
    (case k43 => k_is)
    (case a44 => k_is)
    (case l44 => k_is)
    (case c44 => k_is)
    (case k44 => k_is)
    (case a45 => k_is)
    (case l45 => k_is)
    (case c45 => k_is)
    (case k45 => k_is)
    (case a46 => k_is)
    (case l46 => k_is)
    (case c46 => k_is)
    (case k46 => k_is)
    (case a47 => k_is)
    (case l47 => k_is)
    (case c47 => k_is)
    (case k47 => k_is)
    (case a48 => k_is)
    (case l48 => k_is)
    (case c48 => k_is)
    (case k48 => k_is)
    (case a49 => k_is)
    (case l49 => k_is)
    (case c49 => k_is)
    (case k49 => k_is)
    (case z_isinstance => k_is)
    (case z_int => k_is)
    (case z_bool => k_is)
    (case z_tuple => k_is)
    (case z_len => k_is)
    (case z_all => k_is)
    (case z_sorted => k_is)
    (case z_enumerate => k_is)
    (case z_abs => k_is)
    (case z_list => k_is)
    (case z_min => k_is)
    (case z_max => k_is)
    (case z_range => k_is)
    (case z_sum => k_is)
    (case z_str => k_is)
    (case g_ST => k_is)
    (case g_MF => k_is)
