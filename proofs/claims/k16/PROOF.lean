import PyProof.Rows.All
import Wide.All
import OpenK.AllK
import Wide.FinOn
import HandS.ForMost
import HandS.Style
import HandS.TupAny
import HandS.Conv
import HandS.IsInst
import HandS.Strs
import HandS.SetFor
import HandS.RaiseMore
import HandS.Zip
import HandS.TupSets
import KE.SortData
import PySem.Challenge.RW_onescale_k16_whole_least_lots_counted
set_option Elab.async false
set_option linter.all false
set_option maxRecDepth 100000
namespace K16
/-! ## trees by depth -/
inductive Node (α : Type) where
  | leaf (b : Int)
  | trip (k : Nat) (ps : List α)
def Tr : Nat → Type
  | 0 => Empty
  | n + 1 => Node (Tr n)
def leaf {n : Nat} (b : Int) : Tr (n + 1) := (Node.leaf b : Node (Tr n))
def trip {n : Nat} (k : Nat) (ps : List (Tr n)) : Tr (n + 1) := (Node.trip k ps : Node (Tr n))
theorem tr_cases {n : Nat} {M : Tr (n + 1) → Prop} (h1 : ∀ b, M (leaf b)) (h2 : ∀ k ps, M (trip k ps)) (t : Tr (n + 1)) : M t :=
  match (t : Node (Tr n)) with
  | .leaf b => h1 b
  | .trip k ps => h2 k ps
abbrev Lot := Int → Bool
def held : (n : Nat) → Tr n → List Int
  | 0, t => Empty.elim t
  | n + 1, t => match (t : Node (Tr n)) with
    | .leaf b => [b]
    | .trip _ ps => ps.flatMap (held n)
def WF : (n : Nat) → Tr n → Prop
  | 0, _ => False
  | n + 1, t => match (t : Node (Tr n)) with
    | .leaf _ => True
    | .trip k ps => 1 ≤ k ∧ k ≤ ps.length ∧ ∀ p ∈ ps, WF n p
def goes : (n : Nat) → Tr n → Lot → Bool
  | 0, t, _ => Empty.elim t
  | n + 1, t, S => match (t : Node (Tr n)) with
    | .leaf b => S b
    | .trip k ps => decide (k ≤ ps.countP (fun p => goes n p S))
/-- a row of numbers, by place -/
def row0 : Nat → Nat := fun j => if j = 0 then 1 else 0
def stepE (r : Nat → Nat) (e l : Nat) : Nat → Nat
  | 0 => r 0 * e
  | j + 1 => r (j + 1) * e + r j * l
def b2n (b : Bool) : Nat := if b then 1 else 0
def free (bs : List Int) (mu : Lot) : Bool := !bs.any mu
def lm : (n : Nat) → Lot → Lot → Tr n → Nat
  | 0, _, _, t => Empty.elim t
  | n + 1, mu, ne, t => match (t : Node (Tr n)) with
    | .leaf b => if ne b then 0 else 1
    | .trip k ps => (ps.foldl (fun r p => stepE r (b2n (free (held n p) mu)) (lm n mu ne p)) row0) k
def rowOf (n : Nat) (mu ne : Lot) (ps : List (Tr n)) : Nat → Nat := ps.foldl (fun r p => stepE r (b2n (free (held n p) mu)) (lm n mu ne p)) row0

section
variable {n : Nat}
theorem held_leaf (b : Int) : held (n + 1) (leaf b) = [b] := rfl
theorem held_trip (k : Nat) (ps : List (Tr n)) : held (n + 1) (trip k ps) = ps.flatMap (held n) := rfl
theorem WF_trip (k : Nat) (ps : List (Tr n)) : WF (n + 1) (trip k ps) ↔ 1 ≤ k ∧ k ≤ ps.length ∧ ∀ p ∈ ps, WF n p := Iff.rfl
theorem goes_leaf (b : Int) (S : Lot) : goes (n + 1) (leaf b) S = S b := rfl
theorem goes_trip (k : Nat) (ps : List (Tr n)) (S : Lot) : goes (n + 1) (trip k ps) S = decide (k ≤ ps.countP (fun p => goes n p S)) := rfl
theorem lm_leaf (mu ne : Lot) (b : Int) : lm (n + 1) mu ne (leaf b) = if ne b then 0 else 1 := rfl
theorem lm_trip (mu ne : Lot) (k : Nat) (ps : List (Tr n)) : lm (n + 1) mu ne (trip k ps) = rowOf n mu ne ps k := rfl
end

/-! ## sums over all lots of a list of buttons -/
def put (b : Int) (v : Bool) (S : Lot) : Lot := fun x => if x = b then v else S x
def sm : List Int → (Lot → Nat) → Nat
  | [], f => f (fun _ => false)
  | b :: bs, f => sm bs (fun S => f (put b false S)) + sm bs (fun S => f (put b true S))
theorem put_same {b : Int} {v : Bool} {S : Lot} : put b v S b = v := by simp [put]
theorem put_ne {b x : Int} {v : Bool} {S : Lot} (h : x ≠ b) : put b v S x = S x := by simp [put, h]
theorem sm_congr {bs : List Int} {f g : Lot → Nat} (h : ∀ S, f S = g S) : sm bs f = sm bs g := by
  have : f = g := funext h
  rw [this]
theorem sm_add : ∀ (bs : List Int) (f g : Lot → Nat), sm bs (fun S => f S + g S) = sm bs f + sm bs g
  | [], _, _ => rfl
  | b :: bs, f, g => by
    simp only [sm]
    rw [sm_add bs, sm_add bs]
    omega
theorem sm_mul : ∀ (bs : List Int) (f : Lot → Nat) (c : Nat), sm bs (fun S => f S * c) = sm bs f * c
  | [], _, _ => rfl
  | b :: bs, f, c => by
    simp only [sm]
    rw [sm_mul bs, sm_mul bs, Nat.add_mul]
theorem sm_mul' (bs : List Int) (f : Lot → Nat) (c : Nat) : sm bs (fun S => c * f S) = c * sm bs f := by
  rw [Nat.mul_comm, ← sm_mul]
  exact sm_congr fun S => Nat.mul_comm _ _
theorem sm_zero : ∀ (bs : List Int), sm bs (fun _ => 0) = 0
  | [] => rfl
  | b :: bs => by
    simp only [sm]
    rw [sm_zero bs]
theorem sm_le : ∀ (bs : List Int) (f : Lot → Nat), (∀ S, f S ≤ 1) → sm bs f ≤ 2 ^ bs.length
  | [], f, h => h _
  | b :: bs, f, h => by
    simp only [sm]
    have h1 := sm_le bs (fun S => f (put b false S)) fun S => h _
    have h2 := sm_le bs (fun S => f (put b true S)) fun S => h _
    rw [List.length_cons, Nat.pow_succ]
    omega
theorem put_comm {a b : Int} {u v : Bool} {S : Lot} (h : a ≠ b) : put a u (put b v S) = put b v (put a u S) := by
  funext x
  simp only [put]
  by_cases h1 : x = a
  · by_cases h2 : x = b
    · exact absurd (h1.symm.trans h2) h
    · simp [h1, h]
  · simp [h1]
theorem sm_perm {as bs : List Int} (p : as.Perm bs) : ∀ f : Lot → Nat, sm as f = sm bs f := by
  induction p with
  | nil => exact fun _ => rfl
  | cons a _ ih =>
    intro f
    simp only [sm]
    rw [ih, ih]
  | swap a b l =>
    intro f
    simp only [sm]
    by_cases h : a = b
    · subst h; rfl
    · have e : ∀ (u v : Bool) (S : Lot), f (put a u (put b v S)) = f (put b v (put a u S)) := fun u v S => by rw [put_comm h]
      simp only [e]
      omega
  | trans _ _ ih1 ih2 => intro f; rw [ih1, ih2]
/-- f looks at the buttons of bs alone -/
def Loc (bs : List Int) (f : Lot → Nat) : Prop := ∀ S T : Lot, (∀ x ∈ bs, S x = T x) → f S = f T
theorem sm_prod : ∀ (as bs : List Int) (f g : Lot → Nat), (∀ a ∈ as, a ∉ bs) → Loc as f → Loc bs g → sm (as ++ bs) (fun S => f S * g S) = sm as f * sm bs g
  | [], bs, f, g, _, hf, _ => by
    show sm bs (fun S => f S * g S) = f (fun _ => false) * sm bs g
    rw [← sm_mul']
    exact sm_congr fun S => by rw [hf S (fun _ => false) fun x hx => absurd hx (by simp)]
  | a :: as, bs, f, g, hd, hf, hg => by
    have ha : a ∉ bs := hd a List.mem_cons_self
    have hg' : ∀ (v : Bool) (S : Lot), g (put a v S) = g S := fun v S => hg _ _ fun x hx => put_ne fun e => ha (e ▸ hx)
    have hf' : ∀ v : Bool, Loc as (fun S => f (put a v S)) := fun v S T h => hf _ _ fun x hx => by
      by_cases e : x = a
      · rw [e, put_same, put_same]
      · rw [put_ne e, put_ne e]
        rcases List.mem_cons.mp hx with q | q
        · exact absurd q e
        · exact h x q
    have hd' : ∀ a ∈ as, a ∉ bs := fun x hx => hd x (List.mem_cons_of_mem _ hx)
    show sm (as ++ bs) (fun S => f (put a false S) * g (put a false S)) + sm (as ++ bs) (fun S => f (put a true S) * g (put a true S)) = (sm as (fun S => f (put a false S)) + sm as (fun S => f (put a true S))) * sm bs g
    simp only [hg']
    rw [sm_prod as bs _ g hd' (hf' false) hg, sm_prod as bs _ g hd' (hf' true) hg, Nat.add_mul]

/-! ## what goes, what is least -/
def emp (bs : List Int) (S : Lot) : Bool := bs.all (fun b => !S b)
def okf (bs : List Int) (mu ne S : Lot) : Bool := bs.all (fun b => (!mu b || S b) && (!ne b || !S b))
def Lt (n : Nat) (t : Tr n) (S : Lot) : Bool := goes n t S && (held n t).all (fun b => !S b || !goes n t (put b false S))

theorem goes_mono : ∀ (n : Nat) (t : Tr n) (S T : Lot), (∀ x ∈ held n t, S x = true → T x = true) → goes n t S = true → goes n t T = true
  | 0, t, _, _, _, _ => Empty.elim t
  | n + 1, t, S, T, h, g => by
    revert h g
    refine tr_cases (M := fun t => (∀ x ∈ held (n + 1) t, S x = true → T x = true) → goes (n + 1) t S = true → goes (n + 1) t T = true) (fun b h g => ?_) (fun k ps h g => ?_) t
    · exact h b (by rw [held_leaf]; exact List.mem_singleton.mpr rfl) g
    · rw [goes_trip, decide_eq_true_eq] at g ⊢
      refine Nat.le_trans g (List.countP_mono_left fun p hp gp => goes_mono n p S T (fun x hx => h x ?_) gp)
      rw [held_trip]
      exact List.mem_flatMap.mpr ⟨p, hp, hx⟩
theorem goes_loc {n : Nat} {t : Tr n} {S T : Lot} (h : ∀ x ∈ held n t, S x = T x) : goes n t S = goes n t T := by
  rw [Bool.eq_iff_iff]
  exact ⟨goes_mono n t S T fun x hx e => by rw [← h x hx]; exact e, goes_mono n t T S fun x hx e => by rw [h x hx]; exact e⟩
theorem goes_emp : ∀ (n : Nat) (t : Tr n) (S : Lot), WF n t → emp (held n t) S = true → goes n t S = false
  | 0, t, _, _, _ => Empty.elim t
  | n + 1, t, S, w, h => by
    revert w h
    refine tr_cases (M := fun t => WF (n + 1) t → emp (held (n + 1) t) S = true → goes (n + 1) t S = false) (fun b w h => ?_) (fun k ps w h => ?_) t
    · rw [goes_leaf]
      simpa [emp, held_leaf] using h
    · obtain ⟨h1, h2, h3⟩ := (WF_trip k ps).mp w
      have z : ps.countP (fun p => goes n p S) = 0 := by
        rw [List.countP_eq_zero]
        intro p hp
        have : goes n p S = false := goes_emp n p S (h3 p hp) (by
          unfold emp at h ⊢
          rw [List.all_eq_true] at h ⊢
          exact fun x hx => h x (by rw [held_trip]; exact List.mem_flatMap.mpr ⟨p, hp, hx⟩))
        rw [this]
        exact Bool.false_ne_true
      rw [goes_trip, z, decide_eq_false_iff_not]
      omega
theorem Lt_iff {n : Nat} {t : Tr n} {S : Lot} : Lt n t S = true ↔ goes n t S = true ∧ ∀ b ∈ held n t, S b = true → goes n t (put b false S) = false := by
  unfold Lt
  rw [Bool.and_eq_true, List.all_eq_true]
  constructor
  · rintro ⟨h1, h2⟩
    refine ⟨h1, fun b hb e => ?_⟩
    have := h2 b hb
    rw [e] at this
    simpa using this
  · rintro ⟨h1, h2⟩
    refine ⟨h1, fun b hb => ?_⟩
    cases e : S b with
    | false => rfl
    | true => rw [h2 b hb e]; rfl
theorem Lt_loc {n : Nat} {t : Tr n} {S T : Lot} (h : ∀ x ∈ held n t, S x = T x) : Lt n t S = Lt n t T := by
  have e2 : ∀ b, goes n t (put b false S) = goes n t (put b false T) := fun b => goes_loc fun x hx => by
    by_cases e : x = b
    · rw [e, put_same, put_same]
    · rw [put_ne e, put_ne e]; exact h x hx
  rw [Bool.eq_iff_iff, Lt_iff, Lt_iff, goes_loc h]
  refine and_congr Iff.rfl ⟨fun q b hb e => ?_, fun q b hb e => ?_⟩
  · rw [← e2]; exact q b hb (by rw [h b hb]; exact e)
  · rw [e2]; exact q b hb (by rw [← h b hb]; exact e)
theorem not_emp {bs : List Int} {S : Lot} (h : emp bs S = false) : ∃ b ∈ bs, S b = true := by
  unfold emp at h
  rw [List.all_eq_false] at h
  obtain ⟨b, hb, e⟩ := h
  exact ⟨b, hb, by simpa using e⟩
theorem emp_of {bs : List Int} {S : Lot} (h : emp bs S = true) : ∀ b ∈ bs, S b = false := by
  unfold emp at h
  rw [List.all_eq_true] at h
  intro b hb
  simpa using h b hb
theorem Lt_not_emp {n : Nat} {t : Tr n} {S : Lot} (w : WF n t) (h : Lt n t S = true) : emp (held n t) S = false := by
  cases e : emp (held n t) S with
  | false => rfl
  | true =>
    have := goes_emp n t S w e
    rw [(Lt_iff.mp h).1] at this
    cases this

/-- a button's part, and none of the others has it -/
theorem split_at {n : Nat} : ∀ {ps : List (Tr n)} {b : Int}, (ps.flatMap (held n)).Nodup → b ∈ ps.flatMap (held n) →
    ∃ xs p ys, ps = xs ++ p :: ys ∧ b ∈ held n p ∧ (∀ q ∈ xs, b ∉ held n q) ∧ ∀ q ∈ ys, b ∉ held n q
  | [], b, _, h => by simp at h
  | p :: r, b, hn, h => by
    rw [List.flatMap_cons] at hn h
    obtain ⟨n1, n2, n3⟩ := List.nodup_append.mp hn
    rcases List.mem_append.mp h with z | z
    · refine ⟨[], p, r, rfl, z, fun q hq => absurd hq (by simp), fun q hq hb => ?_⟩
      exact n3 b z b (List.mem_flatMap.mpr ⟨q, hq, hb⟩) rfl
    · obtain ⟨xs, p', ys, e, h1, h2, h3⟩ := split_at n2 z
      refine ⟨p :: xs, p', ys, by rw [e]; rfl, h1, fun q hq hb => ?_, h3⟩
      rcases List.mem_cons.mp hq with e | hq
      · exact n3 b (e ▸ hb) b z rfl
      · exact h2 q hq hb
theorem nodup_part {n : Nat} {ps : List (Tr n)} (h : (ps.flatMap (held n)).Nodup) {p : Tr n} (hp : p ∈ ps) : (held n p).Nodup := by
  obtain ⟨xs, ys, rfl⟩ := List.append_of_mem hp
  rw [List.flatMap_append, List.flatMap_cons] at h
  exact (List.nodup_append.mp (List.nodup_append.mp h).2.1).1

/-- how many parts go, with one button fewer -/
theorem count_put {n : Nat} {xs ys : List (Tr n)} {p : Tr n} {b : Int} {S : Lot} {v : Bool} (h2 : ∀ q ∈ xs, b ∉ held n q) (h3 : ∀ q ∈ ys, b ∉ held n q) :
    (xs ++ p :: ys).countP (fun q => goes n q (put b v S)) + b2n (goes n p S) = (xs ++ p :: ys).countP (fun q => goes n q S) + b2n (goes n p (put b v S)) := by
  have e : ∀ (l : List (Tr n)), (∀ q ∈ l, b ∉ held n q) → l.countP (fun q => goes n q (put b v S)) = l.countP (fun q => goes n q S) := fun l hl => by
    refine List.countP_congr fun q hq => ?_
    rw [goes_loc (S := put b v S) (T := S) fun x hx => put_ne fun e => hl q hq (e ▸ hx)]
  rw [List.countP_append, List.countP_append, List.countP_cons, List.countP_cons, e xs h2, e ys h3]
  unfold b2n
  omega
theorem Lt_trip {n : Nat} {k : Nat} {ps : List (Tr n)} (w : WF (n + 1) (trip k ps)) (hn : (ps.flatMap (held n)).Nodup) (S : Lot) :
    Lt (n + 1) (trip k ps) S = (ps.all (fun p => emp (held n p) S || Lt n p S) && (ps.countP (fun p => Lt n p S) == k)) := by
  obtain ⟨w1, w2, w3⟩ := (WF_trip k ps).mp w
  -- where each part is empty or least, going and being least are one
  have one : ps.all (fun p => emp (held n p) S || Lt n p S) = true → ps.countP (fun p => Lt n p S) = ps.countP (fun p => goes n p S) := fun h => by
    rw [List.all_eq_true] at h
    refine List.countP_congr fun p hp => ?_
    constructor
    · exact fun q => (Lt_iff.mp q).1
    · intro q
      have := h p hp
      rw [Bool.or_eq_true] at this
      rcases this with e | e
      · rw [goes_emp n p S (w3 p hp) e] at q; cases q
      · exact e
  rw [Bool.eq_iff_iff, Lt_iff, Bool.and_eq_true, beq_iff_eq, goes_trip, decide_eq_true_eq, held_trip]
  constructor
  · rintro ⟨g, hb⟩
    have hb' : ∀ xs p ys b, ps = xs ++ p :: ys → b ∈ held n p → (∀ q ∈ xs, b ∉ held n q) → (∀ q ∈ ys, b ∉ held n q) → S b = true →
        ps.countP (fun q => goes n q S) + b2n (goes n p (put b false S)) < k + b2n (goes n p S) := fun xs p ys b e h1 h2 h3 eb => by
      have hm : b ∈ ps.flatMap (held n) := by
        rw [e]
        exact List.mem_flatMap.mpr ⟨p, by simp, h1⟩
      have := hb b hm eb
      rw [goes_trip, decide_eq_false_iff_not] at this
      have c := count_put (S := S) (v := false) (p := p) h2 h3
      rw [← e] at c
      omega
    have all : ps.all (fun p => emp (held n p) S || Lt n p S) = true := by
      rw [List.all_eq_true]
      intro p hp
      rw [Bool.or_eq_true]
      cases ee : emp (held n p) S with
      | true => exact .inl rfl
      | false =>
        refine .inr (Lt_iff.mpr ?_)
        have key : ∀ b ∈ held n p, S b = true → goes n p S = true ∧ goes n p (put b false S) = false := fun b hbp eb => by
          obtain ⟨xs, p', ys, e, h1, h2, h3⟩ := split_at hn (List.mem_flatMap.mpr ⟨p, hp, hbp⟩)
          have ep : p = p' := by
            rw [e] at hp
            rcases List.mem_append.mp hp with q | q
            · exact absurd hbp (h2 p q)
            · rcases List.mem_cons.mp q with q | q
              · exact q
              · exact absurd hbp (h3 p q)
          subst ep
          have := hb' xs p ys b e h1 h2 h3 eb
          cases e1 : goes n p S with
          | false =>
            rw [e1] at this
            have z : goes n p (put b false S) = false := by
              cases e2 : goes n p (put b false S) with
              | false => rfl
              | true =>
                exfalso
                have := goes_mono n p (put b false S) S (fun x _ ex => by
                  by_cases e3 : x = b
                  · rw [e3]; exact eb
                  · rw [put_ne e3] at ex; exact ex) e2
                rw [e1] at this
                cases this
            rw [z] at this
            have g' := g
            omega
          | true =>
            refine ⟨rfl, ?_⟩
            cases e2 : goes n p (put b false S) with
            | false => rfl
            | true =>
              rw [e1, e2] at this
              simp only [b2n] at this
              omega
        obtain ⟨b, hbp, eb⟩ := not_emp ee
        exact ⟨(key b hbp eb).1, fun b hbp eb => (key b hbp eb).2⟩
    refine ⟨all, ?_⟩
    have c := one all
    by_cases hk : ps.countP (fun p => Lt n p S) = k
    · exact hk
    · exfalso
      have pos : 0 < ps.countP (fun p => Lt n p S) := by omega
      obtain ⟨p, hp, lp⟩ := List.countP_pos_iff.mp pos
      obtain ⟨b, hbp, eb⟩ := not_emp (Lt_not_emp (w3 p hp) lp)
      obtain ⟨xs, p', ys, e, h1, h2, h3⟩ := split_at hn (List.mem_flatMap.mpr ⟨p, hp, hbp⟩)
      have := hb' xs p' ys b e h1 h2 h3 eb
      have : b2n (goes n p' S) ≤ 1 := by unfold b2n; split <;> omega
      omega
  · rintro ⟨all, hk⟩
    have c := one all
    refine ⟨by omega, fun b hm eb => ?_⟩
    obtain ⟨xs, p, ys, e, h1, h2, h3⟩ := split_at hn hm
    have hp : p ∈ ps := by rw [e]; simp
    rw [List.all_eq_true] at all
    have := all p hp
    rw [Bool.or_eq_true] at this
    rcases this with q | q
    · rw [emp_of q b h1] at eb; cases eb
    · obtain ⟨g1, g2⟩ := Lt_iff.mp q
      have c2 := count_put (S := S) (v := false) (p := p) h2 h3
      rw [← e, g1, g2 b h1 eb] at c2
      simp only [b2n] at c2
      rw [goes_trip, decide_eq_false_iff_not]
      simp at c2
      omega

/-! ## the table's number is how many least lots there are -/
theorem b2n_and (a b : Bool) : b2n (a && b) = b2n a * b2n b := by cases a <;> cases b <;> rfl
theorem sm_emp : ∀ (bs : List Int), bs.Nodup → sm bs (fun S => b2n (emp bs S)) = 1
  | [], _ => rfl
  | b :: bs, hn => by
    obtain ⟨h1, h2⟩ := List.nodup_cons.mp hn
    show sm bs (fun S => b2n (emp (b :: bs) (put b false S))) + sm bs (fun S => b2n (emp (b :: bs) (put b true S))) = 1
    have e1 : ∀ S, b2n (emp (b :: bs) (put b true S)) = 0 := fun S => by
      simp [emp, b2n, put_same]
    have e2 : ∀ S, b2n (emp (b :: bs) (put b false S)) = b2n (emp bs S) := fun S => by
      have : emp (b :: bs) (put b false S) = emp bs S := by
        show (!put b false S b && emp bs (put b false S)) = emp bs S
        rw [put_same]
        show emp bs (put b false S) = emp bs S
        rw [Bool.eq_iff_iff]
        unfold emp
        rw [List.all_eq_true, List.all_eq_true]
        refine forall_congr' fun x => ⟨fun h hx => ?_, fun h hx => ?_⟩
        · rw [← h hx, put_ne (show x ≠ b from fun e => h1 (e ▸ hx))]
        · rw [← h hx, put_ne (show x ≠ b from fun e => h1 (e ▸ hx))]
      rw [this]
    simp only [e1, e2]
    rw [sm_zero, sm_emp bs h2]
theorem emp_ok {bs : List Int} {mu ne S : Lot} : (emp bs S && okf bs mu ne S) = (emp bs S && free bs mu) := by
  cases e : emp bs S with
  | false => rfl
  | true =>
    have h := emp_of e
    rw [Bool.true_and, Bool.true_and, Bool.eq_iff_iff]
    unfold okf free
    rw [List.all_eq_true, Bool.not_eq_true', List.any_eq_false]
    constructor
    · intro q b hb
      have := q b hb
      rw [h b hb] at this
      simpa using this
    · intro q b hb
      rw [h b hb]
      simpa using q b hb
theorem sm_emp_ok {bs : List Int} (hn : bs.Nodup) (mu ne : Lot) : sm bs (fun S => b2n (emp bs S && okf bs mu ne S)) = b2n (free bs mu) := by
  simp only [emp_ok, b2n_and]
  rw [sm_mul, sm_emp bs hn, Nat.one_mul]
/-- the row of what the parts of ps do with S, by how many of them are least -/
def G (n : Nat) (mu ne : Lot) (ps : List (Tr n)) (S : Lot) : Nat → Nat :=
  ps.foldl (fun r p => stepE r (b2n (emp (held n p) S && okf (held n p) mu ne S)) (b2n (Lt n p S && okf (held n p) mu ne S))) row0
theorem okf_loc {bs : List Int} {mu ne S T : Lot} (h : ∀ x ∈ bs, S x = T x) : okf bs mu ne S = okf bs mu ne T := by
  unfold okf
  rw [Bool.eq_iff_iff, List.all_eq_true, List.all_eq_true]
  exact forall_congr' fun x => ⟨fun q hx => by rw [← h x hx]; exact q hx, fun q hx => by rw [h x hx]; exact q hx⟩
theorem emp_loc {bs : List Int} {S T : Lot} (h : ∀ x ∈ bs, S x = T x) : emp bs S = emp bs T := by
  unfold emp
  rw [Bool.eq_iff_iff, List.all_eq_true, List.all_eq_true]
  exact forall_congr' fun x => ⟨fun q hx => by rw [← h x hx]; exact q hx, fun q hx => by rw [h x hx]; exact q hx⟩
theorem G_loc {n : Nat} {mu ne : Lot} {S T : Lot} : ∀ (ps : List (Tr n)) (r : Nat → Nat), (∀ x ∈ ps.flatMap (held n), S x = T x) →
    ps.foldl (fun r p => stepE r (b2n (emp (held n p) S && okf (held n p) mu ne S)) (b2n (Lt n p S && okf (held n p) mu ne S))) r =
    ps.foldl (fun r p => stepE r (b2n (emp (held n p) T && okf (held n p) mu ne T)) (b2n (Lt n p T && okf (held n p) mu ne T))) r
  | [], _, _ => rfl
  | p :: ps, r, h => by
    have h1 : ∀ x ∈ held n p, S x = T x := fun x hx => h x (List.mem_flatMap.mpr ⟨p, List.mem_cons_self, hx⟩)
    rw [List.foldl_cons, List.foldl_cons, emp_loc h1, okf_loc (mu := mu) (ne := ne) h1, Lt_loc h1]
    exact G_loc ps _ fun x hx => h x (by rw [List.flatMap_cons]; exact List.mem_append_right _ hx)
theorem rev_ind {α : Type} {M : List α → Prop} (h0 : M []) (h1 : ∀ xs x, M xs → M (xs ++ [x])) : ∀ xs, M xs := fun xs => by
  have : ∀ ys : List α, M ys.reverse := fun ys => by
    induction ys with
    | nil => exact h0
    | cons y ys ih => rw [List.reverse_cons]; exact h1 _ _ ih
  rw [← List.reverse_reverse xs]
  exact this _
theorem sm_G {n : Nat} {mu ne : Lot} (ih : ∀ p : Tr n, WF n p → (held n p).Nodup → sm (held n p) (fun S => b2n (Lt n p S && okf (held n p) mu ne S)) = lm n mu ne p) :
    ∀ (ps : List (Tr n)), (∀ p ∈ ps, WF n p) → (ps.flatMap (held n)).Nodup → ∀ j, sm (ps.flatMap (held n)) (fun S => G n mu ne ps S j) = rowOf n mu ne ps j := by
  refine rev_ind (fun _ _ j => rfl) (fun ps p hps hw hn j => ?_)
  rw [List.flatMap_append] at hn ⊢
  rw [show [p].flatMap (held n) = held n p by simp] at hn ⊢
  obtain ⟨n1, n2, n3⟩ := List.nodup_append.mp hn
  have H := hps (fun q hq => hw q (List.mem_append_left _ hq)) n1
  have wp : WF n p := hw p (by simp)
  have e : ∀ S, G n mu ne (ps ++ [p]) S = stepE (G n mu ne ps S) (b2n (emp (held n p) S && okf (held n p) mu ne S)) (b2n (Lt n p S && okf (held n p) mu ne S)) := fun S => by
    unfold G
    rw [List.foldl_append]
    rfl
  have e' : rowOf n mu ne (ps ++ [p]) = stepE (rowOf n mu ne ps) (b2n (free (held n p) mu)) (lm n mu ne p) := by
    unfold rowOf
    rw [List.foldl_append]
    rfl
  have gl : ∀ i, Loc (ps.flatMap (held n)) (fun S => G n mu ne ps S i) := fun i S T h => by
    show G n mu ne ps S i = G n mu ne ps T i
    unfold G
    rw [G_loc ps row0 h]
  have le : Loc (held n p) (fun S => b2n (emp (held n p) S && okf (held n p) mu ne S)) := fun S T h => by
    show b2n (emp (held n p) S && okf (held n p) mu ne S) = b2n (emp (held n p) T && okf (held n p) mu ne T)
    rw [emp_loc h, okf_loc h]
  have ll : Loc (held n p) (fun S => b2n (Lt n p S && okf (held n p) mu ne S)) := fun S T h => by
    show b2n (Lt n p S && okf (held n p) mu ne S) = b2n (Lt n p T && okf (held n p) mu ne T)
    rw [Lt_loc h, okf_loc h]
  have dis : ∀ a ∈ ps.flatMap (held n), a ∉ held n p := fun a ha hb => n3 a ha a hb rfl
  simp only [e]
  rw [e']
  cases j with
  | zero =>
    simp only [stepE]
    rw [sm_prod _ _ _ _ dis (gl 0) le, H, sm_emp_ok n2]
  | succ j =>
    simp only [stepE]
    rw [sm_add, sm_prod _ _ _ _ dis (gl (j + 1)) le, sm_prod _ _ _ _ dis (gl j) ll, H, H, sm_emp_ok n2, ih p wp n2]
theorem okf_app (as bs : List Int) (mu ne S : Lot) : okf (as ++ bs) mu ne S = (okf as mu ne S && okf bs mu ne S) := by
  unfold okf
  rw [List.all_append]
theorem G_is {n : Nat} {mu ne S : Lot} : ∀ (ps : List (Tr n)), (∀ p ∈ ps, WF n p) → ∀ j,
    G n mu ne ps S j = b2n (ps.all (fun p => emp (held n p) S || Lt n p S) && (ps.countP (fun p => Lt n p S) == j) && okf (ps.flatMap (held n)) mu ne S) := by
  refine rev_ind (fun _ j => ?_) (fun ps p hps hw j => ?_)
  · show row0 j = b2n (true && ((0 : Nat) == j) && true)
    unfold row0 b2n
    cases j with
    | zero => rfl
    | succ j => simp
  · have H := hps (fun q hq => hw q (List.mem_append_left _ hq))
    have wp : WF n p := hw p (by simp)
    have e : G n mu ne (ps ++ [p]) S = stepE (G n mu ne ps S) (b2n (emp (held n p) S && okf (held n p) mu ne S)) (b2n (Lt n p S && okf (held n p) mu ne S)) := by
      unfold G
      rw [List.foldl_append]
      rfl
    rw [e, List.all_append, List.countP_append, List.flatMap_append, okf_app, show [p].flatMap (held n) = held n p by simp]
    have c1 : [p].all (fun p => emp (held n p) S || Lt n p S) = (emp (held n p) S || Lt n p S) := by simp
    have c2 : [p].countP (fun p => Lt n p S) = b2n (Lt n p S) := by
      rw [List.countP_singleton]
      rfl
    rw [c1, c2]
    have ex : Lt n p S = true → emp (held n p) S = false := fun h => Lt_not_emp wp h
    cases j with
    | zero =>
      simp only [stepE, H]
      cases h1 : Lt n p S with
      | true => simp [ex h1, b2n]
      | false =>
        rw [← b2n_and]
        congr 1
        simp [b2n]
        cases emp (held n p) S <;> cases okf (held n p) mu ne S <;> simp
    | succ j =>
      simp only [stepE, H]
      cases h1 : Lt n p S with
      | true =>
        rw [ex h1]
        simp only [Bool.false_and, Bool.true_and, Bool.or_true, Bool.and_true]
        rw [show b2n false = 0 from rfl, Nat.mul_zero, Nat.zero_add, ← b2n_and, show b2n true = 1 from rfl]
        congr 1
        rw [show (List.countP (fun p => Lt n p S) ps + 1 == j + 1) = (List.countP (fun p => Lt n p S) ps == j) by
          rw [Bool.eq_iff_iff, beq_iff_eq, beq_iff_eq]; omega, Bool.and_assoc]
      | false =>
        simp only [Bool.false_and, Bool.or_false]
        rw [show b2n false = 0 from rfl, Nat.mul_zero, Nat.add_zero, Nat.add_zero, ← b2n_and]
        congr 1
        cases emp (held n p) S <;> cases okf (held n p) mu ne S <;> simp
theorem lm_sm : ∀ (n : Nat) (mu ne : Lot) (t : Tr n), WF n t → (held n t).Nodup → sm (held n t) (fun S => b2n (Lt n t S && okf (held n t) mu ne S)) = lm n mu ne t
  | 0, _, _, t, _, _ => Empty.elim t
  | n + 1, mu, ne, t, w, hn => by
    revert w hn
    refine tr_cases (M := fun t => WF (n + 1) t → (held (n + 1) t).Nodup → sm (held (n + 1) t) (fun S => b2n (Lt (n + 1) t S && okf (held (n + 1) t) mu ne S)) = lm (n + 1) mu ne t) (fun b w hn => ?_) (fun k ps w hn => ?_) t
    · rw [held_leaf, lm_leaf]
      have e : ∀ S : Lot, Lt (n + 1) (leaf b : Tr (n + 1)) S = S b := fun S => by
        unfold Lt
        rw [held_leaf]
        simp only [goes_leaf, List.all_cons, List.all_nil, put_same]
        cases S b <;> rfl
      simp only [e, sm, put_same, okf, List.all_cons, List.all_nil]
      cases mu b <;> cases ne b <;> rfl
    · have w3 := ((WF_trip k ps).mp w).2.2
      rw [held_trip, lm_trip, ← sm_G (fun p wp np => lm_sm n mu ne p wp np) ps w3 hn k]
      refine sm_congr fun S => ?_
      rw [G_is ps w3 k, Lt_trip w hn]
theorem lm_le {n : Nat} {mu ne : Lot} {t : Tr n} (w : WF n t) (hn : (held n t).Nodup) : lm n mu ne t ≤ 2 ^ (held n t).length := by
  rw [← lm_sm n mu ne t w hn]
  exact sm_le _ _ fun S => by unfold b2n; split <;> omega
/-- a further button put to must, or to never -/
theorem lm_both {n : Nat} {mu ne : Lot} {t : Tr n} (w : WF n t) (hn : (held n t).Nodup) {b : Int} (hb : b ∈ held n t) (h1 : mu b = false) (h2 : ne b = false) :
    lm n (put b true mu) ne t + lm n mu (put b true ne) t = lm n mu ne t := by
  rw [← lm_sm n _ _ t w hn, ← lm_sm n _ _ t w hn, ← lm_sm n _ _ t w hn, ← sm_add]
  refine sm_congr fun S => ?_
  have e1 : okf (held n t) (put b true mu) ne S = (okf (held n t) mu ne S && S b) := by
    rw [Bool.eq_iff_iff, Bool.and_eq_true]
    unfold okf
    rw [List.all_eq_true, List.all_eq_true]
    constructor
    · refine fun q => ⟨fun x hx => ?_, ?_⟩
      · have := q x hx
        by_cases e : x = b
        · rw [e, h1, h2]
          rfl
        · rw [put_ne e] at this
          exact this
      · have := q b hb
        rw [put_same] at this
        simp at this
        exact this.1
    · rintro ⟨q1, q2⟩ x hx
      by_cases e : x = b
      · have := q1 b hb
        rw [e, put_same, q2]
        rw [q2] at this
        simpa using this
      · rw [put_ne e]
        exact q1 x hx
  have e2 : okf (held n t) mu (put b true ne) S = (okf (held n t) mu ne S && !S b) := by
    rw [Bool.eq_iff_iff, Bool.and_eq_true]
    unfold okf
    rw [List.all_eq_true, List.all_eq_true]
    constructor
    · refine fun q => ⟨fun x hx => ?_, ?_⟩
      · have := q x hx
        by_cases e : x = b
        · rw [e, h1, h2]
          rfl
        · rw [put_ne e] at this
          exact this
      · have := q b hb
        rw [put_same, h1] at this
        simpa using this
    · rintro ⟨q1, q2⟩ x hx
      by_cases e : x = b
      · rw [e, put_same, h1]
        simpa using q2
      · rw [put_ne e]
        exact q1 x hx
  rw [e1, e2]
  cases Lt n t S <;> cases okf (held n t) mu ne S <;> cases S b <;> rfl
/-- one button in both -/
theorem lm_clash {n : Nat} {mu ne : Lot} {t : Tr n} (w : WF n t) (hn : (held n t).Nodup) {b : Int} (hb : b ∈ held n t) (h1 : mu b = true) (h2 : ne b = true) : lm n mu ne t = 0 := by
  rw [← lm_sm n _ _ t w hn, ← sm_zero (held n t)]
  refine sm_congr fun S => ?_
  have e : okf (held n t) mu ne S = false := by
    unfold okf
    rw [List.all_eq_false]
    refine ⟨b, hb, ?_⟩
    rw [h1, h2]
    cases S b <;> simp
  rw [e, Bool.and_false]
  rfl
end K16
namespace K16
/-! ## all lots of a row, by number -/
def mem (l : List Int) : Lot := fun x => decide (x ∈ l)
def ev (row : List Int) : List (List Int) := row.foldl (fun f b => f ++ f.map (· ++ [b])) [[]]
def bits (row : List Int) (i : Nat) : List Int := (row.zipIdx).filterMap (fun p => if i.testBit p.2 then some p.1 else none)
theorem ev_snoc (row : List Int) (b : Int) : ev (row ++ [b]) = ev row ++ (ev row).map (· ++ [b]) := by
  unfold ev
  rw [List.foldl_append]
  rfl
theorem ev_length : ∀ row : List Int, (ev row).length = 2 ^ row.length := by
  refine rev_ind rfl (fun row b ih => ?_)
  rw [ev_snoc, List.length_append, List.length_map, ih, List.length_append, List.length_singleton, Nat.pow_succ]
  omega
theorem bits_snoc (row : List Int) (b : Int) (i : Nat) : bits (row ++ [b]) i = bits row i ++ (if i.testBit row.length then [b] else []) := by
  unfold bits
  rw [List.zipIdx_append, List.filterMap_append]
  congr 1
  simp only [List.zipIdx_cons, List.zipIdx_nil, List.filterMap_cons, List.filterMap_nil, Nat.zero_add]
  cases i.testBit row.length <;> rfl
theorem fmap_congr {α β : Type} {f g : α → Option β} : ∀ {l : List α}, (∀ x ∈ l, f x = g x) → l.filterMap f = l.filterMap g
  | [], _ => rfl
  | a :: l, h => by
    rw [List.filterMap_cons, List.filterMap_cons, h a List.mem_cons_self, fmap_congr fun x hx => h x (List.mem_cons_of_mem _ hx)]
theorem bits_congr {row : List Int} {i k : Nat} (h : ∀ j, j < row.length → i.testBit j = k.testBit j) : bits row i = bits row k := by
  unfold bits
  refine fmap_congr fun p hp => ?_
  have := List.snd_lt_of_mem_zipIdx hp
  rw [h p.2 (by simpa using this)]
theorem ev_get : ∀ (row : List Int) (i : Nat), i < 2 ^ row.length → (ev row)[i]? = some (bits row i) := by
  refine rev_ind (fun i h => ?_) (fun row b ih i h => ?_)
  · have e : i = 0 := by simpa using h
    subst e
    rfl
  · rw [ev_snoc, bits_snoc]
    rw [List.length_append, List.length_singleton, Nat.pow_succ] at h
    by_cases hi : i < 2 ^ row.length
    · rw [List.getElem?_append_left (by rw [ev_length]; exact hi), ih i hi, Nat.testBit_lt_two_pow hi]
      simp
    · have hi' : 2 ^ row.length ≤ i := Nat.le_of_not_lt hi
      obtain ⟨k, rfl⟩ := Nat.exists_eq_add_of_le hi'
      have hk : k < 2 ^ row.length := by omega
      rw [List.getElem?_append_right (by rw [ev_length]; exact hi'), ev_length, List.getElem?_map, Nat.add_sub_cancel_left, ih k hk]
      have e1 : (2 ^ row.length + k).testBit row.length = true := by
        rw [Nat.testBit_two_pow_add_eq, Nat.testBit_lt_two_pow hk]
        rfl
      rw [e1, bits_congr (i := 2 ^ row.length + k) (k := k) fun j hj => Nat.testBit_two_pow_add_gt hj k]
      simp
theorem mem_bits {row : List Int} {i : Nat} {x : Int} : x ∈ bits row i ↔ ∃ j, row[j]? = some x ∧ i.testBit j = true := by
  unfold bits
  rw [List.mem_filterMap]
  constructor
  · rintro ⟨⟨b, j⟩, hp, e⟩
    have h := List.mem_zipIdx_iff_getElem?.mp hp
    simp only at e h
    cases hb : i.testBit j with
    | false => rw [hb] at e; cases e
    | true =>
      rw [hb] at e
      cases e
      exact ⟨j, h, hb⟩
  · rintro ⟨j, h, hb⟩
    refine ⟨(x, j), List.mem_zipIdx_iff_getElem?.mpr h, ?_⟩
    simp [hb]
theorem bits_sub {row : List Int} {i : Nat} {x : Int} (h : x ∈ bits row i) : x ∈ row := by
  obtain ⟨j, h, _⟩ := mem_bits.mp h
  exact List.mem_of_getElem? h
theorem mem_bits_at {row : List Int} (hn : row.Nodup) {i j : Nat} {x : Int} (h : row[j]? = some x) : x ∈ bits row i ↔ i.testBit j = true := by
  rw [mem_bits]
  constructor
  · rintro ⟨k, h', e⟩
    obtain ⟨h1, e1⟩ := List.getElem?_eq_some_iff.mp h
    obtain ⟨h2, e2⟩ := List.getElem?_eq_some_iff.mp h'
    have : k = j := (List.getElem_inj hn).mp (e2.trans e1.symm)
    rw [← this]; exact e
  · exact fun e => ⟨j, h, e⟩
theorem testBit_less {i j : Nat} (h : i.testBit j = true) (l : Nat) : (i - 2 ^ j).testBit l = (i.testBit l && decide (l ≠ j)) := by
  have hj : 2 ^ j ≤ i := Nat.ge_two_pow_of_testBit h
  have hp : 0 < 2 ^ j := Nat.two_pow_pos j
  have hq : i / 2 ^ j % 2 = 1 := by
    rw [Nat.testBit_eq_decide_div_mod_eq] at h
    simpa using h
  generalize hr : i % 2 ^ j = r
  generalize hd : i / 2 ^ j = d at hq
  have hrl : r < 2 ^ j := by rw [← hr]; exact Nat.mod_lt _ hp
  have e : i = 2 ^ j * d + r := by rw [← hr, ← hd]; exact (Nat.div_add_mod i (2 ^ j)).symm
  have hd1 : 1 ≤ d := by omega
  have e2 : i - 2 ^ j = 2 ^ j * (d - 1) + r := by
    obtain ⟨c, rfl⟩ := Nat.exists_eq_add_of_le hd1
    rw [e, Nat.mul_add, Nat.mul_one, Nat.add_sub_cancel_left]
    omega
  rw [e2, e, Nat.testBit_two_pow_mul_add _ hrl, Nat.testBit_two_pow_mul_add _ hrl]
  by_cases hl : l < j
  · rw [if_pos hl, if_pos hl, decide_eq_true (by omega : l ≠ j), Bool.and_true]
  · rw [if_neg hl, if_neg hl]
    by_cases hlj : l = j
    · subst hlj
      rw [Nat.sub_self, Nat.testBit_zero]
      simp
      omega
    · rw [decide_eq_true hlj, Bool.and_true]
      obtain ⟨c, rfl⟩ : ∃ c, l = j + 1 + c := ⟨l - (j + 1), by omega⟩
      rw [show j + 1 + c - j = c + 1 by omega, Nat.testBit_succ, Nat.testBit_succ, show (d - 1) / 2 = d / 2 by omega]
/-- the law's test of the lot with number i -/
theorem least_at {n : Nat} {t : Tr n} {row : List Int} (hn : row.Nodup) (hm : ∀ x, x ∈ row ↔ x ∈ held n t) {i : Nat} :
    Lt n t (mem (bits row i)) = true ↔ goes n t (mem (bits row i)) = true ∧ ∀ j, j < row.length → i.testBit j = true → goes n t (mem (bits row (i - 2 ^ j))) = false := by
  have key : ∀ j x, row[j]? = some x → i.testBit j = true → mem (bits row (i - 2 ^ j)) = put x false (mem (bits row i)) := fun j x hx hb => by
    funext y
    unfold mem
    by_cases e : y = x
    · rw [e, put_same, decide_eq_false_iff_not, mem_bits_at hn hx, testBit_less hb]
      simp
    · rw [put_ne e, decide_eq_decide, mem_bits, mem_bits]
      refine exists_congr fun l => and_congr_right fun hl => ?_
      have hlj : l ≠ j := fun q => e (Option.some.inj (by rw [← hl, ← hx, q]))
      rw [testBit_less hb, decide_eq_true hlj, Bool.and_true]
  rw [Lt_iff]
  refine and_congr_right fun _ => ⟨fun h j hj hb => ?_, fun h b hb e => ?_⟩
  · have hx : row[j]? = some row[j] := List.getElem?_eq_getElem hj
    rw [key j _ hx hb]
    refine h _ ((hm _).mp (List.getElem_mem hj)) ?_
    unfold mem
    rw [decide_eq_true_eq]
    exact (mem_bits_at hn hx).mpr hb
  · obtain ⟨j, hj, ej⟩ := List.getElem_of_mem ((hm b).mpr hb)
    have hx : row[j]? = some b := by rw [List.getElem?_eq_getElem hj, ej]
    have hb : i.testBit j = true := by
      unfold mem at e
      rw [decide_eq_true_eq] at e
      exact (mem_bits_at hn hx).mp e
    rw [← key j b hx hb]
    exact h j hj hb

/-! ## counted over all lots -/
theorem ev_sub : ∀ (row : List Int), ∀ l ∈ ev row, ∀ x ∈ l, x ∈ row := by
  refine rev_ind (fun l hl x hx => ?_) (fun row b ih l hl x hx => ?_)
  · have : l = [] := by simpa [ev] using hl
    subst this
    cases hx
  · rw [ev_snoc] at hl
    rcases List.mem_append.mp hl with hl | hl
    · exact List.mem_append_left _ (ih l hl x hx)
    · obtain ⟨l', hl', rfl⟩ := List.mem_map.mp hl
      rcases List.mem_append.mp hx with hx | hx
      · exact List.mem_append_left _ (ih l' hl' x hx)
      · exact List.mem_append_right _ hx
theorem ev_count : ∀ (row : List Int), row.Nodup → ∀ q : Lot → Bool, (ev row).countP (fun l => q (mem l)) = sm row (fun S => b2n (q S)) := by
  refine rev_ind (fun _ q => ?_) (fun row b ih hn q => ?_)
  · show [([] : List Int)].countP (fun l => q (mem l)) = b2n (q fun _ => false)
    rw [List.countP_singleton]
    have : mem [] = fun _ => false := by funext x; simp [mem]
    rw [this]
    rfl
  · have h1 : row.Nodup := (List.nodup_append.mp hn).1
    have hb : b ∉ row := fun h => (List.nodup_append.mp hn).2.2 b h b (by simp) rfl
    rw [ev_snoc, List.countP_append, List.countP_map, sm_perm (List.perm_append_comm (l₁ := row) (l₂ := [b]))]
    show _ = sm row (fun S => b2n (q (put b false S))) + sm row (fun S => b2n (q (put b true S)))
    rw [← ih h1 (fun S => q (put b false S)), ← ih h1 (fun S => q (put b true S))]
    congr 1
    · refine List.countP_congr fun l hl => ?_
      have : put b false (mem l) = mem l := by
        funext x
        by_cases e : x = b
        · rw [e, put_same]
          unfold mem
          rw [eq_comm, decide_eq_false_iff_not]
          exact fun h => hb (ev_sub row l hl b h)
        · rw [put_ne e]
      rw [this]
    · refine List.countP_congr fun l hl => ?_
      have : mem (l ++ [b]) = put b true (mem l) := by
        funext x
        by_cases e : x = b
        · rw [e, put_same]
          simp [mem]
        · rw [put_ne e]
          simp [mem, e]
      show q (mem (l ++ [b])) = true ↔ _
      rw [this]
/-- what least_count hands back -/
def LM (n : Nat) (t : Tr n) (mu ne : List Int) : Nat := if mu.all (fun b => decide (b ∈ held n t)) then lm n (mem mu) (mem ne) t else 0
theorem due_count {n : Nat} {t : Tr n} (w : WF n t) {row : List Int} (hn : row.Nodup) (hp : row.Perm (held n t)) {due : List (List Int)} (hd : due.Perm ((ev row).filter (fun l => Lt n t (mem l)))) (mu ne : List Int) :
    ((due.filter (fun l => mu.all (fun b => decide (b ∈ l)))).filter (fun l => ne.all (fun b => decide (b ∉ l)))).length = LM n t mu ne := by
  have hh : (held n t).Nodup := hp.nodup_iff.mp hn
  have e1 : ((due.filter (fun l => mu.all (fun b => decide (b ∈ l)))).filter (fun l => ne.all (fun b => decide (b ∉ l)))).length =
      (ev row).countP (fun l => Lt n t (mem l) && (mu.all (fun b => mem l b) && ne.all (fun b => !mem l b))) := by
    rw [List.filter_filter, ← List.countP_eq_length_filter, hd.countP_eq, List.countP_filter]
    refine List.countP_congr fun l _ => ?_
    have z : ne.all (fun b => decide (b ∉ l)) = ne.all (fun b => !mem l b) := by
      congr 1
      funext b
      simp [mem]
    have z2 : mu.all (fun b => decide (b ∈ l)) = mu.all (fun b => mem l b) := rfl
    rw [z, z2]
    cases Lt n t (mem l) <;> cases mu.all (fun b => mem l b) <;> cases ne.all (fun b => !mem l b) <;> simp
  rw [e1]
  unfold LM
  by_cases hm : mu.all (fun b => decide (b ∈ held n t)) = true
  · rw [if_pos hm, ← lm_sm n _ _ t w hh, ← sm_perm hp, ← ev_count row hn (fun S => Lt n t S && okf (held n t) (mem mu) (mem ne) S)]
    refine List.countP_congr fun l hl => ?_
    rw [List.all_eq_true] at hm
    have e : (mu.all (fun b => mem l b) && ne.all (fun b => !mem l b)) = okf (held n t) (mem mu) (mem ne) (mem l) := by
      rw [Bool.eq_iff_iff, Bool.and_eq_true]
      unfold okf
      rw [List.all_eq_true, List.all_eq_true, List.all_eq_true]
      constructor
      · rintro ⟨a1, a2⟩ x _
        rw [Bool.and_eq_true]
        constructor
        · cases q : mem mu x with
          | false => rfl
          | true => rw [a1 x (by simpa [mem] using q)]; rfl
        · cases q : mem ne x with
          | false => rfl
          | true => rw [a2 x (by simpa [mem] using q)]; rfl
      · intro a
        constructor
        · intro x hx
          have hxh : x ∈ held n t := by simpa using hm x hx
          have := (Bool.and_eq_true_iff.mp (a x hxh)).1
          have q : mem mu x = true := by simpa [mem] using hx
          rw [q] at this
          simpa using this
        · intro x hx
          cases q : mem l x with
          | false => rfl
          | true =>
            have hxl : x ∈ l := by simpa [mem] using q
            have hxh : x ∈ held n t := hp.mem_iff.mp (ev_sub row l hl x hxl)
            have := (Bool.and_eq_true_iff.mp (a x hxh)).2
            have q2 : mem ne x = true := by simpa [mem] using hx
            rw [q2, q] at this
            cases this
    rw [e]
  · rw [if_neg hm, List.countP_eq_zero]
    intro l hl
    rw [Bool.not_eq_true, List.all_eq_false] at hm
    obtain ⟨x, hx, nx⟩ := hm
    have nl : x ∉ l := fun h => by
      apply nx
      rw [decide_eq_true_eq]
      exact hp.mem_iff.mp (ev_sub row l hl x h)
    have : mu.all (fun b => mem l b) = false := by
      rw [List.all_eq_false]
      exact ⟨x, hx, by simpa [mem] using nl⟩
    rw [this]
    simp
theorem LM_le {n : Nat} {t : Tr n} (w : WF n t) (hn : (held n t).Nodup) (mu ne : List Int) : LM n t mu ne ≤ 2 ^ (held n t).length := by
  unfold LM
  split
  · exact lm_le w hn
  · exact Nat.zero_le _
theorem mem_put {b : Int} {l l' : List Int} (h : ∀ x, x ∈ l' ↔ x ∈ l ∨ x = b) : mem l' = put b true (mem l) := by
  funext x
  by_cases e : x = b
  · rw [e, put_same]
    simp [mem, h]
  · rw [put_ne e]
    simp [mem, h, e]
theorem LM_both {n : Nat} {t : Tr n} (w : WF n t) (hn : (held n t).Nodup) {b : Int} (hb : b ∈ held n t) {mu ne mu' ne' : List Int} (h1 : b ∉ mu) (h2 : b ∉ ne) (e1 : ∀ x, x ∈ mu' ↔ x ∈ mu ∨ x = b) (e2 : ∀ x, x ∈ ne' ↔ x ∈ ne ∨ x = b) :
    LM n t mu' ne + LM n t mu ne' = LM n t mu ne := by
  unfold LM
  have q : mu'.all (fun b => decide (b ∈ held n t)) = mu.all (fun b => decide (b ∈ held n t)) := by
    rw [Bool.eq_iff_iff, List.all_eq_true, List.all_eq_true]
    constructor
    · exact fun h x hx => h x ((e1 x).mpr (.inl hx))
    · intro h x hx
      rcases (e1 x).mp hx with hx | rfl
      · exact h x hx
      · simpa using hb
  rw [q, mem_put e1, mem_put e2]
  split
  · exact lm_both w hn hb (by simpa [mem] using h1) (by simpa [mem] using h2)
  · rfl
/-- the law's own road: nothing where a button of must is in never or not in the tree -/
theorem LM_law {n : Nat} {t : Tr n} (w : WF n t) (hn : (held n t).Nodup) (mu ne : List Int) :
    LM n t mu ne = if mu.any (fun b => decide (b ∈ ne) || decide (b ∉ held n t)) then 0 else lm n (mem mu) (mem ne) t := by
  unfold LM
  by_cases h1 : mu.all (fun b => decide (b ∈ held n t)) = true
  · rw [if_pos h1]
    by_cases h2 : mu.any (fun b => decide (b ∈ ne) || decide (b ∉ held n t)) = true
    · rw [if_pos h2]
      rw [List.any_eq_true] at h2
      rw [List.all_eq_true] at h1
      obtain ⟨b, hb, e⟩ := h2
      have hbh : b ∈ held n t := by simpa using h1 b hb
      have hbn : b ∈ ne := by simpa [hbh] using e
      exact lm_clash w hn hbh (by simpa [mem] using hb) (by simpa [mem] using hbn)
    · rw [if_neg h2]
  · rw [if_neg h1, if_pos]
    rw [Bool.not_eq_true, List.all_eq_false] at h1
    obtain ⟨b, hb, e⟩ := h1
    rw [List.any_eq_true]
    exact ⟨b, hb, by simpa using .inr (by simpa using e)⟩

/-! ## binomials -/
def C : Nat → Nat → Nat
  | _, 0 => 1
  | 0, _ + 1 => 0
  | n + 1, k + 1 => C n k + C n (k + 1)
theorem C_zero (n : Nat) : C n 0 = 1 := by cases n <;> rfl
theorem C_big : ∀ (n k : Nat), n < k → C n k = 0
  | 0, k + 1, _ => rfl
  | n + 1, k + 1, h => by
    show C n k + C n (k + 1) = 0
    rw [C_big n k (by omega), C_big n (k + 1) (by omega)]
theorem C_self : ∀ n : Nat, C n n = 1
  | 0 => rfl
  | n + 1 => by
    show C n n + C n (n + 1) = 1
    rw [C_self n, C_big n (n + 1) (by omega)]
def pasc (j : Nat) : List Nat := (List.range (j + 1)).map (C j)
theorem pasc_len (j : Nat) : (pasc j).length = j + 1 := by unfold pasc; rw [List.length_map, List.length_range]
theorem pasc_get {j i : Nat} (h : i ≤ j) : (pasc j)[i]? = some (C j i) := by
  unfold pasc
  rw [List.getElem?_map, List.getElem?_range (by omega)]
  rfl
theorem pasc_step (j : Nat) : pasc (j + 1) = [1] ++ (List.range j).map (fun i => C j i + C j (i + 1)) ++ [1] := by
  unfold pasc
  rw [List.range_succ_eq_map, List.map_cons, List.map_map, List.range_succ, List.map_append, List.map_singleton, C_zero]
  show 1 :: (List.map (C (j + 1) ∘ Nat.succ) (List.range j) ++ [C (j + 1) (j + 1)]) = _
  rw [C_self]
  rfl
theorem even_row {n : Nat} {m q : Int} (hmq : m ≠ q) : ∀ (bs : List Int), bs.Nodup → ∀ j,
    rowOf (n + 1) (mem [m]) (mem [q]) (bs.map leaf) j = if m ∈ bs then (match j with | 0 => 0 | i + 1 => C (bs.countP (fun b => decide (b ≠ m) && decide (b ≠ q))) i) else C (bs.countP (fun b => decide (b ≠ m) && decide (b ≠ q))) j := by
  refine rev_ind (fun _ j => ?_) (fun bs b ih hn j => ?_)
  · cases j <;> rfl
  · have h1 : bs.Nodup := (List.nodup_append.mp hn).1
    have hb : b ∉ bs := fun h => (List.nodup_append.mp hn).2.2 b h b (by simp) rfl
    have H := ih h1
    have e' : rowOf (n + 1) (mem [m]) (mem [q]) ((bs ++ [b]).map leaf) = stepE (rowOf (n + 1) (mem [m]) (mem [q]) (bs.map leaf)) (b2n (free [b] (mem [m]))) (if mem [q] b then 0 else 1) := by
      unfold rowOf
      rw [List.map_append, List.foldl_append]
      rfl
    rw [e', List.countP_append, List.countP_singleton]
    by_cases e1 : b = m
    · subst e1
      have f1 : b2n (free [b] (mem [b])) = 0 := by simp [free, mem, b2n]
      have f2 : (if mem [q] b = true then 0 else 1) = 1 := by simp [mem, hmq]
      rw [f1, f2]
      have f3 : b ∈ bs ++ [b] := by simp
      rw [if_pos f3]
      have f4 : (decide (b ≠ b) && decide (b ≠ q)) = false := by simp
      rw [f4]
      cases j with
      | zero => rfl
      | succ i =>
        simp only [stepE]
        rw [H (i + 1), H i, if_neg hb, if_neg hb]
        simp
    · have f1 : b2n (free [b] (mem [m])) = 1 := by simp [free, mem, b2n, e1]
      rw [f1]
      have f3 : (m ∈ bs ++ [b]) ↔ m ∈ bs := by
        rw [List.mem_append]
        exact ⟨fun h => h.elim id fun h => absurd (List.mem_singleton.mp h).symm e1, .inl⟩
      by_cases e2 : b = q
      · subst e2
        have f2 : (if mem [b] b = true then 0 else 1) = 0 := by simp [mem]
        have f4 : (decide (b ≠ m) && decide (b ≠ b)) = false := by simp
        rw [f2, f4]
        have z : stepE (rowOf (n + 1) (mem [m]) (mem [b]) (bs.map leaf)) 1 0 j = rowOf (n + 1) (mem [m]) (mem [b]) (bs.map leaf) j := by
          cases j <;> simp [stepE]
        rw [z, H]
        simp only [f3]
        rfl
      · have f2 : (if mem [q] b = true then 0 else 1) = 1 := by simp [mem, e2]
        have f4 : (decide (b ≠ m) && decide (b ≠ q)) = true := by simp [e1, e2]
        rw [f2, f4]
        simp only [f3, if_true]
        cases j with
        | zero =>
          simp only [stepE]
          rw [H]
          split
          · rfl
          · simp [C_zero]
        | succ i =>
          simp only [stepE]
          rw [H, H]
          split
          · cases i with
            | zero => simp [C_zero]
            | succ i =>
              simp only [Nat.mul_one]
              show C _ (i + 1) + C _ i = C _ i + C _ (i + 1)
              omega
          · simp only [Nat.mul_one]
            show C _ (i + 1) + C _ i = C _ i + C _ (i + 1)
            omega
theorem even_count {bs : List Int} {m q : Int} (hmq : m ≠ q) (hn : bs.Nodup) (hm : m ∈ bs) (hq : q ∈ bs) : bs.countP (fun b => decide (b ≠ m) && decide (b ≠ q)) = bs.length - 2 := by
  have h1 := List.length_eq_countP_add_countP (l := bs) (fun b => decide (b ≠ m) && decide (b ≠ q))
  have h2 : bs.countP (fun a => decide ¬(decide (a ≠ m) && decide (a ≠ q)) = true) = bs.count m + bs.count q := by
    clear h1 hn hm hq
    induction bs with
    | nil => rfl
    | cons a bs ih =>
      rw [List.countP_cons, List.count_cons, List.count_cons, ih]
      by_cases e1 : a = m
      · subst e1
        simp [hmq]
        omega
      · by_cases e2 : a = q
        · subst e2
          simp [e1]
          omega
        · simp [e1, e2]
  rw [List.Nodup.count hn, List.Nodup.count hn, if_pos hm, if_pos hq] at h2
  omega
theorem even_lm {n : Nat} {bs : List Int} {m q : Int} (hmq : m ≠ q) (hn : bs.Nodup) (hm : m ∈ bs) (hq : q ∈ bs) (h24 : bs.length = 24) {k : Nat} (hk : 1 ≤ k) :
    LM (n + 2) (trip k (bs.map leaf)) [m] [q] = C 22 (k - 1) := by
  have hh : held (n + 2) (trip k (bs.map leaf)) = bs := by
    rw [held_trip, List.flatMap_map]
    show bs.flatMap (fun b => [b]) = bs
    rw [List.flatMap_singleton']
  unfold LM
  rw [hh, lm_trip, even_row hmq bs hn, if_pos hm, even_count hmq hn hm hq, h24]
  obtain ⟨i, rfl⟩ : ∃ i, k = i + 1 := ⟨k - 1, by omega⟩
  simp [hm]
end K16
namespace K16
open PySem L2
/-! ## the text by places -/
def topS (i : Nat) : Stmt := PySem.Challenge.pw_onescale_k16_whole_least_lots_counted.main.body.getD i (.Pass ⟨0, 0, 0, 0⟩)
abbrev s_is_trip : Stmt := topS 1
abbrev s_buttons_in_order : Stmt := topS 2
abbrev s_buttons_of : Stmt := topS 3
abbrev s_has_some : Stmt := topS 5
abbrev s_least_many : Stmt := topS 6
abbrev s_least_count : Stmt := topS 8
abbrev s_l_bag : Stmt := topS 10
abbrev s_l_draw : Stmt := topS 11
abbrev s_l_pick : Stmt := topS 12
abbrev s_l_mixed : Stmt := topS 13
abbrev s_l_buttons : Stmt := topS 14
abbrev s_l_tree : Stmt := topS 15
abbrev s_l_held : Stmt := topS 16
abbrev s_l_every : Stmt := topS 17
abbrev s_l_words : Stmt := topS 18
abbrev s_l_powers : Stmt := topS 19
abbrev s_l_leasts : Stmt := topS 20
abbrev s_l_chosen : Stmt := topS 21
abbrev s_l_least_many : Stmt := topS 22
abbrev s_l_lot : Stmt := topS 23
abbrev s_l_is_counted : Stmt := topS 24
abbrev s_l_is_even : Stmt := topS 25
abbrev s_law : Stmt := topS 26
/-- a def as it stands behind the top -/
structure Def (K : PySem.W.Frag) (mg : Str → Option Value) (x : Str) (st : Stmt) (ps : List Str) (f : Addr) (fd : FuncData) : Prop where
  F : Fun K x x st f fd
  m : mg x = some (.ref f)
  b : Binds K fd ps []
structure Txt (K : PySem.W.Frag) (mg : Str → Option Value) where
  f_is_trip : Addr
  d_is_trip : FuncData
  D_is_trip : Def K mg "is_trip" s_is_trip ["tree"] f_is_trip d_is_trip
  f_buttons_in_order : Addr
  d_buttons_in_order : FuncData
  D_buttons_in_order : Def K mg "buttons_in_order" s_buttons_in_order ["tree"] f_buttons_in_order d_buttons_in_order
  f_buttons_of : Addr
  d_buttons_of : FuncData
  D_buttons_of : Def K mg "buttons_of" s_buttons_of ["tree"] f_buttons_of d_buttons_of
  f_has_some : Addr
  d_has_some : FuncData
  D_has_some : Def K mg "has_some" s_has_some ["tree", "lot"] f_has_some d_has_some
  f_least_many : Addr
  d_least_many : FuncData
  D_least_many : Def K mg "least_many" s_least_many ["tree", "must", "never"] f_least_many d_least_many
  f_least_count : Addr
  d_least_count : FuncData
  D_least_count : Def K mg "least_count" s_least_count ["tree", "must", "never"] f_least_count d_least_count
  f_l_bag : Addr
  d_l_bag : FuncData
  D_l_bag : Def K mg "_law_bag" s_l_bag ["_law_script"] f_l_bag d_l_bag
  f_l_draw : Addr
  d_l_draw : FuncData
  D_l_draw : Def K mg "_law_draw" s_l_draw ["_law_bag_here", "_law_many"] f_l_draw d_l_draw
  f_l_pick : Addr
  d_l_pick : FuncData
  D_l_pick : Def K mg "_law_pick" s_l_pick ["_law_bag_here", "_law_items"] f_l_pick d_l_pick
  f_l_mixed : Addr
  d_l_mixed : FuncData
  D_l_mixed : Def K mg "_law_mixed" s_l_mixed ["_law_bag_here", "_law_items"] f_l_mixed d_l_mixed
  f_l_buttons : Addr
  d_l_buttons : FuncData
  D_l_buttons : Def K mg "_law_buttons" s_l_buttons ["_law_bag_here", "_law_many"] f_l_buttons d_l_buttons
  f_l_tree : Addr
  d_l_tree : FuncData
  D_l_tree : Def K mg "_law_tree" s_l_tree ["_law_bag_here", "_law_row", "_law_deep"] f_l_tree d_l_tree
  f_l_held : Addr
  d_l_held : FuncData
  D_l_held : Def K mg "_law_held" s_l_held ["_law_tree_here"] f_l_held d_l_held
  f_l_every : Addr
  d_l_every : FuncData
  D_l_every : Def K mg "_law_every" s_l_every ["_law_row"] f_l_every d_l_every
  f_l_words : Addr
  d_l_words : FuncData
  D_l_words : Def K mg "_law_words" s_l_words ["_law_tree_here", "_law_every_here"] f_l_words d_l_words
  f_l_powers : Addr
  d_l_powers : FuncData
  D_l_powers : Def K mg "_law_powers" s_l_powers ["_law_row"] f_l_powers d_l_powers
  f_l_leasts : Addr
  d_l_leasts : FuncData
  D_l_leasts : Def K mg "_law_leasts" s_l_leasts ["_law_row", "_law_every_here", "_law_words_here"] f_l_leasts d_l_leasts
  f_l_chosen : Addr
  d_l_chosen : FuncData
  D_l_chosen : Def K mg "_law_chosen" s_l_chosen ["_law_tree_here", "_law_must", "_law_never"] f_l_chosen d_l_chosen
  f_l_least_many : Addr
  d_l_least_many : FuncData
  D_l_least_many : Def K mg "_law_least_many" s_l_least_many ["_law_tree_here", "_law_must", "_law_never"] f_l_least_many d_l_least_many
  f_l_lot : Addr
  d_l_lot : FuncData
  D_l_lot : Def K mg "_law_lot" s_l_lot ["_law_bag_here", "_law_row", "_law_often"] f_l_lot d_l_lot
  f_l_is_counted : Addr
  d_l_is_counted : FuncData
  D_l_is_counted : Def K mg "_law_is_counted" s_l_is_counted ["_law_bag_here", "_law_tree_here", "_law_row", "_law_due"] f_l_is_counted d_l_is_counted
  f_l_is_even : Addr
  d_l_is_even : FuncData
  D_l_is_even : Def K mg "_law_is_even" s_l_is_even ["_law_bag_here"] f_l_is_even d_l_is_even
  f_law : Addr
  d_law : FuncData
  D_law : Def K mg "law" s_law ["_law_script"] f_law d_law
  n_isinstance : mg "isinstance" = none
  n_tuple : mg "tuple" = none
  n_int : mg "int" = none
  n_sorted : mg "sorted" = none
  n_range : mg "range" = none
  n_len : mg "len" = none
  n_abs : mg "abs" = none
  n_list : mg "list" = none
  n_min : mg "min" = none
  n_zip : mg "zip" = none
  n_enumerate : mg "enumerate" = none
  n_set : mg "set" = none
  n_repr : mg "repr" = none
end K16
namespace K16
open PySem L2
/-! ## what stands -/
/-- the tuples stand -/
def Tk (H H' : Hp) : Prop := ∀ a xs, H a = some (.tup xs) → H' a = some (.tup xs)
theorem Tk.of {H H' : Hp} (s : Same H H') : Tk H H' := fun a _ h => s a _ h
theorem same_new {H : Hp} {p : Addr} {o : HO} (h : H p = none) : Same H (upd H p o) := fun b u q => by
  rw [upd_ne (ne_of_none q h)]
  exact q
theorem same_upd {H H' : Hp} {p : Addr} {o : HO} (s : Same H H') (h : H p = none) : Same H (upd H' p o) := fun b u q => by
  rw [upd_ne (ne_of_none q h)]
  exact s b u q
theorem at_same {H : Hp} {p : Addr} {o : HO} : upd H p o p = some o := upd_same
theorem at_new {H : Hp} {a p : Addr} {o u : HO} (h : H a = some u) (n : H p = none) : upd H p o a = some u := by
  rw [upd_ne (ne_of_none h n)]
  exact h
/-- a new object, seen from the heap behind it -/
theorem newO {H : Hp} {o : HO} {Q : VK} (k : ∀ H1 p, Same H H1 → H p = none → H1 p = some o → Q (.ref p) H1) : ∀ p, H p = none → Q (.ref p) (upd H p o) :=
  fun p n => k _ p (same_new n) n upd_same
def Bag (H : Hp) (b g : Addr) : Prop := ∃ (gs : List Int) (m t : Int), H b = some (.dK [(Sum.inr "great", .ref g), (Sum.inr "mixed", .int m), (Sum.inr "turn", .int t)]) ∧ H g = some (.lst (gs.map V.int))
/-- all stands but the bag, which is a bag -/
structure Kb (b g : Addr) (H H' : Hp) : Prop where
  bag0 : Bag H b g
  keep : ∀ a o, a ≠ b → a ≠ g → H a = some o → H' a = some o
  bag : Bag H' b g
section
variable {b g p a : Addr} {H H1 H2 : Hp} {o u : HO}
theorem Bag.neb (k : Bag H b g) (h : H p = none) : p ≠ b := by
  obtain ⟨gs, m, t, e1, e2⟩ := k
  exact (ne_of_none e1 h).symm
theorem Bag.neg (k : Bag H b g) (h : H p = none) : p ≠ g := by
  obtain ⟨gs, m, t, e1, e2⟩ := k
  exact (ne_of_none e2 h).symm
theorem Bag.tup {xs : List V} (k : Bag H b g) (h : H p = some (.tup xs)) : p ≠ b ∧ p ≠ g := by
  obtain ⟨gs, m, t, e1, e2⟩ := k
  exact ⟨ne_of h e1 (fun q => nomatch q), ne_of h e2 (fun q => nomatch q)⟩
theorem Bag.upd (k : Bag H b g) (h1 : p ≠ b) (h2 : p ≠ g) : Bag (upd H p o) b g := by
  obtain ⟨gs, m, t, e1, e2⟩ := k
  exact ⟨gs, m, t, by rw [upd_ne h1.symm]; exact e1, by rw [upd_ne h2.symm]; exact e2⟩
theorem Bag.same (k : Bag H b g) (s : Same H H1) : Bag H1 b g := by
  obtain ⟨gs, m, t, e1, e2⟩ := k
  exact ⟨gs, m, t, s _ _ e1, s _ _ e2⟩
theorem Kb.refl (k : Bag H b g) : Kb b g H H := ⟨k, fun _ _ _ _ h => h, k⟩
theorem Kb.trans (k : Kb b g H H1) (k' : Kb b g H1 H2) : Kb b g H H2 := ⟨k.bag0, fun a o h1 h2 h => k'.keep a o h1 h2 (k.keep a o h1 h2 h), k'.bag⟩
theorem Kb.same (k : Kb b g H H1) (s : Same H1 H2) : Kb b g H H2 := ⟨k.bag0, fun a o h1 h2 h => s a o (k.keep a o h1 h2 h), k.bag.same s⟩
theorem Kb.upd (k : Kb b g H H1) (n : H p = none) : Kb b g H (upd H1 p o) :=
  ⟨k.bag0, fun a o h1 h2 h => by rw [upd_ne (ne_of_none h n)]; exact k.keep a o h1 h2 h, k.bag.upd (k.bag0.neb n) (k.bag0.neg n)⟩
theorem Kb.free (k : Kb b g H H1) (n : H1 p = none) : H p = none := by
  cases q : H p with
  | none => rfl
  | some o =>
    have := k.keep p o (k.bag.neb n) (k.bag.neg n) q
    rw [n] at this
    cases this
theorem Kb.tk (k : Kb b g H H1) : Tk H H1 := fun a xs h => k.keep a _ (k.bag0.tup h).1 (k.bag0.tup h).2 h
end
/-! ## a tree in the heap -/
def TAt (H : Hp) : (n : Nat) → Tr n → V → Prop
  | 0, t, _ => Empty.elim t
  | n + 1, t, v => match (t : Node (Tr n)) with
    | .leaf b => v = .int b
    | .trip k ps => ∃ (a p : Addr) (vs : List V), v = .ref a ∧ H a = some (.tup [.int (k : Nat), .ref p]) ∧ H p = some (.tup vs) ∧ Paired (TAt H n) ps vs
theorem TAt_leaf {H : Hp} {n : Nat} {b : Int} {v : V} : TAt H (n + 1) (leaf b) v ↔ v = .int b := Iff.rfl
theorem TAt_trip {H : Hp} {n k : Nat} {ps : List (Tr n)} {v : V} : TAt H (n + 1) (trip k ps) v ↔ ∃ (a p : Addr) (vs : List V), v = .ref a ∧ H a = some (.tup [.int (k : Nat), .ref p]) ∧ H p = some (.tup vs) ∧ Paired (TAt H n) ps vs := Iff.rfl
theorem paired_len {α β : Type} {F : α → β → Prop} {xs : List α} {ys : List β} (h : Paired F xs ys) : xs.length = ys.length := Paired.length h
theorem paired_at {α β : Type} {F : α → β → Prop} : ∀ {xs : List α} {ys : List β}, Paired F xs ys → ∀ {i : Nat} {y : β}, ys[i]? = some y → ∃ x, xs[i]? = some x ∧ F x y
  | _, _, .nil, i, y, h => by simp at h
  | _, _, .cons (a := a) r t, 0, y, h => by
    simp at h
    subst h
    exact ⟨_, rfl, r⟩
  | _, _, .cons r t, i + 1, y, h => by
    simp only [List.getElem?_cons_succ] at h ⊢
    exact paired_at t h
theorem paired_mono {α β : Type} {F G : α → β → Prop} (h : ∀ a b, F a b → G a b) : ∀ {xs : List α} {ys : List β}, Paired F xs ys → Paired G xs ys
  | _, _, .nil => .nil
  | _, _, .cons r t => .cons (h _ _ r) (paired_mono h t)
theorem paired_app {α β : Type} {F : α → β → Prop} : ∀ {xs : List α} {ys : List β} {us : List α} {ws : List β}, Paired F xs ys → Paired F us ws → Paired F (xs ++ us) (ys ++ ws)
  | _, _, _, _, .nil, s => s
  | _, _, _, _, .cons r t, s => .cons r (paired_app t s)
theorem TAt.mono {H H' : Hp} (s : Tk H H') : ∀ {n : Nat} {t : Tr n} {v : V}, TAt H n t v → TAt H' n t v
  | 0, t, _, _ => Empty.elim t
  | n + 1, t, v, h => by
    revert h
    refine tr_cases (M := fun t => TAt H (n + 1) t v → TAt H' (n + 1) t v) (fun b h => h) (fun k ps h => ?_) t
    obtain ⟨a, p, vs, e, h1, h2, h3⟩ := h
    exact ⟨a, p, vs, e, s _ _ h1, s _ _ h2, paired_mono (fun _ _ q => TAt.mono s q) h3⟩
def isT {n : Nat} (t : Tr (n + 1)) : Bool := match (t : Node (Tr n)) with | .leaf _ => false | .trip _ _ => true
/-- a list (a tuple) of ints -/
abbrev IL (H : Hp) (a : Addr) (ns : List Int) : Prop := H a = some (.lst (ns.map V.int))
abbrev IT (H : Hp) (a : Addr) (ns : List Int) : Prop := H a = some (.tup (ns.map V.int))
theorem IT.mono {H H' : Hp} {a : Addr} {ns : List Int} (s : Tk H H') (h : IT H a ns) : IT H' a ns := s _ _ h
theorem int_at {ns : List Int} {i : Nat} {x : V} (h : (ns.map V.int)[i]? = some x) : ∃ z, ns[i]? = some z ∧ x = .int z := by
  rw [List.getElem?_map] at h
  cases e : ns[i]? with
  | none => rw [e] at h; cases h
  | some z => rw [e] at h; exact ⟨z, rfl, (Option.some.inj h).symm⟩
theorem at_int {ns : List Int} {i : Nat} {z : Int} (h : ns[i]? = some z) : (ns.map V.int)[i]? = some (.int z) := by
  rw [List.getElem?_map, h]
  rfl
theorem flat_ints (ns : List Int) : (ns.map V.int).all flatV = true := by
  rw [List.all_eq_true]
  intro x hx
  obtain ⟨z, _, rfl⟩ := List.mem_map.mp hx
  rfl
theorem in_ints (z : Int) (ns : List Int) : inV (.int z) (ns.map V.int) = decide (z ∈ ns) := by
  unfold inV
  rw [Bool.eq_iff_iff, List.any_eq_true, decide_eq_true_eq]
  constructor
  · rintro ⟨y, hy, e⟩
    obtain ⟨w, hw, rfl⟩ := List.mem_map.mp hy
    have : w = z := by simpa [eqV] using e
    exact this ▸ hw
  · exact fun h => ⟨.int z, List.mem_map.mpr ⟨z, h, rfl⟩, by simp [eqV]⟩
theorem dp_ints {K : PySem.W.Frag} {H : Hp} : ∀ ns : List Int, DpAll K H (ns.map V.int) (ns.map PyData.int)
  | [] => .nil
  | n :: ns => .cons (.int n) (dp_ints ns)
end K16
namespace K16
open PySem L2
/-! ## readings that speak of the heap behind by what is true of it -/
/-- a new object o -/
def nw (H : Hp) (o : HO) (Q : VK) : Prop := ∀ H1 p, Same H H1 → H p = none → H1 p = some o → Q (.ref p) H1
/-- all but what is at l stands -/
def Ex (l : Addr) (H H1 : Hp) : Prop := ∀ a u, a ≠ l → H a = some u → H1 a = some u
/-- what is at l becomes o -/
def mu (H : Hp) (l : Addr) (o : HO) (Q : Hp → Prop) : Prop := ∀ H1, Ex l H H1 → H1 l = some o → Q H1
theorem nw.to {H : Hp} {o : HO} {Q : VK} (q : nw H o Q) : ∀ p, H p = none → Q (.ref p) (upd H p o) := fun p n => q _ p (same_new n) n upd_same
theorem ex_upd {H : Hp} {l : Addr} {o : HO} : Ex l H (upd H l o) := fun a u h e => by rw [upd_ne h]; exact e
theorem mu.to {H : Hp} {l : Addr} {o : HO} {Q : Hp → Prop} (q : mu H l o Q) : Q (upd H l o) := q _ ex_upd upd_same
section
variable {H H1 H2 : Hp} {l p b g : Addr} {o u : HO}
theorem Ex.of (s : Same H H1) : Ex l H H1 := fun a u _ e => s a u e
theorem same_ex (s : Same H H1) (n : H l = none) (x : Ex l H1 H2) : Same H H2 := fun a u e => x a u (ne_of_none e n) (s a u e)
theorem ex_free (x : Ex l H H1) (h : H1 l = some o) (n : H1 p = none) : H p = none := by
  cases q : H p with
  | none => rfl
  | some v =>
    by_cases e : p = l
    · rw [e, h] at n; cases n
    · rw [x p v e q] at n; cases n
theorem Kb.ex (k : Kb b g H H1) (n : H l = none) (x : Ex l H1 H2) : Kb b g H H2 := by
  refine ⟨k.bag0, fun a u h1 h2 h => x a u (ne_of_none h n) (k.keep a u h1 h2 h), ?_⟩
  obtain ⟨gs, m, t, e1, e2⟩ := k.bag
  exact ⟨gs, m, t, x _ _ (k.bag0.neb n).symm e1, x _ _ (k.bag0.neg n).symm e2⟩
end
section
variable {X : Cx}
/-! ### closures: a reading that may ask for less -/
theorem imp_e {e : Expr} {t t' : TE} (h : PE X e t) (i : ∀ σ H Q, t' σ H Q → t σ H Q) : PE X e t' := ⟨fun pins s σ H Q I q => h.run pins s σ H Q I (i σ H Q q)⟩
theorem imp_s {e : Stmt} {t t' : TS} (h : PS X e t) (i : ∀ D σ H, t' D σ H → t D σ H) : PS X e t' := ⟨fun pins s σ H D I q => h.run pins s σ H D I (i D σ H q)⟩
def clA (t : TA) : TA := fun σ H R => ∃ R', t σ H R' ∧ ∀ xs H1, R' xs H1 → R xs H1
def clE (t : TE) : TE := fun σ H R => ∃ R', t σ H R' ∧ ∀ x H1, R' x H1 → R x H1
def clT (t : TT) : TT := fun σ H R => ∃ R', t σ H R' ∧ ∀ x H1, R' x H1 → R x H1
def clG (t : TG) : TG := fun v σ H R => ∃ R', t v σ H R' ∧ ∀ σ' H1, R' σ' H1 → R σ' H1
theorem cl_a {es : List Expr} {t : TA} (h : PA X es t) : PA X es (clA t) := ⟨fun pos pins s σ H Q I ⟨R', q, i⟩ => thn (h.run pos pins s σ H R' I q) fun _ _ ⟨vs, H1, I1, r, q1⟩ => ⟨vs, H1, I1, r, i _ _ q1⟩⟩
theorem cl_e {e : Expr} {t : TE} (h : PE X e t) : PE X e (clE t) := ⟨fun pins s σ H Q I ⟨R', q, i⟩ => thn (h.run pins s σ H R' I q) fun _ _ ⟨v, H1, I1, r, q1⟩ => ⟨v, H1, I1, r, i _ _ q1⟩⟩
theorem cl_t {ifs : List Expr} {t : TT} (h : PTs X ifs t) : PTs X ifs (clT t) := ⟨fun pins s σ H Q I ⟨R', q, i⟩ => thn (h.run pins s σ H R' I q) fun _ _ ⟨H1, I1, q1⟩ => ⟨H1, I1, i _ _ q1⟩⟩
theorem cl_g {e : Expr} {t : TG} (h : PG X e t) : PG X e (clG t) := ⟨fun pins s σ H v u Q I r ⟨R', q, i⟩ => thn (h.run pins s σ H v u R' I r q) fun _ _ ⟨σ', H1, I1, q1⟩ => ⟨σ', H1, I1, i _ _ q1⟩⟩
theorem cl_p {e : Expr} {t : TT} (h : PT X e t) : PT X e (clT t) := ⟨fun pins s σ H Q I ⟨R', q, i⟩ => thn (h.run pins s σ H R' I q) fun _ _ ⟨H1, I1, q1⟩ => ⟨H1, I1, i _ _ q1⟩⟩
/-- a statement: behind it holds N, a return hands back as wished -/
def clS (t : TS) : TS := fun D σ H => ∃ N : St → Hp → Prop, t { D with nx := N } σ H ∧ ∀ σ' H', N σ' H' → D.nx σ' H'
theorem cl_s {e : Stmt} {t : TS} (h : PS X e t) : PS X e (clS t) := ⟨fun pins s σ H D I ⟨N, q, i⟩ => thn (h.run pins s σ H { D with nx := N } I q) fun f s1 z => by
  cases f with
  | next => obtain ⟨σ', H', I', n⟩ := z; exact ⟨σ', H', I', i _ _ n⟩
  | brk => exact z
  | cont => exact z
  | ret u => exact z⟩
/-! ### displays -/
def nLst (t : TA) : TE := fun σ H Q => t σ H fun xs H1 => xs.length ≤ sizeLine ∧ nw H1 (.lst xs) Q
def nTup (t : TA) : TE := fun σ H Q => t σ H fun xs H1 => xs.length ≤ sizeLine ∧ nw H1 (.tup xs) Q
theorem le_lst {es : List Expr} {t : TA} {pos : Pos} (h : PA X es t) : PE X (.List es pos) (nLst t) := imp_e (pe_lst (cl_a h)) fun _ _ _ q => ⟨_, q, fun _ _ k => ⟨k.1, k.2.to⟩⟩
theorem le_tup {es : List Expr} {t : TA} {pos : Pos} {x1} (h : PA X es t) : PE X (.Tuple es x1 pos) (nTup t) := imp_e (pe_tup (cl_a h)) fun _ _ _ q => ⟨_, q, fun _ _ k => ⟨k.1, k.2.to⟩⟩
/-! ### operators, calls, methods, by values -/
theorem imp_o {f : Value → Value → Sem Value} {r r' : R2} (h : OpR X f r) (i : ∀ x y H Q, r' x y H Q → r x y H Q) : OpR X f r' := fun pins s σ H x y v u Q I rx ry q => h pins s σ H x y v u Q I rx ry (i x y H Q q)
theorem imp_c {f : Value} {r r' : List V → Hp → VK → Prop} (h : CallR X f r) (i : ∀ xs H Q, r' xs H Q → r xs H Q) : CallR X f r' := fun pins s σ H xs us Q I rx q => h pins s σ H xs us Q I rx (i xs H Q q)
theorem imp_m {id : String} {r r' : V → List V → Hp → VK → Prop} (h : MtR X id r) (i : ∀ x xs H Q, r' x xs H Q → r x xs H Q) : MtR X id r' := fun pins s σ H x xs v us Q I rx rs q => h pins s σ H x xs v us Q I rx rs (i x xs H Q q)
theorem imp_sl {r r' : V → Option Int → Option Int → Hp → VK → Prop} (h : SlR X r) (i : ∀ x lo hi H Q, r' x lo hi H Q → r x lo hi H Q) : SlR X r' := fun pins s σ H x v vl vu lo hi sl Q I rx hs pl pu q => h pins s σ H x v vl vu lo hi sl Q I rx hs pl pu (i x lo hi H Q q)
def qCat : R2 := fun x y H Q => ∃ l b xs zs, x = .ref l ∧ y = .ref b ∧ H l = some (.lst xs) ∧ H b = some (.lst zs) ∧ xs.length + zs.length ≤ sizeLine ∧ nw H (.lst (xs ++ zs)) Q
theorem oq_cat : OpR X (binaryOp .Add) qCat := imp_o op_cat fun _ _ _ _ ⟨l, b, xs, zs, e1, e2, h1, h2, z, q⟩ => ⟨l, b, xs, zs, e1, e2, h1, h2, z, q.to⟩
def qRep : R2 := fun x y H Q => ∃ l k xs, x = .ref l ∧ y = .int k ∧ H l = some (.lst xs) ∧ -(2 ^ 63) ≤ k ∧ k < 2 ^ 63 ∧ xs.length * k.toNat ≤ sizeLine ∧ nw H (.lst (List.replicate k.toNat xs).flatten) Q
theorem oq_rep : OpR X (binaryOp .Mult) qRep := imp_o op_rep fun _ _ _ _ ⟨l, k, xs, e1, e2, h1, h2, h3, z, q⟩ => ⟨l, k, xs, e1, e2, h1, h2, h3, z, q.to⟩
/-- t + u of tuples -/
def qCatT : R2 := fun x y H Q => ∃ a b xs ys, x = .ref a ∧ y = .ref b ∧ H a = some (.tup xs) ∧ H b = some (.tup ys) ∧ ys ≠ [] ∧ xs.length + ys.length ≤ sizeLine ∧ ∀ H1 p, Same H H1 → H1 p = some (.tup (xs ++ ys)) → Q (.ref p) H1
theorem oq_catT : OpR X (binaryOp .Add) qCatT := imp_o (op_catA (X := X)) fun _ _ H _ ⟨a, b, xs, ys, e1, e2, h1, h2, ny, z, q⟩ =>
  ⟨a, b, xs, ys, e1, e2, SqT.of h1, SqT.of h2, z, fun e => q H b (Same.refl H) (by rw [e]; exact h2), fun _ e => absurd e ny, fun _ _ p n => q _ p (same_new n) upd_same⟩
def qList (K : PySem.W.Frag) : List V → Hp → VK → Prop := fun xs H Q => ∃ p ys, xs = [.ref p] ∧ (SqL K H p ys ∨ SqT K H p ys) ∧ nw H (.lst ys) Q
theorem cq_list : CallR X (.type "list") (qList X.K) := imp_c call_list_of fun _ _ _ ⟨p, ys, e, h, q⟩ => ⟨p, ys, e, h, q.to⟩
def qTuple (K : PySem.W.Frag) : List V → Hp → VK → Prop := fun xs H Q => ∃ p ys, xs = [.ref p] ∧ SqL K H p ys ∧ nw H (.tup ys) Q
theorem cq_tuple : CallR X (.type "tuple") (qTuple X.K) := imp_c call_tuple_of fun _ _ _ ⟨p, ys, e, h, q⟩ => ⟨p, ys, e, .inl ⟨h, q.to⟩⟩
def qSl (K : PySem.W.Frag) : V → Option Int → Option Int → Hp → VK → Prop := fun x lo hi H Q => ∃ a xs, x = .ref a ∧ SqL K H a xs ∧ nw H (.lst (cutV xs lo hi)) Q
theorem sq_list : SlR X (qSl X.K) := imp_sl sl_list fun _ _ _ _ _ ⟨a, xs, e, h, q⟩ => ⟨a, xs, e, h, q.to⟩
def qSorted (K : PySem.W.Frag) : List V → Hp → VK → Prop := fun vs H Q => ∃ (a : Addr) (ns : List Int), vs = [V.ref a] ∧ SqL K H a (ns.map V.int) ∧ ns.length < 64 ∧ ∀ ns' : List Int, ns'.Perm ns → nw H (.lst (ns'.map V.int)) Q
theorem cq_sorted : CallR X (.builtin "sorted") (qSorted X.K) := imp_c cr_sorted fun _ _ _ ⟨a, ns, e, h, z, q⟩ => ⟨a, ns, e, h, z, fun ns' p pm _ n => (q ns' pm).to p n⟩
def qAppend : V → List V → Hp → VK → Prop := fun x vs H Q => ∃ l xs y, x = .ref l ∧ vs = [y] ∧ H l = some (.lst xs) ∧ xs.length < sizeLine ∧ mu H l (.lst (xs ++ [y])) (Q .non)
theorem mq_append : MtR X "list.append" qAppend := imp_m mt_append fun _ _ _ _ ⟨l, xs, y, e1, e2, h, z, q⟩ => ⟨l, xs, y, e1, e2, h, z, q.to⟩
def qExtend : V → List V → Hp → VK → Prop := fun x vs H Q => ∃ l b xs zs, x = .ref l ∧ vs = [.ref b] ∧ H l = some (.lst xs) ∧ H b = some (.lst zs) ∧ xs.length + zs.length ≤ sizeLine ∧ mu H l (.lst (xs ++ zs)) (Q .non)
theorem mq_extend : MtR X "list.extend" qExtend := imp_m mt_extend fun _ _ _ _ ⟨l, b, xs, zs, e1, e2, h, h2, z, q⟩ => ⟨l, b, xs, zs, e1, e2, h, h2, z, q.to⟩
def qPop : V → List V → Hp → VK → Prop := fun x vs H Q => ∃ l xs y, x = .ref l ∧ vs = [] ∧ H l = some (.lst xs) ∧ xs[xs.length - 1]? = some y ∧ mu H l (.lst xs.dropLast) (Q y)
theorem mq_pop : MtR X "list.pop" qPop := imp_m mt_pop fun _ _ _ _ ⟨l, xs, y, e1, e2, h, z, q⟩ => ⟨l, xs, y, e1, e2, h, z, q.to⟩
def qPopAt : V → List V → Hp → VK → Prop := fun x vs H Q => ∃ l xs k y, x = .ref l ∧ vs = [.int (k : Nat)] ∧ H l = some (.lst xs) ∧ k < 1000000 ∧ xs[k]? = some y ∧ mu H l (.lst (xs.eraseIdx k)) (Q y)
theorem ixN_nat {n k : Nat} (h : k < n) : ixN n (k : Int) = some k := by
  unfold ixN
  rw [if_pos (by omega), if_pos (by omega)]
  simp
theorem mq_popAt : MtR X "list.pop" qPopAt := imp_m mt_popAt fun _ _ _ _ ⟨l, xs, k, y, e1, e2, h, hk, z, q⟩ => by
  have hl : k < xs.length := (List.getElem?_eq_some_iff.mp z).1
  exact ⟨l, xs, (k : Int), k, y, e1, e2, h, by omega, by omega, (ixN_seq (ixN_nat hl)).1, z, q.to⟩
def qSet : V → V → V → Hp → (Hp → Prop) → Prop := fun o i v H Q => ∃ p xs k j, o = .ref p ∧ i = .int k ∧ H p = some (.lst xs) ∧ ixN xs.length k = some j ∧ mu H p (.lst (xs.set j v)) Q
theorem gq_set : PSet X qSet := fun pins s σ H o i v ov iv u Q I r1 r2 r3 ⟨p, xs, k, j, e1, e2, h, z, q⟩ => set_list pins s σ H o i v ov iv u Q I r1 r2 r3 ⟨p, xs, k, j, e1, e2, h, z, q.to⟩
/-! ### list(range(..)) -/
def nRg (te : St → Hp → (Int → Int → Hp → Prop) → Prop) : TE := fun σ H Q => te σ H fun a b H1 => RgOk a b ∧ nw H1 (.lst (rgV a b)) Q
def clR (te : St → Hp → (Int → Int → Hp → Prop) → Prop) : St → Hp → (Int → Int → Hp → Prop) → Prop := fun σ H R => ∃ R', te σ H R' ∧ ∀ a b H1, R' a b H1 → R a b H1
theorem cl_r {e : Expr} {te : St → Hp → (Int → Int → Hp → Prop) → Prop} (h : PRg X e te) : PRg X e (clR te) := fun pins s σ H Q I ⟨R', q, i⟩ => thn (h pins s σ H R' I q) fun _ _ ⟨r, a, b, t, u, v, H', e, hr, I', q'⟩ => ⟨r, a, b, t, u, v, H', e, hr, I', i _ _ _ q'⟩
theorem le_listRg {e : Expr} {te : St → Hp → (Int → Int → Hp → Prop) → Prop} {p pos : Pos} (hc : X.calm = true) (hg : Gl X "list") (hm : X.mg "list" = none) (he : PRg X e te) (na : starEach [e] X.env = (false, eval e X.env) :: starEach [] X.env := by rfl) :
    PE X (.Call (.Name "list" p) [e] [] pos) (nRg te) := imp_e (pe_listRg hc hg hm (cl_r he) na) fun _ _ _ q => ⟨_, q, fun _ _ _ k => ⟨k.1, k.2.to⟩⟩
/-! ### comprehensions -/
def nLc (wi : TI) (g : TG) (tt : TT) (te : TE) (vs : List Nat) : TE := fun σ H Q => wi σ H fun J H1 => ∀ D, H1 D = none → ∃ (n : Nat) (Pv : Nat → List V → Hp → Prop),
  (∀ H2, Same H1 H2 → H2 D = some (.lst []) → Pv 0 [] H2) ∧
  (∀ i acc H2, i < n → H2 D = some (.lst acc) → Pv i acc H2 → J.go i H2 ∧ acc.length < sizeLine ∧ ∀ x H3, J.yld i H2 x H3 → g x (wipe σ vs) H3 fun σ2 H4 => wipe σ2 vs = wipe σ vs ∧ tt σ2 H4 fun b H5 =>
    if b = true then te σ2 H5 fun y H6 => H6 D = some (.lst acc) ∧ ∀ H7, Ex D H6 H7 → H7 D = some (.lst (acc ++ [y])) → Pv (i + 1) (acc ++ [y]) H7
    else H5 D = some (.lst acc) ∧ Pv (i + 1) acc H5) ∧
  (∀ acc H2, H2 D = some (.lst acc) → Pv n acc H2 → J.stop n H2 ∧ Q (.ref D) H2)
theorem nLc.to {wi : TI} {g : TG} {tt : TT} {te : TE} {vs : List Nat} {σ : St} {H : Hp} {Q : VK} (q : nLc wi g tt te vs σ H Q) : tLc (fun σ H R => ∃ R', wi σ H R' ∧ ∀ J H1, R' J H1 → R J H1) (clG g) (clT tt) (clE te) vs σ H Q := by
  refine ⟨_, q, fun J H1 k D hD => ?_⟩
  obtain ⟨n, Pv, h0, hs, hd⟩ := k D hD
  refine ⟨fun i m H2 => m = n - i ∧ i ≤ n ∧ ∃ acc, H2 D = some (.lst acc) ∧ Pv i acc H2, ⟨n, by simp, Nat.zero_le _, [], upd_same, h0 _ (same_new hD) upd_same⟩, ?_⟩
  rintro i m H2 ⟨rfl, hi, acc, hacc, p⟩
  by_cases hlt : i < n
  · obtain ⟨go, hz, step⟩ := hs i acc H2 hlt hacc p
    refine .inr ⟨go, fun H' => i + 1 ≤ n ∧ ∃ acc, H' D = some (.lst acc) ∧ Pv (i + 1) acc H', fun H' ⟨h1, h2⟩ => ⟨n - (i + 1), by omega, rfl, h1, h2⟩, fun x H3 y => ?_⟩
    refine ⟨_, step x H3 y, fun σ2 H4 ⟨e, k2⟩ => ⟨e, _, k2, fun b H5 k3 => ?_⟩⟩
    cases b with
    | false =>
      simp only [Bool.false_eq_true, if_false] at k3 ⊢
      exact ⟨hlt, acc, k3⟩
    | true =>
      simp only [if_true] at k3 ⊢
      exact ⟨_, k3, fun y H6 ⟨e6, k6⟩ => ⟨acc, e6, hz, hlt, acc ++ [y], upd_same, k6 _ ex_upd upd_same⟩⟩
  · have e : i = n := by omega
    subst e
    exact .inl (hd acc H2 hacc p)
theorem cl_i {tg iter : Expr} {wi : TI} (h : PI X tg iter wi) : PI X tg iter (fun σ H R => ∃ R', wi σ H R' ∧ ∀ J H1, R' J H1 → R J H1) := ⟨fun pins s σ H R I ⟨R', q, i⟩ => thn (h.run pins s σ H R' I q) fun _ _ hv => thn hv fun _ _ ⟨it, fp, tn, J, H', e, I', T, t0, f, q'⟩ => ⟨it, fp, tn, J, H', e, I', T, t0, f, i _ _ q'⟩⟩
theorem le_lc {elt tg iter : Expr} {ifs : List Expr} {scope : Scope} {own : List (Str × Nat)} {pos : Pos} {wi : TI} {g : TG} {tt : TT} {te : TE} (hc : X.calm = true) (hN : X.N.Nodup) (hi : PI X tg iter wi) (ok : BlkOk X.N X.env.scope scope own)
    (hg : ∀ (s : Shared) (H : Hp) (C : Addr) (cl : List (Str × Addr)) (fp : List Addr), PG (X.blk s H scope (compEnvC scope cl C X.env) fp) tg g) (ht : ∀ (s : Shared) (H : Hp) (C : Addr) (cl : List (Str × Addr)) (fp : List Addr), PTs (X.blk s H scope (compEnvC scope cl C X.env) fp) ifs tt)
    (he : ∀ (s : Shared) (H : Hp) (C : Addr) (cl : List (Str × Addr)) (fp : List Addr), PE (X.blk s H scope (compEnvC scope cl C X.env) fp) elt te) (hs : ∀ x, foldedSetIterable iter X.env x = pure x := by intro _; rfl) :
    PE X (.ListComp elt [⟨tg, iter, ifs, 0⟩] scope pos) (nLc wi g tt te (own.map (·.2))) :=
  imp_e (pe_lc hc hN (cl_i hi) ok (fun s H C cl fp => cl_g (hg s H C cl fp)) (fun s H C cl fp => cl_t (ht s H C cl fp)) (fun s H C cl fp => cl_e (he s H C cl fp)) hs) fun _ _ _ q => q.to
theorem le_setLc {i : Nat} {y : Str} {py : Pos} {elt tg iter : Expr} {ifs : List Expr} {scope : Scope} {own : List (Str × Nat)} {pos spos : Pos} {wi : TI} {g : TG} {tt : TT} {te : TE} (hc : X.calm = true) (hN : X.N.Nodup) (hy : X.N[i]? = some y) (hyl : X.env.scope.names.lookup y = some .local)
    (hsw : swapsWith (.ListComp elt [⟨tg, iter, ifs, 0⟩] scope pos) (some (.Name y py)) spos.line X.env = pure true) (hi : PI X tg iter wi) (ok : BlkOk X.N X.env.scope scope own)
    (hg : ∀ (s : Shared) (H : Hp) (C : Addr) (cl : List (Str × Addr)) (fp : List Addr), PG (X.blk s H scope (compEnvC scope cl C X.env) fp) tg g) (ht : ∀ (s : Shared) (H : Hp) (C : Addr) (cl : List (Str × Addr)) (fp : List Addr), PTs (X.blk s H scope (compEnvC scope cl C X.env) fp) ifs tt)
    (he : ∀ (s : Shared) (H : Hp) (C : Addr) (cl : List (Str × Addr)) (fp : List Addr), PE (X.blk s H scope (compEnvC scope cl C X.env) fp) elt te) (hs : ∀ x, foldedSetIterable iter X.env x = pure x := by intro _; rfl) :
    PS X (.Assign [.Name y py] (.ListComp elt [⟨tg, iter, ifs, 0⟩] scope pos) spos) (tAsg (nLc wi g tt te (own.map (·.2))) (gName i)) :=
  imp_s (ps_setLc hc hN hy hyl hsw (cl_i hi) ok (fun s H C cl fp => cl_g (hg s H C cl fp)) (fun s H C cl fp => cl_t (ht s H C cl fp)) (fun s H C cl fp => cl_e (he s H C cl fp)) hs) fun _ _ _ q => nLc.to q
end
theorem Tk.refl (H : Hp) : Tk H H := fun _ _ h => h
theorem Tk.trans {H H1 H2 : Hp} (a : Tk H H1) (b : Tk H1 H2) : Tk H H2 := fun x xs h => b x xs (a x xs h)
theorem Ex.tk {H H1 : Hp} {l : Addr} {xs : List V} (x : Ex l H H1) (h : H l = some (.lst xs)) : Tk H H1 := fun a ys e => x a _ (ne_of e h (fun z => nomatch z)) e
theorem cut_to (ns : List Int) (s : Nat) : cutV (ns.map V.int) none (some (s : Nat)) = (ns.take s).map V.int := by
  unfold cutV
  rw [HT.sIx_none, HT.sIx_nat, List.length_map, List.drop_zero, Nat.sub_zero, List.map_take]
  by_cases h : s ≤ ns.length
  · rw [Nat.min_eq_left h]
  · rw [Nat.min_eq_right (by omega), List.take_of_length_le (by rw [List.length_map]; exact Nat.le_refl _), List.take_of_length_le (by rw [List.length_map]; omega)]
theorem cut_from (ns : List Int) (s : Nat) : cutV (ns.map V.int) (some (s : Nat)) none = (ns.drop s).map V.int := by
  unfold cutV
  rw [HT.sIx_none, HT.sIx_nat, List.length_map]
  by_cases h : s ≤ ns.length
  · rw [Nat.min_eq_left h, List.take_of_length_le (by rw [List.length_drop, List.length_map]; exact Nat.le_refl _), List.map_drop]
  · rw [Nat.min_eq_right (by omega), Nat.sub_self, List.take_zero, List.drop_eq_nil_of_le (by omega)]
    rfl
/-! ### while, by an invariant with a measure and what holds behind -/
theorem while_inv {c : TT} {tb : TS} {D : Ends} {σ : St} {H : Hp} (W : Nat → St → Hp → Prop) (Ew : St → Hp → Prop) (h0 : ∃ m, W m σ H)
    (hs : ∀ m σ H (R : Bool → Hp → Prop), W m σ H → (∀ H1, tb { D with nx := fun σ' H' => ∃ m', m' < m ∧ W m' σ' H', ct := fun σ' H' => ∃ m', m' < m ∧ W m' σ' H', bk := D.nx } σ H1 → R true H1) → (∀ H1, Ew σ H1 → R false H1) → c σ H R)
    (hx : ∀ σ H, Ew σ H → D.nx σ H) : tWhile c tb D σ H := by
  refine ⟨W, h0, fun m σ H w => hs m σ H _ w (fun H1 q => ?_) (fun H1 e => ?_)⟩
  · exact iteT ⟨_, fun _ _ h => h, q⟩
  · exact iteF (hx σ H1 e)
/-! ### rules that name the written part: within a comprehension's block nothing else may hang on it -/
section
variable {X : Cx} {tg : Expr}
theorem oin (K : PySem.W.Frag) (h : X.K = K := by rfl) : OpR X (compareOp .In) (rIn K false) := h ▸ op_in_seq
theorem onin (K : PySem.W.Frag) (h : X.K = K := by rfl) : OpR X (compareOp .NotIn) (rIn K true) := h ▸ op_notIn_seq
theorem ixl (K : PySem.W.Frag) (h : X.K = K := by rfl) : IxR X (rIxL K) := h ▸ ix_list
theorem ixt (K : PySem.W.Frag) (h : X.K = K := by rfl) : IxR X (rIxT K) := h ▸ ix_tup
theorem oeqD (K : PySem.W.Frag) (hu : X.A.units + 64 < cLine) (h : X.K = K := by rfl) : OpR X (compareOp .Eq) (rEqD K) := h ▸ op_eqD hu
theorem oneD (K : PySem.W.Frag) (hu : X.A.units + 64 < cLine) (h : X.K = K := by rfl) : OpR X (compareOp .NotEq) (rNeD K) := h ▸ op_neD hu
theorem pil (K : PySem.W.Frag) {l : Expr} {tl : TE} (hl : PE X l tl) (h : X.K = K := by rfl) : PI X tg l (iList K tl) := h ▸ pi_list hl
theorem pit (K : PySem.W.Frag) {l : Expr} {tl : TE} (hl : PE X l tl) (h : X.K = K := by rfl) : PI X tg l (iTup K tl) := h ▸ pi_tup hl
end
/-! ### a comprehension that changes nothing: its list is a function of what is walked -/
theorem range_fmap {α β : Type} (f : α → Option β) : ∀ xs : List α, (List.range xs.length).filterMap (fun i => xs[i]?.bind f) = xs.filterMap f
  | [] => rfl
  | x :: xs => by
    rw [List.length_cons, List.range_succ_eq_map, List.filterMap_cons, List.filterMap_map]
    have e : ((fun i => ((x :: xs)[i]?).bind f) ∘ Nat.succ) = fun i => xs[i]?.bind f := by
      funext i
      simp
    rw [e, range_fmap f xs, List.filterMap_cons]
    rfl
theorem lc_fun {J : It} {g : TG} {tt : TT} {te : TE} {vs : List Nat} {σ : St} {H1 : Hp} {Qd : Addr → Hp → Prop} (n : Nat) (f : Nat → Option V) (Itm : Nat → V → Hp → Prop) (hz : n ≤ 1000)
    (go : ∀ (i : Nat) H, i < n → Same H1 H → J.go i H) (yl : ∀ (i : Nat) H x H', i < n → Same H1 H → J.yld i H x H' → Same H H' ∧ Itm i x H') (st : ∀ H, Same H1 H → J.stop n H)
    (hs : ∀ (i : Nat) (x : V) (H : Hp) (Yes : V → Hp → Prop) (No : Hp → Prop), i < n → Itm i x H → Same H1 H → (∀ y H4, f i = some y → Same H H4 → Yes y H4) → (f i = none → ∀ H3, Same H H3 → No H3) →
      g x (wipe σ vs) H fun σ2 H2 => wipe σ2 vs = wipe σ vs ∧ tt σ2 H2 fun b H3 => if b = true then te σ2 H3 Yes else No H3)
    (hq : ∀ H D, Same H1 H → H1 D = none → H D = some (.lst ((List.range n).filterMap f)) → Qd D H) :
    ∀ D, H1 D = none → ∃ (n : Nat) (Pv : Nat → List V → Hp → Prop),
      (∀ H2, Same H1 H2 → H2 D = some (.lst []) → Pv 0 [] H2) ∧
      (∀ i acc H2, i < n → H2 D = some (.lst acc) → Pv i acc H2 → J.go i H2 ∧ acc.length < sizeLine ∧ ∀ x H3, J.yld i H2 x H3 → g x (wipe σ vs) H3 fun σ2 H4 => wipe σ2 vs = wipe σ vs ∧ tt σ2 H4 fun b H5 =>
        if b = true then te σ2 H5 fun y H6 => H6 D = some (.lst acc) ∧ ∀ H7, Ex D H6 H7 → H7 D = some (.lst (acc ++ [y])) → Pv (i + 1) (acc ++ [y]) H7
        else H5 D = some (.lst acc) ∧ Pv (i + 1) acc H5) ∧
      (∀ acc H2, H2 D = some (.lst acc) → Pv n acc H2 → J.stop n H2 ∧ Qd D H2) := by
  intro D hD
  refine ⟨n, fun i acc H => Same H1 H ∧ acc = (List.range i).filterMap f, fun H2 s _ => ⟨s, rfl⟩, fun i acc H2 hi hacc ⟨s, e⟩ => ?_, fun acc H2 hacc ⟨s, e⟩ => ?_⟩
  · have tk : (List.range (i + 1)).filterMap f = acc ++ (f i).toList := by
      rw [List.range_succ, List.filterMap_append, ← e]
      cases h : f i <;> simp [h]
    refine ⟨go i H2 hi s, ?_, fun x H3 y => ?_⟩
    · rw [e]
      refine Nat.lt_of_le_of_lt (List.length_filterMap_le _ _) (small1000 ?_)
      rw [List.length_range]
      omega
    · obtain ⟨s3, it⟩ := yl i H2 x H3 hi s y
      refine hs i x H3 _ _ hi it (s.trans s3) (fun y' H4 fy s4 => ⟨s4 _ _ (s3 _ _ hacc), fun H7 x7 e7 => ⟨same_ex ((s.trans s3).trans s4) hD x7, ?_⟩⟩) (fun fn H4 s4 => ⟨s4 _ _ (s3 _ _ hacc), (s.trans s3).trans s4, ?_⟩)
      · rw [tk, fy]; rfl
      · rw [tk, fn]; simp
  · subst e
    exact ⟨st H2 s, hq H2 D s hD hacc⟩
/-- over a list that stands -/
theorem lc_funL {K : PySem.W.Frag} {a : Addr} {xs : List V} {g : TG} {tt : TT} {te : TE} {vs : List Nat} {σ : St} {H1 : Hp} {Qd : Addr → Hp → Prop} (f : V → Option V) (hx : SqL K H1 a xs) (hz : xs.length ≤ 1000)
    (hs : ∀ (i : Nat) (x : V) (H : Hp) (Yes : V → Hp → Prop) (No : Hp → Prop), xs[i]? = some x → Same H1 H → (∀ y H4, f x = some y → Same H H4 → Yes y H4) → (f x = none → ∀ H3, Same H H3 → No H3) →
      g x (wipe σ vs) H fun σ2 H2 => wipe σ2 vs = wipe σ vs ∧ tt σ2 H2 fun b H3 => if b = true then te σ2 H3 Yes else No H3)
    (hq : ∀ H D, Same H1 H → H1 D = none → H D = some (.lst (xs.filterMap f)) → Qd D H) :
    ∀ D, H1 D = none → ∃ (n : Nat) (Pv : Nat → List V → Hp → Prop),
      (∀ H2, Same H1 H2 → H2 D = some (.lst []) → Pv 0 [] H2) ∧
      (∀ i acc H2, i < n → H2 D = some (.lst acc) → Pv i acc H2 → (Itl K a).go i H2 ∧ acc.length < sizeLine ∧ ∀ x H3, (Itl K a).yld i H2 x H3 → g x (wipe σ vs) H3 fun σ2 H4 => wipe σ2 vs = wipe σ vs ∧ tt σ2 H4 fun b H5 =>
        if b = true then te σ2 H5 fun y H6 => H6 D = some (.lst acc) ∧ ∀ H7, Ex D H6 H7 → H7 D = some (.lst (acc ++ [y])) → Pv (i + 1) (acc ++ [y]) H7
        else H5 D = some (.lst acc) ∧ Pv (i + 1) acc H5) ∧
      (∀ acc H2, H2 D = some (.lst acc) → Pv n acc H2 → (Itl K a).stop n H2 ∧ Qd D H2) := by
  refine lc_fun xs.length (fun i => xs[i]?.bind f) (fun i x _ => xs[i]? = some x) hz (fun i H hi s => ⟨xs, xs[i], s.seq hx, List.getElem?_eq_getElem hi⟩) (fun i H x H' hi s y => ?_) (fun H s => ⟨xs, s.seq hx, Nat.le_refl _⟩) (fun i x H Yes No hi it s hy hn => ?_) fun H D s n e => hq H D s n (by rw [e, range_fmap])
  · obtain ⟨rfl, y⟩ := y
    exact ⟨Same.refl _, y xs (s.seq hx)⟩
  · exact hs i x H Yes No it s (fun y H4 e s4 => hy y H4 (by simp only [it]; exact e) s4) fun e H3 s3 => hn (by simp only [it]; exact e) H3 s3
theorem seqT {K : PySem.W.Frag} {H H' : Hp} {a : Addr} {xs : List V} (e : Same H H') (h : SqT K H a xs) : SqT K H' a xs := by
  rcases h with (h | ⟨o, h⟩) | h
  · exact .inl (.inl (e _ _ h))
  · exact .inl (.inr ⟨o, e _ _ h⟩)
  · exact .inr h
/-- over a tuple -/
theorem lc_funT {K : PySem.W.Frag} {a : Addr} {xs : List V} {g : TG} {tt : TT} {te : TE} {vs : List Nat} {σ : St} {H1 : Hp} {Qd : Addr → Hp → Prop} (f : V → Option V) (hx : SqT K H1 a xs) (hz : xs.length ≤ 1000)
    (hs : ∀ (i : Nat) (x : V) (H : Hp) (Yes : V → Hp → Prop) (No : Hp → Prop), xs[i]? = some x → Same H1 H → (∀ y H4, f x = some y → Same H H4 → Yes y H4) → (f x = none → ∀ H3, Same H H3 → No H3) →
      g x (wipe σ vs) H fun σ2 H2 => wipe σ2 vs = wipe σ vs ∧ tt σ2 H2 fun b H3 => if b = true then te σ2 H3 Yes else No H3)
    (hq : ∀ H D, Same H1 H → H1 D = none → H D = some (.lst (xs.filterMap f)) → Qd D H) :
    ∀ D, H1 D = none → ∃ (n : Nat) (Pv : Nat → List V → Hp → Prop),
      (∀ H2, Same H1 H2 → H2 D = some (.lst []) → Pv 0 [] H2) ∧
      (∀ i acc H2, i < n → H2 D = some (.lst acc) → Pv i acc H2 → (Itt K a).go i H2 ∧ acc.length < sizeLine ∧ ∀ x H3, (Itt K a).yld i H2 x H3 → g x (wipe σ vs) H3 fun σ2 H4 => wipe σ2 vs = wipe σ vs ∧ tt σ2 H4 fun b H5 =>
        if b = true then te σ2 H5 fun y H6 => H6 D = some (.lst acc) ∧ ∀ H7, Ex D H6 H7 → H7 D = some (.lst (acc ++ [y])) → Pv (i + 1) (acc ++ [y]) H7
        else H5 D = some (.lst acc) ∧ Pv (i + 1) acc H5) ∧
      (∀ acc H2, H2 D = some (.lst acc) → Pv n acc H2 → (Itt K a).stop n H2 ∧ Qd D H2) := by
  refine lc_fun xs.length (fun i => xs[i]?.bind f) (fun i x _ => xs[i]? = some x) hz (fun i H hi s => ⟨xs, xs[i], seqT s hx, List.getElem?_eq_getElem hi⟩) (fun i H x H' hi s y => ?_) (fun H s => ⟨xs, seqT s hx, Nat.le_refl _⟩) (fun i x H Yes No hi it s hy hn => ?_) fun H D s n e => hq H D s n (by rw [e, range_fmap])
  · obtain ⟨rfl, y⟩ := y
    exact ⟨Same.refl _, y xs (seqT s hx)⟩
  · exact hs i x H Yes No it s (fun y H4 e s4 => hy y H4 (by simp only [it]; exact e) s4) fun e H3 s3 => hn (by simp only [it]; exact e) H3 s3
end K16
namespace K16
open PySem L2
/-! ## sorted(xs), xs a list of tuples of ints of any lengths, none of them empty -/
def LotAt (H : Hp) (l : List Int) (v : V) : Prop := ∃ t, v = .ref t ∧ IT H t l
theorem LotAt.mono {H H' : Hp} {l : List Int} {v : V} (s : Tk H H') (h : LotAt H l v) : LotAt H' l v := by
  obtain ⟨t, e, h⟩ := h
  exact ⟨t, e, s _ _ h⟩
/-- what sorting takes a lot for -/
def encL (b : V × List Int) : PyData := .tuple (b.2.map .int)
section
variable {X : Cx} {pins : List (Addr × Obj)} {σ : L2.St} {H : Hp} {s : Shared}
theorem each_lots : ∀ {xs : List V} {ls : List (List Int)} {us : List Value}, Vals xs us → Paired (LotAt H) ls xs → PySem.W.EachIs (fun v b => RelV b.1 v) us (xs.zip ls) ∧ xs.length = ls.length
  | _, _, _, .nil, .nil => ⟨.nil, rfl⟩
  | _, _, _, .cons r t, .cons _ p => by
    obtain ⟨h1, h2⟩ := each_lots t p
    exact ⟨.cons r h1, by rw [List.length_cons, List.length_cons, h2]⟩
theorem each_reads (I : Inv X pins σ H s) : ∀ {xs : List V} {ls : List (List Int)} {us : List Value}, Vals xs us → Paired (LotAt H) ls xs → PySem.W.EachIs (fun v b => ∃ as, Reads s.heap v (encL b) as) us (xs.zip ls)
  | _, _, _, .nil, .nil => .nil
  | _, _, _, .cons r t, .cons h p => by
    refine .cons ?_ (each_reads I t p)
    obtain ⟨a, rfl, ha⟩ := h
    exact Dp.reads I _ _ _ (.tup (SqT.of ha) (dp_ints _)) r
theorem zip_lots {ls : List (List Int)} {xs : List V} (p : Paired (LotAt H) ls xs) : ∀ b ∈ xs.zip ls, LotAt H b.2 b.1 ∧ b.2 ∈ ls := by
  induction p with
  | nil => exact fun b hb => by simp at hb
  | @cons l v ls xs h _ ih =>
    intro b hb
    rw [List.zip_cons_cons] at hb
    rcases List.mem_cons.mp hb with e | hb
    · rw [e]
      exact ⟨h, List.mem_cons_self⟩
    · obtain ⟨h1, h2⟩ := ih b hb
      exact ⟨h1, List.mem_cons_of_mem _ h2⟩
theorem vals_each : ∀ {us : List Value} {bs : List (V × List Int)}, PySem.W.EachIs (fun v b => RelV b.1 v) us bs → Vals (bs.map (·.1)) us
  | _, _, .nil => .nil
  | _, _, .cons r t => .cons r (vals_each t)
theorem paired_split : ∀ {bs : List (V × List Int)}, (∀ b ∈ bs, LotAt H b.2 b.1) → Paired (LotAt H) (bs.map (·.2)) (bs.map (·.1))
  | [], _ => .nil
  | b :: bs, h => .cons (h b List.mem_cons_self) (paired_split fun c hc => h c (List.mem_cons_of_mem _ hc))
def qSortL (K : PySem.W.Frag) : List V → Hp → VK → Prop := fun vs H Q => ∃ (a : Addr) (xs : List V) (ls : List (List Int)), vs = [V.ref a] ∧ SqL K H a xs ∧ xs.length ≤ 1000 ∧ Paired (LotAt H) ls xs ∧ (∀ l ∈ ls, l ≠ []) ∧
  ∀ (due : List (List Int)) (ys : List V), Paired (LotAt H) due ys → List.Perm due ls → nw H (.lst ys) Q
theorem cq_sortL (hu : X.A.units + 64 < cLine) : CallR X (.builtin "sorted") (qSortL X.K) := by
  intro pins s σ H vs us Q I r h
  obtain ⟨a, xs, ls, rfl, hs, hz, pr, hne, q⟩ := h
  obtain ⟨its, rv, hl, _⟩ := I.list hs
  rw [Vals.ref1 r]
  obtain ⟨e1, e2⟩ := each_lots rv pr
  have zl := zip_lots pr
  have hzl : (xs.zip ls).length = xs.length := by rw [List.length_zip, ← e2, Nat.min_self]
  have z24 : xs.length ≤ sizeLine := Nat.le_of_lt (small1000 hz)
  refine PySem.W.sorted_data (R := fun v b => RelV b.1 v) (enc := encL) (bs := xs.zip ls) hl.isList e1 (each_reads I rv pr) (.of fun b b' => ?_) (.inl fun d hd => ?_) (by rw [hzl]; exact z24) (fun b hb => ?_) fun out hol eo => ?_
  · show PySem.W.alike (.tuple (b.2.map .int)) (.tuple (b'.2.map .int)) = true
    simp [PySem.W.alike, PySem.W.alike_ints]
  · obtain ⟨b, hb, rfl⟩ := List.mem_map.mp hd
    have nb := hne _ (zl b hb).2
    obtain ⟨v, l⟩ := b
    cases l with
    | nil => exact absurd rfl nb
    | cons x r => exact ⟨_, _, rfl⟩
  · show X.A.units + 2 + PyData.depth (.tuple (b.2.map .int)) < cLine
    rw [PyData.depth, PySem.W.depth_ints]
    omega
  · generalize hbs : (xs.zip ls).mergeSort (PySem.W.dataLe false encL) = bs at eo
    have pm : bs.Perm (xs.zip ls) := by rw [← hbs]; exact List.mergeSort_perm _ _
    have h1 : Paired (LotAt H) (bs.map (·.2)) (bs.map (·.1)) := paired_split fun b hb => (zl b (pm.mem_iff.mp hb)).1
    have h2 : (bs.map (·.2)).Perm ls := by
      have := pm.map (·.2)
      rwa [List.map_snd_zip (by rw [e2]; exact Nat.le_refl _)] at this
    obtain ⟨ep, he'⟩ := PyProof.Rows.sortedAll_at s.heap its out.toArray
    have hlen : (bs.map (·.1)).length ≤ sizeLine := by rw [List.length_map, pm.length_eq, hzl]; exact z24
    exact ⟨.ref _, upd H (s.heap.objs.size + 1) (.lst (bs.map (·.1))), I.laid (t' := s.toks) (fun _ _ => PyProof.Rows.sortedAll_old) (Nat.le_succ _) ⟨hlen, out, ep, vals_each eo, he'⟩, rfl, (q _ _ h1 h2).to _ (I.hok.fresh (Nat.le_succ _))⟩
end
end K16
namespace K16
open PySem PySem.Spec PyProof.Rows L2
/-! ## set(xs), xs a list of ints: the set that sorted(..) takes -/
abbrev noSet (w : World) : Obj := { cls := .type "set", dict := none, data := .set #[] 0 (.fresh 0 0 (!w.params.followText "set-order")) }
section
variable {P : Program} {w : World} {A : Around} {E : Value → Shared → Prop} {s : Shared}
set_option maxHeartbeats 3200000 in
theorem set_of_ints {l : Addr} {items : Array Value} (ns : List Int) {Q : Value → Shared → Prop} (hh : A.handled = none) (hl : s.heap.IsList l items) (hit : IntsAre items.toList ns) (hb : ns.length + 1 < scanBound)
    (h : ∀ (h' : Heap) (tk c : Nat), SetR w h' s.heap.objs.size (fun j => decide (j ∈ ns)) c → c ≤ ns.length → (∀ b o, s.heap.get? b = some o → h'.get? b = some o) → Q (.ref s.heap.objs.size) { s with heap := h', toks := tk }) :
    wpAny (model P w) A (call (.type "set") [.ref l]) Q E s := by
  have size : items.size = ns.length := by
    rw [← IntsAre.length hit, Array.length_toList]
  obtain ⟨c0, mro, hmro⟩ := F.called_set.mro
  have made := F.called_set.made
  have sub0 := F.called_set.sub
  have noT := F.called_set.notType
  have can := F.called_set.canCreate
  have tcall := F.typeCall_set_1 (.ref l)
  refine wpAny_call (codeAny_of_tree ?_)
  show wpAny _ _ (callAny (.type "set") _) _ _ _
  refine wpAny_pure ⟨Code.quiet_builtin _ (by decide +kernel), codeAny_builtin F.entry_type_call ?_⟩
  rw [Around.under_plain (weight_type_call_type "set" [.ref l] []) rfl]
  repeat (any_goals (first | assumption | wp_step))
  -- the empty set is laid
  refine codeAny_mono (code_set_led1 (.ref l) (E := E) (Q₁ := fun u s1 => u = .ref s.heap.objs.size ∧ s1 = { s with heap := s.heap.push (noSet w) }) ⟨rfl, rfl⟩) fun r s1 hr => ?_
  match r, hr with
  | .error e, hr => exact hr
  | .ok .next, hr => exact hr.elim
  | .ok .brk, hr => exact hr.elim
  | .ok .cont, hr => exact hr.elim
  | .ok (.ret u), hr =>
    obtain ⟨rfl, rfl⟩ := hr
    have there : (s.heap.push (noSet w)).get? s.heap.objs.size = some (noSet w) := Heap.get?_push_size _ rfl
    have isSet : Shared.TypeIs { s with heap := s.heap.push (noSet w) } (.ref s.heap.objs.size) "set" := ⟨_, there, rfl⟩
    have look := F.called_set.init.lookup
    have bind := F.called_set.init.bind (.ref s.heap.objs.size)
    repeat (any_goals (first | assumption | wp_step))
    -- it is filled
    refine codeAny_mono (codeAny_call_builtin (R := wants (fun v s2 => v = .none ∧ ∃ h' tk c, s2 = { s with heap := h', toks := tk } ∧ SetR w h' s.heap.objs.size (fun j => decide (j ∈ ns)) c ∧ c ≤ ns.length ∧
        (∀ b o, s.heap.get? b = some o → h'.get? b = some o)) E) F.called_set.init.plain F.entry_set_init (check_set_init_1 isSet ?_)) fun r2 s2 hr2 => ?_
    · obtain ⟨ol, hol, hcl, nl, hdl⟩ := hl
      obtain ⟨lcls, ldict, ldata, lslots⟩ := ol
      simp only at hcl hdl
      subst hcl hdl
      have hol1 : (s.heap.push (noSet w)).get? l = some { cls := .type "list", dict := ldict, data := .seq items nl, slots := lslots } := Heap.get?_push_of_some _ hol
      have isL : (s.heap.push (noSet w)).IsList l items := ⟨_, hol1, rfl, nl, rfl⟩
      have q1 := F.sub_list_set
      have q2 := F.sub_list_frozenset
      have q3 : (Value.type "list" == Value.type "dict") = false := by decide
      unfold Builtin.«set.__init__» noKeywords Builtin.Frozenset.updateFrom
      generalize hPI : pyIter = PI
      wp_walk
      subst hPI
      refine wpAny_pyIter_list isL (wpAny_bind (wpAny_runValue ?_))
      have lt : l < s.heap.objs.size := Heap.lt_size hol
      have sz1 : (s.heap.push (noSet w)).objs.size = s.heap.objs.size + 1 := Heap.size_push ..
      have ne1 : l ≠ (s.heap.push (noSet w)).objs.size := by
        rw [sz1]
        exact Nat.ne_of_lt (Nat.lt_succ_of_lt lt)
      have out : s.heap.objs.size ∉ [(s.heap.push (noSet w)).objs.size, l] := by
        rw [sz1]
        simp only [List.mem_cons, List.not_mem_nil, or_false, not_or]
        exact ⟨Nat.ne_of_lt (Nat.lt_succ_self _), Nat.ne_of_gt lt⟩
      have each : ∀ (i : Nat) (v : Value), items[i]? = some v → ∃ k t, ns[i]? = some k ∧ v = .int k t := fun i v hv => by
        have hi : i < ns.length := by
          rw [← size]
          exact (Array.getElem?_eq_some_iff.mp hv).1
        obtain ⟨t, e⟩ := PyProof.Rows.IntsAre.int_at hit i v (by rw [Array.getElem?_toList]; exact hv)
        have e2 : ns[i]? = some ns[i] := List.getElem?_eq_getElem hi
        exact ⟨ns[i], t, e2, by rw [e, List.getD_eq_getElem?_getD, e2]; rfl⟩
      refine set_update_ints ((Walks.list (by simp [hh]) _ l ne1 items).toS) s.heap.objs.size out ns size hb each (items.size - 0) 0 _ (by omega) (Nat.zero_le _)
        ⟨⟨_, Heap.get?_push_size _ rfl, rfl, rfl⟩, (isL.push _)⟩ ?start ?fin
      case start =>
        have g0 : ((s.heap.push (noSet w)).push { cls := .type "list_iterator", data := .fields #[.ref l, .int 0 0] }).get? s.heap.objs.size = some (noSet w) := Heap.get?_push_of_some _ there
        exact ⟨0, Nat.le_refl 0, setR_new_at g0⟩
      case fin =>
        intro s3 c3 mv hc3 hS
        obtain ⟨h3, g3, d3, t3, o3⟩ := s3
        obtain rfl : g3 = s.gens := mv.gens
        obtain rfl : d3 = s.drawn := mv.drawn
        obtain rfl : o3 = s.os := mv.os
        show wpAny _ _ _ _ _ _
        refine wpAny_pure ?_
        show wpAny _ _ (ret Value.none) _ _ _
        rw [size] at hc3
        refine wpAny_pure ⟨rfl, h3, t3, c3, rfl, hS, hc3, fun b o e => ?_⟩
        have b0 : b < s.heap.objs.size := Heap.lt_size e
        refine mv.heap b o ?_ (Heap.get?_push_of_some _ (Heap.get?_push_of_some _ e))
        simp only [List.mem_cons, List.not_mem_nil, or_false, not_or]
        refine ⟨Nat.ne_of_lt b0, ?_⟩
        rw [sz1]
        exact Nat.ne_of_lt (Nat.lt_succ_of_lt b0)
    · match r2, hr2 with
      | .error e, hr2 => exact hr2
      | .ok .next, hr2 => exact hr2.elim
      | .ok .brk, hr2 => exact hr2.elim
      | .ok .cont, hr2 => exact hr2.elim
      | .ok (.ret v), hr2 =>
        obtain ⟨rfl, h', tk, c, rfl, k1, k2, k3⟩ := hr2
        repeat (any_goals (first | assumption | wp_step))
        exact h _ _ _ k1 k2 k3
end
section
variable {X : Cx}
def qSetOf (K : PySem.W.Frag) (w : World) : List V → Hp → VK → Prop := fun vs H Q => ∃ (a : Addr) (ns : List Int), vs = [V.ref a] ∧ SqL K H a (ns.map V.int) ∧ ns.length ≤ 1000 ∧ ∀ c H1 p, c ≤ ns.length → Same H H1 → H p = none → H1 p = some (SetO w p (fun j => decide (j ∈ ns)) c) → Q (.ref p) H1
theorem cq_setOf (hc : X.calm = true) : CallR X (.type "set") (qSetOf X.K X.w) := by
  intro pins s σ H vs us Q I r h
  obtain ⟨a, ns, rfl, hs, hz, q⟩ := h
  obtain ⟨its, rv, pl, _⟩ := I.list hs
  rw [Vals.ref1 r]
  have hn : H s.heap.objs.size = none := I.hok.fresh (Nat.le_refl _)
  refine set_of_ints ns (I.ok.hd hc) pl.isList (by simpa using rv.ints) (by unfold scanBound; omega) fun h' tk c R hcn k => ?_
  exact ⟨.ref s.heap.objs.size, upd H s.heap.objs.size (SetO X.w s.heap.objs.size (fun j => decide (j ∈ ns)) c), I.laid (t' := tk) k (Nat.le_refl _) (setO_new R), rfl, q c _ _ hcn (same_new hn) hn upd_same⟩
def qSortSet (w : World) : List V → Hp → VK → Prop := fun vs H Q => ∃ (a : Addr) (S : Int → Bool) (n : Nat), vs = [V.ref a] ∧ H a = some (SetO w a S n) ∧ n < 64 ∧ ∀ ns : List Int, (∀ k : Int, k ∈ ns ↔ S k = true) → ns.length = n → nw H (.lst (ns.map V.int)) Q
theorem cq_sortSet (hc : X.calm = true) : CallR X (.builtin "sorted") (qSortSet X.w) := imp_c (cr_sortedSet hc) fun _ _ _ ⟨a, S, n, e, h, z, q⟩ => ⟨a, S, n, e, h, z, fun ns p _ hm hl hn => (q ns hm hl).to p hn⟩
end
/-! ## sorted(t), t a tuple of ints -/
section
variable {X : Cx}
def qSortT (K : PySem.W.Frag) : List V → Hp → VK → Prop := fun vs H Q => ∃ (a : Addr) (ns : List Int), vs = [V.ref a] ∧ SqT K H a (ns.map V.int) ∧ ns.length < 64 ∧ ∀ ns' : List Int, List.Perm ns' ns → nw H (.lst (ns'.map V.int)) Q
theorem cq_sortT : CallR X (.builtin "sorted") (qSortT X.K) := by
  intro pins s σ H vs us Q I r h
  obtain ⟨a, ns, rfl, hs, h64, q⟩ := h
  obtain ⟨its, rv, ⟨o, ho, hc, n, hd⟩, hz⟩ := I.tuple hs
  rw [Vals.ref1 r]
  have hi := rv.ints
  have hlen : its.length = ns.length := by rw [← rv.length, List.length_map]
  refine Calls.call_function_entry kind_sorted plain_sorted entry_sorted (args_sorted1 _) ?_
  unfold Builtin.«sorted»
  refine wpAny_bind (m := checkCount "sorted" 1 1 _) (wpAny_pure ?_)
  refine wpAny_bind (wpAny_collect_seq (A := X.A.in1) a (.inr rfl) ho hc hd (fun h1 k1 => ?_) (by rw [List.size_toArray, hlen, sizeLine_eq]; omega))
  refine wpAny_bind (wpAny_newList ?_ (by rw [hlen, sizeLine_eq]; omega))
  have at1 : (h1.push (seqObj "list" its.toArray 0)).get? h1.objs.size = some (seqObj "list" its.toArray 0) := Heap.get?_push_size _ rfl
  refine wpAny_bind (wpAny_holding (wpAny_call_entry slot_list_sort ⟨_, at1, rfl⟩ entry_list_sort (list_sort_tree at1 hi (by rw [hlen]; exact h64) fun out ns' a1 a2 a3 => ⟨_, rfl, ?_⟩) (args_list_sort _)))
  obtain ⟨c, hc'⟩ := sortedHeap_at (vs := its) (out := out) at1
  have I1 : Inv X pins σ H { s with heap := h1 } := I.kept (t' := s.toks) k1
  have hl2 : (ns'.map V.int).length ≤ sizeLine := by rw [List.length_map, a2.length_eq]; exact small64 h64
  refine wpAny_pure ⟨_, rfl, .ref h1.objs.size, upd H h1.objs.size (.lst (ns'.map V.int)), I1.laid (t' := s.toks) (fun b u e => ?_) (Nat.le_refl _) ⟨hl2, out.toList, c, vals_of_ints a1, hc'⟩, rfl, (q ns' a2).to _ (I1.hok.fresh (Nat.le_refl _))⟩
  have hlt : b < h1.objs.size := Heap.lt_size e
  show (sortedHeap (h1.push (seqObj "list" its.toArray 0)) h1.objs.size its out).get? b = some u
  rw [sortedHeap_old (Nat.ne_of_lt hlt) (by rw [size_push']; exact Nat.lt_succ_of_lt hlt)]
  exact Heap.get?_push_of_some _ e
end
end K16
namespace K16
open PySem L2
section
variable {P : Program} {w : World} {K : PySem.W.Frag} {mg : Str → Option Value} {base : Heap}
theorem small {n : Nat} (h : n ≤ 1000) : n ≤ sizeLine := Nat.le_of_lt (small1000 h)
theorem none_of {f : Addr} {fd : FuncData} {ps : List Str} {sp : Sp} (k : Nat) (h : ∀ vs H Q E, ¬ sp vs H Q E) : FnOk P w K mg base CX0 k f fd ps sp :=
  ⟨fun vs H Q E q => absurd q (h vs H Q E), fun A outer s H args us vs Q E _ _ _ _ q => absurd q (h vs H Q E)⟩
/-! ## is_trip -/
theorem tyx_int {K : PySem.W.Frag} {H : Hp} (i : Int) : TyX K H (.int i) (.type "int") := .base (.int i)
theorem tyx_tup {K : PySem.W.Frag} {H : Hp} {a : Addr} {xs : List V} (h : H a = some (.tup xs)) : TyX K H (.ref a) (.type "tuple") := .base (.tup h)
theorem kit_it {K : PySem.W.Frag} : PySem.W.kitOne K (.type "int") (.type "tuple") = some false := kit_ty (by decide +kernel)
theorem kit_tt {K : PySem.W.Frag} : PySem.W.kitOne K (.type "tuple") (.type "tuple") = some true := kit_ty (by decide +kernel)
theorem kit_ii {K : PySem.W.Frag} : PySem.W.kitOne K (.type "int") (.type "int") = some true := kit_ty (by decide +kernel)
theorem kit_ti {K : PySem.W.Frag} : PySem.W.kitOne K (.type "tuple") (.type "int") = some false := kit_ty (by decide +kernel)
/-- what isinstance asks of a tree and a class -/
theorem isi_tree {H : Hp} {n : Nat} {t : Tr (n + 1)} {v : V} (h : TAt H (n + 1) t v) : ∃ ty, TyX K H v ty ∧ PySem.W.kitOne K ty (.type "tuple") = some (isT t) ∧ PySem.W.kitOne K ty (.type "int") = some (!isT t) := by
  revert h
  refine tr_cases (M := fun t => TAt H (n + 1) t v → ∃ ty, TyX K H v ty ∧ PySem.W.kitOne K ty (.type "tuple") = some (isT t) ∧ PySem.W.kitOne K ty (.type "int") = some (!isT t)) (fun b h => ?_) (fun k ps h => ?_) t
  · obtain rfl := TAt_leaf.mp h
    exact ⟨_, tyx_int b, kit_it, kit_ii⟩
  · obtain ⟨a, p, vs, rfl, h1, _⟩ := TAt_trip.mp h
    exact ⟨_, tyx_tup h1, kit_tt, kit_ti⟩
def spIsTrip : Sp := fun vs H Q _ => ∃ (n : Nat) (t : Tr (n + 1)) (v : V), vs = [v] ∧ TAt H (n + 1) t v ∧ Q (.bl (isT t)) H
theorem ok_is_trip (T : Txt K mg) : FnOk P w K mg base CX0 1 T.f_is_trip T.d_is_trip ["tree"] spIsTrip := by
  have sc : FnScope ["tree"] ["tree"] (defScope s_is_trip) := ⟨rfl, rfl, rfl, by decide +kernel, rfl, by decide +kernel, by decide +kernel⟩
  refine T.D_is_trip.F.ok sc (fun vs H Q E h => ?_) (fun cdv A outer s H vs Q E hr h => ?_)
  · obtain ⟨n, t, v, rfl, _⟩ := h
    rfl
  · obtain ⟨n, t, v, rfl, ht, q⟩ := h
    obtain ⟨ty, tx, k1, k2⟩ := isi_tree (K := K) ht
    exact ⟨_, pss_one (ps_ret (pe_callB call_isi (by rfl) T.n_isinstance (by decide +kernel) (pa_cons (pv 0) (pa_cons (pe_bltn (v := .ty "tuple") (by rfl) T.n_tuple (by decide +kernel) rfl) pa_nil)))), v, rfl, _, _, ty, _, _, rfl, .ty _, tx, k1, q⟩
/-! ## buttons_in_order, buttons_of -/
def spBio (n : Nat) : Sp := fun vs H Q _ => ∃ (t : Tr n) (v : V), vs = [v] ∧ TAt H n t v ∧ (held n t).length ≤ 1000 ∧ ∀ H' p, Same H H' → H p = none → IL H' p (held n t) → Q (.ref p) H'
theorem part_len {n : Nat} {ps : List (Tr n)} {i : Nat} {p : Tr n} (h : ps[i]? = some p) : (held n p).length ≤ (ps.flatMap (held n)).length := by
  obtain ⟨xs, ys, rfl⟩ := List.append_of_mem (List.mem_of_getElem? h)
  rw [List.flatMap_append, List.flatMap_cons, List.length_append, List.length_append]
  omega
theorem take_len {n : Nat} (ps : List (Tr n)) (i : Nat) : ((ps.take i).flatMap (held n)).length ≤ (ps.flatMap (held n)).length := by
  have e : ps.flatMap (held n) = (ps.take i).flatMap (held n) ++ (ps.drop i).flatMap (held n) := by rw [← List.flatMap_append, List.take_append_drop]
  rw [e, List.length_append]
  omega
theorem take_snoc {n : Nat} {ps : List (Tr n)} {i : Nat} {p : Tr n} (h : ps[i]? = some p) : (ps.take (i + 1)).flatMap (held n) = (ps.take i).flatMap (held n) ++ held n p := by
  rw [List.take_add_one, h, List.flatMap_append]
  simp
theorem ok_bio (T : Txt K mg) : ∀ n, FnOk P w K mg base CX0 (n + 1) T.f_buttons_in_order T.d_buttons_in_order ["tree"] (spBio n)
  | 0 => none_of 1 fun vs H Q E h => by
    obtain ⟨t, _⟩ := h
    exact Empty.elim t
  | n + 1 => by
    have ih := ok_bio T n
    have sc : FnScope ["tree", "found", "part"] ["tree"] (defScope s_buttons_in_order) := ⟨rfl, rfl, rfl, by decide +kernel, rfl, by decide +kernel, by decide +kernel⟩
    refine T.D_buttons_in_order.F.ok sc (fun vs H Q E h => ?_) (fun cdv A outer s H vs Q E hr h => ?_)
    · obtain ⟨t, v, rfl, _⟩ := h
      rfl
    · obtain ⟨t, v, rfl, ht, hl, q⟩ := h
      refine ⟨_, pss_cons (ps_if (pt_not (pt_val (pe_call (ok_is_trip T) (hr.mono (by omega)) (by rfl) T.D_is_trip.m T.D_is_trip.F.kp T.D_is_trip.b .nil pass0 (pa_cons (pv 0) pa_nil)))) (pss_one (ps_ret (le_lst (pa_cons (pv 0) pa_nil)))) pss_nil)
        (pss_cons (ps_set (i := 1) sc.nd rfl (.inl rfl) (le_lst pa_nil))
        (pss_cons (ps_for PassesOwn.never rfl (pi_tup (pe_ix (ixt K) (pv 0) pe_int (fun _ _ => rfl))) (pg_name (i := 2) sc.nd rfl (.inl rfl)) (pss_one (ps_expr (pe_bm PySem.F.plainAttrs_list PySem.F.slot_list_extend PySem.F.type_list_extend mq_extend (pv 1) (pa_cons (pe_call ih hr (by rfl) T.D_buttons_in_order.m T.D_buttons_in_order.F.kp T.D_buttons_in_order.b .nil pass0 (pa_cons (pv 2) pa_nil)) pa_nil)))))
        (pss_one (ps_ret (pv 1))))), ?_⟩
      refine ⟨v, rfl, n, t, v, rfl, ht, isT t, rfl, ?_⟩
      revert ht hl q
      refine tr_cases (M := fun t => TAt H (n + 1) t v → (held (n + 1) t).length ≤ 1000 → (∀ H' p, Same H H' → H p = none → IL H' p (held (n + 1) t) → Q (.ref p) H') → if (!isT t) = true then _ else _) (fun b ht hl q => ?_) (fun k ps ht hl q => ?_) t
      · refine iteT ?_
        obtain rfl := TAt_leaf.mp ht
        exact ⟨_, rfl, small (by show 1 ≤ 1000; omega), fun H1 p s1 n1 e1 => q H1 p s1 n1 e1⟩
      · refine iteF ?_
        obtain ⟨a, p, vs, rfl, h1, h2, h3⟩ := TAt_trip.mp ht
        refine ⟨Nat.zero_le _, fun H1 o s1 n1 e1 => ?_⟩
        refine ⟨.ref a, rfl, a, _, 1, .ref p, rfl, rfl, SqT.of (s1 _ _ h1), rfl, p, rfl, ⟨vs, SqT.of (s1 _ _ h2)⟩,
          for_tup (xs := vs) (fun i σ H2 => ∃ y, σ = [some (.ref a), some (.ref o), y] ∧ Same H H2 ∧ IL H2 o ((ps.take i).flatMap (held n))) ⟨none, rfl, s1, e1⟩
            (fun i σ H2 _ hp => ?_) (fun i x σ H2 hx hp => ?_) (fun σ H2 hp => ?_)⟩
        · obtain ⟨y, _, sm, _⟩ := hp
          exact SqT.of (sm _ _ h2)
        · obtain ⟨y, rfl, sm, eo⟩ := hp
          obtain ⟨t', ht', hx'⟩ := paired_at h3 hx
          refine ⟨.ref o, rfl, .inl ⟨rfl, _, SqL.of eo⟩, x, rfl, t', x, rfl, hx'.mono (Tk.of sm), Nat.le_trans (part_len ht') hl, fun H3 r s3 n3 e3 => ?_⟩
          refine ⟨o, r, _, _, rfl, rfl, s3 _ _ eo, e3, ?_, fun H4 x4 e4 => ?_⟩
          · rw [← List.length_append, ← List.map_append, List.length_map, ← take_snoc ht']
            exact small (Nat.le_trans (take_len ps _) hl)
          · refine ⟨some x, rfl, same_ex (sm.trans s3) n1 x4, ?_⟩
            show H4 o = _
            rw [take_snoc ht', List.map_append]
            exact e4
        · obtain ⟨y, rfl, sm, eo⟩ := hp
          rw [← paired_len h3, List.take_length] at eo
          exact ⟨.ref o, rfl, q H2 o sm n1 eo⟩
def spBof (n : Nat) : Sp := fun vs H Q _ => ∃ (t : Tr n) (v : V), vs = [v] ∧ TAt H n t v ∧ (held n t).length < 64 ∧ ∀ H' p ns, Same H H' → H p = none → List.Perm ns (held n t) → IT H' p ns → Q (.ref p) H'
theorem ok_bof (T : Txt K mg) (n : Nat) : FnOk P w K mg base CX0 (n + 2) T.f_buttons_of T.d_buttons_of ["tree"] (spBof n) := by
  have sc : FnScope ["tree"] ["tree"] (defScope s_buttons_of) := ⟨rfl, rfl, rfl, by decide +kernel, rfl, by decide +kernel, by decide +kernel⟩
  refine T.D_buttons_of.F.ok sc (fun vs H Q E h => ?_) (fun cdv A outer s H vs Q E hr h => ?_)
  · obtain ⟨t, v, rfl, _⟩ := h
    rfl
  · obtain ⟨t, v, rfl, ht, hl, q⟩ := h
    refine ⟨_, pss_one (ps_ret (pe_callTy cq_tuple (by rfl) T.n_tuple (by decide +kernel) (pa_cons (pe_callB cq_sorted (by rfl) T.n_sorted (by decide +kernel) (pa_cons (pe_call (ok_bio T n) hr (by rfl) T.D_buttons_in_order.m T.D_buttons_in_order.F.kp T.D_buttons_in_order.b .nil pass0 (pa_cons (pv 0) pa_nil)) pa_nil)) pa_nil))), ?_⟩
    refine ⟨v, rfl, t, v, rfl, ht, by omega, fun H1 p s1 n1 e1 => ?_⟩
    refine ⟨p, _, rfl, SqL.of e1, hl, fun ns pm H2 p2 s2 n2 e2 => ?_⟩
    refine ⟨p2, _, rfl, SqL.of e2, fun H3 p3 s3 n3 e3 => ?_⟩
    exact q H3 p3 ns ((s1.trans s2).trans s3) ((s1.trans s2).free n3) pm e3
/-! ## has_some -/
/-- an int that is asked for -/
def fI (q : Int → Bool) : V → Option V
  | .int z => if q z then some (.int z) else none
  | _ => none
theorem fI_int (q : Int → Bool) (z : Int) : fI q (.int z) = if q z then some (.int z) else none := rfl
theorem fm_ints (q : Int → Bool) : ∀ ns : List Int, (ns.map V.int).filterMap (fI q) = (ns.filter q).map V.int
  | [] => rfl
  | n :: ns => by
    rw [List.map_cons, List.filterMap_cons, List.filter_cons, fm_ints q ns, fI_int]
    cases q n <;> simp
theorem eqv_nil (ns : List Int) : PyData.eqv (.list (ns.map PyData.int)) (.list []) = ns.isEmpty := by
  cases ns <;> simp [PyData.eqv, PyData.eqvAll]
def spHas (n : Nat) : Sp := fun vs H Q _ => ∃ (t : Tr n) (v : V) (l : Addr) (mu : List Int), vs = [v, .ref l] ∧ TAt H n t v ∧ IT H l mu ∧ (held n t).length < 64 ∧ ∀ H', Same H H' → Q (.bl ((held n t).any (mem mu))) H'
theorem any_filter {ns hs : List Int} {q : Int → Bool} (pm : ns.Perm hs) : (!(ns.filter q).isEmpty) = hs.any q := by
  rw [Bool.eq_iff_iff, Bool.not_eq_true', List.isEmpty_eq_false_iff_exists_mem, List.any_eq_true]
  constructor
  · rintro ⟨x, hx⟩
    obtain ⟨h1, h2⟩ := List.mem_filter.mp hx
    exact ⟨x, pm.mem_iff.mp h1, h2⟩
  · rintro ⟨x, h1, h2⟩
    exact ⟨x, List.mem_filter.mpr ⟨pm.mem_iff.mpr h1, h2⟩⟩
theorem ok_has (T : Txt K mg) (n : Nat) : FnOk P w K mg base CX0 (n + 3) T.f_has_some T.d_has_some ["tree", "lot"] (spHas n) := by
  have sc : FnScope ["tree", "lot", "button"] ["tree", "lot"] (defScope s_has_some) := ⟨rfl, rfl, rfl, by decide +kernel, rfl, by decide +kernel, by decide +kernel⟩
  refine T.D_has_some.F.ok sc (fun vs H Q E h => ?_) (fun cdv A outer s H vs Q E hr h => ?_)
  · obtain ⟨t, v, l, mu, rfl, _⟩ := h
    rfl
  · obtain ⟨t, v, l, mu, rfl, ht, hm, hl, q⟩ := h
    refine ⟨_, pss_one (ps_ret (pe_cmpR (oneD K hr.units) (le_lc (own := [("button", 2)]) (g := gName 2) (by rfl) sc.nd (pi_tup (pe_call (ok_bof T n) hr (by rfl) T.D_buttons_of.m T.D_buttons_of.F.kp T.D_buttons_of.b .nil pass0 (pa_cons (pv 0) pa_nil))) (blkOk_by (own := [("button", 2)]) (N := ["tree", "lot", "button"]) (sc := defScope s_has_some) (by decide +kernel)) (fun _ _ _ _ _ => pg_name (i := 2) sc.nd rfl (Or.inl rfl)) (fun _ _ _ _ _ => pts_one ( pt_cmpR (oin K) (pv 2) (pv 1) (by rfl))) (fun _ _ _ _ _ =>  pv 2)) (le_lst pa_nil) (nomark _))), ?_⟩
    refine ⟨v, rfl, t, v, rfl, ht, hl, fun H1 p ns s1 n1 pm e1 => ?_⟩
    have hns : ns.length < 64 := by rw [pm.length_eq]; exact hl
    refine ⟨p, rfl, ⟨_, SqT.of e1⟩, lc_funT (fI (mem mu)) (SqT.of e1) (by rw [List.length_map]; omega) (fun i x H2 Yes No hx s2 hy hn => ?_) (fun H2 D s2 n2 e2 => ?_)⟩
    · obtain ⟨z, hz, rfl⟩ := int_at hx
      refine ⟨rfl, .int z, rfl, .ref l, rfl, l, _, rfl, .inr (SqT.of (s2 _ _ (s1 _ _ hm))), rfl, flat_ints mu, _, rfl, ?_⟩
      show if inV (.int z) (mu.map V.int) = true then _ else _
      rw [in_ints]
      refine ite2 (fun c => ?_) (fun c => ?_)
      · exact ⟨.int z, rfl, hy _ _ (by rw [fI_int, show mem mu z = true from c]; rfl) (Same.refl _)⟩
      · exact hn (by rw [fI_int, show mem mu z = false from Bool.eq_false_iff.mpr c]; rfl) _ (Same.refl _)
    · rw [fm_ints] at e2
      refine ⟨Nat.zero_le _, fun H3 D3 s3 n3 e3 => ?_⟩
      refine ⟨_, .list [], .lst (SqL.of (s3 _ _ e2)) (dp_ints _), .lst (SqL.of e3) .nil, PySem.W.shaped_ints _, PySem.W.shaped_ints [], ?_⟩
      rw [eqv_nil, any_filter pm]
      exact q H3 ((s1.trans s2).trans s3)
end
end K16
namespace K16
open PySem L2
/-! ## rows of numbers as lists -/
def tb (r : Nat → Nat) (k : Nat) : List V := (List.range k).map (fun j => V.int (r j : Nat))
theorem tb_len (r : Nat → Nat) (k : Nat) : (tb r k).length = k := by unfold tb; rw [List.length_map, List.length_range]
theorem tb_at {r : Nat → Nat} {k j : Nat} (h : j < k) : (tb r k)[j]? = some (.int (r j : Nat)) := by
  unfold tb
  rw [List.getElem?_map, List.getElem?_range h]
  rfl
theorem tb_atI {r : Nat → Nat} {k j : Nat} {z : Int} (h : j < k) (e : z = (j : Nat)) : atI (tb r k) z = some (.int (r j : Nat)) := by
  rw [e]
  exact atI_nat (tb_at h)
theorem tb_set {r r' : Nat → Nat} {k j : Nat} {v : V} (hv : v = .int (r' j : Nat)) (h : ∀ i, i < k → i ≠ j → r i = r' i) (hj : j < k) : (tb r k).set j v = tb r' k := by
  refine List.ext_getElem? fun i => ?_
  by_cases e : j = i
  · subst e
    rw [List.getElem?_set_self (by rw [tb_len]; exact hj), tb_at hj, hv]
  · rw [List.getElem?_set_ne e]
    by_cases hi : i < k
    · rw [tb_at hi, tb_at hi, h i hi (fun q => e q.symm)]
    · rw [List.getElem?_eq_none (by rw [tb_len]; omega), List.getElem?_eq_none (by rw [tb_len]; omega)]
theorem tb_congr {r r' : Nat → Nat} {k : Nat} (h : ∀ i, i < k → r i = r' i) : tb r k = tb r' k := by
  unfold tb
  refine List.map_congr_left fun i hi => ?_
  rw [h i (List.mem_range.mp hi)]
theorem tb_zero (k : Nat) : ([V.int 1] ++ (List.replicate k [V.int 0]).flatten) = tb row0 (k + 1) := by
  unfold tb
  rw [List.range_succ_eq_map, List.map_cons, List.map_map]
  have e : (List.replicate k [V.int 0]).flatten = (List.range k).map ((fun j => V.int (row0 j : Nat)) ∘ Nat.succ) := by
    induction k with
    | zero => rfl
    | succ k ih =>
      rw [List.range_succ, List.map_append, ← ih, List.replicate_succ', List.flatten_append]
      rfl
  rw [e]
  rfl
/-- halfway down: the places above j are the new ones -/
def half (r r' : Nat → Nat) (j : Nat) : Nat → Nat := fun i => if j < i then r' i else r i
theorem step_succ (r : Nat → Nat) (e l j : Nat) : stepE r e l (j + 1) = r (j + 1) * e + r j * l := rfl
theorem rowOf_snoc {n : Nat} {mu ne : Lot} {ps : List (Tr n)} {i : Nat} {p : Tr n} (h : ps[i]? = some p) :
    rowOf n mu ne (ps.take (i + 1)) = stepE (rowOf n mu ne (ps.take i)) (b2n (free (held n p) mu)) (lm n mu ne p) := by
  unfold rowOf
  rw [List.take_add_one, h, Option.toList, List.foldl_append]
  rfl
theorem nodup_at {n : Nat} {ps : List (Tr n)} (h : (ps.flatMap (held n)).Nodup) {i : Nat} {p : Tr n} (hp : ps[i]? = some p) : (held n p).Nodup := nodup_part h (List.mem_of_getElem? hp)
theorem pow24 {n : Nat} (h : n ≤ 24) : 2 ^ n ≤ 16777216 := by
  have : 2 ^ n ≤ 2 ^ 24 := Nat.pow_le_pow_right (by decide) h
  simpa using this
theorem held_pos : ∀ (n : Nat) (t : Tr n), WF n t → 1 ≤ (held n t).length
  | 0, t, _ => Empty.elim t
  | n + 1, t, w => by
    revert w
    refine tr_cases (M := fun t => WF (n + 1) t → 1 ≤ (held (n + 1) t).length) (fun b w => Nat.le_refl 1) (fun k ps w => ?_) t
    obtain ⟨w1, w2, w3⟩ := (WF_trip k ps).mp w
    cases ps with
    | nil => simp at w2; omega
    | cons p ps =>
      rw [held_trip, List.flatMap_cons, List.length_append]
      have := held_pos n p (w3 p List.mem_cons_self)
      omega
section
variable {P : Program} {w : World} {K : PySem.W.Frag} {mg : Str → Option Value} {base : Heap}
/-! ## least_many -/
def spLm (n : Nat) : Sp := fun vs H Q _ => ∃ (t : Tr n) (v : V) (a c : Addr) (mu ne : List Int), vs = [v, .ref a, .ref c] ∧ TAt H n t v ∧ WF n t ∧ (held n t).Nodup ∧ (held n t).length ≤ 24 ∧ IT H a mu ∧ IT H c ne ∧
  ∀ H', Same H H' → Q (.int (lm n (mem mu) (mem ne) t : Nat)) H'
theorem ok_lm (T : Txt K mg) : ∀ n, FnOk P w K mg base CX0 (n + 3) T.f_least_many T.d_least_many ["tree", "must", "never"] (spLm n)
  | 0 => none_of 3 fun vs H Q E h => by
    obtain ⟨t, _⟩ := h
    exact Empty.elim t
  | n + 1 => by
    have ih := ok_lm T n
    have sc : FnScope ["tree", "must", "never", "bound", "parts", "table", "part", "many", "is_free", "taken"] ["tree", "must", "never"] (defScope s_least_many) := ⟨rfl, rfl, rfl, by decide +kernel, rfl, by decide +kernel, by decide +kernel⟩
    refine T.D_least_many.F.ok sc (fun vs H Q E h => ?_) (fun cdv A outer s H vs Q E hr h => ?_)
    · obtain ⟨t, v, a, c, mu, ne, rfl, _⟩ := h
      rfl
    · obtain ⟨t, v, a, c, mu, ne, rfl, ht, wf, nd, hl, hm, hn, q⟩ := h
      refine ⟨_, pss_cons (ps_if (pt_val (pe_callB call_isi (by rfl) T.n_isinstance (by decide +kernel) (pa_cons (pv 0) (pa_cons (pe_bltn (v := .ty "int") (by rfl) T.n_int (by decide +kernel) rfl) pa_nil)))) (pss_one (ps_ret (pe_ifExp (pt_cmpR (oin K) (pv 0) (pv 2) (by rfl)) pe_int pe_int))) pss_nil)
        (pss_cons (ps_asg (pv 0) (pg_tup rfl (pgs_cons (pg_name (i := 3) sc.nd rfl (.inl rfl)) (pgs_cons (pg_name (i := 4) sc.nd rfl (.inl rfl)) pgs_nil))))
        (pss_cons (ps_set (i := 5) sc.nd rfl (.inl rfl) (pe_op oq_cat (le_lst (pa_cons pe_int pa_nil)) (pe_op oq_rep (le_lst (pa_cons pe_int pa_nil)) (pv 3))))
        (pss_cons (ps_for PassesOwn.never rfl (pi_tup (pv 4)) (pg_name (i := 6) sc.nd rfl (.inl rfl))
          (pss_cons (ps_par (i := 7) (j := 8) (by rfl) sc.nd rfl rfl (by decide) rfl rfl (pa_cons (pe_call ih hr (by rfl) T.D_least_many.m T.D_least_many.F.kp T.D_least_many.b .nil pass0 (pa_cons (pv 6) (pa_cons (pv 1) (pa_cons (pv 2) pa_nil)))) (pa_cons (pe_not (pe_call (ok_has T n) hr (by rfl) T.D_has_some.m T.D_has_some.F.kp T.D_has_some.b .nil pass0 (pa_cons (pv 6) (pa_cons (pv 1) pa_nil)))) pa_nil)) (by rfl))
          (pss_cons (ps_for PassesOwn.never rfl (pi_range3 (by rfl) T.n_range (pa_cons (pv 3) (pa_cons pe_int (pa_cons (pe_un un_neg pe_int) pa_nil)))) (pg_name (i := 9) sc.nd rfl (.inl rfl))
            (pss_one (ps_asg (pe_op op_add (pe_ifExp (pt_val (pv 8)) (pe_ix (ixl K) (pv 5) (pv 9) (fun _ _ => rfl)) pe_int) (pe_op op_mul (pe_ix (ixl K) (pv 5) (pe_op op_sub (pv 9) pe_int) (fun _ _ => rfl)) (pv 7))) (pg_sub (pv 5) (pv 9) gq_set))))
          (pss_one (ps_asg (pe_ifExp (pt_val (pv 8)) (pe_ix (ixl K) (pv 5) pe_int (fun _ _ => rfl)) pe_int) (pg_sub (pv 5) pe_int gq_set))))))
        (pss_one (ps_ret (pe_ix (ixl K) (pv 5) (pv 3) (fun _ _ => rfl))))))), ?_⟩
      obtain ⟨ty, tx, k1, k2⟩ := isi_tree (K := K) ht
      refine ⟨v, rfl, _, _, ty, _, _, rfl, .ty _, tx, k2, _, rfl, ?_⟩
      clear tx k1 k2
      revert ht wf nd hl q
      refine tr_cases (M := fun t => TAt H (n + 1) t v → WF (n + 1) t → (held (n + 1) t).Nodup → (held (n + 1) t).length ≤ 24 → (∀ H', Same H H' → Q (.int (lm (n + 1) (mem mu) (mem ne) t : Nat)) H') → if (!isT t) = true then _ else _) (fun b ht wf nd hl q => ?_) (fun k ps ht wf nd hl q => ?_) t
      · refine iteT ?_
        obtain rfl := TAt_leaf.mp ht
        refine ⟨.int b, rfl, .ref c, rfl, c, _, rfl, .inr (SqT.of hn), rfl, flat_ints ne, _, rfl, ?_⟩
        show if inV (.int b) (ne.map V.int) = true then _ else _
        have q := q H (Same.refl H)
        rw [in_ints]
        refine ite2 (fun c => ?_) (fun c => ?_)
        · rw [lm_leaf, show mem ne b = true from c] at q
          exact q
        · rw [lm_leaf, show mem ne b = false from Bool.eq_false_iff.mpr c] at q
          exact q
      · refine iteF ?_
        obtain ⟨a0, p, vs, rfl, h1, h2, h3⟩ := TAt_trip.mp ht
        obtain ⟨w1, w2, w3⟩ := (WF_trip k ps).mp wf
        have hk24 : k ≤ 24 := by
          have : ps.length ≤ (ps.flatMap (held n)).length := by
            clear h3 w2 ht wf nd hl q
            induction ps with
            | nil => simp
            | cons p ps ih' =>
              rw [List.flatMap_cons, List.length_append, List.length_cons]
              have h0 := ih' (fun x hx => w3 x (List.mem_cons_of_mem _ hx))
              have h1 := held_pos n p (w3 p List.mem_cons_self)
              omega
          rw [held_trip] at hl
          omega
        refine ⟨.ref a0, rfl, a0, [.int (k : Nat), .ref p], rfl, SqT.of h1, rfl, .int (k : Nat), [.ref p], rfl, .ref p, [], rfl, rfl, ?_⟩
        -- table = [1] + [0] * bound
        refine ⟨(by show 1 ≤ sizeLine; decide), fun H1 o1 s1 n1 e1 => ⟨(by show 1 ≤ sizeLine; decide), fun H2 o2 s2 n2 e2 => ?_⟩⟩
        refine ⟨.int (k : Nat), rfl, o2, (k : Nat), _, rfl, rfl, e2, by omega, by omega, ?_, fun H3 o3 s3 n3 e3 => ?_⟩
        · have z := small1000 (n := 1 * ((k : Nat) : Int).toNat) (by omega)
          exact Nat.le_of_lt z
        have ek : ((k : Nat) : Int).toNat = k := Int.toNat_natCast k
        rw [ek] at e3
        refine ⟨o1, o3, _, _, rfl, rfl, s3 _ _ (s2 _ _ e1), e3, ?_, fun H4 o s4 n4 e4 => ?_⟩
        · have : ([V.int 1] ++ (List.replicate k [V.int 0]).flatten).length = k + 1 := by rw [tb_zero, tb_len]
          rw [← List.length_append, this]
          exact small (by omega)
        rw [tb_zero] at e4
        have sH4 : Same H H4 := ((s1.trans s2).trans s3).trans s4
        have nO : H o = none := ((s1.trans s2).trans s3).free n4
        -- the parts
        refine ⟨.ref p, rfl, p, rfl, ⟨vs, SqT.of (sH4 _ _ h2)⟩,
          for_tup (xs := vs) (fun i σ H5 => ∃ y6 y7 y8 y9, σ = [some (.ref a0), some (.ref a), some (.ref c), some (.int (k : Nat)), some (.ref p), some (.ref o), y6, y7, y8, y9] ∧ Same H H5 ∧ H5 o = some (.lst (tb (rowOf n (mem mu) (mem ne) (ps.take i)) (k + 1))))
            ⟨none, none, none, none, rfl, sH4, e4⟩ (fun i σ H5 _ hp => ?_) (fun i x σ H5 hx hp => ?_) (fun σ H5 hp => ?_)⟩
        · obtain ⟨_, _, _, _, _, sm, _⟩ := hp
          exact SqT.of (sm _ _ h2)
        · obtain ⟨y6, y7, y8, y9, rfl, sm, eo⟩ := hp
          obtain ⟨t', ht', hx'⟩ := paired_at h3 hx
          have wt' := w3 t' (List.mem_of_getElem? ht')
          have ndt := nodup_at nd ht'
          have lt' : (held n t').length ≤ 24 := Nat.le_trans (part_len ht') hl
          refine ⟨x, rfl, .ref a, rfl, .ref c, rfl, t', x, a, c, mu, ne, rfl, hx'.mono (Tk.of sm), wt', ndt, lt', sm _ _ hm, sm _ _ hn, fun H6 s6 => ?_⟩
          have sm6 := sm.trans s6
          refine ⟨x, rfl, .ref a, rfl, t', x, a, mu, rfl, hx'.mono (Tk.of sm6), sm6 _ _ hm, by omega, fun H7 s7 => ?_⟩
          have sm7 := sm6.trans s7
          refine ⟨_, rfl, _, _, rfl, ?_⟩
          have eo7 := s7 _ _ (s6 _ _ eo)
          generalize hM : lm n (mem mu) (mem ne) t' = M at *
          have hMle : M ≤ 16777216 := by
            rw [← hM]
            exact Nat.le_trans (lm_le wt' ndt) (pow24 lt')
          have hfr : (!(held n t').any (mem mu)) = free (held n t') (mem mu) := rfl
          rw [hfr]
          generalize hF : free (held n t') (mem mu) = F at *
          generalize hR : rowOf n (mem mu) (mem ne) (ps.take i) = R at *
          have hnew : rowOf n (mem mu) (mem ne) (ps.take (i + 1)) = stepE R (b2n F) M := by
            rw [rowOf_snoc ht', hR, hF, hM]
          -- for taken in range(bound, 0, -1)
          refine ⟨.int (k : Nat), rfl, 1, rfl, (k : Nat), 0, -1, ((k : Nat) : Int).toNat, rfl, RgC.neg (by omega) (by omega) (by omega) (by omega), ?_⟩
          rw [ek]
          refine for_rangeC (n := k) (fun i' σ H8 => ∃ y9, σ = [some (.ref a0), some (.ref a), some (.ref c), some (.int (k : Nat)), some (.ref p), some (.ref o), some x, some (.int (M : Nat)), some (.bl F), y9] ∧ Same H H8 ∧ H8 o = some (.lst (tb (half R (stepE R (b2n F) M) (k - i')) (k + 1))))
            ⟨y9, rfl, sm7, ?_⟩ (fun i' σ H8 hi' hp => ?_) (fun σ H8 hp => ?_)
          · rw [eo7]
            refine congrArg (fun z => some (HO.lst z)) (tb_congr fun j hj => ?_)
            unfold half
            rw [if_neg (by omega)]
          · obtain ⟨y9', rfl, sm8, eo8⟩ := hp
            have ej : ((k : Nat) : Int) + ((i' : Nat) : Int) * (-1) = ((k - i' - 1 + 1 : Nat) : Int) := by omega
            have ej1 : ((k : Nat) : Int) + ((i' : Nat) : Int) * (-1) - 1 = ((k - i' - 1 : Nat) : Int) := by omega
            generalize hj : k - i' - 1 = j at *
            have hkj : k - i' = j + 1 := by omega
            rw [hkj] at eo8
            have v1 : half R (stepE R (b2n F) M) (j + 1) (j + 1) = R (j + 1) := by
              unfold half
              rw [if_neg (by omega)]
            have v0 : half R (stepE R (b2n F) M) (j + 1) j = R j := by
              unfold half
              rw [if_neg (by omega)]
            refine ⟨.bl F, rfl, F, rfl, ?_⟩
            -- what follows the first summand, whichever it is
            have rest : ∀ (first : Int), first = ((R (j + 1) * b2n F : Nat) : Int) → tOp (rI CMul fun i j => .int (i * j)) (tOp (rIxL K) (tVar 5) (tOp (rI0 fun i j => .int (i - j)) (tVar 9) (tC (.int 1)))) (tVar 7)
                [some (.ref a0), some (.ref a), some (.ref c), some (.int (k : Nat)), some (.ref p), some (.ref o), some x, some (.int (M : Nat)), some (.bl F), some (.int (((k : Nat) : Int) + ((i' : Nat) : Int) * (-1)))] H8
                (fun y H9 => ∃ i1 j1, V.int first = .int i1 ∧ y = .int j1 ∧ gSub (tVar 5) (tVar 9) qSet (.int (i1 + j1)) [some (.ref a0), some (.ref a), some (.ref c), some (.int (k : Nat)), some (.ref p), some (.ref o), some x, some (.int (M : Nat)), some (.bl F), some (.int (((k : Nat) : Int) + ((i' : Nat) : Int) * (-1)))] H9
                  (fun σ' H' => ∃ y9, σ' = [some (.ref a0), some (.ref a), some (.ref c), some (.int (k : Nat)), some (.ref p), some (.ref o), some x, some (.int (M : Nat)), some (.bl F), y9] ∧ Same H H' ∧ H' o = some (.lst (tb (half R (stepE R (b2n F) M) j) (k + 1))))) := by
              intro first hfirst
              refine ⟨.ref o, rfl, _, rfl, _, _, rfl, rfl, o, _, _, .int (R j : Nat), rfl, rfl, SqL.of eo8, ?_, .int (M : Nat), rfl, _, _, rfl, rfl, .inr ⟨by omega, by omega⟩, _, _, rfl, rfl, ?_⟩
              · rw [← v0]
                exact tb_atI (by omega) ej1
              · refine ⟨.ref o, rfl, _, rfl, o, _, _, j + 1, rfl, rfl, eo8, ?_, fun H9 x9 e9 => ?_⟩
                · rw [tb_len, ej]
                  exact ixN_nat (by omega)
                · refine ⟨_, rfl, same_ex sm8 nO x9, ?_⟩
                  rw [e9]
                  refine congrArg (fun z => some (HO.lst z)) (tb_set ?_ (fun i2 hi2 ne2 => ?_) (by omega))
                  · rw [hfirst]
                    unfold half
                    rw [if_pos (by omega), step_succ]
                    exact congrArg V.int (by rw [Int.natCast_add, Int.natCast_mul, Int.natCast_mul])
                  · unfold half
                    by_cases c1 : j + 1 < i2
                    · rw [if_pos c1, if_pos (by omega)]
                    · rw [if_neg c1, if_neg (by omega)]
            cases F with
            | true =>
              refine iteT ⟨.ref o, rfl, _, rfl, o, _, _, .int (R (j + 1) : Nat), rfl, rfl, SqL.of eo8, ?_, rest (R (j + 1) : Nat) (by simp [b2n])⟩
              rw [← v1]
              exact tb_atI (by omega) ej
            | false => exact iteF (rest 0 (by simp [b2n]))
          · obtain ⟨y9', rfl, sm8, eo8⟩ := hp
            have v0 : half R (stepE R (b2n F) M) (k - k) 0 = R 0 := by
              unfold half
              rw [if_neg (by omega)]
            refine ⟨.bl F, rfl, F, rfl, ?_⟩
            have rest : ∀ (first : Int), first = ((R 0 * b2n F : Nat) : Int) → gSub (tVar 5) (tC (.int 0)) qSet (.int first)
                [some (.ref a0), some (.ref a), some (.ref c), some (.int (k : Nat)), some (.ref p), some (.ref o), some x, some (.int (M : Nat)), some (.bl F), y9'] H8
                (fun σ' H' => ∃ y6 y7 y8 y9, σ' = [some (.ref a0), some (.ref a), some (.ref c), some (.int (k : Nat)), some (.ref p), some (.ref o), y6, y7, y8, y9] ∧ Same H H' ∧ H' o = some (.lst (tb (rowOf n (mem mu) (mem ne) (ps.take (i + 1))) (k + 1)))) := by
              intro first hfirst
              refine ⟨.ref o, rfl, o, _, _, 0, rfl, rfl, eo8, ?_, fun H9 x9 e9 => ?_⟩
              · rw [tb_len]
                exact ixN_nat (k := 0) (by omega)
              · refine ⟨_, _, _, _, rfl, same_ex sm8 nO x9, ?_⟩
                rw [e9, hnew]
                refine congrArg (fun z => some (HO.lst z)) (tb_set ?_ (fun i2 hi2 ne2 => ?_) (by omega))
                · rw [hfirst]
                  rfl
                · unfold half
                  rw [if_pos (by omega)]
            cases F with
            | true =>
              refine iteT ⟨.ref o, rfl, o, _, _, .int (R 0 : Nat), rfl, rfl, SqL.of eo8, ?_, rest (R 0 : Nat) (by simp [b2n])⟩
              rw [← v0]
              exact tb_atI (j := 0) (by omega) rfl
            | false => exact iteF (rest 0 (by simp [b2n]))
        · obtain ⟨y6, y7, y8, y9, rfl, sm, eo⟩ := hp
          rw [← paired_len h3, List.take_length] at eo
          exact ⟨.ref o, rfl, _, rfl, o, _, _, _, rfl, rfl, SqL.of eo, tb_atI (j := k) (by omega) rfl, q H5 sm⟩
end
end K16
namespace K16
open PySem L2
section
variable {P : Program} {w : World} {K : PySem.W.Frag} {mg : Str → Option Value} {base : Heap}
/-! ## least_count -/
def spLc (n : Nat) : Sp := fun vs H Q _ => ∃ (t : Tr n) (v : V) (a c : Addr) (mu ne : List Int), vs = [v, .ref a, .ref c] ∧ TAt H n t v ∧ WF n t ∧ (held n t).Nodup ∧ (held n t).length ≤ 24 ∧ IT H a mu ∧ mu.length ≤ 1000 ∧ IT H c ne ∧
  ∀ H', Same H H' → Q (.int (LM n t mu ne : Nat)) H'
theorem not_all {mu hs : List Int} (q : Int → Bool) (h : ∀ x, q x = !decide (x ∈ hs)) : (!(mu.filter q).isEmpty) = !mu.all (fun b => decide (b ∈ hs)) := by
  congr 1
  rw [Bool.eq_iff_iff, List.isEmpty_iff, List.filter_eq_nil_iff, List.all_eq_true]
  refine forall_congr' fun x => forall_congr' fun _ => ?_
  rw [h]
  cases decide (x ∈ hs) <;> simp
theorem ok_lc (T : Txt K mg) (n : Nat) : FnOk P w K mg base CX0 (n + 4) T.f_least_count T.d_least_count ["tree", "must", "never"] (spLc n) := by
  have sc : FnScope ["tree", "must", "never", "buttons", "button"] ["tree", "must", "never"] (defScope s_least_count) := ⟨rfl, rfl, rfl, by decide +kernel, rfl, by decide +kernel, by decide +kernel⟩
  refine T.D_least_count.F.ok sc (fun vs H Q E h => ?_) (fun cdv A outer s H vs Q E hr h => ?_)
  · obtain ⟨t, v, a, c, mu, ne, rfl, _⟩ := h
    rfl
  · obtain ⟨t, v, a, c, mu, ne, rfl, ht, wf, nd, hl, hm, hml, hn, q⟩ := h
    refine ⟨_, pss_cons (ps_set (i := 3) sc.nd rfl (.inr rfl) (pe_call (ok_bof T n) (hr.mono (by omega)) (by rfl) T.D_buttons_of.m T.D_buttons_of.F.kp T.D_buttons_of.b .nil pass0 (pa_cons (pv 0) pa_nil)))
      (pss_cons (ps_if (pt_cmpR (oneD K hr.units) (le_lc (own := [("button", 4)]) (g := gName 4) (by rfl) sc.nd (pi_tup (pv 1)) (blkOk_by (own := [("button", 4)]) (N := ["tree", "must", "never", "buttons", "button"]) (sc := defScope s_least_count) (by decide +kernel)) (fun _ _ _ _ _ => pg_name (i := 4) sc.nd rfl (Or.inl rfl)) (fun _ _ _ _ _ => pts_one ( pt_cmpR (onin K) (pv 4) (pv 3) (by rfl))) (fun _ _ _ _ _ =>  pv 4)) (le_lst pa_nil) (nomark _)) (pss_one (ps_ret pe_int)) pss_nil)
      (pss_one (ps_ret (pe_call (ok_lm T n) (hr.mono (by omega)) (by rfl) T.D_least_many.m T.D_least_many.F.kp T.D_least_many.b .nil pass0 (pa_cons (pv 0) (pa_cons (pv 1) (pa_cons (pv 2) pa_nil))))))), ?_⟩
    refine ⟨v, rfl, t, v, rfl, ht, by omega, fun H1 p ns s1 n1 pm e1 => ?_⟩
    refine ⟨.ref a, rfl, a, rfl, ⟨_, SqT.of (s1 _ _ hm)⟩, lc_funT (fI (fun z => !decide (z ∈ ns))) (SqT.of (s1 _ _ hm)) (by rw [List.length_map]; exact hml) (fun i x H2 Yes No hx s2 hy hn => ?_) (fun H2 D s2 n2 e2 => ?_)⟩
    · obtain ⟨z, hz, rfl⟩ := int_at hx
      refine ⟨rfl, .int z, rfl, .ref p, rfl, p, _, rfl, .inr (SqT.of (s2 _ _ e1)), rfl, flat_ints ns, _, rfl, ?_⟩
      show if (!inV (.int z) (ns.map V.int)) = true then _ else _
      rw [in_ints]
      refine ite2 (fun c => ?_) (fun c => ?_)
      · exact ⟨.int z, rfl, hy _ _ (by rw [fI_int, if_pos c]) (Same.refl _)⟩
      · exact hn (by rw [fI_int, if_neg c]) _ (Same.refl _)
    · rw [fm_ints] at e2
      refine ⟨Nat.zero_le _, fun H3 D3 s3 n3 e3 => ?_⟩
      refine ⟨_, .list [], .lst (SqL.of (s3 _ _ e2)) (dp_ints _), .lst (SqL.of e3) .nil, PySem.W.shaped_ints _, PySem.W.shaped_ints [], _, rfl, ?_⟩
      rw [eqv_nil, not_all (hs := held n t) _ (fun x => by rw [show decide (x ∈ ns) = decide (x ∈ held n t) from decide_eq_decide.mpr pm.mem_iff])]
      have sm := (s1.trans s2).trans s3
      refine ite2 (fun c => ?_) (fun c => ?_)
      · have q := q H3 sm
        unfold LM at q
        rw [if_neg (by simpa using c)] at q
        exact q
      · refine ⟨v, rfl, .ref a, rfl, .ref _, rfl, t, v, a, _, mu, ne, rfl, ht.mono (Tk.of sm), wf, nd, hl, sm _ _ hm, sm _ _ hn, fun H4 s4 => ?_⟩
        have q := q H4 (sm.trans s4)
        unfold LM at q
        rw [if_pos (by simpa using c)] at q
        exact q
end
end K16
namespace K16
open PySem L2
/-! ## the bag -/
abbrev kG : Key := Sum.inr "great"
abbrev kM : Key := Sum.inr "mixed"
abbrev kT : Key := Sum.inr "turn"
abbrev bagD (g : Addr) (m t : Int) : List (Key × V) := [(Sum.inr "great", .ref g), (Sum.inr "mixed", .int m), (Sum.inr "turn", .int t)]
theorem gm : ¬ kG = kM := by decide +kernel
theorem gt : ¬ kG = kT := by decide +kernel
theorem mt : ¬ kM = kT := by decide +kernel
theorem val_g (g : Addr) (m t : Int) : valV (bagD g m t) kG = some (.ref g) := valV_pos rfl
theorem val_m (g : Addr) (m t : Int) : valV (bagD g m t) kM = some (.int m) := (valV_neg gm).trans (valV_pos rfl)
theorem val_t (g : Addr) (m t : Int) : valV (bagD g m t) kT = some (.int t) := (valV_neg gt).trans ((valV_neg mt).trans (valV_pos rfl))
theorem put_t (g : Addr) (m t u : Int) : putK (bagD g m t) kT (.int u) = bagD g m u := by
  unfold putK
  rw [valV_any, val_t]
  show (if true = true then _ else _) = _
  rw [if_pos rfl]
  show [if kG = kT then (kG, V.int u) else (kG, V.ref g), if kM = kT then (kM, V.int u) else (kM, V.int m), if kT = kT then (kT, V.int u) else (kT, V.int t)] = _
  rw [if_neg gt, if_neg mt, if_pos rfl]
section
variable {H : Hp} {b g : Addr} {m t : Int}
theorem get_g (e : H b = some (.dK (bagD g m t))) : DGet H b (.str "great") (some (.ref g)) := by
  rw [← val_g g m t]
  exact DGet.k (k := kG) e
theorem get_m (e : H b = some (.dK (bagD g m t))) : DGet H b (.str "mixed") (some (.int m)) := by
  rw [← val_m g m t]
  exact DGet.k (k := kM) e
theorem get_t (e : H b = some (.dK (bagD g m t))) : DGet H b (.str "turn") (some (.int t)) := by
  rw [← val_t g m t]
  exact DGet.k (k := kT) e
theorem dput_t (e : H b = some (.dK (bagD g m t))) (u : Int) : DPut H b (.str "turn") (.int u) (upd H b (.dK (bagD g m u))) := by
  have := DPut.k (k := kT) (v := .int u) e (by show 3 < sizeLine; decide)
  rw [put_t] at this
  exact this
end
theorem last_of {gs : List Int} (h : gs.isEmpty = false) : ∃ ini z, gs = ini ++ [z] := by
  cases gs with
  | nil => cases h
  | cons a r => exact ⟨(a :: r).dropLast, (a :: r).getLast (by simp), (List.dropLast_concat_getLast _).symm⟩
theorem map_last (ini : List Int) (z : Int) : (ini ++ [z]).map V.int = ini.map V.int ++ [.int z] := by
  rw [List.map_append]
  rfl
theorem set_last (ini : List Int) (z y : Int) : ((ini ++ [z]).map V.int).set ini.length (.int y) = (ini ++ [y]).map V.int := by
  rw [map_last, map_last, List.set_append_right _ _ (by rw [List.length_map]; exact Nat.le_refl _), List.length_map, Nat.sub_self]
  rfl
theorem ixN_last (n : Nat) : ixN (n + 1) (-1) = some n := by
  unfold ixN
  rw [if_neg (by omega), if_pos (by omega)]
  exact congrArg some (by omega)
theorem fmod_rng (z : Int) {k : Int} (h : 0 < k) : ∃ r : Nat, z.fmod k = r ∧ (r : Int) < k := by
  have h1 : z.fmod k = z % k := Int.fmod_eq_emod_of_nonneg _ (by omega)
  have h2 := Int.emod_nonneg z (show k ≠ 0 by omega)
  have h3 := Int.emod_lt_of_pos z h
  exact ⟨(z % k).toNat, by omega, by omega⟩
section
variable {P : Program} {w : World} {K : PySem.W.Frag} {mg : Str → Option Value} {base : Heap}
def spBag (K : PySem.W.Frag) : Sp := fun vs H Q _ => ∃ (a : Addr) (ns : List Int), vs = [.ref a] ∧ SqL K H a (ns.map V.int) ∧ ns.length ≤ 63 ∧ ∀ H' b g, Same H H' → Bag H' b g → Q (.ref b) H'
theorem ok_bag (T : Txt K mg) : FnOk P w K mg base CX0 1 T.f_l_bag T.d_l_bag ["_law_script"] (spBag K) := by
  have sc : FnScope ["_law_script", "_law_great", "_law_mixed_here", "_law_cell"] ["_law_script"] (defScope s_l_bag) := ⟨rfl, rfl, rfl, by decide +kernel, rfl, by decide +kernel, by decide +kernel⟩
  refine T.D_l_bag.F.ok sc (fun vs H Q E h => ?_) (fun cdv A outer s H vs Q E hr h => ?_)
  · obtain ⟨a, ns, rfl, _⟩ := h
    rfl
  · obtain ⟨a, ns, rfl, hS, hl, q⟩ := h
    refine ⟨_, pss_cons (ps_par (i := 1) (j := 2) (by rfl) sc.nd rfl rfl (by decide) rfl rfl (pa_cons (le_lst pa_nil) (pa_cons (pe_op op_add pe_int (pe_callB call_len_seq (by rfl) T.n_len (by decide +kernel) (pa_cons (pv 0) pa_nil))) pa_nil)) (by rfl))
      (pss_cons (ps_for PassesOwn.never rfl (pi_list (pe_slice sq_list (pv 0) po_none (po_some pe_int))) (pg_name (i := 3) sc.nd rfl (.inl rfl))
        (pss_cons (ps_set (i := 2) sc.nd rfl (.inl rfl) (pe_op op_mod (pe_callTy call_int1 (by rfl) T.n_int (by decide +kernel) (pa_cons (pe_op op_add (pe_op op_mul (pv 2) pe_int) (pv 3)) pa_nil)) pe_int))
        (pss_one (ps_if (pt_cmpR op_gt (pe_callB call_abs (by rfl) T.n_abs (by decide +kernel) (pa_cons (pv 3) pa_nil)) (pe_op op_pow pe_int pe_int) (nomark _))
          (pss_one (ps_expr (pe_bm PySem.F.plainAttrs_list PySem.F.slot_list_append PySem.F.type_list_append mq_append (pv 1) (pa_cons (pe_op op_add (pe_op op_mul pe_int (pe_callB call_abs (by rfl) T.n_abs (by decide +kernel) (pa_cons (pv 3) pa_nil))) (pe_callTy call_int1 (by rfl) T.n_int (by decide +kernel) (pa_cons (pe_cmpR op_lt (pv 3) pe_int (nomark _)) pa_nil))) pa_nil))))
          pss_nil))))
      (pss_one (ps_ret (pe_disp (pps_cons pe_str (pv 1) (pps_cons pe_str (pv 2) (pps_cons pe_str pe_int pps_nil))) (by rfl) (by rfl) (fun z => by cases z) (by decide))))), ?_⟩
    refine ⟨Nat.zero_le _, fun H1 g s1 n1 e1 => ⟨_, rfl, a, _, rfl, .inl (s1.seq hS), _, _, rfl, rfl, _, _, rfl, ?_⟩⟩
    refine ⟨_, rfl, 60, rfl, a, _, rfl, s1.seq hS, fun H2 c s2 n2 e2 => ?_⟩
    -- the first sixty
    obtain ⟨ms, hms, hml⟩ : ∃ ms : List Int, cutV (ns.map V.int) none (some 60) = ms.map V.int ∧ ms.length ≤ 63 := by
      refine ⟨ns.take (min 60 ns.length), ?_, ?_⟩
      · unfold cutV
        rw [HT.sIx_none, show HT.sIx (ns.map V.int).length (ns.map V.int).length (some 60) = min 60 (ns.map V.int).length from HT.sIx_nat _ _ 60, List.length_map, List.drop_zero, Nat.sub_zero, List.map_take]
      · rw [List.length_take]
        omega
    rw [hms] at e2
    have nc : c ≠ g := (ne_of_none e1 n2).symm
    refine ⟨c, rfl, ⟨_, SqL.of e2⟩, for_list (xs := ms.map V.int) (fun i σ H3 => ∃ m y gs, σ = [some (.ref a), some (.ref g), some (.int m), y] ∧ Same H H3 ∧ H3 c = some (.lst (ms.map V.int)) ∧ IL H3 g gs ∧ gs.length ≤ i)
      ⟨_, none, [], rfl, s1.trans s2, e2, s2 _ _ e1, Nat.le_refl 0⟩ (fun i σ H3 _ hp => ?_) (fun i x σ H3 hx hp => ?_) (fun σ H3 hp => ?_)⟩
    · obtain ⟨m, y, gs, _, _, ec, _⟩ := hp
      exact SqL.of ec
    · obtain ⟨m, y, gs, rfl, sm, ec, eg, lg⟩ := hp
      obtain ⟨z, hz, rfl⟩ := int_at hx
      have hi : i < 63 := by
        have := (List.getElem?_eq_some_iff.mp hz).1
        omega
      refine ⟨_, rfl, _, _, rfl, rfl, .inr ⟨by decide, by decide⟩, _, rfl, _, _, rfl, rfl, .inl ⟨_, rfl, _, _, rfl, rfl, (by show (0 : Int) < 2147483647; decide), ?_⟩⟩
      dsimp only
      generalize (m * 48271 + z) % 2147483647 = m'
      refine ⟨_, rfl, _, rfl, _, _, rfl, rfl, ⟨by decide, by decide, by decide⟩, _, _, rfl, rfl, _, rfl, ?_⟩
      refine ite2 (fun c => ?_) (fun c => ?_)
      · refine ⟨_, rfl, .inl ⟨rfl, _, SqL.of eg⟩, _, rfl, _, rfl, _, _, rfl, rfl, .inl ⟨by decide, by decide⟩, _, rfl, _, _, rfl, rfl, .inr ⟨_, rfl, _, _, rfl, rfl, ?_⟩⟩
        refine ⟨g, _, _, rfl, rfl, eg, by rw [List.length_map]; exact small1000 (by omega), fun H4 x4 e4 => ?_⟩
        have e5 : ∃ y : Int, H4 g = some (.lst (gs.map V.int ++ [.int y])) := ⟨_, e4⟩
        obtain ⟨y5, e5⟩ := e5
        refine ⟨m', _, gs ++ [y5], rfl, same_ex sm n1 x4, x4 _ _ nc ec, ?_, ?_⟩
        · show H4 g = _
          rw [map_last]
          exact e5
        · rw [List.length_append]
          exact Nat.succ_le_succ lg
      · exact ⟨m', _, gs, rfl, sm, ec, eg, Nat.le_succ_of_le lg⟩
    · obtain ⟨m, y, gs, rfl, sm, ec, eg, lg⟩ := hp
      intro p np
      refine ⟨_, rfl, _, rfl, upd_same, bagD g m 0, rfl, (by show 3 ≤ 15; decide), ?_⟩
      have em : mergeK [] (bagD g m 0) = bagD g m 0 := by
        have p1 : putK ([] : List (Key × V)) kG (.ref g) = [(kG, .ref g)] := putK_new _ rfl
        have p2 : putK [(kG, V.ref g)] kM (.int m) = [(kG, .ref g), (kM, .int m)] := putK_new _ ((valV_neg gm).trans rfl)
        have p3 : putK [(kG, V.ref g), (kM, .int m)] kT (.int 0) = bagD g m 0 := putK_new _ ((valV_neg gt).trans ((valV_neg mt).trans rfl))
        show putK (putK (putK [] kG (.ref g)) kM (.int m)) kT (.int 0) = bagD g m 0
        rw [p1, p2, p3]
      rw [em, upd_upd]
      refine q _ p g (same_upd sm (sm.free np)) ⟨gs, m, 0, upd_same, ?_⟩
      rw [upd_ne (ne_of_none eg np)]
      exact eg
/-! ## a draw -/
def spDraw : Sp := fun vs H Q _ => ∃ (b g : Addr) (many : Int), vs = [.ref b, .int many] ∧ Bag H b g ∧ 0 < many ∧ many < 1000000 ∧ ∀ H' (r : Nat), Kb b g H H' → (r : Int) < many → Q (.int r) H'
theorem ok_draw (T : Txt K mg) : FnOk P w K mg base CX0 1 T.f_l_draw T.d_l_draw ["_law_bag_here", "_law_many"] spDraw := by
  have sc : FnScope ["_law_bag_here", "_law_many", "_law_digit", "_law_found"] ["_law_bag_here", "_law_many"] (defScope s_l_draw) := ⟨rfl, rfl, rfl, by decide +kernel, rfl, by decide +kernel, by decide +kernel⟩
  refine T.D_l_draw.F.ok sc (fun vs H Q E h => ?_) (fun cdv A outer s H vs Q E hr h => ?_)
  · obtain ⟨b, g, many, rfl, _⟩ := h
    rfl
  · obtain ⟨b, g, many, rfl, bag, h0, h1, q⟩ := h
    have hu := hu_of hr
    refine ⟨_, pss_cons (ps_while PassesOwn.never (PW.pt (pw_and (pt_cmpR (oneD K hr.units) (pe_dget hu (pv 0) pe_str (fun _ _ => rfl)) (le_lst pa_nil) (nomark _)) (pw_and1 (pt_cmpR op_eq (pe_ix (ixl K) (pe_dget hu (pv 0) pe_str (fun _ _ => rfl)) (pe_un un_neg pe_int) (fun _ _ => rfl)) pe_int (nomark _)))))
        (pss_one (ps_expr (pe_bm0 PySem.F.plainAttrs_list PySem.F.slot_list_pop PySem.F.type_list_pop mq_pop (pe_dget hu (pv 0) pe_str (fun _ _ => rfl))))))
      (pss_cons (ps_if (pt_cmpR (oneD K hr.units) (pe_dget hu (pv 0) pe_str (fun _ _ => rfl)) (le_lst pa_nil) (nomark _))
        (pss_cons (ps_set (i := 2) sc.nd rfl (.inl rfl) (pe_op op_modN (pe_ix (ixl K) (pe_dget hu (pv 0) pe_str (fun _ _ => rfl)) (pe_un un_neg pe_int) (fun _ _ => rfl)) (pv 1)))
        (pss_cons (ps_asg (pe_op op_fdivN (pe_ix (ixl K) (pe_dget hu (pv 0) pe_str (fun _ _ => rfl)) (pe_un un_neg pe_int) (fun _ _ => rfl)) (pv 1)) (pg_sub (pe_dget hu (pv 0) pe_str (fun _ _ => rfl)) (pe_un un_neg pe_int) gq_set))
        (pss_one (ps_ret (pe_callTy call_int1 (by rfl) T.n_int (by decide +kernel) (pa_cons (pv 2) pa_nil)))))) pss_nil)
      (pss_cons (ps_dput hu (pv 0) pe_str (pe_op op_add (pe_dget hu (pv 0) pe_str (fun _ _ => rfl)) pe_int) rfl)
      (pss_cons (ps_set (i := 3) sc.nd rfl (.inl rfl) (pe_op op_mod (pe_callTy call_int1 (by rfl) T.n_int (by decide +kernel) (pa_cons (pe_op op_add (pe_dget hu (pv 0) pe_str (fun _ _ => rfl)) (pe_op op_mul (pe_dget hu (pv 0) pe_str (fun _ _ => rfl)) pe_int)) pa_nil)) pe_int))
      (pss_cons (ps_set (i := 3) sc.nd rfl (.inl rfl) (pe_op op_mod (pe_callTy call_int1 (by rfl) T.n_int (by decide +kernel) (pa_cons (pe_op op_add (pe_op op_add (pe_op op_mul (pv 3) (pv 3)) (pe_op op_mul (pe_dget hu (pv 0) pe_str (fun _ _ => rfl)) pe_int)) pe_int) pa_nil)) pe_int))
      (pss_cons (ps_set (i := 3) sc.nd rfl (.inl rfl) (pe_op op_mod (pe_callTy call_int1 (by rfl) T.n_int (by decide +kernel) (pa_cons (pe_op op_add (pe_op op_mul (pv 3) (pv 3)) (pe_dget hu (pv 0) pe_str (fun _ _ => rfl))) pa_nil)) pe_int))
      (pss_one (ps_ret (pe_op op_modN (pe_callTy call_int1 (by rfl) T.n_int (by decide +kernel) (pa_cons (pe_op op_fdiv (pv 3) pe_int) pa_nil)) (pv 1))))))))), ?_⟩
    obtain ⟨gs0, m, t, eb0, eg0⟩ := id bag
    have nbg : b ≠ g := ne_of eb0 eg0 (fun z => nomatch z)
    have kb : ∀ {H' : Hp} {gs : List Int} {t' : Int}, (∀ a o, a ≠ b → a ≠ g → H a = some o → H' a = some o) → H' b = some (.dK (bagD g m t')) → IL H' g gs → Kb b g H H' := fun h1 h2 h3 => ⟨bag, h1, _, _, _, h2, h3⟩
    show tWhile _ _ _ _ _
    refine while_inv (fun k σ H2 => ∃ gs, gs.length = k ∧ σ = [some (.ref b), some (.int many), none, none] ∧ (∀ a o, a ≠ b → a ≠ g → H a = some o → H2 a = some o) ∧ H2 b = some (.dK (bagD g m t)) ∧ IL H2 g gs)
      (fun σ H2 => ∃ gs, σ = [some (.ref b), some (.int many), none, none] ∧ (∀ a o, a ≠ b → a ≠ g → H a = some o → H2 a = some o) ∧ H2 b = some (.dK (bagD g m t)) ∧ IL H2 g gs)
      ⟨_, gs0, rfl, rfl, fun _ _ _ _ h => h, eb0, eg0⟩ (fun k σ H2 R hp yes no => ?_) (fun σ H2 hp => ?_)
    · obtain ⟨gs, rfl, rfl, kp, eb, eg⟩ := hp
      refine ⟨_, rfl, b, .ref g, rfl, get_g eb, Nat.zero_le _, fun H3 o s3 n3 e3 => ?_⟩
      refine ⟨_, .list [], .lst (SqL.of (s3 _ _ eg)) (dp_ints _), .lst (SqL.of e3) .nil, PySem.W.shaped_ints _, PySem.W.shaped_ints [], _, rfl, ?_⟩
      rw [eqv_nil]
      have kp3 : ∀ a o, a ≠ b → a ≠ g → H a = some o → H3 a = some o := fun a o x1 x2 x3 => s3 _ _ (kp a o x1 x2 x3)
      have eb3 := s3 _ _ eb
      have eg3 := s3 _ _ eg
      cases ce : gs.isEmpty with
      | true => exact iteF (no H3 ⟨gs, rfl, kp3, eb3, eg3⟩)
      | false =>
        obtain ⟨ini, z, rfl⟩ := last_of ce
        have hz : atI ((ini ++ [z]).map V.int) (-1) = some (.int z) := by
          rw [map_last]
          exact atI_last _ _
        refine iteT ⟨_, rfl, b, .ref g, rfl, get_g eb3, _, rfl, g, _, _, _, rfl, rfl, SqL.of eg3, hz, rfl, _, rfl, ?_⟩
        cases cd : decide (V.int z = V.int 0) with
        | false => exact no H3 ⟨_, rfl, kp3, eb3, eg3⟩
        | true =>
          refine yes H3 ⟨_, rfl, b, .ref g, rfl, get_g eb3, .inl ⟨rfl, _, SqL.of eg3⟩, g, _, .int z, rfl, rfl, eg3, ?_, fun H4 x4 e4 => ?_⟩
          · rw [map_last]
            simp
          · refine ⟨_, ?_, ini, rfl, rfl, fun a o h1 h2 h3 => x4 _ _ h2 (kp3 a o h1 h2 h3), x4 _ _ nbg eb3, ?_⟩
            · rw [List.length_append]
              exact Nat.lt_succ_self _
            · show H4 g = _
              rw [e4, map_last]
              simp
    · obtain ⟨gs, rfl, kp, eb, eg⟩ := hp
      refine ⟨_, rfl, b, .ref g, rfl, get_g eb, Nat.zero_le _, fun H3 o s3 n3 e3 => ?_⟩
      refine ⟨_, .list [], .lst (SqL.of (s3 _ _ eg)) (dp_ints _), .lst (SqL.of e3) .nil, PySem.W.shaped_ints _, PySem.W.shaped_ints [], _, rfl, ?_⟩
      rw [eqv_nil]
      have kp3 : ∀ a o, a ≠ b → a ≠ g → H a = some o → H3 a = some o := fun a o x1 x2 x3 => s3 _ _ (kp a o x1 x2 x3)
      have eb3 := s3 _ _ eb
      have eg3 := s3 _ _ eg
      cases ce : gs.isEmpty with
      | false =>
        obtain ⟨ini, z, rfl⟩ := last_of ce
        have hz : atI ((ini ++ [z]).map V.int) (-1) = some (.int z) := by
          rw [map_last]
          exact atI_last _ _
        obtain ⟨r, er, hr2⟩ := fmod_rng z h0
        refine iteT ⟨_, rfl, b, .ref g, rfl, get_g eb3, _, rfl, g, _, _, _, rfl, rfl, SqL.of eg3, hz, _, rfl, _, _, rfl, rfl, (by omega), ?_⟩
        refine ⟨_, rfl, b, .ref g, rfl, get_g eb3, _, rfl, g, _, _, _, rfl, rfl, SqL.of eg3, hz, _, rfl, _, _, rfl, rfl, ⟨by omega, by omega⟩, ?_⟩
        refine ⟨_, rfl, b, .ref g, rfl, get_g eb3, _, rfl, g, _, _, ini.length, rfl, rfl, eg3, ?_, fun H4 x4 e4 => ?_⟩
        · rw [List.length_map, List.length_append]
          exact ixN_last _
        · rw [set_last] at e4
          refine ⟨_, rfl, .inl ⟨_, rfl, ?_⟩⟩
          rw [er]
          exact q H4 r (kb (t' := t) (fun a o h1 h2 h3 => x4 _ _ h2 (kp3 a o h1 h2 h3)) (x4 _ _ nbg eb3) e4) hr2
      | true =>
        refine iteF ⟨_, rfl, b, .int t, rfl, get_t eb3, _, _, rfl, rfl, _, rfl, b, _, rfl, dput_t eb3 (t + 1), ?_⟩
        have kp4 : ∀ a o, a ≠ b → a ≠ g → H a = some o → (upd H3 b (.dK (bagD g m (t + 1)))) a = some o := fun a o x1 x2 x3 => by
          rw [upd_ne x1]
          exact kp3 a o x1 x2 x3
        have eb4 : (upd H3 b (.dK (bagD g m (t + 1)))) b = some (.dK (bagD g m (t + 1))) := upd_same
        have eg4 : IL (upd H3 b (.dK (bagD g m (t + 1)))) g gs := by
          show upd _ _ _ g = _
          rw [upd_ne nbg.symm]
          exact eg3
        generalize upd H3 b (.dK (bagD g m (t + 1))) = H4 at kp4 eb4 eg4
        refine ⟨_, rfl, b, .int m, rfl, get_m eb4, _, rfl, b, .int (t + 1), rfl, get_t eb4, _, _, rfl, rfl, .inr ⟨by decide, by decide⟩, _, _, rfl, rfl, .inl ⟨_, rfl, _, _, rfl, rfl, (by show (0 : Int) < 2147483399; decide), ?_⟩⟩
        dsimp only
        have b1 : 0 ≤ (m + (t + 1) * 40692) % 2147483399 ∧ (m + (t + 1) * 40692) % 2147483399 < 2147483399 := ⟨Int.emod_nonneg _ (by decide), Int.emod_lt_of_pos _ (by decide)⟩
        generalize (m + (t + 1) * 40692) % 2147483399 = f1 at b1
        refine ⟨_, rfl, _, rfl, _, _, rfl, rfl, .inl ⟨by omega, by omega⟩, _, rfl, b, .int (t + 1), rfl, get_t eb4, _, _, rfl, rfl, .inr ⟨by decide, by decide⟩, _, _, rfl, rfl, _, _, rfl, rfl, .inl ⟨_, rfl, _, _, rfl, rfl, (by show (0 : Int) < 2147483647; decide), ?_⟩⟩
        dsimp only
        have b2 : 0 ≤ (f1 * f1 + (t + 1) * 69621 + 5) % 2147483647 ∧ (f1 * f1 + (t + 1) * 69621 + 5) % 2147483647 < 2147483647 := ⟨Int.emod_nonneg _ (by decide), Int.emod_lt_of_pos _ (by decide)⟩
        generalize (f1 * f1 + (t + 1) * 69621 + 5) % 2147483647 = f2 at b2
        refine ⟨_, rfl, _, rfl, _, _, rfl, rfl, .inl ⟨by omega, by omega⟩, _, rfl, b, .int m, rfl, get_m eb4, _, _, rfl, rfl, .inl ⟨_, rfl, _, _, rfl, rfl, (by show (0 : Int) < 2147483629; decide), ?_⟩⟩
        dsimp only
        generalize (f2 * f2 + m) % 2147483629 = f3
        obtain ⟨r, er, hr2⟩ := fmod_rng (f3 / 64) h0
        refine ⟨_, rfl, _, _, rfl, rfl, ⟨by decide, by decide⟩, .inl ⟨_, rfl, _, rfl, _, _, rfl, rfl, (by omega), ?_⟩⟩
        dsimp only
        rw [er]
        exact q H4 r (kb kp4 eb4 eg4) hr2
end
end K16
namespace K16
open PySem L2
theorem erase_perm {α : Type} : ∀ {l : List α} {k : Nat} {x : α}, l[k]? = some x → (x :: l.eraseIdx k).Perm l
  | [], k, x, h => by simp at h
  | y :: l, 0, x, h => by
    have e : y = x := Option.some.inj h
    subst e
    exact List.Perm.refl _
  | y :: l, k + 1, x, h => by
    have ih := erase_perm (l := l) (k := k) (x := x) h
    show (x :: y :: l.eraseIdx k).Perm (y :: l)
    exact (List.Perm.swap y x _).trans (ih.cons y)
theorem map_erase (l : List Int) (k : Nat) : (l.map V.int).eraseIdx k = (l.eraseIdx k).map V.int := by
  induction l generalizing k with
  | nil => rfl
  | cons a l ih =>
    cases k with
    | zero => rfl
    | succ k =>
      show V.int a :: (l.map V.int).eraseIdx k = V.int a :: (l.eraseIdx k).map V.int
      rw [ih]
theorem erase_len {α : Type} {l : List α} {k : Nat} (h : k < l.length) : (l.eraseIdx k).length + 1 = l.length := by
  rw [List.length_eraseIdx_of_lt h]
  omega
/-- taken out of rest, put behind found -/
theorem move_perm {fs rs ns : List Int} {k : Nat} {z : Int} (h : (fs ++ rs).Perm ns) (e : rs[k]? = some z) : ((fs ++ [z]) ++ rs.eraseIdx k).Perm ns := by
  refine List.Perm.trans ?_ h
  rw [List.append_assoc]
  exact List.Perm.append_left fs (erase_perm e)
section
variable {P : Program} {w : World} {K : PySem.W.Frag} {mg : Str → Option Value} {base : Heap}
/-! ## pick, mixed, buttons -/
def spPick : Sp := fun vs H Q _ => ∃ (b g a : Addr) (xs : List V), vs = [.ref b, .ref a] ∧ Bag H b g ∧ a ≠ g ∧ H a = some (.lst xs) ∧ 0 < xs.length ∧ xs.length < 1000000 ∧ ∀ H' x, Kb b g H H' → x ∈ xs → Q x H'
theorem Bag.ne_lst {H : Hp} {b g a : Addr} {xs : List V} (k : Bag H b g) (h : H a = some (.lst xs)) : a ≠ b := by
  obtain ⟨gs, m, t, e1, e2⟩ := k
  exact ne_of h e1 (fun q => nomatch q)
theorem ok_pick (T : Txt K mg) : FnOk P w K mg base CX0 2 T.f_l_pick T.d_l_pick ["_law_bag_here", "_law_items"] spPick := by
  have sc : FnScope ["_law_bag_here", "_law_items"] ["_law_bag_here", "_law_items"] (defScope s_l_pick) := ⟨rfl, rfl, rfl, by decide +kernel, rfl, by decide +kernel, by decide +kernel⟩
  refine T.D_l_pick.F.ok sc (fun vs H Q E h => ?_) (fun cdv A outer s H vs Q E hr h => ?_)
  · obtain ⟨b, g, a, xs, rfl, _⟩ := h
    rfl
  · obtain ⟨b, g, a, xs, rfl, bag, ng, ha, h0, h1, q⟩ := h
    refine ⟨_, pss_one (ps_ret (pe_ix (ixl K) (pv 1) (pe_call (ok_draw T) hr (by rfl) T.D_l_draw.m T.D_l_draw.F.kp T.D_l_draw.b .nil pass0 (pa_cons (pv 0) (pa_cons (pe_callB call_len_seq (by rfl) T.n_len (by decide +kernel) (pa_cons (pv 1) pa_nil)) pa_nil))) (fun _ _ => rfl))), ?_⟩
    refine ⟨_, rfl, _, rfl, _, rfl, a, _, rfl, .inl (SqL.of ha), b, g, _, rfl, bag, by omega, by omega, fun H' r kb hr2 => ?_⟩
    have hr3 : r < xs.length := by omega
    have e : xs[r]? = some xs[r] := List.getElem?_eq_getElem hr3
    exact ⟨a, xs, _, _, rfl, rfl, SqL.of (kb.keep _ _ (bag.ne_lst ha) ng ha), atI_nat e, q H' _ kb (List.getElem_mem hr3)⟩
def spMixed : Sp := fun vs H Q _ => ∃ (b g a : Addr) (ns : List Int), vs = [.ref b, .ref a] ∧ Bag H b g ∧ a ≠ g ∧ IL H a ns ∧ ns.length ≤ 1000 ∧ ∀ H' p ns', Kb b g H H' → H p = none → List.Perm ns' ns → IL H' p ns' → Q (.ref p) H'
theorem ok_mixed (T : Txt K mg) : FnOk P w K mg base CX0 2 T.f_l_mixed T.d_l_mixed ["_law_bag_here", "_law_items"] spMixed := by
  have sc : FnScope ["_law_bag_here", "_law_items", "_law_rest", "_law_found"] ["_law_bag_here", "_law_items"] (defScope s_l_mixed) := ⟨rfl, rfl, rfl, by decide +kernel, rfl, by decide +kernel, by decide +kernel⟩
  refine T.D_l_mixed.F.ok sc (fun vs H Q E h => ?_) (fun cdv A outer s H vs Q E hr h => ?_)
  · obtain ⟨b, g, a, ns, rfl, _⟩ := h
    rfl
  · obtain ⟨b, g, a, ns, rfl, bag, ng, ha, hl, q⟩ := h
    refine ⟨_, pss_cons (ps_par (i := 2) (j := 3) (by rfl) sc.nd rfl rfl (by decide) rfl rfl (pa_cons (pe_callTy cq_list (by rfl) T.n_list (by decide +kernel) (pa_cons (pv 1) pa_nil)) (pa_cons (le_lst pa_nil) pa_nil)) (by rfl))
      (pss_cons (ps_while PassesOwn.never (pt_cmpR (oneD K hr.units) (pv 2) (le_lst pa_nil) (nomark _))
        (pss_one (ps_expr (pe_bm PySem.F.plainAttrs_list PySem.F.slot_list_append PySem.F.type_list_append mq_append (pv 3) (pa_cons (pe_bm PySem.F.plainAttrs_list PySem.F.slot_list_pop PySem.F.type_list_pop mq_popAt (pv 2) (pa_cons (pe_call (ok_draw T) hr (by rfl) T.D_l_draw.m T.D_l_draw.F.kp T.D_l_draw.b .nil pass0 (pa_cons (pv 0) (pa_cons (pe_callB call_len_seq (by rfl) T.n_len (by decide +kernel) (pa_cons (pv 2) pa_nil)) pa_nil))) pa_nil)) pa_nil)))))
      (pss_one (ps_ret (pv 3)))), ?_⟩
    refine ⟨_, rfl, a, _, rfl, .inl (SqL.of ha), fun H1 r s1 n1 e1 => ⟨Nat.zero_le _, fun H2 f s2 n2 e2 => ⟨_, _, rfl, ?_⟩⟩⟩
    have nrf : r ≠ f := ne_of_none e1 n2
    have nf : H f = none := s1.free n2
    show tWhile _ _ _ _ _
    refine while_inv (fun k σ H3 => ∃ rs fs, rs.length = k ∧ σ = [some (.ref b), some (.ref a), some (.ref r), some (.ref f)] ∧ Kb b g H H3 ∧ IL H3 r rs ∧ IL H3 f fs ∧ List.Perm (fs ++ rs) ns)
      (fun σ H3 => ∃ fs, σ = [some (.ref b), some (.ref a), some (.ref r), some (.ref f)] ∧ Kb b g H H3 ∧ IL H3 f fs ∧ List.Perm fs ns)
      ⟨_, ns, [], rfl, rfl, (Kb.refl bag).same (s1.trans s2), s2 _ _ e1, e2, List.Perm.refl _⟩ (fun k σ H3 R hp yes no => ?_) (fun σ H3 hp => ?_)
    · obtain ⟨rs, fs, rfl, rfl, kb, er, ef, pm⟩ := hp
      refine ⟨_, rfl, Nat.zero_le _, fun H4 o s4 n4 e4 => ?_⟩
      refine ⟨_, .list [], .lst (SqL.of (s4 _ _ er)) (dp_ints _), .lst (SqL.of e4) .nil, PySem.W.shaped_ints _, PySem.W.shaped_ints [], _, rfl, ?_⟩
      rw [eqv_nil]
      have kb4 := kb.same s4
      cases ce : rs.isEmpty with
      | true =>
        have : rs = [] := List.isEmpty_iff.mp ce
        subst this
        rw [List.append_nil] at pm
        exact no H4 ⟨fs, rfl, kb4, s4 _ _ ef, pm⟩
      | false =>
        have hpos : 0 < rs.length := by
          cases rs with
          | nil => cases ce
          | cons x r => exact Nat.succ_pos _
        have hrl : rs.length ≤ 1000 ∧ fs.length + rs.length ≤ 1000 := by
          have := pm.length_eq
          rw [List.length_append] at this
          omega
        have er4 : IL H4 r rs := s4 _ _ er
        have ef4 : IL H4 f fs := s4 _ _ ef
        refine yes H4 ⟨_, rfl, .inl ⟨rfl, _, SqL.of ef4⟩, _, rfl, .inl ⟨rfl, _, SqL.of er4⟩, _, rfl, _, rfl, r, _, rfl, .inl (SqL.of er4), b, g, _, rfl, kb4.bag, ?_, ?_, fun H5 k kb5 hk => ?_⟩
        · rw [List.length_map]; omega
        · rw [List.length_map]; omega
        rw [List.length_map] at hk
        have hk' : k < rs.length := by omega
        have ez : rs[k]? = some rs[k] := List.getElem?_eq_getElem hk'
        have er5 : IL H5 r rs := kb5.keep _ _ (kb4.bag.ne_lst er4) (kb4.bag0.neg n1) er4
        have ef5 : IL H5 f fs := kb5.keep _ _ (kb4.bag.ne_lst ef4) (kb4.bag0.neg nf) ef4
        refine ⟨r, _, k, .int rs[k], rfl, rfl, er5, by omega, at_int ez, fun H6 x6 e6 => ?_⟩
        have ef6 : IL H6 f fs := x6 _ _ nrf.symm ef5
        refine ⟨f, _, _, rfl, rfl, ef6, by rw [List.length_map]; exact small1000 (by omega), fun H7 x7 e7 => ?_⟩
        rw [map_erase] at e6
        refine ⟨(rs.eraseIdx k).length, ?_, rs.eraseIdx k, fs ++ [rs[k]], rfl, rfl, ((kb4.trans kb5).ex n1 x6).ex nf x7, x7 _ _ nrf e6, ?_, move_perm pm ez⟩
        · have := erase_len hk'
          omega
        · show H7 f = _
          rw [map_last]
          exact e7
    · obtain ⟨fs, rfl, kb, ef, pm⟩ := hp
      exact ⟨_, rfl, q H3 f fs kb nf pm ef⟩
def spButtons : Sp := fun vs H Q _ => ∃ (b g : Addr) (many : Nat), vs = [.ref b, .int (many : Nat)] ∧ Bag H b g ∧ many ≤ 24 ∧ ∀ H' p ns, Kb b g H H' → H p = none → ns.length = many → ns.Nodup → IL H' p ns → Q (.ref p) H'
def rgI (N : Nat) : List Int := (List.range N).map Int.ofNat
theorem rgV_ints (N : Nat) : rgV 0 (N : Nat) = (rgI N).map V.int := by
  unfold rgV rgI
  rw [List.map_map]
  show (List.range ((N : Int) - 0).toNat).map _ = _
  rw [show ((N : Int) - 0).toNat = N by omega]
  refine List.map_congr_left fun i _ => ?_
  show V.int (0 + (i : Int)) = V.int (i : Int)
  rw [Int.zero_add]
theorem range_nodup (N : Nat) : (rgI N).Nodup := by
  unfold rgI
  exact List.Pairwise.map Int.ofNat (fun a b (h : a ≠ b) (e : Int.ofNat a = Int.ofNat b) => h (Int.ofNat.inj e)) List.nodup_range
theorem rgI_len (N : Nat) : (rgI N).length = N := by
  unfold rgI
  rw [List.length_map, List.length_range]
theorem ok_buttons (T : Txt K mg) : FnOk P w K mg base CX0 2 T.f_l_buttons T.d_l_buttons ["_law_bag_here", "_law_many"] spButtons := by
  have sc : FnScope ["_law_bag_here", "_law_many", "_law_rest", "_law_found", "_law_turn"] ["_law_bag_here", "_law_many"] (defScope s_l_buttons) := ⟨rfl, rfl, rfl, by decide +kernel, rfl, by decide +kernel, by decide +kernel⟩
  refine T.D_l_buttons.F.ok sc (fun vs H Q E h => ?_) (fun cdv A outer s H vs Q E hr h => ?_)
  · obtain ⟨b, g, many, rfl, _⟩ := h
    rfl
  · obtain ⟨b, g, many, rfl, bag, hm, q⟩ := h
    refine ⟨_, pss_cons (ps_par (i := 2) (j := 3) (by rfl) sc.nd rfl rfl (by decide) rfl rfl (pa_cons (le_listRg (by rfl) (by rfl) T.n_list (prg_1 (by rfl) T.n_range (cl_e (pe_ifExp (pt_cmpR op_eq (pe_call (ok_draw T) hr (by rfl) T.D_l_draw.m T.D_l_draw.F.kp T.D_l_draw.b .nil pass0 (pa_cons (pv 0) (pa_cons pe_int pa_nil))) pe_int (nomark _)) pe_int (pe_op op_add (pv 1) pe_int))))) (pa_cons (le_lst pa_nil) pa_nil)) (by rfl))
      (pss_cons (ps_for PassesOwn.never rfl (pi_range1 (by rfl) T.n_range (pa_cons (pv 1) pa_nil)) (pg_name (i := 4) sc.nd rfl (.inl rfl))
        (pss_one (ps_expr (pe_bm PySem.F.plainAttrs_list PySem.F.slot_list_append PySem.F.type_list_append mq_append (pv 3) (pa_cons (pe_bm PySem.F.plainAttrs_list PySem.F.slot_list_pop PySem.F.type_list_pop mq_popAt (pv 2) (pa_cons (pe_call (ok_draw T) hr (by rfl) T.D_l_draw.m T.D_l_draw.F.kp T.D_l_draw.b .nil pass0 (pa_cons (pv 0) (pa_cons (pe_callB call_len_seq (by rfl) T.n_len (by decide +kernel) (pa_cons (pv 2) pa_nil)) pa_nil))) pa_nil)) pa_nil)))))
      (pss_one (ps_ret (pe_callB cq_sorted (by rfl) T.n_sorted (by decide +kernel) (pa_cons (pv 3) pa_nil))))), ?_⟩
    refine ⟨fun x H1 => Kb b g H H1 ∧ ∃ N : Nat, x = .int (N : Nat) ∧ many ≤ N ∧ N ≤ 100, ?_, fun x H1 hx => ?_⟩
    · refine ⟨_, rfl, b, g, 4, rfl, bag, by decide, by decide, fun H1 r kb hr2 => ⟨rfl, _, rfl, ?_⟩⟩
      refine ite2 (fun c => ?_) (fun c => ?_)
      · exact ⟨kb, 100, rfl, by omega, by omega⟩
      · exact ⟨_, rfl, _, _, rfl, rfl, kb, many + 2, rfl, by omega, by omega⟩
    · obtain ⟨kb1, N, rfl, hN1, hN2⟩ := hx
      refine ⟨_, rfl, .of_le (by omega) (by omega) (by omega) (by omega), fun H2 r s2 n2 e2 => ⟨Nat.zero_le _, fun H3 f s3 n3 e3 => ⟨_, _, rfl, ?_⟩⟩⟩
      rw [rgV_ints] at e2
      have nrf : r ≠ f := ne_of_none e2 n3
      have nr : H r = none := kb1.free n2
      have nf : H f = none := kb1.free (s2.free n3)
      refine ⟨_, rfl, (many : Nat), rfl, by omega, by omega, ?_⟩
      rw [Int.toNat_natCast]
      refine for_range (n := many) (fun i σ H4 => ∃ rs fs y, σ = [some (.ref b), some (.int (many : Nat)), some (.ref r), some (.ref f), y] ∧ Kb b g H H4 ∧ IL H4 r rs ∧ IL H4 f fs ∧ List.Perm (fs ++ rs) (rgI N) ∧ fs.length = i)
        ⟨_, [], none, rfl, kb1.same (s2.trans s3), s3 _ _ e2, e3, List.Perm.refl _, rfl⟩ (fun i σ H4 hi hp => ?_) (fun σ H4 hp => ?_)
      · obtain ⟨rs, fs, y, rfl, kb4, er4, ef4, pm, hfl⟩ := hp
        have hrl : fs.length + rs.length = N := by
          have := pm.length_eq
          rw [List.length_append, rgI_len] at this
          exact this
        refine ⟨_, rfl, .inl ⟨rfl, _, SqL.of ef4⟩, _, rfl, .inl ⟨rfl, _, SqL.of er4⟩, _, rfl, _, rfl, r, _, rfl, .inl (SqL.of er4), b, g, _, rfl, kb4.bag, ?_, ?_, fun H5 k kb5 hk => ?_⟩
        · rw [List.length_map]; omega
        · rw [List.length_map]; omega
        rw [List.length_map] at hk
        have hk' : k < rs.length := by omega
        have ez : rs[k]? = some rs[k] := List.getElem?_eq_getElem hk'
        have er5 : IL H5 r rs := kb5.keep _ _ (kb4.bag.ne_lst er4) (kb4.bag0.neg nr) er4
        have ef5 : IL H5 f fs := kb5.keep _ _ (kb4.bag.ne_lst ef4) (kb4.bag0.neg nf) ef4
        refine ⟨r, _, k, .int rs[k], rfl, rfl, er5, by omega, at_int ez, fun H6 x6 e6 => ?_⟩
        have ef6 : IL H6 f fs := x6 _ _ nrf.symm ef5
        refine ⟨f, _, _, rfl, rfl, ef6, by rw [List.length_map]; exact small1000 (by omega), fun H7 x7 e7 => ?_⟩
        rw [map_erase] at e6
        refine ⟨rs.eraseIdx k, fs ++ [rs[k]], _, rfl, ((kb4.trans kb5).ex nr x6).ex nf x7, x7 _ _ nrf e6, ?_, move_perm pm ez, ?_⟩
        · show H7 f = _
          rw [map_last]
          exact e7
        · rw [List.length_append, hfl]
          rfl
      · obtain ⟨rs, fs, y, rfl, kb4, er4, ef4, pm, hfl⟩ := hp
        refine ⟨_, rfl, f, fs, rfl, SqL.of ef4, by omega, fun ns' pm' H5 p s5 n5 e5 => ?_⟩
        have nd : (fs ++ rs).Nodup := pm.nodup_iff.mpr (range_nodup N)
        exact q H5 p ns' (kb4.same s5) (kb4.free n5) (by rw [pm'.length_eq]; exact hfl) (pm'.nodup_iff.mpr (List.nodup_append.mp nd).1) e5
end
end K16
namespace K16
open PySem L2
theorem paired_leaves {H : Hp} {n : Nat} : ∀ ns : List Int, Paired (TAt H (n + 1)) (ns.map (fun b => (leaf b : Tr (n + 1)))) (ns.map V.int)
  | [] => .nil
  | b :: ns => .cons rfl (paired_leaves ns)
theorem held_leaves {n : Nat} (ns : List Int) : (ns.map (fun b => (leaf b : Tr (n + 1)))).flatMap (held (n + 1)) = ns := by
  rw [List.flatMap_map]
  show ns.flatMap (fun b => [b]) = ns
  rw [List.flatMap_singleton']
theorem wf_leaves {n : Nat} (ns : List Int) : ∀ p ∈ ns.map (fun b => (leaf b : Tr (n + 1))), WF (n + 1) p := fun p hp => by
  obtain ⟨b, _, rfl⟩ := List.mem_map.mp hp
  exact True.intro
theorem paired_map {α β : Type} {F G : α → β → Prop} {xs : List α} {ys : List β} (h : Paired F xs ys) (i : ∀ a b, F a b → G a b) : Paired G xs ys := paired_mono i h
section
variable {P : Program} {w : World} {K : PySem.W.Frag} {mg : Str → Option Value} {base : Heap}
/-! ## tree -/
def spTree : Nat → Sp
  | 0 => fun _ _ _ _ => False
  | d + 1 => fun vs H Q _ => ∃ (b g a : Addr) (ns : List Int), vs = [.ref b, .ref a, .int (d : Nat)] ∧ Bag H b g ∧ a ≠ g ∧ IL H a ns ∧ 1 ≤ ns.length ∧ ns.length ≤ 24 ∧
    ∀ H' (t : Tr (d + 2)) v, Kb b g H H' → TAt H' (d + 2) t v → WF (d + 2) t → held (d + 2) t = ns → Q v H'
theorem int_succ (r : Nat) : (1 + (r : Int)) = ((1 + r : Nat) : Int) := by omega
theorem ok_tree (T : Txt K mg) : ∀ n, FnOk P w K mg base CX0 (n + 2) T.f_l_tree T.d_l_tree ["_law_bag_here", "_law_row", "_law_deep"] (spTree n)
  | 0 => none_of 2 fun vs H Q E h => h
  | n + 1 => by
    have ih := ok_tree T n
    have sc : FnScope ["_law_bag_here", "_law_row", "_law_deep", "_law_many", "_law_rest", "_law_found", "_law_turn", "_law_size"] ["_law_bag_here", "_law_row", "_law_deep"] (defScope s_l_tree) := ⟨rfl, rfl, rfl, by decide +kernel, rfl, by decide +kernel, by decide +kernel⟩
    refine T.D_l_tree.F.ok sc (fun vs H Q E h => ?_) (fun cdv A outer s H vs Q E hr h => ?_)
    · obtain ⟨b, g, a, ns, rfl, _⟩ := h
      rfl
    · obtain ⟨b, g, a, ns, rfl, bag, ng, ha, hl1, hl2, q⟩ := h
      refine ⟨_, pss_cons (ps_if (cl_p (PW.pt (pw_or (pt_cmpR op_eq (pv 2) pe_int (nomark _)) (pw_or1 (PW.pt (pw_and (pt_cmpR op_eq (pe_callB call_len_seq (by rfl) T.n_len (by decide +kernel) (pa_cons (pv 1) pa_nil)) pe_int (nomark _)) (pw_and1 (pt_cmpR op_gt (pe_call (ok_draw T) (hr.mono (by omega)) (by rfl) T.D_l_draw.m T.D_l_draw.F.kp T.D_l_draw.b .nil pass0 (pa_cons (pv 0) (pa_cons pe_int pa_nil))) pe_int (nomark _)))))))))
          (pss_one (ps_ret (pe_ifExp (pt_cmpR op_eq (pe_callB call_len_seq (by rfl) T.n_len (by decide +kernel) (pa_cons (pv 1) pa_nil)) pe_int (nomark _)) (pe_ix (ixl K) (pv 1) pe_int (fun _ _ => rfl))
            (le_tup (pa_cons (pe_op op_add pe_int (pe_call (ok_draw T) (hr.mono (by omega)) (by rfl) T.D_l_draw.m T.D_l_draw.F.kp T.D_l_draw.b .nil pass0 (pa_cons (pv 0) (pa_cons (pe_callB call_len_seq (by rfl) T.n_len (by decide +kernel) (pa_cons (pv 1) pa_nil)) pa_nil)))) (pa_cons (pe_callTy cq_tuple (by rfl) T.n_tuple (by decide +kernel) (pa_cons (pv 1) pa_nil)) pa_nil)))))) pss_nil)
        (pss_cons (ps_par3 (i := 3) (j := 4) (l := 5) (by rfl) sc.nd rfl rfl rfl (by decide) (by decide) (by decide) rfl rfl rfl
          (pa_cons (pe_callB (call_min2 rfl) (by rfl) T.n_min (by decide +kernel) (pa_cons (pe_callB call_len_seq (by rfl) T.n_len (by decide +kernel) (pa_cons (pv 1) pa_nil)) (pa_cons (pe_call (ok_pick T) (hr.mono (by omega)) (by rfl) T.D_l_pick.m T.D_l_pick.F.kp T.D_l_pick.b .nil pass0 (pa_cons (pv 0) (pa_cons (le_lst (pa_cons pe_int (pa_cons pe_int (pa_cons pe_int (pa_cons pe_int (pa_cons pe_int (pa_cons pe_int (pa_cons pe_int pa_nil)))))))) pa_nil))) pa_nil)))
            (pa_cons (pe_callTy cq_list (by rfl) T.n_list (by decide +kernel) (pa_cons (pv 1) pa_nil)) (pa_cons (le_lst pa_nil) pa_nil))) (by rfl))
        (pss_cons (ps_for PassesOwn.never rfl (pi_range1 (by rfl) T.n_range (pa_cons (pv 3) pa_nil)) (pg_name (i := 6) sc.nd rfl (.inl rfl))
          (pss_cons (ps_set (i := 7) sc.nd rfl (.inl rfl) (cl_e (pe_ifExp (pt_cmpR op_eq (pv 6) (pe_op op_sub (pv 3) pe_int) (nomark _)) (pe_callB call_len_seq (by rfl) T.n_len (by decide +kernel) (pa_cons (pv 4) pa_nil))
            (pe_op op_add pe_int (pe_call (ok_draw T) (hr.mono (by omega)) (by rfl) T.D_l_draw.m T.D_l_draw.F.kp T.D_l_draw.b .nil pass0 (pa_cons (pv 0) (pa_cons (pe_op op_add (pe_op op_add (pe_op op_sub (pe_callB call_len_seq (by rfl) T.n_len (by decide +kernel) (pa_cons (pv 4) pa_nil)) (pv 3)) (pv 6)) pe_int) pa_nil)))))))
          (pss_cons (ps_expr (pe_bm PySem.F.plainAttrs_list PySem.F.slot_list_append PySem.F.type_list_append mq_append (pv 5) (pa_cons (pe_call ih hr (by rfl) T.D_l_tree.m T.D_l_tree.F.kp T.D_l_tree.b .nil pass0 (pa_cons (pv 0) (pa_cons (pe_slice sq_list (pv 4) po_none (po_some (pv 7))) (pa_cons (pe_op op_sub (pv 2) pe_int) pa_nil)))) pa_nil)))
          (pss_one (ps_set (i := 4) sc.nd rfl (.inl rfl) (pe_slice sq_list (pv 4) (po_some (pv 7)) po_none))))))
        (pss_one (ps_ret (le_tup (pa_cons (pe_op op_add pe_int (pe_call (ok_draw T) (hr.mono (by omega)) (by rfl) T.D_l_draw.m T.D_l_draw.F.kp T.D_l_draw.b .nil pass0 (pa_cons (pv 0) (pa_cons (pv 3) pa_nil)))) (pa_cons (pe_callTy cq_tuple (by rfl) T.n_tuple (by decide +kernel) (pa_cons (pv 5) pa_nil)) pa_nil))))))), ?_⟩
      have hlen : ((ns.map V.int).length : Int) = (ns.length : Int) := by rw [List.length_map]
      have nab : a ≠ b := bag.ne_lst ha
      refine ⟨fun c H1 => Kb b g H H1 ∧ (c = false → 0 < n), ⟨_, rfl, rfl, _, rfl, ?_⟩, fun c H1 hc => ?_⟩
      · refine ite2 (fun c => ⟨Kb.refl bag, fun z => nomatch z⟩) (fun c => ?_)
        have hn : 0 < n := by
          rcases Nat.eq_zero_or_pos n with e | e
          · exact absurd (by rw [e]; rfl) c
          · exact e
        refine ⟨_, rfl, a, _, rfl, .inl (SqL.of ha), rfl, _, rfl, ?_⟩
        refine ite2 (fun c2 => ?_) (fun c2 => ⟨Kb.refl bag, fun _ => hn⟩)
        exact ⟨_, rfl, b, g, 5, rfl, bag, by decide, by decide, fun H1 r kb hr2 => ⟨_, _, rfl, rfl, _, rfl, kb, fun _ => hn⟩⟩
      · obtain ⟨kb, hn⟩ := hc
        have ha1 : IL H1 a ns := kb.keep _ _ nab ng ha
        cases c with
        | true =>
          refine iteT ⟨_, rfl, a, _, rfl, .inl (SqL.of ha1), rfl, _, rfl, ?_⟩
          refine ite2 (fun c => ?_) (fun c => ?_)
          · have h1 : ns.length = 1 := by
              have := of_decide_eq_true c
              injection this with this
              rw [List.length_map] at this
              omega
            obtain ⟨z, rfl⟩ : ∃ z, ns = [z] := by
              match ns, h1 with
              | [z], _ => exact ⟨z, rfl⟩
            exact ⟨_, rfl, a, _, _, .int z, rfl, rfl, SqL.of ha1, rfl, q H1 (leaf z) _ kb rfl True.intro rfl⟩
          · refine ⟨_, rfl, _, rfl, a, _, rfl, .inl (SqL.of ha1), b, g, _, rfl, kb.bag, by omega, by omega, fun H2 r kb2 hr2 => ⟨_, _, rfl, rfl, _, rfl, a, ns.map V.int, rfl, ?_⟩⟩
            have ha2 : IL H2 a ns := kb2.keep _ _ nab ng ha1
            refine ⟨SqL.of ha2, fun H3 p s3 n3 e3 => ⟨(by show 2 ≤ sizeLine; decide), fun H4 o s4 n4 e4 => ?_⟩⟩
            have e4 : H4 o = some (.tup [.int ((1 + r : Nat) : Int), .ref p]) := by
              rw [← int_succ]
              exact e4
            have kk : Kb b g H H4 := ((kb.trans kb2).same s3).same s4
            refine q H4 (trip (1 + r) (ns.map leaf)) _ kk ⟨o, p, _, rfl, e4, s4 _ _ e3, paired_leaves ns⟩ ⟨Nat.le_add_right 1 r, ?_, wf_leaves ns⟩ (held_leaves ns)
            rw [List.length_map]
            omega
        | false =>
          have hn := hn rfl
          obtain ⟨d, rfl⟩ : ∃ d, n = d + 1 := ⟨n - 1, by omega⟩
          refine iteF ⟨_, rfl, a, _, rfl, .inl (SqL.of ha1), _, rfl, (by show 7 ≤ sizeLine; decide), fun H2 o2 s2 n2 e2 => ?_⟩
          refine ⟨b, g, o2, _, rfl, kb.bag.same s2, (kb.bag.neg n2), e2, (by show 0 < 7; decide), (by show 7 < 1000000; decide), fun H3 x kb3 hx => ?_⟩
          obtain ⟨m0, rfl, hm1, hm5⟩ : ∃ m0 : Nat, x = .int (m0 : Nat) ∧ 1 ≤ m0 ∧ m0 ≤ 5 := by
            simp only [List.mem_cons, List.not_mem_nil, or_false] at hx
            rcases hx with rfl | rfl | rfl | rfl | rfl | rfl | rfl
            · exact ⟨1, rfl, by decide, by decide⟩
            · exact ⟨2, rfl, by decide, by decide⟩
            · exact ⟨2, rfl, by decide, by decide⟩
            · exact ⟨3, rfl, by decide, by decide⟩
            · exact ⟨3, rfl, by decide, by decide⟩
            · exact ⟨4, rfl, by decide, by decide⟩
            · exact ⟨5, rfl, by decide, by decide⟩
          have k3 : Kb b g H H3 := (kb.same s2).trans kb3
          have ha3 : IL H3 a ns := k3.keep _ _ nab ng ha
          refine ⟨_, _, rfl, _, rfl, a, _, rfl, .inl (SqL.of ha3), fun H4 r0 s4 n4 e4 => ⟨Nat.zero_le _, fun H5 f s5 n5 e5 => ⟨_, _, _, rfl, ?_⟩⟩⟩
          have nf : H f = none := k3.free (s4.free n5)
          -- many
          obtain ⟨m, em, hm0, hm1', hm24⟩ : ∃ m : Nat, (if ((m0 : Nat) : Int) < ((ns.map V.int).length : Int) then ((m0 : Nat) : Int) else ((ns.map V.int).length : Int)) = (m : Int) ∧ 1 ≤ m ∧ m ≤ ns.length ∧ m ≤ 5 := by
            rw [List.length_map]
            by_cases c : ((m0 : Nat) : Int) < (ns.length : Int)
            · exact ⟨m0, if_pos c, by omega, by omega, by omega⟩
            · exact ⟨ns.length, if_neg c, by omega, by omega, by omega⟩
          rw [em]
          refine ⟨_, rfl, (m : Nat), rfl, by omega, by omega, ?_⟩
          rw [Int.toNat_natCast]
          have k5 : Kb b g H H5 := k3.same (s4.trans s5)
          refine for_range (n := m) (fun i σ H6 => ∃ (r : Addr) (rs : List Int) (ts : List (Tr (d + 2))) (ws : List V) (y6 y7 : Option V), σ = [some (.ref b), some (.ref a), some (.int ((d + 1 : Nat) : Int)), some (.int (m : Nat)), some (.ref r), some (.ref f), y6, y7] ∧
              Kb b g H H6 ∧ H r = none ∧ r ≠ f ∧ IL H6 r rs ∧ H6 f = some (.lst ws) ∧ Paired (TAt H6 (d + 2)) ts ws ∧ ts.length = i ∧ (∀ t ∈ ts, WF (d + 2) t) ∧ ts.flatMap (held (d + 2)) ++ rs = ns ∧ m ≤ rs.length + i ∧ (i = m → rs = []))
            ⟨r0, ns, [], [], none, none, rfl, k5, k3.free n4, ne_of_none e4 n5, s5 _ _ e4, e5, .nil, rfl, (fun _ h => nomatch h), rfl, by omega, fun e => by omega⟩ (fun i σ H6 hi hp => ?_) (fun σ H6 hp => ?_)
          · obtain ⟨r, rs, ts, ws, y6, y7, rfl, k6, nr, nrf, er, ef, pr, hts, hwf, hcat, hrs, _⟩ := hp
            have hrs24 : rs.length ≤ 24 := by
              have := congrArg List.length hcat
              rw [List.length_append] at this
              omega
            -- size
            refine ⟨fun x H7 => Kb b g H6 H7 ∧ ∃ sz : Nat, x = .int (sz : Nat) ∧ 1 ≤ sz ∧ sz ≤ rs.length ∧ m ≤ rs.length - sz + (i + 1) ∧ (i + 1 = m → sz = rs.length), ⟨_, rfl, _, rfl, _, _, rfl, rfl, rfl, _, rfl, ?_⟩, fun x H7 hx => ?_⟩
            · refine ite2 (fun c => ?_) (fun c => ?_)
              · have hc : i + 1 = m := by
                  have := of_decide_eq_true c
                  injection this with this
                  omega
                refine ⟨_, rfl, r, _, rfl, .inl (SqL.of er), Kb.refl k6.bag, rs.length, by rw [List.length_map], by omega, by omega, by omega, fun _ => rfl⟩
              · have hc : ¬ i + 1 = m := fun e => by
                  apply c
                  refine decide_eq_true (congrArg V.int ?_)
                  show 0 + (i : Int) = (m : Int) - 1
                  omega
                refine ⟨_, rfl, _, rfl, r, _, rfl, .inl (SqL.of er), _, rfl, _, _, rfl, rfl, _, rfl, _, _, rfl, rfl, _, _, rfl, rfl, b, g, _, rfl, k6.bag, ?_, ?_, fun H7 z kb7 hz => ?_⟩
                · rw [List.length_map]
                  omega
                · rw [List.length_map]
                  omega
                · rw [List.length_map] at hz
                  exact ⟨_, _, rfl, rfl, kb7, 1 + z, congrArg V.int (int_succ z), by omega, by omega, by omega, fun e => absurd e hc⟩
            · obtain ⟨kb7, sz, rfl, hs1, hs2, hs3, hs4⟩ := hx
              have er7 : IL H7 r rs := kb7.keep _ _ (k6.bag.ne_lst er) (k6.bag0.neg nr) er
              have ef7 : H7 f = some (.lst ws) := kb7.keep _ _ (k6.bag.ne_lst ef) (k6.bag0.neg nf) ef
              refine ⟨_, rfl, .inl ⟨rfl, _, SqL.of ef7⟩, _, rfl, _, rfl, _, rfl, _, rfl, r, _, rfl, SqL.of er7, fun H8 c s8 n8 e8 => ?_⟩
              rw [cut_to] at e8
              have k7 := k6.trans kb7
              refine ⟨_, rfl, _, _, rfl, rfl, b, g, c, rs.take sz, ?_, k7.bag.same s8, k7.bag.neg n8, e8, ?_, ?_, fun H9 t v kb9 ht hw hh => ?_⟩
              · have : ((d + 1 : Nat) : Int) - 1 = (d : Nat) := by omega
                show [V.ref b, V.ref c, V.int (((d + 1 : Nat) : Int) - 1)] = _
                rw [this]
              · rw [List.length_take]; omega
              · rw [List.length_take]; omega
              · have k9 : Kb b g H H9 := (k7.same s8).trans kb9
                have er9 : IL H9 r rs := kb9.keep _ _ (k6.bag.ne_lst er) (k6.bag0.neg nr) (s8 _ _ er7)
                have ef9 : H9 f = some (.lst ws) := kb9.keep _ _ (k6.bag.ne_lst ef) (k6.bag0.neg nf) (s8 _ _ ef7)
                have hws : ws.length ≤ 1000 := by
                  rw [← paired_len pr]
                  omega
                refine ⟨f, ws, v, rfl, rfl, ef9, small1000 hws, fun H10 x10 e10 => ?_⟩
                have er10 : IL H10 r rs := x10 _ _ nrf er9
                refine ⟨_, rfl, _, rfl, _, rfl, r, _, rfl, SqL.of er10, fun H11 r2 s11 n11 e11 => ?_⟩
                rw [cut_from] at e11
                have k10 : Kb b g H H10 := k9.ex nf x10
                have tk69 : Tk H6 H9 := (kb7.tk.trans (Tk.of s8)).trans kb9.tk
                have tk9 : Tk H9 H11 := (x10.tk ef9).trans (Tk.of s11)
                refine ⟨r2, rs.drop sz, ts ++ [t], ws ++ [v], _, _, rfl, k10.same s11, k10.free n11, ?_, e11, s11 _ _ e10, ?_, ?_, ?_, ?_, ?_, ?_⟩
                · exact (ne_of_none e10 n11).symm
                · exact paired_app (paired_mono (fun _ _ z => z.mono (tk69.trans tk9)) pr) (.cons (ht.mono tk9) .nil)
                · rw [List.length_append, hts]
                  rfl
                · intro t' ht'
                  rcases List.mem_append.mp ht' with z | z
                  · exact hwf t' z
                  · rw [List.mem_singleton.mp z]
                    exact hw
                · rw [List.flatMap_append, List.flatMap_cons, List.flatMap_nil, List.append_nil, hh, List.append_assoc, List.take_append_drop]
                  exact hcat
                · rw [List.length_drop]
                  omega
                · intro e
                  rw [hs4 e, List.drop_length]
          · obtain ⟨r, rs, ts, ws, y6, y7, rfl, k6, nr, nrf, er, ef, pr, hts, hwf, hcat, hrs, hend⟩ := hp
            have := hend rfl
            subst this
            rw [List.append_nil] at hcat
            refine ⟨_, rfl, _, rfl, b, g, _, rfl, k6.bag, by omega, by omega, fun H7 z kb7 hz => ⟨_, _, rfl, rfl, _, rfl, f, ws, rfl, ?_⟩⟩
            have ef7 : H7 f = some (.lst ws) := kb7.keep _ _ (k6.bag.ne_lst ef) (k6.bag0.neg nf) ef
            refine ⟨SqL.of ef7, fun H8 p s8 n8 e8 => ⟨(by show 2 ≤ sizeLine; decide), fun H9 o s9 n9 e9 => ?_⟩⟩
            have e9 : H9 o = some (.tup [.int ((1 + z : Nat) : Int), .ref p]) := by
              rw [← int_succ]
              exact e9
            have tk : Tk H6 H9 := (kb7.tk.trans (Tk.of s8)).trans (Tk.of s9)
            refine q H9 (trip (1 + z) ts) _ (((k6.trans kb7).same s8).same s9) ⟨o, p, ws, rfl, e9, s9 _ _ e8, paired_mono (fun _ _ z => z.mono tk) pr⟩ ⟨Nat.le_add_right 1 z, by omega, hwf⟩ hcat
end
end K16
namespace K16
open PySem L2
/-- a comprehension that keeps each item: each of its items stands in a relation -/
theorem lc_each {J : It} {g : TG} {tt : TT} {te : TE} {vs : List Nat} {σ : St} {H1 : Hp} {Qd : Addr → Hp → Prop} (n : Nat) (R : Nat → V → Hp → Prop) (Itm : Nat → V → Hp → Prop) (hz : n ≤ 1000)
    (mono : ∀ (i : Nat) y H H' D, R i y H → (∀ xs, H D ≠ some (.tup xs)) → Ex D H H' → R i y H')
    (go : ∀ (i : Nat) H, i < n → Same H1 H → J.go i H) (yl : ∀ (i : Nat) H x H', i < n → Same H1 H → J.yld i H x H' → Same H H' ∧ Itm i x H') (st : ∀ H, Same H1 H → J.stop n H)
    (hs : ∀ (i : Nat) (x : V) (H : Hp) (Yes : V → Hp → Prop) (No : Hp → Prop), i < n → Itm i x H → Same H1 H → (∀ y H4, R i y H4 → Same H H4 → Yes y H4) →
      g x (wipe σ vs) H fun σ2 H2 => wipe σ2 vs = wipe σ vs ∧ tt σ2 H2 fun b H3 => if b = true then te σ2 H3 Yes else No H3)
    (hq : ∀ H D acc, Same H1 H → H1 D = none → H D = some (.lst acc) → acc.length = n → (∀ (i : Nat) y, acc[i]? = some y → R i y H) → Qd D H) :
    ∀ D, H1 D = none → ∃ (n : Nat) (Pv : Nat → List V → Hp → Prop),
      (∀ H2, Same H1 H2 → H2 D = some (.lst []) → Pv 0 [] H2) ∧
      (∀ i acc H2, i < n → H2 D = some (.lst acc) → Pv i acc H2 → J.go i H2 ∧ acc.length < sizeLine ∧ ∀ x H3, J.yld i H2 x H3 → g x (wipe σ vs) H3 fun σ2 H4 => wipe σ2 vs = wipe σ vs ∧ tt σ2 H4 fun b H5 =>
        if b = true then te σ2 H5 fun y H6 => H6 D = some (.lst acc) ∧ ∀ H7, Ex D H6 H7 → H7 D = some (.lst (acc ++ [y])) → Pv (i + 1) (acc ++ [y]) H7
        else H5 D = some (.lst acc) ∧ Pv (i + 1) acc H5) ∧
      (∀ acc H2, H2 D = some (.lst acc) → Pv n acc H2 → J.stop n H2 ∧ Qd D H2) := by
  intro D hD
  refine ⟨n, fun i acc H => Same H1 H ∧ acc.length = i ∧ ∀ (j : Nat) y, acc[j]? = some y → R j y H, fun H2 s _ => ⟨s, rfl, fun j y h => by simp at h⟩, fun i acc H2 hi hacc ⟨s, e, hr⟩ => ?_, fun acc H2 hacc ⟨s, e, hr⟩ => ?_⟩
  · refine ⟨go i H2 hi s, ?_, fun x H3 y => ?_⟩
    · rw [e]
      exact small1000 (by omega)
    · obtain ⟨s3, it⟩ := yl i H2 x H3 hi s y
      refine hs i x H3 _ _ hi it (s.trans s3) (fun y' H4 r4 s4 => ?_)
      have hD4 : H4 D = some (.lst acc) := s4 _ _ (s3 _ _ hacc)
      have nt : ∀ {H' : Hp}, H' D = some (.lst acc) → ∀ xs, H' D ≠ some (.tup xs) := fun h xs q => by
        rw [h] at q
        cases q
      refine ⟨hD4, fun H7 x7 e7 => ⟨same_ex ((s.trans s3).trans s4) hD x7, ?_, fun j z hz => ?_⟩⟩
      · rw [List.length_append, e]
        rfl
      · by_cases hj : j < acc.length
        · rw [List.getElem?_append_left hj] at hz
          have r1 := mono j z H2 H4 D (hr j z hz) (nt hacc) (Ex.of (s3.trans s4))
          exact mono j z H4 H7 D r1 (nt hD4) x7
        · rw [List.getElem?_append_right (by omega)] at hz
          have hj' : j - acc.length = 0 := by
            have := (List.getElem?_eq_some_iff.mp hz).1
            rw [List.length_singleton] at this
            omega
          rw [hj'] at hz
          have ez : y' = z := Option.some.inj hz
          subst ez
          have : j = i := by omega
          subst this
          exact mono j y' H4 H7 D r4 (nt hD4) x7
  · exact ⟨st H2 s, hq H2 D acc s hD hacc e hr⟩
theorem tyes {σ : St} {H : Hp} {A B : Hp → Prop} (h : A H) : tYes σ H (fun b H3 => if b = true then A H3 else B H3) := by
  show if true = true then A H else B H
  exact iteT h
theorem paired_of_at {α β : Type} {F : α → β → Prop} : ∀ {xs : List α} {ys : List β}, xs.length = ys.length → (∀ (i : Nat) x y, xs[i]? = some x → ys[i]? = some y → F x y) → Paired F xs ys
  | [], [], _, _ => .nil
  | [], _ :: _, h, _ => by simp at h
  | _ :: _, [], h, _ => by simp at h
  | x :: xs, y :: ys, h, f => .cons (f 0 x y rfl rfl) (paired_of_at (by simpa using h) fun i a b h1 h2 => f (i + 1) a b (by simpa using h1) (by simpa using h2))
theorem paired_get {α β : Type} {F : α → β → Prop} {xs : List α} {ys : List β} (h : Paired F xs ys) {i : Nat} {x : α} {y : β} (h1 : xs[i]? = some x) (h2 : ys[i]? = some y) : F x y := by
  obtain ⟨x', e, f⟩ := paired_at h h2
  rw [h1] at e
  cases e
  exact f
section
variable {P : Program} {w : World} {K : PySem.W.Frag} {mg : Str → Option Value} {base : Heap}
/-! ## held -/
theorem ok_held (T : Txt K mg) : ∀ n, FnOk P w K mg base CX0 (n + 1) T.f_l_held T.d_l_held ["_law_tree_here"] (spBio n)
  | 0 => none_of 1 fun vs H Q E h => by
    obtain ⟨t, _⟩ := h
    exact Empty.elim t
  | n + 1 => by
    have ih := ok_held T n
    have sc : FnScope ["_law_tree_here", "_law_found", "_law_part"] ["_law_tree_here"] (defScope s_l_held) := ⟨rfl, rfl, rfl, by decide +kernel, rfl, by decide +kernel, by decide +kernel⟩
    refine T.D_l_held.F.ok sc (fun vs H Q E h => ?_) (fun cdv A outer s H vs Q E hr h => ?_)
    · obtain ⟨t, v, rfl, _⟩ := h
      rfl
    · obtain ⟨t, v, rfl, ht, hl, q⟩ := h
      refine ⟨_, pss_cons (ps_if (pt_val (pe_callB call_isi (by rfl) T.n_isinstance (by decide +kernel) (pa_cons (pv 0) (pa_cons (pe_bltn (v := .ty "int") (by rfl) T.n_int (by decide +kernel) rfl) pa_nil)))) (pss_one (ps_ret (le_lst (pa_cons (pv 0) pa_nil)))) pss_nil)
        (pss_cons (ps_set (i := 1) sc.nd rfl (.inl rfl) (le_lst pa_nil))
        (pss_cons (ps_for PassesOwn.never rfl (pi_tup (pe_ix (ixt K) (pv 0) pe_int (fun _ _ => rfl))) (pg_name (i := 2) sc.nd rfl (.inl rfl)) (pss_one (ps_set (i := 1) sc.nd rfl (.inl rfl) (pe_op oq_cat (pv 1) (pe_call ih hr (by rfl) T.D_l_held.m T.D_l_held.F.kp T.D_l_held.b .nil pass0 (pa_cons (pv 2) pa_nil))))))
        (pss_one (ps_ret (pv 1))))), ?_⟩
      obtain ⟨ty, tx, k1, k2⟩ := isi_tree (K := K) ht
      refine ⟨v, rfl, _, _, ty, _, _, rfl, .ty _, tx, k2, _, rfl, ?_⟩
      clear tx k1 k2
      revert ht hl q
      refine tr_cases (M := fun t => TAt H (n + 1) t v → (held (n + 1) t).length ≤ 1000 → (∀ H' p, Same H H' → H p = none → IL H' p (held (n + 1) t) → Q (.ref p) H') → if (!isT t) = true then _ else _) (fun b ht hl q => ?_) (fun k ps ht hl q => ?_) t
      · refine iteT ?_
        obtain rfl := TAt_leaf.mp ht
        exact ⟨_, rfl, small (by show 1 ≤ 1000; omega), fun H1 p s1 n1 e1 => q H1 p s1 n1 e1⟩
      · refine iteF ?_
        obtain ⟨a, p, vs, rfl, h1, h2, h3⟩ := TAt_trip.mp ht
        refine ⟨Nat.zero_le _, fun H1 o s1 n1 e1 => ?_⟩
        refine ⟨.ref a, rfl, a, _, 1, .ref p, rfl, rfl, SqT.of (s1 _ _ h1), rfl, p, rfl, ⟨vs, SqT.of (s1 _ _ h2)⟩,
          for_tup (xs := vs) (fun i σ H2 => ∃ o y, σ = [some (.ref a), some (.ref o), y] ∧ Same H H2 ∧ H o = none ∧ IL H2 o ((ps.take i).flatMap (held n))) ⟨o, none, rfl, s1, n1, e1⟩
            (fun i σ H2 _ hp => ?_) (fun i x σ H2 hx hp => ?_) (fun σ H2 hp => ?_)⟩
        · obtain ⟨o, y, _, sm, _, _⟩ := hp
          exact SqT.of (sm _ _ h2)
        · obtain ⟨o, y, rfl, sm, no, eo⟩ := hp
          obtain ⟨t', ht', hx'⟩ := paired_at h3 hx
          refine ⟨.ref o, rfl, x, rfl, t', x, rfl, hx'.mono (Tk.of sm), Nat.le_trans (part_len ht') hl, fun H3 r s3 n3 e3 => ?_⟩
          refine ⟨o, r, _, _, rfl, rfl, s3 _ _ eo, e3, ?_, fun H4 o4 s4 n4 e4 => ?_⟩
          · rw [← List.length_append, ← List.map_append, List.length_map, ← take_snoc ht']
            exact small (Nat.le_trans (take_len ps _) hl)
          · refine ⟨o4, _, rfl, (sm.trans s3).trans s4, (sm.trans s3).free n4, ?_⟩
            show H4 o4 = _
            rw [take_snoc ht', List.map_append]
            exact e4
        · obtain ⟨o, y, rfl, sm, no, eo⟩ := hp
          rw [← paired_len h3, List.take_length] at eo
          exact ⟨.ref o, rfl, q H2 o sm no eo⟩
/-! ## every -/
def spEvery : Sp := fun vs H Q _ => ∃ (a : Addr) (ns : List Int), vs = [.ref a] ∧ IL H a ns ∧ ns.length ≤ 7 ∧ ∀ H' p ws, Same H H' → H p = none → H' p = some (.lst ws) → Paired (LotAt H') (ev ns) ws → Q (.ref p) H'
theorem pow7 {n : Nat} (h : n ≤ 7) : 2 ^ n ≤ 128 := by
  have : 2 ^ n ≤ 2 ^ 7 := Nat.pow_le_pow_right (by decide) h
  simpa using this
theorem ev_take {ns : List Int} {i : Nat} {z : Int} (h : ns[i]? = some z) : ev (ns.take (i + 1)) = ev (ns.take i) ++ (ev (ns.take i)).map (· ++ [z]) := by
  rw [List.take_add_one, h]
  exact ev_snoc _ _
theorem ok_every (T : Txt K mg) : FnOk P w K mg base CX0 1 T.f_l_every T.d_l_every ["_law_row"] spEvery := by
  have sc : FnScope ["_law_row", "_law_found", "_law_button", "_law_some"] ["_law_row"] (defScope s_l_every) := ⟨rfl, rfl, rfl, by decide +kernel, rfl, by decide +kernel, by decide +kernel⟩
  refine T.D_l_every.F.ok sc (fun vs H Q E h => ?_) (fun cdv A outer s H vs Q E hr h => ?_)
  · obtain ⟨a, ns, rfl, _⟩ := h
    rfl
  · obtain ⟨a, ns, rfl, ha, hl, q⟩ := h
    refine ⟨_, pss_cons (ps_set (i := 1) sc.nd rfl (.inl rfl) (le_lst (pa_cons (le_tup pa_nil) pa_nil)))
      (pss_cons (ps_for PassesOwn.never rfl (pi_list (pv 0)) (pg_name (i := 2) sc.nd rfl (.inr rfl))
        (pss_one (ps_set (i := 1) sc.nd rfl (.inl rfl) (pe_op oq_cat (pv 1) (le_lc (own := [("_law_some", 3)]) (g := gName 3) (by rfl) sc.nd (pi_list (pv 1)) (blkOk_by (own := [("_law_some", 3)]) (N := ["_law_row", "_law_found", "_law_button", "_law_some"]) (sc := defScope s_l_every) (by decide +kernel)) (fun _ _ _ _ _ => pg_name (i := 3) sc.nd rfl (Or.inl rfl)) (fun _ _ _ _ _ => pts_nil) (fun _ _ _ _ _ =>  pe_op oq_catT (pv 3) (le_tup (pa_cons (pv 2) pa_nil))))))))
      (pss_one (ps_ret (pv 1)))), ?_⟩
    refine ⟨Nat.zero_le _, fun H1 o1 s1 n1 e1 => ⟨(by show 1 ≤ sizeLine; decide), fun H2 f0 s2 n2 e2 => ?_⟩⟩
    refine ⟨_, rfl, a, rfl, ⟨_, SqL.of (s2 _ _ (s1 _ _ ha))⟩, for_list (xs := ns.map V.int) (fun i σ H3 => ∃ f ws y, σ = [some (.ref a), some (.ref f), y, none] ∧ Same H H3 ∧ H f = none ∧ H3 f = some (.lst ws) ∧ Paired (LotAt H3) (ev (ns.take i)) ws)
      ⟨f0, [.ref o1], none, rfl, s1.trans s2, s1.free n2, e2, .cons ⟨o1, rfl, s2 _ _ e1⟩ .nil⟩ (fun i σ H3 _ hp => ?_) (fun i x σ H3 hx hp => ?_) (fun σ H3 hp => ?_)⟩
    · obtain ⟨f, ws, y, _, sm, _⟩ := hp
      exact SqL.of (sm _ _ ha)
    · obtain ⟨f, ws, y, rfl, sm, nf, ef, pr⟩ := hp
      obtain ⟨z, hz, rfl⟩ := int_at hx
      have hi : i < ns.length := (List.getElem?_eq_some_iff.mp hz).1
      have hwl : ws.length ≤ 128 := by
        rw [← paired_len pr, ev_length]
        exact pow7 (by rw [List.length_take]; omega)
      refine ⟨_, rfl, _, rfl, f, rfl, ⟨_, SqL.of ef⟩, lc_each ws.length (fun j y' H' => ∃ l, (ev (ns.take i))[j]? = some l ∧ LotAt H' (l ++ [z]) y') (fun j x H' => ws[j]? = some x) (by omega)
        (fun j y' Ha Hb D hr hd hx => ?_) (fun j H' hj s' => ⟨ws, ws[j], SqL.of (s' _ _ ef), List.getElem?_eq_getElem hj⟩) (fun j H' x H'' hj s' y' => ?_) (fun H' s' => ⟨ws, SqL.of (s' _ _ ef), Nat.le_refl _⟩) (fun j x H' Yes No hj hx s' yes => ?_) (fun H' D acc s' nD eD hacc hr => ?_)⟩
      · obtain ⟨l, hl, t, rfl, ht⟩ := hr
        refine ⟨l, hl, t, rfl, hx _ _ (fun e => hd _ (e ▸ ht)) ht⟩
      · obtain ⟨rfl, y'⟩ := y'
        exact ⟨Same.refl _, y' ws (SqL.of (s' _ _ ef))⟩
      · obtain ⟨l, hl, t, rfl, ht⟩ := paired_at pr hx
        have hll : l.length ≤ 7 := by
          have h1 := ev_get (ns.take i) j (by rw [← ev_length]; exact (List.getElem?_eq_some_iff.mp hl).1)
          rw [hl] at h1
          rw [Option.some.inj h1]
          have := List.length_filterMap_le (fun p : Int × Nat => if j.testBit p.2 then some p.1 else none) ((ns.take i).zipIdx)
          rw [List.length_zipIdx, List.length_take] at this
          unfold bits
          omega
        refine ⟨rfl, tyes ⟨_, rfl, _, rfl, (by show 1 ≤ sizeLine; decide), fun H4 b4 s4 n4 e4 => ?_⟩⟩
        refine ⟨t, b4, _, _, rfl, rfl, s4 _ _ (s' _ _ ht), e4, by simp, ?_, fun H5 p5 s5 e5 => ?_⟩
        · rw [List.length_map]
          exact small (by show l.length + 1 ≤ 1000; omega)
        · refine yes _ H5 ⟨l, hl, p5, rfl, ?_⟩ (s4.trans s5)
          show H5 p5 = _
          rw [map_last]
          exact e5
      · refine ⟨f, D, ws, acc, rfl, rfl, s' _ _ ef, eD, small (by omega), fun H4 f4 s4 n4 e4 => ?_⟩
        refine ⟨f4, _, _, rfl, (sm.trans s').trans s4, (sm.trans s').free n4, e4, ?_⟩
        rw [ev_take hz]
        refine paired_app (paired_mono (fun _ _ q => q.mono (Tk.of (s'.trans s4))) pr) (paired_of_at (by rw [List.length_map, hacc, ← paired_len pr]) fun j l y' h1 h2 => ?_)
        obtain ⟨l0, hl0, hla⟩ := hr j y' h2
        rw [List.getElem?_map, hl0] at h1
        rw [← Option.some.inj h1]
        exact hla.mono (Tk.of s4)
    · obtain ⟨f, ws, y, rfl, sm, nf, ef, pr⟩ := hp
      rw [List.length_map, List.take_length] at pr
      exact ⟨_, rfl, q H3 f ws sm nf ef pr⟩
end
end K16
namespace K16
open PySem L2
/-- over a list whose items stand for others -/
theorem fm_map {α : Type} {xs : List V} {ls : List α} {F : α → V → Prop} (h : Paired F ls xs) {f : V → Option V} {r : α → V} (hf : ∀ a v, F a v → f v = some (r a)) : xs.filterMap f = ls.map r := by
  induction h with
  | nil => rfl
  | cons h1 _ ih => rw [List.filterMap_cons, hf _ _ h1, List.map_cons, ih]
theorem fm_range {n : Nat} {f : Nat → Option V} {r : Nat → V} (h : ∀ i, i < n → f i = some (r i)) : (List.range n).filterMap f = (List.range n).map r := by
  have : ∀ l : List Nat, (∀ i ∈ l, i < n) → l.filterMap f = l.map r := fun l => by
    induction l with
    | nil => exact fun _ => rfl
    | cons a l ih => exact fun hl => by rw [List.filterMap_cons, h a (hl a List.mem_cons_self), List.map_cons, ih fun i hi => hl i (List.mem_cons_of_mem _ hi)]
  exact this _ fun i hi => List.mem_range.mp hi
theorem range_map_get {α β : Type} (l : List α) (r : α → β) (g : Nat → β) (h : ∀ i x, l[i]? = some x → g i = r x) : (List.range l.length).map g = l.map r := by
  refine List.ext_getElem? fun i => ?_
  by_cases hi : i < l.length
  · rw [List.getElem?_map, List.getElem?_range hi, List.getElem?_map, List.getElem?_eq_getElem hi]
    exact congrArg some (h i _ (List.getElem?_eq_getElem hi))
  · rw [List.getElem?_eq_none (by rw [List.length_map, List.length_range]; omega), List.getElem?_eq_none (by rw [List.length_map]; omega)]
def cnt (n : Nat) (ps : List (Tr n)) (l : List Int) : Nat := ps.countP (fun p => goes n p (mem l))
theorem cnt_snoc {n : Nat} {ps : List (Tr n)} {i : Nat} {p : Tr n} (h : ps[i]? = some p) (l : List Int) : cnt n (ps.take (i + 1)) l = cnt n (ps.take i) l + (if goes n p (mem l) = true then 1 else 0) := by
  unfold cnt
  rw [List.take_add_one, h, List.countP_append]
  congr 1
  exact List.countP_singleton
section
variable {P : Program} {w : World} {K : PySem.W.Frag} {mg : Str → Option Value} {base : Heap}
/-! ## words -/
def spWords (n : Nat) : Sp := fun vs H Q _ => ∃ (t : Tr n) (v : V) (a : Addr) (ls : List (List Int)) (ws : List V), vs = [v, .ref a] ∧ TAt H n t v ∧ H a = some (.lst ws) ∧ Paired (LotAt H) ls ws ∧ ls.length ≤ 128 ∧
  ∀ H' p, Same H H' → H p = none → H' p = some (.lst (ls.map (fun l => V.bl (goes n t (mem l))))) → Q (.ref p) H'
theorem ok_words (T : Txt K mg) : ∀ n, FnOk P w K mg base CX0 (n + 1) T.f_l_words T.d_l_words ["_law_tree_here", "_law_every_here"] (spWords n)
  | 0 => none_of 1 fun vs H Q E h => by
    obtain ⟨t, _⟩ := h
    exact Empty.elim t
  | n + 1 => by
    have ih := ok_words T n
    have sc : FnScope ["_law_tree_here", "_law_every_here", "_law_total", "_law_part", "_law_some", "_law_much", "_law_word"] ["_law_tree_here", "_law_every_here"] (defScope s_l_words) := ⟨rfl, rfl, rfl, by decide +kernel, rfl, by decide +kernel, by decide +kernel⟩
    refine T.D_l_words.F.ok sc (fun vs H Q E h => ?_) (fun cdv A outer s H vs Q E hr h => ?_)
    · obtain ⟨t, v, a, ls, ws, rfl, _⟩ := h
      rfl
    · obtain ⟨t, v, a, ls, ws, rfl, ht, ha, pr, hl, q⟩ := h
      refine ⟨_, pss_cons (ps_if (pt_val (pe_callB call_isi (by rfl) T.n_isinstance (by decide +kernel) (pa_cons (pv 0) (pa_cons (pe_bltn (v := .ty "int") (by rfl) T.n_int (by decide +kernel) rfl) pa_nil)))) (pss_one (ps_ret (le_lc (own := [("_law_some", 4)]) (g := gName 4) (by rfl) sc.nd (pi_list (pv 1)) (blkOk_by (own := [("_law_some", 4)]) (N := ["_law_tree_here", "_law_every_here", "_law_total", "_law_part", "_law_some", "_law_much", "_law_word"]) (sc := defScope s_l_words) (by decide +kernel)) (fun _ _ _ _ _ => pg_name (i := 4) sc.nd rfl (Or.inl rfl)) (fun _ _ _ _ _ => pts_nil) (fun _ _ _ _ _ =>  pe_cmpR (oin K) (pv 0) (pv 4) (by rfl))))) pss_nil)
        (pss_cons (ps_set (i := 2) sc.nd rfl (.inl rfl) (pe_op oq_rep (le_lst (pa_cons pe_int pa_nil)) (pe_callB call_len_seq (by rfl) T.n_len (by decide +kernel) (pa_cons (pv 1) pa_nil))))
        (pss_cons (ps_for PassesOwn.never rfl (pi_tup (pe_ix (ixt K) (pv 0) pe_int (fun _ _ => rfl))) (pg_name (i := 3) sc.nd rfl (.inl rfl))
          (pss_one (le_setLc (i := 2) (own := [("_law_much", 5), ("_law_word", 6)]) (g := gTup K 2 (gCons (gName 5) (gCons (gName 6) gNil))) (by rfl) sc.nd rfl rfl (sw_true rfl rfl rfl (by decide +kernel))
            (pi_zip (by rfl) T.n_zip (pa_cons (pv 2) (pa_cons (pe_call ih hr (by rfl) T.D_l_words.m T.D_l_words.F.kp T.D_l_words.b .nil pass0 (pa_cons (pv 3) (pa_cons (pv 1) pa_nil))) pa_nil)))
            (blkOk_by (own := [("_law_much", 5), ("_law_word", 6)]) (N := ["_law_tree_here", "_law_every_here", "_law_total", "_law_part", "_law_some", "_law_much", "_law_word"]) (sc := defScope s_l_words) (by decide +kernel))
            (fun _ _ _ _ _ => pg_tup rfl (pgs_cons (pg_name (i := 5) sc.nd rfl (Or.inl rfl)) (pgs_cons (pg_name (i := 6) sc.nd rfl (Or.inl rfl)) pgs_nil))) (fun _ _ _ _ _ => pts_nil) (fun _ _ _ _ _ =>  pe_op op_add (pv 5) (pe_callTy call_int1 (by rfl) T.n_int (by decide +kernel) (pa_cons (pv 6) pa_nil))))))
        (pss_one (ps_ret (le_lc (own := [("_law_much", 5)]) (g := gName 5) (by rfl) sc.nd (pi_list (pv 2)) (blkOk_by (own := [("_law_much", 5)]) (N := ["_law_tree_here", "_law_every_here", "_law_total", "_law_part", "_law_some", "_law_much", "_law_word"]) (sc := defScope s_l_words) (by decide +kernel)) (fun _ _ _ _ _ => pg_name (i := 5) sc.nd rfl (Or.inl rfl)) (fun _ _ _ _ _ => pts_nil) (fun _ _ _ _ _ =>  pe_cmpR op_ge (pv 5) (pe_ix (ixt K) (pv 0) pe_int (fun _ _ => rfl)) (nomark _))))))), ?_⟩
      have hwl : ws.length ≤ 128 := by
        rw [← paired_len pr]
        exact hl
      obtain ⟨ty, tx, k1, k2⟩ := isi_tree (K := K) ht
      refine ⟨v, rfl, _, _, ty, _, _, rfl, .ty _, tx, k2, _, rfl, ?_⟩
      clear tx k1 k2
      revert ht q
      refine tr_cases (M := fun t => TAt H (n + 1) t v → (∀ H' p, Same H H' → H p = none → H' p = some (.lst (ls.map (fun l => V.bl (goes (n + 1) t (mem l))))) → Q (.ref p) H') → if (!isT t) = true then _ else _) (fun b ht q => ?_) (fun k ps ht q => ?_) t
      · refine iteT ?_
        obtain rfl := TAt_leaf.mp ht
        refine ⟨_, rfl, a, rfl, ⟨_, SqL.of ha⟩, lc_fun ws.length (fun i => (ls[i]?).map (fun l => V.bl (decide (b ∈ l)))) (fun i x H' => ws[i]? = some x) (by omega) (fun i H' hi s' => ⟨ws, ws[i], SqL.of (s' _ _ ha), List.getElem?_eq_getElem hi⟩)
          (fun i H' x H'' hi s' y => ?_) (fun H' s' => ⟨ws, SqL.of (s' _ _ ha), Nat.le_refl _⟩) (fun i x H' Yes No hi hx s' yes no => ?_) (fun H' D s' nD eD => ?_)⟩
        · obtain ⟨rfl, y⟩ := y
          exact ⟨Same.refl _, y ws (SqL.of (s' _ _ ha))⟩
        · obtain ⟨l, hl, t, rfl, ht⟩ := paired_at pr hx
          refine ⟨rfl, tyes ⟨.int b, rfl, _, rfl, t, _, rfl, .inr (SqT.of (s' _ _ ht)), rfl, flat_ints l, yes _ _ ?_ (Same.refl _)⟩⟩
          show (ls[i]?).map (fun l => V.bl (decide (b ∈ l))) = some (V.bl (inV (.int b) (l.map V.int)))
          rw [hl, in_ints]
          rfl
        · refine q H' D s' nD ?_
          rw [eD, fm_range (r := fun i => V.bl (decide (b ∈ (ls[i]?).getD []))) (fun i hi => ?_), ← paired_len pr, range_map_get ls (fun l => V.bl (goes (n + 1) (leaf b) (mem l)))]
          · intro i l h
            rw [h]
            rfl
          · have hi' : i < ls.length := by rw [paired_len pr]; exact hi
            rw [List.getElem?_eq_getElem hi']
            rfl
      · refine iteF ?_
        obtain ⟨a0, p, vs, rfl, h1, h2, h3⟩ := TAt_trip.mp ht
        refine ⟨(by show 1 ≤ sizeLine; decide), fun H1 o1 s1 n1 e1 => ⟨_, rfl, a, ws, rfl, .inl (SqL.of (s1 _ _ ha)), o1, _, _, rfl, rfl, e1, by omega, by omega, ?_, fun H2 o2 s2 n2 e2 => ?_⟩⟩
        · have z := small1000 (n := 1 * ((ws.length : Nat) : Int).toNat) (by omega)
          exact Nat.le_of_lt z
        have e0 : H2 o2 = some (.lst (ls.map (fun l => V.int (cnt n (ps.take 0) l : Nat)))) := by
          rw [e2, Int.toNat_natCast, ← paired_len pr]
          refine congrArg (fun z => some (HO.lst z)) ?_
          clear e2 pr hl hwl q
          induction ls with
          | nil => rfl
          | cons l ls ih =>
            rw [List.length_cons, List.replicate_succ, List.flatten_cons, ih, List.map_cons]
            rfl
        refine ⟨_, rfl, a0, _, 1, .ref p, rfl, rfl, SqT.of (s2 _ _ (s1 _ _ h1)), rfl, p, rfl, ⟨vs, SqT.of (s2 _ _ (s1 _ _ h2))⟩,
          for_tup (xs := vs) (fun i σ H3 => ∃ o y, σ = [some (.ref a0), some (.ref a), some (.ref o), y, none, none, none] ∧ Same H H3 ∧ H o = none ∧ H3 o = some (.lst (ls.map (fun l => V.int (cnt n (ps.take i) l : Nat)))))
            ⟨o2, none, rfl, s1.trans s2, s1.free n2, e0⟩ (fun i σ H3 _ hp => ?_) (fun i x σ H3 hx hp => ?_) (fun σ H3 hp => ?_)⟩
        · obtain ⟨o, y, _, sm, _, _⟩ := hp
          exact SqT.of (sm _ _ h2)
        · obtain ⟨o, y, rfl, sm, no, eo⟩ := hp
          obtain ⟨t', ht', hx'⟩ := paired_at h3 hx
          refine ⟨_, rfl, _, rfl, _, rfl, t', x, a, ls, ws, rfl, hx'.mono (Tk.of sm), sm _ _ ha, paired_mono (fun _ _ z => z.mono (Tk.of sm)) pr, hl, fun H4 o4 s4 n4 e4 => ?_⟩
          have eo4 := s4 _ _ eo
          refine ⟨o, o4, _, _, rfl, SqL.of eo4, SqL.of e4, lc_fun ls.length (fun i' => (ls[i']?).map (fun l => V.int (cnt n (ps.take (i + 1)) l : Nat)))
            (fun i' x' H' => ∃ (T : Addr) (l : List Int), x' = .ref T ∧ ls[i']? = some l ∧ H' T = some (.tup [.int (cnt n (ps.take i) l : Nat), .bl (goes n t' (mem l))])) (by omega) (fun i' H' hi s' => ?_)
            (fun i' H' x' H'' hi s' y => ?_) (fun H' s' => ⟨_, _, SqL.of (s' _ _ eo4), SqL.of (s' _ _ e4), .inl (by rw [List.length_map]; exact Nat.le_refl _)⟩) (fun i' x' H' Yes No hi hx' s' yes no => ?_) (fun H' D s' nD eD => ?_)⟩
          · refine ⟨_, _, .int (cnt n (ps.take i) ls[i'] : Nat), .bl (goes n t' (mem ls[i'])), SqL.of (s' _ _ eo4), SqL.of (s' _ _ e4), ?_, ?_⟩
            · rw [List.getElem?_map, List.getElem?_eq_getElem hi]
              rfl
            · rw [List.getElem?_map, List.getElem?_eq_getElem hi]
              rfl
          · obtain ⟨T, x1, x2, rfl, nT, rfl, f1, f2⟩ := y
            refine ⟨same_new nT, T, ls[i'], rfl, List.getElem?_eq_getElem hi, ?_⟩
            have g1 := f1 _ (SqL.of (s' _ _ eo4))
            have g2 := f2 _ (SqL.of (s' _ _ e4))
            rw [List.getElem?_map, List.getElem?_eq_getElem hi] at g1 g2
            rw [upd_same, ← Option.some.inj g1, ← Option.some.inj g2]
          · obtain ⟨T, l, rfl, hli, hT⟩ := hx'
            refine ⟨T, _, rfl, SqT.of hT, rfl, _, _, rfl, _, _, rfl, rfl, rfl, tyes ⟨_, rfl, _, rfl, .inr ⟨_, rfl, _, _, rfl, rfl, yes _ _ ?_ (Same.refl _)⟩⟩⟩
            rw [hli]
            show some (V.int (cnt n (ps.take (i + 1)) l : Nat)) = some (V.int ((cnt n (ps.take i) l : Nat) + (if goes n t' (mem l) = true then 1 else 0)))
            rw [cnt_snoc ht']
            cases goes n t' (mem l) <;> rfl
          · refine ⟨D, _, rfl, (sm.trans s4).trans s', (sm.trans s4).free nD, ?_⟩
            rw [eD, fm_range (r := fun i' => V.int (cnt n (ps.take (i + 1)) ((ls[i']?).getD []) : Nat)) (fun i' hi => ?_), range_map_get ls (fun l => V.int (cnt n (ps.take (i + 1)) l : Nat))]
            · intro i' l h
              rw [h]
              rfl
            · rw [List.getElem?_eq_getElem hi]
              rfl
        · obtain ⟨o, y, rfl, sm, no, eo⟩ := hp
          rw [← paired_len h3, List.take_length] at eo
          refine ⟨_, rfl, o, rfl, ⟨_, SqL.of eo⟩, lc_funL (fun x => match x with | .int z => some (.bl (decide ((k : Int) ≤ z))) | _ => none) (SqL.of eo) (by rw [List.length_map]; omega) (fun i x H' Yes No hx s' yes no => ?_) (fun H' D s' nD eD => ?_)⟩
          · rw [List.getElem?_map] at hx
            cases hli : ls[i]? with
            | none => rw [hli] at hx; cases hx
            | some l =>
              rw [hli] at hx
              obtain rfl := (Option.some.inj hx).symm
              exact ⟨rfl, tyes ⟨_, rfl, _, rfl, a0, _, 0, .int (k : Nat), rfl, rfl, SqT.of (s' _ _ (sm _ _ h1)), rfl, _, _, rfl, rfl, yes _ _ rfl (Same.refl _)⟩⟩
          · refine q H' D (sm.trans s') (sm.free nD) ?_
            rw [eD, List.filterMap_map]
            refine congrArg (fun z => some (HO.lst z)) ?_
            clear eD eo e0 e2 pr hl hwl q
            induction ls with
            | nil => rfl
            | cons l ls ih =>
              rw [List.filterMap_cons, List.map_cons, ← ih]
              show V.bl (decide ((k : Int) ≤ ((cnt n ps l : Nat) : Int))) :: _ = V.bl (goes (n + 1) (trip k ps) (mem l)) :: _
              rw [goes_trip]
              congr 2
              exact decide_eq_decide.mpr Int.ofNat_le
end
end K16
namespace K16
open PySem L2
/-- a for over anything, n turns -/
theorem for_it {J : It} {g : TG} {tb : TS} {D : Ends} {σ : L2.St} {H : Hp} (n : Nat) (Pv : Nat → L2.St → Hp → Prop) (h0 : Pv 0 σ H) (go : ∀ (i : Nat) σ H, i < n → Pv i σ H → J.go i H) (st : ∀ σ H, Pv n σ H → J.stop n H)
    (hs : ∀ (i : Nat) σ H x H', i < n → Pv i σ H → J.yld i H x H' → g x σ H' fun σ2 H2 => tb { D with nx := Pv (i + 1), ct := Pv (i + 1), bk := D.nx } σ2 H2) (hd : ∀ σ H, Pv n σ H → D.nx σ H) :
    ∃ W : Nat → Nat → L2.St → Hp → Prop, (∃ m, W 0 m σ H) ∧ ∀ i m σ H, W i m σ H →
      (J.stop i H ∧ D.nx σ H) ∨ (J.go i H ∧ ∃ N : L2.St → Hp → Prop, (∀ σ' H', N σ' H' → ∃ m', m' < m ∧ W (i + 1) m' σ' H') ∧ ∀ x H', J.yld i H x H' → g x σ H' fun σ2 H2 => tb { D with nx := N, ct := N, bk := D.nx } σ2 H2) := by
  refine ⟨fun i m σ H => m = n - i ∧ i ≤ n ∧ Pv i σ H, ⟨n, by simp, Nat.zero_le _, h0⟩, ?_⟩
  rintro i m σ H ⟨rfl, hi, p⟩
  by_cases hlt : i < n
  · exact .inr ⟨go i σ H hlt p, Pv (i + 1), fun σ' H' p' => ⟨n - (i + 1), by omega, rfl, hlt, p'⟩, fun x H' y => hs i σ H x H' hlt p y⟩
  · have e : i = n := by omega
    subst e
    exact .inl ⟨st σ H p, hd σ H p⟩
section
variable {P : Program} {w : World} {K : PySem.W.Frag} {mg : Str → Option Value} {base : Heap}
/-! ## powers -/
def pws (n : Nat) : List Int := (List.range n).map (fun j => ((2 ^ j : Nat) : Int))
theorem pws_len (n : Nat) : (pws n).length = n := by unfold pws; rw [List.length_map, List.length_range]
theorem pws_at {n j : Nat} (h : j < n) : (pws n)[j]? = some ((2 ^ j : Nat) : Int) := by
  unfold pws
  rw [List.getElem?_map, List.getElem?_range h]
  rfl
theorem pws_succ (n : Nat) : pws (n + 1) = pws n ++ [((2 ^ n : Nat) : Int)] := by
  unfold pws
  rw [List.range_succ, List.map_append]
  rfl
def spPowers : Sp := fun vs H Q _ => ∃ (a : Addr) (ns : List Int), vs = [.ref a] ∧ IL H a ns ∧ 1 ≤ ns.length ∧ ns.length ≤ 7 ∧ ∀ H' p, Same H H' → H p = none → IL H' p (pws ns.length) → Q (.ref p) H'
theorem ok_powers (T : Txt K mg) : FnOk P w K mg base CX0 1 T.f_l_powers T.d_l_powers ["_law_row"] spPowers := by
  have sc : FnScope ["_law_row", "_law_found", "_law_button"] ["_law_row"] (defScope s_l_powers) := ⟨rfl, rfl, rfl, by decide +kernel, rfl, by decide +kernel, by decide +kernel⟩
  refine T.D_l_powers.F.ok sc (fun vs H Q E h => ?_) (fun cdv A outer s H vs Q E hr h => ?_)
  · obtain ⟨a, ns, rfl, _⟩ := h
    rfl
  · obtain ⟨a, ns, rfl, ha, h1, h7, q⟩ := h
    refine ⟨_, pss_cons (ps_set (i := 1) sc.nd rfl (.inl rfl) (le_lst (pa_cons pe_int pa_nil)))
      (pss_cons (ps_for PassesOwn.never rfl (pi_list (pe_slice sq_list (pv 0) (po_some pe_int) po_none)) (pg_name (i := 2) sc.nd rfl (.inl rfl)) (pss_one (ps_expr (pe_bm PySem.F.plainAttrs_list PySem.F.slot_list_append PySem.F.type_list_append mq_append (pv 1) (pa_cons (pe_op op_mul pe_int (pe_ix (ixl K) (pv 1) (pe_un un_neg pe_int) (fun _ _ => rfl))) pa_nil)))))
      (pss_one (ps_ret (pv 1)))), ?_⟩
    refine ⟨(by show 1 ≤ sizeLine; decide), fun H1 f s1 n1 e1 => ⟨_, rfl, 1, rfl, a, _, rfl, s1.seq (SqL.of ha), fun H2 c s2 n2 e2 => ?_⟩⟩
    have e2 : IL H2 c (ns.drop 1) := by
      show H2 c = _
      rw [← cut_from ns 1]
      exact e2
    have ncf : c ≠ f := (ne_of_none e1 n2).symm
    refine ⟨c, rfl, ⟨_, SqL.of e2⟩, for_list (xs := (ns.drop 1).map V.int) (fun i σ H3 => ∃ y, σ = [some (.ref a), some (.ref f), y] ∧ Same H H3 ∧ IL H3 c (ns.drop 1) ∧ IL H3 f (pws (i + 1)))
      ⟨none, rfl, s1.trans s2, e2, s2 _ _ e1⟩ (fun i σ H3 _ hp => ?_) (fun i x σ H3 hx hp => ?_) (fun σ H3 hp => ?_)⟩
    · obtain ⟨y, _, _, ec, _⟩ := hp
      exact SqL.of ec
    · obtain ⟨y, rfl, sm, ec, ef⟩ := hp
      have hi : i < 7 := by
        have := (List.getElem?_eq_some_iff.mp hx).1
        rw [List.length_map, List.length_drop] at this
        omega
      have last : atI ((pws (i + 1)).map V.int) (-1) = some (.int ((2 ^ i : Nat) : Int)) := by
        rw [pws_succ, map_last]
        exact atI_last _ _
      refine ⟨_, rfl, .inl ⟨rfl, _, SqL.of ef⟩, _, rfl, _, rfl, f, _, _, _, rfl, rfl, SqL.of ef, last, _, _, rfl, rfl, .inl ⟨by decide, by decide⟩, ?_⟩
      refine ⟨f, _, _, rfl, rfl, ef, by rw [List.length_map, pws_len]; exact small1000 (by omega), fun H4 x4 e4 => ⟨_, rfl, same_ex sm n1 x4, x4 _ _ ncf ec, ?_⟩⟩
      show H4 f = _
      rw [pws_succ (i + 1), map_last, e4]
      have : (2 : Int) * ((2 ^ i : Nat) : Int) = ((2 ^ (i + 1) : Nat) : Int) := by
        rw [Nat.pow_succ]
        omega
      show some (HO.lst (_ ++ [V.int (2 * ((2 ^ i : Nat) : Int))])) = _
      rw [this]
    · obtain ⟨y, rfl, sm, ec, ef⟩ := hp
      rw [List.length_map, List.length_drop, Nat.sub_add_cancel h1] at ef
      exact ⟨_, rfl, q H3 f sm n1 ef⟩
/-! ## leasts -/
def spLeasts (n : Nat) : Sp := fun vs H Q _ => ∃ (t : Tr n) (r e x : Addr) (ns : List Int) (ws : List V), vs = [.ref r, .ref e, .ref x] ∧ WF n t ∧ IL H r ns ∧ ns.Nodup ∧ (∀ z, z ∈ ns ↔ z ∈ held n t) ∧ 1 ≤ ns.length ∧ ns.length ≤ 7 ∧
  H e = some (.lst ws) ∧ Paired (LotAt H) (ev ns) ws ∧ H x = some (.lst ((ev ns).map (fun l => V.bl (goes n t (mem l))))) ∧
  ∀ H' p due ys, Same H H' → H p = none → H' p = some (.lst ys) → Paired (LotAt H') due ys → List.Perm due ((ev ns).filter (fun l => Lt n t (mem l))) → Q (.ref p) H'
theorem fm_ones (q : Nat → Bool) : ∀ l : List Nat, l.filterMap (fun j => if q j then some (V.int 1) else none) = ((l.filter q).map (fun _ => (1 : Int))).map V.int
  | [] => rfl
  | j :: l => by
    rw [List.filterMap_cons, List.filter_cons, fm_ones q l]
    cases q j <;> simp
theorem ok_leasts (T : Txt K mg) (n : Nat) : FnOk P w K mg base CX0 2 T.f_l_leasts T.d_l_leasts ["_law_row", "_law_every_here", "_law_words_here"] (spLeasts n) := by
  have sc : FnScope ["_law_row", "_law_every_here", "_law_words_here", "_law_powers_here", "_law_found", "_law_at", "_law_some", "_law_power"] ["_law_row", "_law_every_here", "_law_words_here"] (defScope s_l_leasts) := ⟨rfl, rfl, rfl, by decide +kernel, rfl, by decide +kernel, by decide +kernel⟩
  refine T.D_l_leasts.F.ok sc (fun vs H Q E h => ?_) (fun cdv A outer s H vs Q E hr h => ?_)
  · obtain ⟨t, r, e, x, ns, ws, rfl, _⟩ := h
    rfl
  · obtain ⟨t, r, e, x, ns, ws, rfl, wf, hrow, nd, hm, h1, h7, he, pr, hw, q⟩ := h
    refine ⟨_, pss_cons (ps_par (i := 3) (j := 4) (by rfl) sc.nd rfl rfl (by decide) rfl rfl (pa_cons (pe_call (ok_powers T) (hr.mono (by omega)) (by rfl) T.D_l_powers.m T.D_l_powers.F.kp T.D_l_powers.b .nil pass0 (pa_cons (pv 0) pa_nil)) (pa_cons (le_lst pa_nil) pa_nil)) (by rfl))
      (pss_cons (ps_for PassesOwn.never rfl (pi_enum (by rfl) T.n_enumerate (pa_cons (pv 1) pa_nil)) (pg_tup rfl (pgs_cons (pg_name (i := 5) sc.nd rfl (.inr rfl)) (pgs_cons (pg_name (i := 6) sc.nd rfl (.inl rfl)) pgs_nil)))
        (pss_one (ps_if (PW.pt (pw_and (pt_val (pe_ix (ixl K) (pv 2) (pv 5) (fun _ _ => rfl))) (pw_and1 (pt_cmpR (oeqD K hr.units)
            (le_lc (own := [("_law_power", 7)]) (g := gName 7) (by rfl) sc.nd (pi_list (pv 3)) (blkOk_by (own := [("_law_power", 7)]) (N := ["_law_row", "_law_every_here", "_law_words_here", "_law_powers_here", "_law_found", "_law_at", "_law_some", "_law_power"]) (sc := defScope s_l_leasts) (by decide +kernel)) (fun _ _ _ _ _ => pg_name (i := 7) sc.nd rfl (Or.inl rfl))
              (fun _ _ _ _ _ => pts_one ( PW.pt (pw_and (pt_cmpR op_eq (pe_op op_mod (pe_op op_fdiv (pv 5) (pv 7)) pe_int) pe_int (nomark _)) (pw_and1 (pt_val (pe_ix (ixl K) (pv 2) (pe_op op_sub (pv 5) (pv 7)) (fun _ _ => rfl))))))) (fun _ _ _ _ _ =>  pe_int))
            (le_lst pa_nil) (nomark _)))))
          (pss_one (ps_expr (pe_bm PySem.F.plainAttrs_list PySem.F.slot_list_append PySem.F.type_list_append mq_append (pv 4) (pa_cons (pv 6) pa_nil)))) pss_nil)))
      (pss_one (ps_ret (pe_callB (cq_sortL hr.units) (by rfl) T.n_sorted (by decide +kernel) (pa_cons (pv 4) pa_nil))))), ?_⟩
    have hE : (ev ns).length ≤ 128 := by
      rw [ev_length]
      exact pow7 h7
    refine ⟨_, rfl, r, ns, rfl, hrow, h1, h7, fun H1 pw s1 n1 e1 => ⟨Nat.zero_le _, fun H2 f s2 n2 e2 => ⟨_, _, rfl, ?_⟩⟩⟩
    have nf : H f = none := s1.free n2
    have hwat : ∀ i, i < 2 ^ ns.length → atI ((ev ns).map (fun l => V.bl (goes n t (mem l)))) ((i : Nat) : Int) = some (.bl (goes n t (mem (bits ns i)))) := fun i hi => atI_nat (by rw [List.getElem?_map, ev_get ns i hi]; rfl)
    refine ⟨_, rfl, e, ws, rfl, SqL.of (s2 _ _ (s1 _ _ he)), for_it (ev ns).length (fun i σ H3 => ∃ ys y5 y6, σ = [some (.ref r), some (.ref e), some (.ref x), some (.ref pw), some (.ref f), y5, y6, none] ∧ Same H H3 ∧ IL H3 pw (pws ns.length) ∧ H3 f = some (.lst ys) ∧ Paired (LotAt H3) (((ev ns).take i).filter (fun l => Lt n t (mem l))) ys)
      ⟨[], none, none, rfl, s1.trans s2, s2 _ _ e1, e2, .nil⟩ (fun i σ H3 hi hp => ?_) (fun σ H3 hp => ?_) (fun i σ H3 v H4 hi hp hy => ?_) (fun σ H3 hp => ?_)⟩
    · obtain ⟨ys, y5, y6, _, sm, _⟩ := hp
      have hi' : i < ws.length := by rw [← paired_len pr]; exact hi
      exact ⟨ws, ws[i], SqL.of (sm _ _ he), List.getElem?_eq_getElem hi'⟩
    · obtain ⟨ys, y5, y6, _, sm, _⟩ := hp
      exact ⟨ws, SqL.of (sm _ _ he), by rw [paired_len pr]; exact Nat.le_refl _⟩
    · obtain ⟨ys, y5, y6, rfl, sm, epw, ef, prf⟩ := hp
      obtain ⟨tt, v2, rfl, nT, rfl, hv2⟩ := hy
      have hv2 := hv2 ws (SqL.of (sm _ _ he))
      have s4 : Same H3 (upd H3 tt (.tup [.int (i : Nat), v2])) := same_new nT
      have eT : (upd H3 tt (.tup [.int (i : Nat), v2])) tt = some (.tup [.int (i : Nat), v2]) := upd_same
      generalize upd H3 tt (.tup [.int (i : Nat), v2]) = H4 at s4 eT
      have hi2 : i < 2 ^ ns.length := by rw [← ev_length]; exact hi
      have hEi : (ev ns)[i]? = some (bits ns i) := ev_get ns i hi2
      have lotv : LotAt H (bits ns i) v2 := paired_get pr hEi hv2
      have sm4 := sm.trans s4
      have yl : ys.length ≤ 128 := by
        rw [← paired_len prf]
        refine Nat.le_trans (List.length_filter_le _ _) ?_
        rw [List.length_take]
        omega
      -- the next of the lots that are kept
      have nxt : ∀ b : Bool, Lt n t (mem (bits ns i)) = b → ((ev ns).take (i + 1)).filter (fun l => Lt n t (mem l)) = ((ev ns).take i).filter (fun l => Lt n t (mem l)) ++ (if b then [bits ns i] else []) := fun b hb => by
        rw [List.take_add_one, hEi, List.filter_append]
        congr 1
        show [bits ns i].filter (fun l => Lt n t (mem l)) = _
        rw [List.filter_cons, hb]
        rfl
      have out : ∀ H5, Same H4 H5 → Lt n t (mem (bits ns i)) = false → ∃ ys' y5' y6', ([some (.ref r), some (.ref e), some (.ref x), some (.ref pw), some (.ref f), some (.int (i : Nat)), some v2, none] : L2.St) = [some (.ref r), some (.ref e), some (.ref x), some (.ref pw), some (.ref f), y5', y6', none] ∧ Same H H5 ∧ IL H5 pw (pws ns.length) ∧ H5 f = some (.lst ys') ∧
          Paired (LotAt H5) (((ev ns).take (i + 1)).filter (fun l => Lt n t (mem l))) ys' := fun H5 s5 hb => by
        refine ⟨ys, _, _, rfl, sm4.trans s5, s5 _ _ (s4 _ _ epw), s5 _ _ (s4 _ _ ef), ?_⟩
        rw [nxt false hb, if_neg Bool.false_ne_true, List.append_nil]
        exact paired_mono (fun _ _ z => z.mono (Tk.of (s4.trans s5))) prf
      refine ⟨tt, _, rfl, SqT.of eT, rfl, _, _, rfl, _, _, rfl, rfl, _, rfl, _, rfl, x, _, _, _, rfl, rfl, SqL.of (sm4 _ _ hw), hwat i hi2, _, rfl, ?_⟩
      cases hg : goes n t (mem (bits ns i)) with
      | false =>
        refine iteF (iteF (out H4 (Same.refl _) ?_))
        cases hL : Lt n t (mem (bits ns i)) with
        | false => rfl
        | true =>
          rw [(Lt_iff.mp hL).1] at hg
          cases hg
      | true =>
        refine iteT ⟨_, rfl, pw, rfl, ⟨_, SqL.of (s4 _ _ epw)⟩, lc_fun ns.length (fun j => if (i.testBit j && goes n t (mem (bits ns (i - 2 ^ j)))) = true then some (V.int 1) else none) (fun j y _ => y = .int ((2 ^ j : Nat) : Int)) (by omega) (fun j H5 hj s5 => ?_) (fun j H5 y H6 hj s5 hy => ?_)
          (fun H5 s5 => ⟨_, SqL.of (s5 _ _ (s4 _ _ epw)), by rw [List.length_map, pws_len]; exact Nat.le_refl _⟩) (fun j y H5 Yes No hj hy s5 yes no => ?_) (fun H5 D s5 nD eD => ?_)⟩
        · exact ⟨_, .int ((2 ^ j : Nat) : Int), SqL.of (s5 _ _ (s4 _ _ epw)), at_int (pws_at hj)⟩
        · obtain ⟨rfl, hy⟩ := hy
          refine ⟨Same.refl _, ?_⟩
          have := hy _ (SqL.of (s5 _ _ (s4 _ _ epw)))
          rw [at_int (pws_at hj)] at this
          exact (Option.some.inj this).symm
        · obtain rfl := hy
          have p2 : 2 ^ j ≤ 128 := pow7 (by omega)
          have pos : 0 < 2 ^ j := Nat.two_pow_pos j
          have ebit : decide (V.int (((i : Nat) : Int) / ((2 ^ j : Nat) : Int) % 2) = V.int 1) = i.testBit j := by
            rw [Nat.testBit_eq_decide_div_mod_eq]
            refine decide_eq_decide.mpr ⟨fun z => ?_, fun z => ?_⟩
            · injection z with z
              have e3 : ((i : Nat) : Int) / ((2 ^ j : Nat) : Int) = ((i / 2 ^ j : Nat) : Int) := rfl
              rw [e3] at z
              omega
            · refine congrArg V.int ?_
              have e3 : ((i : Nat) : Int) / ((2 ^ j : Nat) : Int) = ((i / 2 ^ j : Nat) : Int) := rfl
              rw [e3]
              omega
          refine ⟨rfl, _, rfl, _, rfl, _, _, rfl, rfl, ⟨by omega, by omega⟩, _, _, rfl, rfl, (by show (0 : Int) < 2; decide), rfl, _, rfl, ?_⟩
          rw [ebit]
          cases hb : i.testBit j with
          | false =>
            refine iteF (iteF (no ?_ _ (Same.refl _)))
            rw [hb]
            rfl
          | true =>
            have ge : 2 ^ j ≤ i := Nat.ge_two_pow_of_testBit hb
            have eij : ((i : Nat) : Int) - ((2 ^ j : Nat) : Int) = ((i - 2 ^ j : Nat) : Int) := by omega
            have hat := hwat (i - 2 ^ j) (by omega)
            rw [← eij] at hat
            refine iteT ⟨_, rfl, _, rfl, _, rfl, _, _, rfl, rfl, x, _, _, _, rfl, rfl, SqL.of (s5 _ _ (sm4 _ _ hw)), hat, _, rfl, ?_⟩
            cases hg2 : goes n t (mem (bits ns (i - 2 ^ j))) with
            | true =>
              refine iteT (yes _ _ ?_ (Same.refl _))
              rw [hb, hg2]
              rfl
            | false =>
              refine iteF (no ?_ _ (Same.refl _))
              rw [hb, hg2]
              rfl
        · rw [fm_ones] at eD
          refine ⟨Nat.zero_le _, fun H6 o6 s6 n6 e6 => ?_⟩
          refine ⟨_, .list [], .lst (SqL.of (s6 _ _ eD)) (dp_ints _), .lst (SqL.of e6) .nil, PySem.W.shaped_ints _, PySem.W.shaped_ints [], _, rfl, ?_⟩
          rw [eqv_nil]
          have key : ((((List.range ns.length).filter (fun j => i.testBit j && goes n t (mem (bits ns (i - 2 ^ j))))).map (fun _ => (1 : Int))).isEmpty) = Lt n t (mem (bits ns i)) := by
            rw [Bool.eq_iff_iff, least_at nd hm, List.isEmpty_iff, List.map_eq_nil_iff, List.filter_eq_nil_iff]
            constructor
            · refine fun z => ⟨hg, fun j hj hb => ?_⟩
              have := z j (List.mem_range.mpr hj)
              rw [hb] at this
              simpa using this
            · rintro ⟨_, z⟩ j hj
              cases hb : i.testBit j with
              | false => simp
              | true =>
                rw [z j (List.mem_range.mp hj) hb]
                simp
          rw [key]
          have s46 := s5.trans s6
          cases hL : Lt n t (mem (bits ns i)) with
          | false => exact iteF (out H6 s46 hL)
          | true =>
            refine iteT ⟨_, rfl, .inl ⟨rfl, _, SqL.of (s46 _ _ (s4 _ _ ef))⟩, _, rfl, f, _, _, rfl, rfl, s46 _ _ (s4 _ _ ef), small1000 (by omega), fun H7 x7 e7 => ?_⟩
            have npf : pw ≠ f := ne_of_none e1 n2
            refine ⟨ys ++ [v2], _, _, rfl, same_ex (sm4.trans s46) nf x7, x7 _ _ npf (s46 _ _ (s4 _ _ epw)), e7, ?_⟩
            have tk : Tk H6 H7 := x7.tk (s46 _ _ (s4 _ _ ef))
            rw [nxt true hL, if_pos rfl]
            refine paired_app (paired_mono (fun _ _ z => (z.mono (Tk.of (s4.trans s46))).mono tk) prf) (.cons ((lotv.mono (Tk.of (sm4.trans s46))).mono tk) .nil)
    · obtain ⟨ys, y5, y6, rfl, sm, epw, ef, prf⟩ := hp
      rw [List.take_length] at prf
      have yl : ys.length ≤ 1000 := by
        rw [← paired_len prf]
        exact Nat.le_trans (List.length_filter_le _ _) (by omega)
      refine ⟨_, rfl, f, ys, _, rfl, SqL.of ef, yl, prf, fun l hl => ?_, fun due zs hz hpm H4 p s4 n4 e4 => ?_⟩
      · rintro rfl
        have hL := (List.mem_filter.mp hl).2
        obtain ⟨b, _, hb⟩ := not_emp (Lt_not_emp wf hL)
        simp [mem] at hb
      · exact q H4 p due zs (sm.trans s4) (sm.free n4) e4 (paired_mono (fun _ _ z => z.mono (Tk.of s4)) hz) hpm
end
end K16
namespace K16
open PySem L2
theorem rowOf_big {n : Nat} {mu ne : Lot} : ∀ (ps : List (Tr n)) (j : Nat), ps.length < j → rowOf n mu ne ps j = 0 := by
  refine rev_ind (fun j h => ?_) (fun ps p ih j h => ?_)
  · cases j with
    | zero => simp at h
    | succ j => rfl
  · have e : rowOf n mu ne (ps ++ [p]) = stepE (rowOf n mu ne ps) (b2n (free (held n p) mu)) (lm n mu ne p) := by
      unfold rowOf
      rw [List.foldl_append]
      rfl
    rw [List.length_append, List.length_singleton] at h
    rw [e]
    cases j with
    | zero => omega
    | succ j =>
      rw [step_succ, ih (j + 1) (by omega), ih j (by omega)]
      simp
/-- halfway up: below i the new row, at i what has come from below, above nothing -/
def upTo (r : Nat → Nat) (e l : Nat) (i : Nat) : Nat → Nat := fun j => if j < i then stepE r e l j else if j = i then (match j with | 0 => 0 | j + 1 => r j * l) else 0
theorem upTo_zero (r : Nat → Nat) (e l k : Nat) : (List.replicate k [V.int 0]).flatten = tb (upTo r e l 0) k := by
  unfold tb
  have h : ∀ j, upTo r e l 0 j = 0 := fun j => by
    unfold upTo
    rw [if_neg (Nat.not_lt_zero j)]
    split
    · next h => subst h; rfl
    · rfl
  simp only [h]
  induction k with
  | zero => rfl
  | succ k ih =>
    rw [List.range_succ, List.map_append, ← ih, List.replicate_succ', List.flatten_append]
    rfl
theorem tb_one : [V.int 1] = tb row0 1 := rfl
theorem upTo_at (r : Nat → Nat) (e l i : Nat) : upTo r e l i i + r i * e = stepE r e l i := by
  unfold upTo
  rw [if_neg (Nat.lt_irrefl i), if_pos rfl]
  cases i with
  | zero => simp [stepE]
  | succ i =>
    rw [step_succ]
    show r i * l + r (i + 1) * e = r (i + 1) * e + r i * l
    omega
theorem upTo_next (r : Nat → Nat) (e l i : Nat) : upTo r e l i (i + 1) = 0 := by
  unfold upTo
  rw [if_neg (by omega), if_neg (by omega)]
theorem upTo_step (r : Nat → Nat) (e l i j : Nat) (h1 : j ≠ i) (h2 : j ≠ i + 1) : upTo r e l i j = upTo r e l (i + 1) j := by
  unfold upTo
  by_cases c : j < i
  · rw [if_pos c, if_pos (by omega)]
  · rw [if_neg c, if_neg h1, if_neg (by omega), if_neg h2]
theorem free_app (as bs : List Int) (mu : Lot) : (!free (as ++ bs) mu) = (!free as mu || !free bs mu) := by
  unfold free
  rw [List.any_append, Bool.not_not, Bool.not_not, Bool.not_not]
section
variable {P : Program} {w : World} {K : PySem.W.Frag} {mg : Str → Option Value} {base : Heap}
/-! ## chosen -/
def spChosen (n : Nat) : Sp := fun vs H Q _ => ∃ (t : Tr n) (v : V) (a c : Addr) (mu ne : List Int), vs = [v, .ref a, .ref c] ∧ TAt H n t v ∧ WF n t ∧ (held n t).Nodup ∧ (held n t).length ≤ 24 ∧ IT H a mu ∧ IT H c ne ∧
  ∀ H' p, Same H H' → H' p = some (.tup [.int (lm n (mem mu) (mem ne) t : Nat), .bl (!free (held n t) (mem mu))]) → Q (.ref p) H'
theorem ok_chosen (T : Txt K mg) : ∀ n, FnOk P w K mg base CX0 (n + 1) T.f_l_chosen T.d_l_chosen ["_law_tree_here", "_law_must", "_law_never"] (spChosen n)
  | 0 => none_of 1 fun vs H Q E h => by
    obtain ⟨t, _⟩ := h
    exact Empty.elim t
  | n + 1 => by
    have ih := ok_chosen T n
    have sc : FnScope ["_law_tree_here", "_law_must", "_law_never", "_law_some", "_law_is_wanted", "_law_part", "_law_many", "_law_is_own", "_law_longer", "_law_at", "_law_much"] ["_law_tree_here", "_law_must", "_law_never"] (defScope s_l_chosen) := ⟨rfl, rfl, rfl, by decide +kernel, rfl, by decide +kernel, by decide +kernel⟩
    refine T.D_l_chosen.F.ok sc (fun vs H Q E h => ?_) (fun cdv A outer s H vs Q E hr h => ?_)
    · obtain ⟨t, v, a, c, mu, ne, rfl, _⟩ := h
      rfl
    · obtain ⟨t, v, a, c, mu, ne, rfl, ht, wf, nd, hl, hm, hn, q⟩ := h
      refine ⟨_, pss_cons (ps_if (pt_val (pe_callB call_isi (by rfl) T.n_isinstance (by decide +kernel) (pa_cons (pv 0) (pa_cons (pe_bltn (v := .ty "int") (by rfl) T.n_int (by decide +kernel) rfl) pa_nil)))) (pss_one (ps_ret (le_tup (pa_cons (cl_e (pe_ifExp (pt_cmpR (oin K) (pv 0) (pv 2) (by rfl)) pe_int pe_int)) (pa_cons (pe_cmpR (oin K) (pv 0) (pv 1) (by rfl)) pa_nil))))) pss_nil)
        (pss_cons (ps_par (i := 3) (j := 4) (by rfl) sc.nd rfl rfl (by decide) rfl rfl (pa_cons (le_lst (pa_cons pe_int pa_nil)) (pa_cons pe_bl pa_nil)) (by rfl))
        (pss_cons (ps_for PassesOwn.never rfl (pi_tup (pe_ix (ixt K) (pv 0) pe_int (fun _ _ => rfl))) (pg_name (i := 5) sc.nd rfl (.inl rfl))
          (pss_cons (ps_asg (pe_call ih hr (by rfl) T.D_l_chosen.m T.D_l_chosen.F.kp T.D_l_chosen.b .nil pass0 (pa_cons (pv 5) (pa_cons (pv 1) (pa_cons (pv 2) pa_nil)))) (pg_tup rfl (pgs_cons (pg_name (i := 6) sc.nd rfl (.inl rfl)) (pgs_cons (pg_name (i := 7) sc.nd rfl (.inl rfl)) pgs_nil))))
          (pss_cons (ps_set (i := 8) sc.nd rfl (.inl rfl) (pe_op oq_rep (le_lst (pa_cons pe_int pa_nil)) (pe_op op_add (pe_callB call_len_seq (by rfl) T.n_len (by decide +kernel) (pa_cons (pv 3) pa_nil)) pe_int)))
          (pss_cons (ps_for PassesOwn.never rfl (pi_enum (by rfl) T.n_enumerate (pa_cons (pv 3) pa_nil)) (pg_tup rfl (pgs_cons (pg_name (i := 9) sc.nd rfl (.inl rfl)) (pgs_cons (pg_name (i := 10) sc.nd rfl (.inl rfl)) pgs_nil)))
            (pss_cons (ps_asg (pe_op op_add (pe_ix (ixl K) (pv 8) (pv 9) (fun _ _ => rfl)) (cl_e (pe_ifExp (pt_val (pv 7)) pe_int (pv 10)))) (pg_sub (pv 8) (pv 9) gq_set))
            (pss_one (ps_asg (pe_op op_add (pe_ix (ixl K) (pv 8) (pe_op op_add (pv 9) pe_int) (fun _ _ => rfl)) (pe_op op_mul (pv 10) (pv 6))) (pg_sub (pv 8) (pe_op op_add (pv 9) pe_int) gq_set)))))
          (pss_one (ps_par (i := 3) (j := 4) (by rfl) sc.nd rfl rfl (by decide) rfl rfl (pa_cons (pv 8) (pa_cons (pe_or (pv 4) (pe_one (pv 7))) pa_nil)) (by rfl)))))))
        (pss_one (ps_ret (le_tup (pa_cons (pe_ix (ixl K) (pv 3) (pe_ix (ixt K) (pv 0) pe_int (fun _ _ => rfl)) (fun _ _ => rfl)) (pa_cons (pv 4) pa_nil))))))), ?_⟩
      obtain ⟨ty, tx, k1, k2⟩ := isi_tree (K := K) ht
      refine ⟨v, rfl, _, _, ty, _, _, rfl, .ty _, tx, k2, _, rfl, ?_⟩
      clear tx k1 k2
      revert ht wf nd hl q
      refine tr_cases (M := fun t => TAt H (n + 1) t v → WF (n + 1) t → (held (n + 1) t).Nodup → (held (n + 1) t).length ≤ 24 → (∀ H' p, Same H H' → H' p = some (.tup [.int (lm (n + 1) (mem mu) (mem ne) t : Nat), .bl (!free (held (n + 1) t) (mem mu))]) → Q (.ref p) H') → if (!isT t) = true then _ else _) (fun b ht wf nd hl q => ?_) (fun k ps ht wf nd hl q => ?_) t
      · refine iteT ?_
        obtain rfl := TAt_leaf.mp ht
        refine ⟨fun x H1 => H1 = H ∧ x = .int (lm (n + 1) (mem mu) (mem ne) (leaf b : Tr (n + 1)) : Nat), ?_, fun x H1 hx => ?_⟩
        · refine ⟨.int b, rfl, .ref c, rfl, c, _, rfl, .inr (SqT.of hn), rfl, flat_ints ne, _, rfl, ?_⟩
          show if inV (.int b) (ne.map V.int) = true then _ else _
          rw [in_ints]
          refine ite2 (fun c => ⟨rfl, ?_⟩) (fun c => ⟨rfl, ?_⟩)
          · rw [lm_leaf, show mem ne b = true from c]
            rfl
          · rw [lm_leaf, show mem ne b = false from Bool.eq_false_iff.mpr c]
            rfl
        · obtain ⟨rfl, rfl⟩ := hx
          refine ⟨.int b, rfl, _, rfl, a, _, rfl, .inr (SqT.of hm), rfl, flat_ints mu, (by show 2 ≤ sizeLine; decide), fun H2 p s2 n2 e2 => q H2 p s2 ?_⟩
          rw [e2]
          have : (if false = true then !inV (.int b) (mu.map V.int) else inV (.int b) (mu.map V.int)) = (!free [b] (mem mu)) := by
            show inV (.int b) (mu.map V.int) = _
            rw [in_ints]
            simp [free, mem]
          rw [this]
          rfl
      · refine iteF ?_
        obtain ⟨a0, p, vs, rfl, h1, h2, h3⟩ := TAt_trip.mp ht
        obtain ⟨w1, w2, w3⟩ := (WF_trip k ps).mp wf
        have hps : ps.length ≤ 24 := by
          have : ps.length ≤ (ps.flatMap (held n)).length := by
            clear h3 w2 ht wf nd hl q
            induction ps with
            | nil => simp
            | cons p ps ih' =>
              rw [List.flatMap_cons, List.length_append, List.length_cons]
              have h0 := ih' (fun x hx => w3 x (List.mem_cons_of_mem _ hx))
              have h1 := held_pos n p (w3 p List.mem_cons_self)
              omega
          rw [held_trip] at hl
          omega
        refine ⟨(by show 1 ≤ sizeLine; decide), fun H1 o1 s1 n1 e1 => ⟨_, _, rfl, ?_⟩⟩
        refine ⟨_, rfl, a0, _, 1, .ref p, rfl, rfl, SqT.of (s1 _ _ h1), rfl, p, rfl, ⟨vs, SqT.of (s1 _ _ h2)⟩,
          for_tup (xs := vs) (fun i σ H5 => ∃ o y5 y6 y7 y8 y9 y10, σ = [some (.ref a0), some (.ref a), some (.ref c), some (.ref o), some (.bl (!free ((ps.take i).flatMap (held n)) (mem mu))), y5, y6, y7, y8, y9, y10] ∧ Same H H5 ∧ H5 o = some (.lst (tb (rowOf n (mem mu) (mem ne) (ps.take i)) (i + 1))))
            ⟨o1, none, none, none, none, none, none, rfl, s1, e1⟩ (fun i σ H5 _ hp => ?_) (fun i x σ H5 hx hp => ?_) (fun σ H5 hp => ?_)⟩
        · obtain ⟨_, _, _, _, _, _, _, _, sm, _⟩ := hp
          exact SqT.of (sm _ _ h2)
        · obtain ⟨o, y5, y6, y7, y8, y9, y10, rfl, sm, eo⟩ := hp
          obtain ⟨t', ht', hx'⟩ := paired_at h3 hx
          have hi : i < ps.length := (List.getElem?_eq_some_iff.mp ht').1
          have wt' := w3 t' (List.mem_of_getElem? ht')
          have ndt := nodup_at nd ht'
          have lt' : (held n t').length ≤ 24 := Nat.le_trans (part_len ht') hl
          refine ⟨x, rfl, .ref a, rfl, .ref c, rfl, t', x, a, c, mu, ne, rfl, hx'.mono (Tk.of sm), wt', ndt, lt', sm _ _ hm, sm _ _ hn, fun H6 tp s6 e6 => ?_⟩
          have sm6 := sm.trans s6
          have eo6 := s6 _ _ eo
          have hMle : lm n (mem mu) (mem ne) t' ≤ 16777216 := Nat.le_trans (lm_le wt' ndt) (pow24 lt')
          have hnew : rowOf n (mem mu) (mem ne) (ps.take (i + 1)) = stepE (rowOf n (mem mu) (mem ne) (ps.take i)) (b2n (free (held n t') (mem mu))) (lm n (mem mu) (mem ne) t') := rowOf_snoc ht'
          have hbig : rowOf n (mem mu) (mem ne) (ps.take i) (i + 1) = 0 := rowOf_big _ _ (by rw [List.length_take]; omega)
          have hfr : (!free ((ps.take (i + 1)).flatMap (held n)) (mem mu)) = (!free ((ps.take i).flatMap (held n)) (mem mu) || !free (held n t') (mem mu)) := by
            rw [take_snoc ht', free_app]
          generalize lm n (mem mu) (mem ne) t' = M at e6 hMle hnew
          generalize free (held n t') (mem mu) = F at e6 hnew hfr
          generalize rowOf n (mem mu) (mem ne) (ps.take i) = R at eo6 hnew hbig
          generalize free ((ps.take i).flatMap (held n)) (mem mu) = G0 at hfr
          refine ⟨tp, _, rfl, SqT.of e6, rfl, _, _, rfl, _, _, rfl, rfl, ?_⟩
          refine ⟨(by show 1 ≤ sizeLine; decide), fun H7 o7 s7 n7 e7 => ⟨_, rfl, o, _, rfl, .inl (SqL.of (s7 _ _ eo6)), _, _, rfl, rfl, o7, _, _, rfl, rfl, e7, ?_, ?_, ?_, fun H8 lo s8 n8 e8 => ?_⟩⟩
          · omega
          · rw [tb_len]; omega
          · rw [tb_len]
            have z := small1000 (n := 1 * (((i + 1 : Nat) : Int) + 1).toNat) (by omega)
            exact Nat.le_of_lt z
          have ek : ((((tb R (i + 1)).length : Nat) : Int) + 1).toNat = i + 2 := by
            rw [tb_len]
            omega
          rw [ek, upTo_zero R (b2n F) M] at e8
          have eo8 := s8 _ _ (s7 _ _ eo6)
          have sm8 := (sm6.trans s7).trans s8
          have nlo : H lo = none := (sm6.trans s7).free n8
          have nol : o ≠ lo := ne_of_none (s7 _ _ eo6) n8
          refine ⟨_, rfl, o, _, rfl, SqL.of eo8, for_it (i + 1) (fun i' σ H9 => ∃ y9 y10, σ = [some (.ref a0), some (.ref a), some (.ref c), some (.ref o), some (.bl (!G0)), some x, some (.int (M : Nat)), some (.bl (!F)), some (.ref lo), y9, y10] ∧ Same H H9 ∧ H9 o = some (.lst (tb R (i + 1))) ∧ H9 lo = some (.lst (tb (upTo R (b2n F) M i') (i + 2))))
            ⟨y9, y10, rfl, sm8, eo8, e8⟩ (fun i' σ H9 hi' hp => ?_) (fun σ H9 hp => ?_) (fun i' σ H9 vv H10 hi' hp hy => ?_) (fun σ H9 hp => ?_)⟩
          · obtain ⟨_, _, _, _, eo9, _⟩ := hp
            exact ⟨_, _, SqL.of eo9, tb_at (j := i') hi'⟩
          · obtain ⟨_, _, _, _, eo9, _⟩ := hp
            exact ⟨_, SqL.of eo9, by rw [tb_len]; exact Nat.le_refl _⟩
          · obtain ⟨y9', y10', rfl, sm9, eo9, el9⟩ := hp
            obtain ⟨tt, v2, rfl, nT, rfl, hv2⟩ := hy
            have hv2 := hv2 _ (SqL.of eo9)
            rw [tb_at hi'] at hv2
            obtain rfl := (Option.some.inj hv2).symm
            have s10 : Same H9 (upd H9 tt (.tup [.int (i' : Nat), .int (R i' : Nat)])) := same_new nT
            have eT : (upd H9 tt (.tup [.int (i' : Nat), .int (R i' : Nat)])) tt = some (.tup [.int (i' : Nat), .int (R i' : Nat)]) := upd_same
            generalize upd H9 tt (.tup [.int (i' : Nat), .int (R i' : Nat)]) = H10 at s10 eT
            have eo10 := s10 _ _ eo9
            have el10 := s10 _ _ el9
            have at1 : atI (tb (upTo R (b2n F) M i') (i + 2)) ((i' : Nat) : Int) = some (.int (upTo R (b2n F) M i' i' : Nat)) := tb_atI (by omega) rfl
            refine ⟨tt, _, rfl, SqT.of eT, rfl, _, _, rfl, _, _, rfl, rfl, _, rfl, _, rfl, lo, _, _, _, rfl, rfl, SqL.of el10, at1, ?_⟩
            refine ⟨fun y H11 => H11 = H10 ∧ y = .int (R i' * b2n F : Nat), ⟨_, rfl, _, rfl, ?_⟩, fun y H11 hy => ?_⟩
            · cases F with
              | true => exact iteF ⟨_, rfl, rfl, by simp [b2n]⟩
              | false => exact iteT ⟨rfl, by simp [b2n]⟩
            · obtain ⟨rfl, rfl⟩ := hy
              refine ⟨_, _, rfl, rfl, _, rfl, _, rfl, lo, _, _, i', rfl, rfl, el10, ?_, fun H12 x12 e12 => ?_⟩
              · rw [tb_len]
                exact ixN_nat (by omega)
              · have v0 : V.int (((upTo R (b2n F) M i' i' : Nat) : Int) + ((R i' * b2n F : Nat) : Int)) = .int (stepE R (b2n F) M i' : Nat) := by
                  rw [← upTo_at R (b2n F) M i', Int.natCast_add]
                have e12 : H12 lo = some (.lst (tb (fun j => if j = i' then stepE R (b2n F) M i' else upTo R (b2n F) M i' j) (i + 2))) := by
                  rw [e12]
                  refine congrArg (fun z => some (HO.lst z)) (tb_set ?_ (fun j hj hji => ?_) (by omega))
                  · simp only [if_true]
                    exact v0
                  · rw [if_neg hji]
                have at2 : atI (tb (fun j => if j = i' then stepE R (b2n F) M i' else upTo R (b2n F) M i' j) (i + 2)) (((i' : Nat) : Int) + 1) = some (.int (0 : Nat)) := by
                  have := tb_atI (r := fun j => if j = i' then stepE R (b2n F) M i' else upTo R (b2n F) M i' j) (k := i + 2) (j := i' + 1) (z := ((i' : Nat) : Int) + 1) (by omega) (by omega)
                  rw [if_neg (by omega), upTo_next] at this
                  exact this
                refine ⟨_, rfl, _, rfl, _, _, rfl, rfl, lo, _, _, _, rfl, rfl, SqL.of e12, at2, _, rfl, _, rfl, _, _, rfl, rfl, .inr ⟨by omega, by omega⟩, _, _, rfl, rfl, ?_⟩
                refine ⟨_, rfl, _, rfl, _, _, rfl, rfl, lo, _, _, i' + 1, rfl, rfl, e12, ?_, fun H13 x13 e13 => ?_⟩
                · rw [tb_len]
                  exact ixN_nat (k := i' + 1) (by omega)
                · refine ⟨_, _, rfl, same_ex (same_ex (sm9.trans s10) nlo x12) nlo x13, x13 _ _ nol (x12 _ _ nol eo10), ?_⟩
                  rw [e13]
                  refine congrArg (fun z => some (HO.lst z)) (tb_set ?_ (fun j hj hji => ?_) (by omega))
                  · unfold upTo
                    rw [if_neg (by omega), if_pos rfl]
                    refine congrArg V.int ?_
                    show ((0 : Nat) : Int) + ((R i' : Nat) : Int) * ((M : Nat) : Int) = ((R i' * M : Nat) : Int)
                    rw [Int.natCast_mul]
                    omega
                  · by_cases c1 : j = i'
                    · subst c1
                      rw [if_pos rfl]
                      unfold upTo
                      rw [if_pos (by omega)]
                    · rw [if_neg c1]
                      exact upTo_step R _ _ _ _ c1 hji
          · obtain ⟨y9', y10', rfl, sm9, eo9, el9⟩ := hp
            have fin : tb (upTo R (b2n F) M (i + 1)) (i + 2) = tb (rowOf n (mem mu) (mem ne) (ps.take (i + 1))) (i + 2) := tb_congr fun j hj => by
              rw [hnew]
              by_cases c1 : j < i + 1
              · unfold upTo
                rw [if_pos c1]
              · have : j = i + 1 := by omega
                subst this
                have := upTo_at R (b2n F) M (i + 1)
                rw [hbig] at this
                omega
            rw [fin] at el9
            refine ⟨_, rfl, _, rfl, _, rfl, ?_⟩
            cases G0 with
            | true => exact iteF ⟨_, rfl, _, _, rfl, lo, _, _, _, _, _, _, by rw [hfr]; rfl, sm9, el9⟩
            | false => exact iteT ⟨_, _, rfl, lo, _, _, _, _, _, _, by rw [hfr]; rfl, sm9, el9⟩
        · obtain ⟨o, y5, y6, y7, y8, y9, y10, rfl, sm, eo⟩ := hp
          rw [← paired_len h3, List.take_length] at eo
          refine ⟨_, rfl, _, rfl, a0, _, 0, .int (k : Nat), rfl, rfl, SqT.of (sm _ _ h1), rfl, o, _, _, _, rfl, rfl, SqL.of eo, tb_atI (j := k) (by omega) rfl, _, rfl, (by show 2 ≤ sizeLine; decide), fun H6 p6 s6 n6 e6 => q H6 p6 (sm.trans s6) ?_⟩
          rw [e6, ← paired_len h3, List.take_length]
          rfl
end
end K16
namespace K16
open PySem L2
/-! ## a call by keywords alone -/
section
variable {X : Cx} {CX : CXT} {k : Nat} {f : Addr} {fd : FuncData} {ps ks : List Str} {sp : Sp} {E : XK} {x : Str} {p pos : Pos} {kws : List Keyword} {tk : TA} {g : List Value → List Value → List Value} {gV : List V → List V → List V}
theorem le_callK (F : FnOk X.prog X.w X.K X.mg X.base CX k f fd ps sp) (hr : Room k X.A) (hg : Gl X x) (hm : X.mg x = some (.ref f)) (hk : PySem.W.keepIn X.K (.ref f) = true) (hb : KBinds X.K fd ps ks g gV) (hx : Passes CX X E)
    (hkw : PK X kws tk) (hall : (backToKw pos (keywordEach kws X.env)).all (·.1.isSome) = true := by rfl) (hks : (backToKw pos (keywordEach kws X.env)).filterMap (·.1) = ks := by rfl)
    (hdb : (x == ("__debug__" : Str)) = false := by decide) (hpl : ((backTo pos (starEach [] X.env)).any (·.1) || (backToKw pos (keywordEach kws X.env)).any (·.1.isNone)) = false := by rfl) :
    PE X (.Call (.Name x p) [] kws pos) (tCallK sp gV E tNil tk) := by
  refine ⟨fun pins s σ H Q I h => wpAny_Call_Name_kw (ld_glob I hg hm ?_ hdb)⟩
  refine PySem.W.callWith_KW0 (h₀ := X.base) I.ok.mod.kin hk hall (thn (hkw.run pos pins s σ H _ I h) fun ws s2 ⟨zs, H2, I2, rz, q2⟩ => ⟨I2.kIn, ?_⟩) hpl
  rw [hks]
  exact run_fnk F hr hb hx I2 .nil rz q2
end
theorem kb_lc {K : PySem.W.Frag} {mg : Str → Option Value} {f : Addr} {fd : FuncData} (D : Def K mg "least_count" s_least_count ["tree", "must", "never"] f fd) :
    KBinds K fd ["tree", "must", "never"] ["never", "must", "tree"] (fun us ws => us ++ ws.reverse) (fun vs zs => vs ++ zs.reverse) := by
  obtain ⟨oc, od, kV, doc, pm, an, cdv, ct, osl, rfl, lk, hcd⟩ := D.F.ex
  refine ⟨fun s us ws _ hl => ?_, fun r1 r2 => r1.append r2.reverse⟩
  rw [List.length_append, List.length_reverse] at hl
  have hl : us.length + ws.length = 3 := hl
  match us, hl with
  | [], hl =>
    have h : ws.length = 3 := by simpa using hl
    match ws, h with
    | [_, _, _], _ => exact .of_eq rfl
  | [_], hl =>
    have h : ws.length = 2 := by simp at hl; omega
    match ws, h with
    | [_, _], _ => exact .of_eq rfl
  | [_, _], hl =>
    have h : ws.length = 1 := by simp at hl; omega
    match ws, h with
    | [_], _ => exact .of_eq rfl
  | [_, _, _], hl =>
    have h : ws.length = 0 := by simp at hl; simp [hl]
    match ws, h with
    | [], _ => exact .of_eq rfl
  | _ :: _ :: _ :: _ :: r, hl => exact absurd hl (by simp; omega)
section
variable {P : Program} {w : World} {K : PySem.W.Frag} {mg : Str → Option Value} {base : Heap}
/-! ## the law's own count -/
/-- a one for each int that is asked for -/
def fO (q : Int → Bool) : V → Option V
  | .int z => if q z then some (.int 1) else none
  | _ => none
theorem fO_int (q : Int → Bool) (z : Int) : fO q (.int z) = if q z then some (.int 1) else none := rfl
theorem fm_o (q : Int → Bool) : ∀ ns : List Int, (ns.map V.int).filterMap (fO q) = ((ns.filter q).map (fun _ => (1 : Int))).map V.int
  | [] => rfl
  | n :: ns => by
    rw [List.map_cons, List.filterMap_cons, List.filter_cons, fm_o q ns, fO_int]
    cases q n <;> simp
theorem ones_any (q : Int → Bool) (ns : List Int) : (!((ns.filter q).map (fun _ => (1 : Int))).isEmpty) = ns.any q := by
  rw [← any_filter (List.Perm.refl ns)]
  cases ns.filter q <;> rfl
def spLLm (n : Nat) : Sp := fun vs H Q _ => ∃ (t : Tr n) (v : V) (a c : Addr) (mu ne : List Int), vs = [v, .ref a, .ref c] ∧ TAt H n t v ∧ WF n t ∧ (held n t).Nodup ∧ (held n t).length ≤ 24 ∧ IT H a mu ∧ mu.length ≤ 1000 ∧ IT H c ne ∧
  ∀ H', Same H H' → Q (.int (LM n t mu ne : Nat)) H'
theorem ok_llm (T : Txt K mg) (n : Nat) : FnOk P w K mg base CX0 (n + 2) T.f_l_least_many T.d_l_least_many ["_law_tree_here", "_law_must", "_law_never"] (spLLm n) := by
  have sc : FnScope ["_law_tree_here", "_law_must", "_law_never", "_law_button"] ["_law_tree_here", "_law_must", "_law_never"] (defScope s_l_least_many) := ⟨rfl, rfl, rfl, by decide +kernel, rfl, by decide +kernel, by decide +kernel⟩
  refine T.D_l_least_many.F.ok sc (fun vs H Q E h => ?_) (fun cdv A outer s H vs Q E hr h => ?_)
  · obtain ⟨t, v, a, c, mu, ne, rfl, _⟩ := h
    rfl
  · obtain ⟨t, v, a, c, mu, ne, rfl, ht, wf, nd, hl, hm, hml, hn, q⟩ := h
    refine ⟨_, pss_cons (ps_if (pt_cmpR (oneD K hr.units) (le_lc (own := [("_law_button", 3)]) (g := gName 3) (by rfl) sc.nd (pi_tup (pv 1)) (blkOk_by (own := [("_law_button", 3)]) (N := ["_law_tree_here", "_law_must", "_law_never", "_law_button"]) (sc := defScope s_l_least_many) (by decide +kernel)) (fun _ _ _ _ _ => pg_name (i := 3) sc.nd rfl (Or.inl rfl))
          (fun _ _ _ _ _ => pts_one ( PW.pt (pw_or (pt_cmpR (oin K) (pv 3) (pv 2) (by rfl)) (pw_or1 (pt_cmpR (onin K) (pv 3) (pe_call (ok_held T n) (hr.mono (by omega)) (by rfl) T.D_l_held.m T.D_l_held.F.kp T.D_l_held.b .nil pass0 (pa_cons (pv 0) pa_nil)) (by rfl)))))) (fun _ _ _ _ _ =>  pe_int)) (le_lst pa_nil) (nomark _)) (pss_one (ps_ret pe_int)) pss_nil)
      (pss_one (ps_ret (pe_ix (ixt K) (pe_call (ok_chosen T n) (hr.mono (by omega)) (by rfl) T.D_l_chosen.m T.D_l_chosen.F.kp T.D_l_chosen.b .nil pass0 (pa_cons (pv 0) (pa_cons (pv 1) (pa_cons (pv 2) pa_nil)))) pe_int (fun _ _ => rfl)))), ?_⟩
    refine ⟨.ref a, rfl, a, rfl, ⟨_, SqT.of hm⟩, lc_funT (fO (fun b => decide (b ∈ ne) || decide (b ∉ held n t))) (SqT.of hm) (by rw [List.length_map]; exact hml) (fun i x H2 Yes No hx s2 yes no => ?_) (fun H2 D s2 n2 e2 => ?_)⟩
    · obtain ⟨z, hz, rfl⟩ := int_at hx
      refine ⟨rfl, .int z, rfl, .ref c, rfl, c, _, rfl, .inr (SqT.of (s2 _ _ hn)), rfl, flat_ints ne, _, rfl, ?_⟩
      show if inV (.int z) (ne.map V.int) = true then _ else _
      rw [in_ints]
      refine ite2 (fun c1 => ?_) (fun c1 => ?_)
      · refine iteT (yes _ _ ?_ (Same.refl _))
        rw [fO_int, c1]
        rfl
      · have c1 := Bool.eq_false_iff.mpr c1
        refine ⟨_, rfl, v, rfl, t, v, rfl, ht.mono (Tk.of s2), by omega, fun H3 p3 s3 n3 e3 => ⟨p3, _, rfl, .inl (SqL.of e3), rfl, flat_ints _, _, rfl, ?_⟩⟩
        show if (!inV (.int z) ((held n t).map V.int)) = true then _ else _
        rw [in_ints]
        have e : (decide (z ∈ ne) || decide (z ∉ held n t)) = !decide (z ∈ held n t) := by rw [c1, Bool.false_or, decide_not]
        refine ite2 (fun c2 => ?_) (fun c2 => ?_)
        · refine yes _ _ ?_ s3
          rw [fO_int, e, c2]
          rfl
        · refine no ?_ _ s3
          rw [fO_int, e, Bool.eq_false_iff.mpr c2]
          rfl
    · rw [fm_o] at e2
      refine ⟨Nat.zero_le _, fun H3 D3 s3 n3 e3 => ?_⟩
      refine ⟨_, .list [], .lst (SqL.of (s3 _ _ e2)) (dp_ints _), .lst (SqL.of e3) .nil, PySem.W.shaped_ints _, PySem.W.shaped_ints [], _, rfl, ?_⟩
      rw [eqv_nil, ones_any]
      have sm := s2.trans s3
      refine ite2 (fun c => ?_) (fun c => ?_)
      · have q := q H3 sm
        rw [LM_law wf nd, if_pos c] at q
        exact q
      · refine ⟨v, rfl, .ref a, rfl, .ref _, rfl, t, v, a, _, mu, ne, rfl, ht.mono (Tk.of sm), wf, nd, hl, sm _ _ hm, sm _ _ hn, fun H4 p4 s4 e4 => ?_⟩
        have q := q H4 (sm.trans s4)
        rw [LM_law wf nd, if_neg c] at q
        exact ⟨p4, _, 0, _, rfl, rfl, SqT.of e4, rfl, q⟩
/-! ## a lot that is drawn -/
def spLot : Sp := fun vs H Q _ => ∃ (b g a : Addr) (ns : List Int) (often : Int), vs = [.ref b, .ref a, .int often] ∧ Bag H b g ∧ a ≠ g ∧ IL H a ns ∧ ns.length ≤ 24 ∧ 0 < often ∧ often < 1000000 ∧ ∀ H' p ms, Kb b g H H' → List.length ms ≤ 24 → IT H' p ms → Q (.ref p) H'
theorem ok_lot (T : Txt K mg) : FnOk P w K mg base CX0 2 T.f_l_lot T.d_l_lot ["_law_bag_here", "_law_row", "_law_often"] spLot := by
  have sc : FnScope ["_law_bag_here", "_law_row", "_law_often", "_law_button"] ["_law_bag_here", "_law_row", "_law_often"] (defScope s_l_lot) := ⟨rfl, rfl, rfl, by decide +kernel, rfl, by decide +kernel, by decide +kernel⟩
  refine T.D_l_lot.F.ok sc (fun vs H Q E h => ?_) (fun cdv A outer s H vs Q E hr h => ?_)
  · obtain ⟨b, g, a, ns, often, rfl, _⟩ := h
    rfl
  · obtain ⟨b, g, a, ns, often, rfl, bag, ng, ha, hl, ho, ho2, q⟩ := h
    refine ⟨_, pss_one (ps_ret (pe_callTy cq_tuple (by rfl) T.n_tuple (by decide +kernel) (pa_cons (le_lc (own := [("_law_button", 3)]) (g := gName 3) (by rfl) sc.nd (pi_list (pe_callB cq_sorted (by rfl) T.n_sorted (by decide +kernel) (pa_cons (pv 1) pa_nil))) (blkOk_by (own := [("_law_button", 3)]) (N := ["_law_bag_here", "_law_row", "_law_often", "_law_button"]) (sc := defScope s_l_lot) (by decide +kernel)) (fun _ _ _ _ _ => pg_name (i := 3) sc.nd rfl (Or.inl rfl))
        (fun _ _ _ _ _ => pts_one ( pt_cmpR op_gt (pe_call (ok_draw T) (hr.mono (by omega)) (by rfl) T.D_l_draw.m T.D_l_draw.F.kp T.D_l_draw.b .nil pass0 (pa_cons (pv 0) (pa_cons (pv 2) pa_nil))) pe_int (nomark _))) (fun _ _ _ _ _ =>  pv 3)) pa_nil))), ?_⟩
    refine ⟨_, rfl, a, ns, rfl, SqL.of ha, by omega, fun ns' pm H1 c s1 n1 e1 => ⟨c, rfl, ⟨_, SqL.of e1⟩, fun D hD => ?_⟩⟩
    have bag1 := bag.same s1
    have hl' : ns'.length ≤ 24 := by rw [pm.length_eq]; exact hl
    have kp : ∀ {H2 : Hp}, Kb b g H1 H2 → H2 c = some (.lst (ns'.map V.int)) := fun kb => kb.keep _ _ (bag1.ne_lst e1) (bag.neg n1) e1
    refine ⟨ns'.length, fun i acc H2 => Kb b g H1 H2 ∧ ∃ ms : List Int, acc = ms.map V.int ∧ ms.length ≤ i, fun H2 s2 _ => ⟨(Kb.refl bag1).same s2, [], rfl, Nat.le_refl 0⟩, fun i acc H2 hi hacc hp => ?_, fun acc H2 hacc hp => ?_⟩
    · obtain ⟨kb, ms, rfl, hms⟩ := hp
      have ec := kp kb
      have hxi : ns'[i]? = some ns'[i] := List.getElem?_eq_getElem hi
      refine ⟨⟨_, .int ns'[i], SqL.of ec, at_int hxi⟩, by rw [List.length_map]; exact small1000 (by omega), fun x H3 hy => ?_⟩
      obtain ⟨rfl, hy⟩ := hy
      have hx := hy _ (SqL.of ec)
      rw [at_int hxi] at hx
      obtain rfl := (Option.some.inj hx).symm
      refine ⟨rfl, .ref b, rfl, .int often, rfl, b, g, often, rfl, kb.bag, ho, ho2, fun H4 r kb4 hr4 => ⟨_, _, rfl, rfl, _, rfl, ?_⟩⟩
      have k14 := kb.trans kb4
      have eD4 : H4 D = some (.lst (ms.map V.int)) := kb4.keep _ _ (kb.bag0.neb hD) (kb.bag0.neg hD) hacc
      refine ite2 (fun c1 => ?_) (fun c1 => ⟨eD4, k14, ms, rfl, Nat.le_succ_of_le hms⟩)
      refine ⟨_, rfl, eD4, fun H7 x7 e7 => ⟨k14.ex hD x7, ms ++ [ns'[i]], (map_last _ _).symm, ?_⟩⟩
      rw [List.length_append]
      exact Nat.succ_le_succ hms
    · obtain ⟨kb, ms, rfl, hms⟩ := hp
      refine ⟨⟨_, SqL.of (kp kb), by rw [List.length_map]; exact Nat.le_refl _⟩, D, _, rfl, SqL.of hacc, fun H3 p s3 n3 e3 => ?_⟩
      exact q H3 p ms ((((Kb.refl bag).same s1).trans kb).same s3) (by omega) e3
end
end K16
namespace K16
open PySem L2
theorem log2_small {n : Nat} (h : n ≤ 16777216) : n.log2 < 1920 := by
  by_cases h0 : n = 0
  · subst h0
    decide
  · exact (Nat.log2_lt h0).mpr (Nat.lt_of_lt_of_le (show n < 2 ^ 25 by omega) (Nat.pow_le_pow_right (by decide) (by decide)))
theorem fm_nat (q : Nat → Bool) (h : Nat → Int) : ∀ l : List Nat, l.filterMap (fun i => if q i then some (V.int (h i)) else none) = ((l.filter q).map h).map V.int
  | [] => rfl
  | j :: l => by
    rw [List.filterMap_cons, List.filter_cons, fm_nat q h l]
    cases q j <;> simp
/-- those of the lots for which c holds -/
theorem paired_filter {H : Hp} {c : List Int → Bool} : ∀ {ls : List (List Int)} {ws : List V}, Paired (LotAt H) ls ws → Paired (LotAt H) (ls.filter c) ((List.range ls.length).filterMap (fun i => (ls[i]?).bind (fun l => if c l then ws[i]? else none)))
  | _, _, .nil => .nil
  | l :: ls, w :: ws, .cons h t => by
    have ih := paired_filter (c := c) t
    rw [List.length_cons, List.range_succ_eq_map, List.filterMap_cons, List.filterMap_map, List.filter_cons]
    have e : ((fun i => ((l :: ls)[i]?).bind (fun l => if c l then (w :: ws)[i]? else none)) ∘ Nat.succ) = fun i => (ls[i]?).bind (fun l => if c l then ws[i]? else none) := by
      funext i
      simp
    rw [e]
    cases hc : c l with
    | true =>
      show Paired (LotAt H) (if true = true then l :: ls.filter c else ls.filter c) _
      rw [if_pos rfl]
      have : ((l :: ls)[0]?).bind (fun l => if c l then (w :: ws)[0]? else none) = some w := by simp [hc]
      rw [this]
      exact .cons h ih
    | false =>
      have : ((l :: ls)[0]?).bind (fun l => if c l then (w :: ws)[0]? else none) = none := by simp [hc]
      rw [this]
      exact ih
section
variable {P : Program} {w : World} {K : PySem.W.Frag} {mg : Str → Option Value} {base : Heap}
/-! ## a drawn lot of at most two buttons -/
def tLot (K : PySem.W.Frag) (w : World) : TE := tCB (qTuple K) (tCons (tCB (qSortSet w) (tCons (tCB (qSetOf K w) (tCons (nLc (iRng1 (tCons (tCall spDraw [] E0 (tCons (tVar 0) (tCons (tC (.int 3)) tNil))) tNil)) (gName 14) tYes (tCall spPick [] E0 (tCons (tVar 0) (tCons (tVar 5) tNil))) [14]) tNil)) tNil)) tNil)
def nLot : TE := fun σ H Q => ∃ (b g w0 : Addr) (wl : List Int), σ[0]? = some (some (.ref b)) ∧ σ[5]? = some (some (.ref w0)) ∧ σ.length = 16 ∧ Bag H b g ∧ w0 ≠ g ∧ IL H w0 wl ∧ 1 ≤ wl.length ∧ wl.length ≤ 100 ∧ ∀ H' p ms, Kb b g H H' → List.length ms ≤ 2 → IT H' p ms → Q (.ref p) H'
theorem lot_to (σ : L2.St) (H : Hp) (Q : VK) (h : nLot σ H Q) : tLot K w σ H Q := by
  obtain ⟨b, g, w0, wl, h0, h5, h16, bag, ng, hw, hl1, hl2, q⟩ := h
  refine ⟨_, h0, b, g, 3, rfl, bag, by decide, by decide, fun H1 r kb1 hr => ?_⟩
  refine ⟨_, rfl, by omega, by omega, fun D hD => ?_⟩
  have bag1 := kb1.bag
  have nw : w0 ≠ b := bag.ne_lst hw
  have hw1 : IL H1 w0 wl := kb1.keep _ _ nw ng hw
  have e14 : (wipe σ [14])[0]? = some (some (.ref b)) := by rw [wipe_out (by decide)]; exact h0
  have e145 : (wipe σ [14])[5]? = some (some (.ref w0)) := by rw [wipe_out (by decide)]; exact h5
  rw [Int.toNat_natCast]
  refine ⟨r, fun i acc H2 => Kb b g H1 H2 ∧ ∃ ms : List Int, acc = ms.map V.int ∧ ms.length = i, fun H2 s2 _ => ⟨(Kb.refl bag1).same s2, [], rfl, rfl⟩, fun i acc H2 hi hacc hp => ?_, fun acc H2 hacc hp => ?_⟩
  · obtain ⟨kb, ms, rfl, hms⟩ := hp
    refine ⟨hi, by rw [List.length_map]; exact small1000 (by omega), fun x H3 hy => ?_⟩
    obtain ⟨rfl, rfl⟩ := hy
    have hw2 : IL H3 w0 wl := kb.keep _ _ nw ng hw1
    have z0 : ((wipe σ [14]).set 14 (some (V.int (0 + (i : Int)))))[0]? = some (some (.ref b)) := by rw [List.getElem?_set_ne (by decide)]; exact e14
    have z5 : ((wipe σ [14]).set 14 (some (V.int (0 + (i : Int)))))[5]? = some (some (.ref w0)) := by rw [List.getElem?_set_ne (by decide)]; exact e145
    have zw : wipe ((wipe σ [14]).set 14 (some (V.int (0 + (i : Int))))) [14] = wipe σ [14] := by
      show (List.set (List.set σ 14 none) 14 (some (V.int (0 + (i : Int))))).set 14 none = List.set σ 14 none
      rw [List.set_set, List.set_set]
    refine ⟨zw, tyes ⟨_, z0, _, z5, b, g, w0, _, rfl, kb.bag, ng, hw2, by rw [List.length_map]; omega, by rw [List.length_map]; omega, fun H4 x kb4 hx => ?_⟩⟩
    obtain ⟨z, _, rfl⟩ := List.mem_map.mp hx
    refine ⟨kb4.keep _ _ (kb.bag0.neb hD) (kb.bag0.neg hD) hacc, fun H7 x7 e7 => ⟨(kb.trans kb4).ex hD x7, ms ++ [z], (map_last _ _).symm, ?_⟩⟩
    rw [List.length_append, hms]
    rfl
  · obtain ⟨kb, ms, rfl, hms⟩ := hp
    refine ⟨Nat.le_refl _, D, ms, rfl, SqL.of hacc, by omega, fun c H3 p hc s3 n3 e3 => ?_⟩
    refine ⟨p, _, c, rfl, e3, by omega, fun ns hns hlen H4 p4 s4 n4 e4 => ⟨p4, _, rfl, SqL.of e4, fun H5 p5 s5 n5 e5 => ?_⟩⟩
    exact q H5 p5 ns (((kb1.trans kb).same s3).same (s4.trans s5)) (by omega) e5
/-! ## is_counted -/
def DueOk (H : Hp) (g : Addr) (n : Nat) (t : Tr n) (due : V) : Prop := due = .non ∨ ∃ (d : Addr) (ws : List V) (dues : List (List Int)), due = .ref d ∧ d ≠ g ∧ H d = some (.lst ws) ∧ Paired (LotAt H) dues ws ∧ dues.length ≤ 128 ∧
  ∀ mu ne : List Int, ((dues.filter (fun l => mu.all (fun b => decide (b ∈ l)))).filter (fun l => ne.all (fun b => decide (b ∉ l)))).length = LM n t mu ne
theorem DueOk.kb {H H' : Hp} {b g : Addr} {n : Nat} {t : Tr n} {due : V} (k : Kb b g H H') (h : DueOk H g n t due) : DueOk H' g n t due := by
  rcases h with h | ⟨d, ws, dues, e, ng, hd, pr, hl, hc⟩
  · exact .inl h
  · exact .inr ⟨d, ws, dues, e, ng, k.keep _ _ (k.bag0.ne_lst hd) ng hd, paired_mono (fun _ _ z => z.mono k.tk) pr, hl, hc⟩
theorem DueOk.same {H H' : Hp} {g : Addr} {n : Nat} {t : Tr n} {due : V} (k : Same H H') (h : DueOk H g n t due) : DueOk H' g n t due := by
  rcases h with h | ⟨d, ws, dues, e, ng, hd, pr, hl, hc⟩
  · exact .inl h
  · exact .inr ⟨d, ws, dues, e, ng, k _ _ hd, paired_mono (fun _ _ z => z.mono (Tk.of k)) pr, hl, hc⟩
/-- the inner list of a test upon a lot: a one for each button of ms with q -/
theorem ones_none {K : PySem.W.Frag} (q : Int → Bool) (ms : List Int) {H H' : Hp} {D o : Addr} (e : H D = some (.lst (((ms.filter q).map (fun _ => (1 : Int))).map V.int))) (s : Same H H') (e' : H' o = some (.lst [])) {Q : VK} (h : Q (.bl (ms.all (fun z => !q z))) H') :
    rEqD K (.ref D) (.ref o) H' Q := by
  refine ⟨_, .list [], .lst (SqL.of (s _ _ e)) (dp_ints _), .lst (SqL.of e') .nil, PySem.W.shaped_ints _, PySem.W.shaped_ints [], ?_⟩
  rw [eqv_nil]
  have : (((ms.filter q).map (fun _ => (1 : Int))).isEmpty) = ms.all (fun z => !q z) := by
    rw [← Bool.not_not (b := List.isEmpty _), ones_any, ← List.not_any_eq_all_not]
  rw [this]
  exact h
def spCounted (n : Nat) : Sp := fun vs H Q _ => ∃ (b g : Addr) (t : Tr n) (v : V) (a : Addr) (ns : List Int) (due : V), vs = [.ref b, v, .ref a, due] ∧ Bag H b g ∧ TAt H n t v ∧ WF n t ∧ (held n t).Nodup ∧ (held n t).length ≤ 24 ∧ a ≠ g ∧ IL H a ns ∧ 1 ≤ ns.length ∧ ns.length ≤ 24 ∧ (∀ z, z ∈ ns → z ∈ held n t) ∧
  DueOk H g n t due ∧ ∀ H', Kb b g H H' → Q (.bl true) H'
set_option maxHeartbeats 4000000 in
theorem ok_counted (T : Txt K mg) (n : Nat) : FnOk P w K mg base CX0 (n + 5) T.f_l_is_counted T.d_l_is_counted ["_law_bag_here", "_law_tree_here", "_law_row", "_law_due"] (spCounted n) := by
  have sc : FnScope ["_law_bag_here", "_law_tree_here", "_law_row", "_law_due", "_law_button", "_law_wide", "_law_turn", "_law_must", "_law_never", "_law_answer", "_law_lacking", "_law_found", "_law_free", "_law_with_it", "_law_one", "_law_some"] ["_law_bag_here", "_law_tree_here", "_law_row", "_law_due"] (defScope s_l_is_counted) := ⟨rfl, rfl, rfl, by decide +kernel, rfl, by decide +kernel, by decide +kernel⟩
  refine T.D_l_is_counted.F.ok sc (fun vs H Q E h => ?_) (fun cdv A outer s H vs Q E hr h => ?_)
  · obtain ⟨b, g, t, v, a, ns, due, rfl, _⟩ := h
    rfl
  · obtain ⟨b, g, t, v, a, ns, due, rfl, bag, ht, wf, nd, hl, ng, ha, hn1, hn2, hsub, hdue, q⟩ := h
    refine ⟨_, pss_cons (ps_set (i := 5) sc.nd rfl (.inr rfl) (pe_op oq_cat (pv 2) (pe_slice sq_list (le_lc (own := [("_law_button", 4)]) (g := gName 4) (by rfl) sc.nd (pi_range1 (by rfl) T.n_range (pa_cons pe_int pa_nil)) (blkOk_by (own := [("_law_button", 4)]) (N := ["_law_bag_here", "_law_tree_here", "_law_row", "_law_due", "_law_button", "_law_wide", "_law_turn", "_law_must", "_law_never", "_law_answer", "_law_lacking", "_law_found", "_law_free", "_law_with_it", "_law_one", "_law_some"]) (sc := defScope s_l_is_counted) (by decide +kernel)) (fun _ _ _ _ _ => pg_name (i := 4) sc.nd rfl (Or.inl rfl)) (fun _ _ _ _ _ => pts_one ( pt_cmpR (onin K) (pv 4) (pv 2) (by rfl))) (fun _ _ _ _ _ =>  pv 4)) po_none (po_some pe_int))))
      (pss_cons (ps_for PassesOwn.never rfl (pi_range1 (by rfl) T.n_range (pa_cons pe_int pa_nil)) (pg_name (i := 6) sc.nd rfl (.inl rfl))
        (pss_cons (ps_set (i := 7) sc.nd rfl (.inr rfl) (imp_e (pe_callTy cq_tuple (by rfl) T.n_tuple (by decide +kernel) (pa_cons (pe_callB (cq_sortSet rfl) (by rfl) T.n_sorted (by decide +kernel) (pa_cons (pe_callTy (cq_setOf rfl) (by rfl) T.n_set (by decide +kernel) (pa_cons (le_lc (own := [("_law_one", 14)]) (g := gName 14) (by rfl) sc.nd (pi_range1 (by rfl) T.n_range (pa_cons (pe_call (ok_draw T) (hr.mono (by omega)) (by rfl) T.D_l_draw.m T.D_l_draw.F.kp T.D_l_draw.b .nil pass0 (pa_cons (pv 0) (pa_cons pe_int pa_nil))) pa_nil)) (blkOk_by (own := [("_law_one", 14)]) (N := ["_law_bag_here", "_law_tree_here", "_law_row", "_law_due", "_law_button", "_law_wide", "_law_turn", "_law_must", "_law_never", "_law_answer", "_law_lacking", "_law_found", "_law_free", "_law_with_it", "_law_one", "_law_some"]) (sc := defScope s_l_is_counted) (by decide +kernel)) (fun _ _ _ _ _ => pg_name (i := 14) sc.nd rfl (Or.inl rfl)) (fun _ _ _ _ _ => pts_nil) (fun _ _ _ _ _ =>  pe_call (ok_pick T) (hr.mono (by omega)) (by rfl) T.D_l_pick.m T.D_l_pick.F.kp T.D_l_pick.b .nil pass0 (pa_cons (pv 0) (pa_cons (pv 5) pa_nil)))) pa_nil)) pa_nil)) pa_nil)) (lot_to (K := K) (w := w))))
        (pss_cons (ps_set (i := 8) sc.nd rfl (.inr rfl) (imp_e (pe_callTy cq_tuple (by rfl) T.n_tuple (by decide +kernel) (pa_cons (pe_callB (cq_sortSet rfl) (by rfl) T.n_sorted (by decide +kernel) (pa_cons (pe_callTy (cq_setOf rfl) (by rfl) T.n_set (by decide +kernel) (pa_cons (le_lc (own := [("_law_one", 14)]) (g := gName 14) (by rfl) sc.nd (pi_range1 (by rfl) T.n_range (pa_cons (pe_call (ok_draw T) (hr.mono (by omega)) (by rfl) T.D_l_draw.m T.D_l_draw.F.kp T.D_l_draw.b .nil pass0 (pa_cons (pv 0) (pa_cons pe_int pa_nil))) pa_nil)) (blkOk_by (own := [("_law_one", 14)]) (N := ["_law_bag_here", "_law_tree_here", "_law_row", "_law_due", "_law_button", "_law_wide", "_law_turn", "_law_must", "_law_never", "_law_answer", "_law_lacking", "_law_found", "_law_free", "_law_with_it", "_law_one", "_law_some"]) (sc := defScope s_l_is_counted) (by decide +kernel)) (fun _ _ _ _ _ => pg_name (i := 14) sc.nd rfl (Or.inl rfl)) (fun _ _ _ _ _ => pts_nil) (fun _ _ _ _ _ =>  pe_call (ok_pick T) (hr.mono (by omega)) (by rfl) T.D_l_pick.m T.D_l_pick.F.kp T.D_l_pick.b .nil pass0 (pa_cons (pv 0) (pa_cons (pv 5) pa_nil)))) pa_nil)) pa_nil)) pa_nil)) (lot_to (K := K) (w := w))))
        (pss_cons (cl_s (ps_if (pt_cmpR op_eq (pv 6) pe_int (nomark _)) (pss_one (ps_asg (le_tup (pa_cons (le_tup pa_nil) (pa_cons (le_tup pa_nil) pa_nil))) (pg_tup rfl (pgs_cons (pg_name (i := 7) sc.nd rfl (.inr rfl)) (pgs_cons (pg_name (i := 8) sc.nd rfl (.inr rfl)) pgs_nil))))) pss_nil))
        (pss_cons (ps_set (i := 9) sc.nd rfl (.inl rfl) (pe_call (ok_llm T n) (hr.mono (by omega)) (by rfl) T.D_l_least_many.m T.D_l_least_many.F.kp T.D_l_least_many.b .nil pass0 (pa_cons (pv 1) (pa_cons (pv 7) (pa_cons (pv 8) pa_nil)))))
        (pss_cons (cl_s (ps_if (pt_cmpR op_notN (pv 3) pe_non (nomark _))
          (pss_cons (le_setLc (i := 10) (own := [("_law_some", 15)]) (g := gName 15) (by rfl) sc.nd rfl rfl (sw_true rfl rfl rfl (by decide +kernel)) (pi_list (pv 3)) (blkOk_by (own := [("_law_some", 15)]) (N := ["_law_bag_here", "_law_tree_here", "_law_row", "_law_due", "_law_button", "_law_wide", "_law_turn", "_law_must", "_law_never", "_law_answer", "_law_lacking", "_law_found", "_law_free", "_law_with_it", "_law_one", "_law_some"]) (sc := defScope s_l_is_counted) (by decide +kernel)) (fun _ _ _ _ _ => pg_name (i := 15) sc.nd rfl (Or.inr rfl))
              (tt := tTest (tOp (rEqD K) (nLc (iTup K (tVar 7)) (gName 4) (tTest (tOp (rIn K true) (tVar 4) (tVar 15))) (tC (.int 1)) [4]) (nLst tNil)))
              (fun _ _ _ _ _ => pts_one (pt_cmpR (oeqD K hr.units) (le_lc (own := [("_law_button", 4)]) (g := gName 4) (by rfl) sc.nd (pit K (pv 7)) (blkOk_by (own := [("_law_button", 4)]) (N := ["_law_bag_here", "_law_tree_here", "_law_row", "_law_due", "_law_button", "_law_wide", "_law_turn", "_law_must", "_law_never", "_law_answer", "_law_lacking", "_law_found", "_law_free", "_law_with_it", "_law_one", "_law_some"]) (sc := relS _ (defScope s_l_is_counted)) (by decide +kernel)) (fun _ _ _ _ _ => pg_name (i := 4) sc.nd rfl (Or.inl rfl))
                (fun _ _ _ _ _ => pts_one (pt_cmpR (onin K) (pv 4) (pv 15) (by rfl))) (fun _ _ _ _ _ => pe_int)) (le_lst pa_nil) (nomark _))) (fun _ _ _ _ _ => pv 15))
          (pss_one (ps_set (i := 9) sc.nd rfl (.inl rfl) (pe_callB call_len_seq (by rfl) T.n_len (by decide +kernel) (pa_cons (le_lc (own := [("_law_some", 15)]) (g := gName 15) (by rfl) sc.nd (pi_list (pv 10)) (blkOk_by (own := [("_law_some", 15)]) (N := ["_law_bag_here", "_law_tree_here", "_law_row", "_law_due", "_law_button", "_law_wide", "_law_turn", "_law_must", "_law_never", "_law_answer", "_law_lacking", "_law_found", "_law_free", "_law_with_it", "_law_one", "_law_some"]) (sc := defScope s_l_is_counted) (by decide +kernel)) (fun _ _ _ _ _ => pg_name (i := 15) sc.nd rfl (Or.inr rfl))
              (tt := tTest (tOp (rEqD K) (nLc (iTup K (tVar 8)) (gName 4) (tTest (tOp (rIn K false) (tVar 4) (tVar 15))) (tC (.int 1)) [4]) (nLst tNil)))
              (fun _ _ _ _ _ => pts_one (pt_cmpR (oeqD K hr.units) (le_lc (own := [("_law_button", 4)]) (g := gName 4) (by rfl) sc.nd (pit K (pv 8)) (blkOk_by (own := [("_law_button", 4)]) (N := ["_law_bag_here", "_law_tree_here", "_law_row", "_law_due", "_law_button", "_law_wide", "_law_turn", "_law_must", "_law_never", "_law_answer", "_law_lacking", "_law_found", "_law_free", "_law_with_it", "_law_one", "_law_some"]) (sc := relS _ (defScope s_l_is_counted)) (by decide +kernel)) (fun _ _ _ _ _ => pg_name (i := 4) sc.nd rfl (Or.inl rfl))
                (fun _ _ _ _ _ => pts_one (pt_cmpR (oin K) (pv 4) (pv 15) (by rfl))) (fun _ _ _ _ _ => pe_int)) (le_lst pa_nil) (nomark _))) (fun _ _ _ _ _ => pv 15)) pa_nil))))) pss_nil))
        (pss_cons (ps_set (i := 11) sc.nd rfl (.inl rfl) (cl_e (pe_ifExp (pt_cmpR op_lt (pv 6) pe_int (nomark _)) (pe_call (ok_lc T n) (hr.mono (by omega)) (by rfl) T.D_least_count.m T.D_least_count.F.kp T.D_least_count.b .nil pass0 (pa_cons (pv 1) (pa_cons (pv 7) (pa_cons (pv 8) pa_nil))))
            (le_callK (ok_lc T n) (hr.mono (by omega)) (by rfl) T.D_least_count.m T.D_least_count.F.kp (kb_lc T.D_least_count) pass0 (pk_cons (pv 8) (pk_cons (pv 7) (pk_cons (pv 1) pk_nil)))))))
        (pss_cons (ps_if (pt_cmpR op_ne (pe_callB SkE.call_repr_int (by rfl) T.n_repr (by decide +kernel) (pa_cons (pv 11) pa_nil)) (pe_callB SkE.call_repr_int (by rfl) T.n_repr (by decide +kernel) (pa_cons (pv 9) pa_nil)) (nomark _)) (pss_one (ps_ret pe_bl)) pss_nil)
        (pss_cons (le_setLc (i := 12) (own := [("_law_button", 4)]) (g := gName 4) (by rfl) sc.nd rfl rfl (sw_true rfl rfl rfl (by decide +kernel)) (pi_list (pv 2)) (blkOk_by (own := [("_law_button", 4)]) (N := ["_law_bag_here", "_law_tree_here", "_law_row", "_law_due", "_law_button", "_law_wide", "_law_turn", "_law_must", "_law_never", "_law_answer", "_law_lacking", "_law_found", "_law_free", "_law_with_it", "_law_one", "_law_some"]) (sc := defScope s_l_is_counted) (by decide +kernel)) (fun _ _ _ _ _ => pg_name (i := 4) sc.nd rfl (Or.inl rfl)) (fun _ _ _ _ _ => pts_one ( PW.pt (pw_and (pt_cmpR (onin K) (pv 4) (pv 7) (by rfl)) (pw_and1 (pt_cmpR (onin K) (pv 4) (pv 8) (by rfl)))))) (fun _ _ _ _ _ =>  pv 4))
        (pss_one (ps_if (pt_cmpR (oneD K hr.units) (pv 12) (le_lst pa_nil) (nomark _))
          (pss_cons (ps_set (i := 4) sc.nd rfl (.inl rfl) (pe_call (ok_pick T) (hr.mono (by omega)) (by rfl) T.D_l_pick.m T.D_l_pick.F.kp T.D_l_pick.b .nil pass0 (pa_cons (pv 0) (pa_cons (pv 12) pa_nil))))
          (pss_cons (ps_set (i := 13) sc.nd rfl (.inl rfl) (pe_call (ok_lc T n) (hr.mono (by omega)) (by rfl) T.D_least_count.m T.D_least_count.F.kp T.D_least_count.b .nil pass0 (pa_cons (pv 1) (pa_cons (pe_callTy cq_tuple (by rfl) T.n_tuple (by decide +kernel) (pa_cons (pe_callB cq_sortT (by rfl) T.n_sorted (by decide +kernel) (pa_cons (pe_op oq_catT (pv 7) (le_tup (pa_cons (pv 4) pa_nil))) pa_nil)) pa_nil)) (pa_cons (pv 8) pa_nil)))))
          (pss_one (ps_if (pt_cmpR op_ne (pe_op op_add (pv 13) (pe_call (ok_lc T n) (hr.mono (by omega)) (by rfl) T.D_least_count.m T.D_least_count.F.kp T.D_least_count.b .nil pass0 (pa_cons (pv 1) (pa_cons (pv 7) (pa_cons (pe_callTy cq_tuple (by rfl) T.n_tuple (by decide +kernel) (pa_cons (pe_callB cq_sortT (by rfl) T.n_sorted (by decide +kernel) (pa_cons (pe_op oq_catT (pv 8) (le_tup (pa_cons (pv 4) pa_nil))) pa_nil)) pa_nil)) pa_nil))))) (pv 11) (nomark _)) (pss_one (ps_ret pe_bl)) pss_nil)))) pss_nil)))))))))))
      (pss_one (ps_ret pe_bl))), ?_⟩
    refine ⟨_, rfl, _, rfl, by decide, by decide, lc_fun 100 (fun i => if (!decide ((i : Int) ∈ ns)) = true then some (.int (i : Nat)) else none) (fun i x _ => x = .int (0 + (i : Int))) (by omega) (fun i H' hi s' => hi) (fun i H' x H'' hi s' y => ?_) (fun H' s' => Nat.le_refl _) (fun i x H' Yes No hi hx s' yes no => ?_) (fun H1 D s1 nD eD => ?_)⟩
    · obtain ⟨rfl, rfl⟩ := y
      exact ⟨Same.refl _, rfl⟩
    · obtain rfl := hx
      refine ⟨rfl, _, rfl, _, rfl, a, _, rfl, .inl (SqL.of (s' _ _ ha)), rfl, flat_ints ns, _, rfl, ?_⟩
      show if (!inV (.int (0 + (i : Int))) (ns.map V.int)) = true then _ else _
      rw [in_ints, Int.zero_add]
      refine ite2 (fun c => ?_) (fun c => ?_)
      · exact ⟨_, rfl, yes _ _ (by rw [if_pos c]) (Same.refl _)⟩
      · exact no (by rw [if_neg c]) _ (Same.refl _)
    · rw [fm_nat (fun i => !decide ((i : Int) ∈ ns)) (fun i : Nat => (i : Int))] at eD
      generalize ((List.range 100).filter (fun i : Nat => !decide ((i : Int) ∈ ns))).map (fun i : Nat => (i : Int)) = zs at eD
      refine ⟨3, rfl, D, _, rfl, SqL.of eD, fun H2 c s2 n2 e2 => ?_⟩
      rw [show (3 : Int) = ((3 : Nat) : Int) from rfl, cut_to] at e2
      have zl : (zs.take 3).length ≤ 3 := by rw [List.length_take]; exact Nat.min_le_left _ _
      generalize zs.take 3 = z3 at e2 zl
      refine ⟨a, c, _, _, rfl, rfl, s2 _ _ (s1 _ _ ha), e2, small (by rw [List.length_map, List.length_map]; omega), fun H3 w0 s3 n3 e3 => ?_⟩
      rw [← List.map_append] at e3
      have s03 : Same H H3 := (s1.trans s2).trans s3
      have nw0 : H w0 = none := (s1.trans s2).free n3
      have hw0 : IL H3 w0 (ns ++ z3) := e3
      have hw1 : 1 ≤ (ns ++ z3).length := by rw [List.length_append]; omega
      have hw2 : (ns ++ z3).length ≤ 27 := by rw [List.length_append]; omega
      generalize ns ++ z3 = wl at hw0 hw1 hw2
      clear e3 e2 eD zl n3 n2 nD
      refine ⟨4, rfl, by decide, by decide, ?_⟩
      refine for_range (n := 4) (fun i σ H4 => ∃ y4 y6 y7 y8 y9 y10 y11 y12 y13, σ = [some (.ref b), some v, some (.ref a), some due, y4, some (.ref w0), y6, y7, y8, y9, y10, y11, y12, y13, none, none] ∧ Kb b g H H4 ∧ IL H4 w0 wl)
        ⟨_, _, _, _, _, _, _, _, _, rfl, (Kb.refl bag).same s03, hw0⟩ (fun i σ H4 hi hp => ?_) (fun σ H4 hp => ?_)
      · obtain ⟨y4, y6, y7, y8, y9, y10, y11, y12, y13, rfl, kb, hw⟩ := hp
        have ngw : w0 ≠ g := bag.neg nw0
        refine ⟨b, g, w0, wl, rfl, rfl, rfl, kb.bag, ngw, hw, hw1, by omega, fun H5 m mu kb5 hmu hm => ?_⟩
        have hw5 : IL H5 w0 wl := kb5.keep _ _ (kb.bag.ne_lst hw) ngw hw
        refine ⟨b, g, w0, wl, rfl, rfl, rfl, kb5.bag, ngw, hw5, hw1, by omega, fun H6 e ne kb6 hne he => ?_⟩
        have hw6 : IL H6 w0 wl := kb6.keep _ _ (kb5.bag.ne_lst hw5) ngw hw5
        have kb06 := (kb.trans kb5).trans kb6
        refine ⟨fun σ' H' => ∃ (m e : Addr) (mu ne : List Int), σ' = [some (.ref b), some v, some (.ref a), some due, y4, some (.ref w0), some (.int (0 + (i : Int))), some (.ref m), some (.ref e), y9, y10, y11, y12, y13, none, none] ∧ Kb b g H H' ∧ IL H' w0 wl ∧ IT H' m mu ∧ IT H' e ne ∧ mu.length ≤ 2 ∧ ne.length ≤ 2, ?_, fun σ' H7 hN => ?_⟩
        · refine ⟨_, rfl, rfl, _, rfl, ?_⟩
          refine ite2 (fun c1 => ?_) (fun c1 => ⟨m, e, mu, ne, rfl, kb06, hw6, kb6.tk _ _ hm, he, hmu, hne⟩)
          refine ⟨Nat.zero_le _, fun H7 m' s7 n7 e7 => ⟨Nat.zero_le _, fun H8 e' s8 n8 e8 => ⟨(by show 2 ≤ sizeLine; decide), fun H9 tt s9 n9 e9 => ?_⟩⟩⟩
          exact ⟨tt, _, rfl, SqT.of e9, rfl, _, _, rfl, _, _, rfl, rfl, m', e', [], [], rfl, kb06.same ((s7.trans s8).trans s9), s9 _ _ (s8 _ _ (s7 _ _ hw6)), s9 _ _ (s8 _ _ e7), s9 _ _ e8, Nat.zero_le _, Nat.zero_le _⟩
        · clear hw hw5 hw6 hm he hmu hne kb5 kb6 kb06
          obtain ⟨m, e, mu, ne, rfl, kb7, hw7, hm7, he7, hml, hel⟩ := hN
          refine ⟨v, rfl, .ref m, rfl, .ref e, rfl, t, v, m, e, mu, ne, rfl, ht.mono kb7.tk, wf, nd, hl, hm7, by omega, he7, fun H8 s8 => ?_⟩
          refine ⟨fun σ' H' => ∃ y10, σ' = [some (.ref b), some v, some (.ref a), some due, y4, some (.ref w0), some (.int (0 + (i : Int))), some (.ref m), some (.ref e), some (.int (LM n t mu ne : Nat)), y10, y11, y12, y13, none, none] ∧ Same H8 H', ?_, fun σ' H9 hN => ?_⟩
          · refine ⟨_, rfl, rfl, _, rfl, ?_⟩
            have sm8 := s8
            have kb8 := kb7.same s8
            have hm8 := s8 _ _ hm7
            have he8 := s8 _ _ he7
            rcases hdue.kb kb8 with rfl | ⟨d, ws, dues, rfl, ngd, hd, pr, hdl, hc⟩
            · exact iteF ⟨_, rfl, Same.refl _⟩
            · have pl := paired_len pr
              refine iteT ⟨_, rfl, d, rfl, ⟨_, SqL.of hd⟩, lc_fun dues.length (fun j => (dues[j]?).bind (fun l => if mu.all (fun b => decide (b ∈ l)) then ws[j]? else none)) (fun j x _ => ws[j]? = some x) (by omega) (fun j H' hj s' => ⟨ws, ws[j], SqL.of (s' _ _ hd), List.getElem?_eq_getElem (by omega)⟩) (fun j H' x H'' hj s' y => ?_) (fun H' s' => ⟨ws, SqL.of (s' _ _ hd), by omega⟩) (fun j x H' Yes No hj hx s' yes no => ?_) (fun H9 D s9 nD eD => ?_)⟩
              · obtain ⟨rfl, y⟩ := y
                exact ⟨Same.refl _, y ws (SqL.of (s' _ _ hd))⟩
              · obtain ⟨l, hlj, tt, rfl, htt⟩ := paired_at pr hx
                have htt' := s' _ _ htt
                refine ⟨rfl, _, rfl, m, rfl, ⟨_, SqT.of (s' _ _ hm8)⟩, lc_funT (fO (fun b => !decide (b ∈ l))) (SqT.of (s' _ _ hm8)) (by rw [List.length_map]; omega) (fun j2 y H2 Yes2 No2 hy s2 yes2 no2 => ?_) (fun H2 D2 s2 n2 e2 => ?_)⟩
                · obtain ⟨z, hz, rfl⟩ := int_at hy
                  refine ⟨rfl, .int z, rfl, .ref tt, rfl, tt, _, rfl, .inr (SqT.of (s2 _ _ htt')), rfl, flat_ints l, _, rfl, ?_⟩
                  show if (!inV (.int z) (l.map V.int)) = true then _ else _
                  rw [in_ints]
                  refine ite2 (fun c => ?_) (fun c => ?_)
                  · exact yes2 _ _ (by rw [fO_int, if_pos c]) (Same.refl _)
                  · exact no2 (by rw [fO_int, if_neg c]) _ (Same.refl _)
                · rw [fm_o] at e2
                  refine ⟨Nat.zero_le _, fun H3 o s3 n3 e3 => ones_none _ mu e2 s3 e3 ⟨_, rfl, ?_⟩⟩
                  simp only [Bool.not_not]
                  refine ite2 (fun c => ?_) (fun c => ?_)
                  · exact ⟨_, rfl, yes _ _ (by rw [hlj]; show (if mu.all (fun b => decide (b ∈ l)) = true then ws[j]? else none) = _; rw [if_pos c, hx]) (s2.trans s3)⟩
                  · exact no (by rw [hlj]; show (if mu.all (fun b => decide (b ∈ l)) = true then ws[j]? else none) = _; rw [if_neg c]) _ (s2.trans s3)
              · have pr1 := paired_filter (c := fun l => mu.all (fun b => decide (b ∈ l))) (paired_mono (fun _ _ z => z.mono (Tk.of s9)) pr)
                generalize (List.range dues.length).filterMap _ = ws1 at eD pr1
                generalize hd1 : dues.filter (fun l => mu.all (fun b => decide (b ∈ l))) = dues1 at pr1
                have pl1 := paired_len pr1
                have hdl1 : dues1.length ≤ 128 := by
                  rw [← hd1]
                  exact Nat.le_trans (List.length_filter_le _ _) hdl
                have he9 := s9 _ _ he8
                refine ⟨_, rfl, D, rfl, ⟨_, SqL.of eD⟩, lc_fun dues1.length (fun j => (dues1[j]?).bind (fun l => if ne.all (fun b => decide (b ∉ l)) then ws1[j]? else none)) (fun j x _ => ws1[j]? = some x) (by omega) (fun j H' hj s' => ⟨ws1, ws1[j], SqL.of (s' _ _ eD), List.getElem?_eq_getElem (by omega)⟩) (fun j H' x H'' hj s' y => ?_) (fun H' s' => ⟨ws1, SqL.of (s' _ _ eD), by omega⟩) (fun j x H' Yes No hj hx s' yes no => ?_) (fun H10 D2 s10 nD2 eD2 => ?_)⟩
                · obtain ⟨rfl, y⟩ := y
                  exact ⟨Same.refl _, y ws1 (SqL.of (s' _ _ eD))⟩
                · obtain ⟨l, hlj, tt, rfl, htt⟩ := paired_at pr1 hx
                  have htt' := s' _ _ htt
                  refine ⟨rfl, _, rfl, e, rfl, ⟨_, SqT.of (s' _ _ he9)⟩, lc_funT (fO (fun b => decide (b ∈ l))) (SqT.of (s' _ _ he9)) (by rw [List.length_map]; omega) (fun j2 y H2 Yes2 No2 hy s2 yes2 no2 => ?_) (fun H2 D3 s2 n2 e2 => ?_)⟩
                  · obtain ⟨z, hz, rfl⟩ := int_at hy
                    refine ⟨rfl, .int z, rfl, .ref tt, rfl, tt, _, rfl, .inr (SqT.of (s2 _ _ htt')), rfl, flat_ints l, _, rfl, ?_⟩
                    show if inV (.int z) (l.map V.int) = true then _ else _
                    rw [in_ints]
                    refine ite2 (fun c => ?_) (fun c => ?_)
                    · exact yes2 _ _ (by rw [fO_int, if_pos c]) (Same.refl _)
                    · exact no2 (by rw [fO_int, if_neg c]) _ (Same.refl _)
                  · rw [fm_o] at e2
                    refine ⟨Nat.zero_le _, fun H3 o s3 n3 e3 => ones_none _ ne e2 s3 e3 ⟨_, rfl, ?_⟩⟩
                    simp only [← decide_not]
                    refine ite2 (fun c => ?_) (fun c => ?_)
                    · exact ⟨_, rfl, yes _ _ (by rw [hlj]; show (if ne.all (fun b => decide (b ∉ l)) = true then ws1[j]? else none) = _; rw [if_pos c, hx]) (s2.trans s3)⟩
                    · exact no (by rw [hlj]; show (if ne.all (fun b => decide (b ∉ l)) = true then ws1[j]? else none) = _; rw [if_neg c]) _ (s2.trans s3)
                · have pr2 := paired_filter (c := fun l => ne.all (fun b => decide (b ∉ l))) (paired_mono (fun _ _ z => z.mono (Tk.of s10)) pr1)
                  generalize (List.range dues1.length).filterMap _ = ws2 at eD2 pr2
                  have pl2 := paired_len pr2
                  have hc2 := hc mu ne
                  rw [hd1, pl2] at hc2
                  refine ⟨D2, _, rfl, .inl (SqL.of eD2), some (.ref D), ?_, s9.trans s10⟩
                  rw [hc2]
                  rfl
          · obtain ⟨y10, rfl, s9⟩ := hN
            have sm := s8.trans s9
            have hm9 := sm _ _ hm7
            have he9 := sm _ _ he7
            have kb9 := kb7.same sm
            have ht9 := ht.mono kb9.tk
            refine ⟨fun x H1 => Same H9 H1 ∧ x = .int (LM n t mu ne : Nat), ?_, fun x H10 hx => ?_⟩
            · refine ⟨_, rfl, _, _, rfl, rfl, _, rfl, ?_⟩
              refine ite2 (fun c1 => ?_) (fun c1 => ?_)
              · exact ⟨v, rfl, .ref m, rfl, .ref e, rfl, t, v, m, e, mu, ne, rfl, ht9, wf, nd, hl, hm9, by omega, he9, fun H' s' => ⟨s', rfl⟩⟩
              · exact ⟨.ref e, rfl, .ref m, rfl, v, rfl, t, v, m, e, mu, ne, rfl, ht9, wf, nd, hl, hm9, by omega, he9, fun H' s' => ⟨s', rfl⟩⟩
            · obtain ⟨s10, rfl⟩ := hx
              have sm10 := sm.trans s10
              have kb10 := kb7.same sm10
              have ht10 := ht.mono kb10.tk
              have ha10 := kb10.keep _ _ (bag.ne_lst ha) ng ha
              have hm10 := sm10 _ _ hm7
              have he10 := sm10 _ _ he7
              have hLM : LM n t mu ne ≤ 16777216 := Nat.le_trans (LM_le wf nd mu ne) (pow24 hl)
              have hlog : ((LM n t mu ne : Nat) : Int).natAbs.log2 < 1920 := log2_small hLM
              refine ⟨_, rfl, _, rfl, hlog, _, rfl, _, rfl, hlog, rfl, _, rfl, iteNS rfl ?_⟩
              refine ⟨_, rfl, a, rfl, ⟨_, SqL.of ha10⟩, lc_funL (fI (fun z => !decide (z ∈ mu) && !decide (z ∈ ne))) (SqL.of ha10) (by rw [List.length_map]; omega) (fun j x H2 Yes No hx s2 yes no => ?_) (fun H11 D s11 nD eD => ?_)⟩
              · obtain ⟨z, hz, rfl⟩ := int_at hx
                refine ⟨rfl, .int z, rfl, .ref m, rfl, m, _, rfl, .inr (SqT.of (s2 _ _ hm10)), rfl, flat_ints mu, _, rfl, ?_⟩
                show if (!inV (.int z) (mu.map V.int)) = true then _ else _
                rw [in_ints]
                cases c1 : decide (z ∈ mu) with
                | true => exact iteF (iteF (no (by rw [fI_int, c1]; rfl) _ (Same.refl _)))
                | false =>
                  refine iteT ⟨.int z, rfl, .ref e, rfl, e, _, rfl, .inr (SqT.of (s2 _ _ he10)), rfl, flat_ints ne, _, rfl, ?_⟩
                  show if (!inV (.int z) (ne.map V.int)) = true then _ else _
                  rw [in_ints]
                  cases c2 : decide (z ∈ ne) with
                  | true => exact iteF (no (by rw [fI_int, c1, c2]; rfl) _ (Same.refl _))
                  | false => exact iteT ⟨.int z, rfl, yes _ _ (by rw [fI_int, c1, c2]; rfl) (Same.refl _)⟩
              · rw [fm_ints] at eD
                have hfs : ∀ z, z ∈ ns.filter (fun z => !decide (z ∈ mu) && !decide (z ∈ ne)) → z ∈ held n t ∧ z ∉ mu ∧ z ∉ ne := fun z hz => by
                  obtain ⟨h1, h2⟩ := List.mem_filter.mp hz
                  simp only [Bool.and_eq_true, Bool.not_eq_true', decide_eq_false_iff_not] at h2
                  exact ⟨hsub z h1, h2.1, h2.2⟩
                have hfl : (ns.filter (fun z => !decide (z ∈ mu) && !decide (z ∈ ne))).length ≤ 24 := Nat.le_trans (List.length_filter_le _ _) hn2
                generalize ns.filter (fun z => !decide (z ∈ mu) && !decide (z ∈ ne)) = fs at eD hfs hfl
                refine ⟨_, rfl, Nat.zero_le _, fun H12 o s12 n12 e12 => ?_⟩
                have eD12 := s12 _ _ eD
                refine ⟨_, .list [], .lst (SqL.of eD12) (dp_ints _), .lst (SqL.of e12) .nil, PySem.W.shaped_ints _, PySem.W.shaped_ints [], _, rfl, ?_⟩
                rw [eqv_nil]
                have sm12 := (sm10.trans s11).trans s12
                have kb12 := kb7.same sm12
                have hw12 := sm12 _ _ hw7
                cases hfe : fs.isEmpty with
                | true => exact iteF ⟨_, _, _, _, _, _, _, _, _, rfl, kb12, hw12⟩
                | false =>
                  have hf0 : 0 < fs.length := by
                    cases fs with
                    | nil => cases hfe
                    | cons x r => exact Nat.succ_pos _
                  have nDg : D ≠ g := kb10.bag.neg nD
                  refine iteT ⟨_, rfl, _, rfl, b, g, D, _, rfl, kb12.bag, nDg, eD12, by rw [List.length_map]; omega, by rw [List.length_map]; omega, fun H13 x kb13 hx => ?_⟩
                  obtain ⟨z, hz, rfl⟩ := List.mem_map.mp hx
                  obtain ⟨hz1, hz2, hz3⟩ := hfs z hz
                  have kb013 := kb12.trans kb13
                  have ht13 := ht.mono kb013.tk
                  have hm13 := kb13.tk _ _ (sm12 _ _ hm7)
                  have he13 := kb13.tk _ _ (sm12 _ _ he7)
                  have hw13 := kb13.keep _ _ (kb12.bag.ne_lst hw12) ngw hw12
                  refine ⟨v, rfl, .ref m, rfl, .int z, rfl, (by show 1 ≤ sizeLine; decide), fun H14 p14 s14 n14 e14 => ⟨m, p14, mu.map V.int, [.int z], rfl, rfl, s14 _ _ hm13, e14, List.cons_ne_nil _ _, small (by rw [List.length_map, List.length_singleton]; omega), fun H15 p15 s15 e15 => ?_⟩⟩
                  rw [← map_last] at e15
                  refine ⟨p15, mu ++ [z], rfl, SqT.of e15, by rw [List.length_append, List.length_singleton]; omega, fun mu' pm H16 p16 s16 n16 e16 => ⟨p16, _, rfl, SqL.of e16, fun H17 p17 s17 n17 e17 => ?_⟩⟩
                  have s37 := ((s14.trans s15).trans s16).trans s17
                  have hmu' : mu'.length ≤ 3 := by
                    rw [pm.length_eq, List.length_append, List.length_singleton]
                    omega
                  refine ⟨.ref e, rfl, t, v, p17, e, mu', ne, rfl, ht13.mono (Tk.of s37), wf, nd, hl, e17, by omega, s37 _ _ he13, fun H18 s18 => ?_⟩
                  have s38 := s37.trans s18
                  have hm18 := s38 _ _ hm13
                  have he18 := s38 _ _ he13
                  refine ⟨_, rfl, v, rfl, .ref m, rfl, .ref e, rfl, .int z, rfl, (by show 1 ≤ sizeLine; decide), fun H19 p19 s19 n19 e19 => ⟨e, p19, ne.map V.int, [.int z], rfl, rfl, s19 _ _ he18, e19, List.cons_ne_nil _ _, small (by rw [List.length_map, List.length_singleton]; omega), fun H20 p20 s20 e20 => ?_⟩⟩
                  rw [← map_last] at e20
                  refine ⟨p20, ne ++ [z], rfl, SqT.of e20, by rw [List.length_append, List.length_singleton]; omega, fun ne' pm2 H21 p21 s21 n21 e21 => ⟨p21, _, rfl, SqL.of e21, fun H22 p22 s22 n22 e22 => ?_⟩⟩
                  have s82 := ((s19.trans s20).trans s21).trans s22
                  refine ⟨t, v, m, p22, mu, ne', rfl, ht13.mono (Tk.of (s38.trans s82)), wf, nd, hl, s82 _ _ hm18, by omega, e22, fun H23 s23 => ?_⟩
                  have both := LM_both wf nd hz1 hz2 hz3 (mu' := mu') (ne' := ne') (fun x => by rw [pm.mem_iff, List.mem_append, List.mem_singleton]) (fun x => by rw [pm2.mem_iff, List.mem_append, List.mem_singleton])
                  have sf := (s38.trans s82).trans s23
                  refine ⟨_, _, rfl, rfl, _, rfl, rfl, _, rfl, iteNS ?_ ?_⟩
                  · refine congrArg V.int ?_
                    omega
                  · exact ⟨_, _, _, _, _, _, _, _, _, rfl, kb013.same sf, sf _ _ hw13⟩
      · obtain ⟨_, _, _, _, _, _, _, _, _, rfl, kb, _⟩ := hp
        exact q H4 kb
end
end K16
namespace K16
open PySem L2
theorem C_le : ∀ (n k : Nat), C n k ≤ 2 ^ n
  | n, 0 => by
    rw [C_zero]
    exact Nat.one_le_two_pow
  | 0, k + 1 => Nat.zero_le _
  | n + 1, k + 1 => by
    show C n k + C n (k + 1) ≤ _
    have h1 := C_le n k
    have h2 := C_le n (k + 1)
    rw [Nat.pow_succ]
    omega
def natI (l : List Nat) : List Int := l.map (fun c : Nat => (c : Int))
theorem natI_len (l : List Nat) : (natI l).length = l.length := by unfold natI; rw [List.length_map]
theorem natI_at {l : List Nat} {i c : Nat} (h : l[i]? = some c) : (natI l)[i]? = some (c : Int) := by
  unfold natI
  rw [List.getElem?_map, h]
  rfl
theorem natI_step (j : Nat) : (natI (pasc (j + 1))).map V.int = ([V.int 1] ++ (List.range j).map (fun i => V.int ((C j i : Int) + (C j (i + 1) : Int)))) ++ [V.int 1] := by
  unfold natI
  rw [pasc_step, List.map_append, List.map_append, List.map_append, List.map_append, List.map_map, List.map_map, List.map_map]
  refine congrArg (fun z => [V.int 1] ++ z ++ [V.int 1]) (List.map_congr_left fun i _ => ?_)
  show V.int ((C j i + C j (i + 1) : Nat) : Int) = _
  rw [Int.natCast_add]
section
variable {P : Program} {w : World} {K : PySem.W.Frag} {mg : Str → Option Value} {base : Heap}
/-! ## is_even -/
def spEven : Sp := fun vs H Q _ => ∃ (b g : Addr), vs = [.ref b] ∧ Bag H b g ∧ ∀ H', Q (.bl true) H'
theorem ok_even (T : Txt K mg) : FnOk P w K mg base CX0 7 T.f_l_is_even T.d_l_is_even ["_law_bag_here"] spEven := by
  have sc : FnScope ["_law_bag_here", "_law_row", "_law_bound", "_law_line", "_law_turn", "_law_tree_here", "_law_due", "_law_left_one", "_law_right_one"] ["_law_bag_here"] (defScope s_l_is_even) := ⟨rfl, rfl, rfl, by decide +kernel, rfl, by decide +kernel, by decide +kernel⟩
  refine T.D_l_is_even.F.ok sc (fun vs H Q E h => ?_) (fun cdv A outer s H vs Q E hr h => ?_)
  · obtain ⟨b, g, rfl, _⟩ := h
    rfl
  · obtain ⟨b, g, rfl, bag, q⟩ := h
    refine ⟨_, pss_cons (ps_par3 (i := 1) (j := 2) (l := 3) (by rfl) sc.nd rfl rfl rfl (by decide) (by decide) (by decide) rfl rfl rfl (pa_cons (pe_call (ok_buttons T) (hr.mono (by omega)) (by rfl) T.D_l_buttons.m T.D_l_buttons.F.kp T.D_l_buttons.b .nil pass0 (pa_cons (pv 0) (pa_cons pe_int pa_nil))) (pa_cons (pe_op op_add pe_int (pe_call (ok_draw T) (hr.mono (by omega)) (by rfl) T.D_l_draw.m T.D_l_draw.F.kp T.D_l_draw.b .nil pass0 (pa_cons (pv 0) (pa_cons pe_int pa_nil)))) (pa_cons (le_lst (pa_cons pe_int pa_nil)) pa_nil))) (by rfl))
      (pss_cons (ps_for PassesOwn.never rfl (pi_range1 (by rfl) T.n_range (pa_cons pe_int pa_nil)) (pg_name (i := 4) sc.nd rfl (.inl rfl))
        (pss_one (ps_set (i := 3) sc.nd rfl (.inl rfl) (pe_op oq_cat (pe_op oq_cat (le_lst (pa_cons pe_int pa_nil)) (le_lc (own := [("_law_left_one", 7), ("_law_right_one", 8)]) (g := gTup K 2 (gCons (gName 7) (gCons (gName 8) gNil))) (by rfl) sc.nd (pi_zip (by rfl) T.n_zip (pa_cons (pv 3) (pa_cons (pe_slice sq_list (pv 3) (po_some pe_int) po_none) pa_nil)))
          (blkOk_by (own := [("_law_left_one", 7), ("_law_right_one", 8)]) (N := ["_law_bag_here", "_law_row", "_law_bound", "_law_line", "_law_turn", "_law_tree_here", "_law_due", "_law_left_one", "_law_right_one"]) (sc := defScope s_l_is_even) (by decide +kernel))
          (fun _ _ _ _ _ => pg_tup rfl (pgs_cons (pg_name (i := 7) sc.nd rfl (Or.inl rfl)) (pgs_cons (pg_name (i := 8) sc.nd rfl (Or.inl rfl)) pgs_nil))) (fun _ _ _ _ _ => pts_nil) (fun _ _ _ _ _ =>  pe_op op_add (pv 7) (pv 8)))) (le_lst (pa_cons pe_int pa_nil))))))
      (pss_cons (ps_set (i := 5) sc.nd rfl (.inl rfl) (le_tup (pa_cons (pv 2) (pa_cons (pe_callTy cq_tuple (by rfl) T.n_tuple (by decide +kernel) (pa_cons (pe_call (ok_mixed T) (hr.mono (by omega)) (by rfl) T.D_l_mixed.m T.D_l_mixed.F.kp T.D_l_mixed.b .nil pass0 (pa_cons (pv 0) (pa_cons (pv 1) pa_nil))) pa_nil)) pa_nil))))
      (pss_cons (ps_set (i := 6) sc.nd rfl (.inl rfl) (cl_e (pe_ifExp (pt_cmpR op_lt (pv 2) pe_int (nomark _)) (pe_ix (ixl K) (pv 3) (pe_op op_sub (pv 2) pe_int) (fun _ _ => rfl)) pe_int)))
      (pss_one (ps_ret (pe_cmpR op_eq (pe_callB SkE.call_repr_int (by rfl) T.n_repr (by decide +kernel) (pa_cons (pe_call (ok_lc T 2) (hr.mono (by omega)) (by rfl) T.D_least_count.m T.D_least_count.F.kp T.D_least_count.b .nil pass0 (pa_cons (pv 5) (pa_cons (le_tup (pa_cons (pe_ix (ixl K) (pv 1) pe_int (fun _ _ => rfl)) pa_nil)) (pa_cons (le_tup (pa_cons (pe_ix (ixl K) (pv 1) pe_int (fun _ _ => rfl)) pa_nil)) pa_nil)))) pa_nil)) (pe_callB SkE.call_repr_int (by rfl) T.n_repr (by decide +kernel) (pa_cons (pv 6) pa_nil)) (nomark _))))))), ?_⟩
    refine ⟨_, rfl, b, g, 24, rfl, bag, by omega, fun H1 r ns kb1 n1 hnl hnd e1 => ?_⟩
    refine ⟨_, rfl, b, g, 24, rfl, kb1.bag, by decide, by decide, fun H2 z kb2 hz => ⟨_, _, rfl, rfl, (by show 1 ≤ sizeLine; decide), fun H3 l0 s3 n3 e3 => ⟨_, _, _, rfl, ?_⟩⟩⟩
    have hz : z < 24 := by omega
    have ngr : r ≠ g := bag.neg n1
    have er3 : IL H3 r ns := s3 _ _ (kb2.keep _ _ (kb1.bag.ne_lst e1) ngr e1)
    have bag3 : Bag H3 b g := kb2.bag.same s3
    refine ⟨22, rfl, by decide, by decide, ?_⟩
    refine for_range (n := 22) (fun i σ H4 => ∃ l y4, σ = [some (.ref b), some (.ref r), some (.int (1 + (z : Int))), some (.ref l), y4, none, none, none, none] ∧ Same H3 H4 ∧ l ≠ g ∧ IL H4 l (natI (pasc i)))
      ⟨l0, none, rfl, Same.refl _, kb2.bag.neg n3, e3⟩ (fun i σ H4 hi hp => ?_) (fun σ H4 hp => ?_)
    · obtain ⟨l, y4, rfl, sm, nlg, el⟩ := hp
      have hlen : (natI (pasc i)).length = i + 1 := by rw [natI_len, pasc_len]
      refine ⟨(by show 1 ≤ sizeLine; decide), fun H5 o5 s5 n5 e5 => ?_⟩
      refine ⟨_, rfl, _, rfl, 1, rfl, l, _, rfl, SqL.of (s5 _ _ el), fun H6 c s6 n6 e6 => ?_⟩
      rw [show (1 : Int) = ((1 : Nat) : Int) from rfl, cut_from] at e6
      have el6 := s6 _ _ (s5 _ _ el)
      have a1 : ∀ j, j < i → ((natI (pasc i)).map V.int)[j]? = some (.int (C i j : Nat)) := fun j hj => at_int (natI_at (pasc_get (by omega)))
      have a2 : ∀ j, j < i → (((natI (pasc i)).drop 1).map V.int)[j]? = some (.int (C i (j + 1) : Nat)) := fun j hj => at_int (by rw [List.getElem?_drop, Nat.add_comm]; exact natI_at (pasc_get (by omega)))
      refine ⟨l, c, _, _, rfl, SqL.of el6, SqL.of e6, lc_fun i (fun j => some (.int ((C i j : Int) + (C i (j + 1) : Int))))
        (fun j x H' => ∃ T : Addr, x = .ref T ∧ H' T = some (.tup [.int (C i j : Nat), .int (C i (j + 1) : Nat)])) (by omega) (fun j H' hj s' => ?_) (fun j H' x H'' hj s' y => ?_)
        (fun H' s' => ⟨_, _, SqL.of (s' _ _ el6), SqL.of (s' _ _ e6), .inr (by rw [List.length_map, List.length_drop, hlen]; omega)⟩) (fun j x H' Yes No hj hx s' yes no => ?_) (fun H7 D s7 n7 e7 => ?_)⟩
      · exact ⟨_, _, _, _, SqL.of (s' _ _ el6), SqL.of (s' _ _ e6), a1 j hj, a2 j hj⟩
      · obtain ⟨T, x1, x2, rfl, nT, rfl, f1, f2⟩ := y
        refine ⟨same_new nT, T, rfl, ?_⟩
        have g1 := f1 _ (SqL.of (s' _ _ el6))
        have g2 := f2 _ (SqL.of (s' _ _ e6))
        rw [a1 j hj] at g1
        rw [a2 j hj] at g2
        rw [upd_same, ← Option.some.inj g1, ← Option.some.inj g2]
      · obtain ⟨T, rfl, hT⟩ := hx
        exact ⟨T, _, rfl, SqT.of hT, rfl, _, _, rfl, _, _, rfl, rfl, rfl, tyes ⟨_, rfl, _, rfl, _, _, rfl, rfl, yes _ _ rfl (Same.refl _)⟩⟩
      · rw [fm_range (r := fun j => V.int ((C i j : Int) + (C i (j + 1) : Int))) (fun j _ => rfl)] at e7
        refine ⟨o5, D, _, _, rfl, rfl, s7 _ _ (s6 _ _ e5), e7, small (by rw [List.length_map, List.length_range, List.length_singleton]; omega), fun H8 p8 s8 n8 e8 => ?_⟩
        refine ⟨(by show 1 ≤ sizeLine; decide), fun H9 o9 s9 n9 e9 => ?_⟩
        refine ⟨p8, o9, _, _, rfl, rfl, s9 _ _ e8, e9, small (by rw [List.length_append, List.length_map, List.length_range, List.length_singleton]; omega), fun H10 l' s10 n10 e10 => ?_⟩
        have s49 := sm.trans (s5.trans (s6.trans (s7.trans (s8.trans s9))))
        refine ⟨l', _, rfl, s49.trans s10, (bag3.same s49).neg n10, ?_⟩
        show H10 l' = _
        rw [natI_step]
        exact e10
    · obtain ⟨l, y4, rfl, sm, nlg, el⟩ := hp
      have bag4 := bag3.same sm
      have er4 := sm _ _ er3
      refine ⟨_, rfl, _, rfl, _, rfl, b, g, r, ns, rfl, bag4, ngr, er4, by omega, fun H5 p bs kb5 n5 pm e5 => ⟨p, _, rfl, SqL.of e5, fun H6 t6 s6 n6 e6 => ⟨(by show 2 ≤ sizeLine; decide), fun H7 tt s7 n7 e7 => ?_⟩⟩⟩
      rw [int_succ] at e7
      have s57 := s6.trans s7
      have hT : TAt H7 2 (trip (1 + z) (bs.map leaf)) (.ref tt) := ⟨tt, t6, _, rfl, e7, s7 _ _ e6, paired_leaves bs⟩
      have hbl : bs.length = 24 := by rw [pm.length_eq]; exact hnl
      have hbd : bs.Nodup := pm.nodup_iff.mpr hnd
      have hW : WF 2 (trip (1 + z) (bs.map leaf) : Tr 2) := ⟨Nat.le_add_right 1 z, by rw [List.length_map]; omega, wf_leaves bs⟩
      have hH : held 2 (trip (1 + z) (bs.map leaf) : Tr 2) = bs := held_leaves bs
      have er7 : IL H7 r ns := s57 _ _ (kb5.keep _ _ (bag4.ne_lst er4) ngr er4)
      have hC : C 22 z ≤ 16777216 := Nat.le_trans (C_le 22 z) (by decide)
      have hlog : ((C 22 z : Nat) : Int).natAbs.log2 < 1920 := log2_small hC
      have el7 : IL H7 l (natI (pasc 22)) := s57 _ _ (kb5.keep _ _ (bag4.ne_lst el) nlg el)
      have h3 : ns[3]? = some ns[3] := List.getElem?_eq_getElem (by omega)
      have h8 : ns[8]? = some ns[8] := List.getElem?_eq_getElem (by omega)
      have m3 : ns[3] ∈ bs := pm.mem_iff.mpr (List.getElem_mem _)
      have m8 : ns[8] ∈ bs := pm.mem_iff.mpr (List.getElem_mem _)
      have n38 : ns[3] ≠ ns[8] := List.pairwise_iff_getElem.mp hnd 3 8 (by omega) (by omega) (by decide)
      generalize ns[3] = b3 at h3 m3 n38
      generalize ns[8] = b8 at h8 m8 n38
      have key : LM 2 (trip (1 + z) (bs.map leaf) : Tr 2) [b3] [b8] = C 22 z := by
        have := even_lm (n := 0) n38 hbd m3 m8 hbl (Nat.le_add_right 1 z)
        rw [this]
        congr 1
        omega
      refine ⟨fun x H8 => H8 = H7 ∧ x = .int (C 22 z : Nat), ?_, fun x H8 hx => ?_⟩
      · refine ⟨_, rfl, _, _, rfl, rfl, _, rfl, ?_⟩
        refine ite2 (fun c => ?_) (fun c => ?_)
        · have c : (1 : Int) + (z : Int) < 24 := of_decide_eq_true c
          have at1 : atI ((natI (pasc 22)).map V.int) ((1 + (z : Int)) - 1) = some (.int (C 22 z : Nat)) := by
            rw [show (1 : Int) + (z : Int) - 1 = (z : Nat) by omega]
            exact atI_nat (at_int (natI_at (pasc_get (by omega))))
          exact ⟨_, rfl, _, rfl, _, _, rfl, rfl, l, _, _, _, rfl, rfl, SqL.of el7, at1, rfl, rfl⟩
        · have c : ¬ (1 : Int) + (z : Int) < 24 := fun e => c (decide_eq_true e)
          have e : z = 23 := by omega
          subst e
          exact ⟨rfl, rfl⟩
      · obtain ⟨rfl, rfl⟩ := hx
        refine ⟨_, rfl, .ref r, rfl, r, _, _, .int b3, rfl, rfl, SqL.of er7, atI_nat (j := 3) (at_int h3), (by show 1 ≤ sizeLine; decide), fun H9 p9 s9 n9 e9 => ?_⟩
        refine ⟨.ref r, rfl, r, _, _, .int b8, rfl, rfl, SqL.of (s9 _ _ er7), atI_nat (j := 8) (at_int h8), (by show 1 ≤ sizeLine; decide), fun H10 p10 s10 n10 e10 => ?_⟩
        have s810 := s9.trans s10
        refine ⟨trip (1 + z) (bs.map leaf), .ref tt, p9, p10, [b3], [b8], rfl, hT.mono (Tk.of s810), hW, by rw [hH]; exact hbd, by rw [hH]; omega, s10 _ _ e9, (by show 1 ≤ 1000; decide), e10, fun H11 s11 => ?_⟩
        rw [key]
        refine ⟨_, rfl, hlog, _, rfl, _, rfl, hlog, rfl, ?_⟩
        rw [decide_eq_true rfl]
        exact q H11
end
end K16
namespace K16
open PySem L2
theorem nodup_of {ns ms : List Int} (h : ns.Nodup) (p : ms.Perm ns) : ms.Nodup := p.nodup_iff.mpr h
def spLaw (K : PySem.W.Frag) : Sp := fun vs H Q _ => ∃ (a : Addr) (ns : List Int), vs = [.ref a] ∧ SqL K H a (ns.map V.int) ∧ ns.length ≤ 63 ∧ ∀ H', Q (.bl true) H'
section
variable {P : Program} {w : World} {K : PySem.W.Frag} {mg : Str → Option Value} {base : Heap}
theorem ok_law (T : Txt K mg) : FnOk P w K mg base CX0 40 T.f_law T.d_law ["_law_script"] (spLaw K) := by
  have sc : FnScope ["_law_script", "_law_bag_here", "_law_row", "_law_tree_here", "_law_every_here", "_law_some"] ["_law_script"] (defScope s_law) := ⟨rfl, rfl, rfl, by decide +kernel, rfl, by decide +kernel, by decide +kernel⟩
  refine T.D_law.F.ok sc (fun vs H Q E h => ?_) (fun cdv A outer s H vs Q E hr h => ?_)
  · obtain ⟨a, ns, rfl, _⟩ := h
    rfl
  · obtain ⟨a, ns, rfl, hS, hl, q⟩ := h
    refine ⟨_, pss_cons (ps_set (i := 1) sc.nd rfl (.inl rfl) (pe_call (ok_bag T) (hr.mono (by omega)) (by rfl) T.D_l_bag.m T.D_l_bag.F.kp T.D_l_bag.b .nil pass0 (pa_cons (pv 0) pa_nil)))
      (pss_cons (ps_set (i := 2) sc.nd rfl (.inl rfl) (pe_call (ok_buttons T) (hr.mono (by omega)) (by rfl) T.D_l_buttons.m T.D_l_buttons.F.kp T.D_l_buttons.b .nil pass0 (pa_cons (pv 1) (pa_cons (pe_op op_add pe_int (pe_call (ok_draw T) (hr.mono (by omega)) (by rfl) T.D_l_draw.m T.D_l_draw.F.kp T.D_l_draw.b .nil pass0 (pa_cons (pv 1) (pa_cons pe_int pa_nil)))) pa_nil))))
      (pss_cons (ps_par (i := 3) (j := 4) (by rfl) sc.nd rfl rfl (by decide) rfl rfl (pa_cons (pe_call (ok_tree T 4) (hr.mono (by omega)) (by rfl) T.D_l_tree.m T.D_l_tree.F.kp T.D_l_tree.b .nil pass0 (pa_cons (pv 1) (pa_cons (pe_call (ok_mixed T) (hr.mono (by omega)) (by rfl) T.D_l_mixed.m T.D_l_mixed.F.kp T.D_l_mixed.b .nil pass0 (pa_cons (pv 1) (pa_cons (pv 2) pa_nil))) (pa_cons pe_int pa_nil)))) (pa_cons (pe_call (ok_every T) (hr.mono (by omega)) (by rfl) T.D_l_every.m T.D_l_every.F.kp T.D_l_every.b .nil pass0 (pa_cons (pv 2) pa_nil)) pa_nil)) (by rfl))
      (pss_cons (ps_if (pt_not (pt_val (pe_call (ok_counted T 5) (hr.mono (by omega)) (by rfl) T.D_l_is_counted.m T.D_l_is_counted.F.kp T.D_l_is_counted.b .nil pass0 (pa_cons (pv 1) (pa_cons (pv 3) (pa_cons (pv 2) (pa_cons (pe_call (ok_leasts T 5) (hr.mono (by omega)) (by rfl) T.D_l_leasts.m T.D_l_leasts.F.kp T.D_l_leasts.b .nil pass0 (pa_cons (pv 2) (pa_cons (pv 4) (pa_cons (pe_call (ok_words T 5) (hr.mono (by omega)) (by rfl) T.D_l_words.m T.D_l_words.F.kp T.D_l_words.b .nil pass0 (pa_cons (pv 3) (pa_cons (pv 4) pa_nil))) pa_nil)))) pa_nil))))))) (pss_one (ps_ret pe_bl)) pss_nil)
      (pss_cons (ps_set (i := 2) sc.nd rfl (.inl rfl) (pe_call (ok_buttons T) (hr.mono (by omega)) (by rfl) T.D_l_buttons.m T.D_l_buttons.F.kp T.D_l_buttons.b .nil pass0 (pa_cons (pv 1) (pa_cons (pe_op op_add pe_int (pe_call (ok_draw T) (hr.mono (by omega)) (by rfl) T.D_l_draw.m T.D_l_draw.F.kp T.D_l_draw.b .nil pass0 (pa_cons (pv 1) (pa_cons pe_int pa_nil)))) pa_nil))))
      (pss_cons (ps_set (i := 3) sc.nd rfl (.inl rfl) (pe_call (ok_tree T 5) (hr.mono (by omega)) (by rfl) T.D_l_tree.m T.D_l_tree.F.kp T.D_l_tree.b .nil pass0 (pa_cons (pv 1) (pa_cons (pe_call (ok_mixed T) (hr.mono (by omega)) (by rfl) T.D_l_mixed.m T.D_l_mixed.F.kp T.D_l_mixed.b .nil pass0 (pa_cons (pv 1) (pa_cons (pv 2) pa_nil))) (pa_cons pe_int pa_nil)))))
      (pss_cons (ps_set (i := 5) sc.nd rfl (.inl rfl) (pe_call (ok_lot T) (hr.mono (by omega)) (by rfl) T.D_l_lot.m T.D_l_lot.F.kp T.D_l_lot.b .nil pass0 (pa_cons (pv 1) (pa_cons (pv 2) (pa_cons pe_int pa_nil)))))
      (pss_cons (ps_if (pt_cmpR op_ne (pe_callB SkE.call_repr_int (by rfl) T.n_repr (by decide +kernel) (pa_cons (pe_call (ok_lc T 6) (hr.mono (by omega)) (by rfl) T.D_least_count.m T.D_least_count.F.kp T.D_least_count.b .nil pass0 (pa_cons (pv 3) (pa_cons (pv 5) (pa_cons (le_tup pa_nil) pa_nil)))) pa_nil)) (pe_callB SkE.call_repr_int (by rfl) T.n_repr (by decide +kernel) (pa_cons (pe_call (ok_llm T 6) (hr.mono (by omega)) (by rfl) T.D_l_least_many.m T.D_l_least_many.F.kp T.D_l_least_many.b .nil pass0 (pa_cons (pv 3) (pa_cons (pv 5) (pa_cons (le_tup pa_nil) pa_nil)))) pa_nil)) (nomark _)) (pss_one (ps_ret pe_bl)) pss_nil)
      (pss_cons (ps_if (pt_not (pt_val (pe_call (ok_counted T 6) (hr.mono (by omega)) (by rfl) T.D_l_is_counted.m T.D_l_is_counted.F.kp T.D_l_is_counted.b .nil pass0 (pa_cons (pv 1) (pa_cons (pv 3) (pa_cons (pv 2) (pa_cons pe_non pa_nil))))))) (pss_one (ps_ret pe_bl)) pss_nil)
      (pss_one (ps_ret (pe_or (pe_cmpR op_gt (pe_call (ok_draw T) (hr.mono (by omega)) (by rfl) T.D_l_draw.m T.D_l_draw.F.kp T.D_l_draw.b .nil pass0 (pa_cons (pv 1) (pa_cons pe_int pa_nil))) pe_int (nomark _)) (pe_one (pe_call (ok_even T) (hr.mono (by omega)) (by rfl) T.D_l_is_even.m T.D_l_is_even.F.kp T.D_l_is_even.b .nil pass0 (pa_cons (pv 1) pa_nil)))))))))))))), ?_⟩
    refine ⟨_, rfl, a, ns, rfl, hS, hl, fun H1 b g s1 bag => ?_⟩
    refine ⟨_, rfl, _, rfl, b, g, 7, rfl, bag, by decide, by decide, fun H2 z kb2 hz => ⟨_, _, rfl, rfl, b, g, 1 + z, by rw [← int_succ]; rfl, kb2.bag, by omega, fun H3 r row kb3 n3 hrl hrd e3 => ?_⟩⟩
    have h7 : row.length ≤ 7 := by omega
    have h1 : 1 ≤ row.length := by omega
    clear hrl hz
    refine ⟨_, rfl, _, rfl, _, rfl, b, g, r, row, rfl, kb3.bag, kb2.bag.neg n3, e3, by omega, fun H4 p mix kb4 n4 pm e4 => ?_⟩
    have hml := pm.length_eq
    refine ⟨b, g, p, mix, rfl, kb4.bag, kb3.bag.neg n4, e4, by omega, by omega, fun H5 t v kb5 ht wf hh => ?_⟩
    have ng3 : r ≠ g := kb2.bag.neg n3
    have e5 : IL H5 r row := kb5.keep _ _ (kb4.bag.ne_lst (kb4.keep _ _ (kb3.bag.ne_lst e3) ng3 e3)) ng3 (kb4.keep _ _ (kb3.bag.ne_lst e3) ng3 e3)
    refine ⟨_, rfl, r, row, rfl, e5, h7, fun H6 p6 ws s6 n6 e6 pr6 => ⟨_, _, rfl, ?_⟩⟩
    have hel : (ev row).length ≤ 128 := by
      rw [ev_length]
      exact pow7 h7
    have pmh : row.Perm (held 5 t) := by
      rw [hh]
      exact pm.symm
    have hnd : (held 5 t).Nodup := pmh.nodup_iff.mp hrd
    have hhl : (held 5 t).length ≤ 24 := by
      rw [hh]
      omega
    have bag6 := kb5.bag.same s6
    refine ⟨_, rfl, _, rfl, _, rfl, _, rfl, _, rfl, _, rfl, _, rfl, t, v, p6, ev row, ws, rfl, ht.mono (Tk.of s6), e6, pr6, hel, fun H7 p7 s7 n7 e7 => ?_⟩
    refine ⟨t, r, p6, p7, row, ws, rfl, wf, s7 _ _ (s6 _ _ e5), hrd, fun z => pmh.mem_iff, h1, h7, s7 _ _ e6, paired_mono (fun _ _ z => z.mono (Tk.of s7)) pr6, e7, fun H8 p8 due ys s8 n8 e8 prd pmd => ?_⟩
    have s68 := (s6.trans s7).trans s8
    have hdl : due.length ≤ 128 := by
      rw [pmd.length_eq]
      exact Nat.le_trans (List.length_filter_le _ _) hel
    refine ⟨b, g, t, v, r, row, .ref p8, rfl, kb5.bag.same s68, ht.mono (Tk.of s68), wf, hnd, hhl, ng3, s68 _ _ e5, h1, by omega, fun z hz => pmh.mem_iff.mp hz,
      .inr ⟨p8, ys, due, rfl, (bag6.same s7).neg n8, e8, prd, hdl, fun mu ne => due_count wf hrd pmh pmd mu ne⟩, fun H9 kb9 => ⟨true, rfl, iteF ?_⟩⟩
    -- the second tree
    have bag9 := kb9.bag
    clear e3 e4 e5 e6 e7 e8 kb9 bag6 prd pmd hdl pr6 hel pmh hnd hhl hrd h7 h1 ht wf hh hml pm kb4 kb5 kb3 n4 n6 n7 n8 s6 s7 s8 s68
    refine ⟨_, rfl, _, rfl, b, g, 17, rfl, bag9, by decide, by decide, fun H10 z2 kb10 hz2 => ⟨_, _, rfl, rfl, b, g, 8 + z2, (by rw [Int.natCast_add]; rfl), kb10.bag, by omega, fun H11 r2 row2 kb11 n11 hrl hrd e11 => ?_⟩⟩
    have ng11 : r2 ≠ g := kb10.bag.neg n11
    refine ⟨_, rfl, _, rfl, _, rfl, b, g, r2, row2, rfl, kb11.bag, ng11, e11, by omega, fun H12 p12 mix2 kb12 n12 pm2 e12 => ?_⟩
    have hml2 := pm2.length_eq
    refine ⟨b, g, p12, mix2, rfl, kb12.bag, kb11.bag.neg n12, e12, by omega, by omega, fun H13 t2 v2 kb13 ht2 wf2 hh2 => ?_⟩
    have e12' : IL H12 r2 row2 := kb12.keep _ _ (kb11.bag.ne_lst e11) ng11 e11
    have e13 : IL H13 r2 row2 := kb13.keep _ _ (kb12.bag.ne_lst e12') ng11 e12'
    have pmh : row2.Perm (held 6 t2) := by
      rw [hh2]
      exact pm2.symm
    have hnd : (held 6 t2).Nodup := pmh.nodup_iff.mp hrd
    have hhl : (held 6 t2).length ≤ 24 := by
      rw [hh2]
      omega
    refine ⟨_, rfl, _, rfl, b, g, r2, row2, 2, rfl, kb13.bag, ng11, e13, by omega, by decide, by decide, fun H14 p14 ms kb14 hms e14 => ?_⟩
    have hlog : ((LM 6 t2 ms [] : Nat) : Int).natAbs.log2 < 1920 := log2_small (Nat.le_trans (LM_le wf2 hnd ms []) (pow24 hhl))
    have ht14 := ht2.mono kb14.tk
    refine ⟨_, rfl, _, rfl, Nat.zero_le _, fun H15 p15 s15 n15 e15 => ?_⟩
    refine ⟨t2, v2, p14, p15, ms, [], rfl, ht14.mono (Tk.of s15), wf2, hnd, hhl, s15 _ _ e14, by omega, e15, fun H16 s16 => ⟨_, rfl, hlog, ?_⟩⟩
    have s46 := s15.trans s16
    refine ⟨_, rfl, _, rfl, Nat.zero_le _, fun H17 p17 s17 n17 e17 => ?_⟩
    have s47 := s46.trans s17
    refine ⟨t2, v2, p14, p17, ms, [], rfl, ht14.mono (Tk.of s47), wf2, hnd, hhl, s47 _ _ e14, by omega, e17, fun H18 s18 => ⟨_, rfl, hlog, rfl, _, rfl, iteNS rfl ?_⟩⟩
    have s48 := s47.trans s18
    have e14' : IL H14 r2 row2 := kb14.keep _ _ (kb13.bag.ne_lst e13) ng11 e13
    refine ⟨_, rfl, _, rfl, _, rfl, b, g, t2, v2, r2, row2, .non, rfl, kb14.bag.same s48, ht14.mono (Tk.of s48), wf2, hnd, hhl, ng11, s48 _ _ e14', by omega, by omega, fun z hz => pmh.mem_iff.mp hz, .inl rfl, fun H19 kb19 => ⟨true, rfl, iteF ?_⟩⟩
    refine ⟨_, rfl, b, g, 3, rfl, kb19.bag, by decide, by decide, fun H20 z3 kb20 hz3 => ?_⟩
    refine ⟨_, _, rfl, rfl, _, rfl, ?_⟩
    refine ite2 (fun _ => q H20) (fun _ => ⟨_, rfl, b, g, rfl, kb20.bag, fun H21 => q H21⟩)
end
end K16
namespace K16
open PySem L2
theorem all_mk {l : PySem.W.OpenLaw} {w : World} {K : PySem.W.Frag} {h : Heap} {mg : Str → Option Value} {fa : Addr} (X : K.In h) (G : h.Ns mainGlobals mg) (hfa : mg "law" = some (.ref fa))
    {f0 : Addr} {od0 an0 : Option Addr} {sl0 : Array (Option Value)} {oc0 kV0 dc0 pm0 cd0 ct0 : Value}
    {f1 : Addr} {od1 an1 : Option Addr} {sl1 : Array (Option Value)} {oc1 kV1 dc1 pm1 cd1 ct1 : Value}
    {f2 : Addr} {od2 an2 : Option Addr} {sl2 : Array (Option Value)} {oc2 kV2 dc2 pm2 cd2 ct2 : Value}
    {f3 : Addr} {od3 an3 : Option Addr} {sl3 : Array (Option Value)} {oc3 kV3 dc3 pm3 cd3 ct3 : Value}
    {f4 : Addr} {od4 an4 : Option Addr} {sl4 : Array (Option Value)} {oc4 kV4 dc4 pm4 cd4 ct4 : Value}
    {f5 : Addr} {od5 an5 : Option Addr} {sl5 : Array (Option Value)} {oc5 kV5 dc5 pm5 cd5 ct5 : Value}
    {f6 : Addr} {od6 an6 : Option Addr} {sl6 : Array (Option Value)} {oc6 kV6 dc6 pm6 cd6 ct6 : Value}
    {f7 : Addr} {od7 an7 : Option Addr} {sl7 : Array (Option Value)} {oc7 kV7 dc7 pm7 cd7 ct7 : Value}
    {f8 : Addr} {od8 an8 : Option Addr} {sl8 : Array (Option Value)} {oc8 kV8 dc8 pm8 cd8 ct8 : Value}
    {f9 : Addr} {od9 an9 : Option Addr} {sl9 : Array (Option Value)} {oc9 kV9 dc9 pm9 cd9 ct9 : Value}
    {f10 : Addr} {od10 an10 : Option Addr} {sl10 : Array (Option Value)} {oc10 kV10 dc10 pm10 cd10 ct10 : Value}
    {f11 : Addr} {od11 an11 : Option Addr} {sl11 : Array (Option Value)} {oc11 kV11 dc11 pm11 cd11 ct11 : Value}
    {f12 : Addr} {od12 an12 : Option Addr} {sl12 : Array (Option Value)} {oc12 kV12 dc12 pm12 cd12 ct12 : Value}
    {f13 : Addr} {od13 an13 : Option Addr} {sl13 : Array (Option Value)} {oc13 kV13 dc13 pm13 cd13 ct13 : Value}
    {f14 : Addr} {od14 an14 : Option Addr} {sl14 : Array (Option Value)} {oc14 kV14 dc14 pm14 cd14 ct14 : Value}
    {f15 : Addr} {od15 an15 : Option Addr} {sl15 : Array (Option Value)} {oc15 kV15 dc15 pm15 cd15 ct15 : Value}
    {f16 : Addr} {od16 an16 : Option Addr} {sl16 : Array (Option Value)} {oc16 kV16 dc16 pm16 cd16 ct16 : Value}
    {f17 : Addr} {od17 an17 : Option Addr} {sl17 : Array (Option Value)} {oc17 kV17 dc17 pm17 cd17 ct17 : Value}
    {f18 : Addr} {od18 an18 : Option Addr} {sl18 : Array (Option Value)} {oc18 kV18 dc18 pm18 cd18 ct18 : Value}
    {f19 : Addr} {od19 an19 : Option Addr} {sl19 : Array (Option Value)} {oc19 kV19 dc19 pm19 cd19 ct19 : Value}
    {f20 : Addr} {od20 an20 : Option Addr} {sl20 : Array (Option Value)} {oc20 kV20 dc20 pm20 cd20 ct20 : Value}
    {f21 : Addr} {od21 an21 : Option Addr} {sl21 : Array (Option Value)} {oc21 kV21 dc21 pm21 cd21 ct21 : Value}
    {f22 : Addr} {od22 an22 : Option Addr} {sl22 : Array (Option Value)} {oc22 kV22 dc22 pm22 cd22 ct22 : Value}
    (a0 : PySem.W.nsIn K mainGlobals "is_trip" = some (some (.ref f0))) (l0 : K.lookup f0 = some ⟨oc0, od0, .func (PySem.W.fnOf "is_trip" "is_trip" (defArgs s_is_trip) (defBody s_is_trip) (defScope s_is_trip) .none kV0 dc0 pm0 an0 cd0 ct0), sl0⟩) (c0 : PySem.W.codeIn K cd0 "is_trip" = true) (k0 : PySem.W.keepIn K (.ref f0) = true)
    (a1 : PySem.W.nsIn K mainGlobals "buttons_in_order" = some (some (.ref f1))) (l1 : K.lookup f1 = some ⟨oc1, od1, .func (PySem.W.fnOf "buttons_in_order" "buttons_in_order" (defArgs s_buttons_in_order) (defBody s_buttons_in_order) (defScope s_buttons_in_order) .none kV1 dc1 pm1 an1 cd1 ct1), sl1⟩) (c1 : PySem.W.codeIn K cd1 "buttons_in_order" = true) (k1 : PySem.W.keepIn K (.ref f1) = true)
    (a2 : PySem.W.nsIn K mainGlobals "buttons_of" = some (some (.ref f2))) (l2 : K.lookup f2 = some ⟨oc2, od2, .func (PySem.W.fnOf "buttons_of" "buttons_of" (defArgs s_buttons_of) (defBody s_buttons_of) (defScope s_buttons_of) .none kV2 dc2 pm2 an2 cd2 ct2), sl2⟩) (c2 : PySem.W.codeIn K cd2 "buttons_of" = true) (k2 : PySem.W.keepIn K (.ref f2) = true)
    (a3 : PySem.W.nsIn K mainGlobals "has_some" = some (some (.ref f3))) (l3 : K.lookup f3 = some ⟨oc3, od3, .func (PySem.W.fnOf "has_some" "has_some" (defArgs s_has_some) (defBody s_has_some) (defScope s_has_some) .none kV3 dc3 pm3 an3 cd3 ct3), sl3⟩) (c3 : PySem.W.codeIn K cd3 "has_some" = true) (k3 : PySem.W.keepIn K (.ref f3) = true)
    (a4 : PySem.W.nsIn K mainGlobals "least_many" = some (some (.ref f4))) (l4 : K.lookup f4 = some ⟨oc4, od4, .func (PySem.W.fnOf "least_many" "least_many" (defArgs s_least_many) (defBody s_least_many) (defScope s_least_many) .none kV4 dc4 pm4 an4 cd4 ct4), sl4⟩) (c4 : PySem.W.codeIn K cd4 "least_many" = true) (k4 : PySem.W.keepIn K (.ref f4) = true)
    (a5 : PySem.W.nsIn K mainGlobals "least_count" = some (some (.ref f5))) (l5 : K.lookup f5 = some ⟨oc5, od5, .func (PySem.W.fnOf "least_count" "least_count" (defArgs s_least_count) (defBody s_least_count) (defScope s_least_count) .none kV5 dc5 pm5 an5 cd5 ct5), sl5⟩) (c5 : PySem.W.codeIn K cd5 "least_count" = true) (k5 : PySem.W.keepIn K (.ref f5) = true)
    (a6 : PySem.W.nsIn K mainGlobals "_law_bag" = some (some (.ref f6))) (l6 : K.lookup f6 = some ⟨oc6, od6, .func (PySem.W.fnOf "_law_bag" "_law_bag" (defArgs s_l_bag) (defBody s_l_bag) (defScope s_l_bag) .none kV6 dc6 pm6 an6 cd6 ct6), sl6⟩) (c6 : PySem.W.codeIn K cd6 "_law_bag" = true) (k6 : PySem.W.keepIn K (.ref f6) = true)
    (a7 : PySem.W.nsIn K mainGlobals "_law_draw" = some (some (.ref f7))) (l7 : K.lookup f7 = some ⟨oc7, od7, .func (PySem.W.fnOf "_law_draw" "_law_draw" (defArgs s_l_draw) (defBody s_l_draw) (defScope s_l_draw) .none kV7 dc7 pm7 an7 cd7 ct7), sl7⟩) (c7 : PySem.W.codeIn K cd7 "_law_draw" = true) (k7 : PySem.W.keepIn K (.ref f7) = true)
    (a8 : PySem.W.nsIn K mainGlobals "_law_pick" = some (some (.ref f8))) (l8 : K.lookup f8 = some ⟨oc8, od8, .func (PySem.W.fnOf "_law_pick" "_law_pick" (defArgs s_l_pick) (defBody s_l_pick) (defScope s_l_pick) .none kV8 dc8 pm8 an8 cd8 ct8), sl8⟩) (c8 : PySem.W.codeIn K cd8 "_law_pick" = true) (k8 : PySem.W.keepIn K (.ref f8) = true)
    (a9 : PySem.W.nsIn K mainGlobals "_law_mixed" = some (some (.ref f9))) (l9 : K.lookup f9 = some ⟨oc9, od9, .func (PySem.W.fnOf "_law_mixed" "_law_mixed" (defArgs s_l_mixed) (defBody s_l_mixed) (defScope s_l_mixed) .none kV9 dc9 pm9 an9 cd9 ct9), sl9⟩) (c9 : PySem.W.codeIn K cd9 "_law_mixed" = true) (k9 : PySem.W.keepIn K (.ref f9) = true)
    (a10 : PySem.W.nsIn K mainGlobals "_law_buttons" = some (some (.ref f10))) (l10 : K.lookup f10 = some ⟨oc10, od10, .func (PySem.W.fnOf "_law_buttons" "_law_buttons" (defArgs s_l_buttons) (defBody s_l_buttons) (defScope s_l_buttons) .none kV10 dc10 pm10 an10 cd10 ct10), sl10⟩) (c10 : PySem.W.codeIn K cd10 "_law_buttons" = true) (k10 : PySem.W.keepIn K (.ref f10) = true)
    (a11 : PySem.W.nsIn K mainGlobals "_law_tree" = some (some (.ref f11))) (l11 : K.lookup f11 = some ⟨oc11, od11, .func (PySem.W.fnOf "_law_tree" "_law_tree" (defArgs s_l_tree) (defBody s_l_tree) (defScope s_l_tree) .none kV11 dc11 pm11 an11 cd11 ct11), sl11⟩) (c11 : PySem.W.codeIn K cd11 "_law_tree" = true) (k11 : PySem.W.keepIn K (.ref f11) = true)
    (a12 : PySem.W.nsIn K mainGlobals "_law_held" = some (some (.ref f12))) (l12 : K.lookup f12 = some ⟨oc12, od12, .func (PySem.W.fnOf "_law_held" "_law_held" (defArgs s_l_held) (defBody s_l_held) (defScope s_l_held) .none kV12 dc12 pm12 an12 cd12 ct12), sl12⟩) (c12 : PySem.W.codeIn K cd12 "_law_held" = true) (k12 : PySem.W.keepIn K (.ref f12) = true)
    (a13 : PySem.W.nsIn K mainGlobals "_law_every" = some (some (.ref f13))) (l13 : K.lookup f13 = some ⟨oc13, od13, .func (PySem.W.fnOf "_law_every" "_law_every" (defArgs s_l_every) (defBody s_l_every) (defScope s_l_every) .none kV13 dc13 pm13 an13 cd13 ct13), sl13⟩) (c13 : PySem.W.codeIn K cd13 "_law_every" = true) (k13 : PySem.W.keepIn K (.ref f13) = true)
    (a14 : PySem.W.nsIn K mainGlobals "_law_words" = some (some (.ref f14))) (l14 : K.lookup f14 = some ⟨oc14, od14, .func (PySem.W.fnOf "_law_words" "_law_words" (defArgs s_l_words) (defBody s_l_words) (defScope s_l_words) .none kV14 dc14 pm14 an14 cd14 ct14), sl14⟩) (c14 : PySem.W.codeIn K cd14 "_law_words" = true) (k14 : PySem.W.keepIn K (.ref f14) = true)
    (a15 : PySem.W.nsIn K mainGlobals "_law_powers" = some (some (.ref f15))) (l15 : K.lookup f15 = some ⟨oc15, od15, .func (PySem.W.fnOf "_law_powers" "_law_powers" (defArgs s_l_powers) (defBody s_l_powers) (defScope s_l_powers) .none kV15 dc15 pm15 an15 cd15 ct15), sl15⟩) (c15 : PySem.W.codeIn K cd15 "_law_powers" = true) (k15 : PySem.W.keepIn K (.ref f15) = true)
    (a16 : PySem.W.nsIn K mainGlobals "_law_leasts" = some (some (.ref f16))) (l16 : K.lookup f16 = some ⟨oc16, od16, .func (PySem.W.fnOf "_law_leasts" "_law_leasts" (defArgs s_l_leasts) (defBody s_l_leasts) (defScope s_l_leasts) .none kV16 dc16 pm16 an16 cd16 ct16), sl16⟩) (c16 : PySem.W.codeIn K cd16 "_law_leasts" = true) (k16 : PySem.W.keepIn K (.ref f16) = true)
    (a17 : PySem.W.nsIn K mainGlobals "_law_chosen" = some (some (.ref f17))) (l17 : K.lookup f17 = some ⟨oc17, od17, .func (PySem.W.fnOf "_law_chosen" "_law_chosen" (defArgs s_l_chosen) (defBody s_l_chosen) (defScope s_l_chosen) .none kV17 dc17 pm17 an17 cd17 ct17), sl17⟩) (c17 : PySem.W.codeIn K cd17 "_law_chosen" = true) (k17 : PySem.W.keepIn K (.ref f17) = true)
    (a18 : PySem.W.nsIn K mainGlobals "_law_least_many" = some (some (.ref f18))) (l18 : K.lookup f18 = some ⟨oc18, od18, .func (PySem.W.fnOf "_law_least_many" "_law_least_many" (defArgs s_l_least_many) (defBody s_l_least_many) (defScope s_l_least_many) .none kV18 dc18 pm18 an18 cd18 ct18), sl18⟩) (c18 : PySem.W.codeIn K cd18 "_law_least_many" = true) (k18 : PySem.W.keepIn K (.ref f18) = true)
    (a19 : PySem.W.nsIn K mainGlobals "_law_lot" = some (some (.ref f19))) (l19 : K.lookup f19 = some ⟨oc19, od19, .func (PySem.W.fnOf "_law_lot" "_law_lot" (defArgs s_l_lot) (defBody s_l_lot) (defScope s_l_lot) .none kV19 dc19 pm19 an19 cd19 ct19), sl19⟩) (c19 : PySem.W.codeIn K cd19 "_law_lot" = true) (k19 : PySem.W.keepIn K (.ref f19) = true)
    (a20 : PySem.W.nsIn K mainGlobals "_law_is_counted" = some (some (.ref f20))) (l20 : K.lookup f20 = some ⟨oc20, od20, .func (PySem.W.fnOf "_law_is_counted" "_law_is_counted" (defArgs s_l_is_counted) (defBody s_l_is_counted) (defScope s_l_is_counted) .none kV20 dc20 pm20 an20 cd20 ct20), sl20⟩) (c20 : PySem.W.codeIn K cd20 "_law_is_counted" = true) (k20 : PySem.W.keepIn K (.ref f20) = true)
    (a21 : PySem.W.nsIn K mainGlobals "_law_is_even" = some (some (.ref f21))) (l21 : K.lookup f21 = some ⟨oc21, od21, .func (PySem.W.fnOf "_law_is_even" "_law_is_even" (defArgs s_l_is_even) (defBody s_l_is_even) (defScope s_l_is_even) .none kV21 dc21 pm21 an21 cd21 ct21), sl21⟩) (c21 : PySem.W.codeIn K cd21 "_law_is_even" = true) (k21 : PySem.W.keepIn K (.ref f21) = true)
    (a22 : PySem.W.nsIn K mainGlobals "law" = some (some (.ref f22))) (l22 : K.lookup f22 = some ⟨oc22, od22, .func (PySem.W.fnOf "law" "law" (defArgs s_law) (defBody s_law) (defScope s_law) .none kV22 dc22 pm22 an22 cd22 ct22), sl22⟩) (c22 : PySem.W.codeIn K cd22 "law" = true) (k22 : PySem.W.keepIn K (.ref f22) = true)
    (z0 : PySem.W.nsIn K mainGlobals "isinstance" = some none)
    (z1 : PySem.W.nsIn K mainGlobals "tuple" = some none)
    (z2 : PySem.W.nsIn K mainGlobals "int" = some none)
    (z3 : PySem.W.nsIn K mainGlobals "sorted" = some none)
    (z4 : PySem.W.nsIn K mainGlobals "range" = some none)
    (z5 : PySem.W.nsIn K mainGlobals "len" = some none)
    (z6 : PySem.W.nsIn K mainGlobals "abs" = some none)
    (z7 : PySem.W.nsIn K mainGlobals "list" = some none)
    (z8 : PySem.W.nsIn K mainGlobals "min" = some none)
    (z9 : PySem.W.nsIn K mainGlobals "zip" = some none)
    (z10 : PySem.W.nsIn K mainGlobals "enumerate" = some none)
    (z11 : PySem.W.nsIn K mainGlobals "set" = some none)
    (z12 : PySem.W.nsIn K mainGlobals "repr" = some none)
    : ∃ fd : FuncData, (∀ (s : Shared) (v : Value), BindsTo s fd ⟨[v], []⟩ [("_law_script", v)]) ∧ ∀ base : Heap, K.In base → base.Ns mainGlobals mg → FnOk l.prog w K mg base CX0 40 fa fd ["_law_script"] (spLaw K) := by
  have e := hfa.symm.trans (PySem.W.mg_of X G a22)
  cases e
  have F0 := fun_mk (st := s_is_trip) l0 c0 k0
  have b0 := F0.binds (ps := ["tree"]) fun _ _ _ _ _ _ us hl => match us, hl with | [_], _ => rfl
  have F1 := fun_mk (st := s_buttons_in_order) l1 c1 k1
  have b1 := F1.binds (ps := ["tree"]) fun _ _ _ _ _ _ us hl => match us, hl with | [_], _ => rfl
  have F2 := fun_mk (st := s_buttons_of) l2 c2 k2
  have b2 := F2.binds (ps := ["tree"]) fun _ _ _ _ _ _ us hl => match us, hl with | [_], _ => rfl
  have F3 := fun_mk (st := s_has_some) l3 c3 k3
  have b3 := F3.binds (ps := ["tree", "lot"]) fun _ _ _ _ _ _ us hl => match us, hl with | [_, _], _ => rfl
  have F4 := fun_mk (st := s_least_many) l4 c4 k4
  have b4 := F4.binds (ps := ["tree", "must", "never"]) fun _ _ _ _ _ _ us hl => match us, hl with | [_, _, _], _ => rfl
  have F5 := fun_mk (st := s_least_count) l5 c5 k5
  have b5 := F5.binds (ps := ["tree", "must", "never"]) fun _ _ _ _ _ _ us hl => match us, hl with | [_, _, _], _ => rfl
  have F6 := fun_mk (st := s_l_bag) l6 c6 k6
  have b6 := F6.binds (ps := ["_law_script"]) fun _ _ _ _ _ _ us hl => match us, hl with | [_], _ => rfl
  have F7 := fun_mk (st := s_l_draw) l7 c7 k7
  have b7 := F7.binds (ps := ["_law_bag_here", "_law_many"]) fun _ _ _ _ _ _ us hl => match us, hl with | [_, _], _ => rfl
  have F8 := fun_mk (st := s_l_pick) l8 c8 k8
  have b8 := F8.binds (ps := ["_law_bag_here", "_law_items"]) fun _ _ _ _ _ _ us hl => match us, hl with | [_, _], _ => rfl
  have F9 := fun_mk (st := s_l_mixed) l9 c9 k9
  have b9 := F9.binds (ps := ["_law_bag_here", "_law_items"]) fun _ _ _ _ _ _ us hl => match us, hl with | [_, _], _ => rfl
  have F10 := fun_mk (st := s_l_buttons) l10 c10 k10
  have b10 := F10.binds (ps := ["_law_bag_here", "_law_many"]) fun _ _ _ _ _ _ us hl => match us, hl with | [_, _], _ => rfl
  have F11 := fun_mk (st := s_l_tree) l11 c11 k11
  have b11 := F11.binds (ps := ["_law_bag_here", "_law_row", "_law_deep"]) fun _ _ _ _ _ _ us hl => match us, hl with | [_, _, _], _ => rfl
  have F12 := fun_mk (st := s_l_held) l12 c12 k12
  have b12 := F12.binds (ps := ["_law_tree_here"]) fun _ _ _ _ _ _ us hl => match us, hl with | [_], _ => rfl
  have F13 := fun_mk (st := s_l_every) l13 c13 k13
  have b13 := F13.binds (ps := ["_law_row"]) fun _ _ _ _ _ _ us hl => match us, hl with | [_], _ => rfl
  have F14 := fun_mk (st := s_l_words) l14 c14 k14
  have b14 := F14.binds (ps := ["_law_tree_here", "_law_every_here"]) fun _ _ _ _ _ _ us hl => match us, hl with | [_, _], _ => rfl
  have F15 := fun_mk (st := s_l_powers) l15 c15 k15
  have b15 := F15.binds (ps := ["_law_row"]) fun _ _ _ _ _ _ us hl => match us, hl with | [_], _ => rfl
  have F16 := fun_mk (st := s_l_leasts) l16 c16 k16
  have b16 := F16.binds (ps := ["_law_row", "_law_every_here", "_law_words_here"]) fun _ _ _ _ _ _ us hl => match us, hl with | [_, _, _], _ => rfl
  have F17 := fun_mk (st := s_l_chosen) l17 c17 k17
  have b17 := F17.binds (ps := ["_law_tree_here", "_law_must", "_law_never"]) fun _ _ _ _ _ _ us hl => match us, hl with | [_, _, _], _ => rfl
  have F18 := fun_mk (st := s_l_least_many) l18 c18 k18
  have b18 := F18.binds (ps := ["_law_tree_here", "_law_must", "_law_never"]) fun _ _ _ _ _ _ us hl => match us, hl with | [_, _, _], _ => rfl
  have F19 := fun_mk (st := s_l_lot) l19 c19 k19
  have b19 := F19.binds (ps := ["_law_bag_here", "_law_row", "_law_often"]) fun _ _ _ _ _ _ us hl => match us, hl with | [_, _, _], _ => rfl
  have F20 := fun_mk (st := s_l_is_counted) l20 c20 k20
  have b20 := F20.binds (ps := ["_law_bag_here", "_law_tree_here", "_law_row", "_law_due"]) fun _ _ _ _ _ _ us hl => match us, hl with | [_, _, _, _], _ => rfl
  have F21 := fun_mk (st := s_l_is_even) l21 c21 k21
  have b21 := F21.binds (ps := ["_law_bag_here"]) fun _ _ _ _ _ _ us hl => match us, hl with | [_], _ => rfl
  have F22 := fun_mk (st := s_law) l22 c22 k22
  have b22 := F22.binds (ps := ["_law_script"]) fun _ _ _ _ _ _ us hl => match us, hl with | [_], _ => rfl
  refine ⟨PySem.W.fnOf "law" "law" (defArgs s_law) (defBody s_law) (defScope s_law) .none kV22 dc22 pm22 an22 cd22 ct22, fun s v => .of_eq rfl, fun base _ _ => ?_⟩
  exact ok_law (P := l.prog) (w := w) (base := base) ({
    f_is_trip := f0, d_is_trip := _, D_is_trip := ⟨F0, PySem.W.mg_of X G a0, b0⟩,
    f_buttons_in_order := f1, d_buttons_in_order := _, D_buttons_in_order := ⟨F1, PySem.W.mg_of X G a1, b1⟩,
    f_buttons_of := f2, d_buttons_of := _, D_buttons_of := ⟨F2, PySem.W.mg_of X G a2, b2⟩,
    f_has_some := f3, d_has_some := _, D_has_some := ⟨F3, PySem.W.mg_of X G a3, b3⟩,
    f_least_many := f4, d_least_many := _, D_least_many := ⟨F4, PySem.W.mg_of X G a4, b4⟩,
    f_least_count := f5, d_least_count := _, D_least_count := ⟨F5, PySem.W.mg_of X G a5, b5⟩,
    f_l_bag := f6, d_l_bag := _, D_l_bag := ⟨F6, PySem.W.mg_of X G a6, b6⟩,
    f_l_draw := f7, d_l_draw := _, D_l_draw := ⟨F7, PySem.W.mg_of X G a7, b7⟩,
    f_l_pick := f8, d_l_pick := _, D_l_pick := ⟨F8, PySem.W.mg_of X G a8, b8⟩,
    f_l_mixed := f9, d_l_mixed := _, D_l_mixed := ⟨F9, PySem.W.mg_of X G a9, b9⟩,
    f_l_buttons := f10, d_l_buttons := _, D_l_buttons := ⟨F10, PySem.W.mg_of X G a10, b10⟩,
    f_l_tree := f11, d_l_tree := _, D_l_tree := ⟨F11, PySem.W.mg_of X G a11, b11⟩,
    f_l_held := f12, d_l_held := _, D_l_held := ⟨F12, PySem.W.mg_of X G a12, b12⟩,
    f_l_every := f13, d_l_every := _, D_l_every := ⟨F13, PySem.W.mg_of X G a13, b13⟩,
    f_l_words := f14, d_l_words := _, D_l_words := ⟨F14, PySem.W.mg_of X G a14, b14⟩,
    f_l_powers := f15, d_l_powers := _, D_l_powers := ⟨F15, PySem.W.mg_of X G a15, b15⟩,
    f_l_leasts := f16, d_l_leasts := _, D_l_leasts := ⟨F16, PySem.W.mg_of X G a16, b16⟩,
    f_l_chosen := f17, d_l_chosen := _, D_l_chosen := ⟨F17, PySem.W.mg_of X G a17, b17⟩,
    f_l_least_many := f18, d_l_least_many := _, D_l_least_many := ⟨F18, PySem.W.mg_of X G a18, b18⟩,
    f_l_lot := f19, d_l_lot := _, D_l_lot := ⟨F19, PySem.W.mg_of X G a19, b19⟩,
    f_l_is_counted := f20, d_l_is_counted := _, D_l_is_counted := ⟨F20, PySem.W.mg_of X G a20, b20⟩,
    f_l_is_even := f21, d_l_is_even := _, D_l_is_even := ⟨F21, PySem.W.mg_of X G a21, b21⟩,
    f_law := fa, d_law := _, D_law := ⟨F22, PySem.W.mg_of X G a22, b22⟩,
    n_isinstance := PySem.W.mg_none_of X G z0,
    n_tuple := PySem.W.mg_none_of X G z1,
    n_int := PySem.W.mg_none_of X G z2,
    n_sorted := PySem.W.mg_none_of X G z3,
    n_range := PySem.W.mg_none_of X G z4,
    n_len := PySem.W.mg_none_of X G z5,
    n_abs := PySem.W.mg_none_of X G z6,
    n_list := PySem.W.mg_none_of X G z7,
    n_min := PySem.W.mg_none_of X G z8,
    n_zip := PySem.W.mg_none_of X G z9,
    n_enumerate := PySem.W.mg_none_of X G z10,
    n_set := PySem.W.mg_none_of X G z11,
    n_repr := PySem.W.mg_none_of X G z12 } : Txt K mg)
theorem walk {l : PySem.W.OpenLaw} {q : Program} {loose : List Str} {XP : (Str → Option Value) → Heap → Prop} {YP : World → Heap → Prop} {d : DefRec} {K : Params → PySem.W.Frag} (hn : l.most = some 63) (hdf : d.params.defaults = [])
    (hY : ∀ (w : World) (h : Heap), YP w h → (K w.params).In h)
    (F : ∀ (w : World) (mg : Str → Option Value) (fa : Addr) (h : Heap), (K w.params).In h → h.Ns mainGlobals mg → mg d.name = some (.ref fa) →
      ∃ fd : FuncData, (∀ (s : Shared) (u : Value), BindsTo s fd ⟨[u], []⟩ [("_law_script", u)]) ∧ ∀ base : Heap, (K w.params).In base → base.Ns mainGlobals mg → FnOk l.prog w (K w.params) mg base CX0 40 fa fd ["_law_script"] (spLaw (K w.params))) :
    PySem.W.WalkO q loose XP YP l.row.toRowW d [] (fun f vs => PySem.call f vs) :=
  L2.walk_of (n := 63) (k := 40) (x := "_law_script") (CX := fun _ => CX0) (sp := fun w => spLaw (K w.params)) hn (by decide) hdf ⟨rfl, by decide, by decide⟩ hY F (fun _ _ a ns hl _ hS => ⟨a, ns, rfl, hS, hl, fun _ => rfl⟩) fun _ _ _ _ _ z => z
end K16
open PySem PySem.W PyProof.Rows
set_option maxRecDepth 100000 in
set_option maxHeartbeats 0 in
theorem PySem.Challenge.cw_onescale_k16_whole_least_lots_counted_holds : PySem.Challenge.rw_onescale_k16_whole_least_lots_counted.Holds := by
  w_on; o_law; k_head; (case hw => w_witness2)
  k_fill
  refine K16.walk (l := PySem.Challenge.rw_onescale_k16_whole_least_lots_counted) rfl rfl (fun w h Y => PySem.W.kIn_of Y) ?F
  case F =>
    intro w mg fa h KX G hmg
    refine' K16.all_mk KX G hmg ?a0 ?l0 ?c0 ?k0 ?a1 ?l1 ?c1 ?k1 ?a2 ?l2 ?c2 ?k2 ?a3 ?l3 ?c3 ?k3 ?a4 ?l4 ?c4 ?k4 ?a5 ?l5 ?c5 ?k5 ?a6 ?l6 ?c6 ?k6 ?a7 ?l7 ?c7 ?k7 ?a8 ?l8 ?c8 ?k8 ?a9 ?l9 ?c9 ?k9 ?a10 ?l10 ?c10 ?k10 ?a11 ?l11 ?c11 ?k11 ?a12 ?l12 ?c12 ?k12 ?a13 ?l13 ?c13 ?k13 ?a14 ?l14 ?c14 ?k14 ?a15 ?l15 ?c15 ?k15 ?a16 ?l16 ?c16 ?k16 ?a17 ?l17 ?c17 ?k17 ?a18 ?l18 ?c18 ?k18 ?a19 ?l19 ?c19 ?k19 ?a20 ?l20 ?c20 ?k20 ?a21 ?l21 ?c21 ?k21 ?a22 ?l22 ?c22 ?k22 ?z0 ?z1 ?z2 ?z3 ?z4 ?z5 ?z6 ?z7 ?z8 ?z9 ?z10 ?z11 ?z12
    (case a0 => k_is)
    (case l0 => k_is)
    (case c0 => k_is)
    (case k0 => k_is)
    (case a1 => k_is)
    (case l1 => k_is)
    (case c1 => k_is)
    (case k1 => k_is)
    (case a2 => k_is)
    (case l2 => k_is)
    (case c2 => k_is)
    (case k2 => k_is)
    (case a3 => k_is)
    (case l3 => k_is)
    (case c3 => k_is)
    (case k3 => k_is)
    (case a4 => k_is)
    (case l4 => k_is)
    (case c4 => k_is)
    (case k4 => k_is)
    (case a5 => k_is)
    (case l5 => k_is)
    (case c5 => k_is)
    (case k5 => k_is)
    (case a6 => k_is)
    (case l6 => k_is)
    (case c6 => k_is)
    (case k6 => k_is)
    (case a7 => k_is)
    (case l7 => k_is)
    (case c7 => k_is)
    (case k7 => k_is)
    (case a8 => k_is)
    (case l8 => k_is)
    (case c8 => k_is)
    (case k8 => k_is)
    (case a9 => k_is)
    (case l9 => k_is)
    (case c9 => k_is)
    (case k9 => k_is)
    (case a10 => k_is)
    (case l10 => k_is)
    (case c10 => k_is)
    (case k10 => k_is)
    (case a11 => k_is)
    (case l11 => k_is)
    (case c11 => k_is)
    (case k11 => k_is)
    (case a12 => k_is)
    (case l12 => k_is)
    (case c12 => k_is)
    (case k12 => k_is)
    (case a13 => k_is)
    (case l13 => k_is)
    (case c13 => k_is)
    (case k13 => k_is)
    (case a14 => k_is)
    (case l14 => k_is)
    (case c14 => k_is)
    (case k14 => k_is)
    (case a15 => k_is)
    (case l15 => k_is)
    (case c15 => k_is)
    (case k15 => k_is)
    (case a16 => k_is)
    (case l16 => k_is)
    (case c16 => k_is)
    (case k16 => k_is)
    (case a17 => k_is)
    (case l17 => k_is)
    (case c17 => k_is)
    (case k17 => k_is)
    (case a18 => k_is)
    (case l18 => k_is)
    (case c18 => k_is)
    (case k18 => k_is)
    (case a19 => k_is)
    (case l19 => k_is)
    (case c19 => k_is)
    (case k19 => k_is)
    (case a20 => k_is)
    (case l20 => k_is)
    (case c20 => k_is)
    (case k20 => k_is)
    (case a21 => k_is)
    (case l21 => k_is)
    (case c21 => k_is)
    (case k21 => k_is)
    (case a22 => k_is)
    (case l22 => k_is)
    (case c22 => k_is)
    (case k22 => k_is)
    (case z0 => k_is)
    (case z1 => k_is)
    (case z2 => k_is)
    (case z3 => k_is)
    (case z4 => k_is)
    (case z5 => k_is)
    (case z6 => k_is)
    (case z7 => k_is)
    (case z8 => k_is)
    (case z9 => k_is)
    (case z10 => k_is)
    (case z11 => k_is)
    (case z12 => k_is)
