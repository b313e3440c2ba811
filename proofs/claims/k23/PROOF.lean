import PyProof.Rows.All
import Wide.All
import OpenK.AllK
import Wide.FinOn
import HandS.ForMost
import HandS.TupAny
import HandS.TupMul
import HandS.TupLe
import HandS.Conv
import HandS.SortInts
import HandS.IsInst
import HandS.Walk
import HandS.DictTup
import KE.DatumOrd
import KE.KIndexOf
import KE.GoesMore
import KE.KDictCopyH
import PyProof.Claim2Refuses
import KE.KTupSum
import PySem.Challenge.RW_cointakes_k23_whole_turned_coins
set_option Elab.async false
set_option linter.all false
set_option maxRecDepth 100000
set_option maxHeartbeats 4000000
namespace K23
abbrev Edge := Nat × Nat
abbrev Lay := List (Option Bool)
abbrev Sta := Nat → Option Bool

def odd (k : Nat) : Bool := k % 2 == 1
theorem odd_add (a b : Nat) : odd (a + b) = (odd a ^^ odd b) := by
  unfold odd
  rcases Nat.mod_two_eq_zero_or_one a with ha | ha <;> rcases Nat.mod_two_eq_zero_or_one b with hb | hb <;> simp [Nat.add_mod, ha, hb]
theorem odd_zero : odd 0 = false := rfl
theorem odd_one : odd 1 = true := rfl
theorem odd_iff (k : Nat) : odd k = true ↔ k % 2 = 1 := by unfold odd; simp
theorem odd_not_iff (k : Nat) : odd k = false ↔ k % 2 = 0 := by unfold odd; rw [beq_eq_false_iff_ne]; omega

/-- the neighbours of a place, by the edges' turns -/
def nbs (es : List Edge) (p : Nat) : List Nat := (es.filter fun e => e.1 == p || e.2 == p).map fun e => e.1 + e.2 - p
theorem nbs_nil (p : Nat) : nbs [] p = [] := rfl
theorem nbs_cons (e : Edge) (es : List Edge) (p : Nat) : nbs (e :: es) p = if e.1 = p ∨ e.2 = p then (e.1 + e.2 - p) :: nbs es p else nbs es p := by
  unfold nbs
  by_cases h : e.1 = p ∨ e.2 = p
  · rw [if_pos h, List.filter_cons_of_pos (by simpa using h), List.map_cons]
  · rw [if_neg h, List.filter_cons_of_neg (by simpa using h)]
theorem nbs_append (es fs : List Edge) (p : Nat) : nbs (es ++ fs) p = nbs es p ++ nbs fs p := by
  unfold nbs; rw [List.filter_append, List.map_append]
theorem mem_nbs {es : List Edge} {p i : Nat} (h : i ∈ nbs es p) : (∃ e ∈ es, (e.1 = p ∧ e.2 = i) ∨ (e.1 = i ∧ e.2 = p)) := by
  unfold nbs at h
  obtain ⟨e, he, rfl⟩ := List.mem_map.mp h
  obtain ⟨h1, h2⟩ := List.mem_filter.mp he
  refine ⟨e, h1, ?_⟩
  have h3 : e.1 = p ∨ e.2 = p := by simpa using h2
  rcases h3 with h3 | h3
  · left; omega
  · right; omega
/-- edges of a web: the lesser place first, below n -/
def Good (n : Nat) (es : List Edge) : Prop := ∀ e ∈ es, e.1 < e.2 ∧ e.2 < n
theorem Good.tail {n : Nat} {e : Edge} {es : List Edge} (h : Good n (e :: es)) : Good n es := fun f hf => h f (List.mem_cons_of_mem _ hf)
theorem nbs_lt {n : Nat} {es : List Edge} (g : Good n es) {p i : Nat} (h : i ∈ nbs es p) : i < n := by
  obtain ⟨e, he, h⟩ := mem_nbs h
  have := g e he
  omega
theorem nbs_ne {n : Nat} {es : List Edge} (g : Good n es) {p i : Nat} (h : i ∈ nbs es p) : i ≠ p := by
  obtain ⟨e, he, h⟩ := mem_nbs h
  have := g e he
  omega
theorem nbs_symm {n : Nat} : ∀ {es : List Edge}, Good n es → ∀ p i : Nat, (nbs es p).count i = (nbs es i).count p
  | [], _, p, i => rfl
  | e :: es, g, p, i => by
    have ih := nbs_symm g.tail p i
    have ge := g e List.mem_cons_self
    rw [nbs_cons, nbs_cons]
    by_cases h1 : e.1 = p ∨ e.2 = p
    · by_cases h2 : e.1 = i ∨ e.2 = i
      · rw [if_pos h1, if_pos h2, List.count_cons, List.count_cons, ih]
        congr 1
        by_cases h3 : e.1 + e.2 - p = i
        · have h4 : e.1 + e.2 - i = p := by omega
          simp [h3, h4]
        · have h4 : ¬ e.1 + e.2 - i = p := by omega
          simp [h3, h4]
      · rw [if_pos h1, if_neg h2, List.count_cons, ih]
        have h3 : ¬ e.1 + e.2 - p = i := by omega
        simp [h3]
    · by_cases h2 : e.1 = i ∨ e.2 = i
      · rw [if_neg h1, if_pos h2, List.count_cons, ih]
        have h3 : ¬ e.1 + e.2 - i = p := by omega
        simp [h3]
      · rw [if_neg h1, if_neg h2, ih]
theorem mem_nbs_symm {n : Nat} {es : List Edge} (g : Good n es) {p i : Nat} (h : i ∈ nbs es p) : p ∈ nbs es i := by
  rw [← List.count_pos_iff] at h ⊢
  rw [← nbs_symm g]; exact h

/-! ### sums -/
theorem sum_if (a : Nat) : ∀ P : List Nat, P.Nodup → (P.map fun i => if a = i then 1 else 0).sum = if a ∈ P then 1 else 0
  | [], _ => rfl
  | x :: P, nd => by
    obtain ⟨n1, n2⟩ := List.nodup_cons.mp nd
    rw [List.map_cons, List.sum_cons, sum_if a P n2]
    by_cases e : a = x
    · subst e
      rw [if_pos rfl, if_neg n1, if_pos List.mem_cons_self]
    · rw [if_neg e]
      by_cases h : a ∈ P
      · rw [if_pos h, if_pos (List.mem_cons_of_mem _ h)]
      · rw [if_neg h, if_neg (fun z => (List.mem_cons.mp z).elim e h)]
theorem sum_add (f g : Nat → Nat) : ∀ P : List Nat, (P.map fun i => f i + g i).sum = (P.map f).sum + (P.map g).sum
  | [] => rfl
  | x :: P => by rw [List.map_cons, List.sum_cons, List.map_cons, List.sum_cons, List.map_cons, List.sum_cons, sum_add f g P]; omega
theorem sum_zero : ∀ P : List Nat, (P.map fun _ => 0).sum = 0
  | [] => rfl
  | x :: P => by rw [List.map_cons, List.sum_cons, sum_zero P]
theorem sum_count (P : List Nat) (nd : P.Nodup) : ∀ l : List Nat, (P.map fun i => l.count i).sum = (l.filter fun x => decide (x ∈ P)).length
  | [] => by simp only [List.count_nil]; exact sum_zero P
  | a :: l => by
    have e : (fun i => (a :: l).count i) = fun i => l.count i + if a = i then 1 else 0 := by
      funext i
      rw [List.count_cons]
      by_cases h : a = i <;> simp [h]
    rw [e, sum_add, sum_count P nd l, sum_if a P nd]
    by_cases h : a ∈ P
    · rw [if_pos h, List.filter_cons_of_pos (by simpa using h), List.length_cons]
    · rw [if_neg h, List.filter_cons_of_neg (by simpa using h)]; rfl
theorem sum_perm {f : Nat → Nat} {P Q : List Nat} (h : P.Perm Q) : (P.map f).sum = (Q.map f).sum := (h.map f).sum_nat

/-- edges within -/
def ew (es : List Edge) (P : List Nat) : Nat := (es.filter fun e => decide (e.1 ∈ P) && decide (e.2 ∈ P)).length
theorem ew_step (e : Edge) (es : List Edge) (P : List Nat) : ew (e :: es) P = (if e.1 ∈ P ∧ e.2 ∈ P then 1 else 0) + ew es P := by
  unfold ew
  by_cases h : e.1 ∈ P ∧ e.2 ∈ P
  · rw [if_pos h, List.filter_cons_of_pos (by simpa using h), List.length_cons]; omega
  · rw [if_neg h, List.filter_cons_of_neg (by simpa using h)]; omega
def inn (l P : List Nat) : Nat := (l.filter fun x => decide (x ∈ P)).length
theorem inn_cons (x : Nat) (l P : List Nat) : inn (x :: l) P = (if x ∈ P then 1 else 0) + inn l P := by
  unfold inn
  by_cases h : x ∈ P
  · rw [if_pos h, List.filter_cons_of_pos (by simpa using h), List.length_cons]; omega
  · rw [if_neg h, List.filter_cons_of_neg (by simpa using h)]; omega
theorem ew_cons' {n : Nat} {v : Nat} {P : List Nat} (nv : v ∉ P) : ∀ {es : List Edge}, Good n es → ew es (v :: P) = ew es P + inn (nbs es v) P
  | [], _ => rfl
  | e :: es, g => by
    have ih := ew_cons' nv g.tail
    have ge := g e List.mem_cons_self
    obtain ⟨a, b⟩ := e
    simp only at ge
    rw [nbs_cons, ew_step, ew_step, ih]
    simp only [List.mem_cons]
    by_cases ha : a = v
    · subst ha
      have hb : b ≠ a := by omega
      have e1 : a + b - a = b := by omega
      rw [if_pos (Or.inl rfl : a = a ∨ b = a), e1, inn_cons]
      by_cases hbP : b ∈ P
      · simp [nv, hb, hbP]; omega
      · simp [nv, hb, hbP]
    · by_cases hb : b = v
      · subst hb
        have e1 : a + b - b = a := by omega
        rw [if_pos (Or.inr rfl : a = b ∨ b = b), e1, inn_cons]
        by_cases haP : a ∈ P
        · simp [nv, ha, haP]; omega
        · simp [nv, ha, haP]
      · rw [if_neg (show ¬ (a = v ∨ b = v) by simp [ha, hb])]
        simp only [ha, hb, false_or]
        omega
theorem ew_cons {n : Nat} {v : Nat} {P : List Nat} (nv : v ∉ P) {es : List Edge} (g : Good n es) : ew es (v :: P) = ew es P + ((nbs es v).filter fun x => decide (x ∈ P)).length := ew_cons' nv g
theorem ew_perm {P Q : List Nat} (h : P.Perm Q) (es : List Edge) : ew es P = ew es Q := by
  unfold ew
  congr 2
  funext e
  rw [decide_eq_decide.mpr (h.mem_iff (a := e.1)), decide_eq_decide.mpr (h.mem_iff (a := e.2))]

/-- turning -/
theorem count_turn (h : Nat → Bool) (c : Nat → Nat) : ∀ P : List Nat, odd (P.countP fun i => h i ^^ odd (c i)) = (odd (P.countP h) ^^ odd (P.map c).sum)
  | [] => rfl
  | x :: P => by
    have ih := count_turn h c P
    rw [List.map_cons, List.sum_cons, List.countP_cons, List.countP_cons, odd_add, odd_add, odd_add, ih]
    cases h x <;> cases odd (c x) <;> cases odd (P.countP h) <;> cases odd (P.map c).sum <;> rfl

/-! ### states -/
def tkS (es : List Edge) (s : Sta) (p : Nat) : Sta := fun i => if i = p then none else (s i).map fun b => b ^^ odd ((nbs es p).count i)
inductive Clr (es : List Edge) : Sta → Prop
  | done {s : Sta} : (∀ i, s i = none) → Clr es s
  | step {s : Sta} (p : Nat) : s p = some true → Clr es (tkS es s p) → Clr es s
/-- the places that are not empty -/
def Live (s : Sta) (P : List Nat) : Prop := P.Nodup ∧ ∀ i, i ∈ P ↔ (s i).isSome = true
def isH (s : Sta) (i : Nat) : Bool := s i == some true
theorem Live.tk {es : List Edge} {s : Sta} {P : List Nat} {p : Nat} (h : Live s (p :: P)) : Live (tkS es s p) P := by
  obtain ⟨nd, h⟩ := h
  obtain ⟨n1, n2⟩ := List.nodup_cons.mp nd
  refine ⟨n2, fun i => ?_⟩
  unfold tkS
  by_cases e : i = p
  · subst e; simp [n1]
  · rw [if_neg e, Option.isSome_map]
    rw [← h i]; simp [e]
theorem Live.perm {s : Sta} {P Q : List Nat} (h : Live s P) (q : P.Perm Q) : Live s Q := ⟨q.nodup_iff.mp h.1, fun i => by rw [← q.mem_iff]; exact h.2 i⟩
theorem Live.has {s : Sta} {P : List Nat} {p : Nat} {b : Bool} (h : Live s P) (e : s p = some b) : p ∈ P := (h.2 p).mpr (by rw [e]; rfl)
theorem isH_tk {es : List Edge} {s : Sta} {P : List Nat} {p : Nat} (h : Live s (p :: P)) : ∀ i ∈ P, isH (tkS es s p) i = (isH s i ^^ odd ((nbs es p).count i)) := fun i hi => by
  have ne : i ≠ p := fun e => by subst e; exact (List.nodup_cons.mp h.1).1 hi
  have hs := (h.2 i).mp (List.mem_cons_of_mem _ hi)
  unfold isH tkS
  rw [if_neg ne]
  cases q : s i with
  | none => rw [q] at hs; cases hs
  | some b => cases b <;> cases odd ((nbs es p).count i) <;> rfl
theorem heads_tk {es : List Edge} {s : Sta} {P : List Nat} {p : Nat} (h : Live s (p :: P)) : odd (P.countP (isH (tkS es s p))) = (odd (P.countP (isH s)) ^^ odd ((nbs es p).filter fun x => decide (x ∈ P)).length) := by
  have e : P.countP (isH (tkS es s p)) = P.countP fun i => isH s i ^^ odd ((nbs es p).count i) := List.countP_congr fun i hi => by rw [isH_tk h i hi]
  rw [e, count_turn, sum_count P (List.nodup_cons.mp h.1).2]
/-- what each take keeps -/
theorem clr_even {n : Nat} {es : List Edge} (g : Good n es) {s : Sta} (c : Clr es s) : ∀ P, Live s P → odd (P.countP (isH s) + P.length + ew es P) = false := by
  induction c with
  | done h0 =>
    intro P hP
    have e : P = [] := List.eq_nil_iff_forall_not_mem.mpr fun i hi => by
      have := (hP.2 i).mp hi
      rw [h0 i] at this; cases this
    subst e
    have : ew es [] = 0 := by unfold ew; simp
    rw [this]; rfl
  | @step s p hp _ ih =>
    intro P hP
    have q := List.perm_cons_erase (hP.has hp)
    have hL := hP.perm q
    have i1 := ih _ hL.tk
    rw [q.countP_eq, q.length_eq, ew_perm q, ew_cons (List.nodup_cons.mp hL.1).1 g, List.countP_cons, List.length_cons]
    rw [odd_add, odd_add, heads_tk hL] at i1
    have e1 : isH s p = true := by unfold isH; rw [hp]; rfl
    rw [e1, if_pos rfl]
    rw [odd_add, odd_add, odd_add, odd_add, odd_add, odd_one]
    revert i1
    cases odd ((P.erase p).countP (isH s)) <;> cases odd (P.erase p).length <;> cases odd (ew es (P.erase p)) <;> cases odd ((nbs es p).filter fun x => decide (x ∈ P.erase p)).length <;> simp
/-- one place more, taken last -/
theorem clr_last {n : Nat} {es : List Edge} (g : Good n es) {s : Sta} (c : Clr es s) : ∀ (P : List Nat) (v : Nat) (x : Bool) (t : Sta), Live s P → v ∉ P →
    (x ^^ odd (P.map fun i => (nbs es i).count v).sum) = true → t v = some x → (∀ i, i ≠ v → t i = s i) → Clr es t := by
  induction c with
  | done h0 =>
    intro P v x t hP nv hx tv ts
    have e : P = [] := List.eq_nil_iff_forall_not_mem.mpr fun i hi => by
      have := (hP.2 i).mp hi
      rw [h0 i] at this; cases this
    subst e
    have ex : x = true := by simpa [odd_zero] using hx
    subst ex
    refine .step v tv (.done fun i => ?_)
    unfold tkS
    by_cases e : i = v
    · rw [if_pos e]
    · rw [if_neg e, ts i e, h0]; rfl
  | step p hp _ ih =>
    intro P v x t hP nv hx tv ts
    have hm := hP.has hp
    have np : p ≠ v := fun e => nv (e ▸ hm)
    have q := List.perm_cons_erase hm
    have hL := hP.perm q
    refine .step p (by rw [ts p np]; exact hp) (ih _ v (x ^^ odd ((nbs es p).count v)) _ hL.tk (fun z => nv (List.mem_of_mem_erase z)) ?_ ?_ fun i hi => ?_)
    · rw [sum_perm (f := fun i => (nbs es i).count v) q, List.map_cons, List.sum_cons, odd_add] at hx
      rw [Bool.xor_assoc]; exact hx
    · unfold tkS; rw [if_neg (Ne.symm np), tv]; rfl
    · unfold tkS; rw [ts i hi]
/-- places in turn, each with just one neighbour among those behind it in the list -/
inductive Chain1 (es : List Edge) : List Nat → Prop
  | one (v : Nat) : Chain1 es [v]
  | more (v : Nat) (P : List Nat) : Chain1 es P → ((nbs es v).filter fun x => decide (x ∈ P)).length = 1 → Chain1 es (v :: P)
theorem chain_clr {n : Nat} {es : List Edge} (g : Good n es) {P : List Nat} (c : Chain1 es P) : ∀ s : Sta, Live s P → odd (P.countP (isH s)) = true → Clr es s := by
  induction c with
  | one v =>
    intro s hL ho
    have hv : s v = some true := by
      by_cases h : s v = some true
      · exact h
      · have : isH s v = false := by unfold isH; exact beq_eq_false_iff_ne.mpr h
        rw [List.countP_cons, this] at ho
        exact absurd ho (by simp [odd])
    refine .step v hv (.done fun i => ?_)
    have h1 := (hL.tk (es := es)).2 i
    cases q : tkS es s v i with
    | none => rfl
    | some b => rw [q] at h1; exact absurd (h1.mpr rfl) (by simp)
  | more v P c h1 ih =>
    intro s hL ho
    have nv := (List.nodup_cons.mp hL.1).1
    have hs := (hL.2 v).mp List.mem_cons_self
    cases q : s v with
    | none => rw [q] at hs; cases hs
    | some b =>
      cases b with
      | true =>
        refine .step v q (ih _ hL.tk ?_)
        rw [heads_tk hL, h1, odd_one]
        have e1 : isH s v = true := by unfold isH; rw [q]; rfl
        rw [List.countP_cons, e1, if_pos rfl, odd_add, odd_one] at ho
        exact ho
      | false =>
        let t : Sta := fun i => if i = v then none else s i
        have e1 : isH s v = false := by unfold isH; rw [q]; rfl
        have hT : Live t P := by
          refine ⟨(List.nodup_cons.mp hL.1).2, fun i => ?_⟩
          show i ∈ P ↔ (if i = v then none else s i).isSome = true
          by_cases e : i = v
          · subst e; simp [nv]
          · rw [if_neg e, ← hL.2 i]; simp [e]
        have eh : P.countP (isH t) = P.countP (isH s) := List.countP_congr fun i hi => by
          have ne : i ≠ v := fun e => nv (e ▸ hi)
          unfold isH
          show ((if i = v then none else s i) == some true) = true ↔ _
          rw [if_neg ne]
        rw [List.countP_cons, e1] at ho
        have ct := ih t hT (by rw [eh]; exact ho)
        refine clr_last g ct P v false s hT nv ?_ q fun i hi => ?_
        · have e2 : (fun i => (nbs es i).count v) = fun i => (nbs es v).count i := funext fun i => nbs_symm g i v
          rw [e2, sum_count P hT.1, h1]; rfl
        · show s i = if i = v then none else s i
          rw [if_neg hi]
/-- a state that can be cleared, over any places -/
theorem clr_some {n : Nat} {es : List Edge} (g : Good n es) : ∀ P : List Nat, P.Nodup → ∃ s : Sta, Live s P ∧ Clr es s
  | [], _ => ⟨fun _ => none, ⟨.nil, fun i => by simp⟩, .done fun _ => rfl⟩
  | v :: P, nd => by
    obtain ⟨n1, n2⟩ := List.nodup_cons.mp nd
    obtain ⟨s, hL, c⟩ := clr_some g P n2
    have sv : s v = none := by
      cases q : s v with
      | none => rfl
      | some b => exact absurd (hL.has q) n1
    let t : Sta := fun i => if i = v then some true else (s i).map fun b => b ^^ odd ((nbs es v).count i)
    have et : tkS es t v = s := by
      funext i
      show (if i = v then none else (if i = v then some true else (s i).map fun b => b ^^ odd ((nbs es v).count i)).map fun b => b ^^ odd ((nbs es v).count i)) = s i
      by_cases e : i = v
      · subst e; rw [if_pos rfl, sv]
      · rw [if_neg e, if_neg e]
        cases s i with
        | none => rfl
        | some b => show some ((b ^^ _) ^^ _) = _; rw [Bool.xor_assoc, Bool.xor_self, Bool.xor_false]
    refine ⟨t, ⟨nd, fun i => ?_⟩, .step v (if_pos rfl) (by rw [et]; exact c)⟩
    show _ ↔ (if i = v then some true else (s i).map fun b => b ^^ odd ((nbs es v).count i)).isSome = true
    by_cases e : i = v
    · subst e; simp
    · rw [if_neg e, Option.isSome_map, ← hL.2 i]; simp [e]

/-! ### a web of one part with one edge less than places -/
/-- each place but the last one of the list has a neighbour behind it -/
inductive ChainP (es : List Edge) : List Nat → Prop
  | one (v : Nat) : ChainP es [v]
  | more (v : Nat) (P : List Nat) : ChainP es P → v ∉ P → (∃ u ∈ P, u ∈ nbs es v) → ChainP es (v :: P)
theorem ChainP.nodup {es : List Edge} {P : List Nat} (c : ChainP es P) : P.Nodup := by
  induction c with
  | one v => simp
  | more v P _ nv _ ih => exact List.nodup_cons.mpr ⟨nv, ih⟩
theorem ew_one (es : List Edge) {n : Nat} (g : Good n es) (v : Nat) : ew es [v] = 0 := by
  unfold ew
  rw [List.length_eq_zero_iff, List.filter_eq_nil_iff]
  intro e he
  have := g e he
  simp; omega
theorem pos_nb {es : List Edge} {v : Nat} {P : List Nat} (h : ∃ u ∈ P, u ∈ nbs es v) : 0 < ((nbs es v).filter fun x => decide (x ∈ P)).length := by
  obtain ⟨u, h1, h2⟩ := h
  exact List.length_pos_of_mem (List.mem_filter.mpr ⟨h2, by simpa using h1⟩)
theorem chain_ge {n : Nat} {es : List Edge} (g : Good n es) {P : List Nat} (c : ChainP es P) : P.length ≤ ew es P + 1 := by
  induction c with
  | one v => simp
  | more v P c nv h ih =>
    rw [ew_cons nv g, List.length_cons]
    have := pos_nb h
    omega
theorem chain_one {n : Nat} {es : List Edge} (g : Good n es) {P : List Nat} (c : ChainP es P) : ew es P + 1 = P.length → Chain1 es P := by
  induction c with
  | one v => intro _; exact .one v
  | more v P c nv h ih =>
    intro e
    rw [ew_cons nv g, List.length_cons] at e
    have h1 := pos_nb h
    have h2 := chain_ge g c
    exact .more v P (ih (by omega)) (by omega)
theorem ew_all {n : Nat} {es : List Edge} (g : Good n es) {P : List Nat} (h : ∀ i, i < n → i ∈ P) : ew es P = es.length := by
  unfold ew
  rw [List.filter_eq_self.mpr]
  intro e he
  have := g e he
  simp only [Bool.and_eq_true, decide_eq_true_eq]
  exact ⟨h _ (by omega), h _ (by omega)⟩
/-- a part, as it is found from a place on: a chain that ends at the place, and nothing leads out of it -/
def PartOf (n : Nat) (es : List Edge) (k : Nat) (P : List Nat) : Prop := (∃ Q, P = Q ++ [k]) ∧ ChainP es P ∧ (∀ i ∈ P, i < n) ∧ ∀ i ∈ P, ∀ j ∈ nbs es i, j ∈ P
theorem chain_in {es : List Edge} (C : Nat → Prop) (hc : ∀ i, C i → ∀ j ∈ nbs es i, C j) {n : Nat} (g : Good n es) {P : List Nat} (c : ChainP es P) : ∀ {Q : List Nat} {k : Nat}, P = Q ++ [k] → C k → ∀ i ∈ P, C i := by
  induction c with
  | one v =>
    intro Q k e hk i hi
    have e1 : v = k := by
      cases Q with
      | nil => simpa using e
      | cons a Q => simp at e
    subst e1
    rw [List.mem_singleton.mp hi]; exact hk
  | more v P c nv h ih =>
    intro Q k e hk i hi
    have ne : P ≠ [] := by obtain ⟨u, hu, _⟩ := h; exact List.ne_nil_of_mem hu
    obtain ⟨Q', eq⟩ : ∃ Q', P = Q' ++ [k] := by
      cases Q with
      | nil => simp at e; exact absurd e.2 ne
      | cons a Q => simp at e; exact ⟨Q, e.2⟩
    have ihP := ih eq hk
    rcases List.mem_cons.mp hi with rfl | hi
    · obtain ⟨u, hu, hn⟩ := h
      exact hc u (ihP u hu) i (mem_nbs_symm g hn)
    · exact ihP i hi
/-- one part: 0 alone is the least place of its part -/
theorem one_part {n : Nat} {es : List Edge} (g : Good n es) (f : Nat → List Nat) (hf : ∀ k, k < n → PartOf n es k (f k)) (h1 : ∀ k, 0 < k → k < n → ∃ j ∈ f k, j < k) (h0 : 0 < n) : ∀ k, k < n → k ∈ f 0 := by
  have low : ∀ (C : Nat → Prop), (∀ i, C i → ∀ j ∈ nbs es i, C j) → ∀ k, k < n → C k → C 0 := by
    intro C hc k
    induction k using Nat.strongRecOn with
    | ind k ih =>
      intro hk ck
      by_cases e : k = 0
      · subst e; exact ck
      · obtain ⟨j, hj, hjk⟩ := h1 k (by omega) hk
        obtain ⟨⟨Q, eq⟩, hP, hlt, _⟩ := hf k hk
        exact ih j hjk (by omega) (chain_in C hc g hP eq ck j hj)
  intro k hk
  by_cases h : k ∈ f 0
  · exact h
  · obtain ⟨⟨Q, eq⟩, _, _, cl⟩ := hf 0 h0
    have := low (fun i => i ∉ f 0) (fun i hi j hj hj' => hi (cl j hj' i (mem_nbs_symm g hj))) k hk h
    exact absurd (show 0 ∈ f 0 by rw [eq]; simp) this
def Tree (n : Nat) (es : List Edge) : Prop := 0 < n ∧ es.length + 1 = n ∧ ∃ P, ChainP es P ∧ ∀ i, i ∈ P ↔ i < n
theorem nodup_len {P : List Nat} (nd : P.Nodup) {n : Nat} (h : ∀ i, i ∈ P ↔ i < n) : P.length = n := by
  have p : P.Perm (List.range n) := (List.perm_ext_iff_of_nodup nd List.nodup_range).mpr fun i => by rw [h i, List.mem_range]
  rw [p.length_eq, List.length_range]
theorem tree_of {n : Nat} {es : List Edge} (g : Good n es) (f : Nat → List Nat) (hf : ∀ k, k < n → PartOf n es k (f k)) (h1 : ∀ k, 0 < k → k < n → ∃ j ∈ f k, j < k) (h0 : 0 < n) (hl : es.length + 1 = n) : Tree n es :=
  ⟨h0, hl, f 0, (hf 0 h0).2.1, fun i => ⟨fun h => (hf 0 h0).2.2.1 i h, one_part g f hf h1 h0 i⟩⟩
theorem tree_clr {n : Nat} {es : List Edge} (g : Good n es) (T : Tree n es) {s : Sta} (hL : Live s (List.range n)) : Clr es s ↔ odd ((List.range n).countP (isH s)) = true := by
  obtain ⟨h0, hl, P, c, hP⟩ := T
  have p : P.Perm (List.range n) := (List.perm_ext_iff_of_nodup c.nodup List.nodup_range).mpr fun i => by rw [hP i, List.mem_range]
  have lP : P.length = n := nodup_len c.nodup hP
  have eP : ew es P = es.length := ew_all g fun i hi => (hP i).mpr hi
  have c1 : Chain1 es P := chain_one g c (by rw [eP, lP, hl])
  constructor
  · intro h
    have q := clr_even g h P (hL.perm p.symm)
    rw [lP, eP, p.countP_eq] at q
    rw [Nat.add_assoc, odd_add] at q
    have e2 : odd (n + es.length) = true := by rw [odd_iff]; omega
    rw [e2] at q
    cases z : odd ((List.range n).countP (isH s)) with
    | true => rfl
    | false => rw [z] at q; cases q
  · intro h
    exact chain_clr g c1 s (hL.perm p.symm) (by rw [p.countP_eq]; exact h)
end K23

namespace K23R
open PySem PySem.Spec PyProof.Rows L2
section
variable {X : Cx}
/-- t.index(k), t a tuple of ints that has it -/
theorem mt_tup_indexI : MtR X "tuple.index" (fun x xs H Q => ∃ (p : Addr) (ns : List Int) (k : Int), x = .ref p ∧ xs = [.int k] ∧ SqT X.K H p (ns.map V.int) ∧ k ∈ ns ∧ Q (.int (ns.idxOf k : Nat)) H) := by
  intro pins s σ H x xs v us Q I rx rs h
  obtain ⟨p, ns, k, rfl, rfl, hq, hk, q⟩ := h
  cases rx
  obtain ⟨u, rfl, t, rfl⟩ := vals1 rs
  obtain ⟨its, r, pl, hz⟩ := I.tuple hq
  exact PySem.SeqAt.tuple_index_ints pl r.ints hk ⟨.int _, H, I.tok _, ⟨_, rfl⟩, q⟩

/-! ### enumerate of a tuple -/
theorem meets_enumerate_newT (l : Addr) (items : Array Value) (n : Nat) (dct : Option Addr) (sl : Array (Option Value)) :
    Meets (Builtin.«enumerate.__new__» ⟨[.type "enumerate", .ref l], []⟩) (fun _ R s => s.heap.get? l = some { cls := .type "tuple", dict := dct, data := .seq items n, slots := sl } ∧
      R (.ok (.ret (.ref (s.heap.push { cls := .type "tuple_iterator", data := .fields #[.ref l, .int 0 0] }).objs.size)))
        { s with heap := (s.heap.push { cls := .type "tuple_iterator", data := .fields #[.ref l, .int 0 0] }).push { cls := .type "enumerate", data := .fields #[.none, .bool false, .ref s.heap.objs.size, rawInt 0, .none, .none] } }) :=
  .of_wp fun prog w A R s h => by
    obtain ⟨hp, g, d, tk, os⟩ := s; obtain ⟨hl, h⟩ := h
    have hsub := sub_enumerate
    have hL : Heap.IsTuple (Shared.heap ⟨hp, g, d, tk, os⟩) l items := ⟨_, hl, rfl, n, rfl⟩
    wp_walk using wpAny_loadPart' hl
    refine wpAny_stack_any fun st => wpAny_pure ?_
    split
    · rename_i c _ _ _ _ _
      cases (c == Value.type "enumerate")
      · wp_walk using wpAny_loadPart' hl, wpAny_pyIter_tuple hL
        exact ⟨_, rfl, h⟩
      · wp_walk using wpAny_loadPart' hl, wpAny_pyIter_tuple hL
        exact ⟨_, rfl, h⟩
    · wp_walk using wpAny_loadPart' hl, wpAny_pyIter_tuple hL
      exact ⟨_, rfl, h⟩
theorem call_enumerate_tup {prog : Program} {w : World} {A : Around} {E : Value → Shared → Prop} {s : Shared} {l : Addr} {items : Array Value} {Q : Value → Shared → Prop} (hL : s.heap.IsTuple l items)
    (h : ∀ h', IsEnum h' (s.heap.objs.size + 1) s.heap.objs.size 0 .none → h'.IsTupleIter s.heap.objs.size l 0 → h'.objs.size = s.heap.objs.size + 2 →
      (∀ b o, s.heap.get? b = some o → h'.get? b = some o) → Q (.ref (s.heap.objs.size + 1)) { s with heap := h' }) :
    wpAny (model prog w) A (call (.type "enumerate") [.ref l]) Q E s := by
  obtain ⟨⟨c, dct, dt, sl⟩, hl, hc, n, hd⟩ := hL
  replace hc : c = .type "tuple" := hc
  replace hd : dt = .seq items n := hd
  subst hc hd
  refine callType_new F.called_enumerate (by decide) (F.typeCall_enumerate_1 _) (F.newCall_enumerate_1 _) (fun obj => F.args_object_init_2 obj _) F.entry_enumerate_new
    (meets_enumerate_newT l items n dct sl) ⟨hl, ?_⟩
  have hz : (s.heap.push { cls := .type "tuple_iterator", data := .fields #[.ref l, .int 0 0] }).objs.size = s.heap.objs.size + 1 := Heap.size_push ..
  show _ ∧ _
  rw [hz]
  have he : IsEnum ((s.heap.push { cls := .type "tuple_iterator", data := .fields #[.ref l, .int 0 0] }).push
      { cls := .type "enumerate", data := .fields #[.none, .bool false, .ref s.heap.objs.size, rawInt 0, .none, .none] }) (s.heap.objs.size + 1) s.heap.objs.size 0 .none := by
    have := Heap.get?_push_size (s.heap.push { cls := .type "tuple_iterator", data := .fields #[.ref l, .int 0 0] })
      (o := { cls := .type "enumerate", data := .fields #[.none, .bool false, .ref s.heap.objs.size, rawInt 0, .none, .none] }) rfl
    rw [hz] at this; exact this
  refine ⟨⟨_, he, rfl⟩, h _ he ⟨_, Heap.get?_push_of_some _ (Heap.get?_push_size _ rfl), rfl, rfl⟩ (by rw [Heap.size_push, hz]) fun b o x => Heap.get?_push_of_some _ (Heap.get?_push_of_some _ x)⟩
/-- the tuple at a, each item in a new pair -/
def IteT (K : PySem.W.Frag) (a : Addr) : It :=
  ⟨fun i H => ∃ (xs : List V) (x : V), SqT K H a xs ∧ xs[i]? = some x, fun i H v H' => ∃ T x, v = .ref T ∧ H T = none ∧ H' = upd H T (.tup [.int (i : Nat), x]) ∧ ∀ xs, SqT K H a xs → xs[i]? = some x, fun i H => ∃ xs : List V, SqT K H a xs ∧ xs.length = i⟩
theorem turn_enumT {P : Program} {w : World} {K : PySem.W.Frag} {elts : List Expr} {kk : Nat} {tpos : Pos} (a e it : Addr) (hai : a ≠ it) (hae : a ≠ e) :
    Turn P w K (.Tuple elts kk tpos) (IteT K a) [e, it] e (fun i h => (∃ old, IsEnum h e it ((i : Nat) : Int) old) ∧ h.IsTupleIter it a i ∧ e ≠ it) where
  mem := by simp
  obj := fun i h st b hb => by
    obtain ⟨⟨old, he⟩, ⟨o, ho, hc, hd⟩, _⟩ := st
    have e' : b = e ∨ b = it := by simpa using hb
    rcases e' with z | z
    · rw [z]; exact ⟨_, he, fun v q => nomatch q⟩
    · rw [z]; exact ⟨o, ho, fun v q => by rw [hd] at q; cases q⟩
  keep := fun i h h' st k => let ⟨⟨old, he⟩, hi, hne⟩ := st; ⟨⟨old, k e (by simp) _ he⟩, hi.at fun o q => k it (by simp) o q, hne⟩
  item := by
    intro X hP hw hK hc i pins s σ H E I hf st hg
    subst hP hw hK
    obtain ⟨⟨old, he⟩, hit, hne⟩ := st
    obtain ⟨xs, x, hq, hx⟩ := hg
    obtain ⟨its, rv, p, hz⟩ := I.tuple hq
    obtain ⟨u, hu, ru⟩ := rv.get hx
    have hel : e < s.heap.objs.size := Heap.lt_size he
    have hil : it < s.heap.objs.size := by obtain ⟨_, q, _⟩ := hit; exact Heap.lt_size q
    have hil' : i < its.length := (List.getElem?_eq_some_iff.mp hu).1
    refine wpAny_pyNext_enum_itemD (PySem.Draws.tuple (A := X.A.in1) (I.ok.hd hc) it a hai its.toArray) he ⟨hit, p⟩ (by simpa using hil') hne (by simp [hne, Ne.symm hae]) fun x' h' tk hx' ho hit' hT hsz hk => ?_
    have exu : x' = u := by
      have q : its[i]? = some x' := by simpa using hx'
      rw [hu] at q; exact (Option.some.inj q).symm
    subst exu
    refine ⟨_, rfl, wpAny_letOwnedTupleGo_enum (s := { s with heap := h', toks := tk + 1 }) ho fun h'' he' sb => ?_⟩
    have hT2 : h''.get? s.heap.objs.size = some { cls := .type "tuple", data := .seq #[.int i tk, x'] } := (sb.2 _ (Nat.ne_of_gt hel)).trans hT
    have new : ObjOk X.prog X.w (upd H s.heap.objs.size (.tup [.int (i : Nat), x])) h'' s.heap.objs.size (.tup [.int (i : Nat), x]) :=
      ⟨by show 2 ≤ sizeLine; decide, [.int i tk, x'], .cons ⟨_, rfl⟩ (.cons ru .nil), ⟨_, hT2, rfl, _, rfl⟩⟩
    have I1 : Inv X pins σ (upd H s.heap.objs.size (.tup [.int (i : Nat), x])) { s with heap := h'', toks := tk + 1 } :=
      I.turnedNew (ch := [e, it]) (fun b ob hb q => (sb.2 b (fun z => hb (by simp [z]))).trans (hk b ob (fun z => hb (by simp [z])) (fun z => hb (by simp [z])) q)) hf (Nat.le_refl _) new
    refine ⟨.ref s.heap.objs.size, _, I1, rfl, ⟨_, x, rfl, I.hok.fresh (Nat.le_refl _), rfl, fun ys hy => by rw [I.tuple_inj hy hq]; exact hx⟩, ⟨⟨x', ?_⟩, hit'.1.at fun o q => (sb.2 it (Ne.symm hne)).trans q, hne⟩, fun b hb => ?_⟩
    · have e1 : ((i + 1 : Nat) : Int) = (i : Int) + 1 := by omega
      rw [e1]; exact he'
    · have hb' : b < s.heap.objs.size := by
        have e' : b = e ∨ b = it := by simpa using hb
        rcases e' with z | z
        · rw [z]; exact hel
        · rw [z]; exact hil
      rw [upd_ne (Nat.ne_of_lt hb')]
      exact (hf b hb).1
  done := by
    intro X hP hw hK hc i pins s σ H E I hf st hg
    subst hP hw hK
    obtain ⟨⟨old, he⟩, hit, hne⟩ := st
    obtain ⟨xs, hq, hx⟩ := hg
    obtain ⟨its, rv, p, hz⟩ := I.tuple hq
    obtain ⟨f0, f1, f2, f3, f4, f5⟩ := hf it (by simp)
    have hl := rv.length
    have ei : i = its.toArray.size := by rw [List.size_toArray]; omega
    rw [ei] at hit
    refine wpAny_pyNext_enum_endD (PySem.Draws.tuple (A := X.A.in1) (I.ok.hd hc) it a hai its.toArray) he ⟨hit, p⟩ fun h' eb => ⟨rfl, I.turned (t' := s.toks) (fun b o hb q => eb b o hb q) f0 f1 f3 f4 f5⟩
  self := fun A i s Q E st h => let ⟨⟨_, he⟩, _⟩ := st; wpAny_pyIter_enum he h
def iEnumT (K : PySem.W.Frag) (ta : TA) : TI := fun σ H R => ta σ H fun vs H1 => ∃ a xs, vs = [.ref a] ∧ SqT K H1 a xs ∧ R (IteT K a) H1
theorem pi_enumT {X : Cx} {e : Expr} {ta : TA} {p pos tpos : Pos} {elts : List Expr} {kk : Nat} (hg : Gl X "enumerate") (hm : X.mg "enumerate" = none) (ha : PA X [e] ta) (hs : starEach [e] X.env = [(false, eval e X.env)] := by rfl) :
    PI X (.Tuple elts kk tpos) (.Call (.Name "enumerate" p) [e] [] pos) (iEnumT X.K ta) := by
  refine ⟨fun pins s σ H R I h => ?_⟩
  refine Call_ (ld_blt I hg hm boot_enumerate (PyProof.Rows.callWith_type1 (thn (ha.run pos pins s σ H _ I h) fun us s1 ⟨vs, H1, I1, r1, q1⟩ => ?_) hs rfl))
  obtain ⟨a, xs, ex, hq, q⟩ := q1
  subst ex
  cases r1 with
  | cons r rr =>
    cases rr
    cases r
    obtain ⟨its, rv, p', hz⟩ := I1.tuple hq
    have la : a < s1.heap.objs.size := by obtain ⟨_, e, _⟩ := p'; exact Heap.lt_size e
    refine call_enumerate_tup p' fun h' he hit hsz hk => wpAny_pyIter_enum he ?_
    have I2 : Inv X pins σ H1 { s1 with heap := h' } := I1.kept (t' := s1.toks) hk
    refine ⟨s1.heap.objs.size + 1, [s1.heap.objs.size + 1, s1.heap.objs.size], _, _, H1, rfl, I2, turn_enumT a (s1.heap.objs.size + 1) s1.heap.objs.size (Nat.ne_of_lt la) (Nat.ne_of_lt (Nat.lt_succ_of_lt la)), ⟨⟨.none, he⟩, hit, Nat.succ_ne_self _⟩, fun b hb => ?_, q⟩
    have e' : b = s1.heap.objs.size + 1 ∨ b = s1.heap.objs.size := by simpa using hb
    have hle : s1.heap.objs.size ≤ b := by
      rcases e' with z | z
      · rw [z]; exact Nat.le_add_right _ _
      · rw [z]; exact Nat.le_refl _
    exact I1.fpOk hle (I1.hok.fresh hle)
theorem walk_enumT {K : PySem.W.Frag} {a : Addr} {xs : List V} : Walk (IteT K a) xs.length (fun H => SqT K H a xs) (YPair (fun i => some (.int (i : Nat))) (fun i => xs[i]?)) := by
  refine ⟨fun i _ hi q => ⟨xs, xs[i], q, by simp [hi]⟩, fun _ q => ⟨xs, q, rfl⟩, fun i H v H' _ q y => ?_⟩
  obtain ⟨T, x, h1, h2, h3, h4⟩ := y
  exact ⟨T, .int (i : Nat), x, h1, h2, h3, rfl, h4 xs q⟩
end
end K23R

namespace K23R
open PySem PySem.Spec PyProof.Rows L2
section
variable {prog : Program} {w : World} {A : Around} {E : Value → Shared → Prop} {s : Shared}
theorem collect_tup {l : Addr} {vs : List Value} {Q : List Value → Shared → Prop} (hl : s.heap.IsTuple l vs.toArray)
    (h : Q vs { s with heap := (s.heap.push (seqObj "list" #[] 0)).update s.heap.objs.size (Obj.mapSeq (· ++ vs.toArray)) }) (hsz : vs.length ≤ sizeLine := by size_fits) :
    wpAny (model prog w) A (collect (.ref l)) Q E s := by
  obtain ⟨o, ho, hc, n, hd⟩ := id hl
  unfold collect
  refine wpAny_bind (wpAny_runValue (codeAny_builtin entry_proto_collect' ?_))
  show wpAny _ _ (do again (.builtin "list.__iadd__" ⟨[← newList [], .ref l], []⟩)) _ _ s
  refine wpAny_bind (wpAny_newList (wpAny_pure ⟨Code.quiet_builtin _ (by decide +kernel), codeAny_builtin entry_list_iadd' ?_⟩))
  show wpAny _ _ (Builtin.List.listExtendWith (.ref s.heap.objs.size) (.ref l) (.ref s.heap.objs.size)) _ _ { s with heap := s.heap.push (seqObj "list" #[] 0) }
  unfold Builtin.List.listExtendWith
  have ho' : (s.heap.push (seqObj "list" #[] 0)).get? l = some o := Heap.get?_push_of_some _ ho
  refine wpAny_bind (wpAny_typeOf (T := "tuple") ⟨o, ho', hc⟩ ?_)
  have ht : (Value.type "tuple" == Value.type "tuple") = true := by rfl
  rw [if_pos (by rw [ht]; simp)]
  refine wpAny_bind (listItems_at ho' hd ?_)
  refine wpAny_bind (listItems_at (xs := #[]) (n := 0) (Heap.get?_push_size _ rfl) rfl ?_)
  rw [if_neg (by simp)]
  refine wpAny_bind (listUpdate_at (xs := #[]) (n := 0) (Heap.get?_push_size _ rfl) rfl ?_ (Nat.zero_le _) (by show (#[] ++ vs.toArray).size ≤ sizeLine + 1; simp only [Array.size_append, List.size_toArray, List.length_nil]; omega))
  refine wpAny_pure ?_
  show wpAny (model prog w) A (do
      let o ← load s.heap.objs.size
      match o.data with
      | .seq xs _ => pure xs.toList
      | _ => unsupported "internal:collect") Q E { s with heap := (s.heap.push (seqObj "list" #[] 0)).update s.heap.objs.size (Obj.mapSeq (· ++ vs.toArray)) }
  refine wpAny_bind (wpAny_load (get?_update_seq (Heap.get?_push_size _ rfl) _) ?_)
  show wpAny _ _ (pure ((#[] : Array Value) ++ vs.toArray).toList) Q E _
  rw [show ((#[] : Array Value) ++ vs.toArray).toList = vs by simp]
  exact wpAny_pure h
open SrtO in
theorem sorted_ordT {l : Addr} {vs : List Value} {ltv : Value → Value → Bool} {Q : Value → Shared → Prop} (O : Swo ltv) (hl : s.heap.IsTuple l vs.toArray) (hz : vs.length ≤ sizeLine)
    (hS : 2 ≤ vs.length → ∀ (h₁ : Heap) (a : Addr), h₁.get? a = some (seqObj "list" vs.toArray 0) → (∀ b o, s.heap.get? b = some o → b ≠ a ∧ h₁.get? b = some o) → SortableO prog w A.in1.in1 { s with heap := h₁ } a vs ltv)
    (h : ∀ out : List Value, Srtd ltv out → Stb ltv out vs → Q (.ref (s.heap.objs.size + 1)) { s with heap := sortedAll s.heap vs out.toArray }) :
    wpAny (model prog w) A (call (.builtin "sorted") [.ref l]) Q E s := by
  refine Calls.call_function_entry kind_sorted plain_sorted entry_sorted (args_sorted1 _) ?_
  unfold Builtin.«sorted»
  refine wpAny_bind (m := checkCount "sorted" 1 1 _) (wpAny_pure ?_)
  refine wpAny_bind (collect_tup hl ?_ hz)
  refine wpAny_bind (wpAny_newList ?_ hz)
  have hsz : ((s.heap.push (seqObj "list" #[] 0)).update s.heap.objs.size (Obj.mapSeq (· ++ vs.toArray))).objs.size = s.heap.objs.size + 1 := by
    rw [Heap.size_update, size_push']
  have hoL : (((s.heap.push (seqObj "list" #[] 0)).update s.heap.objs.size (Obj.mapSeq (· ++ vs.toArray))).push (seqObj "list" vs.toArray 0)).get? (s.heap.objs.size + 1) = some (seqObj "list" vs.toArray 0) := by
    rw [← hsz]; exact Heap.get?_push_size _ rfl
  have keep : ∀ b o, s.heap.get? b = some o → b ≠ s.heap.objs.size + 1 ∧ (((s.heap.push (seqObj "list" #[] 0)).update s.heap.objs.size (Obj.mapSeq (· ++ vs.toArray))).push (seqObj "list" vs.toArray 0)).get? b = some o := fun b o q => by
    have hlt : b < s.heap.objs.size := Heap.lt_size q
    refine ⟨Nat.ne_of_lt (Nat.lt_succ_of_lt hlt), Heap.get?_push_of_some _ ?_⟩
    rw [Heap.get?_update_ne _ _ _ _ (Nat.ne_of_lt hlt)]
    exact Heap.get?_push_of_some _ q
  show wpAny _ _ _ _ _ { s with heap := ((s.heap.push (seqObj "list" #[] 0)).update s.heap.objs.size (Obj.mapSeq (· ++ vs.toArray))).push (seqObj "list" vs.toArray 0) }
  rw [hsz]
  refine wpAny_bind (wpAny_holding (wpAny_call_entry slot_list_sort ⟨_, hoL, rfl⟩ entry_list_sort (list_sort_ord O hoL hz (fun h2 => hS h2 _ _ hoL keep) fun out hs hb => ⟨_, rfl, ?_⟩) (args_list_sort _)))
  exact wpAny_pure ⟨_, rfl, h out hs hb⟩
end
section
variable {X : Cx}
/-- sorted(t), t a tuple of ints -/
def rSortedTI (K : PySem.W.Frag) : List V → Hp → VK → Prop := fun vs H Q => ∃ (a : Addr) (ns : List Int), vs = [V.ref a] ∧ SqT K H a (ns.map V.int) ∧
  ∀ (ns' : List Int) (p : Addr), ns'.Perm ns → ns'.Pairwise (· ≤ ·) → H p = none → Q (.ref p) (upd H p (.lst (ns'.map V.int)))
theorem cr_sortedTI : CallR X (.builtin "sorted") (rSortedTI X.K) := by
  intro pins s σ H vs us Q I r h
  obtain ⟨a, ns, rfl, hs, q⟩ := h
  obtain ⟨its, rv, hl, hz⟩ := I.tuple hs
  rw [Vals.ref1 r]
  have hi := rv.ints
  refine sorted_ordT SrtO.swo_int hl (by rw [← rv.length]; exact hz) (fun h2 h₁ a' _ _ => SrtO.ints_sortable hi h2) fun out h1 h2 => ?_
  obtain ⟨k1, k2, k3⟩ := SrtO.ints_out hi h1 h2
  obtain ⟨ep, he'⟩ := PyProof.Rows.sortedAll_at s.heap its out.toArray
  have hlen : ((out.map SrtO.iv).map V.int).length ≤ sizeLine := by
    rw [List.length_map, k2.length_eq]
    rw [List.length_map] at hz
    exact hz
  exact ⟨.ref _, upd H (s.heap.objs.size + 1) (.lst ((out.map SrtO.iv).map V.int)), I.laid (t' := s.toks) (fun _ _ => PyProof.Rows.sortedAll_old) (Nat.le_succ _) ⟨hlen, out, ep, vals_of_ints k1, he'⟩, rfl, q _ _ k2 k3 (I.hok.fresh (Nat.le_succ _))⟩
end
end K23R

namespace K23R
open PySem PySem.Spec PyProof.Rows L2
section
open AutoSeq1 (wpAny_loadPart')
theorem tuple_mul1 (l : Addr) (items : Array Value) (n : Nat) (dd : Option Addr) (sl : Array (Option Value)) (u : Tok) :
    Meets (Builtin.«tuple.__mul__» ⟨[.ref l, .int 1 u], []⟩) (fun _ R s => s.heap.get? l = some { cls := .type "tuple", dict := dd, data := .seq items n, slots := sl } ∧
      R (.ok (.ret (Value.ref l))) s) :=
  .of_wp fun prog w A R s h => by
    obtain ⟨hp, g, d, tk, os⟩ := s
    obtain ⟨hl, h⟩ := h
    have f1 := AutoSeq1.idx_int
    have c1 : (items.isEmpty || (1 : Int) == 1) = true := by simp
    wp_walk using wpAny_loadPart' hl
    exact ⟨_, rfl, h⟩
end
section
variable {prog : Program} {w : World} {A : Around} {E : Value → Shared → Prop} {s : Shared} {l : Addr}
theorem sum_rawT {its : List Value} {ns : List Int} {Q : Value → Shared → Prop} (hh : A.handled = none) (hl : s.heap.IsTuple l its.toArray) (hi : IntsAre its ns)
    (h : ∀ h' tk t', (∀ b o, s.heap.get? b = some o → h'.get? b = some o) → Q (.int ns.sum t') { s with heap := h', toks := tk }) : wpAny (model prog w) A (call (.builtin "sum") [.ref l]) Q E s := by
  obtain ⟨ys, ey⟩ := hi.allInts.items
  have tot : preSum (numAt ys) ys.size = ns.sum := by
    have q := hi.numsOf
    rw [show its = (intItems ys).toList by rw [← ey], nums_intItems] at q
    rw [← q, preSum_eq, List.take_of_length_le (by simp)]
  refine PySem.W.ktm_sumG hh (ey ▸ hl) fun h' tk t' kept => ?_
  rw [tot]
  exact h h' tk t' kept
end
section
variable {X : Cx}
/-- sum(t), t a tuple of ints -/
def rSumT (K : PySem.W.Frag) : List V → Hp → VK → Prop := fun vs H Q => ∃ (a : Addr) (ns : List Int), vs = [V.ref a] ∧ SqT K H a (ns.map V.int) ∧ Q (.int ns.sum) H
theorem cr_sumT (hc : X.calm = true) : CallR X (.builtin "sum") (rSumT X.K) := by
  intro pins s σ H vs us Q I r h
  obtain ⟨a, ns, rfl, hs, q⟩ := h
  obtain ⟨its, rv, hl, _⟩ := I.tuple hs
  rw [Vals.ref1 r]
  exact sum_rawT (I.ok.hd hc) hl rv.ints fun h' tk t' hk => ⟨.int _, H, I.kept hk, ⟨_, rfl⟩, q⟩
/-- t * 1: the tuple itself -/
def rRep1 (K : PySem.W.Frag) : R2 := fun x y H Q => ∃ l xs, x = .ref l ∧ y = .int 1 ∧ SqT K H l xs ∧ Q (.ref l) H
theorem op_rep1 : OpR X (binaryOp .Mult) (rRep1 X.K) := by
  intro pins s σ H x y v u Q I rx ry h
  obtain ⟨l, xs, rfl, rfl, hT, q⟩ := h
  cases rx
  obtain ⟨t, rfl⟩ := ry
  obtain ⟨its, r, ⟨⟨cls, dd, data, sl⟩, ho, hc, n, hd⟩, hs⟩ := I.tuple hT
  simp only at hc hd
  subst hc hd
  refine wpAny_binaryOp_repeat_ref (T := "tuple") (U := "int") (by decide) ⟨_, ho, rfl⟩ (fun s' => typeIs_int s' 1 t) noFill_tuple_mul F.fills_int_mul F.slot_int_rmul repeat_tuple F.slot_int_index.lookup
    (call_meets F.slot_int_rmul (typeIs_int s 1 t) F.entry_int_rmul (F.args_int_rmul_2 _ _) (int_rmul_tuple 1 t l its.toArray n dd sl)
      ⟨ho, rfl, ⟨_, ho, rfl⟩, call_meets F.slot_tuple_mul ⟨_, ho, rfl⟩ F.entry_tuple_mul (F.args_tuple_mul_2 _ _) (tuple_mul1 l its.toArray n dd sl t) ⟨ho, ?_⟩⟩)
  exact ⟨.ref l, H, I.tok s.toks, rfl, q⟩
/-- t * k, k from 1 on -/
def rRepN (K : PySem.W.Frag) : R2 := fun x y H Q => ∃ l k xs, x = .ref l ∧ y = .int k ∧ SqT K H l xs ∧ xs ≠ [] ∧ 1 ≤ k ∧ k ≤ 1000 ∧ xs.length ≤ 1000 ∧ (k = 1 → Q (.ref l) H) ∧ ∀ p, H p = none → Q (.ref p) (upd H p (.tup (List.replicate k.toNat xs).flatten))
theorem op_repN : OpR X (binaryOp .Mult) (rRepN X.K) := by
  intro pins s σ H x y v u Q I rx ry h
  obtain ⟨l, k, xs, rfl, rfl, hT, h1, h2, h3, h4, q1, q2⟩ := h
  by_cases e : k = 1
  · subst e
    exact op_rep1 pins s σ H _ _ v u Q I rx ry ⟨l, xs, rfl, rfl, hT, q1 rfl⟩
  · exact op_repT pins s σ H _ _ v u Q I rx ry ⟨l, k, xs, rfl, rfl, hT, h1, by omega, h3, h4, q2⟩

/-! ### min of pairs -/
open PySem.W in
abbrev IL := Int × Tup Int
/-- at v stands the pair of a number and a tuple of numbers -/
def IsIL (H : Hp) (v : V) (d : Int × List Int) : Prop := ∃ p q, v = .ref p ∧ H p = some (.tup [.int d.1, .ref q]) ∧ H q = some (.tup (d.2.map V.int))
def toIL (d : Int × List Int) : IL := (d.1, ⟨d.2⟩)
theorem IsIL.holds {pins : List (Addr × Obj)} {σ : L2.St} {H : Hp} {s : Shared} {v : V} {d : Int × List Int} {u : Value} (I : Inv X pins σ H s) (h : IsIL H v d) (r : RelV v u) : PySem.W.Holds s.heap u (toIL d) := by
  obtain ⟨p, q, rfl, hp, hq⟩ := h
  cases r
  obtain ⟨its, rv, o, ho, hc, n, hd⟩ := (I.hok _ _ hp).2
  obtain ⟨u1, u2, rfl, ri, rj⟩ := vals2 rv
  obtain ⟨t, rfl⟩ := ri
  cases rj
  obtain ⟨its2, rv2, tp2⟩ := (I.hok _ _ hq).2
  exact PySem.W.holds_pair ⟨o, ho, hc, n, hd⟩ (PySem.W.holds_int _ _) (PySem.W.holds_tup tp2 (PySem.W.HoldAll.of_ints rv2.ints))
theorem all_IL {pins : List (Addr × Obj)} {σ : L2.St} {H : Hp} {s : Shared} (I : Inv X pins σ H s) : ∀ {vs : List V} {ds : List (Int × List Int)} {us : List Value}, Paired (IsIL H) vs ds → Vals vs us → PySem.W.HoldAll s.heap us (ds.map toIL)
  | _, _, _, .nil, .nil => PySem.W.HoldAll.nil
  | _, _, _, .cons h t, .cons r q => PySem.W.HoldAll.cons (h.holds I r) (all_IL I t q)
def ltIL (a b : Int × List Int) : Bool := PySem.W.DatumOrd.lt (toIL a) (toIL b)
def minIL (x : Int × List Int) (xs : List (Int × List Int)) : Int × List Int := xs.foldl (fun a y => if ltIL y a = true then y else a) x
theorem minIL_to (x : Int × List Int) (xs : List (Int × List Int)) : PySem.W.minOf (toIL x) (xs.map toIL) = toIL (minIL x xs) := by
  unfold PySem.W.minOf minIL
  induction xs generalizing x with
  | nil => rfl
  | cons y ys ih =>
    rw [List.map_cons, List.foldl_cons, List.foldl_cons, ← ih]
    show List.foldl _ (if ltIL y x = true then toIL y else toIL x) _ = _
    cases ltIL y x <;> rfl
theorem toIL_inj {a b : Int × List Int} (h : toIL a = toIL b) : a = b := by
  obtain ⟨a1, a2⟩ := a
  obtain ⟨b1, b2⟩ := b
  unfold toIL at h
  simp only [Prod.mk.injEq, PySem.W.Tup.mk.injEq] at h
  rw [h.1, h.2]
theorem holds_uniq {h : Heap} {v : Value} {a b : IL} (p : PySem.W.Holds h v a) (q : PySem.W.Holds h v b) : a = b := by
  obtain ⟨as, r⟩ := p
  obtain ⟨bs, t⟩ := q
  have e := (PySem.Reads.unique r _ _ t).1
  have q := PySem.W.Datum.eqv a b
  rw [e, PySem.W.Datum.eqv b b] at q
  simp at q
  exact q
def rMinIL (K : PySem.W.Frag) : List V → Hp → VK → Prop := fun vs H Q => ∃ (a : Addr) (xs : List V) (d : Int × List Int) (ds : List (Int × List Int)), vs = [V.ref a] ∧ SqL K H a xs ∧ Paired (IsIL H) xs (d :: ds) ∧
  ∀ x ∈ xs, IsIL H x (minIL d ds) → Q x H
theorem cr_minIL (hc : X.calm = true) (hu : X.A.units + 10 < cLine) : CallR X (.builtin "min") (rMinIL X.K) := by
  intro pins s σ H vs us Q I r h
  obtain ⟨a, xs, d, ds, rfl, hs, hp, q⟩ := h
  obtain ⟨its, rv, hl, _⟩ := I.list hs
  rw [Vals.ref1 r]
  have HA := all_IL I hp rv
  refine PySem.W.min_list_datum (x := toIL d) (xs := ds.map toIL) (I.ok.hd hc) hl.isList (by simpa using HA) ?_ fun i v h' tk hv hh hk => ?_
  · have e : PySem.W.Datum.depth IL ≤ 8 := by decide
    omega
  · have hv' : its[i]? = some v := by simpa using hv
    rw [minIL_to] at hh
    obtain ⟨x, hx, rx⟩ : ∃ x, xs[i]? = some x ∧ RelV x v := by
      have hi : i < xs.length := by rw [rv.length]; exact (List.getElem?_eq_some_iff.mp hv').1
      obtain ⟨u, hu, ru⟩ := rv.get (List.getElem?_eq_getElem hi)
      rw [hv'] at hu; cases hu
      exact ⟨_, List.getElem?_eq_getElem hi, ru⟩
    have hm := List.mem_of_getElem? hx
    obtain ⟨d', hd', isd⟩ : ∃ d', (d :: ds)[i]? = some d' ∧ IsIL H x d' := by
      have gp : ∀ {l1 : List V} {l2 : List (Int × List Int)}, Paired (IsIL H) l1 l2 → ∀ (j : Nat) (y : V), l1[j]? = some y → ∃ e, l2[j]? = some e ∧ IsIL H y e := by
        intro l1 l2 hp
        induction hp with
        | nil => intro j y e; simp at e
        | cons h0 _ ih =>
          intro j y e
          cases j with
          | zero => simp at e; subst e; exact ⟨_, rfl, h0⟩
          | succ j => simpa using ih j y (by simpa using e)
      exact gp hp i x hx
    have e1 : toIL d' = toIL (minIL d ds) := holds_uniq ((isd.holds I rx).keeps hk) hh
    rw [toIL_inj e1] at isd
    exact ⟨x, H, I.kept hk, rx, q x hm isd⟩
end
end K23R

namespace K23R
open PySem PySem.Spec PyProof.Rows L2
section
open PySem.W
variable {prog : Program} {w : World} {A : Around} {E : Value → Shared → Prop} {s : Shared} {T : String} {r d : Addr} {n : Nat} {P : Nat → Value → Prop} {OK : Heap → Prop}
theorem collect_src {R : List Value → Shared → Prop} (K : KdlSrc prog w T r d n P OK) (hh : A.handled = none) (hok : OK s.heap) (hn : n ≤ sizeLine)
    (h : ∀ (h' : Heap) (tk : Nat) (acc : Array Value), (∀ b o, s.heap.get? b = some o → h'.get? b = some o) → s.heap.objs.size < h'.objs.size → ItemsOf P acc n → R acc.toList { s with heap := h', toks := tk }) :
    wpAny (model prog w) A (collect (.ref r)) R E s := by
  obtain ⟨hr, hd⟩ := K.there _ hok
  unfold collect
  refine wpAny_bind (wpAny_runValue (codeAny_builtin entry_proto_collect' ?_))
  rw [Around.under_plainId PySem.F.plain_proto_collect _]
  show wpAny _ A.in1 (newList [] >>= fun l => again (.builtin "list.__iadd__" ⟨[l, .ref r], []⟩)) _ _ s
  refine wpAny_bind (wpAny_newObj_type ?_)
  refine wpAny_pure ⟨plainId_quiet PySem.F.plain_list_iadd _, codeAny_builtin entry_list_iadd' ?_⟩
  rw [Around.under_plainId PySem.F.plain_list_iadd _]
  have hS₁ : (s.heap.push { cls := .type "list", data := .seq ([] : List Value).toArray }).get? s.heap.objs.size = some { cls := .type "list", data := .seq #[] } := Heap.get?_push_size _ rfl
  show wpAny _ A.in1 (Builtin.List.listExtendWith (.ref s.heap.objs.size) (.ref r) (.ref s.heap.objs.size)) _ _ _
  have key := kdl_extend (prog := prog) (w := w) (A := A) (s := { s with heap := s.heap.push { cls := .type "list", data := .seq ([] : List Value).toArray } })
    (R := fun (q : Result) (s' : Shared) => ∃ (h' : Heap) (tk : Nat) (acc' : Array Value) (c' : Nat), q = .ok (.ret (.ref s.heap.objs.size)) ∧ s' = { s with heap := h', toks := tk } ∧
      (∀ b o, s.heap.get? b = some o → h'.get? b = some o) ∧ h'.get? s.heap.objs.size = some { cls := .type "list", dict := none, data := .seq acc' c', slots := #[] } ∧ ItemsOf P acc' n)
    K hh (K.keep _ _ hok fun b _ o e => Heap.get?_push_of_some _ e) s.heap.objs.size (Nat.ne_of_gt hr) (Nat.ne_of_gt hd) (.ref s.heap.objs.size) 0 hS₁
    (fun h' tk acc' c' hk hS' hacc => ⟨h', tk, acc', c', rfl, rfl, fun b o e => hk b o (Nat.ne_of_lt (Heap.lt_size e)) (Heap.get?_push_of_some _ e), hS', hacc⟩) hn
  refine wpAny_mono key (fun fin s' x => ?_) fun e s' x => ?_
  · cases fin with
    | done f =>
      obtain ⟨h', tk, acc', c', e, rfl, hk, hS', hacc⟩ := x
      cases e
      show wpAny _ A (load s.heap.objs.size >>= _) _ _ _
      refine wpAny_bind (wpAny_load hS' ?_)
      refine wpAny_pure ?_
      exact h h' tk acc' hk (Heap.lt_size hS') hacc
    | again c₁ =>
      refine ⟨x.1, codeAny_mono x.2 fun q s₂ y => ?_⟩
      obtain ⟨h', tk, acc', c', rfl, rfl, hk, hS', hacc⟩ := y
      show wpAny _ A (load s.heap.objs.size >>= _) _ _ _
      refine wpAny_bind (wpAny_load hS' ?_)
      refine wpAny_pure ?_
      exact h h' tk acc' hk (Heap.lt_size hS') hacc
  · obtain ⟨_, _, _, _, e', _⟩ := x
    cases e'
open SrtO in
theorem sorted_src {k : Value → Int × Int} {Q : Value → Shared → Prop} (K : KdlSrc prog w T r d n P OK) (hh : A.handled = none) (hok : OK s.heap) (hn : n ≤ sizeLine)
    (hp : ∀ acc : Array Value, ItemsOf P acc n → ∀ v ∈ acc.toList, Srt.IsPair s.heap v (k v).1 (k v).2)
    (h : ∀ (h' : Heap) (tk : Nat) (D : Addr) (acc : Array Value) (out : List Value), ItemsOf P acc n → Srtd (fun v u => lexB (k v) (k u)) out → out.Perm acc.toList → (∀ b o, s.heap.get? b = some o → h'.get? b = some o) → s.heap.objs.size ≤ D →
      (∃ m, h'.get? D = some (seqObj "list" out.toArray m)) → Q (.ref D) { s with heap := h', toks := tk }) :
    wpAny (model prog w) A (call (.builtin "sorted") [.ref r]) Q E s := by
  refine Calls.call_function_entry kind_sorted plain_sorted entry_sorted (args_sorted1 _) ?_
  unfold Builtin.«sorted»
  refine wpAny_bind (m := checkCount "sorted" 1 1 _) (wpAny_pure ?_)
  refine wpAny_bind (collect_src (A := A.in1) K hh hok hn fun h' tk acc hk hlt hacc => ?_)
  have hz : acc.toList.length ≤ sizeLine := by rw [Array.length_toList, hacc.1]; exact hn
  refine wpAny_bind (wpAny_newList ?_ hz)
  have hob : (h'.push { cls := .type "list", data := .seq acc.toList.toArray }).get? h'.objs.size = some (seqObj "list" acc.toList.toArray 0) := Heap.get?_push_size _ rfl
  have kb : ∀ b o, s.heap.get? b = some o → (h'.push { cls := .type "list", data := .seq acc.toList.toArray }).get? b = some o := fun b o e => Heap.get?_push_of_some _ (hk b o e)
  have ne0 : ∀ b o, h'.get? b = some o → b ≠ h'.objs.size := fun b o e => Nat.ne_of_lt (Heap.lt_size e)
  have hle : s.heap.objs.size ≤ h'.objs.size := Nat.le_of_lt hlt
  show wpAny _ _ _ _ _ { s with heap := h'.push { cls := .type "list", data := .seq acc.toList.toArray }, toks := tk }
  refine wpAny_bind (wpAny_holding (wpAny_call_entry slot_list_sort ⟨_, hob, rfl⟩ entry_list_sort (list_sort_ord (swo_lex k) hob hz (fun h2 => ?_) fun out hs hb => ⟨_, rfl, ?_⟩) (args_list_sort _)))
  · refine pairs_sortableO (by omega) (fun v hm => (hp acc hacc v hm).keeps fun b o e _ => kb b o e) fun o e => ?_
    have e' : some o = some (seqObj "list" acc.toList.toArray 0) := e.symm.trans hob
    cases e'
    intro c
    exact absurd (Value.type.inj c) (by decide)
  · refine wpAny_pure ⟨_, rfl, h _ tk h'.objs.size acc out hacc hs hb.perm (fun b o e => ?_) hle (PyProof.Rows.sortedHeap_at (vs := acc.toList) (out := out.toArray) hob)⟩
    exact (PyProof.Rows.sortedHeap_old (ne0 _ _ (hk b o e)) (Heap.lt_size (kb b o e))).trans (kb b o e)
end
/-- the view d.keys() at p -/
def keysO (p d : Addr) : HO := .ext fun h => PySem.W.KdlKeysView h p d
theorem keysO_ok {P : Program} {w : World} {H : Hp} {h : Heap} {p d : Addr} (e : h.get? p = some { cls := .type "dict_keys", data := .fields #[.ref d] }) : ObjOk P w H h p (keysO p d) :=
  ⟨⟨_, e, rfl, rfl⟩, ⟨_, e⟩, fun h1 h2 x k => let ⟨o, ho, r⟩ := x; ⟨o, k o ho, r⟩⟩
section
variable {X : Cx}
def rKeysT : V → List V → Hp → VK → Prop := fun x xs H Q => ∃ (a : Addr) (kvs : List (List L2.Key × V)), x = .ref a ∧ xs = [] ∧ H a = some (.dT kvs) ∧ ∀ p, H p = none → Q (.ref p) (upd H p (keysO p a))
theorem mt_keysT : MtR X "dict.keys" rKeysT := by
  intro pins s σ H x xs v us Q I rx rxs h
  obtain ⟨a, kvs, rfl, rfl, ha, q⟩ := h
  cases rx
  cases rxs
  obtain ⟨z, hd, xs', rel, o, es, ep, ho, hx, hdat, _⟩ := dt_of I.hok ha
  have hf : H s.heap.objs.size = none := I.hok.fresh (Nat.le_refl _)
  have raw : s.heap.DictRaw a es ep := ⟨o, ho, hx, hdat⟩
  refine call_meetsIn PySem.F.slot_dict_keys raw.typeIs PySem.F.entry_dict_keys (PySem.F.args_dict_keys_1 _) (PySem.meets_dict_keys_raw a hd) ⟨⟨es, ep, raw⟩, ?_⟩
  exact ⟨.ref s.heap.objs.size, upd H s.heap.objs.size (keysO s.heap.objs.size a), I.laid (t' := s.toks) (fun b u e => Heap.get?_push_of_some _ e) (Nat.le_refl _) (keysO_ok (Heap.get?_push_size _ rfl)), rfl, q _ hf⟩
/-- at a stands a pair of numbers -/
def IsII (H : Hp) (b : Addr) (p : Int × Int) : Prop := H b = some (.tup [.int p.1, .int p.2])
def iiAt (H : Hp) (v : V) : Int × Int := match v with
  | .ref b => (match H b with | some (.tup [.int i, .int j]) => (i, j) | _ => (0, 0))
  | _ => (0, 0)
theorem iiAt_of {H : Hp} {b : Addr} {p : Int × Int} (h : IsII H b p) : iiAt H (.ref b) = p := by
  unfold iiAt
  show (match H b with | some (.tup [.int i, .int j]) => (i, j) | _ => (0, 0)) = p
  rw [show H b = _ from h]
/-- sorted(d.keys()), the keys pairs of numbers -/
def rSortKT : List V → Hp → VK → Prop := fun vs H Q => ∃ (p a : Addr) (kvs : List (List L2.Key × V)) (ks : List (Int × Int)), vs = [.ref p] ∧ H p = some (keysO p a) ∧ H a = some (.dT kvs) ∧ kvs.map (·.1) = ks.map (fun k => [Sum.inl k.1, Sum.inl k.2]) ∧
  ∀ (l : Addr) (bs : List Addr) (ps : List (Int × Int)), H l = none → ps.Perm ks → ps.Pairwise (fun p q => SrtO.lexB q p = false) → Paired (IsII H) bs ps → Q (.ref l) (upd H l (.lst (bs.map V.ref)))
theorem cr_sortedKeys (hc : X.calm = true) : CallR X (.builtin "sorted") rSortKT := by
  intro pins s σ H xs us Q I r h
  obtain ⟨p, a, kvs, ks, rfl, hp, ha, hks, q⟩ := h
  obtain rfl := Vals.ref1 r
  have view : PySem.W.KdlKeysView s.heap p a := (show ObjOk X.prog X.w H s.heap p (keysO p a) from I.hok p _ hp).1
  obtain ⟨z, hd, xs', rel, o, es, ep, ho, hx, hdat, hes, his, hn⟩ := dt_of I.hok ha
  have l1 : kvs.length = xs'.length := Paired.length rel
  have l2 : es.size = xs'.length := size_of_entries hes
  have lk : ks.length = kvs.length := by
    have := congrArg List.length hks
    rw [List.length_map, List.length_map] at this
    omega
  -- the keys' places
  have at_ : ∀ j (hj : j < ks.length), ∃ b : Addr, (xs'.map fun x => x.2.1)[j]? = some b ∧ IsII H b ks[j] := by
    intro j hj
    have hj' : j < xs'.length := by omega
    have hjk : j < kvs.length := by omega
    obtain ⟨e0, he0, r1, r2, r3⟩ := L2.DX.pget rel (List.getElem?_eq_getElem hj')
    refine ⟨xs'[j].2.1, by rw [List.getElem?_map, List.getElem?_eq_getElem hj']; rfl, ?_⟩
    have ek : e0.1 = [Sum.inl ks[j].1, Sum.inl ks[j].2] := by
      have q1 : (kvs.map (·.1))[j]? = some e0.1 := by rw [List.getElem?_map, he0]; rfl
      rw [hks, List.getElem?_map, List.getElem?_eq_getElem hj] at q1
      exact (Option.some.inj q1).symm
    rw [ek] at r2
    exact r2
  have accs : ∀ acc : Array Value, ItemsOf (fun i v => ∃ hi : i < es.size, v = es[i].key) acc es.size → acc.toList = (xs'.map fun x => x.2.1).map Value.ref := by
    intro acc it
    apply List.ext_getElem?
    intro j
    rw [List.getElem?_map, List.getElem?_map]
    cases hj : acc.toList[j]? with
    | none =>
      have h1 := List.getElem?_eq_none_iff.mp hj
      rw [Array.length_toList, it.1] at h1
      rw [List.getElem?_eq_none (by omega)]
      rfl
    | some v =>
      obtain ⟨hi, hv⟩ := it.2 j v (by rw [← Array.getElem?_toList]; exact hj)
      have qe := entry_at hes j
      rw [Array.getElem?_eq_getElem hi] at qe
      cases hb : xs'[j]? with
      | none =>
        rw [hb] at qe
        exact nomatch (show some es[j] = none from qe)
      | some b =>
        rw [hb] at qe
        have e2 : es[j] = entryOfKey (tupleKind (mixKind X.prog X.w)) b := Option.some.inj qe
        rw [hv, e2]
        rfl
  -- each is a pair
  have isP : ∀ b : Addr, b ∈ (xs'.map fun x => x.2.1) → ∃ k, k ∈ ks ∧ IsII H b k := by
    intro b hb
    obtain ⟨j, hj⟩ := List.mem_iff_getElem?.mp hb
    have hlt : j < ks.length := by
      have := (List.getElem?_eq_some_iff.mp hj).1
      rw [List.length_map] at this
      omega
    obtain ⟨b', e, w'⟩ := at_ j hlt
    rw [hj] at e
    cases e
    exact ⟨_, List.getElem_mem hlt, w'⟩
  have heapP : ∀ (b : Addr) (k : Int × Int), IsII H b k → Srt.IsPair s.heap (.ref b) k.1 k.2 := by
    intro b k hb
    obtain ⟨_, its, rv, ob, hob, hcl, n, hda⟩ := I.hok b _ hb
    obtain ⟨u1, u2, rfl, ri, rj⟩ := vals2 rv
    obtain ⟨t1, rfl⟩ := ri
    obtain ⟨t2, rfl⟩ := rj
    exact ⟨b, ob, t1, t2, n, rfl, hob, hcl, hda⟩
  refine sorted_src (k := fun u => iiAt H (backV u)) (PySem.KdlSrc.rawKeys (es := es) (ep := ep)) (I.ok.hd hc) ⟨view, o, ho, hx, hdat⟩ (by omega) (fun acc it v hv => ?_) fun h' tk D acc out it h1 h2 kp hD hl => ?_
  · rw [accs acc it] at hv
    obtain ⟨b, hb, rfl⟩ := List.mem_map.mp hv
    obtain ⟨k, _, hk⟩ := isP b hb
    show Srt.IsPair s.heap (.ref b) (iiAt H (.ref b)).1 (iiAt H (.ref b)).2
    rw [iiAt_of hk]
    exact heapP b k hk
  · rw [accs acc it] at h2
    obtain ⟨bs, hbs, eo⟩ : ∃ bs : List Addr, bs.Perm (xs'.map fun x => x.2.1) ∧ out = bs.map Value.ref := by
      have : ∀ u ∈ out, ∃ b, u = Value.ref b := fun u hu => by
        obtain ⟨b, _, e⟩ := List.mem_map.mp (h2.mem_iff.mp hu)
        exact ⟨b, e.symm⟩
      have e1 : out = (out.map fun u => match u with | .ref b => b | _ => 0).map Value.ref := by
        rw [List.map_map]
        conv => lhs; rw [← List.map_id out]
        refine List.map_congr_left fun u hu => ?_
        obtain ⟨b, rfl⟩ := this u hu
        rfl
      refine ⟨_, ?_, e1⟩
      have e2 := h2.map fun u => match u with | .ref b => b | _ => (0 : Addr)
      rw [List.map_map] at e2
      have e3 : ((xs'.map fun x => x.2.1).map ((fun u => match u with | .ref b => b | _ => (0 : Addr)) ∘ Value.ref)) = (xs'.map fun x => x.2.1) := by
        conv => rhs; rw [← List.map_id (xs'.map fun x => x.2.1)]
        rfl
      rw [e3] at e2
      exact e2
    subst eo
    have pk : ((xs'.map fun x => x.2.1).map fun b => iiAt H (.ref b)) = ks := by
      apply List.ext_getElem?
      intro j
      rw [List.getElem?_map]
      by_cases hj : j < ks.length
      · obtain ⟨b, e, w'⟩ := at_ j hj
        rw [e, List.getElem?_eq_getElem hj]
        show some (iiAt H (.ref b)) = _
        rw [iiAt_of w']
      · rw [List.getElem?_eq_none (by rw [List.length_map]; omega), List.getElem?_eq_none (by omega)]
        rfl
    have rv : Vals (bs.map V.ref) (bs.map Value.ref) := vals_refs bs
    have hz : (bs.map V.ref).length ≤ sizeLine := by
      rw [List.length_map, hbs.length_eq, List.length_map]
      omega
    obtain ⟨m, hm⟩ := hl
    refine ⟨.ref D, upd H D (.lst (bs.map V.ref)), I.laid (t' := tk) kp hD ⟨hz, _, m, rv, hm⟩, rfl, q D bs (bs.map fun b => iiAt H (.ref b)) (I.hok.fresh hD) ?_ ?_ ?_⟩
    · rw [← pk]
      exact hbs.map _
    · rw [List.pairwise_map]
      exact List.pairwise_map.mp h1
    · have : ∀ l : List Addr, (∀ b ∈ l, b ∈ (xs'.map fun x => x.2.1)) → Paired (IsII H) l (l.map fun b => iiAt H (.ref b)) := by
        intro l
        induction l with
        | nil => intro _; exact .nil
        | cons b l ih =>
          intro hl
          obtain ⟨k, _, hk⟩ := isP b (hl b List.mem_cons_self)
          exact .cons (by show IsII H b (iiAt H (.ref b)); rw [iiAt_of hk]; exact hk) (ih fun c hc => hl c (List.mem_cons_of_mem _ hc))
      exact this bs fun b hb => hbs.mem_iff.mp hb
end
end K23R

namespace K23P
open PySem PySem.Spec PyProof.Rows L2 K23 K23R
def topS (i : Nat) : Stmt := PySem.Challenge.pw_cointakes_k23_whole_turned_coins.main.body.getD i (.Pass ⟨0, 0, 0, 0⟩)
/-- the built-ins' names are free -/
structure Bi (mg : Str → Option Value) : Prop where
  isi : mg "isinstance" = none
  int : mg "int" = none
  bool : mg "bool" = none
  tuple : mg "tuple" = none
  len : mg "len" = none
  enum : mg "enumerate" = none
  sorted : mg "sorted" = none
  list : mg "list" = none
  range : mg "range" = none
  sum : mg "sum" = none
  min : mg "min" = none
  max : mg "max" = none
  str : mg "str" = none
/-! ### heaps -/
theorem same_upd {H : Hp} {p : Addr} {o : HO} (h : H p = none) : Same H (upd H p o) := fun b x e => by
  rw [upd_ne (ne_of_none e h)]
  exact e
/-- all as it was but at d -/
def SameB (d : Addr) (H H' : Hp) : Prop := ∀ b o, b ≠ d → H b = some o → H' b = some o
theorem SameB.of {d : Addr} {H H' : Hp} (s : Same H H') : SameB d H H' := fun b o _ e => s b o e
theorem SameB.trans {d : Addr} {H H1 H2 : Hp} (a : SameB d H H1) (b : SameB d H1 H2) : SameB d H H2 := fun c o n e => b c o n (a c o n e)
theorem SameB.upd {d : Addr} {H : Hp} {o : HO} : SameB d H (upd H d o) := fun b u n e => by rw [upd_ne n]; exact e
theorem sm_upd {H H' : Hp} {p : Addr} {o : HO} (s : Same H H') (h : H p = none) : Same H (L2.upd H' p o) := fun b x e => by
  rw [upd_ne (ne_of_none e h)]
  exact s b x e
theorem sm_tup {K : PySem.W.Frag} {H H' : Hp} {a : Addr} {xs : List V} (e : Same H H') (h : SqT K H a xs) : SqT K H' a xs := by
  rcases h with (h | ⟨o, h⟩) | h
  · exact .inl (.inl (e _ _ h))
  · exact .inl (.inr ⟨o, e _ _ h⟩)
  · exact .inr h
theorem small {n : Nat} (h : n ≤ 1000) : n ≤ sizeLine := Nat.le_of_lt (small1000 h)
/-! ### rules with the written part named -/
section
variable {X : Cx} (K : PySem.W.Frag) (hK : X.K = K)
include hK
theorem kx_ix_tup : IxR X (rIxT K) := by subst hK; exact ix_tup
theorem kx_ix_list : IxR X (rIxL K) := by subst hK; exact ix_list
theorem kx_in : OpR X (compareOp .In) (rIn K false) := by subst hK; exact op_in_seq
theorem kx_notIn : OpR X (compareOp .NotIn) (rIn K true) := by subst hK; exact op_notIn_seq
def rLenK (K : PySem.W.Frag) : List V → Hp → VK → Prop := fun xs H Q => ∃ p ys, xs = [.ref p] ∧ (SqL K H p ys ∨ SqT K H p ys) ∧ Q (.int ys.length) H
theorem kx_len : CallR X (.builtin "len") (rLenK K) := by subst hK; exact call_len_seq
theorem kx_isi : CallR X (.builtin "isinstance") (rIsi K) := by subst hK; exact call_isi
theorem kx_isiT : CallR X (.builtin "isinstance") (rIsiT K) := by subst hK; exact call_isiT
theorem kx_sum (hc : X.calm = true) : CallR X (.builtin "sum") (rSum K) := by subst hK; exact cr_sum hc
theorem kx_sumT (hc : X.calm = true) : CallR X (.builtin "sum") (rSumT K) := by subst hK; exact cr_sumT hc
theorem kx_sortedI : CallR X (.builtin "sorted") (rSortedI K) := by subst hK; exact cr_sortedI
theorem kx_sortedTI : CallR X (.builtin "sorted") (rSortedTI K) := by subst hK; exact cr_sortedTI
theorem kx_minIL (hc : X.calm = true) (hu : X.A.units + 10 < cLine) : CallR X (.builtin "min") (rMinIL K) := by subst hK; exact cr_minIL hc hu
def rTupOfK (K : PySem.W.Frag) : List V → Hp → VK → Prop := fun xs H Q => ∃ p ys, xs = [.ref p] ∧ ((SqL K H p ys ∧ ∀ l, H l = none → Q (.ref l) (upd H l (.tup ys))) ∨ (SqT K H p ys ∧ Q (.ref p) H))
theorem kx_tuple_of : CallR X (.type "tuple") (rTupOfK K) := by subst hK; exact call_tuple_of
def rListOfK (K : PySem.W.Frag) : List V → Hp → VK → Prop := fun xs H Q => ∃ p ys, xs = [.ref p] ∧ (SqL K H p ys ∨ SqT K H p ys) ∧ ∀ l, H l = none → Q (.ref l) (upd H l (.lst ys))
theorem kx_list_of : CallR X (.type "list") (rListOfK K) := by subst hK; exact call_list_of
theorem kx_sl_tup : SlR X (rSlA K) := by subst hK; exact sl_tupA
theorem kx_sl_list : SlR X (rSlL K) := by subst hK; exact sl_list
theorem kx_catT : OpR X (binaryOp .Add) (rCatA K) := by subst hK; exact op_catA
theorem kx_repT : OpR X (binaryOp .Mult) (rRepN K) := by subst hK; exact op_repN
theorem kx_eqD (hu : X.A.units + 64 < cLine) : OpR X (compareOp .Eq) (rEqD K) := by subst hK; exact op_eqD hu
theorem kx_neD (hu : X.A.units + 64 < cLine) : OpR X (compareOp .NotEq) (rNeD K) := by subst hK; exact op_neD hu
theorem kx_leT (hu : X.A.units < cLine) : OpR X (compareOp .LtE) (rLeT K) := by subst hK; exact op_leT hu
theorem kx_pi_tup {tg l : Expr} {tl : TE} (hl : PE X l tl) : PI X tg l (iTup K tl) := by subst hK; exact pi_tup hl
theorem kx_pi_list {tg l : Expr} {tl : TE} (hl : PE X l tl) : PI X tg l (iList K tl) := by subst hK; exact pi_list hl
end
/-! ### comprehensions without an if -/
section
variable {J : It} {n : Nat} {G : Hp → Prop} {Y : Nat → Hp → V → Hp → Prop} {g : TG} {te : TE} {vs : List Nat} {σ : L2.St} {H1 : Hp} {D : Addr} {Qd : Hp → Prop} {K : PySem.W.Frag} {a : Addr} {xs : List V}
theorem lcY_it (w : Walk J n G Y) (Pv : Nat → Hp → Prop) (h0 : Pv 0 (upd H1 D (.lst []))) (hG : ∀ i H, i ≤ n → Pv i H → G H)
    (hs : ∀ i x H H', i < n → Pv i H → Y i H x H' → g x (wipe σ vs) H' fun σ2 H2 => wipe σ2 vs = wipe σ vs ∧ te σ2 H2 fun y H4 => ∃ acc, H4 D = some (.lst acc) ∧ acc.length < sizeLine ∧ Pv (i + 1) (upd H4 D (.lst (acc ++ [y])))) (hd : ∀ H, Pv n H → Qd H) :
    ∃ W : Nat → Nat → Hp → Prop, (∃ m, W 0 m (upd H1 D (.lst []))) ∧ ∀ i m H, W i m H →
      (J.stop i H ∧ Qd H) ∨ (J.go i H ∧ ∃ Nx : Hp → Prop, (∀ H', Nx H' → ∃ m', m' < m ∧ W (i + 1) m' H') ∧ ∀ x H', J.yld i H x H' → g x (wipe σ vs) H' fun σ2 H2 => wipe σ2 vs = wipe σ vs ∧ tYes σ2 H2 fun b H3 =>
        if b = true then te σ2 H3 fun y H4 => ∃ acc, H4 D = some (.lst acc) ∧ acc.length < sizeLine ∧ Nx (upd H4 D (.lst (acc ++ [y]))) else Nx H3) := lc_it (tt := tYes) w Pv h0 hG hs hd
theorem lcY_tup (Pv : Nat → Hp → Prop) (h0 : Pv 0 (upd H1 D (.lst []))) (hl : ∀ i H, i ≤ xs.length → Pv i H → SqT K H a xs)
    (hs : ∀ i x H, xs[i]? = some x → Pv i H → g x (wipe σ vs) H fun σ2 H2 => wipe σ2 vs = wipe σ vs ∧ te σ2 H2 fun y H4 => ∃ acc, H4 D = some (.lst acc) ∧ acc.length < sizeLine ∧ Pv (i + 1) (upd H4 D (.lst (acc ++ [y])))) (hd : ∀ H, Pv xs.length H → Qd H) :
    ∃ W : Nat → Nat → Hp → Prop, (∃ m, W 0 m (upd H1 D (.lst []))) ∧ ∀ i m H, W i m H →
      ((Itt K a).stop i H ∧ Qd H) ∨ ((Itt K a).go i H ∧ ∃ Nx : Hp → Prop, (∀ H', Nx H' → ∃ m', m' < m ∧ W (i + 1) m' H') ∧ ∀ x H', (Itt K a).yld i H x H' → g x (wipe σ vs) H' fun σ2 H2 => wipe σ2 vs = wipe σ vs ∧ tYes σ2 H2 fun b H3 =>
        if b = true then te σ2 H3 fun y H4 => ∃ acc, H4 D = some (.lst acc) ∧ acc.length < sizeLine ∧ Nx (upd H4 D (.lst (acc ++ [y]))) else Nx H3) := lc_tup (tt := tYes) Pv h0 hl hs hd
theorem lcY_list (Pv : Nat → Hp → Prop) (h0 : Pv 0 (upd H1 D (.lst []))) (hl : ∀ i H, i ≤ xs.length → Pv i H → SqL K H a xs)
    (hs : ∀ i x H, xs[i]? = some x → Pv i H → g x (wipe σ vs) H fun σ2 H2 => wipe σ2 vs = wipe σ vs ∧ te σ2 H2 fun y H4 => ∃ acc, H4 D = some (.lst acc) ∧ acc.length < sizeLine ∧ Pv (i + 1) (upd H4 D (.lst (acc ++ [y])))) (hd : ∀ H, Pv xs.length H → Qd H) :
    ∃ W : Nat → Nat → Hp → Prop, (∃ m, W 0 m (upd H1 D (.lst []))) ∧ ∀ i m H, W i m H →
      ((Itl K a).stop i H ∧ Qd H) ∨ ((Itl K a).go i H ∧ ∃ Nx : Hp → Prop, (∀ H', Nx H' → ∃ m', m' < m ∧ W (i + 1) m' H') ∧ ∀ x H', (Itl K a).yld i H x H' → g x (wipe σ vs) H' fun σ2 H2 => wipe σ2 vs = wipe σ vs ∧ tYes σ2 H2 fun b H3 =>
        if b = true then te σ2 H3 fun y H4 => ∃ acc, H4 D = some (.lst acc) ∧ acc.length < sizeLine ∧ Nx (upd H4 D (.lst (acc ++ [y]))) else Nx H3) := lc_list (tt := tYes) Pv h0 hl hs hd
theorem lcY_range {lo : Int} (Pv : Nat → Hp → Prop) (h0 : Pv 0 (upd H1 D (.lst [])))
    (hs : ∀ i H, i < n → Pv i H → g (.int (lo + i)) (wipe σ vs) H fun σ2 H2 => wipe σ2 vs = wipe σ vs ∧ te σ2 H2 fun y H4 => ∃ acc, H4 D = some (.lst acc) ∧ acc.length < sizeLine ∧ Pv (i + 1) (upd H4 D (.lst (acc ++ [y])))) (hd : ∀ H, Pv n H → Qd H) :
    ∃ W : Nat → Nat → Hp → Prop, (∃ m, W 0 m (upd H1 D (.lst []))) ∧ ∀ i m H, W i m H →
      ((Itr lo n).stop i H ∧ Qd H) ∨ ((Itr lo n).go i H ∧ ∃ Nx : Hp → Prop, (∀ H', Nx H' → ∃ m', m' < m ∧ W (i + 1) m' H') ∧ ∀ x H', (Itr lo n).yld i H x H' → g x (wipe σ vs) H' fun σ2 H2 => wipe σ2 vs = wipe σ vs ∧ tYes σ2 H2 fun b H3 =>
        if b = true then te σ2 H3 fun y H4 => ∃ acc, H4 D = some (.lst acc) ∧ acc.length < sizeLine ∧ Nx (upd H4 D (.lst (acc ++ [y]))) else Nx H3) := lc_range (tt := tYes) Pv h0 hs hd
end
/-! ### webs -/
abbrev nI (k : Nat) : V := .int (k : Int)
def EdgeAt (H : Hp) (a : Addr) (e : Edge) : Prop := H a = some (.tup [nI e.1, nI e.2])
/-- at p stands a web -/
def WebAt (H : Hp) (p : Addr) (n : Nat) (es : List Edge) : Prop := ∃ (q : Addr) (as : List Addr), H p = some (.tup [nI n, .ref q]) ∧ H q = some (.tup (as.map V.ref)) ∧ Paired (EdgeAt H) as es
theorem EdgeAt.same {H H' : Hp} {a : Addr} {e : Edge} (s : Same H H') (h : EdgeAt H a e) : EdgeAt H' a e := s _ _ h
theorem paired_imp {α β : Type} {F G : α → β → Prop} {l : List α} {m : List β} (h : Paired F l m) (k : ∀ a b, F a b → G a b) : Paired G l m := Paired.mapP h k
theorem WebAt.same {H H' : Hp} {p : Addr} {n : Nat} {es : List Edge} (s : Same H H') (h : WebAt H p n es) : WebAt H' p n es := by
  obtain ⟨q, as, h1, h2, h3⟩ := h
  exact ⟨q, as, s _ _ h1, s _ _ h2, paired_imp h3 fun _ _ z => z.same s⟩
theorem paired_at {α β : Type} {F : α → β → Prop} : ∀ {l : List α} {m : List β}, Paired F l m → ∀ (j : Nat) (y : α), l[j]? = some y → ∃ e, m[j]? = some e ∧ F y e := by
  intro l m hp
  induction hp with
  | nil => intro j y e; simp at e
  | cons h0 _ ih =>
    intro j y e
    cases j with
    | zero => simp at e; subst e; exact ⟨_, rfl, h0⟩
    | succ j => simpa using ih j y (by simpa using e)
theorem paired_len {α β : Type} {F : α → β → Prop} {l : List α} {m : List β} (h : Paired F l m) : l.length = m.length := Paired.length h
/-- a web: places from 1 to 6, the edges ascending -/
def elt (e f : Edge) : Prop := e.1 < f.1 ∨ (e.1 = f.1 ∧ e.2 < f.2)
structure IsWeb (n : Nat) (es : List Edge) : Prop where
  pos : 1 ≤ n
  le : n ≤ 6
  good : Good n es
  asc : es.Pairwise elt
  len : es.length ≤ 100
theorem map_ref_at {as : List Addr} {i : Nat} {x : V} (h : (as.map V.ref)[i]? = some x) : ∃ a, as[i]? = some a ∧ x = .ref a := by
  rw [List.getElem?_map] at h
  cases e : as[i]? with
  | none => rw [e] at h; cases h
  | some a => rw [e] at h; exact ⟨a, rfl, (Option.some.inj h).symm⟩

section
variable {P : Program} {w : World} {K : PySem.W.Frag} {mg : Str → Option Value} {base : Heap}
theorem ty_int {H : Hp} {i : Int} : TyX K H (.int i) (.type "int") := .base (.int _)
theorem ty_tup {H : Hp} {a : Addr} {xs : List V} (h : H a = some (.tup xs)) : TyX K H (.ref a) (.type "tuple") := .base (.tup h)
theorem ty_lst {H : Hp} {a : Addr} {xs : List V} (h : H a = some (.lst xs)) : TyX K H (.ref a) (.type "list") := .base (.lst h)
/-- a def that stands at its name and keeps its promise -/
def Df (P : Program) (w : World) (K : PySem.W.Frag) (mg : Str → Option Value) (base : Heap) (x : Str) (k : Nat) (ps : List Str) (sp : Sp) : Prop :=
  ∃ (f : Addr) (fd : FuncData), FnOk P w K mg base CX0 k f fd ps sp ∧ Binds K fd ps [] ∧ PySem.W.keepIn K (.ref f) = true ∧ mg x = some (.ref f)
end
theorem pe_df {X : Cx} {x : Str} {k : Nat} {ps : List Str} {sp : Sp} {e : Expr} {es : List Expr} {p pos : Pos} {t : TA} (D : Df X.prog X.w X.K X.mg X.base x k ps sp) (hr : Room k X.A) (hg : Gl X x) (ha : PA X (e :: es) t)
    (hdb : (x == ("__debug__" : Str)) = false := by decide) (he : starEach (e :: es) X.env = (false, eval e X.env) :: starEach es X.env := by rfl) (hpl : (backTo pos (starEach es X.env)).any (·.1) = false := by rfl) :
    PE X (.Call (.Name x p) (e :: es) [] pos) (tCall sp [] E0 t) := by
  obtain ⟨f, fd, F, b, kp, m⟩ := D
  exact pe_call F hr hg m kp b .nil pass0 ha hdb he hpl
section
variable {P : Program} {w : World} {K : PySem.W.Frag} {mg : Str → Option Value} {base : Heap}
/-! ### is_in -/
abbrev s_is_in : Stmt := topS 7
theorem sc_is_in : FnScope ["value", "least", "most"] ["value", "least", "most"] (defScope s_is_in) := ⟨rfl, rfl, rfl, by decide +kernel, rfl, by decide +kernel, by decide +kernel⟩
def sp_is_in : Sp := fun vs H Q _ => ∃ v a b : Int, vs = [.int v, .int a, .int b] ∧ Q (.bl (decide (a ≤ v ∧ v ≤ b))) H
theorem ok_is_in {f : Addr} {fd : FuncData} (F : Fun K "is_in" "is_in" s_is_in f fd) (B : Bi mg) : FnOk P w K mg base CX0 1 f fd ["value", "least", "most"] sp_is_in := by
  refine F.ok sc_is_in (fun vs H Q E h => ?_) (fun cdv A outer s H vs Q E hr h => ?_)
  · obtain ⟨v, a, b, rfl, _⟩ := h
    rfl
  obtain ⟨v, a, b, rfl, q⟩ := h
  refine ⟨_, pss_one (ps_ret (pe_and (pe_callB call_isi (by rfl) B.isi (by decide +kernel) (pa_cons (pv 0) (pa_cons (pe_bltn (v := .ty "int") (by rfl) B.int (by decide +kernel) rfl) pa_nil)))
    (pe_and (pe_not (pe_callB call_isi (by rfl) B.isi (by decide +kernel) (pa_cons (pv 0) (pa_cons (pe_bltn (v := .ty "bool") (by rfl) B.bool (by decide +kernel) rfl) pa_nil))))
      (pe_one (pe_chain op_le op_le (pv 1) (pv 0) (pv 2)))))), ?_⟩
  refine ⟨_, rfl, _, _, _, _, true, rfl, .ty _, ty_int, kit_ty (by decide +kernel), _, rfl, iteT ?_⟩
  refine ⟨_, rfl, _, _, _, _, false, rfl, .ty _, ty_int, kit_ty (by decide +kernel), _, rfl, _, rfl, iteT ?_⟩
  refine ⟨_, rfl, _, rfl, _, _, rfl, rfl, _, rfl, ite2 (fun c => ?_) (fun c => ?_)⟩
  · have c' : a ≤ v := of_decide_eq_true c
    refine ⟨_, rfl, _, _, rfl, rfl, ?_⟩
    have e : decide (v ≤ b) = decide (a ≤ v ∧ v ≤ b) := by simp [c']
    show Q (.bl (decide (v ≤ b))) H
    rw [e]; exact q
  · have c' : ¬ a ≤ v := fun z => c (decide_eq_true z)
    have e : false = decide (a ≤ v ∧ v ≤ b) := by simp [c']
    show Q (.bl false) H
    rw [e]; exact q
abbrev TIsIn (P : Program) (w : World) (K : PySem.W.Frag) (mg : Str → Option Value) (base : Heap) : Prop := Df P w K mg base "is_in" 1 ["value", "least", "most"] sp_is_in
/-! ### is_edge -/
abbrev s_is_edge : Stmt := topS 10
theorem sc_is_edge : FnScope ["value", "many"] ["value", "many"] (defScope s_is_edge) := ⟨rfl, rfl, rfl, by decide +kernel, rfl, by decide +kernel, by decide +kernel⟩
def sp_is_edge : Sp := fun vs H Q _ => ∃ (p : Addr) (e : Edge) (n : Nat), vs = [.ref p, nI n] ∧ EdgeAt H p e ∧ e.1 < e.2 ∧ e.2 < n ∧ Q (.bl true) H
theorem ok_is_edge {f : Addr} {fd : FuncData} (B : Bi mg) (D_is_in : TIsIn P w K mg base) (F : Fun K "is_edge" "is_edge" s_is_edge f fd) :
    FnOk P w K mg base CX0 2 f fd ["value", "many"] sp_is_edge := by
  refine F.ok sc_is_edge (fun vs H Q E h => ?_) (fun cdv A outer s H vs Q E hr h => ?_)
  · obtain ⟨p, e, n, rfl, _⟩ := h
    rfl
  obtain ⟨p, e, n, rfl, hp, h1, h2, q⟩ := h
  refine ⟨_, (pss_cons (ps_if (PW.pt (pw_or (pt_not (pt_val (pe_callB (kx_isi K rfl) (by rfl) B.isi (by decide +kernel) (pa_cons (pv 0) (pa_cons (pe_bltn (v := .ty "tuple") (by rfl) B.tuple (by decide +kernel) rfl) pa_nil))))) (pw_or1 (pt_cmpR op_ne (pe_callB (kx_len K rfl) (by rfl) B.len PySem.boot_len (pa_cons (pv 0) pa_nil)) pe_int (nomark _)))))
      (pss_one (ps_ret pe_bl))
      pss_nil)
    (pss_one (ps_ret (pe_and (pe_df D_is_in (hr.mono (by omega)) (by rfl) (pa_cons (pe_ix (kx_ix_tup K rfl) (pv 0) pe_int (fun _ _ => rfl)) (pa_cons pe_int (pa_cons (pe_op op_sub (pv 1) pe_int) pa_nil)))) (pe_one (pe_df D_is_in (hr.mono (by omega)) (by rfl) (pa_cons (pe_ix (kx_ix_tup K rfl) (pv 0) pe_int (fun _ _ => rfl)) (pa_cons (pe_op op_add (pe_ix (kx_ix_tup K rfl) (pv 0) pe_int (fun _ _ => rfl)) pe_int) (pa_cons (pe_op op_sub (pv 1) pe_int) pa_nil))))))))), ?_⟩
  refine ⟨_, rfl, _, _, _, _, true, rfl, .ty _, ty_tup hp, kit_ty (by decide +kernel), _, rfl, iteF ?_⟩
  refine ⟨_, rfl, p, _, rfl, .inr (SqT.of hp), rfl, _, rfl, iteNS rfl ?_⟩
  refine ⟨_, rfl, p, _, _, _, rfl, rfl, SqT.of hp, atI_nat (j := 0) rfl, _, rfl, _, _, rfl, rfl, _, _, _, rfl, _, rfl, ite2 (fun _ => ?_) (fun c => ?_)⟩
  · refine ⟨_, rfl, p, _, _, _, rfl, rfl, SqT.of hp, atI_nat (j := 1) rfl, _, rfl, p, _, _, _, rfl, rfl, SqT.of hp, atI_nat (j := 0) rfl, _, _, rfl, rfl, _, rfl, _, _, rfl, rfl, _, _, _, rfl, ?_⟩
    rw [decide_eq_true (by omega)]
    exact q
  · exact absurd (decide_eq_true (by omega)) c
abbrev TIsEdge (P : Program) (w : World) (K : PySem.W.Frag) (mg : Str → Option Value) (base : Heap) : Prop := Df P w K mg base "is_edge" 2 ["value", "many"] sp_is_edge
end
end K23P

namespace K23P
open PySem PySem.Spec PyProof.Rows L2 K23 K23R
theorem elt_le {e f : Edge} (h : elt f e) : Ob.lexAt (fun j => decide (([(e.1 : Int), e.2] : List Int).getD j 0 = ([(f.1 : Int), f.2] : List Int).getD j 0)) (fun j => decide (([(e.1 : Int), e.2] : List Int).getD j 0 ≤ ([(f.1 : Int), f.2] : List Int).getD j 0)) (decide (2 ≤ 2)) 0 (min 2 2) = false := by
  show (if decide ((e.1 : Int) = f.1) = true then (if decide ((e.2 : Int) = f.2) = true then decide (2 ≤ 2) else decide ((e.2 : Int) ≤ f.2)) else decide ((e.1 : Int) ≤ f.1)) = false
  obtain ⟨a, b⟩ := e
  obtain ⟨c, d⟩ := f
  unfold elt at h
  simp only at h ⊢
  by_cases h1 : (a : Int) = c
  · rw [decide_eq_true h1, if_pos rfl]
    have h2 : ¬ (b : Int) = d := by omega
    rw [decide_eq_false h2, if_neg (by simp)]
    exact decide_eq_false (by omega)
  · rw [decide_eq_false h1, if_neg (by simp)]
    exact decide_eq_false (by omega)
section
variable {P : Program} {w : World} {K : PySem.W.Frag} {mg : Str → Option Value} {base : Heap}
/-! ### need_web -/
abbrev s_need_web : Stmt := topS 11
theorem sc_need_web : FnScope ["web", "index", "one"] ["web"] (defScope s_need_web) := ⟨rfl, rfl, rfl, by decide +kernel, rfl, by decide +kernel, by decide +kernel⟩
def sp_need_web : Sp := fun vs H Q _ => ∃ (p : Addr) (n : Nat) (es : List Edge), vs = [.ref p] ∧ WebAt H p n es ∧ IsWeb n es ∧ ∀ H', Same H H' → Q .non H'
theorem ok_need_web {f : Addr} {fd : FuncData} {t9 : Tok} (B : Bi mg) (D_is_in : TIsIn P w K mg base) (D_is_edge : TIsEdge P w K mg base) (m9 : mg "MOST_PLACES" = some (.int 9 t9)) (F : Fun K "need_web" "need_web" s_need_web f fd) :
    FnOk P w K mg base CX0 3 f fd ["web"] sp_need_web := by
  refine F.ok sc_need_web (fun vs H Q E h => ?_) (fun cdv A outer s H vs Q E hr h => ?_)
  · obtain ⟨p, n, es, rfl, _⟩ := h
    rfl
  obtain ⟨p, n, es, rfl, W0, J, q⟩ := h
  have hu := hu_of hr
  refine ⟨_, (pss_cons (ps_if (PW.pt (pw_or (pt_not (pt_val (pe_callB (kx_isi K rfl) (by rfl) B.isi (by decide +kernel) (pa_cons (pv 0) (pa_cons (pe_bltn (v := .ty "tuple") (by rfl) B.tuple (by decide +kernel) rfl) pa_nil))))) (pw_or (pt_cmpR op_ne (pe_callB (kx_len K rfl) (by rfl) B.len PySem.boot_len (pa_cons (pv 0) pa_nil)) pe_int (nomark _)) (pw_or1 (pt_not (pt_val (pe_df D_is_in (hr.mono (by omega)) (by rfl) (pa_cons (pe_ix (kx_ix_tup K rfl) (pv 0) pe_int (fun _ _ => rfl)) (pa_cons pe_int (pa_cons (pe_glob (v := .int 9) (by rfl) m9 ⟨_, rfl⟩) pa_nil))))))))))
      (pss_one ps_never)
      pss_nil)
    (pss_cons (ps_if (pt_not (pt_val (pe_callB (kx_isi K rfl) (by rfl) B.isi (by decide +kernel) (pa_cons (pe_ix (kx_ix_tup K rfl) (pv 0) pe_int (fun _ _ => rfl)) (pa_cons (pe_bltn (v := .ty "tuple") (by rfl) B.tuple (by decide +kernel) rfl) pa_nil)))))
      (pss_one ps_never)
      pss_nil)
    (pss_one (ps_for PassesOwn.never rfl (pi_enumT (by rfl) B.enum (pa_cons (pe_ix (kx_ix_tup K rfl) (pv 0) pe_int (fun _ _ => rfl)) pa_nil)) (pg_tup rfl (pgs_cons (pg_name (i := 1) sc_need_web.nd rfl (Or.inl rfl)) (pgs_cons (pg_name (i := 2) sc_need_web.nd rfl (Or.inl rfl)) pgs_nil)))
      (pss_one (ps_if (PW.pt (pw_or (pt_not (pt_val (pe_df D_is_edge (hr.mono (by omega)) (by rfl) (pa_cons (pv 2) (pa_cons (pe_ix (kx_ix_tup K rfl) (pv 0) pe_int (fun _ _ => rfl)) pa_nil))))) (pw_or1 (PW.pt (pw_and (pt_cmpR op_gt (pv 1) pe_int (nomark _)) (pw_and1 (pt_cmpR (kx_leT K rfl (Nat.lt_of_succ_lt hu)) (pv 2) (pe_ix (kx_ix_tup K rfl) (pe_ix (kx_ix_tup K rfl) (pv 0) pe_int (fun _ _ => rfl)) (pe_op op_sub (pv 1) pe_int) (fun _ _ => rfl)) (nomark _))))))))
          (pss_one ps_never)
          pss_nil)))))), ?_⟩
  obtain ⟨qa, as, h1, h2, h3⟩ := id W0
  have h6 := J.le
  have h0 := J.pos
  refine ⟨_, rfl, _, _, _, _, true, rfl, .ty _, ty_tup h1, kit_ty (by decide +kernel), _, rfl, iteF ?_⟩
  refine ⟨_, rfl, p, _, rfl, .inr (SqT.of h1), rfl, _, rfl, iteNS rfl ?_⟩
  refine ⟨_, rfl, p, _, _, _, rfl, rfl, SqT.of h1, atI_nat (j := 0) rfl, _, _, _, rfl, true, ?_, iteF ?_⟩
  · rw [decide_eq_true (by omega)]
  refine ⟨_, rfl, p, _, _, _, rfl, rfl, SqT.of h1, atI_nat (j := 1) rfl, _, _, _, _, true, rfl, .ty _, ty_tup h2, kit_ty (by decide +kernel), _, rfl, iteF ?_⟩
  refine ⟨_, rfl, p, _, _, _, rfl, rfl, SqT.of h1, atI_nat (j := 1) rfl, qa, _, rfl, SqT.of h2, ?_⟩
  refine for_it walk_enumT (fun i σ H' => ∃ y1 y2, σ = [some (.ref p), y1, y2] ∧ Same H H') ⟨none, none, rfl, Same.refl _⟩ (fun i σ H' _ ⟨_, _, _, sm⟩ => SqT.of (sm _ _ h2)) ?_ ?_
  · rintro i x σ H1 H2 hi ⟨y1, y2, rfl, sm⟩ ⟨T, x1, x2, rfl, nT, rfl, e1, e2⟩
    cases e1
    obtain ⟨b, hb, rfl⟩ := map_ref_at e2
    obtain ⟨e, he, hE⟩ := paired_at h3 i b hb
    have sT : Same H (upd H1 T (.tup [.int (i : Nat), .ref b])) := sm_upd sm (sm.free nT)
    have ge := J.good e (List.mem_of_getElem? he)
    refine ⟨T, _, rfl, SqT.of upd_same, rfl, _, _, rfl, _, _, rfl, rfl, ?_⟩
    refine ⟨_, rfl, _, rfl, p, _, _, _, rfl, rfl, SqT.of (sT _ _ h1), atI_nat (j := 0) rfl, b, e, n, rfl, hE.same sT, ge.1, ge.2, true, rfl, iteF ?_⟩
    refine ⟨_, rfl, _, _, rfl, rfl, _, rfl, ite2 (fun c => ?_) (fun c => iteF ⟨_, _, rfl, sT⟩)⟩
    have hi0 : 0 < i := by have : (0 : Int) < (i : Int) := of_decide_eq_true c; omega
    have hil : i - 1 < as.length := by rw [List.length_map] at hi; omega
    obtain ⟨f, hf, hF⟩ := paired_at h3 (i - 1) as[i - 1] (List.getElem?_eq_getElem hil)
    have ei : ((i : Int) - 1) = ((i - 1 : Nat) : Int) := by omega
    have hle : elt f e := by
      have hlt : i < es.length := (List.getElem?_eq_some_iff.mp he).1
      have := List.pairwise_iff_getElem.mp J.asc (i - 1) i (by omega) hlt (by omega)
      rw [(List.getElem?_eq_some_iff.mp he).2, (List.getElem?_eq_some_iff.mp hf).2] at this
      exact this
    refine ⟨_, rfl, _, rfl, p, _, _, _, rfl, rfl, SqT.of (sT _ _ h1), atI_nat (j := 1) rfl, _, rfl, _, _, rfl, rfl, qa, _, _, .ref as[i - 1], rfl, rfl, SqT.of (sT _ _ h2), ?_, ?_⟩
    · show atI (as.map V.ref) ((i : Int) - 1) = _
      rw [ei]
      exact atI_nat (by rw [List.getElem?_map, List.getElem?_eq_getElem hil]; rfl)
    refine ⟨b, as[i - 1], [(e.1 : Int), e.2], [(f.1 : Int), f.2], rfl, rfl, SqT.of (hE.same sT), SqT.of (hF.same sT), ?_⟩
    rw [show ([(e.1 : Int), e.2] : List Int).length = 2 from rfl, show ([(f.1 : Int), f.2] : List Int).length = 2 from rfl, elt_le hle]
    exact ⟨false, rfl, iteF ⟨_, _, rfl, sT⟩⟩
  · rintro σ H' ⟨y1, y2, rfl, sm⟩
    exact q H' sm
end
end K23P

namespace K23P
open PySem PySem.Spec PyProof.Rows L2 K23 K23R
/-! ### coins -/
def bi (b : Bool) : Int := if b = true then 1 else 0
def cb (b : Bool) : V := .int (bi b)
/-- a coin, as the program says it: None for an empty place -/
def cP : Option Bool → V
  | none => .non
  | some b => .int (bi b)
/-- .. as the law says it: 2 for an empty place -/
def cL : Option Bool → V
  | none => .int 2
  | some b => .int (bi b)
theorem cP_full (L : List Bool) : (L.map some).map cP = L.map cb := by rw [List.map_map]; rfl
theorem cL_full (L : List Bool) : (L.map some).map cL = L.map cb := by rw [List.map_map]; rfl
def FullAt (H : Hp) (a : Addr) (L : List Bool) : Prop := H a = some (.tup (L.map cb))
theorem map_at {α β : Type} {f : α → β} {l : List α} {i : Nat} {x : β} (h : (l.map f)[i]? = some x) : ∃ y, l[i]? = some y ∧ x = f y := by
  rw [List.getElem?_map] at h
  cases e : l[i]? with
  | none => rw [e] at h; cases h
  | some a => rw [e] at h; exact ⟨a, rfl, (Option.some.inj h).symm⟩
/-- numbers as numbers of the program -/
theorem eqV_int (a b : Int) : eqV (.int a) (.int b) = decide (a = b) := by
  unfold eqV
  first | rfl | (simp [Bool.beq_eq_decide_eq]) | exact Bool.beq_eq_decide_eq _ _
theorem inV_nats (k : Nat) : ∀ l : List Nat, inV (nI k) (l.map nI) = decide (k ∈ l)
  | [] => rfl
  | x :: l => by
    have ih := inV_nats k l
    unfold inV at ih ⊢
    rw [List.map_cons, List.any_cons, ih, eqV_int]
    by_cases h : x = k
    · subst h; simp
    · have h1 : ¬ (x : Int) = (k : Int) := by omega
      have h2 : ¬ k = x := fun e => h e.symm
      simp [h1, h2, List.mem_cons]
theorem flat_nats (l : List Nat) : (l.map nI).all flatV = true := by
  rw [List.all_map]
  exact List.all_eq_true.mpr fun _ _ => rfl
theorem nI_map (l : List Nat) : l.map nI = (l.map fun k : Nat => (k : Int)).map V.int := by rw [List.map_map]; rfl
theorem perm_nats {ns : List Int} {l : List Nat} (h : ns.Perm (l.map fun k : Nat => (k : Int))) : ∃ m : List Nat, m.Perm l ∧ ns.map V.int = m.map nI ∧ ns = m.map fun k : Nat => (k : Int) := by
  refine ⟨ns.map Int.toNat, ?_, ?_⟩
  · have := h.map Int.toNat
    rw [List.map_map] at this
    have e : (Int.toNat ∘ fun k : Nat => (k : Int)) = id := by funext k; simp
    rw [e, List.map_id] at this
    exact this
  · have e : ns = (ns.map Int.toNat).map fun k : Nat => (k : Int) := by
      rw [List.map_map]
      conv => lhs; rw [← List.map_id ns]
      refine List.map_congr_left fun x hx => ?_
      obtain ⟨k, _, rfl⟩ := List.mem_map.mp (h.mem_iff.mp hx)
      simp
    refine ⟨?_, e⟩
    rw [nI_map, ← e]
theorem nbs_len (es : List Edge) (k : Nat) : (nbs es k).length ≤ es.length := by
  unfold nbs
  rw [List.length_map]
  exact List.length_filter_le _ _
theorem nbs_take_in {es : List Edge} {i : Nat} {e : Edge} (he : es[i]? = some e) {k : Nat} (h : e.1 = k ∨ e.2 = k) : nbs (es.take (i + 1)) k = nbs (es.take i) k ++ [e.1 + e.2 - k] := by
  rw [List.take_add_one, he, nbs_append]
  show _ ++ nbs [e] k = _
  rw [nbs_cons, if_pos h]; rfl
theorem nbs_take_out {es : List Edge} {i : Nat} {e : Edge} (he : es[i]? = some e) {k : Nat} (h : ¬ (e.1 = k ∨ e.2 = k)) : nbs (es.take (i + 1)) k = nbs (es.take i) k := by
  rw [List.take_add_one, he, nbs_append]
  show _ ++ nbs [e] k = _
  rw [nbs_cons, if_neg h, nbs_nil, List.append_nil]
section
variable {P : Program} {w : World} {K : PySem.W.Frag} {mg : Str → Option Value} {base : Heap}
abbrev TNeedWeb (P : Program) (w : World) (K : PySem.W.Frag) (mg : Str → Option Value) (base : Heap) : Prop := Df P w K mg base "need_web" 3 ["web"] sp_need_web
/-! ### need_full -/
abbrev s_need_full : Stmt := topS 12
theorem sc_need_full : FnScope ["web", "laying", "index", "one"] ["web", "laying"] (defScope s_need_full) := ⟨rfl, rfl, rfl, by decide +kernel, rfl, by decide +kernel, by decide +kernel⟩
def sp_need_full : Sp := fun vs H Q _ => ∃ (p a : Addr) (n : Nat) (es : List Edge) (L : List Bool), vs = [.ref p, .ref a] ∧ WebAt H p n es ∧ FullAt H a L ∧ L.length = n ∧ ∀ H', Same H H' → Q .non H'
theorem ok_need_full {f : Addr} {fd : FuncData} (B : Bi mg) (D_is_in : TIsIn P w K mg base) (F : Fun K "need_full" "need_full" s_need_full f fd) :
    FnOk P w K mg base CX0 2 f fd ["web", "laying"] sp_need_full := by
  refine F.ok sc_need_full (fun vs H Q E h => ?_) (fun cdv A outer s H vs Q E hr h => ?_)
  · obtain ⟨p, a, n, es, L, rfl, _⟩ := h
    rfl
  obtain ⟨p, a, n, es, L, rfl, W0, hL, hn, q⟩ := h
  refine ⟨_, (pss_cons (ps_if (PW.pt (pw_or (pt_not (pt_val (pe_callB (kx_isi K rfl) (by rfl) B.isi (by decide +kernel) (pa_cons (pv 1) (pa_cons (pe_bltn (v := .ty "tuple") (by rfl) B.tuple (by decide +kernel) rfl) pa_nil))))) (pw_or1 (pt_cmpR op_ne (pe_callB (kx_len K rfl) (by rfl) B.len PySem.boot_len (pa_cons (pv 1) pa_nil)) (pe_ix (kx_ix_tup K rfl) (pv 0) pe_int (fun _ _ => rfl)) (nomark _)))))
      (pss_one ps_never)
      pss_nil)
    (pss_one (ps_for PassesOwn.never rfl (pi_enumT (by rfl) B.enum (pa_cons (pv 1) pa_nil)) (pg_tup rfl (pgs_cons (pg_name (i := 2) sc_need_full.nd rfl (Or.inl rfl)) (pgs_cons (pg_name (i := 3) sc_need_full.nd rfl (Or.inl rfl)) pgs_nil)))
      (pss_one (ps_if (pt_not (pt_val (pe_df D_is_in (hr.mono (by omega)) (by rfl) (pa_cons (pv 3) (pa_cons pe_int (pa_cons pe_int pa_nil))))))
          (pss_one ps_never)
          pss_nil))))), ?_⟩
  obtain ⟨qa, as, h1, h2, h3⟩ := id W0
  refine ⟨_, rfl, _, _, _, _, true, rfl, .ty _, ty_tup hL, kit_ty (by decide +kernel), _, rfl, iteF ?_⟩
  refine ⟨_, rfl, a, _, rfl, .inr (SqT.of hL), _, rfl, p, _, _, _, rfl, rfl, SqT.of h1, atI_nat (j := 0) rfl, rfl, _, rfl, ?_⟩
  refine iteNS (by rw [List.length_map, hn]) ?_
  refine ⟨_, rfl, a, _, rfl, SqT.of hL, ?_⟩
  refine for_it walk_enumT (fun i σ H' => ∃ y1 y2, σ = [some (.ref p), some (.ref a), y1, y2] ∧ Same H H') ⟨none, none, rfl, Same.refl _⟩ (fun i σ H' _ ⟨_, _, _, sm⟩ => SqT.of (sm _ _ hL)) ?_ ?_
  · rintro i x σ H1 H2 hi ⟨y1, y2, rfl, sm⟩ ⟨T, x1, x2, rfl, nT, rfl, e1, e2⟩
    cases e1
    have sT : Same H (upd H1 T (.tup [.int (i : Nat), x2])) := sm_upd sm (sm.free nT)
    obtain ⟨b, _, rfl⟩ := map_at e2
    refine ⟨T, _, rfl, SqT.of upd_same, rfl, _, _, rfl, _, _, rfl, rfl, ?_⟩
    refine ⟨_, rfl, bi b, 0, 1, rfl, _, rfl, ?_⟩
    rw [decide_eq_true (show 0 ≤ bi b ∧ bi b ≤ 1 by cases b <;> decide)]
    exact iteF ⟨_, _, rfl, sT⟩
  · rintro σ H' ⟨y1, y2, rfl, sm⟩
    exact q H' sm
abbrev TNeedFull (P : Program) (w : World) (K : PySem.W.Frag) (mg : Str → Option Value) (base : Heap) : Prop := Df P w K mg base "need_full" 2 ["web", "laying"] sp_need_full
/-! ### need_both -/
abbrev s_need_both : Stmt := topS 13
theorem sc_need_both : FnScope ["web", "laying"] ["web", "laying"] (defScope s_need_both) := ⟨rfl, rfl, rfl, by decide +kernel, rfl, by decide +kernel, by decide +kernel⟩
def sp_need_both : Sp := fun vs H Q _ => ∃ (p a : Addr) (n : Nat) (es : List Edge) (L : List Bool), vs = [.ref p, .ref a] ∧ WebAt H p n es ∧ IsWeb n es ∧ FullAt H a L ∧ L.length = n ∧ ∀ H', Same H H' → Q .non H'
theorem ok_need_both {f : Addr} {fd : FuncData} (D_need_web : TNeedWeb P w K mg base) (D_need_full : TNeedFull P w K mg base) (F : Fun K "need_both" "need_both" s_need_both f fd) :
    FnOk P w K mg base CX0 4 f fd ["web", "laying"] sp_need_both := by
  refine F.ok sc_need_both (fun vs H Q E h => ?_) (fun cdv A outer s H vs Q E hr h => ?_)
  · obtain ⟨p, a, n, es, L, rfl, _⟩ := h
    rfl
  obtain ⟨p, a, n, es, L, rfl, W0, J, hL, hn, q⟩ := h
  refine ⟨_, (pss_cons (ps_expr (pe_df D_need_web (hr.mono (by omega)) (by rfl) (pa_cons (pv 0) pa_nil)))
    (pss_one (ps_expr (pe_df D_need_full (hr.mono (by omega)) (by rfl) (pa_cons (pv 0) (pa_cons (pv 1) pa_nil)))))), ?_⟩
  refine ⟨_, rfl, p, n, es, rfl, W0, J, fun H1 s1 => ?_⟩
  exact ⟨_, rfl, _, rfl, p, a, n, es, L, rfl, W0.same s1, s1 _ _ hL, hn, fun H2 s2 => q H2 (s1.trans s2)⟩
abbrev TNeedBoth (P : Program) (w : World) (K : PySem.W.Frag) (mg : Str → Option Value) (base : Heap) : Prop := Df P w K mg base "need_both" 4 ["web", "laying"] sp_need_both
/-! ### neighbours_in -/
abbrev s_neighbours_in : Stmt := topS 14
theorem sc_neighbours_in : FnScope ["web", "place", "a", "b"] ["web", "place"] (defScope s_neighbours_in) := ⟨rfl, rfl, rfl, by decide +kernel, rfl, by decide +kernel, by decide +kernel⟩
def sp_neighbours_in : Sp := fun vs H Q _ => ∃ (p : Addr) (n k : Nat) (es : List Edge), vs = [.ref p, nI k] ∧ WebAt H p n es ∧ es.length ≤ 100 ∧ ∀ (H' : Hp) (r : Addr) (nb : List Nat), Same H H' → H r = none → nb.Perm (nbs es k) → H' r = some (.lst (nb.map nI)) → Q (.ref r) H'
theorem ok_neighbours_in {f : Addr} {fd : FuncData} (B : Bi mg) (F : Fun K "neighbours_in" "neighbours_in" s_neighbours_in f fd) :
    FnOk P w K mg base CX0 1 f fd ["web", "place"] sp_neighbours_in := by
  refine F.ok sc_neighbours_in (fun vs H Q E h => ?_) (fun cdv A outer s H vs Q E hr h => ?_)
  · obtain ⟨p, n, k, es, rfl, _⟩ := h
    rfl
  obtain ⟨p, n, k, es, rfl, W0, h100, q⟩ := h
  refine ⟨_, (pss_one (ps_ret (pe_callB (kx_sortedI K rfl) (by rfl) B.sorted (by decide +kernel) (pa_cons (pe_lc (own := [("a", 2), ("b", 3)]) (g := gTup K 2 (gCons (gName 2) (gCons (gName 3) gNil))) (by rfl) sc_neighbours_in.nd (kx_pi_tup K rfl (pe_ix (kx_ix_tup K rfl) (pv 0) pe_int (fun _ _ => rfl))) (blkOk_by (own := [("a", 2), ("b", 3)]) (N := ["web", "place", "a", "b"]) (sc := defScope s_neighbours_in) (by decide +kernel)) (fun _ _ _ _ _ => (pg_tup rfl (pgs_cons (pg_name (i := 2) sc_neighbours_in.nd rfl (Or.inl rfl)) (pgs_cons (pg_name (i := 3) sc_neighbours_in.nd rfl (Or.inl rfl)) pgs_nil)))) (fun _ _ _ _ _ => pts_one (pt_cmpR (kx_in K rfl) (pv 1) (pe_tup (pa_cons (pv 2) (pa_cons (pv 3) pa_nil))) (by rfl))) (fun _ _ _ _ _ => (pe_op op_sub (pe_op op_add (pv 2) (pv 3)) (pv 1)))) pa_nil)))), ?_⟩
  obtain ⟨qa, as, h1, h2, h3⟩ := id W0
  have hl : as.length = es.length := paired_len h3
  refine ⟨_, rfl, p, _, _, _, rfl, rfl, SqT.of h1, atI_nat (j := 1) rfl, qa, rfl, ⟨_, SqT.of h2⟩, fun D hD => ?_⟩
  refine lc_tup (K := K) (a := qa) (xs := as.map V.ref) (fun i H' => Same H H' ∧ H' D = some (.lst ((nbs (es.take i) k).map nI))) ⟨same_upd hD, upd_same⟩ (fun i H' _ z => SqT.of (z.1 _ _ h2)) ?_ ?_
  · rintro i x H1 hx ⟨sm, hDl⟩
    obtain ⟨b, hb, rfl⟩ := map_ref_at hx
    obtain ⟨e, he, hE⟩ := paired_at h3 i b hb
    refine ⟨b, _, rfl, SqT.of (hE.same sm), rfl, _, _, rfl, _, _, rfl, rfl, rfl, ?_⟩
    refine ⟨_, rfl, _, rfl, _, rfl, (by show 2 ≤ sizeLine; decide), fun t ht => ?_⟩
    have sT := sm_upd (o := .tup [nI e.1, nI e.2]) sm (sm.free ht)
    have nDt : D ≠ t := ne_of_none hDl ht
    refine ⟨t, _, rfl, .inr (SqT.of upd_same), rfl, rfl, _, rfl, ?_⟩
    have hin : inV (nI k) [nI e.1, nI e.2] = decide (e.1 = k ∨ e.2 = k) := by
      rw [show ([nI e.1, nI e.2] : List V) = [e.1, e.2].map nI from rfl, inV_nats]
      exact decide_eq_decide.mpr (by simp [eq_comm])
    show if inV (nI k) [nI e.1, nI e.2] = true then _ else _
    rw [hin]
    refine ite2 (fun c => ?_) (fun c => ?_)
    · have c' : e.1 = k ∨ e.2 = k := of_decide_eq_true c
      refine ⟨_, rfl, _, rfl, _, _, rfl, rfl, _, rfl, _, _, rfl, rfl, _, (by rw [upd_ne nDt]; exact hDl), ?_, ?_, ?_⟩
      · rw [List.length_map]
        refine small1000 ?_
        have := nbs_len (es.take i) k
        rw [List.length_take] at this
        omega
      · intro b' o' e'
        by_cases hb' : b' = D
        · subst hb'; rw [hD] at e'; cases e'
        · rw [upd_ne hb']; exact sT _ _ e'
      · rw [upd_same, nbs_take_in he c', List.map_append]
        have eV : V.int ((e.1 : Int) + e.2 - k) = nI (e.1 + e.2 - k) := congrArg V.int (by omega)
        exact congrArg (fun v => some (HO.lst ((nbs (es.take i) k).map nI ++ [v]))) eV
    · have c' : ¬ (e.1 = k ∨ e.2 = k) := fun z => c (decide_eq_true z)
      exact ⟨sT, by rw [upd_ne nDt, nbs_take_out he c']; exact hDl⟩
  · rintro H1 ⟨sm, hDl⟩
    rw [List.length_map, hl, List.take_length, nI_map] at hDl
    refine ⟨D, _, rfl, SqL.of hDl, fun ns' r pm _ hr' => ?_⟩
    obtain ⟨m, pm', em, _⟩ := perm_nats pm
    refine q _ r m (sm_upd sm (sm.free hr')) (sm.free hr') pm' ?_
    rw [upd_same, em]
abbrev TNbs (P : Program) (w : World) (K : PySem.W.Frag) (mg : Str → Option Value) (base : Heap) : Prop := Df P w K mg base "neighbours_in" 1 ["web", "place"] sp_neighbours_in
end
end K23P

namespace K23
/-! ### states as lists -/
def staL (L : Lay) : Sta := fun i => L.getD i none
def hd (L : Lay) : List Nat := (List.range L.length).filter fun i => decide (staL L i = some true)
def tkL (es : List Edge) (L : Lay) (p : Nat) : Lay := (List.range L.length).map fun i => tkS es (staL L) p i
def lives (L : Lay) : Nat := (List.range L.length).countP fun i => (staL L i).isSome
theorem staL_out {L : Lay} {i : Nat} (h : L.length ≤ i) : staL L i = none := by
  unfold staL; rw [List.getD_eq_getElem?_getD, List.getElem?_eq_none h]; rfl
theorem staL_lt {L : Lay} {i : Nat} {b : Bool} (h : staL L i = some b) : i < L.length := by
  rcases Nat.lt_or_ge i L.length with q | q
  · exact q
  · rw [staL_out q] at h; cases h
theorem len_tkL (es : List Edge) (L : Lay) (p : Nat) : (tkL es L p).length = L.length := by unfold tkL; rw [List.length_map, List.length_range]
theorem sta_tkL (es : List Edge) (L : Lay) (p : Nat) : staL (tkL es L p) = tkS es (staL L) p := by
  funext i
  by_cases h : i < L.length
  · unfold tkL
    show List.getD _ i none = _
    rw [List.getD_eq_getElem?_getD, List.getElem?_map, List.getElem?_range h]
    rfl
  · rw [staL_out (by rw [len_tkL]; omega)]
    unfold tkS
    rw [staL_out (L := L) (by omega)]
    split <;> rfl
theorem mem_hd {L : Lay} {p : Nat} : p ∈ hd L ↔ staL L p = some true := by
  unfold hd
  rw [List.mem_filter, List.mem_range, decide_eq_true_eq]
  exact ⟨fun h => h.2, fun h => ⟨staL_lt h, h⟩⟩
theorem count_drop {f : Nat → Bool} {p : Nat} (hf : f p = true) : ∀ l : List Nat, l.Nodup → p ∈ l → l.countP f = l.countP (fun i => f i && decide (i ≠ p)) + 1
  | [], _, h => by simp at h
  | x :: l, nd, h => by
    obtain ⟨n1, n2⟩ := List.nodup_cons.mp nd
    rw [List.countP_cons, List.countP_cons]
    by_cases e : x = p
    · subst e
      have e2 : l.countP f = l.countP fun i => f i && decide (i ≠ x) := List.countP_congr fun i hi => by
        have : i ≠ x := fun z => n1 (z ▸ hi)
        simp [this]
      rw [e2]; simp [hf]
    · have hl : p ∈ l := (List.mem_cons.mp h).resolve_left fun z => e z.symm
      rw [count_drop hf l n2 hl]
      have : (f x && decide (x ≠ p)) = f x := by simp [e]
      rw [this]; omega
theorem lives_tk {es : List Edge} {L : Lay} {p : Nat} (h : staL L p = some true) : lives L = lives (tkL es L p) + 1 := by
  unfold lives
  rw [len_tkL, count_drop (f := fun i => (staL L i).isSome) (p := p) (by rw [h]; rfl) _ List.nodup_range (List.mem_range.mpr (staL_lt h))]
  congr 1
  refine List.countP_congr fun i _ => ?_
  rw [sta_tkL]
  unfold tkS
  by_cases e : i = p
  · simp [e]
  · rw [if_neg e, Option.isSome_map]; simp [e]
/-- the number of orders that take all coins -/
def cntF (es : List Edge) : Nat → Lay → Int
  | 0, _ => 1
  | f + 1, L => ((hd L).map fun k => cntF es f (tkL es L k)).sum
def cnt (es : List Edge) (L : Lay) : Int := cntF es (lives L) L
theorem cnt_zero {es : List Edge} {L : Lay} (h : lives L = 0) : cnt es L = 1 := by unfold cnt; rw [h]; rfl
theorem cnt_step {es : List Edge} {L : Lay} (h : lives L ≠ 0) : cnt es L = ((hd L).map fun k => cnt es (tkL es L k)).sum := by
  unfold cnt
  obtain ⟨f, e⟩ : ∃ f, lives L = f + 1 := ⟨lives L - 1, by omega⟩
  rw [e]
  show ((hd L).map fun k => cntF es f (tkL es L k)).sum = _
  congr 1
  refine List.map_congr_left fun k hk => ?_
  have := lives_tk (es := es) (mem_hd.mp hk)
  rw [show lives (tkL es L k) = f by omega]
theorem sum_nonneg : ∀ l : List Int, (∀ x ∈ l, 0 ≤ x) → 0 ≤ l.sum
  | [], _ => Int.le_refl 0
  | x :: l, h => by
    rw [List.sum_cons]
    have := sum_nonneg l fun y hy => h y (List.mem_cons_of_mem _ hy)
    have := h x List.mem_cons_self
    omega
theorem sum_pos : ∀ l : List Int, (∀ x ∈ l, 0 ≤ x) → (0 < l.sum ↔ ∃ x ∈ l, 0 < x)
  | [], _ => by simp
  | x :: l, h => by
    have h1 := h x List.mem_cons_self
    have h2 := fun y hy => h y (List.mem_cons_of_mem x hy)
    have h3 := sum_nonneg l h2
    have ih := sum_pos l h2
    rw [List.sum_cons]
    constructor
    · intro q
      by_cases hx : 0 < x
      · exact ⟨x, List.mem_cons_self, hx⟩
      · obtain ⟨y, hy, p⟩ := ih.mp (by omega)
        exact ⟨y, List.mem_cons_of_mem _ hy, p⟩
    · rintro ⟨y, hy, p⟩
      rcases List.mem_cons.mp hy with rfl | hy
      · omega
      · have := ih.mpr ⟨y, hy, p⟩
        omega
theorem cnt_all (es : List Edge) : ∀ (f : Nat) (L : Lay), lives L = f → 0 ≤ cnt es L ∧ (0 < cnt es L ↔ Clr es (staL L))
  | 0, L, e => by
    rw [cnt_zero e]
    refine ⟨by omega, fun _ => .done fun i => ?_, fun _ => by omega⟩
    cases q : staL L i with
    | none => rfl
    | some b =>
      have := List.countP_eq_zero.mp (show (List.range L.length).countP (fun i => (staL L i).isSome) = 0 from e) i (List.mem_range.mpr (staL_lt q))
      rw [q] at this
      exact absurd rfl this
  | f + 1, L, e => by
    have ih : ∀ k ∈ hd L, 0 ≤ cnt es (tkL es L k) ∧ (0 < cnt es (tkL es L k) ↔ Clr es (tkS es (staL L) k)) := fun k hk => by
      have := cnt_all es f (tkL es L k) (by have := lives_tk (es := es) (mem_hd.mp hk); omega)
      rw [sta_tkL] at this
      exact this
    have nn : ∀ x ∈ (hd L).map fun k => cnt es (tkL es L k), 0 ≤ x := fun x hx => by
      obtain ⟨k, hk, rfl⟩ := List.mem_map.mp hx
      exact (ih k hk).1
    rw [cnt_step (by omega)]
    refine ⟨sum_nonneg _ nn, ?_⟩
    rw [sum_pos _ nn]
    constructor
    · rintro ⟨x, hx, p⟩
      obtain ⟨k, hk, rfl⟩ := List.mem_map.mp hx
      exact .step k (mem_hd.mp hk) ((ih k hk).2.mp p)
    · intro c
      cases c with
      | done h0 =>
        exfalso
        have : lives L = 0 := List.countP_eq_zero.mpr fun i _ => by rw [h0 i]; simp
        omega
      | step p hp c => exact ⟨_, List.mem_map.mpr ⟨p, mem_hd.mpr hp, rfl⟩, (ih p (mem_hd.mpr hp)).2.mpr c⟩
theorem cnt_pos {es : List Edge} {L : Lay} : 0 < cnt es L ↔ Clr es (staL L) := (cnt_all es _ L rfl).2

/-! ### all layings -/
def allLay : Nat → List (List Bool)
  | 0 => [[]]
  | n + 1 => (allLay n).flatMap fun l => [l ++ [false], l ++ [true]]
theorem mem_allLay : ∀ {n : Nat} {l : List Bool}, l ∈ allLay n ↔ l.length = n
  | 0, l => by simp [allLay]
  | n + 1, l => by
    unfold allLay
    rw [List.mem_flatMap]
    constructor
    · rintro ⟨m, hm, h⟩
      have := mem_allLay.mp hm
      rcases List.mem_cons.mp h with rfl | h
      · rw [List.length_append, this]; rfl
      · rw [List.mem_singleton.mp h, List.length_append, this]; rfl
    · intro h
      have hne : l ≠ [] := fun e => by subst e; simp at h
      refine ⟨l.dropLast, mem_allLay.mpr (by rw [List.length_dropLast, h]; rfl), ?_⟩
      have e := List.dropLast_concat_getLast hne
      cases q : l.getLast hne with
      | false => rw [q] at e; rw [← e]; simp
      | true => rw [q] at e; rw [← e]; simp
theorem len_allLay : ∀ n : Nat, (allLay n).length = 2 ^ n
  | 0 => rfl
  | n + 1 => by
    unfold allLay
    have : ∀ l : List (List Bool), (l.flatMap fun l => [l ++ [false], l ++ [true]]).length = 2 * l.length := by
      intro l
      induction l with
      | nil => rfl
      | cons x l ih => rw [List.flatMap_cons, List.length_append, ih, List.length_cons, List.length_cons, List.length_cons, List.length_nil]; omega
    rw [this, len_allLay n, Nat.pow_succ]; omega
/-- the layings that can be cleared -/
def cl (es : List Edge) (n : Nat) : List (List Bool) := (allLay n).filter fun l => decide (0 < cnt es (l.map some))
theorem mem_cl {es : List Edge} {n : Nat} {l : List Bool} : l ∈ cl es n ↔ l.length = n ∧ Clr es (staL (l.map some)) := by
  unfold cl
  rw [List.mem_filter, mem_allLay, decide_eq_true_eq, cnt_pos]
theorem sta_full {l : List Bool} {i : Nat} (h : i < l.length) : staL (l.map some) i = some (l.getD i false) := by
  show List.getD _ i none = _
  rw [List.getD_eq_getElem?_getD, List.getElem?_map, List.getElem?_eq_getElem h, List.getD_eq_getElem?_getD, List.getElem?_eq_getElem h]
  rfl
theorem live_full (l : List Bool) : Live (staL (l.map some)) (List.range l.length) := by
  refine ⟨List.nodup_range, fun i => ?_⟩
  rw [List.mem_range]
  constructor
  · intro h; rw [sta_full h]; rfl
  · intro h
    cases q : staL (l.map some) i with
    | none => rw [q] at h; cases h
    | some b => have := staL_lt q; rw [List.length_map] at this; exact this
theorem cl_ne {es : List Edge} {n : Nat} (g : Good n es) : cl es n ≠ [] := by
  obtain ⟨s, hL, c⟩ := clr_some g (List.range n) List.nodup_range
  let l : List Bool := (List.range n).map fun i => (s i).getD false
  have hl : l.length = n := by rw [List.length_map, List.length_range]
  have e : staL (l.map some) = s := by
    funext i
    by_cases h : i < n
    · rw [sta_full (by rw [hl]; exact h)]
      have := (hL.2 i).mp (List.mem_range.mpr h)
      show some (((List.range n).map fun i => (s i).getD false).getD i false) = _
      rw [List.getD_eq_getElem?_getD, List.getElem?_map, List.getElem?_range h]
      cases q : s i with
      | none => rw [q] at this; cases this
      | some b => simp [q]
    · rw [staL_out (by rw [List.length_map, hl]; omega)]
      cases q : s i with
      | none => rfl
      | some b => exact absurd (List.mem_range.mp (hL.has q)) h
  exact List.ne_nil_of_mem (mem_cl.mpr ⟨hl, by rw [e]; exact c⟩)
/-- the places at which two layings differ -/
def ap (L O : List Bool) : List Nat := (List.range L.length).filter fun k => decide (L.getD k false ≠ O.getD k false)
theorem ap_len (L O : List Bool) : (ap L O).length ≤ L.length := by
  unfold ap
  have := List.length_filter_le (fun k => decide (L.getD k false ≠ O.getD k false)) (List.range L.length)
  rw [List.length_range] at this
  exact this
def minN (a b : Int) : Int := if b < a then b else a
/-- the fewest turned coins, as the law finds them -/
def fewest (es : List Edge) (n : Nat) (L : List Bool) : Int := (cl es n).foldl (fun a O => minN a (ap L O).length) n
theorem foldl_min {α : Type} (f : α → Int) : ∀ (l : List α) (a m : Int), (∀ x ∈ l, m ≤ f x) → m ≤ a → (a = m ∨ ∃ x ∈ l, f x = m) → l.foldl (fun a x => minN a (f x)) a = m
  | [], a, m, _, _, h => by
    rcases h with h | ⟨x, hx, _⟩
    · exact h
    · cases hx
  | x :: l, a, m, h1, h2, h => by
    rw [List.foldl_cons]
    have hx := h1 x List.mem_cons_self
    refine foldl_min f l _ m (fun y hy => h1 y (List.mem_cons_of_mem _ hy)) (by unfold minN; split <;> omega) ?_
    unfold minN
    rcases h with h | ⟨y, hy, e⟩
    · left; split <;> omega
    · rcases List.mem_cons.mp hy with rfl | hy
      · left; split <;> omega
      · exact .inr ⟨y, hy, e⟩
theorem ap_self (L : List Bool) : ap L L = [] := by
  unfold ap
  rw [List.filter_eq_nil_iff]
  intro k _
  simp
theorem ap_nil {L O : List Bool} (h : L.length = O.length) (e : ap L O = []) : L = O := by
  unfold ap at e
  rw [List.filter_eq_nil_iff] at e
  apply List.ext_getElem h
  intro i h1 h2
  have := e i (List.mem_range.mpr h1)
  simp only [ne_eq, decide_not, Bool.not_eq_eq_eq_not, Bool.not_true, decide_eq_false_iff_not, Decidable.not_not] at this
  rw [List.getD_eq_getElem?_getD, List.getElem?_eq_getElem h1, List.getD_eq_getElem?_getD, List.getElem?_eq_getElem h2] at this
  exact this
def heads (L : List Bool) : Nat := (List.range L.length).countP (isH (staL (L.map some)))
theorem ap_flip {L : List Bool} (h : 0 < L.length) : (ap L (L.set 0 (!L.getD 0 false))).length = 1 := by
  cases L with
  | nil => simp at h
  | cons b L =>
    unfold ap
    rw [List.length_cons, List.range_succ_eq_map, List.filter_cons]
    simp only [List.set_cons_zero, List.getD_cons_zero]
    rw [if_pos (by cases b <;> decide)]
    rw [List.length_cons]
    have : (List.map Nat.succ (List.range L.length)).filter (fun k => decide ((b :: L).getD k false ≠ ((!b) :: L).getD k false)) = [] := by
      rw [List.filter_eq_nil_iff]
      intro k hk
      obtain ⟨j, _, rfl⟩ := List.mem_map.mp hk
      simp
    rw [this]; rfl
theorem heads_count (L : List Bool) : heads L = L.countP fun b => b := by
  unfold heads
  have e : L = (List.range L.length).map fun i => L.getD i false := by
    apply List.ext_getElem
    · rw [List.length_map, List.length_range]
    · intro i h1 h2
      rw [List.getElem_map, List.getElem_range, List.getD_eq_getElem?_getD, List.getElem?_eq_getElem h1]; rfl
  have q : (List.range L.length).countP (isH (staL (L.map some))) = (List.range L.length).countP fun i => L.getD i false := List.countP_congr fun i hi => by
    unfold isH
    rw [sta_full (List.mem_range.mp hi)]
    cases L.getD i false <;> simp
  rw [q]
  conv => rhs; rw [e]
  rw [List.countP_map]
  rfl
theorem heads_flip {L : List Bool} (h : 0 < L.length) : odd (heads (L.set 0 (!L.getD 0 false))) = !odd (heads L) := by
  rw [heads_count, heads_count]
  cases L with
  | nil => simp at h
  | cons b L =>
    simp only [List.set_cons_zero, List.getD_cons_zero]
    rw [List.countP_cons, List.countP_cons, odd_add, odd_add]
    cases b <;> cases odd (L.countP fun b => b) <;> rfl
theorem tree_fewest {n : Nat} {es : List Edge} (g : Good n es) (T : Tree n es) {L : List Bool} (hL : L.length = n) : fewest es n L = if odd (heads L) = true then 0 else 1 := by
  have h0 : 0 < n := T.1
  have tc : ∀ O : List Bool, O.length = n → (O ∈ cl es n ↔ odd (heads O) = true) := fun O hO => by
    rw [mem_cl]
    have lv := live_full O
    rw [hO] at lv
    have := tree_clr g T lv
    unfold heads
    rw [hO]
    exact ⟨fun z => this.mp z.2, fun z => ⟨rfl, this.mpr z⟩⟩
  unfold fewest
  by_cases ho : odd (heads L) = true
  · rw [if_pos ho]
    refine foldl_min (fun O => ((ap L O).length : Int)) _ _ 0 (fun x _ => by omega) (by omega) (.inr ⟨L, (tc L hL).mpr ho, ?_⟩)
    rw [ap_self]; rfl
  · rw [if_neg ho]
    refine foldl_min (fun O => ((ap L O).length : Int)) _ _ 1 (fun O hO => ?_) (by omega) (.inr ⟨L.set 0 (!L.getD 0 false), ?_, ?_⟩)
    · have hl := (mem_cl.mp hO).1
      have : ap L O ≠ [] := fun e => by
        have e2 := ap_nil (by rw [hL, hl]) e
        rw [← e2] at hO
        exact ho ((tc L hL).mp hO)
      have := List.length_pos_iff.mpr this
      show 1 ≤ ((ap L O).length : Int)
      omega
    · refine (tc _ (by rw [List.length_set, hL])).mpr ?_
      rw [heads_flip (by omega)]
      simpa using ho
    · show (((ap L _).length : Nat) : Int) = 1
      rw [ap_flip (by omega)]; rfl
end K23

namespace K23P
open PySem PySem.Spec PyProof.Rows L2 K23 K23R
/-! ### layings with some coins turned -/
def ftk (L : Lay) (c : Nat → Nat) : Lay := (List.range L.length).map fun j => (staL L j).map fun b => b ^^ odd (c j)
theorem ftk_len (L : Lay) (c : Nat → Nat) : (ftk L c).length = L.length := by unfold ftk; rw [List.length_map, List.length_range]
theorem ftk_at {L : Lay} {c : Nat → Nat} {j : Nat} (h : j < L.length) : (ftk L c)[j]? = some ((staL L j).map fun b => b ^^ odd (c j)) := by
  unfold ftk; rw [List.getElem?_map, List.getElem?_range h]; rfl
theorem ftk_zero (L : Lay) : ftk L (fun _ => 0) = L := by
  apply List.ext_getElem?
  intro j
  by_cases h : j < L.length
  · rw [ftk_at h]
    unfold staL
    rw [List.getD_eq_getElem?_getD, List.getElem?_eq_getElem h]
    show some ((some L[j]).getD none |>.map _) = _
    cases L[j] with
    | none => rfl
    | some b => show some (some (b ^^ odd 0)) = _; rw [odd_zero, Bool.xor_false]
  · rw [List.getElem?_eq_none (by rw [ftk_len]; omega), List.getElem?_eq_none (by omega)]
theorem ftk_step {L : Lay} {c c' : Nat → Nat} {x : Nat} (hx : x < L.length) (h : ∀ j, c' j = c j + if j = x then 1 else 0) : ftk L c' = (ftk L c).set x ((staL L x).map fun b => b ^^ odd (c x + 1)) := by
  apply List.ext_getElem?
  intro j
  by_cases hj : j < L.length
  · rw [ftk_at hj, List.getElem?_set]
    by_cases e : x = j
    · subst e
      rw [if_pos rfl, if_pos (by rw [ftk_len]; exact hj), h, if_pos rfl]
    · rw [if_neg e, ftk_at hj, h, if_neg (fun z => e z.symm), Nat.add_zero]
  · rw [List.getElem?_eq_none (by rw [ftk_len]; omega), List.getElem?_eq_none (by rw [List.length_set, ftk_len]; omega)]
theorem ftk_none {L : Lay} {c c' : Nat → Nat} {x : Nat} (hx : x < L.length) (h : ∀ j, c' j = c j + if j = x then 1 else 0) (hn : staL L x = none) : ftk L c' = ftk L c := by
  rw [ftk_step hx h, hn]
  apply List.ext_getElem?
  intro j
  rw [List.getElem?_set]
  by_cases e : x = j
  · subst e
    rw [if_pos rfl, if_pos (by rw [ftk_len]; exact hx), ftk_at hx, hn]; rfl
  · rw [if_neg e]
theorem ftk_end (es : List Edge) (L : Lay) (k : Nat) : (ftk L fun j => (nbs es k).count j).set k none = tkL es L k := by
  apply List.ext_getElem?
  intro j
  by_cases hj : j < L.length
  · rw [List.getElem?_set]
    unfold tkL
    rw [List.getElem?_map, List.getElem?_range hj]
    unfold tkS
    by_cases e : k = j
    · subst e
      rw [if_pos rfl, if_pos (by rw [ftk_len]; exact hj)]
      show _ = some (if k = k then none else _)
      rw [if_pos rfl]
    · rw [if_neg e, ftk_at hj]
      show _ = some (if j = k then none else _)
      rw [if_neg (fun z => e z.symm)]
  · rw [List.getElem?_eq_none (by rw [List.length_set, ftk_len]; omega), List.getElem?_eq_none (by rw [len_tkL]; omega)]
theorem ftk_congr {L : Lay} {c c' : Nat → Nat} (h : ∀ j, c j = c' j) : ftk L c = ftk L c' := by rw [show c = c' from funext h]
theorem count_take {l : List Nat} {i x : Nat} (h : l[i]? = some x) (j : Nat) : (l.take (i + 1)).count j = (l.take i).count j + if j = x then 1 else 0 := by
  rw [List.take_add_one, h, List.count_append]
  show _ + List.count j [x] = _
  rw [List.count_cons, List.count_nil, Nat.zero_add]
  by_cases e : j = x
  · subst e; simp
  · have : ¬ x = j := fun z => e z.symm
    simp [e, this]
theorem cP_none {o : Option Bool} : cP o = .non ↔ o = none := by
  cases o with
  | none => simp [cP]
  | some b => simp [cP]
theorem bi_not (b : Bool) : (1 : Int) - bi b = bi (!b) := by cases b <;> rfl
theorem ixN_nat {n j : Nat} (h : j < n) : ixN n (j : Int) = some j := by
  unfold ixN
  rw [if_pos (by omega), if_pos (by omega), Int.toNat_natCast]
section
variable {P : Program} {w : World} {K : PySem.W.Frag} {mg : Str → Option Value} {base : Heap}
/-! ### heads_in -/
abbrev s_heads_in : Stmt := topS 19
theorem sc_heads_in : FnScope ["laying", "k", "one"] ["laying"] (defScope s_heads_in) := ⟨rfl, rfl, rfl, by decide +kernel, rfl, by decide +kernel, by decide +kernel⟩
def sp_heads_in : Sp := fun vs H Q _ => ∃ (a : Addr) (L : Lay), vs = [.ref a] ∧ H a = some (.tup (L.map cP)) ∧ L.length ≤ 100 ∧ ∀ (H' : Hp) (r : Addr), Same H H' → H r = none → H' r = some (.lst ((hd L).map nI)) → Q (.ref r) H'
theorem ok_heads_in {f : Addr} {fd : FuncData} (B : Bi mg) (F : Fun K "heads_in" "heads_in" s_heads_in f fd) :
    FnOk P w K mg base CX0 1 f fd ["laying"] sp_heads_in := by
  refine F.ok sc_heads_in (fun vs H Q E h => ?_) (fun cdv A outer s H vs Q E hr h => ?_)
  · obtain ⟨a, L, rfl, _⟩ := h
    rfl
  obtain ⟨a, L, rfl, hL, h100, q⟩ := h
  refine ⟨_, (pss_one (ps_ret (pe_lc (own := [("k", 1), ("one", 2)]) (g := gTup K 2 (gCons (gName 1) (gCons (gName 2) gNil))) (by rfl) sc_heads_in.nd (pi_enumT (by rfl) B.enum (pa_cons (pv 0) pa_nil)) (blkOk_by (own := [("k", 1), ("one", 2)]) (N := ["laying", "k", "one"]) (sc := defScope s_heads_in) (by decide +kernel)) (fun _ _ _ _ _ => (pg_tup rfl (pgs_cons (pg_name (i := 1) sc_heads_in.nd rfl (Or.inl rfl)) (pgs_cons (pg_name (i := 2) sc_heads_in.nd rfl (Or.inl rfl)) pgs_nil)))) (fun _ _ _ _ _ => pts_one (pt_cmpR op_eq (pv 2) pe_int (nomark _))) (fun _ _ _ _ _ => (pv 1))))), ?_⟩
  refine ⟨_, rfl, a, _, rfl, SqT.of hL, fun D hD => ?_⟩
  have hdl : ∀ i, ((List.range i).filter fun i => decide (staL L i = some true)).length ≤ i := fun i => by
    have := List.length_filter_le (fun i => decide (staL L i = some true)) (List.range i)
    rw [List.length_range] at this
    exact this
  refine lc_it walk_enumT (fun i H' => Same H H' ∧ H' D = some (.lst (((List.range i).filter fun i => decide (staL L i = some true)).map nI))) ⟨same_upd hD, upd_same⟩ (fun i H' _ z => SqT.of (z.1 _ _ hL)) ?_ ?_
  · rintro i x H1 H2 hi ⟨sm, hDl⟩ ⟨T, x1, x2, rfl, nT, rfl, e1, e2⟩
    cases e1
    rw [List.length_map] at hi
    obtain ⟨o, ho, rfl⟩ := map_at e2
    have sT := sm_upd (o := .tup [.int (i : Nat), cP o]) sm (sm.free nT)
    have nDT : D ≠ T := ne_of_none hDl nT
    have eo : staL L i = o := by unfold staL; rw [List.getD_eq_getElem?_getD, ho]; rfl
    refine ⟨T, _, rfl, SqT.of upd_same, rfl, _, _, rfl, _, _, rfl, rfl, rfl, ?_⟩
    refine ⟨_, rfl, by cases o <;> rfl, ?_⟩
    refine ⟨_, rfl, ite2 (fun c => ?_) (fun c => ?_)⟩
    · have c' : o = some true := by
        have c1 : cP o = V.int 1 := of_decide_eq_true c
        cases o with
        | none => cases c1
        | some b => cases b with
          | true => rfl
          | false => simp [cP, bi] at c1
      refine ⟨_, rfl, _, by rw [upd_ne nDT]; exact hDl, ?_, ?_, ?_⟩
      · rw [List.length_map]
        exact small1000 (Nat.le_trans (hdl i) (by omega))
      · intro b' o' e'
        have hb' : b' ≠ D := ne_of_none e' hD
        rw [upd_ne hb']; exact sT _ _ e'
      · rw [upd_same, List.range_succ, List.filter_append, List.filter_cons_of_pos (by rw [eo, c']; rfl), List.map_append]
        rfl
    · have c' : ¬ o = some true := fun z => c (by rw [z]; rfl)
      refine ⟨sT, ?_⟩
      rw [upd_ne nDT, List.range_succ, List.filter_append, List.filter_cons_of_neg (by rw [eo]; simpa using c'), List.filter_nil, List.append_nil]
      exact hDl
  · rintro H1 ⟨sm, hDl⟩
    rw [List.length_map] at hDl
    exact q H1 D sm hD hDl
abbrev THeads (P : Program) (w : World) (K : PySem.W.Frag) (mg : Str → Option Value) (base : Heap) : Prop := Df P w K mg base "heads_in" 1 ["laying"] sp_heads_in
/-! ### taken_in -/
abbrev s_taken_in : Stmt := topS 20
theorem sc_taken_in : FnScope ["web", "laying", "place", "found", "k"] ["web", "laying", "place"] (defScope s_taken_in) := ⟨rfl, rfl, rfl, by decide +kernel, rfl, by decide +kernel, by decide +kernel⟩
def sp_taken_in : Sp := fun vs H Q _ => ∃ (p a : Addr) (n k : Nat) (es : List Edge) (L : Lay), vs = [.ref p, .ref a, nI k] ∧ WebAt H p n es ∧ IsWeb n es ∧ H a = some (.tup (L.map cP)) ∧ L.length = n ∧ k < n ∧
  ∀ (H' : Hp) (r : Addr), Same H H' → H r = none → H' r = some (.tup ((tkL es L k).map cP)) → Q (.ref r) H'
theorem ok_taken_in {f : Addr} {fd : FuncData} (B : Bi mg) (D_neighbours_in : TNbs P w K mg base) (F : Fun K "taken_in" "taken_in" s_taken_in f fd) :
    FnOk P w K mg base CX0 2 f fd ["web", "laying", "place"] sp_taken_in := by
  refine F.ok sc_taken_in (fun vs H Q E h => ?_) (fun cdv A outer s H vs Q E hr h => ?_)
  · obtain ⟨p, a, n, k, es, L, rfl, _⟩ := h
    rfl
  obtain ⟨p, a, n, k, es, L, rfl, W0, J, hL, hn, hk, q⟩ := h
  refine ⟨_, (pss_cons (ps_set (i := 3) sc_taken_in.nd rfl (Or.inl rfl) (pe_callTy (kx_list_of K rfl) (by rfl) B.list (by decide +kernel) (pa_cons (pv 1) pa_nil)))
    (pss_cons (ps_for PassesOwn.never rfl (kx_pi_list K rfl (pe_df D_neighbours_in (hr.mono (by omega)) (by rfl) (pa_cons (pv 0) (pa_cons (pv 2) pa_nil)))) (pg_name (i := 4) sc_taken_in.nd rfl (Or.inl rfl))
      (pss_one (ps_if (pt_cmpR op_notN (pe_ix (kx_ix_list K rfl) (pv 3) (pv 4) (fun _ _ => rfl)) pe_non (nomark _))
          (pss_one (ps_asg (pe_op op_sub pe_int (pe_ix (kx_ix_list K rfl) (pv 3) (pv 4) (fun _ _ => rfl))) (pg_sub (pv 3) (pv 4) set_list)))
          pss_nil)))
    (pss_cons (ps_asg pe_non (pg_sub (pv 3) (pv 2) set_list))
    (pss_one (ps_ret (pe_callTy (kx_tuple_of K rfl) (by rfl) B.tuple (by decide +kernel) (pa_cons (pv 3) pa_nil))))))), ?_⟩
  refine ⟨_, rfl, a, _, rfl, .inr (SqT.of hL), fun l nl => ?_⟩
  have s1 : Same H (upd H l (.lst (L.map cP))) := same_upd nl
  refine ⟨_, rfl, _, rfl, p, n, k, es, rfl, W0.same s1, J.len, fun H2 r nb s2 nr pm hr2 => ?_⟩
  have h6 := J.le
  have nlr : l ≠ r := ne_of_none upd_same nr
  have hl2 : H2 l = some (.lst (L.map cP)) := s2 _ _ upd_same
  have sm2 : Same H H2 := s1.trans s2
  refine ⟨r, rfl, ⟨_, SqL.of hr2⟩, ?_⟩
  refine for_list (K := K) (a := r) (xs := nb.map nI) (fun i σ H' => ∃ y, σ = [some (.ref p), some (.ref a), some (nI k), some (.ref l), y] ∧ Same H H' ∧ H' r = some (.lst (nb.map nI)) ∧
      H' l = some (.lst ((ftk L fun j => (nb.take i).count j).map cP)))
    ⟨none, rfl, sm2, hr2, ?_⟩ (fun i σ H' _ ⟨_, _, _, z, _⟩ => SqL.of z) ?_ ?_
  · rw [hl2]
    show _ = some (HO.lst ((ftk L fun j => ([] : List Nat).count j).map cP))
    rw [show (fun j => ([] : List Nat).count j) = fun _ => 0 from funext fun _ => List.count_nil, ftk_zero]
  · rintro i x σ H' hx ⟨y, rfl, sm, hr', hl'⟩
    obtain ⟨m, hm, rfl⟩ := map_at hx
    have hmn : m < L.length := by
      rw [hn]
      exact nbs_lt J.good (pm.mem_iff.mp (List.mem_of_getElem? hm))
    have hat : ((ftk L fun j => (nb.take i).count j).map cP)[m]? = some (cP ((staL L m).map fun b => b ^^ odd ((nb.take i).count m))) := by
      rw [List.getElem?_map, ftk_at hmn]; rfl
    have hstep := count_take hm
    refine ⟨_, rfl, _, rfl, l, _, _, _, rfl, rfl, SqL.of hl', atI_nat hat, rfl, ?_⟩
    cases hs : staL L m with
    | none =>
      refine ⟨_, rfl, iteF ?_⟩
      refine ⟨_, rfl, sm, hr', ?_⟩
      rw [ftk_none hmn hstep hs]
      exact hl'
    | some b =>
      refine ⟨_, rfl, iteT ?_⟩
      rw [hs] at hat
      refine ⟨_, rfl, _, rfl, l, _, _, _, rfl, rfl, SqL.of hl', atI_nat hat, _, _, rfl, rfl, _, rfl, _, rfl, l, _, _, m, rfl, rfl, hl', ?_, ?_⟩
      · rw [List.length_map, ftk_len]; exact ixN_nat hmn
      · refine ⟨_, rfl, ?_, ?_, ?_⟩
        · intro b' o' e'
          rw [upd_ne (ne_of_none e' nl)]; exact sm _ _ e'
        · rw [upd_ne nlr.symm]; exact hr'
        · rw [upd_same, ftk_step hmn hstep, List.map_set, hs]
          have eV : V.int (1 - bi (b ^^ odd ((nb.take i).count m))) = cP ((some b).map fun b => b ^^ odd ((nb.take i).count m + 1)) := by
            show V.int _ = V.int (bi _)
            rw [bi_not, odd_add, odd_one]
            cases b <;> cases odd ((nb.take i).count m) <;> rfl
          exact congrArg (fun v => some (HO.lst (List.set ((ftk L fun j => (nb.take i).count j).map cP) m v))) eV
  · rintro σ H' ⟨y, rfl, sm, hr', hl'⟩
    rw [List.length_map, List.take_length] at hl'
    refine ⟨_, rfl, _, rfl, l, _, _, k, rfl, rfl, hl', ?_, ?_⟩
    · rw [List.length_map, ftk_len]; exact ixN_nat (by omega)
    refine ⟨_, rfl, l, _, rfl, .inl ⟨SqL.of upd_same, fun t nt => ?_⟩⟩
    have sm3 : Same H (upd H' l (.lst (((ftk L fun j => nb.count j).map cP).set k .non))) := fun b' o' e' => by
      rw [upd_ne (ne_of_none e' nl)]; exact sm _ _ e'
    refine q _ t (sm_upd sm3 (sm3.free nt)) (sm3.free nt) ?_
    rw [upd_same]
    have e1 : (ftk L fun j => nb.count j) = ftk L fun j => (nbs es k).count j := ftk_congr fun j => pm.count_eq j
    have e2 : ((ftk L fun j => nb.count j).map cP).set k .non = (tkL es L k).map cP := by
      rw [← ftk_end es L k, ← e1, List.map_set]; rfl
    exact congrArg (fun v => some (HO.tup v)) e2
abbrev TTaken (P : Program) (w : World) (K : PySem.W.Frag) (mg : Str → Option Value) (base : Heap) : Prop := Df P w K mg base "taken_in" 2 ["web", "laying", "place"] sp_taken_in
end
end K23P

namespace K23P
open PySem PySem.Spec PyProof.Rows L2 K23 K23R
/-! ### flat data -/
def FlD (d : PyData) : Prop := d = .none ∨ ∃ i, d = .int i
theorem flat_can : ∀ ds : List PyData, (∀ d ∈ ds, FlD d) → PyData.canLayAll0 ds = true ∧ PyData.depthAll ds = 0
  | [], _ => by simp only [PyData.canLayAll0, PyData.depthAll, and_self]
  | d :: ds, h => by
    obtain ⟨i1, i2⟩ := flat_can ds fun x hx => h x (List.mem_cons_of_mem _ hx)
    rcases h d List.mem_cons_self with rfl | ⟨i, rfl⟩
    · simp only [PyData.canLayAll0, PyData.canLay0, PyData.depthAll, PyData.depth, i1, i2, Bool.and_self, Nat.max_self, and_self]
    · simp only [PyData.canLayAll0, PyData.canLay0, PyData.depthAll, PyData.depth, i1, i2, Bool.and_self, Nat.max_self, and_self]
theorem shaped_flat {ds : List PyData} (h : ∀ d ∈ ds, FlD d) : SeqAt.shaped (.list ds) = true := by
  obtain ⟨i1, i2⟩ := flat_can ds h
  unfold SeqAt.shaped
  simp only [PyData.canLay0, PyData.depth, i1, i2, Bool.true_and, decide_eq_true_eq]
  decide
theorem shaped_nil : SeqAt.shaped (.list []) = true := shaped_flat fun _ h => by cases h
theorem eqv_nil (ds : List PyData) : PyData.eqv (.list ds) (.list []) = decide (ds = []) := by
  cases ds with
  | nil => simp only [PyData.eqv, PyData.eqvAll, decide_true]
  | cons d ds => simp only [PyData.eqv, PyData.eqvAll]; simp
theorem eqvAll_ints : ∀ ns ms : List Int, PyData.eqvAll (ns.map .int) (ms.map .int) = decide (ns = ms)
  | [], [] => by simp only [List.map_nil, PyData.eqvAll, decide_true]
  | [], _ :: _ => by simp only [List.map_nil, List.map_cons, PyData.eqvAll]; simp
  | _ :: _, [] => by simp only [List.map_nil, List.map_cons, PyData.eqvAll]; simp
  | n :: ns, m :: ms => by
    simp only [List.map_cons, PyData.eqvAll, PyData.eqv, eqvAll_ints ns ms]
    rw [Bool.eq_iff_iff]
    simp
theorem dp_map {K : PySem.W.Frag} {H : Hp} {α : Type} {f : α → V} {g : α → PyData} (h : ∀ x, Dp K H (f x) (g x)) : ∀ l : List α, DpAll K H (l.map f) (l.map g)
  | [] => .nil
  | x :: l => .cons (h x) (dp_map h l)
def dO : Option Bool → PyData
  | none => .none
  | some b => .int (bi b)
theorem dp_cP {K : PySem.W.Frag} {H : Hp} : ∀ o : Option Bool, Dp K H (cP o) (dO o)
  | none => .non
  | some b => .int _
theorem fl_dO (l : List (Option Bool)) : ∀ d ∈ l.map dO, FlD d := fun d hd => by
  obtain ⟨o, _, rfl⟩ := List.mem_map.mp hd
  cases o with
  | none => exact .inl rfl
  | some b => exact .inr ⟨_, rfl⟩
/-! ### what is known of layings -/
def kO : Option Bool → L2.Key
  | none => .inl 2
  | some b => .inl (bi b)
theorem kV_kO (o : Option Bool) : kV (kO o) = cL o := by cases o <;> rfl
theorem kO_inj {a b : Option Bool} (h : kO a = kO b) : a = b := by
  cases a with
  | none => cases b with
    | none => rfl
    | some b => cases b <;> simp [kO, bi] at h
  | some a => cases b with
    | none => cases a <;> simp [kO, bi] at h
    | some b => cases a <;> cases b <;> first | rfl | simp [kO, bi] at h
theorem kOs_inj : ∀ {l m : List (Option Bool)}, l.map kO = m.map kO → l = m
  | [], [], _ => rfl
  | [], _ :: _, h => by simp at h
  | _ :: _, [], h => by simp at h
  | a :: l, b :: m, h => by
    rw [List.map_cons, List.map_cons] at h
    injection h with h1 h2
    rw [kO_inj h1, kOs_inj h2]
/-- each entry tells the count of its laying -/
def Memo (es : List Edge) (kvs : List (List L2.Key × V)) : Prop := ∀ kv ∈ kvs, ∃ S : Lay, kv.1 = S.map kO ∧ kv.2 = .int (cnt es S)
theorem memo_nil (es : List Edge) : Memo es [] := fun _ h => by cases h
theorem memo_get {es : List Edge} {kvs : List (List L2.Key × V)} (m : Memo es kvs) {L : Lay} {v : V} (h : valV kvs (L.map kO) = some v) : v = .int (cnt es L) := by
  unfold valV at h
  obtain ⟨kv, h1, rfl⟩ := Option.map_eq_some_iff.mp h
  have hk : kv.1 = L.map kO := by simpa using List.find?_some h1
  obtain ⟨S, e1, e2⟩ := m kv (List.mem_of_find?_eq_some h1)
  rw [e1] at hk
  rw [e2, kOs_inj hk]
theorem memo_put {es : List Edge} {kvs : List (List L2.Key × V)} (m : Memo es kvs) (L : Lay) : Memo es (putK kvs (L.map kO) (.int (cnt es L))) := by
  intro kv h
  unfold putK at h
  split at h
  · obtain ⟨kv0, h0, rfl⟩ := List.mem_map.mp h
    by_cases e : kv0.1 = L.map kO
    · rw [if_pos e]; exact ⟨L, e, rfl⟩
    · rw [if_neg e]; exact m kv0 h0
  · rcases List.mem_append.mp h with h | h
    · exact m kv h
    · rw [List.mem_singleton.mp h]; exact ⟨L, rfl, rfl⟩
theorem putK_le {κ : Type} [DecidableEq κ] (kvs : List (κ × V)) (k : κ) (v : V) : (putK kvs k v).length ≤ kvs.length + 1 := by
  unfold putK
  split
  · rw [List.length_map]; omega
  · rw [List.length_append]; exact Nat.le_refl _
/-- how many entries a count of so many coins may make -/
def room : Nat → Nat
  | 0 => 0
  | m + 1 => 6 * room m + 1
theorem room7 : room 7 ≤ 100000 := by decide
theorem room_mono (m : Nat) : room m ≤ room (m + 1) := by show room m ≤ 6 * room m + 1; omega
theorem big_ok {n : Nat} (h : n ≤ 1000000) : n < sizeLine := Nat.lt_of_le_of_lt h (by decide)
theorem filt_take_in {L : Lay} {i : Nat} {o : Option Bool} (h : L[i]? = some o) (hs : o.isSome = true) : (L.take (i + 1)).filter Option.isSome = (L.take i).filter Option.isSome ++ [o] := by
  rw [List.take_add_one, h, List.filter_append]
  show _ ++ List.filter _ [o] = _
  rw [List.filter_cons_of_pos hs, List.filter_nil]
theorem filt_take_out {L : Lay} {i : Nat} {o : Option Bool} (h : L[i]? = some o) (hs : ¬ o.isSome = true) : (L.take (i + 1)).filter Option.isSome = (L.take i).filter Option.isSome := by
  rw [List.take_add_one, h, List.filter_append]
  show _ ++ List.filter _ [o] = _
  rw [List.filter_cons_of_neg hs, List.filter_nil, List.append_nil]
theorem filt_lives (L : Lay) : (L.filter Option.isSome).length = lives L := by
  unfold lives
  rw [← List.countP_eq_length_filter]
  have e : L = (List.range L.length).map (staL L) := by
    apply List.ext_getElem
    · rw [List.length_map, List.length_range]
    · intro i h1 h2
      rw [List.getElem_map, List.getElem_range]
      unfold staL
      rw [List.getD_eq_getElem?_getD, List.getElem?_eq_getElem h1]; rfl
  conv => lhs; rw [e]
  rw [List.countP_map]
  rfl
theorem take_map_snoc {α β : Type} {l : List α} {f : α → β} {i : Nat} {x : α} (h : l[i]? = some x) : (l.take (i + 1)).map f = (l.take i).map f ++ [f x] := by
  rw [List.take_add_one, h, List.map_append]; rfl
theorem lives_le (L : Lay) : lives L ≤ L.length := by
  unfold lives
  have := List.countP_le_length (p := fun i => (staL L i).isSome) (l := List.range L.length)
  rw [List.length_range] at this
  exact this
theorem hd_le (L : Lay) : (hd L).length ≤ L.length := by
  unfold hd
  have := List.length_filter_le (fun i => decide (staL L i = some true)) (List.range L.length)
  rw [List.length_range] at this
  exact this
section
variable {P : Program} {w : World} {K : PySem.W.Frag} {mg : Str → Option Value} {base : Heap}
/-! ### count_in -/
abbrev s_count_in : Stmt := topS 25
theorem sc_count_in : FnScope ["web", "laying", "known", "key", "one", "k"] ["web", "laying", "known"] (defScope s_count_in) := ⟨rfl, rfl, rfl, by decide +kernel, rfl, by decide +kernel, by decide +kernel⟩
def sp_count_in (m : Nat) : Sp := fun vs H Q _ => ∃ (p a d : Addr) (n : Nat) (es : List Edge) (L : Lay) (kvs : List (List L2.Key × V)), vs = [.ref p, .ref a, .ref d] ∧ WebAt H p n es ∧ IsWeb n es ∧ H a = some (.tup (L.map cP)) ∧ L.length = n ∧ lives L < m ∧
  H d = some (.dT kvs) ∧ Memo es kvs ∧ kvs.length + room m ≤ 1000000 ∧
  ∀ (H' : Hp) (kvs' : List (List L2.Key × V)), SameB d H H' → H' d = some (.dT kvs') → Memo es kvs' → kvs'.length ≤ kvs.length + room m → Q (.int (cnt es L)) H'
theorem ok_count_in {f : Addr} {fd : FuncData} (B : Bi mg) (D_heads_in : THeads P w K mg base) (D_taken_in : TTaken P w K mg base) (F : Fun K "count_in" "count_in" s_count_in f fd) (b : Binds K fd ["web", "laying", "known"] []) (mF : mg "count_in" = some (.ref f)) :
    ∀ m : Nat, FnOk P w K mg base CX0 (m + 2) f fd ["web", "laying", "known"] (sp_count_in m)
  | 0 => by
    have no : ∀ vs H Q E, ¬ sp_count_in 0 vs H Q E := fun vs H Q E h => by
      obtain ⟨p, a, d, n, es, L, kvs, _, _, _, _, _, h1, _⟩ := h
      omega
    exact ⟨fun vs H Q E h => absurd h (no vs H Q E), fun A outer s H args us vs Q E _ _ _ _ h => absurd h (no vs H Q E)⟩
  | m + 1 => by
    have D_count_in : Df P w K mg base "count_in" (m + 2) ["web", "laying", "known"] (sp_count_in m) := ⟨f, fd, ok_count_in B D_heads_in D_taken_in F b mF m, b, F.kp, mF⟩
    refine F.ok sc_count_in (fun vs H Q E h => ?_) (fun cdv A outer s H vs Q E hr h => ?_)
    · obtain ⟨p, a, d, n, es, L, kvs, rfl, _⟩ := h
      rfl
    obtain ⟨p, a, d, n, es, L, kvs, rfl, W0, J, hL, hn, hm, hd0, M0, hsz, q⟩ := h
    have hu := hu_of hr
    have h6 := J.le
    refine ⟨_, (pss_cons (ps_if (pt_cmpR (kx_eqD K rfl hr.units) (pe_lc (own := [("one", 4)]) (g := gName 4) (by rfl) sc_count_in.nd (kx_pi_tup K rfl (pv 1)) (blkOk_by (own := [("one", 4)]) (N := ["web", "laying", "known", "key", "one", "k"]) (sc := defScope s_count_in) (by decide +kernel)) (fun _ _ _ _ _ => (pg_name (i := 4) sc_count_in.nd rfl (Or.inl rfl))) (fun _ _ _ _ _ => pts_one (pt_cmpR op_notN (pv 4) pe_non (nomark _))) (fun _ _ _ _ _ => (pv 4))) (pe_lst pa_nil) (nomark _))
      (pss_one (ps_ret pe_int))
      pss_nil)
    (pss_cons (ps_set (i := 3) sc_count_in.nd rfl (Or.inl rfl) (pe_callTy (kx_tuple_of K rfl) (by rfl) B.tuple (by decide +kernel) (pa_cons (pe_lc (own := [("one", 4)]) (g := gName 4) (tt := tYes) (by rfl) sc_count_in.nd (kx_pi_tup K rfl (pv 1)) (blkOk_by (own := [("one", 4)]) (N := ["web", "laying", "known", "key", "one", "k"]) (sc := defScope s_count_in) (by decide +kernel)) (fun _ _ _ _ _ => (pg_name (i := 4) sc_count_in.nd rfl (Or.inl rfl))) (fun _ _ _ _ _ => pts_nil) (fun _ _ _ _ _ => (pe_ifExp (pt_cmpR op_isN (pv 4) pe_non (nomark _)) pe_int (pv 4)))) pa_nil)))
    (pss_cons (ps_if (pt_cmp (pc_dnotin hu (pv 3) (pv 2)))
      (pss_one (ps_dput hu (pv 2) (pv 3) (pe_callB (kx_sum K rfl rfl) (by rfl) B.sum (by decide +kernel) (pa_cons (pe_lc (own := [("k", 5)]) (g := gName 5) (tt := tYes) (by rfl) sc_count_in.nd (kx_pi_list K rfl (pe_df D_heads_in (hr.mono (by omega)) (by rfl) (pa_cons (pv 1) pa_nil))) (blkOk_by (own := [("k", 5)]) (N := ["web", "laying", "known", "key", "one", "k"]) (sc := defScope s_count_in) (by decide +kernel)) (fun _ _ _ _ _ => (pg_name (i := 5) sc_count_in.nd rfl (Or.inl rfl))) (fun _ _ _ _ _ => pts_nil) (fun _ _ _ _ _ => (pe_df D_count_in (hr.mono (by omega)) (by rfl) (pa_cons (pv 0) (pa_cons (pe_df D_taken_in (hr.mono (by omega)) (by rfl) (pa_cons (pv 0) (pa_cons (pv 1) (pa_cons (pv 5) pa_nil)))) (pa_cons (pv 2) pa_nil)))))) pa_nil)) rfl))
      pss_nil)
    (pss_one (ps_ret (pe_dget hu (pv 2) (pv 3) (fun _ _ => rfl))))))), ?_⟩
    have nda : a ≠ d := fun e => by rw [e, hd0] at hL; cases hL
    refine ⟨_, rfl, a, rfl, ⟨_, SqT.of hL⟩, fun D hD => ?_⟩
    refine lc_tup (K := K) (a := a) (xs := L.map cP) (fun i H' => Same H H' ∧ H' D = some (.lst (((L.take i).filter Option.isSome).map cP))) ⟨same_upd hD, upd_same⟩ (fun i H' _ z => SqT.of (z.1 _ _ hL)) ?_ ?_
    · rintro i x H1 hx ⟨sm, hDl⟩
      obtain ⟨o, ho, rfl⟩ := map_at hx
      refine ⟨rfl, _, rfl, rfl, _, rfl, ite2 (fun c => ?_) (fun c => ?_)⟩
      · have c' : o.isSome = true := by
          cases o with
          | none => simp [cP] at c
          | some b => rfl
        refine ⟨_, rfl, _, hDl, ?_, ?_, ?_⟩
        · rw [List.length_map]
          refine small1000 (Nat.le_trans (List.length_filter_le _ _) ?_)
          rw [List.length_take]; omega
        · intro b' o' e'
          rw [upd_ne (ne_of_none e' hD)]; exact sm _ _ e'
        · rw [upd_same, filt_take_in ho c', List.map_append]; rfl
      · have c' : ¬ o.isSome = true := by
          cases o with
          | none => simp
          | some b => simp [cP] at c
        exact ⟨sm, by rw [filt_take_out ho c']; exact hDl⟩
    · rintro H1 ⟨sm1, hDl⟩
      rw [List.length_map, List.take_length] at hDl
      refine ⟨Nat.zero_le _, fun e0 ne0 => ?_⟩
      have sm2 := sm_upd (o := .lst []) sm1 (sm1.free ne0)
      have nDe : D ≠ e0 := ne_of_none hDl ne0
      refine ⟨.list ((L.filter Option.isSome).map dO), .list [], .lst (SqL.of (by rw [upd_ne nDe]; exact hDl)) (dp_map dp_cP _), .lst (SqL.of upd_same) .nil, shaped_flat (fl_dO _), shaped_nil, ?_⟩
      refine ⟨_, rfl, ?_⟩
      rw [eqv_nil]
      refine ite2 (fun c => ?_) (fun c => ?_)
      · have c1 : (L.filter Option.isSome).map dO = [] := of_decide_eq_true c
        have c2 : lives L = 0 := by
          rw [← filt_lives, List.map_eq_nil_iff.mp c1]; rfl
        have := q _ kvs (SameB.of sm2) (sm2 _ _ hd0) M0 (by omega)
        rw [cnt_zero c2] at this
        exact this
      · have c2 : lives L ≠ 0 := fun z => c (decide_eq_true (by
          rw [← filt_lives] at z
          rw [List.eq_nil_of_length_eq_zero z]; rfl))
        -- the key
        refine ⟨_, rfl, a, rfl, ⟨_, SqT.of (sm2 _ _ hL)⟩, fun D2 hD2 => ?_⟩
        refine lcY_tup (K := K) (a := a) (xs := L.map cP) (fun i H' => Same H H' ∧ H' D2 = some (.lst ((L.take i).map cL))) ⟨sm_upd sm2 (sm2.free hD2), upd_same⟩ (fun i H' _ z => SqT.of (z.1 _ _ hL)) ?_ ?_
        · rintro i x H2 hx ⟨sm, hDl⟩
          obtain ⟨o, ho, rfl⟩ := map_at hx
          refine ⟨rfl, ?_⟩
          have fin : ∃ acc, H2 D2 = some (.lst acc) ∧ acc.length < sizeLine ∧ (Same H (upd H2 D2 (.lst (acc ++ [cL o]))) ∧ upd H2 D2 (.lst (acc ++ [cL o])) D2 = some (.lst ((L.take (i + 1)).map cL))) := by
            refine ⟨_, hDl, ?_, ?_, ?_⟩
            · rw [List.length_map, List.length_take]; exact small1000 (by omega)
            · intro b' o' e'
              rw [upd_ne (ne_of_none e' (sm2.free hD2))]; exact sm _ _ e'
            · rw [upd_same, take_map_snoc ho]
          refine ⟨_, rfl, rfl, _, rfl, ite2 (fun c => ?_) (fun c => ?_)⟩
          · have c' : o = none := cP_none.mp (of_decide_eq_true c)
            subst c'
            exact fin
          · have c' : o ≠ none := fun z => c (by subst z; rfl)
            refine ⟨_, rfl, ?_⟩
            cases o with
            | none => exact absurd rfl c'
            | some b => exact fin
        · rintro H2 ⟨sm, hDl⟩
          rw [List.length_map, hn, ← hn, List.take_length] at hDl
          refine ⟨D2, _, rfl, .inl ⟨SqL.of hDl, fun t nt => ?_⟩⟩
          have sm3 := sm_upd (o := .tup (L.map cL)) sm (sm.free nt)
          have ekey : (L.map kO).map kV = L.map cL := by rw [List.map_map]; exact List.map_congr_left fun o _ => kV_kO o
          have hkey : (upd H2 t (.tup (L.map cL))) t = some (.tup ((L.map kO).map kV)) := by rw [upd_same, ekey]
          have ntd : t ≠ d := (ne_of_none (sm _ _ hd0) nt).symm
          refine ⟨_, rfl, _, rfl, d, _, rfl, DGet.t (sm3 _ _ hd0) hkey, _, rfl, ?_⟩
          cases hv : valV kvs (L.map kO) with
          | some v =>
            refine iteF ?_
            refine ⟨_, rfl, _, rfl, d, v, rfl, by rw [← hv]; exact DGet.t (sm3 _ _ hd0) hkey, ?_⟩
            have ev := memo_get M0 hv
            subst ev
            exact q _ kvs (SameB.of sm3) (sm3 _ _ hd0) M0 (by omega)
          | none =>
            refine iteT ?_
            -- the heads
            refine ⟨_, rfl, a, L, rfl, sm3 _ _ hL, by omega, fun H4 hl s4 nhl hhl => ?_⟩
            have sm4 := sm3.trans s4
            refine ⟨hl, rfl, ⟨_, SqL.of hhl⟩, fun D3 hD3 => ?_⟩
            have nld : hl ≠ d := (ne_of_none (sm3 _ _ hd0) nhl).symm
            have n3d : D3 ≠ d := (ne_of_none (sm4 _ _ hd0) hD3).symm
            have n3l : hl ≠ D3 := ne_of_none hhl hD3
            have hroom : room (m + 1) = 6 * room m + 1 := rfl
            have hdle := hd_le L
            refine lcY_list (K := K) (a := hl) (xs := (hd L).map nI) (fun i H' => SameB d H H' ∧ H' hl = some (.lst ((hd L).map nI)) ∧ H' t = some (.tup ((L.map kO).map kV)) ∧ H' D3 = some (.lst ((((hd L).take i).map fun k => cnt es (tkL es L k)).map V.int)) ∧
                ∃ kvs', H' d = some (.dT kvs') ∧ Memo es kvs' ∧ kvs'.length ≤ kvs.length + i * room m)
              ⟨SameB.of (sm_upd sm4 (sm4.free hD3)), by rw [upd_ne n3l]; exact hhl, by rw [upd_ne (ne_of_none (s4 _ _ hkey) hD3)]; exact s4 _ _ hkey, upd_same, kvs, by rw [upd_ne n3d.symm]; exact sm4 _ _ hd0, M0, by omega⟩
              (fun i H' _ z => SqL.of z.2.1) ?_ ?_
            · rintro i x H5 hx ⟨sb, hhl5, hk5, hD5, kvs5, hd5, M5, hle5⟩
              obtain ⟨k, hk, rfl⟩ := map_at hx
              have hi : i < (hd L).length := (List.getElem?_eq_some_iff.mp hk).1
              have hkm : staL L k = some true := mem_hd.mp (List.mem_of_getElem? hk)
              have hkn : k < n := by have := staL_lt hkm; omega
              have nad : a ≠ d := nda
              have nqd : ∀ (c : Addr) (o : HO), H c = some o → (∀ kv, o ≠ .dT kv) → c ≠ d := fun c o e ne z => by
                rw [z, hd0] at e; exact ne kvs (Option.some.inj e).symm
              have W5 : WebAt H5 p n es := by
                obtain ⟨qa, as, h1, h2, h3⟩ := W0
                refine ⟨qa, as, sb _ _ (nqd _ _ h1 fun _ z => by cases z) h1, sb _ _ (nqd _ _ h2 fun _ z => by cases z) h2, paired_imp h3 fun c e z => sb _ _ (nqd _ _ z fun _ z => by cases z) z⟩
              refine ⟨rfl, ?_⟩
              refine ⟨_, rfl, _, rfl, _, rfl, _, rfl, p, a, n, k, es, L, rfl, W5, J, sb _ _ nad hL, hn, hkn, fun H6 r s6 nr hr6 => ?_⟩
              refine ⟨_, rfl, p, r, d, n, es, tkL es L k, kvs5, rfl, W5.same s6, J, hr6, by rw [len_tkL, hn], ?_, s6 _ _ hd5, M5, ?_, fun H7 kvs7 sb7 hd7 M7 hle7 => ?_⟩
              · have := lives_tk (es := es) hkm
                omega
              · have : i * room m ≤ 5 * room m := Nat.mul_le_mul_right _ (by omega)
                omega
              · have hD7 : H7 D3 = some (.lst ((((hd L).take i).map fun k => cnt es (tkL es L k)).map V.int)) := sb7 _ _ n3d (s6 _ _ hD5)
                refine ⟨_, hD7, ?_, ?_, ?_, ?_, ?_, kvs7, ?_, M7, ?_⟩
                · rw [List.length_map, List.length_map, List.length_take]; exact small1000 (by omega)
                · intro b' o' nb' e'
                  have : b' ≠ D3 := ne_of_none (sm4 _ _ e') hD3
                  rw [upd_ne this]
                  exact sb7 _ _ nb' (s6 _ _ (sb _ _ nb' e'))
                · rw [upd_ne n3l]; exact sb7 _ _ nld (s6 _ _ hhl5)
                · rw [upd_ne (ne_of_none (s4 _ _ hkey) hD3)]; exact sb7 _ _ ntd (s6 _ _ hk5)
                · rw [upd_same, take_map_snoc hk, List.map_append]; rfl
                · rw [upd_ne n3d.symm]; exact hd7
                · rw [Nat.succ_mul]; omega
            · rintro H5 ⟨sb, hhl5, hk5, hD5, kvs5, hd5, M5, hle5⟩
              rw [List.length_map] at hle5
              rw [List.length_map, List.take_length] at hD5
              refine ⟨D3, _, rfl, SqL.of hD5, ?_⟩
              have hle6 : kvs5.length ≤ kvs.length + 6 * room m := by
                have : (hd L).length * room m ≤ 6 * room m := Nat.mul_le_mul_right _ (by omega)
                omega
              refine ⟨_, rfl, _, rfl, d, _, rfl, DPut.t hd5 hk5 (big_ok (by omega)), ?_⟩
              have ec : ((hd L).map fun k => cnt es (tkL es L k)).sum = cnt es L := (cnt_step c2).symm
              rw [ec]
              refine ⟨_, rfl, _, rfl, d, .int (cnt es L), rfl, ?_, ?_⟩
              · have g := DGet.t (a := d) (b := t) (kvs := putK kvs5 (L.map kO) (.int (cnt es L))) (k := L.map kO) (H := upd H5 d (.dT (putK kvs5 (L.map kO) (.int (cnt es L))))) upd_same (by rw [upd_ne ntd]; exact hk5)
                rw [valV_put, if_pos rfl] at g
                exact g
              · refine q _ _ (sb.trans SameB.upd) upd_same (memo_put M5 L) ?_
                have := putK_le kvs5 (L.map kO) (.int (cnt es L))
                omega
abbrev TCount (P : Program) (w : World) (K : PySem.W.Frag) (mg : Str → Option Value) (base : Heap) : Prop := Df P w K mg base "count_in" 9 ["web", "laying", "known"] (sp_count_in 7)
end
end K23P

namespace K23P
open PySem PySem.Spec PyProof.Rows L2 K23 K23R
/-! ### a comprehension of two fors, the second one over a written tuple -/
theorem in_tup {K : PySem.W.Frag} {a : Addr} {ys : List V} {g1 : TG} {te : TE} {vs1 : List Nat} {σ2 : L2.St} {H4 : Hp} {D : Addr} {Nx : Hp → Prop} (P1 : Nat → Hp → Prop) (h0 : P1 0 H4) (hl : ∀ j H, j ≤ ys.length → P1 j H → SqT K H a ys)
    (hs : ∀ j x H, ys[j]? = some x → P1 j H → g1 x (wipe σ2 vs1) H fun σ3 H5 => wipe σ3 vs1 = wipe σ2 vs1 ∧ te σ3 H5 fun y H7 => ∃ acc, H7 D = some (.lst acc) ∧ acc.length < sizeLine ∧ P1 (j + 1) (upd H7 D (.lst (acc ++ [y])))) (hd : ∀ H, P1 ys.length H → Nx H) :
    ∃ W1 : Nat → Nat → Hp → Prop, (∃ m, W1 0 m H4) ∧ ∀ j k H, W1 j k H →
      ((Itt K a).stop j H ∧ Nx H) ∨ ((Itt K a).go j H ∧ ∃ Nx1 : Hp → Prop, (∀ H', Nx1 H' → ∃ k', k' < k ∧ W1 (j + 1) k' H') ∧ ∀ x H', (Itt K a).yld j H x H' → g1 x (wipe σ2 vs1) H' fun σ3 H5 => wipe σ3 vs1 = wipe σ2 vs1 ∧ tYes σ3 H5 fun b H6 =>
        if b = true then te σ3 H6 fun y H7 => ∃ acc, H7 D = some (.lst acc) ∧ acc.length < sizeLine ∧ Nx1 (upd H7 D (.lst (acc ++ [y]))) else Nx1 H6) := by
  refine ⟨fun j k H => k = ys.length - j ∧ j ≤ ys.length ∧ P1 j H, ⟨ys.length, by simp, Nat.zero_le _, h0⟩, ?_⟩
  rintro i m H ⟨rfl, hi, p⟩
  have q := hl i H hi p
  by_cases hlt : i < ys.length
  · refine .inr ⟨⟨ys, ys[i], q, by simp [hlt]⟩, P1 (i + 1), fun H' p' => ⟨ys.length - (i + 1), by omega, rfl, hlt, p'⟩, fun x H' y => ?_⟩
    obtain ⟨e, y⟩ := y
    subst e
    exact hs i x _ (y ys q) p
  · have e : i = ys.length := by omega
    subst e
    exact .inl ⟨⟨ys, q, Nat.le_refl _⟩, hd H p⟩
def AllAt (H : Hp) (as : List Addr) (Ls : List (List Bool)) : Prop := Paired (FullAt H) as Ls
theorem AllAt.sb {d : Addr} {H H' : Hp} {as : List Addr} {Ls : List (List Bool)} (s : SameB d H H') (hd : ∀ xs, H d ≠ some (.tup xs)) (h : AllAt H as Ls) : AllAt H' as Ls :=
  paired_imp h fun a L z => s a _ (fun e => hd _ (by rw [← e]; exact z)) z
theorem AllAt.same {H H' : Hp} {as : List Addr} {Ls : List (List Bool)} (s : Same H H') (h : AllAt H as Ls) : AllAt H' as Ls := paired_imp h fun a L z => s _ _ z
theorem paired_snoc {α β : Type} {F : α → β → Prop} {l : List α} {m : List β} {a : α} {b : β} (h : Paired F l m) (k : F a b) : Paired F (l ++ [a]) (m ++ [b]) := by
  induction h with
  | nil => exact .cons k .nil
  | cons h _ ih => exact .cons h ih
def grow (L : List Bool) : List (List Bool) := [L ++ [false], L ++ [true]]
theorem grow_allLay (n : Nat) : allLay (n + 1) = (allLay n).flatMap grow := rfl
theorem flat_take {Ls : List (List Bool)} {j : Nat} {L : List Bool} (h : Ls[j]? = some L) : (Ls.take (j + 1)).flatMap grow = (Ls.take j).flatMap grow ++ grow L := by
  rw [List.take_add_one, h, List.flatMap_append]; rfl
theorem flat_len : ∀ Ls : List (List Bool), (Ls.flatMap grow).length = 2 * Ls.length
  | [] => rfl
  | L :: Ls => by rw [List.flatMap_cons, List.length_append, flat_len Ls, List.length_cons]; show 2 + _ = _; omega
theorem cb_snoc (L : List Bool) (b : Bool) : (L ++ [b]).map cb = L.map cb ++ [cb b] := by rw [List.map_append]; rfl
section
variable {P : Program} {w : World} {K : PySem.W.Frag} {mg : Str → Option Value} {base : Heap}
/-! ### full_layings -/
abbrev s_full_layings : Stmt := topS 27
theorem sc_full_layings : FnScope ["many", "found", "k", "one", "coin"] ["many"] (defScope s_full_layings) := ⟨rfl, rfl, rfl, by decide +kernel, rfl, by decide +kernel, by decide +kernel⟩
def sp_full_layings : Sp := fun vs H Q _ => ∃ n : Nat, vs = [nI n] ∧ n ≤ 6 ∧ ∀ (H' : Hp) (r : Addr) (as : List Addr), Same H H' → H r = none → H' r = some (.lst (as.map V.ref)) → AllAt H' as (allLay n) → Q (.ref r) H'
theorem ok_full_layings {f : Addr} {fd : FuncData} (B : Bi mg) (F : Fun K "full_layings" "full_layings" s_full_layings f fd) :
    FnOk P w K mg base CX0 1 f fd ["many"] sp_full_layings := by
  refine F.ok sc_full_layings (fun vs H Q E h => ?_) (fun cdv A outer s H vs Q E hr h => ?_)
  · obtain ⟨n, rfl, _⟩ := h
    rfl
  obtain ⟨n, rfl, h6, q⟩ := h
  refine ⟨_, (pss_cons (ps_set (i := 1) sc_full_layings.nd rfl (Or.inl rfl) (pe_lst (pa_cons (pe_tup pa_nil) pa_nil)))
    (pss_cons (ps_for PassesOwn.never rfl (pi_range1 (by rfl) B.range (pa_cons (pv 0) pa_nil)) (pg_name (i := 2) sc_full_layings.nd rfl (Or.inl rfl))
      (pss_one (ps_setLc2 (i := 1) (own := [("one", 3), ("coin", 4)]) (g := gName 3) (tt := tYes) (g1 := gName 4) (tt1 := tYes) (vs1 := [4]) rfl sc_full_layings.nd rfl rfl (sw_true rfl rfl rfl (by decide +kernel)) (kx_pi_list K rfl (pv 1)) (blkOk_by (own := [("one", 3), ("coin", 4)]) (N := ["many", "found", "k", "one", "coin"]) (sc := defScope s_full_layings) (by decide +kernel)) (by decide) (fun _ _ _ _ _ => (pg_name (i := 3) sc_full_layings.nd rfl (Or.inl rfl))) (fun _ _ _ _ _ => pts_nil) (fun _ _ _ _ _ => (kx_pi_tup K rfl (pe_tup (pa_cons pe_int (pa_cons pe_int pa_nil))))) (fun _ _ _ _ _ => (pg_name (i := 4) sc_full_layings.nd rfl (Or.inl rfl))) (fun _ _ _ _ _ => pts_nil) (fun _ _ _ _ _ => (pe_op (kx_catT K rfl) (pv 3) (pe_tup (pa_cons (pv 4) pa_nil)))))))
    (pss_one (ps_ret (pv 1))))), ?_⟩
  refine ⟨(by show 0 ≤ sizeLine; decide), fun t0 n0 => ?_⟩
  have s0 : Same H (upd H t0 (.tup [])) := same_upd n0
  refine ⟨(by show 1 ≤ sizeLine; decide), fun l0 nl0 => ?_⟩
  have s1 := sm_upd (o := .lst [.ref t0]) s0 (s0.free nl0)
  refine ⟨_, rfl, n, rfl, by omega, by omega, ?_⟩
  refine for_range (lo := 0) (n := (n : Int).toNat) (fun i σ H' => ∃ (l : Addr) (as : List Addr) (y : Option V), σ = [some (nI n), some (.ref l), y, none, none] ∧ Same H H' ∧ H l = none ∧ H' l = some (.lst (as.map V.ref)) ∧ AllAt H' as (allLay i))
    ⟨l0, [t0], none, rfl, s1, s0.free nl0, upd_same, .cons (by
      have : l0 ≠ t0 := fun e => by rw [e, upd_same] at nl0; cases nl0
      show (upd _ l0 _) t0 = _
      rw [upd_ne this.symm, upd_same]; rfl) .nil⟩ ?_ ?_
  · rintro i σ H1 hi ⟨l, as, y, rfl, sm, nl, hl, hA⟩
    have hi6 : i < 6 := by omega
    refine ⟨_, rfl, l, rfl, ⟨_, SqL.of hl⟩, fun D hD => ?_⟩
    have nlD : l ≠ D := ne_of_none hl hD
    have h64 : (allLay i).length ≤ 32 := by
      rw [len_allLay]
      exact Nat.pow_le_pow_right (by decide) (show i ≤ 5 by omega)
    have noD : ∀ H2 : Hp, ∀ xs, (upd H2 D (.lst [])) D ≠ some (.tup xs) := fun H2 xs e => by rw [upd_same] at e; cases e
    refine ⟨fun j m H2 => m = (allLay i).length - j ∧ j ≤ (allLay i).length ∧ SameB D H1 H2 ∧ ∃ bs : List Addr, H2 D = some (.lst (bs.map V.ref)) ∧ AllAt H2 bs (((allLay i).take j).flatMap grow), ⟨(allLay i).length, by omega, Nat.zero_le _, SameB.of (same_upd hD), [], upd_same, .nil⟩, ?_⟩
    rintro j m H2 ⟨rfl, hj, sb, bs, hDs, hB⟩
    have hl2 : H2 l = some (.lst (as.map V.ref)) := sb _ _ nlD hl
    have hlen : as.length = (allLay i).length := paired_len hA
    by_cases hlt : j < (allLay i).length
    · refine .inr ⟨⟨as.map V.ref, .ref as[j], SqL.of hl2, by rw [List.getElem?_map, List.getElem?_eq_getElem (by omega)]; rfl⟩, fun H3 => SameB D H1 H3 ∧ ∃ bs : List Addr, H3 D = some (.lst (bs.map V.ref)) ∧ AllAt H3 bs (((allLay i).take (j + 1)).flatMap grow), fun H3 ⟨sb3, bs3, h3, hB3⟩ => ⟨(allLay i).length - (j + 1), by omega, rfl, hlt, sb3, bs3, h3, hB3⟩, ?_⟩
      rintro x H2' ⟨rfl, hx⟩
      obtain ⟨a, ha, rfl⟩ := map_ref_at (hx _ (SqL.of hl2))
      obtain ⟨L, hL, hF⟩ := paired_at hA j a ha
      have naD : a ≠ D := ne_of_none hF hD
      have hlb : bs.length = 2 * j := by
        rw [paired_len hB, flat_len, List.length_take]; omega
      have hL6 : L.length = i := mem_allLay.mp (List.mem_of_getElem? hL)
      refine ⟨rfl, ?_⟩
      refine ⟨(by show 2 ≤ sizeLine; decide), fun tt ntt => ?_⟩
      refine ⟨tt, rfl, ⟨_, SqT.of upd_same⟩, ?_⟩
      have nDt : D ≠ tt := ne_of_none hDs ntt
      have sb3 : SameB D H1 (upd H2' tt (.tup [.int 0, .int 1])) := fun b o nb e => by rw [upd_ne (ne_of_none (sb b o nb e) ntt)]; exact sb b o nb e
      refine in_tup (K := K) (a := tt) (ys := [.int 0, .int 1]) (fun c H3 => SameB D H1 H3 ∧ H3 tt = some (.tup [.int 0, .int 1]) ∧ ∃ bs : List Addr, H3 D = some (.lst (bs.map V.ref)) ∧ AllAt H3 bs (((allLay i).take j).flatMap grow ++ (grow L).take c))
        ⟨sb3, upd_same, bs, by rw [upd_ne nDt]; exact hDs, ?_⟩ (fun c H3 _ z => SqT.of z.2.1) ?_ ?_
      · rw [List.take_zero, List.append_nil]
        exact hB.same (same_upd ntt)
      · rintro c x H3 hx ⟨sb4, ht4, bs4, hD4, hB4⟩
        obtain ⟨b, rfl, hc⟩ : ∃ b : Bool, x = cb b ∧ (grow L).take (c + 1) = (grow L).take c ++ [L ++ [b]] := by
          match c, hx with
          | 0, hx => exact ⟨false, (Option.some.inj hx).symm, rfl⟩
          | 1, hx => exact ⟨true, (Option.some.inj hx).symm, rfl⟩
          | c + 2, hx => simp at hx
        have hlb4 : bs4.length ≤ 100 := by
          have := paired_len hB4
          rw [List.length_append, flat_len, List.length_take] at this
          have := List.length_take_le c (grow L)
          have e2 : (grow L).length = 2 := rfl
          have := List.length_take_le' c (grow L)
          omega
        refine ⟨rfl, ?_⟩
        refine ⟨_, rfl, _, rfl, (by show 1 ≤ sizeLine; decide), fun u nu => ?_⟩
        have hF4 : H3 a = some (.tup (L.map cb)) := sb4 _ _ naD hF
        have nau : a ≠ u := ne_of_none hF4 nu
        have nDu : D ≠ u := ne_of_none hD4 nu
        have fin : ∀ (r : Addr) (H5 : Hp), Same H3 H5 → H5 r = some (.tup ((L ++ [b]).map cb)) → ∃ acc, H5 D = some (.lst acc) ∧ acc.length < sizeLine ∧ SameB D H1 (upd H5 D (.lst (acc ++ [.ref r]))) ∧ upd H5 D (.lst (acc ++ [.ref r])) tt = some (.tup [.int 0, .int 1]) ∧
            ∃ bs : List Addr, upd H5 D (.lst (acc ++ [.ref r])) D = some (.lst (bs.map V.ref)) ∧ AllAt (upd H5 D (.lst (acc ++ [.ref r]))) bs (((allLay i).take j).flatMap grow ++ (grow L).take (c + 1)) := fun r H5 s5 hr5 => by
          have hD5 := s5 _ _ hD4
          have sb5 : SameB D H5 (upd H5 D (.lst (bs4.map V.ref ++ [.ref r]))) := SameB.upd
          have nD5 : ∀ xs, H5 D ≠ some (.tup xs) := fun xs e => by rw [hD5] at e; cases e
          refine ⟨_, hD5, small1000 (by rw [List.length_map]; omega), (sb4.trans (SameB.of s5)).trans sb5, sb5 _ _ nDt.symm (s5 _ _ ht4), bs4 ++ [r], by rw [upd_same, List.map_append]; rfl, ?_⟩
          rw [hc, ← List.append_assoc]
          refine AllAt.sb sb5 nD5 (paired_snoc (hB4.same s5) hr5)
        refine ⟨a, u, _, _, rfl, rfl, SqT.of (by rw [upd_ne nau]; exact hF4), SqT.of upd_same, ?_, fun e => ?_, fun _ e => absurd e (by simp), fun e _ p np => ?_⟩
        · rw [List.length_map, hL6]; exact small (by show i + 1 ≤ 1000; omega)
        · have e1 : L = [] := List.map_eq_nil_iff.mp e
          refine fin u _ (same_upd nu) ?_
          rw [upd_same, e1]; rfl
        · refine fin p _ (sm_upd (same_upd nu) ((same_upd nu).free np)) ?_
          rw [upd_same, cb_snoc]
      · rintro H3 ⟨sb4, _, bs4, hD4, hB4⟩
        refine ⟨sb4, bs4, hD4, ?_⟩
        rw [flat_take hL]
        exact hB4
    · have e : j = (allLay i).length := by omega
      subst e
      rw [List.take_length, ← grow_allLay] at hB
      refine .inl ⟨⟨_, SqL.of hl2, by rw [List.length_map]; omega⟩, D, bs, _, rfl, fun b o e => ?_, sm.free hD, hDs, hB⟩
      exact sb _ _ (ne_of_none (sm _ _ e) hD) (sm _ _ e)
  · rintro σ H1 ⟨l, as, y, rfl, sm, nl, hl, hA⟩
    rw [Int.toNat_natCast] at hA
    exact ⟨_, rfl, q H1 l as sm nl hl hA⟩
abbrev TFull (P : Program) (w : World) (K : PySem.W.Frag) (mg : Str → Option Value) (base : Heap) : Prop := Df P w K mg base "full_layings" 1 ["many"] sp_full_layings
end
end K23P

namespace K23P
open PySem PySem.Spec PyProof.Rows L2 K23 K23R
/-! ### the least of pairs -/
theorem ltIL_iff (a b : Int × List Int) : ltIL a b = if a.1 = b.1 then PySem.W.DatumOrd.lt (toIL a).2 (toIL b).2 else decide (a.1 < b.1) := rfl
theorem ltIL_le {a b : Int × List Int} (h : ltIL a b = true) : a.1 ≤ b.1 := by
  rw [ltIL_iff] at h
  split at h
  · omega
  · have := of_decide_eq_true h; omega
theorem ltIL_ge {a b : Int × List Int} (h : ltIL a b = false) : b.1 ≤ a.1 := by
  rw [ltIL_iff] at h
  split at h
  · omega
  · have := of_decide_eq_false h; omega
theorem minIL_fst : ∀ (xs : List (Int × List Int)) (x : Int × List Int), minIL x xs ∈ x :: xs ∧ ∀ y ∈ x :: xs, (minIL x xs).1 ≤ y.1
  | [], x => ⟨List.mem_cons_self, fun y hy => by rw [List.mem_singleton.mp hy]; exact Int.le_refl _⟩
  | y :: ys, x => by
    have e : minIL x (y :: ys) = minIL (if ltIL y x = true then y else x) ys := rfl
    obtain ⟨h1, h2⟩ := minIL_fst ys (if ltIL y x = true then y else x)
    rw [e]
    cases q : ltIL y x with
    | true =>
      rw [q, if_pos rfl] at h1 h2
      rw [if_pos rfl]
      refine ⟨List.mem_cons_of_mem _ h1, fun z hz => ?_⟩
      rcases List.mem_cons.mp hz with rfl | hz
      · exact Int.le_trans (h2 y List.mem_cons_self) (ltIL_le q)
      · exact h2 z hz
    | false =>
      rw [q, if_neg (by simp)] at h1 h2
      rw [if_neg (by simp)]
      refine ⟨?_, fun z hz => ?_⟩
      · rcases List.mem_cons.mp h1 with h | h
        · rw [h]; exact List.mem_cons_self
        · exact List.mem_cons_of_mem _ (List.mem_cons_of_mem _ h)
      · rcases List.mem_cons.mp hz with rfl | hz
        · exact h2 _ List.mem_cons_self
        · rcases List.mem_cons.mp hz with rfl | hz
          · exact Int.le_trans (h2 x List.mem_cons_self) (ltIL_ge q)
          · exact h2 z (List.mem_cons_of_mem _ hz)
def cost (pr : List Int) (L O : List Bool) : Int := ((ap L O).map fun k => pr.getD k 0).sum
def rowsOf (es : List Edge) (n : Nat) (L : List Bool) (pr : List Int) : List (Int × List Int) := (cl es n).map fun O => (cost pr L O, O.map bi)
def best : List (Int × List Int) → Int × List Int
  | [] => (0, [])
  | x :: xs => minIL x xs
theorem cost_ones {L O : List Bool} {n : Nat} (h : L.length = n) : cost (List.replicate n 1) L O = (ap L O).length := by
  unfold cost
  have : (ap L O).map (fun k => (List.replicate n (1 : Int)).getD k 0) = (ap L O).map fun _ => (1 : Int) := List.map_congr_left fun k hk => by
    have : k < n := by
      unfold ap at hk
      have := List.mem_range.mp (List.mem_filter.mp hk).1
      omega
    rw [List.getD_eq_getElem?_getD, List.getElem?_replicate, if_pos this]; rfl
  rw [this]
  generalize ap L O = l
  induction l with
  | nil => rfl
  | cons x l ih => rw [List.map_cons, List.sum_cons, ih, List.length_cons]; omega
theorem fewest_best {es : List Edge} {n : Nat} {L : List Bool} (g : Good n es) (h : L.length = n) : (best (rowsOf es n L (List.replicate n 1))).1 = fewest es n L := by
  have ne := cl_ne g
  unfold rowsOf
  cases hc : cl es n with
  | nil => exact absurd hc ne
  | cons O Os =>
    rw [List.map_cons]
    show (minIL _ _).1 = _
    obtain ⟨h1, h2⟩ := minIL_fst (Os.map fun O => (cost (List.replicate n 1) L O, O.map bi)) (cost (List.replicate n 1) L O, O.map bi)
    symm
    unfold fewest
    refine foldl_min (fun O => ((ap L O).length : Int)) _ _ _ (fun Z hZ => ?_) ?_ (.inr ?_)
    · rw [hc] at hZ
      have := h2 (cost (List.replicate n 1) L Z, Z.map bi) (List.mem_map (f := fun O => (cost (List.replicate n 1) L O, O.map bi)).mpr ⟨Z, hZ, rfl⟩)
      have e2 : (cost (List.replicate n 1) L Z, Z.map bi).1 = ((ap L Z).length : Int) := cost_ones h
      rw [e2] at this
      exact this
    · have := h2 (cost (List.replicate n 1) L O, O.map bi) List.mem_cons_self
      have e2 : (cost (List.replicate n 1) L O, O.map bi).1 = ((ap L O).length : Int) := cost_ones h
      rw [e2] at this
      have := ap_len L O
      omega
    · obtain ⟨Z, hZ, e⟩ := (List.mem_map (f := fun O => (cost (List.replicate n 1) L O, O.map bi)) (l := O :: Os)).mp h1
      refine ⟨Z, by rw [hc]; exact hZ, ?_⟩
      rw [← e, ← cost_ones h]
theorem filter_take_in {α : Type} {f : α → Bool} {l : List α} {i : Nat} {o : α} (h : l[i]? = some o) (hs : f o = true) : (l.take (i + 1)).filter f = (l.take i).filter f ++ [o] := by
  rw [List.take_add_one, h, List.filter_append]
  show _ ++ List.filter _ [o] = _
  rw [List.filter_cons_of_pos hs, List.filter_nil]
theorem filter_take_out {α : Type} {f : α → Bool} {l : List α} {i : Nat} {o : α} (h : l[i]? = some o) (hs : ¬ f o = true) : (l.take (i + 1)).filter f = (l.take i).filter f := by
  rw [List.take_add_one, h, List.filter_append]
  show _ ++ List.filter _ [o] = _
  rw [List.filter_cons_of_neg hs, List.filter_nil, List.append_nil]
theorem cb_inj {a b : Bool} : cb a = cb b ↔ a = b := by cases a <;> cases b <;> simp [cb, bi]
theorem getD_of {α : Type} {l : List α} {i : Nat} {x d : α} (h : l[i]? = some x) : l.getD i d = x := by rw [List.getD_eq_getElem?_getD, h]; rfl
section
variable {P : Program} {w : World} {K : PySem.W.Frag} {mg : Str → Option Value} {base : Heap}
/-! ### clearable_in -/
abbrev s_clearable_in : Stmt := topS 28
theorem sc_clearable_in : FnScope ["web", "laying"] ["web"] (defScope s_clearable_in) := ⟨rfl, rfl, rfl, by decide +kernel, rfl, by decide +kernel, by decide +kernel⟩
def sp_clearable_in : Sp := fun vs H Q _ => ∃ (p : Addr) (n : Nat) (es : List Edge), vs = [.ref p] ∧ WebAt H p n es ∧ IsWeb n es ∧ ∀ (H' : Hp) (r : Addr) (as : List Addr), Same H H' → H r = none → H' r = some (.lst (as.map V.ref)) → AllAt H' as (cl es n) → Q (.ref r) H'
theorem ok_clearable_in {f : Addr} {fd : FuncData} (D_full_layings : TFull P w K mg base) (D_count_in : TCount P w K mg base) (F : Fun K "clearable_in" "clearable_in" s_clearable_in f fd) :
    FnOk P w K mg base CX0 10 f fd ["web"] sp_clearable_in := by
  refine F.ok sc_clearable_in (fun vs H Q E h => ?_) (fun cdv A outer s H vs Q E hr h => ?_)
  · obtain ⟨p, n, es, rfl, _⟩ := h
    rfl
  obtain ⟨p, n, es, rfl, W0, J, q⟩ := h
  have h6 := J.le
  refine ⟨_, (pss_one (ps_ret (pe_lc (own := [("laying", 1)]) (g := gName 1) (by rfl) sc_clearable_in.nd (kx_pi_list K rfl (pe_df D_full_layings (hr.mono (by omega)) (by rfl) (pa_cons (pe_ix (kx_ix_tup K rfl) (pv 0) pe_int (fun _ _ => rfl)) pa_nil))) (blkOk_by (own := [("laying", 1)]) (N := ["web", "laying"]) (sc := defScope s_clearable_in) (by decide +kernel)) (fun _ _ _ _ _ => (pg_name (i := 1) sc_clearable_in.nd rfl (Or.inl rfl))) (fun _ _ _ _ _ => pts_one (pt_cmpR op_gt (pe_df D_count_in (hr.mono (by omega)) (by rfl) (pa_cons (pv 0) (pa_cons (pv 1) (pa_cons pe_dnewT pa_nil)))) pe_int (nomark _))) (fun _ _ _ _ _ => (pv 1))))), ?_⟩
  obtain ⟨qa, ea, h1, h2, h3⟩ := id W0
  refine ⟨_, rfl, p, _, _, _, rfl, rfl, SqT.of h1, atI_nat (j := 0) rfl, n, rfl, h6, fun H1 r0 as s1 nr0 hr0 hA => ?_⟩
  refine ⟨r0, rfl, ⟨_, SqL.of hr0⟩, fun D hD => ?_⟩
  have hlen : as.length = (allLay n).length := paired_len hA
  have h64 : (allLay n).length ≤ 64 := by rw [len_allLay]; exact Nat.pow_le_pow_right (by decide) h6
  have nrD : r0 ≠ D := ne_of_none hr0 hD
  refine lc_list (K := K) (a := r0) (xs := as.map V.ref) (fun i H' => Same H1 H' ∧ ∃ bs : List Addr, H' D = some (.lst (bs.map V.ref)) ∧ AllAt H' bs (((allLay n).take i).filter fun l => decide (0 < cnt es (l.map some))))
    ⟨same_upd hD, [], upd_same, .nil⟩ (fun i H' _ z => SqL.of (z.1 _ _ hr0)) ?_ ?_
  · rintro i x H2 hx ⟨sm, bs, hDs, hB⟩
    obtain ⟨a, ha, rfl⟩ := map_ref_at hx
    obtain ⟨L, hL, hF⟩ := paired_at hA i a ha
    have hL6 : L.length = n := mem_allLay.mp (List.mem_of_getElem? hL)
    have hib : i < (allLay n).length := (List.getElem?_eq_some_iff.mp hL).1
    refine ⟨rfl, ?_⟩
    refine ⟨_, rfl, _, rfl, fun d nd => ?_⟩
    have sd : Same H2 (upd H2 d (.dT [])) := same_upd nd
    have nDd : D ≠ d := ne_of_none hDs nd
    refine ⟨p, a, d, n, es, L.map some, [], rfl, W0.same (s1.trans (sm.trans sd)), J, ?_, by rw [List.length_map, hL6], ?_, upd_same, memo_nil es, ?_, fun H3 kvs sb3 _ _ _ => ?_⟩
    · rw [cP_full]; exact sd _ _ (sm _ _ hF)
    · have := lives_le (L.map some)
      rw [List.length_map] at this
      omega
    · show 0 + room 7 ≤ 1000000
      have := room7
      omega
    have s3 : Same H2 H3 := fun b o e => sb3 b o (ne_of_none e nd) (sd _ _ e)
    refine ⟨_, _, rfl, rfl, _, rfl, ite2 (fun c => ?_) (fun c => ?_)⟩
    · have hD3 := s3 _ _ hDs
      have sb4 : SameB D H3 (upd H3 D (.lst (bs.map V.ref ++ [.ref a]))) := SameB.upd
      have hlb : bs.length ≤ 64 := by
        rw [paired_len hB]
        refine Nat.le_trans (List.length_filter_le _ _) ?_
        rw [List.length_take]; omega
      refine ⟨_, rfl, _, hD3, small1000 (by rw [List.length_map]; omega), fun b o e => ?_, bs ++ [a], by rw [upd_same, List.map_append]; rfl, ?_⟩
      · rw [upd_ne (ne_of_none e hD)]; exact s3 _ _ (sm _ _ e)
      · rw [filter_take_in hL c]
        exact AllAt.sb sb4 (fun xs e => by rw [hD3] at e; cases e) (paired_snoc (hB.same s3) (s3 _ _ (sm _ _ hF)))
    · refine ⟨sm.trans s3, bs, s3 _ _ hDs, ?_⟩
      rw [filter_take_out hL c]
      exact hB.same s3
  · rintro H2 ⟨sm, bs, hDs, hB⟩
    rw [List.length_map, hlen, List.take_length] at hB
    exact q H2 D bs (s1.trans sm) (s1.free hD) hDs hB
abbrev TClear (P : Program) (w : World) (K : PySem.W.Frag) (mg : Str → Option Value) (base : Heap) : Prop := Df P w K mg base "clearable_in" 10 ["web"] sp_clearable_in
/-! ### need_prices -/
abbrev s_need_prices : Stmt := topS 31
theorem sc_need_prices : FnScope ["web", "prices", "one"] ["web", "prices"] (defScope s_need_prices) := ⟨rfl, rfl, rfl, by decide +kernel, rfl, by decide +kernel, by decide +kernel⟩
def sp_need_prices : Sp := fun vs H Q _ => ∃ (p a : Addr) (n : Nat) (es : List Edge) (pr : List Int), vs = [.ref p, .ref a] ∧ WebAt H p n es ∧ H a = some (.tup (pr.map V.int)) ∧ pr.length = n ∧ (∀ x ∈ pr, 0 ≤ x ∧ x ≤ 1000) ∧ ∀ H', Same H H' → Q .non H'
theorem ok_need_prices {f : Addr} {fd : FuncData} {t9 : Tok} (B : Bi mg) (D_is_in : TIsIn P w K mg base) (m1000 : mg "MOST_PRICE" = some (.int 1000 t9)) (F : Fun K "need_prices" "need_prices" s_need_prices f fd) :
    FnOk P w K mg base CX0 2 f fd ["web", "prices"] sp_need_prices := by
  refine F.ok sc_need_prices (fun vs H Q E h => ?_) (fun cdv A outer s H vs Q E hr h => ?_)
  · obtain ⟨p, a, n, es, pr, rfl, _⟩ := h
    rfl
  obtain ⟨p, a, n, es, pr, rfl, W0, hP, hn, hb, q⟩ := h
  refine ⟨_, (pss_cons (ps_if (PW.pt (pw_or (pt_not (pt_val (pe_callB (kx_isi K rfl) (by rfl) B.isi (by decide +kernel) (pa_cons (pv 1) (pa_cons (pe_bltn (v := .ty "tuple") (by rfl) B.tuple (by decide +kernel) rfl) pa_nil))))) (pw_or1 (pt_cmpR op_ne (pe_callB (kx_len K rfl) (by rfl) B.len PySem.boot_len (pa_cons (pv 1) pa_nil)) (pe_ix (kx_ix_tup K rfl) (pv 0) pe_int (fun _ _ => rfl)) (nomark _)))))
      (pss_one ps_never)
      pss_nil)
    (pss_one (ps_if (pt_cmpR (kx_neD K rfl hr.units) (pe_lc (own := [("one", 2)]) (g := gName 2) (by rfl) sc_need_prices.nd (kx_pi_tup K rfl (pv 1)) (blkOk_by (own := [("one", 2)]) (N := ["web", "prices", "one"]) (sc := defScope s_need_prices) (by decide +kernel)) (fun _ _ _ _ _ => (pg_name (i := 2) sc_need_prices.nd rfl (Or.inl rfl))) (fun _ _ _ _ _ => pts_one (pt_not (pt_val (pe_df D_is_in (hr.mono (by omega)) (by rfl) (pa_cons (pv 2) (pa_cons pe_int (pa_cons (pe_glob (v := .int 1000) (by rfl) m1000 ⟨_, rfl⟩) pa_nil))))))) (fun _ _ _ _ _ => (pv 2))) (pe_lst pa_nil) (nomark _))
      (pss_one ps_never)
      pss_nil))), ?_⟩
  obtain ⟨qa, ea, h1, h2, h3⟩ := id W0
  refine ⟨_, rfl, _, _, _, _, true, rfl, .ty _, ty_tup hP, kit_ty (by decide +kernel), _, rfl, iteF ?_⟩
  refine ⟨_, rfl, a, _, rfl, .inr (SqT.of hP), _, rfl, p, _, _, _, rfl, rfl, SqT.of h1, atI_nat (j := 0) rfl, rfl, _, rfl, ?_⟩
  refine iteNS (by rw [List.length_map, hn]) ?_
  refine ⟨_, rfl, a, rfl, ⟨_, SqT.of hP⟩, fun D hD => ?_⟩
  refine lc_tup (K := K) (a := a) (xs := pr.map V.int) (fun i H' => Same H H' ∧ H' D = some (.lst [])) ⟨same_upd hD, upd_same⟩ (fun i H' _ z => SqT.of (z.1 _ _ hP)) ?_ ?_
  · rintro i x H1 hx ⟨sm, hDl⟩
    obtain ⟨y, hy, rfl⟩ := map_at hx
    refine ⟨rfl, _, rfl, _, 0, 1000, rfl, _, rfl, ?_⟩
    rw [decide_eq_true (hb y (List.mem_of_getElem? hy))]
    exact iteF ⟨sm, hDl⟩
  · rintro H1 ⟨sm1, hDl⟩
    refine ⟨Nat.zero_le _, fun e0 ne0 => ?_⟩
    have sm2 := sm_upd (o := .lst []) sm1 (sm1.free ne0)
    have nDe : D ≠ e0 := ne_of_none hDl ne0
    refine ⟨.list [], .list [], .lst (SqL.of (by rw [upd_ne nDe]; exact hDl)) .nil, .lst (SqL.of upd_same) .nil, shaped_nil, shaped_nil, ?_⟩
    refine ⟨_, rfl, ?_⟩
    rw [eqv_nil]
    exact iteF (q _ sm2)
abbrev TNeedPrices (P : Program) (w : World) (K : PySem.W.Frag) (mg : Str → Option Value) (base : Heap) : Prop := Df P w K mg base "need_prices" 2 ["web", "prices"] sp_need_prices
/-! ### apart -/
abbrev s_apart : Stmt := topS 32
theorem sc_apart : FnScope ["laying", "other", "k", "one"] ["laying", "other"] (defScope s_apart) := ⟨rfl, rfl, rfl, by decide +kernel, rfl, by decide +kernel, by decide +kernel⟩
def sp_apart : Sp := fun vs H Q _ => ∃ (a b : Addr) (L O : List Bool), vs = [.ref a, .ref b] ∧ FullAt H a L ∧ FullAt H b O ∧ L.length = O.length ∧ L.length ≤ 100 ∧ ∀ (H' : Hp) (r : Addr), Same H H' → H r = none → H' r = some (.lst ((ap L O).map nI)) → Q (.ref r) H'
theorem ok_apart {f : Addr} {fd : FuncData} (B : Bi mg) (F : Fun K "apart" "apart" s_apart f fd) :
    FnOk P w K mg base CX0 1 f fd ["laying", "other"] sp_apart := by
  refine F.ok sc_apart (fun vs H Q E h => ?_) (fun cdv A outer s H vs Q E hr h => ?_)
  · obtain ⟨a, b, L, O, rfl, _⟩ := h
    rfl
  obtain ⟨a, b, L, O, rfl, hL, hO, hlo, h100, q⟩ := h
  refine ⟨_, (pss_one (ps_ret (pe_lc (own := [("k", 2), ("one", 3)]) (g := gTup K 2 (gCons (gName 2) (gCons (gName 3) gNil))) (by rfl) sc_apart.nd (pi_enumT (by rfl) B.enum (pa_cons (pv 0) pa_nil)) (blkOk_by (own := [("k", 2), ("one", 3)]) (N := ["laying", "other", "k", "one"]) (sc := defScope s_apart) (by decide +kernel)) (fun _ _ _ _ _ => (pg_tup rfl (pgs_cons (pg_name (i := 2) sc_apart.nd rfl (Or.inl rfl)) (pgs_cons (pg_name (i := 3) sc_apart.nd rfl (Or.inl rfl)) pgs_nil)))) (fun _ _ _ _ _ => pts_one (pt_cmpR op_ne (pv 3) (pe_ix (kx_ix_tup K rfl) (pv 1) (pv 2) (fun _ _ => rfl)) (nomark _))) (fun _ _ _ _ _ => (pv 2))))), ?_⟩
  refine ⟨_, rfl, a, _, rfl, SqT.of hL, fun D hD => ?_⟩
  have hdl : ∀ i, ((List.range i).filter fun k => decide (L.getD k false ≠ O.getD k false)).length ≤ i := fun i => by
    have := List.length_filter_le (fun k => decide (L.getD k false ≠ O.getD k false)) (List.range i)
    rw [List.length_range] at this
    exact this
  refine lc_it walk_enumT (fun i H' => Same H H' ∧ H' D = some (.lst (((List.range i).filter fun k => decide (L.getD k false ≠ O.getD k false)).map nI))) ⟨same_upd hD, upd_same⟩ (fun i H' _ z => SqT.of (z.1 _ _ hL)) ?_ ?_
  · rintro i x H1 H2 hi ⟨sm, hDl⟩ ⟨T, x1, x2, rfl, nT, rfl, e1, e2⟩
    cases e1
    rw [List.length_map] at hi
    obtain ⟨o, ho, rfl⟩ := map_at e2
    have sT := sm_upd (o := .tup [.int (i : Nat), cb o]) sm (sm.free nT)
    have nDT : D ≠ T := ne_of_none hDl nT
    have hiO : i < O.length := by omega
    have hoO : O[i]? = some O[i] := List.getElem?_eq_getElem hiO
    have eo : L.getD i false = o := getD_of ho
    have eO : O.getD i false = O[i] := getD_of hoO
    refine ⟨T, _, rfl, SqT.of upd_same, rfl, _, _, rfl, _, _, rfl, rfl, rfl, ?_⟩
    refine ⟨_, rfl, _, rfl, _, rfl, b, _, _, cb O[i], rfl, rfl, SqT.of (sT _ _ hO), atI_nat (by rw [List.getElem?_map, hoO]; rfl), by cases o <;> cases O[i] <;> rfl, ?_⟩
    refine ⟨_, rfl, ite2 (fun c => ?_) (fun c => ?_)⟩
    · have c' : L.getD i false ≠ O.getD i false := fun z => by
        rw [eo, eO] at z
        rw [z] at c
        simp at c
      refine ⟨_, rfl, _, by rw [upd_ne nDT]; exact hDl, ?_, ?_, ?_⟩
      · rw [List.length_map]
        exact small1000 (Nat.le_trans (hdl i) (by omega))
      · intro b' o' e'
        rw [upd_ne (ne_of_none e' hD)]; exact sT _ _ e'
      · rw [upd_same, List.range_succ, List.filter_append, List.filter_cons_of_pos (p := fun k => decide (L.getD k false ≠ O.getD k false)) (decide_eq_true c'), List.map_append]
        rfl
    · have c' : ¬ L.getD i false ≠ O.getD i false := fun z => c (by
        rw [eo, eO] at z
        have : ¬ cb o = cb O[i] := fun y => z (cb_inj.mp y)
        simp [this])
      refine ⟨sT, ?_⟩
      rw [upd_ne nDT, List.range_succ, List.filter_append, List.filter_cons_of_neg (p := fun k => decide (L.getD k false ≠ O.getD k false)) (by simpa using c'), List.filter_nil, List.append_nil]
      exact hDl
  · rintro H1 ⟨sm, hDl⟩
    rw [List.length_map] at hDl
    exact q H1 D sm hD hDl
abbrev TApart (P : Program) (w : World) (K : PySem.W.Frag) (mg : Str → Option Value) (base : Heap) : Prop := Df P w K mg base "apart" 1 ["laying", "other"] sp_apart
/-! ### cost_of -/
abbrev s_cost_of : Stmt := topS 33
theorem sc_cost_of : FnScope ["laying", "other", "prices", "k"] ["laying", "other", "prices"] (defScope s_cost_of) := ⟨rfl, rfl, rfl, by decide +kernel, rfl, by decide +kernel, by decide +kernel⟩
def sp_cost_of : Sp := fun vs H Q _ => ∃ (a b c : Addr) (L O : List Bool) (pr : List Int), vs = [.ref a, .ref b, .ref c] ∧ FullAt H a L ∧ FullAt H b O ∧ H c = some (.tup (pr.map V.int)) ∧ L.length = O.length ∧ L.length ≤ 100 ∧ pr.length = L.length ∧ ∀ H' : Hp, Same H H' → Q (.int (cost pr L O)) H'
theorem ok_cost_of {f : Addr} {fd : FuncData} (B : Bi mg) (D_apart : TApart P w K mg base) (F : Fun K "cost_of" "cost_of" s_cost_of f fd) :
    FnOk P w K mg base CX0 2 f fd ["laying", "other", "prices"] sp_cost_of := by
  refine F.ok sc_cost_of (fun vs H Q E h => ?_) (fun cdv A outer s H vs Q E hr h => ?_)
  · obtain ⟨a, b, c, L, O, pr, rfl, _⟩ := h
    rfl
  obtain ⟨a, b, c, L, O, pr, rfl, hL, hO, hP, hlo, h100, hpl, q⟩ := h
  refine ⟨_, (pss_one (ps_ret (pe_callB (kx_sum K rfl rfl) (by rfl) B.sum (by decide +kernel) (pa_cons (pe_lc (own := [("k", 3)]) (g := gName 3) (tt := tYes) (by rfl) sc_cost_of.nd (kx_pi_list K rfl (pe_df D_apart (hr.mono (by omega)) (by rfl) (pa_cons (pv 0) (pa_cons (pv 1) pa_nil)))) (blkOk_by (own := [("k", 3)]) (N := ["laying", "other", "prices", "k"]) (sc := defScope s_cost_of) (by decide +kernel)) (fun _ _ _ _ _ => (pg_name (i := 3) sc_cost_of.nd rfl (Or.inl rfl))) (fun _ _ _ _ _ => pts_nil) (fun _ _ _ _ _ => (pe_ix (kx_ix_tup K rfl) (pv 2) (pv 3) (fun _ _ => rfl)))) pa_nil)))), ?_⟩
  refine ⟨_, rfl, _, rfl, a, b, L, O, rfl, hL, hO, hlo, h100, fun H1 r s1 nr hr1 => ?_⟩
  refine ⟨r, rfl, ⟨_, SqL.of hr1⟩, fun D hD => ?_⟩
  have nrD : r ≠ D := ne_of_none hr1 hD
  have hap := ap_len L O
  refine lcY_list (K := K) (a := r) (xs := (ap L O).map nI) (fun i H' => Same H1 H' ∧ H' D = some (.lst ((((ap L O).take i).map fun k => pr.getD k 0).map V.int))) ⟨same_upd hD, upd_same⟩ (fun i H' _ z => SqL.of (z.1 _ _ hr1)) ?_ ?_
  · rintro i x H2 hx ⟨sm, hDl⟩
    obtain ⟨k, hk, rfl⟩ := map_at hx
    have hkl : k < pr.length := by
      have := List.mem_of_getElem? hk
      unfold ap at this
      have := List.mem_range.mp (List.mem_filter.mp this).1
      omega
    have hkp : pr[k]? = some (pr.getD k 0) := by rw [List.getD_eq_getElem?_getD, List.getElem?_eq_getElem hkl]; rfl
    refine ⟨rfl, ?_⟩
    refine ⟨_, rfl, _, rfl, c, _, _, .int (pr.getD k 0), rfl, rfl, SqT.of (sm _ _ (s1 _ _ hP)), atI_nat (by rw [List.getElem?_map, hkp]; rfl), _, hDl, ?_, ?_, ?_⟩
    · rw [List.length_map, List.length_map, List.length_take]; exact small1000 (by omega)
    · intro b' o' e'
      rw [upd_ne (ne_of_none e' hD)]; exact sm _ _ e'
    · rw [upd_same, take_map_snoc hk, List.map_append]; rfl
  · rintro H2 ⟨sm, hDl⟩
    rw [List.length_map, List.take_length] at hDl
    exact ⟨D, _, rfl, SqL.of hDl, q H2 (s1.trans sm)⟩
abbrev TCost (P : Program) (w : World) (K : PySem.W.Frag) (mg : Str → Option Value) (base : Heap) : Prop := Df P w K mg base "cost_of" 2 ["laying", "other", "prices"] sp_cost_of
end
end K23P

namespace K23P
open PySem PySem.Spec PyProof.Rows L2 K23 K23R
theorem IsIL.sb {d : Addr} {H H' : Hp} {v : V} {x : Int × List Int} (s : SameB d H H') (hd : ∀ xs, H d ≠ some (.tup xs)) (h : IsIL H v x) : IsIL H' v x := by
  obtain ⟨p, q, rfl, h1, h2⟩ := h
  exact ⟨p, q, rfl, s _ _ (fun e => hd _ (by rw [← e]; exact h1)) h1, s _ _ (fun e => hd _ (by rw [← e]; exact h2)) h2⟩
theorem IsIL.same {H H' : Hp} {v : V} {x : Int × List Int} (s : Same H H') (h : IsIL H v x) : IsIL H' v x := by
  obtain ⟨p, q, rfl, h1, h2⟩ := h
  exact ⟨p, q, rfl, s _ _ h1, s _ _ h2⟩
theorem map_cb (L : List Bool) : (L.map bi).map V.int = L.map cb := by rw [List.map_map]; rfl
theorem best_cons {x : Int × List Int} {xs : List (Int × List Int)} : best (x :: xs) = minIL x xs := rfl
section
variable {P : Program} {w : World} {K : PySem.W.Frag} {mg : Str → Option Value} {base : Heap}
/-! ### cheapest_in -/
abbrev s_cheapest_in : Stmt := topS 34
theorem sc_cheapest_in : FnScope ["web", "laying", "prices", "other"] ["web", "laying", "prices"] (defScope s_cheapest_in) := ⟨rfl, rfl, rfl, by decide +kernel, rfl, by decide +kernel, by decide +kernel⟩
def sp_cheapest_in : Sp := fun vs H Q _ => ∃ (p a c : Addr) (n : Nat) (es : List Edge) (L : List Bool) (pr : List Int), vs = [.ref p, .ref a, .ref c] ∧ WebAt H p n es ∧ IsWeb n es ∧ FullAt H a L ∧ L.length = n ∧ H c = some (.tup (pr.map V.int)) ∧ pr.length = n ∧
  ∀ (H' : Hp) (v : V), Same H H' → IsIL H' v (best (rowsOf es n L pr)) → Q v H'
theorem ok_cheapest_in {f : Addr} {fd : FuncData} (B : Bi mg) (D_clearable_in : TClear P w K mg base) (D_cost_of : TCost P w K mg base) (F : Fun K "cheapest_in" "cheapest_in" s_cheapest_in f fd) :
    FnOk P w K mg base CX0 11 f fd ["web", "laying", "prices"] sp_cheapest_in := by
  refine F.ok sc_cheapest_in (fun vs H Q E h => ?_) (fun cdv A outer s H vs Q E hr h => ?_)
  · obtain ⟨p, a, c, n, es, L, pr, rfl, _⟩ := h
    rfl
  obtain ⟨p, a, c, n, es, L, pr, rfl, W0, J, hL, hn, hP, hpl, q⟩ := h
  have h6 := J.le
  refine ⟨_, (pss_one (ps_ret (pe_callB (kx_minIL K rfl rfl (Nat.lt_of_le_of_lt (Nat.add_le_add_left (by decide) _) hr.units)) (by rfl) B.min (by decide +kernel) (pa_cons (pe_lc (own := [("other", 3)]) (g := gName 3) (tt := tYes) (by rfl) sc_cheapest_in.nd (kx_pi_list K rfl (pe_df D_clearable_in (hr.mono (by omega)) (by rfl) (pa_cons (pv 0) pa_nil))) (blkOk_by (own := [("other", 3)]) (N := ["web", "laying", "prices", "other"]) (sc := defScope s_cheapest_in) (by decide +kernel)) (fun _ _ _ _ _ => (pg_name (i := 3) sc_cheapest_in.nd rfl (Or.inl rfl))) (fun _ _ _ _ _ => pts_nil) (fun _ _ _ _ _ => (pe_tup (pa_cons (pe_df D_cost_of (hr.mono (by omega)) (by rfl) (pa_cons (pv 1) (pa_cons (pv 3) (pa_cons (pv 2) pa_nil)))) (pa_cons (pv 3) pa_nil))))) pa_nil)))), ?_⟩
  refine ⟨_, rfl, p, n, es, rfl, W0, J, fun H1 r0 as s1 nr0 hr0 hA => ?_⟩
  refine ⟨r0, rfl, ⟨_, SqL.of hr0⟩, fun D hD => ?_⟩
  have nrD : r0 ≠ D := ne_of_none hr0 hD
  have h64 : (cl es n).length ≤ 64 := by
    refine Nat.le_trans (List.length_filter_le _ _) ?_
    rw [len_allLay]; exact Nat.pow_le_pow_right (by decide) h6
  have hlen : as.length = (cl es n).length := paired_len hA
  refine lcY_list (K := K) (a := r0) (xs := as.map V.ref) (fun i H' => Same H1 H' ∧ ∃ xs : List V, H' D = some (.lst xs) ∧ Paired (IsIL H') xs (((cl es n).take i).map fun O => (cost pr L O, O.map bi)))
    ⟨same_upd hD, [], upd_same, .nil⟩ (fun i H' _ z => SqL.of (z.1 _ _ hr0)) ?_ ?_
  · rintro i x H2 hx ⟨sm, xs, hDs, hX⟩
    obtain ⟨b, hb, rfl⟩ := map_ref_at hx
    obtain ⟨O, hO, hF⟩ := paired_at hA i b hb
    have hO6 : O.length = n := (mem_cl.mp (List.mem_of_getElem? hO)).1
    have hlx : xs.length ≤ 64 := by
      rw [paired_len hX, List.length_map, List.length_take]; omega
    refine ⟨rfl, ?_⟩
    refine ⟨_, rfl, _, rfl, _, rfl, a, b, c, L, O, pr, rfl, sm _ _ (s1 _ _ hL), sm _ _ hF, sm _ _ (s1 _ _ hP), by omega, by omega, by omega, fun H3 s3 => ?_⟩
    refine ⟨_, rfl, (by show 2 ≤ sizeLine; decide), fun t nt => ?_⟩
    have s4 : Same H2 (upd H3 t (.tup [.int (cost pr L O), .ref b])) := sm_upd s3 (s3.free nt)
    have hD4 := s4 _ _ hDs
    have sb5 : SameB D (upd H3 t (.tup [.int (cost pr L O), .ref b])) (upd (upd H3 t (.tup [.int (cost pr L O), .ref b])) D (.lst (xs ++ [.ref t]))) := SameB.upd
    refine ⟨_, hD4, small1000 (by omega), fun b' o' e' => ?_, xs ++ [.ref t], upd_same, ?_⟩
    · rw [upd_ne (ne_of_none e' hD)]; exact s4 _ _ (sm _ _ e')
    · rw [take_map_snoc hO]
      have hX5 := paired_snoc (paired_imp hX fun _ _ z => IsIL.same s4 z) (show IsIL (upd H3 t (.tup [.int (cost pr L O), .ref b])) (.ref t) (cost pr L O, O.map bi) from ⟨t, b, rfl, upd_same, by rw [map_cb]; exact s4 _ _ (sm _ _ hF)⟩)
      exact paired_imp hX5 fun _ _ z => IsIL.sb sb5 (fun ys e => by rw [hD4] at e; cases e) z
  · rintro H2 ⟨sm, xs, hDs, hX⟩
    rw [List.length_map, hlen, List.take_length] at hX
    have ne := cl_ne (n := n) J.good
    have hb : ∃ d ds, rowsOf es n L pr = d :: ds := by
      unfold rowsOf
      cases hc : cl es n with
      | nil => exact absurd hc ne
      | cons O Os => exact ⟨_, _, rfl⟩
    obtain ⟨d, ds, hb⟩ := hb
    refine ⟨D, xs, d, ds, rfl, SqL.of hDs, by rw [← hb]; exact hX, fun x _ hx => ?_⟩
    refine q H2 x (s1.trans sm) ?_
    rw [hb]
    exact hx
abbrev TCheap (P : Program) (w : World) (K : PySem.W.Frag) (mg : Str → Option Value) (base : Heap) : Prop := Df P w K mg base "cheapest_in" 11 ["web", "laying", "prices"] sp_cheapest_in
/-! ### fewest_turned -/
abbrev s_fewest_turned : Stmt := topS 35
theorem sc_fewest_turned : FnScope ["web", "laying"] ["web", "laying"] (defScope s_fewest_turned) := ⟨rfl, rfl, rfl, by decide +kernel, rfl, by decide +kernel, by decide +kernel⟩
def sp_fewest_turned : Sp := fun vs H Q _ => ∃ (p a : Addr) (n : Nat) (es : List Edge) (L : List Bool), vs = [.ref p, .ref a] ∧ WebAt H p n es ∧ IsWeb n es ∧ FullAt H a L ∧ L.length = n ∧ ∀ H', Same H H' → Q (.int (fewest es n L)) H'
theorem flat_ones (n : Nat) : (List.replicate n ([.int 1] : List V)).flatten = (List.replicate n (1 : Int)).map V.int := by
  induction n with
  | zero => rfl
  | succ n ih => rw [List.replicate_succ, List.flatten_cons, ih, List.replicate_succ]; rfl
theorem ok_fewest_turned {f : Addr} {fd : FuncData} (D_need_both : TNeedBoth P w K mg base) (D_cheapest_in : TCheap P w K mg base) (F : Fun K "fewest_turned" "fewest_turned" s_fewest_turned f fd) :
    FnOk P w K mg base CX0 12 f fd ["web", "laying"] sp_fewest_turned := by
  refine F.ok sc_fewest_turned (fun vs H Q E h => ?_) (fun cdv A outer s H vs Q E hr h => ?_)
  · obtain ⟨p, a, n, es, L, rfl, _⟩ := h
    rfl
  obtain ⟨p, a, n, es, L, rfl, W0, J, hL, hn, q⟩ := h
  have h6 := J.le
  have h0 := J.pos
  refine ⟨_, (pss_cons (ps_expr (pe_df D_need_both (hr.mono (by omega)) (by rfl) (pa_cons (pv 0) (pa_cons (pv 1) pa_nil))))
    (pss_one (ps_ret (pe_ix (kx_ix_tup K rfl) (pe_df D_cheapest_in (hr.mono (by omega)) (by rfl) (pa_cons (pv 0) (pa_cons (pv 1) (pa_cons (pe_op (kx_repT K rfl) (pe_tup (pa_cons pe_int pa_nil)) (pe_ix (kx_ix_tup K rfl) (pv 0) pe_int (fun _ _ => rfl))) pa_nil)))) pe_int (fun _ _ => rfl))))), ?_⟩
  refine ⟨_, rfl, _, rfl, p, a, n, es, L, rfl, W0, J, hL, hn, fun H1 s1 => ?_⟩
  obtain ⟨qa, ea, h1, h2, h3⟩ := id (W0.same s1)
  refine ⟨_, rfl, _, rfl, (by show 1 ≤ sizeLine; decide), fun t nt => ?_⟩
  have s2 := sm_upd (o := .tup [.int 1]) s1 (s1.free nt)
  have s2' : Same H1 (upd H1 t (.tup [.int 1])) := same_upd nt
  have fin : ∀ (u : Addr) (H2 : Hp), Same H H2 → H2 u = some (.tup ((List.replicate n (1 : Int)).map V.int)) → sp_cheapest_in [.ref p, .ref a, .ref u] H2 (fun v H3 => ∃ y H4, H4 = H3 ∧ y = V.int 0 ∧ ∃ p xs i z, v = V.ref p ∧ y = V.int i ∧ SqT K H4 p xs ∧ atI xs i = some z ∧ Q z H4) E0 := fun u H2 s hu => by
    refine ⟨p, a, u, n, es, L, List.replicate n 1, rfl, W0.same s, J, s _ _ hL, hn, hu, List.length_replicate, fun H3 v s3 hv => ?_⟩
    obtain ⟨x, y, rfl, hx, hy⟩ := hv
    refine ⟨_, H3, rfl, rfl, x, _, 0, _, rfl, rfl, SqT.of hx, atI_nat (j := 0) rfl, ?_⟩
    rw [fewest_best J.good hn]
    exact q H3 (s.trans s3)
  refine ⟨_, rfl, p, _, _, _, rfl, rfl, SqT.of (s2' _ _ h1), atI_nat (j := 0) rfl, t, n, _, rfl, rfl, SqT.of upd_same, by simp, by omega, by omega, by show 1 ≤ 1000; decide, fun e1 => ?_, fun u nu => ?_⟩
  · have e2 : n = 1 := by omega
    obtain ⟨p', a', u', n', es', L', pr', e, b1, b2, b3, b4, b5, b6, b7⟩ := fin t _ s2 (by rw [upd_same, e2]; rfl)
    refine ⟨p', a', u', n', es', L', pr', e, b1, b2, b3, b4, b5, b6, fun H3 v s3 hv => ?_⟩
    obtain ⟨_, _, rfl, rfl, b⟩ := b7 H3 v s3 hv
    exact b
  · obtain ⟨p', a', u', n', es', L', pr', e, b1, b2, b3, b4, b5, b6, b7⟩ := fin u _ (sm_upd (o := .tup (List.replicate (n : Int).toNat ([.int 1] : List V)).flatten) s2 (s2.free nu)) (by rw [upd_same, Int.toNat_natCast, flat_ones])
    refine ⟨p', a', u', n', es', L', pr', e, b1, b2, b3, b4, b5, b6, fun H3 v s3 hv => ?_⟩
    obtain ⟨_, _, rfl, rfl, b⟩ := b7 H3 v s3 hv
    exact b
abbrev TFewest (P : Program) (w : World) (K : PySem.W.Frag) (mg : Str → Option Value) (base : Heap) : Prop := Df P w K mg base "fewest_turned" 12 ["web", "laying"] sp_fewest_turned
/-! ### cheapest_turn -/
abbrev s_cheapest_turn : Stmt := topS 36
theorem sc_cheapest_turn : FnScope ["web", "laying", "prices"] ["web", "laying", "prices"] (defScope s_cheapest_turn) := ⟨rfl, rfl, rfl, by decide +kernel, rfl, by decide +kernel, by decide +kernel⟩
def sp_cheapest_turn : Sp := fun vs H Q _ => ∃ (p a c : Addr) (n : Nat) (es : List Edge) (L : List Bool) (pr : List Int), vs = [.ref p, .ref a, .ref c] ∧ WebAt H p n es ∧ IsWeb n es ∧ FullAt H a L ∧ L.length = n ∧ H c = some (.tup (pr.map V.int)) ∧ pr.length = n ∧ (∀ x ∈ pr, 0 ≤ x ∧ x ≤ 1000) ∧
  ∀ (H' : Hp) (v : V), Same H H' → IsIL H' v (best (rowsOf es n L pr)) → Q v H'
theorem ok_cheapest_turn {f : Addr} {fd : FuncData} (D_need_both : TNeedBoth P w K mg base) (D_need_prices : TNeedPrices P w K mg base) (D_cheapest_in : TCheap P w K mg base) (F : Fun K "cheapest_turn" "cheapest_turn" s_cheapest_turn f fd) :
    FnOk P w K mg base CX0 12 f fd ["web", "laying", "prices"] sp_cheapest_turn := by
  refine F.ok sc_cheapest_turn (fun vs H Q E h => ?_) (fun cdv A outer s H vs Q E hr h => ?_)
  · obtain ⟨p, a, c, n, es, L, pr, rfl, _⟩ := h
    rfl
  obtain ⟨p, a, c, n, es, L, pr, rfl, W0, J, hL, hn, hP, hpl, hb, q⟩ := h
  refine ⟨_, (pss_cons (ps_expr (pe_df D_need_both (hr.mono (by omega)) (by rfl) (pa_cons (pv 0) (pa_cons (pv 1) pa_nil))))
    (pss_cons (ps_expr (pe_df D_need_prices (hr.mono (by omega)) (by rfl) (pa_cons (pv 0) (pa_cons (pv 2) pa_nil))))
    (pss_one (ps_ret (pe_df D_cheapest_in (hr.mono (by omega)) (by rfl) (pa_cons (pv 0) (pa_cons (pv 1) (pa_cons (pv 2) pa_nil)))))))), ?_⟩
  refine ⟨_, rfl, _, rfl, p, a, n, es, L, rfl, W0, J, hL, hn, fun H1 s1 => ?_⟩
  refine ⟨_, rfl, _, rfl, p, c, n, es, pr, rfl, W0.same s1, s1 _ _ hP, hpl, hb, fun H2 s2 => ?_⟩
  have s := s1.trans s2
  exact ⟨_, rfl, _, rfl, _, rfl, p, a, c, n, es, L, pr, rfl, W0.same s, J, s _ _ hL, hn, s _ _ hP, hpl, fun H3 v s3 hv => q H3 v (s.trans s3) hv⟩
abbrev TCheapest (P : Program) (w : World) (K : PySem.W.Frag) (mg : Str → Option Value) (base : Heap) : Prop := Df P w K mg base "cheapest_turn" 12 ["web", "laying", "prices"] sp_cheapest_turn
end
end K23P

namespace K23P
open PySem PySem.Spec PyProof.Rows L2 K23 K23R
/-! ### a tuple whose object is known (its methods are called) -/
section
variable {X : Cx} (K : PySem.W.Frag) (hK : X.K = K)
include hK
def rTupFrz (K : PySem.W.Frag) : List V → Hp → VK → Prop := fun xs H Q => ∃ p ys, xs = [.ref p] ∧ SqL K H p ys ∧ ∀ (l : Addr) (o : Obj), H l = none → o.dict = none → Q (.ref l) (upd H l (.frz o (.tup ys)))
theorem kx_tuple_frz : CallR X (.type "tuple") (rTupFrz K) := by
  subst hK
  intro pins s σ H xs us Q I r h
  obtain ⟨p, ys, rfl, hq, q⟩ := h
  obtain ⟨u, rfl, rx⟩ := vals1 r
  cases rx
  obtain ⟨its, r', pl, hz⟩ := I.list hq
  have hlen := r'.length
  refine call_tuple_list pl.isList (fun h' kp => ?_) (by simp only [List.size_toArray] <;> omega)
  have I1 : Inv X pins σ H { s with heap := h' } := I.kept (t' := s.toks) kp
  have I2 : Inv X pins σ (upd H h'.objs.size (.frz { cls := .type "tuple", data := .seq its.toArray } (.tup ys))) { s with heap := h'.push { cls := .type "tuple", data := .seq its.toArray } } :=
    I1.laid (t' := s.toks) (fun b o e => Heap.get?_push_of_some _ e) (Nat.le_refl _)
      (show ObjOk X.prog X.w _ _ _ (.frz { cls := .type "tuple", data := .seq its.toArray } (.tup ys)) from ⟨Heap.get?_push_size _ rfl, hz, its, r', IsTup.new _ _⟩)
  exact ⟨.ref h'.objs.size, _, I2, rfl, q _ _ (I1.hok.fresh (Nat.le_refl _)) rfl⟩
end
def tBMF (r : V → List V → Hp → VK → Prop) (to : TE) (t : TA) : TE := fun σ H Q => to σ H fun x H1 => (∃ p o xs, x = V.ref p ∧ H1 p = some (.frz o (.tup xs)) ∧ o.dict = none) ∧ t σ H1 fun xs H2 => r x xs H2 Q
theorem pe_bmF {X : Cx} {o e : Expr} {es : List Expr} {to : TE} {t : TA} {name : Str} {apos cpos : Pos} {id : String} {r : V → List V → Hp → VK → Prop} (pa : PlainAttrs "tuple") (slot : Slot "tuple" name id) (hty : typeOf (.builtin id) = pure (.type "method_descriptor")) (hm : MtR X id r) (ho : PE X o to) (ha : PA X (e :: es) t)
    (hbase : attributeBase o name X.env (eval o X.env) = eval o X.env := by rfl)
    (hfew : ((backTo cpos (starEach (e :: es) X.env)).all (fun x => !x.1) && (backToKw cpos (keywordEach [] X.env)).all (fun x => x.1.isSome)
      && decide ((e :: es).length + ([] : List Keyword).length + (if ([] : List Keyword).isEmpty then 0 else 1) < 30)) = true := by rfl)
    (hline : (apos.endLine == cpos.line) = true := by rfl) (hs : starEach (e :: es) X.env = (false, eval e X.env) :: starEach es X.env := by rfl) (hplain : (backTo cpos (starEach es X.env)).any (·.1) = false := by rfl) :
    PE X (.Call (.Attribute o name apos) (e :: es) [] cpos) (tBMF r to t) := by
  refine ⟨fun pins s σ H Q I h => ?_⟩
  refine wpAny_Call_method_late hbase hfew hline rfl (thn (ho.run pins s σ H _ I h) fun v s1 ⟨x, H1, I1, r1, ty, q1⟩ => ?_)
  obtain ⟨p, ob, xs, rfl, hp, hd⟩ := ty
  cases r1
  obtain ⟨hg, _, its, _, o2, h1, h2, _⟩ := I1.hok p _ hp
  have e2 : o2 = ob := by rw [hg] at h1; exact (Option.some.inj h1).symm
  subst e2
  refine ⟨"tuple", id, pa, slot, hty, ⟨_, hg, h2⟩, fun a e => by cases e; exact ⟨_, hg, hd⟩, ?_⟩
  have hA := ha.run cpos pins s1 σ H1 _ I1 q1
  rw [hs] at hA ⊢
  refine Calls.callWith_builtin (by show (false || (backTo cpos (starEach es X.env)).any (·.1)) = false; rw [hplain] <;> rfl) (Calls.evalArgs_plain ?_)
  exact thn hA fun us s2 ⟨vs, H2, I2, r2, q2⟩ => hm pins s2 σ H2 (.ref p) vs (.ref p) us Q I2 rfl r2 q2
/-- at a stands an order -/
def OrdAt (H : Hp) (a : Addr) (ord : List Nat) : Prop := ∃ o : Obj, o.dict = none ∧ H a = some (.frz o (.tup (ord.map nI)))
theorem OrdAt.same {H H' : Hp} {a : Addr} {ord : List Nat} (s : Same H H') (h : OrdAt H a ord) : OrdAt H' a ord := by
  obtain ⟨o, d, e⟩ := h
  exact ⟨o, d, s _ _ e⟩
theorem OrdAt.sq {K : PySem.W.Frag} {H : Hp} {a : Addr} {ord : List Nat} (h : OrdAt H a ord) : SqT K H a (ord.map nI) := by
  obtain ⟨o, d, e⟩ := h
  exact .inl (.inr ⟨o, e⟩)
theorem OrdAt.ty {K : PySem.W.Frag} {H : Hp} {a : Addr} {ord : List Nat} (h : OrdAt H a ord) : TyX K H (.ref a) (.type "tuple") := by
  obtain ⟨o, d, e⟩ := h
  exact .fTuple e
theorem sorted_range {ns : List Int} {n : Nat} (p : ns.Perm ((List.range n).map fun k : Nat => (k : Int))) (s : ns.Pairwise (· ≤ ·)) : ns = (List.range n).map fun k : Nat => (k : Int) := by
  refine List.Perm.eq_of_pairwise (le := fun a b : Int => a ≤ b) (fun a b _ _ h1 h2 => Int.le_antisymm h1 h2) s ?_ p
  rw [List.pairwise_map]
  exact List.pairwise_lt_range.imp fun h => by omega
theorem rgV_range (n : Nat) : rgV 0 (n : Int) = ((List.range n).map fun k : Nat => (k : Int)).map V.int := by
  unfold rgV
  rw [List.map_map]
  have : ((n : Int) - 0).toNat = n := by omega
  rw [this]
  refine List.map_congr_left fun k _ => ?_
  show V.int (0 + (k : Int)) = V.int (k : Int)
  rw [Int.zero_add]
theorem dp_int {K : PySem.W.Frag} {H : Hp} (i : Int) : Dp K H (.int i) (.int i) := .int i
theorem fl_ints (ns : List Int) : ∀ d ∈ ns.map PyData.int, FlD d := fun d hd => by
  obtain ⟨i, _, rfl⟩ := List.mem_map.mp hd
  exact .inr ⟨i, rfl⟩
theorem eqv_ints (ns ms : List Int) : PyData.eqv (.list (ns.map .int)) (.list (ms.map .int)) = decide (ns = ms) := by simp only [PyData.eqv]; exact eqvAll_ints ns ms
/-- the laying that an order clears -/
def layB (es : List Edge) (ord : List Nat) (k : Nat) : Bool := !odd ((nbs es k).filter fun x => decide (x ∈ ord.take (ord.idxOf k))).length
def layO (es : List Edge) (n : Nat) (ord : List Nat) : List Bool := (List.range n).map (layB es ord)
theorem fmod_two (c : Nat) : ((1 : Int) + (c : Int)).fmod 2 = bi (!odd c) := by
  rw [Int.fmod_eq_emod_of_nonneg _ (by omega)]
  rcases Nat.mod_two_eq_zero_or_one c with h | h
  · have : odd c = false := (odd_not_iff c).mpr h
    rw [this]
    show (1 + (c : Int)) % 2 = 1
    omega
  · have : odd c = true := (odd_iff c).mpr h
    rw [this]
    show (1 + (c : Int)) % 2 = 0
    omega
section
variable {P : Program} {w : World} {K : PySem.W.Frag} {mg : Str → Option Value} {base : Heap}
/-! ### is_order -/
abbrev s_is_order : Stmt := topS 22
theorem sc_is_order : FnScope ["web", "value", "x"] ["web", "value"] (defScope s_is_order) := ⟨rfl, rfl, rfl, by decide +kernel, rfl, by decide +kernel, by decide +kernel⟩
def sp_is_order : Sp := fun vs H Q _ => ∃ (p a : Addr) (n : Nat) (es : List Edge) (ord : List Nat), vs = [.ref p, .ref a] ∧ WebAt H p n es ∧ n ≤ 6 ∧ OrdAt H a ord ∧ ord.Perm (List.range n) ∧ ∀ H', Same H H' → Q (.bl true) H'
theorem ok_is_order {f : Addr} {fd : FuncData} (B : Bi mg) (D_is_in : TIsIn P w K mg base) (F : Fun K "is_order" "is_order" s_is_order f fd) :
    FnOk P w K mg base CX0 2 f fd ["web", "value"] sp_is_order := by
  refine F.ok sc_is_order (fun vs H Q E h => ?_) (fun cdv A outer s H vs Q E hr h => ?_)
  · obtain ⟨p, a, n, es, ord, rfl, _⟩ := h
    rfl
  obtain ⟨p, a, n, es, ord, rfl, W0, h6, hO, pm, q⟩ := h
  refine ⟨_, (pss_cons (ps_if (PW.pt (pw_or (pt_not (pt_val (pe_callB (kx_isi K rfl) (by rfl) B.isi (by decide +kernel) (pa_cons (pv 1) (pa_cons (pe_bltn (v := .ty "tuple") (by rfl) B.tuple (by decide +kernel) rfl) pa_nil))))) (pw_or1 (pt_cmpR (kx_neD K rfl hr.units) (pe_lc (own := [("x", 2)]) (g := gName 2) (by rfl) sc_is_order.nd (kx_pi_tup K rfl (pv 1)) (blkOk_by (own := [("x", 2)]) (N := ["web", "value", "x"]) (sc := defScope s_is_order) (by decide +kernel)) (fun _ _ _ _ _ => (pg_name (i := 2) sc_is_order.nd rfl (Or.inl rfl))) (fun _ _ _ _ _ => pts_one (pt_not (pt_val (pe_df D_is_in (hr.mono (by omega)) (by rfl) (pa_cons (pv 2) (pa_cons pe_int (pa_cons (pe_op op_sub (pe_ix (kx_ix_tup K rfl) (pv 0) pe_int (fun _ _ => rfl)) pe_int) pa_nil))))))) (fun _ _ _ _ _ => (pv 2))) (pe_lst pa_nil) (nomark _)))))
      (pss_one (ps_ret pe_bl))
      pss_nil)
    (pss_one (ps_ret (pe_cmpR (kx_eqD K rfl hr.units) (pe_callB (kx_sortedTI K rfl) (by rfl) B.sorted (by decide +kernel) (pa_cons (pv 1) pa_nil)) (pe_listRg rfl (by rfl) B.list (prg_1 (by rfl) B.range (pe_ix (kx_ix_tup K rfl) (pv 0) pe_int (fun _ _ => rfl)))) (nomark _))))), ?_⟩
  obtain ⟨qa, ea, h1, h2, h3⟩ := id W0
  refine ⟨_, rfl, _, _, _, _, true, rfl, .ty _, hO.ty, kit_ty (by decide +kernel), _, rfl, iteF ?_⟩
  refine ⟨_, rfl, a, rfl, ⟨_, hO.sq⟩, fun D hD => ?_⟩
  refine lc_tup (K := K) (a := a) (xs := ord.map nI) (fun i H' => Same H H' ∧ H' D = some (.lst [])) ⟨same_upd hD, upd_same⟩ (fun i H' _ z => (hO.same z.1).sq) ?_ ?_
  · rintro i x H1 hx ⟨sm, hDl⟩
    obtain ⟨y, hy, rfl⟩ := map_at hx
    have hyn : y < n := List.mem_range.mp (pm.mem_iff.mp (List.mem_of_getElem? hy))
    refine ⟨rfl, _, rfl, _, rfl, p, _, _, _, rfl, rfl, SqT.of (sm _ _ h1), atI_nat (j := 0) rfl, _, _, rfl, rfl, _, _, _, rfl, _, rfl, ?_⟩
    rw [decide_eq_true (by omega)]
    exact iteF ⟨sm, hDl⟩
  · rintro H1 ⟨sm1, hDl⟩
    refine ⟨Nat.zero_le _, fun e0 ne0 => ?_⟩
    have sm2 := sm_upd (o := .lst []) sm1 (sm1.free ne0)
    have nDe : D ≠ e0 := ne_of_none hDl ne0
    refine ⟨.list [], .list [], .lst (SqL.of (by rw [upd_ne nDe]; exact hDl)) .nil, .lst (SqL.of upd_same) .nil, shaped_nil, shaped_nil, ?_⟩
    refine ⟨_, rfl, ?_⟩
    rw [eqv_nil]
    refine iteF ?_
    refine ⟨_, rfl, a, ord.map fun k : Nat => (k : Int), rfl, by rw [← nI_map]; exact (hO.same sm2).sq, fun ns' r pm' so nr => ?_⟩
    have sm3 := sm_upd (o := .lst (ns'.map V.int)) sm2 (sm2.free nr)
    refine ⟨_, rfl, p, _, _, _, rfl, rfl, SqT.of (sm3 _ _ h1), atI_nat (j := 0) rfl, n, rfl, ⟨by decide, by decide, by omega, by omega, by omega⟩, fun r2 nr2 => ?_⟩
    have sm4 := sm_upd (o := .lst (rgV 0 n)) sm3 (sm3.free nr2)
    have nrr : r ≠ r2 := ne_of_none upd_same nr2
    have ens : ns' = (List.range n).map fun k : Nat => (k : Int) := sorted_range (pm'.trans (pm.map _)) so
    refine ⟨.list (ns'.map .int), .list (ns'.map .int), .lst (SqL.of (by rw [upd_ne nrr, upd_same])) (dp_map dp_int _), .lst (SqL.of (by rw [upd_same, rgV_range, ← ens])) (dp_map dp_int _), shaped_flat (fl_ints _), shaped_flat (fl_ints _), ?_⟩
    rw [eqv_ints, decide_eq_true rfl]
    exact q _ sm4
abbrev TIsOrder (P : Program) (w : World) (K : PySem.W.Frag) (mg : Str → Option Value) (base : Heap) : Prop := Df P w K mg base "is_order" 2 ["web", "value"] sp_is_order
/-! ### need_order -/
abbrev s_need_order : Stmt := topS 23
theorem sc_need_order : FnScope ["web", "order"] ["web", "order"] (defScope s_need_order) := ⟨rfl, rfl, rfl, by decide +kernel, rfl, by decide +kernel, by decide +kernel⟩
def sp_need_order : Sp := fun vs H Q _ => ∃ (p a : Addr) (n : Nat) (es : List Edge) (ord : List Nat), vs = [.ref p, .ref a] ∧ WebAt H p n es ∧ n ≤ 6 ∧ OrdAt H a ord ∧ ord.Perm (List.range n) ∧ ∀ H', Same H H' → Q .non H'
theorem ok_need_order {f : Addr} {fd : FuncData} (D_is_order : TIsOrder P w K mg base) (F : Fun K "need_order" "need_order" s_need_order f fd) :
    FnOk P w K mg base CX0 3 f fd ["web", "order"] sp_need_order := by
  refine F.ok sc_need_order (fun vs H Q E h => ?_) (fun cdv A outer s H vs Q E hr h => ?_)
  · obtain ⟨p, a, n, es, ord, rfl, _⟩ := h
    rfl
  obtain ⟨p, a, n, es, ord, rfl, W0, h6, hO, pm, q⟩ := h
  refine ⟨_, (pss_one (ps_if (pt_not (pt_val (pe_df D_is_order (hr.mono (by omega)) (by rfl) (pa_cons (pv 0) (pa_cons (pv 1) pa_nil)))))
      (pss_one ps_never)
      pss_nil)), ?_⟩
  exact ⟨_, rfl, _, rfl, p, a, n, es, ord, rfl, W0, h6, hO, pm, fun H1 s1 => ⟨true, rfl, iteF (q H1 s1)⟩⟩
abbrev TNeedOrder (P : Program) (w : World) (K : PySem.W.Frag) (mg : Str → Option Value) (base : Heap) : Prop := Df P w K mg base "need_order" 3 ["web", "order"] sp_need_order
/-! ### laying_in -/
abbrev s_laying_in : Stmt := topS 24
theorem sc_laying_in : FnScope ["web", "order", "found", "k", "ahead", "x"] ["web", "order"] (defScope s_laying_in) := ⟨rfl, rfl, rfl, by decide +kernel, rfl, by decide +kernel, by decide +kernel⟩
def sp_laying_in : Sp := fun vs H Q _ => ∃ (p a : Addr) (n : Nat) (es : List Edge) (ord : List Nat), vs = [.ref p, .ref a] ∧ WebAt H p n es ∧ IsWeb n es ∧ OrdAt H a ord ∧ ord.Perm (List.range n) ∧ ∀ (H' : Hp) (r : Addr), Same H H' → H r = none → FullAt H' r (layO es n ord) → Q (.ref r) H'
theorem ok_laying_in {f : Addr} {fd : FuncData} (B : Bi mg) (D_neighbours_in : TNbs P w K mg base) (F : Fun K "laying_in" "laying_in" s_laying_in f fd) :
    FnOk P w K mg base CX0 2 f fd ["web", "order"] sp_laying_in := by
  refine F.ok sc_laying_in (fun vs H Q E h => ?_) (fun cdv A outer s H vs Q E hr h => ?_)
  · obtain ⟨p, a, n, es, ord, rfl, _⟩ := h
    rfl
  obtain ⟨p, a, n, es, ord, rfl, W0, J, hO, pm, q⟩ := h
  have h6 := J.le
  refine ⟨_, (pss_cons (ps_set (i := 2) sc_laying_in.nd rfl (Or.inl rfl) (pe_lst pa_nil))
    (pss_cons (ps_for PassesOwn.never rfl (pi_range1 (by rfl) B.range (pa_cons (pe_ix (kx_ix_tup K rfl) (pv 0) pe_int (fun _ _ => rfl)) pa_nil)) (pg_name (i := 3) sc_laying_in.nd rfl (Or.inl rfl))
      (pss_cons (ps_set (i := 4) sc_laying_in.nd rfl (Or.inr rfl) (pe_slice (kx_sl_tup K rfl) (pv 1) po_none (po_some (pe_bmF PySem.F.plainAttrs_tuple PySem.F.slot_tuple_index PySem.F.type_tuple_index mt_tup_indexI (pv 1) (pa_cons (pv 3) pa_nil)))))
        (pss_one (ps_expr (pe_bm PySem.F.plainAttrs_list PySem.F.slot_list_append PySem.F.type_list_append mt_append (pv 2) (pa_cons (pe_op op_modN (pe_op op_add pe_int (pe_callB (kx_len K rfl) (by rfl) B.len PySem.boot_len (pa_cons (pe_lc (own := [("x", 5)]) (g := gName 5) (by rfl) sc_laying_in.nd (kx_pi_list K rfl (pe_df D_neighbours_in (hr.mono (by omega)) (by rfl) (pa_cons (pv 0) (pa_cons (pv 3) pa_nil)))) (blkOk_by (own := [("x", 5)]) (N := ["web", "order", "found", "k", "ahead", "x"]) (sc := defScope s_laying_in) (by decide +kernel)) (fun _ _ _ _ _ => (pg_name (i := 5) sc_laying_in.nd rfl (Or.inl rfl))) (fun _ _ _ _ _ => pts_one (pt_cmpR (kx_in K rfl) (pv 5) (pv 4) (by rfl))) (fun _ _ _ _ _ => (pv 5))) pa_nil))) pe_int) pa_nil))))))
    (pss_one (ps_ret (pe_callTy (kx_tuple_of K rfl) (by rfl) B.tuple (by decide +kernel) (pa_cons (pv 2) pa_nil)))))), ?_⟩
  obtain ⟨qa, ea, h1, h2, h3⟩ := id W0
  refine ⟨Nat.zero_le _, fun l nl => ?_⟩
  have s1 : Same H (upd H l (.lst [])) := same_upd nl
  refine ⟨_, rfl, p, _, _, _, rfl, rfl, SqT.of (s1 _ _ h1), atI_nat (j := 0) rfl, n, rfl, by omega, by omega, ?_⟩
  refine for_range (lo := 0) (n := (n : Int).toNat) (fun i σ H' => ∃ y z, σ = [some (.ref p), some (.ref a), some (.ref l), y, z, none] ∧ Same H H' ∧ H' l = some (.lst (((List.range i).map (layB es ord)).map cb)))
    ⟨none, none, rfl, s1, upd_same⟩ ?_ ?_
  · rintro i σ H1 hi ⟨y, z, rfl, sm, hl⟩
    have hin : i < n := by omega
    have hiO : i ∈ ord := pm.mem_iff.mpr (List.mem_range.mpr hin)
    have hix : ord.idxOf i < ord.length := List.idxOf_lt_length_iff.mpr hiO
    obtain ⟨ob, hd, hOe⟩ := id (hO.same sm)
    have eidx : (ord.map fun k : Nat => (k : Int)).idxOf (i : Int) = ord.idxOf i := by
      have : ∀ l : List Nat, (l.map fun k : Nat => (k : Int)).idxOf (i : Int) = l.idxOf i := fun l => by
        induction l with
        | nil => rfl
        | cons x l ih =>
          rw [List.map_cons, List.idxOf_cons, List.idxOf_cons, ih]
          by_cases e : x = i
          · subst e; rw [beq_self_eq_true, beq_self_eq_true]
          · have e2 : ¬ (x : Int) = (i : Int) := by omega
            rw [beq_eq_false_iff_ne.mpr e, beq_eq_false_iff_ne.mpr e2]
      exact this ord
    have ei : (0 : Int) + (i : Int) = (i : Int) := Int.zero_add _
    rw [ei]
    refine ⟨_, rfl, ?_⟩
    refine ⟨_, rfl, ⟨a, ob, _, rfl, hOe, hd⟩, _, rfl, a, ord.map fun k : Nat => (k : Int), (i : Int), rfl, rfl, by rw [← nI_map]; exact (hO.same sm).sq, List.mem_map.mpr ⟨i, hiO, rfl⟩, ?_⟩
    rw [eidx]
    refine ⟨_, rfl, a, _, rfl, (hO.same sm).sq, fun e => ?_, fun _ t nt => ?_⟩
    · exfalso
      rw [HT.sIx_nat] at e
      have := e.2
      rw [List.length_map] at this
      omega
    have ecut : cutV (ord.map nI) none (some ((ord.idxOf i : Nat) : Int)) = (ord.take (ord.idxOf i)).map nI := by
      unfold cutV
      rw [HT.sIx_nat, HT.sIx_none, List.drop_zero, Nat.sub_zero, List.map_take, List.length_map, Nat.min_eq_left (Nat.le_of_lt hix)]
    rw [ecut]
    have sm1 := sm_upd (o := .tup ((ord.take (ord.idxOf i)).map nI)) sm (sm.free nt)
    have nlt : l ≠ t := ne_of_none hl nt
    refine ⟨_, rfl, .inl ⟨rfl, _, SqL.of (by rw [upd_ne nlt]; exact hl)⟩, _, rfl, _, rfl, p, n, i, es, rfl, W0.same sm1, J.len, fun H2 r nb s2 nr pmn hr2 => ?_⟩
    refine ⟨r, rfl, ⟨_, SqL.of hr2⟩, fun D hD => ?_⟩
    have nrD : r ≠ D := ne_of_none hr2 hD
    have hnbl : nb.length ≤ 100 := by rw [pmn.length_eq]; exact Nat.le_trans (nbs_len es i) J.len
    have ht2 : H2 t = some (.tup ((ord.take (ord.idxOf i)).map nI)) := s2 _ _ upd_same
    have hl2 : H2 l = some (.lst (((List.range i).map (layB es ord)).map cb)) := s2 _ _ (by rw [upd_ne nlt]; exact hl)
    refine lc_list (K := K) (a := r) (xs := nb.map nI) (fun c H' => Same H2 H' ∧ H' D = some (.lst (((nb.take c).filter fun x => decide (x ∈ ord.take (ord.idxOf i))).map nI))) ⟨same_upd hD, upd_same⟩ (fun c H' _ z => SqL.of (z.1 _ _ hr2)) ?_ ?_
    · rintro c x H3 hx ⟨sm3, hDl⟩
      obtain ⟨m, hm, rfl⟩ := map_at hx
      refine ⟨rfl, ?_⟩
      refine ⟨_, rfl, _, rfl, t, _, rfl, .inr (SqT.of (sm3 _ _ ht2)), rfl, flat_nats _, _, rfl, ?_⟩
      show if inV (nI m) ((ord.take (ord.idxOf i)).map nI) = true then _ else _
      rw [inV_nats]
      refine ite2 (fun cc => ?_) (fun cc => ?_)
      · refine ⟨_, rfl, _, hDl, ?_, ?_, ?_⟩
        · rw [List.length_map]
          refine small1000 (Nat.le_trans (List.length_filter_le _ _) ?_)
          rw [List.length_take]; omega
        · intro b' o' e'
          rw [upd_ne (ne_of_none e' hD)]; exact sm3 _ _ e'
        · rw [upd_same, filter_take_in (f := fun x => decide (x ∈ ord.take (ord.idxOf i))) hm cc, List.map_append]; rfl
      · exact ⟨sm3, by rw [filter_take_out (f := fun x => decide (x ∈ ord.take (ord.idxOf i))) hm cc]; exact hDl⟩
    · rintro H3 ⟨sm3, hDl⟩
      rw [List.length_map, List.take_length] at hDl
      refine ⟨D, _, rfl, .inl (SqL.of hDl), _, _, rfl, rfl, _, _, rfl, rfl, (by show (2 : Int) ≠ 0; decide), ?_⟩
      have hl3 := sm3 _ _ hl2
      refine ⟨l, _, _, rfl, rfl, hl3, small1000 (by rw [List.length_map, List.length_map, List.length_range]; omega), ?_⟩
      refine ⟨_, _, rfl, fun b' o' e' => ?_, ?_⟩
      · rw [upd_ne (ne_of_none e' nl)]
        exact sm3 _ _ (s2 _ _ (sm1 _ _ e'))
      · rw [upd_same, List.range_succ, List.map_append, List.map_append]
        have eV : V.int (((1 : Int) + (((nb.filter fun x => decide (x ∈ ord.take (ord.idxOf i))).map nI).length : Int)).fmod 2) = cb (layB es ord i) := by
          rw [List.length_map, fmod_two]
          show V.int _ = V.int _
          unfold layB
          rw [(pmn.filter _).length_eq]
        exact congrArg (fun v => some (HO.lst (((List.range i).map (layB es ord)).map cb ++ [v]))) eV
  · rintro σ H1 ⟨y, z, rfl, sm, hl⟩
    rw [Int.toNat_natCast] at hl
    refine ⟨_, rfl, l, _, rfl, .inl ⟨SqL.of hl, fun t nt => ?_⟩⟩
    exact q _ t (sm_upd sm (sm.free nt)) (sm.free nt) upd_same
abbrev TLayIn (P : Program) (w : World) (K : PySem.W.Frag) (mg : Str → Option Value) (base : Heap) : Prop := Df P w K mg base "laying_in" 2 ["web", "order"] sp_laying_in
/-! ### turned_for -/
abbrev s_turned_for : Stmt := topS 37
theorem sc_turned_for : FnScope ["web", "laying", "order"] ["web", "laying", "order"] (defScope s_turned_for) := ⟨rfl, rfl, rfl, by decide +kernel, rfl, by decide +kernel, by decide +kernel⟩
def sp_turned_for : Sp := fun vs H Q _ => ∃ (p a b : Addr) (n : Nat) (es : List Edge) (L : List Bool) (ord : List Nat), vs = [.ref p, .ref a, .ref b] ∧ WebAt H p n es ∧ IsWeb n es ∧ FullAt H a L ∧ L.length = n ∧ OrdAt H b ord ∧ ord.Perm (List.range n) ∧
  ∀ (H' : Hp) (r : Addr), Same H H' → H' r = some (.tup ((ap L (layO es n ord)).map nI)) → Q (.ref r) H'
theorem layO_len (es : List Edge) (n : Nat) (ord : List Nat) : (layO es n ord).length = n := by unfold layO; rw [List.length_map, List.length_range]
theorem ok_turned_for {f : Addr} {fd : FuncData} (B : Bi mg) (D_need_both : TNeedBoth P w K mg base) (D_need_order : TNeedOrder P w K mg base) (D_apart : TApart P w K mg base) (D_laying_in : TLayIn P w K mg base) (F : Fun K "turned_for" "turned_for" s_turned_for f fd) :
    FnOk P w K mg base CX0 5 f fd ["web", "laying", "order"] sp_turned_for := by
  refine F.ok sc_turned_for (fun vs H Q E h => ?_) (fun cdv A outer s H vs Q E hr h => ?_)
  · obtain ⟨p, a, b, n, es, L, ord, rfl, _⟩ := h
    rfl
  obtain ⟨p, a, b, n, es, L, ord, rfl, W0, J, hL, hn, hO, pm, q⟩ := h
  have h6 := J.le
  refine ⟨_, (pss_cons (ps_expr (pe_df D_need_both (hr.mono (by omega)) (by rfl) (pa_cons (pv 0) (pa_cons (pv 1) pa_nil))))
    (pss_cons (ps_expr (pe_df D_need_order (hr.mono (by omega)) (by rfl) (pa_cons (pv 0) (pa_cons (pv 2) pa_nil))))
    (pss_one (ps_ret (pe_callTy (kx_tuple_of K rfl) (by rfl) B.tuple (by decide +kernel) (pa_cons (pe_df D_apart (hr.mono (by omega)) (by rfl) (pa_cons (pv 1) (pa_cons (pe_df D_laying_in (hr.mono (by omega)) (by rfl) (pa_cons (pv 0) (pa_cons (pv 2) pa_nil))) pa_nil))) pa_nil)))))), ?_⟩
  refine ⟨_, rfl, _, rfl, p, a, n, es, L, rfl, W0, J, hL, hn, fun H1 s1 => ?_⟩
  refine ⟨_, rfl, _, rfl, p, b, n, es, ord, rfl, W0.same s1, h6, hO.same s1, pm, fun H2 s2 => ?_⟩
  have t2 := s1.trans s2
  refine ⟨_, rfl, _, rfl, _, rfl, p, b, n, es, ord, rfl, W0.same t2, J, hO.same t2, pm, fun H3 r s3 nr hF => ?_⟩
  have t3 := t2.trans s3
  refine ⟨a, r, L, layO es n ord, rfl, t3 _ _ hL, hF, by rw [layO_len, hn], by omega, fun H4 u s4 nu hu4 => ?_⟩
  have t4 := t3.trans s4
  refine ⟨u, _, rfl, .inl ⟨SqL.of hu4, fun t nt => ?_⟩⟩
  exact q _ t (sm_upd t4 (t4.free nt)) upd_same
abbrev TTurned (P : Program) (w : World) (K : PySem.W.Frag) (mg : Str → Option Value) (base : Heap) : Prop := Df P w K mg base "turned_for" 5 ["web", "laying", "order"] sp_turned_for
end
end K23P

namespace K23P
open PySem PySem.Spec PyProof.Rows L2 K23 K23R
/-! ### the places found so far, and those still to be looked at -/
structure FInv (n : Nat) (es : List Edge) (k : Nat) (Fl Rw : List Nat) (z : Nat → Prop) : Prop where
  chain : ChainP es Fl.reverse
  hdk : ∃ t, Fl = k :: t
  lt : ∀ i ∈ Fl, i < n
  sub : ∀ i ∈ Rw, i ∈ Fl
  clo : ∀ i ∈ Fl, i ∉ Rw → ¬ z i → ∀ j ∈ nbs es i, j ∈ Fl
theorem FInv.start {n : Nat} {es : List Edge} {k : Nat} (h : k < n) : FInv n es k [k] [k] (fun _ => False) :=
  ⟨.one k, ⟨[], rfl⟩, fun i hi => by rw [List.mem_singleton.mp hi]; exact h, fun _ h => h, fun i hi hn => absurd hi hn⟩
theorem FInv.pop {n : Nat} {es : List Edge} {k h : Nat} {Fl Rw : List Nat} (I : FInv n es k Fl (Rw ++ [h]) fun _ => False) : FInv n es k Fl Rw (fun i => i = h) :=
  ⟨I.chain, I.hdk, I.lt, fun i hi => I.sub i (List.mem_append_left _ hi), fun i hi hn hz => I.clo i hi (fun q => (List.mem_append.mp q).elim hn fun q => hz (List.mem_singleton.mp q)) id⟩
theorem FInv.push {n : Nat} {es : List Edge} (g : Good n es) {k h t : Nat} {Fl Rw : List Nat} (I : FInv n es k Fl Rw fun i => i = h) (hh : h ∈ Fl) (ht : t ∈ nbs es h) (nt : t ∉ Fl) : FInv n es k (Fl ++ [t]) (Rw ++ [t]) (fun i => i = h) := by
  refine ⟨?_, ?_, fun i hi => ?_, fun i hi => ?_, fun i hi hn hz j hj => ?_⟩
  · rw [List.reverse_append]
    exact .more t Fl.reverse I.chain (by simpa using nt) ⟨h, by simpa using hh, mem_nbs_symm g ht⟩
  · obtain ⟨r, e⟩ := I.hdk
    exact ⟨r ++ [t], by rw [e]; rfl⟩
  · rcases List.mem_append.mp hi with hi | hi
    · exact I.lt i hi
    · rw [List.mem_singleton.mp hi]; exact nbs_lt g ht
  · rcases List.mem_append.mp hi with hi | hi
    · exact List.mem_append_left _ (I.sub i hi)
    · exact List.mem_append_right _ hi
  · have nit : i ≠ t := fun e => hn (List.mem_append_right _ (by rw [e]; exact List.mem_singleton_self _))
    have hi' : i ∈ Fl := (List.mem_append.mp hi).resolve_right fun q => nit (List.mem_singleton.mp q)
    exact List.mem_append_left _ (I.clo i hi' (fun q => hn (List.mem_append_left _ q)) hz j hj)
theorem FInv.done {n : Nat} {es : List Edge} {k h : Nat} {Fl Rw : List Nat} (I : FInv n es k Fl Rw fun i => i = h) (ha : ∀ j ∈ nbs es h, j ∈ Fl) : FInv n es k Fl Rw (fun _ => False) :=
  ⟨I.chain, I.hdk, I.lt, I.sub, fun i hi hn _ => by
    by_cases e : i = h
    · rw [e]; exact ha
    · exact I.clo i hi hn e⟩
theorem FInv.part {n : Nat} {es : List Edge} {k : Nat} {Fl : List Nat} (I : FInv n es k Fl [] fun _ => False) : PartOf n es k Fl.reverse := by
  obtain ⟨t, e⟩ := I.hdk
  refine ⟨⟨t.reverse, by rw [e, List.reverse_cons]⟩, I.chain, fun i hi => I.lt i (by simpa using hi), fun i hi j hj => ?_⟩
  have := I.clo i (by simpa using hi) (by simp) id j hj
  simpa using this
theorem nodup_le {l : List Nat} {n : Nat} (nd : l.Nodup) (h : ∀ x ∈ l, x < n) : l.length ≤ n := by
  have p : l.Perm ((List.range n).filter fun x => decide (x ∈ l)) := (List.perm_ext_iff_of_nodup nd (List.nodup_range.filter _)).mpr fun a => by
    rw [List.mem_filter, List.mem_range, decide_eq_true_eq]
    exact ⟨fun q => ⟨h a q, q⟩, fun q => q.2⟩
  rw [p.length_eq]
  refine Nat.le_trans (List.length_filter_le _ _) ?_
  rw [List.length_range]; exact Nat.le_refl _
theorem FInv.le {n : Nat} {es : List Edge} {k : Nat} {Fl Rw : List Nat} {z : Nat → Prop} (I : FInv n es k Fl Rw z) : Fl.length ≤ n :=
  nodup_le ((List.reverse_perm Fl).nodup_iff.mp I.chain.nodup) I.lt
/-- just one part -/
def LowAll (n : Nat) (es : List Edge) : Prop := (∃ P, PartOf n es 0 P) ∧ ∀ k, 0 < k → k < n → ∃ P, PartOf n es k P ∧ ∃ j ∈ P, j < k
theorem tree_low {n : Nat} {es : List Edge} (g : Good n es) (h : LowAll n es) (h0 : 0 < n) (hl : es.length + 1 = n) : Tree n es := by
  obtain ⟨⟨P0, p0⟩, h1⟩ := h
  let f : Nat → List Nat := fun k => if h : 0 < k ∧ k < n then Classical.choose (h1 k h.1 h.2) else P0
  refine tree_of g f (fun k hk => ?_) (fun k k0 kn => ?_) h0 hl
  · by_cases e : 0 < k
    · show PartOf n es k (if h : 0 < k ∧ k < n then Classical.choose (h1 k h.1 h.2) else P0)
      rw [dif_pos ⟨e, hk⟩]
      exact (Classical.choose_spec (h1 k e hk)).1
    · have e0 : k = 0 := by omega
      subst e0
      show PartOf n es 0 (if h : 0 < 0 ∧ 0 < n then Classical.choose (h1 0 h.1 h.2) else P0)
      rw [dif_neg (by omega)]
      exact p0
  · show ∃ j ∈ (if h : 0 < k ∧ k < n then Classical.choose (h1 k h.1 h.2) else P0), j < k
    rw [dif_pos ⟨k0, kn⟩]
    exact (Classical.choose_spec (h1 k k0 kn)).2
section
variable {P : Program} {w : World} {K : PySem.W.Frag} {mg : Str → Option Value} {base : Heap}
/-! ### part_in -/
abbrev s_part_in : Stmt := topS 15
theorem sc_part_in : FnScope ["web", "place", "found", "rows", "here", "there"] ["web", "place"] (defScope s_part_in) := ⟨rfl, rfl, rfl, by decide +kernel, rfl, by decide +kernel, by decide +kernel⟩
def sp_part_in : Sp := fun vs H Q _ => ∃ (p : Addr) (n k : Nat) (es : List Edge), vs = [.ref p, nI k] ∧ WebAt H p n es ∧ IsWeb n es ∧ k < n ∧
  ∀ (H' : Hp) (r : Addr) (ns Pt : List Nat), Same H H' → H r = none → PartOf n es k Pt → ns.Perm Pt → ns.Pairwise (· ≤ ·) → H' r = some (.lst (ns.map nI)) → Q (.ref r) H'
theorem ok_part_in {f : Addr} {fd : FuncData} (B : Bi mg) (D_neighbours_in : TNbs P w K mg base) (F : Fun K "part_in" "part_in" s_part_in f fd) :
    FnOk P w K mg base CX0 2 f fd ["web", "place"] sp_part_in := by
  refine F.ok sc_part_in (fun vs H Q E h => ?_) (fun cdv A outer s H vs Q E hr h => ?_)
  · obtain ⟨p, n, k, es, rfl, _⟩ := h
    rfl
  obtain ⟨p, n, k, es, rfl, W0, J, hk, q⟩ := h
  have h6 := J.le
  refine ⟨_, (pss_cons (ps_par (i := 2) (j := 3) (by rfl) sc_part_in.nd rfl rfl (by decide) rfl rfl (pa_cons (pe_lst (pa_cons (pv 1) pa_nil)) (pa_cons (pe_lst (pa_cons (pv 1) pa_nil)) pa_nil)) (by rfl))
    (pss_cons (ps_while PassesOwn.never (pt_cmpR (kx_neD K rfl hr.units) (pv 3) (pe_lst pa_nil) (nomark _))
      (pss_cons (ps_set (i := 4) sc_part_in.nd rfl (Or.inl rfl) (pe_bm0 PySem.F.plainAttrs_list PySem.F.slot_list_pop PySem.F.type_list_pop mt_pop (pv 3)))
        (pss_one (ps_for PassesOwn.never rfl (kx_pi_list K rfl (pe_df D_neighbours_in (hr.mono (by omega)) (by rfl) (pa_cons (pv 0) (pa_cons (pv 4) pa_nil)))) (pg_name (i := 5) sc_part_in.nd rfl (Or.inl rfl))
          (pss_one (ps_if (pt_cmpR (kx_notIn K rfl) (pv 5) (pv 2) (by rfl))
              (pss_cons (ps_expr (pe_bm PySem.F.plainAttrs_list PySem.F.slot_list_append PySem.F.type_list_append mt_append (pv 2) (pa_cons (pv 5) pa_nil)))
                (pss_one (ps_expr (pe_bm PySem.F.plainAttrs_list PySem.F.slot_list_append PySem.F.type_list_append mt_append (pv 3) (pa_cons (pv 5) pa_nil)))))
              pss_nil))))))
    (pss_one (ps_ret (pe_callB (kx_sortedI K rfl) (by rfl) B.sorted (by decide +kernel) (pa_cons (pv 2) pa_nil)))))), ?_⟩
  refine ⟨_, rfl, (by show 1 ≤ sizeLine; decide), fun a na => ?_⟩
  have s1 : Same H (upd H a (.lst [nI k])) := same_upd na
  refine ⟨_, rfl, (by show 1 ≤ sizeLine; decide), fun b nb => ?_⟩
  have s2 := sm_upd (o := .lst [nI k]) s1 (s1.free nb)
  have nab : a ≠ b := ne_of_none upd_same nb
  refine ⟨_, _, rfl, ?_⟩
  refine ⟨fun m σ H' => ∃ (Fl Rw : List Nat) (y4 y5 : Option V), σ = [some (.ref p), some (nI k), some (.ref a), some (.ref b), y4, y5] ∧ Same H H' ∧ H' a = some (.lst (Fl.map nI)) ∧ H' b = some (.lst (Rw.map nI)) ∧ FInv n es k Fl Rw (fun _ => False) ∧ m = (n - Fl.length) + Rw.length ∧ m ≤ n,
    ⟨_, [k], [k], none, none, rfl, s2, by rw [upd_ne nab, upd_same]; rfl, upd_same, FInv.start hk, rfl, by show n - 1 + 1 ≤ n; omega⟩, ?_⟩
  rintro m σ H1 ⟨Fl, Rw, y4, y5, rfl, sm, ha, hb, I, rfl, hmn⟩
  refine ⟨_, rfl, Nat.zero_le _, fun e0 ne0 => ?_⟩
  have sm2 := sm_upd (o := .lst []) sm (sm.free ne0)
  have nae : a ≠ e0 := ne_of_none ha ne0
  have nbe : b ≠ e0 := ne_of_none hb ne0
  have ha2 : (upd H1 e0 (.lst [])) a = some (.lst (Fl.map nI)) := by rw [upd_ne nae]; exact ha
  have hb2 : (upd H1 e0 (.lst [])) b = some (.lst (Rw.map nI)) := by rw [upd_ne nbe]; exact hb
  refine ⟨.list (Rw.map fun k : Nat => .int (k : Int)), .list [], .lst (SqL.of hb2) (dp_map (fun k => .int _) _), .lst (SqL.of upd_same) .nil, shaped_flat (fun d hd => ?_), shaped_nil, ?_⟩
  · obtain ⟨k', _, rfl⟩ := List.mem_map.mp hd
    exact .inr ⟨_, rfl⟩
  rw [eqv_nil]
  refine ⟨_, rfl, ?_⟩
  generalize upd H1 e0 (.lst []) = H2 at sm2 ha2 hb2 ⊢
  rcases List.eq_nil_or_concat Rw with e | ⟨Rw', h, e⟩
  · subst e
    refine iteF ?_
    have hle := I.le
    refine ⟨_, rfl, a, Fl.map fun k : Nat => (k : Int), rfl, by rw [← nI_map]; exact SqL.of ha2, fun ns' r pm so nr => ?_⟩
    obtain ⟨m, pm', em, em2⟩ := perm_nats pm
    refine q _ r m Fl.reverse (sm_upd sm2 (sm2.free nr)) (sm2.free nr) I.part (pm'.trans (List.reverse_perm Fl).symm) ?_ (by rw [upd_same, em])
    rw [em2, List.pairwise_map] at so
    exact so.imp fun {x y} h => by omega
  · rw [List.concat_eq_append] at e
    subst e
    have cne : ¬ ((Rw' ++ [h]).map fun k : Nat => PyData.int (k : Int)) = [] := by simp
    rw [decide_eq_false cne]
    refine iteT ⟨fun σ H' => ∃ (Fl2 Rw2 : List Nat) (y4 y5 : Option V), σ = [some (.ref p), some (nI k), some (.ref a), some (.ref b), y4, y5] ∧ Same H H' ∧ H' a = some (.lst (Fl2.map nI)) ∧ H' b = some (.lst (Rw2.map nI)) ∧ FInv n es k Fl2 Rw2 (fun _ => False) ∧ (n - Fl2.length) + Rw2.length < (n - Fl.length) + (Rw' ++ [h]).length,
      fun σ' H' ⟨Fl2, Rw2, z4, z5, e1, e2, e3, e4, e5, e6⟩ => ⟨_, e6, Fl2, Rw2, z4, z5, e1, e2, e3, e4, e5, rfl, by omega⟩, ?_⟩
    have hh : h ∈ Fl := I.sub h (List.mem_append_right _ (List.mem_singleton_self _))
    have hhn : h < n := I.lt h hh
    have emap : ((Rw' ++ [h]).map nI)[((Rw' ++ [h]).map nI).length - 1]? = some (nI h) := by
      rw [List.map_append, List.length_append]
      show (Rw'.map nI ++ [nI h])[_]? = _
      rw [List.getElem?_append_right (by simp)]
      simp
    have edrop : ((Rw' ++ [h]).map nI).dropLast = Rw'.map nI := by rw [List.map_append]; exact List.dropLast_concat
    refine ⟨_, rfl, .inl ⟨rfl, _, SqL.of hb2⟩, b, _, nI h, rfl, rfl, hb2, emap, ?_⟩
    rw [edrop]
    have sm3 : Same H (upd H2 b (.lst (Rw'.map nI))) := fun b' o' e' => by
      rw [upd_ne (ne_of_none (s1 _ _ e') nb)]; exact sm2 _ _ e'
    have ha3 : (upd H2 b (.lst (Rw'.map nI))) a = some (.lst (Fl.map nI)) := by rw [upd_ne nab]; exact ha2
    have hb3 : (upd H2 b (.lst (Rw'.map nI))) b = some (.lst (Rw'.map nI)) := upd_same
    generalize upd H2 b (.lst (Rw'.map nI)) = H3 at sm3 ha3 hb3 ⊢
    refine ⟨_, rfl, _, rfl, p, n, h, es, rfl, W0.same sm3, J.len, fun H4 r nbr s4 nr pmn hr4 => ?_⟩
    have nar : a ≠ r := ne_of_none ha3 nr
    have nbr' : b ≠ r := ne_of_none hb3 nr
    have sm4 := sm3.trans s4
    refine ⟨r, rfl, ⟨_, SqL.of hr4⟩, ?_⟩
    refine for_list (K := K) (a := r) (xs := nbr.map nI) (fun i σ H' => ∃ (Fl2 Rw2 : List Nat) (y5 : Option V), σ = [some (.ref p), some (nI k), some (.ref a), some (.ref b), some (nI h), y5] ∧ Same H H' ∧ H' r = some (.lst (nbr.map nI)) ∧ H' a = some (.lst (Fl2.map nI)) ∧ H' b = some (.lst (Rw2.map nI)) ∧
        FInv n es k Fl2 Rw2 (fun i => i = h) ∧ h ∈ Fl2 ∧ (∀ x ∈ nbr.take i, x ∈ Fl2) ∧ (n - Fl2.length) + Rw2.length + 1 ≤ (n - Fl.length) + (Rw' ++ [h]).length)
      ⟨Fl, Rw', y5, rfl, sm4, hr4, s4 _ _ ha3, s4 _ _ hb3, I.pop, hh, by simp, by rw [List.length_append, List.length_singleton]; omega⟩ (fun i σ H' _ ⟨_, _, _, _, _, z, _⟩ => SqL.of z) ?_ ?_
    · rintro i x σ H5 hx ⟨Fl2, Rw2, y5, rfl, sm5, hr5, ha5, hb5, I5, hh5, hn5, hm5⟩
      obtain ⟨t, ht, rfl⟩ := map_at hx
      have htn : t ∈ nbs es h := pmn.mem_iff.mp (List.mem_of_getElem? ht)
      have hR : Rw2.length ≤ 6 := by
        rw [List.length_append, List.length_singleton] at hm5 hmn
        omega
      have hF : Fl2.length ≤ n := I5.le
      refine ⟨_, rfl, _, rfl, a, _, rfl, .inl (SqL.of ha5), rfl, flat_nats _, _, rfl, ?_⟩
      show if (!inV (nI t) (Fl2.map nI)) = true then _ else _
      rw [inV_nats]
      by_cases c : t ∈ Fl2
      · rw [decide_eq_true c]
        refine iteF ⟨Fl2, Rw2, _, rfl, sm5, hr5, ha5, hb5, I5, hh5, fun x hx => ?_, hm5⟩
        rw [List.take_add_one, ht] at hx
        rcases List.mem_append.mp hx with hx | hx
        · exact hn5 x hx
        · rw [List.mem_singleton.mp hx]; exact c
      · rw [decide_eq_false c]
        have I6 := I5.push J.good hh5 htn c
        have hF6 : (Fl2 ++ [t]).length ≤ n := I6.le
        rw [List.length_append, List.length_singleton] at hF6
        refine iteT ?_
        refine ⟨_, rfl, .inl ⟨rfl, _, SqL.of ha5⟩, _, rfl, a, _, _, rfl, rfl, ha5, small1000 (by rw [List.length_map]; omega), ?_⟩
        have hb6 : (upd H5 a (.lst (Fl2.map nI ++ [nI t]))) b = some (.lst (Rw2.map nI)) := by rw [upd_ne nab.symm]; exact hb5
        refine ⟨_, rfl, .inl ⟨rfl, _, SqL.of hb6⟩, _, rfl, b, _, _, rfl, rfl, hb6, small1000 (by rw [List.length_map]; omega), ?_⟩
        refine ⟨Fl2 ++ [t], Rw2 ++ [t], _, rfl, fun b' o' e' => ?_, ?_, ?_, ?_, I6, List.mem_append_left _ hh5, fun x hx => ?_, ?_⟩
        · rw [upd_ne (ne_of_none (s1 _ _ e') nb), upd_ne (ne_of_none e' na)]
          exact sm5 _ _ e'
        · rw [upd_ne nbr'.symm, upd_ne nar.symm]; exact hr5
        · rw [upd_ne nab, upd_same, List.map_append]; rfl
        · rw [upd_same, List.map_append]; rfl
        · rw [List.take_add_one, ht] at hx
          rcases List.mem_append.mp hx with hx | hx
          · exact List.mem_append_left _ (hn5 x hx)
          · rw [List.mem_singleton.mp hx]; exact List.mem_append_right _ (List.mem_singleton_self _)
        · rw [List.length_append (as := Fl2), List.length_append (as := Rw2), List.length_singleton]
          omega
    · rintro σ H5 ⟨Fl2, Rw2, y5, rfl, sm5, hr5, ha5, hb5, I5, hh5, hn5, hm5⟩
      rw [List.length_map, List.take_length] at hn5
      exact ⟨Fl2, Rw2, _, _, rfl, sm5, ha5, hb5, I5.done fun j hj => hn5 j (pmn.mem_iff.mpr hj), by omega⟩
abbrev TPart (P : Program) (w : World) (K : PySem.W.Frag) (mg : Str → Option Value) (base : Heap) : Prop := Df P w K mg base "part_in" 2 ["web", "place"] sp_part_in
/-! ### parts_in -/
abbrev s_parts_in : Stmt := topS 16
theorem sc_parts_in : FnScope ["web", "found", "k", "part"] ["web"] (defScope s_parts_in) := ⟨rfl, rfl, rfl, by decide +kernel, rfl, by decide +kernel, by decide +kernel⟩
def sp_parts_in : Sp := fun vs H Q _ => ∃ (p : Addr) (n : Nat) (es : List Edge), vs = [.ref p] ∧ WebAt H p n es ∧ IsWeb n es ∧ ∀ (H' : Hp) (r : Addr) (xs : List V), Same H H' → H' r = some (.lst xs) → (xs.length = 1 → LowAll n es) → Q (.ref r) H'
theorem ok_parts_in {f : Addr} {fd : FuncData} (B : Bi mg) (D_part_in : TPart P w K mg base) (F : Fun K "parts_in" "parts_in" s_parts_in f fd) :
    FnOk P w K mg base CX0 3 f fd ["web"] sp_parts_in := by
  refine F.ok sc_parts_in (fun vs H Q E h => ?_) (fun cdv A outer s H vs Q E hr h => ?_)
  · obtain ⟨p, n, es, rfl, _⟩ := h
    rfl
  obtain ⟨p, n, es, rfl, W0, J, q⟩ := h
  have h6 := J.le
  have h0 := J.pos
  refine ⟨_, (pss_cons (ps_set (i := 1) sc_parts_in.nd rfl (Or.inl rfl) (pe_lst pa_nil))
    (pss_cons (ps_for PassesOwn.never rfl (pi_range1 (by rfl) B.range (pa_cons (pe_ix (kx_ix_tup K rfl) (pv 0) pe_int (fun _ _ => rfl)) pa_nil)) (pg_name (i := 2) sc_parts_in.nd rfl (Or.inl rfl))
      (pss_cons (ps_set (i := 3) sc_parts_in.nd rfl (Or.inl rfl) (pe_df D_part_in (hr.mono (by omega)) (by rfl) (pa_cons (pv 0) (pa_cons (pv 2) pa_nil))))
        (pss_one (ps_if (pt_cmpR op_eq (pe_ix (kx_ix_list K rfl) (pv 3) pe_int (fun _ _ => rfl)) (pv 2) (nomark _))
          (pss_one (ps_expr (pe_bm PySem.F.plainAttrs_list PySem.F.slot_list_append PySem.F.type_list_append mt_append (pv 1) (pa_cons (pv 3) pa_nil))))
          pss_nil))))
    (pss_one (ps_ret (pv 1))))), ?_⟩
  obtain ⟨qa, ea, h1, h2, h3⟩ := id W0
  refine ⟨Nat.zero_le _, fun l nl => ?_⟩
  have s1 : Same H (upd H l (.lst [])) := same_upd nl
  refine ⟨_, rfl, p, _, _, _, rfl, rfl, SqT.of (s1 _ _ h1), atI_nat (j := 0) rfl, n, rfl, by omega, by omega, ?_⟩
  refine for_range (lo := 0) (n := (n : Int).toNat) (fun i σ H' => ∃ (xs : List V) (y z : Option V), σ = [some (.ref p), some (.ref l), y, z] ∧ Same H H' ∧ H' l = some (.lst xs) ∧ xs.length ≤ i ∧ (0 < i → 1 ≤ xs.length ∧ (∃ Pt, PartOf n es 0 Pt) ∧ (xs.length = 1 → ∀ k, 0 < k → k < i → ∃ Pt, PartOf n es k Pt ∧ ∃ j ∈ Pt, j < k)))
    ⟨[], none, none, rfl, s1, upd_same, Nat.le_refl _, fun h => absurd h (Nat.lt_irrefl _)⟩ ?_ ?_
  · rintro i σ H1 hi ⟨xs, y, z, rfl, sm, hl, hxl, hx⟩
    have hin : i < n := by omega
    have ei : (0 : Int) + (i : Int) = (i : Int) := Int.zero_add _
    rw [ei]
    refine ⟨_, rfl, _, rfl, p, n, i, es, rfl, W0.same sm, J, hin, fun H2 r ns Pt s2 nr hP pm so hr2 => ?_⟩
    have nlr : l ≠ r := ne_of_none hl nr
    obtain ⟨⟨Qt, eQ⟩, _, _, _⟩ := id hP
    have him : i ∈ ns := pm.mem_iff.mpr (by rw [eQ]; simp)
    cases ns with
    | nil => cases him
    | cons m ms =>
      have hmi : m ≤ i := by
        rcases List.mem_cons.mp him with e | e
        · omega
        · exact (List.pairwise_cons.mp so).1 i e
      have hmP : m ∈ Pt := pm.mem_iff.mp List.mem_cons_self
      refine ⟨_, rfl, r, _, _, nI m, rfl, rfl, SqL.of hr2, atI_nat (j := 0) rfl, _, rfl, rfl, _, rfl, ?_⟩
      have sm2 := sm.trans s2
      by_cases c : m = i
      · subst c
        refine ite2 (fun _ => ?_) (fun c => absurd (decide_eq_true rfl) c)
        refine ⟨_, rfl, .inl ⟨rfl, _, SqL.of (s2 _ _ hl)⟩, _, rfl, l, _, _, rfl, rfl, s2 _ _ hl, small1000 (by omega), ?_⟩
        refine ⟨_, _, _, rfl, fun b' o' e' => ?_, upd_same, by rw [List.length_append, List.length_singleton]; omega, fun _ => ⟨by rw [List.length_append, List.length_singleton]; omega, ?_, fun e => ?_⟩⟩
        · rw [upd_ne (ne_of_none e' nl)]; exact sm2 _ _ e'
        · by_cases e0 : m = 0
          · subst e0; exact ⟨Pt, hP⟩
          · exact (hx (by omega)).2.1
        · rw [List.length_append, List.length_singleton] at e
          intro k k0 kn
          exfalso
          by_cases e0 : m = 0
          · omega
          · have := (hx (by omega)).1
            omega
      · have hmi' : m < i := by omega
        refine ite2 (fun c2 => absurd (V.int.inj (of_decide_eq_true c2)) (by omega)) (fun _ => ?_)
        obtain ⟨x1, x2, x3⟩ := hx (by omega)
        refine ⟨xs, _, _, rfl, sm2, s2 _ _ hl, by omega, fun _ => ⟨x1, x2, fun e k k0 kn => ?_⟩⟩
        by_cases ek : k = i
        · subst ek; exact ⟨Pt, hP, m, hmP, hmi'⟩
        · exact x3 e k k0 (by omega)
  · rintro σ H1 ⟨xs, y, z, rfl, sm, hl, hxl, hx⟩
    rw [Int.toNat_natCast] at hx
    obtain ⟨x1, x2, x3⟩ := hx (by omega)
    exact ⟨_, rfl, q H1 l xs sm hl fun e => ⟨x2, x3 e⟩⟩
abbrev TParts (P : Program) (w : World) (K : PySem.W.Frag) (mg : Str → Option Value) (base : Heap) : Prop := Df P w K mg base "parts_in" 3 ["web"] sp_parts_in
/-! ### is_forest_in -/
abbrev s_is_forest_in : Stmt := topS 17
theorem sc_is_forest_in : FnScope ["web"] ["web"] (defScope s_is_forest_in) := ⟨rfl, rfl, rfl, by decide +kernel, rfl, by decide +kernel, by decide +kernel⟩
def sp_is_forest_in : Sp := fun vs H Q _ => ∃ (p : Addr) (n : Nat) (es : List Edge), vs = [.ref p] ∧ WebAt H p n es ∧ IsWeb n es ∧ ∀ (H' : Hp) (b : Bool), Same H H' → (b = true → es.length + 1 = n → LowAll n es) → Q (.bl b) H'
theorem ok_is_forest_in {f : Addr} {fd : FuncData} (B : Bi mg) (D_parts_in : TParts P w K mg base) (F : Fun K "is_forest_in" "is_forest_in" s_is_forest_in f fd) :
    FnOk P w K mg base CX0 4 f fd ["web"] sp_is_forest_in := by
  refine F.ok sc_is_forest_in (fun vs H Q E h => ?_) (fun cdv A outer s H vs Q E hr h => ?_)
  · obtain ⟨p, n, es, rfl, _⟩ := h
    rfl
  obtain ⟨p, n, es, rfl, W0, J, q⟩ := h
  refine ⟨_, (pss_one (ps_ret (pe_cmpR op_eq (pe_callB (kx_len K rfl) (by rfl) B.len PySem.boot_len (pa_cons (pe_ix (kx_ix_tup K rfl) (pv 0) pe_int (fun _ _ => rfl)) pa_nil)) (pe_op op_sub (pe_ix (kx_ix_tup K rfl) (pv 0) pe_int (fun _ _ => rfl)) (pe_callB (kx_len K rfl) (by rfl) B.len PySem.boot_len (pa_cons (pe_df D_parts_in (hr.mono (by omega)) (by rfl) (pa_cons (pv 0) pa_nil)) pa_nil))) (nomark _)))), ?_⟩
  obtain ⟨qa, ea, h1, h2, h3⟩ := id W0
  have hlen : ea.length = es.length := paired_len h3
  refine ⟨_, rfl, p, _, _, _, rfl, rfl, SqT.of h1, atI_nat (j := 1) rfl, qa, _, rfl, .inr (SqT.of h2), ?_⟩
  refine ⟨_, rfl, p, _, _, _, rfl, rfl, SqT.of h1, atI_nat (j := 0) rfl, _, rfl, p, n, es, rfl, W0, J, fun H1 r xs s1 hr1 hx => ?_⟩
  refine ⟨r, _, rfl, .inl (SqL.of hr1), _, _, rfl, rfl, rfl, ?_⟩
  refine q H1 _ s1 fun hb hl => hx ?_
  have e := V.int.inj (of_decide_eq_true hb)
  rw [List.length_map, hlen] at e
  omega
abbrev TForest (P : Program) (w : World) (K : PySem.W.Frag) (mg : Str → Option Value) (base : Heap) : Prop := Df P w K mg base "is_forest_in" 4 ["web"] sp_is_forest_in
/-! ### is_tree -/
abbrev s_is_tree : Stmt := topS 18
theorem sc_is_tree : FnScope ["web"] ["web"] (defScope s_is_tree) := ⟨rfl, rfl, rfl, by decide +kernel, rfl, by decide +kernel, by decide +kernel⟩
def sp_is_tree : Sp := fun vs H Q _ => ∃ (p : Addr) (n : Nat) (es : List Edge), vs = [.ref p] ∧ WebAt H p n es ∧ IsWeb n es ∧ ∀ (H' : Hp) (b : Bool), Same H H' → (b = true → Tree n es) → Q (.bl b) H'
theorem ok_is_tree {f : Addr} {fd : FuncData} (B : Bi mg) (D_need_web : TNeedWeb P w K mg base) (D_is_forest_in : TForest P w K mg base) (F : Fun K "is_tree" "is_tree" s_is_tree f fd) :
    FnOk P w K mg base CX0 5 f fd ["web"] sp_is_tree := by
  refine F.ok sc_is_tree (fun vs H Q E h => ?_) (fun cdv A outer s H vs Q E hr h => ?_)
  · obtain ⟨p, n, es, rfl, _⟩ := h
    rfl
  obtain ⟨p, n, es, rfl, W0, J, q⟩ := h
  refine ⟨_, (pss_cons (ps_expr (pe_df D_need_web (hr.mono (by omega)) (by rfl) (pa_cons (pv 0) pa_nil)))
    (pss_one (ps_ret (pe_and (pe_df D_is_forest_in (hr.mono (by omega)) (by rfl) (pa_cons (pv 0) pa_nil)) (pe_one (pe_cmpR op_eq (pe_callB (kx_len K rfl) (by rfl) B.len PySem.boot_len (pa_cons (pe_ix (kx_ix_tup K rfl) (pv 0) pe_int (fun _ _ => rfl)) pa_nil)) (pe_op op_sub (pe_ix (kx_ix_tup K rfl) (pv 0) pe_int (fun _ _ => rfl)) pe_int) (nomark _))))))), ?_⟩
  refine ⟨_, rfl, p, n, es, rfl, W0, J, fun H1 s1 => ?_⟩
  refine ⟨_, rfl, p, n, es, rfl, W0.same s1, J, fun H2 b s2 hb => ?_⟩
  have t2 := s1.trans s2
  obtain ⟨qa, ea, h1, h2, h3⟩ := W0.same t2
  have hlen : ea.length = es.length := paired_len h3
  refine ⟨b, rfl, ?_⟩
  cases b with
  | false => exact iteF (q H2 false t2 fun e => by cases e)
  | true =>
    refine iteT ?_
    refine ⟨_, rfl, p, _, _, _, rfl, rfl, SqT.of h1, atI_nat (j := 1) rfl, qa, _, rfl, .inr (SqT.of h2), _, rfl, p, _, _, _, rfl, rfl, SqT.of h1, atI_nat (j := 0) rfl, _, _, rfl, rfl, rfl, ?_⟩
    refine q H2 _ t2 fun hb2 => ?_
    have e := V.int.inj (of_decide_eq_true hb2)
    rw [List.length_map, hlen] at e
    have h0 := J.pos
    exact tree_low J.good (hb rfl (by omega)) (by omega) (by omega)
abbrev TTree (P : Program) (w : World) (K : PySem.W.Frag) (mg : Str → Option Value) (base : Heap) : Prop := Df P w K mg base "is_tree" 5 ["web"] sp_is_tree
end
end K23P

namespace K23P
open PySem PySem.Spec PyProof.Rows L2 K23 K23R
/-! ### the law's row of draws -/
def RowC (H : Hp) (r sc : Addr) : Prop := ∃ (i s d : Int), H r = some (.lst [.ref sc, .int i, .int s, .int d]) ∧ 0 ≤ i ∧ 0 ≤ s ∧ s < 2147483647
def RowAt (K : PySem.W.Frag) (H : Hp) (r sc : Addr) (ns : List Int) : Prop := RowC H r sc ∧ SqL K H sc (ns.map V.int) ∧ (sc ≠ r ∨ ∀ H', SqL K H' sc (ns.map V.int))
theorem sqL_sb {K : PySem.W.Frag} {d a : Addr} {H H' : Hp} {xs : List V} (s : SameB d H H') (n : a ≠ d ∨ ∀ H', SqL K H' a xs) (h : SqL K H a xs) : SqL K H' a xs := by
  rcases n with n | n
  case inr => exact n _
  rcases h with (h | ⟨o, h⟩) | h
  · exact .inl (.inl (s _ _ n h))
  · exact .inl (.inr ⟨o, s _ _ n h⟩)
  · exact .inr h
theorem sqL_new {K : PySem.W.Frag} {r a : Addr} {H : Hp} {xs : List V} (h : SqL K H a xs) (nr : H r = none) : a ≠ r ∨ ∀ H', SqL K H' a xs := by
  rcases h with (h | ⟨o, h⟩) | h
  · exact .inl (ne_of_none h nr)
  · exact .inl (ne_of_none h nr)
  · exact .inr fun _ => .inr h
theorem RowC.sb {d r sc : Addr} {H H' : Hp} (s : SameB d H H') (n : r ≠ d) (h : RowC H r sc) : RowC H' r sc := by
  obtain ⟨i, t, d', h1, h2⟩ := h
  exact ⟨i, t, d', s _ _ n h1, h2⟩
theorem RowC.same {H H' : Hp} {r sc : Addr} (s : Same H H') (h : RowC H r sc) : RowC H' r sc := by
  obtain ⟨i, t, d', h1, h2⟩ := h
  exact ⟨i, t, d', s _ _ h1, h2⟩
theorem RowAt.step {K : PySem.W.Frag} {H H' : Hp} {r sc : Addr} {ns : List Int} (h : RowAt K H r sc ns) (s : SameB r H H') (c : RowC H' r sc) : RowAt K H' r sc ns := ⟨c, sqL_sb s h.2.2 h.2.1, h.2.2⟩
theorem RowAt.same {K : PySem.W.Frag} {H H' : Hp} {r sc : Addr} {ns : List Int} (s : Same H H') (h : RowAt K H r sc ns) : RowAt K H' r sc ns := h.step (SameB.of s) (h.1.same s)
theorem RowC.put {H : Hp} {r sc : Addr} {i s d : Int} (h1 : 0 ≤ i) (h2 : 0 ≤ s) (h3 : s < 2147483647) : RowC (upd H r (.lst [.ref sc, .int i, .int s, .int d])) r sc := ⟨i, s, d, upd_same, h1, h2, h3⟩
theorem fmod_in {x m : Int} (h : 0 < m) : 0 ≤ x.fmod m ∧ x.fmod m < m := by
  rw [Int.fmod_eq_emod_of_nonneg _ (by omega)]
  exact ⟨Int.emod_nonneg _ (by omega), Int.emod_lt_of_pos _ h⟩
section
variable {P : Program} {w : World} {K : PySem.W.Frag} {mg : Str → Option Value} {base : Heap}
/-! ### _law_taken -/
abbrev s_law_taken : Stmt := topS 39
theorem sc__law_taken : FnScope ["_law_row", "_law_many", "_law_found", "_law_cell"] ["_law_row", "_law_many"] (defScope s_law_taken) := ⟨rfl, rfl, rfl, by decide +kernel, rfl, by decide +kernel, by decide +kernel⟩
def sp_law_taken (K : PySem.W.Frag) : Sp := fun vs H Q _ => ∃ (r sc : Addr) (ns : List Int) (m : Int), vs = [.ref r, .int m] ∧ RowAt K H r sc ns ∧ 1 ≤ m ∧ m ≤ 1001 ∧ ∀ (H' : Hp) (v : Int), SameB r H H' → RowC H' r sc → 0 ≤ v → v < m → Q (.int v) H'
theorem ok_law_taken {f : Addr} {fd : FuncData} (B : Bi mg) (F : Fun K "_law_taken" "_law_taken" s_law_taken f fd) :
    FnOk P w K mg base CX0 1 f fd ["_law_row", "_law_many"] (sp_law_taken K) := by
  refine F.ok sc__law_taken (fun vs H Q E h => ?_) (fun cdv A outer s H vs Q E hr h => ?_)
  · obtain ⟨r, sc, ns, m, rfl, _⟩ := h
    rfl
  obtain ⟨r, sc, ns, m, rfl, ⟨⟨i, t, d, hrow, hi, ht0, ht1⟩, hsc, nsr⟩, hm1, hm2, q⟩ := h
  refine ⟨_, (pss_cons (ps_if (pt_cmpR op_gt (pe_ix (kx_ix_list K rfl) (pv 0) pe_int (fun _ _ => rfl)) pe_int (nomark _))
      (pss_cons (ps_set (i := 2) sc__law_taken.nd rfl (Or.inl rfl) (pe_op op_modN (pe_callTy call_int1 (by rfl) B.int (by decide +kernel) (pa_cons (pe_ix (kx_ix_list K rfl) (pv 0) pe_int (fun _ _ => rfl)) pa_nil)) (pv 1)))
        (pss_cons (ps_asg (pe_op op_fdivN (pe_ix (kx_ix_list K rfl) (pv 0) pe_int (fun _ _ => rfl)) (pv 1)) (pg_sub (pv 0) pe_int set_list))
        (pss_one (ps_ret (pv 2)))))
      pss_nil)
    (pss_cons (ps_asg (pe_op op_add (pe_ix (kx_ix_list K rfl) (pv 0) pe_int (fun _ _ => rfl)) pe_int) (pg_sub (pv 0) pe_int set_list))
    (pss_cons (ps_if (pt_cmpR op_gt (pe_ix (kx_ix_list K rfl) (pv 0) pe_int (fun _ _ => rfl)) (pe_callB (kx_len K rfl) (by rfl) B.len PySem.boot_len (pa_cons (pe_ix (kx_ix_list K rfl) (pv 0) pe_int (fun _ _ => rfl)) pa_nil)) (nomark _))
      (pss_cons (ps_asg (pe_op op_modN (pe_callTy call_int1 (by rfl) B.int (by decide +kernel) (pa_cons (pe_op op_add (pe_op op_mul (pe_ix (kx_ix_list K rfl) (pv 0) pe_int (fun _ _ => rfl)) pe_int) pe_int) pa_nil)) pe_int) (pg_sub (pv 0) pe_int set_list))
        (pss_one (ps_ret (pe_op op_modN (pe_callTy call_int1 (by rfl) B.int (by decide +kernel) (pa_cons (pe_op op_fdivN (pe_ix (kx_ix_list K rfl) (pv 0) pe_int (fun _ _ => rfl)) pe_int) pa_nil)) (pv 1)))))
      pss_nil)
    (pss_cons (ps_set (i := 3) sc__law_taken.nd rfl (Or.inl rfl) (pe_ix (kx_ix_list K rfl) (pe_ix (kx_ix_list K rfl) (pv 0) pe_int (fun _ _ => rfl)) (pe_op op_sub (pe_ix (kx_ix_list K rfl) (pv 0) pe_int (fun _ _ => rfl)) pe_int) (fun _ _ => rfl)))
    (pss_cons (ps_asg (pe_op op_modN (pe_callTy call_int1 (by rfl) B.int (by decide +kernel) (pa_cons (pe_op op_add (pe_op op_add (pe_op op_mul (pe_ix (kx_ix_list K rfl) (pv 0) pe_int (fun _ _ => rfl)) pe_int) (pv 3)) pe_int) pa_nil)) pe_int) (pg_sub (pv 0) pe_int set_list))
    (pss_cons (ps_if (pt_cmpR op_ge (pv 3) (pe_op op_pow pe_int pe_int) (nomark _))
      (pss_one (ps_asg (pe_op op_fdivN (pv 3) (pv 1)) (pg_sub (pv 0) pe_int set_list)))
      pss_nil)
    (pss_one (ps_ret (pe_op op_modN (pe_callTy call_int1 (by rfl) B.int (by decide +kernel) (pa_cons (pv 3) pa_nil)) (pv 1)))))))))), ?_⟩
  have hm0 : m ≠ 0 := by omega
  have hmN : m ≠ 0 ∧ m.natAbs < 1073741824 := ⟨hm0, by omega⟩
  have g0 : ∀ (a b c e : V), atI [a, b, c, e] (0 : Int) = some a := fun _ _ _ _ => atI_nat (j := 0) rfl
  have g1 : ∀ (a b c e : V), atI [a, b, c, e] (1 : Int) = some b := fun _ _ _ _ => atI_nat (j := 1) rfl
  have g2 : ∀ (a b c e : V), atI [a, b, c, e] (2 : Int) = some c := fun _ _ _ _ => atI_nat (j := 2) rfl
  have g3 : ∀ (a b c e : V), atI [a, b, c, e] (3 : Int) = some e := fun _ _ _ _ => atI_nat (j := 3) rfl
  refine ⟨_, rfl, r, _, _, _, rfl, rfl, SqL.of hrow, g3 _ _ _ _, _, _, rfl, rfl, _, rfl, ite2 (fun c => ?_) (fun c => ?_)⟩
  · refine ⟨_, rfl, r, _, _, _, rfl, rfl, SqL.of hrow, g3 _ _ _ _, .inl ⟨_, rfl, _, rfl, _, _, rfl, rfl, hm0, ?_⟩⟩
    refine ⟨_, rfl, r, _, _, _, rfl, rfl, SqL.of hrow, g3 _ _ _ _, _, rfl, _, _, rfl, rfl, hmN, _, rfl, r, _, _, 3, rfl, rfl, hrow, rfl, ?_⟩
    exact ⟨_, rfl, q _ _ SameB.upd (RowC.put hi ht0 ht1) (fmod_in (by omega)).1 (fmod_in (by omega)).2⟩
  · refine ⟨_, rfl, r, _, _, _, rfl, rfl, SqL.of hrow, g1 _ _ _ _, _, _, rfl, rfl, _, rfl, r, _, _, 1, rfl, rfl, hrow, rfl, ?_⟩
    have hrow1 : (upd H r (.lst (List.set [.ref sc, .int i, .int t, .int d] 1 (.int (i + 1))))) r = some (.lst [.ref sc, .int (i + 1), .int t, .int d]) := upd_same
    have sb1 : SameB r H (upd H r (.lst (List.set [.ref sc, .int i, .int t, .int d] 1 (.int (i + 1))))) := SameB.upd
    have hsc1 : SqL K (upd H r (.lst (List.set [.ref sc, .int i, .int t, .int d] 1 (.int (i + 1))))) sc (ns.map V.int) := sqL_sb sb1 nsr hsc
    generalize upd H r (.lst (List.set [.ref sc, .int i, .int t, .int d] 1 (.int (i + 1)))) = H1 at hrow1 sb1 hsc1 ⊢
    refine ⟨_, rfl, r, _, _, _, rfl, rfl, SqL.of hrow1, g1 _ _ _ _, _, rfl, r, _, _, _, rfl, rfl, SqL.of hrow1, g0 _ _ _ _, sc, _, rfl, .inl hsc1, _, _, rfl, rfl, _, rfl, ite2 (fun c1 => ?_) (fun c1 => ?_)⟩
    · refine ⟨_, rfl, r, _, _, _, rfl, rfl, SqL.of hrow1, g2 _ _ _ _, _, _, rfl, rfl, .inl ⟨by omega, by omega⟩, _, _, rfl, rfl, .inl ⟨_, rfl, _, _, rfl, rfl, (by show (2147483647 : Int) ≠ 0; decide), _, rfl, r, _, _, 2, rfl, rfl, hrow1, rfl, ?_⟩⟩
      have hm := fmod_in (x := t * 48271 + 11) (m := 2147483647) (by decide)
      have hrow2 : (upd H1 r (.lst (List.set [.ref sc, .int (i + 1), .int t, .int d] 2 (.int ((t * 48271 + 11).fmod 2147483647))))) r = some (.lst [.ref sc, .int (i + 1), .int ((t * 48271 + 11).fmod 2147483647), .int d]) := upd_same
      refine ⟨_, rfl, r, _, _, _, rfl, rfl, SqL.of hrow2, g2 _ _ _ _, _, _, rfl, rfl, ⟨by decide, by decide⟩, .inl ⟨_, rfl, _, rfl, _, _, rfl, rfl, hm0, ?_⟩⟩
      exact q _ _ (sb1.trans SameB.upd) (RowC.put (by omega) hm.1 hm.2) (fmod_in (by omega)).1 (fmod_in (by omega)).2
    · have c1' : ¬ (((ns.map V.int).length : Nat) : Int) < i + 1 := fun z => c1 (decide_eq_true z)
      rw [List.length_map] at c1'
      have hin : i.toNat < ns.length := by omega
      have ei : (i + 1 - 1) = ((i.toNat : Nat) : Int) := by omega
      refine ⟨_, rfl, r, _, _, _, rfl, rfl, SqL.of hrow1, g0 _ _ _ _, _, rfl, r, _, _, _, rfl, rfl, SqL.of hrow1, g1 _ _ _ _, _, _, rfl, rfl, sc, _, _, .int ns[i.toNat], rfl, rfl, hsc1, ?_, ?_⟩
      · show atI (ns.map V.int) (i + 1 - 1) = _
        rw [ei]
        exact atI_nat (by rw [List.getElem?_map, List.getElem?_eq_getElem hin]; rfl)
      generalize ns[i.toNat] = x
      refine ⟨_, rfl, r, _, _, _, rfl, rfl, SqL.of hrow1, g2 _ _ _ _, _, _, rfl, rfl, .inl ⟨by omega, by omega⟩, _, rfl, _, _, rfl, rfl, _, _, rfl, rfl, .inl ⟨_, rfl, _, _, rfl, rfl, (by show (2147483647 : Int) ≠ 0; decide), _, rfl, r, _, _, 2, rfl, rfl, hrow1, rfl, ?_⟩⟩
      have hm := fmod_in (x := t * 48271 + x + 11) (m := 2147483647) (by decide)
      have hrow2 : (upd H1 r (.lst (List.set [.ref sc, .int (i + 1), .int t, .int d] 2 (.int ((t * 48271 + x + 11).fmod 2147483647))))) r = some (.lst [.ref sc, .int (i + 1), .int ((t * 48271 + x + 11).fmod 2147483647), .int d]) := upd_same
      have sb2 : SameB r H (upd H1 r (.lst (List.set [.ref sc, .int (i + 1), .int t, .int d] 2 (.int ((t * 48271 + x + 11).fmod 2147483647))))) := sb1.trans SameB.upd
      have hsc2 : SqL K (upd H1 r (.lst (List.set [.ref sc, .int (i + 1), .int t, .int d] 2 (.int ((t * 48271 + x + 11).fmod 2147483647))))) sc (ns.map V.int) := sqL_sb SameB.upd nsr hsc1
      generalize upd H1 r (.lst (List.set [.ref sc, .int (i + 1), .int t, .int d] 2 (.int ((t * 48271 + x + 11).fmod 2147483647)))) = H2 at hrow2 sb2 hsc2 ⊢
      refine ⟨_, rfl, _, _, rfl, rfl, ⟨by decide, by decide, by decide⟩, _, _, rfl, rfl, _, rfl, ite2 (fun c2 => ?_) (fun c2 => ?_)⟩
      · refine ⟨_, rfl, _, rfl, _, _, rfl, rfl, hmN, _, rfl, r, _, _, 3, rfl, rfl, hrow2, rfl, ?_⟩
        refine ⟨_, rfl, .inl ⟨_, rfl, _, rfl, _, _, rfl, rfl, hm0, ?_⟩⟩
        exact q _ _ (sb2.trans SameB.upd) (RowC.put (by omega) hm.1 hm.2) (fmod_in (by omega)).1 (fmod_in (by omega)).2
      · refine ⟨_, rfl, .inl ⟨_, rfl, _, rfl, _, _, rfl, rfl, hm0, ?_⟩⟩
        exact q _ _ sb2 ⟨_, _, _, hrow2, by omega, hm.1, hm.2⟩ (fmod_in (by omega)).1 (fmod_in (by omega)).2
abbrev TLTaken (P : Program) (w : World) (K : PySem.W.Frag) (mg : Str → Option Value) (base : Heap) : Prop := Df P w K mg base "_law_taken" 1 ["_law_row", "_law_many"] (sp_law_taken K)
end
end K23P

namespace K23P
open PySem PySem.Spec PyProof.Rows L2 K23 K23R
theorem cut_to (xs : List V) (j : Nat) (h : j ≤ xs.length) : cutV xs none (some (j : Int)) = xs.take j := by
  unfold cutV
  rw [HT.sIx_nat, HT.sIx_none, List.drop_zero, Nat.sub_zero, Nat.min_eq_left h]
theorem cut_from (xs : List V) (j : Nat) (h : j ≤ xs.length) : cutV xs (some (j : Int)) none = xs.drop j := by
  unfold cutV
  rw [HT.sIx_nat, HT.sIx_none, Nat.min_eq_left h, List.take_of_length_le]
  rw [List.length_drop]; exact Nat.le_refl _
theorem perm_pick {l : List Nat} {j : Nat} {x : Nat} (h : l[j]? = some x) : (x :: (l.take j ++ l.drop (j + 1))).Perm l := by
  have hj : j < l.length := (List.getElem?_eq_some_iff.mp h).1
  have e : l = l.take j ++ x :: l.drop (j + 1) := by
    have e1 : l.drop j = x :: l.drop (j + 1) := by
      rw [List.drop_eq_getElem_cons hj, (List.getElem?_eq_some_iff.mp h).2]
    rw [← e1, List.take_append_drop]
  conv => rhs; rw [e]
  exact List.perm_middle.symm
section
variable {P : Program} {w : World} {K : PySem.W.Frag} {mg : Str → Option Value} {base : Heap}
/-! ### _law_order -/
abbrev s_law_order : Stmt := topS 40
theorem sc__law_order : FnScope ["_law_row", "_law_many", "_law_left", "_law_found", "_law_turn", "_law_at"] ["_law_row", "_law_many"] (defScope s_law_order) := ⟨rfl, rfl, rfl, by decide +kernel, rfl, by decide +kernel, by decide +kernel⟩
def sp_law_order (K : PySem.W.Frag) : Sp := fun vs H Q _ => ∃ (r sc : Addr) (ns : List Int) (n : Nat), vs = [.ref r, nI n] ∧ RowAt K H r sc ns ∧ n ≤ 6 ∧ ∀ (H' : Hp) (q : Addr) (ord : List Nat), SameB r H H' → RowC H' r sc → H q = none → q ≠ r → ord.Perm (List.range n) → H' q = some (.lst (ord.map nI)) → Q (.ref q) H'
theorem ok_law_order {f : Addr} {fd : FuncData} (B : Bi mg) (D_law_taken : TLTaken P w K mg base) (F : Fun K "_law_order" "_law_order" s_law_order f fd) :
    FnOk P w K mg base CX0 2 f fd ["_law_row", "_law_many"] (sp_law_order K) := by
  refine F.ok sc__law_order (fun vs H Q E h => ?_) (fun cdv A outer s H vs Q E hr h => ?_)
  · obtain ⟨r, sc, ns, n, rfl, _⟩ := h
    rfl
  obtain ⟨r, sc, ns, n, rfl, R0, h6, q⟩ := h
  refine ⟨_, (pss_cons (ps_par (i := 2) (j := 3) (by rfl) sc__law_order.nd rfl rfl (by decide) rfl rfl (pa_cons (pe_listRg rfl (by rfl) B.list (prg_1 (by rfl) B.range (pv 1))) (pa_cons (pe_lst pa_nil) pa_nil)) (by rfl))
    (pss_cons (ps_for PassesOwn.never rfl (pi_range1 (by rfl) B.range (pa_cons (pv 1) pa_nil)) (pg_name (i := 4) sc__law_order.nd rfl (Or.inl rfl))
      (pss_cons (ps_set (i := 5) sc__law_order.nd rfl (Or.inl rfl) (pe_df D_law_taken (hr.mono (by omega)) (by rfl) (pa_cons (pv 0) (pa_cons (pe_callB (kx_len K rfl) (by rfl) B.len PySem.boot_len (pa_cons (pv 2) pa_nil)) pa_nil))))
        (pss_cons (ps_expr (pe_bm PySem.F.plainAttrs_list PySem.F.slot_list_append PySem.F.type_list_append mt_append (pv 3) (pa_cons (pe_ix (kx_ix_list K rfl) (pv 2) (pv 5) (fun _ _ => rfl)) pa_nil)))
        (pss_one (ps_set (i := 2) sc__law_order.nd rfl (Or.inl rfl) (pe_op op_cat (pe_slice (kx_sl_list K rfl) (pv 2) po_none (po_some (pv 5))) (pe_slice (kx_sl_list K rfl) (pv 2) (po_some (pe_op op_add (pv 5) pe_int)) po_none)))))))
    (pss_one (ps_ret (pv 3))))), ?_⟩
  refine ⟨_, rfl, n, rfl, ⟨by decide, by decide, by omega, by omega, by omega⟩, fun a na => ?_⟩
  have s1 : Same H (upd H a (.lst (rgV 0 n))) := same_upd na
  refine ⟨Nat.zero_le _, fun b nb => ?_⟩
  have s2 := sm_upd (o := .lst []) s1 (s1.free nb)
  have nab : a ≠ b := ne_of_none upd_same nb
  obtain ⟨i0, t0, d0, hrow, _⟩ := id R0.1
  have nra : r ≠ a := ne_of_none hrow na
  have nrb : r ≠ b := ne_of_none (s1 _ _ hrow) nb
  refine ⟨_, _, rfl, ?_⟩
  refine ⟨_, rfl, n, rfl, by omega, by omega, ?_⟩
  refine for_range (lo := 0) (n := (n : Int).toNat) (fun i σ H' => ∃ (lf : Addr) (Lf Fd : List Nat) (y4 y5 : Option V), σ = [some (.ref r), some (nI n), some (.ref lf), some (.ref b), y4, y5] ∧ SameB r H H' ∧ RowC H' r sc ∧ lf ≠ r ∧ lf ≠ b ∧ H' lf = some (.lst (Lf.map nI)) ∧ H' b = some (.lst (Fd.map nI)) ∧ Fd.length = i ∧ (Fd ++ Lf).Perm (List.range n))
    ⟨a, List.range n, [], none, none, rfl, SameB.of s2, R0.1.same s2, nra.symm, nab, by rw [upd_ne nab, upd_same, rgV_range, ← nI_map], upd_same, rfl, List.Perm.refl _⟩ ?_ ?_
  · rintro i σ H1 hi ⟨lf, Lf, Fd, y4, y5, rfl, sb, R1, nlr, nlb, hl, hb, hfl, pm⟩
    have hin : i < n := by omega
    have hll : Lf.length + i = n := by
      have := pm.length_eq
      rw [List.length_append, List.length_range] at this
      omega
    refine ⟨_, rfl, _, rfl, lf, _, rfl, .inl (SqL.of hl), r, sc, ns, _, rfl, R0.step sb R1, ?_, ?_, fun H2 v sb2 R2 hv0 hv1 => ?_⟩
    · rw [List.length_map]; omega
    · rw [List.length_map]; omega
    rw [List.length_map] at hv1
    obtain ⟨j, rfl⟩ : ∃ j : Nat, v = (j : Int) := ⟨v.toNat, by omega⟩
    have hj : j < Lf.length := by omega
    have hx : Lf[j]? = some Lf[j] := List.getElem?_eq_getElem hj
    generalize hxe : Lf[j] = x at hx
    have hl2 : H2 lf = some (.lst (Lf.map nI)) := sb2 _ _ nlr hl
    have hb2 : H2 b = some (.lst (Fd.map nI)) := sb2 _ _ nrb.symm hb
    refine ⟨_, rfl, .inl ⟨rfl, _, SqL.of hb2⟩, _, rfl, _, rfl, lf, _, _, nI x, rfl, rfl, SqL.of hl2, atI_nat (by rw [List.getElem?_map, hx]; rfl), b, _, _, rfl, rfl, hb2, small1000 (by rw [List.length_map]; omega), ?_⟩
    have sb3 : SameB b H2 (upd H2 b (.lst (Fd.map nI ++ [nI x]))) := SameB.upd
    have hl3 : (upd H2 b (.lst (Fd.map nI ++ [nI x]))) lf = some (.lst (Lf.map nI)) := sb3 _ _ nlb hl2
    have hb3 : (upd H2 b (.lst (Fd.map nI ++ [nI x]))) b = some (.lst ((Fd ++ [x]).map nI)) := by rw [upd_same, List.map_append]; rfl
    have sbH3 : SameB r H (upd H2 b (.lst (Fd.map nI ++ [nI x]))) := fun b' o' nb' e' => by
      rw [upd_ne (ne_of_none (s1 _ _ e') nb)]
      exact sb2 _ _ nb' (sb _ _ nb' e')
    have R3 : RowC (upd H2 b (.lst (Fd.map nI ++ [nI x]))) r sc := R2.sb sb3 nrb
    generalize upd H2 b (.lst (Fd.map nI ++ [nI x])) = H3 at hl3 hb3 sbH3 R3 ⊢
    -- left[:at] + left[at + 1:]
    refine ⟨_, rfl, _, rfl, (j : Int), rfl, lf, _, rfl, SqL.of hl3, fun u nu => ?_⟩
    rw [cut_to _ _ (by rw [List.length_map]; omega)]
    have s4 : Same H3 (upd H3 u (.lst ((Lf.map nI).take j))) := same_upd nu
    refine ⟨_, rfl, _, rfl, _, _, rfl, rfl, (j : Int) + 1, rfl, lf, _, rfl, SqL.of (s4 _ _ hl3), fun v nv => ?_⟩
    have ej : ((j : Int) + 1) = ((j + 1 : Nat) : Int) := by omega
    rw [ej, cut_from _ _ (by rw [List.length_map]; omega)]
    have s5 := sm_upd (o := .lst ((Lf.map nI).drop (j + 1))) s4 (s4.free nv)
    have nuv : u ≠ v := ne_of_none upd_same nv
    refine ⟨u, v, _, _, rfl, rfl, by rw [upd_ne nuv, upd_same], upd_same, ?_, fun w' nw => ?_⟩
    · rw [List.length_take, List.length_drop, List.length_map]; exact small (by omega)
    have s6 := sm_upd (o := .lst ((Lf.map nI).take j ++ (Lf.map nI).drop (j + 1))) s5 (s5.free nw)
    obtain ⟨i3, t3, d3, hrow3, _⟩ := id R3
    refine ⟨w', Lf.take j ++ Lf.drop (j + 1), Fd ++ [x], _, _, rfl, sbH3.trans (SameB.of s6), R3.same s6, ?_, ?_, ?_, s6 _ _ hb3, ?_, ?_⟩
    · exact (ne_of_none (s5 _ _ hrow3) nw).symm
    · exact (ne_of_none (s5 _ _ hb3) nw).symm
    · rw [upd_same, List.map_append, List.map_take, List.map_drop]
    · rw [List.length_append, List.length_singleton]; omega
    · refine List.Perm.trans ?_ pm
      rw [List.append_assoc]
      exact (perm_pick hx).append_left Fd
  · rintro σ H1 ⟨lf, Lf, Fd, y4, y5, rfl, sb, R1, nlr, nlb, hl, hb, hfl, pm⟩
    have hL : Lf = [] := by
      have := pm.length_eq
      rw [List.length_append, List.length_range] at this
      exact List.eq_nil_of_length_eq_zero (by omega)
    rw [hL, List.append_nil] at pm
    exact ⟨_, rfl, q H1 b Fd sb R1 (s1.free nb) nrb.symm pm hb⟩
abbrev TLOrder (P : Program) (w : World) (K : PySem.W.Frag) (mg : Str → Option Value) (base : Heap) : Prop := Df P w K mg base "_law_order" 2 ["_law_row", "_law_many"] (sp_law_order K)
/-! ### _law_pick -/
abbrev s_law_pick : Stmt := topS 43
theorem sc__law_pick : FnScope ["_law_row", "_law_things"] ["_law_row", "_law_things"] (defScope s_law_pick) := ⟨rfl, rfl, rfl, by decide +kernel, rfl, by decide +kernel, by decide +kernel⟩
def sp_law_pick (K : PySem.W.Frag) : Sp := fun vs H Q _ => ∃ (r sc t : Addr) (ns ms : List Int), vs = [.ref r, .ref t] ∧ RowAt K H r sc ns ∧ t ≠ r ∧ H t = some (.lst (ms.map V.int)) ∧ 1 ≤ ms.length ∧ ms.length ≤ 1000 ∧ ∀ (H' : Hp) (v : Int), SameB r H H' → RowC H' r sc → v ∈ ms → Q (.int v) H'
theorem ok_law_pick {f : Addr} {fd : FuncData} (B : Bi mg) (D_law_taken : TLTaken P w K mg base) (F : Fun K "_law_pick" "_law_pick" s_law_pick f fd) :
    FnOk P w K mg base CX0 2 f fd ["_law_row", "_law_things"] (sp_law_pick K) := by
  refine F.ok sc__law_pick (fun vs H Q E h => ?_) (fun cdv A outer s H vs Q E hr h => ?_)
  · obtain ⟨r, sc, t, ns, ms, rfl, _⟩ := h
    rfl
  obtain ⟨r, sc, t, ns, ms, rfl, R0, ntr, ht, hm1, hm2, q⟩ := h
  refine ⟨_, (pss_one (ps_ret (pe_ix (kx_ix_list K rfl) (pv 1) (pe_df D_law_taken (hr.mono (by omega)) (by rfl) (pa_cons (pv 0) (pa_cons (pe_callB (kx_len K rfl) (by rfl) B.len PySem.boot_len (pa_cons (pv 1) pa_nil)) pa_nil))) (fun _ _ => rfl)))), ?_⟩
  refine ⟨_, rfl, _, rfl, _, rfl, t, _, rfl, .inl (SqL.of ht), r, sc, ns, _, rfl, R0, by rw [List.length_map]; omega, by rw [List.length_map]; omega, fun H1 v sb R1 hv0 hv1 => ?_⟩
  rw [List.length_map] at hv1
  obtain ⟨j, rfl⟩ : ∃ j : Nat, v = (j : Int) := ⟨v.toNat, by omega⟩
  have hj : j < ms.length := by omega
  exact ⟨t, _, _, .int ms[j], rfl, rfl, SqL.of (sb _ _ ntr ht), atI_nat (by rw [List.getElem?_map, List.getElem?_eq_getElem hj]; rfl), q H1 _ sb R1 (List.getElem_mem hj)⟩
abbrev TLPick (P : Program) (w : World) (K : PySem.W.Frag) (mg : Str → Option Value) (base : Heap) : Prop := Df P w K mg base "_law_pick" 2 ["_law_row", "_law_things"] (sp_law_pick K)
/-! ### _law_layings -/
abbrev s_law_layings : Stmt := topS 44
theorem sc__law_layings : FnScope ["_law_many", "_law_found", "_law_k", "_law_more", "_law_one"] ["_law_many"] (defScope s_law_layings) := ⟨rfl, rfl, rfl, by decide +kernel, rfl, by decide +kernel, by decide +kernel⟩
theorem ok_law_layings {f : Addr} {fd : FuncData} (B : Bi mg) (F : Fun K "_law_layings" "_law_layings" s_law_layings f fd) :
    FnOk P w K mg base CX0 1 f fd ["_law_many"] sp_full_layings := by
  refine F.ok sc__law_layings (fun vs H Q E h => ?_) (fun cdv A outer s H vs Q E hr h => ?_)
  · obtain ⟨n, rfl, _⟩ := h
    rfl
  obtain ⟨n, rfl, h6, q⟩ := h
  refine ⟨_, (pss_cons (ps_set (i := 1) sc__law_layings.nd rfl (Or.inl rfl) (pe_lst (pa_cons (pe_tup pa_nil) pa_nil)))
    (pss_cons (ps_for PassesOwn.never rfl (pi_range1 (by rfl) B.range (pa_cons (pv 0) pa_nil)) (pg_name (i := 2) sc__law_layings.nd rfl (Or.inl rfl))
      (pss_cons (ps_set (i := 3) sc__law_layings.nd rfl (Or.inl rfl) (pe_lst pa_nil))
        (pss_cons (ps_for PassesOwn.never rfl (kx_pi_list K rfl (pv 1)) (pg_name (i := 4) sc__law_layings.nd rfl (Or.inl rfl))
          (pss_one (ps_set (i := 3) sc__law_layings.nd rfl (Or.inl rfl) (pe_op op_cat (pv 3) (pe_lst (pa_cons (pe_op (kx_catT K rfl) (pv 4) (pe_tup (pa_cons pe_int pa_nil))) (pa_cons (pe_op (kx_catT K rfl) (pv 4) (pe_tup (pa_cons pe_int pa_nil))) pa_nil)))))))
        (pss_one (ps_set (i := 1) sc__law_layings.nd rfl (Or.inl rfl) (pv 3))))))
    (pss_one (ps_ret (pv 1))))), ?_⟩
  refine ⟨(by show 0 ≤ sizeLine; decide), fun t0 n0 => ?_⟩
  have s0 : Same H (upd H t0 (.tup [])) := same_upd n0
  refine ⟨(by show 1 ≤ sizeLine; decide), fun l0 nl0 => ?_⟩
  have s1 := sm_upd (o := .lst [.ref t0]) s0 (s0.free nl0)
  refine ⟨_, rfl, n, rfl, by omega, by omega, ?_⟩
  refine for_range (lo := 0) (n := (n : Int).toNat) (fun i σ H' => ∃ (l : Addr) (as : List Addr) (y2 y3 y4 : Option V), σ = [some (nI n), some (.ref l), y2, y3, y4] ∧ Same H H' ∧ H l = none ∧ H' l = some (.lst (as.map V.ref)) ∧ AllAt H' as (allLay i))
    ⟨l0, [t0], none, none, none, rfl, s1, s0.free nl0, upd_same, .cons (by
      have : l0 ≠ t0 := fun e => by rw [e, upd_same] at nl0; cases nl0
      show (upd _ l0 _) t0 = _
      rw [upd_ne this.symm, upd_same]; rfl) .nil⟩ ?_ ?_
  · rintro i σ H1 hi ⟨l, as, y2, y3, y4, rfl, sm, nl, hl, hA⟩
    have hi6 : i < 6 := by omega
    have h64 : (allLay i).length ≤ 32 := by
      rw [len_allLay]
      exact Nat.pow_le_pow_right (by decide) (show i ≤ 5 by omega)
    have hlen : as.length = (allLay i).length := paired_len hA
    refine ⟨Nat.zero_le _, fun m0 nm0 => ?_⟩
    have sM : Same H1 (upd H1 m0 (.lst [])) := same_upd nm0
    refine ⟨_, rfl, l, rfl, ⟨_, SqL.of (sM _ _ hl)⟩, ?_⟩
    refine for_list (K := K) (a := l) (xs := as.map V.ref) (fun j σ H' => ∃ (m : Addr) (bs : List Addr) (y2 y4 : Option V), σ = [some (nI n), some (.ref l), y2, some (.ref m), y4] ∧ Same H1 H' ∧ H1 m = none ∧ H' m = some (.lst (bs.map V.ref)) ∧ AllAt H' bs (((allLay i).take j).flatMap grow))
      ⟨m0, [], _, _, rfl, sM, nm0, upd_same, .nil⟩ (fun j σ H' _ ⟨_, _, _, _, _, z, _⟩ => SqL.of (z _ _ hl)) ?_ ?_
    · rintro j x σ H2 hx ⟨m, bs, y2, y4, rfl, sm2, nm, hm, hB⟩
      obtain ⟨a, ha, rfl⟩ := map_ref_at hx
      obtain ⟨L, hL, hF⟩ := paired_at hA j a ha
      have hL6 : L.length = i := mem_allLay.mp (List.mem_of_getElem? hL)
      have hjl : j < (allLay i).length := (List.getElem?_eq_some_iff.mp hL).1
      have hlb : bs.length = 2 * j := by
        rw [paired_len hB, flat_len, List.length_take]; omega
      have hF2 := sm2 _ _ hF
      refine ⟨_, rfl, _, rfl, (by show 1 ≤ sizeLine; decide), fun u nu => ?_⟩
      have sU : Same H2 (upd H2 u (.tup [cb false])) := same_upd nu
      -- one + (0,)
      have one : ∀ (H3 : Hp) (b : Bool) (u : Addr) (R : V → Hp → Prop), Same H2 H3 → H3 u = some (.tup [cb b]) → (∀ (p : Addr) (H4 : Hp), Same H3 H4 → H4 p = some (.tup ((L ++ [b]).map cb)) → R (.ref p) H4) → rCatA K (.ref a) (.ref u) H3 R := fun H3 b u R s3 hu k => by
        refine ⟨a, u, _, _, rfl, rfl, SqT.of (s3 _ _ hF2), SqT.of hu, ?_, fun e => ?_, fun _ e => absurd e (by simp), fun e _ p np => ?_⟩
        · rw [List.length_map, hL6]; exact small (by show i + 1 ≤ 1000; omega)
        · have e1 : L = [] := List.map_eq_nil_iff.mp e
          refine k u H3 (Same.refl _) ?_
          rw [hu, e1]; rfl
        · refine k p _ (same_upd np) ?_
          rw [upd_same, cb_snoc]
      refine one _ false u _ sU upd_same fun p0 H3 s3 hp0 => ?_
      have s3' := sU.trans s3
      refine ⟨_, rfl, (by show 1 ≤ sizeLine; decide), fun u2 nu2 => ?_⟩
      have sU2 := sm_upd (o := .tup [cb true]) s3' (s3'.free nu2)
      refine one _ true u2 _ sU2 upd_same fun p1 H4 s4 hp1 => ?_
      have s4' := sU2.trans s4
      have hp0' : H4 p0 = some (.tup ((L ++ [false]).map cb)) := s4 _ _ ((same_upd (o := .tup [cb true]) nu2) _ _ hp0)
      refine ⟨(by show 2 ≤ sizeLine; decide), fun v nv => ?_⟩
      have sV := sm_upd (o := .lst [.ref p0, .ref p1]) s4' (s4'.free nv)
      have hm4 : (upd H4 v (.lst [.ref p0, .ref p1])) m = some (.lst (bs.map V.ref)) := sV _ _ hm
      refine ⟨m, v, _, _, rfl, rfl, hm4, upd_same, ?_, fun w' nw => ?_⟩
      · rw [List.length_map]; exact small (by show bs.length + 2 ≤ 1000; omega)
      have sW := sm_upd (o := .lst (bs.map V.ref ++ [.ref p0, .ref p1])) sV (sV.free nw)
      have sW2 : Same H4 (upd (upd H4 v (.lst [.ref p0, .ref p1])) w' (.lst (bs.map V.ref ++ [.ref p0, .ref p1]))) := sm_upd (same_upd nv) ((same_upd nv).free nw)
      refine ⟨w', bs ++ [p0, p1], _, _, rfl, sm2.trans sW, sm2.free (sV.free nw), by rw [upd_same, List.map_append]; rfl, ?_⟩
      rw [flat_take hL]
      have hB2 : AllAt (upd (upd H4 v (.lst [.ref p0, .ref p1])) w' (.lst (bs.map V.ref ++ [.ref p0, .ref p1]))) bs (((allLay i).take j).flatMap grow) := hB.same sW
      have e2 : bs ++ [p0, p1] = (bs ++ [p0]) ++ [p1] := by rw [List.append_assoc]; rfl
      have e3 : ((allLay i).take j).flatMap grow ++ grow L = (((allLay i).take j).flatMap grow ++ [L ++ [false]]) ++ [L ++ [true]] := by rw [List.append_assoc]; rfl
      rw [e2, e3]
      exact paired_snoc (paired_snoc hB2 (sW2 _ _ hp0')) (sW2 _ _ hp1)
    · rintro σ H2 ⟨m, bs, y2, y4, rfl, sm2, nm, hm, hB⟩
      rw [List.length_map, hlen, List.take_length, ← grow_allLay] at hB
      exact ⟨_, rfl, m, bs, _, _, _, rfl, sm.trans sm2, sm.free nm, hm, hB⟩
  · rintro σ H1 ⟨l, as, y2, y3, y4, rfl, sm, nl, hl, hA⟩
    rw [Int.toNat_natCast] at hA
    exact ⟨_, rfl, q H1 l as sm nl hl hA⟩
abbrev TLLayings (P : Program) (w : World) (K : PySem.W.Frag) (mg : Str → Option Value) (base : Heap) : Prop := Df P w K mg base "_law_layings" 1 ["_law_many"] sp_full_layings
end
end K23P

namespace K23P
open PySem PySem.Spec PyProof.Rows L2 K23 K23R
/-! ### the edges drawn so far: a dict's keys -/
def eKey (e : Edge) : List L2.Key := [.inl (e.1 : Int), .inl (e.2 : Int)]
theorem eKey_inj {e f : Edge} (h : eKey e = eKey f) : e = f := by
  unfold eKey at h
  simp only [List.cons.injEq, Sum.inl.injEq, and_true] at h
  obtain ⟨a, b⟩ := e
  obtain ⟨c, d⟩ := f
  simp only at h
  rw [show a = c by omega, show b = d by omega]
structure EdgesOf (kvs : List (List L2.Key × V)) (es : List Edge) (n c : Nat) : Prop where
  keys : kvs.map (·.1) = es.map eKey
  nd : es.Nodup
  good : Good n es
  len : es.length ≤ c
theorem EdgesOf.put {kvs : List (List L2.Key × V)} {es : List Edge} {n c : Nat} (E : EdgesOf kvs es n c) {e : Edge} (h1 : e.1 < e.2) (h2 : e.2 < n) (v : V) : ∃ es', EdgesOf (putK kvs (eKey e) v) es' n (c + 1) := by
  unfold putK
  split
  · refine ⟨es, ?_, E.nd, E.good, Nat.le_succ_of_le E.len⟩
    rw [List.map_map, ← E.keys]
    refine List.map_congr_left fun kv _ => ?_
    show (if kv.1 = eKey e then (kv.1, v) else kv).1 = kv.1
    split <;> rfl
  · rename_i hn
    refine ⟨es ++ [e], ?_, ?_, ?_, ?_⟩
    · rw [List.map_append, E.keys, List.map_append]; rfl
    · refine List.nodup_append.mpr ⟨E.nd, by simp, fun a ha b hb => ?_⟩
      rw [List.mem_singleton.mp hb]
      intro q
      subst q
      have : eKey a ∈ kvs.map (·.1) := by rw [E.keys]; exact List.mem_map.mpr ⟨a, ha, rfl⟩
      obtain ⟨kv, hkv, ek⟩ := List.mem_map.mp this
      exact hn (List.any_eq_true.mpr ⟨kv, hkv, decide_eq_true ek⟩)
    · intro f hf
      rcases List.mem_append.mp hf with hf | hf
      · exact E.good f hf
      · rw [List.mem_singleton.mp hf]; exact ⟨h1, h2⟩
    · rw [List.length_append, List.length_singleton]; exact Nat.succ_le_succ E.len
/-- the two ends of a drawn edge -/
theorem ends_of {a b n : Nat} (h : a ≠ b) (ha : a < n) (hb : b < n) : ∃ e : Edge, e.1 < e.2 ∧ e.2 < n ∧ V.int (if (b : Int) < (a : Int) then (b : Int) else (a : Int)) = nI e.1 ∧ V.int (if (b : Int) > (a : Int) then (b : Int) else (a : Int)) = nI e.2 := by
  by_cases c : b < a
  · refine ⟨(b, a), c, ha, ?_, ?_⟩
    · rw [if_pos (by omega)]
    · rw [if_neg (by omega)]
  · refine ⟨(a, b), by show a < b; omega, hb, ?_, ?_⟩
    · rw [if_neg (by omega)]
    · rw [if_pos (by omega)]
/-- what stands while the law draws a web -/
structure WInv (H0 : Hp) (r sc nm d : Addr) (ord : List Nat) (n c : Nat) (H' : Hp) : Prop where
  sb : SameB r H0 H'
  row : RowC H' r sc
  names : H' nm = some (.lst (ord.map nI))
  edges : ∃ kvs es, H' d = some (.dT kvs) ∧ EdgesOf kvs es n c
theorem WInv.mono {H0 : Hp} {r sc nm d : Addr} {ord : List Nat} {n c c' : Nat} {H' : Hp} (W : WInv H0 r sc nm d ord n c H') (h : c ≤ c') : WInv H0 r sc nm d ord n c' H' := by
  obtain ⟨kvs, es, h1, h2⟩ := W.edges
  exact ⟨W.sb, W.row, W.names, kvs, es, h1, h2.keys, h2.nd, h2.good, Nat.le_trans h2.len h⟩
theorem WInv.drawn {H0 : Hp} {r sc nm d : Addr} {ord : List Nat} {n c : Nat} {H' H'' : Hp} (W : WInv H0 r sc nm d ord n c H') (n1 : nm ≠ r) (n2 : d ≠ r) (s : SameB r H' H'') (R : RowC H'' r sc) : WInv H0 r sc nm d ord n c H'' := by
  obtain ⟨kvs, es, h1, h2⟩ := W.edges
  exact ⟨W.sb.trans s, R, s _ _ n1 W.names, kvs, es, s _ _ n2 h1, h2⟩
theorem WInv.put {H0 : Hp} {r sc nm d : Addr} {ord : List Nat} {n c : Nat} {H' : Hp} (W : WInv H0 r sc nm d ord n c H') (n1 : r ≠ d) (n2 : nm ≠ d) (hd0 : H0 d = none) (hc : c ≤ 100) {e : Edge} (h1 : e.1 < e.2) (h2 : e.2 < n) {t : Addr} (nt : H' t = none) (v : V) :
    ∃ H4, DPut (upd H' t (.tup [nI e.1, nI e.2])) d (.ref t) v H4 ∧ WInv H0 r sc nm d ord n (c + 1) H4 := by
  obtain ⟨kvs, es, hd, E⟩ := W.edges
  obtain ⟨es', E'⟩ := E.put h1 h2 v
  have s1 : Same H' (upd H' t (.tup [nI e.1, nI e.2])) := same_upd nt
  have hl : kvs.length ≤ 100 := by
    have := congrArg List.length E.keys
    rw [List.length_map, List.length_map] at this
    have := E.len
    omega
  refine ⟨_, DPut.t (k := eKey e) (s1 _ _ hd) upd_same (big_ok (by omega)), fun b o nb eb => ?_, ?_, ?_, _, es', upd_same, E'⟩
  · have : b ≠ d := fun z => by rw [z, hd0] at eb; cases eb
    rw [upd_ne this]
    exact s1 _ _ (W.sb _ _ nb eb)
  · exact (W.row.same s1).sb SameB.upd n1
  · rw [upd_ne n2]; exact s1 _ _ W.names
theorem ints_nats {ps : List (Int × Int)} {es : List Edge} (p : ps.Perm (es.map fun e => ((e.1 : Int), (e.2 : Int)))) : ∃ fs : List Edge, fs.Perm es ∧ ps = fs.map fun e => ((e.1 : Int), (e.2 : Int)) := by
  refine ⟨ps.map fun q => (q.1.toNat, q.2.toNat), ?_, ?_⟩
  · have := p.map fun q => (q.1.toNat, q.2.toNat)
    rw [List.map_map] at this
    have e : ((fun q : Int × Int => (q.1.toNat, q.2.toNat)) ∘ fun e : Edge => ((e.1 : Int), (e.2 : Int))) = id := by funext e; simp
    rw [e, List.map_id] at this
    exact this
  · rw [List.map_map]
    conv => lhs; rw [← List.map_id ps]
    refine List.map_congr_left fun x hx => ?_
    obtain ⟨e, _, rfl⟩ := List.mem_map.mp (p.mem_iff.mp hx)
    simp
theorem asc_of {fs : List Edge} (h : (fs.map fun e : Edge => ((e.1 : Int), (e.2 : Int))).Pairwise (fun p q => SrtO.lexB q p = false)) (nd : fs.Nodup) : fs.Pairwise elt := by
  rw [List.pairwise_map] at h
  refine List.Pairwise.imp ?_ (h.and nd)
  intro e f ⟨h1, h2⟩
  have h3 := SrtO.lexB_no.mp h1
  simp only at h3
  unfold elt
  have : ¬ (e.1 = f.1 ∧ e.2 = f.2) := fun z => h2 (Prod.ext z.1 z.2)
  omega
theorem paired_map_right {α β γ : Type} {F : α → γ → Prop} {g : β → γ} : ∀ {l : List α} {m : List β}, Paired F l (m.map g) → Paired (fun a b => F a (g b)) l m
  | [], [], _ => .nil
  | [], _ :: _, h => by cases h
  | _ :: _, [], h => by cases h
  | _ :: _, _ :: _, .cons h t => .cons h (paired_map_right t)
def retOf (s : Stmt) : Expr := match defBody s with
  | [.Return (some e) _] => e
  | _ => .Constant .none 0 ⟨0, 0, 0, 0⟩
def lcScope (e : Expr) : Scope := match e with
  | .ListComp _ _ sc _ => sc
  | _ => { kind := .function, names := [], isGenerator := false, isCoroutine := false }
section
variable {P : Program} {w : World} {K : PySem.W.Frag} {mg : Str → Option Value} {base : Heap}
/-! ### _law_web -/
abbrev s_law_web : Stmt := topS 41
theorem sc__law_web : FnScope ["_law_row", "_law_most", "_law_many", "_law_edges", "_law_way", "_law_names", "_law_k", "_law_a", "_law_b", "_law_turn"] ["_law_row", "_law_most"] (defScope s_law_web) := ⟨rfl, rfl, rfl, by decide +kernel, rfl, by decide +kernel, by decide +kernel⟩
def sp_law_web (K : PySem.W.Frag) : Sp := fun vs H Q _ => ∃ (r sc : Addr) (ns : List Int), vs = [.ref r, .int 6] ∧ RowAt K H r sc ns ∧ ∀ (H' : Hp) (p : Addr) (n : Nat) (es : List Edge), SameB r H H' → RowC H' r sc → WebAt H' p n es → IsWeb n es → Q (.ref p) H'
theorem ok_law_web {f : Addr} {fd : FuncData} (B : Bi mg) (D_law_taken : TLTaken P w K mg base) (D_law_order : TLOrder P w K mg base) (F : Fun K "_law_web" "_law_web" s_law_web f fd) :
    FnOk P w K mg base CX0 3 f fd ["_law_row", "_law_most"] (sp_law_web K) := by
  refine F.ok sc__law_web (fun vs H Q E h => ?_) (fun cdv A outer s H vs Q E hr h => ?_)
  · obtain ⟨r, sc, ns, rfl, _⟩ := h
    rfl
  obtain ⟨r, sc, ns, rfl, R0, q⟩ := h
  have hu := hu_of hr
  refine ⟨_, (pss_cons (ps_par (i := 2) (j := 3) (by rfl) sc__law_web.nd rfl rfl (by decide) rfl rfl (pa_cons (pe_op op_add pe_int (pe_df D_law_taken (hr.mono (by omega)) (by rfl) (pa_cons (pv 0) (pa_cons (pv 1) pa_nil)))) (pa_cons pe_dnewT pa_nil)) (by rfl))
    (pss_cons (ps_set (i := 4) sc__law_web.nd rfl (Or.inl rfl) (pe_df D_law_taken (hr.mono (by omega)) (by rfl) (pa_cons (pv 0) (pa_cons pe_int pa_nil))))
    (pss_cons (ps_set (i := 5) sc__law_web.nd rfl (Or.inl rfl) (pe_df D_law_order (hr.mono (by omega)) (by rfl) (pa_cons (pv 0) (pa_cons (pv 2) pa_nil))))
    (pss_cons (ps_for PassesOwn.never rfl (pi_range2 (by rfl) B.range (pa_cons pe_int (pa_cons (pv 2) pa_nil))) (pg_name (i := 6) sc__law_web.nd rfl (Or.inl rfl))
      (pss_one (ps_if (PW.pt (pw_or (pt_cmpR op_ne (pv 4) pe_int (nomark _)) (pw_or1 (pt_cmpR op_gt (pe_df D_law_taken (hr.mono (by omega)) (by rfl) (pa_cons (pv 0) (pa_cons pe_int pa_nil))) pe_int (nomark _)))))
          (pss_cons (ps_par (i := 7) (j := 8) (by rfl) sc__law_web.nd rfl rfl (by decide) rfl rfl (pa_cons (pe_ix (kx_ix_list K rfl) (pv 5) (pv 6) (fun _ _ => rfl)) (pa_cons (pe_ix (kx_ix_list K rfl) (pv 5) (pe_df D_law_taken (hr.mono (by omega)) (by rfl) (pa_cons (pv 0) (pa_cons (pv 6) pa_nil))) (fun _ _ => rfl)) pa_nil)) (by rfl))
            (pss_one (ps_dput hu (pv 3) (pe_tup (pa_cons (pe_callB (call_min2 rfl) (by rfl) B.min (by decide +kernel) (pa_cons (pv 7) (pa_cons (pv 8) pa_nil))) (pa_cons (pe_callB (call_max2 rfl) (by rfl) B.max (by decide +kernel) (pa_cons (pv 7) (pa_cons (pv 8) pa_nil))) pa_nil))) pe_bl rfl)))
          pss_nil)))
    (pss_cons (ps_for PassesOwn.never rfl (pi_range1 (by rfl) B.range (pa_cons (pe_ifExp (pt_cmpR op_eq (pv 4) pe_int (nomark _)) (pe_df D_law_taken (hr.mono (by omega)) (by rfl) (pa_cons (pv 0) (pa_cons pe_int pa_nil))) pe_int) pa_nil)) (pg_name (i := 9) sc__law_web.nd rfl (Or.inl rfl))
      (pss_cons (ps_par (i := 7) (j := 8) (by rfl) sc__law_web.nd rfl rfl (by decide) rfl rfl (pa_cons (pe_df D_law_taken (hr.mono (by omega)) (by rfl) (pa_cons (pv 0) (pa_cons (pv 2) pa_nil))) (pa_cons (pe_df D_law_taken (hr.mono (by omega)) (by rfl) (pa_cons (pv 0) (pa_cons (pv 2) pa_nil))) pa_nil)) (by rfl))
        (pss_one (ps_if (pt_cmpR op_ne (pv 7) (pv 8) (nomark _))
          (pss_one (ps_dput hu (pv 3) (pe_tup (pa_cons (pe_callB (call_min2 rfl) (by rfl) B.min (by decide +kernel) (pa_cons (pv 7) (pa_cons (pv 8) pa_nil))) (pa_cons (pe_callB (call_max2 rfl) (by rfl) B.max (by decide +kernel) (pa_cons (pv 7) (pa_cons (pv 8) pa_nil))) pa_nil))) pe_bl rfl))
          pss_nil))))
    (pss_one (ps_ret (pe_tup (pa_cons (pv 2) (pa_cons (pe_callTy (kx_tuple_of K rfl) (by rfl) B.tuple (by decide +kernel) (pa_cons (pe_callB (cr_sortedKeys rfl) (by rfl) B.sorted (by decide +kernel) (pa_cons (pe_bm0 PySem.F.plainAttrs_dict PySem.F.slot_dict_keys PySem.F.type_dict_keys mt_keysT (pv 3)) pa_nil)) pa_nil)) pa_nil)))))))))), ?_⟩
  refine ⟨_, rfl, _, rfl, r, sc, ns, 6, rfl, R0, by decide, by decide, fun H1 v sb1 R1 hv0 hv1 => ?_⟩
  obtain ⟨n, en, hn1, hn6⟩ : ∃ n : Nat, (1 : Int) + v = (n : Int) ∧ 1 ≤ n ∧ n ≤ 6 := ⟨(1 + v).toNat, by omega, by omega, by omega⟩
  refine ⟨_, _, rfl, rfl, ?_⟩
  show ∀ d, _
  intro d nd
  have hd0 : H d = none := by
    cases e : H d with
    | none => rfl
    | some o =>
      by_cases z : d = r
      · obtain ⟨i, t, d', h1, _⟩ := R1
        rw [z, h1] at nd; cases nd
      · rw [sb1 _ _ z e] at nd; cases nd
  have ndr : d ≠ r := by
    obtain ⟨i, t, d', h1, _⟩ := R1
    exact (ne_of_none h1 nd).symm
  have s2 : Same H1 (upd H1 d (.dT [])) := same_upd nd
  have R2 := R1.same s2
  have sb2 : SameB r H (upd H1 d (.dT [])) := sb1.trans (SameB.of s2)
  have hd2 : (upd H1 d (.dT [])) d = some (.dT []) := upd_same
  generalize upd H1 d (.dT []) = H2 at s2 R2 sb2 hd2 ⊢
  refine ⟨nI n, .ref d, congrArg (fun z => [V.int z, V.ref d]) en, ?_⟩
  refine ⟨_, rfl, r, sc, ns, 4, rfl, R0.step sb2 R2, by decide, by decide, fun H3 way sb3 R3 hw0 hw1 => ?_⟩
  have sb3' := sb2.trans sb3
  refine ⟨_, rfl, _, rfl, r, sc, ns, n, rfl, R0.step sb3' R3, hn6, fun H4 nm ord sb4 R4 nnm nmr pm hnm => ?_⟩
  have hd3 : H3 d = some (.dT []) := sb3 _ _ ndr hd2
  have nmd : nm ≠ d := (ne_of_none hd3 nnm).symm
  have W4 : WInv H r sc nm d ord n 0 H4 := ⟨sb3'.trans sb4, R4, hnm, [], [], sb4 _ _ ndr hd3, rfl, .nil, (fun e he => by cases he), Nat.le_refl _⟩
  have hol : ord.length = n := by rw [pm.length_eq, List.length_range]
  have hon : ord.Nodup := pm.nodup_iff.mpr List.nodup_range
  have hom : ∀ x ∈ ord, x < n := fun x hx => List.mem_range.mp (pm.mem_iff.mp hx)
  refine ⟨_, rfl, 1, n, rfl, ⟨by omega, by omega, by omega, by omega⟩, ?_⟩
  refine for_range (lo := 1) (n := ((n : Int) - 1).toNat) (fun i σ H' => ∃ y6 y7 y8 y9, σ = [some (.ref r), some (.int 6), some (nI n), some (.ref d), some (.int way), some (.ref nm), y6, y7, y8, y9] ∧ WInv H r sc nm d ord n i H')
    ⟨none, none, none, none, rfl, W4⟩ ?_ ?_
  · rintro i σ H5 hi ⟨y6, y7, y8, y9, rfl, W5⟩
    have ek : (1 : Int) + (i : Int) = ((i + 1 : Nat) : Int) := by omega
    rw [ek]
    have hkn : i + 1 < n := by omega
    have fin : ∀ (H6 : Hp), WInv H r sc nm d ord n i H6 → ∀ x y : Nat, x ∈ ord → y ∈ ord → x ≠ y → ∀ t, H6 t = none → ∃ e : Edge, V.int (if (y : Int) < (x : Int) then (y : Int) else (x : Int)) = nI e.1 ∧ V.int (if (y : Int) > (x : Int) then (y : Int) else (x : Int)) = nI e.2 ∧
        ∃ H4, DPut (upd H6 t (.tup [nI e.1, nI e.2])) d (.ref t) (.bl true) H4 ∧ WInv H r sc nm d ord n (i + 1) H4 := fun H6 W6 x y hx hy hxy t nt => by
      obtain ⟨e, h1, h2, h3, h4⟩ := ends_of hxy (hom x hx) (hom y hy)
      exact ⟨e, h3, h4, W6.put ndr.symm nmd hd0 (by omega) h1 h2 nt (.bl true)⟩
    have gx : ∀ j : Nat, j < n → ∃ x, ord[j]? = some x ∧ x ∈ ord := fun j hj => ⟨ord[j], List.getElem?_eq_getElem (by omega), List.getElem_mem _⟩
    obtain ⟨x, hx, hxm⟩ := gx (i + 1) hkn
    have then_ : ∀ H6, WInv H r sc nm d ord n i H6 → ∀ (H7 : Hp) (v : Int), SameB r H6 H7 → RowC H7 r sc → 0 ≤ v → v < ((i + 1 : Nat) : Int) → WInv H r sc nm d ord n i H7 ∧ ∃ (j y : Nat), v = (j : Int) ∧ ord[j]? = some y ∧ y ∈ ord ∧ x ≠ y := fun H6 W6 H7 v sb7 R7 h0 h1 => by
      obtain ⟨y, hy, hym⟩ := gx v.toNat (by omega)
      refine ⟨W6.drawn nmr ndr sb7 R7, v.toNat, y, by omega, hy, hym, fun e => ?_⟩
      subst e
      have h2 : v.toNat < ord.length := by omega
      have h3 : i + 1 < ord.length := by omega
      have e1 := (List.getElem?_eq_some_iff.mp hx).2
      have e2 := (List.getElem?_eq_some_iff.mp hy).2
      have := (List.getElem_inj hon).mp (e1.trans e2.symm)
      omega
    refine ⟨_, rfl, rfl, _, rfl, ite2 (fun c => ?_) (fun c => ?_)⟩
    · refine iteT ?_
      refine ⟨_, rfl, _, rfl, nm, _, _, nI x, rfl, rfl, SqL.of W5.names, atI_nat (by rw [List.getElem?_map, hx]; rfl), _, rfl, _, rfl, _, rfl, r, sc, ns, _, rfl, R0.step W5.sb W5.row, by omega, by omega, fun H7 v sb7 R7 h0 h1 => ?_⟩
      obtain ⟨W7, j, y, rfl, hy, hym, hxy⟩ := then_ H5 W5 H7 v sb7 R7 h0 h1
      refine ⟨nm, _, _, nI y, rfl, rfl, SqL.of W7.names, atI_nat (by rw [List.getElem?_map, hy]; rfl), _, _, rfl, ?_⟩
      refine ⟨_, rfl, _, rfl, _, rfl, _, _, rfl, _, rfl, _, rfl, _, _, rfl, (by show 2 ≤ sizeLine; decide), fun t nt => ?_⟩
      obtain ⟨e, e1, e2, H8, hp, W8⟩ := fin H7 W7 x y hxm hym hxy t nt
      rw [e1, e2]
      exact ⟨d, H8, rfl, hp, _, _, _, _, rfl, W8⟩
    · refine ⟨_, rfl, r, sc, ns, 4, rfl, R0.step W5.sb W5.row, by decide, by decide, fun H6 u sb6 R6 hu0 hu1 => ?_⟩
      have W6 := W5.drawn nmr ndr sb6 R6
      refine ⟨_, _, rfl, rfl, _, rfl, ite2 (fun c2 => ?_) (fun c2 => ?_)⟩
      · refine ⟨_, rfl, _, rfl, nm, _, _, nI x, rfl, rfl, SqL.of W6.names, atI_nat (by rw [List.getElem?_map, hx]; rfl), _, rfl, _, rfl, _, rfl, r, sc, ns, _, rfl, R0.step W6.sb W6.row, by omega, by omega, fun H7 v sb7 R7 h0 h1 => ?_⟩
        obtain ⟨W7, j, y, rfl, hy, hym, hxy⟩ := then_ H6 W6 H7 v sb7 R7 h0 h1
        refine ⟨nm, _, _, nI y, rfl, rfl, SqL.of W7.names, atI_nat (by rw [List.getElem?_map, hy]; rfl), _, _, rfl, ?_⟩
        refine ⟨_, rfl, _, rfl, _, rfl, _, _, rfl, _, rfl, _, rfl, _, _, rfl, (by show 2 ≤ sizeLine; decide), fun t nt => ?_⟩
        obtain ⟨e, e1, e2, H8, hp, W8⟩ := fin H7 W7 x y hxm hym hxy t nt
        rw [e1, e2]
        exact ⟨d, H8, rfl, hp, _, _, _, _, rfl, W8⟩
      · exact ⟨_, _, _, _, rfl, W6.mono (Nat.le_succ i)⟩
  · rintro σ H5 ⟨y6, y7, y8, y9, rfl, W5⟩
    have W5' := W5.mono (show ((n : Int) - 1).toNat ≤ 6 by omega)
    -- the second loop
    have fin : ∀ (H6 : Hp) (i : Nat), i ≤ 50 → WInv H r sc nm d ord n i H6 → ∀ x y : Nat, x < n → y < n → x ≠ y → ∀ t, H6 t = none → ∃ e : Edge, V.int (if (y : Int) < (x : Int) then (y : Int) else (x : Int)) = nI e.1 ∧ V.int (if (y : Int) > (x : Int) then (y : Int) else (x : Int)) = nI e.2 ∧
        ∃ H4, DPut (upd H6 t (.tup [nI e.1, nI e.2])) d (.ref t) (.bl true) H4 ∧ WInv H r sc nm d ord n (i + 1) H4 := fun H6 i hi W6 x y hx hy hxy t nt => by
      obtain ⟨e, h1, h2, h3, h4⟩ := ends_of hxy hx hy
      exact ⟨e, h3, h4, W6.put ndr.symm nmd hd0 (by omega) h1 h2 nt (.bl true)⟩
    refine ⟨_, rfl, rfl, _, rfl, ite2 (fun c => ?_) (fun c => ?_)⟩
    · refine ⟨_, rfl, r, sc, ns, 4, rfl, R0.step W5'.sb W5'.row, by decide, by decide, fun H6 m sb6 R6 hm0 hm1 => ?_⟩
      have W6 := W5'.drawn nmr ndr sb6 R6
      refine ⟨m, rfl, by omega, by omega, ?_⟩
      refine for_range (lo := 0) (n := m.toNat) (fun i σ H' => ∃ y6 y7 y8 y9, σ = [some (.ref r), some (.int 6), some (nI n), some (.ref d), some (.int way), some (.ref nm), y6, y7, y8, y9] ∧ WInv H r sc nm d ord n (6 + i) H')
        ⟨_, _, _, _, rfl, W6⟩ ?_ ?_
      · rintro i σ H7 hi ⟨y6, y7, y8, y9, rfl, W7⟩
        have hi4 : i < 4 := by omega
        refine ⟨_, rfl, _, rfl, r, sc, ns, n, rfl, R0.step W7.sb W7.row, by omega, by omega, fun H8 v1 sb8 R8 h10 h11 => ?_⟩
        have W8 := W7.drawn nmr ndr sb8 R8
        refine ⟨_, rfl, _, rfl, r, sc, ns, n, rfl, R0.step W8.sb W8.row, by omega, by omega, fun H9 v2 sb9 R9 h20 h21 => ?_⟩
        have W9 := W8.drawn nmr ndr sb9 R9
        obtain ⟨x, rfl⟩ : ∃ x : Nat, v1 = (x : Int) := ⟨v1.toNat, by omega⟩
        obtain ⟨y, rfl⟩ : ∃ y : Nat, v2 = (y : Int) := ⟨v2.toNat, by omega⟩
        refine ⟨_, _, rfl, ?_⟩
        refine ⟨_, rfl, _, rfl, rfl, _, rfl, ?_⟩
        by_cases c : x = y
        · subst c
          refine iteNS rfl ?_
          exact ⟨_, _, _, _, rfl, W9.mono (by omega)⟩
        · have hxy : ¬ V.int (x : Int) = V.int (y : Int) := fun z => c (by have := V.int.inj z; omega)
          rw [decide_eq_false hxy]
          refine iteT ?_
          refine ⟨_, rfl, _, rfl, _, rfl, _, _, rfl, _, rfl, _, rfl, _, _, rfl, (by show 2 ≤ sizeLine; decide), fun t nt => ?_⟩
          obtain ⟨e, e1, e2, H10, hp, W10⟩ := fin H9 (6 + i) (by omega) W9 x y (by omega) (by omega) c t nt
          rw [e1, e2]
          exact ⟨d, H10, rfl, hp, _, _, _, _, rfl, W10⟩
      · rintro σ H7 ⟨y6, y7, y8, y9, rfl, W7⟩
        obtain ⟨kvs, es, hd7, E7⟩ := W7.edges
        refine ⟨_, rfl, _, rfl, .inr (.inr (.inl ⟨rfl, .inr ⟨kvs, hd7⟩⟩)), d, kvs, rfl, rfl, hd7, fun kp nkp => ?_⟩
        have s8 : Same H7 (upd H7 kp (keysO kp d)) := same_upd nkp
        refine ⟨kp, d, kvs, es.map fun e => ((e.1 : Int), (e.2 : Int)), rfl, upd_same, s8 _ _ hd7, ?_, fun l bs ps nl pmk pw pr => ?_⟩
        · rw [E7.keys, List.map_map]; rfl
        have s9 := sm_upd (o := .lst (bs.map V.ref)) s8 (s8.free nl)
        refine ⟨l, _, rfl, .inl ⟨SqL.of upd_same, fun t nt => ?_⟩⟩
        have s10 := sm_upd (o := .tup (bs.map V.ref)) s9 (s9.free nt)
        refine ⟨(by show 2 ≤ sizeLine; decide), fun p np => ?_⟩
        have s11 := sm_upd (o := .tup [nI n, .ref t]) s10 (s10.free np)
        have ntp : t ≠ p := ne_of_none upd_same np
        obtain ⟨fs, pf, rfl⟩ := ints_nats pmk
        have sb11 : SameB r H (upd (upd (upd (upd H7 kp (keysO kp d)) l (.lst (bs.map V.ref))) t (.tup (bs.map V.ref))) p (.tup [nI n, .ref t])) := W7.sb.trans (SameB.of s11)
        refine q _ p n fs sb11 (W7.row.same s11) ⟨t, bs, upd_same, by rw [upd_ne ntp, upd_same], ?_⟩ ⟨hn1, hn6, fun e he => E7.good e (pf.mem_iff.mp he), asc_of pw (pf.nodup_iff.mpr E7.nd), by rw [pf.length_eq]; have := E7.len; omega⟩
        refine paired_imp (paired_map_right pr) fun b e hb => ?_
        have hb7 : (upd H7 kp (keysO kp d)) b = some (.tup [nI e.1, nI e.2]) := hb
        have s12 : Same (upd H7 kp (keysO kp d)) (upd (upd (upd (upd H7 kp (keysO kp d)) l (.lst (bs.map V.ref))) t (.tup (bs.map V.ref))) p (.tup [nI n, .ref t])) :=
          sm_upd (sm_upd (same_upd nl) ((same_upd nl).free nt)) ((sm_upd (same_upd nl) ((same_upd nl).free nt)).free np)
        exact s12 _ _ hb7
    · have W6 := W5'
      have hm0 : (0 : Int) ≤ 0 := Int.le_refl 0
      refine ⟨0, rfl, by omega, by omega, ?_⟩
      refine for_range (lo := 0) (n := (0 : Int).toNat) (fun i σ H' => ∃ y6 y7 y8 y9, σ = [some (.ref r), some (.int 6), some (nI n), some (.ref d), some (.int way), some (.ref nm), y6, y7, y8, y9] ∧ WInv H r sc nm d ord n (6 + i) H')
        ⟨_, _, _, _, rfl, W6⟩ ?_ ?_
      · rintro i σ H7 hi ⟨y6, y7, y8, y9, rfl, W7⟩
        have hi4 : i < 4 := absurd hi (Nat.not_lt_zero i)
        refine ⟨_, rfl, _, rfl, r, sc, ns, n, rfl, R0.step W7.sb W7.row, by omega, by omega, fun H8 v1 sb8 R8 h10 h11 => ?_⟩
        have W8 := W7.drawn nmr ndr sb8 R8
        refine ⟨_, rfl, _, rfl, r, sc, ns, n, rfl, R0.step W8.sb W8.row, by omega, by omega, fun H9 v2 sb9 R9 h20 h21 => ?_⟩
        have W9 := W8.drawn nmr ndr sb9 R9
        obtain ⟨x, rfl⟩ : ∃ x : Nat, v1 = (x : Int) := ⟨v1.toNat, by omega⟩
        obtain ⟨y, rfl⟩ : ∃ y : Nat, v2 = (y : Int) := ⟨v2.toNat, by omega⟩
        refine ⟨_, _, rfl, ?_⟩
        refine ⟨_, rfl, _, rfl, rfl, _, rfl, ?_⟩
        by_cases c : x = y
        · subst c
          refine iteNS rfl ?_
          exact ⟨_, _, _, _, rfl, W9.mono (by omega)⟩
        · have hxy : ¬ V.int (x : Int) = V.int (y : Int) := fun z => c (by have := V.int.inj z; omega)
          rw [decide_eq_false hxy]
          refine iteT ?_
          refine ⟨_, rfl, _, rfl, _, rfl, _, _, rfl, _, rfl, _, rfl, _, _, rfl, (by show 2 ≤ sizeLine; decide), fun t nt => ?_⟩
          obtain ⟨e, e1, e2, H10, hp, W10⟩ := fin H9 (6 + i) (by omega) W9 x y (by omega) (by omega) c t nt
          rw [e1, e2]
          exact ⟨d, H10, rfl, hp, _, _, _, _, rfl, W10⟩
      · rintro σ H7 ⟨y6, y7, y8, y9, rfl, W7⟩
        obtain ⟨kvs, es, hd7, E7⟩ := W7.edges
        refine ⟨_, rfl, _, rfl, .inr (.inr (.inl ⟨rfl, .inr ⟨kvs, hd7⟩⟩)), d, kvs, rfl, rfl, hd7, fun kp nkp => ?_⟩
        have s8 : Same H7 (upd H7 kp (keysO kp d)) := same_upd nkp
        refine ⟨kp, d, kvs, es.map fun e => ((e.1 : Int), (e.2 : Int)), rfl, upd_same, s8 _ _ hd7, ?_, fun l bs ps nl pmk pw pr => ?_⟩
        · rw [E7.keys, List.map_map]; rfl
        have s9 := sm_upd (o := .lst (bs.map V.ref)) s8 (s8.free nl)
        refine ⟨l, _, rfl, .inl ⟨SqL.of upd_same, fun t nt => ?_⟩⟩
        have s10 := sm_upd (o := .tup (bs.map V.ref)) s9 (s9.free nt)
        refine ⟨(by show 2 ≤ sizeLine; decide), fun p np => ?_⟩
        have s11 := sm_upd (o := .tup [nI n, .ref t]) s10 (s10.free np)
        have ntp : t ≠ p := ne_of_none upd_same np
        obtain ⟨fs, pf, rfl⟩ := ints_nats pmk
        have sb11 : SameB r H (upd (upd (upd (upd H7 kp (keysO kp d)) l (.lst (bs.map V.ref))) t (.tup (bs.map V.ref))) p (.tup [nI n, .ref t])) := W7.sb.trans (SameB.of s11)
        refine q _ p n fs sb11 (W7.row.same s11) ⟨t, bs, upd_same, by rw [upd_ne ntp, upd_same], ?_⟩ ⟨hn1, hn6, fun e he => E7.good e (pf.mem_iff.mp he), asc_of pw (pf.nodup_iff.mpr E7.nd), by rw [pf.length_eq]; have := E7.len; have e0 : (0 : Int).toNat = 0 := rfl; omega⟩
        refine paired_imp (paired_map_right pr) fun b e hb => ?_
        have hb7 : (upd H7 kp (keysO kp d)) b = some (.tup [nI e.1, nI e.2]) := hb
        have s12 : Same (upd H7 kp (keysO kp d)) (upd (upd (upd (upd H7 kp (keysO kp d)) l (.lst (bs.map V.ref))) t (.tup (bs.map V.ref))) p (.tup [nI n, .ref t])) :=
          sm_upd (sm_upd (same_upd nl) ((same_upd nl).free nt)) ((sm_upd (same_upd nl) ((same_upd nl).free nt)).free np)
        exact s12 _ _ hb7
abbrev TLWeb (P : Program) (w : World) (K : PySem.W.Frag) (mg : Str → Option Value) (base : Heap) : Prop := Df P w K mg base "_law_web" 3 ["_law_row", "_law_most"] (sp_law_web K)
end
end K23P

namespace K23P
open PySem PySem.Spec PyProof.Rows L2 K23 K23R
/-- the law's lists of neighbours -/
def NearAt (H : Hp) (l : Addr) (n : Nat) (es : List Edge) : Prop := ∃ rs : List Addr, H l = some (.lst (rs.map V.ref)) ∧ Paired (fun r k => H r = some (.lst ((nbs es k).map nI))) rs (List.range n)
theorem NearAt.same {H H' : Hp} {l : Addr} {n : Nat} {es : List Edge} (s : Same H H') (h : NearAt H l n es) : NearAt H' l n es := by
  obtain ⟨rs, h1, h2⟩ := h
  exact ⟨rs, s _ _ h1, paired_imp h2 fun _ _ z => s _ _ z⟩
theorem NearAt.sb {d : Addr} {H H' : Hp} {l : Addr} {n : Nat} {es : List Edge} (s : SameB d H H') (hd : ∀ xs, H d ≠ some (.lst xs)) (h : NearAt H l n es) : NearAt H' l n es := by
  obtain ⟨rs, h1, h2⟩ := h
  have t : ∀ b xs, H b = some (.lst xs) → H' b = some (.lst xs) := fun b xs e => s b _ (fun z => hd xs (by rw [← z]; exact e)) e
  exact ⟨rs, t _ _ h1, paired_imp h2 fun _ _ z => t _ _ z⟩
/-- as made at H: the lists are new -/
def NearF (H0 H : Hp) (l : Addr) (n : Nat) (es : List Edge) : Prop := H0 l = none ∧ ∃ rs : List Addr, H l = some (.lst (rs.map V.ref)) ∧ Paired (fun r k => H r = some (.lst ((nbs es k).map nI)) ∧ H0 r = none) rs (List.range n)
theorem NearF.at' {H0 H : Hp} {l : Addr} {n : Nat} {es : List Edge} (h : NearF H0 H l n es) : NearAt H l n es := by
  obtain ⟨_, rs, h1, h2⟩ := h
  exact ⟨rs, h1, paired_imp h2 fun _ _ z => z.1⟩
theorem NearF.sb {H0 : Hp} {d : Addr} {H H' : Hp} {l : Addr} {n : Nat} {es : List Edge} (s : SameB d H H') (hd : H0 d ≠ none) (h : NearF H0 H l n es) : NearF H0 H' l n es := by
  obtain ⟨h0, rs, h1, h2⟩ := h
  exact ⟨h0, rs, s _ _ (fun z => hd (z ▸ h0)) h1, paired_imp h2 fun _ _ z => ⟨s _ _ (fun y => hd (y ▸ z.2)) z.1, z.2⟩⟩
theorem NearF.same {H0 : Hp} {H H' : Hp} {l : Addr} {n : Nat} {es : List Edge} (s : Same H H') (h : NearF H0 H l n es) : NearF H0 H' l n es := by
  obtain ⟨h0, rs, h1, h2⟩ := h
  exact ⟨h0, rs, s _ _ h1, paired_imp h2 fun _ _ z => ⟨s _ _ z.1, z.2⟩⟩
theorem NearF.at {H0 H : Hp} {l : Addr} {n : Nat} {es : List Edge} (h : NearF H0 H l n es) {k : Nat} (hk : k < n) : ∃ (rs : List Addr) (r : Addr), H l = some (.lst (rs.map V.ref)) ∧ rs[k]? = some r ∧ H r = some (.lst ((nbs es k).map nI)) ∧ H0 r = none := by
  obtain ⟨_, rs, h1, h2⟩ := h
  have hl : rs.length = n := by rw [paired_len h2, List.length_range]
  obtain ⟨k', e, z⟩ := paired_at h2 k rs[k] (List.getElem?_eq_getElem (by omega))
  rw [List.getElem?_range hk] at e
  cases e
  exact ⟨rs, rs[k], h1, List.getElem?_eq_getElem (by omega), z.1, z.2⟩
theorem NearAt.at {H : Hp} {l : Addr} {n : Nat} {es : List Edge} (h : NearAt H l n es) {k : Nat} (hk : k < n) : ∃ (rs : List Addr) (r : Addr), H l = some (.lst (rs.map V.ref)) ∧ rs[k]? = some r ∧ H r = some (.lst ((nbs es k).map nI)) := by
  obtain ⟨rs, h1, h2⟩ := h
  have hl : rs.length = n := by rw [paired_len h2, List.length_range]
  obtain ⟨k', e, z⟩ := paired_at h2 k rs[k] (List.getElem?_eq_getElem (by omega))
  rw [List.getElem?_range hk] at e
  cases e
  exact ⟨rs, rs[k], h1, List.getElem?_eq_getElem (by omega), z⟩
theorem cL_two {o : Option Bool} : cL o = .int 2 ↔ o = none := by
  cases o with
  | none => simp [cL]
  | some b => cases b <;> simp [cL, bi]
theorem cL_one {o : Option Bool} : cL o = .int 1 ↔ o = some true := by
  cases o with
  | none => simp [cL]
  | some b => cases b <;> simp [cL, bi]
theorem cL_int (o : Option Bool) : ∃ i, cL o = .int i := by cases o <;> exact ⟨_, rfl⟩
theorem putK_mem {κ : Type} [DecidableEq κ] {kvs : List (κ × V)} {k : κ} {v : V} {kv : κ × V} (h : kv ∈ putK kvs k v) : kv = (k, v) ∨ (kv ∈ kvs ∧ kv.1 ≠ k) := by
  unfold putK at h
  split at h
  · obtain ⟨kv0, h0, rfl⟩ := List.mem_map.mp h
    by_cases e : kv0.1 = k
    · rw [if_pos e, e]; exact .inl rfl
    · rw [if_neg e]; exact .inr ⟨h0, e⟩
  · rename_i hn
    rcases List.mem_append.mp h with h | h
    · exact .inr ⟨h, fun e => hn (List.any_eq_true.mpr ⟨kv, h, decide_eq_true e⟩)⟩
    · exact .inl (List.mem_singleton.mp h)
theorem memo_put2 {es : List Edge} {kvs : List (List L2.Key × V)} (m : Memo es kvs) (L : Lay) (v : V) : Memo es (putK (putK kvs (L.map kO) v) (L.map kO) (.int (cnt es L))) := by
  intro kv h
  rcases putK_mem h with e | ⟨h1, h2⟩
  · rw [e]; exact ⟨L, rfl, rfl⟩
  · rcases putK_mem h1 with e | ⟨h3, _⟩
    · rw [e] at h2; exact absurd rfl h2
    · exact m kv h3
def roomL : Nat → Nat
  | 0 => 0
  | m + 1 => 6 * roomL m + 2
theorem roomL7 : roomL 7 ≤ 200000 := by decide
theorem cL_map (L : Lay) : (L.map kO).map kV = L.map cL := by rw [List.map_map]; exact List.map_congr_left fun o _ => kV_kO o
theorem hd_none {L : Lay} (h : lives L = 0) : hd L = [] := by
  unfold hd
  rw [List.filter_eq_nil_iff]
  intro i hi
  have := List.countP_eq_zero.mp (show (List.range L.length).countP (fun i => (staL L i).isSome) = 0 from h) i hi
  cases q : staL L i with
  | none => simp
  | some b => rw [q] at this; exact absurd rfl this
def dL : Option Bool → PyData
  | none => .int 2
  | some b => .int (bi b)
theorem dp_cL {K : PySem.W.Frag} {H : Hp} : ∀ o : Option Bool, Dp K H (cL o) (dL o)
  | none => .int _
  | some b => .int _
theorem fl_dL (l : List (Option Bool)) : ∀ d ∈ l.map dL, FlD d := fun d hd => by
  obtain ⟨o, _, rfl⟩ := List.mem_map.mp hd
  cases o <;> exact .inr ⟨_, rfl⟩
section
variable {P : Program} {w : World} {K : PySem.W.Frag} {mg : Str → Option Value} {base : Heap}
/-! ### _law_near -/
abbrev s_law_near : Stmt := topS 42
theorem sc__law_near : FnScope ["_law_web_here", "_law_k", "_law_a", "_law_b"] ["_law_web_here"] (defScope s_law_near) := ⟨rfl, rfl, rfl, by decide +kernel, rfl, by decide +kernel, by decide +kernel⟩
def sp_law_near : Sp := fun vs H Q _ => ∃ (p : Addr) (n : Nat) (es : List Edge), vs = [.ref p] ∧ WebAt H p n es ∧ IsWeb n es ∧ ∀ (H' : Hp) (l : Addr), Same H H' → NearF H H' l n es → Q (.ref l) H'
theorem ok_law_near {f : Addr} {fd : FuncData} (B : Bi mg) (F : Fun K "_law_near" "_law_near" s_law_near f fd) :
    FnOk P w K mg base CX0 1 f fd ["_law_web_here"] sp_law_near := by
  refine F.ok sc__law_near (fun vs H Q E h => ?_) (fun cdv A outer s H vs Q E hr h => ?_)
  · obtain ⟨p, n, es, rfl, _⟩ := h
    rfl
  obtain ⟨p, n, es, rfl, W0, J, q⟩ := h
  have h6 := J.le
  refine ⟨_, (pss_one (ps_ret (pe_lc (own := [("_law_k", 1)]) (g := gName 1) (tt := tYes) (by rfl) sc__law_near.nd (pi_range1 (by rfl) B.range (pa_cons (pe_ix (kx_ix_tup K rfl) (pv 0) pe_int (fun _ _ => rfl)) pa_nil)) (blkOk_by (own := [("_law_k", 1)]) (N := ["_law_web_here", "_law_k", "_law_a", "_law_b"]) (sc := defScope s_law_near) (by decide +kernel)) (fun _ _ _ _ _ => (pg_name (i := 1) sc__law_near.nd rfl (Or.inr rfl))) (fun _ _ _ _ _ => pts_nil) (fun _ _ _ _ _ => (pe_lc (own := [("_law_a", 2), ("_law_b", 3)]) (g := gTup K 2 (gCons (gName 2) (gCons (gName 3) gNil))) (by rfl) sc__law_near.nd (kx_pi_tup K rfl (pe_ix (kx_ix_tup K rfl) (pv 0) pe_int (fun _ _ => rfl))) (blkOk_by (own := [("_law_a", 2), ("_law_b", 3)]) (N := ["_law_web_here", "_law_k", "_law_a", "_law_b"]) (sc := { kind := .function, names := [(".0", .local), ("_law_k", .cell), ("_law_web_here", .cell)], isGenerator := false, isCoroutine := false }) (by decide +kernel)) (fun _ _ _ _ _ => (pg_tup rfl (pgs_cons (pg_name (i := 2) sc__law_near.nd rfl (Or.inl rfl)) (pgs_cons (pg_name (i := 3) sc__law_near.nd rfl (Or.inl rfl)) pgs_nil)))) (fun _ _ _ _ _ => pts_one (pt_cmpR (kx_in K rfl) (pv 1) (pe_lst (pa_cons (pv 2) (pa_cons (pv 3) pa_nil))) (by rfl))) (fun _ _ _ _ _ => (pe_op op_sub (pe_op op_add (pv 2) (pv 3)) (pv 1)))))))), ?_⟩
  obtain ⟨qa, as, h1, h2, h3⟩ := id W0
  have hlas : as.length = es.length := paired_len h3
  refine ⟨_, rfl, p, _, _, _, rfl, rfl, SqT.of h1, atI_nat (j := 0) rfl, n, rfl, by omega, by omega, fun D0 hD0 => ?_⟩
  refine lcY_range (lo := 0) (n := (n : Int).toNat) (fun i H' => Same H H' ∧ ∃ rs : List Addr, H' D0 = some (.lst (rs.map V.ref)) ∧ Paired (fun r k => (H' r = some (.lst ((nbs es k).map nI)) ∧ H r = none) ∧ r ≠ D0) rs (List.range i)) ⟨same_upd hD0, [], upd_same, .nil⟩ ?_ ?_
  · rintro i H1 hi ⟨sm1, rs, hD1, hrs⟩
    have ei : (0 : Int) + (i : Int) = (i : Int) := Int.zero_add _
    rw [ei]
    refine ⟨rfl, ?_⟩
    refine ⟨_, rfl, p, _, _, _, rfl, rfl, SqT.of (sm1 _ _ h1), atI_nat (j := 1) rfl, qa, rfl, ⟨_, SqT.of (sm1 _ _ h2)⟩, fun D hD => ?_⟩
    have nDD : D0 ≠ D := ne_of_none hD1 hD
    refine lc_tup (K := K) (a := qa) (xs := as.map V.ref) (fun j H' => Same H1 H' ∧ H' D = some (.lst ((nbs (es.take j) i).map nI))) ⟨same_upd hD, upd_same⟩ (fun j H' _ z => SqT.of (z.1 _ _ (sm1 _ _ h2))) ?_ ?_
    · rintro j x H2 hx ⟨sm, hDl⟩
      obtain ⟨b, hb, rfl⟩ := map_ref_at hx
      obtain ⟨e, he, hE⟩ := paired_at h3 j b hb
      refine ⟨b, _, rfl, SqT.of (hE.same (sm1.trans sm)), rfl, _, _, rfl, _, _, rfl, rfl, rfl, ?_⟩
      refine ⟨_, rfl, _, rfl, _, rfl, (by show 2 ≤ sizeLine; decide), fun t ht => ?_⟩
      have sT := sm_upd (o := .lst [nI e.1, nI e.2]) sm (sm.free ht)
      have nDt : D ≠ t := ne_of_none hDl ht
      refine ⟨t, _, rfl, .inl (SqL.of upd_same), rfl, rfl, _, rfl, ?_⟩
      have hin : inV (nI i) [nI e.1, nI e.2] = decide (e.1 = i ∨ e.2 = i) := by
        rw [show ([nI e.1, nI e.2] : List V) = [e.1, e.2].map nI from rfl, inV_nats]
        exact decide_eq_decide.mpr (by simp [eq_comm])
      show if inV (nI i) [nI e.1, nI e.2] = true then _ else _
      rw [hin]
      refine ite2 (fun c => ?_) (fun c => ?_)
      · have c' : e.1 = i ∨ e.2 = i := of_decide_eq_true c
        refine ⟨_, rfl, _, rfl, _, _, rfl, rfl, _, rfl, _, _, rfl, rfl, _, (by rw [upd_ne nDt]; exact hDl), ?_, ?_, ?_⟩
        · rw [List.length_map]
          refine small1000 ?_
          have := nbs_len (es.take j) i
          rw [List.length_take] at this
          have := J.len
          omega
        · intro b' o' e'
          rw [upd_ne (ne_of_none e' hD)]; exact sT _ _ e'
        · rw [upd_same, nbs_take_in he c', List.map_append]
          have eV : V.int ((e.1 : Int) + e.2 - i) = nI (e.1 + e.2 - i) := congrArg V.int (by omega)
          exact congrArg (fun v => some (HO.lst ((nbs (es.take j) i).map nI ++ [v]))) eV
      · have c' : ¬ (e.1 = i ∨ e.2 = i) := fun z => c (decide_eq_true z)
        exact ⟨sT, by rw [upd_ne nDt, nbs_take_out he c']; exact hDl⟩
    · rintro H2 ⟨sm, hDl⟩
      rw [List.length_map, hlas, List.take_length] at hDl
      have hD2 := sm _ _ hD1
      have hlr : rs.length ≤ 100 := by rw [paired_len hrs, List.length_range]; omega
      have sb : SameB D0 H2 (upd H2 D0 (.lst (rs.map V.ref ++ [.ref D]))) := SameB.upd
      refine ⟨_, hD2, small1000 (by rw [List.length_map]; omega), fun b' o' e' => ?_, rs ++ [D], by rw [upd_same, List.map_append]; rfl, ?_⟩
      · rw [upd_ne (ne_of_none e' hD0)]; exact sm _ _ (sm1 _ _ e')
      · rw [List.range_succ]
        refine paired_snoc (paired_imp hrs fun r k z => ⟨⟨sb _ _ z.2 (sm _ _ z.1.1), z.1.2⟩, z.2⟩) ⟨⟨sb _ _ nDD.symm hDl, sm1.free hD⟩, nDD.symm⟩
  · rintro H1 ⟨sm1, rs, hD1, hrs⟩
    rw [Int.toNat_natCast] at hrs
    exact q H1 D0 sm1 ⟨hD0, rs, hD1, paired_imp hrs fun _ _ z => z.1⟩
abbrev TLNear (P : Program) (w : World) (K : PySem.W.Frag) (mg : Str → Option Value) (base : Heap) : Prop := Df P w K mg base "_law_near" 1 ["_law_web_here"] sp_law_near
/-! ### _law_take -/
abbrev s_law_take : Stmt := topS 45
theorem sc__law_take : FnScope ["_law_near_here", "_law_laying_here", "_law_place", "_law_found", "_law_k"] ["_law_near_here", "_law_laying_here", "_law_place"] (defScope s_law_take) := ⟨rfl, rfl, rfl, by decide +kernel, rfl, by decide +kernel, by decide +kernel⟩
def sp_law_take : Sp := fun vs H Q _ => ∃ (l a : Addr) (n k : Nat) (es : List Edge) (L : Lay), vs = [.ref l, .ref a, nI k] ∧ NearAt H l n es ∧ Good n es ∧ H a = some (.tup (L.map cL)) ∧ L.length = n ∧ k < n ∧
  ∀ (H' : Hp) (r : Addr), Same H H' → H r = none → H' r = some (.tup ((tkL es L k).map cL)) → Q (.ref r) H'
theorem ok_law_take {f : Addr} {fd : FuncData} (B : Bi mg) (F : Fun K "_law_take" "_law_take" s_law_take f fd) :
    FnOk P w K mg base CX0 1 f fd ["_law_near_here", "_law_laying_here", "_law_place"] sp_law_take := by
  refine F.ok sc__law_take (fun vs H Q E h => ?_) (fun cdv A outer s H vs Q E hr h => ?_)
  · obtain ⟨l, a, n, k, es, L, rfl, _⟩ := h
    rfl
  obtain ⟨l, a, n, k, es, L, rfl, N0, g, hL, hn, hk, q⟩ := h
  refine ⟨_, (pss_cons (ps_set (i := 3) sc__law_take.nd rfl (Or.inl rfl) (pe_callTy (kx_list_of K rfl) (by rfl) B.list (by decide +kernel) (pa_cons (pv 1) pa_nil)))
    (pss_cons (ps_for PassesOwn.never rfl (kx_pi_list K rfl (pe_ix (kx_ix_list K rfl) (pv 0) (pv 2) (fun _ _ => rfl))) (pg_name (i := 4) sc__law_take.nd rfl (Or.inl rfl))
      (pss_one (ps_asg (pe_ifExp (pt_cmpR op_eq (pe_ix (kx_ix_list K rfl) (pv 3) (pv 4) (fun _ _ => rfl)) pe_int (nomark _)) pe_int (pe_op op_sub pe_int (pe_ix (kx_ix_list K rfl) (pv 3) (pv 4) (fun _ _ => rfl)))) (pg_sub (pv 3) (pv 4) set_list))))
    (pss_cons (ps_asg pe_int (pg_sub (pv 3) (pv 2) set_list))
    (pss_one (ps_ret (pe_callTy (kx_tuple_of K rfl) (by rfl) B.tuple (by decide +kernel) (pa_cons (pv 3) pa_nil))))))), ?_⟩
  obtain ⟨rs, r, hl, hrk, hr⟩ := N0.at hk
  refine ⟨_, rfl, a, _, rfl, .inr (SqT.of hL), fun u nu => ?_⟩
  have s1 : Same H (upd H u (.lst (L.map cL))) := same_upd nu
  have nur : u ≠ r := (ne_of_none hr nu).symm
  refine ⟨_, rfl, _, rfl, l, _, _, .ref r, rfl, rfl, SqL.of (s1 _ _ hl), atI_nat (by rw [List.getElem?_map, hrk]; rfl), r, rfl, ⟨_, SqL.of (s1 _ _ hr)⟩, ?_⟩
  refine for_list (K := K) (a := r) (xs := (nbs es k).map nI) (fun i σ H' => ∃ y, σ = [some (.ref l), some (.ref a), some (nI k), some (.ref u), y] ∧ Same H H' ∧
      H' u = some (.lst ((ftk L fun j => ((nbs es k).take i).count j).map cL)))
    ⟨none, rfl, s1, ?_⟩ (fun i σ H' _ ⟨_, _, z, _⟩ => SqL.of (z _ _ hr)) ?_ ?_
  · rw [upd_same]
    show _ = some (HO.lst ((ftk L fun j => ([] : List Nat).count j).map cL))
    rw [show (fun j => ([] : List Nat).count j) = fun _ => 0 from funext fun _ => List.count_nil, ftk_zero]
  · rintro i x σ H' hx ⟨y, rfl, sm, hu'⟩
    obtain ⟨m, hm, rfl⟩ := map_at hx
    have hmn : m < L.length := by
      rw [hn]
      exact nbs_lt g (List.mem_of_getElem? hm)
    have hat : ((ftk L fun j => ((nbs es k).take i).count j).map cL)[m]? = some (cL ((staL L m).map fun b => b ^^ odd (((nbs es k).take i).count m))) := by
      rw [List.getElem?_map, ftk_at hmn]; rfl
    have hstep := count_take hm
    obtain ⟨z, hz⟩ := cL_int ((staL L m).map fun b => b ^^ odd (((nbs es k).take i).count m))
    rw [hz] at hat
    have fin : ∀ v : V, v = cL ((staL L m).map fun b => b ^^ odd (((nbs es k).take i).count m + 1)) → ∃ y, [some (.ref l), some (.ref a), some (nI k), some (.ref u), some (nI m)] = [some (.ref l), some (.ref a), some (nI k), some (.ref u), y] ∧ Same H (upd H' u (.lst (List.set ((ftk L fun j => ((nbs es k).take i).count j).map cL) m v))) ∧
        (upd H' u (.lst (List.set ((ftk L fun j => ((nbs es k).take i).count j).map cL) m v))) u = some (.lst ((ftk L fun j => ((nbs es k).take (i + 1)).count j).map cL)) := fun v ev => by
      refine ⟨_, rfl, fun b' o' e' => ?_, ?_⟩
      · rw [upd_ne (ne_of_none e' nu)]; exact sm _ _ e'
      · rw [upd_same, ftk_step hmn hstep, List.map_set, ev]
    refine ⟨_, rfl, _, rfl, u, _, _, .int z, rfl, rfl, SqL.of hu', atI_nat hat, rfl, _, rfl, ite2 (fun c => ?_) (fun c => ?_)⟩
    · have c1 : cL ((staL L m).map fun b => b ^^ odd (((nbs es k).take i).count m)) = .int 2 := by rw [hz]; exact of_decide_eq_true c
      have c2 : staL L m = none := by
        have := cL_two.mp c1
        cases hs : staL L m with
        | none => rfl
        | some b => rw [hs] at this; cases this
      refine ⟨_, rfl, _, rfl, u, _, _, m, rfl, rfl, hu', ?_, fin _ ?_⟩
      · rw [List.length_map, ftk_len]; exact ixN_nat hmn
      · rw [c2]; rfl
    · have c2 : ∃ b, staL L m = some b := by
        cases hs : staL L m with
        | none =>
          rw [hs] at hz
          exact absurd (decide_eq_true (show V.int z = .int 2 from hz.symm)) c
        | some b => exact ⟨b, rfl⟩
      obtain ⟨b, hb⟩ := c2
      refine ⟨_, rfl, _, rfl, u, _, _, .int z, rfl, rfl, SqL.of hu', atI_nat hat, _, _, rfl, rfl, _, rfl, _, rfl, u, _, _, m, rfl, rfl, hu', ?_, fin _ ?_⟩
      · rw [List.length_map, ftk_len]; exact ixN_nat hmn
      · rw [hb] at hz
        have hz' : bi (b ^^ odd (((nbs es k).take i).count m)) = z := V.int.inj hz
        rw [← hz', hb]
        show V.int _ = V.int (bi _)
        rw [bi_not, odd_add, odd_one]
        cases b <;> cases odd (((nbs es k).take i).count m) <;> rfl
  · rintro σ H' ⟨y, rfl, sm, hu'⟩
    rw [List.length_map, List.take_length] at hu'
    refine ⟨_, rfl, _, rfl, u, _, _, k, rfl, rfl, hu', ?_, ?_⟩
    · rw [List.length_map, ftk_len]; exact ixN_nat (by omega)
    refine ⟨_, rfl, u, _, rfl, .inl ⟨SqL.of upd_same, fun t nt => ?_⟩⟩
    have sm3 : Same H (upd H' u (.lst (((ftk L fun j => (nbs es k).count j).map cL).set k (.int 2)))) := fun b' o' e' => by
      rw [upd_ne (ne_of_none e' nu)]; exact sm _ _ e'
    refine q _ t (sm_upd sm3 (sm3.free nt)) (sm3.free nt) ?_
    rw [upd_same]
    have e2 : ((ftk L fun j => (nbs es k).count j).map cL).set k (.int 2) = (tkL es L k).map cL := by
      rw [← ftk_end es L k, List.map_set]; rfl
    exact congrArg (fun v => some (HO.tup v)) e2
abbrev TLTake (P : Program) (w : World) (K : PySem.W.Frag) (mg : Str → Option Value) (base : Heap) : Prop := Df P w K mg base "_law_take" 1 ["_law_near_here", "_law_laying_here", "_law_place"] sp_law_take
end
end K23P

namespace K23P
open PySem PySem.Spec PyProof.Rows L2 K23 K23R
section
variable {P : Program} {w : World} {K : PySem.W.Frag} {mg : Str → Option Value} {base : Heap}
/-! ### _law_count -/
abbrev s_law_count : Stmt := topS 46
theorem sc__law_count : FnScope ["_law_near_here", "_law_laying_here", "_law_known", "_law_some", "_law_k", "_law_one"] ["_law_near_here", "_law_laying_here", "_law_known"] (defScope s_law_count) := ⟨rfl, rfl, rfl, by decide +kernel, rfl, by decide +kernel, by decide +kernel⟩
def sp_law_count (m : Nat) : Sp := fun vs H Q _ => ∃ (l a d : Addr) (n : Nat) (es : List Edge) (L : Lay) (kvs : List (List L2.Key × V)), vs = [.ref l, .ref a, .ref d] ∧ NearAt H l n es ∧ Good n es ∧ n ≤ 6 ∧ H a = some (.tup (L.map cL)) ∧ L.length = n ∧ lives L < m ∧
  H d = some (.dT kvs) ∧ Memo es kvs ∧ kvs.length + roomL m ≤ 1000000 ∧
  ∀ (H' : Hp) (kvs' : List (List L2.Key × V)), SameB d H H' → H' d = some (.dT kvs') → Memo es kvs' → kvs'.length ≤ kvs.length + roomL m → Q (.int (cnt es L)) H'
theorem ok_law_count {f : Addr} {fd : FuncData} (B : Bi mg) (D_law_take : TLTake P w K mg base) (F : Fun K "_law_count" "_law_count" s_law_count f fd) (b : Binds K fd ["_law_near_here", "_law_laying_here", "_law_known"] []) (mF : mg "_law_count" = some (.ref f)) :
    ∀ m : Nat, FnOk P w K mg base CX0 (m + 1) f fd ["_law_near_here", "_law_laying_here", "_law_known"] (sp_law_count m)
  | 0 => by
    have no : ∀ vs H Q E, ¬ sp_law_count 0 vs H Q E := fun vs H Q E h => by
      obtain ⟨l, a, d, n, es, L, kvs, _, _, _, _, _, _, h1, _⟩ := h
      omega
    exact ⟨fun vs H Q E h => absurd h (no vs H Q E), fun A outer s H args us vs Q E _ _ _ _ h => absurd h (no vs H Q E)⟩
  | m + 1 => by
    have D_law_count : Df P w K mg base "_law_count" (m + 1) ["_law_near_here", "_law_laying_here", "_law_known"] (sp_law_count m) := ⟨f, fd, ok_law_count B D_law_take F b mF m, b, F.kp, mF⟩
    refine F.ok sc__law_count (fun vs H Q E h => ?_) (fun cdv A outer s H vs Q E hr h => ?_)
    · obtain ⟨l, a, d, n, es, L, kvs, rfl, _⟩ := h
      rfl
    obtain ⟨l, a, d, n, es, L, kvs, rfl, N0, g, h6, hL, hn, hm, hd0, M0, hsz, q⟩ := h
    have hu := hu_of hr
    refine ⟨_, (pss_cons (ps_if (pt_cmp (pc_dnotin hu (pv 1) (pv 2)))
      (pss_cons (ps_setLc (i := 3) (own := [("_law_k", 4)]) (g := gName 4) rfl sc__law_count.nd rfl rfl (sw_true rfl rfl rfl (by decide +kernel)) (pi_range1 (by rfl) B.range (pa_cons (pe_callB (kx_len K rfl) (by rfl) B.len PySem.boot_len (pa_cons (pv 1) pa_nil)) pa_nil)) (blkOk_by (own := [("_law_k", 4)]) (N := ["_law_near_here", "_law_laying_here", "_law_known", "_law_some", "_law_k", "_law_one"]) (sc := defScope s_law_count) (by decide +kernel)) (fun _ _ _ _ _ => (pg_name (i := 4) sc__law_count.nd rfl (Or.inl rfl))) (fun _ _ _ _ _ => pts_one (pt_cmpR op_eq (pe_ix (kx_ix_tup K rfl) (pv 1) (pv 4) (fun _ _ => rfl)) pe_int (nomark _))) (fun _ _ _ _ _ => (pv 4)))
        (pss_cons (ps_dput hu (pv 2) (pv 1) (pe_callB (kx_sum K rfl rfl) (by rfl) B.sum (by decide +kernel) (pa_cons (pe_lc (own := [("_law_k", 4)]) (g := gName 4) (tt := tYes) (by rfl) sc__law_count.nd (kx_pi_list K rfl (pv 3)) (blkOk_by (own := [("_law_k", 4)]) (N := ["_law_near_here", "_law_laying_here", "_law_known", "_law_some", "_law_k", "_law_one"]) (sc := defScope s_law_count) (by decide +kernel)) (fun _ _ _ _ _ => (pg_name (i := 4) sc__law_count.nd rfl (Or.inl rfl))) (fun _ _ _ _ _ => pts_nil) (fun _ _ _ _ _ => (pe_df D_law_count (hr.mono (by omega)) (by rfl) (pa_cons (pv 0) (pa_cons (pe_df D_law_take (hr.mono (by omega)) (by rfl) (pa_cons (pv 0) (pa_cons (pv 1) (pa_cons (pv 4) pa_nil)))) (pa_cons (pv 2) pa_nil)))))) pa_nil)) rfl)
        (pss_one (ps_if (pt_cmpR (kx_eqD K rfl hr.units) (pe_lc (own := [("_law_one", 5)]) (g := gName 5) (by rfl) sc__law_count.nd (kx_pi_tup K rfl (pv 1)) (blkOk_by (own := [("_law_one", 5)]) (N := ["_law_near_here", "_law_laying_here", "_law_known", "_law_some", "_law_k", "_law_one"]) (sc := defScope s_law_count) (by decide +kernel)) (fun _ _ _ _ _ => (pg_name (i := 5) sc__law_count.nd rfl (Or.inl rfl))) (fun _ _ _ _ _ => pts_one (pt_cmpR op_ne (pv 5) pe_int (nomark _))) (fun _ _ _ _ _ => (pv 5))) (pe_lst pa_nil) (nomark _))
          (pss_one (ps_dput hu (pv 2) (pv 1) pe_int rfl))
          pss_nil))))
      pss_nil)
    (pss_one (ps_ret (pe_dget hu (pv 2) (pv 1) (fun _ _ => rfl))))), ?_⟩
    have nda : a ≠ d := fun e => by rw [e, hd0] at hL; cases hL
    have hkey : H a = some (.tup ((L.map kO).map kV)) := by rw [cL_map]; exact hL
    have hroom : roomL (m + 1) = 6 * roomL m + 2 := rfl
    refine ⟨_, rfl, _, rfl, d, _, rfl, DGet.t hd0 hkey, _, rfl, ?_⟩
    cases hv : valV kvs (L.map kO) with
    | some v =>
      refine iteF ?_
      refine ⟨_, rfl, _, rfl, d, v, rfl, by rw [← hv]; exact DGet.t hd0 hkey, ?_⟩
      have ev := memo_get M0 hv
      subst ev
      exact q _ kvs (SameB.of (Same.refl H)) hd0 M0 (by omega)
    | none =>
      refine iteT ?_
      -- some = [...]
      refine ⟨_, rfl, a, _, rfl, .inr (SqT.of hL), _, rfl, ?_, ?_, fun D hD => ?_⟩
      · rw [List.length_map]; omega
      · rw [List.length_map]; omega
      have hdl : ∀ i, ((List.range i).filter fun i => decide (staL L i = some true)).length ≤ i := fun i => by
        have := List.length_filter_le (fun i => decide (staL L i = some true)) (List.range i)
        rw [List.length_range] at this
        exact this
      refine lc_range (lo := 0) (n := (((L.map cL).length : Nat) : Int).toNat) (fun i H' => Same H H' ∧ H' D = some (.lst (((List.range i).filter fun i => decide (staL L i = some true)).map nI))) ⟨same_upd hD, upd_same⟩ ?_ ?_
      · rintro i H1 hi ⟨sm, hDl⟩
        rw [Int.toNat_natCast, List.length_map] at hi
        have ei : (0 : Int) + (i : Int) = (i : Int) := Int.zero_add _
        rw [ei]
        have ho : L[i]? = some L[i] := List.getElem?_eq_getElem hi
        generalize L[i] = o at ho
        have eo : staL L i = o := by unfold staL; rw [List.getD_eq_getElem?_getD, ho]; rfl
        obtain ⟨z, hz⟩ := cL_int o
        refine ⟨rfl, ?_⟩
        refine ⟨_, rfl, _, rfl, a, _, _, .int z, rfl, rfl, SqT.of (sm _ _ hL), atI_nat (by rw [List.getElem?_map, ho, ← hz]; rfl), rfl, _, rfl, ite2 (fun c => ?_) (fun c => ?_)⟩
        · have c' : o = some true := cL_one.mp (by rw [hz]; exact of_decide_eq_true c)
          refine ⟨_, rfl, _, hDl, ?_, ?_, ?_⟩
          · rw [List.length_map]
            exact small1000 (Nat.le_trans (hdl i) (by omega))
          · intro b' o' e'
            rw [upd_ne (ne_of_none e' hD)]; exact sm _ _ e'
          · rw [upd_same, List.range_succ, List.filter_append, List.filter_cons_of_pos (by rw [eo, c']; rfl), List.map_append]
            rfl
        · have c' : ¬ o = some true := fun z' => c (decide_eq_true (by rw [← hz]; exact cL_one.mpr z'))
          refine ⟨sm, ?_⟩
          rw [List.range_succ, List.filter_append, List.filter_cons_of_neg (by rw [eo]; simpa using c'), List.filter_nil, List.append_nil]
          exact hDl
      · rintro H1 ⟨sm1, hDl⟩
        rw [Int.toNat_natCast, List.length_map] at hDl
        have hD1 : H1 D = some (.lst ((hd L).map nI)) := hDl
        have nDd : D ≠ d := (ne_of_none hd0 hD).symm
        refine ⟨_, rfl, D, rfl, ⟨_, SqL.of hD1⟩, fun D3 hD3 => ?_⟩
        have n3d : D3 ≠ d := (ne_of_none (sm1 _ _ hd0) hD3).symm
        have n3D : D ≠ D3 := ne_of_none hD1 hD3
        have hdle := hd_le L
        refine lcY_list (K := K) (a := D) (xs := (hd L).map nI) (fun i H' => SameB d H H' ∧ H' D = some (.lst ((hd L).map nI)) ∧ H' D3 = some (.lst ((((hd L).take i).map fun k => cnt es (tkL es L k)).map V.int)) ∧
            ∃ kvs', H' d = some (.dT kvs') ∧ Memo es kvs' ∧ kvs'.length ≤ kvs.length + i * roomL m)
          ⟨SameB.of (sm_upd sm1 (sm1.free hD3)), by rw [upd_ne n3D]; exact hD1, upd_same, kvs, by rw [upd_ne n3d.symm]; exact sm1 _ _ hd0, M0, by omega⟩
          (fun i H' _ z => SqL.of z.2.1) ?_ ?_
        · rintro i x H5 hx ⟨sb, hhl5, hD5, kvs5, hd5, M5, hle5⟩
          obtain ⟨k, hk, rfl⟩ := map_at hx
          have hi : i < (hd L).length := (List.getElem?_eq_some_iff.mp hk).1
          have hkm : staL L k = some true := mem_hd.mp (List.mem_of_getElem? hk)
          have hkn : k < n := by have := staL_lt hkm; omega
          have N5 : NearAt H5 l n es := NearAt.sb sb (fun xs e => by rw [hd0] at e; cases e) N0
          refine ⟨rfl, ?_⟩
          refine ⟨_, rfl, _, rfl, _, rfl, _, rfl, l, a, n, k, es, L, rfl, N5, g, sb _ _ nda hL, hn, hkn, fun H6 r s6 nr hr6 => ?_⟩
          refine ⟨_, rfl, l, r, d, n, es, tkL es L k, kvs5, rfl, N5.same s6, g, h6, hr6, by rw [len_tkL, hn], ?_, s6 _ _ hd5, M5, ?_, fun H7 kvs7 sb7 hd7 M7 hle7 => ?_⟩
          · have := lives_tk (es := es) hkm
            omega
          · have : i * roomL m ≤ 5 * roomL m := Nat.mul_le_mul_right _ (by omega)
            omega
          · have hD7 : H7 D3 = some (.lst ((((hd L).take i).map fun k => cnt es (tkL es L k)).map V.int)) := sb7 _ _ n3d (s6 _ _ hD5)
            refine ⟨_, hD7, ?_, ?_, ?_, ?_, kvs7, ?_, M7, ?_⟩
            · rw [List.length_map, List.length_map, List.length_take]; exact small1000 (by omega)
            · intro b' o' nb' e'
              have : b' ≠ D3 := ne_of_none (sm1 _ _ e') hD3
              rw [upd_ne this]
              exact sb7 _ _ nb' (s6 _ _ (sb _ _ nb' e'))
            · rw [upd_ne n3D]; exact sb7 _ _ nDd (s6 _ _ hhl5)
            · rw [upd_same, take_map_snoc hk, List.map_append]; rfl
            · rw [upd_ne n3d.symm]; exact hd7
            · rw [Nat.succ_mul]; omega
        · rintro H5 ⟨sb, hhl5, hD5, kvs5, hd5, M5, hle5⟩
          rw [List.length_map] at hle5
          rw [List.length_map, List.take_length] at hD5
          refine ⟨D3, _, rfl, SqL.of hD5, ?_⟩
          have hle6 : kvs5.length ≤ kvs.length + 6 * roomL m := by
            have : (hd L).length * roomL m ≤ 6 * roomL m := Nat.mul_le_mul_right _ (by omega)
            omega
          have hkey5 : H5 a = some (.tup ((L.map kO).map kV)) := sb _ _ nda hkey
          refine ⟨_, rfl, _, rfl, d, _, rfl, DPut.t hd5 hkey5 (big_ok (by omega)), ?_⟩
          generalize hsum : ((hd L).map fun k => cnt es (tkL es L k)).sum = su
          have sb6 : SameB d H5 (upd H5 d (.dT (putK kvs5 (L.map kO) (.int su)))) := SameB.upd
          have hd6 : (upd H5 d (.dT (putK kvs5 (L.map kO) (.int su)))) d = some (.dT (putK kvs5 (L.map kO) (.int su))) := upd_same
          have hkey6 := sb6 _ _ nda hkey5
          have sbH6 := sb.trans sb6
          generalize upd H5 d (.dT (putK kvs5 (L.map kO) (.int su))) = H6 at sb6 hd6 hkey6 sbH6 ⊢
          have hle7 := putK_le kvs5 (L.map kO) (.int su)
          -- if [..] == []
          have hL6 : H6 a = some (.tup (L.map cL)) := by rw [← cL_map]; exact hkey6
          refine ⟨_, rfl, a, rfl, ⟨_, SqT.of hL6⟩, fun D4 hD4 => ?_⟩
          have n4d : D4 ≠ d := (ne_of_none hd6 hD4).symm
          refine lc_tup (K := K) (a := a) (xs := L.map cL) (fun i H' => Same H6 H' ∧ H' D4 = some (.lst (((L.take i).filter Option.isSome).map cL))) ⟨same_upd hD4, upd_same⟩ (fun i H' _ z => SqT.of (z.1 _ _ hL6)) ?_ ?_
          · rintro i x H7 hx ⟨sm, hDl⟩
            obtain ⟨o, ho, rfl⟩ := map_at hx
            obtain ⟨z, hz⟩ := cL_int o
            have hil : i < L.length := (List.getElem?_eq_some_iff.mp ho).1
            refine ⟨rfl, _, rfl, by rw [hz]; rfl, _, rfl, ?_⟩
            cases hs : o.isSome with
            | true =>
              have c : ¬ cL o = .int 2 := fun e => by rw [cL_two.mp e] at hs; cases hs
              rw [decide_eq_false c]
              refine iteT ⟨_, rfl, _, hDl, ?_, ?_, ?_⟩
              · rw [List.length_map]
                refine small1000 (Nat.le_trans (List.length_filter_le _ _) ?_)
                rw [List.length_take]; omega
              · intro b' o' e'
                rw [upd_ne (ne_of_none e' hD4)]; exact sm _ _ e'
              · rw [upd_same, filt_take_in ho hs, List.map_append]; rfl
            | false =>
              have c : cL o = .int 2 := cL_two.mpr (by cases o with | none => rfl | some b => cases hs)
              rw [decide_eq_true c]
              refine iteF ⟨sm, ?_⟩
              rw [filt_take_out ho (by rw [hs]; simp)]; exact hDl
          · rintro H7 ⟨sm7, hDl⟩
            rw [List.length_map, List.take_length] at hDl
            refine ⟨Nat.zero_le _, fun e0 ne0 => ?_⟩
            have s8 := sm_upd (o := .lst []) sm7 (sm7.free ne0)
            have nDe : D4 ≠ e0 := ne_of_none hDl ne0
            refine ⟨.list ((L.filter Option.isSome).map dL), .list [], .lst (SqL.of (by rw [upd_ne nDe]; exact hDl)) (dp_map dp_cL _), .lst (SqL.of upd_same) .nil, shaped_flat (fl_dL _), shaped_nil, ?_⟩
            refine ⟨_, rfl, ?_⟩
            rw [eqv_nil]
            generalize upd H7 e0 (.lst []) = H8 at s8 ⊢
            have sbH8 := sbH6.trans (SameB.of s8)
            refine ite2 (fun c => ?_) (fun c => ?_)
            · have c1 : (L.filter Option.isSome).map dL = [] := of_decide_eq_true c
              have c2 : lives L = 0 := by
                rw [← filt_lives, List.map_eq_nil_iff.mp c1]; rfl
              refine ⟨_, rfl, _, rfl, d, _, rfl, DPut.t (s8 _ _ hd6) (s8 _ _ hkey6) (big_ok (by omega)), ?_⟩
              have e1 : (1 : Int) = cnt es L := (cnt_zero c2).symm
              rw [e1]
              refine ⟨_, rfl, _, rfl, d, .int (cnt es L), rfl, ?_, ?_⟩
              · have gg := DGet.t (a := d) (b := a) (kvs := putK (putK kvs5 (L.map kO) (.int su)) (L.map kO) (.int (cnt es L))) (k := L.map kO) (H := upd H8 d (.dT (putK (putK kvs5 (L.map kO) (.int su)) (L.map kO) (.int (cnt es L))))) upd_same (by rw [upd_ne nda]; exact s8 _ _ hkey6)
                rw [valV_put, if_pos rfl] at gg
                exact gg
              · refine q _ _ (sbH8.trans SameB.upd) upd_same (memo_put2 M5 L _) ?_
                have := putK_le (putK kvs5 (L.map kO) (.int su)) (L.map kO) (.int (cnt es L))
                omega
            · have c2 : lives L ≠ 0 := fun z => c (decide_eq_true (by
                rw [← filt_lives] at z
                rw [List.eq_nil_of_length_eq_zero z]; rfl))
              have ec : su = cnt es L := by rw [← hsum]; exact (cnt_step c2).symm
              subst ec
              refine ⟨_, rfl, _, rfl, d, .int (cnt es L), rfl, ?_, ?_⟩
              · have gg := DGet.t (a := d) (b := a) (kvs := putK kvs5 (L.map kO) (.int (cnt es L))) (k := L.map kO) (H := H8) (s8 _ _ hd6) (s8 _ _ hkey6)
                rw [valV_put, if_pos rfl] at gg
                exact gg
              · exact q _ _ sbH8 (s8 _ _ hd6) (memo_put M5 L) (by omega)
abbrev TLCount (P : Program) (w : World) (K : PySem.W.Frag) (mg : Str → Option Value) (base : Heap) : Prop := Df P w K mg base "_law_count" 8 ["_law_near_here", "_law_laying_here", "_law_known"] (sp_law_count 7)
end
end K23P

namespace K23P
open PySem PySem.Spec PyProof.Rows L2 K23 K23R
/-- alike: the same number, or tuples of alike things -/
def Alk : Nat → Hp → V → V → Prop
  | 0, _, _, _ => False
  | m + 1, H, x, y => (∃ i : Int, x = .int i ∧ y = .int i) ∨ ∃ (a b : Addr) (xs ys : List V), x = .ref a ∧ y = .ref b ∧ H a = some (.tup xs) ∧ H b = some (.tup ys) ∧ Paired (Alk m H) xs ys ∧ xs.length ≤ 100
theorem Alk.same {H H' : Hp} (s : Same H H') : ∀ (m : Nat) {x y : V}, Alk m H x y → Alk m H' x y
  | 0, _, _, h => h
  | m + 1, _, _, h => by
    rcases h with h | ⟨a, b, xs, ys, h1, h2, h3, h4, h5, h6⟩
    · exact .inl h
    · exact .inr ⟨a, b, xs, ys, h1, h2, s _ _ h3, s _ _ h4, paired_imp h5 fun _ _ z => z.same s m, h6⟩
theorem paired_two {α β : Type} {F : α → β → Prop} {l : List α} {m : List β} (h : Paired F l m) {j : Nat} (hj : j < l.length) : ∃ x y, l[j]? = some x ∧ m[j]? = some y ∧ F x y := by
  obtain ⟨e, he, hf⟩ := paired_at h j l[j] (List.getElem?_eq_getElem hj)
  exact ⟨_, e, List.getElem?_eq_getElem hj, he, hf⟩
theorem kA_F {K : PySem.W.Frag} {a b c : String} (h1 : kitB a b = some false) (h2 : kitB a c = some false) : PySem.W.kitAny K (.type a) [.type b, .type c] = some false :=
  kitAny_cons (b := false) (kit_ty h1) (fun _ => kitAny_cons (b := false) (kit_ty h2) (fun _ => kitAny_nil) (fun z => nomatch z)) (fun z => nomatch z)
theorem kA_T {K : PySem.W.Frag} {a b c : String} (h1 : kitB a b = some true) : PySem.W.kitAny K (.type a) [.type b, .type c] = some true :=
  kitAny_cons (b := true) (r := true) (kit_ty h1) (fun z => nomatch z) (fun _ => rfl)
section
variable {P : Program} {w : World} {K : PySem.W.Frag} {mg : Str → Option Value} {base : Heap}
/-! ### _law_alike -/
abbrev s_law_alike : Stmt := topS 47
theorem sc__law_alike : FnScope ["_law_found", "_law_due", "_law_k"] ["_law_found", "_law_due"] (defScope s_law_alike) := ⟨rfl, rfl, rfl, by decide +kernel, rfl, by decide +kernel, by decide +kernel⟩
def sp_law_alike (m : Nat) : Sp := fun vs H Q _ => ∃ x y : V, vs = [x, y] ∧ Alk m H x y ∧ ∀ H' : Hp, Same H H' → Q (.bl true) H'
theorem ok_law_alike {f : Addr} {fd : FuncData} (B : Bi mg) (F : Fun K "_law_alike" "_law_alike" s_law_alike f fd) (b : Binds K fd ["_law_found", "_law_due"] []) (mF : mg "_law_alike" = some (.ref f)) :
    ∀ m : Nat, FnOk P w K mg base CX0 (m + 1) f fd ["_law_found", "_law_due"] (sp_law_alike m)
  | 0 => by
    have no : ∀ vs H Q E, ¬ sp_law_alike 0 vs H Q E := fun vs H Q E h => by
      obtain ⟨x, y, _, h1, _⟩ := h
      exact h1
    exact ⟨fun vs H Q E h => absurd h (no vs H Q E), fun A outer s H args us vs Q E _ _ _ _ h => absurd h (no vs H Q E)⟩
  | m + 1 => by
    have D_law_alike : Df P w K mg base "_law_alike" (m + 1) ["_law_found", "_law_due"] (sp_law_alike m) := ⟨f, fd, ok_law_alike B F b mF m, b, F.kp, mF⟩
    refine F.ok sc__law_alike (fun vs H Q E h => ?_) (fun cdv A outer s H vs Q E hr h => ?_)
    · obtain ⟨x, y, rfl, _⟩ := h
      rfl
    obtain ⟨x, y, rfl, h0, q⟩ := h
    refine ⟨_, (pss_cons (ps_if (pt_val (pe_callB (kx_isiT K rfl) (by rfl) B.isi (by decide +kernel) (pa_cons (pv 1) (pa_cons (pe_tup (pa_cons (pe_bltn (v := .ty "tuple") (by rfl) B.tuple (by decide +kernel) rfl) (pa_cons (pe_bltn (v := .ty "list") (by rfl) B.list (by decide +kernel) rfl) pa_nil))) pa_nil))))
      (pss_cons (ps_if (PW.pt (pw_or (pt_not (pt_val (pe_callB (kx_isiT K rfl) (by rfl) B.isi (by decide +kernel) (pa_cons (pv 0) (pa_cons (pe_tup (pa_cons (pe_bltn (v := .ty "tuple") (by rfl) B.tuple (by decide +kernel) rfl) (pa_cons (pe_bltn (v := .ty "list") (by rfl) B.list (by decide +kernel) rfl) pa_nil))) pa_nil))))) (pw_or1 (pt_cmpR op_ne (pe_callB (kx_isi K rfl) (by rfl) B.isi (by decide +kernel) (pa_cons (pv 0) (pa_cons (pe_bltn (v := .ty "list") (by rfl) B.list (by decide +kernel) rfl) pa_nil))) (pe_callB (kx_isi K rfl) (by rfl) B.isi (by decide +kernel) (pa_cons (pv 1) (pa_cons (pe_bltn (v := .ty "list") (by rfl) B.list (by decide +kernel) rfl) pa_nil))) (nomark _)))))
          (pss_one (ps_ret pe_bl))
          pss_nil)
        (pss_cons (ps_if (pt_cmpR op_ne (pe_callB (kx_len K rfl) (by rfl) B.len PySem.boot_len (pa_cons (pv 0) pa_nil)) (pe_callB (kx_len K rfl) (by rfl) B.len PySem.boot_len (pa_cons (pv 1) pa_nil)) (nomark _))
          (pss_one (ps_ret pe_bl))
          pss_nil)
        (pss_one (ps_ret (pe_cmpR (kx_eqD K rfl hr.units) (pe_lc (own := [("_law_k", 2)]) (g := gName 2) (by rfl) sc__law_alike.nd (pi_range1 (by rfl) B.range (pa_cons (pe_callB (kx_len K rfl) (by rfl) B.len PySem.boot_len (pa_cons (pv 1) pa_nil)) pa_nil)) (blkOk_by (own := [("_law_k", 2)]) (N := ["_law_found", "_law_due", "_law_k"]) (sc := defScope s_law_alike) (by decide +kernel)) (fun _ _ _ _ _ => (pg_name (i := 2) sc__law_alike.nd rfl (Or.inl rfl))) (fun _ _ _ _ _ => pts_one (pt_not (pt_val (pe_df D_law_alike (hr.mono (by omega)) (by rfl) (pa_cons (pe_ix (kx_ix_tup K rfl) (pv 0) (pv 2) (fun _ _ => rfl)) (pa_cons (pe_ix (kx_ix_tup K rfl) (pv 1) (pv 2) (fun _ _ => rfl)) pa_nil)))))) (fun _ _ _ _ _ => (pv 2))) (pe_lst pa_nil) (nomark _))))))
      pss_nil)
    (pss_cons (ps_if (PW.pt (pw_or (pt_cmpR op_isN (pv 1) pe_non (nomark _)) (pw_or1 (pt_val (pe_callB (kx_isi K rfl) (by rfl) B.isi (by decide +kernel) (pa_cons (pv 1) (pa_cons (pe_bltn (v := .ty "str") (by rfl) B.str (by decide +kernel) rfl) pa_nil)))))))
      (pss_one (ps_ret (pe_and (pe_cmpR op_eq (pv 0) (pv 1) (nomark _)) (pe_one (pe_cmpR op_eq (pe_callB (kx_isi K rfl) (by rfl) B.isi (by decide +kernel) (pa_cons (pv 0) (pa_cons (pe_bltn (v := .ty "str") (by rfl) B.str (by decide +kernel) rfl) pa_nil))) (pe_callB (kx_isi K rfl) (by rfl) B.isi (by decide +kernel) (pa_cons (pv 1) (pa_cons (pe_bltn (v := .ty "str") (by rfl) B.str (by decide +kernel) rfl) pa_nil))) (nomark _))))))
      pss_nil)
    (pss_one (ps_ret (pe_and (pe_callB (kx_isi K rfl) (by rfl) B.isi (by decide +kernel) (pa_cons (pv 0) (pa_cons (pe_bltn (v := .ty "int") (by rfl) B.int (by decide +kernel) rfl) pa_nil))) (pe_and (pe_cmpR op_eq (pe_callB (kx_isi K rfl) (by rfl) B.isi (by decide +kernel) (pa_cons (pv 0) (pa_cons (pe_bltn (v := .ty "bool") (by rfl) B.bool (by decide +kernel) rfl) pa_nil))) (pe_callB (kx_isi K rfl) (by rfl) B.isi (by decide +kernel) (pa_cons (pv 1) (pa_cons (pe_bltn (v := .ty "bool") (by rfl) B.bool (by decide +kernel) rfl) pa_nil))) (nomark _)) (pe_one (pe_cmpR op_eq (pv 0) (pv 1) (nomark _))))))))), ?_⟩
    rcases h0 with ⟨i, rfl, rfl⟩ | ⟨a, b', xs, ys, rfl, rfl, ha, hb, hp, hl⟩
    · refine ⟨_, rfl, (by show 2 ≤ sizeLine; decide), fun t nt => ?_⟩
      refine ⟨_, t, _, _, _, false, rfl, upd_same, .cons (.ty _) (.cons (.ty _) .nil), ty_int, kA_F (by decide +kernel) (by decide +kernel), _, rfl, iteF ?_⟩
      refine ⟨_, rfl, rfl, _, rfl, iteF ?_⟩
      refine ⟨_, rfl, _, _, _, _, false, rfl, .ty _, ty_int, kit_ty (by decide +kernel), _, rfl, iteF ?_⟩
      refine ⟨_, rfl, _, _, _, _, true, rfl, .ty _, ty_int, kit_ty (by decide +kernel), _, rfl, iteT ?_⟩
      refine ⟨_, rfl, _, _, _, _, false, rfl, .ty _, ty_int, kit_ty (by decide +kernel), _, rfl, _, _, _, _, false, rfl, .ty _, ty_int, kit_ty (by decide +kernel), rfl, _, rfl, iteT ?_⟩
      refine ⟨_, rfl, _, rfl, rfl, ?_⟩
      rw [decide_eq_true (rfl : V.int i = V.int i)]
      exact q _ (same_upd nt)
    · have hlen := paired_len hp
      refine ⟨_, rfl, (by show 2 ≤ sizeLine; decide), fun t nt => ?_⟩
      have s1 : Same H (upd H t (.tup [V.ty "tuple", V.ty "list"])) := same_upd nt
      have ht1 : (upd H t (.tup [V.ty "tuple", V.ty "list"])) t = some (.tup [V.ty "tuple", V.ty "list"]) := upd_same
      generalize upd H t (.tup [V.ty "tuple", V.ty "list"]) = H1 at s1 ht1 ⊢
      refine ⟨_, t, _, _, _, true, rfl, ht1, .cons (.ty _) (.cons (.ty _) .nil), ty_tup (s1 _ _ hb), kA_T (by decide +kernel), _, rfl, iteT ?_⟩
      refine ⟨_, rfl, (by show 2 ≤ sizeLine; decide), fun t2 nt2 => ?_⟩
      have s2 : Same H (upd H1 t2 (.tup [V.ty "tuple", V.ty "list"])) := sm_upd s1 (s1.free nt2)
      have ht2 : (upd H1 t2 (.tup [V.ty "tuple", V.ty "list"])) t2 = some (.tup [V.ty "tuple", V.ty "list"]) := upd_same
      generalize upd H1 t2 (.tup [V.ty "tuple", V.ty "list"]) = H2 at s2 ht2 ⊢
      refine ⟨_, t2, _, _, _, true, rfl, ht2, .cons (.ty _) (.cons (.ty _) .nil), ty_tup (s2 _ _ ha), kA_T (by decide +kernel), _, rfl, iteF ?_⟩
      refine ⟨_, rfl, _, _, _, _, false, rfl, .ty _, ty_tup (s2 _ _ ha), kit_ty (by decide +kernel), _, rfl, _, _, _, _, false, rfl, .ty _, ty_tup (s2 _ _ hb), kit_ty (by decide +kernel), rfl, _, rfl, iteF ?_⟩
      refine ⟨_, rfl, a, _, rfl, .inr (SqT.of (s2 _ _ ha)), _, rfl, b', _, rfl, .inr (SqT.of (s2 _ _ hb)), rfl, _, rfl, iteNS (by rw [hlen]) ?_⟩
      refine ⟨_, rfl, b', _, rfl, .inr (SqT.of (s2 _ _ hb)), _, rfl, by omega, by omega, fun D hD => ?_⟩
      refine lc_range (lo := 0) (n := ((ys.length : Nat) : Int).toNat) (fun i H' => Same H2 H' ∧ H' D = some (.lst [])) ⟨same_upd hD, upd_same⟩ ?_ ?_
      · rintro i H3 hi ⟨sm, hDl⟩
        rw [Int.toNat_natCast] at hi
        have ei : (0 : Int) + (i : Int) = (i : Int) := Int.zero_add _
        rw [ei]
        have s3 := s2.trans sm
        obtain ⟨x, y, hx, hy, hxy⟩ := paired_two hp (j := i) (by omega)
        refine ⟨rfl, ?_⟩
        refine ⟨_, rfl, _, rfl, a, _, _, x, rfl, rfl, SqT.of (s3 _ _ ha), atI_nat hx, _, rfl, _, rfl, b', _, _, y, rfl, rfl, SqT.of (s3 _ _ hb), atI_nat hy, x, y, rfl, hxy.same s3 m, fun H4 s4 => ?_⟩
        refine ⟨_, rfl, iteF ⟨sm.trans s4, s4 _ _ hDl⟩⟩
      · rintro H3 ⟨sm, hDl⟩
        refine ⟨Nat.zero_le _, fun e0 ne0 => ?_⟩
        have s3 := s2.trans sm
        have s4 := sm_upd (o := .lst []) s3 (s3.free ne0)
        have nDe : D ≠ e0 := ne_of_none hDl ne0
        refine ⟨.list [], .list [], .lst (SqL.of (by rw [upd_ne nDe]; exact hDl)) .nil, .lst (SqL.of upd_same) .nil, shaped_nil, shaped_nil, ?_⟩
        rw [eqv_nil]
        exact q _ s4
abbrev TLAlike (P : Program) (w : World) (K : PySem.W.Frag) (mg : Str → Option Value) (base : Heap) : Prop := Df P w K mg base "_law_alike" 4 ["_law_found", "_law_due"] (sp_law_alike 3)
end
end K23P

namespace K23P
open PySem PySem.Spec PyProof.Rows L2 K23 K23R
/-- the law's laying when the places from j on are laid -/
def fB (es : List Edge) (ord : List Nat) (j q : Nat) : Bool := decide (q ∈ ord.drop j) && !odd ((nbs es q).filter fun x => decide (x ∈ (ord.take (ord.idxOf q)).drop j)).length
theorem fB_end (es : List Edge) (ord : List Nat) (j q : Nat) (h : ord.length ≤ j) : fB es ord j q = false := by
  unfold fB
  rw [List.drop_eq_nil_of_le h]
  rfl
theorem fB_zero (es : List Edge) (ord : List Nat) (q : Nat) (h : q ∈ ord) : fB es ord 0 q = layB es ord q := by
  unfold fB layB
  rw [List.drop_zero, List.drop_zero, decide_eq_true h]
  rfl
theorem filter_cons_count {p : Nat} {l : List Nat} (hp : p ∉ l) : ∀ m : List Nat, (m.filter fun x => decide (x ∈ p :: l)).length = (m.filter fun x => decide (x ∈ l)).length + m.count p
  | [] => rfl
  | y :: m => by
    have ih := filter_cons_count hp m
    rw [List.filter_cons, List.filter_cons, List.count_cons]
    by_cases e : y = p
    · subst e
      rw [if_pos (by simp), if_neg (by simpa using hp)]
      simp only [beq_self_eq_true, if_true, List.length_cons]
      omega
    · by_cases e2 : y ∈ l
      · rw [if_pos (by simp [e2]), if_pos (by simpa using e2), List.length_cons, List.length_cons, ih]
        simp [e]; omega
      · rw [if_neg (by simp [e, e2]), if_neg (by simpa using e2), ih]
        simp [e]
theorem fB_step {n : Nat} {es : List Edge} (g : Good n es) {A B : List Nat} {p : Nat} (nd : (A ++ p :: B).Nodup) (q : Nat) :
    fB es (A ++ p :: B) A.length q = if q = p then true else (fB es (A ++ p :: B) (A.length + 1) q ^^ (decide (q ∈ B) && odd ((nbs es p).count q))) := by
  obtain ⟨nA, nB, dis⟩ := List.nodup_append.mp nd
  obtain ⟨npB, nB2⟩ := List.nodup_cons.mp nB
  have npA : p ∉ A := fun z => dis p z p List.mem_cons_self rfl
  have d0 : (A ++ p :: B).drop A.length = p :: B := by rw [List.drop_left]
  have d1 : (A ++ p :: B).drop (A.length + 1) = B := by rw [← List.drop_drop, List.drop_left]; rfl
  unfold fB
  rw [d0, d1]
  by_cases e : q = p
  · subst e
    rw [if_pos rfl, List.idxOf_append, if_neg npA, List.idxOf_cons_self]
    have : (A ++ q :: B).take (0 + A.length) = A := by rw [Nat.zero_add, List.take_left]
    rw [this, List.drop_length, decide_eq_true (show q ∈ q :: B from List.mem_cons_self)]
    have : ((nbs es q).filter fun x => decide (x ∈ ([] : List Nat))) = [] := by
      rw [List.filter_eq_nil_iff]; intro x _; simp
    rw [this]; rfl
  · rw [if_neg e]
    by_cases hB : q ∈ B
    · have nqA : q ∉ A := fun z => dis q z q (List.mem_cons_of_mem _ hB) rfl
      have ix : (A ++ p :: B).idxOf q = B.idxOf q + 1 + A.length := by
        rw [List.idxOf_append, if_neg nqA, List.idxOf_cons, beq_eq_false_iff_ne.mpr (fun z => e z.symm)]
        rfl
      have tk : (A ++ p :: B).take (B.idxOf q + 1 + A.length) = A ++ p :: B.take (B.idxOf q) := by
        rw [List.take_append, List.take_of_length_le (by omega), show B.idxOf q + 1 + A.length - A.length = B.idxOf q + 1 by omega]; rfl
      have t0 : (A ++ p :: B.take (B.idxOf q)).drop A.length = p :: B.take (B.idxOf q) := by rw [List.drop_left]
      have t1 : (A ++ p :: B.take (B.idxOf q)).drop (A.length + 1) = B.take (B.idxOf q) := by rw [← List.drop_drop, List.drop_left]; rfl
      rw [ix, tk, t0, t1, filter_cons_count (fun z => npB (List.mem_of_mem_take z)), odd_add, nbs_symm g p q]
      rw [decide_eq_true (List.mem_cons_of_mem p hB), decide_eq_true hB]
      cases odd ((nbs es q).filter fun x => decide (x ∈ B.take (B.idxOf q))).length <;> cases odd ((nbs es q).count p) <;> rfl
    · rw [decide_eq_false hB, decide_eq_false (show ¬ q ∈ p :: B from fun z => (List.mem_cons.mp z).elim e hB)]
      rfl
/-- a list of n coins -/
def Lst (n : Nat) (g : Nat → Bool) : List V := ((List.range n).map g).map cb
theorem Lst_len {n : Nat} {g : Nat → Bool} : (Lst n g).length = n := by unfold Lst; rw [List.length_map, List.length_map, List.length_range]
theorem Lst_congr {n : Nat} {g h : Nat → Bool} (e : ∀ q, q < n → g q = h q) : Lst n g = Lst n h := by
  unfold Lst
  rw [List.map_congr_left (l := List.range n) fun q hq => e q (List.mem_range.mp hq)]
theorem Lst_at {n : Nat} {g : Nat → Bool} {m : Nat} (h : m < n) : (Lst n g)[m]? = some (cb (g m)) := by
  unfold Lst
  rw [List.getElem?_map, List.getElem?_map, List.getElem?_range h]; rfl
theorem Lst_set {n : Nat} {g : Nat → Bool} {p : Nat} {v : Bool} : (Lst n g).set p (cb v) = Lst n fun q => if q = p then v else g q := by
  apply List.ext_getElem?
  intro i
  rw [List.getElem?_set]
  by_cases hi : i < n
  · rw [Lst_at hi, Lst_at hi, Lst_len]
    by_cases e : p = i
    · subst e; rw [if_pos rfl, if_pos hi, if_pos rfl]
    · rw [if_neg e, if_neg (fun z => e z.symm)]
  · have h1 : (Lst n g)[i]? = none := List.getElem?_eq_none (by rw [Lst_len]; omega)
    have h2 : (Lst n fun q => if q = p then v else g q)[i]? = none := List.getElem?_eq_none (by rw [Lst_len]; omega)
    rw [h1, h2, Lst_len]
    by_cases e : p = i
    · subst e; rw [if_pos rfl, if_neg hi]
    · rw [if_neg e]
def gC (es : List Edge) (ord : List Nat) (j p : Nat) (l : List Nat) (q : Nat) : Bool := if q = p then true else (fB es ord (j + 1) q ^^ (decide (q ∈ ord.drop (j + 1)) && odd (l.count q)))
theorem gC_nil {es : List Edge} {ord : List Nat} {j p n : Nat} : (Lst n (fB es ord (j + 1))).set p (.int 1) = Lst n (gC es ord j p []) := by
  have e1 : (Lst n (fB es ord (j + 1))).set p (.int 1) = Lst n fun q' => if q' = p then true else fB es ord (j + 1) q' := Lst_set (v := true)
  rw [e1]
  refine Lst_congr fun q' _ => ?_
  unfold gC
  by_cases e : q' = p
  · rw [if_pos e, if_pos e]
  · rw [if_neg e, if_neg e, List.count_nil, odd_zero, Bool.and_false, Bool.xor_false]
theorem gC_in {es : List Edge} {ord : List Nat} {j p n m : Nat} {l l' : List Nat} (hmb : m ∈ ord.drop (j + 1)) (hmp : m ≠ p) (hs : ∀ q, l'.count q = l.count q + if q = m then 1 else 0) :
    (Lst n (gC es ord j p l)).set m (V.int (1 - bi (gC es ord j p l m))) = Lst n (gC es ord j p l') := by
  have eV : V.int (1 - bi (gC es ord j p l m)) = cb (!gC es ord j p l m) := congrArg V.int (bi_not (gC es ord j p l m))
  rw [eV, Lst_set]
  refine Lst_congr fun q' _ => ?_
  by_cases e : q' = m
  · subst e
    rw [if_pos rfl]
    unfold gC
    rw [if_neg hmp, if_neg hmp, hs, if_pos rfl, odd_add, odd_one, decide_eq_true hmb]
    cases fB es ord (j + 1) q' <;> cases odd (l.count q') <;> rfl
  · rw [if_neg e]
    unfold gC
    rw [hs, if_neg e]; rfl
theorem gC_out {es : List Edge} {ord : List Nat} {j p n m : Nat} {l l' : List Nat} (hmb : ¬ m ∈ ord.drop (j + 1)) (hs : ∀ q, l'.count q = l.count q + if q = m then 1 else 0) :
    Lst n (gC es ord j p l) = Lst n (gC es ord j p l') := by
  refine Lst_congr fun q' _ => ?_
  unfold gC
  by_cases e : q' = m
  · subst e
    rw [decide_eq_false hmb]; rfl
  · rw [hs, if_neg e]; rfl
section
variable {P : Program} {w : World} {K : PySem.W.Frag} {mg : Str → Option Value} {base : Heap}
/-! ### _law_laying -/
abbrev s_law_laying : Stmt := topS 48
theorem sc__law_laying : FnScope ["_law_web_here", "_law_order_here", "_law_found", "_law_near_here", "_law_k", "_law_place", "_law_behind", "_law_x"] ["_law_web_here", "_law_order_here"] (defScope s_law_laying) := ⟨rfl, rfl, rfl, by decide +kernel, rfl, by decide +kernel, by decide +kernel⟩
def sp_law_laying : Sp := fun vs H Q _ => ∃ (p a : Addr) (n : Nat) (es : List Edge) (ord : List Nat), vs = [.ref p, .ref a] ∧ WebAt H p n es ∧ IsWeb n es ∧ OrdAt H a ord ∧ ord.Perm (List.range n) ∧ ∀ (H' : Hp) (r : Addr), Same H H' → FullAt H' r (layO es n ord) → Q (.ref r) H'
theorem ok_law_laying {f : Addr} {fd : FuncData} (B : Bi mg) (D_law_near : TLNear P w K mg base) (F : Fun K "_law_laying" "_law_laying" s_law_laying f fd) :
    FnOk P w K mg base CX0 2 f fd ["_law_web_here", "_law_order_here"] sp_law_laying := by
  refine F.ok sc__law_laying (fun vs H Q E h => ?_) (fun cdv A outer s H vs Q E hr h => ?_)
  · obtain ⟨p, a, n, es, ord, rfl, _⟩ := h
    rfl
  obtain ⟨p, a, n, es, ord, rfl, W0, J, hO, pm, q⟩ := h
  have h6 := J.le
  refine ⟨_, (pss_cons (ps_set (i := 2) sc__law_laying.nd rfl (Or.inl rfl) (pe_op op_rep (pe_lst (pa_cons pe_int pa_nil)) (pe_ix (kx_ix_tup K rfl) (pv 0) pe_int (fun _ _ => rfl))))
    (pss_cons (ps_set (i := 3) sc__law_laying.nd rfl (Or.inl rfl) (pe_df D_law_near (hr.mono (by omega)) (by rfl) (pa_cons (pv 0) pa_nil)))
    (pss_cons (ps_for PassesOwn.never rfl (pi_range1 (by rfl) B.range (pa_cons (pe_ix (kx_ix_tup K rfl) (pv 0) pe_int (fun _ _ => rfl)) pa_nil)) (pg_name (i := 4) sc__law_laying.nd rfl (Or.inl rfl))
      (pss_cons (ps_set (i := 5) sc__law_laying.nd rfl (Or.inl rfl) (pe_ix (kx_ix_tup K rfl) (pv 1) (pe_op op_sub (pe_op op_sub (pe_ix (kx_ix_tup K rfl) (pv 0) pe_int (fun _ _ => rfl)) pe_int) (pv 4)) (fun _ _ => rfl)))
        (pss_cons (ps_set (i := 6) sc__law_laying.nd rfl (Or.inl rfl) (pe_slice (kx_sl_tup K rfl) (pv 1) (po_some (pe_op op_sub (pe_ix (kx_ix_tup K rfl) (pv 0) pe_int (fun _ _ => rfl)) (pv 4))) po_none))
        (pss_cons (ps_asg pe_int (pg_sub (pv 2) (pv 5) set_list))
        (pss_one (ps_for PassesOwn.never rfl (kx_pi_list K rfl (pe_ix (kx_ix_list K rfl) (pv 3) (pv 5) (fun _ _ => rfl))) (pg_name (i := 7) sc__law_laying.nd rfl (Or.inl rfl))
          (pss_one (ps_if (pt_cmpR (kx_in K rfl) (pv 7) (pv 6) (by rfl))
              (pss_one (ps_asg (pe_op op_sub pe_int (pe_ix (kx_ix_list K rfl) (pv 2) (pv 7) (fun _ _ => rfl))) (pg_sub (pv 2) (pv 7) set_list)))
              pss_nil))))))))
    (pss_one (ps_ret (pe_callTy (kx_tuple_of K rfl) (by rfl) B.tuple (by decide +kernel) (pa_cons (pv 2) pa_nil))))))), ?_⟩
  obtain ⟨qa, ea, h1, h2, h3⟩ := id W0
  have hlo : ord.length = n := by rw [pm.length_eq, List.length_range]
  have nd : ord.Nodup := pm.nodup_iff.mpr List.nodup_range
  refine ⟨(by show 1 ≤ sizeLine; decide), fun t nt => ?_⟩
  have s0 : Same H (upd H t (.lst [.int 0])) := same_upd nt
  refine ⟨_, rfl, p, _, _, _, rfl, rfl, SqT.of (s0 _ _ h1), atI_nat (j := 0) rfl, t, n, _, rfl, rfl, upd_same, by omega, by omega, by simp; exact small (by omega), fun u nu => ?_⟩
  have e0 : (List.replicate ((n : Nat) : Int).toNat [V.int 0]).flatten = Lst n (fB es ord n) := by
    rw [Int.toNat_natCast]
    apply List.ext_getElem?
    intro i
    have e1 : (List.replicate n [V.int 0]).flatten = List.replicate n (V.int 0) := by simp
    rw [e1, List.getElem?_replicate]
    by_cases hi : i < n
    · rw [if_pos hi, Lst_at hi, fB_end _ _ _ _ (by omega)]; rfl
    · rw [if_neg hi, List.getElem?_eq_none (by rw [Lst_len]; omega)]
  rw [e0]
  have s1 : Same H (upd (upd H t (.lst [.int 0])) u (.lst (Lst n (fB es ord n)))) := sm_upd s0 (s0.free nu)
  have hu1 : (upd (upd H t (.lst [.int 0])) u (.lst (Lst n (fB es ord n)))) u = some (.lst (Lst n (fB es ord n))) := upd_same
  have nuH := s0.free nu
  generalize upd (upd H t (.lst [.int 0])) u (.lst (Lst n (fB es ord n))) = H1 at s1 hu1 ⊢
  refine ⟨_, rfl, p, n, es, rfl, W0.same s1, J, fun H2 l s2 hN => ?_⟩
  have t2 := s1.trans s2
  have hu2 := s2 _ _ hu1
  refine ⟨_, rfl, p, _, _, _, rfl, rfl, SqT.of (t2 _ _ h1), atI_nat (j := 0) rfl, n, rfl, by omega, by omega, ?_⟩
  refine for_range (lo := 0) (n := (n : Int).toNat) (fun i σ H' => ∃ y4 y5 y6 y7, σ = [some (.ref p), some (.ref a), some (.ref u), some (.ref l), y4, y5, y6, y7] ∧ Same H H' ∧ NearF H1 H' l n es ∧ H' u = some (.lst (Lst n (fB es ord (n - i)))))
    ⟨none, none, none, none, rfl, t2, hN, hu2⟩ ?_ ?_
  · rintro i σ H3 hi ⟨y4, y5, y6, y7, rfl, sm, hN3, hu3⟩
    rw [Int.toNat_natCast] at hi
    have ei : (0 : Int) + (i : Int) = (i : Int) := Int.zero_add _
    rw [ei]
    obtain ⟨j, hj⟩ : ∃ j, n = i + j + 1 := ⟨n - 1 - i, by omega⟩
    have hjo : j < ord.length := by omega
    have ej : ((n : Nat) : Int) - 1 - (i : Int) = ((j : Nat) : Int) := by omega
    have ej1 : ((n : Nat) : Int) - (i : Int) = ((j + 1 : Nat) : Int) := by omega
    have eni : n - i = j + 1 := by omega
    rw [eni] at hu3
    -- ord = A ++ p0 :: B
    obtain ⟨p0, hp0⟩ : ∃ p0, ord[j]? = some p0 := ⟨_, List.getElem?_eq_getElem hjo⟩
    have hspl : ord = ord.take j ++ p0 :: ord.drop (j + 1) := by
      have : ord.drop j = p0 :: ord.drop (j + 1) := by
        rw [List.drop_eq_getElem_cons hjo]
        rw [List.getElem?_eq_getElem hjo] at hp0
        rw [Option.some.inj hp0]
      rw [← this, List.take_append_drop]
    have hla : (ord.take j).length = j := by rw [List.length_take]; omega
    have hp0n : p0 < n := List.mem_range.mp (pm.mem_iff.mp (List.mem_of_getElem? hp0))
    have step : ∀ q', fB es ord j q' = if q' = p0 then true else (fB es ord (j + 1) q' ^^ (decide (q' ∈ ord.drop (j + 1)) && odd ((nbs es p0).count q'))) := fun q' => by
      have := fB_step J.good (A := ord.take j) (B := ord.drop (j + 1)) (p := p0) (by rw [← hspl]; exact nd) q'
      rw [hla, ← hspl] at this
      exact this
    refine ⟨_, rfl, ?_⟩
    refine ⟨_, rfl, p, _, _, _, rfl, rfl, SqT.of (sm _ _ h1), atI_nat (j := 0) rfl, _, _, rfl, rfl, _, rfl, _, _, rfl, rfl, ?_⟩
    refine ⟨a, _, _, nI p0, rfl, rfl, (hO.same sm).sq, by rw [ej]; exact atI_nat (by rw [List.getElem?_map, hp0]; rfl), ?_⟩
    refine ⟨_, rfl, _, rfl, p, _, _, _, rfl, rfl, SqT.of (sm _ _ h1), atI_nat (j := 0) rfl, _, rfl, _, _, rfl, rfl, _, rfl, a, _, rfl, (hO.same sm).sq, fun e => ?_, fun _ t nt => ?_⟩
    · exfalso
      rw [ej1, HT.sIx_nat] at e
      have := e.1
      rw [List.length_map] at this
      omega
    rw [ej1, cut_from _ _ (by rw [List.length_map]; omega)]
    rw [← List.map_drop]
    have nut : u ≠ t := ne_of_none hu3 nt
    have s4 := sm_upd (o := .tup ((ord.drop (j + 1)).map nI)) sm (sm.free nt)
    have ht4 : (upd H3 t (.tup ((ord.drop (j + 1)).map nI))) t = some (.tup ((ord.drop (j + 1)).map nI)) := upd_same
    have hN4 : NearF H1 (upd H3 t (.tup ((ord.drop (j + 1)).map nI))) l n es := hN3.same (same_upd nt)
    have hu4 : (upd H3 t (.tup ((ord.drop (j + 1)).map nI))) u = some (.lst (Lst n (fB es ord (j + 1)))) := by rw [upd_ne nut]; exact hu3
    generalize upd H3 t (.tup ((ord.drop (j + 1)).map nI)) = H4 at s4 ht4 hN4 hu4 ⊢
    refine ⟨_, rfl, _, rfl, u, _, _, p0, rfl, rfl, hu4, by rw [Lst_len]; exact ixN_nat hp0n, ?_⟩
    have hune : H1 u ≠ none := fun z => by rw [hu1] at z; cases z
    have sb5 : SameB u H4 (upd H4 u (.lst ((Lst n (fB es ord (j + 1))).set p0 (.int 1)))) := SameB.upd
    have hu5 : (upd H4 u (.lst ((Lst n (fB es ord (j + 1))).set p0 (.int 1)))) u = some (.lst (Lst n (gC es ord j p0 []))) := by
      rw [upd_same, gC_nil]
    have s5 : Same H (upd H4 u (.lst ((Lst n (fB es ord (j + 1))).set p0 (.int 1)))) := sm_upd s4 nuH
    have hN5 := hN4.sb sb5 hune
    have ht5 := sb5 _ _ nut.symm ht4
    generalize upd H4 u (.lst ((Lst n (fB es ord (j + 1))).set p0 (.int 1))) = H5 at sb5 hu5 s5 hN5 ht5 ⊢
    obtain ⟨rs, r, hl5, hrk, hr5, hr0⟩ := hN5.at hp0n
    have nru : r ≠ u := fun z => hune (z ▸ hr0)
    refine ⟨_, rfl, _, rfl, l, _, _, .ref r, rfl, rfl, SqL.of hl5, atI_nat (by rw [List.getElem?_map, hrk]; rfl), r, rfl, ⟨_, SqL.of hr5⟩, ?_⟩
    refine for_list (K := K) (a := r) (xs := (nbs es p0).map nI) (fun c σ H' => ∃ y, σ = [some (.ref p), some (.ref a), some (.ref u), some (.ref l), some (nI i), some (nI p0), some (.ref t), y] ∧ SameB u H5 H' ∧ Same H H' ∧
        H' u = some (.lst (Lst n (gC es ord j p0 ((nbs es p0).take c)))))
      ⟨y7, rfl, SameB.of (Same.refl H5), s5, hu5⟩ (fun c σ H' _ ⟨_, _, z, _⟩ => SqL.of (z _ _ nru hr5)) ?_ ?_
    · rintro c x σ H6 hx ⟨y, rfl, sb6, s6, hu6⟩
      obtain ⟨m, hm, rfl⟩ := map_at hx
      have hmn : m < n := nbs_lt J.good (List.mem_of_getElem? hm)
      have hmp : m ≠ p0 := nbs_ne J.good (List.mem_of_getElem? hm)
      have hstep := count_take hm
      refine ⟨_, rfl, _, rfl, t, _, rfl, .inr (SqT.of (sb6 _ _ nut.symm ht5)), rfl, flat_nats _, _, rfl, ?_⟩
      show if inV (nI m) ((ord.drop (j + 1)).map nI) = true then _ else _
      rw [inV_nats]
      refine ite2 (fun cc => ?_) (fun cc => ?_)
      · have hmb : m ∈ ord.drop (j + 1) := of_decide_eq_true cc
        refine ⟨_, rfl, _, rfl, u, _, _, _, rfl, rfl, SqL.of hu6, atI_nat (Lst_at hmn), _, _, rfl, rfl, _, rfl, _, rfl, u, _, _, m, rfl, rfl, hu6, by rw [Lst_len]; exact ixN_nat hmn, ?_⟩
        refine ⟨_, rfl, sb6.trans SameB.upd, sm_upd s6 nuH, ?_⟩
        rw [upd_same]
        exact congrArg (fun x => some (HO.lst x)) (gC_in hmb hmp hstep)
      · have hmb : ¬ m ∈ ord.drop (j + 1) := fun z => cc (decide_eq_true z)
        refine ⟨_, rfl, sb6, s6, ?_⟩
        rw [hu6]
        exact congrArg (fun x => some (HO.lst x)) (gC_out hmb hstep)
    · rintro σ H6 ⟨y, rfl, sb6, s6, hu6⟩
      rw [List.length_map, List.take_length] at hu6
      refine ⟨_, _, _, _, rfl, s6, hN5.sb sb6 hune, ?_⟩
      rw [hu6, show n - (i + 1) = j by omega]
      exact congrArg (fun x => some (HO.lst x)) (Lst_congr fun q' _ => (step q').symm)
  · rintro σ H3 ⟨y4, y5, y6, y7, rfl, sm, hN3, hu3⟩
    rw [Int.toNat_natCast, Nat.sub_self] at hu3
    refine ⟨_, rfl, u, _, rfl, .inl ⟨SqL.of hu3, fun r nr => ?_⟩⟩
    refine q _ r (sm_upd sm (sm.free nr)) ?_
    show (upd H3 r _) r = _
    rw [upd_same]
    have : Lst n (fB es ord 0) = (layO es n ord).map cb := by
      rw [Lst_congr (h := layB es ord) fun q' hq => fB_zero _ _ _ (pm.mem_iff.mpr (List.mem_range.mpr hq))]
      rfl
    rw [this]
abbrev TLLaying (P : Program) (w : World) (K : PySem.W.Frag) (mg : Str → Option Value) (base : Heap) : Prop := Df P w K mg base "_law_laying" 2 ["_law_web_here", "_law_order_here"] sp_law_laying
end
end K23P

namespace K23P
open PySem PySem.Spec PyProof.Rows L2 K23 K23R
theorem tup_sb {d a : Addr} {H H' : Hp} {xs ys : List V} (s : SameB d H H') (hd : H d = some (.lst ys)) (h : H a = some (.tup xs)) : H' a = some (.tup xs) :=
  s _ _ (fun e => by rw [e, hd] at h; cases h) h
theorem WebAt.sb {d p : Addr} {H H' : Hp} {ys : List V} {n : Nat} {es : List Edge} (s : SameB d H H') (hd : H d = some (.lst ys)) (h : WebAt H p n es) : WebAt H' p n es := by
  obtain ⟨q, as, h1, h2, h3⟩ := h
  exact ⟨q, as, tup_sb s hd h1, tup_sb s hd h2, paired_imp h3 fun _ _ z => tup_sb s hd z⟩
theorem RowC.lst {H : Hp} {r sc : Addr} (h : RowC H r sc) : ∃ ys, H r = some (.lst ys) := by
  obtain ⟨i, s, d, e, _⟩ := h
  exact ⟨_, e⟩
theorem cb_of {v : Int} (h0 : 0 ≤ v) (h2 : v < 2) : cb (decide (v = 1)) = .int v := by
  by_cases e : v = 1
  · subst e; rfl
  · have : v = 0 := by omega
    subst this; rfl
/-- the layings that can be cleared, of the first i -/
def csT (es : List Edge) (n i : Nat) : List (List Bool) := ((allLay n).take i).filter fun l => decide (0 < cnt es (l.map some))
def fewT (es : List Edge) (n : Nat) (L : List Bool) (i : Nat) : Int := (csT es n i).foldl (fun a O => minN a (ap L O).length) n
theorem csT_in {es : List Edge} {n i : Nat} {O : List Bool} (h : (allLay n)[i]? = some O) (c : decide (0 < cnt es (O.map some)) = true) : csT es n (i + 1) = csT es n i ++ [O] := by
  exact filter_take_in (f := fun l : List Bool => decide (0 < cnt es (l.map some))) h c
theorem csT_out {es : List Edge} {n i : Nat} {O : List Bool} (h : (allLay n)[i]? = some O) (c : ¬ decide (0 < cnt es (O.map some)) = true) : csT es n (i + 1) = csT es n i := by
  exact filter_take_out (f := fun l : List Bool => decide (0 < cnt es (l.map some))) h c
theorem csT_all {es : List Edge} {n i : Nat} (h : i = (allLay n).length) : csT es n i = cl es n := by
  unfold csT cl
  rw [h, List.take_length]
theorem fewT_in {es : List Edge} {n i : Nat} {O L : List Bool} (h : (allLay n)[i]? = some O) (c : decide (0 < cnt es (O.map some)) = true) : fewT es n L (i + 1) = minN (fewT es n L i) (ap L O).length := by
  unfold fewT
  rw [csT_in h c, List.foldl_append]; rfl
theorem fewT_out {es : List Edge} {n i : Nat} {O L : List Bool} (h : (allLay n)[i]? = some O) (c : ¬ decide (0 < cnt es (O.map some)) = true) : fewT es n L (i + 1) = fewT es n L i := by
  unfold fewT
  rw [csT_out h c]
theorem fewT_all {es : List Edge} {n i : Nat} {L : List Bool} (h : i = (allLay n).length) : fewT es n L i = fewest es n L := by
  unfold fewT fewest
  rw [csT_all h]
theorem and_skip {b : Bool} {T C : Prop} (h : C) (k : b = true → C → T) : if b = true then T else C := by
  cases b with
  | false => exact h
  | true => exact k rfl h
theorem alk_ints {H : Hp} {m : Nat} : ∀ is : List Int, Paired (Alk (m + 1) H) (is.map V.int) (is.map V.int)
  | [] => .nil
  | i :: is => .cons (.inl ⟨i, rfl, rfl⟩) (alk_ints is)
theorem alk_IL {H : Hp} {v x : V} {d : Int × List Int} (h1 : IsIL H v d) (h2 : IsIL H x d) (hl : d.2.length ≤ 100) : Alk 3 H v x := by
  obtain ⟨p, q, rfl, hp, hq⟩ := h1
  obtain ⟨p', q', rfl, hp', hq'⟩ := h2
  exact .inr ⟨p, p', _, _, rfl, rfl, hp, hp', .cons (.inl ⟨_, rfl, rfl⟩) (.cons (.inr ⟨q, q', _, _, rfl, rfl, hq, hq', alk_ints _, by rw [List.length_map]; exact hl⟩) .nil), by show 2 ≤ 100; decide⟩
theorem minIL_len {k : Nat} : ∀ (xs : List (Int × List Int)) (x : Int × List Int), x.2.length ≤ k → (∀ y ∈ xs, y.2.length ≤ k) → (minIL x xs).2.length ≤ k
  | [], x, h, _ => h
  | y :: ys, x, h, hy => by
    show (minIL (if ltIL y x = true then y else x) ys).2.length ≤ k
    refine minIL_len ys _ ?_ fun z hz => hy z (List.mem_cons_of_mem _ hz)
    split
    · exact hy y List.mem_cons_self
    · exact h
theorem best_len {k : Nat} : ∀ (l : List (Int × List Int)), (∀ y ∈ l, y.2.length ≤ k) → (best l).2.length ≤ k
  | [], _ => Nat.zero_le _
  | x :: xs, h => minIL_len xs x (h x List.mem_cons_self) fun y hy => h y (List.mem_cons_of_mem _ hy)
theorem sum_bi : ∀ L : List Bool, (L.map bi).sum = ((L.countP fun b => b : Nat) : Int)
  | [] => rfl
  | b :: L => by
    rw [List.map_cons, List.sum_cons, sum_bi L, List.countP_cons]
    cases b
    · show (0 : Int) + _ = _
      simp
    · show (1 : Int) + _ = _
      simp; omega
theorem par_sum (L : List Bool) : (L.map bi).sum.fmod 2 = if odd (heads L) = true then 1 else 0 := by
  rw [sum_bi, ← heads_count, Int.fmod_eq_emod_of_nonneg _ (by omega)]
  rcases Nat.mod_two_eq_zero_or_one (heads L) with h | h
  · rw [(odd_not_iff _).mpr h]
    show ((heads L : Nat) : Int) % 2 = 0
    omega
  · rw [(odd_iff _).mpr h]
    show ((heads L : Nat) : Int) % 2 = 1
    omega
section
variable {P : Program} {w : World} {K : PySem.W.Frag} {mg : Str → Option Value} {base : Heap}
/-! ### law -/
abbrev s_law : Stmt := topS 49
theorem sc_law : FnScope ["_law_script", "_law_row", "_law_web_here", "_law_many", "_law_near_here", "_law_laying_here", "_law_top", "_law_prices", "_law_rows", "_law_fewest", "_law_other", "_law_turned", "_law_order_here", "_law_due", "_law_k"] ["_law_script"] (defScope s_law) := ⟨rfl, rfl, rfl, by decide +kernel, rfl, by decide +kernel, by decide +kernel⟩
def sp_law (K : PySem.W.Frag) : Sp := fun vs H Q _ => ∃ (a : Addr) (ns : List Int), vs = [.ref a] ∧ SqL K H a (ns.map V.int) ∧ ∀ H' : Hp, Q (.bl true) H'
theorem ok_law {f : Addr} {fd : FuncData} (B : Bi mg) (D_law_taken : TLTaken P w K mg base) (D_law_order : TLOrder P w K mg base) (D_law_pick : TLPick P w K mg base) (D_law_layings : TLLayings P w K mg base) (D_law_web : TLWeb P w K mg base)
    (D_law_near : TLNear P w K mg base) (D_law_count : TLCount P w K mg base) (D_law_alike : TLAlike P w K mg base) (D_law_laying : TLLaying P w K mg base) (D_fewest_turned : TFewest P w K mg base) (D_cheapest_turn : TCheapest P w K mg base)
    (D_turned_for : TTurned P w K mg base) (D_is_tree : TTree P w K mg base) (F : Fun K "law" "law" s_law f fd) :
    FnOk P w K mg base CX0 13 f fd ["_law_script"] (sp_law K) := by
  refine F.ok sc_law (fun vs H Q E h => ?_) (fun cdv A outer s H vs Q E hr h => ?_)
  · obtain ⟨a, ns, rfl, _⟩ := h
    rfl
  obtain ⟨sc, ns, rfl, hsc, q⟩ := h
  refine ⟨_, (pss_cons (ps_set (i := 1) sc_law.nd rfl (Or.inr rfl) (pe_lst (pa_cons (pv 0) (pa_cons pe_int (pa_cons pe_int (pa_cons pe_int pa_nil))))))
    (pss_cons (ps_set (i := 2) sc_law.nd rfl (Or.inl rfl) (pe_df D_law_web (hr.mono (by omega)) (by rfl) (pa_cons (pv 1) (pa_cons pe_int pa_nil))))
    (pss_cons (ps_par (i := 3) (j := 4) (by rfl) sc_law.nd rfl rfl (by decide) rfl rfl (pa_cons (pe_ix (kx_ix_tup K rfl) (pv 2) pe_int (fun _ _ => rfl)) (pa_cons (pe_df D_law_near (hr.mono (by omega)) (by rfl) (pa_cons (pv 2) pa_nil)) pa_nil)) (by rfl))
    (pss_cons (ps_asg (pe_tup (pa_cons (pe_callTy (kx_tuple_of K rfl) (by rfl) B.tuple (by decide +kernel) (pa_cons (pe_lc (own := [("_law_k", 14)]) (g := gName 14) (tt := tYes) (by rfl) sc_law.nd (pi_range1 (by rfl) B.range (pa_cons (pv 3) pa_nil)) (blkOk_by (own := [("_law_k", 14)]) (N := ["_law_script", "_law_row", "_law_web_here", "_law_many", "_law_near_here", "_law_laying_here", "_law_top", "_law_prices", "_law_rows", "_law_fewest", "_law_other", "_law_turned", "_law_order_here", "_law_due", "_law_k"]) (sc := defScope s_law) (by decide +kernel)) (fun _ _ _ _ _ => (pg_name (i := 14) sc_law.nd rfl (Or.inl rfl))) (fun _ _ _ _ _ => pts_nil) (fun _ _ _ _ _ => (pe_df D_law_taken (hr.mono (by omega)) (by rfl) (pa_cons (pv 1) (pa_cons pe_int pa_nil))))) pa_nil)) (pa_cons (pe_df D_law_pick (hr.mono (by omega)) (by rfl) (pa_cons (pv 1) (pa_cons (pe_lst (pa_cons pe_int (pa_cons pe_int (pa_cons pe_int pa_nil)))) pa_nil))) pa_nil))) (pg_tup rfl (pgs_cons (pg_name (i := 5) sc_law.nd rfl (Or.inr rfl)) (pgs_cons (pg_name (i := 6) sc_law.nd rfl (Or.inr rfl)) pgs_nil))))
    (pss_cons (ps_asg (pe_tup (pa_cons (pe_callTy (kx_tuple_of K rfl) (by rfl) B.tuple (by decide +kernel) (pa_cons (pe_lc (own := [("_law_k", 14)]) (g := gName 14) (tt := tYes) (by rfl) sc_law.nd (pi_range1 (by rfl) B.range (pa_cons (pv 3) pa_nil)) (blkOk_by (own := [("_law_k", 14)]) (N := ["_law_script", "_law_row", "_law_web_here", "_law_many", "_law_near_here", "_law_laying_here", "_law_top", "_law_prices", "_law_rows", "_law_fewest", "_law_other", "_law_turned", "_law_order_here", "_law_due", "_law_k"]) (sc := defScope s_law) (by decide +kernel)) (fun _ _ _ _ _ => (pg_name (i := 14) sc_law.nd rfl (Or.inl rfl))) (fun _ _ _ _ _ => pts_nil) (fun _ _ _ _ _ => (pe_df D_law_taken (hr.mono (by omega)) (by rfl) (pa_cons (pv 1) (pa_cons (pv 6) pa_nil))))) pa_nil)) (pa_cons (pe_lst pa_nil) (pa_cons (pv 3) pa_nil)))) (pg_tup rfl (pgs_cons (pg_name (i := 7) sc_law.nd rfl (Or.inr rfl)) (pgs_cons (pg_name (i := 8) sc_law.nd rfl (Or.inl rfl)) (pgs_cons (pg_name (i := 9) sc_law.nd rfl (Or.inl rfl)) pgs_nil)))))
    (pss_cons (ps_for PassesOwn.never rfl (kx_pi_list K rfl (pe_df D_law_layings (hr.mono (by omega)) (by rfl) (pa_cons (pv 3) pa_nil))) (pg_name (i := 10) sc_law.nd rfl (Or.inr rfl))
      (pss_one (ps_if (pt_cmpR op_gt (pe_df D_law_count (hr.mono (by omega)) (by rfl) (pa_cons (pv 4) (pa_cons (pv 10) (pa_cons pe_dnewT pa_nil)))) pe_int (nomark _))
          (pss_cons (ps_setLc (i := 11) (own := [("_law_k", 14)]) (g := gName 14) rfl sc_law.nd rfl rfl (sw_true rfl rfl rfl (by decide +kernel)) (pi_range1 (by rfl) B.range (pa_cons (pv 3) pa_nil)) (blkOk_by (own := [("_law_k", 14)]) (N := ["_law_script", "_law_row", "_law_web_here", "_law_many", "_law_near_here", "_law_laying_here", "_law_top", "_law_prices", "_law_rows", "_law_fewest", "_law_other", "_law_turned", "_law_order_here", "_law_due", "_law_k"]) (sc := defScope s_law) (by decide +kernel)) (fun _ _ _ _ _ => (pg_name (i := 14) sc_law.nd rfl (Or.inl rfl))) (fun _ _ _ _ _ => pts_one (pt_cmpR op_ne (pe_ix (kx_ix_tup K rfl) (pv 5) (pv 14) (fun _ _ => rfl)) (pe_ix (kx_ix_tup K rfl) (pv 10) (pv 14) (fun _ _ => rfl)) (nomark _))) (fun _ _ _ _ _ => (pv 14)))
            (pss_cons (ps_expr (pe_bm PySem.F.plainAttrs_list PySem.F.slot_list_append PySem.F.type_list_append mt_append (pv 8) (pa_cons (pe_tup (pa_cons (pe_callB (kx_sum K rfl rfl) (by rfl) B.sum (by decide +kernel) (pa_cons (pe_lc (own := [("_law_k", 14)]) (g := gName 14) (tt := tYes) (by rfl) sc_law.nd (kx_pi_list K rfl (pv 11)) (blkOk_by (own := [("_law_k", 14)]) (N := ["_law_script", "_law_row", "_law_web_here", "_law_many", "_law_near_here", "_law_laying_here", "_law_top", "_law_prices", "_law_rows", "_law_fewest", "_law_other", "_law_turned", "_law_order_here", "_law_due", "_law_k"]) (sc := defScope s_law) (by decide +kernel)) (fun _ _ _ _ _ => (pg_name (i := 14) sc_law.nd rfl (Or.inl rfl))) (fun _ _ _ _ _ => pts_nil) (fun _ _ _ _ _ => (pe_ix (kx_ix_tup K rfl) (pv 7) (pv 14) (fun _ _ => rfl)))) pa_nil)) (pa_cons (pv 10) pa_nil))) pa_nil)))
            (pss_one (ps_set (i := 9) sc_law.nd rfl (Or.inl rfl) (pe_callB (call_min2 rfl) (by rfl) B.min (by decide +kernel) (pa_cons (pv 9) (pa_cons (pe_callB (kx_len K rfl) (by rfl) B.len PySem.boot_len (pa_cons (pv 11) pa_nil)) pa_nil)))))))
          pss_nil)))
    (pss_cons (ps_if (pt_not (pt_val (pe_df D_law_alike (hr.mono (by omega)) (by rfl) (pa_cons (pe_df D_fewest_turned (hr.mono (by omega)) (by rfl) (pa_cons (pv 2) (pa_cons (pv 5) pa_nil))) (pa_cons (pv 9) pa_nil)))))
      (pss_one (ps_ret pe_bl))
      pss_nil)
    (pss_cons (ps_if (pt_not (pt_val (pe_df D_law_alike (hr.mono (by omega)) (by rfl) (pa_cons (pe_df D_cheapest_turn (hr.mono (by omega)) (by rfl) (pa_cons (pv 2) (pa_cons (pv 5) (pa_cons (pv 7) pa_nil)))) (pa_cons (pe_callB (kx_minIL K rfl rfl (Nat.lt_of_le_of_lt (Nat.add_le_add_left (by decide) _) hr.units)) (by rfl) B.min (by decide +kernel) (pa_cons (pv 8) pa_nil)) pa_nil)))))
      (pss_one (ps_ret pe_bl))
      pss_nil)
    (pss_cons (ps_if (PW.pt (pw_and (pt_val (pe_df D_is_tree (hr.mono (by omega)) (by rfl) (pa_cons (pv 2) pa_nil))) (pw_and1 (pt_cmpR op_ne (pv 9) (pe_callTy call_int1 (by rfl) B.int (by decide +kernel) (pa_cons (pe_cmpR op_eq (pe_op op_modN (pe_callTy call_int1 (by rfl) B.int (by decide +kernel) (pa_cons (pe_callB (kx_sumT K rfl rfl) (by rfl) B.sum (by decide +kernel) (pa_cons (pv 5) pa_nil)) pa_nil)) pe_int) pe_int (nomark _)) pa_nil)) (nomark _)))))
      (pss_one (ps_ret pe_bl))
      pss_nil)
    (pss_cons (ps_set (i := 12) sc_law.nd rfl (Or.inl rfl) (pe_callTy (kx_tuple_frz K rfl) (by rfl) B.tuple (by decide +kernel) (pa_cons (pe_df D_law_order (hr.mono (by omega)) (by rfl) (pa_cons (pv 1) (pa_cons (pv 3) pa_nil))) pa_nil)))
    (pss_cons (ps_set (i := 13) sc_law.nd rfl (Or.inr rfl) (pe_df D_law_laying (hr.mono (by omega)) (by rfl) (pa_cons (pv 2) (pa_cons (pv 12) pa_nil))))
    (pss_one (ps_ret (pe_df D_law_alike (hr.mono (by omega)) (by rfl) (pa_cons (pe_df D_turned_for (hr.mono (by omega)) (by rfl) (pa_cons (pv 2) (pa_cons (pv 5) (pa_cons (pv 12) pa_nil)))) (pa_cons (pe_callTy (kx_tuple_of K rfl) (by rfl) B.tuple (by decide +kernel) (pa_cons (pe_lc (own := [("_law_k", 14)]) (g := gName 14) (by rfl) sc_law.nd (pi_range1 (by rfl) B.range (pa_cons (pv 3) pa_nil)) (blkOk_by (own := [("_law_k", 14)]) (N := ["_law_script", "_law_row", "_law_web_here", "_law_many", "_law_near_here", "_law_laying_here", "_law_top", "_law_prices", "_law_rows", "_law_fewest", "_law_other", "_law_turned", "_law_order_here", "_law_due", "_law_k"]) (sc := defScope s_law) (by decide +kernel)) (fun _ _ _ _ _ => (pg_name (i := 14) sc_law.nd rfl (Or.inl rfl))) (fun _ _ _ _ _ => pts_one (pt_cmpR op_ne (pe_ix (kx_ix_tup K rfl) (pv 5) (pv 14) (fun _ _ => rfl)) (pe_ix (kx_ix_tup K rfl) (pv 13) (pv 14) (fun _ _ => rfl)) (nomark _))) (fun _ _ _ _ _ => (pv 14))) pa_nil)) pa_nil)))))))))))))))), ?_⟩
  refine ⟨_, rfl, (by show 4 ≤ sizeLine; decide), fun r nr => ?_⟩
  have s1 : Same H (upd H r (.lst [.ref sc, .int 0, .int 8923, .int 0])) := same_upd nr
  have R1 : RowAt K (upd H r (.lst [.ref sc, .int 0, .int 8923, .int 0])) r sc ns := ⟨RowC.put (by decide) (by decide) (by decide), sqL_sb (SameB.of s1) (sqL_new hsc nr) hsc, sqL_new hsc nr⟩
  generalize upd H r (.lst [.ref sc, .int 0, .int 8923, .int 0]) = H1 at R1 ⊢
  refine ⟨_, rfl, r, sc, ns, rfl, R1, fun H2 p n es sb2 c2 W2 J => ?_⟩
  have R2 := R1.step sb2 c2
  have h6 := J.le
  have h0 := J.pos
  obtain ⟨qa, ea, h1, _, _⟩ := id W2
  refine ⟨_, rfl, p, _, _, _, rfl, rfl, SqT.of h1, atI_nat (j := 0) rfl, _, rfl, p, n, es, rfl, W2, J, fun H3 l s3 N3 => ?_⟩
  have R3 := R2.same s3
  have W3 := W2.same s3
  have hr2 : H2 r ≠ none := fun z => by obtain ⟨ys, e⟩ := c2.lst; rw [e] at z; cases z
  -- the laying
  refine ⟨_, _, rfl, _, rfl, n, rfl, by omega, by omega, fun D hD => ?_⟩
  have nDr : D ≠ r := fun e => by obtain ⟨ys, e'⟩ := R3.1.lst; rw [e, e'] at hD; cases hD
  refine lcY_range (lo := 0) (n := (n : Int).toNat) (fun i H' => SameB r H3 H' ∧ RowC H' r sc ∧ ∃ L : List Bool, L.length = i ∧ H' D = some (.lst (L.map cb))) ⟨SameB.of (same_upd hD), R3.1.same (same_upd hD), [], rfl, upd_same⟩ ?_ ?_
  · rintro i H4 hi ⟨sb, c, L, hLl, hDl⟩
    refine ⟨rfl, ?_⟩
    refine ⟨_, rfl, r, sc, ns, 2, rfl, R3.step sb c, by decide, by decide, fun H5 v sb5 c5 v0 v2 => ?_⟩
    refine ⟨_, sb5 _ _ nDr hDl, small1000 (by rw [List.length_map]; omega), fun b o nb e => ?_, c5.sb (SameB.upd (d := D)) nDr.symm, L ++ [decide (v = 1)], by rw [List.length_append, hLl]; rfl, ?_⟩
    · rw [upd_ne (ne_of_none e hD)]; exact sb5 _ _ nb (sb _ _ nb e)
    · rw [upd_same, List.map_append, List.map_cons, List.map_nil, cb_of v0 v2]
  rintro H4 ⟨sb4, c4, L, hLn, hDl⟩
  rw [Int.toNat_natCast] at hLn
  refine ⟨D, _, rfl, .inl ⟨SqL.of hDl, fun la nla => ?_⟩⟩
  have s5 : Same H4 (upd H4 la (.tup (L.map cb))) := same_upd nla
  have R5 := (R3.step sb4 c4).same s5
  have W5 := (W3.sb sb4 R3.1.lst.choose_spec).same s5
  have N5 := (N3.sb sb4 hr2).same s5
  have F5 : FullAt (upd H4 la (.tup (L.map cb))) la L := upd_same
  generalize upd H4 la (.tup (L.map cb)) = H5 at R5 W5 N5 F5 ⊢
  refine ⟨_, rfl, (by show 3 ≤ sizeLine; decide), fun t nt => ?_⟩
  have s6 : Same H5 (upd H5 t (.lst [.int 2, .int 9, .int 1001])) := same_upd nt
  have ntr : t ≠ r := fun e => by obtain ⟨ys, e'⟩ := R5.1.lst; rw [e, e'] at nt; cases nt
  refine ⟨r, sc, t, ns, [2, 9, 1001], rfl, R5.same s6, ntr, upd_same, by decide, by decide, fun H6 top sb6 c6 htop => ?_⟩
  have htop1 : 1 ≤ top ∧ top ≤ 1001 := by
    simp only [List.mem_cons, List.not_mem_nil, or_false] at htop
    omega
  have R6 := (R5.same s6).step sb6 c6
  have W6 := (W5.same s6).sb sb6 (R5.same s6).1.lst.choose_spec
  have N6 := (N5.same s6).sb sb6 hr2
  have F6 : FullAt H6 la L := tup_sb sb6 (R5.same s6).1.lst.choose_spec (s6 _ _ F5)
  refine ⟨(by show 2 ≤ sizeLine; decide), fun tt ntt => ?_⟩
  have s7 : Same H6 (upd H6 tt (.tup [.ref la, .int top])) := same_upd ntt
  have htt : (upd H6 tt (.tup [.ref la, .int top])) tt = some (.tup [.ref la, .int top]) := upd_same
  have R7 := R6.same s7
  have W7 := W6.same s7
  have N7 := N6.same s7
  have F7 := s7 _ _ F6
  generalize upd H6 tt (.tup [.ref la, .int top]) = H7 at htt R7 W7 N7 F7 ⊢
  refine ⟨tt, _, rfl, SqT.of htt, rfl, _, _, rfl, _, _, rfl, rfl, ?_⟩
  -- the prices
  refine ⟨_, rfl, n, rfl, by omega, by omega, fun D2 hD2 => ?_⟩
  have nDr2 : D2 ≠ r := fun e => by obtain ⟨ys, e'⟩ := R7.1.lst; rw [e, e'] at hD2; cases hD2
  refine lcY_range (lo := 0) (n := (n : Int).toNat) (fun i H' => SameB r H7 H' ∧ RowC H' r sc ∧ ∃ pr : List Int, pr.length = i ∧ (∀ x ∈ pr, 0 ≤ x ∧ x ≤ 1000) ∧ H' D2 = some (.lst (pr.map V.int))) ⟨SameB.of (same_upd hD2), R7.1.same (same_upd hD2), [], rfl, (fun x hx => nomatch hx), upd_same⟩ ?_ ?_
  · rintro i H8 hi ⟨sb, c, pr, hpl, hpx, hDl⟩
    refine ⟨rfl, ?_⟩
    refine ⟨_, rfl, _, rfl, r, sc, ns, top, rfl, R7.step sb c, htop1.1, htop1.2, fun H9 v sb9 c9 v0 v2 => ?_⟩
    refine ⟨_, sb9 _ _ nDr2 hDl, small1000 (by rw [List.length_map]; omega), fun b o nb e => ?_, c9.sb (SameB.upd (d := D2)) nDr2.symm, pr ++ [v], by rw [List.length_append, hpl]; rfl, fun x hx => ?_, ?_⟩
    · rw [upd_ne (ne_of_none e hD2)]; exact sb9 _ _ nb (sb _ _ nb e)
    · rcases List.mem_append.mp hx with hx | hx
      · exact hpx x hx
      · rw [List.mem_singleton.mp hx]; omega
    · rw [upd_same, List.map_append, List.map_cons, List.map_nil]
  rintro H8 ⟨sb8, c8, pr, hpn, hpx, hDl8⟩
  rw [Int.toNat_natCast] at hpn
  refine ⟨D2, _, rfl, .inl ⟨SqL.of hDl8, fun lp nlp => ?_⟩⟩
  have s9 : Same H8 (upd H8 lp (.tup (pr.map V.int))) := same_upd nlp
  have R9 := (R7.step sb8 c8).same s9
  have W9 := (W7.sb sb8 R7.1.lst.choose_spec).same s9
  have N9 := (N7.sb sb8 hr2).same s9
  have F9 : FullAt (upd H8 lp (.tup (pr.map V.int))) la L := s9 _ _ (tup_sb sb8 R7.1.lst.choose_spec F7)
  have P9 : (upd H8 lp (.tup (pr.map V.int))) lp = some (.tup (pr.map V.int)) := upd_same
  generalize upd H8 lp (.tup (pr.map V.int)) = H9 at R9 W9 N9 F9 P9 ⊢
  refine ⟨Nat.zero_le _, fun ro nro => ?_⟩
  refine ⟨_, rfl, (by show 3 ≤ sizeLine; decide), fun t3 nt3 => ?_⟩
  have nrt : ro ≠ t3 := ne_of_none upd_same nt3
  have s10 : Same H9 (upd (upd H9 ro (.lst [])) t3 (.tup [.ref lp, .ref ro, nI n])) := sm_upd (same_upd nro) ((same_upd nro).free nt3)
  have hrw10 : (upd (upd H9 ro (.lst [])) t3 (.tup [.ref lp, .ref ro, nI n])) ro = some (.lst []) := by rw [upd_ne nrt, upd_same]
  have ht10 : (upd (upd H9 ro (.lst [])) t3 (.tup [.ref lp, .ref ro, nI n])) t3 = some (.tup [.ref lp, .ref ro, nI n]) := upd_same
  generalize upd (upd H9 ro (.lst [])) t3 (.tup [.ref lp, .ref ro, nI n]) = H10 at s10 hrw10 ht10 ⊢
  refine ⟨t3, _, rfl, SqT.of ht10, rfl, _, _, rfl, _, _, rfl, _, _, rfl, rfl, ?_⟩
  refine ⟨_, rfl, n, rfl, h6, fun H11 r2 as s11 nr2 hr11 hAll => ?_⟩
  have s11' := s10.trans s11
  have hro11 := s11 _ _ hrw10
  have nr2o : r2 ≠ ro := (ne_of_none hrw10 nr2).symm
  have hlas : as.length = (allLay n).length := paired_len hAll
  have h64 : (allLay n).length ≤ 64 := by rw [len_allLay]; exact Nat.pow_le_pow_right (by decide) h6
  refine ⟨r2, rfl, ⟨_, SqL.of hr11⟩, ?_⟩
  refine for_list (K := K) (a := r2) (xs := as.map V.ref) (fun i σ H' => ∃ (y10 y11 : Option V) (vs : List V), σ = [some (.ref sc), some (.ref r), some (.ref p), some (nI n), some (.ref l), some (.ref la), some (.int top), some (.ref lp), some (.ref ro), some (.int (fewT es n L i)), y10, y11, none, none, none] ∧
      Same H9 H' ∧ SameB ro H11 H' ∧ H' ro = some (.lst vs) ∧ Paired (IsIL H') vs ((csT es n i).map fun O => (cost pr L O, O.map bi)))
    ⟨none, none, [], rfl, s11', SameB.of (Same.refl H11), hro11, .nil⟩ (fun i σ H' _ ⟨_, _, _, _, _, z, _⟩ => SqL.of (z _ _ nr2o hr11)) ?_ ?_
  · rintro i x σ H12 hx ⟨y10, y11, vs, rfl, sm, sb, hro, hX⟩
    obtain ⟨a, ha, rfl⟩ := map_ref_at hx
    obtain ⟨O, hO, hF⟩ := paired_at hAll i a ha
    have hF12 : FullAt H12 a O := tup_sb sb hro11 hF
    have hOn : O.length = n := mem_allLay.mp (List.mem_of_getElem? hO)
    have hlv : vs.length ≤ 64 := by
      rw [paired_len hX, List.length_map]
      refine Nat.le_trans (List.length_filter_le _ _) ?_
      rw [List.length_take]; omega
    refine ⟨_, rfl, _, rfl, fun d nd => ?_⟩
    have sd : Same H12 (upd H12 d (.dT [])) := same_upd nd
    refine ⟨l, a, d, n, es, O.map some, [], rfl, ((N9.same sm).same sd).at', J.good, h6, by rw [cL_full]; exact sd _ _ hF12, by rw [List.length_map, hOn], ?_, upd_same, memo_nil es, ?_, fun H13 kvs sb13 _ _ _ => ?_⟩
    · have := lives_le (O.map some)
      rw [List.length_map] at this
      omega
    · show 0 + roomL 7 ≤ 1000000
      have := roomL7
      omega
    have s13 : Same H12 H13 := fun b o e => sb13 b o (ne_of_none e nd) (sd _ _ e)
    refine ⟨_, _, rfl, rfl, _, rfl, ite2 (fun c => ?_) (fun c => ?_)⟩
    · refine ⟨_, rfl, n, rfl, by omega, by omega, fun D hD => ?_⟩
      have hL13 : H13 la = some (.tup (L.map cb)) := s13 _ _ (sm _ _ F9)
      have hO13 : H13 a = some (.tup (O.map cb)) := s13 _ _ hF12
      have hP13 : H13 lp = some (.tup (pr.map V.int)) := s13 _ _ (sm _ _ P9)
      have hdl : ∀ j, ((List.range j).filter fun k => decide (L.getD k false ≠ O.getD k false)).length ≤ j := fun j => by
        have := List.length_filter_le (fun k => decide (L.getD k false ≠ O.getD k false)) (List.range j)
        rw [List.length_range] at this
        exact this
      refine lc_range (lo := 0) (n := (n : Int).toNat) (fun j H' => Same H13 H' ∧ H' D = some (.lst (((List.range j).filter fun k => decide (L.getD k false ≠ O.getD k false)).map nI))) ⟨same_upd hD, upd_same⟩ ?_ ?_
      · rintro j H14 hj ⟨sm14, hDl⟩
        rw [Int.toNat_natCast] at hj
        have ej : (0 : Int) + (j : Int) = (j : Int) := Int.zero_add _
        rw [ej]
        have hLj : L[j]? = some (L.getD j false) := by rw [List.getD_eq_getElem?_getD, List.getElem?_eq_getElem (by omega)]; rfl
        have hOj : O[j]? = some (O.getD j false) := by rw [List.getD_eq_getElem?_getD, List.getElem?_eq_getElem (by omega)]; rfl
        refine ⟨rfl, ?_⟩
        refine ⟨_, rfl, _, rfl, la, _, _, cb (L.getD j false), rfl, rfl, SqT.of (sm14 _ _ hL13), atI_nat (by rw [List.getElem?_map, hLj]; rfl), _, rfl, _, rfl, a, _, _, cb (O.getD j false), rfl, rfl, SqT.of (sm14 _ _ hO13), atI_nat (by rw [List.getElem?_map, hOj]; rfl), rfl, ?_⟩
        refine ⟨_, rfl, ite2 (fun c => ?_) (fun c => ?_)⟩
        · have c' : L.getD j false ≠ O.getD j false := fun z => by
            rw [z] at c
            simp at c
          refine ⟨_, rfl, _, hDl, ?_, ?_, ?_⟩
          · rw [List.length_map]
            exact small1000 (Nat.le_trans (hdl j) (by omega))
          · intro b' o' e'
            rw [upd_ne (ne_of_none e' hD)]; exact sm14 _ _ e'
          · rw [upd_same, List.range_succ, List.filter_append, List.filter_cons_of_pos (p := fun k => decide (L.getD k false ≠ O.getD k false)) (decide_eq_true c'), List.map_append]
            rfl
        · have c' : ¬ L.getD j false ≠ O.getD j false := fun z => c (by
            have : ¬ cb (L.getD j false) = cb (O.getD j false) := fun y => z (cb_inj.mp y)
            rw [decide_eq_false this]; rfl)
          refine ⟨sm14, ?_⟩
          rw [List.range_succ, List.filter_append, List.filter_cons_of_neg (p := fun k => decide (L.getD k false ≠ O.getD k false)) (by simpa using c'), List.filter_nil, List.append_nil]
          exact hDl
      rintro H14 ⟨sm14, hDl14⟩
      rw [Int.toNat_natCast] at hDl14
      have hD14 : H14 D = some (.lst ((ap L O).map nI)) := by unfold ap; rw [hLn]; exact hDl14
      have hap := ap_len L O
      have s14 := s13.trans sm14
      refine ⟨_, rfl, .inl ⟨rfl, _, SqL.of (s14 _ _ hro)⟩, ?_⟩
      refine ⟨_, rfl, D, rfl, ⟨_, SqL.of hD14⟩, fun D3 hD3 => ?_⟩
      refine lcY_list (K := K) (a := D) (xs := (ap L O).map nI) (fun j H' => Same H14 H' ∧ H' D3 = some (.lst ((((ap L O).take j).map fun k => pr.getD k 0).map V.int))) ⟨same_upd hD3, upd_same⟩ (fun j H' _ z => SqL.of (z.1 _ _ hD14)) ?_ ?_
      · rintro j x H15 hx ⟨sm15, hDl⟩
        obtain ⟨k, hk, rfl⟩ := map_at hx
        have hkl : k < pr.length := by
          have := List.mem_of_getElem? hk
          unfold ap at this
          have := List.mem_range.mp (List.mem_filter.mp this).1
          omega
        have hkp : pr[k]? = some (pr.getD k 0) := by rw [List.getD_eq_getElem?_getD, List.getElem?_eq_getElem hkl]; rfl
        refine ⟨rfl, ?_⟩
        refine ⟨_, rfl, _, rfl, lp, _, _, .int (pr.getD k 0), rfl, rfl, SqT.of (sm15 _ _ (sm14 _ _ hP13)), atI_nat (by rw [List.getElem?_map, hkp]; rfl), _, hDl, ?_, ?_, ?_⟩
        · rw [List.length_map, List.length_map, List.length_take]; exact small1000 (by omega)
        · intro b' o' e'
          rw [upd_ne (ne_of_none e' hD3)]; exact sm15 _ _ e'
        · rw [upd_same, take_map_snoc hk, List.map_append]; rfl
      rintro H15 ⟨sm15, hDl⟩
      rw [List.length_map, List.take_length] at hDl
      refine ⟨D3, _, rfl, SqL.of hDl, _, rfl, (by show 2 ≤ sizeLine; decide), fun t4 nt4 => ?_⟩
      have s16 : Same H12 (upd H15 t4 (.tup [.int ((ap L O).map fun k => pr.getD k 0).sum, .ref a])) := sm_upd (s14.trans sm15) ((s14.trans sm15).free nt4)
      have ht16 : (upd H15 t4 (.tup [.int ((ap L O).map fun k => pr.getD k 0).sum, .ref a])) t4 = some (.tup [.int ((ap L O).map fun k => pr.getD k 0).sum, .ref a]) := upd_same
      have hD16 : (upd H15 t4 (.tup [.int ((ap L O).map fun k => pr.getD k 0).sum, .ref a])) D = some (.lst ((ap L O).map nI)) := sm_upd sm15 (sm15.free nt4) _ _ hD14
      have hDro : D ≠ ro := (ne_of_none (s13 _ _ hro) hD).symm
      have hro16 := s16 _ _ hro
      have hF16 : FullAt (upd H15 t4 (.tup [.int ((ap L O).map fun k => pr.getD k 0).sum, .ref a])) a O := s16 _ _ hF12
      generalize upd H15 t4 (.tup [.int ((ap L O).map fun k => pr.getD k 0).sum, .ref a]) = H16 at s16 ht16 hD16 hro16 hF16 ⊢
      have hX16 := paired_snoc (paired_imp hX fun _ _ z => IsIL.same s16 z) (show IsIL H16 (.ref t4) (cost pr L O, O.map bi) from ⟨t4, a, rfl, ht16, by rw [map_cb]; exact hF16⟩)
      refine ⟨ro, _, _, rfl, rfl, hro16, small1000 (by omega), ?_⟩
      have sb17 : SameB ro H16 (upd H16 ro (.lst (vs ++ [.ref t4]))) := SameB.upd
      have sm17 : Same H9 (upd H16 ro (.lst (vs ++ [.ref t4]))) := sm_upd (sm.trans s16) nro
      have hro17 : (upd H16 ro (.lst (vs ++ [.ref t4]))) ro = some (.lst (vs ++ [.ref t4])) := upd_same
      have hX17 := paired_imp hX16 fun _ _ z => IsIL.sb sb17 (fun ys e => by rw [hro16] at e; cases e) z
      have hD17 := sb17 _ _ hDro hD16
      generalize upd H16 ro (.lst (vs ++ [.ref t4])) = H17 at sb17 sm17 hro17 hX17 hD17 ⊢
      refine ⟨_, rfl, _, rfl, D, _, rfl, .inl (SqL.of hD17), _, _, rfl, ?_⟩
      refine ⟨some (.ref a), some (.ref D), vs ++ [.ref t4], ?_, sm17, (sb.trans (SameB.of s16)).trans sb17, hro17, ?_⟩
      · rw [fewT_in hO c, List.length_map]
        rfl
      · rw [csT_in hO c, List.map_append]
        exact hX17
    · refine ⟨some (.ref a), y11, vs, ?_, sm.trans s13, sb.trans (SameB.of s13), s13 _ _ hro, ?_⟩
      · rw [fewT_out hO c]; rfl
      · rw [csT_out hO c]
        exact paired_imp hX fun _ _ z => IsIL.same s13 z
  · rintro σ H12 ⟨y10, y11, vs, rfl, sm, sb, hro, hX⟩
    rw [List.length_map] at hX
    rw [csT_all hlas] at hX
    have efw : fewT es n L (as.map V.ref).length = fewest es n L := fewT_all (by rw [List.length_map, hlas])
    rw [efw]
    have W12 := W9.same sm
    have R12 := R9.same sm
    have F12 : FullAt H12 la L := sm _ _ F9
    have P12 := sm _ _ P9
    refine ⟨_, rfl, _, rfl, p, la, n, es, L, rfl, W12, J, F12, hLn, fun H13 s13 => ?_⟩
    refine ⟨_, rfl, _, _, rfl, .inl ⟨_, rfl, rfl⟩, fun H14 s14 => ?_⟩
    refine ⟨_, rfl, iteF ?_⟩
    have t14 := s13.trans s14
    refine ⟨_, rfl, _, rfl, _, rfl, p, la, lp, n, es, L, pr, rfl, W12.same t14, J, t14 _ _ F12, hLn, t14 _ _ P12, hpn, hpx, fun H15 v s15 hv => ?_⟩
    have t15 := t14.trans s15
    have ne := cl_ne (n := n) J.good
    have hb : ∃ d ds, rowsOf es n L pr = d :: ds := by
      unfold rowsOf
      cases hc : cl es n with
      | nil => exact absurd hc ne
      | cons O Os => exact ⟨_, _, rfl⟩
    have hbl : (best (rowsOf es n L pr)).2.length ≤ 100 := by
      refine best_len _ fun y hy => ?_
      unfold rowsOf at hy
      obtain ⟨O, hO, rfl⟩ := List.mem_map.mp hy
      show (O.map bi).length ≤ 100
      have := (mem_cl.mp hO).1
      rw [List.length_map]; omega
    obtain ⟨d, ds, hb⟩ := hb
    refine ⟨_, rfl, ro, vs, d, ds, rfl, SqL.of (t15 _ _ hro), by rw [← hb]; exact paired_imp hX fun _ _ z => IsIL.same t15 z, fun x _ hx => ?_⟩
    rw [hb] at hv hbl
    refine ⟨v, x, rfl, alk_IL hv hx hbl, fun H16 s16 => ?_⟩
    refine ⟨_, rfl, iteF ?_⟩
    have t16 := t15.trans s16
    refine ⟨_, rfl, p, n, es, rfl, W12.same t16, J, fun H17 b s17 hbt => ?_⟩
    have t17 := t16.trans s17
    refine ⟨_, rfl, and_skip ?_ fun hb2 hC => ?_⟩
    case refine_2 =>
      refine ⟨_, rfl, _, rfl, la, L.map bi, rfl, SqT.of (by rw [map_cb]; exact t17 _ _ F12), .inl ⟨_, rfl, _, _, rfl, rfl, (by show (2 : Int) ≠ 0; decide), rfl, .inr ⟨_, rfl, rfl, ?_⟩⟩⟩
      refine ⟨_, rfl, ?_⟩
      have ev : (if decide (V.int ((L.map bi).sum.fmod 2) = V.int 0) = true then (1 : Int) else 0) = fewest es n L := by
        rw [tree_fewest J.good (hbt hb2) hLn, par_sum]
        cases odd (heads L) <;> rfl
      rw [ev, decide_eq_true (rfl : V.int (fewest es n L) = V.int (fewest es n L))]
      exact hC
    refine iteF ?_
    have R17 := R12.same t17
    refine ⟨_, rfl, _, rfl, r, sc, ns, n, rfl, R17, h6, fun H18 qo ord sb18 c18 nq nqr pm hq => ?_⟩
    have W18 := (W12.same t17).sb sb18 R17.1.lst.choose_spec
    have F18 : FullAt H18 la L := tup_sb sb18 R17.1.lst.choose_spec (t17 _ _ F12)
    refine ⟨qo, _, rfl, SqL.of hq, fun lo ob nlo dob => ?_⟩
    have s19 : Same H18 (upd H18 lo (.frz ob (.tup (ord.map nI)))) := same_upd nlo
    have O19 : OrdAt (upd H18 lo (.frz ob (.tup (ord.map nI)))) lo ord := ⟨ob, dob, upd_same⟩
    generalize upd H18 lo (.frz ob (.tup (ord.map nI))) = H19 at s19 O19 ⊢
    have W19 := W18.same s19
    refine ⟨_, rfl, _, rfl, p, lo, n, es, ord, rfl, W19, J, O19, pm, fun H20 ld s20 FD => ?_⟩
    have t20 := s19.trans s20
    refine ⟨_, rfl, _, rfl, _, rfl, p, la, lo, n, es, L, ord, rfl, W19.same s20, J, t20 _ _ F18, hLn, O19.same s20, pm, fun H21 u s21 hu => ?_⟩
    refine ⟨_, rfl, n, rfl, by omega, by omega, fun D hD => ?_⟩
    have hL21 : H21 la = some (.tup (L.map cb)) := s21 _ _ (t20 _ _ F18)
    have hO21 : H21 ld = some (.tup ((layO es n ord).map cb)) := s21 _ _ FD
    have hdl : ∀ j, ((List.range j).filter fun k => decide (L.getD k false ≠ (layO es n ord).getD k false)).length ≤ j := fun j => by
      have := List.length_filter_le (fun k => decide (L.getD k false ≠ (layO es n ord).getD k false)) (List.range j)
      rw [List.length_range] at this
      exact this
    have hOl := layO_len es n ord
    refine lc_range (lo := 0) (n := (n : Int).toNat) (fun j H' => Same H21 H' ∧ H' D = some (.lst (((List.range j).filter fun k => decide (L.getD k false ≠ (layO es n ord).getD k false)).map nI))) ⟨same_upd hD, upd_same⟩ ?_ ?_
    · rintro j H22 hj ⟨sm22, hDl⟩
      rw [Int.toNat_natCast] at hj
      have ej : (0 : Int) + (j : Int) = (j : Int) := Int.zero_add _
      rw [ej]
      have hLj : L[j]? = some (L.getD j false) := by rw [List.getD_eq_getElem?_getD, List.getElem?_eq_getElem (by omega)]; rfl
      have hOj : (layO es n ord)[j]? = some ((layO es n ord).getD j false) := by rw [List.getD_eq_getElem?_getD, List.getElem?_eq_getElem (by omega)]; rfl
      refine ⟨rfl, ?_⟩
      refine ⟨_, rfl, _, rfl, la, _, _, cb (L.getD j false), rfl, rfl, SqT.of (sm22 _ _ hL21), atI_nat (by rw [List.getElem?_map, hLj]; rfl), _, rfl, _, rfl, ld, _, _, cb ((layO es n ord).getD j false), rfl, rfl, SqT.of (sm22 _ _ hO21), atI_nat (by rw [List.getElem?_map, hOj]; rfl), rfl, ?_⟩
      refine ⟨_, rfl, ite2 (fun c => ?_) (fun c => ?_)⟩
      · have c' : L.getD j false ≠ (layO es n ord).getD j false := fun z => by
          rw [z] at c
          simp at c
        refine ⟨_, rfl, _, hDl, ?_, ?_, ?_⟩
        · rw [List.length_map]
          exact small1000 (Nat.le_trans (hdl j) (by omega))
        · intro b' o' e'
          rw [upd_ne (ne_of_none e' hD)]; exact sm22 _ _ e'
        · rw [upd_same, List.range_succ, List.filter_append, List.filter_cons_of_pos (p := fun k => decide (L.getD k false ≠ (layO es n ord).getD k false)) (decide_eq_true c'), List.map_append]
          rfl
      · have c' : ¬ L.getD j false ≠ (layO es n ord).getD j false := fun z => c (by
          have : ¬ cb (L.getD j false) = cb ((layO es n ord).getD j false) := fun y => z (cb_inj.mp y)
          rw [decide_eq_false this]; rfl)
        refine ⟨sm22, ?_⟩
        rw [List.range_succ, List.filter_append, List.filter_cons_of_neg (p := fun k => decide (L.getD k false ≠ (layO es n ord).getD k false)) (by simpa using c'), List.filter_nil, List.append_nil]
        exact hDl
    rintro H22 ⟨sm22, hDl22⟩
    rw [Int.toNat_natCast] at hDl22
    have hD22 : H22 D = some (.lst ((ap L (layO es n ord)).map nI)) := by unfold ap; rw [hLn]; exact hDl22
    refine ⟨D, _, rfl, .inl ⟨SqL.of hD22, fun z nz => ?_⟩⟩
    have s23 : Same H22 (upd H22 z (.tup ((ap L (layO es n ord)).map nI))) := same_upd nz
    have hap := ap_len L (layO es n ord)
    refine ⟨.ref u, .ref z, rfl, .inr ⟨u, z, _, _, rfl, rfl, s23 _ _ (sm22 _ _ hu), upd_same, ?_, ?_⟩, fun H24 _ => q H24⟩
    · rw [nI_map]
      exact alk_ints _
    · rw [List.length_map]; omega
abbrev TLaw (P : Program) (w : World) (K : PySem.W.Frag) (mg : Str → Option Value) (base : Heap) : Prop := Df P w K mg base "law" 13 ["_law_script"] (sp_law K)
end
end K23P

namespace K23P
open PySem PySem.Spec PyProof.Rows L2 K23 K23R
theorem all_mk {l : PySem.W.OpenLaw} {w : World} {K : PySem.W.Frag} {h : Heap} {mg : Str → Option Value} {fa f1 f2 f3 f4 f5 f6 f7 f8 f9 f10 f11 f12 f13 f14 f15 f16 f17 f18 f19 f20 f21 f22 f23 f24 f25 f26 f27 f28 f29 f30 f31 f32 f33 f34 f35 f36 : Addr} {t9 t8 : Tok} (X : K.In h) (G : h.Ns mainGlobals mg) (hfa : mg "law" = some (.ref fa))
    {od1 an1 od2 an2 od3 an3 od4 an4 od5 an5 od6 an6 od7 an7 od8 an8 od9 an9 od10 an10 od11 an11 od12 an12 od13 an13 od14 an14 od15 an15 od16 an16 od17 an17 od18 an18 od19 an19 od20 an20 od21 an21 od22 an22 od23 an23 od24 an24 od25 an25 od26 an26 od27 an27 od28 an28 od29 an29 od30 an30 od31 an31 od32 an32 od33 an33 od34 an34 od35 an35 od36 an36 : Option Addr} {sl1 sl2 sl3 sl4 sl5 sl6 sl7 sl8 sl9 sl10 sl11 sl12 sl13 sl14 sl15 sl16 sl17 sl18 sl19 sl20 sl21 sl22 sl23 sl24 sl25 sl26 sl27 sl28 sl29 sl30 sl31 sl32 sl33 sl34 sl35 sl36 : Array (Option Value)} {oc1 kV1 dc1 pm1 cd1 ct1 oc2 kV2 dc2 pm2 cd2 ct2 oc3 kV3 dc3 pm3 cd3 ct3 oc4 kV4 dc4 pm4 cd4 ct4 oc5 kV5 dc5 pm5 cd5 ct5 oc6 kV6 dc6 pm6 cd6 ct6 oc7 kV7 dc7 pm7 cd7 ct7 oc8 kV8 dc8 pm8 cd8 ct8 oc9 kV9 dc9 pm9 cd9 ct9 oc10 kV10 dc10 pm10 cd10 ct10 oc11 kV11 dc11 pm11 cd11 ct11 oc12 kV12 dc12 pm12 cd12 ct12 oc13 kV13 dc13 pm13 cd13 ct13 oc14 kV14 dc14 pm14 cd14 ct14 oc15 kV15 dc15 pm15 cd15 ct15 oc16 kV16 dc16 pm16 cd16 ct16 oc17 kV17 dc17 pm17 cd17 ct17 oc18 kV18 dc18 pm18 cd18 ct18 oc19 kV19 dc19 pm19 cd19 ct19 oc20 kV20 dc20 pm20 cd20 ct20 oc21 kV21 dc21 pm21 cd21 ct21 oc22 kV22 dc22 pm22 cd22 ct22 oc23 kV23 dc23 pm23 cd23 ct23 oc24 kV24 dc24 pm24 cd24 ct24 oc25 kV25 dc25 pm25 cd25 ct25 oc26 kV26 dc26 pm26 cd26 ct26 oc27 kV27 dc27 pm27 cd27 ct27 oc28 kV28 dc28 pm28 cd28 ct28 oc29 kV29 dc29 pm29 cd29 ct29 oc30 kV30 dc30 pm30 cd30 ct30 oc31 kV31 dc31 pm31 cd31 ct31 oc32 kV32 dc32 pm32 cd32 ct32 oc33 kV33 dc33 pm33 cd33 ct33 oc34 kV34 dc34 pm34 cd34 ct34 oc35 kV35 dc35 pm35 cd35 ct35 oc36 kV36 dc36 pm36 cd36 ct36 : Value}
    (a1 : PySem.W.nsIn K mainGlobals "is_in" = some (some (.ref f1))) (l1 : K.lookup f1 = some ⟨oc1, od1, .func (PySem.W.fnOf "is_in" "is_in" (defArgs s_is_in) (defBody s_is_in) (defScope s_is_in) .none kV1 dc1 pm1 an1 cd1 ct1), sl1⟩) (c1 : PySem.W.codeIn K cd1 "is_in" = true) (k1 : PySem.W.keepIn K (.ref f1) = true)
    (a2 : PySem.W.nsIn K mainGlobals "is_edge" = some (some (.ref f2))) (l2 : K.lookup f2 = some ⟨oc2, od2, .func (PySem.W.fnOf "is_edge" "is_edge" (defArgs s_is_edge) (defBody s_is_edge) (defScope s_is_edge) .none kV2 dc2 pm2 an2 cd2 ct2), sl2⟩) (c2 : PySem.W.codeIn K cd2 "is_edge" = true) (k2 : PySem.W.keepIn K (.ref f2) = true)
    (a3 : PySem.W.nsIn K mainGlobals "need_web" = some (some (.ref f3))) (l3 : K.lookup f3 = some ⟨oc3, od3, .func (PySem.W.fnOf "need_web" "need_web" (defArgs s_need_web) (defBody s_need_web) (defScope s_need_web) .none kV3 dc3 pm3 an3 cd3 ct3), sl3⟩) (c3 : PySem.W.codeIn K cd3 "need_web" = true) (k3 : PySem.W.keepIn K (.ref f3) = true)
    (a4 : PySem.W.nsIn K mainGlobals "need_full" = some (some (.ref f4))) (l4 : K.lookup f4 = some ⟨oc4, od4, .func (PySem.W.fnOf "need_full" "need_full" (defArgs s_need_full) (defBody s_need_full) (defScope s_need_full) .none kV4 dc4 pm4 an4 cd4 ct4), sl4⟩) (c4 : PySem.W.codeIn K cd4 "need_full" = true) (k4 : PySem.W.keepIn K (.ref f4) = true)
    (a5 : PySem.W.nsIn K mainGlobals "need_both" = some (some (.ref f5))) (l5 : K.lookup f5 = some ⟨oc5, od5, .func (PySem.W.fnOf "need_both" "need_both" (defArgs s_need_both) (defBody s_need_both) (defScope s_need_both) .none kV5 dc5 pm5 an5 cd5 ct5), sl5⟩) (c5 : PySem.W.codeIn K cd5 "need_both" = true) (k5 : PySem.W.keepIn K (.ref f5) = true)
    (a6 : PySem.W.nsIn K mainGlobals "neighbours_in" = some (some (.ref f6))) (l6 : K.lookup f6 = some ⟨oc6, od6, .func (PySem.W.fnOf "neighbours_in" "neighbours_in" (defArgs s_neighbours_in) (defBody s_neighbours_in) (defScope s_neighbours_in) .none kV6 dc6 pm6 an6 cd6 ct6), sl6⟩) (c6 : PySem.W.codeIn K cd6 "neighbours_in" = true) (k6 : PySem.W.keepIn K (.ref f6) = true)
    (a7 : PySem.W.nsIn K mainGlobals "heads_in" = some (some (.ref f7))) (l7 : K.lookup f7 = some ⟨oc7, od7, .func (PySem.W.fnOf "heads_in" "heads_in" (defArgs s_heads_in) (defBody s_heads_in) (defScope s_heads_in) .none kV7 dc7 pm7 an7 cd7 ct7), sl7⟩) (c7 : PySem.W.codeIn K cd7 "heads_in" = true) (k7 : PySem.W.keepIn K (.ref f7) = true)
    (a8 : PySem.W.nsIn K mainGlobals "taken_in" = some (some (.ref f8))) (l8 : K.lookup f8 = some ⟨oc8, od8, .func (PySem.W.fnOf "taken_in" "taken_in" (defArgs s_taken_in) (defBody s_taken_in) (defScope s_taken_in) .none kV8 dc8 pm8 an8 cd8 ct8), sl8⟩) (c8 : PySem.W.codeIn K cd8 "taken_in" = true) (k8 : PySem.W.keepIn K (.ref f8) = true)
    (a9 : PySem.W.nsIn K mainGlobals "count_in" = some (some (.ref f9))) (l9 : K.lookup f9 = some ⟨oc9, od9, .func (PySem.W.fnOf "count_in" "count_in" (defArgs s_count_in) (defBody s_count_in) (defScope s_count_in) .none kV9 dc9 pm9 an9 cd9 ct9), sl9⟩) (c9 : PySem.W.codeIn K cd9 "count_in" = true) (k9 : PySem.W.keepIn K (.ref f9) = true)
    (a10 : PySem.W.nsIn K mainGlobals "full_layings" = some (some (.ref f10))) (l10 : K.lookup f10 = some ⟨oc10, od10, .func (PySem.W.fnOf "full_layings" "full_layings" (defArgs s_full_layings) (defBody s_full_layings) (defScope s_full_layings) .none kV10 dc10 pm10 an10 cd10 ct10), sl10⟩) (c10 : PySem.W.codeIn K cd10 "full_layings" = true) (k10 : PySem.W.keepIn K (.ref f10) = true)
    (a11 : PySem.W.nsIn K mainGlobals "clearable_in" = some (some (.ref f11))) (l11 : K.lookup f11 = some ⟨oc11, od11, .func (PySem.W.fnOf "clearable_in" "clearable_in" (defArgs s_clearable_in) (defBody s_clearable_in) (defScope s_clearable_in) .none kV11 dc11 pm11 an11 cd11 ct11), sl11⟩) (c11 : PySem.W.codeIn K cd11 "clearable_in" = true) (k11 : PySem.W.keepIn K (.ref f11) = true)
    (a12 : PySem.W.nsIn K mainGlobals "need_prices" = some (some (.ref f12))) (l12 : K.lookup f12 = some ⟨oc12, od12, .func (PySem.W.fnOf "need_prices" "need_prices" (defArgs s_need_prices) (defBody s_need_prices) (defScope s_need_prices) .none kV12 dc12 pm12 an12 cd12 ct12), sl12⟩) (c12 : PySem.W.codeIn K cd12 "need_prices" = true) (k12 : PySem.W.keepIn K (.ref f12) = true)
    (a13 : PySem.W.nsIn K mainGlobals "apart" = some (some (.ref f13))) (l13 : K.lookup f13 = some ⟨oc13, od13, .func (PySem.W.fnOf "apart" "apart" (defArgs s_apart) (defBody s_apart) (defScope s_apart) .none kV13 dc13 pm13 an13 cd13 ct13), sl13⟩) (c13 : PySem.W.codeIn K cd13 "apart" = true) (k13 : PySem.W.keepIn K (.ref f13) = true)
    (a14 : PySem.W.nsIn K mainGlobals "cost_of" = some (some (.ref f14))) (l14 : K.lookup f14 = some ⟨oc14, od14, .func (PySem.W.fnOf "cost_of" "cost_of" (defArgs s_cost_of) (defBody s_cost_of) (defScope s_cost_of) .none kV14 dc14 pm14 an14 cd14 ct14), sl14⟩) (c14 : PySem.W.codeIn K cd14 "cost_of" = true) (k14 : PySem.W.keepIn K (.ref f14) = true)
    (a15 : PySem.W.nsIn K mainGlobals "cheapest_in" = some (some (.ref f15))) (l15 : K.lookup f15 = some ⟨oc15, od15, .func (PySem.W.fnOf "cheapest_in" "cheapest_in" (defArgs s_cheapest_in) (defBody s_cheapest_in) (defScope s_cheapest_in) .none kV15 dc15 pm15 an15 cd15 ct15), sl15⟩) (c15 : PySem.W.codeIn K cd15 "cheapest_in" = true) (k15 : PySem.W.keepIn K (.ref f15) = true)
    (a16 : PySem.W.nsIn K mainGlobals "fewest_turned" = some (some (.ref f16))) (l16 : K.lookup f16 = some ⟨oc16, od16, .func (PySem.W.fnOf "fewest_turned" "fewest_turned" (defArgs s_fewest_turned) (defBody s_fewest_turned) (defScope s_fewest_turned) .none kV16 dc16 pm16 an16 cd16 ct16), sl16⟩) (c16 : PySem.W.codeIn K cd16 "fewest_turned" = true) (k16 : PySem.W.keepIn K (.ref f16) = true)
    (a17 : PySem.W.nsIn K mainGlobals "cheapest_turn" = some (some (.ref f17))) (l17 : K.lookup f17 = some ⟨oc17, od17, .func (PySem.W.fnOf "cheapest_turn" "cheapest_turn" (defArgs s_cheapest_turn) (defBody s_cheapest_turn) (defScope s_cheapest_turn) .none kV17 dc17 pm17 an17 cd17 ct17), sl17⟩) (c17 : PySem.W.codeIn K cd17 "cheapest_turn" = true) (k17 : PySem.W.keepIn K (.ref f17) = true)
    (a18 : PySem.W.nsIn K mainGlobals "is_order" = some (some (.ref f18))) (l18 : K.lookup f18 = some ⟨oc18, od18, .func (PySem.W.fnOf "is_order" "is_order" (defArgs s_is_order) (defBody s_is_order) (defScope s_is_order) .none kV18 dc18 pm18 an18 cd18 ct18), sl18⟩) (c18 : PySem.W.codeIn K cd18 "is_order" = true) (k18 : PySem.W.keepIn K (.ref f18) = true)
    (a19 : PySem.W.nsIn K mainGlobals "need_order" = some (some (.ref f19))) (l19 : K.lookup f19 = some ⟨oc19, od19, .func (PySem.W.fnOf "need_order" "need_order" (defArgs s_need_order) (defBody s_need_order) (defScope s_need_order) .none kV19 dc19 pm19 an19 cd19 ct19), sl19⟩) (c19 : PySem.W.codeIn K cd19 "need_order" = true) (k19 : PySem.W.keepIn K (.ref f19) = true)
    (a20 : PySem.W.nsIn K mainGlobals "laying_in" = some (some (.ref f20))) (l20 : K.lookup f20 = some ⟨oc20, od20, .func (PySem.W.fnOf "laying_in" "laying_in" (defArgs s_laying_in) (defBody s_laying_in) (defScope s_laying_in) .none kV20 dc20 pm20 an20 cd20 ct20), sl20⟩) (c20 : PySem.W.codeIn K cd20 "laying_in" = true) (k20 : PySem.W.keepIn K (.ref f20) = true)
    (a21 : PySem.W.nsIn K mainGlobals "turned_for" = some (some (.ref f21))) (l21 : K.lookup f21 = some ⟨oc21, od21, .func (PySem.W.fnOf "turned_for" "turned_for" (defArgs s_turned_for) (defBody s_turned_for) (defScope s_turned_for) .none kV21 dc21 pm21 an21 cd21 ct21), sl21⟩) (c21 : PySem.W.codeIn K cd21 "turned_for" = true) (k21 : PySem.W.keepIn K (.ref f21) = true)
    (a22 : PySem.W.nsIn K mainGlobals "part_in" = some (some (.ref f22))) (l22 : K.lookup f22 = some ⟨oc22, od22, .func (PySem.W.fnOf "part_in" "part_in" (defArgs s_part_in) (defBody s_part_in) (defScope s_part_in) .none kV22 dc22 pm22 an22 cd22 ct22), sl22⟩) (c22 : PySem.W.codeIn K cd22 "part_in" = true) (k22 : PySem.W.keepIn K (.ref f22) = true)
    (a23 : PySem.W.nsIn K mainGlobals "parts_in" = some (some (.ref f23))) (l23 : K.lookup f23 = some ⟨oc23, od23, .func (PySem.W.fnOf "parts_in" "parts_in" (defArgs s_parts_in) (defBody s_parts_in) (defScope s_parts_in) .none kV23 dc23 pm23 an23 cd23 ct23), sl23⟩) (c23 : PySem.W.codeIn K cd23 "parts_in" = true) (k23 : PySem.W.keepIn K (.ref f23) = true)
    (a24 : PySem.W.nsIn K mainGlobals "is_forest_in" = some (some (.ref f24))) (l24 : K.lookup f24 = some ⟨oc24, od24, .func (PySem.W.fnOf "is_forest_in" "is_forest_in" (defArgs s_is_forest_in) (defBody s_is_forest_in) (defScope s_is_forest_in) .none kV24 dc24 pm24 an24 cd24 ct24), sl24⟩) (c24 : PySem.W.codeIn K cd24 "is_forest_in" = true) (k24 : PySem.W.keepIn K (.ref f24) = true)
    (a25 : PySem.W.nsIn K mainGlobals "is_tree" = some (some (.ref f25))) (l25 : K.lookup f25 = some ⟨oc25, od25, .func (PySem.W.fnOf "is_tree" "is_tree" (defArgs s_is_tree) (defBody s_is_tree) (defScope s_is_tree) .none kV25 dc25 pm25 an25 cd25 ct25), sl25⟩) (c25 : PySem.W.codeIn K cd25 "is_tree" = true) (k25 : PySem.W.keepIn K (.ref f25) = true)
    (a26 : PySem.W.nsIn K mainGlobals "_law_taken" = some (some (.ref f26))) (l26 : K.lookup f26 = some ⟨oc26, od26, .func (PySem.W.fnOf "_law_taken" "_law_taken" (defArgs s_law_taken) (defBody s_law_taken) (defScope s_law_taken) .none kV26 dc26 pm26 an26 cd26 ct26), sl26⟩) (c26 : PySem.W.codeIn K cd26 "_law_taken" = true) (k26 : PySem.W.keepIn K (.ref f26) = true)
    (a27 : PySem.W.nsIn K mainGlobals "_law_order" = some (some (.ref f27))) (l27 : K.lookup f27 = some ⟨oc27, od27, .func (PySem.W.fnOf "_law_order" "_law_order" (defArgs s_law_order) (defBody s_law_order) (defScope s_law_order) .none kV27 dc27 pm27 an27 cd27 ct27), sl27⟩) (c27 : PySem.W.codeIn K cd27 "_law_order" = true) (k27 : PySem.W.keepIn K (.ref f27) = true)
    (a28 : PySem.W.nsIn K mainGlobals "_law_pick" = some (some (.ref f28))) (l28 : K.lookup f28 = some ⟨oc28, od28, .func (PySem.W.fnOf "_law_pick" "_law_pick" (defArgs s_law_pick) (defBody s_law_pick) (defScope s_law_pick) .none kV28 dc28 pm28 an28 cd28 ct28), sl28⟩) (c28 : PySem.W.codeIn K cd28 "_law_pick" = true) (k28 : PySem.W.keepIn K (.ref f28) = true)
    (a29 : PySem.W.nsIn K mainGlobals "_law_layings" = some (some (.ref f29))) (l29 : K.lookup f29 = some ⟨oc29, od29, .func (PySem.W.fnOf "_law_layings" "_law_layings" (defArgs s_law_layings) (defBody s_law_layings) (defScope s_law_layings) .none kV29 dc29 pm29 an29 cd29 ct29), sl29⟩) (c29 : PySem.W.codeIn K cd29 "_law_layings" = true) (k29 : PySem.W.keepIn K (.ref f29) = true)
    (a30 : PySem.W.nsIn K mainGlobals "_law_web" = some (some (.ref f30))) (l30 : K.lookup f30 = some ⟨oc30, od30, .func (PySem.W.fnOf "_law_web" "_law_web" (defArgs s_law_web) (defBody s_law_web) (defScope s_law_web) .none kV30 dc30 pm30 an30 cd30 ct30), sl30⟩) (c30 : PySem.W.codeIn K cd30 "_law_web" = true) (k30 : PySem.W.keepIn K (.ref f30) = true)
    (a31 : PySem.W.nsIn K mainGlobals "_law_near" = some (some (.ref f31))) (l31 : K.lookup f31 = some ⟨oc31, od31, .func (PySem.W.fnOf "_law_near" "_law_near" (defArgs s_law_near) (defBody s_law_near) (defScope s_law_near) .none kV31 dc31 pm31 an31 cd31 ct31), sl31⟩) (c31 : PySem.W.codeIn K cd31 "_law_near" = true) (k31 : PySem.W.keepIn K (.ref f31) = true)
    (a32 : PySem.W.nsIn K mainGlobals "_law_take" = some (some (.ref f32))) (l32 : K.lookup f32 = some ⟨oc32, od32, .func (PySem.W.fnOf "_law_take" "_law_take" (defArgs s_law_take) (defBody s_law_take) (defScope s_law_take) .none kV32 dc32 pm32 an32 cd32 ct32), sl32⟩) (c32 : PySem.W.codeIn K cd32 "_law_take" = true) (k32 : PySem.W.keepIn K (.ref f32) = true)
    (a33 : PySem.W.nsIn K mainGlobals "_law_count" = some (some (.ref f33))) (l33 : K.lookup f33 = some ⟨oc33, od33, .func (PySem.W.fnOf "_law_count" "_law_count" (defArgs s_law_count) (defBody s_law_count) (defScope s_law_count) .none kV33 dc33 pm33 an33 cd33 ct33), sl33⟩) (c33 : PySem.W.codeIn K cd33 "_law_count" = true) (k33 : PySem.W.keepIn K (.ref f33) = true)
    (a34 : PySem.W.nsIn K mainGlobals "_law_alike" = some (some (.ref f34))) (l34 : K.lookup f34 = some ⟨oc34, od34, .func (PySem.W.fnOf "_law_alike" "_law_alike" (defArgs s_law_alike) (defBody s_law_alike) (defScope s_law_alike) .none kV34 dc34 pm34 an34 cd34 ct34), sl34⟩) (c34 : PySem.W.codeIn K cd34 "_law_alike" = true) (k34 : PySem.W.keepIn K (.ref f34) = true)
    (a35 : PySem.W.nsIn K mainGlobals "_law_laying" = some (some (.ref f35))) (l35 : K.lookup f35 = some ⟨oc35, od35, .func (PySem.W.fnOf "_law_laying" "_law_laying" (defArgs s_law_laying) (defBody s_law_laying) (defScope s_law_laying) .none kV35 dc35 pm35 an35 cd35 ct35), sl35⟩) (c35 : PySem.W.codeIn K cd35 "_law_laying" = true) (k35 : PySem.W.keepIn K (.ref f35) = true)
    (a36 : PySem.W.nsIn K mainGlobals "law" = some (some (.ref f36))) (l36 : K.lookup f36 = some ⟨oc36, od36, .func (PySem.W.fnOf "law" "law" (defArgs s_law) (defBody s_law) (defScope s_law) .none kV36 dc36 pm36 an36 cd36 ct36), sl36⟩) (c36 : PySem.W.codeIn K cd36 "law" = true) (k36 : PySem.W.keepIn K (.ref f36) = true)
    (z1 : PySem.W.nsIn K mainGlobals "isinstance" = some none) (z2 : PySem.W.nsIn K mainGlobals "int" = some none) (z3 : PySem.W.nsIn K mainGlobals "bool" = some none) (z4 : PySem.W.nsIn K mainGlobals "tuple" = some none) (z5 : PySem.W.nsIn K mainGlobals "len" = some none) (z6 : PySem.W.nsIn K mainGlobals "enumerate" = some none) (z7 : PySem.W.nsIn K mainGlobals "sorted" = some none) (z8 : PySem.W.nsIn K mainGlobals "list" = some none) (z9 : PySem.W.nsIn K mainGlobals "range" = some none) (z10 : PySem.W.nsIn K mainGlobals "sum" = some none) (z11 : PySem.W.nsIn K mainGlobals "min" = some none) (z12 : PySem.W.nsIn K mainGlobals "max" = some none) (z13 : PySem.W.nsIn K mainGlobals "str" = some none)
    (y1 : PySem.W.nsIn K mainGlobals "MOST_PLACES" = some (some (.int 9 t9))) (y2 : PySem.W.nsIn K mainGlobals "MOST_PRICE" = some (some (.int 1000 t8))) :
    ∃ fd : FuncData, (∀ (s : Shared) (v : Value), BindsTo s fd ⟨[v], []⟩ [("_law_script", v)]) ∧ ∀ base : Heap, K.In base → base.Ns mainGlobals mg → FnOk l.prog w K mg base CX0 13 fa fd ["_law_script"] (sp_law K) := by
  have e := hfa.symm.trans (PySem.W.mg_of X G a36)
  cases e
  have B : Bi mg := ⟨PySem.W.mg_none_of X G z1, PySem.W.mg_none_of X G z2, PySem.W.mg_none_of X G z3, PySem.W.mg_none_of X G z4, PySem.W.mg_none_of X G z5, PySem.W.mg_none_of X G z6, PySem.W.mg_none_of X G z7, PySem.W.mg_none_of X G z8, PySem.W.mg_none_of X G z9, PySem.W.mg_none_of X G z10, PySem.W.mg_none_of X G z11, PySem.W.mg_none_of X G z12, PySem.W.mg_none_of X G z13⟩
  have m9 := PySem.W.mg_of X G y1
  have m1000 := PySem.W.mg_of X G y2
  have F1 := fun_mk (st := s_is_in) l1 c1 k1
  have b1 := F1.binds (ps := ["value", "least", "most"]) fun _ _ _ _ _ _ us hl => match us, hl with | [_, _, _], _ => rfl
  have F2 := fun_mk (st := s_is_edge) l2 c2 k2
  have b2 := F2.binds (ps := ["value", "many"]) fun _ _ _ _ _ _ us hl => match us, hl with | [_, _], _ => rfl
  have F3 := fun_mk (st := s_need_web) l3 c3 k3
  have b3 := F3.binds (ps := ["web"]) fun _ _ _ _ _ _ us hl => match us, hl with | [_], _ => rfl
  have F4 := fun_mk (st := s_need_full) l4 c4 k4
  have b4 := F4.binds (ps := ["web", "laying"]) fun _ _ _ _ _ _ us hl => match us, hl with | [_, _], _ => rfl
  have F5 := fun_mk (st := s_need_both) l5 c5 k5
  have b5 := F5.binds (ps := ["web", "laying"]) fun _ _ _ _ _ _ us hl => match us, hl with | [_, _], _ => rfl
  have F6 := fun_mk (st := s_neighbours_in) l6 c6 k6
  have b6 := F6.binds (ps := ["web", "place"]) fun _ _ _ _ _ _ us hl => match us, hl with | [_, _], _ => rfl
  have F7 := fun_mk (st := s_heads_in) l7 c7 k7
  have b7 := F7.binds (ps := ["laying"]) fun _ _ _ _ _ _ us hl => match us, hl with | [_], _ => rfl
  have F8 := fun_mk (st := s_taken_in) l8 c8 k8
  have b8 := F8.binds (ps := ["web", "laying", "place"]) fun _ _ _ _ _ _ us hl => match us, hl with | [_, _, _], _ => rfl
  have F9 := fun_mk (st := s_count_in) l9 c9 k9
  have b9 := F9.binds (ps := ["web", "laying", "known"]) fun _ _ _ _ _ _ us hl => match us, hl with | [_, _, _], _ => rfl
  have F10 := fun_mk (st := s_full_layings) l10 c10 k10
  have b10 := F10.binds (ps := ["many"]) fun _ _ _ _ _ _ us hl => match us, hl with | [_], _ => rfl
  have F11 := fun_mk (st := s_clearable_in) l11 c11 k11
  have b11 := F11.binds (ps := ["web"]) fun _ _ _ _ _ _ us hl => match us, hl with | [_], _ => rfl
  have F12 := fun_mk (st := s_need_prices) l12 c12 k12
  have b12 := F12.binds (ps := ["web", "prices"]) fun _ _ _ _ _ _ us hl => match us, hl with | [_, _], _ => rfl
  have F13 := fun_mk (st := s_apart) l13 c13 k13
  have b13 := F13.binds (ps := ["laying", "other"]) fun _ _ _ _ _ _ us hl => match us, hl with | [_, _], _ => rfl
  have F14 := fun_mk (st := s_cost_of) l14 c14 k14
  have b14 := F14.binds (ps := ["laying", "other", "prices"]) fun _ _ _ _ _ _ us hl => match us, hl with | [_, _, _], _ => rfl
  have F15 := fun_mk (st := s_cheapest_in) l15 c15 k15
  have b15 := F15.binds (ps := ["web", "laying", "prices"]) fun _ _ _ _ _ _ us hl => match us, hl with | [_, _, _], _ => rfl
  have F16 := fun_mk (st := s_fewest_turned) l16 c16 k16
  have b16 := F16.binds (ps := ["web", "laying"]) fun _ _ _ _ _ _ us hl => match us, hl with | [_, _], _ => rfl
  have F17 := fun_mk (st := s_cheapest_turn) l17 c17 k17
  have b17 := F17.binds (ps := ["web", "laying", "prices"]) fun _ _ _ _ _ _ us hl => match us, hl with | [_, _, _], _ => rfl
  have F18 := fun_mk (st := s_is_order) l18 c18 k18
  have b18 := F18.binds (ps := ["web", "value"]) fun _ _ _ _ _ _ us hl => match us, hl with | [_, _], _ => rfl
  have F19 := fun_mk (st := s_need_order) l19 c19 k19
  have b19 := F19.binds (ps := ["web", "order"]) fun _ _ _ _ _ _ us hl => match us, hl with | [_, _], _ => rfl
  have F20 := fun_mk (st := s_laying_in) l20 c20 k20
  have b20 := F20.binds (ps := ["web", "order"]) fun _ _ _ _ _ _ us hl => match us, hl with | [_, _], _ => rfl
  have F21 := fun_mk (st := s_turned_for) l21 c21 k21
  have b21 := F21.binds (ps := ["web", "laying", "order"]) fun _ _ _ _ _ _ us hl => match us, hl with | [_, _, _], _ => rfl
  have F22 := fun_mk (st := s_part_in) l22 c22 k22
  have b22 := F22.binds (ps := ["web", "place"]) fun _ _ _ _ _ _ us hl => match us, hl with | [_, _], _ => rfl
  have F23 := fun_mk (st := s_parts_in) l23 c23 k23
  have b23 := F23.binds (ps := ["web"]) fun _ _ _ _ _ _ us hl => match us, hl with | [_], _ => rfl
  have F24 := fun_mk (st := s_is_forest_in) l24 c24 k24
  have b24 := F24.binds (ps := ["web"]) fun _ _ _ _ _ _ us hl => match us, hl with | [_], _ => rfl
  have F25 := fun_mk (st := s_is_tree) l25 c25 k25
  have b25 := F25.binds (ps := ["web"]) fun _ _ _ _ _ _ us hl => match us, hl with | [_], _ => rfl
  have F26 := fun_mk (st := s_law_taken) l26 c26 k26
  have b26 := F26.binds (ps := ["_law_row", "_law_many"]) fun _ _ _ _ _ _ us hl => match us, hl with | [_, _], _ => rfl
  have F27 := fun_mk (st := s_law_order) l27 c27 k27
  have b27 := F27.binds (ps := ["_law_row", "_law_many"]) fun _ _ _ _ _ _ us hl => match us, hl with | [_, _], _ => rfl
  have F28 := fun_mk (st := s_law_pick) l28 c28 k28
  have b28 := F28.binds (ps := ["_law_row", "_law_things"]) fun _ _ _ _ _ _ us hl => match us, hl with | [_, _], _ => rfl
  have F29 := fun_mk (st := s_law_layings) l29 c29 k29
  have b29 := F29.binds (ps := ["_law_many"]) fun _ _ _ _ _ _ us hl => match us, hl with | [_], _ => rfl
  have F30 := fun_mk (st := s_law_web) l30 c30 k30
  have b30 := F30.binds (ps := ["_law_row", "_law_most"]) fun _ _ _ _ _ _ us hl => match us, hl with | [_, _], _ => rfl
  have F31 := fun_mk (st := s_law_near) l31 c31 k31
  have b31 := F31.binds (ps := ["_law_web_here"]) fun _ _ _ _ _ _ us hl => match us, hl with | [_], _ => rfl
  have F32 := fun_mk (st := s_law_take) l32 c32 k32
  have b32 := F32.binds (ps := ["_law_near_here", "_law_laying_here", "_law_place"]) fun _ _ _ _ _ _ us hl => match us, hl with | [_, _, _], _ => rfl
  have F33 := fun_mk (st := s_law_count) l33 c33 k33
  have b33 := F33.binds (ps := ["_law_near_here", "_law_laying_here", "_law_known"]) fun _ _ _ _ _ _ us hl => match us, hl with | [_, _, _], _ => rfl
  have F34 := fun_mk (st := s_law_alike) l34 c34 k34
  have b34 := F34.binds (ps := ["_law_found", "_law_due"]) fun _ _ _ _ _ _ us hl => match us, hl with | [_, _], _ => rfl
  have F35 := fun_mk (st := s_law_laying) l35 c35 k35
  have b35 := F35.binds (ps := ["_law_web_here", "_law_order_here"]) fun _ _ _ _ _ _ us hl => match us, hl with | [_, _], _ => rfl
  have F36 := fun_mk (st := s_law) l36 c36 k36
  have b36 := F36.binds (ps := ["_law_script"]) fun _ _ _ _ _ _ us hl => match us, hl with | [_], _ => rfl
  refine ⟨PySem.W.fnOf "law" "law" (defArgs s_law) (defBody s_law) (defScope s_law) .none kV36 dc36 pm36 an36 cd36 ct36, fun s v => .of_eq rfl, fun base _ _ => ?_⟩
  have D_is_in : TIsIn l.prog w K mg base := ⟨f1, _, ok_is_in F1 B, b1, k1, PySem.W.mg_of X G a1⟩
  have D_is_edge : TIsEdge l.prog w K mg base := ⟨f2, _, ok_is_edge B D_is_in F2, b2, k2, PySem.W.mg_of X G a2⟩
  have D_need_web : TNeedWeb l.prog w K mg base := ⟨f3, _, ok_need_web B D_is_in D_is_edge m9 F3, b3, k3, PySem.W.mg_of X G a3⟩
  have D_need_full : TNeedFull l.prog w K mg base := ⟨f4, _, ok_need_full B D_is_in F4, b4, k4, PySem.W.mg_of X G a4⟩
  have D_need_both : TNeedBoth l.prog w K mg base := ⟨f5, _, ok_need_both D_need_web D_need_full F5, b5, k5, PySem.W.mg_of X G a5⟩
  have D_neighbours_in : TNbs l.prog w K mg base := ⟨f6, _, ok_neighbours_in B F6, b6, k6, PySem.W.mg_of X G a6⟩
  have D_heads_in : THeads l.prog w K mg base := ⟨f7, _, ok_heads_in B F7, b7, k7, PySem.W.mg_of X G a7⟩
  have D_taken_in : TTaken l.prog w K mg base := ⟨f8, _, ok_taken_in B D_neighbours_in F8, b8, k8, PySem.W.mg_of X G a8⟩
  have D_count_in : TCount l.prog w K mg base := ⟨f9, _, ok_count_in B D_heads_in D_taken_in F9 b9 (PySem.W.mg_of X G a9) 7, b9, k9, PySem.W.mg_of X G a9⟩
  have D_full_layings : TFull l.prog w K mg base := ⟨f10, _, ok_full_layings B F10, b10, k10, PySem.W.mg_of X G a10⟩
  have D_clearable_in : TClear l.prog w K mg base := ⟨f11, _, ok_clearable_in D_full_layings D_count_in F11, b11, k11, PySem.W.mg_of X G a11⟩
  have D_need_prices : TNeedPrices l.prog w K mg base := ⟨f12, _, ok_need_prices B D_is_in m1000 F12, b12, k12, PySem.W.mg_of X G a12⟩
  have D_apart : TApart l.prog w K mg base := ⟨f13, _, ok_apart B F13, b13, k13, PySem.W.mg_of X G a13⟩
  have D_cost_of : TCost l.prog w K mg base := ⟨f14, _, ok_cost_of B D_apart F14, b14, k14, PySem.W.mg_of X G a14⟩
  have D_cheapest_in : TCheap l.prog w K mg base := ⟨f15, _, ok_cheapest_in B D_clearable_in D_cost_of F15, b15, k15, PySem.W.mg_of X G a15⟩
  have D_fewest_turned : TFewest l.prog w K mg base := ⟨f16, _, ok_fewest_turned D_need_both D_cheapest_in F16, b16, k16, PySem.W.mg_of X G a16⟩
  have D_cheapest_turn : TCheapest l.prog w K mg base := ⟨f17, _, ok_cheapest_turn D_need_both D_need_prices D_cheapest_in F17, b17, k17, PySem.W.mg_of X G a17⟩
  have D_is_order : TIsOrder l.prog w K mg base := ⟨f18, _, ok_is_order B D_is_in F18, b18, k18, PySem.W.mg_of X G a18⟩
  have D_need_order : TNeedOrder l.prog w K mg base := ⟨f19, _, ok_need_order D_is_order F19, b19, k19, PySem.W.mg_of X G a19⟩
  have D_laying_in : TLayIn l.prog w K mg base := ⟨f20, _, ok_laying_in B D_neighbours_in F20, b20, k20, PySem.W.mg_of X G a20⟩
  have D_turned_for : TTurned l.prog w K mg base := ⟨f21, _, ok_turned_for B D_need_both D_need_order D_apart D_laying_in F21, b21, k21, PySem.W.mg_of X G a21⟩
  have D_part_in : TPart l.prog w K mg base := ⟨f22, _, ok_part_in B D_neighbours_in F22, b22, k22, PySem.W.mg_of X G a22⟩
  have D_parts_in : TParts l.prog w K mg base := ⟨f23, _, ok_parts_in B D_part_in F23, b23, k23, PySem.W.mg_of X G a23⟩
  have D_is_forest_in : TForest l.prog w K mg base := ⟨f24, _, ok_is_forest_in B D_parts_in F24, b24, k24, PySem.W.mg_of X G a24⟩
  have D_is_tree : TTree l.prog w K mg base := ⟨f25, _, ok_is_tree B D_need_web D_is_forest_in F25, b25, k25, PySem.W.mg_of X G a25⟩
  have D_law_taken : TLTaken l.prog w K mg base := ⟨f26, _, ok_law_taken B F26, b26, k26, PySem.W.mg_of X G a26⟩
  have D_law_order : TLOrder l.prog w K mg base := ⟨f27, _, ok_law_order B D_law_taken F27, b27, k27, PySem.W.mg_of X G a27⟩
  have D_law_pick : TLPick l.prog w K mg base := ⟨f28, _, ok_law_pick B D_law_taken F28, b28, k28, PySem.W.mg_of X G a28⟩
  have D_law_layings : TLLayings l.prog w K mg base := ⟨f29, _, ok_law_layings B F29, b29, k29, PySem.W.mg_of X G a29⟩
  have D_law_web : TLWeb l.prog w K mg base := ⟨f30, _, ok_law_web B D_law_taken D_law_order F30, b30, k30, PySem.W.mg_of X G a30⟩
  have D_law_near : TLNear l.prog w K mg base := ⟨f31, _, ok_law_near B F31, b31, k31, PySem.W.mg_of X G a31⟩
  have D_law_take : TLTake l.prog w K mg base := ⟨f32, _, ok_law_take B F32, b32, k32, PySem.W.mg_of X G a32⟩
  have D_law_count : TLCount l.prog w K mg base := ⟨f33, _, ok_law_count B D_law_take F33 b33 (PySem.W.mg_of X G a33) 7, b33, k33, PySem.W.mg_of X G a33⟩
  have D_law_alike : TLAlike l.prog w K mg base := ⟨f34, _, ok_law_alike B F34 b34 (PySem.W.mg_of X G a34) 3, b34, k34, PySem.W.mg_of X G a34⟩
  have D_law_laying : TLLaying l.prog w K mg base := ⟨f35, _, ok_law_laying B D_law_near F35, b35, k35, PySem.W.mg_of X G a35⟩
  exact ok_law B D_law_taken D_law_order D_law_pick D_law_layings D_law_web D_law_near D_law_count D_law_alike D_law_laying D_fewest_turned D_cheapest_turn D_turned_for D_is_tree F36
theorem walk {l : PySem.W.OpenLaw} {q : Program} {loose : List Str} {XP : (Str → Option Value) → Heap → Prop} {YP : World → Heap → Prop} {d : DefRec} {K : Params → PySem.W.Frag} (hn : l.most = some 63) (hdf : d.params.defaults = [])
    (hY : ∀ (w : World) (h : Heap), YP w h → (K w.params).In h)
    (F : ∀ (w : World) (mg : Str → Option Value) (fa : Addr) (h : Heap), (K w.params).In h → h.Ns mainGlobals mg → mg d.name = some (.ref fa) →
      ∃ fd : FuncData, (∀ (s : Shared) (u : Value), BindsTo s fd ⟨[u], []⟩ [("_law_script", u)]) ∧ ∀ base : Heap, (K w.params).In base → base.Ns mainGlobals mg → FnOk l.prog w (K w.params) mg base CX0 13 fa fd ["_law_script"] (sp_law (K w.params))) :
    PySem.W.WalkO q loose XP YP l.row.toRowW d [] (fun f vs => PySem.call f vs) :=
  L2.walk_of (n := 63) (k := 13) (x := "_law_script") (CX := fun _ => CX0) (sp := fun w => sp_law (K w.params)) hn (by decide) hdf ⟨rfl, by decide, by decide⟩ hY F (fun _ _ a ns _ _ hS => ⟨a, ns, rfl, hS, fun _ => rfl⟩) fun _ _ _ _ _ z => z
end K23P
open PySem PySem.W PyProof.Rows
set_option maxRecDepth 100000 in
set_option maxHeartbeats 0 in
theorem PySem.Challenge.cw_cointakes_k23_whole_turned_coins_holds : PySem.Challenge.rw_cointakes_k23_whole_turned_coins.Holds := by
  w_on; o_law; k_head; (case hw => w_witness2)
  k_fill
  refine K23P.walk (l := PySem.Challenge.rw_cointakes_k23_whole_turned_coins) rfl rfl (fun w h Y => PySem.W.kIn_of Y) ?F
  case F =>
    intro w mg fa h KX G hmg
    refine' K23P.all_mk KX G hmg ?a1 ?l1 ?c1 ?k1 ?a2 ?l2 ?c2 ?k2 ?a3 ?l3 ?c3 ?k3 ?a4 ?l4 ?c4 ?k4 ?a5 ?l5 ?c5 ?k5 ?a6 ?l6 ?c6 ?k6 ?a7 ?l7 ?c7 ?k7 ?a8 ?l8 ?c8 ?k8 ?a9 ?l9 ?c9 ?k9 ?a10 ?l10 ?c10 ?k10 ?a11 ?l11 ?c11 ?k11 ?a12 ?l12 ?c12 ?k12 ?a13 ?l13 ?c13 ?k13 ?a14 ?l14 ?c14 ?k14 ?a15 ?l15 ?c15 ?k15 ?a16 ?l16 ?c16 ?k16 ?a17 ?l17 ?c17 ?k17 ?a18 ?l18 ?c18 ?k18 ?a19 ?l19 ?c19 ?k19 ?a20 ?l20 ?c20 ?k20 ?a21 ?l21 ?c21 ?k21 ?a22 ?l22 ?c22 ?k22 ?a23 ?l23 ?c23 ?k23 ?a24 ?l24 ?c24 ?k24 ?a25 ?l25 ?c25 ?k25 ?a26 ?l26 ?c26 ?k26 ?a27 ?l27 ?c27 ?k27 ?a28 ?l28 ?c28 ?k28 ?a29 ?l29 ?c29 ?k29 ?a30 ?l30 ?c30 ?k30 ?a31 ?l31 ?c31 ?k31 ?a32 ?l32 ?c32 ?k32 ?a33 ?l33 ?c33 ?k33 ?a34 ?l34 ?c34 ?k34 ?a35 ?l35 ?c35 ?k35 ?a36 ?l36 ?c36 ?k36 ?z1 ?z2 ?z3 ?z4 ?z5 ?z6 ?z7 ?z8 ?z9 ?z10 ?z11 ?z12 ?z13 ?y1 ?y2
    (case a1 => k_is); (case l1 => k_is); (case c1 => k_is); (case k1 => k_is)
    (case a2 => k_is); (case l2 => k_is); (case c2 => k_is); (case k2 => k_is)
    (case a3 => k_is); (case l3 => k_is); (case c3 => k_is); (case k3 => k_is)
    (case a4 => k_is); (case l4 => k_is); (case c4 => k_is); (case k4 => k_is)
    (case a5 => k_is); (case l5 => k_is); (case c5 => k_is); (case k5 => k_is)
    (case a6 => k_is); (case l6 => k_is); (case c6 => k_is); (case k6 => k_is)
    (case a7 => k_is); (case l7 => k_is); (case c7 => k_is); (case k7 => k_is)
    (case a8 => k_is); (case l8 => k_is); (case c8 => k_is); (case k8 => k_is)
    (case a9 => k_is); (case l9 => k_is); (case c9 => k_is); (case k9 => k_is)
    (case a10 => k_is); (case l10 => k_is); (case c10 => k_is); (case k10 => k_is)
    (case a11 => k_is); (case l11 => k_is); (case c11 => k_is); (case k11 => k_is)
    (case a12 => k_is); (case l12 => k_is); (case c12 => k_is); (case k12 => k_is)
    (case a13 => k_is); (case l13 => k_is); (case c13 => k_is); (case k13 => k_is)
    (case a14 => k_is); (case l14 => k_is); (case c14 => k_is); (case k14 => k_is)
    (case a15 => k_is); (case l15 => k_is); (case c15 => k_is); (case k15 => k_is)
    (case a16 => k_is); (case l16 => k_is); (case c16 => k_is); (case k16 => k_is)
    (case a17 => k_is); (case l17 => k_is); (case c17 => k_is); (case k17 => k_is)
    (case a18 => k_is); (case l18 => k_is); (case c18 => k_is); (case k18 => k_is)
    (case a19 => k_is); (case l19 => k_is); (case c19 => k_is); (case k19 => k_is)
    (case a20 => k_is); (case l20 => k_is); (case c20 => k_is); (case k20 => k_is)
    (case a21 => k_is); (case l21 => k_is); (case c21 => k_is); (case k21 => k_is)
    (case a22 => k_is); (case l22 => k_is); (case c22 => k_is); (case k22 => k_is)
    (case a23 => k_is); (case l23 => k_is); (case c23 => k_is); (case k23 => k_is)
    (case a24 => k_is); (case l24 => k_is); (case c24 => k_is); (case k24 => k_is)
    (case a25 => k_is); (case l25 => k_is); (case c25 => k_is); (case k25 => k_is)
    (case a26 => k_is); (case l26 => k_is); (case c26 => k_is); (case k26 => k_is)
    (case a27 => k_is); (case l27 => k_is); (case c27 => k_is); (case k27 => k_is)
    (case a28 => k_is); (case l28 => k_is); (case c28 => k_is); (case k28 => k_is)
    (case a29 => k_is); (case l29 => k_is); (case c29 => k_is); (case k29 => k_is)
    (case a30 => k_is); (case l30 => k_is); (case c30 => k_is); (case k30 => k_is)
    (case a31 => k_is); (case l31 => k_is); (case c31 => k_is); (case k31 => k_is)
    (case a32 => k_is); (case l32 => k_is); (case c32 => k_is); (case k32 => k_is)
    (case a33 => k_is); (case l33 => k_is); (case c33 => k_is); (case k33 => k_is)
    (case a34 => k_is); (case l34 => k_is); (case c34 => k_is); (case k34 => k_is)
    (case a35 => k_is); (case l35 => k_is); (case c35 => k_is); (case k35 => k_is)
    (case a36 => k_is); (case l36 => k_is); (case c36 => k_is); (case k36 => k_is)
    (case z1 => k_is); (case z2 => k_is); (case z3 => k_is); (case z4 => k_is)
    (case z5 => k_is); (case z6 => k_is); (case z7 => k_is); (case z8 => k_is)
    (case z9 => k_is); (case z10 => k_is); (case z11 => k_is); (case z12 => k_is)
    (case z13 => k_is); (case y1 => k_is); (case y2 => k_is)

