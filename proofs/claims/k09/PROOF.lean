import PyProof.Rows.All
import Wide.All
import OpenK.AllK
import Wide.FinOn
import HandS.ForMost
import HandS.Conv
import HandS.Rev
import HandS.RevTup
import HandS.SetFor
import HandS.TupMul
import HandS.TupAny
import HandS.ForExc
import HandS.ExcIs
import HandS.HotCalls
import HandS.Codes
import HandS.RevRange
import HandS.IsInst
import HandS.SortInts
import HandS.Wide
import HandS.Zip
import HandS.Walk
import PySem.Challenge.RW_jointhands_k09_talk_for
/-! Bundles: the plain law. -/
namespace K9
/-- y is reached from x along ties within L -/
inductive Reach (tie : Nat → Nat → Bool) (L : List Nat) (x : Nat) : Nat → Prop where
  | here : Reach tie L x x
  | step {y z : Nat} : Reach tie L x y → z ∈ L → tie y z = true → Reach tie L x z
open Classical in
/-- the bundle of x within L -/
noncomputable def comp (tie : Nat → Nat → Bool) (L : List Nat) (x : Nat) : List Nat := L.filter fun y => decide (Reach tie L x y)
theorem mem_comp {tie : Nat → Nat → Bool} {L : List Nat} {x y : Nat} : y ∈ comp tie L x ↔ y ∈ L ∧ Reach tie L x y := by
  unfold comp
  rw [List.mem_filter]
  simp
/-- what is left of L when the items of b are taken out -/
def out (b L : List Nat) : List Nat := L.filter fun y => !(b.contains y)
theorem mem_out {b L : List Nat} {y : Nat} : y ∈ out b L ↔ y ∈ L ∧ y ∉ b := by
  unfold out
  rw [List.mem_filter]
  simp
theorem out_congr {b c L : List Nat} (h : ∀ y, y ∈ L → (y ∈ b ↔ y ∈ c)) : out b L = out c L := by
  unfold out
  refine List.filter_congr fun y hy => ?_
  have e := h y hy
  by_cases hb : y ∈ b
  · have hc := e.mp hb
    simp [hb, hc]
  · have hc : y ∉ c := fun z => hb (e.mpr z)
    simp [hb, hc]
theorem out_lt {tie : Nat → Nat → Bool} {x : Nat} {L : List Nat} : (out (comp tie (x :: L) x) (x :: L)).length < (x :: L).length := by
  have hx : x ∈ comp tie (x :: L) x := mem_comp.mpr ⟨List.mem_cons_self, .here⟩
  unfold out
  rw [List.filter_cons]
  have e : (!(comp tie (x :: L) x).contains x) = false := by simp [hx]
  rw [e]
  simp only [Bool.false_eq_true, if_false, List.length_cons]
  exact Nat.lt_succ_of_le (List.length_filter_le _ _)
/-- the bundles of L, in the order of their first items -/
noncomputable def bun (tie : Nat → Nat → Bool) : List Nat → List (List Nat)
  | [] => []
  | x :: L => comp tie (x :: L) x :: bun tie (out (comp tie (x :: L) x) (x :: L))
termination_by L => L.length
decreasing_by exact out_lt
theorem bun_nil {tie : Nat → Nat → Bool} : bun tie [] = [] := by rw [bun]
theorem bun_cons {tie : Nat → Nat → Bool} {x : Nat} {L : List Nat} : bun tie (x :: L) = comp tie (x :: L) x :: bun tie (out (comp tie (x :: L) x) (x :: L)) := by rw [bun]
/-- strong induction on the length -/
theorem len_ind {P : List Nat → Prop} (h : ∀ L, (∀ M, M.length < L.length → P M) → P L) (L : List Nat) : P L := by
  have key : ∀ n, ∀ L : List Nat, L.length < n → P L := by
    intro n
    induction n with
    | zero => intro L z; omega
    | succ n ih => intro L z; exact h L fun M q => ih M (by omega)
  exact key (L.length + 1) L (by omega)
theorem bun_ind {tie : Nat → Nat → Bool} {P : List Nat → Prop} (h0 : P []) (h1 : ∀ x L, P (out (comp tie (x :: L) x) (x :: L)) → P (x :: L)) (L : List Nat) : P L := by
  refine len_ind (fun L ih => ?_) L
  cases L with
  | nil => exact h0
  | cons x L => exact h1 x L (ih _ out_lt)
theorem bun_perm {tie : Nat → Nat → Bool} (L : List Nat) : (bun tie L).flatten.Perm L := by
  refine bun_ind (tie := tie) (P := fun L => (bun tie L).flatten.Perm L) ?_ ?_ L
  · rw [bun_nil]
    exact List.Perm.refl _
  · intro x L ih
    rw [bun_cons, List.flatten_cons]
    refine List.Perm.trans (List.Perm.append_left _ ih) ?_
    have e : out (comp tie (x :: L) x) (x :: L) = (x :: L).filter fun y => !(comp tie (x :: L) x).contains y := rfl
    have e2 : comp tie (x :: L) x = (x :: L).filter fun y => (comp tie (x :: L) x).contains y := by
      refine List.filter_congr fun y hy => ?_
      by_cases q : Reach tie (x :: L) x y
      · have := mem_comp.mpr ⟨hy, q⟩
        simp [q, this]
      · have : y ∉ comp tie (x :: L) x := fun z => q (mem_comp.mp z).2
        simp [q, this]
    rw [e]
    conv => lhs; arg 1; rw [e2]
    exact List.filter_append_perm _ _
theorem bun_sub {tie : Nat → Nat → Bool} {L b : List Nat} (h : b ∈ bun tie L) {y : Nat} (hy : y ∈ b) : y ∈ L :=
  (bun_perm L).mem_iff.mp (List.mem_flatten.mpr ⟨b, h, hy⟩)
theorem bun_has {tie : Nat → Nat → Bool} {L : List Nat} {y : Nat} (hy : y ∈ L) : ∃ b, b ∈ bun tie L ∧ y ∈ b :=
  List.mem_flatten.mp ((bun_perm L).mem_iff.mpr hy)
theorem bun_ne {tie : Nat → Nat → Bool} (L : List Nat) : ∀ b ∈ bun tie L, b ≠ [] := by
  refine bun_ind (tie := tie) (P := fun L => ∀ b ∈ bun tie L, b ≠ []) ?_ ?_ L
  · rw [bun_nil]
    intro b hb
    cases hb
  · intro x L ih b hb
    rw [bun_cons] at hb
    rcases List.mem_cons.mp hb with e | hb
    · rw [e]
      exact List.ne_nil_of_mem (mem_comp.mpr ⟨List.mem_cons_self, .here⟩)
    · exact ih b hb
theorem bun_sorted {tie : Nat → Nat → Bool} (L : List Nat) : L.Pairwise (· < ·) → ∀ b ∈ bun tie L, b.Pairwise (· < ·) := by
  refine bun_ind (tie := tie) (P := fun L => L.Pairwise (· < ·) → ∀ b ∈ bun tie L, b.Pairwise (· < ·)) ?_ ?_ L
  · rw [bun_nil]
    intro _ b hb
    cases hb
  · intro x L ih hs b hb
    rw [bun_cons] at hb
    rcases List.mem_cons.mp hb with e | hb
    · rw [e]
      exact hs.sublist List.filter_sublist
    · exact ih (hs.sublist List.filter_sublist) b hb
theorem bun_pos {tie : Nat → Nat → Bool} {L : List Nat} (h : L ≠ []) : 0 < (bun tie L).length := by
  cases L with
  | nil => exact absurd rfl h
  | cons x L =>
    rw [bun_cons, List.length_cons]
    exact Nat.succ_pos _
theorem sum_len {bs : List (List Nat)} : (bs.flatten).length = (bs.map List.length).sum := List.length_flatten
theorem bun_len {tie : Nat → Nat → Bool} (L : List Nat) : ((bun tie L).map List.length).sum = L.length := by
  rw [← sum_len]
  exact (bun_perm L).length_eq
theorem le_sum {bs : List (List Nat)} (hp : ∀ b ∈ bs, b ≠ []) : bs.length ≤ (bs.map List.length).sum := by
  induction bs with
  | nil => exact Nat.le_refl _
  | cons b bs ih =>
    have h1 := ih fun c hc => hp c (List.mem_cons_of_mem _ hc)
    have h2 : 0 < b.length := List.length_pos_iff.mpr (hp b List.mem_cons_self)
    simp only [List.length_cons, List.map_cons, List.sum_cons]
    omega
theorem mem_sum {bs : List (List Nat)} (hp : ∀ b ∈ bs, b ≠ []) {b : List Nat} (hb : b ∈ bs) : b.length + bs.length ≤ (bs.map List.length).sum + 1 := by
  induction bs with
  | nil => cases hb
  | cons c bs ih =>
    simp only [List.length_cons, List.map_cons, List.sum_cons]
    rcases List.mem_cons.mp hb with e | hb
    · subst e
      have := le_sum fun c hc => hp c (List.mem_cons_of_mem _ hc)
      omega
    · have h1 := ih (fun c hc => hp c (List.mem_cons_of_mem _ hc)) hb
      have h2 : 0 < c.length := List.length_pos_iff.mpr (hp c List.mem_cons_self)
      omega
/-- a bundle beside others is smaller than the whole -/
theorem bun_lt {tie : Nat → Nat → Bool} {L b : List Nat} (hb : b ∈ bun tie L) (h : 1 < (bun tie L).length) : b.length < L.length := by
  have := mem_sum (bun_ne (tie := tie) L) hb
  rw [bun_len] at this
  omega
theorem bun_le {tie : Nat → Nat → Bool} {L b : List Nat} (hb : b ∈ bun tie L) : b.length ≤ L.length := by
  have h0 := List.length_pos_of_mem hb
  have := mem_sum (bun_ne (tie := tie) L) hb
  rw [bun_len] at this
  omega
theorem bun_cnt {tie : Nat → Nat → Bool} (L : List Nat) : (bun tie L).length ≤ L.length := by
  have := le_sum (bun_ne (tie := tie) L)
  rw [bun_len] at this
  exact this
/-- the bundles have nothing in common -/
theorem bun_apart {tie : Nat → Nat → Bool} {L : List Nat} (nd : L.Nodup) {i j : Nat} {b c : List Nat} {y : Nat} (hi : (bun tie L)[i]? = some b) (hj : (bun tie L)[j]? = some c) (h1 : y ∈ b) (h2 : y ∈ c) : i = j := by
  have nf : (bun tie L).flatten.Nodup := (bun_perm L).nodup_iff.mpr nd
  have key : ∀ (bs : List (List Nat)), bs.flatten.Nodup → ∀ (i j : Nat), bs[i]? = some b → bs[j]? = some c → i = j := by
    intro bs
    induction bs with
    | nil => intro _ i j h; simp at h
    | cons d bs ih =>
      intro nd i j hi hj
      rw [List.flatten_cons] at nd
      have ⟨_, n2, n3⟩ := List.nodup_append.mp nd
      cases i with
      | zero =>
        cases j with
        | zero => rfl
        | succ j =>
          have e : d = b := by simpa using hi
          have hj : bs[j]? = some c := by simpa using hj
          exact absurd rfl (n3 y (e ▸ h1) y (List.mem_flatten.mpr ⟨c, List.mem_of_getElem? hj, h2⟩))
      | succ i =>
        have hi : bs[i]? = some b := by simpa using hi
        cases j with
        | zero =>
          have e : d = c := by simpa using hj
          exact absurd rfl (n3 y (e ▸ h2) y (List.mem_flatten.mpr ⟨b, List.mem_of_getElem? hi, h1⟩))
        | succ j =>
          have hj : bs[j]? = some c := by simpa using hj
          rw [ih n2 i j hi hj]
  exact key _ nf i j hi hj
/-! ### how both texts find a bundle -/
/-- b is closed, all of it is reached: it is the bundle -/
theorem comp_of {tie : Nat → Nat → Bool} {L b : List Nat} {x : Nat} (h1 : ∀ y ∈ b, y ∈ L ∧ Reach tie L x y) (hx : x ∈ b) (h2 : ∀ y ∈ b, ∀ z ∈ L, z ∉ b → tie y z = false) (y : Nat) : y ∈ b ↔ y ∈ comp tie L x := by
  rw [mem_comp]
  refine ⟨h1 y, fun h => ?_⟩
  have r := h.2
  clear h
  induction r with
  | here => exact hx
  | @step u v r hv ht ih =>
    by_cases q : v ∈ b
    · exact q
    · have hu' : u ∈ b := by
        cases r with
        | here => exact hx
        | step r0 q t0 => exact ih
      have := h2 u hu' v hv q
      rw [this] at ht
      cases ht
theorem sorted_ext : ∀ {xs ys : List Nat}, xs.Pairwise (· < ·) → ys.Pairwise (· < ·) → (∀ z, z ∈ xs ↔ z ∈ ys) → xs = ys
  | [], [], _, _, _ => rfl
  | [], y :: ys, _, _, h => absurd ((h y).mpr List.mem_cons_self) (by simp)
  | x :: xs, [], _, _, h => absurd ((h x).mp List.mem_cons_self) (by simp)
  | x :: xs, y :: ys, h1, h2, h => by
    have p1 := List.pairwise_cons.mp h1
    have p2 := List.pairwise_cons.mp h2
    have exy : x = y := by
      have a := (h x).mp List.mem_cons_self
      have b := (h y).mpr List.mem_cons_self
      rcases List.mem_cons.mp a with e | a
      · exact e
      · rcases List.mem_cons.mp b with e | b
        · exact e.symm
        · have q1 := p2.1 x a
          have q2 := p1.1 y b
          omega
    subst exy
    refine congrArg (x :: ·) (sorted_ext p1.2 p2.2 fun z => ?_)
    have q := h z
    constructor
    · intro hz
      rcases List.mem_cons.mp (q.mp (List.mem_cons_of_mem _ hz)) with e | w
      · subst e
        exact absurd (p1.1 z hz) (Nat.lt_irrefl _)
      · exact w
    · intro hz
      rcases List.mem_cons.mp (q.mpr (List.mem_cons_of_mem _ hz)) with e | w
      · subst e
        exact absurd (p2.1 z hz) (Nat.lt_irrefl _)
      · exact w
/-- a sorted row of ints with the items of a set of numbers is the row of these -/
theorem sorted_int {ns : List Int} {b c : List Nat} (hp : ns.Perm (b.map fun n : Nat => (n : Int))) (hs : ns.Pairwise (· ≤ ·)) (nd : b.Nodup) (hc : c.Pairwise (· < ·)) (h : ∀ z, z ∈ b ↔ z ∈ c) : ns = c.map fun n : Nat => (n : Int) := by
  have e : ns = (ns.map Int.toNat).map fun n : Nat => (n : Int) := by
    rw [List.map_map]
    have : ∀ z ∈ ns, ((fun n : Nat => (n : Int)) ∘ Int.toNat) z = z := by
      intro z hz
      obtain ⟨n, _, q⟩ := List.mem_map.mp (hp.mem_iff.mp hz)
      subst q
      show ((Int.toNat (n : Int) : Nat) : Int) = (n : Int)
      omega
    conv => lhs; rw [← List.map_id ns]
    exact List.map_congr_left fun z hz => (this z hz).symm
  rw [e]
  refine congrArg (List.map fun n : Nat => (n : Int)) (sorted_ext ?_ hc fun z => ?_)
  · have nd' : ns.Nodup := hp.nodup_iff.mpr (List.Pairwise.map _ (fun a b q z => q (Int.ofNat.inj z)) nd)
    rw [List.pairwise_map]
    have both := List.Pairwise.and hs nd'
    refine List.Pairwise.imp_of_mem (fun {a b'} ha hb q => ?_) both
    obtain ⟨n, _, q1⟩ := List.mem_map.mp (hp.mem_iff.mp ha)
    obtain ⟨m, _, q2⟩ := List.mem_map.mp (hp.mem_iff.mp hb)
    have q1 : (n : Int) = a := q1
    have q2 : (m : Int) = b' := q2
    have := q.1
    have := q.2
    omega
  · rw [← h z]
    constructor
    · intro hz
      obtain ⟨a, ha, q⟩ := List.mem_map.mp hz
      obtain ⟨n, hn, q1⟩ := List.mem_map.mp (hp.mem_iff.mp ha)
      have q1 : (n : Int) = a := q1
      have : n = z := by omega
      rw [← this]
      exact hn
    · intro hz
      refine List.mem_map.mpr ⟨(z : Int), hp.mem_iff.mpr (List.mem_map.mpr ⟨z, hz, rfl⟩), ?_⟩
      show Int.toNat (z : Int) = z
      omega
/-! ### lines by their places -/
theorem reach_map {tie : Nat → Nat → Bool} {f : Nat → Nat} {L : List Nat} {x : Nat} (hf : ∀ a ∈ L, ∀ b ∈ L, f a = f b → a = b) (hx : x ∈ L) {y : Nat} (hy : y ∈ L) :
    Reach tie (L.map f) (f x) (f y) ↔ Reach (fun a b => tie (f a) (f b)) L x y := by
  constructor
  · have key : ∀ w, Reach tie (L.map f) (f x) w → ∀ y ∈ L, f y = w → Reach (fun a b => tie (f a) (f b)) L x y := by
      intro w r
      induction r with
      | here =>
        intro y hy e
        rw [hf y hy x hx e]
        exact .here
      | @step u v r hv ht ih =>
        intro y hy e
        have hu : ∃ a ∈ L, f a = u := by
          cases r with
          | here => exact ⟨x, hx, rfl⟩
          | step _ q _ =>
            obtain ⟨a, ha, e⟩ := List.mem_map.mp q
            exact ⟨a, ha, e⟩
        obtain ⟨a, ha, e2⟩ := hu
        refine .step (ih a ha e2) hy ?_
        show tie (f a) (f y) = true
        rw [e2, e]
        exact ht
    exact fun r => key _ r y hy rfl
  · intro r
    induction r with
    | here => exact .here
    | @step u v r hv ht ih =>
      have hu : u ∈ L := by
        cases r with
        | here => exact hx
        | step _ q _ => exact q
      exact .step (ih hu) (List.mem_map.mpr ⟨v, hv, rfl⟩) ht
theorem comp_map {tie : Nat → Nat → Bool} {f : Nat → Nat} {L : List Nat} {x : Nat} (hf : ∀ a ∈ L, ∀ b ∈ L, f a = f b → a = b) (hx : x ∈ L) :
    comp tie (L.map f) (f x) = (comp (fun a b => tie (f a) (f b)) L x).map f := by
  unfold comp
  rw [List.filter_map]
  refine congrArg (List.map f) (List.filter_congr fun y hy => ?_)
  have := reach_map (tie := tie) hf hx hy
  have e : Reach tie (List.map f L) (f x) (f y) = Reach (fun a b => tie (f a) (f b)) L x y := propext this
  simp only [Function.comp]
  by_cases q : Reach (fun a b => tie (f a) (f b)) L x y
  · simp [q, this]
  · simp [q, this]
theorem out_map {f : Nat → Nat} {L b : List Nat} (hf : ∀ a ∈ L, ∀ b ∈ L, f a = f b → a = b) (hb : ∀ y ∈ b, y ∈ L) : out (b.map f) (L.map f) = (out b L).map f := by
  unfold out
  rw [List.filter_map]
  refine congrArg (List.map f) (List.filter_congr fun y hy => ?_)
  have e : f y ∈ b.map f ↔ y ∈ b := by
    constructor
    · intro h
      obtain ⟨z, hz, e⟩ := List.mem_map.mp h
      rw [← hf z (hb z hz) y hy e]
      exact hz
    · exact fun h => List.mem_map.mpr ⟨y, h, rfl⟩
  by_cases q : y ∈ b
  · have := e.mpr q
    simp only [Function.comp, List.contains_iff_mem.mpr this, List.contains_iff_mem.mpr q]
  · have q2 : f y ∉ b.map f := fun z => q (e.mp z)
    have a1 : (b.map f).contains (f y) = false := by simpa using q2
    have a2 : b.contains y = false := by simpa using q
    simp only [Function.comp, a1, a2]
theorem bun_map {tie : Nat → Nat → Bool} {f : Nat → Nat} (L : List Nat) : (∀ a ∈ L, ∀ b ∈ L, f a = f b → a = b) → bun tie (L.map f) = (bun (fun a b => tie (f a) (f b)) L).map (List.map f) := by
  refine bun_ind (tie := fun a b => tie (f a) (f b)) (P := fun L => (∀ a ∈ L, ∀ b ∈ L, f a = f b → a = b) → bun tie (L.map f) = (bun (fun a b => tie (f a) (f b)) L).map (List.map f)) ?_ ?_ L
  · intro _
    rw [List.map_nil, bun_nil, bun_nil, List.map_nil]
  · intro x L ih hf
    have e1 := comp_map (tie := tie) hf List.mem_cons_self
    have e2 := out_map (f := f) (b := comp (fun a b => tie (f a) (f b)) (x :: L) x) hf fun y hy => (mem_comp.mp hy).1
    rw [List.map_cons] at e1 e2 ⊢
    rw [bun_cons, bun_cons, List.map_cons, e1, e2]
    refine congrArg (List.map f (comp (fun a b => tie (f a) (f b)) (x :: L) x) :: ·) (ih fun a ha b hb => hf a (mem_out.mp ha).1 b (mem_out.mp hb).1)
end K9
/-! Parts, knots, trees: the plain law. -/
namespace K9
/-- all answers of a part are the same -/
def even (t : Nat → Nat → Int) (R C : List Nat) : Bool := R.all fun x => C.all fun y => decide (t x y = t (R.headD 0) (C.headD 0))
/-- two rows are tied in the columns C; two columns in the rows R -/
def tieR (t : Nat → Nat → Int) (C : List Nat) (a b : Nat) : Bool := C.any fun c => decide (t a c = t b c)
def tieC (t : Nat → Nat → Int) (R : List Nat) (a b : Nat) : Bool := R.any fun r => decide (t r a = t r b)
theorem tieR_comm (t : Nat → Nat → Int) (C : List Nat) (a b : Nat) : tieR t C a b = tieR t C b a := by
  unfold tieR
  exact congrArg (List.any C) (funext fun c => decide_eq_decide.mpr eq_comm)
theorem tieC_comm (t : Nat → Nat → Int) (R : List Nat) (a b : Nat) : tieC t R a b = tieC t R b a := by
  unfold tieC
  exact congrArg (List.any R) (funext fun c => decide_eq_decide.mpr eq_comm)
noncomputable def RB (t : Nat → Nat → Int) (R C : List Nat) : List (List Nat) := bun (tieR t C) R
noncomputable def CB (t : Nat → Nat → Int) (R C : List Nat) : List (List Nat) := bun (tieC t R) C
/-- the next cut: the side and the bundles; none where the part stays -/
noncomputable def cut (t : Nat → Nat → Int) (R C : List Nat) : Option (Bool × List (List Nat)) :=
  if even t R C = true then none else if 1 < (RB t R C).length then some (false, RB t R C) else if 1 < (CB t R C).length then some (true, CB t R C) else none
theorem cut_even {t : Nat → Nat → Int} {R C : List Nat} (h : even t R C = true) : cut t R C = none := by
  unfold cut
  rw [if_pos h]
theorem cut_row {t : Nat → Nat → Int} {R C : List Nat} (h : ¬ even t R C = true) (h1 : 1 < (RB t R C).length) : cut t R C = some (false, RB t R C) := by
  unfold cut
  rw [if_neg h, if_pos h1]
theorem cut_col {t : Nat → Nat → Int} {R C : List Nat} (h : ¬ even t R C = true) (h1 : ¬ 1 < (RB t R C).length) (h2 : 1 < (CB t R C).length) : cut t R C = some (true, CB t R C) := by
  unfold cut
  rw [if_neg h, if_neg h1, if_pos h2]
theorem cut_knot {t : Nat → Nat → Int} {R C : List Nat} (h1 : ¬ 1 < (RB t R C).length) (h2 : ¬ 1 < (CB t R C).length) : cut t R C = none := by
  unfold cut
  rw [if_neg h1, if_neg h2]
  split <;> rfl
/-- the part with the bundle b -/
def subR (s : Bool) (b R : List Nat) : List Nat := if s = true then R else b
def subC (s : Bool) (b C : List Nat) : List Nat := if s = true then b else C
/-- a part: some rows, some columns, ascending -/
structure Good (R C : List Nat) : Prop where
  r0 : R ≠ []
  c0 : C ≠ []
  rs : R.Pairwise (· < ·)
  cs : C.Pairwise (· < ·)
theorem nodup_of_lt {L : List Nat} (h : L.Pairwise (· < ·)) : L.Nodup := h.imp fun q e => by omega
theorem Good.len {R C : List Nat} (g : Good R C) : 1 ≤ R.length ∧ 1 ≤ C.length := ⟨List.length_pos_iff.mpr g.r0, List.length_pos_iff.mpr g.c0⟩
/-- what a cut is -/
structure Cut (R C : List Nat) (s : Bool) (bs : List (List Nat)) : Prop where
  two : 1 < bs.length
  good : ∀ b ∈ bs, Good (subR s b R) (subC s b C)
  less : ∀ b ∈ bs, (subR s b R).length + (subC s b C).length < R.length + C.length
  cnt : ∀ b ∈ bs, (subR s b R).length + (subC s b C).length + bs.length ≤ R.length + C.length + 1
  area : (bs.map fun b => (subR s b R).length * (subC s b C).length).sum = R.length * C.length
  sub : ∀ b ∈ bs, (∀ x ∈ subR s b R, x ∈ R) ∧ (∀ y ∈ subC s b C, y ∈ C)
  apart : ∀ (i j : Nat) (b c : List Nat) (y : Nat), bs[i]? = some b → bs[j]? = some c → y ∈ b → y ∈ c → i = j
theorem sum_mul_r {k : Nat} : ∀ bs : List (List Nat), (bs.map fun b => b.length * k).sum = (bs.map List.length).sum * k
  | [] => by simp
  | b :: bs => by
    have ih := sum_mul_r (k := k) bs
    simp only [List.map_cons, List.sum_cons, ih, Nat.add_mul]
theorem sum_mul_l {k : Nat} : ∀ bs : List (List Nat), (bs.map fun b => k * b.length).sum = k * (bs.map List.length).sum
  | [] => by simp
  | b :: bs => by
    have ih := sum_mul_l (k := k) bs
    simp only [List.map_cons, List.sum_cons, ih, Nat.mul_add]
theorem cut_spec {t : Nat → Nat → Int} {R C : List Nat} {s : Bool} {bs : List (List Nat)} (g : Good R C) (h : cut t R C = some (s, bs)) : Cut R C s bs := by
  unfold cut at h
  split at h
  · cases h
  · split at h
    · rename_i h1
      cases h
      refine ⟨h1, fun b hb => ⟨bun_ne _ b hb, g.c0, bun_sorted _ g.rs b hb, g.cs⟩, fun b hb => ?_, fun b hb => ?_, ?_, fun b hb => ⟨fun x hx => bun_sub hb hx, fun y hy => hy⟩, fun i j b c y hi hj => bun_apart (nodup_of_lt g.rs) hi hj⟩
      · have := bun_lt hb h1
        show b.length + C.length < _
        omega
      · have := mem_sum (bun_ne (tie := tieR t C) R) hb
        rw [bun_len] at this
        show b.length + C.length + (bun (tieR t C) R).length ≤ _
        omega
      · show ((RB t R C).map fun b => b.length * C.length).sum = _
        rw [sum_mul_r, RB, bun_len]
    · split at h
      · rename_i h1
        cases h
        refine ⟨h1, fun b hb => ⟨g.r0, bun_ne _ b hb, g.rs, bun_sorted _ g.cs b hb⟩, fun b hb => ?_, fun b hb => ?_, ?_, fun b hb => ⟨fun x hx => hx, fun y hy => bun_sub hb hy⟩, fun i j b c y hi hj => bun_apart (nodup_of_lt g.cs) hi hj⟩
        · have := bun_lt hb h1
          show R.length + b.length < _
          omega
        · have := mem_sum (bun_ne (tie := tieC t R) C) hb
          rw [bun_len] at this
          show R.length + b.length + (bun (tieC t R) C).length ≤ _
          omega
        · show ((CB t R C).map fun b => R.length * b.length).sum = _
          rw [sum_mul_l, CB, bun_len]
      · cases h
/-- the parts of the taking apart, n cuts deep at most: even or a knot, rows, columns -/
noncomputable def partsN (t : Nat → Nat → Int) : Nat → List Nat → List Nat → List (Bool × List Nat × List Nat)
  | 0, _, _ => []
  | n + 1, R, C =>
    match cut t R C with
    | none => [(even t R C, R, C)]
    | some (s, bs) => bs.flatMap fun b => partsN t n (subR s b R) (subC s b C)
noncomputable def parts (t : Nat → Nat → Int) (R C : List Nat) : List (Bool × List Nat × List Nat) := partsN t (R.length + C.length) R C
theorem parts_fuel {t : Nat → Nat → Int} : ∀ (n m : Nat) (R C : List Nat), Good R C → R.length + C.length ≤ n → R.length + C.length ≤ m → partsN t n R C = partsN t m R C
  | 0, _, R, C, g, h, _ => by have := g.len; omega
  | _ + 1, 0, R, C, g, _, h => by have := g.len; omega
  | n + 1, m + 1, R, C, g, h1, h2 => by
    unfold partsN
    cases e : cut t R C with
    | none => rfl
    | some q =>
      obtain ⟨s, bs⟩ := q
      have c := cut_spec g e
      simp only [List.flatMap]
      refine congrArg List.flatten (List.map_congr_left fun b hb => ?_)
      have := c.less b hb
      exact parts_fuel n m _ _ (c.good b hb) (by omega) (by omega)
theorem parts_none {t : Nat → Nat → Int} {R C : List Nat} (g : Good R C) (h : cut t R C = none) : parts t R C = [(even t R C, R, C)] := by
  unfold parts
  obtain ⟨n, e⟩ : ∃ n, R.length + C.length = n + 1 := ⟨R.length + C.length - 1, by have := g.len; omega⟩
  rw [e, partsN, h]
theorem parts_some {t : Nat → Nat → Int} {R C : List Nat} {s : Bool} {bs : List (List Nat)} (g : Good R C) (h : cut t R C = some (s, bs)) : parts t R C = bs.flatMap fun b => parts t (subR s b R) (subC s b C) := by
  have c := cut_spec g h
  unfold parts
  obtain ⟨n, e⟩ : ∃ n, R.length + C.length = n + 1 := ⟨R.length + C.length - 1, by have := g.len; omega⟩
  rw [e, partsN, h]
  simp only [List.flatMap]
  refine congrArg List.flatten (List.map_congr_left fun b hb => ?_)
  have := c.less b hb
  exact parts_fuel n _ _ _ (c.good b hb) (by omega) (Nat.le_refl _)
/-- induction along the taking apart -/
theorem cut_ind {t : Nat → Nat → Int} {P : List Nat → List Nat → Prop} (h0 : ∀ R C, Good R C → cut t R C = none → P R C)
    (h1 : ∀ R C s bs, Good R C → cut t R C = some (s, bs) → (∀ b ∈ bs, P (subR s b R) (subC s b C)) → P R C) (R C : List Nat) (g : Good R C) : P R C := by
  have key : ∀ n, ∀ R C, Good R C → R.length + C.length ≤ n → P R C := by
    intro n
    induction n with
    | zero => intro R C g h; have := g.len; omega
    | succ n ih =>
      intro R C g h
      cases e : cut t R C with
      | none => exact h0 R C g e
      | some q =>
        obtain ⟨s, bs⟩ := q
        have c := cut_spec g e
        exact h1 R C s bs g e fun b hb => ih _ _ (c.good b hb) (by have := c.less b hb; omega)
  exact key _ R C g (Nat.le_refl _)
/-- no part is a knot -/
def free (t : Nat → Nat → Int) (R C : List Nat) : Prop := ∀ p ∈ parts t R C, p.1 = true
theorem free_none {t : Nat → Nat → Int} {R C : List Nat} (g : Good R C) (h : cut t R C = none) : free t R C ↔ even t R C = true := by
  unfold free
  rw [parts_none g h]
  simp
theorem free_some {t : Nat → Nat → Int} {R C : List Nat} {s : Bool} {bs : List (List Nat)} (g : Good R C) (h : cut t R C = some (s, bs)) : free t R C ↔ ∀ b ∈ bs, free t (subR s b R) (subC s b C) := by
  unfold free
  rw [parts_some g h]
  simp only [List.mem_flatMap]
  constructor
  · intro q b hb p hp
    exact q p ⟨b, hb, hp⟩
  · intro q p ⟨b, hb, hp⟩
    exact q b hb p hp
/-- every part is good, and lies within the whole -/
theorem parts_good {t : Nat → Nat → Int} {R C : List Nat} (g : Good R C) : ∀ p ∈ parts t R C, Good p.2.1 p.2.2 ∧ (∀ x ∈ p.2.1, x ∈ R) ∧ (∀ y ∈ p.2.2, y ∈ C) ∧ (p.1 = true → even t p.2.1 p.2.2 = true) := by
  refine cut_ind (t := t) (P := fun R C => ∀ p ∈ parts t R C, Good p.2.1 p.2.2 ∧ (∀ x ∈ p.2.1, x ∈ R) ∧ (∀ y ∈ p.2.2, y ∈ C) ∧ (p.1 = true → even t p.2.1 p.2.2 = true)) ?_ ?_ R C g
  · intro R C g h p hp
    rw [parts_none g h] at hp
    have e : p = (even t R C, R, C) := by simpa using hp
    subst e
    exact ⟨g, fun _ q => q, fun _ q => q, fun q => q⟩
  · intro R C s bs g h ih p hp
    rw [parts_some g h] at hp
    obtain ⟨b, hb, hp⟩ := List.mem_flatMap.mp hp
    obtain ⟨q1, q2, q3, q4⟩ := ih b hb p hp
    have c := (cut_spec g h).sub b hb
    exact ⟨q1, fun x hx => c.1 x (q2 x hx), fun y hy => c.2 y (q3 y hy), q4⟩
theorem parts_pos {t : Nat → Nat → Int} {R C : List Nat} (g : Good R C) : parts t R C ≠ [] := by
  refine cut_ind (t := t) (P := fun R C => parts t R C ≠ []) ?_ ?_ R C g
  · intro R C g h
    rw [parts_none g h]
    simp
  · intro R C s bs g h ih
    rw [parts_some g h]
    have c := cut_spec g h
    cases bs with
    | nil => exact absurd c.two (by simp)
    | cons b bs =>
      rw [List.flatMap_cons]
      intro e
      exact ih b List.mem_cons_self (List.append_eq_nil_iff.mp e).1
theorem sum_le {α : Type} {f g : α → Nat} : ∀ {l : List α}, (∀ a ∈ l, f a ≤ g a) → (l.map f).sum ≤ (l.map g).sum
  | [], _ => Nat.le_refl _
  | a :: l, h => by
    have h1 := h a List.mem_cons_self
    have h2 := sum_le (l := l) fun b hb => h b (List.mem_cons_of_mem _ hb)
    simp only [List.map_cons, List.sum_cons]
    omega
/-- there are no more parts than places -/
theorem parts_cnt {t : Nat → Nat → Int} {R C : List Nat} (g : Good R C) : (parts t R C).length ≤ R.length * C.length := by
  refine cut_ind (t := t) (P := fun R C => (parts t R C).length ≤ R.length * C.length) ?_ ?_ R C g
  · intro R C g h
    rw [parts_none g h]
    have := g.len
    exact Nat.mul_pos this.1 this.2
  · intro R C s bs g h ih
    rw [parts_some g h]
    have c := cut_spec g h
    rw [List.length_flatMap, ← c.area]
    exact sum_le ih
/-! ### the tree -/
inductive Tr where
  | fin (a : Int)
  | say (s : Bool) (b : List Nat) (l r : Tr)
def Tr.depth : Tr → Nat
  | .fin _ => 0
  | .say _ _ l r => max l.depth r.depth + 1
/-- one say behind the other -/
def join (s : Bool) : List (List Nat) → List Tr → Tr
  | b :: bs, T :: U :: Ts => .say s b (join s bs (U :: Ts)) T
  | _, [T] => T
  | _, _ => .fin 0
theorem join_one {s : Bool} {bs : List (List Nat)} {T : Tr} : join s bs [T] = T := by
  cases bs <;> rfl
theorem join_at {s : Bool} {bs : List (List Nat)} {Ts : List Tr} {k : Nat} {b : List Nat} {T : Tr} (hb : bs[k]? = some b) (hT : Ts[k]? = some T) (hk : k + 1 < Ts.length) :
    join s (bs.drop k) (Ts.drop k) = .say s b (join s (bs.drop (k + 1)) (Ts.drop (k + 1))) T := by
  obtain ⟨h1, e1⟩ := List.getElem?_eq_some_iff.mp hb
  obtain ⟨h2, e2⟩ := List.getElem?_eq_some_iff.mp hT
  rw [List.drop_eq_getElem_cons h1, List.drop_eq_getElem_cons h2, e1, e2, List.drop_eq_getElem_cons hk]
  rfl
theorem join_last {s : Bool} {bs : List (List Nat)} {Ts : List Tr} {k : Nat} {T : Tr} (hT : Ts[k]? = some T) (hk : k + 1 = Ts.length) : join s (bs.drop k) (Ts.drop k) = T := by
  obtain ⟨h2, e2⟩ := List.getElem?_eq_some_iff.mp hT
  have z : Ts.drop (k + 1) = [] := List.drop_eq_nil_of_le (by omega)
  rw [List.drop_eq_getElem_cons h2, e2, z, join_one]
theorem join_depth {s : Bool} {d : Nat} : ∀ (bs : List (List Nat)) (Ts : List Tr), (∀ T ∈ Ts, T.depth ≤ d) → (join s bs Ts).depth ≤ d + (Ts.length - 1)
  | [], [], _ => Nat.zero_le _
  | [], [T], h => by
    rw [join_one]
    have := h T List.mem_cons_self
    omega
  | [], T :: U :: Ts, _ => Nat.zero_le _
  | b :: bs, [], _ => Nat.zero_le _
  | b :: bs, [T], h => by
    rw [join_one]
    have := h T List.mem_cons_self
    omega
  | b :: bs, T :: U :: Ts, h => by
    have h1 := h T List.mem_cons_self
    have h2 := join_depth (s := s) bs (U :: Ts) fun V hV => h V (List.mem_cons_of_mem _ hV)
    show max (join s bs (U :: Ts)).depth T.depth + 1 ≤ _
    simp only [List.length_cons] at h2 ⊢
    omega
noncomputable def treeN (t : Nat → Nat → Int) : Nat → List Nat → List Nat → Tr
  | 0, _, _ => .fin 0
  | n + 1, R, C =>
    match cut t R C with
    | none => .fin (t (R.headD 0) (C.headD 0))
    | some (s, bs) => join s bs (bs.map fun b => treeN t n (subR s b R) (subC s b C))
noncomputable def tree (t : Nat → Nat → Int) (R C : List Nat) : Tr := treeN t (R.length + C.length) R C
theorem tree_fuel {t : Nat → Nat → Int} : ∀ (n m : Nat) (R C : List Nat), Good R C → R.length + C.length ≤ n → R.length + C.length ≤ m → treeN t n R C = treeN t m R C
  | 0, _, R, C, g, h, _ => by have := g.len; omega
  | _ + 1, 0, R, C, g, _, h => by have := g.len; omega
  | n + 1, m + 1, R, C, g, h1, h2 => by
    unfold treeN
    cases e : cut t R C with
    | none => rfl
    | some q =>
      obtain ⟨s, bs⟩ := q
      have c := cut_spec g e
      refine congrArg (join s bs) (List.map_congr_left fun b hb => ?_)
      have := c.less b hb
      exact tree_fuel n m _ _ (c.good b hb) (by omega) (by omega)
theorem tree_none {t : Nat → Nat → Int} {R C : List Nat} (g : Good R C) (h : cut t R C = none) : tree t R C = .fin (t (R.headD 0) (C.headD 0)) := by
  unfold tree
  obtain ⟨n, e⟩ : ∃ n, R.length + C.length = n + 1 := ⟨R.length + C.length - 1, by have := g.len; omega⟩
  rw [e, treeN, h]
theorem tree_some {t : Nat → Nat → Int} {R C : List Nat} {s : Bool} {bs : List (List Nat)} (g : Good R C) (h : cut t R C = some (s, bs)) : tree t R C = join s bs (bs.map fun b => tree t (subR s b R) (subC s b C)) := by
  have c := cut_spec g h
  unfold tree
  obtain ⟨n, e⟩ : ∃ n, R.length + C.length = n + 1 := ⟨R.length + C.length - 1, by have := g.len; omega⟩
  rw [e, treeN, h]
  refine congrArg (join s bs) (List.map_congr_left fun b hb => ?_)
  have := c.less b hb
  exact tree_fuel n _ _ _ (c.good b hb) (by omega) (Nat.le_refl _)
theorem tree_depth {t : Nat → Nat → Int} {R C : List Nat} (g : Good R C) : (tree t R C).depth ≤ R.length + C.length := by
  refine cut_ind (t := t) (P := fun R C => (tree t R C).depth ≤ R.length + C.length) ?_ ?_ R C g
  · intro R C g h
    rw [tree_none g h]
    exact Nat.zero_le _
  · intro R C s bs g h ih
    rw [tree_some g h]
    have c := cut_spec g h
    have := join_depth (s := s) (d := R.length + C.length + 1 - bs.length) bs (bs.map fun b => tree t (subR s b R) (subC s b C)) fun T hT => by
      obtain ⟨b, hb, e⟩ := List.mem_map.mp hT
      subst e
      have h1 := ih b hb
      have h2 := c.cnt b hb
      omega
    rw [List.length_map] at this
    have h2 := c.two
    have : bs.length ≤ R.length + C.length + 1 := by
      cases bs with
      | nil => simp
      | cons b bs =>
        have := c.cnt b List.mem_cons_self
        omega
    omega
/-- the rows and columns of a whole table -/
theorem range_sorted (n : Nat) : (List.range n).Pairwise (· < ·) := List.pairwise_lt_range
theorem good_range {X Y : Nat} (hx : 0 < X) (hy : 0 < Y) : Good (List.range X) (List.range Y) :=
  ⟨fun e => by have := congrArg List.length e; simp at this; omega, fun e => by have := congrArg List.length e; simp at this; omega, range_sorted X, range_sorted Y⟩
end K9
/-! How a bundle is gathered. -/
namespace K9
/-- b is reached from x within L, left is what is left -/
structure Grow (tie : Nat → Nat → Bool) (L : List Nat) (x : Nat) (b left : List Nat) : Prop where
  hx : x ∈ b
  reach : ∀ y ∈ b, y ∈ L ∧ Reach tie L x y
  nd : b.Nodup
  left : left = out b L
theorem Grow.start {tie : Nat → Nat → Bool} {x : Nat} {L : List Nat} (nd : (x :: L).Nodup) : Grow tie (x :: L) x [x] L := by
  refine ⟨List.mem_singleton.mpr rfl, fun y hy => ?_, by simp, ?_⟩
  · rw [List.mem_singleton.mp hy]
    exact ⟨List.mem_cons_self, .here⟩
  · have nx : x ∉ L := (List.nodup_cons.mp nd).1
    unfold out
    rw [List.filter_cons]
    have e : (!([x] : List Nat).contains x) = false := by simp
    rw [e]
    simp only [Bool.false_eq_true, if_false]
    refine (List.filter_eq_self.mpr fun y hy => ?_).symm
    have : y ≠ x := fun z => nx (z ▸ hy)
    simp [this]
theorem out_out {a b L : List Nat} : out b (out a L) = out (a ++ b) L := by
  unfold out
  rw [List.filter_filter]
  refine List.filter_congr fun y _ => ?_
  by_cases h1 : y ∈ a <;> by_cases h2 : y ∈ b <;> simp [h1, h2]
theorem Grow.perm {tie : Nat → Nat → Bool} {L : List Nat} {x : Nat} {b c left : List Nat} (g : Grow tie L x b left) (p : c.Perm b) : Grow tie L x c left :=
  ⟨p.mem_iff.mpr g.hx, fun y hy => g.reach y (p.mem_iff.mp hy), p.nodup_iff.mpr g.nd, g.left.trans (out_congr fun y _ => p.mem_iff.symm)⟩
/-- some of what is left are tied to b: they go over -/
theorem Grow.more {tie : Nat → Nat → Bool} {L : List Nat} {x : Nat} {b left : List Nat} {p : Nat → Bool} (g : Grow tie L x b left) (ndL : L.Nodup) (h : ∀ z ∈ left, p z = true → ∃ y ∈ b, tie y z = true) :
    Grow tie L x (b ++ left.filter p) (out (left.filter p) left) := by
  refine ⟨List.mem_append_left _ g.hx, fun y hy => ?_, ?_, ?_⟩
  · rcases List.mem_append.mp hy with hy | hy
    · exact g.reach y hy
    · have hl := (List.mem_filter.mp hy).1
      have hp := (List.mem_filter.mp hy).2
      have hL : y ∈ L := by
        rw [g.left] at hl
        exact (mem_out.mp hl).1
      obtain ⟨z, hz, ht⟩ := h y hl hp
      exact ⟨hL, .step (g.reach z hz).2 hL ht⟩
  · refine List.nodup_append.mpr ⟨g.nd, ?_, fun a ha c hc e => ?_⟩
    · rw [g.left]
      exact (ndL.filter _).filter _
    · subst e
      have hl := (List.mem_filter.mp hc).1
      rw [g.left] at hl
      exact (mem_out.mp hl).2 ha
  · conv => lhs; arg 2; rw [g.left]
    exact out_out
theorem filter_none {p : Nat → Bool} {l : List Nat} (h : l.filter p = []) : ∀ z ∈ l, p z = false := fun z hz => by
  cases e : p z with
  | false => rfl
  | true =>
    have : z ∈ l.filter p := List.mem_filter.mpr ⟨hz, e⟩
    rw [h] at this
    cases this
/-- nothing that is left is tied to b: b is the bundle -/
theorem Grow.done {tie : Nat → Nat → Bool} {L : List Nat} {x : Nat} {b left : List Nat} (g : Grow tie L x b left) (h : ∀ y ∈ b, ∀ z ∈ left, tie y z = false) : (∀ y, y ∈ b ↔ y ∈ comp tie L x) ∧ left = out (comp tie L x) L := by
  have e := comp_of (tie := tie) (L := L) g.reach g.hx fun y hy z hz hn => h y hy z (by rw [g.left]; exact mem_out.mpr ⟨hz, hn⟩)
  exact ⟨e, g.left.trans (out_congr fun y _ => e y)⟩
theorem out_filter {p : Nat → Bool} {l : List Nat} : out (l.filter p) l = l.filter fun y => !p y := by
  unfold out
  refine List.filter_congr fun y hy => ?_
  cases e : p y with
  | true =>
    have : y ∈ l.filter p := List.mem_filter.mpr ⟨hy, e⟩
    simp [this]
  | false =>
    have : y ∉ l.filter p := fun z => by
      rw [(List.mem_filter.mp z).2] at e
      cases e
    simp [this]
theorem out_len {p : Nat → Bool} {l : List Nat} : (out (l.filter p) l).length + (l.filter p).length = l.length := by
  have h1 := (List.filter_append_perm p l).length_eq
  rw [List.length_append] at h1
  rw [out_filter]
  omega
theorem filter_take {p : Nat → Bool} {l : List Nat} {i n : Nat} (h : l[i]? = some n) : (l.take (i + 1)).filter p = (l.take i).filter p ++ (if p n = true then [n] else []) := by
  rw [List.take_add_one, h, List.filter_append]
  cases e : p n with
  | true => simp [e]
  | false => simp [e]
end K9
set_option Elab.async false
set_option linter.all false
set_option maxRecDepth 100000
set_option maxHeartbeats 4000000
namespace K9
open PySem PySem.Spec PyProof.Rows L2 RT
section
variable {prog : Program} {w : World} {A : Around} {E : Value → Shared → Prop} {s : Shared}
/-- list.__init__ of a new list from an iterator that goes backwards over a list -/
theorem k_init_rev {R : Result → Shared → Prop} {it l S : Addr} {xs : Array Value} (calm : A.handled = none)
    (gi : s.heap.IsRevIter it l ((xs.size : Int) - 1)) (gl : s.heap.IsList l xs) (nli : l ≠ it) (fit : xs.size ≤ sizeLine)
    (gS : s.heap.get? S = some { cls := .type "list", data := .seq #[] }) (nSi : S ≠ it) (nSl : S ≠ l)
    (fin : ∀ (h' : Heap) (tk : Nat) (acc : Array Value) (c : Nat), (∀ b o, b ≠ S → b ≠ it → s.heap.get? b = some o → h'.get? b = some o) →
      h'.get? S = some { cls := .type "list", dict := none, data := .seq acc c, slots := #[] } →
      ItemsOf (fun i v => xs[xs.size - 1 - i]? = some v) acc xs.size → R (.ok (.ret .none)) { s with heap := h', toks := tk }) :
    wpAny (model prog w) A.in1 (Builtin.«list.__init__» ⟨[.ref S, .ref it], []⟩)
      (fun e s' => match e with | .done f => R (.ok f) s' | .again q => q.quiet = true ∧ codeAny (model prog w) A q R s') (fun e s' => R (.error e) s') s := by
  have Wk := (Walks.listRev (prog := prog) (w := w) (A := A.in1) calm it l nli xs).toS
  show wpAny _ _ (Builtin.List.listItems (.ref S) >>= fun old => Builtin.List.listUpdate (.ref S) (fun _ => #[]) >>= fun _ => letGo old.toList.reverse >>= fun _ => Builtin.List.listExtendWith (.ref S) (.ref it) .none) _ _ s
  refine wpAny_bind ?_
  unfold Builtin.List.listItems
  refine wpAny_bind (wpAny_seqItems gS rfl (wpAny_pure ?_))
  refine wpAny_bind ?_
  unfold Builtin.List.listUpdate
  refine wpAny_updateSeq gS rfl ?_
  have gS2 := Heap.get?_update_self (Obj.mapSeq (fun _ => (#[] : Array Value))) gS rfl
  have other : ∀ b o, b ≠ S → s.heap.get? b = some o → (s.heap.update S (Obj.mapSeq (fun _ => (#[] : Array Value)))).get? b = some o :=
    fun b o nb e => Eq.trans (Heap.get?_update_other _ _ (Ne.symm nb)) e
  refine wpAny_bind (wpAny_letGo ?_)
  have gi2 : (s.heap.update S (Obj.mapSeq (fun _ => (#[] : Array Value)))).IsRevIter it l ((xs.size : Int) - 1) := gi.at fun o e => other it o (Ne.symm nSi) e
  have gl2 : (s.heap.update S (Obj.mapSeq (fun _ => (#[] : Array Value)))).IsList l xs := by
    obtain ⟨o, e, q⟩ := gl
    exact ⟨o, other l o (Ne.symm nSl) e, q⟩
  have ty : ({ s with heap := s.heap.update S (Obj.mapSeq (fun _ => (#[] : Array Value))) } : Shared).TypeIs (.ref it) "list_reverseiterator" :=
    Heap.IsRevIter.typeIs (s := { s with heap := s.heap.update S (Obj.mapSeq (fun _ => (#[] : Array Value))) }) gi2
  have unl : Builtin.List.listSameRef (.ref S) (.ref it) = false := by simp [Builtin.List.listSameRef, nSi]
  unfold Builtin.List.listExtendWith
  refine wpAny_bind (wpAny_typeOf ty ?_)
  rw [if_neg (by rw [unl]; decide)]
  refine wpAny_bind (wpAny_pyIter_revIter (s := { s with heap := s.heap.update S (Obj.mapSeq (fun _ => (#[] : Array Value))) }) gi2 ?_)
  refine wpAny_bind (wpAny_holding ?_)
  unfold Builtin.List.listLengthHint
  refine wpAny_bind (wpAny_specialOf ty nolen_lri ?_)
  refine wpAny_bind (m := specialOf (Value.ref it) (Str.ofString "__length_hint__")) (wpAny_specialOf ty hint_lri ?_)
  generalize hid : ("list_reverseiterator.__length_hint__" : String) = id0
  wp_delta
  rw [show splitId id0 = some ("list_reverseiterator", "__length_hint__") from by rw [← hid]; decide +kernel]
  subst hid
  refine wpAny_bind (wpAny_isInstance (b := true) ty (by rw [isSubtype_type]; kernel_rfl) ?_)
  refine wpAny_pure ?_
  rw [if_neg (by decide)]
  have e0 : ((xs.size : Nat) : Int) - 1 - ((0 : Nat) : Int) = (xs.size : Int) - 1 := by omega
  have apart : S ∉ [it, l] := by
    simp only [List.mem_cons, List.not_mem_nil, or_false, not_or]
    exact ⟨nSi, nSl⟩
  refine wpAny_pure ⟨plainId_quiet F.plain_extend_loop _, codeAny_extend_loopS Wk fit S apart _ xs.size 0 _ _ _ rfl (Nat.zero_le _) ⟨Nat.zero_le _, by rw [e0]; exact gi2, gl2⟩ gS2 (ItemsOf.nil _) fun s' acc c mv gS' its => ?_⟩
  rw [Moved.eq_with mv]
  refine fin s'.heap s'.toks acc c (fun b o nb nb2 e => mv.heap b o (fun hm => ?_) (other b o nb e)) gS' its
  rcases List.mem_cons.mp hm with z | hm
  · exact nb z
  · exact nb2 (List.mem_singleton.mp hm)
theorem k_list_rev {it l : Addr} {xs : Array Value} {Q : Value → Shared → Prop} (calm : A.handled = none) (gi : s.heap.IsRevIter it l ((xs.size : Int) - 1)) (gl : s.heap.IsList l xs) (nli : l ≠ it) (fit : xs.size ≤ sizeLine)
    (fin : ∀ (h' : Heap) (tk : Nat) (acc : Array Value) (c : Nat), (∀ b o, b ≠ it → s.heap.get? b = some o → h'.get? b = some o) →
      h'.get? s.heap.objs.size = some { cls := .type "list", dict := none, data := .seq acc c, slots := #[] } →
      ItemsOf (fun i v => xs[xs.size - 1 - i]? = some v) acc xs.size → Q (.ref s.heap.objs.size) { s with heap := h', toks := tk }) :
    wpAny (model prog w) A (call (.type "list") [.ref it]) Q E s := by
  refine callType_codes (Q₁ := fun obj s₁ => obj = .ref s.heap.objs.size ∧ s₁ = { s with heap := s.heap.push { cls := .type "list", data := .seq #[] } })
    F.called_list (F.typeCall_list_1 _) F.entry_list_init (code_list_new _ ⟨rfl, rfl⟩) fun obj s₁ h₁ => ?_
  obtain ⟨rfl, rfl⟩ := h₁
  have gS : (s.heap.push { cls := .type "list", data := .seq #[] }).get? s.heap.objs.size = some { cls := .type "list", data := .seq #[] } :=
    Heap.get?_push_size _ rfl
  obtain ⟨oi, hoi, _⟩ := id gi
  obtain ⟨ol, hol, _⟩ := id gl
  refine ⟨⟨_, gS, rfl⟩, F.args_list_init_2 _ _, k_init_rev (A := A.in1) (s := { s with heap := s.heap.push { cls := .type "list", data := .seq #[] } }) calm
    (gi.at fun o e => Heap.get?_push_of_some _ e) (gl.push _) nli fit gS (Nat.ne_of_gt (Heap.lt_size hoi)) (Nat.ne_of_gt (Heap.lt_size hol)) fun h' tk acc c k gS' its => ?_⟩
  exact ⟨rfl, fin h' tk acc c (fun b o nb e => k b o (Nat.ne_of_lt (Heap.lt_size e)) nb (Heap.get?_push_of_some _ e)) gS' its⟩
end
/-- an iterator at it has turned, and at D a new object stands that is tracked from now on -/
theorem turn_lay {X : Cx} {pins : List (Addr × Obj)} {σ : L2.St} {H : Hp} {s : Shared} {h' : Heap} {t' : Nat} {it D : Addr} {o : HO} (I : Inv X pins σ H s)
    (k : ∀ b u, b ≠ it → s.heap.get? b = some u → h'.get? b = some u) (hD : s.heap.objs.size ≤ D) (fp : FpOk X pins H it) (new : ObjOk X.prog X.w (upd H D o) h' D o) :
    Inv X pins σ (upd H D o) { s with heap := h', toks := t' } := by
  obtain ⟨f0, f1, _, f3, f4, f5⟩ := fp
  have fr : H D = none := I.hok.fresh hD
  have nD : ∀ b u, s.heap.get? b = some u → b ≠ D := fun b u e => Nat.ne_of_lt (Nat.lt_of_lt_of_le (Heap.lt_size e) hD)
  have ni : ∀ b, b ∉ [it] → b ≠ it := fun b z e => z (by simp [e])
  refine I.step (g' := s.gens) (d' := s.drawn) (ch := [it]) (fun b hb => ?_) (fun b u _ _ hc e _ => k b u (ni b hc) e) (fun b u _ _ hc e _ => ⟨u.slots, k b u (ni b hc) e⟩)
    (fun b u _ e n => by rw [upd_ne (nD b u e)]; exact n) (fun b u hc e => ⟨u, k b u (ni b hc) e⟩) (fun b xs e => by rw [upd_ne (ne_of_none e fr)]; exact e)
    (fun b u v e => by rw [upd_ne (ne_of_none e fr)]; exact e) (fun b ps e => ⟨#[], by rw [upd_ne (ne_of_none e fr), e]; simp⟩) (fun m hm => ?_) (fun b u e => ?_) I.bare
  · rw [List.mem_singleton.mp hb]
    exact ⟨f3, f1, f4, f5⟩
  · obtain ⟨ob, es, ep, ho, r⟩ := hm
    exact ⟨ob, es, ep, k _ ob (Ne.symm f1) ho, r⟩
  · by_cases hb : b = D
    · subst hb
      rw [upd_same] at e
      cases e
      exact new
    · rw [upd_ne hb] at e
      refine (I.hok b u e).stay (fun c v hc q => k c v (fun z => ?_) q) (fun c q => by rw [upd_ne (ne_of_none q fr)]; exact q) fun c xs q => by rw [upd_ne (ne_of_none q fr)]; exact q
      rcases hc with hc | hc
      · rw [← hc, z, f0] at e
        cases e
      · rw [z, f0] at hc
        cases hc
/-- list(reversed(x)), x a list -/
def tLstRev (K : PySem.W.Frag) (te : TE) : TE := fun σ H Q => te σ H fun v H1 => ∃ (a : Addr) (xs : List V), v = .ref a ∧ SqL K H1 a xs ∧ ∀ q, H1 q = none → Q (.ref q) (upd H1 q (.lst xs.reverse))
theorem pe_lstRev {X : Cx} {e : Expr} {te : TE} {p p2 pos pos2 : Pos} (hc : X.calm = true) (g1 : Gl X "list") (m1 : X.mg "list" = none) (g2 : Gl X "reversed") (m2 : X.mg "reversed" = none) (he : PE X e te)
    (s1 : starEach [e] X.env = (false, eval e X.env) :: starEach [] X.env := by rfl)
    (s2 : starEach [.Call (.Name "reversed" p2) [e] [] pos2] X.env = (false, eval (.Call (.Name "reversed" p2) [e] [] pos2) X.env) :: starEach [] X.env := by rfl) :
    PE X (.Call (.Name "list" p) [.Call (.Name "reversed" p2) [e] [] pos2] [] pos) (tLstRev X.K te) := by
  refine ⟨fun pins s σ H Q I h => ?_⟩
  refine Call_ (ld_blt I g1 m1 boot_list (PyProof.Rows.callWith_type1 (args_cons (Call_ (ld_blt I g2 m2 PyProof.Rows.boot_reversed
    (PyProof.Rows.callWith_type1 (args_cons (thn (he.run pins s σ H _ I h) fun u s' ⟨v, H', I', rv, hq⟩ => args_nil ?_) s1) s1 rfl))) s2) s2 rfl))
  obtain ⟨a, xs, ev, sq, q⟩ := hq
  subst ev
  obtain rfl : u = Value.ref a := rv
  obtain ⟨its, rx, pl, fit⟩ := I'.list sq
  refine call_reversed_list pl.isList (args_nil ?_)
  have J : Inv X pins σ H' { s' with heap := s'.heap.push (revObj a ((its.toArray.size : Int) - 1)) } := I'.kept (t' := s'.toks) fun b o z => Heap.get?_push_of_some _ z
  obtain ⟨f0, f1, f2, f3, f4, f5⟩ := I'.fpOk (H' := H') (b := s'.heap.objs.size) (Nat.le_refl _) (I'.hok.fresh (Nat.le_refl _))
  have il := pl.isList
  obtain ⟨ol, gol, _⟩ := id il
  have na : a ≠ s'.heap.objs.size := Nat.ne_of_lt (Heap.lt_size gol)
  have fit' : its.toArray.size ≤ sizeLine := by rw [List.size_toArray, ← rx.length]; exact fit
  refine k_list_rev (s := { s' with heap := s'.heap.push (revObj a ((its.toArray.size : Int) - 1)) }) (I'.ok.hd hc) ⟨_, Heap.get?_push_size _ rfl, rfl, rfl⟩ (il.push _) na fit' fun h' tk acc c k gD its' => ?_
  generalize hs2 : s'.heap.push (revObj a ((its.toArray.size : Int) - 1)) = hp2 at J k gD
  have sz : hp2.objs.size = s'.heap.objs.size + 1 := by rw [← hs2, Heap.size_push]
  have fr : H' hp2.objs.size = none := J.hok.fresh (Nat.le_refl _)
  refine ⟨.ref hp2.objs.size, upd H' hp2.objs.size (.lst xs.reverse), turn_lay (s := { s' with heap := hp2 }) (t' := tk) J k (Nat.le_refl _) ⟨f0, f1, f2, f3, f4, f5⟩ ?_, rfl, q _ fr⟩
  refine ⟨by rw [List.length_reverse]; exact fit, acc.toList, c, vals_rev rx its', ?_⟩
  rw [Array.toArray_toList]
  exact gD
end K9
set_option Elab.async false
set_option linter.all false
set_option maxRecDepth 100000
set_option maxHeartbeats 4000000
namespace K9
open PySem PySem.Spec PyProof.Rows L2
section
variable {X : Cx}
/-- t.count(k), t a tuple of ints -/
def rCntT (K : PySem.W.Frag) : V → List V → Hp → VK → Prop := fun x xs H Q => ∃ (p : Addr) (ns : List Int) (k : Int), x = .ref p ∧ xs = [.int k] ∧ SqT K H p (ns.map V.int) ∧ Q (.int (ns.count k : Nat)) H
theorem mt_tcount : MtR X "tuple.count" (rCntT X.K) := by
  intro pins s σ H x xs v us Q I rx rxs h
  obtain ⟨p, ns, k, rfl, rfl, hs, q⟩ := h
  cases rx
  obtain ⟨u, rfl, t, rfl⟩ := rxs.one
  obtain ⟨its, rv, ⟨⟨cls, dd, data, sl⟩, ho, hc, n, hd⟩, fit⟩ := I.tuple hs
  simp only at hc hd
  subst hc hd
  have hi := ints_of_vals rv
  have ec : its.toArray.toList.countP (eqk k) = ns.count k := eqk_count hi
  refine call_meets PySem.F.slot_tuple_count ⟨_, ho, rfl⟩ PySem.F.entry_tuple_count (PySem.F.args_tuple_count_2 _ _)
    (SeqAt.tuple_countAt p its.toArray n dd sl (.int k t) (eqk k)) ⟨ho, fun y hy => (eqk_gives hi y (by simpa using hy)).at _ _, .int (ns.count k : Nat), H, I.tok _, ⟨s.toks, ?_⟩, q⟩
  rw [ec]
/-- t * 1: the tuple itself -/
theorem mul_one_tup (l : Addr) (items : Array Value) (n : Nat) (dd : Option Addr) (sl : Array (Option Value)) (u : Tok) :
    Meets (Builtin.«tuple.__mul__» ⟨[.ref l, .int 1 u], []⟩) (fun _ R s => s.heap.get? l = some { cls := .type "tuple", dict := dd, data := .seq items n, slots := sl } ∧ R (.ok (.ret (Value.ref l))) s) :=
  .of_wp fun prog w A R s h => by
    obtain ⟨hp, g, d, tk, os⟩ := s
    obtain ⟨hl, h⟩ := h
    have f1 := AutoSeq1.idx_int
    wp_walk using wpAny_loadPart' hl
    exact ⟨_, rfl, h⟩
/-- t * k, 1 ≤ k -/
def rRepA (K : PySem.W.Frag) : R2 := fun x y H Q => ∃ l k xs, x = .ref l ∧ y = .int k ∧ SqT K H l xs ∧ xs ≠ [] ∧ 1 ≤ k ∧ k ≤ 1000 ∧ xs.length ≤ 1000 ∧
  (k = 1 → Q (.ref l) H) ∧ (k ≠ 1 → ∀ p, H p = none → Q (.ref p) (upd H p (.tup (List.replicate k.toNat xs).flatten)))
theorem op_repA : OpR X (binaryOp .Mult) (rRepA X.K) := by
  intro pins s σ H x y v u Q I rx ry h
  obtain ⟨l, k, xs, rfl, rfl, hT, hne, h1, h2, hz, q1, q2⟩ := h
  by_cases hk : k = 1
  · subst hk
    cases rx
    obtain ⟨t, rfl⟩ := ry
    obtain ⟨its, r, ⟨⟨cls, dd, data, sl⟩, ho, hc, n, hd⟩, hs⟩ := I.tuple hT
    simp only at hc hd
    subst hc hd
    exact wpAny_binaryOp_repeat_ref (T := "tuple") (U := "int") (by decide) ⟨_, ho, rfl⟩ (fun s' => typeIs_int s' 1 t) noFill_tuple_mul F.fills_int_mul F.slot_int_rmul repeat_tuple F.slot_int_index.lookup
      (call_meets F.slot_int_rmul (typeIs_int s 1 t) F.entry_int_rmul (F.args_int_rmul_2 _ _) (int_rmul_tuple 1 t l its.toArray n dd sl)
        ⟨ho, rfl, ⟨_, ho, rfl⟩, call_meets F.slot_tuple_mul ⟨_, ho, rfl⟩ F.entry_tuple_mul (F.args_tuple_mul_2 _ _) (mul_one_tup l its.toArray n dd sl t) ⟨ho, .ref l, H, I, rfl, q1 rfl⟩⟩)
  · exact op_repT pins s σ H _ _ v u Q I rx ry ⟨l, k, xs, rfl, rfl, hT, hne, by omega, h2, hz, q2 hk⟩
end
end K9
set_option Elab.async false
set_option linter.all false
set_option maxRecDepth 100000
set_option maxHeartbeats 4000000
namespace K9
open PySem PySem.Spec PyProof.Rows L2
/-! ### tuples that are known to the object: they have no dict, so their methods can be called -/
def XT (ys : List V) (u : HO) : Prop := ∃ o : Obj, o.dict = none ∧ u = .frz o (.tup ys)
section
variable {X : Cx}
/-- tuple(l), l a list: the new one known to the object -/
theorem call_tupleX : CallR X (.type "tuple") (fun xs H Q => ∃ p ys, xs = [.ref p] ∧ SqL X.K H p ys ∧ ∀ l u, H l = none → XT ys u → Q (.ref l) (upd H l u)) := by
  intro pins s σ H xs us Q I r h
  obtain ⟨p, ys, rfl, hq, q⟩ := h
  obtain ⟨u, rfl, rx⟩ := Vals.one r
  cases rx
  obtain ⟨its, r', pl, hz⟩ := I.list hq
  have hlen := r'.length
  refine call_tuple_list pl.isList (fun h' kp => ?_) (by simp only [List.size_toArray] <;> omega)
  have I1 : Inv X pins σ H { s with heap := h' } := I.kept (t' := s.toks) kp
  have J := I1.laid (t' := s.toks) (a := h'.objs.size) (o := .frz { cls := .type "tuple", data := .seq its.toArray } (.tup ys)) (h' := h'.push { cls := .type "tuple", data := .seq its.toArray })
    (fun b o e => Heap.get?_push_of_some _ e) (Nat.le_refl _) ⟨Heap.get?_push_size _ rfl, hz, its, r', IsTup.new _ _⟩
  exact ⟨.ref h'.objs.size, _, J, rfl, q _ _ (I1.hok.fresh (Nat.le_refl _)) ⟨_, rfl, rfl⟩⟩
/-- tuple(range(..)), known to the object -/
def tTupRgX (te : L2.St → Hp → (Int → Int → Hp → Prop) → Prop) : TE := fun σ H Q => te σ H fun a b H1 => RgOk a b ∧ ∀ l u, H1 l = none → XT (rgV a b) u → Q (.ref l) (upd H1 l u)
theorem pe_tupRgX {e : Expr} {te : L2.St → Hp → (Int → Int → Hp → Prop) → Prop} {p pos : Pos} (calm : X.calm = true) (hg : Gl X "tuple") (hm : X.mg "tuple" = none) (he : PRg X e te)
    (na : starEach [e] X.env = (false, eval e X.env) :: starEach [] X.env := by rfl) : PE X (.Call (.Name "tuple" p) [e] [] pos) (tTupRgX te) := by
  refine ⟨fun pins s σ H Q I h => ?_⟩
  refine Call_ (ld_blt I hg hm boot_tuple (PyProof.Rows.callWith_type1 (args_cons (thn (he pins s σ H _ I h) fun x s1 ⟨r, a, b, t, u, v, H1, ex, hr, I1, ok, q⟩ => args_nil ?_) na) na))
  subst ex
  obtain ⟨b1, b2, b3, b4, b5⟩ := ok
  refine call_tuple_range (n := (b - a).toNat) (I1.ok.hd calm) hr (small_one b1 b2 b3 b4) (rangeSize_nat a b) b5 fun h' tk acc hk hi => ?_
  have I2 : Inv X pins σ H1 { s1 with heap := h', toks := tk } := I1.kept hk
  have J := I2.laid (t' := tk) (a := h'.objs.size) (o := .frz { cls := .type "tuple", data := .seq acc } (.tup (rgV a b))) (h' := h'.push { cls := .type "tuple", data := .seq acc })
    (fun c o e => Heap.get?_push_of_some _ e) (Nat.le_refl _) ⟨Heap.get?_push_size _ rfl, by rw [rgV_length, sizeLine_eq]; omega, acc.toList, vals_rg hi, by rw [Array.toArray_toList]; exact IsTup.new _ _⟩
  exact ⟨.ref h'.objs.size, _, J, rfl, q _ _ (I2.hok.fresh (Nat.le_refl _)) ⟨_, rfl, rfl⟩⟩
/-- t.count(e), t such a tuple of ints -/
def tCnt (K : PySem.W.Frag) (to : TE) (t : TA) : TE := fun σ H Q => to σ H fun x H1 => (∃ (p : Addr) (ys : List V) (u : HO), x = .ref p ∧ H1 p = some u ∧ XT ys u) ∧ t σ H1 fun xs H2 => rCntT K x xs H2 Q
theorem pe_cnt {o e : Expr} {es : List Expr} {to : TE} {t : TA} {apos cpos : Pos} (ho : PE X o to) (ha : PA X (e :: es) t)
    (hbase : attributeBase o "count" X.env (eval o X.env) = eval o X.env := by rfl)
    (hfew : ((backTo cpos (starEach (e :: es) X.env)).all (fun x => !x.1) && (backToKw cpos (keywordEach [] X.env)).all (fun x => x.1.isSome)
      && decide ((e :: es).length + ([] : List Keyword).length + (if ([] : List Keyword).isEmpty then 0 else 1) < 30)) = true := by rfl)
    (hline : (apos.endLine == cpos.line) = true := by rfl) (hs : starEach (e :: es) X.env = (false, eval e X.env) :: starEach es X.env := by rfl) (hplain : (backTo cpos (starEach es X.env)).any (·.1) = false := by rfl) :
    PE X (.Call (.Attribute o "count" apos) (e :: es) [] cpos) (tCnt X.K to t) := by
  refine ⟨fun pins s σ H Q I h => ?_⟩
  refine wpAny_Call_method_late hbase hfew hline rfl (thn (ho.run pins s σ H _ I h) fun v s1 ⟨x, H1, I1, r1, ty, q1⟩ => ?_)
  obtain ⟨p, ys, u, rfl, hp, ob, hd, rfl⟩ := ty
  obtain rfl : v = Value.ref p := r1
  obtain ⟨hget, _, its, _, tup⟩ := (show ObjOk X.prog X.w H1 s1.heap p (.frz ob (.tup ys)) from I1.hok p _ hp)
  refine ⟨"tuple", "tuple.count", PySem.F.plainAttrs_tuple, PySem.F.slot_tuple_count, PySem.F.type_tuple_count, tup.typeIs, fun a z => ?_, ?_⟩
  · cases z
    exact ⟨ob, hget, hd⟩
  have hA := ha.run cpos pins s1 σ H1 _ I1 q1
  rw [hs] at hA ⊢
  refine Calls.callWith_builtin (by show (false || (backTo cpos (starEach es X.env)).any (·.1)) = false; rw [hplain] <;> rfl) (Calls.evalArgs_plain ?_)
  exact thn hA fun us s2 ⟨vs, H2, I2, r2, q2⟩ => mt_tcount pins s2 σ H2 (.ref p) vs _ us Q I2 rfl r2 q2
end
end K9
set_option Elab.async false
set_option linter.all false
set_option maxRecDepth 100000
set_option maxHeartbeats 4000000
namespace K9
open PySem PySem.Spec PyProof.Rows L2 L2H
/-- isinstance(e, D2), e the exception in hand, within a def that was called with it -/
theorem call_isHot {X : Cx} {a D : Addr} {oe : Obj} (hp : (a, oe) ∈ X.pn) (C : ExcC X.K D) (hz : Zc (.ref D) none oe) (hf : ∃ vs, oe.data = .fields vs) : CallR X (.builtin "isinstance") (rIsE X.K D a) := by
  intro pins s σ H xs us Q I r h
  obtain ⟨c, cv, b, rfl, hcv, e, q⟩ := h
  obtain ⟨u1, u2, rfl, r1, r2⟩ := vals2 r
  cases (show u1 = Value.ref a from r1)
  obtain rfl := hcv _ r2
  have got := (I.pin (a, oe) (List.mem_append_left _ hp)).1
  obtain ⟨vs, hv⟩ := hf
  have J : PySem.W.InstAt s.heap a oe D none := by
    obtain ⟨oc, od, oda, osl⟩ := oe
    obtain ⟨z1, z2⟩ := hz
    simp only at z1 z2 hv
    subst z1 z2 hv
    exact ⟨got, rfl, rfl, trivial⟩
  exact PySem.W.kia_one (PySem.W.handS_kitx_exc C.hg C.hk C.hs C.hd C.ha C.hn C.ht C.hm) I.kIn J e (fun z => nomatch z) fun tk => ⟨.bl b, H, I.kept (t' := tk) fun _ _ z => z, rfl, q⟩
/-- in the suite of «except .. as e»: f(e), f a def of the text that raises nothing; its body is read with e's object in hand -/
theorem pe_hot {X : Cx} {a f : Addr} {oe : Obj} {pn : List (Addr × Obj)} {x e y : Str} {st : Stmt} {fd : FuncData} {N : List Str} {j : Nat} {R : VK → Hp → Prop} {q p2 pos : Pos}
    (F : L2.Fun X.K x x st f fd) (S : FnScope N [y] (defScope st)) (dp : X.A.depth < recursionLimit) (hg : Gl (X.suite a ((a, oe) :: pn)) x) (hm : X.mg x = some (.ref f)) (hb : Binds X.K fd [y] [])
    (ha : PA (X.suite a ((a, oe) :: pn)) [.Name e p2] (tCons (tVar j) tNil))
    (body : ∀ (cdv : Value) (A : Around) (outer : List Env) (s : Shared) (H : Hp) (Q : VK), R Q H →
      ∃ t, PSs (cxH L2.CX0 X.prog X.w X.K X.mg X.base N x (defScope st) f cdv A outer s H L2.E0 (a, oe)) (defBody st) t ∧ t { nx := fun _ H' => Q .non H', rt := Q } (start N [.ref a]) H)
    (hdb : (x == ("__debug__" : Str)) = false := by decide)
    (he : starEach (.Name e p2 :: []) X.env = (false, eval (.Name e p2) X.env) :: starEach [] X.env := by rfl)
    (hpl : (backTo pos (starEach [] X.env)).any (·.1) = false := by rfl) :
    PE (X.suite a ((a, oe) :: pn)) (.Call (.Name x q) [.Name e p2] [] pos) (fun σ H Q => σ[j]? = some (some (.ref a)) ∧ R Q H) := by
  refine ⟨fun pins s σ H Q I h => ?_⟩
  obtain ⟨hj, hR⟩ := h
  refine wpAny_Call_Name_kw (ld_glob I hg hm ?_ hdb)
  have arg : tCons (tVar j) tNil σ H fun vs H1 => vs = [.ref a] ∧ H1 = H := ⟨_, hj, rfl, rfl⟩
  refine PySem.W.callWith_K (h₀ := X.base) I.ok.mod.kin F.kp (thn (ha.run pos pins s σ H _ I arg) fun us s1 got => ?_) he hpl
  obtain ⟨vs, H1, I1, rv, ev, eH⟩ := got
  subst ev eH
  refine ⟨I1.kIn, ?_⟩
  obtain ⟨u, rfl, ru⟩ := rv.one
  obtain rfl : u = Value.ref a := ru
  obtain ⟨oc, od, kV, doc, pm, an, cdv, ct, osl, rfl, lk, hcd⟩ := F.ex
  have pin := I1.pin (a, oe) (List.mem_append_left _ List.mem_cons_self)
  have hpin : PinOk (X.suite a ((a, oe) :: pn)).stack H1 s1 (a, oe) := ⟨pin.1, pin.2.1, fun z => Or.elim (List.mem_cons.mp (I1.stkSub a z)) pin.2.2.1 pin.2.2.2.1, pin.2.2.2.2⟩
  have e0 := I1.env0
  have KX : X.K.In s1.heap := I1.kIn
  have lim := I1.nolimit
  have bt := hb s1 [Value.ref a] I1.kIn rfl
  rw [List.append_nil] at bt
  have kinds : ∀ z ∈ [y].zip [Value.ref a], (defScope st).names.lookup z.1 = some .local ∨ ((defScope st).names.lookup z.1 = some .cell ∧ ((cellsFrom (s1.heap.objs.size + 1) (defScope st).names []).lookup z.1).isSome = true) := by
    intro z hz
    have ez : z = (y, Value.ref a) := by simpa using hz
    rcases S.par y (by simp) with k | k
    · exact .inl (by rw [ez]; exact k)
    · exact .inr (by rw [ez]; exact ⟨k, PySem.W.cellsFrom_some _ _ _ (.inl k)⟩)
  refine wpAny_call (codeAny_mono (R := fun r s' => match r with | .ok (.ret u) => CE (X.suite a ((a, oe) :: pn)).stack X.prog X.w H1 s1 Q u s' | _ => False) ?_ fun r s' hr => ?_)
  · refine codeAny_call_function dp (KX _ _ lk) rfl S.co S.gen rfl (PySem.W.codeRec_of KX hcd) (bt _ _ _ _ ?_)
    refine wpAny_newFunctionEnv_cells S.kind kinds fun env hE s2 cl => ?_
    subst hE
    refine ⟨lim.keeps cl.toInCall.keep, codeAny_func ?_⟩
    obtain ⟨t, ht, hq⟩ := body cdv (X.A.mark (some (.ref a))) (X.suite a ((a, oe) :: pn)).stack s1 H1 Q hR
    have J := inv_startH (CX := L2.CX0) (E := L2.E0) (qual := x) (f := f) (cd := cdv) S hpin e0 (vs := [V.ref a]) rfl (.cons rfl .nil) cl
    refine wpAny_mono (ht.run [] s2 _ H1 _ J hq) (fun fl s' hs => ?_) fun er s' hs => ?_
    · have fin : ∀ {σ' : L2.St} {H' : Hp} {v : V} {u : Value}, Inv (cxH L2.CX0 X.prog X.w X.K X.mg X.base N x (defScope st) f cdv (X.A.mark (some (.ref a))) (X.suite a ((a, oe) :: pn)).stack s1 H1 L2.E0 (a, oe)) [] σ' H' s' →
          RelV v u → Q v H' → CE (X.suite a ((a, oe) :: pn)).stack X.prog X.w H1 s1 Q u s' := fun {σ' H' v u} J r q => ⟨v, H', J.os, J.bare, J.base, J.hok, r, q⟩
      cases fl with
      | ret u =>
        obtain ⟨v, σ', H', J', r, q⟩ := hs
        exact fin J' r q
      | next =>
        obtain ⟨σ', H', J', q⟩ := hs
        exact fin (v := V.non) (u := Value.none) J' rfl q
      | brk =>
        obtain ⟨_, _, _, q⟩ := hs
        exact False.elim q
      | cont =>
        obtain ⟨_, _, _, q⟩ := hs
        exact False.elim q
    · exact hs
  · cases r with
    | error e => exact False.elim hr
    | ok fl =>
      cases fl with
      | ret u => exact I1.after hr
      | next => exact False.elim hr
      | brk => exact False.elim hr
      | cont => exact False.elim hr
end K9
set_option Elab.async false
set_option linter.all false
set_option maxRecDepth 100000
set_option maxHeartbeats 4000000
namespace K9
open PySem PySem.Spec PyProof.Rows L2
/-! ### the text by places -/
def topS (i : Nat) : Stmt := PySem.Challenge.pw_jointhands_k09_talk_for.main.body.getD i (.Pass ⟨0, 0, 0, 0⟩)
abbrev s_is_integer : Stmt := topS 12
theorem sc_is_integer : FnScope ["value"] ["value"] (defScope s_is_integer) := ⟨rfl, rfl, rfl, by decide +kernel, rfl, by decide +kernel, by decide +kernel⟩
abbrev s_is_listed : Stmt := topS 13
theorem sc_is_listed : FnScope ["values", "value"] ["values"] (defScope s_is_listed) := ⟨rfl, rfl, rfl, by decide +kernel, rfl, by decide +kernel, by decide +kernel⟩
abbrev s_check_table : Stmt := topS 16
theorem sc_check_table : FnScope ["table", "row"] ["table"] (defScope s_check_table) := ⟨rfl, rfl, rfl, by decide +kernel, rfl, by decide +kernel, by decide +kernel⟩
abbrev s_bundles_of : Stmt := topS 18
theorem sc_bundles_of : FnScope ["lines", "found", "left", "bundle", "waiting", "one", "tied", "other"] ["lines"] (defScope s_bundles_of) := ⟨rfl, rfl, rfl, by decide +kernel, rfl, by decide +kernel, by decide +kernel⟩
abbrev s_are_tied : Stmt := topS 19
theorem sc_are_tied : FnScope ["first", "second", "one", "other"] ["first", "second"] (defScope s_are_tied) := ⟨rfl, rfl, rfl, by decide +kernel, rfl, by decide +kernel, by decide +kernel⟩
abbrev s_Part_init : Stmt := inClass (topS 20) 0
theorem sc_Part_init : FnScope ["self", "table", "rows", "columns"] ["self", "table", "rows", "columns"] (defScope s_Part_init) := ⟨rfl, rfl, rfl, by decide +kernel, rfl, by decide +kernel, by decide +kernel⟩
abbrev s_Part_is_even : Stmt := inClass (topS 20) 1
theorem sc_Part_is_even : FnScope ["self", "first", "x", "y"] ["self"] (defScope s_Part_is_even) := ⟨rfl, rfl, rfl, by decide +kernel, rfl, by decide +kernel, by decide +kernel⟩
abbrev s_Part_row_bundles : Stmt := inClass (topS 20) 2
theorem sc_Part_row_bundles : FnScope ["self", "lines", "x", "bundle", "y", "one"] ["self"] (defScope s_Part_row_bundles) := ⟨rfl, rfl, rfl, by decide +kernel, rfl, by decide +kernel, by decide +kernel⟩
abbrev s_Part_column_bundles : Stmt := inClass (topS 20) 3
theorem sc_Part_column_bundles : FnScope ["self", "lines", "y", "bundle", "x", "one"] ["self"] (defScope s_Part_column_bundles) := ⟨rfl, rfl, rfl, by decide +kernel, rfl, by decide +kernel, by decide +kernel⟩
abbrev s_Part_cut : Stmt := inClass (topS 20) 4
theorem sc_Part_cut : FnScope ["self", "bundles", "bundle"] ["self"] (defScope s_Part_cut) := ⟨rfl, rfl, rfl, by decide +kernel, rfl, by decide +kernel, by decide +kernel⟩
abbrev s_whole : Stmt := topS 21
theorem sc_whole : FnScope ["table"] ["table"] (defScope s_whole) := ⟨rfl, rfl, rfl, by decide +kernel, rfl, by decide +kernel, by decide +kernel⟩
abbrev s_knot_of : Stmt := topS 22
theorem sc_knot_of : FnScope ["table", "waiting", "part", "side", "bundles", "parts"] ["table"] (defScope s_knot_of) := ⟨rfl, rfl, rfl, by decide +kernel, rfl, by decide +kernel, by decide +kernel⟩
abbrev s_bits_inside : Stmt := topS 23
theorem sc_bits_inside : FnScope ["many", "inside", "one"] ["many", "inside"] (defScope s_bits_inside) := ⟨rfl, rfl, rfl, by decide +kernel, rfl, by decide +kernel, by decide +kernel⟩
abbrev s_tree_for : Stmt := topS 24
theorem sc_tree_for : FnScope ["part", "many", "side", "bundles", "parts", "answer", "tree", "k"] ["part"] (defScope s_tree_for) := ⟨rfl, rfl, rfl, by decide +kernel, rfl, by decide +kernel, by decide +kernel⟩
abbrev s_talk_for : Stmt := topS 25
theorem sc_talk_for : FnScope ["table"] ["table"] (defScope s_talk_for) := ⟨rfl, rfl, rfl, by decide +kernel, rfl, by decide +kernel, by decide +kernel⟩
abbrev s_last_part : Stmt := topS 26
theorem sc_last_part : FnScope ["table", "inputs", "part", "side", "bundles", "parts", "bundle", "one"] ["table", "inputs"] (defScope s_last_part) := ⟨rfl, rfl, rfl, by decide +kernel, rfl, by decide +kernel, by decide +kernel⟩
abbrev s_Ldraws : Stmt := topS 28
theorem sc_Ldraws : FnScope ["_law_script", "_law_many", "_law_rests", "_law_draws_here", "_law_k", "_law_cell", "_law_at", "_law_mixed"] ["_law_script", "_law_many"] (defScope s_Ldraws) := ⟨rfl, rfl, rfl, by decide +kernel, rfl, by decide +kernel, by decide +kernel⟩
abbrev s_Ltake : Stmt := topS 29
theorem sc_Ltake : FnScope ["_law_hand", "_law_many", "_law_at", "_law_draws_here"] ["_law_hand", "_law_many"] (defScope s_Ltake) := ⟨rfl, rfl, rfl, by decide +kernel, rfl, by decide +kernel, by decide +kernel⟩
abbrev s_Lanswer : Stmt := topS 30
theorem sc_Lanswer : FnScope ["_law_table", "_law_side", "_law_mine", "_law_other"] ["_law_table", "_law_side", "_law_mine", "_law_other"] (defScope s_Lanswer) := ⟨rfl, rfl, rfl, by decide +kernel, rfl, by decide +kernel, by decide +kernel⟩
abbrev s_Lsame : Stmt := topS 31
theorem sc_Lsame : FnScope ["_law_told_here", "_law_due", "_law_k"] ["_law_told_here", "_law_due"] (defScope s_Lsame) := ⟨rfl, rfl, rfl, by decide +kernel, rfl, by decide +kernel, by decide +kernel⟩
abbrev s_Lties : Stmt := topS 32
theorem sc_Lties : FnScope ["_law_table", "_law_side", "_law_line", "_law_bundle", "_law_cross", "_law_other", "_law_place"] ["_law_table", "_law_side", "_law_line", "_law_bundle", "_law_cross"] (defScope s_Lties) := ⟨rfl, rfl, rfl, by decide +kernel, rfl, by decide +kernel, by decide +kernel⟩
abbrev s_Lbundles : Stmt := topS 33
theorem sc_Lbundles : FnScope ["_law_table", "_law_side", "_law_lines", "_law_cross", "_law_left", "_law_bundles_here", "_law_k", "_law_bundle", "_law_turn", "_law_more", "_law_line"] ["_law_table", "_law_side", "_law_lines", "_law_cross"] (defScope s_Lbundles) := ⟨rfl, rfl, rfl, by decide +kernel, rfl, by decide +kernel, by decide +kernel⟩
abbrev s_Lis_even : Stmt := topS 34
theorem sc_Lis_even : FnScope ["_law_table", "_law_rows", "_law_columns", "_law_x", "_law_y"] ["_law_table", "_law_rows", "_law_columns"] (defScope s_Lis_even) := ⟨rfl, rfl, rfl, by decide +kernel, rfl, by decide +kernel, by decide +kernel⟩
abbrev s_Lparts : Stmt := topS 35
theorem sc_Lparts : FnScope ["_law_table", "_law_rows", "_law_columns", "_law_found", "_law_bundles_here", "_law_bundle"] ["_law_table", "_law_rows", "_law_columns"] (defScope s_Lparts) := ⟨rfl, rfl, rfl, by decide +kernel, rfl, by decide +kernel, by decide +kernel⟩
abbrev s_Lwhole_parts : Stmt := topS 36
theorem sc_Lwhole_parts : FnScope ["_law_table"] ["_law_table"] (defScope s_Lwhole_parts) := ⟨rfl, rfl, rfl, by decide +kernel, rfl, by decide +kernel, by decide +kernel⟩
abbrev s_Lknot : Stmt := topS 37
theorem sc_Lknot : FnScope ["_law_table", "_law_knots", "_law_part"] ["_law_table"] (defScope s_Lknot) := ⟨rfl, rfl, rfl, by decide +kernel, rfl, by decide +kernel, by decide +kernel⟩
abbrev s_Lfilled : Stmt := topS 38
theorem sc_Lfilled : FnScope ["_law_cells", "_law_hand", "_law_rows", "_law_columns", "_law_side", "_law_deep", "_law_lines", "_law_marks", "_law_one", "_law_two", "_law_some", "_law_used", "_law_value", "_law_k", "_law_x", "_law_y", "_law_line", "_law_place"] ["_law_cells", "_law_hand", "_law_rows", "_law_columns", "_law_side", "_law_deep"] (defScope s_Lfilled) := ⟨rfl, rfl, rfl, by decide +kernel, rfl, by decide +kernel, by decide +kernel⟩
abbrev s_Lapart : Stmt := topS 39
theorem sc_Lapart : FnScope ["_law_hand", "_law_rows", "_law_columns", "_law_cells", "_law_step", "_law_base", "_law_x", "_law_y"] ["_law_hand", "_law_rows", "_law_columns"] (defScope s_Lapart) := ⟨rfl, rfl, rfl, by decide +kernel, rfl, by decide +kernel, by decide +kernel⟩
abbrev s_Ltouched : Stmt := topS 40
theorem sc_Ltouched : FnScope ["_law_hand", "_law_table", "_law_x", "_law_y", "_law_value", "_law_row"] ["_law_hand", "_law_table"] (defScope s_Ltouched) := ⟨rfl, rfl, rfl, by decide +kernel, rfl, by decide +kernel, by decide +kernel⟩
abbrev s_Ldrawn : Stmt := topS 41
theorem sc_Ldrawn : FnScope ["_law_hand", "_law_rows", "_law_columns", "_law_kind", "_law_answers", "_law_table", "_law_x", "_law_y"] ["_law_hand", "_law_rows", "_law_columns"] (defScope s_Ldrawn) := ⟨rfl, rfl, rfl, by decide +kernel, rfl, by decide +kernel, by decide +kernel⟩
abbrev s_Ltree_for : Stmt := topS 42
theorem sc_Ltree_for : FnScope ["_law_table", "_law_rows", "_law_columns", "_law_sizes", "_law_answer_here", "_law_side", "_law_bundles_here", "_law_trees", "_law_bundle", "_law_tree", "_law_k", "_law_bits", "_law_z", "_law_x", "_law_y"] ["_law_table", "_law_rows", "_law_columns"] (defScope s_Ltree_for) := ⟨rfl, rfl, rfl, by decide +kernel, rfl, by decide +kernel, by decide +kernel⟩
abbrev s_Ltalk_for : Stmt := topS 43
theorem sc_Ltalk_for : FnScope ["_law_table"] ["_law_table"] (defScope s_Ltalk_for) := ⟨rfl, rfl, rfl, by decide +kernel, rfl, by decide +kernel, by decide +kernel⟩
abbrev s_Lno_table : Stmt := topS 44
theorem sc_Lno_table : FnScope ["_law_hand", "_law_table", "_law_wide", "_law_rows", "_law_at", "_law_menu", "_law_kind"] ["_law_hand", "_law_table"] (defScope s_Lno_table) := ⟨rfl, rfl, rfl, by decide +kernel, rfl, by decide +kernel, by decide +kernel⟩
abbrev s_Llong : Stmt := topS 45
theorem sc_Llong : FnScope ["_law_hand", "_law_many", "_law_rows", "_law_at", "_law_to", "_law_k", "_law_y", "_law_row"] ["_law_hand"] (defScope s_Llong) := ⟨rfl, rfl, rfl, by decide +kernel, rfl, by decide +kernel, by decide +kernel⟩
abbrev s_Lis_alone : Stmt := topS 46
theorem sc_Lis_alone : FnScope ["_law_e", "_law_kinds"] ["_law_e"] (defScope s_Lis_alone) := ⟨rfl, rfl, rfl, by decide +kernel, rfl, by decide +kernel, by decide +kernel⟩
abbrev s_Lis_refused : Stmt := topS 47
theorem sc_Lis_refused : FnScope ["_law_value", "_law_inputs", "_law_step", "_law_e"] ["_law_value", "_law_inputs"] (defScope s_Lis_refused) := ⟨rfl, rfl, rfl, by decide +kernel, rfl, by decide +kernel, by decide +kernel⟩
abbrev s_Ltold : Stmt := topS 48
theorem sc_Ltold : FnScope ["_law_hand", "_law_table", "_law_inputs", "_law_parts_here", "_law_part"] ["_law_hand", "_law_table"] (defScope s_Ltold) := ⟨rfl, rfl, rfl, by decide +kernel, rfl, by decide +kernel, by decide +kernel⟩
abbrev s_Lasked : Stmt := topS 49
theorem sc_Lasked : FnScope ["_law_hand", "_law_turn", "_law_table"] ["_law_hand"] (defScope s_Lasked) := ⟨rfl, rfl, rfl, by decide +kernel, rfl, by decide +kernel, by decide +kernel⟩
abbrev s_law : Stmt := topS 50
theorem sc_law : FnScope ["_law_script"] ["_law_script"] (defScope s_law) := ⟨rfl, rfl, rfl, by decide +kernel, rfl, by decide +kernel, by decide +kernel⟩
/-! ### what stands behind the top -/
/-- the built-in names that no name of the program covers -/
structure Bt (mg : Str → Option Value) : Prop where
  len : mg "len" = none
  range : mg "range" = none
  list : mg "list" = none
  tuple : mg "tuple" = none
  int : mg "int" = none
  bool : mg "bool" = none
  str : mg "str" = none
  isinstance : mg "isinstance" = none
  abs : mg "abs" = none
  sorted : mg "sorted" = none
  all : mg "all" = none
  reversed : mg "reversed" = none
  zip : mg "zip" = none
  most : ∃ u, mg "MOST_LINES" = some u ∧ RelV (V.int 100) u
/-- the error class BadTable -/
structure BadC (K : PySem.W.Frag) (mg : Str → Option Value) (C : Addr) : Prop where
  gC : mg "BadTable" = some (.ref C)
  ex : PySem.W.excIn K C [.type "ValueError", .type "Exception", .type "BaseException", .type "object"] "ValueError.__new__" = true
  kC : PySem.W.keepIn K (.ref C) = true
  sb : PySem.W.subIn K (.ref C) (.type "BaseException") = some true
  ty : PySem.W.typeIn K (.ref C) = some (.type "type")
  self : PySem.W.exmOne K (.ref C) (.ref C) = some true
/-- a def of the module under its name -/
def DefAt (K : PySem.W.Frag) (mg : Str → Option Value) (x : Str) (st : Stmt) (ps : List Str) : Prop :=
  ∃ f fd, L2.Fun K x x st f fd ∧ mg x = some (.ref f) ∧ Binds K fd ps []
/-- a method of the class at C -/
def MetAt (K : PySem.W.Frag) (C : Addr) (m qual : Str) (st : Stmt) (ps : List Str) : Prop :=
  ∃ f fd, L2.Fun K m qual st f fd ∧ Meth K C m f ∧ Binds K fd ps [] ∧ Cls K C
/-- a class and its __init__ -/
def MakAt (K : PySem.W.Frag) (mg : Str → Option Value) (x : Str) (C : Addr) (qual : Str) (st : Stmt) (ps : List Str) : Prop :=
  ∃ f fd, L2.Fun K "__init__" qual st f fd ∧ Mk K C f ∧ mg x = some (.ref C) ∧ Binds K fd ps []
section
variable {P : Program} {w : World} {K : PySem.W.Frag} {mg : Str → Option Value} {base : Heap} {x qual : Str} {st : Stmt} {N ps : List Str} {k : Nat} {sp : Sp} {C : Addr}
theorem DefAt.cal (D : DefAt K mg x st ps) (S : FnScope N ps (defScope st)) (len : ∀ vs H Q E, sp vs H Q E → vs.length = ps.length)
    (body : ∀ (f : Addr) (cdv : Value) (A : Around) (outer : List Env) (s : Shared) (H : Hp) (vs : List V) (Q : VK) (E : XK), Room k (A.deeper (envOfC x (defScope st) s.heap.objs.size f cdv)) → sp vs H Q E →
      ∃ t, PSs (cxOf L2.CX0 P w K mg base N x (defScope st) f cdv A outer s H E).nox (defBody st) t ∧ t { nx := fun _ H' => Q .non H', rt := Q } (start N vs) H) : C8.Cal P w K mg base (k + 1) x sp [] := by
  obtain ⟨f, fd, F, m, b⟩ := D
  exact ⟨f, fd, ps, [], F.ok S len (fun cdv A outer s H vs Q E hr h => body f cdv A outer s H vs Q E hr h), m, F.kp, b, .nil⟩
theorem MetAt.cal (D : MetAt K C x qual st ps) (S : FnScope N ps (defScope st)) (len : ∀ vs H Q E, sp vs H Q E → vs.length = ps.length)
    (body : ∀ (f : Addr) (cdv : Value) (A : Around) (outer : List Env) (s : Shared) (H : Hp) (vs : List V) (Q : VK) (E : XK), Room k (A.deeper (envOfC qual (defScope st) s.heap.objs.size f cdv)) → sp vs H Q E →
      ∃ t, PSs (cxOf L2.CX0 P w K mg base N qual (defScope st) f cdv A outer s H E).nox (defBody st) t ∧ t { nx := fun _ H' => Q .non H', rt := Q } (start N vs) H) : C8.Met P w K mg base (k + 1) C x sp [] := by
  obtain ⟨f, fd, F, m, b, c⟩ := D
  exact ⟨f, fd, ps, [], c, m, F.ok S len (fun cdv A outer s H vs Q E hr h => body f cdv A outer s H vs Q E hr h), b, .nil⟩
theorem MakAt.cal (D : MakAt K mg x C qual st ps) (S : FnScope N ps (defScope st)) (len : ∀ vs H Q E, sp vs H Q E → vs.length = ps.length)
    (body : ∀ (f : Addr) (cdv : Value) (A : Around) (outer : List Env) (s : Shared) (H : Hp) (vs : List V) (Q : VK) (E : XK), Room k (A.deeper (envOfC qual (defScope st) s.heap.objs.size f cdv)) → sp vs H Q E →
      ∃ t, PSs (cxOf L2.CX0 P w K mg base N qual (defScope st) f cdv A outer s H E).nox (defBody st) t ∧ t { nx := fun _ H' => Q .non H', rt := Q } (start N vs) H) : C8.Mak P w K mg base (k + 1) x C sp [] := by
  obtain ⟨f, fd, F, M, m, b⟩ := D
  exact ⟨f, fd, ps, [], M, F.ok S len (fun cdv A outer s H vs Q E hr h => body f cdv A outer s H vs Q E hr h), m, b, .nil⟩
/-- a def that may raise, under its name -/
def CalX (P : Program) (w : World) (K : PySem.W.Frag) (mg : Str → Option Value) (base : Heap) (k : Nat) (x : Str) (sp : Sp) : Prop :=
  ∃ f fd ps, FnOk P w K mg base (L2.CX P w) k f fd ps sp ∧ mg x = some (.ref f) ∧ PySem.W.keepIn K (.ref f) = true ∧ Binds K fd ps []
theorem DefAt.calX (D : DefAt K mg x st ps) (S : FnScope N ps (defScope st)) (len : ∀ vs H Q E, sp vs H Q E → vs.length = ps.length)
    (body : ∀ (f : Addr) (cdv : Value) (A : Around) (outer : List Env) (s : Shared) (H : Hp) (vs : List V) (Q : VK) (E : XK), Room k (A.deeper (envOfC x (defScope st) s.heap.objs.size f cdv)) → sp vs H Q E →
      ∃ t, PSs (cxOf (L2.CX P w) P w K mg base N x (defScope st) f cdv A outer s H E) (defBody st) t ∧ t { nx := fun _ H' => Q .non H', rt := Q } (start N vs) H) : CalX P w K mg base (k + 1) x sp := by
  obtain ⟨f, fd, F, m, b⟩ := D
  exact ⟨f, fd, ps, F.okX S len (fun cdv A outer s H vs Q E hr h => body f cdv A outer s H vs Q E hr h), m, F.kp, b⟩
end
section
variable {X : Cx} {k j : Nat} {x : Str} {sp : Sp} {e : Expr} {es : List Expr} {t : TA} {p pos : Pos}
/-- a call that may raise, what is raised is taken -/
theorem pe_cX {W : WX} (c : CalX X.prog X.w X.K X.mg X.base k x sp) (hr : Room j X.A) (hk : k ≤ j) (tk : Takes X W) (hg : Gl X x) (ha : PA X (e :: es) t) (hdb : (x == ("__debug__" : Str)) = false := by decide)
    (he : starEach (e :: es) X.env = (false, eval e X.env) :: starEach es X.env := by rfl) (hpl : (backTo pos (starEach es X.env)).any (·.1) = false := by rfl) :
    PE X (.Call (.Name x p) (e :: es) [] pos) (tCallS sp (WE W) t) := by
  obtain ⟨f, fd, ps, F, m, kp, b⟩ := c
  exact pe_callS F (hr.mono hk) hg m kp b (fun σ => passAt tk σ) ha hdb he hpl
/-- a call that may raise, where it doesn't -/
theorem pe_cN (c : CalX X.prog X.w X.K X.mg X.base k x sp) (hr : Room j X.A) (hk : k ≤ j) (hg : Gl X x) (ha : PA X (e :: es) t) (hdb : (x == ("__debug__" : Str)) = false := by decide)
    (he : starEach (e :: es) X.env = (false, eval e X.env) :: starEach es X.env := by rfl) (hpl : (backTo pos (starEach es X.env)).any (·.1) = false := by rfl) :
    PE X (.Call (.Name x p) (e :: es) [] pos) (tCallS sp (fun _ => L2.E0) t) := by
  obtain ⟨f, fd, ps, F, m, kp, b⟩ := c
  exact pe_callS F (hr.mono hk) hg m kp b (fun σ pins H s e s' I q => passL pins σ H s e s' I q) ha hdb he hpl
end
/-! ### rules with the written part named, for the blocks of comprehensions -/
section
variable (K : PySem.W.Frag) {X : Cx} {tg l e : Expr} {tl te : TE} {f : Str} {pos : Pos}
theorem ixL (h : X.K = K := by rfl) : IxR X (rIxL K) := by subst h; exact ix_list
theorem ixT (h : X.K = K := by rfl) : IxR X (rIxT K) := by subst h; exact ix_tup
theorem opIn (h : X.K = K := by rfl) : OpR X (compareOp .In) (rIn K false) := by subst h; exact op_in_seq
theorem opNotIn (h : X.K = K := by rfl) : OpR X (compareOp .NotIn) (rIn K true) := by subst h; exact op_notIn_seq
theorem fldK (he : PE X e te) (hb : attributeBase e f X.env (eval e X.env) = eval e X.env) (h : X.K = K := by rfl) : PE X (.Attribute e f pos) (tFld K te f) := by subst h; exact pe_fld he hb
theorem lenK (h : X.K = K := by rfl) : CallR X (.builtin "len") (fun xs H Q => ∃ p ys, xs = [.ref p] ∧ (SqL K H p ys ∨ SqT K H p ys) ∧ Q (.int ys.length) H) := by subst h; exact call_len_seq
theorem tupK (h : X.K = K := by rfl) : CallR X (.type "tuple") (fun xs H Q => ∃ p ys, xs = [.ref p] ∧ ((SqL K H p ys ∧ ∀ l, H l = none → Q (.ref l) (upd H l (.tup ys))) ∨ (SqT K H p ys ∧ Q (.ref p) H))) := by subst h; exact call_tuple_of
theorem piL (hl : PE X l tl) (h : X.K = K := by rfl) : PI X tg l (iList K tl) := by subst h; exact pi_list hl
theorem piT (hl : PE X l tl) (h : X.K = K := by rfl) : PI X tg l (iTup K tl) := by subst h; exact pi_tup hl
end
section
variable {P : Program} {w : World} {K : PySem.W.Frag} {mg : Str → Option Value} {base : Heap} {x : Str} {st : Stmt} {ps : List Str} {sp : Sp}
/-- nothing is asked of it -/
theorem DefAt.cal_no (D : DefAt K mg x st ps) (no : ∀ vs H Q E, ¬ sp vs H Q E) {k : Nat} : C8.Cal P w K mg base k x sp [] := by
  obtain ⟨f, fd, F, m, b⟩ := D
  exact ⟨f, fd, ps, [], ⟨fun vs H Q E h => absurd h (no vs H Q E), fun A outer s H args us vs Q E _ _ _ _ h => absurd h (no vs H Q E)⟩, m, F.kp, b, .nil⟩
end
end K9
set_option Elab.async false
set_option linter.all false
set_option maxRecDepth 100000
set_option maxHeartbeats 4000000
/-! What stands in memory: rows of numbers, tables, parts, trees. -/
namespace K9
open PySem PySem.Spec PyProof.Rows L2
abbrev vN (n : Nat) : V := .int (n : Int)
theorem same_new {H : Hp} {p : Addr} (h : H p = none) (o : HO) : Same H (upd H p o) := fun b u q => by rw [upd_ne (ne_of_none q h)]; exact q
theorem small {n : Nat} (h : n ≤ 1000) : n ≤ sizeLine := Nat.le_of_lt (small1000 h)
/-- a list, a tuple of numbers -/
def LN (H : Hp) (a : Addr) (L : List Nat) : Prop := H a = some (.lst (L.map vN))
def TP (H : Hp) (a : Addr) (L : List Nat) : Prop := H a = some (.tup (L.map vN))
/-- such a tuple that is known to the object -/
def TN (H : Hp) (a : Addr) (L : List Nat) : Prop := ∃ u, XT (L.map vN) u ∧ H a = some u
theorem LN.same {H H' : Hp} {a : Addr} {L : List Nat} (h : LN H a L) (s : Same H H') : LN H' a L := s _ _ h
theorem TN.same {H H' : Hp} {a : Addr} {L : List Nat} (h : TN H a L) (s : Same H H') : TN H' a L := by
  obtain ⟨u, x, h⟩ := h
  exact ⟨u, x, s _ _ h⟩
theorem TN.rd {H : Hp} {a : Addr} {L : List Nat} (h : TN H a L) : Rd H a (.tup (L.map vN)) := by
  obtain ⟨u, ⟨o, _, rfl⟩, h⟩ := h
  exact .inr ⟨o, h⟩
theorem TN.sq {K : PySem.W.Frag} {H : Hp} {a : Addr} {L : List Nat} (h : TN H a L) : SqT K H a (L.map vN) := .inl h.rd
theorem TN.ne {H : Hp} {a b : Addr} {L : List Nat} {xs : List V} (h : TN H a L) (e : H b = some (.lst xs)) : a ≠ b := by
  obtain ⟨u, ⟨o, _, rfl⟩, h⟩ := h
  exact ne_of h e (by intro z; cases z)
theorem TP.same {H H' : Hp} {a : Addr} {L : List Nat} (h : TP H a L) (s : Same H H') : TP H' a L := s _ _ h
/-- a table: a tuple of tuples of ints -/
def TabAt (H : Hp) (ta : Addr) (T : List (List Int)) : Prop :=
  ∃ as : List Addr, H ta = some (.tup (as.map V.ref)) ∧ as.length = T.length ∧ ∀ (i : Nat) (a : Addr) (r : List Int), as[i]? = some a → T[i]? = some r → H a = some (.tup (r.map V.int))
theorem TabAt.same {H H' : Hp} {ta : Addr} {T : List (List Int)} (h : TabAt H ta T) (s : Same H H') : TabAt H' ta T := by
  obtain ⟨as, h1, h2, h3⟩ := h
  exact ⟨as, s _ _ h1, h2, fun i a r e1 e2 => s _ _ (h3 i a r e1 e2)⟩
/-- X rows of Y answers each -/
structure Rect (T : List (List Int)) (X Y : Nat) : Prop where
  rows : T.length = X
  cols : ∀ r ∈ T, r.length = Y
  x0 : 0 < X
  y0 : 0 < Y
  xm : X ≤ 100
  ym : Y ≤ 100
/-- the answer at x, y -/
def tOf (T : List (List Int)) (x y : Nat) : Int := (T.getD x []).getD y 0
theorem tab_at {H : Hp} {ta : Addr} {T : List (List Int)} {X Y x : Nat} (h : TabAt H ta T) (R : Rect T X Y) (hx : x < X) :
    ∃ (as : List Addr) (a : Addr) (r : List Int), H ta = some (.tup (as.map V.ref)) ∧ as.length = X ∧ atI (as.map V.ref) (x : Int) = some (.ref a) ∧ H a = some (.tup (r.map V.int)) ∧ r.length = Y ∧
      T[x]? = some r ∧ ∀ y, y < Y → atI (r.map V.int) (y : Int) = some (.int (tOf T x y)) := by
  obtain ⟨as, h1, h2, h3⟩ := h
  have l1 : x < T.length := by rw [R.rows]; exact hx
  have l2 : x < as.length := by rw [h2]; exact l1
  have e1 : T[x]? = some T[x] := List.getElem?_eq_getElem l1
  have e2 : as[x]? = some as[x] := List.getElem?_eq_getElem l2
  have lr : (T[x]).length = Y := R.cols _ (List.getElem_mem l1)
  refine ⟨as, as[x], T[x], h1, by rw [h2, R.rows], atI_nat (by rw [List.getElem?_map, e2]; rfl), h3 x _ _ e2 e1, lr, e1, fun y hy => ?_⟩
  have ly : y < (T[x]).length := by rw [lr]; exact hy
  refine atI_nat ?_
  rw [List.getElem?_map, List.getElem?_eq_getElem ly]
  have : tOf T x y = (T[x])[y] := by
    unfold tOf
    rw [List.getD_eq_getElem?_getD, List.getD_eq_getElem?_getD, e1]
    show ((T[x])[y]?).getD 0 = _
    rw [List.getElem?_eq_getElem ly]
    rfl
  rw [this]
  rfl
theorem at_num {L : List Nat} {i : Nat} {n : Nat} (h : L[i]? = some n) : atI (L.map vN) (i : Int) = some (vN n) := atI_nat (by rw [List.getElem?_map, h]; rfl)
theorem at_head {L : List Nat} (h : L ≠ []) : atI (L.map vN) 0 = some (vN (L.headD 0)) := by
  cases L with
  | nil => exact absurd rfl h
  | cons n L => exact atI_nat (j := 0) rfl
theorem get_num {L : List Nat} {i : Nat} {v : V} (h : (L.map vN)[i]? = some v) : ∃ n, L[i]? = some n ∧ v = vN n := by
  rw [List.getElem?_map] at h
  cases e : L[i]? with
  | none => rw [e] at h; cases h
  | some n => rw [e] at h; exact ⟨n, rfl, (Option.some.inj h).symm⟩
theorem get_int {L : List Int} {i : Nat} {v : V} (h : (L.map V.int)[i]? = some v) : ∃ n, L[i]? = some n ∧ v = .int n := by
  rw [List.getElem?_map] at h
  cases e : L[i]? with
  | none => rw [e] at h; cases h
  | some n => rw [e] at h; exact ⟨n, rfl, (Option.some.inj h).symm⟩
theorem get_ref {L : List Addr} {i : Nat} {v : V} (h : (L.map V.ref)[i]? = some v) : ∃ n, L[i]? = some n ∧ v = .ref n := by
  rw [List.getElem?_map] at h
  cases e : L[i]? with
  | none => rw [e] at h; cases h
  | some n => rw [e] at h; exact ⟨n, rfl, (Option.some.inj h).symm⟩
/-- lists, tuples of numbers at the addresses as -/
def LinesL (H : Hp) (as : List Addr) (bs : List (List Nat)) : Prop := as.length = bs.length ∧ ∀ (i : Nat) (a : Addr) (b : List Nat), as[i]? = some a → bs[i]? = some b → LN H a b
def LinesT (H : Hp) (as : List Addr) (bs : List (List Nat)) : Prop := as.length = bs.length ∧ ∀ (i : Nat) (a : Addr) (b : List Nat), as[i]? = some a → bs[i]? = some b → TN H a b
theorem LinesL.same {H H' : Hp} {as : List Addr} {bs : List (List Nat)} (h : LinesL H as bs) (s : Same H H') : LinesL H' as bs := ⟨h.1, fun i a b e1 e2 => (h.2 i a b e1 e2).same s⟩
theorem LinesT.same {H H' : Hp} {as : List Addr} {bs : List (List Nat)} (h : LinesT H as bs) (s : Same H H') : LinesT H' as bs := ⟨h.1, fun i a b e1 e2 => (h.2 i a b e1 e2).same s⟩
theorem LinesL.add {H : Hp} {as : List Addr} {bs : List (List Nat)} {a : Addr} {b : List Nat} (h : LinesL H as bs) (n : LN H a b) : LinesL H (as ++ [a]) (bs ++ [b]) := by
  refine ⟨by rw [List.length_append, List.length_append, h.1]; rfl, fun i c d e1 e2 => ?_⟩
  by_cases hi : i < as.length
  · rw [List.getElem?_append_left hi] at e1
    rw [List.getElem?_append_left (by rw [← h.1]; exact hi)] at e2
    exact h.2 i c d e1 e2
  · rw [List.getElem?_append_right (by omega)] at e1
    rw [List.getElem?_append_right (by rw [← h.1]; omega), ← h.1] at e2
    have : i - as.length = 0 := by
      cases q : i - as.length with
      | zero => rfl
      | succ n => rw [q] at e1; simp at e1
    rw [this] at e1 e2
    have e1 : a = c := Option.some.inj e1
    have e2 : b = d := Option.some.inj e2
    subst e1 e2
    exact n
theorem LinesT.add {H : Hp} {as : List Addr} {bs : List (List Nat)} {a : Addr} {b : List Nat} (h : LinesT H as bs) (n : TN H a b) : LinesT H (as ++ [a]) (bs ++ [b]) := by
  refine ⟨by rw [List.length_append, List.length_append, h.1]; rfl, fun i c d e1 e2 => ?_⟩
  by_cases hi : i < as.length
  · rw [List.getElem?_append_left hi] at e1
    rw [List.getElem?_append_left (by rw [← h.1]; exact hi)] at e2
    exact h.2 i c d e1 e2
  · rw [List.getElem?_append_right (by omega)] at e1
    rw [List.getElem?_append_right (by rw [← h.1]; omega), ← h.1] at e2
    have : i - as.length = 0 := by
      cases q : i - as.length with
      | zero => rfl
      | succ n => rw [q] at e1; simp at e1
    rw [this] at e1 e2
    have e1 : a = c := Option.some.inj e1
    have e2 : b = d := Option.some.inj e2
    subst e1 e2
    exact n
theorem take_more {α : Type} {l : List α} {i : Nat} {x : α} (h : l[i]? = some x) : l.take (i + 1) = l.take i ++ [x] := by
  rw [List.take_add_one, h]
  rfl
theorem lt_of_get {α : Type} {l : List α} {i : Nat} {x : α} (h : l[i]? = some x) : i < l.length := (List.getElem?_eq_some_iff.mp h).1
theorem get_of_lt {α : Type} {l : List α} {i : Nat} (h : i < l.length) : ∃ x, l[i]? = some x := ⟨_, List.getElem?_eq_getElem h⟩
theorem ne_yes {x y : V} (e : (!decide (x = y)) = true) : x ≠ y := fun z => by
  rw [decide_eq_true z] at e
  cases e
theorem ne_no {x y : V} (e : ¬ (!decide (x = y)) = true) : x = y := by
  by_cases z : x = y
  · exact z
  · rw [decide_eq_false z] at e
    exact absurd rfl e
theorem eq_yes {x y : V} (e : decide (x = y) = true) : x = y := of_decide_eq_true e
theorem eq_no {x y : V} (e : ¬ decide (x = y) = true) : x ≠ y := fun z => e (decide_eq_true z)
end K9
set_option Elab.async false
set_option linter.all false
set_option maxRecDepth 100000
set_option maxHeartbeats 4000000
namespace K9
open PySem PySem.Spec PyProof.Rows L2
/-! ### the draws -/
/-- h holds what is drawn, and the place -/
def Hand (H : Hp) (h d : Addr) (ns : List Int) : Prop := ∃ z : Int, H h = some (.lst [.ref d, .int z]) ∧ 0 ≤ z ∧ H d = some (.lst (ns.map V.int)) ∧ h ≠ d
/-- all but h stands as it did -/
def But (h : Addr) (H H' : Hp) : Prop := ∀ b o, H b = some o → b ≠ h → H' b = some o
theorem But.refl (h : Addr) (H : Hp) : But h H H := fun _ _ e _ => e
theorem But.trans {h : Addr} {H H1 H2 : Hp} (a : But h H H1) (b : But h H1 H2) : But h H H2 := fun c o e n => b c o (a c o e n) n
theorem But.of {h : Addr} {H H' : Hp} (s : Same H H') : But h H H' := fun b o e _ => s b o e
theorem Hand.same {H H' : Hp} {h d : Addr} {ns : List Int} (a : Hand H h d ns) (s : Same H H') : Hand H' h d ns := by
  obtain ⟨z, h1, h2, h3, h4⟩ := a
  exact ⟨z, s _ _ h1, h2, s _ _ h3, h4⟩
theorem But.tup {h d : Addr} {H H' : Hp} {ns : List Int} {a : Addr} {xs : List V} (b : But h H H') (k : Hand H h d ns) (e : H a = some (.tup xs)) : H' a = some (.tup xs) := by
  obtain ⟨z, h1, _⟩ := k
  exact b a _ e (ne_of e h1 (by intro q; cases q))
theorem But.tab {h d : Addr} {H H' : Hp} {ns : List Int} {ta : Addr} {T : List (List Int)} (b : But h H H') (k : Hand H h d ns) (e : TabAt H ta T) : TabAt H' ta T := by
  obtain ⟨as, h1, h2, h3⟩ := e
  exact ⟨as, b.tup k h1, h2, fun i a r e1 e2 => b.tup k (h3 i a r e1 e2)⟩
def spTake : Sp := fun vs H Q _ => ∃ (h d : Addr) (ns : List Int) (m : Int), vs = [.ref h, .int m] ∧ Hand H h d ns ∧ 0 < m ∧
  ∀ (H' : Hp) (z : Int), 0 ≤ z → z < m → Hand H' h d ns → But h H H' → Q (.int z) H'
section
variable {P : Program} {w : World} {K : PySem.W.Frag} {mg : Str → Option Value} {base : Heap}
theorem k_take (T : Bt mg) (D : DefAt K mg "_law_take" s_Ltake ["_law_hand", "_law_many"]) : C8.Cal P w K mg base 1 "_law_take" spTake [] := by
  refine D.cal sc_Ltake (fun vs H Q E h => ?_) (fun f cdv A outer s H vs Q E hr h => ?_)
  · obtain ⟨a, d, ns, m, rfl, _⟩ := h
    rfl
  obtain ⟨a, d, ns, m, rfl, ⟨z, e1, hz, e2, nad⟩, hm, k⟩ := h
  refine ⟨_, pss_cons (ps_set (i := 2) sc_Ltake.nd rfl (Or.inl rfl) (pe_ix ix_list (pv 0) pe_int (fun _ _ => rfl)))
      (pss_cons (ps_asg (pe_op op_add (pv 2) pe_int) (pg_sub (pv 0) pe_int set_list))
      (pss_cons (ps_set (i := 3) sc_Ltake.nd rfl (Or.inl rfl) (pe_ix ix_list (pv 0) pe_int (fun _ _ => rfl)))
      (pss_cons (ps_if (pt_cmpR op_ge (pv 2) (pe_callB call_len_seq rfl T.len PySem.boot_len (pa_cons (pv 3) pa_nil)) (nomark _))
        (pss_one (ps_ret pe_int))
        pss_nil)
      (pss_one (ps_ret (pe_op op_mod (pe_op op_fdiv (pe_callTy call_int1 rfl T.int (by decide +kernel) (pa_cons (pe_ix ix_list (pv 3) (pv 2) (fun _ _ => rfl)) pa_nil)) pe_int) (pv 1))))))), ?_⟩
  refine ⟨_, rfl, a, _, 1, .int z, rfl, rfl, SqL.of e1, atI_nat (j := 1) rfl, ?_⟩
  refine ⟨_, rfl, _, _, rfl, rfl, _, rfl, a, _, 1, 1, rfl, rfl, e1, rfl, ?_⟩
  have e2' : (upd H a (.lst [.ref d, .int (z + 1)])) d = some (.lst (ns.map V.int)) := by rw [upd_ne nad.symm]; exact e2
  have hand : Hand (upd H a (.lst [.ref d, .int (z + 1)])) a d ns := ⟨z + 1, upd_same, by omega, e2', nad⟩
  have but : But a H (upd H a (.lst [.ref d, .int (z + 1)])) := fun b o e n => by rw [upd_ne n]; exact e
  refine ⟨_, rfl, a, _, 0, .ref d, rfl, rfl, SqL.of upd_same, atI_nat (j := 0) rfl, ?_⟩
  refine ⟨_, rfl, _, rfl, d, _, rfl, .inl (SqL.of e2'), _, _, rfl, rfl, _, rfl, ?_⟩
  refine ite2 (fun c => ?_) (fun c => ?_)
  · exact k _ 0 (Int.le_refl 0) hm hand but
  · have c' : ¬ z ≥ ((ns.map V.int).length : Int) := of_decide_eq_false (Bool.eq_false_iff.mpr c)
    rw [List.length_map] at c'
    have lt : z.toNat < ns.length := by omega
    refine ⟨_, rfl, _, rfl, d, _, z, .int ns[z.toNat], rfl, rfl, SqL.of e2', at_of (j := z.toNat) (by omega) (by rw [List.getElem?_map, List.getElem?_eq_getElem lt]; rfl), ?_⟩
    refine .inl ⟨_, rfl, _, _, rfl, rfl, ⟨by decide, by decide⟩, _, rfl, _, _, rfl, rfl, hm, ?_⟩
    exact k _ _ (Int.emod_nonneg _ (by omega)) (Int.emod_lt_of_pos _ hm) hand but
/-! ### the law's own reading of a table -/
/-- the answer of a line of a side at a place -/
def ansOf (t : Nat → Nat → Int) (s : Bool) (a b : Nat) : Int := if s = true then t b a else t a b
/-- numbers of lines of side s, of places across -/
def inSide (s : Bool) (X Y a : Nat) : Prop := if s = true then a < Y else a < X
def vS (s : Bool) : V := .int (if s = true then 1 else 0)
def spAns : Sp := fun vs H Q _ => ∃ (ta : Addr) (T : List (List Int)) (X Y : Nat) (s : Bool) (a b : Nat), vs = [.ref ta, vS s, vN a, vN b] ∧ TabAt H ta T ∧ Rect T X Y ∧ inSide s X Y a ∧ inSide (!s) X Y b ∧ Q (.int (ansOf (tOf T) s a b)) H
theorem k_ans (D : DefAt K mg "_law_answer" s_Lanswer ["_law_table", "_law_side", "_law_mine", "_law_other"]) : C8.Cal P w K mg base 1 "_law_answer" spAns [] := by
  refine D.cal sc_Lanswer (fun vs H Q E h => ?_) (fun f cdv A outer s H vs Q E hr h => ?_)
  · obtain ⟨ta, T, X, Y, s, a, b, rfl, _⟩ := h
    rfl
  obtain ⟨ta, T, X, Y, sd, a, b, rfl, hT, R, ha, hb, q⟩ := h
  refine ⟨_, pss_cons (ps_if (pt_cmpR op_eq (pv 1) pe_int (nomark _))
        (pss_one (ps_ret (pe_ix ix_tup (pe_ix ix_tup (pv 0) (pv 2) (fun _ _ => rfl)) (pv 3) (fun _ _ => rfl))))
        pss_nil)
      (pss_one (ps_ret (pe_ix ix_tup (pe_ix ix_tup (pv 0) (pv 3) (fun _ _ => rfl)) (pv 2) (fun _ _ => rfl)))), ?_⟩
  cases sd with
  | false =>
    obtain ⟨as, r, row, t1, _, t2, t3, _, _, t4⟩ := tab_at hT R (show a < X from ha)
    refine ⟨_, rfl, rfl, _, rfl, iteT ?_⟩
    exact ⟨_, rfl, _, rfl, ta, _, _, _, rfl, rfl, SqT.of t1, t2, _, rfl, r, _, _, _, rfl, rfl, SqT.of t3, t4 b hb, q⟩
  | true =>
    obtain ⟨as, r, row, t1, _, t2, t3, _, _, t4⟩ := tab_at hT R (show b < X from hb)
    refine ⟨_, rfl, rfl, _, rfl, iteF ?_⟩
    exact ⟨_, rfl, _, rfl, ta, _, _, _, rfl, rfl, SqT.of t1, t2, _, rfl, r, _, _, _, rfl, rfl, SqT.of t3, t4 a ha, q⟩
end
end K9
set_option Elab.async false
set_option linter.all false
set_option maxRecDepth 100000
set_option maxHeartbeats 4000000
namespace K9
open PySem PySem.Spec PyProof.Rows L2
def tieS (t : Nat → Nat → Int) (s : Bool) (C : List Nat) (a b : Nat) : Bool := C.any fun c => decide (ansOf t s a c = ansOf t s b c)
theorem any_take {α : Type} {p : α → Bool} {l : List α} {i : Nat} {x : α} (h : l[i]? = some x) : (l.take (i + 1)).any p = ((l.take i).any p || p x) := by
  rw [take_more h, List.any_append]
  simp
theorem any_true {α : Type} {p : α → Bool} {l : List α} {i : Nat} {x : α} (h : l[i]? = some x) (hp : p x = true) : l.any p = true := List.any_eq_true.mpr ⟨x, List.mem_of_getElem? h, hp⟩
def spTies : Sp := fun vs H Q _ => ∃ (ta lb lc : Addr) (T : List (List Int)) (X Y : Nat) (s : Bool) (a : Nat) (B C : List Nat), vs = [.ref ta, vS s, vN a, .ref lb, .ref lc] ∧ TabAt H ta T ∧ Rect T X Y ∧
  inSide s X Y a ∧ LN H lb B ∧ TN H lc C ∧ (∀ b ∈ B, inSide s X Y b) ∧ (∀ c ∈ C, inSide (!s) X Y c) ∧ Q (.bl (B.any fun b => tieS (tOf T) s C a b)) H
section
variable {P : Program} {w : World} {K : PySem.W.Frag} {mg : Str → Option Value} {base : Heap}
theorem k_ties (c_Lanswer : C8.Cal P w K mg base 1 "_law_answer" spAns []) (D : DefAt K mg "_law_ties" s_Lties ["_law_table", "_law_side", "_law_line", "_law_bundle", "_law_cross"]) : C8.Cal P w K mg base 2 "_law_ties" spTies [] := by
  refine D.cal sc_Lties (fun vs H Q E h => ?_) (fun f cdv A outer s H vs Q E hr h => ?_)
  · obtain ⟨ta, lb, lc, T, X, Y, s, a, B, C, rfl, _⟩ := h
    rfl
  obtain ⟨ta, lb, lc, T, X, Y, sd, a, B, C, rfl, hT, R, ha, hB, hC, iB, iC, q⟩ := h
  refine ⟨_, pss_cons (ps_for PassesOwn.never rfl (pi_list (pv 3)) (pg_name (i := 5) sc_Lties.nd rfl (Or.inl rfl))
        (pss_one (ps_for PassesOwn.never rfl (pi_tup (pv 4)) (pg_name (i := 6) sc_Lties.nd rfl (Or.inl rfl))
          (pss_one (ps_if (pt_cmpR op_eq (C8.pe_c c_Lanswer hr (by decide) rfl (pa_cons (pv 0) (pa_cons (pv 1) (pa_cons (pv 2) (pa_cons (pv 6) pa_nil))))) (C8.pe_c c_Lanswer hr (by decide) rfl (pa_cons (pv 0) (pa_cons (pv 1) (pa_cons (pv 5) (pa_cons (pv 6) pa_nil))))) (nomark _))
            (pss_one (ps_ret pe_bl))
            pss_nil)))))
      (pss_one (ps_ret pe_bl)), ?_⟩
  refine ⟨_, rfl, lb, rfl, ⟨_, SqL.of hB⟩, for_list (K := K) (a := lb) (xs := B.map vN) (fun i σ H' => H' = H ∧ (∃ v5 v6, σ = [some (.ref ta), some (vS sd), some (vN a), some (.ref lb), some (.ref lc), v5, v6]) ∧ (B.take i).any (fun b => tieS (tOf T) sd C a b) = false)
    ⟨rfl, ⟨none, none, rfl⟩, rfl⟩ (fun i σ H' _ p => by rw [p.1]; exact SqL.of hB) ?_ ?_⟩
  · rintro i y σ H' hi ⟨rfl, ⟨v5, v6, rfl⟩, hn⟩
    obtain ⟨b, hb, rfl⟩ := get_num hi
    have ib := iB b (List.mem_of_getElem? hb)
    refine ⟨_, rfl, lc, rfl, ⟨_, hC.sq⟩, for_tup (K := K) (a := lc) (xs := C.map vN) (fun j σ H2 => H2 = H' ∧ (∃ v6, σ = [some (.ref ta), some (vS sd), some (vN a), some (.ref lb), some (.ref lc), some (vN b), v6]) ∧ (C.take j).any (fun c => decide (ansOf (tOf T) sd a c = ansOf (tOf T) sd b c)) = false)
      ⟨rfl, ⟨v6, rfl⟩, rfl⟩ (fun j σ H2 _ p => by rw [p.1]; exact hC.sq) ?_ ?_⟩
    · rintro j y σ H2 hj ⟨rfl, ⟨v6, rfl⟩, hm⟩
      obtain ⟨c, hc, rfl⟩ := get_num hj
      have ic := iC c (List.mem_of_getElem? hc)
      refine ⟨_, rfl, _, rfl, _, rfl, _, rfl, ta, T, X, Y, sd, a, c, rfl, hT, R, ha, ic, ?_⟩
      refine ⟨_, rfl, _, rfl, _, rfl, _, rfl, ta, T, X, Y, sd, b, c, rfl, hT, R, ib, ic, rfl, _, rfl, ite2 (fun e => ?_) (fun e => ?_)⟩
      · have e' : ansOf (tOf T) sd a c = ansOf (tOf T) sd b c := V.int.inj (of_decide_eq_true e)
        have t1 : tieS (tOf T) sd C a b = true := any_true hc (decide_eq_true e')
        have t2 : B.any (fun b => tieS (tOf T) sd C a b) = true := any_true hb t1
        rw [t2] at q
        exact q
      · have e' : ¬ ansOf (tOf T) sd a c = ansOf (tOf T) sd b c := fun z => e (decide_eq_true (congrArg V.int z))
        refine ⟨rfl, ⟨_, rfl⟩, ?_⟩
        rw [any_take hc, hm, decide_eq_false e']
        rfl
    · rintro σ H2 ⟨rfl, ⟨v6, rfl⟩, hm⟩
      rw [List.length_map, List.take_length] at hm
      refine ⟨rfl, ⟨_, _, rfl⟩, ?_⟩
      rw [any_take hb, hn]
      exact hm
  · rintro σ H' ⟨rfl, ⟨v5, v6, rfl⟩, hn⟩
    rw [List.length_map, List.take_length] at hn
    rw [hn] at q
    exact q
def spLeven : Sp := fun vs H Q _ => ∃ (ta lr lc : Addr) (T : List (List Int)) (X Y : Nat) (R C : List Nat), vs = [.ref ta, .ref lr, .ref lc] ∧ TabAt H ta T ∧ Rect T X Y ∧ TN H lr R ∧ TN H lc C ∧ Good R C ∧ (∀ x ∈ R, x < X) ∧ (∀ y ∈ C, y < Y) ∧
  Q (.bl (even (tOf T) R C)) H
theorem all_take {α : Type} {p : α → Bool} {l : List α} {i : Nat} {x : α} (h : l[i]? = some x) : (l.take (i + 1)).all p = ((l.take i).all p && p x) := by
  rw [take_more h, List.all_append]
  simp
theorem all_false {α : Type} {p : α → Bool} {l : List α} {i : Nat} {x : α} (h : l[i]? = some x) (hp : p x = false) : l.all p = false := by
  cases e : l.all p with
  | false => rfl
  | true =>
    have := List.all_eq_true.mp e x (List.mem_of_getElem? h)
    rw [hp] at this
    cases this
theorem headD_mem {L : List Nat} (h : L ≠ []) : L.headD 0 ∈ L := by
  cases L with
  | nil => exact absurd rfl h
  | cons n L => exact List.mem_cons_self
theorem k_Leven (D : DefAt K mg "_law_is_even" s_Lis_even ["_law_table", "_law_rows", "_law_columns"]) : C8.Cal P w K mg base 1 "_law_is_even" spLeven [] := by
  refine D.cal sc_Lis_even (fun vs H Q E h => ?_) (fun f cdv A outer s H vs Q E hr h => ?_)
  · obtain ⟨ta, lr, lc, T, X, Y, R, C, rfl, _⟩ := h
    rfl
  obtain ⟨ta, lr, lc, T, X, Y, R, C, rfl, hT, RT, hR, hC, g, iR, iC, q⟩ := h
  refine ⟨_, pss_cons (ps_for PassesOwn.never rfl (pi_tup (pv 1)) (pg_name (i := 3) sc_Lis_even.nd rfl (Or.inl rfl))
        (pss_one (ps_for PassesOwn.never rfl (pi_tup (pv 2)) (pg_name (i := 4) sc_Lis_even.nd rfl (Or.inl rfl))
          (pss_one (ps_if (pt_cmpR op_ne (pe_ix ix_tup (pe_ix ix_tup (pv 0) (pv 3) (fun _ _ => rfl)) (pv 4) (fun _ _ => rfl)) (pe_ix ix_tup (pe_ix ix_tup (pv 0) (pe_ix ix_tup (pv 1) pe_int (fun _ _ => rfl)) (fun _ _ => rfl)) (pe_ix ix_tup (pv 2) pe_int (fun _ _ => rfl)) (fun _ _ => rfl)) (nomark _))
            (pss_one (ps_ret pe_bl))
            pss_nil)))))
      (pss_one (ps_ret pe_bl)), ?_⟩
  have h0 := iR _ (headD_mem g.r0)
  have h1 := iC _ (headD_mem g.c0)
  obtain ⟨as0, r0, row0, u1, _, u2, u3, _, _, u4⟩ := tab_at hT RT h0
  refine ⟨_, rfl, lr, rfl, ⟨_, hR.sq⟩, for_tup (K := K) (a := lr) (xs := R.map vN) (fun i σ H' => H' = H ∧ (∃ v3 v4, σ = [some (.ref ta), some (.ref lr), some (.ref lc), v3, v4]) ∧ (R.take i).all (fun x => C.all fun y => decide (tOf T x y = tOf T (R.headD 0) (C.headD 0))) = true)
    ⟨rfl, ⟨none, none, rfl⟩, rfl⟩ (fun i σ H' _ p => by rw [p.1]; exact hR.sq) ?_ ?_⟩
  · rintro i y σ H' hi ⟨rfl, ⟨v3, v4, rfl⟩, hn⟩
    obtain ⟨x, hx, rfl⟩ := get_num hi
    obtain ⟨as, r, row, t1, _, t2, t3, _, _, t4⟩ := tab_at hT RT (iR x (List.mem_of_getElem? hx))
    refine ⟨_, rfl, lc, rfl, ⟨_, hC.sq⟩, for_tup (K := K) (a := lc) (xs := C.map vN) (fun j σ H2 => H2 = H' ∧ (∃ v4, σ = [some (.ref ta), some (.ref lr), some (.ref lc), some (vN x), v4]) ∧ (C.take j).all (fun y => decide (tOf T x y = tOf T (R.headD 0) (C.headD 0))) = true)
      ⟨rfl, ⟨v4, rfl⟩, rfl⟩ (fun j σ H2 _ p => by rw [p.1]; exact hC.sq) ?_ ?_⟩
    · rintro j z σ H2 hj ⟨rfl, ⟨v4, rfl⟩, hm⟩
      obtain ⟨y, hy, rfl⟩ := get_num hj
      refine ⟨_, rfl, _, rfl, ta, _, _, _, rfl, rfl, SqT.of t1, t2, _, rfl, r, _, _, _, rfl, rfl, SqT.of t3, t4 y (iC y (List.mem_of_getElem? hy)), ?_⟩
      refine ⟨_, rfl, _, rfl, lr, _, _, _, rfl, rfl, hR.sq, at_head g.r0, ta, _, _, _, rfl, rfl, SqT.of u1, u2, _, rfl, lc, _, _, _, rfl, rfl, hC.sq, at_head g.c0, r0, _, _, _, rfl, rfl, SqT.of u3, u4 _ h1, rfl, _, rfl, ite2 (fun e => ?_) (fun e => ?_)⟩
      · have e' : ¬ tOf T x y = tOf T (R.headD 0) (C.headD 0) := fun z => ne_yes e (congrArg V.int z)
        have t5 : even (tOf T) R C = false := all_false hx (all_false hy (decide_eq_false e'))
        rw [t5] at q
        exact q
      · have e' : tOf T x y = tOf T (R.headD 0) (C.headD 0) := V.int.inj (ne_no e)
        refine ⟨rfl, ⟨_, rfl⟩, ?_⟩
        rw [all_take hy, hm, decide_eq_true e']
        rfl
    · rintro σ H2 ⟨rfl, ⟨v4, rfl⟩, hm⟩
      rw [List.length_map, List.take_length] at hm
      refine ⟨rfl, ⟨_, _, rfl⟩, ?_⟩
      rw [all_take hx, hn]
      exact hm
  · rintro σ H' ⟨rfl, ⟨v3, v4, rfl⟩, hn⟩
    rw [List.length_map, List.take_length] at hn
    have e : even (tOf T) R C = true := hn
    rw [e] at q
    exact q
end
end K9
set_option Elab.async false
set_option linter.all false
set_option maxRecDepth 100000
set_option maxHeartbeats 8000000
namespace K9
open PySem PySem.Spec PyProof.Rows L2
/-! ### heaps: a store at F -/
theorem Same.write {H H' : Hp} {F : Addr} {o : HO} (s : Same H H') (n : H F = none) : Same H (upd H' F o) := fun b u e => by
  rw [upd_ne (ne_of_none e n)]
  exact s b u e
theorem keep_at {H : Hp} {F a : Addr} {o u v : HO} (h : H a = some u) (hF : H F = some v) (d : u ≠ v) : upd H F o a = some u := by
  rw [upd_ne (ne_of h hF d)]
  exact h
theorem LinesT.store {H : Hp} {F : Addr} {o : HO} {xs : List V} {as : List Addr} {bs : List (List Nat)} (h : LinesT H as bs) (hF : H F = some (.lst xs)) : LinesT (upd H F o) as bs :=
  ⟨h.1, fun i a b e1 e2 => by
    obtain ⟨u, x, e⟩ := h.2 i a b e1 e2
    obtain ⟨o, _, rfl⟩ := id x
    exact ⟨_, x, keep_at e hF (by intro z; cases z)⟩⟩
theorem cut_first (x : V) (xs : List V) : cutV (x :: xs) none (some 1) = [x] := by
  unfold cutV
  rw [show HT.sIx (x :: xs).length (x :: xs).length (some 1) = min 1 (x :: xs).length from HT.sIx_nat (x :: xs).length _ 1, HT.sIx_none]
  rw [show min 1 (x :: xs).length = 1 by rw [List.length_cons]; omega]
  rfl
theorem cut_rest (x : V) (xs : List V) : cutV (x :: xs) (some 1) none = xs := by
  unfold cutV
  rw [show HT.sIx (x :: xs).length 0 (some 1) = min 1 (x :: xs).length from HT.sIx_nat (x :: xs).length 0 1, HT.sIx_none]
  rw [show min 1 (x :: xs).length = 1 by rw [List.length_cons]; omega]
  show List.take ((x :: xs).length - 1) xs = xs
  rw [List.length_cons, Nat.add_sub_cancel]
  exact List.take_length
theorem in_nums {n : Nat} {L : List Nat} : inV (vN n) (L.map vN) = L.contains n := by
  induction L with
  | nil => rfl
  | cons m L ih =>
    unfold inV at ih ⊢
    rw [List.map_cons, List.any_cons, ih, List.contains_cons]
    have : eqV (vN m) (vN n) = (n == m) := by
      show decide ((m : Int) = (n : Int)) = (n == m)
      by_cases e : m = n
      · subst e
        rw [decide_eq_true rfl]
        exact (beq_self_eq_true m).symm
      · rw [decide_eq_false (show ¬ ((m : Int) = (n : Int)) from fun z => e (Int.ofNat.inj z))]
        exact (beq_eq_false_iff_ne.mpr fun z => e z.symm).symm
    rw [this]
theorem flat_nums {L : List Nat} : (L.map vN).all flatV = true := by
  rw [List.all_map]
  exact List.all_eq_true.mpr fun _ _ => rfl
def spLbundles : Sp := fun vs H Q _ => ∃ (ta lr lc : Addr) (T : List (List Int)) (X Y : Nat) (s : Bool) (L C : List Nat), vs = [.ref ta, vS s, .ref lr, .ref lc] ∧ TabAt H ta T ∧ Rect T X Y ∧ TN H lr L ∧ TN H lc C ∧ L.Pairwise (· < ·) ∧ L.length ≤ 1000 ∧
  (∀ l ∈ L, inSide s X Y l) ∧ (∀ c ∈ C, inSide (!s) X Y c) ∧ ∀ (H' : Hp) (p : Addr) (as : List Addr), Same H H' → H p = none → H' p = some (.lst (as.map V.ref)) → LinesT H' as (bun (tieS (tOf T) s C) L) → Q (.ref p) H'
theorem tieS_comm (t : Nat → Nat → Int) (s : Bool) (C : List Nat) (a b : Nat) : tieS t s C a b = tieS t s C b a := by
  unfold tieS
  exact congrArg (List.any C) (funext fun c => decide_eq_decide.mpr eq_comm)
section
variable {P : Program} {w : World} {K : PySem.W.Frag} {mg : Str → Option Value} {base : Heap}
theorem k_Lbundles (T : Bt mg) (c_Lties : C8.Cal P w K mg base 2 "_law_ties" spTies []) (D : DefAt K mg "_law_bundles" s_Lbundles ["_law_table", "_law_side", "_law_lines", "_law_cross"]) :
    C8.Cal P w K mg base 3 "_law_bundles" spLbundles [] := by
  refine D.cal sc_Lbundles (fun vs H Q E h => ?_) (fun f cdv A outer s H vs Q E hr h => ?_)
  · obtain ⟨ta, lr, lc, Tb, X, Y, s, L, C, rfl, _⟩ := h
    rfl
  obtain ⟨ta, lr, lc, Tb, X, Y, sd, L, C, rfl, hT, RT, hL, hC, srt, hlen, iL, iC, q⟩ := h
  refine ⟨_, pss_cons (ps_set (i := 4) sc_Lbundles.nd rfl (Or.inl rfl) (pe_callTy call_list_of rfl T.list (by decide +kernel) (pa_cons (pv 2) pa_nil)))
      (pss_cons (ps_set (i := 5) sc_Lbundles.nd rfl (Or.inl rfl) (pe_lst pa_nil))
      (C8.pss_cut (ps_for PassesOwn.never rfl (pi_range1 rfl T.range (pa_cons (pe_callB call_len_seq rfl T.len PySem.boot_len (pa_cons (pv 2) pa_nil)) pa_nil)) (pg_name (i := 6) sc_Lbundles.nd rfl (Or.inl rfl))
        (pss_cons (ps_if (pt_cmpR op_eq (pe_callB call_len_seq rfl T.len PySem.boot_len (pa_cons (pv 4) pa_nil)) pe_int (nomark _))
          (pss_one ps_break)
          pss_nil)
        (pss_cons (ps_set (i := 7) sc_Lbundles.nd rfl (Or.inr rfl) (pe_slice sl_list (pv 4) po_none (po_some pe_int)))
        (pss_cons (ps_set (i := 4) sc_Lbundles.nd rfl (Or.inl rfl) (pe_slice sl_list (pv 4) (po_some pe_int) po_none))
        (C8.pss_cut (ps_for PassesOwn.never rfl (pi_range1 rfl T.range (pa_cons (pe_callB call_len_seq rfl T.len PySem.boot_len (pa_cons (pv 2) pa_nil)) pa_nil)) (pg_name (i := 8) sc_Lbundles.nd rfl (Or.inl rfl))
          (pss_cons (ps_set (i := 9) sc_Lbundles.nd rfl (Or.inr rfl) (pe_lc (own := [("_law_line", 10)]) (g := gName 10)  rfl sc_Lbundles.nd  (pi_list (pv 4)) (by exact (show BlkOk ["_law_table", "_law_side", "_law_lines", "_law_cross", "_law_left", "_law_bundles_here", "_law_k", "_law_bundle", "_law_turn", "_law_more", "_law_line"] (defScope s_Lbundles) _ [("_law_line", 10)] from blkOk_by (by decide +kernel))) (fun _ _ _ _ _ => (pg_name (i := 10) sc_Lbundles.nd rfl (Or.inl rfl))) (fun _ _ _ _ _ => pts_one (pt_val (C8.pe_c c_Lties hr (by decide) rfl (pa_cons (pv 0) (pa_cons (pv 1) (pa_cons (pv 10) (pa_cons (pv 7) (pa_cons (pv 3) pa_nil)))))))) (fun _ _ _ _ _ => (pv 10))))
          (pss_cons (ps_if (pt_cmpR op_eq (pe_callB call_len_seq rfl T.len PySem.boot_len (pa_cons (pv 9) pa_nil)) pe_int (nomark _))
            (pss_one ps_break)
            pss_nil)
          (pss_cons (ps_set (i := 7) sc_Lbundles.nd rfl (Or.inr rfl) (pe_op op_cat (pv 7) (pv 9)))
          (pss_one (ps_setLc (own := [("_law_line", 10)]) (g := gName 10) (i := 4) rfl sc_Lbundles.nd rfl rfl (sw_true rfl rfl rfl (by decide +kernel)) (pi_list (pv 4)) (by exact (show BlkOk ["_law_table", "_law_side", "_law_lines", "_law_cross", "_law_left", "_law_bundles_here", "_law_k", "_law_bundle", "_law_turn", "_law_more", "_law_line"] (defScope s_Lbundles) _ [("_law_line", 10)] from blkOk_by (by decide +kernel))) (fun _ _ _ _ _ => (pg_name (i := 10) sc_Lbundles.nd rfl (Or.inl rfl))) (fun _ _ _ _ _ => pts_one (pt_cmpR (opNotIn K) (pv 10) (pv 9) (by rfl))) (fun _ _ _ _ _ => (pv 10))))))))
        (pss_one (ps_expr (pe_bm PySem.F.plainAttrs_list PySem.F.slot_list_append PySem.F.type_list_append mt_append (pv 5) (pa_cons (pe_callTy call_tupleX rfl T.tuple (by decide +kernel) (pa_cons (pe_callB cr_sortedI rfl T.sorted (by decide +kernel) (pa_cons (pv 7) pa_nil)) pa_nil)) pa_nil)))))))))
      (pss_one (ps_ret (pv 5))))), ?_⟩
  have enL : (L.map vN).length = L.length := List.length_map _
  -- left = list(lines); bundles = []
  refine ⟨_, rfl, lr, _, rfl, .inr (hL.sq), fun l0 n0 => ⟨Nat.zero_le _, fun F nF => ?_⟩⟩
  have s1 : Same H (upd H l0 (.lst (L.map vN))) := same_new n0 _
  have s2 : Same H (upd (upd H l0 (.lst (L.map vN))) F (.lst [])) := s1.trans (same_new nF _)
  have nF0 : H F = none := s1.free nF
  have lF : l0 ≠ F := fun e => by rw [← e, upd_same] at nF; cases nF
  -- what stands behind the outer loop
  refine ⟨fun σ H' => ∃ (as : List Addr) (v4 v6 v7 v8 v9 v10 : Option V), σ = [some (.ref ta), some (vS sd), some (.ref lr), some (.ref lc), v4, some (.ref F), v6, v7, v8, v9, v10] ∧ Same H H' ∧ H' F = some (.lst (as.map V.ref)) ∧ LinesT H' as (bun (tieS (tOf Tb) sd C) L), ?_, ?_⟩
  rotate_left
  · rintro σ H' ⟨as, v4, v6, v7, v8, v9, v10, rfl, s3, eF, ls⟩
    exact ⟨_, rfl, q H' F as s3 nF0 eF ls⟩
  refine ⟨_, rfl, lr, _, rfl, .inr ((hL.same s2).sq), _, rfl, by omega, by rw [enL]; omega, for_range (n := (((L.map vN).length : Nat) : Int).toNat) (fun k σ H' => ∃ (l : Addr) (as : List Addr) (bs : List (List Nat)) (left : List Nat) (v6 v7 v8 v9 : Option V),
      σ = [some (.ref ta), some (vS sd), some (.ref lr), some (.ref lc), some (.ref l), some (.ref F), v6, v7, v8, v9, none] ∧ Same H H' ∧ H' F = some (.lst (as.map V.ref)) ∧ LN H' l left ∧ l ≠ F ∧ LinesT H' as bs ∧
      bun (tieS (tOf Tb) sd C) L = bs ++ bun (tieS (tOf Tb) sd C) left ∧ left.Pairwise (· < ·) ∧ (∀ z ∈ left, z ∈ L) ∧ left.length + k ≤ L.length)
    ⟨l0, [], [], L, none, none, none, none, rfl, s2, upd_same, (by show upd _ F _ l0 = _; rw [upd_ne lF, upd_same]), lF, ⟨rfl, fun i a b e _ => by simp at e⟩, rfl, srt, fun z hz => hz, by omega⟩ ?_ ?_⟩
  rotate_left
  · rintro σ H' ⟨l, as, bs, left, v6, v7, v8, v9, rfl, s3, eF, hl, nlF, ls, eb, sl, sub, le⟩
    have e0 : left = [] := List.eq_nil_of_length_eq_zero (by omega)
    subst e0
    rw [bun_nil, List.append_nil] at eb
    exact ⟨as, _, _, _, _, _, _, rfl, s3, eF, by rw [eb]; exact ls⟩
  rintro k σ H' hk ⟨l, as, bs, left, v6, v7, v8, v9, rfl, s3, eF, hl, nlF, ls, eb, sl, sub, le⟩
  -- if len(left) == 0: break
  refine ⟨_, rfl, l, _, rfl, .inl (SqL.of hl), rfl, _, rfl, ite2 (fun e => ?_) (fun e => ?_)⟩
  · have e1 : ((left.map vN).length : Int) = 0 := V.int.inj (eq_yes e)
    have e0 : left = [] := List.eq_nil_of_length_eq_zero (by rw [List.length_map] at e1; omega)
    subst e0
    rw [bun_nil, List.append_nil] at eb
    exact ⟨as, _, _, _, _, _, _, rfl, s3, eF, by rw [eb]; exact ls⟩
  obtain ⟨x, L1, rfl⟩ : ∃ x L1, left = x :: L1 := by
    cases left with
    | nil => exact absurd rfl (eq_no (fun z => e z))
    | cons x L1 => exact ⟨x, L1, rfl⟩
  have hl' : H' l = some (.lst (vN x :: L1.map vN)) := hl
  -- bundle = left[:1]; left = left[1:]
  refine ⟨_, rfl, 1, rfl, l, _, rfl, SqL.of hl', fun b0 nb0 => ?_⟩
  have nl_b0 : l ≠ b0 := ne_of_none hl' nb0
  have nF_b0 : F ≠ b0 := ne_of_none eF nb0
  rw [cut_first]
  have s4 : Same H' (upd H' b0 (.lst [vN x])) := same_new nb0 _
  refine ⟨_, rfl, 1, rfl, l, _, rfl, SqL.of (s4 _ _ hl'), fun l1 nl1 => ?_⟩
  rw [cut_rest]
  have nb0_l1 : b0 ≠ l1 := fun e => by rw [← e, upd_same] at nl1; cases nl1
  have s5 := s4.trans (same_new nl1 (.lst (L1.map vN)))
  have nF_l1 : F ≠ l1 := ne_of_none (s4 _ _ eF) nl1
  generalize hH2 : upd (upd H' b0 (.lst [vN x])) l1 (.lst (L1.map vN)) = H2 at s5
  have eb0 : LN H2 b0 [x] := by
    rw [← hH2]
    show upd _ l1 _ b0 = _
    rw [upd_ne nb0_l1, upd_same]
    rfl
  have el1 : LN H2 l1 L1 := by
    rw [← hH2]
    exact upd_same
  -- what stands behind the inner loop
  refine ⟨fun σ H3 => ∃ (b l : Addr) (B left : List Nat) (v8 v9 : Option V), σ = [some (.ref ta), some (vS sd), some (.ref lr), some (.ref lc), some (.ref l), some (.ref F), some (.int (0 + (k : Int))), some (.ref b), v8, v9, none] ∧ Same H H3 ∧ H3 F = some (.lst (as.map V.ref)) ∧
      LinesT H3 as bs ∧ LN H3 b B ∧ LN H3 l left ∧ l ≠ F ∧ b ≠ F ∧ Grow (tieS (tOf Tb) sd C) (x :: L1) x B left ∧ ∀ y ∈ B, ∀ z ∈ left, tieS (tOf Tb) sd C y z = false, ?_, ?_⟩
  rotate_left
  · -- bundles.append(tuple(sorted(bundle)))
    rintro σ H3 ⟨b, l, B, left, v8, v9, rfl, s6, eF3, ls3, hb, hl3, nlF3, nbF, gr, cl⟩
    obtain ⟨em, el⟩ := gr.done cl
    refine ⟨_, rfl, .inl ⟨rfl, _, SqL.of eF3⟩, _, rfl, b, B.map (fun n : Nat => (n : Int)), rfl, ?_, fun ns p perm rising np => ?_⟩
    · rw [List.map_map]
      exact SqL.of hb
    have ens : ns = (comp (tieS (tOf Tb) sd C) (x :: L1) x).map fun n : Nat => (n : Int) := sorted_int perm rising gr.nd (sl.sublist List.filter_sublist) em
    subst ens
    refine ⟨p, _, rfl, SqL.of upd_same, fun t u nt xu => ?_⟩
    have npF : p ≠ F := (ne_of_none eF3 np).symm
    have nFt : F ≠ t := ne_of_none (show upd H3 p _ F = _ by rw [upd_ne npF.symm]; exact eF3) nt
    have nas : as.length ≤ 1000 := by
      rw [ls3.1]
      have := congrArg List.length eb
      rw [List.length_append] at this
      have := bun_cnt (tie := tieS (tOf Tb) sd C) L
      omega
    have eF4 : (upd (upd H3 p (.lst (((comp (tieS (tOf Tb) sd C) (x :: L1) x).map fun n : Nat => (n : Int)).map V.int))) t u) F = some (.lst (as.map V.ref)) := by
      rw [upd_ne nFt, upd_ne npF.symm]
      exact eF3
    refine ⟨F, _, _, rfl, rfl, eF4, by rw [List.length_map]; exact small1000 nas, ?_⟩
    have s7 : Same H3 (upd (upd H3 p (.lst (((comp (tieS (tOf Tb) sd C) (x :: L1) x).map fun n : Nat => (n : Int)).map V.int))) t u) := (same_new np _).trans (same_new nt _)
    have tn : TN (upd (upd H3 p (.lst (((comp (tieS (tOf Tb) sd C) (x :: L1) x).map fun n : Nat => (n : Int)).map V.int))) t u) t (comp (tieS (tOf Tb) sd C) (x :: L1) x) := by
      rw [List.map_map] at xu
      exact ⟨u, xu, upd_same⟩
    refine ⟨l, as ++ [t], bs ++ [comp (tieS (tOf Tb) sd C) (x :: L1) x], left, _, _, _, _, rfl, Same.write (s6.trans s7) nF0, ?_, ?_, nlF3, ((ls3.same s7).add tn).store eF4, ?_, ?_, ?_, ?_⟩
    · rw [upd_same, List.map_append]
      rfl
    · show upd _ F _ l = _
      rw [upd_ne nlF3]
      exact s7 _ _ hl3
    · rw [eb, bun_cons, ← el, List.append_assoc]
      rfl
    · rw [el]
      exact sl.sublist List.filter_sublist
    · intro z hz
      rw [el] at hz
      exact sub z (mem_out.mp hz).1
    · have h1 : left.length < (x :: L1).length := by
        rw [el]
        exact out_lt
      omega
  -- the inner loop
  have gr0 : Grow (tieS (tOf Tb) sd C) (x :: L1) x [x] L1 := Grow.start (nodup_of_lt sl)
  refine ⟨_, rfl, lr, _, rfl, .inr ((hL.same (s3.trans s5)).sq), _, rfl, by omega, by rw [enL]; omega, for_range (n := (((L.map vN).length : Nat) : Int).toNat) (fun j σ H3 => ∃ (b l : Addr) (B left : List Nat) (v8 v9 : Option V),
      σ = [some (.ref ta), some (vS sd), some (.ref lr), some (.ref lc), some (.ref l), some (.ref F), some (.int (0 + (k : Int))), some (.ref b), v8, v9, none] ∧ Same H H3 ∧ H3 F = some (.lst (as.map V.ref)) ∧
      LinesT H3 as bs ∧ LN H3 b B ∧ LN H3 l left ∧ l ≠ F ∧ b ≠ F ∧ Grow (tieS (tOf Tb) sd C) (x :: L1) x B left ∧ left.length + j + 1 ≤ (x :: L1).length)
    ⟨b0, l1, [x], L1, v8, v9, rfl, s3.trans s5, s5 _ _ eF, ls.same s5, eb0, el1, nF_l1.symm, nF_b0.symm, gr0, by rw [List.length_cons]; omega⟩ ?_ ?_⟩
  rotate_left
  · rintro σ H3 ⟨b, l, B, left, v8, v9, rfl, s6, eF3, ls3, hb, hl3, nlF3, nbF, gr, le2⟩
    omega
  rintro j σ H3 hj ⟨b, l, B, left, v8, v9, rfl, s6, eF3, ls3, hb, hl3, nlF3, nbF, gr, le2⟩
  have inB : ∀ y ∈ B, inSide sd X Y y := fun y hy => iL y (sub y (gr.reach y hy).1)
  have inLeft : ∀ y ∈ left, inSide sd X Y y := fun y hy => by
    rw [gr.left] at hy
    exact iL y (sub y (mem_out.mp hy).1)
  -- more = [line for line in left if ties(..)]
  refine ⟨_, rfl, l, rfl, ⟨_, SqL.of hl3⟩, fun M nM => lc_list (K := K) (a := l) (xs := left.map vN)
    (fun i H4 => H4 = upd H3 M (.lst (((left.take i).filter fun z => B.any fun b => tieS (tOf Tb) sd C z b).map vN))) rfl (fun i H4 _ p => by rw [p]; exact SqL.of (same_new nM _ _ _ hl3)) ?_ ?_⟩
  · rintro i y H4 hi rfl
    obtain ⟨z, hz, rfl⟩ := get_num hi
    have sM := same_new nM (.lst (((left.take i).filter fun z => B.any fun b => tieS (tOf Tb) sd C z b).map vN))
    refine ⟨rfl, _, rfl, _, rfl, _, rfl, _, rfl, _, rfl, ta, b, lc, Tb, X, Y, sd, z, B, C, rfl, (hT.same s6).same sM, RT, inLeft z (List.mem_of_getElem? hz), hb.same sM, (hC.same s6).same sM, inB, iC, _, rfl, ite2 (fun e => ?_) (fun e => ?_)⟩
    · have sz : (List.filter (fun z => B.any fun b => tieS (tOf Tb) sd C z b) (left.take i)).length ≤ 1000 := by
        have h1 := List.length_filter_le (fun z => B.any fun b => tieS (tOf Tb) sd C z b) (left.take i)
        rw [List.length_take] at h1
        have h2 : left.length ≤ L.length := by omega
        omega
      refine ⟨_, rfl, _, upd_same, by rw [List.length_map]; exact small1000 sz, ?_⟩
      rw [upd_upd, filter_take hz, if_pos e, List.map_append]
      rfl
    · rw [filter_take hz, if_neg e, List.append_nil]
  rintro H4 rfl
  rw [List.length_map, List.take_length]
  have sM := same_new nM (.lst ((left.filter fun z => B.any fun b => tieS (tOf Tb) sd C z b).map vN))
  have grow := gr.more (p := fun z => B.any fun b => tieS (tOf Tb) sd C z b) (nodup_of_lt sl) fun z _ hz => by
    obtain ⟨y, hy, ht⟩ := List.any_eq_true.mp hz
    exact ⟨y, hy, by rw [tieS_comm]; exact ht⟩
  -- if len(more) == 0: break
  refine ⟨_, rfl, M, _, rfl, .inl (SqL.of upd_same), rfl, _, rfl, ite2 (fun e => ?_) (fun e => ?_)⟩
  · have e1 := V.int.inj (eq_yes e)
    have e0 : left.filter (fun z => B.any fun b => tieS (tOf Tb) sd C z b) = [] := List.eq_nil_of_length_eq_zero (by rw [List.length_map] at e1; omega)
    refine ⟨b, l, B, left, _, _, rfl, s6.trans sM, sM _ _ eF3, ls3.same sM, hb.same sM, hl3.same sM, nlF3, nbF, gr, fun y hy z hz => ?_⟩
    have h1 := filter_none e0 z hz
    have h2 : ¬ tieS (tOf Tb) sd C z y = true := fun q => by
      have : (B.any fun b => tieS (tOf Tb) sd C z b) = true := List.any_eq_true.mpr ⟨y, hy, q⟩
      rw [this] at h1
      cases h1
    rw [tieS_comm]
    exact Bool.eq_false_iff.mpr h2
  have hpos : 0 < (left.filter fun z => B.any fun b => tieS (tOf Tb) sd C z b).length := by
    cases q : left.filter (fun z => B.any fun b => tieS (tOf Tb) sd C z b) with
    | nil =>
      rw [q] at e
      exact absurd rfl (eq_no (fun z => e z))
    | cons a r => exact Nat.succ_pos _
  have oln := out_len (p := fun z => B.any fun b => tieS (tOf Tb) sd C z b) (l := left)
  -- bundle = bundle + more
  have szB : B.length + (left.filter fun z => B.any fun b => tieS (tOf Tb) sd C z b).length ≤ 1000 := by
    have h1 := grow.nd.length_le_of_subset fun y hy => sub y (grow.reach y hy).1
    rw [List.length_append] at h1
    omega
  refine ⟨_, rfl, _, rfl, b, M, _, _, rfl, rfl, sM _ _ hb, upd_same, by rw [List.length_map, List.length_map]; exact small szB, fun b2 nb2 => ?_⟩
  have s8 := same_new nb2 (.lst (B.map vN ++ (left.filter fun z => B.any fun b => tieS (tOf Tb) sd C z b).map vN))
  have s9 := sM.trans s8
  have eM : (upd (upd H3 M (.lst ((left.filter fun z => B.any fun b => tieS (tOf Tb) sd C z b).map vN))) b2 (.lst (B.map vN ++ (left.filter fun z => B.any fun b => tieS (tOf Tb) sd C z b).map vN))) M = some (.lst ((left.filter fun z => B.any fun b => tieS (tOf Tb) sd C z b).map vN)) := s8 _ _ upd_same
  have nFb2 : F ≠ b2 := ne_of_none (sM _ _ eF3) nb2
  have eb2 : LN (upd (upd H3 M (.lst ((left.filter fun z => B.any fun b => tieS (tOf Tb) sd C z b).map vN))) b2 (.lst (B.map vN ++ (left.filter fun z => B.any fun b => tieS (tOf Tb) sd C z b).map vN))) b2 (B ++ left.filter fun z => B.any fun b => tieS (tOf Tb) sd C z b) := by
    show upd _ b2 _ b2 = _
    rw [upd_same, List.map_append]
  generalize hH4 : upd (upd H3 M (.lst ((left.filter fun z => B.any fun b => tieS (tOf Tb) sd C z b).map vN))) b2 (.lst (B.map vN ++ (left.filter fun z => B.any fun b => tieS (tOf Tb) sd C z b).map vN)) = H4 at s8 s9 eM eb2
  -- left = [line for line in left if line not in more]
  refine ⟨_, rfl, l, rfl, ⟨_, SqL.of (s9 _ _ hl3)⟩, fun N nN => lc_list (K := K) (a := l) (xs := left.map vN)
    (fun i H5 => H5 = upd H4 N (.lst ((out (left.filter fun z => B.any fun b => tieS (tOf Tb) sd C z b) (left.take i)).map vN))) rfl (fun i H5 _ p => by rw [p]; exact SqL.of (same_new nN _ _ _ (s9 _ _ hl3))) ?_ ?_⟩
  · rintro i y H5 hi rfl
    obtain ⟨z, hz, rfl⟩ := get_num hi
    have sN := same_new nN (.lst ((out (left.filter fun z => B.any fun b => tieS (tOf Tb) sd C z b) (left.take i)).map vN))
    refine ⟨rfl, _, rfl, _, rfl, M, _, rfl, .inl (SqL.of (sN _ _ eM)), rfl, flat_nums, _, rfl, ?_⟩
    show if (!inV (vN z) ((left.filter fun z => B.any fun b => tieS (tOf Tb) sd C z b).map vN)) = true then _ else _
    rw [in_nums]
    refine ite2 (fun e => ?_) (fun e => ?_)
    · have sz : (out (left.filter fun z => B.any fun b => tieS (tOf Tb) sd C z b) (left.take i)).length ≤ 1000 := by
        have h1 := List.length_filter_le (fun y => !(left.filter fun z => B.any fun b => tieS (tOf Tb) sd C z b).contains y) (left.take i)
        rw [List.length_take] at h1
        show (List.filter _ _).length ≤ 1000
        omega
      refine ⟨_, rfl, _, upd_same, by rw [List.length_map]; exact small1000 sz, ?_⟩
      rw [upd_upd]
      unfold out
      rw [filter_take hz, if_pos e, List.map_append]
      rfl
    · unfold out
      rw [filter_take hz, if_neg e, List.append_nil]
  rintro H5 rfl
  rw [List.length_map, List.take_length]
  have sN := same_new nN (.lst ((out (left.filter fun z => B.any fun b => tieS (tOf Tb) sd C z b) left).map vN))
  have nFN : F ≠ N := ne_of_none (s9 _ _ eF3) nN
  exact ⟨b2, N, _, _, _, _, rfl, (s6.trans s9).trans sN, sN _ _ (s9 _ _ eF3), (ls3.same s9).same sN, eb2.same sN, upd_same, nFN.symm, nFb2.symm, grow, by omega⟩
end
end K9
set_option Elab.async false
set_option linter.all false
set_option maxRecDepth 100000
set_option maxHeartbeats 8000000
namespace K9
open PySem PySem.Spec PyProof.Rows L2
/-! ### the same sign by sign -/
theorem ty_tup {K : PySem.W.Frag} {H : Hp} {a : Addr} {xs : List V} (h : Rd H a (.tup xs)) : TyX K H (.ref a) (.type "tuple") := by
  rcases h with h | ⟨o, h⟩
  · exact .base (.tup h)
  · exact .fTuple h
def SameAt : Nat → Hp → V → V → Prop
  | 0, _, _, _ => False
  | n + 1, H, v, w => (∃ i, v = .int i ∧ w = .int i) ∨ (∃ z, v = .str z ∧ w = .str z) ∨
    ∃ (a b : Addr) (xs ys : List V), v = .ref a ∧ w = .ref b ∧ Rd H a (.tup xs) ∧ Rd H b (.tup ys) ∧ xs.length = ys.length ∧ xs.length ≤ 1000 ∧ ∀ (i : Nat) (x y : V), xs[i]? = some x → ys[i]? = some y → SameAt n H x y
theorem SameAt.more {H : Hp} : ∀ {n m : Nat} {v w : V}, SameAt n H v w → n ≤ m → SameAt m H v w
  | 0, _, _, _, h, _ => h.elim
  | n + 1, 0, _, _, _, h => by omega
  | n + 1, m + 1, v, w, h, le => by
    rcases h with h | h | ⟨a, b, xs, ys, e1, e2, h1, h2, h3, h4, h5⟩
    · exact .inl h
    · exact .inr (.inl h)
    · exact .inr (.inr ⟨a, b, xs, ys, e1, e2, h1, h2, h3, h4, fun i x y q1 q2 => (h5 i x y q1 q2).more (Nat.le_of_succ_le_succ le)⟩)
def spSame (n : Nat) : Sp := fun vs H Q _ => ∃ v w, vs = [v, w] ∧ SameAt n H v w ∧ Q (.bl true) H
section
variable {P : Program} {w : World} {K : PySem.W.Frag} {mg : Str → Option Value} {base : Heap}
theorem k_same1 (T : Bt mg) (D : DefAt K mg "_law_same" s_Lsame ["_law_told_here", "_law_due"]) {n : Nat} (c_Lsame : C8.Cal P w K mg base n "_law_same" (spSame n) []) : C8.Cal P w K mg base (n + 1) "_law_same" (spSame (n + 1)) [] := by
  refine D.cal sc_Lsame (fun vs H Q E h => ?_) (fun f cdv A outer s H vs Q E hr h => ?_)
  · obtain ⟨v, w, rfl, _⟩ := h
    rfl
  obtain ⟨v, w, rfl, hS, q⟩ := h
  refine ⟨_, pss_cons (ps_if (pt_val (pe_callB call_isi rfl T.isinstance (by decide +kernel) (pa_cons (pv 1) (pa_cons (pe_bltn (v := .ty "tuple") rfl T.tuple (by decide +kernel) rfl) pa_nil))))
        (pss_cons (ps_if (PW.pt (pw_or (pt_not (pt_val (pe_callB call_isi rfl T.isinstance (by decide +kernel) (pa_cons (pv 0) (pa_cons (pe_bltn (v := .ty "tuple") rfl T.tuple (by decide +kernel) rfl) pa_nil))))) (pw_or1 (pt_cmpR op_ne (pe_callB call_len_seq rfl T.len PySem.boot_len (pa_cons (pv 0) pa_nil)) (pe_callB call_len_seq rfl T.len PySem.boot_len (pa_cons (pv 1) pa_nil)) (nomark _)))))
          (pss_one (ps_ret pe_bl))
          pss_nil)
        (pss_cons (ps_for PassesOwn.never rfl (pi_range1 rfl T.range (pa_cons (pe_callB call_len_seq rfl T.len PySem.boot_len (pa_cons (pv 1) pa_nil)) pa_nil)) (pg_name (i := 2) sc_Lsame.nd rfl (Or.inl rfl))
          (pss_one (ps_if (pt_not (pt_val (C8.pe_c c_Lsame hr (Nat.le_refl _) rfl (pa_cons (pe_ix ix_tup (pv 0) (pv 2) (fun _ _ => rfl)) (pa_cons (pe_ix ix_tup (pv 1) (pv 2) (fun _ _ => rfl)) pa_nil)))))
            (pss_one (ps_ret pe_bl))
            pss_nil)))
        (pss_one (ps_ret pe_bl))))
        pss_nil)
      (pss_cons (ps_if (pt_val (pe_callB call_isi rfl T.isinstance (by decide +kernel) (pa_cons (pv 1) (pa_cons (pe_bltn (v := .ty "str") rfl T.str (by decide +kernel) rfl) pa_nil))))
        (pss_one (ps_ret (pe_and (pe_callB call_isi rfl T.isinstance (by decide +kernel) (pa_cons (pv 0) (pa_cons (pe_bltn (v := .ty "str") rfl T.str (by decide +kernel) rfl) pa_nil))) (pe_one (pe_cmpR op_eq (pv 0) (pv 1) (nomark _))))))
        pss_nil)
      (pss_one (ps_ret (pe_and (pe_callB call_isi rfl T.isinstance (by decide +kernel) (pa_cons (pv 0) (pa_cons (pe_bltn (v := .ty "int") rfl T.int (by decide +kernel) rfl) pa_nil))) (pe_and (pe_not (pe_callB call_isi rfl T.isinstance (by decide +kernel) (pa_cons (pv 0) (pa_cons (pe_bltn (v := .ty "bool") rfl T.bool (by decide +kernel) rfl) pa_nil)))) (pe_one (pe_cmpR op_eq (pv 0) (pv 1) (nomark _)))))))), ?_⟩
  rcases hS with ⟨i, rfl, rfl⟩ | ⟨z, rfl, rfl⟩ | ⟨a, b, xs, ys, rfl, rfl, h1, h2, h3, h4, h5⟩
  · refine ⟨_, rfl, _, _, _, _, false, rfl, .ty _, .base (.int i), kit_ty (by decide +kernel), _, rfl, iteF ?_⟩
    refine ⟨_, rfl, _, _, _, _, false, rfl, .ty _, .base (.int i), kit_ty (by decide +kernel), _, rfl, iteF ?_⟩
    refine ⟨_, rfl, _, _, _, _, true, rfl, .ty _, .base (.int i), kit_ty (by decide +kernel), _, rfl, iteT ?_⟩
    refine ⟨_, rfl, _, _, _, _, false, rfl, .ty _, .base (.int i), kit_ty (by decide +kernel), _, rfl, _, rfl, iteT ?_⟩
    refine ⟨_, rfl, _, rfl, rfl, ?_⟩
    rw [decide_eq_true rfl]
    exact q
  · refine ⟨_, rfl, _, _, _, _, false, rfl, .ty _, .base (.str z), kit_ty (by decide +kernel), _, rfl, iteF ?_⟩
    refine ⟨_, rfl, _, _, _, _, true, rfl, .ty _, .base (.str z), kit_ty (by decide +kernel), _, rfl, iteT ?_⟩
    refine ⟨_, rfl, _, _, _, _, true, rfl, .ty _, .base (.str z), kit_ty (by decide +kernel), _, rfl, iteT ?_⟩
    refine ⟨_, rfl, _, rfl, rfl, ?_⟩
    rw [decide_eq_true rfl]
    exact q
  · refine ⟨_, rfl, _, _, _, _, true, rfl, .ty _, ty_tup h2, kit_ty (by decide +kernel), _, rfl, iteT ?_⟩
    refine ⟨_, rfl, _, _, _, _, true, rfl, .ty _, ty_tup h1, kit_ty (by decide +kernel), _, rfl, iteF ?_⟩
    refine ⟨_, rfl, a, xs, rfl, .inr ((.inl h1)), _, rfl, b, ys, rfl, .inr ((.inl h2)), rfl, _, rfl, ?_⟩
    refine iteNS (by rw [h3]) ?_
    refine ⟨_, rfl, b, ys, rfl, .inr ((.inl h2)), _, rfl, by omega, by omega, for_range (n := ((ys.length : Nat) : Int).toNat) (fun k σ H' => H' = H ∧ ∃ v2, σ = [some (.ref a), some (.ref b), v2])
      ⟨rfl, none, rfl⟩ ?_ ?_⟩
    · rintro k σ H' hk ⟨rfl, v2, rfl⟩
      have lx : k < xs.length := by omega
      have ly : k < ys.length := by omega
      have ex : xs[k]? = some xs[k] := List.getElem?_eq_getElem lx
      have ey : ys[k]? = some ys[k] := List.getElem?_eq_getElem ly
      refine ⟨_, rfl, _, rfl, a, xs, _, _, rfl, rfl, (.inl h1), at_of (j := k) (by omega) ex, _, rfl, _, rfl, b, ys, _, _, rfl, rfl, (.inl h2), at_of (j := k) (by omega) ey, ?_⟩
      exact ⟨_, _, rfl, h5 k _ _ ex ey, _, rfl, iteF ⟨rfl, _, rfl⟩⟩
    · rintro σ H' ⟨rfl, v2, rfl⟩
      exact q
theorem k_same (T : Bt mg) (D : DefAt K mg "_law_same" s_Lsame ["_law_told_here", "_law_due"]) : ∀ n : Nat, C8.Cal P w K mg base n "_law_same" (spSame n) []
  | 0 => D.cal_no fun vs H Q E h => by
    obtain ⟨v, w, _, h, _⟩ := h
    exact h
  | n + 1 => k_same1 T D (k_same T D n)
end
end K9
set_option Elab.async false
set_option linter.all false
set_option maxRecDepth 100000
set_option maxHeartbeats 8000000
namespace K9
open PySem PySem.Spec PyProof.Rows L2
/-! ### one by one -/
def Each {β α : Type} (R : β → α → Prop) (as : List β) (xs : List α) : Prop := as.length = xs.length ∧ ∀ (i : Nat) (a : β) (x : α), as[i]? = some a → xs[i]? = some x → R a x
theorem Each.nil {β α : Type} {R : β → α → Prop} : Each R [] [] := ⟨rfl, fun i a x h => by simp at h⟩
theorem Each.imp {β α : Type} {R R' : β → α → Prop} {as : List β} {xs : List α} (h : Each R as xs) (f : ∀ a x, R a x → R' a x) : Each R' as xs := ⟨h.1, fun i a x e1 e2 => f a x (h.2 i a x e1 e2)⟩
theorem Each.append {β α : Type} {R : β → α → Prop} {as bs : List β} {xs ys : List α} (h : Each R as xs) (k : Each R bs ys) : Each R (as ++ bs) (xs ++ ys) := by
  refine ⟨by rw [List.length_append, List.length_append, h.1, k.1], fun i a x e1 e2 => ?_⟩
  by_cases hi : i < as.length
  · rw [List.getElem?_append_left hi] at e1
    rw [List.getElem?_append_left (by rw [← h.1]; exact hi)] at e2
    exact h.2 i a x e1 e2
  · rw [List.getElem?_append_right (by omega)] at e1
    rw [List.getElem?_append_right (by rw [← h.1]; omega), ← h.1] at e2
    exact k.2 _ a x e1 e2
theorem Each.one {β α : Type} {R : β → α → Prop} {a : β} {x : α} (h : R a x) : Each R [a] [x] := by
  refine ⟨rfl, fun i b y e1 e2 => ?_⟩
  cases i with
  | zero =>
    have e1 : a = b := Option.some.inj e1
    have e2 : x = y := Option.some.inj e2
    subst e1 e2
    exact h
  | succ i => simp at e1
theorem Each.get {β α : Type} {R : β → α → Prop} {as : List β} {xs : List α} (h : Each R as xs) {i : Nat} {a : β} (e : as[i]? = some a) : ∃ x, xs[i]? = some x ∧ R a x := by
  have l := lt_of_get e
  rw [h.1] at l
  obtain ⟨x, hx⟩ := get_of_lt l
  exact ⟨x, hx, h.2 i a x e hx⟩
theorem Each.at {β α : Type} {R : β → α → Prop} {as : List β} {xs : List α} (h : Each R as xs) {i : Nat} {x : α} (e : xs[i]? = some x) : ∃ a, as[i]? = some a ∧ R a x := by
  have l := lt_of_get e
  rw [← h.1] at l
  obtain ⟨a, ha⟩ := get_of_lt l
  exact ⟨a, ha, h.2 i a x ha e⟩
/-- a part of the law's: its word, rows, columns -/
def kindOf (b : Bool) : Str := if b = true then "even" else "knot"
def PartAt (H : Hp) (a : Addr) (p : Bool × List Nat × List Nat) : Prop := ∃ r c, H a = some (.tup [.str (kindOf p.1), .ref r, .ref c]) ∧ TN H r p.2.1 ∧ TN H c p.2.2
theorem PartAt.same {H H' : Hp} {a : Addr} {p : Bool × List Nat × List Nat} (h : PartAt H a p) (s : Same H H') : PartAt H' a p := by
  obtain ⟨r, c, h1, h2, h3⟩ := h
  exact ⟨r, c, s _ _ h1, h2.same s, h3.same s⟩
theorem even_ne_knot : ¬ (("even" : Str) = "knot") := by decide +kernel
def spLparts (n : Nat) : Sp := fun vs H Q _ => ∃ (ta lr lc : Addr) (T : List (List Int)) (X Y : Nat) (R C : List Nat), vs = [.ref ta, .ref lr, .ref lc] ∧ TabAt H ta T ∧ Rect T X Y ∧ TN H lr R ∧ TN H lc C ∧ Good R C ∧ (∀ x ∈ R, x < X) ∧ (∀ y ∈ C, y < Y) ∧
  R.length + C.length ≤ n ∧ R.length + C.length ≤ 30 ∧ ∀ (H' : Hp) (p : Addr) (as : List Addr), Same H H' → H p = none → H' p = some (.lst (as.map V.ref)) → Each (PartAt H') as (parts (tOf T) R C) → Q (.ref p) H'
theorem cnt900 {R C : List Nat} (h : R.length + C.length ≤ 30) : R.length * C.length ≤ 900 := Nat.mul_le_mul (show R.length ≤ 30 by omega) (show C.length ≤ 30 by omega)
theorem flat_take {α β : Type} {f : α → List β} {l : List α} {i : Nat} {x : α} (h : l[i]? = some x) : (l.take (i + 1)).flatMap f = (l.take i).flatMap f ++ f x := by
  rw [take_more h, List.flatMap_append, List.flatMap_singleton]
theorem flat_le {α β : Type} {f : α → List β} {l : List α} {i : Nat} : ((l.take i).flatMap f).length ≤ (l.flatMap f).length := by
  conv => rhs; rw [← List.take_append_drop i l, List.flatMap_append, List.length_append]
  omega
section
variable {P : Program} {w : World} {K : PySem.W.Frag} {mg : Str → Option Value} {base : Heap}
theorem k_Lparts1 (T : Bt mg) (c_Lis_even : C8.Cal P w K mg base 1 "_law_is_even" spLeven []) (c_Lbundles : C8.Cal P w K mg base 3 "_law_bundles" spLbundles []) (D : DefAt K mg "_law_parts" s_Lparts ["_law_table", "_law_rows", "_law_columns"]) {n : Nat}
    (c_Lparts : C8.Cal P w K mg base (n + 3) "_law_parts" (spLparts n) []) : C8.Cal P w K mg base (n + 1 + 3) "_law_parts" (spLparts (n + 1)) [] := by
  refine D.cal (k := n + 3) sc_Lparts (fun vs H Q E h => ?_) (fun f cdv A outer s H vs Q E hr h => ?_)
  · obtain ⟨ta, lr, lc, Tb, X, Y, R, C, rfl, _⟩ := h
    rfl
  obtain ⟨ta, lr, lc, Tb, X, Y, R, C, rfl, hT, RT, hR, hC, g, iR, iC, le, le30, q⟩ := h
  refine ⟨_, pss_cons (ps_if (pt_val (C8.pe_c c_Lis_even hr (by omega) rfl (pa_cons (pv 0) (pa_cons (pv 1) (pa_cons (pv 2) pa_nil)))))
        (pss_one (ps_ret (pe_lst (pa_cons (pe_tup (pa_cons pe_str (pa_cons (pv 1) (pa_cons (pv 2) pa_nil)))) pa_nil))))
        pss_nil)
      (pss_cons (ps_set (i := 3) sc_Lparts.nd rfl (Or.inl rfl) (pe_lst pa_nil))
      (pss_cons (ps_set (i := 4) sc_Lparts.nd rfl (Or.inl rfl) (C8.pe_c c_Lbundles hr (by omega) rfl (pa_cons (pv 0) (pa_cons pe_int (pa_cons (pv 1) (pa_cons (pv 2) pa_nil))))))
      (pss_cons (ps_if (pt_cmpR op_gt (pe_callB call_len_seq rfl T.len PySem.boot_len (pa_cons (pv 4) pa_nil)) pe_int (nomark _))
        (pss_cons (ps_for PassesOwn.never rfl (pi_list (pv 4)) (pg_name (i := 5) sc_Lparts.nd rfl (Or.inl rfl))
          (pss_one (ps_set (i := 3) sc_Lparts.nd rfl (Or.inl rfl) (pe_op op_cat (pv 3) (C8.pe_c c_Lparts hr (by omega) rfl (pa_cons (pv 0) (pa_cons (pv 5) (pa_cons (pv 2) pa_nil))))))))
        (pss_one (ps_ret (pv 3))))
        pss_nil)
      (pss_cons (ps_set (i := 4) sc_Lparts.nd rfl (Or.inl rfl) (C8.pe_c c_Lbundles hr (by omega) rfl (pa_cons (pv 0) (pa_cons pe_int (pa_cons (pv 2) (pa_cons (pv 1) pa_nil))))))
      (pss_cons (ps_if (pt_cmpR op_gt (pe_callB call_len_seq rfl T.len PySem.boot_len (pa_cons (pv 4) pa_nil)) pe_int (nomark _))
        (pss_cons (ps_for PassesOwn.never rfl (pi_list (pv 4)) (pg_name (i := 5) sc_Lparts.nd rfl (Or.inl rfl))
          (pss_one (ps_set (i := 3) sc_Lparts.nd rfl (Or.inl rfl) (pe_op op_cat (pv 3) (C8.pe_c c_Lparts hr (by omega) rfl (pa_cons (pv 0) (pa_cons (pv 1) (pa_cons (pv 5) pa_nil))))))))
        (pss_one (ps_ret (pv 3))))
        pss_nil)
      (pss_one (ps_ret (pe_lst (pa_cons (pe_tup (pa_cons pe_str (pa_cons (pv 1) (pa_cons (pv 2) pa_nil)))) pa_nil))))))))), ?_⟩
  have cnt := Nat.le_trans (parts_cnt (t := tOf Tb) g) (cnt900 le30)
  -- a list of one part
  have single : ∀ (H1 : Hp) (b : Bool), Same H H1 → parts (tOf Tb) R C = [(b, R, C)] → ∀ t, H1 t = none → ([V.ref t] : List V).length ≤ sizeLine ∧ ∀ p, (upd H1 t (.tup [.str (kindOf b), .ref lr, .ref lc])) p = none → Q (.ref p) (upd (upd H1 t (.tup [.str (kindOf b), .ref lr, .ref lc])) p (.lst [V.ref t])) := by
    intro H1 b s1 eb t nt
    refine ⟨by show 1 ≤ sizeLine; decide, fun p np => ?_⟩
    have s2 : Same H1 (upd H1 t (.tup [.str (kindOf b), .ref lr, .ref lc])) := same_new nt _
    have s3 := s2.trans (same_new np (.lst [V.ref t]))
    refine q _ p [t] (s1.trans s3) (s1.free (s2.free np)) upd_same ?_
    rw [eb]
    refine Each.one ⟨lr, lc, ?_, (hR.same s1).same s3, (hC.same s1).same s3⟩
    exact same_new np _ _ _ upd_same
  -- if is_even: return [("even", rows, columns)]
  refine ⟨_, rfl, _, rfl, _, rfl, ta, lr, lc, Tb, X, Y, R, C, rfl, hT, RT, hR, hC, g, iR, iC, _, rfl, ite2 (fun e => ?_) (fun e => ?_)⟩
  · refine ⟨_, rfl, _, rfl, by show 3 ≤ sizeLine; decide, fun t nt => ?_⟩
    have eb := parts_none g (cut_even e)
    rw [e] at eb
    exact single H true (Same.refl H) eb t nt
  refine ⟨Nat.zero_le _, fun F nF => ?_⟩
  have s1 : Same H (upd H F (.lst [])) := same_new nF _
  -- bundles of rows
  refine ⟨_, rfl, _, rfl, _, rfl, ta, lr, lc, Tb, X, Y, false, R, C, rfl, hT.same s1, RT, hR.same s1, hC.same s1, g.rs, by omega, iR, iC, fun H1 B as s2 nB eB ls => ?_⟩
  have s3 := s1.trans s2
  have nF1 : F ≠ B := ne_of_none (show upd H F (.lst []) F = some (.lst []) from upd_same) nB
  have eF1 : H1 F = some (.lst []) := s2 _ _ upd_same
  have ls : Each (TN H1) as (RB (tOf Tb) R C) := ls
  have el := ls.1
  refine ⟨_, rfl, B, _, rfl, .inl (SqL.of eB), _, _, rfl, rfl, _, rfl, ite2 (fun c => ?_) (fun c => ?_)⟩
  · have c1 : ((as.map V.ref).length : Int) > 0 + 1 := by
      have := of_decide_eq_true c
      omega
    have c2 : 1 < (RB (tOf Tb) R C).length := by
      rw [List.length_map, el] at c1
      omega
    have ec := cut_row e c2
    have ct := cut_spec g ec
    have ep0 := parts_some g ec
    have ep0 : parts (tOf Tb) R C = (RB (tOf Tb) R C).flatMap fun b => parts (tOf Tb) b C := ep0
    refine ⟨_, rfl, B, rfl, ⟨_, SqL.of eB⟩, for_list (K := K) (a := B) (xs := as.map V.ref) (fun i σ H2 => ∃ (l : Addr) (fs : List Addr) (v5 : Option V), σ = [some (.ref ta), some (.ref lr), some (.ref lc), some (.ref l), some (.ref B), v5] ∧ Same H1 H2 ∧ (H l = none) ∧
        H2 l = some (.lst (fs.map V.ref)) ∧ Each (PartAt H2) fs (((RB (tOf Tb) R C).take i).flatMap fun b => parts (tOf Tb) b C))
      ⟨F, [], none, rfl, Same.refl H1, nF, eF1, Each.nil⟩ (fun i σ H2 _ p => by obtain ⟨_, _, _, _, s, _⟩ := p; exact SqL.of (s _ _ eB)) ?_ ?_⟩
    · rintro i y σ H2 hi ⟨l, fs, v5, rfl, s4, nl, ef, ee⟩
      obtain ⟨a, ha, rfl⟩ := get_ref hi
      obtain ⟨b, hbi, hb⟩ := ls.get ha
      have hbm := List.mem_of_getElem? hbi
      have lb : (subR false b R).length + (subC false b C).length ≤ n := by
        have := ct.less b hbm
        omega
      have lt := ct.less b hbm
      have lb30 : (subR false b R).length + (subC false b C).length ≤ 30 := by omega
      refine ⟨_, rfl, ?_⟩
      refine ⟨_, rfl, _, rfl, _, rfl, ta, a, lc, Tb, X, Y, b, C, rfl, (hT.same s3).same s4, RT, hb.same s4, (hC.same s3).same s4, (ct.good b hbm), (fun x hx => iR x ((ct.sub b hbm).1 x hx)), iC, lb, lb30, fun H3 p bs s5 np ep es => ?_⟩
      have npl : l ≠ p := ne_of_none ef np
      have tot := flat_le (f := fun b => parts (tOf Tb) b C) (l := RB (tOf Tb) R C) (i := i + 1)
      rw [← ep0] at tot
      have szz : fs.length + bs.length ≤ 1000 := by
        have h1 := congrArg List.length (flat_take (f := fun b => parts (tOf Tb) b C) hbi)
        rw [List.length_append, ← ee.1] at h1
        have h2 : bs.length = (parts (tOf Tb) b C).length := es.1
        omega
      refine ⟨l, p, _, _, rfl, rfl, s5 _ _ ef, ep, by rw [List.length_map, List.length_map]; exact small szz, fun z nz => ?_⟩
      have s6 := same_new nz (.lst (fs.map V.ref ++ bs.map V.ref))
      refine ⟨z, fs ++ bs, _, rfl, (s4.trans s5).trans s6, s3.free (s4.free (s5.free nz)), by rw [upd_same, List.map_append], ?_⟩
      rw [flat_take hbi]
      exact (ee.imp fun a x h => (h.same s5).same s6).append (es.imp fun a x h => h.same s6)
    · rintro σ H2 ⟨l, fs, v5, rfl, s4, nl, ef, ee⟩
      rw [List.length_map, el, List.take_length, ← ep0] at ee
      exact ⟨_, rfl, q H2 l fs (s3.trans s4) nl ef ee⟩
  have c0 : ¬ 1 < (RB (tOf Tb) R C).length := fun z => c (by
    refine decide_eq_true ?_
    rw [List.length_map, el]
    omega)
  have eF0 := eF1
  -- bundles of columns
  have s30 := s3
  refine ⟨_, rfl, _, rfl, _, rfl, ta, lc, lr, Tb, X, Y, true, C, R, rfl, hT.same s3, RT, hC.same s3, hR.same s3, g.cs, by omega, iC, iR, fun H2 B2 as2 t2 nB2 eB2 ls2 => ?_⟩
  have s3 := s30.trans t2
  have eF1 : H2 F = some (.lst []) := t2 _ _ eF0
  have ls : Each (TN H2) as2 (CB (tOf Tb) R C) := ls2
  have el := ls.1
  refine ⟨_, rfl, B2, _, rfl, .inl (SqL.of eB2), _, _, rfl, rfl, _, rfl, ite2 (fun c => ?_) (fun c => ?_)⟩
  · have c1 : ((as2.map V.ref).length : Int) > 0 + 1 := by
      have := of_decide_eq_true c
      omega
    have c2 : 1 < (CB (tOf Tb) R C).length := by
      rw [List.length_map, el] at c1
      omega
    have ec := cut_col e c0 c2
    have ct := cut_spec g ec
    have ep0 := parts_some g ec
    have ep0 : parts (tOf Tb) R C = (CB (tOf Tb) R C).flatMap fun b => parts (tOf Tb) R b := ep0
    refine ⟨_, rfl, B2, rfl, ⟨_, SqL.of eB2⟩, for_list (K := K) (a := B2) (xs := as2.map V.ref) (fun i σ H4 => ∃ (l : Addr) (fs : List Addr) (v5 : Option V), σ = [some (.ref ta), some (.ref lr), some (.ref lc), some (.ref l), some (.ref B2), v5] ∧ Same H2 H4 ∧ (H l = none) ∧
        H4 l = some (.lst (fs.map V.ref)) ∧ Each (PartAt H4) fs (((CB (tOf Tb) R C).take i).flatMap fun b => parts (tOf Tb) R b))
      ⟨F, [], none, rfl, Same.refl H2, nF, eF1, Each.nil⟩ (fun i σ H4 _ p => by obtain ⟨_, _, _, _, s, _⟩ := p; exact SqL.of (s _ _ eB2)) ?_ ?_⟩
    · rintro i y σ H4 hi ⟨l, fs, v5, rfl, s4, nl, ef, ee⟩
      obtain ⟨a, ha, rfl⟩ := get_ref hi
      obtain ⟨b, hbi, hb⟩ := ls.get ha
      have hbm := List.mem_of_getElem? hbi
      have lb : (subR true b R).length + (subC true b C).length ≤ n := by
        have := ct.less b hbm
        omega
      have lt := ct.less b hbm
      have lb30 : (subR true b R).length + (subC true b C).length ≤ 30 := by omega
      refine ⟨_, rfl, ?_⟩
      refine ⟨_, rfl, _, rfl, _, rfl, ta, lr, a, Tb, X, Y, R, b, rfl, (hT.same s3).same s4, RT, (hR.same s3).same s4, hb.same s4, (ct.good b hbm), iR, (fun x hx => iC x ((ct.sub b hbm).2 x hx)), lb, lb30, fun H3 p bs s5 np ep es => ?_⟩
      have npl : l ≠ p := ne_of_none ef np
      have tot := flat_le (f := fun b => parts (tOf Tb) R b) (l := CB (tOf Tb) R C) (i := i + 1)
      rw [← ep0] at tot
      have szz : fs.length + bs.length ≤ 1000 := by
        have h1 := congrArg List.length (flat_take (f := fun b => parts (tOf Tb) R b) hbi)
        rw [List.length_append, ← ee.1] at h1
        have h2 : bs.length = (parts (tOf Tb) R b).length := es.1
        omega
      refine ⟨l, p, _, _, rfl, rfl, s5 _ _ ef, ep, by rw [List.length_map, List.length_map]; exact small szz, fun z nz => ?_⟩
      have s6 := same_new nz (.lst (fs.map V.ref ++ bs.map V.ref))
      refine ⟨z, fs ++ bs, _, rfl, (s4.trans s5).trans s6, s3.free (s4.free (s5.free nz)), by rw [upd_same, List.map_append], ?_⟩
      rw [flat_take hbi]
      exact (ee.imp fun a x h => (h.same s5).same s6).append (es.imp fun a x h => h.same s6)
    · rintro σ H4 ⟨l, fs, v5, rfl, s4, nl, ef, ee⟩
      rw [List.length_map, el, List.take_length, ← ep0] at ee
      exact ⟨_, rfl, q H4 l fs (s3.trans s4) nl ef ee⟩
  have c2 : ¬ 1 < (CB (tOf Tb) R C).length := fun z => c (by
    refine decide_eq_true ?_
    rw [List.length_map, el]
    omega)
  refine ⟨_, rfl, _, rfl, by show 3 ≤ sizeLine; decide, fun t nt => ?_⟩
  have eb := parts_none g (cut_knot c0 c2)
  rw [Bool.eq_false_iff.mpr e] at eb
  exact single H2 false s3 eb t nt
theorem k_Lparts (T : Bt mg) (c_Lis_even : C8.Cal P w K mg base 1 "_law_is_even" spLeven []) (c_Lbundles : C8.Cal P w K mg base 3 "_law_bundles" spLbundles []) (D : DefAt K mg "_law_parts" s_Lparts ["_law_table", "_law_rows", "_law_columns"]) :
    ∀ n : Nat, C8.Cal P w K mg base (n + 3) "_law_parts" (spLparts n) []
  | 0 => D.cal_no fun vs H Q E h => by
    obtain ⟨ta, lr, lc, Tb, X, Y, R, C, _, _, _, _, _, g, _, _, le, _⟩ := h
    have := g.len
    omega
  | n + 1 => k_Lparts1 T c_Lis_even c_Lbundles D (k_Lparts T c_Lis_even c_Lbundles D n)
end
end K9
set_option Elab.async false
set_option linter.all false
set_option maxRecDepth 100000
set_option maxHeartbeats 8000000
namespace K9
open PySem PySem.Spec PyProof.Rows L2
theorem rgV_nat (n : Nat) : rgV 0 (n : Int) = (List.range n).map vN := by
  unfold rgV
  have : ((n : Int) - 0).toNat = n := by omega
  rw [this]
  refine List.map_congr_left fun i _ => ?_
  show V.int (0 + (i : Int)) = V.int (i : Int)
  rw [Int.zero_add]
/-- the rows and the columns of a table -/
theorem tab_row {H : Hp} {ta : Addr} {T : List (List Int)} {X Y : Nat} (h : TabAt H ta T) (R : Rect T X Y) :
    ∃ (as : List Addr) (a : Addr) (r : List Int), H ta = some (.tup (as.map V.ref)) ∧ as.length = X ∧ atI (as.map V.ref) 0 = some (.ref a) ∧ H a = some (.tup (r.map V.int)) ∧ r.length = Y := by
  obtain ⟨as, a, r, h1, h2, h3, h4, h5, _⟩ := tab_at h R (x := 0) R.x0
  exact ⟨as, a, r, h1, h2, h3, h4, h5⟩
def spLwhole : Sp := fun vs H Q _ => ∃ (ta : Addr) (T : List (List Int)) (X Y : Nat), vs = [.ref ta] ∧ TabAt H ta T ∧ Rect T X Y ∧ X + Y ≤ 20 ∧
  ∀ (H' : Hp) (p : Addr) (as : List Addr), Same H H' → H p = none → H' p = some (.lst (as.map V.ref)) → Each (PartAt H') as (parts (tOf T) (List.range X) (List.range Y)) → Q (.ref p) H'
def spLknot : Sp := fun vs H Q _ => ∃ (ta : Addr) (T : List (List Int)) (X Y : Nat), vs = [.ref ta] ∧ TabAt H ta T ∧ Rect T X Y ∧ X + Y ≤ 20 ∧
  ∀ (H' : Hp) (v : V), Same H H' → (v = .non ↔ free (tOf T) (List.range X) (List.range Y)) → Q v H'
theorem cut_more (x y z : V) : cutV [x, y, z] (some 1) none = [y, z] := cut_rest x [y, z]
section
variable {P : Program} {w : World} {K : PySem.W.Frag} {mg : Str → Option Value} {base : Heap}
theorem k_Lwhole (T : Bt mg) (c_Lparts : C8.Cal P w K mg base 23 "_law_parts" (spLparts 20) []) (D : DefAt K mg "_law_whole_parts" s_Lwhole_parts ["_law_table"]) : C8.Cal P w K mg base 24 "_law_whole_parts" spLwhole [] := by
  refine D.cal sc_Lwhole_parts (fun vs H Q E h => ?_) (fun f cdv A outer s H vs Q E hr h => ?_)
  · obtain ⟨ta, Tb, X, Y, rfl, _⟩ := h
    rfl
  obtain ⟨ta, Tb, X, Y, rfl, hT, RT, le, q⟩ := h
  refine ⟨_, pss_one (ps_ret (C8.pe_c c_Lparts hr (by decide) rfl (pa_cons (pv 0) (pa_cons (pe_tupRgX rfl rfl T.tuple (prg_1 rfl T.range (pe_callB call_len_seq rfl T.len PySem.boot_len (pa_cons (pv 0) pa_nil)))) (pa_cons (pe_tupRgX rfl rfl T.tuple (prg_1 rfl T.range (pe_callB call_len_seq rfl T.len PySem.boot_len (pa_cons (pe_ix ix_tup (pv 0) pe_int (fun _ _ => rfl)) pa_nil)))) pa_nil))))), ?_⟩
  obtain ⟨as, a, r, h1, h2, h3, h4, h5⟩ := tab_row hT RT
  have xm := RT.xm
  have ym := RT.ym
  refine ⟨_, rfl, _, rfl, ta, _, rfl, .inr (SqT.of h1), _, rfl, RgOk.of_le (by omega) (by rw [List.length_map]; omega) (by omega) (by omega), fun l ul nl xl => ?_⟩
  have e1 : rgV 0 ((as.map V.ref).length : Int) = (List.range X).map vN := by
    rw [List.length_map, h2]
    exact rgV_nat X
  rw [e1] at xl
  have s1 := same_new nl ul
  refine ⟨_, rfl, ta, _, _, _, rfl, rfl, SqT.of (s1 _ _ h1), h3, a, _, rfl, .inr (SqT.of (s1 _ _ h4)), _, rfl, RgOk.of_le (by omega) (by rw [List.length_map]; omega) (by omega) (by omega), fun m um nm xm' => ?_⟩
  have e2 : rgV 0 ((r.map V.int).length : Int) = (List.range Y).map vN := by
    rw [List.length_map, h5]
    exact rgV_nat Y
  rw [e2] at xm'
  have s2 := s1.trans (same_new nm um)
  have lr : TN (upd (upd H l ul) m um) l (List.range X) := ⟨ul, xl, same_new nm _ _ _ upd_same⟩
  exact ⟨ta, l, m, Tb, X, Y, _, _, rfl, hT.same s2, RT, lr, ⟨um, xm', upd_same⟩, good_range RT.x0 RT.y0, fun x hx => List.mem_range.mp hx, fun y hy => List.mem_range.mp hy, by rw [List.length_range, List.length_range]; exact le,
    by rw [List.length_range, List.length_range]; omega, fun H' p bs s3 np ep es => q H' p bs (s2.trans s3) (s2.free np) ep es⟩
theorem k_Lknot (T : Bt mg) (c_Lwhole_parts : C8.Cal P w K mg base 24 "_law_whole_parts" spLwhole []) (D : DefAt K mg "_law_knot" s_Lknot ["_law_table"]) : C8.Cal P w K mg base 25 "_law_knot" spLknot [] := by
  refine D.cal sc_Lknot (fun vs H Q E h => ?_) (fun f cdv A outer s H vs Q E hr h => ?_)
  · obtain ⟨ta, Tb, X, Y, rfl, _⟩ := h
    rfl
  obtain ⟨ta, Tb, X, Y, rfl, hT, RT, le, q⟩ := h
  refine ⟨_, pss_cons (ps_setLc (own := [("_law_part", 2)]) (g := gName 2) (i := 1) rfl sc_Lknot.nd rfl rfl (sw_true rfl rfl rfl (by decide +kernel)) (pi_list (C8.pe_c c_Lwhole_parts hr (by decide) rfl (pa_cons (pv 0) pa_nil))) (by exact (show BlkOk ["_law_table", "_law_knots", "_law_part"] (defScope s_Lknot) _ [("_law_part", 2)] from blkOk_by (by decide +kernel))) (fun _ _ _ _ _ => (pg_name (i := 2) sc_Lknot.nd rfl (Or.inl rfl))) (fun _ _ _ _ _ => pts_one (pt_cmpR op_eq (pe_ix (ixT K) (pv 2) pe_int (fun _ _ => rfl)) pe_str (nomark _))) (fun _ _ _ _ _ => (pv 2)))
      (pss_cons (ps_if (pt_cmpR op_eq (pe_callB call_len_seq rfl T.len PySem.boot_len (pa_cons (pv 1) pa_nil)) pe_int (nomark _))
        (pss_one (ps_ret pe_non))
        pss_nil)
      (pss_one (ps_ret (pe_slice sl_tupA (pe_ix ix_list (pv 1) pe_int (fun _ _ => rfl)) (po_some pe_int) po_none)))), ?_⟩
  have g : Good (List.range X) (List.range Y) := good_range RT.x0 RT.y0
  refine ⟨_, rfl, ta, Tb, X, Y, rfl, hT, RT, le, fun H1 p as s1 np ep es => ⟨p, rfl, ⟨_, SqL.of ep⟩, fun M nM => ?_⟩⟩
  have npM : p ≠ M := ne_of_none ep nM
  refine lc_list (K := K) (a := p) (xs := as.map V.ref) (fun i H2 => ∃ ks : List Addr, H2 = upd H1 M (.lst (ks.map V.ref)) ∧ ks.length ≤ i ∧ (∀ k ∈ ks, k ∈ as) ∧
      (ks = [] ↔ ∀ j, j < i → ∀ pt, (parts (tOf Tb) (List.range X) (List.range Y))[j]? = some pt → pt.1 = true))
    ⟨[], rfl, Nat.le_refl _, fun k hk => by simp at hk, ⟨fun _ j hj => absurd hj (Nat.not_lt_zero _), fun _ => rfl⟩⟩ (fun i H2 _ pp => by obtain ⟨ks, e, _⟩ := pp; rw [e]; exact SqL.of (same_new nM _ _ _ ep)) ?_ ?_
  · rintro i y H2 hi ⟨ks, rfl, lk, mk, iff⟩
    obtain ⟨a, ha, rfl⟩ := get_ref hi
    obtain ⟨pt, hpt, r, c, e1, e2, e3⟩ := es.get ha
    have li := lt_of_get ha
    have cnt := parts_cnt (t := tOf Tb) g
    have e900 := cnt900 (R := List.range X) (C := List.range Y) (by rw [List.length_range, List.length_range]; omega)
    have la := es.1
    refine ⟨rfl, _, rfl, a, _, _, _, rfl, rfl, SqT.of (same_new nM _ _ _ e1), atI_nat (j := 0) rfl, rfl, _, rfl, ?_⟩
    obtain ⟨b, R, C⟩ := pt
    cases b with
    | true =>
      have en : ¬ (V.str (kindOf true) = V.str "knot") := fun z => even_ne_knot (V.str.inj z)
      show if decide (V.str (kindOf true) = V.str "knot") = true then _ else _
      rw [decide_eq_false en]
      refine iteF ⟨ks, rfl, by omega, mk, ?_⟩
      constructor
      · intro ek j hj pt hp
        by_cases hji : j < i
        · exact iff.mp ek j hji pt hp
        · have : j = i := by omega
          subst this
          rw [hpt] at hp
          cases hp
          rfl
      · intro f
        exact iff.mpr fun j hj => f j (by omega)
    | false =>
      show if decide (V.str (kindOf false) = V.str "knot") = true then _ else _
      have en : V.str (kindOf false) = V.str "knot" := rfl
      rw [decide_eq_true en]
      refine iteT ⟨_, rfl, _, upd_same, by rw [List.length_map]; exact small1000 (by omega), ks ++ [a], ?_, ?_, ?_, ?_⟩
      · rw [upd_upd, List.map_append]
        rfl
      · rw [List.length_append]
        show ks.length + 1 ≤ i + 1
        omega
      · intro k hk
        rcases List.mem_append.mp hk with hk | hk
        · exact mk k hk
        · rw [List.mem_singleton.mp hk]
          exact List.mem_of_getElem? ha
      · constructor
        · intro z
          simp at z
        · intro f
          have := f i (by omega) _ hpt
          cases this
  · rintro H2 ⟨ks, rfl, lk, mk, iff⟩
    have sM := same_new nM (.lst (ks.map V.ref))
    have full : ks = [] ↔ free (tOf Tb) (List.range X) (List.range Y) := by
      rw [iff, List.length_map, es.1]
      unfold free
      constructor
      · intro f pt hp
        obtain ⟨j, hj⟩ := List.getElem?_of_mem hp
        exact f j (lt_of_get hj) pt hj
      · intro f j _ pt hp
        exact f pt (List.mem_of_getElem? hp)
    refine ⟨_, rfl, M, _, rfl, .inl (SqL.of upd_same), rfl, _, rfl, ite2 (fun e => ?_) (fun e => ?_)⟩
    · have e1 := V.int.inj (eq_yes e)
      have e0 : ks = [] := List.eq_nil_of_length_eq_zero (by rw [List.length_map] at e1; omega)
      exact q _ _ (s1.trans sM) ⟨fun _ => full.mp e0, fun _ => rfl⟩
    · have hk : ks ≠ [] := fun z => by
        subst z
        exact eq_no e rfl
      obtain ⟨k, kr, rfl⟩ : ∃ k kr, ks = k :: kr := by
        cases ks with
        | nil => exact absurd rfl hk
        | cons k kr => exact ⟨k, kr, rfl⟩
      obtain ⟨i, hi⟩ := List.getElem?_of_mem (mk k List.mem_cons_self)
      obtain ⟨pt, _, r, c, e1, _⟩ := es.get hi
      refine ⟨_, rfl, M, _, _, .ref k, rfl, rfl, SqL.of upd_same, atI_nat (j := 0) rfl, 1, rfl, k, _, rfl, SqT.of (sM _ _ e1), fun z => ?_, fun _ t nt => ?_⟩
      · exact absurd z.1 (by
          show ¬ HT.sIx 3 0 (some 1) = 0
          rw [show HT.sIx 3 0 (some 1) = min 1 3 from HT.sIx_nat 3 0 1]
          decide)
      · refine q _ _ ((s1.trans sM).trans (same_new nt _)) ⟨fun z => (by cases z), fun z => absurd (full.mpr z) hk⟩
end
end K9
set_option Elab.async false
set_option linter.all false
set_option maxRecDepth 100000
set_option maxHeartbeats 8000000
namespace K9
open PySem PySem.Spec PyProof.Rows L2
/-! ### trees in memory -/
/-- a tuple of tuples of one int each -/
def ColsAt (H : Hp) (p : Addr) (xs : List Int) : Prop := ∃ qs : List Addr, H p = some (.tup (qs.map V.ref)) ∧ Each (fun q x => H q = some (.tup [.int x])) qs xs
/-- the tuples stand -/
def Tups (H H' : Hp) : Prop := ∀ a ys, H a = some (.tup ys) → H' a = some (.tup ys)
theorem Same.tups {H H' : Hp} (s : Same H H') : Tups H H' := fun a ys h => s a _ h
theorem tups_store {H : Hp} {F : Addr} {o : HO} {xs : List V} (hF : H F = some (.lst xs)) : Tups H (upd H F o) := fun a ys h => keep_at h hF (by intro z; cases z)
theorem ColsAt.tups {H H' : Hp} {p : Addr} {xs : List Int} (h : ColsAt H p xs) (s : Tups H H') : ColsAt H' p xs := by
  obtain ⟨qs, h1, h2⟩ := h
  exact ⟨qs, s _ _ h1, h2.imp fun q x e => s _ _ e⟩
theorem ColsAt.same {H H' : Hp} {p : Addr} {xs : List Int} (h : ColsAt H p xs) (s : Same H H') : ColsAt H' p xs := h.tups (Same.tups s)
def bitsOf (m : Nat) (b : List Nat) : List Int := (List.range m).map fun z => if b.contains z = true then 1 else 0
def TreeAt (X Y : Nat) (H : Hp) : Tr → V → Prop
  | .fin a, v => ∃ p p1 p2, v = .ref p ∧ H p = some (.tup [.str "end", .ref p1, .ref p2]) ∧ ColsAt H p1 ((List.range X).map fun _ => a) ∧ ColsAt H p2 ((List.range Y).map fun _ => a)
  | .say s b l r, v => ∃ p pb vl vr, v = .ref p ∧ H p = some (.tup [.str "say", vS s, .ref pb, vl, vr]) ∧ ColsAt H pb (bitsOf (if s = true then Y else X) b) ∧ TreeAt X Y H l vl ∧ TreeAt X Y H r vr
theorem TreeAt.tups {X Y : Nat} {H H' : Hp} (s : Tups H H') : ∀ {T : Tr} {v : V}, TreeAt X Y H T v → TreeAt X Y H' T v
  | .fin a, v, h => by
    obtain ⟨p, p1, p2, e, h1, h2, h3⟩ := h
    exact ⟨p, p1, p2, e, s _ _ h1, h2.tups s, h3.tups s⟩
  | .say sd b l r, v, h => by
    obtain ⟨p, pb, vl, vr, e, h1, h2, h3, h4⟩ := h
    exact ⟨p, pb, vl, vr, e, s _ _ h1, h2.tups s, h3.tups s, h4.tups s⟩
theorem TreeAt.same {X Y : Nat} {H H' : Hp} (s : Same H H') {T : Tr} {v : V} (h : TreeAt X Y H T v) : TreeAt X Y H' T v := h.tups (Same.tups s)
theorem cols_same {H : Hp} {p q : Addr} {xs : List Int} (h : ColsAt H p xs) (k : ColsAt H q xs) (l : xs.length ≤ 1000) : SameAt 3 H (.ref p) (.ref q) := by
  obtain ⟨as, h1, h2⟩ := h
  obtain ⟨bs, k1, k2⟩ := k
  refine .inr (.inr ⟨p, q, _, _, rfl, rfl, .of h1, .of k1, by rw [List.length_map, List.length_map, h2.1, k2.1], by rw [List.length_map, h2.1]; exact l, fun i x y ex ey => ?_⟩)
  obtain ⟨a, ha, rfl⟩ := get_ref ex
  obtain ⟨b, hb, rfl⟩ := get_ref ey
  obtain ⟨z, hz, ea⟩ := h2.get ha
  have eb := k2.2 i b z hb hz
  refine .inr (.inr ⟨a, b, _, _, rfl, rfl, .of ea, .of eb, rfl, by show 1 ≤ 1000; decide, fun j x y ex ey => ?_⟩)
  cases j with
  | zero =>
    have ex : V.int z = x := Option.some.inj ex
    have ey : V.int z = y := Option.some.inj ey
    exact .inl ⟨z, ex.symm, ey.symm⟩
  | succ j => simp at ex
theorem tup_same {n : Nat} {H : Hp} {p q : Addr} {xs ys : List V} (h1 : H p = some (.tup xs)) (h2 : H q = some (.tup ys)) (l : xs.length = ys.length) (l2 : xs.length ≤ 1000) (h : ∀ (i : Nat) (x y : V), xs[i]? = some x → ys[i]? = some y → SameAt n H x y) : SameAt (n + 1) H (.ref p) (.ref q) :=
  .inr (.inr ⟨p, q, xs, ys, rfl, rfl, .of h1, .of h2, l, l2, h⟩)
theorem str_same {n : Nat} {H : Hp} (z : Str) : SameAt (n + 1) H (.str z) (.str z) := .inr (.inl ⟨z, rfl, rfl⟩)
theorem int_same {n : Nat} {H : Hp} (z : Int) : SameAt (n + 1) H (.int z) (.int z) := .inl ⟨z, rfl, rfl⟩
theorem tree_same {X Y : Nat} {H : Hp} (hX : X ≤ 100) (hY : Y ≤ 100) : ∀ {T : Tr} {v w : V}, TreeAt X Y H T v → TreeAt X Y H T w → SameAt (T.depth + 4) H v w
  | .fin a, v, w, h, k => by
    obtain ⟨p, p1, p2, rfl, h1, h2, h3⟩ := h
    obtain ⟨q, q1, q2, rfl, k1, k2, k3⟩ := k
    refine tup_same h1 k1 rfl (by show 3 ≤ 1000; decide) fun i x y ex ey => ?_
    match i, ex, ey with
    | 0, ex, ey =>
      cases (Option.some.inj ex : V.str "end" = x)
      cases (Option.some.inj ey : V.str "end" = y)
      exact str_same _
    | 1, ex, ey =>
      cases (Option.some.inj ex : V.ref p1 = x)
      cases (Option.some.inj ey : V.ref q1 = y)
      exact (cols_same h2 k2 (by rw [List.length_map, List.length_range]; omega)).more (by omega)
    | 2, ex, ey =>
      cases (Option.some.inj ex : V.ref p2 = x)
      cases (Option.some.inj ey : V.ref q2 = y)
      exact (cols_same h3 k3 (by rw [List.length_map, List.length_range]; omega)).more (by omega)
    | i + 3, ex, _ => simp at ex
  | .say s b l r, v, w, h, k => by
    obtain ⟨p, pb, vl, vr, rfl, h1, h2, h3, h4⟩ := h
    obtain ⟨q, qb, wl, wr, rfl, k1, k2, k3, k4⟩ := k
    have dl : l.depth + 4 ≤ (Tr.say s b l r).depth + 3 := by
      show l.depth + 4 ≤ max l.depth r.depth + 1 + 3
      omega
    have dr : r.depth + 4 ≤ (Tr.say s b l r).depth + 3 := by
      show r.depth + 4 ≤ max l.depth r.depth + 1 + 3
      omega
    refine tup_same h1 k1 rfl (by show 5 ≤ 1000; decide) fun i x y ex ey => ?_
    match i, ex, ey with
    | 0, ex, ey =>
      cases (Option.some.inj ex : V.str "say" = x)
      cases (Option.some.inj ey : V.str "say" = y)
      exact str_same _
    | 1, ex, ey =>
      cases (Option.some.inj ex : vS s = x)
      cases (Option.some.inj ey : vS s = y)
      exact int_same _
    | 2, ex, ey =>
      cases (Option.some.inj ex : V.ref pb = x)
      cases (Option.some.inj ey : V.ref qb = y)
      refine (cols_same h2 k2 ?_).more (by omega)
      unfold bitsOf
      rw [List.length_map, List.length_range]
      split <;> omega
    | 3, ex, ey =>
      have ex : vl = x := Option.some.inj ex
      have ey : wl = y := Option.some.inj ey
      subst ex ey
      exact (tree_same hX hY h3 k3).more dl
    | 4, ex, ey =>
      have ex : vr = x := Option.some.inj ex
      have ey : wr = y := Option.some.inj ey
      subst ex ey
      exact (tree_same hX hY h4 k4).more dr
    | i + 5, ex, _ => simp at ex
/-- [(f(i),) for i in range(m)] -/
theorem cols_lc {m slot : Nat} {te : TE} {vs : List Nat} {σ : L2.St} {H1 : Hp} {D : Addr} {Qd : Hp → Prop} (f : Nat → Int) (hD : H1 D = none) (hm : m ≤ 1000) (hw : ∀ v, wipe ((wipe σ vs).set slot (some v)) vs = wipe σ vs)
    (hte : ∀ (i : Nat) (H : Hp), i < m → Same H1 H → ∀ Q : VK, (∀ q, H q = none → Q (.ref q) (upd H q (.tup [.int (f i)]))) → te ((wipe σ vs).set slot (some (vN i))) H Q)
    (hd : ∀ (H : Hp) (qs : List Addr), Same H1 H → H D = some (.lst (qs.map V.ref)) → Each (fun q x => H q = some (.tup [.int x])) qs ((List.range m).map f) → Qd H) :
    ∃ W : Nat → Nat → Hp → Prop, (∃ k, W 0 k (upd H1 D (.lst []))) ∧ ∀ i k H, W i k H →
      ((Itr 0 m).stop i H ∧ Qd H) ∨ ((Itr 0 m).go i H ∧ ∃ Nx : Hp → Prop, (∀ H', Nx H' → ∃ k', k' < k ∧ W (i + 1) k' H') ∧ ∀ x H', (Itr 0 m).yld i H x H' → gName slot x (wipe σ vs) H' fun σ2 H2 => wipe σ2 vs = wipe σ vs ∧ tYes σ2 H2 fun b H3 =>
        if b = true then te σ2 H3 fun y H4 => ∃ acc, H4 D = some (.lst acc) ∧ acc.length < sizeLine ∧ Nx (upd H4 D (.lst (acc ++ [y]))) else Nx H3) := by
  refine lc_range (lo := 0) (n := m) (fun i H => ∃ qs : List Addr, Same H1 H ∧ H D = some (.lst (qs.map V.ref)) ∧ Each (fun q x => H q = some (.tup [.int x])) qs (((List.range m).take i).map f))
    ⟨[], same_new hD _, upd_same, Each.nil⟩ ?_ ?_
  · rintro i H hi ⟨qs, s1, eD, es⟩
    have e0 : V.int (0 + (i : Int)) = vN i := by rw [Int.zero_add]
    refine ⟨hw _, ?_⟩
    rw [e0]
    simp only [tYes, if_true]
    refine hte i H hi s1 _ fun q nq => ?_
    have nDq : D ≠ q := ne_of_none eD nq
    have s2 := same_new nq (.tup [.int (f i)])
    have lq : qs.length ≤ 1000 := by
      rw [es.1, List.length_map, List.length_take, List.length_range]
      omega
    refine ⟨_, s2 _ _ eD, by rw [List.length_map]; exact small1000 lq, qs ++ [q], ?_, ?_, ?_⟩
    · exact Same.write (s1.trans s2) hD
    · rw [upd_same, List.map_append]
      rfl
    · have ei : (List.range m)[i]? = some i := by rw [List.getElem?_range hi]
      rw [take_more ei, List.map_append]
      refine Each.append (es.imp fun a x h => ?_) (Each.one ?_)
      · exact keep_at (s2 _ _ h) (s2 _ _ eD) (by intro z; cases z)
      · show upd _ D _ q = _
        rw [upd_ne nDq.symm, upd_same]
  · rintro H ⟨qs, s1, eD, es⟩
    rw [List.take_of_length_le (by rw [List.length_range]; exact Nat.le_refl _)] at es
    exact hd H qs s1 eD es
end K9
set_option Elab.async false
set_option linter.all false
set_option maxRecDepth 100000
set_option maxHeartbeats 16000000
namespace K9
open PySem PySem.Spec PyProof.Rows L2
def spLtree (n : Nat) : Sp := fun vs H Q _ => ∃ (ta lr lc : Addr) (T : List (List Int)) (X Y : Nat) (R C : List Nat), vs = [.ref ta, .ref lr, .ref lc] ∧ TabAt H ta T ∧ Rect T X Y ∧ TN H lr R ∧ TN H lc C ∧ Good R C ∧ (∀ x ∈ R, x < X) ∧ (∀ y ∈ C, y < Y) ∧
  free (tOf T) R C ∧ R.length + C.length ≤ n ∧ R.length + C.length ≤ 30 ∧ ∀ (H' : Hp) (v : V), Same H H' → TreeAt X Y H' (tree (tOf T) R C) v → Q v H'
/-- a free part that isn't even is cut -/
theorem free_cut {t : Nat → Nat → Int} {R C : List Nat} (g : Good R C) (f : free t R C) (e : ¬ even t R C = true) : ∃ s bs, cut t R C = some (s, bs) := by
  cases q : cut t R C with
  | none => exact absurd ((free_none g q).mp f) e
  | some p => exact ⟨p.1, p.2, rfl⟩
theorem free_col {t : Nat → Nat → Int} {R C : List Nat} (g : Good R C) (f : free t R C) (e : ¬ even t R C = true) (h : ¬ 1 < (RB t R C).length) : 1 < (CB t R C).length := by
  by_cases q : 1 < (CB t R C).length
  · exact q
  · have := (free_none g (cut_knot h q)).mp f
    exact absurd this e
section
variable {P : Program} {w : World} {K : PySem.W.Frag} {mg : Str → Option Value} {base : Heap}
theorem k_Ltree1 (T : Bt mg) (c_Lis_even : C8.Cal P w K mg base 1 "_law_is_even" spLeven []) (c_Lbundles : C8.Cal P w K mg base 3 "_law_bundles" spLbundles []) (D : DefAt K mg "_law_tree_for" s_Ltree_for ["_law_table", "_law_rows", "_law_columns"]) {n : Nat}
    (c_Ltree_for : C8.Cal P w K mg base (n + 3) "_law_tree_for" (spLtree n) []) : C8.Cal P w K mg base (n + 1 + 3) "_law_tree_for" (spLtree (n + 1)) [] := by
  refine D.cal (k := n + 3) sc_Ltree_for (fun vs H Q E h => ?_) (fun f cdv A outer s H vs Q E hr h => ?_)
  · obtain ⟨ta, lr, lc, Tb, X, Y, R, C, rfl, _⟩ := h
    rfl
  obtain ⟨ta, lr, lc, Tb, X, Y, R, C, rfl, hT, RT, hR, hC, g, iR, iC, fr, le, le30, q⟩ := h
  refine ⟨_, pss_cons (ps_set (i := 3) sc_Ltree_for.nd rfl (Or.inl rfl) (pe_tup (pa_cons (pe_callB call_len_seq rfl T.len PySem.boot_len (pa_cons (pv 0) pa_nil)) (pa_cons (pe_callB call_len_seq rfl T.len PySem.boot_len (pa_cons (pe_ix ix_tup (pv 0) pe_int (fun _ _ => rfl)) pa_nil)) pa_nil))))
      (pss_cons (ps_if (pt_val (C8.pe_c c_Lis_even hr (by omega) rfl (pa_cons (pv 0) (pa_cons (pv 1) (pa_cons (pv 2) pa_nil)))))
        (pss_cons (ps_set (i := 4) sc_Ltree_for.nd rfl (Or.inr rfl) (pe_ix ix_tup (pe_ix ix_tup (pv 0) (pe_ix ix_tup (pv 1) pe_int (fun _ _ => rfl)) (fun _ _ => rfl)) (pe_ix ix_tup (pv 2) pe_int (fun _ _ => rfl)) (fun _ _ => rfl)))
        (pss_one (ps_ret (pe_tup (pa_cons pe_str (pa_cons (pe_callTy call_tuple_of rfl T.tuple (by decide +kernel) (pa_cons (pe_lc (own := [("_law_x", 13)]) (g := gName 13) (tt := tYes)  rfl sc_Ltree_for.nd  (pi_range1 rfl T.range (pa_cons (pe_ix ix_tup (pv 3) pe_int (fun _ _ => rfl)) pa_nil)) (by exact (show BlkOk ["_law_table", "_law_rows", "_law_columns", "_law_sizes", "_law_answer_here", "_law_side", "_law_bundles_here", "_law_trees", "_law_bundle", "_law_tree", "_law_k", "_law_bits", "_law_z", "_law_x", "_law_y"] (defScope s_Ltree_for) _ [("_law_x", 13)] from blkOk_by (by decide +kernel))) (fun _ _ _ _ _ => (pg_name (i := 13) sc_Ltree_for.nd rfl (Or.inl rfl))) (fun _ _ _ _ _ => pts_nil) (fun _ _ _ _ _ => (pe_tup (pa_cons (pv 4) pa_nil)))) pa_nil)) (pa_cons (pe_callTy call_tuple_of rfl T.tuple (by decide +kernel) (pa_cons (pe_lc (own := [("_law_y", 14)]) (g := gName 14) (tt := tYes)  rfl sc_Ltree_for.nd  (pi_range1 rfl T.range (pa_cons (pe_ix ix_tup (pv 3) pe_int (fun _ _ => rfl)) pa_nil)) (by exact (show BlkOk ["_law_table", "_law_rows", "_law_columns", "_law_sizes", "_law_answer_here", "_law_side", "_law_bundles_here", "_law_trees", "_law_bundle", "_law_tree", "_law_k", "_law_bits", "_law_z", "_law_x", "_law_y"] (defScope s_Ltree_for) _ [("_law_y", 14)] from blkOk_by (by decide +kernel))) (fun _ _ _ _ _ => (pg_name (i := 14) sc_Ltree_for.nd rfl (Or.inl rfl))) (fun _ _ _ _ _ => pts_nil) (fun _ _ _ _ _ => (pe_tup (pa_cons (pv 4) pa_nil)))) pa_nil)) pa_nil)))))))
        pss_nil)
      (pss_cons (ps_set (i := 5) sc_Ltree_for.nd rfl (Or.inl rfl) pe_int)
      (pss_cons (ps_set (i := 6) sc_Ltree_for.nd rfl (Or.inr rfl) (C8.pe_c c_Lbundles hr (by omega) rfl (pa_cons (pv 0) (pa_cons pe_int (pa_cons (pv 1) (pa_cons (pv 2) pa_nil))))))
      (C8.pss_cut (ps_if (pt_cmpR op_eq (pe_callB call_len_seq rfl T.len PySem.boot_len (pa_cons (pv 6) pa_nil)) pe_int (nomark _))
        (pss_cons (ps_set (i := 5) sc_Ltree_for.nd rfl (Or.inl rfl) pe_int)
        (pss_one (ps_set (i := 6) sc_Ltree_for.nd rfl (Or.inr rfl) (C8.pe_c c_Lbundles hr (by omega) rfl (pa_cons (pv 0) (pa_cons pe_int (pa_cons (pv 2) (pa_cons (pv 1) pa_nil))))))))
        pss_nil)
      (pss_cons (ps_set (i := 7) sc_Ltree_for.nd rfl (Or.inl rfl) (pe_lst pa_nil))
      (pss_cons (ps_for PassesOwn.never rfl (pi_list (pv 6)) (pg_name (i := 8) sc_Ltree_for.nd rfl (Or.inl rfl))
        (pss_one (ps_if (pt_cmpR op_eq (pv 5) pe_int (nomark _))
          (pss_one (ps_expr (pe_bm PySem.F.plainAttrs_list PySem.F.slot_list_append PySem.F.type_list_append mt_append (pv 7) (pa_cons (C8.pe_c c_Ltree_for hr (by omega) rfl (pa_cons (pv 0) (pa_cons (pv 8) (pa_cons (pv 2) pa_nil)))) pa_nil))))
          (pss_one (ps_expr (pe_bm PySem.F.plainAttrs_list PySem.F.slot_list_append PySem.F.type_list_append mt_append (pv 7) (pa_cons (C8.pe_c c_Ltree_for hr (by omega) rfl (pa_cons (pv 0) (pa_cons (pv 1) (pa_cons (pv 8) pa_nil)))) pa_nil)))))))
      (pss_cons (ps_set (i := 9) sc_Ltree_for.nd rfl (Or.inl rfl) (pe_ix ix_list (pv 7) (pe_op op_sub (pe_callB call_len_seq rfl T.len PySem.boot_len (pa_cons (pv 7) pa_nil)) pe_int) (fun _ _ => rfl)))
      (pss_cons (ps_for PassesOwn.never rfl (pi_range3 rfl T.range (pa_cons (pe_op op_sub (pe_callB call_len_seq rfl T.len PySem.boot_len (pa_cons (pv 7) pa_nil)) pe_int) (pa_cons (pe_un un_neg pe_int) (pa_cons (pe_un un_neg pe_int) pa_nil)))) (pg_name (i := 10) sc_Ltree_for.nd rfl (Or.inr rfl))
        (pss_cons (ps_set (i := 11) sc_Ltree_for.nd rfl (Or.inl rfl) (pe_callTy call_tuple_of rfl T.tuple (by decide +kernel) (pa_cons (pe_lc (own := [("_law_z", 12)]) (g := gName 12) (tt := tYes)  rfl sc_Ltree_for.nd  (pi_range1 rfl T.range (pa_cons (pe_ix ix_tup (pv 3) (pv 5) (fun _ _ => rfl)) pa_nil)) (by exact (show BlkOk ["_law_table", "_law_rows", "_law_columns", "_law_sizes", "_law_answer_here", "_law_side", "_law_bundles_here", "_law_trees", "_law_bundle", "_law_tree", "_law_k", "_law_bits", "_law_z", "_law_x", "_law_y"] (defScope s_Ltree_for) _ [("_law_z", 12)] from blkOk_by (by decide +kernel))) (fun _ _ _ _ _ => (pg_name (i := 12) sc_Ltree_for.nd rfl (Or.inl rfl))) (fun _ _ _ _ _ => pts_nil) (fun _ _ _ _ _ => (pe_tup (pa_cons (pe_callTy call_int1 rfl T.int (by decide +kernel) (pa_cons (pe_cmpR (opIn K) (pv 12) (pe_ix (ixL K) (pv 6) (pv 10) (fun _ _ => rfl)) (by rfl)) pa_nil)) pa_nil)))) pa_nil)))
        (pss_one (ps_set (i := 9) sc_Ltree_for.nd rfl (Or.inl rfl) (pe_tup (pa_cons pe_str (pa_cons (pv 5) (pa_cons (pv 11) (pa_cons (pv 9) (pa_cons (pe_ix ix_list (pv 7) (pv 10) (fun _ _ => rfl)) pa_nil))))))))))
      (pss_one (ps_ret (pv 9))))))))))), ?_⟩
  obtain ⟨as0, r0, row0, t1, t2, t3, t4, t5⟩ := tab_row hT RT
  have xm := RT.xm
  have ym := RT.ym
  -- sizes = (len(table), len(table[0]))
  refine ⟨_, rfl, ta, _, rfl, .inr (SqT.of t1), _, rfl, ta, _, _, _, rfl, rfl, SqT.of t1, t3, r0, _, rfl, .inr (SqT.of t4), by show 2 ≤ sizeLine; decide, fun Z nZ => ?_⟩
  rw [List.length_map, List.length_map, t2, t5]
  have sZ := same_new nZ (.tup [.int (X : Int), .int (Y : Int)])
  have eZ : (upd H Z (.tup [.int (X : Int), .int (Y : Int)])) Z = some (.tup [.int (X : Int), .int (Y : Int)]) := upd_same
  generalize hH0 : upd H Z (.tup [.int (X : Int), .int (Y : Int)]) = H0 at sZ eZ
  have hT0 := hT.same sZ
  have hR0 := hR.same sZ
  have hC0 := hC.same sZ
  -- if is_even
  refine ⟨_, rfl, _, rfl, _, rfl, ta, lr, lc, Tb, X, Y, R, C, rfl, hT0, RT, hR0, hC0, g, iR, iC, _, rfl, ite2 (fun e => ?_) (fun e => ?_)⟩
  · obtain ⟨as1, r1, row1, u1, u2, u3, u4, u5, _, u6⟩ := tab_at hT0 RT (iR _ (headD_mem g.r0))
    refine ⟨_, rfl, _, rfl, lr, _, _, _, rfl, rfl, hR0.sq, at_head g.r0, ta, _, _, _, rfl, rfl, SqT.of u1, u3, _, rfl, lc, _, _, _, rfl, rfl, hC0.sq, at_head g.c0, r1, _, _, _, rfl, rfl, SqT.of u4, u6 _ (iC _ (headD_mem g.c0)), ?_⟩
    refine ⟨_, rfl, Z, _, _, .int (X : Int), rfl, rfl, SqT.of eZ, atI_nat (j := 0) rfl, (X : Int), rfl, by omega, by omega, fun M nM => ?_⟩
    refine cols_lc (m := X) (slot := 13) (f := fun _ => tOf Tb (R.headD 0) (C.headD 0)) nM (by omega) (fun _ => rfl) (fun i H1 hi s1 Q' k => ⟨_, rfl, by show 1 ≤ sizeLine; decide, fun z nz => k z nz⟩) (fun H1 qs s1 eM es => ?_)
    refine ⟨M, _, rfl, .inl ⟨SqL.of eM, fun p1 np1 => ?_⟩⟩
    have s2 := s1.trans (same_new np1 (.tup (qs.map V.ref)))
    refine ⟨_, rfl, Z, _, _, .int (Y : Int), rfl, rfl, SqT.of (s2 _ _ eZ), atI_nat (j := 1) rfl, (Y : Int), rfl, by omega, by omega, fun M2 nM2 => ?_⟩
    refine cols_lc (m := Y) (slot := 14) (f := fun _ => tOf Tb (R.headD 0) (C.headD 0)) nM2 (by omega) (fun _ => rfl) (fun i H2 hi s3 Q' k => ⟨_, rfl, by show 1 ≤ sizeLine; decide, fun z nz => k z nz⟩) (fun H2 qs2 s3 eM2 es2 => ?_)
    refine ⟨M2, _, rfl, .inl ⟨SqL.of eM2, fun p2 np2 => ⟨by show 3 ≤ sizeLine; decide, fun p np => ?_⟩⟩⟩
    have s4 := same_new np2 (.tup (qs2.map V.ref))
    have s5 := same_new np (.tup [.str "end", .ref p1, .ref p2])
    refine q _ _ (sZ.trans (s2.trans (s3.trans (s4.trans s5)))) ?_
    rw [tree_none g (cut_even e)]
    refine ⟨p, p1, p2, rfl, upd_same, ⟨qs, (s3.trans (s4.trans s5)) _ _ upd_same, es.imp fun a x h => ((same_new np1 (.tup (qs.map V.ref))).trans (s3.trans (s4.trans s5))) _ _ h⟩, ⟨qs2, s5 _ _ upd_same, es2.imp fun a x h => (s4.trans s5) _ _ h⟩⟩
  -- side = 0; bundles of rows
  refine ⟨_, rfl, _, rfl, _, rfl, ta, lr, lc, Tb, X, Y, false, R, C, rfl, hT0, RT, hR0, hC0, g.rs, by omega, iR, iC, fun H1 B as s1 nB eB ls => ?_⟩
  have ls : Each (TN H1) as (RB (tOf Tb) R C) := ls
  refine ⟨fun σ H2 => ∃ (sd : Bool) (bs : List (List Nat)) (B : Addr) (as : List Addr), σ = [some (.ref ta), some (.ref lr), some (.ref lc), some (.ref Z), none, some (vS sd), some (.ref B), none, none, none, none, none, none, none, none] ∧ Same H0 H2 ∧ cut (tOf Tb) R C = some (sd, bs) ∧
      H2 B = some (.lst (as.map V.ref)) ∧ Each (TN H2) as bs, ?_, ?_⟩
  · refine ⟨_, rfl, B, _, rfl, .inl (SqL.of eB), rfl, _, rfl, ite2 (fun c => ?_) (fun c => ?_)⟩
    · have c1 := V.int.inj (eq_yes c)
      have c2 : ¬ 1 < (RB (tOf Tb) R C).length := by
        rw [List.length_map, ls.1] at c1
        omega
      have c3 := free_col g fr e c2
      refine ⟨_, rfl, _, rfl, _, rfl, ta, lc, lr, Tb, X, Y, true, C, R, rfl, hT0.same s1, RT, hC0.same s1, hR0.same s1, g.cs, by omega, iC, iR, fun H2 B2 as2 s2 nB2 eB2 ls2 => ?_⟩
      exact ⟨true, _, B2, as2, rfl, s1.trans s2, cut_col e c2 c3, eB2, ls2⟩
    · have c2 : 1 < (RB (tOf Tb) R C).length := by
        have h1 := bun_pos (tie := tieR (tOf Tb) C) g.r0
        have h2 : (RB (tOf Tb) R C).length ≠ 1 := fun z => c (by
          refine decide_eq_true ?_
          rw [List.length_map, ls.1, z]
          rfl)
        have h3 : 0 < (RB (tOf Tb) R C).length := h1
        omega
      exact ⟨false, _, B, as, rfl, s1, cut_row e c2, eB, ls⟩
  rintro σ H2 ⟨sd, bs, B, as, rfl, s2, ec, eB, ls⟩
  have ct := cut_spec g ec
  have el := ls.1
  have two := ct.two
  have nbs : bs.length ≤ 31 := by
    cases bs with
    | nil => simp
    | cons b br =>
      have := ct.cnt b List.mem_cons_self
      omega
  -- trees = []
  refine ⟨Nat.zero_le _, fun F nF => ?_⟩
  have sF := same_new nF (.lst [])
  have nF0 : H0 F = none := s2.free nF
  have nFB : F ≠ B := (ne_of_none eB nF).symm
  -- the loop over the bundles
  refine ⟨_, rfl, B, rfl, ⟨_, SqL.of (sF _ _ eB)⟩, for_list (K := K) (a := B) (xs := as.map V.ref) (fun i σ H3 => ∃ (vs : List V) (v8 : Option V), σ = [some (.ref ta), some (.ref lr), some (.ref lc), some (.ref Z), none, some (vS sd), some (.ref B), some (.ref F), v8, none, none, none, none, none, none] ∧
      Same H2 H3 ∧ H3 F = some (.lst vs) ∧ Each (fun v T => TreeAt X Y H3 T v) vs ((bs.take i).map fun b => tree (tOf Tb) (subR sd b R) (subC sd b C)))
    ⟨[], none, rfl, sF, upd_same, Each.nil⟩ (fun i σ H3 _ p => by obtain ⟨_, _, _, s, _⟩ := p; exact SqL.of (s _ _ eB)) ?_ ?_⟩
  · rintro i y σ H3 hi ⟨vs, v8, rfl, s3, eF, es⟩
    obtain ⟨a, ha, rfl⟩ := get_ref hi
    obtain ⟨b, hbi, hb⟩ := ls.get ha
    have hbm := List.mem_of_getElem? hbi
    have lt := ct.less b hbm
    have s23 := s2.trans s3
    have lvs : vs.length ≤ 1000 := by
      rw [es.1, List.length_map, List.length_take]
      omega
    have fr' := (free_some g ec).mp fr b hbm
    have gb := ct.good b hbm
    have sub := ct.sub b hbm
    -- what stands behind the append
    have fin : ∀ (H4 : Hp) (v : V), Same H3 H4 → TreeAt X Y H4 (tree (tOf Tb) (subR sd b R) (subC sd b C)) v →
        ∃ (l : Addr) (xs : List V) (y : V), V.ref F = .ref l ∧ [v] = [y] ∧ H4 l = some (.lst xs) ∧ xs.length < sizeLine ∧ ∃ (vs : List V) (v8 : Option V), ([some (.ref ta), some (.ref lr), some (.ref lc), some (.ref Z), none, some (vS sd), some (.ref B), some (.ref F), some (.ref a), none, none, none, none, none, none] : List (Option V)) = [some (.ref ta), some (.ref lr), some (.ref lc), some (.ref Z), none, some (vS sd), some (.ref B), some (.ref F), v8, none, none, none, none, none, none] ∧
          Same H2 (upd H4 l (.lst (xs ++ [y]))) ∧ (upd H4 l (.lst (xs ++ [y]))) F = some (.lst vs) ∧ Each (fun v T => TreeAt X Y (upd H4 l (.lst (xs ++ [y]))) T v) vs ((bs.take (i + 1)).map fun b => tree (tOf Tb) (subR sd b R) (subC sd b C)) := by
      intro H4 v s4 tr
      have eF4 := s4 _ _ eF
      have sw : Tups H4 (upd H4 F (.lst (vs ++ [v]))) := tups_store eF4
      refine ⟨F, vs, v, rfl, rfl, eF4, small1000 lvs, vs ++ [v], _, rfl, Same.write (s3.trans s4) nF, upd_same, ?_⟩
      rw [take_more hbi, List.map_append]
      exact Each.append (es.imp fun x T h => (h.same s4).tups sw) (Each.one (tr.tups sw))
    have hF : ∀ {H4 : Hp}, Same H3 H4 → H4 F = some (.lst vs) := fun {H4} s4 => s4 _ _ eF
    cases sd with
    | false =>
      refine ⟨_, rfl, rfl, _, rfl, iteT ⟨_, rfl, .inl ⟨rfl, _, SqL.of eF⟩, _, rfl, _, rfl, _, rfl, ta, a, lc, Tb, X, Y, b, C, rfl, hT0.same s23, RT, hb.same s3, hC0.same s23, gb, fun x hx => iR x (sub.1 x hx), iC, fr', ?_, ?_, fun H4 v s4 tr => fin H4 v s4 tr⟩⟩
      · have lt : b.length + C.length < R.length + C.length := lt
        omega
      · have lt : b.length + C.length < R.length + C.length := lt
        omega
    | true =>
      refine ⟨_, rfl, rfl, _, rfl, iteF ⟨_, rfl, .inl ⟨rfl, _, SqL.of eF⟩, _, rfl, _, rfl, _, rfl, ta, lr, a, Tb, X, Y, R, b, rfl, hT0.same s23, RT, hR0.same s23, hb.same s3, gb, iR, fun y hy => iC y (sub.2 y hy), fr', ?_, ?_, fun H4 v s4 tr => fin H4 v s4 tr⟩⟩
      · have lt : R.length + b.length < R.length + C.length := lt
        omega
      · have lt : R.length + b.length < R.length + C.length := lt
        omega
  rintro σ H3 ⟨vs, v8, rfl, s3, eF, es⟩
  rw [List.length_map, el, List.take_length] at es
  have lv : vs.length = bs.length := by rw [es.1, List.length_map]
  -- tree = trees[len(trees) - 1]
  obtain ⟨b1, hb1⟩ := get_of_lt (l := bs) (i := bs.length - 1) (by omega)
  obtain ⟨v1, hv1, ht1⟩ := es.at (i := bs.length - 1) (x := tree (tOf Tb) (subR sd b1 R) (subC sd b1 C)) (by rw [List.getElem?_map, hb1]; rfl)
  refine ⟨_, rfl, _, rfl, F, _, rfl, .inl (SqL.of eF), _, _, rfl, rfl, F, _, _, v1, rfl, rfl, SqL.of eF, at_of (j := bs.length - 1) (by omega) hv1, ?_⟩
  -- the loop downwards
  have jl := join_last (s := sd) (bs := bs) (Ts := bs.map fun b => tree (tOf Tb) (subR sd b R) (subC sd b C)) (k := bs.length - 1) (T := tree (tOf Tb) (subR sd b1 R) (subC sd b1 C)) (by rw [List.getElem?_map, hb1]; rfl) (by rw [List.length_map]; omega)
  have eB3 := s3 _ _ eB
  refine ⟨_, rfl, F, _, rfl, .inl (SqL.of eF), _, _, rfl, rfl, _, rfl, _, rfl, (vs.length : Int) - 2, -1, -1, _, rfl, RgC.neg (by omega) (by omega) (by omega) (by omega),
    for_rangeC (lo := (vs.length : Int) - 2) (c := -1) (n := ((vs.length : Int) - 2 - -1).toNat) (fun i σ H4 => ∃ (v : V) (v10 v11 : Option V), σ = [some (.ref ta), some (.ref lr), some (.ref lc), some (.ref Z), none, some (vS sd), some (.ref B), some (.ref F), v8, some v, v10, v11, none, none, none] ∧
      Same H3 H4 ∧ TreeAt X Y H4 (join sd (bs.drop (bs.length - 1 - i)) ((bs.map fun b => tree (tOf Tb) (subR sd b R) (subC sd b C)).drop (bs.length - 1 - i))) v)
    ⟨v1, none, none, rfl, Same.refl H3, by rw [Nat.sub_zero, jl]; exact ht1⟩ ?_ ?_⟩
  · rintro i σ H4 hi ⟨v, v10, v11, rfl, s4, tr⟩
    have hi2 : i + 1 < bs.length := by omega
    have ek : (vs.length : Int) - 2 + (i : Int) * -1 = ((bs.length - 2 - i : Nat) : Int) := by omega
    rw [ek]
    obtain ⟨b, hb⟩ := get_of_lt (l := bs) (i := bs.length - 2 - i) (by omega)
    obtain ⟨a, ha, hab⟩ := ls.at hb
    obtain ⟨vt, hvt, htr⟩ := es.at (i := bs.length - 2 - i) (x := tree (tOf Tb) (subR sd b R) (subC sd b C)) (by rw [List.getElem?_map, hb]; rfl)
    have eZ4 := s4 _ _ (s3 _ _ (s2 _ _ eZ))
    have eB4 := s4 _ _ eB3
    -- bits
    have sz : atI [V.int (X : Int), V.int (Y : Int)] (if sd = true then 1 else 0) = some (.int ((if sd = true then Y else X : Nat) : Int)) := by
      cases sd with
      | false => exact atI_nat (j := 0) rfl
      | true => exact atI_nat (j := 1) rfl
    have szl : (if sd = true then Y else X) ≤ 100 := by split <;> omega
    refine ⟨_, rfl, _, rfl, Z, _, _, _, rfl, rfl, SqT.of eZ4, sz, _, rfl, by omega, by omega, fun M nM => ?_⟩
    refine cols_lc (m := if sd = true then Y else X) (slot := 12) (f := fun z => if b.contains z = true then 1 else 0) nM (by omega) (fun _ => rfl) (fun z H5 hz s5 Q' k => ?_) (fun H5 qs s5 eM es5 => ?_)
    · refine ⟨_, rfl, _, rfl, _, rfl, B, _, _, .ref a, rfl, rfl, SqL.of (s5 _ _ eB4), at_of (j := bs.length - 2 - i) rfl (by rw [List.getElem?_map, ha]; rfl), a, _, rfl, .inr (((hab.same s3).same s4).same s5).sq, rfl, flat_nums, ?_⟩
      refine .inr ⟨_, rfl, by show 1 ≤ sizeLine; decide, fun t nt => ?_⟩
      have e2 : (if inV (vN z) (b.map vN) = true then (1 : Int) else 0) = if b.contains z = true then 1 else 0 := by rw [in_nums]
      have := k t nt
      rw [← e2] at this
      exact this
    refine ⟨M, _, rfl, .inl ⟨SqL.of eM, fun pb npb => ?_⟩⟩
    have s6 := s5.trans (same_new npb (.tup (qs.map V.ref)))
    refine ⟨_, rfl, _, rfl, _, rfl, _, rfl, _, rfl, F, _, _, vt, rfl, rfl, SqL.of (s6 _ _ (s4 _ _ eF)), at_of (j := bs.length - 2 - i) rfl hvt, by show 5 ≤ sizeLine; decide, fun p np => ?_⟩
    have s7 := same_new np (.tup [.str "say", vS sd, .ref pb, v, vt])
    refine ⟨.ref p, _, _, rfl, s4.trans (s6.trans s7), ?_⟩
    have ex : bs.length - 1 - (i + 1) = bs.length - 2 - i := by omega
    have ey : bs.length - 2 - i + 1 = bs.length - 1 - i := by omega
    rw [ex, join_at hb (by rw [List.getElem?_map, hb]; rfl) (by rw [List.length_map]; omega), ey]
    refine ⟨p, pb, v, vt, rfl, upd_same, ⟨qs, s7 _ _ upd_same, es5.imp fun a x h => ((same_new npb (.tup (qs.map V.ref))).trans s7) _ _ h⟩, tr.same (s6.trans s7), htr.same (s4.trans (s6.trans s7))⟩
  · rintro σ H4 ⟨v, v10, v11, rfl, s4, tr⟩
    have ez : bs.length - 1 - ((vs.length : Int) - 2 - -1).toNat = 0 := by omega
    rw [ez, List.drop_zero, List.drop_zero, ← tree_some g ec] at tr
    exact ⟨_, rfl, q H4 v (sZ.trans (s2.trans (s3.trans s4))) tr⟩
theorem k_Ltree (T : Bt mg) (c_Lis_even : C8.Cal P w K mg base 1 "_law_is_even" spLeven []) (c_Lbundles : C8.Cal P w K mg base 3 "_law_bundles" spLbundles []) (D : DefAt K mg "_law_tree_for" s_Ltree_for ["_law_table", "_law_rows", "_law_columns"]) :
    ∀ n : Nat, C8.Cal P w K mg base (n + 3) "_law_tree_for" (spLtree n) []
  | 0 => D.cal_no fun vs H Q E h => by
    obtain ⟨ta, lr, lc, Tb, X, Y, R, C, _, _, _, _, _, g, _, _, _, le, _⟩ := h
    have := g.len
    omega
  | n + 1 => k_Ltree1 T c_Lis_even c_Lbundles D (k_Ltree T c_Lis_even c_Lbundles D n)
end
end K9
set_option Elab.async false
set_option linter.all false
set_option maxRecDepth 100000
set_option maxHeartbeats 8000000
namespace K9
open PySem PySem.Spec PyProof.Rows L2
/-- a talk with one coin for each side -/
def TalkAt (X Y : Nat) (H : Hp) (T : Tr) (v : V) : Prop := ∃ p u, v = .ref p ∧ H p = some (.tup [.str "talk", .int 1, .int 1, u]) ∧ TreeAt X Y H T u
theorem TalkAt.same {X Y : Nat} {H H' : Hp} (s : Same H H') {T : Tr} {v : V} (h : TalkAt X Y H T v) : TalkAt X Y H' T v := by
  obtain ⟨p, u, e, h1, h2⟩ := h
  exact ⟨p, u, e, s _ _ h1, h2.same s⟩
theorem talk_same {X Y : Nat} {H : Hp} (hX : X ≤ 100) (hY : Y ≤ 100) {T : Tr} {v w : V} (h : TalkAt X Y H T v) (k : TalkAt X Y H T w) : SameAt (T.depth + 5) H v w := by
  obtain ⟨p, u, rfl, h1, h2⟩ := h
  obtain ⟨q, z, rfl, k1, k2⟩ := k
  refine tup_same h1 k1 rfl (by show 4 ≤ 1000; decide) fun i x y ex ey => ?_
  match i, ex, ey with
  | 0, ex, ey =>
    cases (Option.some.inj ex : V.str "talk" = x)
    cases (Option.some.inj ey : V.str "talk" = y)
    exact str_same _
  | 1, ex, ey =>
    cases (Option.some.inj ex : V.int 1 = x)
    cases (Option.some.inj ey : V.int 1 = y)
    exact int_same _
  | 2, ex, ey =>
    cases (Option.some.inj ex : V.int 1 = x)
    cases (Option.some.inj ey : V.int 1 = y)
    exact int_same _
  | 3, ex, ey =>
    have ex : u = x := Option.some.inj ex
    have ey : z = y := Option.some.inj ey
    subst ex ey
    exact tree_same hX hY h2 k2
  | i + 4, ex, _ => simp at ex
def spTalk : Sp := fun vs H Q _ => ∃ (ta : Addr) (T : List (List Int)) (X Y : Nat), vs = [.ref ta] ∧ TabAt H ta T ∧ Rect T X Y ∧ X + Y ≤ 20 ∧ free (tOf T) (List.range X) (List.range Y) ∧
  ∀ (H' : Hp) (v : V), Same H H' → TalkAt X Y H' (tree (tOf T) (List.range X) (List.range Y)) v → Q v H'
section
variable {P : Program} {w : World} {K : PySem.W.Frag} {mg : Str → Option Value} {base : Heap}
theorem k_Ltalk (T : Bt mg) (c_Ltree_for : C8.Cal P w K mg base 23 "_law_tree_for" (spLtree 20) []) (D : DefAt K mg "_law_talk_for" s_Ltalk_for ["_law_table"]) : C8.Cal P w K mg base 24 "_law_talk_for" spTalk [] := by
  refine D.cal sc_Ltalk_for (fun vs H Q E h => ?_) (fun f cdv A outer s H vs Q E hr h => ?_)
  · obtain ⟨ta, Tb, X, Y, rfl, _⟩ := h
    rfl
  obtain ⟨ta, Tb, X, Y, rfl, hT, RT, le, fr, q⟩ := h
  refine ⟨_, pss_one (ps_ret (pe_tup (pa_cons pe_str (pa_cons pe_int (pa_cons pe_int (pa_cons (C8.pe_c c_Ltree_for hr (by decide) rfl (pa_cons (pv 0) (pa_cons (pe_tupRgX rfl rfl T.tuple (prg_1 rfl T.range (pe_callB call_len_seq rfl T.len PySem.boot_len (pa_cons (pv 0) pa_nil)))) (pa_cons (pe_tupRgX rfl rfl T.tuple (prg_1 rfl T.range (pe_callB call_len_seq rfl T.len PySem.boot_len (pa_cons (pe_ix ix_tup (pv 0) pe_int (fun _ _ => rfl)) pa_nil)))) pa_nil)))) pa_nil)))))), ?_⟩
  obtain ⟨as, a, r, h1, h2, h3, h4, h5⟩ := tab_row hT RT
  have xm := RT.xm
  have ym := RT.ym
  refine ⟨_, rfl, _, rfl, ta, _, rfl, .inr (SqT.of h1), _, rfl, RgOk.of_le (by omega) (by rw [List.length_map]; omega) (by omega) (by omega), fun l ul nl xl => ?_⟩
  have e1 : rgV 0 ((as.map V.ref).length : Int) = (List.range X).map vN := by
    rw [List.length_map, h2]
    exact rgV_nat X
  rw [e1] at xl
  have s1 := same_new nl ul
  refine ⟨_, rfl, ta, _, _, _, rfl, rfl, SqT.of (s1 _ _ h1), h3, a, _, rfl, .inr (SqT.of (s1 _ _ h4)), _, rfl, RgOk.of_le (by omega) (by rw [List.length_map]; omega) (by omega) (by omega), fun m um nm xm' => ?_⟩
  have e2 : rgV 0 ((r.map V.int).length : Int) = (List.range Y).map vN := by
    rw [List.length_map, h5]
    exact rgV_nat Y
  rw [e2] at xm'
  have s2 := s1.trans (same_new nm um)
  have lr : TN (upd (upd H l ul) m um) l (List.range X) := ⟨ul, xl, same_new nm _ _ _ upd_same⟩
  refine ⟨ta, l, m, Tb, X, Y, _, _, rfl, hT.same s2, RT, lr, ⟨um, xm', upd_same⟩, good_range RT.x0 RT.y0, fun x hx => List.mem_range.mp hx, fun y hy => List.mem_range.mp hy, fr, by rw [List.length_range, List.length_range]; exact le,
    by rw [List.length_range, List.length_range]; omega, fun H' v s3 tr => ⟨by show 4 ≤ sizeLine; decide, fun p np => ?_⟩⟩
  have s4 := same_new np (.tup [.str "talk", .int 1, .int 1, v])
  exact q _ _ (s2.trans (s3.trans s4)) ⟨p, v, rfl, upd_same, tr.same s4⟩
end
end K9
set_option Elab.async false
set_option linter.all false
set_option maxRecDepth 100000
set_option maxHeartbeats 8000000
namespace K9
open PySem PySem.Spec PyProof.Rows L2
/-- a block's walk over a list that stands -/
theorem it_list {K : PySem.W.Frag} {a : Addr} {xs : List V} {H0 : Hp} {Qd : Hp → Prop} {body : V → Hp → (Hp → Prop) → Prop} (Pv : Nat → Hp → Prop) (h0 : Pv 0 H0) (hl : ∀ i H, i ≤ xs.length → Pv i H → SqL K H a xs)
    (hs : ∀ i x H, xs[i]? = some x → Pv i H → body x H (Pv (i + 1))) (hd : ∀ H, Pv xs.length H → Qd H) :
    ∃ W : Nat → Nat → Hp → Prop, (∃ m, W 0 m H0) ∧ ∀ i m H, W i m H →
      ((Itl K a).stop i H ∧ Qd H) ∨ ((Itl K a).go i H ∧ ∃ Nx : Hp → Prop, (∀ H', Nx H' → ∃ m', m' < m ∧ W (i + 1) m' H') ∧ ∀ x H', (Itl K a).yld i H x H' → body x H' Nx) := by
  refine ⟨fun i m H => m = xs.length - i ∧ i ≤ xs.length ∧ Pv i H, ⟨_, rfl, Nat.zero_le _, h0⟩, ?_⟩
  rintro i m H ⟨rfl, le, p⟩
  have sq := hl i H le p
  rcases Nat.lt_or_ge i xs.length with lt | ge
  · refine .inr ⟨⟨xs, xs[i], sq, List.getElem?_eq_getElem lt⟩, Pv (i + 1), fun H' p' => ⟨xs.length - (i + 1), by omega, rfl, lt, p'⟩, fun x H' y => ?_⟩
    obtain ⟨e, f⟩ := y
    subst e
    exact hs i x _ (f xs sq) p
  · obtain rfl : i = xs.length := Nat.le_antisymm le ge
    exact .inl ⟨⟨xs, sq, Nat.le_refl _⟩, hd H p⟩
theorem yes_go {σ : L2.St} {H : Hp} {F G : Hp → Prop} (h : F H) : tYes σ H fun b H3 => if b = true then F H3 else G H3 := by
  show if true = true then F H else G H
  rw [if_pos rfl]
  exact h
/-! ### the class Part -/
def pf (t r c : Addr) : List (Str × V) := putF "columns" (.ref c) (putF "rows" (.ref r) (putF "table" (.ref t) []))
theorem ne_tr : ¬ (("table" : Str) = "rows") := by decide +kernel
theorem ne_tc : ¬ (("table" : Str) = "columns") := by decide +kernel
theorem ne_rc : ¬ (("rows" : Str) = "columns") := by decide +kernel
theorem pf_t (t r c : Addr) : (pf t r c).lookup ("table" : Str) = some (.ref t) := by
  unfold pf
  rw [lookup_putF, if_neg ne_tc, lookup_putF, if_neg ne_tr, lookup_putF, if_pos rfl]
theorem pf_r (t r c : Addr) : (pf t r c).lookup ("rows" : Str) = some (.ref r) := by
  unfold pf
  rw [lookup_putF, if_neg ne_rc, lookup_putF, if_pos rfl]
theorem pf_c (t r c : Addr) : (pf t r c).lookup ("columns" : Str) = some (.ref c) := by
  unfold pf
  rw [lookup_putF, if_pos rfl]
theorem pf_no (t r c : Addr) {m : Str} (h1 : ¬ m = "columns") (h2 : ¬ m = "rows") (h3 : ¬ m = "table") : (pf t r c).lookup m = none := by
  unfold pf
  rw [lookup_putF, if_neg h1, lookup_putF, if_neg h2, lookup_putF, if_neg h3]
  all_goals rfl
theorem pf_len (t r c : Addr) : (putF "rows" (.ref r) (putF "table" (.ref t) [])).length < 1000 := by
  have h1 : (putF "table" (V.ref t) []) = ([("table", V.ref t)] : List (Str × V)) := rfl
  rw [h1]
  show (if ("table" : Str) = "rows" then _ else (("table" : Str), V.ref t) :: putF "rows" (.ref r) []).length < 1000
  rw [if_neg ne_tr]
  show 2 < 1000
  decide
/-- what the class Part, at C, has -/
structure PartC (K : PySem.W.Frag) (C : Addr) : Prop where
  cl : Cls K C
  t : NoAttr K C "table"
  r : NoAttr K C "rows"
  c : NoAttr K C "columns"
def spInit (C : Addr) : Sp := fun vs H Q _ => ∃ (p dx t r c : Addr), vs = [.ref p, .ref t, .ref r, .ref c] ∧ H p = some (.ins C dx []) ∧
  ∀ H' : Hp, H' p = some (.ins C dx (pf t r c)) → (∀ b o, H b = some o → b ≠ p → H' b = some o) → Q .non H'
/-- a part: its table, its rows and columns -/
def PartIs (C : Addr) (H : Hp) (ta p : Addr) (R Cc : List Nat) : Prop := ∃ dx r c, H p = some (.ins C dx (pf ta r c)) ∧ LN H r R ∧ LN H c Cc
theorem PartIs.same {C : Addr} {H H' : Hp} {ta p : Addr} {R Cc : List Nat} (h : PartIs C H ta p R Cc) (s : Same H H') : PartIs C H' ta p R Cc := by
  obtain ⟨dx, r, c, h1, h2, h3⟩ := h
  exact ⟨dx, r, c, s _ _ h1, h2.same s, h3.same s⟩
/-- the part lies within the table -/
structure Within (X Y : Nat) (R C : List Nat) : Prop where
  g : Good R C
  x : ∀ x ∈ R, x < X
  y : ∀ y ∈ C, y < Y
def spPeven (C : Addr) : Sp := fun vs H Q _ => ∃ (ta p : Addr) (T : List (List Int)) (X Y : Nat) (R Cc : List Nat), vs = [.ref p] ∧ PartIs C H ta p R Cc ∧ TabAt H ta T ∧ Rect T X Y ∧ Within X Y R Cc ∧
  ∀ H' : Hp, Same H H' → Q (.bl (even (tOf T) R Cc)) H'
theorem within_len {X Y : Nat} {R C : List Nat} (w : Within X Y R C) (hX : X ≤ 100) (hY : Y ≤ 100) : R.length ≤ 100 ∧ C.length ≤ 100 := by
  have h1 := (nodup_of_lt w.g.rs).length_le_of_subset (l₂ := List.range X) fun x hx => List.mem_range.mpr (w.x x hx)
  have h2 := (nodup_of_lt w.g.cs).length_le_of_subset (l₂ := List.range Y) fun x hx => List.mem_range.mpr (w.y x hx)
  rw [List.length_range] at h1 h2
  omega
section
variable {P : Program} {w : World} {K : PySem.W.Frag} {mg : Str → Option Value} {base : Heap} {C : Addr}
theorem k_init (TC : PartC K C) (D : MakAt K mg "Part" C "Part.__init__" s_Part_init ["self", "table", "rows", "columns"]) : C8.Mak P w K mg base 1 "Part" C (spInit C) [] := by
  refine D.cal sc_Part_init (fun vs H Q E h => ?_) (fun f cdv A outer s H vs Q E hr h => ?_)
  · obtain ⟨p, dx, t, r, c, rfl, _⟩ := h
    rfl
  obtain ⟨p, dx, t, r, c, rfl, hp, k⟩ := h
  refine ⟨_, pss_cons (ps_fld (pv 0) (pv 1) rfl)
      (pss_cons (ps_fld (pv 0) (pv 2) rfl)
      (pss_one (ps_fld (pv 0) (pv 3) rfl))), ?_⟩
  refine ⟨_, rfl, _, rfl, p, C, dx, [], rfl, hp, TC.cl, TC.t, (by show 0 < 1000; decide), ?_⟩
  refine ⟨_, rfl, _, rfl, p, C, dx, _, rfl, upd_same, TC.cl, TC.r, (by show 1 < 1000; decide), ?_⟩
  refine ⟨_, rfl, _, rfl, p, C, dx, _, rfl, upd_same, TC.cl, TC.c, pf_len t r c, ?_⟩
  refine k _ upd_same fun b o e n => ?_
  rw [upd_ne n, upd_ne n, upd_ne n]
  exact e
theorem k_Peven (T : Bt mg) (TC : PartC K C) (D : MetAt K C "is_even" "Part.is_even" s_Part_is_even ["self"]) : C8.Met P w K mg base 1 C "is_even" (spPeven C) [] := by
  refine D.cal sc_Part_is_even (fun vs H Q E h => ?_) (fun f cdv A outer s H vs Q E hr h => ?_)
  · obtain ⟨ta, p, Tb, X, Y, R, Cc, rfl, _⟩ := h
    rfl
  obtain ⟨ta, p, Tb, X, Y, R, Cc, rfl, ⟨dx, r, c, hp, hR, hC⟩, hT, RT, W, q⟩ := h
  refine ⟨_, pss_cons (ps_set (i := 1) sc_Part_is_even.nd rfl (Or.inr rfl) (pe_ix ix_tup (pe_ix ix_tup (pe_fld (pv 0) rfl) (pe_ix ix_list (pe_fld (pv 0) rfl) pe_int (fun _ _ => rfl)) (fun _ _ => rfl)) (pe_ix ix_list (pe_fld (pv 0) rfl) pe_int (fun _ _ => rfl)) (fun _ _ => rfl)))
      (pss_one (ps_ret (pe_callB (cr_all rfl) rfl T.all (by decide +kernel) (pa_cons (pe_lc2 (own := [("x", 2), ("y", 3)]) (vs1 := [3]) (g := gName 2) (g1 := gName 3) (tt := tYes) (tt1 := tYes)  rfl sc_Part_is_even.nd  (pi_list (pe_fld (pv 0) rfl)) (by exact (show BlkOk ["self", "first", "x", "y"] (defScope s_Part_is_even) _ [("x", 2), ("y", 3)] from blkOk_by (by decide +kernel))) (by decide) (fun _ _ _ _ _ => (pg_name (i := 2) sc_Part_is_even.nd rfl (Or.inl rfl))) (fun _ _ _ _ _ => pts_nil) (fun _ _ _ _ _ => (piL K (fldK K (pv 0) rfl))) (fun _ _ _ _ _ => (pg_name (i := 3) sc_Part_is_even.nd rfl (Or.inl rfl))) (fun _ _ _ _ _ => pts_nil) (fun _ _ _ _ _ => (pe_cmpR op_eq (pe_ix (ixT K) (pe_ix (ixT K) (fldK K (pv 0) rfl) (pv 2) (fun _ _ => rfl)) (pv 3) (fun _ _ => rfl)) (pv 1) (nomark _)))) pa_nil)))), ?_⟩
  have g := W.g
  obtain ⟨lR, lC⟩ := within_len W RT.xm RT.ym
  obtain ⟨as0, r0, row0, u1, _, u2, u3, _, _, u4⟩ := tab_at hT RT (W.x _ (headD_mem g.r0))
  -- first = self.table[self.rows[0]][self.columns[0]]
  refine ⟨_, rfl, p, C, dx, _, _, rfl, hp, TC.cl, TC.t, pf_t _ _ _, _, rfl, p, C, dx, _, _, rfl, hp, TC.cl, TC.r, pf_r _ _ _, r, _, _, _, rfl, rfl, SqL.of hR, at_head g.r0, ta, _, _, _, rfl, rfl, SqT.of u1, u2,
    _, rfl, p, C, dx, _, _, rfl, hp, TC.cl, TC.c, pf_c _ _ _, c, _, _, _, rfl, rfl, SqL.of hC, at_head g.c0, r0, _, _, _, rfl, rfl, SqT.of u3, u4 _ (W.y _ (headD_mem g.c0)), ?_⟩
  -- all([.. for x in self.rows for y in self.columns])
  refine ⟨_, rfl, p, C, dx, _, _, rfl, hp, TC.cl, TC.r, pf_r _ _ _, r, rfl, ⟨_, SqL.of hR⟩, fun M nM => it_list (K := K) (a := r) (xs := R.map vN)
    (fun i H' => H' = upd H M (.lst (((R.take i).flatMap fun x => Cc.map fun y => decide (V.int (tOf Tb x y) = V.int (tOf Tb (R.headD 0) (Cc.headD 0)))).map V.bl))) rfl (fun i H' _ e => by rw [e]; exact SqL.of (same_new nM _ _ _ hR)) ?_ ?_⟩
  · rintro i y H' hi rfl
    obtain ⟨x, hx, rfl⟩ := get_num hi
    have sM : ∀ o, Same H (upd H M o) := fun o => same_new nM o
    obtain ⟨as, ro, row, t1, _, t2, t3, _, _, t4⟩ := tab_at hT RT (W.x x (List.mem_of_getElem? hx))
    refine ⟨rfl, yes_go ⟨_, rfl, p, C, dx, _, _, rfl, sM _ _ _ hp, TC.cl, TC.c, pf_c _ _ _, c, rfl, ⟨_, SqL.of (sM _ _ _ hC)⟩, it_list (K := K) (a := c) (xs := Cc.map vN)
      (fun j H' => H' = upd H M (.lst ((((R.take i).flatMap fun x => Cc.map fun y => decide (V.int (tOf Tb x y) = V.int (tOf Tb (R.headD 0) (Cc.headD 0)))) ++ (Cc.take j).map fun y => decide (V.int (tOf Tb x y) = V.int (tOf Tb (R.headD 0) (Cc.headD 0)))).map V.bl)))
      (by rw [List.take_zero, List.map_nil, List.append_nil]) (fun j H' _ e => by rw [e]; exact SqL.of (sM _ _ _ hC)) ?_ ?_⟩⟩
    · rintro j z H' hj rfl
      obtain ⟨y, hy, rfl⟩ := get_num hj
      refine ⟨rfl, yes_go ⟨_, rfl, p, C, dx, _, _, rfl, sM _ _ _ hp, TC.cl, TC.t, pf_t _ _ _, _, rfl, ta, _, _, _, rfl, rfl, SqT.of (sM _ _ _ t1), t2, _, rfl, ro, _, _, _, rfl, rfl, SqT.of (sM _ _ _ t3), t4 y (W.y y (List.mem_of_getElem? hy)), _, rfl, rfl, _, upd_same, ?_, ?_⟩⟩
      · have h1 := flat_le (f := fun x => Cc.map fun y => decide (V.int (tOf Tb x y) = V.int (tOf Tb (R.headD 0) (Cc.headD 0)))) (l := R) (i := i)
        have h2 : (R.flatMap fun x => Cc.map fun y => decide (V.int (tOf Tb x y) = V.int (tOf Tb (R.headD 0) (Cc.headD 0)))).length = R.length * Cc.length := by
          rw [List.length_flatMap]
          have : (R.map fun x => (Cc.map fun y => decide (V.int (tOf Tb x y) = V.int (tOf Tb (R.headD 0) (Cc.headD 0)))).length) = R.map fun _ => Cc.length := List.map_congr_left fun _ _ => List.length_map _
          rw [this, List.map_const', List.sum_replicate_nat]
        have h3 : R.length * Cc.length ≤ 100 * 100 := Nat.mul_le_mul lR lC
        rw [List.length_map, List.length_append, List.length_map, List.length_take]
        refine Nat.lt_of_le_of_lt (m := 20000) (by omega) (by decide)
      · rw [upd_upd, take_more hy, List.map_append, List.map_append, List.map_append, List.map_append, List.append_assoc]
        rfl
    · rintro H' rfl
      rw [List.length_map, List.take_length, flat_take hx]
  · rintro H' rfl
    rw [List.length_map, List.take_length]
    refine ⟨M, _, rfl, SqL.of upd_same, ?_⟩
    have e : (R.flatMap fun x => Cc.map fun y => decide (V.int (tOf Tb x y) = V.int (tOf Tb (R.headD 0) (Cc.headD 0)))).all id = even (tOf Tb) R Cc := by
      rw [List.all_flatMap]
      unfold even
      refine congrArg (List.all R) (funext fun x => ?_)
      rw [List.all_map]
      refine congrArg (List.all Cc) (funext fun y => ?_)
      exact decide_eq_decide.mpr ⟨fun z => V.int.inj z, fun z => congrArg V.int z⟩
    rw [e]
    exact q _ (same_new nM _)
end
end K9
set_option Elab.async false
set_option linter.all false
set_option maxRecDepth 100000
set_option maxHeartbeats 16000000
namespace K9
open PySem PySem.Spec PyProof.Rows L2
def spTied : Sp := fun vs H Q _ => ∃ (a b : Addr) (xs ys : List Int), vs = [.ref a, .ref b] ∧ H a = some (.lst (xs.map V.int)) ∧ H b = some (.lst (ys.map V.int)) ∧ xs.length = ys.length ∧
  ∀ H' : Hp, Same H H' → Q (.bl ((xs.zip ys).any fun p => decide (p.1 = p.2))) H'
/-- lines i and j are tied -/
def tieL (ls : List (List Int)) (i j : Nat) : Bool := ((ls.getD i []).zip (ls.getD j [])).any fun p => decide (p.1 = p.2)
def spBundles : Sp := fun vs H Q _ => ∃ (la : Addr) (as : List Addr) (ls : List (List Int)) (m : Nat), vs = [.ref la] ∧ H la = some (.lst (as.map V.ref)) ∧ Each (fun a l => H a = some (.lst (l.map V.int))) as ls ∧ (∀ l ∈ ls, l.length = m) ∧ ls.length ≤ 100 ∧
  ∀ (H' : Hp) (p : Addr) (qs : List Addr), Same H H' → H p = none → H' p = some (.lst (qs.map V.ref)) → Each (LN H') qs (bun (tieL ls) (List.range ls.length)) → Q (.ref p) H'
section
variable {P : Program} {w : World} {K : PySem.W.Frag} {mg : Str → Option Value} {base : Heap}
theorem k_tied (T : Bt mg) (D : DefAt K mg "are_tied" s_are_tied ["first", "second"]) : C8.Cal P w K mg base 1 "are_tied" spTied [] := by
  refine D.cal sc_are_tied (fun vs H Q E h => ?_) (fun f cdv A outer s H vs Q E hr h => ?_)
  · obtain ⟨a, b, xs, ys, rfl, _⟩ := h
    rfl
  obtain ⟨a, b, xs, ys, rfl, ha, hb, hl, q⟩ := h
  refine ⟨_, pss_cons (ps_for PassesOwn.never rfl (pi_zip (by rfl) T.zip (pa_cons (pv 0) (pa_cons (pv 1) pa_nil))) (pg_tup rfl (pgs_cons (pg_name (i := 2) sc_are_tied.nd rfl (Or.inl rfl)) (pgs_cons (pg_name (i := 3) sc_are_tied.nd rfl (Or.inl rfl)) pgs_nil)))
        (pss_one (ps_if (pt_cmpR op_eq (pv 2) (pv 3) (nomark _))
          (pss_one (ps_ret pe_bl))
          pss_nil)))
      (pss_one (ps_ret pe_bl)), ?_⟩
  refine ⟨_, rfl, _, rfl, a, b, _, _, rfl, SqL.of ha, SqL.of hb, RZ.for_zipL (by rw [List.length_map, List.length_map, hl]) (fun i σ H' => (∃ v2 v3, σ = [some (.ref a), some (.ref b), v2, v3]) ∧ Same H H' ∧ ((xs.zip ys).take i).any (fun p => decide (p.1 = p.2)) = false)
    ⟨⟨none, none, rfl⟩, Same.refl H, rfl⟩ (fun i σ H' p => ⟨SqL.of (p.2.1 _ _ ha), SqL.of (p.2.1 _ _ hb)⟩) ?_ ?_⟩
  · rintro i x y Tp σ H' hx hy ⟨⟨v2, v3, rfl⟩, s1, hn⟩ nT
    obtain ⟨x, ex, rfl⟩ := get_int hx
    obtain ⟨y, ey, rfl⟩ := get_int hy
    have s2 := s1.trans (same_new nT (.tup [.int x, .int y]))
    have ez : (xs.zip ys)[i]? = some (x, y) := List.getElem?_zip_eq_some.mpr ⟨ex, ey⟩
    refine ⟨Tp, _, rfl, SqT.of upd_same, rfl, _, _, rfl, _, _, rfl, rfl, ?_⟩
    refine ⟨_, rfl, _, rfl, rfl, _, rfl, ite2 (fun e => ?_) (fun e => ?_)⟩
    · have t1 : (xs.zip ys).any (fun p => decide (p.1 = p.2)) = true := any_true ez (decide_eq_true (V.int.inj (eq_yes e)))
      have := q _ s2
      rw [t1] at this
      exact this
    · refine ⟨⟨_, _, rfl⟩, s2, ?_⟩
      rw [any_take ez, hn]
      exact decide_eq_false fun z => eq_no e (congrArg V.int z)
  · rintro σ H' ⟨⟨v2, v3, rfl⟩, s1, hn⟩
    have e : (xs.map V.int).length = (xs.zip ys).length := by
      rw [List.length_map, List.length_zip, hl, Nat.min_self]
    rw [e, List.take_length] at hn
    have := q _ s1
    rw [hn] at this
    exact this
theorem pop_last {L : List Nat} (h : 0 < L.length) : ∃ M x, L = M ++ [x] := by
  refine ⟨L.dropLast, L.getLast (List.length_pos_iff.mp h), ?_⟩
  exact (List.dropLast_concat_getLast _).symm
theorem k_bundles (T : Bt mg) (c_are_tied : C8.Cal P w K mg base 1 "are_tied" spTied []) (D : DefAt K mg "bundles_of" s_bundles_of ["lines"]) : C8.Cal P w K mg base 2 "bundles_of" spBundles [] := by
  refine D.cal sc_bundles_of (fun vs H Q E h => ?_) (fun f cdv A outer s H vs Q E hr h => ?_)
  · obtain ⟨la, as, ls, m, rfl, _⟩ := h
    rfl
  obtain ⟨la, as, ls, m, rfl, hla, hls, hm, hlen, q⟩ := h
  refine ⟨_, pss_cons (ps_set (i := 1) sc_bundles_of.nd rfl (Or.inl rfl) (pe_lst pa_nil))
      (pss_cons (ps_set (i := 2) sc_bundles_of.nd rfl (Or.inl rfl) (pe_listRg rfl rfl T.list (prg_1 rfl T.range (pe_callB call_len_seq rfl T.len PySem.boot_len (pa_cons (pv 0) pa_nil)))))
      (pss_cons (ps_while PassesOwn.never (pt_cmpR op_gt (pe_callB call_len_seq rfl T.len PySem.boot_len (pa_cons (pv 2) pa_nil)) pe_int (nomark _))
        (pss_cons (ps_set (i := 3) sc_bundles_of.nd rfl (Or.inl rfl) (pe_lst pa_nil))
        (pss_cons (ps_set (i := 4) sc_bundles_of.nd rfl (Or.inl rfl) (pe_lst (pa_cons (pe_bm PySem.F.plainAttrs_list PySem.F.slot_list_pop PySem.F.type_list_pop mt_popAt (pv 2) (pa_cons pe_int pa_nil)) pa_nil)))
        (pss_cons (ps_while PassesOwn.never (pt_cmpR op_gt (pe_callB call_len_seq rfl T.len PySem.boot_len (pa_cons (pv 4) pa_nil)) pe_int (nomark _))
          (pss_cons (ps_set (i := 5) sc_bundles_of.nd rfl (Or.inr rfl) (pe_bm0 PySem.F.plainAttrs_list PySem.F.slot_list_pop PySem.F.type_list_pop mt_pop (pv 4)))
          (pss_cons (ps_expr (pe_bm PySem.F.plainAttrs_list PySem.F.slot_list_append PySem.F.type_list_append mt_append (pv 3) (pa_cons (pv 5) pa_nil)))
          (pss_cons (ps_set (i := 6) sc_bundles_of.nd rfl (Or.inr rfl) (pe_lc (own := [("other", 7)]) (g := gName 7)  rfl sc_bundles_of.nd  (pi_list (pv 2)) (by exact (show BlkOk ["lines", "found", "left", "bundle", "waiting", "one", "tied", "other"] (defScope s_bundles_of) _ [("other", 7)] from blkOk_by (by decide +kernel))) (fun _ _ _ _ _ => (pg_name (i := 7) sc_bundles_of.nd rfl (Or.inl rfl))) (fun _ _ _ _ _ => pts_one (pt_val (C8.pe_c c_are_tied hr (by decide) rfl (pa_cons (pe_ix (ixL K) (pv 0) (pv 5) (fun _ _ => rfl)) (pa_cons (pe_ix (ixL K) (pv 0) (pv 7) (fun _ _ => rfl)) pa_nil))))) (fun _ _ _ _ _ => (pv 7))))
          (pss_cons (ps_setLc (own := [("other", 7)]) (g := gName 7) (i := 2) rfl sc_bundles_of.nd rfl rfl (sw_true rfl rfl rfl (by decide +kernel)) (pi_list (pv 2)) (by exact (show BlkOk ["lines", "found", "left", "bundle", "waiting", "one", "tied", "other"] (defScope s_bundles_of) _ [("other", 7)] from blkOk_by (by decide +kernel))) (fun _ _ _ _ _ => (pg_name (i := 7) sc_bundles_of.nd rfl (Or.inl rfl))) (fun _ _ _ _ _ => pts_one (pt_cmpR (opNotIn K) (pv 7) (pv 6) (by rfl))) (fun _ _ _ _ _ => (pv 7)))
          (pss_one (ps_expr (pe_bm PySem.F.plainAttrs_list PySem.F.slot_list_extend PySem.F.type_list_extend mt_extend (pv 4) (pa_cons (pv 6) pa_nil)))))))))
        (pss_one (ps_expr (pe_bm PySem.F.plainAttrs_list PySem.F.slot_list_append PySem.F.type_list_append mt_append (pv 1) (pa_cons (pe_callB cr_sortedI rfl T.sorted (by decide +kernel) (pa_cons (pv 3) pa_nil)) pa_nil))))))))
      (pss_one (ps_ret (pv 1))))), ?_⟩
  have el : as.length = ls.length := hls.1
  generalize hn : ls.length = n at q hlen el
  -- found = []; left = list(range(len(lines)))
  refine ⟨Nat.zero_le _, fun F nF => ?_⟩
  have sF := same_new nF (.lst [])
  refine ⟨_, rfl, la, _, rfl, .inl (SqL.of (sF _ _ hla)), _, rfl, RgOk.of_le (by omega) (by rw [List.length_map]; omega) (by omega) (by omega), fun l0 nl0 => ?_⟩
  have e1 : rgV 0 ((as.map V.ref).length : Int) = (List.range n).map vN := by
    rw [List.length_map, el]
    exact rgV_nat n
  rw [e1]
  have s0 := sF.trans (same_new nl0 (.lst ((List.range n).map vN)))
  have nFl : F ≠ l0 := ne_of_none (show upd H F (.lst []) F = some (.lst []) from upd_same) nl0
  -- the outer loop
  refine ⟨fun k σ H' => ∃ (l : Addr) (qs : List Addr) (bs : List (List Nat)) (left : List Nat) (v3 v4 v5 v6 : Option V), k = left.length ∧ σ = [some (.ref la), some (.ref F), some (.ref l), v3, v4, v5, v6, none] ∧ Same H H' ∧ H l = none ∧ H' F = some (.lst (qs.map V.ref)) ∧ LN H' l left ∧ l ≠ F ∧
      Each (LN H') qs bs ∧ (∀ z ∈ qs, z ≠ l ∧ z ≠ F) ∧ bun (tieL ls) (List.range n) = bs ++ bun (tieL ls) left ∧ left.Pairwise (· < ·) ∧ (∀ z ∈ left, z < n),
    ⟨_, l0, [], [], List.range n, none, none, none, none, rfl, rfl, s0, sF.free nl0, by rw [upd_ne nFl, upd_same]; rfl, upd_same, nFl.symm, Each.nil, fun z hz => by simp at hz, rfl, range_sorted n, fun z hz => List.mem_range.mp hz⟩, ?_⟩
  rintro k σ H' ⟨l, qs, bs, left, v3, v4, v5, v6, rfl, rfl, s1, nl, eF, hl, nlF, hq, dq, eb, sl, lt⟩
  refine ⟨_, rfl, l, _, rfl, .inl (SqL.of hl), _, _, rfl, rfl, _, rfl, ite2 (fun c => ?_) (fun c => ?_)⟩
  rotate_left
  · have e0 : left = [] := by
      cases left with
      | nil => rfl
      | cons a r =>
        refine absurd ?_ c
        refine decide_eq_true ?_
        rw [List.length_map, List.length_cons]
        omega
    subst e0
    rw [bun_nil, List.append_nil] at eb
    exact ⟨_, rfl, q H' F qs s1 nF eF (by rw [eb]; exact hq)⟩
  obtain ⟨x, L1, rfl⟩ : ∃ x L1, left = x :: L1 := by
    cases left with
    | nil => exact absurd (of_decide_eq_true c) (by decide)
    | cons a r => exact ⟨a, r, rfl⟩
  refine ⟨fun σ' H2 => ∃ k', k' < (x :: L1).length ∧ ∃ (l : Addr) (qs : List Addr) (bs : List (List Nat)) (left : List Nat) (v3 v4 v5 v6 : Option V), k' = left.length ∧ σ' = [some (.ref la), some (.ref F), some (.ref l), v3, v4, v5, v6, none] ∧ Same H H2 ∧ H l = none ∧ H2 F = some (.lst (qs.map V.ref)) ∧ LN H2 l left ∧ l ≠ F ∧
      Each (LN H2) qs bs ∧ (∀ z ∈ qs, z ≠ l ∧ z ≠ F) ∧ bun (tieL ls) (List.range n) = bs ++ bun (tieL ls) left ∧ left.Pairwise (· < ·) ∧ (∀ z ∈ left, z < n), fun σ' H2 h => h, ?_⟩
  -- bundle = []; waiting = [left.pop(0)]
  refine ⟨Nat.zero_le _, fun b nb => ?_⟩
  have nlb : l ≠ b := ne_of_none hl nb
  have hl' : (upd H' b (.lst [])) l = some (.lst (vN x :: L1.map vN)) := by
    rw [upd_ne nlb]
    exact hl
  have i0 : seqIndex? 0 (vN x :: L1.map vN).length = some 0 := seqIndex_of (k := 0) (by decide) (by rw [List.length_cons]; omega)
  refine ⟨_, rfl, .inl ⟨rfl, _, SqL.of hl'⟩, l, _, 0, 0, vN x, rfl, rfl, hl', by decide, by decide, i0, rfl, by show 1 ≤ sizeLine; decide, fun wt nwt => ?_⟩
  have er : (vN x :: L1.map vN).eraseIdx 0 = L1.map vN := rfl
  rw [er] at nwt ⊢
  -- H2: the old left without its first; bundle and waiting stand beside it
  have eH2l : (upd H' l (.lst (L1.map vN))) l = some (.lst (L1.map vN)) := upd_same
  have s2 : Same H (upd H' l (.lst (L1.map vN))) := Same.write s1 nl
  have nb2 : (upd H' l (.lst (L1.map vN))) b = none := by rw [upd_ne nlb.symm]; exact nb
  have nlwt : l ≠ wt := fun z => by rw [← z, upd_same] at nwt; cases nwt
  have nbwt : b ≠ wt := fun z => by rw [← z, upd_ne nlb.symm, upd_same] at nwt; cases nwt
  have nwt2 : (upd H' l (.lst (L1.map vN))) wt = none := by
    rw [upd_ne nlwt.symm]
    rw [upd_ne nlwt.symm, upd_ne nbwt.symm] at nwt
    exact nwt
  have sH : Same (upd H' l (.lst (L1.map vN))) (upd (upd (upd H' b (.lst [])) l (.lst (L1.map vN))) wt (.lst [vN x])) := fun a o e => by
    have a1 : a ≠ b := ne_of_none e nb2
    have a2 : a ≠ wt := ne_of_none e nwt2
    rw [upd_ne a2]
    by_cases a3 : a = l
    · subst a3
      rw [upd_same] at e ⊢
      exact e
    · rw [upd_ne a3] at e ⊢
      rw [upd_ne a1]
      exact e
  have eb0 : LN (upd (upd (upd H' b (.lst [])) l (.lst (L1.map vN))) wt (.lst [vN x])) b [] := by
    show upd _ wt _ b = _
    rw [upd_ne nbwt, upd_ne nlb.symm, upd_same]
    rfl
  have ewt0 : LN (upd (upd (upd H' b (.lst [])) l (.lst (L1.map vN))) wt (.lst [vN x])) wt [x] := upd_same
  generalize hH3 : upd (upd (upd H' b (.lst [])) l (.lst (L1.map vN))) wt (.lst [vN x]) = H3 at sH eb0 ewt0
  have eF2 : (upd H' l (.lst (L1.map vN))) F = some (.lst (qs.map V.ref)) := by rw [upd_ne nlF.symm]; exact eF
  have hq2 : Each (LN (upd H' l (.lst (L1.map vN)))) qs bs := ⟨hq.1, fun i a b0 e1 e2 => by
    show upd H' l _ a = _
    rw [upd_ne (dq a (List.mem_of_getElem? e1)).1]
    exact hq.2 i a b0 e1 e2⟩
  have neF2 : ∀ z ∈ qs, z ≠ F := fun z hz => (dq z hz).2
  have qs2 : ∀ z ∈ qs, ∃ o, (upd H' l (.lst (L1.map vN))) z = some o := fun z hz => by
    obtain ⟨i, hi⟩ := List.getElem?_of_mem hz
    obtain ⟨b0, _, e⟩ := hq2.get hi
    exact ⟨_, e⟩
  generalize hH2 : upd H' l (.lst (L1.map vN)) = H2 at s2 nb2 nwt2 sH eF2 hq2 qs2 eH2l
  clear hH3 hH2 nwt hl' hl
  have gr0 : Grow (tieL ls) (x :: L1) x ([] ++ [x]) L1 := Grow.start (nodup_of_lt sl)
  -- the inner loop
  refine ⟨fun k σ H4 => ∃ (l4 : Addr) (B Wt left : List Nat) (v5 v6 : Option V), k = Wt.length + left.length ∧ σ = [some (.ref la), some (.ref F), some (.ref l4), some (.ref b), some (.ref wt), v5, v6, none] ∧ Same H2 H4 ∧ LN H4 b B ∧ LN H4 wt Wt ∧ LN H4 l4 left ∧ l4 ≠ b ∧ l4 ≠ wt ∧ (l4 = l ∨ H2 l4 = none) ∧
      Grow (tieL ls) (x :: L1) x (B ++ Wt) left ∧ ∀ y ∈ B, ∀ z ∈ left, tieL ls y z = false,
    ⟨_, l, [], [x], L1, v5, v6, rfl, rfl, sH, eb0, ewt0, sH _ _ eH2l, nlb, nlwt, .inl rfl, gr0, fun y hy => by simp at hy⟩, ?_⟩
  rintro k σ H4 ⟨l4, B, Wt, left, v5, v6, rfl, rfl, s4, hB, hW, hl4, nl4b, nl4w, ol, gr, cl⟩
  refine ⟨_, rfl, wt, _, rfl, .inl (SqL.of hW), _, _, rfl, rfl, _, rfl, ite2 (fun c => ?_) (fun c => ?_)⟩
  rotate_left
  · -- found.append(sorted(bundle))
    have e0 : Wt = [] := by
      cases Wt with
      | nil => rfl
      | cons a r =>
        refine absurd ?_ c
        refine decide_eq_true ?_
        rw [List.length_map, List.length_cons]
        omega
    subst e0
    rw [List.append_nil] at gr
    obtain ⟨em, el2⟩ := gr.done cl
    have eF4 := s4 _ _ eF2
    refine ⟨_, rfl, .inl ⟨rfl, _, SqL.of eF4⟩, _, rfl, b, B.map (fun n : Nat => (n : Int)), rfl, ?_, fun ns p perm rising np => ?_⟩
    · rw [List.map_map]
      exact SqL.of hB
    have ens : ns = (comp (tieL ls) (x :: L1) x).map fun n : Nat => (n : Int) := sorted_int perm rising gr.nd (sl.sublist List.filter_sublist) em
    subst ens
    have npF : p ≠ F := (ne_of_none eF4 np).symm
    have s5 := same_new np (.lst (((comp (tieL ls) (x :: L1) x).map fun n : Nat => (n : Int)).map V.int))
    have eF5 := s5 _ _ eF4
    have nas : qs.length ≤ 1000 := by
      rw [hq2.1]
      have h1 := congrArg List.length eb
      rw [List.length_append] at h1
      have h2 := bun_cnt (tie := tieL ls) (List.range n)
      rw [List.length_range] at h2
      omega
    have ep : LN (upd H4 p (.lst (((comp (tieL ls) (x :: L1) x).map fun n : Nat => (n : Int)).map V.int))) p (comp (tieL ls) (x :: L1) x) := by
      show upd _ p _ p = _
      rw [upd_same, List.map_map]
      rfl
    have nl4p : l4 ≠ p := ne_of_none hl4 np
    have nl4F : l4 ≠ F := by
      rcases ol with e | e
      · rw [e]
        exact nlF
      · exact (ne_of_none eF2 e).symm
    refine ⟨F, _, _, rfl, rfl, eF5, by rw [List.length_map]; exact small1000 nas, left.length, ?_, l4, qs ++ [p], bs ++ [comp (tieL ls) (x :: L1) x], left, _, _, _, _, rfl, rfl, Same.write (s2.trans (s4.trans s5)) nF, ?_, ?_, ?_, nl4F, ?_, ?_, ?_, ?_, ?_⟩
    · rw [el2]
      exact out_lt
    · rcases ol with e | e
      · rw [e]
        exact nl
      · exact s2.free e
    · rw [upd_same, List.map_append]
      rfl
    · show upd _ F _ l4 = _
      rw [upd_ne nl4F]
      exact s5 _ _ hl4
    · refine Each.append ⟨hq2.1, fun i a b0 e1 e2 => ?_⟩ (Each.one ?_)
      · show upd _ F _ a = _
        rw [upd_ne (neF2 a (List.mem_of_getElem? e1))]
        exact s5 _ _ (s4 _ _ (hq2.2 i a b0 e1 e2))
      · show upd _ F _ p = _
        rw [upd_ne npF]
        exact ep
    · intro z hz
      rcases List.mem_append.mp hz with hz | hz
      · refine ⟨?_, neF2 z hz⟩
        obtain ⟨o, eo⟩ := qs2 z hz
        rcases ol with e | e
        · rw [e]
          exact (dq z hz).1
        · exact ne_of_none eo e
      · rw [List.mem_singleton.mp hz]
        exact ⟨nl4p.symm, npF⟩
    · rw [eb, bun_cons, ← el2, List.append_assoc]
      rfl
    · rw [el2]
      exact sl.sublist List.filter_sublist
    · intro z hz
      rw [el2] at hz
      exact lt z (mem_out.mp hz).1
  obtain ⟨M, one, rfl⟩ := pop_last (L := Wt) (by
    have := of_decide_eq_true c
    rw [List.length_map] at this
    omega)
  refine ⟨fun σ' H5 => ∃ k', k' < (M ++ [one]).length + left.length ∧ ∃ (l4 : Addr) (B Wt left : List Nat) (v5 v6 : Option V), k' = Wt.length + left.length ∧ σ' = [some (.ref la), some (.ref F), some (.ref l4), some (.ref b), some (.ref wt), v5, v6, none] ∧ Same H2 H5 ∧ LN H5 b B ∧ LN H5 wt Wt ∧ LN H5 l4 left ∧ l4 ≠ b ∧ l4 ≠ wt ∧ (l4 = l ∨ H2 l4 = none) ∧
      Grow (tieL ls) (x :: L1) x (B ++ Wt) left ∧ ∀ y ∈ B, ∀ z ∈ left, tieL ls y z = false, fun σ' H5 h => h, ?_⟩
  -- one = waiting.pop()
  have hW' : H4 wt = some (.lst (M.map vN ++ [vN one])) := by
    have : H4 wt = some (.lst ((M ++ [one]).map vN)) := hW
    rw [List.map_append] at this
    exact this
  refine ⟨_, rfl, .inl ⟨rfl, _, SqL.of hW'⟩, wt, _, vN one, rfl, rfl, hW', ?_, ?_⟩
  · rw [List.length_append]
    show (M.map vN ++ [vN one])[(M.map vN).length + 1 - 1]? = _
    rw [Nat.add_sub_cancel, List.getElem?_append_right (Nat.le_refl _), Nat.sub_self]
    rfl
  rw [List.dropLast_concat]
  have s5 : Same H2 (upd H4 wt (.lst (M.map vN))) := Same.write s4 nwt2
  have hB5 : (upd H4 wt (.lst (M.map vN))) b = some (.lst (B.map vN)) := by rw [upd_ne nbwt]; exact hB
  -- bundle.append(one)
  have mB : B.length + (M ++ [one]).length ≤ n := by
    have h1 := gr.nd.length_le_of_subset (l₂ := List.range n) fun y hy => List.mem_range.mpr (lt y (gr.reach y hy).1)
    rw [List.length_append, List.length_range] at h1
    exact h1
  rw [List.length_append] at mB
  refine ⟨_, rfl, .inl ⟨rfl, _, SqL.of hB5⟩, _, rfl, b, _, _, rfl, rfl, hB5, by rw [List.length_map]; exact small1000 (by omega), ?_⟩
  have s6 : Same H2 (upd (upd H4 wt (.lst (M.map vN))) b (.lst (B.map vN ++ [vN one]))) := Same.write s5 nb2
  have hB6 : LN (upd (upd H4 wt (.lst (M.map vN))) b (.lst (B.map vN ++ [vN one]))) b (B ++ [one]) := by
    show upd _ b _ b = _
    rw [upd_same, List.map_append]
    rfl
  have hW6 : LN (upd (upd H4 wt (.lst (M.map vN))) b (.lst (B.map vN ++ [vN one]))) wt M := by
    show upd _ b _ wt = _
    rw [upd_ne nbwt.symm, upd_same]
  have hl6 : LN (upd (upd H4 wt (.lst (M.map vN))) b (.lst (B.map vN ++ [vN one]))) l4 left := by
    show upd _ b _ l4 = _
    rw [upd_ne nl4b, upd_ne nl4w]
    exact hl4
  generalize hH6 : upd (upd H4 wt (.lst (M.map vN))) b (.lst (B.map vN ++ [vN one])) = H6 at s6 hB6 hW6 hl6
  clear hH6
  -- tied = [other for other in left if are_tied(lines[one], lines[other])]
  have hone : one ∈ B ++ (M ++ [one]) := List.mem_append_right _ (List.mem_append_right _ (List.mem_singleton.mpr rfl))
  have lone : one < n := lt one (gr.reach one hone).1
  have llt : ∀ z ∈ left, z < n := fun z hz => by
    rw [gr.left] at hz
    exact lt z (mem_out.mp hz).1
  have nodL : left.Nodup := by
    rw [gr.left]
    exact (nodup_of_lt sl).filter _
  have lleft : left.length ≤ 100 := by
    have h1 := nodL.length_le_of_subset (l₂ := List.range n) fun y hy => List.mem_range.mpr (llt y hy)
    rw [List.length_range] at h1
    omega
  have line : ∀ z, z < n → ∃ (a : Addr) (lz : List Int), as[z]? = some a ∧ ls[z]? = some lz ∧ H a = some (.lst (lz.map V.int)) ∧ lz.length = m ∧ ls.getD z [] = lz := fun z hz => by
    obtain ⟨lz, e⟩ := get_of_lt (l := ls) (i := z) (by omega)
    obtain ⟨a, ea, h⟩ := hls.at e
    exact ⟨a, lz, ea, e, h, hm lz (List.mem_of_getElem? e), by rw [List.getD_eq_getElem?_getD, e]; rfl⟩
  obtain ⟨a1, z1, q1, q2, q3, q4, q5⟩ := line one lone
  refine ⟨_, rfl, l4, rfl, ⟨_, SqL.of hl6⟩, fun Td nTd => lc_list (K := K) (a := l4) (xs := left.map vN)
    (fun i H7 => ∃ acc, Same H6 H7 ∧ H7 Td = some (.lst acc) ∧ acc = ((left.take i).filter fun z => tieL ls one z).map vN) ⟨[], same_new nTd _, upd_same, rfl⟩ (fun i H7 _ p => by obtain ⟨_, p1, _⟩ := p; exact SqL.of (p1 _ _ hl6)) ?_ ?_⟩
  · rintro i y H7 hi ⟨acc, s7, eT, rfl⟩
    obtain ⟨z, hz, rfl⟩ := get_num hi
    obtain ⟨a2, z2, r1, r2, r3, r4, r5⟩ := line z (llt z (List.mem_of_getElem? hz))
    have hla7 := s7 _ _ (s6 _ _ (s2 _ _ hla))
    refine ⟨rfl, _, rfl, _, rfl, la, _, _, .ref a1, rfl, rfl, SqL.of hla7, atI_nat (by rw [List.getElem?_map, q1]; rfl), _, rfl, _, rfl, la, _, _, .ref a2, rfl, rfl, SqL.of hla7, atI_nat (by rw [List.getElem?_map, r1]; rfl),
      a1, a2, z1, z2, rfl, s7 _ _ (s6 _ _ (s2 _ _ q3)), s7 _ _ (s6 _ _ (s2 _ _ r3)), by rw [q4, r4], fun H8 s8 => ⟨_, rfl, ?_⟩⟩
    have et : ((z1.zip z2).any fun p => decide (p.1 = p.2)) = tieL ls one z := by
      unfold tieL
      rw [q5, r5]
    rw [et]
    refine ite2 (fun e => ?_) (fun e => ?_)
    · have szz : ((left.take i).filter fun z => tieL ls one z).length ≤ 1000 := by
        have h1 := List.length_filter_le (fun z => tieL ls one z) (left.take i)
        rw [List.length_take] at h1
        omega
      refine ⟨_, rfl, _, s8 _ _ eT, by rw [List.length_map]; exact small1000 szz, _, Same.write (s7.trans s8) nTd, upd_same, ?_⟩
      rw [filter_take hz, if_pos e, List.map_append]
      rfl
    · exact ⟨_, s7.trans s8, s8 _ _ eT, by rw [filter_take hz, if_neg e, List.append_nil]⟩
  rintro H7 ⟨acc, s7, eT, rfl⟩
  rw [List.length_map, List.take_length] at eT
  have hl7 := hl6.same s7
  -- left = [other for other in left if other not in tied]
  refine ⟨_, rfl, l4, rfl, ⟨_, SqL.of hl7⟩, fun N nN => lc_list (K := K) (a := l4) (xs := left.map vN)
    (fun i H8 => H8 = upd H7 N (.lst ((out (left.filter fun z => tieL ls one z) (left.take i)).map vN))) rfl (fun i H8 _ p => by rw [p]; exact SqL.of (same_new nN _ _ _ hl7)) ?_ ?_⟩
  · rintro i y H8 hi rfl
    obtain ⟨z, hz, rfl⟩ := get_num hi
    have sN := same_new nN (.lst ((out (left.filter fun z => tieL ls one z) (left.take i)).map vN))
    refine ⟨rfl, _, rfl, _, rfl, Td, _, rfl, .inl (SqL.of (sN _ _ eT)), rfl, flat_nums, _, rfl, ?_⟩
    show if (!inV (vN z) ((left.filter fun z => tieL ls one z).map vN)) = true then _ else _
    rw [in_nums]
    refine ite2 (fun e => ?_) (fun e => ?_)
    · have szz : (out (left.filter fun z => tieL ls one z) (left.take i)).length ≤ 1000 := by
        have h1 := List.length_filter_le (fun y => !(left.filter fun z => tieL ls one z).contains y) (left.take i)
        rw [List.length_take] at h1
        show (List.filter _ _).length ≤ 1000
        omega
      refine ⟨_, rfl, _, upd_same, by rw [List.length_map]; exact small1000 szz, ?_⟩
      rw [upd_upd]
      unfold out
      rw [filter_take hz, if_pos e, List.map_append]
      rfl
    · unfold out
      rw [filter_take hz, if_neg e, List.append_nil]
  rintro H8 rfl
  rw [List.length_map, List.take_length]
  have sN := same_new nN (.lst ((out (left.filter fun z => tieL ls one z) left).map vN))
  -- waiting.extend(tied)
  have nTN : Td ≠ N := ne_of_none eT nN
  have hW8 : (upd H7 N (.lst ((out (left.filter fun z => tieL ls one z) left).map vN))) wt = some (.lst (M.map vN)) := sN _ _ (s7 _ _ hW6)
  have fl : (left.filter fun z => tieL ls one z).length ≤ 100 := Nat.le_trans (List.length_filter_le _ _) lleft
  refine ⟨_, rfl, .inl ⟨rfl, _, SqL.of hW8⟩, _, rfl, wt, Td, _, _, rfl, rfl, hW8, sN _ _ eT, by rw [List.length_map, List.length_map]; exact small (by omega), ?_⟩
  have nNwt : N ≠ wt := (ne_of_none (s7 _ _ hW6) nN).symm
  have nNb : N ≠ b := (ne_of_none (s7 _ _ hB6) nN).symm
  have nN2 : H2 N = none := s6.free (s7.free nN)
  have oln := out_len (p := fun z => tieL ls one z) (l := left)
  have perm0 : ((B ++ [one]) ++ M).Perm (B ++ (M ++ [one])) := by
    rw [List.append_assoc]
    exact List.Perm.append_left _ List.perm_append_comm
  have grow := (gr.perm perm0).more (p := fun z => tieL ls one z) (nodup_of_lt sl) fun z _ hz => ⟨one, List.mem_append_left _ (List.mem_append_right _ (List.mem_singleton.mpr rfl)), hz⟩
  rw [List.append_assoc] at grow
  refine ⟨_, ?_, N, B ++ [one], M ++ left.filter (fun z => tieL ls one z), _, _, _, rfl, rfl, Same.write ((s6.trans s7).trans sN) nwt2, ?_, ?_, ?_, nNb, nNwt, .inr nN2, grow, ?_⟩
  · rw [List.length_append, List.length_append]
    show M.length + _ + _ < M.length + 1 + _
    omega
  · show upd _ wt _ b = _
    rw [upd_ne nbwt]
    exact sN _ _ (s7 _ _ hB6)
  · show upd _ wt _ wt = _
    rw [upd_same, List.map_append]
  · show upd _ wt _ N = _
    rw [upd_ne nNwt, upd_same]
  · intro y hy z hz
    have hz2 := mem_out.mp hz
    rcases List.mem_append.mp hy with hy | hy
    · exact cl y hy z hz2.1
    · rw [List.mem_singleton.mp hy]
      refine Bool.eq_false_iff.mpr fun e => hz2.2 ?_
      exact List.mem_filter.mpr ⟨hz2.1, e⟩
end
end K9
set_option Elab.async false
set_option linter.all false
set_option maxRecDepth 100000
set_option maxHeartbeats 16000000
namespace K9
open PySem PySem.Spec PyProof.Rows L2
/-! ### bundles by the places of lines -/
theorem reach_congr {tie tie' : Nat → Nat → Bool} {L : List Nat} {x y : Nat} (h : ∀ a ∈ L, ∀ b ∈ L, tie a b = tie' a b) (hx : x ∈ L) (r : Reach tie L x y) : Reach tie' L x y := by
  have key : y ∈ L ∧ Reach tie' L x y := by
    induction r with
    | here => exact ⟨hx, .here⟩
    | @step u v r hv ht ih => exact ⟨hv, .step ih.2 hv (by rw [← h u ih.1 v hv]; exact ht)⟩
  exact key.2
theorem comp_congr {tie tie' : Nat → Nat → Bool} {L : List Nat} {x : Nat} (h : ∀ a ∈ L, ∀ b ∈ L, tie a b = tie' a b) (hx : x ∈ L) : comp tie L x = comp tie' L x := by
  unfold comp
  refine List.filter_congr fun y _ => ?_
  exact decide_eq_decide.mpr ⟨reach_congr h hx, reach_congr (fun a ha b hb => (h a ha b hb).symm) hx⟩
theorem bun_congr {tie tie' : Nat → Nat → Bool} (L : List Nat) : (∀ a ∈ L, ∀ b ∈ L, tie a b = tie' a b) → bun tie L = bun tie' L := by
  refine bun_ind (tie := tie) (P := fun L => (∀ a ∈ L, ∀ b ∈ L, tie a b = tie' a b) → bun tie L = bun tie' L) ?_ ?_ L
  · intro _
    rw [bun_nil, bun_nil]
  · intro x L ih h
    have e := comp_congr h List.mem_cons_self
    rw [bun_cons, bun_cons, ← e]
    exact congrArg _ (ih fun a ha b hb => h a (mem_out.mp ha).1 b (mem_out.mp hb).1)
theorem bun_lines {t : Nat → Nat → Int} {R C : List Nat} (nd : R.Nodup) : (bun (tieL (R.map fun x => C.map fun y => t x y)) (List.range R.length)).map (List.map fun i => R.getD i 0) = bun (tieR t C) R := by
  have gd : ∀ i, i < R.length → ∃ x, R[i]? = some x ∧ R.getD i 0 = x := fun i hi => by
    obtain ⟨x, e⟩ := get_of_lt hi
    exact ⟨x, e, by rw [List.getD_eq_getElem?_getD, e]; rfl⟩
  have eR : (List.range R.length).map (fun i => R.getD i 0) = R := by
    refine List.ext_getElem? fun i => ?_
    rw [List.getElem?_map]
    by_cases hi : i < R.length
    · obtain ⟨x, e, e2⟩ := gd i hi
      rw [List.getElem?_range hi, e]
      exact congrArg some e2
    · rw [List.getElem?_eq_none (by rw [List.length_range]; omega), List.getElem?_eq_none (by omega)]
      rfl
  have inj : ∀ a ∈ List.range R.length, ∀ b ∈ List.range R.length, R.getD a 0 = R.getD b 0 → a = b := fun a ha b hb e => by
    obtain ⟨x, ex, e1⟩ := gd a (List.mem_range.mp ha)
    obtain ⟨y, ey, e2⟩ := gd b (List.mem_range.mp hb)
    rw [e1, e2] at e
    subst e
    exact nd_ix nd ex ey
  conv => rhs; rw [← eR]
  rw [bun_map (tie := tieR t C) _ inj]
  refine congrArg _ (bun_congr _ fun a ha b hb => ?_)
  obtain ⟨x, ex, e1⟩ := gd a (List.mem_range.mp ha)
  obtain ⟨y, ey, e2⟩ := gd b (List.mem_range.mp hb)
  unfold tieL tieR
  rw [e1, e2, List.getD_eq_getElem?_getD, List.getD_eq_getElem?_getD, List.getElem?_map, List.getElem?_map, ex, ey]
  show ((C.map fun z => t x z).zip (C.map fun z => t y z)).any _ = _
  rw [List.zip_map', List.any_map]
  rfl
def spLines (C : Addr) (s : Bool) : Sp := fun vs H Q _ => ∃ (ta p : Addr) (T : List (List Int)) (X Y : Nat) (R Cc : List Nat), vs = [.ref p] ∧ PartIs C H ta p R Cc ∧ TabAt H ta T ∧ Rect T X Y ∧ Within X Y R Cc ∧
  ∀ (H' : Hp) (q : Addr) (as : List Addr), Same H H' → H q = none → H' q = some (.lst (as.map V.ref)) → Each (LN H') as (if s = true then CB (tOf T) R Cc else RB (tOf T) R Cc) → Q (.ref q) H'
section
variable {P : Program} {w : World} {K : PySem.W.Frag} {mg : Str → Option Value} {base : Heap} {C : Addr}
theorem k_row_bundles (TC : PartC K C) (c_bundles_of : C8.Cal P w K mg base 2 "bundles_of" spBundles []) (D : MetAt K C "row_bundles" "Part.row_bundles" s_Part_row_bundles ["self"]) : C8.Met P w K mg base 3 C "row_bundles" (spLines C false) [] := by
  refine D.cal sc_Part_row_bundles (fun vs H Q E h => ?_) (fun f cdv A outer s H vs Q E hr h => ?_)
  · obtain ⟨ta, p, Tb, X, Y, R, Cc, rfl, _⟩ := h
    rfl
  obtain ⟨ta, p, Tb, X, Y, R, Cc, rfl, ⟨dx, r, c, hp, hR, hC⟩, hT, RT, W, q⟩ := h
  refine ⟨_, pss_cons (ps_setLc (own := [("x", 2)]) (g := gName 2) (tt := tYes) (i := 1) rfl sc_Part_row_bundles.nd rfl rfl (sw_true rfl rfl rfl (by decide +kernel)) (pi_list (pe_fld (pv 0) rfl)) (by exact (show BlkOk ["self", "lines", "x", "bundle", "y", "one"] (defScope s_Part_row_bundles) _ [("x", 2)] from blkOk_by (by decide +kernel))) (fun _ _ _ _ _ => (pg_name (i := 2) sc_Part_row_bundles.nd rfl (Or.inr rfl))) (fun _ _ _ _ _ => pts_nil) (fun _ _ _ _ _ => (pe_lc (own := [("y", 4)]) (g := gName 4) (tt := tYes)  rfl sc_Part_row_bundles.nd  (piL K (fldK K (pv 0) rfl)) (by exact (show BlkOk ["self", "lines", "x", "bundle", "y", "one"] (relS _ (defScope s_Part_row_bundles)) _ [("y", 4)] from blkOk_by (by decide +kernel))) (fun _ _ _ _ _ => (pg_name (i := 4) sc_Part_row_bundles.nd rfl (Or.inl rfl))) (fun _ _ _ _ _ => pts_nil) (fun _ _ _ _ _ => (pe_ix (ixT K) (pe_ix (ixT K) (fldK K (pv 0) rfl) (pv 2) (fun _ _ => rfl)) (pv 4) (fun _ _ => rfl))))))
      (pss_one (ps_ret (pe_lc (own := [("bundle", 3)]) (g := gName 3) (tt := tYes)  rfl sc_Part_row_bundles.nd  (pi_list (C8.pe_c c_bundles_of hr (by decide) rfl (pa_cons (pv 1) pa_nil))) (by exact (show BlkOk ["self", "lines", "x", "bundle", "y", "one"] (defScope s_Part_row_bundles) _ [("bundle", 3)] from blkOk_by (by decide +kernel))) (fun _ _ _ _ _ => (pg_name (i := 3) sc_Part_row_bundles.nd rfl (Or.inl rfl))) (fun _ _ _ _ _ => pts_nil) (fun _ _ _ _ _ => (pe_lc (own := [("one", 5)]) (g := gName 5) (tt := tYes)  rfl sc_Part_row_bundles.nd  (piL K (pv 3)) (by exact (show BlkOk ["self", "lines", "x", "bundle", "y", "one"] (relS _ (defScope s_Part_row_bundles)) _ [("one", 5)] from blkOk_by (by decide +kernel))) (fun _ _ _ _ _ => (pg_name (i := 5) sc_Part_row_bundles.nd rfl (Or.inl rfl))) (fun _ _ _ _ _ => pts_nil) (fun _ _ _ _ _ => (pe_ix (ixL K) (fldK K (pv 0) rfl) (pv 5) (fun _ _ => rfl)))))))), ?_⟩
  obtain ⟨lR, lC⟩ := within_len W RT.xm RT.ym
  -- lines
  refine ⟨_, rfl, p, C, dx, _, _, rfl, hp, TC.cl, TC.r, pf_r _ _ _, r, rfl, ⟨_, SqL.of hR⟩, fun M nM => lc_list (K := K) (a := r) (xs := R.map vN)
    (fun i H1 => ∃ as : List Addr, Same H H1 ∧ H1 M = some (.lst (as.map V.ref)) ∧ (∀ z ∈ as, z ≠ M) ∧ Each (fun a l => H1 a = some (.lst (l.map V.int))) as ((R.take i).map fun u => Cc.map fun v => tOf Tb u v))
    ⟨[], same_new nM _, upd_same, fun z hz => by simp at hz, Each.nil⟩ (fun i H1 _ pp => by obtain ⟨_, s1, _⟩ := pp; exact SqL.of (s1 _ _ hR)) ?_ ?_⟩
  · rintro i y H1 hi ⟨as, s1, eM, dM, es⟩
    obtain ⟨u, hu, rfl⟩ := get_num hi
    obtain ⟨ras, ro, row, t1, _, t2, t3, _, _, t4⟩ := tab_at hT RT (W.x u (List.mem_of_getElem? hu))
    refine ⟨rfl, yes_go ⟨_, rfl, p, C, dx, _, _, rfl, s1 _ _ hp, TC.cl, TC.c, pf_c _ _ _, c, rfl, ⟨_, SqL.of (s1 _ _ hC)⟩, fun M2 nM2 => ?_⟩⟩
    have nMM : M ≠ M2 := ne_of_none eM nM2
    refine lc_list (K := K) (a := c) (xs := Cc.map vN) (fun j H2 => H2 = upd H1 M2 (.lst (((Cc.take j).map fun v => tOf Tb u v).map V.int))) rfl (fun j H2 _ pp => by rw [pp]; exact SqL.of (same_new nM2 _ _ _ (s1 _ _ hC))) ?_ ?_
    · rintro j z H2 hj rfl
      obtain ⟨v, hv, rfl⟩ := get_num hj
      have s2 : Same H1 (upd H1 M2 (.lst (((Cc.take j).map fun v => tOf Tb u v).map V.int))) := same_new nM2 _
      refine ⟨rfl, yes_go ⟨_, rfl, p, C, dx, _, _, rfl, s2 _ _ (s1 _ _ hp), TC.cl, TC.t, pf_t _ _ _, _, rfl, ta, _, _, _, rfl, rfl, SqT.of (s2 _ _ (s1 _ _ t1)), t2, _, rfl, ro, _, _, _, rfl, rfl, SqT.of (s2 _ _ (s1 _ _ t3)), t4 v (W.y v (List.mem_of_getElem? hv)), _, upd_same, ?_, ?_⟩⟩
      · rw [List.length_map, List.length_map, List.length_take]
        exact small1000 (by omega)
      · rw [upd_upd, take_more hv, List.map_append, List.map_append]
        rfl
    · rintro H2 rfl
      rw [List.length_map, List.take_length]
      have s2 : Same H1 (upd H1 M2 (.lst ((Cc.map fun v => tOf Tb u v).map V.int))) := same_new nM2 _
      have la : as.length ≤ 1000 := by
        rw [es.1, List.length_map, List.length_take]
        omega
      refine ⟨_, s2 _ _ eM, by rw [List.length_map]; exact small1000 la, as ++ [M2], Same.write (s1.trans s2) nM, ?_, ?_, ?_⟩
      · rw [upd_same, List.map_append]
        rfl
      · intro z hz
        rcases List.mem_append.mp hz with hz | hz
        · exact dM z hz
        · rw [List.mem_singleton.mp hz]
          exact nMM.symm
      · rw [take_more hu, List.map_append]
        refine Each.append ⟨es.1, fun k a l e1 e2 => ?_⟩ (Each.one ?_)
        · show upd _ M _ a = _
          rw [upd_ne (dM a (List.mem_of_getElem? e1))]
          exact s2 _ _ (es.2 k a l e1 e2)
        · show upd _ M _ M2 = _
          rw [upd_ne nMM.symm, upd_same]
  rintro H1 ⟨as, s1, eM, dM, es⟩
  rw [List.length_map, List.take_length] at es
  -- bundles_of(lines)
  refine ⟨_, rfl, M, as, R.map fun u => Cc.map fun v => tOf Tb u v, Cc.length, rfl, eM, es, fun l hl => ?_, by rw [List.length_map]; exact lR, fun H2 qa qs s2 nq eq hq => ⟨qa, rfl, ⟨_, SqL.of eq⟩, fun M2 nM2 => ?_⟩⟩
  · obtain ⟨u, _, e⟩ := List.mem_map.mp hl
    rw [← e, List.length_map]
  rw [List.length_map] at hq
  have s02 := s1.trans s2
  have hp2 := s02 _ _ hp
  have hO2 := s02 _ _ hR
  have nM20 : H M2 = none := s02.free nM2
  -- the places' numbers
  refine lc_list (K := K) (a := qa) (xs := qs.map V.ref) (fun i H3 => ∃ as : List Addr, Same H2 H3 ∧ H3 M2 = some (.lst (as.map V.ref)) ∧ (∀ z ∈ as, z ≠ M2) ∧
      Each (LN H3) as (((bun (tieL (R.map fun u => Cc.map fun v => tOf Tb u v)) (List.range R.length)).take i).map (List.map fun k => R.getD k 0)))
    ⟨[], same_new nM2 _, upd_same, fun z hz => by simp at hz, Each.nil⟩ (fun i H3 _ pp => by obtain ⟨_, s3, _⟩ := pp; exact SqL.of (s3 _ _ eq)) ?_ ?_
  · rintro i y H3 hi ⟨as, s3, eM2, dM2, es2⟩
    obtain ⟨a, ha, rfl⟩ := get_ref hi
    obtain ⟨b, hb, hab⟩ := hq.get ha
    have hbm := List.mem_of_getElem? hb
    have bsub : ∀ k ∈ b, k < R.length := fun k hk => List.mem_range.mp (bun_sub hbm hk)
    have blen : b.length ≤ 100 := by
      have := bun_le hbm
      rw [List.length_range] at this
      omega
    have cnt := bun_cnt (tie := tieL (R.map fun u => Cc.map fun v => tOf Tb u v)) (List.range R.length)
    rw [List.length_range] at cnt
    refine ⟨rfl, yes_go ⟨_, rfl, a, rfl, ⟨_, SqL.of (s3 _ _ hab)⟩, fun N nN => ?_⟩⟩
    have nMN : M2 ≠ N := ne_of_none eM2 nN
    refine lc_list (K := K) (a := a) (xs := b.map vN) (fun j H4 => H4 = upd H3 N (.lst (((b.take j).map fun k => R.getD k 0).map vN))) rfl (fun j H4 _ pp => by rw [pp]; exact SqL.of (same_new nN _ _ _ (s3 _ _ hab))) ?_ ?_
    · rintro j z H4 hj rfl
      obtain ⟨k, hk, rfl⟩ := get_num hj
      have s4 : Same H3 (upd H3 N (.lst (((b.take j).map fun k => R.getD k 0).map vN))) := same_new nN _
      obtain ⟨x, ex⟩ := get_of_lt (l := R) (bsub k (List.mem_of_getElem? hk))
      have eg : R.getD k 0 = x := by rw [List.getD_eq_getElem?_getD, ex]; rfl
      refine ⟨rfl, yes_go ⟨_, rfl, p, C, dx, _, _, rfl, s4 _ _ (s3 _ _ hp2), TC.cl, TC.r, pf_r _ _ _, _, rfl, r, _, _, vN x, rfl, rfl, SqL.of (s4 _ _ (s3 _ _ hO2)), at_num ex, _, upd_same, ?_, ?_⟩⟩
      · rw [List.length_map, List.length_map, List.length_take]
        exact small1000 (by omega)
      · rw [upd_upd, take_more hk, List.map_append, List.map_append, ← eg]
        rfl
    · rintro H4 rfl
      rw [List.length_map, List.take_length]
      have s4 : Same H3 (upd H3 N (.lst ((b.map fun k => R.getD k 0).map vN))) := same_new nN _
      have la : as.length ≤ 1000 := by
        rw [es2.1, List.length_map, List.length_take]
        omega
      refine ⟨_, s4 _ _ eM2, by rw [List.length_map]; exact small1000 la, as ++ [N], Same.write (s3.trans s4) nM2, ?_, ?_, ?_⟩
      · rw [upd_same, List.map_append]
        rfl
      · intro z hz
        rcases List.mem_append.mp hz with hz | hz
        · exact dM2 z hz
        · rw [List.mem_singleton.mp hz]
          exact nMN.symm
      · rw [take_more hb, List.map_append]
        refine Each.append ⟨es2.1, fun k a l e1 e2 => ?_⟩ (Each.one ?_)
        · show upd _ M2 _ a = _
          rw [upd_ne (dM2 a (List.mem_of_getElem? e1))]
          exact s4 _ _ (es2.2 k a l e1 e2)
        · show upd _ M2 _ N = _
          rw [upd_ne nMN.symm, upd_same]
  · rintro H3 ⟨as, s3, eM2, dM2, es2⟩
    rw [List.length_map, hq.1, List.take_length] at es2
    have e := bun_lines (t := (tOf Tb)) (R := R) (C := Cc) (nodup_of_lt W.g.rs)
    rw [e] at es2
    exact q H3 M2 as (s02.trans s3) nM20 eM2 es2
theorem k_column_bundles (TC : PartC K C) (c_bundles_of : C8.Cal P w K mg base 2 "bundles_of" spBundles []) (D : MetAt K C "column_bundles" "Part.column_bundles" s_Part_column_bundles ["self"]) : C8.Met P w K mg base 3 C "column_bundles" (spLines C true) [] := by
  refine D.cal sc_Part_column_bundles (fun vs H Q E h => ?_) (fun f cdv A outer s H vs Q E hr h => ?_)
  · obtain ⟨ta, p, Tb, X, Y, R, Cc, rfl, _⟩ := h
    rfl
  obtain ⟨ta, p, Tb, X, Y, R, Cc, rfl, ⟨dx, r, c, hp, hR, hC⟩, hT, RT, W, q⟩ := h
  refine ⟨_, pss_cons (ps_setLc (own := [("y", 2)]) (g := gName 2) (tt := tYes) (i := 1) rfl sc_Part_column_bundles.nd rfl rfl (sw_true rfl rfl rfl (by decide +kernel)) (pi_list (pe_fld (pv 0) rfl)) (by exact (show BlkOk ["self", "lines", "y", "bundle", "x", "one"] (defScope s_Part_column_bundles) _ [("y", 2)] from blkOk_by (by decide +kernel))) (fun _ _ _ _ _ => (pg_name (i := 2) sc_Part_column_bundles.nd rfl (Or.inr rfl))) (fun _ _ _ _ _ => pts_nil) (fun _ _ _ _ _ => (pe_lc (own := [("x", 4)]) (g := gName 4) (tt := tYes)  rfl sc_Part_column_bundles.nd  (piL K (fldK K (pv 0) rfl)) (by exact (show BlkOk ["self", "lines", "y", "bundle", "x", "one"] (relS _ (defScope s_Part_column_bundles)) _ [("x", 4)] from blkOk_by (by decide +kernel))) (fun _ _ _ _ _ => (pg_name (i := 4) sc_Part_column_bundles.nd rfl (Or.inl rfl))) (fun _ _ _ _ _ => pts_nil) (fun _ _ _ _ _ => (pe_ix (ixT K) (pe_ix (ixT K) (fldK K (pv 0) rfl) (pv 4) (fun _ _ => rfl)) (pv 2) (fun _ _ => rfl))))))
      (pss_one (ps_ret (pe_lc (own := [("bundle", 3)]) (g := gName 3) (tt := tYes)  rfl sc_Part_column_bundles.nd  (pi_list (C8.pe_c c_bundles_of hr (by decide) rfl (pa_cons (pv 1) pa_nil))) (by exact (show BlkOk ["self", "lines", "y", "bundle", "x", "one"] (defScope s_Part_column_bundles) _ [("bundle", 3)] from blkOk_by (by decide +kernel))) (fun _ _ _ _ _ => (pg_name (i := 3) sc_Part_column_bundles.nd rfl (Or.inl rfl))) (fun _ _ _ _ _ => pts_nil) (fun _ _ _ _ _ => (pe_lc (own := [("one", 5)]) (g := gName 5) (tt := tYes)  rfl sc_Part_column_bundles.nd  (piL K (pv 3)) (by exact (show BlkOk ["self", "lines", "y", "bundle", "x", "one"] (relS _ (defScope s_Part_column_bundles)) _ [("one", 5)] from blkOk_by (by decide +kernel))) (fun _ _ _ _ _ => (pg_name (i := 5) sc_Part_column_bundles.nd rfl (Or.inl rfl))) (fun _ _ _ _ _ => pts_nil) (fun _ _ _ _ _ => (pe_ix (ixL K) (fldK K (pv 0) rfl) (pv 5) (fun _ _ => rfl)))))))), ?_⟩
  obtain ⟨lR, lC⟩ := within_len W RT.xm RT.ym
  -- lines
  refine ⟨_, rfl, p, C, dx, _, _, rfl, hp, TC.cl, TC.c, pf_c _ _ _, c, rfl, ⟨_, SqL.of hC⟩, fun M nM => lc_list (K := K) (a := c) (xs := Cc.map vN)
    (fun i H1 => ∃ as : List Addr, Same H H1 ∧ H1 M = some (.lst (as.map V.ref)) ∧ (∀ z ∈ as, z ≠ M) ∧ Each (fun a l => H1 a = some (.lst (l.map V.int))) as ((Cc.take i).map fun u => R.map fun v => tOf Tb v u))
    ⟨[], same_new nM _, upd_same, fun z hz => by simp at hz, Each.nil⟩ (fun i H1 _ pp => by obtain ⟨_, s1, _⟩ := pp; exact SqL.of (s1 _ _ hC)) ?_ ?_⟩
  · rintro i y H1 hi ⟨as, s1, eM, dM, es⟩
    obtain ⟨u, hu, rfl⟩ := get_num hi
    refine ⟨rfl, yes_go ⟨_, rfl, p, C, dx, _, _, rfl, s1 _ _ hp, TC.cl, TC.r, pf_r _ _ _, r, rfl, ⟨_, SqL.of (s1 _ _ hR)⟩, fun M2 nM2 => ?_⟩⟩
    have nMM : M ≠ M2 := ne_of_none eM nM2
    refine lc_list (K := K) (a := r) (xs := R.map vN) (fun j H2 => H2 = upd H1 M2 (.lst (((R.take j).map fun v => tOf Tb v u).map V.int))) rfl (fun j H2 _ pp => by rw [pp]; exact SqL.of (same_new nM2 _ _ _ (s1 _ _ hR))) ?_ ?_
    · rintro j z H2 hj rfl
      obtain ⟨v, hv, rfl⟩ := get_num hj
      obtain ⟨ras, ro, row, t1, _, t2, t3, _, _, t4⟩ := tab_at hT RT (W.x v (List.mem_of_getElem? hv))
      have s2 : Same H1 (upd H1 M2 (.lst (((R.take j).map fun v => tOf Tb v u).map V.int))) := same_new nM2 _
      refine ⟨rfl, yes_go ⟨_, rfl, p, C, dx, _, _, rfl, s2 _ _ (s1 _ _ hp), TC.cl, TC.t, pf_t _ _ _, _, rfl, ta, _, _, _, rfl, rfl, SqT.of (s2 _ _ (s1 _ _ t1)), t2, _, rfl, ro, _, _, _, rfl, rfl, SqT.of (s2 _ _ (s1 _ _ t3)), t4 u (W.y u (List.mem_of_getElem? hu)), _, upd_same, ?_, ?_⟩⟩
      · rw [List.length_map, List.length_map, List.length_take]
        exact small1000 (by omega)
      · rw [upd_upd, take_more hv, List.map_append, List.map_append]
        rfl
    · rintro H2 rfl
      rw [List.length_map, List.take_length]
      have s2 : Same H1 (upd H1 M2 (.lst ((R.map fun v => tOf Tb v u).map V.int))) := same_new nM2 _
      have la : as.length ≤ 1000 := by
        rw [es.1, List.length_map, List.length_take]
        omega
      refine ⟨_, s2 _ _ eM, by rw [List.length_map]; exact small1000 la, as ++ [M2], Same.write (s1.trans s2) nM, ?_, ?_, ?_⟩
      · rw [upd_same, List.map_append]
        rfl
      · intro z hz
        rcases List.mem_append.mp hz with hz | hz
        · exact dM z hz
        · rw [List.mem_singleton.mp hz]
          exact nMM.symm
      · rw [take_more hu, List.map_append]
        refine Each.append ⟨es.1, fun k a l e1 e2 => ?_⟩ (Each.one ?_)
        · show upd _ M _ a = _
          rw [upd_ne (dM a (List.mem_of_getElem? e1))]
          exact s2 _ _ (es.2 k a l e1 e2)
        · show upd _ M _ M2 = _
          rw [upd_ne nMM.symm, upd_same]
  rintro H1 ⟨as, s1, eM, dM, es⟩
  rw [List.length_map, List.take_length] at es
  -- bundles_of(lines)
  refine ⟨_, rfl, M, as, Cc.map fun u => R.map fun v => tOf Tb v u, R.length, rfl, eM, es, fun l hl => ?_, by rw [List.length_map]; exact lC, fun H2 qa qs s2 nq eq hq => ⟨qa, rfl, ⟨_, SqL.of eq⟩, fun M2 nM2 => ?_⟩⟩
  · obtain ⟨u, _, e⟩ := List.mem_map.mp hl
    rw [← e, List.length_map]
  rw [List.length_map] at hq
  have s02 := s1.trans s2
  have hp2 := s02 _ _ hp
  have hO2 := s02 _ _ hC
  have nM20 : H M2 = none := s02.free nM2
  -- the places' numbers
  refine lc_list (K := K) (a := qa) (xs := qs.map V.ref) (fun i H3 => ∃ as : List Addr, Same H2 H3 ∧ H3 M2 = some (.lst (as.map V.ref)) ∧ (∀ z ∈ as, z ≠ M2) ∧
      Each (LN H3) as (((bun (tieL (Cc.map fun u => R.map fun v => tOf Tb v u)) (List.range Cc.length)).take i).map (List.map fun k => Cc.getD k 0)))
    ⟨[], same_new nM2 _, upd_same, fun z hz => by simp at hz, Each.nil⟩ (fun i H3 _ pp => by obtain ⟨_, s3, _⟩ := pp; exact SqL.of (s3 _ _ eq)) ?_ ?_
  · rintro i y H3 hi ⟨as, s3, eM2, dM2, es2⟩
    obtain ⟨a, ha, rfl⟩ := get_ref hi
    obtain ⟨b, hb, hab⟩ := hq.get ha
    have hbm := List.mem_of_getElem? hb
    have bsub : ∀ k ∈ b, k < Cc.length := fun k hk => List.mem_range.mp (bun_sub hbm hk)
    have blen : b.length ≤ 100 := by
      have := bun_le hbm
      rw [List.length_range] at this
      omega
    have cnt := bun_cnt (tie := tieL (Cc.map fun u => R.map fun v => tOf Tb v u)) (List.range Cc.length)
    rw [List.length_range] at cnt
    refine ⟨rfl, yes_go ⟨_, rfl, a, rfl, ⟨_, SqL.of (s3 _ _ hab)⟩, fun N nN => ?_⟩⟩
    have nMN : M2 ≠ N := ne_of_none eM2 nN
    refine lc_list (K := K) (a := a) (xs := b.map vN) (fun j H4 => H4 = upd H3 N (.lst (((b.take j).map fun k => Cc.getD k 0).map vN))) rfl (fun j H4 _ pp => by rw [pp]; exact SqL.of (same_new nN _ _ _ (s3 _ _ hab))) ?_ ?_
    · rintro j z H4 hj rfl
      obtain ⟨k, hk, rfl⟩ := get_num hj
      have s4 : Same H3 (upd H3 N (.lst (((b.take j).map fun k => Cc.getD k 0).map vN))) := same_new nN _
      obtain ⟨x, ex⟩ := get_of_lt (l := Cc) (bsub k (List.mem_of_getElem? hk))
      have eg : Cc.getD k 0 = x := by rw [List.getD_eq_getElem?_getD, ex]; rfl
      refine ⟨rfl, yes_go ⟨_, rfl, p, C, dx, _, _, rfl, s4 _ _ (s3 _ _ hp2), TC.cl, TC.c, pf_c _ _ _, _, rfl, c, _, _, vN x, rfl, rfl, SqL.of (s4 _ _ (s3 _ _ hO2)), at_num ex, _, upd_same, ?_, ?_⟩⟩
      · rw [List.length_map, List.length_map, List.length_take]
        exact small1000 (by omega)
      · rw [upd_upd, take_more hk, List.map_append, List.map_append, ← eg]
        rfl
    · rintro H4 rfl
      rw [List.length_map, List.take_length]
      have s4 : Same H3 (upd H3 N (.lst ((b.map fun k => Cc.getD k 0).map vN))) := same_new nN _
      have la : as.length ≤ 1000 := by
        rw [es2.1, List.length_map, List.length_take]
        omega
      refine ⟨_, s4 _ _ eM2, by rw [List.length_map]; exact small1000 la, as ++ [N], Same.write (s3.trans s4) nM2, ?_, ?_, ?_⟩
      · rw [upd_same, List.map_append]
        rfl
      · intro z hz
        rcases List.mem_append.mp hz with hz | hz
        · exact dM2 z hz
        · rw [List.mem_singleton.mp hz]
          exact nMN.symm
      · rw [take_more hb, List.map_append]
        refine Each.append ⟨es2.1, fun k a l e1 e2 => ?_⟩ (Each.one ?_)
        · show upd _ M2 _ a = _
          rw [upd_ne (dM2 a (List.mem_of_getElem? e1))]
          exact s4 _ _ (es2.2 k a l e1 e2)
        · show upd _ M2 _ N = _
          rw [upd_ne nMN.symm, upd_same]
  · rintro H3 ⟨as, s3, eM2, dM2, es2⟩
    rw [List.length_map, hq.1, List.take_length] at es2
    have e := bun_lines (t := (fun a b => tOf Tb b a)) (R := Cc) (C := R) (nodup_of_lt W.g.cs)
    rw [e] at es2
    exact q H3 M2 as (s02.trans s3) nM20 eM2 es2
end
end K9
set_option Elab.async false
set_option linter.all false
set_option maxRecDepth 100000
set_option maxHeartbeats 16000000
namespace K9
open PySem PySem.Spec PyProof.Rows L2
/-- what cut hands back -/
def CutAt (C : Addr) (H : Hp) (ta q : Addr) (R Cc : List Nat) : Option (Bool × List (List Nat)) → Prop
  | none => ∃ l1 l2, H q = some (.tup [.non, .ref l1, .ref l2]) ∧ H l1 = some (.lst []) ∧ H l2 = some (.lst [])
  | some (s, bs) => ∃ (l1 l2 : Addr) (as ps : List Addr), H q = some (.tup [vS s, .ref l1, .ref l2]) ∧ H l1 = some (.lst (as.map V.ref)) ∧ Each (LN H) as bs ∧ H l2 = some (.lst (ps.map V.ref)) ∧ Each (fun p b => PartIs C H ta p (subR s b R) (subC s b Cc)) ps bs
def spCut (C : Addr) : Sp := fun vs H Q _ => ∃ (ta p : Addr) (T : List (List Int)) (X Y : Nat) (R Cc : List Nat), vs = [.ref p] ∧ PartIs C H ta p R Cc ∧ TabAt H ta T ∧ Rect T X Y ∧ Within X Y R Cc ∧
  ∀ (H' : Hp) (q : Addr), Same H H' → CutAt C H' ta q R Cc (cut (tOf T) R Cc) → Q (.ref q) H'
theorem within_sub {X Y : Nat} {R C : List Nat} {t : Nat → Nat → Int} {s : Bool} {bs : List (List Nat)} (w : Within X Y R C) (e : cut t R C = some (s, bs)) {b : List Nat} (hb : b ∈ bs) : Within X Y (subR s b R) (subC s b C) := by
  have c := cut_spec w.g e
  exact ⟨c.good b hb, fun x hx => w.x x ((c.sub b hb).1 x hx), fun y hy => w.y y ((c.sub b hb).2 y hy)⟩
theorem ne_even1 : ¬ (("is_even" : Str) = "columns") ∧ ¬ (("is_even" : Str) = "rows") ∧ ¬ (("is_even" : Str) = "table") := by decide +kernel
theorem ne_rowb : ¬ (("row_bundles" : Str) = "columns") ∧ ¬ (("row_bundles" : Str) = "rows") ∧ ¬ (("row_bundles" : Str) = "table") := by decide +kernel
theorem ne_colb : ¬ (("column_bundles" : Str) = "columns") ∧ ¬ (("column_bundles" : Str) = "rows") ∧ ¬ (("column_bundles" : Str) = "table") := by decide +kernel
theorem ne_cut : ¬ (("cut" : Str) = "columns") ∧ ¬ (("cut" : Str) = "rows") ∧ ¬ (("cut" : Str) = "table") := by decide +kernel
theorem pf_even (t r c : Addr) : (pf t r c).lookup ("is_even" : Str) = none := pf_no t r c ne_even1.1 ne_even1.2.1 ne_even1.2.2
theorem pf_rowb (t r c : Addr) : (pf t r c).lookup ("row_bundles" : Str) = none := pf_no t r c ne_rowb.1 ne_rowb.2.1 ne_rowb.2.2
theorem pf_colb (t r c : Addr) : (pf t r c).lookup ("column_bundles" : Str) = none := pf_no t r c ne_colb.1 ne_colb.2.1 ne_colb.2.2
theorem pf_cut (t r c : Addr) : (pf t r c).lookup ("cut" : Str) = none := pf_no t r c ne_cut.1 ne_cut.2.1 ne_cut.2.2
def spWhole (C : Addr) : Sp := fun vs H Q _ => ∃ (ta : Addr) (T : List (List Int)) (X Y : Nat), vs = [.ref ta] ∧ TabAt H ta T ∧ Rect T X Y ∧ ∀ (H' : Hp) (p : Addr), Same H H' → H p = none → PartIs C H' ta p (List.range X) (List.range Y) → Q (.ref p) H'
section
variable {P : Program} {w : World} {K : PySem.W.Frag} {mg : Str → Option Value} {base : Heap} {C : Addr}
theorem k_whole (T : Bt mg) (c_Part_init : C8.Mak P w K mg base 1 "Part" C (spInit C) []) (D : DefAt K mg "whole" s_whole ["table"]) : C8.Cal P w K mg base 3 "whole" (spWhole C) [] := by
  refine D.cal sc_whole (fun vs H Q E h => ?_) (fun f cdv A outer s H vs Q E hr h => ?_)
  · obtain ⟨ta, Tb, X, Y, rfl, _⟩ := h
    rfl
  obtain ⟨ta, Tb, X, Y, rfl, hT, RT, q⟩ := h
  refine ⟨_, pss_one (ps_ret (C8.pe_mk c_Part_init hr (by decide) rfl (pa_cons (pv 0) (pa_cons (pe_listRg rfl rfl T.list (prg_1 rfl T.range (pe_callB call_len_seq rfl T.len PySem.boot_len (pa_cons (pv 0) pa_nil)))) (pa_cons (pe_listRg rfl rfl T.list (prg_1 rfl T.range (pe_callB call_len_seq rfl T.len PySem.boot_len (pa_cons (pe_ix ix_tup (pv 0) pe_int (fun _ _ => rfl)) pa_nil)))) pa_nil))))), ?_⟩
  obtain ⟨as, a, r, h1, h2, h3, h4, h5⟩ := tab_row hT RT
  have xm := RT.xm
  have ym := RT.ym
  refine ⟨_, rfl, _, rfl, ta, _, rfl, .inr (SqT.of h1), _, rfl, RgOk.of_le (by omega) (by rw [List.length_map]; omega) (by omega) (by omega), fun l nl => ?_⟩
  have e1 : rgV 0 ((as.map V.ref).length : Int) = (List.range X).map vN := by
    rw [List.length_map, h2]
    exact rgV_nat X
  rw [e1]
  have s1 := same_new nl (.lst ((List.range X).map vN))
  refine ⟨_, rfl, ta, _, _, _, rfl, rfl, SqT.of (s1 _ _ h1), h3, a, _, rfl, .inr (SqT.of (s1 _ _ h4)), _, rfl, RgOk.of_le (by omega) (by rw [List.length_map]; omega) (by omega) (by omega), fun m nm => ?_⟩
  have e2 : rgV 0 ((r.map V.int).length : Int) = (List.range Y).map vN := by
    rw [List.length_map, h5]
    exact rgV_nat Y
  rw [e2]
  have s2 := s1.trans (same_new nm (.lst ((List.range Y).map vN)))
  have lr : LN (upd (upd H l (.lst ((List.range X).map vN))) m (.lst ((List.range Y).map vN))) l (List.range X) := same_new nm _ _ _ upd_same
  have lc : LN (upd (upd H l (.lst ((List.range X).map vN))) m (.lst ((List.range Y).map vN))) m (List.range Y) := upd_same
  refine fun x dx nx ndx ne => ⟨x, dx, ta, l, m, rfl, upd_same, fun H' e k => ⟨rfl, ?_⟩⟩
  have s3 := Same.made nx ndx k
  exact q H' x (s2.trans s3) (s2.free nx) ⟨dx, l, m, e, lr.same s3, lc.same s3⟩
theorem k_cut (T : Bt mg) (TC : PartC K C) (c_Part_init : C8.Mak P w K mg base 1 "Part" C (spInit C) []) (c_Part_is_even : C8.Met P w K mg base 1 C "is_even" (spPeven C) [])
    (c_Part_row_bundles : C8.Met P w K mg base 3 C "row_bundles" (spLines C false) []) (c_Part_column_bundles : C8.Met P w K mg base 3 C "column_bundles" (spLines C true) []) (D : MetAt K C "cut" "Part.cut" s_Part_cut ["self"]) :
    C8.Met P w K mg base 4 C "cut" (spCut C) [] := by
  refine D.cal sc_Part_cut (fun vs H Q E h => ?_) (fun f cdv A outer s H vs Q E hr h => ?_)
  · obtain ⟨ta, p, Tb, X, Y, R, Cc, rfl, _⟩ := h
    rfl
  obtain ⟨ta, p, Tb, X, Y, R, Cc, rfl, hP, hT, RT, W, q⟩ := h
  obtain ⟨dx, r, c, hp, hR, hC⟩ := id hP
  refine ⟨_, pss_cons (ps_if (pt_val (C8.pe_mt0 c_Part_is_even hr (by decide) (pv 0)))
        (pss_one (ps_ret (pe_tup (pa_cons pe_non (pa_cons (pe_lst pa_nil) (pa_cons (pe_lst pa_nil) pa_nil))))))
        pss_nil)
      (pss_cons (ps_set (i := 1) sc_Part_cut.nd rfl (Or.inl rfl) (C8.pe_mt0 c_Part_row_bundles hr (by decide) (pv 0)))
      (pss_cons (ps_if (pt_cmpR op_gt (pe_callB call_len_seq rfl T.len PySem.boot_len (pa_cons (pv 1) pa_nil)) pe_int (nomark _))
        (pss_one (ps_ret (pe_tup (pa_cons pe_int (pa_cons (pv 1) (pa_cons (pe_lc (own := [("bundle", 2)]) (g := gName 2) (tt := tYes)  rfl sc_Part_cut.nd  (pi_list (pv 1)) (by exact (show BlkOk ["self", "bundles", "bundle"] (defScope s_Part_cut) _ [("bundle", 2)] from blkOk_by (by decide +kernel))) (fun _ _ _ _ _ => (pg_name (i := 2) sc_Part_cut.nd rfl (Or.inl rfl))) (fun _ _ _ _ _ => pts_nil) (fun _ _ _ _ _ => (C8.pe_mk c_Part_init hr (by decide) rfl (pa_cons (fldK K (pv 0) rfl) (pa_cons (pv 2) (pa_cons (fldK K (pv 0) rfl) pa_nil)))))) pa_nil))))))
        pss_nil)
      (pss_cons (ps_set (i := 1) sc_Part_cut.nd rfl (Or.inl rfl) (C8.pe_mt0 c_Part_column_bundles hr (by decide) (pv 0)))
      (pss_cons (ps_if (pt_cmpR op_gt (pe_callB call_len_seq rfl T.len PySem.boot_len (pa_cons (pv 1) pa_nil)) pe_int (nomark _))
        (pss_one (ps_ret (pe_tup (pa_cons pe_int (pa_cons (pv 1) (pa_cons (pe_lc (own := [("bundle", 2)]) (g := gName 2) (tt := tYes)  rfl sc_Part_cut.nd  (pi_list (pv 1)) (by exact (show BlkOk ["self", "bundles", "bundle"] (defScope s_Part_cut) _ [("bundle", 2)] from blkOk_by (by decide +kernel))) (fun _ _ _ _ _ => (pg_name (i := 2) sc_Part_cut.nd rfl (Or.inl rfl))) (fun _ _ _ _ _ => pts_nil) (fun _ _ _ _ _ => (C8.pe_mk c_Part_init hr (by decide) rfl (pa_cons (fldK K (pv 0) rfl) (pa_cons (fldK K (pv 0) rfl) (pa_cons (pv 2) pa_nil)))))) pa_nil))))))
        pss_nil)
      (pss_one (ps_ret (pe_tup (pa_cons pe_non (pa_cons (pe_lst pa_nil) (pa_cons (pe_lst pa_nil) pa_nil)))))))))), ?_⟩
  obtain ⟨lR, lC⟩ := within_len W RT.xm RT.ym
  -- nothing to cut
  have stay : ∀ (H1 : Hp), Same H H1 → cut (tOf Tb) R Cc = none → ([] : List V).length ≤ sizeLine ∧ ∀ l1, H1 l1 = none → ([] : List V).length ≤ sizeLine ∧ ∀ l2, (upd H1 l1 (.lst [])) l2 = none → ([V.non, V.ref l1, V.ref l2] : List V).length ≤ sizeLine ∧
      ∀ t, (upd (upd H1 l1 (.lst [])) l2 (.lst [])) t = none → Q (.ref t) (upd (upd (upd H1 l1 (.lst [])) l2 (.lst [])) t (.tup [.non, .ref l1, .ref l2])) := by
    intro H1 s1 ec
    refine ⟨Nat.zero_le _, fun l1 n1 => ⟨Nat.zero_le _, fun l2 n2 => ⟨by show 3 ≤ sizeLine; decide, fun t nt => ?_⟩⟩⟩
    have s2 := same_new n1 (.lst [])
    have s3 := same_new n2 (.lst [])
    have s4 := same_new nt (.tup [.non, .ref l1, .ref l2])
    refine q _ t (s1.trans (s2.trans (s3.trans s4))) ?_
    rw [ec]
    exact ⟨l1, l2, upd_same, s4 _ _ (s3 _ _ upd_same), s4 _ _ upd_same⟩
  -- if self.is_even()
  refine ⟨_, rfl, p, dx, _, rfl, hp, pf_even _ _ _, ta, p, Tb, X, Y, R, Cc, rfl, hP, hT, RT, W, fun H1 s1 => ⟨_, rfl, ite2 (fun e => ?_) (fun e => ?_)⟩⟩
  · exact stay H1 s1 (cut_even e)
  -- bundles of rows
  refine ⟨_, rfl, p, dx, _, rfl, s1 _ _ hp, pf_rowb _ _ _, ta, p, Tb, X, Y, R, Cc, rfl, hP.same s1, hT.same s1, RT, W, fun H2 B as s2 nB eB ls => ?_⟩
  have ls : Each (LN H2) as (RB (tOf Tb) R Cc) := ls
  have s02 := s1.trans s2
  refine ⟨_, rfl, B, _, rfl, .inl (SqL.of eB), _, _, rfl, rfl, _, rfl, ite2 (fun k => ?_) (fun k => ?_)⟩
  · have k1 : ((as.map V.ref).length : Int) > 0 + 1 := by
      have := of_decide_eq_true k
      omega
    have k2 : 1 < (RB (tOf Tb) R Cc).length := by
      rw [List.length_map, ls.1] at k1
      omega
    have ec := cut_row e k2
    have cnt : (RB (tOf Tb) R Cc).length ≤ 100 := Nat.le_trans (bun_cnt _) lR
    have s3 := s02
    refine ⟨_, rfl, _, rfl, B, rfl, ⟨_, SqL.of eB⟩, fun M nM => ?_⟩
    have nM0 := s3.free nM
    refine lc_list (K := K) (a := B) (xs := as.map V.ref) (fun i H4 => ∃ ps : List Addr, Same H2 H4 ∧ H4 M = some (.lst (ps.map V.ref)) ∧ Each (fun z b => ∃ dz a, H4 z = some (.ins C dz (pf ta a c)) ∧ LN H2 a b) ps ((RB (tOf Tb) R Cc).take i))
      ⟨[], same_new nM _, upd_same, Each.nil⟩ (fun i H4 _ pp => by obtain ⟨_, s4, _⟩ := pp; exact SqL.of (s4 _ _ eB)) ?_ ?_
    · rintro i y H4 hi ⟨ps, s4, eM, es⟩
      obtain ⟨a, ha, rfl⟩ := get_ref hi
      obtain ⟨b, hb, hab⟩ := ls.get ha
      have hp4 := s4 _ _ (s3 _ _ hp)
      refine ⟨rfl, yes_go ⟨_, rfl, p, C, dx, _, _, rfl, hp4, TC.cl, TC.t, pf_t _ _ _, _, rfl, _, rfl, p, C, dx, _, _, rfl, hp4, TC.cl, TC.c, pf_c _ _ _, fun z dz nz ndz ne => ⟨z, dz, ta, a, c, rfl, upd_same, fun H5 e5 k5 => ⟨rfl, ?_⟩⟩⟩⟩
      have s5 := Same.made nz ndz k5
      have nMz : M ≠ z := ne_of_none eM nz
      have lps : ps.length ≤ 1000 := by
        rw [es.1, List.length_take]
        omega
      refine ⟨_, s5 _ _ eM, by rw [List.length_map]; exact small1000 lps, ps ++ [z], Same.write (s4.trans s5) nM, ?_, ?_⟩
      · rw [upd_same, List.map_append]
        rfl
      · rw [take_more hb]
        refine Each.append ⟨es.1, fun j u v e1 e2 => ?_⟩ (Each.one ⟨dz, a, ?_, hab⟩)
        · obtain ⟨du, au, f1, f2⟩ := es.2 j u v e1 e2
          exact ⟨du, au, keep_at (s5 _ _ f1) (s5 _ _ eM) (by intro z; cases z), f2⟩
        · rw [upd_ne nMz.symm]
          exact e5
    · rintro H4 ⟨ps, s4, eM, es⟩
      rw [List.length_map, ls.1, List.take_length] at es
      refine ⟨by show 3 ≤ sizeLine; decide, fun t nt => ?_⟩
      have s5 := same_new nt (.tup [vS false, .ref B, .ref M])
      have s6 := s4.trans s5
      refine q _ t (s3.trans s6) ?_
      rw [ec]
      exact ⟨B, M, as, ps, upd_same, s6 _ _ eB, ls.imp fun a b h => h.same s6, s5 _ _ eM, es.imp fun z b h => by
        obtain ⟨dz, a, f1, hab⟩ := h
        exact ⟨dz, a, c, s5 _ _ f1, hab.same s6, (hC.same s3).same s6⟩⟩
  have k0 : ¬ 1 < (RB (tOf Tb) R Cc).length := fun z => k (by
    refine decide_eq_true ?_
    rw [List.length_map, ls.1]
    omega)
  -- bundles of columns
  have s20 := s02
  refine ⟨_, rfl, p, dx, _, rfl, s20 _ _ hp, pf_colb _ _ _, ta, p, Tb, X, Y, R, Cc, rfl, hP.same s20, hT.same s20, RT, W, fun H2 B as s2 nB eB ls => ?_⟩
  have ls : Each (LN H2) as (CB (tOf Tb) R Cc) := ls
  have s02 := s20.trans s2
  refine ⟨_, rfl, B, _, rfl, .inl (SqL.of eB), _, _, rfl, rfl, _, rfl, ite2 (fun k => ?_) (fun k => ?_)⟩
  · have k1 : ((as.map V.ref).length : Int) > 0 + 1 := by
      have := of_decide_eq_true k
      omega
    have k2 : 1 < (CB (tOf Tb) R Cc).length := by
      rw [List.length_map, ls.1] at k1
      omega
    have ec := cut_col e k0 k2
    have cnt : (CB (tOf Tb) R Cc).length ≤ 100 := Nat.le_trans (bun_cnt _) lC
    have s3 := s02
    refine ⟨_, rfl, _, rfl, B, rfl, ⟨_, SqL.of eB⟩, fun M nM => ?_⟩
    have nM0 := s3.free nM
    refine lc_list (K := K) (a := B) (xs := as.map V.ref) (fun i H4 => ∃ ps : List Addr, Same H2 H4 ∧ H4 M = some (.lst (ps.map V.ref)) ∧ Each (fun z b => ∃ dz a, H4 z = some (.ins C dz (pf ta r a)) ∧ LN H2 a b) ps ((CB (tOf Tb) R Cc).take i))
      ⟨[], same_new nM _, upd_same, Each.nil⟩ (fun i H4 _ pp => by obtain ⟨_, s4, _⟩ := pp; exact SqL.of (s4 _ _ eB)) ?_ ?_
    · rintro i y H4 hi ⟨ps, s4, eM, es⟩
      obtain ⟨a, ha, rfl⟩ := get_ref hi
      obtain ⟨b, hb, hab⟩ := ls.get ha
      have hp4 := s4 _ _ (s3 _ _ hp)
      refine ⟨rfl, yes_go ⟨_, rfl, p, C, dx, _, _, rfl, hp4, TC.cl, TC.t, pf_t _ _ _, _, rfl, p, C, dx, _, _, rfl, hp4, TC.cl, TC.r, pf_r _ _ _, _, rfl, fun z dz nz ndz ne => ⟨z, dz, ta, r, a, rfl, upd_same, fun H5 e5 k5 => ⟨rfl, ?_⟩⟩⟩⟩
      have s5 := Same.made nz ndz k5
      have nMz : M ≠ z := ne_of_none eM nz
      have lps : ps.length ≤ 1000 := by
        rw [es.1, List.length_take]
        omega
      refine ⟨_, s5 _ _ eM, by rw [List.length_map]; exact small1000 lps, ps ++ [z], Same.write (s4.trans s5) nM, ?_, ?_⟩
      · rw [upd_same, List.map_append]
        rfl
      · rw [take_more hb]
        refine Each.append ⟨es.1, fun j u v e1 e2 => ?_⟩ (Each.one ⟨dz, a, ?_, hab⟩)
        · obtain ⟨du, au, f1, f2⟩ := es.2 j u v e1 e2
          exact ⟨du, au, keep_at (s5 _ _ f1) (s5 _ _ eM) (by intro z; cases z), f2⟩
        · rw [upd_ne nMz.symm]
          exact e5
    · rintro H4 ⟨ps, s4, eM, es⟩
      rw [List.length_map, ls.1, List.take_length] at es
      refine ⟨by show 3 ≤ sizeLine; decide, fun t nt => ?_⟩
      have s5 := same_new nt (.tup [vS true, .ref B, .ref M])
      have s6 := s4.trans s5
      refine q _ t (s3.trans s6) ?_
      rw [ec]
      exact ⟨B, M, as, ps, upd_same, s6 _ _ eB, ls.imp fun a b h => h.same s6, s5 _ _ eM, es.imp fun z b h => by
        obtain ⟨dz, a, f1, hab⟩ := h
        exact ⟨dz, r, a, s5 _ _ f1, (hR.same s3).same s6, hab.same s6⟩⟩
  have k2 : ¬ 1 < (CB (tOf Tb) R Cc).length := fun z => k (by
    refine decide_eq_true ?_
    rw [List.length_map, ls.1]
    omega)
  exact stay H2 s02 (cut_knot k0 k2)
end
end K9
set_option Elab.async false
set_option linter.all false
set_option maxRecDepth 100000
set_option maxHeartbeats 16000000
namespace K9
open PySem PySem.Spec PyProof.Rows L2
/-! ### what is a table, and what isn't -/
def Flat4 (v : V) : Prop := v = .non ∨ (∃ i, v = .int i) ∨ (∃ b, v = .bl b) ∨ ∃ z, v = .str z
def isI : V → Bool
  | .int _ => true
  | _ => false
def NotTup (H : Hp) (v : V) : Prop := v = .non ∨ (∃ i, v = .int i) ∨ (∃ z, v = .str z) ∨ ∃ a xs, v = .ref a ∧ H a = some (.lst xs)
theorem NotTup.same {H H' : Hp} {v : V} (h : NotTup H v) (s : Same H H') : NotTup H' v := by
  rcases h with h | h | h | ⟨a, xs, e, h⟩
  · exact .inl h
  · exact .inr (.inl h)
  · exact .inr (.inr (.inl h))
  · exact .inr (.inr (.inr ⟨a, xs, e, s _ _ h⟩))
theorem NotTup.ty {K : PySem.W.Frag} {H : Hp} {v : V} (h : NotTup H v) : ∃ t : String, TyX K H v (.type t) ∧ PySem.W.kitOne K (.type t) (.type "tuple") = some false := by
  rcases h with rfl | ⟨i, rfl⟩ | ⟨z, rfl⟩ | ⟨a, xs, rfl, h⟩
  · exact ⟨_, .base .non, kit_ty (by decide +kernel)⟩
  · exact ⟨_, .base (.int i), kit_ty (by decide +kernel)⟩
  · exact ⟨_, .base (.str z), kit_ty (by decide +kernel)⟩
  · exact ⟨_, .base (.lst h), kit_ty (by decide +kernel)⟩
def RowIs (H : Hp) (x : V) : Option (List V) → Prop
  | none => NotTup H x
  | some ys => ∃ r, x = .ref r ∧ H r = some (.tup ys) ∧ (∀ y ∈ ys, Flat4 y) ∧ ys.length ≤ 200
theorem RowIs.same {H H' : Hp} {x : V} (s : Same H H') : ∀ {o : Option (List V)}, RowIs H x o → RowIs H' x o
  | none, h => NotTup.same h s
  | some ys, h => by
    obtain ⟨r, e, h1, h2⟩ := h
    exact ⟨r, e, s _ _ h1, h2⟩
def okRow (m : Nat) : Option (List V) → Prop
  | none => False
  | some ys => 1 ≤ ys.length ∧ ys.length ≤ 100 ∧ ys.length = m ∧ ys.all isI = true
def okTab (rs : List (Option (List V))) : Prop := 1 ≤ rs.length ∧ rs.length ≤ 100 ∧ ∃ ys0, rs[0]? = some (some ys0) ∧ ∀ r ∈ rs, okRow ys0.length r
def spInteger : Sp := fun vs H Q _ => ∃ v, vs = [v] ∧ Flat4 v ∧ Q (.bl (isI v)) H
def spListed : Sp := fun vs H Q _ => ∃ (a : Addr) (xs : List V), vs = [.ref a] ∧ H a = some (.tup xs) ∧ (∀ x ∈ xs, Flat4 x) ∧ xs.length ≤ 200 ∧ ∀ H' : Hp, Same H H' → Q (.bl (xs.all isI)) H'
def spCheck (cB : Addr) : Sp := fun vs H Q E => ∃ v, vs = [v] ∧ ((NotTup H v ∧ ∀ H' : Hp, Same H H' → E (.ref cB) none H') ∨
  ∃ (a : Addr) (xs : List V) (rs : List (Option (List V))), v = .ref a ∧ H a = some (.tup xs) ∧ Each (fun x r => RowIs H x r) xs rs ∧ (okTab rs → ∀ H' : Hp, Same H H' → Q .non H') ∧ (¬ okTab rs → ∀ H' : Hp, Same H H' → E (.ref cB) none H'))
section
variable {P : Program} {w : World} {K : PySem.W.Frag} {mg : Str → Option Value} {base : Heap} {cB : Addr}
theorem k_integer (T : Bt mg) (D : DefAt K mg "is_integer" s_is_integer ["value"]) : C8.Cal P w K mg base 1 "is_integer" spInteger [] := by
  refine D.cal sc_is_integer (fun vs H Q E h => ?_) (fun f cdv A outer s H vs Q E hr h => ?_)
  · obtain ⟨v, rfl, _⟩ := h
    rfl
  obtain ⟨v, rfl, fl, q⟩ := h
  refine ⟨_, pss_one (ps_ret (pe_and (pe_callB call_isi rfl T.isinstance (by decide +kernel) (pa_cons (pv 0) (pa_cons (pe_bltn (v := .ty "int") rfl T.int (by decide +kernel) rfl) pa_nil))) (pe_one (pe_not (pe_callB call_isi rfl T.isinstance (by decide +kernel) (pa_cons (pv 0) (pa_cons (pe_bltn (v := .ty "bool") rfl T.bool (by decide +kernel) rfl) pa_nil))))))), ?_⟩
  rcases fl with rfl | ⟨i, rfl⟩ | ⟨b, rfl⟩ | ⟨z, rfl⟩
  · exact ⟨_, rfl, _, _, _, _, false, rfl, .ty _, .base .non, kit_ty (by decide +kernel), _, rfl, iteF q⟩
  · exact ⟨_, rfl, _, _, _, _, true, rfl, .ty _, .base (.int i), kit_ty (by decide +kernel), _, rfl, iteT ⟨_, rfl, _, _, _, _, false, rfl, .ty _, .base (.int i), kit_ty (by decide +kernel), _, rfl, q⟩⟩
  · exact ⟨_, rfl, _, _, _, _, true, rfl, .ty _, .base (.bl b), kit_ty (by decide +kernel), _, rfl, iteT ⟨_, rfl, _, _, _, _, true, rfl, .ty _, .base (.bl b), kit_ty (by decide +kernel), _, rfl, q⟩⟩
  · exact ⟨_, rfl, _, _, _, _, false, rfl, .ty _, .base (.str z), kit_ty (by decide +kernel), _, rfl, iteF q⟩
theorem k_listed (T : Bt mg) (c_is_integer : C8.Cal P w K mg base 1 "is_integer" spInteger []) (D : DefAt K mg "is_listed" s_is_listed ["values"]) : C8.Cal P w K mg base 2 "is_listed" spListed [] := by
  refine D.cal sc_is_listed (fun vs H Q E h => ?_) (fun f cdv A outer s H vs Q E hr h => ?_)
  · obtain ⟨a, xs, rfl, _⟩ := h
    rfl
  obtain ⟨a, xs, rfl, ha, fl, hlen, q⟩ := h
  refine ⟨_, pss_one (ps_ret (pe_and (pe_callB call_isiT rfl T.isinstance (by decide +kernel) (pa_cons (pv 0) (pa_cons (pe_tup (pa_cons (pe_bltn (v := .ty "list") rfl T.list (by decide +kernel) rfl) (pa_cons (pe_bltn (v := .ty "tuple") rfl T.tuple (by decide +kernel) rfl) pa_nil))) pa_nil))) (pe_one (pe_callB (cr_all rfl) rfl T.all (by decide +kernel) (pa_cons (pe_lc (own := [("value", 1)]) (g := gName 1) (tt := tYes)  rfl sc_is_listed.nd  (pi_tup (pv 0)) (by exact (show BlkOk ["values", "value"] (defScope s_is_listed) _ [("value", 1)] from blkOk_by (by decide +kernel))) (fun _ _ _ _ _ => (pg_name (i := 1) sc_is_listed.nd rfl (Or.inl rfl))) (fun _ _ _ _ _ => pts_nil) (fun _ _ _ _ _ => (C8.pe_c c_is_integer hr (by decide) rfl (pa_cons (pv 1) pa_nil)))) pa_nil))))), ?_⟩
  refine ⟨_, rfl, by show 2 ≤ sizeLine; decide, fun tp ntp => ?_⟩
  have s1 := same_new ntp (.tup [V.ty "list", V.ty "tuple"])
  refine ⟨.ref a, tp, [V.ty "list", V.ty "tuple"], .type "tuple", [.type "list", .type "tuple"], true, rfl, upd_same, .cons (.ty _) (.cons (.ty _) .nil), .base (.tup (s1 _ _ ha)),
    kitAny_cons (b := false) (kit_ty (by decide +kernel)) (fun _ => kitAny_cons (b := true) (kit_ty (by decide +kernel)) (fun z => nomatch z) fun _ => rfl) (fun z => nomatch z), _, rfl, iteT ?_⟩
  refine ⟨_, rfl, a, rfl, ⟨_, SqT.of (s1 _ _ ha)⟩, fun M nM => lc_tup (K := K) (a := a) (xs := xs) (fun i H' => H' = upd (upd H tp (.tup [V.ty "list", V.ty "tuple"])) M (.lst (((xs.take i).map isI).map V.bl))) rfl
    (fun i H' _ e => by rw [e]; exact SqT.of (same_new nM _ _ _ (s1 _ _ ha))) ?_ ?_⟩
  · rintro i x H' hx rfl
    refine ⟨rfl, yes_go ⟨_, rfl, x, rfl, fl x (List.mem_of_getElem? hx), _, upd_same, ?_, ?_⟩⟩
    · rw [List.length_map, List.length_map, List.length_take]
      exact small1000 (by omega)
    · rw [upd_upd, take_more hx, List.map_append, List.map_append]
      rfl
  · rintro H' rfl
    rw [List.take_length]
    refine ⟨M, _, rfl, SqL.of upd_same, ?_⟩
    have e : (xs.map isI).all id = xs.all isI := by rw [List.all_map]; rfl
    rw [e]
    exact q _ (s1.trans (same_new nM _))
theorem k_check (T : Bt mg) (B : BadC K mg cB) (c_is_listed : C8.Cal P w K mg base 2 "is_listed" spListed []) (D : DefAt K mg "check_table" s_check_table ["table"]) : CalX P w K mg base 3 "check_table" (spCheck cB) := by
  refine D.calX sc_check_table (fun vs H Q E h => ?_) (fun f cdv A outer s H vs Q E hr h => ?_)
  · obtain ⟨v, rfl, _⟩ := h
    rfl
  obtain ⟨v, rfl, h⟩ := h
  refine ⟨_, pss_cons (ps_if (PW.pt (pw_or (pt_not (pt_val (pe_callB call_isi rfl T.isinstance (by decide +kernel) (pa_cons (pv 0) (pa_cons (pe_bltn (v := .ty "tuple") rfl T.tuple (by decide +kernel) rfl) pa_nil))))) (pw_or (pt_not (pt_chain op_le op_le pe_int (pe_callB call_len_seq rfl T.len PySem.boot_len (pa_cons (pv 0) pa_nil)) (C8.pe_gc (v := .int 100) rfl T.most))) (pw_or1 (pt_not (pt_val (pe_callB call_isi rfl T.isinstance (by decide +kernel) (pa_cons (pe_ix ix_tup (pv 0) pe_int (fun _ _ => rfl)) (pa_cons (pe_bltn (v := .ty "tuple") rfl T.tuple (by decide +kernel) rfl) pa_nil)))))))))
        (pss_one (ps_raise rfl (takes_of rfl rfl rfl rfl) (pmk_own PySem.F.excBase_ValueError B.ex B.gC B.kC (raises_own B.sb B.ty) rfl)))
        pss_nil)
      (pss_one (ps_for (passes_of rfl) rfl (pi_tup (pv 0)) (pg_name (i := 1) sc_check_table.nd rfl (Or.inl rfl))
        (pss_cons (ps_if (PW.pt (pw_or (pt_not (pt_val (pe_callB call_isi rfl T.isinstance (by decide +kernel) (pa_cons (pv 1) (pa_cons (pe_bltn (v := .ty "tuple") rfl T.tuple (by decide +kernel) rfl) pa_nil))))) (pw_or (pt_not (pt_chain op_le op_le pe_int (pe_callB call_len_seq rfl T.len PySem.boot_len (pa_cons (pv 1) pa_nil)) (C8.pe_gc (v := .int 100) rfl T.most))) (pw_or1 (pt_cmpR op_ne (pe_callB call_len_seq rfl T.len PySem.boot_len (pa_cons (pv 1) pa_nil)) (pe_callB call_len_seq rfl T.len PySem.boot_len (pa_cons (pe_ix ix_tup (pv 0) pe_int (fun _ _ => rfl)) pa_nil)) (nomark _))))))
          (pss_one (ps_raise rfl (takes_of rfl rfl rfl rfl) (pmk_own PySem.F.excBase_ValueError B.ex B.gC B.kC (raises_own B.sb B.ty) rfl)))
          pss_nil)
        (pss_one (ps_if (pt_not (pt_val (C8.pe_c c_is_listed hr (by decide) rfl (pa_cons (pv 1) pa_nil))))
          (pss_one (ps_raise rfl (takes_of rfl rfl rfl rfl) (pmk_own PySem.F.excBase_ValueError B.ex B.gC B.kC (raises_own B.sb B.ty) rfl)))
          pss_nil))))), ?_⟩
  rcases h with ⟨nt, r⟩ | ⟨a, xs, rs, rfl, ha, es, good, bad⟩
  · obtain ⟨t, ty, kt⟩ := nt.ty (K := K)
    exact ⟨_, rfl, _, _, _, _, false, rfl, .ty _, ty, kt, _, rfl, iteT (iteT (r H (Same.refl H)))⟩
  have el := es.1
  refine ⟨_, rfl, _, _, _, _, true, rfl, .ty _, .base (.tup ha), kit_ty (by decide +kernel), _, rfl, iteF ?_⟩
  -- 1 <= len(table) <= MOST_LINES
  refine ⟨_, rfl, a, xs, rfl, .inr (SqT.of ha), _, _, rfl, rfl, _, rfl, ite2 (fun e1 => ?_) (fun e1 => ?_)⟩
  rotate_left
  · refine ⟨_, rfl, iteT (iteT (bad (fun ok => e1 ?_) H (Same.refl H)))⟩
    have := ok.1
    exact decide_eq_true (by omega)
  have l1 : (1 : Int) ≤ (xs.length : Int) := of_decide_eq_true e1
  refine ⟨_, _, rfl, rfl, _, rfl, ite2 (fun e2 => ?_) (fun e2 => ?_)⟩
  · refine iteT (bad (fun ok => ?_) H (Same.refl H))
    have := ok.2.1
    rw [decide_eq_true (show (xs.length : Int) ≤ 100 by omega)] at e2
    cases e2
  have l2 : xs.length ≤ 100 := by
    rcases Nat.lt_or_ge 100 xs.length with z | z
    · exact absurd (by rw [decide_eq_false (by omega)]; rfl) e2
    · exact z
  -- isinstance(table[0], tuple)
  obtain ⟨x0, hx0⟩ := get_of_lt (l := xs) (i := 0) (by omega)
  obtain ⟨r0, hr0, row0⟩ := es.get hx0
  refine ⟨_, rfl, a, xs, 0, x0, rfl, rfl, SqT.of ha, atI_nat (j := 0) hx0, ?_⟩
  cases r0 with
  | none =>
    obtain ⟨t, ty, kt⟩ := NotTup.ty (K := K) row0
    refine ⟨_, _, _, _, false, rfl, .ty _, ty, kt, _, rfl, iteT (bad (fun ok => ?_) H (Same.refl H))⟩
    obtain ⟨_, _, ys0, e, _⟩ := ok
    rw [hr0] at e
    cases e
  | some ys0 =>
  obtain ⟨ra, rfl, hra, fl0, len0⟩ := row0
  refine ⟨_, _, _, _, true, rfl, .ty _, .base (.tup hra), kit_ty (by decide +kernel), _, rfl, iteF ?_⟩
  -- the loop over the rows
  refine ⟨_, rfl, a, rfl, ⟨_, SqT.of ha⟩, for_tup (K := K) (a := a) (xs := xs) (fun i σ H' => (∃ v1, σ = [some (.ref a), v1]) ∧ Same H H' ∧ ∀ r ∈ rs.take i, okRow ys0.length r)
    ⟨⟨none, rfl⟩, Same.refl H, fun r hr => by simp at hr⟩ (fun i σ H' _ p => SqT.of (p.2.1 _ _ ha)) ?_ ?_⟩
  rotate_left
  · rintro σ H' ⟨⟨v1, rfl⟩, s1, ok⟩
    rw [el, List.take_length] at ok
    exact good ⟨by omega, by omega, ys0, hr0, ok⟩ H' s1
  rintro i x σ H' hx ⟨⟨v1, rfl⟩, s1, ok⟩
  obtain ⟨ro, hro, row⟩ := es.get hx
  have row := RowIs.same s1 row
  have no : ¬ okRow ys0.length ro → ¬ okTab rs := fun n z => by
    obtain ⟨_, _, ys, e, f⟩ := z
    rw [hr0] at e
    cases e
    exact n (f ro (List.mem_of_getElem? hro))
  cases ro with
  | none =>
    obtain ⟨t, ty, kt⟩ := NotTup.ty (K := K) row
    exact ⟨_, rfl, _, _, _, _, false, rfl, .ty _, ty, kt, _, rfl, iteT (iteT (bad (no fun z => z) H' s1))⟩
  | some ys =>
  obtain ⟨r, rfl, hr1, fl, len1⟩ := row
  refine ⟨_, rfl, _, _, _, _, true, rfl, .ty _, .base (.tup hr1), kit_ty (by decide +kernel), _, rfl, iteF ?_⟩
  refine ⟨_, rfl, r, ys, rfl, .inr (SqT.of hr1), _, _, rfl, rfl, _, rfl, ite2 (fun e1 => ?_) (fun e1 => ?_)⟩
  rotate_left
  · refine ⟨_, rfl, iteT (iteT (bad (no fun ok => e1 ?_) H' s1))⟩
    have := ok.1
    exact decide_eq_true (by omega)
  have l3 : (1 : Int) ≤ (ys.length : Int) := of_decide_eq_true e1
  refine ⟨_, _, rfl, rfl, _, rfl, ite2 (fun e2 => ?_) (fun e2 => ?_)⟩
  · refine iteT (bad (no fun ok => ?_) H' s1)
    have := ok.2.1
    rw [decide_eq_true (show (ys.length : Int) ≤ 100 by omega)] at e2
    cases e2
  have l4 : ys.length ≤ 100 := by
    rcases Nat.lt_or_ge 100 ys.length with z | z
    · exact absurd (by rw [decide_eq_false (by omega)]; rfl) e2
    · exact z
  -- len(row) != len(table[0])
  refine ⟨_, rfl, r, ys, rfl, .inr (SqT.of hr1), _, rfl, a, xs, 0, _, rfl, rfl, SqT.of (s1 _ _ ha), atI_nat (j := 0) hx0, ra, ys0, rfl, .inr (SqT.of (s1 _ _ hra)), rfl, _, rfl, ite2 (fun e3 => ?_) (fun e3 => ?_)⟩
  · refine bad (no fun ok => ?_) H' s1
    exact ne_yes e3 (by rw [ok.2.2.1])
  have l5 : ys.length = ys0.length := by
    have := V.int.inj (ne_no e3)
    omega
  -- is_listed(row)
  refine ⟨_, rfl, r, ys, rfl, hr1, fl, len1, fun H2 s2 => ⟨_, rfl, ite2 (fun e4 => ?_) (fun e4 => ?_)⟩⟩
  · refine bad (no fun ok => ?_) H2 (s1.trans s2)
    rw [ok.2.2.2] at e4
    cases e4
  · have e5 : ys.all isI = true := by
      cases z : ys.all isI with
      | true => rfl
      | false =>
        rw [z] at e4
        exact absurd rfl e4
    refine ⟨⟨_, rfl⟩, s1.trans s2, fun r hr => ?_⟩
    rw [take_more hro] at hr
    rcases List.mem_append.mp hr with hr | hr
    · exact ok r hr
    · rw [List.mem_singleton.mp hr]
      exact ⟨by omega, l4, l5, e5⟩
end
end K9
set_option Elab.async false
set_option linter.all false
set_option maxRecDepth 100000
set_option maxHeartbeats 16000000
namespace K9
open PySem PySem.Spec PyProof.Rows L2
/-- what is no table -/
def NoTab (H : Hp) (v : V) : Prop := NotTup H v ∨ ∃ (a : Addr) (xs : List V) (rs : List (Option (List V))), v = .ref a ∧ H a = some (.tup xs) ∧ Each (fun x r => RowIs H x r) xs rs ∧ ¬ okTab rs
theorem NoTab.same {H H' : Hp} {v : V} (h : NoTab H v) (s : Same H H') : NoTab H' v := by
  rcases h with h | ⟨a, xs, rs, e, h1, h2, h3⟩
  · exact .inl (h.same s)
  · exact .inr ⟨a, xs, rs, e, s _ _ h1, h2.imp fun x r k => RowIs.same s k, h3⟩
/-- a table is one -/
theorem tab_rows {H : Hp} {ta : Addr} {T : List (List Int)} {X Y : Nat} (h : TabAt H ta T) (R : Rect T X Y) :
    ∃ xs, H ta = some (.tup xs) ∧ Each (fun x r => RowIs H x r) xs (T.map fun r => some (r.map V.int)) ∧ okTab (T.map fun r => some (r.map V.int)) := by
  obtain ⟨as, h1, h2, h3⟩ := h
  have xm := R.xm
  have ym := R.ym
  have x0 := R.x0
  have y0 := R.y0
  have rw0 := R.rows
  have allI : ∀ r : List Int, (r.map V.int).all isI = true := fun r => by
    rw [List.all_map]
    exact List.all_eq_true.mpr fun _ _ => rfl
  refine ⟨_, h1, ⟨by rw [List.length_map, List.length_map, h2], fun i x r e1 e2 => ?_⟩, by rw [List.length_map]; omega, by rw [List.length_map]; omega, ?_⟩
  · obtain ⟨a, ha, rfl⟩ := get_ref e1
    rw [List.getElem?_map] at e2
    cases e : T[i]? with
    | none => rw [e] at e2; cases e2
    | some row =>
      rw [e] at e2
      have e2 : some (row.map V.int) = r := Option.some.inj e2
      subst e2
      refine ⟨a, rfl, h3 i a row ha e, fun y hy => ?_, ?_⟩
      · obtain ⟨z, _, ez⟩ := List.mem_map.mp hy
        exact .inr (.inl ⟨z, ez.symm⟩)
      · rw [List.length_map, R.cols row (List.mem_of_getElem? e)]
        omega
  · obtain ⟨row, e⟩ := get_of_lt (l := T) (i := 0) (by omega)
    refine ⟨row.map V.int, by rw [List.getElem?_map, e]; rfl, fun r hr => ?_⟩
    obtain ⟨z, hz, ez⟩ := List.mem_map.mp hr
    subst ez
    have l1 := R.cols z hz
    have l2 := R.cols row (List.mem_of_getElem? e)
    exact ⟨by rw [List.length_map]; omega, by rw [List.length_map]; omega, by rw [List.length_map, List.length_map]; omega, allI z⟩
def spKnotOf (cB C : Addr) : Sp := fun vs H Q E => ∃ v, vs = [v] ∧ ((NoTab H v ∧ ∀ H' : Hp, Same H H' → E (.ref cB) none H') ∨
  ∃ (ta : Addr) (T : List (List Int)) (X Y : Nat), v = .ref ta ∧ TabAt H ta T ∧ Rect T X Y ∧ ∀ (H' : Hp) (u : V), Same H H' → (u = .non ↔ free (tOf T) (List.range X) (List.range Y)) → Q u H')
/-- a list of refs is stored: rows of numbers stand -/
theorem num_ne_ref {H : Hp} {r W : Addr} {R : List Nat} {ps : List Addr} (h : LN H r R) (h0 : R ≠ []) (hW : H W = some (.lst (ps.map V.ref))) : r ≠ W := by
  refine ne_of h hW fun e => ?_
  injection e with e
  cases R with
  | nil => exact h0 rfl
  | cons n R =>
    cases ps with
    | nil => cases e
    | cons p ps =>
      rw [List.map_cons, List.map_cons] at e
      injection e with e1 _
      cases e1
theorem PartIs.store {C W : Addr} {H : Hp} {o : HO} {ta p : Addr} {R Cc : List Nat} {ps : List Addr} (h : PartIs C H ta p R Cc) (g : Good R Cc) (hW : H W = some (.lst (ps.map V.ref))) : PartIs C (upd H W o) ta p R Cc := by
  obtain ⟨dx, r, c, h1, h2, h3⟩ := h
  refine ⟨dx, r, c, keep_at h1 hW (by intro z; cases z), ?_, ?_⟩
  · show upd H W o r = _
    rw [upd_ne (num_ne_ref h2 g.r0 hW)]
    exact h2
  · show upd H W o c = _
    rw [upd_ne (num_ne_ref h3 g.c0 hW)]
    exact h3
/-- what is still to do with a part -/
def wt (l : List Nat × List Nat) : Nat := 2 * (l.1.length * l.2.length) - 1
theorem wt_pos {l : List Nat × List Nat} (g : Good l.1 l.2) : 1 ≤ wt l := by
  have h1 := g.len
  have h2 : 1 ≤ l.1.length * l.2.length := Nat.mul_pos h1.1 h1.2
  unfold wt
  omega
theorem wt_len {Ls : List (List Nat × List Nat)} (h : ∀ l ∈ Ls, Good l.1 l.2) : Ls.length ≤ (Ls.map wt).sum := by
  induction Ls with
  | nil => exact Nat.zero_le _
  | cons l Ls ih =>
    have h1 := wt_pos (h l List.mem_cons_self)
    have h2 := ih fun k hk => h k (List.mem_cons_of_mem _ hk)
    rw [List.map_cons, List.sum_cons, List.length_cons]
    omega
theorem wt_sub {s : Bool} {R C : List Nat} {bs : List (List Nat)} (c : Cut R C s bs) : ((bs.map fun b => (subR s b R, subC s b C)).map wt).sum + bs.length = 2 * (R.length * C.length) := by
  have key : ∀ cs : List (List Nat), (∀ b ∈ cs, Good (subR s b R) (subC s b C)) → ((cs.map fun b => (subR s b R, subC s b C)).map wt).sum + cs.length = 2 * (cs.map fun b => (subR s b R).length * (subC s b C).length).sum := by
    intro cs
    induction cs with
    | nil => intro _; rfl
    | cons b cs ih =>
      intro g
      have h1 := ih fun k hk => g k (List.mem_cons_of_mem _ hk)
      have h2 := (g b List.mem_cons_self).len
      have h3 : 1 ≤ (subR s b R).length * (subC s b C).length := Nat.mul_pos h2.1 h2.2
      simp only [List.map_cons, List.sum_cons, List.length_cons] at h1 ⊢
      have h4 : wt (subR s b R, subC s b C) = 2 * ((subR s b R).length * (subC s b C).length) - 1 := rfl
      rw [h4]
      omega
  rw [key bs c.good, c.area]
theorem sum_rev {l : List Nat} : l.reverse.sum = l.sum := (List.reverse_perm l).sum_nat
section
variable {P : Program} {w : World} {K : PySem.W.Frag} {mg : Str → Option Value} {base : Heap} {cB C : Addr}
theorem k_knot_of (T : Bt mg) (TC : PartC K C) (c_check_table : CalX P w K mg base 3 "check_table" (spCheck cB)) (c_whole : C8.Cal P w K mg base 3 "whole" (spWhole C) []) (c_Part_cut : C8.Met P w K mg base 4 C "cut" (spCut C) [])
    (c_Part_is_even : C8.Met P w K mg base 1 C "is_even" (spPeven C) []) (D : DefAt K mg "knot_of" s_knot_of ["table"]) : CalX P w K mg base 5 "knot_of" (spKnotOf cB C) := by
  refine D.calX sc_knot_of (fun vs H Q E h => ?_) (fun f cdv A outer s H vs Q E hr h => ?_)
  · obtain ⟨v, rfl, _⟩ := h
    rfl
  obtain ⟨v, rfl, h⟩ := h
  refine ⟨_, pss_cons (ps_expr (pe_cX c_check_table hr (by decide) (takes_of rfl rfl rfl rfl) rfl (pa_cons (pv 0) pa_nil)))
      (pss_cons (ps_set (i := 1) sc_knot_of.nd rfl (Or.inl rfl) (pe_lst (pa_cons (C8.pe_c c_whole hr (by decide) rfl (pa_cons (pv 0) pa_nil)) pa_nil)))
      (pss_cons (ps_while (passes_of rfl) (pt_cmpR op_gt (pe_callB call_len_seq rfl T.len PySem.boot_len (pa_cons (pv 1) pa_nil)) pe_int (nomark _))
        (pss_cons (ps_set (i := 2) sc_knot_of.nd rfl (Or.inl rfl) (pe_bm0 PySem.F.plainAttrs_list PySem.F.slot_list_pop PySem.F.type_list_pop mt_pop (pv 1)))
        (pss_cons (ps_asg (C8.pe_mt0 c_Part_cut hr (by decide) (pv 2)) (pg_tup rfl (pgs_cons (pg_name (i := 3) sc_knot_of.nd rfl (Or.inl rfl)) (pgs_cons (pg_name (i := 4) sc_knot_of.nd rfl (Or.inl rfl)) (pgs_cons (pg_name (i := 5) sc_knot_of.nd rfl (Or.inl rfl)) pgs_nil)))))
        (pss_cons (ps_if (PW.pt (pw_and (pt_cmpR op_isN (pv 3) pe_non (nomark _)) (pw_and1 (pt_not (pt_val (C8.pe_mt0 c_Part_is_even hr (by decide) (pv 2)))))))
          (pss_one (ps_ret (pe_tup (pa_cons (pe_callTy call_tuple_of rfl T.tuple (by decide +kernel) (pa_cons (pe_fld (pv 2) rfl) pa_nil)) (pa_cons (pe_callTy call_tuple_of rfl T.tuple (by decide +kernel) (pa_cons (pe_fld (pv 2) rfl) pa_nil)) pa_nil)))))
          pss_nil)
        (pss_one (ps_expr (pe_bm PySem.F.plainAttrs_list PySem.F.slot_list_extend PySem.F.type_list_extend mt_extend (pv 1) (pa_cons (pe_lstRev rfl rfl T.list rfl T.reversed (pv 5)) pa_nil))))))))
      (pss_one (ps_ret pe_non)))), ?_⟩
  rcases h with ⟨nt, r⟩ | ⟨ta, Tb, X, Y, rfl, hT, RT, q⟩
  · refine ⟨_, rfl, v, rfl, ?_⟩
    rcases nt with nt | ⟨a, xs, rs, e, h1, h2, h3⟩
    · exact .inl ⟨nt, r⟩
    · exact .inr ⟨a, xs, rs, e, h1, h2, fun ok => absurd ok h3, fun _ => r⟩
  obtain ⟨xs, hx1, hx2, hx3⟩ := tab_rows hT RT
  refine ⟨_, rfl, _, rfl, .inr ⟨ta, xs, _, rfl, hx1, hx2, fun _ H1 s1 => ?_, fun no => absurd hx3 no⟩⟩
  -- waiting = [whole(table)]
  refine ⟨_, rfl, ta, Tb, X, Y, rfl, hT.same s1, RT, fun H2 p s2 np hp => ⟨by show 1 ≤ sizeLine; decide, fun W nW => ?_⟩⟩
  have xm := RT.xm
  have ym := RT.ym
  have sW := same_new nW (.lst [.ref p])
  have s3 := s1.trans (s2.trans sW)
  have nW0 : H W = none := (s1.trans s2).free nW
  have WR : Within X Y (List.range X) (List.range Y) := ⟨good_range RT.x0 RT.y0, fun x hx => List.mem_range.mp hx, fun y hy => List.mem_range.mp hy⟩
  refine ⟨fun k σ H3 => ∃ (ps : List Addr) (Ls : List (List Nat × List Nat)) (v2 v3 v4 v5 : Option V), k = (Ls.map wt).sum ∧ (Ls.map wt).sum ≤ 20000 ∧ σ = [some (.ref ta), some (.ref W), v2, v3, v4, v5] ∧ Same H H3 ∧ H3 W = some (.lst (ps.map V.ref)) ∧ Each (fun p l => PartIs C H3 ta p l.1 l.2) ps Ls ∧
      (∀ l ∈ Ls, Within X Y l.1 l.2) ∧ (free (tOf Tb) (List.range X) (List.range Y) ↔ ∀ l ∈ Ls, free (tOf Tb) l.1 l.2),
    ⟨_, [p], [(List.range X, List.range Y)], none, none, none, none, rfl, ?_, rfl, s3, upd_same, Each.one (hp.same sW), fun l hl => ?_, ?_⟩, ?_⟩
  · show wt (List.range X, List.range Y) + 0 ≤ 20000
    unfold wt
    simp only [List.length_range]
    have : X * Y ≤ 100 * 100 := Nat.mul_le_mul xm ym
    omega
  · rw [List.mem_singleton.mp hl]
    exact WR
  · constructor
    · intro f l hl
      rw [List.mem_singleton.mp hl]
      exact f
    · intro f
      exact f _ List.mem_cons_self
  rintro k σ H3 ⟨ps, Ls, v2, v3, v4, v5, rfl, lim, rfl, s4, eW, es, wi, iff⟩
  refine ⟨_, rfl, W, _, rfl, .inl (SqL.of eW), _, _, rfl, rfl, _, rfl, ite2 (fun c => ?_) (fun c => ?_)⟩
  rotate_left
  · -- return None
    have e0 : ps = [] := by
      cases ps with
      | nil => rfl
      | cons a r =>
        refine absurd ?_ c
        refine decide_eq_true ?_
        rw [List.length_map, List.length_cons]
        omega
    subst e0
    have e1 : Ls = [] := List.eq_nil_of_length_eq_zero es.1.symm
    subst e1
    exact q H3 .non s4 ⟨fun _ => iff.mpr fun l hl => by simp at hl, fun _ => rfl⟩
  refine ⟨fun σ' H4 => ∃ k', k' < (Ls.map wt).sum ∧ ∃ (ps : List Addr) (Ls : List (List Nat × List Nat)) (v2 v3 v4 v5 : Option V), k' = (Ls.map wt).sum ∧ (Ls.map wt).sum ≤ 20000 ∧ σ' = [some (.ref ta), some (.ref W), v2, v3, v4, v5] ∧ Same H H4 ∧ H4 W = some (.lst (ps.map V.ref)) ∧ Each (fun p l => PartIs C H4 ta p l.1 l.2) ps Ls ∧
      (∀ l ∈ Ls, Within X Y l.1 l.2) ∧ (free (tOf Tb) (List.range X) (List.range Y) ↔ ∀ l ∈ Ls, free (tOf Tb) l.1 l.2), fun σ' H4 h => h, ?_⟩
  -- part = waiting.pop()
  have lp : 0 < ps.length := by
    have := of_decide_eq_true c
    rw [List.length_map] at this
    omega
  obtain ⟨qs, z, rfl⟩ : ∃ qs z, ps = qs ++ [z] := ⟨_, _, (List.dropLast_concat_getLast (List.length_pos_iff.mp lp)).symm⟩
  obtain ⟨Ms, l, rfl⟩ : ∃ Ms l, Ls = Ms ++ [l] := ⟨_, _, (List.dropLast_concat_getLast (l := Ls) (List.length_pos_iff.mp (by rw [← es.1, List.length_append]; exact Nat.succ_pos _))).symm⟩
  obtain ⟨R, Cc⟩ := l
  have elen : qs.length = Ms.length := by
    have := es.1
    rw [List.length_append, List.length_append] at this
    exact Nat.succ.inj this
  have hz : PartIs C H3 ta z R Cc := es.2 qs.length z (R, Cc) (by rw [List.getElem?_append_right (Nat.le_refl _), Nat.sub_self]; rfl) (by rw [elen, List.getElem?_append_right (Nat.le_refl _), Nat.sub_self]; rfl)
  have es' : Each (fun p l => PartIs C H3 ta p l.1 l.2) qs Ms := ⟨elen, fun i a x e1 e2 => es.2 i a x (by rw [List.getElem?_append_left (lt_of_get e1)]; exact e1) (by rw [List.getElem?_append_left (lt_of_get e2)]; exact e2)⟩
  have wz : Within X Y R Cc := wi (R, Cc) (List.mem_append_right _ (List.mem_singleton.mpr rfl))
  have wi' : ∀ l ∈ Ms, Within X Y l.1 l.2 := fun l hl => wi l (List.mem_append_left _ hl)
  have iff' : free (tOf Tb) (List.range X) (List.range Y) ↔ (∀ l ∈ Ms, free (tOf Tb) l.1 l.2) ∧ free (tOf Tb) R Cc := by
    rw [iff]
    constructor
    · intro f
      exact ⟨fun l hl => f l (List.mem_append_left _ hl), f (R, Cc) (List.mem_append_right _ (List.mem_singleton.mpr rfl))⟩
    · intro f l hl
      rcases List.mem_append.mp hl with hl | hl
      · exact f.1 l hl
      · rw [List.mem_singleton.mp hl]
        exact f.2
  have sumL : ((Ms ++ [(R, Cc)]).map wt).sum = (Ms.map wt).sum + wt (R, Cc) := by
    rw [List.map_append, List.sum_append_nat]
    rfl
  rw [sumL] at lim ⊢
  have eW' : H3 W = some (.lst (qs.map V.ref ++ [.ref z])) := by
    rw [List.map_append] at eW
    exact eW
  refine ⟨_, rfl, .inl ⟨rfl, _, SqL.of eW'⟩, W, _, .ref z, rfl, rfl, eW', ?_, ?_⟩
  · rw [List.length_append]
    show (qs.map V.ref ++ [V.ref z])[(qs.map V.ref).length + 1 - 1]? = _
    rw [Nat.add_sub_cancel, List.getElem?_append_right (Nat.le_refl _), Nat.sub_self]
    rfl
  rw [List.dropLast_concat]
  have s5 : Same H (upd H3 W (.lst (qs.map V.ref))) := Same.write s4 nW0
  have hz5 : PartIs C (upd H3 W (.lst (qs.map V.ref))) ta z R Cc := hz.store wz.g eW
  have es5 : Each (fun p l => PartIs C (upd H3 W (.lst (qs.map V.ref))) ta p l.1 l.2) qs Ms := ⟨es'.1, fun i a x e1 e2 => (es'.2 i a x e1 e2).store (wi' x (List.mem_of_getElem? e2)).g eW⟩
  have eW5 : (upd H3 W (.lst (qs.map V.ref))) W = some (.lst (qs.map V.ref)) := upd_same
  generalize hH5 : upd H3 W (.lst (qs.map V.ref)) = H5 at s5 hz5 es5 eW5
  clear hH5
  obtain ⟨dx, ra, ca, g1, g2, g3⟩ := id hz5
  -- side, bundles, parts = part.cut()
  refine ⟨_, rfl, z, dx, _, rfl, g1, pf_cut _ _ _, ta, z, Tb, X, Y, R, Cc, rfl, hz5, hT.same s5, RT, wz, fun H6 t s6 ct => ?_⟩
  have s56 := s5.trans s6
  have pos := wt_pos (l := (R, Cc)) wz.g
  cases ec : cut (tOf Tb) R Cc with
  | none =>
    rw [ec] at ct
    obtain ⟨l1, l2, et, e1, e2⟩ := ct
    refine ⟨t, _, rfl, SqT.of et, rfl, _, _, rfl, _, _, rfl, _, _, rfl, rfl, ?_⟩
    refine ⟨_, rfl, rfl, _, rfl, iteT ?_⟩
    refine ⟨_, rfl, z, dx, _, rfl, s6 _ _ g1, pf_even _ _ _, ta, z, Tb, X, Y, R, Cc, rfl, hz5.same s6, (hT.same s5).same s6, RT, wz, fun H7 s7 => ⟨_, rfl, ite2 (fun e => ?_) (fun e => ?_)⟩⟩
    · -- a knot
      have ne : ¬ even (tOf Tb) R Cc = true := fun h => by rw [h] at e; cases e
      have s67 := s6.trans s7
      refine ⟨_, rfl, z, C, dx, _, _, rfl, s67 _ _ g1, TC.cl, TC.r, pf_r _ _ _, ra, _, rfl, .inl ⟨SqL.of (s67 _ _ g2), fun u1 n1 => ?_⟩⟩
      have s8 := s67.trans (same_new n1 (.tup (R.map vN)))
      refine ⟨_, rfl, z, C, dx, _, _, rfl, s8 _ _ g1, TC.cl, TC.c, pf_c _ _ _, ca, _, rfl, .inl ⟨SqL.of (s8 _ _ g3), fun u2 n2 => ⟨by show 2 ≤ sizeLine; decide, fun u3 n3 => ?_⟩⟩⟩
      exact q _ (.ref u3) (s5.trans (s8.trans ((same_new n2 _).trans (same_new n3 _)))) ⟨fun h => (by cases h), fun h => absurd ((free_none wz.g ec).mp (iff'.mp h).2) ne⟩
    · have ev : even (tOf Tb) R Cc = true := by
        cases h : even (tOf Tb) R Cc with
        | true => rfl
        | false =>
          rw [h] at e
          exact absurd rfl e
      have s67 := s6.trans s7
      have eW7 := s67 _ _ eW5
      refine ⟨_, rfl, .inl ⟨rfl, _, SqL.of eW7⟩, _, rfl, l2, _, rfl, SqL.of (s7 _ _ e2), fun u nu => ?_⟩
      have s8 := same_new nu (.lst ([] : List V).reverse)
      refine ⟨W, u, _, _, rfl, rfl, s8 _ _ eW7, upd_same, ?_, ?_⟩
      · have := wt_len fun l hl => (wi' l hl).g
        rw [List.length_map, elen]
        show Ms.length + 0 ≤ _
        rw [sizeLine_eq]
        omega
      · show Ends.nx _ _ _
        rw [List.reverse_nil, List.append_nil]
        refine ⟨_, ?_, qs, Ms, _, _, _, _, rfl, by omega, rfl, Same.write (s5.trans (s67.trans s8)) nW0, upd_same, ⟨es5.1, fun i a x h1 h2 => ((((es5.2 i a x h1 h2).same s67).same s8).store (wi' x (List.mem_of_getElem? h2)).g (s8 _ _ eW7))⟩, wi', ?_⟩
        · omega
        · rw [iff']
          exact ⟨fun f => f.1, fun f => ⟨f, (free_none wz.g ec).mpr ev⟩⟩
  | some qq =>
    obtain ⟨sd, bs⟩ := qq
    rw [ec] at ct
    obtain ⟨l1, l2, as, zs, et, e1, e2, e3, e4⟩ := ct
    have cs := cut_spec wz.g ec
    refine ⟨t, _, rfl, SqT.of et, rfl, _, _, rfl, _, _, rfl, _, _, rfl, rfl, ?_⟩
    have ns : ¬ (vS sd = V.non) := fun h => by cases h
    refine ⟨_, rfl, rfl, _, rfl, ?_⟩
    rw [decide_eq_false ns]
    refine iteF (iteF ?_)
    have eW6 := s6 _ _ eW5
    refine ⟨_, rfl, .inl ⟨rfl, _, SqL.of eW6⟩, _, rfl, l2, _, rfl, SqL.of e3, fun u nu => ?_⟩
    have s8 := same_new nu (.lst (zs.map V.ref).reverse)
    have ws := wt_sub cs
    have wr : wt (R, Cc) = 2 * (R.length * Cc.length) - 1 := rfl
    have two := cs.two
    have sumR : (((bs.map fun b => (subR sd b R, subC sd b Cc)).reverse).map wt).sum = ((bs.map fun b => (subR sd b R, subC sd b Cc)).map wt).sum := by
      rw [List.map_reverse]
      exact sum_rev
    have sumN : ((Ms ++ (bs.map fun b => (subR sd b R, subC sd b Cc)).reverse).map wt).sum = (Ms.map wt).sum + ((bs.map fun b => (subR sd b R, subC sd b Cc)).map wt).sum := by
      rw [List.map_append, List.sum_append_nat, sumR]
    have wiN : ∀ l ∈ Ms ++ (bs.map fun b => (subR sd b R, subC sd b Cc)).reverse, Within X Y l.1 l.2 := fun l hl => by
      rcases List.mem_append.mp hl with hl | hl
      · exact wi' l hl
      · obtain ⟨b, hb, eb⟩ := List.mem_map.mp (List.mem_reverse.mp hl)
        rw [← eb]
        exact within_sub wz ec hb
    have len := wt_len fun l hl => (wiN l hl).g
    rw [sumN] at len
    rw [List.length_append, List.length_reverse, List.length_map] at len
    refine ⟨W, u, _, _, rfl, rfl, s8 _ _ eW6, upd_same, ?_, ?_⟩
    · rw [List.length_map, List.length_reverse, List.length_map, elen, e4.1, sizeLine_eq]
      omega
    · show Ends.nx _ _ _
      have eLst : qs.map V.ref ++ (zs.map V.ref).reverse = (qs ++ zs.reverse).map V.ref := by rw [List.map_append, List.map_reverse]
      rw [eLst]
      have e4' : Each (fun p l => PartIs C H6 ta p l.1 l.2) zs.reverse (bs.map fun b => (subR sd b R, subC sd b Cc)).reverse := by
        refine ⟨by rw [List.length_reverse, List.length_reverse, List.length_map, e4.1], fun i a x h1 h2 => ?_⟩
        have li := lt_of_get h1
        rw [List.length_reverse] at li
        rw [List.getElem?_reverse li] at h1
        rw [List.getElem?_reverse (by rw [List.length_map, ← e4.1]; exact li), List.length_map, ← e4.1, List.getElem?_map] at h2
        cases hb : bs[zs.length - 1 - i]? with
        | none => rw [hb] at h2; cases h2
        | some b =>
          rw [hb] at h2
          have h2 := Option.some.inj h2
          subst h2
          exact e4.2 _ a b h1 hb
      have all6 : Each (fun p l => PartIs C H6 ta p l.1 l.2) (qs ++ zs.reverse) (Ms ++ (bs.map fun b => (subR sd b R, subC sd b Cc)).reverse) := Each.append (es5.imp fun a x h => h.same s6) e4'
      refine ⟨_, ?_, qs ++ zs.reverse, Ms ++ (bs.map fun b => (subR sd b R, subC sd b Cc)).reverse, _, _, _, _, rfl, ?_, rfl, Same.write (s56.trans s8) nW0, upd_same, ⟨all6.1, fun i a x h1 h2 => ((all6.2 i a x h1 h2).same s8).store (wiN x (List.mem_of_getElem? h2)).g (s8 _ _ eW6)⟩, wiN, ?_⟩
      · rw [sumN]
        omega
      · rw [sumN]
        omega
      · rw [iff', free_some wz.g ec]
        constructor
        · intro f l hl
          rcases List.mem_append.mp hl with hl | hl
          · exact f.1 l hl
          · obtain ⟨b, hb, eb⟩ := List.mem_map.mp (List.mem_reverse.mp hl)
            rw [← eb]
            exact f.2 b hb
        · intro f
          exact ⟨fun l hl => f l (List.mem_append_left _ hl), fun b hb => f _ (List.mem_append_right _ (List.mem_reverse.mpr (List.mem_map.mpr ⟨b, hb, rfl⟩)))⟩
end
end K9
set_option Elab.async false
set_option linter.all false
set_option maxRecDepth 100000
set_option maxHeartbeats 16000000
namespace K9
open PySem PySem.Spec PyProof.Rows L2
def spBits : Sp := fun vs H Q _ => ∃ (m : Nat) (a : Addr) (b : List Nat), vs = [vN m, .ref a] ∧ LN H a b ∧ m ≤ 100 ∧ ∀ (H' : Hp) (p : Addr), Same H H' → ColsAt H' p (bitsOf m b) → Q (.ref p) H'
def spPtree (C : Addr) (n : Nat) : Sp := fun vs H Q _ => ∃ (ta p : Addr) (T : List (List Int)) (X Y : Nat) (R Cc : List Nat), vs = [.ref p] ∧ PartIs C H ta p R Cc ∧ TabAt H ta T ∧ Rect T X Y ∧ Within X Y R Cc ∧ free (tOf T) R Cc ∧ R.length + Cc.length ≤ n ∧ R.length + Cc.length ≤ 30 ∧
  ∀ (H' : Hp) (v : V), Same H H' → TreeAt X Y H' (tree (tOf T) R Cc) v → Q v H'
theorem rep_flat {i0 : Addr} : ∀ m : Nat, (List.replicate m [V.ref i0]).flatten = (List.replicate m i0).map V.ref
  | 0 => rfl
  | m + 1 => by
    rw [List.replicate_succ, List.replicate_succ, List.flatten_cons, rep_flat m, List.map_cons]
    rfl
/-- ((a,),) * m -/
theorem rep_go {K : PySem.W.Frag} {H : Hp} {l i0 : Addr} {m : Nat} {a : Int} {Q : VK} (hl : H l = some (.tup [.ref i0])) (hi : H i0 = some (.tup [.int a])) (h1 : 1 ≤ m) (h2 : m ≤ 100)
    (k : ∀ (H' : Hp) (p : Addr), Same H H' → ColsAt H' p ((List.range m).map fun _ => a) → Q (.ref p) H') : rRepA K (.ref l) (.int (m : Int)) H Q := by
  have cols : ∀ (H' : Hp) (p : Addr), Same H H' → H' p = some (.tup ((List.replicate m i0).map V.ref)) → ColsAt H' p ((List.range m).map fun _ => a) := fun H' p s e => by
    refine ⟨_, e, by rw [List.length_replicate, List.length_map, List.length_range], fun i q x e1 e2 => ?_⟩
    have e1 : q = i0 := (List.mem_replicate.mp (List.mem_of_getElem? e1)).2
    have e2 : x = a := by
      obtain ⟨_, _, z⟩ := List.mem_map.mp (List.mem_of_getElem? e2)
      exact z.symm
    rw [e1, e2]
    exact s _ _ hi
  refine ⟨l, (m : Int), _, rfl, rfl, SqT.of hl, by simp, by omega, by omega, by show 1 ≤ 1000; decide, fun e => ?_, fun _ p np => ?_⟩
  · have : m = 1 := by omega
    subst this
    exact k H l (Same.refl H) (cols H l (Same.refl H) hl)
  · have s1 := same_new np (.tup (List.replicate (m : Int).toNat [V.ref i0]).flatten)
    refine k _ p s1 (cols _ p s1 ?_)
    rw [upd_same]
    have e : (m : Int).toNat = m := by omega
    rw [e, rep_flat]
section
variable {P : Program} {w : World} {K : PySem.W.Frag} {mg : Str → Option Value} {base : Heap} {cB C : Addr}
theorem k_bits (T : Bt mg) (D : DefAt K mg "bits_inside" s_bits_inside ["many", "inside"]) : C8.Cal P w K mg base 1 "bits_inside" spBits [] := by
  refine D.cal sc_bits_inside (fun vs H Q E h => ?_) (fun f cdv A outer s H vs Q E hr h => ?_)
  · obtain ⟨m, a, b, rfl, _⟩ := h
    rfl
  obtain ⟨m, a, b, rfl, ha, hm, q⟩ := h
  refine ⟨_, pss_one (ps_ret (pe_callTy call_tuple_of rfl T.tuple (by decide +kernel) (pa_cons (pe_lc (own := [("one", 2)]) (g := gName 2) (tt := tYes)  rfl sc_bits_inside.nd  (pi_range1 rfl T.range (pa_cons (pv 0) pa_nil)) (by exact (show BlkOk ["many", "inside", "one"] (defScope s_bits_inside) _ [("one", 2)] from blkOk_by (by decide +kernel))) (fun _ _ _ _ _ => (pg_name (i := 2) sc_bits_inside.nd rfl (Or.inl rfl))) (fun _ _ _ _ _ => pts_nil) (fun _ _ _ _ _ => (pe_tup (pa_cons (pe_ifExp (pt_cmpR (opIn K) (pv 2) (pv 1) (by rfl)) pe_int pe_int) pa_nil)))) pa_nil))), ?_⟩
  refine ⟨_, rfl, (m : Int), rfl, by omega, by omega, fun M nM => cols_lc (m := m) (slot := 2) (f := fun z => if b.contains z = true then 1 else 0) nM (by omega) (fun _ => rfl) (fun z H1 hz s1 Q' k => ?_) (fun H1 qs s1 eM es => ?_)⟩
  · refine ⟨_, rfl, _, rfl, a, _, rfl, .inl (SqL.of (s1 _ _ ha)), rfl, flat_nums, _, rfl, ?_⟩
    show if inV (vN z) (b.map vN) = true then _ else _
    rw [in_nums]
    refine ite2 (fun e => ?_) (fun e => ?_)
    · refine ⟨by show 1 ≤ sizeLine; decide, fun t nt => ?_⟩
      have := k t nt
      rw [if_pos e] at this
      exact this
    · refine ⟨by show 1 ≤ sizeLine; decide, fun t nt => ?_⟩
      have := k t nt
      rw [if_neg e] at this
      exact this
  · refine ⟨M, _, rfl, .inl ⟨SqL.of eM, fun p np => ?_⟩⟩
    have s2 := same_new np (.tup (qs.map V.ref))
    exact q _ p (s1.trans s2) ⟨qs, upd_same, es.imp fun a x h => s2 _ _ h⟩
theorem k_Ptree1 (T : Bt mg) (TC : PartC K C) (c_Part_cut : C8.Met P w K mg base 4 C "cut" (spCut C) []) (c_bits_inside : C8.Cal P w K mg base 1 "bits_inside" spBits []) (D : DefAt K mg "tree_for" s_tree_for ["part"]) {n : Nat} (c_tree_for : C8.Cal P w K mg base (n + 4) "tree_for" (spPtree C n) []) :
    C8.Cal P w K mg base (n + 1 + 4) "tree_for" (spPtree C (n + 1)) [] := by
  refine D.cal (k := n + 4) sc_tree_for (fun vs H Q E h => ?_) (fun f cdv A outer s H vs Q E hr h => ?_)
  · obtain ⟨ta, p, Tb, X, Y, R, Cc, rfl, _⟩ := h
    rfl
  obtain ⟨ta, p, Tb, X, Y, R, Cc, rfl, hP, hT, RT, W, fr, le, le30, q⟩ := h
  obtain ⟨dx, ra, ca, hp, hR, hC⟩ := id hP
  refine ⟨_, pss_cons (ps_set (i := 1) sc_tree_for.nd rfl (Or.inl rfl) (pe_tup (pa_cons (pe_callB call_len_seq rfl T.len PySem.boot_len (pa_cons (pe_fld (pv 0) rfl) pa_nil)) (pa_cons (pe_callB call_len_seq rfl T.len PySem.boot_len (pa_cons (pe_ix ix_tup (pe_fld (pv 0) rfl) pe_int (fun _ _ => rfl)) pa_nil)) pa_nil))))
      (pss_cons (ps_asg (C8.pe_mt0 c_Part_cut hr (by omega) (pv 0)) (pg_tup rfl (pgs_cons (pg_name (i := 2) sc_tree_for.nd rfl (Or.inl rfl)) (pgs_cons (pg_name (i := 3) sc_tree_for.nd rfl (Or.inl rfl)) (pgs_cons (pg_name (i := 4) sc_tree_for.nd rfl (Or.inl rfl)) pgs_nil)))))
      (pss_cons (ps_if (pt_cmpR op_isN (pv 2) pe_non (nomark _))
        (pss_cons (ps_set (i := 5) sc_tree_for.nd rfl (Or.inl rfl) (pe_ix ix_tup (pe_ix ix_tup (pe_fld (pv 0) rfl) (pe_ix ix_list (pe_fld (pv 0) rfl) pe_int (fun _ _ => rfl)) (fun _ _ => rfl)) (pe_ix ix_list (pe_fld (pv 0) rfl) pe_int (fun _ _ => rfl)) (fun _ _ => rfl)))
        (pss_one (ps_ret (pe_tup (pa_cons pe_str (pa_cons (pe_op op_repA (pe_tup (pa_cons (pe_tup (pa_cons (pv 5) pa_nil)) pa_nil)) (pe_ix ix_tup (pv 1) pe_int (fun _ _ => rfl))) (pa_cons (pe_op op_repA (pe_tup (pa_cons (pe_tup (pa_cons (pv 5) pa_nil)) pa_nil)) (pe_ix ix_tup (pv 1) pe_int (fun _ _ => rfl))) pa_nil)))))))
        pss_nil)
      (pss_cons (ps_set (i := 6) sc_tree_for.nd rfl (Or.inl rfl) (C8.pe_c c_tree_for hr (by omega) rfl (pa_cons (pe_ix ix_list (pv 4) (pe_un un_neg pe_int) (fun _ _ => rfl)) pa_nil)))
      (pss_cons (ps_for PassesOwn.never rfl (pi_revR rfl T.reversed (prg_1 rfl T.range (pe_op op_sub (pe_callB call_len_seq rfl T.len PySem.boot_len (pa_cons (pv 4) pa_nil)) pe_int))) (pg_name (i := 7) sc_tree_for.nd rfl (Or.inl rfl))
        (pss_one (ps_set (i := 6) sc_tree_for.nd rfl (Or.inl rfl) (pe_tup (pa_cons pe_str (pa_cons (pv 2) (pa_cons (C8.pe_c c_bits_inside hr (by omega) rfl (pa_cons (pe_ix ix_tup (pv 1) (pv 2) (fun _ _ => rfl)) (pa_cons (pe_ix ix_list (pv 3) (pv 7) (fun _ _ => rfl)) pa_nil))) (pa_cons (pv 6) (pa_cons (C8.pe_c c_tree_for hr (by omega) rfl (pa_cons (pe_ix ix_list (pv 4) (pv 7) (fun _ _ => rfl)) pa_nil)) pa_nil)))))))))
      (pss_one (ps_ret (pv 6))))))), ?_⟩
  obtain ⟨as0, a0, r0, t1, t2, t3, t4, t5⟩ := tab_row hT RT
  have xm := RT.xm
  have ym := RT.ym
  have x0 := RT.x0
  have y0 := RT.y0
  -- many = (len(part.table), len(part.table[0]))
  refine ⟨_, rfl, p, C, dx, _, _, rfl, hp, TC.cl, TC.t, pf_t _ _ _, ta, _, rfl, .inr (SqT.of t1), _, rfl, p, C, dx, _, _, rfl, hp, TC.cl, TC.t, pf_t _ _ _, ta, _, _, _, rfl, rfl, SqT.of t1, t3, a0, _, rfl, .inr (SqT.of t4), by show 2 ≤ sizeLine; decide, fun Z nZ => ?_⟩
  rw [List.length_map, List.length_map, t2, t5]
  have sZ := same_new nZ (.tup [.int (X : Int), .int (Y : Int)])
  have eZ : (upd H Z (.tup [.int (X : Int), .int (Y : Int)])) Z = some (.tup [.int (X : Int), .int (Y : Int)]) := upd_same
  generalize hH0 : upd H Z (.tup [.int (X : Int), .int (Y : Int)]) = H0 at sZ eZ
  clear hH0
  -- side, bundles, parts = part.cut()
  refine ⟨_, rfl, p, dx, _, rfl, sZ _ _ hp, pf_cut _ _ _, ta, p, Tb, X, Y, R, Cc, rfl, hP.same sZ, hT.same sZ, RT, W, fun H1 t s1 ct => ?_⟩
  have s01 := sZ.trans s1
  cases ec : cut (tOf Tb) R Cc with
  | none =>
    rw [ec] at ct
    obtain ⟨l1, l2, et, e1, e2⟩ := ct
    refine ⟨t, _, rfl, SqT.of et, rfl, _, _, rfl, _, _, rfl, _, _, rfl, rfl, ?_⟩
    refine ⟨_, rfl, rfl, _, rfl, iteT ?_⟩
    obtain ⟨as1, b1, row1, u1, u2, u3, u4, u5, _, u6⟩ := tab_at (hT.same s01) RT (W.x _ (headD_mem W.g.r0))
    have hp1 := s01 _ _ hp
    refine ⟨_, rfl, p, C, dx, _, _, rfl, hp1, TC.cl, TC.t, pf_t _ _ _, _, rfl, p, C, dx, _, _, rfl, hp1, TC.cl, TC.r, pf_r _ _ _, ra, _, _, _, rfl, rfl, SqL.of (s01 _ _ hR), at_head W.g.r0, ta, _, _, _, rfl, rfl, SqT.of u1, u3,
      _, rfl, p, C, dx, _, _, rfl, hp1, TC.cl, TC.c, pf_c _ _ _, ca, _, _, _, rfl, rfl, SqL.of (s01 _ _ hC), at_head W.g.c0, b1, _, _, _, rfl, rfl, SqT.of u4, u6 _ (W.y _ (headD_mem W.g.c0)), ?_⟩
    have eZ1 := s1 _ _ eZ
    refine ⟨_, rfl, by show 1 ≤ sizeLine; decide, fun i1 n1 => ⟨by show 1 ≤ sizeLine; decide, fun l1 nl1 => ?_⟩⟩
    have s2 := (same_new n1 (.tup [.int (tOf Tb (R.headD 0) (Cc.headD 0))])).trans (same_new nl1 (.tup [.ref i1]))
    refine ⟨_, rfl, Z, _, _, .int (X : Int), rfl, rfl, SqT.of (s2 _ _ eZ1), atI_nat (j := 0) rfl, rep_go (a := tOf Tb (R.headD 0) (Cc.headD 0)) upd_same (same_new nl1 _ _ _ upd_same) (by omega) xm fun H2 p1 s3 cl1 => ?_⟩
    refine ⟨_, rfl, by show 1 ≤ sizeLine; decide, fun i2 n2 => ⟨by show 1 ≤ sizeLine; decide, fun l2 nl2 => ?_⟩⟩
    have s4 := (same_new n2 (.tup [.int (tOf Tb (R.headD 0) (Cc.headD 0))])).trans (same_new nl2 (.tup [.ref i2]))
    refine ⟨_, rfl, Z, _, _, .int (Y : Int), rfl, rfl, SqT.of (s4 _ _ (s3 _ _ (s2 _ _ eZ1))), atI_nat (j := 1) rfl, rep_go (a := tOf Tb (R.headD 0) (Cc.headD 0)) upd_same (same_new nl2 _ _ _ upd_same) (by omega) ym fun H3 p2 s5 cl2 => ⟨by show 3 ≤ sizeLine; decide, fun t nt => ?_⟩⟩
    have s6 := same_new nt (.tup [.str "end", .ref p1, .ref p2])
    refine q _ _ (s01.trans (s2.trans (s3.trans (s4.trans (s5.trans s6))))) ?_
    rw [tree_none W.g ec]
    exact ⟨t, p1, p2, rfl, upd_same, cl1.same (s4.trans (s5.trans s6)), cl2.same s6⟩
  | some qq =>
    obtain ⟨sd, bs⟩ := qq
    rw [ec] at ct
    obtain ⟨l1, l2, as, zs, et, e1, e2, e3, e4⟩ := ct
    have cs := cut_spec W.g ec
    have two := cs.two
    refine ⟨t, _, rfl, SqT.of et, rfl, _, _, rfl, _, _, rfl, _, _, rfl, rfl, ?_⟩
    have ns : ¬ (vS sd = V.non) := fun h => by cases h
    refine ⟨_, rfl, rfl, _, rfl, ?_⟩
    rw [decide_eq_false ns]
    refine iteF ?_
    have lz : zs.length = bs.length := e4.1
    have nbs : bs.length ≤ 31 := by
      cases bs with
      | nil => simp
      | cons b br =>
        have := cs.cnt b List.mem_cons_self
        omega
    -- what the recursion asks of the k-th part
    have rec0 : ∀ (k : Nat) (b : List Nat) (z : Addr) (H2 : Hp), Same H1 H2 → bs[k]? = some b → zs[k]? = some z → ∀ Q' : VK, (∀ (H' : Hp) (v : V), Same H2 H' → TreeAt X Y H' (tree (tOf Tb) (subR sd b R) (subC sd b Cc)) v → Q' v H') → spPtree C n [.ref z] H2 Q' C8.E0 := by
      intro k b z H2 s2 hb hz Q' k'
      have hbm := List.mem_of_getElem? hb
      have lt := cs.less b hbm
      exact ⟨ta, z, Tb, X, Y, _, _, rfl, (e4.2 k z b hz hb).same s2, (hT.same s01).same s2, RT, within_sub W ec hbm, (free_some W.g ec).mp fr b hbm, by omega, by omega, k'⟩
    -- tree = tree_for(parts[-1])
    obtain ⟨b1, hb1⟩ := get_of_lt (l := bs) (i := bs.length - 1) (by omega)
    obtain ⟨z1, hz1⟩ := get_of_lt (l := zs) (i := bs.length - 1) (by omega)
    have lastAt : atI (zs.map V.ref) (-1) = some (.ref z1) := by
      have ez : zs = zs.dropLast ++ [z1] := by
        have h1 : zs ≠ [] := fun h => by rw [h] at lz; rw [← lz] at two; cases two
        have h2 := List.dropLast_concat_getLast h1
        have h3 : zs.getLast h1 = z1 := by
          have := List.getLast?_eq_getElem? (l := zs)
          rw [lz, hz1, List.getLast?_eq_getLast h1] at this
          exact Option.some.inj this
        rw [h3] at h2
        exact h2.symm
      rw [ez, List.map_append]
      exact atI_last _ _
    refine ⟨_, rfl, 1, rfl, l2, _, _, _, rfl, rfl, SqL.of e3, lastAt, rec0 _ b1 z1 H1 (Same.refl H1) hb1 hz1 _ fun H2 v1 s2 tr1 => ?_⟩
    have jl := join_last (s := sd) (bs := bs) (Ts := bs.map fun b => tree (tOf Tb) (subR sd b R) (subC sd b Cc)) (k := bs.length - 1) (T := tree (tOf Tb) (subR sd b1 R) (subC sd b1 Cc)) (by rw [List.getElem?_map, hb1]; rfl) (by rw [List.length_map]; omega)
    -- the loop downwards
    refine ⟨_, rfl, l2, _, rfl, .inl (SqL.of (s2 _ _ e3)), _, _, rfl, rfl, _, rfl, by omega, by omega, by omega, by rw [List.length_map]; omega,
      for_rangeC (lo := 0 + (((((zs.map V.ref).length : Nat) : Int) - 1 - 0).toNat : Int) - 1) (c := -1) (n := ((((zs.map V.ref).length : Nat) : Int) - 1 - 0).toNat) (fun i σ H3 => ∃ (v : V) (v7 : Option V), σ = [some (.ref p), some (.ref Z), some (vS sd), some (.ref l1), some (.ref l2), none, some v, v7] ∧
        Same H2 H3 ∧ TreeAt X Y H3 (join sd (bs.drop (bs.length - 1 - i)) ((bs.map fun b => tree (tOf Tb) (subR sd b R) (subC sd b Cc)).drop (bs.length - 1 - i))) v)
      ⟨v1, none, rfl, Same.refl H2, by rw [Nat.sub_zero, jl]; exact tr1⟩ ?_ ?_⟩
    · rintro i σ H3 hi ⟨v, v7, rfl, s3, tr⟩
      rw [List.length_map] at hi
      have hi2 : i + 1 < bs.length := by omega
      have ek : 0 + (((((zs.map V.ref).length : Nat) : Int) - 1 - 0).toNat : Int) - 1 + (i : Int) * -1 = ((bs.length - 2 - i : Nat) : Int) := by
        rw [List.length_map]
        omega
      rw [ek]
      obtain ⟨b, hb⟩ := get_of_lt (l := bs) (i := bs.length - 2 - i) (by omega)
      obtain ⟨a, ha, hab⟩ := e2.at hb
      obtain ⟨z, hz⟩ := get_of_lt (l := zs) (i := bs.length - 2 - i) (by omega)
      have s23 := s2.trans s3
      have sz : atI [V.int (X : Int), V.int (Y : Int)] (if sd = true then 1 else 0) = some (vN (if sd = true then Y else X)) := by
        cases sd with
        | false => exact atI_nat (j := 0) rfl
        | true => exact atI_nat (j := 1) rfl
      have szl : (if sd = true then Y else X) ≤ 100 := by split <;> omega
      refine ⟨_, rfl, _, rfl, _, rfl, Z, _, _, _, rfl, rfl, SqT.of (s23 _ _ (s1 _ _ eZ)), sz, _, rfl, _, rfl, l1, _, _, .ref a, rfl, rfl, SqL.of (s23 _ _ e1), at_of (j := bs.length - 2 - i) rfl (by rw [List.getElem?_map, ha]; rfl),
        _, a, b, rfl, hab.same s23, szl, fun H4 pb s4 cl => ?_⟩
      refine ⟨_, rfl, _, rfl, _, rfl, l2, _, _, _, rfl, rfl, SqL.of (s4 _ _ (s23 _ _ e3)), at_of (j := bs.length - 2 - i) rfl (by rw [List.getElem?_map, hz]; rfl), rec0 _ b z H4 (s23.trans s4) hb hz _ fun H5 vt s5 trt => ⟨by show 5 ≤ sizeLine; decide, fun u nu => ?_⟩⟩
      have s6 := same_new nu (.tup [.str "say", vS sd, .ref pb, v, vt])
      refine ⟨.ref u, _, rfl, s3.trans (s4.trans (s5.trans s6)), ?_⟩
      have ex : bs.length - 1 - (i + 1) = bs.length - 2 - i := by omega
      have ey : bs.length - 2 - i + 1 = bs.length - 1 - i := by omega
      rw [ex, join_at hb (by rw [List.getElem?_map, hb]; rfl) (by rw [List.length_map]; omega), ey]
      exact ⟨u, pb, v, vt, rfl, upd_same, cl.same (s5.trans s6), tr.same (s4.trans (s5.trans s6)), trt.same s6⟩
    · rintro σ H3 ⟨v, v7, rfl, s3, tr⟩
      have ez : bs.length - 1 - ((((zs.map V.ref).length : Nat) : Int) - 1 - 0).toNat = 0 := by
        rw [List.length_map]
        omega
      rw [ez, List.drop_zero, List.drop_zero, ← tree_some W.g ec] at tr
      exact ⟨_, rfl, q H3 v (s01.trans (s2.trans s3)) tr⟩
theorem k_Ptree (T : Bt mg) (TC : PartC K C) (c_Part_cut : C8.Met P w K mg base 4 C "cut" (spCut C) []) (c_bits_inside : C8.Cal P w K mg base 1 "bits_inside" spBits []) (D : DefAt K mg "tree_for" s_tree_for ["part"]) :
    ∀ n : Nat, C8.Cal P w K mg base (n + 4) "tree_for" (spPtree C n) []
  | 0 => D.cal_no fun vs H Q E h => by
    obtain ⟨ta, p, Tb, X, Y, R, Cc, _, _, _, _, W, _, le, _⟩ := h
    have := W.g.len
    omega
  | n + 1 => k_Ptree1 T TC c_Part_cut c_bits_inside D (k_Ptree T TC c_Part_cut c_bits_inside D n)
end
end K9
set_option Elab.async false
set_option linter.all false
set_option maxRecDepth 100000
set_option maxHeartbeats 16000000
namespace K9
open PySem PySem.Spec PyProof.Rows L2
/-- what talk_for and last_part refuse -/
def Refused (H : Hp) (v : V) : Prop := NoTab H v ∨ ∃ (ta : Addr) (T : List (List Int)) (X Y : Nat), v = .ref ta ∧ TabAt H ta T ∧ Rect T X Y ∧ ¬ free (tOf T) (List.range X) (List.range Y)
theorem Refused.same {H H' : Hp} {v : V} (h : Refused H v) (s : Same H H') : Refused H' v := by
  rcases h with h | ⟨ta, T, X, Y, e, h1, h2, h3⟩
  · exact .inl (h.same s)
  · exact .inr ⟨ta, T, X, Y, e, h1.same s, h2, h3⟩
def spPtalk (cB : Addr) : Sp := fun vs H Q E => ∃ v, vs = [v] ∧ ((Refused H v ∧ ∀ H' : Hp, Same H H' → E (.ref cB) none H') ∨
  ∃ (ta : Addr) (T : List (List Int)) (X Y : Nat), v = .ref ta ∧ TabAt H ta T ∧ Rect T X Y ∧ X + Y ≤ 20 ∧ free (tOf T) (List.range X) (List.range Y) ∧ ∀ (H' : Hp) (u : V), Same H H' → TalkAt X Y H' (tree (tOf T) (List.range X) (List.range Y)) u → Q u H')
/-- a pair of rows and columns -/
def PairAt (H : Hp) (v : V) (R C : List Nat) : Prop := ∃ q r c, v = .ref q ∧ H q = some (.tup [.ref r, .ref c]) ∧ TP H r R ∧ TP H c C
def spLast (cB : Addr) : Sp := fun vs H Q E => ∃ v u, vs = [v, u] ∧ ((Refused H v ∧ ∀ H' : Hp, Same H H' → E (.ref cB) none H') ∨
  ∃ (ta ti : Addr) (T : List (List Int)) (X Y : Nat) (x y : Nat) (p : Bool × List Nat × List Nat), v = .ref ta ∧ u = .ref ti ∧ TabAt H ta T ∧ Rect T X Y ∧ free (tOf T) (List.range X) (List.range Y) ∧ H ti = some (.tup [vN x, vN y]) ∧ p ∈ parts (tOf T) (List.range X) (List.range Y) ∧ x ∈ p.2.1 ∧ y ∈ p.2.2 ∧
    ∀ (H' : Hp) (z : V), Same H H' → PairAt H' z p.2.1 p.2.2 → Q z H')
/-- what cut hands back, taken apart -/
def CutV (C : Addr) (H : Hp) (ta : Addr) (v : V) (l1 l2 : Addr) (R Cc : List Nat) : Option (Bool × List (List Nat)) → Prop
  | none => v = .non
  | some (s, bs) => v = vS s ∧ ∃ (as ps : List Addr), H l1 = some (.lst (as.map V.ref)) ∧ Each (LN H) as bs ∧ H l2 = some (.lst (ps.map V.ref)) ∧ Each (fun p b => PartIs C H ta p (subR s b R) (subC s b Cc)) ps bs
theorem CutAt.v {C : Addr} {H : Hp} {ta q : Addr} {R Cc : List Nat} {o : Option (Bool × List (List Nat))} (h : CutAt C H ta q R Cc o) : ∃ v l1 l2, H q = some (.tup [v, .ref l1, .ref l2]) ∧ CutV C H ta v l1 l2 R Cc o := by
  cases o with
  | none =>
    obtain ⟨l1, l2, h1, _, _⟩ := h
    exact ⟨_, l1, l2, h1, rfl⟩
  | some p =>
    obtain ⟨s, bs⟩ := p
    obtain ⟨l1, l2, as, ps, h1, h2, h3, h4, h5⟩ := h
    exact ⟨_, l1, l2, h1, rfl, as, ps, h2, h3, h4, h5⟩
section
variable {P : Program} {w : World} {K : PySem.W.Frag} {mg : Str → Option Value} {base : Heap} {cB C : Addr}
theorem k_Ptalk (B : BadC K mg cB) (c_knot_of : CalX P w K mg base 5 "knot_of" (spKnotOf cB C)) (c_whole : C8.Cal P w K mg base 3 "whole" (spWhole C) []) (c_tree_for : C8.Cal P w K mg base 24 "tree_for" (spPtree C 20) []) (D : DefAt K mg "talk_for" s_talk_for ["table"]) :
    CalX P w K mg base 25 "talk_for" (spPtalk cB) := by
  refine D.calX sc_talk_for (fun vs H Q E h => ?_) (fun f cdv A outer s H vs Q E hr h => ?_)
  · obtain ⟨v, rfl, _⟩ := h
    rfl
  obtain ⟨v, rfl, h⟩ := h
  refine ⟨_, pss_cons (ps_if (pt_cmpR op_notN (pe_cX c_knot_of hr (by decide) (takes_of rfl rfl rfl rfl) rfl (pa_cons (pv 0) pa_nil)) pe_non (nomark _))
        (pss_one (ps_raise rfl (takes_of rfl rfl rfl rfl) (pmk_own PySem.F.excBase_ValueError B.ex B.gC B.kC (raises_own B.sb B.ty) rfl)))
        pss_nil)
      (pss_one (ps_ret (pe_tup (pa_cons pe_str (pa_cons pe_int (pa_cons pe_int (pa_cons (C8.pe_c c_tree_for hr (by decide) rfl (pa_cons (C8.pe_c c_whole hr (by decide) rfl (pa_cons (pv 0) pa_nil)) pa_nil)) pa_nil))))))), ?_⟩
  rcases h with ⟨rf, r⟩ | ⟨ta, Tb, X, Y, rfl, hT, RT, le, fr, q⟩
  · rcases rf with nt | ⟨ta, Tb, X, Y, rfl, hT, RT, nf⟩
    · exact ⟨_, rfl, v, rfl, .inl ⟨nt, r⟩⟩
    · refine ⟨_, rfl, _, rfl, .inr ⟨ta, Tb, X, Y, rfl, hT, RT, fun H1 u s1 iff => ?_⟩⟩
      refine ⟨rfl, _, rfl, ?_⟩
      rw [decide_eq_false fun e => nf (iff.mp e)]
      exact iteT (r H1 s1)
  · refine ⟨_, rfl, _, rfl, .inr ⟨ta, Tb, X, Y, rfl, hT, RT, fun H1 u s1 iff => ?_⟩⟩
    refine ⟨rfl, _, rfl, ?_⟩
    rw [decide_eq_true (iff.mpr fr)]
    refine iteF ?_
    have g := good_range RT.x0 RT.y0
    refine ⟨_, rfl, ta, Tb, X, Y, rfl, hT.same s1, RT, fun H2 p s2 np hp => ?_⟩
    refine ⟨ta, p, Tb, X, Y, _, _, rfl, hp, (hT.same s1).same s2, RT, ⟨g, fun x hx => List.mem_range.mp hx, fun y hy => List.mem_range.mp hy⟩, fr, by rw [List.length_range, List.length_range]; exact le, by rw [List.length_range, List.length_range]; omega, fun H3 v s3 tr => ⟨by show 4 ≤ sizeLine; decide, fun t nt => ?_⟩⟩
    have s4 := same_new nt (.tup [.str "talk", .int 1, .int 1, v])
    exact q _ _ (s1.trans (s2.trans (s3.trans s4))) ⟨t, v, rfl, upd_same, tr.same s4⟩
theorem k_last (T : Bt mg) (B : BadC K mg cB) (TC : PartC K C) (c_knot_of : CalX P w K mg base 5 "knot_of" (spKnotOf cB C)) (c_whole : C8.Cal P w K mg base 3 "whole" (spWhole C) []) (c_Part_cut : C8.Met P w K mg base 4 C "cut" (spCut C) [])
    (D : DefAt K mg "last_part" s_last_part ["table", "inputs"]) : CalX P w K mg base 6 "last_part" (spLast cB) := by
  refine D.calX sc_last_part (fun vs H Q E h => ?_) (fun f cdv A outer s H vs Q E hr h => ?_)
  · obtain ⟨v, u, rfl, _⟩ := h
    rfl
  obtain ⟨v, u, rfl, h⟩ := h
  refine ⟨_, pss_cons (ps_if (pt_cmpR op_notN (pe_cX c_knot_of hr (by decide) (takes_of rfl rfl rfl rfl) rfl (pa_cons (pv 0) pa_nil)) pe_non (nomark _))
        (pss_one (ps_raise rfl (takes_of rfl rfl rfl rfl) (pmk_own PySem.F.excBase_ValueError B.ex B.gC B.kC (raises_own B.sb B.ty) rfl)))
        pss_nil)
      (pss_cons (ps_set (i := 2) sc_last_part.nd rfl (Or.inl rfl) (C8.pe_c c_whole hr (by decide) rfl (pa_cons (pv 0) pa_nil)))
      (pss_cons (ps_asg (C8.pe_mt0 c_Part_cut hr (by decide) (pv 2)) (pg_tup rfl (pgs_cons (pg_name (i := 3) sc_last_part.nd rfl (Or.inl rfl)) (pgs_cons (pg_name (i := 4) sc_last_part.nd rfl (Or.inl rfl)) (pgs_cons (pg_name (i := 5) sc_last_part.nd rfl (Or.inl rfl)) pgs_nil)))))
      (pss_cons (ps_while (passes_of rfl) (pt_cmpR op_notN (pv 3) pe_non (nomark _))
        (pss_cons (ps_for (passes_of rfl) rfl (pi_zip (by rfl) T.zip (pa_cons (pv 4) (pa_cons (pv 5) pa_nil))) (pg_tup rfl (pgs_cons (pg_name (i := 6) sc_last_part.nd rfl (Or.inl rfl)) (pgs_cons (pg_name (i := 7) sc_last_part.nd rfl (Or.inl rfl)) pgs_nil)))
          (pss_one (ps_if (pt_cmpR op_in_seq (pe_ix ix_tup (pv 1) (pv 3) (fun _ _ => rfl)) (pv 6) (by rfl))
            (pss_one (ps_set (i := 2) sc_last_part.nd rfl (Or.inl rfl) (pv 7)))
            pss_nil)))
        (pss_one (ps_asg (C8.pe_mt0 c_Part_cut hr (by decide) (pv 2)) (pg_tup rfl (pgs_cons (pg_name (i := 3) sc_last_part.nd rfl (Or.inl rfl)) (pgs_cons (pg_name (i := 4) sc_last_part.nd rfl (Or.inl rfl)) (pgs_cons (pg_name (i := 5) sc_last_part.nd rfl (Or.inl rfl)) pgs_nil))))))))
      (pss_one (ps_ret (pe_tup (pa_cons (pe_callTy call_tuple_of rfl T.tuple (by decide +kernel) (pa_cons (pe_fld (pv 2) rfl) pa_nil)) (pa_cons (pe_callTy call_tuple_of rfl T.tuple (by decide +kernel) (pa_cons (pe_fld (pv 2) rfl) pa_nil)) pa_nil)))))))), ?_⟩
  rcases h with ⟨rf, r⟩ | ⟨ta, ti, Tb, X, Y, x, y, pt, rfl, rfl, hT, RT, fr, hti, hpt, hx, hy, q⟩
  · rcases rf with nt | ⟨ta, Tb, X, Y, rfl, hT, RT, nf⟩
    · exact ⟨_, rfl, v, rfl, .inl ⟨nt, r⟩⟩
    · refine ⟨_, rfl, _, rfl, .inr ⟨ta, Tb, X, Y, rfl, hT, RT, fun H1 u s1 iff => ?_⟩⟩
      refine ⟨rfl, _, rfl, ?_⟩
      rw [decide_eq_false fun e => nf (iff.mp e)]
      exact iteT (r H1 s1)
  refine ⟨_, rfl, _, rfl, .inr ⟨ta, Tb, X, Y, rfl, hT, RT, fun H1 u s1 iff => ?_⟩⟩
  refine ⟨rfl, _, rfl, ?_⟩
  rw [decide_eq_true (iff.mpr fr)]
  refine iteF ?_
  -- part = whole(table); side, bundles, parts = part.cut()
  refine ⟨_, rfl, ta, Tb, X, Y, rfl, hT.same s1, RT, fun H2 p0 s2 np hp => ?_⟩
  have s12 := s1.trans s2
  have W0 : Within X Y (List.range X) (List.range Y) := ⟨good_range RT.x0 RT.y0, fun x hx => List.mem_range.mp hx, fun y hy => List.mem_range.mp hy⟩
  obtain ⟨dx0, ra0, ca0, hp0, _, _⟩ := id hp
  refine ⟨_, rfl, p0, dx0, _, rfl, hp0, pf_cut _ _ _, ta, p0, Tb, X, Y, _, _, rfl, hp, hT.same s12, RT, W0, fun H3 t s3 ct => ?_⟩
  have s13 := s12.trans s3
  obtain ⟨v3, l1, l2, et, cv⟩ := ct.v
  refine ⟨t, _, rfl, SqT.of et, rfl, _, _, rfl, _, _, rfl, _, _, rfl, rfl, ?_⟩
  -- while side is not None
  refine ⟨fun k σ H4 => ∃ (p : Addr) (R Cc : List Nat) (v3 : V) (l1 l2 : Addr) (v6 v7 : Option V), k = R.length + Cc.length ∧ σ = [some (.ref ta), some (.ref ti), some (.ref p), some v3, some (.ref l1), some (.ref l2), v6, v7] ∧ Same H H4 ∧ PartIs C H4 ta p R Cc ∧ Within X Y R Cc ∧
      CutV C H4 ta v3 l1 l2 R Cc (cut (tOf Tb) R Cc) ∧ pt ∈ parts (tOf Tb) R Cc,
    ⟨_, p0, _, _, v3, l1, l2, none, none, rfl, rfl, s13, hp.same s3, W0, cv, hpt⟩, ?_⟩
  clear cv et hpt s13 hp0 hp ct
  rintro k σ H4 ⟨p, R, Cc, v3, l1, l2, v6, v7, rfl, rfl, s4, hp, W, cv, hpt⟩
  obtain ⟨dx, ra, ca, hpo, hR, hC⟩ := id hp
  refine ⟨_, rfl, rfl, _, rfl, ?_⟩
  cases ec : cut (tOf Tb) R Cc with
  | none =>
    rw [ec] at cv
    have cv : v3 = .non := cv
    subst cv
    refine iteF ?_
    rw [parts_none W.g ec] at hpt
    have e := List.mem_singleton.mp hpt
    subst e
    refine ⟨_, rfl, p, C, dx, _, _, rfl, hpo, TC.cl, TC.r, pf_r _ _ _, ra, _, rfl, .inl ⟨SqL.of hR, fun u1 n1 => ?_⟩⟩
    have s5 := same_new n1 (.tup (R.map vN))
    refine ⟨_, rfl, p, C, dx, _, _, rfl, s5 _ _ hpo, TC.cl, TC.c, pf_c _ _ _, ca, _, rfl, .inl ⟨SqL.of (s5 _ _ hC), fun u2 n2 => ⟨by show 2 ≤ sizeLine; decide, fun u3 n3 => ?_⟩⟩⟩
    have s6 := same_new n2 (.tup (Cc.map vN))
    have s7 := same_new n3 (.tup [.ref u1, .ref u2])
    refine q _ _ (s4.trans (s5.trans (s6.trans s7))) ⟨u3, u1, u2, rfl, upd_same, ?_, ?_⟩
    · exact s7 _ _ (s6 _ _ upd_same)
    · exact s7 _ _ upd_same
  | some qq =>
    obtain ⟨sd, bs⟩ := qq
    rw [ec] at cv
    obtain ⟨rfl, as, zs, e1, e2, e3, e4⟩ := cv
    have cs := cut_spec W.g ec
    have ns : ¬ (vS sd = V.non) := fun h => by cases h
    rw [decide_eq_false ns]
    refine iteT ?_
    -- the bundle in which the inputs lie
    rw [parts_some W.g ec] at hpt
    obtain ⟨b0, hb0, hpt0⟩ := List.mem_flatMap.mp hpt
    have gp := parts_good (cs.good b0 hb0) pt hpt0
    have hw : (if sd = true then y else x) ∈ b0 := by
      cases sd with
      | false => exact gp.2.1 x hx
      | true => exact gp.2.2.1 y hy
    have sz : ∀ H5 : Hp, H5 ti = some (.tup [vN x, vN y]) → atI [vN x, vN y] (if sd = true then 1 else 0) = some (vN (if sd = true then y else x)) := fun _ _ => by
      cases sd with
      | false => exact atI_nat (j := 0) rfl
      | true => exact atI_nat (j := 1) rfl
    refine ⟨fun σ' H5 => ∃ k', k' < R.length + Cc.length ∧ ∃ (p : Addr) (R Cc : List Nat) (v3 : V) (l1 l2 : Addr) (v6 v7 : Option V), k' = R.length + Cc.length ∧ σ' = [some (.ref ta), some (.ref ti), some (.ref p), some v3, some (.ref l1), some (.ref l2), v6, v7] ∧ Same H H5 ∧ PartIs C H5 ta p R Cc ∧ Within X Y R Cc ∧
      CutV C H5 ta v3 l1 l2 R Cc (cut (tOf Tb) R Cc) ∧ pt ∈ parts (tOf Tb) R Cc, fun σ' H5 h => h, ?_⟩
    refine ⟨_, rfl, _, rfl, l1, l2, _, _, rfl, SqL.of e1, SqL.of e3, RZ.for_zipL (xs := as.map V.ref) (ys := zs.map V.ref) (by rw [List.length_map, List.length_map]; exact e2.1.trans e4.1.symm) (fun i σ H5 => ∃ (pp : Addr) (v6 v7 : Option V), σ = [some (.ref ta), some (.ref ti), some (.ref pp), some (vS sd), some (.ref l1), some (.ref l2), v6, v7] ∧ Same H4 H5 ∧
        ∀ j, j < i → ∀ b z, bs[j]? = some b → zs[j]? = some z → (if sd = true then y else x) ∈ b → pp = z)
      ⟨p, v6, v7, rfl, Same.refl H4, fun j hj => absurd hj (Nat.not_lt_zero _)⟩ (fun i σ H5 pp => by obtain ⟨_, _, _, _, s5, _⟩ := pp; exact ⟨SqL.of (s5 _ _ e1), SqL.of (s5 _ _ e3)⟩) ?_ ?_⟩
    · rintro i va vz Tp σ H5 hva hvz ⟨pp, v6, v7, rfl, s5, inv⟩ nT
      obtain ⟨a, ha, rfl⟩ := get_ref hva
      obtain ⟨z, hz, rfl⟩ := get_ref hvz
      obtain ⟨b, hb, hab⟩ := e2.get ha
      have s6 := s5.trans (same_new nT (.tup [.ref a, .ref z]))
      refine ⟨Tp, _, rfl, SqT.of upd_same, rfl, _, _, rfl, _, _, rfl, rfl, ?_⟩
      have hti6 := s6 _ _ (s4 _ _ hti)
      refine ⟨_, rfl, _, rfl, ti, _, _, _, rfl, rfl, SqT.of hti6, sz _ hti6, _, rfl, a, _, rfl, .inl (SqL.of (hab.same s6)), rfl, flat_nums, _, rfl, ?_⟩
      show if inV (vN (if sd = true then y else x)) (b.map vN) = true then _ else _
      rw [in_nums]
      refine ite2 (fun e => ?_) (fun e => ?_)
      · refine ⟨_, rfl, z, _, _, rfl, s6, fun j hj b2 z2 hb2 hz2 hm => ?_⟩
        have ej := cs.apart i j b b2 _ hb hb2 (List.contains_iff_mem.mp e) hm
        subst ej
        rw [hz] at hz2
        exact Option.some.inj hz2
      · refine ⟨pp, _, _, rfl, s6, fun j hj b2 z2 hb2 hz2 hm => ?_⟩
        by_cases hji : j < i
        · exact inv j hji b2 z2 hb2 hz2 hm
        · have ej : j = i := by omega
          subst ej
          rw [hb] at hb2
          cases hb2
          exact absurd (List.contains_iff_mem.mpr hm) e
    · rintro σ H5 ⟨pp, v6, v7, rfl, s5, inv⟩
      obtain ⟨j, hj⟩ := List.getElem?_of_mem hb0
      obtain ⟨z, hz, hpz⟩ := e4.at hj
      have ep : pp = z := inv j (by rw [List.length_map, e2.1]; exact lt_of_get hj) b0 z hj hz hw
      subst ep
      have hpz5 := hpz.same s5
      have s45 := s4.trans s5
      obtain ⟨dz, rz, cz, hzo, _, _⟩ := id hpz5
      have W2 := within_sub W ec hb0
      refine ⟨_, rfl, pp, dz, _, rfl, hzo, pf_cut _ _ _, ta, pp, Tb, X, Y, _, _, rfl, hpz5, hT.same s45, RT, W2, fun H6 t s6 ct => ?_⟩
      obtain ⟨v3, l1, l2, et, cv⟩ := ct.v
      refine ⟨t, _, rfl, SqT.of et, rfl, _, _, rfl, _, _, rfl, _, _, rfl, rfl, ?_⟩
      exact ⟨_, cs.less b0 hb0, pp, _, _, v3, l1, l2, _, _, rfl, rfl, s45.trans s6, hpz5.same s6, W2, cv, hpt0⟩
end
end K9
set_option Elab.async false
set_option linter.all false
set_option maxRecDepth 100000
set_option maxHeartbeats 16000000
namespace K9
open PySem PySem.Spec PyProof.Rows L2
/-- all but what stands at a fresh place is as it was, the numbers stand -/
def spDraws (K : PySem.W.Frag) : Sp := fun vs H Q _ => ∃ (a : Addr) (ns : List Int) (m : Nat), vs = [.ref a, vN m] ∧ SqL K H a (ns.map V.int) ∧ ns.length ≤ 63 ∧ m ≤ 1000 ∧ ∀ (H' : Hp) (d : Addr) (ds : List Int), Same H H' → H d = none → H' d = some (.lst (ds.map V.int)) → Q (.ref d) H'
theorem ixN_j {n j : Nat} (hj : j < n) : ixN n (j : Int) = some j := by
  unfold ixN
  rw [if_pos (by omega), if_pos (by omega)]
  simp
section
variable {P : Program} {w : World} {K : PySem.W.Frag} {mg : Str → Option Value} {base : Heap}
theorem k_Ldraws (T : Bt mg) (D : DefAt K mg "_law_draws" s_Ldraws ["_law_script", "_law_many"]) : C8.Cal P w K mg base 1 "_law_draws" (spDraws K) [] := by
  refine D.cal sc_Ldraws (fun vs H Q E h => ?_) (fun f cdv A outer s H vs Q E hr h => ?_)
  · obtain ⟨a, ns, m, rfl, _⟩ := h
    rfl
  obtain ⟨a, ns, m, rfl, hA, ln, lm, q⟩ := h
  refine ⟨_, pss_cons (ps_setLc (own := [("_law_cell", 5)]) (g := gName 5) (tt := tYes) (i := 2) rfl sc_Ldraws.nd rfl rfl (sw_true rfl rfl rfl (by decide +kernel)) (pi_list (pv 0)) (by exact (show BlkOk ["_law_script", "_law_many", "_law_rests", "_law_draws_here", "_law_k", "_law_cell", "_law_at", "_law_mixed"] (defScope s_Ldraws) _ [("_law_cell", 5)] from blkOk_by (by decide +kernel))) (fun _ _ _ _ _ => (pg_name (i := 5) sc_Ldraws.nd rfl (Or.inl rfl))) (fun _ _ _ _ _ => pts_nil) (fun _ _ _ _ _ => (pe_callB call_abs rfl T.abs (by decide +kernel) (pa_cons (pe_callTy call_int1 rfl T.int (by decide +kernel) (pa_cons (pv 5) pa_nil)) pa_nil))))
      (pss_cons (ps_set (i := 3) sc_Ldraws.nd rfl (Or.inl rfl) (pe_lst pa_nil))
      (pss_cons (ps_for PassesOwn.never rfl (pi_range1 rfl T.range (pa_cons (pv 1) pa_nil)) (pg_name (i := 4) sc_Ldraws.nd rfl (Or.inl rfl))
        (pss_cons (ps_set (i := 5) sc_Ldraws.nd rfl (Or.inl rfl) (pv 4))
        (C8.pss_cut (ps_if (pt_cmpR op_gt (pe_callB call_len_seq rfl T.len PySem.boot_len (pa_cons (pv 0) pa_nil)) pe_int (nomark _))
          (pss_cons (ps_set (i := 6) sc_Ldraws.nd rfl (Or.inl rfl) (pe_op op_modN (pv 4) (pe_callB call_len_seq rfl T.len PySem.boot_len (pa_cons (pv 0) pa_nil))))
          (pss_cons (ps_set (i := 5) sc_Ldraws.nd rfl (Or.inl rfl) (pe_callTy call_int1 rfl T.int (by decide +kernel) (pa_cons (pe_ix ix_list (pv 0) (pv 6) (fun _ _ => rfl)) pa_nil)))
          (pss_one (ps_if (PW.pt (pw_and (pt_cmpR op_ge (pv 5) (pe_op op_pow pe_int pe_int) (nomark _)) (pw_and1 (pt_cmpR op_gt (pe_ix ix_list (pv 2) (pv 6) (fun _ _ => rfl)) pe_int (nomark _)))))
            (pss_cons (ps_expr (pe_bm PySem.F.plainAttrs_list PySem.F.slot_list_append PySem.F.type_list_append mt_append (pv 3) (pa_cons (pe_op op_mod (pe_callTy call_int1 rfl T.int (by decide +kernel) (pa_cons (pe_ix ix_list (pv 2) (pv 6) (fun _ _ => rfl)) pa_nil)) pe_int) pa_nil)))
            (pss_cons (ps_asg (pe_op op_fdiv (pe_callTy call_int1 rfl T.int (by decide +kernel) (pa_cons (pe_ix ix_list (pv 2) (pv 6) (fun _ _ => rfl)) pa_nil)) pe_int) (pg_sub (pv 2) (pv 6) set_list))
            (pss_one ps_continue)))
            pss_nil))))
          pss_nil)
        (pss_cons (ps_set (i := 7) sc_Ldraws.nd rfl (Or.inl rfl) (pe_op op_mod (pe_callTy call_int1 rfl T.int (by decide +kernel) (pa_cons (pe_op op_add (pe_op op_add (pe_op op_mul (pv 5) pe_int) (pe_op op_mul (pv 4) pe_int)) pe_int) pa_nil)) pe_int))
        (pss_cons (ps_set (i := 7) sc_Ldraws.nd rfl (Or.inl rfl) (pe_op op_mod (pe_callTy call_int1 rfl T.int (by decide +kernel) (pa_cons (pe_op op_add (pe_op op_fdiv (pe_op op_mul (pv 7) (pv 7)) pe_int) (pv 7)) pa_nil)) pe_int))
        (pss_one (ps_expr (pe_bm PySem.F.plainAttrs_list PySem.F.slot_list_append PySem.F.type_list_append mt_append (pv 3) (pa_cons (pe_op op_mod (pe_callTy call_int1 rfl T.int (by decide +kernel) (pa_cons (pe_op op_add (pe_op op_fdiv (pe_op op_mul (pv 7) (pv 7)) pe_int) (pe_op op_mul (pv 4) pe_int)) pa_nil)) pe_int) pa_nil)))))))))
      (pss_one (ps_ret (pv 3))))), ?_⟩
  -- rests
  refine ⟨_, rfl, a, rfl, ⟨_, hA⟩, fun R nR => lc_list (K := K) (a := a) (xs := ns.map V.int)
    (fun i H1 => H1 = upd H R (.lst (((ns.take i).map fun z => if z < 0 then -z else z).map V.int))) rfl (fun i H1 _ e => by rw [e]; exact (same_new nR _).seq hA) ?_ ?_⟩
  · rintro i x H1 hx rfl
    obtain ⟨z, hz, rfl⟩ := get_int hx
    have lz := lt_of_get hz
    refine ⟨rfl, yes_go ⟨_, rfl, .inl ⟨_, rfl, _, rfl, _, upd_same, ?_, ?_⟩⟩⟩
    · rw [List.length_map, List.length_map, List.length_take]
      exact small1000 (by omega)
    · rw [upd_upd, take_more hz, List.map_append, List.map_append]
      rfl
  rintro H1 rfl
  have lr : ((ns.take (ns.map V.int).length).map fun z : Int => if z < 0 then -z else z).length = ns.length := by
    rw [List.length_map, List.length_map, List.take_length]
  generalize ((ns.take (ns.map V.int).length).map fun z : Int => if z < 0 then -z else z) = rs0 at lr
  have s1 := same_new nR (.lst (rs0.map V.int))
  -- draws = []
  refine ⟨Nat.zero_le _, fun F nF => ?_⟩
  have s2 := s1.trans (same_new nF (.lst []))
  have nF0 : H F = none := s1.free nF
  have nRF : R ≠ F := ne_of_none (show upd H R _ R = _ from upd_same) nF
  refine ⟨_, rfl, _, rfl, by omega, by omega, for_range (n := (((m : Nat) : Int)).toNat) (fun k σ H' => ∃ (rs ds : List Int) (v4 v5 v6 v7 : Option V),
      σ = [some (.ref a), some (vN m), some (.ref R), some (.ref F), v4, v5, v6, v7] ∧ Same H H' ∧ H' R = some (.lst (rs.map V.int)) ∧ rs.length = ns.length ∧ H' F = some (.lst (ds.map V.int)) ∧ ds.length = k)
    ⟨rs0, [], none, none, none, none, rfl, s2, by rw [upd_ne nRF]; exact upd_same, lr, upd_same, rfl⟩ ?_ ?_⟩
  rotate_left
  · rintro σ H' ⟨rs, ds, v4, v5, v6, v7, rfl, s3, _, _, eF, _⟩
    exact ⟨_, rfl, q H' F ds s3 nF0 eF⟩
  rintro k σ H' hk ⟨rs, ds, v4, v5, v6, v7, rfl, s3, eR, lrs, eF, lds⟩
  have hk2 : k < 1000 := by omega
  rw [Int.zero_add]
  -- what is appended
  have app : ∀ (H2 : Hp) (rs2 : List Int) (z : Int), Same H H2 → H2 R = some (.lst (rs2.map V.int)) → rs2.length = ns.length → H2 F = some (.lst (ds.map V.int)) → ∀ (v4 v5 v6 v7 : Option V),
      ∃ (rs ds2 : List Int) (w4 w5 w6 w7 : Option V), ([some (.ref a), some (vN m), some (.ref R), some (.ref F), v4, v5, v6, v7] : L2.St) = [some (.ref a), some (vN m), some (.ref R), some (.ref F), w4, w5, w6, w7] ∧ Same H (upd H2 F (.lst (ds.map V.int ++ [.int z]))) ∧
        (upd H2 F (.lst (ds.map V.int ++ [.int z]))) R = some (.lst (rs.map V.int)) ∧ rs.length = ns.length ∧ (upd H2 F (.lst (ds.map V.int ++ [.int z]))) F = some (.lst (ds2.map V.int)) ∧ ds2.length = k + 1 := by
    intro H2 rs2 z s e1 e2 e3 v4 v5 v6 v7
    refine ⟨rs2, ds ++ [z], v4, v5, v6, v7, rfl, Same.write s nF0, by rw [upd_ne nRF]; exact e1, e2, ?_, by rw [List.length_append, lds]; rfl⟩
    rw [upd_same, List.map_append]
    rfl
  have small : (ds.map V.int).length < sizeLine := by
    rw [List.length_map]
    exact small1000 (by omega)
  refine ⟨_, rfl, ?_⟩
  refine ⟨fun σ H2 => ∃ (z : Int) (v6 : Option V), σ = [some (.ref a), some (vN m), some (.ref R), some (.ref F), some (vN k), some (.int z), v6, v7] ∧ H2 = H', ?_, ?_⟩
  · refine ⟨_, rfl, a, _, rfl, .inl (s3.seq hA), _, _, rfl, rfl, _, rfl, ite2 (fun c => ?_) (fun c => ?_)⟩
    rotate_left
    · exact ⟨_, _, rfl, rfl⟩
    have c1 : ((ns.map V.int).length : Int) > 0 := of_decide_eq_true c
    rw [List.length_map] at c1
    refine ⟨_, rfl, _, rfl, a, _, rfl, .inl (s3.seq hA), _, _, rfl, rfl, by rw [List.length_map]; omega, ?_⟩
    have ef : Int.fmod (k : Int) ((ns.map V.int).length : Int) = ((k % ns.length : Nat) : Int) := by
      rw [List.length_map, Int.fmod_eq_emod_of_nonneg _ (by omega)]
      rfl
    have lt : k % ns.length < ns.length := Nat.mod_lt _ (by omega)
    obtain ⟨z, hz⟩ := get_of_lt lt
    obtain ⟨r, hrr⟩ := get_of_lt (l := rs) (i := k % ns.length) (by omega)
    have atz : atI (ns.map V.int) (Int.fmod (k : Int) ((ns.map V.int).length : Int)) = some (.int z) := at_of ef (by rw [List.getElem?_map, hz]; rfl)
    have atr : atI (rs.map V.int) (Int.fmod (k : Int) ((ns.map V.int).length : Int)) = some (.int r) := at_of ef (by rw [List.getElem?_map, hrr]; rfl)
    refine ⟨_, rfl, _, rfl, a, _, _, _, rfl, rfl, s3.seq hA, atz, .inl ⟨_, rfl, ?_⟩⟩
    have no : ∀ u6 : Option V, ∃ (z' : Int) (v6 : Option V), ([some (.ref a), some (vN m), some (.ref R), some (.ref F), some (vN k), some (.int z), u6, v7] : L2.St) = [some (.ref a), some (vN m), some (.ref R), some (.ref F), some (vN k), some (.int z'), v6, v7] ∧ H' = H' := fun _ => ⟨_, _, rfl, rfl⟩
    refine ⟨_, rfl, _, _, rfl, rfl, ⟨by decide, by decide, by decide⟩, _, _, rfl, rfl, _, rfl, ite2 (fun e => ?_) (fun e => ?_)⟩
    rotate_left
    · exact no _
    refine ⟨_, rfl, _, rfl, R, _, _, _, rfl, rfl, SqL.of eR, atr, _, _, rfl, rfl, _, rfl, ite2 (fun e2 => ?_) (fun e2 => ?_)⟩
    rotate_left
    · exact no _
    refine ⟨_, rfl, .inl ⟨rfl, _, SqL.of eF⟩, _, rfl, _, rfl, R, _, _, _, rfl, rfl, SqL.of eR, atr, .inl ⟨_, rfl, _, _, rfl, rfl, (by show (0:Int) < _; decide), F, _, _, rfl, rfl, eF, small, ?_⟩⟩
    obtain ⟨rs4, ds4, w4, w5, w6, w7, e4, s4, eR4, lr4, eF4, ld4⟩ := app H' rs (r % 1000003) s3 eR lrs eF none none none none
    refine ⟨_, rfl, _, rfl, R, _, _, _, rfl, rfl, SqL.of (show (upd H' F (.lst (ds.map V.int ++ [.int (r % 1000003)]))) R = some (.lst (rs.map V.int)) by rw [upd_ne nRF]; exact eR), atr, .inl ⟨_, rfl, _, _, rfl, rfl, ⟨by decide, by decide⟩, _, rfl, _, rfl, R, rs.map V.int, _, k % ns.length, rfl, rfl, by rw [upd_ne nRF]; exact eR, by rw [ef]; exact ixN_j (by rw [List.length_map]; omega), ?_⟩⟩
    have nR0 : H R = none := nR
    refine ⟨rs.set (k % ns.length) (r / 1000003), ds4, _, _, _, _, rfl, Same.write s4 nR0, ?_, by rw [List.length_set]; exact lrs, ?_, ld4⟩
    · rw [upd_same, List.map_set]
    · rw [upd_ne nRF.symm]
      exact eF4
  rintro σ H2 ⟨z, v6, rfl, rfl⟩
  refine ⟨_, rfl, _, _, rfl, rfl, .inr ⟨by decide, by decide⟩, _, rfl, _, _, rfl, rfl, .inr ⟨by decide, by decide⟩, _, _, rfl, rfl, _, _, rfl, rfl, .inl ⟨_, rfl, _, _, rfl, rfl, (by show (0:Int) < _; decide), ?_⟩⟩
  generalize hm1 : (z * 48271 + (k : Int) * 69621 + 11) % 2147483647 = m1
  have b1 : 0 ≤ m1 ∧ m1 < 2147483647 := by omega
  refine ⟨_, rfl, _, rfl, _, _, rfl, rfl, .inl ⟨by omega, by omega⟩, _, _, rfl, rfl, ⟨by decide, by decide⟩, _, rfl, _, _, rfl, rfl, .inl ⟨_, rfl, _, _, rfl, rfl, (by show (0:Int) < _; decide), ?_⟩⟩
  generalize hm2 : (m1 * m1 / 4096 + m1) % 2147483629 = m2
  have b2 : 0 ≤ m2 ∧ m2 < 2147483629 := by omega
  refine ⟨_, rfl, .inl ⟨rfl, _, SqL.of eF⟩, _, rfl, _, rfl, _, _, rfl, rfl, .inl ⟨by omega, by omega⟩, _, _, rfl, rfl, ⟨by decide, by decide⟩, _, rfl, _, _, rfl, rfl, .inr ⟨by decide, by decide⟩, _, _, rfl, rfl, .inl ⟨_, rfl, _, _, rfl, rfl, (by show (0:Int) < _; decide), F, _, _, rfl, rfl, eF, small, ?_⟩⟩
  exact app _ rs _ s3 eR lrs eF _ _ _ _
end
end K9
set_option Elab.async false
set_option linter.all false
set_option maxRecDepth 100000
set_option maxHeartbeats 16000000
namespace K9
open PySem PySem.Spec PyProof.Rows L2
/-! ### a table put together -/
theorem if_cut {tt : TT} {tA tB : TS} {D : Ends} {σ : L2.St} {H : Hp} (M1 M0 : Hp → Prop) (h1 : ∀ H', M1 H' → tA D σ H') (h0 : ∀ H', M0 H' → tB D σ H') (h : ∀ F : Bool → Hp → Prop, (∀ H', M1 H' → F true H') → (∀ H', M0 H' → F false H') → tt σ H F) : tIfS tt tA tB D σ H :=
  h _ (fun H' m => by show if true = true then _ else _; rw [if_pos rfl]; exact h1 H' m) (fun H' m => by show if false = true then _ else _; rw [if_neg (by decide)]; exact h0 H' m)
abbrev kXY (x y : Nat) : List Key := [Sum.inl (x : Int), Sum.inl (y : Int)]
/-- the cells that are filled -/
def Cells (kvs : List (List Key × V)) : Prop := ∀ p ∈ kvs, ∃ (x y : Nat) (z : Int), p.1 = kXY x y ∧ p.2 = .int z ∧ 0 ≤ z ∧ z ≤ 2000
theorem valV_mem {kvs : List (List Key × V)} {k : List Key} {v : V} (h : valV kvs k = some v) : ∃ p ∈ kvs, p.1 = k ∧ p.2 = v := by
  unfold valV at h
  obtain ⟨p, h1, h2⟩ := Option.map_eq_some_iff.mp h
  exact ⟨p, List.mem_of_find?_eq_some h1, (by simpa using List.find?_some h1), h2⟩
theorem valV_some {kvs : List (List Key × V)} {k : List Key} {v : V} (h : (k, v) ∈ kvs) : ∃ u, valV kvs k = some u := by
  have : (kvs.find? fun kv => decide (kv.1 = k)).isSome = true := List.find?_isSome.mpr ⟨_, h, decide_eq_true rfl⟩
  obtain ⟨p, hp⟩ := Option.isSome_iff_exists.mp this
  exact ⟨p.2, by unfold valV; rw [hp]; rfl⟩
theorem Cells.get {kvs : List (List Key × V)} (c : Cells kvs) {k : List Key} (h : (valV kvs k).isSome = true) : ∃ z : Int, valV kvs k = some (.int z) ∧ 0 ≤ z ∧ z ≤ 2000 := by
  obtain ⟨v, hv⟩ := Option.isSome_iff_exists.mp h
  obtain ⟨p, hp, e1, e2⟩ := valV_mem hv
  obtain ⟨x, y, z, _, e3, e4, e5⟩ := c p hp
  rw [← e2, e3] at hv
  exact ⟨z, hv, e4, e5⟩
theorem Cells.put {kvs : List (List Key × V)} (c : Cells kvs) {x y : Nat} {z : Int} (h0 : 0 ≤ z) (h1 : z ≤ 2000) : Cells (putK kvs (kXY x y) (.int z)) := by
  intro p hp
  unfold putK at hp
  split at hp
  · obtain ⟨q, hq, e⟩ := List.mem_map.mp hp
    subst e
    by_cases e : q.1 = kXY x y
    · rw [if_pos e]
      exact ⟨x, y, z, e, rfl, h0, h1⟩
    · rw [if_neg e]
      exact c q hq
  · rcases List.mem_append.mp hp with hp | hp
    · exact c p hp
    · rw [List.mem_singleton.mp hp]
      exact ⟨x, y, z, rfl, rfl, h0, h1⟩
theorem putK_le {kvs : List (List Key × V)} {k : List Key} {v : V} : (putK kvs k v).length ≤ kvs.length + 1 := by
  unfold putK
  split
  · rw [List.length_map]
    omega
  · rw [List.length_append]
    exact Nat.le_refl _
theorem put_keep {kvs : List (List Key × V)} {k j : List Key} {v : V} (h : (valV kvs j).isSome = true) : (valV (putK kvs k v) j).isSome = true := by
  rw [valV_put]
  split
  · rfl
  · exact h
theorem put_has {kvs : List (List Key × V)} {k : List Key} {v : V} : (valV (putK kvs k v) k).isSome = true := by
  rw [valV_put, if_pos rfl]
  rfl
/-- all but h and c stands as it did -/
def But2 (h c : Addr) (H H' : Hp) : Prop := ∀ b o, H b = some o → b ≠ h → b ≠ c → H' b = some o
theorem But2.refl (h c : Addr) (H : Hp) : But2 h c H H := fun _ _ e _ _ => e
theorem But2.trans {h c : Addr} {H H1 H2 : Hp} (a : But2 h c H H1) (b : But2 h c H1 H2) : But2 h c H H2 := fun d o e n m => b d o (a d o e n m) n m
theorem But2.of {h c : Addr} {H H' : Hp} (s : Same H H') : But2 h c H H' := fun b o e _ _ => s b o e
theorem But2.one {h c : Addr} {H H' : Hp} (s : But h H H') : But2 h c H H' := fun b o e n _ => s b o e n
theorem But2.tn {h c d a : Addr} {H H' : Hp} {ns : List Int} {L : List Nat} {kvs : List (List Key × V)} (b : But2 h c H H') (k : Hand H h d ns) (ec : H c = some (.dT kvs)) (t : TP H a L) : TP H' a L := by
  obtain ⟨z, h1, _⟩ := k
  exact b a _ t (ne_of t h1 (by intro q; cases q)) (ne_of t ec (by intro q; cases q))
theorem Hand.put {H : Hp} {h d M : Addr} {o : HO} {ns : List Int} (k : Hand H h d ns) (n : M ≠ h) (m : M ≠ d) : Hand (upd H M o) h d ns := by
  obtain ⟨z, h1, h2, h3, h4⟩ := k
  exact ⟨z, by rw [upd_ne n.symm]; exact h1, h2, by rw [upd_ne m.symm]; exact h3, h4⟩
theorem Hand.free {H : Hp} {h d M : Addr} {ns : List Int} (k : Hand H h d ns) (n : H M = none) : M ≠ h ∧ M ≠ d := by
  obtain ⟨z, h1, h2, h3, h4⟩ := k
  exact ⟨(ne_of_none h1 n).symm, (ne_of_none h3 n).symm⟩
theorem Hand.dct {H : Hp} {h d c : Addr} {ns : List Int} {kvs : List (List Key × V)} (k : Hand H h d ns) (e : H c = some (.dT kvs)) : c ≠ h ∧ c ≠ d := by
  obtain ⟨z, h1, h2, h3, h4⟩ := k
  exact ⟨ne_of e h1 (by intro q; cases q), ne_of e h3 (by intro q; cases q)⟩
theorem But.write {h M : Addr} {H H' : Hp} {o : HO} (b : But h H H') (n : H M = none) : But h H (upd H' M o) := fun a u e ne => by
  rw [upd_ne (ne_of_none e n)]
  exact b a u e ne
theorem But2.write {h c M : Addr} {H H' : Hp} {o : HO} (b : But2 h c H H') (n : H M = none) : But2 h c H (upd H' M o) := fun a u e ne nc => by
  rw [upd_ne (ne_of_none e n)]
  exact b a u e ne nc
theorem But2.own {h c : Addr} {H H' : Hp} {o : HO} (b : But2 h c H H') : But2 h c H (upd H' c o) := fun a u e ne nc => by
  rw [upd_ne nc]
  exact b a u e ne nc
/-- what stands behind it -/
def Filled (h d cd : Addr) (ns : List Int) (H : Hp) (kvs : List (List Key × V)) (R C : List Nat) (H' : Hp) : Prop := ∃ kvs', H' cd = some (.dT kvs') ∧ Hand H' h d ns ∧ But2 h cd H H' ∧ Cells kvs' ∧ kvs'.length ≤ kvs.length + R.length * C.length ∧
  (∀ k, (valV kvs k).isSome = true → (valV kvs' k).isSome = true) ∧ ∀ x ∈ R, ∀ y ∈ C, (valV kvs' (kXY x y)).isSome = true
def spFilled (n : Nat) : Sp := fun vs H Q _ => ∃ (cd h d rr rc : Addr) (ns : List Int) (kvs : List (List Key × V)) (R C : List Nat) (s : Bool) (z : Int), vs = [.ref cd, .ref h, .ref rr, .ref rc, vS s, .int z] ∧ 0 ≤ z ∧ z < n ∧ H cd = some (.dT kvs) ∧ Hand H h d ns ∧
  TP H rr R ∧ TP H rc C ∧ Cells kvs ∧ kvs.length + R.length * C.length ≤ 1000 ∧ R.length ≤ 100 ∧ C.length ≤ 100 ∧ ∀ H', Filled h d cd ns H kvs R C H' → Q .non H'
theorem count01 {ms : List Int} : ms.count 0 + ms.count 1 ≤ ms.length := by
  induction ms with
  | nil => exact Nat.le_refl _
  | cons m ms ih =>
    rw [List.count_cons, List.count_cons, List.length_cons]
    by_cases h0 : m = 0
    · subst h0
      have e1 : ((0 : Int) == 0) = true := rfl
      have e2 : ((0 : Int) == 1) = false := rfl
      rw [e1, e2, if_pos rfl, if_neg (by decide)]
      omega
    · have e1 : (m == (0 : Int)) = false := beq_eq_false_iff_ne.mpr h0
      rw [e1, if_neg (by decide)]
      split <;> omega
theorem sum_take {α : Type} {f : α → Nat} {l : List α} {i : Nat} : ((l.take i).map f).sum ≤ (l.map f).sum := by
  have : (l.map f).sum = ((l.take i).map f).sum + ((l.drop i).map f).sum := by
    rw [← List.sum_append_nat, ← List.map_append, List.take_append_drop]
  omega
theorem flat_ints {L : List Int} : (L.map V.int).all flatV = true := by
  rw [List.all_map]
  exact List.all_eq_true.mpr fun _ _ => rfl
section
variable {P : Program} {w : World} {K : PySem.W.Frag} {mg : Str → Option Value} {base : Heap}
theorem k_Lfill1 (T : Bt mg) (c_Ltake : C8.Cal P w K mg base 1 "_law_take" spTake []) (D : DefAt K mg "_law_filled" s_Lfilled ["_law_cells", "_law_hand", "_law_rows", "_law_columns", "_law_side", "_law_deep"]) {n : Nat}
    (c_Lfilled : C8.Cal P w K mg base (n + 1) "_law_filled" (spFilled n) []) : C8.Cal P w K mg base (n + 1 + 1) "_law_filled" (spFilled (n + 1)) [] := by
  refine D.cal (k := n + 1) sc_Lfilled (fun vs H Q E h => ?_) (fun f cdv A outer sh H vs Q E hr h => ?_)
  · obtain ⟨cd, h, d, rr, rc, ns, kvs, R, C, s, z, rfl, _⟩ := h
    rfl
  obtain ⟨cd, h, d, rr, rc, ns, kvs, R, C, s, z, rfl, z0, zn, ed, hand, hR, hC, cells, room, lR, lC, q⟩ := h
  refine ⟨_, pss_cons (ps_set (i := 6) sc_Lfilled.nd rfl (Or.inr rfl) (pe_ix ix_list (pe_lst (pa_cons (pv 2) (pa_cons (pv 3) pa_nil))) (pv 4) (fun _ _ => rfl)))
      (pss_cons (ps_set (i := 7) sc_Lfilled.nd rfl (Or.inr rfl) (pe_lc (own := [("_law_line", 16)]) (g := gName 16) (tt := tYes)  rfl sc_Lfilled.nd  (pi_tup (pv 6)) (by exact (show BlkOk ["_law_cells", "_law_hand", "_law_rows", "_law_columns", "_law_side", "_law_deep", "_law_lines", "_law_marks", "_law_one", "_law_two", "_law_some", "_law_used", "_law_value", "_law_k", "_law_x", "_law_y", "_law_line", "_law_place"] (defScope s_Lfilled) _ [("_law_line", 16)] from blkOk_by (by decide +kernel))) (fun _ _ _ _ _ => (pg_name (i := 16) sc_Lfilled.nd rfl (Or.inl rfl))) (fun _ _ _ _ _ => pts_nil) (fun _ _ _ _ _ => (C8.pe_c c_Ltake hr (by omega) rfl (pa_cons (pv 1) (pa_cons pe_int pa_nil))))))
      (pss_cons (ps_set (i := 8) sc_Lfilled.nd rfl (Or.inl rfl) (pe_callTy call_tuple_of rfl T.tuple (by decide +kernel) (pa_cons (pe_lc (own := [("_law_k", 13)]) (g := gName 13)  rfl sc_Lfilled.nd  (pi_range1 rfl T.range (pa_cons (pe_callB call_len_seq rfl T.len PySem.boot_len (pa_cons (pv 6) pa_nil)) pa_nil)) (by exact (show BlkOk ["_law_cells", "_law_hand", "_law_rows", "_law_columns", "_law_side", "_law_deep", "_law_lines", "_law_marks", "_law_one", "_law_two", "_law_some", "_law_used", "_law_value", "_law_k", "_law_x", "_law_y", "_law_line", "_law_place"] (defScope s_Lfilled) _ [("_law_k", 13)] from blkOk_by (by decide +kernel))) (fun _ _ _ _ _ => (pg_name (i := 13) sc_Lfilled.nd rfl (Or.inl rfl))) (fun _ _ _ _ _ => pts_one (pt_cmpR op_eq (pe_ix (ixL K) (pv 7) (pv 13) (fun _ _ => rfl)) pe_int (nomark _))) (fun _ _ _ _ _ => (pe_ix (ixT K) (pv 6) (pv 13) (fun _ _ => rfl)))) pa_nil)))
      (pss_cons (ps_set (i := 9) sc_Lfilled.nd rfl (Or.inl rfl) (pe_callTy call_tuple_of rfl T.tuple (by decide +kernel) (pa_cons (pe_lc (own := [("_law_k", 13)]) (g := gName 13)  rfl sc_Lfilled.nd  (pi_range1 rfl T.range (pa_cons (pe_callB call_len_seq rfl T.len PySem.boot_len (pa_cons (pv 6) pa_nil)) pa_nil)) (by exact (show BlkOk ["_law_cells", "_law_hand", "_law_rows", "_law_columns", "_law_side", "_law_deep", "_law_lines", "_law_marks", "_law_one", "_law_two", "_law_some", "_law_used", "_law_value", "_law_k", "_law_x", "_law_y", "_law_line", "_law_place"] (defScope s_Lfilled) _ [("_law_k", 13)] from blkOk_by (by decide +kernel))) (fun _ _ _ _ _ => (pg_name (i := 13) sc_Lfilled.nd rfl (Or.inl rfl))) (fun _ _ _ _ _ => pts_one (pt_cmpR op_eq (pe_ix (ixL K) (pv 7) (pv 13) (fun _ _ => rfl)) pe_int (nomark _))) (fun _ _ _ _ _ => (pe_ix (ixT K) (pv 6) (pv 13) (fun _ _ => rfl)))) pa_nil)))
      (pss_one (ps_if (PW.pt (pw_and (pt_cmpR op_gt (pv 5) pe_int (nomark _)) (pw_and (pt_cmpR op_gt (pe_callB call_len_seq rfl T.len PySem.boot_len (pa_cons (pv 8) pa_nil)) pe_int (nomark _)) (pw_and1 (pt_cmpR op_gt (pe_callB call_len_seq rfl T.len PySem.boot_len (pa_cons (pv 9) pa_nil)) pe_int (nomark _))))))
        (pss_one (ps_for PassesOwn.never rfl (pi_list (pe_lst (pa_cons (pv 8) (pa_cons (pv 9) pa_nil)))) (pg_name (i := 10) sc_Lfilled.nd rfl (Or.inl rfl))
          (pss_one (ps_if (pt_cmpR op_eq (pv 4) pe_int (nomark _))
            (pss_one (ps_expr (C8.pe_c c_Lfilled hr (by omega) rfl (pa_cons (pv 0) (pa_cons (pv 1) (pa_cons (pv 10) (pa_cons (pv 3) (pa_cons pe_int (pa_cons (pe_op op_sub (pv 5) pe_int) pa_nil)))))))))
            (pss_one (ps_expr (C8.pe_c c_Lfilled hr (by omega) rfl (pa_cons (pv 0) (pa_cons (pv 1) (pa_cons (pv 2) (pa_cons (pv 10) (pa_cons pe_int (pa_cons (pe_op op_sub (pv 5) pe_int) pa_nil)))))))))))))
        (pss_one (ps_if (pt_cmpR op_gt (pv 5) pe_int (nomark _))
          (pss_one (ps_expr (C8.pe_c c_Lfilled hr (by omega) rfl (pa_cons (pv 0) (pa_cons (pv 1) (pa_cons (pv 2) (pa_cons (pv 3) (pa_cons (pe_op op_sub pe_int (pv 4)) (pa_cons (pe_op op_sub (pv 5) pe_int) pa_nil)))))))))
          (pss_cons (ps_lock (ps_setLc (own := [("_law_place", 17)]) (g := gName 17) (i := 11) rfl sc_Lfilled.nd rfl rfl (sw_true rfl rfl rfl (by decide +kernel)) (pi_keys (pv 0)) (by exact (show BlkOk ["_law_cells", "_law_hand", "_law_rows", "_law_columns", "_law_side", "_law_deep", "_law_lines", "_law_marks", "_law_one", "_law_two", "_law_some", "_law_used", "_law_value", "_law_k", "_law_x", "_law_y", "_law_line", "_law_place"] (defScope s_Lfilled) _ [("_law_place", 17)] from blkOk_by (by decide +kernel))) (fun _ _ _ _ _ => (pg_name (i := 17) sc_Lfilled.nd rfl (Or.inl rfl))) (fun _ _ _ _ _ => pts_one (PW.pt (pw_or (pt_cmpR (opIn K) (pe_ix (ixT K) (pv 17) pe_int (fun _ _ => rfl)) (pv 2) (by rfl)) (pw_or1 (pt_cmpR (opIn K) (pe_ix (ixT K) (pv 17) pe_int (fun _ _ => rfl)) (pv 3) (by rfl)))))) (fun _ _ _ _ _ => (pe_dget (hu_of hr) (pv 0) (pv 17) (fun _ _ => rfl)))))
          (pss_cons (ps_set (i := 12) sc_Lfilled.nd rfl (Or.inl rfl) (C8.pe_c c_Ltake hr (by omega) rfl (pa_cons (pv 1) (pa_cons pe_int pa_nil))))
          (pss_cons (ps_for PassesOwn.never rfl (pi_range1 rfl T.range (pa_cons (pe_callB call_len_seq rfl T.len PySem.boot_len (pa_cons (pv 11) pa_nil)) pa_nil)) (pg_name (i := 13) sc_Lfilled.nd rfl (Or.inl rfl))
            (pss_one (ps_if (pt_cmpR op_in_seq (pv 12) (pv 11) (by rfl))
              (pss_one (ps_set (i := 12) sc_Lfilled.nd rfl (Or.inl rfl) (pe_op op_add (pv 12) pe_int)))
              pss_nil)))
          (pss_one (ps_for PassesOwn.never rfl (pi_tup (pv 2)) (pg_name (i := 14) sc_Lfilled.nd rfl (Or.inl rfl))
            (pss_one (ps_for PassesOwn.never rfl (pi_tup (pv 3)) (pg_name (i := 15) sc_Lfilled.nd rfl (Or.inl rfl))
              (pss_one (ps_dput (hu_of hr) (pv 0) (pe_tup (pa_cons (pv 14) (pa_cons (pv 15) pa_nil))) (pv 12) rfl)))))))))))))))), ?_⟩
  -- lines = [rows, columns][side]
  obtain ⟨la, L, hat, hHL, eL⟩ : ∃ (la : Addr) (L : List Nat), (∀ H' : Hp, atI [V.ref rr, V.ref rc] (if s = true then 1 else 0) = some (.ref la)) ∧ TP H la L ∧ L = (if s = true then C else R) := by
    cases s with
    | false => exact ⟨rr, R, fun _ => atI_nat (j := 0) rfl, hR, rfl⟩
    | true => exact ⟨rc, C, fun _ => atI_nat (j := 1) rfl, hC, rfl⟩
  have lL : L.length ≤ 100 := by
    rw [eL]
    split <;> assumption
  refine ⟨_, rfl, _, rfl, by show 2 ≤ sizeLine; decide, fun l0 n0 => ⟨_, rfl, l0, _, _, .ref la, rfl, rfl, SqL.of upd_same, hat H, ?_⟩⟩
  have s0 := same_new n0 (.lst [.ref rr, .ref rc])
  generalize hq0 : upd H l0 (.lst [.ref rr, .ref rc]) = H0 at s0
  clear hq0
  have hH0L := hHL.same s0
  have hand0 := hand.same s0
  -- marks
  refine ⟨_, rfl, la, rfl, ⟨_, SqT.of hH0L⟩, fun M nM => lc_tup (K := K) (a := la) (xs := L.map vN) (fun i H' => ∃ ms : List Int, H' M = some (.lst (ms.map V.int)) ∧ ms.length = i ∧ Hand H' h d ns ∧ But h H0 H' ∧ ∀ m ∈ ms, m = 0 ∨ m = 1)
    ⟨[], upd_same, rfl, hand0.put (hand0.free nM).1 (hand0.free nM).2, (But.refl h H0).write nM, fun m hm => (by cases hm)⟩ (fun i H' _ p => by obtain ⟨_, _, _, k, b, _⟩ := p; exact SqT.of (b.tup hand0 hH0L)) ?_ ?_⟩
  · rintro i x H' hx ⟨ms, eM, lm, hk, bt, mk⟩
    have li := lt_of_get hx
    rw [List.length_map] at li
    refine ⟨rfl, yes_go ⟨_, rfl, h, d, ns, 2, rfl, hk, by decide, fun H4 z z0 z2 hk4 bt4 => ⟨ms.map V.int, bt4 _ _ eM (hand0.free nM).1, by rw [List.length_map]; exact small1000 (by omega), ms ++ [z], ?_, ?_, hk4.put (hand0.free nM).1 (hand0.free nM).2, (bt.trans bt4).write nM, ?_⟩⟩⟩
    · rw [upd_same, List.map_append]
      rfl
    · rw [List.length_append, lm]
      rfl
    · intro m hm
      rcases List.mem_append.mp hm with hm | hm
      · exact mk m hm
      · rw [List.mem_singleton.mp hm]
        omega
  rintro H1 ⟨ms, eH1M, lms, hand1, bt1, marks⟩
  rw [List.length_map] at lms
  have hH1L : TP H1 la L := bt1.tup hand0 hH0L
  have b01 : But2 h cd H H1 := (But2.of s0).trans (But2.one bt1)

  refine ⟨_, rfl, la, _, rfl, .inr (SqT.of (hH1L)), _, rfl, by omega, by rw [List.length_map]; omega, fun M1 nM1 => lc_range (lo := 0) (n := ((((L.map vN).length : Nat) : Int)).toNat)
    (fun i H' => ∃ acc : List Nat, H' = upd H1 M1 (.lst (acc.map vN)) ∧ (∀ x ∈ acc, x ∈ L) ∧ (∀ j x, j < i → ms[j]? = some 0 → L[j]? = some x → x ∈ acc) ∧ acc.length = (ms.take i).count 0)
    ⟨[], rfl, fun x hx => (by cases hx), fun j x hj => absurd hj (Nat.not_lt_zero _), rfl⟩ ?_ ?_⟩
  · rintro i H' hi ⟨acc, rfl, sub, has, cnt⟩
    have hi2 : i < L.length := by rw [List.length_map] at hi; omega
    obtain ⟨m, hm⟩ := get_of_lt (l := ms) (i := i) (by omega)
    obtain ⟨x, hx⟩ := get_of_lt (l := L) (i := i) hi2
    have cl : (ms.take i).count 0 ≤ i := Nat.le_trans List.count_le_length (List.length_take_le _ _)
    refine ⟨rfl, _, rfl, _, rfl, M, _, _, .int m, rfl, rfl, SqL.of (same_new nM1 _ _ _ eH1M), at_of (j := i) (by omega) (by rw [List.getElem?_map, hm]; rfl), rfl, _, rfl, ite2 (fun e => ?_) (fun e => ?_)⟩
    · have em : m = 0 := V.int.inj (eq_yes e)
      subst em
      refine ⟨_, rfl, _, rfl, la, _, _, vN x, rfl, rfl, SqT.of (same_new nM1 _ _ _ hH1L), at_of (j := i) (by omega) (by rw [List.getElem?_map, hx]; rfl), _, upd_same, by rw [List.length_map, cnt]; exact small1000 (by omega), acc ++ [x], ?_, ?_, ?_, ?_⟩
      · rw [upd_upd, List.map_append]
        rfl
      · intro u hu
        rcases List.mem_append.mp hu with hu | hu
        · exact sub u hu
        · rw [List.mem_singleton.mp hu]
          exact List.mem_of_getElem? hx
      · intro j u hj h1 h2
        by_cases hji : j < i
        · exact List.mem_append_left _ (has j u hji h1 h2)
        · have ej : j = i := by omega
          subst ej
          rw [hx] at h2
          exact List.mem_append_right _ (List.mem_singleton.mpr (Option.some.inj h2).symm)
      · rw [take_more hm, List.count_append, List.length_append, cnt]
        simp
    · have em : ¬ m = 0 := fun z => eq_no e (congrArg V.int z)
      refine ⟨acc, rfl, sub, ?_, ?_⟩
      · intro j u hj h1 h2
        by_cases hji : j < i
        · exact has j u hji h1 h2
        · have ej : j = i := by omega
          subst ej
          rw [hm] at h1
          exact absurd (Option.some.inj h1) em
      · rw [take_more hm, List.count_append, cnt]
        have : List.count 0 [m] = 0 := by
          rw [List.count_singleton]
          exact if_neg (by simpa using em)
        rw [this]
        rfl
  rintro H' ⟨one, rfl, sub0, has0, cnt0⟩
  refine ⟨M1, _, rfl, .inl ⟨SqL.of upd_same, fun o1 no1 => ?_⟩⟩
  have sH2 := (same_new nM1 (.lst (one.map vN))).trans (same_new no1 (.tup (one.map vN)))
  have hH2o1 : TP (upd (upd H1 M1 (.lst (one.map vN))) o1 (.tup (one.map vN))) o1 one := upd_same
  generalize hqH2 : upd (upd H1 M1 (.lst (one.map vN))) o1 (.tup (one.map vN)) = H2 at sH2 hH2o1
  clear hqH2
  have hH2L : TP H2 la L := hH1L.same sH2
  have eH2M := sH2 _ _ eH1M

  refine ⟨_, rfl, la, _, rfl, .inr (SqT.of (hH2L)), _, rfl, by omega, by rw [List.length_map]; omega, fun M2 nM2 => lc_range (lo := 0) (n := ((((L.map vN).length : Nat) : Int)).toNat)
    (fun i H' => ∃ acc : List Nat, H' = upd H2 M2 (.lst (acc.map vN)) ∧ (∀ x ∈ acc, x ∈ L) ∧ (∀ j x, j < i → ms[j]? = some 1 → L[j]? = some x → x ∈ acc) ∧ acc.length = (ms.take i).count 1)
    ⟨[], rfl, fun x hx => (by cases hx), fun j x hj => absurd hj (Nat.not_lt_zero _), rfl⟩ ?_ ?_⟩
  · rintro i H' hi ⟨acc, rfl, sub, has, cnt⟩
    have hi2 : i < L.length := by rw [List.length_map] at hi; omega
    obtain ⟨m, hm⟩ := get_of_lt (l := ms) (i := i) (by omega)
    obtain ⟨x, hx⟩ := get_of_lt (l := L) (i := i) hi2
    have cl : (ms.take i).count 1 ≤ i := Nat.le_trans List.count_le_length (List.length_take_le _ _)
    refine ⟨rfl, _, rfl, _, rfl, M, _, _, .int m, rfl, rfl, SqL.of (same_new nM2 _ _ _ eH2M), at_of (j := i) (by omega) (by rw [List.getElem?_map, hm]; rfl), rfl, _, rfl, ite2 (fun e => ?_) (fun e => ?_)⟩
    · have em : m = 1 := V.int.inj (eq_yes e)
      subst em
      refine ⟨_, rfl, _, rfl, la, _, _, vN x, rfl, rfl, SqT.of (same_new nM2 _ _ _ hH2L), at_of (j := i) (by omega) (by rw [List.getElem?_map, hx]; rfl), _, upd_same, by rw [List.length_map, cnt]; exact small1000 (by omega), acc ++ [x], ?_, ?_, ?_, ?_⟩
      · rw [upd_upd, List.map_append]
        rfl
      · intro u hu
        rcases List.mem_append.mp hu with hu | hu
        · exact sub u hu
        · rw [List.mem_singleton.mp hu]
          exact List.mem_of_getElem? hx
      · intro j u hj h1 h2
        by_cases hji : j < i
        · exact List.mem_append_left _ (has j u hji h1 h2)
        · have ej : j = i := by omega
          subst ej
          rw [hx] at h2
          exact List.mem_append_right _ (List.mem_singleton.mpr (Option.some.inj h2).symm)
      · rw [take_more hm, List.count_append, List.length_append, cnt]
        simp
    · have em : ¬ m = 1 := fun z => eq_no e (congrArg V.int z)
      refine ⟨acc, rfl, sub, ?_, ?_⟩
      · intro j u hj h1 h2
        by_cases hji : j < i
        · exact has j u hji h1 h2
        · have ej : j = i := by omega
          subst ej
          rw [hm] at h1
          exact absurd (Option.some.inj h1) em
      · rw [take_more hm, List.count_append, cnt]
        have : List.count 1 [m] = 0 := by
          rw [List.count_singleton]
          exact if_neg (by simpa using em)
        rw [this]
        rfl
  rintro H' ⟨two, rfl, sub1, has1, cnt1⟩
  refine ⟨M2, _, rfl, .inl ⟨SqL.of upd_same, fun o2 no2 => ?_⟩⟩
  have sH3 := (same_new nM2 (.lst (two.map vN))).trans (same_new no2 (.tup (two.map vN)))
  have hH3o2 : TP (upd (upd H2 M2 (.lst (two.map vN))) o2 (.tup (two.map vN))) o2 two := upd_same
  generalize hqH3 : upd (upd H2 M2 (.lst (two.map vN))) o2 (.tup (two.map vN)) = H3 at sH3 hH3o2
  clear hqH3
  have hH3L : TP H3 la L := hH2L.same sH3
  have eH3M := sH3 _ _ eH2M

  have hH3o1 := hH2o1.same sH3
  have s13 := sH2.trans sH3
  have hand3 := hand1.same s13
  have b03 : But2 h cd H H3 := b01.trans (But2.of s13)
  have ed3 : H3 cd = some (.dT kvs) := s13 _ _ (bt1 _ _ (s0 _ _ ed) (hand.dct ed).1)
  have hR3 := b03.tn hand ed hR
  have hC3 := b03.tn hand ed hC
  rw [List.length_map] at has0 has1 cnt0 cnt1
  have etk : ms.take (((L.length : Nat) : Int)).toNat = ms := by
    rw [Int.toNat_natCast, ← lms, List.take_length]
  rw [etk] at cnt0 cnt1
  have c01 := count01 (ms := ms)
  clear s13 sH2 sH3 bt1 b01 hH1L hH2L hH3L eH1M eH2M eH3M s0 hHL hH0L hand0 hand1 hH2o1
  have all2 : ∀ x ∈ L, x ∈ one ∨ x ∈ two := by
    intro x hx
    obtain ⟨j, hj⟩ := List.getElem?_of_mem hx
    have lj := lt_of_get hj
    obtain ⟨m, hm⟩ := get_of_lt (l := ms) (i := j) (by omega)
    rcases marks m (List.mem_of_getElem? hm) with e | e
    · subst e
      exact .inl (has0 j x (by omega) hm hj)
    · subst e
      exact .inr (has1 j x (by omega) hm hj)
  dsimp only [gName]
  refine if_cut (fun H' => H' = H3 ∧ 0 < z) (fun H' => H' = H3) ?_ ?_ (fun F f1 f0 => ?_)
  rotate_left 2
  · have fb : 0 < z → ∀ b, F b H3 := fun zp b => by
      cases b with
      | true => exact f1 _ ⟨rfl, zp⟩
      | false => exact f0 _ rfl
    refine ⟨_, rfl, _, _, rfl, rfl, _, rfl, ite2 (fun e => ?_) (fun e => f0 _ rfl)⟩
    have zp : 0 < z := of_decide_eq_true e
    refine ⟨_, rfl, o1, _, rfl, .inr (SqT.of hH3o1), _, _, rfl, rfl, _, rfl, ite2 (fun e => ?_) (fun e => f0 _ rfl)⟩
    exact ⟨_, rfl, o2, _, rfl, .inr (SqT.of hH3o2), _, _, rfl, rfl, _, rfl, fb zp _⟩
  · -- both
    rintro H' ⟨rfl, zp⟩
    refine ⟨_, rfl, _, rfl, by show 2 ≤ sizeLine; decide, fun l6 n6 => ⟨l6, rfl, ⟨_, SqL.of upd_same⟩, ?_⟩⟩
    have s6 := same_new n6 (.lst [.ref o1, .ref o2])
    have e6 : (upd H' l6 (.lst [.ref o1, .ref o2])) l6 = some (.lst ([o1, o2].map V.ref)) := upd_same
    have ne6 : l6 ≠ h ∧ l6 ≠ cd := ⟨(hand3.free n6).1, (ne_of_none ed3 n6).symm⟩
    generalize hq6 : upd H' l6 (.lst [.ref o1, .ref o2]) = H6 at s6 e6
    clear hq6
    have hand6 := hand3.same s6
    have ed6 := s6 _ _ ed3
    have hR6 := hR3.same s6
    have hC6 := hC3.same s6
    have hbs : Each (TP H6) [o1, o2] [one, two] := (Each.one (hH3o1.same s6)).append (Each.one (hH3o2.same s6))
    have area : ((one.length * C.length + two.length * C.length ≤ R.length * C.length) ∨ s = true) ∧ ((R.length * one.length + R.length * two.length ≤ R.length * C.length) ∨ s = false) := by
      have l12 : one.length + two.length ≤ L.length := by omega
      cases s with
      | false =>
        have eL : L = R := eL
        rw [eL] at l12
        refine ⟨.inl ?_, .inr rfl⟩
        rw [← Nat.add_mul]
        exact Nat.mul_le_mul_right _ l12
      | true =>
        have eL : L = C := eL
        rw [eL] at l12
        refine ⟨.inr rfl, .inl ?_⟩
        rw [← Nat.mul_add]
        exact Nat.mul_le_mul_left _ l12
    have tot : (([one, two].map fun b => (subR s b R).length * (subC s b C).length)).sum ≤ R.length * C.length := by
      show (subR s one R).length * (subC s one C).length + ((subR s two R).length * (subC s two C).length + 0) ≤ _
      cases s with
      | false => exact area.1.resolve_right (by decide)
      | true => exact area.2.resolve_right (by decide)
    have subl : ∀ b ∈ [one, two], (subR s b R).length ≤ 100 ∧ (subC s b C).length ≤ 100 := by
      intro b hb
      have lb : b.length ≤ 100 := by
        rcases List.mem_cons.mp hb with e | hb
        · subst e
          omega
        · rw [List.mem_singleton.mp hb]
          omega
      cases s with
      | false => exact ⟨lb, lC⟩
      | true => exact ⟨lR, lb⟩
    refine for_list (K := K) (a := l6) (xs := [o1, o2].map V.ref) (fun i σ H7 => ∃ (kv : List (List Key × V)) (v10 : Option V), σ = [some (.ref cd), some (.ref h), some (.ref rr), some (.ref rc), some (vS s), some (.int z), some (.ref la), some (.ref M), some (.ref o1), some (.ref o2), v10, none, none, none, none, none, none, none] ∧ H7 cd = some (.dT kv) ∧ Hand H7 h d ns ∧ But2 h cd H6 H7 ∧ Cells kv ∧
        kv.length ≤ kvs.length + ((([one, two].take i).map fun b => (subR s b R).length * (subC s b C).length)).sum ∧ (∀ k, (valV kvs k).isSome = true → (valV kv k).isSome = true) ∧ ∀ b ∈ [one, two].take i, ∀ x ∈ subR s b R, ∀ y ∈ subC s b C, (valV kv (kXY x y)).isSome = true)
      ⟨kvs, none, rfl, ed6, hand6, But2.refl _ _ _, cells, Nat.le_refl _, fun k hk => hk, fun b hb => (by cases hb)⟩ (fun i σ H7 _ p => by obtain ⟨_, _, _, _, _, b, _⟩ := p; exact SqL.of (b _ _ e6 ne6.1 ne6.2)) ?_ ?_
    · rintro i y H0' H7 hi ⟨kv, v10, rfl, ed7, hand7, b7, cells7, len7, keep7, has7⟩
      obtain ⟨a, ha, rfl⟩ := get_ref hi
      obtain ⟨b, hb, hab⟩ := hbs.get ha
      have hbm := List.mem_of_getElem? hb
      have hab7 := b7.tn hand6 ed6 hab
      have hR7 := b7.tn hand6 ed6 hR6
      have hC7 := b7.tn hand6 ed6 hC6
      have st := sum_take (f := fun b => (subR s b R).length * (subC s b C).length) (l := [one, two]) (i := i + 1)
      rw [take_more hb, List.map_append, List.sum_append_nat] at st
      have st' : ((([one, two].take i).map fun b => (subR s b R).length * (subC s b C).length)).sum + (subR s b R).length * (subC s b C).length ≤ R.length * C.length := Nat.le_trans st tot
      have fin : ∀ H8, Filled h d cd ns H7 kv (subR s b R) (subC s b C) H8 → ∃ (kv : List (List Key × V)) (v10 : Option V), ([some (.ref cd), some (.ref h), some (.ref rr), some (.ref rc), some (vS s), some (.int z), some (.ref la), some (.ref M), some (.ref o1), some (.ref o2), some (.ref a), none, none, none, none, none, none, none] : L2.St) = [some (.ref cd), some (.ref h), some (.ref rr), some (.ref rc), some (vS s), some (.int z), some (.ref la), some (.ref M), some (.ref o1), some (.ref o2), v10, none, none, none, none, none, none, none] ∧ H8 cd = some (.dT kv) ∧ Hand H8 h d ns ∧ But2 h cd H6 H8 ∧ Cells kv ∧
        kv.length ≤ kvs.length + ((([one, two].take (i + 1)).map fun b => (subR s b R).length * (subC s b C).length)).sum ∧ (∀ k, (valV kvs k).isSome = true → (valV kv k).isSome = true) ∧ ∀ b ∈ [one, two].take (i + 1), ∀ x ∈ subR s b R, ∀ y ∈ subC s b C, (valV kv (kXY x y)).isSome = true := by
        rintro H8 ⟨kv8, ed8, hand8, b8, cells8, len8, keep8, has8⟩
        refine ⟨kv8, _, rfl, ed8, hand8, b7.trans b8, cells8, ?_, fun k hk => keep8 k (keep7 k hk), ?_⟩
        · rw [take_more hb, List.map_append, List.sum_append_nat]
          have e1 : ((([b] : List (List Nat)).map fun b => (subR s b R).length * (subC s b C).length)).sum = (subR s b R).length * (subC s b C).length := rfl
          rw [e1]
          omega
        · rw [take_more hb]
          intro c hc x hx y hy
          rcases List.mem_append.mp hc with hc | hc
          · exact keep8 _ (has7 c hc x hx y hy)
          · rw [List.mem_singleton.mp hc] at hx hy
            exact has8 x hx y hy
      have sl := subl b hbm
      cases s with
      | false =>
        refine ⟨_, rfl, rfl, _, rfl, iteT ⟨_, rfl, _, rfl, _, rfl, _, rfl, _, rfl, _, _, rfl, rfl, cd, h, d, a, rc, ns, kv, b, C, true, _, rfl, by omega, by omega, ed7, hand7, hab7, hC7, cells7, ?_, sl.1, sl.2, fin⟩⟩
        have : kv.length + b.length * C.length ≤ kvs.length + R.length * C.length := by
          have : b.length * C.length = (subR false b R).length * (subC false b C).length := rfl
          omega
        omega
      | true =>
        refine ⟨_, rfl, rfl, _, rfl, iteF ⟨_, rfl, _, rfl, _, rfl, _, rfl, _, rfl, _, _, rfl, rfl, cd, h, d, rr, a, ns, kv, R, b, false, _, rfl, by omega, by omega, ed7, hand7, hR7, hab7, cells7, ?_, sl.1, sl.2, fin⟩⟩
        have : kv.length + R.length * b.length ≤ kvs.length + R.length * C.length := by
          have : R.length * b.length = (subR true b R).length * (subC true b C).length := rfl
          omega
        omega
    · rintro σ H7 ⟨kv, v10, rfl, ed7, hand7, b7, cells7, len7, keep7, has7⟩
      refine q H7 ⟨kv, ed7, hand7, (b03.trans (But2.of s6)).trans b7, cells7, ?_, keep7, ?_⟩
      · have l7 : ((([one, two].take ([o1, o2].map V.ref).length).map fun b => (subR s b R).length * (subC s b C).length)).sum ≤ R.length * C.length := tot
        omega
      · intro x hx y hy
        have h0 := has7 one (by show one ∈ [one, two]; exact List.mem_cons_self)
        have h1 := has7 two (by show two ∈ [one, two]; exact List.mem_cons_of_mem _ List.mem_cons_self)
        cases s with
        | false =>
          have eL : L = R := eL
          rcases all2 x (by rw [eL]; exact hx) with hz | hz
          · exact h0 x hz y hy
          · exact h1 x hz y hy
        | true =>
          have eL : L = C := eL
          rcases all2 y (by rw [eL]; exact hy) with hz | hz
          · exact h0 x hx y hz
          · exact h1 x hx y hz
  rintro H' rfl
  refine ⟨_, rfl, _, _, rfl, rfl, _, rfl, ite2 (fun e => ?_) (fun e => ?_)⟩
  · -- the other side
    have zp : 1 < z := of_decide_eq_true e
    have sv : ∀ F : V → Prop, F (vS (!s)) → F (.int (1 - (if s = true then 1 else 0))) := fun F f => by
      cases s with
      | false => exact f
      | true => exact f
    refine ⟨_, rfl, _, rfl, _, rfl, _, rfl, _, rfl, _, _, rfl, rfl, _, rfl, _, _, rfl, rfl, cd, h, d, rr, rc, ns, kvs, R, C, !s, z - 1, ?_, by omega, by omega, ed3, hand3, hR3, hC3, cells, room, lR, lC, ?_⟩
    · cases s <;> rfl
    · rintro H8 ⟨kv8, ed8, hand8, b8, cells8, len8, keep8, has8⟩
      exact q H8 ⟨kv8, ed8, hand8, b03.trans b8, cells8, len8, keep8, has8⟩
  -- the leaf
  refine ⟨cd, .dT kvs, ed3, trivial, fun od => ?_⟩
  refine ⟨_, rfl, cd, od, rfl, .inr ⟨kvs, upd_same, fun U nU => lc_it walk_keysT (fun i H1 => ∃ us : List Int, H1 = upd (upd H' cd (.frz od (.dT kvs))) U (.lst (us.map V.int)) ∧ us.length ≤ i)
    ⟨[], rfl, Nat.le_refl _⟩ (fun i H1 _ p => ?_) ?_ ?_⟩⟩
  · obtain ⟨us, rfl, _⟩ := p
    exact same_new nU _ _ _ upd_same
  · rintro i x H1 H2 hi ⟨us, rfl, lu⟩ ⟨rfl, k, v, qa, hk, rfl, hqa⟩
    obtain ⟨x, y, zz, e1, e2, e3, e4⟩ := cells (k, v) (List.mem_of_getElem? hk)
    have e1 : k = kXY x y := e1
    subst e1
    obtain ⟨u, hu⟩ := valV_some (List.mem_of_getElem? hk)
    obtain ⟨zu, hzu, _, _⟩ := cells.get (Option.isSome_iff_exists.mpr ⟨u, hu⟩)
    have sU := same_new nU (.lst (us.map V.int))
    have cdn : ∀ b xs, H' b = some (.tup xs) → (upd H' cd (.frz od (.dT kvs))) b = some (.tup xs) := fun b xs e => by
      rw [upd_ne (ne_of e ed3 (by intro z; cases z))]
      exact e
    have hR8 := sU _ _ (cdn _ _ hR3)
    have hC8 := sU _ _ (cdn _ _ hC3)
    have fin : ∃ acc, (upd (upd H' cd (.frz od (.dT kvs))) U (.lst (us.map V.int))) U = some (.lst acc) ∧ acc.length < sizeLine ∧ ∃ us' : List Int, upd (upd (upd H' cd (.frz od (.dT kvs))) U (.lst (us.map V.int))) U (.lst (acc ++ [.int zu])) = upd (upd H' cd (.frz od (.dT kvs))) U (.lst (us'.map V.int)) ∧ us'.length ≤ i + 1 := ⟨_, upd_same, by rw [List.length_map]; exact small1000 (by omega), us ++ [zu], by rw [upd_upd, List.map_append]; rfl, by rw [List.length_append]; exact Nat.succ_le_succ lu⟩
    refine ⟨rfl, _, rfl, qa, _, _, .int x, rfl, rfl, SqT.of hqa, atI_nat (j := 0) rfl, _, rfl, rr, _, rfl, .inr (SqT.of hR8), rfl, flat_nums, _, rfl, ite2 (fun e => iteT ?_) (fun e => ?_)⟩
    · exact ⟨_, rfl, _, rfl, cd, .int zu, rfl, .inr ⟨kvs, kXY x y, qa, .inr ⟨od, sU _ _ upd_same⟩, rfl, hqa, hzu.symm⟩, fin⟩
    · refine ⟨_, rfl, qa, _, _, .int y, rfl, rfl, SqT.of hqa, atI_nat (j := 1) rfl, _, rfl, rc, _, rfl, .inr (SqT.of hC8), rfl, flat_nums, _, rfl, ite2 (fun e => ?_) (fun e => ?_)⟩
      · exact ⟨_, rfl, _, rfl, cd, .int zu, rfl, .inr ⟨kvs, kXY x y, qa, .inr ⟨od, sU _ _ upd_same⟩, rfl, hqa, hzu.symm⟩, fin⟩
      · exact ⟨us, rfl, by omega⟩
  rintro H1 ⟨us, rfl, lu⟩
  refine ⟨same_new nU _ _ _ upd_same, ?_⟩
  have nUc : U ≠ cd := (ne_of_none (show (upd H' cd (.frz od (.dT kvs))) cd = some (.frz od (.dT kvs)) from upd_same) nU).symm
  have nU0 : H' U = none := by
    rw [upd_ne nUc] at nU
    exact nU
  have s8 : Same H' (upd (upd (upd H' cd (.frz od (.dT kvs))) U (.lst (us.map V.int))) cd (.dT kvs)) := fun b o e => by
    by_cases hb : b = cd
    · rw [hb, upd_same]
      rw [hb, ed3] at e
      exact e
    · rw [upd_ne hb, upd_ne (ne_of_none e nU0), upd_ne hb]
      exact e
  have eU8 : (upd (upd (upd H' cd (.frz od (.dT kvs))) U (.lst (us.map V.int))) cd (.dT kvs)) U = some (.lst (us.map V.int)) := by
    rw [upd_ne nUc]
    exact upd_same
  generalize hq8 : upd (upd (upd H' cd (.frz od (.dT kvs))) U (.lst (us.map V.int))) cd (.dT kvs) = H8 at s8 eU8
  clear hq8
  have hand8 := hand3.same s8
  -- value
  refine ⟨_, rfl, h, d, ns, 3, rfl, hand8, by decide, fun H9 v0 v00 v03 hand9 b9 => ?_⟩
  have eU9 := b9 _ _ eU8 (hand3.free nU0).1
  have b39 : But2 h cd H' H9 := (But2.of s8).trans (But2.one b9)
  have ed9 := b9 _ _ (s8 _ _ ed3) (hand.dct ed).1
  have hR9 := b39.tn hand3 ed3 hR3
  have hC9 := b39.tn hand3 ed3 hC3
  refine ⟨_, rfl, U, _, rfl, .inl (SqL.of eU9), _, rfl, by omega, by rw [List.length_map]; omega, for_range (n := (((us.map V.int).length : Nat) : Int).toNat) (fun k σ H1 => H1 = H9 ∧ ∃ (z1 : Int) (v13 : Option V), σ = [some (.ref cd), some (.ref h), some (.ref rr), some (.ref rc), some (vS s), some (.int z), some (.ref la), some (.ref M), some (.ref o1), some (.ref o2), none, some (.ref U), some (.int z1), v13, none, none, none, none] ∧ 0 ≤ z1 ∧ z1 ≤ 2 + k)
    ⟨rfl, v0, none, rfl, v00, by omega⟩ ?_ ?_⟩
  · rintro k σ H1 hk ⟨rfl, z1, v13, rfl, g0, g1⟩
    refine ⟨_, rfl, _, rfl, U, _, rfl, .inl (SqL.of eU9), rfl, flat_ints, _, rfl, ite2 (fun e => ?_) (fun e => ?_)⟩
    · exact ⟨_, rfl, _, _, rfl, rfl, rfl, z1 + 1, _, rfl, by omega, by omega⟩
    · exact ⟨rfl, z1, _, rfl, g0, by omega⟩
  rintro σ H1 ⟨rfl, z1, v13, rfl, g0, g1⟩
  have g2 : z1 ≤ 2000 := by
    rw [Int.toNat_natCast, List.length_map] at g1
    omega
  have fl : Filled h d cd ns H kvs R C H1 → Q .non H1 := q H1
  have lRC : ∀ i, i ≤ R.length → i * C.length ≤ R.length * C.length := fun i hi => Nat.mul_le_mul_right _ hi
  refine ⟨_, rfl, rr, rfl, ⟨_, SqT.of hR9⟩, for_tup (K := K) (a := rr) (xs := R.map vN) (fun i σ H2 => ∃ (kv : List (List Key × V)) (v14 v15 : Option V), σ = [some (.ref cd), some (.ref h), some (.ref rr), some (.ref rc), some (vS s), some (.int z), some (.ref la), some (.ref M), some (.ref o1), some (.ref o2), none, some (.ref U), some (.int z1), v13, v14, v15, none, none] ∧ H2 cd = some (.dT kv) ∧ Hand H2 h d ns ∧ But2 h cd H1 H2 ∧ Cells kv ∧
      kv.length ≤ kvs.length + i * C.length ∧ (∀ k, (valV kvs k).isSome = true → (valV kv k).isSome = true) ∧ ∀ x ∈ R.take i, ∀ y ∈ C, (valV kv (kXY x y)).isSome = true)
    ⟨kvs, none, none, rfl, ed9, hand9, But2.refl _ _ _, cells, by omega, fun k hk => hk, fun b hb => (by cases hb)⟩ (fun i σ H2 _ p => by obtain ⟨_, _, _, _, _, _, b, _⟩ := p; exact SqT.of (b.tn hand9 ed9 hR9)) ?_ ?_⟩
  · rintro i xv H0' H2 hi ⟨kv, v14, v15, rfl, ed2, hand2, b2, cells2, len2, keep2, has2⟩
    obtain ⟨x, hx, rfl⟩ := get_num hi
    have li := lt_of_get hx
    refine ⟨_, rfl, rc, rfl, ⟨_, SqT.of (b2.tn hand9 ed9 hC9)⟩, for_tup (K := K) (a := rc) (xs := C.map vN) (fun j σ H3 => ∃ (kv : List (List Key × V)) (v15 : Option V), σ = [some (.ref cd), some (.ref h), some (.ref rr), some (.ref rc), some (vS s), some (.int z), some (.ref la), some (.ref M), some (.ref o1), some (.ref o2), none, some (.ref U), some (.int z1), v13, some (vN x), v15, none, none] ∧ H3 cd = some (.dT kv) ∧ Hand H3 h d ns ∧ But2 h cd H1 H3 ∧ Cells kv ∧
        kv.length ≤ kvs.length + i * C.length + j ∧ (∀ k, (valV kvs k).isSome = true → (valV kv k).isSome = true) ∧ (∀ x ∈ R.take i, ∀ y ∈ C, (valV kv (kXY x y)).isSome = true) ∧ ∀ y ∈ C.take j, (valV kv (kXY x y)).isSome = true)
      ⟨kv, v15, rfl, ed2, hand2, b2, cells2, len2, keep2, has2, fun b hb => (by cases hb)⟩ (fun i σ H2 _ p => by obtain ⟨_, _, _, _, _, b, _⟩ := p; exact SqT.of (b.tn hand9 ed9 hC9)) ?_ ?_⟩
    · rintro j yv H0'' H3 hj ⟨kv3, v15, rfl, ed3, hand3, b3, cells3, len3, keep3, has3, hx3⟩
      obtain ⟨y, hy, rfl⟩ := get_num hj
      have lj := lt_of_get hy
      have room2 : i * C.length + C.length ≤ R.length * C.length := by
        rw [← Nat.succ_mul]
        exact lRC (i + 1) li
      refine ⟨_, rfl, _, rfl, _, rfl, _, rfl, by show 2 ≤ sizeLine; decide, fun t nt => ?_⟩
      have st := same_new nt (.tup [vN x, vN y])
      refine ⟨cd, _, rfl, DPut.t (k := kXY x y) (st _ _ ed3) upd_same (small1000 (by omega)), putK kv3 (kXY x y) (.int z1), _, rfl, upd_same, (hand3.same st).put (hand.dct ed).1 (hand.dct ed).2, (b3.trans (But2.of st)).own, cells3.put g0 g2, ?_, fun k hk => put_keep (keep3 k hk), fun x hx y hy => put_keep (has3 x hx y hy), ?_⟩
      · have := putK_le (kvs := kv3) (k := kXY x y) (v := .int z1)
        omega
      · rw [take_more hy]
        intro y' hy'
        rcases List.mem_append.mp hy' with hy' | hy'
        · exact put_keep (hx3 y' hy')
        · rw [List.mem_singleton.mp hy']
          exact put_has
    · rintro σ H3 ⟨kv3, v15, rfl, ed3, hand3, b3, cells3, len3, keep3, has3, hx3⟩
      rw [List.length_map] at len3 hx3
      rw [List.take_length] at hx3
      refine ⟨kv3, _, _, rfl, ed3, hand3, b3, cells3, by rw [Nat.succ_mul]; omega, keep3, ?_⟩
      rw [take_more hx]
      intro x' hx' y hy
      rcases List.mem_append.mp hx' with hx' | hx'
      · exact has3 x' hx' y hy
      · rw [List.mem_singleton.mp hx']
        exact hx3 y hy
  · rintro σ H2 ⟨kv, v14, v15, rfl, ed2, hand2, b2, cells2, len2, keep2, has2⟩
    rw [List.length_map] at len2 has2
    rw [List.take_length] at has2
    exact q H2 ⟨kv, ed2, hand2, (b03.trans b39).trans b2, cells2, len2, keep2, has2⟩
theorem k_Lfilled (T : Bt mg) (c_Ltake : C8.Cal P w K mg base 1 "_law_take" spTake []) (D : DefAt K mg "_law_filled" s_Lfilled ["_law_cells", "_law_hand", "_law_rows", "_law_columns", "_law_side", "_law_deep"]) : ∀ n : Nat, C8.Cal P w K mg base (n + 1) "_law_filled" (spFilled n) []
  | 0 => D.cal_no fun vs H Q E h => by
    obtain ⟨_, _, _, _, _, _, _, _, _, _, z, _, h1, h2, _⟩ := h
    exact absurd h2 (by omega)
  | n + 1 => k_Lfill1 T c_Ltake D (k_Lfilled T c_Ltake D n)
end
end K9
set_option Elab.async false
set_option linter.all false
set_option maxRecDepth 100000
set_option maxHeartbeats 16000000
namespace K9
open PySem PySem.Spec PyProof.Rows L2
/-! ### tables of ints, new ones -/
theorem Each.take {β α : Type} {R : β → α → Prop} {as : List β} {xs : List α} (h : Each R as xs) (n : Nat) : Each R (as.take n) (xs.take n) := by
  refine ⟨by rw [List.length_take, List.length_take, h.1], fun i a x e1 e2 => ?_⟩
  rw [List.getElem?_take] at e1 e2
  by_cases hi : i < n
  · rw [if_pos hi] at e1 e2
    exact h.2 i a x e1 e2
  · rw [if_neg hi] at e1
    cases e1
theorem Each.drop {β α : Type} {R : β → α → Prop} {as : List β} {xs : List α} (h : Each R as xs) (n : Nat) : Each R (as.drop n) (xs.drop n) := by
  refine ⟨by rw [List.length_drop, List.length_drop, h.1], fun i a x e1 e2 => ?_⟩
  rw [List.getElem?_drop] at e1 e2
  exact h.2 _ a x e1 e2
theorem Each.set {β α : Type} {R : β → α → Prop} {as : List β} {xs : List α} (h : Each R as xs) (j : Nat) {b : β} {y : α} (r : R b y) : Each R (as.set j b) (xs.set j y) := by
  refine ⟨by rw [List.length_set, List.length_set, h.1], fun i a x e1 e2 => ?_⟩
  rw [List.getElem?_set] at e1 e2
  by_cases hi : j = i
  · rw [if_pos hi] at e1 e2
    by_cases l : j < as.length
    · rw [if_pos l] at e1
      rw [if_pos (by rw [← h.1]; exact l)] at e2
      cases e1
      cases e2
      exact r
    · rw [if_neg l] at e1
      cases e1
  · rw [if_neg hi] at e1 e2
    exact h.2 i a x e1 e2
abbrev RowAt (H : Hp) (a : Addr) (r : List Int) : Prop := H a = some (.tup (r.map V.int))
theorem tab_each {H : Hp} {ta : Addr} {as : List Addr} {T : List (List Int)} (h : H ta = some (.tup (as.map V.ref))) (e : Each (RowAt H) as T) : TabAt H ta T := ⟨as, h, e.1, fun i a r e1 e2 => e.2 i a r e1 e2⟩
theorem TabAt.each {H : Hp} {ta : Addr} {T : List (List Int)} (h : TabAt H ta T) : ∃ as : List Addr, H ta = some (.tup (as.map V.ref)) ∧ Each (RowAt H) as T := by
  obtain ⟨as, h1, h2, h3⟩ := h
  exact ⟨as, h1, h2, h3⟩
theorem cut_to {α : Type} {f : α → V} {l : List α} {y : Nat} : cutV (l.map f) none (some (y : Int)) = (l.take y).map f := by
  unfold cutV
  rw [HT.sIx_none, HT.sIx_nat, List.drop_zero, Nat.sub_zero, ← List.map_take]
  congr 1
  rw [List.length_map]
  by_cases h : y ≤ l.length
  · rw [Nat.min_eq_left h]
  · rw [Nat.min_eq_right (by omega), List.take_length, List.take_of_length_le (by omega)]
theorem cut_from {α : Type} {f : α → V} {l : List α} {y : Nat} : cutV (l.map f) (some (y : Int)) none = (l.drop y).map f := by
  unfold cutV
  rw [HT.sIx_none, HT.sIx_nat, ← List.map_drop, ← List.map_take]
  congr 1
  rw [List.length_map]
  by_cases h : y ≤ l.length
  · rw [Nat.min_eq_left h]
    exact List.take_of_length_le (by rw [List.length_drop]; exact Nat.le_refl _)
  · rw [Nat.min_eq_right (by omega), List.drop_length, List.drop_of_length_le (by omega), List.take_nil]
theorem slA {K : PySem.W.Frag} {H : Hp} {a : Addr} {xs : List V} {lo hi : Option Int} {Q : VK} (ha : H a = some (.tup xs)) (k : ∀ (H' : Hp) (b : Addr), Same H H' → H' b = some (.tup (cutV xs lo hi)) → Q (.ref b) H') : rSlA K (.ref a) lo hi H Q := by
  refine ⟨a, xs, rfl, SqT.of ha, fun hw => ?_, fun _ p np => k _ p (same_new np _) upd_same⟩
  refine k H a (Same.refl H) ?_
  have : cutV xs lo hi = xs := by
    unfold cutV
    rw [hw.1, hw.2, List.drop_zero, Nat.sub_zero, List.take_length]
  rw [this]
  exact ha
theorem catA {K : PySem.W.Frag} {H : Hp} {a b : Addr} {xs ys : List V} {Q : VK} (ha : H a = some (.tup xs)) (hb : H b = some (.tup ys)) (hl : xs.length + ys.length ≤ 1000) (k : ∀ (H' : Hp) (c : Addr), Same H H' → H' c = some (.tup (xs ++ ys)) → Q (.ref c) H') : rCatA K (.ref a) (.ref b) H Q := by
  refine ⟨a, b, xs, ys, rfl, rfl, SqT.of ha, SqT.of hb, small hl, fun e => ?_, fun _ e => ?_, fun _ _ p np => k _ p (same_new np _) upd_same⟩
  · subst e
    exact k H b (Same.refl H) hb
  · subst e
    refine k H a (Same.refl H) ?_
    rw [List.append_nil]
    exact ha
/-- the ints of a row, of a place each -/
theorem row_lc {h d : Addr} {ns : List Int} {m slot : Nat} {te : TE} {vs : List Nat} {σ : L2.St} {H1 : Hp} {D : Addr} {Qd : Hp → Prop} (k : Hand H1 h d ns) (hD : H1 D = none) (hm : m ≤ 1000) (hw : ∀ v, wipe ((wipe σ vs).set slot (some v)) vs = wipe σ vs)
    (hte : ∀ (i : Nat) (H : Hp), i < m → Hand H h d ns → But h H1 H → ∀ Q : VK, (∀ (z : Int) (H2 : Hp), Hand H2 h d ns → But h H H2 → Q (.int z) H2) → te ((wipe σ vs).set slot (some (vN i))) H Q)
    (hd : ∀ (H : Hp) (r : List Int), Hand H h d ns → But h H1 H → H D = some (.lst (r.map V.int)) → r.length = m → Qd H) :
    ∃ W : Nat → Nat → Hp → Prop, (∃ k, W 0 k (upd H1 D (.lst []))) ∧ ∀ i k H, W i k H →
      ((Itr 0 m).stop i H ∧ Qd H) ∨ ((Itr 0 m).go i H ∧ ∃ Nx : Hp → Prop, (∀ H', Nx H' → ∃ k', k' < k ∧ W (i + 1) k' H') ∧ ∀ x H', (Itr 0 m).yld i H x H' → gName slot x (wipe σ vs) H' fun σ2 H2 => wipe σ2 vs = wipe σ vs ∧ tYes σ2 H2 fun b H3 =>
        if b = true then te σ2 H3 fun y H4 => ∃ acc, H4 D = some (.lst acc) ∧ acc.length < sizeLine ∧ Nx (upd H4 D (.lst (acc ++ [y]))) else Nx H3) := by
  have fr := k.free hD
  refine lc_range (lo := 0) (n := m) (fun i H => ∃ r : List Int, Hand H h d ns ∧ But h H1 H ∧ H D = some (.lst (r.map V.int)) ∧ r.length = i)
    ⟨[], k.put fr.1 fr.2, (But.refl h H1).write hD, upd_same, rfl⟩ ?_ ?_
  · rintro i H hi ⟨r, hk, bt, eD, lr⟩
    have e0 : V.int (0 + (i : Int)) = vN i := by rw [Int.zero_add]
    refine ⟨hw _, ?_⟩
    rw [e0]
    simp only [tYes, if_true]
    refine hte i H hi hk bt _ fun z H2 hk2 bt2 => ⟨_, bt2 _ _ eD fr.1, by rw [List.length_map]; exact small1000 (by omega), r ++ [z], hk2.put fr.1 fr.2, (bt.trans bt2).write hD, ?_, ?_⟩
    · rw [upd_same, List.map_append]
      rfl
    · rw [List.length_append, lr]
      rfl
  · rintro H ⟨r, hk, bt, eD, lr⟩
    exact hd H r hk bt eD lr
/-- the rows of a table, of a place each -/
theorem tab_lc {h d : Addr} {ns : List Int} {m n slot : Nat} {te : TE} {vs : List Nat} {σ : L2.St} {H1 : Hp} {D : Addr} {Qd : Hp → Prop} (k : Hand H1 h d ns) (hD : H1 D = none) (hm : m ≤ 1000) (hw : ∀ v, wipe ((wipe σ vs).set slot (some v)) vs = wipe σ vs)
    (hte : ∀ (i : Nat) (H : Hp), i < m → Hand H h d ns → But h H1 H → ∀ Q : VK, (∀ (a : Addr) (r : List Int) (H2 : Hp), Hand H2 h d ns → But h H H2 → RowAt H2 a r → r.length = n → Q (.ref a) H2) → te ((wipe σ vs).set slot (some (vN i))) H Q)
    (hd : ∀ (H : Hp) (as : List Addr) (T : List (List Int)), Hand H h d ns → But h H1 H → H D = some (.lst (as.map V.ref)) → Each (RowAt H) as T → T.length = m → (∀ r ∈ T, r.length = n) → Qd H) :
    ∃ W : Nat → Nat → Hp → Prop, (∃ k, W 0 k (upd H1 D (.lst []))) ∧ ∀ i k H, W i k H →
      ((Itr 0 m).stop i H ∧ Qd H) ∨ ((Itr 0 m).go i H ∧ ∃ Nx : Hp → Prop, (∀ H', Nx H' → ∃ k', k' < k ∧ W (i + 1) k' H') ∧ ∀ x H', (Itr 0 m).yld i H x H' → gName slot x (wipe σ vs) H' fun σ2 H2 => wipe σ2 vs = wipe σ vs ∧ tYes σ2 H2 fun b H3 =>
        if b = true then te σ2 H3 fun y H4 => ∃ acc, H4 D = some (.lst acc) ∧ acc.length < sizeLine ∧ Nx (upd H4 D (.lst (acc ++ [y]))) else Nx H3) := by
  have fr := k.free hD
  refine lc_range (lo := 0) (n := m) (fun i H => ∃ (as : List Addr) (T : List (List Int)), Hand H h d ns ∧ But h H1 H ∧ H D = some (.lst (as.map V.ref)) ∧ Each (RowAt H) as T ∧ T.length = i ∧ ∀ r ∈ T, r.length = n)
    ⟨[], [], k.put fr.1 fr.2, (But.refl h H1).write hD, upd_same, Each.nil, rfl, fun r hr => (by cases hr)⟩ ?_ ?_
  · rintro i H hi ⟨as, T, hk, bt, eD, es, lT, rs⟩
    have e0 : V.int (0 + (i : Int)) = vN i := by rw [Int.zero_add]
    refine ⟨hw _, ?_⟩
    rw [e0]
    simp only [tYes, if_true]
    refine hte i H hi hk bt _ fun a r H2 hk2 bt2 ra lr => ?_
    have eD2 := bt2 _ _ eD fr.1
    refine ⟨_, eD2, by rw [List.length_map, es.1]; exact small1000 (by omega), as ++ [a], T ++ [r], hk2.put fr.1 fr.2, (bt.trans bt2).write hD, ?_, ?_, ?_, ?_⟩
    · rw [upd_same, List.map_append]
      rfl
    · refine Each.append (es.imp fun a x e => ?_) (Each.one ?_)
      · exact keep_at (bt2.tup hk e) eD2 (by intro z; cases z)
      · exact keep_at ra eD2 (by intro z; cases z)
    · rw [List.length_append, lT]
      rfl
    · intro r' hr
      rcases List.mem_append.mp hr with hr | hr
      · exact rs r' hr
      · rw [List.mem_singleton.mp hr]
        exact lr
  · rintro H ⟨as, T, hk, bt, eD, es, lT, rs⟩
    exact hd H as T hk bt eD es lT rs
theorem But2.but {h c : Addr} {H H1 H2 : Hp} (a : But h H H1) (b : But2 h c H1 H2) (n : H c = none) : But h H H2 := fun x o e ne => b x o (a x o e ne) ne (ne_of_none e n)
theorem tab_new {H : Hp} {t : Addr} {as : List Addr} {T : List (List Int)} (n : H t = none) (e : Each (RowAt H) as T) : TabAt (upd H t (.tup (as.map V.ref))) t T := tab_each upd_same (e.imp fun _ _ h => same_new n _ _ _ h)
/-- a new table of X rows of Y answers -/
def spApart : Sp := fun vs H Q _ => ∃ (h d : Addr) (ns : List Int) (X Y : Nat), vs = [.ref h, vN X, vN Y] ∧ Hand H h d ns ∧ 0 < X ∧ 0 < Y ∧ X ≤ 10 ∧ Y ≤ 10 ∧
  ∀ (H' : Hp) (ta : Addr) (T : List (List Int)), Hand H' h d ns → But h H H' → TabAt H' ta T → Rect T X Y → Q (.ref ta) H'
def spTouched : Sp := fun vs H Q _ => ∃ (h d ta : Addr) (ns : List Int) (T : List (List Int)) (X Y : Nat), vs = [.ref h, .ref ta] ∧ Hand H h d ns ∧ TabAt H ta T ∧ Rect T X Y ∧
  ∀ (H' : Hp) (ta : Addr) (T : List (List Int)), Hand H' h d ns → But h H H' → TabAt H' ta T → Rect T X Y → Q (.ref ta) H'
def spLong : Sp := fun vs H Q _ => ∃ (h d : Addr) (ns : List Int), vs = [.ref h] ∧ Hand H h d ns ∧
  ∀ (H' : Hp) (ta : Addr) (T : List (List Int)) (X Y : Nat), Hand H' h d ns → But h H H' → TabAt H' ta T → Rect T X Y → X + Y ≤ 11 → Q (.ref ta) H'
section
variable {P : Program} {w : World} {K : PySem.W.Frag} {mg : Str → Option Value} {base : Heap}
theorem k_Lapart (T : Bt mg) (c_Ltake : C8.Cal P w K mg base 1 "_law_take" spTake []) (c_Lfilled : C8.Cal P w K mg base 6 "_law_filled" (spFilled 5) []) (D : DefAt K mg "_law_apart" s_Lapart ["_law_hand", "_law_rows", "_law_columns"]) :
    C8.Cal P w K mg base 7 "_law_apart" spApart [] := by
  refine D.cal sc_Lapart (fun vs H Q E h => ?_) (fun f cdv A outer s H vs Q E hr h => ?_)
  · obtain ⟨h, d, ns, X, Y, rfl, _⟩ := h
    rfl
  obtain ⟨h, d, ns, X, Y, rfl, hand, x0, y0, xm, ym, q⟩ := h
  refine ⟨_, pss_cons (ps_set (i := 3) sc_Lapart.nd rfl (Or.inr rfl) pe_dnewT)
      (pss_cons (ps_expr (C8.pe_c c_Lfilled hr (by decide) rfl (pa_cons (pv 3) (pa_cons (pv 0) (pa_cons (pe_tupRg rfl rfl T.tuple (prg_1 rfl T.range (pv 1))) (pa_cons (pe_tupRg rfl rfl T.tuple (prg_1 rfl T.range (pv 2))) (pa_cons (C8.pe_c c_Ltake hr (by decide) rfl (pa_cons (pv 0) (pa_cons pe_int pa_nil))) (pa_cons pe_int pa_nil))))))))
      (pss_cons (ps_set (i := 4) sc_Lapart.nd rfl (Or.inr rfl) (pe_ix ix_list (pe_lst (pa_cons pe_int (pa_cons pe_int (pa_cons (pe_un un_neg pe_int) (pa_cons (pe_op op_pow pe_int pe_int) (pa_cons (pe_un un_neg pe_int) pa_nil)))))) (C8.pe_c c_Ltake hr (by decide) rfl (pa_cons (pv 0) (pa_cons pe_int pa_nil))) (fun _ _ => rfl)))
      (pss_cons (ps_set (i := 5) sc_Lapart.nd rfl (Or.inr rfl) (pe_op op_sub (C8.pe_c c_Ltake hr (by decide) rfl (pa_cons (pv 0) (pa_cons pe_int pa_nil))) pe_int))
      (pss_one (ps_ret (pe_callTy call_tuple_of rfl T.tuple (by decide +kernel) (pa_cons (pe_lc (own := [("_law_x", 6)]) (g := gName 6) (tt := tYes)  rfl sc_Lapart.nd  (pi_range1 rfl T.range (pa_cons (pv 1) pa_nil)) (by exact (show BlkOk ["_law_hand", "_law_rows", "_law_columns", "_law_cells", "_law_step", "_law_base", "_law_x", "_law_y"] (defScope s_Lapart) _ [("_law_x", 6)] from blkOk_by (by decide +kernel))) (fun _ _ _ _ _ => (pg_name (i := 6) sc_Lapart.nd rfl (Or.inr rfl))) (fun _ _ _ _ _ => pts_nil) (fun _ _ _ _ _ => (pe_callTy (tupK K) rfl T.tuple (by decide +kernel) (pa_cons (pe_lc (own := [("_law_y", 7)]) (g := gName 7) (tt := tYes)  rfl sc_Lapart.nd  (pi_range1 rfl T.range (pa_cons (pv 2) pa_nil)) (by exact (show BlkOk ["_law_hand", "_law_rows", "_law_columns", "_law_cells", "_law_step", "_law_base", "_law_x", "_law_y"] (relS _ (defScope s_Lapart)) _ [("_law_y", 7)] from blkOk_by (by decide +kernel))) (fun _ _ _ _ _ => (pg_name (i := 7) sc_Lapart.nd rfl (Or.inl rfl))) (fun _ _ _ _ _ => pts_nil) (fun _ _ _ _ _ => (pe_op op_add (pv 5) (pe_op op_mul (pv 4) (pe_dget (hu_of hr) (pv 3) (pe_tup (pa_cons (pv 6) (pa_cons (pv 7) pa_nil))) (fun _ _ => rfl)))))) pa_nil)))) pa_nil))))))), ?_⟩
  refine fun cd ncd => ?_
  have sc := same_new ncd (.dT [])
  have ec : (upd H cd (.dT [])) cd = some (.dT []) := upd_same
  generalize hqc : upd H cd (.dT []) = H1 at sc ec
  clear hqc
  refine ⟨_, rfl, _, rfl, _, rfl, _, rfl, RgOk.of_le (by omega) (by omega) (by omega) (by omega), fun lx nlx => ?_⟩
  have s1 := same_new nlx (.tup (rgV 0 (X : Int)))
  refine ⟨_, rfl, _, rfl, RgOk.of_le (by omega) (by omega) (by omega) (by omega), fun ly nly => ?_⟩
  have s2 := same_new nly (.tup (rgV 0 (Y : Int)))
  have ex2 := s2 _ _ (show (upd H1 lx (.tup (rgV 0 (X : Int)))) lx = _ from upd_same)
  have ey2 : (upd (upd H1 lx (.tup (rgV 0 (X : Int)))) ly (.tup (rgV 0 (Y : Int)))) ly = some (.tup (rgV 0 (Y : Int))) := upd_same
  generalize hq2 : upd (upd H1 lx (.tup (rgV 0 (X : Int)))) ly (.tup (rgV 0 (Y : Int))) = H2 at s2 ex2 ey2
  clear hq2
  rw [rgV_nat] at ex2 ey2
  have s02 := sc.trans (s1.trans s2)
  have ec2 := s2 _ _ (s1 _ _ ec)
  have hand2 := hand.same s02
  refine ⟨_, rfl, h, d, ns, 2, rfl, hand2, by decide, fun H3 z z0 z2 hand3 b3 => ?_⟩
  have nch := hand2.dct ec2
  have ec3 := b3 _ _ ec2 nch.1
  obtain ⟨sd, esd⟩ : ∃ sd : Bool, V.int z = vS sd := by
    rcases (show z = 0 ∨ z = 1 by omega) with e | e
    · exact ⟨false, by rw [e]; rfl⟩
    · exact ⟨true, by rw [e]; rfl⟩
  rw [esd]
  refine ⟨cd, h, d, lx, ly, ns, [], List.range X, List.range Y, sd, 4, rfl, by decide, by decide, ec3, hand3, b3.tup hand2 ex2, b3.tup hand2 ey2, fun p hp => (by cases hp), ?_, by rw [List.length_range]; omega, by rw [List.length_range]; omega, ?_⟩
  · rw [List.length_range, List.length_range]
    have : X * Y ≤ 10 * 10 := Nat.mul_le_mul xm ym
    show 0 + X * Y ≤ 1000
    omega
  rintro H4 ⟨kvs, ec4, hand4, b4, cells, _, _, has⟩
  have b04 : But h H H4 := But2.but ((But.of s02).trans b3) b4 ncd
  -- step
  refine ⟨_, rfl, _, _, rfl, rfl, ⟨by decide, by decide, by decide⟩, _, rfl, by show 5 ≤ sizeLine; decide, fun l5 n5 => ?_⟩
  have s5 := same_new n5 (.lst [.int 1, .int 7, .int (-3), .int (10 ^ (20 : Int).toNat), .int (-1)])
  have e5 : (upd H4 l5 (.lst [.int 1, .int 7, .int (-3), .int (10 ^ (20 : Int).toNat), .int (-1)])) l5 = some (.lst [.int 1, .int 7, .int (-3), .int (10 ^ (20 : Int).toNat), .int (-1)]) := upd_same
  refine ⟨_, rfl, h, d, ns, 5, rfl, hand4.same s5, by decide, fun H6 z5 z50 z51 hand6 b6 => ?_⟩
  have b06 : But h H H6 := (b04.trans (But.of s5)).trans b6
  have e56 := b6 _ _ e5 (hand4.free n5).1
  have ec6 := b6 _ _ (s5 _ _ ec4) nch.1
  obtain ⟨st, hst⟩ : ∃ st : Int, atI [V.int 1, V.int 7, V.int (-3), V.int (10 ^ (20 : Int).toNat), V.int (-1)] z5 = some (.int st) := by
    rcases (show z5 = 0 ∨ z5 = 1 ∨ z5 = 2 ∨ z5 = 3 ∨ z5 = 4 by omega) with e | e | e | e | e
    · exact ⟨_, at_of (j := 0) (by omega) rfl⟩
    · exact ⟨_, at_of (j := 1) (by omega) rfl⟩
    · exact ⟨_, at_of (j := 2) (by omega) rfl⟩
    · exact ⟨_, at_of (j := 3) (by omega) rfl⟩
    · exact ⟨_, at_of (j := 4) (by omega) rfl⟩
  refine ⟨l5, _, _, _, rfl, rfl, SqL.of e56, hst, ?_⟩
  -- base
  refine ⟨_, rfl, h, d, ns, 19, rfl, hand6, by decide, fun H7 z6 z60 z61 hand7 b7 => ⟨_, _, rfl, rfl, ?_⟩⟩
  have ec7 := b7 _ _ ec6 nch.1
  have b07 := b06.trans b7
  refine ⟨_, rfl, _, rfl, by omega, by omega, fun M nM => ?_⟩
  refine tab_lc (m := X) (n := Y) (slot := 6) hand7 nM (by omega) (fun _ => rfl) (fun i H8 hi hand8 b8 Q' k => ?_) (fun H9 as Tb hand9 b9 eM es lT lr => ?_)
  · refine ⟨_, rfl, _, rfl, by omega, by omega, fun M2 nM2 => ?_⟩
    refine row_lc (m := Y) (slot := 7) hand8 nM2 (by omega) (fun _ => rfl) (fun j H9 hj hand9 b9 Q2 k2 => ?_) (fun H9 r hand9 b9 eM2 lr => ?_)
    · obtain ⟨zc, hzc, zc0, zc1⟩ := cells.get (has i (List.mem_range.mpr hi) j (List.mem_range.mpr hj))
      have ec9 := b9 _ _ (b8 _ _ ec7 nch.1) nch.1
      refine ⟨_, rfl, _, rfl, _, rfl, _, rfl, _, rfl, by show 2 ≤ sizeLine; decide, fun t nt => ?_⟩
      have st9 := same_new nt (.tup [vN i, vN j])
      refine ⟨cd, .int zc, rfl, .inr ⟨kvs, kXY i j, t, .inl (st9 _ _ ec9), rfl, upd_same, hzc.symm⟩, _, _, rfl, rfl, .inr ⟨by omega, by omega⟩, _, _, rfl, rfl, ?_⟩
      exact k2 _ _ (hand9.same st9) (But.of st9)
    · refine ⟨M2, _, rfl, .inl ⟨SqL.of eM2, fun t nt => ?_⟩⟩
      have st9 := same_new nt (.tup (r.map V.int))
      exact k t r _ (hand9.same st9) (b9.trans (But.of st9)) upd_same lr
  · refine ⟨M, _, rfl, .inl ⟨SqL.of eM, fun t nt => ?_⟩⟩
    have st9 := same_new nt (.tup (as.map V.ref))
    exact q _ t Tb (hand9.same st9) ((b07.trans b9).trans (But.of st9)) (tab_new nt es) ⟨lT, lr, x0, y0, by omega, by omega⟩
theorem k_Ltouched (T : Bt mg) (c_Ltake : C8.Cal P w K mg base 1 "_law_take" spTake []) (D : DefAt K mg "_law_touched" s_Ltouched ["_law_hand", "_law_table"]) : C8.Cal P w K mg base 2 "_law_touched" spTouched [] := by
  refine D.cal sc_Ltouched (fun vs H Q E h => ?_) (fun f cdv A outer s H vs Q E hr h => ?_)
  · obtain ⟨h, d, ta, ns, Tb, X, Y, rfl, _⟩ := h
    rfl
  obtain ⟨h, d, ta, ns, Tb, X, Y, rfl, hand, hT, RT, q⟩ := h
  refine ⟨_, pss_cons (ps_set (i := 2) sc_Ltouched.nd rfl (Or.inl rfl) (C8.pe_c c_Ltake hr (by decide) rfl (pa_cons (pv 0) (pa_cons (pe_callB call_len_seq rfl T.len PySem.boot_len (pa_cons (pv 1) pa_nil)) pa_nil))))
      (pss_cons (ps_set (i := 3) sc_Ltouched.nd rfl (Or.inl rfl) (C8.pe_c c_Ltake hr (by decide) rfl (pa_cons (pv 0) (pa_cons (pe_callB call_len_seq rfl T.len PySem.boot_len (pa_cons (pe_ix ix_tup (pv 1) pe_int (fun _ _ => rfl)) pa_nil)) pa_nil))))
      (pss_cons (ps_set (i := 4) sc_Ltouched.nd rfl (Or.inl rfl) (pe_ix ix_tup (pe_ix ix_tup (pv 1) (C8.pe_c c_Ltake hr (by decide) rfl (pa_cons (pv 0) (pa_cons (pe_callB call_len_seq rfl T.len PySem.boot_len (pa_cons (pv 1) pa_nil)) pa_nil))) (fun _ _ => rfl)) (C8.pe_c c_Ltake hr (by decide) rfl (pa_cons (pv 0) (pa_cons (pe_callB call_len_seq rfl T.len PySem.boot_len (pa_cons (pe_ix ix_tup (pv 1) pe_int (fun _ _ => rfl)) pa_nil)) pa_nil))) (fun _ _ => rfl)))
      (pss_cons (ps_set (i := 5) sc_Ltouched.nd rfl (Or.inl rfl) (pe_op op_catA (pe_op op_catA (pe_slice sl_tupA (pe_ix ix_tup (pv 1) (pv 2) (fun _ _ => rfl)) po_none (po_some (pv 3))) (pe_tup (pa_cons (pv 4) pa_nil))) (pe_slice sl_tupA (pe_ix ix_tup (pv 1) (pv 2) (fun _ _ => rfl)) (po_some (pe_op op_add (pv 3) pe_int)) po_none)))
      (pss_one (ps_ret (pe_op op_catA (pe_op op_catA (pe_slice sl_tupA (pv 1) po_none (po_some (pv 2))) (pe_tup (pa_cons (pv 5) pa_nil))) (pe_slice sl_tupA (pv 1) (po_some (pe_op op_add (pv 2) pe_int)) po_none))))))), ?_⟩
  obtain ⟨as, h1, es⟩ := hT.each
  have las : as.length = X := es.1.trans RT.rows
  have xm := RT.xm
  have ym := RT.ym
  have x0 := RT.x0
  have y0 := RT.y0
  have row : ∀ x : Nat, x < X → ∃ (a : Addr) (r : List Int), as[x]? = some a ∧ Tb[x]? = some r ∧ RowAt H a r ∧ r.length = Y := by
    intro x hx
    obtain ⟨a, ha⟩ := get_of_lt (l := as) (i := x) (by omega)
    obtain ⟨r, hr, hra⟩ := es.get ha
    exact ⟨a, r, ha, hr, hra, RT.cols r (List.mem_of_getElem? hr)⟩
  have aat : ∀ {x : Nat} {a : Addr}, as[x]? = some a → atI (as.map V.ref) (x : Int) = some (.ref a) := fun {x a} e => atI_nat (by rw [List.getElem?_map, e]; rfl)
  obtain ⟨a0, r0, ha0, _, hr0, lr0⟩ := row 0 x0
  -- x, y
  refine ⟨_, rfl, _, rfl, ta, _, rfl, .inr (SqT.of h1), h, d, ns, _, rfl, hand, by rw [List.length_map]; omega, fun H1 zx zx0 zx1 hand1 b1 => ?_⟩
  rw [List.length_map] at zx1
  obtain ⟨x, rfl⟩ : ∃ x : Nat, zx = x := ⟨zx.toNat, by omega⟩
  have h11 := b1.tup hand h1
  refine ⟨_, rfl, _, rfl, ta, _, _, _, rfl, rfl, SqT.of h11, aat ha0, a0, _, rfl, .inr (SqT.of (b1.tup hand hr0)), h, d, ns, _, rfl, hand1, by rw [List.length_map]; omega, fun H2 zy zy0 zy1 hand2 b2 => ?_⟩
  rw [List.length_map] at zy1
  obtain ⟨y, rfl⟩ : ∃ y : Nat, zy = y := ⟨zy.toNat, by omega⟩
  have b02 := b1.trans b2
  have h12 := b02.tup hand h1
  -- value
  refine ⟨_, rfl, _, rfl, _, rfl, ta, _, rfl, .inr (SqT.of h12), h, d, ns, _, rfl, hand2, by rw [List.length_map]; omega, fun H3 zu zu0 zu1 hand3 b3 => ?_⟩
  rw [List.length_map] at zu1
  obtain ⟨u, rfl⟩ : ∃ u : Nat, zu = u := ⟨zu.toNat, by omega⟩
  have b03 := b02.trans b3
  have h13 := b03.tup hand h1
  obtain ⟨au, ru, hau, _, hru, lru⟩ := row u (by omega)
  refine ⟨ta, _, _, _, rfl, rfl, SqT.of h13, aat hau, ?_⟩
  refine ⟨_, rfl, _, rfl, ta, _, _, _, rfl, rfl, SqT.of h13, aat ha0, a0, _, rfl, .inr (SqT.of (b03.tup hand hr0)), h, d, ns, _, rfl, hand3, by rw [List.length_map]; omega, fun H4 zw zw0 zw1 hand4 b4 => ?_⟩
  rw [List.length_map] at zw1
  obtain ⟨v, rfl⟩ : ∃ v : Nat, zw = v := ⟨zw.toNat, by omega⟩
  have b04 := b03.trans b4
  have h14 := b04.tup hand h1
  obtain ⟨val, hval⟩ := get_of_lt (l := ru) (i := v) (by omega)
  refine ⟨au, _, _, .int val, rfl, rfl, SqT.of (b04.tup hand hru), atI_nat (by rw [List.getElem?_map, hval]; rfl), ?_⟩
  -- row
  obtain ⟨ax, rx, hax, hTx, hrx, lrx⟩ := row x (by omega)
  have hx4 := b04.tup hand hrx
  refine ⟨_, rfl, _, rfl, ta, _, _, _, rfl, rfl, SqT.of h14, aat hax, _, rfl, _, rfl, slA hx4 fun H5 c1 s5 e5 => ?_⟩
  refine ⟨_, rfl, by show 1 ≤ sizeLine; decide, fun c2 n2 => ?_⟩
  have s6 := same_new n2 (.tup [.int val])
  rw [cut_to] at e5
  have ly : (rx.take y).length = y := by rw [List.length_take]; omega
  refine catA (s6 _ _ e5) upd_same (by rw [List.length_map, ly, List.length_singleton]; omega) fun H7 c3 s7 e7 => ?_
  have s47 := s5.trans (s6.trans s7)
  refine ⟨_, rfl, _, rfl, ta, _, _, _, rfl, rfl, SqT.of (s47 _ _ h14), aat hax, _, rfl, _, _, rfl, rfl, _, rfl, ?_⟩
  dsimp only [tNoPart]
  refine slA (s47 _ _ hx4) fun H8 c4 s8 e8 => ?_
  have e8 : H8 c4 = some (.tup (cutV (rx.map V.int) (some ((y + 1 : Nat) : Int)) none)) := e8
  rw [cut_from] at e8
  refine catA (s8 _ _ e7) e8 (by rw [List.length_append, List.length_map, List.length_map, ly, List.length_singleton, List.length_drop]; omega) fun H9 c5 s9 e9 => ?_
  have s49 := s47.trans (s8.trans s9)
  have e9 : RowAt H9 c5 (rx.take y ++ [val] ++ rx.drop (y + 1)) := by
    show H9 c5 = _
    rw [e9, List.map_append, List.map_append]
    rfl
  have ln : (rx.take y ++ [val] ++ rx.drop (y + 1)).length = Y := by
    rw [List.length_append, List.length_append, ly, List.length_singleton, List.length_drop]
    omega
  generalize rx.take y ++ [val] ++ rx.drop (y + 1) = rn at e9 ln
  -- table
  have h19 := s49 _ _ h14
  have es9 : Each (RowAt H9) as Tb := es.imp fun a r e => s49 _ _ (b04.tup hand e)
  refine ⟨_, rfl, _, rfl, _, rfl, slA h19 fun H10 t1 s10 f1 => ?_⟩
  rw [cut_to] at f1
  refine ⟨_, rfl, by show 1 ≤ sizeLine; decide, fun t2 m2 => ?_⟩
  have s11 := same_new m2 (.tup [.ref c5])
  have lx : (as.take x).length = x := by rw [List.length_take]; omega
  refine catA (s11 _ _ f1) upd_same (by rw [List.length_map, lx, List.length_singleton]; omega) fun H12 t3 s12 f3 => ?_
  have s912 := s10.trans (s11.trans s12)
  refine ⟨_, rfl, _, rfl, _, _, rfl, rfl, _, rfl, ?_⟩
  dsimp only [tNoPart]
  refine slA (s912 _ _ h19) fun H13 t4 s13 f4 => ?_
  have f4 : H13 t4 = some (.tup (cutV (as.map V.ref) (some ((x + 1 : Nat) : Int)) none)) := f4
  rw [cut_from] at f4
  refine catA (s13 _ _ f3) f4 (by rw [List.length_append, List.length_map, List.length_map, lx, List.length_singleton, List.length_drop]; omega) fun H14 t5 s14 f5 => ?_
  have s914 := s912.trans (s13.trans s14)
  refine q H14 t5 (Tb.take x ++ [rn] ++ Tb.drop (x + 1)) (hand4.same (s49.trans s914)) (b04.trans (But.of (s49.trans s914))) ?_ ⟨?_, ?_, x0, y0, xm, ym⟩
  · refine tab_each (as := as.take x ++ [c5] ++ as.drop (x + 1)) ?_ ((((es9.take x).append (Each.one e9)).append (es9.drop (x + 1))).imp fun a r e => s914 _ _ e)
    rw [f5, List.map_append, List.map_append]
    rfl
  · have := RT.rows
    rw [List.length_append, List.length_append, List.length_take, List.length_singleton, List.length_drop]
    omega
  · intro r hr
    rcases List.mem_append.mp hr with hr | hr
    · rcases List.mem_append.mp hr with hr | hr
      · exact RT.cols r (List.mem_of_mem_take hr)
      · rw [List.mem_singleton.mp hr]
        exact ln
    · exact RT.cols r (List.mem_of_mem_drop hr)
end
end K9
set_option Elab.async false
set_option linter.all false
set_option maxRecDepth 100000
set_option maxHeartbeats 16000000
namespace K9
open PySem PySem.Spec PyProof.Rows L2
section
variable {P : Program} {w : World} {K : PySem.W.Frag} {mg : Str → Option Value} {base : Heap}
theorem k_Ldrawn (T : Bt mg) (c_Ltake : C8.Cal P w K mg base 1 "_law_take" spTake []) (c_Lapart : C8.Cal P w K mg base 7 "_law_apart" spApart []) (c_Ltouched : C8.Cal P w K mg base 2 "_law_touched" spTouched [])
    (D : DefAt K mg "_law_drawn" s_Ldrawn ["_law_hand", "_law_rows", "_law_columns"]) : C8.Cal P w K mg base 8 "_law_drawn" spApart [] := by
  refine D.cal sc_Ldrawn (fun vs H Q E h => ?_) (fun f cdv A outer s H vs Q E hr h => ?_)
  · obtain ⟨h, d, ns, X, Y, rfl, _⟩ := h
    rfl
  obtain ⟨h, d, ns, X, Y, rfl, hand, x0, y0, xm, ym, q⟩ := h
  refine ⟨_, pss_cons (ps_set (i := 3) sc_Ldrawn.nd rfl (Or.inl rfl) (C8.pe_c c_Ltake hr (by decide) rfl (pa_cons (pv 0) (pa_cons pe_int pa_nil))))
      (pss_cons (ps_if (pt_cmpR op_eq (pv 3) pe_int (nomark _))
        (pss_cons (ps_set (i := 4) sc_Ldrawn.nd rfl (Or.inr rfl) (pe_op op_add pe_int (C8.pe_c c_Ltake hr (by decide) rfl (pa_cons (pv 0) (pa_cons pe_int pa_nil)))))
        (pss_one (ps_ret (pe_callTy call_tuple_of rfl T.tuple (by decide +kernel) (pa_cons (pe_lc (own := [("_law_x", 6)]) (g := gName 6) (tt := tYes)  rfl sc_Ldrawn.nd  (pi_range1 rfl T.range (pa_cons (pv 1) pa_nil)) (by exact (show BlkOk ["_law_hand", "_law_rows", "_law_columns", "_law_kind", "_law_answers", "_law_table", "_law_x", "_law_y"] (defScope s_Ldrawn) _ [("_law_x", 6)] from blkOk_by (by decide +kernel))) (fun _ _ _ _ _ => (pg_name (i := 6) sc_Ldrawn.nd rfl (Or.inl rfl))) (fun _ _ _ _ _ => pts_nil) (fun _ _ _ _ _ => (pe_callTy (tupK K) rfl T.tuple (by decide +kernel) (pa_cons (pe_lc (own := [("_law_y", 7)]) (g := gName 7) (tt := tYes)  rfl sc_Ldrawn.nd  (pi_range1 rfl T.range (pa_cons (pv 2) pa_nil)) (by exact (show BlkOk ["_law_hand", "_law_rows", "_law_columns", "_law_kind", "_law_answers", "_law_table", "_law_x", "_law_y"] (relS _ (defScope s_Ldrawn)) _ [("_law_y", 7)] from blkOk_by (by decide +kernel))) (fun _ _ _ _ _ => (pg_name (i := 7) sc_Ldrawn.nd rfl (Or.inl rfl))) (fun _ _ _ _ _ => pts_nil) (fun _ _ _ _ _ => (C8.pe_c c_Ltake hr (by decide) rfl (pa_cons (pv 0) (pa_cons (pv 4) pa_nil))))) pa_nil)))) pa_nil)))))
        pss_nil)
      (pss_cons (ps_set (i := 5) sc_Ldrawn.nd rfl (Or.inl rfl) (C8.pe_c c_Lapart hr (by decide) rfl (pa_cons (pv 0) (pa_cons (pv 1) (pa_cons (pv 2) pa_nil)))))
      (C8.pss_cut (ps_if (pt_cmpR op_lt (pv 3) pe_int (nomark _))
        (pss_one (ps_set (i := 5) sc_Ldrawn.nd rfl (Or.inl rfl) (C8.pe_c c_Ltouched hr (by decide) rfl (pa_cons (pv 0) (pa_cons (pv 5) pa_nil)))))
        pss_nil)
      (C8.pss_cut (ps_if (pt_cmpR op_eq (pv 3) pe_int (nomark _))
        (pss_one (ps_set (i := 5) sc_Ldrawn.nd rfl (Or.inl rfl) (C8.pe_c c_Ltouched hr (by decide) rfl (pa_cons (pv 0) (pa_cons (pv 5) pa_nil)))))
        pss_nil)
      (pss_one (ps_ret (pv 5))))))), ?_⟩
  refine ⟨_, rfl, h, d, ns, 4, rfl, hand, by decide, fun H1 z z0 z4 hand1 b1 => ?_⟩
  refine ⟨_, rfl, rfl, _, rfl, ite2 (fun e => ?_) (fun e => ?_)⟩
  · refine ⟨_, rfl, h, d, ns, 4, rfl, hand1, by decide, fun H2 zz zz0 zz4 hand2 b2 => ⟨_, _, rfl, rfl, ?_⟩⟩
    have b02 := b1.trans b2
    refine ⟨_, rfl, _, rfl, by omega, by omega, fun M nM => ?_⟩
    refine tab_lc (m := X) (n := Y) (slot := 6) hand2 nM (by omega) (fun _ => rfl) (fun i H8 hi hand8 b8 Q' k => ?_) (fun H9 as Tb hand9 b9 eM es lT lr => ?_)
    · refine ⟨_, rfl, _, rfl, by omega, by omega, fun M2 nM2 => ?_⟩
      refine row_lc (m := Y) (slot := 7) hand8 nM2 (by omega) (fun _ => rfl) (fun j H9 hj hand9 b9 Q2 k2 => ?_) (fun H9 r hand9 b9 eM2 lr => ?_)
      · exact ⟨_, rfl, _, rfl, h, d, ns, 2 + zz, rfl, hand9, by omega, fun H10 u u0 u1 hand10 b10 => k2 u H10 hand10 b10⟩
      · refine ⟨M2, _, rfl, .inl ⟨SqL.of eM2, fun t nt => ?_⟩⟩
        have st9 := same_new nt (.tup (r.map V.int))
        exact k t r _ (hand9.same st9) (b9.trans (But.of st9)) upd_same lr
    · refine ⟨M, _, rfl, .inl ⟨SqL.of eM, fun t nt => ?_⟩⟩
      have st9 := same_new nt (.tup (as.map V.ref))
      exact q _ t Tb (hand9.same st9) ((b02.trans b9).trans (But.of st9)) (tab_new nt es) ⟨lT, lr, x0, y0, by omega, by omega⟩
  refine ⟨_, rfl, _, rfl, _, rfl, h, d, ns, X, Y, rfl, hand1, x0, y0, xm, ym, fun H2 ta Tb hand2 b2 hT RT => ?_⟩
  refine ⟨fun σ H3 => ∃ (ta : Addr) (Tb : List (List Int)), σ = [some (.ref h), some (vN X), some (vN Y), some (.int z), none, some (.ref ta), none, none] ∧ Hand H3 h d ns ∧ But h H H3 ∧ TabAt H3 ta Tb ∧ Rect Tb X Y, ?_, ?_⟩
  · refine ⟨_, rfl, _, _, rfl, rfl, _, rfl, ite2 (fun c => ?_) (fun c => ?_)⟩
    · exact ⟨_, rfl, _, rfl, h, d, ta, ns, Tb, X, Y, rfl, hand2, hT, RT, fun H3 tb Tc hand3 b3 hT3 RT3 => ⟨tb, Tc, rfl, hand3, (b1.trans b2).trans b3, hT3, RT3⟩⟩
    · exact ⟨ta, Tb, rfl, hand2, b1.trans b2, hT, RT⟩
  rintro σ H3 ⟨ta, Tb, rfl, hand3, b3, hT, RT⟩
  refine ⟨fun σ H3 => ∃ (ta : Addr) (Tb : List (List Int)), σ = [some (.ref h), some (vN X), some (vN Y), some (.int z), none, some (.ref ta), none, none] ∧ Hand H3 h d ns ∧ But h H H3 ∧ TabAt H3 ta Tb ∧ Rect Tb X Y, ?_, ?_⟩
  · refine ⟨_, rfl, rfl, _, rfl, ite2 (fun c => ?_) (fun c => ?_)⟩
    · exact ⟨_, rfl, _, rfl, h, d, ta, ns, Tb, X, Y, rfl, hand3, hT, RT, fun H4 tb Tc hand4 b4 hT4 RT4 => ⟨tb, Tc, rfl, hand4, b3.trans b4, hT4, RT4⟩⟩
    · exact ⟨ta, Tb, rfl, hand3, b3, hT, RT⟩
  rintro σ H4 ⟨ta, Tb, rfl, hand4, b4, hT, RT⟩
  exact ⟨_, rfl, q H4 ta Tb hand4 b4 hT RT⟩
theorem k_Llong (T : Bt mg) (c_Ltake : C8.Cal P w K mg base 1 "_law_take" spTake []) (D : DefAt K mg "_law_long" s_Llong ["_law_hand"]) : C8.Cal P w K mg base 2 "_law_long" spLong [] := by
  refine D.cal sc_Llong (fun vs H Q E h => ?_) (fun f cdv A outer s H vs Q E hr h => ?_)
  · obtain ⟨h, d, ns, rfl, _⟩ := h
    rfl
  obtain ⟨h, d, ns, rfl, hand, q⟩ := h
  refine ⟨_, pss_cons (ps_set (i := 1) sc_Llong.nd rfl (Or.inl rfl) (pe_op op_add pe_int (C8.pe_c c_Ltake hr (by decide) rfl (pa_cons (pv 0) (pa_cons pe_int pa_nil)))))
      (pss_cons (ps_set (i := 2) sc_Llong.nd rfl (Or.inr rfl) (pe_lc (own := [("_law_k", 5)]) (g := gName 5) (tt := tYes)  rfl sc_Llong.nd  (pi_range1 rfl T.range (pa_cons (pv 1) pa_nil)) (by exact (show BlkOk ["_law_hand", "_law_many", "_law_rows", "_law_at", "_law_to", "_law_k", "_law_y", "_law_row"] (defScope s_Llong) _ [("_law_k", 5)] from blkOk_by (by decide +kernel))) (fun _ _ _ _ _ => (pg_name (i := 5) sc_Llong.nd rfl (Or.inl rfl))) (fun _ _ _ _ _ => pts_nil) (fun _ _ _ _ _ => (pe_tup (pa_cons (pe_op op_add pe_int (pv 5)) (pa_cons (pe_op op_add pe_int (pv 5)) pa_nil))))))
      (pss_cons (ps_set (i := 3) sc_Llong.nd rfl (Or.inl rfl) (C8.pe_c c_Ltake hr (by decide) rfl (pa_cons (pv 0) (pa_cons (pv 1) pa_nil))))
      (pss_cons (ps_set (i := 4) sc_Llong.nd rfl (Or.inl rfl) (C8.pe_c c_Ltake hr (by decide) rfl (pa_cons (pv 0) (pa_cons (pv 1) pa_nil))))
      (pss_cons (ps_asg (pe_tup (pa_cons (C8.pe_c c_Ltake hr (by decide) rfl (pa_cons (pv 0) (pa_cons pe_int pa_nil))) (pa_cons (C8.pe_c c_Ltake hr (by decide) rfl (pa_cons (pv 0) (pa_cons pe_int pa_nil))) pa_nil))) (pg_sub (pv 2) (pv 3) set_list))
      (pss_cons (ps_asg (pe_tup (pa_cons (C8.pe_c c_Ltake hr (by decide) rfl (pa_cons (pv 0) (pa_cons pe_int pa_nil))) (pa_cons (C8.pe_c c_Ltake hr (by decide) rfl (pa_cons (pv 0) (pa_cons pe_int pa_nil))) pa_nil))) (pg_sub (pv 2) (pv 4) set_list))
      (pss_cons (ps_if (pt_cmpR op_eq (C8.pe_c c_Ltake hr (by decide) rfl (pa_cons (pv 0) (pa_cons pe_int pa_nil))) pe_int (nomark _))
        (pss_one (ps_ret (pe_callTy call_tuple_of rfl T.tuple (by decide +kernel) (pa_cons (pe_lc (own := [("_law_y", 6)]) (g := gName 6) (tt := tYes)  rfl sc_Llong.nd  (pi_range1 rfl T.range (pa_cons pe_int pa_nil)) (by exact (show BlkOk ["_law_hand", "_law_many", "_law_rows", "_law_at", "_law_to", "_law_k", "_law_y", "_law_row"] (defScope s_Llong) _ [("_law_y", 6)] from blkOk_by (by decide +kernel))) (fun _ _ _ _ _ => (pg_name (i := 6) sc_Llong.nd rfl (Or.inr rfl))) (fun _ _ _ _ _ => pts_nil) (fun _ _ _ _ _ => (pe_callTy (tupK K) rfl T.tuple (by decide +kernel) (pa_cons (pe_lc (own := [("_law_row", 7)]) (g := gName 7) (tt := tYes)  rfl sc_Llong.nd  (piL K (pv 2)) (by exact (show BlkOk ["_law_hand", "_law_many", "_law_rows", "_law_at", "_law_to", "_law_k", "_law_y", "_law_row"] (relS _ (defScope s_Llong)) _ [("_law_row", 7)] from blkOk_by (by decide +kernel))) (fun _ _ _ _ _ => (pg_name (i := 7) sc_Llong.nd rfl (Or.inl rfl))) (fun _ _ _ _ _ => pts_nil) (fun _ _ _ _ _ => (pe_ix (ixT K) (pv 7) (pv 6) (fun _ _ => rfl)))) pa_nil)))) pa_nil))))
        pss_nil)
      (pss_one (ps_ret (pe_callTy call_tuple_of rfl T.tuple (by decide +kernel) (pa_cons (pv 2) pa_nil)))))))))), ?_⟩
  refine ⟨_, rfl, h, d, ns, 3, rfl, hand, by decide, fun H1 z z0 z4 hand1 b1 => ⟨_, _, rfl, rfl, ?_⟩⟩
  obtain ⟨m, em⟩ : ∃ m : Nat, 7 + z = (m : Int) := ⟨(7 + z).toNat, by omega⟩
  have m7 : 7 ≤ m ∧ m ≤ 9 := by omega
  refine ⟨_, rfl, _, rfl, by omega, by omega, fun M nM => ?_⟩
  have etn : (7 + z).toNat = m := by omega
  show ∃ W : Nat → Nat → Hp → Prop, _
  rw [etn]
  refine tab_lc (m := m) (n := 2) (slot := 5) hand1 nM (by omega) (fun _ => rfl) (fun i H8 hi hand8 b8 Q' k => ?_) (fun H2 as Tb hand2 b2 eM es lT lr => ?_)
  · refine ⟨_, rfl, _, _, rfl, rfl, _, rfl, _, _, rfl, rfl, by show 2 ≤ sizeLine; decide, fun t nt => ?_⟩
    have st := same_new nt (.tup [.int (9 + (i : Int)), .int (30 + (i : Int))])
    exact k t [9 + (i : Int), 30 + (i : Int)] _ (hand8.same st) (But.of st) upd_same rfl
  have nM0 : H M = none := by
    cases e : H M with
    | none => rfl
    | some o =>
      by_cases hm : M = h
      · exact absurd hm (hand1.free nM).1
      · rw [b1 _ _ e hm] at nM
        cases nM
  have nMh := hand1.free nM
  have b02 := b1.trans b2
  -- at, to
  refine ⟨_, rfl, _, rfl, h, d, ns, _, rfl, hand2, by omega, fun H3 x x0 x1 hand3 b3 => ?_⟩
  refine ⟨_, rfl, _, rfl, h, d, ns, _, rfl, hand3, by omega, fun H4 y y0 y1 hand4 b4 => ?_⟩
  obtain ⟨x, rfl⟩ : ∃ n : Nat, x = n := ⟨x.toNat, by omega⟩
  obtain ⟨y, rfl⟩ : ∃ n : Nat, y = n := ⟨y.toNat, by omega⟩
  have b24 := b3.trans b4
  have eM4 := b24 _ _ eM nMh.1
  have es4 : Each (RowAt H4) as Tb := es.imp fun a r e => b24.tup hand2 e
  have las : as.length = m := es.1.trans lT
  -- rows[at] = ..
  refine ⟨_, rfl, h, d, ns, 2, rfl, hand4, by decide, fun H5 p p0 p1 hand5 b5 => ?_⟩
  refine ⟨_, rfl, h, d, ns, 2, rfl, hand5, by decide, fun H6 p' p'0 p'1 hand6 b6 => ⟨by show 2 ≤ sizeLine; decide, fun t1 n1 => ?_⟩⟩
  have b46 := b5.trans b6
  have s6 := same_new n1 (.tup [.int p, .int p'])
  have eM6 := s6 _ _ (b46 _ _ eM4 nMh.1)
  have r6 : RowAt (upd H6 t1 (.tup [.int p, .int p'])) t1 [p, p'] := upd_same
  have hand6' := hand6.same s6
  generalize hq6 : upd H6 t1 (.tup [.int p, .int p']) = H6' at s6 eM6 r6 hand6'
  clear hq6
  have es6 : Each (RowAt H6') as Tb := es4.imp fun a r e => s6 _ _ (b46.tup hand4 e)
  refine ⟨_, rfl, _, rfl, M, _, _, x, rfl, rfl, eM6, ixN_j (by rw [List.length_map]; omega), ?_⟩
  have e7 : (upd H6' M (.lst ((as.map V.ref).set x (.ref t1)))) M = some (.lst ((as.set x t1).map V.ref)) := by rw [upd_same, List.map_set]
  have hand7 : Hand (upd H6' M (.lst ((as.map V.ref).set x (.ref t1)))) h d ns := hand6'.put nMh.1 nMh.2
  have b07 : But h H (upd H6' M (.lst ((as.map V.ref).set x (.ref t1)))) := (((b02.trans b24).trans b46).trans (But.of s6)).write nM0
  have es7 : Each (RowAt (upd H6' M (.lst ((as.map V.ref).set x (.ref t1))))) (as.set x t1) (Tb.set x [p, p']) := (es6.set x r6).imp fun a r e => keep_at e eM6 (by intro z; cases z)
  generalize hq7 : upd H6' M (.lst ((as.map V.ref).set x (.ref t1))) = H7 at e7 hand7 b07 es7
  clear hq7
  generalize has1 : as.set x t1 = as1 at e7 es7
  have las1 : as1.length = m := by rw [← has1, List.length_set]; exact las
  clear has1
  obtain ⟨T1, hT1, lT1, cT1⟩ : ∃ T1, T1 = Tb.set x [p, p'] ∧ T1.length = m ∧ ∀ r ∈ T1, r.length = 2 := ⟨_, rfl, by rw [List.length_set]; exact lT, fun r hr => by
    rcases List.mem_or_eq_of_mem_set hr with hr | hr
    · exact lr r hr
    · rw [hr]
      rfl⟩
  rw [← hT1] at es7
  clear hT1
  -- rows[to] = ..
  refine ⟨_, rfl, h, d, ns, 2, rfl, hand7, by decide, fun H8 p p0 p1 hand8 b8 => ?_⟩
  refine ⟨_, rfl, h, d, ns, 2, rfl, hand8, by decide, fun H9 p' p'0 p'1 hand9 b9 => ⟨by show 2 ≤ sizeLine; decide, fun t2 n2 => ?_⟩⟩
  have b79 := b8.trans b9
  have s9 := same_new n2 (.tup [.int p, .int p'])
  have eM9 := s9 _ _ (b79 _ _ e7 nMh.1)
  have r9 : RowAt (upd H9 t2 (.tup [.int p, .int p'])) t2 [p, p'] := upd_same
  have hand9' := hand9.same s9
  generalize hq9 : upd H9 t2 (.tup [.int p, .int p']) = H9' at s9 eM9 r9 hand9'
  clear hq9
  have es9 : Each (RowAt H9') as1 T1 := es7.imp fun a r e => s9 _ _ (b79.tup hand7 e)
  refine ⟨_, rfl, _, rfl, M, _, _, y, rfl, rfl, eM9, ixN_j (by rw [List.length_map]; omega), ?_⟩
  have e10 : (upd H9' M (.lst ((as1.map V.ref).set y (.ref t2)))) M = some (.lst ((as1.set y t2).map V.ref)) := by rw [upd_same, List.map_set]
  have hand10 : Hand (upd H9' M (.lst ((as1.map V.ref).set y (.ref t2)))) h d ns := hand9'.put nMh.1 nMh.2
  have b010 : But h H (upd H9' M (.lst ((as1.map V.ref).set y (.ref t2)))) := ((b07.trans b79).trans (But.of s9)).write nM0
  have es10 : Each (RowAt (upd H9' M (.lst ((as1.map V.ref).set y (.ref t2))))) (as1.set y t2) (T1.set y [p, p']) := (es9.set y r9).imp fun a r e => keep_at e eM9 (by intro z; cases z)
  generalize hq10 : upd H9' M (.lst ((as1.map V.ref).set y (.ref t2))) = H10 at e10 hand10 b010 es10
  clear hq10
  generalize has2 : as1.set y t2 = as2 at e10 es10
  have las2 : as2.length = m := by rw [← has2, List.length_set]; exact las1
  clear has2
  obtain ⟨T2, hT2, lT2, cT2⟩ : ∃ T2, T2 = T1.set y [p, p'] ∧ T2.length = m ∧ ∀ r ∈ T2, r.length = 2 := ⟨_, rfl, by rw [List.length_set]; exact lT1, fun r hr => by
    rcases List.mem_or_eq_of_mem_set hr with hr | hr
    · exact cT1 r hr
    · rw [hr]
      rfl⟩
  rw [← hT2] at es10
  clear hT2
  -- turned?
  refine ⟨_, rfl, h, d, ns, 2, rfl, hand10, by decide, fun H11 u u0 u1 hand11 b11 => ⟨rfl, _, rfl, ite2 (fun e => ?_) (fun e => ?_)⟩⟩
  all_goals have b011 := b010.trans b11
  all_goals have e11 := b11 _ _ e10 nMh.1
  all_goals have es11 : Each (RowAt H11) as2 T2 := es10.imp fun a r e => b11.tup hand10 e
  · refine ⟨_, rfl, by omega, by omega, fun M2 nM2 => ?_⟩
    refine tab_lc (m := 2) (n := m) (slot := 6) hand11 nM2 (by omega) (fun _ => rfl) (fun i H8 hi hand8 b8 Q' k => ?_) (fun H12 as3 T3 hand12 b12 eM2 es3 lT3 lr3 => ?_)
    · have eM8 := b8 _ _ e11 nMh.1
      have es8 : Each (RowAt H8) as2 T2 := es11.imp fun a r e => b8.tup hand11 e
      refine ⟨_, rfl, M, rfl, ⟨_, SqL.of eM8⟩, fun M3 nM3 => lc_list (K := K) (a := M) (xs := as2.map V.ref) (fun j H9 => ∃ r : List Int, H9 = upd H8 M3 (.lst (r.map V.int)) ∧ r.length = j)
        ⟨[], rfl, rfl⟩ (fun j H9 _ p => by obtain ⟨r, rfl, _⟩ := p; exact SqL.of (same_new nM3 _ _ _ eM8)) ?_ ?_⟩
      · rintro j va H9 hj ⟨r, rfl, ljr⟩
        obtain ⟨a, ha, rfl⟩ := get_ref hj
        obtain ⟨rw, hrw, hra⟩ := es8.get ha
        have lrw := cT2 rw (List.mem_of_getElem? hrw)
        obtain ⟨ze, hze⟩ := get_of_lt (l := rw) (i := i) (by omega)
        have lj := lt_of_get ha
        refine ⟨rfl, yes_go ⟨_, rfl, _, rfl, a, _, _, .int ze, rfl, rfl, SqT.of (same_new nM3 _ _ _ hra), atI_nat (by rw [List.getElem?_map, hze]; rfl), _, upd_same, by rw [List.length_map]; exact small1000 (by omega), r ++ [ze], ?_, ?_⟩⟩
        · rw [upd_upd, List.map_append]
          rfl
        · rw [List.length_append, ljr]
          rfl
      · rintro H9 ⟨r, rfl, ljr⟩
        refine ⟨M3, _, rfl, .inl ⟨SqL.of upd_same, fun t nt => ?_⟩⟩
        have st := (same_new nM3 (.lst (r.map V.int))).trans (same_new nt (.tup (r.map V.int)))
        exact k t r _ (hand8.same st) (But.of st) upd_same (by rw [ljr, List.length_map]; exact las2)
    · refine ⟨M2, _, rfl, .inl ⟨SqL.of eM2, fun t nt => ?_⟩⟩
      have st := same_new nt (.tup (as3.map V.ref))
      exact q _ t T3 2 m (hand12.same st) ((b011.trans b12).trans (But.of st)) (tab_new nt es3) ⟨lT3, lr3, by omega, by omega, by omega, by omega⟩ (by omega)
  · refine ⟨_, rfl, M, _, rfl, .inl ⟨SqL.of e11, fun t nt => ?_⟩⟩
    have st := same_new nt (.tup (as2.map V.ref))
    exact q _ t T2 m 2 (hand11.same st) (b011.trans (But.of st)) (tab_new nt es11) ⟨lT2, cT2, by omega, by omega, by omega, by omega⟩ (by omega)
end
end K9
set_option Elab.async false
set_option linter.all false
set_option maxRecDepth 100000
set_option maxHeartbeats 16000000
namespace K9
open PySem PySem.Spec PyProof.Rows L2
abbrev gRow (r : List Int) : Option (List V) := some (r.map V.int)
theorem no_okTab {T : List (List Int)} {X Y n : Nat} {o : Option (List V)} (R : Rect T X Y) (h : ¬ okRow Y o) : ¬ okTab ((T.take n).map gRow ++ [o] ++ (T.drop n).map gRow) := by
  rintro ⟨_, _, ys0, _, all⟩
  have x0 := R.x0
  have rw0 := R.rows
  obtain ⟨r, hr⟩ := get_of_lt (l := T) (i := 0) (by omega)
  have hm := List.mem_of_getElem? hr
  have lr := R.cols r hm
  have hs : gRow r ∈ (T.take n).map gRow ++ [o] ++ (T.drop n).map gRow := by
    rw [← List.take_append_drop n T] at hm
    rcases List.mem_append.mp hm with hm | hm
    · exact List.mem_append_left _ (List.mem_append_left _ (List.mem_map_of_mem hm))
    · exact List.mem_append_right _ (List.mem_map_of_mem hm)
  have k1 := all _ hs
  have k2 := all o (List.mem_append_left _ (List.mem_append_right _ (List.mem_singleton.mpr rfl)))
  have e : ys0.length = Y := by
    have : (r.map V.int).length = ys0.length := k1.2.2.1
    rw [List.length_map] at this
    omega
  rw [e] at k2
  exact h k2
theorem row_is {H : Hp} {a : Addr} {r : List Int} (h : RowAt H a r) (l : r.length ≤ 200) : RowIs H (.ref a) (gRow r) :=
  ⟨a, rfl, h, fun y hy => by
    obtain ⟨z, _, ez⟩ := List.mem_map.mp hy
    exact .inr (.inl ⟨z, ez.symm⟩), by rw [List.length_map]; exact l⟩
theorem rows_is {H : Hp} {as : List Addr} {T : List (List Int)} (h : Each (RowAt H) as T) (l : ∀ r ∈ T, r.length ≤ 200) : Each (fun x o => RowIs H x o) (as.map V.ref) (T.map gRow) := by
  refine ⟨by rw [List.length_map, List.length_map, h.1], fun i x o e1 e2 => ?_⟩
  obtain ⟨a, ha, rfl⟩ := get_ref e1
  obtain ⟨r, hr, hra⟩ := h.get ha
  rw [List.getElem?_map, hr] at e2
  have e2 : gRow r = o := Option.some.inj e2
  subst e2
  exact row_is hra (l r (List.mem_of_getElem? hr))
theorem repA {K : PySem.W.Frag} {H : Hp} {l : Addr} {x : V} {n : Nat} {Q : VK} (hl : H l = some (.tup [x])) (h1 : 1 ≤ n) (h2 : n ≤ 1000) (k : ∀ (H' : Hp) (b : Addr), Same H H' → H' b = some (.tup (List.replicate n x)) → Q (.ref b) H') : rRepA K (.ref l) (vN n) H Q := by
  refine ⟨l, n, [x], rfl, rfl, SqT.of hl, by simp, by omega, by omega, by simp, fun e => ?_, fun _ p np => ?_⟩
  · have e : n = 1 := by omega
    subst e
    exact k H l (Same.refl H) hl
  · refine k _ p (same_new np _) ?_
    rw [upd_same, Int.toNat_natCast]
    congr 2
    have : ∀ m : Nat, (List.replicate m [x]).flatten = List.replicate m x := by
      intro m
      induction m with
      | zero => rfl
      | succ m ih => rw [List.replicate_succ, List.flatten_cons, ih, List.replicate_succ]; rfl
    exact this n
theorem no_all {x : V} {Y : Nat} (h : isI x = false) (y0 : 0 < Y) : ¬ okRow Y (some (List.replicate Y x)) := by
  rintro ⟨_, _, _, a⟩
  have := List.all_eq_true.mp a x (List.mem_replicate.mpr ⟨by omega, rfl⟩)
  rw [h] at this
  cases this
theorem rep_is {H : Hp} {a : Addr} {x : V} {Y : Nat} (h : H a = some (.tup (List.replicate Y x))) (l : Y ≤ 200) (f : Flat4 x) : RowIs H (.ref a) (some (List.replicate Y x)) :=
  ⟨a, rfl, h, fun y hy => by rw [(List.mem_replicate.mp hy).2]; exact f, by rw [List.length_replicate]; exact l⟩
def spNoTable : Sp := fun vs H Q _ => ∃ (h d ta : Addr) (ns : List Int) (T : List (List Int)) (X Y : Nat), vs = [.ref h, .ref ta] ∧ Hand H h d ns ∧ TabAt H ta T ∧ Rect T X Y ∧
  ∀ (H' : Hp) (v : V), Hand H' h d ns → But h H H' → NoTab H' v → Q v H'
section
variable {P : Program} {w : World} {K : PySem.W.Frag} {mg : Str → Option Value} {base : Heap}
theorem k_Lno (T : Bt mg) (c_Ltake : C8.Cal P w K mg base 1 "_law_take" spTake []) (D : DefAt K mg "_law_no_table" s_Lno_table ["_law_hand", "_law_table"]) : C8.Cal P w K mg base 2 "_law_no_table" spNoTable [] := by
  refine D.cal sc_Lno_table (fun vs H Q E h => ?_) (fun f cdv A outer s H vs Q E hr h => ?_)
  · obtain ⟨h, d, ta, ns, Tb, X, Y, rfl, _⟩ := h
    rfl
  obtain ⟨h, d, ta, ns, Tb, X, Y, rfl, hand, hT, RT, q⟩ := h
  refine ⟨_, pss_cons (ps_set (i := 2) sc_Lno_table.nd rfl (Or.inl rfl) (pe_callB call_len_seq rfl T.len PySem.boot_len (pa_cons (pe_ix ix_tup (pv 1) pe_int (fun _ _ => rfl)) pa_nil)))
      (pss_cons (ps_set (i := 3) sc_Lno_table.nd rfl (Or.inl rfl) (pe_lst (pa_cons (pe_op op_catA (pe_ix ix_tup (pv 1) pe_int (fun _ _ => rfl)) (pe_tup (pa_cons pe_int pa_nil))) (pa_cons (pe_slice sl_tupA (pe_ix ix_tup (pv 1) pe_int (fun _ _ => rfl)) (po_some pe_int) po_none) (pa_cons (pe_op op_repA (pe_tup (pa_cons pe_bl pa_nil)) (pv 2)) (pa_cons (pe_op op_repA (pe_tup (pa_cons pe_non pa_nil)) (pv 2)) (pa_cons (pe_callTy call_list_of rfl T.list (by decide +kernel) (pa_cons (pe_ix ix_tup (pv 1) pe_int (fun _ _ => rfl)) pa_nil)) (pa_cons pe_non (pa_cons (pe_op op_repA (pe_tup (pa_cons pe_str pa_nil)) (pv 2)) pa_nil)))))))))
      (pss_cons (ps_set (i := 4) sc_Lno_table.nd rfl (Or.inl rfl) (C8.pe_c c_Ltake hr (by decide) rfl (pa_cons (pv 0) (pa_cons (pe_op op_add (pe_callB call_len_seq rfl T.len PySem.boot_len (pa_cons (pv 1) pa_nil)) pe_int) pa_nil))))
      (pss_cons (ps_set (i := 5) sc_Lno_table.nd rfl (Or.inl rfl) (pe_lst (pa_cons (pe_tup pa_nil) (pa_cons (pe_tup (pa_cons (pe_tup pa_nil) pa_nil)) (pa_cons (pe_callTy call_list_of rfl T.list (by decide +kernel) (pa_cons (pv 1) pa_nil)) (pa_cons pe_non (pa_cons pe_int (pa_cons pe_str (pa_cons (pe_tup (pa_cons (pe_op op_repA (pe_tup (pa_cons pe_int pa_nil)) pe_int) pa_nil)) (pa_cons (pe_op op_repA (pe_tup (pa_cons (pe_tup (pa_cons pe_int pa_nil)) pa_nil)) pe_int) pa_nil))))))))))
      (pss_cons (ps_set (i := 6) sc_Lno_table.nd rfl (Or.inl rfl) (C8.pe_c c_Ltake hr (by decide) rfl (pa_cons (pv 0) (pa_cons pe_int pa_nil))))
      (pss_cons (ps_if (pt_cmpR op_lt (pv 6) pe_int (nomark _))
        (pss_one (ps_ret (pe_ix ix_list (pv 5) (pv 6) (fun _ _ => rfl))))
        pss_nil)
      (pss_one (ps_ret (pe_op op_catA (pe_op op_catA (pe_slice sl_tupA (pv 1) po_none (po_some (pv 4))) (pe_tup (pa_cons (pe_ix ix_list (pv 3) (pe_op op_sub (pv 6) pe_int) (fun _ _ => rfl)) pa_nil))) (pe_slice sl_tupA (pv 1) (po_some (pv 4)) po_none))))))))), ?_⟩
  obtain ⟨as, h1, es⟩ := hT.each
  have las : as.length = X := es.1.trans RT.rows
  have xm := RT.xm
  have ym := RT.ym
  have x0 := RT.x0
  have y0 := RT.y0
  have rw0 := RT.rows
  obtain ⟨a0, ha0⟩ := get_of_lt (l := as) (i := 0) (by omega)
  obtain ⟨r0, hr0, hra0⟩ := es.get ha0
  have lr0 := RT.cols r0 (List.mem_of_getElem? hr0)
  have at0 : atI (as.map V.ref) 0 = some (.ref a0) := atI_nat (j := 0) (by rw [List.getElem?_map, ha0]; rfl)
  -- wide
  refine ⟨_, rfl, ta, _, _, _, rfl, rfl, SqT.of h1, at0, a0, _, rfl, .inr (SqT.of hra0), ?_⟩
  have eY : V.int ((r0.map V.int).length : Int) = vN Y := by rw [List.length_map, lr0]
  rw [eY]
  -- rows
  refine ⟨_, rfl, ta, _, _, _, rfl, rfl, SqT.of h1, at0, by show 1 ≤ sizeLine; decide, fun u0 m0 => ?_⟩
  have s0 := same_new m0 (.tup [.int 0])
  refine catA (s0 _ _ hra0) upd_same (by rw [List.length_map, List.length_singleton]; omega) fun H1 p0 s1 e0 => ?_
  have t1 := s0.trans s1
  refine ⟨_, rfl, ta, _, _, _, rfl, rfl, SqT.of (t1 _ _ h1), at0, _, rfl, ?_⟩
  dsimp only [tNoPart]
  refine slA (t1 _ _ hra0) fun H2 p1 s2 e1 => ?_
  have e1 : H2 p1 = some (.tup (cutV (r0.map V.int) (some ((1 : Nat) : Int)) none)) := e1
  rw [cut_from] at e1
  have t2 := t1.trans s2
  refine ⟨by show 1 ≤ sizeLine; decide, fun u2 m2 => ⟨_, rfl, ?_⟩⟩
  have s3 := same_new m2 (.tup [.bl true])
  refine repA upd_same (by omega) (by omega) fun H4 p2 s4 e2 => ?_
  have t4 := t2.trans (s3.trans s4)
  refine ⟨by show 1 ≤ sizeLine; decide, fun u3 m3 => ⟨_, rfl, ?_⟩⟩
  have s5 := same_new m3 (.tup [.non])
  refine repA upd_same (by omega) (by omega) fun H6 p3 s6 e3 => ?_
  have t6 := t4.trans (s5.trans s6)
  refine ⟨_, rfl, ta, _, _, _, rfl, rfl, SqT.of (t6 _ _ h1), at0, a0, _, rfl, .inr (SqT.of (t6 _ _ hra0)), fun p4 m4 => ?_⟩
  have s7 := same_new m4 (.lst (r0.map V.int))
  refine ⟨by show 1 ≤ sizeLine; decide, fun u6 m6 => ⟨_, rfl, ?_⟩⟩
  have s8 := same_new m6 (.tup [.str "0"])
  refine repA upd_same (by omega) (by omega) fun H9 p6 s9 e6 => ⟨by show 7 ≤ sizeLine; decide, fun lr nlr => ?_⟩
  have s10 := same_new nlr (.lst [.ref p0, .ref p1, .ref p2, .ref p3, .ref p4, .non, .ref p6])
  have s910 := s9.trans s10
  have s810 := s8.trans s910
  have s710 := s7.trans s810
  have s610 := s6.trans s710
  have f0 := ((s2.trans (s3.trans s4)).trans (s5.trans s610)) _ _ e0
  have f1 := ((s3.trans s4).trans (s5.trans s610)) _ _ e1
  have f2 := (s5.trans s610) _ _ e2
  have f3 := s710 _ _ e3
  have f4 := s810 _ _ (show (upd H6 p4 (.lst (r0.map V.int))) p4 = _ from upd_same)
  have f6 := s10 _ _ e6
  have f7 : (upd H9 lr (.lst [.ref p0, .ref p1, .ref p2, .ref p3, .ref p4, .non, .ref p6])) lr = some (.lst [.ref p0, .ref p1, .ref p2, .ref p3, .ref p4, .non, .ref p6]) := upd_same
  have sA := t6.trans s710
  have hand9 := hand.same (t6.trans (s7.trans (s8.trans s9)))
  have n4h : p4 ≠ h := ((hand.same t6).free m4).1
  have nlh : lr ≠ h := (hand9.free nlr).1
  have handA := hand9.same s10
  generalize hqA : upd H9 lr (.lst [.ref p0, .ref p1, .ref p2, .ref p3, .ref p4, .non, .ref p6]) = HA at sA f0 f1 f2 f3 f4 f6 f7 handA
  clear s910 s810 s710 s610 s10 s9 s8 s7 s6 s5 s4 s3 s2 t1 t2 t4 t6 hand9 e0 e1 e2 e3 e6 hqA
  -- at
  have h1A := sA _ _ h1
  refine ⟨_, rfl, _, rfl, ta, _, rfl, .inr (SqT.of h1A), _, _, rfl, rfl, h, d, ns, _, rfl, handA, by omega, fun HB z z0 z1 handB bB => ?_⟩
  rw [List.length_map, las] at z1
  obtain ⟨n, rfl⟩ : ∃ n : Nat, z = n := ⟨z.toNat, by omega⟩
  have bAB := (But.of (h := h) sA).trans bB
  have h1B := bAB.tup hand h1
  -- menu
  refine ⟨Nat.zero_le _, fun g0 k0 => ?_⟩
  have s0 := same_new k0 (.tup [])
  refine ⟨Nat.zero_le _, fun g1' k1' => ⟨by show 1 ≤ sizeLine; decide, fun g1 k1 => ?_⟩⟩
  have s1' := same_new k1' (.tup [])
  have s1 := same_new k1 (.tup [.ref g1'])
  have t1 := s0.trans (s1'.trans s1)
  refine ⟨_, rfl, ta, _, rfl, .inr (SqT.of (t1 _ _ h1B)), fun g2 k2 => ?_⟩
  have s2 := same_new k2 (.lst (as.map V.ref))
  refine ⟨by show 1 ≤ sizeLine; decide, fun g6'' k6'' => ?_⟩
  have s6'' := same_new k6'' (.tup [.int 0])
  dsimp only [tC]
  refine repA (n := 101) upd_same (by decide) (by decide) fun HC g6' s6' e6' => ⟨by show 1 ≤ sizeLine; decide, fun g6 k6 => ?_⟩
  have s6 := same_new k6 (.tup [.ref g6'])
  refine ⟨by show 1 ≤ sizeLine; decide, fun g7' k7' => ⟨by show 1 ≤ sizeLine; decide, fun g7'' k7'' => ?_⟩⟩
  have s7' := same_new k7' (.tup [.int 0])
  have s7'' := same_new k7'' (.tup [.ref g7'])
  dsimp only [tC]
  refine repA (n := 101) upd_same (by decide) (by decide) fun HD g7 s7 e7 => ⟨by show 8 ≤ sizeLine; decide, fun lm nlm => ?_⟩
  have s8 := same_new nlm (.lst [.ref g0, .ref g1, .ref g2, .non, .int 5, .str "01", .ref g6, .ref g7])
  have w7 := s7.trans s8
  have w7'' := s7''.trans w7
  have w7' := s7'.trans w7''
  have w6 := s6.trans w7'
  have w6' := s6'.trans w6
  have w6'' := s6''.trans w6'
  have w2 := s2.trans w6''
  have w1 := s1.trans w2
  have w1' := s1'.trans w1
  have w0 := s0.trans w1'
  have j0 := w1' _ _ (show (upd HB g0 (.tup [])) g0 = _ from upd_same)
  have j1' := w1 _ _ (show (upd (upd HB g0 (.tup [])) g1' (.tup [])) g1' = _ from upd_same)
  have j1 := w2 _ _ (show (upd (upd (upd HB g0 (.tup [])) g1' (.tup [])) g1 (.tup [.ref g1'])) g1 = _ from upd_same)
  have j2 := w6'' _ _ (show (upd (upd (upd (upd HB g0 (.tup [])) g1' (.tup [])) g1 (.tup [.ref g1'])) g2 (.lst (as.map V.ref))) g2 = _ from upd_same)
  have j6' := w6 _ _ e6'
  have j6 := w7' _ _ (show (upd HC g6 (.tup [.ref g6'])) g6 = _ from upd_same)
  have j7' := w7'' _ _ (show (upd (upd HC g6 (.tup [.ref g6'])) g7' (.tup [.int 0])) g7' = _ from upd_same)
  have j7 := s8 _ _ e7
  have j8 : (upd HD lm (.lst [.ref g0, .ref g1, .ref g2, .non, .int 5, .str "01", .ref g6, .ref g7])) lm = some (.lst [.ref g0, .ref g1, .ref g2, .non, .int 5, .str "01", .ref g6, .ref g7]) := upd_same
  have n2h : g2 ≠ h := ((handB.same t1).free k2).1
  have nmh : lm ≠ h := ((handB.same (t1.trans (s2.trans (s6''.trans (s6'.trans (s6.trans (s7'.trans (s7''.trans s7)))))))).free nlm).1
  have handE := handB.same w0
  generalize hqE : upd HD lm (.lst [.ref g0, .ref g1, .ref g2, .non, .int 5, .str "01", .ref g6, .ref g7]) = HE at w0 j0 j1' j1 j2 j6' j6 j7' j7 j8 handE
  clear hqE w7 w7'' w7' w6 w6' w6'' w2 w1 w1' s8 s7 s7'' s7' s6 s6' s6'' s2 t1 s1 s1' s0 e6' e7
  -- kind
  refine ⟨_, rfl, h, d, ns, _, rfl, handE, by decide, fun HF zk zk0 zk1 handF bF => ?_⟩
  have bBF := (But.of (h := h) w0).trans bF
  have bAF := bB.trans bBF
  have bF0 := bAB.trans bBF
  refine ⟨_, rfl, _, _, rfl, rfl, _, rfl, ite2 (fun e => ?_) (fun e => ?_)⟩
  · have z8 : zk < 8 := of_decide_eq_true e
    have i0 := bF.tup handE j0
    have i1' := bF.tup handE j1'
    have i1 := bF.tup handE j1
    have i2 := bF _ _ j2 n2h
    have i6' := bF.tup handE j6'
    have i6 := bF.tup handE j6
    have i7' := bF.tup handE j7'
    have i7 := bF.tup handE j7
    have i8 := bF _ _ j8 nmh
    obtain ⟨v, hv, nt⟩ : ∃ v, atI [V.ref g0, .ref g1, .ref g2, .non, .int 5, .str "01", .ref g6, .ref g7] zk = some v ∧ NoTab HF v := by
      rcases (show zk = 0 ∨ zk = 1 ∨ zk = 2 ∨ zk = 3 ∨ zk = 4 ∨ zk = 5 ∨ zk = 6 ∨ zk = 7 by omega) with e | e | e | e | e | e | e | e
      · refine ⟨_, at_of (j := 0) (by omega) rfl, .inr ⟨g0, [], [], rfl, i0, Each.nil, fun ok => ?_⟩⟩
        exact absurd ok.1 (by decide)
      · refine ⟨_, at_of (j := 1) (by omega) rfl, .inr ⟨g1, _, [some []], rfl, i1, Each.one ⟨g1', rfl, i1', fun y hy => (by cases hy), by decide⟩, fun ok => ?_⟩⟩
        obtain ⟨_, _, ys0, _, all⟩ := ok
        exact absurd (all _ (List.mem_singleton.mpr rfl)).1 (by decide)
      · exact ⟨_, at_of (j := 2) (by omega) rfl, .inl (.inr (.inr (.inr ⟨g2, _, rfl, i2⟩)))⟩
      · exact ⟨_, at_of (j := 3) (by omega) rfl, .inl (.inl rfl)⟩
      · exact ⟨_, at_of (j := 4) (by omega) rfl, .inl (.inr (.inl ⟨5, rfl⟩))⟩
      · exact ⟨_, at_of (j := 5) (by omega) rfl, .inl (.inr (.inr (.inl ⟨_, rfl⟩)))⟩
      · refine ⟨_, at_of (j := 6) (by omega) rfl, .inr ⟨g6, _, [some (List.replicate 101 (.int 0))], rfl, i6, Each.one (rep_is i6' (by decide) (.inr (.inl ⟨0, rfl⟩))), fun ok => ?_⟩⟩
        obtain ⟨_, _, ys0, _, all⟩ := ok
        have := (all _ (List.mem_singleton.mpr rfl)).2.1
        rw [List.length_replicate] at this
        omega
      · refine ⟨_, at_of (j := 7) (by omega) rfl, .inr ⟨g7, _, List.replicate 101 (some [.int 0]), rfl, i7, ⟨by rw [List.length_replicate, List.length_replicate], fun i x o e1 e2 => ?_⟩, fun ok => ?_⟩⟩
        · have q1 := (List.mem_replicate.mp (List.mem_of_getElem? e1)).2
          have q2 := (List.mem_replicate.mp (List.mem_of_getElem? e2)).2
          subst q1 q2
          exact ⟨g7', rfl, i7', fun y hy => by rw [List.mem_singleton.mp hy]; exact .inr (.inl ⟨0, rfl⟩), by decide⟩
        · have := ok.2.1
          rw [List.length_replicate] at this
          omega
    exact ⟨_, rfl, _, rfl, lm, _, _, v, rfl, rfl, SqL.of i8, hv, q HF v handF bF0 nt⟩
  -- a row that is none
  have z8 : ¬ zk < 8 := of_decide_eq_false (Bool.eq_false_iff.mpr e)
  have i0 := bAF.tup handA f0
  have i1 := bAF.tup handA f1
  have i2 := bAF.tup handA f2
  have i3 := bAF.tup handA f3
  have i4 := bAF _ _ f4 n4h
  have i6 := bAF.tup handA f6
  have i7 := bAF _ _ f7 nlh
  have h1F := bF0.tup hand h1
  obtain ⟨v, o, hv, nt, bad⟩ : ∃ v o, atI [V.ref p0, .ref p1, .ref p2, .ref p3, .ref p4, .non, .ref p6] (zk - 8) = some v ∧ RowIs HF v o ∧ ¬ okRow Y o := by
    rcases (show zk - 8 = 0 ∨ zk - 8 = 1 ∨ zk - 8 = 2 ∨ zk - 8 = 3 ∨ zk - 8 = 4 ∨ zk - 8 = 5 ∨ zk - 8 = 6 by omega) with e | e | e | e | e | e | e
    · refine ⟨_, gRow (r0 ++ [0]), at_of (j := 0) (by omega) rfl, row_is (by show HF p0 = _; rw [i0, List.map_append]; rfl) (by rw [List.length_append, List.length_singleton]; omega), fun ok => ?_⟩
      have := ok.2.2.1
      rw [List.length_map, List.length_append, List.length_singleton] at this
      omega
    · refine ⟨_, gRow (r0.drop 1), at_of (j := 1) (by omega) rfl, row_is i1 (by rw [List.length_drop]; omega), fun ok => ?_⟩
      have := ok.2.2.1
      rw [List.length_map, List.length_drop] at this
      omega
    · exact ⟨_, some (List.replicate Y (.bl true)), at_of (j := 2) (by omega) rfl, rep_is i2 (by omega) (.inr (.inr (.inl ⟨_, rfl⟩))), no_all rfl y0⟩
    · exact ⟨_, some (List.replicate Y .non), at_of (j := 3) (by omega) rfl, rep_is i3 (by omega) (.inl rfl), no_all rfl y0⟩
    · exact ⟨_, none, at_of (j := 4) (by omega) rfl, .inr (.inr (.inr ⟨p4, _, rfl, i4⟩)), fun ok => ok⟩
    · exact ⟨_, none, at_of (j := 5) (by omega) rfl, .inl rfl, fun ok => ok⟩
    · exact ⟨_, some (List.replicate Y (.str "0")), at_of (j := 6) (by omega) rfl, rep_is i6 (by omega) (.inr (.inr (.inr ⟨_, rfl⟩))), no_all rfl y0⟩
  have esF : Each (RowAt HF) as Tb := es.imp fun a r e => bF0.tup hand e
  refine ⟨_, rfl, _, rfl, _, rfl, slA h1F fun HG t1 s1 e1 => ?_⟩
  rw [cut_to] at e1
  refine ⟨_, rfl, _, rfl, _, _, rfl, rfl, lr, _, _, v, rfl, rfl, SqL.of (s1 _ _ i7), hv, by show 1 ≤ sizeLine; decide, fun t2 n2 => ?_⟩
  have s2 := same_new n2 (.tup [v])
  refine catA (s2 _ _ e1) upd_same (by rw [List.length_map, List.length_take, List.length_singleton]; omega) fun HH t3 s3 e3 => ?_
  have sFH := s1.trans (s2.trans s3)
  refine ⟨_, rfl, _, rfl, _, rfl, ?_⟩
  dsimp only [tNoPart]
  refine slA (sFH _ _ h1F) fun HI t4 s4 e4 => ?_
  rw [cut_from] at e4
  refine catA (s4 _ _ e3) e4 (by rw [List.length_append, List.length_map, List.length_map, List.length_take, List.length_singleton, List.length_drop]; omega) fun HJ t5 s5 e5 => ?_
  have sFJ := sFH.trans (s4.trans s5)
  have l200 : ∀ r ∈ Tb, r.length ≤ 200 := fun r hr => by
    have := RT.cols r hr
    omega
  have esJ : Each (RowAt HJ) as Tb := esF.imp fun a r e => sFJ _ _ e
  refine q HJ _ (handF.same sFJ) (bF0.trans (But.of sFJ)) (.inr ⟨t5, _, (Tb.take n).map gRow ++ [o] ++ (Tb.drop n).map gRow, rfl, e5, ?_, no_okTab RT bad⟩)
  exact ((rows_is (esJ.take n) fun r hr => l200 r (List.mem_of_mem_take hr)).append (Each.one (RowIs.same sFJ nt))).append (rows_is (esJ.drop n) fun r hr => l200 r (List.mem_of_mem_drop hr))
end
end K9
set_option Elab.async false
set_option linter.all false
set_option maxRecDepth 100000
set_option maxHeartbeats 16000000
namespace K9
open PySem PySem.Spec PyProof.Rows L2
/-- the other errors -/
structure Others (K : PySem.W.Frag) (mg : Str → Option Value) (cB : Addr) : Prop where
  o0 : ∃ c : Addr, mg "BadTalk" = some (.ref c) ∧ PySem.W.kitOne K (.ref cB) (.ref c) = some false
  o1 : ∃ c : Addr, mg "BadInputs" = some (.ref c) ∧ PySem.W.kitOne K (.ref cB) (.ref c) = some false
  o2 : ∃ c : Addr, mg "BadStructure" = some (.ref c) ∧ PySem.W.kitOne K (.ref cB) (.ref c) = some false
  o3 : ∃ c : Addr, mg "BadModulus" = some (.ref c) ∧ PySem.W.kitOne K (.ref cB) (.ref c) = some false
  o4 : ∃ c : Addr, mg "BadCoins" = some (.ref c) ∧ PySem.W.kitOne K (.ref cB) (.ref c) = some false
  o5 : ∃ c : Addr, mg "BadGroup" = some (.ref c) ∧ PySem.W.kitOne K (.ref cB) (.ref c) = some false
  o6 : ∃ c : Addr, mg "BadLies" = some (.ref c) ∧ PySem.W.kitOne K (.ref cB) (.ref c) = some false
  o7 : ∃ c : Addr, mg "BadTurn" = some (.ref c) ∧ PySem.W.kitOne K (.ref cB) (.ref c) = some false
/-- a reading under a premise -/
theorem pe_given {X : Cx} {e : Expr} {t : TE} {G : Prop} (h : G → PE X e t) : PE X e (fun σ H Q => G ∧ t σ H Q) := ⟨fun pins s σ H Q I hw => (h hw.1).run pins s σ H Q I hw.2⟩
/-- try: .. except .. as e: .., as a reading of its own -/
def tTryA (K : PySem.W.Frag) (c : Value) (i : Nat) (ts : Addr → Value → Option Addr → TS) (Wout : WX) (tb : WX → TS) : TS := fun D σ H => tb (wAs K c i ts Wout D) D σ H
theorem ps_tryA {X : Cx} {x n : Str} {c : Value} {i : Nat} {body suite : List Stmt} {b₀ : Stmt} {np pos pos' : Pos} {tb : WX → TS} {ts : Addr → Value → Option Addr → TS} {Wout : WX}
    (e1 : X.stack = X.env :: X.outer) (e2 : X.env.frame = some X.env.locals) (e3 : X.N.Nodup) (e4 : X.N[i]? = some n) (e5 : X.env.kindOf n = some .local) (e6 : Names X x c) (tk : Takes X Wout)
    (b : ∀ (W : WX) (pn : List (Addr × Obj)) (xe : Value → Shared → Prop), Takes (X.tr pn xe) W → PassesOwn (model X.prog X.w) X.A X.env xe → PSs (X.tr pn xe) body (tb W))
    (su : ∀ (a : Addr) (oe : Obj) (cls : Value) (d : Option Addr) (pn : List (Addr × Obj)), Zc cls d oe → (∃ vs, oe.data = .fields vs) → PSs (X.suite a ((a, oe) :: pn)) (b₀ :: suite) (ts a cls d)) :
    PS X (.Try body [.ExceptHandler (some (.Name x np)) (some n) (b₀ :: suite) pos'] [] [] pos) (tTryA X.K c i ts Wout tb) := ps_try_as e1 e2 e3 e4 e5 e6 tk b su
def spLref : Sp := fun vs H Q _ => ∃ v u, vs = [v, u] ∧ Refused H v ∧ ∀ H' : Hp, Same H H' → Q (.bl true) H'
section
variable {P : Program} {w : World} {K : PySem.W.Frag} {mg : Str → Option Value} {base : Heap} {cB : Addr}
theorem alone_ok (T : Bt mg) (EC : ExcC K cB) (O : Others K mg cB) {a f : Addr} {oe : Obj} (hz : Zc (.ref cB) none oe) (hf : ∃ vs, oe.data = .fields vs) (cdv : Value) (A : Around) (outer : List Env) (s : Shared) (H : Hp) (Q : VK)
    (q : ∀ H' : Hp, Same H H' → Q (.bl true) H') : ∃ t, PSs (L2H.cxH L2.CX0 P w K mg base ["_law_e", "_law_kinds"] "_law_is_alone" (defScope s_Lis_alone) f cdv A outer s H L2.E0 (a, oe)) (defBody s_Lis_alone) t ∧
      t { nx := fun _ H' => Q .non H', rt := Q } (start ["_law_e", "_law_kinds"] [.ref a]) H := by
  obtain ⟨c0, g0, k0⟩ := O.o0
  obtain ⟨c1, g1, k1⟩ := O.o1
  obtain ⟨c2, g2, k2⟩ := O.o2
  obtain ⟨c3, g3, k3⟩ := O.o3
  obtain ⟨c4, g4, k4⟩ := O.o4
  obtain ⟨c5, g5, k5⟩ := O.o5
  obtain ⟨c6, g6, k6⟩ := O.o6
  obtain ⟨c7, g7, k7⟩ := O.o7
  refine ⟨_, pss_cons (ps_set (i := 1) sc_Lis_alone.nd rfl (Or.inl rfl) (pe_lst (pa_cons (pe_callB (call_isHot (D := cB) (a := a) (oe := oe) List.mem_cons_self EC hz hf) rfl T.isinstance (by decide +kernel) (pa_cons (pv 0) (pa_cons (C8.pe_gc (v := .ref c0) rfl ⟨_, g0, rfl⟩) pa_nil))) (pa_cons (pe_callB (call_isHot (D := cB) (a := a) (oe := oe) List.mem_cons_self EC hz hf) rfl T.isinstance (by decide +kernel) (pa_cons (pv 0) (pa_cons (C8.pe_gc (v := .ref c1) rfl ⟨_, g1, rfl⟩) pa_nil))) (pa_cons (pe_callB (call_isHot (D := cB) (a := a) (oe := oe) List.mem_cons_self EC hz hf) rfl T.isinstance (by decide +kernel) (pa_cons (pv 0) (pa_cons (C8.pe_gc (v := .ref c2) rfl ⟨_, g2, rfl⟩) pa_nil))) (pa_cons (pe_callB (call_isHot (D := cB) (a := a) (oe := oe) List.mem_cons_self EC hz hf) rfl T.isinstance (by decide +kernel) (pa_cons (pv 0) (pa_cons (C8.pe_gc (v := .ref c3) rfl ⟨_, g3, rfl⟩) pa_nil))) pa_nil))))))
      (pss_cons (ps_set (i := 1) sc_Lis_alone.nd rfl (Or.inl rfl) (pe_op op_cat (pv 1) (pe_lst (pa_cons (pe_callB (call_isHot (D := cB) (a := a) (oe := oe) List.mem_cons_self EC hz hf) rfl T.isinstance (by decide +kernel) (pa_cons (pv 0) (pa_cons (C8.pe_gc (v := .ref c4) rfl ⟨_, g4, rfl⟩) pa_nil))) (pa_cons (pe_callB (call_isHot (D := cB) (a := a) (oe := oe) List.mem_cons_self EC hz hf) rfl T.isinstance (by decide +kernel) (pa_cons (pv 0) (pa_cons (C8.pe_gc (v := .ref c5) rfl ⟨_, g5, rfl⟩) pa_nil))) (pa_cons (pe_callB (call_isHot (D := cB) (a := a) (oe := oe) List.mem_cons_self EC hz hf) rfl T.isinstance (by decide +kernel) (pa_cons (pv 0) (pa_cons (C8.pe_gc (v := .ref c6) rfl ⟨_, g6, rfl⟩) pa_nil))) (pa_cons (pe_callB (call_isHot (D := cB) (a := a) (oe := oe) List.mem_cons_self EC hz hf) rfl T.isinstance (by decide +kernel) (pa_cons (pv 0) (pa_cons (C8.pe_gc (v := .ref c7) rfl ⟨_, g7, rfl⟩) pa_nil))) pa_nil)))))))
      (pss_one (ps_ret (pe_cmpR op_notIn_seq pe_bl (pv 1) (by rfl))))), ?_⟩
  refine ⟨_, rfl, _, _, _, rfl, (fun _ r => r), k0, _, rfl, _, _, _, rfl, (fun _ r => r), k1, _, rfl, _, _, _, rfl, (fun _ r => r), k2, _, rfl, _, _, _, rfl, (fun _ r => r), k3, by show 4 ≤ sizeLine; decide, fun l1 n1 => ?_⟩
  have s1 := same_new n1 (.lst [.bl false, .bl false, .bl false, .bl false])
  have e1 : (upd H l1 (.lst [.bl false, .bl false, .bl false, .bl false])) l1 = some (.lst [.bl false, .bl false, .bl false, .bl false]) := upd_same
  refine ⟨_, rfl, _, rfl, _, _, _, rfl, (fun _ r => r), k4, _, rfl, _, _, _, rfl, (fun _ r => r), k5, _, rfl, _, _, _, rfl, (fun _ r => r), k6, _, rfl, _, _, _, rfl, (fun _ r => r), k7, by show 4 ≤ sizeLine; decide, fun l2 n2 => ?_⟩
  have s2 := same_new n2 (.lst [.bl false, .bl false, .bl false, .bl false])
  refine ⟨l1, l2, _, _, rfl, rfl, s2 _ _ e1, upd_same, by show 8 ≤ sizeLine; decide, fun l3 n3 => ?_⟩
  refine ⟨_, rfl, l3, _, rfl, .inl (SqL.of upd_same), rfl, rfl, ?_⟩
  exact q _ (s1.trans (s2.trans (same_new n3 _)))
theorem k_Lrefused (T : Bt mg) (B : BadC K mg cB) (EC : ExcC K cB) (O : Others K mg cB) (DA : DefAt K mg "_law_is_alone" s_Lis_alone ["_law_e"]) (c_talk_for : CalX P w K mg base 25 "talk_for" (spPtalk cB)) (c_last_part : CalX P w K mg base 6 "last_part" (spLast cB))
    (D : DefAt K mg "_law_is_refused" s_Lis_refused ["_law_value", "_law_inputs"]) : C8.Cal P w K mg base 26 "_law_is_refused" spLref [] := by
  refine D.cal sc_Lis_refused (fun vs H Q E h => ?_) (fun f cdv A outer s H vs Q E hr h => ?_)
  · obtain ⟨v, u, rfl, _⟩ := h
    rfl
  obtain ⟨v, u, rfl, rf, q⟩ := h
  obtain ⟨fA, fdA, FA, mA, bA⟩ := DA
  refine ⟨_, pss_cons (ps_for PassesOwn.never rfl (pi_range1 rfl T.range (pa_cons pe_int pa_nil)) (pg_name (i := 2) sc_Lis_refused.nd rfl (Or.inl rfl))
      (pss_one (ps_tryA (i := 3) (Wout := fun _ _ _ _ => False) (c := .ref cB)
        (ts := fun a cls d => tIfS (tNot (tB (fun σ H Q => (cls = .ref cB ∧ d = none) ∧ σ[3]? = some (some (.ref a)) ∧ ∀ H' : Hp, Same H H' → Q (.bl true) H'))) (tRet (tC (.bl false))) tNext) rfl rfl sc_Lis_refused.nd rfl rfl ⟨rfl, by decide, Or.inl B.gC⟩ takes0
        (fun W pn xe tk _ => pss_cons (ps_if (pt_cmpR op_eq (pv 2) pe_int (nomark _))
            (pss_one (ps_expr (pe_cX c_talk_for hr (by decide) tk rfl (pa_cons (pv 0) pa_nil))))
            (pss_one (ps_expr (pe_cX c_last_part hr (by decide) tk rfl (pa_cons (pv 0) (pa_cons (pv 1) pa_nil))))))
          (pss_one (ps_ret pe_bl)))
        (fun a oe cls d pn hz hf => pss_one (ps_if (pt_not (pt_val (pe_given (G := cls = .ref cB ∧ d = none) fun g => by
            obtain ⟨rfl, rfl⟩ := g
            exact pe_hot (N := ["_law_e", "_law_kinds"]) (st := s_Lis_alone) (y := "_law_e") (R := fun Q H => ∀ H' : Hp, Same H H' → Q (.bl true) H') FA sc_Lis_alone (L2H.roomH_of hr).depth rfl mA bA (pa_cons (pv 3) pa_nil)
              (fun cdv A outer s H Q q => alone_ok T EC O hz hf cdv A outer s H Q q)))) (pss_one (ps_ret pe_bl)) pss_nil)))))
      (pss_one (ps_ret pe_bl)), ?_⟩
  refine ⟨_, rfl, by decide, by decide, for_range (n := 2) (fun i σ H1 => ∃ v2, σ = [some v, some u, v2, none] ∧ Same H H1) ⟨none, rfl, Same.refl H⟩ ?_ ?_⟩
  · rintro i σ H1 hi ⟨v2, rfl, s1⟩
    rcases (show i = 0 ∨ i = 1 by omega) with rfl | rfl
    · refine ⟨_, rfl, rfl, _, rfl, ite2 (fun e => ?_) (fun e => absurd rfl (eq_no e))⟩
      refine ⟨_, rfl, v, rfl, .inl ⟨rf.same s1, fun H2 s2 => ⟨true, B.self, fun _ a0 na => ?_, fun z => Bool.noConfusion z⟩⟩⟩
      exact ⟨⟨rfl, rfl⟩, rfl, fun H3 s3 => ⟨_, rfl, iteF ⟨_, rfl, s1.trans (s2.trans s3)⟩⟩⟩
    · refine ⟨_, rfl, rfl, _, rfl, ite2 (fun e => absurd (V.int.inj (eq_yes e)) (by decide)) (fun e => ?_)⟩
      refine ⟨_, rfl, _, rfl, v, u, rfl, .inl ⟨rf.same s1, fun H2 s2 => ⟨true, B.self, fun _ a0 na => ?_, fun z => Bool.noConfusion z⟩⟩⟩
      exact ⟨⟨rfl, rfl⟩, rfl, fun H3 s3 => ⟨_, rfl, iteF ⟨_, rfl, s1.trans (s2.trans s3)⟩⟩⟩
  · rintro σ H1 ⟨v2, rfl, s1⟩
    exact q H1 s1
end
end K9
set_option Elab.async false
set_option linter.all false
set_option maxRecDepth 100000
set_option maxHeartbeats 16000000
namespace K9
open PySem PySem.Spec PyProof.Rows L2
theorem But.tn {h d a : Addr} {H H' : Hp} {ns : List Int} {L : List Nat} (b : But h H H') (k : Hand H h d ns) (t : TN H a L) : TN H' a L := by
  obtain ⟨z, h1, _⟩ := k
  have ne := t.ne h1
  obtain ⟨u, x, e⟩ := t
  exact ⟨u, x, b a _ e ne⟩
theorem nums_same {H : Hp} {a b : Addr} {L : List Nat} (h : Rd H a (.tup (L.map vN))) (k : Rd H b (.tup (L.map vN))) (l : L.length ≤ 1000) : SameAt 2 H (.ref a) (.ref b) := by
  refine .inr (.inr ⟨a, b, _, _, rfl, rfl, h, k, rfl, by rw [List.length_map]; exact l, fun i x y ex ey => ?_⟩)
  rw [ex] at ey
  cases ey
  obtain ⟨n, _, rfl⟩ := get_num ex
  exact int_same _
/-- a pair of the program's and one of the law's -/
theorem pair_same {H : Hp} {v : V} {b r c : Addr} {R C : List Nat} (h : PairAt H v R C) (k : H b = some (.tup [.ref r, .ref c])) (hr : TN H r R) (hc : TN H c C) (lR : R.length ≤ 1000) (lC : C.length ≤ 1000) : SameAt 3 H v (.ref b) := by
  obtain ⟨q, r', c', rfl, h1, h2, h3⟩ := h
  refine .inr (.inr ⟨q, b, _, _, rfl, rfl, .of h1, .of k, rfl, by show 2 ≤ 1000; decide, fun i x y ex ey => ?_⟩)
  match i, ex, ey with
  | 0, ex, ey =>
    cases (Option.some.inj ex : V.ref r' = x)
    cases (Option.some.inj ey : V.ref r = y)
    exact nums_same (.of h2) hr.rd lR
  | 1, ex, ey =>
    cases (Option.some.inj ex : V.ref c' = x)
    cases (Option.some.inj ey : V.ref c = y)
    exact nums_same (.of h3) hc.rd lC
  | i + 2, ex, _ => simp at ex
theorem count_mem {L : List Nat} {x : Nat} (h : (V.int (((L.map fun n : Nat => (n : Int)).count (x : Int) : Nat) : Int)) = V.int 1) : x ∈ L := by
  have h := V.int.inj h
  have : (x : Int) ∈ L.map fun n : Nat => (n : Int) := List.count_pos_iff.mp (by omega)
  obtain ⟨n, hn, e⟩ := List.mem_map.mp this
  have e : n = x := by omega
  rw [← e]
  exact hn
theorem up_len {n : Nat} : ∀ {L : List Nat} {lo : Nat}, L.Pairwise (· < ·) → (∀ x ∈ L, lo ≤ x ∧ x < n) → L.length + lo ≤ max lo n
  | [], lo, _, _ => by rw [List.length_nil]; omega
  | x :: L, lo, h, k => by
    have h2 := List.pairwise_cons.mp h
    have k1 := k x List.mem_cons_self
    have := up_len (n := n) (lo := x + 1) h2.2 fun y hy => ⟨h2.1 y hy, (k y (List.mem_cons_of_mem _ hy)).2⟩
    rw [List.length_cons]
    omega
def spTold : Sp := fun vs H Q _ => ∃ (h d ta : Addr) (ns : List Int) (T : List (List Int)) (X Y : Nat), vs = [.ref h, .ref ta] ∧ Hand H h d ns ∧ TabAt H ta T ∧ Rect T X Y ∧ X + Y ≤ 20 ∧
  ∀ H' : Hp, Hand H' h d ns → But h H H' → Q (.bl true) H'
section
variable {P : Program} {w : World} {K : PySem.W.Frag} {mg : Str → Option Value} {base : Heap} {cB : Addr}
theorem k_Ltold (T : Bt mg) (c_Ltake : C8.Cal P w K mg base 1 "_law_take" spTake []) (c_Lknot : C8.Cal P w K mg base 25 "_law_knot" spLknot []) (c_Lis_refused : C8.Cal P w K mg base 26 "_law_is_refused" spLref [])
    (c_Lsame : C8.Cal P w K mg base 26 "_law_same" (spSame 26) []) (c_talk_for : CalX P w K mg base 25 "talk_for" (spPtalk cB)) (c_Ltalk_for : C8.Cal P w K mg base 24 "_law_talk_for" spTalk []) (c_Lwhole_parts : C8.Cal P w K mg base 24 "_law_whole_parts" spLwhole [])
    (c_last_part : CalX P w K mg base 6 "last_part" (spLast cB)) (D : DefAt K mg "_law_told" s_Ltold ["_law_hand", "_law_table"]) : C8.Cal P w K mg base 27 "_law_told" spTold [] := by
  refine D.cal sc_Ltold (fun vs H Q E h => ?_) (fun f cdv A outer s H vs Q E hr h => ?_)
  · obtain ⟨h, d, ta, ns, Tb, X, Y, rfl, _⟩ := h
    rfl
  obtain ⟨h, d, ta, ns, Tb, X, Y, rfl, hand, hT, RT, le, q⟩ := h
  refine ⟨_, pss_cons (ps_set (i := 2) sc_Ltold.nd rfl (Or.inl rfl) (pe_tup (pa_cons (C8.pe_c c_Ltake hr (by decide) rfl (pa_cons (pv 0) (pa_cons (pe_callB call_len_seq rfl T.len PySem.boot_len (pa_cons (pv 1) pa_nil)) pa_nil))) (pa_cons (C8.pe_c c_Ltake hr (by decide) rfl (pa_cons (pv 0) (pa_cons (pe_callB call_len_seq rfl T.len PySem.boot_len (pa_cons (pe_ix ix_tup (pv 1) pe_int (fun _ _ => rfl)) pa_nil)) pa_nil))) pa_nil))))
      (pss_cons (ps_if (pt_cmpR op_notN (C8.pe_c c_Lknot hr (by decide) rfl (pa_cons (pv 1) pa_nil)) pe_non (nomark _))
        (pss_one (ps_ret (C8.pe_c c_Lis_refused hr (by decide) rfl (pa_cons (pv 1) (pa_cons (pv 2) pa_nil)))))
        pss_nil)
      (pss_cons (ps_if (pt_not (pt_val (C8.pe_c c_Lsame hr (by decide) rfl (pa_cons (pe_cN c_talk_for hr (by decide) rfl (pa_cons (pv 1) pa_nil)) (pa_cons (C8.pe_c c_Ltalk_for hr (by decide) rfl (pa_cons (pv 1) pa_nil)) pa_nil)))))
        (pss_one (ps_ret pe_bl))
        pss_nil)
      (pss_cons (ps_set (i := 3) sc_Ltold.nd rfl (Or.inl rfl) (C8.pe_c c_Lwhole_parts hr (by decide) rfl (pa_cons (pv 1) pa_nil)))
      (pss_cons (ps_for PassesOwn.never rfl (pi_list (pv 3)) (pg_name (i := 4) sc_Ltold.nd rfl (Or.inl rfl))
        (pss_one (ps_if (PW.pt (pw_and (pt_cmpR op_eq (pe_cnt (pe_ix ix_tup (pv 4) pe_int (fun _ _ => rfl)) (pa_cons (pe_ix ix_tup (pv 2) pe_int (fun _ _ => rfl)) pa_nil)) pe_int (nomark _)) (pw_and1 (pt_cmpR op_eq (pe_cnt (pe_ix ix_tup (pv 4) pe_int (fun _ _ => rfl)) (pa_cons (pe_ix ix_tup (pv 2) pe_int (fun _ _ => rfl)) pa_nil)) pe_int (nomark _)))))
          (pss_one (ps_if (pt_not (pt_val (C8.pe_c c_Lsame hr (by decide) rfl (pa_cons (pe_cN c_last_part hr (by decide) rfl (pa_cons (pv 1) (pa_cons (pv 2) pa_nil))) (pa_cons (pe_slice sl_tupA (pv 4) (po_some pe_int) po_none) pa_nil)))))
            (pss_one (ps_ret pe_bl))
            pss_nil))
          pss_nil)))
      (pss_cons (ps_set (i := 4) sc_Ltold.nd rfl (Or.inl rfl) (pe_ix ix_list (pv 3) pe_int (fun _ _ => rfl)))
      (pss_cons (ps_set (i := 2) sc_Ltold.nd rfl (Or.inl rfl) (pe_tup (pa_cons (pe_ix ix_tup (pe_ix ix_tup (pv 4) pe_int (fun _ _ => rfl)) (C8.pe_c c_Ltake hr (by decide) rfl (pa_cons (pv 0) (pa_cons (pe_callB call_len_seq rfl T.len PySem.boot_len (pa_cons (pe_ix ix_tup (pv 4) pe_int (fun _ _ => rfl)) pa_nil)) pa_nil))) (fun _ _ => rfl)) (pa_cons (pe_ix ix_tup (pe_ix ix_tup (pv 4) pe_int (fun _ _ => rfl)) (C8.pe_c c_Ltake hr (by decide) rfl (pa_cons (pv 0) (pa_cons (pe_callB call_len_seq rfl T.len PySem.boot_len (pa_cons (pe_ix ix_tup (pv 4) pe_int (fun _ _ => rfl)) pa_nil)) pa_nil))) (fun _ _ => rfl)) pa_nil))))
      (pss_one (ps_ret (C8.pe_c c_Lsame hr (by decide) rfl (pa_cons (pe_cN c_last_part hr (by decide) rfl (pa_cons (pv 1) (pa_cons (pv 2) pa_nil))) (pa_cons (pe_slice sl_tupA (pv 4) (po_some pe_int) po_none) pa_nil))))))))))), ?_⟩
  obtain ⟨as0, a0, r0, h1, h2, h3, h4, h5⟩ := tab_row hT RT
  have xm := RT.xm
  have ym := RT.ym
  have x0 := RT.x0
  have y0 := RT.y0
  have g := good_range RT.x0 RT.y0
  refine ⟨_, rfl, _, rfl, ta, _, rfl, .inr (SqT.of h1), h, d, ns, _, rfl, hand, by rw [List.length_map]; omega, fun H1 zx zx0 zx1 hand1 b1 => ?_⟩
  rw [List.length_map] at zx1
  obtain ⟨x, rfl⟩ : ∃ x : Nat, zx = x := ⟨zx.toNat, by omega⟩
  refine ⟨_, rfl, _, rfl, ta, _, _, _, rfl, rfl, SqT.of (b1.tup hand h1), h3, a0, _, rfl, .inr (SqT.of (b1.tup hand h4)), h, d, ns, _, rfl, hand1, by rw [List.length_map]; omega, fun H2 zy zy0 zy1 hand2 b2 => ?_⟩
  rw [List.length_map] at zy1
  obtain ⟨y, rfl⟩ : ∃ y : Nat, zy = y := ⟨zy.toNat, by omega⟩
  refine ⟨by show 2 ≤ sizeLine; decide, fun ti nti => ?_⟩
  have s3 := same_new nti (.tup [vN x, vN y])
  have eti : (upd H2 ti (.tup [vN x, vN y])) ti = some (.tup [vN x, vN y]) := upd_same
  have b3 : But h H (upd H2 ti (.tup [vN x, vN y])) := (b1.trans b2).trans (But.of s3)
  have hand3 := hand2.same s3
  generalize hq3 : upd H2 ti (.tup [vN x, vN y]) = H3 at eti b3 hand3
  clear hq3 s3
  have hT3 := b3.tab hand hT
  -- a knot?
  refine ⟨_, rfl, ta, Tb, X, Y, rfl, hT3, RT, le, fun H4 v s4 iff => ⟨rfl, _, rfl, ?_⟩⟩
  have b4 := b3.trans (But.of s4)
  have hand4 := hand3.same s4
  have hT4 := hT3.same s4
  by_cases fr : free (tOf Tb) (List.range X) (List.range Y)
  rotate_left
  · rw [decide_eq_false fun e => fr (iff.mp e)]
    exact iteT ⟨_, rfl, _, rfl, .ref ta, .ref ti, rfl, .inr ⟨ta, Tb, X, Y, rfl, hT4, RT, fr⟩, fun H5 s5 => q H5 (hand4.same s5) (b4.trans (But.of s5))⟩
  rw [decide_eq_true (iff.mpr fr)]
  refine iteF ?_
  -- the talk
  refine ⟨_, rfl, _, rfl, .inr ⟨ta, Tb, X, Y, rfl, hT4, RT, le, fr, fun H5 u s5 tu => ?_⟩⟩
  refine ⟨_, rfl, ta, Tb, X, Y, rfl, hT4.same s5, RT, le, fr, fun H6 w s6 tw => ?_⟩
  have dp := tree_depth (t := tOf Tb) g
  rw [List.length_range, List.length_range] at dp
  refine ⟨u, w, rfl, (talk_same xm ym (tu.same s6) tw).more (by omega), _, rfl, iteF ?_⟩
  have s46 := s5.trans s6
  -- the parts
  refine ⟨_, rfl, ta, Tb, X, Y, rfl, hT4.same s46, RT, le, fun H7 lp as s7 np elp es => ?_⟩
  have s47 := s46.trans s7
  have b7 := b4.trans (But.of s47)
  have hand7 := hand4.same s47
  have hT7 := hT4.same s47
  have eti7 := s47 _ _ (s4 _ _ eti)
  have lens : ∀ pt ∈ parts (tOf Tb) (List.range X) (List.range Y), pt.2.1.length ≤ 1000 ∧ pt.2.2.length ≤ 1000 := by
    intro pt hp
    obtain ⟨gp, m1, m2, _⟩ := parts_good g pt hp
    have l1 := up_len (n := X) (lo := 0) gp.rs fun x hx => ⟨Nat.zero_le _, List.mem_range.mp (m1 x hx)⟩
    have l2 := up_len (n := Y) (lo := 0) gp.cs fun x hx => ⟨Nat.zero_le _, List.mem_range.mp (m2 x hx)⟩
    exact ⟨by omega, by omega⟩
  refine ⟨_, rfl, lp, rfl, ⟨_, SqL.of elp⟩, for_list (K := K) (a := lp) (xs := as.map V.ref) (fun i σ H8 => ∃ v4, σ = [some (.ref h), some (.ref ta), some (.ref ti), some (.ref lp), v4] ∧ Same H7 H8)
    ⟨none, rfl, Same.refl H7⟩ (fun i σ H8 _ p => by obtain ⟨_, _, s⟩ := p; exact SqL.of (s _ _ elp)) ?_ ?_⟩
  · rintro i yv σ H8 hi ⟨v4, rfl, s8⟩
    obtain ⟨a, ha, rfl⟩ := get_ref hi
    obtain ⟨pt, hpt, r, c, ea, hr, hc⟩ := es.get ha
    have hpm := List.mem_of_getElem? hpt
    have ea8 := s8 _ _ ea
    have hr8 := hr.same s8
    have hc8 := hc.same s8
    have eti8 := s8 _ _ eti7
    obtain ⟨ur, xr, er⟩ := id hr8
    obtain ⟨uc, xc, ec⟩ := id hc8
    refine ⟨_, rfl, a, _, _, .ref r, rfl, rfl, SqT.of ea8, atI_nat (j := 1) rfl, ⟨r, _, ur, rfl, er, xr⟩, _, rfl, ti, _, _, vN x, rfl, rfl, SqT.of eti8, atI_nat (j := 0) rfl, r, pt.2.1.map fun n : Nat => (n : Int), _, rfl, rfl, by rw [List.map_map]; exact hr8.sq, rfl, _, rfl, ite2 (fun e1 => ?_) (fun _ => ⟨_, rfl, s8⟩)⟩
    refine ⟨_, rfl, a, _, _, .ref c, rfl, rfl, SqT.of ea8, atI_nat (j := 2) rfl, ⟨c, _, uc, rfl, ec, xc⟩, _, rfl, ti, _, _, vN y, rfl, rfl, SqT.of eti8, atI_nat (j := 1) rfl, c, pt.2.2.map fun n : Nat => (n : Int), _, rfl, rfl, by rw [List.map_map]; exact hc8.sq, rfl, _, rfl, ite2 (fun e2 => ?_) (fun _ => ⟨_, rfl, s8⟩)⟩
    have mx := count_mem (eq_yes e1)
    have my := count_mem (eq_yes e2)
    refine ⟨_, rfl, _, rfl, .ref ta, .ref ti, rfl, .inr ⟨ta, ti, Tb, X, Y, x, y, pt, rfl, rfl, hT7.same s8, RT, fr, eti8, hpm, mx, my, fun H9 z s9 pz => ?_⟩⟩
    refine ⟨_, rfl, _, rfl, ?_⟩
    dsimp only [tNoPart]
    refine slA (s9 _ _ ea8) fun H10 b s10 eb => ?_
    have eb : H10 b = some (.tup (cutV [.str (kindOf pt.1), .ref r, .ref c] (some 1) none)) := eb
    rw [cut_more] at eb
    have s910 := s9.trans s10
    have pz10 : PairAt H10 z pt.2.1 pt.2.2 := by
      obtain ⟨q, r', c', e, f1, f2, f3⟩ := pz
      exact ⟨q, r', c', e, s10 _ _ f1, f2.same s10, f3.same s10⟩
    exact ⟨z, .ref b, rfl, (pair_same pz10 eb (hr8.same s910) (hc8.same s910) (lens pt hpm).1 (lens pt hpm).2).more (by decide), _, rfl, iteF ⟨_, rfl, s8.trans s910⟩⟩
  rintro σ H8 ⟨v4, rfl, s8⟩
  -- a drawn pair of the first part
  obtain ⟨pt, hpt⟩ := get_of_lt (l := parts (tOf Tb) (List.range X) (List.range Y)) (i := 0) (List.length_pos_iff.mpr (parts_pos g))
  obtain ⟨a, ha, r, c, ea, hr, hc⟩ := es.at hpt
  have hpm := List.mem_of_getElem? hpt
  obtain ⟨gp, _, _, _⟩ := parts_good g pt hpm
  have lgp := gp.len
  have ea8 := s8 _ _ ea
  have hr8 := hr.same s8
  have hc8 := hc.same s8
  have hand8 := hand7.same s8
  have b8 := b7.trans (But.of s8)
  refine ⟨_, rfl, lp, _, _, .ref a, rfl, rfl, SqL.of (s8 _ _ elp), atI_nat (j := 0) (by rw [List.getElem?_map, ha]; rfl), ?_⟩
  refine ⟨_, rfl, a, _, _, .ref r, rfl, rfl, SqT.of ea8, atI_nat (j := 1) rfl, _, rfl, _, rfl, a, _, _, .ref r, rfl, rfl, SqT.of ea8, atI_nat (j := 1) rfl, r, _, rfl, .inr hr8.sq, h, d, ns, _, rfl, hand8, by rw [List.length_map]; omega, fun H9 zu zu0 zu1 hand9 b9 => ?_⟩
  rw [List.length_map] at zu1
  obtain ⟨n, rfl⟩ : ∃ n : Nat, zu = n := ⟨zu.toNat, by omega⟩
  obtain ⟨x', hx'⟩ := get_of_lt (l := pt.2.1) (i := n) (by omega)
  have hr9 := b9.tn hand8 hr8
  have hc9 := b9.tn hand8 hc8
  have ea9 := b9.tup hand8 ea8
  refine ⟨r, _, _, vN x', rfl, rfl, hr9.sq, at_num hx', ?_⟩
  refine ⟨_, rfl, a, _, _, .ref c, rfl, rfl, SqT.of ea9, atI_nat (j := 2) rfl, _, rfl, _, rfl, a, _, _, .ref c, rfl, rfl, SqT.of ea9, atI_nat (j := 2) rfl, c, _, rfl, .inr hc9.sq, h, d, ns, _, rfl, hand9, by rw [List.length_map]; omega, fun H10 zw zw0 zw1 hand10 b10 => ?_⟩
  rw [List.length_map] at zw1
  obtain ⟨m, rfl⟩ : ∃ n : Nat, zw = n := ⟨zw.toNat, by omega⟩
  obtain ⟨y', hy'⟩ := get_of_lt (l := pt.2.2) (i := m) (by omega)
  have hr10 := b10.tn hand9 hr9
  have hc10 := b10.tn hand9 hc9
  have ea10 := b10.tup hand9 ea9
  refine ⟨c, _, _, vN y', rfl, rfl, hc10.sq, at_num hy', by show 2 ≤ sizeLine; decide, fun tj ntj => ?_⟩
  have s11 := same_new ntj (.tup [vN x', vN y'])
  have b11 := ((b8.trans b9).trans b10).trans (But.of s11)
  have hand11 := hand10.same s11
  refine ⟨_, rfl, _, rfl, .ref ta, .ref tj, rfl, .inr ⟨ta, tj, Tb, X, Y, x', y', pt, rfl, rfl, b11.tab hand hT, RT, fr, upd_same, hpm, List.mem_of_getElem? hx', List.mem_of_getElem? hy', fun H12 z s12 pz => ?_⟩⟩
  refine ⟨_, rfl, _, rfl, ?_⟩
  dsimp only [tNoPart]
  refine slA (s12 _ _ (s11 _ _ ea10)) fun H13 b s13 eb => ?_
  have eb : H13 b = some (.tup (cutV [.str (kindOf pt.1), .ref r, .ref c] (some 1) none)) := eb
  rw [cut_more] at eb
  have s1213 := s12.trans s13
  have pz13 : PairAt H13 z pt.2.1 pt.2.2 := by
    obtain ⟨q, r', c', e, f1, f2, f3⟩ := pz
    exact ⟨q, r', c', e, s13 _ _ f1, f2.same s13, f3.same s13⟩
  exact ⟨z, .ref b, rfl, (pair_same pz13 eb ((hr10.same s11).same s1213) ((hc10.same s11).same s1213) (lens pt hpm).1 (lens pt hpm).2).more (by decide), q H13 (hand11.same s1213) (b11.trans (But.of s1213))⟩
end
end K9
set_option Elab.async false
set_option linter.all false
set_option maxRecDepth 100000
set_option maxHeartbeats 16000000
namespace K9
open PySem PySem.Spec PyProof.Rows L2
def spAsked : Sp := fun vs H Q _ => ∃ (h d : Addr) (ns : List Int), vs = [.ref h] ∧ Hand H h d ns ∧ ∀ H' : Hp, Q (.bl true) H'
def spLaw (K : PySem.W.Frag) : Sp := fun vs H Q _ => ∃ (a : Addr) (ns : List Int), vs = [.ref a] ∧ SqL K H a (ns.map V.int) ∧ ns.length ≤ 63 ∧ ∀ H' : Hp, Q (.bl true) H'
section
variable {P : Program} {w : World} {K : PySem.W.Frag} {mg : Str → Option Value} {base : Heap}
theorem k_Lasked (T : Bt mg) (c_Ltake : C8.Cal P w K mg base 1 "_law_take" spTake []) (c_Ldrawn : C8.Cal P w K mg base 8 "_law_drawn" spApart []) (c_Lapart : C8.Cal P w K mg base 7 "_law_apart" spApart []) (c_Llong : C8.Cal P w K mg base 2 "_law_long" spLong [])
    (c_Ltold : C8.Cal P w K mg base 27 "_law_told" spTold []) (c_Lis_refused : C8.Cal P w K mg base 26 "_law_is_refused" spLref []) (c_Lno_table : C8.Cal P w K mg base 2 "_law_no_table" spNoTable []) (D : DefAt K mg "_law_asked" s_Lasked ["_law_hand"]) :
    C8.Cal P w K mg base 28 "_law_asked" spAsked [] := by
  refine D.cal sc_Lasked (fun vs H Q E h => ?_) (fun f cdv A outer s H vs Q E hr h => ?_)
  · obtain ⟨h, d, ns, rfl, _⟩ := h
    rfl
  obtain ⟨h, d, ns, rfl, hand, q⟩ := h
  refine ⟨_, pss_cons (ps_for PassesOwn.never rfl (pi_range1 rfl T.range (pa_cons pe_int pa_nil)) (pg_name (i := 1) sc_Lasked.nd rfl (Or.inl rfl))
        (pss_cons (ps_set (i := 2) sc_Lasked.nd rfl (Or.inl rfl) (C8.pe_c c_Ldrawn hr (by decide) rfl (pa_cons (pv 0) (pa_cons (pe_op op_add pe_int (C8.pe_c c_Ltake hr (by decide) rfl (pa_cons (pv 0) (pa_cons pe_int pa_nil)))) (pa_cons (pe_op op_add pe_int (C8.pe_c c_Ltake hr (by decide) rfl (pa_cons (pv 0) (pa_cons pe_int pa_nil)))) pa_nil)))))
        (C8.pss_cut (ps_if (PW.pt (pw_and (pt_cmpR op_eq (pv 1) pe_int (nomark _)) (pw_and1 (pt_cmpR op_eq (C8.pe_c c_Ltake hr (by decide) rfl (pa_cons (pv 0) (pa_cons pe_int pa_nil))) pe_int (nomark _)))))
          (pss_one (ps_set (i := 2) sc_Lasked.nd rfl (Or.inl rfl) (C8.pe_c c_Lapart hr (by decide) rfl (pa_cons (pv 0) (pa_cons (pe_callB call_len_seq rfl T.len PySem.boot_len (pa_cons (pv 2) pa_nil)) (pa_cons (pe_callB call_len_seq rfl T.len PySem.boot_len (pa_cons (pe_ix ix_tup (pv 2) pe_int (fun _ _ => rfl)) pa_nil)) pa_nil))))))
          pss_nil)
        (C8.pss_cut (ps_if (PW.pt (pw_and (pt_cmpR op_eq (pv 1) pe_int (nomark _)) (pw_and1 (pt_cmpR op_eq (C8.pe_c c_Ltake hr (by decide) rfl (pa_cons (pv 0) (pa_cons pe_int pa_nil))) pe_int (nomark _)))))
          (pss_one (ps_set (i := 2) sc_Lasked.nd rfl (Or.inl rfl) (C8.pe_c c_Llong hr (by decide) rfl (pa_cons (pv 0) pa_nil))))
          pss_nil)
        (pss_one (ps_if (pt_not (pt_val (C8.pe_c c_Ltold hr (by decide) rfl (pa_cons (pv 0) (pa_cons (pv 2) pa_nil)))))
          (pss_one (ps_ret pe_bl))
          pss_nil))))))
      (pss_one (ps_ret (C8.pe_c c_Lis_refused hr (by decide) rfl (pa_cons (C8.pe_c c_Lno_table hr (by decide) rfl (pa_cons (pv 0) (pa_cons (pv 2) pa_nil))) (pa_cons (pe_tup (pa_cons pe_int (pa_cons pe_int pa_nil))) pa_nil))))), ?_⟩
  refine ⟨_, rfl, by decide, by decide, for_range (n := 2) (fun i σ H' => ∃ v1 v2, σ = [some (.ref h), v1, v2] ∧ Hand H' h d ns ∧ (0 < i → ∃ (ta : Addr) (Tb : List (List Int)) (X Y : Nat), v2 = some (.ref ta) ∧ TabAt H' ta Tb ∧ Rect Tb X Y))
    ⟨none, none, rfl, hand, fun z => absurd z (by decide)⟩ ?_ ?_⟩
  rotate_left
  · rintro σ H1 ⟨v1, v2, rfl, hand1, tb⟩
    obtain ⟨ta, Tb, X, Y, rfl, hT, RT⟩ := tb (by decide)
    refine ⟨_, rfl, _, rfl, h, d, ta, ns, Tb, X, Y, rfl, hand1, hT, RT, fun H2 v hand2 b2 nt => ?_⟩
    refine ⟨by show 2 ≤ sizeLine; decide, fun t nnt => ?_⟩
    exact ⟨v, .ref t, rfl, .inl (nt.same (same_new nnt _)), fun H3 s3 => q H3⟩
  rintro i σ H1 hi ⟨v1, v2, rfl, hand1, _⟩
  -- table = drawn
  refine ⟨_, rfl, _, rfl, h, d, ns, 6, rfl, hand1, by decide, fun H2 zx zx0 zx1 hand2 b2 => ⟨_, _, rfl, rfl, ?_⟩⟩
  refine ⟨_, rfl, h, d, ns, 6, rfl, hand2, by decide, fun H3 zy zy0 zy1 hand3 b3 => ⟨_, _, rfl, rfl, ?_⟩⟩
  obtain ⟨x, rfl⟩ : ∃ n : Nat, zx = n := ⟨zx.toNat, by omega⟩
  obtain ⟨y, rfl⟩ : ∃ n : Nat, zy = n := ⟨zy.toNat, by omega⟩
  refine ⟨h, d, ns, 1 + x, 1 + y, rfl, hand3, by omega, by omega, by omega, by omega, fun H4 ta Tb hand4 b4 hT RT => ?_⟩
  refine ⟨fun σ H5 => ∃ (ta : Addr) (Tb : List (List Int)) (X Y : Nat), σ = [some (.ref h), some (.int (0 + (i : Int))), some (.ref ta)] ∧ Hand H5 h d ns ∧ TabAt H5 ta Tb ∧ Rect Tb X Y ∧ X ≤ 10 ∧ Y ≤ 10, ?_, ?_⟩
  · have same : ∃ (ta' : Addr) (Tb : List (List Int)) (X Y : Nat), ([some (.ref h), some (.int (0 + (i : Int))), some (.ref ta)] : L2.St) = [some (.ref h), some (.int (0 + (i : Int))), some (.ref ta')] ∧ Hand H4 h d ns ∧ TabAt H4 ta' Tb ∧ Rect Tb X Y ∧ X ≤ 10 ∧ Y ≤ 10 := ⟨ta, Tb, _, _, rfl, hand4, hT, RT, by omega, by omega⟩
    refine ⟨_, rfl, rfl, _, rfl, ite2 (fun e => ?_) (fun _ => same)⟩
    refine ⟨_, rfl, h, d, ns, 2, rfl, hand4, by decide, fun H5 z z0 z1 hand5 b5 => ⟨rfl, _, rfl, ite2 (fun e => ?_) (fun _ => ⟨ta, Tb, _, _, rfl, hand5, b5.tab hand4 hT, RT, by omega, by omega⟩)⟩⟩
    have hT5 := b5.tab hand4 hT
    obtain ⟨as0, a0, r0, h1, h2, h3, h4, h5⟩ := tab_row hT5 RT
    refine ⟨_, rfl, _, rfl, ta, _, rfl, .inr (SqT.of h1), _, rfl, ta, _, _, _, rfl, rfl, SqT.of h1, h3, a0, _, rfl, .inr (SqT.of h4), h, d, ns, 1 + x, 1 + y, ?_, hand5, by omega, by omega, by omega, by omega, fun H6 tb Tc hand6 b6 hT6 RT6 => ⟨tb, Tc, _, _, rfl, hand6, hT6, RT6, by omega, by omega⟩⟩
    rw [List.length_map, List.length_map, h2, h5]
    rfl
  rintro σ H5 ⟨ta, Tb, X, Y, rfl, hand5, hT, RT, xm, ym⟩
  refine ⟨fun σ H5 => ∃ (ta : Addr) (Tb : List (List Int)) (X Y : Nat), σ = [some (.ref h), some (.int (0 + (i : Int))), some (.ref ta)] ∧ Hand H5 h d ns ∧ TabAt H5 ta Tb ∧ Rect Tb X Y ∧ X + Y ≤ 20, ?_, ?_⟩
  · refine ⟨_, rfl, rfl, _, rfl, ite2 (fun e => ?_) (fun _ => ⟨ta, Tb, X, Y, rfl, hand5, hT, RT, by omega⟩)⟩
    refine ⟨_, rfl, h, d, ns, 4, rfl, hand5, by decide, fun H6 z z0 z1 hand6 b6 => ⟨rfl, _, rfl, ite2 (fun e => ?_) (fun _ => ⟨ta, Tb, X, Y, rfl, hand6, b6.tab hand5 hT, RT, by omega⟩)⟩⟩
    exact ⟨_, rfl, h, d, ns, rfl, hand6, fun H7 tb Tc X7 Y7 hand7 b7 hT7 RT7 l7 => ⟨tb, Tc, X7, Y7, rfl, hand7, hT7, RT7, by omega⟩⟩
  rintro σ H6 ⟨ta, Tb, X, Y, rfl, hand6, hT, RT, le⟩
  refine ⟨_, rfl, _, rfl, h, d, ta, ns, Tb, X, Y, rfl, hand6, hT, RT, le, fun H7 hand7 b7 => ⟨_, rfl, iteF ⟨_, _, rfl, hand7, fun _ => ⟨ta, Tb, X, Y, rfl, b7.tab hand6 hT, RT⟩⟩⟩⟩
theorem k_law (T : Bt mg) (c_Ldraws : C8.Cal P w K mg base 1 "_law_draws" (spDraws K) []) (c_Lasked : C8.Cal P w K mg base 28 "_law_asked" spAsked []) {f : Addr} {fd : FuncData} (F : L2.Fun K "law" "law" s_law f fd) :
    FnOk P w K mg base L2.CX0 29 f fd ["_law_script"] (spLaw K) := by
  refine F.ok sc_law (fun vs H Q E h => ?_) (fun cdv A outer s H vs Q E hr h => ?_)
  · obtain ⟨a, ns, rfl, _⟩ := h
    rfl
  obtain ⟨a, ns, rfl, hA, ln, q⟩ := h
  refine ⟨_, pss_one (ps_try_thru0 (pss_one (ps_ret (C8.pe_c c_Lasked hr (by decide) rfl (pa_cons (pe_lst (pa_cons (C8.pe_c c_Ldraws hr (by decide) rfl (pa_cons (pv 0) (pa_cons pe_int pa_nil))) (pa_cons pe_int pa_nil))) pa_nil))))), ?_⟩
  refine ⟨_, rfl, a, ns, 400, rfl, hA, ln, by decide, fun H1 d ds s1 nd ed => ⟨by show 2 ≤ sizeLine; decide, fun h nh => ?_⟩⟩
  exact ⟨h, d, ds, rfl, ⟨0, upd_same, Int.le_refl _, same_new nh _ _ _ ed, (ne_of_none ed nh).symm⟩, q⟩
end
end K9
set_option Elab.async false
set_option linter.all false
set_option maxRecDepth 100000
set_option maxHeartbeats 16000000
namespace K9
open PySem PySem.Spec PyProof.Rows L2
section
variable {K : PySem.W.Frag} {h : Heap} {mg : Str → Option Value} {C : Addr}
theorem d_is_integer (X : K.In h) (G : h.Ns mainGlobals mg) {oc kV doc pm cdv ct : Value} {od an : Option Addr} {osl : Array (Option Value)} {f : Addr} (a : PySem.W.nsIn K mainGlobals "is_integer" = some (some (.ref f))) (l : K.lookup f = some ⟨oc, od, .func (PySem.W.fnOf "is_integer" "is_integer" (defArgs s_is_integer) (defBody s_is_integer) (defScope s_is_integer) .none kV doc pm an cdv ct), osl⟩)
    (c : PySem.W.codeIn K cdv "is_integer" = true) (k : PySem.W.keepIn K (.ref f) = true) : DefAt K mg "is_integer" s_is_integer ["value"] :=
  ⟨_, _, fun_mk (st := s_is_integer) l c k, PySem.W.mg_of X G a, (fun_mk (st := s_is_integer) l c k).binds fun _ _ _ _ _ _ us hl => match us, hl with | [_], _ => rfl⟩
theorem d_is_listed (X : K.In h) (G : h.Ns mainGlobals mg) {oc kV doc pm cdv ct : Value} {od an : Option Addr} {osl : Array (Option Value)} {f : Addr} (a : PySem.W.nsIn K mainGlobals "is_listed" = some (some (.ref f))) (l : K.lookup f = some ⟨oc, od, .func (PySem.W.fnOf "is_listed" "is_listed" (defArgs s_is_listed) (defBody s_is_listed) (defScope s_is_listed) .none kV doc pm an cdv ct), osl⟩)
    (c : PySem.W.codeIn K cdv "is_listed" = true) (k : PySem.W.keepIn K (.ref f) = true) : DefAt K mg "is_listed" s_is_listed ["values"] :=
  ⟨_, _, fun_mk (st := s_is_listed) l c k, PySem.W.mg_of X G a, (fun_mk (st := s_is_listed) l c k).binds fun _ _ _ _ _ _ us hl => match us, hl with | [_], _ => rfl⟩
theorem d_check_table (X : K.In h) (G : h.Ns mainGlobals mg) {oc kV doc pm cdv ct : Value} {od an : Option Addr} {osl : Array (Option Value)} {f : Addr} (a : PySem.W.nsIn K mainGlobals "check_table" = some (some (.ref f))) (l : K.lookup f = some ⟨oc, od, .func (PySem.W.fnOf "check_table" "check_table" (defArgs s_check_table) (defBody s_check_table) (defScope s_check_table) .none kV doc pm an cdv ct), osl⟩)
    (c : PySem.W.codeIn K cdv "check_table" = true) (k : PySem.W.keepIn K (.ref f) = true) : DefAt K mg "check_table" s_check_table ["table"] :=
  ⟨_, _, fun_mk (st := s_check_table) l c k, PySem.W.mg_of X G a, (fun_mk (st := s_check_table) l c k).binds fun _ _ _ _ _ _ us hl => match us, hl with | [_], _ => rfl⟩
theorem d_bundles_of (X : K.In h) (G : h.Ns mainGlobals mg) {oc kV doc pm cdv ct : Value} {od an : Option Addr} {osl : Array (Option Value)} {f : Addr} (a : PySem.W.nsIn K mainGlobals "bundles_of" = some (some (.ref f))) (l : K.lookup f = some ⟨oc, od, .func (PySem.W.fnOf "bundles_of" "bundles_of" (defArgs s_bundles_of) (defBody s_bundles_of) (defScope s_bundles_of) .none kV doc pm an cdv ct), osl⟩)
    (c : PySem.W.codeIn K cdv "bundles_of" = true) (k : PySem.W.keepIn K (.ref f) = true) : DefAt K mg "bundles_of" s_bundles_of ["lines"] :=
  ⟨_, _, fun_mk (st := s_bundles_of) l c k, PySem.W.mg_of X G a, (fun_mk (st := s_bundles_of) l c k).binds fun _ _ _ _ _ _ us hl => match us, hl with | [_], _ => rfl⟩
theorem d_are_tied (X : K.In h) (G : h.Ns mainGlobals mg) {oc kV doc pm cdv ct : Value} {od an : Option Addr} {osl : Array (Option Value)} {f : Addr} (a : PySem.W.nsIn K mainGlobals "are_tied" = some (some (.ref f))) (l : K.lookup f = some ⟨oc, od, .func (PySem.W.fnOf "are_tied" "are_tied" (defArgs s_are_tied) (defBody s_are_tied) (defScope s_are_tied) .none kV doc pm an cdv ct), osl⟩)
    (c : PySem.W.codeIn K cdv "are_tied" = true) (k : PySem.W.keepIn K (.ref f) = true) : DefAt K mg "are_tied" s_are_tied ["first", "second"] :=
  ⟨_, _, fun_mk (st := s_are_tied) l c k, PySem.W.mg_of X G a, (fun_mk (st := s_are_tied) l c k).binds fun _ _ _ _ _ _ us hl => match us, hl with | [_, _], _ => rfl⟩
theorem d_whole (X : K.In h) (G : h.Ns mainGlobals mg) {oc kV doc pm cdv ct : Value} {od an : Option Addr} {osl : Array (Option Value)} {f : Addr} (a : PySem.W.nsIn K mainGlobals "whole" = some (some (.ref f))) (l : K.lookup f = some ⟨oc, od, .func (PySem.W.fnOf "whole" "whole" (defArgs s_whole) (defBody s_whole) (defScope s_whole) .none kV doc pm an cdv ct), osl⟩)
    (c : PySem.W.codeIn K cdv "whole" = true) (k : PySem.W.keepIn K (.ref f) = true) : DefAt K mg "whole" s_whole ["table"] :=
  ⟨_, _, fun_mk (st := s_whole) l c k, PySem.W.mg_of X G a, (fun_mk (st := s_whole) l c k).binds fun _ _ _ _ _ _ us hl => match us, hl with | [_], _ => rfl⟩
theorem d_knot_of (X : K.In h) (G : h.Ns mainGlobals mg) {oc kV doc pm cdv ct : Value} {od an : Option Addr} {osl : Array (Option Value)} {f : Addr} (a : PySem.W.nsIn K mainGlobals "knot_of" = some (some (.ref f))) (l : K.lookup f = some ⟨oc, od, .func (PySem.W.fnOf "knot_of" "knot_of" (defArgs s_knot_of) (defBody s_knot_of) (defScope s_knot_of) .none kV doc pm an cdv ct), osl⟩)
    (c : PySem.W.codeIn K cdv "knot_of" = true) (k : PySem.W.keepIn K (.ref f) = true) : DefAt K mg "knot_of" s_knot_of ["table"] :=
  ⟨_, _, fun_mk (st := s_knot_of) l c k, PySem.W.mg_of X G a, (fun_mk (st := s_knot_of) l c k).binds fun _ _ _ _ _ _ us hl => match us, hl with | [_], _ => rfl⟩
theorem d_bits_inside (X : K.In h) (G : h.Ns mainGlobals mg) {oc kV doc pm cdv ct : Value} {od an : Option Addr} {osl : Array (Option Value)} {f : Addr} (a : PySem.W.nsIn K mainGlobals "bits_inside" = some (some (.ref f))) (l : K.lookup f = some ⟨oc, od, .func (PySem.W.fnOf "bits_inside" "bits_inside" (defArgs s_bits_inside) (defBody s_bits_inside) (defScope s_bits_inside) .none kV doc pm an cdv ct), osl⟩)
    (c : PySem.W.codeIn K cdv "bits_inside" = true) (k : PySem.W.keepIn K (.ref f) = true) : DefAt K mg "bits_inside" s_bits_inside ["many", "inside"] :=
  ⟨_, _, fun_mk (st := s_bits_inside) l c k, PySem.W.mg_of X G a, (fun_mk (st := s_bits_inside) l c k).binds fun _ _ _ _ _ _ us hl => match us, hl with | [_, _], _ => rfl⟩
theorem d_tree_for (X : K.In h) (G : h.Ns mainGlobals mg) {oc kV doc pm cdv ct : Value} {od an : Option Addr} {osl : Array (Option Value)} {f : Addr} (a : PySem.W.nsIn K mainGlobals "tree_for" = some (some (.ref f))) (l : K.lookup f = some ⟨oc, od, .func (PySem.W.fnOf "tree_for" "tree_for" (defArgs s_tree_for) (defBody s_tree_for) (defScope s_tree_for) .none kV doc pm an cdv ct), osl⟩)
    (c : PySem.W.codeIn K cdv "tree_for" = true) (k : PySem.W.keepIn K (.ref f) = true) : DefAt K mg "tree_for" s_tree_for ["part"] :=
  ⟨_, _, fun_mk (st := s_tree_for) l c k, PySem.W.mg_of X G a, (fun_mk (st := s_tree_for) l c k).binds fun _ _ _ _ _ _ us hl => match us, hl with | [_], _ => rfl⟩
theorem d_talk_for (X : K.In h) (G : h.Ns mainGlobals mg) {oc kV doc pm cdv ct : Value} {od an : Option Addr} {osl : Array (Option Value)} {f : Addr} (a : PySem.W.nsIn K mainGlobals "talk_for" = some (some (.ref f))) (l : K.lookup f = some ⟨oc, od, .func (PySem.W.fnOf "talk_for" "talk_for" (defArgs s_talk_for) (defBody s_talk_for) (defScope s_talk_for) .none kV doc pm an cdv ct), osl⟩)
    (c : PySem.W.codeIn K cdv "talk_for" = true) (k : PySem.W.keepIn K (.ref f) = true) : DefAt K mg "talk_for" s_talk_for ["table"] :=
  ⟨_, _, fun_mk (st := s_talk_for) l c k, PySem.W.mg_of X G a, (fun_mk (st := s_talk_for) l c k).binds fun _ _ _ _ _ _ us hl => match us, hl with | [_], _ => rfl⟩
theorem d_last_part (X : K.In h) (G : h.Ns mainGlobals mg) {oc kV doc pm cdv ct : Value} {od an : Option Addr} {osl : Array (Option Value)} {f : Addr} (a : PySem.W.nsIn K mainGlobals "last_part" = some (some (.ref f))) (l : K.lookup f = some ⟨oc, od, .func (PySem.W.fnOf "last_part" "last_part" (defArgs s_last_part) (defBody s_last_part) (defScope s_last_part) .none kV doc pm an cdv ct), osl⟩)
    (c : PySem.W.codeIn K cdv "last_part" = true) (k : PySem.W.keepIn K (.ref f) = true) : DefAt K mg "last_part" s_last_part ["table", "inputs"] :=
  ⟨_, _, fun_mk (st := s_last_part) l c k, PySem.W.mg_of X G a, (fun_mk (st := s_last_part) l c k).binds fun _ _ _ _ _ _ us hl => match us, hl with | [_, _], _ => rfl⟩
theorem d_law_draws (X : K.In h) (G : h.Ns mainGlobals mg) {oc kV doc pm cdv ct : Value} {od an : Option Addr} {osl : Array (Option Value)} {f : Addr} (a : PySem.W.nsIn K mainGlobals "_law_draws" = some (some (.ref f))) (l : K.lookup f = some ⟨oc, od, .func (PySem.W.fnOf "_law_draws" "_law_draws" (defArgs s_Ldraws) (defBody s_Ldraws) (defScope s_Ldraws) .none kV doc pm an cdv ct), osl⟩)
    (c : PySem.W.codeIn K cdv "_law_draws" = true) (k : PySem.W.keepIn K (.ref f) = true) : DefAt K mg "_law_draws" s_Ldraws ["_law_script", "_law_many"] :=
  ⟨_, _, fun_mk (st := s_Ldraws) l c k, PySem.W.mg_of X G a, (fun_mk (st := s_Ldraws) l c k).binds fun _ _ _ _ _ _ us hl => match us, hl with | [_, _], _ => rfl⟩
theorem d_law_take (X : K.In h) (G : h.Ns mainGlobals mg) {oc kV doc pm cdv ct : Value} {od an : Option Addr} {osl : Array (Option Value)} {f : Addr} (a : PySem.W.nsIn K mainGlobals "_law_take" = some (some (.ref f))) (l : K.lookup f = some ⟨oc, od, .func (PySem.W.fnOf "_law_take" "_law_take" (defArgs s_Ltake) (defBody s_Ltake) (defScope s_Ltake) .none kV doc pm an cdv ct), osl⟩)
    (c : PySem.W.codeIn K cdv "_law_take" = true) (k : PySem.W.keepIn K (.ref f) = true) : DefAt K mg "_law_take" s_Ltake ["_law_hand", "_law_many"] :=
  ⟨_, _, fun_mk (st := s_Ltake) l c k, PySem.W.mg_of X G a, (fun_mk (st := s_Ltake) l c k).binds fun _ _ _ _ _ _ us hl => match us, hl with | [_, _], _ => rfl⟩
theorem d_law_answer (X : K.In h) (G : h.Ns mainGlobals mg) {oc kV doc pm cdv ct : Value} {od an : Option Addr} {osl : Array (Option Value)} {f : Addr} (a : PySem.W.nsIn K mainGlobals "_law_answer" = some (some (.ref f))) (l : K.lookup f = some ⟨oc, od, .func (PySem.W.fnOf "_law_answer" "_law_answer" (defArgs s_Lanswer) (defBody s_Lanswer) (defScope s_Lanswer) .none kV doc pm an cdv ct), osl⟩)
    (c : PySem.W.codeIn K cdv "_law_answer" = true) (k : PySem.W.keepIn K (.ref f) = true) : DefAt K mg "_law_answer" s_Lanswer ["_law_table", "_law_side", "_law_mine", "_law_other"] :=
  ⟨_, _, fun_mk (st := s_Lanswer) l c k, PySem.W.mg_of X G a, (fun_mk (st := s_Lanswer) l c k).binds fun _ _ _ _ _ _ us hl => match us, hl with | [_, _, _, _], _ => rfl⟩
theorem d_law_same (X : K.In h) (G : h.Ns mainGlobals mg) {oc kV doc pm cdv ct : Value} {od an : Option Addr} {osl : Array (Option Value)} {f : Addr} (a : PySem.W.nsIn K mainGlobals "_law_same" = some (some (.ref f))) (l : K.lookup f = some ⟨oc, od, .func (PySem.W.fnOf "_law_same" "_law_same" (defArgs s_Lsame) (defBody s_Lsame) (defScope s_Lsame) .none kV doc pm an cdv ct), osl⟩)
    (c : PySem.W.codeIn K cdv "_law_same" = true) (k : PySem.W.keepIn K (.ref f) = true) : DefAt K mg "_law_same" s_Lsame ["_law_told_here", "_law_due"] :=
  ⟨_, _, fun_mk (st := s_Lsame) l c k, PySem.W.mg_of X G a, (fun_mk (st := s_Lsame) l c k).binds fun _ _ _ _ _ _ us hl => match us, hl with | [_, _], _ => rfl⟩
theorem d_law_ties (X : K.In h) (G : h.Ns mainGlobals mg) {oc kV doc pm cdv ct : Value} {od an : Option Addr} {osl : Array (Option Value)} {f : Addr} (a : PySem.W.nsIn K mainGlobals "_law_ties" = some (some (.ref f))) (l : K.lookup f = some ⟨oc, od, .func (PySem.W.fnOf "_law_ties" "_law_ties" (defArgs s_Lties) (defBody s_Lties) (defScope s_Lties) .none kV doc pm an cdv ct), osl⟩)
    (c : PySem.W.codeIn K cdv "_law_ties" = true) (k : PySem.W.keepIn K (.ref f) = true) : DefAt K mg "_law_ties" s_Lties ["_law_table", "_law_side", "_law_line", "_law_bundle", "_law_cross"] :=
  ⟨_, _, fun_mk (st := s_Lties) l c k, PySem.W.mg_of X G a, (fun_mk (st := s_Lties) l c k).binds fun _ _ _ _ _ _ us hl => match us, hl with | [_, _, _, _, _], _ => rfl⟩
theorem d_law_bundles (X : K.In h) (G : h.Ns mainGlobals mg) {oc kV doc pm cdv ct : Value} {od an : Option Addr} {osl : Array (Option Value)} {f : Addr} (a : PySem.W.nsIn K mainGlobals "_law_bundles" = some (some (.ref f))) (l : K.lookup f = some ⟨oc, od, .func (PySem.W.fnOf "_law_bundles" "_law_bundles" (defArgs s_Lbundles) (defBody s_Lbundles) (defScope s_Lbundles) .none kV doc pm an cdv ct), osl⟩)
    (c : PySem.W.codeIn K cdv "_law_bundles" = true) (k : PySem.W.keepIn K (.ref f) = true) : DefAt K mg "_law_bundles" s_Lbundles ["_law_table", "_law_side", "_law_lines", "_law_cross"] :=
  ⟨_, _, fun_mk (st := s_Lbundles) l c k, PySem.W.mg_of X G a, (fun_mk (st := s_Lbundles) l c k).binds fun _ _ _ _ _ _ us hl => match us, hl with | [_, _, _, _], _ => rfl⟩
theorem d_law_is_even (X : K.In h) (G : h.Ns mainGlobals mg) {oc kV doc pm cdv ct : Value} {od an : Option Addr} {osl : Array (Option Value)} {f : Addr} (a : PySem.W.nsIn K mainGlobals "_law_is_even" = some (some (.ref f))) (l : K.lookup f = some ⟨oc, od, .func (PySem.W.fnOf "_law_is_even" "_law_is_even" (defArgs s_Lis_even) (defBody s_Lis_even) (defScope s_Lis_even) .none kV doc pm an cdv ct), osl⟩)
    (c : PySem.W.codeIn K cdv "_law_is_even" = true) (k : PySem.W.keepIn K (.ref f) = true) : DefAt K mg "_law_is_even" s_Lis_even ["_law_table", "_law_rows", "_law_columns"] :=
  ⟨_, _, fun_mk (st := s_Lis_even) l c k, PySem.W.mg_of X G a, (fun_mk (st := s_Lis_even) l c k).binds fun _ _ _ _ _ _ us hl => match us, hl with | [_, _, _], _ => rfl⟩
theorem d_law_parts (X : K.In h) (G : h.Ns mainGlobals mg) {oc kV doc pm cdv ct : Value} {od an : Option Addr} {osl : Array (Option Value)} {f : Addr} (a : PySem.W.nsIn K mainGlobals "_law_parts" = some (some (.ref f))) (l : K.lookup f = some ⟨oc, od, .func (PySem.W.fnOf "_law_parts" "_law_parts" (defArgs s_Lparts) (defBody s_Lparts) (defScope s_Lparts) .none kV doc pm an cdv ct), osl⟩)
    (c : PySem.W.codeIn K cdv "_law_parts" = true) (k : PySem.W.keepIn K (.ref f) = true) : DefAt K mg "_law_parts" s_Lparts ["_law_table", "_law_rows", "_law_columns"] :=
  ⟨_, _, fun_mk (st := s_Lparts) l c k, PySem.W.mg_of X G a, (fun_mk (st := s_Lparts) l c k).binds fun _ _ _ _ _ _ us hl => match us, hl with | [_, _, _], _ => rfl⟩
theorem d_law_whole_parts (X : K.In h) (G : h.Ns mainGlobals mg) {oc kV doc pm cdv ct : Value} {od an : Option Addr} {osl : Array (Option Value)} {f : Addr} (a : PySem.W.nsIn K mainGlobals "_law_whole_parts" = some (some (.ref f))) (l : K.lookup f = some ⟨oc, od, .func (PySem.W.fnOf "_law_whole_parts" "_law_whole_parts" (defArgs s_Lwhole_parts) (defBody s_Lwhole_parts) (defScope s_Lwhole_parts) .none kV doc pm an cdv ct), osl⟩)
    (c : PySem.W.codeIn K cdv "_law_whole_parts" = true) (k : PySem.W.keepIn K (.ref f) = true) : DefAt K mg "_law_whole_parts" s_Lwhole_parts ["_law_table"] :=
  ⟨_, _, fun_mk (st := s_Lwhole_parts) l c k, PySem.W.mg_of X G a, (fun_mk (st := s_Lwhole_parts) l c k).binds fun _ _ _ _ _ _ us hl => match us, hl with | [_], _ => rfl⟩
theorem d_law_knot (X : K.In h) (G : h.Ns mainGlobals mg) {oc kV doc pm cdv ct : Value} {od an : Option Addr} {osl : Array (Option Value)} {f : Addr} (a : PySem.W.nsIn K mainGlobals "_law_knot" = some (some (.ref f))) (l : K.lookup f = some ⟨oc, od, .func (PySem.W.fnOf "_law_knot" "_law_knot" (defArgs s_Lknot) (defBody s_Lknot) (defScope s_Lknot) .none kV doc pm an cdv ct), osl⟩)
    (c : PySem.W.codeIn K cdv "_law_knot" = true) (k : PySem.W.keepIn K (.ref f) = true) : DefAt K mg "_law_knot" s_Lknot ["_law_table"] :=
  ⟨_, _, fun_mk (st := s_Lknot) l c k, PySem.W.mg_of X G a, (fun_mk (st := s_Lknot) l c k).binds fun _ _ _ _ _ _ us hl => match us, hl with | [_], _ => rfl⟩
theorem d_law_filled (X : K.In h) (G : h.Ns mainGlobals mg) {oc kV doc pm cdv ct : Value} {od an : Option Addr} {osl : Array (Option Value)} {f : Addr} (a : PySem.W.nsIn K mainGlobals "_law_filled" = some (some (.ref f))) (l : K.lookup f = some ⟨oc, od, .func (PySem.W.fnOf "_law_filled" "_law_filled" (defArgs s_Lfilled) (defBody s_Lfilled) (defScope s_Lfilled) .none kV doc pm an cdv ct), osl⟩)
    (c : PySem.W.codeIn K cdv "_law_filled" = true) (k : PySem.W.keepIn K (.ref f) = true) : DefAt K mg "_law_filled" s_Lfilled ["_law_cells", "_law_hand", "_law_rows", "_law_columns", "_law_side", "_law_deep"] :=
  ⟨_, _, fun_mk (st := s_Lfilled) l c k, PySem.W.mg_of X G a, (fun_mk (st := s_Lfilled) l c k).binds fun _ _ _ _ _ _ us hl => match us, hl with | [_, _, _, _, _, _], _ => rfl⟩
theorem d_law_apart (X : K.In h) (G : h.Ns mainGlobals mg) {oc kV doc pm cdv ct : Value} {od an : Option Addr} {osl : Array (Option Value)} {f : Addr} (a : PySem.W.nsIn K mainGlobals "_law_apart" = some (some (.ref f))) (l : K.lookup f = some ⟨oc, od, .func (PySem.W.fnOf "_law_apart" "_law_apart" (defArgs s_Lapart) (defBody s_Lapart) (defScope s_Lapart) .none kV doc pm an cdv ct), osl⟩)
    (c : PySem.W.codeIn K cdv "_law_apart" = true) (k : PySem.W.keepIn K (.ref f) = true) : DefAt K mg "_law_apart" s_Lapart ["_law_hand", "_law_rows", "_law_columns"] :=
  ⟨_, _, fun_mk (st := s_Lapart) l c k, PySem.W.mg_of X G a, (fun_mk (st := s_Lapart) l c k).binds fun _ _ _ _ _ _ us hl => match us, hl with | [_, _, _], _ => rfl⟩
theorem d_law_touched (X : K.In h) (G : h.Ns mainGlobals mg) {oc kV doc pm cdv ct : Value} {od an : Option Addr} {osl : Array (Option Value)} {f : Addr} (a : PySem.W.nsIn K mainGlobals "_law_touched" = some (some (.ref f))) (l : K.lookup f = some ⟨oc, od, .func (PySem.W.fnOf "_law_touched" "_law_touched" (defArgs s_Ltouched) (defBody s_Ltouched) (defScope s_Ltouched) .none kV doc pm an cdv ct), osl⟩)
    (c : PySem.W.codeIn K cdv "_law_touched" = true) (k : PySem.W.keepIn K (.ref f) = true) : DefAt K mg "_law_touched" s_Ltouched ["_law_hand", "_law_table"] :=
  ⟨_, _, fun_mk (st := s_Ltouched) l c k, PySem.W.mg_of X G a, (fun_mk (st := s_Ltouched) l c k).binds fun _ _ _ _ _ _ us hl => match us, hl with | [_, _], _ => rfl⟩
theorem d_law_drawn (X : K.In h) (G : h.Ns mainGlobals mg) {oc kV doc pm cdv ct : Value} {od an : Option Addr} {osl : Array (Option Value)} {f : Addr} (a : PySem.W.nsIn K mainGlobals "_law_drawn" = some (some (.ref f))) (l : K.lookup f = some ⟨oc, od, .func (PySem.W.fnOf "_law_drawn" "_law_drawn" (defArgs s_Ldrawn) (defBody s_Ldrawn) (defScope s_Ldrawn) .none kV doc pm an cdv ct), osl⟩)
    (c : PySem.W.codeIn K cdv "_law_drawn" = true) (k : PySem.W.keepIn K (.ref f) = true) : DefAt K mg "_law_drawn" s_Ldrawn ["_law_hand", "_law_rows", "_law_columns"] :=
  ⟨_, _, fun_mk (st := s_Ldrawn) l c k, PySem.W.mg_of X G a, (fun_mk (st := s_Ldrawn) l c k).binds fun _ _ _ _ _ _ us hl => match us, hl with | [_, _, _], _ => rfl⟩
theorem d_law_tree_for (X : K.In h) (G : h.Ns mainGlobals mg) {oc kV doc pm cdv ct : Value} {od an : Option Addr} {osl : Array (Option Value)} {f : Addr} (a : PySem.W.nsIn K mainGlobals "_law_tree_for" = some (some (.ref f))) (l : K.lookup f = some ⟨oc, od, .func (PySem.W.fnOf "_law_tree_for" "_law_tree_for" (defArgs s_Ltree_for) (defBody s_Ltree_for) (defScope s_Ltree_for) .none kV doc pm an cdv ct), osl⟩)
    (c : PySem.W.codeIn K cdv "_law_tree_for" = true) (k : PySem.W.keepIn K (.ref f) = true) : DefAt K mg "_law_tree_for" s_Ltree_for ["_law_table", "_law_rows", "_law_columns"] :=
  ⟨_, _, fun_mk (st := s_Ltree_for) l c k, PySem.W.mg_of X G a, (fun_mk (st := s_Ltree_for) l c k).binds fun _ _ _ _ _ _ us hl => match us, hl with | [_, _, _], _ => rfl⟩
theorem d_law_talk_for (X : K.In h) (G : h.Ns mainGlobals mg) {oc kV doc pm cdv ct : Value} {od an : Option Addr} {osl : Array (Option Value)} {f : Addr} (a : PySem.W.nsIn K mainGlobals "_law_talk_for" = some (some (.ref f))) (l : K.lookup f = some ⟨oc, od, .func (PySem.W.fnOf "_law_talk_for" "_law_talk_for" (defArgs s_Ltalk_for) (defBody s_Ltalk_for) (defScope s_Ltalk_for) .none kV doc pm an cdv ct), osl⟩)
    (c : PySem.W.codeIn K cdv "_law_talk_for" = true) (k : PySem.W.keepIn K (.ref f) = true) : DefAt K mg "_law_talk_for" s_Ltalk_for ["_law_table"] :=
  ⟨_, _, fun_mk (st := s_Ltalk_for) l c k, PySem.W.mg_of X G a, (fun_mk (st := s_Ltalk_for) l c k).binds fun _ _ _ _ _ _ us hl => match us, hl with | [_], _ => rfl⟩
theorem d_law_no_table (X : K.In h) (G : h.Ns mainGlobals mg) {oc kV doc pm cdv ct : Value} {od an : Option Addr} {osl : Array (Option Value)} {f : Addr} (a : PySem.W.nsIn K mainGlobals "_law_no_table" = some (some (.ref f))) (l : K.lookup f = some ⟨oc, od, .func (PySem.W.fnOf "_law_no_table" "_law_no_table" (defArgs s_Lno_table) (defBody s_Lno_table) (defScope s_Lno_table) .none kV doc pm an cdv ct), osl⟩)
    (c : PySem.W.codeIn K cdv "_law_no_table" = true) (k : PySem.W.keepIn K (.ref f) = true) : DefAt K mg "_law_no_table" s_Lno_table ["_law_hand", "_law_table"] :=
  ⟨_, _, fun_mk (st := s_Lno_table) l c k, PySem.W.mg_of X G a, (fun_mk (st := s_Lno_table) l c k).binds fun _ _ _ _ _ _ us hl => match us, hl with | [_, _], _ => rfl⟩
theorem d_law_long (X : K.In h) (G : h.Ns mainGlobals mg) {oc kV doc pm cdv ct : Value} {od an : Option Addr} {osl : Array (Option Value)} {f : Addr} (a : PySem.W.nsIn K mainGlobals "_law_long" = some (some (.ref f))) (l : K.lookup f = some ⟨oc, od, .func (PySem.W.fnOf "_law_long" "_law_long" (defArgs s_Llong) (defBody s_Llong) (defScope s_Llong) .none kV doc pm an cdv ct), osl⟩)
    (c : PySem.W.codeIn K cdv "_law_long" = true) (k : PySem.W.keepIn K (.ref f) = true) : DefAt K mg "_law_long" s_Llong ["_law_hand"] :=
  ⟨_, _, fun_mk (st := s_Llong) l c k, PySem.W.mg_of X G a, (fun_mk (st := s_Llong) l c k).binds fun _ _ _ _ _ _ us hl => match us, hl with | [_], _ => rfl⟩
theorem d_law_is_alone (X : K.In h) (G : h.Ns mainGlobals mg) {oc kV doc pm cdv ct : Value} {od an : Option Addr} {osl : Array (Option Value)} {f : Addr} (a : PySem.W.nsIn K mainGlobals "_law_is_alone" = some (some (.ref f))) (l : K.lookup f = some ⟨oc, od, .func (PySem.W.fnOf "_law_is_alone" "_law_is_alone" (defArgs s_Lis_alone) (defBody s_Lis_alone) (defScope s_Lis_alone) .none kV doc pm an cdv ct), osl⟩)
    (c : PySem.W.codeIn K cdv "_law_is_alone" = true) (k : PySem.W.keepIn K (.ref f) = true) : DefAt K mg "_law_is_alone" s_Lis_alone ["_law_e"] :=
  ⟨_, _, fun_mk (st := s_Lis_alone) l c k, PySem.W.mg_of X G a, (fun_mk (st := s_Lis_alone) l c k).binds fun _ _ _ _ _ _ us hl => match us, hl with | [_], _ => rfl⟩
theorem d_law_is_refused (X : K.In h) (G : h.Ns mainGlobals mg) {oc kV doc pm cdv ct : Value} {od an : Option Addr} {osl : Array (Option Value)} {f : Addr} (a : PySem.W.nsIn K mainGlobals "_law_is_refused" = some (some (.ref f))) (l : K.lookup f = some ⟨oc, od, .func (PySem.W.fnOf "_law_is_refused" "_law_is_refused" (defArgs s_Lis_refused) (defBody s_Lis_refused) (defScope s_Lis_refused) .none kV doc pm an cdv ct), osl⟩)
    (c : PySem.W.codeIn K cdv "_law_is_refused" = true) (k : PySem.W.keepIn K (.ref f) = true) : DefAt K mg "_law_is_refused" s_Lis_refused ["_law_value", "_law_inputs"] :=
  ⟨_, _, fun_mk (st := s_Lis_refused) l c k, PySem.W.mg_of X G a, (fun_mk (st := s_Lis_refused) l c k).binds fun _ _ _ _ _ _ us hl => match us, hl with | [_, _], _ => rfl⟩
theorem d_law_told (X : K.In h) (G : h.Ns mainGlobals mg) {oc kV doc pm cdv ct : Value} {od an : Option Addr} {osl : Array (Option Value)} {f : Addr} (a : PySem.W.nsIn K mainGlobals "_law_told" = some (some (.ref f))) (l : K.lookup f = some ⟨oc, od, .func (PySem.W.fnOf "_law_told" "_law_told" (defArgs s_Ltold) (defBody s_Ltold) (defScope s_Ltold) .none kV doc pm an cdv ct), osl⟩)
    (c : PySem.W.codeIn K cdv "_law_told" = true) (k : PySem.W.keepIn K (.ref f) = true) : DefAt K mg "_law_told" s_Ltold ["_law_hand", "_law_table"] :=
  ⟨_, _, fun_mk (st := s_Ltold) l c k, PySem.W.mg_of X G a, (fun_mk (st := s_Ltold) l c k).binds fun _ _ _ _ _ _ us hl => match us, hl with | [_, _], _ => rfl⟩
theorem d_law_asked (X : K.In h) (G : h.Ns mainGlobals mg) {oc kV doc pm cdv ct : Value} {od an : Option Addr} {osl : Array (Option Value)} {f : Addr} (a : PySem.W.nsIn K mainGlobals "_law_asked" = some (some (.ref f))) (l : K.lookup f = some ⟨oc, od, .func (PySem.W.fnOf "_law_asked" "_law_asked" (defArgs s_Lasked) (defBody s_Lasked) (defScope s_Lasked) .none kV doc pm an cdv ct), osl⟩)
    (c : PySem.W.codeIn K cdv "_law_asked" = true) (k : PySem.W.keepIn K (.ref f) = true) : DefAt K mg "_law_asked" s_Lasked ["_law_hand"] :=
  ⟨_, _, fun_mk (st := s_Lasked) l c k, PySem.W.mg_of X G a, (fun_mk (st := s_Lasked) l c k).binds fun _ _ _ _ _ _ us hl => match us, hl with | [_], _ => rfl⟩
theorem m_is_even (cl : Cls K C) {oc kV doc pm cdv ct : Value} {od an : Option Addr} {osl : Array (Option Value)} {f : Addr} (a : PySem.W.findIn K (.ref C) "is_even" = some (some (.ref f))) (i : PySem.W.isFn K (.ref f) = true) (l : K.lookup f = some ⟨oc, od, .func (PySem.W.fnOf "is_even" "Part.is_even" (defArgs s_Part_is_even) (defBody s_Part_is_even) (defScope s_Part_is_even) .none kV doc pm an cdv ct), osl⟩)
    (c : PySem.W.codeIn K cdv "Part.is_even" = true) (k : PySem.W.keepIn K (.ref f) = true) : MetAt K C "is_even" "Part.is_even" s_Part_is_even ["self"] :=
  ⟨_, _, fun_mk (st := s_Part_is_even) l c k, ⟨a, i, k⟩, (fun_mk (st := s_Part_is_even) l c k).binds fun _ _ _ _ _ _ us hl => match us, hl with | [_], _ => rfl, cl⟩
theorem m_row_bundles (cl : Cls K C) {oc kV doc pm cdv ct : Value} {od an : Option Addr} {osl : Array (Option Value)} {f : Addr} (a : PySem.W.findIn K (.ref C) "row_bundles" = some (some (.ref f))) (i : PySem.W.isFn K (.ref f) = true) (l : K.lookup f = some ⟨oc, od, .func (PySem.W.fnOf "row_bundles" "Part.row_bundles" (defArgs s_Part_row_bundles) (defBody s_Part_row_bundles) (defScope s_Part_row_bundles) .none kV doc pm an cdv ct), osl⟩)
    (c : PySem.W.codeIn K cdv "Part.row_bundles" = true) (k : PySem.W.keepIn K (.ref f) = true) : MetAt K C "row_bundles" "Part.row_bundles" s_Part_row_bundles ["self"] :=
  ⟨_, _, fun_mk (st := s_Part_row_bundles) l c k, ⟨a, i, k⟩, (fun_mk (st := s_Part_row_bundles) l c k).binds fun _ _ _ _ _ _ us hl => match us, hl with | [_], _ => rfl, cl⟩
theorem m_column_bundles (cl : Cls K C) {oc kV doc pm cdv ct : Value} {od an : Option Addr} {osl : Array (Option Value)} {f : Addr} (a : PySem.W.findIn K (.ref C) "column_bundles" = some (some (.ref f))) (i : PySem.W.isFn K (.ref f) = true) (l : K.lookup f = some ⟨oc, od, .func (PySem.W.fnOf "column_bundles" "Part.column_bundles" (defArgs s_Part_column_bundles) (defBody s_Part_column_bundles) (defScope s_Part_column_bundles) .none kV doc pm an cdv ct), osl⟩)
    (c : PySem.W.codeIn K cdv "Part.column_bundles" = true) (k : PySem.W.keepIn K (.ref f) = true) : MetAt K C "column_bundles" "Part.column_bundles" s_Part_column_bundles ["self"] :=
  ⟨_, _, fun_mk (st := s_Part_column_bundles) l c k, ⟨a, i, k⟩, (fun_mk (st := s_Part_column_bundles) l c k).binds fun _ _ _ _ _ _ us hl => match us, hl with | [_], _ => rfl, cl⟩
theorem m_cut (cl : Cls K C) {oc kV doc pm cdv ct : Value} {od an : Option Addr} {osl : Array (Option Value)} {f : Addr} (a : PySem.W.findIn K (.ref C) "cut" = some (some (.ref f))) (i : PySem.W.isFn K (.ref f) = true) (l : K.lookup f = some ⟨oc, od, .func (PySem.W.fnOf "cut" "Part.cut" (defArgs s_Part_cut) (defBody s_Part_cut) (defScope s_Part_cut) .none kV doc pm an cdv ct), osl⟩)
    (c : PySem.W.codeIn K cdv "Part.cut" = true) (k : PySem.W.keepIn K (.ref f) = true) : MetAt K C "cut" "Part.cut" s_Part_cut ["self"] :=
  ⟨_, _, fun_mk (st := s_Part_cut) l c k, ⟨a, i, k⟩, (fun_mk (st := s_Part_cut) l c k).binds fun _ _ _ _ _ _ us hl => match us, hl with | [_], _ => rfl, cl⟩
theorem m_init (X : K.In h) (G : h.Ns mainGlobals mg) (aC : PySem.W.nsIn K mainGlobals "Part" = some (some (.ref C))) (mk : PySem.W.makesIn K C = true) (kC : PySem.W.keepIn K (.ref C) = true) {oc kV doc pm cdv ct : Value} {od an : Option Addr} {osl : Array (Option Value)} {f : Addr} (a : PySem.W.findIn K (.ref C) "__init__" = some (some (.ref f))) (i : PySem.W.isFn K (.ref f) = true)
    (l : K.lookup f = some ⟨oc, od, .func (PySem.W.fnOf "__init__" "Part.__init__" (defArgs s_Part_init) (defBody s_Part_init) (defScope s_Part_init) .none kV doc pm an cdv ct), osl⟩)
    (c : PySem.W.codeIn K cdv "Part.__init__" = true) (k : PySem.W.keepIn K (.ref f) = true) : MakAt K mg "Part" C "Part.__init__" s_Part_init ["self", "table", "rows", "columns"] :=
  ⟨_, _, fun_mk (st := s_Part_init) l c k, ⟨mk, a, i, kC⟩, PySem.W.mg_of X G aC, (fun_mk (st := s_Part_init) l c k).binds fun _ _ _ _ _ _ us hl => match us, hl with | [_, _, _, _], _ => rfl⟩
theorem names_mk (X : K.In h) (G : h.Ns mainGlobals mg) {t : Tok} (z_len : PySem.W.nsIn K mainGlobals "len" = some none) (z_range : PySem.W.nsIn K mainGlobals "range" = some none) (z_list : PySem.W.nsIn K mainGlobals "list" = some none) (z_tuple : PySem.W.nsIn K mainGlobals "tuple" = some none) (z_int : PySem.W.nsIn K mainGlobals "int" = some none) (z_bool : PySem.W.nsIn K mainGlobals "bool" = some none) (z_str : PySem.W.nsIn K mainGlobals "str" = some none) (z_isinstance : PySem.W.nsIn K mainGlobals "isinstance" = some none) (z_abs : PySem.W.nsIn K mainGlobals "abs" = some none) (z_sorted : PySem.W.nsIn K mainGlobals "sorted" = some none) (z_all : PySem.W.nsIn K mainGlobals "all" = some none) (z_reversed : PySem.W.nsIn K mainGlobals "reversed" = some none) (z_zip : PySem.W.nsIn K mainGlobals "zip" = some none) (zm : PySem.W.nsIn K mainGlobals "MOST_LINES" = some (some (.int 100 t))) : Bt mg :=
  ⟨PySem.W.mg_none_of X G z_len, PySem.W.mg_none_of X G z_range, PySem.W.mg_none_of X G z_list, PySem.W.mg_none_of X G z_tuple, PySem.W.mg_none_of X G z_int, PySem.W.mg_none_of X G z_bool, PySem.W.mg_none_of X G z_str, PySem.W.mg_none_of X G z_isinstance, PySem.W.mg_none_of X G z_abs, PySem.W.mg_none_of X G z_sorted, PySem.W.mg_none_of X G z_all, PySem.W.mg_none_of X G z_reversed, PySem.W.mg_none_of X G z_zip, ⟨_, PySem.W.mg_of X G zm, t, rfl⟩⟩
theorem kit_no {A B : Addr} (ne : (Value.ref A == Value.ref B) = false) (hc : PySem.W.isClsIn K B = true) (ht : PySem.W.typeIn K (.ref B) = some (.type "type")) (hs : PySem.W.subIn K (.ref A) (.ref B) = some false) : PySem.W.kitOne K (.ref A) (.ref B) = some false := by
  have e2 : ((PySem.W.clsIn K B).isSome && PySem.W.typeIn K (.ref B) == some (.type "type")) = true := by
    have hc' : (PySem.W.clsIn K B).isSome = true := hc
    rw [hc', ht] <;> rfl
  show (if (Value.ref A == Value.ref B) = true then some true else if ((PySem.W.clsIn K B).isSome && PySem.W.typeIn K (.ref B) == some (.type "type")) = true then PySem.W.subIn K (.ref A) (.ref B) else none) = some false
  rw [ne, if_neg Bool.false_ne_true, if_pos e2]
  exact hs
theorem other_mk (X : K.In h) (G : h.Ns mainGlobals mg) {x : Str} {A B : Addr} (a : PySem.W.nsIn K mainGlobals x = some (some (.ref B))) (ne : (Value.ref A == Value.ref B) = false) (hc : PySem.W.isClsIn K B = true) (ht : PySem.W.typeIn K (.ref B) = some (.type "type"))
    (hs : PySem.W.subIn K (.ref A) (.ref B) = some false) : ∃ c : Addr, mg x = some (.ref c) ∧ PySem.W.kitOne K (.ref A) (.ref c) = some false := ⟨B, PySem.W.mg_of X G a, kit_no ne hc ht hs⟩
theorem part_mk (pg : PySem.W.plainGet K C Str.empty = true) (hd : PySem.W.hasDictIn K C = true) (po : PySem.W.plainOver K C = true) (sa : PySem.W.findIn K (.ref C) "__setattr__" = some (some (.builtin "object.__setattr__")))
    (n1 : PySem.W.findIn K (.ref C) "table" = some none) (n2 : PySem.W.findIn K (.ref C) "rows" = some none) (n3 : PySem.W.findIn K (.ref C) "columns" = some none) : PartC K C := ⟨⟨pg, hd, po, sa⟩, n1, n2, n3⟩
theorem bad_mk (X : K.In h) (G : h.Ns mainGlobals mg) {cB : Addr} (a : PySem.W.nsIn K mainGlobals "BadTable" = some (some (.ref cB))) (ex : PySem.W.excIn K cB [.type "ValueError", .type "Exception", .type "BaseException", .type "object"] "ValueError.__new__" = true)
    (kp : PySem.W.keepIn K (.ref cB) = true) (sb : PySem.W.subIn K (.ref cB) (.type "BaseException") = some true) (ty : PySem.W.typeIn K (.ref cB) = some (.type "type")) (hd : PySem.W.hasDictIn K cB = true) (ss : PySem.W.subIn K (.ref cB) (.ref cB) = some true) : BadC K mg cB :=
  ⟨PySem.W.mg_of X G a, ex, kp, sb, ty, PySem.W.exm_ref sb hd ty ss⟩
end
/-- all of it together -/
theorem fin_mk {l : PySem.W.OpenLaw} {w : World} {K : PySem.W.Frag} {h : Heap} {mg : Str → Option Value} {fa C cB : Addr} (X : K.In h) (G : h.Ns mainGlobals mg) (hfa : mg "law" = some (.ref fa)) (T : Bt mg) (TC : PartC K C) (B : BadC K mg cB) (EC : ExcC K cB) (O : Others K mg cB)
    (MI : MakAt K mg "Part" C "Part.__init__" s_Part_init ["self", "table", "rows", "columns"])
    (M_is_even : MetAt K C "is_even" "Part.is_even" s_Part_is_even ["self"]) (M_row_bundles : MetAt K C "row_bundles" "Part.row_bundles" s_Part_row_bundles ["self"]) (M_column_bundles : MetAt K C "column_bundles" "Part.column_bundles" s_Part_column_bundles ["self"]) (M_cut : MetAt K C "cut" "Part.cut" s_Part_cut ["self"])
    (D_is_integer : DefAt K mg "is_integer" s_is_integer ["value"]) (D_is_listed : DefAt K mg "is_listed" s_is_listed ["values"]) (D_check_table : DefAt K mg "check_table" s_check_table ["table"]) (D_bundles_of : DefAt K mg "bundles_of" s_bundles_of ["lines"]) (D_are_tied : DefAt K mg "are_tied" s_are_tied ["first", "second"]) (D_whole : DefAt K mg "whole" s_whole ["table"]) (D_knot_of : DefAt K mg "knot_of" s_knot_of ["table"]) (D_bits_inside : DefAt K mg "bits_inside" s_bits_inside ["many", "inside"]) (D_tree_for : DefAt K mg "tree_for" s_tree_for ["part"]) (D_talk_for : DefAt K mg "talk_for" s_talk_for ["table"]) (D_last_part : DefAt K mg "last_part" s_last_part ["table", "inputs"]) (D_law_draws : DefAt K mg "_law_draws" s_Ldraws ["_law_script", "_law_many"]) (D_law_take : DefAt K mg "_law_take" s_Ltake ["_law_hand", "_law_many"]) (D_law_answer : DefAt K mg "_law_answer" s_Lanswer ["_law_table", "_law_side", "_law_mine", "_law_other"]) (D_law_same : DefAt K mg "_law_same" s_Lsame ["_law_told_here", "_law_due"]) (D_law_ties : DefAt K mg "_law_ties" s_Lties ["_law_table", "_law_side", "_law_line", "_law_bundle", "_law_cross"]) (D_law_bundles : DefAt K mg "_law_bundles" s_Lbundles ["_law_table", "_law_side", "_law_lines", "_law_cross"]) (D_law_is_even : DefAt K mg "_law_is_even" s_Lis_even ["_law_table", "_law_rows", "_law_columns"]) (D_law_parts : DefAt K mg "_law_parts" s_Lparts ["_law_table", "_law_rows", "_law_columns"]) (D_law_whole_parts : DefAt K mg "_law_whole_parts" s_Lwhole_parts ["_law_table"]) (D_law_knot : DefAt K mg "_law_knot" s_Lknot ["_law_table"]) (D_law_filled : DefAt K mg "_law_filled" s_Lfilled ["_law_cells", "_law_hand", "_law_rows", "_law_columns", "_law_side", "_law_deep"]) (D_law_apart : DefAt K mg "_law_apart" s_Lapart ["_law_hand", "_law_rows", "_law_columns"]) (D_law_touched : DefAt K mg "_law_touched" s_Ltouched ["_law_hand", "_law_table"]) (D_law_drawn : DefAt K mg "_law_drawn" s_Ldrawn ["_law_hand", "_law_rows", "_law_columns"]) (D_law_tree_for : DefAt K mg "_law_tree_for" s_Ltree_for ["_law_table", "_law_rows", "_law_columns"]) (D_law_talk_for : DefAt K mg "_law_talk_for" s_Ltalk_for ["_law_table"]) (D_law_no_table : DefAt K mg "_law_no_table" s_Lno_table ["_law_hand", "_law_table"]) (D_law_long : DefAt K mg "_law_long" s_Llong ["_law_hand"]) (D_law_is_alone : DefAt K mg "_law_is_alone" s_Lis_alone ["_law_e"]) (D_law_is_refused : DefAt K mg "_law_is_refused" s_Lis_refused ["_law_value", "_law_inputs"]) (D_law_told : DefAt K mg "_law_told" s_Ltold ["_law_hand", "_law_table"]) (D_law_asked : DefAt K mg "_law_asked" s_Lasked ["_law_hand"])
    {oc kV doc pm cdv ct : Value} {od an : Option Addr} {osl : Array (Option Value)} {f : Addr} (a : PySem.W.nsIn K mainGlobals "law" = some (some (.ref f))) (lk : K.lookup f = some ⟨oc, od, .func (PySem.W.fnOf "law" "law" (defArgs s_law) (defBody s_law) (defScope s_law) .none kV doc pm an cdv ct), osl⟩) (c : PySem.W.codeIn K cdv "law" = true) (k : PySem.W.keepIn K (.ref f) = true) :
    ∃ fd : FuncData, (∀ (s : Shared) (u : Value), BindsTo s fd ⟨[u], []⟩ [("_law_script", u)]) ∧ ∀ base : Heap, K.In base → base.Ns mainGlobals mg → FnOk l.prog w K mg base L2.CX0 29 fa fd ["_law_script"] (spLaw K) := by
  have e := hfa.symm.trans (PySem.W.mg_of X G a)
  cases e
  have F := fun_mk (st := s_law) lk c k
  refine ⟨PySem.W.fnOf "law" "law" (defArgs s_law) (defBody s_law) (defScope s_law) .none kV doc pm an cdv ct, fun s v => .of_eq rfl, fun base _ _ => ?_⟩
  have c_take : C8.Cal l.prog w K mg base 1 "_law_take" spTake [] := k_take T D_law_take
  have c_even : C8.Cal l.prog w K mg base 1 "_law_is_even" spLeven [] := k_Leven D_law_is_even
  have c_bun := k_Lbundles T (k_ties (k_ans (P := l.prog) (w := w) (base := base) D_law_answer) D_law_ties) D_law_bundles
  have c_whole := k_Lwhole T (k_Lparts T c_even c_bun D_law_parts 20) D_law_whole_parts
  have c_knot := k_Lknot T c_whole D_law_knot
  have c_talk := k_Ltalk T (k_Ltree T c_even c_bun D_law_tree_for 20) D_law_talk_for
  have c_init : C8.Mak l.prog w K mg base 1 "Part" C (spInit C) [] := k_init TC MI
  have c_pe : C8.Met l.prog w K mg base 1 C "is_even" (spPeven C) [] := k_Peven T TC M_is_even
  have c_pb : C8.Cal l.prog w K mg base 2 "bundles_of" spBundles [] := k_bundles T (k_tied T D_are_tied) D_bundles_of
  have c_pw := k_whole T c_init D_whole
  have c_cut := k_cut T TC c_init c_pe (k_row_bundles TC c_pb M_row_bundles) (k_column_bundles TC c_pb M_column_bundles) M_cut
  have c_chk : CalX l.prog w K mg base 3 "check_table" (spCheck cB) := k_check T B (k_listed T (k_integer T D_is_integer) D_is_listed) D_check_table
  have c_kn := k_knot_of T TC c_chk c_pw c_cut c_pe D_knot_of
  have c_pt := k_Ptree T TC c_cut (k_bits T D_bits_inside) D_tree_for 20
  have c_pk := k_Ptalk B c_kn c_pw c_pt D_talk_for
  have c_pl := k_last T B TC c_kn c_pw c_cut D_last_part
  have c_ref := k_Lrefused T B EC O D_law_is_alone c_pk c_pl D_law_is_refused
  have c_told := k_Ltold T c_take c_knot c_ref (k_same T D_law_same 26) c_pk c_talk c_whole c_pl D_law_told
  have c_apart := k_Lapart T c_take (k_Lfilled T c_take D_law_filled 5) D_law_apart
  have c_drawn := k_Ldrawn T c_take c_apart (k_Ltouched T c_take D_law_touched) D_law_drawn
  have c_asked := k_Lasked T c_take c_drawn c_apart (k_Llong T c_take D_law_long) c_told c_ref (k_Lno T c_take D_law_no_table) D_law_asked
  exact k_law T (k_Ldraws T D_law_draws) c_asked F
theorem walk {l : PySem.W.OpenLaw} {q : Program} {loose : List Str} {XP : (Str → Option Value) → Heap → Prop} {YP : World → Heap → Prop} {d : DefRec} {K : Params → PySem.W.Frag} (hn : l.most = some 63) (hdf : d.params.defaults = [])
    (hY : ∀ (w : World) (h : Heap), YP w h → (K w.params).In h)
    (F : ∀ (w : World) (mg : Str → Option Value) (fa : Addr) (h : Heap), (K w.params).In h → h.Ns mainGlobals mg → mg d.name = some (.ref fa) →
      ∃ fd : FuncData, (∀ (s : Shared) (u : Value), BindsTo s fd ⟨[u], []⟩ [("_law_script", u)]) ∧ ∀ base : Heap, (K w.params).In base → base.Ns mainGlobals mg → FnOk l.prog w (K w.params) mg base L2.CX0 29 fa fd ["_law_script"] (spLaw (K w.params))) :
    PySem.W.WalkO q loose XP YP l.row.toRowW d [] (fun f vs => PySem.call f vs) :=
  L2.walk_of (n := 63) (k := 29) (x := "_law_script") (CX := fun _ => L2.CX0) (sp := fun w => spLaw (K w.params)) hn (by decide) hdf ⟨rfl, by decide, by decide⟩ hY F (fun _ _ a ns hl _ hS => ⟨a, ns, rfl, hS, hl, fun _ => rfl⟩) fun _ _ _ _ _ z => z
end K9
set_option Elab.async false
set_option linter.all false
set_option maxRecDepth 100000
open PySem PySem.W PyProof.Rows
set_option maxRecDepth 100000 in
set_option maxHeartbeats 0 in
theorem PySem.Challenge.cw_jointhands_k09_talk_for_holds : PySem.Challenge.rw_jointhands_k09_talk_for.Holds := by
  w_on; o_law; k_head; (case hw => w_witness2)
  k_fill
  refine K9.walk (l := PySem.Challenge.rw_jointhands_k09_talk_for) rfl rfl (fun w h Y => PySem.W.kIn_of Y) ?F
  case F =>
    intro w mg fa h KX G hmg
    refine' K9.fin_mk KX G hmg ?T ?TC ?B ?EC ?O ?MI ?M0 ?M1 ?M2 ?M3 ?D0 ?D1 ?D2 ?D3 ?D4 ?D5 ?D6 ?D7 ?D8 ?D9 ?D10 ?D11 ?D12 ?D13 ?D14 ?D15 ?D16 ?D17 ?D18 ?D19 ?D20 ?D21 ?D22 ?D23 ?D24 ?D25 ?D26 ?D27 ?D28 ?D29 ?D30 ?D31 ?D32 ?a ?lk ?c ?k
    case T =>
      refine' K9.names_mk KX G ?T_z_len ?T_z_range ?T_z_list ?T_z_tuple ?T_z_int ?T_z_bool ?T_z_str ?T_z_isinstance ?T_z_abs ?T_z_sorted ?T_z_all ?T_z_reversed ?T_z_zip ?T_zm
      (case T_z_len => k_is)
      (case T_z_range => k_is)
      (case T_z_list => k_is)
      (case T_z_tuple => k_is)
      (case T_z_int => k_is)
      (case T_z_bool => k_is)
      (case T_z_str => k_is)
      (case T_z_isinstance => k_is)
      (case T_z_abs => k_is)
      (case T_z_sorted => k_is)
      (case T_z_all => k_is)
      (case T_z_reversed => k_is)
      (case T_z_zip => k_is)
      (case T_zm => k_is)
    case MI =>
      refine' K9.m_init KX G ?MI_aC ?MI_mk ?MI_kC ?MI_a ?MI_i ?MI_l ?MI_c ?MI_k
      (case MI_aC => k_is)
      (case MI_mk => k_is)
      (case MI_kC => k_is)
      (case MI_a => k_is)
      (case MI_i => k_is)
      (case MI_l => k_is)
      (case MI_c => k_is)
      (case MI_k => k_is)
    case TC =>
      refine' K9.part_mk ?TC_pg ?TC_hd ?TC_po ?TC_sa ?TC_n1 ?TC_n2 ?TC_n3
      (case TC_pg => k_is)
      (case TC_hd => k_is)
      (case TC_po => k_is)
      (case TC_sa => k_is)
      (case TC_n1 => k_is)
      (case TC_n2 => k_is)
      (case TC_n3 => k_is)
    case B =>
      refine' K9.bad_mk KX G ?B_a ?B_ex ?B_kp ?B_sb ?B_ty ?B_hd ?B_ss
      (case B_a => k_is)
      (case B_ex => k_exc)
      (case B_kp => k_is)
      (case B_sb => k_is)
      (case B_ty => k_is)
      (case B_hd => k_is)
      (case B_ss => first | k_is | rfl)
    case EC =>
      refine' ⟨?EC_hg, ?EC_hk, ?EC_hs, ?EC_hd, ?EC_ha, ?EC_hn, ?EC_ht, ?EC_hm⟩
      (case EC_hg => first | k_is | rfl)
      (case EC_hk => first | k_is | rfl)
      (case EC_hs => first | k_is | rfl)
      (case EC_hd => first | k_is | rfl)
      (case EC_ha => first | k_is | rfl)
      (case EC_hn => first | k_is | rfl)
      (case EC_ht => first | k_is | rfl)
      (case EC_hm => first | k_is | rfl)
    case O =>
      refine' ⟨K9.other_mk KX G ?O_a0 ?O_n0 ?O_c0 ?O_t0 ?O_s0, K9.other_mk KX G ?O_a1 ?O_n1 ?O_c1 ?O_t1 ?O_s1, K9.other_mk KX G ?O_a2 ?O_n2 ?O_c2 ?O_t2 ?O_s2, K9.other_mk KX G ?O_a3 ?O_n3 ?O_c3 ?O_t3 ?O_s3, K9.other_mk KX G ?O_a4 ?O_n4 ?O_c4 ?O_t4 ?O_s4, K9.other_mk KX G ?O_a5 ?O_n5 ?O_c5 ?O_t5 ?O_s5, K9.other_mk KX G ?O_a6 ?O_n6 ?O_c6 ?O_t6 ?O_s6, K9.other_mk KX G ?O_a7 ?O_n7 ?O_c7 ?O_t7 ?O_s7⟩
      (case O_a0 => k_is)
      (case O_n0 => first | rfl | decide)
      (case O_c0 => k_is)
      (case O_t0 => k_is)
      (case O_s0 => k_is)
      (case O_a1 => k_is)
      (case O_n1 => first | rfl | decide)
      (case O_c1 => k_is)
      (case O_t1 => k_is)
      (case O_s1 => k_is)
      (case O_a2 => k_is)
      (case O_n2 => first | rfl | decide)
      (case O_c2 => k_is)
      (case O_t2 => k_is)
      (case O_s2 => k_is)
      (case O_a3 => k_is)
      (case O_n3 => first | rfl | decide)
      (case O_c3 => k_is)
      (case O_t3 => k_is)
      (case O_s3 => k_is)
      (case O_a4 => k_is)
      (case O_n4 => first | rfl | decide)
      (case O_c4 => k_is)
      (case O_t4 => k_is)
      (case O_s4 => k_is)
      (case O_a5 => k_is)
      (case O_n5 => first | rfl | decide)
      (case O_c5 => k_is)
      (case O_t5 => k_is)
      (case O_s5 => k_is)
      (case O_a6 => k_is)
      (case O_n6 => first | rfl | decide)
      (case O_c6 => k_is)
      (case O_t6 => k_is)
      (case O_s6 => k_is)
      (case O_a7 => k_is)
      (case O_n7 => first | rfl | decide)
      (case O_c7 => k_is)
      (case O_t7 => k_is)
      (case O_s7 => k_is)
    case M0 =>
      refine' K9.m_is_even ⟨?M0_pg, ?M0_hd, ?M0_po, ?M0_sa⟩ ?M0_a ?M0_i ?M0_l ?M0_c ?M0_k
      (case M0_pg => k_is)
      (case M0_hd => k_is)
      (case M0_po => k_is)
      (case M0_sa => k_is)
      (case M0_a => k_is)
      (case M0_i => k_is)
      (case M0_l => k_is)
      (case M0_c => k_is)
      (case M0_k => k_is)
    case M1 =>
      refine' K9.m_row_bundles ⟨?M1_pg, ?M1_hd, ?M1_po, ?M1_sa⟩ ?M1_a ?M1_i ?M1_l ?M1_c ?M1_k
      (case M1_pg => k_is)
      (case M1_hd => k_is)
      (case M1_po => k_is)
      (case M1_sa => k_is)
      (case M1_a => k_is)
      (case M1_i => k_is)
      (case M1_l => k_is)
      (case M1_c => k_is)
      (case M1_k => k_is)
    case M2 =>
      refine' K9.m_column_bundles ⟨?M2_pg, ?M2_hd, ?M2_po, ?M2_sa⟩ ?M2_a ?M2_i ?M2_l ?M2_c ?M2_k
      (case M2_pg => k_is)
      (case M2_hd => k_is)
      (case M2_po => k_is)
      (case M2_sa => k_is)
      (case M2_a => k_is)
      (case M2_i => k_is)
      (case M2_l => k_is)
      (case M2_c => k_is)
      (case M2_k => k_is)
    case M3 =>
      refine' K9.m_cut ⟨?M3_pg, ?M3_hd, ?M3_po, ?M3_sa⟩ ?M3_a ?M3_i ?M3_l ?M3_c ?M3_k
      (case M3_pg => k_is)
      (case M3_hd => k_is)
      (case M3_po => k_is)
      (case M3_sa => k_is)
      (case M3_a => k_is)
      (case M3_i => k_is)
      (case M3_l => k_is)
      (case M3_c => k_is)
      (case M3_k => k_is)
    case D0 =>
      refine' K9.d_is_integer KX G ?D0_a ?D0_l ?D0_c ?D0_k
      (case D0_a => k_is)
      (case D0_l => k_is)
      (case D0_c => k_is)
      (case D0_k => k_is)
    case D1 =>
      refine' K9.d_is_listed KX G ?D1_a ?D1_l ?D1_c ?D1_k
      (case D1_a => k_is)
      (case D1_l => k_is)
      (case D1_c => k_is)
      (case D1_k => k_is)
    case D2 =>
      refine' K9.d_check_table KX G ?D2_a ?D2_l ?D2_c ?D2_k
      (case D2_a => k_is)
      (case D2_l => k_is)
      (case D2_c => k_is)
      (case D2_k => k_is)
    case D3 =>
      refine' K9.d_bundles_of KX G ?D3_a ?D3_l ?D3_c ?D3_k
      (case D3_a => k_is)
      (case D3_l => k_is)
      (case D3_c => k_is)
      (case D3_k => k_is)
    case D4 =>
      refine' K9.d_are_tied KX G ?D4_a ?D4_l ?D4_c ?D4_k
      (case D4_a => k_is)
      (case D4_l => k_is)
      (case D4_c => k_is)
      (case D4_k => k_is)
    case D5 =>
      refine' K9.d_whole KX G ?D5_a ?D5_l ?D5_c ?D5_k
      (case D5_a => k_is)
      (case D5_l => k_is)
      (case D5_c => k_is)
      (case D5_k => k_is)
    case D6 =>
      refine' K9.d_knot_of KX G ?D6_a ?D6_l ?D6_c ?D6_k
      (case D6_a => k_is)
      (case D6_l => k_is)
      (case D6_c => k_is)
      (case D6_k => k_is)
    case D7 =>
      refine' K9.d_bits_inside KX G ?D7_a ?D7_l ?D7_c ?D7_k
      (case D7_a => k_is)
      (case D7_l => k_is)
      (case D7_c => k_is)
      (case D7_k => k_is)
    case D8 =>
      refine' K9.d_tree_for KX G ?D8_a ?D8_l ?D8_c ?D8_k
      (case D8_a => k_is)
      (case D8_l => k_is)
      (case D8_c => k_is)
      (case D8_k => k_is)
    case D9 =>
      refine' K9.d_talk_for KX G ?D9_a ?D9_l ?D9_c ?D9_k
      (case D9_a => k_is)
      (case D9_l => k_is)
      (case D9_c => k_is)
      (case D9_k => k_is)
    case D10 =>
      refine' K9.d_last_part KX G ?D10_a ?D10_l ?D10_c ?D10_k
      (case D10_a => k_is)
      (case D10_l => k_is)
      (case D10_c => k_is)
      (case D10_k => k_is)
    case D11 =>
      refine' K9.d_law_draws KX G ?D11_a ?D11_l ?D11_c ?D11_k
      (case D11_a => k_is)
      (case D11_l => k_is)
      (case D11_c => k_is)
      (case D11_k => k_is)
    case D12 =>
      refine' K9.d_law_take KX G ?D12_a ?D12_l ?D12_c ?D12_k
      (case D12_a => k_is)
      (case D12_l => k_is)
      (case D12_c => k_is)
      (case D12_k => k_is)
    case D13 =>
      refine' K9.d_law_answer KX G ?D13_a ?D13_l ?D13_c ?D13_k
      (case D13_a => k_is)
      (case D13_l => k_is)
      (case D13_c => k_is)
      (case D13_k => k_is)
    case D14 =>
      refine' K9.d_law_same KX G ?D14_a ?D14_l ?D14_c ?D14_k
      (case D14_a => k_is)
      (case D14_l => k_is)
      (case D14_c => k_is)
      (case D14_k => k_is)
    case D15 =>
      refine' K9.d_law_ties KX G ?D15_a ?D15_l ?D15_c ?D15_k
      (case D15_a => k_is)
      (case D15_l => k_is)
      (case D15_c => k_is)
      (case D15_k => k_is)
    case D16 =>
      refine' K9.d_law_bundles KX G ?D16_a ?D16_l ?D16_c ?D16_k
      (case D16_a => k_is)
      (case D16_l => k_is)
      (case D16_c => k_is)
      (case D16_k => k_is)
    case D17 =>
      refine' K9.d_law_is_even KX G ?D17_a ?D17_l ?D17_c ?D17_k
      (case D17_a => k_is)
      (case D17_l => k_is)
      (case D17_c => k_is)
      (case D17_k => k_is)
    case D18 =>
      refine' K9.d_law_parts KX G ?D18_a ?D18_l ?D18_c ?D18_k
      (case D18_a => k_is)
      (case D18_l => k_is)
      (case D18_c => k_is)
      (case D18_k => k_is)
    case D19 =>
      refine' K9.d_law_whole_parts KX G ?D19_a ?D19_l ?D19_c ?D19_k
      (case D19_a => k_is)
      (case D19_l => k_is)
      (case D19_c => k_is)
      (case D19_k => k_is)
    case D20 =>
      refine' K9.d_law_knot KX G ?D20_a ?D20_l ?D20_c ?D20_k
      (case D20_a => k_is)
      (case D20_l => k_is)
      (case D20_c => k_is)
      (case D20_k => k_is)
    case D21 =>
      refine' K9.d_law_filled KX G ?D21_a ?D21_l ?D21_c ?D21_k
      (case D21_a => k_is)
      (case D21_l => k_is)
      (case D21_c => k_is)
      (case D21_k => k_is)
    case D22 =>
      refine' K9.d_law_apart KX G ?D22_a ?D22_l ?D22_c ?D22_k
      (case D22_a => k_is)
      (case D22_l => k_is)
      (case D22_c => k_is)
      (case D22_k => k_is)
    case D23 =>
      refine' K9.d_law_touched KX G ?D23_a ?D23_l ?D23_c ?D23_k
      (case D23_a => k_is)
      (case D23_l => k_is)
      (case D23_c => k_is)
      (case D23_k => k_is)
    case D24 =>
      refine' K9.d_law_drawn KX G ?D24_a ?D24_l ?D24_c ?D24_k
      (case D24_a => k_is)
      (case D24_l => k_is)
      (case D24_c => k_is)
      (case D24_k => k_is)
    case D25 =>
      refine' K9.d_law_tree_for KX G ?D25_a ?D25_l ?D25_c ?D25_k
      (case D25_a => k_is)
      (case D25_l => k_is)
      (case D25_c => k_is)
      (case D25_k => k_is)
    case D26 =>
      refine' K9.d_law_talk_for KX G ?D26_a ?D26_l ?D26_c ?D26_k
      (case D26_a => k_is)
      (case D26_l => k_is)
      (case D26_c => k_is)
      (case D26_k => k_is)
    case D27 =>
      refine' K9.d_law_no_table KX G ?D27_a ?D27_l ?D27_c ?D27_k
      (case D27_a => k_is)
      (case D27_l => k_is)
      (case D27_c => k_is)
      (case D27_k => k_is)
    case D28 =>
      refine' K9.d_law_long KX G ?D28_a ?D28_l ?D28_c ?D28_k
      (case D28_a => k_is)
      (case D28_l => k_is)
      (case D28_c => k_is)
      (case D28_k => k_is)
    case D29 =>
      refine' K9.d_law_is_alone KX G ?D29_a ?D29_l ?D29_c ?D29_k
      (case D29_a => k_is)
      (case D29_l => k_is)
      (case D29_c => k_is)
      (case D29_k => k_is)
    case D30 =>
      refine' K9.d_law_is_refused KX G ?D30_a ?D30_l ?D30_c ?D30_k
      (case D30_a => k_is)
      (case D30_l => k_is)
      (case D30_c => k_is)
      (case D30_k => k_is)
    case D31 =>
      refine' K9.d_law_told KX G ?D31_a ?D31_l ?D31_c ?D31_k
      (case D31_a => k_is)
      (case D31_l => k_is)
      (case D31_c => k_is)
      (case D31_k => k_is)
    case D32 =>
      refine' K9.d_law_asked KX G ?D32_a ?D32_l ?D32_c ?D32_k
      (case D32_a => k_is)
      (case D32_l => k_is)
      (case D32_c => k_is)
      (case D32_k => k_is)
    (case a => k_is)
    (case lk => k_is)
    (case c => k_is)
    (case k => k_is)
#print axioms PySem.Challenge.cw_jointhands_k09_talk_for_holds
