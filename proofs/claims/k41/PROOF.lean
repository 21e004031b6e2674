import PyProof.Rows.All
import Wide.All
import OpenK.AllK
import Wide.FinOn
import KE.KMinKey
import HandS.ForMost
import HandS.Iter
import HandS.Exc
import HandS.Defaults
import HandS.Lambda
import HandS.Nested
import HandS.SortKw
import HandS.HeadHook4
import HandS.Set
import HandS.SetFor
import HandS.Strs
import HandS.Star
import HandS.Style
import HandS.NoneIn
import HandS.Conv
import HandS.DictComp
import HandS.SortInts
import HandS.Remove
import HandS.IsInst
import KE.KStateDown
import HandS.Head0
import HandS.Head1
import HandS.Head2
import HandS.HeadEnd
import HandS.HeadHook1
import HandS.HeadHook2
import HandS.HeadHook3
import HandS.HeadWalk
import KE.KBits
import KE.BitLaws
import PySem.Challenge.RW_trunkweb_k41_whole_full_reductions
section
/-! Plain mathematics 1: connectedness, the table of Dreyfus and Wagner as a bound from below. -/
namespace TW
abbrev Ed := Int × Int × Int
/-- the edge e lies between x and y -/
def Joins (e : Ed) (x y : Int) : Prop := (e.1 = x ∧ e.2.1 = y) ∨ (e.1 = y ∧ e.2.1 = x)
theorem Joins.symm {e : Ed} {x y : Int} (h : Joins e x y) : Joins e y x := Or.symm h
/-- y is reached from x by edges of T -/
inductive Conn (T : List Ed) : Int → Int → Prop
  | refl (x : Int) : Conn T x x
  | step {x y z : Int} (e : Ed) : Conn T x y → e ∈ T → Joins e y z → Conn T x z
namespace Conn
variable {T T' : List Ed} {x y z : Int}
theorem one {e : Ed} (he : e ∈ T) (j : Joins e x y) : Conn T x y := .step e (.refl x) he j
theorem trans (a : Conn T x y) (b : Conn T y z) : Conn T x z := by
  induction b with
  | refl => exact a
  | step e _ he j ih => exact .step e ih he j
theorem symm (a : Conn T x y) : Conn T y x := by
  induction a with
  | refl => exact .refl _
  | step e _ he j ih => exact (one he j.symm).trans ih
theorem mono (a : Conn T x y) (h : ∀ e ∈ T, e ∈ T') : Conn T' x y := by
  induction a with
  | refl => exact .refl _
  | step e _ he j ih => exact .step e ih (h e he) j
/-- vertices moved by f: each edge's ends stay together -/
theorem map (f : Int → Int) (h : ∀ e ∈ T, Conn T' (f e.1) (f e.2.1)) (a : Conn T x y) : Conn T' (f x) (f y) := by
  induction a with
  | refl => exact .refl _
  | step e _ he j ih =>
    refine ih.trans ?_
    rcases j with ⟨h1, h2⟩ | ⟨h1, h2⟩
    · rw [← h1, ← h2]; exact h e he
    · rw [← h1, ← h2]; exact (h e he).symm
/-- each edge of T is a way in T' -/
theorem sub (h : ∀ e ∈ T, Conn T' e.1 e.2.1) (a : Conn T x y) : Conn T' x y := map id h a
theorem alone (h : ∀ e ∈ T, e.1 ≠ x ∧ e.2.1 ≠ x) (a : Conn T x y) : y = x := by
  induction a with
  | refl => rfl
  | step e _ he j ih =>
    obtain ⟨h1, h2⟩ := h e he
    rcases j with ⟨q1, _⟩ | ⟨_, q2⟩
    · exact absurd (q1.trans ih) h1
    · exact absurd (q2.trans ih) h2
/-- one edge e = (p, q) left out of T: what was reached from p is reached from p or from q -/
theorem cut {e : Ed} {p q : Int} (j : Joins e p q) (h : ∀ d ∈ T, d = e ∨ d ∈ T') (a : Conn T p y) : Conn T' p y ∨ Conn T' q y := by
  induction a with
  | refl => exact .inl (.refl _)
  | step d _ hd jd ih =>
    rcases h d hd with rfl | hd'
    · rcases j with ⟨a1, a2⟩ | ⟨a1, a2⟩ <;> rcases jd with ⟨b1, b2⟩ | ⟨b1, b2⟩
      · right; rw [← a2, ← b2]; exact .refl _
      · left; rw [← a1, ← b1]; exact .refl _
      · left; rw [← a2, ← b2]; exact .refl _
      · right; rw [← a1, ← b1]; exact .refl _
    · rcases ih with ih | ih
      · exact .inl (.step d ih hd' jd)
      · exact .inr (.step d ih hd' jd)
/-- .. from anywhere -/
theorem cut2 {e : Ed} {p q : Int} (j : Joins e p q) (h : ∀ d ∈ T, d = e ∨ d ∈ T') (a : Conn T x y) : Conn T' x y ∨ Conn T' x p ∨ Conn T' x q := by
  induction a with
  | refl => exact .inl (.refl _)
  | step d _ hd jd ih =>
    rcases ih with ih | ih
    · rcases h d hd with rfl | hd'
      · rcases j with ⟨a1, a2⟩ | ⟨a1, a2⟩ <;> rcases jd with ⟨b1, b2⟩ | ⟨b1, b2⟩
        · right; left; rw [← a1, b1]; exact ih
        · right; right; rw [← a2, b2]; exact ih
        · right; right; rw [← a1, b1]; exact ih
        · right; left; rw [← a2, b2]; exact ih
      · exact .inl (.step d ih hd' jd)
    · exact .inr ih
end Conn

/-! ### sums over lists -/
def wt {α : Type} (W : α → Int) (S : List α) : Int := (S.map W).sum
theorem wt_nil {α : Type} (W : α → Int) : wt W [] = 0 := rfl
theorem wt_cons {α : Type} (W : α → Int) (a : α) (S : List α) : wt W (a :: S) = W a + wt W S := by simp [wt]
theorem wt_append {α : Type} (W : α → Int) (S T : List α) : wt W (S ++ T) = wt W S + wt W T := by simp [wt]
theorem wt_nonneg {α : Type} {W : α → Int} {S : List α} (h : ∀ a ∈ S, 0 ≤ W a) : 0 ≤ wt W S := by
  induction S with
  | nil => simp [wt]
  | cons a r ih =>
    rw [wt_cons]
    have h1 := h a (by simp)
    have h2 := ih fun b hb => h b (by simp [hb])
    omega
theorem wt_mid {α : Type} (W : α → Int) (A B : List α) (a : α) : wt W (A ++ a :: B) = W a + wt W (A ++ B) := by
  rw [wt_append, wt_cons, wt_append]; omega
/-- a list without repetition within another weighs no more -/
theorem wt_le {α : Type} {W : α → Int} : ∀ {S M : List α}, S.Nodup → (∀ a ∈ S, a ∈ M) → (∀ a ∈ M, 0 ≤ W a) → wt W S ≤ wt W M
  | [], M, _, _, h => wt_nonneg h
  | a :: r, M, nd, sub, h => by
    obtain ⟨A, B, rfl⟩ := List.append_of_mem (sub a (by simp))
    obtain ⟨h1, h2⟩ := List.nodup_cons.mp nd
    rw [wt_cons, wt_mid]
    have ih := wt_le (W := W) (S := r) (M := A ++ B) h2 (fun b hb => by
      have hm := sub b (by simp [hb])
      have hne : b ≠ a := fun e => h1 (e ▸ hb)
      simp only [List.mem_append, List.mem_cons] at hm ⊢
      rcases hm with hm | hm | hm
      · exact .inl hm
      · exact absurd hm hne
      · exact .inr hm) (fun b hb => h b (by
        simp only [List.mem_append, List.mem_cons] at hb ⊢
        rcases hb with hb | hb
        · exact .inl hb
        · exact .inr (.inr hb)))
    omega
theorem wt_filter {α : Type} (W : α → Int) (p : α → Bool) (S : List α) : wt W S = wt W (S.filter p) + wt W (S.filter fun a => !p a) := by
  induction S with
  | nil => rfl
  | cons a r ih =>
    rw [wt_cons, List.filter_cons, List.filter_cons]
    cases h : p a
    · rw [if_neg (by decide), if_pos (by decide), wt_cons]; omega
    · rw [if_pos rfl, if_neg (by decide), wt_cons]; omega

/-! ### edges by their numbers -/
def pick (es : List Ed) (S : List Nat) : List Ed := S.filterMap fun i => es[i]?
theorem mem_pick {es : List Ed} {S : List Nat} {e : Ed} : e ∈ pick es S ↔ ∃ i ∈ S, es[i]? = some e := by simp [pick, List.mem_filterMap]
theorem pick_sub {es : List Ed} {S S' : List Nat} (h : ∀ i ∈ S, i ∈ S') : ∀ e ∈ pick es S, e ∈ pick es S' := fun e he => by
  obtain ⟨i, hi, q⟩ := mem_pick.mp he
  exact mem_pick.mpr ⟨i, h i hi, q⟩

/-! ### sets of goals, written as numbers below 8 -/
theorem mask_split : ∀ g < 8, ∀ p0 p1 p2 : Bool, ∃ a < 8, ∃ b < 8, a &&& b = 0 ∧ a ||| b = g ∧
    (∀ i < 3, Nat.testBit a i = (Nat.testBit g i && (if i = 0 then p0 else if i = 1 then p1 else p2))) ∧
    (∀ i < 3, Nat.testBit b i = (Nat.testBit g i && !(if i = 0 then p0 else if i = 1 then p1 else p2))) := by decide +kernel
theorem mask_oneB : ∀ g < 8, g ≠ 0 → ((List.range 3).all fun i => (List.range 3).all fun j => !(Nat.testBit g i && Nat.testBit g j) || i == j) = true → ∃ i < 3, g = 2 ^ i ∧ Nat.testBit g i = true := by decide +kernel
theorem mask_one (g : Nat) (hg : g < 8) (h0 : g ≠ 0) (h : ∀ i < 3, ∀ j < 3, Nat.testBit g i = true → Nat.testBit g j = true → i = j) : ∃ i < 3, g = 2 ^ i ∧ Nat.testBit g i = true := by
  refine mask_oneB g hg h0 (List.all_eq_true.mpr fun i hi => List.all_eq_true.mpr fun j hj => ?_)
  have a := h i (List.mem_range.mp hi) j (List.mem_range.mp hj)
  cases h1 : Nat.testBit g i <;> cases h2 : Nat.testBit g j <;> simp_all
theorem mask_some : ∀ g < 8, g ≠ 0 → ∃ i < 3, Nat.testBit g i = true := by decide +kernel
theorem mask_hi : ∀ g < 8, ∀ i, 3 ≤ i → Nat.testBit g i = false := fun g hg i hi => by
  have h : g < 2 ^ i := Nat.lt_of_lt_of_le hg (by
    have : (2:Nat) ^ 3 ≤ 2 ^ i := Nat.pow_le_pow_right (by decide) hi
    exact this)
  exact Nat.testBit_lt_two_pow h
theorem mask_lt : ∀ g < 8, ∀ k ≤ 3, g < 2 ^ k → ∀ i < 3, Nat.testBit g i = true → i < k := by decide +kernel

section
variable {es : List Ed} {W : Nat → Int} {k : Nat} {goals : List Int} {lab : Nat → Int → Option Int}
/-- all goals of g are reached from v -/
def Reach (es : List Ed) (goals : List Int) (S : List Nat) (g : Nat) (v : Int) : Prop := ∀ i t, Nat.testBit g i = true → goals[i]? = some t → Conn (pick es S) v t

/-- the table is a bound from below -/
structure Below (es : List Ed) (W : Nat → Int) (goals : List Int) (lab : Nat → Int → Option Int) : Prop where
  single : ∀ (i : Nat) (t : Int), goals[i]? = some t → ∃ l, lab (2 ^ i) t = some l ∧ l ≤ 0
  edge : ∀ g, 1 ≤ g → g < 2 ^ goals.length → ∀ (i : Nat) (e : Ed) (x y : Int) (l : Int), es[i]? = some e → Joins e x y → lab g x = some l → ∃ l', lab g y = some l' ∧ l' ≤ l + W i
  div : ∀ g a b, 1 ≤ a → 1 ≤ b → a &&& b = 0 → a ||| b = g → g < 2 ^ goals.length → ∀ (v x y : Int), lab a v = some x → lab b v = some y → ∃ z, lab g v = some z ∧ z ≤ x + y

open Classical in
theorem lower (hk : goals.length ≤ 3) (nd : goals.Nodup) (hW : ∀ i, 0 ≤ W i) (B : Below es W goals lab) :
    ∀ (n : Nat) (S : List Nat), S.length ≤ n → ∀ (g : Nat) (v : Int), 1 ≤ g → g < 2 ^ goals.length → Reach es goals S g v → ∃ l, lab g v = some l ∧ l ≤ wt W S := by
  intro n
  induction n with
  | zero =>
    intro S hS g v hg1 hg R
    have e : S = [] := List.length_eq_zero_iff.mp (by omega)
    subst e
    have hg8 : g < 8 := Nat.lt_of_lt_of_le hg (by
      have : (2:Nat) ^ goals.length ≤ 2 ^ 3 := Nat.pow_le_pow_right (by decide) hk
      exact this)
    have at_ : ∀ i < 3, Nat.testBit g i = true → goals[i]? = some v := fun i hi hb => by
      have hik : i < goals.length := mask_lt g hg8 goals.length hk hg i hi hb
      have e1 : goals[i]? = some goals[i] := List.getElem?_eq_getElem hik
      have c := R i _ hb e1
      have := Conn.alone (fun e he => by simp [pick] at he) c
      rw [e1, this]
    obtain ⟨i, hi, eg, hb⟩ := mask_one g hg8 (by omega) fun i hi j hj a b => by
      have h1 := at_ i hi a
      have h2 := at_ j hj b
      obtain ⟨q1, z1⟩ := List.getElem?_eq_some_iff.mp h1
      obtain ⟨q2, z2⟩ := List.getElem?_eq_some_iff.mp h2
      exact (List.getElem_inj nd).mp (z1.trans z2.symm)
    obtain ⟨l, h1, h2⟩ := B.single i v (at_ i hi hb)
    rw [← eg] at h1
    exact ⟨l, h1, by simpa [wt] using h2⟩
  | succ n ih =>
    intro S hS g v hg1 hg R
    have hg8 : g < 8 := Nat.lt_of_lt_of_le hg (by
      have : (2:Nat) ^ goals.length ≤ 2 ^ 3 := Nat.pow_le_pow_right (by decide) hk
      exact this)
    by_cases hinc : ∃ i ∈ S, ∃ e x, es[i]? = some e ∧ Joins e v x
    · obtain ⟨i, hi, e, x, he, j⟩ := hinc
      obtain ⟨A, C, rfl⟩ := List.append_of_mem hi
      have hlen : (A ++ C).length ≤ n := by simp at hS ⊢; omega
      have hsplit : ∀ d ∈ pick es (A ++ i :: C), d = e ∨ d ∈ pick es (A ++ C) := fun d hd => by
        obtain ⟨m, hm, q⟩ := mem_pick.mp hd
        simp only [List.mem_append, List.mem_cons] at hm
        rcases hm with hm | hm | hm
        · exact .inr (mem_pick.mpr ⟨m, by simp [hm], q⟩)
        · subst hm; rw [he] at q; exact .inl (Option.some.inj q).symm
        · exact .inr (mem_pick.mpr ⟨m, by simp [hm], q⟩)
      have hw : wt W (A ++ i :: C) = W i + wt W (A ++ C) := wt_mid W A C i
      have hWi := hW i
      -- the goals that are reached from v without the edge, and the others
      let t : Nat → Int := fun m => goals.getD m 0
      let p : Nat → Bool := fun m => decide (Conn (pick es (A ++ C)) v (t m))
      obtain ⟨a, ha8, b, hb8, hab, habg, hta, htb⟩ := mask_split g hg8 (p 0) (p 1) (p 2)
      have hp : ∀ m < 3, (if m = 0 then p 0 else if m = 1 then p 1 else p 2) = p m := fun m hm => by
        match m, hm with
        | 0, _ => rfl
        | 1, _ => rfl
        | 2, _ => rfl
      have bit3 : ∀ z < 8, ∀ m, Nat.testBit z m = true → m < 3 := fun z hz m hm => by
        by_cases h3 : m < 3
        · exact h3
        · rw [mask_hi z hz m (by omega)] at hm; cases hm
      have tg : ∀ m s, goals[m]? = some s → t m = s := fun m s hs => by simp [t, List.getD, hs]
      have Ra : Reach es goals (A ++ C) a v := fun m s hm hs => by
        have h3 := bit3 a ha8 m hm
        have q := hta m h3
        rw [hm, hp m h3] at q
        have q2 : p m = true := by simp at q; exact q.2.symm ▸ rfl
        have := of_decide_eq_true q2
        rwa [tg m s hs] at this
      have Rb : ∀ m s, Nat.testBit b m = true → goals[m]? = some s → ¬ Conn (pick es (A ++ C)) v s ∧ Conn (pick es (A ++ C)) x s := fun m s hm hs => by
        have h3 := bit3 b hb8 m hm
        have q := htb m h3
        rw [hm, hp m h3] at q
        simp only [Bool.true_eq, Bool.and_eq_true, Bool.not_eq_true'] at q
        have q2 : ¬ Conn (pick es (A ++ C)) v (t m) := of_decide_eq_false q.2
        rw [tg m s hs] at q2
        refine ⟨q2, ?_⟩
        rcases Conn.cut j hsplit (R m s q.1 hs) with c | c
        · exact absurd c q2
        · exact c
      by_cases hb0 : b = 0
      · have eg : a = g := by rw [hb0] at habg; simpa using habg
        obtain ⟨l, h1, h2⟩ := ih (A ++ C) hlen g v hg1 hg (eg ▸ Ra)
        exact ⟨l, h1, by omega⟩
      by_cases ha0 : a = 0
      · have eg : b = g := by rw [ha0] at habg; simpa using habg
        obtain ⟨l, h1, h2⟩ := ih (A ++ C) hlen g x hg1 hg fun m s hm hs => (Rb m s (eg ▸ hm) hs).2
        obtain ⟨l', h3, h4⟩ := B.edge g hg1 hg i e x v l he j.symm h1
        exact ⟨l', h3, by omega⟩
      -- both: the edges are parted by the component of v
      have hal : a < 2 ^ goals.length := Nat.lt_of_le_of_lt (by rw [← habg]; exact Nat.left_le_or) hg
      have hbl : b < 2 ^ goals.length := Nat.lt_of_le_of_lt (by rw [← habg]; exact Nat.right_le_or) hg
      have hvx : ¬ Conn (pick es (A ++ C)) v x := by
        obtain ⟨m, hm3, hm⟩ := mask_some b hb8 hb0
        have hmk : m < goals.length := mask_lt b hb8 goals.length hk hbl m hm3 hm
        obtain ⟨q1, q2⟩ := Rb m _ hm (List.getElem?_eq_getElem hmk)
        exact fun c => q1 (c.trans q2)
      let f : Nat → Bool := fun m => decide (∃ e, es[m]? = some e ∧ Conn (pick es (A ++ C)) v e.1)
      have stay : ∀ {s : Int}, Conn (pick es (A ++ C)) v s → Conn (pick es ((A ++ C).filter f)) v s := fun {s} c => by
        have : Conn (pick es ((A ++ C).filter f)) v s ∧ Conn (pick es (A ++ C)) v s := by
          induction c with
          | refl => exact ⟨.refl _, .refl _⟩
          | step d _ hd jd ih2 =>
            obtain ⟨ih1, ih2⟩ := ih2
            obtain ⟨m, hm, q⟩ := mem_pick.mp hd
            have fm : f m = true := decide_eq_true ⟨d, q, by
              rcases jd with ⟨j1, _⟩ | ⟨j1, j2⟩
              · rw [j1]; exact ih2
              · exact .step d ih2 hd (.inr ⟨rfl, j2⟩)⟩
            exact ⟨.step d ih1 (mem_pick.mpr ⟨m, List.mem_filter.mpr ⟨hm, fm⟩, q⟩) jd, .step d ih2 hd jd⟩
        exact this.1
      have away : ∀ {s : Int}, Conn (pick es (A ++ C)) x s → Conn (pick es ((A ++ C).filter fun m => !f m)) x s := fun {s} c => by
        have : Conn (pick es ((A ++ C).filter fun m => !f m)) x s ∧ Conn (pick es (A ++ C)) x s := by
          induction c with
          | refl => exact ⟨.refl _, .refl _⟩
          | step d _ hd jd ih2 =>
            obtain ⟨ih1, ih2⟩ := ih2
            obtain ⟨m, hm, q⟩ := mem_pick.mp hd
            have fm : f m = false := decide_eq_false fun ⟨d', q', c'⟩ => by
              rw [q] at q'; cases q'
              refine hvx (c'.trans (Conn.symm ?_))
              rcases jd with ⟨j1, _⟩ | ⟨j1, j2⟩
              · rw [j1]; exact ih2
              · exact .step d ih2 hd (.inr ⟨rfl, j2⟩)
            exact ⟨.step d ih1 (mem_pick.mpr ⟨m, List.mem_filter.mpr ⟨hm, by simp [fm]⟩, q⟩) jd, .step d ih2 hd jd⟩
        exact this.1
      obtain ⟨la, h1, h2⟩ := ih _ (Nat.le_trans (List.length_filter_le f _) hlen) a v (by omega) hal fun m s hm hs => stay (Ra m s hm hs)
      obtain ⟨lb, h3, h4⟩ := ih _ (Nat.le_trans (List.length_filter_le (fun m => !f m) _) hlen) b x (by omega) hbl fun m s hm hs => away (Rb m s hm hs).2
      obtain ⟨lb', h5, h6⟩ := B.edge b (by omega) hbl i e x v lb he j.symm h3
      obtain ⟨z, h7, h8⟩ := B.div g a b (by omega) (by omega) hab habg hg v la lb' h1 h5
      have hf := wt_filter W f (A ++ C)
      exact ⟨z, h7, by omega⟩
    · -- no edge at v
      have al : ∀ e ∈ pick es S, e.1 ≠ v ∧ e.2.1 ≠ v := fun e he => by
        obtain ⟨i, hi, q⟩ := mem_pick.mp he
        exact ⟨fun z => hinc ⟨i, hi, e, e.2.1, q, .inl ⟨z, rfl⟩⟩, fun z => hinc ⟨i, hi, e, e.1, q, .inr ⟨rfl, z⟩⟩⟩
      obtain ⟨l, h1, h2⟩ := ih [] (by simp) g v hg1 hg fun i t hb ht => by rw [Conn.alone al (R i t hb ht)]; exact .refl _
      exact ⟨l, h1, Int.le_trans h2 (by simpa [wt] using wt_nonneg (W := W) (S := S) fun a _ => hW a)⟩
end
end TW
end

section
set_option Elab.async false
set_option linter.all false
set_option maxRecDepth 100000
set_option maxHeartbeats 2000000
/-! min(xs, key=lambda v: e) over a list and over a dict's keys: the rule. -/
namespace TW
open PySem PySem.Spec PyProof.Rows L2 LamX NdefX

/-- the context one step further in (a built-in runs) -/
abbrev inX (X : Cx) : Cx := { X with A := X.A.in1 }
section
variable {X : Cx} {pins : List (Addr × Obj)} {σ : L2.St} {H : Hp} {s : Shared}
theorem inv_in (I : Inv X pins σ H s) : Inv (inX X) pins σ H s :=
  ⟨⟨I.ok.mod, I.ok.kind, I.ok.glob, I.ok.blt, I.ok.above, I.ok.inj, I.ok.has, I.ok.cab, I.ok.hd, I.ok.frames, I.ok.stk, I.ok.exf, I.ok.bs, I.ok.bsz, I.ok.noex, I.ok.exfs, I.ok.funs, I.ok.frf⟩,
    I.os, I.bare, I.base, I.loc, I.cell, I.free, I.freeC, I.pin, I.hok, I.len⟩
theorem inv_out (I : Inv (inX X) pins σ H s) : Inv X pins σ H s :=
  ⟨⟨I.ok.mod, I.ok.kind, I.ok.glob, I.ok.blt, I.ok.above, I.ok.inj, I.ok.has, I.ok.cab, I.ok.hd, I.ok.frames, I.ok.stk, I.ok.exf, I.ok.bs, I.ok.bsz, I.ok.noex, I.ok.exfs, I.ok.funs, I.ok.frf⟩,
    I.os, I.bare, I.base, I.loc, I.cell, I.free, I.freeC, I.pin, I.hok, I.len⟩

/-- a target that no tuple goes to -/
abbrev noTg : Expr := .Constant .none 0 ⟨0, 0, 0, 0⟩
/-- an iterator that yields the items xs, the heap kept -/
structure Gives (X : Cx) (H : Hp) (xs : List V) (J : It) (fp : List Addr) (it : Addr) (tn : Nat → Heap → Prop) : Prop where
  T : Turn X.prog X.w X.K noTg J fp it tn
  go : ∀ i, i < xs.length → J.go i H
  yld : ∀ i x H', J.yld i H x H' → H' = H ∧ xs[i]? = some x
  stop : J.stop xs.length H

theorem pinned_fp {pins : List (Addr × Obj)} {h : Heap} {fp : List Addr} {S b : Addr} (f : FpOk X pins H b) (hb : ∀ c ∈ fp, c ≠ b) : FpOk X (pins ++ pinsAt fp h) H b :=
  ⟨f.1, f.2.1, f.2.2.1, f.2.2.2.1, f.2.2.2.2.1, fun p hp => by
    rcases List.mem_append.mp hp with z | z
    · exact f.2.2.2.2.2 p (List.mem_append_left _ z)
    · rcases List.mem_append.mp z with z | z
      · exact f.2.2.2.2.2 p (List.mem_append_right _ z)
      · exact hb _ (of_pinsAt z).1⟩
end

/-- the step that is none: whatever is wished of errors -/
theorem go_any {M : Model} {A : Around} {Q : Unit → Shared → Prop} {E E' : Value → Shared → Prop} {s : Shared} {it : Addr} {v : Value} (h : wpAny M A (letOwnedTupleGo noTg (.ref it) v) Q E s) : wpAny M A (letOwnedTupleGo noTg (.ref it) v) Q E' s :=
  fun G p hG => h G p hG
theorem min_nm : (toString "min" ++ toString ".loop" : String) = "min.loop" := by decide

section
variable {X : Cx} {pins : List (Addr × Obj)} {σ : L2.St} {H : Hp} {xs : List V} {J : It} {fp : List Addr} {it q S : Addr} {tn : Nat → Heap → Prop} {R : Result → Shared → Prop}
/-- the best of the first j + 1 -/
def Best (kf : Nat → Int) (n i : Nat) : Prop := ∀ j, j < n → kf i ≤ kf j ∧ (j < i → kf i < kf j)

theorem min_next (G : Gives X H xs J fp it tn) (hc : X.calm = true) (kf : Nat → Int) (hSf : S ∉ fp) (fS : FpOk X pins H S) (ff : ∀ b ∈ fp, FpOk X pins H b) {A0 : Around} (hA : A0.in1 = X.A)
    (turn : ∀ (i : Nat) (x : V) (v : Value) (pins' : List (Addr × Obj)) (s : Shared), xs[i]? = some x → RelV x v → (∀ p ∈ pins, p ∈ pins') → Inv X pins' σ H s →
      wpAny (model X.prog X.w) X.A (call (.ref q) [v]) (fun kv s' => (∃ t, kv = .int (kf i) t) ∧ Inv X pins' σ H s') (fun _ _ => False) s)
    (hR : ∀ (i : Nat) (x : V) (v : Value) (s' : Shared), xs[i]? = some x → RelV x v → Best kf xs.length i → Inv X pins σ H s' → R (.ok (.ret v)) s') :
    ∀ (r j i : Nat) (s : Shared) (x : V) (vb : Value) (tb : Tok) (c : Nat), xs.length - (j + 1) = r → j + 1 ≤ xs.length → Inv X pins σ H s → tn (j + 1) s.heap →
      s.heap.get? S = some (seqObj "list" #[vb, .int (kf i) tb] c) → xs[i]? = some x → RelV x vb → i ≤ j → Best kf (j + 1) i →
      codeAny (model X.prog X.w) A0 (.builtin "min.loop" ⟨[.ref it, .ref q, .ref S], []⟩) R s := by
  have hSc : ∀ (o : Obj), (∃ vs n, o = seqObj "list" vs n) → ∀ v, o.data ≠ .cell v := fun o ⟨vs, n, e⟩ v z => by rw [e] at z; cases z
  intro r
  induction r with
  | zero =>
    intro j i s x vb tb c hr hj I hit hS hx rx hij hb
    have hin : j + 1 = xs.length := by omega
    refine codeAny_builtin PySem.F.entry_min_loop ?_
    rw [Around.under_plainId PySem.F.plain_min_loop _, hA]
    show wpAny _ X.A (seqItems? (.ref S) >>= _) _ _ _
    refine wpAny_bind (wpAny_seqItems hS rfl ?_)
    show wpAny _ X.A (tryCatch (pyNext (.ref it)) _ >>= _) _ _ _
    have I1 : Inv X (pins ++ pinsAt [S] s.heap) σ H s := I.pinned (fun b hb => by rw [List.mem_singleton.mp hb]; exact fS) fun b hb => by
      rw [List.mem_singleton.mp hb]; exact ⟨_, hS, hSc _ ⟨_, _, rfl⟩⟩
    refine wpAny_bind (wpAny_tryCatch (thn (G.T.done X rfl rfl rfl hc (j + 1) _ s σ H _ I1 (fun b hb => pinned_fp (S := S) (ff b hb) fun c hc' => by rw [List.mem_singleton.mp hc']; exact fun z => hSf (z ▸ hb)) hit (hin ▸ G.stop)) fun rr s1 ⟨hr1, I2⟩ => ?_))
    subst hr1
    have hS1 := (I2.pin (S, _) (List.mem_append_right _ (List.mem_append_right _ (mem_pinsAt (List.mem_singleton.mpr rfl) hS)))).1
    show wpAny _ X.A (updateSeq S (fun _ => #[]) >>= _) _ _ _
    refine wpAny_bind (wpAny_updateSeq hS1 rfl (wpAny_bind (wpAny_letGo (wpAny_pure ?_))))
    have sb := Heap.SameBut.update s1.heap S (Obj.mapSeq fun _ => (#[] : Array Value))
    exact hR i x vb _ hx rx (hin ▸ hb) ((I2.unpinned).turned (t' := s1.toks) (fun b o hb e => (sb.2 b hb).trans e) fS.1 fS.2.1 fS.2.2.2.1 fS.2.2.2.2.1 fS.2.2.2.2.2)
  | succ r ih =>
    intro j i s x vb tb c hr hj I hit hS hx rx hij hb
    have hlt : j + 1 < xs.length := by omega
    refine codeAny_builtin PySem.F.entry_min_loop ?_
    rw [Around.under_plainId PySem.F.plain_min_loop _, hA]
    show wpAny _ X.A (seqItems? (.ref S) >>= _) _ _ _
    refine wpAny_bind (wpAny_seqItems hS rfl ?_)
    show wpAny _ X.A (tryCatch (pyNext (.ref it)) _ >>= _) _ _ _
    have I1 : Inv X (pins ++ pinsAt [S] s.heap) σ H s := I.pinned (fun b hb => by rw [List.mem_singleton.mp hb]; exact fS) fun b hb => by
      rw [List.mem_singleton.mp hb]; exact ⟨_, hS, hSc _ ⟨_, _, rfl⟩⟩
    refine wpAny_bind (wpAny_tryCatch (thn (G.T.item X rfl rfl rfl hc (j + 1) _ s σ H _ I1 (fun b hb => pinned_fp (S := S) (ff b hb) fun c hc' => by rw [List.mem_singleton.mp hc']; exact fun z => hSf (z ▸ hb)) hit (G.go _ hlt)) fun rr s1 ⟨v, hr1, h1⟩ => ?_))
    subst hr1
    show wpAny _ X.A (letOwnedTupleGo noTg (.ref it) v >>= fun _ => (tryCatch (holding [v] (call (.ref q) [v])) _ >>= _)) _ _ _
    refine wpAny_bind (thn (go_any h1) fun _ s2 ⟨y, H', I2, ry, hy, hit2, fn2⟩ => ?_)
    obtain ⟨rfl, hxy⟩ := G.yld _ _ _ hy
    have hS2 := (I2.pin (S, _) (List.mem_append_right _ (List.mem_append_right _ (mem_pinsAt (List.mem_singleton.mpr rfl) hS)))).1
    have I2u := I2.unpinned
    have I3 : Inv X (pins ++ pinsAt (S :: fp) s2.heap) σ H' s2 := I2u.pinned (fun b hb => by
      rcases List.mem_cons.mp hb with rfl | hb
      · exact fS
      · exact ff b hb) fun b hb => by
      rcases List.mem_cons.mp hb with rfl | hb
      · exact ⟨_, hS2, hSc _ ⟨_, _, rfl⟩⟩
      · exact G.T.obj _ _ hit2 b hb
    refine wpAny_bind (wpAny_tryCatch (wpAny_holding (wpAny_mono (turn (j + 1) y v _ s2 hxy ry (fun p hp => List.mem_append_left _ hp) I3) (fun kv s3 he => ?_) fun _ _ hF => hF.elim)))
    obtain ⟨⟨t2, rfl⟩, I4⟩ := he
    have hS3 := (I4.pin (S, _) (List.mem_append_right _ (List.mem_append_right _ (mem_pinsAt (List.mem_cons_self) hS2)))).1
    have hit3 : tn (j + 1 + 1) s3.heap := G.T.keep _ _ _ hit2 fun b hb o e => (I4.pin (b, o) (List.mem_append_right _ (List.mem_append_right _ (mem_pinsAt (List.mem_cons_of_mem _ hb) e)))).1
    have I5 := I4.unpinned
    show wpAny _ X.A (tryCatch (holding [v, .int (kf (j + 1)) t2] (richCompare .Lt (.int (kf (j + 1)) t2) (.int (kf i) tb) >>= _)) _ >>= _) _ _ _
    refine wpAny_bind (wpAny_tryCatch (wpAny_holding (wpAny_bind (HT.rcLt_int _ _ _ _ _ _ _ _ _ _ ?_))))
    refine wpAny_bind (wpAny_holding (wpAny_truthy_bool ?_))
    refine wpAny_bind (wpAny_letGo (wpAny_pure ?_))
    by_cases hb' : kf (j + 1) < kf i
    · have sb := Heap.SameBut.update s3.heap S (Obj.mapSeq fun _ => #[v, .int (kf (j + 1)) t2])
      obtain ⟨c2, hc2⟩ : ∃ c2, (s3.heap.update S (Obj.mapSeq fun _ => #[v, .int (kf (j + 1)) t2])).get? S = some (seqObj "list" #[v, .int (kf (j + 1)) t2] c2) := ⟨_, get?_update_seq hS3 fun _ => #[v, .int (kf (j + 1)) t2]⟩
      simp only [hb', decide_true, if_true]
      refine wpAny_bind (wpAny_updateSeq hS3 rfl (wpAny_bind (wpAny_letGo ?_)))
      rw [min_nm]
      refine wpAny_pure ⟨plainId_quiet PySem.F.plain_min_loop _, ih (j + 1) (j + 1) _ y v t2 c2 (by omega) hlt
        (I5.turned (t' := s3.toks) (fun b o hb e => (sb.2 b hb).trans e) fS.1 fS.2.1 fS.2.2.2.1 fS.2.2.2.2.1 fS.2.2.2.2.2)
        (G.T.keep _ _ _ hit3 fun b hb o e => (sb.2 b fun z => hSf (z ▸ hb)).trans e) hc2 hxy ry (Nat.le_refl _) fun j' hj' => ?_⟩
      by_cases e : j' = j + 1
      · subst e; exact ⟨Int.le_refl _, fun z => absurd z (Nat.lt_irrefl _)⟩
      · have h1 := (hb j' (by omega)).1
        exact ⟨by omega, fun _ => by omega⟩
    · simp only [hb', decide_false, Bool.false_eq_true, if_false]
      refine wpAny_bind (wpAny_letGo ?_)
      rw [min_nm]
      refine wpAny_pure ⟨plainId_quiet PySem.F.plain_min_loop _, ih (j + 1) i _ x vb tb c (by omega) hlt I5 hit3 hS3 hx rx (by omega) fun j' hj' => ?_⟩
      by_cases e : j' = j + 1
      · subst e; exact ⟨by omega, fun z => by omega⟩
      · exact hb j' (by omega)
/-- an iterator over xs has come -/
def IterAt (X : Cx) (pins : List (Addr × Obj)) (σ : L2.St) (H : Hp) (xs : List V) (itv : Value) (s2 : Shared) : Prop :=
  ∃ (it : Addr) (fp : List Addr) (tn : Nat → Heap → Prop) (J : It), itv = .ref it ∧ Inv X pins σ H s2 ∧ Gives X H xs J fp it tn ∧ tn 0 s2.heap ∧ ∀ b ∈ fp, FpOk X pins H b
end
section
variable {X : Cx} {pins : List (Addr × Obj)} {σ : L2.St} {H : Hp} {xs : List V} {q : Addr}
theorem min_call {v0 : Value} {s : Shared} {Q : Value → Shared → Prop} {E : Value → Shared → Prop} (kf : Nat → Int) (hc : X.calm = true) (hne : 0 < xs.length) (I : Inv X pins σ H s)
    (hit : ∀ (s : Shared) (E : Value → Shared → Prop), Inv (inX X) pins σ H s → wpAny (model X.prog X.w) X.A.in1 (pyIter v0) (IterAt (inX X) pins σ H xs) E s)
    (turn : ∀ (i : Nat) (x : V) (v : Value) (pins' : List (Addr × Obj)) (s : Shared), xs[i]? = some x → RelV x v → (∀ p ∈ pins, p ∈ pins') → Inv (inX X) pins' σ H s →
      wpAny (model X.prog X.w) X.A.in1 (call (.ref q) [v]) (fun kv s' => (∃ t, kv = .int (kf i) t) ∧ Inv (inX X) pins' σ H s') (fun _ _ => False) s)
    (hQ : ∀ (i : Nat) (x : V) (v : Value) (s' : Shared), xs[i]? = some x → RelV x v → Best kf xs.length i → Inv X pins σ H s' → Q v s') :
    wpAny (model X.prog X.w) X.A (call (.builtin "min") [v0] [(Str.ofString "key", .ref q)]) Q E s := by
  have hSc : ∀ (o : Obj), (∃ vs n, o = seqObj "list" vs n) → ∀ v, o.data ≠ .cell v := fun o ⟨vs, n, e⟩ v z => by rw [e] at z; cases z
  refine kmk_tree PySem.F.kind_min PySem.F.plain_min PySem.F.entry_min (kmk_min_key _ _) ?_
  show wpAny _ X.A.in1 (Builtin.Builtins.bindParams "min" ["key", "default"] 0 ⟨[], [(Str.ofString "key", .ref q)]⟩ >>= _) _ _ s
  refine wpAny_bind (wpAny_of_eq (show Builtin.Builtins.bindParams "min" ["key", "default"] 0 ⟨[], [(Str.ofString "key", .ref q)]⟩ = pure [some (.ref q), none] from rfl) ?_)
  refine wpAny_bind (wpAny_pure ?_)
  refine wpAny_bind (thn (hit s _ (inv_in I)) fun itv s1 ⟨it, fp, tn, J, e1, I1, G, st1, f1⟩ => ?_)
  subst e1
  refine wpAny_bind (wpAny_newList ?_ (Nat.zero_le _))
  rw [min_nm]
  refine wpAny_pure ⟨plainId_quiet PySem.F.plain_min_loop _, ?_⟩
  -- the state list
  have I2 : Inv (inX X) pins σ H { s1 with heap := s1.heap.push (seqObj "list" #[] 0) } := I1.kept (t' := s1.toks) fun b o e => Heap.get?_push_of_some _ e
  have gS : (s1.heap.push (seqObj "list" #[] 0)).get? s1.heap.objs.size = some (seqObj "list" #[] 0) := Heap.get?_push_size _ rfl
  have fS : FpOk (inX X) pins H s1.heap.objs.size := I1.fpOk (Nat.le_refl _) (I1.hok.fresh (Nat.le_refl _))
  have hSf : s1.heap.objs.size ∉ fp := fun z => by
    obtain ⟨o, e, _⟩ := G.T.obj _ _ st1 _ z
    exact absurd (Heap.lt_size e) (Nat.lt_irrefl _)
  have st2 : tn 0 (s1.heap.push (seqObj "list" #[] 0)) := G.T.keep _ _ _ st1 fun b _ o e => Heap.get?_push_of_some _ e
  generalize hSg : s1.heap.objs.size = S at *
  generalize hs2 : ({ s1 with heap := s1.heap.push (seqObj "list" #[] 0) } : Shared) = s2 at *
  have gS2 : s2.heap.get? S = some (seqObj "list" #[] 0) := by rw [← hs2]; exact gS
  have st2' : tn 0 s2.heap := by rw [← hs2]; exact st2
  show codeAny _ X.A (.builtin "min.loop" ⟨[.ref it, .ref q, .ref S], []⟩) _ s2
  refine codeAny_builtin PySem.F.entry_min_loop ?_
  rw [Around.under_plainId PySem.F.plain_min_loop _]
  show wpAny _ X.A.in1 (seqItems? (.ref S) >>= _) _ _ _
  refine wpAny_bind (wpAny_seqItems gS2 rfl ?_)
  show wpAny _ X.A.in1 (tryCatch (pyNext (.ref it)) _ >>= _) _ _ _
  have I3 : Inv (inX X) (pins ++ pinsAt [S] s2.heap) σ H s2 := I2.pinned (fun b hb => by rw [List.mem_singleton.mp hb]; exact fS) fun b hb => by
    rw [List.mem_singleton.mp hb]; exact ⟨_, gS2, hSc _ ⟨_, _, rfl⟩⟩
  refine wpAny_bind (wpAny_tryCatch (thn (G.T.item (inX X) rfl rfl rfl hc 0 _ s2 σ H _ I3 (fun b hb => pinned_fp (S := S) (f1 b hb) fun c hc' => by rw [List.mem_singleton.mp hc']; exact fun z => hSf (z ▸ hb)) st2' (G.go _ hne)) fun rr s3 ⟨v, hr1, h1⟩ => ?_))
  subst hr1
  show wpAny _ X.A.in1 (letOwnedTupleGo noTg (.ref it) v >>= fun _ => (tryCatch (holding [v] (call (.ref q) [v])) _ >>= _)) _ _ _
  refine wpAny_bind (thn (go_any h1) fun _ s4 ⟨y, H', I4, ry, hy, st4, fn4⟩ => ?_)
  obtain ⟨rfl, hxy⟩ := G.yld _ _ _ hy
  have hS4 := (I4.pin (S, _) (List.mem_append_right _ (List.mem_append_right _ (mem_pinsAt (List.mem_singleton.mpr rfl) gS2)))).1
  have I4u := I4.unpinned
  have I5 : Inv (inX X) (pins ++ pinsAt (S :: fp) s4.heap) σ H' s4 := I4u.pinned (fun b hb => by
    rcases List.mem_cons.mp hb with rfl | hb
    · exact fS
    · exact f1 b hb) fun b hb => by
    rcases List.mem_cons.mp hb with rfl | hb
    · exact ⟨_, hS4, hSc _ ⟨_, _, rfl⟩⟩
    · exact G.T.obj _ _ st4 b hb
  refine wpAny_bind (wpAny_tryCatch (wpAny_holding (wpAny_mono (turn 0 y v _ s4 hxy ry (fun p hp => List.mem_append_left _ hp) I5) (fun kv s5 he => ?_) fun _ _ hF => hF.elim)))
  obtain ⟨⟨t2, rfl⟩, I6⟩ := he
  have hS6 := (I6.pin (S, _) (List.mem_append_right _ (List.mem_append_right _ (mem_pinsAt (List.mem_cons_self) hS4)))).1
  have st6 : tn (0 + 1) s5.heap := G.T.keep _ _ _ st4 fun b hb o e => (I6.pin (b, o) (List.mem_append_right _ (List.mem_append_right _ (mem_pinsAt (List.mem_cons_of_mem _ hb) e)))).1
  have I7 := I6.unpinned
  have sb := Heap.SameBut.update s5.heap S (Obj.mapSeq fun _ => #[v, .int (kf 0) t2])
  obtain ⟨c2, hc2⟩ : ∃ c2, (s5.heap.update S (Obj.mapSeq fun _ => #[v, .int (kf 0) t2])).get? S = some (seqObj "list" #[v, .int (kf 0) t2] c2) := ⟨_, get?_update_seq hS6 fun _ => #[v, .int (kf 0) t2]⟩
  show wpAny _ X.A.in1 (updateSeq S (fun _ => #[v, .int (kf 0) t2]) >>= _) _ _ _
  refine wpAny_bind (wpAny_updateSeq hS6 rfl ?_)
  rw [min_nm]
  refine wpAny_pure ⟨plainId_quiet PySem.F.plain_min_loop _, min_next (X := inX X) G hc kf hSf fS f1 (A0 := X.A) rfl turn (fun i x v s' h1 h2 h3 h4 => hQ i x v s' h1 h2 h3 (inv_out h4)) _ 0 0 _ y v t2 c2 rfl (by omega)
    (I7.turned (t' := s5.toks) (fun b o hb e => (sb.2 b hb).trans e) fS.1 fS.2.1 fS.2.2.2.1 fS.2.2.2.2.1 fS.2.2.2.2.2)
    (G.T.keep _ _ _ st6 fun b hb o e => (sb.2 b fun z => hSf (z ▸ hb)).trans e) hc2 hxy ry (Nat.le_refl _) fun j' hj' => ?_⟩
  have e : j' = 0 := by omega
  subst e
  exact ⟨Int.le_refl _, fun z => absurd z (Nat.lt_irrefl _)⟩

/-! ### where the items come from -/
theorem iter_of_list {a : Addr} {s : Shared} {E : Value → Shared → Prop} (I : Inv X pins σ H s) (h : SqL X.K H a xs) : wpAny (model X.prog X.w) X.A (pyIter (.ref a)) (IterAt X pins σ H xs) E s := by
  obtain ⟨its, rv, p, hz⟩ := I.list h
  refine wpAny_pyIter_list p.isList ?_
  refine ⟨s.heap.objs.size, [s.heap.objs.size], _, Itl X.K a, rfl, I.kept (t' := s.toks) fun b o e => Heap.get?_push_of_some _ e, ⟨turn_list a _, fun i hi => ⟨xs, xs[i], h, by simp [hi]⟩, fun i x H' ⟨e, y⟩ => ⟨e, y xs h⟩, ⟨xs, h, Nat.le_refl _⟩⟩, ⟨_, Heap.get?_push_size _ rfl, rfl, rfl⟩, fun b hb => ?_⟩
  have e : b = s.heap.objs.size := by simpa using hb
  subst e
  exact I.fpOk (Nat.le_refl _) (I.hok.fresh (Nat.le_refl _))
theorem iter_of_keys {d : Addr} {o : Obj} {kvs : List (Key × V)} {s : Shared} {E : Value → Shared → Prop} (I : Inv X pins σ H s) (h : H d = some (.frz o (.dK kvs))) :
    wpAny (model X.prog X.w) X.A (pyIter (.ref d)) (IterAt X pins σ H (kvs.map fun p => kV p.1)) E s := by
  obtain ⟨hs, hgd, hx, es, ep, vs, hdt, hsz, kv, hm⟩ := I.frzK h
  refine iter_keys hs hgd hx hdt ?_
  refine ⟨s.heap.objs.size, [s.heap.objs.size], _, Itk d o kvs, rfl, I.kept (t' := s.toks) fun b o e => Heap.get?_push_of_some _ e, ⟨turn_keys _ hdt, fun i hi => ⟨h, by simpa using hi⟩, fun i x H' ⟨e, k, v, h1, h2⟩ => ⟨e, by rw [List.getElem?_map, h1, h2]; rfl⟩, ⟨h, by simp⟩⟩, ⟨_, Heap.get?_push_size _ rfl, rfl, ?_⟩, fun b hb => ?_⟩
  · rw [hsz] <;> rfl
  · have e : b = s.heap.objs.size := by simpa using hb
    subst e
    exact I.fpOk (Nat.le_refl _) (I.hok.fresh (Nat.le_refl _))
end

/-! ### the key: a lambda of one parameter -/
/-- its words, without its body -/
abbrev lamF (X : Cx) (params : Arguments) (scope : Scope) (c : Addr) : NF := ⟨"<lambda>", X.env.qual ++ "<lambda>", params, [], scope, cloFrom X.env.cells scope.names [], c⟩
section
variable {X : Cx} {pins : List (Addr × Obj)} {σ : L2.St} {H : Hp}
theorem stack_fs (ok : X.Ok) {f : Addr} (h : f ∉ frs X.stack) : f ∉ X.fs := fun hb => by
  rcases ok.stk with e | ⟨e, hf⟩
  · rw [e] at h; exact h hb
  · rw [e] at h
    refine h ?_
    unfold frs
    rw [List.filterMap_cons]
    cases X.env.frame with
    | none => exact hb
    | some a => exact List.mem_cons_of_mem _ hb
/-- the key called on a value -/
theorem lam_key {params : Arguments} {body : Expr} {scope : Scope} {N ps fr : List Str} {js : List Nat} {k : Nat} {f c' : Addr} {pm ctv : Value} {tb : TE} {s : Shared} {x : V} {v : Value} {z : V}
    (S : NScope N ps fr scope) (hr : Room (k + 2) X.A) (cp : X.Ok → Caps X (cloFrom X.env.cells scope.names []) fr js)
    (hbind : ∀ u, bindArgs (PySem.W.kla_fn "<lambda>" (X.env.qual ++ "<lambda>") params body scope (cloFrom X.env.cells scope.names []) pm (.ref c') ctv) ⟨[u], []⟩ = pure (ps.zip [u])) (hps : ps.length = 1)
    (hbody : ∀ (A : Around) (outer : List Env) (s : Shared) (H : Hp), Room (k + 1) A → PE (ncx CX0 X.prog X.w X.K X.mg X.base N (lamF X params scope c') f A outer s H E0) body tb)
    (I : Inv (inX X) pins σ H s) (hf : s.heap.get? f = some (PySem.W.kla_obj "<lambda>" (X.env.qual ++ "<lambda>") params body scope (cloFrom X.env.cells scope.names []) pm c' ctv))
    (hc : H c' = some (CodeO c' (X.env.qual ++ "<lambda>"))) (rx : RelV x v) (ht : tb (startF N [x] (js.map (slotAt σ))) H (fun y H' => y = z ∧ H' = H)) :
    wpAny (model X.prog X.w) X.A.in1 (call (.ref f) [v]) (fun kv s' => RelV z kv ∧ Inv (inX X) pins σ H s') (fun _ _ => False) s := by
  have hr1 : Room (k + 1) X.A.in1 := hr.in1
  have e0 : Env0 X.prog X.w X.K X.mg X.base X.A.in1 X.stack s H := I.env0
  have lim : s.heap.NoLimit := I.nolimit
  have C := cells_of (inv_out I) (cp (inv_out I).ok)
  have rc : codeAny (model X.prog X.w) X.A.in1 (.call (.ref f) ⟨[v], []⟩) (CR CX0 X.stack X.prog X.w H s (fun y H' => y = z ∧ H' = H) E0) s := by
    refine PySem.W.kla_callFunE hr1.depth hf rfl S.co S.gen rfl (codeO_at I.hok hc) ?_
    rw [hbind]
    refine wpAny_pure (wpAny_newFunctionEnv S.nocell (fun ⟨n, _⟩ hy => S.par n (List.of_mem_zip hy).1) (fun h₁ hns hsb => ⟨lim.fresh _ hsb, ?_⟩) S.kind)
    show codeAny _ _ (.expr body (envF (lamF X params scope c') f s.heap.objs.size)) _ _
    have kp : ∀ b o, s.heap.get? b = some o → h₁.get? b = some o := fun b o e => hsb.extBut b o (Nat.ne_of_lt (Heap.lt_size e)) (Heap.get?_push_of_some _ e)
    have J : Inv (ncx CX0 X.prog X.w X.K X.mg X.base N (lamF X params scope c') f X.A.in1 X.stack s H E0) [] (startF N [x] (js.map (slotAt σ))) H { s with heap := h₁, toks := s.toks + (ps.zip [v]).length } :=
      inv_startN (F := lamF X params scope c') S hr1.hd e0 (by rw [hps]; rfl) (.cons rx .nil) C hns kp
    refine PySem.W.kla_codeExpr (wpAny_mono ((hbody _ _ _ _ hr1).run [] _ _ H _ J ht) (fun u s' hq => ?_) fun e s' hq => hq)
    obtain ⟨w', H', J', rv, q⟩ := hq
    exact ⟨w', H', J'.os, J'.bare, J'.base, J'.hok, rv, q⟩
  refine wpAny_call (codeAny_mono rc fun r s' hq => ?_)
  cases r with
  | error e => exact False.elim hq
  | ok fl =>
    cases fl with
    | ret u =>
      obtain ⟨y, H', I', ry, rfl, rfl⟩ := I.after (X := inX X) hq
      exact ⟨ry, I'⟩
    | next => exact False.elim hq
    | brk => exact False.elim hq
    | cont => exact False.elim hq
end
/-- what min(.., key=lambda v: ..) walks -/
abbrev SrcOf := PySem.W.Frag → Hp → V → List V → Prop
def srcL : SrcOf := fun K H x xs => ∃ a, x = .ref a ∧ SqL K H a xs
def srcD : SrcOf := fun _ H x xs => ∃ d o kvs, x = .ref d ∧ H d = some (.frz o (.dK kvs)) ∧ xs = kvs.map fun p => kV p.1
/-- its reading: te the walked thing, tb the lambda's body over its own names N -/
def tMinK (K : PySem.W.Frag) (T : List (Addr × Str)) (src : SrcOf) (N : List Str) (js : List Nat) (te tb : TE) : TE := fun σ H Q => te σ H fun x H1 => Tabs T H1 ∧ ∀ H2, ExtN H1 H2 → Tabs T H2 →
  ∃ (xs : List V) (kf : Nat → Int), src K H2 x xs ∧ 0 < xs.length ∧ (∀ (i : Nat) y, xs[i]? = some y → tb (startF N [y] (js.map (slotAt σ))) H2 fun z H3 => z = .int (kf i) ∧ H3 = H2) ∧
    ∀ (i : Nat) y, xs[i]? = some y → Best kf xs.length i → Q y H2
theorem src_iter {src : SrcOf} (h : src = srcL ∨ src = srcD) {X : Cx} {pins : List (Addr × Obj)} {σ : L2.St} {H : Hp} {x : V} {xs : List V} (q : src X.K H x xs) :
    ∃ a, x = .ref a ∧ ∀ (s : Shared) (E : Value → Shared → Prop), Inv X pins σ H s → wpAny (model X.prog X.w) X.A (pyIter (.ref a)) (IterAt X pins σ H xs) E s := by
  rcases h with rfl | rfl
  · obtain ⟨a, rfl, hq⟩ := q
    exact ⟨a, rfl, fun s E I => iter_of_list I hq⟩
  · obtain ⟨d, o, kvs, rfl, hq, rfl⟩ := q
    exact ⟨d, rfl, fun s E I => iter_of_keys I hq⟩
theorem pe_minK {X : Cx} {T : List (Addr × Str)} {src : SrcOf} {c P : Addr} {k : Nat} {e body : Expr} {te tb : TE} {params : Arguments} {scope : Scope} {N ps fr : List Str} {js : List Nat} {p lpos kpos pos : Pos}
    (hs : src = srcL ∨ src = srcD) (hg : Gl X "min") (hm : X.mg "min" = none) (hcalm : X.calm = true) (he : PE X e te) (TB : TabB X.base X.mg c P) (hcode : X.env.code = .ref c) (hmT : (P, X.env.qual ++ "<lambda>") ∈ T)
    (hu : ∀ p ∈ T, p.1 = P → p.2 = X.env.qual ++ "<lambda>") (hr : Room (k + 2) X.A) (S : NScope N ps fr scope) (hps : ps.length = 1) (hfree : ∀ y ∈ scope.names, y.2 = .free → X.env.scope.names.lookup y.1 = some .cell ∨ X.env.scope.names.lookup y.1 = some .free)
    (hfr : ∀ y ∈ fr, (y, NameKind.free) ∈ scope.names) (hjs : js.map (fun j => X.N[j]?) = fr.map some) (hdef : defaultsOf params X.env = ([], []))
    (hbind : ∀ (q : Str) (cl : List (Str × Addr)) (pm cv ctv u : Value), bindArgs (PySem.W.kla_fn "<lambda>" q params body scope cl pm cv ctv) ⟨[u], []⟩ = pure (ps.zip [u]))
    (hbody : ∀ (f c' : Addr) (A : Around) (outer : List Env) (s : Shared) (H : Hp), Room (k + 1) A → PE (ncx CX0 X.prog X.w X.K X.mg X.base N (lamF X params scope c') f A outer s H E0) body tb)
    (hst1 : starEach [e] X.env = (false, eval e X.env) :: starEach [] X.env := by rfl) (hst : backTo pos (starEach [e] X.env) = (false, eval e X.env) :: backTo pos (starEach [] X.env) := by rfl) (hpl : (backTo pos (starEach [e] X.env)).any (·.1) = false := by rfl) :
    PE X (.Call (.Name "min" p) [e] [⟨some "key", .Lambda params body scope lpos, kpos⟩] pos) (tMinK X.K T src N js te tb) := by
  refine ⟨fun pins s σ H Q I h => ?_⟩
  have hfr2 : ∀ y ∈ scope.names, y.2 = .free → ∃ c, X.env.cells.lookup y.1 = some c := fun y hy ey => by
    rcases hfree y hy ey with z | z
    · exact I.ok.has _ (.inl z)
    · exact I.ok.has _ (.inr z)
  refine wpAny_Call_Name_kw (ld_blt I hg hm (u := .builtin "min") (by decide +kernel) ?_)
  refine PyProof.Rows.callWith_kw (thn ((pa_cons he pa_nil (hs := hst1)).run pos pins s σ H (fun vs H1 => match vs with
    | [x] => Tabs T H1 ∧ ∀ H2, ExtN H1 H2 → Tabs T H2 →
      ∃ (xs : List V) (kf : Nat → Int), src X.K H2 x xs ∧ 0 < xs.length ∧ (∀ (i : Nat) y, xs[i]? = some y → tb (startF N [y] (js.map (slotAt σ))) H2 fun z H3 => z = .int (kf i) ∧ H3 = H2) ∧
        ∀ (i : Nat) y, xs[i]? = some y → Best kf xs.length i → Q y H2
    | _ => False) I h) fun us s1 ⟨vs, H1, I1, r1, hvs⟩ => ?_) hst hpl rfl rfl
  obtain ⟨x, rfl, hT, hq⟩ : ∃ x, vs = [x] ∧ Tabs T H1 ∧ ∀ H2, ExtN H1 H2 → Tabs T H2 →
      ∃ (xs : List V) (kf : Nat → Int), src X.K H2 x xs ∧ 0 < xs.length ∧ (∀ (i : Nat) y, xs[i]? = some y → tb (startF N [y] (js.map (slotAt σ))) H2 fun z H3 => z = .int (kf i) ∧ H3 = H2) ∧
        ∀ (i : Nat) y, xs[i]? = some y → Best kf xs.length i → Q y H2 := by
    match vs, hvs with
    | [x], hvs => exact ⟨x, rfl, hvs⟩
    | [], hvs => exact hvs.elim
    | _ :: _ :: _, hvs => exact hvs.elim
  obtain ⟨u, rfl, ru⟩ := vals1 r1
  show wpAny _ _ (evalAll [(do let v ← eval (.Lambda params body scope lpos) X.env; standAt pos; pure v)]) _ _ s1
  refine wpAny_evalAll_cons (wpAny_bind (lam_make2 I1 TB hcode hmT hu hT hdef hfr2 fun f c' pm ctv H2 s2 I2 eN T2 hf hfn hfs hco => wpAny_bind (wpAny_standAt (wpAny_pure (wpAny_evalAll_nil ?_)))))
  show wpAny _ _ (call (.builtin "min") [u] [(Str.ofString "key", .ref f)]) _ _ s2
  obtain ⟨xs, kf, hsrc, hne, hbod, hfin⟩ := hq H2 eN T2
  obtain ⟨a, ea, hit⟩ := src_iter (X := inX X) (pins := pins ++ pinsAt [f] s2.heap) (σ := σ) hs hsrc
  subst ea
  obtain rfl : u = Value.ref a := ru
  have hnd : ∀ v, (PySem.W.kla_obj "<lambda>" (X.env.qual ++ "<lambda>") params body scope (cloFrom X.env.cells scope.names []) pm c' ctv).data ≠ .cell v := fun v z => by cases z
  have I3 : Inv X (pins ++ pinsAt [f] s2.heap) σ H2 s2 := I2.pins_of fun p hp => by
    rcases List.mem_append.mp hp with z | z
    · exact I2.pin p (List.mem_append_right _ z)
    · obtain ⟨z1, z2⟩ := of_pinsAt z
      rw [List.mem_singleton] at z1
      rw [z1, hf] at z2
      refine ⟨by rw [z1, hf]; exact z2, by rw [z1]; exact hfn, ?_, by rw [z1]; exact stack_fs I2.ok hfs, fun v => by rw [← Option.some.inj z2]; exact hnd v⟩
      intro q
      obtain ⟨m, ⟨o, es, ep, ho, hd, _⟩, _⟩ := I2.loc
      rw [← q, z1, hf] at ho
      cases ho
      cases hd
  refine wpAny_mono (min_call kf hcalm hne I3 hit (fun i y v pins' s3 hxy ry hsub I4 => ?_) (Q := EP X pins σ Q) fun i y v s' hxy ry hb I4 => ⟨y, H2, I4.unpinned, ry, hfin i y hxy hb⟩) (fun _ _ q => q) fun _ _ q => q
  have hf3 := (I4.pin (f, _) (List.mem_append_right _ (hsub _ (List.mem_append_right _ (mem_pinsAt (List.mem_singleton.mpr rfl) hf))))).1
  exact wpAny_mono (lam_key S hr (fun ok => Caps.made ok hfree hfr hjs) (fun u => hbind _ _ _ _ _ u) hps (hbody f c') I4 hf3 hco ry (hbod i y hxy)) (fun kv s' ⟨rk, J⟩ => ⟨rk, J⟩) fun _ _ q => q

/-! ### a def whose code object is told -/
theorem okC {P : Program} {w : World} {K : PySem.W.Frag} {mg : Str → Option Value} {base : Heap} {x qual : Str} {params : Arguments} {body : List Stmt} {scope : Scope} {dvs : List V} {kws : List (Str × V)} {fd : FuncData} {p : Str × Option Str}
    {CX : CXT} {N ps : List Str} {k : Nat} {sp : Sp} {c : Addr} (F : FunD K x qual params body scope dvs kws (He.fAd K p) fd) (hcc : He.codeOf K p = c) (S : FnScope N ps scope) (len : ∀ vs H Q E, sp vs H Q E → vs.length = ps.length)
    (hbody : ∀ (A : Around) (outer : List Env) (s : Shared) (H : Hp) (vs : List V) (Q : VK) (E : XK), Room k (A.deeper (envOfC qual scope s.heap.objs.size (He.fAd K p) (.ref c))) → sp vs H Q E →
      ∃ t, PSs (cxOf CX P w K mg base N qual scope (He.fAd K p) (.ref c) A outer s H E) body t ∧ t { nx := fun _ H' => Q .non H', rt := Q } (start N vs) H) : FnOk P w K mg base CX (k + 1) (He.fAd K p) fd ps sp := by
  obtain ⟨oc, od, dV, kV, doc, pm, an, cdv, ct, osl, rfl, lk, hcd, _, _⟩ := F.ex
  obtain ⟨c0, rfl⟩ := He.codeIn_ref hcd
  have e : c0 = c := (He.codeOf_eq lk rfl).symm.trans hcc
  subst e
  exact fn_of lk hcd S len hbody
end TW
end

section
set_option Elab.async false
set_option linter.all false
set_option maxRecDepth 100000
set_option maxHeartbeats 2000000
/-! set(xs) of a list of ints. -/
namespace TW
open PySem PySem.Spec PyProof.Rows L2
/-- the empty set as it is made -/
abbrev set0 (w : World) : Obj := { cls := .type "set", dict := none, data := .set #[] 0 (.fresh 0 0 (!w.params.followText "set-order")) }
section
variable {P : Program} {w : World} {A : Around} {E : Value → Shared → Prop} {s : Shared}
theorem set_of_list {l : Addr} {items : Array Value} (ns : List Int) {Q : Value → Shared → Prop} (hh : A.handled = none) (hl : s.heap.IsList l items) (hit : IntsAre items.toList ns) (hb : ns.length + 1 < scanBound)
    (h : ∀ (h' : Heap) (tk c : Nat), SetR w h' s.heap.objs.size (fun j => decide (j ∈ ns)) c → c ≤ ns.length → (∀ b o, s.heap.get? b = some o → h'.get? b = some o) → Q (.ref s.heap.objs.size) { s with heap := h', toks := tk }) :
    wpAny (model P w) A (call (.type "set") [.ref l]) Q E s := by
  have hisz : items.size = ns.length := by
    have q := IntsAre.length hit
    rwa [Array.length_toList] at q
  obtain ⟨_, _, hmro⟩ := PySem.F.called_set.mro
  have hmade := PySem.F.called_set.made
  have hsub := PySem.F.called_set.sub
  refine wpAny_call (codeAny_of_tree (show wpAny _ _ (callAny (.type "set") _) _ _ _ from ?_))
  refine wpAny_pure ⟨Code.quiet_builtin _ (by decide +kernel), codeAny_builtin PySem.F.entry_type_call ?_⟩
  rw [Around.under_plain (weight_type_call_type "set" [.ref l] []) rfl]
  have h1 := PySem.F.called_set.notType
  have h2 := PySem.F.called_set.canCreate
  have hct := PySem.F.typeCall_set_1 (.ref l)
  repeat (any_goals (first | assumption | wp_step))
  refine codeAny_mono (code_set_led1 (.ref l) (E := E) (Q₁ := fun obj s₁ => obj = .ref s.heap.objs.size ∧ s₁ = { s with heap := s.heap.push (set0 w) }) ⟨rfl, rfl⟩) fun r s₁ hr => ?_
  cases r with
  | error e => exact hr
  | ok fl =>
    cases fl with
    | ret obj =>
      obtain ⟨rfl, rfl⟩ := hr
      have hS : (s.heap.push (set0 w)).get? s.heap.objs.size = some (set0 w) := Heap.get?_push_size _ rfl
      have hT : Shared.TypeIs { s with heap := s.heap.push (set0 w) } (.ref s.heap.objs.size) "set" := ⟨_, hS, rfl⟩
      have hli := PySem.F.called_set.init.lookup
      have hbi := PySem.F.called_set.init.bind (.ref s.heap.objs.size)
      repeat (any_goals (first | assumption | wp_step))
      refine codeAny_mono (codeAny_call_builtin (R := wants (fun r s₂ => r = .none ∧ ∃ h' tk c, s₂ = { s with heap := h', toks := tk } ∧ SetR w h' s.heap.objs.size (fun j => decide (j ∈ ns)) c ∧ c ≤ ns.length ∧
          (∀ b o, s.heap.get? b = some o → h'.get? b = some o)) E) PySem.F.called_set.init.plain PySem.F.entry_set_init (check_set_init_1 hT ?_)) fun r₂ s₂ hr₂ => ?_
      · obtain ⟨⟨ocls, odict, odata, oslots⟩, hol, hcl, nl, hdl⟩ := hl
        simp only at hcl hdl
        subst hcl hdl
        have hol' : (s.heap.push (set0 w)).get? l = some { cls := .type "list", dict := odict, data := .seq items nl, slots := oslots } := Heap.get?_push_of_some _ hol
        have hsls := PySem.F.sub_list_set
        have hslf := PySem.F.sub_list_frozenset
        have hne : (Value.type "list" == Value.type "dict") = false := by decide
        have hl1 : (s.heap.push (set0 w)).IsList l items := ⟨_, hol', rfl, nl, rfl⟩
        unfold Builtin.«set.__init__» noKeywords Builtin.Frozenset.updateFrom
        generalize hPI : pyIter = PI
        wp_walk
        subst hPI
        refine wpAny_pyIter_list hl1 (wpAny_bind (wpAny_runValue ?_))
        have hlS : l < s.heap.objs.size := Heap.lt_size hol
        have hh3 : A.in1.in1.in1.handled = none := by simp [hh]
        have hneI : l ≠ (s.heap.push (set0 w)).objs.size := by
          rw [Heap.size_push]; exact Nat.ne_of_lt (Nat.lt_succ_of_lt hlS)
        have hSf : s.heap.objs.size ∉ [(s.heap.push (set0 w)).objs.size, l] := by
          rw [Heap.size_push]; simp only [List.mem_cons, List.mem_singleton, List.not_mem_nil, or_false, not_or]
          exact ⟨Nat.ne_of_lt (Nat.lt_succ_self _), Nat.ne_of_gt hlS⟩
        have hval : ∀ (i : Nat) (v : Value), items[i]? = some v → ∃ k t, ns[i]? = some k ∧ v = .int k t := fun i v hv => by
          have hi : i < ns.length := by rw [← hisz]; exact (Array.getElem?_eq_some_iff.mp hv).1
          obtain ⟨t, e⟩ := PyProof.Rows.IntsAre.int_at hit i v (by rw [Array.getElem?_toList]; exact hv)
          exact ⟨ns[i], t, List.getElem?_eq_getElem hi, by rw [e, List.getD_eq_getElem?_getD, List.getElem?_eq_getElem hi]; rfl⟩
        refine set_update_ints ((Walks.list hh3 _ l hneI items).toS) s.heap.objs.size hSf ns hisz hb hval (items.size - 0) 0 _ (by omega) (Nat.zero_le _)
          ⟨⟨_, Heap.get?_push_size _ rfl, rfl, rfl⟩, (hl1.push _)⟩ ?hS0 ?hR
        case hS0 =>
          exact ⟨0, Nat.le_refl 0, setR_new_at (Heap.get?_push_of_some _ hS)⟩
        case hR =>
          intro s' c' hm hc' hS'
          obtain ⟨h', g2, d', tk', os'⟩ := s'
          have eg : g2 = s.gens := hm.gens
          have ed : d' = s.drawn := hm.drawn
          have eo : os' = s.os := hm.os
          subst eg ed eo
          refine wpAny_pure ?_
          show wpAny _ _ (ret Value.none) _ _ _
          rw [hisz] at hc'
          refine wpAny_pure ⟨rfl, h', tk', c', rfl, hS', hc', fun b o e => hm.heap b o ?_ (Heap.get?_push_of_some _ (Heap.get?_push_of_some _ e))⟩
          have hb0 : b < s.heap.objs.size := Heap.lt_size e
          simp only [List.mem_cons, List.not_mem_nil, or_false, not_or]
          exact ⟨Nat.ne_of_lt hb0, by rw [Heap.size_push]; exact Nat.ne_of_lt (Nat.lt_succ_of_lt hb0)⟩
      · cases r₂ with
        | error e => exact hr₂
        | ok fl₂ =>
          cases fl₂ with
          | ret r =>
            obtain ⟨rfl, h', tk, c', rfl, hS', hc', hk'⟩ := hr₂
            repeat (any_goals (first | assumption | wp_step))
            exact h _ _ _ hS' hc' hk'
          | _ => exact hr₂.elim
    | _ => exact hr.elim
end
/-- set(xs), xs a list of ints -/
def rSetL (K : PySem.W.Frag) (w : World) : List V → Hp → VK → Prop := fun vs H Q => ∃ (a : Addr) (ns : List Int), vs = [.ref a] ∧ SqL K H a (ns.map V.int) ∧ ns.length ≤ 1000 ∧
  ∀ (p : Addr) (c : Nat), H p = none → c ≤ ns.length → Q (.ref p) (upd H p (SetO w p (fun j => decide (j ∈ ns)) c))
theorem cr_setL {X : Cx} (hc : X.calm = true) : CallR X (.type "set") (rSetL X.K X.w) := by
  intro pins s σ H vs us Q I r h
  obtain ⟨a, ns, rfl, hs, hn, q⟩ := h
  obtain rfl := Vals.ref1 r
  obtain ⟨its, rv, hl, hz⟩ := I.list hs
  refine set_of_list ns (I.ok.hd hc) hl.isList (by simpa using rv.ints) (by unfold scanBound; omega) fun h' tk c hS hcl hk => ?_
  exact ⟨.ref _, upd H s.heap.objs.size (SetO X.w s.heap.objs.size (fun j => decide (j ∈ ns)) c), I.laid (t' := tk) hk (Nat.le_refl _) (setO_new hS), rfl, q _ c (I.hok.fresh (Nat.le_refl _)) hcl⟩
end TW
end

section
set_option Elab.async false
set_option linter.all false
set_option maxRecDepth 100000
set_option maxHeartbeats 1000000
/-! The walk's own words: callees, what the heap holds, steps. -/
namespace TW
open PySem PySem.Spec PyProof.Rows L2 LamX NdefX StX

/-! ### callees -/
abbrev FnP (K : PySem.W.Frag) (x qual : Str) (st : Stmt) (f : Addr) (fd : FuncData) : Prop := FunD K x qual (defArgs st) (defBody st) (defScope st) [] [] f fd
structure Cal (P : Program) (w : World) (K : PySem.W.Frag) (mg : Str → Option Value) (base : Heap) (k : Nat) (x : Str) (ps : List Str) (sp : Sp) : Prop where
  ex : ∃ (f : Addr) (fd : FuncData), mg x = some (.ref f) ∧ PySem.W.keepIn K (.ref f) = true ∧ Binds K fd ps [] ∧ FnOk P w K mg base CX0 k f fd ps sp
structure CalM (P : Program) (w : World) (K : PySem.W.Frag) (mg : Str → Option Value) (base : Heap) (k : Nat) (C : Addr) (m : Str) (ps : List Str) (sp : Sp) : Prop where
  ex : ∃ (f : Addr) (fd : FuncData), Meth K C m f ∧ Binds K fd ps [] ∧ FnOk P w K mg base CX0 k f fd ps sp
structure CalK (P : Program) (w : World) (K : PySem.W.Frag) (mg : Str → Option Value) (base : Heap) (k : Nat) (C : Addr) (x : Str) (ps : List Str) (sp : Sp) : Prop where
  ex : ∃ (f : Addr) (fd : FuncData), Mk K C f ∧ mg x = some (.ref C) ∧ Binds K fd ps [] ∧ FnOk P w K mg base CX0 k f fd ps sp
def tCl (sp : Sp) (t : TA) : TE := fun σ H Q => t σ H fun vs H1 => sp vs H1 Q E0
def tMt (C : Addr) (m : Str) (sp : Sp) (ta : TE) (t : TA) : TE := fun σ H Q => ta σ H fun x H1 => ∃ a dx fs, x = .ref a ∧ H1 a = some (.ins C dx fs) ∧ fs.lookup m = none ∧ t σ H1 fun vs H2 => sp (x :: vs) H2 Q E0
def tMk (C : Addr) (sp : Sp) (t : TA) : TE := fun σ H Q => t σ H fun vs H1 => ∀ x dx, H1 x = none → H1 dx = none → dx ≠ x →
  sp (.ref x :: vs) (upd (upd H1 dx (.own x)) x (.ins C dx [])) (fun v H2 => v = .non ∧ Q (.ref x) H2) E0
theorem tCl_eq (sp : Sp) (t : TA) : tCall sp [] E0 t = tCl sp t := by funext σ H Q; simp only [tCall, tCl, List.append_nil]
theorem tMt_eq (C : Addr) (m : Str) (sp : Sp) (ta : TE) (t : TA) : tMeth C m sp [] E0 ta t = tMt C m sp ta t := by funext σ H Q; simp only [tMeth, tMt, List.append_nil]
theorem tMk_eq (C : Addr) (sp : Sp) (t : TA) : tMake C sp [] E0 t = tMk C sp t := by funext σ H Q; simp only [tMake, tMk, List.append_nil]
section
variable {X : Cx} {k : Nat} {C : Addr} {ps : List Str} {sp : Sp} {x m : Str} {p pos apos : Pos} {e o : Expr} {es : List Expr} {ta : TE} {t : TA}
theorem pe_c (F : Cal X.prog X.w X.K X.mg X.base k x ps sp) (hr : Room k X.A) (hg : Gl X x) (ha : PA X (e :: es) t) (hdb : (x == ("__debug__" : Str)) = false := by decide)
    (he : starEach (e :: es) X.env = (false, eval e X.env) :: starEach es X.env := by rfl) (hpl : (backTo pos (starEach es X.env)).any (·.1) = false := by rfl) : PE X (.Call (.Name x p) (e :: es) [] pos) (tCl sp t) := by
  obtain ⟨f, fd, hm, hk, hb, G⟩ := F.ex
  rw [← tCl_eq]
  exact pe_call G hr hg hm hk hb .nil pass0 ha hdb he hpl
theorem pe_m {pl : Sem Bool} (F : CalM X.prog X.w X.K X.mg X.base k C m ps sp) (he : PE X o ta) (c : Cls X.K C) (hr : Room k X.A) (ha : PA X (e :: es) t)
    (hst : starEach (e :: es) X.env = (false, eval e X.env) :: starEach es X.env := by rfl) (hpl : (backTo pos (starEach es X.env)).any (·.1) = false := by rfl)
    (ht : eval (.Call (.Attribute o m apos) (e :: es) [] pos) X.env = (do
      let ov ← eval o X.env
      standAt apos.atName
      let (f, first) ← holding [ov] (getMethod ov m pl)
      callWith pos f first (backTo pos (starEach (e :: es) X.env)) (backToKw pos (keywordEach [] X.env))) := by rfl) : PE X (.Call (.Attribute o m apos) (e :: es) [] pos) (tMt C m sp ta t) := by
  obtain ⟨f, fd, hm, hb, G⟩ := F.ex
  rw [← tMt_eq]
  exact pe_meth (pl := pl) he c hm G hr hb .nil pass0 ha hst hpl ht
theorem pe_m0 {pl : Sem Bool} (F : CalM X.prog X.w X.K X.mg X.base k C m ps sp) (he : PE X o ta) (c : Cls X.K C) (hr : Room k X.A)
    (ht : eval (.Call (.Attribute o m apos) [] [] pos) X.env = (do
      let ov ← eval o X.env
      standAt apos.atName
      let (f, first) ← holding [ov] (getMethod ov m pl)
      callWith pos f first (backTo pos (starEach [] X.env)) (backToKw pos (keywordEach [] X.env))) := by rfl) : PE X (.Call (.Attribute o m apos) [] [] pos) (tMt C m sp ta tNil) := by
  obtain ⟨f, fd, hm, hb, G⟩ := F.ex
  rw [← tMt_eq]
  exact pe_meth0 (pl := pl) he c hm G hr hb .nil pass0 ht
theorem pe_k (F : CalK X.prog X.w X.K X.mg X.base k C x ps sp) (hr : Room (k + 1) X.A) (hg : Gl X x) (ha : PA X (e :: es) t) (hdb : (x == ("__debug__" : Str)) = false := by decide)
    (he : starEach (e :: es) X.env = (false, eval e X.env) :: starEach es X.env := by rfl) (hpl : (backTo pos (starEach es X.env)).any (·.1) = false := by rfl) : PE X (.Call (.Name x p) (e :: es) [] pos) (tMk C sp t) := by
  obtain ⟨f, fd, hM, hm, hb, G⟩ := F.ex
  rw [← tMk_eq]
  exact pe_make hM G hr hg hm hb .nil pass0 ha hdb he hpl
theorem pe_gi {i : Int} (hg : Gl X x) (hm : ∃ t, X.mg x = some (.int i t)) (hd : (x == ("__debug__" : Str)) = false := by decide) : PE X (.Name x pos) (tC (.int i)) := by
  obtain ⟨t, e⟩ := hm
  exact pe_glob hg e ⟨t, rfl⟩ hd
end

/-! ### the layer's rules, the written part told apart from the context -/
section
variable {X : Cx} {K : PySem.W.Frag}
theorem ixL (hK : X.K = K := by rfl) : IxR X (rIxL K) := by subst hK; exact ix_list
theorem ixT (hK : X.K = K := by rfl) : IxR X (rIxT K) := by subst hK; exact ix_tup
theorem slL (hK : X.K = K := by rfl) : SlR X (rSlL K) := by subst hK; exact sl_list
theorem slT (hK : X.K = K := by rfl) : SlR X (rSlT K) := by subst hK; exact sl_tup
theorem inL (hK : X.K = K := by rfl) : OpR X (compareOp .In) (rIn K false) := by subst hK; exact op_in_seq
theorem notInL (hK : X.K = K := by rfl) : OpR X (compareOp .NotIn) (rIn K true) := by subst hK; exact op_notIn_seq
def rLenQ (K : PySem.W.Frag) : List V → Hp → VK → Prop := fun xs H Q => ∃ p ys, xs = [.ref p] ∧ (SqL K H p ys ∨ SqT K H p ys) ∧ Q (.int ys.length) H
def rLenQD : List V → Hp → VK → Prop := fun xs H Q => ∃ a kvs, xs = [V.ref a] ∧ H a = some (.dK kvs) ∧ Q (.int kvs.length) H
def rListQ (K : PySem.W.Frag) : List V → Hp → VK → Prop := fun xs H Q => ∃ p ys, xs = [.ref p] ∧ (SqL K H p ys ∨ SqT K H p ys) ∧ ∀ l, H l = none → Q (.ref l) (upd H l (.lst ys))
def rSortedQD : List V → Hp → VK → Prop := fun xs H Q => ∃ (a : Addr) (kvs : List (Key × V)) (ks : List Int), xs = [.ref a] ∧ Rd H a (.dK kvs) ∧ kvs.map (·.1) = ks.map Sum.inl ∧ ks.length < 64 ∧
    ∀ (ys : List Int) (p : Addr), ys.Perm ks → ys.Pairwise (· ≤ ·) → H p = none → Q (.ref p) (upd H p (.lst (ys.map V.int)))
def rDictQ : List V → Hp → VK → Prop := fun xs H Q => ∃ (a : Addr) (kvs : List (Key × V)), xs = [.ref a] ∧ Rd H a (.dK kvs) ∧ ∀ p, H p = none → Q (.ref p) (upd H p (.dK kvs))
def rIntQ : List V → Hp → VK → Prop := fun xs H Q => (∃ i, xs = [.int i] ∧ Q (.int i) H) ∨ ∃ k, xs = [.bl k] ∧ Q (.int (if k then 1 else 0)) H
def rAbsQ : List V → Hp → VK → Prop := fun xs H Q => ∃ i, xs = [.int i] ∧ Q (.int (if i < 0 then -i else i)) H
def rMin2Q : List V → Hp → VK → Prop := fun xs H Q => ∃ i j, xs = [.int i, .int j] ∧ Q (.int (if j < i then j else i)) H
theorem lenQ (hK : X.K = K := by rfl) : CallR X (.builtin "len") (rLenQ K) := by subst hK; exact call_len_seq
theorem lenQD : CallR X (.builtin "len") rLenQD := call_lenD
theorem listQ (hK : X.K = K := by rfl) : CallR X (.type "list") (rListQ K) := by subst hK; exact call_list_of
theorem sortedQD (hc : X.calm = true := by rfl) : CallR X (.builtin "sorted") rSortedQD := call_sortedDI hc
theorem sortedQ (hK : X.K = K := by rfl) : CallR X (.builtin "sorted") (rSortedI K) := by subst hK; exact cr_sortedI
theorem dictQ : CallR X (.type "dict") rDictQ := call_dictD
theorem intQ : CallR X (.type "int") rIntQ := call_int1
theorem absQ : CallR X (.builtin "abs") rAbsQ := call_abs
theorem min2Q (hc : X.calm = true := by rfl) : CallR X (.builtin "min") rMin2Q := call_min2 hc
theorem sumQ (hK : X.K = K := by rfl) (hc : X.calm = true := by rfl) : CallR X (.builtin "sum") (rSum K) := by subst hK; exact cr_sum hc
theorem minQ (hK : X.K = K := by rfl) (hc : X.calm = true := by rfl) : CallR X (.builtin "min") (rMin K) := by subst hK; exact cr_min hc
theorem maxQ (hK : X.K = K := by rfl) (hc : X.calm = true := by rfl) : CallR X (.builtin "max") (rMax K) := by subst hK; exact cr_max hc
def rDictPQ (K : PySem.W.Frag) : List V → Hp → VK → Prop := fun xs H Q => ∃ (a : Addr) (ps : List Addr) (kvs : List (Key × V)), xs = [.ref a] ∧ SqL K H a (ps.map V.ref) ∧ Paired (fun p kv => SqT K H p [kV kv.1, kv.2]) ps kvs ∧
    ∀ p, H p = none → Q (.ref p) (upd H p (.dK (mergeK [] kvs)))
theorem dictPQ (hK : X.K = K := by rfl) (hc : X.calm = true := by rfl) : CallR X (.type "dict") (rDictPQ K) := by subst hK; exact call_dictP hc
end
section
variable {X : Cx} {K : PySem.W.Frag} {e : Expr} {f : Str} {pos : Pos} {ta : TE} {tg l : Expr} {tl : TE} {es : List Expr} {k n : Nat} {t : TGs} {T : String} {name : Str} {id : String} {o : Expr} {to : TE} {tA : TA} {apos cpos : Pos} {r : V → List V → Hp → VK → Prop}
theorem fld (he : PE X e ta) (hb : attributeBase e f X.env (eval e X.env) = eval e X.env := by rfl) (hK : X.K = K := by rfl) : PE X (.Attribute e f pos) (tFld K ta f) := by subst hK; exact pe_fld he hb
theorem iL (hl : PE X l tl) (hK : X.K = K := by rfl) : PI X tg l (iList K tl) := by subst hK; exact pi_list hl
theorem iT (hl : PE X l tl) (hK : X.K = K := by rfl) : PI X tg l (iTup K tl) := by subst hK; exact pi_tup hl
theorem gT (h : PGs X es t) (hc : X.calm = true := by rfl) (hK : X.K = K := by rfl) (hn : (assignEach es X.env).length = n := by rfl) (hst : (assignEach es X.env).findIdx? (·.1) = none := by rfl) : PG X (.Tuple es k pos) (gTup K n t) := by
  subst hK; exact pg_tup hc h hn hst
theorem gU (h : PGs X es t) (hc : X.calm = true := by rfl) (hK : X.K = K := by rfl) (hn : (assignEach es X.env).length = n := by rfl) (hst : (assignEach es X.env).findIdx? (·.1) = none := by rfl) : PG X (.Tuple es k pos) (gUnl K n t) := by
  subst hK; exact pg_unl hc h hn hst
theorem bm (h : PE X e (tBM X.K T r to tA)) (hK : X.K = K := by rfl) : PE X e (tBM K T r to tA) := by subst hK; exact h
theorem star {p : Pos} {te : TE} (he : PE X e te) (hr : PA X es tA) (hs : starEach (.Starred e p :: es) X.env = (true, eval e X.env) :: starEach es X.env := by rfl) (hK : X.K = K := by rfl) : PA X (.Starred e p :: es) (tStar K te tA) := by
  subst hK; exact pa_star he hr (hs := hs)
theorem sFlA {value : Expr} {tv : TE} {tpos : Pos} {op : Operator} {rd : V → V → Hp → VK → Prop} (ha : PE X o ta) (hv : PE X value tv) (hop : InOp X op rd) (hK : X.K = K := by rfl) : PS X (.AugAssign (.Attribute o f tpos) op value pos) (sFldAug K ta tv rd f) := by
  subst hK; exact ps_fldaug ha hv hop
theorem sFl {value : Expr} {tv : TE} {pos' : Pos} (ha : PE X o ta) (hv : PE X value tv) (hs : swapsWith value (some (.Attribute o f pos')) pos.line X.env = pure false := by rfl) (hK : X.K = K := by rfl) : PS X (.Assign [.Attribute o f pos'] value pos) (sFld K ta tv f) := by
  subst hK; exact ps_fld ha hv hs
end

/-! ### what the top has written -/
structure Tx (K : PySem.W.Frag) (mg : Str → Option Value) (CN CR : Addr) : Prop where
  clN : Cls K CN
  clR : Cls K CR
  a_size : NoAttr K CN "_size"
  a_edges : NoAttr K CN "_edges"
  r_size : NoAttr K CR "size"
  r_terminals : NoAttr K CR "terminals"
  r_edges : NoAttr K CR "edges"
  r_origins : NoAttr K CR "origins"
  r_next : NoAttr K CR "next"
  c_MOST_VERTICES : ∃ t, mg "MOST_VERTICES" = some (.int 40 t)
  c_MOST_EDGES : ∃ t, mg "MOST_EDGES" = some (.int 200 t)
  c_MOST_PRICE : ∃ t, mg "MOST_PRICE" = some (.int 1048576 t)
  c_PRICE_SHIFT : ∃ t, mg "PRICE_SHIFT" = some (.int 440 t)
  c_COUNT_SHIFT : ∃ t, mg "COUNT_SHIFT" = some (.int 220 t)
  c_TIE_BITS : ∃ t, mg "TIE_BITS" = some (.int 200 t)
  c_MOST_TERMINALS : ∃ t, mg "MOST_TERMINALS" = some (.int 8 t)
  n_len : mg "len" = none
  n_range : mg "range" = none
  n_sorted : mg "sorted" = none
  n_min : mg "min" = none
  n_max : mg "max" = none
  n_sum : mg "sum" = none
  n_list : mg "list" = none
  n_dict : mg "dict" = none
  n_set : mg "set" = none
  n_int : mg "int" = none
  n_abs : mg "abs" = none
  n_isinstance : mg "isinstance" = none
end TW
end

section
set_option Elab.async false
set_option linter.all false
set_option maxRecDepth 100000
set_option maxHeartbeats 1000000
/-! Heaps that grow, what they hold, steps of a reading. -/
namespace TW
open PySem PySem.Spec PyProof.Rows L2 LamX NdefX StX

/-! ### heaps that grow -/
abbrev Tbs := List (Addr × Str)
/-- all that H tracks stands in H' (but tables, and what stands at xs); the tables stay good -/
structure Gx (T : Tbs) (xs : List Addr) (H H' : Hp) : Prop where
  ext : ∀ b o, H b = some o → (∀ ps, o ≠ .tbl ps) → b ∉ xs → H' b = some o
  tab : Tabs T H → Tabs T H'
/-- what may be written here -/
def Pl : HO → Prop
  | .tbl _ => False
  | .ext _ => False
  | _ => True
/-- nothing that may not change stands there -/
def Off (G : Hp) (l : Addr) : Prop := ∀ o, G l = some o → ∃ ps, o = .tbl ps
section
variable {T : Tbs} {xs ys : List Addr} {H H1 H2 G : Hp} {l p : Addr} {o o0 : HO}
theorem Gx.refl : Gx T xs H H := ⟨fun _ _ e _ _ => e, id⟩
theorem Gx.trans (a : Gx T xs H H1) (b : Gx T xs H1 H2) : Gx T xs H H2 := ⟨fun c o e n h => b.ext c o (a.ext c o e n h) n h, fun t => b.tab (a.tab t)⟩
theorem Gx.mono (a : Gx T xs H H1) (h : ∀ x ∈ xs, x ∈ ys) : Gx T ys H H1 := ⟨fun c o e n hn => a.ext c o e n fun z => hn (h c z), a.tab⟩
theorem Gx.call (a : Gx T xs H H1) (b : Gx T [] H1 H2) : Gx T xs H H2 := a.trans (b.mono fun _ z => nomatch z)
theorem Gx.same (s : Same H H1) : Gx T xs H H1 := ⟨fun b o e _ _ => s b o e, fun t => t.ext s⟩
theorem Gx.new (a : Gx T xs H H1) (h : H1 p = none) : Gx T xs H (upd H1 p o) := a.trans (Gx.same fun b u e => by rw [upd_ne (ne_of_none e h)]; exact e)
theorem Gx.mut (a : Gx T xs H H1) (hm : l ∈ xs) (h : H1 l = some o0) (hp : Pl o0) : Gx T xs H (upd H1 l o) where
  ext := fun b u e n hb => by rw [upd_ne (fun z : b = l => hb (by rw [z]; exact hm))]; exact a.ext b u e n hb
  tab := fun t q hq => by
    obtain ⟨ps, e1, e2, e3⟩ := a.tab t q hq
    have n1 : q.1 ≠ l := ne_of e1 h fun z => by rw [← z] at hp; exact hp
    refine ⟨ps, by rw [upd_ne n1]; exact e1, e2, fun pos cv hc => ?_⟩
    obtain ⟨c, h1, h2⟩ := e3 pos cv hc
    have n2 : c ≠ l := ne_of h2 h fun z => by rw [← z] at hp; exact hp
    exact ⟨c, h1, by rw [upd_ne n2]; exact h2⟩
theorem Gx.drop (a : Gx T (l :: xs) H H1) (h : Off H l) : Gx T xs H H1 := ⟨fun c o e n hn => a.ext c o e n fun z => by
  rcases List.mem_cons.mp z with z | z
  · subst z
    obtain ⟨ps, q⟩ := h o e
    exact n ps q
  · exact hn z, a.tab⟩
theorem Off.none (h : H l = none) : Off H l := fun o e => by rw [h] at e; cases e
theorem Gx.off (a : Gx T [] H H1) (h : Off H1 l) : Off H l := fun o e => by
  cases o with
  | tbl ps => exact ⟨ps, rfl⟩
  | _ => obtain ⟨ps, q⟩ := h _ (a.ext l _ e (fun _ z => by cases z) (by simp)); cases q
theorem Gx.extN (a : Gx T [] H H1) : ExtN H H1 := fun b o e n => a.ext b o e n (by simp)
theorem Gx.ofN (a : ExtN H H1) (t : Tabs T H1) : Gx T [] H H1 := ⟨fun b o e n _ => a b o e n, fun _ => t⟩
theorem Gx.lst {vs : List V} (a : Gx T xs H H1) (e : H l = some (.lst vs)) (h : l ∉ xs := by simp) : H1 l = some (.lst vs) := a.ext l _ e (fun _ z => by cases z) h
theorem Gx.tup {vs : List V} (a : Gx T xs H H1) (e : H l = some (.tup vs)) (h : l ∉ xs := by simp) : H1 l = some (.tup vs) := a.ext l _ e (fun _ z => by cases z) h
theorem Gx.ins {C dx : Addr} {fs : List (Str × V)} (a : Gx T xs H H1) (e : H l = some (.ins C dx fs)) (h : l ∉ xs := by simp) : H1 l = some (.ins C dx fs) := a.ext l _ e (fun _ z => by cases z) h
theorem Gx.dK {kvs : List (Key × V)} (a : Gx T xs H H1) (e : H l = some (.dK kvs)) (h : l ∉ xs := by simp) : H1 l = some (.dK kvs) := a.ext l _ e (fun _ z => by cases z) h
end

/-! ### what the heap holds -/
/-- a fact that stays as the heap grows -/
def MonoR {α : Type} (R : Hp → V → α → Prop) : Prop := ∀ H H' v x, ExtN H H' → R H v x → R H' v x
def RI : Hp → V → Int → Prop := fun _ v i => v = .int i
def RO : Hp → V → Option Int → Prop := fun _ v o => v = match o with | none => .non | some i => .int i
/-- a tuple of three ints; of two -/
def RE : Hp → V → TW.Ed → Prop := fun H v e => ∃ a, v = .ref a ∧ H a = some (.tup [.int e.1, .int e.2.1, .int e.2.2])
def RP : Hp → V → Int × Int → Prop := fun H v e => ∃ a, v = .ref a ∧ H a = some (.tup [.int e.1, .int e.2])
/-- a list of ints -/
def RLI : Hp → V → List Int → Prop := fun H v ns => ∃ a, v = .ref a ∧ H a = some (.lst (ns.map V.int))
/-- a list of things -/
def RL {α : Type} (R : Hp → V → α → Prop) : Hp → V → List α → Prop := fun H v xs => ∃ a vs, v = .ref a ∧ H a = some (.lst vs) ∧ Paired (R H) vs xs
section
variable {α : Type} {R : Hp → V → α → Prop} {T : Tbs} {H H' : Hp}
theorem mI : MonoR RI := fun _ _ _ _ _ h => h
theorem mO : MonoR RO := fun _ _ _ _ _ h => h
theorem mE : MonoR RE := fun _ _ _ _ e ⟨a, h1, h2⟩ => ⟨a, h1, e a _ h2 fun _ z => by cases z⟩
theorem mP : MonoR RP := fun _ _ _ _ e ⟨a, h1, h2⟩ => ⟨a, h1, e a _ h2 fun _ z => by cases z⟩
theorem mLI : MonoR RLI := fun _ _ _ _ e ⟨a, h1, h2⟩ => ⟨a, h1, e a _ h2 fun _ z => by cases z⟩
theorem prd_mono {vs : List V} {xs : List α} (m : MonoR R) (e : ExtN H H') (h : Paired (R H) vs xs) : Paired (R H') vs xs := Paired.mapP h fun v x q => m H H' v x e q
theorem mL (m : MonoR R) : MonoR (RL R) := fun _ _ _ _ e ⟨a, vs, h1, h2, h3⟩ => ⟨a, vs, h1, e a _ h2 (fun _ z => by cases z), prd_mono m e h3⟩
theorem prd_get {β : Type} {F : V → β → Prop} : ∀ {vs : List V} {xs : List β} {i : Nat} {x : β}, Paired F vs xs → xs[i]? = some x → ∃ v, vs[i]? = some v ∧ F v x
  | _, _, _, _, .nil, e => by simp at e
  | _, _, 0, _, .cons r _, e => by simp at e; subst e; exact ⟨_, rfl, r⟩
  | _, _, i + 1, x, .cons _ t, e => by
    obtain ⟨u, h1, h2⟩ := prd_get (i := i) (x := x) t (by simpa using e)
    exact ⟨u, by simpa using h1, h2⟩
theorem prd_getV {β : Type} {F : V → β → Prop} : ∀ {vs : List V} {xs : List β} {i : Nat} {v : V}, Paired F vs xs → vs[i]? = some v → ∃ x, xs[i]? = some x ∧ F v x
  | _, _, _, _, .nil, e => by simp at e
  | _, _, 0, _, .cons r _, e => by simp at e; subst e; exact ⟨_, rfl, r⟩
  | _, _, i + 1, x, .cons _ t, e => by
    obtain ⟨u, h1, h2⟩ := prd_getV (i := i) (v := x) t (by simpa using e)
    exact ⟨u, by simpa using h1, h2⟩
theorem prd_len {β : Type} {F : V → β → Prop} {vs : List V} {xs : List β} (h : Paired F vs xs) : vs.length = xs.length := Paired.length h
theorem prd_snoc {β : Type} {F : V → β → Prop} : ∀ {vs : List V} {xs : List β} {v : V} {x : β}, Paired F vs xs → F v x → Paired F (vs ++ [v]) (xs ++ [x])
  | _, _, _, _, .nil, q => .cons q .nil
  | _, _, _, _, .cons r t, q => .cons r (prd_snoc t q)
theorem prd_set {β : Type} {F : V → β → Prop} {v : V} {x : β} (q : F v x) : ∀ {vs : List V} {xs : List β} (i : Nat), Paired F vs xs → Paired F (vs.set i v) (xs.set i x)
  | _, _, _, .nil => .nil
  | _, _, 0, .cons _ t => .cons q t
  | _, _, i + 1, .cons r t => .cons r (prd_set q i t)
theorem prd_app {β : Type} {F : V → β → Prop} : ∀ {vs ws : List V} {xs ys : List β}, Paired F vs xs → Paired F ws ys → Paired F (vs ++ ws) (xs ++ ys)
  | _, _, _, _, .nil, q => q
  | _, _, _, _, .cons r t, q => .cons r (prd_app t q)
theorem prd_ints : ∀ {vs : List V} {xs : List Int}, Paired (RI H) vs xs → vs = xs.map V.int
  | _, _, .nil => rfl
  | _, _, .cons r t => by rw [List.map_cons, ← prd_ints t, r]
theorem ints_prd : ∀ (xs : List Int), Paired (RI H) (xs.map V.int) xs
  | [] => .nil
  | _ :: r => .cons rfl (ints_prd r)
end

/-! ### a list that is filled with things that are made meanwhile -/
def minus (l : Addr) (H : Hp) : Hp := fun b => if b = l then none else H b
theorem minus_ne {H : Hp} {l b : Addr} (h : b ≠ l) : minus l H b = H b := if_neg h
theorem minus_upd {H : Hp} {l : Addr} {o : HO} : minus l (upd H l o) = minus l H := by
  funext b; unfold minus
  by_cases h : b = l
  · rw [if_pos h, if_pos h]
  · rw [if_neg h, if_neg h, upd_ne h]
theorem minus_ext {H H' : Hp} {l : Addr} (e : ExtN H H') : ExtN (minus l H) (minus l H') := fun b o h n => by
  by_cases hb : b = l
  · unfold minus at h; rw [if_pos hb] at h; cases h
  · rw [minus_ne hb] at h ⊢; exact e b o h n
theorem minus_le {H : Hp} {l : Addr} : ExtN (minus l H) H := fun b o h n => by
  by_cases hb : b = l
  · unfold minus at h; rw [if_pos hb] at h; cases h
  · rwa [minus_ne hb] at h
/-- at l a list of the things xs -/
def Acc {α : Type} (R : Hp → V → α → Prop) (l : Addr) (H : Hp) (xs : List α) : Prop := ∃ vs, H l = some (.lst vs) ∧ Paired (R (minus l H)) vs xs
section
variable {α : Type} {R : Hp → V → α → Prop} {T : Tbs} {H H' : Hp} {l p : Addr} {xs : List α} {v : V} {x : α} {o : HO}
theorem Acc.start : Acc R l (upd H l (.lst [])) [] := ⟨[], upd_same, .nil⟩
theorem Acc.grow (m : MonoR R) (h : Acc R l H xs) (e : ExtN H H') : Acc R l H' xs := by
  obtain ⟨vs, h1, h2⟩ := h
  exact ⟨vs, e l _ h1 fun _ z => (by cases z), prd_mono m (minus_ext e) h2⟩
theorem Acc.new (m : MonoR R) (h : Acc R l H xs) (hp : H p = none) : Acc R l (upd H p o) xs := h.grow m fun b u e _ => by rw [upd_ne (ne_of_none e hp)]; exact e
/-- v is put behind it -/
theorem Acc.push {vs : List V} (h : Acc R l H xs) (hl : H l = some (.lst vs)) (hv : R (minus l H) v x) : Acc R l (upd H l (.lst (vs ++ [v]))) (xs ++ [x]) := by
  obtain ⟨ws, h1, h2⟩ := h
  rw [hl] at h1; cases h1
  exact ⟨vs ++ [v], upd_same, by rw [minus_upd]; exact prd_snoc h2 hv⟩
theorem Acc.out (m : MonoR R) (h : Acc R l H xs) : RL R H (.ref l) xs := by
  obtain ⟨vs, h1, h2⟩ := h
  exact ⟨l, vs, rfl, h1, prd_mono m minus_le h2⟩
theorem Acc.len {vs : List V} (h : Acc R l H xs) (hl : H l = some (.lst vs)) : vs.length = xs.length := by
  obtain ⟨ws, h1, h2⟩ := h
  rw [hl] at h1; cases h1
  exact prd_len h2
end

/-! ### steps of a reading -/
section
variable {K : PySem.W.Frag} {σ : L2.St} {H : Hp} {Q : VK} {v x y : V} {ta tb te td ty tk tv : TE} {t u : TT} {D : Ends} {s1 s2 : TS} {QB : Bool → Hp → Prop} {QL : List V → Hp → Prop} {tA : TA} {T : Tbs}
theorem r_var {i : Nat} (h : σ[i]? = some (some v)) (q : Q v H) : tVar i σ H Q := ⟨v, h, q⟩
theorem r_c (q : Q v H) : tC v σ H Q := q
theorem r_op {r : R2} (q : ta σ H fun x H1 => tb σ H1 fun y H2 => r x y H2 Q) : tOp r ta tb σ H Q := q
theorem r_un {r : V → Hp → VK → Prop} (q : ta σ H fun x H1 => r x H1 Q) : tUn r ta σ H Q := q
theorem r_I0 {g : Int → Int → V} {i j : Int} (q : Q (g i j) H) : rI0 g (.int i) (.int j) H Q := ⟨i, j, rfl, rfl, q⟩
theorem r_I {C : Int → Int → Prop} {g : Int → Int → V} {i j : Int} (hc : C i j) (q : Q (g i j) H) : rI C g (.int i) (.int j) H Q := ⟨i, j, rfl, rfl, hc, q⟩
theorem r_U {g : Int → V} {i : Int} (q : Q (g i) H) : rU g (.int i) H Q := ⟨i, rfl, q⟩
theorem r_eqI {i j : Int} (q : Q (.bl (decide (i = j))) H) : rEq (.int i) (.int j) H Q := ⟨rfl, by
  have e : decide (V.int i = V.int j) = decide (i = j) := by
    rw [Bool.eq_iff_iff]; simp
  rw [e]; exact q⟩
theorem r_neI {i j : Int} (q : Q (.bl (!decide (i = j))) H) : rNe (.int i) (.int j) H Q := ⟨rfl, by
  have e : decide (V.int i = V.int j) = decide (i = j) := by
    rw [Bool.eq_iff_iff]; simp
  rw [e]; exact q⟩
theorem r_eqS {i j : Str} (q : Q (.bl (decide (i = j))) H) : rEq (.str i) (.str j) H Q := ⟨rfl, by
  have e : decide (V.str i = V.str j) = decide (i = j) := by
    rw [Bool.eq_iff_iff]; simp
  rw [e]; exact q⟩
theorem r_neB {i j : Bool} (q : Q (.bl (!decide (i = j))) H) : rNe (.bl i) (.bl j) H Q := ⟨rfl, by
  have e : decide (V.bl i = V.bl j) = decide (i = j) := by
    rw [Bool.eq_iff_iff]; simp
  rw [e]; exact q⟩
theorem r_test {te : TE} (q : te σ H fun x H1 => ∃ k, x = .bl k ∧ QB k H1) : tTest te σ H QB := q
theorem r_B {te : TE} (q : te σ H fun x H1 => ∃ k, x = .bl k ∧ QB k H1) : tB te σ H QB := q
theorem r_bl {b : Bool} (q : QB b H) : ∃ k, V.bl b = .bl k ∧ QB k H := ⟨b, rfl, q⟩
theorem r_and (q : t σ H fun c H1 => if c = true then u σ H1 QB else QB false H1) : tAnd t u σ H QB := q
theorem r_or (q : t σ H fun c H1 => if c = true then QB true H1 else u σ H1 QB) : tOr t u σ H QB := q
theorem r_not (q : t σ H fun c H1 => QB (!c) H1) : tNot t σ H QB := q
theorem r_andV (q : ta σ H fun x H1 => ∃ c, x = .bl c ∧ if c = true then tb σ H1 Q else Q (.bl false) H1) : tAndV ta tb σ H Q := q
theorem r_orV (q : ta σ H fun x H1 => ∃ c, x = .bl c ∧ if c = true then Q (.bl true) H1 else tb σ H1 Q) : tOrV ta tb σ H Q := q
theorem r_notV (q : ta σ H fun x H1 => ∃ c, x = .bl c ∧ Q (.bl (!c)) H1) : tNotV ta σ H Q := q
theorem r_ifE (q : t σ H fun c H1 => if c = true then ta σ H1 Q else tb σ H1 Q) : tIf t ta tb σ H Q := q
theorem r_chain {r r' : R2} {tc : TE} (q : ta σ H fun x H1 => tb σ H1 fun y H2 => r x y H2 fun z H3 => ∃ k, z = .bl k ∧ (if k = true then tc σ H3 fun w' H4 => r' y w' H4 Q else Q (.bl false) H3)) : tChain r r' ta tb tc σ H Q := q
theorem r_nil (q : QL [] H) : tNil σ H QL := q
theorem r_cons (q : ta σ H fun x H1 => tA σ H1 fun xs H2 => QL (x :: xs) H2) : tCons ta tA σ H QL := q
theorem r_cl {sp : Sp} (q : tA σ H fun vs H1 => sp vs H1 Q E0) : tCl sp tA σ H Q := q
theorem r_cb {r : List V → Hp → VK → Prop} (q : tA σ H fun vs H1 => r vs H1 Q) : tCB r tA σ H Q := q
theorem r_seq (q : s1 { D with nx := s2 D } σ H) : tSeq s1 s2 D σ H := q
theorem r_nx (q : D.nx σ H) : tNext D σ H := q
theorem r_set {i : Nat} (q : te σ H fun x H1 => D.nx (σ.set i (some x)) H1) : tAsg te (gName i) D σ H := q
theorem r_asg {g : TG} (q : te σ H fun x H1 => g x σ H1 D.nx) : tAsg te g D σ H := q
theorem r_drop (q : te σ H fun _ H1 => D.nx σ H1) : tDrop te D σ H := q
theorem r_ret (q : te σ H D.rt) : tRet te D σ H := q
theorem r_if (q : t σ H fun b H1 => if b = true then s1 D σ H1 else s2 D σ H1) : tIfS t s1 s2 D σ H := q
theorem r_gN {i : Nat} {Qs : L2.St → Hp → Prop} (q : Qs (σ.set i (some v)) H) : gName i v σ H Qs := q
theorem r_tup (q : tA σ H fun xs H1 => xs.length ≤ sizeLine ∧ ∀ p, H1 p = none → Q (.ref p) (upd H1 p (.tup xs))) : tTup tA σ H Q := q
theorem r_lst (q : tA σ H fun xs H1 => xs.length ≤ sizeLine ∧ ∀ p, H1 p = none → Q (.ref p) (upd H1 p (.lst xs))) : tLst tA σ H Q := q
/-- a new object, the heap a letter from now on -/
theorem r_new {o : HO} (q : ∀ (p : Addr) (H' : Hp), H p = none → Gx T [] H H' → H' p = some o → Q (.ref p) H') : ∀ p, H p = none → Q (.ref p) (upd H p o) := fun p h => q p _ h (Gx.refl.new h) upd_same
theorem r_newS {o : HO} {n : Nat} (hn : n ≤ sizeLine) (q : ∀ (p : Addr) (H' : Hp), H p = none → Gx T [] H H' → H' p = some o → Q (.ref p) H') : n ≤ sizeLine ∧ ∀ p, H p = none → Q (.ref p) (upd H p o) := ⟨hn, r_new q⟩
theorem r_ixL {p : Addr} {xs : List V} {i : Int} (h : SqL K H p xs) (ha : atI xs i = some v) (q : Q v H) : rIxL K (.ref p) (.int i) H Q := ⟨p, xs, i, v, rfl, rfl, h, ha, q⟩
theorem r_ixT {p : Addr} {xs : List V} {i : Int} (h : SqT K H p xs) (ha : atI xs i = some v) (q : Q v H) : rIxT K (.ref p) (.int i) H Q := ⟨p, xs, i, v, rfl, rfl, h, ha, q⟩
theorem r_ix0 {p : Addr} {a : V} {xs : List V} (h : H p = some (.tup (a :: xs))) (q : Q a H) : rIxT K (.ref p) (.int 0) H Q := r_ixT (SqT.of h) (atI_nat (j := 0) rfl) q
theorem r_ix1 {p : Addr} {a b : V} {xs : List V} (h : H p = some (.tup (a :: b :: xs))) (q : Q b H) : rIxT K (.ref p) (.int 1) H Q := r_ixT (SqT.of h) (atI_nat (j := 1) rfl) q
theorem r_ix2 {p : Addr} {a b c : V} {xs : List V} (h : H p = some (.tup (a :: b :: c :: xs))) (q : Q c H) : rIxT K (.ref p) (.int 2) H Q := r_ixT (SqT.of h) (atI_nat (j := 2) rfl) q
theorem r_len {p : Addr} {xs : List V} (h : SqL K H p xs) (q : Q (.int xs.length) H) : rLenQ K [.ref p] H Q := ⟨p, xs, rfl, .inl h, q⟩
theorem r_lenD {p : Addr} {kvs : List (Key × V)} (h : H p = some (.dK kvs)) (q : Q (.int kvs.length) H) : rLenQD [.ref p] H Q := ⟨p, kvs, rfl, h, q⟩
theorem r_list {p : Addr} {xs : List V} (h : SqL K H p xs) (q : ∀ (l : Addr) (H' : Hp), H l = none → Gx T [] H H' → H' l = some (.lst xs) → Q (.ref l) H') : rListQ K [.ref p] H Q := ⟨p, xs, rfl, .inl h, r_new q⟩
theorem r_slL {p : Addr} {xs : List V} {lo hi : Option Int} (h : SqL K H p xs) (q : ∀ (l : Addr) (H' : Hp), H l = none → Gx T [] H H' → H' l = some (.lst (cutV xs lo hi)) → Q (.ref l) H') : rSlL K (.ref p) lo hi H Q := ⟨p, xs, rfl, h, r_new q⟩
theorem r_sl {r : V → Option Int → Option Int → Hp → VK → Prop} {tl th : TO} (q : te σ H fun x H1 => tl σ H1 fun l H2 => th σ H2 fun u H3 => r x l u H3 Q) : tSl r te tl th σ H Q := q
theorem r_noP {QO : Option Int → Hp → Prop} (q : QO none H) : tNoPart σ H QO := q
theorem r_part {QO : Option Int → Hp → Prop} (q : te σ H fun x H1 => ∃ i, x = .int i ∧ QO (some i) H1) : tPart te σ H QO := q
theorem r_int {QO : Option Int → Hp → Prop} {i : Int} (q : QO (some i) H) : ∃ j, V.int i = .int j ∧ QO (some j) H := ⟨i, rfl, q⟩
theorem r_fld {f : Str} (q : ta σ H fun x H1 => ∃ a C dx fs v, x = .ref a ∧ H1 a = some (.ins C dx fs) ∧ Cls K C ∧ NoAttr K C f ∧ fs.lookup f = some v ∧ Q v H1) : tFld K ta f σ H Q := q
theorem r_fldAt {f : Str} {a C dx : Addr} {fs : List (Str × V)} (h : H a = some (.ins C dx fs)) (c : Cls K C) (n : NoAttr K C f) (l : fs.lookup f = some v) (q : Q v H) :
    ∃ a' C dx fs v, V.ref a = .ref a' ∧ H a' = some (.ins C dx fs) ∧ Cls K C ∧ NoAttr K C f ∧ fs.lookup f = some v ∧ Q v H := ⟨a, C, dx, fs, v, rfl, h, c, n, l, q⟩
theorem r_mt {C : Addr} {m : Str} {sp : Sp} (q : ta σ H fun x H1 => ∃ a dx fs, x = .ref a ∧ H1 a = some (.ins C dx fs) ∧ fs.lookup m = none ∧ tA σ H1 fun vs H2 => sp (x :: vs) H2 Q E0) : tMt C m sp ta tA σ H Q := q
theorem r_mtAt {C a dx : Addr} {fs : List (Str × V)} {m : Str} {A : Prop} (h : H a = some (.ins C dx fs)) (l : fs.lookup m = none) (q : A) : ∃ a' dx fs, V.ref a = .ref a' ∧ H a' = some (.ins C dx fs) ∧ fs.lookup m = none ∧ A := ⟨a, dx, fs, rfl, h, l, q⟩
theorem r_dget (q : td σ H fun x H1 => ty σ H1 fun y H2 => ∃ a v, x = .ref a ∧ DGet H2 a y (some v) ∧ Q v H2) : tDGet td ty σ H Q := q
theorem r_dgetAt {d : Addr} {kvs : List (Key × V)} {i : Int} (h : H d = some (.dK kvs)) (hv : valV kvs (.inl i) = some v) (q : Q v H) : ∃ a v, V.ref d = .ref a ∧ DGet H a (.int i) (some v) ∧ Q v H := ⟨d, v, rfl, by rw [← hv]; exact DGet.k (k := Sum.inl i) h, q⟩
theorem r_din (q : ty σ H fun y H1 => td σ H1 fun x H2 => ∃ a o, x = .ref a ∧ DGet H2 a y o ∧ Q (.bl o.isSome) H2) : tDIn ty td σ H Q := q
theorem r_dni (q : ty σ H fun y H1 => td σ H1 fun x H2 => ∃ a o, x = .ref a ∧ DGet H2 a y o ∧ Q (.bl (!o.isSome)) H2) : tDNotIn ty td σ H Q := q
theorem r_dinAt {d : Addr} {kvs : List (Key × V)} {i : Int} (h : H d = some (.dK kvs)) (q : Q (.bl (valV kvs (.inl i)).isSome) H) : ∃ a o, V.ref d = .ref a ∧ DGet H a (.int i) o ∧ Q (.bl o.isSome) H := ⟨d, _, rfl, DGet.k (k := Sum.inl i) h, q⟩
theorem r_dniAt {d : Addr} {kvs : List (Key × V)} {i : Int} (h : H d = some (.dK kvs)) (q : Q (.bl (!(valV kvs (.inl i)).isSome)) H) : ∃ a o, V.ref d = .ref a ∧ DGet H a (.int i) o ∧ Q (.bl (!o.isSome)) H := ⟨d, _, rfl, DGet.k (k := Sum.inl i) h, q⟩
theorem r_iL {R : It → Hp → Prop} (q : te σ H fun x H1 => ∃ a, x = .ref a ∧ (∃ xs, SqL K H1 a xs) ∧ R (Itl K a) H1) : iList K te σ H R := q
theorem r_iLAt {p : Addr} {xs : List V} {A : Addr → Prop} (h : SqL K H p xs) (q : A p) : ∃ a, V.ref p = .ref a ∧ (∃ xs, SqL K H a xs) ∧ A a := ⟨p, rfl, ⟨xs, h⟩, q⟩
theorem r_iT {R : It → Hp → Prop} (q : te σ H fun x H1 => ∃ a, x = .ref a ∧ (∃ xs, SqT K H1 a xs) ∧ R (Itt K a) H1) : iTup K te σ H R := q
theorem r_iTAt {p : Addr} {xs : List V} {A : Addr → Prop} (h : SqT K H p xs) (q : A p) : ∃ a, V.ref p = .ref a ∧ (∃ xs, SqT K H a xs) ∧ A a := ⟨p, rfl, ⟨xs, h⟩, q⟩
theorem r_iR1 {R : It → Hp → Prop} (q : tA σ H fun vs H1 => ∃ j : Int, vs = [.int j] ∧ -(2 ^ 62) ≤ j ∧ j < 2 ^ 62 ∧ R (Itr 0 j.toNat) H1) : iRng1 tA σ H R := q
theorem r_iR1At {j : Int} {A : Int → Prop} (h : -(2 ^ 62) ≤ j ∧ j < 2 ^ 62) (q : A j) : ∃ i : Int, [V.int j] = [.int i] ∧ -(2 ^ 62) ≤ i ∧ i < 2 ^ 62 ∧ A i := ⟨j, rfl, h.1, h.2, q⟩
theorem r_iR2 {R : It → Hp → Prop} (q : tA σ H fun vs H1 => ∃ i j : Int, vs = [.int i, .int j] ∧ (-(2 ^ 62) ≤ i ∧ i < 2 ^ 62 ∧ -(2 ^ 62) ≤ j ∧ j < 2 ^ 62) ∧ R (Itr i (j - i).toNat) H1) : iRng2 tA σ H R := q
theorem r_inL {p : Addr} {xs : List V} (h : SqL K H p xs) (f1 : flatV x = true) (f2 : xs.all flatV = true) (q : Q (.bl (inV x xs)) H) : rIn K false x (.ref p) H Q := ⟨p, xs, rfl, .inl h, f1, f2, q⟩
theorem r_niL {p : Addr} {xs : List V} (h : SqL K H p xs) (f1 : flatV x = true) (f2 : xs.all flatV = true) (q : Q (.bl (!inV x xs)) H) : rIn K true x (.ref p) H Q := ⟨p, xs, rfl, .inl h, f1, f2, q⟩
theorem r_inT {p : Addr} {xs : List V} (h : SqT K H p xs) (f1 : flatV x = true) (f2 : xs.all flatV = true) (q : Q (.bl (inV x xs)) H) : rIn K false x (.ref p) H Q := ⟨p, xs, rfl, .inr h, f1, f2, q⟩
theorem r_niT {p : Addr} {xs : List V} (h : SqT K H p xs) (f1 : flatV x = true) (f2 : xs.all flatV = true) (q : Q (.bl (!inV x xs)) H) : rIn K true x (.ref p) H Q := ⟨p, xs, rfl, .inr h, f1, f2, q⟩
end
/-- x in a list of ints, as data -/
theorem inV_ints (i : Int) : ∀ ns : List Int, inV (.int i) (ns.map V.int) = decide (i ∈ ns)
  | [] => rfl
  | n :: r => by
    have ih := inV_ints i r
    unfold inV at ih ⊢
    rw [List.map_cons, List.any_cons, ih]
    show (n == i || decide (i ∈ r)) = decide (i ∈ n :: r)
    by_cases h : i = n
    · subst h; simp
    · have h2 : (n == i) = false := beq_eq_false_iff_ne.mpr fun z => h z.symm
      rw [h2]; simp [h]
theorem flat_ints (ns : List Int) : (ns.map V.int).all flatV = true := by simp [flatV]
section
variable {K : PySem.W.Frag} {H : Hp} {Q : VK}
theorem r_inI {p : Addr} {ns : List Int} {i : Int} (h : SqL K H p (ns.map V.int)) (q : Q (.bl (decide (i ∈ ns))) H) : rIn K false (.int i) (.ref p) H Q := r_inL h rfl (flat_ints ns) (by rw [inV_ints]; exact q)
theorem r_niI {p : Addr} {ns : List Int} {i : Int} (h : SqL K H p (ns.map V.int)) (q : Q (.bl (!decide (i ∈ ns))) H) : rIn K true (.int i) (.ref p) H Q := r_niL h rfl (flat_ints ns) (by rw [inV_ints]; exact q)
end
/-- an index into a list of things -/
theorem at_nat {xs : List V} {i : Int} {v : V} (h0 : 0 ≤ i) (h : xs[i.toNat]? = some v) : atI xs i = some v := at_of (j := i.toNat) (by omega) h
theorem at_ints {ns : List Int} {i n : Int} (h0 : 0 ≤ i) (h : ns[i.toNat]? = some n) : atI (ns.map V.int) i = some (V.int n) := at_nat h0 (by rw [List.getElem?_map, h]; rfl)
theorem ifB {b : Bool} {A B : Prop} (h1 : b = true → A) (h2 : b = false → B) : if b = true then A else B := by
  cases b with
  | true => exact h1 rfl
  | false => exact h2 rfl
theorem ifD {p : Prop} [Decidable p] {A B : Prop} (h1 : p → A) (h2 : ¬ p → B) : if decide p = true then A else B := by
  by_cases h : p
  · rw [if_pos (decide_eq_true h)]; exact h1 h
  · rw [if_neg (by simp [h])]; exact h2 h
theorem ifN {p : Prop} [Decidable p] {A B : Prop} (h1 : ¬ p → A) (h2 : p → B) : if (!decide p) = true then A else B := by
  by_cases h : p
  · rw [if_neg (by simp [h])]; exact h2 h
  · rw [if_pos (by simp [h])]; exact h1 h
theorem ifS {α : Type} {o : Option α} {A B : Prop} (h1 : ∀ x, o = some x → A) (h2 : o = none → B) : if o.isSome = true then A else B := by
  cases o with
  | none => exact h2 rfl
  | some x => exact h1 x rfl
theorem ifSN {α : Type} {o : Option α} {A B : Prop} (h1 : o = none → A) (h2 : ∀ x, o = some x → B) : if (!o.isSome) = true then A else B := by
  cases o with
  | none => exact h1 rfl
  | some x => exact h2 x rfl
end TW
end

section
set_option Elab.async false
set_option linter.all false
set_option maxRecDepth 100000
set_option maxHeartbeats 1000000
/-! Comprehensions and loops in their usual forms. -/
namespace TW
open PySem PySem.Spec PyProof.Rows L2 LamX NdefX StX
section
variable {α β : Type} {R : Hp → V → α → Prop} {T : Tbs} {K : PySem.W.Frag} {g : TG} {tt : TT} {te : TE} {vs : List Nat} {σ : L2.St} {H1 : Hp} {D a : Addr} {Qd : Hp → Prop}
theorem Acc.growG {xs : List Addr} {H H' : Hp} {l : Addr} {ys : List α} (m : MonoR R) (h : Acc R l H ys) (e : Gx T [] H H') : Acc R l H' ys := h.grow m e.extN
theorem Gx.out {H : Hp} (G : Gx T [D] H1 H) (hD : H1 D = none) : ExtN H1 (minus D H) := fun b o hb hn => by
  have hbD : b ≠ D := fun z => by rw [z, hD] at hb; cases hb
  rw [minus_ne hbD]; exact G.ext b o hb hn (by simp [hbD])
/-- [te for x in range] -/
theorem lc_rangeR (m : MonoR R) {lo : Int} {n : Nat} (f : Nat → Option α) (hD : H1 D = none) (hn : n < sizeLine)
    (hs : ∀ i H (N : Hp → Prop) (KY : V → Hp → Prop), i < n → Gx T [] H1 H → ExtN H1 (minus D H) → H D ≠ none → (∀ x y H4, f i = some x → Gx T [] H H4 → R (minus D H4) y x → KY y H4) → (∀ H3, f i = none → Gx T [] H H3 → N H3) →
      g (.int (lo + i)) (wipe σ vs) H fun σ2 H2 => wipe σ2 vs = wipe σ vs ∧ tt σ2 H2 fun b H3 => if b = true then te σ2 H3 KY else N H3)
    (hd : ∀ H, Gx T [] H1 H → RL R H (.ref D) ((List.range n).filterMap f) → Qd H) :
    ∃ W : Nat → Nat → Hp → Prop, (∃ m, W 0 m (upd H1 D (.lst []))) ∧ ∀ i m H, W i m H →
      ((Itr lo n).stop i H ∧ Qd H) ∨ ((Itr lo n).go i H ∧ ∃ Nx : Hp → Prop, (∀ H', Nx H' → ∃ m', m' < m ∧ W (i + 1) m' H') ∧ ∀ x H', (Itr lo n).yld i H x H' → g x (wipe σ vs) H' fun σ2 H2 => wipe σ2 vs = wipe σ vs ∧ tt σ2 H2 fun b H3 =>
        if b = true then te σ2 H3 fun y H4 => ∃ acc, H4 D = some (.lst acc) ∧ acc.length < sizeLine ∧ Nx (upd H4 D (.lst (acc ++ [y]))) else Nx H3) := by
  refine lc_range (fun i H => Gx T [D] H1 H ∧ Acc R D H ((List.range i).filterMap f)) ⟨(Gx.refl).new hD, Acc.start⟩ (fun i H hi ⟨G, A⟩ => ?_) fun H ⟨G, A⟩ => hd H (G.drop (Off.none hD)) (A.out m)
  have hne : H D ≠ none := by obtain ⟨vs, e, _⟩ := A; rw [e]; exact fun z => by cases z
  refine hs i H _ _ hi (G.drop (Off.none hD)) (G.out hD) hne (fun x y H4 e G4 r => ?_) (fun H3 e G3 => ⟨G.call G3, ?_⟩)
  · have A4 := A.grow m G4.extN
    obtain ⟨vs4, e4, p4⟩ := A4
    refine ⟨vs4, e4, ?_, (G.call G4).mut (by simp) e4 trivial, ?_⟩
    · have h1 := prd_len p4
      have h2 := List.length_filterMap_le f (List.range i)
      rw [List.length_range] at h2
      omega
    · rw [List.range_succ, List.filterMap_append]
      have e5 : List.filterMap f [i] = [x] := by simp [e]
      rw [e5]
      exact Acc.push ⟨vs4, e4, p4⟩ e4 r
  · rw [List.range_succ, List.filterMap_append]
    have e5 : List.filterMap f [i] = [] := by simp [e]
    rw [e5, List.append_nil]
    exact A.grow m G3.extN
/-- [te for x in a list of things] -/
theorem lc_listR {F : Hp → V → β → Prop} (m : MonoR R) (mF : MonoR F) {vl : List V} {xs : List β} (f : β → Option α) (hD : H1 D = none) (ha : H1 a = some (.lst vl)) (hF : Paired (F H1) vl xs) (hn : xs.length < sizeLine)
    (hs : ∀ x v H (N : Hp → Prop) (KY : V → Hp → Prop), x ∈ xs → F H v x → Gx T [] H1 H → ExtN H1 (minus D H) → H D ≠ none → (∀ y z H4, f x = some y → Gx T [] H H4 → R (minus D H4) z y → KY z H4) → (∀ H3, f x = none → Gx T [] H H3 → N H3) →
      g v (wipe σ vs) H fun σ2 H2 => wipe σ2 vs = wipe σ vs ∧ tt σ2 H2 fun b H3 => if b = true then te σ2 H3 KY else N H3)
    (hd : ∀ H, Gx T [] H1 H → RL R H (.ref D) (xs.filterMap f) → Qd H) :
    ∃ W : Nat → Nat → Hp → Prop, (∃ m, W 0 m (upd H1 D (.lst []))) ∧ ∀ i m H, W i m H →
      ((Itl K a).stop i H ∧ Qd H) ∨ ((Itl K a).go i H ∧ ∃ Nx : Hp → Prop, (∀ H', Nx H' → ∃ m', m' < m ∧ W (i + 1) m' H') ∧ ∀ x H', (Itl K a).yld i H x H' → g x (wipe σ vs) H' fun σ2 H2 => wipe σ2 vs = wipe σ vs ∧ tt σ2 H2 fun b H3 =>
        if b = true then te σ2 H3 fun y H4 => ∃ acc, H4 D = some (.lst acc) ∧ acc.length < sizeLine ∧ Nx (upd H4 D (.lst (acc ++ [y]))) else Nx H3) := by
  have hl := prd_len hF
  have hne : a ≠ D := fun z => by rw [z, hD] at ha; cases ha
  refine lc_list (xs := vl) (fun i H => Gx T [D] H1 H ∧ Acc R D H ((xs.take i).filterMap f)) ⟨(Gx.refl).new hD, Acc.start⟩ (fun i H _ ⟨G, _⟩ => SqL.of (G.lst ha (by simp [hne]))) (fun i v H hi ⟨G, A⟩ => ?_) fun H ⟨G, A⟩ => hd H (G.drop (Off.none hD)) (by rw [hl, List.take_length] at A; exact A.out m)
  have hD2 : H D ≠ none := by obtain ⟨vs, e, _⟩ := A; rw [e]; exact fun z => by cases z
  obtain ⟨x, hx, hv⟩ := prd_getV hF hi
  have tk : xs.take (i + 1) = xs.take i ++ [x] := by rw [List.take_succ, hx]; rfl
  have g0 : Gx T [] H1 H := G.drop (Off.none hD)
  refine hs x v H _ _ (List.mem_of_getElem? hx) (mF H1 H v x g0.extN hv) g0 (G.out hD) hD2 (fun y z H4 e G4 r => ?_) (fun H3 e G3 => ⟨G.call G3, ?_⟩)
  · have A4 := A.grow m G4.extN
    obtain ⟨vs4, e4, p4⟩ := A4
    refine ⟨vs4, e4, ?_, (G.call G4).mut (by simp) e4 trivial, ?_⟩
    · have h1 := prd_len p4
      have h2 := List.length_filterMap_le f (xs.take i)
      rw [List.length_take] at h2
      omega
    · rw [tk, List.filterMap_append]
      have e5 : List.filterMap f [x] = [y] := by simp [e]
      rw [e5]
      exact Acc.push ⟨vs4, e4, p4⟩ e4 r
  · rw [tk, List.filterMap_append]
    have e5 : List.filterMap f [x] = [] := by simp [e]
    rw [e5, List.append_nil]
    exact A.grow m G3.extN
end
section
variable {α : Type} {T : Tbs} {K : PySem.W.Frag} {H H' : Hp}
theorem RL.lst {R : Hp → V → α → Prop} {p : Addr} {xs : List α} (h : RL R H (.ref p) xs) : ∃ vs, H p = some (.lst vs) ∧ Paired (R H) vs xs := by
  obtain ⟨a, vs, e, h1, h2⟩ := h; cases e; exact ⟨vs, h1, h2⟩
theorem RLI.of {p : Addr} {ns : List Int} (h : H p = some (.lst (ns.map V.int))) : RLI H (.ref p) ns := ⟨p, rfl, h⟩
theorem RL.ints {p : Addr} {ns : List Int} (h : RL RI H (.ref p) ns) : H p = some (.lst (ns.map V.int)) := by
  obtain ⟨vs, h1, h2⟩ := h.lst; rw [h1, prd_ints h2]
theorem RL.ofInts {p : Addr} {ns : List Int} (h : H p = some (.lst (ns.map V.int))) : RL RI H (.ref p) ns := ⟨p, _, rfl, h, ints_prd ns⟩
/-- an item of a list of things -/
theorem RL.at {R : Hp → V → α → Prop} {p : Addr} {xs : List α} {i : Nat} {x : α} (h : RL R H (.ref p) xs) (hx : xs[i]? = some x) : ∃ vs v, H p = some (.lst vs) ∧ vs[i]? = some v ∧ R H v x := by
  obtain ⟨vs, h1, h2⟩ := h.lst
  obtain ⟨v, h3, h4⟩ := prd_get h2 hx
  exact ⟨vs, v, h1, h3, h4⟩
end
end TW
end

section
set_option Elab.async false
set_option linter.all false
set_option maxRecDepth 100000
set_option maxHeartbeats 1000000
/-! More steps. -/
namespace TW
open PySem PySem.Spec PyProof.Rows L2 LamX NdefX StX
section
variable {K : PySem.W.Frag} {σ : L2.St} {H : Hp} {Q : VK} {Qs : L2.St → Hp → Prop} {v x y : V} {ta tb te td ty tk tv to ti : TE} {t u : TT} {D : Ends} {s1 s2 : TS} {tA : TA} {p : Addr} {A B : Prop}
theorem r_blk {b : Bool} {C : Bool → Prop} (q : C b) : ∃ k, V.bl b = .bl k ∧ C k := ⟨b, rfl, q⟩
theorem r_ifP {p : Prop} [Decidable p] (h : p) (q : A) : if decide p = true then A else B := by rw [if_pos (decide_eq_true h)]; exact q
theorem r_ifQ {p : Prop} [Decidable p] (h : ¬ p) (q : B) : if decide p = true then A else B := by rw [if_neg (by simp [h])]; exact q
theorem r_ifNP {p : Prop} [Decidable p] (h : ¬ p) (q : A) : if (!decide p) = true then A else B := by rw [if_pos (by simp [h])]; exact q
theorem r_ifNQ {p : Prop} [Decidable p] (h : p) (q : B) : if (!decide p) = true then A else B := by rw [if_neg (by simp [h])]; exact q
theorem r_ifT (q : A) : if true = true then A else B := by rw [if_pos rfl]; exact q
theorem r_ifF (q : B) : if false = true then A else B := by rw [if_neg (by decide)]; exact q
theorem r_ifNT (q : B) : if (!true) = true then A else B := by rw [if_neg (by decide)]; exact q
theorem r_ifNF (q : A) : if (!false) = true then A else B := by rw [if_pos (by decide)]; exact q
theorem r_ifs0 {α : Type} (q : B) : if (none : Option α).isSome = true then A else B := by simpa using q
theorem r_ifs1 {α : Type} {x : α} (q : A) : if (some x).isSome = true then A else B := by simpa using q
theorem r_ifsN {α : Type} (q : A) : if (!(none : Option α).isSome) = true then A else B := by simpa using q
theorem r_ifsS {α : Type} {x : α} (q : B) : if (!(some x).isSome) = true then A else B := by simpa using q
theorem r_aug {i : Nat} {ti : TIp} (h : σ[i]? = some (some x)) (q : te σ H fun y H1 => ti x y H1 fun z H2 => D.nx (σ.set i (some z)) H2) : tAug i te ti D σ H := ⟨x, h, q⟩
theorem r_ipI {f : Int → Int → Int} {i j : Int} (q : Q (.int (f i j)) H) : ipI f (.int i) (.int j) H Q := ⟨i, j, rfl, rfl, q⟩
theorem r_gT2 {i j n : Nat} {a b : V} (h : H p = some (.tup [a, b])) (hn : 2 = n) (q : Qs ((σ.set i (some a)).set j (some b)) H) : gTup K n (gCons (gName i) (gCons (gName j) gNil)) (.ref p) σ H Qs :=
  ⟨p, _, rfl, SqT.of h, hn, _, _, rfl, _, _, rfl, rfl, q⟩
theorem r_gT3 {i j k n : Nat} {a b c : V} (h : H p = some (.tup [a, b, c])) (hn : 3 = n) (q : Qs (((σ.set i (some a)).set j (some b)).set k (some c)) H) : gTup K n (gCons (gName i) (gCons (gName j) (gCons (gName k) gNil))) (.ref p) σ H Qs :=
  ⟨p, _, rfl, SqT.of h, hn, _, _, rfl, _, _, rfl, _, _, rfl, rfl, q⟩
theorem r_gU2 {i j n : Nat} {a b : V} (h : H p = some (.lst [a, b])) (hn : 2 = n) (q : Qs ((σ.set i (some a)).set j (some b)) H) : gUnl K n (gCons (gName i) (gCons (gName j) gNil)) (.ref p) σ H Qs :=
  ⟨p, _, rfl, SqL.of h, hn, _, _, rfl, _, _, rfl, rfl, q⟩
theorem r_sFld {f : Str} (q : tv σ H fun y H1 => ta σ H1 fun x H2 => ∃ a C dx fs, x = .ref a ∧ H2 a = some (.ins C dx fs) ∧ Cls K C ∧ NoAttr K C f ∧ fs.length < 1000 ∧ D.nx σ (upd H2 a (.ins C dx (putF f y fs)))) : sFld K ta tv f D σ H := q
theorem r_sFldAt {f : Str} {a C dx : Addr} {fs : List (Str × V)} {R : Hp → Prop} (h : H a = some (.ins C dx fs)) (c : Cls K C) (n : NoAttr K C f) (l : fs.length < 1000) (q : R (upd H a (.ins C dx (putF f y fs)))) :
    ∃ a' C dx fs, V.ref a = .ref a' ∧ H a' = some (.ins C dx fs) ∧ Cls K C ∧ NoAttr K C f ∧ fs.length < 1000 ∧ R (upd H a' (.ins C dx (putF f y fs))) := ⟨a, C, dx, fs, rfl, h, c, n, l, q⟩
theorem r_sFldAug {rd : V → V → Hp → VK → Prop} {f : Str} (q : ta σ H fun x H1 => ∃ a C dx fs v, x = .ref a ∧ H1 a = some (.ins C dx fs) ∧ Cls K C ∧ NoAttr K C f ∧ fs.lookup f = some v ∧
  tv σ H1 fun y H2 => rd v y H2 fun z H3 => ∃ dx' fs', H3 a = some (.ins C dx' fs') ∧ fs'.length < 1000 ∧ D.nx σ (upd H3 a (.ins C dx' (putF f z fs')))) : sFldAug K ta tv rd f D σ H := q
theorem r_dput (q : tv σ H fun v H1 => td σ H1 fun x H2 => ty σ H2 fun y H3 => ∃ a H4, x = .ref a ∧ DPut H3 a y v H4 ∧ D.nx σ H4) : sDPut td ty tv D σ H := q
theorem r_dputAt {d : Addr} {kvs : List (Key × V)} {i : Int} {R : Hp → Prop} (h : H d = some (.dK kvs)) (l : kvs.length < sizeLine) (q : R (upd H d (.dK (putK kvs (.inl i) v)))) : ∃ a H4, V.ref d = .ref a ∧ DPut H a (.int i) v H4 ∧ R H4 :=
  ⟨d, _, rfl, .inl ⟨kvs, .inl i, h, rfl, l, rfl⟩, q⟩
theorem r_ddel (q : td σ H fun x H1 => ty σ H1 fun y H2 => ∃ a kvs k, x = .ref a ∧ H2 a = some (.dK kvs) ∧ y = kV k ∧ (valV kvs k).isSome = true ∧ D.nx σ (upd H2 a (.dK (dropK kvs k)))) : sDDel td ty D σ H := q
theorem r_ddelAt {d : Addr} {kvs : List (Key × V)} {i : Int} {R : Hp → Prop} (h : H d = some (.dK kvs)) (l : (valV kvs (.inl i)).isSome = true) (q : R (upd H d (.dK (dropK kvs (.inl i))))) :
    ∃ a kvs k, V.ref d = .ref a ∧ H a = some (.dK kvs) ∧ V.int i = kV k ∧ (valV kvs k).isSome = true ∧ R (upd H a (.dK (dropK kvs k))) := ⟨d, kvs, .inl i, rfl, h, rfl, l, q⟩
theorem r_bm {T : String} {r : V → List V → Hp → VK → Prop} (q : to σ H fun x H1 => tyV K T x H1 ∧ tA σ H1 fun xs H2 => r x xs H2 Q) : tBM K T r to tA σ H Q := q
theorem r_append {l : Addr} {xs : List V} (h : H l = some (.lst xs)) (hn : xs.length < sizeLine) (q : Q .non (upd H l (.lst (xs ++ [y])))) : rAppend (.ref l) [y] H Q := ⟨l, xs, y, rfl, rfl, h, hn, q⟩
theorem r_extend {l b : Addr} {xs zs : List V} (h : H l = some (.lst xs)) (hb : H b = some (.lst zs)) (hn : xs.length + zs.length ≤ sizeLine) (q : Q .non (upd H l (.lst (xs ++ zs)))) : rExtend (.ref l) [.ref b] H Q := ⟨l, b, xs, zs, rfl, rfl, h, hb, hn, q⟩
theorem r_cat {l b : Addr} {xs zs : List V} (h : H l = some (.lst xs)) (hb : H b = some (.lst zs)) (hn : xs.length + zs.length ≤ sizeLine) (q : ∀ (p : Addr) (H' : Hp), H p = none → Gx [] [] H H' → H' p = some (.lst (xs ++ zs)) → Q (.ref p) H') : rCat (.ref l) (.ref b) H Q := ⟨l, b, xs, zs, rfl, rfl, h, hb, hn, r_new q⟩
theorem r_catT {T : Tbs} {l b : Addr} {xs zs : List V} (h : H l = some (.lst xs)) (hb : H b = some (.lst zs)) (hn : xs.length + zs.length ≤ sizeLine) (q : ∀ (p : Addr) (H' : Hp), H p = none → Gx T [] H H' → H' p = some (.lst (xs ++ zs)) → Q (.ref p) H') : rCat (.ref l) (.ref b) H Q := ⟨l, b, xs, zs, rfl, rfl, h, hb, hn, r_new q⟩
theorem r_isN (q : Q (.bl (decide (x = .non))) H) : (fun x y H Q => y = V.non ∧ Q (.bl (decide (x = .non))) H : R2) x .non H Q := ⟨rfl, q⟩
theorem r_eqN {R : Prop} (q : R) : V.non = V.non ∧ R := ⟨rfl, q⟩
theorem r_for {wi : TI} {g : TG} {tb : TS} (q : wi σ H fun J H1 => ∃ W : Nat → Nat → L2.St → Hp → Prop, (∃ m, W 0 m σ H1) ∧ ∀ i m σ H, W i m σ H →
      (J.stop i H ∧ D.nx σ H) ∨ (J.go i H ∧ ∃ N : L2.St → Hp → Prop, (∀ σ' H', N σ' H' → ∃ m', m' < m ∧ W (i + 1) m' σ' H') ∧ ∀ x H', J.yld i H x H' → g x σ H' fun σ2 H2 => tb { D with nx := N, ct := N, bk := D.nx } σ2 H2)) : tFor wi g tb D σ H := q
theorem r_lc {wi : TI} {g : TG} {tt : TT} {te : TE} {vs : List Nat} (q : wi σ H fun J H1 => ∀ D, H1 D = none → ∃ W : Nat → Nat → Hp → Prop, (∃ m, W 0 m (upd H1 D (.lst []))) ∧ ∀ i m H, W i m H →
  (J.stop i H ∧ Q (.ref D) H) ∨ (J.go i H ∧ ∃ Nx : Hp → Prop, (∀ H', Nx H' → ∃ m', m' < m ∧ W (i + 1) m' H') ∧ ∀ x H', J.yld i H x H' → g x (wipe σ vs) H' fun σ2 H2 => wipe σ2 vs = wipe σ vs ∧ tt σ2 H2 fun b H3 =>
    if b = true then te σ2 H3 fun y H4 => ∃ acc, H4 D = some (.lst acc) ∧ acc.length < sizeLine ∧ Nx (upd H4 D (.lst (acc ++ [y]))) else Nx H3)) : tLc wi g tt te vs σ H Q := q
theorem r_dc {wi : TI} {g : TG} {tt : TT} {vs : List Nat} (q : wi σ H fun J H1 => ∀ D, H1 D = none → ∃ W : Nat → Nat → Hp → Prop, (∃ m, W 0 m (upd H1 D (.dK []))) ∧ ∀ i m H, W i m H →
  (J.stop i H ∧ Q (.ref D) H) ∨ (J.go i H ∧ ∃ Nx : Hp → Prop, (∀ H', Nx H' → ∃ m', m' < m ∧ W (i + 1) m' H') ∧ ∀ x H', J.yld i H x H' → g x (wipe σ vs) H' fun σ2 H2 => wipe σ2 vs = wipe σ vs ∧ tt σ2 H2 fun b H3 =>
    if b = true then tk σ2 H3 fun y H4 => tv σ2 H4 fun z H5 => ∃ kvs k, y = kV k ∧ H5 D = some (.dK kvs) ∧ kvs.length < sizeLine ∧ Nx (upd H5 D (.dK (putK kvs k z))) else Nx H3)) : tDc wi g tt tk tv vs σ H Q := q
theorem r_lenI {ns : List Int} (h : H p = some (.lst (ns.map V.int))) (q : Q (.int ns.length) H) : rLenQ K [.ref p] H Q := r_len (SqL.of h) (by rw [List.length_map]; exact q)
theorem r_listH {T : Tbs} {xs : List V} (h : H p = some (.lst xs)) (q : ∀ (l : Addr) (H' : Hp), H l = none → Gx T [] H H' → H' l = some (.lst xs) → Q (.ref l) H') : rListQ K [.ref p] H Q := r_list (SqL.of h) q
theorem r_lenH {xs : List V} (h : H p = some (.lst xs)) (q : Q (.int xs.length) H) : rLenQ K [.ref p] H Q := r_len (SqL.of h) q
theorem r_iLH {xs : List V} {A : Addr → Prop} (h : H p = some (.lst xs)) (q : A p) : ∃ a, V.ref p = .ref a ∧ (∃ xs, SqL K H a xs) ∧ A a := r_iLAt (SqL.of h) q
theorem r_subset {g : TSet} (q : to σ H fun o H1 => ti σ H1 fun i H2 => g o i v H2 fun H3 => Qs σ H3) : gSub to ti g v σ H Qs := q
theorem r_setL {xs : List V} {k : Int} {j : Nat} {R : Hp → Prop} (h : H p = some (.lst xs)) (hj : ixN xs.length k = some j) (q : R (upd H p (.lst (xs.set j v)))) : L2.rSetL (V.ref p) (V.int k) v H R := ⟨p, xs, k, j, rfl, rfl, h, hj, q⟩
theorem r_yes {QB : Bool → Hp → Prop} (q : QB true H) : tYes σ H QB := q
theorem r_fldC {f : Str} {a C dx : Addr} {fs : List (Str × V)} {R : V → Prop} (h : H a = some (.ins C dx fs)) (c : Cls K C) (n : NoAttr K C f) (l : fs.lookup f = some v) (q : R v) :
    ∃ a' C dx fs v, V.ref a = .ref a' ∧ H a' = some (.ins C dx fs) ∧ Cls K C ∧ NoAttr K C f ∧ fs.lookup f = some v ∧ R v := ⟨a, C, dx, fs, v, rfl, h, c, n, l, q⟩
theorem r_dgetC {d : Addr} {kvs : List (Key × V)} {i : Int} {R : V → Prop} (h : H d = some (.dK kvs)) (hv : valV kvs (.inl i) = some v) (q : R v) : ∃ a v, V.ref d = .ref a ∧ DGet H a (.int i) (some v) ∧ R v := ⟨d, v, rfl, by rw [← hv]; exact DGet.k (k := Sum.inl i) h, q⟩
theorem r_dinC {d : Addr} {kvs : List (Key × V)} {i : Int} {R : Option V → Prop} (h : H d = some (.dK kvs)) (q : R (valV kvs (.inl i))) : ∃ a o, V.ref d = .ref a ∧ DGet H a (.int i) o ∧ R o := ⟨d, _, rfl, DGet.k (k := Sum.inl i) h, q⟩
theorem cut_to (xs : List V) (i : Nat) {j : Int} (h : j = (i:Int)) : cutV xs none (some j) = xs.take i := by
  rw [h]; unfold cutV
  rw [HT.sIx_none, HT.sIx_nat, Nat.sub_zero, List.drop_zero]
  rcases Nat.le_total i xs.length with h | h
  · rw [Nat.min_eq_left h]
  · rw [Nat.min_eq_right h, List.take_length, List.take_of_length_le h]
theorem cut_from (xs : List V) (i : Nat) {j : Int} (h : j = (i:Int)) : cutV xs (some j) none = xs.drop i := by
  rw [h]; unfold cutV
  rw [HT.sIx_none, HT.sIx_nat]
  rcases Nat.le_total i xs.length with h | h
  · rw [Nat.min_eq_left h, List.take_of_length_le (by rw [List.length_drop]; omega)]
  · rw [Nat.min_eq_right h, Nat.sub_self, List.take_zero, List.drop_of_length_le h]
theorem cut_last (xs : List V) : cutV xs none (some (-1)) = xs.take (xs.length - 1) := by
  unfold cutV
  rw [HT.sIx_none]
  have e : HT.sIx xs.length xs.length (some (-1)) = xs.length - 1 := by
    show (if (-1 : Int) < 0 then ((-1 : Int) + (xs.length : Int)).toNat else min (-1 : Int).toNat xs.length) = _
    rw [if_pos (by decide)]; omega
  rw [e, Nat.sub_zero, List.drop_zero]
theorem tyV_lst {l : Addr} {xs : List V} (h : H l = some (.lst xs)) : tyV K "list" (.ref l) H := .inl ⟨rfl, xs, SqL.of h⟩
theorem r_intC {i : Int} {C : Int → Prop} (q : C i) : ∃ j, V.int i = .int j ∧ C j := ⟨i, rfl, q⟩
theorem r_qI {i j : Int} (q : Q (.int i) H) (e : i = j) : Q (.int j) H := e ▸ q
theorem r_sum {ns : List Int} (h : SqL K H p (ns.map V.int)) (q : Q (.int ns.sum) H) : rSum K [.ref p] H Q := ⟨p, ns, rfl, h, q⟩
theorem r_dnew {T : Tbs} (q : ∀ (p : Addr) (H' : Hp), H p = none → Gx T [] H H' → H' p = some (.dK []) → Q (.ref p) H') : tDNewK σ H Q := r_new q
end
theorem r_lstRg {t : L2.St → Hp → (Int → Int → Hp → Prop) → Prop} {σ : L2.St} {H : Hp} {Q : VK} (q : t σ H fun a b H1 => RgOk a b ∧ ∀ q, H1 q = none → Q (.ref q) (upd H1 q (.lst (rgV a b)))) : tLstRg t σ H Q := q
theorem r_rg1 {ta : TE} {σ : L2.St} {H : Hp} {Q : Int → Int → Hp → Prop} (q : ta σ H fun x H1 => ∃ n, x = .int n ∧ Q 0 n H1) : tRg1 ta σ H Q := q
theorem RP_upd {H : Hp} {l : Addr} {xs : List V} {o : HO} (h : H l = some (.lst xs)) {v : V} {x : Int × Int} (r : RP H v x) : RP (upd H l o) v x := by
  obtain ⟨a, e1, e2⟩ := r
  exact ⟨a, e1, by rw [upd_ne (fun z : a = l => by rw [z, h] at e2; cases e2)]; exact e2⟩
theorem RE_upd {H : Hp} {l : Addr} {xs : List V} {o : HO} (h : H l = some (.lst xs)) {v : V} {x : TW.Ed} (r : RE H v x) : RE (upd H l o) v x := by
  obtain ⟨a, e1, e2⟩ := r
  exact ⟨a, e1, by rw [upd_ne (fun z : a = l => by rw [z, h] at e2; cases e2)]; exact e2⟩
theorem pr_getV {α β : Type} {F : α → β → Prop} : ∀ {vs : List α} {xs : List β} {i : Nat} {v : α}, Paired F vs xs → vs[i]? = some v → ∃ x, xs[i]? = some x ∧ F v x
  | _, _, _, _, .nil, e => by simp at e
  | _, _, 0, _, .cons r _, e => by simp at e; subst e; exact ⟨_, rfl, r⟩
  | _, _, i + 1, v, .cons _ t, e => by
    obtain ⟨u, h1, h2⟩ := pr_getV (i := i) (v := v) t (by simpa using e)
    exact ⟨u, by simpa using h1, h2⟩
theorem pr_map {α β : Type} {F G : α → β → Prop} : ∀ {as : List α} {W : List β}, Paired F as W → (∀ b x, b ∈ as → F b x → G b x) → Paired G as W
  | _, _, .nil, _ => .nil
  | _, _, .cons r t, h => .cons (h _ _ (by simp) r) (pr_map t fun b x hb => h b x (List.mem_cons_of_mem _ hb))
theorem prd_at {α β : Type} {F G : α → β → Prop} {f : β → β} : ∀ {as : List α} {W : List β} (i : Nat) {a : α}, Paired F as W → as[i]? = some a → as.Nodup → (∀ b x, b ∈ as → b ≠ a → F b x → G b x) → (∀ x, W[i]? = some x → F a x → G a (f x)) → Paired G as (W.modify i f)
  | _, _, _, _, .nil, h, _, _, _ => by simp at h
  | _, _, 0, a, .cons r t, h, nd, h1, h2 => by
    simp at h; subst h
    obtain ⟨n1, n2⟩ := List.nodup_cons.mp nd
    exact .cons (h2 _ rfl r) (pr_map t fun b x hb z => h1 b x (List.mem_cons_of_mem _ hb) (fun e => n1 (e ▸ hb)) z)
  | _, _, i + 1, a, .cons r t, h, nd, h1, h2 => by
    obtain ⟨n1, n2⟩ := List.nodup_cons.mp nd
    have ha := List.mem_of_getElem? (show _ = some a by simpa using h)
    exact .cons (h1 _ _ (by simp) (fun e => n1 (e ▸ ha)) r) (prd_at i t (by simpa using h) n2 (fun b x hb => h1 b x (List.mem_cons_of_mem _ hb)) fun x hx => h2 x (by simpa using hx))
theorem Gx.dropL {T : Tbs} {xs : List Addr} {H H1 : Hp} (a : Gx T xs H H1) (h : ∀ x ∈ xs, Off H x) : Gx T [] H H1 := ⟨fun c o e n _ => a.ext c o e n fun z => by
  obtain ⟨ps, q⟩ := h c z o e
  exact n ps q, a.tab⟩
theorem r_minK {K : PySem.W.Frag} {T : List (Addr × Str)} {src : SrcOf} {N : List Str} {js : List Nat} {te tb : TE} {σ : L2.St} {H : Hp} {Q : VK} (q : te σ H fun x H1 => Tabs T H1 ∧ ∀ H2, ExtN H1 H2 → Tabs T H2 →
  ∃ (xs : List V) (kf : Nat → Int), src K H2 x xs ∧ 0 < xs.length ∧ (∀ (i : Nat) y, xs[i]? = some y → tb (startF N [y] (js.map (slotAt σ))) H2 fun z H3 => z = .int (kf i) ∧ H3 = H2) ∧
    ∀ (i : Nat) y, xs[i]? = some y → Best kf xs.length i → Q y H2) : tMinK K T src N js te tb σ H Q := q
theorem r_iR2At {i j : Int} {A : Int → Int → Prop} (h : -(2 ^ 62) ≤ i ∧ i < 2 ^ 62 ∧ -(2 ^ 62) ≤ j ∧ j < 2 ^ 62) (q : A i j) : ∃ i' j' : Int, [V.int i, V.int j] = [V.int i', V.int j'] ∧ (-(2 ^ 62) ≤ i' ∧ i' < 2 ^ 62 ∧ -(2 ^ 62) ≤ j' ∧ j' < 2 ^ 62) ∧ A i' j' := ⟨i, j, rfl, h, q⟩
theorem Off.neL {H : Hp} {l b : Addr} {vs : List V} (h : Off H l) (hb : H b = some (.lst vs)) : l ≠ b := fun z => by
  obtain ⟨ps, y⟩ := h _ (z ▸ hb)
  cases y
theorem Off.neT {H : Hp} {l b : Addr} {vs : List V} (h : Off H l) (hb : H b = some (.tup vs)) : l ≠ b := fun z => by
  obtain ⟨ps, y⟩ := h _ (z ▸ hb)
  cases y
theorem ne_none {H : Hp} {l b : Addr} {o : HO} (h : H l = none) (hb : H b = some o) : l ≠ b := fun z => by rw [z, hb] at h; cases h
section
variable {β : Type} {R : Hp → V → β → Prop} {T : Tbs} {g : TG} {tt : TT} {tk tv : TE} {vs : List Nat} {σ : L2.St} {H1 : Hp} {D : Addr} {Qd : Hp → Prop}
theorem putK_snoc {kvs : List (Key × V)} {L : List β} {F : V → β → Prop} {key : β → Int} {k : Int} {v : V} {x : β} (h : Paired (fun (kv : Key × V) s => kv.1 = .inl (key s) ∧ F kv.2 s) kvs L) (hn : ∀ s ∈ L, key s ≠ k) (hk : key x = k) (hv : F v x) :
    putK kvs (.inl k) v = kvs ++ [(.inl k, v)] ∧ Paired (fun (kv : Key × V) s => kv.1 = .inl (key s) ∧ F kv.2 s) (kvs ++ [(.inl k, v)]) (L ++ [x]) := by
  have hno : valV kvs (.inl k) = none := by
    clear hv hk
    induction h with
    | nil => rfl
    | @cons a b l1 l2 r t ih =>
      rw [valV_neg (by rw [r.1]; intro z; exact hn b (by simp) (Sum.inl.inj z))]
      exact ih fun s hs => hn s (by simp [hs])
  refine ⟨putK_new v hno, ?_⟩
  clear hno hn
  induction h with
  | nil => exact .cons ⟨by rw [hk], hv⟩ .nil
  | cons r _ ih => exact .cons r ih
/-- {k: v for k in range} -/
theorem dc_rangeR (m : MonoR R) {n : Nat} (f : Nat → β) (key : β → Int) (hkey : ∀ i, i < n → key (f i) = (i : Int)) (hD : H1 D = none) (hn : n < sizeLine)
    (hs : ∀ i H (KZ : V → V → Hp → Prop) (NN : Hp → Prop), i < n → Gx T [] H1 H → ExtN H1 (minus D H) → H D ≠ none → (∀ z H5, Gx T [] H H5 → R (minus D H5) z (f i) → KZ (.int i) z H5) →
      g (.int (0 + i)) (wipe σ vs) H fun σ2 H2 => wipe σ2 vs = wipe σ vs ∧ tt σ2 H2 fun b H3 => if b = true then tk σ2 H3 fun y H4 => tv σ2 H4 fun z H5 => KZ y z H5 else NN H3)
    (hd : ∀ H kvs, Gx T [] H1 H → H D = some (.dK kvs) → Paired (fun (kv : Key × V) s => kv.1 = .inl (key s) ∧ R H kv.2 s) kvs ((List.range n).map f) → Qd H) :
    ∃ W : Nat → Nat → Hp → Prop, (∃ m, W 0 m (upd H1 D (.dK []))) ∧ ∀ i m H, W i m H →
      ((Itr 0 n).stop i H ∧ Qd H) ∨ ((Itr 0 n).go i H ∧ ∃ Nx : Hp → Prop, (∀ H', Nx H' → ∃ m', m' < m ∧ W (i + 1) m' H') ∧ ∀ x H', (Itr 0 n).yld i H x H' → g x (wipe σ vs) H' fun σ2 H2 => wipe σ2 vs = wipe σ vs ∧ tt σ2 H2 fun b H3 =>
        if b = true then tk σ2 H3 fun y H4 => tv σ2 H4 fun z H5 => ∃ kvs k, y = kV k ∧ H5 D = some (.dK kvs) ∧ kvs.length < sizeLine ∧ Nx (upd H5 D (.dK (putK kvs k z))) else Nx H3) := by
  let Pv : Nat → Hp → Prop := fun i H => Gx T [D] H1 H ∧ ∃ kvs, H D = some (.dK kvs) ∧ Paired (fun (kv : Key × V) s => kv.1 = .inl (key s) ∧ R (minus D H) kv.2 s) kvs ((List.range i).map f)
  refine ⟨fun i m H => m = n - i ∧ i ≤ n ∧ Pv i H, ⟨n, by simp, Nat.zero_le _, (Gx.refl).new hD, [], upd_same, .nil⟩, ?_⟩
  rintro i m H ⟨rfl, hi, G, kvs, e1, e2⟩
  by_cases hlt : i < n
  · refine .inr ⟨hlt, Pv (i + 1), fun H' p' => ⟨n - (i + 1), by omega, rfl, hlt, p'⟩, fun x H' y => ?_⟩
    obtain ⟨e, y⟩ := y
    subst e y
    refine hs i _ _ _ hlt (G.drop (Off.none hD)) (G.out hD) (by rw [e1]; exact fun z => by cases z) fun z H5 G5 r => ?_
    have e1' := G5.dK e1
    have e2' : Paired (fun (kv : Key × V) s => kv.1 = .inl (key s) ∧ R (minus D H5) kv.2 s) kvs ((List.range i).map f) := Paired.mapP e2 fun kv s q => ⟨q.1, m _ _ _ _ (minus_ext G5.extN) q.2⟩
    have hl : kvs.length = i := by have := Paired.length e2; rw [this]; simp
    obtain ⟨q1, q2⟩ := putK_snoc (k := (i : Int)) (x := f i) e2' (fun s hs => by
      obtain ⟨j, hj, rfl⟩ := List.mem_map.mp hs
      have := List.mem_range.mp hj
      rw [hkey j (by omega)]; omega) (hkey i hlt) r
    refine ⟨kvs, .inl (i : Int), rfl, e1', by rw [hl]; omega, (G.call G5).mut (by simp) e1' trivial, kvs ++ [(.inl (i : Int), z)], by rw [upd_same, q1], ?_⟩
    rw [minus_upd, List.range_succ, List.map_append]
    exact q2
  · have e : i = n := by omega
    subst e
    exact .inl ⟨Nat.le_refl _, hd H kvs (G.drop (Off.none hD)) e1 (Paired.mapP e2 fun kv s q => ⟨q.1, m _ _ _ _ minus_le q.2⟩)⟩
end
/-- while, by a word that carries its own measure -/
theorem while_m {c : TT} {tb : TS} {D : Ends} {σ : L2.St} {H : Hp} (Pv : Nat → L2.St → Hp → Prop) (h0 : ∃ m, Pv m σ H)
    (hs : ∀ m σ H, Pv m σ H → c σ H fun b H1 => if b = true then tb { D with nx := fun σ' H' => ∃ m', m' < m ∧ Pv m' σ' H', ct := fun σ' H' => ∃ m', m' < m ∧ Pv m' σ' H', bk := D.nx } σ H1 else D.nx σ H1)
    (mono : ∀ σ H Q Q', (∀ b H1, Q b H1 → Q' b H1) → c σ H Q → c σ H Q') : tWhile c tb D σ H := by
  refine ⟨Pv, h0, fun m σ H p => ?_⟩
  refine mono σ H _ _ (fun b H1 q => ?_) (hs m σ H p)
  cases b with
  | true => exact ⟨_, fun σ' H' h => h, q⟩
  | false => exact q
section
variable {K : PySem.W.Frag} {σ : L2.St} {H : Hp} {Q : VK} {te td ty : TE} {tA : TA} {QL : List V → Hp → Prop}
theorem r_star (q : te σ H fun x H1 => ∃ p xs, x = V.ref p ∧ (SqT K H1 p xs ∨ SqL K H1 p xs) ∧ tA σ H1 fun ys H2 => QL (xs ++ ys) H2) : tStar K te tA σ H QL := q
theorem r_starAt {p : Addr} {xs : List V} {C : List V → Prop} (h : H p = some (.lst xs)) (q : C xs) : ∃ p' xs, V.ref p = V.ref p' ∧ (SqT K H p' xs ∨ SqL K H p' xs) ∧ C xs := ⟨p, xs, rfl, .inr (SqL.of h), q⟩
theorem r_pop1 (q : td σ H fun x H1 => ∃ a, x = .ref a ∧ IsD H1 a ∧ ty σ H1 fun y H2 => ∃ kvs k v, H2 a = some (.dK kvs) ∧ y = kV k ∧ valV kvs k = some v ∧ Q v (upd H2 a (.dK (dropK kvs k)))) : tDPop1 td ty σ H Q := q
theorem r_popAt {d : Addr} {kvs : List (Key × V)} {A : Addr → Prop} (h : H d = some (.dK kvs)) (q : A d) : ∃ a, V.ref d = .ref a ∧ IsD H a ∧ A a := ⟨d, rfl, .inl ⟨kvs, .inl h⟩, q⟩
theorem r_get1 (q : td σ H fun x H1 => ∃ a, x = .ref a ∧ IsD H1 a ∧ ty σ H1 fun y H2 => ∃ o, DGet H2 a y o ∧ Q (o.getD .non) H2) : tDGet1 td ty σ H Q := q
theorem r_dgetF {d : Addr} {o : Obj} {kvs : List (Key × V)} {i : Int} {v : V} {R : V → Prop} (h : H d = some (.frz o (.dK kvs))) (hv : valV kvs (.inl i) = some v) (q : R v) : ∃ a v, V.ref d = .ref a ∧ DGet H a (.int i) (some v) ∧ R v := ⟨d, v, rfl, .inl ⟨kvs, .inl i, .inr ⟨o, h⟩, rfl, hv.symm⟩, q⟩
end
theorem r_mk {C : Addr} {sp : Sp} {t : TA} {σ : L2.St} {H : Hp} {Q : VK} (q : t σ H fun vs H1 => ∀ x dx, H1 x = none → H1 dx = none → dx ≠ x →
  sp (.ref x :: vs) (upd (upd H1 dx (.own x)) x (.ins C dx [])) (fun v H2 => v = .non ∧ Q (.ref x) H2) E0) : tMk C sp t σ H Q := q
theorem mk_new {T : Tbs} {C : Addr} {sp : Sp} {vs : List V} {H1 : Hp} {Qx : Addr → Hp → Prop} (q : ∀ x dx H2, H1 x = none → Gx T [] H1 H2 → H2 x = some (.ins C dx []) → sp (.ref x :: vs) H2 (fun v H2 => v = .non ∧ Qx x H2) E0) :
    ∀ x dx, H1 x = none → H1 dx = none → dx ≠ x → sp (.ref x :: vs) (upd (upd H1 dx (.own x)) x (.ins C dx [])) (fun v H2 => v = .non ∧ Qx x H2) E0 :=
  fun x dx h1 h2 h3 => q x dx _ h1 ((Gx.refl.new h2).new (by rw [upd_ne h3.symm]; exact h1)) upd_same
section
variable {H : Hp} {Q : VK}
theorem r_intI {i : Int} (q : Q (.int i) H) : rIntQ [.int i] H Q := .inl ⟨i, rfl, q⟩
theorem r_intB {k : Bool} (q : Q (.int (if k then 1 else 0)) H) : rIntQ [.bl k] H Q := .inr ⟨k, rfl, q⟩
theorem r_absI {i : Int} (q : Q (.int (if i < 0 then -i else i)) H) : rAbsQ [.int i] H Q := ⟨i, rfl, q⟩
theorem r_min2I {i j : Int} (q : Q (.int (if j < i then j else i)) H) : rMin2Q [.int i, .int j] H Q := ⟨i, j, rfl, q⟩
end
end TW
end

section
set_option Elab.async false
set_option linter.all false
set_option maxRecDepth 100000
set_option maxHeartbeats 0
/-! The text by places, and what the top leaves of it. -/
namespace TW
open PySem PySem.Spec PyProof.Rows L2
def top (i : Nat) : Stmt := PySem.Challenge.pw_trunkweb_k41_whole_full_reductions.main.body.getD i (.Pass ⟨0, 0, 0, 0⟩)
abbrev s_check_edge : Stmt := top 13
abbrev sN_init : Stmt := inClass (top 14) 0
abbrev sN_size : Stmt := inClass (top 14) 1
abbrev sN_edges : Stmt := inClass (top 14) 2
abbrev s_check_terminals : Stmt := top 19
abbrev s_weight : Stmt := top 20
abbrev s_edges_of : Stmt := top 21
abbrev s_ways_on : Stmt := top 22
abbrev s_spread : Stmt := top 23
abbrev s_parts_of : Stmt := top 24
abbrev s_joined : Stmt := top 25
abbrev s_label_table : Stmt := top 26
abbrev s_price_of : Stmt := top 29
abbrev s_told_tree : Stmt := top 30
abbrev sR_init : Stmt := inClass (top 32) 0
abbrev sR_around : Stmt := inClass (top 32) 1
abbrev sR_other_end : Stmt := inClass (top 32) 2
abbrev sR_ends_around : Stmt := inClass (top 32) 3
abbrev sR_is_inner : Stmt := inClass (top 32) 4
abbrev sR_is_leaf : Stmt := inClass (top 32) 5
abbrev sR_is_series : Stmt := inClass (top 32) 6
abbrev sR_is_longer : Stmt := inClass (top 32) 7
abbrev sR_holds : Stmt := inClass (top 32) 8
abbrev sR_drop : Stmt := inClass (top 32) 9
abbrev sR_join : Stmt := inClass (top 32) 10
abbrev sR_apply : Stmt := inClass (top 32) 11
abbrev sR_paths_from : Stmt := inClass (top 32) 12
abbrev sR_walk_for : Stmt := inClass (top 32) 13
abbrev sR_rows_by_vertices : Stmt := inClass (top 32) 14
abbrev sR_rows_by_edges : Stmt := inClass (top 32) 15
abbrev s_reduction : Stmt := top 33
abbrev s_check_reduction : Stmt := top 34
abbrev s_rest_of : Stmt := top 35
abbrev s_lead_back : Stmt := top 36
abbrev s_law_numbers : Stmt := top 38
abbrev s_law_edges : Stmt := top 39
abbrev s_law_reach : Stmt := top 40
abbrev s_law_picked : Stmt := top 41
abbrev s_law_end : Stmt := top 42
abbrev s_law_around : Stmt := top 43
abbrev s_law_walks : Stmt := top 44
abbrev s_law_holds : Stmt := top 45
abbrev s_law_applied : Stmt := top 46
abbrev s_law_begun : Stmt := top 47
abbrev s_law_run : Stmt := top 48
abbrev s_law_near : Stmt := top 49
abbrev s_law_needless : Stmt := top 50
abbrev s_law : Stmt := top 51
def mkD (at_ : Str × Option Str) (name qual : Str) (s : Stmt) : He.DefD := ⟨at_, name, qual, defArgs s, defBody s, defScope s, [], []⟩
def d_check_edge : He.DefD := mkD ("check_edge", none) "check_edge" "check_edge" s_check_edge
def dN_init : He.DefD := mkD ("Network", some "__init__") "__init__" "Network.__init__" sN_init
def dN_size : He.DefD := mkD ("Network", some "size") "size" "Network.size" sN_size
def dN_edges : He.DefD := mkD ("Network", some "edges") "edges" "Network.edges" sN_edges
def d_check_terminals : He.DefD := mkD ("check_terminals", none) "check_terminals" "check_terminals" s_check_terminals
def d_weight : He.DefD := mkD ("weight", none) "weight" "weight" s_weight
def d_edges_of : He.DefD := mkD ("edges_of", none) "edges_of" "edges_of" s_edges_of
def d_ways_on : He.DefD := mkD ("ways_on", none) "ways_on" "ways_on" s_ways_on
def d_spread : He.DefD := mkD ("spread", none) "spread" "spread" s_spread
def d_parts_of : He.DefD := mkD ("parts_of", none) "parts_of" "parts_of" s_parts_of
def d_joined : He.DefD := mkD ("joined", none) "joined" "joined" s_joined
def d_label_table : He.DefD := mkD ("label_table", none) "label_table" "label_table" s_label_table
def d_price_of : He.DefD := mkD ("price_of", none) "price_of" "price_of" s_price_of
def d_told_tree : He.DefD := mkD ("told_tree", none) "told_tree" "told_tree" s_told_tree
def dR_init : He.DefD := mkD ("Rest", some "__init__") "__init__" "Rest.__init__" sR_init
def dR_around : He.DefD := mkD ("Rest", some "around") "around" "Rest.around" sR_around
def dR_other_end : He.DefD := mkD ("Rest", some "other_end") "other_end" "Rest.other_end" sR_other_end
def dR_ends_around : He.DefD := mkD ("Rest", some "ends_around") "ends_around" "Rest.ends_around" sR_ends_around
def dR_is_inner : He.DefD := mkD ("Rest", some "is_inner") "is_inner" "Rest.is_inner" sR_is_inner
def dR_is_leaf : He.DefD := mkD ("Rest", some "is_leaf") "is_leaf" "Rest.is_leaf" sR_is_leaf
def dR_is_series : He.DefD := mkD ("Rest", some "is_series") "is_series" "Rest.is_series" sR_is_series
def dR_is_longer : He.DefD := mkD ("Rest", some "is_longer") "is_longer" "Rest.is_longer" sR_is_longer
def dR_holds : He.DefD := mkD ("Rest", some "holds") "holds" "Rest.holds" sR_holds
def dR_drop : He.DefD := mkD ("Rest", some "drop") "drop" "Rest.drop" sR_drop
def dR_join : He.DefD := mkD ("Rest", some "join") "join" "Rest.join" sR_join
def dR_apply : He.DefD := mkD ("Rest", some "apply") "apply" "Rest.apply" sR_apply
def dR_paths_from : He.DefD := mkD ("Rest", some "paths_from") "paths_from" "Rest.paths_from" sR_paths_from
def dR_walk_for : He.DefD := mkD ("Rest", some "walk_for") "walk_for" "Rest.walk_for" sR_walk_for
def dR_rows_by_vertices : He.DefD := mkD ("Rest", some "rows_by_vertices") "rows_by_vertices" "Rest.rows_by_vertices" sR_rows_by_vertices
def dR_rows_by_edges : He.DefD := mkD ("Rest", some "rows_by_edges") "rows_by_edges" "Rest.rows_by_edges" sR_rows_by_edges
def d_reduction : He.DefD := mkD ("reduction", none) "reduction" "reduction" s_reduction
def d_check_reduction : He.DefD := mkD ("check_reduction", none) "check_reduction" "check_reduction" s_check_reduction
def d_rest_of : He.DefD := mkD ("rest_of", none) "rest_of" "rest_of" s_rest_of
def d_lead_back : He.DefD := mkD ("lead_back", none) "lead_back" "lead_back" s_lead_back
def d_law_numbers : He.DefD := mkD ("_law_numbers", none) "_law_numbers" "_law_numbers" s_law_numbers
def d_law_edges : He.DefD := mkD ("_law_edges", none) "_law_edges" "_law_edges" s_law_edges
def d_law_reach : He.DefD := mkD ("_law_reach", none) "_law_reach" "_law_reach" s_law_reach
def d_law_picked : He.DefD := mkD ("_law_picked", none) "_law_picked" "_law_picked" s_law_picked
def d_law_end : He.DefD := mkD ("_law_end", none) "_law_end" "_law_end" s_law_end
def d_law_around : He.DefD := mkD ("_law_around", none) "_law_around" "_law_around" s_law_around
def d_law_walks : He.DefD := mkD ("_law_walks", none) "_law_walks" "_law_walks" s_law_walks
def d_law_holds : He.DefD := mkD ("_law_holds", none) "_law_holds" "_law_holds" s_law_holds
def d_law_applied : He.DefD := mkD ("_law_applied", none) "_law_applied" "_law_applied" s_law_applied
def d_law_begun : He.DefD := mkD ("_law_begun", none) "_law_begun" "_law_begun" s_law_begun
def d_law_run : He.DefD := mkD ("_law_run", none) "_law_run" "_law_run" s_law_run
def d_law_near : He.DefD := mkD ("_law_near", none) "_law_near" "_law_near" s_law_near
def d_law_needless : He.DefD := mkD ("_law_needless", none) "_law_needless" "_law_needless" s_law_needless
def d_law : He.DefD := mkD ("law", none) "law" "law" s_law
def fns : List He.DefD := [d_check_edge, dN_init, dN_size, dN_edges, d_check_terminals, d_weight, d_edges_of, d_ways_on, d_spread, d_parts_of, d_joined, d_label_table, d_price_of, d_told_tree, dR_init, dR_around, dR_other_end, dR_ends_around, dR_is_inner, dR_is_leaf, dR_is_series, dR_is_longer, dR_holds, dR_drop, dR_join, dR_apply, dR_paths_from, dR_walk_for, dR_rows_by_vertices, dR_rows_by_edges] ++ [d_reduction, d_check_reduction, d_rest_of, d_lead_back, d_law_numbers, d_law_edges, d_law_reach, d_law_picked, d_law_end, d_law_around, d_law_walks, d_law_holds, d_law_applied, d_law_begun, d_law_run, d_law_near, d_law_needless, d_law]
def fcts : List He.Fa := [.glo "check_edge", .glo "check_terminals", .glo "weight", .glo "edges_of", .glo "ways_on", .glo "spread", .glo "parts_of", .glo "joined", .glo "label_table", .glo "price_of", .glo "told_tree", .glo "reduction", .glo "check_reduction", .glo "rest_of", .glo "lead_back", .glo "_law_numbers", .glo "_law_edges", .glo "_law_reach", .glo "_law_picked", .glo "_law_end", .glo "_law_around", .glo "_law_walks", .glo "_law_holds", .glo "_law_applied", .glo "_law_begun", .glo "_law_run", .glo "_law_near", .glo "_law_needless", .glo "law", .glo "Network"] ++ [.cls "Network", .mkr "Network", .meth "Network" "size", .meth "Network" "edges", .glo "Rest", .cls "Rest", .mkr "Rest", .meth "Rest" "around", .meth "Rest" "other_end", .meth "Rest" "ends_around", .meth "Rest" "is_inner", .meth "Rest" "is_leaf", .meth "Rest" "is_series", .meth "Rest" "is_longer", .meth "Rest" "holds", .meth "Rest" "drop", .meth "Rest" "join", .meth "Rest" "apply", .meth "Rest" "paths_from", .meth "Rest" "walk_for", .meth "Rest" "rows_by_vertices", .meth "Rest" "rows_by_edges", .noat "Network" "_size", .noat "Network" "_edges", .noat "Rest" "size", .noat "Rest" "terminals", .noat "Rest" "edges", .noat "Rest" "origins", .noat "Rest" "next", .int "MOST_VERTICES" 40] ++ [.int "MOST_EDGES" 200, .int "MOST_PRICE" 1048576, .int "PRICE_SHIFT" 440, .int "COUNT_SHIFT" 220, .int "TIE_BITS" 200, .int "MOST_TERMINALS" 8, .free "len", .free "range", .free "sorted", .free "min", .free "max", .free "sum", .free "list", .free "dict", .free "set", .free "int", .free "abs", .free "isinstance"]
def tbs : List He.Defn := [("spread", none), ("Rest", some "paths_from")]
abbrev Rw : PySem.W.OpenRow := PySem.W.OpenLaw.row PySem.Challenge.rw_trunkweb_k41_whole_full_reductions
def noMore : PySem.W.Frag → Bool := fun K => decide ((He.cT K ("spread", none)).2 ≠ (He.cT K ("Rest", some "paths_from")).2)
abbrev hk : PySem.W.Hook := He.hookX 5 fcts fns [] tbs noMore
def ob (s : PySem.W.SharedT) : He.AlX := He.obsX 5 fcts fns [] tbs noMore (HandSHeadRun.getT s)
theorem ob_eq (s : PySem.W.SharedT) : ob s = hk.obs s.abs := He.obsX_eq (HandSHeadRun.getT_eq s)
def loose : List PySem.Str := (["_wall", "WebError", "OutOfRange", "BadVertex", "BadPrice", "TooMany", "BadTerminal", "BadRow", "MOST_VERTICES", "MOST_EDGES", "MOST_PRICE", "check_edge", "Network", "PRICE_SHIFT", "COUNT_SHIFT", "TIE_BITS", "check_terminals", "weight", "edges_of", "ways_on", "spread", "parts_of", "joined", "label_table", "MOST_TERMINALS"] : List PySem.Str) ++ (["price_of", "told_tree", "Rest", "reduction", "check_reduction", "rest_of", "lead_back", "_law_numbers", "_law_edges", "_law_reach", "_law_picked", "_law_end", "_law_around", "_law_walks", "_law_holds", "_law_applied", "_law_begun", "_law_run", "_law_near", "_law_needless"] : List PySem.Str)
theorem run (w : World) : HandSHeadRun.RunEq Rw (PySem.W.view Rw.prog [51]) hk ob 9000 loose w := by
  intro os
  kernel_rfl
end TW
end

section
set_option Elab.async false
set_option linter.all false
set_option maxRecDepth 100000
set_option maxHeartbeats 1000000
/-! What each def promises: networks, tables. -/
namespace TW
open PySem PySem.Spec PyProof.Rows L2 LamX NdefX StX
abbrev netF (n : Int) (ea : Addr) : List (Str × V) := [(("_size" : Str), .int n), (("_edges" : Str), .ref ea)]
abbrev restF (n : Int) (ta de oa : Addr) (nx : Int) : List (Str × V) := [(("size" : Str), .int n), (("terminals" : Str), .ref ta), (("edges" : Str), .ref de), (("origins" : Str), .ref oa), (("next" : Str), .int nx)]
section
variable {n nx : Int} {ea ta de oa : Addr}
theorem lkN_size : (netF n ea).lookup ("_size" : Str) = some (V.int n) := by kernel_rfl
theorem lkN_edges : (netF n ea).lookup ("_edges" : Str) = some (V.ref ea) := by kernel_rfl
theorem lkN_msize : (netF n ea).lookup ("size" : Str) = none := by kernel_rfl
theorem lkN_medges : (netF n ea).lookup ("edges" : Str) = none := by kernel_rfl
theorem lkR_size : (restF n ta de oa nx).lookup ("size" : Str) = some (V.int n) := by kernel_rfl
theorem lkR_terminals : (restF n ta de oa nx).lookup ("terminals" : Str) = some (V.ref ta) := by kernel_rfl
theorem lkR_edges : (restF n ta de oa nx).lookup ("edges" : Str) = some (V.ref de) := by kernel_rfl
theorem lkR_origins : (restF n ta de oa nx).lookup ("origins" : Str) = some (V.ref oa) := by kernel_rfl
theorem lkR_next : (restF n ta de oa nx).lookup ("next" : Str) = some (V.int nx) := by kernel_rfl
theorem lkR_around : (restF n ta de oa nx).lookup ("around" : Str) = none := by kernel_rfl
theorem lkR_other_end : (restF n ta de oa nx).lookup ("other_end" : Str) = none := by kernel_rfl
theorem lkR_ends_around : (restF n ta de oa nx).lookup ("ends_around" : Str) = none := by kernel_rfl
theorem lkR_is_inner : (restF n ta de oa nx).lookup ("is_inner" : Str) = none := by kernel_rfl
theorem lkR_is_leaf : (restF n ta de oa nx).lookup ("is_leaf" : Str) = none := by kernel_rfl
theorem lkR_is_series : (restF n ta de oa nx).lookup ("is_series" : Str) = none := by kernel_rfl
theorem lkR_is_longer : (restF n ta de oa nx).lookup ("is_longer" : Str) = none := by kernel_rfl
theorem lkR_holds : (restF n ta de oa nx).lookup ("holds" : Str) = none := by kernel_rfl
theorem lkR_drop : (restF n ta de oa nx).lookup ("drop" : Str) = none := by kernel_rfl
theorem lkR_join : (restF n ta de oa nx).lookup ("join" : Str) = none := by kernel_rfl
theorem lkR_apply : (restF n ta de oa nx).lookup ("apply" : Str) = none := by kernel_rfl
theorem lkR_paths_from : (restF n ta de oa nx).lookup ("paths_from" : Str) = none := by kernel_rfl
theorem lkR_walk_for : (restF n ta de oa nx).lookup ("walk_for" : Str) = none := by kernel_rfl
theorem lkR_rows_by_vertices : (restF n ta de oa nx).lookup ("rows_by_vertices" : Str) = none := by kernel_rfl
theorem lkR_rows_by_edges : (restF n ta de oa nx).lookup ("rows_by_edges" : Str) = none := by kernel_rfl
end
/-- a network of n vertices -/
def NetAt (CN : Addr) (H : Hp) (a : Addr) (n : Int) (es : List TW.Ed) : Prop := ∃ dx ea, H a = some (.ins CN dx (netF n ea)) ∧ RL RE H (.ref ea) es
structure GoodE (n : Int) (e : TW.Ed) : Prop where
  u0 : 0 ≤ e.1
  u1 : e.1 < n
  v0 : 0 ≤ e.2.1
  v1 : e.2.1 < n
  ne : e.1 ≠ e.2.1
  p0 : 0 ≤ e.2.2
  p1 : e.2.2 ≤ 1048576
structure GoodN (n : Int) (es : List TW.Ed) : Prop where
  n0 : 1 ≤ n
  n1 : n ≤ 40
  len : es.length ≤ 200
  all : ∀ e ∈ es, GoodE n e
structure GoodT (n : Int) (ts : List Int) : Prop where
  l0 : 1 ≤ ts.length
  l1 : ts.length ≤ 4
  rng : ∀ t ∈ ts, 0 ≤ t ∧ t < n
  nd : ts.Nodup
theorem NetAt.mono {CN : Addr} {H H' : Hp} {a : Addr} {n : Int} {es : List TW.Ed} (h : NetAt CN H a n es) (e : ExtN H H') : NetAt CN H' a n es := by
  obtain ⟨dx, ea, h1, h2⟩ := h
  exact ⟨dx, ea, e a _ h1 (fun _ z => by cases z), mL mE _ _ _ _ e h2⟩
section

def spc_check_edge (TB : Tbs) (CN CR : Addr) : Sp := fun vs H Q _ => ∃ (n : Int) (e : Addr) (k : Int) (x : TW.Ed), vs = [.int n, .ref e, .int k] ∧ H e = some (.tup [.int x.1, .int x.2.1, .int x.2.2]) ∧ GoodE n x ∧ Q .non H
def spk_Network (TB : Tbs) (CN CR : Addr) : Sp := fun vs H Q _ => ∃ (x dx : Addr) (n : Int) (ea : Addr) (es : List TW.Ed), vs = [.ref x, .int n, .ref ea] ∧ H x = some (.ins CN dx []) ∧ RL RE H (.ref ea) es ∧ GoodN n es ∧ ∀ H', Gx TB [x] H H' → NetAt CN H' x n es → Q .non H'
def spmN_size (TB : Tbs) (CN CR : Addr) : Sp := fun vs H Q _ => ∃ (a : Addr) (n : Int) (es : List TW.Ed), vs = [.ref a] ∧ NetAt CN H a n es ∧ Q (.int n) H
def spmN_edges (TB : Tbs) (CN CR : Addr) : Sp := fun vs H Q _ => ∃ (a : Addr) (n : Int) (es : List TW.Ed), vs = [.ref a] ∧ NetAt CN H a n es ∧ ∀ p H', H p = none → Gx TB [] H H' → RL RE H' (.ref p) es → Q (.ref p) H'
def spc_check_terminals (TB : Tbs) (CN CR : Addr) : Sp := fun vs H Q _ => ∃ (a t : Addr) (n : Int) (es : List TW.Ed) (ts : List Int), vs = [.ref a, .ref t, .int 8] ∧ NetAt CN H a n es ∧ H t = some (.lst (ts.map V.int)) ∧ GoodT n ts ∧ ∀ H', Gx TB [] H H' → Q .non H'
/-- the weight of an edge -/
def Wt (n p : Int) : Int := p * 2 ^ 440 + 2 ^ 220 + (2 * 2 ^ 200 - 2 ^ (200 - n).toNat)
def spc_weight (TB : Tbs) (CN CR : Addr) : Sp := fun vs H Q _ => ∃ n p : Int, vs = [.int n, .int p] ∧ 0 ≤ n ∧ n ≤ 200 ∧ 0 ≤ p ∧ p ≤ 1048576 ∧ Q (.int (Wt n p)) H
/-- the prices of the edges of these numbers -/
def priceOf (es : List TW.Ed) (ns : List Int) : Int := (ns.map fun k => (es[k.toNat]?.map (·.2.2)).getD 0).sum
def spc_price_of (TB : Tbs) (CN CR : Addr) : Sp := fun vs H Q _ => ∃ (a p : Addr) (n : Int) (es : List TW.Ed) (ns : List Int), vs = [.ref a, .ref p] ∧ NetAt CN H a n es ∧ GoodN n es ∧ H p = some (.lst (ns.map V.int)) ∧ (∀ k ∈ ns, 0 ≤ k ∧ k < es.length) ∧ ns.length ≤ 300 ∧ ∀ H', Gx TB [] H H' → Q (.int (priceOf es ns)) H'
end
end TW
end

section
set_option Elab.async false
set_option linter.all false
set_option maxRecDepth 100000
set_option maxHeartbeats 1000000
/-! What each def promises: tables. -/
namespace TW
open PySem PySem.Spec PyProof.Rows L2 LamX NdefX StX
/-- the numbers whose bits stand in b -/
def bitsF (b : Int) : List Int := (List.range 201).filterMap fun (i : Nat) => if b / 2 ^ (200 - i) % 2 = 1 then some (i : Int) else none
def spc_edges_of (TB : Tbs) (CN CR : Addr) : Sp := fun vs H Q _ => ∃ (l p c t : Int), vs = [.int l] ∧ l = p * 2 ^ 440 + (c * 2 ^ 220 + t) ∧ 0 ≤ p ∧ 0 ≤ c ∧ c < 2 ^ 20 ∧ 0 ≤ t ∧ t < 2 ^ 220 ∧
  ∀ a H', Gx TB [] H H' → H' a = some (.lst ((bitsF (c * 2 ^ 201 - t)).map V.int)) → Q (.ref a) H'
def pstep (g part : Int) : Int := Builtin.bitAnd (part - 1) g
def pone (g part : Int) : List (Int × Int) := if Builtin.bitXor g part < part then [(part, Builtin.bitXor g part)] else []
def pgo : Nat → Int → Int → List (Int × Int)
  | 0, _, _ => []
  | k + 1, g, part => if 0 < part then pone g part ++ pgo k g (pstep g part) else []
/-- the ways to part a group in two -/
def partsF (g : Int) : List (Int × Int) := pgo g.toNat g (pstep g g)
theorem pstep_le {g p : Int} (h : 1 ≤ p) : 0 ≤ pstep g p ∧ pstep g p ≤ p - 1 := by
  unfold pstep
  rw [bitAnd_comm]
  exact bitAnd_range g (by omega)
theorem partsF_ok : ∀ g : Nat, g < 8 → ∀ p ∈ partsF g, 1 ≤ p.1 ∧ p.1 < g ∧ 1 ≤ p.2 ∧ p.2 < g := by decide +kernel
def spc_parts_of (TB : Tbs) (CN CR : Addr) : Sp := fun vs H Q _ => ∃ g : Int, vs = [.int g] ∧ 1 ≤ g ∧ g < 8 ∧ ∀ p H', Gx TB [] H H' → RL RP H' (.ref p) (partsF g) → Q (.ref p) H'
def oV : Option Int → V
  | none => .non
  | some i => .int i
theorem oV_some (i : Int) : oV (some i) = .int i := rfl
/-- a label in a table -/
def labT (tb : List (List (Option Int))) (g v : Int) : Option Int := (tb[g.toNat]?.bind fun r => r[v.toNat]?).join
def joinJ (best : Option Int) : Option Int → Option Int → Option Int
  | some x, some y => match best with
    | none => some (x + y)
    | some z => if x + y < z then some (x + y) else some z
  | _, _ => best
def joinS (tb : List (List (Option Int))) (v : Int) (best : Option Int) (p : Int × Int) : Option Int := joinJ best (labT tb p.1 v) (labT tb p.2 v)
def joinF (tb : List (List (Option Int))) (g v : Int) : Option Int := (partsF g).foldl (joinS tb v) none
def spc_joined (TB : Tbs) (CN CR : Addr) : Sp := fun vs H Q _ => ∃ (ta : Addr) (g v : Int) (tb : List (List (Option Int))), vs = [.ref ta, .int g, .int v] ∧ 1 ≤ g ∧ g < 8 ∧ 0 ≤ v ∧ RL (RL RO) H (.ref ta) tb ∧
  (∀ i : Int, 1 ≤ i → i < g → ∃ r, tb[i.toNat]? = some r ∧ v < r.length) ∧ ∀ H', Gx TB [] H H' → Q (oV (joinF tb g v)) H'
/-- which edges end at each vertex, and where they lead -/
def wayS (W : List (List (Int × Int))) (p : Nat × TW.Ed) : List (List (Int × Int)) :=
  (W.modify p.2.2.1.toNat fun l => l ++ [((p.1 : Int), p.2.1)]).modify p.2.1.toNat fun l => l ++ [((p.1 : Int), p.2.2.1)]
def waysN (n : Nat) (es : List TW.Ed) : Nat → List (List (Int × Int))
  | 0 => List.replicate n []
  | k + 1 => match es[k]? with
    | some e => wayS (waysN n es k) (k, e)
    | none => waysN n es k
def waysF (n : Int) (es : List TW.Ed) : List (List (Int × Int)) := waysN n.toNat es es.length
def spc_ways_on (TB : Tbs) (CN CR : Addr) : Sp := fun vs H Q _ => ∃ (a : Addr) (n : Int) (es : List TW.Ed), vs = [.ref a, .bl false] ∧ NetAt CN H a n es ∧ GoodN n es ∧ ∀ p H', Gx TB [] H H' → RL (RL RP) H' (.ref p) (waysF n es) → Q (.ref p) H'
end TW
end

section
/-! Plain mathematics 2: labels that are spread along ways. -/
namespace TW
def gtO (L : List (Option Int)) (v : Int) : Option Int := (L[v.toNat]?).join
def wyO (ways : List (List (Int × Int))) (h : Int) : List (Int × Int) := (ways[h.toNat]?).getD []
def wgO (w : List Int) (k : Int) : Int := (w[k.toNat]?).getD 0
theorem gtO_set {L : List (Option Int)} {o v : Int} {l : Int} (ho : 0 ≤ o) (ho2 : o < L.length) (hv : 0 ≤ v) : gtO (L.set o.toNat (some l)) v = if v = o then some l else gtO L v := by
  unfold gtO
  rw [List.getElem?_set]
  by_cases h : v = o
  · subst h
    rw [if_pos rfl, if_pos (by omega), if_pos rfl]; rfl
  · rw [if_neg (by omega), if_neg h]
theorem gtO_lt {L : List (Option Int)} {v x : Int} (h : gtO L v = some x) : v.toNat < L.length := by
  unfold gtO at h
  by_cases hl : v.toNat < L.length
  · exact hl
  · rw [List.getElem?_eq_none (by omega)] at h; cases h
section
variable {ways : List (List (Int × Int))} {w : List Int} {L0 L : List (Option Int)} {left : List Int}
/-- what spreading gives -/
structure SpOk (ways : List (List (Int × Int))) (w : List Int) (L0 L : List (Option Int)) : Prop where
  len : L.length = L0.length
  le : ∀ v x, 0 ≤ v → gtO L0 v = some x → ∃ y, gtO L v = some y ∧ y ≤ x
  closed : ∀ h, 0 ≤ h → ∀ x, gtO L h = some x → ∀ k o, (k, o) ∈ wyO ways h → ∃ y, gtO L o = some y ∧ y ≤ x + wgO w k
  sound : ∀ P : Int → Int → Prop, (∀ v x, 0 ≤ v → gtO L0 v = some x → P v x) → (∀ h x k o, 0 ≤ h → (k, o) ∈ wyO ways h → P h x → P o (x + wgO w k)) → ∀ v x, 0 ≤ v → gtO L v = some x → P v x
structure WyOk (ways : List (List (Int × Int))) (w : List Int) (n : Nat) : Prop where
  len : ways.length = n
  o0 : ∀ h k o, (k, o) ∈ wyO ways h → 0 ≤ o ∧ o < n
  k0 : ∀ h k o, (k, o) ∈ wyO ways h → 0 ≤ k ∧ k < w.length
  pos : ∀ k, 0 ≤ wgO w k
structure SpInv (ways : List (List (Int × Int))) (w : List Int) (L0 L : List (Option Int)) (left : List Int) : Prop where
  len : L.length = L0.length
  nd : left.Nodup
  ll : left.length ≤ L.length
  mem : ∀ v ∈ left, 0 ≤ v ∧ v < L.length
  le : ∀ v x, 0 ≤ v → gtO L0 v = some x → ∃ y, gtO L v = some y ∧ y ≤ x
  sound : ∀ P : Int → Int → Prop, (∀ v x, 0 ≤ v → gtO L0 v = some x → P v x) → (∀ h x k o, 0 ≤ h → (k, o) ∈ wyO ways h → P h x → P o (x + wgO w k)) → ∀ v x, 0 ≤ v → gtO L v = some x → P v x
  done : ∀ h : Int, 0 ≤ h → h < L.length → h ∉ left → ∃ x, gtO L h = some x ∧ (∀ v ∈ left, ∀ y, gtO L v = some y → x ≤ y) ∧ ∀ k o, (k, o) ∈ wyO ways h → ∃ y, gtO L o = some y ∧ y ≤ x + wgO w k
theorem SpInv.start (L0 : List (Option Int)) : SpInv ways w L0 L0 ((List.range L0.length).map fun i => ((i : Nat) : Int)) where
  len := rfl
  ll := by simp
  nd := (List.pairwise_map.mpr (List.nodup_range.imp fun h z => h (by omega)))
  mem := fun v hv => by
    obtain ⟨i, hi, e⟩ := List.mem_map.mp hv
    have := List.mem_range.mp hi
    subst e
    exact ⟨by omega, by omega⟩
  le := fun v x _ h => ⟨x, h, Int.le_refl _⟩
  sound := fun P h _ => h
  done := fun h h0 h1 hn => absurd (List.mem_map.mpr ⟨h.toNat, List.mem_range.mpr (by omega), by omega⟩) hn
theorem SpInv.out (I : SpInv ways w L0 L left) (h : ∀ v ∈ left, gtO L v = none) : SpOk ways w L0 L where
  len := I.len
  le := I.le
  sound := I.sound
  closed := fun v v0 x hx k o hk => by
    have hn : v ∉ left := fun z => by rw [h v z] at hx; cases hx
    obtain ⟨y, e, _, q⟩ := I.done v v0 (by have := gtO_lt hx; omega) hn
    rw [hx] at e; cases e
    exact q k o hk
/-- amid the ways of here: the first i are done -/
structure SpMid (ways : List (List (Int × Int))) (w : List Int) (L0 L : List (Option Int)) (left : List Int) (here x0 : Int) (i : Nat) : Prop where
  len : L.length = L0.length
  nd : left.Nodup
  ll : left.length ≤ L.length
  mem : ∀ v ∈ left, 0 ≤ v ∧ v < L.length
  h0 : 0 ≤ here
  hn : here ∉ left
  hx : gtO L here = some x0
  le : ∀ v x, 0 ≤ v → gtO L0 v = some x → ∃ y, gtO L v = some y ∧ y ≤ x
  sound : ∀ P : Int → Int → Prop, (∀ v x, 0 ≤ v → gtO L0 v = some x → P v x) → (∀ h x k o, 0 ≤ h → (k, o) ∈ wyO ways h → P h x → P o (x + wgO w k)) → ∀ v x, 0 ≤ v → gtO L v = some x → P v x
  more : ∀ v ∈ left, ∀ y, gtO L v = some y → x0 ≤ y
  done : ∀ h : Int, 0 ≤ h → h < L.length → h ∉ left → h ≠ here → ∃ x, gtO L h = some x ∧ x ≤ x0 ∧ ∀ k o, (k, o) ∈ wyO ways h → ∃ y, gtO L o = some y ∧ y ≤ x + wgO w k
  part : ∀ j k o, j < i → (wyO ways here)[j]? = some (k, o) → ∃ y, gtO L o = some y ∧ y ≤ x0 + wgO w k
theorem SpInv.mid (I : SpInv ways w L0 L left) {here x0 : Int} (hm : here ∈ left) (hx : gtO L here = some x0) (hmin : ∀ v ∈ left, ∀ y, gtO L v = some y → x0 ≤ y) : SpMid ways w L0 L (left.erase here) here x0 0 where
  len := I.len
  nd := I.nd.erase _
  ll := Nat.le_trans (List.length_erase_le) I.ll
  mem := fun v hv => I.mem v (List.mem_of_mem_erase hv)
  h0 := (I.mem _ hm).1
  hn := fun z => (I.nd.mem_erase_iff.mp z).1 rfl
  hx := hx
  le := I.le
  sound := I.sound
  more := fun v hv => hmin v (List.mem_of_mem_erase hv)
  done := fun h a b c d => by
    have hn : h ∉ left := fun z => c (I.nd.mem_erase_iff.mpr ⟨d, z⟩)
    obtain ⟨x, q1, q2, q3⟩ := I.done h a b hn
    exact ⟨x, q1, q2 here hm x0 hx, q3⟩
  part := fun j k o h => absurd h (Nat.not_lt_zero _)
theorem SpMid.out {here x0 : Int} {i : Nat} (M : SpMid ways w L0 L left here x0 i) (hi : (wyO ways here).length ≤ i) : SpInv ways w L0 L left where
  len := M.len
  nd := M.nd
  ll := M.ll
  mem := M.mem
  le := M.le
  sound := M.sound
  done := fun h a b c => by
    by_cases d : h = here
    · subst d
      refine ⟨x0, M.hx, M.more, fun k o hk => ?_⟩
      obtain ⟨j, hj, e⟩ := List.mem_iff_getElem.mp hk
      exact M.part j k o (by omega) (by rw [List.getElem?_eq_getElem hj, e])
    · obtain ⟨x, q1, q2, q3⟩ := M.done h a b c d
      exact ⟨x, q1, fun v hv y hy => Int.le_trans q2 (M.more v hv y hy), q3⟩
theorem SpMid.skip {here x0 k o : Int} {i : Nat} (M : SpMid ways w L0 L left here x0 i) (hi : (wyO ways here)[i]? = some (k, o)) {y : Int} (hy : gtO L o = some y) (h : ¬ x0 + wgO w k < y) : SpMid ways w L0 L left here x0 (i + 1) :=
  ⟨M.len, M.nd, M.ll, M.mem, M.h0, M.hn, M.hx, M.le, M.sound, M.more, M.done, fun j k' o' hj e => by
    by_cases z : j = i
    · subst z; rw [hi] at e; cases e
      exact ⟨y, hy, by omega⟩
    · exact M.part j k' o' (by omega) e⟩
theorem SpMid.put {here x0 k o : Int} {i : Nat} (M : SpMid ways w L0 L left here x0 i) (W : WyOk ways w L0.length) (hi : (wyO ways here)[i]? = some (k, o)) (h : ∀ y, gtO L o = some y → x0 + wgO w k < y) :
    SpMid ways w L0 (L.set o.toNat (some (x0 + wgO w k))) left here x0 (i + 1) := by
  have hm := List.mem_of_getElem? hi
  obtain ⟨o0, o1⟩ := W.o0 _ _ _ hm
  have ol : o < L.length := by rw [M.len]; exact o1
  have hw := W.pos k
  have g : ∀ v, 0 ≤ v → gtO (L.set o.toNat (some (x0 + wgO w k))) v = if v = o then some (x0 + wgO w k) else gtO L v := fun v hv => gtO_set o0 ol hv
  have hoh : o ≠ here := fun z => by
    have := h x0 (z ▸ M.hx); omega
  have hol : o ∈ left := Decidable.byContradiction fun z => by
    obtain ⟨x, q1, q2, _⟩ := M.done o o0 ol z hoh
    have := h x q1; omega
  have low : ∀ v, 0 ≤ v → ∀ y, gtO L v = some y → ∃ y', gtO (L.set o.toNat (some (x0 + wgO w k))) v = some y' ∧ y' ≤ y := fun v hv y hy => by
    rw [g v hv]
    by_cases z : v = o
    · subst z
      rw [if_pos rfl]
      exact ⟨_, rfl, Int.le_of_lt (h y hy)⟩
    · rw [if_neg z]; exact ⟨y, hy, Int.le_refl _⟩
  refine { len := by rw [List.length_set]; exact M.len, nd := M.nd, ll := by rw [List.length_set]; exact M.ll, mem := fun v hv => by rw [List.length_set]; exact M.mem v hv, h0 := M.h0, hn := M.hn, hx := by rw [g _ M.h0, if_neg (Ne.symm hoh)]; exact M.hx, le := ?_, sound := ?_, more := ?_, done := ?_, part := ?_ }
  · intro v x hv hx
    obtain ⟨y, q1, q2⟩ := M.le v x hv hx
    obtain ⟨y', q3, q4⟩ := low v hv y q1
    exact ⟨y', q3, by omega⟩
  · intro P h1 h2 v x hv hx
    rw [g v hv] at hx
    by_cases z : v = o
    · subst z
      rw [if_pos rfl] at hx
      cases hx
      exact h2 here x0 k v M.h0 hm (M.sound P h1 h2 here x0 M.h0 M.hx)
    · rw [if_neg z] at hx
      exact M.sound P h1 h2 v x hv hx
  · intro v hv y hy
    rw [g v (M.mem v hv).1] at hy
    by_cases z : v = o
    · rw [if_pos z] at hy; cases hy; omega
    · rw [if_neg z] at hy; exact M.more v hv y hy
  · intro v a b c d
    rw [List.length_set] at b
    obtain ⟨x, q1, q2, q3⟩ := M.done v a b c d
    have z : v ≠ o := fun z => c (z ▸ hol)
    refine ⟨x, by rw [g v a, if_neg z]; exact q1, q2, fun k' o' hk => ?_⟩
    obtain ⟨y, q4, q5⟩ := q3 k' o' hk
    obtain ⟨y', q6, q7⟩ := low o' (W.o0 _ _ _ hk).1 y q4
    exact ⟨y', q6, by omega⟩
  · intro j k' o' hj e
    by_cases z : j = i
    · subst z
      rw [hi] at e; cases e
      exact ⟨_, by rw [g o o0, if_pos rfl], Int.le_refl _⟩
    · obtain ⟨y, q4, q5⟩ := M.part j k' o' (by omega) e
      obtain ⟨y', q6, q7⟩ := low o' (W.o0 _ _ _ (List.mem_of_getElem? e)).1 y q4
      exact ⟨y', q6, by omega⟩
end
end TW
end

section
set_option Elab.async false
set_option linter.all false
set_option maxRecDepth 100000
set_option maxHeartbeats 1000000
/-! What each def promises: labels. -/
namespace TW
open PySem PySem.Spec PyProof.Rows L2 LamX NdefX StX
def spc_spread (TB : Tbs) (CN CR : Addr) : Sp := fun vs H Q _ => ∃ (la wa ga : Addr) (L : List (Option Int)) (ways : List (List (Int × Int))) (ws : List Int), vs = [.ref la, .ref wa, .ref ga] ∧ H la = some (.lst (L.map oV)) ∧ RL (RL RP) H (.ref wa) ways ∧
  H ga = some (.lst (ws.map V.int)) ∧ L.length ≤ 40 ∧ WyOk ways ws L.length ∧ Tabs TB H ∧ ∀ p H' L', H p = none → Gx TB [] H H' → H' p = some (.lst (L'.map oV)) → SpOk ways ws L L' → Q (.ref p) H'
theorem rgV_ints (n : Nat) : rgV 0 (n : Int) = ((List.range n).map fun i => ((i : Nat) : Int)).map V.int := by
  unfold rgV
  rw [Int.sub_zero, Int.toNat_natCast, List.map_map]
  exact List.map_congr_left fun i _ => by simp
theorem prd_oV {H : Hp} : ∀ {vs : List V} {xs : List (Option Int)}, Paired (RO H) vs xs → vs = xs.map oV
  | _, _, .nil => rfl
  | _, _, .cons r t => by
    rw [List.map_cons, ← prd_oV t, r]; rfl
theorem ro_oV {H : Hp} (o : Option Int) : RO H (oV o) o := by cases o <;> rfl
theorem oV_prd {H : Hp} : ∀ xs : List (Option Int), Paired (RO H) (xs.map oV) xs
  | [] => .nil
  | _ :: r => .cons rfl (oV_prd r)
end TW
end

section
set_option exponentiation.threshold 600
set_option linter.all false
/-! Plain mathematics 3: the table of labels. -/
namespace TW
/-- the weight of the edge of this number -/
def Wn (es : List Ed) (i : Nat) : Int := (es[i]?.map fun e => Wt i e.2.2).getD 0
def wsF (es : List Ed) : List Int := (List.range es.length).map (Wn es)
theorem wgO_ws (es : List Ed) (k : Int) : wgO (wsF es) k = Wn es k.toNat := by
  unfold wgO wsF
  rw [List.getElem?_map]
  by_cases h : k.toNat < es.length
  · rw [List.getElem?_range h]; rfl
  · rw [List.getElem?_eq_none (by simp; omega)]
    unfold Wn
    rw [List.getElem?_eq_none (by omega)]; rfl
theorem p2_le {k : Nat} (h : k ≤ 200) : (2:Int) ^ k ≤ 2 ^ 200 := by
  have := Nat.pow_le_pow_right (n := 2) (by decide) h
  exact_mod_cast this
theorem p2_pos (k : Nat) : (0:Int) < 2 ^ k := by
  have := Nat.two_pow_pos k
  exact_mod_cast this
theorem Wt_pos {p : Int} (n : Nat) (hp : 0 ≤ p) : 0 < Wt n p := by
  unfold Wt
  have h2 := p2_le (k := (200 - (n:Int)).toNat) (by omega)
  omega
theorem Wn_nn {es : List Ed} (h : ∀ e ∈ es, 0 ≤ e.2.2) (i : Nat) : 0 ≤ Wn es i := by
  unfold Wn
  cases he : es[i]? with
  | none => exact Int.le_refl _
  | some e => exact Int.le_of_lt (Wt_pos i (h e (List.mem_of_getElem? he)))
theorem Wn_pos {es : List Ed} (h : ∀ e ∈ es, 0 ≤ e.2.2) {i : Nat} (hi : i < es.length) : 0 < Wn es i := by
  unfold Wn
  rw [List.getElem?_eq_getElem hi]
  exact Wt_pos i (h _ (List.getElem_mem hi))

/-! ### the ways -/
theorem wyO_mod {W : List (List (Int × Int))} {a : Nat} {f : List (Int × Int) → List (Int × Int)} {h : Int} (hl : h.toNat < W.length) : wyO (W.modify a f) h = if a = h.toNat then f (wyO W h) else wyO W h := by
  unfold wyO
  rw [List.getElem?_modify, List.getElem?_eq_getElem hl]
  simp only [Functor.map, Option.map_some, Option.getD_some]
theorem waysN_len2 (n : Nat) (es : List Ed) : ∀ k, (waysN n es k).length = n
  | 0 => by simp [waysN]
  | k + 1 => by
    unfold waysN
    cases es[k]? with
    | none => exact waysN_len2 n es k
    | some e => simp [wayS, waysN_len2 n es k]
theorem wyO_wayS {W : List (List (Int × Int))} {k : Nat} {e : Ed} {h : Int} (hl : h.toNat < W.length) {x : Int × Int} :
    x ∈ wyO (wayS W (k, e)) h ↔ x ∈ wyO W h ∨ (e.2.1.toNat = h.toNat ∧ x = ((k:Int), e.1)) ∨ (e.1.toNat = h.toNat ∧ x = ((k:Int), e.2.1)) := by
  unfold wayS
  simp only
  rw [wyO_mod (by simpa using hl), wyO_mod hl]
  by_cases h1 : e.1.toNat = h.toNat <;> by_cases h2 : e.2.1.toNat = h.toNat
  · rw [if_pos h1, if_pos h2]; simp [h1, h2, or_assoc]
  · rw [if_pos h1, if_neg h2]; simp [h1, h2]
  · rw [if_neg h1, if_pos h2]; simp [h1, h2]
  · rw [if_neg h1, if_neg h2]; simp [h1, h2]
theorem wyO_waysN {n : Nat} {es : List Ed} {h : Int} (hl : h.toNat < n) {x : Int × Int} : ∀ k, x ∈ wyO (waysN n es k) h ↔ ∃ i e, i < k ∧ es[i]? = some e ∧ ((e.2.1.toNat = h.toNat ∧ x = ((i:Int), e.1)) ∨ (e.1.toNat = h.toNat ∧ x = ((i:Int), e.2.1)))
  | 0 => by
    constructor
    · intro z
      unfold wyO waysN at z
      rw [List.getElem?_replicate, if_pos hl] at z
      cases z
    · rintro ⟨i, e, h1, _⟩; omega
  | k + 1 => by
    have ih := wyO_waysN hl (es := es) (x := x) k
    have e1 : waysN n es (k + 1) = match es[k]? with | some e => wayS (waysN n es k) (k, e) | none => waysN n es k := rfl
    rw [e1]
    cases he : es[k]? with
    | none =>
      simp only
      rw [ih]
      constructor
      · rintro ⟨i, e, h1, h2⟩; exact ⟨i, e, by omega, h2⟩
      · rintro ⟨i, e, h1, h2, h3⟩
        have : i ≠ k := fun z => by rw [z, he] at h2; cases h2
        exact ⟨i, e, by omega, h2, h3⟩
    | some e0 =>
      simp only
      rw [wyO_wayS (by rw [waysN_len2]; exact hl), ih]
      constructor
      · rintro (⟨i, e, h1, h2⟩ | h1)
        · exact ⟨i, e, by omega, h2⟩
        · exact ⟨k, e0, by omega, he, h1⟩
      · rintro ⟨i, e, h1, h2, h3⟩
        by_cases z : i = k
        · subst z; rw [he] at h2; cases h2; exact .inr h3
        · exact .inl ⟨i, e, by omega, h2, h3⟩
theorem way_mem {n : Int} {es : List Ed} (g : ∀ e ∈ es, GoodE n e) {h k o : Int} (h0 : 0 ≤ h) (h1 : h < n) : (k, o) ∈ wyO (waysF n es) h ↔ 0 ≤ k ∧ ∃ e, es[k.toNat]? = some e ∧ Joins e h o := by
  unfold waysF
  rw [wyO_waysN (by omega)]
  constructor
  · rintro ⟨i, e, h2, h3, h4⟩
    obtain ⟨p1, p2, p3, p4, p5, p6, p7⟩ := g e (List.mem_of_getElem? h3)
    rcases h4 with ⟨h4, h5⟩ | ⟨h4, h5⟩
    · cases h5
      exact ⟨by omega, e, by simpa using h3, .inr ⟨rfl, by omega⟩⟩
    · cases h5
      exact ⟨by omega, e, by simpa using h3, .inl ⟨by omega, rfl⟩⟩
  · rintro ⟨k0, e, h3, h4⟩
    refine ⟨k.toNat, e, (List.getElem?_eq_some_iff.mp h3).1, h3, ?_⟩
    rcases h4 with ⟨h4, h5⟩ | ⟨h4, h5⟩
    · exact .inr ⟨by omega, by rw [h5, Int.toNat_of_nonneg k0]⟩
    · exact .inl ⟨by omega, by rw [h4, Int.toNat_of_nonneg k0]⟩
theorem wyO_out {n : Int} {es : List Ed} {h : Int} (h1 : n ≤ h) (h0 : 0 ≤ n) : wyO (waysF n es) h = [] := by
  unfold wyO waysF
  rw [List.getElem?_eq_none (by rw [waysN_len2]; omega)]; rfl
theorem ways_ok {n : Int} {es : List Ed} (g : ∀ e ∈ es, GoodE n e) (hn : 0 ≤ n) : WyOk (waysF n es) (wsF es) n.toNat := by
  have key : ∀ h k o, (k, o) ∈ wyO (waysF n es) h → 0 ≤ k ∧ k.toNat < es.length ∧ 0 ≤ o ∧ o < n := fun h k o hm => by
    have hh : wyO (waysF n es) h = wyO (waysF n es) (h.toNat : Int) := by unfold wyO; rw [Int.toNat_natCast]
    rw [hh] at hm
    by_cases z : (h.toNat : Int) < n
    · obtain ⟨k0, e, h3, h4⟩ := (way_mem g (by omega) z).mp hm
      obtain ⟨p1, p2, p3, p4, p5, p6, p7⟩ := g e (List.mem_of_getElem? h3)
      refine ⟨k0, (List.getElem?_eq_some_iff.mp h3).1, ?_⟩
      rcases h4 with ⟨h4, h5⟩ | ⟨h4, h5⟩
      · exact ⟨by omega, by omega⟩
      · exact ⟨by omega, by omega⟩
    · rw [wyO_out (by omega) hn] at hm; cases hm
  refine ⟨by unfold waysF; exact waysN_len2 _ _ _, fun h k o hm => ?_, fun h k o hm => ?_, fun k => ?_⟩
  · obtain ⟨_, _, a, b⟩ := key h k o hm; exact ⟨a, by omega⟩
  · obtain ⟨a, b, _, _⟩ := key h k o hm
    refine ⟨a, ?_⟩
    unfold wsF
    rw [List.length_map, List.length_range]; omega
  · rw [wgO_ws]; exact Wn_nn (fun e he => (g e he).p0) _

/-! ### labels of two parts, joined -/
theorem joinJ_le {b x y : Option Int} : (∀ z, b = some z → ∃ z', joinJ b x y = some z' ∧ z' ≤ z) ∧ (∀ x' y', x = some x' → y = some y' → ∃ z', joinJ b x y = some z' ∧ z' ≤ x' + y') := by
  cases x with
  | none => exact ⟨fun z h => ⟨z, h, Int.le_refl _⟩, fun _ _ h => by cases h⟩
  | some x =>
    cases y with
    | none => exact ⟨fun z h => ⟨z, h, Int.le_refl _⟩, fun _ _ _ h => by cases h⟩
    | some y =>
      cases b with
      | none => exact ⟨(fun _ h => by cases h), fun x' y' h1 h2 => by cases h1; cases h2; exact ⟨_, rfl, Int.le_refl _⟩⟩
      | some z =>
        have e : joinJ (some z) (some x) (some y) = if x + y < z then some (x + y) else some z := rfl
        rw [e]
        by_cases h : x + y < z
        · rw [if_pos h]
          exact ⟨fun z' h1 => by cases h1; exact ⟨_, rfl, by omega⟩, fun x' y' h1 h2 => by cases h1; cases h2; exact ⟨_, rfl, Int.le_refl _⟩⟩
        · rw [if_neg h]
          exact ⟨fun z' h1 => by cases h1; exact ⟨_, rfl, by omega⟩, fun x' y' h1 h2 => by cases h1; cases h2; exact ⟨_, rfl, by omega⟩⟩
theorem joinJ_mem {b x y : Option Int} {z : Int} (h : joinJ b x y = some z) : b = some z ∨ ∃ x' y', x = some x' ∧ y = some y' ∧ z = x' + y' := by
  cases x with
  | none => exact .inl h
  | some x =>
    cases y with
    | none => exact .inl h
    | some y =>
      cases b with
      | none => cases h; exact .inr ⟨x, y, rfl, rfl, rfl⟩
      | some b =>
        have e : joinJ (some b) (some x) (some y) = if x + y < b then some (x + y) else some b := rfl
        rw [e] at h
        split at h
        · cases h; exact .inr ⟨x, y, rfl, rfl, rfl⟩
        · exact .inl h
theorem foldJ_le (tb : List (List (Option Int))) (v : Int) : ∀ (ps : List (Int × Int)) (b : Option Int), (∀ z, b = some z → ∃ z', ps.foldl (joinS tb v) b = some z' ∧ z' ≤ z) ∧
    (∀ p ∈ ps, ∀ x y, labT tb p.1 v = some x → labT tb p.2 v = some y → ∃ z', ps.foldl (joinS tb v) b = some z' ∧ z' ≤ x + y)
  | [], b => ⟨fun z h => ⟨z, h, Int.le_refl _⟩, fun p hp => by cases hp⟩
  | p :: r, b => by
    obtain ⟨i1, i2⟩ := foldJ_le tb v r (joinS tb v b p)
    obtain ⟨j1, j2⟩ := joinJ_le (b := b) (x := labT tb p.1 v) (y := labT tb p.2 v)
    rw [List.foldl_cons]
    refine ⟨fun z h => ?_, fun q hq x y hx hy => ?_⟩
    · obtain ⟨z1, a1, a2⟩ := j1 z h
      obtain ⟨z2, a3, a4⟩ := i1 z1 a1
      exact ⟨z2, a3, by omega⟩
    · rcases List.mem_cons.mp hq with e | e
      · subst e
        obtain ⟨z1, a1, a2⟩ := j2 x y hx hy
        obtain ⟨z2, a3, a4⟩ := i1 z1 a1
        exact ⟨z2, a3, by omega⟩
      · exact i2 q e x y hx hy
theorem foldJ_mem (tb : List (List (Option Int))) (v : Int) : ∀ (ps : List (Int × Int)) (b : Option Int) (z : Int), ps.foldl (joinS tb v) b = some z → b = some z ∨ ∃ p ∈ ps, ∃ x y, labT tb p.1 v = some x ∧ labT tb p.2 v = some y ∧ z = x + y
  | [], b, z, h => .inl h
  | p :: r, b, z, h => by
    rw [List.foldl_cons] at h
    rcases foldJ_mem tb v r _ z h with e | ⟨q, hq, e⟩
    · rcases joinJ_mem e with e | ⟨x, y, e1, e2, e3⟩
      · exact .inl e
      · exact .inr ⟨p, by simp, x, y, e1, e2, e3⟩
    · exact .inr ⟨q, by simp [hq], e⟩

/-! ### the table -/
def baseN (tb : List (List (Option Int))) (G : Nat) (goals : List Int) (n : Nat) : Nat → List (Option Int)
  | 0 => (List.range n).map fun (v : Nat) => joinF tb G v
  | i + 1 => if G = 2 ^ i then (baseN tb G goals n i).set (goals[i]?.getD 0).toNat (some 0) else baseN tb G goals n i
section
variable {es : List Ed} {n : Int} {goals : List Int} {G : Nat} {tb : List (List (Option Int))}
structure TabInv (es : List Ed) (n : Int) (goals : List Int) (G : Nat) (tb : List (List (Option Int))) : Prop where
  len : tb.length = G
  row : ∀ a, 1 ≤ a → ∀ r, tb[a]? = some r → r.length = n.toNat
  single : ∀ i t, goals[i]? = some t → 2 ^ i < G → ∃ l, labT tb (2 ^ i : Nat) t = some l ∧ l ≤ 0
  edge : ∀ a : Nat, 1 ≤ a → a < G → ∀ (i : Nat) e x y l, es[i]? = some e → Joins e x y → labT tb a x = some l → ∃ l', labT tb a y = some l' ∧ l' ≤ l + Wn es i
  div : ∀ a : Nat, 1 ≤ a → a < G → ∀ p ∈ partsF a, ∀ v x y, 0 ≤ v → v < n → labT tb p.1 v = some x → labT tb p.2 v = some y → ∃ z, labT tb a v = some z ∧ z ≤ x + y
  sound : ∀ (a : Nat) v l, 1 ≤ a → a < G → 0 ≤ v → labT tb a v = some l → ∃ M : List Nat, (∀ i ∈ M, i < es.length) ∧ wt (Wn es) M = l ∧ Reach es goals M a v
theorem partsF_or : ∀ g : Nat, g < 8 → ∀ p ∈ partsF g, ∀ i < 3, Nat.testBit g i = true → Nat.testBit p.1.toNat i = true ∨ Nat.testBit p.2.toNat i = true := by decide +kernel
theorem partsF_one : ∀ i < 3, partsF (2 ^ i : Nat) = [] := by decide +kernel
theorem partsF_allB : ((List.range 8).all fun g => (List.range 8).all fun a => (List.range 8).all fun b => !(decide (1 ≤ a) && decide (1 ≤ b) && a &&& b == 0 && a ||| b == g) || (partsF (g:Nat)).contains (((a:Nat):Int), ((b:Nat):Int)) || (partsF (g:Nat)).contains (((b:Nat):Int), ((a:Nat):Int))) = true := by decide +kernel
theorem partsF_all (g : Nat) (hg : g < 8) (a : Nat) (ha : a < 8) (b : Nat) (hb : b < 8) (h : 1 ≤ a ∧ 1 ≤ b ∧ a &&& b = 0 ∧ a ||| b = g) : (((a:Nat):Int), ((b:Nat):Int)) ∈ partsF (g:Nat) ∨ (((b:Nat):Int), ((a:Nat):Int)) ∈ partsF (g:Nat) := by
  have := List.all_eq_true.mp (List.all_eq_true.mp (List.all_eq_true.mp partsF_allB g (List.mem_range.mpr hg)) a (List.mem_range.mpr ha)) b (List.mem_range.mpr hb)
  obtain ⟨h1, h2, h3, h4⟩ := h
  simpa [h1, h2, h3, h4] using this
theorem labT_lt {a v x : Int} (h : labT tb a v = some x) : ∃ r, tb[a.toNat]? = some r ∧ gtO r v = some x := by
  unfold labT at h
  cases hr : tb[a.toNat]? with
  | none => rw [hr] at h; cases h
  | some r => rw [hr] at h; exact ⟨r, rfl, h⟩
theorem labT_old {a : Nat} {v : Int} {r : List (Option Int)} (h : a < tb.length) : labT (tb ++ [r]) a v = labT tb a v := by
  unfold labT
  rw [Int.toNat_natCast, List.getElem?_append_left h]
theorem labT_new {v : Int} {r : List (Option Int)} (h : tb.length = G) : labT (tb ++ [r]) (G : Nat) v = gtO r v := by
  unfold labT gtO
  rw [Int.toNat_natCast, List.getElem?_append_right (by omega)]
  simp [h]
theorem baseN_len (tb : List (List (Option Int))) (G : Nat) (goals : List Int) (n : Nat) : ∀ i, (baseN tb G goals n i).length = n
  | 0 => by simp [baseN]
  | i + 1 => by
    unfold baseN
    split
    · rw [List.length_set]; exact baseN_len tb G goals n i
    · exact baseN_len tb G goals n i
theorem base0 {v : Int} (h0 : 0 ≤ v) (h1 : v < n) : gtO (baseN tb G goals n.toNat 0) v = joinF tb G v := by
  unfold baseN gtO
  rw [List.getElem?_map, List.getElem?_range (by omega), Option.map_some, Int.toNat_of_nonneg h0]; rfl
theorem base_at (hr : ∀ t ∈ goals, 0 ≤ t ∧ t < n) {v : Int} (h0 : 0 ≤ v) (h1 : v < n) : ∀ k, k ≤ goals.length →
    (gtO (baseN tb G goals n.toNat k) v = joinF tb G v ∧ ∀ i < k, G = 2 ^ i → goals[i]? ≠ some v) ∨ (gtO (baseN tb G goals n.toNat k) v = some 0 ∧ ∃ i, i < k ∧ G = 2 ^ i ∧ goals[i]? = some v)
  | 0, _ => .inl ⟨base0 h0 h1, fun i hi => absurd hi (Nat.not_lt_zero _)⟩
  | k + 1, hk => by
    have ih := base_at hr h0 h1 k (by omega)
    unfold baseN
    by_cases hG : G = 2 ^ k
    · rw [if_pos hG]
      have hg : goals[k]? = some goals[k] := List.getElem?_eq_getElem (by omega)
      obtain ⟨t0, t1⟩ := hr _ (List.getElem_mem (show k < goals.length by omega))
      rw [hg, Option.getD_some, gtO_set t0 (by rw [baseN_len]; omega) h0]
      by_cases hv : v = goals[k]
      · rw [if_pos hv]
        exact .inr ⟨rfl, k, by omega, hG, by rw [hg, hv]⟩
      · rw [if_neg hv]
        rcases ih with ⟨i1, i2⟩ | ⟨i1, i, i2, i3, i4⟩
        · refine .inl ⟨i1, fun i hi e => ?_⟩
          by_cases z : i = k
          · subst z; rw [hg]; intro y; exact hv (Option.some.inj y).symm
          · exact i2 i (by omega) e
        · exact .inr ⟨i1, i, by omega, i3, i4⟩
    · rw [if_neg hG]
      rcases ih with ⟨i1, i2⟩ | ⟨i1, i, i2, i3, i4⟩
      · refine .inl ⟨i1, fun i hi e => ?_⟩
        by_cases z : i = k
        · subst z; exact absurd e hG
        · exact i2 i (by omega) e
      · exact .inr ⟨i1, i, by omega, i3, i4⟩
theorem TabInv.start : TabInv es n goals 1 [[]] where
  len := rfl
  row := fun a h r e => by
    rw [List.getElem?_eq_none (by simpa using h)] at e; cases e
  single := fun i t _ h => by have := Nat.two_pow_pos i; omega
  edge := fun a h1 h2 => by omega
  div := fun a h1 h2 => by omega
  sound := fun a v l h1 h2 => by omega
theorem TabInv.step (I : TabInv es n goals G tb) (g : ∀ e ∈ es, GoodE n e) (hn : 1 ≤ n) (hr : ∀ t ∈ goals, 0 ≤ t ∧ t < n) (hk : goals.length ≤ 3) (hG : 1 ≤ G) (hG8 : G < 2 ^ goals.length) {L : List (Option Int)}
    (S : SpOk (waysF n es) (wsF es) (baseN tb G goals n.toNat goals.length) L) : TabInv es n goals (G + 1) (tb ++ [L]) := by
  have h8 : G < 8 := Nat.lt_of_lt_of_le hG8 (by
    have : (2:Nat) ^ goals.length ≤ 2 ^ 3 := Nat.pow_le_pow_right (by decide) hk
    exact this)
  have ll : L.length = n.toNat := by rw [S.len, baseN_len]
  have old : ∀ a : Nat, a < G → ∀ v, labT (tb ++ [L]) a v = labT tb a v := fun a ha v => labT_old (by rw [I.len]; exact ha)
  have new : ∀ v, labT (tb ++ [L]) (G : Nat) v = gtO L v := fun v => labT_new I.len
  refine ⟨by simp [I.len], fun a ha r e => ?_, fun i t ht hi => ?_, fun a ha hb i e x y l he j hl => ?_, fun a ha hb p hp v x y v0 v1 hx hy => ?_, fun a v l ha hb v0 hl => ?_⟩
  · by_cases z : a < tb.length
    · rw [List.getElem?_append_left z] at e; exact I.row a ha r e
    · rw [List.getElem?_append_right (by omega)] at e
      have : a - tb.length = 0 := Decidable.byContradiction fun y => by
        rw [List.getElem?_eq_none (by simp; omega)] at e; cases e
      rw [this] at e; cases e; exact ll
  · by_cases z : 2 ^ i < G
    · rw [old _ z]; exact I.single i t ht z
    · have hG2 : G = 2 ^ i := by omega
      obtain ⟨t0, t1⟩ := hr t (List.mem_of_getElem? ht)
      rw [← hG2, new]
      have hik : i < goals.length := (List.getElem?_eq_some_iff.mp ht).1
      rcases base_at (tb := tb) (G := G) hr t0 t1 goals.length (Nat.le_refl _) with ⟨_, b⟩ | ⟨b, _⟩
      · exact absurd ht (b i hik hG2)
      · exact S.le t 0 t0 b
  · obtain ⟨p1, p2, p3, p4, p5, p6, p7⟩ := g e (List.mem_of_getElem? he)
    by_cases z : a < G
    · rw [old _ z] at hl ⊢; exact I.edge a ha z i e x y l he j hl
    · have e1 : a = G := by omega
      subst e1
      rw [new] at hl ⊢
      have hx : 0 ≤ x ∧ x < n := by rcases j with ⟨j1, j2⟩ | ⟨j1, j2⟩ <;> omega
      have := S.closed x hx.1 l hl i y ((way_mem g hx.1 hx.2).mpr ⟨by omega, e, by simpa using he, j⟩)
      rwa [wgO_ws, Int.toNat_natCast] at this
  · obtain ⟨q1, q2, q3, q4⟩ := partsF_ok a (by omega) p hp
    have c1 : p.1 = (p.1.toNat : Nat) := by omega
    have c2 : p.2 = (p.2.toNat : Nat) := by omega
    rw [c1, old _ (by omega), ← c1] at hx
    rw [c2, old _ (by omega), ← c2] at hy
    by_cases z : a < G
    · rw [old _ z]; exact I.div a ha z p hp v x y v0 v1 hx hy
    · have e1 : a = G := by omega
      subst e1
      rw [new]
      obtain ⟨zz, k1, k2⟩ := (foldJ_le tb v (partsF a) none).2 p hp x y hx hy
      rcases base_at (tb := tb) (G := a) hr v0 v1 goals.length (Nat.le_refl _) with ⟨b, _⟩ | ⟨_, i, b1, b2, _⟩
      · obtain ⟨y', m1, m2⟩ := S.le v zz v0 (by rw [b]; exact k1)
        exact ⟨y', m1, by omega⟩
      · rw [b2, partsF_one i (by omega)] at hp; cases hp
  · by_cases z : a < G
    · rw [old _ z] at hl; exact I.sound a v l ha z v0 hl
    · have e1 : a = G := by omega
      subst e1
      rw [new] at hl
      refine S.sound (fun v l => 0 ≤ v ∧ v < n → ∃ M : List Nat, (∀ i ∈ M, i < es.length) ∧ wt (Wn es) M = l ∧ Reach es goals M a v) (fun v x v0 hx ⟨_, v1⟩ => ?_) (fun h x k o h0 hm ih ⟨o0, o1⟩ => ?_) v l v0 hl ⟨v0, by have := gtO_lt hl; omega⟩
      · rcases base_at (tb := tb) (G := a) hr v0 v1 goals.length (Nat.le_refl _) with ⟨b, _⟩ | ⟨b, i, b1, b2, b3⟩
        · rw [b] at hx
          rcases foldJ_mem tb v _ none x hx with e | ⟨p, hp, x1, y1, k1, k2, k3⟩
          · cases e
          · obtain ⟨q1, q2, q3, q4⟩ := partsF_ok a h8 p hp
            have c1 : p.1 = (p.1.toNat : Nat) := by omega
            have c2 : p.2 = (p.2.toNat : Nat) := by omega
            rw [c1] at k1
            rw [c2] at k2
            obtain ⟨M1, m1, m2, m3⟩ := I.sound p.1.toNat v x1 (by omega) (by omega) v0 k1
            obtain ⟨M2, m4, m5, m6⟩ := I.sound p.2.toNat v y1 (by omega) (by omega) v0 k2
            refine ⟨M1 ++ M2, fun i hi => ?_, by rw [wt_append, m2, m5, k3], fun i t hb ht => ?_⟩
            · rcases List.mem_append.mp hi with y | y
              · exact m1 i y
              · exact m4 i y
            · have hik : i < goals.length := (List.getElem?_eq_some_iff.mp ht).1
              rcases partsF_or a h8 p hp i (by omega) hb with y | y
              · exact (m3 i t y ht).mono (pick_sub fun j hj => by simp [hj])
              · exact (m6 i t y ht).mono (pick_sub fun j hj => by simp [hj])
        · rw [b] at hx; cases hx
          refine ⟨[], by simp, rfl, fun j t hb ht => ?_⟩
          have : j = i := by
            rw [b2, Nat.testBit_two_pow] at hb
            exact (of_decide_eq_true hb).symm
          subst this
          rw [b3] at ht; cases ht
          exact .refl _
      · by_cases hh : h < n
        · obtain ⟨k0, e, he, j⟩ := (way_mem g h0 hh).mp hm
          obtain ⟨M, m1, m2, m3⟩ := ih ⟨h0, hh⟩
          refine ⟨k.toNat :: M, fun i hi => ?_, by rw [wt_cons, m2, wgO_ws]; omega, fun i t hb ht => ?_⟩
          · rcases List.mem_cons.mp hi with y | y
            · rw [y]; exact (List.getElem?_eq_some_iff.mp he).1
            · exact m1 i y
          · exact (Conn.one (mem_pick.mpr ⟨k.toNat, by simp, he⟩) j.symm).trans ((m3 i t hb ht).mono (pick_sub fun j hj => by simp [hj]))
        · rw [wyO_out (by omega) (by omega)] at hm; cases hm
end
end TW
end

section
set_option exponentiation.threshold 600
set_option linter.all false
/-! Plain mathematics 4: what the table tells. -/
namespace TW
section
variable {es : List Ed} {n : Int} {goals : List Int} {tb : List (List (Option Int))}
theorem TabInv.below (I : TabInv es n goals (2 ^ goals.length) tb) (g : ∀ e ∈ es, GoodE n e) (hr : ∀ t ∈ goals, 0 ≤ t ∧ t < n) (hk : goals.length ≤ 3) :
    Below es (Wn es) goals (fun a v => if 0 ≤ v ∧ v < n then labT tb (a : Nat) v else none) where
  single := fun i t h => by
    have := hr t (List.mem_of_getElem? h)
    simp only [if_pos this]
    exact I.single i t h (Nat.pow_lt_pow_right (by decide) (List.getElem?_eq_some_iff.mp h).1)
  edge := fun a ha hb i e x y l he j hl => by
    obtain ⟨p1, p2, p3, p4, p5, p6, p7⟩ := g e (List.mem_of_getElem? he)
    by_cases hx : 0 ≤ x ∧ x < n
    · simp only [if_pos hx] at hl
      have hy : 0 ≤ y ∧ y < n := by rcases j with ⟨j1, j2⟩ | ⟨j1, j2⟩ <;> omega
      simp only [if_pos hy]
      exact I.edge a ha hb i e x y l he j hl
    · simp only [if_neg hx] at hl; cases hl
  div := fun G a b ha hb h1 h2 hG v x y hx hy => by
    have h8 : G < 8 := Nat.lt_of_lt_of_le hG (by
      have : (2:Nat) ^ goals.length ≤ 2 ^ 3 := Nat.pow_le_pow_right (by decide) hk
      exact this)
    have ha8 : a ≤ G := by rw [← h2]; exact Nat.left_le_or
    have hb8 : b ≤ G := by rw [← h2]; exact Nat.right_le_or
    by_cases hv : 0 ≤ v ∧ v < n
    · simp only [if_pos hv] at hx hy ⊢
      rcases partsF_all G h8 a (by omega) b (by omega) ⟨ha, hb, h1, h2⟩ with z | z
      · exact I.div G (by omega) hG _ z v x y hv.1 hv.2 hx hy
      · obtain ⟨w, w1, w2⟩ := I.div G (by omega) hG _ z v y x hv.1 hv.2 hy hx
        exact ⟨w, w1, by omega⟩
    · simp only [if_neg hv] at hx; cases hx
end

/-! ### lists of numbers without repetition -/
theorem dedup {α : Type} (M : List α) : ∃ S : List α, S.Nodup ∧ ∀ x, x ∈ S ↔ x ∈ M := by
  classical
  induction M with
  | nil => exact ⟨[], .nil, fun _ => Iff.rfl⟩
  | cons a r ih =>
    obtain ⟨S, h1, h2⟩ := ih
    by_cases h : a ∈ S
    · refine ⟨S, h1, fun x => ?_⟩
      rw [List.mem_cons, ← h2 x]
      exact ⟨.inr, fun z => z.elim (fun y => y ▸ h) id⟩
    · exact ⟨a :: S, List.nodup_cons.mpr ⟨h, h1⟩, fun x => by rw [List.mem_cons, List.mem_cons, h2 x]⟩
theorem wt_eq {α : Type} {W : α → Int} {S M : List α} (h1 : S.Nodup) (h2 : M.Nodup) (h : ∀ x, x ∈ S ↔ x ∈ M) (hp : ∀ x ∈ M, 0 ≤ W x) : wt W S = wt W M :=
  Int.le_antisymm (wt_le h1 (fun a ha => (h a).mp ha) hp) (wt_le h2 (fun a ha => (h a).mpr ha) fun a ha => hp a ((h a).mp ha))
theorem len_wt {α : Type} (S : List α) : wt (fun _ => 1) S = S.length := by
  induction S with
  | nil => rfl
  | cons a r ih => rw [wt_cons, ih, List.length_cons]; omega
theorem nodup_len {α : Type} {S M : List α} (h : S.Nodup) (hs : ∀ x ∈ S, x ∈ M) : S.length ≤ M.length := by
  have := wt_le (W := fun _ => 1) h hs fun _ _ => by decide
  rw [len_wt, len_wt] at this; omega
theorem wt_congr {α : Type} {W W' : α → Int} {S : List α} (h : ∀ x ∈ S, W x = W' x) : wt W S = wt W' S := by
  unfold wt; rw [List.map_congr_left h]

/-! ### the weight of a set of edges, told apart -/
def Pn (es : List Ed) (i : Nat) : Int := (es[i]?.map (·.2.2)).getD 0
def Dn (i : Nat) : Int := 2 * 2 ^ 200 - 2 ^ (200 - i)
def bsum : List Nat → Nat
  | [] => 0
  | i :: r => bsum r + 2 ^ (200 - i)
theorem Dn_rng (i : Nat) : 0 ≤ Dn i ∧ Dn i ≤ 2 ^ 201 := by
  unfold Dn
  have h2 := p2_le (k := 200 - i) (by omega)
  have h3 := p2_pos (200 - i)
  omega
theorem wt_Dn : ∀ S : List Nat, 0 ≤ wt Dn S ∧ wt Dn S ≤ S.length * 2 ^ 201 ∧ S.length * 2 ^ 201 - wt Dn S = bsum S
  | [] => by simp [wt, bsum]
  | i :: r => by
    obtain ⟨h1, h2, h3⟩ := wt_Dn r
    obtain ⟨h4, h5⟩ := Dn_rng i
    rw [wt_cons, List.length_cons]
    have e : ((bsum (i :: r) : Nat) : Int) = bsum r + 2 ^ (200 - i) := by
      show ((bsum r + 2 ^ (200 - i) : Nat) : Int) = _
      rw [Int.natCast_add, Int.natCast_pow]; rfl
    rw [e]
    have e3 : Dn i = 2 * 2 ^ 200 - 2 ^ (200 - i) := rfl
    rw [e3] at h4 h5 ⊢
    refine ⟨by omega, by omega, by omega⟩
theorem wt_split {es : List Ed} : ∀ {S : List Nat}, (∀ i ∈ S, i < es.length) → wt (Wn es) S = wt (Pn es) S * 2 ^ 440 + (S.length * 2 ^ 220 + wt Dn S)
  | [], _ => by simp [wt]
  | i :: r, h => by
    rw [wt_cons, wt_cons, wt_cons, wt_split fun j hj => h j (by simp [hj]), List.length_cons]
    have hi := h i (by simp)
    have e1 : Wn es i = Pn es i * 2 ^ 440 + 2 ^ 220 + Dn i := by
      unfold Wn Pn Dn Wt
      rw [List.getElem?_eq_getElem hi]
      simp only [Option.map_some, Option.getD_some]
      rw [show ((200:Int) - (i:Int)).toNat = 200 - i by omega]
    rw [e1]
    omega
theorem bit_add (N m i : Nat) (h : N / 2 ^ m % 2 = 0) : (N + 2 ^ m) / 2 ^ i % 2 = if i = m then 1 else N / 2 ^ i % 2 := by
  rcases Nat.lt_trichotomy i m with h1 | h1 | h1
  · rw [if_neg (by omega)]
    obtain ⟨d, rfl⟩ : ∃ d, m = i + (d + 1) := ⟨m - i - 1, by omega⟩
    have e : (2:Nat) ^ (i + (d + 1)) = 2 ^ i * (2 * 2 ^ d) := by rw [Nat.pow_add, Nat.pow_succ]; rw [Nat.mul_comm (2 ^ d) 2]
    rw [e, Nat.add_mul_div_left _ _ (Nat.two_pow_pos i)]
    omega
  · subst h1
    rw [if_pos rfl]
    have := Nat.add_mul_div_left N 1 (Nat.two_pow_pos i)
    rw [Nat.mul_one] at this
    rw [this]; omega
  · rw [if_neg (by omega)]
    obtain ⟨d, rfl⟩ : ∃ d, i = m + (1 + d) := ⟨i - m - 1, by omega⟩
    have e : (2:Nat) ^ (m + (1 + d)) = 2 ^ m * 2 * 2 ^ d := by rw [Nat.pow_add, Nat.pow_add, Nat.pow_one, Nat.mul_assoc]
    rw [e, ← Nat.div_div_eq_div_mul, ← Nat.div_div_eq_div_mul, ← Nat.div_div_eq_div_mul, ← Nat.div_div_eq_div_mul]
    have := Nat.add_mul_div_left N 1 (Nat.two_pow_pos m)
    rw [Nat.mul_one] at this
    rw [this]
    have e2 : (N / 2 ^ m + 1) / 2 = N / 2 ^ m / 2 := by omega
    rw [e2]
theorem bit_bsum : ∀ {S : List Nat}, S.Nodup → (∀ i ∈ S, i ≤ 200) → ∀ i ≤ 200, bsum S / 2 ^ (200 - i) % 2 = if i ∈ S then 1 else 0
  | [], _, _, i, _ => by simp [bsum]
  | a :: r, nd, h, i, hi => by
    obtain ⟨n1, n2⟩ := List.nodup_cons.mp nd
    have ih := bit_bsum n2 fun j hj => h j (by simp [hj])
    have ha := h a (by simp)
    have h0 := ih a ha
    rw [if_neg n1] at h0
    show (bsum r + 2 ^ (200 - a)) / 2 ^ (200 - i) % 2 = _
    rw [bit_add _ _ _ h0, ih i hi]
    by_cases z : i = a
    · subst z; simp
    · rw [if_neg (by omega)]
      by_cases y : i ∈ r
      · rw [if_pos y, if_pos (by simp [y])]
      · rw [if_neg y, if_neg (by simp [y, z])]
theorem filterMap_if {α β : Type} {f : α → Option β} {p : α → Bool} {g : α → β} : ∀ (L : List α), (∀ i ∈ L, f i = if p i = true then some (g i) else none) → L.filterMap f = (L.filter p).map g
  | [], _ => rfl
  | a :: r, h => by
    have ih := filterMap_if r fun i hi => h i (by simp [hi])
    have ha := h a (by simp)
    rw [List.filterMap_cons, ha, List.filter_cons]
    cases hp : p a <;> simp [ih]
theorem bits_of {S : List Nat} (nd : S.Nodup) (h : ∀ i ∈ S, i ≤ 200) : bitsF (bsum S) = ((List.range 201).filter fun i => decide (i ∈ S)).map fun i => ((i : Nat) : Int) := by
  unfold bitsF
  refine filterMap_if _ fun i hi => ?_
  have hi := List.mem_range.mp hi
  have e : ((bsum S : Nat) : Int) / 2 ^ (200 - i) % 2 = ((bsum S / 2 ^ (200 - i) % 2 : Nat) : Int) := by
    rw [Int.natCast_emod, Int.natCast_ediv, Int.natCast_pow]; rfl
  rw [e, bit_bsum nd h i (by omega)]
  by_cases z : i ∈ S <;> simp [z]

/-! ### what told_tree tells -/
/-- all the vertices ts are joined by T -/
def Span (T : List Ed) (ts : List Int) : Prop := ∀ a ∈ ts, ∀ b ∈ ts, Conn T a b
theorem Span.mono {T T' : List Ed} {ts : List Int} (h : Span T ts) (s : ∀ e ∈ T, e ∈ T') : Span T' ts := fun a ha b hb => (h a ha b hb).mono s
def ToldOk (es : List Ed) (ts : List Int) : Option (List Int) → Prop
  | none => ¬ ∃ S : List Nat, (∀ i ∈ S, i < es.length) ∧ Span (pick es S) ts
  | some ns => ∃ S : List Nat, ns = S.map (fun i => ((i : Nat) : Int)) ∧ S.Pairwise (· < ·) ∧ (∀ i ∈ S, i < es.length) ∧ Span (pick es S) ts ∧
      ∀ S' : List Nat, (∀ i ∈ S', i < es.length) → Span (pick es S') ts → wt (Pn es) S ≤ wt (Pn es) S'
theorem told_one (es : List Ed) (t : Int) (h : ∀ e ∈ es, 0 ≤ e.2.2) : ToldOk es [t] (some []) :=
  ⟨[], rfl, .nil, by simp, fun a ha b hb => by
    rw [List.mem_singleton.mp ha, List.mem_singleton.mp hb]; exact .refl _, fun S' _ _ => by
    rw [wt_nil]
    refine wt_nonneg fun i _ => ?_
    unfold Pn
    cases he : es[i]? with
    | none => exact Int.le_refl _
    | some e => exact h e (List.mem_of_getElem? he)⟩
section
variable {es : List Ed} {n : Int} {goals : List Int} {tb : List (List (Option Int))}
theorem Pn_nn (g : ∀ e ∈ es, GoodE n e) (i : Nat) : 0 ≤ Pn es i := by
  unfold Pn
  cases he : es[i]? with
  | none => exact Int.le_refl _
  | some e => exact (g e (List.mem_of_getElem? he)).p0
theorem span_reach {S : List Nat} {v : Int} : Span (pick es S) (goals ++ [v]) ↔ Reach es goals S (2 ^ goals.length - 1) v := by
  constructor
  · intro h i t _ ht
    exact h v (by simp) t (by simp [List.mem_of_getElem? ht])
  · intro h
    have key : ∀ a ∈ goals ++ [v], Conn (pick es S) v a := fun a ha => by
      rcases List.mem_append.mp ha with z | z
      · obtain ⟨i, hi, e⟩ := List.mem_iff_getElem.mp z
        exact h i a (by rw [Nat.testBit_two_pow_sub_one]; exact decide_eq_true hi) (by rw [List.getElem?_eq_getElem hi, e])
      · rw [List.mem_singleton.mp z]; exact .refl _
    exact fun a ha b hb => (key a ha).symm.trans (key b hb)
theorem told_of (I : TabInv es n goals (2 ^ goals.length) tb) (g : ∀ e ∈ es, GoodE n e) (hr : ∀ t ∈ goals, 0 ≤ t ∧ t < n) (hk : goals.length ≤ 3) (h1 : 1 ≤ goals.length) (nd : goals.Nodup) (hl : es.length ≤ 200) {v : Int} (v0 : 0 ≤ v) (v1 : v < n) :
    (labT tb (2 ^ goals.length - 1 : Nat) v = none → ToldOk es (goals ++ [v]) none) ∧
    (∀ l, labT tb (2 ^ goals.length - 1 : Nat) v = some l → ∃ p c t, l = p * 2 ^ 440 + (c * 2 ^ 220 + t) ∧ 0 ≤ p ∧ 0 ≤ c ∧ c < 2 ^ 20 ∧ 0 ≤ t ∧ t < 2 ^ 220 ∧ ToldOk es (goals ++ [v]) (some (bitsF (c * 2 ^ 201 - t)))) := by
  have h2 : 2 ≤ 2 ^ goals.length := by
    have : (2:Nat) ^ 1 ≤ 2 ^ goals.length := Nat.pow_le_pow_right (by decide) h1
    simpa using this
  have hp : ∀ e ∈ es, 0 ≤ e.2.2 := fun e he => (g e he).p0
  have low : ∀ S : List Nat, Span (pick es S) (goals ++ [v]) → ∃ l, labT tb (2 ^ goals.length - 1 : Nat) v = some l ∧ l ≤ wt (Wn es) S := fun S hS => by
    obtain ⟨l, q1, q2⟩ := lower hk nd (fun i => Wn_nn hp i) (I.below g hr hk) S.length S (Nat.le_refl _) (2 ^ goals.length - 1) v (by omega) (by omega) (span_reach.mp hS)
    simp only [if_pos (And.intro v0 v1)] at q1
    exact ⟨l, q1, q2⟩
  have len : ∀ S : List Nat, S.Nodup → (∀ i ∈ S, i < es.length) → S.length ≤ 200 := fun S a b => by
    have := nodup_len a (M := List.range es.length) fun i hi => List.mem_range.mpr (b i hi)
    rw [List.length_range] at this; omega
  refine ⟨fun hn => ?_, fun l hl2 => ?_⟩
  · rintro ⟨S, _, hS⟩
    obtain ⟨l, q1, _⟩ := low S hS
    rw [hn] at q1; cases q1
  · obtain ⟨M, m1, m2, m3⟩ := I.sound (2 ^ goals.length - 1) v l (by omega) (by omega) v0 hl2
    obtain ⟨S, s1, s2⟩ := dedup M
    have s3 : ∀ i ∈ S, i < es.length := fun i hi => m1 i ((s2 i).mp hi)
    have s4 : Span (pick es S) (goals ++ [v]) := (span_reach.mpr m3).mono (pick_sub fun i hi => (s2 i).mpr hi)
    have s5 : wt (Wn es) S = l := by
      obtain ⟨l', q1, q2⟩ := low S s4
      rw [hl2] at q1; cases q1
      have := wt_le (W := Wn es) s1 (fun a ha => (s2 a).mp ha) fun a _ => Wn_nn hp a
      omega
    have sl := len S s1 s3
    obtain ⟨d1, d2, d3⟩ := wt_Dn S
    have p0 : 0 ≤ wt (Pn es) S := wt_nonneg fun i _ => Pn_nn g i
    refine ⟨wt (Pn es) S, S.length, wt Dn S, by rw [← s5, wt_split s3], p0, by omega, by omega, d1, by omega, ?_⟩
    rw [d3, bits_of s1 fun i hi => by have := s3 i hi; omega]
    have mem : ∀ i, i ∈ (List.range 201).filter (fun i => decide (i ∈ S)) ↔ i ∈ S := fun i => by
      rw [List.mem_filter, List.mem_range]
      exact ⟨fun h => of_decide_eq_true h.2, fun h => ⟨by have := s3 i h; omega, decide_eq_true h⟩⟩
    have srt : ((List.range 201).filter fun i => decide (i ∈ S)).Pairwise (· < ·) := List.Pairwise.filter _ List.pairwise_lt_range
    refine ⟨_, rfl, srt, fun i hi => s3 i ((mem i).mp hi), s4.mono (pick_sub fun i hi => (mem i).mpr hi), fun S' r1 r2 => ?_⟩
    rw [wt_eq (srt.imp fun h => Nat.ne_of_lt h) s1 mem fun i _ => Pn_nn g i]
    obtain ⟨T, t1, t2⟩ := dedup S'
    have t3 : ∀ i ∈ T, i < es.length := fun i hi => r1 i ((t2 i).mp hi)
    obtain ⟨l', q1, q2⟩ := low T (r2.mono (pick_sub fun i hi => (t2 i).mpr hi))
    rw [hl2] at q1; cases q1
    have tl := len T t1 t3
    obtain ⟨f1, f2, f3⟩ := wt_Dn T
    have le : wt (Pn es) T ≤ wt (Pn es) S' := wt_le t1 (fun a ha => (t2 a).mp ha) fun a _ => Pn_nn g a
    rw [← s5, wt_split s3, wt_split t3] at q2
    omega
end
end TW
end

section
set_option Elab.async false
set_option linter.all false
set_option maxRecDepth 100000
set_option maxHeartbeats 1000000
/-! What each def promises: the table, the told tree. -/
namespace TW
open PySem PySem.Spec PyProof.Rows L2 LamX NdefX StX
def spc_label_table (TB : Tbs) (CN CR : Addr) : Sp := fun vs H Q _ => ∃ (a ga : Addr) (n : Int) (es : List TW.Ed) (goals : List Int), vs = [.ref a, .ref ga, .bl false] ∧ NetAt CN H a n es ∧ GoodN n es ∧ H ga = some (.lst (goals.map V.int)) ∧ goals.length ≤ 3 ∧
  (∀ t ∈ goals, 0 ≤ t ∧ t < n) ∧ Tabs TB H ∧ ∀ p H' tb, Gx TB [] H H' → RL (RL RO) H' (.ref p) tb → TabInv es n goals (2 ^ goals.length) tb → Q (.ref p) H'
def RON : Hp → V → Option (List Int) → Prop := fun H v r => match r with
  | none => v = .non
  | some ns => RLI H v ns
def spc_told_tree (TB : Tbs) (CN CR : Addr) : Sp := fun vs H Q _ => ∃ (a t : Addr) (n : Int) (es : List TW.Ed) (ts : List Int), vs = [.ref a, .ref t] ∧ NetAt CN H a n es ∧ GoodN n es ∧ H t = some (.lst (ts.map V.int)) ∧ GoodT n ts ∧ Tabs TB H ∧
  ∀ v H' r, Gx TB [] H H' → RON H' v r → ToldOk es ts r → Q v H'
end TW
end

section
set_option linter.all false
/-! Plain mathematics 5: rows of a reduction, what they keep. -/
namespace TW
/-- an edge that is left: its number, the edge, the first network's edges that it stands for -/
abbrev En := Int × Ed × List Int
def ed (s : En) : Ed := s.2.1
def pr (s : En) : Int := s.2.1.2.2
def inc (v : Int) (s : En) : Bool := decide (v = s.2.1.1 ∨ v = s.2.1.2.1)
def oth (s : En) (v : Int) : Int := s.2.1.1 + s.2.1.2.1 - v
def ring (S : List En) (v : Int) : List En := S.filter (inc v)
inductive Row
  | leaf (v : Int)
  | series (v : Int)
  | longer (k : Int) (w : List Int)
def innerB (n : Int) (ts : List Int) (v : Int) : Bool := decide (0 ≤ v) && decide (v < n) && !decide (v ∈ ts)
def leafB (n : Int) (ts : List Int) (S : List En) (v : Int) : Bool := innerB n ts v && match (ring S v).map (fun s => oth s v) with
  | [] => false
  | x :: r => r.all fun y => decide (y = x)
def seriesB (n : Int) (ts : List Int) (S : List En) (v : Int) : Bool := innerB n ts v && match ring S v with
  | [a, b] => !decide (oth a v = oth b v) && decide (pr a + pr b ≤ 1048576)
  | _ => false
def goB (S : List En) (ts : List Int) (price goal : Int) : List Int → Int → Int → Bool
  | [], here, _ => decide (here = goal)
  | s :: r, here, piece => match S.lookup s with
    | none => false
    | some (f, _) => if here = f.1 ∨ here = f.2.1 then (if price < piece + f.2.2 then false else goB S ts price goal r (f.1 + f.2.1 - here) (if f.1 + f.2.1 - here ∈ ts then 0 else piece + f.2.2)) else false
def longerB (S : List En) (ts : List Int) (k : Int) (w : List Int) : Bool := match S.lookup k with
  | none => false
  | some (e, _) => !decide (k ∈ w) && goB S ts e.2.2 e.2.1 w e.1 0
def holdsB (n : Int) (ts : List Int) (S : List En) : Row → Bool
  | .leaf v => leafB n ts S v
  | .series v => seriesB n ts S v
  | .longer k w => longerB S ts k w
def sortI (l : List Int) : List Int := l.mergeSort fun a b => decide (a ≤ b)
def joinE (S : List En) (nx v : Int) : List En := match ring S v with
  | [a, b] => [(nx, (oth a v, oth b v, pr a + pr b), sortI (a.2.2 ++ b.2.2))]
  | _ => []
def applyS (S : List En) (nx : Int) : Row → List En
  | .leaf v => S.filter fun s => !inc v s
  | .series v => (S.filter fun s => !inc v s) ++ joinE S nx v
  | .longer k _ => S.filter fun s => decide (s.1 ≠ k)
def nextS (nx : Int) : Row → Int
  | .series _ => nx + 1
  | _ => nx
/-- the rows hold, one after the other -/
inductive Run (n : Int) (ts : List Int) : List En → Int → List Row → List En → Int → Prop
  | nil (S : List En) (nx : Int) : Run n ts S nx [] S nx
  | cons {S S' : List En} {nx nx' : Int} {row : Row} {rows : List Row} : holdsB n ts S row = true → Run n ts (applyS S nx row) (nextS nx row) rows S' nx' → Run n ts S nx (row :: rows) S' nx'
theorem Run.app {n : Int} {ts : List Int} {S S1 S2 : List En} {nx nx1 nx2 : Int} {r1 r2 : List Row} (a : Run n ts S nx r1 S1 nx1) (b : Run n ts S1 nx1 r2 S2 nx2) : Run n ts S nx (r1 ++ r2) S2 nx2 := by
  induction a with
  | nil => exact b
  | cons h _ ih => exact .cons h (ih b)
theorem Run.one {n : Int} {ts : List Int} {S : List En} {nx : Int} {row : Row} (h : holdsB n ts S row = true) : Run n ts S nx [row] (applyS S nx row) (nextS nx row) := .cons h (.nil _ _)
theorem Run.snoc {n : Int} {ts : List Int} {S S1 : List En} {nx nx1 : Int} {r1 : List Row} {row : Row} (a : Run n ts S nx r1 S1 nx1) (h : holdsB n ts S1 row = true) : Run n ts S nx (r1 ++ [row]) (applyS S1 nx1 row) (nextS nx1 row) := a.app (.one h)

/-! ### a state -/
def Pi (es : List Ed) (o : Int) : Int := Pn es o.toNat
def orgE (es : List Ed) (os : List Int) : List Ed := os.filterMap fun o => es[o.toNat]?
structure StOk (es : List Ed) (n : Int) (S : List En) (nx : Int) : Prop where
  asc : (S.map (·.1)).Pairwise (· < ·)
  key : ∀ s ∈ S, 0 ≤ s.1 ∧ s.1 < nx
  good : ∀ s ∈ S, GoodE n s.2.1
  rng : ∀ s ∈ S, ∀ o ∈ s.2.2, 0 ≤ o ∧ o < es.length
  price : ∀ s ∈ S, wt (Pi es) s.2.2 ≤ pr s
  conn : ∀ s ∈ S, Conn (orgE es s.2.2) s.2.1.1 s.2.1.2.1
theorem asc_eq {S : List En} (h : (S.map (·.1)).Pairwise (· < ·)) {a b : En} (ha : a ∈ S) (hb : b ∈ S) (e : a.1 = b.1) : a = b := by
  induction S with
  | nil => cases ha
  | cons c r ih =>
    rw [List.map_cons, List.pairwise_cons] at h
    rcases List.mem_cons.mp ha with z1 | z1 <;> rcases List.mem_cons.mp hb with z2 | z2
    · rw [z1, z2]
    · have := h.1 _ (List.mem_map.mpr ⟨b, z2, rfl⟩); rw [← z1] at this; omega
    · have := h.1 _ (List.mem_map.mpr ⟨a, z1, rfl⟩); rw [← z2] at this; omega
    · exact ih h.2 z1 z2
theorem lookup_of {S : List En} (h : (S.map (·.1)).Pairwise (· < ·)) {s : En} (hs : s ∈ S) : S.lookup s.1 = some s.2 := by
  induction S with
  | nil => cases hs
  | cons c r ih =>
    rw [List.map_cons, List.pairwise_cons] at h
    obtain ⟨k, x⟩ := c
    rcases List.mem_cons.mp hs with z | z
    · subst z; simp [List.lookup]
    · have h1 := h.1 _ (List.mem_map.mpr ⟨s, z, rfl⟩)
      have h2 : (s.1 == k) = false := by simp only at h1; simp; omega
      rw [List.lookup_cons, h2]
      exact ih h.2 z
theorem of_lookup {S : List En} {k : Int} {x : Ed × List Int} (h : S.lookup k = some x) : (k, x) ∈ S := by
  induction S with
  | nil => cases h
  | cons c r ih =>
    obtain ⟨k', x'⟩ := c
    rw [List.lookup_cons] at h
    by_cases z : (k == k') = true
    · rw [z] at h
      simp only [beq_iff_eq] at z
      cases h; rw [z]; simp
    · simp only [Bool.not_eq_true] at z
      rw [z] at h
      simp [ih h]
theorem sortI_perm (l : List Int) : (sortI l).Perm l := List.mergeSort_perm l _
theorem sortI_sorted (l : List Int) : (sortI l).Pairwise (· ≤ ·) := by
  have := List.pairwise_mergeSort (le := fun (a b : Int) => decide (a ≤ b)) (fun a b c h1 h2 => by simp at *; omega) (fun a b => by simp; omega) l
  exact this.imp fun h => by simpa using h
theorem perm_sorted : ∀ {a b : List Int}, a.Perm b → a.Pairwise (· ≤ ·) → b.Pairwise (· ≤ ·) → a = b
  | [], b, p, _, _ => (List.nil_perm.mp p).symm
  | x :: a, [], p, _, _ => by have := p.length_eq; simp at this
  | x :: a, y :: b, p, ha, hb => by
    rw [List.pairwise_cons] at ha hb
    have e : x = y := by
      have h1 : x ∈ y :: b := p.mem_iff.mp (by simp)
      have h2 : y ∈ x :: a := p.mem_iff.mpr (by simp)
      rcases List.mem_cons.mp h1 with z | z
      · exact z
      · rcases List.mem_cons.mp h2 with w | w
        · exact w.symm
        · have := hb.1 _ z; have := ha.1 _ w; omega
    subst e
    rw [perm_sorted (List.Perm.cons_inv p) ha.2 hb.2]
theorem sortI_eq {l l' : List Int} (p : l'.Perm l) (h : l'.Pairwise (· ≤ ·)) : l' = sortI l := perm_sorted (p.trans (sortI_perm l).symm) h (sortI_sorted l)
theorem wt_perm {α : Type} {W : α → Int} {a b : List α} (p : a.Perm b) : wt W a = wt W b := by
  induction p with
  | nil => rfl
  | cons x _ ih => rw [wt_cons, wt_cons, ih]
  | swap x y l => rw [wt_cons, wt_cons, wt_cons, wt_cons]; omega
  | trans _ _ h1 h2 => rw [h1, h2]
theorem Joins.conn {T : List Ed} {e : Ed} {x y : Int} (j : Joins e x y) (c : Conn T e.1 e.2.1) : Conn T x y := by
  rcases j with ⟨k1, k2⟩ | ⟨k1, k2⟩
  · rw [← k1, ← k2]; exact c
  · rw [← k1, ← k2]; exact c.symm
theorem inc_oth {n : Int} {s : En} {v : Int} (g : GoodE n s.2.1) (h : inc v s = true) : Joins (ed s) v (oth s v) ∧ oth s v ≠ v ∧ 0 ≤ oth s v ∧ oth s v < n := by
  obtain ⟨p1, p2, p3, p4, p5, p6, p7⟩ := g
  have := of_decide_eq_true h
  unfold oth Joins ed
  rcases this with z | z
  · exact ⟨.inl ⟨z.symm, by omega⟩, by omega, by omega, by omega⟩
  · exact ⟨.inr ⟨by omega, z.symm⟩, by omega, by omega, by omega⟩
theorem ring_mem {S : List En} {v : Int} {s : En} : s ∈ ring S v ↔ s ∈ S ∧ inc v s = true := List.mem_filter
theorem filter_asc {S : List En} (p : En → Bool) (h : (S.map (·.1)).Pairwise (· < ·)) : ((S.filter p).map (·.1)).Pairwise (· < ·) := h.sublist (List.Sublist.map _ List.filter_sublist)
section
variable {es : List Ed} {n nx : Int} {S : List En} {ts : List Int}
theorem StOk.filter (h : StOk es n S nx) (p : En → Bool) : StOk es n (S.filter p) nx where
  asc := filter_asc p h.asc
  key := fun s hs => h.key s (List.mem_filter.mp hs).1
  good := fun s hs => h.good s (List.mem_filter.mp hs).1
  rng := fun s hs => h.rng s (List.mem_filter.mp hs).1
  price := fun s hs => h.price s (List.mem_filter.mp hs).1
  conn := fun s hs => h.conn s (List.mem_filter.mp hs).1
theorem series_of (h : seriesB n ts S v = true) : (0 ≤ v ∧ v < n ∧ v ∉ ts) ∧ ∃ a b, ring S v = [a, b] ∧ oth a v ≠ oth b v ∧ pr a + pr b ≤ 1048576 := by
  unfold seriesB at h
  rw [Bool.and_eq_true] at h
  obtain ⟨h1, h2⟩ := h
  refine ⟨by unfold innerB at h1; simpa [and_assoc] using h1, ?_⟩
  match hr : ring S v with
  | [a, b] => rw [hr] at h2; exact ⟨a, b, rfl, by simpa using h2⟩
  | [] => rw [hr] at h2; cases h2
  | [_] => rw [hr] at h2; cases h2
  | _ :: _ :: _ :: _ => rw [hr] at h2; cases h2
theorem leaf_of (h : leafB n ts S v = true) : (0 ≤ v ∧ v < n ∧ v ∉ ts) ∧ ring S v ≠ [] ∧ ∃ y, ∀ s ∈ S, inc v s = true → oth s v = y := by
  unfold leafB at h
  rw [Bool.and_eq_true] at h
  obtain ⟨h1, h2⟩ := h
  refine ⟨by unfold innerB at h1; simpa [and_assoc] using h1, ?_⟩
  cases hr : ring S v with
  | nil => rw [hr] at h2; cases h2
  | cons a r =>
    rw [hr] at h2
    simp only [List.map_cons, List.all_eq_true] at h2
    refine ⟨by simp, oth a v, fun s hs hi => ?_⟩
    have : s ∈ ring S v := ring_mem.mpr ⟨hs, hi⟩
    rw [hr] at this
    rcases List.mem_cons.mp this with z | z
    · rw [z]
    · exact of_decide_eq_true (h2 _ (List.mem_map.mpr ⟨s, z, rfl⟩))
theorem longer_of {k : Int} {w : List Int} (h : longerB S ts k w = true) : ∃ e os, (k, e, os) ∈ S ∧ k ∉ w ∧ goB S ts e.2.2 e.2.1 w e.1 0 = true := by
  unfold longerB at h
  cases hl : S.lookup k with
  | none => rw [hl] at h; cases h
  | some x =>
    obtain ⟨e, os⟩ := x
    rw [hl] at h
    simp only [Bool.and_eq_true, Bool.not_eq_true', decide_eq_false_iff_not] at h
    exact ⟨e, os, of_lookup hl, h.1, h.2⟩
theorem wt_org {os : List Int} (h : os.Perm os') : wt (Pi es) os = wt (Pi es) os' := wt_perm h
theorem orgE_sub {os os' : List Int} (h : ∀ o ∈ os, o ∈ os') : ∀ e ∈ orgE es os, e ∈ orgE es os' := fun e he => by
  obtain ⟨o, ho, q⟩ := List.mem_filterMap.mp he
  exact List.mem_filterMap.mpr ⟨o, h o ho, q⟩
theorem StOk.step (h : StOk es n S nx) {row : Row} (hr : holdsB n ts S row = true) : StOk es n (applyS S nx row) (nextS nx row) := by
  cases row with
  | leaf v => exact h.filter _
  | longer k w => exact h.filter _
  | series v =>
    obtain ⟨_, a, b, hab, hne, hp⟩ := series_of (show seriesB n ts S v = true from hr)
    have ha : a ∈ S ∧ inc v a = true := ring_mem.mp (by rw [hab]; simp)
    have hb : b ∈ S ∧ inc v b = true := ring_mem.mp (by rw [hab]; simp)
    have e : applyS S nx (.series v) = (S.filter fun s => !inc v s) ++ [(nx, (oth a v, oth b v, pr a + pr b), sortI (a.2.2 ++ b.2.2))] := by
      show _ ++ joinE S nx v = _
      unfold joinE; rw [hab]
    rw [e]
    have f := h.filter fun s => !inc v s
    obtain ⟨j1, _, o1, o2⟩ := inc_oth (h.good a ha.1) ha.2
    obtain ⟨j2, _, o3, o4⟩ := inc_oth (h.good b hb.1) hb.2
    have pa := (h.good a ha.1).p0
    have pb := (h.good b hb.1).p0
    have cat : ∀ {P : En → Prop}, (∀ s ∈ S.filter (fun s => !inc v s), P s) → P (nx, (oth a v, oth b v, pr a + pr b), sortI (a.2.2 ++ b.2.2)) → ∀ s ∈ (S.filter fun s => !inc v s) ++ [(nx, (oth a v, oth b v, pr a + pr b), sortI (a.2.2 ++ b.2.2))], P s := fun h1 h2 s hs => by
      rcases List.mem_append.mp hs with z | z
      · exact h1 s z
      · rw [List.mem_singleton.mp z]; exact h2
    have so : ∀ o, o ∈ sortI (a.2.2 ++ b.2.2) ↔ o ∈ a.2.2 ++ b.2.2 := fun o => (sortI_perm _).mem_iff
    refine ⟨?_, cat (fun s hs => ?_) ?_, cat f.good ⟨o1, o2, o3, o4, hne, ?_, hp⟩, cat f.rng fun o ho => ?_, cat f.price ?_, cat f.conn ?_⟩
    · rw [List.map_append, List.pairwise_append]
      refine ⟨f.asc, by simp, fun x hx y hy => ?_⟩
      obtain ⟨s, hs, rfl⟩ := List.mem_map.mp hx
      rw [List.map_singleton, List.mem_singleton] at hy
      have := (f.key s hs).2
      simp only at hy
      omega
    · have := f.key s hs
      show 0 ≤ s.1 ∧ s.1 < nx + 1
      omega
    · have := h.key a ha.1
      show 0 ≤ nx ∧ nx < nx + 1
      omega
    · show 0 ≤ pr a + pr b
      have h1 : 0 ≤ pr a := pa
      have h2 : 0 ≤ pr b := pb
      omega
    · rcases List.mem_append.mp ((so o).mp ho) with z | z
      · exact h.rng a ha.1 o z
      · exact h.rng b hb.1 o z
    · show wt (Pi es) (sortI (a.2.2 ++ b.2.2)) ≤ pr a + pr b
      rw [wt_perm (sortI_perm _), wt_append]
      have := h.price a ha.1
      have := h.price b hb.1
      omega
    · show Conn (orgE es (sortI (a.2.2 ++ b.2.2))) (oth a v) (oth b v)
      have c1 : Conn (orgE es (sortI (a.2.2 ++ b.2.2))) v (oth a v) := by
        exact j1.conn ((h.conn a ha.1).mono (orgE_sub (es := es) (os' := sortI (a.2.2 ++ b.2.2)) fun o ho => (so o).mpr (by simp [ho])))
      have c2 : Conn (orgE es (sortI (a.2.2 ++ b.2.2))) v (oth b v) := by
        exact j2.conn ((h.conn b hb.1).mono (orgE_sub (es := es) (os' := sortI (a.2.2 ++ b.2.2)) fun o ho => (so o).mpr (by simp [ho])))
      exact c1.symm.trans c2
theorem applyS_len {row : Row} (h : StOk es n S nx) (hr : holdsB n ts S row = true) : (applyS S nx row).length + 1 ≤ S.length := by
  have parts : ∀ p : En → Bool, (S.filter p).length + (S.filter fun s => !p s).length = S.length := fun p => by
    have := wt_filter (fun _ => 1) p S
    rw [len_wt, len_wt, len_wt] at this
    omega
  cases row with
  | leaf v =>
    obtain ⟨_, h1, _⟩ := leaf_of (show leafB n ts S v = true from hr)
    have := parts (inc v)
    have : 0 < (ring S v).length := List.length_pos_iff.mpr h1
    show (S.filter fun s => !inc v s).length + 1 ≤ _
    unfold ring at this
    omega
  | series v =>
    obtain ⟨_, a, b, hab, hne, hp⟩ := series_of (show seriesB n ts S v = true from hr)
    have e : applyS S nx (.series v) = (S.filter fun s => !inc v s) ++ [(nx, (oth a v, oth b v, pr a + pr b), sortI (a.2.2 ++ b.2.2))] := by
      show _ ++ joinE S nx v = _
      unfold joinE; rw [hab]
    rw [e, List.length_append, List.length_singleton]
    have := parts (inc v)
    have e2 : (S.filter (inc v)).length = 2 := by
      have : ring S v = S.filter (inc v) := rfl
      rw [← this, hab]; rfl
    omega
  | longer k w =>
    obtain ⟨e, os, h1, _⟩ := longer_of (show longerB S ts k w = true from hr)
    have := parts fun s => decide (s.1 ≠ k)
    have : 0 < (S.filter fun s => !decide (s.1 ≠ k)).length := List.length_pos_iff.mpr fun z => by
      have : (k, e, os) ∈ S.filter fun s => !decide (s.1 ≠ k) := List.mem_filter.mpr ⟨h1, by simp⟩
      rw [z] at this; cases this
    show (S.filter fun s => decide (s.1 ≠ k)).length + 1 ≤ _
    omega
def ol (s : En) : Int := s.2.2.length
theorem ol_filter (p : En → Bool) (S : List En) : wt ol (S.filter p) ≤ wt ol S := by
  have h1 := wt_filter ol p S
  have h2 := wt_nonneg (W := ol) (S := S.filter fun s => !p s) fun s _ => by unfold ol; omega
  omega
theorem applyS_ol {row : Row} (hr : holdsB n ts S row = true) : wt ol (applyS S nx row) ≤ wt ol S := by
  cases row with
  | leaf v => exact ol_filter _ S
  | longer k w => exact ol_filter _ S
  | series v =>
    obtain ⟨_, a, b, hab, hne, hp⟩ := series_of (show seriesB n ts S v = true from hr)
    have e : applyS S nx (.series v) = (S.filter fun s => !inc v s) ++ [(nx, (oth a v, oth b v, pr a + pr b), sortI (a.2.2 ++ b.2.2))] := by
      show _ ++ joinE S nx v = _
      unfold joinE; rw [hab]
    rw [e, wt_append, wt_cons, wt_nil]
    have h1 := wt_filter ol (inc v) S
    have e2 : S.filter (inc v) = [a, b] := hab
    rw [e2, wt_cons, wt_cons, wt_nil] at h1
    have e3 : ol ((nx, (oth a v, oth b v, pr a + pr b), sortI (a.2.2 ++ b.2.2)) : En) = ol a + ol b := by
      show (((sortI (a.2.2 ++ b.2.2)).length : Nat) : Int) = _
      rw [(sortI_perm _).length_eq, List.length_append]
      unfold ol; omega
    rw [e3]
    omega
theorem Run.ok {S' : List En} {nx' : Int} {rows : List Row} (r : Run n ts S nx rows S' nx') (h : StOk es n S nx) : StOk es n S' nx' ∧ S'.length + rows.length ≤ S.length := by
  induction r with
  | nil => exact ⟨h, Nat.le_refl _⟩
  | cons hr _ ih =>
    obtain ⟨i1, i2⟩ := ih (h.step hr)
    have := applyS_len h hr
    exact ⟨i1, by rw [List.length_cons]; omega⟩
end
end TW
end

section
set_option linter.all false
/-! Plain mathematics 6: a reduction keeps the least price. -/
namespace TW
section
variable {es : List Ed} {n nx : Int} {S : List En} {ts : List Int}
/-- a choice of edges that joins the vertices ts -/
structure Sol (S : List En) (ts : List Int) (B : List En) : Prop where
  sub : ∀ b ∈ B, b ∈ S
  span : Span (B.map ed) ts
theorem goB_piece {price goal k : Int} {CP CQ : Int → Prop} (ha : (S.map (·.1)).Pairwise (· < ·)) (hg : ∀ s ∈ S, GoodE n s.2.1) (hts : ∀ t ∈ ts, CP t ∨ CQ t) (hq : CQ goal) :
    ∀ (w : List Int) (here piece : Int) (acc : List En) (bp : Int), goB S ts price goal w here piece = true → k ∉ w → (∀ a ∈ acc, a ∈ S ∧ a.1 ≠ k) → wt pr acc = piece → piece ≤ price → CP bp → Conn (acc.map ed) bp here →
      ∃ acc' : List En, (∀ a ∈ acc', a ∈ S ∧ a.1 ≠ k) ∧ wt pr acc' ≤ price ∧ ∃ x y, CP x ∧ CQ y ∧ Conn (acc'.map ed) x y
  | [], here, piece, acc, bp, h, hk, h1, h2, h3, h4, h5 => by
    have e : here = goal := of_decide_eq_true h
    exact ⟨acc, h1, by omega, bp, here, h4, e ▸ hq, h5⟩
  | s :: r, here, piece, acc, bp, h, hk, h1, h2, h3, h4, h5 => by
    unfold goB at h
    cases hl : S.lookup s with
    | none => rw [hl] at h; cases h
    | some x =>
      obtain ⟨f, os⟩ := x
      rw [hl] at h
      simp only at h
      have hm := of_lookup hl
      have hsk : s ≠ k := fun z => hk (by simp [z])
      by_cases hi : here = f.1 ∨ here = f.2.1
      · rw [if_pos hi] at h
        by_cases hp : price < piece + f.2.2
        · rw [if_pos hp] at h; cases h
        · rw [if_neg hp] at h
          have j : Joins f here (f.1 + f.2.1 - here) := by
            rcases hi with z | z
            · exact .inl ⟨z.symm, by omega⟩
            · exact .inr ⟨by omega, z.symm⟩
          have acc1 : ∀ a ∈ acc ++ [((s, f, os) : En)], a ∈ S ∧ a.1 ≠ k := fun a ha => by
            rcases List.mem_append.mp ha with z | z
            · exact h1 a z
            · rw [List.mem_singleton.mp z]; exact ⟨hm, hsk⟩
          have w1 : wt pr (acc ++ [((s, f, os) : En)]) = piece + f.2.2 := by
            rw [wt_append, h2, wt_cons, wt_nil]
            show piece + (f.2.2 + 0) = _
            omega
          have c1 : Conn ((acc ++ [((s, f, os) : En)]).map ed) bp (f.1 + f.2.1 - here) := by
            refine .step f (h5.mono fun e he => ?_) ?_ j
            · rw [List.map_append]; exact List.mem_append_left _ he
            · rw [List.map_append]; exact List.mem_append_right _ (by simp [ed])
          have hk2 : k ∉ r := fun z => hk (by simp [z])
          by_cases ht : f.1 + f.2.1 - here ∈ ts
          · rw [if_pos ht] at h
            rcases hts _ ht with z | z
            · have p0 := (hg _ hm).p0
              have p00 : 0 ≤ f.2.2 := p0
              have : 0 ≤ price := by
                have := wt_nonneg (W := pr) (S := acc) fun a ha => (hg a (h1 a ha).1).p0
                omega
              exact goB_piece ha hg hts hq r _ 0 [] _ h hk2 (by simp) rfl this z (.refl _)
            · exact ⟨_, acc1, by rw [w1]; omega, bp, _, h4, z, c1⟩
          · rw [if_neg ht] at h
            exact goB_piece ha hg hts hq r _ _ _ bp h hk2 acc1 w1 (by omega) h4 c1
      · rw [if_neg hi] at h; cases h
theorem wt_in {α : Type} {W : α → Int} {S : List α} {a : α} (h : a ∈ S) (hp : ∀ x ∈ S, 0 ≤ W x) : W a ≤ wt W S := by
  have := wt_le (W := W) (S := [a]) (M := S) (by simp) (fun x hx => by rw [List.mem_singleton.mp hx]; exact h) hp
  rw [wt_cons, wt_nil] at this
  omega
/-- any row that holds keeps the least price, or better -/
theorem Sol.step (h : StOk es n S nx) (ht : ∀ t ∈ ts, 0 ≤ t ∧ t < n) {row : Row} (hr : holdsB n ts S row = true) {B : List En} (b : Sol S ts B) : ∃ B', Sol (applyS S nx row) ts B' ∧ wt pr B' ≤ wt pr B := by
  have pp : ∀ s ∈ S, 0 ≤ pr s := fun s hs => (h.good s hs).p0
  have pB : ∀ s ∈ B, 0 ≤ pr s := fun s hs => pp s (b.sub s hs)
  cases row with
  | leaf v =>
    obtain ⟨⟨v0, v1, v2⟩, h1, y, hy⟩ := leaf_of (show leafB n ts S v = true from hr)
    refine ⟨B.filter fun s => !inc v s, ⟨fun s hs => ?_, fun p hp q hq => ?_⟩, ?_⟩
    · obtain ⟨q1, q2⟩ := List.mem_filter.mp hs
      exact List.mem_filter.mpr ⟨b.sub s q1, q2⟩
    · have m := Conn.map (T' := (B.filter fun s => !inc v s).map ed) (fun z => if z = v then y else z) (fun e he => by
        obtain ⟨s, hs, rfl⟩ := List.mem_map.mp he
        cases hi : inc v s with
        | true =>
          have ey := hy s (b.sub s hs) hi
          obtain ⟨j, ne, _, _⟩ := inc_oth (h.good s (b.sub s hs)) hi
          rw [ey] at j ne
          rcases j with ⟨k1, k2⟩ | ⟨k1, k2⟩
          · simp only [k1, k2, if_pos, if_neg ne]; exact .refl _
          · simp only [k1, k2, if_pos, if_neg ne]; exact .refl _
        | false =>
          have hn := of_decide_eq_false hi
          have n1 : (ed s).1 ≠ v := fun z => hn (.inl z.symm)
          have n2 : (ed s).2.1 ≠ v := fun z => hn (.inr z.symm)
          simp only [if_neg n1, if_neg n2]
          exact .one (List.mem_map.mpr ⟨s, List.mem_filter.mpr ⟨hs, by rw [hi]; rfl⟩, rfl⟩) (.inl ⟨rfl, rfl⟩)) (b.span p hp q hq)
      have np : p ≠ v := fun z => v2 (z ▸ hp)
      have nq : q ≠ v := fun z => v2 (z ▸ hq)
      simpa only [if_neg np, if_neg nq] using m
    · have := wt_filter pr (fun s => inc v s) B
      have := wt_nonneg (W := pr) (S := B.filter fun s => inc v s) fun s hs => pB s (List.mem_filter.mp hs).1
      omega
  | series v =>
    obtain ⟨⟨v0, v1, v2⟩, a, c, hac, hne, hp⟩ := series_of (show seriesB n ts S v = true from hr)
    have ea : applyS S nx (.series v) = (S.filter fun s => !inc v s) ++ [(nx, (oth a v, oth c v, pr a + pr c), sortI (a.2.2 ++ c.2.2))] := by
      show _ ++ joinE S nx v = _
      unfold joinE; rw [hac]
    have ha : a ∈ S ∧ inc v a = true := ring_mem.mp (by rw [hac]; simp)
    have hc : c ∈ S ∧ inc v c = true := ring_mem.mp (by rw [hac]; simp)
    have hac2 : a ≠ c := fun z => hne (by rw [z])
    obtain ⟨j1, x0, _, _⟩ := inc_oth (h.good a ha.1) ha.2
    obtain ⟨j2, y0, _, _⟩ := inc_oth (h.good c hc.1) hc.2
    have two : ∀ s ∈ B, inc v s = true → s = a ∨ s = c := fun s hs hi => by
      have : s ∈ ring S v := ring_mem.mpr ⟨b.sub s hs, hi⟩
      rw [hac] at this
      simpa using this
    have filt := wt_filter pr (fun s => inc v s) B
    have fsub : ∀ s ∈ B.filter (fun s => !inc v s), s ∈ applyS S nx (.series v) := fun s hs => by
      obtain ⟨q1, q2⟩ := List.mem_filter.mp hs
      rw [ea]
      exact List.mem_append_left _ (List.mem_filter.mpr ⟨b.sub s q1, q2⟩)
    have npv : ∀ p ∈ ts, p ≠ v := fun p hp z => v2 (z ▸ hp)
    -- the picture of v
    have main : ∀ (T : List Ed) (z : Int), (∀ s ∈ B.filter (fun s => !inc v s), ed s ∈ T) → (a ∈ B → Conn T z (oth a v)) → (c ∈ B → Conn T z (oth c v)) → Span T ts := fun T z h1 h2 h3 p hp q hq => by
      have m := Conn.map (T' := T) (fun y => if y = v then z else y) (fun e he => by
        obtain ⟨s, hs, rfl⟩ := List.mem_map.mp he
        cases hi : inc v s with
        | true =>
          have key : ∀ s', s' = s → (s' = a ∨ s' = c) → Conn T z (oth s' v) ∧ Joins (ed s') v (oth s' v) ∧ oth s' v ≠ v := fun s' e1 e2 => by
            rcases e2 with e2 | e2
            · rw [e2]; rw [e2] at e1; exact ⟨h2 (e1 ▸ hs), j1, x0⟩
            · rw [e2]; rw [e2] at e1; exact ⟨h3 (e1 ▸ hs), j2, y0⟩
          obtain ⟨c1, j, ne⟩ := key s rfl (two s hs hi)
          rcases j with ⟨k1, k2⟩ | ⟨k1, k2⟩
          · simp only [k1, k2, if_pos, if_neg ne]; exact c1
          · simp only [k1, k2, if_pos, if_neg ne]; exact c1.symm
        | false =>
          have hn := of_decide_eq_false hi
          have n1 : (ed s).1 ≠ v := fun z => hn (.inl z.symm)
          have n2 : (ed s).2.1 ≠ v := fun z => hn (.inr z.symm)
          simp only [if_neg n1, if_neg n2]
          exact .one (h1 s (List.mem_filter.mpr ⟨hs, by rw [hi]; rfl⟩)) (.inl ⟨rfl, rfl⟩)) (b.span p hp q hq)
      simpa only [if_neg (npv p hp), if_neg (npv q hq)] using m
    have nn := wt_nonneg (W := pr) (S := B.filter fun s => inc v s) fun s hs => pB s (List.mem_filter.mp hs).1
    classical
    by_cases haB : a ∈ B
    · by_cases hcB : c ∈ B
      · refine ⟨B.filter (fun s => !inc v s) ++ [(nx, (oth a v, oth c v, pr a + pr c), sortI (a.2.2 ++ c.2.2))], ⟨fun s hs => ?_, main _ (oth a v) (fun s hs => ?_) (fun _ => .refl _) fun _ => ?_⟩, ?_⟩
        · rcases List.mem_append.mp hs with z | z
          · exact fsub s z
          · rw [ea]; exact List.mem_append_right _ z
        · rw [List.map_append]; exact List.mem_append_left _ (List.mem_map.mpr ⟨s, hs, rfl⟩)
        · exact .one (e := (oth a v, oth c v, pr a + pr c)) (by rw [List.map_append]; exact List.mem_append_right _ (by simp [ed])) (.inl ⟨rfl, rfl⟩)
        · have := wt_le (W := pr) (S := [a, c]) (M := B.filter fun s => inc v s) (by simp [hac2]) (fun s hs => by
            rcases List.mem_cons.mp hs with z | z
            · rw [z]; exact List.mem_filter.mpr ⟨haB, ha.2⟩
            · rw [List.mem_singleton.mp z]; exact List.mem_filter.mpr ⟨hcB, hc.2⟩) fun s hs => pB s (List.mem_filter.mp hs).1
          rw [wt_cons, wt_cons, wt_nil] at this
          rw [wt_append, wt_cons, wt_nil]
          have e3 : pr ((nx, (oth a v, oth c v, pr a + pr c), sortI (a.2.2 ++ c.2.2)) : En) = pr a + pr c := rfl
          rw [e3]
          omega
      · exact ⟨B.filter fun s => !inc v s, ⟨fsub, main _ (oth a v) (fun s hs => List.mem_map.mpr ⟨s, hs, rfl⟩) (fun _ => .refl _) fun z => absurd z hcB⟩, by omega⟩
    · exact ⟨B.filter fun s => !inc v s, ⟨fsub, main _ (oth c v) (fun s hs => List.mem_map.mpr ⟨s, hs, rfl⟩) (fun z => absurd z haB) fun _ => .refl _⟩, by omega⟩
  | longer k w =>
    obtain ⟨e, os, h1, hkw, hgo⟩ := longer_of (show longerB S ts k w = true from hr)
    have ge := h.good _ h1
    have filt := wt_filter pr (fun s => decide (s.1 ≠ k)) B
    have nn := wt_nonneg (W := pr) (S := B.filter fun s => !decide (s.1 ≠ k)) fun s hs => pB s (List.mem_filter.mp hs).1
    have fsub : ∀ s ∈ B.filter (fun s => decide (s.1 ≠ k)), s ∈ applyS S nx (.longer k w) := fun s hs => by
      obtain ⟨q1, q2⟩ := List.mem_filter.mp hs
      exact List.mem_filter.mpr ⟨b.sub s q1, q2⟩
    have split : ∀ d ∈ B.map ed, d = e ∨ d ∈ (B.filter fun s => decide (s.1 ≠ k)).map ed := fun d hd => by
      obtain ⟨s, hs, rfl⟩ := List.mem_map.mp hd
      by_cases z : s.1 = k
      · left
        have := asc_eq h.asc (b.sub s hs) h1 z
        rw [this]; rfl
      · exact .inr (List.mem_map.mpr ⟨s, List.mem_filter.mpr ⟨hs, decide_eq_true z⟩, rfl⟩)
    classical
    by_cases hB : ∃ s ∈ B, s.1 = k
    · obtain ⟨s, hs, hsk⟩ := hB
      have es0 := asc_eq h.asc (b.sub s hs) h1 hsk
      have wk : e.2.2 ≤ wt pr (B.filter fun s => !decide (s.1 ≠ k)) := by
        have := wt_in (W := pr) (S := B.filter fun s => !decide (s.1 ≠ k)) (a := s) (List.mem_filter.mpr ⟨hs, by simp [hsk]⟩) fun x hx => pB x (List.mem_filter.mp hx).1
        rw [es0] at this; exact this
      by_cases hsp : Span ((B.filter fun s => decide (s.1 ≠ k)).map ed) ts
      · exact ⟨_, ⟨fsub, hsp⟩, by omega⟩
      · -- each vertex of ts is reached from an end of e
        have ends : ∀ t ∈ ts, Conn ((B.filter fun s => decide (s.1 ≠ k)).map ed) e.1 t ∨ Conn ((B.filter fun s => decide (s.1 ≠ k)).map ed) e.2.1 t := fun t ht => by
          refine Decidable.byContradiction fun hno => hsp ?_
          have alone : ∀ q ∈ ts, Conn ((B.filter fun s => decide (s.1 ≠ k)).map ed) t q := fun q hq => by
            rcases Conn.cut2 (e := e) (p := e.1) (q := e.2.1) (.inl ⟨rfl, rfl⟩) split (b.span t ht q hq) with z | z | z
            · exact z
            · exact absurd (.inl z.symm) hno
            · exact absurd (.inr z.symm) hno
          exact fun p hp q hq => (alone p hp).symm.trans (alone q hq)
        obtain ⟨acc, q1, q2, x, y, q3, q4, q5⟩ := goB_piece (k := k) (CP := Conn ((B.filter fun s => decide (s.1 ≠ k)).map ed) e.1) (CQ := Conn ((B.filter fun s => decide (s.1 ≠ k)).map ed) e.2.1) h.asc h.good ends (.refl _) w e.1 0 [] e.1 hgo hkw (by simp) rfl ge.p0 (.refl _) (.refl _)
        refine ⟨B.filter (fun s => decide (s.1 ≠ k)) ++ acc, ⟨fun s hs => ?_, ?_⟩, by rw [wt_append]; omega⟩
        · rcases List.mem_append.mp hs with z | z
          · exact fsub s z
          · obtain ⟨r1, r2⟩ := q1 s z
            exact List.mem_filter.mpr ⟨r1, decide_eq_true r2⟩
        · have l1 : ∀ {p q : Int}, Conn ((B.filter fun s => decide (s.1 ≠ k)).map ed) p q → Conn ((B.filter (fun s => decide (s.1 ≠ k)) ++ acc).map ed) p q := fun c => c.mono fun d hd => by rw [List.map_append]; exact List.mem_append_left _ hd
          have l2 : Conn ((B.filter (fun s => decide (s.1 ≠ k)) ++ acc).map ed) x y := q5.mono fun d hd => by rw [List.map_append]; exact List.mem_append_right _ hd
          have pq : Conn ((B.filter (fun s => decide (s.1 ≠ k)) ++ acc).map ed) e.1 e.2.1 := (l1 q3).trans (l2.trans (l1 q4).symm)
          have key : ∀ t ∈ ts, Conn ((B.filter (fun s => decide (s.1 ≠ k)) ++ acc).map ed) e.1 t := fun t ht => by
            rcases ends t ht with z | z
            · exact l1 z
            · exact pq.trans (l1 z)
          exact fun p hp q hq => (key p hp).symm.trans (key q hq)
    · refine ⟨B, ⟨fun s hs => List.mem_filter.mpr ⟨b.sub s hs, decide_eq_true fun z => hB ⟨s, hs, z⟩⟩, b.span⟩, Int.le_refl _⟩
theorem Sol.run (ht : ∀ t ∈ ts, 0 ≤ t ∧ t < n) {S' : List En} {nx' : Int} {rows : List Row} (r : Run n ts S nx rows S' nx') (h : StOk es n S nx) : ∀ {B : List En}, Sol S ts B → ∃ B', Sol S' ts B' ∧ wt pr B' ≤ wt pr B := by
  induction r with
  | nil => exact fun b => ⟨_, b, Int.le_refl _⟩
  | cons hr _ ih =>
    intro B b
    obtain ⟨B1, b1, l1⟩ := b.step h ht hr
    obtain ⟨B2, b2, l2⟩ := ih (h.step hr) b1
    exact ⟨B2, b2, by omega⟩

/-! ### the start, the end -/
def startS (es : List Ed) : List En := es.mapIdx fun i e => ((i : Int), e, [(i : Int)])
theorem startS_at {i : Nat} : (startS es)[i]? = es[i]?.map fun e => ((i : Int), e, [(i : Int)]) := by
  unfold startS; rw [List.getElem?_mapIdx]
theorem startS_ed : (startS es).map ed = es := by
  refine List.ext_getElem? fun i => ?_
  rw [List.getElem?_map, startS_at]
  cases es[i]? <;> rfl
theorem startS_ok (g : ∀ e ∈ es, GoodE n e) : StOk es n (startS es) es.length := by
  have at_ : ∀ s ∈ startS es, ∃ (i : Nat) (e : Ed), es[i]? = some e ∧ s = ((i : Int), e, [(i : Int)]) := fun s hs => by
    obtain ⟨i, hi⟩ := List.mem_iff_getElem?.mp hs
    rw [startS_at] at hi
    obtain ⟨e, h1, h2⟩ := Option.map_eq_some_iff.mp hi
    exact ⟨i, e, h1, h2.symm⟩
  refine ⟨?_, fun s hs => ?_, fun s hs => ?_, fun s hs => ?_, fun s hs => ?_, fun s hs => ?_⟩
  · have : (startS es).map (·.1) = (List.range es.length).map fun i => ((i : Nat) : Int) := by
      refine List.ext_getElem? fun i => ?_
      rw [List.getElem?_map, List.getElem?_map, startS_at]
      by_cases hi : i < es.length
      · rw [List.getElem?_eq_getElem hi, List.getElem?_range hi]; rfl
      · rw [List.getElem?_eq_none (by omega), List.getElem?_eq_none (by simp; omega)]; rfl
    rw [this, List.pairwise_map]
    exact List.pairwise_lt_range.imp fun h => by omega
  all_goals
    obtain ⟨i, e, h1, rfl⟩ := at_ s hs
    have hi := (List.getElem?_eq_some_iff.mp h1).1
  · exact ⟨by simp only; omega, by simp only; omega⟩
  · exact g e (List.mem_of_getElem? h1)
  · intro o ho
    rw [List.mem_singleton.mp ho]
    omega
  · show wt (Pi es) [(i:Int)] ≤ e.2.2
    rw [wt_cons, wt_nil]
    unfold Pi Pn
    rw [Int.toNat_natCast, h1]
    simp
  · show Conn (orgE es [(i:Int)]) e.1 e.2.1
    exact .one (e := e) (by unfold orgE; simp [h1]) (.inl ⟨rfl, rfl⟩)
/-- the entries of these places -/
def entN (S : List En) (I : List Nat) : List En := I.filterMap fun i => S[i]?
theorem pick_ent (I : List Nat) : pick (S.map ed) I = (entN S I).map ed := by
  unfold pick entN
  rw [List.map_filterMap]
  simp only [List.getElem?_map]
theorem wt_ent : ∀ (I : List Nat), (∀ i ∈ I, i < S.length) → wt (Pn (S.map ed)) I = wt pr (entN S I)
  | [], _ => rfl
  | i :: r, h => by
    have hi := h i (by simp)
    have e : entN S (i :: r) = S[i] :: entN S r := by
      unfold entN
      rw [List.filterMap_cons, List.getElem?_eq_getElem hi]
    rw [e, wt_cons, wt_cons, wt_ent r fun j hj => h j (by simp [hj])]
    have : Pn (S.map ed) i = pr S[i] := by
      unfold Pn
      rw [List.getElem?_map, List.getElem?_eq_getElem hi]; rfl
    rw [this]
theorem ent_of : ∀ (B : List En), (∀ b ∈ B, b ∈ S) → ∃ I : List Nat, (∀ i ∈ I, i < S.length) ∧ entN S I = B
  | [], _ => ⟨[], by simp, rfl⟩
  | b :: r, h => by
    obtain ⟨I, h1, h2⟩ := ent_of r fun x hx => h x (by simp [hx])
    obtain ⟨i, hi⟩ := List.mem_iff_getElem?.mp (h b (by simp))
    refine ⟨i :: I, fun j hj => ?_, ?_⟩
    · rcases List.mem_cons.mp hj with z | z
      · rw [z]; exact (List.getElem?_eq_some_iff.mp hi).1
      · exact h1 j z
    · unfold entN at h2 ⊢
      rw [List.filterMap_cons, hi, h2]
theorem ent_sub {I : List Nat} : ∀ b ∈ entN S I, b ∈ S := fun b hb => by
  obtain ⟨i, _, h⟩ := List.mem_filterMap.mp hb
  exact List.mem_of_getElem? h
/-- the first network's edges that a choice stands for -/
def backI (B : List En) : List Int := B.flatMap (·.2.2)
theorem back_span (h : StOk es n S nx) {B : List En} (b : Sol S ts B) : Span (orgE es (backI B)) ts := fun p hp q hq => by
  refine Conn.sub (fun e he => ?_) (b.span p hp q hq)
  obtain ⟨s, hs, rfl⟩ := List.mem_map.mp he
  exact (h.conn s (b.sub s hs)).mono (orgE_sub fun o ho => List.mem_flatMap.mpr ⟨s, hs, ho⟩)
theorem back_price (h : StOk es n S nx) : ∀ {B : List En}, (∀ b ∈ B, b ∈ S) → wt (Pi es) (backI B) ≤ wt pr B
  | [], _ => by simp [backI, wt]
  | b :: r, hB => by
    have ih := back_price h (B := r) fun x hx => hB x (by simp [hx])
    have hb := h.price b (hB b (by simp))
    have e : backI (b :: r) = b.2.2 ++ backI r := by simp [backI]
    rw [e, wt_append, wt_cons]
    omega
theorem orgE_pick {os : List Int} : orgE es os = pick es (os.map Int.toNat) := by
  unfold orgE pick
  rw [List.filterMap_map]; rfl
theorem wt_Pi {os : List Int} : wt (Pi es) os = wt (Pn es) (os.map Int.toNat) := by
  unfold wt Pi
  rw [List.map_map]; rfl
/-- what the law asks of the two told trees -/
theorem told_same (g : ∀ e ∈ es, GoodE n e) (ht : ∀ t ∈ ts, 0 ≤ t ∧ t < n) {rows : List Row} (r : Run n ts (startS es) es.length rows S nx) {r1 r2 : Option (List Int)} (t1 : ToldOk es ts r1) (t2 : ToldOk (S.map ed) ts r2) :
    (r1 = none ∧ r2 = none) ∨ ∃ ns1 ns2, r1 = some ns1 ∧ r2 = some ns2 ∧ ∃ I : List Nat, ns2 = I.map (fun i => ((i : Nat) : Int)) ∧ (∀ i ∈ I, i < S.length) ∧
      (∀ back : List Int, back.Nodup → (∀ o, o ∈ back ↔ o ∈ backI (entN S I)) → Span (orgE es back) ts ∧ wt (Pi es) back = wt (Pi es) ns1) ∧ wt pr (entN S I) = wt (Pi es) ns1 ∧ (∀ o ∈ backI (entN S I), 0 ≤ o ∧ o < es.length) ∧ (∀ o ∈ ns1, 0 ≤ o ∧ o < es.length) := by
  have s0 := startS_ok (n := n) g
  obtain ⟨sS, _⟩ := r.ok s0
  have fwd : ∀ I : List Nat, (∀ i ∈ I, i < es.length) → Span (pick es I) ts → ∃ J : List Nat, (∀ i ∈ J, i < (S.map ed).length) ∧ Span (pick (S.map ed) J) ts ∧ wt (Pn (S.map ed)) J ≤ wt (Pn es) I := fun I hI hs => by
    have l0 : (startS es).length = es.length := by rw [← List.length_map (f := ed), startS_ed]
    have b0 : Sol (startS es) ts (entN (startS es) I) := ⟨ent_sub, by rw [← pick_ent, startS_ed]; exact hs⟩
    obtain ⟨B, b1, l1⟩ := b0.run ht r s0
    obtain ⟨J, j1, j2⟩ := ent_of B b1.sub
    refine ⟨J, by rw [List.length_map]; exact j1, by rw [pick_ent, j2]; exact b1.span, ?_⟩
    rw [wt_ent J j1, j2]
    have := wt_ent (S := startS es) I (by rw [l0]; exact hI)
    rw [startS_ed] at this
    omega
  cases r1 with
  | none =>
    cases r2 with
    | none => exact .inl ⟨rfl, rfl⟩
    | some ns2 =>
      obtain ⟨I, h1, h2, h3, h4, h5⟩ := t2
      rw [List.length_map] at h3
      refine absurd ?_ t1
      refine ⟨(backI (entN S I)).map Int.toNat, fun i hi => ?_, ?_⟩
      · obtain ⟨o, ho, rfl⟩ := List.mem_map.mp hi
        obtain ⟨s, hs, ho2⟩ := List.mem_flatMap.mp ho
        have := sS.rng s (ent_sub s hs) o ho2
        omega
      · rw [← orgE_pick]
        exact back_span sS ⟨ent_sub, by rw [← pick_ent]; exact h4⟩
  | some ns1 =>
    obtain ⟨A, a1, a2, a3, a4, a5⟩ := t1
    obtain ⟨J, j1, j2, j3⟩ := fwd A a3 a4
    cases r2 with
    | none => exact absurd ⟨J, j1, j2⟩ t2
    | some ns2 =>
      obtain ⟨I, h1, h2, h3, h4, h5⟩ := t2
      have le1 := h5 J j1 j2
      rw [List.length_map] at h3
      rw [wt_ent I h3] at le1
      have bs : Sol S ts (entN S I) := ⟨ent_sub, by rw [← pick_ent]; exact h4⟩
      have brng : ∀ o ∈ backI (entN S I), 0 ≤ o ∧ o < es.length := fun o ho => by
        obtain ⟨s, hs, ho2⟩ := List.mem_flatMap.mp ho
        exact sS.rng s (ent_sub s hs) o ho2
      have bsp := back_span sS bs
      have bpr := back_price sS (B := entN S I) ent_sub
      have PiNn : ∀ o : Int, 0 ≤ Pi es o := fun o => Pn_nn g _
      have e1 : wt (Pi es) ns1 = wt (Pn es) A := by
        rw [a1, wt_Pi, List.map_map]
        congr 1
        rw [List.map_congr_left (g := id) fun i _ => by simp]; simp
      have mins : ∀ back : List Int, (∀ o, o ∈ back ↔ o ∈ backI (entN S I)) → Span (orgE es back) ts ∧ wt (Pn es) A ≤ wt (Pi es) back := fun back hb => by
        have sp : Span (orgE es back) ts := bsp.mono (orgE_sub fun o ho => (hb o).mpr ho)
        refine ⟨sp, ?_⟩
        rw [wt_Pi]
        refine a5 _ (fun i hi => ?_) (by rw [← orgE_pick]; exact sp)
        obtain ⟨o, ho, rfl⟩ := List.mem_map.mp hi
        have := brng o ((hb o).mp ho)
        omega
      have m0 := (mins _ fun _ => Iff.rfl).2
      refine .inr ⟨ns1, ns2, rfl, rfl, I, h1, h3, fun back nd hb => ?_, by rw [e1]; omega, brng, fun o ho => ?_⟩
      · obtain ⟨sp, lo⟩ := mins back hb
        have hi := wt_le (W := Pi es) nd (fun a ha => (hb a).mp ha) fun a _ => PiNn a
        exact ⟨sp, by rw [e1]; omega⟩
      · rw [a1] at ho
        obtain ⟨i, hi, rfl⟩ := List.mem_map.mp ho
        have := a3 i hi
        omega
end
end TW
end

section
set_option Elab.async false
set_option linter.all false
set_option maxRecDepth 100000
set_option maxHeartbeats 1000000
/-! What each def promises: what is left of a network. -/
namespace TW
open PySem PySem.Spec PyProof.Rows L2 LamX NdefX StX
/-- a Rest: S its edges by number, nx the next number -/
structure RestAt (CR : Addr) (H : Hp) (r : Addr) (n : Int) (ts : List Int) (S : List En) (nx : Int) (de oa : Addr) : Prop where
  ex : ∃ dx ta ekv okv, H r = some (.ins CR dx (restF n ta de oa nx)) ∧ H ta = some (.lst (ts.map V.int)) ∧ H de = some (.dK ekv) ∧ H oa = some (.dK okv) ∧ de ≠ oa ∧
    Paired (fun (kv : Key × V) (s : En) => kv.1 = .inl s.1 ∧ RE H kv.2 s.2.1) ekv S ∧ Paired (fun (kv : Key × V) (s : En) => kv.1 = .inl s.1 ∧ RLI H kv.2 s.2.2) okv S
/-- a state that the walks meet -/
def OkS (n : Int) (S : List En) (nx : Int) : Prop := (∃ es, StOk es n S nx) ∧ S.length ≤ 40 ∧ wt ol S ≤ 40
theorem OkS.asc {n : Int} {S : List En} {nx : Int} (h : OkS n S nx) : (S.map (·.1)).Pairwise (· < ·) := h.1.choose_spec.asc
theorem OkS.step {n : Int} {S : List En} {nx : Int} {ts : List Int} {row : Row} (h : OkS n S nx) (hr : holdsB n ts S row = true) : OkS n (applyS S nx row) (nextS nx row) := by
  obtain ⟨⟨es, he⟩, l, m⟩ := h
  exact ⟨⟨es, he.step hr⟩, by have := applyS_len he hr; omega, by have := applyS_ol (nx := nx) hr; omega⟩
theorem OkS.filter {n : Int} {S : List En} {nx : Int} (h : OkS n S nx) (p : En → Bool) : OkS n (S.filter p) nx := by
  obtain ⟨⟨es, he⟩, l, m⟩ := h
  exact ⟨⟨es, he.filter p⟩, by have := List.length_filter_le p S; omega, by have := ol_filter p S; omega⟩
theorem OkS.run {n : Int} {S S' : List En} {nx nx' : Int} {ts : List Int} {rows : List Row} (h : OkS n S nx) (r : Run n ts S nx rows S' nx') : OkS n S' nx' ∧ S'.length + rows.length ≤ S.length := by
  induction r with
  | nil => exact ⟨h, Nat.le_refl _⟩
  | cons hr _ ih =>
    obtain ⟨a, b⟩ := ih (h.step hr)
    have := applyS_len h.1.choose_spec hr
    exact ⟨a, by rw [List.length_cons]; omega⟩
theorem OkS.two {n : Int} {S : List En} {nx v : Int} {a b : En} (h : OkS n S nx) (hr : ring S v = [a, b]) : a.2.2.length + b.2.2.length ≤ 40 := by
  have h1 := ol_filter (inc v) S
  have e : S.filter (inc v) = [a, b] := hr
  rw [e, wt_cons, wt_cons, wt_nil] at h1
  have := h.2.2
  unfold ol at h1 this
  omega
theorem OkS.good {n : Int} {S : List En} {nx : Int} (h : OkS n S nx) : ∀ s ∈ S, GoodE n s.2.1 := h.1.choose_spec.good
theorem OkS.key {n : Int} {S : List En} {nx : Int} (h : OkS n S nx) : ∀ s ∈ S, 0 ≤ s.1 ∧ s.1 < nx := h.1.choose_spec.key
def aroundF (S : List En) (v : Int) : List Int := (ring S v).map (·.1)
def endsF (S : List En) (v : Int) : List Int := (ring S v).map fun s => oth s v
theorem prd_mapK {R R' : V → En → Prop} : ∀ {kvs : List (Key × V)} {S : List En}, Paired (fun (kv : Key × V) (s : En) => kv.1 = .inl s.1 ∧ R kv.2 s) kvs S → (∀ v s, R v s → R' v s) → Paired (fun (kv : Key × V) (s : En) => kv.1 = .inl s.1 ∧ R' kv.2 s) kvs S
  | _, _, .nil, _ => .nil
  | _, _, .cons r t, h => .cons ⟨r.1, h _ _ r.2⟩ (prd_mapK t h)
theorem prd_keys {R : V → En → Prop} : ∀ {kvs : List (Key × V)} {S : List En}, Paired (fun (kv : Key × V) (s : En) => kv.1 = .inl s.1 ∧ R kv.2 s) kvs S → kvs.map (·.1) = (S.map (·.1)).map Sum.inl
  | _, _, .nil => rfl
  | _, _, .cons r t => by rw [List.map_cons, List.map_cons, List.map_cons, ← prd_keys t, r.1]
theorem prd_val {R : V → (TW.Ed × List Int) → Prop} : ∀ {kvs : List (Key × V)} {S : List En}, Paired (fun (kv : Key × V) (s : En) => kv.1 = .inl s.1 ∧ R kv.2 s.2) kvs S → ∀ k : Int,
    (valV kvs (.inl k) = none ∧ S.lookup k = none) ∨ ∃ v x, valV kvs (.inl k) = some v ∧ S.lookup k = some x ∧ R v x
  | _, _, .nil, k => .inl ⟨rfl, rfl⟩
  | (k0, v0) :: _, (k1, x1) :: _, .cons r t, k => by
    have e : k0 = .inl k1 := r.1
    subst e
    by_cases z : k = k1
    · subst z
      exact .inr ⟨v0, x1, valV_pos rfl, by simp [List.lookup], r.2⟩
    · have h1 : (k == k1) = false := by simp [z]
      rw [valV_neg (by simp; exact fun y => z y.symm), List.lookup_cons, h1]
      exact prd_val t k
theorem prd_drop {R : V → En → Prop} (k : Int) : ∀ {kvs : List (Key × V)} {S : List En}, Paired (fun (kv : Key × V) (s : En) => kv.1 = .inl s.1 ∧ R kv.2 s) kvs S → Paired (fun (kv : Key × V) (s : En) => kv.1 = .inl s.1 ∧ R kv.2 s) (dropK kvs (.inl k)) (S.filter fun s => decide (s.1 ≠ k))
  | _, _, .nil => .nil
  | (k0, v0) :: _, (k1, x1) :: _, .cons r t => by
    have e : k0 = .inl k1 := r.1
    subst e
    unfold dropK
    rw [List.filter_cons, List.filter_cons]
    by_cases z : k1 = k
    · rw [if_neg (by simp [z]), if_neg (by simp [z])]
      exact prd_drop k t
    · rw [if_pos (by simp [z]), if_pos (by simp [z])]
      exact .cons r (prd_drop k t)
theorem prd_snocK {R : V → En → Prop} : ∀ {kvs : List (Key × V)} {S : List En} {v : V} {s : En}, Paired (fun (kv : Key × V) (s : En) => kv.1 = .inl s.1 ∧ R kv.2 s) kvs S → R v s → Paired (fun (kv : Key × V) (s : En) => kv.1 = .inl s.1 ∧ R kv.2 s) (kvs ++ [(.inl s.1, v)]) (S ++ [s])
  | _, _, _, _, .nil, h => .cons ⟨rfl, h⟩ .nil
  | _, _, _, _, .cons r t, h => .cons r (prd_snocK t h)
section
variable {CR r de oa : Addr} {H H' : Hp} {n nx : Int} {ts : List Int} {S : List En} {TB : Tbs} {K : PySem.W.Frag}
theorem RestAt.mono (h : RestAt CR H r n ts S nx de oa) (e : ExtN H H') : RestAt CR H' r n ts S nx de oa := by
  obtain ⟨dx, ta, ekv, okv, i1, i2, i3, i4, i5, i6, i7⟩ := h.ex
  exact ⟨dx, ta, ekv, okv, e _ _ i1 (fun _ z => by cases z), e _ _ i2 (fun _ z => by cases z), e _ _ i3 (fun _ z => by cases z), e _ _ i4 (fun _ z => by cases z), i5, prd_mapK (R := fun v s => RE H v s.2.1) i6 fun v s h => mE _ _ _ _ e h, prd_mapK (R := fun v s => RLI H v s.2.2) i7 fun v s h => mLI _ _ _ _ e h⟩
theorem RestAt.offL (h : RestAt CR H r n ts S nx de oa) {l : Addr} {vs : List V} (hl : H l = some (.lst vs)) : l ∉ [r, de, oa] := by
  obtain ⟨dx, ta, ekv, okv, i1, i2, i3, i4, i5, i6, i7⟩ := h.ex
  intro z
  simp only [List.mem_cons, List.not_mem_nil, or_false] at z
  rcases z with z | z | z
  · rw [z, i1] at hl; cases hl
  · rw [z, i3] at hl; cases hl
  · rw [z, i4] at hl; cases hl
theorem RestAt.offT (h : RestAt CR H r n ts S nx de oa) {l : Addr} {vs : List V} (hl : H l = some (.tup vs)) : l ∉ [r, de, oa] := by
  obtain ⟨dx, ta, ekv, okv, i1, i2, i3, i4, i5, i6, i7⟩ := h.ex
  intro z
  simp only [List.mem_cons, List.not_mem_nil, or_false] at z
  rcases z with z | z | z
  · rw [z, i1] at hl; cases hl
  · rw [z, i3] at hl; cases hl
  · rw [z, i4] at hl; cases hl
theorem RestAt.offN {n' : Int} {a ea CN dx' : Addr} (h : RestAt CR H r n ts S nx de oa) (hl : H a = some (.ins CN dx' (netF n' ea))) : a ∉ [r, de, oa] := by
  obtain ⟨dx, ta, ekv, okv, i1, i2, i3, i4, i5, i6, i7⟩ := h.ex
  intro z
  simp only [List.mem_cons, List.not_mem_nil, or_false] at z
  rcases z with z | z | z
  · rw [z, i1] at hl
    have := (HO.ins.inj (Option.some.inj hl)).2.2
    have := congrArg List.length this
    simp at this
  · rw [z, i3] at hl; cases hl
  · rw [z, i4] at hl; cases hl
/-- sorted(self.edges) -/
theorem RestAt.sorted (h : RestAt CR H r n ts S nx de oa) (o : OkS n S nx) {Q : VK} (q : ∀ p H', H p = none → Gx TB [] H H' → H' p = some (.lst ((S.map (·.1)).map V.int)) → Q (.ref p) H') : rSortedQD [.ref de] H Q := by
  obtain ⟨dx, ta, ekv, okv, i1, i2, i3, i4, i5, i6, i7⟩ := h.ex
  refine ⟨de, ekv, S.map (·.1), rfl, Rd.of i3, prd_keys (R := fun v s => RE H v s.2.1) i6, by rw [List.length_map]; have := o.2; omega, fun ys p hp hs hn => ?_⟩
  have e : ys = S.map (·.1) := perm_sorted hp hs (o.asc.imp fun h => Int.le_of_lt h)
  rw [e]
  exact q p _ hn (Gx.refl.new hn) upd_same
theorem r_slT2 {T : Tbs} {Q : VK} {a : Addr} {u v w : V} (h : H a = some (.tup [u, v, w])) (q : ∀ p H', H p = none → Gx T [] H H' → H' p = some (.tup [u, v]) → Q (.ref p) H') : rSlT K (.ref a) none (some 2) H Q :=
  ⟨a, _, rfl, SqT.of h, (by intro z; exact absurd z.2 (by show ¬ (2 = 3); decide)), fun p hp => q p _ hp (Gx.refl.new hp) upd_same⟩
theorem r_inT2 {Q : VK} {p : Addr} {a b v : Int} (h : H p = some (.tup [.int a, .int b])) (q : Q (.bl (decide (v = a ∨ v = b))) H) : rIn K false (.int v) (.ref p) H Q :=
  r_inT (xs := [V.int a, V.int b]) (SqT.of h) rfl rfl (by
    have := inV_ints v [a, b]
    rw [show ([a, b].map V.int) = [V.int a, V.int b] from rfl] at this
    rw [this]
    have e : (decide (v ∈ [a, b])) = decide (v = a ∨ v = b) := by simp
    rw [e]; exact q)
theorem r_niT2 {Q : VK} {p : Addr} {a b v : Int} (h : H p = some (.tup [.int a, .int b])) (q : Q (.bl (!decide (v = a ∨ v = b))) H) : rIn K true (.int v) (.ref p) H Q :=
  r_niT (xs := [V.int a, V.int b]) (SqT.of h) rfl rfl (by
    have := inV_ints v [a, b]
    rw [show ([a, b].map V.int) = [V.int a, V.int b] from rfl] at this
    rw [this]
    have e : (decide (v ∈ [a, b])) = decide (v = a ∨ v = b) := by simp
    rw [e]; exact q)
end
/-- a row -/
def RRow : Hp → V → Row → Prop := fun H v row => ∃ a, v = .ref a ∧ match row with
  | .leaf x => H a = some (.tup [.str "leaf", .int x])
  | .series x => H a = some (.tup [.str "series", .int x])
  | .longer k w => ∃ wa, H a = some (.tup [.str "longer", .int k, .ref wa]) ∧ H wa = some (.lst (w.map V.int))
theorem mRow : MonoR RRow := fun H H' v row e ⟨a, h1, h2⟩ => ⟨a, h1, by
  cases row with
  | leaf x => exact e _ _ h2 fun _ z => by cases z
  | series x => exact e _ _ h2 fun _ z => by cases z
  | longer k w =>
    obtain ⟨wa, h3, h4⟩ := h2
    exact ⟨wa, e _ _ h3 (fun _ z => by cases z), e _ _ h4 fun _ z => by cases z⟩⟩
/-! ### lists and tuples stay -/
def Soft : HO → Prop
  | .lst _ => True
  | .tup _ => True
  | _ => False
def ExtS (H H' : Hp) : Prop := ∀ b o, H b = some o → Soft o → H' b = some o
def SoftR {α : Type} (R : Hp → V → α → Prop) : Prop := ∀ H H' v x, ExtS H H' → R H v x → R H' v x
theorem ExtN.soft {H H' : Hp} (e : ExtN H H') : ExtS H H' := fun b o h s => e b o h fun ps z => by rw [z] at s; exact s
theorem ExtS.trans {H H1 H2 : Hp} (a : ExtS H H1) (b : ExtS H1 H2) : ExtS H H2 := fun c o h s => b c o (a c o h s) s
theorem ExtS.lst {H H' : Hp} (e : ExtS H H') {l : Addr} {vs : List V} (h : H l = some (.lst vs)) : H' l = some (.lst vs) := e l _ h trivial
theorem ExtS.tup {H H' : Hp} (e : ExtS H H') {l : Addr} {vs : List V} (h : H l = some (.tup vs)) : H' l = some (.tup vs) := e l _ h trivial
theorem sI : SoftR RI := fun _ _ _ _ _ h => h
theorem sO : SoftR RO := fun _ _ _ _ _ h => h
theorem sE : SoftR RE := fun _ _ _ _ e ⟨a, h1, h2⟩ => ⟨a, h1, e.tup h2⟩
theorem sP : SoftR RP := fun _ _ _ _ e ⟨a, h1, h2⟩ => ⟨a, h1, e.tup h2⟩
theorem sLI : SoftR RLI := fun _ _ _ _ e ⟨a, h1, h2⟩ => ⟨a, h1, e.lst h2⟩
theorem sL {α : Type} {R : Hp → V → α → Prop} (m : SoftR R) : SoftR (RL R) := fun _ _ _ _ e ⟨a, vs, h1, h2, h3⟩ => ⟨a, vs, h1, e.lst h2, Paired.mapP h3 fun v x q => m _ _ v x e q⟩
theorem sRow : SoftR RRow := fun H H' v row e ⟨a, h1, h2⟩ => ⟨a, h1, by
  cases row with
  | leaf x => exact e.tup h2
  | series x => exact e.tup h2
  | longer k w =>
    obtain ⟨wa, h3, h4⟩ := h2
    exact ⟨wa, e.tup h3, e.lst h4⟩⟩
theorem minus_extS {H H' : Hp} {l : Addr} (e : ExtS H H') : ExtS (minus l H) (minus l H') := fun b o h n => by
  by_cases hb : b = l
  · unfold minus at h; rw [if_pos hb] at h; cases h
  · rw [minus_ne hb] at h ⊢; exact e b o h n
theorem Acc.growS {α : Type} {R : Hp → V → α → Prop} {H H' : Hp} {l : Addr} {xs : List α} (m : SoftR R) (h : Acc R l H xs) (e : ExtS H H') : Acc R l H' xs := by
  obtain ⟨vs, h1, h2⟩ := h
  exact ⟨vs, e.lst h1, Paired.mapP h2 fun v x q => m _ _ v x (minus_extS e) q⟩
theorem RestAt.extS {CR r de oa : Addr} {H H' : Hp} {n nx : Int} {ts : List Int} {S : List En} {TB : Tbs} (h : RestAt CR H r n ts S nx de oa) (G : Gx TB [r, de, oa] H H') : ExtS H H' := fun b o e s => by
  cases o with
  | lst vs => exact G.lst e (h.offL e)
  | tup vs => exact G.tup e (h.offT e)
  | _ => exact s.elim
theorem NetAt.gx {CN CR r de oa a : Addr} {H H' : Hp} {n n' nx : Int} {ts : List Int} {S : List En} {es : List TW.Ed} {TB : Tbs} (w : NetAt CN H a n' es) (h : RestAt CR H r n ts S nx de oa) (G : Gx TB [r, de, oa] H H') : NetAt CN H' a n' es := by
  obtain ⟨dx, ea, h1, h2⟩ := w
  exact ⟨dx, ea, G.ins h1 (h.offN h1), sL sE _ _ _ _ (h.extS G) h2⟩
def spm_other_end (TB : Tbs) (CN CR : Addr) : Sp := fun vs H Q _ => ∃ (r : Addr) (k v n : Int) (ts : List Int) (S : List En) (nx : Int) (de oa : Addr) (x : TW.Ed × List Int), vs = [.ref r, .int k, .int v] ∧ RestAt CR H r n ts S nx de oa ∧ S.lookup k = some x ∧ Q (.int (x.1.1 + x.1.2.1 - v)) H
def spm_around (TB : Tbs) (CN CR : Addr) : Sp := fun vs H Q _ => ∃ (r : Addr) (v n : Int) (ts : List Int) (S : List En) (nx : Int) (de oa : Addr), vs = [.ref r, .int v] ∧ RestAt CR H r n ts S nx de oa ∧ OkS n S nx ∧ ∀ p H', Gx TB [] H H' → H' p = some (.lst ((aroundF S v).map V.int)) → Q (.ref p) H'
def spm_ends_around (TB : Tbs) (CN CR : Addr) : Sp := fun vs H Q _ => ∃ (r : Addr) (v n : Int) (ts : List Int) (S : List En) (nx : Int) (de oa : Addr), vs = [.ref r, .int v] ∧ RestAt CR H r n ts S nx de oa ∧ OkS n S nx ∧ ∀ p H', Gx TB [] H H' → H' p = some (.lst ((endsF S v).map V.int)) → Q (.ref p) H'
def spm_is_inner (TB : Tbs) (CN CR : Addr) : Sp := fun vs H Q _ => ∃ (r : Addr) (v n : Int) (ts : List Int) (S : List En) (nx : Int) (de oa : Addr), vs = [.ref r, .int v] ∧ RestAt CR H r n ts S nx de oa ∧ Q (.bl (innerB n ts v)) H
def spm_is_leaf (TB : Tbs) (CN CR : Addr) : Sp := fun vs H Q _ => ∃ (r : Addr) (v n : Int) (ts : List Int) (S : List En) (nx : Int) (de oa : Addr), vs = [.ref r, .int v] ∧ RestAt CR H r n ts S nx de oa ∧ OkS n S nx ∧ ∀ H', Gx TB [] H H' → Q (.bl (leafB n ts S v)) H'
def spm_is_series (TB : Tbs) (CN CR : Addr) : Sp := fun vs H Q _ => ∃ (r : Addr) (v n : Int) (ts : List Int) (S : List En) (nx : Int) (de oa : Addr), vs = [.ref r, .int v] ∧ RestAt CR H r n ts S nx de oa ∧ OkS n S nx ∧ ∀ H', Gx TB [] H H' → Q (.bl (seriesB n ts S v)) H'
def spm_is_longer (TB : Tbs) (CN CR : Addr) : Sp := fun vs H Q _ => ∃ (r : Addr) (k : Int) (wa : Addr) (w : List Int) (n : Int) (ts : List Int) (S : List En) (nx : Int) (de oa : Addr), vs = [.ref r, .int k, .ref wa] ∧ RestAt CR H r n ts S nx de oa ∧ H wa = some (.lst (w.map V.int)) ∧ ∀ H', Gx TB [] H H' → Q (.bl (longerB S ts k w)) H'
def spm_holds (TB : Tbs) (CN CR : Addr) : Sp := fun vs H Q _ => ∃ (r : Addr) (ra : Addr) (row : Row) (n : Int) (ts : List Int) (S : List En) (nx : Int) (de oa : Addr), vs = [.ref r, .ref ra] ∧ RestAt CR H r n ts S nx de oa ∧ OkS n S nx ∧ RRow H (.ref ra) row ∧ ∀ H', Gx TB [] H H' → Q (.bl (holdsB n ts S row)) H'
def spm_drop (TB : Tbs) (CN CR : Addr) : Sp := fun vs H Q _ => ∃ (r : Addr) (k n : Int) (ts : List Int) (S : List En) (nx : Int) (de oa : Addr) (x : TW.Ed × List Int), vs = [.ref r, .int k] ∧ RestAt CR H r n ts S nx de oa ∧ S.lookup k = some x ∧ ∀ H', Gx TB [r, de, oa] H H' → RestAt CR H' r n ts (S.filter fun s => decide (s.1 ≠ k)) nx de oa → Q .non H'
def spm_join (TB : Tbs) (CN CR : Addr) : Sp := fun vs H Q _ => ∃ (r : Addr) (v n : Int) (ts : List Int) (S : List En) (nx : Int) (de oa : Addr), vs = [.ref r, .int v] ∧ RestAt CR H r n ts S nx de oa ∧ OkS n S nx ∧ seriesB n ts S v = true ∧ ∀ H', Gx TB [r, de, oa] H H' → RestAt CR H' r n ts (applyS S nx (.series v)) (nx + 1) de oa → Q .non H'
def spm_apply (TB : Tbs) (CN CR : Addr) : Sp := fun vs H Q _ => ∃ (r : Addr) (ra : Addr) (row : Row) (n : Int) (ts : List Int) (S : List En) (nx : Int) (de oa : Addr), vs = [.ref r, .ref ra] ∧ RestAt CR H r n ts S nx de oa ∧ OkS n S nx ∧ RRow H (.ref ra) row ∧ holdsB n ts S row = true ∧ ∀ H', Gx TB [r, de, oa] H H' → RestAt CR H' r n ts (applyS S nx row) (nextS nx row) de oa → Q .non H'
def spk_Rest (TB : Tbs) (CN CR : Addr) : Sp := fun vs H Q _ => ∃ (x dx a t : Addr) (n : Int) (es : List TW.Ed) (ts : List Int), vs = [.ref x, .ref a, .ref t] ∧ H x = some (.ins CR dx []) ∧ NetAt CN H a n es ∧ es.length ≤ 200 ∧ H t = some (.lst (ts.map V.int)) ∧ ∀ H' de oa, Off H de → Off H oa → Gx TB [x] H H' → RestAt CR H' x n ts (startS es) es.length de oa → Q .non H'
end TW
end

section
set_option linter.all false
/-! Plain mathematics 7: paths and their prices. -/
namespace TW
/-- a path of steps p from x to y, of price q, that does not take the edge num -/
inductive Path (S : List En) (num x : Int) : List Int → Int → Int → Prop
  | nil : Path S num x [] x 0
  | snoc {p : List Int} {y z q : Int} {s : En} : Path S num x p y q → s ∈ S → s.1 ≠ num → Joins (ed s) y z → Path S num x (p ++ [s.1]) z (q + pr s)
abbrev LabF := Int → Option (Int × List Int)
def putL (f : LabF) (k : Int) (v : Int × List Int) : LabF := fun x => if x = k then some v else f x
def dropL (f : LabF) (k : Int) : LabF := fun x => if x = k then none else f x
structure PathsOk (S : List En) (num start : Int) (lab : LabF) : Prop where
  beg : ∃ d p, lab start = some (d, p) ∧ d ≤ 0
  closed : ∀ x d p, lab x = some (d, p) → ∀ s ∈ S, s.1 ≠ num → ∀ y, Joins (ed s) x y → ∃ d' p', lab y = some (d', p') ∧ d' ≤ d + pr s
  sound : ∀ x d p, lab x = some (d, p) → Path S num start p x d
  pl : ∀ x d p, lab x = some (d, p) → p.length ≤ 40
theorem PathsOk.least {S : List En} {num start : Int} {lab : LabF} (P : PathsOk S num start lab) {p : List Int} {y q : Int} (h : Path S num start p y q) : ∃ d p', lab y = some (d, p') ∧ d ≤ q := by
  induction h with
  | nil => exact P.beg
  | snoc _ hs hn j ih =>
    obtain ⟨d, p', e, l⟩ := ih
    obtain ⟨d', p2, e2, l2⟩ := P.closed _ _ _ e _ hs hn _ j
    exact ⟨d', p2, e2, by omega⟩
section
variable {S : List En} {num start n : Int} {lab op : LabF} {C : List Int}
structure PInv (S : List En) (num start n : Int) (lab op : LabF) (C : List Int) : Prop where
  nd : C.Nodup
  rng : ∀ x, lab x ≠ none → 0 ≤ x ∧ x < n
  keys : ∀ x, lab x ≠ none ↔ x ∈ C ∨ op x ≠ none
  sub : ∀ x v, op x = some v → lab x = some v
  dis : ∀ x ∈ C, op x = none
  ord : ∀ c ∈ C, ∀ x dc pc dx px, lab c = some (dc, pc) → op x = some (dx, px) → dc ≤ dx
  beg : ∃ d p, lab start = some (d, p) ∧ d ≤ 0
  closed : ∀ c ∈ C, ∀ d p, lab c = some (d, p) → ∀ s ∈ S, s.1 ≠ num → ∀ y, Joins (ed s) c y → ∃ d' p', lab y = some (d', p') ∧ d' ≤ d + pr s
  sound : ∀ x d p, lab x = some (d, p) → Path S num start p x d
  pl : ∀ x d p, lab x = some (d, p) → p.length ≤ C.length
theorem PInv.begin (h0 : 0 ≤ start) (h1 : start < n) : PInv S num start n (putL (fun _ => none) start (0, [])) (putL (fun _ => none) start (0, [])) [] where
  nd := .nil
  rng := fun x h => by
    unfold putL at h
    split at h
    · subst x; exact ⟨h0, h1⟩
    · exact absurd rfl h
  keys := fun x => by simp
  sub := fun x v h => h
  dis := fun x h => by cases h
  ord := fun c h => by cases h
  beg := ⟨0, [], if_pos rfl, Int.le_refl _⟩
  closed := fun c h => by cases h
  sound := fun x d p h => by
    unfold putL at h
    split at h
    · cases h; subst x; exact .nil
    · cases h
  pl := fun x d p h => by
    unfold putL at h
    split at h
    · cases h; exact Nat.le_refl _
    · cases h
structure PMid (S : List En) (num start n : Int) (lab op : LabF) (C : List Int) (here d0 : Int) (p0 : List Int) (i : Nat) : Prop where
  nd : C.Nodup
  rng : ∀ x, lab x ≠ none → 0 ≤ x ∧ x < n
  hn : here ∉ C
  hx : lab here = some (d0, p0)
  ho : op here = none
  keys : ∀ x, lab x ≠ none ↔ x ∈ C ∨ x = here ∨ op x ≠ none
  sub : ∀ x v, op x = some v → lab x = some v
  dis : ∀ x ∈ C, op x = none
  le : ∀ c ∈ C, ∀ dc pc, lab c = some (dc, pc) → dc ≤ d0
  ge : ∀ x dx px, op x = some (dx, px) → d0 ≤ dx
  beg : ∃ d p, lab start = some (d, p) ∧ d ≤ 0
  closed : ∀ c ∈ C, ∀ d p, lab c = some (d, p) → ∀ s ∈ S, s.1 ≠ num → ∀ y, Joins (ed s) c y → ∃ d' p', lab y = some (d', p') ∧ d' ≤ d + pr s
  sound : ∀ x d p, lab x = some (d, p) → Path S num start p x d
  pl : ∀ x d p, lab x = some (d, p) → p.length ≤ C.length + 1
  p0l : p0.length ≤ C.length
  part : ∀ j s, j < i → (ring S here)[j]? = some s → s.1 ≠ num → ∃ d' p', lab (oth s here) = some (d', p') ∧ d' ≤ d0 + pr s
theorem PInv.mid (I : PInv S num start n lab op C) {here d0 : Int} {p0 : List Int} (hx : op here = some (d0, p0)) (hmin : ∀ x d p, op x = some (d, p) → d0 ≤ d) : PMid S num start n lab (dropL op here) C here d0 p0 0 where
  nd := I.nd
  rng := I.rng
  hn := fun z => by rw [I.dis here z] at hx; cases hx
  hx := I.sub _ _ hx
  ho := if_pos rfl
  keys := fun x => by
    rw [I.keys x]
    unfold dropL
    by_cases z : x = here
    · subst z; simp [hx]
    · simp [z]
  sub := fun x v h => by
    unfold dropL at h
    split at h
    · cases h
    · exact I.sub x v h
  dis := fun x h => by
    unfold dropL
    split
    · rfl
    · exact I.dis x h
  le := fun c hc dc pc h => I.ord c hc here dc pc d0 p0 h hx
  ge := fun x dx px h => by
    unfold dropL at h
    split at h
    · cases h
    · exact hmin x dx px h
  beg := I.beg
  closed := I.closed
  sound := I.sound
  pl := fun x d p h => Nat.le_succ_of_le (I.pl x d p h)
  p0l := I.pl _ _ _ (I.sub _ _ hx)
  part := fun j s h => absurd h (Nat.not_lt_zero _)
theorem PMid.out {here d0 : Int} {p0 : List Int} {i : Nat} (hg : ∀ s ∈ S, GoodE n s.2.1) (M : PMid S num start n lab op C here d0 p0 i) (hi : (ring S here).length ≤ i) : PInv S num start n lab op (here :: C) where
  nd := List.nodup_cons.mpr ⟨M.hn, M.nd⟩
  rng := M.rng
  keys := fun x => by rw [M.keys x, List.mem_cons, ← or_assoc, or_comm (a := x ∈ C)]
  sub := M.sub
  dis := fun x h => by
    rcases List.mem_cons.mp h with z | z
    · rw [z]; exact M.ho
    · exact M.dis x z
  ord := fun c hc x dc pc dx px h1 h2 => by
    have := M.ge x dx px h2
    rcases List.mem_cons.mp hc with z | z
    · rw [z, M.hx] at h1; cases h1; exact this
    · have := M.le c z dc pc h1; omega
  beg := M.beg
  closed := fun c hc d p h1 s hs hn y j => by
    rcases List.mem_cons.mp hc with z | z
    · rw [z] at j h1
      rw [M.hx] at h1; cases h1
      have gs := hg s hs
      have hinc : inc here s = true := decide_eq_true (by
        rcases j with ⟨j1, j2⟩ | ⟨j1, j2⟩
        · exact .inl j1.symm
        · exact .inr j2.symm)
      have hy : y = oth s here := by
        unfold oth
        unfold ed at j
        rcases j with ⟨j1, j2⟩ | ⟨j1, j2⟩ <;> omega
      have hm : s ∈ ring S here := ring_mem.mpr ⟨hs, hinc⟩
      obtain ⟨k, hk, e⟩ := List.mem_iff_getElem.mp hm
      rw [hy]
      exact M.part k s (by omega) (by rw [List.getElem?_eq_getElem hk, e]) hn
    · exact M.closed c z d p h1 s hs hn y j
  sound := M.sound
  pl := fun x d p h => by rw [List.length_cons]; exact M.pl x d p h
theorem PMid.skip {here d0 : Int} {p0 : List Int} {i : Nat} (M : PMid S num start n lab op C here d0 p0 i) {s : En} (hi : (ring S here)[i]? = some s) (h : s.1 = num ∨ ∃ d p, lab (oth s here) = some (d, p) ∧ ¬ d0 + pr s < d) : PMid S num start n lab op C here d0 p0 (i + 1) :=
  ⟨M.nd, M.rng, M.hn, M.hx, M.ho, M.keys, M.sub, M.dis, M.le, M.ge, M.beg, M.closed, M.sound, M.pl, M.p0l, fun j t hj e hn => by
    by_cases z : j = i
    · subst z
      rw [hi] at e; cases e
      rcases h with h | ⟨d, p, h1, h2⟩
      · exact absurd h hn
      · exact ⟨d, p, h1, by omega⟩
    · exact M.part j t (by omega) e hn⟩
theorem PMid.put {here d0 : Int} {p0 : List Int} {i : Nat} (hg : ∀ s ∈ S, GoodE n s.2.1) (M : PMid S num start n lab op C here d0 p0 i) {s : En} (hi : (ring S here)[i]? = some s) (hn : s.1 ≠ num) (h : ∀ d p, lab (oth s here) = some (d, p) → d0 + pr s < d) :
    PMid S num start n (putL lab (oth s here) (d0 + pr s, p0 ++ [s.1])) (putL op (oth s here) (d0 + pr s, p0 ++ [s.1])) C here d0 p0 (i + 1) := by
  obtain ⟨hs, hinc⟩ := ring_mem.mp (List.mem_of_getElem? hi)
  obtain ⟨j0, ne, o0, o1⟩ := inc_oth (hg s hs) hinc
  have p00 : 0 ≤ pr s := (hg s hs).p0
  have oC : oth s here ∉ C := fun z => by
    have : lab (oth s here) ≠ none := (M.keys _).mpr (.inl z)
    cases e : lab (oth s here) with
    | none => exact this e
    | some v =>
      have h1 := M.le _ z v.1 v.2 e
      have h2 := h v.1 v.2 e
      omega
  have low : ∀ x d p, lab x = some (d, p) → ∃ d' p', putL lab (oth s here) (d0 + pr s, p0 ++ [s.1]) x = some (d', p') ∧ d' ≤ d := fun x d p e => by
    unfold putL
    by_cases z : x = oth s here
    · subst z
      rw [if_pos rfl]
      exact ⟨_, _, rfl, Int.le_of_lt (h d p e)⟩
    · rw [if_neg z]; exact ⟨d, p, e, Int.le_refl _⟩
  have same : ∀ x, x ≠ oth s here → putL lab (oth s here) (d0 + pr s, p0 ++ [s.1]) x = lab x := fun x z => if_neg z
  have sameO : ∀ x, x ≠ oth s here → putL op (oth s here) (d0 + pr s, p0 ++ [s.1]) x = op x := fun x z => if_neg z
  have at_ : putL lab (oth s here) (d0 + pr s, p0 ++ [s.1]) (oth s here) = some (d0 + pr s, p0 ++ [s.1]) := if_pos rfl
  have atO : putL op (oth s here) (d0 + pr s, p0 ++ [s.1]) (oth s here) = some (d0 + pr s, p0 ++ [s.1]) := if_pos rfl
  refine ⟨M.nd, fun x hx => ?_, M.hn, ?_, ?_, fun x => ?_, fun x v hx => ?_, fun x hx => ?_, fun c hc dc pc hcl => ?_, fun x dx px hx => ?_, ?_, fun c hc d p hcl t ht htn y jt => ?_, fun x d p hx => ?_, fun x d p hx => ?_, M.p0l, fun j t hj e htn => ?_⟩
  · by_cases z : x = oth s here
    · rw [z]; exact ⟨o0, o1⟩
    · rw [same x z] at hx; exact M.rng x hx
  · rw [same _ (Ne.symm ne)]; exact M.hx
  · rw [sameO _ (Ne.symm ne)]; exact M.ho
  · by_cases z : x = oth s here
    · rw [z, at_, atO]; simp
    · rw [same x z, sameO x z]; exact M.keys x
  · by_cases z : x = oth s here
    · rw [z] at hx ⊢; rw [atO] at hx; rw [at_]; exact hx
    · rw [sameO x z] at hx; rw [same x z]; exact M.sub x v hx
  · rw [sameO x (fun z => oC (z ▸ hx))]; exact M.dis x hx
  · rw [same c (fun z => oC (z ▸ hc))] at hcl; exact M.le c hc dc pc hcl
  · by_cases z : x = oth s here
    · rw [z, atO] at hx; cases hx; omega
    · rw [sameO x z] at hx; exact M.ge x dx px hx
  · obtain ⟨d, p, e, l⟩ := M.beg
    obtain ⟨d', p', e', l'⟩ := low _ _ _ e
    exact ⟨d', p', e', by omega⟩
  · rw [same c (fun z => oC (z ▸ hc))] at hcl
    obtain ⟨d1, p1, e1, l1⟩ := M.closed c hc d p hcl t ht htn y jt
    obtain ⟨d', p', e', l'⟩ := low _ _ _ e1
    exact ⟨d', p', e', by omega⟩
  · by_cases z : x = oth s here
    · rw [z] at hx ⊢; rw [at_] at hx; cases hx
      exact .snoc (M.sound _ _ _ M.hx) hs hn j0
    · rw [same x z] at hx; exact M.sound x d p hx
  · by_cases z : x = oth s here
    · rw [z] at hx; rw [at_] at hx; cases hx
      have := M.p0l
      rw [List.length_append, List.length_singleton]; omega
    · rw [same x z] at hx; exact M.pl x d p hx
  · by_cases z : j = i
    · subst z
      rw [hi] at e; cases e
      exact ⟨_, _, at_, Int.le_refl _⟩
    · obtain ⟨d1, p1, e1, l1⟩ := M.part j t (by omega) e htn
      obtain ⟨d', p', e', l'⟩ := low _ _ _ e1
      exact ⟨d', p', e', by omega⟩
theorem PInv.len (I : PInv S num start n lab op C) : C.length ≤ n.toNat := by
  have h : ∀ c ∈ C, c ∈ (List.range n.toNat).map fun i => ((i : Nat) : Int) := fun c hc => by
    obtain ⟨a, b⟩ := I.rng c ((I.keys c).mpr (.inl hc))
    exact List.mem_map.mpr ⟨c.toNat, List.mem_range.mpr (by omega), by omega⟩
  have := nodup_len I.nd h
  rwa [List.length_map, List.length_range] at this
theorem PInv.out (I : PInv S num start n lab op C) (h : ∀ x, op x = none) (h40 : n ≤ 40) : PathsOk S num start lab where
  beg := I.beg
  closed := fun x d p hx => by
    have hc : x ∈ C := by
      rcases (I.keys x).mp (by rw [hx]; simp) with z | z
      · exact z
      · exact absurd (h x) z
    exact I.closed x hc d p hx
  sound := I.sound
  pl := fun x d p e => by
    have h1 := I.pl x d p e
    have h2 := I.len
    omega
theorem PMid.len {here d0 : Int} {p0 : List Int} {i : Nat} (M : PMid S num start n lab op C here d0 p0 i) : C.length < n.toNat := by
  have h : ∀ c ∈ here :: C, c ∈ (List.range n.toNat).map fun i => ((i : Nat) : Int) := fun c hc => by
    obtain ⟨a, b⟩ := M.rng c ((M.keys c).mpr (by
      rcases List.mem_cons.mp hc with z | z
      · exact .inr (.inl z)
      · exact .inl z))
    exact List.mem_map.mpr ⟨c.toNat, List.mem_range.mpr (by omega), by omega⟩
  have := nodup_len (List.nodup_cons.mpr ⟨M.hn, M.nd⟩) h
  rw [List.length_map, List.length_range, List.length_cons] at this
  omega
end

/-! ### a walk in pieces -/
/-- no walk: some vertices that no short path leaves -/
def NoWalk (S : List En) (ts : List Int) (s : En) : Prop := ∃ K : Int → Prop, K s.2.1.1 ∧ ¬ K s.2.1.2.1 ∧ ∀ here, K here → ∀ stop ∈ ts ++ [s.2.1.2.1], ∀ p q, Path S s.1 here p stop q → q ≤ pr s → K stop
/-- the walk w, from start, arrives at x with this piece behind it -/
inductive Seg (S : List En) (ts : List Int) (price num start : Int) : List Int → Int → Int → Prop
  | nil : Seg S ts price num start [] start 0
  | snoc {w : List Int} {y z c : Int} {s : En} : Seg S ts price num start w y c → s ∈ S → s.1 ≠ num → Joins (ed s) y z → c + pr s ≤ price → Seg S ts price num start (w ++ [s.1]) z (if z ∈ ts then 0 else c + pr s)
/-- what goB does on the first steps -/
theorem goB_app {S : List En} {ts : List Int} {price goal num start : Int} (ha : (S.map (·.1)).Pairwise (· < ·)) {w : List Int} {x c : Int} (g : Seg S ts price num start w x c) : ∀ r, goB S ts price goal (w ++ r) start 0 = goB S ts price goal r x c := by
  induction g with
  | nil => intro r; rfl
  | @snoc w y z c s _ hs hn j hp ih =>
    intro r
    rw [List.append_assoc, ih]
    have hl := lookup_of ha hs
    have e1 : goB S ts price goal ([s.1] ++ r) y c = match S.lookup s.1 with
      | none => false
      | some (f, _) => if y = f.1 ∨ y = f.2.1 then (if price < c + f.2.2 then false else goB S ts price goal r (f.1 + f.2.1 - y) (if f.1 + f.2.1 - y ∈ ts then 0 else c + f.2.2)) else false := rfl
    rw [e1, hl]
    have hy : y = s.2.1.1 ∨ y = s.2.1.2.1 := by
      unfold ed at j
      rcases j with ⟨j1, j2⟩ | ⟨j1, j2⟩
      · exact .inl j1.symm
      · exact .inr j2.symm
    have hz : s.2.1.1 + s.2.1.2.1 - y = z := by
      unfold ed at j
      rcases j with ⟨j1, j2⟩ | ⟨j1, j2⟩ <;> omega
    simp only
    rw [if_pos hy, hz, if_neg (by show ¬ price < c + pr s; omega)]
    rfl
theorem Seg.out {S : List En} {ts : List Int} {price num start : Int} {w : List Int} {x c : Int} (g : Seg S ts price num start w x c) : num ∉ w := by
  induction g with
  | nil => simp
  | snoc _ _ hn _ _ ih =>
    intro z
    rcases List.mem_append.mp z with y | y
    · exact ih y
    · exact hn (List.mem_singleton.mp y).symm
theorem Seg.c0 {S : List En} {ts : List Int} {price num start : Int} (hg : ∀ s ∈ S, 0 ≤ pr s) {w : List Int} {x c : Int} (g : Seg S ts price num start w x c) : 0 ≤ c := by
  induction g with
  | nil => exact Int.le_refl _
  | snoc _ hs _ _ _ ih =>
    have := hg _ hs
    split <;> omega
/-- a walk, then a short path -/
theorem Seg.path {S : List En} {ts : List Int} {price num start : Int} (hg : ∀ s ∈ S, 0 ≤ pr s) {w : List Int} {x : Int} (g : Seg S ts price num start w x 0) {p : List Int} {y q : Int} (h : Path S num x p y q) : q ≤ price → ∃ c, Seg S ts price num start (w ++ p) y c ∧ c ≤ q ∧ (y ∈ ts → p ≠ [] → c = 0) := by
  induction h with
  | nil => exact fun _ => ⟨0, by rw [List.append_nil]; exact g, Int.le_refl _, fun _ h => absurd rfl h⟩
  | @snoc p y z q s _ hs hn j ih =>
    intro hq
    have ps := hg s hs
    obtain ⟨c, g1, l1, _⟩ := ih (by omega)
    refine ⟨_, by rw [← List.append_assoc]; exact .snoc g1 hs hn j (by omega), ?_, fun ht _ => if_pos ht⟩
    have := g1.c0 hg
    split <;> omega
theorem longer_seg {S : List En} {ts : List Int} (ha : (S.map (·.1)).Pairwise (· < ·)) {s : En} (hs : s ∈ S) {w : List Int} {c : Int} (g : Seg S ts (pr s) s.1 s.2.1.1 w s.2.1.2.1 c) : longerB S ts s.1 w = true := by
  unfold longerB
  rw [lookup_of ha hs]
  have e := goB_app (goal := s.2.1.2.1) ha g []
  rw [List.append_nil] at e
  have e2 : goB S ts (pr s) s.2.1.2.1 [] s.2.1.2.1 c = decide (s.2.1.2.1 = s.2.1.2.1) := rfl
  show (!decide (s.1 ∈ w) && goB S ts (pr s) s.2.1.2.1 w s.2.1.1 0) = true
  rw [e, e2, decide_eq_false g.out]; simp
end TW
end

section
set_option linter.all false
/-! Plain mathematics 8: a walk from vertex to vertex. -/
namespace TW
abbrev WalkF := Int → Option (List Int)
def putW (f : WalkF) (k : Int) (w : List Int) : WalkF := fun x => if x = k then some w else f x
section
variable {S : List En} {ts : List Int} {sn : En} {n : Int} {f : WalkF} {W : List Int} {idx : Nat}
structure WInv (S : List En) (ts : List Int) (sn : En) (f : WalkF) (W : List Int) (idx : Nat) : Prop where
  nd : W.Nodup
  le : idx ≤ W.length
  mem : ∀ x ∈ W, x ∈ sn.2.1.1 :: (ts ++ [sn.2.1.2.1])
  keys : ∀ x, f x ≠ none ↔ x ∈ W
  beg : sn.2.1.1 ∈ W
  fine : f sn.2.1.2.1 = none → ∀ x w, f x = some w → Seg S ts (pr sn) sn.1 sn.2.1.1 w x 0
  last : ∀ w, f sn.2.1.2.1 = some w → ∃ c, Seg S ts (pr sn) sn.1 sn.2.1.1 w sn.2.1.2.1 c
  len : ∀ x w, f x = some w → w.length ≤ 40 * W.length
  done : ∀ (i : Nat) (h : Int), i < idx → W[i]? = some h → ∀ stop ∈ ts ++ [sn.2.1.2.1], ∀ p q, Path S sn.1 h p stop q → q ≤ pr sn → f stop ≠ none
theorem WInv.begin (hne : sn.2.1.1 ≠ sn.2.1.2.1) : WInv S ts sn (putW (fun _ => none) sn.2.1.1 []) [sn.2.1.1] 0 where
  nd := by simp
  le := Nat.zero_le _
  mem := fun x h => by rw [List.mem_singleton.mp h]; simp
  keys := fun x => by unfold putW; by_cases h : x = sn.2.1.1 <;> simp [h]
  beg := by simp
  fine := fun _ x w h => by
    unfold putW at h
    split at h
    · cases h; subst x; exact .nil
    · cases h
  last := fun w h => by
    unfold putW at h
    rw [if_neg (Ne.symm hne)] at h; cases h
  len := fun x w h => by
    unfold putW at h
    split at h
    · cases h; simp
    · cases h
  done := fun i h hi => absurd hi (Nat.not_lt_zero _)
theorem WInv.add (I : WInv S ts sn f W idx) (hg : ∀ s ∈ S, 0 ≤ pr s) {here stop d : Int} {w p : List Int} (hh : f here = some w) (hs : f stop = none) (hm : stop ∈ ts ++ [sn.2.1.2.1]) (hp : Path S sn.1 here p stop d) (hd : d ≤ pr sn) (hl : p.length ≤ 40) :
    WInv S ts sn (putW f stop (w ++ p)) (W ++ [stop]) idx := by
  have hne : here ≠ stop := fun z => by rw [z, hs] at hh; cases hh
  have hpn : p ≠ [] := fun z => by
    subst z
    generalize hz : ([] : List Int) = z at hp
    cases hp with
    | nil => exact hne rfl
    | snoc _ _ _ _ => simp at hz
  have hW : stop ∉ W := fun z => (I.keys stop).mpr z hs
  have same : ∀ x, x ≠ stop → putW f stop (w ++ p) x = f x := fun x z => if_neg z
  have at_ : putW f stop (w ++ p) stop = some (w ++ p) := if_pos rfl
  refine ⟨?_, by rw [List.length_append]; exact Nat.le_add_right_of_le I.le, fun x hx => ?_, fun x => ?_, by simp [I.beg], fun hn x v hx => ?_, fun v hv => ?_, fun x v hx => ?_, fun i h hi hw st hst p' q' hp' hq => ?_⟩
  · exact List.nodup_append.mpr ⟨I.nd, by simp, fun a ha b hb z => hW (by rw [List.mem_singleton.mp hb] at z; exact z ▸ ha)⟩
  · rcases List.mem_append.mp hx with z | z
    · exact I.mem x z
    · rw [List.mem_singleton.mp z]; exact List.mem_cons_of_mem _ hm
  · by_cases z : x = stop
    · rw [z, at_]; simp
    · rw [same x z, I.keys x]; simp [z]
  · by_cases zg : sn.2.1.2.1 = stop
    · rw [zg, at_] at hn; cases hn
    · rw [same _ zg] at hn
      by_cases z : x = stop
      · rw [z, at_] at hx; cases hx
        obtain ⟨c, g, l, h0⟩ := (I.fine hn _ _ hh).path hg hp hd
        have hts : stop ∈ ts := by
          rcases List.mem_append.mp hm with y | y
          · exact y
          · exact absurd (List.mem_singleton.mp y).symm zg
        rw [h0 hts hpn] at g
        rw [z]; exact g
      · rw [same x z] at hx; exact I.fine hn x v hx
  · by_cases zg : sn.2.1.2.1 = stop
    · rw [zg, at_] at hv; cases hv
      obtain ⟨c, g, _⟩ := (I.fine (by rw [zg]; exact hs) _ _ hh).path hg hp hd
      rw [zg]
      exact ⟨c, g⟩
    · rw [same _ zg] at hv; exact I.last v hv
  · rw [List.length_append, List.length_singleton]
    by_cases z : x = stop
    · rw [z, at_] at hx; cases hx
      have := I.len _ _ hh
      rw [List.length_append]; omega
    · rw [same x z] at hx
      have := I.len _ _ hx
      omega
  · by_cases z : st = stop
    · rw [z, at_]; simp
    · rw [same st z]
      have hiW : i < W.length := Nat.lt_of_lt_of_le hi I.le
      rw [List.getElem?_append_left hiW] at hw
      exact I.done i h hi hw st hst p' q' hp' hq
theorem WInv.next (I : WInv S ts sn f W idx) {here : Int} (hw : W[idx]? = some here) (h : ∀ stop ∈ ts ++ [sn.2.1.2.1], ∀ p q, Path S sn.1 here p stop q → q ≤ pr sn → f stop ≠ none) : WInv S ts sn f W (idx + 1) :=
  ⟨I.nd, (List.getElem?_eq_some_iff.mp hw).1, I.mem, I.keys, I.beg, I.fine, I.last, I.len, fun i h' hi hw' => by
    by_cases z : i = idx
    · subst z; rw [hw] at hw'; cases hw'; exact h
    · exact I.done i h' (by omega) hw'⟩
theorem WInv.size (I : WInv S ts sn f W idx) : W.length ≤ ts.length + 2 := by
  have := nodup_len I.nd I.mem
  simpa using this
theorem WInv.none (I : WInv S ts sn f W idx) (hi : W.length ≤ idx) (h : f sn.2.1.2.1 = none) : NoWalk S ts sn := by
  refine ⟨fun x => f x ≠ Option.none, (I.keys _).mpr I.beg, fun z => z h, fun here hh stop hs p q hp hq => ?_⟩
  obtain ⟨i, hi2, e⟩ := List.mem_iff_getElem.mp ((I.keys here).mp hh)
  exact I.done i here (by omega) (by rw [List.getElem?_eq_getElem hi2, e]) stop hs p q hp hq
theorem WInv.some (I : WInv S ts sn f W idx) (ha : (S.map (·.1)).Pairwise (· < ·)) (hs : sn ∈ S) {w : List Int} (h : f sn.2.1.2.1 = some w) : longerB S ts sn.1 w = true := by
  obtain ⟨c, g⟩ := I.last w h
  exact longer_seg ha hs g
end
end TW
end

section
set_option Elab.async false
set_option linter.all false
set_option maxRecDepth 100000
set_option maxHeartbeats 1000000
/-! What each def promises: paths, walks, reductions. -/
namespace TW
open PySem PySem.Spec PyProof.Rows L2 LamX NdefX StX
open Classical in
/-- what stands where nothing stood in H -/
noncomputable def newer (H A : Hp) : Hp := fun b => if ∃ o, H b = some o ∧ ∀ ps, o ≠ .tbl ps then none else A b
theorem newer_lt {H A : Hp} {b : Addr} {o : HO} (h : newer H A b = some o) : A b = some o := by
  unfold newer at h
  split at h
  · cases h
  · exact h
theorem newer_le {H A : Hp} : ExtN (newer H A) A := fun b o h _ => newer_lt h
theorem newer_off {H A : Hp} {b : Addr} (h : Off H b) : newer H A b = A b := by
  unfold newer
  rw [if_neg]
  rintro ⟨o, e, n⟩
  obtain ⟨ps, z⟩ := h o e
  exact n ps z
theorem newer_extS {H A B : Hp} (e : ExtS A B) : ExtS (newer H A) (newer H B) := fun b o h s => by
  have h2 := newer_lt h
  unfold newer at h ⊢
  split at h
  · cases h
  · rw [if_neg (by assumption)]; exact e b o h2 s
theorem newer_upd {H A : Hp} {b : Addr} {o u : HO} (h : H b = some o) (n : ∀ ps, o ≠ .tbl ps) : newer H (upd A b u) = newer H A := by
  funext c
  unfold newer
  by_cases z : c = b
  · subst z
    rw [if_pos ⟨o, h, n⟩, if_pos ⟨o, h, n⟩]
  · rw [upd_ne z]
/-- a dict of ints in [0, n), as a function -/
structure DictOf {α : Type} (R : Hp → V → α → Prop) (H : Hp) (kvs : List (Key × V)) (f : Int → Option α) (n : Int) : Prop where
  nd : (kvs.map (·.1)).Nodup
  int : ∀ p ∈ kvs, ∃ k : Int, p.1 = .inl k ∧ 0 ≤ k ∧ k < n
  val : ∀ k, (valV kvs (.inl k) = none ∧ f k = none) ∨ ∃ v x, valV kvs (.inl k) = some v ∧ f k = some x ∧ R H v x
theorem putK_keys {kvs : List (Key × V)} {k : Key} {v : V} : (putK kvs k v).map (·.1) = if valV kvs k = none then kvs.map (·.1) ++ [k] else kvs.map (·.1) := by
  unfold putK
  rw [valV_any]
  cases h : valV kvs k with
  | none => rw [if_neg (by simp), if_pos rfl, List.map_append]; rfl
  | some x =>
    rw [if_pos (by rfl), if_neg (by simp), List.map_map]
    refine List.map_congr_left fun p _ => ?_
    simp only [Function.comp]
    split <;> rfl
theorem valV_dropK (kvs : List (Key × V)) (k j : Key) : valV (dropK kvs k) j = if j = k then none else valV kvs j := by
  induction kvs with
  | nil => rw [show dropK ([] : List (Key × V)) k = [] from rfl, valV_nil]; split <;> rfl
  | cons p r ih =>
    by_cases h : p.1 = k
    · rw [dropK_pos h, ih]
      by_cases hj : j = k
      · rw [if_pos hj, if_pos hj]
      · rw [if_neg hj, if_neg hj, valV_neg (fun z => hj (z.symm.trans h))]
    · rw [dropK_neg h]
      by_cases hj : p.1 = j
      · rw [valV_pos hj, valV_pos hj, if_neg (fun z => h (hj.trans z))]
      · rw [valV_neg hj, valV_neg hj, ih]
section
variable {α : Type} {R : Hp → V → α → Prop} {H H' : Hp} {kvs : List (Key × V)} {f : Int → Option α} {n : Int}
theorem DictOf.nil : DictOf R H [] (fun _ => none) n := ⟨.nil, by simp, fun _ => .inl ⟨rfl, rfl⟩⟩
theorem DictOf.mono (m : MonoR R) (h : DictOf R H kvs f n) (e : ExtN H H') : DictOf R H' kvs f n := ⟨h.nd, h.int, fun k => (h.val k).imp id fun ⟨v, x, a, b, c⟩ => ⟨v, x, a, b, m _ _ _ _ e c⟩⟩
theorem DictOf.soft (m : SoftR R) (h : DictOf R H kvs f n) (e : ExtS H H') : DictOf R H' kvs f n := ⟨h.nd, h.int, fun k => (h.val k).imp id fun ⟨v, x, a, b, c⟩ => ⟨v, x, a, b, m _ _ _ _ e c⟩⟩
theorem DictOf.put (h : DictOf R H kvs f n) {k : Int} {v : V} {x : α} (h0 : 0 ≤ k) (h1 : k < n) (r : R H v x) : DictOf R H (putK kvs (.inl k) v) (fun y => if y = k then some x else f y) n where
  nd := by
    rw [putK_keys]
    split
    · exact List.nodup_append.mpr ⟨h.nd, by simp, fun a ha b hb e => by
        rw [List.mem_singleton.mp hb] at e
        exact valV_not (by assumption) (e ▸ ha)⟩
    · exact h.nd
  int := fun p hp => by
    have : p.1 ∈ (putK kvs (.inl k) v).map (·.1) := List.mem_map.mpr ⟨p, hp, rfl⟩
    rw [putK_keys] at this
    have key : p.1 ∈ kvs.map (·.1) → ∃ k : Int, p.1 = .inl k ∧ 0 ≤ k ∧ k < n := fun hm => by
      obtain ⟨p', hp', e⟩ := List.mem_map.mp hm
      rw [← e]; exact h.int p' hp'
    split at this
    · rcases List.mem_append.mp this with z | z
      · exact key z
      · exact ⟨k, List.mem_singleton.mp z, h0, h1⟩
    · exact key this
  val := fun y => by
    rw [valV_put]
    by_cases z : y = k
    · subst z
      rw [if_pos rfl, if_pos rfl]
      exact .inr ⟨v, x, rfl, rfl, r⟩
    · rw [if_neg (by simp [z]), if_neg z]
      exact h.val y
theorem DictOf.drop (h : DictOf R H kvs f n) (k : Int) : DictOf R H (dropK kvs (.inl k)) (fun y => if y = k then none else f y) n where
  nd := h.nd.sublist (List.Sublist.map _ List.filter_sublist)
  int := fun p hp => h.int p (dropK_mem hp)
  val := fun y => by
    rw [valV_dropK]
    by_cases z : y = k
    · subst z
      rw [if_pos rfl, if_pos rfl]; exact .inl ⟨rfl, rfl⟩
    · rw [if_neg (by simp [z]), if_neg z]; exact h.val y
theorem DictOf.len (h : DictOf R H kvs f n) : kvs.length ≤ n.toNat := by
  have h1 : ∀ x ∈ kvs.map (·.1), x ∈ (List.range n.toNat).map fun i => (Sum.inl ((i : Nat) : Int) : Key) := fun x hx => by
    obtain ⟨p, hp, rfl⟩ := List.mem_map.mp hx
    obtain ⟨k, e, a, b⟩ := h.int p hp
    exact List.mem_map.mpr ⟨k.toNat, List.mem_range.mpr (by omega), by rw [e, Int.toNat_of_nonneg a]⟩
  have := nodup_len h.nd h1
  rwa [List.length_map, List.length_map, List.length_range] at this
theorem DictOf.none (h : DictOf R H kvs f n) (h0 : kvs.length = 0) (k : Int) : f k = none := by
  have e : kvs = [] := List.length_eq_zero_iff.mp h0
  subst e
  rcases h.val k with z | ⟨v, x, a, _⟩
  · exact z.2
  · cases a
/-- a key of the dict -/
theorem DictOf.key (h : DictOf R H kvs f n) {p : Key × V} (hp : p ∈ kvs) : ∃ k x, p.1 = .inl k ∧ f k = some x ∧ 0 ≤ k ∧ k < n := by
  obtain ⟨k, e, a, b⟩ := h.int p hp
  rcases h.val k with z | ⟨v, x, e1, e2, _⟩
  · exact absurd (List.mem_map.mpr ⟨p, hp, e⟩) (valV_not z.1)
  · exact ⟨k, x, e, e2, a, b⟩
end
/-- a label: a price and a path -/
def RLab : Hp → V → Int × List Int → Prop := fun H v x => ∃ t pa, v = .ref t ∧ H t = some (.tup [.int x.1, .ref pa]) ∧ H pa = some (.lst (x.2.map V.int))
theorem mLab : MonoR RLab := fun _ _ _ _ e ⟨t, pa, h1, h2, h3⟩ => ⟨t, pa, h1, e _ _ h2 (fun _ z => by cases z), e _ _ h3 fun _ z => by cases z⟩
theorem sLab : SoftR RLab := fun _ _ _ _ e ⟨t, pa, h1, h2, h3⟩ => ⟨t, pa, h1, e.tup h2, e.lst h3⟩
theorem OkS.org {n : Int} {S : List En} {nx : Int} (h : OkS n S nx) : ∀ s ∈ S, s.2.2 ≠ [] := fun s hs z => by
  obtain ⟨⟨es, he⟩, _⟩ := h
  have c := he.conn s hs
  rw [z] at c
  exact (he.good s hs).ne (Conn.alone (fun e h => by simp [orgE] at h) c).symm
/-- a list of no ints is none of its lists -/
theorem RestAt.app {CR r de oa l : Addr} {H : Hp} {n nx : Int} {ts : List Int} {S : List En} {vs vs' : List V} (h : RestAt CR H r n ts S nx de oa) (o : OkS n S nx) (hts : ts ≠ []) (hl : H l = some (.lst vs)) (hv : ∀ v ∈ vs, ∀ i, v ≠ .int i) :
    RestAt CR (upd H l (.lst vs')) r n ts S nx de oa := by
  obtain ⟨dx, ta, ekv, okv, i1, i2, i3, i4, i5, i6, i7⟩ := h.ex
  have no : ∀ (ns : List Int) (a : Addr), ns ≠ [] → H a = some (.lst (ns.map V.int)) → a ≠ l := fun ns a hn e z => by
    rw [z, hl] at e
    have e := HO.lst.inj (Option.some.inj e)
    cases ns with
    | nil => exact hn rfl
    | cons x r => exact hv (V.int x) (by rw [e]; simp) x rfl
  have tup : ∀ (a : Addr) (us : List V), H a = some (.tup us) → a ≠ l := fun a us e z => by rw [z, hl] at e; cases e
  refine ⟨dx, ta, ekv, okv, (upd_ne (fun z : r = l => by rw [z, hl] at i1; cases i1)).trans i1, (upd_ne (no ts ta hts i2)).trans i2, (upd_ne (fun z : de = l => by rw [z, hl] at i3; cases i3)).trans i3, (upd_ne (fun z : oa = l => by rw [z, hl] at i4; cases i4)).trans i4, i5, ?_, ?_⟩
  · exact prd_mapK (R := fun v s => RE H v s.2.1) (R' := fun v s => RE _ v s.2.1) i6 fun v s ⟨a, e1, e2⟩ => ⟨a, e1, (upd_ne (tup a _ e2)).trans e2⟩
  · have key : ∀ (kvs : List (Key × V)) (L : List En), (∀ s ∈ L, s.2.2 ≠ []) → Paired (fun (kv : Key × V) (s : En) => kv.1 = .inl s.1 ∧ RLI H kv.2 s.2.2) kvs L → Paired (fun (kv : Key × V) (s : En) => kv.1 = .inl s.1 ∧ RLI (upd H l (.lst vs')) kv.2 s.2.2) kvs L := fun kvs L hL p => by
      induction p with
      | nil => exact .nil
      | @cons a b l1 l2 q _ ih =>
        obtain ⟨q1, x, e1, e2⟩ := q
        exact .cons ⟨q1, x, e1, (upd_ne (no _ x (hL b (by simp)) e2)).trans e2⟩ (ih fun s hs => hL s (by simp [hs]))
    exact key _ _ o.org i7
theorem rows_refs {H : Hp} : ∀ {vs : List V} {rows : List Row}, Paired (RRow H) vs rows → ∀ v ∈ vs, ∀ i, v ≠ .int i
  | _, _, .nil, v, h, _ => by cases h
  | _, _, .cons ⟨a, e, _⟩ t, v, h, i => by
    rcases List.mem_cons.mp h with z | z
    · rw [z, e]; exact fun y => by cases y
    · exact rows_refs t v z i
def spm_paths_from (TB : Tbs) (CN CR : Addr) : Sp := fun vs H Q _ => ∃ (r : Addr) (start num n : Int) (ts : List Int) (S : List En) (nx : Int) (de oa : Addr), vs = [.ref r, .int start, .int num] ∧ RestAt CR H r n ts S nx de oa ∧ OkS n S nx ∧ 0 ≤ start ∧ start < n ∧ n ≤ 40 ∧ Tabs TB H ∧
  ∀ p H' kvs lab, Off H p → Gx TB [] H H' → H' p = some (.dK kvs) → DictOf RLab (newer H H') kvs lab n → PathsOk S num start lab → Q (.ref p) H'
def spm_walk_for (TB : Tbs) (CN CR : Addr) : Sp := fun vs H Q _ => ∃ (r : Addr) (n : Int) (ts : List Int) (S : List En) (nx : Int) (de oa : Addr) (s : En), vs = [.ref r, .int s.1] ∧ RestAt CR H r n ts S nx de oa ∧ OkS n S nx ∧ s ∈ S ∧ (∀ t ∈ ts, 0 ≤ t ∧ t < n) ∧ ts.length ≤ 4 ∧ n ≤ 40 ∧ Tabs TB H ∧
  ∀ v H' w, Gx TB [] H H' → RON H' v w → (w = none → NoWalk S ts s) → (∀ x, w = some x → longerB S ts s.1 x = true) → Q v H'
def spm_rows_by_vertices (TB : Tbs) (CN CR : Addr) : Sp := fun vs H Q _ => ∃ (r : Addr) (n : Int) (ts : List Int) (S : List En) (nx : Int) (de oa : Addr), vs = [.ref r] ∧ RestAt CR H r n ts S nx de oa ∧ OkS n S nx ∧ n ≤ 40 ∧ 0 ≤ n ∧ ts ≠ [] ∧
  ∀ p H' rows S' nx', Gx TB [r, de, oa] H H' → RL RRow H' (.ref p) rows → RestAt CR H' r n ts S' nx' de oa → Run n ts S nx rows S' nx' → (rows = [] → ∀ v, 0 ≤ v → v < n → leafB n ts S v = false ∧ seriesB n ts S v = false) → Q (.ref p) H'
def spm_rows_by_edges (TB : Tbs) (CN CR : Addr) : Sp := fun vs H Q _ => ∃ (r : Addr) (n : Int) (ts : List Int) (S : List En) (nx : Int) (de oa : Addr), vs = [.ref r] ∧ RestAt CR H r n ts S nx de oa ∧ OkS n S nx ∧ (∀ t ∈ ts, 0 ≤ t ∧ t < n) ∧ ts.length ≤ 4 ∧ n ≤ 40 ∧ ts ≠ [] ∧ Tabs TB H ∧
  ∀ p H' rows S' nx', Gx TB [r, de, oa] H H' → RL RRow H' (.ref p) rows → RestAt CR H' r n ts S' nx' de oa → Run n ts S nx rows S' nx' → (rows = [] → ∀ s ∈ S, NoWalk S ts s) → Q (.ref p) H'
/-- no row holds any more -/
structure Full (n : Int) (ts : List Int) (S : List En) : Prop where
  vert : ∀ v, 0 ≤ v → v < n → leafB n ts S v = false ∧ seriesB n ts S v = false
  edge : ∀ s ∈ S, NoWalk S ts s
def spc_reduction (TB : Tbs) (CN CR : Addr) : Sp := fun vs H Q _ => ∃ (a t : Addr) (n : Int) (es : List TW.Ed) (ts : List Int), vs = [.ref a, .ref t] ∧ NetAt CN H a n es ∧ GoodN n es ∧ es.length ≤ 40 ∧ H t = some (.lst (ts.map V.int)) ∧ GoodT n ts ∧ Tabs TB H ∧
  ∀ p H' rows S nx, Off H p → Gx TB [] H H' → RL RRow H' (.ref p) rows → Run n ts (startS es) es.length rows S nx → Full n ts S → Q (.ref p) H'
def spc_check_reduction (TB : Tbs) (CN CR : Addr) : Sp := fun vs H Q _ => ∃ (a t l : Addr) (n : Int) (es : List TW.Ed) (ts : List Int) (rows : List Row) (S : List En) (nx : Int), vs = [.ref a, .ref t, .ref l] ∧ NetAt CN H a n es ∧ GoodN n es ∧ es.length ≤ 40 ∧ H t = some (.lst (ts.map V.int)) ∧ GoodT n ts ∧
  RL RRow H (.ref l) rows ∧ Run n ts (startS es) es.length rows S nx ∧ ∀ H', Gx TB [] H H' → Q (.bl true) H'
def spc_rest_of (TB : Tbs) (CN CR : Addr) : Sp := fun vs H Q _ => ∃ (a t l : Addr) (n : Int) (es : List TW.Ed) (ts : List Int) (rows : List Row) (S : List En) (nx : Int), vs = [.ref a, .ref t, .ref l] ∧ NetAt CN H a n es ∧ GoodN n es ∧ es.length ≤ 40 ∧ H t = some (.lst (ts.map V.int)) ∧ GoodT n ts ∧
  RL RRow H (.ref l) rows ∧ Run n ts (startS es) es.length rows S nx ∧ ∀ p H' b o, Gx TB [] H H' → H' p = some (.tup [.ref b, .ref o]) → NetAt CN H' b n (S.map ed) → RL RLI H' (.ref o) (S.map (·.2.2)) → Q (.ref p) H'
def spc_lead_back (TB : Tbs) (CN CR : Addr) : Sp := fun vs H Q _ => ∃ (oa na : Addr) (os : List (List Int)) (ns : List Int), vs = [.ref oa, .ref na] ∧ RL RLI H (.ref oa) os ∧ H na = some (.lst (ns.map V.int)) ∧ (∀ k ∈ ns, 0 ≤ k ∧ k < os.length) ∧ ns.Nodup ∧ os.length ≤ 40 ∧ wt (fun o => (o.length : Int)) os ≤ 40 ∧ (∀ o ∈ os, ∀ x ∈ o, 0 ≤ x ∧ x < 40) ∧
  ∀ p H' (back : List Int), Gx TB [] H H' → H' p = some (.lst (back.map V.int)) → back.Pairwise (· < ·) → (∀ x, x ∈ back ↔ ∃ k ∈ ns, ∃ o, os[k.toNat]? = some o ∧ x ∈ o) → Q (.ref p) H'
end TW
end

section
set_option Elab.async false
set_option linter.all false
set_option maxRecDepth 100000
set_option maxHeartbeats 1000000
/-! What each def promises: the law's own. -/
namespace TW
open PySem PySem.Spec PyProof.Rows L2 LamX NdefX StX
def REn : Hp → V → En → Prop := fun H v s => ∃ t te lo, v = .ref t ∧ H t = some (.tup [.ref te, .ref lo]) ∧ H te = some (.tup [.int s.2.1.1, .int s.2.1.2.1, .int s.2.1.2.2]) ∧ H lo = some (.lst (s.2.2.map V.int))
theorem mEn : MonoR REn := fun _ _ _ _ e ⟨t, te, lo, h1, h2, h3, h4⟩ => ⟨t, te, lo, h1, e _ _ h2 (fun _ z => by cases z), e _ _ h3 (fun _ z => by cases z), e _ _ h4 fun _ z => by cases z⟩
theorem sEn : SoftR REn := fun _ _ _ _ e ⟨t, te, lo, h1, h2, h3, h4⟩ => ⟨t, te, lo, h1, e.tup h2, e.tup h3, e.lst h4⟩
/-- the law's own account of what is left -/
def LeftAt (H : Hp) (d : Addr) (S : List En) : Prop := ∃ kvs, H d = some (.dK kvs) ∧ Paired (fun (kv : Key × V) (s : En) => kv.1 = .inl s.1 ∧ REn H kv.2 s) kvs S
theorem LeftAt.mono {H H' : Hp} {d : Addr} {S : List En} (h : LeftAt H d S) (e : ExtN H H') : LeftAt H' d S := by
  obtain ⟨kvs, h1, h2⟩ := h
  exact ⟨kvs, e _ _ h1 (fun _ z => by cases z), prd_mapK h2 fun v s q => mEn _ _ _ _ e q⟩
theorem prd_valS {R : V → En → Prop} : ∀ {kvs : List (Key × V)} {S : List En}, Paired (fun (kv : Key × V) (s : En) => kv.1 = .inl s.1 ∧ R kv.2 s) kvs S → ∀ k : Int,
    (valV kvs (.inl k) = none ∧ S.lookup k = none) ∨ ∃ v x, valV kvs (.inl k) = some v ∧ S.lookup k = some x ∧ R v (k, x)
  | _, _, .nil, k => .inl ⟨rfl, rfl⟩
  | (k0, v0) :: _, (k1, x1) :: _, .cons r t, k => by
    have e : k0 = .inl k1 := r.1
    subst e
    by_cases z : k = k1
    · subst z
      exact .inr ⟨v0, x1, valV_pos rfl, by simp [List.lookup], r.2⟩
    · have h1 : (k == k1) = false := by simp [z]
      rw [valV_neg (by simp; exact fun y => z y.symm), List.lookup_cons, h1]
      exact prd_valS t k
/-- one entry of it -/
theorem LeftAt.at {H : Hp} {d : Addr} {S : List En} (h : LeftAt H d S) (k : Int) : ∃ kvs, H d = some (.dK kvs) ∧ ((valV kvs (.inl k) = none ∧ S.lookup k = none) ∨ ∃ t te lo x, valV kvs (.inl k) = some (.ref t) ∧ S.lookup k = some x ∧ H t = some (.tup [.ref te, .ref lo]) ∧ H te = some (.tup [.int x.1.1, .int x.1.2.1, .int x.1.2.2]) ∧ H lo = some (.lst (x.2.map V.int))) := by
  obtain ⟨kvs, h1, h2⟩ := h
  refine ⟨kvs, h1, (prd_valS h2 k).imp id ?_⟩
  rintro ⟨v, x, a, b, t, te, lo, rfl, c1, c2, c3⟩
  exact ⟨t, te, lo, x, a, b, c1, c2, c3⟩
theorem LeftAt.sorted {H : Hp} {d : Addr} {S : List En} {n nx : Int} {TB : Tbs} (h : LeftAt H d S) (o : OkS n S nx) {Q : VK} (q : ∀ p H', H p = none → Gx TB [] H H' → H' p = some (.lst ((S.map (·.1)).map V.int)) → Q (.ref p) H') : rSortedQD [.ref d] H Q := by
  obtain ⟨kvs, h1, h2⟩ := h
  refine ⟨d, kvs, S.map (·.1), rfl, Rd.of h1, prd_keys h2, by rw [List.length_map]; have := o.2; omega, fun ys p hp hs hn => ?_⟩
  have e : ys = S.map (·.1) := perm_sorted hp hs (o.asc.imp fun h => Int.le_of_lt h)
  rw [e]
  exact q p _ hn (Gx.refl.new hn) upd_same
theorem SqL.gx {T : Tbs} {K : PySem.W.Frag} {H H' : Hp} {a : Addr} {xs : List V} (h : SqL K H a xs) (g : Gx T [] H H') : SqL K H' a xs := h.imp (fun h => h.imp (fun h => g.extN _ _ h fun _ z => by cases z) fun ⟨o, h⟩ => ⟨o, g.extN _ _ h fun _ z => by cases z⟩) id
def spc__law_numbers (TB : Tbs) (CN CR : Addr) (K : PySem.W.Frag) : Sp := fun vs H Q _ => ∃ (a : Addr) (xs : List Int), vs = [.ref a, .int 60] ∧ SqL K H a (xs.map V.int) ∧
  ∀ p H' (ns : List Int), Gx TB [] H H' → H' p = some (.lst (ns.map V.int)) → ns.length = 60 → (∀ x ∈ ns, 0 ≤ x ∧ x < 65536) → Q (.ref p) H'
def spc__law_edges (TB : Tbs) (CN CR : Addr) : Sp := fun vs H Q _ => ∃ (a : Addr) (ns : List Int) (n m : Int), vs = [.ref a, .int 10, .int n, .int m] ∧ H a = some (.lst (ns.map V.int)) ∧ ns.length = 60 ∧ (∀ x ∈ ns, 0 ≤ x ∧ x < 65536) ∧ 1 ≤ n ∧ n ≤ 8 ∧ 0 ≤ m ∧ m ≤ 12 ∧
  ∀ p H' (es : List TW.Ed), Gx TB [] H H' → RL RE H' (.ref p) es → es.length ≤ 12 → (∀ e ∈ es, GoodE n e) → Q (.ref p) H'
def spc__law_picked (TB : Tbs) (CN CR : Addr) : Sp := fun vs H Q _ => ∃ (a : Addr) (ns : List Int) (n m : Int), vs = [.ref a, .int 40, .int n, .int m] ∧ H a = some (.lst (ns.map V.int)) ∧ ns.length = 60 ∧ (∀ x ∈ ns, 0 ≤ x ∧ x < 65536) ∧ 1 ≤ n ∧ n ≤ 8 ∧ 1 ≤ m ∧ m ≤ 4 ∧ m ≤ n ∧
  ∀ p H' (ts : List Int), Gx TB [] H H' → H' p = some (.lst (ts.map V.int)) → GoodT n ts → Q (.ref p) H'
def spc__law_reach (TB : Tbs) (CN CR : Addr) : Sp := fun vs H Q _ => ∃ (ea ca : Addr) (start : Int) (es : List TW.Ed) (ch : List Int), vs = [.ref ea, .ref ca, .int start, .bl false] ∧ RL RE H (.ref ea) es ∧ H ca = some (.lst (ch.map V.int)) ∧ (∀ k ∈ ch, 0 ≤ k ∧ k < es.length) ∧ ch.length ≤ 40 ∧
  ∀ p H' (fd : List Int), Gx TB [] H H' → H' p = some (.lst (fd.map V.int)) → (∀ b, Conn (orgE es ch) start b → b ∈ fd) → Q (.ref p) H'
def spc__law_end (TB : Tbs) (CN CR : Addr) : Sp := fun vs H Q _ => ∃ (d : Addr) (k v : Int) (S : List En) (x : TW.Ed × List Int), vs = [.ref d, .int k, .int v] ∧ LeftAt H d S ∧ S.lookup k = some x ∧ Q (.int (x.1.1 + x.1.2.1 - v)) H
def spc__law_around (TB : Tbs) (CN CR : Addr) : Sp := fun vs H Q _ => ∃ (d : Addr) (v n : Int) (S : List En) (nx : Int), vs = [.ref d, .int v] ∧ LeftAt H d S ∧ OkS n S nx ∧ ∀ p H', Gx TB [] H H' → H' p = some (.lst ((aroundF S v).map V.int)) → Q (.ref p) H'
def spc__law_walks (TB : Tbs) (CN CR : Addr) : Sp := fun vs H Q _ => ∃ (d t : Addr) (k : Int) (wa : Addr) (S : List En) (ts w : List Int), vs = [.ref d, .ref t, .int k, .ref wa] ∧ LeftAt H d S ∧ H t = some (.lst (ts.map V.int)) ∧ H wa = some (.lst (w.map V.int)) ∧ ∀ H', Gx TB [] H H' → Q (.bl (longerB S ts k w)) H'
def spc__law_holds (TB : Tbs) (CN CR : Addr) : Sp := fun vs H Q _ => ∃ (n : Int) (d t ra : Addr) (S : List En) (nx : Int) (ts : List Int) (row : Row), vs = [.int n, .ref d, .ref t, .ref ra] ∧ LeftAt H d S ∧ OkS n S nx ∧ H t = some (.lst (ts.map V.int)) ∧ RRow H (.ref ra) row ∧ ∀ H', Gx TB [] H H' → Q (.bl (holdsB n ts S row)) H'
def spc__law_applied (TB : Tbs) (CN CR : Addr) : Sp := fun vs H Q _ => ∃ (d ra : Addr) (nx n : Int) (S : List En) (ts : List Int) (row : Row), vs = [.ref d, .int nx, .ref ra] ∧ LeftAt H d S ∧ OkS n S nx ∧ RRow H (.ref ra) row ∧ holdsB n ts S row = true ∧ ∀ p H', Gx TB [] H H' → LeftAt H' p (applyS S nx row) → Q (.ref p) H'
def spc__law_begun (TB : Tbs) (CN CR : Addr) : Sp := fun vs H Q _ => ∃ (ea : Addr) (es : List TW.Ed), vs = [.ref ea] ∧ RL RE H (.ref ea) es ∧ es.length ≤ 40 ∧ ∀ p H', Gx TB [] H H' → LeftAt H' p (startS es) → Q (.ref p) H'
def spc__law_run (TB : Tbs) (CN CR : Addr) : Sp := fun vs H Q _ => ∃ (n : Int) (ea t l : Addr) (es : List TW.Ed) (ts : List Int) (rows : List Row) (S : List En) (nx : Int), vs = [.int n, .ref ea, .ref t, .ref l] ∧ RL RE H (.ref ea) es ∧ GoodN n es ∧ es.length ≤ 40 ∧ H t = some (.lst (ts.map V.int)) ∧ RL RRow H (.ref l) rows ∧ Run n ts (startS es) es.length rows S nx ∧
  ∀ p H' d, Gx TB [] H H' → H' p = some (.tup [.non, .ref d]) → LeftAt H' d S → Q (.ref p) H'
def spc__law_near (TB : Tbs) (CN CR : Addr) : Sp := fun vs H Q _ => ∃ (d : Addr) (start num n : Int) (S : List En) (nx : Int), vs = [.ref d, .int start, .int num] ∧ LeftAt H d S ∧ OkS n S nx ∧ 0 ≤ start ∧ start < n ∧ n ≤ 40 ∧
  ∀ p H' kvs (f : Int → Option Int), Gx TB [] H H' → H' p = some (.dK kvs) → DictOf RI H' kvs f n → (∀ x q, f x = some q → ∃ w, Path S num start w x q) → Q (.ref p) H'
def spc__law_needless (TB : Tbs) (CN CR : Addr) : Sp := fun vs H Q _ => ∃ (d t : Addr) (n : Int) (S : List En) (nx : Int) (ts : List Int) (s : En), vs = [.ref d, .ref t, .int s.1] ∧ LeftAt H d S ∧ OkS n S nx ∧ H t = some (.lst (ts.map V.int)) ∧ (∀ t ∈ ts, 0 ≤ t ∧ t < n) ∧ ts.length ≤ 4 ∧ n ≤ 40 ∧ s ∈ S ∧ NoWalk S ts s ∧ ∀ H', Gx TB [] H H' → Q (.bl false) H'
end TW
end

section
set_option Elab.async false
set_option linter.all false
set_option maxRecDepth 100000
set_option maxHeartbeats 1000000
/-! The law: data that is compared, the promise. -/
namespace TW
open PySem PySem.Spec PyProof.Rows L2 LamX NdefX StX
theorem isiQ {X : Cx} {K : PySem.W.Frag} (hK : X.K = K := by rfl) : CallR X (.builtin "isinstance") (rIsi K) := by subst hK; exact call_isi
def edD (e : TW.Ed) : PyData := .tuple [.int e.1, .int e.2.1, .int e.2.2]
theorem edD_lay (e : TW.Ed) : (edD e).canLay0 = true := by simp [edD, PyData.canLay0, PyData.canLayAll0]
theorem edD_depth (e : TW.Ed) : (edD e).depth = 1 := by simp [edD, PyData.depth, PyData.depthAll]
theorem edDs_lay : ∀ zs : List TW.Ed, PyData.canLayAll0 (zs.map edD) = true
  | [] => by simp [PyData.canLayAll0]
  | z :: zs => by simp [PyData.canLayAll0, edD_lay z, edDs_lay zs]
theorem edDs_depth : ∀ zs : List TW.Ed, PyData.depthAll (zs.map edD) ≤ 1
  | [] => by simp [PyData.depthAll]
  | z :: zs => by
    have h1 := edDs_depth zs
    have h2 := edD_depth z
    simp only [List.map_cons, PyData.depthAll]
    omega
theorem edDs_shaped (zs : List TW.Ed) : SeqAt.shaped (.list (zs.map edD)) = true := by
  have h1 := edDs_depth zs
  have h2 : PyData.depth (.list (zs.map edD)) ≤ 64 := by
    simp only [PyData.depth]
    omega
  show (PyData.canLay0 (.list (zs.map edD)) && decide (PyData.depth (.list (zs.map edD)) ≤ 64)) = true
  rw [Bool.and_eq_true]
  exact ⟨by simp only [PyData.canLay0]; exact edDs_lay zs, decide_eq_true h2⟩
theorem edDs_eqv (zs : List TW.Ed) : PyData.eqv (.list (zs.map edD)) (.list (zs.map edD)) = true := PySem.SeqAt.eqv_refl _ (by simp only [PyData.canLay0]; exact edDs_lay zs)
theorem dp_es {K : PySem.W.Frag} {H : Hp} : ∀ {vs : List V} {es : List TW.Ed}, Paired (RE H) vs es → DpAll K H vs (es.map edD)
  | _, _, .nil => .nil
  | _, _, .cons ⟨a, e, h⟩ t => by
    subst e
    exact .cons (.tup (SqT.of h) (.cons (.int _) (.cons (.int _) (.cons (.int _) .nil)))) (dp_es t)
theorem ints_lay : ∀ zs : List Int, PyData.canLayAll0 (zs.map PyData.int) = true
  | [] => by simp [PyData.canLayAll0]
  | z :: zs => by simp [PyData.canLayAll0, PyData.canLay0, ints_lay zs]
theorem ints_depth : ∀ zs : List Int, PyData.depthAll (zs.map PyData.int) ≤ 0
  | [] => by simp [PyData.depthAll]
  | z :: zs => by
    have h1 := ints_depth zs
    simp only [List.map_cons, PyData.depthAll, PyData.depth]
    omega
theorem ints_shaped (zs : List Int) : SeqAt.shaped (.list (zs.map PyData.int)) = true := by
  have h1 := ints_depth zs
  have h2 : PyData.depth (.list (zs.map PyData.int)) ≤ 64 := by
    simp only [PyData.depth]
    omega
  show (PyData.canLay0 (.list (zs.map PyData.int)) && decide (PyData.depth (.list (zs.map PyData.int)) ≤ 64)) = true
  rw [Bool.and_eq_true]
  exact ⟨by simp only [PyData.canLay0]; exact ints_lay zs, decide_eq_true h2⟩
theorem ints_eqv (zs : List Int) : PyData.eqv (.list (zs.map PyData.int)) (.list (zs.map PyData.int)) = true := PySem.SeqAt.eqv_refl _ (by simp only [PyData.canLay0]; exact ints_lay zs)
theorem dp_ints {K : PySem.W.Frag} {H : Hp} : ∀ (zs : List Int), DpAll K H (zs.map V.int) (zs.map PyData.int)
  | [] => .nil
  | z :: r => .cons (.int z) (dp_ints r)
section
variable {K : PySem.W.Frag} {H : Hp} {Q : VK}
theorem r_isB {a b : Bool} (q : Q (.bl (decide (a = b))) H) : rIsB (.bl a) (.bl b) H Q := ⟨a, b, rfl, rfl, q⟩
theorem r_notB {a b : Bool} (q : Q (.bl (!decide (a = b))) H) : rNotB (.bl a) (.bl b) H Q := ⟨a, b, rfl, rfl, q⟩
theorem r_isiList {p : Addr} {xs : List V} (h : H p = some (.lst xs)) (q : Q (.bl true) H) : rIsi K [.ref p, .ty "list"] H Q :=
  ⟨_, _, .type "list", .type "list", true, rfl, .ty "list", .base (.lst h), by unfold PySem.W.kitOne; simp, q⟩
end
theorem priceOf_wt (es : List TW.Ed) (ns : List Int) : priceOf es ns = wt (Pi es) ns := rfl
def spc_law (TB : Tbs) (CN CR : Addr) (K : PySem.W.Frag) : Sp := fun vs H Q _ => ∃ (a : Addr) (xs : List Int), vs = [.ref a] ∧ SqL K H a (xs.map V.int) ∧ Tabs TB H ∧ ∀ H', Gx TB [] H H' → Q (.bl true) H'
end TW
end

section
set_option Elab.async false
set_option linter.all false
set_option maxRecDepth 100000
set_option maxHeartbeats 1000000
set_option exponentiation.threshold 600
namespace TW
open PySem PySem.Spec PyProof.Rows L2 LamX NdefX StX
variable {P : Program} {w : World} {K : PySem.W.Frag} {mg : Str → Option Value} {base : Heap} {CN CR : Addr} {TB : Tbs}
local macro_rules | `(tactic| walk_at "s1") => `(tactic| first
  | with_reducible refine r_seq ?_
  | with_reducible refine r_set ?_
  | with_reducible refine r_var (by with_unfolding_all rfl) ?_
  | with_reducible refine r_c ?_
  | with_reducible refine r_op ?_
  | with_reducible refine r_cons ?_
  | with_reducible refine r_nil ?_
  | with_reducible refine r_I0 ?_
  | with_reducible refine r_test ?_
  | with_reducible refine r_blk ?_
  | with_reducible refine r_ifT ?_
  | with_reducible refine r_ifF ?_
  | with_reducible refine r_ifNT ?_
  | with_reducible refine r_ifNF ?_
  | with_reducible refine r_aug (by with_unfolding_all rfl) ?_
  | with_reducible refine r_ipI ?_
  | with_reducible refine r_ifs0 ?_
  | with_reducible refine r_ifs1 ?_
  | with_reducible refine r_ifsN ?_
  | with_reducible refine r_ifsS ?_
  | with_reducible refine r_if ?_
  | with_reducible refine r_fld ?_
  | with_reducible refine r_fldC (by assumption) (by assumption) (by assumption) (by first | exact lkN_size | exact lkN_edges | exact lkR_size | exact lkR_terminals | exact lkR_edges | exact lkR_origins | exact lkR_next) ?_
  | with_reducible refine r_eqI ?_
  | with_reducible refine r_neI ?_
  | with_reducible refine r_eqS ?_
  | with_reducible refine r_cl ?_
  | with_reducible refine r_cb ?_
  | with_reducible refine r_mt ?_
  | with_reducible refine r_mtAt (by assumption) (by first | exact lkN_msize | exact lkN_medges | exact lkR_around | exact lkR_other_end | exact lkR_ends_around | exact lkR_is_inner | exact lkR_is_leaf | exact lkR_is_series | exact lkR_is_longer | exact lkR_holds | exact lkR_drop | exact lkR_join | exact lkR_apply | exact lkR_paths_from | exact lkR_walk_for | exact lkR_rows_by_vertices | exact lkR_rows_by_edges) ?_
  | with_reducible refine r_dget ?_
  | with_reducible refine r_ret ?_
  | with_reducible refine r_nx ?_
  | with_reducible refine r_yes ?_
  | with_reducible refine r_drop ?_
  | with_reducible refine r_asg ?_
  | with_reducible refine r_gN ?_
  | with_reducible refine r_gT3 (by assumption) (by with_unfolding_all rfl) ?_
  | with_reducible refine r_gT2 (by assumption) (by with_unfolding_all rfl) ?_
  | with_reducible refine r_or ?_
  | with_reducible refine r_and ?_
  | with_reducible refine r_not ?_
  | with_reducible refine r_andV ?_
  | with_reducible refine r_orV ?_
  | with_reducible refine r_notV ?_
  | with_reducible refine r_chain ?_
  | with_reducible refine r_ifE ?_
  | with_reducible refine r_B ?_
  | with_reducible refine r_tup ?_
  | with_reducible refine r_lst ?_
  | with_reducible refine r_sl ?_
  | with_reducible refine r_noP ?_
  | with_reducible refine r_part ?_
  | with_reducible refine r_intC ?_
  | with_reducible refine r_din ?_
  | with_reducible refine r_dni ?_
  | with_reducible refine r_iL ?_
  | with_reducible refine r_iT ?_
  | with_reducible refine r_iR1 ?_
  | with_reducible refine r_iR2 ?_
  | with_reducible refine r_un ?_
  | with_reducible refine r_U ?_
  | with_reducible refine r_sFld ?_
  | with_reducible refine r_sFldAug ?_
  | with_reducible refine r_dput ?_
  | with_reducible refine r_ddel ?_
  | with_reducible refine r_bm ?_
  | with_reducible refine r_for ?_
  | with_reducible refine r_lc ?_
  | with_reducible refine r_dc ?_
  | with_reducible refine r_subset ?_
  | with_reducible refine r_intI ?_
  | with_reducible refine r_intB ?_
  | with_reducible refine r_absI ?_
  | with_reducible refine r_min2I ?_
  | with_reducible refine r_mk ?_
  | with_reducible refine r_star ?_
  | with_reducible refine r_starAt (by assumption) ?_
  | with_reducible refine r_pop1 ?_
  | with_reducible refine r_popAt (by assumption) ?_
  | with_reducible refine r_get1 ?_
  | with_reducible refine r_minK ?_
  | with_reducible refine r_lstRg ?_
  | with_reducible refine r_rg1 ?_
  | with_reducible refine r_eqN ?_
  | with_reducible refine r_lenI (by assumption) ?_
  | with_reducible refine r_lenH (by assumption) ?_
  | with_reducible refine r_ix0 (by assumption) ?_
  | with_reducible refine r_ix1 (by assumption) ?_
  | with_reducible refine r_ix2 (by assumption) ?_
  | with_reducible refine r_I (by first | decide | (unfold CPow; omega) | (unfold CDiv; omega) | (unfold CMul; omega) | omega) ?_
  | with_reducible refine r_iR1At (by omega) ?_
  | with_reducible refine r_ifP (by first | omega | exact rfl) ?_
  | with_reducible refine r_ifQ (by first | omega | with_unfolding_all decide) ?_
  | with_reducible refine r_ifNP (by omega) ?_
  | with_reducible refine r_ifNQ (by omega) ?_)
local macro_rules | `(tactic| walk_at "st") => `(tactic| repeat walk_at "s1")

theorem sc_check_edge : FnScope ["size", "edge", "number", "u", "v", "price"] ["size", "edge", "number"] (defScope s_check_edge) := ⟨rfl, rfl, rfl, by decide +kernel, rfl, by decide +kernel, by decide +kernel⟩
theorem ok_c_check_edge {f : Addr} {fd : FuncData} (T : Tx K mg CN CR) (F : FnP K "check_edge" "check_edge" s_check_edge f fd)
   : FnOk P w K mg base CX0 1 f fd ["size", "edge", "number"] (spc_check_edge TB CN CR) := by
  refine F.ok (k := 0) sc_check_edge (fun vs H Q E h => by obtain ⟨n, e, k, x, rfl, _⟩ := h; rfl) (fun cdv A outer s H vs Q E hr h => ?_)
  have hu := hu_of hr
  have z1 := T.clN
  have z2 := T.clR
  have z3 := T.a_size
  have z4 := T.a_edges
  have z5 := T.r_size
  have z6 := T.r_terminals
  have z7 := T.r_edges
  have z8 := T.r_origins
  have z9 := T.r_next
  obtain ⟨n, e, k, x, rfl, h⟩ := h
  refine ⟨_, PSs.nox (pss_cons (ps_asg (pv 1) (gT (K := K) (pgs_cons (pg_name (i := 3) sc_check_edge.nd rfl (Or.inl rfl)) (pgs_cons (pg_name (i := 4) sc_check_edge.nd rfl (Or.inl rfl)) (pgs_cons (pg_name (i := 5) sc_check_edge.nd rfl (Or.inl rfl)) pgs_nil)))))
    (pss_cons (ps_if (PW.pt (pw_or (pt_not (pt_chain op_le op_lt pe_int (pv 3) (pv 0))) (pw_or (pt_not (pt_chain op_le op_lt pe_int (pv 4) (pv 0))) (pw_or1 (pt_cmpR op_eq (pv 3) (pv 4) (nomark _)))))) (pss_one ps_never) pss_nil)
    (pss_one (ps_if (pt_not (pt_chain op_le op_le pe_int (pv 5) (pe_gi rfl T.c_MOST_PRICE))) (pss_one ps_never) pss_nil)))), ?_⟩
  obtain ⟨h1, h2, q⟩ := h
  obtain ⟨g1, g2, g3, g4, g5, g6, g7⟩ := h2
  walk_at "st"
  exact q

theorem sc_Network_init : FnScope ["self", "size", "edges", "number"] ["self", "size", "edges"] (defScope sN_init) := ⟨rfl, rfl, rfl, by decide +kernel, rfl, by decide +kernel, by decide +kernel⟩
theorem ok_k_Network {f : Addr} {fd : FuncData} (T : Tx K mg CN CR) (F : FnP K "__init__" "Network.__init__" sN_init f fd)
  (c_check_edge : Cal P w K mg base 1 "check_edge" ["size", "edge", "number"] (spc_check_edge TB CN CR)) : FnOk P w K mg base CX0 2 f fd ["self", "size", "edges"] (spk_Network TB CN CR) := by
  refine F.ok (k := 1) sc_Network_init (fun vs H Q E h => by obtain ⟨x, dx, n, ea, es, rfl, _⟩ := h; rfl) (fun cdv A outer s H vs Q E hr h => ?_)
  have hu := hu_of hr
  have z1 := T.clN
  have z2 := T.clR
  have z3 := T.a_size
  have z4 := T.a_edges
  have z5 := T.r_size
  have z6 := T.r_terminals
  have z7 := T.r_edges
  have z8 := T.r_origins
  have z9 := T.r_next
  obtain ⟨x, dx, n, ea, es, rfl, h⟩ := h
  refine ⟨_, PSs.nox (pss_cons (ps_if (pt_not (pt_chain op_le op_le pe_int (pv 1) (pe_gi rfl T.c_MOST_VERTICES))) (pss_one ps_never) pss_nil)
    (pss_cons (ps_if (pt_cmpR op_gt (pe_callB (lenQ (K := K)) (by rfl) T.n_len (by decide +kernel) (pa_cons (pv 2) pa_nil)) (pe_gi rfl T.c_MOST_EDGES) (nomark _)) (pss_one ps_never) pss_nil)
    (pss_cons (ps_for PassesOwn.never rfl (pi_range1 (by rfl) T.n_range (pa_cons (pe_callB (lenQ (K := K)) (by rfl) T.n_len (by decide +kernel) (pa_cons (pv 2) pa_nil)) pa_nil)) (pg_name (i := 3) sc_Network_init.nd rfl (Or.inl rfl))
      (pss_one (ps_expr (pe_c c_check_edge (hr.mono (by decide)) rfl (pa_cons (pv 1) (pa_cons (pe_ix (ixL (K := K)) (pv 2) (pv 3) (fun _ _ => rfl)) (pa_cons (pv 3) pa_nil)))))))
    (pss_cons (sFl (K := K) (pv 0) (pv 1))
    (pss_one (sFl (K := K) (pv 0) (pe_callTy (listQ (K := K)) (by rfl) T.n_list (by decide +kernel) (pa_cons (pv 2) pa_nil)))))))), ?_⟩
  obtain ⟨h1, h2, h3, q⟩ := h
  obtain ⟨vl, h4, h5⟩ := h2.lst
  obtain ⟨g1, g2, g3, g4⟩ := h3
  have hl := prd_len h5
  have hx : ea ≠ x := fun z => by rw [z, h1] at h4; cases h4
  walk_at "st"
  refine for_range (fun i σ H' => ∃ o, σ = [some (V.ref x), some (V.int n), some (V.ref ea), o] ∧ H' = H) ⟨_, rfl, rfl⟩ (fun i σ H' hi ⟨o, e1, e2⟩ => ?_) fun σ H' ⟨o, e1, e2⟩ => ?_
  · subst e1 e2
    have hi2 : i < es.length := by omega
    obtain ⟨v, h6, e, h7, h8⟩ := prd_get h5 (List.getElem?_eq_getElem hi2)
    walk_at "st"
    refine r_ixL (SqL.of h4) (at_nat (by omega) (by rw [show ((0:Int) + (i:Int)).toNat = i by omega]; exact h6)) ?_
    walk_at "st"
    subst h7
    exact ⟨n, e, _, es[i], rfl, h8, g4 _ (List.getElem_mem hi2), _, rfl, rfl⟩
  · subst e1 e2
    walk_at "st"
    refine r_sFldAt h1 z1 z3 (by simp) ?_
    walk_at "st"
    have G0 : Gx TB [x] H' (upd H' x (.ins CN dx (putF "_size" (V.int n) []))) := Gx.refl.mut (by simp) h1 trivial
    refine r_listH (T := TB) (G0.lst h4 (by simp [hx])) fun l H2 hl2 G1 hp => ?_
    walk_at "st"
    have e5 : H2 x = some (.ins CN dx (putF "_size" (V.int n) [])) := G1.ins upd_same
    refine r_sFldAt e5 z1 z4 (by simp [putF]) ?_
    have G2 := (G0.call G1).mut (o := .ins CN dx (putF "_edges" (V.ref l) (putF "_size" (V.int n) []))) (by simp) e5 trivial
    refine q _ G2 ⟨dx, l, upd_same, l, vl, rfl, ?_, ?_⟩
    · rw [upd_ne (fun z : l = x => by rw [z, e5] at hp; cases hp)]; exact hp
    · refine Paired.mapP h5 fun v e ⟨a, q1, q2⟩ => ⟨a, q1, G2.tup q2 (by
        simp only [List.mem_singleton]
        exact fun z => by rw [z, h1] at q2; cases q2)⟩

theorem sc_Network_size : FnScope ["self"] ["self"] (defScope sN_size) := ⟨rfl, rfl, rfl, by decide +kernel, rfl, by decide +kernel, by decide +kernel⟩
theorem ok_mN_size {f : Addr} {fd : FuncData} (T : Tx K mg CN CR) (F : FnP K "size" "Network.size" sN_size f fd)
   : FnOk P w K mg base CX0 1 f fd ["self"] (spmN_size TB CN CR) := by
  refine F.ok (k := 0) sc_Network_size (fun vs H Q E h => by obtain ⟨a, n, es, rfl, _⟩ := h; rfl) (fun cdv A outer s H vs Q E hr h => ?_)
  have hu := hu_of hr
  have z1 := T.clN
  have z2 := T.clR
  have z3 := T.a_size
  have z4 := T.a_edges
  have z5 := T.r_size
  have z6 := T.r_terminals
  have z7 := T.r_edges
  have z8 := T.r_origins
  have z9 := T.r_next
  obtain ⟨a, n, es, rfl, h⟩ := h
  refine ⟨_, PSs.nox (pss_one (ps_ret (fld (K := K) (pv 0)))), ?_⟩
  obtain ⟨h1, q⟩ := h
  obtain ⟨dx, ea, h2, h3⟩ := h1
  walk_at "st"
  exact q

theorem sc_Network_edges : FnScope ["self"] ["self"] (defScope sN_edges) := ⟨rfl, rfl, rfl, by decide +kernel, rfl, by decide +kernel, by decide +kernel⟩
theorem ok_mN_edges {f : Addr} {fd : FuncData} (T : Tx K mg CN CR) (F : FnP K "edges" "Network.edges" sN_edges f fd)
   : FnOk P w K mg base CX0 1 f fd ["self"] (spmN_edges TB CN CR) := by
  refine F.ok (k := 0) sc_Network_edges (fun vs H Q E h => by obtain ⟨a, n, es, rfl, _⟩ := h; rfl) (fun cdv A outer s H vs Q E hr h => ?_)
  have hu := hu_of hr
  have z1 := T.clN
  have z2 := T.clR
  have z3 := T.a_size
  have z4 := T.a_edges
  have z5 := T.r_size
  have z6 := T.r_terminals
  have z7 := T.r_edges
  have z8 := T.r_origins
  have z9 := T.r_next
  obtain ⟨a, n, es, rfl, h⟩ := h
  refine ⟨_, PSs.nox (pss_one (ps_ret (pe_callTy (listQ (K := K)) (by rfl) T.n_list (by decide +kernel) (pa_cons (fld (K := K) (pv 0)) pa_nil)))), ?_⟩
  obtain ⟨h1, q⟩ := h
  obtain ⟨dx, ea, h2, h3⟩ := h1
  obtain ⟨vl, h4, h5⟩ := h3.lst
  walk_at "st"
  refine r_listH (T := TB) h4 fun l H' hl G hp => ?_
  exact q l H' hl G ⟨l, vl, rfl, hp, prd_mono mE G.extN h5⟩

theorem sc_check_terminals : FnScope ["network", "terminals", "most", "k"] ["network", "terminals", "most"] (defScope s_check_terminals) := ⟨rfl, rfl, rfl, by decide +kernel, rfl, by decide +kernel, by decide +kernel⟩
theorem ok_c_check_terminals {f : Addr} {fd : FuncData} (T : Tx K mg CN CR) (F : FnP K "check_terminals" "check_terminals" s_check_terminals f fd)
  (mN_size : CalM P w K mg base 1 CN "size" ["self"] (spmN_size TB CN CR)) : FnOk P w K mg base CX0 2 f fd ["network", "terminals", "most"] (spc_check_terminals TB CN CR) := by
  refine F.ok (k := 1) sc_check_terminals (fun vs H Q E h => by obtain ⟨a, t, n, es, ts, rfl, _⟩ := h; rfl) (fun cdv A outer s H vs Q E hr h => ?_)
  have hu := hu_of hr
  have z1 := T.clN
  have z2 := T.clR
  have z3 := T.a_size
  have z4 := T.a_edges
  have z5 := T.r_size
  have z6 := T.r_terminals
  have z7 := T.r_edges
  have z8 := T.r_origins
  have z9 := T.r_next
  obtain ⟨a, t, n, es, ts, rfl, h⟩ := h
  refine ⟨_, PSs.nox (pss_cons (ps_if (pt_not (pt_chain op_le op_le pe_int (pe_callB (lenQ (K := K)) (by rfl) T.n_len (by decide +kernel) (pa_cons (pv 1) pa_nil)) (pv 2))) (pss_one ps_never) pss_nil)
    (pss_one (ps_for PassesOwn.never rfl (pi_range1 (by rfl) T.n_range (pa_cons (pe_callB (lenQ (K := K)) (by rfl) T.n_len (by decide +kernel) (pa_cons (pv 1) pa_nil)) pa_nil)) (pg_name (i := 3) sc_check_terminals.nd rfl (Or.inl rfl))
      (pss_one (ps_if (PW.pt (pw_or (pt_not (pt_chain op_le op_lt pe_int (pe_ix (ixL (K := K)) (pv 1) (pv 3) (fun _ _ => rfl)) (pe_m0 mN_size (pv 0) T.clN (hr.mono (by decide))))) (pw_or1 (pt_cmpR (inL (K := K)) (pe_ix (ixL (K := K)) (pv 1) (pv 3) (fun _ _ => rfl)) (pe_slice (slL (K := K)) (pv 1) po_none (po_some (pv 3))) (by rfl))))) (pss_one ps_never) pss_nil))))), ?_⟩
  obtain ⟨h1, h2, h3, q⟩ := h
  obtain ⟨dx, ea, h4, h5⟩ := id h1
  obtain ⟨g1, g2, g3, g4⟩ := h3
  walk_at "st"
  refine for_range (fun i σ H' => ∃ o, σ = [some (V.ref a), some (V.ref t), some (V.int 8), o] ∧ Gx TB [] H H') ⟨_, rfl, Gx.refl⟩ (fun i σ H' hi ⟨o, e1, G⟩ => ?_) fun σ H' ⟨o, e1, G⟩ => q _ G
  subst e1
  have hi2 : i < ts.length := by omega
  have k4 := G.ins h4
  have k2 := G.lst h2
  obtain ⟨g5, g6⟩ := g3 _ (List.getElem_mem hi2)
  have at1 : atI (ts.map V.int) (0 + (i:Int)) = some (V.int ts[i]) := at_ints (by omega) (by rw [show ((0:Int) + (i:Int)).toNat = i by omega]; exact List.getElem?_eq_getElem hi2)
  walk_at "st"
  refine r_ixL (SqL.of k2) at1 ?_
  walk_at "st"
  refine ⟨a, n, es, rfl, h1.mono G.extN, ?_⟩
  walk_at "st"
  refine r_ixL (SqL.of k2) at1 ?_
  walk_at "st"
  refine r_slL (T := TB) (SqL.of k2) fun l H2 hl G2 k5 => ?_
  have e5 : cutV (ts.map V.int) none (some (0 + (i:Int))) = (ts.take i).map V.int := by
    rw [cut_to _ i (by omega), List.map_take]
  rw [e5] at k5
  refine r_inI (SqL.of k5) ?_
  have e6 : ts[i] ∉ ts.take i := fun z => by
    obtain ⟨j, hj, e7⟩ := List.mem_take_iff_getElem.mp z
    have := (List.getElem_inj g4).mp e7
    omega
  walk_at "st"
  exact ⟨_, rfl, G.trans G2⟩

theorem sc_weight : FnScope ["number", "price", "tie"] ["number", "price"] (defScope s_weight) := ⟨rfl, rfl, rfl, by decide +kernel, rfl, by decide +kernel, by decide +kernel⟩
theorem ok_c_weight {f : Addr} {fd : FuncData} (T : Tx K mg CN CR) (F : FnP K "weight" "weight" s_weight f fd)
   : FnOk P w K mg base CX0 1 f fd ["number", "price"] (spc_weight TB CN CR) := by
  refine F.ok (k := 0) sc_weight (fun vs H Q E h => by obtain ⟨n, p, rfl, _⟩ := h; rfl) (fun cdv A outer s H vs Q E hr h => ?_)
  have hu := hu_of hr
  have z1 := T.clN
  have z2 := T.clR
  have z3 := T.a_size
  have z4 := T.a_edges
  have z5 := T.r_size
  have z6 := T.r_terminals
  have z7 := T.r_edges
  have z8 := T.r_origins
  have z9 := T.r_next
  obtain ⟨n, p, rfl, h⟩ := h
  refine ⟨_, PSs.nox (pss_cons (ps_set (i := 2) sc_weight.nd rfl (Or.inl rfl) (pe_op op_sub (pe_op op_shl pe_int (pe_gi rfl T.c_TIE_BITS)) (pe_op op_shl pe_int (pe_op op_sub (pe_gi rfl T.c_TIE_BITS) (pv 0)))))
    (pss_one (ps_ret (pe_op op_add (pe_op op_add (pe_op op_shl (pv 1) (pe_gi rfl T.c_PRICE_SHIFT)) (pe_op op_shl pe_int (pe_gi rfl T.c_COUNT_SHIFT))) (pv 2))))), ?_⟩
  obtain ⟨h1, h2, h3, h4, q⟩ := h
  walk_at "st"
  refine r_qI q ?_
  unfold Wt
  simp

theorem sc_price_of : FnScope ["network", "numbers", "edges", "number"] ["network", "numbers"] (defScope s_price_of) := ⟨rfl, rfl, rfl, by decide +kernel, rfl, by decide +kernel, by decide +kernel⟩
theorem ok_c_price_of {f : Addr} {fd : FuncData} (T : Tx K mg CN CR) (F : FnP K "price_of" "price_of" s_price_of f fd)
  (mN_edges : CalM P w K mg base 1 CN "edges" ["self"] (spmN_edges TB CN CR)) : FnOk P w K mg base CX0 2 f fd ["network", "numbers"] (spc_price_of TB CN CR) := by
  refine F.ok (k := 1) sc_price_of (fun vs H Q E h => by obtain ⟨a, p, n, es, ns, rfl, _⟩ := h; rfl) (fun cdv A outer s H vs Q E hr h => ?_)
  have hu := hu_of hr
  have z1 := T.clN
  have z2 := T.clR
  have z3 := T.a_size
  have z4 := T.a_edges
  have z5 := T.r_size
  have z6 := T.r_terminals
  have z7 := T.r_edges
  have z8 := T.r_origins
  have z9 := T.r_next
  obtain ⟨a, p, n, es, ns, rfl, h⟩ := h
  refine ⟨_, PSs.nox (pss_cons (ps_set (i := 2) sc_price_of.nd rfl (Or.inr rfl) (pe_m0 mN_edges (pv 0) T.clN (hr.mono (by decide))))
    (pss_one (ps_ret (pe_callB (sumQ (K := K)) (by rfl) T.n_sum (by decide +kernel) (pa_cons (pe_lc (own := [("number", 3)]) (by rfl) sc_price_of.nd (iL (K := K) (pv 1)) (blkOk_by (own := [("number", 3)]) (N := ["network", "numbers", "edges", "number"]) (sc := defScope s_price_of) (by decide +kernel)) (fun _ _ _ _ _ => pg_name (i := 3) sc_price_of.nd rfl (Or.inl rfl)) (fun _ _ _ _ _ => pts_nil) (fun _ _ _ _ _ => (pe_ix (ixT (K := K)) (pe_ix (ixL (K := K)) (pv 2) (pv 3) (fun _ _ => rfl)) pe_int (fun _ _ => rfl)))) pa_nil))))), ?_⟩
  obtain ⟨h1, h2, h3, h4, h5, q⟩ := h
  obtain ⟨dx, ea, h6, h7⟩ := id h1
  walk_at "st"
  refine ⟨a, n, es, rfl, h1, fun l H1 _ G1 r1 => ?_⟩
  walk_at "st"
  have h3' := G1.lst h3
  obtain ⟨vs, h8, h9⟩ := r1.lst
  refine r_iLH h3' fun D hD => lc_listR (T := TB) (R := RI) (F := RI) mI mI (fun k => some ((es[k.toNat]?.map (·.2.2)).getD 0)) hD h3' (ints_prd ns) (by rw [sizeLine_eq]; omega) (fun k v H2 N KY hk hv G2 _ hne hy hn => ?_) fun H2 G2 r2 => ?_
  · subst hv
    obtain ⟨k0, k1⟩ := h4 k hk
    have hk2 : k.toNat < es.length := by omega
    obtain ⟨u, e1, e, e2, e3⟩ := prd_get h9 (List.getElem?_eq_getElem hk2)
    have e4 := G2.tup e3
    subst e2
    walk_at "st"
    refine ⟨rfl, ?_⟩
    walk_at "st"
    refine r_ixL (SqL.of (G2.lst h8)) (at_nat k0 e1) ?_
    walk_at "st"
    refine hy _ _ _ (by rw [List.getElem?_eq_getElem hk2]; rfl) Gx.refl rfl
  · walk_at "st"
    refine r_sum (SqL.of r2.ints) ?_
    refine r_qI (q _ (G1.trans G2)) ?_
    simp [priceOf]

theorem sc_edges_of : FnScope ["label", "low", "count", "bits", "number"] ["label"] (defScope s_edges_of) := ⟨rfl, rfl, rfl, by decide +kernel, rfl, by decide +kernel, by decide +kernel⟩
theorem ok_c_edges_of {f : Addr} {fd : FuncData} (T : Tx K mg CN CR) (F : FnP K "edges_of" "edges_of" s_edges_of f fd)
   : FnOk P w K mg base CX0 1 f fd ["label"] (spc_edges_of TB CN CR) := by
  refine F.ok (k := 0) sc_edges_of (fun vs H Q E h => by obtain ⟨l, p, c, t, rfl, _⟩ := h; rfl) (fun cdv A outer s H vs Q E hr h => ?_)
  have hu := hu_of hr
  have z1 := T.clN
  have z2 := T.clR
  have z3 := T.a_size
  have z4 := T.a_edges
  have z5 := T.r_size
  have z6 := T.r_terminals
  have z7 := T.r_edges
  have z8 := T.r_origins
  have z9 := T.r_next
  obtain ⟨l, p, c, t, rfl, h⟩ := h
  refine ⟨_, PSs.nox (pss_cons (ps_set (i := 1) sc_edges_of.nd rfl (Or.inl rfl) (pe_op op_and (pv 0) (pe_op op_sub (pe_op op_shl pe_int (pe_gi rfl T.c_PRICE_SHIFT)) pe_int)))
    (pss_cons (ps_set (i := 2) sc_edges_of.nd rfl (Or.inl rfl) (pe_op op_shr (pv 1) (pe_gi rfl T.c_COUNT_SHIFT)))
    (pss_cons (ps_set (i := 3) sc_edges_of.nd rfl (Or.inr rfl) (pe_op op_sub (pe_op op_mul (pv 2) (pe_op op_shl pe_int (pe_gi rfl T.c_TIE_BITS))) (pe_op op_and (pv 1) (pe_op op_sub (pe_op op_shl pe_int (pe_gi rfl T.c_COUNT_SHIFT)) pe_int))))
    (pss_one (ps_ret (pe_lc (own := [("number", 4)]) (by rfl) sc_edges_of.nd (pi_range1 (by rfl) T.n_range (pa_cons (pe_op op_add (pe_gi rfl T.c_TIE_BITS) pe_int) pa_nil)) (blkOk_by (own := [("number", 4)]) (N := ["label", "low", "count", "bits", "number"]) (sc := defScope s_edges_of) (by decide +kernel)) (fun _ _ _ _ _ => pg_name (i := 4) sc_edges_of.nd rfl (Or.inl rfl)) (fun _ _ _ _ _ => pts_one (pt_cmpR op_eq (pe_op op_and (pe_op op_shr (pv 3) (pe_op op_sub (pe_gi rfl T.c_TIE_BITS) (pv 4))) pe_int) pe_int (nomark _))) (fun _ _ _ _ _ => (pv 4)))))))), ?_⟩
  obtain ⟨e1, g1, g2, g3, g4, g5, q⟩ := h
  have e2 : Builtin.bitAnd l (1 * 2 ^ Int.toNat 440 - 1) = c * 2 ^ 220 + t := by
    have h1 : (1 : Int) * 2 ^ Int.toNat 440 - 1 = 2 ^ 440 - 1 := by rw [Int.one_mul]; rfl
    rw [h1, PySem.W.kbt_mask, e1]
    omega
  have e3 : (c * 2 ^ 220 + t) / 2 ^ Int.toNat 220 = c := by
    have h1 : (2 : Int) ^ Int.toNat 220 = 2 ^ 220 := rfl
    rw [h1]
    omega
  have e4 : Builtin.bitAnd (c * 2 ^ 220 + t) (1 * 2 ^ Int.toNat 220 - 1) = t := by
    have h1 : (1 : Int) * 2 ^ Int.toNat 220 - 1 = 2 ^ 220 - 1 := by rw [Int.one_mul]; rfl
    rw [h1, PySem.W.kbt_mask]
    omega
  have e5 : c * (2 * 2 ^ Int.toNat 200) - t = c * 2 ^ 201 - t := by
    have h1 : (2 : Int) * 2 ^ Int.toNat 200 = 2 ^ 201 := rfl
    rw [h1]
  walk_at "st"
  rw [e2, e3]
  refine r_I (.inl ⟨by omega, by omega⟩) ?_
  walk_at "st"
  rw [e4, e5]
  generalize c * 2 ^ 201 - t = b at *
  refine fun D hD => lc_rangeR (T := TB) (R := RI) mI (fun i => if b / 2 ^ (200 - i) % 2 = 1 then some (i : Int) else none) hD (by rw [sizeLine_eq]; decide) (fun i H2 N KY hi G2 _ hne hy hn => ?_) fun H2 G2 r2 => q _ _ G2 r2.ints
  have hi2 : i < 201 := hi
  have e6 : ((200 : Int) - (0 + (i : Int))).toNat = 200 - i := by omega
  walk_at "st"
  refine ⟨rfl, ?_⟩
  walk_at "st"
  rw [e6, bitAnd_m1]
  refine ifD (fun hb => ?_) fun hb => ?_
  · walk_at "st"
    exact hy i _ _ (by rw [if_pos hb]) Gx.refl (by rw [Int.zero_add]; rfl)
  · exact hn _ (by rw [if_neg hb]) Gx.refl

theorem sc_parts_of : FnScope ["group", "found", "part"] ["group"] (defScope s_parts_of) := ⟨rfl, rfl, rfl, by decide +kernel, rfl, by decide +kernel, by decide +kernel⟩
theorem ok_c_parts_of {f : Addr} {fd : FuncData} (T : Tx K mg CN CR) (F : FnP K "parts_of" "parts_of" s_parts_of f fd)
   : FnOk P w K mg base CX0 1 f fd ["group"] (spc_parts_of TB CN CR) := by
  refine F.ok (k := 0) sc_parts_of (fun vs H Q E h => by obtain ⟨g, rfl, _⟩ := h; rfl) (fun cdv A outer s H vs Q E hr h => ?_)
  have hu := hu_of hr
  have z1 := T.clN
  have z2 := T.clR
  have z3 := T.a_size
  have z4 := T.a_edges
  have z5 := T.r_size
  have z6 := T.r_terminals
  have z7 := T.r_edges
  have z8 := T.r_origins
  have z9 := T.r_next
  obtain ⟨g, rfl, h⟩ := h
  refine ⟨_, PSs.nox (pss_cons (ps_set (i := 1) sc_parts_of.nd rfl (Or.inl rfl) (pe_lst pa_nil))
    (pss_cons (ps_set (i := 2) sc_parts_of.nd rfl (Or.inl rfl) (pe_op op_and (pe_op op_sub (pv 0) pe_int) (pv 0)))
    (pss_cons (ps_while PassesOwn.never (pt_cmpR op_gt (pv 2) pe_int (nomark _))
      (pss_cons (ps_if (pt_cmpR op_gt (pv 2) (pe_op op_xor (pv 0) (pv 2)) (nomark _)) (pss_one (ps_expr (bm (K := K) (pe_bm PySem.F.plainAttrs_list PySem.F.slot_list_append PySem.F.type_list_append mt_append (pv 1) (pa_cons (pe_tup (pa_cons (pv 2) (pa_cons (pe_op op_xor (pv 0) (pv 2)) pa_nil))) pa_nil))))) pss_nil)
    (pss_one (ps_set (i := 2) sc_parts_of.nd rfl (Or.inl rfl) (pe_op op_and (pe_op op_sub (pv 2) pe_int) (pv 0))))))
    (pss_one (ps_ret (pv 1)))))), ?_⟩
  obtain ⟨g1, g2, q⟩ := h
  walk_at "st"
  refine ⟨by decide, fun p hp => ?_⟩
  have G1 : Gx TB [] H (upd H p (.lst [])) := Gx.refl.new hp
  have k1 : Acc RP p (upd H p (.lst [])) [] := Acc.start
  generalize upd H p (.lst []) = H1 at *
  walk_at "st"
  refine while_by (fun σ H2 => ∃ (F : List (Int × Int)) (part : Int) (k : Nat), σ = [some (V.int g), some (V.ref p), some (V.int part)] ∧ Gx TB [p] H H2 ∧ Acc RP p H2 F ∧ 0 ≤ part ∧ part ≤ k ∧ F ++ pgo k g part = partsF g ∧ F.length + part < g)
    (fun σ _ => match σ with | [_, _, some (.int part)] => part.toNat | _ => 0) ⟨[], pstep g g, g.toNat, rfl, G1.mono (by simp), k1, (pstep_le (by omega)).1, by have := (pstep_le (g := g) (p := g) (by omega)).2; omega, rfl, by have := (pstep_le (g := g) (p := g) (by omega)).2; simp; omega⟩ (fun σ H2 ⟨F, part, k, e1, G2, A, p0, pk, eF, lF⟩ => ?_) (fun σ H2 Q1 Q2 m z => ?_)
  · subst e1
    walk_at "st"
    refine ifD (fun hb => ?_) fun hb => ?_
    · obtain ⟨k', rfl⟩ : ∃ k', k = k' + 1 := ⟨k - 1, by omega⟩
      have e3 : pgo (k' + 1) g part = pone g part ++ pgo k' g (pstep g part) := if_pos hb
      have e4 := pstep_le (g := g) (p := part) (by omega)
      have e5 : Builtin.bitAnd (part - 1) g = pstep g part := rfl
      rw [e3] at eF
      walk_at "st"
      refine ifD (fun hx => ?_) fun hx => ?_
      · have e6 : pone g part = [(part, Builtin.bitXor g part)] := if_pos hx
        walk_at "st"
        obtain ⟨vs, k2, k3⟩ := id A
        refine ⟨tyV_lst k2, ?_⟩
        walk_at "st"
        refine ⟨by simp [sizeLine_eq], fun t ht => ?_⟩
        have ne : p ≠ t := fun z => by rw [z, ht] at k2; cases k2
        have G3 := G2.new (o := .tup [V.int part, V.int (Builtin.bitXor g part)]) ht
        have k4 := A.new mP (o := .tup [V.int part, V.int (Builtin.bitXor g part)]) ht
        have k5 : (upd H2 t (.tup [V.int part, V.int (Builtin.bitXor g part)])) t = _ := upd_same
        have k6 : (upd H2 t (.tup [V.int part, V.int (Builtin.bitXor g part)])) p = some (.lst vs) := by rw [upd_ne ne]; exact k2
        generalize upd H2 t (.tup [V.int part, V.int (Builtin.bitXor g part)]) = H3 at *
        walk_at "st"
        refine r_append k6 (by have := prd_len k3; rw [sizeLine_eq]; omega) ?_
        walk_at "st"
        rw [e6] at eF
        refine ⟨⟨F ++ [(part, Builtin.bitXor g part)], pstep g part, k', rfl, G3.mut (by simp) k6 trivial, k4.push k6 ⟨t, rfl, ?_⟩, e4.1, by omega, by rw [List.append_assoc]; exact eF, by simp; omega⟩, ?_⟩
        · rw [minus_ne (Ne.symm ne)]; exact k5
        · show (pstep g part).toNat < part.toNat
          omega
      · have e6 : pone g part = [] := if_neg hx
        rw [e6] at eF
        walk_at "st"
        refine ⟨⟨F, pstep g part, k', rfl, G2, A, e4.1, by omega, eF, by omega⟩, ?_⟩
        show (pstep g part).toNat < part.toNat
        omega
    · have e3 : pgo k g part = [] := by
        cases k with
        | zero => rfl
        | succ k => exact if_neg hb
      rw [e3, List.append_nil] at eF
      walk_at "st"
      exact q _ _ (G2.drop (Off.none hp)) (eF ▸ A.out mP)
  · obtain ⟨v, h, i, j, e1, e2, k, e3, z⟩ := z
    exact ⟨v, h, i, j, e1, e2, k, e3, m _ _ z⟩

theorem sc_joined : FnScope ["table", "group", "vertex", "best", "one", "two", "label"] ["table", "group", "vertex"] (defScope s_joined) := ⟨rfl, rfl, rfl, by decide +kernel, rfl, by decide +kernel, by decide +kernel⟩
theorem ok_c_joined {f : Addr} {fd : FuncData} (T : Tx K mg CN CR) (F : FnP K "joined" "joined" s_joined f fd)
  (c_parts_of : Cal P w K mg base 1 "parts_of" ["group"] (spc_parts_of TB CN CR)) : FnOk P w K mg base CX0 2 f fd ["table", "group", "vertex"] (spc_joined TB CN CR) := by
  refine F.ok (k := 1) sc_joined (fun vs H Q E h => by obtain ⟨ta, g, v, tb, rfl, _⟩ := h; rfl) (fun cdv A outer s H vs Q E hr h => ?_)
  have hu := hu_of hr
  have z1 := T.clN
  have z2 := T.clR
  have z3 := T.a_size
  have z4 := T.a_edges
  have z5 := T.r_size
  have z6 := T.r_terminals
  have z7 := T.r_edges
  have z8 := T.r_origins
  have z9 := T.r_next
  obtain ⟨ta, g, v, tb, rfl, h⟩ := h
  refine ⟨_, PSs.nox (pss_cons (ps_set (i := 3) sc_joined.nd rfl (Or.inl rfl) pe_non)
    (pss_cons (ps_for PassesOwn.never rfl (iL (K := K) (pe_c c_parts_of (hr.mono (by decide)) rfl (pa_cons (pv 1) pa_nil))) (gT (K := K) (pgs_cons (pg_name (i := 4) sc_joined.nd rfl (Or.inl rfl)) (pgs_cons (pg_name (i := 5) sc_joined.nd rfl (Or.inl rfl)) pgs_nil)))
      (pss_one (ps_if (PW.pt (pw_and (pt_cmpR op_notN (pe_ix (ixL (K := K)) (pe_ix (ixL (K := K)) (pv 0) (pv 4) (fun _ _ => rfl)) (pv 2) (fun _ _ => rfl)) pe_non (nomark _)) (pw_and1 (pt_cmpR op_notN (pe_ix (ixL (K := K)) (pe_ix (ixL (K := K)) (pv 0) (pv 5) (fun _ _ => rfl)) (pv 2) (fun _ _ => rfl)) pe_non (nomark _))))) (pss_cons (ps_set (i := 6) sc_joined.nd rfl (Or.inl rfl) (pe_op op_add (pe_ix (ixL (K := K)) (pe_ix (ixL (K := K)) (pv 0) (pv 4) (fun _ _ => rfl)) (pv 2) (fun _ _ => rfl)) (pe_ix (ixL (K := K)) (pe_ix (ixL (K := K)) (pv 0) (pv 5) (fun _ _ => rfl)) (pv 2) (fun _ _ => rfl))))
    (pss_one (ps_if (PW.pt (pw_or (pt_cmpR op_isN (pv 3) pe_non (nomark _)) (pw_or1 (pt_cmpR op_lt (pv 6) (pv 3) (nomark _))))) (pss_one (ps_set (i := 3) sc_joined.nd rfl (Or.inl rfl) (pv 6))) pss_nil))) pss_nil)))
    (pss_one (ps_ret (pv 3))))), ?_⟩
  obtain ⟨g1, g2, g3, h1, h2, q⟩ := h
  walk_at "st"
  refine ⟨g, rfl, g1, g2, fun p H1 G1 r1 => ?_⟩
  have h1' := mL (mL mO) _ _ _ _ G1.extN h1
  obtain ⟨vs, k1, k2⟩ := r1.lst
  obtain ⟨ws, k3, k4⟩ := h1'.lst
  have hp := prd_len k2
  refine r_iLH k1 ?_
  have row : ∀ i : Int, 1 ≤ i → i < g → ∃ a os, ws[i.toNat]? = some (.ref a) ∧ H1 a = some (.lst os) ∧ ∃ y, os[v.toNat]? = some (oV y) ∧ labT tb i v = y := fun i i1 i2 => by
    obtain ⟨r, e1, e2⟩ := h2 i i1 i2
    obtain ⟨u, e3, a, os, e4, e5, e6⟩ := prd_get k4 e1
    subst e4
    have e7 : v.toNat < r.length := by omega
    obtain ⟨y, e8, e9⟩ := prd_get e6 (List.getElem?_eq_getElem e7)
    refine ⟨a, os, e3, e5, r[v.toNat], ?_, ?_⟩
    · rw [e8, show y = oV r[v.toNat] from e9]
    · unfold labT
      rw [e1, Option.bind_some, List.getElem?_eq_getElem e7]; rfl
  refine for_list (xs := vs) (fun i σ H2 => H2 = H1 ∧ ∃ o1 o2 o3, σ = [some (.ref ta), some (.int g), some (.int v), some (oV (((partsF g).take i).foldl (joinS tb v) none)), o1, o2, o3]) ⟨rfl, none, none, none, rfl⟩ (fun i σ H2 _ z => by rw [z.1]; exact SqL.of k1) (fun i x σ H2 hx ⟨e1, o1, o2, o3, e2⟩ => ?_) fun σ H2 ⟨e1, o1, o2, o3, e2⟩ => ?_
  · subst e1 e2
    obtain ⟨⟨a, b⟩, e3, pa, e4, e5⟩ := prd_getV k2 hx
    subst e4
    have e6 : ((partsF g).take (i + 1)).foldl (joinS tb v) none = joinJ (((partsF g).take i).foldl (joinS tb v) none) (labT tb a v) (labT tb b v) := by
      rw [List.take_succ, e3, List.foldl_append]; rfl
    obtain ⟨i1, i2, i3, i4⟩ := partsF_ok g.toNat (by omega) (a, b) (by rw [Int.toNat_of_nonneg (by omega)]; exact List.mem_of_getElem? e3)
    simp only at i1 i2 i3 i4
    obtain ⟨a1, os1, m1, m2, y1, m3, m4⟩ := row a i1 (by omega)
    obtain ⟨a2, os2, n1, n2, y2, n3, n4⟩ := row b i3 (by omega)
    rw [m4, n4] at e6
    rw [e6]
    generalize ((partsF g).take i).foldl (joinS tb v) none = best at *
    walk_at "st"
    refine r_ixL (SqL.of k3) (at_nat (by omega) m1) ?_
    walk_at "st"
    refine r_ixL (SqL.of m2) (at_nat (by omega) m3) ?_
    walk_at "st"
    cases y1 with
    | none =>
      refine r_ifNQ rfl ?_
      walk_at "st"
      exact ⟨rfl, _, _, _, rfl⟩
    | some y1 =>
      refine r_ifNP (fun z => by cases z) ?_
      walk_at "st"
      refine r_ixL (SqL.of k3) (at_nat (by omega) n1) ?_
      walk_at "st"
      refine r_ixL (SqL.of n2) (at_nat (by omega) n3) ?_
      walk_at "st"
      cases y2 with
      | none =>
        refine r_ifNQ rfl ?_
        walk_at "st"
        exact ⟨rfl, _, _, _, rfl⟩
      | some y2 =>
        refine r_ifNP (fun z => by cases z) ?_
        walk_at "st"
        refine r_ixL (SqL.of k3) (at_nat (by omega) m1) ?_
        walk_at "st"
        refine r_ixL (SqL.of m2) (at_nat (by omega) m3) ?_
        walk_at "st"
        refine r_ixL (SqL.of k3) (at_nat (by omega) n1) ?_
        walk_at "st"
        refine r_ixL (SqL.of n2) (at_nat (by omega) n3) ?_
        walk_at "st"
        rw [oV_some, oV_some]
        walk_at "st"
        cases best with
        | none =>
          refine r_ifP rfl ?_
          walk_at "st"
          exact ⟨rfl, _, _, _, rfl⟩
        | some z =>
          refine r_ifQ (fun z => by cases z) ?_
          walk_at "st"
          rw [oV_some]
          walk_at "st"
          refine ifD (fun hb => ?_) fun hb => ?_
          · walk_at "st"
            exact ⟨rfl, _, _, _, by rw [show joinJ (some z) (some y1) (some y2) = some (y1 + y2) from if_pos hb]; rfl⟩
          · walk_at "st"
            exact ⟨rfl, _, _, _, by rw [show joinJ (some z) (some y1) (some y2) = some z from if_neg hb]; rfl⟩
  · subst e1 e2
    rw [hp, List.take_length]
    walk_at "st"
    exact q _ G1

theorem sc_ways_on : FnScope ["network", "arcs", "_", "ways", "edges", "number", "u", "v"] ["network", "arcs"] (defScope s_ways_on) := ⟨rfl, rfl, rfl, by decide +kernel, rfl, by decide +kernel, by decide +kernel⟩
structure OwnW (TB : Tbs) (H0 H : Hp) (wa : Addr) (as : List Addr) (W : List (List (Int × Int))) : Prop where
  at_ : H wa = some (.lst (as.map V.ref))
  nd : as.Nodup
  off : wa ∉ as
  new : ∀ a ∈ as, Off H0 a
  all : Paired (fun a l => ∃ vs, H a = some (.lst vs) ∧ Paired (RP H) vs l) as W
  gx : Gx TB (wa :: as) H0 H
theorem own_rl {H : Hp} : ∀ {as : List Addr} {W : List (List (Int × Int))}, Paired (fun a l => ∃ vs, H a = some (.lst vs) ∧ Paired (RP H) vs l) as W → Paired (RL RP H) (as.map V.ref) W
  | _, _, .nil => .nil
  | _, _, .cons ⟨vs, e1, e2⟩ t => .cons ⟨_, vs, rfl, e1, e2⟩ (own_rl t)
theorem OwnW.newT {TB : Tbs} {H0 H : Hp} {wa t : Addr} {as : List Addr} {W : List (List (Int × Int))} {o : HO} (h : OwnW TB H0 H wa as W) (ht : H t = none) : OwnW TB H0 (upd H t o) wa as W where
  at_ := by rw [upd_ne (ne_of_none h.at_ ht)]; exact h.at_
  nd := h.nd
  off := h.off
  new := h.new
  all := Paired.mapP h.all fun a l ⟨vs, e1, e2⟩ => ⟨vs, by rw [upd_ne (ne_of_none e1 ht)]; exact e1, prd_mono mP (fun b u e _ => by rw [upd_ne (ne_of_none e ht)]; exact e) e2⟩
  gx := h.gx.new ht
theorem OwnW.app {TB : Tbs} {H0 H : Hp} {wa a : Addr} {as : List Addr} {W : List (List (Int × Int))} {i : Nat} {vs : List V} {v : V} {x : Int × Int} (h : OwnW TB H0 H wa as W) (hi : as[i]? = some a) (ha : H a = some (.lst vs)) (hv : RP H v x) :
    OwnW TB H0 (upd H a (.lst (vs ++ [v]))) wa as (W.modify i fun l => l ++ [x]) where
  at_ := by
    have hm := List.mem_of_getElem? hi
    rw [upd_ne (fun z : wa = a => h.off (z ▸ hm))]; exact h.at_
  nd := h.nd
  off := h.off
  new := h.new
  all := by
    refine prd_at i h.all hi h.nd (fun b l hb hne ⟨us, e1, e2⟩ => ⟨us, by rw [upd_ne hne]; exact e1, Paired.mapP e2 fun u y r => RP_upd ha r⟩) fun l _ ⟨us, e1, e2⟩ => ⟨vs ++ [v], upd_same, ?_⟩
    rw [ha] at e1; cases e1
    exact prd_snoc (Paired.mapP e2 fun u y r => RP_upd ha r) (RP_upd ha hv)
  gx := h.gx.mut (List.mem_cons_of_mem _ (List.mem_of_getElem? hi)) ha trivial
theorem OwnW.out {TB : Tbs} {H0 H : Hp} {wa : Addr} {as : List Addr} {W : List (List (Int × Int))} (h : OwnW TB H0 H wa as W) (hw : H0 wa = none) : Gx TB [] H0 H ∧ RL (RL RP) H (.ref wa) W := by
  refine ⟨h.gx.dropL fun x hx => ?_, wa, _, rfl, h.at_, own_rl h.all⟩
  rcases List.mem_cons.mp hx with z | z
  · rw [z]; exact Off.none hw
  · exact h.new x z
theorem OwnW.get {TB : Tbs} {H0 H : Hp} {wa : Addr} {as : List Addr} {W : List (List (Int × Int))} (h : OwnW TB H0 H wa as W) {i : Int} (h0 : 0 ≤ i) (h1 : i < as.length) : ∃ a vs l, as[i.toNat]? = some a ∧ atI (as.map V.ref) i = some (.ref a) ∧ H a = some (.lst vs) ∧ W[i.toNat]? = some l ∧ vs.length = l.length := by
  have h2 : i.toNat < as.length := by omega
  have h3 : as[i.toNat]? = some as[i.toNat] := List.getElem?_eq_getElem h2
  obtain ⟨l, e1, vs, e2, e3⟩ := pr_getV h.all h3
  exact ⟨_, vs, l, h3, at_nat h0 (by rw [List.getElem?_map, h3]; rfl), e2, e1, prd_len e3⟩
theorem modify_len {α : Type} (W : List α) (i : Nat) (f : α → α) : (W.modify i f).length = W.length := by simp
theorem waysN_len (n : Nat) (es : List TW.Ed) : ∀ k, (waysN n es k).length = n
  | 0 => by simp [waysN]
  | k + 1 => by
    unfold waysN
    cases es[k]? with
    | none => exact waysN_len n es k
    | some e => simp [wayS, waysN_len n es k]
theorem waysN_in (n : Nat) (es : List TW.Ed) : ∀ (k i : Nat) (l : List (Int × Int)), (waysN n es k)[i]? = some l → l.length ≤ 2 * k
  | 0, i, l, h => by
    unfold waysN at h
    rw [List.getElem?_replicate] at h
    split at h
    · cases h; simp
    · cases h
  | k + 1, i, l, h => by
    unfold waysN at h
    cases he : es[k]? with
    | none => rw [he] at h; have := waysN_in n es k i l h; omega
    | some e =>
      rw [he] at h
      simp only [wayS] at h
      rw [List.getElem?_modify, List.getElem?_modify] at h
      cases hl : (waysN n es k)[i]? with
      | none => rw [hl] at h; simp at h
      | some l0 =>
        have := waysN_in n es k i l0 hl
        rw [hl] at h
        simp only [Functor.map, Option.map_some] at h
        cases h
        split <;> split <;> simp <;> omega
theorem ok_c_ways_on {f : Addr} {fd : FuncData} (T : Tx K mg CN CR) (F : FnP K "ways_on" "ways_on" s_ways_on f fd)
  (mN_size : CalM P w K mg base 1 CN "size" ["self"] (spmN_size TB CN CR))
  (mN_edges : CalM P w K mg base 1 CN "edges" ["self"] (spmN_edges TB CN CR)) : FnOk P w K mg base CX0 2 f fd ["network", "arcs"] (spc_ways_on TB CN CR) := by
  refine F.ok (k := 1) sc_ways_on (fun vs H Q E h => by obtain ⟨a, n, es, rfl, _⟩ := h; rfl) (fun cdv A outer s H vs Q E hr h => ?_)
  have hu := hu_of hr
  have z1 := T.clN
  have z2 := T.clR
  have z3 := T.a_size
  have z4 := T.a_edges
  have z5 := T.r_size
  have z6 := T.r_terminals
  have z7 := T.r_edges
  have z8 := T.r_origins
  have z9 := T.r_next
  obtain ⟨a, n, es, rfl, h⟩ := h
  refine ⟨_, PSs.nox (pss_cons (ps_setLc (i := 3) (own := [("_", 2)]) rfl sc_ways_on.nd rfl rfl (sw_true rfl rfl rfl (by decide +kernel))   (pi_range1 (by rfl) T.n_range (pa_cons (pe_m0 mN_size (pv 0) T.clN (hr.mono (by decide))) pa_nil)) (blkOk_by (own := [("_", 2)]) (N := ["network", "arcs", "_", "ways", "edges", "number", "u", "v"]) (sc := defScope s_ways_on) (by decide +kernel)) (fun _ _ _ _ _ => pg_name (i := 2) sc_ways_on.nd rfl (Or.inl rfl)) (fun _ _ _ _ _ => pts_nil) (fun _ _ _ _ _ => (pe_lst pa_nil)))
    (pss_cons (ps_set (i := 4) sc_ways_on.nd rfl (Or.inl rfl) (pe_m0 mN_edges (pv 0) T.clN (hr.mono (by decide))))
    (pss_cons (ps_for PassesOwn.never rfl (pi_range1 (by rfl) T.n_range (pa_cons (pe_callB (lenQ (K := K)) (by rfl) T.n_len (by decide +kernel) (pa_cons (pv 4) pa_nil)) pa_nil)) (pg_name (i := 5) sc_ways_on.nd rfl (Or.inl rfl))
      (pss_cons (ps_asg (pe_ix (ixL (K := K)) (pv 4) (pv 5) (fun _ _ => rfl)) (gT (K := K) (pgs_cons (pg_name (i := 6) sc_ways_on.nd rfl (Or.inl rfl)) (pgs_cons (pg_name (i := 7) sc_ways_on.nd rfl (Or.inl rfl)) (pgs_cons (pg_name (i := 2) sc_ways_on.nd rfl (Or.inl rfl)) pgs_nil)))))
    (pss_cons (ps_expr (bm (K := K) (pe_bm PySem.F.plainAttrs_list PySem.F.slot_list_append PySem.F.type_list_append mt_append (pe_ix (ixL (K := K)) (pv 3) (pv 7) (fun _ _ => rfl)) (pa_cons (pe_tup (pa_cons (pv 5) (pa_cons (pv 6) pa_nil))) pa_nil))))
    (pss_one (ps_if (pt_not (pt_val (pv 1))) (pss_one (ps_expr (bm (K := K) (pe_bm PySem.F.plainAttrs_list PySem.F.slot_list_append PySem.F.type_list_append mt_append (pe_ix (ixL (K := K)) (pv 3) (pv 6) (fun _ _ => rfl)) (pa_cons (pe_tup (pa_cons (pv 5) (pa_cons (pv 7) pa_nil))) pa_nil))))) pss_nil)))))
    (pss_one (ps_ret (pv 3)))))), ?_⟩
  obtain ⟨h1, h2, q⟩ := h
  obtain ⟨dx, ea, h6, h7⟩ := id h1
  walk_at "st"
  refine ⟨a, n, es, rfl, h1, ?_⟩
  obtain ⟨g1, g2, g3, g4⟩ := h2
  walk_at "st"
  intro D hD
  refine lc_range (fun i H2 => ∃ as : List Addr, as.length = i ∧ H2 D = some (.lst (as.map V.ref)) ∧ as.Nodup ∧ D ∉ as ∧ (∀ a ∈ as, Off H a) ∧ (∀ a ∈ as, H2 a = some (.lst [])) ∧ Gx TB [D] H H2) ⟨[], rfl, upd_same, .nil, by simp, by simp, by simp, (Gx.refl).new hD⟩ (fun i H2 hi ⟨as, e1, e2, e3, e4, e5, e6, G⟩ => ?_) fun H2 ⟨as, e1, e2, e3, e4, e5, e6, G⟩ => ?_
  · walk_at "st"
    refine ⟨rfl, ?_⟩
    walk_at "st"
    refine ⟨by decide, fun p hp => ⟨as.map V.ref, by rw [upd_ne (ne_of_none e2 hp)]; exact e2, by rw [List.length_map, sizeLine_eq]; omega, as ++ [p], by simp [e1], ?_, ?_, ?_, ?_, ?_, ?_⟩⟩
    · rw [upd_same, List.map_append]; rfl
    · exact List.nodup_append.mpr ⟨e3, by simp, fun x hx y hy z => by
        rw [List.mem_singleton.mp hy] at z
        have := e6 x hx
        rw [z, hp] at this; cases this⟩
    · intro z
      rcases List.mem_append.mp z with z | z
      · exact e4 z
      · rw [← List.mem_singleton.mp z, e2] at hp; cases hp
    · intro b hb
      rcases List.mem_append.mp hb with z | z
      · exact e5 b z
      · rw [List.mem_singleton.mp z]
        have G' : Gx TB [] H H2 := G.drop (Off.none hD)
        exact G'.off (Off.none hp)
    · intro b hb
      rcases List.mem_append.mp hb with z | z
      · rw [upd_ne (fun y : b = D => e4 (y ▸ z)), upd_ne (fun y : b = p => by have := e6 b z; rw [y, hp] at this; cases this)]; exact e6 b z
      · have z := List.mem_singleton.mp z
        rw [z, upd_ne (fun y : p = D => by rw [y, e2] at hp; cases hp), upd_same]
    · exact (G.new hp).mut (by simp) (o0 := .lst (as.map V.ref)) (by rw [upd_ne (ne_of_none e2 hp)]; exact e2) trivial
  · have O : OwnW TB H H2 D as (waysN n.toNat es 0) := ⟨e2, e3, e4, e5, by
      have : waysN n.toNat es 0 = List.replicate as.length [] := by rw [e1]; rfl
      rw [this]
      clear this e1 e2 e3 e4 e5
      induction as with
      | nil => exact .nil
      | cons b r ih => exact .cons ⟨[], e6 b (by simp), .nil⟩ (ih fun c hc => e6 c (by simp [hc])), G.mono (by simp)⟩
    have G0 := G.drop (Off.none hD)
    have h6' := G0.ins h6
    walk_at "st"
    refine ⟨a, n, es, rfl, h1.mono G0.extN, fun l H3 hl G3 r3 => ?_⟩
    obtain ⟨us, k1, k2⟩ := r3.lst
    have kl := prd_len k2
    have O3 : OwnW TB H H3 D as (waysN n.toNat es 0) := ⟨G3.lst e2, e3, e4, e5, Paired.mapP O.all fun b x ⟨vs, q1, q2⟩ => ⟨vs, G3.lst q1, prd_mono mP G3.extN q2⟩, O.gx.call G3⟩
    have hl1 : l ≠ D := fun z => by rw [z, e2] at hl; cases hl
    have hl2 : l ∉ as := fun z => by rw [e6 l z] at hl; cases hl
    walk_at "st"
    refine for_range (fun i σ H4 => ∃ o1 o2 o3 o4, σ = [some (.ref a), some (.bl false), o1, some (.ref D), some (.ref l), o2, o3, o4] ∧ OwnW TB H H4 D as (waysN n.toNat es i) ∧ H4 l = some (.lst us) ∧ Paired (RE H4) us es) ⟨_, _, _, _, rfl, O3, k1, k2⟩ (fun i σ H4 hi ⟨o1, o2, o3, o4, e7, O4, k3, k4⟩ => ?_) fun σ H4 ⟨o1, o2, o3, o4, e7, O4, k3, k4⟩ => ?_
    · subst e7
      have hi2 : i < es.length := by omega
      obtain ⟨v, m1, ea, m2, m3⟩ := prd_get k4 (List.getElem?_eq_getElem hi2)
      subst m2
      obtain ⟨p1, p2, p3, p4, p5, p6, p7⟩ := g4 _ (List.getElem_mem hi2)
      have ew : waysN n.toNat es (i + 1) = wayS (waysN n.toNat es i) (i, es[i]) := by
        show (match es[i]? with | some e => wayS (waysN n.toNat es i) (i, e) | none => waysN n.toNat es i) = _
        rw [List.getElem?_eq_getElem hi2]
      rw [ew]
      generalize hW : waysN n.toNat es i = W at *
      have hWl : ∀ (j : Nat) (w : List (Int × Int)), W[j]? = some w → w.length ≤ 2 * i := fun j w h => waysN_in n.toNat es i j w (hW ▸ h)
      walk_at "st"
      refine r_ixL (SqL.of k3) (at_nat (by omega) (by rw [show ((0:Int) + (i:Int)).toNat = i by omega]; exact m1)) ?_
      walk_at "st"
      obtain ⟨a1, vs1, l1, b1, b2, b3, b4, b5⟩ := O4.get p3 (by omega)
      refine r_ixL (SqL.of O4.at_) b2 ?_
      refine ⟨tyV_lst b3, ?_⟩
      walk_at "st"
      refine ⟨by simp [sizeLine_eq], fun t ht => ?_⟩
      have O5 := O4.newT (o := .tup [V.int (0 + (i:Int)), V.int es[i].1]) ht
      have b6 : (upd H4 t (.tup [V.int (0 + (i:Int)), V.int es[i].1])) t = _ := upd_same
      have b3' : (upd H4 t (.tup [V.int (0 + (i:Int)), V.int es[i].1])) a1 = some (.lst vs1) := by rw [upd_ne (ne_of_none b3 ht)]; exact b3
      have k5 : (upd H4 t (.tup [V.int (0 + (i:Int)), V.int es[i].1])) l = some (.lst us) := by rw [upd_ne (ne_of_none k3 ht)]; exact k3
      have k6 := prd_mono (H := H4) (H' := upd H4 t (.tup [V.int (0 + (i:Int)), V.int es[i].1])) mE (fun b u e _ => by rw [upd_ne (ne_of_none e ht)]; exact e) k4
      generalize upd H4 t (.tup [V.int (0 + (i:Int)), V.int es[i].1]) = H5 at *
      walk_at "st"
      refine r_append b3' (by have := hWl _ _ b4; rw [sizeLine_eq]; omega) ?_
      have O6 := O5.app (x := ((i:Int), es[i].1)) b1 b3' ⟨t, rfl, by rw [b6]; simp⟩
      have hla : l ≠ a1 := fun z => hl2 (z ▸ List.mem_of_getElem? b1)
      have k7 : (upd H5 a1 (.lst (vs1 ++ [V.ref t]))) l = some (.lst us) := by rw [upd_ne hla]; exact k5
      have k8 : Paired (RE (upd H5 a1 (.lst (vs1 ++ [V.ref t])))) us es := Paired.mapP k6 fun u y r => RE_upd b3' r
      have hWl2 : ∀ (j : Nat) (w : List (Int × Int)), (W.modify es[i].2.1.toNat fun l => l ++ [((i:Int), es[i].1)])[j]? = some w → w.length ≤ 2 * i + 1 := fun j w h => by
        rw [List.getElem?_modify] at h
        cases hw : W[j]? with
        | none => rw [hw] at h; simp at h
        | some w0 =>
          have := hWl _ _ hw
          rw [hw] at h
          simp only [Functor.map, Option.map_some] at h
          cases h
          split <;> simp <;> omega
      generalize upd H5 a1 (.lst (vs1 ++ [V.ref t])) = H6 at *
      walk_at "st"
      obtain ⟨a2, vs2, l2, c1, c2, c3, c4, c5⟩ := O6.get p1 (by omega)
      refine r_ixL (SqL.of O6.at_) c2 ?_
      refine ⟨tyV_lst c3, ?_⟩
      walk_at "st"
      refine ⟨by simp [sizeLine_eq], fun t2 ht2 => ?_⟩
      have O7 := O6.newT (o := .tup [V.int (0 + (i:Int)), V.int es[i].2.1]) ht2
      have c6 : (upd H6 t2 (.tup [V.int (0 + (i:Int)), V.int es[i].2.1])) t2 = _ := upd_same
      have c3' : (upd H6 t2 (.tup [V.int (0 + (i:Int)), V.int es[i].2.1])) a2 = some (.lst vs2) := by rw [upd_ne (ne_of_none c3 ht2)]; exact c3
      have k9 : (upd H6 t2 (.tup [V.int (0 + (i:Int)), V.int es[i].2.1])) l = some (.lst us) := by rw [upd_ne (ne_of_none k7 ht2)]; exact k7
      have k10 := prd_mono (H := H6) (H' := upd H6 t2 (.tup [V.int (0 + (i:Int)), V.int es[i].2.1])) mE (fun b u e _ => by rw [upd_ne (ne_of_none e ht2)]; exact e) k8
      generalize upd H6 t2 (.tup [V.int (0 + (i:Int)), V.int es[i].2.1]) = H7 at *
      walk_at "st"
      refine r_append c3' (by have := hWl2 _ _ c4; rw [sizeLine_eq]; omega) ?_
      have O8 := O7.app (x := ((i:Int), es[i].2.1)) c1 c3' ⟨t2, rfl, by rw [c6]; simp⟩
      have hla2 : l ≠ a2 := fun z => hl2 (z ▸ List.mem_of_getElem? c1)
      have k11 : (upd H7 a2 (.lst (vs2 ++ [V.ref t2]))) l = some (.lst us) := by rw [upd_ne hla2]; exact k9
      have k12 : Paired (RE (upd H7 a2 (.lst (vs2 ++ [V.ref t2])))) us es := Paired.mapP k10 fun u y r => RE_upd c3' r
      generalize upd H7 a2 (.lst (vs2 ++ [V.ref t2])) = H8 at *
      walk_at "st"
      exact ⟨_, _, _, _, rfl, O8, k11, k12⟩
    · subst e7
      rw [show (us.length : Int).toNat = es.length by omega] at O4
      obtain ⟨G5, r5⟩ := O4.out hD
      walk_at "st"
      exact q _ _ G5 r5
end TW
end

section
set_option Elab.async false
set_option linter.all false
set_option maxRecDepth 100000
set_option maxHeartbeats 1000000
set_option exponentiation.threshold 600
namespace TW
open PySem PySem.Spec PyProof.Rows L2 LamX NdefX StX
variable {P : Program} {w : World} {K : PySem.W.Frag} {mg : Str → Option Value} {base : Heap} {CN CR : Addr} {TB : Tbs}
local macro_rules | `(tactic| walk_at "s1") => `(tactic| first
  | with_reducible refine r_seq ?_
  | with_reducible refine r_set ?_
  | with_reducible refine r_var (by with_unfolding_all rfl) ?_
  | with_reducible refine r_c ?_
  | with_reducible refine r_op ?_
  | with_reducible refine r_cons ?_
  | with_reducible refine r_nil ?_
  | with_reducible refine r_I0 ?_
  | with_reducible refine r_test ?_
  | with_reducible refine r_blk ?_
  | with_reducible refine r_ifT ?_
  | with_reducible refine r_ifF ?_
  | with_reducible refine r_ifNT ?_
  | with_reducible refine r_ifNF ?_
  | with_reducible refine r_aug (by with_unfolding_all rfl) ?_
  | with_reducible refine r_ipI ?_
  | with_reducible refine r_ifs0 ?_
  | with_reducible refine r_ifs1 ?_
  | with_reducible refine r_ifsN ?_
  | with_reducible refine r_ifsS ?_
  | with_reducible refine r_if ?_
  | with_reducible refine r_fld ?_
  | with_reducible refine r_fldC (by assumption) (by assumption) (by assumption) (by first | exact lkN_size | exact lkN_edges | exact lkR_size | exact lkR_terminals | exact lkR_edges | exact lkR_origins | exact lkR_next) ?_
  | with_reducible refine r_eqI ?_
  | with_reducible refine r_neI ?_
  | with_reducible refine r_eqS ?_
  | with_reducible refine r_cl ?_
  | with_reducible refine r_cb ?_
  | with_reducible refine r_mt ?_
  | with_reducible refine r_mtAt (by assumption) (by first | exact lkN_msize | exact lkN_medges | exact lkR_around | exact lkR_other_end | exact lkR_ends_around | exact lkR_is_inner | exact lkR_is_leaf | exact lkR_is_series | exact lkR_is_longer | exact lkR_holds | exact lkR_drop | exact lkR_join | exact lkR_apply | exact lkR_paths_from | exact lkR_walk_for | exact lkR_rows_by_vertices | exact lkR_rows_by_edges) ?_
  | with_reducible refine r_dget ?_
  | with_reducible refine r_ret ?_
  | with_reducible refine r_nx ?_
  | with_reducible refine r_yes ?_
  | with_reducible refine r_drop ?_
  | with_reducible refine r_asg ?_
  | with_reducible refine r_gN ?_
  | with_reducible refine r_gT3 (by assumption) (by with_unfolding_all rfl) ?_
  | with_reducible refine r_gT2 (by assumption) (by with_unfolding_all rfl) ?_
  | with_reducible refine r_or ?_
  | with_reducible refine r_and ?_
  | with_reducible refine r_not ?_
  | with_reducible refine r_andV ?_
  | with_reducible refine r_orV ?_
  | with_reducible refine r_notV ?_
  | with_reducible refine r_chain ?_
  | with_reducible refine r_ifE ?_
  | with_reducible refine r_B ?_
  | with_reducible refine r_tup ?_
  | with_reducible refine r_lst ?_
  | with_reducible refine r_sl ?_
  | with_reducible refine r_noP ?_
  | with_reducible refine r_part ?_
  | with_reducible refine r_intC ?_
  | with_reducible refine r_din ?_
  | with_reducible refine r_dni ?_
  | with_reducible refine r_iL ?_
  | with_reducible refine r_iT ?_
  | with_reducible refine r_iR1 ?_
  | with_reducible refine r_iR2 ?_
  | with_reducible refine r_un ?_
  | with_reducible refine r_U ?_
  | with_reducible refine r_sFld ?_
  | with_reducible refine r_sFldAug ?_
  | with_reducible refine r_dput ?_
  | with_reducible refine r_ddel ?_
  | with_reducible refine r_bm ?_
  | with_reducible refine r_for ?_
  | with_reducible refine r_lc ?_
  | with_reducible refine r_dc ?_
  | with_reducible refine r_subset ?_
  | with_reducible refine r_intI ?_
  | with_reducible refine r_intB ?_
  | with_reducible refine r_absI ?_
  | with_reducible refine r_min2I ?_
  | with_reducible refine r_mk ?_
  | with_reducible refine r_star ?_
  | with_reducible refine r_starAt (by assumption) ?_
  | with_reducible refine r_pop1 ?_
  | with_reducible refine r_popAt (by assumption) ?_
  | with_reducible refine r_get1 ?_
  | with_reducible refine r_minK ?_
  | with_reducible refine r_lstRg ?_
  | with_reducible refine r_rg1 ?_
  | with_reducible refine r_eqN ?_
  | with_reducible refine r_lenI (by assumption) ?_
  | with_reducible refine r_lenH (by assumption) ?_
  | with_reducible refine r_ix0 (by assumption) ?_
  | with_reducible refine r_ix1 (by assumption) ?_
  | with_reducible refine r_ix2 (by assumption) ?_
  | with_reducible refine r_I (by first | decide | (unfold CPow; omega) | (unfold CDiv; omega) | (unfold CMul; omega) | omega) ?_
  | with_reducible refine r_iR1At (by omega) ?_
  | with_reducible refine r_ifP (by first | omega | exact rfl) ?_
  | with_reducible refine r_ifQ (by first | omega | with_unfolding_all decide) ?_
  | with_reducible refine r_ifNP (by omega) ?_
  | with_reducible refine r_ifNQ (by omega) ?_)
local macro_rules | `(tactic| walk_at "st") => `(tactic| repeat walk_at "s1")

theorem sc_spread : FnScope ["labels", "ways", "weights", "left", "vertex", "known", "here", "number", "other", "label"] ["labels", "ways", "weights"] (defScope s_spread) := ⟨rfl, rfl, rfl, by decide +kernel, rfl, by decide +kernel, by decide +kernel⟩
theorem erase_ix {ns : List Int} {k : Int} (nd : ns.Nodup) (h : k ∈ ns) : ∃ j, ns[j]? = some k ∧ (∀ m : Nat, m < j → ns[m]? ≠ some k) ∧ ns.eraseIdx j = ns.erase k := by
  induction ns with
  | nil => cases h
  | cons a r ih =>
    by_cases z : a = k
    · subst z
      exact ⟨0, rfl, fun m hm => absurd hm (Nat.not_lt_zero _), by simp⟩
    · obtain ⟨n1, n2⟩ := List.nodup_cons.mp nd
      obtain ⟨j, e1, e2, e3⟩ := ih n2 (by
        rcases List.mem_cons.mp h with y | y
        · exact absurd y.symm z
        · exact y)
      refine ⟨j + 1, by simpa using e1, fun m hm => ?_, ?_⟩
      · cases m with
        | zero => simpa using z
        | succ m => simpa using e2 m (by omega)
      · rw [List.eraseIdx_cons_succ, e3, List.erase_cons_tail (by simpa using z)]
theorem oV_at {L : List (Option Int)} {v : Int} (h0 : 0 ≤ v) (h1 : v < L.length) : atI (L.map oV) v = some (oV (gtO L v)) := by
  refine at_nat h0 ?_
  unfold gtO
  rw [List.getElem?_map, List.getElem?_eq_getElem (by omega)]; rfl
theorem set_oV (L : List (Option Int)) (i : Nat) (x : Int) : (L.map oV).set i (V.int x) = (L.set i (some x)).map oV := by
  rw [List.map_set]; rfl
theorem ok_c_spread {fd : FuncData} {c Pt : Addr} (T : Tx K mg CN CR) (F : FunD K "spread" "spread" (defArgs s_spread) (defBody s_spread) (defScope s_spread) [] [] (He.fAd K ("spread", none)) fd) (hcc : He.codeOf K ("spread", none) = c) (tb : TabB base mg c Pt) (hT : (Pt, ("spread.<locals>." : Str) ++ "<lambda>") ∈ TB) (hu2 : ∀ p ∈ TB, p.1 = Pt → p.2 = ("spread.<locals>." : Str) ++ "<lambda>")
   : FnOk P w K mg base CX0 4 (He.fAd K ("spread", none)) fd ["labels", "ways", "weights"] (spc_spread TB CN CR) := by
  refine okC (k := 3) F hcc sc_spread (fun vs H Q E h => by obtain ⟨la, wa, ga, L0, ways, ws, rfl, _⟩ := h; rfl) (fun A outer s H vs Q E hr h => ?_)
  have hu := hu_of hr
  have z1 := T.clN
  have z2 := T.clR
  have z3 := T.a_size
  have z4 := T.a_edges
  have z5 := T.r_size
  have z6 := T.r_terminals
  have z7 := T.r_edges
  have z8 := T.r_origins
  have z9 := T.r_next
  obtain ⟨la, wa, ga, L0, ways, ws, rfl, h⟩ := h
  refine ⟨_, PSs.nox (pss_cons (ps_set (i := 0) sc_spread.nd rfl (Or.inr rfl) (pe_callTy (listQ (K := K)) (by rfl) T.n_list (by decide +kernel) (pa_cons (pv 0) pa_nil)))
    (pss_cons (ps_set (i := 3) sc_spread.nd rfl (Or.inl rfl) (pe_listRg rfl (by rfl) T.n_list (prg_1 (by rfl) T.n_range (pe_callB (lenQ (K := K)) (by rfl) T.n_len (by decide +kernel) (pa_cons (pv 0) pa_nil)))))
    (pss_cons (ps_while PassesOwn.never (pt_cmpR op_gt (pe_callB (lenQ (K := K)) (by rfl) T.n_len (by decide +kernel) (pa_cons (pv 3) pa_nil)) pe_int (nomark _))
      (pss_cons (ps_setLc (i := 5) (own := [("vertex", 4)]) rfl sc_spread.nd rfl rfl (sw_true rfl rfl rfl (by decide +kernel))   (iL (K := K) (pv 3)) (blkOk_by (own := [("vertex", 4)]) (N := ["labels", "ways", "weights", "left", "vertex", "known", "here", "number", "other", "label"]) (sc := defScope s_spread) (by decide +kernel)) (fun _ _ _ _ _ => pg_name (i := 4) sc_spread.nd rfl (Or.inl rfl)) (fun _ _ _ _ _ => pts_one (pt_cmpR op_notN (pe_ix (ixL (K := K)) (pv 0) (pv 4) (fun _ _ => rfl)) pe_non (nomark _))) (fun _ _ _ _ _ => (pv 4)))
    (pss_cons (ps_if (pt_cmpR op_eq (pe_callB (lenQ (K := K)) (by rfl) T.n_len (by decide +kernel) (pa_cons (pv 5) pa_nil)) pe_int (nomark _)) (pss_one (ps_ret (pv 0))) pss_nil)
    (pss_cons (ps_set (i := 6) sc_spread.nd rfl (Or.inl rfl) (pe_minK (T := TB) (src := srcL) (c := c) (P := Pt) (k := 0) (N := ["vertex", "labels"]) (ps := ["vertex"]) (fr := ["labels"]) (js := [0]) (Or.inl rfl) rfl T.n_min rfl (pv 5) tb rfl hT hu2 (hr.mono (by decide)) (nscope_by (by rfl)) rfl (fun y hy e => by cases hy with | head => cases e | tail _ h => cases h with | head => exact Or.inl (by rfl) | tail _ h => cases h) (by decide +kernel) rfl rfl (fun _ _ _ _ _ _ => rfl) (fun _ _ _ _ _ _ hrX => pe_ix (ixL (K := K)) (pv 1) (pv 0) (fun _ _ => rfl))))
    (pss_cons (ps_expr (bm (K := K) (pe_bm PySem.F.plainAttrs_list PySem.F.slot_list_remove PySem.F.type_list_remove mt_remove (pv 3) (pa_cons (pv 6) pa_nil))))
    (pss_one (ps_for PassesOwn.never rfl (iL (K := K) (pe_ix (ixL (K := K)) (pv 1) (pv 6) (fun _ _ => rfl))) (gT (K := K) (pgs_cons (pg_name (i := 7) sc_spread.nd rfl (Or.inl rfl)) (pgs_cons (pg_name (i := 8) sc_spread.nd rfl (Or.inl rfl)) pgs_nil)))
      (pss_cons (ps_set (i := 9) sc_spread.nd rfl (Or.inl rfl) (pe_op op_add (pe_ix (ixL (K := K)) (pv 0) (pv 6) (fun _ _ => rfl)) (pe_ix (ixL (K := K)) (pv 2) (pv 7) (fun _ _ => rfl))))
    (pss_one (ps_if (PW.pt (pw_or (pt_cmpR op_isN (pe_ix (ixL (K := K)) (pv 0) (pv 8) (fun _ _ => rfl)) pe_non (nomark _)) (pw_or1 (pt_cmpR op_lt (pv 9) (pe_ix (ixL (K := K)) (pv 0) (pv 8) (fun _ _ => rfl)) (nomark _))))) (pss_one (ps_asg (pv 9) (pg_sub (pv 0) (pv 8) set_list))) pss_nil))))))))))
    (pss_one (ps_ret (pv 0)))))), ?_⟩
  obtain ⟨h1, h2, h3, h4, h5, h6, q⟩ := h
  obtain ⟨wv, k1, k2⟩ := h2.lst
  walk_at "st"
  refine r_listH (T := TB) h1 fun l1 H1 hl1 G1 e1 => ?_
  walk_at "st"
  refine ⟨RgOk.of_le (by omega) (by simp; omega) (by omega) (by omega), fun l2 hl2 => ?_⟩
  have hne : l1 ≠ l2 := fun z => by rw [← z, e1] at hl2; cases hl2
  have e2 : (upd H1 l2 (.lst (rgV 0 ((L0.map oV).length : Nat)))) l2 = some (.lst (((List.range L0.length).map fun i => ((i : Nat) : Int)).map V.int)) := by
    rw [upd_same, List.length_map, rgV_ints]
  have e1' : (upd H1 l2 (.lst (rgV 0 ((L0.map oV).length : Nat)))) l1 = some (.lst (L0.map oV)) := by rw [upd_ne hne]; exact e1
  have G2 : Gx TB [] H (upd H1 l2 (.lst (rgV 0 ((L0.map oV).length : Nat)))) := G1.new hl2
  generalize upd H1 l2 (.lst (rgV 0 ((L0.map oV).length : Nat))) = H2 at *
  have hH1 : H l1 = none := hl1
  have hH2 : Off H l2 := G1.off (Off.none hl2)
  walk_at "st"
  refine while_by (fun σ H3 => ∃ L left o4 o5 o6 o7 o8 o9, σ = [some (.ref l1), some (.ref wa), some (.ref ga), some (.ref l2), o4, o5, o6, o7, o8, o9] ∧ Gx TB [l1, l2] H H3 ∧ H3 l1 = some (.lst (L.map oV)) ∧ H3 l2 = some (.lst (left.map V.int)) ∧ SpInv ways ws L0 L left)
    (fun _ H3 => match H3 l2 with | some (.lst xs) => xs.length | _ => 0) ⟨L0, _, none, none, none, none, none, none, rfl, G2.mono (by simp), e1', e2, SpInv.start L0⟩ (fun σ H3 ⟨L, left, o4, o5, o6, o7, o8, o9, es, G, f1, f2, I⟩ => ?_) (fun σ H2 Q1 Q2 m z => ?_)
  · subst es
    have fin : ∀ v : Addr, v = l1 → (∀ v ∈ left, gtO L v = none) → Q (.ref v) H3 := fun v hv hn => by
      subst hv
      exact q v H3 L hl1 (G.dropL fun x hx => by
        rcases List.mem_cons.mp hx with z | z
        · rw [z]; exact Off.none hH1
        · rw [List.mem_singleton.mp z]; exact hH2) f1 (I.out hn)
    have la1 := ne_none hH1 k1
    have la2 := hH2.neL k1
    have lg1 := ne_none hH1 h3
    have lg2 := hH2.neL h3
    walk_at "st"
    refine ifD (fun hb => ?_) fun hb => ?_
    · walk_at "st"
      refine r_iLH f2 fun D hD => lc_listR (T := TB) (R := RI) (F := RI) mI mI (fun v => if gtO L v = none then none else some v) hD f2 (ints_prd left) (by have := I.ll; have := I.len; rw [sizeLine_eq]; omega) (fun v x H4 N KY hv hx G4 _ hne4 hy hn => ?_) fun H4 G4 r4 => ?_
      · subst hx
        obtain ⟨v0, v1⟩ := I.mem v hv
        walk_at "st"
        refine ⟨rfl, ?_⟩
        walk_at "st"
        refine r_ixL (SqL.of (G4.lst f1)) (oV_at v0 v1) ?_
        walk_at "st"
        refine ifN (fun hz => ?_) fun hz => ?_
        · walk_at "st"
          exact hy v _ _ (if_neg fun z => hz (by rw [z]; rfl)) Gx.refl rfl
        · refine hn _ (if_pos ?_) Gx.refl
          cases hg : gtO L v with
          | none => rfl
          | some y => rw [hg] at hz; cases hz
      · have r5 := r4.ints
        generalize hk : left.filterMap (fun v => if gtO L v = none then none else some v) = known at *
        have kn : ∀ v, v ∈ known ↔ v ∈ left ∧ gtO L v ≠ none := fun v => by
          rw [← hk, List.mem_filterMap]
          constructor
          · rintro ⟨u, m1, m2⟩
            split at m2
            · cases m2
            · cases m2; exact ⟨m1, by assumption⟩
          · rintro ⟨m1, m2⟩
            exact ⟨v, m1, if_neg m2⟩
        walk_at "st"
        refine ifD (fun hz => ?_) fun hz => ?_
        · walk_at "st"
          refine q l1 H4 L hl1 ((G.call G4).dropL fun x hx => ?_) (G4.lst f1) (I.out fun v hv => ?_)
          · rcases List.mem_cons.mp hx with z | z
            · rw [z]; exact Off.none hH1
            · rw [List.mem_singleton.mp z]; exact hH2
          · cases hg : gtO L v with
            | none => rfl
            | some y =>
              have := (kn v).mpr ⟨hv, by rw [hg]; simp⟩
              have e0 : known = [] := List.length_eq_zero_iff.mp (by omega)
              rw [e0] at this; cases this
        · walk_at "st"
          have G34 := G.call G4
          refine ⟨G34.tab h6, fun H5 eN T5 => ⟨known.map V.int, fun i => (gtO L (known[i]?.getD 0)).getD 0, ⟨D, rfl, SqL.of (eN _ _ r5 fun _ y => by cases y)⟩, by rw [List.length_map]; omega, fun i y hy => ?_, fun i y hy hbest => ?_⟩⟩
          · rw [List.getElem?_map] at hy
            obtain ⟨v, hv, rfl⟩ := Option.map_eq_some_iff.mp hy
            have ⟨v1, v2⟩ := (kn v).mp (List.mem_of_getElem? hv)
            obtain ⟨v3, v4⟩ := I.mem v v1
            walk_at "st"
            refine r_ixL (SqL.of (eN _ _ (G4.lst f1) fun _ y => by cases y)) (oV_at v3 v4) ⟨?_, rfl⟩
            show oV (gtO L v) = V.int ((gtO L (known[i]?.getD 0)).getD 0)
            rw [hv, Option.getD_some]
            cases hg : gtO L v with
            | none => exact absurd hg v2
            | some x => rfl
          · rw [List.getElem?_map] at hy
            obtain ⟨here, hv, rfl⟩ := Option.map_eq_some_iff.mp hy
            have ⟨v1, v2⟩ := (kn here).mp (List.mem_of_getElem? hv)
            obtain ⟨v3, v4⟩ := I.mem here v1
            obtain ⟨x0, hx0⟩ : ∃ x0, gtO L here = some x0 := by
              cases hg : gtO L here with
              | none => exact absurd hg v2
              | some x => exact ⟨x, rfl⟩
            have hmin : ∀ v ∈ left, ∀ y, gtO L v = some y → x0 ≤ y := fun v hvl y hvy => by
              have hvk := (kn v).mpr ⟨hvl, by rw [hvy]; simp⟩
              obtain ⟨j, hj, ej⟩ := List.mem_iff_getElem.mp hvk
              have := (hbest j (by rw [List.length_map]; exact hj)).1
              simp only [hv, Option.getD_some, hx0, List.getElem?_eq_getElem hj, ej, hvy] at this
              exact this
            have M0 := I.mid v1 hx0 hmin
            have G5 : Gx TB [l1, l2] H H5 := G34.call (Gx.ofN eN T5)
            have f1' := eN _ _ (G4.lst f1) fun _ y => by cases y
            have f2' := eN _ _ (G4.lst f2) fun _ y => by cases y
            walk_at "st"
            refine ⟨tyV_lst f2', ?_⟩
            walk_at "st"
            obtain ⟨j, j1, j2, j3⟩ := erase_ix I.nd v1
            refine ⟨l2, left, here, j, rfl, rfl, f2', j1, j2, ?_⟩
            rw [j3]
            have f3 : (upd H5 l2 (.lst ((left.erase here).map V.int))) l2 = _ := upd_same
            have f4 : (upd H5 l2 (.lst ((left.erase here).map V.int))) l1 = some (.lst (L.map oV)) := by rw [upd_ne hne]; exact f1'
            have G6 : Gx TB [l1, l2] H (upd H5 l2 (.lst ((left.erase here).map V.int))) := G5.mut (by simp) f2' trivial
            generalize upd H5 l2 (.lst ((left.erase here).map V.int)) = H6 at *
            have kw := G6.lst k1 (by simp [la1.symm, la2.symm])
            have kg := G6.lst h3 (by simp [lg1.symm, lg2.symm])
            obtain ⟨u, kk1, wa1, wv2, kk2, kk3, kk4⟩ := prd_get k2 (i := here.toNat) (x := wyO ways here) (by
              unfold wyO
              rw [List.getElem?_eq_getElem (by have := h5.len; have := I.len; omega)]; rfl)
            subst kk2
            have b1 := ne_none hH1 kk3
            have b2 := hH2.neL kk3
            have kk5 := G6.lst kk3 (by simp [b1.symm, b2.symm])
            have kkl := prd_len kk4
            walk_at "st"
            refine r_ixL (SqL.of kw) (at_nat v3 kk1) ?_
            refine r_iLH kk5 ?_
            refine for_list (xs := wv2) (fun i σ H7 => ∃ L' o7 o8 o9, σ = [some (.ref l1), some (.ref wa), some (.ref ga), some (.ref l2), o4, some (.ref D), some (.int here), o7, o8, o9] ∧ Gx TB [l1, l2] H H7 ∧ H7 l1 = some (.lst (L'.map oV)) ∧ H7 l2 = some (.lst ((left.erase here).map V.int)) ∧ SpMid ways ws L0 L' (left.erase here) here x0 i)
              ⟨L, _, _, _, rfl, G6, f4, f3, M0⟩ (fun i σ H7 _ ⟨L', o7, o8, o9, es, G7, g1, g2, M⟩ => SqL.of (G7.lst kk3 (by simp [b1.symm, b2.symm]))) (fun i x σ H7 hx ⟨L', o7, o8, o9, es, G7, g1, g2, M⟩ => ?_) fun σ H7 ⟨L', o7, o8, o9, es, G7, g1, g2, M⟩ => ?_
            · subst es
              obtain ⟨⟨k, o⟩, m1, t, m2, m3⟩ := prd_getV kk4 hx
              subst m2
              have m4 := G7.tup m3 (by have y1 := ne_none hH1 m3; have y2 := hH2.neT m3; simp [y1.symm, y2.symm])
              have hm := List.mem_of_getElem? m1
              obtain ⟨w1, w2⟩ := h5.o0 _ _ _ hm
              obtain ⟨w3, w4⟩ := h5.k0 _ _ _ hm
              have ll := M.len
              have kg7 := G7.lst h3 (by simp [lg1.symm, lg2.symm])
              have eh : atI (L'.map oV) here = some (V.int x0) := by
                have := oV_at (L := L') v3 (by rw [ll, ← I.len]; exact v4)
                rw [M.hx] at this; exact this
              have eo : atI (L'.map oV) o = some (oV (gtO L' o)) := oV_at w1 (by omega)
              have ek : atI (ws.map V.int) k = some (V.int (wgO ws k)) := at_ints w3 (by
                unfold wgO
                rw [List.getElem?_eq_getElem (by omega)]; rfl)
              walk_at "st"
              refine r_ixL (SqL.of g1) eh ?_
              walk_at "st"
              refine r_ixL (SqL.of kg7) ek ?_
              walk_at "st"
              refine r_ixL (SqL.of g1) eo ?_
              walk_at "st"
              have put : (∀ y, gtO L' o = some y → x0 + wgO ws k < y) → ∃ L2 o7 o8 o9, [some (.ref l1), some (.ref wa), some (.ref ga), some (.ref l2), o4, some (.ref D), some (.int here), some (.int k), some (.int o), some (.int (x0 + wgO ws k))] = [some (V.ref l1), some (.ref wa), some (.ref ga), some (.ref l2), o4, some (.ref D), some (.int here), o7, o8, o9] ∧ Gx TB [l1, l2] H (upd H7 l1 (.lst ((L'.map oV).set o.toNat (.int (x0 + wgO ws k))))) ∧
                  (upd H7 l1 (.lst ((L'.map oV).set o.toNat (.int (x0 + wgO ws k))))) l1 = some (.lst (L2.map oV)) ∧ (upd H7 l1 (.lst ((L'.map oV).set o.toNat (.int (x0 + wgO ws k))))) l2 = some (.lst ((left.erase here).map V.int)) ∧ SpMid ways ws L0 L2 (left.erase here) here x0 (i + 1) := fun hput =>
                ⟨L'.set o.toNat (some (x0 + wgO ws k)), _, _, _, rfl, G7.mut (by simp) g1 trivial, by rw [upd_same, set_oV], by rw [upd_ne (Ne.symm hne)]; exact g2, M.put h5 m1 hput⟩
              have ix : ixN (L'.map oV).length o = some o.toNat := by
                unfold ixN
                rw [if_pos w1, if_pos (by rw [List.length_map]; omega)]
              cases hg : gtO L' o with
              | none =>
                rw [hg] at put
                refine r_ifP rfl ?_
                walk_at "st"
                refine r_setL g1 ix ?_
                walk_at "st"
                exact put fun y z => by cases z
              | some y =>
                rw [hg] at put eo
                refine r_ifQ (fun z => by cases z) ?_
                walk_at "st"
                refine r_ixL (SqL.of g1) eo ?_
                rw [oV_some]
                walk_at "st"
                refine ifD (fun hlt => ?_) fun hlt => ?_
                · walk_at "st"
                  refine r_setL g1 ix ?_
                  walk_at "st"
                  exact put fun y' z => by cases z; exact hlt
                · walk_at "st"
                  exact ⟨L', _, _, _, rfl, G7, g1, g2, M.skip m1 hg hlt⟩
            · subst es
              walk_at "st"
              refine ⟨⟨L', left.erase here, _, _, _, _, _, _, rfl, G7, g1, g2, M.out (by omega)⟩, ?_⟩
              show (match H7 l2 with | some (.lst xs) => xs.length | _ => 0) < (match H3 l2 with | some (.lst xs) => xs.length | _ => 0)
              rw [g2, f2]
              simp only [List.length_map]
              rw [List.length_erase_of_mem v1]
              omega
    · have e0 : left = [] := List.length_eq_zero_iff.mp (by omega)
      walk_at "st"
      exact fin _ rfl (by rw [e0]; simp)
  · obtain ⟨v, h, p, ys, e0, e00, i, j, e1, e2, k, e3, z⟩ := z
    exact ⟨v, h, p, ys, e0, e00, i, j, e1, e2, k, e3, m _ _ z⟩

theorem sc_label_table : FnScope ["network", "goals", "arcs", "edges", "number", "weights", "ways", "table", "group", "vertex", "labels", "i"] ["network", "goals", "arcs"] (defScope s_label_table) := ⟨rfl, rfl, rfl, by decide +kernel, rfl, by decide +kernel, by decide +kernel⟩
theorem ok_c_label_table {f : Addr} {fd : FuncData} (T : Tx K mg CN CR) (F : FnP K "label_table" "label_table" s_label_table f fd)
  (mN_edges : CalM P w K mg base 1 CN "edges" ["self"] (spmN_edges TB CN CR))
  (c_weight : Cal P w K mg base 1 "weight" ["number", "price"] (spc_weight TB CN CR))
  (c_ways_on : Cal P w K mg base 2 "ways_on" ["network", "arcs"] (spc_ways_on TB CN CR))
  (mN_size : CalM P w K mg base 1 CN "size" ["self"] (spmN_size TB CN CR))
  (c_joined : Cal P w K mg base 2 "joined" ["table", "group", "vertex"] (spc_joined TB CN CR))
  (c_spread : Cal P w K mg base 4 "spread" ["labels", "ways", "weights"] (spc_spread TB CN CR)) : FnOk P w K mg base CX0 5 f fd ["network", "goals", "arcs"] (spc_label_table TB CN CR) := by
  refine F.ok (k := 4) sc_label_table (fun vs H Q E h => by obtain ⟨a, ga, n, es, goals, rfl, _⟩ := h; rfl) (fun cdv A outer s H vs Q E hr h => ?_)
  have hu := hu_of hr
  have z1 := T.clN
  have z2 := T.clR
  have z3 := T.a_size
  have z4 := T.a_edges
  have z5 := T.r_size
  have z6 := T.r_terminals
  have z7 := T.r_edges
  have z8 := T.r_origins
  have z9 := T.r_next
  obtain ⟨a, ga, n, es, goals, rfl, h⟩ := h
  refine ⟨_, PSs.nox (pss_cons (ps_set (i := 3) sc_label_table.nd rfl (Or.inr rfl) (pe_m0 mN_edges (pv 0) T.clN (hr.mono (by decide))))
    (pss_cons (ps_setLc (i := 5) (own := [("number", 4)]) rfl sc_label_table.nd rfl rfl (sw_true rfl rfl rfl (by decide +kernel))   (pi_range1 (by rfl) T.n_range (pa_cons (pe_callB (lenQ (K := K)) (by rfl) T.n_len (by decide +kernel) (pa_cons (pv 3) pa_nil)) pa_nil)) (blkOk_by (own := [("number", 4)]) (N := ["network", "goals", "arcs", "edges", "number", "weights", "ways", "table", "group", "vertex", "labels", "i"]) (sc := defScope s_label_table) (by decide +kernel)) (fun _ _ _ _ _ => pg_name (i := 4) sc_label_table.nd rfl (Or.inl rfl)) (fun _ _ _ _ _ => pts_nil) (fun _ _ _ _ _ => (pe_c c_weight (hr.mono (by decide)) rfl (pa_cons (pv 4) (pa_cons (pe_ix (ixT (K := K)) (pe_ix (ixL (K := K)) (pv 3) (pv 4) (fun _ _ => rfl)) pe_int (fun _ _ => rfl)) pa_nil)))))
    (pss_cons (ps_set (i := 6) sc_label_table.nd rfl (Or.inl rfl) (pe_c c_ways_on (hr.mono (by decide)) rfl (pa_cons (pv 0) (pa_cons (pv 2) pa_nil))))
    (pss_cons (ps_set (i := 7) sc_label_table.nd rfl (Or.inr rfl) (pe_lst (pa_cons (pe_lst pa_nil) pa_nil)))
    (pss_cons (ps_for PassesOwn.never rfl (pi_range2 (by rfl) T.n_range (pa_cons pe_int (pa_cons (pe_op op_shl pe_int (pe_callB (lenQ (K := K)) (by rfl) T.n_len (by decide +kernel) (pa_cons (pv 1) pa_nil))) pa_nil))) (pg_name (i := 8) sc_label_table.nd rfl (Or.inr rfl))
      (pss_cons (ps_setLc (i := 10) (own := [("vertex", 9)]) rfl sc_label_table.nd rfl rfl (sw_true rfl rfl rfl (by decide +kernel))   (pi_range1 (by rfl) T.n_range (pa_cons (pe_m0 mN_size (pv 0) T.clN (hr.mono (by decide))) pa_nil)) (blkOk_by (own := [("vertex", 9)]) (N := ["network", "goals", "arcs", "edges", "number", "weights", "ways", "table", "group", "vertex", "labels", "i"]) (sc := defScope s_label_table) (by decide +kernel)) (fun _ _ _ _ _ => pg_name (i := 9) sc_label_table.nd rfl (Or.inl rfl)) (fun _ _ _ _ _ => pts_nil) (fun _ _ _ _ _ => (pe_c c_joined (hr.mono (by decide)) rfl (pa_cons (pv 7) (pa_cons (pv 8) (pa_cons (pv 9) pa_nil))))))
    (pss_cons (ps_for PassesOwn.never rfl (pi_range1 (by rfl) T.n_range (pa_cons (pe_callB (lenQ (K := K)) (by rfl) T.n_len (by decide +kernel) (pa_cons (pv 1) pa_nil)) pa_nil)) (pg_name (i := 11) sc_label_table.nd rfl (Or.inl rfl))
      (pss_one (ps_if (pt_cmpR op_eq (pv 8) (pe_op op_shl pe_int (pv 11)) (nomark _)) (pss_one (ps_asg pe_int (pg_sub (pv 10) (pe_ix (ixL (K := K)) (pv 1) (pv 11) (fun _ _ => rfl)) set_list))) pss_nil)))
    (pss_one (ps_expr (bm (K := K) (pe_bm PySem.F.plainAttrs_list PySem.F.slot_list_append PySem.F.type_list_append mt_append (pv 7) (pa_cons (pe_c c_spread (hr.mono (by decide)) rfl (pa_cons (pv 10) (pa_cons (pv 6) (pa_cons (pv 5) pa_nil)))) pa_nil))))))))
    (pss_one (ps_ret (pv 7)))))))), ?_⟩
  obtain ⟨h1, h2, h3, h4, h5, h6, q⟩ := h
  obtain ⟨dx, ea, h7, h8⟩ := id h1
  obtain ⟨g1, g2, g3, g4⟩ := id h2
  walk_at "st"
  refine ⟨a, n, es, rfl, h1, fun l H1 hl G1 r1 => ?_⟩
  obtain ⟨us, k1, k2⟩ := r1.lst
  have kl := prd_len k2
  walk_at "st"
  refine fun D hD => lc_rangeR (T := TB) (R := RI) mI (fun i => some (Wn es i)) hD (by rw [sizeLine_eq]; omega) (fun i H2 N KY hi G2 _ hne hy hn => ?_) fun H2 G2 r2 => ?_
  · have hi2 : i < es.length := by omega
    obtain ⟨u, m1, e, m2, m3⟩ := prd_get k2 (List.getElem?_eq_getElem hi2)
    subst m2
    have m4 := G2.tup m3
    have pg := g4 _ (List.getElem_mem hi2)
    walk_at "st"
    refine ⟨rfl, ?_⟩
    walk_at "st"
    refine r_ixL (SqL.of (G2.lst k1)) (at_nat (by omega) (by rw [show ((0:Int) + (i:Int)).toNat = i by omega]; exact m1)) ?_
    walk_at "st"
    refine ⟨_, _, rfl, by omega, by omega, pg.p0, pg.p1, ?_⟩
    refine hy _ _ _ rfl Gx.refl ?_
    unfold Wn
    rw [List.getElem?_eq_getElem hi2, Int.zero_add]; rfl
  · have r3 := r2.ints
    have e3 : (List.range (us.length : Int).toNat).filterMap (fun i => some (Wn es i)) = wsF es := by
      rw [show (us.length : Int).toNat = es.length by omega]
      unfold wsF
      rw [← List.filterMap_eq_map]; rfl
    rw [e3] at r3
    have G3 := G1.trans G2
    walk_at "st"
    refine ⟨a, n, es, rfl, h1.mono G3.extN, h2, fun wa H4 G4 r4 => ?_⟩
    have G34 := G3.trans G4
    have n4 := h1.mono G34.extN
    have w4 := G4.lst r3
    have ga4 := G34.lst h3
    walk_at "st"
    refine ⟨by decide, fun p0 hp0 => ?_⟩
    have G5 : Gx TB [] H4 (upd H4 p0 (.lst [])) := Gx.refl.new hp0
    have f0 : (upd H4 p0 (.lst [])) p0 = some (.lst []) := upd_same
    generalize upd H4 p0 (.lst []) = H5 at *
    walk_at "st"
    refine ⟨by simp [sizeLine_eq], fun ta hta => ?_⟩
    have hne := ne_none hta f0
    have G6 := G5.new (o := .lst [V.ref p0]) hta
    have A6 : Acc (RL RO) ta (upd H5 ta (.lst [V.ref p0])) [[]] := ⟨[V.ref p0], upd_same, .cons ⟨p0, [], rfl, by rw [minus_ne hne.symm, upd_ne hne.symm]; exact f0, .nil⟩ .nil⟩
    have hta4 : Off H4 ta := G5.off (Off.none hta)
    generalize upd H5 ta (.lst [V.ref p0]) = H6 at *
    have ga6 := G6.lst ga4
    walk_at "st"
    have k8 : (2:Nat) ^ goals.length ≤ 8 := by
      have : (2:Nat) ^ goals.length ≤ 2 ^ 3 := Nat.pow_le_pow_right (by decide) h4
      exact this
    have k1' : 1 ≤ (2:Nat) ^ goals.length := Nat.two_pow_pos _
    have ek : (1:Int) * 2 ^ ((goals.length : Nat) : Int).toNat = ((2 ^ goals.length : Nat) : Int) := by
      rw [Int.one_mul, Int.toNat_natCast, Int.natCast_pow]; rfl
    rw [ek]
    refine r_iR2At (by omega) ?_
    rw [show ((((2 ^ goals.length : Nat) : Int)) - 1).toNat = 2 ^ goals.length - 1 by omega]
    refine for_range (fun i σ H7 => ∃ tb o4 o8 o9 o10 o11, σ = [some (.ref a), some (.ref ga), some (.bl false), some (.ref l), o4, some (.ref D), some (.ref wa), some (.ref ta), o8, o9, o10, o11] ∧ Gx TB [ta] H4 H7 ∧ Acc (RL RO) ta H7 tb ∧ TabInv es n goals (1 + i) tb) ⟨_, _, _, _, _, _, rfl, G6.mono (by simp), A6, TabInv.start⟩ (fun i σ H7 hi ⟨tb, o4, o8, o9, o10, o11, es', G7, A7, I⟩ => ?_) fun σ H7 ⟨tb, o4, o8, o9, o10, o11, es', G7, A7, I⟩ => ?_
    · subst es'
      have G47 := G7.drop hta4
      have eG : (1:Int) + (i:Int) = ((1 + i : Nat) : Int) := by omega
      rw [eG]
      generalize hGi : 1 + i = Gi at *
      have n7 := n4.mono G47.extN
      have rt := A7.out (mL mO)
      obtain ⟨dx7, ea7, nn7, _⟩ := id n7
      walk_at "st"
      refine ⟨a, n, es, rfl, n7, ?_⟩
      walk_at "st"
      refine fun la0 hla0 => lc_rangeR (T := TB) (R := RO) mO (fun v => some (joinF tb Gi v)) hla0 (by rw [sizeLine_eq]; omega) (fun v H8 N KY hv G8 _ hne8 hy hn => ?_) fun H8 G8 r8 => ?_
      · walk_at "st"
        refine ⟨rfl, ?_⟩
        walk_at "st"
        refine ⟨_, _, _, tb, rfl, by omega, by omega, by omega, mL (mL mO) _ _ _ _ G8.extN rt, fun j j1 j2 => ?_, fun H9 G9 => ?_⟩
        · have hj : j.toNat < tb.length := by rw [I.len]; omega
          refine ⟨_, List.getElem?_eq_getElem hj, ?_⟩
          rw [I.row j.toNat (by omega) _ (List.getElem?_eq_getElem hj)]
          omega
        · refine hy _ _ _ rfl G9 ?_
          rw [Int.zero_add]; exact ro_oV _
      · obtain ⟨vs8, q1, q2⟩ := r8.lst
        have e8 : (List.range n.toNat).filterMap (fun (v : Nat) => some (joinF tb Gi v)) = baseN tb Gi goals n.toNat 0 := by
          unfold baseN
          rw [← List.filterMap_eq_map]; rfl
        rw [prd_oV q2, e8] at q1
        have ga8 := (G47.trans G8).lst ga4
        walk_at "st"
        refine for_range (fun j σ H9 => ∃ o11, σ = [some (.ref a), some (.ref ga), some (.bl false), some (.ref l), o4, some (.ref D), some (.ref wa), some (.ref ta), some (.int (Gi : Nat)), o9, some (.ref la0), o11] ∧ Gx TB [la0] H7 H9 ∧ H9 la0 = some (.lst ((baseN tb Gi goals n.toNat j).map oV))) ⟨_, rfl, G8.mono (by simp), q1⟩ (fun j σ H9 hj ⟨o11, es', G9, f9⟩ => ?_) fun σ H9 ⟨o11, es', G9, f9⟩ => ?_
        · subst es'
          have hj2 : j < goals.length := by omega
          have G79 := G9.drop (Off.none hla0)
          have G49 := G47.trans G79
          have ga9 := G49.lst ga4
          have ej : (1:Int) * 2 ^ ((0:Int) + (j:Int)).toNat = ((2 ^ j : Nat) : Int) := by
            rw [Int.one_mul, Int.zero_add, Int.toNat_natCast, Int.natCast_pow]; rfl
          have eb : baseN tb Gi goals n.toNat (j + 1) = if Gi = 2 ^ j then (baseN tb Gi goals n.toNat j).set (goals[j]?.getD 0).toNat (some 0) else baseN tb Gi goals n.toNat j := rfl
          rw [eb]
          obtain ⟨t0, t1⟩ := h5 _ (List.getElem_mem hj2)
          walk_at "st"
          rw [ej]
          refine ifD (fun hz => ?_) fun hz => ?_
          · rw [if_pos (by omega), List.getElem?_eq_getElem hj2, Option.getD_some]
            walk_at "st"
            refine r_ixL (SqL.of ga9) (at_ints (by omega) (by rw [show ((0:Int) + (j:Int)).toNat = j by omega]; exact List.getElem?_eq_getElem hj2)) ?_
            walk_at "st"
            refine r_setL f9 (j := goals[j].toNat) (by
              unfold ixN
              rw [if_pos t0, if_pos (by rw [List.length_map, baseN_len]; omega)]) ?_
            walk_at "st"
            refine ⟨_, rfl, G9.mut (by simp) f9 trivial, ?_⟩
            rw [upd_same, show V.int 0 = oV (some 0) from rfl, ← List.map_set]
          · rw [if_neg (by omega)]
            walk_at "st"
            exact ⟨_, rfl, G9, f9⟩
        · subst es'
          have G79 := G9.drop (Off.none hla0)
          have G49 := G47.trans G79
          rw [show ((goals.length : Nat) : Int).toNat = goals.length by omega] at f9
          have A9 := A7.grow (mL mO) G79.extN
          obtain ⟨tvs, a1, a2⟩ := id A9
          walk_at "st"
          refine ⟨tyV_lst a1, ?_⟩
          walk_at "st"
          refine ⟨_, _, _, _, _, _, rfl, f9, mL (mL mP) _ _ _ _ G49.extN r4, G49.lst w4, by rw [baseN_len]; omega, by rw [baseN_len]; exact ways_ok g4 (by omega), G49.tab (G34.tab h6), fun p H10 L hp G10 f10 S => ?_⟩
          have A10 := A9.grow (mL mO) G10.extN
          obtain ⟨tvs2, b1, b2⟩ := id A10
          have hpt := ne_none hp a1
          walk_at "st"
          refine r_append b1 (by have := prd_len b2; have := I.len; rw [sizeLine_eq]; omega) ?_
          walk_at "st"
          have G710 := (G79.trans G10)
          refine ⟨_, _, _, _, _, _, rfl, (G7.call G710).mut (by simp) b1 trivial, Acc.push A10 b1 ⟨p, _, rfl, by rw [minus_ne hpt]; exact f10, oV_prd L⟩, ?_⟩
          have St := I.step g4 g1 h5 h4 (by omega) (by omega) S
          rw [show 1 + (i + 1) = Gi + 1 by omega]
          exact St
    · subst es'
      rw [show 1 + (2 ^ goals.length - 1) = 2 ^ goals.length by omega] at I
      walk_at "st"
      exact q _ _ _ (G34.trans (G7.drop hta4)) (A7.out (mL mO)) I

theorem sc_told_tree : FnScope ["network", "terminals", "label"] ["network", "terminals"] (defScope s_told_tree) := ⟨rfl, rfl, rfl, by decide +kernel, rfl, by decide +kernel, by decide +kernel⟩
theorem ok_c_told_tree {f : Addr} {fd : FuncData} (T : Tx K mg CN CR) (F : FnP K "told_tree" "told_tree" s_told_tree f fd)
  (c_check_terminals : Cal P w K mg base 2 "check_terminals" ["network", "terminals", "most"] (spc_check_terminals TB CN CR))
  (c_label_table : Cal P w K mg base 5 "label_table" ["network", "goals", "arcs"] (spc_label_table TB CN CR))
  (c_edges_of : Cal P w K mg base 1 "edges_of" ["label"] (spc_edges_of TB CN CR)) : FnOk P w K mg base CX0 6 f fd ["network", "terminals"] (spc_told_tree TB CN CR) := by
  refine F.ok (k := 5) sc_told_tree (fun vs H Q E h => by obtain ⟨a, t, n, es, ts, rfl, _⟩ := h; rfl) (fun cdv A outer s H vs Q E hr h => ?_)
  have hu := hu_of hr
  have z1 := T.clN
  have z2 := T.clR
  have z3 := T.a_size
  have z4 := T.a_edges
  have z5 := T.r_size
  have z6 := T.r_terminals
  have z7 := T.r_edges
  have z8 := T.r_origins
  have z9 := T.r_next
  obtain ⟨a, t, n, es, ts, rfl, h⟩ := h
  refine ⟨_, PSs.nox (pss_cons (ps_expr (pe_c c_check_terminals (hr.mono (by decide)) rfl (pa_cons (pv 0) (pa_cons (pv 1) (pa_cons (pe_gi rfl T.c_MOST_TERMINALS) pa_nil)))))
    (pss_cons (ps_if (pt_cmpR op_eq (pe_callB (lenQ (K := K)) (by rfl) T.n_len (by decide +kernel) (pa_cons (pv 1) pa_nil)) pe_int (nomark _)) (pss_one (ps_ret (pe_lst pa_nil))) pss_nil)
    (pss_cons (ps_set (i := 2) sc_told_tree.nd rfl (Or.inl rfl) (pe_ix (ixL (K := K)) (pe_ix (ixL (K := K)) (pe_c c_label_table (hr.mono (by decide)) rfl (pa_cons (pv 0) (pa_cons (pe_slice (slL (K := K)) (pv 1) po_none (po_some (pe_un un_neg pe_int))) (pa_cons pe_bl pa_nil)))) (pe_un un_neg pe_int) (fun _ _ => rfl)) (pe_ix (ixL (K := K)) (pv 1) (pe_un un_neg pe_int) (fun _ _ => rfl)) (fun _ _ => rfl)))
    (pss_one (ps_ret (pe_ifExp (pt_cmpR op_isN (pv 2) pe_non (nomark _)) pe_non (pe_c c_edges_of (hr.mono (by decide)) rfl (pa_cons (pv 2) pa_nil)))))))), ?_⟩
  obtain ⟨h1, h2, h3, h4, h5, q⟩ := h
  obtain ⟨dx, ea, h7, h8⟩ := id h1
  obtain ⟨g1, g2, g3, g4⟩ := id h4
  walk_at "st"
  refine ⟨a, t, n, es, ts, rfl, h1, h3, h4, fun H1 G1 => ?_⟩
  have k3 := G1.lst h3
  walk_at "st"
  refine ifD (fun hb => ?_) fun hb => ?_
  · walk_at "st"
    refine ⟨by decide, fun p hp => ?_⟩
    obtain ⟨x, rfl⟩ : ∃ x, ts = [x] := by
      match ts, hb with
      | [x], _ => exact ⟨x, rfl⟩
      | [], hb => simp at hb
      | _ :: _ :: _, hb => simp at hb; omega
    exact q _ _ (some []) (G1.new hp) ⟨p, rfl, upd_same⟩ (told_one es x fun e he => (h2.all e he).p0)
  · walk_at "st"
    obtain ⟨goals, v, rfl⟩ : ∃ goals v, ts = goals ++ [v] := ⟨ts.take (ts.length - 1), ts[ts.length - 1]'(by omega), by
      rw [← List.take_succ_eq_append_getElem, show ts.length - 1 + 1 = ts.length by omega, List.take_length]⟩
    rw [List.length_append, List.length_singleton] at g1 g2 hb
    refine r_slL (T := TB) (SqL.of k3) fun l H2 hl G2 k5 => ?_
    rw [cut_last, List.length_map, List.length_append, List.length_singleton, Nat.add_sub_cancel, ← List.map_take, List.take_left] at k5
    have G12 := G1.trans G2
    have k6 := G2.lst k3
    have hr : ∀ t ∈ goals, 0 ≤ t ∧ t < n := fun t ht => g3 t (by simp [ht])
    obtain ⟨v0, v1⟩ := g3 v (by simp)
    have nd := (List.nodup_append.mp g4).1
    walk_at "st"
    refine ⟨a, l, n, es, goals, rfl, h1.mono G12.extN, h2, k5, by omega, hr, G12.tab h5, fun tp H3 tb G3 r3 I => ?_⟩
    obtain ⟨told1, told2⟩ := told_of I h2.all hr (by omega) (by omega) nd h2.len v0 v1
    obtain ⟨rows, m1, m2⟩ := r3.lst
    have h2k : 2 ≤ 2 ^ goals.length := by
      have : (2:Nat) ^ 1 ≤ 2 ^ goals.length := Nat.pow_le_pow_right (by decide) (by omega)
      simpa using this
    have hlast : 2 ^ goals.length - 1 < tb.length := by rw [I.len]; omega
    obtain ⟨u, m3, ra, os, m4, m5, m6⟩ := prd_get m2 (List.getElem?_eq_getElem hlast)
    subst m4
    have hrow := I.row (2 ^ goals.length - 1) (by omega) _ (List.getElem?_eq_getElem hlast)
    have hat : atI rows (-1) = some (V.ref ra) := by
      have hl2 := prd_len m2
      unfold atI ixN
      rw [if_neg (by decide), if_pos (by have := I.len; omega), Option.bind_some]
      rw [show (-1 + (rows.length : Int)).toNat = 2 ^ goals.length - 1 by have := I.len; omega]
      exact m3
    have hat2 : atI ((goals ++ [v]).map V.int) (-1) = some (V.int v) := by
      unfold atI ixN
      rw [if_neg (by decide), if_pos (by simp; omega), Option.bind_some]
      rw [show (-1 + (((goals ++ [v]).map V.int).length : Int)).toNat = goals.length by simp; omega]
      simp
    have hat3 : atI os v = some (oV (labT tb (2 ^ goals.length - 1 : Nat) v)) := by
      rw [prd_oV m6]
      refine at_nat v0 ?_
      unfold labT
      rw [Int.toNat_natCast, List.getElem?_eq_getElem hlast, Option.bind_some, List.getElem?_map, List.getElem?_eq_getElem (by rw [hrow]; omega)]
      rfl
    have k7 := G3.lst k6
    walk_at "st"
    refine r_ixL (SqL.of m1) hat ?_
    walk_at "st"
    refine r_ixL (SqL.of k7) hat2 ?_
    refine r_ixL (SqL.of m5) hat3 ?_
    walk_at "st"
    have G13 := G12.trans G3
    cases hlab : labT tb (2 ^ goals.length - 1 : Nat) v with
    | none =>
      refine r_ifP rfl ?_
      walk_at "st"
      exact q _ _ none G13 rfl (told1 hlab)
    | some x =>
      obtain ⟨p, c, t', w1, w2, w3, w4, w5, w6, w7⟩ := told2 x hlab
      refine r_ifQ (fun z => by cases z) ?_
      walk_at "st"
      refine ⟨x, p, c, t', rfl, w1, w2, w3, w4, w5, w6, fun b H4 G4 f4 => ?_⟩
      exact q _ _ (some _) (G13.trans G4) ⟨b, rfl, f4⟩ w7
end TW
end

section
set_option Elab.async false
set_option linter.all false
set_option maxRecDepth 100000
set_option maxHeartbeats 1000000
set_option exponentiation.threshold 600
namespace TW
open PySem PySem.Spec PyProof.Rows L2 LamX NdefX StX
variable {P : Program} {w : World} {K : PySem.W.Frag} {mg : Str → Option Value} {base : Heap} {CN CR : Addr} {TB : Tbs}
local macro_rules | `(tactic| walk_at "s1") => `(tactic| first
  | with_reducible refine r_seq ?_
  | with_reducible refine r_set ?_
  | with_reducible refine r_var (by with_unfolding_all rfl) ?_
  | with_reducible refine r_c ?_
  | with_reducible refine r_op ?_
  | with_reducible refine r_cons ?_
  | with_reducible refine r_nil ?_
  | with_reducible refine r_I0 ?_
  | with_reducible refine r_test ?_
  | with_reducible refine r_blk ?_
  | with_reducible refine r_ifT ?_
  | with_reducible refine r_ifF ?_
  | with_reducible refine r_ifNT ?_
  | with_reducible refine r_ifNF ?_
  | with_reducible refine r_aug (by with_unfolding_all rfl) ?_
  | with_reducible refine r_ipI ?_
  | with_reducible refine r_ifs0 ?_
  | with_reducible refine r_ifs1 ?_
  | with_reducible refine r_ifsN ?_
  | with_reducible refine r_ifsS ?_
  | with_reducible refine r_if ?_
  | with_reducible refine r_fld ?_
  | with_reducible refine r_fldC (by assumption) (by assumption) (by assumption) (by first | exact lkN_size | exact lkN_edges | exact lkR_size | exact lkR_terminals | exact lkR_edges | exact lkR_origins | exact lkR_next) ?_
  | with_reducible refine r_eqI ?_
  | with_reducible refine r_neI ?_
  | with_reducible refine r_eqS ?_
  | with_reducible refine r_cl ?_
  | with_reducible refine r_cb ?_
  | with_reducible refine r_mt ?_
  | with_reducible refine r_mtAt (by assumption) (by first | exact lkN_msize | exact lkN_medges | exact lkR_around | exact lkR_other_end | exact lkR_ends_around | exact lkR_is_inner | exact lkR_is_leaf | exact lkR_is_series | exact lkR_is_longer | exact lkR_holds | exact lkR_drop | exact lkR_join | exact lkR_apply | exact lkR_paths_from | exact lkR_walk_for | exact lkR_rows_by_vertices | exact lkR_rows_by_edges) ?_
  | with_reducible refine r_dget ?_
  | with_reducible refine r_ret ?_
  | with_reducible refine r_nx ?_
  | with_reducible refine r_yes ?_
  | with_reducible refine r_drop ?_
  | with_reducible refine r_asg ?_
  | with_reducible refine r_gN ?_
  | with_reducible refine r_gT3 (by assumption) (by with_unfolding_all rfl) ?_
  | with_reducible refine r_gT2 (by assumption) (by with_unfolding_all rfl) ?_
  | with_reducible refine r_or ?_
  | with_reducible refine r_and ?_
  | with_reducible refine r_not ?_
  | with_reducible refine r_andV ?_
  | with_reducible refine r_orV ?_
  | with_reducible refine r_notV ?_
  | with_reducible refine r_chain ?_
  | with_reducible refine r_ifE ?_
  | with_reducible refine r_B ?_
  | with_reducible refine r_tup ?_
  | with_reducible refine r_lst ?_
  | with_reducible refine r_sl ?_
  | with_reducible refine r_noP ?_
  | with_reducible refine r_part ?_
  | with_reducible refine r_intC ?_
  | with_reducible refine r_din ?_
  | with_reducible refine r_dni ?_
  | with_reducible refine r_iL ?_
  | with_reducible refine r_iT ?_
  | with_reducible refine r_iR1 ?_
  | with_reducible refine r_iR2 ?_
  | with_reducible refine r_un ?_
  | with_reducible refine r_U ?_
  | with_reducible refine r_sFld ?_
  | with_reducible refine r_sFldAug ?_
  | with_reducible refine r_dput ?_
  | with_reducible refine r_ddel ?_
  | with_reducible refine r_bm ?_
  | with_reducible refine r_for ?_
  | with_reducible refine r_lc ?_
  | with_reducible refine r_dc ?_
  | with_reducible refine r_subset ?_
  | with_reducible refine r_intI ?_
  | with_reducible refine r_intB ?_
  | with_reducible refine r_absI ?_
  | with_reducible refine r_min2I ?_
  | with_reducible refine r_mk ?_
  | with_reducible refine r_star ?_
  | with_reducible refine r_starAt (by assumption) ?_
  | with_reducible refine r_pop1 ?_
  | with_reducible refine r_popAt (by assumption) ?_
  | with_reducible refine r_get1 ?_
  | with_reducible refine r_minK ?_
  | with_reducible refine r_lstRg ?_
  | with_reducible refine r_rg1 ?_
  | with_reducible refine r_eqN ?_
  | with_reducible refine r_lenI (by assumption) ?_
  | with_reducible refine r_lenH (by assumption) ?_
  | with_reducible refine r_ix0 (by assumption) ?_
  | with_reducible refine r_ix1 (by assumption) ?_
  | with_reducible refine r_ix2 (by assumption) ?_
  | with_reducible refine r_I (by first | decide | (unfold CPow; omega) | (unfold CDiv; omega) | (unfold CMul; omega) | omega) ?_
  | with_reducible refine r_iR1At (by omega) ?_
  | with_reducible refine r_ifP (by first | omega | exact rfl) ?_
  | with_reducible refine r_ifQ (by first | omega | with_unfolding_all decide) ?_
  | with_reducible refine r_ifNP (by omega) ?_
  | with_reducible refine r_ifNQ (by omega) ?_)
local macro_rules | `(tactic| walk_at "st") => `(tactic| repeat walk_at "s1")

theorem sc_Rest_other_end : FnScope ["self", "number", "vertex", "u", "v", "_"] ["self", "number", "vertex"] (defScope sR_other_end) := ⟨rfl, rfl, rfl, by decide +kernel, rfl, by decide +kernel, by decide +kernel⟩
theorem ok_m_other_end {f : Addr} {fd : FuncData} (T : Tx K mg CN CR) (F : FnP K "other_end" "Rest.other_end" sR_other_end f fd)
   : FnOk P w K mg base CX0 1 f fd ["self", "number", "vertex"] (spm_other_end TB CN CR) := by
  refine F.ok (k := 0) sc_Rest_other_end (fun vs H Q E h => by obtain ⟨r, k, v, n, ts, S, nx, de, oa, x, rfl, _⟩ := h; rfl) (fun cdv A outer s H vs Q E hr h => ?_)
  have hu := hu_of hr
  have z1 := T.clN
  have z2 := T.clR
  have z3 := T.a_size
  have z4 := T.a_edges
  have z5 := T.r_size
  have z6 := T.r_terminals
  have z7 := T.r_edges
  have z8 := T.r_origins
  have z9 := T.r_next
  obtain ⟨r, k, v, n, ts, S, nx, de, oa, x, rfl, h⟩ := h
  refine ⟨_, PSs.nox (pss_cons (ps_asg (pe_dget hu (fld (K := K) (pv 0)) (pv 1) (fun _ _ => rfl)) (gT (K := K) (pgs_cons (pg_name (i := 3) sc_Rest_other_end.nd rfl (Or.inl rfl)) (pgs_cons (pg_name (i := 4) sc_Rest_other_end.nd rfl (Or.inl rfl)) (pgs_cons (pg_name (i := 5) sc_Rest_other_end.nd rfl (Or.inl rfl)) pgs_nil)))))
    (pss_one (ps_ret (pe_op op_sub (pe_op op_add (pv 3) (pv 4)) (pv 2))))), ?_⟩
  obtain ⟨h1, h2, q⟩ := h
  obtain ⟨dx, ta, ekv, okv, i1, i2, i3, i4, i5, i6, i7⟩ := h1.ex
  obtain ⟨_, e2⟩ | ⟨u, y, e1, e2, a, e3, e4⟩ := prd_val (R := fun v x => RE H v x.1) i6 k
  · rw [h2] at e2; cases e2
  · rw [h2] at e2; cases e2
    subst e3
    walk_at "st"
    refine r_dgetC i3 e1 ?_
    walk_at "st"
    exact q

theorem sc_Rest_around : FnScope ["self", "vertex", "number"] ["self", "vertex"] (defScope sR_around) := ⟨rfl, rfl, rfl, by decide +kernel, rfl, by decide +kernel, by decide +kernel⟩
theorem around_eq {S : List En} (h : (S.map (·.1)).Pairwise (· < ·)) (v : Int) : (S.map (·.1)).filterMap (fun k => match S.lookup k with | some x => if v = x.1.1 ∨ v = x.1.2.1 then some k else none | none => none) = aroundF S v := by
  have key : ∀ L : List En, (∀ s ∈ L, S.lookup s.1 = some s.2) → (L.map (·.1)).filterMap (fun k => match S.lookup k with | some x => if v = x.1.1 ∨ v = x.1.2.1 then some k else none | none => none) = (L.filter (inc v)).map (·.1) := fun L => by
    induction L with
    | nil => exact fun _ => rfl
    | cons s r ih =>
      intro hL
      have ih := ih fun t ht => hL t (by simp [ht])
      have hs := hL s (by simp)
      rw [List.map_cons, List.filterMap_cons, hs, List.filter_cons]
      unfold inc at ih ⊢
      by_cases z : v = s.2.1.1 ∨ v = s.2.1.2.1
      · simp only [if_pos z, decide_eq_true z, if_pos, List.map_cons]; rw [ih]
      · simp only [if_neg z, decide_eq_false z]; rw [ih]; rfl
  exact key S fun s hs => lookup_of h hs
theorem ok_m_around {f : Addr} {fd : FuncData} (T : Tx K mg CN CR) (F : FnP K "around" "Rest.around" sR_around f fd)
   : FnOk P w K mg base CX0 1 f fd ["self", "vertex"] (spm_around TB CN CR) := by
  refine F.ok (k := 0) sc_Rest_around (fun vs H Q E h => by obtain ⟨r, v, n, ts, S, nx, de, oa, rfl, _⟩ := h; rfl) (fun cdv A outer s H vs Q E hr h => ?_)
  have hu := hu_of hr
  have z1 := T.clN
  have z2 := T.clR
  have z3 := T.a_size
  have z4 := T.a_edges
  have z5 := T.r_size
  have z6 := T.r_terminals
  have z7 := T.r_edges
  have z8 := T.r_origins
  have z9 := T.r_next
  obtain ⟨r, v, n, ts, S, nx, de, oa, rfl, h⟩ := h
  refine ⟨_, PSs.nox (pss_one (ps_ret (pe_lc (own := [("number", 2)]) (by rfl) sc_Rest_around.nd (iL (K := K) (pe_callB sortedQD (by rfl) T.n_sorted (by decide +kernel) (pa_cons (fld (K := K) (pv 0)) pa_nil))) (blkOk_by (own := [("number", 2)]) (N := ["self", "vertex", "number"]) (sc := defScope sR_around) (by decide +kernel)) (fun _ _ _ _ _ => pg_name (i := 2) sc_Rest_around.nd rfl (Or.inl rfl)) (fun _ _ _ _ _ => pts_one (pt_cmpR (inL (K := K)) (pv 1) (pe_slice (slT (K := K)) (pe_dget hu (fld (K := K) (pv 0)) (pv 2) (fun _ _ => rfl)) po_none (po_some pe_int)) (by rfl))) (fun _ _ _ _ _ => (pv 2))))), ?_⟩
  obtain ⟨h1, h2, q⟩ := h
  obtain ⟨dx, ta, ekv, okv, i1, i2, i3, i4, i5, i6, i7⟩ := h1.ex
  walk_at "st"
  refine h1.sorted (TB := TB) h2 fun p H1 hp G1 k1 => ?_
  refine r_iLH k1 fun D hD => lc_listR (T := TB) (R := RI) (F := RI) mI mI (fun k => match S.lookup k with | some x => if v = x.1.1 ∨ v = x.1.2.1 then some k else none | none => none) hD k1 (ints_prd _) (by rw [List.length_map, sizeLine_eq]; have := h2.2; omega) (fun k x H2 N KY hk hx G2 _ hne hy hn => ?_) fun H2 G2 r2 => ?_
  · subst hx
    obtain ⟨s, hs, rfl⟩ := List.mem_map.mp hk
    have hlk := lookup_of h2.asc hs
    have h3 := (h1.mono (G1.trans G2).extN)
    obtain ⟨dx, ta, ekv, okv, i1, i2, i3, i4, i5, i6, i7⟩ := h3.ex
    obtain ⟨_, e2⟩ | ⟨u, y, e1, e2, a, e3, e4⟩ := prd_val (R := fun v x => RE H2 v x.1) i6 s.1
    · rw [hlk] at e2; cases e2
    · rw [hlk] at e2; cases e2
      subst e3
      walk_at "st"
      refine ⟨rfl, ?_⟩
      walk_at "st"
      refine r_dgetC i3 e1 ?_
      walk_at "st"
      refine r_slT2 (T := TB) e4 fun p3 H3 hp3 G3 k3 => ?_
      refine r_inT2 k3 ?_
      walk_at "st"
      refine ifD (fun hz => ?_) fun hz => ?_
      · walk_at "st"
        exact hy s.1 _ _ (by rw [hlk]; exact if_pos hz) G3 rfl
      · exact hn _ (by rw [hlk]; exact if_neg hz) G3
  · have r3 := r2.ints
    rw [around_eq h2.asc] at r3
    exact q _ _ (G1.trans G2) r3

theorem sc_Rest_ends_around : FnScope ["self", "vertex", "number"] ["self", "vertex"] (defScope sR_ends_around) := ⟨rfl, rfl, rfl, by decide +kernel, rfl, by decide +kernel, by decide +kernel⟩
theorem ends_eq {S : List En} (h : (S.map (·.1)).Pairwise (· < ·)) (v : Int) : (aroundF S v).filterMap (fun k => (S.lookup k).map fun x => x.1.1 + x.1.2.1 - v) = endsF S v := by
  have key : ∀ L : List En, (∀ s ∈ L, S.lookup s.1 = some s.2) → (L.map (·.1)).filterMap (fun k => (S.lookup k).map fun x => x.1.1 + x.1.2.1 - v) = L.map fun s => oth s v := fun L => by
    induction L with
    | nil => exact fun _ => rfl
    | cons s r ih =>
      intro hL
      have ih := ih fun t ht => hL t (by simp [ht])
      have hs := hL s (by simp)
      rw [List.map_cons, List.filterMap_cons, hs, List.map_cons]
      simp only [Option.map_some]
      rw [ih]; rfl
  exact key _ fun s hs => lookup_of h (ring_mem.mp hs).1
theorem ok_m_ends_around {f : Addr} {fd : FuncData} (T : Tx K mg CN CR) (F : FnP K "ends_around" "Rest.ends_around" sR_ends_around f fd)
  (m_around : CalM P w K mg base 1 CR "around" ["self", "vertex"] (spm_around TB CN CR))
  (m_other_end : CalM P w K mg base 1 CR "other_end" ["self", "number", "vertex"] (spm_other_end TB CN CR)) : FnOk P w K mg base CX0 2 f fd ["self", "vertex"] (spm_ends_around TB CN CR) := by
  refine F.ok (k := 1) sc_Rest_ends_around (fun vs H Q E h => by obtain ⟨r, v, n, ts, S, nx, de, oa, rfl, _⟩ := h; rfl) (fun cdv A outer s H vs Q E hr h => ?_)
  have hu := hu_of hr
  have z1 := T.clN
  have z2 := T.clR
  have z3 := T.a_size
  have z4 := T.a_edges
  have z5 := T.r_size
  have z6 := T.r_terminals
  have z7 := T.r_edges
  have z8 := T.r_origins
  have z9 := T.r_next
  obtain ⟨r, v, n, ts, S, nx, de, oa, rfl, h⟩ := h
  refine ⟨_, PSs.nox (pss_one (ps_ret (pe_lc (own := [("number", 2)]) (by rfl) sc_Rest_ends_around.nd (iL (K := K) (pe_m m_around (pv 0) T.clR (hr.mono (by decide)) (pa_cons (pv 1) pa_nil))) (blkOk_by (own := [("number", 2)]) (N := ["self", "vertex", "number"]) (sc := defScope sR_ends_around) (by decide +kernel)) (fun _ _ _ _ _ => pg_name (i := 2) sc_Rest_ends_around.nd rfl (Or.inl rfl)) (fun _ _ _ _ _ => pts_nil) (fun _ _ _ _ _ => (pe_m m_other_end (pv 0) T.clR (hr.mono (by decide)) (pa_cons (pv 2) (pa_cons (pv 1) pa_nil))))))), ?_⟩
  obtain ⟨h1, h2, q⟩ := h
  obtain ⟨dx, ta, ekv, okv, i1, i2, i3, i4, i5, i6, i7⟩ := h1.ex
  walk_at "st"
  refine ⟨r, v, n, ts, S, nx, de, oa, rfl, h1, h2, fun p H1 G1 k1 => ?_⟩
  refine r_iLH k1 fun D hD => lc_listR (T := TB) (R := RI) (F := RI) mI mI (fun k => (S.lookup k).map fun x => x.1.1 + x.1.2.1 - v) hD k1 (ints_prd _) (by unfold aroundF ring; rw [List.length_map, sizeLine_eq]; have := List.length_filter_le (inc v) S; have := h2.2; omega) (fun k x H2 N KY hk hx G2 _ hne hy hn => ?_) fun H2 G2 r2 => ?_
  · subst hx
    obtain ⟨s, hs, rfl⟩ := List.mem_map.mp hk
    have hlk := lookup_of h2.asc (ring_mem.mp hs).1
    have h3 := (h1.mono (G1.trans G2).extN)
    obtain ⟨dx, ta, ekv, okv, i1, i2, i3, i4, i5, i6, i7⟩ := h3.ex
    walk_at "st"
    refine ⟨rfl, ?_⟩
    walk_at "st"
    exact ⟨r, s.1, v, n, ts, S, nx, de, oa, _, rfl, h3, hlk, hy _ _ _ (by rw [hlk]; rfl) Gx.refl rfl⟩
  · have r3 := r2.ints
    rw [ends_eq h2.asc] at r3
    exact q _ _ (G1.trans G2) r3

theorem sc_Rest_is_inner : FnScope ["self", "vertex"] ["self", "vertex"] (defScope sR_is_inner) := ⟨rfl, rfl, rfl, by decide +kernel, rfl, by decide +kernel, by decide +kernel⟩
theorem ok_m_is_inner {f : Addr} {fd : FuncData} (T : Tx K mg CN CR) (F : FnP K "is_inner" "Rest.is_inner" sR_is_inner f fd)
   : FnOk P w K mg base CX0 1 f fd ["self", "vertex"] (spm_is_inner TB CN CR) := by
  refine F.ok (k := 0) sc_Rest_is_inner (fun vs H Q E h => by obtain ⟨r, v, n, ts, S, nx, de, oa, rfl, _⟩ := h; rfl) (fun cdv A outer s H vs Q E hr h => ?_)
  have hu := hu_of hr
  have z1 := T.clN
  have z2 := T.clR
  have z3 := T.a_size
  have z4 := T.a_edges
  have z5 := T.r_size
  have z6 := T.r_terminals
  have z7 := T.r_edges
  have z8 := T.r_origins
  have z9 := T.r_next
  obtain ⟨r, v, n, ts, S, nx, de, oa, rfl, h⟩ := h
  refine ⟨_, PSs.nox (pss_one (ps_ret (pe_and (pe_chain op_le op_lt pe_int (pv 1) (fld (K := K) (pv 0))) (pe_one (pe_cmpR (notInL (K := K)) (pv 1) (fld (K := K) (pv 0)) (by rfl)))))), ?_⟩
  obtain ⟨h1, q⟩ := h
  obtain ⟨dx, ta, ekv, okv, i1, i2, i3, i4, i5, i6, i7⟩ := h1.ex
  unfold innerB at q
  walk_at "st"
  refine ifD (fun ha => ?_) fun ha => ?_
  · rw [decide_eq_true ha, Bool.true_and] at q
    walk_at "st"
    refine ifD (fun hb => ?_) fun hb => ?_
    · rw [decide_eq_true hb, Bool.true_and] at q
      walk_at "st"
      refine r_niI (SqL.of i2) ?_
      exact q
    · rw [decide_eq_false hb, Bool.false_and] at q
      exact q
  · rw [decide_eq_false ha, Bool.false_and, Bool.false_and] at q
    walk_at "st"
    exact q

theorem sc_Rest_is_leaf : FnScope ["self", "vertex", "ends"] ["self", "vertex"] (defScope sR_is_leaf) := ⟨rfl, rfl, rfl, by decide +kernel, rfl, by decide +kernel, by decide +kernel⟩
theorem ok_m_is_leaf {f : Addr} {fd : FuncData} (T : Tx K mg CN CR) (F : FnP K "is_leaf" "Rest.is_leaf" sR_is_leaf f fd)
  (m_is_inner : CalM P w K mg base 1 CR "is_inner" ["self", "vertex"] (spm_is_inner TB CN CR))
  (m_ends_around : CalM P w K mg base 2 CR "ends_around" ["self", "vertex"] (spm_ends_around TB CN CR)) : FnOk P w K mg base CX0 3 f fd ["self", "vertex"] (spm_is_leaf TB CN CR) := by
  refine F.ok (k := 2) sc_Rest_is_leaf (fun vs H Q E h => by obtain ⟨r, v, n, ts, S, nx, de, oa, rfl, _⟩ := h; rfl) (fun cdv A outer s H vs Q E hr h => ?_)
  have hu := hu_of hr
  have z1 := T.clN
  have z2 := T.clR
  have z3 := T.a_size
  have z4 := T.a_edges
  have z5 := T.r_size
  have z6 := T.r_terminals
  have z7 := T.r_edges
  have z8 := T.r_origins
  have z9 := T.r_next
  obtain ⟨r, v, n, ts, S, nx, de, oa, rfl, h⟩ := h
  refine ⟨_, PSs.nox (pss_cons (ps_if (pt_not (pt_val (pe_m m_is_inner (pv 0) T.clR (hr.mono (by decide)) (pa_cons (pv 1) pa_nil)))) (pss_one (ps_ret pe_bl)) pss_nil)
    (pss_cons (ps_set (i := 2) sc_Rest_is_leaf.nd rfl (Or.inl rfl) (pe_m m_ends_around (pv 0) T.clR (hr.mono (by decide)) (pa_cons (pv 1) pa_nil)))
    (pss_one (ps_ret (pe_and (pe_cmpR op_gt (pe_callB (lenQ (K := K)) (by rfl) T.n_len (by decide +kernel) (pa_cons (pv 2) pa_nil)) pe_int (nomark _)) (pe_one (pe_cmpR op_eq (pe_callB (minQ (K := K)) (by rfl) T.n_min (by decide +kernel) (pa_cons (pv 2) pa_nil)) (pe_callB (maxQ (K := K)) (by rfl) T.n_max (by decide +kernel) (pa_cons (pv 2) pa_nil)) (nomark _)))))))), ?_⟩
  obtain ⟨h1, h2, q⟩ := h
  obtain ⟨dx, ta, ekv, okv, i1, i2, i3, i4, i5, i6, i7⟩ := h1.ex
  unfold leafB at q
  walk_at "st"
  refine ⟨r, v, n, ts, S, nx, de, oa, rfl, h1, ?_⟩
  walk_at "st"
  cases hin : innerB n ts v with
  | false =>
    rw [hin] at q
    walk_at "st"
    exact q _ Gx.refl
  | true =>
    rw [hin, Bool.true_and] at q
    walk_at "st"
    refine ⟨r, v, n, ts, S, nx, de, oa, rfl, h1, h2, fun p H1 G1 k1 => ?_⟩
    unfold endsF at k1
    generalize (ring S v).map (fun s => oth s v) = ends at *
    walk_at "st"
    cases ends with
    | nil =>
      refine r_ifQ (by simp) ?_
      exact q _ G1
    | cons x rest =>
      refine r_ifP (by simp) ?_
      walk_at "st"
      refine ⟨p, x :: rest, rfl, SqL.of k1, by simp, fun lo m1 m2 => ?_⟩
      walk_at "st"
      refine ⟨p, x :: rest, rfl, SqL.of k1, by simp, fun hi m3 m4 => ?_⟩
      walk_at "st"
      have e : (rest.all fun y => decide (y = x)) = decide (lo = hi) := by
        rw [Bool.eq_iff_iff, List.all_eq_true, decide_eq_true_eq]
        constructor
        · intro h
          have all : ∀ y ∈ x :: rest, y = x := fun y hy => by
            rcases List.mem_cons.mp hy with z | z
            · exact z
            · exact of_decide_eq_true (h y z)
          rw [all lo m1, all hi m3]
        · intro h y hy
          have a1 := m2 y (by simp [hy])
          have a2 := m4 y (by simp [hy])
          have a3 := m2 x (by simp)
          have a4 := m4 x (by simp)
          exact decide_eq_true (by omega)
      simp only [e] at q
      exact q _ G1

theorem sc_Rest_is_series : FnScope ["self", "vertex", "numbers", "ends"] ["self", "vertex"] (defScope sR_is_series) := ⟨rfl, rfl, rfl, by decide +kernel, rfl, by decide +kernel, by decide +kernel⟩
theorem ok_m_is_series {f : Addr} {fd : FuncData} (T : Tx K mg CN CR) (F : FnP K "is_series" "Rest.is_series" sR_is_series f fd)
  (m_is_inner : CalM P w K mg base 1 CR "is_inner" ["self", "vertex"] (spm_is_inner TB CN CR))
  (m_around : CalM P w K mg base 1 CR "around" ["self", "vertex"] (spm_around TB CN CR))
  (m_ends_around : CalM P w K mg base 2 CR "ends_around" ["self", "vertex"] (spm_ends_around TB CN CR)) : FnOk P w K mg base CX0 3 f fd ["self", "vertex"] (spm_is_series TB CN CR) := by
  refine F.ok (k := 2) sc_Rest_is_series (fun vs H Q E h => by obtain ⟨r, v, n, ts, S, nx, de, oa, rfl, _⟩ := h; rfl) (fun cdv A outer s H vs Q E hr h => ?_)
  have hu := hu_of hr
  have z1 := T.clN
  have z2 := T.clR
  have z3 := T.a_size
  have z4 := T.a_edges
  have z5 := T.r_size
  have z6 := T.r_terminals
  have z7 := T.r_edges
  have z8 := T.r_origins
  have z9 := T.r_next
  obtain ⟨r, v, n, ts, S, nx, de, oa, rfl, h⟩ := h
  refine ⟨_, PSs.nox (pss_cons (ps_if (pt_not (pt_val (pe_m m_is_inner (pv 0) T.clR (hr.mono (by decide)) (pa_cons (pv 1) pa_nil)))) (pss_one (ps_ret pe_bl)) pss_nil)
    (pss_cons (ps_set (i := 2) sc_Rest_is_series.nd rfl (Or.inl rfl) (pe_m m_around (pv 0) T.clR (hr.mono (by decide)) (pa_cons (pv 1) pa_nil)))
    (pss_cons (ps_set (i := 3) sc_Rest_is_series.nd rfl (Or.inl rfl) (pe_m m_ends_around (pv 0) T.clR (hr.mono (by decide)) (pa_cons (pv 1) pa_nil)))
    (pss_cons (ps_if (PW.pt (pw_or (pt_cmpR op_ne (pe_callB (lenQ (K := K)) (by rfl) T.n_len (by decide +kernel) (pa_cons (pv 3) pa_nil)) pe_int (nomark _)) (pw_or1 (pt_cmpR op_eq (pe_ix (ixL (K := K)) (pv 3) pe_int (fun _ _ => rfl)) (pe_ix (ixL (K := K)) (pv 3) pe_int (fun _ _ => rfl)) (nomark _))))) (pss_one (ps_ret pe_bl)) pss_nil)
    (pss_one (ps_ret (pe_cmpR op_le (pe_op op_add (pe_ix (ixT (K := K)) (pe_dget hu (fld (K := K) (pv 0)) (pe_ix (ixL (K := K)) (pv 2) pe_int (fun _ _ => rfl)) (fun _ _ => rfl)) pe_int (fun _ _ => rfl)) (pe_ix (ixT (K := K)) (pe_dget hu (fld (K := K) (pv 0)) (pe_ix (ixL (K := K)) (pv 2) pe_int (fun _ _ => rfl)) (fun _ _ => rfl)) pe_int (fun _ _ => rfl))) (pe_gi rfl T.c_MOST_PRICE) (nomark _)))))))), ?_⟩
  obtain ⟨h1, h2, q⟩ := h
  obtain ⟨dx, ta, ekv, okv, i1, i2, i3, i4, i5, i6, i7⟩ := h1.ex
  unfold seriesB at q
  walk_at "st"
  refine ⟨r, v, n, ts, S, nx, de, oa, rfl, h1, ?_⟩
  walk_at "st"
  cases hin : innerB n ts v with
  | false =>
    rw [hin] at q
    walk_at "st"
    exact q _ Gx.refl
  | true =>
    rw [hin, Bool.true_and] at q
    walk_at "st"
    refine ⟨r, v, n, ts, S, nx, de, oa, rfl, h1, h2, fun p H1 G1 k1 => ?_⟩
    have h3 := h1.mono G1.extN
    obtain ⟨dx, ta, ekv, okv, i1, i2, i3, i4, i5, i6, i7⟩ := h3.ex
    walk_at "st"
    refine ⟨r, v, n, ts, S, nx, de, oa, rfl, h3, h2, fun p2 H2 G2 k2 => ?_⟩
    have h4 := h3.mono G2.extN
    have k1' := G2.lst k1
    clear i1 i2 i3 i4 i5 i6 i7
    obtain ⟨dx, ta, ekv, okv, i1, i2, i3, i4, i5, i6, i7⟩ := h4.ex
    have rm : ∀ s ∈ ring S v, S.lookup s.1 = some s.2 := fun s hs => lookup_of h2.asc (ring_mem.mp hs).1
    have G12 := G1.trans G2
    unfold aroundF at k1'
    unfold endsF at k2
    walk_at "st"
    match hr : ring S v with
    | [] =>
      rw [hr] at q k2
      refine r_ifNP (by simp) ?_
      walk_at "st"
      exact q _ G12
    | [a] =>
      rw [hr] at q k2
      refine r_ifNP (by simp) ?_
      walk_at "st"
      exact q _ G12
    | a :: b :: c :: d =>
      rw [hr] at q k2
      refine r_ifNP (by simp; omega) ?_
      walk_at "st"
      exact q _ G12
    | [a, b] =>
      rw [hr] at q k2 k1' rm
      have q : ∀ H', Gx TB [] H H' → Q (.bl (!decide (oth a v = oth b v) && decide (pr a + pr b ≤ 1048576))) H' := q
      refine r_ifNQ (by simp) ?_
      walk_at "st"
      refine r_ixL (SqL.of k2) (v := .int (oth a v)) (by rfl) ?_
      walk_at "st"
      refine r_ixL (SqL.of k2) (v := .int (oth b v)) (by rfl) ?_
      walk_at "st"
      refine ifD (fun hz => ?_) fun hz => ?_
      · rw [decide_eq_true hz] at q
        walk_at "st"
        exact q _ G12
      · rw [decide_eq_false hz] at q
        have la := rm a (by simp)
        have lb := rm b (by simp)
        walk_at "st"
        refine r_ixL (SqL.of k1') (v := .int a.1) (by rfl) ?_
        obtain ⟨_, e2⟩ | ⟨u, y, e1, e2, ta1, e3, e4⟩ := prd_val (R := fun v x => RE H2 v x.1) i6 a.1
        · rw [la] at e2; cases e2
        rw [la] at e2; cases e2
        subst e3
        refine r_dgetC i3 e1 ?_
        walk_at "st"
        refine r_ixL (SqL.of k1') (v := .int b.1) (by rfl) ?_
        obtain ⟨_, e2⟩ | ⟨u, y, e1, e2, ta2, e3, e5⟩ := prd_val (R := fun v x => RE H2 v x.1) i6 b.1
        · rw [lb] at e2; cases e2
        rw [lb] at e2; cases e2
        subst e3
        refine r_dgetC i3 e1 ?_
        walk_at "st"
        exact q _ G12

theorem sc_Rest_is_longer : FnScope ["self", "number", "walk", "here", "goal", "price", "piece", "step"] ["self", "number", "walk"] (defScope sR_is_longer) := ⟨rfl, rfl, rfl, by decide +kernel, rfl, by decide +kernel, by decide +kernel⟩
theorem ok_m_is_longer {f : Addr} {fd : FuncData} (T : Tx K mg CN CR) (F : FnP K "is_longer" "Rest.is_longer" sR_is_longer f fd)
  (m_other_end : CalM P w K mg base 1 CR "other_end" ["self", "number", "vertex"] (spm_other_end TB CN CR)) : FnOk P w K mg base CX0 2 f fd ["self", "number", "walk"] (spm_is_longer TB CN CR) := by
  refine F.ok (k := 1) sc_Rest_is_longer (fun vs H Q E h => by obtain ⟨r, k, wa, w, n, ts, S, nx, de, oa, rfl, _⟩ := h; rfl) (fun cdv A outer s H vs Q E hr h => ?_)
  have hu := hu_of hr
  have z1 := T.clN
  have z2 := T.clR
  have z3 := T.a_size
  have z4 := T.a_edges
  have z5 := T.r_size
  have z6 := T.r_terminals
  have z7 := T.r_edges
  have z8 := T.r_origins
  have z9 := T.r_next
  obtain ⟨r, k, wa, w, n, ts, S, nx, de, oa, rfl, h⟩ := h
  refine ⟨_, PSs.nox (pss_cons (ps_if (PW.pt (pw_or (pt_cmp (pc_dnotin hu (pv 1) (fld (K := K) (pv 0))) (by rfl)) (pw_or1 (pt_cmpR (inL (K := K)) (pv 1) (pv 2) (by rfl))))) (pss_one (ps_ret pe_bl)) pss_nil)
    (pss_cons (ps_asg (pe_dget hu (fld (K := K) (pv 0)) (pv 1) (fun _ _ => rfl)) (gT (K := K) (pgs_cons (pg_name (i := 3) sc_Rest_is_longer.nd rfl (Or.inl rfl)) (pgs_cons (pg_name (i := 4) sc_Rest_is_longer.nd rfl (Or.inl rfl)) (pgs_cons (pg_name (i := 5) sc_Rest_is_longer.nd rfl (Or.inl rfl)) pgs_nil)))))
    (pss_cons (ps_set (i := 6) sc_Rest_is_longer.nd rfl (Or.inl rfl) pe_int)
    (pss_cons (ps_for PassesOwn.never rfl (iL (K := K) (pv 2)) (pg_name (i := 7) sc_Rest_is_longer.nd rfl (Or.inl rfl))
      (pss_cons (ps_if (PW.pt (pw_or (pt_cmp (pc_dnotin hu (pv 7) (fld (K := K) (pv 0))) (by rfl)) (pw_or1 (pt_cmpR (notInL (K := K)) (pv 3) (pe_slice (slT (K := K)) (pe_dget hu (fld (K := K) (pv 0)) (pv 7) (fun _ _ => rfl)) po_none (po_some pe_int)) (by rfl))))) (pss_one (ps_ret pe_bl)) pss_nil)
    (pss_cons (ps_set (i := 3) sc_Rest_is_longer.nd rfl (Or.inl rfl) (pe_m m_other_end (pv 0) T.clR (hr.mono (by decide)) (pa_cons (pv 7) (pa_cons (pv 3) pa_nil))))
    (pss_cons (ps_aug (i := 6) sc_Rest_is_longer.nd rfl (Or.inl rfl) (pe_ix (ixT (K := K)) (pe_dget hu (fld (K := K) (pv 0)) (pv 7) (fun _ _ => rfl)) pe_int (fun _ _ => rfl)) ip_add)
    (pss_cons (ps_if (pt_cmpR op_gt (pv 6) (pv 5) (nomark _)) (pss_one (ps_ret pe_bl)) pss_nil)
    (pss_one (ps_if (pt_cmpR (inL (K := K)) (pv 3) (fld (K := K) (pv 0)) (by rfl)) (pss_one (ps_set (i := 6) sc_Rest_is_longer.nd rfl (Or.inl rfl) pe_int)) pss_nil)))))))
    (pss_one (ps_ret (pe_cmpR op_eq (pv 3) (pv 4) (nomark _)))))))), ?_⟩
  obtain ⟨h1, h2, q⟩ := h
  obtain ⟨dx, ta, ekv, okv, i1, i2, i3, i4, i5, i6, i7⟩ := h1.ex
  unfold longerB at q
  walk_at "st"
  refine r_dinC i3 ?_
  obtain ⟨e1, e2⟩ | ⟨u, ⟨⟨hu0, hv0, pr0⟩, os⟩, e1, e2, t, e3, e4⟩ := prd_val (R := fun v x => RE H v x.1) i6 k
  · rw [e1]
    rw [e2] at q
    walk_at "st"
    exact q _ Gx.refl
  · rw [e1]
    rw [e2] at q
    subst e3
    simp only at q e4
    walk_at "st"
    refine r_inI (SqL.of h2) ?_
    walk_at "st"
    refine ifD (fun hz => ?_) fun hz => ?_
    · rw [decide_eq_true hz] at q
      walk_at "st"
      exact q _ Gx.refl
    · rw [decide_eq_false hz, Bool.not_false, Bool.true_and] at q
      walk_at "st"
      refine r_dgetC i3 e1 ?_
      walk_at "st"
      refine r_iLH h2 ?_
      refine for_list (xs := w.map V.int) (fun i σ H1 => Gx TB [] H H1 ∧ ∃ here piece o7, σ = [some (.ref r), some (.int k), some (.ref wa), some (.int here), some (.int hv0), some (.int pr0), some (.int piece), o7] ∧ goB S ts pr0 hv0 w hu0 0 = goB S ts pr0 hv0 (w.drop i) here piece)
        ⟨Gx.refl, hu0, 0, none, rfl, rfl⟩ (fun i σ H1 _ ⟨G1, _⟩ => SqL.of (G1.lst h2)) (fun i x σ H1 hx ⟨G1, here, piece, o7, es, eg⟩ => ?_) fun σ H1 ⟨G1, here, piece, o7, es, eg⟩ => ?_
      · subst es
        rw [List.getElem?_map] at hx
        obtain ⟨s, hs, rfl⟩ := Option.map_eq_some_iff.mp hx
        have hd : w.drop i = s :: w.drop (i + 1) := by
          have hlt := (List.getElem?_eq_some_iff.mp hs).1
          rw [List.drop_eq_getElem_cons hlt, (List.getElem?_eq_some_iff.mp hs).2]
        rw [hd] at eg
        rw [eg] at q ⊢
        have h1' := h1.mono G1.extN
        clear i1 i2 i3 i4 i5 i6 i7
        obtain ⟨dx, ta, ekv, okv, i1, i2, i3, i4, i5, i6, i7⟩ := h1'.ex
        unfold goB at q
        have eg2 : goB S ts pr0 hv0 (s :: w.drop (i + 1)) here piece = match S.lookup s with | none => false | some (f, _) => if here = f.1 ∨ here = f.2.1 then (if pr0 < piece + f.2.2 then false else goB S ts pr0 hv0 (w.drop (i + 1)) (f.1 + f.2.1 - here) (if f.1 + f.2.1 - here ∈ ts then 0 else piece + f.2.2)) else false := rfl
        rw [eg2]
        walk_at "st"
        refine r_dinC i3 ?_
        obtain ⟨e1, e2⟩ | ⟨u, ⟨⟨fu, fv, fp⟩, os2⟩, e1, e2, t2, e3, e5⟩ := prd_val (R := fun v x => RE H1 v x.1) i6 s
        · rw [e1]
          rw [e2] at q
          walk_at "st"
          exact q _ G1
        · rw [e1]
          rw [e2] at q ⊢
          subst e3
          simp only at q e5 ⊢
          walk_at "st"
          refine r_dgetC i3 e1 ?_
          walk_at "st"
          refine r_slT2 (T := TB) e5 fun p3 H3 hp3 G3 k3 => ?_
          have G13 := G1.trans G3
          have h3' := h1'.mono G3.extN
          have e5' := G3.tup e5
          refine r_niT2 k3 ?_
          have i1' := G3.ins i1
          have i2' := G3.lst i2
          have i3' := G3.dK i3
          walk_at "st"
          refine ifN (fun hh => ?_) fun hh => ?_
          · rw [if_neg hh] at q
            walk_at "st"
            exact q _ G13
          · rw [if_pos hh] at q ⊢
            walk_at "st"
            refine ⟨r, s, here, n, ts, S, nx, de, oa, _, rfl, h3', e2, ?_⟩
            walk_at "st"
            refine r_dgetC i3' e1 ?_
            walk_at "st"
            refine ifD (fun hp => ?_) fun hp => ?_
            · rw [if_pos hp] at q
              walk_at "st"
              exact q _ G13
            · rw [if_neg hp] at q ⊢
              walk_at "st"
              refine r_inI (SqL.of i2') ?_
              walk_at "st"
              refine ifD (fun ht => ?_) fun ht => ?_
              · rw [if_pos ht]
                walk_at "st"
                exact ⟨G13, _, _, _, rfl, rfl⟩
              · rw [if_neg ht]
                walk_at "st"
                exact ⟨G13, _, _, _, rfl, rfl⟩
      · subst es
        rw [List.drop_of_length_le (by rw [List.length_map]; omega)] at eg
        rw [eg] at q
        walk_at "st"
        exact q _ G1

theorem sc_Rest_holds : FnScope ["self", "row"] ["self", "row"] (defScope sR_holds) := ⟨rfl, rfl, rfl, by decide +kernel, rfl, by decide +kernel, by decide +kernel⟩
theorem ok_m_holds {f : Addr} {fd : FuncData} (T : Tx K mg CN CR) (F : FnP K "holds" "Rest.holds" sR_holds f fd)
  (m_is_leaf : CalM P w K mg base 3 CR "is_leaf" ["self", "vertex"] (spm_is_leaf TB CN CR))
  (m_is_series : CalM P w K mg base 3 CR "is_series" ["self", "vertex"] (spm_is_series TB CN CR))
  (m_is_longer : CalM P w K mg base 2 CR "is_longer" ["self", "number", "walk"] (spm_is_longer TB CN CR)) : FnOk P w K mg base CX0 4 f fd ["self", "row"] (spm_holds TB CN CR) := by
  refine F.ok (k := 3) sc_Rest_holds (fun vs H Q E h => by obtain ⟨r, ra, row, n, ts, S, nx, de, oa, rfl, _⟩ := h; rfl) (fun cdv A outer s H vs Q E hr h => ?_)
  have hu := hu_of hr
  have z1 := T.clN
  have z2 := T.clR
  have z3 := T.a_size
  have z4 := T.a_edges
  have z5 := T.r_size
  have z6 := T.r_terminals
  have z7 := T.r_edges
  have z8 := T.r_origins
  have z9 := T.r_next
  obtain ⟨r, ra, row, n, ts, S, nx, de, oa, rfl, h⟩ := h
  refine ⟨_, PSs.nox (pss_cons (ps_if (pt_cmpR op_eq (pe_ix (ixT (K := K)) (pv 1) pe_int (fun _ _ => rfl)) pe_str (nomark _)) (pss_one (ps_ret (pe_m m_is_leaf (pv 0) T.clR (hr.mono (by decide)) (pa_cons (pe_ix (ixT (K := K)) (pv 1) pe_int (fun _ _ => rfl)) pa_nil)))) pss_nil)
    (pss_cons (ps_if (pt_cmpR op_eq (pe_ix (ixT (K := K)) (pv 1) pe_int (fun _ _ => rfl)) pe_str (nomark _)) (pss_one (ps_ret (pe_m m_is_series (pv 0) T.clR (hr.mono (by decide)) (pa_cons (pe_ix (ixT (K := K)) (pv 1) pe_int (fun _ _ => rfl)) pa_nil)))) pss_nil)
    (pss_one (ps_ret (pe_m m_is_longer (pv 0) T.clR (hr.mono (by decide)) (pa_cons (pe_ix (ixT (K := K)) (pv 1) pe_int (fun _ _ => rfl)) (pa_cons (pe_ix (ixT (K := K)) (pv 1) pe_int (fun _ _ => rfl)) pa_nil))))))), ?_⟩
  obtain ⟨h1, h2, h3, q⟩ := h
  obtain ⟨dx, ta, ekv, okv, i1, i2, i3, i4, i5, i6, i7⟩ := h1.ex
  obtain ⟨_, e, h4⟩ := h3
  cases e
  cases row with
  | leaf v =>
    have h5 : H ra = some (.tup [.str "leaf", .int v]) := h4
    walk_at "st"
    exact ⟨r, v, n, ts, S, nx, de, oa, rfl, h1, h2, fun H1 G1 => q _ G1⟩
  | series v =>
    have h5 : H ra = some (.tup [.str "series", .int v]) := h4
    walk_at "st"
    exact ⟨r, v, n, ts, S, nx, de, oa, rfl, h1, h2, fun H1 G1 => q _ G1⟩
  | longer k w =>
    obtain ⟨wa, h5, h6⟩ := h4
    walk_at "st"
    exact ⟨r, k, wa, w, n, ts, S, nx, de, oa, rfl, h1, h6, fun H1 G1 => q _ G1⟩

theorem sc_Rest_drop : FnScope ["self", "number"] ["self", "number"] (defScope sR_drop) := ⟨rfl, rfl, rfl, by decide +kernel, rfl, by decide +kernel, by decide +kernel⟩
theorem ok_m_drop {f : Addr} {fd : FuncData} (T : Tx K mg CN CR) (F : FnP K "drop" "Rest.drop" sR_drop f fd)
   : FnOk P w K mg base CX0 1 f fd ["self", "number"] (spm_drop TB CN CR) := by
  refine F.ok (k := 0) sc_Rest_drop (fun vs H Q E h => by obtain ⟨r, k, n, ts, S, nx, de, oa, x, rfl, _⟩ := h; rfl) (fun cdv A outer s H vs Q E hr h => ?_)
  have hu := hu_of hr
  have z1 := T.clN
  have z2 := T.clR
  have z3 := T.a_size
  have z4 := T.a_edges
  have z5 := T.r_size
  have z6 := T.r_terminals
  have z7 := T.r_edges
  have z8 := T.r_origins
  have z9 := T.r_next
  obtain ⟨r, k, n, ts, S, nx, de, oa, x, rfl, h⟩ := h
  refine ⟨_, PSs.nox (pss_cons (ps_ddel (fld (K := K) (pv 0)) (pv 1))
    (pss_one (ps_ddel (fld (K := K) (pv 0)) (pv 1)))), ?_⟩
  obtain ⟨h1, h2, q⟩ := h
  obtain ⟨dx, ta, ekv, okv, i1, i2, i3, i4, i5, i6, i7⟩ := h1.ex
  have v1 : (valV ekv (.inl k)).isSome = true := by
    obtain ⟨_, e2⟩ | ⟨u, y, e1, e2, _⟩ := prd_val (R := fun v x => RE H v x.1) i6 k
    · rw [h2] at e2; cases e2
    · rw [e1]; rfl
  have v2 : (valV okv (.inl k)).isSome = true := by
    obtain ⟨_, e2⟩ | ⟨u, y, e1, e2, _⟩ := prd_val (R := fun v x => RLI H v x.2) i7 k
    · rw [h2] at e2; cases e2
    · rw [e1]; rfl
  have n1 : r ≠ de := fun z => by rw [z, i3] at i1; cases i1
  have n2 : r ≠ oa := fun z => by rw [z, i4] at i1; cases i1
  walk_at "st"
  refine r_ddelAt i3 v1 ?_
  have G1 : Gx TB [r, de, oa] H (upd H de (.dK (dropK ekv (.inl k)))) := Gx.refl.mut (by simp) i3 trivial
  have j1 : (upd H de (.dK (dropK ekv (.inl k)))) r = _ := (upd_ne n1).trans i1
  have j4 : (upd H de (.dK (dropK ekv (.inl k)))) oa = _ := (upd_ne i5.symm).trans i4
  walk_at "st"
  refine r_ddelAt j4 v2 ?_
  walk_at "st"
  have G2 := G1.mut (o := .dK (dropK okv (.inl k))) (by simp) j4 trivial
  refine q _ G2 ⟨dx, ta, dropK ekv (.inl k), dropK okv (.inl k), by rw [upd_ne n2]; exact j1, G2.lst i2 (h1.offL i2), by rw [upd_ne i5, upd_same], upd_same, i5, ?_, ?_⟩
  · exact prd_drop (R := fun v s => RE _ v s.2.1) k (prd_mapK (R := fun v s => RE H v s.2.1) (R' := fun v s => RE _ v s.2.1) i6 fun v s e => sE _ _ _ _ (h1.extS G2) e)
  · exact prd_drop (R := fun v s => RLI _ v s.2.2) k (prd_mapK (R := fun v s => RLI H v s.2.2) (R' := fun v s => RLI _ v s.2.2) i7 fun v s e => sLI _ _ _ _ (h1.extS G2) e)

theorem sc_Rest_join : FnScope ["self", "vertex", "a", "b", "x", "y"] ["self", "vertex"] (defScope sR_join) := ⟨rfl, rfl, rfl, by decide +kernel, rfl, by decide +kernel, by decide +kernel⟩
theorem join_rest {S : List En} {v nx : Int} {a b : En} (h : (S.map (·.1)).Pairwise (· < ·)) (hk : ∀ s ∈ S, s.1 < nx) (hr : ring S v = [a, b]) (e : En) (he : e.1 = nx) :
    ((S ++ [e]).filter fun s => decide (s.1 ≠ a.1)).filter (fun s => decide (s.1 ≠ b.1)) = (S.filter fun s => !inc v s) ++ [e] := by
  have ha : a ∈ S ∧ inc v a = true := ring_mem.mp (by rw [hr]; simp)
  have hb : b ∈ S ∧ inc v b = true := ring_mem.mp (by rw [hr]; simp)
  have k1 := hk a ha.1
  have k2 := hk b hb.1
  rw [List.filter_filter, List.filter_append]
  congr 1
  · refine List.filter_congr fun s hs => ?_
    rw [Bool.eq_iff_iff, Bool.and_eq_true, decide_eq_true_eq, decide_eq_true_eq, Bool.not_eq_true']
    constructor
    · rintro ⟨h1, h2⟩
      cases hi : inc v s with
      | false => rfl
      | true =>
        have : s ∈ ring S v := ring_mem.mpr ⟨hs, hi⟩
        rw [hr] at this
        rcases List.mem_cons.mp this with z | z
        · exact absurd (by rw [z]) h2
        · exact absurd (by rw [List.mem_singleton.mp z]) h1
    · intro hi
      refine ⟨fun z => ?_, fun z => ?_⟩
      · have := asc_eq h hs hb.1 z
        rw [this, hb.2] at hi; cases hi
      · have := asc_eq h hs ha.1 z
        rw [this, ha.2] at hi; cases hi
  · have e1 : e.1 ≠ a.1 := by omega
    have e2 : e.1 ≠ b.1 := by omega
    simp [e1, e2]
theorem look_new {S : List En} {nx : Int} (hk : ∀ s ∈ S, s.1 < nx) : S.lookup nx = none := by
  cases h : S.lookup nx with
  | none => rfl
  | some x => have := hk _ (of_lookup h); simp only at this; omega
theorem look_app {S : List En} {e : En} {k : Int} {x : TW.Ed × List Int} (h : S.lookup k = some x) : (S ++ [e]).lookup k = some x := by
  induction S with
  | nil => cases h
  | cons c r ih =>
    obtain ⟨k', x'⟩ := c
    rw [List.cons_append, List.lookup_cons]
    rw [List.lookup_cons] at h
    cases z : (k == k') with
    | true => rw [z] at h; exact h
    | false => rw [z] at h; exact ih h
theorem look_filter {S : List En} {k k' : Int} {x : TW.Ed × List Int} (hk : k ≠ k') (h : S.lookup k = some x) : (S.filter fun s => decide (s.1 ≠ k')).lookup k = some x := by
  induction S with
  | nil => cases h
  | cons c r ih =>
    obtain ⟨k1, x1⟩ := c
    rw [List.lookup_cons] at h
    rw [List.filter_cons]
    cases z : (k == k1) with
    | true =>
      rw [z] at h
      simp only [beq_iff_eq] at z
      subst z
      rw [if_pos (by simp [hk]), List.lookup_cons]
      simpa using h
    | false =>
      rw [z] at h
      split
      · rw [List.lookup_cons, z]; exact ih h
      · exact ih h
theorem ok_m_join {f : Addr} {fd : FuncData} (T : Tx K mg CN CR) (F : FnP K "join" "Rest.join" sR_join f fd)
  (m_around : CalM P w K mg base 1 CR "around" ["self", "vertex"] (spm_around TB CN CR))
  (m_ends_around : CalM P w K mg base 2 CR "ends_around" ["self", "vertex"] (spm_ends_around TB CN CR))
  (m_drop : CalM P w K mg base 1 CR "drop" ["self", "number"] (spm_drop TB CN CR)) : FnOk P w K mg base CX0 3 f fd ["self", "vertex"] (spm_join TB CN CR) := by
  refine F.ok (k := 2) sc_Rest_join (fun vs H Q E h => by obtain ⟨r, v, n, ts, S, nx, de, oa, rfl, _⟩ := h; rfl) (fun cdv A outer s H vs Q E hr h => ?_)
  have hu := hu_of hr
  have z1 := T.clN
  have z2 := T.clR
  have z3 := T.a_size
  have z4 := T.a_edges
  have z5 := T.r_size
  have z6 := T.r_terminals
  have z7 := T.r_edges
  have z8 := T.r_origins
  have z9 := T.r_next
  obtain ⟨r, v, n, ts, S, nx, de, oa, rfl, h⟩ := h
  refine ⟨_, PSs.nox (pss_cons (ps_asg (pe_m m_around (pv 0) T.clR (hr.mono (by decide)) (pa_cons (pv 1) pa_nil)) (gU (K := K) (pgs_cons (pg_name (i := 2) sc_Rest_join.nd rfl (Or.inl rfl)) (pgs_cons (pg_name (i := 3) sc_Rest_join.nd rfl (Or.inl rfl)) pgs_nil))))
    (pss_cons (ps_asg (pe_m m_ends_around (pv 0) T.clR (hr.mono (by decide)) (pa_cons (pv 1) pa_nil)) (gU (K := K) (pgs_cons (pg_name (i := 4) sc_Rest_join.nd rfl (Or.inl rfl)) (pgs_cons (pg_name (i := 5) sc_Rest_join.nd rfl (Or.inl rfl)) pgs_nil))))
    (pss_cons (ps_dput hu (fld (K := K) (pv 0)) (fld (K := K) (pv 0)) (pe_tup (pa_cons (pv 4) (pa_cons (pv 5) (pa_cons (pe_op op_add (pe_ix (ixT (K := K)) (pe_dget hu (fld (K := K) (pv 0)) (pv 2) (fun _ _ => rfl)) pe_int (fun _ _ => rfl)) (pe_ix (ixT (K := K)) (pe_dget hu (fld (K := K) (pv 0)) (pv 3) (fun _ _ => rfl)) pe_int (fun _ _ => rfl))) pa_nil)))) rfl)
    (pss_cons (ps_dput hu (fld (K := K) (pv 0)) (fld (K := K) (pv 0)) (pe_callB (sortedQ (K := K)) (by rfl) T.n_sorted (by decide +kernel) (pa_cons (pe_op op_cat (pe_dget hu (fld (K := K) (pv 0)) (pv 2) (fun _ _ => rfl)) (pe_dget hu (fld (K := K) (pv 0)) (pv 3) (fun _ _ => rfl))) pa_nil)) rfl)
    (pss_cons (sFlA (K := K) (pv 0) pe_int in_add)
    (pss_cons (ps_expr (pe_m m_drop (pv 0) T.clR (hr.mono (by decide)) (pa_cons (pv 2) pa_nil)))
    (pss_one (ps_expr (pe_m m_drop (pv 0) T.clR (hr.mono (by decide)) (pa_cons (pv 3) pa_nil)))))))))), ?_⟩
  obtain ⟨h1, h2, h3, q⟩ := h
  obtain ⟨_, a, b, hr', hne, hp⟩ := series_of h3
  have q : ∀ H', Gx TB [r, de, oa] H H' → RestAt CR H' r n ts ((S.filter fun s => !inc v s) ++ [(nx, (oth a v, oth b v, pr a + pr b), sortI (a.2.2 ++ b.2.2))]) (nx + 1) de oa → Q .non H' := fun H' G R => q H' G (by
    have e : applyS S nx (.series v) = (S.filter fun s => !inc v s) ++ joinE S nx v := rfl
    rw [e]; unfold joinE; rw [hr']; exact R)
  have hkey := fun s hs => (h2.key s hs).2
  have ha : a ∈ S ∧ inc v a = true := ring_mem.mp (by rw [hr']; simp)
  have hb : b ∈ S ∧ inc v b = true := ring_mem.mp (by rw [hr']; simp)
  have la := lookup_of h2.asc ha.1
  have lb := lookup_of h2.asc hb.1
  have hab : b.1 ≠ a.1 := fun z => by
    have := asc_eq h2.asc hb.1 ha.1 z
    exact hne (by rw [this])
  obtain ⟨dx, ta, ekv, okv, i1, i2, i3, i4, i5, i6, i7⟩ := h1.ex
  walk_at "st"
  refine ⟨r, v, n, ts, S, nx, de, oa, rfl, h1, h2, fun p1 H1 G1 k1 => ?_⟩
  unfold aroundF at k1
  rw [hr'] at k1
  refine r_gU2 k1 rfl ?_
  replace i1 := G1.ins i1
  have h1a := h1.mono G1.extN
  walk_at "st"
  refine ⟨r, v, n, ts, S, nx, de, oa, rfl, h1a, h2, fun p2 H2 G2 k2 => ?_⟩
  unfold endsF at k2
  rw [hr'] at k2
  refine r_gU2 k2 rfl ?_
  have h2a := h1a.mono G2.extN
  have G12 := G1.trans G2
  clear i1 i2 i3 i4 i5 i6 i7 dx ta ekv okv
  obtain ⟨dx, ta, ekv, okv, i1, i2, i3, i4, i5, i6, i7⟩ := h2a.ex
  have n1 : r ≠ de := fun z => by rw [z, i3] at i1; cases i1
  have n2 : r ≠ oa := fun z => by rw [z, i4] at i1; cases i1
  obtain ⟨_, e2⟩ | ⟨u, y, ea, e2, t1, e3, e4⟩ := prd_val (R := fun v x => RE H2 v x.1) i6 a.1
  · rw [la] at e2; cases e2
  rw [la] at e2; cases e2
  subst e3
  obtain ⟨_, e2⟩ | ⟨u, y, eb, e2, t2, e3, e5⟩ := prd_val (R := fun v x => RE H2 v x.1) i6 b.1
  · rw [lb] at e2; cases e2
  rw [lb] at e2; cases e2
  subst e3
  obtain ⟨_, e2⟩ | ⟨u, y, oa1, e2, l1, e3, e6⟩ := prd_val (R := fun v x => RLI H2 v x.2) i7 a.1
  · rw [la] at e2; cases e2
  rw [la] at e2; cases e2
  subst e3
  obtain ⟨_, e2⟩ | ⟨u, y, ob1, e2, l2, e3, e7⟩ := prd_val (R := fun v x => RLI H2 v x.2) i7 b.1
  · rw [lb] at e2; cases e2
  rw [lb] at e2; cases e2
  subst e3
  have elen : ekv.length ≤ 40 := by have := Paired.length i6; have := h2.2; omega
  have olen : okv.length ≤ 40 := by have := Paired.length i7; have := h2.2; omega
  have enew : valV ekv (.inl nx) = none := by
    obtain ⟨e, _⟩ | ⟨u, y, _, e, _⟩ := prd_val (R := fun v x => RE H2 v x.1) i6 nx
    · exact e
    · rw [look_new hkey] at e; cases e
  have onew : valV okv (.inl nx) = none := by
    obtain ⟨e, _⟩ | ⟨u, y, _, e, _⟩ := prd_val (R := fun v x => RLI H2 v x.2) i7 nx
    · exact e
    · rw [look_new hkey] at e; cases e
  walk_at "st"
  refine r_dgetC i3 ea ?_
  walk_at "st"
  refine r_dgetC i3 eb ?_
  walk_at "st"
  refine ⟨by simp [sizeLine_eq], fun t ht => ?_⟩
  have G3 : Gx TB [] H2 (upd H2 t (.tup [.int (oth a v), .int (oth b v), .int (a.2.1.2.2 + b.2.1.2.2)])) := Gx.refl.new ht
  have kt : (upd H2 t (.tup [.int (oth a v), .int (oth b v), .int (a.2.1.2.2 + b.2.1.2.2)])) t = _ := upd_same
  generalize upd H2 t (.tup [.int (oth a v), .int (oth b v), .int (a.2.1.2.2 + b.2.1.2.2)]) = H3 at *
  replace i1 := G3.ins i1
  replace i2 := G3.lst i2
  replace i3 := G3.dK i3
  replace i4 := G3.dK i4
  replace i6 := prd_mapK (R := fun v s => RE H2 v s.2.1) (R' := fun v s => RE H3 v s.2.1) i6 fun v s h => mE _ _ _ _ G3.extN h
  replace i7 := prd_mapK (R := fun v s => RLI H2 v s.2.2) (R' := fun v s => RLI H3 v s.2.2) i7 fun v s h => mLI _ _ _ _ G3.extN h
  replace e6 := G3.lst e6
  replace e7 := G3.lst e7
  walk_at "st"
  refine r_dputAt i3 (by rw [sizeLine_eq]; omega) ?_
  rw [putK_new _ enew]
  have R3 : RestAt CR H3 r n ts S nx de oa := ⟨dx, ta, ekv, okv, i1, i2, i3, i4, i5, i6, i7⟩
  have G4 : Gx TB [r, de, oa] H3 (upd H3 de (.dK (ekv ++ [(.inl nx, .ref t)]))) := Gx.refl.mut (by simp) i3 trivial
  have S4 := R3.extS G4
  replace i1 : (upd H3 de (.dK (ekv ++ [(.inl nx, .ref t)]))) r = _ := (upd_ne n1).trans i1
  replace i4 : (upd H3 de (.dK (ekv ++ [(.inl nx, .ref t)]))) oa = _ := (upd_ne i5.symm).trans i4
  replace i3 : (upd H3 de (.dK (ekv ++ [(.inl nx, .ref t)]))) de = _ := upd_same
  generalize upd H3 de (.dK (ekv ++ [(.inl nx, .ref t)])) = H4 at *
  replace i2 := S4.lst i2
  replace i6 := prd_mapK (R := fun v s => RE H3 v s.2.1) (R' := fun v s => RE H4 v s.2.1) i6 fun v s h => sE _ _ _ _ S4 h
  replace i7 := prd_mapK (R := fun v s => RLI H3 v s.2.2) (R' := fun v s => RLI H4 v s.2.2) i7 fun v s h => sLI _ _ _ _ S4 h
  replace kt := S4.tup kt
  replace e6 := S4.lst e6
  replace e7 := S4.lst e7
  replace i6 := prd_snocK (R := fun v s => RE H4 v s.2.1) (s := (nx, (oth a v, oth b v, pr a + pr b), sortI (a.2.2 ++ b.2.2))) i6 ⟨t, rfl, kt⟩
  walk_at "st"
  refine r_dgetC i4 oa1 ?_
  walk_at "st"
  refine r_dgetC i4 ob1 ?_
  have len1 : a.2.2.length + b.2.2.length ≤ sizeLine := by
    have := h2.two hr'
    rw [sizeLine_eq]; omega
  refine r_catT (T := TB) e6 e7 (by rw [List.length_map, List.length_map]; exact len1) fun l3 H5 hl3 G5 k3 => ?_
  rw [← List.map_append] at k3
  walk_at "st"
  refine ⟨l3, _, rfl, SqL.of k3, fun so l4 hperm hsort hl4 => ?_⟩
  have eso := sortI_eq hperm hsort
  subst eso
  have G6 : Gx TB [] H4 (upd H5 l4 (.lst ((sortI (a.2.2 ++ b.2.2)).map V.int))) := G5.new hl4
  have k4 : (upd H5 l4 (.lst ((sortI (a.2.2 ++ b.2.2)).map V.int))) l4 = _ := upd_same
  generalize upd H5 l4 (.lst ((sortI (a.2.2 ++ b.2.2)).map V.int)) = H6 at *
  replace i1 := G6.ins i1
  replace i2 := G6.lst i2
  replace i3 := G6.dK i3
  replace i4 := G6.dK i4
  replace i6 := prd_mapK (R := fun v s => RE H4 v s.2.1) (R' := fun v s => RE H6 v s.2.1) i6 fun v s h => mE _ _ _ _ G6.extN h
  replace i7 := prd_mapK (R := fun v s => RLI H4 v s.2.2) (R' := fun v s => RLI H6 v s.2.2) i7 fun v s h => mLI _ _ _ _ G6.extN h
  walk_at "st"
  refine r_dputAt i4 (by rw [sizeLine_eq]; omega) ?_
  rw [putK_new _ onew]
  have G7 : Gx TB [r, de, oa] H6 (upd H6 oa (.dK (okv ++ [(.inl nx, .ref l4)]))) := Gx.refl.mut (by simp) i4 trivial
  have m1 : ∀ b o, H6 b = some o → Soft o → (upd H6 oa (.dK (okv ++ [(.inl nx, .ref l4)]))) b = some o := fun b o hb ho => by
    rw [upd_ne (fun z : b = oa => by rw [z, i4] at hb; cases hb; exact ho)]; exact hb
  have S7 : ExtS H6 (upd H6 oa (.dK (okv ++ [(.inl nx, .ref l4)]))) := m1
  replace i1 : (upd H6 oa (.dK (okv ++ [(.inl nx, .ref l4)]))) r = _ := (upd_ne n2).trans i1
  replace i3 : (upd H6 oa (.dK (okv ++ [(.inl nx, .ref l4)]))) de = _ := (upd_ne i5).trans i3
  replace i4 : (upd H6 oa (.dK (okv ++ [(.inl nx, .ref l4)]))) oa = _ := upd_same
  generalize upd H6 oa (.dK (okv ++ [(.inl nx, .ref l4)])) = H7 at *
  replace i2 := S7.lst i2
  replace i6 := prd_mapK (R := fun v s => RE H6 v s.2.1) (R' := fun v s => RE H7 v s.2.1) i6 fun v s h => sE _ _ _ _ S7 h
  replace i7 := prd_mapK (R := fun v s => RLI H6 v s.2.2) (R' := fun v s => RLI H7 v s.2.2) i7 fun v s h => sLI _ _ _ _ S7 h
  replace k4 := S7.lst k4
  replace i7 := prd_snocK (R := fun v s => RLI H7 v s.2.2) (s := (nx, (oth a v, oth b v, pr a + pr b), sortI (a.2.2 ++ b.2.2))) i7 ⟨l4, rfl, k4⟩
  walk_at "st"
  refine ⟨r, CR, dx, _, _, rfl, i1, z2, z9, lkR_next, ?_⟩
  walk_at "st"
  refine ⟨nx, 1, rfl, rfl, dx, _, i1, by simp, ?_⟩
  have ep : putF ("next" : Str) (V.int (nx + 1)) (restF n ta de oa nx) = restF n ta de oa (nx + 1) := by kernel_rfl
  rw [ep]
  have G8 : Gx TB [r, de, oa] H7 (upd H7 r (.ins CR dx (restF n ta de oa (nx + 1)))) := Gx.refl.mut (by simp) i1 trivial
  have S8 : ExtS H7 (upd H7 r (.ins CR dx (restF n ta de oa (nx + 1)))) := fun b o hb ho => by
    rw [upd_ne (fun z : b = r => by rw [z, i1] at hb; cases hb; exact ho)]; exact hb
  have R8 : RestAt CR (upd H7 r (.ins CR dx (restF n ta de oa (nx + 1)))) r n ts (S ++ [(nx, (oth a v, oth b v, pr a + pr b), sortI (a.2.2 ++ b.2.2))]) (nx + 1) de oa :=
    ⟨dx, ta, _, _, upd_same, S8.lst i2, (upd_ne n1.symm).trans i3, (upd_ne n2.symm).trans i4, i5, prd_mapK (R := fun v s => RE H7 v s.2.1) (R' := fun v s => RE _ v s.2.1) i6 fun v s h => sE _ _ _ _ S8 h, prd_mapK (R := fun v s => RLI H7 v s.2.2) (R' := fun v s => RLI _ v s.2.2) i7 fun v s h => sLI _ _ _ _ S8 h⟩
  have j1 : (upd H7 r (.ins CR dx (restF n ta de oa (nx + 1)))) r = _ := upd_same
  generalize upd H7 r (.ins CR dx (restF n ta de oa (nx + 1))) = H8 at *
  have GG : Gx TB [r, de, oa] H H8 := ((((((G12.trans G3).mono (by simp)).trans G4).call G6).trans G7).trans G8)
  clear i1
  walk_at "st"
  refine ⟨r, a.1, n, ts, _, nx + 1, de, oa, _, rfl, R8, look_app la, fun H9 G9 R9 => ?_⟩
  obtain ⟨dx9, ta9, _, _, j9, _⟩ := R9.ex
  walk_at "st"
  refine ⟨r, b.1, n, ts, _, nx + 1, de, oa, _, rfl, R9, look_filter hab (look_app lb), fun H10 G10 R10 => ?_⟩
  walk_at "st"
  refine q _ ((GG.trans G9).trans G10) ?_
  rw [← join_rest h2.asc hkey hr' (nx, (oth a v, oth b v, pr a + pr b), sortI (a.2.2 ++ b.2.2)) rfl]
  exact R10

theorem sc_Rest_apply : FnScope ["self", "row", "number"] ["self", "row"] (defScope sR_apply) := ⟨rfl, rfl, rfl, by decide +kernel, rfl, by decide +kernel, by decide +kernel⟩
theorem drop_each {S : List En} {v : Int} (h : (S.map (·.1)).Pairwise (· < ·)) : ∀ L : List En, (∀ s ∈ L, s ∈ S) → L.foldl (fun (T : List En) s => T.filter fun t => decide (t.1 ≠ s.1)) S = S.filter fun t => !(L.any fun s => decide (t.1 = s.1)) := fun L => by
  have key : ∀ (L T : List En), L.foldl (fun (T : List En) s => T.filter fun t => decide (t.1 ≠ s.1)) T = T.filter fun t => !(L.any fun s => decide (t.1 = s.1)) := fun L => by
    induction L with
    | nil => intro T; exact (List.filter_eq_self.mpr fun _ _ => rfl).symm
    | cons s r ih =>
      intro T
      rw [List.foldl_cons, ih, List.filter_filter]
      refine List.filter_congr fun t _ => ?_
      rw [List.any_cons]
      by_cases z : t.1 = s.1 <;> simp [z]
  exact fun _ => key L S
theorem drop_ring {S : List En} {v : Int} (h : (S.map (·.1)).Pairwise (· < ·)) : (ring S v).foldl (fun (T : List En) s => T.filter fun t => decide (t.1 ≠ s.1)) S = S.filter fun s => !inc v s := by
  rw [drop_each (v := v) h _ fun s hs => (ring_mem.mp hs).1]
  refine List.filter_congr fun t ht => ?_
  congr 1
  rw [Bool.eq_iff_iff, List.any_eq_true]
  constructor
  · rintro ⟨s, hs, e⟩
    obtain ⟨m1, m2⟩ := ring_mem.mp hs
    rw [asc_eq h ht m1 (of_decide_eq_true e)]; exact m2
  · intro hi
    exact ⟨t, ring_mem.mpr ⟨ht, hi⟩, decide_eq_true rfl⟩
theorem ok_m_apply {f : Addr} {fd : FuncData} (T : Tx K mg CN CR) (F : FnP K "apply" "Rest.apply" sR_apply f fd)
  (m_around : CalM P w K mg base 1 CR "around" ["self", "vertex"] (spm_around TB CN CR))
  (m_drop : CalM P w K mg base 1 CR "drop" ["self", "number"] (spm_drop TB CN CR))
  (m_join : CalM P w K mg base 3 CR "join" ["self", "vertex"] (spm_join TB CN CR)) : FnOk P w K mg base CX0 4 f fd ["self", "row"] (spm_apply TB CN CR) := by
  refine F.ok (k := 3) sc_Rest_apply (fun vs H Q E h => by obtain ⟨r, ra, row, n, ts, S, nx, de, oa, rfl, _⟩ := h; rfl) (fun cdv A outer s H vs Q E hr h => ?_)
  have hu := hu_of hr
  have z1 := T.clN
  have z2 := T.clR
  have z3 := T.a_size
  have z4 := T.a_edges
  have z5 := T.r_size
  have z6 := T.r_terminals
  have z7 := T.r_edges
  have z8 := T.r_origins
  have z9 := T.r_next
  obtain ⟨r, ra, row, n, ts, S, nx, de, oa, rfl, h⟩ := h
  refine ⟨_, PSs.nox (pss_one (ps_if (pt_cmpR op_eq (pe_ix (ixT (K := K)) (pv 1) pe_int (fun _ _ => rfl)) pe_str (nomark _)) (pss_one (ps_for PassesOwn.never rfl (iL (K := K) (pe_m m_around (pv 0) T.clR (hr.mono (by decide)) (pa_cons (pe_ix (ixT (K := K)) (pv 1) pe_int (fun _ _ => rfl)) pa_nil))) (pg_name (i := 2) sc_Rest_apply.nd rfl (Or.inl rfl))
      (pss_one (ps_expr (pe_m m_drop (pv 0) T.clR (hr.mono (by decide)) (pa_cons (pv 2) pa_nil)))))) (pss_one (ps_if (pt_cmpR op_eq (pe_ix (ixT (K := K)) (pv 1) pe_int (fun _ _ => rfl)) pe_str (nomark _)) (pss_one (ps_expr (pe_m m_join (pv 0) T.clR (hr.mono (by decide)) (pa_cons (pe_ix (ixT (K := K)) (pv 1) pe_int (fun _ _ => rfl)) pa_nil)))) (pss_one (ps_expr (pe_m m_drop (pv 0) T.clR (hr.mono (by decide)) (pa_cons (pe_ix (ixT (K := K)) (pv 1) pe_int (fun _ _ => rfl)) pa_nil)))))))), ?_⟩
  obtain ⟨h1, h2, h3, h4, q⟩ := h
  obtain ⟨dx, ta, ekv, okv, i1, i2, i3, i4, i5, i6, i7⟩ := h1.ex
  obtain ⟨_, e, h5⟩ := h3
  cases e
  cases row with
  | leaf v =>
    have h6 : H ra = some (.tup [.str "leaf", .int v]) := h5
    walk_at "st"
    refine ⟨r, v, n, ts, S, nx, de, oa, rfl, h1, h2, fun p H1 G1 k1 => ?_⟩
    have R1 := h1.mono G1.extN
    refine r_iLH k1 ?_
    refine for_list (xs := (aroundF S v).map V.int) (fun i σ H2 => ∃ o2, σ = [some (.ref r), some (.ref ra), o2] ∧ Gx TB [r, de, oa] H1 H2 ∧ RestAt CR H2 r n ts (((ring S v).take i).foldl (fun (T : List En) s => T.filter fun t => decide (t.1 ≠ s.1)) S) nx de oa) ⟨_, rfl, Gx.refl, R1⟩ (fun i σ H2 _ ⟨_, _, G2, _⟩ => SqL.of (G2.lst k1 (R1.offL k1))) (fun i x σ H2 hx ⟨o2, es, G2, R2⟩ => ?_) fun σ H2 ⟨o2, es, G2, R2⟩ => ?_
    · subst es
      unfold aroundF at hx
      rw [List.getElem?_map, List.getElem?_map] at hx
      obtain ⟨k, hk, rfl⟩ := Option.map_eq_some_iff.mp hx
      obtain ⟨s, hs, rfl⟩ := Option.map_eq_some_iff.mp hk
      obtain ⟨dx2, ta2, _, _, j1, _⟩ := R2.ex
      walk_at "st"
      have tk : (ring S v).take (i + 1) = (ring S v).take i ++ [s] := by rw [List.take_succ, hs]; rfl
      rw [tk, List.foldl_append]
      have hlk : (((ring S v).take i).foldl (fun (T : List En) s => T.filter fun t => decide (t.1 ≠ s.1)) S).lookup s.1 = some s.2 := by
        have m := (ring_mem.mp (List.mem_of_getElem? hs)).1
        refine lookup_of ?_ ?_
        · rw [drop_each (v := v) h2.asc _ fun t ht => (ring_mem.mp (List.mem_of_mem_take ht)).1]
          exact filter_asc _ h2.asc
        · rw [drop_each (v := v) h2.asc _ fun t ht => (ring_mem.mp (List.mem_of_mem_take ht)).1]
          refine List.mem_filter.mpr ⟨m, ?_⟩
          rw [Bool.not_eq_true', List.any_eq_false]
          intro t ht e
          have e := of_decide_eq_true e
          obtain ⟨j, hj, ej⟩ := List.mem_take_iff_getElem.mp ht
          have asc2 : ((ring S v).map (·.1)).Pairwise (· < ·) := filter_asc _ h2.asc
          rw [List.pairwise_map] at asc2
          have hi3 := (List.getElem?_eq_some_iff.mp hs).1
          have := List.pairwise_iff_getElem.mp asc2 j i (by omega) hi3 (by omega)
          rw [ej, (List.getElem?_eq_some_iff.mp hs).2] at this
          omega
      refine ⟨r, s.1, n, ts, _, nx, de, oa, _, rfl, R2, hlk, fun H3 G3 R3 => ?_⟩
      walk_at "st"
      exact ⟨_, rfl, G2.trans G3, R3⟩
    · rw [List.length_map, show (aroundF S v).length = (ring S v).length from List.length_map _, List.take_length, drop_ring h2.asc] at R2
      exact q _ ((G1.mono (by simp)).trans G2) R2
  | series v =>
    have h6 : H ra = some (.tup [.str "series", .int v]) := h5
    walk_at "st"
    exact ⟨r, v, n, ts, S, nx, de, oa, rfl, h1, h2, h4, fun H1 G1 R1 => q _ G1 R1⟩
  | longer k w =>
    obtain ⟨wa, h6, h7⟩ := h5
    obtain ⟨e, os, m1, _⟩ := longer_of (show longerB S ts k w = true from h4)
    walk_at "st"
    exact ⟨r, k, n, ts, S, nx, de, oa, _, rfl, h1, lookup_of h2.asc m1, fun H1 G1 R1 => q _ G1 R1⟩

theorem sc_Rest_init : FnScope ["self", "network", "terminals", "edges", "number"] ["self", "network", "terminals"] (defScope sR_init) := ⟨rfl, rfl, rfl, by decide +kernel, rfl, by decide +kernel, by decide +kernel⟩
theorem putF_len (f : Str) (v : V) : ∀ fs : List (Str × V), (putF f v fs).length ≤ fs.length + 1
  | [] => by simp [putF]
  | (g, x) :: r => by
    unfold putF
    split
    · simp
    · have := putF_len f v r
      simp only [List.length_cons]; omega
theorem putF_lt {f : Str} {v : V} {fs : List (Str × V)} {k : Nat} (h : fs.length < k) : (putF f v fs).length < k + 1 := by
  have := putF_len f v fs
  omega
theorem ok_k_Rest {f : Addr} {fd : FuncData} (T : Tx K mg CN CR) (F : FnP K "__init__" "Rest.__init__" sR_init f fd)
  (mN_edges : CalM P w K mg base 1 CN "edges" ["self"] (spmN_edges TB CN CR))
  (mN_size : CalM P w K mg base 1 CN "size" ["self"] (spmN_size TB CN CR)) : FnOk P w K mg base CX0 2 f fd ["self", "network", "terminals"] (spk_Rest TB CN CR) := by
  refine F.ok (k := 1) sc_Rest_init (fun vs H Q E h => by obtain ⟨x, dx, a, t, n, es, ts, rfl, _⟩ := h; rfl) (fun cdv A outer s H vs Q E hr h => ?_)
  have hu := hu_of hr
  have z1 := T.clN
  have z2 := T.clR
  have z3 := T.a_size
  have z4 := T.a_edges
  have z5 := T.r_size
  have z6 := T.r_terminals
  have z7 := T.r_edges
  have z8 := T.r_origins
  have z9 := T.r_next
  obtain ⟨x, dx, a, t, n, es, ts, rfl, h⟩ := h
  refine ⟨_, PSs.nox (pss_cons (ps_set (i := 3) sc_Rest_init.nd rfl (Or.inr rfl) (pe_m0 mN_edges (pv 1) T.clN (hr.mono (by decide))))
    (pss_cons (sFl (K := K) (pv 0) (pe_m0 mN_size (pv 1) T.clN (hr.mono (by decide))))
    (pss_cons (sFl (K := K) (pv 0) (pe_callTy (listQ (K := K)) (by rfl) T.n_list (by decide +kernel) (pa_cons (pv 2) pa_nil)))
    (pss_cons (sFl (K := K) (pv 0) (pe_dc (own := [("number", 4)]) (by rfl) sc_Rest_init.nd (pi_range1 (by rfl) T.n_range (pa_cons (pe_callB (lenQ (K := K)) (by rfl) T.n_len (by decide +kernel) (pa_cons (pv 3) pa_nil)) pa_nil)) (blkOk_by (own := [("number", 4)]) (N := ["self", "network", "terminals", "edges", "number"]) (sc := defScope sR_init) (by decide +kernel)) (fun _ _ _ _ _ => pg_name (i := 4) sc_Rest_init.nd rfl (Or.inl rfl)) (fun _ _ _ _ _ => pts_nil) (fun _ _ _ _ _ => (pv 4)) (fun _ _ _ _ _ => (pe_ix (ixL (K := K)) (pv 3) (pv 4) (fun _ _ => rfl)))))
    (pss_cons (sFl (K := K) (pv 0) (pe_dc (own := [("number", 4)]) (by rfl) sc_Rest_init.nd (pi_range1 (by rfl) T.n_range (pa_cons (pe_callB (lenQ (K := K)) (by rfl) T.n_len (by decide +kernel) (pa_cons (pv 3) pa_nil)) pa_nil)) (blkOk_by (own := [("number", 4)]) (N := ["self", "network", "terminals", "edges", "number"]) (sc := defScope sR_init) (by decide +kernel)) (fun _ _ _ _ _ => pg_name (i := 4) sc_Rest_init.nd rfl (Or.inl rfl)) (fun _ _ _ _ _ => pts_nil) (fun _ _ _ _ _ => (pv 4)) (fun _ _ _ _ _ => (pe_lst (pa_cons (pv 4) pa_nil)))))
    (pss_one (sFl (K := K) (pv 0) (pe_callB (lenQ (K := K)) (by rfl) T.n_len (by decide +kernel) (pa_cons (pv 3) pa_nil))))))))), ?_⟩
  obtain ⟨h1, h2, h3, h4, q⟩ := h
  obtain ⟨dxn, ean, i1, i2⟩ := id h2
  walk_at "st"
  refine ⟨a, n, es, rfl, h2, fun l H1 hl G1 r1 => ?_⟩
  have n1 := h2.mono G1.extN
  obtain ⟨us, k1, k2⟩ := r1.lst
  have kl := prd_len k2
  have x1 := G1.ins h1
  have t1 := G1.lst h4
  obtain ⟨dxn, ean, i1, i2⟩ := id n1
  walk_at "st"
  refine ⟨a, n, es, rfl, n1, ?_⟩
  walk_at "st"
  refine r_sFldAt x1 z2 z5 (by simp) ?_
  have G2 : Gx TB [x] H (upd H1 x (.ins CR dx (putF "size" (V.int n) []))) := (G1.mono (by simp)).mut (by simp) x1 trivial
  have x2 : (upd H1 x (.ins CR dx (putF "size" (V.int n) []))) x = _ := upd_same
  have xt : t ≠ x := fun z => by rw [z, h1] at h4; cases h4
  have xl : l ≠ x := ne_none hl h1
  have k1a : (upd H1 x (.ins CR dx (putF "size" (V.int n) []))) l = some (.lst us) := (upd_ne xl).trans k1
  have sx : ExtS H1 (upd H1 x (.ins CR dx (putF "size" (V.int n) []))) := fun b o hb ho => by
    rw [upd_ne (fun z : b = x => by rw [z, x1] at hb; cases hb; exact ho)]; exact hb
  have r2 := sL sE _ _ _ _ sx r1
  replace t1 := sx.lst t1
  generalize upd H1 x (.ins CR dx (putF "size" (V.int n) [])) = H2 at *
  walk_at "st"
  refine r_listH (T := TB) t1 fun ta H3 hta G3 kta => ?_
  have x3 := G3.ins x2
  have k3 := G3.lst k1a
  have r3 := mL mE _ _ _ _ G3.extN r2
  walk_at "st"
  refine r_sFldAt x3 z2 z6 (Nat.lt_of_lt_of_le (putF_lt (show ([] : List (Str × V)).length < 1 by decide)) (by decide)) ?_
  have G4 : Gx TB [x] H (upd H3 x (.ins CR dx (putF "terminals" (V.ref ta) (putF "size" (V.int n) [])))) := (G2.call G3).mut (by simp) x3 trivial
  have x4 : (upd H3 x (.ins CR dx (putF "terminals" (V.ref ta) (putF "size" (V.int n) [])))) x = _ := upd_same
  have sx4 : ExtS H3 (upd H3 x (.ins CR dx (putF "terminals" (V.ref ta) (putF "size" (V.int n) [])))) := fun b o hb ho => by
    rw [upd_ne (fun z : b = x => by rw [z, x3] at hb; cases hb; exact ho)]; exact hb
  have k4 := sx4.lst k3
  have r4 := sL sE _ _ _ _ sx4 r3
  have kta4 := sx4.lst kta
  generalize upd H3 x (.ins CR dx (putF "terminals" (V.ref ta) (putF "size" (V.int n) []))) = H4 at *
  have fS : (List.range es.length).map (fun i => (((i : Nat) : Int), es[i]?.getD (0, 0, 0), [((i : Nat) : Int)])) = startS es := by
    refine List.ext_getElem? fun i => ?_
    rw [startS_at, List.getElem?_map]
    by_cases hi : i < es.length
    · rw [List.getElem?_range hi, Option.map_some, List.getElem?_eq_getElem hi, Option.map_some]; rfl
    · rw [List.getElem?_eq_none (by simp; omega), List.getElem?_eq_none (by omega)]; rfl
  obtain ⟨us4, k4', p4⟩ := r4.lst
  rw [k4] at k4'; cases k4'
  walk_at "st"
  intro de hde
  rw [show ((us.length : Nat) : Int).toNat = es.length by omega]
  refine dc_rangeR (T := TB) (β := En) (R := fun H v s => RE H v s.2.1) (fun H H' v s e h => mE _ _ _ _ e h) (fun i => (((i : Nat) : Int), es[i]?.getD (0, 0, 0), [((i : Nat) : Int)])) (·.1) (fun i _ => rfl) hde (by rw [sizeLine_eq]; omega) (fun i H5 KZ NN hi G5 e5 hne5 hz => ?_) fun H5 ekv G5 k5 p5 => ?_
  · have k5 := G5.lst k4
    obtain ⟨u, m1, m2⟩ := prd_get p4 (List.getElem?_eq_getElem hi)
    walk_at "st"
    refine ⟨rfl, ?_⟩
    walk_at "st"
    rw [Int.zero_add]
    refine r_ixL (SqL.of k5) (atI_nat m1) ?_
    refine hz _ _ Gx.refl ?_
    rw [show es[i]?.getD (0, 0, 0) = es[i] by rw [List.getElem?_eq_getElem hi]; rfl]
    exact mE _ _ _ _ e5 m2
  · rw [fS] at p5
    have x5 := G5.ins x4
    walk_at "st"
    refine r_sFldAt x5 z2 z7 (Nat.lt_of_lt_of_le (putF_lt (putF_lt (show ([] : List (Str × V)).length < 1 by decide))) (by decide)) ?_
    have G6 : Gx TB [x] H (upd H5 x (.ins CR dx (putF "edges" (V.ref de) (putF "terminals" (V.ref ta) (putF "size" (V.int n) []))))) := (G4.call G5).mut (by simp) x5 trivial
    have x6 : (upd H5 x (.ins CR dx (putF "edges" (V.ref de) (putF "terminals" (V.ref ta) (putF "size" (V.int n) []))))) x = _ := upd_same
    have sx6 : ExtS H5 (upd H5 x (.ins CR dx (putF "edges" (V.ref de) (putF "terminals" (V.ref ta) (putF "size" (V.int n) []))))) := fun b o hb ho => by
      rw [upd_ne (fun z : b = x => by rw [z, x5] at hb; cases hb; exact ho)]; exact hb
    have xde : de ≠ x := ne_none hde x4
    have k6 : (upd H5 x (.ins CR dx (putF "edges" (V.ref de) (putF "terminals" (V.ref ta) (putF "size" (V.int n) []))))) de = some (.dK ekv) := (upd_ne xde).trans k5
    have kta6 := sx6.lst (G5.lst kta4)
    have kl6 := sx6.lst (G5.lst k4)
    replace p5 := prd_mapK (R := fun v s => RE H5 v s.2.1) (R' := fun v s => RE _ v s.2.1) p5 fun v s h => sE _ _ _ _ sx6 h
    have hde0 : Off H de := fun o ho => by
      by_cases z : de = x
      · exact absurd z xde
      · by_cases hs : ∃ ps, o = .tbl ps
        · exact hs
        · have := G4.ext de o ho (fun ps y => hs ⟨ps, y⟩) (by simp [z])
          rw [hde] at this; cases this
    generalize upd H5 x (.ins CR dx (putF "edges" (V.ref de) (putF "terminals" (V.ref ta) (putF "size" (V.int n) [])))) = H6 at *
    walk_at "st"
    intro oa hoa
    rw [show ((us.length : Nat) : Int).toNat = es.length by omega]
    refine dc_rangeR (T := TB) (β := En) (R := fun H v s => RLI H v s.2.2) (fun H H' v s e h => mLI _ _ _ _ e h) (fun i => (((i : Nat) : Int), es[i]?.getD (0, 0, 0), [((i : Nat) : Int)])) (·.1) (fun i _ => rfl) hoa (by rw [sizeLine_eq]; omega) (fun i H7 KZ NN hi G7 e7 hne7 hz => ?_) fun H7 okv G7 k7 p7 => ?_
    · walk_at "st"
      refine ⟨rfl, ?_⟩
      walk_at "st"
      rw [Int.zero_add]
      refine ⟨by simp [sizeLine_eq], fun p hp => ?_⟩
      refine hz _ _ (Gx.refl.new hp) ⟨p, rfl, ?_⟩
      rw [minus_ne (fun z : p = oa => by rw [← z, hp] at hne7; exact hne7 rfl), upd_same]; rfl
    · rw [fS] at p7
      have x7 := G7.ins x6
      walk_at "st"
      refine r_sFldAt x7 z2 z8 (Nat.lt_of_lt_of_le (putF_lt (putF_lt (putF_lt (show ([] : List (Str × V)).length < 1 by decide)))) (by decide)) ?_
      have G8 : Gx TB [x] H (upd H7 x (.ins CR dx (putF "origins" (V.ref oa) (putF "edges" (V.ref de) (putF "terminals" (V.ref ta) (putF "size" (V.int n) [])))))) := (G6.call G7).mut (by simp) x7 trivial
      have x8 : (upd H7 x (.ins CR dx (putF "origins" (V.ref oa) (putF "edges" (V.ref de) (putF "terminals" (V.ref ta) (putF "size" (V.int n) [])))))) x = _ := upd_same
      have sx8 : ExtS H7 (upd H7 x (.ins CR dx (putF "origins" (V.ref oa) (putF "edges" (V.ref de) (putF "terminals" (V.ref ta) (putF "size" (V.int n) [])))))) := fun b o hb ho => by
        rw [upd_ne (fun z : b = x => by rw [z, x7] at hb; cases hb; exact ho)]; exact hb
      have xoa : oa ≠ x := ne_none hoa x6
      have deoa : de ≠ oa := fun z => by rw [z, hoa] at k6; cases k6
      have k8 : (upd H7 x (.ins CR dx (putF "origins" (V.ref oa) (putF "edges" (V.ref de) (putF "terminals" (V.ref ta) (putF "size" (V.int n) [])))))) oa = some (.dK okv) := (upd_ne xoa).trans k7
      have k8e : (upd H7 x (.ins CR dx (putF "origins" (V.ref oa) (putF "edges" (V.ref de) (putF "terminals" (V.ref ta) (putF "size" (V.int n) [])))))) de = some (.dK ekv) := (upd_ne xde).trans (G7.dK k6)
      have kta8 := sx8.lst (G7.lst kta6)
      have kl8 := sx8.lst (G7.lst kl6)
      replace p5 := prd_mapK (R := fun v s => RE H6 v s.2.1) (R' := fun v s => RE _ v s.2.1) p5 fun v s h => sE _ _ _ _ sx8 (mE _ _ _ _ G7.extN h)
      replace p7 := prd_mapK (R := fun v s => RLI H7 v s.2.2) (R' := fun v s => RLI _ v s.2.2) p7 fun v s h => sLI _ _ _ _ sx8 h
      have hoa0 : Off H oa := fun o ho => by
        by_cases z : oa = x
        · exact absurd z xoa
        · by_cases hs : ∃ ps, o = .tbl ps
          · exact hs
          · have := G6.ext oa o ho (fun ps y => hs ⟨ps, y⟩) (by simp [z])
            rw [hoa] at this; cases this
      generalize upd H7 x (.ins CR dx (putF "origins" (V.ref oa) (putF "edges" (V.ref de) (putF "terminals" (V.ref ta) (putF "size" (V.int n) []))))) = H8 at *
      walk_at "st"
      refine r_sFldAt x8 z2 z9 (Nat.lt_of_lt_of_le (putF_lt (putF_lt (putF_lt (putF_lt (show ([] : List (Str × V)).length < 1 by decide))))) (by decide)) ?_
      have ep : putF ("next" : Str) (V.int (us.length : Nat)) (putF "origins" (V.ref oa) (putF "edges" (V.ref de) (putF "terminals" (V.ref ta) (putF "size" (V.int n) [])))) = restF n ta de oa (us.length : Nat) := by kernel_rfl
      rw [ep, kl]
      have sx9 : ExtS H8 (upd H8 x (.ins CR dx (restF n ta de oa (es.length : Nat)))) := fun b o hb ho => by
        rw [upd_ne (fun z : b = x => by rw [z, x8] at hb; cases hb; exact ho)]; exact hb
      refine q _ de oa hde0 hoa0 (G8.mut (by simp) x8 trivial) ⟨dx, ta, ekv, okv, upd_same, sx9.lst kta8, (upd_ne xde).trans k8e, (upd_ne xoa).trans k8, deoa, ?_, ?_⟩
      · exact prd_mapK (R := fun v s => RE H8 v s.2.1) (R' := fun v s => RE _ v s.2.1) p5 fun v s h => sE _ _ _ _ sx9 h
      · exact prd_mapK (R := fun v s => RLI H8 v s.2.2) (R' := fun v s => RLI _ v s.2.2) p7 fun v s h => sLI _ _ _ _ sx9 h
end TW
end

section
set_option Elab.async false
set_option linter.all false
set_option maxRecDepth 100000
set_option maxHeartbeats 1000000
set_option exponentiation.threshold 600
namespace TW
open PySem PySem.Spec PyProof.Rows L2 LamX NdefX StX
variable {P : Program} {w : World} {K : PySem.W.Frag} {mg : Str → Option Value} {base : Heap} {CN CR : Addr} {TB : Tbs}
local macro_rules | `(tactic| walk_at "s1") => `(tactic| first
  | with_reducible refine r_seq ?_
  | with_reducible refine r_set ?_
  | with_reducible refine r_var (by with_unfolding_all rfl) ?_
  | with_reducible refine r_c ?_
  | with_reducible refine r_op ?_
  | with_reducible refine r_cons ?_
  | with_reducible refine r_nil ?_
  | with_reducible refine r_I0 ?_
  | with_reducible refine r_test ?_
  | with_reducible refine r_blk ?_
  | with_reducible refine r_ifT ?_
  | with_reducible refine r_ifF ?_
  | with_reducible refine r_ifNT ?_
  | with_reducible refine r_ifNF ?_
  | with_reducible refine r_aug (by with_unfolding_all rfl) ?_
  | with_reducible refine r_ipI ?_
  | with_reducible refine r_ifs0 ?_
  | with_reducible refine r_ifs1 ?_
  | with_reducible refine r_ifsN ?_
  | with_reducible refine r_ifsS ?_
  | with_reducible refine r_if ?_
  | with_reducible refine r_fld ?_
  | with_reducible refine r_fldC (by assumption) (by assumption) (by assumption) (by first | exact lkN_size | exact lkN_edges | exact lkR_size | exact lkR_terminals | exact lkR_edges | exact lkR_origins | exact lkR_next) ?_
  | with_reducible refine r_eqI ?_
  | with_reducible refine r_neI ?_
  | with_reducible refine r_eqS ?_
  | with_reducible refine r_cl ?_
  | with_reducible refine r_cb ?_
  | with_reducible refine r_mt ?_
  | with_reducible refine r_mtAt (by assumption) (by first | exact lkN_msize | exact lkN_medges | exact lkR_around | exact lkR_other_end | exact lkR_ends_around | exact lkR_is_inner | exact lkR_is_leaf | exact lkR_is_series | exact lkR_is_longer | exact lkR_holds | exact lkR_drop | exact lkR_join | exact lkR_apply | exact lkR_paths_from | exact lkR_walk_for | exact lkR_rows_by_vertices | exact lkR_rows_by_edges) ?_
  | with_reducible refine r_dget ?_
  | with_reducible refine r_ret ?_
  | with_reducible refine r_nx ?_
  | with_reducible refine r_yes ?_
  | with_reducible refine r_drop ?_
  | with_reducible refine r_asg ?_
  | with_reducible refine r_gN ?_
  | with_reducible refine r_gT3 (by assumption) (by with_unfolding_all rfl) ?_
  | with_reducible refine r_gT2 (by assumption) (by with_unfolding_all rfl) ?_
  | with_reducible refine r_or ?_
  | with_reducible refine r_and ?_
  | with_reducible refine r_not ?_
  | with_reducible refine r_andV ?_
  | with_reducible refine r_orV ?_
  | with_reducible refine r_notV ?_
  | with_reducible refine r_chain ?_
  | with_reducible refine r_ifE ?_
  | with_reducible refine r_B ?_
  | with_reducible refine r_tup ?_
  | with_reducible refine r_lst ?_
  | with_reducible refine r_sl ?_
  | with_reducible refine r_noP ?_
  | with_reducible refine r_part ?_
  | with_reducible refine r_intC ?_
  | with_reducible refine r_din ?_
  | with_reducible refine r_dni ?_
  | with_reducible refine r_iL ?_
  | with_reducible refine r_iT ?_
  | with_reducible refine r_iR1 ?_
  | with_reducible refine r_iR2 ?_
  | with_reducible refine r_un ?_
  | with_reducible refine r_U ?_
  | with_reducible refine r_sFld ?_
  | with_reducible refine r_sFldAug ?_
  | with_reducible refine r_dput ?_
  | with_reducible refine r_ddel ?_
  | with_reducible refine r_bm ?_
  | with_reducible refine r_for ?_
  | with_reducible refine r_lc ?_
  | with_reducible refine r_dc ?_
  | with_reducible refine r_subset ?_
  | with_reducible refine r_intI ?_
  | with_reducible refine r_intB ?_
  | with_reducible refine r_absI ?_
  | with_reducible refine r_min2I ?_
  | with_reducible refine r_mk ?_
  | with_reducible refine r_star ?_
  | with_reducible refine r_starAt (by assumption) ?_
  | with_reducible refine r_pop1 ?_
  | with_reducible refine r_popAt (by assumption) ?_
  | with_reducible refine r_get1 ?_
  | with_reducible refine r_minK ?_
  | with_reducible refine r_lstRg ?_
  | with_reducible refine r_rg1 ?_
  | with_reducible refine r_eqN ?_
  | with_reducible refine r_lenI (by assumption) ?_
  | with_reducible refine r_lenH (by assumption) ?_
  | with_reducible refine r_ix0 (by assumption) ?_
  | with_reducible refine r_ix1 (by assumption) ?_
  | with_reducible refine r_ix2 (by assumption) ?_
  | with_reducible refine r_I (by first | decide | (unfold CPow; omega) | (unfold CDiv; omega) | (unfold CMul; omega) | omega) ?_
  | with_reducible refine r_iR1At (by omega) ?_
  | with_reducible refine r_ifP (by first | omega | exact rfl) ?_
  | with_reducible refine r_ifQ (by first | omega | with_unfolding_all decide) ?_
  | with_reducible refine r_ifNP (by omega) ?_
  | with_reducible refine r_ifNQ (by omega) ?_)
local macro_rules | `(tactic| walk_at "st") => `(tactic| repeat walk_at "s1")

theorem sc_Rest_paths_from : FnScope ["self", "start", "number", "labels", "open_labels", "here", "price", "path", "step", "other", "least", "vertex"] ["self", "start", "number"] (defScope sR_paths_from) := ⟨rfl, rfl, rfl, by decide +kernel, rfl, by decide +kernel, by decide +kernel⟩
theorem ExtS.updN {H : Hp} {l : Addr} {o0 o : HO} (h : H l = some o0) (hn : ¬ Soft o0) : ExtS H (upd H l o) := fun b u hb hs => by
  rw [upd_ne (fun z : b = l => hn (by rw [z, h] at hb; cases hb; exact hs))]; exact hb
theorem r_dispLab {T : Tbs} {σ : L2.St} {H : Hp} {Q : VK} {i : Nat} {start n : Int} (H0 : Hp) (G0 : Gx T [] H0 H) (hv : σ[i]? = some (some (.int start))) (h0 : 0 ≤ start) (h1 : start < n)
    (q : ∀ p H' kvs, H p = none → Gx T [] H H' → H' p = some (.dK kvs) → DictOf RLab (newer H0 H') kvs (putL (fun _ => none) start (0, [])) n → Q (.ref p) H') : tDisp [(tVar i, tTup (tCons (tC (.int 0)) (tCons (tLst tNil) tNil)))] σ H Q := by
  intro p hp
  refine ⟨_, hv, ?_⟩
  refine ⟨by decide, fun l hl => ⟨by simp [sizeLine_eq], fun t ht => ?_⟩⟩
  have n1 : p ≠ l := fun z => by rw [← z, upd_same] at hl; cases hl
  have e1 : (upd (upd H p (.dK [])) l (.lst [])) p = some (.dK []) := by rw [upd_ne n1, upd_same]
  have e2 : (upd (upd H p (.dK [])) l (.lst [])) l = some (.lst []) := upd_same
  have G1 : Gx T [p] H (upd (upd H p (.dK [])) l (.lst [])) := (((Gx.refl (xs := [])).new hp).new hl).mono (by simp)
  have ol : Off H0 l := (G0.new (o := .dK []) hp).off (Off.none hl)
  have ot : Off H0 t := ((G0.new (o := .dK []) hp).new (o := .lst []) hl).off (Off.none ht)
  generalize upd (upd H p (.dK [])) l (.lst []) = H1 at *
  have n2 : p ≠ t := fun z => by rw [← z, e1] at ht; cases ht
  have n3 : l ≠ t := fun z => by rw [← z, e2] at ht; cases ht
  have e3 : (upd H1 t (.tup [.int 0, .ref l])) p = some (.dK []) := by rw [upd_ne n2]; exact e1
  have e4 : (upd H1 t (.tup [.int 0, .ref l])) l = some (.lst []) := by rw [upd_ne n3]; exact e2
  have e5 : (upd H1 t (.tup [.int 0, .ref l])) t = some (.tup [.int 0, .ref l]) := upd_same
  have G2 : Gx T [p] H (upd H1 t (.tup [.int 0, .ref l])) := G1.new ht
  generalize upd H1 t (.tup [.int 0, .ref l]) = H2 at *
  refine ⟨e3, [(.inl start, .ref t)], rfl, by simp, ?_⟩
  have G3 : Gx T [p] H (upd H2 p (.dK (mergeK [] [(.inl start, .ref t)]))) := G2.mut (by simp) e3 trivial
  refine q p _ _ hp (G3.drop (Off.none hp)) upd_same ?_
  have D0 : DictOf RLab (newer H0 (upd H2 p (.dK (mergeK [] [(.inl start, .ref t)])))) [] (fun _ => none) n := DictOf.nil
  exact D0.put h0 h1 ⟨t, l, rfl, by rw [newer_off ot, upd_ne n2.symm]; exact e5, by rw [newer_off ol, upd_ne n1.symm]; exact e4⟩
theorem ok_m_paths_from {fd : FuncData} {c Pt : Addr} (T : Tx K mg CN CR) (F : FunD K "paths_from" "Rest.paths_from" (defArgs sR_paths_from) (defBody sR_paths_from) (defScope sR_paths_from) [] [] (He.fAd K ("Rest", some "paths_from")) fd) (hcc : He.codeOf K ("Rest", some "paths_from") = c) (tb : TabB base mg c Pt) (hT : (Pt, ("Rest.paths_from.<locals>." : Str) ++ "<lambda>") ∈ TB) (hu2 : ∀ p ∈ TB, p.1 = Pt → p.2 = ("Rest.paths_from.<locals>." : Str) ++ "<lambda>")
  (m_around : CalM P w K mg base 1 CR "around" ["self", "vertex"] (spm_around TB CN CR))
  (m_other_end : CalM P w K mg base 1 CR "other_end" ["self", "number", "vertex"] (spm_other_end TB CN CR)) : FnOk P w K mg base CX0 4 (He.fAd K ("Rest", some "paths_from")) fd ["self", "start", "number"] (spm_paths_from TB CN CR) := by
  refine okC (k := 3) F hcc sc_Rest_paths_from (fun vs H Q E h => by obtain ⟨r, start, num, n, ts, S, nx, de, oa, rfl, _⟩ := h; rfl) (fun A outer s H vs Q E hr h => ?_)
  have hu := hu_of hr
  have z1 := T.clN
  have z2 := T.clR
  have z3 := T.a_size
  have z4 := T.a_edges
  have z5 := T.r_size
  have z6 := T.r_terminals
  have z7 := T.r_edges
  have z8 := T.r_origins
  have z9 := T.r_next
  obtain ⟨r, start, num, n, ts, S, nx, de, oa, rfl, h⟩ := h
  refine ⟨_, PSs.nox (pss_cons (ps_set (i := 3) sc_Rest_paths_from.nd rfl (Or.inl rfl) (pe_disp (pps_cons (pv 1) (pe_tup (pa_cons pe_int (pa_cons (pe_lst pa_nil) pa_nil))) pps_nil) (by rfl) (by rfl) (fun z => by cases z) (by decide)))
    (pss_cons (ps_set (i := 4) sc_Rest_paths_from.nd rfl (Or.inr rfl) (pe_disp (pps_cons (pv 1) (pe_tup (pa_cons pe_int (pa_cons (pe_lst pa_nil) pa_nil))) pps_nil) (by rfl) (by rfl) (fun z => by cases z) (by decide)))
    (pss_cons (ps_while PassesOwn.never (pt_cmpR op_gt (pe_callB lenQD (by rfl) T.n_len (by decide +kernel) (pa_cons (pv 4) pa_nil)) pe_int (nomark _))
      (pss_cons (ps_set (i := 5) sc_Rest_paths_from.nd rfl (Or.inl rfl) (pe_lock (pe_minK (T := TB) (src := srcD) (c := c) (P := Pt) (k := 0) (N := ["vertex", "open_labels"]) (ps := ["vertex"]) (fr := ["open_labels"]) (js := [4]) (Or.inr rfl) rfl T.n_min rfl (pv 4) tb rfl hT hu2 (hr.mono (by decide)) (nscope_by (by rfl)) rfl (fun y hy e => by cases hy with | head => cases e | tail _ h => cases h with | head => exact Or.inl (by rfl) | tail _ h => cases h) (by decide +kernel) rfl rfl (fun _ _ _ _ _ _ => rfl) (fun _ _ _ _ _ _ hrX => pe_ix (ixT (K := K)) (pe_dget (hu_of (hrX.deeper _)) (pv 1) (pv 0) (fun _ _ => rfl)) pe_int (fun _ _ => rfl)))))
    (pss_cons (ps_asg (pe_dpop1 (pv 4) (pv 5) ⟨by rfl, by rfl, by rfl, by rfl⟩) (gT (K := K) (pgs_cons (pg_name (i := 6) sc_Rest_paths_from.nd rfl (Or.inl rfl)) (pgs_cons (pg_name (i := 7) sc_Rest_paths_from.nd rfl (Or.inl rfl)) pgs_nil))))
    (pss_one (ps_for PassesOwn.never rfl (iL (K := K) (pe_m m_around (pv 0) T.clR (hr.mono (by decide)) (pa_cons (pv 5) pa_nil))) (pg_name (i := 8) sc_Rest_paths_from.nd rfl (Or.inl rfl))
      (pss_cons (ps_set (i := 9) sc_Rest_paths_from.nd rfl (Or.inl rfl) (pe_m m_other_end (pv 0) T.clR (hr.mono (by decide)) (pa_cons (pv 8) (pa_cons (pv 5) pa_nil))))
    (pss_cons (ps_set (i := 10) sc_Rest_paths_from.nd rfl (Or.inl rfl) (pe_op op_add (pv 6) (pe_ix (ixT (K := K)) (pe_dget hu (fld (K := K) (pv 0)) (pv 8) (fun _ _ => rfl)) pe_int (fun _ _ => rfl))))
    (pss_one (ps_if (PW.pt (pw_and (pt_cmpR op_ne (pv 8) (pv 2) (nomark _)) (pw_and1 (PW.pt (pw_or (pt_cmp (pc_dnotin hu (pv 9) (pv 3)) (by rfl)) (pw_or1 (pt_cmpR op_lt (pv 10) (pe_ix (ixT (K := K)) (pe_dget hu (pv 3) (pv 9) (fun _ _ => rfl)) pe_int (fun _ _ => rfl)) (nomark _)))))))) (pss_cons (ps_dput hu (pv 3) (pv 9) (pe_tup (pa_cons (pv 10) (pa_cons (pe_lst (star (K := K) (pv 7) (pa_cons (pv 8) pa_nil))) pa_nil))) rfl)
    (pss_one (ps_dput hu (pv 4) (pv 9) (pe_dget hu (pv 3) (pv 9) (fun _ _ => rfl)) rfl))) pss_nil)))))))))
    (pss_one (ps_ret (pv 3)))))), ?_⟩
  obtain ⟨h1, h2, h3, h4, h5, h6, q⟩ := h
  walk_at "st"
  refine r_dispLab (T := TB) (n := n) H Gx.refl (by with_unfolding_all rfl) h3 h4 fun ld H1 kl hld G1 e1 D1 => ?_
  walk_at "st"
  refine r_dispLab (T := TB) (n := n) H G1 (by with_unfolding_all rfl) h3 h4 fun od H2 ko hod G2 e2 D2 => ?_
  have hne : ld ≠ od := fun z => by rw [z, hod] at e1; cases e1
  have hld0 : Off H ld := Off.none hld
  have hod0 : Off H od := G1.off (Off.none hod)
  have e1' := G2.dK e1
  have D1' := D1.soft sLab (newer_extS (ExtN.soft G2.extN))
  have G02 : Gx TB [ld, od] H H2 := (G1.trans G2).mono (by simp)
  walk_at "st"
  refine while_m (fun m σ H3 => ∃ lab op C kl ko o5 o6 o7 o8 o9 o10 o11, m = n.toNat - C.length ∧ σ = [some (.ref r), some (.int start), some (.int num), some (.ref ld), some (.ref od), o5, o6, o7, o8, o9, o10, o11] ∧ Gx TB [ld, od] H H3 ∧ H3 ld = some (.dK kl) ∧ H3 od = some (.dK ko) ∧ DictOf RLab (newer H H3) kl lab n ∧ DictOf RLab (newer H H3) ko op n ∧ PInv S num start n lab op C)
    ⟨_, _, _, [], _, _, none, none, none, none, none, none, none, rfl, rfl, G02, e1', e2, D1', D2, PInv.begin h3 h4⟩ (fun m σ H3 ⟨lab, op, C, kl, ko, o5, o6, o7, o8, o9, o10, o11, em, es, G3, f1, f2, DL, DO, I⟩ => ?_) (fun σ H2 Q1 Q2 m z => ?_)
  · subst es em
    have fin : Gx TB [] H H3 := G3.dropL fun x hx => by
      rcases List.mem_cons.mp hx with z | z
      · rw [z]; exact hld0
      · rw [List.mem_singleton.mp z]; exact hod0
    walk_at "st"
    refine ⟨od, ko, rfl, f2, ?_⟩
    walk_at "st"
    refine ifD (fun hb => ?_) fun hb => ?_
    · walk_at "st"
      refine ⟨od, .dK ko, f2, trivial, fun odo => ?_⟩
      have TL : Gx TB [od] H3 (upd H3 od (.frz odo (.dK ko))) := Gx.refl.mut (by simp) f2 trivial
      have fz : (upd H3 od (.frz odo (.dK ko))) od = _ := upd_same
      have XL : ExtS H3 (upd H3 od (.frz odo (.dK ko))) := ExtS.updN f2 id
      have fl : (upd H3 od (.frz odo (.dK ko))) ld = some (.dK kl) := (upd_ne hne).trans f1
      have fgx : ∀ b o, H3 b = some o → b ≠ od → (upd H3 od (.frz odo (.dK ko))) b = some o := fun b o hb hn => (upd_ne hn).trans hb
      generalize hH4 : upd H3 od (.frz odo (.dK ko)) = H4 at *
      walk_at "st"
      refine ⟨TL.tab (fin.tab h6), fun H5 eN T5 => ⟨ko.map fun p => kV p.1, fun i => match ko[i]? with | some p => (match p.1 with | .inl k => ((op k).map (·.1)).getD 0 | .inr _ => 0) | none => 0, ⟨od, odo, ko, rfl, eN _ _ fz (fun _ z => by cases z), rfl⟩, by rw [List.length_map]; omega, fun i y hy => ?_, fun i y hy hbest => ?_⟩⟩
      · rw [List.getElem?_map] at hy
        obtain ⟨p, hp, rfl⟩ := Option.map_eq_some_iff.mp hy
        obtain ⟨k, x, k1, k2, k3, k4⟩ := DO.key (List.mem_of_getElem? hp)
        simp only [hp, k1, k2, Option.map_some, Option.getD_some]
        rcases DO.val k with ⟨_, z⟩ | ⟨v, x', v1, v2, t, pa, v3, v4, v5⟩
        · rw [k2] at z; cases z
        rw [k2] at v2; cases v2
        subst v3
        replace v4 := newer_lt v4
        have v4' := eN _ _ (XL.tup v4) fun _ z => by cases z
        have fz' := eN _ _ fz fun _ z => by cases z
        show tOp (rIxT K) (tDGet (tVar 1) (tVar 0)) (tC (V.int 0)) (startF _ [V.int k] _) H5 _
        walk_at "st"
        refine r_dgetF fz' v1 ?_
        walk_at "st"
        exact ⟨rfl, rfl⟩
      · rw [List.getElem?_map] at hy
        obtain ⟨p, hp, rfl⟩ := Option.map_eq_some_iff.mp hy
        obtain ⟨here, x, k1, k2, k3, k4⟩ := DO.key (List.mem_of_getElem? hp)
        obtain ⟨d0, p0⟩ := x
        rw [k1]
        show _ ∧ _
        have hmin : ∀ x d p, op x = some (d, p) → d0 ≤ d := fun x d p hx => by
          rcases DO.val x with ⟨_, z⟩ | ⟨v, x', v1, v2, _⟩
          · rw [hx] at z; cases z
          obtain ⟨pp, hpp, epp⟩ := List.mem_map.mp (valV_in v1)
          obtain ⟨j, hj, ej⟩ := List.mem_iff_getElem.mp hpp
          have hb := (hbest j (by rw [List.length_map]; exact hj)).1
          simp only [hp, k1, k2, List.getElem?_eq_getElem hj, ej, epp, hx, Option.map_some, Option.getD_some] at hb
          exact hb
        have fz' := eN _ _ fz fun _ z => by cases z
        refine ⟨fz', ?_⟩
        have G5 : Gx TB [ld, od] H (upd H5 od (.dK ko)) := by
          have g1 : Gx TB [ld, od] H H4 := G3.trans (TL.mono (by simp))
          have g2 : Gx TB [ld, od] H H5 := g1.call (Gx.ofN eN T5)
          exact g2.mut (by simp) fz' trivial
        have X5 : ExtS H3 (upd H5 od (.dK ko)) := (XL.trans (ExtN.soft eN)).trans (ExtS.updN fz' id)
        have f1' : (upd H5 od (.dK ko)) ld = some (.dK kl) := (upd_ne hne).trans (eN _ _ fl fun _ z => by cases z)
        have f2' : (upd H5 od (.dK ko)) od = some (.dK ko) := upd_same
        generalize upd H5 od (.dK ko) = H6 at *
        clear fz fz' fl fgx hH4 TL XL eN T5
        have DL6 := DL.soft sLab (newer_extS X5)
        have DO6 := DO.soft sLab (newer_extS X5)
        walk_at "st"
        rcases DO6.val here with ⟨_, z⟩ | ⟨v, x', v1, v2, t, pa, v3, v4, v5⟩
        · rw [k2] at z; cases z
        rw [k2] at v2; cases v2
        subst v3
        refine ⟨ko, .inl here, .ref t, f2', rfl, v1, ?_⟩
        have DO7 := DO6.drop here
        have M0 := I.mid k2 hmin
        have X7 : ExtS H6 (upd H6 od (.dK (dropK ko (.inl here)))) := ExtS.updN f2' id
        have G7 : Gx TB [ld, od] H (upd H6 od (.dK (dropK ko (.inl here)))) := G5.mut (by simp) f2' trivial
        have g1 : (upd H6 od (.dK (dropK ko (.inl here)))) ld = some (.dK kl) := (upd_ne hne).trans f1'
        have g2 : (upd H6 od (.dK (dropK ko (.inl here)))) od = _ := upd_same
        generalize upd H6 od (.dK (dropK ko (.inl here))) = H7 at *
        have DL7 := DL6.soft sLab (newer_extS X7)
        replace DO7 := DO7.soft sLab (newer_extS X7)
        replace v4 := newer_lt v4
        replace v5 := newer_lt v5
        have v4' := X7.tup v4
        have v5' := X7.lst v5
        have fin7 : Gx TB [] H H7 := G7.dropL fun x hx => by
          rcases List.mem_cons.mp hx with z | z
          · rw [z]; exact hld0
          · rw [List.mem_singleton.mp z]; exact hod0
        have R7 := h1.mono fin7.extN
        obtain ⟨dx, ta, ekv, okv, i1, i2, i3, i4, i5, i6, i7⟩ := R7.ex
        walk_at "st"
        refine ⟨r, here, n, ts, S, nx, de, oa, rfl, R7, h2, fun la H8 G8 e8 => ?_⟩
        refine r_iLH e8 ?_
        have G78 : Gx TB [ld, od] H H8 := G7.call G8
        refine for_list (xs := (aroundF S here).map V.int) (fun i σ H9 => ∃ lab op kl ko o8 o9 o10 o11, σ = [some (.ref r), some (.int start), some (.int num), some (.ref ld), some (.ref od), some (.int here), some (.int d0), some (.ref pa), o8, o9, o10, o11] ∧ Gx TB [ld, od] H8 H9 ∧ H9 ld = some (.dK kl) ∧ H9 od = some (.dK ko) ∧ DictOf RLab (newer H H9) kl lab n ∧ DictOf RLab (newer H H9) ko op n ∧ PMid S num start n lab op C here d0 p0 i)
          ⟨_, _, _, _, _, _, _, _, rfl, Gx.refl, G8.dK g1, G8.dK g2, DL7.soft sLab (newer_extS (ExtN.soft G8.extN)), DO7.soft sLab (newer_extS (ExtN.soft G8.extN)), M0⟩ (fun i σ H9 _ ⟨lab, op, kl, ko, o8, o9, o10, o11, es, G9, a1, a2, _⟩ => ?_) (fun i x σ H9 hx ⟨lab, op, kl, ko, o8, o9, o10, o11, es, G9, a1, a2, DL9, DO9, M⟩ => ?_) fun σ H9 ⟨lab, op, kl, ko, o8, o9, o10, o11, es, G9, a1, a2, DL9, DO9, M⟩ => ?_
        · exact SqL.of (G9.lst e8 (by
            have y1 : la ≠ ld := fun z => by rw [z, G8.dK g1] at e8; cases e8
            have y2 : la ≠ od := fun z => by rw [z, G8.dK g2] at e8; cases e8
            simp [y1, y2]))
        · subst es
          unfold aroundF at hx
          rw [List.getElem?_map, List.getElem?_map] at hx
          obtain ⟨k, hk, rfl⟩ := Option.map_eq_some_iff.mp hx
          obtain ⟨s, hs, rfl⟩ := Option.map_eq_some_iff.mp hk
          have hm := (ring_mem.mp (List.mem_of_getElem? hs)).1
          have hlk := lookup_of h2.asc hm
          obtain ⟨jj, ne, o0, o1⟩ := inc_oth (h2.good s hm) (ring_mem.mp (List.mem_of_getElem? hs)).2
          have fin9 : Gx TB [] H H9 := (G78.trans G9).dropL fun x hx => by
            rcases List.mem_cons.mp hx with z | z
            · rw [z]; exact hld0
            · rw [List.mem_singleton.mp z]; exact hod0
          have R9 := h1.mono fin9.extN
          clear i1 i2 i3 i4 i5 i6 i7 dx ta ekv okv
          obtain ⟨dx, ta, ekv, okv, i1, i2, i3, i4, i5, i6, i7⟩ := R9.ex
          obtain ⟨_, z⟩ | ⟨u, y, ea, z, te, e3, e4⟩ := prd_val (R := fun v x => RE H9 v x.1) i6 s.1
          · rw [hlk] at z; cases z
          rw [hlk] at z; cases z
          subst e3
          have v59 := G9.lst (G8.lst v5') (by
            have y1 : pa ≠ ld := fun z => by rw [z, g1] at v5'; cases v5'
            have y2 : pa ≠ od := fun z => by rw [z, g2] at v5'; cases v5'
            simp [y1, y2])
          walk_at "st"
          refine ⟨r, s.1, here, n, ts, S, nx, de, oa, _, rfl, R9, hlk, ?_⟩
          walk_at "st"
          refine r_dgetC i3 ea ?_
          walk_at "st"
          have eoth : s.2.1.1 + s.2.1.2.1 - here = oth s here := rfl
          have epr : s.2.1.2.2 = pr s := rfl
          rw [eoth, epr]
          refine ifN (fun hnum => ?_) fun hnum => ?_
          · -- another edge: does it help
            have pl1 := M.p0l
            have pl2 := M.len
            have len1 := DL9.len
            have len2 := DO9.len
            walk_at "st"
            refine r_dinC a1 ?_
            rcases DL9.val (oth s here) with ⟨w1, w2⟩ | ⟨v, x, w1, w2, t, pa2, w3, w4, w5⟩
            · rw [w1]
              have hput : ∀ d p, lab (oth s here) = some (d, p) → d0 + pr s < d := fun d p z => by rw [w2] at z; cases z
              walk_at "st"
              refine ⟨by simp [sizeLine_eq]; omega, fun l1 hl1 => ?_⟩
              have ofl : Off H l1 := fin9.off (Off.none hl1)
              have finA : Gx TB [] H (upd H9 l1 (.lst (p0.map V.int ++ [.int s.1]))) := fin9.new hl1
              have X1 : Gx TB [ld, od] H8 (upd H9 l1 (.lst (p0.map V.int ++ [.int s.1]))) := G9.new hl1
              have b1 : (upd H9 l1 (.lst (p0.map V.int ++ [.int s.1]))) l1 = some (.lst ((p0 ++ [s.1]).map V.int)) := by rw [upd_same, List.map_append]; rfl
              have b2 : (upd H9 l1 (.lst (p0.map V.int ++ [.int s.1]))) ld = some (.dK kl) := (upd_ne (ne_none hl1 a1).symm).trans a1
              have b3 : (upd H9 l1 (.lst (p0.map V.int ++ [.int s.1]))) od = some (.dK ko) := (upd_ne (ne_none hl1 a2).symm).trans a2
              have Y1 : ExtS H9 (upd H9 l1 (.lst (p0.map V.int ++ [.int s.1]))) := ExtN.soft (Gx.extN ((Gx.refl (T := TB) (xs := [])).new hl1))
              generalize upd H9 l1 (.lst (p0.map V.int ++ [.int s.1])) = Ha at *
              walk_at "st"
              refine ⟨by simp [sizeLine_eq], fun t1 ht1 => ?_⟩
              have oft : Off H t1 := finA.off (Off.none ht1)
              have X2 : Gx TB [ld, od] H8 (upd Ha t1 (.tup [.int (d0 + pr s), .ref l1])) := X1.new ht1
              have c0 : (upd Ha t1 (.tup [.int (d0 + pr s), .ref l1])) t1 = _ := upd_same
              have c1 : (upd Ha t1 (.tup [.int (d0 + pr s), .ref l1])) l1 = _ := (upd_ne (ne_none ht1 b1).symm).trans b1
              have c2 : (upd Ha t1 (.tup [.int (d0 + pr s), .ref l1])) ld = some (.dK kl) := (upd_ne (ne_none ht1 b2).symm).trans b2
              have c3 : (upd Ha t1 (.tup [.int (d0 + pr s), .ref l1])) od = some (.dK ko) := (upd_ne (ne_none ht1 b3).symm).trans b3
              have Y2 : ExtS H9 (upd Ha t1 (.tup [.int (d0 + pr s), .ref l1])) := Y1.trans (ExtN.soft (Gx.extN ((Gx.refl (T := TB) (xs := [])).new ht1)))
              generalize upd Ha t1 (.tup [.int (d0 + pr s), .ref l1]) = Hb at *
              have rl : RLab (newer H Hb) (.ref t1) (d0 + pr s, p0 ++ [s.1]) := ⟨t1, l1, rfl, by rw [newer_off oft]; exact c0, by rw [newer_off ofl]; exact c1⟩
              walk_at "st"
              refine r_dputAt c2 (by rw [sizeLine_eq]; omega) ?_
              have X3 : Gx TB [ld, od] H8 (upd Hb ld (.dK (putK kl (.inl (oth s here)) (.ref t1)))) := X2.mut (by simp) c2 trivial
              have Y3 : ExtS Hb (upd Hb ld (.dK (putK kl (.inl (oth s here)) (.ref t1)))) := ExtS.updN c2 id
              have d2 : (upd Hb ld (.dK (putK kl (.inl (oth s here)) (.ref t1)))) ld = _ := upd_same
              have d3 : (upd Hb ld (.dK (putK kl (.inl (oth s here)) (.ref t1)))) od = some (.dK ko) := (upd_ne hne.symm).trans c3
              generalize upd Hb ld (.dK (putK kl (.inl (oth s here)) (.ref t1))) = Hc at *
              have DLc := ((DL9.soft sLab (newer_extS Y2)).soft sLab (newer_extS Y3)).put o0 o1 (sLab _ _ _ _ (newer_extS Y3) rl)
              walk_at "st"
              refine r_dgetC d2 (by rw [valV_put, if_pos rfl]) ?_
              walk_at "st"
              refine r_dputAt d3 (by rw [sizeLine_eq]; omega) ?_
              have X4 : Gx TB [ld, od] H8 (upd Hc od (.dK (putK ko (.inl (oth s here)) (.ref t1)))) := X3.mut (by simp) d3 trivial
              have Y4 : ExtS Hc (upd Hc od (.dK (putK ko (.inl (oth s here)) (.ref t1)))) := ExtS.updN d3 id
              refine ⟨_, _, _, _, _, _, _, _, rfl, X4, (upd_ne hne).trans d2, upd_same, DLc.soft sLab (newer_extS Y4), ?_, M.put h2.good hs hnum hput⟩
              exact ((((DO9.soft sLab (newer_extS Y2)).soft sLab (newer_extS Y3)).soft sLab (newer_extS Y4)).put o0 o1 (sLab _ _ _ _ (newer_extS (Y3.trans Y4)) rl))
            · rw [w1]
              subst w3
              replace w4 := newer_lt w4
              walk_at "st"
              refine r_dgetC a1 w1 ?_
              walk_at "st"
              refine ifD (fun hlt => ?_) fun hlt => ?_
              · have hput : ∀ d p, lab (oth s here) = some (d, p) → d0 + pr s < d := fun d p z => by rw [w2] at z; cases z; exact hlt
                walk_at "st"
                refine ⟨by simp [sizeLine_eq]; omega, fun l1 hl1 => ?_⟩
                have ofl : Off H l1 := fin9.off (Off.none hl1)
                have finA : Gx TB [] H (upd H9 l1 (.lst (p0.map V.int ++ [.int s.1]))) := fin9.new hl1
                have X1 : Gx TB [ld, od] H8 (upd H9 l1 (.lst (p0.map V.int ++ [.int s.1]))) := G9.new hl1
                have b1 : (upd H9 l1 (.lst (p0.map V.int ++ [.int s.1]))) l1 = some (.lst ((p0 ++ [s.1]).map V.int)) := by rw [upd_same, List.map_append]; rfl
                have b2 : (upd H9 l1 (.lst (p0.map V.int ++ [.int s.1]))) ld = some (.dK kl) := (upd_ne (ne_none hl1 a1).symm).trans a1
                have b3 : (upd H9 l1 (.lst (p0.map V.int ++ [.int s.1]))) od = some (.dK ko) := (upd_ne (ne_none hl1 a2).symm).trans a2
                have Y1 : ExtS H9 (upd H9 l1 (.lst (p0.map V.int ++ [.int s.1]))) := ExtN.soft (Gx.extN ((Gx.refl (T := TB) (xs := [])).new hl1))
                generalize upd H9 l1 (.lst (p0.map V.int ++ [.int s.1])) = Ha at *
                walk_at "st"
                refine ⟨by simp [sizeLine_eq], fun t1 ht1 => ?_⟩
                have oft : Off H t1 := finA.off (Off.none ht1)
                have X2 : Gx TB [ld, od] H8 (upd Ha t1 (.tup [.int (d0 + pr s), .ref l1])) := X1.new ht1
                have c0 : (upd Ha t1 (.tup [.int (d0 + pr s), .ref l1])) t1 = _ := upd_same
                have c1 : (upd Ha t1 (.tup [.int (d0 + pr s), .ref l1])) l1 = _ := (upd_ne (ne_none ht1 b1).symm).trans b1
                have c2 : (upd Ha t1 (.tup [.int (d0 + pr s), .ref l1])) ld = some (.dK kl) := (upd_ne (ne_none ht1 b2).symm).trans b2
                have c3 : (upd Ha t1 (.tup [.int (d0 + pr s), .ref l1])) od = some (.dK ko) := (upd_ne (ne_none ht1 b3).symm).trans b3
                have Y2 : ExtS H9 (upd Ha t1 (.tup [.int (d0 + pr s), .ref l1])) := Y1.trans (ExtN.soft (Gx.extN ((Gx.refl (T := TB) (xs := [])).new ht1)))
                generalize upd Ha t1 (.tup [.int (d0 + pr s), .ref l1]) = Hb at *
                have rl : RLab (newer H Hb) (.ref t1) (d0 + pr s, p0 ++ [s.1]) := ⟨t1, l1, rfl, by rw [newer_off oft]; exact c0, by rw [newer_off ofl]; exact c1⟩
                walk_at "st"
                refine r_dputAt c2 (by rw [sizeLine_eq]; omega) ?_
                have X3 : Gx TB [ld, od] H8 (upd Hb ld (.dK (putK kl (.inl (oth s here)) (.ref t1)))) := X2.mut (by simp) c2 trivial
                have Y3 : ExtS Hb (upd Hb ld (.dK (putK kl (.inl (oth s here)) (.ref t1)))) := ExtS.updN c2 id
                have d2 : (upd Hb ld (.dK (putK kl (.inl (oth s here)) (.ref t1)))) ld = _ := upd_same
                have d3 : (upd Hb ld (.dK (putK kl (.inl (oth s here)) (.ref t1)))) od = some (.dK ko) := (upd_ne hne.symm).trans c3
                generalize upd Hb ld (.dK (putK kl (.inl (oth s here)) (.ref t1))) = Hc at *
                have DLc := ((DL9.soft sLab (newer_extS Y2)).soft sLab (newer_extS Y3)).put o0 o1 (sLab _ _ _ _ (newer_extS Y3) rl)
                walk_at "st"
                refine r_dgetC d2 (by rw [valV_put, if_pos rfl]) ?_
                walk_at "st"
                refine r_dputAt d3 (by rw [sizeLine_eq]; omega) ?_
                have X4 : Gx TB [ld, od] H8 (upd Hc od (.dK (putK ko (.inl (oth s here)) (.ref t1)))) := X3.mut (by simp) d3 trivial
                have Y4 : ExtS Hc (upd Hc od (.dK (putK ko (.inl (oth s here)) (.ref t1)))) := ExtS.updN d3 id
                refine ⟨_, _, _, _, _, _, _, _, rfl, X4, (upd_ne hne).trans d2, upd_same, DLc.soft sLab (newer_extS Y4), ?_, M.put h2.good hs hnum hput⟩
                exact ((((DO9.soft sLab (newer_extS Y2)).soft sLab (newer_extS Y3)).soft sLab (newer_extS Y4)).put o0 o1 (sLab _ _ _ _ (newer_extS (Y3.trans Y4)) rl))
              · walk_at "st"
                exact ⟨lab, op, kl, ko, _, _, _, _, rfl, G9, a1, a2, DL9, DO9, M.skip hs (.inr ⟨_, _, w2, hlt⟩)⟩
          · walk_at "st"
            exact ⟨lab, op, kl, ko, _, _, _, _, rfl, G9, a1, a2, DL9, DO9, M.skip hs (.inl (by omega))⟩
        · subst es
          have M' := M.out h2.good (by rw [List.length_map]; show (ring S here).length ≤ ((ring S here).map _).length; rw [List.length_map]; exact Nat.le_refl _)
          walk_at "st"
          have ml := M.len
          exact ⟨_, by rw [List.length_cons]; omega, lab, op, here :: C, kl, ko, _, _, _, _, _, _, _, rfl, rfl, G78.trans G9, a1, a2, DL9, DO9, M'⟩
    · walk_at "st"
      exact q _ _ _ _ hld0 fin f1 DL (I.out (fun x => DO.none (by omega) x) h5)
  · obtain ⟨v, h, p, kvs, e0, e00, i, j, e1, e2, k, e3, z⟩ := z
    exact ⟨v, h, p, kvs, e0, e00, i, j, e1, e2, k, e3, m _ _ z⟩

theorem sc_Rest_walk_for : FnScope ["self", "number", "start", "goal", "price", "walks", "waiting", "index", "here", "labels", "stop"] ["self", "number"] (defScope sR_walk_for) := ⟨rfl, rfl, rfl, by decide +kernel, rfl, by decide +kernel, by decide +kernel⟩
theorem ExtS.updN' {H : Hp} {l : Addr} {o0 o : HO} (h : H l = some o0) (hn : ¬ Soft o0) : ExtS H (upd H l o) := fun b u hb hs => by
  rw [upd_ne (fun z : b = l => hn (by rw [z, h] at hb; cases hb; exact hs))]; exact hb
theorem r_dispW {T : Tbs} {σ : L2.St} {H : Hp} {Q : VK} {i : Nat} {start n : Int} (hv : σ[i]? = some (some (.int start))) (h0 : 0 ≤ start) (h1 : start < n)
    (q : ∀ p H' kvs, H p = none → Gx T [] H H' → H' p = some (.dK kvs) → DictOf RLI H' kvs (putW (fun _ => none) start []) n → Q (.ref p) H') : tDisp [(tVar i, tLst tNil)] σ H Q := by
  intro p hp
  refine ⟨_, hv, by decide, fun l hl => ?_⟩
  have n1 : p ≠ l := fun z => by rw [← z, upd_same] at hl; cases hl
  have e1 : (upd (upd H p (.dK [])) l (.lst [])) p = some (.dK []) := by rw [upd_ne n1, upd_same]
  have e2 : (upd (upd H p (.dK [])) l (.lst [])) l = some (.lst []) := upd_same
  have G1 : Gx T [p] H (upd (upd H p (.dK [])) l (.lst [])) := (((Gx.refl (xs := [])).new hp).new hl).mono (by simp)
  generalize upd (upd H p (.dK [])) l (.lst []) = H1 at *
  refine ⟨e1, [(.inl start, .ref l)], rfl, by simp, ?_⟩
  have G3 : Gx T [p] H (upd H1 p (.dK (mergeK [] [(.inl start, .ref l)]))) := G1.mut (by simp) e1 trivial
  refine q p _ _ hp (G3.drop (Off.none hp)) upd_same ?_
  have D0 : DictOf RLI (upd H1 p (.dK (mergeK [] [(.inl start, .ref l)]))) [] (fun _ => none) n := DictOf.nil
  exact D0.put h0 h1 ⟨l, rfl, by rw [upd_ne n1.symm]; exact e2⟩
theorem mLI_minus {H A : Hp} {l : Addr} {kvs : List (Key × V)} {f : Int → Option (List Int)} {n : Int} (h : DictOf RLI H kvs f n) (hl : H l = none) (e : ExtN H A) : DictOf RLI (minus l A) kvs f n :=
  h.mono mLI fun b o hb hn => by rw [minus_ne (fun z : b = l => by rw [z, hl] at hb; cases hb)]; exact e b o hb hn
theorem ok_m_walk_for {f : Addr} {fd : FuncData} (T : Tx K mg CN CR) (F : FnP K "walk_for" "Rest.walk_for" sR_walk_for f fd)
  (m_paths_from : CalM P w K mg base 4 CR "paths_from" ["self", "start", "number"] (spm_paths_from TB CN CR)) : FnOk P w K mg base CX0 5 f fd ["self", "number"] (spm_walk_for TB CN CR) := by
  refine F.ok (k := 4) sc_Rest_walk_for (fun vs H Q E h => by obtain ⟨r, n, ts, S, nx, de, oa, sn, rfl, _⟩ := h; rfl) (fun cdv A outer s H vs Q E hr h => ?_)
  have hu := hu_of hr
  have z1 := T.clN
  have z2 := T.clR
  have z3 := T.a_size
  have z4 := T.a_edges
  have z5 := T.r_size
  have z6 := T.r_terminals
  have z7 := T.r_edges
  have z8 := T.r_origins
  have z9 := T.r_next
  obtain ⟨r, n, ts, S, nx, de, oa, sn, rfl, h⟩ := h
  refine ⟨_, PSs.nox (pss_cons (ps_asg (pe_dget hu (fld (K := K) (pv 0)) (pv 1) (fun _ _ => rfl)) (gT (K := K) (pgs_cons (pg_name (i := 2) sc_Rest_walk_for.nd rfl (Or.inl rfl)) (pgs_cons (pg_name (i := 3) sc_Rest_walk_for.nd rfl (Or.inl rfl)) (pgs_cons (pg_name (i := 4) sc_Rest_walk_for.nd rfl (Or.inl rfl)) pgs_nil)))))
    (pss_cons (ps_set (i := 5) sc_Rest_walk_for.nd rfl (Or.inl rfl) (pe_disp (pps_cons (pv 2) (pe_lst pa_nil) pps_nil) (by rfl) (by rfl) (fun z => by cases z) (by decide)))
    (pss_cons (ps_set (i := 6) sc_Rest_walk_for.nd rfl (Or.inl rfl) (pe_lst (pa_cons (pv 2) pa_nil)))
    (pss_cons (ps_set (i := 7) sc_Rest_walk_for.nd rfl (Or.inl rfl) pe_int)
    (pss_cons (ps_while PassesOwn.never (pt_cmpR op_lt (pv 7) (pe_callB (lenQ (K := K)) (by rfl) T.n_len (by decide +kernel) (pa_cons (pv 6) pa_nil)) (nomark _))
      (pss_cons (ps_set (i := 8) sc_Rest_walk_for.nd rfl (Or.inl rfl) (pe_ix (ixL (K := K)) (pv 6) (pv 7) (fun _ _ => rfl)))
    (pss_cons (ps_aug (i := 7) sc_Rest_walk_for.nd rfl (Or.inl rfl) pe_int ip_add)
    (pss_cons (ps_set (i := 9) sc_Rest_walk_for.nd rfl (Or.inl rfl) (pe_m m_paths_from (pv 0) T.clR (hr.mono (by decide)) (pa_cons (pv 8) (pa_cons (pv 1) pa_nil))))
    (pss_one (ps_for PassesOwn.never rfl (iL (K := K) (pe_lst (star (K := K) (fld (K := K) (pv 0)) (pa_cons (pv 3) pa_nil)))) (pg_name (i := 10) sc_Rest_walk_for.nd rfl (Or.inl rfl))
      (pss_one (ps_if (PW.pt (pw_and (pt_cmp (pc_din hu (pv 10) (pv 9)) (by rfl)) (pw_and (pt_cmpR op_le (pe_ix (ixT (K := K)) (pe_dget hu (pv 9) (pv 10) (fun _ _ => rfl)) pe_int (fun _ _ => rfl)) (pv 4) (nomark _)) (pw_and1 (pt_cmp (pc_dnotin hu (pv 10) (pv 5)) (by rfl)))))) (pss_cons (ps_dput hu (pv 5) (pv 10) (pe_op op_cat (pe_dget hu (pv 5) (pv 8) (fun _ _ => rfl)) (pe_ix (ixT (K := K)) (pe_dget hu (pv 9) (pv 10) (fun _ _ => rfl)) pe_int (fun _ _ => rfl))) rfl)
    (pss_one (ps_expr (bm (K := K) (pe_bm PySem.F.plainAttrs_list PySem.F.slot_list_append PySem.F.type_list_append mt_append (pv 6) (pa_cons (pv 10) pa_nil)))))) pss_nil))))))))
    (pss_one (ps_ret (pe_dget1 hu (pv 5) (pv 3) ⟨by rfl, by rfl, by rfl, by rfl⟩)))))))), ?_⟩
  obtain ⟨h1, h2, h3, h4, h5, h6, h7, q⟩ := h
  obtain ⟨dx, ta, ekv, okv, i1, i2, i3, i4, i5, i6, i7⟩ := h1.ex
  have hlk := lookup_of h2.asc h3
  obtain ⟨g1, g2, g3, g4, g5, g6, g7⟩ := h2.good sn h3
  have hpr : ∀ s ∈ S, 0 ≤ pr s := fun s hs => (h2.good s hs).p0
  obtain ⟨_, z⟩ | ⟨u, y, ea, z, te, e3, e4⟩ := prd_val (R := fun v x => RE H v x.1) i6 sn.1
  · rw [hlk] at z; cases z
  rw [hlk] at z; cases z
  subst e3
  have htg : ∀ x ∈ ts ++ [sn.2.1.2.1], 0 ≤ x ∧ x < n := fun x hx => by
    rcases List.mem_append.mp hx with z | z
    · exact h4 x z
    · rw [List.mem_singleton.mp z]; exact ⟨g3, g4⟩
  walk_at "st"
  refine r_dgetC i3 ea ?_
  walk_at "st"
  refine r_dispW (T := TB) (n := n) (by with_unfolding_all rfl) g1 g2 fun wd H1 kw hwd G1 e1 D1 => ?_
  walk_at "st"
  refine ⟨by simp [sizeLine_eq], fun wl hwl => ?_⟩
  have hne : wd ≠ wl := fun z => by rw [z, hwl] at e1; cases e1
  have D2 : DictOf RLI (minus wl (upd H1 wl (.lst [.int sn.2.1.1]))) kw (putW (fun _ => none) sn.2.1.1 []) n := mLI_minus D1 hwl ((Gx.refl (T := TB) (xs := [])).new hwl).extN
  have G2 : Gx TB [wd, wl] H (upd H1 wl (.lst [.int sn.2.1.1])) := (G1.new hwl).mono (by simp)
  have e1' : (upd H1 wl (.lst [.int sn.2.1.1])) wd = some (.dK kw) := (upd_ne hne).trans e1
  have e2 : (upd H1 wl (.lst [.int sn.2.1.1])) wl = some (.lst ([sn.2.1.1].map V.int)) := upd_same
  have hwd0 : Off H wd := Off.none hwd
  have hwl0 : Off H wl := G1.off (Off.none hwl)
  generalize upd H1 wl (.lst [.int sn.2.1.1]) = H2 at *
  walk_at "st"
  refine while_m (fun m σ H3 => ∃ f W idx kw o8 o9 o10, m = ts.length + 2 - idx ∧ σ = [some (.ref r), some (.int sn.1), some (.int sn.2.1.1), some (.int sn.2.1.2.1), some (.int sn.2.1.2.2), some (.ref wd), some (.ref wl), some (.int (idx : Nat)), o8, o9, o10] ∧ Gx TB [wd, wl] H H3 ∧ H3 wd = some (.dK kw) ∧ H3 wl = some (.lst (W.map V.int)) ∧ DictOf RLI (minus wl H3) kw f n ∧ WInv S ts sn f W idx)
    ⟨_, _, _, 0, _, none, none, none, rfl, rfl, G2, e1', e2, D2, WInv.begin g5⟩ (fun m σ H3 ⟨f, W, idx, kw, o8, o9, o10, em, es, G3, f1, f2, DW, I⟩ => ?_) (fun σ H2 Q1 Q2 m z => ?_)
  · subst es em
    have fin : Gx TB [] H H3 := G3.dropL fun x hx => by
      rcases List.mem_cons.mp hx with z | z
      · rw [z]; exact hwd0
      · rw [List.mem_singleton.mp z]; exact hwl0
    have hsz := I.size
    walk_at "st"
    refine ifD (fun hb => ?_) fun hb => ?_
    · have hidx : idx < W.length := by omega
      have hhere : W[idx]? = some W[idx] := List.getElem?_eq_getElem hidx
      generalize W[idx] = here at hhere
      have hhW := List.mem_of_getElem? hhere
      have hrng : 0 ≤ here ∧ here < n := by
        rcases List.mem_cons.mp (I.mem here hhW) with z | z
        · rw [z]; exact ⟨g1, g2⟩
        · exact htg here z
      walk_at "st"
      refine r_ixL (SqL.of f2) (at_ints (by omega) (by rw [Int.toNat_natCast]; exact hhere)) ?_
      have R3 := h1.mono fin.extN
      clear i1 i2 i3 i4 i5 i6 i7 dx ta ekv okv ea e4
      obtain ⟨dx, ta, ekv, okv, i1, i2, i3, i4, i5, i6, i7⟩ := R3.ex
      walk_at "st"
      refine ⟨r, here, sn.1, n, ts, S, nx, de, oa, rfl, R3, h2, hrng.1, hrng.2, h6, fin.tab h7, fun ld H4 kl lab hld G4 e4 DL P => ?_⟩
      have G34 := G3.call G4
      have f1' := G4.dK f1
      have f2' := G4.lst f2
      have DW4 := DW.mono mLI (minus_ext G4.extN)
      replace i1 := G4.ins i1
      replace i2 := G4.lst i2
      have ldwd : ld ≠ wd := fun z => by obtain ⟨ps, y⟩ := hld _ (z ▸ f1); cases y
      have ldwl : ld ≠ wl := fun z => by rw [z, f2'] at e4; cases e4
      walk_at "st"
      refine ⟨by simp [sizeLine_eq]; omega, fun sl hsl => ?_⟩
      have G45 : Gx TB [] H4 (upd H4 sl (.lst (ts.map V.int ++ [.int sn.2.1.2.1]))) := Gx.refl.new hsl
      have ksl : (upd H4 sl (.lst (ts.map V.int ++ [.int sn.2.1.2.1]))) sl = some (.lst ((ts ++ [sn.2.1.2.1]).map V.int)) := by rw [upd_same, List.map_append]; rfl
      have slwd : sl ≠ wd := ne_none hsl f1'
      have slwl : sl ≠ wl := ne_none hsl f2'
      generalize upd H4 sl (.lst (ts.map V.int ++ [.int sn.2.1.2.1])) = H5 at *
      have G35 := G34.call G45
      have DW5 := DW4.mono mLI (minus_ext G45.extN)
      have DL5 := DL.soft sLab (newer_extS (ExtN.soft G45.extN))
      have e5 := G45.dK e4
      refine r_iLH ksl ?_
      refine for_list (xs := (ts ++ [sn.2.1.2.1]).map V.int) (fun j σ H6 => ∃ f W kw o10, σ = [some (.ref r), some (.int sn.1), some (.int sn.2.1.1), some (.int sn.2.1.2.1), some (.int sn.2.1.2.2), some (.ref wd), some (.ref wl), some (.int ((idx : Nat) + 1)), some (.int here), some (.ref ld), o10] ∧ Gx TB [wd, wl] H5 H6 ∧ H6 wd = some (.dK kw) ∧ H6 wl = some (.lst (W.map V.int)) ∧ DictOf RLI (minus wl H6) kw f n ∧ WInv S ts sn f W idx ∧ W[idx]? = some here ∧ DictOf RLab (newer H3 H6) kl lab n ∧
          ∀ j' stop, j' < j → (ts ++ [sn.2.1.2.1])[j']? = some stop → ∀ d p, lab stop = some (d, p) → d ≤ pr sn → f stop ≠ none)
        ⟨f, W, kw, _, rfl, Gx.refl, G45.dK f1', G45.lst f2', DW5, I, hhere, DL5, fun j' stop hj => absurd hj (Nat.not_lt_zero _)⟩ (fun j σ H6 _ ⟨_, _, _, _, _, G6, _⟩ => SqL.of (G6.lst ksl (by simp [slwd, slwl]))) (fun j x σ H6 hx ⟨f, W, kw, o10, es, G6, a1, a2, DW, I, hhere, DL, part⟩ => ?_) fun σ H6 ⟨f, W, kw, o10, es, G6, a1, a2, DW, I, hhere, DL, part⟩ => ?_
      · subst es
        rw [List.getElem?_map] at hx
        obtain ⟨stop, hst, rfl⟩ := Option.map_eq_some_iff.mp hx
        have hsm := List.mem_of_getElem? hst
        obtain ⟨st0, st1⟩ := htg stop hsm
        have kl6 := G6.dK e5 (by simp [ldwd, ldwl])
        have hsz := I.size
        have skip : (∀ d p, lab stop = some (d, p) → d ≤ pr sn → f stop ≠ none) → ∀ j' st, j' < j + 1 → (ts ++ [sn.2.1.2.1])[j']? = some st → ∀ d p, lab st = some (d, p) → d ≤ pr sn → f st ≠ none := fun h j' st hj e => by
          by_cases z : j' = j
          · subst z; rw [hst] at e; cases e; exact h
          · exact part j' st (by omega) e
        walk_at "st"
        refine r_dinC kl6 ?_
        rcases DL.val stop with ⟨w1, w2⟩ | ⟨v, x, w1, w2, t, pa, w3, w4, w5⟩
        · rw [w1]
          walk_at "st"
          exact ⟨f, W, kw, _, rfl, G6, a1, a2, DW, I, hhere, DL, skip fun d p z => by rw [w2] at z; cases z⟩
        · rw [w1]
          obtain ⟨d, p⟩ := x
          subst w3
          replace w4 := newer_lt w4
          replace w5 := newer_lt w5
          simp only at w4 w5
          walk_at "st"
          refine r_dgetC kl6 w1 ?_
          walk_at "st"
          refine ifD (fun hle => ?_) fun hle => ?_
          · walk_at "st"
            refine r_dinC a1 ?_
            rcases DW.val stop with ⟨v1, v2⟩ | ⟨v, x, v1, v2, _⟩
            · rw [v1]
              have hh : f here ≠ none := (I.keys here).mpr (List.mem_of_getElem? hhere)
              rcases DW.val here with ⟨u1, u2⟩ | ⟨v, w, u1, u2, wa, u3, u4⟩
              · exact absurd u2 hh
              subst u3
              have hwa : wa ≠ wl := fun z => by rw [z] at u4; unfold minus at u4; rw [if_pos rfl] at u4; cases u4
              rw [minus_ne hwa] at u4
              have hwlen := I.len _ _ u2
              have hplen := P.pl _ _ _ w2
              walk_at "st"
              refine r_dgetC a1 u1 ?_
              walk_at "st"
              refine r_dgetC kl6 w1 ?_
              walk_at "st"
              refine r_catT (T := TB) u4 w5 (by rw [List.length_map, List.length_map, sizeLine_eq]; omega) fun cl H7 hcl G7 k7 => ?_
              have b1 := G7.dK a1
              have b2 := G7.lst a2
              have X7 := G6.call G7
              have DW7 := DW.mono mLI (minus_ext G7.extN)
              have DL7 := DL.soft sLab (newer_extS (ExtN.soft G7.extN))
              have clwl : cl ≠ wl := ne_none hcl a2
              rw [← List.map_append] at k7
              have kwl := DW.len
              walk_at "st"
              refine r_dputAt b1 (by rw [sizeLine_eq]; omega) ?_
              have DW8 := (DW7.put st0 st1 (show RLI (minus wl H7) (.ref cl) (w ++ p) from ⟨cl, rfl, by rw [minus_ne clwl]; exact k7⟩)).soft sLI (minus_extS (ExtS.updN' (o := .dK (putK kw (.inl stop) (.ref cl))) b1 id))
              have DL8 := DL7.soft sLab (newer_extS (ExtS.updN' (o := .dK (putK kw (.inl stop) (.ref cl))) b1 id))
              have X8 : Gx TB [wd, wl] H5 (upd H7 wd (.dK (putK kw (.inl stop) (.ref cl)))) := X7.mut (by simp) b1 trivial
              have c1 : (upd H7 wd (.dK (putK kw (.inl stop) (.ref cl)))) wd = _ := upd_same
              have c2 : (upd H7 wd (.dK (putK kw (.inl stop) (.ref cl)))) wl = _ := (upd_ne hne.symm).trans b2
              generalize upd H7 wd (.dK (putK kw (.inl stop) (.ref cl))) = H8 at *
              walk_at "st"
              refine ⟨tyV_lst c2, ?_⟩
              walk_at "st"
              refine r_append c2 (by rw [List.length_map, sizeLine_eq]; omega) ?_
              walk_at "st"
              have I2 := I.add hpr u2 v2 hsm (P.sound _ _ _ w2) hle hplen
              refine ⟨putW f stop (w ++ p), W ++ [stop], _, _, rfl, X8.mut (by simp) c2 trivial, (upd_ne hne).trans c1, by rw [upd_same, List.map_append]; rfl, by rw [minus_upd]; exact DW8, I2, by rw [List.getElem?_append_left (List.getElem?_eq_some_iff.mp hhere).1]; exact hhere, ?_, ?_⟩
              · rw [newer_upd f2 fun ps z => by cases z]; exact DL8
              · intro j' st hj e d' p' hl' hd'
                unfold putW
                by_cases z : st = stop
                · rw [if_pos z]; simp
                · rw [if_neg z]
                  by_cases y : j' = j
                  · subst y; rw [hst] at e; exact absurd (Option.some.inj e).symm z
                  · exact part j' st (by omega) e d' p' hl' hd'
            · rw [v1]
              walk_at "st"
              exact ⟨f, W, kw, _, rfl, G6, a1, a2, DW, I, hhere, DL, skip fun d p z _ => by rw [v2]; simp⟩
          · walk_at "st"
            exact ⟨f, W, kw, _, rfl, G6, a1, a2, DW, I, hhere, DL, skip fun d' p' z y => by rw [w2] at z; cases z; exact absurd y hle⟩
      · subst es
        rw [List.length_map] at part
        walk_at "st"
        have hsz := I.size
        have hlt := (List.getElem?_eq_some_iff.mp hhere).1
        refine ⟨ts.length + 2 - (idx + 1), by omega, f, W, idx + 1, kw, _, _, _, rfl, rfl, G35.trans G6, a1, a2, DW, I.next hhere fun stop hs p q hp hq => ?_⟩
        obtain ⟨d, p', e, l⟩ := P.least hp
        obtain ⟨j, hj, ej⟩ := List.mem_iff_getElem.mp hs
        exact part j stop hj (by rw [List.getElem?_eq_getElem hj, ej]) d p' e (by omega)
    · walk_at "st"
      have hle := I.le
      rcases DW.val sn.2.1.2.1 with ⟨w1, w2⟩ | ⟨v, w, w1, w2, wa, w3, w4⟩
      · refine ⟨none, .inl ⟨kw, .inl sn.2.1.2.1, .inl f1, rfl, w1.symm⟩, ?_⟩
        exact q _ _ none fin rfl (fun _ => I.none (by omega) w2) fun x z => by cases z
      · refine ⟨some v, .inl ⟨kw, .inl sn.2.1.2.1, .inl f1, rfl, w1.symm⟩, ?_⟩
        exact q _ _ (some w) fin (mLI _ _ _ _ minus_le ⟨wa, w3, w4⟩) (fun z => by cases z) fun x z => by cases z; exact I.some h2.asc h3 w2
  · obtain ⟨v, h, v2, h2, p, ys, e0, e00, i, j, e1, e2, k, e3, z⟩ := z
    exact ⟨v, h, v2, h2, p, ys, e0, e00, i, j, e1, e2, k, e3, m _ _ z⟩

theorem sc_Rest_rows_by_vertices : FnScope ["self", "rows", "vertex", "word"] ["self"] (defScope sR_rows_by_vertices) := ⟨rfl, rfl, rfl, by decide +kernel, rfl, by decide +kernel, by decide +kernel⟩
theorem Run.of_nil {n : Int} {ts : List Int} {S S' : List En} {nx nx' : Int} {rows : List Row} (h : Run n ts S nx rows S' nx') (e : rows = []) : S' = S ∧ nx' = nx := by
  cases h with
  | nil => exact ⟨rfl, rfl⟩
  | cons _ _ => cases e
theorem mem4 {l r de oa : Addr} : ∀ x ∈ [r, de, oa], x ∈ [l, r, de, oa] := fun x h => List.mem_cons_of_mem _ h
theorem ok_m_rows_by_vertices {f : Addr} {fd : FuncData} (T : Tx K mg CN CR) (F : FnP K "rows_by_vertices" "Rest.rows_by_vertices" sR_rows_by_vertices f fd)
  (m_holds : CalM P w K mg base 4 CR "holds" ["self", "row"] (spm_holds TB CN CR))
  (m_apply : CalM P w K mg base 4 CR "apply" ["self", "row"] (spm_apply TB CN CR)) : FnOk P w K mg base CX0 5 f fd ["self"] (spm_rows_by_vertices TB CN CR) := by
  refine F.ok (k := 4) sc_Rest_rows_by_vertices (fun vs H Q E h => by obtain ⟨r, n, ts, S, nx, de, oa, rfl, _⟩ := h; rfl) (fun cdv A outer s H vs Q E hr h => ?_)
  have hu := hu_of hr
  have z1 := T.clN
  have z2 := T.clR
  have z3 := T.a_size
  have z4 := T.a_edges
  have z5 := T.r_size
  have z6 := T.r_terminals
  have z7 := T.r_edges
  have z8 := T.r_origins
  have z9 := T.r_next
  obtain ⟨r, n, ts, S, nx, de, oa, rfl, h⟩ := h
  refine ⟨_, PSs.nox (pss_cons (ps_set (i := 1) sc_Rest_rows_by_vertices.nd rfl (Or.inl rfl) (pe_lst pa_nil))
    (pss_cons (ps_for PassesOwn.never rfl (pi_range1 (by rfl) T.n_range (pa_cons (fld (K := K) (pv 0)) pa_nil)) (pg_name (i := 2) sc_Rest_rows_by_vertices.nd rfl (Or.inl rfl))
      (pss_one (ps_for PassesOwn.never rfl (iT (K := K) (pe_tup (pa_cons pe_str (pa_cons pe_str pa_nil)))) (pg_name (i := 3) sc_Rest_rows_by_vertices.nd rfl (Or.inl rfl))
      (pss_one (ps_if (pt_val (pe_m m_holds (pv 0) T.clR (hr.mono (by decide)) (pa_cons (pe_tup (pa_cons (pv 3) (pa_cons (pv 2) pa_nil))) pa_nil))) (pss_cons (ps_expr (bm (K := K) (pe_bm PySem.F.plainAttrs_list PySem.F.slot_list_append PySem.F.type_list_append mt_append (pv 1) (pa_cons (pe_tup (pa_cons (pv 3) (pa_cons (pv 2) pa_nil))) pa_nil))))
    (pss_one (ps_expr (pe_m m_apply (pv 0) T.clR (hr.mono (by decide)) (pa_cons (pe_tup (pa_cons (pv 3) (pa_cons (pv 2) pa_nil))) pa_nil))))) pss_nil)))))
    (pss_one (ps_ret (pv 1))))), ?_⟩
  obtain ⟨h1, h2, h3, h4, hts, q⟩ := h
  obtain ⟨dx, ta, ekv, okv, i1, i2, i3, i4, i5, i6, i7⟩ := h1.ex
  walk_at "st"
  refine ⟨by decide, fun l hl => ?_⟩
  have G1 : Gx TB [l, r, de, oa] H (upd H l (.lst [])) := (Gx.refl (xs := [])).new hl |>.mono (by simp)
  have R1 := h1.mono (Gx.extN ((Gx.refl (T := TB) (xs := [])).new (o := .lst []) hl))
  have A1 : Acc RRow l (upd H l (.lst [])) [] := Acc.start
  generalize upd H l (.lst []) = H1 at *
  clear i1 i2 i3 i4 i5 i6 i7 dx ta ekv okv
  obtain ⟨dx, ta, ekv, okv, i1, i2, i3, i4, i5, i6, i7⟩ := R1.ex
  walk_at "st"
  refine for_range (fun i σ H2 => ∃ rows S' nx' o2 o3, σ = [some (.ref r), some (.ref l), o2, o3] ∧ Gx TB [l, r, de, oa] H H2 ∧ Acc RRow l H2 rows ∧ RestAt CR H2 r n ts S' nx' de oa ∧ Run n ts S nx rows S' nx' ∧ (rows = [] → ∀ v : Int, 0 ≤ v → v < i → leafB n ts S v = false ∧ seriesB n ts S v = false))
    ⟨[], S, nx, _, _, rfl, G1, A1, R1, .nil _ _, fun _ v a b => by omega⟩ (fun i σ H2 hi ⟨rows, S', nx', o2, o3, es, G2, A2, R2, run, none_⟩ => ?_) fun σ H2 ⟨rows, S', nx', o2, o3, es, G2, A2, R2, run, none_⟩ => ?_
  · subst es
    walk_at "st"
    refine ⟨by decide, fun tp htp => ?_⟩
    have G3 : Gx TB [l, r, de, oa] H (upd H2 tp (.tup [.str "leaf", .str "series"])) := G2.new htp
    have e23 : ExtN H2 (upd H2 tp (.tup [.str "leaf", .str "series"])) := Gx.extN ((Gx.refl (T := TB) (xs := [])).new htp)
    have A3 := A2.grow mRow e23
    have R3 := R2.mono e23
    have ktp : (upd H2 tp (.tup [.str "leaf", .str "series"])) tp = _ := upd_same
    generalize upd H2 tp (.tup [.str "leaf", .str "series"]) = H3 at *
    have tpl : tp ≠ l := fun z => by obtain ⟨vs, e, _⟩ := A2; rw [z, e] at htp; cases htp
    have tpr := R3.offT ktp
    walk_at "st"
    refine r_iTAt (SqT.of ktp) ?_
    refine for_tup (xs := [.str "leaf", .str "series"]) (fun j σ H4 => ∃ rows S' nx' o3, σ = [some (.ref r), some (.ref l), some (.int (0 + (i : Int))), o3] ∧ Gx TB [l, r, de, oa] H3 H4 ∧ Acc RRow l H4 rows ∧ RestAt CR H4 r n ts S' nx' de oa ∧ Run n ts S nx rows S' nx' ∧ (rows = [] → (∀ v : Int, 0 ≤ v → v < i → leafB n ts S v = false ∧ seriesB n ts S v = false) ∧ (1 ≤ j → leafB n ts S i = false) ∧ (2 ≤ j → seriesB n ts S i = false)))
      ⟨rows, S', nx', _, rfl, Gx.refl, A3, R3, run, fun e => ⟨none_ e, fun z => by omega, fun z => by omega⟩⟩ (fun j σ H4 _ ⟨_, _, _, _, _, G4, _⟩ => SqT.of (G4.tup ktp (by simp only [List.mem_cons, not_or]; exact ⟨tpl, by simpa using tpr⟩))) (fun j x σ H4 hx ⟨rows, S', nx', o3, es, G4, A4, R4, run, none_⟩ => ?_) fun σ H4 ⟨rows, S', nx', o3, es, G4, A4, R4, run, none_⟩ => ?_
    · subst es
      obtain ⟨row, hrow, hj⟩ : ∃ row : Row, (∀ (A : Hp) a, A a = some (.tup [x, .int i]) → RRow A (.ref a) row) ∧ ((j = 0 ∧ holdsB n ts S row = leafB n ts S i) ∨ (j = 1 ∧ holdsB n ts S row = seriesB n ts S i)) := by
        match j, hx with
        | 0, hx => cases hx; exact ⟨.leaf i, fun A a h => ⟨a, rfl, h⟩, .inl ⟨rfl, rfl⟩⟩
        | 1, hx => cases hx; exact ⟨.series i, fun A a h => ⟨a, rfl, h⟩, .inr ⟨rfl, rfl⟩⟩
        | k + 2, hx => simp at hx
      obtain ⟨ok4, len4⟩ := h2.run run
      have s4 := h2.2.1
      rw [Int.zero_add]
      clear i1 i2 i3 i4 i5 i6 i7 dx ta ekv okv
      obtain ⟨dx, ta, ekv, okv, i1, i2, i3, i4, i5, i6, i7⟩ := R4.ex
      walk_at "st"
      refine ⟨by simp [sizeLine_eq], fun t1 ht1 => ?_⟩
      have e45 : ExtN H4 (upd H4 t1 (.tup [x, .int i])) := Gx.extN ((Gx.refl (T := TB) (xs := [])).new ht1)
      have G5 : Gx TB [l, r, de, oa] H3 (upd H4 t1 (.tup [x, .int i])) := G4.new ht1
      have k1 : (upd H4 t1 (.tup [x, .int i])) t1 = _ := upd_same
      have A5 := A4.grow mRow e45
      have R5 := R4.mono e45
      generalize upd H4 t1 (.tup [x, .int i]) = H5 at *
      clear i1 i2 i3 i4 i5 i6 i7 dx ta ekv okv
      obtain ⟨dx, ta, ekv, okv, i1, i2, i3, i4, i5, i6, i7⟩ := R5.ex
      walk_at "st"
      refine ⟨r, t1, row, n, ts, S', nx', de, oa, rfl, R5, ok4, hrow _ _ k1, fun H6 G6 => ?_⟩
      have A6 := A5.grow mRow G6.extN
      have R6 := R5.mono G6.extN
      have G56 := G5.call G6
      walk_at "st"
      cases hb : holdsB n ts S' row with
      | false =>
        walk_at "st"
        refine ⟨rows, S', nx', _, rfl, G56, A6, R6, run, fun e => ?_⟩
        obtain ⟨n1, n2, n3⟩ := none_ e
        obtain ⟨eS, _⟩ := run.of_nil e
        rw [eS] at hb
        rcases hj with ⟨z, y⟩ | ⟨z, y⟩
        · exact ⟨n1, fun _ => y ▸ hb, fun w => by omega⟩
        · exact ⟨n1, fun _ => n2 (by omega), fun _ => y ▸ hb⟩
      | true =>
        obtain ⟨vs, a1, a2⟩ := id A6
        walk_at "st"
        refine ⟨tyV_lst a1, ?_⟩
        walk_at "st"
        refine ⟨by simp [sizeLine_eq], fun t2 ht2 => ?_⟩
        have e67 : ExtN H6 (upd H6 t2 (.tup [x, .int i])) := Gx.extN ((Gx.refl (T := TB) (xs := [])).new ht2)
        have G7 : Gx TB [l, r, de, oa] H3 (upd H6 t2 (.tup [x, .int i])) := G56.new ht2
        have k2 : (upd H6 t2 (.tup [x, .int i])) t2 = _ := upd_same
        have A7 := A6.grow mRow e67
        have R7 := R6.mono e67
        have t2l : t2 ≠ l := ne_none ht2 a1
        have a1' := e67 _ _ a1 fun _ z => by cases z
        generalize upd H6 t2 (.tup [x, .int i]) = H7 at *
        walk_at "st"
        refine r_append a1' (by have := prd_len a2; rw [sizeLine_eq]; omega) ?_
        have hrow7 : RRow (minus l H7) (.ref t2) row := hrow _ _ (by rw [minus_ne t2l]; exact k2)
        have A8 := A7.push a1' hrow7
        have G8 : Gx TB [l, r, de, oa] H3 (upd H7 l (.lst (vs ++ [.ref t2]))) := G7.mut (by simp) a1' trivial
        have R8 : RestAt CR (upd H7 l (.lst (vs ++ [.ref t2]))) r n ts S' nx' de oa := R7.app ok4 hts a1' (rows_refs a2)
        generalize upd H7 l (.lst (vs ++ [.ref t2])) = H8 at *
        clear i1 i2 i3 i4 i5 i6 i7 dx ta ekv okv
        obtain ⟨dx, ta, ekv, okv, i1, i2, i3, i4, i5, i6, i7⟩ := R8.ex
        walk_at "st"
        refine ⟨by simp [sizeLine_eq], fun t3 ht3 => ?_⟩
        have e89 : ExtN H8 (upd H8 t3 (.tup [x, .int i])) := Gx.extN ((Gx.refl (T := TB) (xs := [])).new ht3)
        have G9 : Gx TB [l, r, de, oa] H3 (upd H8 t3 (.tup [x, .int i])) := G8.new ht3
        have k3 : (upd H8 t3 (.tup [x, .int i])) t3 = _ := upd_same
        have A9 := A8.grow mRow e89
        have R9 := R8.mono e89
        generalize upd H8 t3 (.tup [x, .int i]) = H9 at *
        walk_at "st"
        refine ⟨r, t3, row, n, ts, S', nx', de, oa, rfl, R9, ok4, hrow _ _ k3, hb, fun H10 G10 R10 => ?_⟩
        walk_at "st"
        exact ⟨rows ++ [row], _, _, _, rfl, G9.trans (G10.mono mem4), A9.growS sRow (R9.extS G10), R10, run.snoc hb, fun e => by simp at e⟩
    · subst es
      walk_at "st"
      refine ⟨rows, S', nx', _, _, rfl, G3.trans G4, A4, R4, run, fun e v v0 v1 => ?_⟩
      obtain ⟨n1, n2, n3⟩ := none_ e
      by_cases z : v < i
      · exact n1 v v0 z
      · have : v = i := by omega
        rw [this]
        exact ⟨n2 (by decide), n3 (by decide)⟩
  · subst es
    walk_at "st"
    refine q l H2 rows S' nx' (G2.drop (Off.none hl)) (A2.out mRow) R2 run fun e v v0 v1 => none_ e v v0 (by omega)

theorem sc_Rest_rows_by_edges : FnScope ["self", "rows", "number", "walk"] ["self"] (defScope sR_rows_by_edges) := ⟨rfl, rfl, rfl, by decide +kernel, rfl, by decide +kernel, by decide +kernel⟩
theorem mem4' {l r de oa : Addr} : ∀ x ∈ [r, de, oa], x ∈ [l, r, de, oa] := fun x h => List.mem_cons_of_mem _ h
theorem Run.of_nil' {n : Int} {ts : List Int} {S S' : List En} {nx nx' : Int} {rows : List Row} (h : Run n ts S nx rows S' nx') (e : rows = []) : S' = S ∧ nx' = nx := by
  cases h with
  | nil => exact ⟨rfl, rfl⟩
  | cons _ _ => cases e
theorem ok_m_rows_by_edges {f : Addr} {fd : FuncData} (T : Tx K mg CN CR) (F : FnP K "rows_by_edges" "Rest.rows_by_edges" sR_rows_by_edges f fd)
  (m_walk_for : CalM P w K mg base 5 CR "walk_for" ["self", "number"] (spm_walk_for TB CN CR))
  (m_drop : CalM P w K mg base 1 CR "drop" ["self", "number"] (spm_drop TB CN CR)) : FnOk P w K mg base CX0 6 f fd ["self"] (spm_rows_by_edges TB CN CR) := by
  refine F.ok (k := 5) sc_Rest_rows_by_edges (fun vs H Q E h => by obtain ⟨r, n, ts, S, nx, de, oa, rfl, _⟩ := h; rfl) (fun cdv A outer s H vs Q E hr h => ?_)
  have hu := hu_of hr
  have z1 := T.clN
  have z2 := T.clR
  have z3 := T.a_size
  have z4 := T.a_edges
  have z5 := T.r_size
  have z6 := T.r_terminals
  have z7 := T.r_edges
  have z8 := T.r_origins
  have z9 := T.r_next
  obtain ⟨r, n, ts, S, nx, de, oa, rfl, h⟩ := h
  refine ⟨_, PSs.nox (pss_cons (ps_set (i := 1) sc_Rest_rows_by_edges.nd rfl (Or.inl rfl) (pe_lst pa_nil))
    (pss_cons (ps_for PassesOwn.never rfl (iL (K := K) (pe_callB sortedQD (by rfl) T.n_sorted (by decide +kernel) (pa_cons (fld (K := K) (pv 0)) pa_nil))) (pg_name (i := 2) sc_Rest_rows_by_edges.nd rfl (Or.inl rfl))
      (pss_cons (ps_set (i := 3) sc_Rest_rows_by_edges.nd rfl (Or.inl rfl) (pe_m m_walk_for (pv 0) T.clR (hr.mono (by decide)) (pa_cons (pv 2) pa_nil)))
    (pss_one (ps_if (pt_cmpR op_notN (pv 3) pe_non (nomark _)) (pss_cons (ps_expr (bm (K := K) (pe_bm PySem.F.plainAttrs_list PySem.F.slot_list_append PySem.F.type_list_append mt_append (pv 1) (pa_cons (pe_tup (pa_cons pe_str (pa_cons (pv 2) (pa_cons (pv 3) pa_nil)))) pa_nil))))
    (pss_one (ps_expr (pe_m m_drop (pv 0) T.clR (hr.mono (by decide)) (pa_cons (pv 2) pa_nil))))) pss_nil))))
    (pss_one (ps_ret (pv 1))))), ?_⟩
  obtain ⟨h1, h2, h3, h4, h5, hts, h6, q⟩ := h
  obtain ⟨dx, ta, ekv, okv, i1, i2, i3, i4, i5, i6, i7⟩ := h1.ex
  walk_at "st"
  refine ⟨by decide, fun l hl => ?_⟩
  have G1 : Gx TB [l, r, de, oa] H (upd H l (.lst [])) := (Gx.refl (xs := [])).new hl |>.mono (by simp)
  have R1 := h1.mono (Gx.extN ((Gx.refl (T := TB) (xs := [])).new (o := .lst []) hl))
  have A1 : Acc RRow l (upd H l (.lst [])) [] := Acc.start
  have l1 : (upd H l (.lst [])) l = some (.lst []) := upd_same
  generalize upd H l (.lst []) = H1 at *
  clear i1 i2 i3 i4 i5 i6 i7 dx ta ekv okv
  obtain ⟨dx, ta, ekv, okv, i1, i2, i3, i4, i5, i6, i7⟩ := R1.ex
  walk_at "st"
  refine R1.sorted (TB := TB) h2 fun sl H2 hsl G2 k2 => ?_
  have R2 := R1.mono G2.extN
  have A2 := A1.grow mRow G2.extN
  have G12 := G1.call G2
  have sll : sl ≠ l := ne_none hsl l1
  have slr := R2.offL k2
  refine r_iLH k2 ?_
  have s4 := h2.2.1
  refine for_list (xs := (S.map (·.1)).map V.int) (fun i σ H3 => ∃ rows S' o2 o3, σ = [some (.ref r), some (.ref l), o2, o3] ∧ Gx TB [l, r, de, oa] H2 H3 ∧ Acc RRow l H3 rows ∧ RestAt CR H3 r n ts S' nx de oa ∧ Run n ts S nx rows S' nx ∧ (∀ (j : Nat) s, i ≤ j → S[j]? = some s → s ∈ S') ∧ (rows = [] → ∀ (j : Nat) s, j < i → S[j]? = some s → NoWalk S ts s))
    ⟨[], S, _, _, rfl, Gx.refl, A2, R2, .nil _ _, fun j s _ h => List.mem_of_getElem? h, fun _ j s hj => absurd hj (Nat.not_lt_zero _)⟩ (fun i σ H3 _ ⟨_, _, _, _, _, G3, _⟩ => SqL.of (G3.lst k2 (by simp only [List.mem_cons, not_or]; exact ⟨sll, by simpa using slr⟩))) (fun i x σ H3 hx ⟨rows, S', o2, o3, es, G3, A3, R3, run, keep, none_⟩ => ?_) fun σ H3 ⟨rows, S', o2, o3, es, G3, A3, R3, run, keep, none_⟩ => ?_
  · subst es
    rw [List.getElem?_map, List.getElem?_map] at hx
    obtain ⟨k, hk, rfl⟩ := Option.map_eq_some_iff.mp hx
    obtain ⟨s, hs, rfl⟩ := Option.map_eq_some_iff.mp hk
    obtain ⟨ok3, len3⟩ := h2.run run
    have hsS := keep i s (Nat.le_refl _) hs
    clear i1 i2 i3 i4 i5 i6 i7 dx ta ekv okv
    obtain ⟨dx, ta, ekv, okv, i1, i2, i3, i4, i5, i6, i7⟩ := R3.ex
    have T3 : Tabs TB H3 := (G12.trans G3).tab h6
    walk_at "st"
    refine ⟨r, n, ts, S', nx, de, oa, s, rfl, R3, ok3, hsS, h3, h4, h5, T3, fun v H4 w G4 rv w1 w2 => ?_⟩
    have A4 := A3.grow mRow G4.extN
    have R4 := R3.mono G4.extN
    have G34 := G3.call G4
    walk_at "st"
    cases w with
    | none =>
      obtain rfl : v = .non := rv
      refine r_ifNQ rfl ?_
      walk_at "st"
      refine ⟨rows, S', _, _, rfl, G34, A4, R4, run, fun j t hj e => keep j t (by omega) e, fun e j t hj ht => ?_⟩
      by_cases z : j = i
      · subst z
        rw [hs] at ht; cases ht
        rw [← (run.of_nil' e).1]
        exact w1 rfl
      · exact none_ e j t (by omega) ht
    | some w =>
      obtain ⟨wa, rfl, kw⟩ : RLI H4 v w := rv
      have hlong := w2 w rfl
      obtain ⟨vs, a1, a2⟩ := id A4
      have hw : w ≠ [] := fun z => by
        subst z
        obtain ⟨e, os, m1, _, m3⟩ := longer_of hlong
        have := of_decide_eq_true m3
        exact (ok3.good _ m1).ne this
      have wal : wa ≠ l := fun z => by
        rw [z, a1] at kw
        have e := HO.lst.inj (Option.some.inj kw)
        cases w with
        | nil => exact hw rfl
        | cons x r => exact rows_refs a2 (V.int x) (by rw [e]; simp) x rfl
      refine r_ifNP (fun z => by cases z) ?_
      walk_at "st"
      refine ⟨tyV_lst a1, ?_⟩
      walk_at "st"
      refine ⟨by simp [sizeLine_eq], fun t ht => ?_⟩
      have e45 : ExtN H4 (upd H4 t (.tup [.str "longer", .int s.1, .ref wa])) := Gx.extN ((Gx.refl (T := TB) (xs := [])).new ht)
      have G5 : Gx TB [l, r, de, oa] H2 (upd H4 t (.tup [.str "longer", .int s.1, .ref wa])) := G34.new ht
      have k1 : (upd H4 t (.tup [.str "longer", .int s.1, .ref wa])) t = _ := upd_same
      have A5 := A4.grow mRow e45
      have R5 := R4.mono e45
      have tl : t ≠ l := ne_none ht a1
      have a1' := e45 _ _ a1 fun _ z => by cases z
      have kw' := e45 _ _ kw fun _ z => by cases z
      generalize upd H4 t (.tup [.str "longer", .int s.1, .ref wa]) = H5 at *
      walk_at "st"
      refine r_append a1' (by have := prd_len a2; rw [sizeLine_eq]; omega) ?_
      have hrow : RRow (minus l H5) (.ref t) (.longer s.1 w) := ⟨t, rfl, wa, by rw [minus_ne tl]; exact k1, by rw [minus_ne wal]; exact kw'⟩
      have A6 := A5.push a1' hrow
      have G6 : Gx TB [l, r, de, oa] H2 (upd H5 l (.lst (vs ++ [.ref t]))) := G5.mut (by simp) a1' trivial
      have R6 : RestAt CR (upd H5 l (.lst (vs ++ [.ref t]))) r n ts S' nx de oa := R5.app ok3 hts a1' (rows_refs a2)
      generalize upd H5 l (.lst (vs ++ [.ref t])) = H6 at *
      clear i1 i2 i3 i4 i5 i6 i7 dx ta ekv okv
      obtain ⟨dx, ta, ekv, okv, i1, i2, i3, i4, i5, i6, i7⟩ := R6.ex
      walk_at "st"
      refine ⟨r, s.1, n, ts, S', nx, de, oa, _, rfl, R6, lookup_of ok3.asc hsS, fun H7 G7 R7 => ?_⟩
      walk_at "st"
      refine ⟨rows ++ [.longer s.1 w], S'.filter fun t => decide (t.1 ≠ s.1), _, _, rfl, G6.trans (G7.mono mem4'), A6.growS sRow (R6.extS G7), R7, run.snoc (row := .longer s.1 w) hlong, fun j t hj e => ?_, fun e => by simp at e⟩
      refine List.mem_filter.mpr ⟨keep j t (by omega) e, decide_eq_true fun z => ?_⟩
      have asc := h2.asc
      rw [List.pairwise_map] at asc
      have l1 := (List.getElem?_eq_some_iff.mp hs)
      have l2 := (List.getElem?_eq_some_iff.mp e)
      have := List.pairwise_iff_getElem.mp asc i j l1.1 l2.1 (by omega)
      rw [l1.2, l2.2] at this
      omega
  · subst es
    rw [List.length_map, List.length_map] at none_
    walk_at "st"
    refine q l H3 rows S' nx ((G12.trans G3).drop (Off.none hl)) (A3.out mRow) R3 run fun e s hs => ?_
    obtain ⟨j, hj, ej⟩ := List.mem_iff_getElem.mp hs
    exact none_ e j s hj (by rw [List.getElem?_eq_getElem hj, ej])
end TW
end

section
set_option Elab.async false
set_option linter.all false
set_option maxRecDepth 100000
set_option maxHeartbeats 1000000
set_option exponentiation.threshold 600
namespace TW
open PySem PySem.Spec PyProof.Rows L2 LamX NdefX StX
variable {P : Program} {w : World} {K : PySem.W.Frag} {mg : Str → Option Value} {base : Heap} {CN CR : Addr} {TB : Tbs}
local macro_rules | `(tactic| walk_at "s1") => `(tactic| first
  | with_reducible refine r_seq ?_
  | with_reducible refine r_set ?_
  | with_reducible refine r_var (by with_unfolding_all rfl) ?_
  | with_reducible refine r_c ?_
  | with_reducible refine r_op ?_
  | with_reducible refine r_cons ?_
  | with_reducible refine r_nil ?_
  | with_reducible refine r_I0 ?_
  | with_reducible refine r_test ?_
  | with_reducible refine r_blk ?_
  | with_reducible refine r_ifT ?_
  | with_reducible refine r_ifF ?_
  | with_reducible refine r_ifNT ?_
  | with_reducible refine r_ifNF ?_
  | with_reducible refine r_aug (by with_unfolding_all rfl) ?_
  | with_reducible refine r_ipI ?_
  | with_reducible refine r_ifs0 ?_
  | with_reducible refine r_ifs1 ?_
  | with_reducible refine r_ifsN ?_
  | with_reducible refine r_ifsS ?_
  | with_reducible refine r_if ?_
  | with_reducible refine r_fld ?_
  | with_reducible refine r_fldC (by assumption) (by assumption) (by assumption) (by first | exact lkN_size | exact lkN_edges | exact lkR_size | exact lkR_terminals | exact lkR_edges | exact lkR_origins | exact lkR_next) ?_
  | with_reducible refine r_eqI ?_
  | with_reducible refine r_neI ?_
  | with_reducible refine r_eqS ?_
  | with_reducible refine r_cl ?_
  | with_reducible refine r_cb ?_
  | with_reducible refine r_mt ?_
  | with_reducible refine r_mtAt (by assumption) (by first | exact lkN_msize | exact lkN_medges | exact lkR_around | exact lkR_other_end | exact lkR_ends_around | exact lkR_is_inner | exact lkR_is_leaf | exact lkR_is_series | exact lkR_is_longer | exact lkR_holds | exact lkR_drop | exact lkR_join | exact lkR_apply | exact lkR_paths_from | exact lkR_walk_for | exact lkR_rows_by_vertices | exact lkR_rows_by_edges) ?_
  | with_reducible refine r_dget ?_
  | with_reducible refine r_ret ?_
  | with_reducible refine r_nx ?_
  | with_reducible refine r_yes ?_
  | with_reducible refine r_drop ?_
  | with_reducible refine r_asg ?_
  | with_reducible refine r_gN ?_
  | with_reducible refine r_gT3 (by assumption) (by with_unfolding_all rfl) ?_
  | with_reducible refine r_gT2 (by assumption) (by with_unfolding_all rfl) ?_
  | with_reducible refine r_or ?_
  | with_reducible refine r_and ?_
  | with_reducible refine r_not ?_
  | with_reducible refine r_andV ?_
  | with_reducible refine r_orV ?_
  | with_reducible refine r_notV ?_
  | with_reducible refine r_chain ?_
  | with_reducible refine r_ifE ?_
  | with_reducible refine r_B ?_
  | with_reducible refine r_tup ?_
  | with_reducible refine r_lst ?_
  | with_reducible refine r_sl ?_
  | with_reducible refine r_noP ?_
  | with_reducible refine r_part ?_
  | with_reducible refine r_intC ?_
  | with_reducible refine r_din ?_
  | with_reducible refine r_dni ?_
  | with_reducible refine r_iL ?_
  | with_reducible refine r_iT ?_
  | with_reducible refine r_iR1 ?_
  | with_reducible refine r_iR2 ?_
  | with_reducible refine r_un ?_
  | with_reducible refine r_U ?_
  | with_reducible refine r_sFld ?_
  | with_reducible refine r_sFldAug ?_
  | with_reducible refine r_dput ?_
  | with_reducible refine r_ddel ?_
  | with_reducible refine r_bm ?_
  | with_reducible refine r_for ?_
  | with_reducible refine r_lc ?_
  | with_reducible refine r_dc ?_
  | with_reducible refine r_subset ?_
  | with_reducible refine r_intI ?_
  | with_reducible refine r_intB ?_
  | with_reducible refine r_absI ?_
  | with_reducible refine r_min2I ?_
  | with_reducible refine r_mk ?_
  | with_reducible refine r_star ?_
  | with_reducible refine r_starAt (by assumption) ?_
  | with_reducible refine r_pop1 ?_
  | with_reducible refine r_popAt (by assumption) ?_
  | with_reducible refine r_get1 ?_
  | with_reducible refine r_minK ?_
  | with_reducible refine r_lstRg ?_
  | with_reducible refine r_rg1 ?_
  | with_reducible refine r_eqN ?_
  | with_reducible refine r_lenI (by assumption) ?_
  | with_reducible refine r_lenH (by assumption) ?_
  | with_reducible refine r_ix0 (by assumption) ?_
  | with_reducible refine r_ix1 (by assumption) ?_
  | with_reducible refine r_ix2 (by assumption) ?_
  | with_reducible refine r_I (by first | decide | (unfold CPow; omega) | (unfold CDiv; omega) | (unfold CMul; omega) | omega) ?_
  | with_reducible refine r_iR1At (by omega) ?_
  | with_reducible refine r_ifP (by first | omega | exact rfl) ?_
  | with_reducible refine r_ifQ (by first | omega | with_unfolding_all decide) ?_
  | with_reducible refine r_ifNP (by omega) ?_
  | with_reducible refine r_ifNQ (by omega) ?_)
local macro_rules | `(tactic| walk_at "st") => `(tactic| repeat walk_at "s1")

theorem sc_reduction : FnScope ["network", "terminals", "rest", "rows", "more"] ["network", "terminals"] (defScope s_reduction) := ⟨rfl, rfl, rfl, by decide +kernel, rfl, by decide +kernel, by decide +kernel⟩
theorem RL.lenV {H : Hp} {p : Addr} {rows : List Row} {vs : List V} (h : RL RRow H (.ref p) rows) (e : H p = some (.lst vs)) : vs.length = rows.length ∧ Paired (RRow H) vs rows := by
  obtain ⟨ws, e1, e2⟩ := h.lst
  rw [e] at e1; cases e1
  exact ⟨prd_len e2, e2⟩
theorem Run.split {n : Int} {ts : List Int} {rows : List Row} {S : List En} {nx : Int} (h : rows = []) (S' : List En) (nx' : Int) (r : Run n ts S nx rows S' nx') : S' = S ∧ nx' = nx := by
  subst h; cases r; exact ⟨rfl, rfl⟩
theorem start_ok {n : Int} {es : List TW.Ed} (g : GoodN n es) (h : es.length ≤ 40) : OkS n (startS es) es.length := by
  have hl : (startS es).length = es.length := by rw [← List.length_map (f := ed), startS_ed]
  refine ⟨⟨es, startS_ok g.all⟩, by omega, ?_⟩
  have e : wt ol (startS es) = wt (fun _ => 1) (startS es) := wt_congr fun s hs => by
    obtain ⟨i, hi⟩ := List.mem_iff_getElem?.mp hs
    rw [startS_at] at hi
    obtain ⟨e, h1, h2⟩ := Option.map_eq_some_iff.mp hi
    subst h2; rfl
  rw [e, len_wt]; omega
theorem ok_c_reduction {f : Addr} {fd : FuncData} (T : Tx K mg CN CR) (F : FnP K "reduction" "reduction" s_reduction f fd)
  (c_check_terminals : Cal P w K mg base 2 "check_terminals" ["network", "terminals", "most"] (spc_check_terminals TB CN CR))
  (k_Rest : CalK P w K mg base 2 CR "Rest" ["self", "network", "terminals"] (spk_Rest TB CN CR))
  (m_rows_by_vertices : CalM P w K mg base 5 CR "rows_by_vertices" ["self"] (spm_rows_by_vertices TB CN CR))
  (m_rows_by_edges : CalM P w K mg base 6 CR "rows_by_edges" ["self"] (spm_rows_by_edges TB CN CR)) : FnOk P w K mg base CX0 7 f fd ["network", "terminals"] (spc_reduction TB CN CR) := by
  refine F.ok (k := 6) sc_reduction (fun vs H Q E h => by obtain ⟨a, t, n, es, ts, rfl, _⟩ := h; rfl) (fun cdv A outer s H vs Q E hr h => ?_)
  have hu := hu_of hr
  have z1 := T.clN
  have z2 := T.clR
  have z3 := T.a_size
  have z4 := T.a_edges
  have z5 := T.r_size
  have z6 := T.r_terminals
  have z7 := T.r_edges
  have z8 := T.r_origins
  have z9 := T.r_next
  obtain ⟨a, t, n, es, ts, rfl, h⟩ := h
  refine ⟨_, PSs.nox (pss_cons (ps_expr (pe_c c_check_terminals (hr.mono (by decide)) rfl (pa_cons (pv 0) (pa_cons (pv 1) (pa_cons (pe_gi rfl T.c_MOST_TERMINALS) pa_nil)))))
    (pss_cons (ps_set (i := 2) sc_reduction.nd rfl (Or.inl rfl) (pe_k k_Rest (hr.mono (by decide)) rfl (pa_cons (pv 0) (pa_cons (pv 1) pa_nil))))
    (pss_cons (ps_set (i := 3) sc_reduction.nd rfl (Or.inl rfl) (pe_lst pa_nil))
    (pss_cons (ps_set (i := 4) sc_reduction.nd rfl (Or.inl rfl) (pe_op op_cat (pe_m0 m_rows_by_vertices (pv 2) T.clR (hr.mono (by decide))) (pe_m0 m_rows_by_edges (pv 2) T.clR (hr.mono (by decide)))))
    (pss_cons (ps_while PassesOwn.never (pt_cmpR op_gt (pe_callB (lenQ (K := K)) (by rfl) T.n_len (by decide +kernel) (pa_cons (pv 4) pa_nil)) pe_int (nomark _))
      (pss_cons (ps_set (i := 3) sc_reduction.nd rfl (Or.inl rfl) (pe_op op_cat (pv 3) (pv 4)))
    (pss_one (ps_set (i := 4) sc_reduction.nd rfl (Or.inl rfl) (pe_op op_cat (pe_m0 m_rows_by_vertices (pv 2) T.clR (hr.mono (by decide))) (pe_m0 m_rows_by_edges (pv 2) T.clR (hr.mono (by decide))))))))
    (pss_one (ps_ret (pv 3)))))))), ?_⟩
  obtain ⟨h1, h2, h3, h4, h5, h6, q⟩ := h
  have hts : ts ≠ [] := fun z => by have := h5.l0; rw [z] at this; simp at this
  walk_at "st"
  refine ⟨a, t, n, es, ts, rfl, h1, h4, h5, fun H1 G1 => ?_⟩
  walk_at "st"
  refine mk_new (T := TB) fun x dx H2 hx G2 kx => ?_
  have G12 := G1.trans G2
  refine ⟨x, dx, a, t, n, es, ts, rfl, kx, h1.mono G12.extN, h2.len, G12.lst h4, fun H3 de oa hde hoa G3 R3 => ⟨rfl, ?_⟩⟩
  have hx0 : Off H x := G1.off (Off.none hx)
  have hde0 : Off H de := G12.off hde
  have hoa0 : Off H oa := G12.off hoa
  have G03 : Gx TB [x, de, oa] H H3 := (G12.mono (by simp)).trans (G3.mono (by simp))
  have fin : ∀ A, Gx TB [x, de, oa] H A → Gx TB [] H A := fun A g => g.dropL fun y hy => by
    simp only [List.mem_cons, List.not_mem_nil, or_false] at hy
    rcases hy with z | z | z <;> rw [z] <;> assumption
  have ok0 := start_ok h2 h3
  walk_at "st"
  refine ⟨by decide, fun rl hrl => ?_⟩
  have G4 : Gx TB [x, de, oa] H (upd H3 rl (.lst [])) := G03.new hrl
  have R4 := R3.mono (Gx.extN ((Gx.refl (T := TB) (xs := [])).new (o := .lst []) hrl))
  have k4 : RL RRow (upd H3 rl (.lst [])) (.ref rl) [] := ⟨rl, [], rfl, upd_same, .nil⟩
  have hrl0 : Off H rl := (fin _ G03).off (Off.none hrl)
  generalize upd H3 rl (.lst []) = H4 at *
  have turn : ∀ (S : List En) (nx : Int) (A : Hp) (σ : L2.St) (Q' : VK), σ[2]? = some (some (.ref x)) → OkS n S nx → Gx TB [x, de, oa] H A → RestAt CR A x n ts S nx de oa →
      (∀ p A' more S' nx', Gx TB [x, de, oa] A A' → Off A p → RL RRow A' (.ref p) more → RestAt CR A' x n ts S' nx' de oa → Run n ts S nx more S' nx' → (more = [] → Full n ts S) → Q' (.ref p) A') →
      tOp rCat (tMt CR (Str.ofString "rows_by_vertices") (spm_rows_by_vertices TB CN CR) (tVar 2) tNil) (tMt CR (Str.ofString "rows_by_edges") (spm_rows_by_edges TB CN CR) (tVar 2) tNil) σ A Q' := fun S nx A σ Q' hσ ok GA RA q' => by
    obtain ⟨dx1, ta, ekv, okv, i1, _⟩ := RA.ex
    refine r_op (r_mt (r_var hσ (r_mtAt i1 lkR_rows_by_vertices (r_nil ?_))))
    refine ⟨x, n, ts, S, nx, de, oa, rfl, RA, ok, h2.n1, by have := h2.n0; omega, hts, fun p1 A1 rows1 S1 nx1 G5 rl1 R5 run1 n1 => ?_⟩
    obtain ⟨ok1, len1⟩ := ok.run run1
    obtain ⟨dx1, ta, ekv, okv, i1, _⟩ := R5.ex
    refine r_mt (r_var hσ (r_mtAt i1 lkR_rows_by_edges (r_nil ?_)))
    refine ⟨x, n, ts, S1, nx1, de, oa, rfl, R5, ok1, h5.rng, h5.l1, h2.n1, hts, (fin _ (GA.trans G5)).tab h6, fun p2 A2 rows2 S2 nx2 G6 rl2 R6 run2 n2 => ?_⟩
    obtain ⟨ok2, len2⟩ := ok1.run run2
    have rl1' := sL sRow _ _ _ _ (R5.extS G6) rl1
    obtain ⟨vs1, e1, e2⟩ := rl1'.lst
    obtain ⟨vs2, e3, e4⟩ := rl2.lst
    have l1 := prd_len e2
    have l2 := prd_len e4
    have := ok.2.1
    refine r_catT (T := TB) e1 e3 (by rw [sizeLine_eq]; omega) fun p A3 hp G7 k7 => ?_
    have offp : Off A p := fun o ho => by
      cases o with
      | tbl ps => exact ⟨ps, rfl⟩
      | _ =>
        exfalso
        by_cases hm : p ∈ [x, de, oa]
        · obtain ⟨dx1, ta, ekv, okv, i1, i2, i3, i4, _⟩ := R6.ex
          simp only [List.mem_cons, List.not_mem_nil, or_false] at hm
          rcases hm with z | z | z <;> rw [z] at hp
          · rw [i1] at hp; cases hp
          · rw [i3] at hp; cases hp
          · rw [i4] at hp; cases hp
        · have := (G5.trans G6).ext p _ ho (fun _ z => by cases z) hm
          rw [hp] at this; cases this
    refine q' p A3 (rows1 ++ rows2) S2 nx2 ((G5.trans G6).call G7) offp ⟨p, _, rfl, k7, prd_app (prd_mono mRow G7.extN e2) (prd_mono mRow G7.extN e4)⟩ (R6.mono G7.extN) (run1.app run2) fun e => ?_
    obtain ⟨z1, z2⟩ := List.append_eq_nil_iff.mp e
    obtain ⟨eS, _⟩ := Run.split z1 _ _ run1
    exact ⟨n1 z1, by rw [← eS]; exact n2 z2⟩
  walk_at "s1"
  walk_at "s1"
  refine turn (startS es) es.length H4 _ _ (by with_unfolding_all rfl) ok0 G4 R4 fun p H5 more S nx G5 hp r5 R5 run5 f5 => ?_
  have k5 := sL sRow _ _ _ _ (R4.extS G5) k4
  walk_at "st"
  refine while_m (fun m σ A => ∃ rl ml rows more S nx, m = 2 * S.length + (if more = [] then 0 else 1) ∧ σ = [some (.ref a), some (.ref t), some (.ref x), some (.ref rl), some (.ref ml)] ∧ Gx TB [x, de, oa] H A ∧ Off H rl ∧ RL RRow A (.ref rl) rows ∧ RL RRow A (.ref ml) more ∧ RestAt CR A x n ts S nx de oa ∧ Run n ts (startS es) es.length (rows ++ more) S nx ∧ (more = [] → Full n ts S))
    ⟨_, rl, p, [], more, S, nx, rfl, rfl, G4.trans G5, hrl0, k5, r5, R5, run5, fun e => by
      have e2 := f5 e
      obtain ⟨eS, _⟩ := Run.split e _ _ run5
      rw [eS]; exact e2⟩ (fun m σ A ⟨rl, ml, rows, more, S, nx, em, es', GA, hrl, kr, km, RA, run, full⟩ => ?_) (fun σ H2 Q1 Q2 m z => ?_)
  · subst es' em
    obtain ⟨vr, e1, e2⟩ := kr.lst
    obtain ⟨vm, e3, e4⟩ := km.lst
    have l1 := prd_len e2
    have l2 := prd_len e4
    obtain ⟨okA, lenA⟩ := ok0.run run
    rw [List.length_append] at lenA
    have := ok0.2.1
    walk_at "st"
    refine ifD (fun hb => ?_) fun hb => ?_
    · have hm : more ≠ [] := fun z => by rw [z, List.length_nil] at l2; omega
      walk_at "st"
      refine r_catT (T := TB) e1 e3 (by rw [sizeLine_eq]; omega) fun p2 A2 hp2 G6 k6 => ?_
      have r6 : RL RRow A2 (.ref p2) (rows ++ more) := ⟨p2, _, rfl, k6, prd_app (prd_mono mRow G6.extN e2) (prd_mono mRow G6.extN e4)⟩
      have R6 := RA.mono G6.extN
      have GA2 := GA.call G6
      walk_at "s1"
      walk_at "s1"
      refine turn S nx A2 _ _ (by with_unfolding_all rfl) okA GA2 R6 fun p3 A3 more3 S3 nx3 G7 hp3 r7 R7 run7 f7 => ?_
      obtain ⟨_, len7⟩ := okA.run run7
      walk_at "st"
      refine ⟨2 * S3.length + (if more3 = [] then 0 else 1), ?_, p2, p3, rows ++ more, more3, S3, nx3, rfl, rfl, GA2.trans G7, (fin _ GA).off (Off.none hp2), sL sRow _ _ _ _ (R6.extS G7) r6, r7, R7, run.app run7, fun e => ?_⟩
      · rw [if_neg hm]
        split
        · omega
        · have : 0 < more3.length := List.length_pos_iff.mpr (by assumption)
          omega
      · have e2 := f7 e
        obtain ⟨eS, _⟩ := Run.split e _ _ run7
        rw [eS]; exact e2
    · have hm : more = [] := List.length_eq_zero_iff.mp (by omega)
      walk_at "st"
      rw [hm, List.append_nil] at run
      exact q rl A rows S nx hrl (fin _ GA) kr run (full hm)
  · obtain ⟨v, h, p, ys, e0, e00, i, j, e1, e2, k, e3, z⟩ := z
    exact ⟨v, h, p, ys, e0, e00, i, j, e1, e2, k, e3, m _ _ z⟩

theorem sc_check_reduction : FnScope ["network", "terminals", "rows", "rest", "row"] ["network", "terminals", "rows"] (defScope s_check_reduction) := ⟨rfl, rfl, rfl, by decide +kernel, rfl, by decide +kernel, by decide +kernel⟩
theorem Run.take {n : Int} {ts : List Int} {S S' : List En} {nx nx' : Int} {rows : List Row} (h : Run n ts S nx rows S' nx') : ∀ (i : Nat) (row : Row), rows[i]? = some row → ∀ S1 nx1, Run n ts S nx (rows.take i) S1 nx1 → holdsB n ts S1 row = true := by
  induction h with
  | nil => intro i row h; simp at h
  | @cons S S' nx nx' row0 rows hr _ ih =>
    intro i row hi S1 nx1 r1
    cases i with
    | zero =>
      simp at hi
      subst hi
      simp only [List.take_zero] at r1
      cases r1
      exact hr
    | succ i =>
      rw [List.take_succ_cons] at r1
      cases r1 with
      | cons _ r1 => exact ih i row (by simpa using hi) S1 nx1 r1
theorem Run.det {n : Int} {ts : List Int} {S S' : List En} {nx nx' : Int} {rows : List Row} (h : Run n ts S nx rows S' nx') : ∀ S2 nx2, Run n ts S nx rows S2 nx2 → S2 = S' ∧ nx2 = nx' := by
  induction h with
  | nil => intro S2 nx2 r; cases r; exact ⟨rfl, rfl⟩
  | cons _ _ ih => intro S2 nx2 r; cases r with | cons _ r => exact ih S2 nx2 r
theorem start_ok2 {n : Int} {es : List TW.Ed} (g : GoodN n es) (h : es.length ≤ 40) : OkS n (startS es) es.length := by
  have hl : (startS es).length = es.length := by rw [← List.length_map (f := ed), startS_ed]
  refine ⟨⟨es, startS_ok g.all⟩, by omega, ?_⟩
  have e : wt ol (startS es) = wt (fun _ => 1) (startS es) := wt_congr fun s hs => by
    obtain ⟨i, hi⟩ := List.mem_iff_getElem?.mp hs
    rw [startS_at] at hi
    obtain ⟨e, h1, h2⟩ := Option.map_eq_some_iff.mp hi
    subst h2; rfl
  rw [e, len_wt]; omega
theorem ok_c_check_reduction {f : Addr} {fd : FuncData} (T : Tx K mg CN CR) (F : FnP K "check_reduction" "check_reduction" s_check_reduction f fd)
  (c_check_terminals : Cal P w K mg base 2 "check_terminals" ["network", "terminals", "most"] (spc_check_terminals TB CN CR))
  (k_Rest : CalK P w K mg base 2 CR "Rest" ["self", "network", "terminals"] (spk_Rest TB CN CR))
  (m_holds : CalM P w K mg base 4 CR "holds" ["self", "row"] (spm_holds TB CN CR))
  (m_apply : CalM P w K mg base 4 CR "apply" ["self", "row"] (spm_apply TB CN CR)) : FnOk P w K mg base CX0 5 f fd ["network", "terminals", "rows"] (spc_check_reduction TB CN CR) := by
  refine F.ok (k := 4) sc_check_reduction (fun vs H Q E h => by obtain ⟨a, t, l, n, es, ts, rows, S, nx, rfl, _⟩ := h; rfl) (fun cdv A outer s H vs Q E hr h => ?_)
  have hu := hu_of hr
  have z1 := T.clN
  have z2 := T.clR
  have z3 := T.a_size
  have z4 := T.a_edges
  have z5 := T.r_size
  have z6 := T.r_terminals
  have z7 := T.r_edges
  have z8 := T.r_origins
  have z9 := T.r_next
  obtain ⟨a, t, l, n, es, ts, rows, S, nx, rfl, h⟩ := h
  refine ⟨_, PSs.nox (pss_cons (ps_expr (pe_c c_check_terminals (hr.mono (by decide)) rfl (pa_cons (pv 0) (pa_cons (pv 1) (pa_cons (pe_gi rfl T.c_MOST_TERMINALS) pa_nil)))))
    (pss_cons (ps_set (i := 3) sc_check_reduction.nd rfl (Or.inl rfl) (pe_k k_Rest (hr.mono (by decide)) rfl (pa_cons (pv 0) (pa_cons (pv 1) pa_nil))))
    (pss_cons (ps_for PassesOwn.never rfl (iL (K := K) (pv 2)) (pg_name (i := 4) sc_check_reduction.nd rfl (Or.inl rfl))
      (pss_cons (ps_if (pt_not (pt_val (pe_m m_holds (pv 3) T.clR (hr.mono (by decide)) (pa_cons (pv 4) pa_nil)))) (pss_one (ps_ret pe_bl)) pss_nil)
    (pss_one (ps_expr (pe_m m_apply (pv 3) T.clR (hr.mono (by decide)) (pa_cons (pv 4) pa_nil))))))
    (pss_one (ps_ret pe_bl))))), ?_⟩
  obtain ⟨h1, h2, h3, h4, h5, h6, h7, q⟩ := h
  walk_at "st"
  refine ⟨a, t, n, es, ts, rfl, h1, h4, h5, fun H1 G1 => ?_⟩
  walk_at "st"
  refine mk_new (T := TB) fun x dx H2 hx G2 kx => ?_
  have G12 := G1.trans G2
  refine ⟨x, dx, a, t, n, es, ts, rfl, kx, h1.mono G12.extN, h2.len, G12.lst h4, fun H3 de oa hde hoa G3 R3 => ⟨rfl, ?_⟩⟩
  have hx0 : Off H x := G1.off (Off.none hx)
  have hde0 : Off H de := G12.off hde
  have hoa0 : Off H oa := G12.off hoa
  have G03 : Gx TB [x, de, oa] H H3 := (G12.mono (by simp)).trans (G3.mono (by simp))
  have fin : ∀ A, Gx TB [x, de, oa] H A → Gx TB [] H A := fun A g => g.dropL fun y hy => by
    simp only [List.mem_cons, List.not_mem_nil, or_false] at hy
    rcases hy with z | z | z <;> rw [z] <;> assumption
  have ok0 := start_ok2 h2 h3
  obtain ⟨vs, e1, e2⟩ := h6.lst
  walk_at "st"
  refine r_iLH ((fin _ G03).lst e1) ?_
  refine for_list (xs := vs) (fun i σ A => ∃ o4 S1 nx1, σ = [some (.ref a), some (.ref t), some (.ref l), some (.ref x), o4] ∧ Gx TB [x, de, oa] H A ∧ RestAt CR A x n ts S1 nx1 de oa ∧ Run n ts (startS es) es.length (rows.take i) S1 nx1) ⟨_, _, _, rfl, G03, R3, .nil _ _⟩ (fun i σ A _ ⟨_, _, _, _, GA, _⟩ => SqL.of ((fin _ GA).lst e1)) (fun i v σ A hv ⟨o4, S1, nx1, es', GA, RA, run⟩ => ?_) fun σ A ⟨o4, S1, nx1, es', GA, RA, run⟩ => ?_
  · subst es'
    obtain ⟨row, hrow, rv⟩ := prd_getV e2 hv
    have hold := h7.take i row hrow S1 nx1 run
    obtain ⟨ok1, _⟩ := ok0.run run
    obtain ⟨ra, rfl, _⟩ := id rv
    have rv1 := mRow _ _ _ _ (fin _ GA).extN rv
    obtain ⟨dx1, ta, ekv, okv, i1, _⟩ := RA.ex
    walk_at "st"
    refine ⟨x, ra, row, n, ts, S1, nx1, de, oa, rfl, RA, ok1, rv1, fun A2 G5 => ?_⟩
    rw [hold]
    have RA2 := RA.mono G5.extN
    have i1 := G5.ins i1
    walk_at "st"
    refine ⟨x, ra, row, n, ts, S1, nx1, de, oa, rfl, RA2, ok1, mRow _ _ _ _ G5.extN rv1, hold, fun A3 G6 R6 => ?_⟩
    walk_at "st"
    refine ⟨_, _, _, rfl, (GA.call G5).trans G6, R6, ?_⟩
    rw [show rows.take (i + 1) = rows.take i ++ [row] by rw [List.take_succ, hrow]; rfl]
    exact run.snoc hold
  · subst es'
    walk_at "st"
    exact q _ (fin _ GA)

theorem sc_rest_of : FnScope ["network", "terminals", "rows", "rest", "k", "numbers", "number", "left"] ["network", "terminals", "rows"] (defScope s_rest_of) := ⟨rfl, rfl, rfl, by decide +kernel, rfl, by decide +kernel, by decide +kernel⟩
theorem keys_map {α : Type} {S : List En} (h : (S.map (·.1)).Pairwise (· < ·)) (g : TW.Ed × List Int → α) : (S.map (·.1)).filterMap (fun k => (S.lookup k).map g) = S.map fun s => g s.2 := by
  have key : ∀ L : List En, (∀ s ∈ L, S.lookup s.1 = some s.2) → (L.map (·.1)).filterMap (fun k => (S.lookup k).map g) = L.map fun s => g s.2 := fun L => by
    induction L with
    | nil => exact fun _ => rfl
    | cons s r ih =>
      intro hL
      have ih := ih fun t ht => hL t (by simp [ht])
      have hs := hL s (by simp)
      rw [List.map_cons, List.filterMap_cons, hs, List.map_cons]
      simp only [Option.map_some]
      rw [ih]
  exact key _ fun s hs => lookup_of h hs
theorem Run.take3 {n : Int} {ts : List Int} {S S' : List En} {nx nx' : Int} {rows : List Row} (h : Run n ts S nx rows S' nx') : ∀ (i : Nat) (row : Row), rows[i]? = some row → ∀ S1 nx1, Run n ts S nx (rows.take i) S1 nx1 → holdsB n ts S1 row = true := by
  induction h with
  | nil => intro i row h; simp at h
  | @cons S S' nx nx' row0 rows hr _ ih =>
    intro i row hi S1 nx1 r1
    cases i with
    | zero =>
      simp at hi
      subst hi
      simp only [List.take_zero] at r1
      cases r1
      exact hr
    | succ i =>
      rw [List.take_succ_cons] at r1
      cases r1 with
      | cons _ r1 => exact ih i row (by simpa using hi) S1 nx1 r1
theorem Run.det3 {n : Int} {ts : List Int} {S S' : List En} {nx nx' : Int} {rows : List Row} (h : Run n ts S nx rows S' nx') : ∀ S2 nx2, Run n ts S nx rows S2 nx2 → S2 = S' ∧ nx2 = nx' := by
  induction h with
  | nil => intro S2 nx2 r; cases r; exact ⟨rfl, rfl⟩
  | cons _ _ ih => intro S2 nx2 r; cases r with | cons _ r => exact ih S2 nx2 r
theorem start_ok3 {n : Int} {es : List TW.Ed} (g : GoodN n es) (h : es.length ≤ 40) : OkS n (startS es) es.length := by
  have hl : (startS es).length = es.length := by rw [← List.length_map (f := ed), startS_ed]
  refine ⟨⟨es, startS_ok g.all⟩, by omega, ?_⟩
  have e : wt ol (startS es) = wt (fun _ => 1) (startS es) := wt_congr fun s hs => by
    obtain ⟨i, hi⟩ := List.mem_iff_getElem?.mp hs
    rw [startS_at] at hi
    obtain ⟨e, h1, h2⟩ := Option.map_eq_some_iff.mp hi
    subst h2; rfl
  rw [e, len_wt]; omega
theorem ok_c_rest_of {f : Addr} {fd : FuncData} (T : Tx K mg CN CR) (F : FnP K "rest_of" "rest_of" s_rest_of f fd)
  (c_check_terminals : Cal P w K mg base 2 "check_terminals" ["network", "terminals", "most"] (spc_check_terminals TB CN CR))
  (k_Rest : CalK P w K mg base 2 CR "Rest" ["self", "network", "terminals"] (spk_Rest TB CN CR))
  (m_holds : CalM P w K mg base 4 CR "holds" ["self", "row"] (spm_holds TB CN CR))
  (m_apply : CalM P w K mg base 4 CR "apply" ["self", "row"] (spm_apply TB CN CR))
  (k_Network : CalK P w K mg base 2 CN "Network" ["self", "size", "edges"] (spk_Network TB CN CR)) : FnOk P w K mg base CX0 5 f fd ["network", "terminals", "rows"] (spc_rest_of TB CN CR) := by
  refine F.ok (k := 4) sc_rest_of (fun vs H Q E h => by obtain ⟨a, t, l, n, es, ts, rows, S, nx, rfl, _⟩ := h; rfl) (fun cdv A outer s H vs Q E hr h => ?_)
  have hu := hu_of hr
  have z1 := T.clN
  have z2 := T.clR
  have z3 := T.a_size
  have z4 := T.a_edges
  have z5 := T.r_size
  have z6 := T.r_terminals
  have z7 := T.r_edges
  have z8 := T.r_origins
  have z9 := T.r_next
  obtain ⟨a, t, l, n, es, ts, rows, S, nx, rfl, h⟩ := h
  refine ⟨_, PSs.nox (pss_cons (ps_expr (pe_c c_check_terminals (hr.mono (by decide)) rfl (pa_cons (pv 0) (pa_cons (pv 1) (pa_cons (pe_gi rfl T.c_MOST_TERMINALS) pa_nil)))))
    (pss_cons (ps_set (i := 3) sc_rest_of.nd rfl (Or.inr rfl) (pe_k k_Rest (hr.mono (by decide)) rfl (pa_cons (pv 0) (pa_cons (pv 1) pa_nil))))
    (pss_cons (ps_for PassesOwn.never rfl (pi_range1 (by rfl) T.n_range (pa_cons (pe_callB (lenQ (K := K)) (by rfl) T.n_len (by decide +kernel) (pa_cons (pv 2) pa_nil)) pa_nil)) (pg_name (i := 4) sc_rest_of.nd rfl (Or.inl rfl))
      (pss_cons (ps_if (pt_not (pt_val (pe_m m_holds (pv 3) T.clR (hr.mono (by decide)) (pa_cons (pe_ix (ixL (K := K)) (pv 2) (pv 4) (fun _ _ => rfl)) pa_nil)))) (pss_one ps_never) pss_nil)
    (pss_one (ps_expr (pe_m m_apply (pv 3) T.clR (hr.mono (by decide)) (pa_cons (pe_ix (ixL (K := K)) (pv 2) (pv 4) (fun _ _ => rfl)) pa_nil))))))
    (pss_cons (ps_set (i := 5) sc_rest_of.nd rfl (Or.inl rfl) (pe_callB sortedQD (by rfl) T.n_sorted (by decide +kernel) (pa_cons (fld (K := K) (pv 3)) pa_nil)))
    (pss_cons (ps_set (i := 7) sc_rest_of.nd rfl (Or.inl rfl) (pe_k k_Network (hr.mono (by decide)) rfl (pa_cons (fld (K := K) (pv 3)) (pa_cons (pe_lc (own := [("number", 6)]) (by rfl) sc_rest_of.nd (iL (K := K) (pv 5)) (blkOk_by (own := [("number", 6)]) (N := ["network", "terminals", "rows", "rest", "k", "numbers", "number", "left"]) (sc := defScope s_rest_of) (by decide +kernel)) (fun _ _ _ _ _ => pg_name (i := 6) sc_rest_of.nd rfl (Or.inl rfl)) (fun _ _ _ _ _ => pts_nil) (fun _ _ _ _ _ => (pe_dget hu (fld (K := K) (pv 3)) (pv 6) (fun _ _ => rfl)))) pa_nil))))
    (pss_one (ps_ret (pe_tup (pa_cons (pv 7) (pa_cons (pe_lc (own := [("number", 6)]) (by rfl) sc_rest_of.nd (iL (K := K) (pv 5)) (blkOk_by (own := [("number", 6)]) (N := ["network", "terminals", "rows", "rest", "k", "numbers", "number", "left"]) (sc := defScope s_rest_of) (by decide +kernel)) (fun _ _ _ _ _ => pg_name (i := 6) sc_rest_of.nd rfl (Or.inl rfl)) (fun _ _ _ _ _ => pts_nil) (fun _ _ _ _ _ => (pe_callTy (listQ (K := K)) (by rfl) T.n_list (by decide +kernel) (pa_cons (pe_dget hu (fld (K := K) (pv 3)) (pv 6) (fun _ _ => rfl)) pa_nil)))) pa_nil)))))))))), ?_⟩
  obtain ⟨h1, h2, h3, h4, h5, h6, h7, q⟩ := h
  walk_at "st"
  refine ⟨a, t, n, es, ts, rfl, h1, h4, h5, fun H1 G1 => ?_⟩
  walk_at "st"
  refine mk_new (T := TB) fun x dx H2 hx G2 kx => ?_
  have G12 := G1.trans G2
  refine ⟨x, dx, a, t, n, es, ts, rfl, kx, h1.mono G12.extN, h2.len, G12.lst h4, fun H3 de oa hde hoa G3 R3 => ⟨rfl, ?_⟩⟩
  have hx0 : Off H x := G1.off (Off.none hx)
  have hde0 : Off H de := G12.off hde
  have hoa0 : Off H oa := G12.off hoa
  have G03 : Gx TB [x, de, oa] H H3 := (G12.mono (by simp)).trans (G3.mono (by simp))
  have fin : ∀ A, Gx TB [x, de, oa] H A → Gx TB [] H A := fun A g => g.dropL fun y hy => by
    simp only [List.mem_cons, List.not_mem_nil, or_false] at hy
    rcases hy with z | z | z <;> rw [z] <;> assumption
  have ok0 := start_ok3 h2 h3
  obtain ⟨vs, e1, e2⟩ := h6.lst
  have l1 := prd_len e2
  have rl := (ok0.run h7).2
  have r40 := ok0.2.1
  have k3 := (fin _ G03).lst e1
  walk_at "st"
  refine for_range (fun i σ A => ∃ o4 o5 o6 o7 S1 nx1, σ = [some (.ref a), some (.ref t), some (.ref l), some (.ref x), o4, o5, o6, o7] ∧ Gx TB [x, de, oa] H A ∧ RestAt CR A x n ts S1 nx1 de oa ∧ Run n ts (startS es) es.length (rows.take i) S1 nx1) ⟨_, _, _, _, _, _, rfl, G03, R3, .nil _ _⟩ (fun i σ A hi ⟨o4, o5, o6, o7, S1, nx1, es', GA, RA, run⟩ => ?_) fun σ A ⟨o4, o5, o6, o7, S1, nx1, es', GA, RA, run⟩ => ?_
  · subst es'
    have hi2 : i < rows.length := by omega
    obtain ⟨v, hv, rv⟩ := prd_get e2 (List.getElem?_eq_getElem hi2)
    have hold := h7.take3 i _ (List.getElem?_eq_getElem hi2) S1 nx1 run
    obtain ⟨ok1, _⟩ := ok0.run run
    obtain ⟨ra, rfl, _⟩ := id rv
    have rv1 := mRow _ _ _ _ (fin _ GA).extN rv
    obtain ⟨dx1, ta, ekv, okv, i1, _⟩ := RA.ex
    have kA := (fin _ GA).lst e1
    have at1 : atI vs (0 + (i : Int)) = some (.ref ra) := at_nat (by omega) (by rw [show ((0:Int) + (i:Int)).toNat = i by omega]; exact hv)
    walk_at "st"
    refine r_ixL (SqL.of kA) at1 ?_
    walk_at "st"
    refine ⟨x, ra, _, n, ts, S1, nx1, de, oa, rfl, RA, ok1, rv1, fun A2 G5 => ?_⟩
    rw [hold]
    have RA2 := RA.mono G5.extN
    have i1 := G5.ins i1
    walk_at "st"
    refine r_ixL (SqL.of (G5.lst kA)) at1 ?_
    walk_at "st"
    refine ⟨x, ra, _, n, ts, S1, nx1, de, oa, rfl, RA2, ok1, mRow _ _ _ _ G5.extN rv1, hold, fun A3 G6 R6 => ?_⟩
    walk_at "st"
    refine ⟨_, _, _, _, _, _, rfl, (GA.call G5).trans G6, R6, ?_⟩
    rw [show rows.take (i + 1) = rows.take i ++ [rows[i]] by rw [List.take_succ, List.getElem?_eq_getElem hi2]; rfl]
    exact run.snoc hold
  · subst es'
    rw [show ((vs.length : Nat) : Int).toNat = rows.length by omega, List.take_length] at run
    obtain ⟨eS, enx⟩ := h7.det3 _ _ run
    have eS := eS.symm
    have enx := enx.symm
    subst eS enx
    obtain ⟨okS, _⟩ := ok0.run h7
    have GA0 := fin _ GA
    obtain ⟨dx1, ta, ekv, okv, i1, i2, i3, i4, i5, i6, i7⟩ := RA.ex
    walk_at "st"
    refine RA.sorted (TB := TB) okS fun p B1 hp G5 k5 => ?_
    have R5 := RA.mono G5.extN
    replace i1 := G5.ins i1
    have s40 := okS.2.1
    walk_at "st"
    refine r_iLH k5 fun D hD => lc_listR (T := TB) (R := RE) (F := RI) mE mI (fun k => (S.lookup k).map (·.1)) hD k5 (ints_prd _) (by rw [List.length_map, sizeLine_eq]; omega) (fun k v B2 N KY hk hv G6 ex6 hne hy hn => ?_) fun B2 G6 r6 => ?_
    · subst hv
      obtain ⟨s, hs, rfl⟩ := List.mem_map.mp hk
      have hlk := lookup_of okS.asc hs
      have R6 := R5.mono G6.extN
      obtain ⟨_, _, _, okv2, j1, j2, j3, j4, j5, j6, j7⟩ := R6.ex
      have R6m := R5.mono ex6
      obtain ⟨_, _, ekv3, okv3, m1, m2, m3, m4, m5, m6, m7⟩ := R6m.ex
      have m3' := (show minus D B2 de = some _ from m3)
      have ede : B2 de = some (.dK ekv3) := by
        by_cases z : de = D
        · unfold minus at m3'; rw [if_pos z] at m3'; cases m3'
        · rwa [minus_ne z] at m3'
      obtain ⟨_, z⟩ | ⟨u, y, ea, z, te, e3, e4⟩ := prd_val (R := fun v x => RE (minus D B2) v x.1) m6 s.1
      · rw [hlk] at z; cases z
      rw [hlk] at z; cases z
      subst e3
      walk_at "st"
      refine ⟨rfl, ?_⟩
      walk_at "st"
      refine r_dgetC ede ea ?_
      exact hy _ _ _ (by rw [hlk]; rfl) Gx.refl ⟨te, rfl, e4⟩
    · rw [keys_map okS.asc] at r6
      have G56 := G5.trans G6
      have R6 := RA.mono G56.extN
      walk_at "st"
      refine mk_new (T := TB) fun y dy B3 hy G7 ky => ?_
      refine ⟨y, dy, n, D, S.map ed, rfl, ky, mL mE _ _ _ _ G7.extN r6, ⟨h2.n0, h2.n1, by rw [List.length_map]; omega, fun e he => by
        obtain ⟨s, hs, rfl⟩ := List.mem_map.mp he
        exact okS.good s hs⟩, fun B4 G8 N8 => ⟨rfl, ?_⟩⟩
      have G78 : Gx TB [] B2 B4 := ((G7.mono (by simp)).trans G8).drop (Off.none hy)
      have R8 := R6.mono G78.extN
      have k8 := (G6.trans G78).lst k5
      walk_at "st"
      refine r_iLH k8 fun D2 hD2 => lc_listR (T := TB) (R := RLI) (F := RI) mLI mI (fun k => (S.lookup k).map (·.2)) hD2 k8 (ints_prd _) (by rw [List.length_map, sizeLine_eq]; omega) (fun k v B5 N KY hk hv G9 _ hne hy hn => ?_) fun B5 G9 r9 => ?_
      · subst hv
        obtain ⟨s, hs, rfl⟩ := List.mem_map.mp hk
        have hlk := lookup_of okS.asc hs
        have R9 := R8.mono G9.extN
        obtain ⟨_, _, ekv3, okv3, m1, m2, m3, m4, m5, m6, m7⟩ := R9.ex
        obtain ⟨_, z⟩ | ⟨u, y, ea, z, te, e3, e4⟩ := prd_val (R := fun v x => RLI B5 v x.2) m7 s.1
        · rw [hlk] at z; cases z
        rw [hlk] at z; cases z
        subst e3
        walk_at "st"
        refine ⟨rfl, ?_⟩
        walk_at "st"
        refine r_dgetC m4 ea ?_
        walk_at "st"
        refine r_listH (T := TB) e4 fun c B6 hc G10 k10 => ?_
        refine hy _ _ _ (by rw [hlk]; rfl) G10 ⟨c, rfl, ?_⟩
        rw [minus_ne (fun z : c = D2 => by rw [← z, hc] at hne; exact hne rfl)]; exact k10
      · rw [keys_map okS.asc] at r9
        walk_at "st"
        refine ⟨by simp [sizeLine_eq], fun tp htp => ?_⟩
        have G11 : Gx TB [] B5 (upd B5 tp (.tup [.ref y, .ref D2])) := Gx.refl.new htp
        exact q tp _ y D2 (((GA0.trans G56).trans (G78.trans G9)).trans G11) upd_same (N8.mono (G9.trans G11).extN) (mL mLI _ _ _ _ G11.extN r9)

theorem sc_lead_back : FnScope ["origins", "numbers", "found", "number"] ["origins", "numbers"] (defScope s_lead_back) := ⟨rfl, rfl, rfl, by decide +kernel, rfl, by decide +kernel, by decide +kernel⟩
def bk (os : List (List Int)) (ns : List Int) : List Int := ns.flatMap fun k => (os[k.toNat]?).getD []
theorem bk_len (os : List (List Int)) {ns : List Int} (h : ns.Nodup) (hr : ∀ k ∈ ns, 0 ≤ k ∧ k < os.length) : ((bk os ns).length : Int) ≤ wt (fun o => (o.length : Int)) os := by
  have e1 : ((bk os ns).length : Int) = wt (fun k : Int => (((os[k.toNat]?).getD []).length : Int)) ns := by
    clear h hr
    unfold bk
    induction ns with
    | nil => rfl
    | cons k r ih => rw [List.flatMap_cons, List.length_append, wt_cons, ← ih]; omega
  have e2 : wt (fun o : List Int => (o.length : Int)) os = wt (fun k : Int => (((os[k.toNat]?).getD []).length : Int)) ((List.range os.length).map fun i => ((i : Nat) : Int)) := by
    unfold wt
    rw [List.map_map]
    congr 1
    refine List.ext_getElem? fun i => ?_
    rw [List.getElem?_map, List.getElem?_map]
    by_cases hi : i < os.length
    · rw [List.getElem?_eq_getElem hi, List.getElem?_range hi]
      simp only [Option.map_some, Function.comp, Int.toNat_natCast]
      rw [List.getElem?_eq_getElem hi]; rfl
    · rw [List.getElem?_eq_none (by omega), List.getElem?_eq_none (by simp; omega)]; rfl
  rw [e1, e2]
  exact wt_le h (fun k hk => by
    obtain ⟨a, b⟩ := hr k hk
    exact List.mem_map.mpr ⟨k.toNat, List.mem_range.mpr (by omega), by omega⟩) fun k _ => Int.natCast_nonneg _
theorem ok_c_lead_back {f : Addr} {fd : FuncData} (T : Tx K mg CN CR) (F : FnP K "lead_back" "lead_back" s_lead_back f fd)
   : FnOk P w K mg base CX0 1 f fd ["origins", "numbers"] (spc_lead_back TB CN CR) := by
  refine F.ok (k := 0) sc_lead_back (fun vs H Q E h => by obtain ⟨oa, na, os, ns, rfl, _⟩ := h; rfl) (fun cdv A outer s H vs Q E hr h => ?_)
  have hu := hu_of hr
  have z1 := T.clN
  have z2 := T.clR
  have z3 := T.a_size
  have z4 := T.a_edges
  have z5 := T.r_size
  have z6 := T.r_terminals
  have z7 := T.r_edges
  have z8 := T.r_origins
  have z9 := T.r_next
  obtain ⟨oa, na, os, ns, rfl, h⟩ := h
  refine ⟨_, PSs.nox (pss_cons (ps_set (i := 2) sc_lead_back.nd rfl (Or.inl rfl) (pe_lst pa_nil))
    (pss_cons (ps_for PassesOwn.never rfl (iL (K := K) (pv 1)) (pg_name (i := 3) sc_lead_back.nd rfl (Or.inl rfl))
      (pss_one (ps_expr (bm (K := K) (pe_bm PySem.F.plainAttrs_list PySem.F.slot_list_extend PySem.F.type_list_extend mt_extend (pv 2) (pa_cons (pe_ix (ixL (K := K)) (pv 0) (pv 3) (fun _ _ => rfl)) pa_nil))))))
    (pss_one (ps_ret (pe_callB (cr_sortedSet rfl) (by rfl) T.n_sorted (by decide +kernel) (pa_cons (pe_callTy (cr_setL rfl) (by rfl) T.n_set (by decide +kernel) (pa_cons (pv 2) pa_nil)) pa_nil)))))), ?_⟩
  obtain ⟨h1, h2, h3, h4, h5, h6, h7, q⟩ := h
  obtain ⟨vo, e1, e2⟩ := h1.lst
  walk_at "st"
  refine ⟨by decide, fun l hl => ?_⟩
  have G1 : Gx TB [l] H (upd H l (.lst [])) := ((Gx.refl (xs := [])).new hl).mono (by simp)
  have k1 : (upd H l (.lst [])) l = some (.lst (([] : List Int).map V.int)) := upd_same
  generalize upd H l (.lst []) = H1 at *
  have nl : na ≠ l := (ne_none hl h2).symm
  have ol' : oa ≠ l := (ne_none hl e1).symm
  have k2 := G1.lst h2 (by simp [nl])
  have tot := bk_len os h4 h3
  walk_at "st"
  refine r_iLH k2 ?_
  refine for_list (xs := ns.map V.int) (fun i σ A => ∃ o3, σ = [some (.ref oa), some (.ref na), some (.ref l), o3] ∧ Gx TB [l] H A ∧ A l = some (.lst ((bk os (ns.take i)).map V.int))) ⟨_, rfl, G1, k1⟩ (fun i σ A _ ⟨_, _, G, _⟩ => SqL.of (G.lst h2 (by simp [nl]))) (fun i x σ A hx ⟨o3, es, G, kl⟩ => ?_) fun σ A ⟨o3, es, G, kl⟩ => ?_
  · subst es
    rw [List.getElem?_map] at hx
    obtain ⟨k, hk, rfl⟩ := Option.map_eq_some_iff.mp hx
    obtain ⟨k0, k1'⟩ := h3 k (List.mem_of_getElem? hk)
    have hk2 : k.toNat < os.length := by omega
    obtain ⟨v, m1, la, m2, m3⟩ := prd_get e2 (List.getElem?_eq_getElem hk2)
    subst m2
    have lal : la ≠ l := (ne_none hl m3).symm
    have tk : ns.take (i + 1) = ns.take i ++ [k] := by rw [List.take_succ, hk]; rfl
    have eb : bk os (ns.take (i + 1)) = bk os (ns.take i) ++ os[k.toNat] := by
      unfold bk
      rw [tk, List.flatMap_append, List.flatMap_singleton, List.getElem?_eq_getElem hk2]; rfl
    have len2 := bk_len os (h4.sublist (List.take_sublist (i + 1) ns)) fun k hk => h3 k (List.mem_of_mem_take hk)
    rw [eb, List.length_append] at len2
    walk_at "st"
    refine ⟨tyV_lst kl, ?_⟩
    walk_at "st"
    refine r_ixL (SqL.of (G.lst e1 (by simp [ol']))) (at_nat k0 m1) ?_
    walk_at "st"
    refine r_extend kl (G.lst m3 (by simp [lal])) (by rw [List.length_map, List.length_map, sizeLine_eq]; omega) ?_
    walk_at "st"
    refine ⟨_, rfl, G.mut (by simp) kl trivial, ?_⟩
    rw [upd_same, eb, List.map_append]
  · subst es
    rw [List.length_map, List.take_length] at kl
    walk_at "st"
    refine ⟨l, bk os ns, rfl, SqL.of kl, by omega, fun sp c hsp hc => ?_⟩
    have G2 : ∀ o, Gx TB [l] H (upd A sp o) := fun o => G.new hsp
    walk_at "st"
    refine ⟨sp, _, c, rfl, upd_same, by omega, fun back p hs hm hn hp => ?_⟩
    refine q p _ back (((G2 _).drop (Off.none hl)).new hp) upd_same hs fun x => ?_
    rw [hm x, decide_eq_true_eq]
    unfold bk
    rw [List.mem_flatMap]
    constructor
    · rintro ⟨k, hk, hx⟩
      obtain ⟨k0, k1'⟩ := h3 k hk
      rw [List.getElem?_eq_getElem (by omega)] at hx
      exact ⟨k, hk, _, List.getElem?_eq_getElem (by omega), hx⟩
    · rintro ⟨k, hk, o, ho, hx⟩
      exact ⟨k, hk, by rw [ho]; exact hx⟩
end TW
end

section
set_option Elab.async false
set_option linter.all false
set_option maxRecDepth 100000
set_option maxHeartbeats 1000000
set_option exponentiation.threshold 600
namespace TW
open PySem PySem.Spec PyProof.Rows L2 LamX NdefX StX
variable {P : Program} {w : World} {K : PySem.W.Frag} {mg : Str → Option Value} {base : Heap} {CN CR : Addr} {TB : Tbs}
local macro_rules | `(tactic| walk_at "s1") => `(tactic| first
  | with_reducible refine r_seq ?_
  | with_reducible refine r_set ?_
  | with_reducible refine r_var (by with_unfolding_all rfl) ?_
  | with_reducible refine r_c ?_
  | with_reducible refine r_op ?_
  | with_reducible refine r_cons ?_
  | with_reducible refine r_nil ?_
  | with_reducible refine r_I0 ?_
  | with_reducible refine r_test ?_
  | with_reducible refine r_blk ?_
  | with_reducible refine r_ifT ?_
  | with_reducible refine r_ifF ?_
  | with_reducible refine r_ifNT ?_
  | with_reducible refine r_ifNF ?_
  | with_reducible refine r_aug (by with_unfolding_all rfl) ?_
  | with_reducible refine r_ipI ?_
  | with_reducible refine r_ifs0 ?_
  | with_reducible refine r_ifs1 ?_
  | with_reducible refine r_ifsN ?_
  | with_reducible refine r_ifsS ?_
  | with_reducible refine r_if ?_
  | with_reducible refine r_fld ?_
  | with_reducible refine r_fldC (by assumption) (by assumption) (by assumption) (by first | exact lkN_size | exact lkN_edges | exact lkR_size | exact lkR_terminals | exact lkR_edges | exact lkR_origins | exact lkR_next) ?_
  | with_reducible refine r_eqI ?_
  | with_reducible refine r_neI ?_
  | with_reducible refine r_eqS ?_
  | with_reducible refine r_cl ?_
  | with_reducible refine r_cb ?_
  | with_reducible refine r_mt ?_
  | with_reducible refine r_mtAt (by assumption) (by first | exact lkN_msize | exact lkN_medges | exact lkR_around | exact lkR_other_end | exact lkR_ends_around | exact lkR_is_inner | exact lkR_is_leaf | exact lkR_is_series | exact lkR_is_longer | exact lkR_holds | exact lkR_drop | exact lkR_join | exact lkR_apply | exact lkR_paths_from | exact lkR_walk_for | exact lkR_rows_by_vertices | exact lkR_rows_by_edges) ?_
  | with_reducible refine r_dget ?_
  | with_reducible refine r_ret ?_
  | with_reducible refine r_nx ?_
  | with_reducible refine r_yes ?_
  | with_reducible refine r_drop ?_
  | with_reducible refine r_asg ?_
  | with_reducible refine r_gN ?_
  | with_reducible refine r_gT3 (by assumption) (by with_unfolding_all rfl) ?_
  | with_reducible refine r_gT2 (by assumption) (by with_unfolding_all rfl) ?_
  | with_reducible refine r_or ?_
  | with_reducible refine r_and ?_
  | with_reducible refine r_not ?_
  | with_reducible refine r_andV ?_
  | with_reducible refine r_orV ?_
  | with_reducible refine r_notV ?_
  | with_reducible refine r_chain ?_
  | with_reducible refine r_ifE ?_
  | with_reducible refine r_B ?_
  | with_reducible refine r_tup ?_
  | with_reducible refine r_lst ?_
  | with_reducible refine r_sl ?_
  | with_reducible refine r_noP ?_
  | with_reducible refine r_part ?_
  | with_reducible refine r_intC ?_
  | with_reducible refine r_din ?_
  | with_reducible refine r_dni ?_
  | with_reducible refine r_iL ?_
  | with_reducible refine r_iT ?_
  | with_reducible refine r_iR1 ?_
  | with_reducible refine r_iR2 ?_
  | with_reducible refine r_un ?_
  | with_reducible refine r_U ?_
  | with_reducible refine r_sFld ?_
  | with_reducible refine r_sFldAug ?_
  | with_reducible refine r_dput ?_
  | with_reducible refine r_ddel ?_
  | with_reducible refine r_bm ?_
  | with_reducible refine r_for ?_
  | with_reducible refine r_lc ?_
  | with_reducible refine r_dc ?_
  | with_reducible refine r_subset ?_
  | with_reducible refine r_intI ?_
  | with_reducible refine r_intB ?_
  | with_reducible refine r_absI ?_
  | with_reducible refine r_min2I ?_
  | with_reducible refine r_mk ?_
  | with_reducible refine r_star ?_
  | with_reducible refine r_starAt (by assumption) ?_
  | with_reducible refine r_pop1 ?_
  | with_reducible refine r_popAt (by assumption) ?_
  | with_reducible refine r_get1 ?_
  | with_reducible refine r_minK ?_
  | with_reducible refine r_lstRg ?_
  | with_reducible refine r_rg1 ?_
  | with_reducible refine r_eqN ?_
  | with_reducible refine r_lenI (by assumption) ?_
  | with_reducible refine r_lenH (by assumption) ?_
  | with_reducible refine r_ix0 (by assumption) ?_
  | with_reducible refine r_ix1 (by assumption) ?_
  | with_reducible refine r_ix2 (by assumption) ?_
  | with_reducible refine r_I (by first | decide | (unfold CPow; omega) | (unfold CDiv; omega) | (unfold CMul; omega) | omega) ?_
  | with_reducible refine r_iR1At (by omega) ?_
  | with_reducible refine r_ifP (by first | omega | exact rfl) ?_
  | with_reducible refine r_ifQ (by first | omega | with_unfolding_all decide) ?_
  | with_reducible refine r_ifNP (by omega) ?_
  | with_reducible refine r_ifNQ (by omega) ?_)
local macro_rules | `(tactic| walk_at "st") => `(tactic| repeat walk_at "s1")

theorem sc_law_numbers : FnScope ["_law_script", "_law_many", "_law_cell", "_law_rest", "_law_mixed", "_law_numbers_here", "_law_k", "_law_at"] ["_law_script", "_law_many"] (defScope s_law_numbers) := ⟨rfl, rfl, rfl, by decide +kernel, rfl, by decide +kernel, by decide +kernel⟩
theorem ok_c__law_numbers {f : Addr} {fd : FuncData} (T : Tx K mg CN CR) (F : FnP K "_law_numbers" "_law_numbers" s_law_numbers f fd)
   : FnOk P w K mg base CX0 1 f fd ["_law_script", "_law_many"] (spc__law_numbers TB CN CR K) := by
  refine F.ok (k := 0) sc_law_numbers (fun vs H Q E h => by obtain ⟨a, xs, rfl, _⟩ := h; rfl) (fun cdv A outer s H vs Q E hr h => ?_)
  have hu := hu_of hr
  have z1 := T.clN
  have z2 := T.clR
  have z3 := T.a_size
  have z4 := T.a_edges
  have z5 := T.r_size
  have z6 := T.r_terminals
  have z7 := T.r_edges
  have z8 := T.r_origins
  have z9 := T.r_next
  obtain ⟨a, xs, rfl, h⟩ := h
  refine ⟨_, PSs.nox (pss_cons (ps_set (i := 3) sc_law_numbers.nd rfl (Or.inl rfl) (pe_op op_cat (pe_lc (own := [("_law_cell", 2)]) (by rfl) sc_law_numbers.nd (iL (K := K) (pe_slice (slL (K := K)) (pv 0) po_none (po_some pe_int))) (blkOk_by (own := [("_law_cell", 2)]) (N := ["_law_script", "_law_many", "_law_cell", "_law_rest", "_law_mixed", "_law_numbers_here", "_law_k", "_law_at"]) (sc := defScope s_law_numbers) (by decide +kernel)) (fun _ _ _ _ _ => pg_name (i := 2) sc_law_numbers.nd rfl (Or.inl rfl)) (fun _ _ _ _ _ => pts_nil) (fun _ _ _ _ _ => (pe_callB absQ (by rfl) T.n_abs (by decide +kernel) (pa_cons (pv 2) pa_nil)))) (pe_lst (pa_cons pe_int pa_nil))))
    (pss_cons (ps_if (pt_cmpR op_gt (pe_callB (lenQ (K := K)) (by rfl) T.n_len (by decide +kernel) (pa_cons (pv 0) pa_nil)) pe_int (nomark _)) (pss_one (ps_set (i := 3) sc_law_numbers.nd rfl (Or.inl rfl) (pe_slice (slL (K := K)) (pv 3) po_none (po_some (pe_un un_neg pe_int))))) pss_nil)
    (pss_cons (ps_setLc (i := 4) (own := [("_law_cell", 2)]) rfl sc_law_numbers.nd rfl rfl (sw_true rfl rfl rfl (by decide +kernel))   (iL (K := K) (pv 3)) (blkOk_by (own := [("_law_cell", 2)]) (N := ["_law_script", "_law_many", "_law_cell", "_law_rest", "_law_mixed", "_law_numbers_here", "_law_k", "_law_at"]) (sc := defScope s_law_numbers) (by decide +kernel)) (fun _ _ _ _ _ => pg_name (i := 2) sc_law_numbers.nd rfl (Or.inl rfl)) (fun _ _ _ _ _ => pts_nil) (fun _ _ _ _ _ => (pe_op op_mod (pe_callTy intQ (by rfl) T.n_int (by decide +kernel) (pa_cons (pe_op op_add (pe_op op_mul (pv 2) pe_int) pe_int) pa_nil)) pe_int)))
    (pss_cons (ps_set (i := 5) sc_law_numbers.nd rfl (Or.inl rfl) (pe_lst pa_nil))
    (pss_cons (ps_for PassesOwn.never rfl (pi_range1 (by rfl) T.n_range (pa_cons (pv 1) pa_nil)) (pg_name (i := 6) sc_law_numbers.nd rfl (Or.inl rfl))
      (pss_cons (ps_set (i := 7) sc_law_numbers.nd rfl (Or.inl rfl) (pe_op op_mod (pe_callTy intQ (by rfl) T.n_int (by decide +kernel) (pa_cons (pv 6) pa_nil)) (pe_callB (lenQ (K := K)) (by rfl) T.n_len (by decide +kernel) (pa_cons (pv 3) pa_nil))))
    (pss_one (ps_if (pt_cmpR op_ge (pe_ix (ixL (K := K)) (pv 3) (pv 7) (fun _ _ => rfl)) (pe_op op_pow pe_int pe_int) (nomark _)) (pss_cons (ps_expr (bm (K := K) (pe_bm PySem.F.plainAttrs_list PySem.F.slot_list_append PySem.F.type_list_append mt_append (pv 5) (pa_cons (pe_op op_mod (pe_callTy intQ (by rfl) T.n_int (by decide +kernel) (pa_cons (pe_ix (ixL (K := K)) (pv 3) (pv 7) (fun _ _ => rfl)) pa_nil)) pe_int) pa_nil))))
    (pss_one (ps_asg (pe_op op_fdiv (pe_ix (ixL (K := K)) (pv 3) (pv 7) (fun _ _ => rfl)) pe_int) (pg_sub (pv 3) (pv 7) set_list)))) (pss_cons (ps_asg (pe_op op_mod (pe_callTy intQ (by rfl) T.n_int (by decide +kernel) (pa_cons (pe_op op_add (pe_op op_add (pe_op op_mul (pe_ix (ixL (K := K)) (pv 4) (pv 7) (fun _ _ => rfl)) pe_int) pe_int) (pe_op op_mul pe_int (pv 6))) pa_nil)) pe_int) (pg_sub (pv 4) (pv 7) set_list))
    (pss_one (ps_expr (bm (K := K) (pe_bm PySem.F.plainAttrs_list PySem.F.slot_list_append PySem.F.type_list_append mt_append (pv 5) (pa_cons (pe_op op_mod (pe_callTy intQ (by rfl) T.n_int (by decide +kernel) (pa_cons (pe_op op_add (pe_ix (ixL (K := K)) (pv 3) (pv 7) (fun _ _ => rfl)) (pe_op op_fdiv (pe_ix (ixL (K := K)) (pv 4) (pv 7) (fun _ _ => rfl)) pe_int)) pa_nil)) pe_int) pa_nil))))))))))
    (pss_one (ps_ret (pv 5)))))))), ?_⟩
  obtain ⟨h1, q⟩ := h
  walk_at "st"
  refine r_slL (T := TB) h1 fun l H1 hl G1 k1 => ?_
  rw [cut_to _ 63 (by rfl), ← List.map_take] at k1
  have l63 : (xs.take 63).length ≤ 63 := by rw [List.length_take]; omega
  have l63' : xs.length ≠ 0 → (xs.take 63).length ≠ 0 := by rw [List.length_take]; omega
  refine r_iLH k1 fun D0 hD0 => lc_listR (T := TB) (R := RI) (F := RI) mI mI (fun x => some (if x < 0 then -x else x)) hD0 k1 (ints_prd _) (by rw [sizeLine_eq]; omega) (fun k x H2 N KY hk hx G2 _ hne hy hn => ?_) fun H2 G2 r2 => ?_
  · subst hx
    walk_at "st"
    refine ⟨rfl, ?_⟩
    walk_at "st"
    exact hy _ _ _ rfl Gx.refl rfl
  have k2 := r2.ints
  have ll2 : ((xs.take 63).filterMap fun x => some (if x < 0 then -x else x)).length = (xs.take 63).length := by rw [show (fun x : Int => some (if x < 0 then -x else x)) = fun x => some ((fun x : Int => if x < 0 then -x else x) x) from rfl, List.filterMap_eq_map', List.length_map]
  generalize (xs.take 63).filterMap (fun x => some (if x < 0 then -x else x)) = ab at *
  walk_at "st"
  refine ⟨by simp [sizeLine_eq], fun zl hzl => ?_⟩
  have G3 : Gx TB [] H2 (upd H2 zl (.lst [.int 0])) := Gx.refl.new hzl
  have k3 : (upd H2 zl (.lst [.int 0])) zl = some (.lst [.int 0]) := upd_same
  generalize upd H2 zl (.lst [.int 0]) = H3 at *
  walk_at "st"
  refine r_catT (T := TB) (G3.lst k2) k3 (by rw [List.length_map, sizeLine_eq]; simp; omega) fun ra H4 hra G4 k4 => ?_
  have kr0 : H4 ra = some (.lst ((ab ++ [0]).map V.int)) := by rw [k4, List.map_append]; rfl
  have G0 := ((G1.trans G2).trans G3).trans G4
  have ora : Off H ra := ((G1.trans G2).trans G3).off (Off.none hra)
  have h1' := SqL.gx h1 G0
  walk_at "st"
  refine r_len h1' ?_
  rw [List.length_map]
  walk_at "st"
  refine ifD (fun hx => ?_) fun hx => ?_
  · walk_at "st"
    refine r_slL (T := TB) (SqL.of kr0) fun ra2 H4b hra2 G4b kr => ?_
    rw [cut_last, List.length_map, List.length_append, List.length_singleton, Nat.add_sub_cancel, ← List.map_take, List.take_left] at kr
    have ora2 : Off H ra2 := G0.off (Off.none hra2)
    have G0 := G0.trans G4b
    clear kr0
    have kr0 := kr
    have len0 : 1 ≤ ab.length := by omega
    have len1 : ab.length ≤ 64 := by omega
    generalize ab = r0 at *
    walk_at "st"
    refine r_iLH kr0 fun D hD => lc_listR (T := TB) (R := RI) (F := RI) mI mI (fun x => some ((x * 48271 + 11) % 2147483647)) hD kr0 (ints_prd _) (by rw [sizeLine_eq]; omega) (fun k x H5 N KY hk hx G5 _ hne hy hn => ?_) fun H5 G5 r5 => ?_
    · subst hx
      walk_at "st"
      refine ⟨rfl, ?_⟩
      walk_at "st"
      exact hy _ _ _ rfl Gx.refl rfl
    have k5 := r5.ints
    have ml0 : (r0.filterMap fun x => some ((x * 48271 + 11) % 2147483647)).length = r0.length := by rw [show (fun x : Int => some ((x * 48271 + 11) % 2147483647)) = fun x => some ((fun x : Int => (x * 48271 + 11) % 2147483647) x) from rfl, List.filterMap_eq_map', List.length_map]
    generalize r0.filterMap (fun x => some ((x * 48271 + 11) % 2147483647)) = m0 at *
    have rD : ra2 ≠ D := (ne_none hD kr0).symm
    have kr5 := G5.lst kr0
    have oD : Off H D := G0.off (Off.none hD)
    have G05 := G0.trans G5
    walk_at "st"
    refine ⟨by decide, fun nl hnl => ?_⟩
    have nr : nl ≠ ra2 := ne_none hnl kr5
    have nD : nl ≠ D := ne_none hnl k5
    have on : Off H nl := G05.off (Off.none hnl)
    have G6 : Gx TB [ra2, D, nl] H (upd H5 nl (.lst [])) := (G05.new hnl).mono (by simp)
    have kn : (upd H5 nl (.lst [])) nl = some (.lst (([] : List Int).map V.int)) := upd_same
    have kr6 : (upd H5 nl (.lst [])) ra2 = _ := (upd_ne nr.symm).trans kr5
    have km6 : (upd H5 nl (.lst [])) D = _ := (upd_ne nD.symm).trans k5
    generalize upd H5 nl (.lst []) = H6 at *
    walk_at "st"
    refine for_range (fun i σ A => ∃ r m out o2 o6 o7, σ = [some (.ref a), some (.int 60), o2, some (.ref ra2), some (.ref D), some (.ref nl), o6, o7] ∧ Gx TB [ra2, D, nl] H A ∧ A ra2 = some (.lst (r.map V.int)) ∧ A D = some (.lst (m.map V.int)) ∧ A nl = some (.lst (out.map V.int)) ∧ r.length = r0.length ∧ m.length = r0.length ∧ out.length = i ∧ ∀ x ∈ out, 0 ≤ x ∧ x < 65536)
      ⟨r0, m0, [], _, _, _, rfl, G6, kr6, km6, kn, rfl, ml0, rfl, by simp⟩ (fun i σ A hi ⟨r, m, out, o2, o6, o7, es, GA, fr, fm, fo, lr, lm, lo, rng⟩ => ?_) fun σ A ⟨r, m, out, o2, o6, o7, es, GA, fr, fm, fo, lr, lm, lo, rng⟩ => ?_
    · subst es
      have hat0 : 0 ≤ (0 + (i : Int)) % (r.length : Int) := Int.emod_nonneg _ (by omega)
      have hat1 : (0 + (i : Int)) % (r.length : Int) < r.length := Int.emod_lt_of_pos _ (by omega)
      walk_at "st"
      generalize (0 + (i : Int)) % (r.length : Int) = at_ at *
      have er : atI (r.map V.int) at_ = some (.int (r[at_.toNat]'(by omega))) := at_ints hat0 (List.getElem?_eq_getElem (by omega))
      have em : atI (m.map V.int) at_ = some (.int (m[at_.toNat]'(by omega))) := at_ints hat0 (List.getElem?_eq_getElem (by omega))
      generalize r[at_.toNat]'(by omega) = rv at *
      generalize m[at_.toNat]'(by omega) = mv at *
      have ixr : ixN (r.map V.int).length at_ = some at_.toNat := by
        unfold ixN
        rw [if_pos hat0, if_pos (by rw [List.length_map]; exact hat1)]
      have ixm : ixN (m.map V.int).length at_ = some at_.toNat := by
        unfold ixN
        rw [if_pos hat0, if_pos (by rw [List.length_map]; omega)]
      refine r_ixL (SqL.of fr) er ?_
      walk_at "st"
      refine ifD (fun hb => ?_) fun hb => ?_
      · walk_at "st"
        refine ⟨tyV_lst fo, ?_⟩
        walk_at "st"
        refine r_ixL (SqL.of fr) er ?_
        walk_at "st"
        refine r_append fo (by rw [List.length_map, sizeLine_eq]; omega) ?_
        have G7 : Gx TB [ra2, D, nl] H (upd A nl (.lst (out.map V.int ++ [.int (rv % 65536)]))) := GA.mut (by simp) fo trivial
        have f1 : (upd A nl (.lst (out.map V.int ++ [.int (rv % 65536)]))) nl = some (.lst ((out ++ [rv % 65536]).map V.int)) := by rw [upd_same, List.map_append]; rfl
        have f2 : (upd A nl (.lst (out.map V.int ++ [.int (rv % 65536)]))) ra2 = _ := (upd_ne nr.symm).trans fr
        have f3 : (upd A nl (.lst (out.map V.int ++ [.int (rv % 65536)]))) D = _ := (upd_ne nD.symm).trans fm
        generalize upd A nl (.lst (out.map V.int ++ [.int (rv % 65536)])) = A2 at *
        walk_at "st"
        refine r_ixL (SqL.of f2) er ?_
        walk_at "st"
        refine r_setL f2 ixr ?_
        walk_at "st"
        refine ⟨r.set at_.toNat (rv / 65536), m, out ++ [rv % 65536], _, _, _, rfl, G7.mut (by simp) f2 trivial, by rw [upd_same, List.map_set], (upd_ne rD.symm).trans f3, (upd_ne nr).trans f1, by simp [lr], lm, by simp [lo], fun x hx => ?_⟩
        rcases List.mem_append.mp hx with z | z
        · exact rng x z
        · rw [List.mem_singleton.mp z]; omega
      · walk_at "st"
        refine r_ixL (SqL.of fm) em ?_
        walk_at "st"
        refine r_setL fm ixm ?_
        have G7 : ∀ y, Gx TB [ra2, D, nl] H (upd A D (.lst ((m.map V.int).set at_.toNat (.int y)))) := fun y => GA.mut (by simp) fm trivial
        generalize hy : (mv * 16807 + 12345 + 7919 * (0 + (i : Int))) % 2147483647 = y at *
        replace G7 := G7 y
        have f3 : (upd A D (.lst ((m.map V.int).set at_.toNat (.int y)))) D = some (.lst ((m.set at_.toNat y).map V.int)) := by rw [upd_same, List.map_set]
        have f2 : (upd A D (.lst ((m.map V.int).set at_.toNat (.int y)))) ra2 = _ := (upd_ne rD).trans fr
        have f1 : (upd A D (.lst ((m.map V.int).set at_.toNat (.int y)))) nl = _ := (upd_ne nD).trans fo
        generalize upd A D (.lst ((m.map V.int).set at_.toNat (.int y))) = A2 at *
        have em2 : atI ((m.set at_.toNat y).map V.int) at_ = some (.int y) := at_ints hat0 (by rw [List.getElem?_set, if_pos rfl, if_pos (by omega)])
        walk_at "st"
        refine ⟨tyV_lst f1, ?_⟩
        walk_at "st"
        refine r_ixL (SqL.of f2) er ?_
        walk_at "st"
        refine r_ixL (SqL.of f3) em2 ?_
        walk_at "st"
        refine r_append f1 (by rw [List.length_map, sizeLine_eq]; omega) ?_
        walk_at "st"
        refine ⟨r, m.set at_.toNat y, out ++ [(rv + y / 5) % 65536], _, _, _, rfl, G7.mut (by simp) f1 trivial, (upd_ne nr.symm).trans f2, (upd_ne nD.symm).trans f3, by rw [upd_same, List.map_append]; rfl, lr, by simp [lm], by simp [lo], fun x hx => ?_⟩
        rcases List.mem_append.mp hx with z | z
        · exact rng x z
        · rw [List.mem_singleton.mp z]; omega
    · subst es
      walk_at "st"
      refine q nl A out (GA.dropL fun x hx => ?_) fo (by omega) rng
      simp only [List.mem_cons, List.not_mem_nil, or_false] at hx
      rcases hx with z | z | z <;> rw [z] <;> assumption
  · have len0 : 1 ≤ (ab ++ [0]).length := by simp
    have len1 : (ab ++ [0]).length ≤ 64 := by simp; omega
    generalize ab ++ [0] = r0 at *
    walk_at "st"
    refine r_iLH kr0 fun D hD => lc_listR (T := TB) (R := RI) (F := RI) mI mI (fun x => some ((x * 48271 + 11) % 2147483647)) hD kr0 (ints_prd _) (by rw [sizeLine_eq]; omega) (fun k x H5 N KY hk hx G5 _ hne hy hn => ?_) fun H5 G5 r5 => ?_
    · subst hx
      walk_at "st"
      refine ⟨rfl, ?_⟩
      walk_at "st"
      exact hy _ _ _ rfl Gx.refl rfl
    have k5 := r5.ints
    have ml0 : (r0.filterMap fun x => some ((x * 48271 + 11) % 2147483647)).length = r0.length := by rw [show (fun x : Int => some ((x * 48271 + 11) % 2147483647)) = fun x => some ((fun x : Int => (x * 48271 + 11) % 2147483647) x) from rfl, List.filterMap_eq_map', List.length_map]
    generalize r0.filterMap (fun x => some ((x * 48271 + 11) % 2147483647)) = m0 at *
    have rD : ra ≠ D := (ne_none hD kr0).symm
    have kr5 := G5.lst kr0
    have oD : Off H D := G0.off (Off.none hD)
    have G05 := G0.trans G5
    walk_at "st"
    refine ⟨by decide, fun nl hnl => ?_⟩
    have nr : nl ≠ ra := ne_none hnl kr5
    have nD : nl ≠ D := ne_none hnl k5
    have on : Off H nl := G05.off (Off.none hnl)
    have G6 : Gx TB [ra, D, nl] H (upd H5 nl (.lst [])) := (G05.new hnl).mono (by simp)
    have kn : (upd H5 nl (.lst [])) nl = some (.lst (([] : List Int).map V.int)) := upd_same
    have kr6 : (upd H5 nl (.lst [])) ra = _ := (upd_ne nr.symm).trans kr5
    have km6 : (upd H5 nl (.lst [])) D = _ := (upd_ne nD.symm).trans k5
    generalize upd H5 nl (.lst []) = H6 at *
    walk_at "st"
    refine for_range (fun i σ A => ∃ r m out o2 o6 o7, σ = [some (.ref a), some (.int 60), o2, some (.ref ra), some (.ref D), some (.ref nl), o6, o7] ∧ Gx TB [ra, D, nl] H A ∧ A ra = some (.lst (r.map V.int)) ∧ A D = some (.lst (m.map V.int)) ∧ A nl = some (.lst (out.map V.int)) ∧ r.length = r0.length ∧ m.length = r0.length ∧ out.length = i ∧ ∀ x ∈ out, 0 ≤ x ∧ x < 65536)
      ⟨r0, m0, [], _, _, _, rfl, G6, kr6, km6, kn, rfl, ml0, rfl, by simp⟩ (fun i σ A hi ⟨r, m, out, o2, o6, o7, es, GA, fr, fm, fo, lr, lm, lo, rng⟩ => ?_) fun σ A ⟨r, m, out, o2, o6, o7, es, GA, fr, fm, fo, lr, lm, lo, rng⟩ => ?_
    · subst es
      have hat0 : 0 ≤ (0 + (i : Int)) % (r.length : Int) := Int.emod_nonneg _ (by omega)
      have hat1 : (0 + (i : Int)) % (r.length : Int) < r.length := Int.emod_lt_of_pos _ (by omega)
      walk_at "st"
      generalize (0 + (i : Int)) % (r.length : Int) = at_ at *
      have er : atI (r.map V.int) at_ = some (.int (r[at_.toNat]'(by omega))) := at_ints hat0 (List.getElem?_eq_getElem (by omega))
      have em : atI (m.map V.int) at_ = some (.int (m[at_.toNat]'(by omega))) := at_ints hat0 (List.getElem?_eq_getElem (by omega))
      generalize r[at_.toNat]'(by omega) = rv at *
      generalize m[at_.toNat]'(by omega) = mv at *
      have ixr : ixN (r.map V.int).length at_ = some at_.toNat := by
        unfold ixN
        rw [if_pos hat0, if_pos (by rw [List.length_map]; exact hat1)]
      have ixm : ixN (m.map V.int).length at_ = some at_.toNat := by
        unfold ixN
        rw [if_pos hat0, if_pos (by rw [List.length_map]; omega)]
      refine r_ixL (SqL.of fr) er ?_
      walk_at "st"
      refine ifD (fun hb => ?_) fun hb => ?_
      · walk_at "st"
        refine ⟨tyV_lst fo, ?_⟩
        walk_at "st"
        refine r_ixL (SqL.of fr) er ?_
        walk_at "st"
        refine r_append fo (by rw [List.length_map, sizeLine_eq]; omega) ?_
        have G7 : Gx TB [ra, D, nl] H (upd A nl (.lst (out.map V.int ++ [.int (rv % 65536)]))) := GA.mut (by simp) fo trivial
        have f1 : (upd A nl (.lst (out.map V.int ++ [.int (rv % 65536)]))) nl = some (.lst ((out ++ [rv % 65536]).map V.int)) := by rw [upd_same, List.map_append]; rfl
        have f2 : (upd A nl (.lst (out.map V.int ++ [.int (rv % 65536)]))) ra = _ := (upd_ne nr.symm).trans fr
        have f3 : (upd A nl (.lst (out.map V.int ++ [.int (rv % 65536)]))) D = _ := (upd_ne nD.symm).trans fm
        generalize upd A nl (.lst (out.map V.int ++ [.int (rv % 65536)])) = A2 at *
        walk_at "st"
        refine r_ixL (SqL.of f2) er ?_
        walk_at "st"
        refine r_setL f2 ixr ?_
        walk_at "st"
        refine ⟨r.set at_.toNat (rv / 65536), m, out ++ [rv % 65536], _, _, _, rfl, G7.mut (by simp) f2 trivial, by rw [upd_same, List.map_set], (upd_ne rD.symm).trans f3, (upd_ne nr).trans f1, by simp [lr], lm, by simp [lo], fun x hx => ?_⟩
        rcases List.mem_append.mp hx with z | z
        · exact rng x z
        · rw [List.mem_singleton.mp z]; omega
      · walk_at "st"
        refine r_ixL (SqL.of fm) em ?_
        walk_at "st"
        refine r_setL fm ixm ?_
        have G7 : ∀ y, Gx TB [ra, D, nl] H (upd A D (.lst ((m.map V.int).set at_.toNat (.int y)))) := fun y => GA.mut (by simp) fm trivial
        generalize hy : (mv * 16807 + 12345 + 7919 * (0 + (i : Int))) % 2147483647 = y at *
        replace G7 := G7 y
        have f3 : (upd A D (.lst ((m.map V.int).set at_.toNat (.int y)))) D = some (.lst ((m.set at_.toNat y).map V.int)) := by rw [upd_same, List.map_set]
        have f2 : (upd A D (.lst ((m.map V.int).set at_.toNat (.int y)))) ra = _ := (upd_ne rD).trans fr
        have f1 : (upd A D (.lst ((m.map V.int).set at_.toNat (.int y)))) nl = _ := (upd_ne nD).trans fo
        generalize upd A D (.lst ((m.map V.int).set at_.toNat (.int y))) = A2 at *
        have em2 : atI ((m.set at_.toNat y).map V.int) at_ = some (.int y) := at_ints hat0 (by rw [List.getElem?_set, if_pos rfl, if_pos (by omega)])
        walk_at "st"
        refine ⟨tyV_lst f1, ?_⟩
        walk_at "st"
        refine r_ixL (SqL.of f2) er ?_
        walk_at "st"
        refine r_ixL (SqL.of f3) em2 ?_
        walk_at "st"
        refine r_append f1 (by rw [List.length_map, sizeLine_eq]; omega) ?_
        walk_at "st"
        refine ⟨r, m.set at_.toNat y, out ++ [(rv + y / 5) % 65536], _, _, _, rfl, G7.mut (by simp) f1 trivial, (upd_ne nr.symm).trans f2, (upd_ne nD.symm).trans f3, by rw [upd_same, List.map_append]; rfl, lr, by simp [lm], by simp [lo], fun x hx => ?_⟩
        rcases List.mem_append.mp hx with z | z
        · exact rng x z
        · rw [List.mem_singleton.mp z]; omega
    · subst es
      walk_at "st"
      refine q nl A out (GA.dropL fun x hx => ?_) fo (by omega) rng
      simp only [List.mem_cons, List.not_mem_nil, or_false] at hx
      rcases hx with z | z | z <;> rw [z] <;> assumption

theorem sc_law_edges : FnScope ["_law_numbers_here", "_law_at", "_law_size", "_law_many", "_law_edges_here", "_law_k", "_law_drawn", "_law_other", "_law_u", "_law_v"] ["_law_numbers_here", "_law_at", "_law_size", "_law_many"] (defScope s_law_edges) := ⟨rfl, rfl, rfl, by decide +kernel, rfl, by decide +kernel, by decide +kernel⟩
theorem ok_c__law_edges {f : Addr} {fd : FuncData} (T : Tx K mg CN CR) (F : FnP K "_law_edges" "_law_edges" s_law_edges f fd)
   : FnOk P w K mg base CX0 1 f fd ["_law_numbers_here", "_law_at", "_law_size", "_law_many"] (spc__law_edges TB CN CR) := by
  refine F.ok (k := 0) sc_law_edges (fun vs H Q E h => by obtain ⟨a, ns, n, m, rfl, _⟩ := h; rfl) (fun cdv A outer s H vs Q E hr h => ?_)
  have hu := hu_of hr
  have z1 := T.clN
  have z2 := T.clR
  have z3 := T.a_size
  have z4 := T.a_edges
  have z5 := T.r_size
  have z6 := T.r_terminals
  have z7 := T.r_edges
  have z8 := T.r_origins
  have z9 := T.r_next
  obtain ⟨a, ns, n, m, rfl, h⟩ := h
  refine ⟨_, PSs.nox (pss_cons (ps_set (i := 4) sc_law_edges.nd rfl (Or.inl rfl) (pe_lst pa_nil))
    (pss_cons (ps_for PassesOwn.never rfl (pi_range1 (by rfl) T.n_range (pa_cons (pe_op op_mul (pv 3) (pe_callTy intQ (by rfl) T.n_int (by decide +kernel) (pa_cons (pe_cmpR op_gt (pv 2) pe_int (nomark _)) pa_nil))) pa_nil)) (pg_name (i := 5) sc_law_edges.nd rfl (Or.inl rfl))
      (pss_cons (ps_set (i := 6) sc_law_edges.nd rfl (Or.inl rfl) (pe_callTy intQ (by rfl) T.n_int (by decide +kernel) (pa_cons (pe_ix (ixL (K := K)) (pv 0) (pe_op op_add (pe_op op_add (pv 1) pe_int) (pe_op op_mul pe_int (pv 5))) (fun _ _ => rfl)) pa_nil)))
    (pss_cons (ps_set (i := 7) sc_law_edges.nd rfl (Or.inl rfl) (pe_callTy intQ (by rfl) T.n_int (by decide +kernel) (pa_cons (pe_ix (ixL (K := K)) (pv 0) (pe_op op_add (pe_op op_add (pv 1) pe_int) (pe_op op_mul pe_int (pv 5))) (fun _ _ => rfl)) pa_nil)))
    (pss_cons (ps_set (i := 8) sc_law_edges.nd rfl (Or.inl rfl) (pe_op op_mod (pe_callTy intQ (by rfl) T.n_int (by decide +kernel) (pa_cons (pv 6) pa_nil)) (pv 2)))
    (pss_cons (ps_set (i := 9) sc_law_edges.nd rfl (Or.inl rfl) (pe_op op_mod (pe_callTy intQ (by rfl) T.n_int (by decide +kernel) (pa_cons (pe_op op_add (pe_op op_add (pv 8) pe_int) (pe_op op_mod (pe_op op_fdiv (pv 6) (pv 2)) (pe_op op_sub (pv 2) pe_int))) pa_nil)) (pv 2)))
    (pss_one (ps_expr (bm (K := K) (pe_bm PySem.F.plainAttrs_list PySem.F.slot_list_append PySem.F.type_list_append mt_append (pv 4) (pa_cons (pe_tup (pa_cons (pv 8) (pa_cons (pv 9) (pa_cons (pe_ix (ixL (K := K)) (pe_lst (pa_cons (pe_op op_mod (pe_callTy intQ (by rfl) T.n_int (by decide +kernel) (pa_cons (pv 7) pa_nil)) pe_int) (pa_cons (pe_op op_mod (pe_callTy intQ (by rfl) T.n_int (by decide +kernel) (pa_cons (pv 7) pa_nil)) pe_int) (pa_cons (pe_op op_mod (pe_callTy intQ (by rfl) T.n_int (by decide +kernel) (pa_cons (pv 7) pa_nil)) pe_int) (pa_cons (pe_callB min2Q (by rfl) T.n_min (by decide +kernel) (pa_cons pe_int (pa_cons (pe_op op_mul pe_int (pv 7)) pa_nil))) pa_nil))))) (pe_op op_mod (pe_callTy intQ (by rfl) T.n_int (by decide +kernel) (pa_cons (pe_ix (ixL (K := K)) (pv 0) (pv 1) (fun _ _ => rfl)) pa_nil)) pe_int) (fun _ _ => rfl)) pa_nil)))) pa_nil))))))))))
    (pss_one (ps_ret (pv 4))))), ?_⟩
  obtain ⟨h1, h2, h3, h4, h5, h6, h7, q⟩ := h
  have nat : ∀ j : Int, 0 ≤ j → j < 60 → ∃ x, atI (ns.map V.int) j = some (.int x) ∧ 0 ≤ x ∧ x < 65536 := fun j j0 j1 => by
    have hj : j.toNat < ns.length := by omega
    exact ⟨_, at_ints j0 (List.getElem?_eq_getElem hj), h3 _ (List.getElem_mem hj)⟩
  walk_at "st"
  refine ⟨by decide, fun l hl => ?_⟩
  have G1 : Gx TB [l] H (upd H l (.lst [])) := ((Gx.refl (xs := [])).new hl).mono (by simp)
  have A1 : Acc RE l (upd H l (.lst [])) [] := Acc.start
  generalize upd H l (.lst []) = H1 at *
  have loop : ∀ (c : Int), 0 ≤ c → c ≤ 12 → (n = 1 → c = 0) → ∀ (A : Hp) (D : Ends), Gx TB [l] H A → Acc RE l A [] → (∀ σ B es, Gx TB [l] H B → Acc RE l B es → es.length ≤ 12 → (∀ e ∈ es, GoodE n e) → σ[4]? = some (some (.ref l)) → D.nx σ B) → True := fun _ _ _ _ _ _ _ _ _ => trivial
  walk_at "st"
  generalize hc : m * (if decide (1 < n) = true then 1 else 0) = c
  have c0 : 0 ≤ c ∧ c ≤ 12 ∧ (n = 1 → c = 0) := by
    rw [← hc]
    by_cases z : 1 < n
    · rw [if_pos (decide_eq_true z), Int.mul_one]; omega
    · rw [if_neg (by simpa using z), Int.mul_zero]; omega
  clear hc loop
  refine r_iR1At (by omega) ?_
  refine for_range (fun i σ A => ∃ es o5 o6 o7 o8 o9, σ = [some (.ref a), some (.int 10), some (.int n), some (.int m), some (.ref l), o5, o6, o7, o8, o9] ∧ Gx TB [l] H A ∧ Acc RE l A es ∧ es.length ≤ i ∧ ∀ e ∈ es, GoodE n e) ⟨[], _, _, _, _, _, rfl, G1, A1, by simp, by simp⟩ (fun i σ A hi ⟨es, o5, o6, o7, o8, o9, eσ, GA, AA, le, ge⟩ => ?_) fun σ A ⟨es, o5, o6, o7, o8, o9, eσ, GA, AA, le, ge⟩ => ?_
  · subst eσ
    have n2 : 2 ≤ n := by omega
    have hA := (GA.drop (Off.none hl)).lst h1
    obtain ⟨x1, e1, r1, r1'⟩ := nat (10 + 1 + 2 * (0 + (i : Int))) (by omega) (by omega)
    obtain ⟨x2, e2, r2, r2'⟩ := nat (10 + 2 + 2 * (0 + (i : Int))) (by omega) (by omega)
    obtain ⟨x3, e3, r3, r3'⟩ := nat 10 (by omega) (by omega)
    have hu0 := Int.emod_nonneg x1 (show n ≠ 0 by omega)
    have hu1 := Int.emod_lt_of_pos x1 (show 0 < n by omega)
    have hw0 := Int.emod_nonneg (x1 / n) (show n - 1 ≠ 0 by omega)
    have hw1 := Int.emod_lt_of_pos (x1 / n) (show 0 < n - 1 by omega)
    walk_at "st"
    refine r_ixL (SqL.of hA) e1 ?_
    walk_at "st"
    refine r_ixL (SqL.of hA) e2 ?_
    walk_at "st"
    generalize x1 / n % (n - 1) = w at *
    generalize hu : x1 % n = u at *
    have hv0 := Int.emod_nonneg (u + 1 + w) (show n ≠ 0 by omega)
    have hv1 := Int.emod_lt_of_pos (u + 1 + w) (show 0 < n by omega)
    have huv : u ≠ (u + 1 + w) % n := fun z => by
      by_cases hlt : u + 1 + w < n
      · rw [Int.emod_eq_of_lt (by omega) hlt] at z; omega
      · have e : (u + 1 + w) % n = u + 1 + w - n := by
          rw [← Int.sub_emod_right, Int.emod_eq_of_lt (by omega) (by omega)]
        omega
    generalize (u + 1 + w) % n = v at *
    obtain ⟨vs, b1, b2⟩ := id AA
    refine ⟨tyV_lst b1, ?_⟩
    walk_at "st"
    refine ⟨by simp [sizeLine_eq], fun pl hpl => ?_⟩
    have X1 : Gx TB [] A (upd A pl (.lst [.int (x2 % 2), .int (x2 % 4), .int (x2 % 10), .int (if 17 * x2 < 1048576 then 17 * x2 else 1048576)])) := Gx.refl.new hpl
    have p1 : (upd A pl (.lst [.int (x2 % 2), .int (x2 % 4), .int (x2 % 10), .int (if 17 * x2 < 1048576 then 17 * x2 else 1048576)])) pl = some (.lst (([x2 % 2, x2 % 4, x2 % 10, if 17 * x2 < 1048576 then 17 * x2 else 1048576] : List Int).map V.int)) := upd_same
    generalize upd A pl (.lst [.int (x2 % 2), .int (x2 % 4), .int (x2 % 10), .int (if 17 * x2 < 1048576 then 17 * x2 else 1048576)]) = A2 at *
    have prng : ∀ y ∈ ([x2 % 2, x2 % 4, x2 % 10, if 17 * x2 < 1048576 then 17 * x2 else 1048576] : List Int), 0 ≤ y ∧ y ≤ 1048576 := fun y hy => by
      simp only [List.mem_cons, List.not_mem_nil, or_false] at hy
      rcases hy with z | z | z | z
      · omega
      · omega
      · omega
      · rw [z]; split <;> omega
    have plen : ([x2 % 2, x2 % 4, x2 % 10, if 17 * x2 < 1048576 then 17 * x2 else 1048576] : List Int).length = 4 := rfl
    generalize ([x2 % 2, x2 % 4, x2 % 10, if 17 * x2 < 1048576 then 17 * x2 else 1048576] : List Int) = ps at *
    have hj0 := Int.emod_nonneg x3 (show (4 : Int) ≠ 0 by omega)
    have hj1 := Int.emod_lt_of_pos x3 (show (0 : Int) < 4 by omega)
    have hA2 := X1.lst hA
    walk_at "st"
    refine r_ixL (SqL.of hA2) e3 ?_
    walk_at "st"
    have hj : (x3 % 4).toNat < ps.length := by omega
    refine r_ixL (SqL.of p1) (at_ints hj0 (List.getElem?_eq_getElem hj)) ?_
    obtain ⟨pr0, pr1⟩ := prng _ (List.getElem_mem hj)
    generalize ps[(x3 % 4).toNat] = price at *
    walk_at "st"
    refine ⟨by simp [sizeLine_eq], fun t ht => ?_⟩
    have G3 : Gx TB [l] H (upd A2 t (.tup [.int u, .int v, .int price])) := (GA.call X1).new ht
    have b1' := X1.lst b1
    have X2 : ExtN A (upd A2 t (.tup [.int u, .int v, .int price])) := Gx.extN (X1.new ht)
    have AA2 := AA.grow mE X2
    have kt : (upd A2 t (.tup [.int u, .int v, .int price])) t = _ := upd_same
    have tl : t ≠ l := ne_none ht b1'
    have b3 := X2 _ _ b1 fun _ z => by cases z
    generalize upd A2 t (.tup [.int u, .int v, .int price]) = A3 at *
    walk_at "st"
    refine r_append b3 (by have := prd_len b2; rw [sizeLine_eq]; omega) ?_
    walk_at "st"
    have hnew : RE (minus l A3) (.ref t) (u, v, price) := ⟨t, rfl, by rw [minus_ne tl]; exact kt⟩
    refine ⟨es ++ [(u, v, price)], _, _, _, _, _, rfl, G3.mut (by simp) b3 trivial, AA2.push b3 hnew, by simp; omega, fun e he => ?_⟩
    rcases List.mem_append.mp he with z | z
    · exact ge e z
    · rw [List.mem_singleton.mp z]; exact ⟨hu0, hu1, hv0, hv1, huv, pr0, pr1⟩
  · subst eσ
    walk_at "st"
    exact q l A es (GA.drop (Off.none hl)) (AA.out mE) (by omega) ge

theorem sc_law_reach : FnScope ["_law_edges_here", "_law_chosen", "_law_start", "_law_arcs", "_law_found", "_law_turn", "_law_k", "_law_u", "_law_v", "_law_price"] ["_law_edges_here", "_law_chosen", "_law_start", "_law_arcs"] (defScope s_law_reach) := ⟨rfl, rfl, rfl, by decide +kernel, rfl, by decide +kernel, by decide +kernel⟩
def bothB (es : List TW.Ed) (fd : List Int) (k : Int) : Bool := match es[k.toNat]? with
  | some e => decide (e.1 ∈ fd) && decide (e.2.1 ∈ fd)
  | none => false
def cntB (es : List TW.Ed) (ch fd : List Int) : Nat := (ch.filter (bothB es fd)).length
def ClosedB (es : List TW.Ed) (ch fd : List Int) : Prop := ∀ k ∈ ch, ∀ e, es[k.toNat]? = some e → (e.1 ∈ fd ↔ e.2.1 ∈ fd)
theorem bothB_mono {es : List TW.Ed} {fd fd' : List Int} (h : ∀ x ∈ fd, x ∈ fd') (k : Int) (b : bothB es fd k = true) : bothB es fd' k = true := by
  unfold bothB at b ⊢
  cases he : es[k.toNat]? with
  | none => rw [he] at b; cases b
  | some e =>
    rw [he] at b
    simp only [Bool.and_eq_true, decide_eq_true_eq] at b ⊢
    exact ⟨h _ b.1, h _ b.2⟩
theorem cntB_lt {es : List TW.Ed} {fd fd' : List Int} (h : ∀ x ∈ fd, x ∈ fd') : ∀ {ch : List Int} {k : Int}, k ∈ ch → bothB es fd' k = true → bothB es fd k = false → cntB es ch fd < cntB es ch fd' := by
  have mono : ∀ ch : List Int, cntB es ch fd ≤ cntB es ch fd' := fun ch => by
    induction ch with
    | nil => exact Nat.le_refl _
    | cons c r ih =>
      unfold cntB at ih ⊢
      rw [List.filter_cons, List.filter_cons]
      cases hb : bothB es fd c with
      | true => rw [if_pos rfl, if_pos (bothB_mono h c hb)]; simp only [List.length_cons]; omega
      | false => rw [if_neg (by decide)]; split <;> (try simp only [List.length_cons]) <;> omega
  intro ch
  induction ch with
  | nil => intro k hk; cases hk
  | cons c r ih =>
    intro k hk h1 h2
    have m := mono r
    unfold cntB at ih m ⊢
    rw [List.filter_cons, List.filter_cons]
    rcases List.mem_cons.mp hk with z | z
    · rw [← z, h2, h1, if_neg (by decide), if_pos rfl, List.length_cons]; omega
    · have := ih z h1 h2
      cases hb : bothB es fd c with
      | true => rw [if_pos rfl, if_pos (bothB_mono h c hb)]; simp only [List.length_cons]; omega
      | false => rw [if_neg (by decide)]; split <;> (try simp only [List.length_cons]) <;> omega
theorem closed_reach {es : List TW.Ed} {ch fd : List Int} {start b : Int} (h : ClosedB es ch fd) (hs : start ∈ fd) (c : Conn (orgE es ch) start b) : b ∈ fd := by
  induction c with
  | refl => exact hs
  | step e _ he j ih =>
    obtain ⟨k, hk, q⟩ := List.mem_filterMap.mp he
    have := h k hk e q
    rcases j with ⟨j1, j2⟩ | ⟨j1, j2⟩
    · rw [← j2]; exact this.mp (by rw [j1]; exact ih)
    · rw [← j1]; exact this.mpr (by rw [j2]; exact ih)
theorem ok_c__law_reach {f : Addr} {fd : FuncData} (T : Tx K mg CN CR) (F : FnP K "_law_reach" "_law_reach" s_law_reach f fd)
   : FnOk P w K mg base CX0 1 f fd ["_law_edges_here", "_law_chosen", "_law_start", "_law_arcs"] (spc__law_reach TB CN CR) := by
  refine F.ok (k := 0) sc_law_reach (fun vs H Q E h => by obtain ⟨ea, ca, start, es, ch, rfl, _⟩ := h; rfl) (fun cdv A outer s H vs Q E hr h => ?_)
  have hu := hu_of hr
  have z1 := T.clN
  have z2 := T.clR
  have z3 := T.a_size
  have z4 := T.a_edges
  have z5 := T.r_size
  have z6 := T.r_terminals
  have z7 := T.r_edges
  have z8 := T.r_origins
  have z9 := T.r_next
  obtain ⟨ea, ca, start, es, ch, rfl, h⟩ := h
  refine ⟨_, PSs.nox (pss_cons (ps_set (i := 4) sc_law_reach.nd rfl (Or.inl rfl) (pe_lst (pa_cons (pv 2) pa_nil)))
    (pss_cons (ps_for PassesOwn.never rfl (pi_range1 (by rfl) T.n_range (pa_cons (pe_op op_add (pe_callB (lenQ (K := K)) (by rfl) T.n_len (by decide +kernel) (pa_cons (pv 1) pa_nil)) pe_int) pa_nil)) (pg_name (i := 5) sc_law_reach.nd rfl (Or.inl rfl))
      (pss_one (ps_for PassesOwn.never rfl (iL (K := K) (pv 1)) (pg_name (i := 6) sc_law_reach.nd rfl (Or.inl rfl))
      (pss_cons (ps_asg (pe_ix (ixL (K := K)) (pv 0) (pv 6) (fun _ _ => rfl)) (gT (K := K) (pgs_cons (pg_name (i := 7) sc_law_reach.nd rfl (Or.inl rfl)) (pgs_cons (pg_name (i := 8) sc_law_reach.nd rfl (Or.inl rfl)) (pgs_cons (pg_name (i := 9) sc_law_reach.nd rfl (Or.inl rfl)) pgs_nil)))))
    (pss_cons (ps_if (PW.pt (pw_and (pt_cmpR (inL (K := K)) (pv 7) (pv 4) (by rfl)) (pw_and1 (pt_cmpR (notInL (K := K)) (pv 8) (pv 4) (by rfl))))) (pss_one (ps_expr (bm (K := K) (pe_bm PySem.F.plainAttrs_list PySem.F.slot_list_append PySem.F.type_list_append mt_append (pv 4) (pa_cons (pv 8) pa_nil))))) pss_nil)
    (pss_one (ps_if (PW.pt (pw_and (pt_not (pt_val (pv 3))) (pw_and (pt_cmpR (inL (K := K)) (pv 8) (pv 4) (by rfl)) (pw_and1 (pt_cmpR (notInL (K := K)) (pv 7) (pv 4) (by rfl)))))) (pss_one (ps_expr (bm (K := K) (pe_bm PySem.F.plainAttrs_list PySem.F.slot_list_append PySem.F.type_list_append mt_append (pv 4) (pa_cons (pv 7) pa_nil))))) pss_nil)))))))
    (pss_one (ps_ret (pv 4))))), ?_⟩
  obtain ⟨h1, h2, h3, h4, q⟩ := h
  obtain ⟨us, u1, u2⟩ := h1.lst
  walk_at "st"
  refine ⟨by simp [sizeLine_eq], fun l hl => ?_⟩
  have G1 : Gx TB [l] H (upd H l (.lst [.int start])) := ((Gx.refl (xs := [])).new hl).mono (by simp)
  have k1 : (upd H l (.lst [.int start])) l = some (.lst (([start] : List Int).map V.int)) := upd_same
  generalize upd H l (.lst [.int start]) = H1 at *
  have h2' := (G1.drop (Off.none hl)).lst h2
  walk_at "st"
  refine for_range (fun i σ A => ∃ fd o5 o6 o7 o8 o9, σ = [some (.ref ea), some (.ref ca), some (.int start), some (.bl false), some (.ref l), o5, o6, o7, o8, o9] ∧ Gx TB [l] H A ∧ A l = some (.lst (fd.map V.int)) ∧ start ∈ fd ∧ (ClosedB es ch fd ∨ i ≤ cntB es ch fd) ∧ fd.length ≤ 1 + 80 * i) ⟨[start], _, _, _, _, _, rfl, G1, k1, by simp, .inr (Nat.zero_le _), by simp⟩ (fun i σ A hi ⟨fd0, o5, o6, o7, o8, o9, eσ, GA, kA, sA, cA, lA⟩ => ?_) fun σ A ⟨fd0, o5, o6, o7, o8, o9, eσ, GA, kA, sA, cA, lA⟩ => ?_
  · subst eσ
    have hcA := (GA.drop (Off.none hl)).lst h2
    have cl : ca ≠ l := (ne_none hl h2).symm
    walk_at "st"
    refine r_iLH hcA ?_
    refine for_list (xs := ch.map V.int) (fun j σ B => ∃ fd o6 o7 o8 o9, σ = [some (.ref ea), some (.ref ca), some (.int start), some (.bl false), some (.ref l), some (.int (0 + (i : Int))), o6, o7, o8, o9] ∧ Gx TB [l] H B ∧ B l = some (.lst (fd.map V.int)) ∧ (∀ x ∈ fd0, x ∈ fd) ∧ ((fd = fd0 ∧ ∀ k ∈ ch.take j, ∀ e, es[k.toNat]? = some e → (e.1 ∈ fd0 ↔ e.2.1 ∈ fd0)) ∨ (¬ ClosedB es ch fd0 ∧ cntB es ch fd0 < cntB es ch fd)) ∧ fd.length ≤ 1 + 80 * i + 2 * j)
      ⟨fd0, _, _, _, _, rfl, GA, kA, fun x h => h, .inl ⟨rfl, by simp⟩, by omega⟩ (fun j σ B _ ⟨_, _, _, _, _, _, GB, _⟩ => SqL.of ((GB.drop (Off.none hl)).lst h2)) (fun j x σ B hx ⟨fd, o6, o7, o8, o9, eσ, GB, kB, sB, cB, lB⟩ => ?_) fun σ B ⟨fd, o6, o7, o8, o9, eσ, GB, kB, sB, cB, lB⟩ => ?_
    · subst eσ
      have hj : j < ch.length := by
        have := (List.getElem?_eq_some_iff.mp hx).1
        rwa [List.length_map] at this
      rw [List.getElem?_map] at hx
      obtain ⟨k, hk, rfl⟩ := Option.map_eq_some_iff.mp hx
      have hkm := List.mem_of_getElem? hk
      obtain ⟨k0, k1'⟩ := h3 k hkm
      have hkn : k.toNat < es.length := by omega
      have hee := List.getElem?_eq_getElem hkn
      obtain ⟨v, m1, te, m2, m3⟩ := prd_get u2 hee
      subst m2
      have G0 := GB.drop (Off.none hl)
      have uB := G0.lst u1
      have tB := G0.tup m3
      generalize es[k.toNat] = e at *
      have tk : ch.take (j + 1) = ch.take j ++ [k] := by rw [List.take_succ, hk]; rfl
      -- a vertex more
      have more : ∀ y : Int, y ∉ fd → ((e.1 ∈ fd ∧ y = e.2.1) ∨ (e.2.1 ∈ fd ∧ y = e.1)) → (∀ x ∈ fd0, x ∈ fd ++ [y]) ∧ (¬ ClosedB es ch fd0 ∧ cntB es ch fd0 < cntB es ch (fd ++ [y])) := fun y hy hc => by
        have sub : ∀ x ∈ fd, x ∈ fd ++ [y] := fun x hx => List.mem_append_left _ hx
        have b1 : bothB es (fd ++ [y]) k = true := by
          unfold bothB
          rw [hee]
          rcases hc with ⟨c1, c2⟩ | ⟨c1, c2⟩ <;> simp [c1, c2]
        have b2 : bothB es fd k = false := by
          unfold bothB
          rw [hee]
          rcases hc with ⟨c1, c2⟩ | ⟨c1, c2⟩ <;> (rw [c2] at hy; simp [hy])
        have lt := cntB_lt sub hkm b1 b2
        refine ⟨fun x hx => sub x (sB x hx), ?_⟩
        rcases cB with ⟨c1, c2⟩ | ⟨c1, c2⟩
        · subst c1
          refine ⟨fun z => ?_, lt⟩
          have := z k hkm e hee
          rcases hc with ⟨d1, d2⟩ | ⟨d1, d2⟩
          · exact hy (d2 ▸ this.mp d1)
          · exact hy (d2 ▸ this.mpr d1)
        · exact ⟨c1, by omega⟩
      walk_at "st"
      refine r_ixL (SqL.of uB) (at_nat k0 m1) ?_
      walk_at "st"
      refine r_inI (SqL.of kB) ?_
      walk_at "st"
      by_cases hu : e.1 ∈ fd <;> by_cases hv : e.2.1 ∈ fd
      · walk_at "st"
        refine r_niI (SqL.of kB) ?_
        walk_at "st"
        refine r_inI (SqL.of kB) ?_
        walk_at "st"
        refine r_niI (SqL.of kB) ?_
        walk_at "st"
        refine ⟨fd, _, _, _, _, rfl, GB, kB, sB, ?_, by omega⟩
        refine cB.imp (fun ⟨c1, c2⟩ => ⟨c1, fun k' hk' e' he' => ?_⟩) id
        rw [tk] at hk'
        rcases List.mem_append.mp hk' with z | z
        · exact c2 k' z e' he'
        · rw [List.mem_singleton.mp z, hee] at he'; cases he'; subst c1; exact ⟨fun _ => hv, fun _ => hu⟩
      · walk_at "st"
        refine r_niI (SqL.of kB) ?_
        walk_at "st"
        refine ⟨tyV_lst kB, ?_⟩
        walk_at "st"
        refine r_append kB (by rw [List.length_map, sizeLine_eq]; omega) ?_
        have G2 : Gx TB [l] H (upd B l (.lst (fd.map V.int ++ [.int e.2.1]))) := GB.mut (by simp) kB trivial
        have f1 : (upd B l (.lst (fd.map V.int ++ [.int e.2.1]))) l = some (.lst ((fd ++ [e.2.1]).map V.int)) := by rw [upd_same, List.map_append]; rfl
        generalize upd B l (.lst (fd.map V.int ++ [.int e.2.1])) = B2 at *
        obtain ⟨q1, q2⟩ := more _ hv (.inl ⟨hu, rfl⟩)
        walk_at "st"
        refine r_inI (SqL.of f1) ?_
        walk_at "st"
        refine r_ifP (by simp) ?_
        walk_at "st"
        refine r_niI (SqL.of f1) ?_
        walk_at "st"
        refine r_ifNQ (by simp [hu]) ?_
        walk_at "st"
        exact ⟨fd ++ [e.2.1], _, _, _, _, rfl, G2, f1, q1, .inr q2, by simp; omega⟩
      · walk_at "st"
        refine r_inI (SqL.of kB) ?_
        walk_at "st"
        refine r_niI (SqL.of kB) ?_
        walk_at "st"
        refine ⟨tyV_lst kB, ?_⟩
        walk_at "st"
        refine r_append kB (by rw [List.length_map, sizeLine_eq]; omega) ?_
        obtain ⟨q1, q2⟩ := more _ hu (.inr ⟨hv, rfl⟩)
        walk_at "st"
        exact ⟨fd ++ [e.1], _, _, _, _, rfl, GB.mut (by simp) kB trivial, by rw [upd_same, List.map_append]; rfl, q1, .inr q2, by simp; omega⟩
      · walk_at "st"
        refine r_inI (SqL.of kB) ?_
        walk_at "st"
        refine ⟨fd, _, _, _, _, rfl, GB, kB, sB, ?_, by omega⟩
        refine cB.imp (fun ⟨c1, c2⟩ => ⟨c1, fun k' hk' e' he' => ?_⟩) id
        rw [tk] at hk'
        rcases List.mem_append.mp hk' with z | z
        · exact c2 k' z e' he'
        · rw [List.mem_singleton.mp z, hee] at he'; cases he'; subst c1; exact ⟨fun z => absurd z hu, fun z => absurd z hv⟩
    · subst eσ
      rw [List.length_map] at cB lB
      rw [List.take_length] at cB
      refine ⟨fd, _, _, _, _, _, rfl, GB, kB, sB start sA, ?_, by omega⟩
      rcases cB with ⟨c1, c2⟩ | ⟨c1, c2⟩
      · rw [c1]; exact .inl c2
      · rcases cA with z | z
        · exact absurd z c1
        · exact .inr (by omega)
  · subst eσ
    walk_at "st"
    refine q l A fd0 (GA.drop (Off.none hl)) kA fun b hb => closed_reach (cA.resolve_right fun z => ?_) sA hb
    have : cntB es ch fd0 ≤ ch.length := List.length_filter_le _ _
    omega

theorem sc_law_picked : FnScope ["_law_numbers_here", "_law_at", "_law_size", "_law_many", "_law_vertex", "_law_left", "_law_found", "_law_turn", "_law_k"] ["_law_numbers_here", "_law_at", "_law_size", "_law_many"] (defScope s_law_picked) := ⟨rfl, rfl, rfl, by decide +kernel, rfl, by decide +kernel, by decide +kernel⟩
theorem ok_c__law_picked {f : Addr} {fd : FuncData} (T : Tx K mg CN CR) (F : FnP K "_law_picked" "_law_picked" s_law_picked f fd)
   : FnOk P w K mg base CX0 1 f fd ["_law_numbers_here", "_law_at", "_law_size", "_law_many"] (spc__law_picked TB CN CR) := by
  refine F.ok (k := 0) sc_law_picked (fun vs H Q E h => by obtain ⟨a, ns, n, m, rfl, _⟩ := h; rfl) (fun cdv A outer s H vs Q E hr h => ?_)
  have hu := hu_of hr
  have z1 := T.clN
  have z2 := T.clR
  have z3 := T.a_size
  have z4 := T.a_edges
  have z5 := T.r_size
  have z6 := T.r_terminals
  have z7 := T.r_edges
  have z8 := T.r_origins
  have z9 := T.r_next
  obtain ⟨a, ns, n, m, rfl, h⟩ := h
  refine ⟨_, PSs.nox (pss_cons (ps_setLc (i := 5) (own := [("_law_vertex", 4)]) rfl sc_law_picked.nd rfl rfl (sw_true rfl rfl rfl (by decide +kernel))   (pi_range1 (by rfl) T.n_range (pa_cons (pv 2) pa_nil)) (blkOk_by (own := [("_law_vertex", 4)]) (N := ["_law_numbers_here", "_law_at", "_law_size", "_law_many", "_law_vertex", "_law_left", "_law_found", "_law_turn", "_law_k"]) (sc := defScope s_law_picked) (by decide +kernel)) (fun _ _ _ _ _ => pg_name (i := 4) sc_law_picked.nd rfl (Or.inl rfl)) (fun _ _ _ _ _ => pts_nil) (fun _ _ _ _ _ => (pv 4)))
    (pss_cons (ps_set (i := 6) sc_law_picked.nd rfl (Or.inl rfl) (pe_lst pa_nil))
    (pss_cons (ps_for PassesOwn.never rfl (pi_range1 (by rfl) T.n_range (pa_cons (pv 3) pa_nil)) (pg_name (i := 7) sc_law_picked.nd rfl (Or.inl rfl))
      (pss_cons (ps_set (i := 8) sc_law_picked.nd rfl (Or.inl rfl) (pe_op op_mod (pe_callTy intQ (by rfl) T.n_int (by decide +kernel) (pa_cons (pe_ix (ixL (K := K)) (pv 0) (pe_op op_add (pv 1) (pv 7)) (fun _ _ => rfl)) pa_nil)) (pe_callB (lenQ (K := K)) (by rfl) T.n_len (by decide +kernel) (pa_cons (pv 5) pa_nil))))
    (pss_cons (ps_expr (bm (K := K) (pe_bm PySem.F.plainAttrs_list PySem.F.slot_list_append PySem.F.type_list_append mt_append (pv 6) (pa_cons (pe_ix (ixL (K := K)) (pv 5) (pv 8) (fun _ _ => rfl)) pa_nil))))
    (pss_one (ps_set (i := 5) sc_law_picked.nd rfl (Or.inl rfl) (pe_op op_cat (pe_slice (slL (K := K)) (pv 5) po_none (po_some (pv 8))) (pe_slice (slL (K := K)) (pv 5) (po_some (pe_op op_add (pv 8) pe_int)) po_none)))))))
    (pss_one (ps_ret (pv 6)))))), ?_⟩
  obtain ⟨h1, h2, h3, h4, h5, h6, h7, h8, q⟩ := h
  have nat : ∀ j : Int, 0 ≤ j → j < 60 → ∃ x, atI (ns.map V.int) j = some (.int x) ∧ 0 ≤ x ∧ x < 65536 := fun j j0 j1 => by
    have hj : j.toNat < ns.length := by omega
    exact ⟨_, at_ints j0 (List.getElem?_eq_getElem hj), h3 _ (List.getElem_mem hj)⟩
  walk_at "st"
  refine fun D hD => lc_rangeR (T := TB) (R := RI) mI (fun i => some ((i : Nat) : Int)) hD (by rw [sizeLine_eq]; omega) (fun i H2 N KY hi G2 _ hne hy hn => ?_) fun H2 G2 r2 => ?_
  · walk_at "st"
    refine ⟨rfl, ?_⟩
    walk_at "st"
    exact hy _ _ _ rfl Gx.refl (by rw [Int.zero_add]; rfl)
  have k2 := r2.ints
  rw [show (List.range n.toNat).filterMap (fun i => some ((i : Nat) : Int)) = (List.range n.toNat).map (fun i => ((i : Nat) : Int)) from by rw [← List.filterMap_eq_map]; rfl] at k2
  have lnd : ((List.range n.toNat).map fun i => ((i : Nat) : Int)).Nodup := List.pairwise_map.mpr (List.nodup_range.imp fun h z => h (by omega))
  have lrng : ∀ x ∈ (List.range n.toNat).map fun i => ((i : Nat) : Int), 0 ≤ x ∧ x < n := fun x hx => by
    obtain ⟨i, hi, rfl⟩ := List.mem_map.mp hx
    have := List.mem_range.mp hi
    omega
  have llen : ((List.range n.toNat).map fun i => ((i : Nat) : Int)).length = n.toNat := by simp
  generalize (List.range n.toNat).map (fun i => ((i : Nat) : Int)) = L0 at *
  walk_at "st"
  refine ⟨by decide, fun l hl => ?_⟩
  have lD : l ≠ D := ne_none hl k2
  have ol' : Off H l := G2.off (Off.none hl)
  have G3 : Gx TB [l] H (upd H2 l (.lst [])) := (G2.new hl).mono (by simp)
  have kl : (upd H2 l (.lst [])) l = some (.lst (([] : List Int).map V.int)) := upd_same
  have kD : (upd H2 l (.lst [])) D = _ := (upd_ne lD.symm).trans k2
  generalize upd H2 l (.lst []) = H3 at *
  walk_at "st"
  refine for_range (fun i σ A => ∃ d L F o4 o7 o8, σ = [some (.ref a), some (.int 40), some (.int n), some (.int m), o4, some (.ref d), some (.ref l), o7, o8] ∧ Gx TB [l] H A ∧ A d = some (.lst (L.map V.int)) ∧ d ≠ l ∧ A l = some (.lst (F.map V.int)) ∧ (L ++ F).Nodup ∧ (∀ x ∈ L ++ F, 0 ≤ x ∧ x < n) ∧ L.length + i = n ∧ F.length = i) ⟨D, L0, [], _, _, _, rfl, G3, kD, lD.symm, kl, by simpa using lnd, by simpa using lrng, by omega, rfl⟩ (fun i σ A hi ⟨d, L, F, o4, o7, o8, eσ, GA, kd, dl, kl, nd, rng, ll, lf⟩ => ?_) fun σ A ⟨d, L, F, o4, o7, o8, eσ, GA, kd, dl, kl, nd, rng, ll, lf⟩ => ?_
  · subst eσ
    have oA : ∀ x ∈ [l], Off H x := fun x hx => by rw [List.mem_singleton.mp hx]; exact ol'
    have hA := (GA.dropL oA).lst h1
    obtain ⟨x1, e1, r1, r1'⟩ := nat (40 + (0 + (i : Int))) (by omega) (by omega)
    have hk0 := Int.emod_nonneg x1 (show (L.length : Int) ≠ 0 by omega)
    have hk1 := Int.emod_lt_of_pos x1 (show (0 : Int) < L.length by omega)
    walk_at "st"
    refine r_ixL (SqL.of hA) e1 ?_
    walk_at "st"
    generalize x1 % (L.length : Int) = k at *
    have hk : k.toNat < L.length := by omega
    have ek : atI (L.map V.int) k = some (.int L[k.toNat]) := at_ints hk0 (List.getElem?_eq_getElem hk)
    refine ⟨tyV_lst kl, ?_⟩
    walk_at "st"
    refine r_ixL (SqL.of kd) ek ?_
    walk_at "st"
    refine r_append kl (by rw [List.length_map, sizeLine_eq]; omega) ?_
    have G4 : Gx TB [l] H (upd A l (.lst (F.map V.int ++ [.int L[k.toNat]]))) := GA.mut (by simp) kl trivial
    have f1 : (upd A l (.lst (F.map V.int ++ [.int L[k.toNat]]))) l = some (.lst ((F ++ [L[k.toNat]]).map V.int)) := by rw [upd_same, List.map_append]; rfl
    have f2 : (upd A l (.lst (F.map V.int ++ [.int L[k.toNat]]))) d = _ := (upd_ne dl).trans kd
    generalize upd A l (.lst (F.map V.int ++ [.int L[k.toNat]])) = A2 at *
    walk_at "st"
    refine r_slL (T := TB) (SqL.of f2) fun d1 A3 hd1 X3 g1 => ?_
    rw [cut_to _ k.toNat (by omega), ← List.map_take] at g1
    walk_at "st"
    refine r_slL (T := TB) (SqL.of (X3.lst f2)) fun d2 A4 hd2 X4 g2 => ?_
    rw [cut_from _ (k.toNat + 1) (by omega), ← List.map_drop] at g2
    walk_at "st"
    refine r_catT (T := TB) (X4.lst g1) g2 (by simp [sizeLine_eq]; omega) fun d3 A5 hd3 X5 g3 => ?_
    rw [← List.map_append] at g3
    have X35 := (X3.trans X4).trans X5
    have f1' := X35.lst f1
    walk_at "st"
    have split : L = L.take k.toNat ++ L[k.toNat] :: L.drop (k.toNat + 1) := by rw [← List.drop_eq_getElem_cons hk, List.take_append_drop]
    have perm : ((L.take k.toNat ++ L.drop (k.toNat + 1)) ++ (F ++ [L[k.toNat]])).Perm (L ++ F) := by
      refine List.Perm.trans ?_ (List.Perm.append_right F (List.Perm.of_eq split.symm))
      rw [List.append_assoc, List.append_assoc, List.cons_append]
      refine List.Perm.append_left _ ?_
      rw [← List.append_assoc]
      exact List.perm_append_singleton _ _
    refine ⟨d3, _, _, _, _, _, rfl, G4.call X35, g3, fun z => ?_, f1', perm.symm.nodup nd, fun x hx => rng x (perm.mem_iff.mp hx), ?_, by simp [lf]⟩
    · rw [z] at hd3
      rw [X4.lst (X3.lst f1)] at hd3; cases hd3
    · rw [List.length_append, List.length_take, List.length_drop]; omega
  · subst eσ
    walk_at "st"
    have hfr : ∀ x ∈ F, 0 ≤ x ∧ x < n := fun x hx => rng x (List.mem_append_right _ hx)
    exact q l A F (GA.dropL fun x hx => by rw [List.mem_singleton.mp hx]; exact ol') kl ⟨by omega, by omega, hfr, (List.nodup_append.mp nd).2.1⟩

theorem sc_law_end : FnScope ["_law_left", "_law_number", "_law_vertex", "_law_u", "_law_v", "_law_price"] ["_law_left", "_law_number", "_law_vertex"] (defScope s_law_end) := ⟨rfl, rfl, rfl, by decide +kernel, rfl, by decide +kernel, by decide +kernel⟩
theorem ok_c__law_end {f : Addr} {fd : FuncData} (T : Tx K mg CN CR) (F : FnP K "_law_end" "_law_end" s_law_end f fd)
   : FnOk P w K mg base CX0 1 f fd ["_law_left", "_law_number", "_law_vertex"] (spc__law_end TB CN CR) := by
  refine F.ok (k := 0) sc_law_end (fun vs H Q E h => by obtain ⟨d, k, v, S, x, rfl, _⟩ := h; rfl) (fun cdv A outer s H vs Q E hr h => ?_)
  have hu := hu_of hr
  have z1 := T.clN
  have z2 := T.clR
  have z3 := T.a_size
  have z4 := T.a_edges
  have z5 := T.r_size
  have z6 := T.r_terminals
  have z7 := T.r_edges
  have z8 := T.r_origins
  have z9 := T.r_next
  obtain ⟨d, k, v, S, x, rfl, h⟩ := h
  refine ⟨_, PSs.nox (pss_cons (ps_asg (pe_ix (ixT (K := K)) (pe_dget hu (pv 0) (pv 1) (fun _ _ => rfl)) pe_int (fun _ _ => rfl)) (gT (K := K) (pgs_cons (pg_name (i := 3) sc_law_end.nd rfl (Or.inl rfl)) (pgs_cons (pg_name (i := 4) sc_law_end.nd rfl (Or.inl rfl)) (pgs_cons (pg_name (i := 5) sc_law_end.nd rfl (Or.inl rfl)) pgs_nil)))))
    (pss_one (ps_ret (pe_op op_sub (pe_op op_add (pv 3) (pv 4)) (pv 2))))), ?_⟩
  obtain ⟨h1, h2, q⟩ := h
  obtain ⟨kvs, e1, ⟨_, z⟩ | ⟨t, te, lo, y, v1, v2, v3, v4, v5⟩⟩ := h1.at k
  · rw [h2] at z; cases z
  rw [h2] at v2; cases v2
  walk_at "st"
  refine r_dgetC e1 v1 ?_
  walk_at "st"
  exact q

theorem sc_law_around : FnScope ["_law_left", "_law_vertex", "_law_number"] ["_law_left", "_law_vertex"] (defScope s_law_around) := ⟨rfl, rfl, rfl, by decide +kernel, rfl, by decide +kernel, by decide +kernel⟩
theorem around_eqL {S : List En} (h : (S.map (·.1)).Pairwise (· < ·)) (v : Int) : (S.map (·.1)).filterMap (fun k => match S.lookup k with | some x => if v = x.1.1 ∨ v = x.1.2.1 then some k else none | none => none) = aroundF S v := by
  have key : ∀ L : List En, (∀ s ∈ L, S.lookup s.1 = some s.2) → (L.map (·.1)).filterMap (fun k => match S.lookup k with | some x => if v = x.1.1 ∨ v = x.1.2.1 then some k else none | none => none) = (L.filter (inc v)).map (·.1) := fun L => by
    induction L with
    | nil => exact fun _ => rfl
    | cons s r ih =>
      intro hL
      have ih := ih fun t ht => hL t (by simp [ht])
      have hs := hL s (by simp)
      rw [List.map_cons, List.filterMap_cons, hs, List.filter_cons]
      unfold inc at ih ⊢
      by_cases z : v = s.2.1.1 ∨ v = s.2.1.2.1
      · simp only [if_pos z, decide_eq_true z, if_pos, List.map_cons]; rw [ih]
      · simp only [if_neg z, decide_eq_false z]; rw [ih]; rfl
  exact key S fun s hs => lookup_of h hs
theorem ok_c__law_around {f : Addr} {fd : FuncData} (T : Tx K mg CN CR) (F : FnP K "_law_around" "_law_around" s_law_around f fd)
   : FnOk P w K mg base CX0 1 f fd ["_law_left", "_law_vertex"] (spc__law_around TB CN CR) := by
  refine F.ok (k := 0) sc_law_around (fun vs H Q E h => by obtain ⟨d, v, n, S, nx, rfl, _⟩ := h; rfl) (fun cdv A outer s H vs Q E hr h => ?_)
  have hu := hu_of hr
  have z1 := T.clN
  have z2 := T.clR
  have z3 := T.a_size
  have z4 := T.a_edges
  have z5 := T.r_size
  have z6 := T.r_terminals
  have z7 := T.r_edges
  have z8 := T.r_origins
  have z9 := T.r_next
  obtain ⟨d, v, n, S, nx, rfl, h⟩ := h
  refine ⟨_, PSs.nox (pss_one (ps_ret (pe_lc (own := [("_law_number", 2)]) (by rfl) sc_law_around.nd (iL (K := K) (pe_callB sortedQD (by rfl) T.n_sorted (by decide +kernel) (pa_cons (pv 0) pa_nil))) (blkOk_by (own := [("_law_number", 2)]) (N := ["_law_left", "_law_vertex", "_law_number"]) (sc := defScope s_law_around) (by decide +kernel)) (fun _ _ _ _ _ => pg_name (i := 2) sc_law_around.nd rfl (Or.inl rfl)) (fun _ _ _ _ _ => pts_one (pt_cmpR (inL (K := K)) (pv 1) (pe_slice (slT (K := K)) (pe_ix (ixT (K := K)) (pe_dget hu (pv 0) (pv 2) (fun _ _ => rfl)) pe_int (fun _ _ => rfl)) po_none (po_some pe_int)) (by rfl))) (fun _ _ _ _ _ => (pv 2))))), ?_⟩
  obtain ⟨h1, h2, q⟩ := h
  walk_at "st"
  refine h1.sorted (TB := TB) h2 fun p H1 hp G1 k1 => ?_
  refine r_iLH k1 fun D hD => lc_listR (T := TB) (R := RI) (F := RI) mI mI (fun k => match S.lookup k with | some x => if v = x.1.1 ∨ v = x.1.2.1 then some k else none | none => none) hD k1 (ints_prd _) (by rw [List.length_map, sizeLine_eq]; have := h2.2; omega) (fun k x H2 N KY hk hx G2 _ hne hy hn => ?_) fun H2 G2 r2 => ?_
  · subst hx
    obtain ⟨s, hs, rfl⟩ := List.mem_map.mp hk
    have hlk := lookup_of h2.asc hs
    have h3 := (h1.mono (G1.trans G2).extN)
    obtain ⟨kvs, e1, ⟨_, z⟩ | ⟨t, te, lo, y, v1, v2, v3, v4, v5⟩⟩ := h3.at s.1
    · rw [hlk] at z; cases z
    rw [hlk] at v2; cases v2
    walk_at "st"
    refine ⟨rfl, ?_⟩
    walk_at "st"
    refine r_dgetC e1 v1 ?_
    walk_at "st"
    refine r_slT2 (T := TB) v4 fun p3 H3 hp3 G3 k3 => ?_
    refine r_inT2 k3 ?_
    walk_at "st"
    refine ifD (fun hz => ?_) fun hz => ?_
    · walk_at "st"
      exact hy s.1 _ _ (by rw [hlk]; exact if_pos hz) G3 rfl
    · exact hn _ (by rw [hlk]; exact if_neg hz) G3
  · have r3 := r2.ints
    rw [around_eqL h2.asc] at r3
    exact q _ _ (G1.trans G2) r3

theorem sc_law_walks : FnScope ["_law_left", "_law_terminals", "_law_number", "_law_walk", "_law_here", "_law_goal", "_law_price", "_law_piece", "_law_step"] ["_law_left", "_law_terminals", "_law_number", "_law_walk"] (defScope s_law_walks) := ⟨rfl, rfl, rfl, by decide +kernel, rfl, by decide +kernel, by decide +kernel⟩
theorem ok_c__law_walks {f : Addr} {fd : FuncData} (T : Tx K mg CN CR) (F : FnP K "_law_walks" "_law_walks" s_law_walks f fd)
  (c__law_end : Cal P w K mg base 1 "_law_end" ["_law_left", "_law_number", "_law_vertex"] (spc__law_end TB CN CR)) : FnOk P w K mg base CX0 2 f fd ["_law_left", "_law_terminals", "_law_number", "_law_walk"] (spc__law_walks TB CN CR) := by
  refine F.ok (k := 1) sc_law_walks (fun vs H Q E h => by obtain ⟨d, ta, k, wa, S, ts, w, rfl, _⟩ := h; rfl) (fun cdv A outer s H vs Q E hr h => ?_)
  have hu := hu_of hr
  have z1 := T.clN
  have z2 := T.clR
  have z3 := T.a_size
  have z4 := T.a_edges
  have z5 := T.r_size
  have z6 := T.r_terminals
  have z7 := T.r_edges
  have z8 := T.r_origins
  have z9 := T.r_next
  obtain ⟨d, ta, k, wa, S, ts, w, rfl, h⟩ := h
  refine ⟨_, PSs.nox (pss_cons (ps_if (PW.pt (pw_or (pt_cmp (pc_dnotin hu (pv 2) (pv 0)) (by rfl)) (pw_or1 (pt_cmpR (inL (K := K)) (pv 2) (pv 3) (by rfl))))) (pss_one (ps_ret pe_bl)) pss_nil)
    (pss_cons (ps_asg (pe_ix (ixT (K := K)) (pe_dget hu (pv 0) (pv 2) (fun _ _ => rfl)) pe_int (fun _ _ => rfl)) (gT (K := K) (pgs_cons (pg_name (i := 4) sc_law_walks.nd rfl (Or.inl rfl)) (pgs_cons (pg_name (i := 5) sc_law_walks.nd rfl (Or.inl rfl)) (pgs_cons (pg_name (i := 6) sc_law_walks.nd rfl (Or.inl rfl)) pgs_nil)))))
    (pss_cons (ps_set (i := 7) sc_law_walks.nd rfl (Or.inl rfl) pe_int)
    (pss_cons (ps_for PassesOwn.never rfl (iL (K := K) (pv 3)) (pg_name (i := 8) sc_law_walks.nd rfl (Or.inl rfl))
      (pss_cons (ps_if (PW.pt (pw_or (pt_cmp (pc_dnotin hu (pv 8) (pv 0)) (by rfl)) (pw_or1 (pt_cmpR (notInL (K := K)) (pv 4) (pe_slice (slT (K := K)) (pe_ix (ixT (K := K)) (pe_dget hu (pv 0) (pv 8) (fun _ _ => rfl)) pe_int (fun _ _ => rfl)) po_none (po_some pe_int)) (by rfl))))) (pss_one (ps_ret pe_bl)) pss_nil)
    (pss_cons (ps_set (i := 4) sc_law_walks.nd rfl (Or.inl rfl) (pe_c c__law_end (hr.mono (by decide)) rfl (pa_cons (pv 0) (pa_cons (pv 8) (pa_cons (pv 4) pa_nil)))))
    (pss_cons (ps_set (i := 7) sc_law_walks.nd rfl (Or.inl rfl) (pe_op op_add (pv 7) (pe_ix (ixT (K := K)) (pe_ix (ixT (K := K)) (pe_dget hu (pv 0) (pv 8) (fun _ _ => rfl)) pe_int (fun _ _ => rfl)) pe_int (fun _ _ => rfl))))
    (pss_cons (ps_if (pt_cmpR op_gt (pv 7) (pv 6) (nomark _)) (pss_one (ps_ret pe_bl)) pss_nil)
    (pss_one (ps_if (pt_cmpR (inL (K := K)) (pv 4) (pv 1) (by rfl)) (pss_one (ps_set (i := 7) sc_law_walks.nd rfl (Or.inl rfl) pe_int)) pss_nil)))))))
    (pss_one (ps_ret (pe_cmpR op_eq (pv 4) (pv 5) (nomark _)))))))), ?_⟩
  obtain ⟨h1, i2, h2, q⟩ := h
  obtain ⟨kvs, c1, hat⟩ := h1.at k
  unfold longerB at q
  walk_at "st"
  refine r_dinC c1 ?_
  obtain ⟨e1, e2⟩ | ⟨t, te, lo, ⟨⟨hu0, hv0, pr0⟩, os⟩, e1, e2, e3, e4, e5⟩ := hat
  · rw [e1]
    rw [e2] at q
    walk_at "st"
    exact q _ Gx.refl
  · rw [e1]
    rw [e2] at q
    simp only at q e4
    walk_at "st"
    refine r_inI (SqL.of h2) ?_
    walk_at "st"
    refine ifD (fun hz => ?_) fun hz => ?_
    · rw [decide_eq_true hz] at q
      walk_at "st"
      exact q _ Gx.refl
    · rw [decide_eq_false hz, Bool.not_false, Bool.true_and] at q
      walk_at "st"
      refine r_dgetC c1 e1 ?_
      walk_at "st"
      refine r_iLH h2 ?_
      refine for_list (xs := w.map V.int) (fun i σ H1 => Gx TB [] H H1 ∧ ∃ here piece o7, σ = [some (.ref d), some (.ref ta), some (.int k), some (.ref wa), some (.int here), some (.int hv0), some (.int pr0), some (.int piece), o7] ∧ goB S ts pr0 hv0 w hu0 0 = goB S ts pr0 hv0 (w.drop i) here piece)
        ⟨Gx.refl, hu0, 0, none, rfl, rfl⟩ (fun i σ H1 _ ⟨G1, _⟩ => SqL.of (G1.lst h2)) (fun i x σ H1 hx ⟨G1, here, piece, o7, es, eg⟩ => ?_) fun σ H1 ⟨G1, here, piece, o7, es, eg⟩ => ?_
      · subst es
        rw [List.getElem?_map] at hx
        obtain ⟨s, hs, rfl⟩ := Option.map_eq_some_iff.mp hx
        have hd : w.drop i = s :: w.drop (i + 1) := by
          have hlt := (List.getElem?_eq_some_iff.mp hs).1
          rw [List.drop_eq_getElem_cons hlt, (List.getElem?_eq_some_iff.mp hs).2]
        rw [hd] at eg
        rw [eg] at q ⊢
        have h1' := h1.mono G1.extN
        obtain ⟨kvs, c1, hat⟩ := h1'.at s
        unfold goB at q
        have eg2 : goB S ts pr0 hv0 (s :: w.drop (i + 1)) here piece = match S.lookup s with | none => false | some (f, _) => if here = f.1 ∨ here = f.2.1 then (if pr0 < piece + f.2.2 then false else goB S ts pr0 hv0 (w.drop (i + 1)) (f.1 + f.2.1 - here) (if f.1 + f.2.1 - here ∈ ts then 0 else piece + f.2.2)) else false := rfl
        rw [eg2]
        walk_at "st"
        refine r_dinC c1 ?_
        obtain ⟨e1, e2⟩ | ⟨t2, te2, lo2, ⟨⟨fu, fv, fp⟩, os2⟩, e1, e2, e3, e5, e6⟩ := hat
        · rw [e1]
          rw [e2] at q
          walk_at "st"
          exact q _ G1
        · rw [e1]
          rw [e2] at q ⊢
          simp only at q e5 ⊢
          walk_at "st"
          refine r_dgetC c1 e1 ?_
          walk_at "st"
          refine r_slT2 (T := TB) e5 fun p3 H3 hp3 G3 k3 => ?_
          have G13 := G1.trans G3
          have h3' := h1'.mono G3.extN
          have e5' := G3.tup e5
          have e3' := G3.tup e3
          refine r_niT2 k3 ?_
          have i2' := (G13.lst i2)
          have c1' := G3.dK c1
          walk_at "st"
          refine ifN (fun hh => ?_) fun hh => ?_
          · rw [if_neg hh] at q
            walk_at "st"
            exact q _ G13
          · rw [if_pos hh] at q ⊢
            walk_at "st"
            refine ⟨d, s, here, S, _, rfl, h3', e2, ?_⟩
            walk_at "st"
            refine r_dgetC c1' e1 ?_
            walk_at "st"
            refine ifD (fun hp => ?_) fun hp => ?_
            · rw [if_pos hp] at q
              walk_at "st"
              exact q _ G13
            · rw [if_neg hp] at q ⊢
              walk_at "st"
              refine r_inI (SqL.of i2') ?_
              walk_at "st"
              refine ifD (fun ht => ?_) fun ht => ?_
              · rw [if_pos ht]
                walk_at "st"
                exact ⟨G13, _, _, _, rfl, rfl⟩
              · rw [if_neg ht]
                walk_at "st"
                exact ⟨G13, _, _, _, rfl, rfl⟩
      · subst es
        rw [List.drop_of_length_le (by rw [List.length_map]; omega)] at eg
        rw [eg] at q
        walk_at "st"
        exact q _ G1

theorem sc_law_holds : FnScope ["_law_size", "_law_left", "_law_terminals", "_law_row", "_law_vertex", "_law_ring", "_law_number", "_law_ends"] ["_law_size", "_law_left", "_law_terminals", "_law_row"] (defScope s_law_holds) := ⟨rfl, rfl, rfl, by decide +kernel, rfl, by decide +kernel, by decide +kernel⟩
theorem keys_ring {α : Type} {S : List En} (h : (S.map (·.1)).Pairwise (· < ·)) (v : Int) (g : TW.Ed × List Int → α) : (aroundF S v).filterMap (fun k => (S.lookup k).map g) = (ring S v).map fun s => g s.2 := by
  have key : ∀ L : List En, (∀ s ∈ L, S.lookup s.1 = some s.2) → (L.map (·.1)).filterMap (fun k => (S.lookup k).map g) = L.map fun s => g s.2 := fun L => by
    induction L with
    | nil => exact fun _ => rfl
    | cons s r ih =>
      intro hL
      have ih := ih fun t ht => hL t (by simp [ht])
      have hs := hL s (by simp)
      rw [List.map_cons, List.filterMap_cons, hs, List.map_cons]
      simp only [Option.map_some]
      rw [ih]
  exact key _ fun s hs => lookup_of h (ring_mem.mp hs).1
theorem inner_no {n : Int} {ts : List Int} {v : Int} (h : ¬ (0 ≤ v ∧ v < n ∧ v ∉ ts)) : innerB n ts v = false := by
  unfold innerB
  cases hh : (decide (0 ≤ v) && decide (v < n) && !decide (v ∈ ts)) with
  | false => rfl
  | true => exact absurd (by simpa [and_assoc] using hh) h
theorem inner_yes {n : Int} {ts : List Int} {v : Int} (h : 0 ≤ v ∧ v < n ∧ v ∉ ts) : innerB n ts v = true := by
  unfold innerB; simp [h.1, h.2.1, h.2.2]
theorem ok_c__law_holds {f : Addr} {fd : FuncData} (T : Tx K mg CN CR) (F : FnP K "_law_holds" "_law_holds" s_law_holds f fd)
  (c__law_walks : Cal P w K mg base 2 "_law_walks" ["_law_left", "_law_terminals", "_law_number", "_law_walk"] (spc__law_walks TB CN CR))
  (c__law_around : Cal P w K mg base 1 "_law_around" ["_law_left", "_law_vertex"] (spc__law_around TB CN CR))
  (c__law_end : Cal P w K mg base 1 "_law_end" ["_law_left", "_law_number", "_law_vertex"] (spc__law_end TB CN CR)) : FnOk P w K mg base CX0 3 f fd ["_law_size", "_law_left", "_law_terminals", "_law_row"] (spc__law_holds TB CN CR) := by
  refine F.ok (k := 2) sc_law_holds (fun vs H Q E h => by obtain ⟨n, d, t, ra, S, nx, ts, row, rfl, _⟩ := h; rfl) (fun cdv A outer s H vs Q E hr h => ?_)
  have hu := hu_of hr
  have z1 := T.clN
  have z2 := T.clR
  have z3 := T.a_size
  have z4 := T.a_edges
  have z5 := T.r_size
  have z6 := T.r_terminals
  have z7 := T.r_edges
  have z8 := T.r_origins
  have z9 := T.r_next
  obtain ⟨n, d, t, ra, S, nx, ts, row, rfl, h⟩ := h
  refine ⟨_, PSs.nox (pss_cons (ps_if (pt_cmpR op_eq (pe_ix (ixT (K := K)) (pv 3) pe_int (fun _ _ => rfl)) pe_str (nomark _)) (pss_one (ps_ret (pe_c c__law_walks (hr.mono (by decide)) rfl (pa_cons (pv 1) (pa_cons (pv 2) (pa_cons (pe_ix (ixT (K := K)) (pv 3) pe_int (fun _ _ => rfl)) (pa_cons (pe_ix (ixT (K := K)) (pv 3) pe_int (fun _ _ => rfl)) pa_nil))))))) pss_nil)
    (pss_cons (ps_set (i := 4) sc_law_holds.nd rfl (Or.inr rfl) (pe_ix (ixT (K := K)) (pv 3) pe_int (fun _ _ => rfl)))
    (pss_cons (ps_if (PW.pt (pw_or (pt_not (pt_chain op_le op_lt pe_int (pv 4) (pv 0))) (pw_or1 (pt_cmpR (inL (K := K)) (pv 4) (pv 2) (by rfl))))) (pss_one (ps_ret pe_bl)) pss_nil)
    (pss_cons (ps_set (i := 5) sc_law_holds.nd rfl (Or.inl rfl) (pe_c c__law_around (hr.mono (by decide)) rfl (pa_cons (pv 1) (pa_cons (pv 4) pa_nil))))
    (pss_cons (ps_setLc (i := 7) (own := [("_law_number", 6)]) rfl sc_law_holds.nd rfl rfl (sw_true rfl rfl rfl (by decide +kernel))   (iL (K := K) (pv 5)) (blkOk_by (own := [("_law_number", 6)]) (N := ["_law_size", "_law_left", "_law_terminals", "_law_row", "_law_vertex", "_law_ring", "_law_number", "_law_ends"]) (sc := defScope s_law_holds) (by decide +kernel)) (fun _ _ _ _ _ => pg_name (i := 6) sc_law_holds.nd rfl (Or.inl rfl)) (fun _ _ _ _ _ => pts_nil) (fun _ _ _ _ _ => (pe_c c__law_end (hr.mono (by decide)) rfl (pa_cons (pv 1) (pa_cons (pv 6) (pa_cons (pv 4) pa_nil))))))
    (pss_cons (ps_if (pt_cmpR op_eq (pe_ix (ixT (K := K)) (pv 3) pe_int (fun _ _ => rfl)) pe_str (nomark _)) (pss_one (ps_ret (pe_and (pe_cmpR op_gt (pe_callB (lenQ (K := K)) (by rfl) T.n_len (by decide +kernel) (pa_cons (pv 7) pa_nil)) pe_int (nomark _)) (pe_one (pe_cmpR op_eq (pe_callB (minQ (K := K)) (by rfl) T.n_min (by decide +kernel) (pa_cons (pv 7) pa_nil)) (pe_callB (maxQ (K := K)) (by rfl) T.n_max (by decide +kernel) (pa_cons (pv 7) pa_nil)) (nomark _)))))) pss_nil)
    (pss_one (ps_ret (pe_and (pe_cmpR op_eq (pe_callB (lenQ (K := K)) (by rfl) T.n_len (by decide +kernel) (pa_cons (pv 7) pa_nil)) pe_int (nomark _)) (pe_and (pe_cmpR op_ne (pe_ix (ixL (K := K)) (pv 7) pe_int (fun _ _ => rfl)) (pe_ix (ixL (K := K)) (pv 7) pe_int (fun _ _ => rfl)) (nomark _)) (pe_one (pe_cmpR op_le (pe_callB (sumQ (K := K)) (by rfl) T.n_sum (by decide +kernel) (pa_cons (pe_lc (own := [("_law_number", 6)]) (by rfl) sc_law_holds.nd (iL (K := K) (pv 5)) (blkOk_by (own := [("_law_number", 6)]) (N := ["_law_size", "_law_left", "_law_terminals", "_law_row", "_law_vertex", "_law_ring", "_law_number", "_law_ends"]) (sc := defScope s_law_holds) (by decide +kernel)) (fun _ _ _ _ _ => pg_name (i := 6) sc_law_holds.nd rfl (Or.inl rfl)) (fun _ _ _ _ _ => pts_nil) (fun _ _ _ _ _ => (pe_ix (ixT (K := K)) (pe_ix (ixT (K := K)) (pe_dget hu (pv 1) (pv 6) (fun _ _ => rfl)) pe_int (fun _ _ => rfl)) pe_int (fun _ _ => rfl)))) pa_nil)) pe_int (nomark _))))))))))))), ?_⟩
  obtain ⟨h1, h2, h3, h4, q⟩ := h
  obtain ⟨_, e, h5⟩ := h4
  cases e
  have r40 := h2.2.1
  cases row with
  | longer k w =>
    obtain ⟨wa, h6, h7⟩ := h5
    walk_at "st"
    exact ⟨d, t, k, wa, S, ts, w, rfl, h1, h3, h7, fun H1 G1 => q _ G1⟩
  | leaf v =>
    have h6 : H ra = some (.tup [.str "leaf", .int v]) := h5
    have q : ∀ H', Gx TB [] H H' → Q (.bl (leafB n ts S v)) H' := q
    unfold leafB at q
    walk_at "st"
    by_cases h0 : 0 ≤ v
    case neg =>
      rw [inner_no fun z => h0 z.1] at q
      walk_at "st"
      exact q _ Gx.refl
    by_cases h0' : v < n
    case neg =>
      rw [inner_no fun z => h0' z.2.1] at q
      walk_at "st"
      exact q _ Gx.refl
    walk_at "st"
    refine r_inI (SqL.of h3) ?_
    walk_at "st"
    refine ifD (fun hz => ?_) fun hz => ?_
    · rw [inner_no fun z => z.2.2 hz] at q
      walk_at "st"
      exact q _ Gx.refl
    rw [inner_yes ⟨h0, h0', hz⟩, Bool.true_and] at q
    walk_at "st"
    refine ⟨d, v, n, S, nx, rfl, h1, h2, fun p H1 G1 k1 => ?_⟩
    walk_at "st"
    refine r_iLH k1 fun D hD => lc_listR (T := TB) (R := RI) (F := RI) mI mI (fun k => (S.lookup k).map fun x => x.1.1 + x.1.2.1 - v) hD k1 (ints_prd _) (by unfold aroundF ring; rw [List.length_map, sizeLine_eq]; have := List.length_filter_le (inc v) S; omega) (fun k x H2 N KY hk hx G2 _ hne hy hn => ?_) fun H2 G2 r2 => ?_
    · subst hx
      obtain ⟨s, hs, rfl⟩ := List.mem_map.mp hk
      have hlk := lookup_of h2.asc (ring_mem.mp hs).1
      walk_at "st"
      refine ⟨rfl, ?_⟩
      walk_at "st"
      exact ⟨d, s.1, v, S, _, rfl, h1.mono (G1.trans G2).extN, hlk, hy _ _ _ (by rw [hlk]; rfl) Gx.refl rfl⟩
    have k2 := r2.ints
    rw [keys_ring h2.asc, show (ring S v).map (fun s => s.2.1.1 + s.2.1.2.1 - v) = (ring S v).map (fun s => oth s v) from rfl] at k2
    have G12 := G1.trans G2
    have h6' := G12.tup h6
    generalize (ring S v).map (fun s => oth s v) = ends at *
    walk_at "st"
    cases ends with
    | nil =>
      refine r_ifQ (by simp) ?_
      exact q _ G12
    | cons x rest =>
      refine r_ifP (by simp) ?_
      walk_at "st"
      refine ⟨D, x :: rest, rfl, SqL.of k2, by simp, fun lo m1 m2 => ?_⟩
      walk_at "st"
      refine ⟨D, x :: rest, rfl, SqL.of k2, by simp, fun hi m3 m4 => ?_⟩
      walk_at "st"
      have e : (rest.all fun y => decide (y = x)) = decide (lo = hi) := by
        rw [Bool.eq_iff_iff, List.all_eq_true, decide_eq_true_eq]
        constructor
        · intro h
          have all : ∀ y ∈ x :: rest, y = x := fun y hy => by
            rcases List.mem_cons.mp hy with z | z
            · exact z
            · exact of_decide_eq_true (h y z)
          rw [all lo m1, all hi m3]
        · intro h y hy
          have a1 := m2 y (by simp [hy])
          have a2 := m4 y (by simp [hy])
          have a3 := m2 x (by simp)
          have a4 := m4 x (by simp)
          exact decide_eq_true (by omega)
      simp only [e] at q
      exact q _ G12
  | series v =>
    have h6 : H ra = some (.tup [.str "series", .int v]) := h5
    have q : ∀ H', Gx TB [] H H' → Q (.bl (seriesB n ts S v)) H' := q
    unfold seriesB at q
    walk_at "st"
    by_cases h0 : 0 ≤ v
    case neg =>
      rw [inner_no fun z => h0 z.1] at q
      walk_at "st"
      exact q _ Gx.refl
    by_cases h0' : v < n
    case neg =>
      rw [inner_no fun z => h0' z.2.1] at q
      walk_at "st"
      exact q _ Gx.refl
    walk_at "st"
    refine r_inI (SqL.of h3) ?_
    walk_at "st"
    refine ifD (fun hz => ?_) fun hz => ?_
    · rw [inner_no fun z => z.2.2 hz] at q
      walk_at "st"
      exact q _ Gx.refl
    rw [inner_yes ⟨h0, h0', hz⟩, Bool.true_and] at q
    walk_at "st"
    refine ⟨d, v, n, S, nx, rfl, h1, h2, fun p H1 G1 k1 => ?_⟩
    walk_at "st"
    refine r_iLH k1 fun D hD => lc_listR (T := TB) (R := RI) (F := RI) mI mI (fun k => (S.lookup k).map fun x => x.1.1 + x.1.2.1 - v) hD k1 (ints_prd _) (by unfold aroundF ring; rw [List.length_map, sizeLine_eq]; have := List.length_filter_le (inc v) S; omega) (fun k x H2 N KY hk hx G2 _ hne hy hn => ?_) fun H2 G2 r2 => ?_
    · subst hx
      obtain ⟨s, hs, rfl⟩ := List.mem_map.mp hk
      have hlk := lookup_of h2.asc (ring_mem.mp hs).1
      walk_at "st"
      refine ⟨rfl, ?_⟩
      walk_at "st"
      exact ⟨d, s.1, v, S, _, rfl, h1.mono (G1.trans G2).extN, hlk, hy _ _ _ (by rw [hlk]; rfl) Gx.refl rfl⟩
    have k2 := r2.ints
    rw [keys_ring h2.asc, show (ring S v).map (fun s => s.2.1.1 + s.2.1.2.1 - v) = (ring S v).map (fun s => oth s v) from rfl] at k2
    have G12 := G1.trans G2
    have h6' := G12.tup h6
    walk_at "st"
    match hr : ring S v with
    | [] =>
      rw [hr] at q k2
      refine r_ifQ (by simp) ?_
      exact q _ G12
    | [a] =>
      rw [hr] at q k2
      refine r_ifQ (by simp) ?_
      exact q _ G12
    | a :: b :: c :: dd =>
      rw [hr] at q k2
      refine r_ifQ (by simp; omega) ?_
      exact q _ G12
    | [a, b] =>
      rw [hr] at q k2
      have q : ∀ H', Gx TB [] H H' → Q (.bl (!decide (oth a v = oth b v) && decide (pr a + pr b ≤ 1048576))) H' := q
      refine r_ifP (by simp) ?_
      walk_at "st"
      refine r_ixL (SqL.of k2) (v := .int (oth a v)) (by rfl) ?_
      walk_at "st"
      refine r_ixL (SqL.of k2) (v := .int (oth b v)) (by rfl) ?_
      walk_at "st"
      refine ifN (fun hz => ?_) fun hz => ?_
      · rw [decide_eq_false hz, Bool.not_false, Bool.true_and] at q
        have k1' := G2.lst k1
        walk_at "st"
        refine r_iLH k1' fun D2 hD2 => lc_listR (T := TB) (R := RI) (F := RI) mI mI (fun k => (S.lookup k).map fun x => x.1.2.2) hD2 k1' (ints_prd _) (by unfold aroundF ring; rw [List.length_map, sizeLine_eq]; have := List.length_filter_le (inc v) S; omega) (fun k x H3 N KY hk hx G3 _ hne hy hn => ?_) fun H3 G3 r3 => ?_
        · subst hx
          obtain ⟨s, hs, rfl⟩ := List.mem_map.mp hk
          have hlk := lookup_of h2.asc (ring_mem.mp hs).1
          have hL3 := (h1.mono (G12.trans G3).extN)
          obtain ⟨kvs, e1, ⟨_, z⟩ | ⟨t, te, lo, y, v1, v2, v3, v4, v5⟩⟩ := hL3.at s.1
          · rw [hlk] at z; cases z
          rw [hlk] at v2; cases v2
          walk_at "st"
          refine ⟨rfl, ?_⟩
          walk_at "st"
          refine r_dgetC e1 v1 ?_
          walk_at "st"
          exact hy _ _ _ (by rw [hlk]; rfl) Gx.refl rfl
        · have r4 := r3.ints
          rw [keys_ring h2.asc, hr] at r4
          walk_at "st"
          refine r_sum (SqL.of r4) ?_
          walk_at "st"
          have es : (([a, b].map fun s => s.2.1.2.2).sum) = pr a + pr b := by
            show a.2.1.2.2 + (b.2.1.2.2 + 0) = _
            unfold pr; omega
          rw [es]
          exact q _ (G12.trans G3)
      · rw [decide_eq_true hz] at q
        exact q _ G12

theorem sc_law_applied : FnScope ["_law_left", "_law_fresh", "_law_row", "_law_after", "_law_gone", "_law_a", "_law_b", "_law_price", "_law_number"] ["_law_left", "_law_fresh", "_law_row"] (defScope s_law_applied) := ⟨rfl, rfl, rfl, by decide +kernel, rfl, by decide +kernel, by decide +kernel⟩
def RPr : Hp → V → En → Prop := fun H v s => ∃ p w, v = .ref p ∧ H p = some (.tup [.int s.1, w]) ∧ REn H w s
theorem mPr : MonoR RPr := fun _ _ _ _ e ⟨p, w, h1, h2, h3⟩ => ⟨p, w, h1, e _ _ h2 (fun _ z => by cases z), mEn _ _ _ _ e h3⟩
theorem pr_split {K : PySem.W.Frag} {H : Hp} : ∀ {vs : List V} {L : List En}, Paired (RPr H) vs L → ∃ (ps : List Addr) (kvs : List (Key × V)), vs = ps.map V.ref ∧ Paired (fun p kv => SqT K H p [kV kv.1, kv.2]) ps kvs ∧ Paired (fun (kv : Key × V) (s : En) => kv.1 = .inl s.1 ∧ REn H kv.2 s) kvs L
  | _, _, .nil => ⟨[], [], rfl, .nil, .nil⟩
  | _, _, .cons (b := s) ⟨p, w, e, h1, h2⟩ t => by
    obtain ⟨ps, kvs, q1, q2, q3⟩ := pr_split (K := K) t
    exact ⟨p :: ps, (.inl s.1, w) :: kvs, by rw [e, q1]; rfl, .cons (SqT.of h1) q2, .cons ⟨rfl, h2⟩ q3⟩
theorem merge_new : ∀ (more kvs : List (Key × V)), ((kvs ++ more).map (·.1)).Nodup → mergeK kvs more = kvs ++ more
  | [], kvs, _ => by simp [mergeK]
  | (k, v) :: r, kvs, h => by
    have hk : valV kvs k = none := by
      cases e : valV kvs k with
      | none => rfl
      | some x =>
        have h1 := valV_in e
        rw [List.map_append, List.nodup_append] at h
        exact absurd rfl (h.2.2 k h1 k (by simp))
    have e1 : mergeK kvs ((k, v) :: r) = mergeK (putK kvs k v) r := rfl
    rw [e1, putK_new v hk, merge_new r _ (by simpa using h)]
    simp
theorem LeftAt.sortedA {H : Hp} {d : Addr} {S : List En} {TB : Tbs} (h : LeftAt H d S) (asc : (S.map (·.1)).Pairwise (· < ·)) (hl : S.length < 64) {Q : VK} (q : ∀ p H', H p = none → Gx TB [] H H' → H' p = some (.lst ((S.map (·.1)).map V.int)) → Q (.ref p) H') : rSortedQD [.ref d] H Q := by
  obtain ⟨kvs, h1, h2⟩ := h
  refine ⟨d, kvs, S.map (·.1), rfl, Rd.of h1, prd_keys h2, by rw [List.length_map]; exact hl, fun ys p hp hs hn => ?_⟩
  have e : ys = S.map (·.1) := perm_sorted hp hs (asc.imp fun h => Int.le_of_lt h)
  rw [e]
  exact q p _ hn (Gx.refl.new hn) upd_same
theorem keys_filt {A : List En} (h : (A.map (·.1)).Pairwise (· < ·)) (gone : List Int) : (A.map (·.1)).filterMap (fun k => if k ∈ gone then none else (A.lookup k).map fun x => (k, x)) = A.filter fun s => decide (s.1 ∉ gone) := by
  have key : ∀ L : List En, (∀ s ∈ L, A.lookup s.1 = some s.2) → (L.map (·.1)).filterMap (fun k => if k ∈ gone then none else (A.lookup k).map fun x => (k, x)) = L.filter fun s => decide (s.1 ∉ gone) := fun L => by
    induction L with
    | nil => exact fun _ => rfl
    | cons s r ih =>
      intro hL
      have ih := ih fun t ht => hL t (by simp [ht])
      have hs := hL s (by simp)
      rw [List.map_cons, List.filterMap_cons, List.filter_cons]
      by_cases z : s.1 ∈ gone
      · rw [if_pos z, if_neg (by simpa using z)]; exact ih
      · rw [if_neg z, if_pos (by simpa using z), hs]
        simp only [Option.map_some]
        rw [ih]
  exact key A fun s hs => lookup_of h hs
theorem filt_ring {S : List En} (h : (S.map (·.1)).Pairwise (· < ·)) (v : Int) : (S.filter fun s => decide (s.1 ∉ aroundF S v)) = S.filter fun s => !inc v s := by
  refine List.filter_congr fun t ht => ?_
  rw [Bool.eq_iff_iff, decide_eq_true_eq, Bool.not_eq_true']
  unfold aroundF
  constructor
  · intro hn
    cases hi : inc v t with
    | false => rfl
    | true => exact absurd (List.mem_map.mpr ⟨t, ring_mem.mpr ⟨ht, hi⟩, rfl⟩) hn
  · intro hi z
    obtain ⟨s, hs, e⟩ := List.mem_map.mp z
    obtain ⟨m1, m2⟩ := ring_mem.mp hs
    rw [asc_eq h m1 ht e, hi] at m2; cases m2
theorem ok_c__law_applied {f : Addr} {fd : FuncData} (T : Tx K mg CN CR) (F : FnP K "_law_applied" "_law_applied" s_law_applied f fd)
  (c__law_around : Cal P w K mg base 1 "_law_around" ["_law_left", "_law_vertex"] (spc__law_around TB CN CR))
  (c__law_end : Cal P w K mg base 1 "_law_end" ["_law_left", "_law_number", "_law_vertex"] (spc__law_end TB CN CR)) : FnOk P w K mg base CX0 2 f fd ["_law_left", "_law_fresh", "_law_row"] (spc__law_applied TB CN CR) := by
  refine F.ok (k := 1) sc_law_applied (fun vs H Q E h => by obtain ⟨d, ra, nx, n, S, ts, row, rfl, _⟩ := h; rfl) (fun cdv A outer s H vs Q E hr h => ?_)
  have hu := hu_of hr
  have z1 := T.clN
  have z2 := T.clR
  have z3 := T.a_size
  have z4 := T.a_edges
  have z5 := T.r_size
  have z6 := T.r_terminals
  have z7 := T.r_edges
  have z8 := T.r_origins
  have z9 := T.r_next
  obtain ⟨d, ra, nx, n, S, ts, row, rfl, h⟩ := h
  refine ⟨_, PSs.nox (pss_cons (ps_set (i := 3) sc_law_applied.nd rfl (Or.inr rfl) (pe_callTy dictQ (by rfl) T.n_dict (by decide +kernel) (pa_cons (pv 0) pa_nil)))
    (pss_cons (ps_if (pt_cmpR op_eq (pe_ix (ixT (K := K)) (pv 2) pe_int (fun _ _ => rfl)) pe_str (nomark _)) (pss_one (ps_set (i := 4) sc_law_applied.nd rfl (Or.inr rfl) (pe_lst (pa_cons (pe_ix (ixT (K := K)) (pv 2) pe_int (fun _ _ => rfl)) pa_nil)))) (pss_one (ps_set (i := 4) sc_law_applied.nd rfl (Or.inr rfl) (pe_c c__law_around (hr.mono (by decide)) rfl (pa_cons (pv 0) (pa_cons (pe_ix (ixT (K := K)) (pv 2) pe_int (fun _ _ => rfl)) pa_nil))))))
    (pss_cons (ps_if (pt_cmpR op_eq (pe_ix (ixT (K := K)) (pv 2) pe_int (fun _ _ => rfl)) pe_str (nomark _)) (pss_cons (ps_asg (pv 4) (gU (K := K) (pgs_cons (pg_name (i := 5) sc_law_applied.nd rfl (Or.inl rfl)) (pgs_cons (pg_name (i := 6) sc_law_applied.nd rfl (Or.inl rfl)) pgs_nil))))
    (pss_cons (ps_set (i := 7) sc_law_applied.nd rfl (Or.inl rfl) (pe_op op_add (pe_ix (ixT (K := K)) (pe_ix (ixT (K := K)) (pe_dget hu (pv 0) (pv 5) (fun _ _ => rfl)) pe_int (fun _ _ => rfl)) pe_int (fun _ _ => rfl)) (pe_ix (ixT (K := K)) (pe_ix (ixT (K := K)) (pe_dget hu (pv 0) (pv 6) (fun _ _ => rfl)) pe_int (fun _ _ => rfl)) pe_int (fun _ _ => rfl))))
    (pss_one (ps_dput hu (pv 3) (pv 1) (pe_tup (pa_cons (pe_tup (pa_cons (pe_c c__law_end (hr.mono (by decide)) rfl (pa_cons (pv 0) (pa_cons (pv 5) (pa_cons (pe_ix (ixT (K := K)) (pv 2) pe_int (fun _ _ => rfl)) pa_nil)))) (pa_cons (pe_c c__law_end (hr.mono (by decide)) rfl (pa_cons (pv 0) (pa_cons (pv 6) (pa_cons (pe_ix (ixT (K := K)) (pv 2) pe_int (fun _ _ => rfl)) pa_nil)))) (pa_cons (pv 7) pa_nil)))) (pa_cons (pe_callB (sortedQ (K := K)) (by rfl) T.n_sorted (by decide +kernel) (pa_cons (pe_op op_cat (pe_ix (ixT (K := K)) (pe_dget hu (pv 0) (pv 5) (fun _ _ => rfl)) pe_int (fun _ _ => rfl)) (pe_ix (ixT (K := K)) (pe_dget hu (pv 0) (pv 6) (fun _ _ => rfl)) pe_int (fun _ _ => rfl))) pa_nil)) pa_nil))) rfl)))) pss_nil)
    (pss_one (ps_ret (pe_callTy (dictPQ (K := K)) (by rfl) T.n_dict (by decide +kernel) (pa_cons (pe_lc (own := [("_law_number", 8)]) (by rfl) sc_law_applied.nd (iL (K := K) (pe_callB sortedQD (by rfl) T.n_sorted (by decide +kernel) (pa_cons (pv 3) pa_nil))) (blkOk_by (own := [("_law_number", 8)]) (N := ["_law_left", "_law_fresh", "_law_row", "_law_after", "_law_gone", "_law_a", "_law_b", "_law_price", "_law_number"]) (sc := defScope s_law_applied) (by decide +kernel)) (fun _ _ _ _ _ => pg_name (i := 8) sc_law_applied.nd rfl (Or.inl rfl)) (fun _ _ _ _ _ => pts_one (pt_cmpR (notInL (K := K)) (pv 8) (pv 4) (by rfl))) (fun _ _ _ _ _ => (pe_tup (pa_cons (pv 8) (pa_cons (pe_dget hu (pv 3) (pv 8) (fun _ _ => rfl)) pa_nil))))) pa_nil))))))), ?_⟩
  obtain ⟨h1, h2, h3, h4, q⟩ := h
  obtain ⟨_, e, h5⟩ := h3
  cases e
  have r40 := h2.2.1
  obtain ⟨kvs0, c1, c2⟩ := id h1
  -- the last line: what stands in after, but what is gone
  have tail : ∀ (A : List En) (gone : List Int) (pa ga : Addr) (B : Hp) (σ : L2.St) (Q' : VK), σ.length = 9 → σ[3]? = some (some (.ref pa)) → σ[4]? = some (some (.ref ga)) → LeftAt B pa A → B ga = some (.lst (gone.map V.int)) → (A.map (·.1)).Pairwise (· < ·) → A.length < 64 →
      (∀ p B', Gx TB [] B B' → LeftAt B' p (A.filter fun s => decide (s.1 ∉ gone)) → Q' (.ref p) B') →
      tCB (rDictPQ K) (tCons (tLc (iList K (tCB rSortedQD (tCons (tVar 3) tNil))) (gName 8) (tTest (tOp (rIn K true) (tVar 8) (tVar 4))) (tTup (tCons (tVar 8) (tCons (tDGet (tVar 3) (tVar 8)) tNil))) (List.map (fun x => x.snd) [(("_law_number" : Str), 8)])) tNil) σ B Q' := fun A gone pa ga B σ Q' hl h3' h4' L hg asc hA q' => by
    refine r_cb (r_cons (r_lc (r_iL (r_cb (r_cons (r_var h3' (r_nil ?_)))))))
    refine L.sortedA (TB := TB) asc hA fun p B1 hp G1 k1 => ?_
    refine r_iLH k1 fun D hD => lc_listR (T := TB) (R := RPr) (F := RI) mPr mI (fun k => if k ∈ gone then none else (A.lookup k).map fun x => (k, x)) hD k1 (ints_prd _) (by rw [List.length_map, sizeLine_eq]; omega) (fun k x B2 N KY hk hx G2 ex2 hne hy hn => ?_) fun B2 G2 r2 => ?_
    · subst hx
      obtain ⟨s, hs, rfl⟩ := List.mem_map.mp hk
      have hlk := lookup_of asc hs
      have L1 := L.mono G1.extN
      have Lm := L1.mono ex2
      obtain ⟨kv, f1, f2⟩ := Lm
      have f1' := minus_le pa _ f1 fun _ z => by cases z
      have hσ8 : (wipe σ (List.map (fun x => x.snd) [(("_law_number" : Str), 8)])) = σ.set 8 none := rfl
      have w3 : ((σ.set 8 none).set 8 (some (V.int s.1)))[3]? = some (some (.ref pa)) := by simpa using h3'
      have w4 : ((σ.set 8 none).set 8 (some (V.int s.1)))[4]? = some (some (.ref ga)) := by simpa using h4'
      have w8 : ((σ.set 8 none).set 8 (some (V.int s.1)))[8]? = some (some (.int s.1)) := by simp [hl]
      rw [hσ8]
      refine r_gN ⟨?_, ?_⟩
      · show ((σ.set 8 none).set 8 (some (V.int s.1))).set 8 none = σ.set 8 none
        simp
      refine r_test (r_op (r_var w8 (r_var w4 (r_niI (SqL.of ((G1.trans G2).lst hg)) (r_blk ?_)))))
      refine ifN (fun hz => ?_) fun hz => ?_
      · rcases prd_valS f2 s.1 with ⟨_, z⟩ | ⟨v, x, v1, v2, v3⟩
        · rw [hlk] at z; cases z
        rw [hlk] at v2; cases v2
        refine r_tup (r_cons (r_var w8 (r_cons (r_dget (r_var w3 (r_var w8 (r_dgetC f1' v1 (r_nil ⟨by simp [sizeLine_eq], fun t ht => ?_⟩))))))))
        refine hy (s.1, s.2) _ _ (by rw [if_neg hz, hlk]; rfl) (Gx.refl.new ht) ⟨t, v, rfl, ?_, ?_⟩
        · rw [minus_ne (fun z : t = D => by rw [← z, ht] at hne; exact hne rfl), upd_same]
        · exact mEn _ _ _ _ (minus_ext (Gx.extN ((Gx.refl (T := TB) (xs := [])).new ht))) v3
      · exact hn _ (if_pos hz) Gx.refl
    · rw [keys_filt asc] at r2
      obtain ⟨vs, e1, e2⟩ := r2.lst
      obtain ⟨ps, kvs, s1, s2, s3⟩ := pr_split (K := K) e2
      refine r_nil ⟨D, ps, kvs, rfl, by rw [← s1]; exact SqL.of e1, s2, fun p hp => ?_⟩
      have nd : (kvs.map (·.1)).Nodup := by
        rw [prd_keys s3]
        have := filter_asc (fun s => decide (s.1 ∉ gone)) asc
        rw [List.nodup_iff_pairwise_ne, List.pairwise_map]
        exact this.imp fun h z => by have := Sum.inl.inj z; omega
      rw [merge_new kvs [] (by simpa using nd), List.nil_append]
      have G3 : Gx TB [] B2 (upd B2 p (.dK kvs)) := Gx.refl.new hp
      refine q' p _ ((G1.trans G2).trans G3) ⟨kvs, upd_same, prd_mapK (R := fun v s => REn B2 v s) (R' := fun v s => REn _ v s) s3 fun v s h => mEn _ _ _ _ G3.extN h⟩
  have asc := h2.asc
  cases row with
  | longer k w =>
    obtain ⟨wa, h6, h7⟩ := h5
    walk_at "st"
    refine ⟨d, kvs0, rfl, Rd.of c1, fun pa hpa => ?_⟩
    have G1 : Gx TB [] H (upd H pa (.dK kvs0)) := Gx.refl.new hpa
    have La : LeftAt (upd H pa (.dK kvs0)) pa S := ⟨kvs0, upd_same, prd_mapK (R := fun v s => REn H v s) (R' := fun v s => REn _ v s) c2 fun v s h => mEn _ _ _ _ G1.extN h⟩
    generalize upd H pa (.dK kvs0) = H1 at *
    have h6' := G1.tup h6
    walk_at "st"
    refine ⟨by simp [sizeLine_eq], fun ga hga => ?_⟩
    have G2 : Gx TB [] H1 (upd H1 ga (.lst [.int k])) := Gx.refl.new hga
    have kg : (upd H1 ga (.lst [.int k])) ga = some (.lst (([k] : List Int).map V.int)) := upd_same
    have Lb := La.mono G2.extN
    generalize upd H1 ga (.lst [.int k]) = H2 at *
    have h6b := G2.tup h6'
    have e : (S.filter fun s => decide (s.1 ∉ [k])) = applyS S nx (.longer k w) := List.filter_congr fun s _ => by simp
    repeat (first | refine r_ret (tail S [k] pa ga _ _ _ rfl rfl rfl Lb kg asc (by omega) fun p B' GB LB => ?_) | walk_at "s1")
    rw [e] at LB
    exact q p B' ((G1.trans G2).trans GB) LB
  | leaf v =>
    have h6 : H ra = some (.tup [.str "leaf", .int v]) := h5
    walk_at "st"
    refine ⟨d, kvs0, rfl, Rd.of c1, fun pa hpa => ?_⟩
    have G1 : Gx TB [] H (upd H pa (.dK kvs0)) := Gx.refl.new hpa
    have La : LeftAt (upd H pa (.dK kvs0)) pa S := ⟨kvs0, upd_same, prd_mapK (R := fun v s => REn H v s) (R' := fun v s => REn _ v s) c2 fun v s h => mEn _ _ _ _ G1.extN h⟩
    generalize upd H pa (.dK kvs0) = H1 at *
    have h6' := G1.tup h6
    walk_at "st"
    refine ⟨d, v, n, S, nx, rfl, h1.mono G1.extN, h2, fun ga H2 G2 kg => ?_⟩
    have Lb := La.mono G2.extN
    have h6b := G2.tup h6'
    repeat (first | refine r_ret (tail S (aroundF S v) pa ga _ _ _ rfl rfl rfl Lb kg asc (by omega) fun p B' GB LB => ?_) | walk_at "s1")
    rw [filt_ring asc] at LB
    exact q p B' ((G1.trans G2).trans GB) LB
  | series v =>
    have h6 : H ra = some (.tup [.str "series", .int v]) := h5
    obtain ⟨_, a, b, hab, hne, hp⟩ := series_of (show seriesB n ts S v = true from h4)
    have ha : a ∈ S ∧ inc v a = true := ring_mem.mp (by rw [hab]; simp)
    have hb : b ∈ S ∧ inc v b = true := ring_mem.mp (by rw [hab]; simp)
    have la := lookup_of asc ha.1
    have lb := lookup_of asc hb.1
    have len2 := h2.two hab
    have ka := (h2.key a ha.1).2
    have kb := (h2.key b hb.1).2
    walk_at "st"
    refine ⟨d, kvs0, rfl, Rd.of c1, fun pa hpa => ?_⟩
    have G1 : Gx TB [] H (upd H pa (.dK kvs0)) := Gx.refl.new hpa
    have pk : (upd H pa (.dK kvs0)) pa = some (.dK kvs0) := upd_same
    have L1 := h1.mono G1.extN
    generalize upd H pa (.dK kvs0) = H1 at *
    have h6' := G1.tup h6
    walk_at "st"
    refine ⟨d, v, n, S, nx, rfl, L1, h2, fun ga H2 G2 kg => ?_⟩
    have kg2 : H2 ga = some (.lst [.int a.1, .int b.1]) := by rw [kg]; unfold aroundF; rw [hab]; rfl
    have pk2 := G2.dK pk
    have h6b := G2.tup h6'
    have G12 := G1.trans G2
    have LS2 := h1.mono G12.extN
    obtain ⟨kv2, d1, ⟨_, z⟩ | ⟨ta, tea, loa, xa, a1, a2, a3, a4, a5⟩⟩ := LS2.at a.1
    · rw [la] at z; cases z
    rw [la] at a2; cases a2
    obtain ⟨kv3, d2, ⟨_, z⟩ | ⟨tb', teb, lob, xb, b1, b2, b3, b4, b5⟩⟩ := LS2.at b.1
    · rw [lb] at z; cases z
    rw [lb] at b2; cases b2
    rw [d1] at d2; cases d2
    walk_at "st"
    refine r_gU2 kg2 rfl ?_
    walk_at "st"
    refine r_dgetC d1 a1 ?_
    walk_at "st"
    refine r_dgetC d1 b1 ?_
    walk_at "st"
    refine ⟨d, a.1, v, S, _, rfl, LS2, la, ?_⟩
    walk_at "st"
    refine ⟨d, b.1, v, S, _, rfl, LS2, lb, ?_⟩
    walk_at "st"
    rw [show a.2.1.1 + a.2.1.2.1 - v = oth a v from rfl, show b.2.1.1 + b.2.1.2.1 - v = oth b v from rfl]
    refine ⟨by simp [sizeLine_eq], fun t1 ht1 => ?_⟩
    have G3 : Gx TB [] H2 (upd H2 t1 (.tup [.int (oth a v), .int (oth b v), .int (a.2.1.2.2 + b.2.1.2.2)])) := Gx.refl.new ht1
    have k1 : (upd H2 t1 (.tup [.int (oth a v), .int (oth b v), .int (a.2.1.2.2 + b.2.1.2.2)])) t1 = _ := upd_same
    generalize upd H2 t1 (.tup [.int (oth a v), .int (oth b v), .int (a.2.1.2.2 + b.2.1.2.2)]) = H3 at *
    replace a3 := G3.tup a3
    replace b3 := G3.tup b3
    replace d1 := G3.dK d1
    walk_at "st"
    refine r_dgetC d1 a1 ?_
    walk_at "st"
    refine r_dgetC d1 b1 ?_
    walk_at "st"
    refine r_catT (T := TB) (G3.lst a5) (G3.lst b5) (by rw [List.length_map, List.length_map, sizeLine_eq]; omega) fun l3 H4 hl3 G4 k3 => ?_
    rw [← List.map_append] at k3
    walk_at "st"
    refine ⟨l3, _, rfl, SqL.of k3, fun so l4 hperm hsort hl4 => ?_⟩
    have eso := sortI_eq hperm hsort
    subst eso
    have G5 : Gx TB [] H4 (upd H4 l4 (.lst ((sortI (a.2.2 ++ b.2.2)).map V.int))) := Gx.refl.new hl4
    have k4 : (upd H4 l4 (.lst ((sortI (a.2.2 ++ b.2.2)).map V.int))) l4 = _ := upd_same
    generalize upd H4 l4 (.lst ((sortI (a.2.2 ++ b.2.2)).map V.int)) = H5 at *
    walk_at "st"
    refine ⟨by simp [sizeLine_eq], fun t2 ht2 => ?_⟩
    have G6 : Gx TB [] H5 (upd H5 t2 (.tup [.ref t1, .ref l4])) := Gx.refl.new ht2
    have k6 : (upd H5 t2 (.tup [.ref t1, .ref l4])) t2 = _ := upd_same
    generalize upd H5 t2 (.tup [.ref t1, .ref l4]) = H6 at *
    have G26 := ((G3.trans G4).trans G5).trans G6
    have pk6 := G26.dK pk2
    have kg6 := G26.lst kg
    have k1' := ((G4.trans G5).trans G6).tup k1
    have k4' := G6.lst k4
    have h6c := G26.tup h6b
    walk_at "st"
    have klen : kvs0.length ≤ 40 := by have := Paired.length c2; omega
    refine r_dputAt pk6 (by rw [sizeLine_eq]; omega) ?_
    have G06 := G12.trans G26
    have hnew : REn H6 (.ref t2) (nx, (oth a v, oth b v, pr a + pr b), sortI (a.2.2 ++ b.2.2)) := ⟨t2, t1, l4, rfl, k6, k1', k4'⟩
    obtain ⟨q1, q2⟩ := putK_snoc (β := En) (F := fun v s => REn H6 v s) (key := (·.1)) (k := nx) (x := (nx, (oth a v, oth b v, pr a + pr b), sortI (a.2.2 ++ b.2.2))) (prd_mapK (R := fun v s => REn H v s) (R' := fun v s => REn H6 v s) c2 fun v s h => mEn _ _ _ _ G06.extN h) (fun s hs => by have := (h2.key s hs).2; omega) rfl hnew
    rw [q1]
    have X7 : ExtS H6 (upd H6 pa (.dK (kvs0 ++ [(.inl nx, .ref t2)]))) := fun b u hb hs => by
      rw [upd_ne (fun z : b = pa => by rw [z, pk6] at hb; cases hb; exact hs)]; exact hb
    have L7 : LeftAt (upd H6 pa (.dK (kvs0 ++ [(.inl nx, .ref t2)]))) pa (S ++ [(nx, (oth a v, oth b v, pr a + pr b), sortI (a.2.2 ++ b.2.2))]) := ⟨_, upd_same, prd_mapK (R := fun v s => REn H6 v s) (R' := fun v s => REn _ v s) q2 fun v s h => sEn _ _ _ _ X7 h⟩
    have G7 : Gx TB [pa] H (upd H6 pa (.dK (kvs0 ++ [(.inl nx, .ref t2)]))) := (G06.mono (by simp)).mut (by simp) pk6 trivial
    have kg7 := X7.lst kg6
    have h6d := X7.tup h6c
    generalize upd H6 pa (.dK (kvs0 ++ [(.inl nx, .ref t2)])) = H7 at *
    have G07 := G7.drop (Off.none hpa)
    have ascA : ((S ++ [((nx, (oth a v, oth b v, pr a + pr b), sortI (a.2.2 ++ b.2.2)) : En)]).map (·.1)).Pairwise (· < ·) := by
      rw [List.map_append, List.pairwise_append]
      refine ⟨asc, by simp, fun x hx y hy => ?_⟩
      obtain ⟨s, hs, rfl⟩ := List.mem_map.mp hx
      rw [List.map_singleton, List.mem_singleton] at hy
      have := (h2.key s hs).2
      simp only at hy
      omega
    have e : ((S ++ [((nx, (oth a v, oth b v, pr a + pr b), sortI (a.2.2 ++ b.2.2)) : En)]).filter fun s => decide (s.1 ∉ aroundF S v)) = applyS S nx (.series v) := by
      show _ = (S.filter fun s => !inc v s) ++ joinE S nx v
      rw [List.filter_append, filt_ring asc]
      congr 1
      unfold joinE
      rw [hab]
      have n1 : nx ∉ aroundF S v := fun z => by
        unfold aroundF at z
        rw [hab] at z
        simp only [List.map_cons, List.map_nil, List.mem_cons, List.not_mem_nil, or_false] at z
        omega
      simp [n1]
    repeat (first | refine r_ret (tail _ (aroundF S v) pa ga _ _ _ rfl rfl rfl L7 kg7 ascA (by simp; omega) fun p B' GB LB => ?_) | walk_at "s1")
    rw [e] at LB
    exact q p B' (G07.trans GB) LB

theorem sc_law_begun : FnScope ["_law_edges_here", "_law_left", "_law_k"] ["_law_edges_here"] (defScope s_law_begun) := ⟨rfl, rfl, rfl, by decide +kernel, rfl, by decide +kernel, by decide +kernel⟩
theorem ok_c__law_begun {f : Addr} {fd : FuncData} (T : Tx K mg CN CR) (F : FnP K "_law_begun" "_law_begun" s_law_begun f fd)
   : FnOk P w K mg base CX0 1 f fd ["_law_edges_here"] (spc__law_begun TB CN CR) := by
  refine F.ok (k := 0) sc_law_begun (fun vs H Q E h => by obtain ⟨ea, es, rfl, _⟩ := h; rfl) (fun cdv A outer s H vs Q E hr h => ?_)
  have hu := hu_of hr
  have z1 := T.clN
  have z2 := T.clR
  have z3 := T.a_size
  have z4 := T.a_edges
  have z5 := T.r_size
  have z6 := T.r_terminals
  have z7 := T.r_edges
  have z8 := T.r_origins
  have z9 := T.r_next
  obtain ⟨ea, es, rfl, h⟩ := h
  refine ⟨_, PSs.nox (pss_cons (ps_set (i := 1) sc_law_begun.nd rfl (Or.inl rfl) pe_dnewK)
    (pss_cons (ps_for PassesOwn.never rfl (pi_range1 (by rfl) T.n_range (pa_cons (pe_callB (lenQ (K := K)) (by rfl) T.n_len (by decide +kernel) (pa_cons (pv 0) pa_nil)) pa_nil)) (pg_name (i := 2) sc_law_begun.nd rfl (Or.inl rfl))
      (pss_one (ps_dput hu (pv 1) (pv 2) (pe_tup (pa_cons (pe_ix (ixL (K := K)) (pv 0) (pv 2) (fun _ _ => rfl)) (pa_cons (pe_lst (pa_cons (pv 2) pa_nil)) pa_nil))) rfl)))
    (pss_one (ps_ret (pv 1))))), ?_⟩
  obtain ⟨h1, h2, q⟩ := h
  obtain ⟨us, k1, k2⟩ := h1.lst
  have kl := prd_len k2
  walk_at "st"
  refine r_dnew (T := TB) fun d H1 hd G1 e1 => ?_
  have G1' : Gx TB [d] H H1 := G1.mono (by simp)
  have k1' := G1.lst k1
  walk_at "st"
  have fS : (List.range es.length).map (fun i => (((i : Nat) : Int), es[i]?.getD (0, 0, 0), [((i : Nat) : Int)])) = startS es := by
    refine List.ext_getElem? fun i => ?_
    rw [startS_at, List.getElem?_map]
    by_cases hi : i < es.length
    · rw [List.getElem?_range hi, Option.map_some, List.getElem?_eq_getElem hi, Option.map_some]; rfl
    · rw [List.getElem?_eq_none (by simp; omega), List.getElem?_eq_none (by omega)]; rfl
  refine for_range (fun i σ A => ∃ o2 kvs, σ = [some (.ref ea), some (.ref d), o2] ∧ Gx TB [d] H A ∧ A d = some (.dK kvs) ∧ Paired (fun (kv : Key × V) (s : En) => kv.1 = .inl s.1 ∧ REn A kv.2 s) kvs ((List.range i).map fun i => (((i : Nat) : Int), es[i]?.getD (0, 0, 0), [((i : Nat) : Int)]))) ⟨_, [], rfl, G1', e1, .nil⟩ (fun i σ A hi ⟨o2, kvs, es', G, f1, f2⟩ => ?_) fun σ A ⟨o2, kvs, es', G, f1, f2⟩ => ?_
  · subst es'
    have hi2 : i < es.length := by omega
    obtain ⟨v, m1, te, m2, m3⟩ := prd_get k2 (List.getElem?_eq_getElem hi2)
    subst m2
    have G0 := G.drop (Off.none hd)
    have kA := G0.lst k1
    have mA := G0.tup m3
    have klen : kvs.length = i := by have := Paired.length f2; rw [this]; simp
    walk_at "st"
    refine r_ixL (SqL.of kA) (at_nat (by omega) (by rw [show ((0:Int) + (i:Int)).toNat = i by omega]; exact m1)) ?_
    walk_at "st"
    refine ⟨by simp [sizeLine_eq], fun lo hlo => ?_⟩
    have X1 : ExtN A (upd A lo (.lst [.int (0 + (i : Int))])) := Gx.extN ((Gx.refl (T := TB) (xs := [])).new hlo)
    have G2 : Gx TB [d] H (upd A lo (.lst [.int (0 + (i : Int))])) := G.new hlo
    have c1 : (upd A lo (.lst [.int (0 + (i : Int))])) lo = _ := upd_same
    generalize upd A lo (.lst [.int (0 + (i : Int))]) = A2 at *
    walk_at "st"
    refine ⟨by simp [sizeLine_eq], fun t ht => ?_⟩
    have X2 : ExtN A2 (upd A2 t (.tup [.ref te, .ref lo])) := Gx.extN ((Gx.refl (T := TB) (xs := [])).new ht)
    have G3 : Gx TB [d] H (upd A2 t (.tup [.ref te, .ref lo])) := G2.new ht
    have c2 : (upd A2 t (.tup [.ref te, .ref lo])) t = _ := upd_same
    have c3 := X2 _ _ c1 fun _ z => by cases z
    have f1' := X2 _ _ (X1 _ _ f1 fun _ z => by cases z) fun _ z => by cases z
    have m3' := X2 _ _ (X1 _ _ mA fun _ z => by cases z) fun _ z => by cases z
    have f2' := prd_mapK (R := fun v s => REn A v s) (R' := fun v s => REn (upd A2 t (.tup [.ref te, .ref lo])) v s) f2 fun v s h => mEn _ _ _ _ X2 (mEn _ _ _ _ X1 h)
    generalize upd A2 t (.tup [.ref te, .ref lo]) = A3 at *
    walk_at "st"
    refine r_dputAt f1' (by rw [sizeLine_eq]; omega) ?_
    have hnew : REn A3 (.ref t) (((i : Nat) : Int), es[i]?.getD (0, 0, 0), [((i : Nat) : Int)]) := ⟨t, te, lo, rfl, c2, by rw [List.getElem?_eq_getElem hi2]; exact m3', by rw [c3, Int.zero_add]; rfl⟩
    obtain ⟨q1, q2⟩ := putK_snoc (β := En) (F := fun v s => REn A3 v s) (key := (·.1)) (k := (i : Int)) (x := (((i : Nat) : Int), es[i]?.getD (0, 0, 0), [((i : Nat) : Int)])) f2' (fun s hs => by
      obtain ⟨j, hj, rfl⟩ := List.mem_map.mp hs
      have := List.mem_range.mp hj
      simp only; omega) rfl hnew
    have S4 : ExtS A3 (upd A3 d (.dK (putK kvs (.inl (0 + (i : Int))) (.ref t)))) := fun b u hb hs => by
      rw [upd_ne (fun z : b = d => by rw [z, f1'] at hb; cases hb; exact hs)]; exact hb
    refine ⟨_, _, rfl, G3.mut (by simp) f1' trivial, upd_same, ?_⟩
    rw [Int.zero_add] at S4 ⊢
    rw [q1] at S4 ⊢
    rw [List.range_succ, List.map_append]
    exact prd_mapK (R := fun v s => REn A3 v s) (R' := fun v s => REn _ v s) q2 fun v s h => sEn _ _ _ _ S4 h
  · subst es'
    rw [show ((us.length : Nat) : Int).toNat = es.length by omega, fS] at f2
    walk_at "st"
    exact q d A (G.drop (Off.none hd)) ⟨kvs, f1, f2⟩

theorem sc_law_run : FnScope ["_law_size", "_law_edges_here", "_law_terminals", "_law_rows", "_law_left", "_law_fresh", "_law_k"] ["_law_size", "_law_edges_here", "_law_terminals", "_law_rows"] (defScope s_law_run) := ⟨rfl, rfl, rfl, by decide +kernel, rfl, by decide +kernel, by decide +kernel⟩
theorem Run.take4 {n : Int} {ts : List Int} {S S' : List En} {nx nx' : Int} {rows : List Row} (h : Run n ts S nx rows S' nx') : ∀ (i : Nat) (row : Row), rows[i]? = some row → ∀ S1 nx1, Run n ts S nx (rows.take i) S1 nx1 → holdsB n ts S1 row = true := by
  induction h with
  | nil => intro i row h; simp at h
  | @cons S S' nx nx' row0 rows hr _ ih =>
    intro i row hi S1 nx1 r1
    cases i with
    | zero =>
      simp at hi
      subst hi
      simp only [List.take_zero] at r1
      cases r1
      exact hr
    | succ i =>
      rw [List.take_succ_cons] at r1
      cases r1 with
      | cons _ r1 => exact ih i row (by simpa using hi) S1 nx1 r1
theorem Run.det4 {n : Int} {ts : List Int} {S S' : List En} {nx nx' : Int} {rows : List Row} (h : Run n ts S nx rows S' nx') : ∀ S2 nx2, Run n ts S nx rows S2 nx2 → S2 = S' ∧ nx2 = nx' := by
  induction h with
  | nil => intro S2 nx2 r; cases r; exact ⟨rfl, rfl⟩
  | cons _ _ ih => intro S2 nx2 r; cases r with | cons _ r => exact ih S2 nx2 r
theorem start_ok4 {n : Int} {es : List TW.Ed} (g : GoodN n es) (h : es.length ≤ 40) : OkS n (startS es) es.length := by
  have hl : (startS es).length = es.length := by rw [← List.length_map (f := ed), startS_ed]
  refine ⟨⟨es, startS_ok g.all⟩, by omega, ?_⟩
  have e : wt ol (startS es) = wt (fun _ => 1) (startS es) := wt_congr fun s hs => by
    obtain ⟨i, hi⟩ := List.mem_iff_getElem?.mp hs
    rw [startS_at] at hi
    obtain ⟨e, h1, h2⟩ := Option.map_eq_some_iff.mp hi
    subst h2; rfl
  rw [e, len_wt]; omega
theorem ok_c__law_run {f : Addr} {fd : FuncData} (T : Tx K mg CN CR) (F : FnP K "_law_run" "_law_run" s_law_run f fd)
  (c__law_begun : Cal P w K mg base 1 "_law_begun" ["_law_edges_here"] (spc__law_begun TB CN CR))
  (c__law_holds : Cal P w K mg base 3 "_law_holds" ["_law_size", "_law_left", "_law_terminals", "_law_row"] (spc__law_holds TB CN CR))
  (c__law_applied : Cal P w K mg base 2 "_law_applied" ["_law_left", "_law_fresh", "_law_row"] (spc__law_applied TB CN CR)) : FnOk P w K mg base CX0 4 f fd ["_law_size", "_law_edges_here", "_law_terminals", "_law_rows"] (spc__law_run TB CN CR) := by
  refine F.ok (k := 3) sc_law_run (fun vs H Q E h => by obtain ⟨n, ea, t, l, es, ts, rows, S, nx, rfl, _⟩ := h; rfl) (fun cdv A outer s H vs Q E hr h => ?_)
  have hu := hu_of hr
  have z1 := T.clN
  have z2 := T.clR
  have z3 := T.a_size
  have z4 := T.a_edges
  have z5 := T.r_size
  have z6 := T.r_terminals
  have z7 := T.r_edges
  have z8 := T.r_origins
  have z9 := T.r_next
  obtain ⟨n, ea, t, l, es, ts, rows, S, nx, rfl, h⟩ := h
  refine ⟨_, PSs.nox (pss_cons (ps_set (i := 4) sc_law_run.nd rfl (Or.inl rfl) (pe_c c__law_begun (hr.mono (by decide)) rfl (pa_cons (pv 1) pa_nil)))
    (pss_cons (ps_set (i := 5) sc_law_run.nd rfl (Or.inl rfl) (pe_callB (lenQ (K := K)) (by rfl) T.n_len (by decide +kernel) (pa_cons (pv 1) pa_nil)))
    (pss_cons (ps_for PassesOwn.never rfl (pi_range1 (by rfl) T.n_range (pa_cons (pe_callB (lenQ (K := K)) (by rfl) T.n_len (by decide +kernel) (pa_cons (pv 3) pa_nil)) pa_nil)) (pg_name (i := 6) sc_law_run.nd rfl (Or.inl rfl))
      (pss_cons (ps_if (pt_not (pt_val (pe_c c__law_holds (hr.mono (by decide)) rfl (pa_cons (pv 0) (pa_cons (pv 4) (pa_cons (pv 2) (pa_cons (pe_ix (ixL (K := K)) (pv 3) (pv 6) (fun _ _ => rfl)) pa_nil))))))) (pss_one (ps_ret (pe_tup (pa_cons (pv 6) (pa_cons (pv 4) pa_nil))))) pss_nil)
    (pss_cons (ps_set (i := 4) sc_law_run.nd rfl (Or.inl rfl) (pe_c c__law_applied (hr.mono (by decide)) rfl (pa_cons (pv 4) (pa_cons (pv 5) (pa_cons (pe_ix (ixL (K := K)) (pv 3) (pv 6) (fun _ _ => rfl)) pa_nil)))))
    (pss_one (ps_set (i := 5) sc_law_run.nd rfl (Or.inl rfl) (pe_op op_add (pv 5) (pe_callTy intQ (by rfl) T.n_int (by decide +kernel) (pa_cons (pe_cmpR op_eq (pe_ix (ixT (K := K)) (pe_ix (ixL (K := K)) (pv 3) (pv 6) (fun _ _ => rfl)) pe_int (fun _ _ => rfl)) pe_str (nomark _)) pa_nil))))))))
    (pss_one (ps_ret (pe_tup (pa_cons pe_non (pa_cons (pv 4) pa_nil)))))))), ?_⟩
  obtain ⟨h1, h2, h3, h4, h5, h6, q⟩ := h
  obtain ⟨us, u1, u2⟩ := h1.lst
  obtain ⟨vs, e1, e2⟩ := h5.lst
  have ok0 := start_ok4 h2 h3
  have rl := (ok0.run h6).2
  have r40 := ok0.2.1
  have l1 := prd_len e2
  have ul := prd_len u2
  walk_at "st"
  refine ⟨ea, es, rfl, h1, h3, fun d0 H1 G1 L1 => ?_⟩
  have u1' := G1.lst u1
  have e1' := G1.lst e1
  walk_at "st"
  rw [ul]
  refine for_range (fun i σ A => ∃ d S1 nx1 o6, σ = [some (.int n), some (.ref ea), some (.ref t), some (.ref l), some (.ref d), some (.int nx1), o6] ∧ Gx TB [] H A ∧ LeftAt A d S1 ∧ Run n ts (startS es) es.length (rows.take i) S1 nx1) ⟨_, _, _, _, rfl, G1, L1, .nil _ _⟩ (fun i σ A hi ⟨d, S1, nx1, o6, es', GA, LA, run⟩ => ?_) fun σ A ⟨d, S1, nx1, o6, es', GA, LA, run⟩ => ?_
  · subst es'
    have hi2 : i < rows.length := by omega
    obtain ⟨v, hv, rv⟩ := prd_get e2 (List.getElem?_eq_getElem hi2)
    have hold := h6.take4 i _ (List.getElem?_eq_getElem hi2) S1 nx1 run
    obtain ⟨ok1, _⟩ := ok0.run run
    obtain ⟨ra, rfl, hra⟩ := id rv
    have rv1 := mRow _ _ _ _ GA.extN rv
    have kA := GA.lst e1
    have at1 : atI vs (0 + (i : Int)) = some (.ref ra) := at_nat (by omega) (by rw [show ((0:Int) + (i:Int)).toNat = i by omega]; exact hv)
    walk_at "st"
    refine r_ixL (SqL.of kA) at1 ?_
    walk_at "st"
    refine ⟨n, d, t, ra, S1, nx1, ts, _, rfl, LA, ok1, GA.lst h4, rv1, fun A2 G2 => ?_⟩
    rw [hold]
    walk_at "st"
    refine r_ixL (SqL.of (G2.lst kA)) at1 ?_
    walk_at "st"
    refine ⟨d, ra, nx1, n, S1, ts, _, rfl, LA.mono G2.extN, ok1, mRow _ _ _ _ G2.extN rv1, hold, fun d2 A3 G3 L3 => ?_⟩
    have G23 := G2.trans G3
    walk_at "st"
    refine r_ixL (SqL.of (G23.lst kA)) at1 ?_
    have fin : ∀ k : Int, k = nextS nx1 rows[i] → ∃ d S1 nx1' o6, ([some (V.int n), some (.ref ea), some (.ref t), some (.ref l), some (.ref d2), some (.int k), some (.int (0 + (i : Int)))] : _root_.L2.St) = [some (.int n), some (.ref ea), some (.ref t), some (.ref l), some (.ref d), some (.int nx1'), o6] ∧ Gx TB [] H A3 ∧ LeftAt A3 d S1 ∧ Run n ts (startS es) es.length (rows.take (i + 1)) S1 nx1' := fun k hk => by
      subst hk
      refine ⟨_, _, _, _, rfl, GA.trans G23, L3, ?_⟩
      rw [show rows.take (i + 1) = rows.take i ++ [rows[i]] by rw [List.take_succ, List.getElem?_eq_getElem hi2]; rfl]
      exact run.snoc hold
    generalize rows[i] = row at *
    cases row with
    | leaf v =>
      have hra : H ra = some (.tup [.str "leaf", .int v]) := hra
      have k3 := (GA.trans G23).tup hra
      walk_at "st"
      first | (refine .inr ⟨_, rfl, ?_⟩; walk_at "st") | skip
      exact fin _ (by show nx1 + 0 = nx1; omega)
    | series v =>
      have hra : H ra = some (.tup [.str "series", .int v]) := hra
      have k3 := (GA.trans G23).tup hra
      walk_at "st"
      first | (refine .inr ⟨_, rfl, ?_⟩; walk_at "st") | skip
      exact fin _ rfl
    | longer k w =>
      obtain ⟨wa, hra, _⟩ := hra
      have k3 := (GA.trans G23).tup hra
      walk_at "st"
      first | (refine .inr ⟨_, rfl, ?_⟩; walk_at "st") | skip
      exact fin _ (by show nx1 + 0 = nx1; omega)
  · subst es'
    rw [show ((vs.length : Nat) : Int).toNat = rows.length by omega, List.take_length] at run
    obtain ⟨eS, enx⟩ := h6.det4 _ _ run
    rw [eS] at LA
    walk_at "st"
    refine ⟨by simp [sizeLine_eq], fun p hp => ?_⟩
    have G5 : Gx TB [] A (upd A p (.tup [.non, .ref d])) := Gx.refl.new hp
    exact q p _ d (GA.trans G5) upd_same (LA.mono G5.extN)

theorem sc_law_near : FnScope ["_law_left", "_law_start", "_law_number", "_law_found", "_law_turn", "_law_one", "_law_u", "_law_v", "_law_price", "_law_here", "_law_other"] ["_law_left", "_law_start", "_law_number"] (defScope s_law_near) := ⟨rfl, rfl, rfl, by decide +kernel, rfl, by decide +kernel, by decide +kernel⟩
theorem ok_c__law_near {f : Addr} {fd : FuncData} (T : Tx K mg CN CR) (F : FnP K "_law_near" "_law_near" s_law_near f fd)
   : FnOk P w K mg base CX0 1 f fd ["_law_left", "_law_start", "_law_number"] (spc__law_near TB CN CR) := by
  refine F.ok (k := 0) sc_law_near (fun vs H Q E h => by obtain ⟨d, start, num, n, S, nx, rfl, _⟩ := h; rfl) (fun cdv A outer s H vs Q E hr h => ?_)
  have hu := hu_of hr
  have z1 := T.clN
  have z2 := T.clR
  have z3 := T.a_size
  have z4 := T.a_edges
  have z5 := T.r_size
  have z6 := T.r_terminals
  have z7 := T.r_edges
  have z8 := T.r_origins
  have z9 := T.r_next
  obtain ⟨d, start, num, n, S, nx, rfl, h⟩ := h
  refine ⟨_, PSs.nox (pss_cons (ps_set (i := 3) sc_law_near.nd rfl (Or.inl rfl) pe_dnewK)
    (pss_cons (ps_dput hu (pv 3) (pv 1) pe_int rfl)
    (pss_cons (ps_for PassesOwn.never rfl (pi_range1 (by rfl) T.n_range (pa_cons pe_int pa_nil)) (pg_name (i := 4) sc_law_near.nd rfl (Or.inl rfl))
      (pss_one (ps_for PassesOwn.never rfl (iL (K := K) (pe_callB sortedQD (by rfl) T.n_sorted (by decide +kernel) (pa_cons (pv 0) pa_nil))) (pg_name (i := 5) sc_law_near.nd rfl (Or.inl rfl))
      (pss_one (ps_if (pt_cmpR op_ne (pv 5) (pv 2) (nomark _)) (pss_cons (ps_asg (pe_ix (ixT (K := K)) (pe_dget hu (pv 0) (pv 5) (fun _ _ => rfl)) pe_int (fun _ _ => rfl)) (gT (K := K) (pgs_cons (pg_name (i := 6) sc_law_near.nd rfl (Or.inl rfl)) (pgs_cons (pg_name (i := 7) sc_law_near.nd rfl (Or.inl rfl)) (pgs_cons (pg_name (i := 8) sc_law_near.nd rfl (Or.inl rfl)) pgs_nil)))))
    (pss_one (ps_for PassesOwn.never rfl (iL (K := K) (pe_lst (pa_cons (pe_tup (pa_cons (pv 6) (pa_cons (pv 7) pa_nil))) (pa_cons (pe_tup (pa_cons (pv 7) (pa_cons (pv 6) pa_nil))) pa_nil)))) (gT (K := K) (pgs_cons (pg_name (i := 9) sc_law_near.nd rfl (Or.inl rfl)) (pgs_cons (pg_name (i := 10) sc_law_near.nd rfl (Or.inl rfl)) pgs_nil)))
      (pss_one (ps_if (PW.pt (pw_and (pt_cmp (pc_din hu (pv 9) (pv 3)) (by rfl)) (pw_and1 (PW.pt (pw_or (pt_cmp (pc_dnotin hu (pv 10) (pv 3)) (by rfl)) (pw_or1 (pt_cmpR op_lt (pe_op op_add (pe_dget hu (pv 3) (pv 9) (fun _ _ => rfl)) (pv 8)) (pe_dget hu (pv 3) (pv 10) (fun _ _ => rfl)) (nomark _)))))))) (pss_one (ps_dput hu (pv 3) (pv 10) (pe_op op_add (pe_dget hu (pv 3) (pv 9) (fun _ _ => rfl)) (pv 8)) rfl)) pss_nil))))) pss_nil)))))
    (pss_one (ps_ret (pv 3)))))), ?_⟩
  obtain ⟨h1, h2, h3, h4, h5, q⟩ := h
  have r40 := h2.2.1
  walk_at "st"
  refine r_dnew (T := TB) fun fd H1 hfd G1 e1 => ?_
  walk_at "st"
  refine r_dputAt e1 (by decide) ?_
  have G2 : Gx TB [fd] H (upd H1 fd (.dK (putK [] (.inl start) (.int 0)))) := (G1.mono (by simp)).mut (by simp) e1 trivial
  have e2 : (upd H1 fd (.dK (putK [] (.inl start) (.int 0)))) fd = _ := upd_same
  have D2 : DictOf RI (upd H1 fd (.dK (putK [] (.inl start) (.int 0)))) (putK [] (.inl start) (.int 0)) (fun y => if y = start then some 0 else none) n := (DictOf.nil).put h3 h4 rfl
  generalize upd H1 fd (.dK (putK [] (.inl start) (.int 0))) = H2 at *
  have dfd : d ≠ fd := fun z => by obtain ⟨kvs, y, _⟩ := h1; rw [z, hfd] at y; cases y
  have sound0 : ∀ x q, (fun y => if y = start then some (0:Int) else none) x = some q → ∃ w, Path S num start w x q := fun x q h => by
    simp only at h
    split at h
    · cases h; subst x; exact ⟨[], .nil⟩
    · cases h
  walk_at "st"
  refine for_range (fun i σ A => ∃ f kvs o4 o5 o6 o7 o8 o9 o10, σ = [some (.ref d), some (.int start), some (.int num), some (.ref fd), o4, o5, o6, o7, o8, o9, o10] ∧ Gx TB [fd] H A ∧ A fd = some (.dK kvs) ∧ DictOf RI A kvs f n ∧ ∀ x q, f x = some q → ∃ w, Path S num start w x q) ⟨_, _, _, _, _, _, _, _, _, rfl, G2, e2, D2, sound0⟩ (fun i σ A hi ⟨f, kvs, o4, o5, o6, o7, o8, o9, o10, es, GA, kA, DA, sA⟩ => ?_) fun σ A ⟨f, kvs, o4, o5, o6, o7, o8, o9, o10, es, GA, kA, DA, sA⟩ => ?_
  · subst es
    have LA := h1.mono (GA.drop (Off.none hfd)).extN
    walk_at "st"
    refine LA.sorted (TB := TB) h2 fun p B hp G3 k3 => ?_
    have pfd : p ≠ fd := ne_none hp kA
    have G3' := GA.call G3
    refine r_iLH k3 ?_
    refine for_list (xs := (S.map (·.1)).map V.int) (fun j σ C => ∃ f kvs o5 o6 o7 o8 o9 o10, σ = [some (.ref d), some (.int start), some (.int num), some (.ref fd), some (.int (0 + (i : Int))), o5, o6, o7, o8, o9, o10] ∧ Gx TB [fd] B C ∧ C fd = some (.dK kvs) ∧ DictOf RI C kvs f n ∧ ∀ x q, f x = some q → ∃ w, Path S num start w x q) ⟨f, kvs, _, _, _, _, _, _, rfl, Gx.refl, G3.dK kA, DA.mono mI G3.extN, sA⟩ (fun j σ C _ ⟨_, _, _, _, _, _, _, _, _, GC, _⟩ => SqL.of (GC.lst k3 (by simp [pfd]))) (fun j x σ C hx ⟨f, kvs, o5, o6, o7, o8, o9, o10, es, GC, kC, DC, sC⟩ => ?_) fun σ C ⟨f, kvs, o5, o6, o7, o8, o9, o10, es, GC, kC, DC, sC⟩ => ?_
    · subst es
      rw [List.getElem?_map, List.getElem?_map] at hx
      obtain ⟨k, hk, rfl⟩ := Option.map_eq_some_iff.mp hx
      obtain ⟨s, hs, rfl⟩ := Option.map_eq_some_iff.mp hk
      have hm := List.mem_of_getElem? hs
      have hlk := lookup_of h2.asc hm
      have gs := h2.good s hm
      have GHC := G3'.trans GC
      have LC := h1.mono (GHC.drop (Off.none hfd)).extN
      obtain ⟨kv2, d1, ⟨_, z⟩ | ⟨ta, tea, loa, xa, a1, a2, a3, a4, a5⟩⟩ := LC.at s.1
      · rw [hlk] at z; cases z
      rw [hlk] at a2; cases a2
      walk_at "st"
      refine ifN (fun hz => ?_) fun hz => ?_
      · walk_at "st"
        refine r_dgetC d1 a1 ?_
        walk_at "st"
        refine ⟨by simp [sizeLine_eq], fun t1 ht1 => ?_⟩
        have G4 : Gx TB [fd] B (upd C t1 (.tup [.int s.2.1.1, .int s.2.1.2.1])) := GC.new ht1
        have m1 : (upd C t1 (.tup [.int s.2.1.1, .int s.2.1.2.1])) t1 = _ := upd_same
        have c1 : (upd C t1 (.tup [.int s.2.1.1, .int s.2.1.2.1])) fd = _ := (upd_ne (ne_none ht1 kC).symm).trans kC
        have X1 : ExtN C (upd C t1 (.tup [.int s.2.1.1, .int s.2.1.2.1])) := Gx.extN ((Gx.refl (T := TB) (xs := [])).new ht1)
        generalize upd C t1 (.tup [.int s.2.1.1, .int s.2.1.2.1]) = C1 at *
        walk_at "st"
        refine ⟨by simp [sizeLine_eq], fun t2 ht2 => ?_⟩
        have G5 : Gx TB [fd] B (upd C1 t2 (.tup [.int s.2.1.2.1, .int s.2.1.1])) := G4.new ht2
        have m2 : (upd C1 t2 (.tup [.int s.2.1.2.1, .int s.2.1.1])) t2 = _ := upd_same
        have X2 : ExtN C1 (upd C1 t2 (.tup [.int s.2.1.2.1, .int s.2.1.1])) := Gx.extN ((Gx.refl (T := TB) (xs := [])).new ht2)
        have m1' := X2 _ _ m1 fun _ z => by cases z
        have c2 := X2 _ _ c1 fun _ z => by cases z
        generalize upd C1 t2 (.tup [.int s.2.1.2.1, .int s.2.1.1]) = C2 at *
        walk_at "st"
        refine ⟨by simp [sizeLine_eq], fun pl hpl => ?_⟩
        have G6 : Gx TB [fd] B (upd C2 pl (.lst [.ref t1, .ref t2])) := G5.new hpl
        have m3 : (upd C2 pl (.lst [.ref t1, .ref t2])) pl = _ := upd_same
        have X3 : ExtN C2 (upd C2 pl (.lst [.ref t1, .ref t2])) := Gx.extN ((Gx.refl (T := TB) (xs := [])).new hpl)
        have m1c := X3 _ _ m1' fun _ z => by cases z
        have m2c := X3 _ _ m2 fun _ z => by cases z
        have c3 := X3 _ _ c2 fun _ z => by cases z
        have D3 := ((DC.mono mI X1).mono mI X2).mono mI X3
        generalize upd C2 pl (.lst [.ref t1, .ref t2]) = C3 at *
        have plfd : pl ≠ fd := fun z => by rw [z, c3] at m3; cases m3
        have t1fd : t1 ≠ fd := fun z => by rw [z, c3] at m1c; cases m1c
        have t2fd : t2 ≠ fd := fun z => by rw [z, c3] at m2c; cases m2c
        refine r_iLH m3 ?_
        refine for_list (xs := [.ref t1, .ref t2]) (fun jj σ E => ∃ f kvs o9 o10, σ = [some (.ref d), some (.int start), some (.int num), some (.ref fd), some (.int (0 + (i : Int))), some (.int s.1), some (.int s.2.1.1), some (.int s.2.1.2.1), some (.int s.2.1.2.2), o9, o10] ∧ Gx TB [fd] C3 E ∧ E fd = some (.dK kvs) ∧ DictOf RI E kvs f n ∧ ∀ x q, f x = some q → ∃ w, Path S num start w x q) ⟨f, kvs, _, _, rfl, Gx.refl, c3, D3, sC⟩ (fun jj σ E _ ⟨_, _, _, _, _, GE, _⟩ => SqL.of (GE.lst m3 (by simp [plfd]))) (fun jj x σ E hx ⟨f, kvs, o9, o10, es, GE, kE, DE, sE⟩ => ?_) fun σ E ⟨f, kvs, o9, o10, es, GE, kE, DE, sE⟩ => ?_
        · subst es
          obtain ⟨t, here, other, rfl, mt, j, orng⟩ : ∃ (t : Addr) (here other : Int), x = .ref t ∧ E t = some (.tup [.int here, .int other]) ∧ Joins (ed s) here other ∧ 0 ≤ other ∧ other < n := by
            match jj, hx with
            | 0, hx => cases hx; exact ⟨t1, _, _, rfl, GE.tup m1c (by simp [t1fd]), .inl ⟨rfl, rfl⟩, gs.v0, gs.v1⟩
            | 1, hx => cases hx; exact ⟨t2, _, _, rfl, GE.tup m2c (by simp [t2fd]), .inr ⟨rfl, rfl⟩, gs.u0, gs.u1⟩
            | k + 2, hx => simp at hx
          have dl := DE.len
          have step : ∀ qh, f here = some qh → ∃ w, Path S num start w other (qh + pr s) := fun qh h => by
            obtain ⟨w, hw⟩ := sE here qh h
            exact ⟨_, .snoc hw hm hz j⟩
          have skip : ∃ f kvs o9 o10, ([some (.ref d), some (.int start), some (.int num), some (.ref fd), some (.int (0 + (i : Int))), some (.int s.1), some (.int s.2.1.1), some (.int s.2.1.2.1), some (.int s.2.1.2.2), some (.int here), some (.int other)] : _root_.L2.St) = [some (.ref d), some (.int start), some (.int num), some (.ref fd), some (.int (0 + (i : Int))), some (.int s.1), some (.int s.2.1.1), some (.int s.2.1.2.1), some (.int s.2.1.2.2), o9, o10] ∧ Gx TB [fd] C3 E ∧ E fd = some (.dK kvs) ∧ DictOf RI E kvs f n ∧ ∀ x q, f x = some q → ∃ w, Path S num start w x q := ⟨f, kvs, _, _, rfl, GE, kE, DE, sE⟩
          walk_at "st"
          refine r_dinC kE ?_
          rcases DE.val here with ⟨w1, w2⟩ | ⟨v, qh, w1, w2, rfl⟩
          · rw [w1]
            walk_at "st"
            exact skip
          · rw [w1]
            have put : ∃ f' kvs' o9 o10, ([some (.ref d), some (.int start), some (.int num), some (.ref fd), some (.int (0 + (i : Int))), some (.int s.1), some (.int s.2.1.1), some (.int s.2.1.2.1), some (.int s.2.1.2.2), some (.int here), some (.int other)] : _root_.L2.St) = [some (.ref d), some (.int start), some (.int num), some (.ref fd), some (.int (0 + (i : Int))), some (.int s.1), some (.int s.2.1.1), some (.int s.2.1.2.1), some (.int s.2.1.2.2), o9, o10] ∧ Gx TB [fd] C3 (upd E fd (.dK (putK kvs (.inl other) (.int (qh + s.2.1.2.2))))) ∧ (upd E fd (.dK (putK kvs (.inl other) (.int (qh + s.2.1.2.2))))) fd = some (.dK kvs') ∧ DictOf RI (upd E fd (.dK (putK kvs (.inl other) (.int (qh + s.2.1.2.2))))) kvs' f' n ∧ ∀ x q, f' x = some q → ∃ w, Path S num start w x q := by
              refine ⟨_, _, _, _, rfl, GE.mut (by simp) kE trivial, upd_same, ⟨(DE.put orng.1 orng.2 (show RI E (.int (qh + s.2.1.2.2)) (qh + s.2.1.2.2) from rfl)).nd, (DE.put orng.1 orng.2 (show RI E (.int (qh + s.2.1.2.2)) (qh + s.2.1.2.2) from rfl)).int, (DE.put orng.1 orng.2 (show RI E (.int (qh + s.2.1.2.2)) (qh + s.2.1.2.2) from rfl)).val⟩, fun x q h => ?_⟩
              have h : (if x = other then some (qh + s.2.1.2.2) else f x) = some q := h
              split at h
              · cases h; subst x; exact step qh w2
              · exact sE x q h
            walk_at "st"
            refine r_dinC kE ?_
            rcases DE.val other with ⟨v1, v2⟩ | ⟨v, qo, v1, v2, rfl⟩
            · rw [v1]
              walk_at "st"
              refine r_dgetC kE w1 ?_
              walk_at "st"
              refine r_dputAt kE (by rw [sizeLine_eq]; omega) ?_
              exact put
            · rw [v1]
              walk_at "st"
              refine r_dgetC kE w1 ?_
              walk_at "st"
              refine r_dgetC kE v1 ?_
              walk_at "st"
              refine ifD (fun hlt => ?_) fun hlt => ?_
              · walk_at "st"
                refine r_dgetC kE w1 ?_
                walk_at "st"
                refine r_dputAt kE (by rw [sizeLine_eq]; omega) ?_
                exact put
              · walk_at "st"
                exact skip
        · subst es
          exact ⟨f, kvs, _, _, _, _, _, _, rfl, G6.trans GE, kE, DE, sE⟩
      · walk_at "st"
        exact ⟨f, kvs, _, _, _, _, _, _, rfl, GC, kC, DC, sC⟩
    · subst es
      exact ⟨f, kvs, _, _, _, _, _, _, _, rfl, G3'.trans GC, kC, DC, sC⟩
  · subst es
    walk_at "st"
    exact q _ _ _ _ (GA.drop (Off.none hfd)) kA DA sA

theorem sc_law_needless : FnScope ["_law_left", "_law_terminals", "_law_number", "_law_start", "_law_goal", "_law_price", "_law_known", "_law_turn", "_law_here", "_law_found", "_law_stop"] ["_law_left", "_law_terminals", "_law_number"] (defScope s_law_needless) := ⟨rfl, rfl, rfl, by decide +kernel, rfl, by decide +kernel, by decide +kernel⟩
theorem ok_c__law_needless {f : Addr} {fd : FuncData} (T : Tx K mg CN CR) (F : FnP K "_law_needless" "_law_needless" s_law_needless f fd)
  (c__law_near : Cal P w K mg base 1 "_law_near" ["_law_left", "_law_start", "_law_number"] (spc__law_near TB CN CR)) : FnOk P w K mg base CX0 2 f fd ["_law_left", "_law_terminals", "_law_number"] (spc__law_needless TB CN CR) := by
  refine F.ok (k := 1) sc_law_needless (fun vs H Q E h => by obtain ⟨d, t, n, S, nx, ts, sn, rfl, _⟩ := h; rfl) (fun cdv A outer s H vs Q E hr h => ?_)
  have hu := hu_of hr
  have z1 := T.clN
  have z2 := T.clR
  have z3 := T.a_size
  have z4 := T.a_edges
  have z5 := T.r_size
  have z6 := T.r_terminals
  have z7 := T.r_edges
  have z8 := T.r_origins
  have z9 := T.r_next
  obtain ⟨d, t, n, S, nx, ts, sn, rfl, h⟩ := h
  refine ⟨_, PSs.nox (pss_cons (ps_asg (pe_ix (ixT (K := K)) (pe_dget hu (pv 0) (pv 2) (fun _ _ => rfl)) pe_int (fun _ _ => rfl)) (gT (K := K) (pgs_cons (pg_name (i := 3) sc_law_needless.nd rfl (Or.inl rfl)) (pgs_cons (pg_name (i := 4) sc_law_needless.nd rfl (Or.inl rfl)) (pgs_cons (pg_name (i := 5) sc_law_needless.nd rfl (Or.inl rfl)) pgs_nil)))))
    (pss_cons (ps_set (i := 6) sc_law_needless.nd rfl (Or.inl rfl) (pe_lst (pa_cons (pv 3) pa_nil)))
    (pss_cons (ps_for PassesOwn.never rfl (pi_range1 (by rfl) T.n_range (pa_cons (pe_op op_add (pe_callB (lenQ (K := K)) (by rfl) T.n_len (by decide +kernel) (pa_cons (pv 1) pa_nil)) pe_int) pa_nil)) (pg_name (i := 7) sc_law_needless.nd rfl (Or.inl rfl))
      (pss_one (ps_for PassesOwn.never rfl (iL (K := K) (pe_callTy (listQ (K := K)) (by rfl) T.n_list (by decide +kernel) (pa_cons (pv 6) pa_nil))) (pg_name (i := 8) sc_law_needless.nd rfl (Or.inl rfl))
      (pss_cons (ps_set (i := 9) sc_law_needless.nd rfl (Or.inl rfl) (pe_c c__law_near (hr.mono (by decide)) rfl (pa_cons (pv 0) (pa_cons (pv 8) (pa_cons (pv 2) pa_nil)))))
    (pss_one (ps_for PassesOwn.never rfl (iL (K := K) (pe_op op_cat (pv 1) (pe_lst (pa_cons (pv 4) pa_nil)))) (pg_name (i := 10) sc_law_needless.nd rfl (Or.inl rfl))
      (pss_one (ps_if (PW.pt (pw_and (pt_cmp (pc_din hu (pv 10) (pv 9)) (by rfl)) (pw_and (pt_cmpR op_le (pe_dget hu (pv 9) (pv 10) (fun _ _ => rfl)) (pv 5) (nomark _)) (pw_and1 (pt_cmpR (notInL (K := K)) (pv 10) (pv 6) (by rfl)))))) (pss_one (ps_expr (bm (K := K) (pe_bm PySem.F.plainAttrs_list PySem.F.slot_list_append PySem.F.type_list_append mt_append (pv 6) (pa_cons (pv 10) pa_nil))))) pss_nil))))))))
    (pss_one (ps_ret (pe_cmpR (inL (K := K)) (pv 4) (pv 6) (by rfl))))))), ?_⟩
  obtain ⟨h1, h2, h3, h4, h5, h6, h7, ⟨Kp, kp1, kp2, kp3⟩, q⟩ := h
  have hlk := lookup_of h2.asc h7
  have gs := h2.good sn h7
  have r40 := h2.2.1
  obtain ⟨kv2, d1, ⟨_, z⟩ | ⟨ta, tea, loa, xa, a1, a2, a3, a4, a5⟩⟩ := h1.at sn.1
  · rw [hlk] at z; cases z
  rw [hlk] at a2; cases a2
  walk_at "st"
  refine r_dgetC d1 a1 ?_
  walk_at "st"
  refine ⟨by simp [sizeLine_eq], fun kl hkl => ?_⟩
  have G1 : Gx TB [kl] H (upd H kl (.lst [.int sn.2.1.1])) := ((Gx.refl (xs := [])).new hkl).mono (by simp)
  have k1 : (upd H kl (.lst [.int sn.2.1.1])) kl = some (.lst (([sn.2.1.1] : List Int).map V.int)) := upd_same
  generalize upd H kl (.lst [.int sn.2.1.1]) = H1 at *
  have h3' := (G1.drop (Off.none hkl)).lst h3
  have klen : ∀ L : List Int, L.Nodup → (∀ x ∈ L, 0 ≤ x ∧ x < n) → L.length ≤ 40 := fun L a b => by
    have h : ∀ x ∈ L, x ∈ (List.range n.toNat).map fun i => ((i : Nat) : Int) := fun x hx => by
      obtain ⟨b0, b1⟩ := b x hx
      exact List.mem_map.mpr ⟨x.toNat, List.mem_range.mpr (by omega), by omega⟩
    have := nodup_len a h
    rw [List.length_map, List.length_range] at this
    omega
  walk_at "st"
  refine for_range (fun i σ A => ∃ L o7 o8 o9 o10, σ = [some (.ref d), some (.ref t), some (.int sn.1), some (.int sn.2.1.1), some (.int sn.2.1.2.1), some (.int sn.2.1.2.2), some (.ref kl), o7, o8, o9, o10] ∧ Gx TB [kl] H A ∧ A kl = some (.lst (L.map V.int)) ∧ L.Nodup ∧ (∀ x ∈ L, 0 ≤ x ∧ x < n) ∧ ∀ x ∈ L, Kp x)
    ⟨[sn.2.1.1], _, _, _, _, rfl, G1, k1, by simp, fun x hx => by rw [List.mem_singleton.mp hx]; exact ⟨gs.u0, gs.u1⟩, fun x hx => by rw [List.mem_singleton.mp hx]; exact kp1⟩ (fun i σ A hi ⟨L, o7, o8, o9, o10, es, GA, kA, nA, rA, pA⟩ => ?_) fun σ A ⟨L, o7, o8, o9, o10, es, GA, kA, nA, rA, pA⟩ => ?_
  · subst es
    walk_at "st"
    refine r_listH (T := TB) kA fun cl B hcl GB kc => ?_
    have clkl : cl ≠ kl := ne_none hcl kA
    have GHB := GA.call GB
    refine r_iLH kc ?_
    refine for_list (xs := L.map V.int) (fun j σ C => ∃ L o8 o9 o10, σ = [some (.ref d), some (.ref t), some (.int sn.1), some (.int sn.2.1.1), some (.int sn.2.1.2.1), some (.int sn.2.1.2.2), some (.ref kl), some (.int (0 + (i : Int))), o8, o9, o10] ∧ Gx TB [kl] B C ∧ C kl = some (.lst (L.map V.int)) ∧ L.Nodup ∧ (∀ x ∈ L, 0 ≤ x ∧ x < n) ∧ ∀ x ∈ L, Kp x)
      ⟨L, _, _, _, rfl, Gx.refl, GB.lst kA, nA, rA, pA⟩ (fun j σ C _ ⟨_, _, _, _, _, GC, _⟩ => SqL.of (GC.lst kc (by simp [clkl]))) (fun j x σ C hx ⟨L2, o8, o9, o10, es, GC, kC, nC, rC, pC⟩ => ?_) fun σ C ⟨L2, o8, o9, o10, es, GC, kC, nC, rC, pC⟩ => ?_
    · subst es
      rw [List.getElem?_map] at hx
      obtain ⟨here, hh, rfl⟩ := Option.map_eq_some_iff.mp hx
      have hm := List.mem_of_getElem? hh
      obtain ⟨b0, b1⟩ := rA here hm
      have hK := pA here hm
      have GHC := GHB.trans GC
      have G0 := GHC.drop (Off.none hkl)
      have LC := h1.mono G0.extN
      walk_at "st"
      refine ⟨d, here, sn.1, n, S, nx, rfl, LC, h2, b0, b1, h6, fun fd E kvs f GE kE DE sE => ?_⟩
      have kE2 := GE.lst kC
      have tE := (G0.trans GE).lst h3
      have GCE := GC.call GE
      walk_at "st"
      refine ⟨by simp [sizeLine_eq], fun gl hgl => ?_⟩
      have X1 : Gx TB [] E (upd E gl (.lst [.int sn.2.1.2.1])) := Gx.refl.new hgl
      have g1 : (upd E gl (.lst [.int sn.2.1.2.1])) gl = some (.lst [.int sn.2.1.2.1]) := upd_same
      generalize upd E gl (.lst [.int sn.2.1.2.1]) = E1 at *
      walk_at "st"
      refine r_catT (T := TB) (X1.lst tE) g1 (by simp [sizeLine_eq]; omega) fun sl F hsl X2 k2 => ?_
      have k2' : F sl = some (.lst ((ts ++ [sn.2.1.2.1]).map V.int)) := by rw [k2, List.map_append]; rfl
      have X12 := X1.trans X2
      have kF := X12.lst kE2
      have fF := X12.dK kE
      have DF := DE.mono mI X12.extN
      have slkl : sl ≠ kl := ne_none hsl (X1.lst kE2)
      have fdkl : fd ≠ kl := fun z => by rw [z, kF] at fF; cases fF
      refine r_iLH k2' ?_
      refine for_list (xs := (ts ++ [sn.2.1.2.1]).map V.int) (fun jj σ M => ∃ L o10, σ = [some (.ref d), some (.ref t), some (.int sn.1), some (.int sn.2.1.1), some (.int sn.2.1.2.1), some (.int sn.2.1.2.2), some (.ref kl), some (.int (0 + (i : Int))), some (.int here), some (.ref fd), o10] ∧ Gx TB [kl] F M ∧ M kl = some (.lst (L.map V.int)) ∧ L.Nodup ∧ (∀ x ∈ L, 0 ≤ x ∧ x < n) ∧ ∀ x ∈ L, Kp x)
        ⟨L2, _, rfl, Gx.refl, kF, nC, rC, pC⟩ (fun jj σ M _ ⟨_, _, _, GM, _⟩ => SqL.of (GM.lst k2' (by simp [slkl]))) (fun jj x σ M hx ⟨L3, o10, es, GM, kM, nM, rM, pM⟩ => ?_) fun σ M ⟨L3, o10, es, GM, kM, nM, rM, pM⟩ => ?_
      · subst es
        rw [List.getElem?_map] at hx
        obtain ⟨stop, hst, rfl⟩ := Option.map_eq_some_iff.mp hx
        have hsm := List.mem_of_getElem? hst
        have srng : 0 ≤ stop ∧ stop < n := by
          rcases List.mem_append.mp hsm with z | z
          · exact h4 stop z
          · rw [List.mem_singleton.mp z]; exact ⟨gs.v0, gs.v1⟩
        have fM := GM.dK fF (by simp [fdkl])
        have l40 := klen L3 nM rM
        walk_at "st"
        refine r_dinC fM ?_
        rcases DF.val stop with ⟨w1, w2⟩ | ⟨v, qs, w1, w2, rfl⟩
        · rw [w1]
          walk_at "st"
          exact ⟨L3, _, rfl, GM, kM, nM, rM, pM⟩
        · rw [w1]
          walk_at "st"
          refine r_dgetC fM w1 ?_
          walk_at "st"
          refine ifD (fun hle => ?_) fun hle => ?_
          · walk_at "st"
            refine r_niI (SqL.of kM) ?_
            walk_at "st"
            refine ifN (fun hn => ?_) fun hn => ?_
            · walk_at "st"
              refine ⟨tyV_lst kM, ?_⟩
              walk_at "st"
              refine r_append kM (by rw [List.length_map, sizeLine_eq]; omega) ?_
              walk_at "st"
              obtain ⟨w, hw⟩ := sE stop qs w2
              refine ⟨L3 ++ [stop], _, rfl, GM.mut (by simp) kM trivial, by rw [upd_same, List.map_append]; rfl, List.nodup_append.mpr ⟨nM, by simp, fun a ha b hb z => hn (by rw [List.mem_singleton.mp hb] at z; exact z ▸ ha)⟩, fun x hx => ?_, fun x hx => ?_⟩
              · rcases List.mem_append.mp hx with z | z
                · exact rM x z
                · rw [List.mem_singleton.mp z]; exact srng
              · rcases List.mem_append.mp hx with z | z
                · exact pM x z
                · rw [List.mem_singleton.mp z]; exact kp3 here hK stop hsm w qs hw hle
            · walk_at "st"
              exact ⟨L3, _, rfl, GM, kM, nM, rM, pM⟩
          · walk_at "st"
            exact ⟨L3, _, rfl, GM, kM, nM, rM, pM⟩
      · subst es
        exact ⟨L3, _, _, _, rfl, (GCE.call X12).trans GM, kM, nM, rM, pM⟩
    · subst es
      exact ⟨L2, _, _, _, _, rfl, GHB.trans GC, kC, nC, rC, pC⟩
  · subst es
    walk_at "st"
    refine r_inI (SqL.of kA) ?_
    have e : decide (sn.2.1.2.1 ∈ L) = false := decide_eq_false fun z => kp2 (pA _ z)
    rw [e]
    exact q _ (GA.drop (Off.none hkl))
end TW
end

section
set_option Elab.async false
set_option linter.all false
set_option maxRecDepth 100000
set_option maxHeartbeats 1000000
set_option exponentiation.threshold 600
namespace TW
open PySem PySem.Spec PyProof.Rows L2 LamX NdefX StX
variable {P : Program} {w : World} {K : PySem.W.Frag} {mg : Str → Option Value} {base : Heap} {CN CR : Addr} {TB : Tbs}
local macro_rules | `(tactic| walk_at "s1") => `(tactic| first
  | with_reducible refine r_seq ?_
  | with_reducible refine r_set ?_
  | with_reducible refine r_var (by with_unfolding_all rfl) ?_
  | with_reducible refine r_c ?_
  | with_reducible refine r_op ?_
  | with_reducible refine r_cons ?_
  | with_reducible refine r_nil ?_
  | with_reducible refine r_I0 ?_
  | with_reducible refine r_test ?_
  | with_reducible refine r_blk ?_
  | with_reducible refine r_ifT ?_
  | with_reducible refine r_ifF ?_
  | with_reducible refine r_ifNT ?_
  | with_reducible refine r_ifNF ?_
  | with_reducible refine r_aug (by with_unfolding_all rfl) ?_
  | with_reducible refine r_ipI ?_
  | with_reducible refine r_ifs0 ?_
  | with_reducible refine r_ifs1 ?_
  | with_reducible refine r_ifsN ?_
  | with_reducible refine r_ifsS ?_
  | with_reducible refine r_if ?_
  | with_reducible refine r_fld ?_
  | with_reducible refine r_fldC (by assumption) (by assumption) (by assumption) (by first | exact lkN_size | exact lkN_edges | exact lkR_size | exact lkR_terminals | exact lkR_edges | exact lkR_origins | exact lkR_next) ?_
  | with_reducible refine r_eqI ?_
  | with_reducible refine r_neI ?_
  | with_reducible refine r_eqS ?_
  | with_reducible refine r_cl ?_
  | with_reducible refine r_cb ?_
  | with_reducible refine r_mt ?_
  | with_reducible refine r_mtAt (by assumption) (by first | exact lkN_msize | exact lkN_medges | exact lkR_around | exact lkR_other_end | exact lkR_ends_around | exact lkR_is_inner | exact lkR_is_leaf | exact lkR_is_series | exact lkR_is_longer | exact lkR_holds | exact lkR_drop | exact lkR_join | exact lkR_apply | exact lkR_paths_from | exact lkR_walk_for | exact lkR_rows_by_vertices | exact lkR_rows_by_edges) ?_
  | with_reducible refine r_dget ?_
  | with_reducible refine r_ret ?_
  | with_reducible refine r_nx ?_
  | with_reducible refine r_yes ?_
  | with_reducible refine r_drop ?_
  | with_reducible refine r_asg ?_
  | with_reducible refine r_gN ?_
  | with_reducible refine r_gT3 (by assumption) (by with_unfolding_all rfl) ?_
  | with_reducible refine r_gT2 (by assumption) (by with_unfolding_all rfl) ?_
  | with_reducible refine r_or ?_
  | with_reducible refine r_and ?_
  | with_reducible refine r_not ?_
  | with_reducible refine r_andV ?_
  | with_reducible refine r_orV ?_
  | with_reducible refine r_notV ?_
  | with_reducible refine r_chain ?_
  | with_reducible refine r_ifE ?_
  | with_reducible refine r_B ?_
  | with_reducible refine r_tup ?_
  | with_reducible refine r_lst ?_
  | with_reducible refine r_sl ?_
  | with_reducible refine r_noP ?_
  | with_reducible refine r_part ?_
  | with_reducible refine r_intC ?_
  | with_reducible refine r_din ?_
  | with_reducible refine r_dni ?_
  | with_reducible refine r_iL ?_
  | with_reducible refine r_iT ?_
  | with_reducible refine r_iR1 ?_
  | with_reducible refine r_iR2 ?_
  | with_reducible refine r_un ?_
  | with_reducible refine r_U ?_
  | with_reducible refine r_sFld ?_
  | with_reducible refine r_sFldAug ?_
  | with_reducible refine r_dput ?_
  | with_reducible refine r_ddel ?_
  | with_reducible refine r_bm ?_
  | with_reducible refine r_for ?_
  | with_reducible refine r_lc ?_
  | with_reducible refine r_dc ?_
  | with_reducible refine r_subset ?_
  | with_reducible refine r_intI ?_
  | with_reducible refine r_intB ?_
  | with_reducible refine r_absI ?_
  | with_reducible refine r_min2I ?_
  | with_reducible refine r_mk ?_
  | with_reducible refine r_star ?_
  | with_reducible refine r_starAt (by assumption) ?_
  | with_reducible refine r_pop1 ?_
  | with_reducible refine r_popAt (by assumption) ?_
  | with_reducible refine r_get1 ?_
  | with_reducible refine r_minK ?_
  | with_reducible refine r_lstRg ?_
  | with_reducible refine r_rg1 ?_
  | with_reducible refine r_eqN ?_
  | with_reducible refine r_lenI (by assumption) ?_
  | with_reducible refine r_lenH (by assumption) ?_
  | with_reducible refine r_ix0 (by assumption) ?_
  | with_reducible refine r_ix1 (by assumption) ?_
  | with_reducible refine r_ix2 (by assumption) ?_
  | with_reducible refine r_I (by first | decide | (unfold CPow; omega) | (unfold CDiv; omega) | (unfold CMul; omega) | omega) ?_
  | with_reducible refine r_iR1At (by omega) ?_
  | with_reducible refine r_ifP (by first | omega | exact rfl) ?_
  | with_reducible refine r_ifQ (by first | omega | with_unfolding_all decide) ?_
  | with_reducible refine r_ifNP (by omega) ?_
  | with_reducible refine r_ifNQ (by omega) ?_)
local macro_rules | `(tactic| walk_at "st") => `(tactic| repeat walk_at "s1")

theorem sc_law : FnScope ["_law_script", "_law_numbers_here", "_law_size", "_law_edges_here", "_law_terminals", "_law_network", "_law_rows", "_law_broken", "_law_left", "_law_vertex", "_law_number", "_law_rest", "_law_origins", "_law_first", "_law_second", "_law_back", "_law_found", "_law_again"] ["_law_script"] (defScope s_law) := ⟨rfl, rfl, rfl, by decide +kernel, rfl, by decide +kernel, by decide +kernel⟩
theorem ok_c_law {f : Addr} {fd : FuncData} (T : Tx K mg CN CR) (F : FnP K "law" "law" s_law f fd)
  (c__law_numbers : Cal P w K mg base 1 "_law_numbers" ["_law_script", "_law_many"] (spc__law_numbers TB CN CR K))
  (c__law_edges : Cal P w K mg base 1 "_law_edges" ["_law_numbers_here", "_law_at", "_law_size", "_law_many"] (spc__law_edges TB CN CR))
  (c__law_picked : Cal P w K mg base 1 "_law_picked" ["_law_numbers_here", "_law_at", "_law_size", "_law_many"] (spc__law_picked TB CN CR))
  (k_Network : CalK P w K mg base 2 CN "Network" ["self", "size", "edges"] (spk_Network TB CN CR))
  (c_reduction : Cal P w K mg base 7 "reduction" ["network", "terminals"] (spc_reduction TB CN CR))
  (c__law_run : Cal P w K mg base 4 "_law_run" ["_law_size", "_law_edges_here", "_law_terminals", "_law_rows"] (spc__law_run TB CN CR))
  (c_check_reduction : Cal P w K mg base 5 "check_reduction" ["network", "terminals", "rows"] (spc_check_reduction TB CN CR))
  (c__law_holds : Cal P w K mg base 3 "_law_holds" ["_law_size", "_law_left", "_law_terminals", "_law_row"] (spc__law_holds TB CN CR))
  (c__law_needless : Cal P w K mg base 2 "_law_needless" ["_law_left", "_law_terminals", "_law_number"] (spc__law_needless TB CN CR))
  (c_rest_of : Cal P w K mg base 5 "rest_of" ["network", "terminals", "rows"] (spc_rest_of TB CN CR))
  (c_told_tree : Cal P w K mg base 6 "told_tree" ["network", "terminals"] (spc_told_tree TB CN CR))
  (c_lead_back : Cal P w K mg base 1 "lead_back" ["origins", "numbers"] (spc_lead_back TB CN CR))
  (c__law_reach : Cal P w K mg base 1 "_law_reach" ["_law_edges_here", "_law_chosen", "_law_start", "_law_arcs"] (spc__law_reach TB CN CR))
  (c_price_of : Cal P w K mg base 2 "price_of" ["network", "numbers"] (spc_price_of TB CN CR))
  (mN_edges : CalM P w K mg base 1 CN "edges" ["self"] (spmN_edges TB CN CR)) : FnOk P w K mg base CX0 8 f fd ["_law_script"] (spc_law TB CN CR K) := by
  refine F.ok (k := 7) sc_law (fun vs H Q E h => by obtain ⟨sa, xs, rfl, _⟩ := h; rfl) (fun cdv A outer s H vs Q E hr h => ?_)
  have hu := hu_of hr
  have z1 := T.clN
  have z2 := T.clR
  have z3 := T.a_size
  have z4 := T.a_edges
  have z5 := T.r_size
  have z6 := T.r_terminals
  have z7 := T.r_edges
  have z8 := T.r_origins
  have z9 := T.r_next
  obtain ⟨sa, xs, rfl, h⟩ := h
  refine ⟨_, PSs.nox (pss_cons (ps_set (i := 1) sc_law.nd rfl (Or.inl rfl) (pe_c c__law_numbers (hr.mono (by decide)) rfl (pa_cons (pv 0) (pa_cons pe_int pa_nil))))
    (pss_cons (ps_set (i := 2) sc_law.nd rfl (Or.inl rfl) (pe_op op_add pe_int (pe_op op_mod (pe_callTy intQ (by rfl) T.n_int (by decide +kernel) (pa_cons (pe_ix (ixL (K := K)) (pv 1) pe_int (fun _ _ => rfl)) pa_nil)) pe_int)))
    (pss_cons (ps_set (i := 3) sc_law.nd rfl (Or.inl rfl) (pe_c c__law_edges (hr.mono (by decide)) rfl (pa_cons (pv 1) (pa_cons pe_int (pa_cons (pv 2) (pa_cons (pe_op op_mod (pe_callTy intQ (by rfl) T.n_int (by decide +kernel) (pa_cons (pe_ix (ixL (K := K)) (pv 1) pe_int (fun _ _ => rfl)) pa_nil)) pe_int) pa_nil))))))
    (pss_cons (ps_set (i := 4) sc_law.nd rfl (Or.inl rfl) (pe_c c__law_picked (hr.mono (by decide)) rfl (pa_cons (pv 1) (pa_cons pe_int (pa_cons (pv 2) (pa_cons (pe_op op_add pe_int (pe_op op_mod (pe_callTy intQ (by rfl) T.n_int (by decide +kernel) (pa_cons (pe_ix (ixL (K := K)) (pv 1) pe_int (fun _ _ => rfl)) pa_nil)) (pe_callB min2Q (by rfl) T.n_min (by decide +kernel) (pa_cons pe_int (pa_cons (pv 2) pa_nil))))) pa_nil))))))
    (pss_cons (ps_set (i := 5) sc_law.nd rfl (Or.inl rfl) (pe_k k_Network (hr.mono (by decide)) rfl (pa_cons (pv 2) (pa_cons (pv 3) pa_nil))))
    (pss_cons (ps_set (i := 6) sc_law.nd rfl (Or.inl rfl) (pe_c c_reduction (hr.mono (by decide)) rfl (pa_cons (pv 5) (pa_cons (pv 4) pa_nil))))
    (pss_cons (ps_asg (pe_c c__law_run (hr.mono (by decide)) rfl (pa_cons (pv 2) (pa_cons (pv 3) (pa_cons (pv 4) (pa_cons (pv 6) pa_nil))))) (gT (K := K) (pgs_cons (pg_name (i := 7) sc_law.nd rfl (Or.inl rfl)) (pgs_cons (pg_name (i := 8) sc_law.nd rfl (Or.inl rfl)) pgs_nil))))
    (pss_cons (ps_if (PW.pt (pw_or (pt_cmpR op_notN (pv 7) pe_non (nomark _)) (pw_or (pt_cmpR op_notBl (pe_c c_check_reduction (hr.mono (by decide)) rfl (pa_cons (pv 5) (pa_cons (pv 4) (pa_cons (pv 6) pa_nil)))) pe_bl (nomark _)) (pw_or1 (pt_not (pt_val (pe_callB (isiQ (K := K)) (by rfl) T.n_isinstance (by decide +kernel) (pa_cons (pv 6) (pa_cons (pe_bltn (v := V.ty "list") rfl T.n_list (by decide +kernel) rfl) pa_nil))))))))) (pss_one (ps_ret pe_bl)) pss_nil)
    (pss_cons (ps_for PassesOwn.never rfl (pi_range1 (by rfl) T.n_range (pa_cons (pv 2) pa_nil)) (pg_name (i := 9) sc_law.nd rfl (Or.inl rfl))
      (pss_one (ps_if (PW.pt (pw_or (pt_val (pe_c c__law_holds (hr.mono (by decide)) rfl (pa_cons (pv 2) (pa_cons (pv 8) (pa_cons (pv 4) (pa_cons (pe_tup (pa_cons pe_str (pa_cons (pv 9) pa_nil))) pa_nil)))))) (pw_or1 (pt_val (pe_c c__law_holds (hr.mono (by decide)) rfl (pa_cons (pv 2) (pa_cons (pv 8) (pa_cons (pv 4) (pa_cons (pe_tup (pa_cons pe_str (pa_cons (pv 9) pa_nil))) pa_nil))))))))) (pss_one (ps_ret pe_bl)) pss_nil)))
    (pss_cons (ps_for PassesOwn.never rfl (iL (K := K) (pe_callB sortedQD (by rfl) T.n_sorted (by decide +kernel) (pa_cons (pv 8) pa_nil))) (pg_name (i := 10) sc_law.nd rfl (Or.inl rfl))
      (pss_one (ps_if (pt_val (pe_c c__law_needless (hr.mono (by decide)) rfl (pa_cons (pv 8) (pa_cons (pv 4) (pa_cons (pv 10) pa_nil))))) (pss_one (ps_ret pe_bl)) pss_nil)))
    (pss_cons (ps_asg (pe_c c_rest_of (hr.mono (by decide)) rfl (pa_cons (pv 5) (pa_cons (pv 4) (pa_cons (pv 6) pa_nil)))) (gT (K := K) (pgs_cons (pg_name (i := 11) sc_law.nd rfl (Or.inl rfl)) (pgs_cons (pg_name (i := 12) sc_law.nd rfl (Or.inl rfl)) pgs_nil))))
    (pss_cons (ps_set (i := 13) sc_law.nd rfl (Or.inl rfl) (pe_c c_told_tree (hr.mono (by decide)) rfl (pa_cons (pv 5) (pa_cons (pv 4) pa_nil))))
    (pss_cons (ps_set (i := 14) sc_law.nd rfl (Or.inl rfl) (pe_c c_told_tree (hr.mono (by decide)) rfl (pa_cons (pv 11) (pa_cons (pv 4) pa_nil))))
    (pss_cons (ps_if (pt_cmpR op_ne (pe_cmpR op_isN (pv 13) pe_non (nomark _)) (pe_cmpR op_isN (pv 14) pe_non (nomark _)) (nomark _)) (pss_one (ps_ret pe_bl)) pss_nil)
    (pss_cons (ps_if (pt_cmpR op_notN (pv 13) pe_non (nomark _)) (pss_cons (ps_set (i := 15) sc_law.nd rfl (Or.inl rfl) (pe_c c_lead_back (hr.mono (by decide)) rfl (pa_cons (pv 12) (pa_cons (pv 14) pa_nil))))
    (pss_cons (ps_set (i := 16) sc_law.nd rfl (Or.inr rfl) (pe_c c__law_reach (hr.mono (by decide)) rfl (pa_cons (pv 3) (pa_cons (pv 15) (pa_cons (pe_ix (ixL (K := K)) (pv 4) pe_int (fun _ _ => rfl)) (pa_cons pe_bl pa_nil))))))
    (pss_cons (ps_if (PW.pt (pw_or (pt_cmpR op_gt (pe_callB (lenQ (K := K)) (by rfl) T.n_len (by decide +kernel) (pa_cons (pe_lc (own := [("_law_vertex", 9)]) (by rfl) sc_law.nd (iL (K := K) (pv 4)) (blkOk_by (own := [("_law_vertex", 9)]) (N := ["_law_script", "_law_numbers_here", "_law_size", "_law_edges_here", "_law_terminals", "_law_network", "_law_rows", "_law_broken", "_law_left", "_law_vertex", "_law_number", "_law_rest", "_law_origins", "_law_first", "_law_second", "_law_back", "_law_found", "_law_again"]) (sc := defScope s_law) (by decide +kernel)) (fun _ _ _ _ _ => pg_name (i := 9) sc_law.nd rfl (Or.inl rfl)) (fun _ _ _ _ _ => pts_one (pt_cmpR (notInL (K := K)) (pv 9) (pv 16) (by rfl))) (fun _ _ _ _ _ => (pv 9))) pa_nil)) pe_int (nomark _)) (pw_or1 (pt_cmpR (op_neD hr.units) (pv 15) (pe_callB (sortedQ (K := K)) (by rfl) T.n_sorted (by decide +kernel) (pa_cons (pv 15) pa_nil)) (nomark _))))) (pss_one (ps_ret pe_bl)) pss_nil)
    (pss_one (ps_if (PW.pt (pw_or (pt_cmpR op_ne (pe_c c_price_of (hr.mono (by decide)) rfl (pa_cons (pv 5) (pa_cons (pv 15) pa_nil))) (pe_c c_price_of (hr.mono (by decide)) rfl (pa_cons (pv 5) (pa_cons (pv 13) pa_nil))) (nomark _)) (pw_or1 (pt_cmpR op_ne (pe_c c_price_of (hr.mono (by decide)) rfl (pa_cons (pv 11) (pa_cons (pv 14) pa_nil))) (pe_c c_price_of (hr.mono (by decide)) rfl (pa_cons (pv 5) (pa_cons (pv 13) pa_nil))) (nomark _))))) (pss_one (ps_ret pe_bl)) pss_nil))))) pss_nil)
    (pss_cons (ps_expr (bm (K := K) (pe_bm PySem.F.plainAttrs_list PySem.F.slot_list_append PySem.F.type_list_append mt_append (pv 6) (pa_cons (pe_tup (pa_cons pe_str (pa_cons pe_int pa_nil))) pa_nil))))
    (pss_cons (ps_set (i := 17) sc_law.nd rfl (Or.inl rfl) (pe_c c_reduction (hr.mono (by decide)) rfl (pa_cons (pv 5) (pa_cons (pv 4) pa_nil))))
    (pss_one (ps_ret (pe_and (pe_cmpR op_isBl (pe_c c_check_reduction (hr.mono (by decide)) rfl (pa_cons (pv 5) (pa_cons (pv 4) (pa_cons (pv 17) pa_nil)))) pe_bl (nomark _)) (pe_one (pe_cmpR (op_eqD hr.units) (pe_m0 mN_edges (pv 5) T.clN (hr.mono (by decide))) (pv 3) (nomark _))))))))))))))))))))))), ?_⟩
  obtain ⟨h1, hT, q⟩ := h
  walk_at "st"
  refine ⟨sa, xs, rfl, h1, fun nl H1 ns G1 k1 l60 rng => ?_⟩
  have nat : ∀ j : Int, 0 ≤ j → j < 60 → ∃ x, atI (ns.map V.int) j = some (.int x) ∧ 0 ≤ x ∧ x < 65536 := fun j j0 j1 => by
    have hj : j.toNat < ns.length := by omega
    exact ⟨_, at_ints j0 (List.getElem?_eq_getElem hj), rng _ (List.getElem_mem hj)⟩
  obtain ⟨x0, e0, a0, b0⟩ := nat 0 (by omega) (by omega)
  obtain ⟨x1, e1, a1, b1⟩ := nat 1 (by omega) (by omega)
  obtain ⟨x2, e2, a2, b2⟩ := nat 2 (by omega) (by omega)
  walk_at "st"
  refine r_ixL (SqL.of k1) e0 ?_
  walk_at "st"
  generalize hn : 1 + x0 % 8 = n
  have n0 : 1 ≤ n ∧ n ≤ 8 := by omega
  clear hn
  refine r_ixL (SqL.of k1) e1 ?_
  walk_at "st"
  refine ⟨nl, ns, n, x1 % 13, rfl, k1, l60, rng, n0.1, n0.2, by omega, by omega, fun el H2 es G2 r2 el12 eg => ?_⟩
  have k1' := G2.lst k1
  walk_at "st"
  refine r_ixL (SqL.of k1') e2 ?_
  walk_at "st"
  refine ⟨nl, ns, n, _, rfl, k1', l60, rng, n0.1, n0.2, ?_, ?_, ?_, fun tl H3 ts G3 kt gt => ?_⟩
  · have h0 := Int.emod_nonneg x2 (show (if n < 4 then n else 4) ≠ 0 by split <;> omega)
    omega
  · have h1' := Int.emod_lt_of_pos x2 (show 0 < (if n < 4 then n else 4) by split <;> omega)
    have : (if n < 4 then n else 4) ≤ 4 := by split <;> omega
    omega
  · have h1' := Int.emod_lt_of_pos x2 (show 0 < (if n < 4 then n else 4) by split <;> omega)
    have : (if n < 4 then n else 4) ≤ n := by split <;> omega
    omega
  have gn : GoodN n es := ⟨n0.1, by omega, by omega, eg⟩
  walk_at "st"
  refine mk_new (T := TB) fun na dna H3b hna G3b kna => ?_
  refine ⟨na, dna, n, el, es, rfl, kna, mL mE _ _ _ _ (G3.trans G3b).extN r2, gn, fun H4 G4 N4 => ⟨rfl, ?_⟩⟩
  have G34 : Gx TB [] H3 H4 := ((G3b.mono (by simp)).trans G4).drop (Off.none hna)
  have G24 := G3.trans G34
  have G14 : Gx TB [] H H4 := (G1.trans G2).trans G24
  have r24 := mL mE _ _ _ _ G24.extN r2
  have kt4 := G34.lst kt
  have T4 := G14.tab hT
  walk_at "st"
  refine ⟨na, tl, n, es, ts, rfl, N4, gn, by omega, kt4, gt, T4, fun rl H5 rows S nx orl G45 rr run full => ?_⟩
  obtain ⟨rvs, kr, rp⟩ := rr.lst
  have rvl := prd_len rp
  have N5 := N4.mono G45.extN
  have ok0 : OkS n (startS es) es.length := by
    have hl : (startS es).length = es.length := by rw [← List.length_map (f := ed), startS_ed]
    refine ⟨⟨es, startS_ok gn.all⟩, by omega, ?_⟩
    have e : wt ol (startS es) = wt (fun _ => 1) (startS es) := wt_congr fun s hs => by
      obtain ⟨i, hi⟩ := List.mem_iff_getElem?.mp hs
      rw [startS_at] at hi
      obtain ⟨e, h1, h2⟩ := Option.map_eq_some_iff.mp hi
      subst h2; rfl
    rw [e, len_wt]; omega
  obtain ⟨okS, lenS⟩ := ok0.run run
  have r40 := ok0.2.1
  have s40 := okS.2.1
  walk_at "st"
  refine ⟨n, el, tl, rl, es, ts, rows, S, nx, rfl, mL mE _ _ _ _ G45.extN r24, gn, by omega, G45.lst kt4, rr, run, fun bp H6 ld G6 kb L6 => ?_⟩
  walk_at "st"
  have G46 := G45.trans G6
  have rr6 := mL mRow _ _ _ _ G6.extN rr
  walk_at "st"
  refine r_ifNQ rfl ?_
  walk_at "st"
  refine ⟨na, tl, rl, n, es, ts, rows, S, nx, rfl, N4.mono G46.extN, gn, by omega, G46.lst kt4, gt, rr6, run, fun H7 G7 => ?_⟩
  have G57 := G6.trans G7
  have L7 := L6.mono G7.extN
  walk_at "st"
  refine r_notB ?_
  walk_at "st"
  refine r_ifNQ rfl ?_
  walk_at "st"
  refine r_isiList (G57.lst kr) ?_
  walk_at "st"
  have hts : ∀ t ∈ ts, 0 ≤ t ∧ t < n := gt.rng
  -- no leaf, no series
  refine for_range (fun i σ A => ∃ o9, σ = [some (.ref sa), some (.ref nl), some (.int n), some (.ref el), some (.ref tl), some (.ref na), some (.ref rl), some .non, some (.ref ld), o9, none, none, none, none, none, none, none, none] ∧ Gx TB [] H7 A) ⟨_, rfl, Gx.refl⟩ (fun i σ A hi ⟨o9, es', GA⟩ => ?_) fun σ A ⟨o9, es', GA⟩ => ?_
  · subst es'
    obtain ⟨f1, f2⟩ := full.vert (0 + (i : Int)) (by omega) (by omega)
    walk_at "st"
    refine ⟨by simp [sizeLine_eq], fun t1 ht1 => ?_⟩
    have X1 : Gx TB [] A (upd A t1 (.tup [.str "leaf", .int (0 + (i : Int))])) := Gx.refl.new ht1
    have c1 : (upd A t1 (.tup [.str "leaf", .int (0 + (i : Int))])) t1 = _ := upd_same
    generalize upd A t1 (.tup [.str "leaf", .int (0 + (i : Int))]) = A1 at *
    have Y1 := GA.trans X1
    walk_at "st"
    refine ⟨n, ld, tl, t1, S, nx, ts, .leaf (0 + (i : Int)), rfl, L7.mono Y1.extN, okS, ((G57.trans Y1).lst (G45.lst kt4)), ⟨t1, rfl, c1⟩, fun A2 X2 => ?_⟩
    rw [show holdsB n ts S (.leaf (0 + (i : Int))) = false from f1]
    have Y2 := Y1.trans X2
    walk_at "st"
    refine ⟨by simp [sizeLine_eq], fun t2 ht2 => ?_⟩
    have X3 : Gx TB [] A2 (upd A2 t2 (.tup [.str "series", .int (0 + (i : Int))])) := Gx.refl.new ht2
    have c2 : (upd A2 t2 (.tup [.str "series", .int (0 + (i : Int))])) t2 = _ := upd_same
    generalize upd A2 t2 (.tup [.str "series", .int (0 + (i : Int))]) = A3 at *
    have Y3 := Y2.trans X3
    walk_at "st"
    refine ⟨n, ld, tl, t2, S, nx, ts, .series (0 + (i : Int)), rfl, L7.mono Y3.extN, okS, ((G57.trans Y3).lst (G45.lst kt4)), ⟨t2, rfl, c2⟩, fun A4 X4 => ?_⟩
    rw [show holdsB n ts S (.series (0 + (i : Int))) = false from f2]
    walk_at "st"
    exact ⟨_, rfl, Y3.trans X4⟩
  subst es'
  have LA := L7.mono GA.extN
  have G5A := G57.trans GA
  walk_at "st"
  -- no edge that is needless
  refine LA.sorted (TB := TB) okS fun sl B hsl GB ks => ?_
  refine r_iLH ks ?_
  have G5B := G5A.trans GB
  refine for_list (xs := (S.map (·.1)).map V.int) (fun i σ C => ∃ o10, σ = [some (.ref sa), some (.ref nl), some (.int n), some (.ref el), some (.ref tl), some (.ref na), some (.ref rl), some .non, some (.ref ld), o9, o10, none, none, none, none, none, none, none] ∧ Gx TB [] B C) ⟨_, rfl, Gx.refl⟩ (fun i σ C _ ⟨_, _, GC⟩ => SqL.of (GC.lst ks)) (fun i x σ C hx ⟨o10, es', GC⟩ => ?_) fun σ C ⟨o10, es', GC⟩ => ?_
  · subst es'
    rw [List.getElem?_map, List.getElem?_map] at hx
    obtain ⟨k, hk, rfl⟩ := Option.map_eq_some_iff.mp hx
    obtain ⟨s, hs, rfl⟩ := Option.map_eq_some_iff.mp hk
    have hsm := List.mem_of_getElem? hs
    have Y := GB.trans GC
    walk_at "st"
    refine ⟨ld, tl, n, S, nx, ts, s, rfl, LA.mono Y.extN, okS, (G5B.trans GC).lst (G45.lst kt4), hts, gt.l1, by omega, hsm, full.edge s hsm, fun C2 X2 => ?_⟩
    walk_at "st"
    exact ⟨_, rfl, GC.trans X2⟩
  subst es'
  have G5C := G5B.trans GC
  have G4C := G45.trans G5C
  walk_at "st"
  refine ⟨na, tl, rl, n, es, ts, rows, S, nx, rfl, N4.mono G4C.extN, gn, by omega, G4C.lst kt4, gt, mL mRow _ _ _ _ G5C.extN rr, run, fun tp D bn on GD ktp ND oD => ?_⟩
  walk_at "st"
  have G4D := G4C.trans GD
  walk_at "st"
  refine ⟨na, tl, n, es, ts, rfl, N4.mono G4D.extN, gn, G4D.lst kt4, gt, G4D.tab T4, fun v1 E w1 GE rv1 told1 => ?_⟩
  have gnS : GoodN n (S.map ed) := ⟨n0.1, by omega, by rw [List.length_map]; omega, fun e he => by
    obtain ⟨s, hs, rfl⟩ := List.mem_map.mp he
    exact okS.good s hs⟩
  have G4E := G4D.trans GE
  have NE := ND.mono GE.extN
  have oE := mL mLI _ _ _ _ GE.extN oD
  walk_at "st"
  refine ⟨bn, tl, n, S.map ed, ts, rfl, NE, gnS, G4E.lst kt4, gt, G4E.tab T4, fun v2 F w2 GF rv2 told2 => ?_⟩
  have G4F := G4E.trans GF
  have rv1' : RON F v1 w1 := by
    cases w1 with
    | none => exact rv1
    | some w => exact mLI _ _ _ _ GF.extN rv1
  rcases told_same gn.all hts run told1 told2 with ⟨z1, z2⟩ | ⟨ns1, ns2, z1, z2, I, eI, rI', back1, pri2, brng, nrng⟩
  · subst z1 z2
    obtain rfl : v1 = .non := rv1'
    obtain rfl : v2 = .non := rv2
    walk_at "st"
    refine r_neB ?_
    walk_at "st"
    refine r_ifNQ rfl ?_
    walk_at "st"
    refine r_ifNQ rfl ?_
    have AA0 := (Gx.refl : Gx TB [] H5 H5)
    have AA : Gx TB [] H5 F := ((G5C.trans GD).trans GE).trans GF
    generalize F = A at *
    walk_at "st"
    refine ⟨tyV_lst (AA.lst kr), ?_⟩
    walk_at "st"
    refine ⟨by simp [sizeLine_eq], fun ft hft => ?_⟩
    have Gf : Gx TB [] A (upd A ft (.tup [.str "leaf", .int 0])) := Gx.refl.new hft
    generalize upd A ft (.tup [.str "leaf", .int 0]) = A1 at *
    have krA := Gf.lst (AA.lst kr)
    walk_at "st"
    refine r_append krA (by rw [sizeLine_eq]; omega) ?_
    have GA1 : Gx TB [rl] H4 (upd A1 rl (.lst (rvs ++ [.ref ft]))) := (((G45.trans AA0).trans (AA.trans Gf)).mono (by simp)).mut (by simp) krA trivial
    have GA2 := GA1.drop orl
    generalize upd A1 rl (.lst (rvs ++ [.ref ft])) = A2 at *
    walk_at "st"
    refine ⟨na, tl, n, es, ts, rfl, (N4.mono GA2.extN), gn, by omega, GA2.lst kt4, gt, (GA2.tab T4), fun pl A3 rows2 S2 nx2 _ G3 rr2 run2 _ => ?_⟩
    have GA3 := GA2.trans G3
    walk_at "st"
    refine ⟨na, tl, pl, n, es, ts, rows2, S2, nx2, rfl, N4.mono GA3.extN, gn, by omega, GA3.lst kt4, gt, rr2, run2, fun A4 G4' => ?_⟩
    have GA4 := GA3.trans G4'
    have N4' := N4.mono GA4.extN
    obtain ⟨_, _, nn4, _⟩ := id N4'
    walk_at "st"
    refine r_isB ?_
    walk_at "st"
    refine ⟨na, n, es, rfl, N4', fun el2 A5 _ G5' r5 => ?_⟩
    obtain ⟨vs5, u1, u2⟩ := r5.lst
    obtain ⟨vs6, u3, u4⟩ := (mL mE _ _ _ _ (GA4.trans G5').extN r24).lst
    walk_at "st"
    refine ⟨_, _, .lst (SqL.of u1) (dp_es u2), .lst (SqL.of u3) (dp_es u4), edDs_shaped es, edDs_shaped es, ?_⟩
    rw [edDs_eqv es]
    exact q _ ((G14.trans GA4).trans G5')
  · subst z1 z2
    obtain ⟨p1, rfl, kp1⟩ : RLI F v1 ns1 := rv1'
    obtain ⟨p2, rfl, kp2⟩ : RLI F v2 ns2 := rv2
    have NF := NE.mono GF.extN
    have oF := mL mLI _ _ _ _ GF.extN oE
    have nd2 : ns2.Nodup := by
      obtain ⟨J, j1, j2, _⟩ := told2
      rw [j1]
      exact List.pairwise_map.mpr (j2.imp fun h => by omega)
    have rng2 : ∀ k ∈ ns2, 0 ≤ k ∧ k < (S.map (·.2.2)).length := fun k hk => by
      rw [eI] at hk
      obtain ⟨i, hi, rfl⟩ := List.mem_map.mp hk
      have := rI' i hi
      rw [List.length_map]; omega
    walk_at "st"
    refine r_neB ?_
    walk_at "st"
    refine r_ifNQ (by simp) ?_
    walk_at "st"
    refine r_ifNP (fun z => by cases z) ?_
    walk_at "st"
    refine ⟨on, p2, S.map (·.2.2), ns2, rfl, oF, kp2, rng2, nd2, by rw [List.length_map]; omega, ?_, ?_, fun bl K1 back GK kbk bsrt bmem => ?_⟩
    · have := okS.2.2
      unfold wt ol at this
      unfold wt
      rw [List.map_map]
      exact this
    · intro o ho x hx
      obtain ⟨s, hs, rfl⟩ := List.mem_map.mp ho
      obtain ⟨es0, hes⟩ := run.ok (startS_ok gn.all)
      have := es0.rng s hs x hx
      omega
    have bnd : back.Nodup := bsrt.imp fun h => Int.ne_of_lt h
    have bm2 : ∀ o, o ∈ back ↔ o ∈ backI (entN S I) := fun o => by
      rw [bmem o, eI]
      unfold backI entN
      rw [List.mem_flatMap]
      constructor
      · rintro ⟨k, hk, os, ho, hx⟩
        obtain ⟨i, hi, rfl⟩ := List.mem_map.mp hk
        rw [Int.toNat_natCast, List.getElem?_map] at ho
        obtain ⟨s, hs, rfl⟩ := Option.map_eq_some_iff.mp ho
        exact ⟨s, List.mem_filterMap.mpr ⟨i, hi, hs⟩, hx⟩
      · rintro ⟨s, hs, hx⟩
        obtain ⟨i, hi, e⟩ := List.mem_filterMap.mp hs
        exact ⟨(i : Int), List.mem_map.mpr ⟨i, hi, rfl⟩, s.2.2, by rw [Int.toNat_natCast, List.getElem?_map, e]; rfl, hx⟩
    obtain ⟨bspan, bprice⟩ := back1 back bnd bm2
    have bkr : ∀ k ∈ back, 0 ≤ k ∧ k < es.length := fun k hk => brng k ((bm2 k).mp hk)
    have blen : back.length ≤ 12 := by
      have h : ∀ x ∈ back, x ∈ (List.range es.length).map fun i => ((i : Nat) : Int) := fun x hx => by
        obtain ⟨b0, b1⟩ := bkr x hx
        exact List.mem_map.mpr ⟨x.toNat, List.mem_range.mpr (by omega), by omega⟩
      have := nodup_len bnd h
      rw [List.length_map, List.length_range] at this
      omega
    have G4K := G4F.trans GK
    have kt0 : atI (ts.map V.int) 0 = some (.int (ts[0]'gt.l0)) := at_ints (by omega) (List.getElem?_eq_getElem gt.l0)
    have t0m : ts[0]'gt.l0 ∈ ts := List.getElem_mem gt.l0
    generalize ts[0]'gt.l0 = t0 at *
    walk_at "st"
    refine r_ixL (SqL.of (G4K.lst kt4)) kt0 ?_
    walk_at "st"
    refine ⟨el, bl, t0, es, back, rfl, mL mE _ _ _ _ G4K.extN r24, kbk, bkr, by omega, fun fl K2 fd GK2 kfd reach => ?_⟩
    have G4K2 := G4K.trans GK2
    have kt2 := G4K2.lst kt4
    walk_at "st"
    refine r_iLH kt2 fun Dc hDc => lc_listR (T := TB) (R := RI) (F := RI) mI mI (fun x => if x ∈ fd then none else some x) hDc kt2 (ints_prd _) (by have := gt.l1; rw [sizeLine_eq]; omega) (fun k x K3 N KY hk hx G9 _ hne hy hn => ?_) fun K3 G9 r9 => ?_
    · subst hx
      have hin : k ∈ fd := reach k (bspan t0 t0m k hk)
      walk_at "st"
      refine ⟨rfl, ?_⟩
      walk_at "st"
      refine r_niI (SqL.of (G9.lst kfd)) ?_
      walk_at "st"
      exact hn _ (if_pos hin) Gx.refl
    have e9 : ts.filterMap (fun x => if x ∈ fd then none else some x) = [] := by
      rw [List.filterMap_eq_nil_iff]
      exact fun x hx => if_pos (reach x (bspan t0 t0m x hx))
    have k9 := r9.ints
    rw [e9] at k9
    have kb9 := (GK2.trans G9).lst kbk
    walk_at "st"
    refine ⟨bl, back, rfl, SqL.of kb9, fun so sp hperm hsort hsp => ?_⟩
    have eso : so = back := perm_sorted hperm hsort (bsrt.imp fun h => Int.le_of_lt h)
    subst eso
    have G10 : Gx TB [] K3 (upd K3 sp (.lst (so.map V.int))) := Gx.refl.new hsp
    have ksp : (upd K3 sp (.lst (so.map V.int))) sp = _ := upd_same
    generalize upd K3 sp (.lst (so.map V.int)) = K4 at *
    have kb10 := G10.lst kb9
    walk_at "st"
    refine ⟨_, _, .lst (SqL.of kb10) (dp_ints so), .lst (SqL.of ksp) (dp_ints so), ints_shaped so, ints_shaped so, ?_⟩
    rw [ints_eqv so]
    have G4M := (G4K2.trans G9).trans G10
    have GFM := ((GK.trans GK2).trans G9).trans G10
    have ns1len : ns1.length ≤ 300 := by
      obtain ⟨J, j1, j2, j3, _⟩ := told1
      have := nodup_len (M := List.range es.length) (j2.imp fun h => Nat.ne_of_lt h) fun x hx => List.mem_range.mpr (j3 x hx)
      rw [List.length_range] at this
      rw [j1, List.length_map]; omega
    have ns2len : ns2.length ≤ 300 := by
      have h : ∀ x ∈ ns2, x ∈ (List.range (S.map (·.2.2)).length).map fun i => ((i : Nat) : Int) := fun x hx => by
        obtain ⟨b0, b1⟩ := rng2 x hx
        exact List.mem_map.mpr ⟨x.toNat, List.mem_range.mpr (by omega), by omega⟩
      have := nodup_len nd2 h
      rw [List.length_map, List.length_range, List.length_map] at this
      omega
    walk_at "st"
    refine ⟨na, bl, n, es, so, rfl, N4.mono G4M.extN, gn, kb10, bkr, by omega, fun M1 X1 => ?_⟩
    have Y1 := G4M.trans X1
    walk_at "st"
    refine ⟨na, p1, n, es, ns1, rfl, N4.mono Y1.extN, gn, (GFM.trans X1).lst kp1, nrng, ns1len, fun M2 X2 => ?_⟩
    have Y2 := Y1.trans X2
    have ep1 : priceOf es so = priceOf es ns1 := bprice
    rw [ep1]
    walk_at "st"
    refine ⟨bn, p2, n, S.map ed, ns2, rfl, NF.mono ((GFM.trans X1).trans X2).extN, gnS, ((GFM.trans X1).trans X2).lst kp2, fun k hk => by have := rng2 k hk; rw [List.length_map] at this ⊢; exact this, ns2len, fun M3 X3 => ?_⟩
    have Y3 := Y2.trans X3
    walk_at "st"
    refine ⟨na, p1, n, es, ns1, rfl, N4.mono Y3.extN, gn, (((GFM.trans X1).trans X2).trans X3).lst kp1, nrng, ns1len, fun M4 X4 => ?_⟩
    have ep2 : priceOf (S.map ed) ns2 = priceOf es ns1 := by
      show wt (Pi (S.map ed)) ns2 = wt (Pi es) ns1
      rw [← pri2, wt_Pi, eI, List.map_map, ← wt_ent I rI']
      congr 1
      rw [List.map_congr_left (g := id) fun i _ => by simp]; simp
    rw [ep2]
    walk_at "st"
    have AA0 := (Gx.refl : Gx TB [] H5 H5)
    have AA : Gx TB [] H5 M4 := (((((((G5C.trans GD).trans GE).trans GF).trans GFM).trans X1).trans X2).trans X3).trans X4
    generalize M4 = A at *
    walk_at "st"
    refine ⟨tyV_lst (AA.lst kr), ?_⟩
    walk_at "st"
    refine ⟨by simp [sizeLine_eq], fun ft hft => ?_⟩
    have Gf : Gx TB [] A (upd A ft (.tup [.str "leaf", .int 0])) := Gx.refl.new hft
    generalize upd A ft (.tup [.str "leaf", .int 0]) = A1 at *
    have krA := Gf.lst (AA.lst kr)
    walk_at "st"
    refine r_append krA (by rw [sizeLine_eq]; omega) ?_
    have GA1 : Gx TB [rl] H4 (upd A1 rl (.lst (rvs ++ [.ref ft]))) := (((G45.trans AA0).trans (AA.trans Gf)).mono (by simp)).mut (by simp) krA trivial
    have GA2 := GA1.drop orl
    generalize upd A1 rl (.lst (rvs ++ [.ref ft])) = A2 at *
    walk_at "st"
    refine ⟨na, tl, n, es, ts, rfl, (N4.mono GA2.extN), gn, by omega, GA2.lst kt4, gt, (GA2.tab T4), fun pl A3 rows2 S2 nx2 _ G3 rr2 run2 _ => ?_⟩
    have GA3 := GA2.trans G3
    walk_at "st"
    refine ⟨na, tl, pl, n, es, ts, rows2, S2, nx2, rfl, N4.mono GA3.extN, gn, by omega, GA3.lst kt4, gt, rr2, run2, fun A4 G4' => ?_⟩
    have GA4 := GA3.trans G4'
    have N4' := N4.mono GA4.extN
    obtain ⟨_, _, nn4, _⟩ := id N4'
    walk_at "st"
    refine r_isB ?_
    walk_at "st"
    refine ⟨na, n, es, rfl, N4', fun el2 A5 _ G5' r5 => ?_⟩
    obtain ⟨vs5, u1, u2⟩ := r5.lst
    obtain ⟨vs6, u3, u4⟩ := (mL mE _ _ _ _ (GA4.trans G5').extN r24).lst
    walk_at "st"
    refine ⟨_, _, .lst (SqL.of u1) (dp_es u2), .lst (SqL.of u3) (dp_es u4), edDs_shaped es, edDs_shaped es, ?_⟩
    rw [edDs_eqv es]
    exact q _ ((G14.trans GA4).trans G5')
end TW
end

section
set_option Elab.async false
set_option linter.all false
set_option maxRecDepth 100000
set_option maxHeartbeats 1000000
namespace TW
open PySem PySem.Spec PyProof.Rows L2 LamX NdefX StX
section
variable {P : Program} {w : World} {K : PySem.W.Frag} {mg : Str → Option Value} {base : Heap}
theorem tx_of (X : K.In base) (G : base.Ns mainGlobals mg) (d : He.SaysD fcts fns K) : Tx K mg (He.ga K "Network") (He.ga K "Rest") where
  clN := He.cls_ok (d.fact 30)
  clR := He.cls_ok (d.fact 35)
  a_size := He.noat_ok (d.fact 52)
  a_edges := He.noat_ok (d.fact 53)
  r_size := He.noat_ok (d.fact 54)
  r_terminals := He.noat_ok (d.fact 55)
  r_edges := He.noat_ok (d.fact 56)
  r_origins := He.noat_ok (d.fact 57)
  r_next := He.noat_ok (d.fact 58)
  c_MOST_VERTICES := He.int_ok X G (d.fact 59)
  c_MOST_EDGES := He.int_ok X G (d.fact 60)
  c_MOST_PRICE := He.int_ok X G (d.fact 61)
  c_PRICE_SHIFT := He.int_ok X G (d.fact 62)
  c_COUNT_SHIFT := He.int_ok X G (d.fact 63)
  c_TIE_BITS := He.int_ok X G (d.fact 64)
  c_MOST_TERMINALS := He.int_ok X G (d.fact 65)
  n_len := He.free_ok X G (d.fact 66)
  n_range := He.free_ok X G (d.fact 67)
  n_sorted := He.free_ok X G (d.fact 68)
  n_min := He.free_ok X G (d.fact 69)
  n_max := He.free_ok X G (d.fact 70)
  n_sum := He.free_ok X G (d.fact 71)
  n_list := He.free_ok X G (d.fact 72)
  n_dict := He.free_ok X G (d.fact 73)
  n_set := He.free_ok X G (d.fact 74)
  n_int := He.free_ok X G (d.fact 75)
  n_abs := He.free_ok X G (d.fact 76)
  n_isinstance := He.free_ok X G (d.fact 77)
/-- the tables of the two defs that hold a lambda -/
abbrev tabsOf (K : PySem.W.Frag) : Tbs := [((He.cT K ("spread", none)).2, ("spread.<locals>." : Str) ++ "<lambda>"), ((He.cT K ("Rest", some "paths_from")).2, ("Rest.paths_from.<locals>." : Str) ++ "<lambda>")]
theorem law_fn (X : K.In base) (G : base.Ns mainGlobals mg) (d : He.SaysD fcts fns K) (more : noMore K = true) (t1 : TabB base mg (He.cT K ("spread", none)).1 (He.cT K ("spread", none)).2) (t2 : TabB base mg (He.cT K ("Rest", some "paths_from")).1 (He.cT K ("Rest", some "paths_from")).2)
    {fd : FuncData} (F : FnP K "law" "law" s_law (He.ga K "law") fd) : FnOk P w K mg base CX0 8 (He.ga K "law") fd ["_law_script"] (spc_law (tabsOf K) (He.ga K "Network") (He.ga K "Rest") K) := by
  have T := tx_of X G d
  have ne : (He.cT K ("spread", none)).2 ≠ (He.cT K ("Rest", some "paths_from")).2 := of_decide_eq_true more
  obtain ⟨fd_c_check_edge, F0_c_check_edge⟩ := d.def_ 0 (d := d_check_edge)
  have F_c_check_edge : FnP K "check_edge" "check_edge" s_check_edge (He.fAd K ("check_edge", none)) fd_c_check_edge := F0_c_check_edge
  have c_check_edge : Cal P w K mg base 1 "check_edge" ["size", "edge", "number"] (spc_check_edge (tabsOf K) (He.ga K "Network") (He.ga K "Rest")) := ⟨_, fd_c_check_edge, He.glo_ok X G (d.fact 0), F_c_check_edge.kp, F_c_check_edge.bindsN (fun _ _ _ _ _ _ us hl => by match us, hl with | [a0, a1, a2], _ => rfl), ok_c_check_edge T F_c_check_edge ⟩
  obtain ⟨fd_k_Network, F0_k_Network⟩ := d.def_ 1 (d := dN_init)
  have F_k_Network : FnP K "__init__" "Network.__init__" sN_init (He.fAd K ("Network", some "__init__")) fd_k_Network := F0_k_Network
  have k_Network : CalK P w K mg base 2 (He.ga K "Network") "Network" ["self", "size", "edges"] (spk_Network (tabsOf K) (He.ga K "Network") (He.ga K "Rest")) := ⟨_, fd_k_Network, He.mkr_ok (d.fact 31), He.glo_ok X G (d.fact 29), F_k_Network.bindsN (fun _ _ _ _ _ _ us hl => by match us, hl with | [a0, a1, a2], _ => rfl), ok_k_Network T F_k_Network c_check_edge⟩
  obtain ⟨fd_mN_size, F0_mN_size⟩ := d.def_ 2 (d := dN_size)
  have F_mN_size : FnP K "size" "Network.size" sN_size (He.fAd K ("Network", some "size")) fd_mN_size := F0_mN_size
  have mN_size : CalM P w K mg base 1 (He.ga K "Network") "size" ["self"] (spmN_size (tabsOf K) (He.ga K "Network") (He.ga K "Rest")) := ⟨_, fd_mN_size, He.meth_ok (d.fact 32), F_mN_size.bindsN (fun _ _ _ _ _ _ us hl => by match us, hl with | [a0], _ => rfl), ok_mN_size T F_mN_size ⟩
  obtain ⟨fd_mN_edges, F0_mN_edges⟩ := d.def_ 3 (d := dN_edges)
  have F_mN_edges : FnP K "edges" "Network.edges" sN_edges (He.fAd K ("Network", some "edges")) fd_mN_edges := F0_mN_edges
  have mN_edges : CalM P w K mg base 1 (He.ga K "Network") "edges" ["self"] (spmN_edges (tabsOf K) (He.ga K "Network") (He.ga K "Rest")) := ⟨_, fd_mN_edges, He.meth_ok (d.fact 33), F_mN_edges.bindsN (fun _ _ _ _ _ _ us hl => by match us, hl with | [a0], _ => rfl), ok_mN_edges T F_mN_edges ⟩
  obtain ⟨fd_c_check_terminals, F0_c_check_terminals⟩ := d.def_ 4 (d := d_check_terminals)
  have F_c_check_terminals : FnP K "check_terminals" "check_terminals" s_check_terminals (He.fAd K ("check_terminals", none)) fd_c_check_terminals := F0_c_check_terminals
  have c_check_terminals : Cal P w K mg base 2 "check_terminals" ["network", "terminals", "most"] (spc_check_terminals (tabsOf K) (He.ga K "Network") (He.ga K "Rest")) := ⟨_, fd_c_check_terminals, He.glo_ok X G (d.fact 1), F_c_check_terminals.kp, F_c_check_terminals.bindsN (fun _ _ _ _ _ _ us hl => by match us, hl with | [a0, a1, a2], _ => rfl), ok_c_check_terminals T F_c_check_terminals mN_size⟩
  obtain ⟨fd_c_weight, F0_c_weight⟩ := d.def_ 5 (d := d_weight)
  have F_c_weight : FnP K "weight" "weight" s_weight (He.fAd K ("weight", none)) fd_c_weight := F0_c_weight
  have c_weight : Cal P w K mg base 1 "weight" ["number", "price"] (spc_weight (tabsOf K) (He.ga K "Network") (He.ga K "Rest")) := ⟨_, fd_c_weight, He.glo_ok X G (d.fact 2), F_c_weight.kp, F_c_weight.bindsN (fun _ _ _ _ _ _ us hl => by match us, hl with | [a0, a1], _ => rfl), ok_c_weight T F_c_weight ⟩
  obtain ⟨fd_c_price_of, F0_c_price_of⟩ := d.def_ 12 (d := d_price_of)
  have F_c_price_of : FnP K "price_of" "price_of" s_price_of (He.fAd K ("price_of", none)) fd_c_price_of := F0_c_price_of
  have c_price_of : Cal P w K mg base 2 "price_of" ["network", "numbers"] (spc_price_of (tabsOf K) (He.ga K "Network") (He.ga K "Rest")) := ⟨_, fd_c_price_of, He.glo_ok X G (d.fact 9), F_c_price_of.kp, F_c_price_of.bindsN (fun _ _ _ _ _ _ us hl => by match us, hl with | [a0, a1], _ => rfl), ok_c_price_of T F_c_price_of mN_edges⟩
  obtain ⟨fd_c_edges_of, F0_c_edges_of⟩ := d.def_ 6 (d := d_edges_of)
  have F_c_edges_of : FnP K "edges_of" "edges_of" s_edges_of (He.fAd K ("edges_of", none)) fd_c_edges_of := F0_c_edges_of
  have c_edges_of : Cal P w K mg base 1 "edges_of" ["label"] (spc_edges_of (tabsOf K) (He.ga K "Network") (He.ga K "Rest")) := ⟨_, fd_c_edges_of, He.glo_ok X G (d.fact 3), F_c_edges_of.kp, F_c_edges_of.bindsN (fun _ _ _ _ _ _ us hl => by match us, hl with | [a0], _ => rfl), ok_c_edges_of T F_c_edges_of ⟩
  obtain ⟨fd_c_parts_of, F0_c_parts_of⟩ := d.def_ 9 (d := d_parts_of)
  have F_c_parts_of : FnP K "parts_of" "parts_of" s_parts_of (He.fAd K ("parts_of", none)) fd_c_parts_of := F0_c_parts_of
  have c_parts_of : Cal P w K mg base 1 "parts_of" ["group"] (spc_parts_of (tabsOf K) (He.ga K "Network") (He.ga K "Rest")) := ⟨_, fd_c_parts_of, He.glo_ok X G (d.fact 6), F_c_parts_of.kp, F_c_parts_of.bindsN (fun _ _ _ _ _ _ us hl => by match us, hl with | [a0], _ => rfl), ok_c_parts_of T F_c_parts_of ⟩
  obtain ⟨fd_c_joined, F0_c_joined⟩ := d.def_ 10 (d := d_joined)
  have F_c_joined : FnP K "joined" "joined" s_joined (He.fAd K ("joined", none)) fd_c_joined := F0_c_joined
  have c_joined : Cal P w K mg base 2 "joined" ["table", "group", "vertex"] (spc_joined (tabsOf K) (He.ga K "Network") (He.ga K "Rest")) := ⟨_, fd_c_joined, He.glo_ok X G (d.fact 7), F_c_joined.kp, F_c_joined.bindsN (fun _ _ _ _ _ _ us hl => by match us, hl with | [a0, a1, a2], _ => rfl), ok_c_joined T F_c_joined c_parts_of⟩
  obtain ⟨fd_c_ways_on, F0_c_ways_on⟩ := d.def_ 7 (d := d_ways_on)
  have F_c_ways_on : FnP K "ways_on" "ways_on" s_ways_on (He.fAd K ("ways_on", none)) fd_c_ways_on := F0_c_ways_on
  have c_ways_on : Cal P w K mg base 2 "ways_on" ["network", "arcs"] (spc_ways_on (tabsOf K) (He.ga K "Network") (He.ga K "Rest")) := ⟨_, fd_c_ways_on, He.glo_ok X G (d.fact 4), F_c_ways_on.kp, F_c_ways_on.bindsN (fun _ _ _ _ _ _ us hl => by match us, hl with | [a0, a1], _ => rfl), ok_c_ways_on T F_c_ways_on mN_size mN_edges⟩
  obtain ⟨fd_c_spread, F0_c_spread⟩ := d.def_ 8 (d := d_spread)
  have F_c_spread : FnP K "spread" "spread" s_spread (He.fAd K ("spread", none)) fd_c_spread := F0_c_spread
  have c_spread : Cal P w K mg base 4 "spread" ["labels", "ways", "weights"] (spc_spread (tabsOf K) (He.ga K "Network") (He.ga K "Rest")) := ⟨_, fd_c_spread, He.glo_ok X G (d.fact 5), F_c_spread.kp, F_c_spread.bindsN (fun _ _ _ _ _ _ us hl => by match us, hl with | [a0, a1, a2], _ => rfl), ok_c_spread T F_c_spread rfl t1 (List.mem_cons_self) (fun p hp e => by cases hp with | head => rfl | tail _ h => cases h with | head => exact absurd e.symm ne | tail _ h => cases h)⟩
  obtain ⟨fd_c_label_table, F0_c_label_table⟩ := d.def_ 11 (d := d_label_table)
  have F_c_label_table : FnP K "label_table" "label_table" s_label_table (He.fAd K ("label_table", none)) fd_c_label_table := F0_c_label_table
  have c_label_table : Cal P w K mg base 5 "label_table" ["network", "goals", "arcs"] (spc_label_table (tabsOf K) (He.ga K "Network") (He.ga K "Rest")) := ⟨_, fd_c_label_table, He.glo_ok X G (d.fact 8), F_c_label_table.kp, F_c_label_table.bindsN (fun _ _ _ _ _ _ us hl => by match us, hl with | [a0, a1, a2], _ => rfl), ok_c_label_table T F_c_label_table mN_edges c_weight c_ways_on mN_size c_joined c_spread⟩
  obtain ⟨fd_c_told_tree, F0_c_told_tree⟩ := d.def_ 13 (d := d_told_tree)
  have F_c_told_tree : FnP K "told_tree" "told_tree" s_told_tree (He.fAd K ("told_tree", none)) fd_c_told_tree := F0_c_told_tree
  have c_told_tree : Cal P w K mg base 6 "told_tree" ["network", "terminals"] (spc_told_tree (tabsOf K) (He.ga K "Network") (He.ga K "Rest")) := ⟨_, fd_c_told_tree, He.glo_ok X G (d.fact 10), F_c_told_tree.kp, F_c_told_tree.bindsN (fun _ _ _ _ _ _ us hl => by match us, hl with | [a0, a1], _ => rfl), ok_c_told_tree T F_c_told_tree c_check_terminals c_label_table c_edges_of⟩
  obtain ⟨fd_m_other_end, F0_m_other_end⟩ := d.def_ 16 (d := dR_other_end)
  have F_m_other_end : FnP K "other_end" "Rest.other_end" sR_other_end (He.fAd K ("Rest", some "other_end")) fd_m_other_end := F0_m_other_end
  have m_other_end : CalM P w K mg base 1 (He.ga K "Rest") "other_end" ["self", "number", "vertex"] (spm_other_end (tabsOf K) (He.ga K "Network") (He.ga K "Rest")) := ⟨_, fd_m_other_end, He.meth_ok (d.fact 38), F_m_other_end.bindsN (fun _ _ _ _ _ _ us hl => by match us, hl with | [a0, a1, a2], _ => rfl), ok_m_other_end T F_m_other_end ⟩
  obtain ⟨fd_m_around, F0_m_around⟩ := d.def_ 15 (d := dR_around)
  have F_m_around : FnP K "around" "Rest.around" sR_around (He.fAd K ("Rest", some "around")) fd_m_around := F0_m_around
  have m_around : CalM P w K mg base 1 (He.ga K "Rest") "around" ["self", "vertex"] (spm_around (tabsOf K) (He.ga K "Network") (He.ga K "Rest")) := ⟨_, fd_m_around, He.meth_ok (d.fact 37), F_m_around.bindsN (fun _ _ _ _ _ _ us hl => by match us, hl with | [a0, a1], _ => rfl), ok_m_around T F_m_around ⟩
  obtain ⟨fd_m_ends_around, F0_m_ends_around⟩ := d.def_ 17 (d := dR_ends_around)
  have F_m_ends_around : FnP K "ends_around" "Rest.ends_around" sR_ends_around (He.fAd K ("Rest", some "ends_around")) fd_m_ends_around := F0_m_ends_around
  have m_ends_around : CalM P w K mg base 2 (He.ga K "Rest") "ends_around" ["self", "vertex"] (spm_ends_around (tabsOf K) (He.ga K "Network") (He.ga K "Rest")) := ⟨_, fd_m_ends_around, He.meth_ok (d.fact 39), F_m_ends_around.bindsN (fun _ _ _ _ _ _ us hl => by match us, hl with | [a0, a1], _ => rfl), ok_m_ends_around T F_m_ends_around m_around m_other_end⟩
  obtain ⟨fd_m_is_inner, F0_m_is_inner⟩ := d.def_ 18 (d := dR_is_inner)
  have F_m_is_inner : FnP K "is_inner" "Rest.is_inner" sR_is_inner (He.fAd K ("Rest", some "is_inner")) fd_m_is_inner := F0_m_is_inner
  have m_is_inner : CalM P w K mg base 1 (He.ga K "Rest") "is_inner" ["self", "vertex"] (spm_is_inner (tabsOf K) (He.ga K "Network") (He.ga K "Rest")) := ⟨_, fd_m_is_inner, He.meth_ok (d.fact 40), F_m_is_inner.bindsN (fun _ _ _ _ _ _ us hl => by match us, hl with | [a0, a1], _ => rfl), ok_m_is_inner T F_m_is_inner ⟩
  obtain ⟨fd_m_is_leaf, F0_m_is_leaf⟩ := d.def_ 19 (d := dR_is_leaf)
  have F_m_is_leaf : FnP K "is_leaf" "Rest.is_leaf" sR_is_leaf (He.fAd K ("Rest", some "is_leaf")) fd_m_is_leaf := F0_m_is_leaf
  have m_is_leaf : CalM P w K mg base 3 (He.ga K "Rest") "is_leaf" ["self", "vertex"] (spm_is_leaf (tabsOf K) (He.ga K "Network") (He.ga K "Rest")) := ⟨_, fd_m_is_leaf, He.meth_ok (d.fact 41), F_m_is_leaf.bindsN (fun _ _ _ _ _ _ us hl => by match us, hl with | [a0, a1], _ => rfl), ok_m_is_leaf T F_m_is_leaf m_is_inner m_ends_around⟩
  obtain ⟨fd_m_is_series, F0_m_is_series⟩ := d.def_ 20 (d := dR_is_series)
  have F_m_is_series : FnP K "is_series" "Rest.is_series" sR_is_series (He.fAd K ("Rest", some "is_series")) fd_m_is_series := F0_m_is_series
  have m_is_series : CalM P w K mg base 3 (He.ga K "Rest") "is_series" ["self", "vertex"] (spm_is_series (tabsOf K) (He.ga K "Network") (He.ga K "Rest")) := ⟨_, fd_m_is_series, He.meth_ok (d.fact 42), F_m_is_series.bindsN (fun _ _ _ _ _ _ us hl => by match us, hl with | [a0, a1], _ => rfl), ok_m_is_series T F_m_is_series m_is_inner m_around m_ends_around⟩
  obtain ⟨fd_m_is_longer, F0_m_is_longer⟩ := d.def_ 21 (d := dR_is_longer)
  have F_m_is_longer : FnP K "is_longer" "Rest.is_longer" sR_is_longer (He.fAd K ("Rest", some "is_longer")) fd_m_is_longer := F0_m_is_longer
  have m_is_longer : CalM P w K mg base 2 (He.ga K "Rest") "is_longer" ["self", "number", "walk"] (spm_is_longer (tabsOf K) (He.ga K "Network") (He.ga K "Rest")) := ⟨_, fd_m_is_longer, He.meth_ok (d.fact 43), F_m_is_longer.bindsN (fun _ _ _ _ _ _ us hl => by match us, hl with | [a0, a1, a2], _ => rfl), ok_m_is_longer T F_m_is_longer m_other_end⟩
  obtain ⟨fd_m_holds, F0_m_holds⟩ := d.def_ 22 (d := dR_holds)
  have F_m_holds : FnP K "holds" "Rest.holds" sR_holds (He.fAd K ("Rest", some "holds")) fd_m_holds := F0_m_holds
  have m_holds : CalM P w K mg base 4 (He.ga K "Rest") "holds" ["self", "row"] (spm_holds (tabsOf K) (He.ga K "Network") (He.ga K "Rest")) := ⟨_, fd_m_holds, He.meth_ok (d.fact 44), F_m_holds.bindsN (fun _ _ _ _ _ _ us hl => by match us, hl with | [a0, a1], _ => rfl), ok_m_holds T F_m_holds m_is_leaf m_is_series m_is_longer⟩
  obtain ⟨fd_m_drop, F0_m_drop⟩ := d.def_ 23 (d := dR_drop)
  have F_m_drop : FnP K "drop" "Rest.drop" sR_drop (He.fAd K ("Rest", some "drop")) fd_m_drop := F0_m_drop
  have m_drop : CalM P w K mg base 1 (He.ga K "Rest") "drop" ["self", "number"] (spm_drop (tabsOf K) (He.ga K "Network") (He.ga K "Rest")) := ⟨_, fd_m_drop, He.meth_ok (d.fact 45), F_m_drop.bindsN (fun _ _ _ _ _ _ us hl => by match us, hl with | [a0, a1], _ => rfl), ok_m_drop T F_m_drop ⟩
  obtain ⟨fd_m_join, F0_m_join⟩ := d.def_ 24 (d := dR_join)
  have F_m_join : FnP K "join" "Rest.join" sR_join (He.fAd K ("Rest", some "join")) fd_m_join := F0_m_join
  have m_join : CalM P w K mg base 3 (He.ga K "Rest") "join" ["self", "vertex"] (spm_join (tabsOf K) (He.ga K "Network") (He.ga K "Rest")) := ⟨_, fd_m_join, He.meth_ok (d.fact 46), F_m_join.bindsN (fun _ _ _ _ _ _ us hl => by match us, hl with | [a0, a1], _ => rfl), ok_m_join T F_m_join m_around m_ends_around m_drop⟩
  obtain ⟨fd_m_apply, F0_m_apply⟩ := d.def_ 25 (d := dR_apply)
  have F_m_apply : FnP K "apply" "Rest.apply" sR_apply (He.fAd K ("Rest", some "apply")) fd_m_apply := F0_m_apply
  have m_apply : CalM P w K mg base 4 (He.ga K "Rest") "apply" ["self", "row"] (spm_apply (tabsOf K) (He.ga K "Network") (He.ga K "Rest")) := ⟨_, fd_m_apply, He.meth_ok (d.fact 47), F_m_apply.bindsN (fun _ _ _ _ _ _ us hl => by match us, hl with | [a0, a1], _ => rfl), ok_m_apply T F_m_apply m_around m_drop m_join⟩
  obtain ⟨fd_k_Rest, F0_k_Rest⟩ := d.def_ 14 (d := dR_init)
  have F_k_Rest : FnP K "__init__" "Rest.__init__" sR_init (He.fAd K ("Rest", some "__init__")) fd_k_Rest := F0_k_Rest
  have k_Rest : CalK P w K mg base 2 (He.ga K "Rest") "Rest" ["self", "network", "terminals"] (spk_Rest (tabsOf K) (He.ga K "Network") (He.ga K "Rest")) := ⟨_, fd_k_Rest, He.mkr_ok (d.fact 36), He.glo_ok X G (d.fact 34), F_k_Rest.bindsN (fun _ _ _ _ _ _ us hl => by match us, hl with | [a0, a1, a2], _ => rfl), ok_k_Rest T F_k_Rest mN_edges mN_size⟩
  obtain ⟨fd_m_paths_from, F0_m_paths_from⟩ := d.def_ 26 (d := dR_paths_from)
  have F_m_paths_from : FnP K "paths_from" "Rest.paths_from" sR_paths_from (He.fAd K ("Rest", some "paths_from")) fd_m_paths_from := F0_m_paths_from
  have m_paths_from : CalM P w K mg base 4 (He.ga K "Rest") "paths_from" ["self", "start", "number"] (spm_paths_from (tabsOf K) (He.ga K "Network") (He.ga K "Rest")) := ⟨_, fd_m_paths_from, He.meth_ok (d.fact 48), F_m_paths_from.bindsN (fun _ _ _ _ _ _ us hl => by match us, hl with | [a0, a1, a2], _ => rfl), ok_m_paths_from T F_m_paths_from rfl t2 (List.mem_cons_of_mem _ List.mem_cons_self) (fun p hp e => by cases hp with | head => exact absurd e ne | tail _ h => cases h with | head => rfl | tail _ h => cases h) m_around m_other_end⟩
  obtain ⟨fd_m_walk_for, F0_m_walk_for⟩ := d.def_ 27 (d := dR_walk_for)
  have F_m_walk_for : FnP K "walk_for" "Rest.walk_for" sR_walk_for (He.fAd K ("Rest", some "walk_for")) fd_m_walk_for := F0_m_walk_for
  have m_walk_for : CalM P w K mg base 5 (He.ga K "Rest") "walk_for" ["self", "number"] (spm_walk_for (tabsOf K) (He.ga K "Network") (He.ga K "Rest")) := ⟨_, fd_m_walk_for, He.meth_ok (d.fact 49), F_m_walk_for.bindsN (fun _ _ _ _ _ _ us hl => by match us, hl with | [a0, a1], _ => rfl), ok_m_walk_for T F_m_walk_for m_paths_from⟩
  obtain ⟨fd_m_rows_by_vertices, F0_m_rows_by_vertices⟩ := d.def_ 28 (d := dR_rows_by_vertices)
  have F_m_rows_by_vertices : FnP K "rows_by_vertices" "Rest.rows_by_vertices" sR_rows_by_vertices (He.fAd K ("Rest", some "rows_by_vertices")) fd_m_rows_by_vertices := F0_m_rows_by_vertices
  have m_rows_by_vertices : CalM P w K mg base 5 (He.ga K "Rest") "rows_by_vertices" ["self"] (spm_rows_by_vertices (tabsOf K) (He.ga K "Network") (He.ga K "Rest")) := ⟨_, fd_m_rows_by_vertices, He.meth_ok (d.fact 50), F_m_rows_by_vertices.bindsN (fun _ _ _ _ _ _ us hl => by match us, hl with | [a0], _ => rfl), ok_m_rows_by_vertices T F_m_rows_by_vertices m_holds m_apply⟩
  obtain ⟨fd_m_rows_by_edges, F0_m_rows_by_edges⟩ := d.def_ 29 (d := dR_rows_by_edges)
  have F_m_rows_by_edges : FnP K "rows_by_edges" "Rest.rows_by_edges" sR_rows_by_edges (He.fAd K ("Rest", some "rows_by_edges")) fd_m_rows_by_edges := F0_m_rows_by_edges
  have m_rows_by_edges : CalM P w K mg base 6 (He.ga K "Rest") "rows_by_edges" ["self"] (spm_rows_by_edges (tabsOf K) (He.ga K "Network") (He.ga K "Rest")) := ⟨_, fd_m_rows_by_edges, He.meth_ok (d.fact 51), F_m_rows_by_edges.bindsN (fun _ _ _ _ _ _ us hl => by match us, hl with | [a0], _ => rfl), ok_m_rows_by_edges T F_m_rows_by_edges m_walk_for m_drop⟩
  obtain ⟨fd_c_reduction, F0_c_reduction⟩ := d.def_ 30 (d := d_reduction)
  have F_c_reduction : FnP K "reduction" "reduction" s_reduction (He.fAd K ("reduction", none)) fd_c_reduction := F0_c_reduction
  have c_reduction : Cal P w K mg base 7 "reduction" ["network", "terminals"] (spc_reduction (tabsOf K) (He.ga K "Network") (He.ga K "Rest")) := ⟨_, fd_c_reduction, He.glo_ok X G (d.fact 11), F_c_reduction.kp, F_c_reduction.bindsN (fun _ _ _ _ _ _ us hl => by match us, hl with | [a0, a1], _ => rfl), ok_c_reduction T F_c_reduction c_check_terminals k_Rest m_rows_by_vertices m_rows_by_edges⟩
  obtain ⟨fd_c_check_reduction, F0_c_check_reduction⟩ := d.def_ 31 (d := d_check_reduction)
  have F_c_check_reduction : FnP K "check_reduction" "check_reduction" s_check_reduction (He.fAd K ("check_reduction", none)) fd_c_check_reduction := F0_c_check_reduction
  have c_check_reduction : Cal P w K mg base 5 "check_reduction" ["network", "terminals", "rows"] (spc_check_reduction (tabsOf K) (He.ga K "Network") (He.ga K "Rest")) := ⟨_, fd_c_check_reduction, He.glo_ok X G (d.fact 12), F_c_check_reduction.kp, F_c_check_reduction.bindsN (fun _ _ _ _ _ _ us hl => by match us, hl with | [a0, a1, a2], _ => rfl), ok_c_check_reduction T F_c_check_reduction c_check_terminals k_Rest m_holds m_apply⟩
  obtain ⟨fd_c_rest_of, F0_c_rest_of⟩ := d.def_ 32 (d := d_rest_of)
  have F_c_rest_of : FnP K "rest_of" "rest_of" s_rest_of (He.fAd K ("rest_of", none)) fd_c_rest_of := F0_c_rest_of
  have c_rest_of : Cal P w K mg base 5 "rest_of" ["network", "terminals", "rows"] (spc_rest_of (tabsOf K) (He.ga K "Network") (He.ga K "Rest")) := ⟨_, fd_c_rest_of, He.glo_ok X G (d.fact 13), F_c_rest_of.kp, F_c_rest_of.bindsN (fun _ _ _ _ _ _ us hl => by match us, hl with | [a0, a1, a2], _ => rfl), ok_c_rest_of T F_c_rest_of c_check_terminals k_Rest m_holds m_apply k_Network⟩
  obtain ⟨fd_c_lead_back, F0_c_lead_back⟩ := d.def_ 33 (d := d_lead_back)
  have F_c_lead_back : FnP K "lead_back" "lead_back" s_lead_back (He.fAd K ("lead_back", none)) fd_c_lead_back := F0_c_lead_back
  have c_lead_back : Cal P w K mg base 1 "lead_back" ["origins", "numbers"] (spc_lead_back (tabsOf K) (He.ga K "Network") (He.ga K "Rest")) := ⟨_, fd_c_lead_back, He.glo_ok X G (d.fact 14), F_c_lead_back.kp, F_c_lead_back.bindsN (fun _ _ _ _ _ _ us hl => by match us, hl with | [a0, a1], _ => rfl), ok_c_lead_back T F_c_lead_back ⟩
  obtain ⟨fd_c__law_numbers, F0_c__law_numbers⟩ := d.def_ 34 (d := d_law_numbers)
  have F_c__law_numbers : FnP K "_law_numbers" "_law_numbers" s_law_numbers (He.fAd K ("_law_numbers", none)) fd_c__law_numbers := F0_c__law_numbers
  have c__law_numbers : Cal P w K mg base 1 "_law_numbers" ["_law_script", "_law_many"] (spc__law_numbers (tabsOf K) (He.ga K "Network") (He.ga K "Rest") K) := ⟨_, fd_c__law_numbers, He.glo_ok X G (d.fact 15), F_c__law_numbers.kp, F_c__law_numbers.bindsN (fun _ _ _ _ _ _ us hl => by match us, hl with | [a0, a1], _ => rfl), ok_c__law_numbers T F_c__law_numbers ⟩
  obtain ⟨fd_c__law_edges, F0_c__law_edges⟩ := d.def_ 35 (d := d_law_edges)
  have F_c__law_edges : FnP K "_law_edges" "_law_edges" s_law_edges (He.fAd K ("_law_edges", none)) fd_c__law_edges := F0_c__law_edges
  have c__law_edges : Cal P w K mg base 1 "_law_edges" ["_law_numbers_here", "_law_at", "_law_size", "_law_many"] (spc__law_edges (tabsOf K) (He.ga K "Network") (He.ga K "Rest")) := ⟨_, fd_c__law_edges, He.glo_ok X G (d.fact 16), F_c__law_edges.kp, F_c__law_edges.bindsN (fun _ _ _ _ _ _ us hl => by match us, hl with | [a0, a1, a2, a3], _ => rfl), ok_c__law_edges T F_c__law_edges ⟩
  obtain ⟨fd_c__law_reach, F0_c__law_reach⟩ := d.def_ 36 (d := d_law_reach)
  have F_c__law_reach : FnP K "_law_reach" "_law_reach" s_law_reach (He.fAd K ("_law_reach", none)) fd_c__law_reach := F0_c__law_reach
  have c__law_reach : Cal P w K mg base 1 "_law_reach" ["_law_edges_here", "_law_chosen", "_law_start", "_law_arcs"] (spc__law_reach (tabsOf K) (He.ga K "Network") (He.ga K "Rest")) := ⟨_, fd_c__law_reach, He.glo_ok X G (d.fact 17), F_c__law_reach.kp, F_c__law_reach.bindsN (fun _ _ _ _ _ _ us hl => by match us, hl with | [a0, a1, a2, a3], _ => rfl), ok_c__law_reach T F_c__law_reach ⟩
  obtain ⟨fd_c__law_picked, F0_c__law_picked⟩ := d.def_ 37 (d := d_law_picked)
  have F_c__law_picked : FnP K "_law_picked" "_law_picked" s_law_picked (He.fAd K ("_law_picked", none)) fd_c__law_picked := F0_c__law_picked
  have c__law_picked : Cal P w K mg base 1 "_law_picked" ["_law_numbers_here", "_law_at", "_law_size", "_law_many"] (spc__law_picked (tabsOf K) (He.ga K "Network") (He.ga K "Rest")) := ⟨_, fd_c__law_picked, He.glo_ok X G (d.fact 18), F_c__law_picked.kp, F_c__law_picked.bindsN (fun _ _ _ _ _ _ us hl => by match us, hl with | [a0, a1, a2, a3], _ => rfl), ok_c__law_picked T F_c__law_picked ⟩
  obtain ⟨fd_c__law_end, F0_c__law_end⟩ := d.def_ 38 (d := d_law_end)
  have F_c__law_end : FnP K "_law_end" "_law_end" s_law_end (He.fAd K ("_law_end", none)) fd_c__law_end := F0_c__law_end
  have c__law_end : Cal P w K mg base 1 "_law_end" ["_law_left", "_law_number", "_law_vertex"] (spc__law_end (tabsOf K) (He.ga K "Network") (He.ga K "Rest")) := ⟨_, fd_c__law_end, He.glo_ok X G (d.fact 19), F_c__law_end.kp, F_c__law_end.bindsN (fun _ _ _ _ _ _ us hl => by match us, hl with | [a0, a1, a2], _ => rfl), ok_c__law_end T F_c__law_end ⟩
  obtain ⟨fd_c__law_around, F0_c__law_around⟩ := d.def_ 39 (d := d_law_around)
  have F_c__law_around : FnP K "_law_around" "_law_around" s_law_around (He.fAd K ("_law_around", none)) fd_c__law_around := F0_c__law_around
  have c__law_around : Cal P w K mg base 1 "_law_around" ["_law_left", "_law_vertex"] (spc__law_around (tabsOf K) (He.ga K "Network") (He.ga K "Rest")) := ⟨_, fd_c__law_around, He.glo_ok X G (d.fact 20), F_c__law_around.kp, F_c__law_around.bindsN (fun _ _ _ _ _ _ us hl => by match us, hl with | [a0, a1], _ => rfl), ok_c__law_around T F_c__law_around ⟩
  obtain ⟨fd_c__law_walks, F0_c__law_walks⟩ := d.def_ 40 (d := d_law_walks)
  have F_c__law_walks : FnP K "_law_walks" "_law_walks" s_law_walks (He.fAd K ("_law_walks", none)) fd_c__law_walks := F0_c__law_walks
  have c__law_walks : Cal P w K mg base 2 "_law_walks" ["_law_left", "_law_terminals", "_law_number", "_law_walk"] (spc__law_walks (tabsOf K) (He.ga K "Network") (He.ga K "Rest")) := ⟨_, fd_c__law_walks, He.glo_ok X G (d.fact 21), F_c__law_walks.kp, F_c__law_walks.bindsN (fun _ _ _ _ _ _ us hl => by match us, hl with | [a0, a1, a2, a3], _ => rfl), ok_c__law_walks T F_c__law_walks c__law_end⟩
  obtain ⟨fd_c__law_holds, F0_c__law_holds⟩ := d.def_ 41 (d := d_law_holds)
  have F_c__law_holds : FnP K "_law_holds" "_law_holds" s_law_holds (He.fAd K ("_law_holds", none)) fd_c__law_holds := F0_c__law_holds
  have c__law_holds : Cal P w K mg base 3 "_law_holds" ["_law_size", "_law_left", "_law_terminals", "_law_row"] (spc__law_holds (tabsOf K) (He.ga K "Network") (He.ga K "Rest")) := ⟨_, fd_c__law_holds, He.glo_ok X G (d.fact 22), F_c__law_holds.kp, F_c__law_holds.bindsN (fun _ _ _ _ _ _ us hl => by match us, hl with | [a0, a1, a2, a3], _ => rfl), ok_c__law_holds T F_c__law_holds c__law_walks c__law_around c__law_end⟩
  obtain ⟨fd_c__law_applied, F0_c__law_applied⟩ := d.def_ 42 (d := d_law_applied)
  have F_c__law_applied : FnP K "_law_applied" "_law_applied" s_law_applied (He.fAd K ("_law_applied", none)) fd_c__law_applied := F0_c__law_applied
  have c__law_applied : Cal P w K mg base 2 "_law_applied" ["_law_left", "_law_fresh", "_law_row"] (spc__law_applied (tabsOf K) (He.ga K "Network") (He.ga K "Rest")) := ⟨_, fd_c__law_applied, He.glo_ok X G (d.fact 23), F_c__law_applied.kp, F_c__law_applied.bindsN (fun _ _ _ _ _ _ us hl => by match us, hl with | [a0, a1, a2], _ => rfl), ok_c__law_applied T F_c__law_applied c__law_around c__law_end⟩
  obtain ⟨fd_c__law_begun, F0_c__law_begun⟩ := d.def_ 43 (d := d_law_begun)
  have F_c__law_begun : FnP K "_law_begun" "_law_begun" s_law_begun (He.fAd K ("_law_begun", none)) fd_c__law_begun := F0_c__law_begun
  have c__law_begun : Cal P w K mg base 1 "_law_begun" ["_law_edges_here"] (spc__law_begun (tabsOf K) (He.ga K "Network") (He.ga K "Rest")) := ⟨_, fd_c__law_begun, He.glo_ok X G (d.fact 24), F_c__law_begun.kp, F_c__law_begun.bindsN (fun _ _ _ _ _ _ us hl => by match us, hl with | [a0], _ => rfl), ok_c__law_begun T F_c__law_begun ⟩
  obtain ⟨fd_c__law_run, F0_c__law_run⟩ := d.def_ 44 (d := d_law_run)
  have F_c__law_run : FnP K "_law_run" "_law_run" s_law_run (He.fAd K ("_law_run", none)) fd_c__law_run := F0_c__law_run
  have c__law_run : Cal P w K mg base 4 "_law_run" ["_law_size", "_law_edges_here", "_law_terminals", "_law_rows"] (spc__law_run (tabsOf K) (He.ga K "Network") (He.ga K "Rest")) := ⟨_, fd_c__law_run, He.glo_ok X G (d.fact 25), F_c__law_run.kp, F_c__law_run.bindsN (fun _ _ _ _ _ _ us hl => by match us, hl with | [a0, a1, a2, a3], _ => rfl), ok_c__law_run T F_c__law_run c__law_begun c__law_holds c__law_applied⟩
  obtain ⟨fd_c__law_near, F0_c__law_near⟩ := d.def_ 45 (d := d_law_near)
  have F_c__law_near : FnP K "_law_near" "_law_near" s_law_near (He.fAd K ("_law_near", none)) fd_c__law_near := F0_c__law_near
  have c__law_near : Cal P w K mg base 1 "_law_near" ["_law_left", "_law_start", "_law_number"] (spc__law_near (tabsOf K) (He.ga K "Network") (He.ga K "Rest")) := ⟨_, fd_c__law_near, He.glo_ok X G (d.fact 26), F_c__law_near.kp, F_c__law_near.bindsN (fun _ _ _ _ _ _ us hl => by match us, hl with | [a0, a1, a2], _ => rfl), ok_c__law_near T F_c__law_near ⟩
  obtain ⟨fd_c__law_needless, F0_c__law_needless⟩ := d.def_ 46 (d := d_law_needless)
  have F_c__law_needless : FnP K "_law_needless" "_law_needless" s_law_needless (He.fAd K ("_law_needless", none)) fd_c__law_needless := F0_c__law_needless
  have c__law_needless : Cal P w K mg base 2 "_law_needless" ["_law_left", "_law_terminals", "_law_number"] (spc__law_needless (tabsOf K) (He.ga K "Network") (He.ga K "Rest")) := ⟨_, fd_c__law_needless, He.glo_ok X G (d.fact 27), F_c__law_needless.kp, F_c__law_needless.bindsN (fun _ _ _ _ _ _ us hl => by match us, hl with | [a0, a1, a2], _ => rfl), ok_c__law_needless T F_c__law_needless c__law_near⟩
  exact ok_c_law T F c__law_numbers c__law_edges c__law_picked k_Network c_reduction c__law_run c_check_reduction c__law_holds c__law_needless c_rest_of c_told_tree c_lead_back c__law_reach c_price_of mN_edges
end

end TW
end

set_option Elab.async false
set_option linter.all false
set_option maxRecDepth 100000
set_option maxHeartbeats 0
open PySem PySem.W PySem.Calls PyProof.Rows
theorem PySem.Challenge.cw_trunkweb_k41_whole_full_reductions_holds : PySem.Challenge.rw_trunkweb_k41_whole_full_reductions.Holds := by
  w_on; o_law
  refine HandSHeadRun.head_any (r := OpenLaw.row PySem.Challenge.rw_trunkweb_k41_whole_full_reductions) (q := view (OpenLaw.row PySem.Challenge.rw_trunkweb_k41_whole_full_reductions).prog [51]) (H := TW.hk) (ob := TW.ob) (M := 9000) (loose := TW.loose) (d := HandSHeadRun.topDef (OpenLaw.row PySem.Challenge.rw_trunkweb_k41_whole_full_reductions).prog 51) (kwd := []) TW.ob_eq
    (by kernel_rfl) (fun s => by kernel_rfl) TW.run (by kernel_rfl) (by kernel_rfl) (by kernel_rfl) (by rfl) (by first | assumption | decide +kernel) (by decide +kernel) ⟨rfl, rfl, rfl, rfl, rfl, by decide +kernel⟩ ?hw ?hc
  case hw => w_witness2
  case hc =>
    refine LamX.walk_ofTsE (l := PySem.Challenge.rw_trunkweb_k41_whole_full_reductions) (n := 63) (k := 20) (x := "_law_script") (CX := fun _ => L2.CX0) rfl (by decide) (by kernel_rfl) ⟨rfl, by decide, by decide⟩ ?F (fun _ _ _ _ _ z => z)
    intro w mg fa h Y G hmg0
    obtain ⟨K, KX, c⟩ := Y
    have hmg : mg ("law" : PySem.Str) = some (.ref fa) := by
      have e : (HandSHeadRun.topDef (OpenLaw.row PySem.Challenge.rw_trunkweb_k41_whole_full_reductions).prog 51).name = ("law" : PySem.Str) := by kernel_rfl
      rw [← e]
      exact hmg0
    refine ⟨K, KX, ?_⟩
    have ef : fa = He.ga K "law" := by
      have z := hmg.symm.trans (He.glo_ok KX G (c.t.d.fact 28))
      exact (Value.ref.inj (Option.some.inj z))
    subst ef
    obtain ⟨fd, F0⟩ := c.t.d.def_ 47 (d := TW.d_law)
    have F : TW.FnP K "law" "law" TW.s_law (He.ga K "law") fd := F0
    refine ⟨fd, TW.tbs.map (He.cT K), TW.spc_law (TW.tabsOf K) (He.ga K "Network") (He.ga K "Rest") K, (by intro p hp; obtain ⟨q, hq, rfl⟩ := List.mem_map.1 hp; exact c.empty q hq), (by intro p hp; obtain ⟨q, hq, rfl⟩ := List.mem_map.1 hp; exact c.out q hq), (by intro p hp; obtain ⟨q, hq, rfl⟩ := List.mem_map.1 hp; exact PySem.W.codeHd_of_K KX (c.hd q hq)), fun s u => F.bindsA (fun _ _ _ _ _ _ us hl => by match us, hl with | [a0], _ => rfl) (ps := ["_law_script"]) s [u] rfl, ?_, ?_⟩
    · intro H a ns _ _ hT hS
      refine ⟨a, ns, rfl, hS, fun p hp => ?_, fun H' _ => rfl⟩
      rcases List.mem_cons.1 hp with e | hp
      · subst e
        exact LamX.TabS.nil (hT (He.cT K ("spread", none)) (List.mem_map.2 ⟨_, by decide, rfl⟩))
      · rcases List.mem_cons.1 hp with e | hp
        · subst e
          exact LamX.TabS.nil (hT (He.cT K ("Rest", some "paths_from")) (List.mem_map.2 ⟨_, by decide, rfl⟩))
        · cases hp
    · intro base KB NB tabs
      exact (TW.law_fn KB NB c.t.d c.more (tabs (He.cT K ("spread", none)) (List.mem_map.2 ⟨_, by decide, rfl⟩)) (tabs (He.cT K ("Rest", some "paths_from")) (List.mem_map.2 ⟨_, by decide, rfl⟩)) F).mono (by decide)
