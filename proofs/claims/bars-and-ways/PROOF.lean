import PyProof.Rows.All
import Wide.All
import OpenK.AllK
import Wide.FinOn
import HandS.ForMost
import HandS.Deep
import KE.KDictKeyed
import KE.KDictDisplayH
import KE.LtSeq
import HandS.Walk
import HandS.SortOrd
import HandS.SortRule
import KE.KSortTup
import KE.KDictCopyH
import KE.KDictSum
import HandS.IsInst
import HandS.Style
import HandS.NoneIn
import HandS.TupAny
import HandS.Zip
import HandS.Wide
import PySem.Challenge.RW_mowfloor_k36_whole_bars_and_ways
set_option autoImplicit false
set_option linter.all false
/-! Plain mathematics of the floor: cells, what is come to, steps, ways. No program here. -/
namespace Mow

abbrev Cell := Int × Int

/-- the four cells beside one -/
def nb (c : Cell) : List Cell := [(c.1 - 1, c.2), (c.1, c.2 - 1), (c.1, c.2 + 1), (c.1 + 1, c.2)]
theorem mem_nb {x c : Cell} : x ∈ nb c ↔ (x.1 = c.1 - 1 ∧ x.2 = c.2) ∨ (x.1 = c.1 ∧ x.2 = c.2 - 1) ∨ (x.1 = c.1 ∧ x.2 = c.2 + 1) ∨ (x.1 = c.1 + 1 ∧ x.2 = c.2) := by
  obtain ⟨x1, x2⟩ := x
  simp [nb]
theorem nb_symm {x c : Cell} : x ∈ nb c ↔ c ∈ nb x := by
  rw [mem_nb, mem_nb]; omega
theorem nb_ne {x c : Cell} (h : x ∈ nb c) : x ≠ c := by
  rintro rfl
  rw [mem_nb] at h; omega
theorem nb_nodup (c : Cell) : (nb c).Nodup := by
  simp [nb, Prod.ext_iff]; omega
theorem nb_length (c : Cell) : (nb c).length = 4 := rfl

/-! ### lists -/
section lists
variable {α β : Type} [DecidableEq α] [DecidableEq β]
theorem nodup_le : ∀ {l m : List α}, l.Nodup → (∀ x ∈ l, x ∈ m) → l.length ≤ m.length
  | [], m, _, _ => Nat.zero_le _
  | x :: l, m, h, s => by
    have hx : x ∈ m := s x List.mem_cons_self
    have hn := List.nodup_cons.mp h
    have ih := nodup_le (l := l) (m := m.erase x) hn.2 fun y hy => by
      have hne : y ≠ x := fun e => hn.1 (e ▸ hy)
      exact (List.mem_erase_of_ne hne).mpr (s y (List.mem_cons_of_mem _ hy))
    have hl : (m.erase x).length = m.length - 1 := List.length_erase_of_mem hx
    have : 0 < m.length := List.length_pos_of_mem hx
    rw [List.length_cons]; omega
theorem double_count (r : α → β → Bool) : ∀ (W : List α) (C : List β), (W.map fun w => C.countP (r w)).sum = (C.map fun c => W.countP fun w => r w c).sum
  | [], C => by
    induction C with
    | nil => rfl
    | cons c C ih => simpa using ih
  | w :: W, C => by
    rw [List.map_cons, List.sum_cons, double_count r W C]
    have e : (fun c => List.countP (fun w => r w c) (w :: W)) = fun c => List.countP (fun w => r w c) W + (if r w c = true then 1 else 0) := by
      funext c; rw [List.countP_cons]
    rw [e]
    clear e
    induction C with
    | nil => rfl
    | cons c C ih =>
      rw [List.countP_cons, List.map_cons, List.sum_cons, List.map_cons, List.sum_cons]
      omega
theorem sum_ones {γ : Type} (f : γ → Nat) : ∀ (l : List γ), (∀ x ∈ l, f x = 1) → (l.map f).sum = l.length
  | [], _ => rfl
  | x :: l, h => by
    rw [List.map_cons, List.sum_cons, h x List.mem_cons_self, sum_ones f l fun y hy => h y (List.mem_cons_of_mem _ hy), List.length_cons]; omega
theorem countP_zero_iff {l : List α} {p : α → Bool} : l.countP p = 0 ↔ ∀ x ∈ l, p x = false := by
  rw [List.countP_eq_zero]
  constructor
  · intro h x hx; exact Bool.eq_false_iff.mpr (h x hx)
  · intro h x hx e; rw [h x hx] at e; cases e
theorem countP_one_of {p : α → Bool} : ∀ {l : List α}, l.Nodup → ∀ {x : α}, x ∈ l → p x = true → (∀ y ∈ l, p y = true → y = x) → l.countP p = 1
  | y :: l, hn, x, hx, px, hu => by
    have hn' := List.nodup_cons.mp hn
    rw [List.countP_cons]
    by_cases e : y = x
    · subst e
      rw [if_pos px]
      have z : l.countP p = 0 := by
        rw [countP_zero_iff]
        intro z hz
        cases q : p z with
        | false => rfl
        | true => exact absurd (hu z (List.mem_cons_of_mem _ hz) q ▸ hz) hn'.1
      omega
    · have hx' : x ∈ l := by
        rcases List.mem_cons.mp hx with e' | h
        · exact absurd e'.symm e
        · exact h
      have : ¬ p y = true := fun q => e (hu y List.mem_cons_self q)
      rw [if_neg this, countP_one_of hn'.2 hx' px fun z hz => hu z (List.mem_cons_of_mem _ hz)]
theorem uniq_of_countP {p : α → Bool} : ∀ {l : List α}, l.countP p ≤ 1 → ∀ {x y : α}, x ∈ l → y ∈ l → p x = true → p y = true → x = y
  | z :: l, h, x, y, hx, hy, px, py => by
    rw [List.countP_cons] at h
    by_cases pz : p z = true
    · rw [if_pos pz] at h
      have h0 : l.countP p = 0 := by omega
      rw [countP_zero_iff] at h0
      rcases List.mem_cons.mp hx with rfl | hx
      · rcases List.mem_cons.mp hy with rfl | hy
        · rfl
        · rw [h0 y hy] at py; cases py
      · rw [h0 x hx] at px; cases px
    · rw [if_neg pz] at h
      rcases List.mem_cons.mp hx with rfl | hx
      · exact absurd px pz
      · rcases List.mem_cons.mp hy with rfl | hy
        · exact absurd py pz
        · exact uniq_of_countP (by omega) hx hy px py
theorem countP_pos_of {p : α → Bool} {l : List α} {x : α} (hx : x ∈ l) (px : p x = true) : 1 ≤ l.countP p := List.countP_pos_iff.mpr ⟨x, hx, px⟩
end lists

/-! ### what is come to -/
inductive Reach (F : List Cell) (a : Cell) : Cell → Prop
  | refl : a ∈ F → Reach F a a
  | step {b c : Cell} : Reach F a b → c ∈ nb b → c ∈ F → Reach F a c
namespace Reach
variable {F G : List Cell} {a b c : Cell}
theorem left (h : Reach F a b) : a ∈ F := by
  induction h with
  | refl h => exact h
  | step _ _ _ ih => exact ih
theorem right (h : Reach F a b) : b ∈ F := by
  cases h with
  | refl h => exact h
  | step _ _ h => exact h
theorem trans (h1 : Reach F a b) (h2 : Reach F b c) : Reach F a c := by
  induction h2 with
  | refl _ => exact h1
  | step _ n m ih => exact ih.step n m
theorem one (ha : a ∈ F) (n : b ∈ nb a) (hb : b ∈ F) : Reach F a b := (Reach.refl ha).step n hb
theorem symm (h : Reach F a b) : Reach F b a := by
  induction h with
  | refl h => exact .refl h
  | step r n m ih => exact (Reach.one m (nb_symm.mp n) r.right).trans ih
theorem mono (h : Reach F a b) (s : ∀ x ∈ F, x ∈ G) : Reach G a b := by
  induction h with
  | refl h => exact .refl (s _ h)
  | step _ n m ih => exact ih.step n (s _ m)
/-- a closed set holds all that is come to -/
theorem closed (h : Reach F a b) (P : Cell → Prop) (h0 : P a) (hs : ∀ x, x ∈ F → P x → ∀ y ∈ nb x, y ∈ F → P y) : P b := by
  induction h with
  | refl _ => exact h0
  | step r n m ih => exact hs _ r.right ih _ n m
end Reach
/-- rows and columns exchanged -/
def sw (c : Cell) : Cell := (c.2, c.1)
theorem sw_sw (c : Cell) : sw (sw c) = c := rfl
theorem sw_inj {x y : Cell} (h : sw x = sw y) : x = y := by
  have := congrArg sw h
  rwa [sw_sw, sw_sw] at this
theorem sw_nb {x c : Cell} : sw x ∈ nb (sw c) ↔ x ∈ nb c := by
  rw [mem_nb, mem_nb]; simp only [sw]; omega
theorem Reach.sw {F G : List Cell} {a b : Cell} (h : Reach F a b) (s : ∀ x ∈ F, sw x ∈ G) : Reach G (sw a) (sw b) := by
  induction h with
  | refl h => exact .refl (s _ h)
  | step _ n m ih => exact ih.step (sw_nb.mpr n) (s _ m)

/-! ### walks as lists -/
/-- each is beside the one ahead -/
def Adj : List Cell → Prop
  | x :: y :: l => y ∈ nb x ∧ Adj (y :: l)
  | _ => True
theorem adj_reach {F : List Cell} : ∀ {l : List Cell} {a b : Cell}, Adj (a :: l) → (∀ x ∈ a :: l, x ∈ F) → (a :: l).getLast? = some b → Reach F a b
  | [], a, b, _, m, e => by
    simp at e; subst e
    exact .refl (m a (by simp))
  | y :: l, a, b, h, m, e => by
    rw [List.getLast?_cons_cons] at e
    have r := adj_reach (F := F) h.2 (fun x hx => m x (List.mem_cons_of_mem _ hx)) e
    exact (Reach.one (m a List.mem_cons_self) h.1 (m y (by simp))).trans r
theorem adj_sw : ∀ {l : List Cell}, Adj l → Adj (l.map sw)
  | [], _ => trivial
  | [_], _ => trivial
  | x :: y :: l, h => ⟨sw_nb.mpr h.1, adj_sw (l := y :: l) h.2⟩
end Mow

set_option autoImplicit false
set_option linter.all false
/-! Steps, doors, the way that is taken in. -/
namespace Mow
abbrev Step := Cell × Cell
abbrev Door := Cell × Int
def inn (S : List Step) (v : Cell) : Nat := S.countP fun e => decide (e.2 = v)
def out (S : List Step) (v : Cell) : Nat := S.countP fun e => decide (e.1 = v)
theorem inn_snoc (S : List Step) (e : Step) (v : Cell) : inn (S ++ [e]) v = inn S v + if e.2 = v then 1 else 0 := by
  unfold inn; rw [List.countP_append, List.countP_singleton]; simp
theorem out_snoc (S : List Step) (e : Step) (v : Cell) : out (S ++ [e]) v = out S v + if e.1 = v then 1 else 0 := by
  unfold out; rw [List.countP_append, List.countP_singleton]; simp
theorem countP_drop (p : Step → Bool) (e : Step) : ∀ {S : List Step}, S.Nodup → e ∈ S → (S.filter fun x => decide (x ≠ e)).countP p + (if p e = true then 1 else 0) = S.countP p
  | x :: S, hn, hm => by
    have hn' := List.nodup_cons.mp hn
    by_cases q : x = e
    · subst q
      have z : (S.filter fun y => decide (y ≠ x)) = S := List.filter_eq_self.mpr fun y hy => decide_eq_true fun q => hn'.1 (q ▸ hy)
      rw [List.filter_cons_of_neg (by simp), z, List.countP_cons]
    · rw [List.filter_cons_of_pos (by simpa using q), List.countP_cons, List.countP_cons]
      have hm' : e ∈ S := by
        rcases List.mem_cons.mp hm with z | z
        · exact absurd z.symm q
        · exact z
      have ih := countP_drop p e hn'.2 hm'
      omega
theorem inn_drop {S : List Step} {e : Step} (hn : S.Nodup) (hm : e ∈ S) (v : Cell) : inn (S.filter fun x => decide (x ≠ e)) v + (if e.2 = v then 1 else 0) = inn S v := by
  have h := countP_drop (fun x => decide (x.2 = v)) e hn hm
  unfold inn; rw [← h]; simp
theorem out_drop {S : List Step} {e : Step} (hn : S.Nodup) (hm : e ∈ S) (v : Cell) : out (S.filter fun x => decide (x ≠ e)) v + (if e.1 = v then 1 else 0) = out S v := by
  have h := countP_drop (fun x => decide (x.1 = v)) e hn hm
  unfold out; rw [← h]; simp
theorem inn_pos {S : List Step} {u v : Cell} (h : (u, v) ∈ S) : 1 ≤ inn S v := countP_pos_of h (by simp)
theorem out_pos {S : List Step} {u v : Cell} (h : (u, v) ∈ S) : 1 ≤ out S u := countP_pos_of h (by simp)
theorem inn_ex {S : List Step} {v : Cell} (h : 1 ≤ inn S v) : ∃ u, (u, v) ∈ S := by
  obtain ⟨⟨u, w⟩, he, hp⟩ := List.countP_pos_iff.mp h
  simp at hp; subst hp; exact ⟨u, he⟩
theorem out_ex {S : List Step} {v : Cell} (h : 1 ≤ out S v) : ∃ u, (v, u) ∈ S := by
  obtain ⟨⟨u, w⟩, he, hp⟩ := List.countP_pos_iff.mp h
  simp at hp; subst hp; exact ⟨w, he⟩

/-- steps within the floor, none into a, none out of b; elsewhere as many in as out, one at most -/
structure Flow (F : List Cell) (a b : Cell) (S : List Step) : Prop where
  nd : S.Nodup
  ok : ∀ e ∈ S, e.1 ∈ F ∧ e.2 ∈ F ∧ e.2 ∈ nb e.1 ∧ e.2 ≠ a ∧ e.1 ≠ b
  bal : ∀ v, v ≠ a → v ≠ b → inn S v = out S v
  cap : ∀ v, v ≠ a → v ≠ b → out S v ≤ 1
theorem Flow.nil (F : List Cell) (a b : Cell) : Flow F a b [] := ⟨List.nodup_nil, fun _ h => (nomatch h), fun _ _ _ => rfl, fun _ _ _ => Nat.zero_le _⟩
section
variable {F : List Cell} {a b : Cell} {S : List Step}
theorem Flow.inU (h : Flow F a b S) {u u' v : Cell} (hv : v ≠ b) (h1 : (u, v) ∈ S) (h2 : (u', v) ∈ S) : u = u' := by
  have va : v ≠ a := (h.ok _ h1).2.2.2.1
  have c : inn S v ≤ 1 := by rw [h.bal v va hv]; exact h.cap v va hv
  exact congrArg Prod.fst (uniq_of_countP c h1 h2 (by simp) (by simp))
theorem Flow.outU (h : Flow F a b S) {u v v' : Cell} (hu : u ≠ a) (h1 : (u, v) ∈ S) (h2 : (u, v') ∈ S) : v = v' := by
  have ub : u ≠ b := (h.ok _ h1).2.2.2.2
  exact congrArg Prod.snd (uniq_of_countP (h.cap u hu ub) h1 h2 (by simp) (by simp))
theorem Flow.next (h : Flow F a b S) {u v : Cell} (hv : v ≠ b) (h1 : (u, v) ∈ S) : ∃ w, (v, w) ∈ S := by
  have va : v ≠ a := (h.ok _ h1).2.2.2.1
  refine out_ex ?_
  rw [← h.bal v va hv]; exact inn_pos h1
theorem Flow.prev (h : Flow F a b S) {u v : Cell} (hu : u ≠ a) (h1 : (u, v) ∈ S) : ∃ w, (w, u) ∈ S := by
  have ub : u ≠ b := (h.ok _ h1).2.2.2.2
  refine inn_ex ?_
  rw [h.bal u hu ub]; exact out_pos h1
end

/-- the cell has one behind it -/
def Beh (a : Cell) (S : List Step) (u : Cell) : Prop := u ≠ a ∧ ∃ n, (u, n) ∈ S
/-- where one comes from a door -/
def Nxt (F : List Cell) (a b : Cell) (S : List Step) (d e : Door) : Prop :=
  (d.2 = 1 ∧ e.2 = 0 ∧ e.1 ∈ nb d.1 ∧ e.1 ∈ F ∧ e.1 ≠ a) ∨ (d.2 = 1 ∧ e = (d.1, 0) ∧ Beh a S d.1) ∨
  (d.2 = 0 ∧ e = (d.1, 1) ∧ ¬ Beh a S d.1) ∨ (d.2 = 0 ∧ e.2 = 1 ∧ Beh a S d.1 ∧ d.1 ≠ b ∧ (e.1, d.1) ∈ S ∧ e.1 ≠ a)

/-- doors met, each with the one ahead, in their order -/
inductive Met (N : Door → Door → Prop) (s : Door) : List (Door × Option Door) → Prop
  | one : Met N s [(s, none)]
  | more {M : List (Door × Option Door)} {p d : Door} : Met N s M → p ∈ M.map (·.1) → N p d → d ∉ M.map (·.1) → Met N s (M ++ [(d, some p)])
abbrev keys (M : List (Door × Option Door)) : List Door := M.map (·.1)
/-- from the first door, b's own is not gone from -/
abbrev Srch (F : List Cell) (a b : Cell) (S : List Step) : List (Door × Option Door) → Prop := Met (fun p d => p ≠ (b, 0) ∧ Nxt F a b S p d) (a, 1)
section
variable {N : Door → Door → Prop} {s : Door} {M : List (Door × Option Door)}
theorem Met.nodup (h : Met N s M) : (keys M).Nodup := by
  induction h with
  | one => simp [keys]
  | more _ _ _ hd ih =>
    rw [keys, List.map_append, List.nodup_append]
    refine ⟨ih, by simp, fun x hx y hy e => ?_⟩
    simp at hy
    subst hy e
    exact hd hx
theorem Met.begin (h : Met N s M) : s ∈ keys M := by
  induction h with
  | one => simp [keys]
  | more _ _ _ _ ih => rw [keys, List.map_append]; exact List.mem_append_left _ ih
/-- an entry parts the list: what stands ahead is such a list, too -/
theorem Met.split (h : Met N s M) : ∀ {d : Door} {e : Option Door}, (d, e) ∈ M → ∃ M1 M2, M = M1 ++ (d, e) :: M2 ∧ ((e = none ∧ d = s ∧ M1 = []) ∨ ∃ p, e = some p ∧ Met N s M1 ∧ p ∈ keys M1 ∧ N p d) := by
  induction h with
  | one =>
    intro d e hm
    simp at hm
    obtain ⟨rfl, rfl⟩ := hm
    exact ⟨[], [], rfl, .inl ⟨rfl, rfl, rfl⟩⟩
  | @more M p d hM hp hN hd ih =>
    intro d' e' hm
    rcases List.mem_append.mp hm with hm | hm
    · obtain ⟨M1, M2, e1, e2⟩ := ih hm
      exact ⟨M1, M2 ++ [(d, some p)], by rw [e1]; simp, e2⟩
    · simp at hm
      obtain ⟨rfl, rfl⟩ := hm
      exact ⟨M, [], rfl, .inr ⟨p, rfl, hM, hp, hN⟩⟩
end
section
variable {F : List Cell} {a b : Cell} {S : List Step} {M : List (Door × Option Door)}
theorem Srch.doors (hF : Flow F a b S) (ha : a ∈ F) (hab : a ≠ b) (h : Srch F a b S M) : ∀ d ∈ keys M, d.1 ∈ F ∧ (d.2 = 0 ∨ d.2 = 1) ∧ d ≠ (a, 0) ∧ d ≠ (b, 1) := by
  induction h with
  | one =>
    intro d hd
    simp [keys] at hd
    subst hd
    refine ⟨ha, .inr rfl, by simp, fun e => hab (congrArg Prod.fst e)⟩
  | @more M p d hM hp hN hd ih =>
    intro e he
    rw [keys, List.map_append] at he
    rcases List.mem_append.mp he with he | he
    · exact ih e he
    · simp at he
      subst he
      obtain ⟨pF, _, pa, pb⟩ := ih p hp
      obtain ⟨nb0, hN⟩ := hN
      obtain ⟨dc, ds⟩ := e
      obtain ⟨pc, ps⟩ := p
      rcases hN with ⟨h1, h2, h3, h4, h5⟩ | ⟨h1, h2, h3⟩ | ⟨h1, h2, h3⟩ | ⟨h1, h2, h3, h4, h5, h6⟩
      · simp only at h1 h2 h3 h4 h5
        subst h2
        exact ⟨h4, .inl rfl, fun e => h5 (congrArg Prod.fst e), fun e => by simp at e⟩
      · simp only at h1 h3
        cases h2
        exact ⟨pF, .inl rfl, fun e => h3.1 (congrArg Prod.fst e), fun e => by simp at e⟩
      · simp only at h1 h3
        cases h2
        subst h1
        exact ⟨pF, .inr rfl, fun e => by simp at e, fun e => nb0 (by cases e; rfl)⟩
      · simp only at h1 h2 h3 h4 h5 h6
        subst h2
        have o := hF.ok _ h5
        exact ⟨o.1, .inr rfl, fun e => by simp at e, fun e => o.2.2.2.2 (congrArg Prod.fst e)⟩
/-- a cell of a way is left only where one came back from the cell behind it -/
theorem Srch.back (hF : Flow F a b S) (h : Srch F a b S M) : ∀ u w, (u, 1) ∈ keys M → u ≠ a → (u, w) ∈ S → w ≠ b ∧ (w, 0) ∈ keys M := by
  induction h with
  | one =>
    intro u w hu ua
    simp [keys] at hu
    exact absurd hu ua
  | @more M p d hM hp hN hd ih =>
    intro u w hu ua hS
    rw [keys, List.map_append] at hu ⊢
    rcases List.mem_append.mp hu with hu | hu
    · obtain ⟨h1, h2⟩ := ih u w hu ua hS
      exact ⟨h1, List.mem_append_left _ h2⟩
    · simp at hu
      subst hu
      obtain ⟨_, hN⟩ := hN
      rcases hN with ⟨h1, h2, _⟩ | ⟨h1, h2, _⟩ | ⟨h1, h2, h3⟩ | ⟨h1, h2, h3, h4, h5, h6⟩
      · simp at h2
      · simp at h2
      · have e : u = p.1 := congrArg Prod.fst h2
        exact absurd ⟨e ▸ ua, w, e ▸ hS⟩ h3
      · have e : p.1 = w := hF.outU ua h5 hS
        have : p = (w, 0) := Prod.ext e h1
        refine ⟨e ▸ h4, List.mem_append_left _ (this ▸ hp)⟩
end

/-! ### taking a way in, from b back: T the steps so far, d the door, Sx the doors from d on -/
structure Aug (F : List Cell) (a b : Cell) (S : List Step) (d : Door) (Sx : List Door) (T : List Step) : Prop where
  hd : d ∈ Sx
  bx : (b, 0) ∈ Sx
  nd : T.Nodup
  ok : ∀ e ∈ T, e.1 ∈ F ∧ e.2 ∈ F ∧ e.2 ∈ nb e.1 ∧ e.2 ≠ a ∧ e.1 ≠ b
  cnt : ∀ v, v ≠ a → v ≠ b → ∃ x : Nat, x ≤ 1 ∧ inn T v + (if d = (v, 0) then 1 else 0) = x ∧ out T v = x + (if d = (v, 1) then 1 else 0) ∧ (x = out S v ∨ ((v, 0) ∈ Sx ∧ (v, 1) ∈ Sx))
  outa : out T a = out S a + if d = (a, 1) then 1 else 0
  old : ∀ e ∈ S, (e.2, 0) ∉ Sx → e ∈ T
  ini : d = (b, 0) → T = S
section
variable {F : List Cell} {a b : Cell} {S T : List Step} {d p : Door} {Sx : List Door} {u v : Cell}
theorem Aug.start (hF : Flow F a b S) (hab : a ≠ b) : Aug F a b S (b, 0) [(b, 0)] S where
  hd := by simp
  bx := by simp
  nd := hF.nd
  ok := hF.ok
  cnt := fun v va vb => ⟨out S v, hF.cap v va vb, by
    rw [if_neg (fun e => vb (congrArg Prod.fst e).symm)]; exact hF.bal v va vb, by
    rw [if_neg (fun e => vb (congrArg Prod.fst e).symm)]; rfl, .inl rfl⟩
  outa := by rw [if_neg (fun e => hab (congrArg Prod.fst e).symm)]; rfl
  old := fun e he _ => he
  ini := fun _ => rfl
theorem Aug.done (hF : Flow F a b S) (h : Aug F a b S (a, 1) Sx T) : Flow F a b T ∧ out T a = out S a + 1 := by
  refine ⟨⟨h.nd, h.ok, fun v va vb => ?_, fun v va vb => ?_⟩, by rw [h.outa, if_pos rfl]⟩
  · obtain ⟨x, _, h1, h2, _⟩ := h.cnt v va vb
    rw [if_neg (fun e => va (congrArg Prod.fst e).symm)] at h1 h2
    omega
  · obtain ⟨x, hx, h1, h2, _⟩ := h.cnt v va vb
    rw [if_neg (fun e => va (congrArg Prod.fst e).symm)] at h1 h2
    omega
theorem pair_ne0 {u v : Cell} : ((u, 1) : Door) ≠ (v, 0) := fun e => by
  have := congrArg Prod.snd e; simp at this
theorem pair_ne1 {u v : Cell} : ((u, 0) : Door) ≠ (v, 1) := fun e => by
  have := congrArg Prod.snd e; simp at this
theorem ite_pair {α : Type} {u v : Cell} {i : Int} {x y : α} : (if ((u, i) : Door) = (v, i) then x else y) = if u = v then x else y := by
  by_cases h : u = v
  · subst h; rw [if_pos rfl, if_pos rfl]
  · rw [if_neg h, if_neg (fun e => h (congrArg Prod.fst e))]
/-- a free step from u to v -/
theorem Aug.free (hF : Flow F a b S) (h : Aug F a b S (v, 0) Sx T) (hp : (u, 1) ∉ Sx) (hn : v ∈ nb u) (vF : v ∈ F) (va : v ≠ a) (uF : u ∈ F) (ub : u ≠ b) (hb : v = b → (u, b) ∉ S) :
    (u, v) ∉ T ∧ Aug F a b S (u, 1) ((u, 1) :: Sx) (T ++ [(u, v)]) := by
  have new : (u, v) ∉ T := by
    intro hm
    by_cases vb : v = b
    · have e := h.ini (by rw [vb])
      rw [e, vb] at hm
      exact hb vb hm
    · obtain ⟨x, hx, h1, h2, _⟩ := h.cnt v va vb
      rw [if_pos rfl] at h1
      have := inn_pos hm
      omega
  refine ⟨new, ?_⟩
  refine ⟨List.mem_cons_self, List.mem_cons_of_mem _ h.bx, ?_, fun e he => ?_, fun w wa wb => ?_, ?_, fun e he hx => ?_, fun e => absurd e pair_ne0⟩
  · rw [List.nodup_append]
    refine ⟨h.nd, by simp, fun x hx y hy e => ?_⟩
    simp at hy
    subst hy e
    exact new hx
  · rcases List.mem_append.mp he with he | he
    · exact h.ok e he
    · simp at he
      subst he
      exact ⟨uF, vF, hn, va, ub⟩
  · obtain ⟨x, hx, h1, h2, h3⟩ := h.cnt w wa wb
    refine ⟨x, hx, ?_, ?_, ?_⟩
    · rw [if_neg pair_ne0, inn_snoc]
      rw [ite_pair] at h1
      exact h1
    · rw [if_neg pair_ne1] at h2
      rw [out_snoc, ite_pair]
      show out T w + (if u = w then 1 else 0) = _
      omega
    · rcases h3 with h3 | ⟨h3, h4⟩
      · exact .inl h3
      · exact .inr ⟨List.mem_cons_of_mem _ h3, List.mem_cons_of_mem _ h4⟩
  · have h1 := h.outa
    rw [if_neg pair_ne1] at h1
    rw [out_snoc, ite_pair]
    show out T a + (if u = a then 1 else 0) = _
    omega
  · exact List.mem_append_left _ (h.old e he fun q => hx (List.mem_cons_of_mem _ q))
/-- back through a cell of a way -/
theorem Aug.through (hF : Flow F a b S) (h : Aug F a b S (v, 0) Sx T) (hp : (v, 1) ∉ Sx) (va : v ≠ a) (vb : v ≠ b) : Aug F a b S (v, 1) ((v, 1) :: Sx) T := by
  refine ⟨List.mem_cons_self, List.mem_cons_of_mem _ h.bx, h.nd, h.ok, fun w wa wb => ?_, ?_, fun e he hx => h.old e he fun q => hx (List.mem_cons_of_mem _ q), fun e => absurd e pair_ne0⟩
  · obtain ⟨x, hx, h1, h2, h3⟩ := h.cnt w wa wb
    rw [ite_pair] at h1
    rw [if_neg pair_ne1] at h2
    by_cases e : v = w
    · subst e
      rw [if_pos rfl] at h1
      refine ⟨x - 1, by omega, by rw [if_neg pair_ne0]; omega, by rw [if_pos rfl]; omega, .inr ⟨List.mem_cons_of_mem _ h.hd, List.mem_cons_self⟩⟩
    · rw [if_neg e] at h1
      refine ⟨x, hx, by rw [if_neg pair_ne0]; exact h1, by rw [ite_pair, if_neg e]; exact h2, ?_⟩
      rcases h3 with h3 | ⟨h3, h4⟩
      · exact .inl h3
      · exact .inr ⟨List.mem_cons_of_mem _ h3, List.mem_cons_of_mem _ h4⟩
  · have h1 := h.outa
    rw [if_neg pair_ne1] at h1
    rw [if_neg (fun e => va (congrArg Prod.fst e))]
    exact h1
/-- through a cell that no way has -/
theorem Aug.into (hF : Flow F a b S) (h : Aug F a b S (v, 1) Sx T) (hp : (v, 0) ∉ Sx) (va : v ≠ a) (vb : v ≠ b) (hv : ¬ Beh a S v) : Aug F a b S (v, 0) ((v, 0) :: Sx) T := by
  have h0 : out S v = 0 := by
    rcases Nat.eq_zero_or_pos (out S v) with z | z
    · exact z
    · exact absurd ⟨va, out_ex z⟩ hv
  refine ⟨List.mem_cons_self, List.mem_cons_of_mem _ h.bx, h.nd, h.ok, fun w wa wb => ?_, ?_, fun e he hx => h.old e he fun q => hx (List.mem_cons_of_mem _ q), fun e => absurd (congrArg Prod.fst e) vb⟩
  · obtain ⟨x, hx, h1, h2, h3⟩ := h.cnt w wa wb
    rw [if_neg pair_ne0] at h1
    rw [ite_pair] at h2
    by_cases e : v = w
    · subst e
      rw [if_pos rfl] at h2
      have x0 : x = 0 := by
        rcases h3 with h3 | ⟨h3, _⟩
        · rw [h3, h0]
        · exact absurd h3 hp
      refine ⟨1, Nat.le_refl _, by rw [if_pos rfl]; omega, by rw [if_neg pair_ne1]; omega, .inr ⟨List.mem_cons_self, List.mem_cons_of_mem _ h.hd⟩⟩
    · rw [if_neg e] at h2
      refine ⟨x, hx, by rw [ite_pair, if_neg e]; exact h1, by rw [if_neg pair_ne1]; exact h2, ?_⟩
      rcases h3 with h3 | ⟨h3, h4⟩
      · exact .inl h3
      · exact .inr ⟨List.mem_cons_of_mem _ h3, List.mem_cons_of_mem _ h4⟩
  · have h1 := h.outa
    rw [if_neg (fun e => va (congrArg Prod.fst e))] at h1
    rw [if_neg pair_ne1]
    exact h1
/-- back along a step of a way -/
theorem Aug.undo (hF : Flow F a b S) (h : Aug F a b S (u, 1) Sx T) (hp : (v, 0) ∉ Sx) (hm : (u, v) ∈ S) (ua : u ≠ a) (vb : v ≠ b) :
    (u, v) ∈ T ∧ Aug F a b S (v, 0) ((v, 0) :: Sx) (T.filter fun x => decide (x ≠ (u, v))) := by
  have o := hF.ok _ hm
  have hT : (u, v) ∈ T := h.old _ hm hp
  have va : v ≠ a := o.2.2.2.1
  have ub : u ≠ b := o.2.2.2.2
  refine ⟨hT, ?_⟩
  refine ⟨List.mem_cons_self, List.mem_cons_of_mem _ h.bx, List.Pairwise.filter _ h.nd, fun e he => h.ok e (List.mem_filter.mp he).1, fun w wa wb => ?_, ?_, fun e he hx => ?_, fun e => absurd (congrArg Prod.fst e) vb⟩
  · obtain ⟨x, hx, h1, h2, h3⟩ := h.cnt w wa wb
    rw [if_neg pair_ne0] at h1
    rw [ite_pair] at h2
    have i1 := inn_drop h.nd hT w
    have i2 := out_drop h.nd hT w
    simp only at i1 i2
    refine ⟨x, hx, ?_, ?_, ?_⟩
    · rw [ite_pair]; omega
    · rw [if_neg pair_ne1]; omega
    · rcases h3 with h3 | ⟨h3, h4⟩
      · exact .inl h3
      · exact .inr ⟨List.mem_cons_of_mem _ h3, List.mem_cons_of_mem _ h4⟩
  · have h1 := h.outa
    have i2 := out_drop h.nd hT a
    simp only at i2
    rw [if_neg (fun e => ua (congrArg Prod.fst e))] at h1
    rw [if_neg ua] at i2
    rw [if_neg pair_ne1]; omega
  · refine List.mem_filter.mpr ⟨h.old e he fun q => hx (List.mem_cons_of_mem _ q), decide_eq_true fun q => hx ?_⟩
    rw [q]; exact List.mem_cons_self
end

/-! ### the loop of taking in -/
/-- at the door d (k doors were met ahead of it) the steps are T -/
def AugAt (F : List Cell) (a b : Cell) (S : List Step) (M : List (Door × Option Door)) (d : Door) (k : Nat) (T : List Step) : Prop :=
  ∃ (e : Option Door) (M1 M2 : List (Door × Option Door)) (Sx : List Door), M = M1 ++ (d, e) :: M2 ∧ M1.length = k ∧ (∀ x ∈ Sx, x ∈ d :: keys M2) ∧ Aug F a b S d Sx T
section
variable {F : List Cell} {a b : Cell} {S T : List Step} {M : List (Door × Option Door)} {d p : Door} {k : Nat}
theorem AugAt.start (hF : Flow F a b S) (hab : a ≠ b) (h : (b, 0) ∈ keys M) : ∃ k, AugAt F a b S M (b, 0) k S := by
  obtain ⟨⟨d, e⟩, hm, q⟩ := List.mem_map.mp h
  simp only at q
  subst q
  obtain ⟨M1, M2, e1⟩ := List.append_of_mem hm
  exact ⟨M1.length, e, M1, M2, _, e1, rfl, fun x hx => by simp at hx; simp [hx], Aug.start hF hab⟩
theorem keys_uniq (hn : (keys M).Nodup) {d : Door} {e e' : Option Door} (h1 : (d, e) ∈ M) (h2 : (d, e') ∈ M) : e = e' := by
  induction M with
  | nil => cases h1
  | cons x M ih =>
    rw [keys, List.map_cons] at hn
    have hn' := List.nodup_cons.mp hn
    rcases List.mem_cons.mp h1 with q1 | q1
    · rcases List.mem_cons.mp h2 with q2 | q2
      · rw [← q1] at q2; exact (congrArg Prod.snd q2).symm
      · exact absurd (List.mem_map.mpr ⟨_, q2, by rw [← q1]⟩) hn'.1
    · rcases List.mem_cons.mp h2 with q2 | q2
      · exact absurd (List.mem_map.mpr ⟨_, q1, by rw [← q2]⟩) hn'.1
      · exact ih hn'.2 q1 q2
theorem AugAt.here (h : AugAt F a b S M d k T) : ∃ e, (d, e) ∈ M := by
  obtain ⟨e, M1, M2, Sx, rfl, _⟩ := h
  exact ⟨e, by simp⟩
theorem AugAt.done (hF : Flow F a b S) (hM : Srch F a b S M) (h : AugAt F a b S M d k T) (hd : (d, none) ∈ M) : Flow F a b T ∧ out T a = out S a + 1 := by
  obtain ⟨M1, M2, _, q⟩ := Met.split hM hd
  rcases q with ⟨_, q, _⟩ | ⟨p, q, _⟩
  · subst q
    obtain ⟨_, _, _, Sx, _, _, _, A⟩ := h
    exact A.done hF
  · cases q
theorem split_uniq {α : Type} {x : α} : ∀ {A B C D : List α}, x ∉ A → x ∉ C → A ++ x :: B = C ++ x :: D → A = C
  | [], _, [], _, _, _, _ => rfl
  | [], _, c :: C, _, _, hc, e => by
    simp at e
    exact absurd (e.1 ▸ List.mem_cons_self) hc
  | a :: A, _, [], _, ha, _, e => by
    simp at e
    exact absurd (e.1 ▸ List.mem_cons_self) ha
  | a :: A, B, c :: C, D, ha, hc, e => by
    simp at e
    obtain ⟨rfl, e⟩ := e
    rw [split_uniq (fun q => ha (List.mem_cons_of_mem _ q)) (fun q => hc (List.mem_cons_of_mem _ q)) e]
/-- one turn of the loop -/
theorem AugAt.turn (hF : Flow F a b S) (ha : a ∈ F) (hab : a ≠ b) (hnab : b ∉ nb a) (hM : Srch F a b S M) (h : AugAt F a b S M d k T) (hd : (d, some p) ∈ M) :
    (p.1 ≠ d.1 → p.2 = 1 → (p.1, d.1) ∉ T ∧ ∃ k', k' < k ∧ AugAt F a b S M p k' (T ++ [(p.1, d.1)])) ∧
    (p.1 ≠ d.1 → p.2 ≠ 1 → (d.1, p.1) ∈ T ∧ ∃ k', k' < k ∧ AugAt F a b S M p k' (T.filter fun x => decide (x ≠ (d.1, p.1)))) ∧
    (p.1 = d.1 → ∃ k', k' < k ∧ AugAt F a b S M p k' T) := by
  obtain ⟨e, M1, M2, Sx, eM, ek, hSx, A⟩ := h
  have hn := Met.nodup hM
  have hde : (d, e) ∈ M := by rw [eM]; simp
  have ee := keys_uniq hn hde hd
  subst ee
  obtain ⟨M1', M2', eM', q⟩ := Met.split hM hd
  have e1 : M1' = M1 ∧ M2' = M2 := by
    have hk : keys M = keys M1 ++ d :: keys M2 := by rw [eM]; simp [keys]
    have hk' : keys M = keys M1' ++ d :: keys M2' := by rw [eM']; simp [keys]
    have hn1 : d ∉ keys M1 := by
      rw [hk, List.nodup_append] at hn
      exact fun q => hn.2.2 d q d List.mem_cons_self rfl
    have hn2 : d ∉ keys M1' := by
      rw [hk', List.nodup_append] at hn
      exact fun q => hn.2.2 d q d List.mem_cons_self rfl
    have hl : M1'.length = M1.length := by
      have z := congrArg List.length (split_uniq hn2 hn1 (hk'.symm.trans hk))
      simpa [keys] using z
    have := List.append_inj (eM'.symm.trans eM) hl
    exact ⟨this.1, by simpa using this.2⟩
  obtain ⟨rfl, rfl⟩ := e1
  rcases q with ⟨q, _⟩ | ⟨p', q, hM1, hp, hb0, hN⟩
  · cases q
  · cases q
    -- p stands ahead of d
    have hpM : p ∈ keys M := by rw [eM]; simp only [keys, List.map_append]; exact List.mem_append_left _ hp
    have hpS : p ∉ Sx := fun q => by
      have q' := hSx p q
      have hk : keys M = keys M1' ++ d :: keys M2' := by rw [eM]; simp [keys]
      rw [hk, List.nodup_append] at hn
      exact hn.2.2 p hp p q' rfl
    have mk : ∀ T', Aug F a b S p (p :: Sx) T' → ∃ k', k' < k ∧ AugAt F a b S M p k' T' := fun T' A' => by
      obtain ⟨⟨p0, e0⟩, hm0, q0⟩ := List.mem_map.mp hp
      simp only at q0
      subst q0
      obtain ⟨L1, L2, eL⟩ := List.append_of_mem hm0
      refine ⟨L1.length, by rw [← ek, eL]; simp, e0, L1, L2 ++ (d, some p0) :: M2', p0 :: Sx, by rw [eM, eL]; simp, rfl, fun x hx => ?_, A'⟩
      rcases List.mem_cons.mp hx with hx | hx
      · rw [hx]; exact List.mem_cons_self
      · refine List.mem_cons_of_mem _ ?_
        rw [keys, List.map_append]
        exact List.mem_append_right _ (by simpa [keys] using hSx x hx)
    obtain ⟨pF, _, pa, pb⟩ := Srch.doors hF ha hab hM p hpM
    obtain ⟨pc, ps⟩ := p
    obtain ⟨dc, ds⟩ := d
    simp only
    rcases hN with ⟨h1, h2, h3, h4, h5⟩ | ⟨h1, h2, h3⟩ | ⟨h1, h2, h3⟩ | ⟨h1, h2, h3, h4, h5, h6⟩
    · simp only at h1 h2 h3 h4 h5
      subst h1 h2
      have ub : pc ≠ b := fun q => pb (by rw [q])
      have hne : pc ≠ dc := fun q => nb_ne h3 q.symm
      have r := A.free hF hpS h3 h4 h5 pF ub fun q hm => by
        subst q
        by_cases ua : pc = a
        · subst ua; exact hnab h3
        · exact (Srch.back hF hM pc dc hpM ua hm).1 rfl
      exact ⟨fun _ _ => ⟨r.1, mk _ r.2⟩, fun _ q => absurd rfl q, fun q => absurd q hne⟩
    · simp only at h1 h3
      cases h2
      subst h1
      have vb : pc ≠ b := fun q => pb (by rw [q])
      exact ⟨fun q => absurd rfl q, fun q => absurd rfl q, fun _ => mk _ (A.through hF hpS h3.1 vb)⟩
    · simp only at h1 h3
      cases h2
      subst h1
      have va : pc ≠ a := fun q => pa (by rw [q])
      have vb : pc ≠ b := fun q => hb0 (by rw [q])
      exact ⟨fun q => absurd rfl q, fun q => absurd rfl q, fun _ => mk _ (A.into hF hpS va vb h3)⟩
    · simp only at h1 h2 h3 h4 h5 h6
      subst h1 h2
      have hne : pc ≠ dc := nb_ne (hF.ok _ h5).2.2.1
      have r := A.undo hF hpS h5 h6 h4
      exact ⟨fun _ q => absurd q (by decide), fun _ _ => ⟨r.1, mk _ r.2⟩, fun q => absurd q hne⟩
end
end Mow

set_option autoImplicit false
set_option linter.all false
/-! Ways along the steps, the cells that bar. -/
namespace Mow
theorem nodup_ix {α : Type} {l : List α} : l.Nodup ↔ ∀ i j, i < j → j < l.length → l[i]? ≠ l[j]? := by
  unfold List.Nodup
  rw [List.pairwise_iff_getElem]
  constructor
  · intro h i j hij hj e
    rw [List.getElem?_eq_getElem hj, List.getElem?_eq_getElem (Nat.lt_trans hij hj)] at e
    exact h i j _ hj hij (Option.some.inj e)
  · intro h i j hi hj hij e
    exact h i j hij hj (by rw [List.getElem?_eq_getElem hi, List.getElem?_eq_getElem hj, e])
/-- each next to the one ahead by a step -/
def Tr (S : List Step) (l : List Cell) : Prop := ∀ i x y, l[i]? = some x → l[i + 1]? = some y → (x, y) ∈ S
theorem get_lt {α : Type} {l : List α} {i : Nat} {x : α} (h : l[i]? = some x) : i < l.length := (List.getElem?_eq_some_iff.mp h).1
theorem get_mem {α : Type} {l : List α} {i : Nat} {x : α} (h : l[i]? = some x) : x ∈ l := List.mem_of_getElem? h
theorem get_of_lt {α : Type} {l : List α} {i : Nat} (h : i < l.length) : ∃ x, l[i]? = some x := ⟨l[i], List.getElem?_eq_getElem h⟩
theorem get_pred {α : Type} {l : List α} {i : Nat} {y : α} (h : l[i + 1]? = some y) : ∃ x, l[i]? = some x := get_of_lt (by have := get_lt h; omega)
section
variable {F : List Cell} {a b : Cell} {S : List Step} {l : List Cell} {x y : Cell}
theorem Tr.snoc (h : Tr S l) (hl : l[l.length - 1]? = some x) (hs : (x, y) ∈ S) : Tr S (l ++ [y]) := by
  intro i u v hu hv
  by_cases h1 : i + 1 < l.length
  · rw [List.getElem?_append_left (by omega)] at hu hv
    exact h i u v hu hv
  · have h2 : i + 1 < (l ++ [y]).length := get_lt hv
    rw [List.length_append, List.length_singleton] at h2
    have hi : i + 1 = l.length := by omega
    rw [List.getElem?_append_left (by omega)] at hu
    rw [List.getElem?_append_right (by omega), hi, Nat.sub_self] at hv
    have e1 : i = l.length - 1 := by omega
    rw [e1, hl] at hu
    simp at hu hv
    subst hu hv
    exact hs
theorem Tr.into (hF : Flow F a b S) (h : Tr S l) {i : Nat} {y : Cell} (hi : l[i + 1]? = some y) : y ≠ a ∧ y ∈ F := by
  obtain ⟨x, hx⟩ := get_pred hi
  have o := hF.ok _ (h i x y hx hi)
  exact ⟨o.2.2.2.1, o.2.1⟩
theorem Tr.at0 (hF : Flow F a b S) (h : Tr S l) {i : Nat} (hi : l[i]? = some a) : i = 0 := by
  cases i with
  | zero => rfl
  | succ i => exact absurd rfl (h.into hF hi).1
/-- b stands at the end alone -/
theorem Tr.endb (hF : Flow F a b S) (h : Tr S l) {i : Nat} (hi : l[i]? = some b) : i + 1 = l.length := by
  have hlt := get_lt hi
  by_cases q : i + 1 < l.length
  · obtain ⟨y, hy⟩ := get_of_lt q
    exact absurd rfl (hF.ok _ (h i b y hi hy)).2.2.2.2
  · omega
/-- of two ways from a: a cell that both have stands at one place, and they begin alike -/
theorem Tr.meet (hF : Flow F a b S) {l m : List Cell} (hl : Tr S l) (hm : Tr S m) (l0 : l[0]? = some a) (m0 : m[0]? = some a) : ∀ (i j : Nat) (y : Cell), l[i]? = some y → m[j]? = some y → y ≠ a → y ≠ b → i = j ∧ l[1]? = m[1]?
  | 0, j, y, hi, _, ya, _ => by
    rw [l0] at hi
    exact absurd (Option.some.inj hi).symm ya
  | i + 1, 0, y, _, hj, ya, _ => by
    rw [m0] at hj
    exact absurd (Option.some.inj hj).symm ya
  | i + 1, j + 1, y, hi, hj, ya, yb => by
    obtain ⟨u, hu⟩ := get_pred hi
    obtain ⟨v, hv⟩ := get_pred hj
    have e : u = v := hF.inU yb (hl i u y hu hi) (hm j v y hv hj)
    subst e
    by_cases ua : u = a
    · subst ua
      have e1 := hl.at0 hF hu
      have e2 := hm.at0 hF hv
      subst e1 e2
      exact ⟨rfl, hi.trans hj.symm⟩
    · have ub : u ≠ b := (hF.ok _ (hl i u y hu hi)).2.2.2.2
      obtain ⟨e1, e2⟩ := Tr.meet hF hl hm l0 m0 i j u hu hv ua ub
      exact ⟨by omega, e2⟩
theorem Tr.nodup (hF : Flow F a b S) (h : Tr S l) (l0 : l[0]? = some a) : l.Nodup := by
  rw [nodup_ix]
  intro i j hij hj e
  obtain ⟨y, hy⟩ := get_of_lt hj
  rw [hy] at e
  by_cases ya : y = a
  · subst ya
    have := h.at0 hF hy
    omega
  · by_cases yb : y = b
    · subst yb
      have := h.endb hF e
      omega
    · have := (Tr.meet hF h h l0 l0 i j y e hy ya yb).1
      omega
theorem Tr.sub (hF : Flow F a b S) (ha : a ∈ F) (h : Tr S l) (l0 : l[0]? = some a) : ∀ x ∈ l, x ∈ F := by
  intro x hx
  obtain ⟨i, hi⟩ := List.mem_iff_getElem?.mp hx
  cases i with
  | zero => rw [l0] at hi; cases hi; exact ha
  | succ i => exact (h.into hF hi).2
theorem Tr.length (hF : Flow F a b S) (ha : a ∈ F) (h : Tr S l) (l0 : l[0]? = some a) : l.length ≤ F.length := nodup_le (h.nodup hF l0) (h.sub hF ha l0)
theorem adj_of_ix : ∀ {l : List Cell}, (∀ i x y, l[i]? = some x → l[i + 1]? = some y → y ∈ nb x) → Adj l
  | [], _ => trivial
  | [_], _ => trivial
  | x :: y :: l, h => ⟨h 0 x y rfl rfl, adj_of_ix (l := y :: l) fun i u v hu hv => h (i + 1) u v (by simpa using hu) (by simpa using hv)⟩
theorem ix_of_adj : ∀ {l : List Cell}, Adj l → ∀ i x y, l[i]? = some x → l[i + 1]? = some y → y ∈ nb x
  | [], _, i, x, y, hx, _ => by simp at hx
  | [z], _, i, x, y, hx, hy => by simp at hy
  | z :: w :: l, h, 0, x, y, hx, hy => by
    simp at hx hy
    subst hx hy
    exact h.1
  | z :: w :: l, h, i + 1, x, y, hx, hy => ix_of_adj (l := w :: l) h.2 i x y (by simpa using hx) (by simpa using hy)
theorem Tr.adj (hF : Flow F a b S) (h : Tr S l) : Adj l := adj_of_ix fun i x y hx hy => (hF.ok _ (h i x y hx hy)).2.2.1
end

/-- a way from a by f to b -/
structure WayP (a b : Cell) (S : List Step) (f : Cell) (w : List Cell) : Prop where
  w0 : w[0]? = some a
  w1 : w[1]? = some f
  tr : Tr S w
  last : w.getLast? = some b
theorem last_ix {α : Type} {l : List α} {x : α} (h : l.getLast? = some x) : l[l.length - 1]? = some x := by rw [← List.getLast?_eq_getElem?]; exact h

/-! ### the doors that are met at the end -/
structure Shut (F : List Cell) (a b : Cell) (S : List Step) (K : List Door) : Prop where
  k1 : (a, 1) ∈ K
  k2 : ∀ u v, (u, 1) ∈ K → v ∈ nb u → v ∈ F → v ≠ a → (v, 0) ∈ K
  k3 : ∀ u, (u, 1) ∈ K → Beh a S u → (u, 0) ∈ K
  k4 : ∀ u, (u, 0) ∈ K → ¬ Beh a S u → (u, 1) ∈ K
  k5 : ∀ u w, (u, 0) ∈ K → Beh a S u → u ≠ b → (w, u) ∈ S → w ≠ a → (w, 1) ∈ K
  k6 : (b, 0) ∉ K
  k7 : (a, 0) ∉ K
  k8 : (b, 1) ∉ K
  k9 : ∀ d ∈ K, d.1 ∈ F
theorem Shut.of {F : List Cell} {a b : Cell} {S : List Step} {M : List (Door × Option Door)} (hF : Flow F a b S) (ha : a ∈ F) (hab : a ≠ b) (hM : Srch F a b S M) (hb : (b, 0) ∉ keys M)
    (hc : ∀ d ∈ keys M, ∀ e, Nxt F a b S d e → e ∈ keys M) : Shut F a b S (keys M) where
  k1 := Met.begin hM
  k2 := fun u v hu hv vF va => hc _ hu _ (.inl ⟨rfl, rfl, hv, vF, va⟩)
  k3 := fun u hu hb => hc _ hu _ (.inr (.inl ⟨rfl, rfl, hb⟩))
  k4 := fun u hu hb => hc _ hu _ (.inr (.inr (.inl ⟨rfl, rfl, hb⟩)))
  k5 := fun u w hu hb ub hs wa => hc _ hu _ (.inr (.inr (.inr ⟨rfl, rfl, hb, ub, hs, wa⟩)))
  k6 := hb
  k7 := fun h => (Srch.doors hF ha hab hM _ h).2.2.1 rfl
  k8 := fun h => (Srch.doors hF ha hab hM _ h).2.2.2 rfl
  k9 := fun d h => (Srch.doors hF ha hab hM d h).1
/-- the cells that bar -/
def cut (F : List Cell) (K : List Door) : List Cell := F.filter fun c => decide ((c, 0) ∈ K ∧ (c, 1) ∉ K)
theorem mem_cut {F : List Cell} {K : List Door} {c : Cell} : c ∈ cut F K ↔ c ∈ F ∧ (c, 0) ∈ K ∧ (c, 1) ∉ K := by
  unfold cut; rw [List.mem_filter, decide_eq_true_eq]

/-- what barred tells -/
structure Barred (F : List Cell) (a b : Cell) (C : List Cell) (W : List (List Cell)) : Prop where
  cF : ∀ c ∈ C, c ∈ F ∧ c ≠ a ∧ c ≠ b
  cN : C.Nodup
  sep : ¬ Reach (F.filter fun x => decide (x ∉ C)) a b
  len : C.length = W.length
  adj : ∀ w ∈ W, Adj w
  wF : ∀ w ∈ W, ∀ x ∈ w, x ∈ F
  wN : ∀ w ∈ W, w.Nodup
  w0 : ∀ w ∈ W, w[0]? = some a
  wl : ∀ w ∈ W, w.getLast? = some b
  one : ∀ w ∈ W, w.countP (fun x => decide (x ∈ C)) = 1
  each : ∀ c ∈ C, W.countP (fun w => decide (c ∈ w)) = 1
  disj : W.Pairwise fun v w => ∀ x ∈ v, x ∈ w → x = a ∨ x = b
section
variable {F : List Cell} {a b : Cell} {S : List Step} {K : List Door} {w : List Cell} {f : Cell}
theorem Shut.sep (h : Shut F a b S K) (hab : a ≠ b) : ¬ Reach (F.filter fun x => decide (x ∉ cut F K)) a b := by
  intro r
  have q := r.closed (fun x => (x, 1) ∈ K) h.k1 fun x hx px y hy hyF => by
    obtain ⟨yF, yC⟩ := List.mem_filter.mp hyF
    rw [decide_eq_true_eq, mem_cut] at yC
    by_cases ya : y = a
    · rw [ya]; exact h.k1
    · have y0 := h.k2 x y px hy yF ya
      by_cases y1 : (y, 1) ∈ K
      · exact y1
      · exact absurd ⟨yF, y0, y1⟩ yC
  exact h.k8 q
/-- along a way: what is left was come to -/
theorem Shut.down (hF : Flow F a b S) (h : Shut F a b S K) (hw : Tr S w) {i : Nat} {x y : Cell} (hx : w[i]? = some x) (hy : w[i + 1]? = some y) (hy0 : (y, 0) ∈ K) : (x, 1) ∈ K := by
  have hs := hw i x y hx hy
  by_cases xa : x = a
  · rw [xa]; exact h.k1
  · have yb : y ≠ b := fun e => h.k6 (e ▸ hy0)
    exact h.k5 y x hy0 ⟨(hF.ok _ hs).2.2.2.1, hF.next yb hs⟩ yb hs xa
theorem Shut.down1 (hF : Flow F a b S) (h : Shut F a b S K) (hw : Tr S w) {i : Nat} {x y : Cell} (hx : w[i]? = some x) (hy : w[i + 1]? = some y) (hy1 : (y, 1) ∈ K) : (x, 1) ∈ K := by
  have hs := hw i x y hx hy
  have yb : y ≠ b := fun e => h.k8 (e ▸ hy1)
  exact h.down hF hw hx hy (h.k3 y hy1 ⟨(hF.ok _ hs).2.2.2.1, hF.next yb hs⟩)
theorem Shut.downs (hF : Flow F a b S) (h : Shut F a b S K) (hw : Tr S w) : ∀ (k i : Nat) (x y : Cell), w[i]? = some x → w[i + k]? = some y → (y, 1) ∈ K → (x, 1) ∈ K
  | 0, i, x, y, hx, hy, h1 => by
    rw [Nat.add_zero, hx] at hy
    cases hy; exact h1
  | k + 1, i, x, y, hx, hy, h1 => by
    obtain ⟨z, hz⟩ := get_pred (show w[(i + k) + 1]? = some y from hy)
    exact Shut.downs hF h hw k i x z hx hz (h.down1 hF hw hz hy h1)
theorem Shut.one (hF : Flow F a b S) (h : Shut F a b S K) (hw : WayP a b S f w) : w.countP (fun x => decide (x ∈ cut F K)) = 1 := by
  have hn := hw.tr.nodup hF hw.w0
  -- there is one
  have ex : ∀ n i x, w[i]? = some x → (x, 1) ∈ K → w.length - i = n → ∃ c ∈ w, c ∈ cut F K := by
    intro n
    induction n with
    | zero =>
      intro i x hx _ e
      have := get_lt hx
      omega
    | succ n ih =>
      intro i x hx h1 e
      have xb : x ≠ b := fun e => h.k8 (e ▸ h1)
      by_cases q : i + 1 < w.length
      · obtain ⟨y, hy⟩ := get_of_lt q
        have o := hF.ok _ (hw.tr i x y hx hy)
        have y0 := h.k2 x y h1 o.2.2.1 o.2.1 o.2.2.2.1
        by_cases y1 : (y, 1) ∈ K
        · exact ih (i + 1) y hy y1 (by omega)
        · exact ⟨y, get_mem hy, mem_cut.mpr ⟨o.2.1, y0, y1⟩⟩
      · have hl := last_ix hw.last
        have : i = w.length - 1 := by have := get_lt hx; omega
        rw [this] at hx
        rw [hl] at hx
        cases hx
        exact absurd rfl xb
  obtain ⟨c, hc, hcC⟩ := ex _ 0 a hw.w0 h.k1 rfl
  refine countP_one_of hn hc (by simpa using hcC) fun y hy hyC => ?_
  have hyC' : y ∈ cut F K := by simpa using hyC
  obtain ⟨i, hi⟩ := List.mem_iff_getElem?.mp hc
  obtain ⟨j, hj⟩ := List.mem_iff_getElem?.mp hy
  obtain ⟨_, c0, c1⟩ := mem_cut.mp hcC
  obtain ⟨_, y0, y1⟩ := mem_cut.mp hyC'
  -- the one ahead of each is left
  have pre : ∀ (i j : Nat) (c y : Cell), w[i]? = some c → w[j]? = some y → (c, 1) ∉ K → (y, 0) ∈ K → ¬ i < j := by
    intro i j c y hi hj c1 y0 hij
    obtain ⟨k, rfl⟩ : ∃ k, j = (i + k) + 1 := ⟨j - i - 1, by omega⟩
    obtain ⟨z, hz⟩ := get_pred hj
    exact c1 (h.downs hF hw.tr k i c z hi hz (h.down hF hw.tr hz hj y0))
  have h1 := pre i j c y hi hj c1 y0
  have h2 := pre j i y c hj hi y1 c0
  have : i = j := by omega
  rw [this, hj] at hi
  exact Option.some.inj hi
/-- a cell that bars stands on a way -/
theorem Shut.trace (hF : Flow F a b S) (h : Shut F a b S K) (ha : a ∈ F) {c : Cell} (hc : c ∈ cut F K) : ∀ (n : Nat) (l : List Cell), Tr S l → l.Nodup → (∀ x ∈ l, x ∈ F) → l.getLast? = some c → (∀ i x, l[i]? = some x → i + 1 < l.length → (x, 1) ∈ K) →
    (∀ x, l[0]? = some x → x ≠ a) → F.length - l.length = n → ∃ m, Tr S m ∧ m[0]? = some a ∧ m.getLast? = some c := by
  obtain ⟨cF, c0, c1⟩ := mem_cut.mp hc
  have cb : c ≠ b := fun e => h.k6 (e ▸ c0)
  have ca : c ≠ a := fun e => h.k7 (e ▸ c0)
  have cB : Beh a S c := by
    by_cases q : Beh a S c
    · exact q
    · exact absurd (h.k4 c c0 q) c1
  intro n
  induction n with
  | zero =>
    intro l hT hn hs hl hK h0 e
    -- no room for one more: yet there is one
    exact absurd e (by
      intro e
      -- as in the step
      cases l with
      | nil => simp at hl
      | cons x r =>
        have xa := h0 x rfl
        have x0 : (x, 0) ∈ K ∧ Beh a S x := by
          by_cases q : r = []
          · subst q; simp at hl; subst hl; exact ⟨c0, cB⟩
          · have hlen : 0 + 1 < (x :: r).length := by
              have : 0 < r.length := List.length_pos_iff.mpr q
              rw [List.length_cons]; omega
            have x1 := hK 0 x rfl hlen
            obtain ⟨y, hy⟩ := get_of_lt hlen
            have bx : Beh a S x := ⟨xa, y, hT 0 x y rfl hy⟩
            exact ⟨h.k3 x x1 bx, bx⟩
        have xb : x ≠ b := fun e => h.k6 (e ▸ x0.1)
        obtain ⟨g, hg⟩ : ∃ g, (g, x) ∈ S := by
          obtain ⟨_, n, hn⟩ := x0.2
          exact hF.prev xa hn
        have gF := (hF.ok _ hg).1
        have gl : g ∉ x :: r := by
          intro hm
          obtain ⟨i, hi⟩ := List.mem_iff_getElem?.mp hm
          by_cases ga : g = a
          · cases i with
            | zero => simp at hi; exact xa (hi.trans ga)
            | succ i => exact (hT.into hF hi).1 ga
          · have g1 := h.k5 x g x0.1 x0.2 xb hg ga
            by_cases q : i + 1 < (x :: r).length
            · obtain ⟨y, hy⟩ := get_of_lt q
              have e := hF.outU ga hg (hT i g y hi hy)
              subst e
              have := (nodup_ix.mp hn) 0 (i + 1) (by omega) q
              exact this (by rw [hy]; rfl)
            · have hl' := last_ix hl
              have : i = (x :: r).length - 1 := by have := get_lt hi; omega
              rw [← this, hi] at hl'
              cases hl'
              exact c1 g1
        have := nodup_le (l := g :: x :: r) (m := F) (List.nodup_cons.mpr ⟨gl, hn⟩) fun z hz => by
          rcases List.mem_cons.mp hz with z | z
          · rw [z]; exact gF
          · exact hs _ z
        rw [List.length_cons] at this
        omega)
  | succ n ih =>
    intro l hT hn hs hl hK h0 e
    cases l with
    | nil => simp at hl
    | cons x r =>
      have xa := h0 x rfl
      have x0 : (x, 0) ∈ K ∧ Beh a S x := by
        by_cases q : r = []
        · subst q; simp at hl; subst hl; exact ⟨c0, cB⟩
        · have hlen : 0 + 1 < (x :: r).length := by
            have : 0 < r.length := List.length_pos_iff.mpr q
            rw [List.length_cons]; omega
          have x1 := hK 0 x rfl hlen
          obtain ⟨y, hy⟩ := get_of_lt hlen
          have bx : Beh a S x := ⟨xa, y, hT 0 x y rfl hy⟩
          exact ⟨h.k3 x x1 bx, bx⟩
      have xb : x ≠ b := fun e => h.k6 (e ▸ x0.1)
      obtain ⟨g, hg⟩ : ∃ g, (g, x) ∈ S := by
        obtain ⟨_, n, hn⟩ := x0.2
        exact hF.prev xa hn
      have gF := (hF.ok _ hg).1
      have hT' : Tr S (g :: x :: r) := by
        intro i u v hu hv
        cases i with
        | zero => simp at hu hv; subst hu hv; exact hg
        | succ i => exact hT i u v (by simpa using hu) (by simpa using hv)
      have hl' : (g :: x :: r).getLast? = some c := by rw [List.getLast?_cons_cons]; exact hl
      by_cases ga : g = a
      · exact ⟨g :: x :: r, hT', by rw [ga]; rfl, hl'⟩
      · have g1 := h.k5 x g x0.1 x0.2 xb hg ga
        have gl : g ∉ x :: r := by
          intro hm
          obtain ⟨i, hi⟩ := List.mem_iff_getElem?.mp hm
          by_cases q : i + 1 < (x :: r).length
          · obtain ⟨y, hy⟩ := get_of_lt q
            have e := hF.outU ga hg (hT i g y hi hy)
            subst e
            have := (nodup_ix.mp hn) 0 (i + 1) (by omega) q
            exact this (by rw [hy]; rfl)
          · have hl' := last_ix hl
            have : i = (x :: r).length - 1 := by have := get_lt hi; omega
            rw [← this, hi] at hl'
            cases hl'
            exact c1 g1
        have hn' : (g :: x :: r).Nodup := List.nodup_cons.mpr ⟨gl, hn⟩
        have hs' : ∀ z ∈ g :: x :: r, z ∈ F := fun z hz => by
          rcases List.mem_cons.mp hz with z | z
          · rw [z]; exact gF
          · exact hs _ z
        refine ih (g :: x :: r) hT' hn' hs' hl' (fun i z hz hi => ?_) (fun z hz => by simp at hz; rw [← hz]; exact ga) ?_
        · cases i with
          | zero => simp at hz; rw [← hz]; exact g1
          | succ i => exact hK i z (by simpa using hz) (by simpa using hi)
        · have := nodup_le hn' hs'
          rw [List.length_cons] at this ⊢
          omega
/-- of two ways that begin alike, one to b: the other one's cells are among its own -/
theorem Tr.pre (hF : Flow F a b S) {m : List Cell} (hw : WayP a b S f w) (hm : Tr S m) (m0 : m[0]? = some a) (m1 : m[1]? = some f) : ∀ (i : Nat) (x : Cell), m[i]? = some x → w[i]? = some x
  | 0, x, hx => by rw [m0] at hx; rw [hw.w0]; exact hx
  | 1, x, hx => by rw [m1] at hx; rw [hw.w1]; exact hx
  | i + 2, y, hy => by
    obtain ⟨x, hx⟩ := get_pred hy
    have q := Tr.pre hF hw hm m0 m1 (i + 1) x hx
    have xa : x ≠ a := (hm.into hF hx).1
    have hs := hm (i + 1) x y hx hy
    have xb : x ≠ b := (hF.ok _ hs).2.2.2.2
    have hlt := get_lt q
    by_cases z : i + 2 < w.length
    · obtain ⟨y', hy'⟩ := get_of_lt z
      have e := hF.outU xa hs (hw.tr (i + 1) x y' q hy')
      rw [e]; exact hy'
    · have hl := last_ix hw.last
      have e : w.length - 1 = i + 1 := by omega
      rw [e, q] at hl
      exact absurd (Option.some.inj hl) xb
theorem Shut.on (hF : Flow F a b S) (h : Shut F a b S K) (ha : a ∈ F) {c : Cell} (hc : c ∈ cut F K) : ∃ f, (a, f) ∈ S ∧ ∀ w, WayP a b S f w → c ∈ w := by
  obtain ⟨cF, c0, c1⟩ := mem_cut.mp hc
  have ca : c ≠ a := fun e => h.k7 (e ▸ c0)
  obtain ⟨m, hT, m0, hl⟩ := h.trace hF ha hc _ [c] (fun i x y hx hy => by simp at hy) (by simp) (by simpa using cF) (by simp) (fun i x hx hi => by simp at hi) (fun x hx => by simp at hx; rw [← hx]; exact ca) rfl
  have hl' := last_ix hl
  have hlen : 1 < m.length := by
    rcases Nat.lt_or_ge 1 m.length with q | q
    · exact q
    · exfalso
      have : m.length - 1 = 0 := by omega
      rw [this, m0] at hl'
      exact ca (Option.some.inj hl').symm
  obtain ⟨f, hf⟩ := get_of_lt hlen
  exact ⟨f, hT 0 a f m0 hf, fun w hw => get_mem (Tr.pre hF hw hT m0 hf _ _ hl')⟩
end
/-- all: from the firsts, one way each -/
theorem barred_of {F : List Cell} {a b : Cell} {S : List Step} {K : List Door} (hF : Flow F a b S) (h : Shut F a b S K) (hFn : F.Nodup) (ha : a ∈ F) (hab : a ≠ b) (hnab : b ∉ nb a) {fs : List Cell} (hfn : fs.Nodup) (hfs : ∀ f, f ∈ fs ↔ (a, f) ∈ S)
    {ws W : List (List Cell)} (hl : ws.length = fs.length) (hws : ∀ (j : Nat) (f : Cell) (w : List Cell), fs[j]? = some f → ws[j]? = some w → WayP a b S f w) (hW : W.Perm ws) : Barred F a b (cut F K) W := by
  have way : ∀ w ∈ W, ∃ f, (a, f) ∈ S ∧ WayP a b S f w := fun w hw => by
    obtain ⟨j, hj⟩ := List.mem_iff_getElem?.mp (hW.mem_iff.mp hw)
    have hlt := get_lt hj
    obtain ⟨f, hf⟩ := get_of_lt (l := fs) (i := j) (by omega)
    exact ⟨f, (hfs f).mp (get_mem hf), hws j f w hf hj⟩
  have dj : ws.Pairwise fun v w => ∀ x ∈ v, x ∈ w → x = a ∨ x = b := by
    rw [List.pairwise_iff_getElem]
    intro i j hi hj hij x hx hy
    obtain ⟨f, hf⟩ := get_of_lt (l := fs) (i := i) (by omega)
    obtain ⟨g, hg⟩ := get_of_lt (l := fs) (i := j) (by omega)
    have w1 := hws i f _ hf (List.getElem?_eq_getElem hi)
    have w2 := hws j g _ hg (List.getElem?_eq_getElem hj)
    obtain ⟨k, hk⟩ := List.mem_iff_getElem?.mp hx
    obtain ⟨k', hk'⟩ := List.mem_iff_getElem?.mp hy
    by_cases xa : x = a
    · exact .inl xa
    · by_cases xb : x = b
      · exact .inr xb
      · have e := (Tr.meet hF w1.tr w2.tr w1.w0 w2.w0 k k' x hk hk' xa xb).2
        rw [w1.w1, w2.w1] at e
        have e' := Option.some.inj e
        subst e'
        exact absurd (hf.trans hg.symm) ((nodup_ix.mp hfn) i j hij (by omega))
  have dW : W.Pairwise fun v w => ∀ x ∈ v, x ∈ w → x = a ∨ x = b := (hW.pairwise_iff fun {v w} h x hx hy => h x hy hx).mpr dj
  have cne : ∀ c ∈ cut F K, c ∈ F ∧ c ≠ a ∧ c ≠ b := fun c hc => by
    obtain ⟨cF, c0, _⟩ := mem_cut.mp hc
    exact ⟨cF, fun e => h.k7 (e ▸ c0), fun e => h.k6 (e ▸ c0)⟩
  have one : ∀ w ∈ W, w.countP (fun x => decide (x ∈ cut F K)) = 1 := fun w hw => by
    obtain ⟨f, _, hf⟩ := way w hw
    exact h.one hF hf
  have cn : (cut F K).Nodup := List.Pairwise.filter _ hFn
  have wn : ∀ w ∈ W, w.Nodup := fun w hw => by
    obtain ⟨f, _, hf⟩ := way w hw
    exact hf.tr.nodup hF hf.w0
  have each : ∀ c ∈ cut F K, W.countP (fun w => decide (c ∈ w)) = 1 := fun c hc => by
    obtain ⟨f, hf, hall⟩ := h.on hF ha hc
    obtain ⟨j, hj⟩ := List.mem_iff_getElem?.mp ((hfs f).mpr hf)
    obtain ⟨w, hw⟩ := get_of_lt (l := ws) (i := j) (by rw [hl]; exact get_lt hj)
    have hcw := hall w (hws j f w hj hw)
    have hwW : w ∈ W := hW.mem_iff.mpr (get_mem hw)
    obtain ⟨_, ca, cb⟩ := cne c hc
    have h1 : 1 ≤ W.countP (fun w => decide (c ∈ w)) := List.countP_pos_iff.mpr ⟨w, hwW, by simpa using hcw⟩
    have h2 : W.countP (fun w => decide (c ∈ w)) ≤ 1 := by
      clear h1 hwW hW way one wn dj
      induction W with
      | nil => exact Nat.zero_le _
      | cons v W ih =>
        have p := List.pairwise_cons.mp dW
        rw [List.countP_cons]
        by_cases q : c ∈ v
        · rw [if_pos (by simpa using q)]
          have : W.countP (fun w => decide (c ∈ w)) = 0 := by
            rw [List.countP_eq_zero]
            intro u hu hcu
            rcases p.1 u hu c q (by simpa using hcu) with z | z
            · exact ca z
            · exact cb z
          omega
        · rw [if_neg (by simpa using q)]
          exact ih p.2
    omega
  refine ⟨cne, cn, h.sep hab, ?_, fun w hw => ?_, fun w hw => ?_, wn, fun w hw => ?_, fun w hw => ?_, one, each, dW⟩
  · have dc := double_count (fun (w : List Cell) (c : Cell) => decide (c ∈ w)) W (cut F K)
    have e1 := sum_ones (fun w : List Cell => (cut F K).countP fun c => decide (c ∈ w)) W fun w hw => by
      have o := one w hw
      have wn' := wn w hw
      -- both count the cells of both
      have z : ((cut F K).filter fun c => decide (c ∈ w)).length = (w.filter fun x => decide (x ∈ cut F K)).length := by
        refine Nat.le_antisymm (nodup_le (List.Pairwise.filter _ cn) fun x hx => ?_) (nodup_le (List.Pairwise.filter _ wn') fun x hx => ?_)
        · obtain ⟨h1, h2⟩ := List.mem_filter.mp hx
          exact List.mem_filter.mpr ⟨by simpa using h2, by simpa using h1⟩
        · obtain ⟨h1, h2⟩ := List.mem_filter.mp hx
          exact List.mem_filter.mpr ⟨by simpa using h2, by simpa using h1⟩
      rw [List.countP_eq_length_filter, z, ← List.countP_eq_length_filter]
      exact o
    have e2 := sum_ones (fun c : Cell => W.countP fun w => decide (c ∈ w)) (cut F K) each
    rw [← e2, ← dc, e1]
  · obtain ⟨f, _, hf⟩ := way w hw
    exact hf.tr.adj hF
  · obtain ⟨f, _, hf⟩ := way w hw
    exact hf.tr.sub hF ha hf.w0
  · obtain ⟨f, _, hf⟩ := way w hw
    exact hf.w0
  · obtain ⟨f, _, hf⟩ := way w hw
    exact hf.last
end Mow

set_option autoImplicit false
set_option linter.all false
/-! Rows and columns exchanged; one cell back; the order of cells and of ways. -/
namespace Mow
section
variable {F G : List Cell} {a b : Cell} {C C' : List Cell} {W W' : List (List Cell)}
theorem cons_of_get0 {l : List Cell} {x : Cell} (h : l[0]? = some x) : ∃ r, l = x :: r := by
  cases l with
  | nil => simp at h
  | cons y r => simp at h; subst h; exact ⟨r, rfl⟩
/-- a way has one of the cells that bar the exchanged floor -/
theorem Barred.hits (B : Barred F a b C W) (hG : ∀ x ∈ F, sw x ∈ G) (hs : ¬ Reach (G.filter fun x => decide (x ∉ C')) (sw a) (sw b)) : ∀ w ∈ W, ∃ x ∈ w, sw x ∈ C' := by
  intro w hw
  by_cases q : ∃ x ∈ w, sw x ∈ C'
  · exact q
  · exfalso
    obtain ⟨r, rfl⟩ := cons_of_get0 (B.w0 w hw)
    refine hs ?_
    have hadj := adj_sw (B.adj _ hw)
    rw [List.map_cons] at hadj
    refine adj_reach hadj (fun y hy => ?_) ?_
    · rw [← List.map_cons] at hy
      obtain ⟨x, hx, rfl⟩ := List.mem_map.mp hy
      exact List.mem_filter.mpr ⟨hG x (B.wF _ hw x hx), decide_eq_true fun m => q ⟨x, hx, m⟩⟩
    · rw [← List.map_cons, List.getLast?_map, B.wl _ hw]; rfl
theorem Barred.le (B : Barred F a b C W) (hG : ∀ x ∈ F, sw x ∈ G) (hs : ¬ Reach (G.filter fun x => decide (x ∉ C')) (sw a) (sw b)) (hC : ∀ c ∈ C', c ≠ sw a ∧ c ≠ sw b) : C.length ≤ C'.length := by
  have hh := B.hits hG hs
  have dj := B.disj
  rw [B.len]
  clear B
  -- one cell of each way
  have go : ∀ (W : List (List Cell)), (∀ w ∈ W, ∃ x ∈ w, sw x ∈ C') → W.Pairwise (fun v w => ∀ x ∈ v, x ∈ w → x = a ∨ x = b) → ∃ l : List Cell, l.length = W.length ∧ l.Nodup ∧ (∀ x ∈ l, sw x ∈ C') ∧ ∀ x ∈ l, ∃ w ∈ W, x ∈ w := by
    intro W
    induction W with
    | nil => intro _ _; exact ⟨[], rfl, List.nodup_nil, fun _ h => (nomatch h), fun _ h => (nomatch h)⟩
    | cons w W ih =>
      intro h1 h2
      obtain ⟨h3, h4⟩ := List.pairwise_cons.mp h2
      obtain ⟨l, e, n, c, o⟩ := ih (fun v hv => h1 v (List.mem_cons_of_mem _ hv)) h4
      obtain ⟨x, hx, xc⟩ := h1 w List.mem_cons_self
      refine ⟨x :: l, by rw [List.length_cons, List.length_cons, e], List.nodup_cons.mpr ⟨fun hm => ?_, n⟩, fun y hy => ?_, fun y hy => ?_⟩
      · obtain ⟨v, hv, hxv⟩ := o x hm
        obtain ⟨na, nb⟩ := hC _ xc
        rcases h3 v hv x hx hxv with q | q
        · exact na (by rw [q])
        · exact nb (by rw [q])
      · rcases List.mem_cons.mp hy with q | q
        · rw [q]; exact xc
        · exact c y q
      · rcases List.mem_cons.mp hy with q | q
        · exact ⟨w, List.mem_cons_self, q ▸ hx⟩
        · obtain ⟨v, hv, hyv⟩ := o y q
          exact ⟨v, List.mem_cons_of_mem _ hv, hyv⟩
  obtain ⟨l, e, n, c, _⟩ := go W hh dj
  rw [← e, ← List.length_map (f := sw)]
  refine nodup_le ?_ fun y hy => ?_
  · exact List.pairwise_map.mpr (n.imp fun {x y} h q => h (sw_inj q))
  · obtain ⟨x, hx, rfl⟩ := List.mem_map.mp hy
    exact c x hx
/-- as many bar the exchanged floor -/
theorem Barred.dual (B : Barred F a b C W) (B' : Barred G (sw a) (sw b) C' W') (hG : ∀ x, x ∈ F ↔ sw x ∈ G) : C'.length = C.length := by
  have h1 := B.le (fun x hx => (hG x).mp hx) B'.sep fun c hc => (B'.cF c hc).2
  have h2 := B'.le (G := F) (C' := C) (fun x hx => (hG (sw x)).mpr (by rw [sw_sw]; exact hx)) (by rw [sw_sw, sw_sw]; exact B.sep) (fun c hc => by rw [sw_sw, sw_sw]; exact (B.cF c hc).2)
  omega
/-- the exchanged cells bar the exchanged floor -/
theorem Barred.sepT (B : Barred F a b C W) (hG : ∀ x, x ∈ F ↔ sw x ∈ G) (hC : ∀ x, x ∈ C ↔ sw x ∈ C') : ¬ Reach (G.filter fun x => decide (x ∉ C')) (sw a) (sw b) := by
  intro r
  refine B.sep ?_
  have q := r.sw (G := F.filter fun x => decide (x ∉ C)) fun x hx => by
    obtain ⟨h1, h2⟩ := List.mem_filter.mp hx
    rw [decide_eq_true_eq] at h2
    refine List.mem_filter.mpr ⟨(hG _).mpr (by rw [sw_sw]; exact h1), decide_eq_true fun m => h2 ?_⟩
    have := (hC _).mp m
    rwa [sw_sw] at this
  rwa [sw_sw, sw_sw] at q
/-- with one of the cells back one comes from a to b -/
theorem Barred.back (B : Barred F a b C W) {c : Cell} (hc : c ∈ C) (hG : ∀ x ∈ F, x ∉ C ∨ x = c → x ∈ G) : Reach G a b := by
  have e := B.each c hc
  obtain ⟨w, hw, hcw⟩ := List.countP_pos_iff.mp (show 0 < W.countP (fun w => decide (c ∈ w)) by omega)
  have hcw' : c ∈ w := by simpa using hcw
  obtain ⟨r, rfl⟩ := cons_of_get0 (B.w0 w hw)
  refine adj_reach (B.adj _ hw) (fun x hx => hG x (B.wF _ hw x hx) ?_) (B.wl _ hw)
  by_cases q : x ∈ C
  · exact .inr (uniq_of_countP (Nat.le_of_eq (B.one _ hw)) hx hcw' (by simpa using q) (by simpa using hc))
  · exact .inl q
/-- a way has three cells at least -/
theorem Barred.len3 (B : Barred F a b C W) (hab : a ≠ b) {w : List Cell} (hw : w ∈ W) : ∃ c ∈ w, c ≠ a ∧ c ≠ b := by
  have e := B.one w hw
  obtain ⟨c, hc, hcC⟩ := List.countP_pos_iff.mp (show 0 < w.countP (fun x => decide (x ∈ C)) by omega)
  exact ⟨c, hc, (B.cF c (by simpa using hcC)).2⟩
theorem Barred.wsN (B : Barred F a b C W) (hab : a ≠ b) : W.Nodup := by
  have dj := B.disj
  have h3 : ∀ w ∈ W, ∃ c ∈ w, c ≠ a ∧ c ≠ b := fun w hw => B.len3 hab hw
  clear B
  induction W with
  | nil => exact List.nodup_nil
  | cons w W ih =>
    have p := List.pairwise_cons.mp dj
    refine List.nodup_cons.mpr ⟨fun hm => ?_, ih p.2 fun v hv => h3 v (List.mem_cons_of_mem _ hv)⟩
    obtain ⟨c, hc, na, nb⟩ := h3 w List.mem_cons_self
    rcases p.1 w hm c hc hc with q | q
    · exact na q
    · exact nb q
end

/-! ### the order -/
def clt (x y : Cell) : Bool := if x.1 = y.1 then decide (x.2 < y.2) else decide (x.1 < y.1)
theorem clt_iff {x y : Cell} : clt x y = true ↔ x.1 < y.1 ∨ (x.1 = y.1 ∧ x.2 < y.2) := by
  unfold clt
  by_cases e : x.1 = y.1
  · rw [if_pos e, decide_eq_true_eq]; omega
  · rw [if_neg e, decide_eq_true_eq]; omega
theorem clt_no {x y : Cell} : clt x y = false ↔ ¬ (x.1 < y.1 ∨ (x.1 = y.1 ∧ x.2 < y.2)) := by
  rw [← clt_iff]; cases clt x y <;> simp
theorem clt_asym {x y : Cell} (h : clt x y = true) : clt y x = false := by
  rw [clt_no]; rw [clt_iff] at h; omega
theorem clt_tri {x y : Cell} (h : clt x y = false) (h' : clt y x = false) : x = y := by
  rw [clt_no] at h h'
  exact Prod.ext (by omega) (by omega)
theorem clt_irr (x : Cell) : clt x x = false := by rw [clt_no]; omega
theorem clt_split {x y z : Cell} (h : clt z x = true) : clt z y = true ∨ clt y x = true := by
  rw [clt_iff] at h
  by_cases q : clt z y = true
  · exact .inl q
  · refine .inr ?_
    rw [clt_iff]
    rw [Bool.not_eq_true, clt_no] at q
    omega
def wlt : List Cell → List Cell → Bool
  | [], [] => false
  | [], _ :: _ => true
  | _ :: _, [] => false
  | x :: xs, y :: ys => if x = y then wlt xs ys else clt x y
theorem wlt_asym : ∀ {x y : List Cell}, wlt x y = true → wlt y x = false
  | [], [], h => by simp [wlt] at h
  | [], _ :: _, _ => rfl
  | _ :: _, [], h => by simp [wlt] at h
  | x :: xs, y :: ys, h => by
    unfold wlt at h ⊢
    by_cases e : x = y
    · subst e
      rw [if_pos rfl] at h ⊢
      exact wlt_asym h
    · rw [if_neg e] at h
      rw [if_neg (Ne.symm e)]
      exact clt_asym h
theorem wlt_tri : ∀ {x y : List Cell}, wlt x y = false → wlt y x = false → x = y
  | [], [], _, _ => rfl
  | [], _ :: _, h, _ => by simp [wlt] at h
  | _ :: _, [], _, h => by simp [wlt] at h
  | x :: xs, y :: ys, h, h' => by
    unfold wlt at h h'
    by_cases e : x = y
    · subst e
      rw [if_pos rfl] at h h'
      rw [wlt_tri h h']
    · rw [if_neg e] at h
      rw [if_neg (Ne.symm e)] at h'
      exact absurd (clt_tri h h') e
theorem wlt_split : ∀ {x y z : List Cell}, wlt z x = true → wlt z y = true ∨ wlt y x = true
  | [], [], [], h => by simp [wlt] at h
  | _ :: _, [], [], h => .inr h
  | _ :: _, _ :: _, [], _ => .inl rfl
  | [], _ :: _, [], _ => .inl rfl
  | [], _, _ :: _, h => by simp [wlt] at h
  | _ :: _, [], _ :: _, _ => .inr rfl
  | x :: xs, y :: ys, z :: zs, h => by
    unfold wlt at h ⊢
    by_cases e : z = x
    · subst e
      rw [if_pos rfl] at h
      by_cases e2 : z = y
      · subst e2
        rw [if_pos rfl, if_pos rfl]
        exact wlt_split h
      · rw [if_neg e2, if_neg (Ne.symm e2)]
        cases q : clt z y with
        | true => exact .inl rfl
        | false =>
          cases q' : clt y z with
          | true => exact .inr rfl
          | false => exact absurd (clt_tri q q') e2
    · rw [if_neg e] at h
      by_cases e2 : z = y
      · subst e2
        rw [if_pos rfl, if_neg e]
        exact .inr h
      · rw [if_neg e2]
        by_cases e3 : y = x
        · subst e3
          exact .inl h
        · rw [if_neg e3]
          exact clt_split h
end Mow

set_option Elab.async false
set_option linter.all false
set_option maxRecDepth 100000
/-! What stands in the heap: numbers and tuples of such, told by nested keys. -/
namespace MF
open PySem PySem.Spec PyProof.Rows L2

mutual
/-- the value is this nested key: a number, or a tracked tuple of such -/
inductive NK (H : Hp) : NestedKey → V → Prop
  | num (i : Int) : NK H (.num i) (.int i)
  | tup {t : Addr} {xs : List V} {ks : List NestedKey} : H t = some (.tup xs) → NKs H ks xs → NK H (.tup ks) (.ref t)
inductive NKs (H : Hp) : List NestedKey → List V → Prop
  | nil : NKs H [] []
  | cons {k : NestedKey} {v : V} {ks : List NestedKey} {vs : List V} : NK H k v → NKs H ks vs → NKs H (k :: ks) (v :: vs)
end

/-- tracked tuples stay tracked -/
def Tu (H H' : Hp) : Prop := ∀ b xs, H b = some (.tup xs) → H' b = some (.tup xs)
theorem Tu.refl (H : Hp) : Tu H H := fun _ _ h => h
theorem Tu.trans {H H1 H2 : Hp} (a : Tu H H1) (b : Tu H1 H2) : Tu H H2 := fun c xs h => b c xs (a c xs h)
theorem Tu.of {H H' : Hp} (s : Same H H') : Tu H H' := fun b xs h => s b _ h
theorem Tu.new {H : Hp} {p : Addr} {o : HO} (h : H p = none) : Tu H (upd H p o) := fun b xs e => by
  rw [upd_ne (ne_of_none e h)]; exact e
/-- a change of what is no tuple -/
theorem Tu.mut {H : Hp} {p : Addr} {u o : HO} (h : H p = some u) (hu : ∀ xs, u ≠ .tup xs) : Tu H (upd H p o) := fun b xs e => by
  have q : b ≠ p := fun z => by
    subst z; rw [h] at e; exact hu _ (Option.some.inj e)
  rw [upd_ne q]; exact e

section
variable {P : Program} {w : World} {K : PySem.W.Frag} {H H' : Hp} {h : Heap}
mutual
theorem NK.mono (t : Tu H H') : ∀ (k : NestedKey) (v : V), NK H k v → NK H' k v
  | .num i, _, x => by cases x; exact .num i
  | .tup ks, _, x => by
    cases x with
    | tup e a => exact .tup (t _ _ e) (NKs.mono t ks _ a)
  | .none, _, x => by cases x
  | .text _, _, x => by cases x
theorem NKs.mono (t : Tu H H') : ∀ (ks : List NestedKey) (vs : List V), NKs H ks vs → NKs H' ks vs
  | [], _, x => by cases x; exact .nil
  | k :: ks, _, x => by
    cases x with
    | cons a b => exact .cons (NK.mono t k _ a) (NKs.mono t ks _ b)
end
mutual
theorem NK.is (ok : HOk P w H h) : ∀ (k : NestedKey) (v : V) (u : Value), NK H k v → RelV v u → NestedIs h k u
  | .num i, _, _, x, r => by
    cases x
    obtain ⟨t, rfl⟩ := r
    exact .int _ _
  | .tup ks, _, _, x, r => by
    cases x with
    | tup e a =>
      cases r
      obtain ⟨_, its, rv, o, ho, hc, n, hd⟩ := (show ObjOk P w H h _ (.tup _) from ok _ _ e)
      exact .tup ho hc hd (by simpa using NKs.is ok ks _ its a rv)
  | .none, _, _, x, _ => by cases x
  | .text _, _, _, x, _ => by cases x
theorem NKs.is (ok : HOk P w H h) : ∀ (ks : List NestedKey) (vs : List V) (us : List Value), NKs H ks vs → Vals vs us → NestedAll h ks us
  | [], _, _, x, r => by cases x; cases r; exact .nil
  | k :: ks, _, _, x, r => by
    cases x with
    | cons a b =>
      cases r with
      | cons r1 r2 => exact .cons (NK.is ok k _ _ a r1) (NKs.is ok ks _ _ b r2)
end
mutual
theorem NK.dp : ∀ (k : NestedKey) (v : V), NK H k v → Dp K H v k.data
  | .num i, _, x => by cases x; exact .int i
  | .tup ks, _, x => by
    cases x with
    | tup e a => exact .tup (SqT.of e) (NKs.dp ks _ a)
  | .none, _, x => by cases x
  | .text _, _, x => by cases x
theorem NKs.dp : ∀ (ks : List NestedKey) (vs : List V), NKs H ks vs → DpAll K H vs (NestedKey.datas ks)
  | [], _, x => by cases x; exact .nil
  | k :: ks, _, x => by
    cases x with
    | cons a b => exact .cons (NK.dp k _ a) (NKs.dp ks _ b)
end
mutual
theorem NK.lay : ∀ (k : NestedKey) (v : V), NK H k v → k.data.canLay0 = true
  | .num i, _, x => by simp only [NestedKey.data, PyData.canLay0]
  | .tup ks, _, x => by
    cases x with
    | tup e a => simp only [NestedKey.data, PyData.canLay0]; exact NKs.lay ks _ a
  | .none, _, x => by cases x
  | .text _, _, x => by cases x
theorem NKs.lay : ∀ (ks : List NestedKey) (vs : List V), NKs H ks vs → PyData.canLayAll0 (NestedKey.datas ks) = true
  | [], _, x => by simp only [NestedKey.datas, PyData.canLayAll0]
  | k :: ks, _, x => by
    cases x with
    | cons a b =>
      simp only [NestedKey.datas, PyData.canLayAll0]
      rw [NK.lay k _ a, NKs.lay ks _ b]; rfl
end
theorem NKs.length : ∀ {ks : List NestedKey} {vs : List V}, NKs H ks vs → vs.length = ks.length
  | [], _, x => by cases x; rfl
  | _ :: ks, _, x => by
    cases x with
    | cons _ b => rw [List.length_cons, List.length_cons, b.length]
theorem NKs.get : ∀ {ks : List NestedKey} {vs : List V}, NKs H ks vs → ∀ {i : Nat} {v : V}, vs[i]? = some v → ∃ k, ks[i]? = some k ∧ NK H k v
  | [], _, x, i, v, e => by cases x; simp at e
  | k :: ks, _, x, i, v, e => by
    cases x with
    | cons a b =>
      cases i with
      | zero => simp at e; subst e; exact ⟨k, rfl, a⟩
      | succ i => simpa using b.get (i := i) (by simpa using e)
theorem NKs.get' : ∀ {ks : List NestedKey} {vs : List V}, NKs H ks vs → ∀ {i : Nat} {k : NestedKey}, ks[i]? = some k → ∃ v, vs[i]? = some v ∧ NK H k v
  | [], _, x, i, v, e => by simp at e
  | k :: ks, _, x, i, v, e => by
    cases x with
    | cons a b =>
      cases i with
      | zero => simp at e; subst e; exact ⟨_, rfl, a⟩
      | succ i => simpa using b.get' (i := i) (by simpa using e)
theorem NKs.snoc : ∀ {ks : List NestedKey} {vs : List V} {k : NestedKey} {v : V}, NKs H ks vs → NK H k v → NKs H (ks ++ [k]) (vs ++ [v])
  | [], _, k, v, x, y => by cases x; exact .cons y .nil
  | _ :: ks, _, k, v, x, y => by
    cases x with
    | cons a b => exact .cons a (b.snoc y)
theorem NKs.app : ∀ {ks ls : List NestedKey} {vs ws : List V}, NKs H ks vs → NKs H ls ws → NKs H (ks ++ ls) (vs ++ ws)
  | [], _, _, _, x, y => by cases x; exact y
  | _ :: ks, _, _, _, x, y => by
    cases x with
    | cons a b => exact .cons a (b.app y)
theorem NKs.drop : ∀ (n : Nat) {ks : List NestedKey} {vs : List V}, NKs H ks vs → NKs H (ks.drop n) (vs.drop n)
  | 0, _, _, x => x
  | n + 1, [], _, x => by cases x; exact .nil
  | n + 1, _ :: ks, _, x => by
    cases x with
    | cons _ b => exact NKs.drop n b
theorem NKs.take : ∀ (n : Nat) {ks : List NestedKey} {vs : List V}, NKs H ks vs → NKs H (ks.take n) (vs.take n)
  | 0, _, _, x => .nil
  | n + 1, [], _, x => by cases x; exact .nil
  | n + 1, _ :: ks, _, x => by
    cases x with
    | cons a b => exact .cons a (NKs.take n b)
theorem NKs.erase : ∀ (n : Nat) {ks : List NestedKey} {vs : List V}, NKs H ks vs → NKs H (ks.eraseIdx n) (vs.eraseIdx n)
  | _, [], _, x => by cases x; exact .nil
  | 0, _ :: ks, _, x => by
    cases x with
    | cons a b => exact b
  | n + 1, _ :: ks, _, x => by
    cases x with
    | cons a b => exact .cons a (NKs.erase n b)
theorem NKs.sameT {H H' : Hp} (s : Same H H') {ks : List NestedKey} {vs : List V} (x : NKs H ks vs) : NKs H' ks vs := NKs.mono (Tu.of s) _ _ x
end
mutual
theorem eqv_data : ∀ (a b : NestedKey), PyData.eqv a.data b.data = NestedKey.beq a b
  | .none, b => by cases b <;> simp [NestedKey.data, PyData.eqv, NestedKey.beq]
  | .num i, b => by cases b <;> simp [NestedKey.data, PyData.eqv, NestedKey.beq, Bool.beq_eq_decide_eq]
  | .text x, b => by cases b <;> simp [NestedKey.data, PyData.eqv, NestedKey.beq, Bool.beq_eq_decide_eq]
  | .tup ks, b => by
    cases b with
    | tup ls => simp only [NestedKey.data, PyData.eqv, NestedKey.beq]; exact eqvAll_data ks ls
    | none => simp [NestedKey.data, PyData.eqv, NestedKey.beq]
    | num _ => simp [NestedKey.data, PyData.eqv, NestedKey.beq]
    | text _ => simp [NestedKey.data, PyData.eqv, NestedKey.beq]
theorem eqvAll_data : ∀ (as bs : List NestedKey), PyData.eqvAll (NestedKey.datas as) (NestedKey.datas bs) = NestedKey.beqAll as bs
  | [], [] => by simp [NestedKey.datas, PyData.eqvAll, NestedKey.beqAll]
  | [], _ :: _ => by simp [NestedKey.datas, PyData.eqvAll, NestedKey.beqAll]
  | _ :: _, [] => by simp [NestedKey.datas, PyData.eqvAll, NestedKey.beqAll]
  | a :: as, b :: bs => by
    simp only [NestedKey.datas, PyData.eqvAll, NestedKey.beqAll]
    rw [eqv_data a b, eqvAll_data as bs]
end
theorem eqv_dec (a b : NestedKey) : PyData.eqv a.data b.data = decide (a = b) := by rw [eqv_data, NestedKey.decide_eq]
mutual
theorem depth_data : ∀ a : NestedKey, a.data.depth = a.depth
  | .none => by simp [NestedKey.data, PyData.depth, NestedKey.depth]
  | .num i => by simp [NestedKey.data, PyData.depth, NestedKey.depth]
  | .text x => by simp [NestedKey.data, PyData.depth, NestedKey.depth]
  | .tup ks => by simp only [NestedKey.data, PyData.depth, NestedKey.depth]; rw [depthAll_data ks]
theorem depthAll_data : ∀ as : List NestedKey, PyData.depthAll (NestedKey.datas as) = NestedKey.depthAll as
  | [] => by simp [NestedKey.datas, PyData.depthAll, NestedKey.depthAll]
  | a :: as => by simp only [NestedKey.datas, PyData.depthAll, NestedKey.depthAll]; rw [depth_data a, depthAll_data as]
end
theorem datas_map : ∀ ks : List NestedKey, NestedKey.datas ks = ks.map NestedKey.data
  | [] => by simp [NestedKey.datas]
  | k :: ks => by simp only [NestedKey.datas, List.map_cons]; rw [datas_map ks]
theorem NK.shaped {H : Hp} {k : NestedKey} {v : V} (x : NK H k v) (hd : k.depth ≤ 64) : SeqAt.shaped k.data = true := by
  unfold SeqAt.shaped
  rw [NK.lay k v x, depth_data k, decide_eq_true hd]; rfl

/-! ### the kinds of things -/
abbrev Cell := Mow.Cell
def ck (c : Cell) : NestedKey := .tup [.num c.1, .num c.2]
/-- a tuple of cells -/
def csk (cs : List Cell) : NestedKey := .tup (cs.map ck)
/-- a tuple of ways -/
def wsk (ws : List (List Cell)) : NestedKey := .tup (ws.map csk)
/-- a step -/
def sk (e : Mow.Step) : NestedKey := .tup [ck e.1, ck e.2]
/-- a door -/
def dk (d : Mow.Door) : NestedKey := .tup [ck d.1, .num d.2]
theorem tup_inj {a b : List NestedKey} (h : NestedKey.tup a = NestedKey.tup b) : a = b := NestedKey.tup.inj h
theorem ck_inj {x y : Cell} (h : ck x = ck y) : x = y := by
  have := tup_inj h
  simp at this
  exact Prod.ext this.1 this.2
theorem map_inj {α β : Type} {f : α → β} (hf : ∀ x y, f x = f y → x = y) : ∀ {l m : List α}, l.map f = m.map f → l = m
  | [], [], _ => rfl
  | [], _ :: _, h => by simp at h
  | _ :: _, [], h => by simp at h
  | x :: l, y :: m, h => by
    simp at h
    rw [hf x y h.1, map_inj hf h.2]
theorem csk_inj {x y : List Cell} (h : csk x = csk y) : x = y := map_inj (fun _ _ => ck_inj) (tup_inj h)
theorem wsk_inj {x y : List (List Cell)} (h : wsk x = wsk y) : x = y := map_inj (fun _ _ => csk_inj) (tup_inj h)
theorem sk_inj {x y : Mow.Step} (h : sk x = sk y) : x = y := by
  have := tup_inj h
  simp at this
  exact Prod.ext (ck_inj this.1) (ck_inj this.2)
theorem dk_inj {x y : Mow.Door} (h : dk x = dk y) : x = y := by
  have := tup_inj h
  simp at this
  exact Prod.ext (ck_inj this.1) this.2
theorem ck_dep (c : Cell) : (ck c).depth = 1 := by simp [ck, NestedKey.depth, NestedKey.depthAll]
theorem cks_dep : ∀ cs : List Cell, NestedKey.depthAll (cs.map ck) ≤ 1
  | [] => by simp [NestedKey.depthAll]
  | c :: cs => by
    have := cks_dep cs
    simp only [List.map_cons, NestedKey.depthAll, ck_dep]; omega
theorem csk_dep (cs : List Cell) : (csk cs).depth ≤ 2 := by
  have := cks_dep cs
  simp only [csk, NestedKey.depth]; omega
theorem csks_dep : ∀ ws : List (List Cell), NestedKey.depthAll (ws.map csk) ≤ 2
  | [] => by simp [NestedKey.depthAll]
  | c :: cs => by
    have := csks_dep cs
    have := csk_dep c
    simp only [List.map_cons, NestedKey.depthAll]; omega
theorem wsk_dep (ws : List (List Cell)) : (wsk ws).depth ≤ 3 := by
  have := csks_dep ws
  simp only [wsk, NestedKey.depth]; omega
theorem sk_dep (e : Mow.Step) : (sk e).depth = 2 := by simp [sk, NestedKey.depth, NestedKey.depthAll, ck_dep]
theorem dk_dep (d : Mow.Door) : (dk d).depth = 2 := by simp [dk, NestedKey.depth, NestedKey.depthAll, ck_dep]

section
variable {H : Hp} {v : V}
/-- taking apart, putting together -/
theorem NK.cell {c : Cell} (x : NK H (ck c) v) : ∃ t, v = .ref t ∧ H t = some (.tup [.int c.1, .int c.2]) := by
  cases x with
  | tup e a =>
    cases a with
    | cons a b => cases a; cases b with | cons a b => cases a; cases b; exact ⟨_, rfl, e⟩
theorem NK.mk_cell {t : Addr} {i j : Int} (e : H t = some (.tup [.int i, .int j])) : NK H (ck (i, j)) (.ref t) := .tup e (.cons (.num i) (.cons (.num j) .nil))
theorem NK.seq {ks : List NestedKey} (x : NK H (.tup ks) v) : ∃ t xs, v = .ref t ∧ H t = some (.tup xs) ∧ NKs H ks xs := by
  cases x with
  | tup e a => exact ⟨_, _, rfl, e, a⟩
theorem NK.two {k l : NestedKey} (x : NK H (.tup [k, l]) v) : ∃ t y z, v = .ref t ∧ H t = some (.tup [y, z]) ∧ NK H k y ∧ NK H l z := by
  cases x with
  | tup e a =>
    cases a with
    | cons a b => cases b with | cons b c => cases c; exact ⟨_, _, _, rfl, e, a, b⟩
theorem NK.mk_two {t : Addr} {k l : NestedKey} {y z : V} (e : H t = some (.tup [y, z])) (a : NK H k y) (b : NK H l z) : NK H (.tup [k, l]) (.ref t) := .tup e (.cons a (.cons b .nil))
theorem NK.door {d : Mow.Door} (x : NK H (dk d) v) : ∃ t y, v = .ref t ∧ H t = some (.tup [y, .int d.2]) ∧ NK H (ck d.1) y := by
  obtain ⟨t, y, z, e1, e2, a, b⟩ := NK.two x
  cases b
  exact ⟨t, y, e1, e2, a⟩
theorem NK.isref {ks : List NestedKey} (x : NK H (.tup ks) v) : ∃ t, v = .ref t := by cases x; exact ⟨_, rfl⟩
/-- the place of a cell among cells -/
theorem NKs.getm {α : Type} {f : α → NestedKey} {cs : List α} {vs : List V} (x : NKs H (cs.map f) vs) {i : Nat} {v : V} (e : vs[i]? = some v) : ∃ c, cs[i]? = some c ∧ NK H (f c) v := by
  obtain ⟨k, hk, n⟩ := x.get e
  rw [List.getElem?_map] at hk
  obtain ⟨c, hc, rfl⟩ := Option.map_eq_some_iff.mp hk
  exact ⟨c, hc, n⟩
theorem NKs.getm' {α : Type} {f : α → NestedKey} {cs : List α} {vs : List V} (x : NKs H (cs.map f) vs) {i : Nat} {c : α} (e : cs[i]? = some c) : ∃ v, vs[i]? = some v ∧ NK H (f c) v := by
  exact x.get' (by rw [List.getElem?_map, e]; rfl)
theorem NKs.snocm {α : Type} {f : α → NestedKey} {cs : List α} {vs : List V} {c : α} {v : V} (x : NKs H (cs.map f) vs) (y : NK H (f c) v) : NKs H ((cs ++ [c]).map f) (vs ++ [v]) := by
  rw [List.map_append]; exact x.snoc y
theorem NKs.lenm {α : Type} {f : α → NestedKey} {cs : List α} {vs : List V} (x : NKs H (cs.map f) vs) : vs.length = cs.length := by rw [x.length, List.length_map]
end

/-! ### ==, in -/
section
variable {X : Cx} {H : Hp}
theorem any_eqv (k : NestedKey) : ∀ ks : List NestedKey, ((NestedKey.datas ks).any fun z => PyData.eqv z k.data) = decide (k ∈ ks)
  | [] => by simp [NestedKey.datas]
  | l :: ks => by
    simp only [NestedKey.datas, List.any_cons]
    rw [any_eqv k ks, eqv_dec l k]
    by_cases e : l = k
    · subst e; simp
    · have e' : ¬ k = l := fun q => e q.symm
      simp [e, e']
theorem mem_map_iff {α : Type} {f : α → NestedKey} (hf : ∀ x y, f x = f y → x = y) {x : α} {l : List α} : f x ∈ l.map f ↔ x ∈ l := by
  constructor
  · intro h
    obtain ⟨y, hy, e⟩ := List.mem_map.mp h
    rw [← hf y x e]; exact hy
  · exact fun h => List.mem_map.mpr ⟨x, h, rfl⟩
/-- as it is, or its contrary -/
abbrev ngB : Bool → Bool → Bool
  | false, b => b
  | true, b => !b
/-- x == y, x != y of such -/
def rNEq (neg : Bool) : R2 := fun x y H Q => ∃ k l, NK H k x ∧ NK H l y ∧ k.depth ≤ 64 ∧ l.depth ≤ 64 ∧ Q (.bl (ngB neg (decide (k = l)))) H
theorem op_neqT (hu : X.A.units + 64 < cLine) : OpR X (compareOp .Eq) (rNEq false) := by
  intro pins s σ H x y v u Q I rx ry ⟨k, l, hk, hl, dk, dl, q⟩
  exact op_eqD hu pins s σ H x y v u Q I rx ry ⟨_, _, NK.dp k x hk, NK.dp l y hl, hk.shaped dk, hl.shaped dl, by rw [eqv_dec]; exact q⟩
theorem op_nneT (hu : X.A.units + 64 < cLine) : OpR X (compareOp .NotEq) (rNEq true) := by
  intro pins s σ H x y v u Q I rx ry ⟨k, l, hk, hl, dk, dl, q⟩
  exact op_neD hu pins s σ H x y v u Q I rx ry ⟨_, _, NK.dp k x hk, NK.dp l y hl, hk.shaped dk, hl.shaped dl, by rw [eqv_dec]; exact q⟩
/-- x in t, x not in t: a tuple of such; a list of such -/
def rNIn (neg : Bool) : R2 := fun x y H Q => ∃ (p : Addr) (xs : List V) (k : NestedKey) (ks : List NestedKey), y = .ref p ∧ (H p = some (.tup xs) ∨ H p = some (.lst xs)) ∧ NK H k x ∧ NKs H ks xs ∧ k.depth ≤ 60 ∧ NestedKey.depthAll ks ≤ 60 ∧
  Q (.bl (ngB neg (decide (k ∈ ks)))) H
theorem room_nin {A : Around} {k : NestedKey} {m : Nat} (hu : A.units + 65 < cLine) (hk : k.depth ≤ 60) : A.units + 1 + min m k.data.depth < cLine := by
  rw [depth_data]
  have := Nat.min_le_right m k.depth
  omega
theorem op_nin (hu : X.A.units + 65 < cLine) : OpR X (compareOp .In) (rNIn false) := by
  intro pins s σ H x y v u Q I rx ry ⟨p, xs, k, ks, ey, hp, hk, hks, dk, dks, q⟩
  subst ey
  cases ry
  obtain ⟨as, r1⟩ := Dp.reads I k.data x v (NK.dp k x hk) rx
  have e := any_eqv k ks
  rcases hp with hp | hp
  · obtain ⟨bs, r2⟩ := Dp.reads I (.tuple (NestedKey.datas ks)) (.ref p) (.ref p) (.tup (SqT.of hp) (NKs.dp ks xs hks)) rfl
    exact SeqAt.in_tuple_reads r2 r1 (NKs.lay ks xs hks) (NK.lay k x hk) (room_nin hu dk) (by rw [e]; exact ⟨.bl _, H, I, rfl, q⟩)
  · obtain ⟨bs, r2⟩ := Dp.reads I (.list (NestedKey.datas ks)) (.ref p) (.ref p) (.lst (SqL.of hp) (NKs.dp ks xs hks)) rfl
    exact SeqAt.in_list_reads r2 r1 (NKs.lay ks xs hks) (NK.lay k x hk) (room_nin hu dk) (by rw [e]; exact ⟨.bl _, H, I, rfl, q⟩)
theorem op_nnin (hu : X.A.units + 65 < cLine) : OpR X (compareOp .NotIn) (rNIn true) := by
  intro pins s σ H x y v u Q I rx ry ⟨p, xs, k, ks, ey, hp, hk, hks, dk, dks, q⟩
  subst ey
  cases ry
  obtain ⟨as, r1⟩ := Dp.reads I k.data x v (NK.dp k x hk) rx
  have e := any_eqv k ks
  rcases hp with hp | hp
  · obtain ⟨bs, r2⟩ := Dp.reads I (.tuple (NestedKey.datas ks)) (.ref p) (.ref p) (.tup (SqT.of hp) (NKs.dp ks xs hks)) rfl
    exact SeqAt.notIn_tuple_reads r2 r1 (NKs.lay ks xs hks) (NK.lay k x hk) (room_nin hu dk) (by rw [e]; exact ⟨.bl _, H, I, rfl, q⟩)
  · obtain ⟨bs, r2⟩ := Dp.reads I (.list (NestedKey.datas ks)) (.ref p) (.ref p) (.lst (SqL.of hp) (NKs.dp ks xs hks)) rfl
    exact SeqAt.notIn_list_reads r2 r1 (NKs.lay ks xs hks) (NK.lay k x hk) (room_nin hu dk) (by rw [e]; exact ⟨.bl _, H, I, rfl, q⟩)
end
end MF

set_option Elab.async false
set_option linter.all false
set_option maxRecDepth 100000
set_option maxHeartbeats 1000000
/-! Dicts whose keys are nested tuples: the dict's own object is told as it is, by an HO.ext; what it holds is told beside it. -/
namespace MF
open PySem PySem.Spec PyProof.Rows L2

/-- the very object at d -/
def dno (d : Addr) (o : Obj) : HO := .ext fun h => h.get? d = some o
theorem dno_ok {P : Program} {w : World} {H : Hp} {h : Heap} {d : Addr} {o : Obj} (e : h.get? d = some o) : ObjOk P w H h d (dno d o) := ⟨e, ⟨o, e⟩, fun _ _ e1 k => k o e1⟩
theorem dno_get {P : Program} {w : World} {H : Hp} {h : Heap} {d : Addr} {o : Obj} (ok : HOk P w H h) (e : H d = some (dno d o)) : h.get? d = some o := (show ObjOk P w H h d (dno d o) from ok d _ e).1
theorem dno_tup {d : Addr} {o : Obj} : ∀ xs, dno d o ≠ .tup xs := fun xs e => by unfold dno at e; cases e
theorem dno_inj {d : Addr} {o o' : Obj} {P : Program} {w : World} {H : Hp} {h : Heap} (ok : HOk P w H h) (e : H d = some (dno d o)) (e' : H d = some (dno d o')) : o = o' :=
  Option.some.inj ((dno_get ok e).symm.trans (dno_get ok e'))

/-- a kind of keys; a kind of values -/
structure KR (α : Type) where
  f : α → NestedKey
  inj : ∀ x y, f x = f y → x = y
  dep : ∀ x, (f x).depth ≤ 8
  tup : ∀ x, ∃ ks, f x = .tup ks
structure VR (β : Type) where
  at_ : Hp → V → β → Prop
  mono : ∀ {H H' : Hp}, Tu H H' → ∀ v b, at_ H v b → at_ H' v b
def cellR : KR Cell := ⟨ck, fun _ _ => ck_inj, fun c => by rw [ck_dep]; decide, fun c => ⟨_, rfl⟩⟩
def stepR : KR Mow.Step := ⟨sk, fun _ _ => sk_inj, fun c => by rw [sk_dep]; decide, fun c => ⟨_, rfl⟩⟩
def doorR : KR Mow.Door := ⟨dk, fun _ _ => dk_inj, fun c => by rw [dk_dep]; decide, fun c => ⟨_, rfl⟩⟩
/-- True -/
def trueV : VR Unit := ⟨fun _ v _ => v = .bl true, fun _ _ _ h => h⟩
/-- a nested key as a value -/
def nkV {β : Type} (f : β → NestedKey) : VR β := ⟨fun H v b => NK H (f b) v, fun t v b h => NK.mono t _ v h⟩
/-- None, or a door -/
def parV : VR (Option Mow.Door) := ⟨fun H v b => match b with | none => v = .non | some d => NK H (dk d) v, fun t v b h => by
  cases b with
  | none => exact h
  | some d => exact NK.mono t _ v h⟩

section
variable {α β : Type} [DecidableEq α]
def look (ps : List (α × β)) (k : α) : Option β := (ps.find? fun p => decide (p.1 = k)).map (·.2)
def putL (ps : List (α × β)) (k : α) (b : β) : List (α × β) := if k ∈ ps.map (·.1) then ps.map (fun p => if p.1 = k then (p.1, b) else p) else ps ++ [(k, b)]
def dropL (ps : List (α × β)) (k : α) : List (α × β) := ps.filter fun p => decide (p.1 ≠ k)
theorem look_isSome (ps : List (α × β)) (k : α) : (look ps k).isSome = decide (k ∈ ps.map (·.1)) := by
  unfold look
  rw [Option.isSome_map]
  induction ps with
  | nil => simp
  | cons p ps ih =>
    rw [List.find?_cons]
    by_cases e : p.1 = k
    · subst e; simp
    · have e' : ¬ k = p.1 := fun q => e q.symm
      simp only [decide_eq_false e, List.map_cons, List.mem_cons, e', false_or]
      exact ih
theorem look_cons_pos {ps : List (α × β)} {p : α × β} {k : α} (e : p.1 = k) : look (p :: ps) k = some p.2 := by simp [look, e]
theorem look_cons_neg {ps : List (α × β)} {p : α × β} {k : α} (e : ¬ p.1 = k) : look (p :: ps) k = look ps k := by simp [look, e]
theorem look_mem {ps : List (α × β)} {k : α} {b : β} (h : look ps k = some b) : (k, b) ∈ ps := by
  induction ps with
  | nil => simp [look] at h
  | cons p ps ih =>
    by_cases e : p.1 = k
    · rw [look_cons_pos e] at h
      cases h; subst e; exact List.mem_cons_self
    · rw [look_cons_neg e] at h
      exact List.mem_cons_of_mem _ (ih h)
theorem look_of_mem {ps : List (α × β)} (hn : (ps.map (·.1)).Nodup) {k : α} {b : β} (h : (k, b) ∈ ps) : look ps k = some b := by
  induction ps with
  | nil => cases h
  | cons p ps ih =>
    rw [List.map_cons] at hn
    have hn' := List.nodup_cons.mp hn
    rcases List.mem_cons.mp h with q | q
    · rw [← q]; exact look_cons_pos rfl
    · have e : ¬ p.1 = k := fun e => hn'.1 (List.mem_map.mpr ⟨_, q, e.symm⟩)
      rw [look_cons_neg e]; exact ih hn'.2 q
theorem look_none {ps : List (α × β)} {k : α} (h : k ∉ ps.map (·.1)) : look ps k = none := by
  have := look_isSome ps k
  rw [decide_eq_false h] at this
  cases e : look ps k with
  | none => rfl
  | some _ => rw [e] at this; cases this
theorem putL_new {ps : List (α × β)} {k : α} {b : β} (h : k ∉ ps.map (·.1)) : putL ps k b = ps ++ [(k, b)] := if_neg h
theorem putL_old {ps : List (α × β)} {k : α} {b : β} (h : k ∈ ps.map (·.1)) : (putL ps k b).map (·.1) = ps.map (·.1) := by
  unfold putL
  rw [if_pos h, List.map_map]
  refine List.map_congr_left fun p _ => ?_
  by_cases e : p.1 = k <;> simp [e]
theorem putL_keys {ps : List (α × β)} {k : α} {b : β} : (putL ps k b).map (·.1) = if k ∈ ps.map (·.1) then ps.map (·.1) else ps.map (·.1) ++ [k] := by
  by_cases h : k ∈ ps.map (·.1)
  · rw [if_pos h, putL_old h]
  · rw [if_neg h, putL_new h]; simp
theorem putL_len (ps : List (α × β)) (k : α) (b : β) : (putL ps k b).length ≤ ps.length + 1 := by
  unfold putL
  split
  · rw [List.length_map]; omega
  · rw [List.length_append, List.length_singleton]; omega

/-- a dict's object and its entries -/
def Ents (P : Program) (w : World) (o : Obj) (xs : List (NestedKey × Addr × Value)) : Prop := o.ExactDict ∧ (∃ es ep, o.data = .dict es ep ∧ es.toList = xs.map (entryOfKey (nestedKind P w))) ∧ (xs.map (·.1)).Nodup
def Rel1 (kr : KR α) (vr : VR β) (H : Hp) (p : α × β) (x : NestedKey × Addr × Value) : Prop := x.1 = kr.f p.1 ∧ NK H (kr.f p.1) (.ref x.2.1) ∧ ∃ v, RelV v x.2.2 ∧ vr.at_ H v p.2
/-- at d a dict with these pairs, in their order -/
def Dct (P : Program) (w : World) (kr : KR α) (vr : VR β) (H : Hp) (d : Addr) (ps : List (α × β)) : Prop :=
  (d == sysModules) = false ∧ ps.length ≤ sizeLine ∧ ∃ (o : Obj) (xs : List (NestedKey × Addr × Value)), H d = some (dno d o) ∧ Ents P w o xs ∧ Paired (Rel1 kr vr H) ps xs
variable {P : Program} {w : World} {kr : KR α} {vr : VR β} {H H' : Hp} {d : Addr} {ps : List (α × β)} {h : Heap}
theorem Rel1.mono (t : Tu H H') {p : α × β} {x : NestedKey × Addr × Value} (r : Rel1 kr vr H p x) : Rel1 kr vr H' p x := by
  obtain ⟨a, b, v, c, e⟩ := r
  exact ⟨a, NK.mono t _ _ b, v, c, vr.mono t _ _ e⟩
theorem Dct.keep (D : Dct P w kr vr H d ps) (t : Tu H H') (e : H' d = H d) : Dct P w kr vr H' d ps := by
  obtain ⟨a, b, o, xs, c, en, pr⟩ := D
  exact ⟨a, b, o, xs, e.trans c, en, Paired.mapP pr fun _ _ r => r.mono t⟩
theorem Dct.same (D : Dct P w kr vr H d ps) (s : Same H H') : Dct P w kr vr H' d ps := by
  obtain ⟨a, b, o, xs, c, en, pr⟩ := D
  exact ⟨a, b, o, xs, s _ _ c, en, Paired.mapP pr fun _ _ r => r.mono (Tu.of s)⟩
theorem Dct.upd (D : Dct P w kr vr H d ps) {p : Addr} {o : HO} (hp : H p = none) : Dct P w kr vr (upd H p o) d ps :=
  D.same fun b x e => by rw [upd_ne (ne_of_none e hp)]; exact e
/-- what stands there -/
theorem Dct.obj (D : Dct P w kr vr H d ps) : ∃ o, H d = some (dno d o) := let ⟨_, _, o, _, c, _⟩ := D; ⟨o, c⟩
theorem Dct.ne (D : Dct P w kr vr H d ps) {p : Addr} (hp : H p = none) : d ≠ p := let ⟨_, c⟩ := D.obj; ne_of_none c hp
theorem Dct.ne' (D : Dct P w kr vr H d ps) {p : Addr} {u : HO} (hp : H p = some u) (hu : ∀ o, u ≠ dno d o) : d ≠ p := fun e => by
  obtain ⟨o, c⟩ := D.obj
  subst e
  rw [c] at hp
  exact hu o (Option.some.inj hp).symm
theorem pr_keys {xs : List (NestedKey × Addr × Value)} (r : Paired (Rel1 kr vr H) ps xs) : xs.map (·.1) = ps.map fun p => kr.f p.1 := by
  induction r with
  | nil => rfl
  | cons a _ ih => rw [List.map_cons, List.map_cons, a.1, ih]
theorem Dct.nodup (D : Dct P w kr vr H d ps) : (ps.map (·.1)).Nodup := by
  obtain ⟨_, _, o, xs, _, ⟨_, _, n⟩, pr⟩ := D
  rw [pr_keys pr] at n
  have : (ps.map fun p => kr.f p.1) = (ps.map (·.1)).map kr.f := by rw [List.map_map]; rfl
  rw [this] at n
  exact List.Pairwise.of_map kr.f (fun _ _ hne e => hne (congrArg kr.f e)) n
theorem pr_look {xs : List (NestedKey × Addr × Value)} (r : Paired (Rel1 kr vr H) ps xs) (k : α) : (look ps k = none ∧ atKey xs (kr.f k) = none) ∨ ∃ b x v, look ps k = some b ∧ atKey xs (kr.f k) = some x ∧ RelV v x.2 ∧ vr.at_ H v b := by
  induction r with
  | nil => exact .inl ⟨rfl, rfl⟩
  | @cons p x ps xs a _ ih =>
    obtain ⟨a1, a2, v, a3, a4⟩ := a
    by_cases e : p.1 = k
    · refine .inr ⟨p.2, x.2, v, look_cons_pos e, ?_, a3, a4⟩
      have e' : x.1 = kr.f k := by rw [a1, e]
      simp [atKey, e']
    · have e' : ¬ x.1 = kr.f k := fun q => e (kr.inj _ _ (a1.symm.trans q))
      have e2 : atKey (x :: xs) (kr.f k) = atKey xs (kr.f k) := by simp [atKey, e']
      rw [look_cons_neg e, e2]; exact ih
theorem pr_put {xs : List (NestedKey × Addr × Value)} (r : Paired (Rel1 kr vr H) ps xs) {k : α} {b : β} {a : Addr} {v : V} {u : Value} (hk : NK H (kr.f k) (.ref a)) (hu : RelV v u) (hb : vr.at_ H v b) : Paired (Rel1 kr vr H) (putL ps k b) (storedH xs (kr.f k) a u) := by
  have e : (atKey xs (kr.f k)).isSome = decide (k ∈ ps.map (·.1)) := by
    rw [← look_isSome]
    rcases pr_look r k with ⟨e1, e2⟩ | ⟨_, _, _, e1, e2, _⟩ <;> rw [e1, e2] <;> rfl
  unfold putL storedH
  by_cases q : k ∈ ps.map (·.1)
  · rw [if_pos q, if_pos (by rw [e, decide_eq_true q])]
    clear e q
    induction r with
    | nil => exact .nil
    | @cons p x ps xs a0 _ ih =>
      rw [List.map_cons, List.map_cons]
      refine .cons ?_ ih
      obtain ⟨a1, a2, v0, a3, a4⟩ := a0
      unfold putAt
      by_cases z : p.1 = k
      · rw [if_pos z, if_pos (by rw [a1, z])]
        exact ⟨a1, a2, v, hu, hb⟩
      · rw [if_neg z, if_neg (fun q => z (kr.inj _ _ (a1.symm.trans q)))]
        exact ⟨a1, a2, v0, a3, a4⟩
  · rw [if_neg q, if_neg (by rw [e, decide_eq_false q]; decide)]
    exact Paired.snoc r ⟨rfl, hk, v, hu, hb⟩
theorem pr_drop {xs : List (NestedKey × Addr × Value)} (r : Paired (Rel1 kr vr H) ps xs) (k : α) : Paired (Rel1 kr vr H) (dropL ps k) (withoutH xs (kr.f k)) := by
  induction r with
  | nil => exact .nil
  | @cons p x ps xs a0 _ ih =>
    obtain ⟨a1, a2⟩ := a0
    unfold dropL withoutH
    by_cases z : p.1 = k
    · have z' : x.1 = kr.f k := by rw [a1, z]
      rw [List.filter_cons_of_neg (by simpa using z), List.filter_cons_of_neg (by simpa using z')]
      exact ih
    · have z' : ¬ x.1 = kr.f k := fun q => z (kr.inj _ _ (a1.symm.trans q))
      rw [List.filter_cons_of_pos (by simpa using z), List.filter_cons_of_pos (by simpa using z')]
      exact .cons ⟨a1, a2⟩ ih
theorem NK.isAt (ok : HOk P w H h) {k : NestedKey} {a : Addr} (n : NK H k (.ref a)) (hd : k.depth ≤ 8) : (nestedKind P w).is h k a := ⟨NK.is ok k _ _ n rfl, hd⟩
theorem pr_is (ok : HOk P w H h) {xs : List (NestedKey × Addr × Value)} (r : Paired (Rel1 kr vr H) ps xs) : ∀ x ∈ xs, (nestedKind P w).is h x.1 x.2.1 := by
  induction r with
  | nil => intro x hx; cases hx
  | cons a _ ih =>
    intro x hx
    rcases List.mem_cons.mp hx with q | q
    · subst q
      obtain ⟨a1, a2, _⟩ := a
      rw [a1]; exact NK.isAt ok a2 (kr.dep _)
    · exact ih x q
/-- .. in the heap itself -/
theorem Dct.heap (ok : HOk P w H h) (D : Dct P w kr vr H d ps) : ∃ xs, h.DictOfH (nestedKind P w) d xs ∧ Paired (Rel1 kr vr H) ps xs ∧ xs.length = ps.length := by
  obtain ⟨_, _, o, xs, c, ⟨ex, ⟨es, ep, hd, he⟩, n⟩, pr⟩ := D
  exact ⟨xs, ⟨o, es, ep, dno_get ok c, ex, hd, he, pr_is ok pr, n⟩, pr, (Paired.length pr).symm⟩
theorem Ents.of {xs : List (NestedKey × Addr × Value)} (x : h.DictOfH (nestedKind P w) d xs) : ∃ o, h.get? d = some o ∧ Ents P w o xs := by
  obtain ⟨o, es, ep, e1, e2, e3, e4, _, e5⟩ := x
  exact ⟨o, e1, e2, ⟨es, ep, e3, e4⟩, e5⟩
end

section
variable {X : Cx} {pins : List (Addr × Obj)} {σ : L2.St} {H : Hp} {s : Shared}
/-- the dict at d is another one now -/
theorem inv_dnew {d : Addr} {o' : Obj} {h' : Heap} {t' : Nat} (I : Inv X pins σ H s) (mu : Mut (H d)) (sb : Heap.SameBut d s.heap h') (e : h'.get? d = some o') : Inv X pins σ (L2.upd H d (dno d o')) { s with heap := h', toks := t' } :=
  I.write (x := d) (e := d) mu (.inl rfl) (fun b q hb z => (sb.2 b hb).trans z) ⟨o', e⟩ (dno_ok e)
theorem mut_dno {d : Addr} {o : Obj} (e : H d = some (dno d o)) : Mut (H d) := by rw [e]; exact True.intro
theorem nk_room {A : Around} (hu : A.units + 20 < cLine) : (nestedKind X.prog X.w).room A.in1 := by
  show A.in1.units + 8 < cLine
  rw [Around.in1_units]; omega
theorem nk_room2 {A : Around} (hu : A.units + 20 < cLine) : (nestedKind X.prog X.w).room A.in1.in1 := by
  show A.in1.in1.units + 8 < cLine
  rw [Around.in1_units, Around.in1_units]; omega
theorem nk_room0 {A : Around} (hu : A.units + 20 < cLine) : (nestedKind X.prog X.w).room A := by
  show A.units + 8 < cLine
  omega

/-! ### k in d, k not in d, d[k], d[k] = v -/
def rNDIn (P : Program) (w : World) (neg : Bool) : R2 := fun x y H Q => ∃ (α β : Type) (_ : DecidableEq α) (kr : KR α) (vr : VR β) (d : Addr) (ps : List (α × β)) (k : α), y = .ref d ∧ Dct P w kr vr H d ps ∧ NK H (kr.f k) x ∧
  Q (.bl (ngB neg (decide (k ∈ ps.map (·.1))))) H
theorem op_ndin (hu : X.A.units + 20 < cLine) : OpR X (compareOp .In) (rNDIn X.prog X.w false) := by
  intro pins s σ H x y v u Q I rx ry ⟨α, β, _, kr, vr, d, ps, k, ey, D, hk, q⟩
  subst ey
  cases ry
  obtain ⟨ks, ek⟩ := kr.tup k
  rw [ek] at hk
  obtain ⟨t, rfl⟩ := hk.isref
  rw [← ek] at hk
  cases rx
  obtain ⟨xs, hd, pr, _⟩ := D.heap I.hok
  refine wpAny_in_heap (nk_room hu) (hk.isAt I.hok (kr.dep k)) D.1 hd ?_
  have e : (atKey xs (kr.f k)).isSome = decide (k ∈ ps.map (·.1)) := by
    rw [← look_isSome]
    rcases pr_look pr k with ⟨e1, e2⟩ | ⟨_, _, _, e1, e2, _⟩ <;> rw [e1, e2] <;> rfl
  rw [e]
  exact ⟨.bl _, H, I.tok _, rfl, q⟩
theorem op_ndnin (hu : X.A.units + 20 < cLine) : OpR X (compareOp .NotIn) (rNDIn X.prog X.w true) := by
  intro pins s σ H x y v u Q I rx ry ⟨α, β, _, kr, vr, d, ps, k, ey, D, hk, q⟩
  subst ey
  cases ry
  obtain ⟨ks, ek⟩ := kr.tup k
  rw [ek] at hk
  obtain ⟨t, rfl⟩ := hk.isref
  rw [← ek] at hk
  cases rx
  obtain ⟨xs, hd, pr, _⟩ := D.heap I.hok
  refine wpAny_notIn_heap (nk_room hu) (hk.isAt I.hok (kr.dep k)) D.1 hd ?_
  have e : (atKey xs (kr.f k)).isSome = decide (k ∈ ps.map (·.1)) := by
    rw [← look_isSome]
    rcases pr_look pr k with ⟨e1, e2⟩ | ⟨_, _, _, e1, e2, _⟩ <;> rw [e1, e2] <;> rfl
  rw [e]
  exact ⟨.bl _, H, I.tok _, rfl, q⟩
/-- d[k], there -/
def tNGet (P : Program) (w : World) (td ty : TE) : TE := fun σ H Q => td σ H fun x H1 => ty σ H1 fun y H2 => ∃ (α β : Type) (_ : DecidableEq α) (kr : KR α) (vr : VR β) (d : Addr) (ps : List (α × β)) (k : α) (b : β), x = .ref d ∧ Dct P w kr vr H2 d ps ∧ NK H2 (kr.f k) y ∧
  look ps k = some b ∧ ∀ v, vr.at_ H2 v b → Q v H2
theorem pe_nget {o i : Expr} {td ty : TE} {pos : Pos} (hu : X.A.units + 20 < cLine) (ho : PE X o td) (hi : PE X i ty) (hs : NoSl i) : PE X (.Subscript o i pos) (tNGet X.prog X.w td ty) := by
  refine ⟨fun pins s σ H Q I h => ?_⟩
  refine subD_of PySem.F.slot_dict_getitem.lookup hs (thn (ho.run pins s σ H _ I h) fun u s1 ⟨x, H1, I1, rx, q1⟩ => thn (hi.run pins s1 σ H1 _ I1 q1) fun iv s2 ⟨y, H2, I2, ry, α, β, _, kr, vr, d, ps, k, b, ex, D, hk, hl, q2⟩ => ?_)
  subst ex
  cases rx
  obtain ⟨ks, ek⟩ := kr.tup k
  rw [ek] at hk
  obtain ⟨t, rfl⟩ := hk.isref
  rw [← ek] at hk
  cases ry
  obtain ⟨xs, hd, pr, _⟩ := D.heap I2.hok
  refine ⟨hd.typeIs, ?_⟩
  rcases pr_look pr k with ⟨e1, _⟩ | ⟨b', x, v, e1, e2, e3, e4⟩
  · rw [e1] at hl; cases hl
  · rw [e1] at hl
    cases hl
    exact wpAny_getItem_heap (nk_room hu) (hk.isAt I2.hok (kr.dep k)) hd e2 ⟨v, H2, I2.tok _, e3, q2 v e4⟩
/-- d[k] = v -/
def sND (P : Program) (w : World) : TSet := fun o i v H Q => ∃ (α β : Type) (_ : DecidableEq α) (kr : KR α) (vr : VR β) (d : Addr) (ps : List (α × β)) (k : α) (b : β), o = .ref d ∧ Dct P w kr vr H d ps ∧ NK H (kr.f k) i ∧ vr.at_ H v b ∧ ps.length < sizeLine ∧
  ∀ ob, Dct P w kr vr (upd H d (dno d ob)) d (putL ps k b) → Q (upd H d (dno d ob))
theorem set_nd (hu : X.A.units + 20 < cLine) : PSet X (sND X.prog X.w) := by
  intro pins s σ H o i v ov iv u Q I ro ri rv ⟨α, β, _, kr, vr, d, ps, k, b, eo, D, hk, hv, hz, q⟩
  subst eo
  cases ro
  obtain ⟨ks, ek⟩ := kr.tup k
  rw [ek] at hk
  obtain ⟨t, rfl⟩ := hk.isref
  rw [← ek] at hk
  cases ri
  obtain ⟨xs, hd, pr, hxl⟩ := D.heap I.hok
  obtain ⟨o0, c0⟩ := D.obj
  refine wpAny_setItem_heap (hsz := by rw [hxl]; exact Nat.le_of_lt hz) (nk_room hu) (hk.isAt I.hok (kr.dep k)) hd fun h' hm' sb => ?_
  obtain ⟨ob, e1, en⟩ := Ents.of hm'
  have tu : Tu H (upd H d (dno d ob)) := Tu.mut c0 dno_tup
  refine ⟨_, inv_dnew I (mut_dno c0) sb e1, q ob ⟨D.1, Nat.le_trans (putL_len ps k b) hz, ob, _, upd_same, en, Paired.mapP (pr_put pr hk rv hv) fun _ _ r => r.mono tu⟩⟩
/-- {}: it may be a dict of any kind -/
def tNNew (P : Program) (w : World) : TE := fun _ H Q => ∀ p ob, H p = none → (∀ (α β : Type) (_ : DecidableEq α) (kr : KR α) (vr : VR β), Dct P w kr vr (upd H p (dno p ob)) p ([] : List (α × β))) → Q (.ref p) (upd H p (dno p ob))
theorem nd_empty {P : Program} {w : World} {h : Heap} (hb : sysModules < h.objs.size) (H : Hp) : ∃ ob, (h.push { cls := .type "dict", data := .dict #[] }).get? h.objs.size = some ob ∧
    ∀ (α β : Type) (_ : DecidableEq α) (kr : KR α) (vr : VR β), Dct P w kr vr (upd H h.objs.size (dno h.objs.size ob)) h.objs.size ([] : List (α × β)) := by
  refine ⟨_, Heap.get?_push_size _ rfl, fun α β _ kr vr => ⟨beq_eq_false_iff_ne.mpr (Ne.symm (Nat.ne_of_lt hb)), Nat.zero_le _, _, [], upd_same, ⟨⟨rfl, rfl, rfl⟩, ⟨#[], 0, rfl, rfl⟩, List.nodup_nil⟩, .nil⟩⟩
theorem pe_nnew {pos : Pos} : PE X (.Dict [] [] pos) (tNNew X.prog X.w) := by
  refine ⟨fun pins s σ H Q I h => ?_⟩
  obtain ⟨ob, e1, e2⟩ := nd_empty (P := X.prog) (w := X.w) I.big H
  exact wpAny_Dict_empty ⟨.ref s.heap.objs.size, _, I.laid (a := s.heap.objs.size) (o := dno s.heap.objs.size ob) (t' := s.toks) (fun _ _ q => Heap.get?_push_of_some _ q) (Nat.le_refl _) (dno_ok e1), rfl, h _ ob (I.hok.fresh (Nat.le_refl _)) e2⟩
end
end MF

set_option autoImplicit false
set_option Elab.async false
set_option linter.all false
set_option maxRecDepth 100000
set_option maxHeartbeats 1000000
/-! Such dicts: displays, dict(pairs), pop, update, walks. -/
namespace MF
open PySem PySem.Spec PyProof.Rows L2

section
variable {α β : Type} [DecidableEq α]
def putAll (acc es : List (α × β)) : List (α × β) := es.foldl (fun acc e => putL acc e.1 e.2) acc
theorem putAll_cons (acc : List (α × β)) (e : α × β) (es : List (α × β)) : putAll acc (e :: es) = putAll (putL acc e.1 e.2) es := rfl
theorem putAll_len : ∀ (es acc : List (α × β)), (putAll acc es).length ≤ acc.length + es.length
  | [], acc => Nat.le_refl _
  | e :: es, acc => by
    rw [putAll_cons]
    have h1 := putAll_len es (putL acc e.1 e.2)
    have h2 := putL_len acc e.1 e.2
    rw [List.length_cons]; omega
theorem putAll_keys : ∀ (es acc : List (α × β)) (k : α), k ∈ (putAll acc es).map (·.1) ↔ k ∈ acc.map (·.1) ∨ k ∈ es.map (·.1)
  | [], acc, k => by simp [putAll]
  | e :: es, acc, k => by
    rw [putAll_cons, putAll_keys es, putL_keys, List.map_cons, List.mem_cons]
    by_cases h : e.1 ∈ acc.map (·.1)
    · rw [if_pos h]
      constructor
      · rintro (q | q)
        · exact .inl q
        · exact .inr (.inr q)
      · rintro (q | q | q)
        · exact .inl q
        · exact .inl (q ▸ h)
        · exact .inr q
    · rw [if_neg h, List.mem_append, List.mem_singleton]
      constructor
      · rintro ((q | q) | q)
        · exact .inl q
        · exact .inr (.inl q)
        · exact .inr (.inr q)
      · rintro (q | q | q)
        · exact .inl (.inl q)
        · exact .inl (.inr q)
        · exact .inr q
/-- of unlike keys nothing is lost -/
theorem putAll_nodup : ∀ (es acc : List (α × β)), ((acc ++ es).map (·.1)).Nodup → putAll acc es = acc ++ es
  | [], acc, _ => by simp [putAll]
  | e :: es, acc, h => by
    have h1 : e.1 ∉ acc.map (·.1) := by
      rw [List.map_append, List.map_cons, List.nodup_append] at h
      exact fun q => h.2.2 _ q _ List.mem_cons_self rfl
    rw [putAll_cons, putL_new h1, putAll_nodup es (acc ++ [(e.1, e.2)]) (by simpa using h)]
    simp
variable {kr : KR α} {vr : VR β} {H : Hp}
theorem pr_putAll {es : List (α × β)} {xs : List (NestedKey × Addr × Value)} (r : Paired (Rel1 kr vr H) es xs) : ∀ {acc : List (α × β)} {ys : List (NestedKey × Addr × Value)}, Paired (Rel1 kr vr H) acc ys → Paired (Rel1 kr vr H) (putAll acc es) (storedAllH ys xs) := by
  induction r with
  | nil => intro acc ys q; exact q
  | @cons p x ps xs a _ ih =>
    intro acc ys q
    obtain ⟨a1, a2, v, a3, a4⟩ := a
    rw [putAll_cons]
    refine ih ?_
    have z := pr_put q a2 a3 a4
    rw [← a1] at z
    exact z
end

section
variable {X : Cx} {pins : List (Addr × Obj)} {σ : L2.St} {H : Hp} {s : Shared}
abbrev obj0 : Obj := { cls := .type "dict", data := .dict #[] }
/-- what a display's pairs, or the pairs of a list, say -/
def PairR {α β : Type} (kr : KR α) (vr : VR β) (H : Hp) (pv : V × V) (e : α × β) : Prop := NK H (kr.f e.1) pv.1 ∧ vr.at_ H pv.2 e.2
theorem carries_nd {P : Program} {w : World} {h : Heap} (ok : HOk P w H h) {α β : Type} {kr : KR α} {vr : VR β} : ∀ {ps : List (V × V)} {ws : List (Value × Value)} {es : List (α × β)}, VV ps ws → Paired (PairR kr vr H) ps es →
    ∃ xs : List (NestedKey × Addr × Value), CarriesH (nestedKind P w) h ws xs ∧ Paired (Rel1 kr vr H) es xs
  | [], _, _, r, q => by cases r; cases q; exact ⟨[], trivial, .nil⟩
  | (k, v) :: ps, _, _, r, q => by
    cases r with
    | cons r1 r2 =>
      cases q with
      | cons q1 q2 =>
        obtain ⟨xs, c, p⟩ := carries_nd ok r2 q2
        rename_i b bs e es
        obtain ⟨ks, ek⟩ := kr.tup e.1
        obtain ⟨n, vt⟩ := q1
        have n' := n
        rw [ek] at n'
        obtain ⟨t, et⟩ := n'.isref
        obtain ⟨b1, b2⟩ := b
        simp only at et n vt r1
        subst et
        obtain ⟨r1a, r1b⟩ := r1
        cases r1a
        exact ⟨(kr.f e.1, t, b2) :: xs, ⟨rfl, rfl, n.isAt ok (kr.dep _), c⟩, .cons ⟨rfl, n, v, r1b, vt⟩ p⟩
/-- {k: v, ..} -/
def tNDisp (P : Program) (w : World) (trs : List (TE × TE)) : TE := fun σ H Q => ∀ p, H p = none → tPairs trs σ (upd H p (dno p obj0)) fun ps H2 => H2 p = some (dno p obj0) ∧
  ∃ (α β : Type) (_ : DecidableEq α) (kr : KR α) (vr : VR β) (es : List (α × β)), Paired (PairR kr vr H2) ps es ∧ es.length ≤ 15 ∧ ∀ ob, Dct P w kr vr (upd H2 p (dno p ob)) p (putAll [] es) → Q (.ref p) (upd H2 p (dno p ob))
theorem pe_ndisp {pos : Pos} {keys : List (Option Expr)} {values : List Expr} {trs : List (TE × TE)} (hu : X.A.units + 20 < cLine) (h : PPs X pos keys values trs) (hall : keys.all (·.isSome) = true) (hl : keys.length = values.length) (h0 : keys ≠ []) (h15 : keys.length ≤ 15) :
    PE X (.Dict keys values pos) (tNDisp X.prog X.w trs) := by
  refine ⟨fun pins s σ H Q I q => ?_⟩
  have hn := I.hok.fresh (Nat.le_refl s.heap.objs.size)
  have I1 := I.laid (a := s.heap.objs.size) (o := dno s.heap.objs.size obj0) (h' := s.heap.push obj0) (t' := s.toks) (fun _ _ q => Heap.get?_push_of_some _ q) (Nat.le_refl _) (dno_ok (Heap.get?_push_size _ rfl))
  have hpl := pairTrees_length keys values X.env pos hall hl
  have hne : pairTrees keys values X.env pos ≠ [] := fun e => by
    rw [e] at hpl
    exact h0 (List.length_eq_zero_iff.mp hpl.symm)
  rw [arm_eval_Dict, zip_pairTrees keys values X.env pos hall hl, dictDisplay_pairs _ hne (by rw [hpl]; omega)]
  refine wpAny_bind (wpAny_standAt (wpAny_bind (wpAny_subDictH (knd := nestedKind X.prog X.w) (nk_room0 hu) (by rw [hpl]; exact h15) (thn (h.run pins _ σ _ _ I1 (q _ hn)) fun ws s2 ⟨ps, H2, I2, rel, e, α, β, _, kr, vr, es, pr, hz, q2⟩ => ?_))))
  obtain ⟨xs, c, r1⟩ := carries_nd I2.hok rel pr
  have hd0 : s2.heap.DictOfH (nestedKind X.prog X.w) s.heap.objs.size [] := ⟨obj0, #[], 0, dno_get I2.hok e, ⟨rfl, rfl, rfl⟩, rfl, rfl, fun _ h => (nomatch h), List.nodup_nil⟩
  refine ⟨xs, c, hd0, fun h' tk dd hs => wpAny_pure ?_⟩
  obtain ⟨ob, e1, en⟩ := Ents.of dd
  have tu : Tu H2 (upd H2 s.heap.objs.size (dno s.heap.objs.size ob)) := Tu.mut e dno_tup
  have hz' : (putAll [] es).length ≤ sizeLine := by
    have := putAll_len es ([] : List (α × β))
    rw [List.length_nil] at this
    rw [sizeLine_eq]; omega
  refine ⟨.ref s.heap.objs.size, _, inv_dnew I2 (mut_dno e) hs e1, rfl, q2 ob ⟨beq_eq_false_iff_ne.mpr (Ne.symm (Nat.ne_of_lt I.big)), hz', ob, _, upd_same, en, Paired.mapP (pr_putAll r1 .nil) fun _ _ r => r.mono tu⟩⟩

/-! ### dict(a list of pairs) -/
/-- a pair's tuple -/
def PairT {α β : Type} (kr : KR α) (vr : VR β) (H : Hp) (it : V) (e : α × β) : Prop := ∃ t k v, it = .ref t ∧ H t = some (.tup [k, v]) ∧ NK H (kr.f e.1) k ∧ vr.at_ H v e.2
theorem pairs_raw {P : Program} {w : World} {h : Heap} (ok : HOk P w H h) {α β : Type} {kr : KR α} {vr : VR β} : ∀ {items : List V} {its : List Value} {es : List (α × β)}, Vals items its → Paired (PairT kr vr H) items es →
    ∃ L : List (Addr × NestedKey × Addr × Value), its = L.map (fun x => Value.ref x.1) ∧ Paired (Rel1 kr vr H) es (L.map (·.2)) ∧ (∀ x ∈ L, PairAt h x.1 (.ref x.2.2.1) x.2.2.2)
  | [], _, _, r, q => by cases r; cases q; exact ⟨[], rfl, .nil, fun _ h => (nomatch h)⟩
  | it :: items, _, _, r, q => by
    cases r with
    | cons r1 r2 =>
      cases q with
      | cons q1 q2 =>
        obtain ⟨L, c1, c2, c3⟩ := pairs_raw ok r2 q2
        rename_i b bs e es
        obtain ⟨t, k, v, et, ht, n, vt⟩ := q1
        subst et
        cases r1
        obtain ⟨ks, ek⟩ := kr.tup e.1
        have n' := n
        rw [ek] at n'
        obtain ⟨a, ea⟩ := n'.isref
        subst ea
        obtain ⟨_, us, rv, o, ho, hc, m, hd⟩ := (show ObjOk P w H h t (.tup [V.ref a, v]) from ok t _ ht)
        obtain ⟨u1, u2, rfl, ra, rb⟩ := rv.two
        cases ra
        refine ⟨(t, kr.f e.1, a, u2) :: L, by rw [c1]; rfl, .cons ⟨rfl, n, v, rb, vt⟩ c2, fun x hx => ?_⟩
        rcases List.mem_cons.mp hx with z | z
        · subst z; exact .inl ⟨o, ho, hc, m, hd⟩
        · exact c3 x z
def rNDictOf (P : Program) (w : World) : List V → Hp → VK → Prop := fun xs H Q => ∃ (α β : Type) (_ : DecidableEq α) (kr : KR α) (vr : VR β) (a : Addr) (items : List V) (es : List (α × β)), xs = [.ref a] ∧ H a = some (.lst items) ∧ Paired (PairT kr vr H) items es ∧
  ∀ p ob, H p = none → Dct P w kr vr (upd H p (dno p ob)) p (putAll [] es) → Q (.ref p) (upd H p (dno p ob))
theorem call_ndict (hc : X.calm = true) (hu : X.A.units + 20 < cLine) : CallR X (.type "dict") (rNDictOf X.prog X.w) := by
  intro pins s σ H xs us Q I r ⟨α, β, _, kr, vr, a, items, es, ex, ha, pr, q⟩
  subst ex
  obtain ⟨u, rfl, rx⟩ := r.one
  cases rx
  obtain ⟨hz, its, n, rv, ho⟩ := (show ObjOk X.prog X.w H s.heap a (.lst items) from I.hok a _ ha)
  obtain ⟨L, c1, c2, c3⟩ := pairs_raw I.hok rv pr
  have hl : its.length = L.length := by rw [c1, List.length_map]
  have hl2 : items.length = its.length := rv.length
  have hl3 : es.length = L.length := by have := Paired.length c2; rw [this, List.length_map]
  -- the pairs as the library tells them
  have hget : ∀ (j : Nat) (k v : Value), (L.map fun x => (Value.ref x.2.2.1, x.2.2.2))[j]? = some (k, v) → ∃ x, L[j]? = some x ∧ k = .ref x.2.2.1 ∧ v = x.2.2.2 := fun j k v e => by
    rw [List.getElem?_map] at e
    obtain ⟨x, hx, e2⟩ := Option.map_eq_some_iff.mp e
    cases e2
    exact ⟨x, hx, rfl, rfl⟩
  have hn : (L.map fun x => (Value.ref x.2.2.1, x.2.2.2)).length = L.length := List.length_map ..
  refine call_dict_pairsH (knd := nestedKind X.prog X.w) (ps := L.map (·.2)) (PairArg.list a its.toArray (fun j => (L.map (·.1)).getD j 0) (L.map fun x => (Value.ref x.2.2.1, x.2.2.2))) (I.ok.hd hc) (nk_room2 hu) ⟨⟨_, n, ho, rfl, rfl, rfl⟩, ?_, fun j k v e => ?_⟩ ⟨?_, fun i key v e => ?_⟩ (fun h' hk x hx => ?_) (by rw [hn]; omega) fun h' tk dd hk => ?_
  · rw [hn, List.size_toArray, hl]
  · obtain ⟨x, hx, rfl, rfl⟩ := hget j k v e
    have e1 : (L.map (·.1)).getD j 0 = x.1 := by
      rw [List.getD_eq_getElem?_getD, List.getElem?_map, hx]; rfl
    dsimp only
    rw [e1]
    refine ⟨?_, c3 x (List.mem_of_getElem? hx)⟩
    rw [c1]
    simp [hx]
  · rw [hn, List.length_map]
  · obtain ⟨x, hx, rfl, rfl⟩ := hget i key v e
    exact ⟨x.2.1, x.2.2.1, by rw [List.getElem?_map, hx]; rfl, rfl⟩
  · have k0 := pr_is I.hok c2 x hx
    refine ⟨NestedIs.at (fun b o vs m eb _ => hk b o (Nat.ne_of_lt (Heap.lt_size eb)) (fun z => nomatch z) eb) _ _ k0.1, k0.2⟩
  · obtain ⟨ob, e1, en⟩ := Ents.of dd
    have kp : ∀ b o, s.heap.get? b = some o → h'.get? b = some o := fun b o e => hk b o (fun z => nomatch z) e
    have hnone := I.hok.fresh (Nat.le_refl s.heap.objs.size)
    have tu : Tu H (upd H s.heap.objs.size (dno s.heap.objs.size ob)) := Tu.new hnone
    have hz' : (putAll [] es).length ≤ sizeLine := by
      have := putAll_len es ([] : List (α × β))
      rw [List.length_nil] at this
      omega
    refine ⟨.ref s.heap.objs.size, _, I.laid (t' := tk) kp (Nat.le_refl _) (dno_ok e1), rfl, q _ ob hnone ⟨beq_eq_false_iff_ne.mpr (Ne.symm (Nat.ne_of_lt I.big)), hz', ob, _, upd_same, en, Paired.mapP (pr_putAll c2 .nil) fun _ _ r => r.mono tu⟩⟩

/-! ### d.pop(k), d.update(e) -/
theorem Ents.noDict {P : Program} {w : World} {h : Heap} {d : Addr} {α β : Type} [DecidableEq α] {kr : KR α} {vr : VR β} {ps : List (α × β)} (ok : HOk P w H h) (D : Dct P w kr vr H d ps) : ∃ o, h.get? d = some o ∧ o.ExactDict := by
  obtain ⟨xs, ⟨o, es, ep, e1, e2, _⟩, _⟩ := D.heap ok
  exact ⟨o, e1, e2⟩
def tNPop (P : Program) (w : World) (td : TE) (t : TA) : TE := fun σ H Q => td σ H fun x H1 => ∃ (α β : Type) (_ : DecidableEq α) (kr : KR α) (vr : VR β) (d : Addr) (ps : List (α × β)), x = .ref d ∧ Dct P w kr vr H1 d ps ∧
  t σ H1 fun ys H2 => ∃ y k b, ys = [y] ∧ Dct P w kr vr H2 d ps ∧ NK H2 (kr.f k) y ∧ look ps k = some b ∧ ∀ v ob, vr.at_ H2 v b → Dct P w kr vr (upd H2 d (dno d ob)) d (dropL ps k) → Q v (upd H2 d (dno d ob))
theorem pe_npop {o e : Expr} {td : TE} {t : TA} {apos cpos : Pos} (hu : X.A.units + 20 < cLine) (ho : PE X o td) (ha : PA X [e] t)
    (hbase : attributeBase o "pop" X.env (eval o X.env) = eval o X.env := by rfl)
    (hfew : ((backTo cpos (starEach [e] X.env)).all (fun x => !x.1) && (backToKw cpos (keywordEach [] X.env)).all (fun x => x.1.isSome) && decide (([e] : List Expr).length + ([] : List Keyword).length + (if ([] : List Keyword).isEmpty then 0 else 1) < 30)) = true := by rfl)
    (hline : (apos.endLine == cpos.line) = true := by rfl) (hs : starEach [e] X.env = (false, eval e X.env) :: starEach [] X.env := by rfl) (hplain : (backTo cpos (starEach [] X.env)).any (·.1) = false := by rfl) :
    PE X (.Call (.Attribute o "pop" apos) [e] [] cpos) (tNPop X.prog X.w td t) := by
  refine ⟨fun pins s σ H Q I h => ?_⟩
  refine wpAny_Call_method_late hbase hfew hline rfl (thn (ho.run pins s σ H _ I h) fun v s1 ⟨x, H1, I1, r1, α, β, _, kr, vr, d, ps, ex, D1, q1⟩ => ?_)
  subst ex
  cases r1
  obtain ⟨o1, e1, x1⟩ := Ents.noDict I1.hok D1
  refine ⟨"dict", "dict.pop", PySem.F.plainAttrs_dict, PySem.F.slot_dict_pop, PySem.F.type_dict_pop, ⟨o1, e1, x1.1⟩, fun a ea => by cases ea; exact ⟨o1, e1, x1.2.1⟩, ?_⟩
  have hA := ha.run cpos pins s1 σ H1 _ I1 q1
  rw [hs] at hA ⊢
  refine Calls.callWith_builtin (by show (false || (backTo cpos (starEach [] X.env)).any (·.1)) = false; rw [hplain] <;> rfl) (Calls.evalArgs_plain ?_)
  refine thn hA fun us s2 ⟨vs, H2, I2, r2, y, k, b, ey, D, hk, hl, q2⟩ => ?_
  subst ey
  obtain ⟨u, rfl, ry⟩ := r2.one
  obtain ⟨ks, ek⟩ := kr.tup k
  rw [ek] at hk
  obtain ⟨t, rfl⟩ := hk.isref
  rw [← ek] at hk
  cases ry
  obtain ⟨xs, hd, pr, hxl⟩ := D.heap I2.hok
  obtain ⟨o0, c0⟩ := D.obj
  rcases pr_look pr k with ⟨e1, _⟩ | ⟨b', x, v, e1, e2, e3, e4⟩
  · rw [e1] at hl; cases hl
  · rw [e1] at hl
    cases hl
    refine call_pop_heap (hsz := by rw [hxl]; exact D.2.1) (more := []) (.inl rfl) (PySem.F.args_dict_pop_2 _ _) (nk_room hu) (hk.isAt I2.hok (kr.dep k)) D.1 hd e2 fun h' hm' sb => ?_
    obtain ⟨ob, e5, en⟩ := Ents.of hm'
    have tu : Tu H2 (upd H2 d (dno d ob)) := Tu.mut c0 dno_tup
    have hlen : (dropL ps k).length ≤ sizeLine := Nat.le_trans (List.length_filter_le ..) D.2.1
    exact ⟨v, _, inv_dnew I2 (mut_dno c0) sb e5, e3, q2 v ob e4 ⟨D.1, hlen, ob, _, upd_same, en, Paired.mapP (pr_drop pr k) fun _ _ r => r.mono tu⟩⟩
def tNUpd (P : Program) (w : World) (td : TE) (t : TA) : TE := fun σ H Q => td σ H fun x H1 => ∃ (α β : Type) (_ : DecidableEq α) (kr : KR α) (vr : VR β) (d : Addr) (ps : List (α × β)), x = .ref d ∧ Dct P w kr vr H1 d ps ∧
  t σ H1 fun ys H2 => ∃ d2 es, ys = [.ref d2] ∧ Dct P w kr vr H2 d ps ∧ Dct P w kr vr H2 d2 es ∧ d ≠ d2 ∧ (es.map fun e => (kr.f e.1).hash w).Nodup ∧ ps.length + es.length ≤ sizeLine ∧
  ∀ ob, Dct P w kr vr (upd H2 d (dno d ob)) d (putAll ps es) → Q .non (upd H2 d (dno d ob))
theorem pe_nupd {o e : Expr} {td : TE} {t : TA} {apos cpos : Pos} (hu : X.A.units + 20 < cLine) (ho : PE X o td) (ha : PA X [e] t)
    (hbase : attributeBase o "update" X.env (eval o X.env) = eval o X.env := by rfl)
    (hfew : ((backTo cpos (starEach [e] X.env)).all (fun x => !x.1) && (backToKw cpos (keywordEach [] X.env)).all (fun x => x.1.isSome) && decide (([e] : List Expr).length + ([] : List Keyword).length + (if ([] : List Keyword).isEmpty then 0 else 1) < 30)) = true := by rfl)
    (hline : (apos.endLine == cpos.line) = true := by rfl) (hs : starEach [e] X.env = (false, eval e X.env) :: starEach [] X.env := by rfl) (hplain : (backTo cpos (starEach [] X.env)).any (·.1) = false := by rfl) :
    PE X (.Call (.Attribute o "update" apos) [e] [] cpos) (tNUpd X.prog X.w td t) := by
  refine ⟨fun pins s σ H Q I h => ?_⟩
  refine wpAny_Call_method_late hbase hfew hline rfl (thn (ho.run pins s σ H _ I h) fun v s1 ⟨x, H1, I1, r1, α, β, _, kr, vr, d, ps, ex, D1, q1⟩ => ?_)
  subst ex
  cases r1
  obtain ⟨o1, e1, x1⟩ := Ents.noDict I1.hok D1
  refine ⟨"dict", "dict.update", PySem.F.plainAttrs_dict, PySem.F.slot_dict_update, PySem.F.type_dict_update, ⟨o1, e1, x1.1⟩, fun a ea => by cases ea; exact ⟨o1, e1, x1.2.1⟩, ?_⟩
  have hA := ha.run cpos pins s1 σ H1 _ I1 q1
  rw [hs] at hA ⊢
  refine Calls.callWith_builtin (by show (false || (backTo cpos (starEach [] X.env)).any (·.1)) = false; rw [hplain] <;> rfl) (Calls.evalArgs_plain ?_)
  refine thn hA fun us s2 ⟨vs, H2, I2, r2, d2, es, ey, D, D2, hne, hh, hz, q2⟩ => ?_
  subst ey
  obtain ⟨u, rfl, ry⟩ := r2.one
  cases ry
  obtain ⟨xs, hd, pr, hxl⟩ := D.heap I2.hok
  obtain ⟨ys, hd2, pr2, hyl⟩ := D2.heap I2.hok
  obtain ⟨o0, c0⟩ := D.obj
  have hk2 := pr_keys pr2
  have hhash : (ys.map fun x => (nestedKind X.prog X.w).hash x.1).Nodup := by
    have e : (ys.map fun x => (nestedKind X.prog X.w).hash x.1) = (ys.map (·.1)).map fun k => NestedKey.hash X.w k := by rw [List.map_map]; rfl
    rw [e, hk2, List.map_map]
    exact hh
  have hty : ∀ x ∈ ys, s2.TypeIs (.ref x.2.1) "tuple" := fun x hx => nestedKind_stays.tuple (pr_is I2.hok pr2 x hx)
  refine call_update_dictH (knd := nestedKind X.prog X.w) (nk_room hu) hne D2.1 hd hd2 (.inr ⟨hty, hhash⟩) (by rw [hxl, hyl]; exact hz) fun h' hm' _ sb => ?_
  obtain ⟨ob, e5, en⟩ := Ents.of hm'
  have tu : Tu H2 (upd H2 d (dno d ob)) := Tu.mut c0 dno_tup
  have hlen : (putAll ps es).length ≤ sizeLine := Nat.le_trans (putAll_len es ps) hz
  exact ⟨.non, _, inv_dnew (t' := s2.toks) I2 (mut_dno c0) sb e5, rfl, q2 ob ⟨D.1, hlen, ob, _, upd_same, en, Paired.mapP (pr_putAll pr2 pr) fun _ _ r => r.mono tu⟩⟩

/-! ### for k in d -/
/-- the keys of the dict at d, of the object o -/
def Itn {α β : Type} [DecidableEq α] (P : Program) (w : World) (kr : KR α) (vr : VR β) (d : Addr) (o : Obj) (ps : List (α × β)) : It :=
  ⟨fun i H => H d = some (dno d o) ∧ Dct P w kr vr H d ps ∧ i < ps.length, fun i H x H' => H' = H ∧ ∃ k b, ps[i]? = some (k, b) ∧ NK H (kr.f k) x, fun i H => H d = some (dno d o) ∧ Dct P w kr vr H d ps ∧ ps.length ≤ i⟩
theorem pr_get {α β : Type} {kr : KR α} {vr : VR β} {H : Hp} {ps : List (α × β)} {xs : List (NestedKey × Addr × Value)} (r : Paired (Rel1 kr vr H) ps xs) : ∀ {i : Nat} {p : α × β}, ps[i]? = some p → ∃ x, xs[i]? = some x ∧ Rel1 kr vr H p x := by
  induction r with
  | nil => intro i p e; simp at e
  | cons a _ ih =>
    intro i p e
    cases i with
    | zero => simp at e; subst e; exact ⟨_, rfl, a⟩
    | succ i => simpa using ih (i := i) (by simpa using e)
theorem it_fields {h : Heap} {it d : Addr} {i n ep : Nat} (st : h.IsKeyIter it d i n ep) : ∃ oi vs, h.get? it = some oi ∧ oi.cls = .type "dict_keyiterator" ∧ oi.data = .fields vs := by
  obtain ⟨oi, e, c, dd⟩ := st
  exact ⟨oi, _, e, c, dd⟩
theorem turn_n {α β : Type} [DecidableEq α] {P : Program} {w : World} {K : PySem.W.Frag} {tg : Expr} {kr : KR α} {vr : VR β} {d : Addr} {o : Obj} {ps : List (α × β)} {es : Array DictEntry} {ep : Nat} (it : Addr) (hod : o.data = .dict es ep) :
    Turn P w K tg (Itn P w kr vr d o ps) [it] it (fun i h => h.IsKeyIter it d i ps.length ep) := by
  have look : ∀ {X : Cx} {pins : List (Addr × Obj)} {s : Shared} {σ : L2.St} {H : Hp}, X.prog = P → X.w = w → Inv X pins σ H s → H d = some (dno d o) → Dct P w kr vr H d ps → s.heap.get? d = some o ∧ es.size = ps.length ∧
      ∀ (i : Nat) (k : α) (b : β), ps[i]? = some (k, b) → ∃ (en : DictEntry) (a : Addr), es[i]? = some en ∧ en.key = Value.ref a ∧ NK H (kr.f k) (V.ref a) := by
    intro X pins s σ H hP hw I hd D
    subst hP hw
    obtain ⟨xs, ⟨o', es', ep', e1, e2, e3, e4, _⟩, pr, hl⟩ := D.heap I.hok
    have e0 := dno_get I.hok hd
    rw [e0] at e1
    cases e1
    rw [hod] at e3
    cases e3
    refine ⟨e0, by have := congrArg List.length e4; rw [List.length_map, Array.length_toList] at this; omega, fun i k b hi => ?_⟩
    obtain ⟨x, hx, r1, r2, _⟩ := pr_get pr hi
    refine ⟨entryOfKey (nestedKind X.prog X.w) x, x.2.1, ?_, rfl, r2⟩
    rw [← Array.getElem?_toList, e4, List.getElem?_map, hx]; rfl
  refine ⟨by simp, fun i h st b hb => ?_, fun i h h' st k => st.at fun oi e => k it (by simp) oi e, ?_, ?_, fun A i s Q E st h => wpAny_pyIter_keyiter st h⟩
  · have e : b = it := by simpa using hb
    subst e
    obtain ⟨oi, vs, e, _, dd⟩ := it_fields st
    exact ⟨oi, e, fun v z => by rw [dd] at z; cases z⟩
  · intro X hP hw hK hc i pins s σ H E I hf st ⟨hd, D, hi⟩
    obtain ⟨f0, f1, f2, f3, f4, f5⟩ := hf it (by simp)
    obtain ⟨hg, hsz, ent⟩ := look hP hw I hd D
    subst hP hw
    obtain ⟨en, a, hen, hkey, hn⟩ := ent i (ps[i]).1 (ps[i]).2 (List.getElem?_eq_getElem hi)
    refine next_key_item st hg hod hsz hen fun h' st' sb => ?_
    have I1 : Inv X pins σ H { s with heap := h' } := I.turned (t' := s.toks) (fun b ob hb e => (sb.2 b hb).trans e) f0 f1 f3 f4 f5
    obtain ⟨oi, vs, e, c, dd⟩ := it_fields st'
    exact ⟨en.key, rfl, go_of (s := { s with heap := h' }) e c dd (by decide) ⟨.ref a, H, I1, hkey, ⟨rfl, _, _, List.getElem?_eq_getElem hi, hn⟩, st', fun b hb => (hf b hb).1⟩⟩
  · intro X hP hw hK hc i pins s σ H E I hf st ⟨hd, D, hi⟩
    obtain ⟨f0, f1, f2, f3, f4, f5⟩ := hf it (by simp)
    obtain ⟨hg, hsz, ent⟩ := look hP hw I hd D
    subst hP hw
    exact next_key_end (I.ok.hd hc) st hg hod hsz hi fun h' eb => ⟨rfl, I.turned (t' := s.toks) (fun b ob hb e => eb b ob hb e) f0 f1 f3 f4 f5⟩
def iNKeys (P : Program) (w : World) (td : TE) : TI := fun σ H R => td σ H fun x H1 => ∃ (α β : Type) (_ : DecidableEq α) (kr : KR α) (vr : VR β) (d : Addr) (ps : List (α × β)), x = .ref d ∧ Dct P w kr vr H1 d ps ∧ ∀ o, H1 d = some (dno d o) → R (Itn P w kr vr d o ps) H1
theorem pi_nkeys {tg e : Expr} {td : TE} (he : PE X e td) : PI X tg e (iNKeys X.prog X.w td) := by
  refine ⟨fun pins s σ H R I h => ?_⟩
  refine thn (he.run pins s σ H _ I h) fun u s1 ⟨x, H1, I1, rx, α, β, _, kr, vr, d, ps, ex, D, q⟩ => ?_
  subst ex
  cases rx
  obtain ⟨xs, ⟨o, es, ep, e1, e2, e3, e4, _⟩, pr, hl⟩ := D.heap I1.hok
  obtain ⟨o', c0⟩ := D.obj
  have e0 := dno_get I1.hok c0
  rw [e1] at e0
  cases e0
  have hsz : es.size = ps.length := by have := congrArg List.length e4; rw [List.length_map, Array.length_toList] at this; omega
  refine iter_keys D.1 e1 e2 e3 (pi_one (tk := s1.toks) I1 _ (turn_n _ e3) ⟨_, Heap.get?_push_size _ rfl, rfl, ?_⟩ (q o c0))
  rw [hsz] <;> rfl
theorem walk_n {α β : Type} [DecidableEq α] {P : Program} {w : World} {kr : KR α} {vr : VR β} {d : Addr} {o : Obj} {ps : List (α × β)} : Walk (Itn P w kr vr d o ps) ps.length (fun H => H d = some (dno d o) ∧ Dct P w kr vr H d ps) (fun i H x H' => H' = H ∧ ∃ k b, ps[i]? = some (k, b) ∧ NK H (kr.f k) x) :=
  ⟨fun i _ hi q => ⟨q.1, q.2, hi⟩, fun _ q => ⟨q.1, q.2, Nat.le_refl _⟩, fun _ _ _ _ _ _ y => y⟩
end
end MF

set_option autoImplicit false
set_option Elab.async false
set_option linter.all false
set_option maxRecDepth 100000
set_option maxHeartbeats 1000000
/-! Order of cells and of ways, sorted. -/
namespace MF
open PySem PySem.Spec PyProof.Rows L2

theorem all_get {h : Heap} : ∀ {ks : List NestedKey} {vs : List Value}, NestedAll h ks vs → ∀ {i : Nat} {v : Value}, vs[i]? = some v → ∃ k, ks[i]? = some k ∧ NestedIs h k v
  | [], _, x, i, v, e => by cases x; simp at e
  | k :: ks, _, x, i, v, e => by
    cases x with
    | cons a b =>
      cases i with
      | zero => simp at e; subst e; exact ⟨k, rfl, a⟩
      | succ i => simpa using all_get b (i := i) (by simpa using e)
theorem is_cell {h : Heap} {c : Cell} {v : Value} (x : NestedIs h (ck c) v) : (∃ b, v = .bool b ∧ False) ∨ ∃ a o u1 u2 n, v = .ref a ∧ h.get? a = some o ∧ o.cls = .type "tuple" ∧ o.data = .seq #[u1, u2] n ∧ NestedIs h (.num c.1) u1 ∧ NestedIs h (.num c.2) u2 := by
  cases x with
  | @tup a o vs n _ h1 h2 h3 h4 =>
    refine .inr ?_
    obtain ⟨l⟩ := vs
    cases h4 with
    | cons a1 b1 => cases b1 with
      | cons a2 b2 => cases b2; exact ⟨a, o, _, _, n, rfl, h1, h2, h3, a1, a2⟩

/-- a cell as the sort sees it: its numbers are ints -/
def ICell (h : Heap) (c : Cell) (v : Value) : Prop := Srt.IsPair h v c.1 c.2
/-! ### what is sorted: cells, ways -/
/-- how things of a kind stand in a heap, and compare -/
structure Ordd (α : Type) where
  is : Heap → α → Value → Prop
  lt : α → α → Bool
  κ : SortKind
  ok : α → Prop
  asym : ∀ x y, lt x y = true → lt y x = false
  split : ∀ x y z, lt z x = true → lt z y = true ∨ lt y x = true
  inj : ∀ {h : Heap} {x y : α} {v : Value}, is h x v → is h y v → x = y
  keep : ∀ {h h' : Heap} {x : α} {v : Value}, is h x v → (∀ b o, h.get? b = some o → h'.get? b = some o) → is h' x v
  ref : ∀ {h : Heap} {x : α} {v : Value}, is h x v → ∃ a, v = .ref a
  cmp : ∀ {prog : Program} {w : World} {A : Around} {s : Shared} {x y : α} {v u : Value}, A.units + 20 < cLine → is s.heap x v → is s.heap y u → wpAny (model prog w) A (keyLt' κ v u) (fun r s' => s' = s ∧ r = lt x y) (fun _ _ => False) s
  kind : ∀ {prog : Program} {w : World} {A : Around} {s : Shared} {vs : List Value} {Q : SortKind → Shared → Prop} {E : Value → Shared → Prop}, 2 ≤ vs.length → (∀ v ∈ vs, ∃ x, ok x ∧ is s.heap x v) → Q κ s → wpAny (model prog w) A (keyKind' vs.toArray) Q E s
theorem Ordd.swo {α : Type} (O : Ordd α) : SrtO.Swo O.lt := by
  refine ⟨O.asym, fun x y z h1 h2 => ?_⟩
  cases e : O.lt z x with
  | false => rfl
  | true =>
    rcases O.split x y z e with q | q
    · rw [h2] at q; cases q
    · rw [h1] at q; cases q
open Classical in
/-- the thing that stands there -/
noncomputable def Ordd.dec {α : Type} [Inhabited α] (O : Ordd α) (h : Heap) (v : Value) : α := if q : ∃ x, O.is h x v then choose q else default
theorem Ordd.dec_eq {α : Type} [Inhabited α] (O : Ordd α) {h : Heap} {v : Value} {x : α} (q : O.is h x v) : O.dec h v = x := by
  unfold Ordd.dec
  rw [dif_pos ⟨x, q⟩]
  exact O.inj (Classical.choose_spec (show ∃ x, O.is h x v from ⟨x, q⟩)) q

section
variable {α : Type} [Inhabited α] {prog : Program} {w : World} {A : Around} {E : Value → Shared → Prop} {s : Shared}
/-- sorted(r): r is collected to the values vs, the things xs -/
theorem sorted_things (O : Ordd α) {r : Addr} {vs : List Value} {xs : List α} {Q : Value → Shared → Prop} (hu : A.units + 60 < cLine)
    (hcol : ∀ (R : List Value → Shared → Prop) (E' : Value → Shared → Prop), (∀ h' tk, (∀ b o, s.heap.get? b = some o → h'.get? b = some o) → R vs { s with heap := h', toks := tk }) → wpAny (model prog w) A.in1 (collect (.ref r)) R E' s)
    (hz : vs.length ≤ sizeLine) (hl : vs.length = xs.length) (hx : ∀ (i : Nat) (v : Value) (x : α), vs[i]? = some v → xs[i]? = some x → O.ok x ∧ O.is s.heap x v)
    (h : ∀ (h1 h' : Heap) (tk : Nat) (d : Addr) (out : List Value) (ys : List α), out.Perm vs → ys.Perm xs → SrtO.Srtd O.lt ys → out.length = ys.length → (∀ (i : Nat) (v : Value) (y : α), out[i]? = some v → ys[i]? = some y → O.is h' y v) → (∀ b o, s.heap.get? b = some o → h1.get? b = some o) → (∀ b o, h1.get? b = some o → h'.get? b = some o) → h1.objs.size ≤ d →
      (∃ n, h'.get? d = some (seqObj "list" out.toArray n)) → Q (.ref d) { s with heap := h', toks := tk }) :
    wpAny (model prog w) A (call (.builtin "sorted") [.ref r]) Q E s := by
  have hex : ∀ v ∈ vs, ∃ x, O.ok x ∧ O.is s.heap x v := fun v hv => by
    obtain ⟨i, hi⟩ := List.mem_iff_getElem?.mp hv
    obtain ⟨x, hx'⟩ := Mow.get_of_lt (l := xs) (i := i) (by rw [← hl]; exact Mow.get_lt hi)
    exact ⟨x, hx i v x hi hx'⟩
  have hmap : vs.map (O.dec s.heap) = xs := by
    apply List.ext_getElem?
    intro i
    rw [List.getElem?_map]
    by_cases q : i < vs.length
    · obtain ⟨v, hv⟩ := Mow.get_of_lt q
      obtain ⟨x, hx'⟩ := Mow.get_of_lt (l := xs) (i := i) (by omega)
      rw [hv, hx']
      exact congrArg some (O.dec_eq (hx i v x hv hx').2)
    · rw [List.getElem?_eq_none (by omega), List.getElem?_eq_none (by omega)]; rfl
  refine Calls.call_function_entry PyProof.Rows.kind_sorted PyProof.Rows.plain_sorted PyProof.Rows.entry_sorted (PyProof.Rows.args_sorted1 _) ?_
  unfold Builtin.«sorted»
  refine wpAny_bind (m := checkCount "sorted" 1 1 _) (wpAny_pure ?_)
  refine wpAny_bind (hcol _ _ fun h1 tk k1 => ?_)
  refine wpAny_bind (wpAny_newList ?_ hz)
  have hoL : (h1.push (seqObj "list" vs.toArray 0)).get? h1.objs.size = some (seqObj "list" vs.toArray 0) := Heap.get?_push_size _ rfl
  have k2 : ∀ b o, s.heap.get? b = some o → b ≠ h1.objs.size ∧ (h1.push (seqObj "list" vs.toArray 0)).get? b = some o := fun b o e => ⟨Nat.ne_of_lt (Heap.lt_size (k1 b o e)), Heap.get?_push_of_some _ (k1 b o e)⟩
  refine wpAny_bind (wpAny_holding (wpAny_call_entry PyProof.Rows.slot_list_sort ⟨_, hoL, rfl⟩ PyProof.Rows.entry_list_sort
    (SrtO.list_sort_ord (s := { s with heap := h1.push (seqObj "list" vs.toArray 0), toks := tk }) (ltv := fun v u => O.lt (O.dec s.heap v) (O.dec s.heap u)) ⟨fun x y => O.swo.asym _ _, fun x y z => O.swo.tr _ _ _⟩ hoL hz (fun h2 h' keep => ?_) fun out hs hb => ⟨_, rfl, ?_⟩)
    (PyProof.Rows.args_list_sort _)))
  · have kp : ∀ b o, s.heap.get? b = some o → h'.get? b = some o := fun b o e => keep b o (k2 b o e).1 (k2 b o e).2
    refine ⟨O.κ, fun Q' E' hq => O.kind h2 (fun v hv => ?_) hq, fun p q hp hq => ?_⟩
    · obtain ⟨x, ox, ix⟩ := hex v hv
      exact ⟨x, ox, O.keep ix kp⟩
    · obtain ⟨x, _, ix⟩ := hex p.1 hp
      obtain ⟨y, _, iy⟩ := hex q.1 hq
      have hu2 : A.in1.in1.units + 20 < cLine := by rw [Around.in1_units, Around.in1_units]; omega
      have c := O.cmp (prog := prog) (w := w) (A := A.in1.in1) (s := { s with heap := h', toks := tk }) hu2 (O.keep ix kp) (O.keep iy kp)
      refine wpAny_mono c (fun r s' hr => ⟨hr.1, ?_⟩) fun _ _ z => z
      show r = O.lt (O.dec s.heap p.1) (O.dec s.heap q.1)
      rw [O.dec_eq ix, O.dec_eq iy]; exact hr.2
  · obtain ⟨n, hn⟩ := PyProof.Rows.sortedHeap_at (vs := vs) (out := out.toArray) hoL
    have kp1 : ∀ b o, h1.get? b = some o → (sortedHeap (h1.push (seqObj "list" vs.toArray 0)) h1.objs.size vs out.toArray).get? b = some o := fun b o e1 => by
      have hb : b < h1.objs.size := Heap.lt_size e1
      rw [PyProof.Rows.sortedHeap_old (Nat.ne_of_lt hb) (by rw [size_push']; exact Nat.lt_succ_of_lt hb)]
      exact Heap.get?_push_of_some _ e1
    have kp : ∀ b o, s.heap.get? b = some o → (sortedHeap (h1.push (seqObj "list" vs.toArray 0)) h1.objs.size vs out.toArray).get? b = some o := fun b o e => kp1 b o (k1 b o e)
    refine wpAny_pure ⟨_, rfl, h h1 _ tk h1.objs.size out (out.map (O.dec s.heap)) hb.perm ?_ (List.pairwise_map.mpr hs) (by rw [List.length_map]) (fun i v y hv hy => ?_) k1 kp1 (Nat.le_refl _) ⟨n, hn⟩⟩
    · rw [← hmap]; exact hb.perm.map _
    · rw [List.getElem?_map, hv] at hy
      have hy' : O.dec s.heap v = y := Option.some.inj hy
      obtain ⟨x, _, ix⟩ := hex v (hb.perm.mem_iff.mp (List.mem_of_getElem? hv))
      rw [O.dec_eq ix] at hy'
      subst hy'
      exact O.keep ix kp
end

/-! ### cells -/
theorem pair_uniq {h : Heap} {c d : Cell} {v : Value} (x : ICell h c v) (y : ICell h d v) : c = d := by
  obtain ⟨a, o, t, u, n, e, ho, hc, hd⟩ := x
  obtain ⟨a', o', t', u', n', e', ho', hc', hd'⟩ := y
  subst e
  cases e'
  rw [ho] at ho'
  cases ho'
  rw [hd] at hd'
  simp at hd'
  exact Prod.ext hd'.1.1.1 hd'.1.2.1
theorem ICell.nk {h : Heap} {c : Cell} {v : Value} (x : ICell h c v) : NestedIs h (ck c) v := by
  obtain ⟨a, o, t, u, n, e, ho, hc, hd⟩ := x
  subst e
  exact .tup ho hc hd (.cons (.int _ _) (.cons (.int _ _) .nil))
theorem ICell.of {P : Program} {w : World} {H : Hp} {h : Heap} (ok : HOk P w H h) {c : Cell} {v : V} {u : Value} (n : NK H (ck c) v) (r : RelV v u) : ICell h c u := by
  obtain ⟨t, rfl, e⟩ := n.cell
  cases r
  obtain ⟨_, its, rv, o, ho, hc, m, hd⟩ := (show ObjOk P w H h t (.tup [.int c.1, .int c.2]) from ok t _ e)
  obtain ⟨u1, u2, rfl, ⟨t1, e1⟩, ⟨t2, e2⟩⟩ := rv.two
  subst e1 e2
  exact ⟨t, o, t1, t2, m, rfl, ho, hc, hd⟩
theorem ICell.keep {h h' : Heap} {c : Cell} {v : Value} (x : ICell h c v) (k : ∀ b o, h.get? b = some o → h'.get? b = some o) : ICell h' c v := Srt.IsPair.keeps x fun b o e _ => k b o e
theorem lexLt_cell (c d : Cell) : HT.lexLt [c.1, c.2] [d.1, d.2] = Mow.clt c d := by
  unfold Mow.clt
  rw [HT.lexLt_cons]
  by_cases e : c.1 = d.1
  · rw [if_pos e, if_pos e, HT.lexLt_cons]
    by_cases e2 : c.2 = d.2
    · rw [if_pos e2, HT.lexLt_nil_nil, e2]; simp
    · rw [if_neg e2]
  · rw [if_neg e, if_neg e]
section
variable {prog : Program} {w : World} {A : Around} {s : Shared}
theorem cell_lt {E : Value → Shared → Prop} {Q : Value → Shared → Prop} {c d : Cell} {v u : Value} (hu : A.units < cLine) (x : ICell s.heap c v) (y : ICell s.heap d u) (h : Q (.bool (Mow.clt c d)) s) : wpAny (model prog w) A (compareOp .Lt v u) Q E s := by
  obtain ⟨a, o, t, u1, n, e, ho, hc, hd⟩ := x
  obtain ⟨a', o', t', u', n', e', ho', hc', hd'⟩ := y
  subst e e'
  exact HT.lt_tupInts (ns := [c.1, c.2]) (ms := [d.1, d.2]) ⟨o, ho, hc, n, hd⟩ ⟨o', ho', hc', n', hd'⟩ (.cons _ _ (.cons _ _ .nil)) (.cons _ _ (.cons _ _ .nil)) hu (by rw [lexLt_cell]; exact h)
open Classical in
theorem cell_cmp {c d : Cell} {v u : Value} (x : ICell s.heap c v) (y : ICell s.heap d u) : wpAny (model prog w) A (keyLt' (tuples' true) v u) (fun r s' => s' = s ∧ r = Mow.clt c d) (fun _ _ => False) s := by
  have q := SrtO.pair_cmp (prog := prog) (w := w) (A := A) (s := s) (vs := [v, u]) (k := fun z => if z = v then c else d) (fun z hz => by
    rcases List.mem_cons.mp hz with e | hz
    · subst e
      simp only [if_true]; exact x
    · have e := List.mem_singleton.mp hz
      subst e
      by_cases q : z = v
      · subst q
        have := pair_uniq x y
        subst this
        simp only [if_true]; exact x
      · simp only [if_neg q]; exact y) (v, v) (u, u) List.mem_cons_self (List.mem_cons_of_mem _ List.mem_cons_self)
  refine wpAny_mono q (fun r s' hr => ⟨hr.1, ?_⟩) fun _ _ z => z
  have hr2 := hr.2
  rw [hr2]
  show SrtO.lexB (if v = v then c else d) (if u = v then c else d) = Mow.clt c d
  rw [if_pos rfl]
  by_cases q : u = v
  · subst q
    have := pair_uniq x y
    subst this
    rw [if_pos rfl]; rfl
  · rw [if_neg q]; rfl
theorem cell_kind {vs : List Value} {Q : SortKind → Shared → Prop} {E : Value → Shared → Prop} (h2 : 2 ≤ vs.length) (hx : ∀ v ∈ vs, ∃ x : Cell, ICell s.heap x v) (hq : Q (tuples' true) s) : wpAny (model prog w) A (keyKind' vs.toArray) Q E s := by
  obtain ⟨fs, h1, h3, h4⟩ := Srt.firsts_of (h := s.heap) (vs := vs) fun v hv => let ⟨x, i⟩ := hx v hv; ⟨_, _, i⟩
  refine PySem.W.kat_kind (T := .type "int") h1 (by omega) (fun f hm => ?_) (by rfl) ?_
  · obtain ⟨x, t, rfl⟩ := h4 f hm
    exact PySem.W.Looks.now
  · have e : (Value.type "int" != Value.type "tuple") = true := by first | decide +kernel | rfl | decide
    rw [e]; exact hq
end
def cellO : Ordd Cell where
  is := ICell
  lt := Mow.clt
  κ := tuples' true
  ok := fun _ => True
  asym := fun _ _ => Mow.clt_asym
  split := fun _ _ _ => Mow.clt_split
  inj := pair_uniq
  keep := ICell.keep
  ref := fun x => let ⟨a, _, _, _, _, e, _⟩ := x; ⟨a, e⟩
  cmp := fun _ x y => cell_cmp x y
  kind := fun h2 hx hq => cell_kind h2 (fun v hv => let ⟨x, _, i⟩ := hx v hv; ⟨x, i⟩) hq

/-! ### ways -/
def IWay (h : Heap) (w : List Cell) (v : Value) : Prop := ∃ a o us n, v = .ref a ∧ h.get? a = some o ∧ o.cls = .type "tuple" ∧ o.data = .seq (us : List Value).toArray n ∧ Paired (fun c u => ICell h c u) w us
theorem cells_uniq {h : Heap} : ∀ {w w' : List Cell} {us : List Value}, Paired (fun c u => ICell h c u) w us → Paired (fun c u => ICell h c u) w' us → w = w'
  | [], _, _, x, y => by cases x; cases y; rfl
  | c :: w, _, _, x, y => by
    cases x with
    | cons a b => cases y with
      | cons a' b' => rw [pair_uniq a a', cells_uniq b b']
theorem way_uniq {h : Heap} {w w' : List Cell} {v : Value} (x : IWay h w v) (y : IWay h w' v) : w = w' := by
  obtain ⟨a, o, us, n, e, ho, hc, hd, hp⟩ := x
  obtain ⟨a', o', us', n', e', ho', hc', hd', hp'⟩ := y
  subst e
  cases e'
  rw [ho] at ho'
  cases ho'
  rw [hd] at hd'
  have e2 : us = us' := by
    injection hd' with h1 _
    simpa using congrArg Array.toList h1
  subst e2
  exact cells_uniq hp hp'
theorem cells_of {P : Program} {w : World} {H : Hp} {h : Heap} (ok : HOk P w H h) : ∀ {cs : List Cell} {vs : List V} {us : List Value}, NKs H (cs.map ck) vs → Vals vs us → Paired (fun c u => ICell h c u) cs us
  | [], _, _, x, r => by cases x; cases r; exact .nil
  | c :: cs, _, _, x, r => by
    cases x with
    | cons a b => cases r with
      | cons r1 r2 => exact .cons (ICell.of ok a r1) (cells_of ok b r2)
theorem IWay.of {P : Program} {w : World} {H : Hp} {h : Heap} (ok : HOk P w H h) {cs : List Cell} {v : V} {u : Value} (n : NK H (csk cs) v) (r : RelV v u) : IWay h cs u := by
  obtain ⟨t, xs, rfl, e, a⟩ := n.seq
  cases r
  obtain ⟨_, its, rv, o, ho, hc, m, hd⟩ := (show ObjOk P w H h t (.tup xs) from ok t _ e)
  exact ⟨t, o, its, m, rfl, ho, hc, hd, cells_of ok a rv⟩
theorem IWay.keep {h h' : Heap} {c : List Cell} {v : Value} (x : IWay h c v) (k : ∀ b o, h.get? b = some o → h'.get? b = some o) : IWay h' c v := by
  obtain ⟨a, o, us, n, e, ho, hc, hd, hp⟩ := x
  exact ⟨a, o, us, n, e, k _ _ ho, hc, hd, Paired.mapP hp fun _ _ z => z.keep k⟩
section
variable {prog : Program} {w : World} {A : Around} {s : Shared}
theorem way_lex {Q : Bool → Shared → Prop} (hu : A.units + 20 < cLine) : ∀ (w1 w2 : List Cell) (us vs : List Value) (i : Nat) (fin : Bool), Paired (fun c u => ICell s.heap c u) w1 us → Paired (fun c u => ICell s.heap c u) w2 vs → fin = decide (w1.length < w2.length) → Q (Mow.wlt w1 w2) s →
    PySem.W.KatLex prog w A false fin Q (us.zip vs) i s
  | [], [], _, _, i, fin, x, y, hf, h => by
    cases x; cases y
    subst hf
    exact PySem.W.kat_nil h
  | [], d :: w2, _, _, i, fin, x, y, hf, h => by
    cases x
    subst hf
    exact PySem.W.kat_nil (by simpa [Mow.wlt] using h)
  | c :: w1, [], _, _, i, fin, x, y, hf, h => by
    cases y
    subst hf
    rw [List.zip_nil_right]
    exact PySem.W.kat_nil (by simpa [Mow.wlt] using h)
  | c :: w1, d :: w2, _, _, i, fin, x, y, hf, h => by
    cases x with
    | @cons _ u _ us a1 b1 => cases y with
      | @cons _ v _ vs a2 b2 =>
        rw [List.zip_cons_cons]
        have hd1 := ck_dep c
        refine PySem.W.kat_cons (eqAt_key (ck c) (ck d) A s u v a1.nk a2.nk (by rw [hd1]; have := Nat.min_le_left 1 (ck d).depth; omega) prog w _ _ ?_)
        unfold Mow.wlt at h
        refine PySem.W.kat_go (fun e => ?_) (fun e => ?_)
        · have e' : c = d := ck_inj (NestedKey.eq_of_beq _ _ e)
          rw [if_pos e'] at h
          exact PySem.W.kat_yes (way_lex hu w1 w2 us vs (i + 1) fin b1 b2 (by rw [hf]; simp) h)
        · have e' : ¬ c = d := fun q => by rw [q, NestedKey.beq_self] at e; cases e
          rw [if_neg e'] at h
          exact PySem.W.kat_no (PySem.W.kat_one u v (cell_lt (by omega) a1 a2 h))
theorem way_cmp {w1 w2 : List Cell} {v u : Value} (hu : A.units + 20 < cLine) (x : IWay s.heap w1 v) (y : IWay s.heap w2 u) : wpAny (model prog w) A (keyLt' (tuples' false) v u) (fun r s' => s' = s ∧ r = Mow.wlt w1 w2) (fun _ _ => False) s := by
  obtain ⟨a, o, us, n, e, ho, hc, hd, hp⟩ := x
  obtain ⟨a', o', us', n', e', ho', hc', hd', hp'⟩ := y
  subst e e'
  refine PySem.W.kat_lt ho hd ho' hd' ?_
  have l1 : us.length = w1.length := (Paired.length hp).symm
  have l2 : us'.length = w2.length := (Paired.length hp').symm
  have q := way_lex (prog := prog) (w := w) (Q := fun r s' => s' = s ∧ r = Mow.wlt w1 w2) hu w1 w2 us us' 0 (decide (w1.length < w2.length)) hp hp' rfl ⟨rfl, rfl⟩
  simpa [l1, l2] using q
theorem way_firsts {h : Heap} : ∀ {vs : List Value}, (∀ v ∈ vs, ∃ x : List Cell, x ≠ [] ∧ IWay h x v) → ∃ fs : List Value, PySem.W.KatTups h vs fs ∧ fs.length = vs.length ∧ ∀ f ∈ fs, ∃ c, ICell h c f
  | [], _ => ⟨[], PySem.W.KatTups.nil, rfl, fun _ hm => by simp at hm⟩
  | v :: vs, hp => by
    obtain ⟨fs, h1, h2, h3⟩ := way_firsts (vs := vs) fun v' hm => hp v' (List.mem_cons_of_mem _ hm)
    obtain ⟨x, hx, a, o, us, n, e, ho, hc, hd, hpr⟩ := hp v List.mem_cons_self
    subst e
    cases hpr with
    | nil => exact absurd rfl hx
    | @cons c u w us a b =>
      refine ⟨u :: fs, PySem.W.KatTups.cons ho hc hd (by simp) h1, by rw [List.length_cons, List.length_cons, h2], fun f hm => ?_⟩
      rcases List.mem_cons.mp hm with q | q
      · exact ⟨c, q ▸ a⟩
      · exact h3 f q
theorem way_kind {vs : List Value} {Q : SortKind → Shared → Prop} {E : Value → Shared → Prop} (h2 : 2 ≤ vs.length) (hx : ∀ v ∈ vs, ∃ x : List Cell, x ≠ [] ∧ IWay s.heap x v) (hq : Q (tuples' false) s) : wpAny (model prog w) A (keyKind' vs.toArray) Q E s := by
  obtain ⟨fs, h1, h3, h4⟩ := way_firsts hx
  refine PySem.W.kat_kind (T := .type "tuple") h1 (by omega) (fun f hm => ?_) (by rfl) ?_
  · obtain ⟨c, a, o, t, u, n, e, ho, hc, hd⟩ := h4 f hm
    subst e
    rw [← hc]
    exact (PySem.W.Looks.ld ho).andThen .now
  · have e : (Value.type "tuple" != Value.type "tuple") = false := by first | decide +kernel | rfl | decide
    rw [e]; exact hq
end
def wayO : Ordd (List Cell) where
  is := IWay
  lt := Mow.wlt
  κ := tuples' false
  ok := fun w => w ≠ []
  asym := fun _ _ => Mow.wlt_asym
  split := fun _ _ _ => Mow.wlt_split
  inj := way_uniq
  keep := IWay.keep
  ref := fun x => let ⟨a, _, _, _, e, _⟩ := x; ⟨a, e⟩
  cmp := fun hu x y => way_cmp hu x y
  kind := fun h2 hx hq => way_kind h2 hx hq

/-! ### as rules -/
theorem collect_tup {prog : Program} {w : World} {A : Around} {E : Value → Shared → Prop} {s : Shared} {l : Addr} {vs : List Value} {Q : List Value → Shared → Prop} (hl : IsTup s.heap l vs.toArray)
    (h : ∀ h' tk, (∀ b o, s.heap.get? b = some o → h'.get? b = some o) → Q vs { s with heap := h', toks := tk }) (hsz : vs.length ≤ sizeLine) : wpAny (model prog w) A (collect (.ref l)) Q E s := by
  obtain ⟨o, ho, hc, n, hd⟩ := id hl
  unfold collect
  refine wpAny_bind (wpAny_runValue (codeAny_builtin entry_proto_collect' ?_))
  show wpAny _ _ (do again (.builtin "list.__iadd__" ⟨[← newList [], .ref l], []⟩)) _ _ s
  refine wpAny_bind (wpAny_newList (wpAny_pure ⟨Code.quiet_builtin _ (by decide +kernel), codeAny_builtin entry_list_iadd' ?_⟩))
  show wpAny _ _ (Builtin.List.listExtendWith (.ref s.heap.objs.size) (.ref l) (.ref s.heap.objs.size)) _ _ { s with heap := s.heap.push (seqObj "list" #[] 0) }
  unfold Builtin.List.listExtendWith
  have ho' : (s.heap.push (seqObj "list" #[] 0)).get? l = some o := Heap.get?_push_of_some _ ho
  refine wpAny_bind (wpAny_typeOf (T := "tuple") ⟨o, ho', hc⟩ ?_)
  have ht : (Value.type "tuple" == Value.type "tuple") = true := by rfl
  rw [if_pos (by rw [ht]; simp)]
  refine wpAny_bind (listItems_at ho' hd ?_)
  refine wpAny_bind (listItems_at (xs := #[]) (n := 0) (Heap.get?_push_size _ rfl) rfl ?_)
  rw [if_neg (by simp)]
  refine wpAny_bind (listUpdate_at (xs := #[]) (n := 0) (Heap.get?_push_size _ rfl) rfl ?_ (Nat.zero_le _) (by show (#[] ++ vs.toArray).size ≤ sizeLine + 1; simp only [Array.size_append, List.size_toArray, List.length_nil]; omega))
  refine wpAny_pure ?_
  refine wpAny_bind (wpAny_load (get?_update_seq (Heap.get?_push_size _ rfl) _) ?_)
  show wpAny _ _ (pure ((#[] : Array Value) ++ vs.toArray).toList) Q E _
  rw [show ((#[] : Array Value) ++ vs.toArray).toList = vs by simp]
  refine wpAny_pure (h _ s.toks fun b ob e => ?_)
  rw [Heap.get?_update_ne _ _ _ _ (Nat.ne_of_lt (Heap.lt_size e))]
  exact Heap.get?_push_of_some _ e

section
variable {X : Cx} {α : Type} [Inhabited α]
/-- how the layer's keys tell what the order sees -/
structure Lk (O : Ordd α) (f : α → NestedKey) : Prop where
  of : ∀ {P : Program} {w : World} {H : Hp} {h : Heap}, HOk P w H h → ∀ {x : α} {v : V} {u : Value}, NK H (f x) v → RelV v u → O.is h x u
  ref : ∀ x, ∃ ks, f x = .tup ks
theorem cellLk : Lk cellO ck := ⟨fun ok _ _ _ n r => ICell.of ok n r, fun _ => ⟨_, rfl⟩⟩
theorem wayLk : Lk wayO csk := ⟨fun ok _ _ _ n r => IWay.of ok n r, fun _ => ⟨_, rfl⟩⟩
/-- what a sort hands back, at the layer -/
theorem sorted_back {O : Ordd α} {f : α → NestedKey} (L : Lk O f) {H : Hp} {h h' : Heap} {P : Program} {w : World} (ok : HOk P w H h) {xsV : List V} {xs : List α} {vs out : List Value} {ys : List α} (n : NKs H (xs.map f) xsV) (rv : Vals xsV vs) (k : ∀ b o, h.get? b = some o → h'.get? b = some o)
    (hm : ∀ v ∈ out, v ∈ vs) (hl : out.length = ys.length) (ho : ∀ (i : Nat) (v : Value) (y : α), out[i]? = some v → ys[i]? = some y → O.is h' y v) : ∃ outV, Vals outV out ∧ NKs H (ys.map f) outV := by
  induction out generalizing ys with
  | nil =>
    cases ys with
    | nil => exact ⟨[], .nil, .nil⟩
    | cons _ _ => simp at hl
  | cons v out ih =>
    cases ys with
    | nil => simp at hl
    | cons y ys =>
      obtain ⟨outV, r1, r2⟩ := ih (fun z hz => hm z (List.mem_cons_of_mem _ hz)) (by simpa using hl) fun i z y' hz hy => ho (i + 1) z y' (by simpa using hz) (by simpa using hy)
      obtain ⟨i, hi⟩ := List.mem_iff_getElem?.mp (hm v List.mem_cons_self)
      have hlen := rv.length
      obtain ⟨vV, hvV⟩ := Mow.get_of_lt (l := xsV) (i := i) (by have := Mow.get_lt hi; omega)
      obtain ⟨u, hu, ru⟩ := rv.get hvV
      rw [hi] at hu
      cases hu
      obtain ⟨x, hx, nx⟩ := n.getm hvV
      have e := O.inj (O.keep (L.of ok nx ru) k) (ho 0 v y rfl rfl)
      subst e
      exact ⟨vV :: outV, .cons ru r1, .cons nx r2⟩
theorem sorted_end {O : Ordd α} {f : α → NestedKey} (L : Lk O f) {pins : List (Addr × Obj)} {s : Shared} {σ : L2.St} {H : Hp} {Q : VK} {r : Addr} {xsV : List V} {xs : List α} {vs : List Value} (I : Inv X pins σ H s) (hu : X.A.units + 60 < cLine) (n : NKs H (xs.map f) xsV) (rv : Vals xsV vs) (hz : vs.length ≤ sizeLine)
    (hok : ∀ x ∈ xs, O.ok x)
    (hcol : ∀ (R : List Value → Shared → Prop) (E' : Value → Shared → Prop), (∀ h' tk, (∀ b o, s.heap.get? b = some o → h'.get? b = some o) → R vs { s with heap := h', toks := tk }) → wpAny (model X.prog X.w) X.A.in1 (collect (.ref r)) R E' s)
    (q : ∀ (ys : List α) (outV : List V) (p : Addr), ys.Perm xs → SrtO.Srtd O.lt ys → H p = none → NKs H (ys.map f) outV → Q (.ref p) (upd H p (.lst outV))) :
    wpAny (model X.prog X.w) X.A (call (.builtin "sorted") [.ref r]) (EP X pins σ Q) X.xe s := by
  have hl1 : xsV.length = vs.length := rv.length
  have hl2 : xsV.length = xs.length := n.lenm
  refine sorted_things (xs := xs) O hu hcol hz (by omega) (fun i v x hv hx => ?_) fun h1 h' tk d out ys hpo hp hs hl ho k1 k2 hd ⟨m, hm⟩ => ?_
  · obtain ⟨vV, hvV⟩ := Mow.get_of_lt (l := xsV) (i := i) (by have := Mow.get_lt hv; omega)
    obtain ⟨u, hu, ru⟩ := rv.get hvV
    rw [hv] at hu
    cases hu
    obtain ⟨x', hx', nx⟩ := n.getm hvV
    rw [hx] at hx'
    cases hx'
    exact ⟨hok x (List.mem_of_getElem? hx), L.of I.hok nx ru⟩
  · have k3 : ∀ b o, s.heap.get? b = some o → h'.get? b = some o := fun b o e => k2 b o (k1 b o e)
    have hsub : ∀ v ∈ out, v ∈ vs := fun v hv => hpo.mem_iff.mp hv
    obtain ⟨outV, r1, r2⟩ := sorted_back L I.hok n rv k3 hsub hl ho
    have I1 : Inv X pins σ H { s with heap := h1, toks := tk } := I.kept k1
    have hlen : outV.length ≤ sizeLine := by
      have e1 := r2.lenm
      have e2 := hp.length_eq
      omega
    exact ⟨.ref d, _, I1.laid (o := .lst outV) (t' := tk) k2 hd ⟨hlen, out, m, r1, hm⟩, rfl, q ys outV d hp hs (I1.hok.fresh hd) r2⟩
def rNSort (O : Ordd α) (f : α → NestedKey) : List V → Hp → VK → Prop := fun vs H Q => ∃ (a : Addr) (xsV : List V) (xs : List α), vs = [.ref a] ∧ (H a = some (.lst xsV) ∨ H a = some (.tup xsV)) ∧ NKs H (xs.map f) xsV ∧ (∀ x ∈ xs, O.ok x) ∧
  ∀ (ys : List α) (outV : List V) (p : Addr), ys.Perm xs → SrtO.Srtd O.lt ys → H p = none → NKs H (ys.map f) outV → Q (.ref p) (upd H p (.lst outV))
theorem call_nsort {O : Ordd α} {f : α → NestedKey} (L : Lk O f) (hu : X.A.units + 60 < cLine) : CallR X (.builtin "sorted") (rNSort O f) := by
  intro pins s σ H vs us Q I r ⟨a, xsV, xs, ev, ha, n, hok, q⟩
  subst ev
  obtain ⟨u, rfl, ru⟩ := r.one
  cases ru
  rcases ha with ha | ha
  · obtain ⟨hz, its, m, rv, ho⟩ := (show ObjOk X.prog X.w H s.heap a (.lst xsV) from I.hok a _ ha)
    have hz' : its.length ≤ sizeLine := by rw [← rv.length]; exact hz
    refine sorted_end L I hu n rv hz' hok (fun R E' hr => collect_list (vs := its) ⟨_, ho, rfl, m, rfl⟩ (hr _ s.toks fun b o e => ?_) hz') q
    rw [Heap.get?_update_ne _ _ _ _ (Nat.ne_of_lt (Heap.lt_size e))]
    exact Heap.get?_push_of_some _ e
  · obtain ⟨hz, its, rv, ht⟩ := (show ObjOk X.prog X.w H s.heap a (.tup xsV) from I.hok a _ ha)
    have hz' : its.length ≤ sizeLine := by rw [← rv.length]; exact hz
    exact sorted_end L I hu n rv hz' hok (fun R E' hr => collect_tup (vs := its) ht hr hz') q
end
section
variable {X : Cx}
/-- sorted(d) of a dict whose keys are cells -/
def rNSortD (P : Program) (w : World) : List V → Hp → VK → Prop := fun vs H Q => ∃ (β : Type) (vr : VR β) (d : Addr) (ps : List (Cell × β)), vs = [.ref d] ∧ Dct P w cellR vr H d ps ∧
  ∀ (ys : List Cell) (outV : List V) (p : Addr), ys.Perm (ps.map (·.1)) → SrtO.Srtd Mow.clt ys → H p = none → NKs H (ys.map ck) outV → Q (.ref p) (upd H p (.lst outV))
theorem call_nsortD (hc : X.calm = true) (hu : X.A.units + 60 < cLine) : CallR X (.builtin "sorted") (rNSortD X.prog X.w) := by
  intro pins s σ H vs us Q I r ⟨β, vr, d, ps, ev, D, q⟩
  subst ev
  obtain ⟨u, rfl, ru⟩ := r.one
  cases ru
  obtain ⟨xs, hd, pr, hl⟩ := D.heap I.hok
  obtain ⟨es, ep, hraw, hsz, hent⟩ := hd.raw
  have hpl : ps.length ≤ sizeLine := D.2.1
  -- the keys as they stand
  have key : ∃ xsV, NKs H ((ps.map (·.1)).map ck) xsV ∧ Vals xsV (es.toList.map (·.key)) := by
    have e1 : es.toList.map (·.key) = xs.map fun x => Value.ref x.2.1 := by
      apply List.ext_getElem?
      intro i
      rw [List.getElem?_map, List.getElem?_map, Array.getElem?_toList]
      by_cases q : i < es.size
      · obtain ⟨y, hy, h1, _, _⟩ := hent i q
        rw [Array.getElem?_eq_getElem q, hy]
        exact congrArg some h1
      · rw [Array.getElem?_eq_none (by omega), List.getElem?_eq_none (by omega)]; rfl
    rw [e1]
    clear q D hent hsz hraw hd e1 hl hpl
    induction pr with
    | nil => exact ⟨[], .nil, .nil⟩
    | @cons p x ps xs a _ ih =>
      obtain ⟨xsV, n, rv⟩ := ih
      obtain ⟨_, a2, _⟩ := a
      exact ⟨.ref x.2.1 :: xsV, .cons a2 n, .cons rfl rv⟩
  obtain ⟨xsV, n, rv⟩ := key
  have hn : es.size = ps.length := by omega
  refine sorted_end cellLk I hu n rv (by rw [List.length_map, Array.length_toList]; omega) (fun _ _ => trivial) (fun R E' hr => ?_) q
  refine PySem.W.kdu_collect (A := X.A.in1) (KdlSrc.rawDict (es := es) (ep := ep) D.1) (I.ok.hd hc) hraw (by omega) fun h' tk acc hk hacc => ?_
  have e : acc.toList = es.toList.map (·.key) := by
    apply List.ext_getElem?
    intro i
    rw [List.getElem?_map, Array.getElem?_toList, Array.getElem?_toList]
    by_cases q : i < es.size
    · have hi : i < acc.size := by rw [hacc.1]; exact q
      obtain ⟨hi2, e2⟩ := hacc.2 i acc[i] (Array.getElem?_eq_getElem hi)
      rw [Array.getElem?_eq_getElem hi, Array.getElem?_eq_getElem q, e2]; rfl
    · have h1 := hacc.1
      rw [Array.getElem?_eq_none (by omega), Array.getElem?_eq_none (by omega)]; rfl
  rw [e]
  exact hr h' tk hk

/-! ### < -/
/-- x < y of cells; of ways -/
def rCLt : R2 := fun x y H Q => ∃ c d : Cell, NK H (ck c) x ∧ NK H (ck d) y ∧ Q (.bl (Mow.clt c d)) H
theorem op_clt (hu : X.A.units + 20 < cLine) : OpR X (compareOp .Lt) rCLt := by
  intro pins s σ H x y v u Q I rx ry ⟨c, d, n, m, q⟩
  exact cell_lt (by omega) (ICell.of I.hok n rx) (ICell.of I.hok m ry) ⟨.bl _, H, I, rfl, q⟩
theorem firstLt_wlt (w1 w2 : List Cell) : ∀ (k : Nat), k ≤ min w1.length w2.length → SeqAt.firstLt (fun j => decide (w1[j]? = w2[j]?)) (fun j => Mow.clt (w1.getD j (0, 0)) (w2.getD j (0, 0))) (decide (w1.length < w2.length)) ((List.range (min w1.length w2.length)).drop (min w1.length w2.length - k)) =
    Mow.wlt (w1.drop (min w1.length w2.length - k)) (w2.drop (min w1.length w2.length - k))
  | 0, _ => by
    rw [Nat.sub_zero, List.drop_of_length_le (by simp)]
    show decide (w1.length < w2.length) = _
    by_cases q : w1.length < w2.length
    · rw [decide_eq_true q, List.drop_of_length_le (l := w1) (by omega)]
      cases e : w2.drop (min w1.length w2.length) with
      | nil =>
        have := congrArg List.length e
        rw [List.length_drop, List.length_nil] at this
        omega
      | cons _ _ => rfl
    · rw [decide_eq_false q, List.drop_of_length_le (l := w2) (by omega)]
      cases w1.drop (min w1.length w2.length) <;> rfl
  | k + 1, h => by
    have ih := firstLt_wlt w1 w2 k (by omega)
    generalize hm : min w1.length w2.length = m at *
    have hi : m - (k + 1) < m := by omega
    have h1 : m - (k + 1) < w1.length := by omega
    have h2 : m - (k + 1) < w2.length := by omega
    have e3 : m - (k + 1) + 1 = m - k := by omega
    have hd : (List.range m).drop (m - (k + 1)) = (m - (k + 1)) :: (List.range m).drop (m - k) := by
      rw [List.drop_eq_getElem_cons (by simpa using hi), e3]; simp
    rw [hd, List.drop_eq_getElem_cons h1, List.drop_eq_getElem_cons h2, e3]
    unfold Mow.wlt
    by_cases e : w1[m - (k + 1)] = w2[m - (k + 1)]
    · rw [if_pos e, SeqAt.firstLt_yes (by rw [List.getElem?_eq_getElem h1, List.getElem?_eq_getElem h2, e]; simp)]
      exact ih
    · rw [if_neg e, SeqAt.firstLt_no (by rw [List.getElem?_eq_getElem h1, List.getElem?_eq_getElem h2]; simpa using e)]
      rw [List.getD_eq_getElem?_getD, List.getD_eq_getElem?_getD, List.getElem?_eq_getElem h1, List.getElem?_eq_getElem h2]; rfl
theorem paired_ix {β γ : Type} {G : β → γ → Prop} {l : List β} {m : List γ} (p : Paired G l m) : ∀ {i : Nat} {x : β} {y : γ}, l[i]? = some x → m[i]? = some y → G x y := by
  induction p with
  | nil => intro i x y e; simp at e
  | cons a _ ih =>
    intro i x y e1 e2
    cases i with
    | zero => simp at e1 e2; subst e1 e2; exact a
    | succ i => exact ih (by simpa using e1) (by simpa using e2)
def rWLt : R2 := fun x y H Q => ∃ c d : List Cell, NK H (csk c) x ∧ NK H (csk d) y ∧ Q (.bl (Mow.wlt c d)) H
theorem op_wlt (hu : X.A.units + 30 < cLine) : OpR X (compareOp .Lt) rWLt := by
  intro pins s σ H x y v u Q I rx ry ⟨c, d, n, m, q⟩
  obtain ⟨a, o, us, k, e, ho, hc, hd, hp⟩ := IWay.of I.hok n rx
  obtain ⟨a', o', us', k', e', ho', hc', hd', hp'⟩ := IWay.of I.hok m ry
  subst e e'
  have l1 : us.length = c.length := (Paired.length hp).symm
  have l2 : us'.length = d.length := (Paired.length hp').symm
  have z := firstLt_wlt c d (min c.length d.length) (Nat.le_refl _)
  rw [Nat.sub_self, List.drop_zero, List.drop_zero, List.drop_zero] at z
  have get1 : ∀ (j : Nat) (h : j < us.toArray.size), ∃ x, c[j]? = some x ∧ ICell s.heap x us.toArray[j] := fun j h => by
    have hj : j < us.length := by simpa using h
    obtain ⟨x, hx⟩ := Mow.get_of_lt (l := c) (i := j) (by omega)
    exact ⟨x, hx, paired_ix hp hx (by simp [hj])⟩
  have get2 : ∀ (j : Nat) (h : j < us'.toArray.size), ∃ x, d[j]? = some x ∧ ICell s.heap x us'.toArray[j] := fun j h => by
    have hj : j < us'.length := by simpa using h
    obtain ⟨x, hx⟩ := Mow.get_of_lt (l := d) (i := j) (by omega)
    exact ⟨x, hx, paired_ix hp' hx (by simp [hj])⟩
  have hu1 : X.A.in1.units + 20 < cLine := by rw [Around.in1_units]; omega
  have r := SeqAt.RcLt.tuples (A := X.A) (s := s) (l := a) (b := a') (items := us.toArray) (items2 := us'.toArray) (e := fun j => decide (c[j]? = d[j]?)) (r := fun j => Mow.clt (c.getD j (0, 0)) (d.getD j (0, 0))) ⟨o, ho, hc, k, hd⟩ ⟨o', ho', hc', k', hd'⟩ (by omega)
    (fun j h1 h2 => ?_) (fun j h1 h2 _ => ?_) X.prog X.w X.xe (EP X pins σ Q) ?_
  · exact r
  · obtain ⟨x, hx, ix⟩ := get1 j h1
    obtain ⟨y, hy, iy⟩ := get2 j h2
    have ee := eqAt_key (ck x) (ck y) X.A.in1 s us.toArray[j] us'.toArray[j] ix.nk iy.nk (by rw [ck_dep]; have := Nat.min_le_left 1 (ck y).depth; omega)
    have eb : decide (c[j]? = d[j]?) = NestedKey.beq (ck x) (ck y) := by
      rw [hx, hy, ← NestedKey.decide_eq]
      by_cases q : x = y
      · subst q; simp
      · rw [decide_eq_false (fun z => q (Option.some.inj z)), decide_eq_false (fun z => q (ck_inj z))]
    show SeqAt.EqAt _ _ _ _ (decide (c[j]? = d[j]?))
    rw [eb]; exact ee
  · obtain ⟨x, hx, ix⟩ := get1 j h1
    obtain ⟨y, hy, iy⟩ := get2 j h2
    intro prog w E Q' hq
    refine cell_lt (by omega) ix iy ?_
    have g1 : c.getD j (0, 0) = x := by rw [List.getD_eq_getElem?_getD, hx]; rfl
    have g2 : d.getD j (0, 0) = y := by rw [List.getD_eq_getElem?_getD, hy]; rfl
    rw [g1, g2] at hq
    exact hq
  · have e1 : us.toArray.size = c.length := by simpa using l1
    have e2 : us'.toArray.size = d.length := by simpa using l2
    rw [e1, e2, z]
    exact ⟨.bl _, H, I, rfl, q⟩
end
end MF

set_option autoImplicit false
set_option Elab.async false
set_option linter.all false
set_option maxRecDepth 100000
/-! The text by its places; what the top leaves. -/
namespace MF
open PySem PySem.Spec PyProof.Rows L2
def topM (i : Nat) : Stmt := PySem.Challenge.pw_mowfloor_k36_whole_bars_and_ways.main.body.getD i (.Pass ⟨0, 0, 0, 0⟩)
abbrev sWhole : Stmt := topM 5
abbrev sCell : Stmt := topM 6
abbrev sRising : Stmt := topM 7
abbrev sFloor : Stmt := topM 8
abbrev sBeside : Stmt := topM 9
abbrev sNeigh : Stmt := topM 10
abbrev sNeighAll : Stmt := topM 11
abbrev sPartOf : Stmt := topM 12
abbrev sParts : Stmt := topM 13
abbrev sNear : Stmt := topM 17
abbrev sInit : Stmt := inClass (topM 18) 0
abbrev sDoors : Stmt := inClass (topM 18) 1
abbrev sSearch : Stmt := inClass (topM 18) 2
abbrev sSteps : Stmt := inClass (topM 18) 3
abbrev sTake : Stmt := inClass (topM 18) 4
abbrev sAllWays : Stmt := inClass (topM 18) 5
abbrev sBarred : Stmt := topM 19
abbrev sWalk : Stmt := topM 21
abbrev sBars : Stmt := topM 23
abbrev sApart : Stmt := topM 24
abbrev sShows : Stmt := topM 25
abbrev sLeft : Stmt := topM 27
abbrev sPick : Stmt := topM 28
abbrev sLBeside : Stmt := topM 29
abbrev sLPart : Stmt := topM 30
abbrev sGrown : Stmt := topM 31
abbrev sLField : Stmt := topM 32
abbrev sLApart : Stmt := topM 33
abbrev sTogether : Stmt := topM 34
abbrev sTurned : Stmt := topM 35
abbrev sLaw : Stmt := topM 36

/-- the names that the top leaves built-in, and its numbers -/
structure Tx (mg : Str → Option Value) : Prop where
  isi : mg "isinstance" = none
  int : mg "int" = none
  bool : mg "bool" = none
  tuple : mg "tuple" = none
  len : mg "len" = none
  all : mg "all" = none
  any : mg "any" = none
  zip : mg "zip" = none
  dict : mg "dict" = none
  sorted : mg "sorted" = none
  range : mg "range" = none
  max : mg "max" = none
  min : mg "min" = none
  most : ∃ t, mg "MOST" = some (.int 30 t)
  cin : ∃ t, mg "IN" = some (.int 0 t)
  cout : ∃ t, mg "OUT" = some (.int 1 t)

/-- a def of the top as it stands -/
def FunD (K : PySem.W.Frag) (mg : Str → Option Value) (x : Str) (st : Stmt) (ps : List Str) : Prop := ∃ f fd, mg x = some (.ref f) ∧ Fun K x x st f fd ∧ Binds K fd ps []
/-- a def of the top that keeps its promise -/
structure Dn (P : Program) (w : World) (K : PySem.W.Frag) (mg : Str → Option Value) (base : Heap) (k : Nat) (x : Str) (ps : List Str) (sp : Sp) : Prop where
  ex : ∃ f fd, mg x = some (.ref f) ∧ PySem.W.keepIn K (.ref f) = true ∧ FnOk P w K mg base CX0 k f fd ps sp ∧ Binds K fd ps []
section
variable {P : Program} {w : World} {K : PySem.W.Frag} {mg : Str → Option Value} {base : Heap}
theorem Dn.of {k : Nat} {x : Str} {st : Stmt} {ps : List Str} {sp : Sp} (F : FunD K mg x st ps) (h : ∀ f fd, Fun K x x st f fd → FnOk P w K mg base CX0 k f fd ps sp) : Dn P w K mg base k x ps sp := by
  obtain ⟨f, fd, e, F, b⟩ := F
  exact ⟨f, fd, e, F.kp, h f fd F, b⟩
end
section
variable {X : Cx}
/-- x(e, ..) -/
theorem pe_dn {k : Nat} {x : Str} {ps : List Str} {sp : Sp} {e : Expr} {es : List Expr} {t : TA} {p pos : Pos} (D : Dn X.prog X.w X.K X.mg X.base k x ps sp) (hr : Room k X.A) (hg : Gl X x) (ha : PA X (e :: es) t) (hdb : (x == ("__debug__" : Str)) = false := by decide)
    (he : starEach (e :: es) X.env = (false, eval e X.env) :: starEach es X.env := by rfl) (hpl : (backTo pos (starEach es X.env)).any (·.1) = false := by rfl) : PE X (.Call (.Name x p) (e :: es) [] pos) (tCall sp [] E0 t) := by
  obtain ⟨f, fd, e1, e2, F, b⟩ := D.ex
  exact pe_call F hr hg e1 e2 b .nil pass0 ha hdb he hpl
/-- a number of the top -/
theorem pe_num {x : Str} {i : Int} {pos : Pos} (hg : Gl X x) (hm : ∃ t, X.mg x = some (.int i t)) (hd : (x == ("__debug__" : Str)) = false := by decide) : PE X (.Name x pos) (tC (.int i)) := by
  obtain ⟨t, e⟩ := hm
  exact pe_glob hg e ⟨t, rfl⟩ hd
end

/-! ### is_whole, is_cell, beside -/
section
variable {P : Program} {w : World} {K : PySem.W.Frag} {mg : Str → Option Value} {base : Heap}
theorem scWhole : FnScope ["thing"] ["thing"] (defScope sWhole) := ⟨rfl, rfl, rfl, by decide +kernel, rfl, by decide +kernel, by decide +kernel⟩
def spWhole : Sp := fun vs H Q _ => ∃ i : Int, vs = [.int i] ∧ Q (.bl true) H
theorem ok_whole (T : Tx mg) (F : FunD K mg "is_whole" sWhole ["thing"]) : Dn P w K mg base 1 "is_whole" ["thing"] spWhole := .of F fun f fd F => by
  refine F.ok scWhole (fun vs H Q E h => ?_) (fun cdv A outer s H vs Q E hr h => ?_)
  · obtain ⟨i, rfl, _⟩ := h; rfl
  · obtain ⟨i, rfl, q⟩ := h
    refine ⟨_, pss_one (ps_ret (pe_and (pe_callB call_isi (by rfl) T.isi (by decide +kernel) (pa_cons (pv 0) (pa_cons (pe_bltn (v := .ty "int") (by rfl) T.int (by decide +kernel) rfl) pa_nil)))
      (pe_one (pe_not (pe_callB call_isi (by rfl) T.isi (by decide +kernel) (pa_cons (pv 0) (pa_cons (pe_bltn (v := .ty "bool") (by rfl) T.bool (by decide +kernel) rfl) pa_nil))))))), ?_⟩
    refine ⟨_, rfl, _, _, _, _, true, rfl, .ty "int", .base (.int i), kit_ty (by decide +kernel), true, rfl, iteT ?_⟩
    exact ⟨_, rfl, _, _, _, _, false, rfl, .ty "bool", .base (.int i), kit_ty (by decide +kernel), false, rfl, q⟩
end
end MF

set_option autoImplicit false
set_option Elab.async false
set_option linter.all false
set_option maxRecDepth 100000
set_option maxHeartbeats 1000000
/-! Lists that grow within a comprehension or a loop; small facts of heaps. -/
namespace MF
open PySem PySem.Spec PyProof.Rows L2
theorem same_new {H : Hp} {p : Addr} {o : HO} (h : H p = none) : Same H (upd H p o) := fun b x e => by rw [upd_ne (ne_of_none e h)]; exact e
/-- what is new since H0 may change -/
theorem same_mut {H0 H : Hp} {p : Addr} {o : HO} (h : H0 p = none) (s : Same H0 H) : Same H0 (upd H p o) := fun b x e => by rw [upd_ne (ne_of_none e h)]; exact s b x e
theorem take_snoc {α : Type} {l : List α} {i : Nat} {x : α} (h : l[i]? = some x) : l.take (i + 1) = l.take i ++ [x] := by rw [List.take_add_one, h]; rfl
theorem take_all {α : Type} {l : List α} {n : Nat} (h : l.length ≤ n) : l.take n = l := List.take_of_length_le h
theorem small_line {n : Nat} (h : n ≤ 10000) : n < sizeLine := by rw [sizeLine_eq]; omega
def blV : VR Bool := ⟨fun _ v b => v = .bl b, fun _ _ _ h => h⟩
def pairV {α β : Type} (kr : KR α) (vr : VR β) : VR (α × β) := ⟨fun H v e => PairT kr vr H v e, fun t v e h => by
  obtain ⟨p, k, x, a, b, c, d⟩ := h
  exact ⟨p, k, x, a, t _ _ b, NK.mono t _ _ c, vr.mono t _ _ d⟩⟩
/-- a list at D of such things -/
def LstV {β : Type} (vr : VR β) (H : Hp) (D : Addr) (out : List β) : Prop := ∃ acc, H D = some (.lst acc) ∧ Paired (fun v b => vr.at_ H v b) acc out
section
variable {β : Type} {vr : VR β} {H H' H1 : Hp} {D : Addr} {out : List β}
theorem LstV.mono (L : LstV vr H D out) (t : Tu H H') (e : H' D = H D) : LstV vr H' D out := let ⟨acc, a, p⟩ := L; ⟨acc, e.trans a, Paired.mapP p fun _ _ z => vr.mono t _ _ z⟩
theorem LstV.same (L : LstV vr H D out) (s : Same H H') : LstV vr H' D out := let ⟨acc, a, p⟩ := L; ⟨acc, s _ _ a, Paired.mapP p fun _ _ z => vr.mono (Tu.of s) _ _ z⟩
theorem LstV.start (H : Hp) (D : Addr) : LstV vr (upd H D (.lst [])) D [] := ⟨[], upd_same, .nil⟩
theorem LstV.len (L : LstV vr H D out) {acc : List V} (h : H D = some (.lst acc)) : acc.length = out.length := by
  obtain ⟨acc', a, p⟩ := L
  rw [h] at a
  cases a
  exact Paired.length p
theorem LstV.push (L : LstV vr H D out) (s : Same H H') {y : V} {b : β} (hy : vr.at_ H' y b) (hl : out.length ≤ 10000) : ∃ acc, H' D = some (.lst acc) ∧ acc.length < sizeLine ∧ LstV vr (upd H' D (.lst (acc ++ [y]))) D (out ++ [b]) := by
  obtain ⟨acc, a, p⟩ := L
  have e := s _ _ a
  have t : Tu H' (upd H' D (.lst (acc ++ [y]))) := Tu.mut e fun _ z => by cases z
  refine ⟨acc, e, by rw [Paired.length p]; exact small_line hl, acc ++ [y], upd_same, ?_⟩
  exact Paired.snoc (Paired.mapP p fun _ _ z => vr.mono t _ _ (vr.mono (Tu.of s) _ _ z)) (vr.mono t _ _ hy)
theorem LstV.get (L : LstV vr H D out) {acc : List V} (h : H D = some (.lst acc)) : Paired (fun v b => vr.at_ H v b) acc out := by
  obtain ⟨acc', a, p⟩ := L
  rw [h] at a
  cases a
  exact p
end
theorem nks_paired {β : Type} {f : β → NestedKey} {H : Hp} : ∀ {acc : List V} {out : List β}, Paired (fun v b => (nkV f).at_ H v b) acc out → NKs H (out.map f) acc
  | _, _, .nil => .nil
  | _, _, .cons a b => .cons a (nks_paired b)
theorem paired_nks {β : Type} {f : β → NestedKey} {H : Hp} : ∀ {out : List β} {acc : List V}, NKs H (out.map f) acc → Paired (fun v b => (nkV f).at_ H v b) acc out
  | [], _, x => by cases x; exact .nil
  | _ :: out, _, x => by
    cases x with
    | cons a b => exact .cons a (paired_nks b)
theorem LstV.nks {β : Type} {f : β → NestedKey} {H : Hp} {D : Addr} {out : List β} (L : LstV (nkV f) H D out) : ∃ acc, H D = some (.lst acc) ∧ NKs H (out.map f) acc := let ⟨acc, a, p⟩ := L; ⟨acc, a, nks_paired p⟩
theorem LstV.of_nks {β : Type} {f : β → NestedKey} {H : Hp} {D : Addr} {out : List β} {acc : List V} (a : H D = some (.lst acc)) (n : NKs H (out.map f) acc) : LstV (nkV f) H D out := ⟨acc, a, paired_nks n⟩
theorem bls_eq {H : Hp} : ∀ {acc : List V} {out : List Bool}, Paired (fun v b => blV.at_ H v b) acc out → acc = out.map V.bl
  | _, _, .nil => rfl
  | _, _, .cons a b => by rw [List.map_cons, ← bls_eq b]; exact congrArg (· :: _) a
theorem LstV.bls {H : Hp} {D : Addr} {out : List Bool} (L : LstV blV H D out) : H D = some (.lst (out.map V.bl)) := let ⟨acc, a, p⟩ := L; by rw [a, bls_eq p]
theorem nk_tuple {H : Hp} {l : Addr} {ks : List NestedKey} {acc : List V} (h : H l = none) (n : NKs H ks acc) : NK (upd H l (.tup acc)) (.tup ks) (.ref l) := .tup upd_same (NKs.mono (Tu.new h) _ _ n)
theorem NKs.tu {H H' : Hp} (t : Tu H H') {ks : List NestedKey} {vs : List V} (x : NKs H ks vs) : NKs H' ks vs := NKs.mono t _ _ x
theorem NK.tu {H H' : Hp} (t : Tu H H') {k : NestedKey} {v : V} (x : NK H k v) : NK H' k v := NK.mono t _ _ x
theorem NK.same {H H' : Hp} (s : Same H H') {k : NestedKey} {v : V} (x : NK H k v) : NK H' k v := NK.mono (Tu.of s) _ _ x
theorem room20 {k : Nat} {A : Around} (hr : Room k A) : A.units + 20 < cLine := by have := hr.un; omega
theorem room30 {k : Nat} {A : Around} (hr : Room k A) : A.units + 30 < cLine := by have := hr.un; omega
theorem room60 {k : Nat} {A : Around} (hr : Room k A) : A.units + 60 < cLine := by have := hr.un; omega
theorem room65 {k : Nat} {A : Around} (hr : Room k A) : A.units + 65 < cLine := by have := hr.un; omega
/-- the neighbours on a floor -/
def nbF (F : List Cell) (c : Cell) : List Cell := (Mow.nb c).filter fun x => decide (x ∈ F)
theorem mem_nbF {F : List Cell} {c x : Cell} : x ∈ nbF F c ↔ x ∈ Mow.nb c ∧ x ∈ F := by unfold nbF; rw [List.mem_filter, decide_eq_true_eq]
theorem nbF_len (F : List Cell) (c : Cell) : (nbF F c).length ≤ 4 := by
  have := List.length_filter_le (fun x => decide (x ∈ F)) (Mow.nb c)
  rw [Mow.nb_length] at this
  exact this
/-- in range -/
def InR (c : Cell) : Prop := 0 ≤ c.1 ∧ c.1 ≤ 30 ∧ 0 ≤ c.2 ∧ c.2 ≤ 30
/-- no test in a comprehension -/
theorem t_yes {σ : L2.St} {H : Hp} {A B : Hp → Prop} (h : A H) : tYes σ H (fun b H3 => if b = true then A H3 else B H3) := by
  show if true = true then A H else B H
  rw [if_pos rfl]; exact h
/-- a test in a comprehension, in an if -/
theorem t_ite {A B : Prop} {c : Bool} (h1 : c = true → A) (h2 : c = false → B) : if c = true then A else B := by
  cases c with
  | true => rw [if_pos rfl]; exact h1 rfl
  | false => rw [if_neg Bool.false_ne_true]; exact h2 rfl
/-! ### the rules that name the program and the world, for use within a comprehension's block -/
section
variable {X : Cx}
theorem op_ndinC (P : Program) (w : World) (hP : X.prog = P) (hw : X.w = w) (hu : X.A.units + 20 < cLine) : OpR X (compareOp .In) (rNDIn P w false) := by
  subst hP hw
  exact op_ndin hu
theorem op_ndninC (P : Program) (w : World) (hP : X.prog = P) (hw : X.w = w) (hu : X.A.units + 20 < cLine) : OpR X (compareOp .NotIn) (rNDIn P w true) := by
  subst hP hw
  exact op_ndnin hu
theorem pe_ngetC (P : Program) (w : World) (hP : X.prog = P) (hw : X.w = w) {o i : Expr} {td ty : TE} {pos : Pos} (hu : X.A.units + 20 < cLine) (ho : PE X o td) (hi : PE X i ty) (hs : NoSl i) : PE X (.Subscript o i pos) (tNGet P w td ty) := by
  subst hP hw
  exact pe_nget hu ho hi hs
theorem pi_nkeysC (P : Program) (w : World) (hP : X.prog = P) (hw : X.w = w) {tg e : Expr} {td : TE} (he : PE X e td) : PI X tg e (iNKeys P w td) := by
  subst hP hw
  exact pi_nkeys he
theorem call_ndictC (P : Program) (w : World) (hP : X.prog = P) (hw : X.w = w) (hc : X.calm = true) (hu : X.A.units + 20 < cLine) : CallR X (.type "dict") (rNDictOf P w) := by
  subst hP hw
  exact call_ndict hc hu
/-- the same of a call of a def of the top -/
theorem pe_dnC {P : Program} {w : World} {K : PySem.W.Frag} {mg : Str → Option Value} {base : Heap} (hP : X.prog = P) (hw : X.w = w) (hK : X.K = K) (hm : X.mg = mg) (hb : X.base = base) {k : Nat} {x : Str} {ps : List Str} {sp : Sp} {e : Expr} {es : List Expr} {t : TA} {p pos : Pos} (D : Dn P w K mg base k x ps sp)
    (hr : Room k X.A) (hg : Gl X x) (ha : PA X (e :: es) t) (hdb : (x == ("__debug__" : Str)) = false := by decide)
    (he : starEach (e :: es) X.env = (false, eval e X.env) :: starEach es X.env := by rfl) (hpl : (backTo pos (starEach es X.env)).any (·.1) = false := by rfl) : PE X (.Call (.Name x p) (e :: es) [] pos) (tCall sp [] E0 t) := by
  subst hP hw hK hm hb
  exact pe_dn D hr hg ha hdb he hpl
theorem pi_tupC (K : PySem.W.Frag) (hK : X.K = K) {tg l : Expr} {tl : TE} (hl : PE X l tl) : PI X tg l (iTup K tl) := by
  subst hK
  exact pi_tup hl
theorem pi_listC (K : PySem.W.Frag) (hK : X.K = K) {tg l : Expr} {tl : TE} (hl : PE X l tl) : PI X tg l (iList K tl) := by
  subst hK
  exact pi_list hl
theorem pg_tupC (K : PySem.W.Frag) (hK : X.K = K) {es : List Expr} {k : Nat} {t : TGs} {n : Nat} {pos : Pos} (hc : X.calm = true) (h : PGs X es t) (hn : (assignEach es X.env).length = n := by rfl) (hst : (assignEach es X.env).findIdx? (·.1) = none := by rfl) : PG X (.Tuple es k pos) (gTup K n t) := by
  subst hK
  exact pg_tup hc h hn hst
theorem pe_fldC (K : PySem.W.Frag) (hK : X.K = K) {e : Expr} {f : Str} {pos : Pos} {ta : TE} (he : PE X e ta) (hb : attributeBase e f X.env (eval e X.env) = eval e X.env) : PE X (.Attribute e f pos) (tFld K ta f) := by
  subst hK
  exact pe_fld he hb
theorem ix_tupC (K : PySem.W.Frag) (hK : X.K = K) : IxR X (rIxT K) := by
  subst hK
  exact ix_tup
theorem ix_listC (K : PySem.W.Frag) (hK : X.K = K) : IxR X (rIxL K) := by
  subst hK
  exact ix_list
theorem call_lenC (K : PySem.W.Frag) (hK : X.K = K) : CallR X (.builtin "len") (fun xs H Q => ∃ p ys, xs = [.ref p] ∧ (SqL K H p ys ∨ SqT K H p ys) ∧ Q (.int ys.length) H) := by
  subst hK
  exact call_len_seq
/-- tuple(l), l a list -/
theorem call_tupL : CallR X (.type "tuple") (fun xs H Q => ∃ p ys, xs = [.ref p] ∧ H p = some (.lst ys) ∧ ∀ l, H l = none → Q (.ref l) (upd H l (.tup ys))) := by
  intro pins s σ H xs us Q I r ⟨p, ys, e, h, q⟩
  exact call_tuple_of pins s σ H xs us Q I r ⟨p, ys, e, .inl ⟨SqL.of h, q⟩⟩
end
end MF

set_option autoImplicit false
set_option Elab.async false
set_option linter.all false
set_option maxRecDepth 100000
set_option maxHeartbeats 4000000
/-! Walks: is_cell, beside, neighbours. -/
namespace MF
open PySem PySem.Spec PyProof.Rows L2
section
variable {P : Program} {w : World} {K : PySem.W.Frag} {mg : Str → Option Value} {base : Heap}
theorem scCell : FnScope ["thing"] ["thing"] (defScope sCell) := ⟨rfl, rfl, rfl, by decide +kernel, rfl, by decide +kernel, by decide +kernel⟩
/-- a cell in range -/
def spCell : Sp := fun vs H Q _ => ∃ (v : V) (c : Cell), vs = [v] ∧ NK H (ck c) v ∧ InR c ∧ Q (.bl true) H
theorem ok_cell (T : Tx mg) (D1 : Dn P w K mg base 1 "is_whole" ["thing"] spWhole) (F : FunD K mg "is_cell" sCell ["thing"]) : Dn P w K mg base 2 "is_cell" ["thing"] spCell := .of F fun f fd F => by
  refine F.ok scCell (fun vs H Q E h => ?_) (fun cdv A outer s H vs Q E hr h => ?_)
  · obtain ⟨v, c, rfl, _⟩ := h; rfl
  · obtain ⟨v, c, rfl, n, ⟨r1, r2, r3, r4⟩, q⟩ := h
    obtain ⟨t, rfl, e⟩ := n.cell
    refine ⟨_, pss_cons (ps_if (PW.pt (pw_or (pt_not (pt_val (pe_callB call_isi (by rfl) T.isi (by decide +kernel) (pa_cons (pv 0) (pa_cons (pe_bltn (v := .ty "tuple") (by rfl) T.tuple (by decide +kernel) rfl) pa_nil)))))
      (pw_or (pt_cmpR op_ne (pe_callB call_len_seq (by rfl) T.len PySem.boot_len (pa_cons (pv 0) pa_nil)) pe_int (nomark _))
      (pw_or (pt_not (pt_val (pe_dn D1 hr (by rfl) (pa_cons (pe_ix ix_tup (pv 0) pe_int (fun _ _ => rfl)) pa_nil))))
      (pw_or1 (pt_not (pt_val (pe_dn D1 hr (by rfl) (pa_cons (pe_ix ix_tup (pv 0) pe_int (fun _ _ => rfl)) pa_nil)))))))))
      (pss_one (ps_ret pe_bl)) pss_nil)
      (pss_one (ps_ret (pe_and (pe_chain op_le op_le pe_int (pe_ix ix_tup (pv 0) pe_int (fun _ _ => rfl)) (pe_num (by rfl) T.most)) (pe_one (pe_chain op_le op_le pe_int (pe_ix ix_tup (pv 0) pe_int (fun _ _ => rfl)) (pe_num (by rfl) T.most)))))), ?_⟩
    refine ⟨_, rfl, _, _, _, _, true, rfl, .ty "tuple", .base (.tup e), kit_ty (by decide +kernel), true, rfl, iteF ?_⟩
    refine ⟨_, rfl, t, _, rfl, .inr (SqT.of e), rfl, _, rfl, iteF ?_⟩
    refine ⟨_, rfl, t, _, 0, .int c.1, rfl, rfl, SqT.of e, rfl, c.1, rfl, true, rfl, iteF ?_⟩
    refine ⟨_, rfl, t, _, 1, .int c.2, rfl, rfl, SqT.of e, rfl, c.2, rfl, true, rfl, iteF ?_⟩
    refine ⟨_, rfl, t, _, 0, .int c.1, rfl, rfl, SqT.of e, rfl, _, _, rfl, rfl, _, rfl, ?_⟩
    rw [decide_eq_true r1]
    refine iteT ⟨_, _, rfl, rfl, _, rfl, ?_⟩
    rw [decide_eq_true r2]
    refine iteT ⟨_, rfl, t, _, 1, .int c.2, rfl, rfl, SqT.of e, rfl, _, _, rfl, rfl, _, rfl, ?_⟩
    rw [decide_eq_true r3]
    refine iteT ⟨_, _, rfl, rfl, ?_⟩
    show Q (.bl (decide (c.2 ≤ 30))) H
    rw [decide_eq_true r4]
    exact q

theorem scBeside : FnScope ["cell", "row", "column"] ["cell"] (defScope sBeside) := ⟨rfl, rfl, rfl, by decide +kernel, rfl, by decide +kernel, by decide +kernel⟩
def spBeside : Sp := fun vs H Q _ => ∃ (v : V) (c : Cell), vs = [v] ∧ NK H (ck c) v ∧ ∀ H' t xs, Same H H' → H' t = some (.tup xs) → NKs H' ((Mow.nb c).map ck) xs → Q (.ref t) H'
theorem ok_beside (F : FunD K mg "beside" sBeside ["cell"]) : Dn P w K mg base 1 "beside" ["cell"] spBeside := .of F fun f fd F => by
  refine F.ok scBeside (fun vs H Q E h => ?_) (fun cdv A outer s H vs Q E hr h => ?_)
  · obtain ⟨v, c, rfl, _⟩ := h; rfl
  · obtain ⟨v, c, rfl, n, q⟩ := h
    obtain ⟨t, rfl, e⟩ := n.cell
    refine ⟨_, pss_cons (ps_asg (pv 0) (pg_tup rfl (pgs_cons (pg_name (i := 1) scBeside.nd rfl (.inl rfl)) (pgs_cons (pg_name (i := 2) scBeside.nd rfl (.inl rfl)) pgs_nil))))
      (pss_one (ps_ret (pe_tup (pa_cons (pe_tup (pa_cons (pe_op op_sub (pv 1) pe_int) (pa_cons (pv 2) pa_nil))) (pa_cons (pe_tup (pa_cons (pv 1) (pa_cons (pe_op op_sub (pv 2) pe_int) pa_nil)))
        (pa_cons (pe_tup (pa_cons (pv 1) (pa_cons (pe_op op_add (pv 2) pe_int) pa_nil))) (pa_cons (pe_tup (pa_cons (pe_op op_add (pv 1) pe_int) (pa_cons (pv 2) pa_nil))) pa_nil))))))), ?_⟩
    refine ⟨_, rfl, t, _, rfl, SqT.of e, rfl, _, _, rfl, _, _, rfl, rfl, ?_⟩
    refine ⟨_, rfl, _, _, rfl, rfl, _, rfl, by show 2 ≤ sizeLine; decide, fun t1 n1 => ?_⟩
    refine ⟨_, rfl, _, rfl, _, _, rfl, rfl, by show 2 ≤ sizeLine; decide, fun t2 n2 => ?_⟩
    refine ⟨_, rfl, _, rfl, _, _, rfl, rfl, by show 2 ≤ sizeLine; decide, fun t3 n3 => ?_⟩
    refine ⟨_, rfl, _, _, rfl, rfl, _, rfl, by show 2 ≤ sizeLine; decide, fun t4 n4 => ?_⟩
    refine ⟨by show 4 ≤ sizeLine; decide, fun p np => ?_⟩
    have s1 := same_new (o := .tup [.int (c.1 - 1), .int c.2]) n1
    have s2 := same_new (o := .tup [.int c.1, .int (c.2 - 1)]) n2
    have s3 := same_new (o := .tup [.int c.1, .int (c.2 + 1)]) n3
    have s4 := same_new (o := .tup [.int (c.1 + 1), .int c.2]) n4
    have s5 := same_new (o := .tup [.ref t1, .ref t2, .ref t3, .ref t4]) np
    refine q _ p _ (((s1.trans s2).trans (s3.trans s4)).trans s5) upd_same ?_
    refine .cons ?_ (.cons ?_ (.cons ?_ (.cons ?_ .nil)))
    · exact NK.mk_cell (s5 _ _ (s4 _ _ (s3 _ _ (s2 _ _ upd_same))))
    · exact NK.mk_cell (s5 _ _ (s4 _ _ (s3 _ _ upd_same)))
    · exact NK.mk_cell (s5 _ _ (s4 _ _ upd_same))
    · exact NK.mk_cell (s5 _ _ upd_same)

theorem scNeigh : FnScope ["floor", "cell", "one"] ["floor", "cell"] (defScope sNeigh) := ⟨rfl, rfl, rfl, by decide +kernel, rfl, by decide +kernel, by decide +kernel⟩
def spNeigh : Sp := fun vs H Q _ => ∃ (vf vc : V) (Fl : List Cell) (c : Cell), vs = [vf, vc] ∧ NK H (csk Fl) vf ∧ NK H (ck c) vc ∧ ∀ H' v, Same H H' → NK H' (csk (nbF Fl c)) v → Q v H'
theorem filt_snoc {α : Type} {l : List α} {p : α → Bool} {i : Nat} {x : α} (h : l[i]? = some x) : (l.take (i + 1)).filter p = (l.take i).filter p ++ (if p x = true then [x] else []) := by
  rw [take_snoc h, List.filter_append]
  by_cases e : p x = true
  · rw [if_pos e, List.filter_cons_of_pos e]; rfl
  · rw [if_neg e, List.filter_cons_of_neg e]; rfl
theorem ok_neigh (T : Tx mg) (D1 : Dn P w K mg base 1 "beside" ["cell"] spBeside) (F : FunD K mg "neighbours" sNeigh ["floor", "cell"]) : Dn P w K mg base 2 "neighbours" ["floor", "cell"] spNeigh := .of F fun f fd F => by
  refine F.ok scNeigh (fun vs H Q E h => ?_) (fun cdv A outer s H vs Q E hr h => ?_)
  · obtain ⟨vf, vc, Fl, c, rfl, _⟩ := h; rfl
  · obtain ⟨vf, vc, Fl, c, rfl, nf, nc, q⟩ := h
    refine ⟨_, pss_one (ps_ret (pe_callTy call_tupL (by rfl) T.tuple (by decide +kernel) (pa_cons
      (pe_lc (own := [("one", 2)]) (g := gName 2) rfl scNeigh.nd (pi_tup (pe_dn D1 hr (by rfl) (pa_cons (pv 1) pa_nil))) (blkOk_by (N := ["floor", "cell", "one"]) (sc := defScope sNeigh) (by decide +kernel))
        (fun _ _ _ _ _ => pg_name (i := 2) scNeigh.nd rfl (Or.inl rfl)) (fun _ _ _ _ _ => pts_one (pt_cmpR (op_nin (room65 hr)) (pv 2) (pv 0) rfl)) (fun _ _ _ _ _ => pv 2)) pa_nil))), ?_⟩
    refine ⟨vc, rfl, vc, c, rfl, nc, fun H1 t xs s1 e1 n1 => ⟨t, rfl, ⟨_, SqT.of e1⟩, fun D hD => ?_⟩⟩
    have hl : xs.length = 4 := by rw [n1.length, List.length_map, Mow.nb_length]
    obtain ⟨tf, xf, rfl, ef, af⟩ := nf.seq
    refine lc_it (walk_tup (xs := xs)) (fun i H2 => Same H1 H2 ∧ LstV (nkV ck) H2 D (((Mow.nb c).take i).filter fun x => decide (x ∈ Fl))) ⟨same_new hD, LstV.start H1 D⟩ (fun i H2 _ ⟨s2, _⟩ => SqT.of (s2 _ _ e1)) ?_ ?_
    · rintro i x H2 H2' hi ⟨s2, L⟩ ⟨rfl, hx⟩
      obtain ⟨y, hy, ny⟩ := n1.getm hx
      have ny2 := ny.same s2
      have s02 : Same H H2' := s1.trans s2
      refine ⟨rfl, _, rfl, .ref tf, rfl, tf, xf, ck y, Fl.map ck, rfl, .inl (s02 _ _ ef), ny2, NKs.sameT s02 af, by rw [ck_dep]; decide, Nat.le_trans (cks_dep Fl) (by decide), _, rfl, ?_⟩
      rw [filt_snoc hy]
      have hm : decide (ck y ∈ Fl.map ck) = decide (y ∈ Fl) := by
        by_cases z : y ∈ Fl
        · rw [decide_eq_true z, decide_eq_true ((mem_map_iff fun _ _ => ck_inj).mpr z)]
        · rw [decide_eq_false z, decide_eq_false fun z' => z ((mem_map_iff fun _ _ => ck_inj).mp z')]
      show if decide (ck y ∈ Fl.map ck) = true then _ else _
      rw [hm]
      by_cases z : y ∈ Fl
      · rw [if_pos (decide_eq_true z), if_pos (decide_eq_true z)]
        refine ⟨x, rfl, ?_⟩
        obtain ⟨acc, a1, a2, a3⟩ := L.push (Same.refl _) (y := x) (b := y) ny2 (by
          have h1 := List.length_filter_le (fun x => decide (x ∈ Fl)) ((Mow.nb c).take i)
          have h2 := List.length_take_le i (Mow.nb c)
          omega)
        exact ⟨acc, a1, a2, same_mut hD s2, a3⟩
      · have z' : ¬ decide (y ∈ Fl) = true := by simpa using z
        rw [if_neg z', if_neg z', List.append_nil]
        exact ⟨s2, L⟩
    · rintro H2 ⟨s2, L⟩
      have ht : (Mow.nb c).take xs.length = Mow.nb c := take_all (by rw [hl]; exact Nat.le_refl _)
      rw [ht] at L
      obtain ⟨acc, a1, a2⟩ := L.nks
      exact ⟨D, acc, rfl, a1, fun l hl => q _ _ ((s1.trans s2).trans (same_new hl)) (nk_tuple hl a2)⟩
end
end MF

set_option autoImplicit false
set_option Elab.async false
set_option linter.all false
set_option maxRecDepth 100000
set_option maxHeartbeats 1000000
/-! No two cells in range hash alike: the cells in the order of their hashes. -/
namespace MF
open PySem PySem.Spec PyProof.Rows L2
def hk (i : Nat) : Int := reduceHash (Builtin.Tuple.tupleHashOf [hashInt (i / 31 : Nat), hashInt (i % 31 : Nat)])
def hkOrder : List Nat :=
  [843, 704, 827, 614, 126, 294, 865, 205, 377, 444, 628, 148, 59, 538, 399, 482, 605, 777, 688, 721, 459, 643, 799, 710, 882, 222, 406, 949, 473, 76, 260, 383, 244, 428,
  327, 566, 421, 488, 660, 521, 0, 727, 67, 911, 251, 22, 105, 832, 955, 172, 344, 528, 651, 266, 299, 333, 505, 366, 572, 756, 839, 823, 610, 917, 861, 201, 373, 111, 144,
  55, 350, 534, 601, 684, 305, 216, 388, 556, 455, 639, 795, 845, 706, 878, 218, 945, 867, 72, 256, 379, 27, 150, 61, 233, 417, 960, 484, 656, 690, 723, 907, 645, 678, 18,
  884, 101, 828, 78, 262, 161, 329, 501, 568, 752, 183, 490, 523, 606, 729, 913, 812, 767, 107, 800, 279, 190, 834, 346, 530, 597, 301, 212, 384, 552, 451, 635, 841, 874,
  612, 784, 124, 35, 863, 68, 375, 146, 57, 229, 413, 956, 480, 652, 686, 719, 334, 457, 641, 573, 880, 495, 7, 734, 74, 918, 258, 157, 325, 497, 29, 564, 419, 179, 658,
  602, 909, 808, 340, 512, 680, 579, 763, 103, 186, 830, 342, 924, 264, 297, 208, 380, 503, 447, 118, 151, 185, 837, 357, 541, 608, 780, 691, 31, 859, 462, 769, 802, 281,
  192, 53, 225, 409, 952, 682, 214, 386, 330, 453, 637, 876, 491, 3, 37, 730, 70, 914, 254, 936, 25, 891, 108, 231, 415, 314, 958, 175, 654, 85, 269, 336, 508, 676, 575,
  759, 99, 9, 736, 920, 819, 159, 499, 114, 286, 147, 181, 353, 537, 604, 776, 687, 810, 308, 458, 581, 765, 798, 848, 188, 619, 131, 42, 210, 382, 465, 449, 153, 236, 543,
  626, 487, 782, 693, 33, 726, 932, 464, 648, 804, 887, 227, 411, 310, 954, 81, 265, 471, 332, 504, 571, 426, 493, 665, 5, 732, 916, 815, 155, 586, 770, 110, 282, 316, 177,
  349, 533, 271, 806, 304, 215, 338, 510, 593, 454, 577, 761, 844, 364, 615, 922, 127, 38, 866, 378, 116, 288, 149, 199, 60, 232, 355, 539, 438, 622, 778, 689, 393, 460,
  644, 850, 711, 883, 223, 950, 10, 133, 44, 77, 261, 943, 467, 898, 238, 422, 182, 489, 661, 1, 695, 728, 912, 811, 934, 650, 582, 766, 889, 106, 833, 312, 16, 743, 83,
  927, 267, 166, 506, 589, 121, 757, 840, 360, 667, 750, 611, 817, 34, 588, 772, 112, 805, 284, 195, 351, 535, 434, 138, 685, 306, 389, 595, 456, 640, 846, 550, 617, 789,
  6, 129, 700, 40, 939, 894, 234, 418, 440, 624, 485, 657, 88, 395, 930, 478, 339, 646, 717, 578, 885, 433, 672, 12, 739, 79, 923, 263, 162, 469, 502, 117, 240, 424, 323,
  184, 356, 540, 663, 562, 746, 278, 813, 517, 584, 768, 280, 191, 835, 347, 929, 134, 168, 302, 213, 385, 591, 123, 295, 206, 842, 362, 546, 613, 785, 125, 696, 36, 935,
  774, 857, 197, 58, 890, 230, 313, 957, 436, 620, 140, 51, 84, 391, 474, 642, 713, 245, 881, 429, 668, 791, 8, 702, 735, 75, 919, 941, 158, 30, 252, 896, 113, 420, 319,
  352, 23, 659, 558, 90, 274, 809, 513, 580, 903, 764, 674, 14, 618, 97, 741, 925, 130, 824, 164, 119, 291, 202, 358, 542, 441, 748, 609, 781, 692, 519, 931, 463, 647, 853,
  193, 557, 796, 136, 47, 387, 470, 241, 425, 548, 631, 492, 664, 787, 4, 698, 870, 402, 937, 64, 248, 892, 416, 315, 959, 19, 86, 270, 476, 337, 509, 715, 247, 899, 431,
  670, 569, 93, 737, 921, 820, 160, 115, 287, 198, 321, 354, 437, 560, 92, 744, 276, 309, 515, 598, 905, 849, 189, 369, 553, 792, 132, 826, 43, 466, 293, 154, 864, 204,
  376, 237, 544, 443, 627, 783, 694, 398, 933, 649, 855, 888, 311, 15, 709, 49, 742, 221, 82, 405, 948, 472, 243, 427, 326, 633, 494, 666, 565, 872, 733, 816, 156, 520,
  587, 66, 910, 771, 250, 283, 194, 317, 681, 21, 104, 272, 171, 343, 511, 594, 901, 365, 549, 755, 616, 95, 788, 128, 822, 39, 526, 289, 860, 200, 372, 439, 623, 143, 779,
  54, 394, 600, 461, 683, 851, 371, 555, 638, 794, 11, 705, 45, 738, 217, 944, 468, 239, 423, 322, 445, 629, 662, 561, 745, 868, 277, 400, 483, 516, 722, 583, 62, 906, 677,
  17, 100, 928, 407, 268, 167, 507, 590, 122, 328, 500, 361, 545, 567, 751, 818, 522, 773, 285, 856, 196, 435, 139, 50, 173, 345, 529, 390, 596, 300, 211, 847, 367, 551,
  450, 634, 790, 701, 41, 873, 940, 862, 895, 374, 235, 318, 625, 145, 56, 228, 89, 412, 273, 396, 479, 718, 902, 673, 13, 707, 879, 96, 740, 219, 403, 946, 163, 73, 257,
  290, 324, 496, 28, 563, 747, 178, 814, 518, 724, 585, 908, 807, 852, 679, 762, 102, 135, 829, 46, 169, 341, 592, 296, 207, 363, 547, 446, 630, 753, 786, 697, 869, 401,
  524, 607, 858, 63, 621, 801, 141, 712, 52, 224, 408, 531, 392, 951, 475, 714, 246, 430, 452, 636, 669, 703, 875, 942, 2, 69, 253, 897, 320, 24, 559, 91, 414, 275, 174,
  481, 653, 514, 720, 904, 335, 368, 675, 574, 758, 98, 926, 825, 165, 259, 120, 292, 203, 498, 359, 442, 749, 180, 536, 397, 603, 775, 307, 854, 797, 137, 708, 187, 831,
  48, 220, 404, 527, 947, 298, 209, 381, 242, 448, 632, 152, 838, 699, 871, 938, 486, 32, 725, 65, 249, 893, 803, 20, 886, 226, 87, 410, 953, 170, 477, 80, 716, 900, 432,
  331, 671, 570, 754, 877, 94, 821, 525, 731, 71, 915, 255, 26, 109, 142, 836, 176, 348, 532, 655, 599, 303, 370, 554, 576, 760, 793]
def upw : List Nat → Bool
  | x :: y :: l => decide (hk x < hk y) && upw (y :: l)
  | _ => true
theorem upw_ok : upw hkOrder = true := by decide +kernel
theorem hk_len : hkOrder.length = 961 := by decide +kernel
theorem hk_all : hkOrder.all (fun i => decide (i < 961)) = true := by decide +kernel
theorem upw_pw : ∀ {l : List Nat}, upw l = true → l.Pairwise fun x y => hk x < hk y
  | [], _ => .nil
  | [x], _ => List.pairwise_singleton _ _
  | x :: y :: l, h => by
    unfold upw at h
    rw [Bool.and_eq_true, decide_eq_true_eq] at h
    have ih := upw_pw (l := y :: l) h.2
    refine List.pairwise_cons.mpr ⟨fun z hz => ?_, ih⟩
    rcases List.mem_cons.mp hz with q | q
    · rw [q]; exact h.1
    · exact Int.lt_trans h.1 ((List.pairwise_cons.mp ih).1 z q)
theorem hk_mem {i : Nat} (hi : i < 961) : i ∈ hkOrder := by
  by_cases q : i ∈ hkOrder
  · exact q
  · exfalso
    have hn : hkOrder.Nodup := (upw_pw upw_ok).imp fun {x y} h e => by subst e; exact Int.lt_irrefl _ h
    have h1 := Mow.nodup_le (l := i :: hkOrder) (m := List.range 961) (List.nodup_cons.mpr ⟨q, hn⟩) fun x hx => by
      rcases List.mem_cons.mp hx with z | z
      · rw [z]; exact List.mem_range.mpr hi
      · exact List.mem_range.mpr (by simpa using List.all_eq_true.mp hk_all x z)
    rw [List.length_cons, hk_len, List.length_range] at h1
    omega
theorem hk_inj {i j : Nat} (hi : i < 961) (hj : j < 961) (h : hk i = hk j) : i = j := by
  have pw := upw_pw upw_ok
  obtain ⟨a, ha⟩ := List.mem_iff_getElem?.mp (hk_mem hi)
  obtain ⟨b, hb⟩ := List.mem_iff_getElem?.mp (hk_mem hj)
  rw [List.pairwise_iff_getElem] at pw
  obtain ⟨la, ea⟩ := List.getElem?_eq_some_iff.mp ha
  obtain ⟨lb, eb⟩ := List.getElem?_eq_some_iff.mp hb
  rcases Nat.lt_trichotomy a b with q | q | q
  · have := pw a b la lb q
    rw [ea, eb, h] at this
    exact absurd this (Int.lt_irrefl _)
  · subst q
    exact ea.symm.trans eb
  · have := pw b a lb la q
    rw [ea, eb, h] at this
    exact absurd this (Int.lt_irrefl _)
theorem ck_hash (w : World) {c : Cell} (h : InR c) : (ck c).hash w = hk (c.1.toNat * 31 + c.2.toNat) ∧ c.1.toNat * 31 + c.2.toNat < 961 := by
  obtain ⟨h1, h2, h3, h4⟩ := h
  have e1 : (c.1.toNat * 31 + c.2.toNat) / 31 = c.1.toNat := by omega
  have e2 : (c.1.toNat * 31 + c.2.toNat) % 31 = c.2.toNat := by omega
  refine ⟨?_, by omega⟩
  unfold hk
  rw [e1, e2, Int.toNat_of_nonneg h1, Int.toNat_of_nonneg h3]
  simp [ck, NestedKey.hash, NestedKey.hashes]
theorem hash_inj (w : World) {c d : Cell} (hc : InR c) (hd : InR d) (h : (ck c).hash w = (ck d).hash w) : c = d := by
  obtain ⟨e1, l1⟩ := ck_hash w hc
  obtain ⟨e2, l2⟩ := ck_hash w hd
  rw [e1, e2] at h
  have := hk_inj l1 l2 h
  obtain ⟨h1, h2, h3, h4⟩ := hc
  obtain ⟨g1, g2, g3, g4⟩ := hd
  exact Prod.ext (by omega) (by omega)
theorem hash_nodup (w : World) {l : List Cell} (hn : l.Nodup) (hr : ∀ c ∈ l, InR c) : (l.map fun c => (ck c).hash w).Nodup := by
  induction l with
  | nil => exact List.nodup_nil
  | cons c l ih =>
    have hn' := List.nodup_cons.mp hn
    rw [List.map_cons]
    refine List.nodup_cons.mpr ⟨fun hm => ?_, ih hn'.2 fun d hd => hr d (List.mem_cons_of_mem _ hd)⟩
    obtain ⟨d, hd, e⟩ := List.mem_map.mp hm
    exact hn'.1 (hash_inj w (hr c List.mem_cons_self) (hr d (List.mem_cons_of_mem _ hd)) e.symm ▸ hd)
end MF

set_option autoImplicit false
set_option Elab.async false
set_option linter.all false
set_option maxRecDepth 100000
set_option maxHeartbeats 4000000
/-! Walks: neighbours_of_all, part_of, parts. -/
namespace MF
open PySem PySem.Spec PyProof.Rows L2
/-! ### expressions by places -/
def nthS (s : Stmt) (j : Nat) : Stmt := (defBody s).getD j (.Pass ⟨0, 0, 0, 0⟩)
def retE : Stmt → Expr
  | .Return (some e) _ => e
  | _ => .Constant .none 0 ⟨0, 0, 0, 0⟩
def argE (i : Nat) : Expr → Expr
  | .Call _ as _ _ => as.getD i (.Constant .none 0 ⟨0, 0, 0, 0⟩)
  | e => e
def lcSc : Expr → Scope
  | .ListComp _ _ sc _ => sc
  | _ => { kind := .function, names := [], isGenerator := false, isCoroutine := false }
section
variable {P : Program} {w : World} {K : PySem.W.Frag} {mg : Str → Option Value} {base : Heap}
theorem map_nodup {α β : Type} {f : α → β} (hf : ∀ x y, f x = f y → x = y) {l : List α} (h : l.Nodup) : (l.map f).Nodup := List.pairwise_map.mpr (h.imp fun {x y} hne e => hne (hf x y e))
theorem map_fst_map {α β : Type} (f : α → β) (l : List α) : (l.map fun c => (c, f c)).map (·.1) = l := by
  rw [List.map_map]
  exact List.map_id _

theorem scNeighAll : FnScope ["floor", "known", "cell", "one"] ["floor"] (defScope sNeighAll) := ⟨rfl, rfl, rfl, by decide +kernel, rfl, by decide +kernel, by decide +kernel⟩
def spNeighAll (P : Program) (w : World) : Sp := fun vs H Q _ => ∃ (vf : V) (Fl : List Cell), vs = [vf] ∧ NK H (csk Fl) vf ∧ Fl.Nodup ∧ Fl.length ≤ 1000 ∧ ∀ H' d, Same H H' → H d = none → Dct P w cellR (nkV csk) H' d (Fl.map fun c => (c, nbF Fl c)) → Q (.ref d) H'
theorem ok_neighAll (T : Tx mg) (D1 : Dn P w K mg base 1 "beside" ["cell"] spBeside) (F : FunD K mg "neighbours_of_all" sNeighAll ["floor"]) : Dn P w K mg base 2 "neighbours_of_all" ["floor"] (spNeighAll P w) := .of F fun f fd F => by
  refine F.ok scNeighAll (fun vs H Q E h => ?_) (fun cdv A outer s H vs Q E hr h => ?_)
  · obtain ⟨vf, Fl, rfl, _⟩ := h; rfl
  · obtain ⟨vf, Fl, rfl, nf, fN, fz, q⟩ := h
    refine ⟨_, pss_cons (ps_set (i := 1) scNeighAll.nd rfl (.inr rfl) (pe_callTy (call_ndict rfl (room20 hr)) (by rfl) T.dict (by decide +kernel) (pa_cons
        (pe_lc (own := [("cell", 2)]) (g := gName 2) rfl scNeighAll.nd (pi_tup (pv 0)) (blkOk_by (N := ["floor", "known", "cell", "one"]) (sc := defScope sNeighAll) (by decide +kernel))
          (fun _ _ _ _ _ => pg_name (i := 2) scNeighAll.nd rfl (Or.inl rfl)) (fun _ _ _ _ _ => pts_nil) (fun _ _ _ _ _ => pe_tup (pa_cons (pv 2) (pa_cons pe_bl pa_nil)))) pa_nil)))
      (pss_one (ps_ret (pe_callTy (call_ndict rfl (room20 hr)) (by rfl) T.dict (by decide +kernel) (pa_cons
        (pe_lc (own := [("cell", 2)]) (g := gName 2) rfl scNeighAll.nd (pi_tup (pv 0)) (blkOk_by (N := ["floor", "known", "cell", "one"]) (sc := defScope sNeighAll) (by decide +kernel))
          (fun _ _ _ _ _ => pg_name (i := 2) scNeighAll.nd rfl (Or.inl rfl)) (fun _ _ _ _ _ => pts_nil)
          (fun _ _ _ _ _ => pe_tup (pa_cons (pv 2) (pa_cons (pe_callTy call_tupL (by rfl) T.tuple (by decide +kernel) (pa_cons
            (pe_lc (own := [("one", 3)]) (g := gName 3) rfl scNeighAll.nd (pi_tupC K rfl (pe_dn D1 hr (by rfl) (pa_cons (pv 2) pa_nil))) (blkOk_by (N := ["floor", "known", "cell", "one"]) (sc := relS (lcSc (argE 0 (retE (nthS sNeighAll 1)))) (defScope sNeighAll)) (by decide +kernel))
              (fun _ _ _ _ _ => pg_name (i := 3) scNeighAll.nd rfl (Or.inl rfl)) (fun _ _ _ _ _ => pts_one (pt_cmpR (op_ndinC P w rfl rfl (room20 hr)) (pv 3) (pv 1) rfl)) (fun _ _ _ _ _ => pv 3)) pa_nil)) pa_nil)))) pa_nil)))), ?_⟩
    obtain ⟨tf, xf, rfl, ef, af⟩ := nf.seq
    have hxl : xf.length = Fl.length := af.lenm
    -- known
    refine ⟨.ref tf, rfl, tf, rfl, ⟨_, SqT.of ef⟩, fun D hD => ?_⟩
    refine lc_it (walk_tup (xs := xf)) (fun i H2 => Same H H2 ∧ LstV (pairV cellR trueV) H2 D ((Fl.take i).map fun c => (c, ()))) ⟨same_new hD, LstV.start H D⟩ (fun i H2 _ ⟨s2, _⟩ => SqT.of (s2 _ _ ef)) ?_ ?_
    · rintro i x H2 H2' hi ⟨s2, L⟩ ⟨rfl, hx⟩
      obtain ⟨c, hc, nc⟩ := af.getm hx
      refine ⟨rfl, t_yes ?_⟩
      refine ⟨x, rfl, by show 2 ≤ sizeLine; decide, fun t nt => ?_⟩
      have hlt := Mow.get_lt hc
      obtain ⟨acc, a1, a2, a3⟩ := L.push (same_new nt) (y := .ref t) (b := (c, ())) ⟨t, x, .bl true, rfl, upd_same, (nc.same s2).same (same_new nt), rfl⟩ (by rw [List.length_map, List.length_take]; omega)
      refine ⟨acc, a1, a2, same_mut hD (s2.trans (same_new nt)), ?_⟩
      rw [take_snoc hc, List.map_append]
      exact a3
    · rintro H2 ⟨s2, L⟩
      rw [take_all (by omega)] at L
      obtain ⟨acc, a1, a2⟩ := L
      refine ⟨Cell, Unit, inferInstance, cellR, trueV, D, acc, _, rfl, a1, a2, fun k ob nk Dk => ?_⟩
      have hk0 : H k = none := s2.free nk
      have s3 : Same H (upd H2 k (dno k ob)) := s2.trans (same_new nk)
      rw [putAll_nodup _ _ (by rw [List.nil_append, map_fst_map]; exact fN), List.nil_append] at Dk
      -- the second
      generalize upd H2 k (dno k ob) = H3 at s3 Dk
      refine ⟨.ref tf, rfl, tf, rfl, ⟨_, SqT.of (s3 _ _ ef)⟩, fun D2 hD2 => ?_⟩
      refine lc_it (walk_tup (xs := xf)) (fun i H4 => Same H3 H4 ∧ LstV (pairV cellR (nkV csk)) H4 D2 ((Fl.take i).map fun c => (c, nbF Fl c))) ⟨same_new hD2, LstV.start H3 D2⟩ (fun i H4 _ ⟨s4, _⟩ => SqT.of (s4 _ _ (s3 _ _ ef))) ?_ ?_
      · rintro i x H4 H4' hi ⟨s4, L2⟩ ⟨rfl, hx⟩
        obtain ⟨c, hc, nc⟩ := af.getm hx
        have hlt := Mow.get_lt hc
        refine ⟨rfl, t_yes ?_⟩
        refine ⟨x, rfl, x, rfl, x, c, rfl, (nc.same s3).same s4, fun H5 t xs s5 e5 n5 => ⟨t, rfl, ⟨_, SqT.of e5⟩, fun D3 hD3 => ?_⟩⟩
        have hl : xs.length = 4 := by rw [n5.length, List.length_map, Mow.nb_length]
        refine lc_it (walk_tup (xs := xs)) (fun j H6 => Same H5 H6 ∧ LstV (nkV ck) H6 D3 (((Mow.nb c).take j).filter fun x => decide (x ∈ Fl))) ⟨same_new hD3, LstV.start H5 D3⟩ (fun j H6 _ ⟨s6, _⟩ => SqT.of (s6 _ _ e5)) ?_ ?_
        · rintro j y H6 H6' hj ⟨s6, L3⟩ ⟨rfl, hy⟩
          obtain ⟨z, hz, nz⟩ := n5.getm hy
          have nz6 := nz.same s6
          refine ⟨rfl, _, rfl, .ref k, rfl, Cell, Unit, inferInstance, cellR, trueV, k, _, z, rfl, ((Dk.same s4).same s5).same s6, nz6, _, rfl, ?_⟩
          rw [map_fst_map, filt_snoc hz]
          refine t_ite (fun q => ?_) (fun q => ?_)
          · have q' : decide (z ∈ Fl) = true := by simpa using q
            rw [if_pos q']
            refine ⟨y, rfl, ?_⟩
            obtain ⟨acc, a1, a2, a3⟩ := L3.push (Same.refl _) (y := y) (b := z) nz6 (by
              have h1 := List.length_filter_le (fun x => decide (x ∈ Fl)) ((Mow.nb c).take j)
              have h2 := List.length_take_le j (Mow.nb c)
              omega)
            exact ⟨acc, a1, a2, same_mut hD3 s6, a3⟩
          · have q' : ¬ decide (z ∈ Fl) = true := by
              simpa using q
            rw [if_neg q', List.append_nil]
            exact ⟨s6, L3⟩
        · rintro H6 ⟨s6, L3⟩
          rw [hl, take_all (by rw [Mow.nb_length]; exact Nat.le_refl _)] at L3
          obtain ⟨acc, a1, a2⟩ := L3.nks
          refine ⟨D3, acc, rfl, a1, fun l hl2 => ⟨by show 2 ≤ sizeLine; decide, fun t2 nt2 => ?_⟩⟩
          have s7 : Same H4' (upd (upd H6 l (.tup acc)) t2 (.tup [x, .ref l])) := ((s5.trans s6).trans (same_new hl2)).trans (same_new nt2)
          obtain ⟨acc2, b1, b2, b3⟩ := L2.push s7 (y := .ref t2) (b := (c, nbF Fl c)) ⟨t2, x, .ref l, rfl, upd_same, ((nc.same s3).same s4).same s7, (nk_tuple hl2 a2).same (same_new nt2)⟩ (by rw [List.length_map, List.length_take]; omega)
          refine ⟨acc2, b1, b2, same_mut hD2 (s4.trans s7), ?_⟩
          rw [take_snoc hc, List.map_append]
          exact b3
      · rintro H4 ⟨s4, L2⟩
        rw [take_all (by omega)] at L2
        obtain ⟨acc2, b1, b2⟩ := L2
        refine ⟨Cell, List Cell, inferInstance, cellR, nkV csk, D2, acc2, _, rfl, b1, b2, fun k2 ob2 nk2 Dk2 => ?_⟩
        rw [putAll_nodup _ _ (by rw [List.nil_append, map_fst_map]; exact fN), List.nil_append] at Dk2
        exact q _ k2 ((s3.trans s4).trans (same_new nk2)) (s3.free (s4.free nk2)) Dk2
end
end MF

set_option autoImplicit false
set_option Elab.async false
set_option linter.all false
set_option maxRecDepth 100000
set_option maxHeartbeats 4000000
/-! Walks: part_of, parts. -/
namespace MF
open PySem PySem.Spec PyProof.Rows L2
section
variable {P : Program} {w : World} {K : PySem.W.Frag} {mg : Str → Option Value} {base : Heap}
theorem keys_unit {α : Type} (l : List α) : (l.map fun c => (c, ())).map (·.1) = l := map_fst_map _ l
/-- a set of cells: its keys are put one by one -/
theorem putL_unit {l : List Cell} {c : Cell} (h : c ∉ l) : putL (l.map fun c => (c, ())) c () = (l ++ [c]).map fun c => (c, ()) := by
  rw [putL_new (by rw [keys_unit]; exact h), List.map_append]; rfl
theorem dropLast_snoc {α : Type} {l : List α} {x : α} (h : l[l.length - 1]? = some x) : l = l.dropLast ++ [x] := by
  have e : l.getLast? = some x := by rw [List.getLast?_eq_getElem?]; exact h
  obtain ⟨ys, h2⟩ := List.getLast?_eq_some_iff.mp e
  rw [h2]; simp
theorem LstV.pop {β : Type} {vr : VR β} {H : Hp} {D : Addr} {out : List β} (L : LstV vr H D out) (hne : out ≠ []) : ∃ acc y o b, H D = some (.lst acc) ∧ acc[acc.length - 1]? = some y ∧ out = o ++ [b] ∧ vr.at_ H y b ∧ Paired (fun v b => vr.at_ H v b) acc.dropLast o := by
  obtain ⟨acc, a, p⟩ := L
  have hl := Paired.length p
  have h0 : 0 < out.length := List.length_pos_iff.mpr hne
  obtain ⟨y, hy⟩ := Mow.get_of_lt (l := acc) (i := acc.length - 1) (by omega)
  obtain ⟨b, hb⟩ := Mow.get_of_lt (l := out) (i := out.length - 1) (by omega)
  have e1 := dropLast_snoc hy
  have e2 := dropLast_snoc hb
  have hb' : out[acc.length - 1]? = some b := by rw [hl]; exact hb
  refine ⟨acc, y, out.dropLast, b, a, hy, e2, paired_ix p hy hb', ?_⟩
  have gen : ∀ {A B : List V} {A' : List β}, A.length = A'.length → Paired (fun v b => vr.at_ H v b) (A ++ B) (A' ++ [b]) → Paired (fun v b => vr.at_ H v b) A A' := by
    intro A
    induction A with
    | nil => intro B A' hl _; cases A' with
      | nil => exact .nil
      | cons _ _ => simp at hl
    | cons x A ih => intro B A' hl q; cases A' with
      | nil => simp at hl
      | cons z A' => cases q with
        | cons q1 q2 => exact .cons q1 (ih (by simpa using hl) q2)
  rw [e1, e2] at p
  exact gen (by rw [List.length_dropLast, List.length_dropLast, hl]) p

theorem scPartOf : FnScope ["near", "cell", "met", "waiting", "one"] ["near", "cell"] (defScope sPartOf) := ⟨rfl, rfl, rfl, by decide +kernel, rfl, by decide +kernel, by decide +kernel⟩
def spPartOf (P : Program) (w : World) : Sp := fun vs H Q _ => ∃ (d : Addr) (v : V) (Fl : List Cell) (c : Cell), vs = [.ref d, v] ∧ Dct P w cellR (nkV csk) H d (Fl.map fun c => (c, nbF Fl c)) ∧ NK H (ck c) v ∧ c ∈ Fl ∧ Fl.Nodup ∧ Fl.length ≤ 1000 ∧
  ∀ H' v p, Same H H' → NK H' (csk p) v → p.Nodup → (∀ x, x ∈ p ↔ Mow.Reach Fl c x) → Q v H'
/-- what holds between two turns of the while -/
def PartP (P : Program) (w : World) (Fl : List Cell) (c : Cell) (H0 : Hp) (dm lw : Addr) (M W : List Cell) (H : Hp) : Prop :=
  Same H0 H ∧ Dct P w cellR trueV H dm (M.map fun c => (c, ())) ∧ LstV (nkV ck) H lw W ∧ M.Nodup ∧ c ∈ M ∧ (∀ x ∈ M, Mow.Reach Fl c x) ∧ (∀ x ∈ W, x ∈ M)
theorem look_map {β : Type} {Fl : List Cell} (g : Cell → β) {x : Cell} (hx : x ∈ Fl) (hn : Fl.Nodup) : look (Fl.map fun c => (c, g c)) x = some (g x) :=
  look_of_mem (by rw [map_fst_map]; exact hn) (List.mem_map.mpr ⟨x, hx, rfl⟩)
theorem reach_mem {Fl : List Cell} {c x : Cell} (h : Mow.Reach Fl c x) : x ∈ Fl := h.right
theorem ok_partOf (T : Tx mg) (F : FunD K mg "part_of" sPartOf ["near", "cell"]) : Dn P w K mg base 1 "part_of" ["near", "cell"] (spPartOf P w) := .of F fun f fd F => by
  refine F.ok scPartOf (fun vs H Q E h => ?_) (fun cdv A outer s H vs Q E hr h => ?_)
  · obtain ⟨d, v, Fl, c, rfl, _⟩ := h; rfl
  · obtain ⟨d, v, Fl, c, rfl, Dn, nc, cF, fN, fz, q⟩ := h
    have hu := room20 hr
    refine ⟨_, pss_cons (ps_set (i := 2) scPartOf.nd rfl (.inl rfl) (pe_ndisp hu (pps_cons (pv 1) pe_bl pps_nil) rfl rfl (fun z => by cases z) (by show 1 ≤ 15; decide)))
      (pss_cons (ps_set (i := 3) scPartOf.nd rfl (.inl rfl) (pe_lst (pa_cons (pv 1) pa_nil)))
      (pss_cons (ps_while PassesOwn.never (pt_cmpR op_gt (pe_callB call_len_seq (by rfl) T.len PySem.boot_len (pa_cons (pv 3) pa_nil)) pe_int (nomark _))
        (pss_one (ps_for PassesOwn.never rfl (pi_tup (pe_nget hu (pv 0) (pe_bm0 PySem.F.plainAttrs_list PySem.F.slot_list_pop PySem.F.type_list_pop mt_pop (pv 3)) (fun _ _ => rfl))) (pg_name (i := 4) scPartOf.nd rfl (.inl rfl))
          (pss_one (ps_if (pt_cmpR (op_ndnin hu) (pv 4) (pv 2) rfl) (pss_cons (ps_asg pe_bl (pg_sub (pv 2) (pv 4) (set_nd hu))) (pss_one (ps_expr (pe_bm PySem.F.plainAttrs_list PySem.F.slot_list_append PySem.F.type_list_append mt_append (pv 3) (pa_cons (pv 4) pa_nil))))) pss_nil)))))
      (pss_one (ps_ret (pe_callTy call_tupL (by rfl) T.tuple (by decide +kernel) (pa_cons (pe_callB (call_nsortD rfl (room60 hr)) (by rfl) T.sorted (by decide +kernel) (pa_cons (pv 2) pa_nil)) pa_nil)))))), ?_⟩
    -- met = {cell: True}
    intro dm hdm
    refine ⟨v, rfl, upd_same, Cell, Unit, inferInstance, cellR, trueV, [(c, ())], .cons ⟨nc.same (same_new hdm), rfl⟩ .nil, by show 1 ≤ 15; decide, fun ob Dm => ?_⟩
    have s1 : Same H (upd (upd H dm (dno dm obj0)) dm (dno dm ob)) := same_mut hdm (same_new hdm)
    generalize upd (upd H dm (dno dm obj0)) dm (dno dm ob) = H1 at s1 Dm
    -- waiting = [cell]
    refine ⟨v, rfl, by show 1 ≤ sizeLine; decide, fun lw hlw => ?_⟩
    have hlw0 : H lw = none := s1.free hlw
    have nml : dm ≠ lw := Dm.ne hlw
    have P0 : PartP P w Fl c H dm lw [c] [c] (upd H1 lw (.lst [v])) :=
      ⟨s1.trans (same_new hlw), Dm.upd hlw, ⟨[v], upd_same, .cons ((nc.same s1).same (same_new hlw)) .nil⟩, by simp, by simp, fun x hx => by rw [List.mem_singleton.mp hx]; exact .refl cF, fun x hx => hx⟩
    -- while len(waiting) > 0
    refine ⟨fun m σ H2 => ∃ M W y4, σ = [some (.ref d), some v, some (.ref dm), some (.ref lw), y4] ∧ PartP P w Fl c H dm lw M W H2 ∧ (∀ x ∈ M, x ∈ W ∨ ∀ y ∈ Mow.nb x, y ∈ Fl → y ∈ M) ∧ W.length ≤ M.length ∧ m = Fl.length - M.length + W.length,
      ⟨_, [c], [c], none, rfl, P0, fun x hx => .inl hx, Nat.le_refl _, rfl⟩, ?_⟩
    rintro m σ H2 ⟨M, W, y4, rfl, ⟨s2, Dm2, Lw, mN, cM, mR, wM⟩, hcl, hWM, rfl⟩
    obtain ⟨acc, ea, pa⟩ := id Lw
    have hal : acc.length = W.length := Paired.length pa
    refine ⟨.ref lw, rfl, lw, acc, rfl, .inl (SqL.of ea), _, _, rfl, rfl, _, rfl, ?_⟩
    have mF : M.length ≤ Fl.length := Mow.nodup_le mN fun x hx => reach_mem (mR x hx)
    refine t_ite (fun hlt => ?_) (fun hlt => ?_)
    · have hW : W ≠ [] := by
        intro z
        subst z
        rw [List.length_nil] at hal
        rw [hal] at hlt
        simp at hlt
      obtain ⟨acc', y, W', x, ea', ey, eW, nx, pd⟩ := Lw.pop hW
      rw [ea] at ea'
      cases ea'
      have xM : x ∈ M := wM x (by rw [eW]; simp)
      have xF : x ∈ Fl := reach_mem (mR x xM)
      -- after the turn
      refine ⟨fun σ' H' => ∃ M' W'' y4, σ' = [some (.ref d), some v, some (.ref dm), some (.ref lw), y4] ∧ PartP P w Fl c H dm lw M' W'' H' ∧ (∀ x ∈ M', x ∈ W'' ∨ ∀ y ∈ Mow.nb x, y ∈ Fl → y ∈ M') ∧ W''.length ≤ M'.length ∧ Fl.length - M'.length + W''.length < Fl.length - M.length + W.length, ?_, ?_⟩
      · rintro σ' H' ⟨M', W'', y4', e1, e2, e3, e3b, e4⟩
        exact ⟨_, e4, M', W'', y4', e1, e2, e3, e3b, rfl⟩
      · -- near[waiting.pop()]
        refine ⟨.ref d, rfl, .ref lw, rfl, .inl ⟨rfl, _, SqL.of ea⟩, lw, acc, y, rfl, rfl, ea, ey, ?_⟩
        have tu : Tu H2 (upd H2 lw (.lst acc.dropLast)) := Tu.mut ea fun _ z => by cases z
        have s3 : Same H (upd H2 lw (.lst acc.dropLast)) := same_mut hlw0 s2
        have Dm3 : Dct P w cellR trueV (upd H2 lw (.lst acc.dropLast)) dm (M.map fun c => (c, ())) := Dm2.keep tu (upd_ne nml)
        have Lw3 : LstV (nkV ck) (upd H2 lw (.lst acc.dropLast)) lw W' := ⟨_, upd_same, Paired.mapP pd fun _ _ z => (nkV ck).mono tu _ _ z⟩
        have nx3 : NK (upd H2 lw (.lst acc.dropLast)) (ck x) y := NK.tu tu nx
        generalize upd H2 lw (.lst acc.dropLast) = H3 at s3 Dm3 Lw3 nx3
        refine ⟨Cell, List Cell, inferInstance, cellR, nkV csk, d, _, x, nbF Fl x, rfl, Dn.same s3, nx3, look_map (nbF Fl) xF fN, fun v2 hv2 => ?_⟩
        obtain ⟨t2, xs2, rfl, e2, n2⟩ := NK.seq hv2
        refine ⟨t2, rfl, ⟨_, SqT.of e2⟩, ?_⟩
        refine for_it (walk_tup (xs := xs2)) (fun i σ' H' => ∃ M' W'' y4, σ' = [some (.ref d), some v, some (.ref dm), some (.ref lw), y4] ∧ PartP P w Fl c H dm lw M' W'' H' ∧ H' t2 = some (.tup xs2) ∧ NKs H' ((nbF Fl x).map ck) xs2 ∧ (∀ z ∈ M, z ∈ M') ∧ (∀ z ∈ M', z ≠ x → z ∈ W'' ∨ ∀ y ∈ Mow.nb z, y ∈ Fl → y ∈ M') ∧
            (∀ z ∈ (nbF Fl x).take i, z ∈ M') ∧ M'.length + W'.length = M.length + W''.length) ⟨M, W', y4, rfl, ⟨s3, Dm3, Lw3, mN, cM, mR, fun z hz => wM z (by rw [eW]; exact List.mem_append_left _ hz)⟩, e2, n2, fun z hz => hz, fun z hz zx => ?_, fun z hz => by simp at hz, rfl⟩
          (fun i σ' H' _ ⟨_, _, _, _, _, e, _⟩ => SqT.of e) ?_ ?_
        · rcases hcl z hz with h | h
          · rw [eW] at h
            rcases List.mem_append.mp h with h | h
            · exact .inl h
            · exact absurd (List.mem_singleton.mp h) zx
          · exact .inr h
        · -- one turn of the for
          rintro i u σ' H4 H4' hi ⟨M', W'', y4', rfl, ⟨s4, Dm4, Lw4, mN4, cM4, mR4, wM4⟩, e4, n4, hsub, hcl4, htk, hln⟩ ⟨rfl, hu4⟩
          obtain ⟨z, hz, nz⟩ := n4.getm hu4
          have zmem := mem_nbF.mp (Mow.get_mem hz)
          refine ⟨u, rfl, .ref dm, rfl, Cell, Unit, inferInstance, cellR, trueV, dm, _, z, rfl, Dm4, nz, _, rfl, ?_⟩
          refine t_ite (fun hq => ?_) (fun hq => ?_)
          · have zM : z ∉ M' := by simpa [keys_unit] using hq
            have hM' : M'.length ≤ Fl.length := Mow.nodup_le mN4 fun x hx => reach_mem (mR4 x hx)
            refine ⟨.ref dm, rfl, u, rfl, Cell, Unit, inferInstance, cellR, trueV, dm, _, z, (), rfl, Dm4, nz, rfl, by rw [List.length_map]; exact small_line (by omega), fun ob2 Dm5 => ?_⟩
            rw [putL_unit zM] at Dm5
            obtain ⟨o4, c4⟩ := Dm4.obj
            have tu5 : Tu H4' (upd H4' dm (dno dm ob2)) := Tu.mut c4 dno_tup
            have s5 : Same H (upd H4' dm (dno dm ob2)) := same_mut hdm s4
            have Lw5 : LstV (nkV ck) (upd H4' dm (dno dm ob2)) lw W'' := Lw4.mono tu5 (upd_ne nml.symm)
            obtain ⟨acc5, b1, b2, b3⟩ := Lw5.push (Same.refl _) (y := u) (b := z) (NK.tu tu5 nz) (by
              have h3 : W.length = W'.length + 1 := by rw [eW]; simp
              omega)
            refine ⟨.ref lw, rfl, .inl ⟨rfl, _, SqL.of b1⟩, u, rfl, lw, acc5, u, rfl, rfl, b1, b2, ?_⟩
            have tu6 : Tu (upd H4' dm (dno dm ob2)) (upd (upd H4' dm (dno dm ob2)) lw (.lst (acc5 ++ [u]))) := Tu.mut b1 fun _ z => by cases z
            refine ⟨M' ++ [z], W'' ++ [z], some u, rfl, ⟨same_mut hlw0 s5, Dm5.keep tu6 (upd_ne nml), b3, ?_, List.mem_append_left _ cM4, fun x' hx' => ?_, fun x' hx' => ?_⟩, tu6 _ _ (tu5 _ _ e4), NKs.tu tu6 (NKs.tu tu5 n4), fun x' hx' => List.mem_append_left _ (hsub x' hx'), fun x' hx' hne => ?_, fun x' hx' => ?_, ?_⟩
            · rw [List.nodup_append]
              exact ⟨mN4, by simp, fun a ha b hb e => zM (by rw [List.mem_singleton.mp hb] at e; exact e ▸ ha)⟩
            · rcases List.mem_append.mp hx' with h | h
              · exact mR4 x' h
              · rw [List.mem_singleton.mp h]; exact (mR x xM).step zmem.1 zmem.2
            · rcases List.mem_append.mp hx' with h | h
              · exact List.mem_append_left _ (wM4 x' h)
              · exact List.mem_append_right _ h
            · rcases List.mem_append.mp hx' with h | h
              · rcases hcl4 x' h hne with h' | h'
                · exact .inl (List.mem_append_left _ h')
                · exact .inr fun y hy hyF => List.mem_append_left _ (h' y hy hyF)
              · exact .inl (List.mem_append_right _ h)
            · rw [take_snoc hz] at hx'
              rcases List.mem_append.mp hx' with h | h
              · exact List.mem_append_left _ (htk x' h)
              · exact List.mem_append_right _ h
            · rw [List.length_append, List.length_append]; simp only [List.length_singleton]; omega
          · have zM : z ∈ M' := by simpa [keys_unit] using hq
            refine ⟨M', W'', some u, rfl, ⟨s4, Dm4, Lw4, mN4, cM4, mR4, wM4⟩, e4, n4, hsub, hcl4, fun x' hx' => ?_, hln⟩
            rw [take_snoc hz] at hx'
            rcases List.mem_append.mp hx' with h | h
            · exact htk x' h
            · rw [List.mem_singleton.mp h]; exact zM
        · -- behind the for
          rintro σ' H4 ⟨M', W'', y4', rfl, P4, e4, n4, hsub, hcl4, htk, hln⟩
          have hl2 : xs2.length = (nbF Fl x).length := n2.lenm
          rw [take_all (by omega)] at htk
          refine ⟨M', W'', y4', rfl, P4, fun z hz => ?_, ?_⟩
          · by_cases zx : z = x
            · subst zx
              exact .inr fun y hy hyF => htk y (mem_nbF.mpr ⟨hy, hyF⟩)
            · exact hcl4 z hz zx
          · have h3 : W.length = W'.length + 1 := by rw [eW]; simp
            have hM' : M'.length ≤ Fl.length := Mow.nodup_le P4.2.2.2.1 fun x hx => reach_mem (P4.2.2.2.2.2.1 x hx)
            exact ⟨by omega, by omega⟩
    · -- return tuple(sorted(met))
      have hW : W = [] := by
        cases W with
        | nil => rfl
        | cons a b =>
          exfalso
          have : (0 : Int) < (acc.length : Int) := by rw [hal, List.length_cons]; omega
          have h2 : decide ((0 : Int) < (acc.length : Int)) = false := hlt
          rw [decide_eq_true this] at h2
          cases h2
      subst hW
      refine ⟨.ref dm, rfl, Unit, trueV, dm, _, rfl, Dm2, fun ys outV p hp hs hn no => ?_⟩
      rw [keys_unit] at hp
      refine ⟨p, outV, rfl, upd_same, fun l hl => ?_⟩
      have s3 := same_new (o := .lst outV) hn
      refine q _ _ ys (s2.trans (s3.trans (same_new hl))) (nk_tuple hl (NKs.sameT s3 no)) (hp.nodup_iff.mpr mN) fun x => ?_
      rw [hp.mem_iff]
      refine ⟨mR x, fun r => ?_⟩
      refine r.closed (fun z => z ∈ M) cM fun z _ hz y hy hyF => ?_
      rcases hcl z hz with h | h
      · cases h
      · exact h y hy hyF
end
end MF

set_option autoImplicit false
set_option Elab.async false
set_option linter.all false
set_option maxRecDepth 100000
set_option maxHeartbeats 1000000
/-! Comprehensions that pick; zip of tuples as a walk; tails. -/
namespace MF
open PySem PySem.Spec PyProof.Rows L2
section
variable {J : It} {n : Nat} {G : Hp → Prop} {Y : Nat → Hp → V → Hp → Prop}
/-- [e for x in J if t]: what a thing of the source gives, if any -/
theorem lc_pick {α β : Type} {vr : VR β} (wk : Walk J n G Y) {g : TG} {tt : TT} {te : TE} {vs : List Nat} {σ : L2.St} {H1 : Hp} {D : Addr} {Qd : Hp → Prop} (src : List α) (pick : α → Option β) (hl : src.length = n) (hn : n ≤ 10000) (hD : H1 D = none)
    (hG : ∀ H, Same H1 H → G H)
    (hs : ∀ (i : Nat) (x : V) (a : α) (H H' : Hp) (k : V → Hp → Prop) (e : Hp → Prop), src[i]? = some a → Same H1 H → Y i H x H' → (∀ b, pick a = some b → ∀ y H4, Same H H4 → vr.at_ H4 y b → k y H4) → (pick a = none → ∀ H4, Same H H4 → e H4) →
      g x (wipe σ vs) H' fun σ2 H2 => wipe σ2 vs = wipe σ vs ∧ tt σ2 H2 fun b H3 => if b = true then te σ2 H3 k else e H3)
    (hd : ∀ H, Same H1 H → LstV vr H D (src.filterMap pick) → Qd H) :
    ∃ W : Nat → Nat → Hp → Prop, (∃ m, W 0 m (upd H1 D (.lst []))) ∧ ∀ i m H, W i m H →
      (J.stop i H ∧ Qd H) ∨ (J.go i H ∧ ∃ Nx : Hp → Prop, (∀ H', Nx H' → ∃ m', m' < m ∧ W (i + 1) m' H') ∧ ∀ x H', J.yld i H x H' → g x (wipe σ vs) H' fun σ2 H2 => wipe σ2 vs = wipe σ vs ∧ tt σ2 H2 fun b H3 =>
        if b = true then te σ2 H3 fun y H4 => ∃ acc, H4 D = some (.lst acc) ∧ acc.length < sizeLine ∧ Nx (upd H4 D (.lst (acc ++ [y]))) else Nx H3) := by
  refine lc_it wk (fun i H => Same H1 H ∧ LstV vr H D ((src.take i).filterMap pick)) ⟨same_new hD, LstV.start H1 D⟩ (fun i H _ ⟨s, _⟩ => hG H s) ?_ ?_
  · rintro i x H H' hi ⟨s, L⟩ hy
    obtain ⟨a, ha⟩ := Mow.get_of_lt (l := src) (i := i) (by omega)
    refine hs i x a H H' _ _ ha s hy (fun b hb y H4 s4 hv => ?_) (fun hb H4 s4 => ?_)
    · obtain ⟨acc, a1, a2, a3⟩ := L.push s4 hv (by
        have h1 := List.length_filterMap_le pick (src.take i)
        have h2 := List.length_take_le i src
        omega)
      refine ⟨acc, a1, a2, same_mut hD (s.trans s4), ?_⟩
      rw [take_snoc ha, List.filterMap_append, List.filterMap_cons_some hb]
      exact a3
    · refine ⟨s.trans s4, ?_⟩
      rw [take_snoc ha, List.filterMap_append, List.filterMap_cons_none hb]
      rw [List.filterMap_nil, List.append_nil]
      exact L.same s4
  · rintro H ⟨s, L⟩
    rw [take_all (by omega)] at L
    exact hd H s L
theorem filterMap_some {α β : Type} (f : α → β) (l : List α) : (l.filterMap fun a => some (f a)) = l.map f := by
  induction l with
  | nil => rfl
  | cons a l ih => simp [ih]
/-- [e for x in J] -/
theorem lc_map {α β : Type} {vr : VR β} (wk : Walk J n G Y) {g : TG} {tt : TT} {te : TE} {vs : List Nat} {σ : L2.St} {H1 : Hp} {D : Addr} {Qd : Hp → Prop} (src : List α) (f : α → β) (hl : src.length = n) (hn : n ≤ 10000) (hD : H1 D = none)
    (hG : ∀ H, Same H1 H → G H)
    (hs : ∀ (i : Nat) (x : V) (a : α) (H H' : Hp) (k : V → Hp → Prop) (e : Hp → Prop), src[i]? = some a → Same H1 H → Y i H x H' → (∀ y H4, Same H H4 → vr.at_ H4 y (f a) → k y H4) →
      g x (wipe σ vs) H' fun σ2 H2 => wipe σ2 vs = wipe σ vs ∧ tt σ2 H2 fun b H3 => if b = true then te σ2 H3 k else e H3)
    (hd : ∀ H, Same H1 H → LstV vr H D (src.map f) → Qd H) :
    ∃ W : Nat → Nat → Hp → Prop, (∃ m, W 0 m (upd H1 D (.lst []))) ∧ ∀ i m H, W i m H →
      (J.stop i H ∧ Qd H) ∨ (J.go i H ∧ ∃ Nx : Hp → Prop, (∀ H', Nx H' → ∃ m', m' < m ∧ W (i + 1) m' H') ∧ ∀ x H', J.yld i H x H' → g x (wipe σ vs) H' fun σ2 H2 => wipe σ2 vs = wipe σ vs ∧ tt σ2 H2 fun b H3 =>
        if b = true then te σ2 H3 fun y H4 => ∃ acc, H4 D = some (.lst acc) ∧ acc.length < sizeLine ∧ Nx (upd H4 D (.lst (acc ++ [y]))) else Nx H3) :=
  lc_pick wk src (fun a => some (f a)) hl hn hD hG (fun i x a H H' k e h1 h2 h3 h4 _ => hs i x a H H' k e h1 h2 h3 fun y H4 s v => h4 _ rfl y H4 s v) (fun H s L => hd H s (by rw [filterMap_some] at L; exact L))
theorem filterMap_ite {α : Type} (p : α → Bool) (l : List α) : (l.filterMap fun a => if p a = true then some a else none) = l.filter p := by
  induction l with
  | nil => rfl
  | cons a l ih =>
    by_cases h : p a = true
    · rw [List.filter_cons_of_pos h, ← ih]; simp [h]
    · rw [List.filter_cons_of_neg h, ← ih]; simp [h]
/-- [x for x in J if t] -/
theorem lc_filter {α : Type} {vr : VR α} (wk : Walk J n G Y) {g : TG} {tt : TT} {te : TE} {vs : List Nat} {σ : L2.St} {H1 : Hp} {D : Addr} {Qd : Hp → Prop} (src : List α) (p : α → Bool) (hl : src.length = n) (hn : n ≤ 10000) (hD : H1 D = none)
    (hG : ∀ H, Same H1 H → G H)
    (hs : ∀ (i : Nat) (x : V) (a : α) (H H' : Hp) (k : V → Hp → Prop) (e : Hp → Prop), src[i]? = some a → Same H1 H → Y i H x H' → (p a = true → ∀ y H4, Same H H4 → vr.at_ H4 y a → k y H4) → (p a = false → ∀ H4, Same H H4 → e H4) →
      g x (wipe σ vs) H' fun σ2 H2 => wipe σ2 vs = wipe σ vs ∧ tt σ2 H2 fun b H3 => if b = true then te σ2 H3 k else e H3)
    (hd : ∀ H, Same H1 H → LstV vr H D (src.filter p) → Qd H) :
    ∃ W : Nat → Nat → Hp → Prop, (∃ m, W 0 m (upd H1 D (.lst []))) ∧ ∀ i m H, W i m H →
      (J.stop i H ∧ Qd H) ∨ (J.go i H ∧ ∃ Nx : Hp → Prop, (∀ H', Nx H' → ∃ m', m' < m ∧ W (i + 1) m' H') ∧ ∀ x H', J.yld i H x H' → g x (wipe σ vs) H' fun σ2 H2 => wipe σ2 vs = wipe σ vs ∧ tt σ2 H2 fun b H3 =>
        if b = true then te σ2 H3 fun y H4 => ∃ acc, H4 D = some (.lst acc) ∧ acc.length < sizeLine ∧ Nx (upd H4 D (.lst (acc ++ [y]))) else Nx H3) :=
  lc_pick wk src (fun a => if p a = true then some a else none) hl hn hD hG
    (fun i x a H H' k e h1 h2 h3 h4 h5 => hs i x a H H' k e h1 h2 h3 (fun q y H4 s v => h4 a (if_pos q) y H4 s v) (fun q H4 s => h5 (if_neg (by rw [q]; exact Bool.false_ne_true)) H4 s))
    (fun H s L => hd H s (by rw [filterMap_ite] at L; exact L))
end
section
variable {K : PySem.W.Frag} {a b : Addr} {xs ys : List V}
theorem walk_zipT {n : Nat} (hn : n = min xs.length ys.length) : Walk (RZ.ItzT K a b) n (fun H => SqT K H a xs ∧ SqT K H b ys) (YPair (fun i => xs[i]?) (fun i => ys[i]?)) where
  goes := fun i H hi q => by
    obtain ⟨x, hx⟩ := Mow.get_of_lt (l := xs) (i := i) (by omega)
    obtain ⟨y, hy⟩ := Mow.get_of_lt (l := ys) (i := i) (by omega)
    exact ⟨xs, ys, x, y, q.1, q.2, hx, hy⟩
  stops := fun H q => ⟨xs, ys, q.1, q.2, by omega⟩
  yields := fun i H v H' _ q ⟨T, x, z, e1, e2, e3, e4, e5⟩ => ⟨T, x, z, e1, e2, e3, e4 xs q.1, e5 ys q.2⟩
/-- each with the one behind it -/
theorem walk_pairs : Walk (RZ.ItzT K a b) (xs.length - 1) (fun H => SqT K H a xs ∧ SqT K H b (xs.drop 1)) (fun i H v H' => ∃ T x y, v = .ref T ∧ H T = none ∧ H' = upd H T (.tup [x, y]) ∧ xs[i]? = some x ∧ xs[i + 1]? = some y) :=
  (walk_zipT (xs := xs) (ys := xs.drop 1) (n := xs.length - 1) (by rw [List.length_drop]; omega)).mono (fun _ h => h) fun i H v H' _ _ ⟨T, x, y, e1, e2, e3, e4, e5⟩ => ⟨T, x, y, e1, e2, e3, e4, by
    have h : (xs.drop 1)[i]? = some y := e5
    rw [List.getElem?_drop, Nat.add_comm] at h
    exact h⟩
/-- t[1:] -/
theorem rd_tail {H : Hp} {Q : VK} (e : H a = some (.tup xs)) (q : ∀ p H2, Same H H2 → H2 p = some (.tup (xs.drop 1)) → Q (.ref p) H2) : rSlA K (.ref a) (some 1) none H Q := by
  have e1 : HT.sIx xs.length 0 (some 1) = min 1 xs.length := HT.sIx_nat _ _ 1
  refine ⟨a, xs, rfl, SqT.of e, fun hw => ?_, fun hw p hp => ?_⟩
  · rw [e1] at hw
    have : xs = [] := List.length_eq_zero_iff.mp (by omega)
    exact q a H (Same.refl _) (by rw [e, this]; rfl)
  · refine q p _ (same_new hp) (upd_same.trans ?_)
    unfold cutV
    rw [e1, HT.sIx_none]
    have h0 : ¬ xs.length = 0 := fun z => hw ⟨by rw [e1]; omega, rfl⟩
    rw [show min 1 xs.length = 1 by omega, List.take_of_length_le (by rw [List.length_drop]; exact Nat.le_refl _)]
/-- t[1:-1] -/
theorem rd_mid {H : Hp} {Q : VK} (e : H a = some (.tup xs)) (h2 : 2 ≤ xs.length) (q : ∀ p H2, Same H H2 → H2 p = some (.tup ((xs.drop 1).take (xs.length - 2))) → Q (.ref p) H2) : rSlA K (.ref a) (some 1) (some (-1)) H Q := by
  have e1 : HT.sIx xs.length 0 (some 1) = min 1 xs.length := HT.sIx_nat _ _ 1
  have e2 : HT.sIx xs.length xs.length (some (-1)) = xs.length - 1 := by
    show (if (-1 : Int) < 0 then ((-1 : Int) + (xs.length : Int)).toNat else min (-1 : Int).toNat xs.length) = xs.length - 1
    rw [if_pos (by decide)]
    omega
  refine ⟨a, xs, rfl, SqT.of e, fun hw => ?_, fun hw p hp => ?_⟩
  · rw [e1] at hw; omega
  · refine q p _ (same_new hp) (upd_same.trans ?_)
    unfold cutV
    rw [e1, e2, show min 1 xs.length = 1 by omega, show xs.length - 1 - 1 = xs.length - 2 by omega]
end
section
variable {X : Cx} {e : Expr} {te : TE} {pos p1 p2 p3 p4 : Pos} {k k2 : Nat}
theorem pe_up (h : PE X e te) : PE X e (fun σ H Q => ∃ R : VK, te σ H R ∧ ∀ x H1, R x H1 → Q x H1) :=
  ⟨fun pins s σ H Q I ⟨R, hr, hq⟩ => thn (h.run pins s σ H R I hr) fun v s1 ⟨x, H1, I1, r1, q1⟩ => ⟨x, H1, I1, r1, hq x H1 q1⟩⟩
def tTail (te : TE) : TE := fun σ H Q => te σ H fun x H1 => ∃ a xs, x = .ref a ∧ H1 a = some (.tup xs) ∧ ∀ p H2, Same H1 H2 → H2 p = some (.tup (xs.drop 1)) → Q (.ref p) H2
/-- t[1:] -/
theorem pe_tail (h : PE X e te) : PE X (.Subscript e (.Slice (some (.Constant (.int 1) k p1)) none none p2) pos) (tTail te) :=
  ⟨fun pins s σ H Q I hw => (pe_slice sl_tupA (pe_up h) (po_some (pe_int (i := 1))) po_none).run pins s σ H Q I ⟨_, hw, fun x H1 ⟨a, xs, ea, ex, q⟩ => ⟨1, rfl, by subst ea; exact rd_tail (K := X.K) ex q⟩⟩⟩
def tMid (te : TE) : TE := fun σ H Q => te σ H fun x H1 => ∃ a xs, x = .ref a ∧ H1 a = some (.tup xs) ∧ 2 ≤ xs.length ∧ ∀ p H2, Same H1 H2 → H2 p = some (.tup ((xs.drop 1).take (xs.length - 2))) → Q (.ref p) H2
/-- t[1:-1] -/
theorem pe_mid (h : PE X e te) : PE X (.Subscript e (.Slice (some (.Constant (.int 1) k p1)) (some (.UnaryOp .USub (.Constant (.int 1) k2 p3) p4)) none p2) pos) (tMid te) :=
  ⟨fun pins s σ H Q I hw => (pe_slice sl_tupA (pe_up h) (po_some (pe_int (i := 1))) (po_some (pe_un un_neg (pe_int (i := 1))))).run pins s σ H Q I ⟨_, hw, fun x H1 ⟨a, xs, ea, ex, h2, q⟩ => ⟨1, rfl, 1, rfl, -1, rfl, by subst ea; exact rd_mid (K := X.K) ex h2 q⟩⟩⟩
end
section
variable {X : Cx}
def rAllB : List V → Hp → VK → Prop := fun xs H Q => ∃ (D : Addr) (bs : List Bool), xs = [.ref D] ∧ LstV blV H D bs ∧ Q (.bl (bs.all id)) H
/-- all of a list of truths -/
theorem call_all (hc : X.calm = true) : CallR X (.builtin "all") rAllB := fun pins s σ H xs us Q I r ⟨D, bs, e, L, q⟩ => cr_all hc pins s σ H xs us Q I r ⟨D, bs, e, SqL.of L.bls, q⟩
def rAnyB : List V → Hp → VK → Prop := fun xs H Q => ∃ (D : Addr) (bs : List Bool), xs = [.ref D] ∧ LstV blV H D bs ∧ Q (.bl (bs.any id)) H
theorem call_any (hc : X.calm = true) : CallR X (.builtin "any") rAnyB := fun pins s σ H xs us Q I r ⟨D, bs, e, L, q⟩ => cr_any hc pins s σ H xs us Q I r ⟨D, bs, e, SqL.of L.bls, q⟩
end
theorem all_map_true {α : Type} {l : List α} {f : α → Bool} (h : ∀ x ∈ l, f x = true) : (l.map f).all id = true := by
  rw [List.all_eq_true]
  intro b hb
  obtain ⟨x, hx, e⟩ := List.mem_map.mp hb
  rw [← e]; exact h x hx
theorem any_map_iff {α : Type} {l : List α} {f : α → Bool} : (l.map f).any id = true ↔ ∃ x ∈ l, f x = true := by
  rw [List.any_eq_true]
  constructor
  · rintro ⟨b, hb, e⟩
    obtain ⟨x, hx, e2⟩ := List.mem_map.mp hb
    exact ⟨x, hx, by rw [e2]; exact e⟩
  · rintro ⟨x, hx, e⟩
    exact ⟨_, List.mem_map.mpr ⟨x, hx, rfl⟩, e⟩
/-- neighbours in a list -/
theorem zip_get {α : Type} {l : List α} {i : Nat} {p : α × α} (h : (l.zip (l.drop 1))[i]? = some p) : l[i]? = some p.1 ∧ l[i + 1]? = some p.2 := by
  rw [List.getElem?_zip_eq_some, List.getElem?_drop] at h
  exact ⟨h.1, by rw [Nat.add_comm]; exact h.2⟩
theorem zip_len {α : Type} (l : List α) : (l.zip (l.drop 1)).length = l.length - 1 := by rw [List.length_zip, List.length_drop]; omega
end MF

set_option autoImplicit false
set_option Elab.async false
set_option linter.all false
set_option maxRecDepth 100000
set_option maxHeartbeats 400000
/-! Walks: parts. -/
namespace MF
open PySem PySem.Spec PyProof.Rows L2
theorem NKs.at_ {α : Type} {f : α → NestedKey} {H : Hp} {cs : List α} {vs : List V} (n : NKs H (cs.map f) vs) {i : Nat} {x : V} {a : α} (hx : vs[i]? = some x) (ha : cs[i]? = some a) : NK H (f a) x := by
  obtain ⟨c, h1, h2⟩ := n.getm hx
  rw [ha] at h1; cases h1; exact h2
section
variable {P : Program} {w : World} {K : PySem.W.Frag} {mg : Str → Option Value} {base : Heap}
theorem scParts : FnScope ["floor", "near", "met", "found", "cell", "part", "one"] ["floor"] (defScope sParts) := ⟨rfl, rfl, rfl, by decide +kernel, rfl, by decide +kernel, by decide +kernel⟩
def PartsOf (Fl : List Cell) (Ps : List (List Cell)) : Prop := (∀ p ∈ Ps, ∃ c ∈ Fl, ∀ x, x ∈ p ↔ Mow.Reach Fl c x) ∧ ∀ x ∈ Fl, ∃ p ∈ Ps, x ∈ p
def spParts : Sp := fun vs H Q _ => ∃ (v : V) (Fl : List Cell), vs = [v] ∧ NK H (csk Fl) v ∧ Fl.Nodup ∧ (∀ c ∈ Fl, InR c) ∧ Fl.length ≤ 1000 ∧
  ∀ H' u Ps, Same H H' → NK H' (wsk Ps) u → PartsOf Fl Ps → Ps.length ≤ Fl.length → Q u H'
theorem ok_parts (T : Tx mg) (D1 : Dn P w K mg base 2 "neighbours_of_all" ["floor"] (spNeighAll P w)) (D2 : Dn P w K mg base 1 "part_of" ["near", "cell"] (spPartOf P w)) (F : FunD K mg "parts" sParts ["floor"]) : Dn P w K mg base 3 "parts" ["floor"] spParts := .of F fun f fd F => by
  refine F.ok scParts (fun vs H Q E h => ?_) (fun cdv A outer s H vs Q E hr h => ?_)
  · obtain ⟨v, Fl, rfl, _⟩ := h; rfl
  · obtain ⟨v, Fl, rfl, nf, fN, fR, fz, q⟩ := h
    have hu := room20 hr
    refine ⟨_, pss_cons (ps_set (i := 1) scParts.nd rfl (.inl rfl) (pe_dn D1 hr (by rfl) (pa_cons (pv 0) pa_nil)))
      (pss_cons (ps_set (i := 2) scParts.nd rfl (.inl rfl) pe_nnew)
      (pss_cons (ps_set (i := 3) scParts.nd rfl (.inl rfl) (pe_lst pa_nil))
      (pss_cons (ps_for PassesOwn.never rfl (pi_tup (pv 0)) (pg_name (i := 4) scParts.nd rfl (.inl rfl))
        (pss_one (ps_if (pt_cmpR (op_ndnin hu) (pv 4) (pv 2) rfl)
          (pss_cons (ps_set (i := 5) scParts.nd rfl (.inl rfl) (pe_dn D2 (hr.mono (by decide)) (by rfl) (pa_cons (pv 1) (pa_cons (pv 4) pa_nil))))
          (pss_cons (ps_expr (pe_nupd hu (pv 2) (pa_cons (pe_callTy (call_ndict rfl hu) (by rfl) T.dict (by decide +kernel) (pa_cons
            (pe_lc (own := [("one", 6)]) (g := gName 6) rfl scParts.nd (pi_tup (pv 5)) (blkOk_by (N := ["floor", "near", "met", "found", "cell", "part", "one"]) (sc := defScope sParts) (by decide +kernel))
              (fun _ _ _ _ _ => pg_name (i := 6) scParts.nd rfl (Or.inl rfl)) (fun _ _ _ _ _ => pts_nil) (fun _ _ _ _ _ => pe_tup (pa_cons (pv 6) (pa_cons pe_bl pa_nil)))) pa_nil)) pa_nil)))
          (pss_one (ps_expr (pe_bm PySem.F.plainAttrs_list PySem.F.slot_list_append PySem.F.type_list_append mt_append (pv 3) (pa_cons (pv 5) pa_nil)))))) pss_nil)))
      (pss_one (ps_ret (pe_callTy call_tupL (by rfl) T.tuple (by decide +kernel) (pa_cons (pv 3) pa_nil))))))), ?_⟩
    obtain ⟨tf, xf, rfl, ef, af⟩ := nf.seq
    have hxl : xf.length = Fl.length := af.lenm
    refine ⟨.ref tf, rfl, .ref tf, Fl, rfl, .tup ef af, fN, fz, fun Hn nr sn hn Dn => ?_⟩
    intro dm ob hdm Dm0
    have Dm := Dm0 Cell Unit inferInstance cellR trueV
    have s1 : Same Hn (upd Hn dm (dno dm ob)) := same_new hdm
    generalize upd Hn dm (dno dm ob) = H1 at s1 Dm
    refine ⟨by show 0 ≤ sizeLine; exact Nat.zero_le _, fun fl hfl => ?_⟩
    have nml : dm ≠ fl := Dm.ne hfl
    have hfl0 : Hn fl = none := s1.free hfl
    refine ⟨.ref tf, rfl, tf, rfl, ⟨_, SqT.of ((sn.trans (s1.trans (same_new hfl))) _ _ ef)⟩, ?_⟩
    refine for_it (walk_tup (xs := xf)) (fun i σ H2 => ∃ (ms : List (Cell × Unit)) (Ps : List (List Cell)) (y4 y5 : Option V), σ = [some (.ref tf), some (.ref nr), some (.ref dm), some (.ref fl), y4, y5, none] ∧ Same Hn H2 ∧
        Dct P w cellR trueV H2 dm ms ∧ LstV (nkV csk) H2 fl Ps ∧ (∀ x ∈ ms.map (·.1), x ∈ Fl) ∧ (∀ p ∈ Ps, ∃ c ∈ Fl, ∀ x, x ∈ p ↔ Mow.Reach Fl c x) ∧ (∀ x ∈ Fl.take i, ∃ p ∈ Ps, x ∈ p) ∧ (∀ x ∈ ms.map (·.1), ∃ p ∈ Ps, x ∈ p) ∧ Ps.length ≤ i)
      ⟨[], [], none, none, rfl, s1.trans (same_new hfl), Dm.upd hfl, LstV.start H1 fl, fun x hx => by simp at hx, fun p hp => by simp at hp, fun x hx => by simp at hx, fun x hx => by simp at hx, Nat.le_refl _⟩
      (fun i σ H2 _ ⟨_, _, _, _, _, s2, _⟩ => SqT.of ((sn.trans s2) _ _ ef)) ?_ ?_
    · rintro i y σ H2 H2' hi ⟨ms, Ps, y4, y5, rfl, s2, Dm2, L, mF, pR, pT, pM, pl⟩ ⟨rfl, hy⟩
      obtain ⟨c, hc, nc⟩ := af.getm hy
      have cF : c ∈ Fl := Mow.get_mem hc
      have nc2 : NK H2' (ck c) y := nc.same (sn.trans s2)
      refine ⟨y, rfl, .ref dm, rfl, Cell, Unit, inferInstance, cellR, trueV, dm, ms, c, rfl, Dm2, nc2, _, rfl, ?_⟩
      refine t_ite (fun hq => ?_) (fun hq => ?_)
      · have cM : c ∉ ms.map (·.1) := by simpa using hq
        refine ⟨.ref nr, rfl, y, rfl, nr, y, Fl, c, rfl, Dn.same s2, nc2, cF, fN, fz, fun H3 u p s3 np pN pP => ?_⟩
        have pF : ∀ x ∈ p, x ∈ Fl := fun x hx => reach_mem ((pP x).mp hx)
        have plen : p.length ≤ Fl.length := Mow.nodup_le pN pF
        obtain ⟨tp, xp, rfl, ep, ap⟩ := np.seq
        have hpl : xp.length = p.length := ap.lenm
        -- met.update(dict([..]))
        refine ⟨.ref dm, rfl, Cell, Unit, inferInstance, cellR, trueV, dm, ms, rfl, Dm2.same s3, .ref tp, rfl, tp, rfl, ⟨_, SqT.of ep⟩, fun D hD => ?_⟩
        refine lc_map (vr := pairV cellR trueV) (walk_tup (xs := xp)) p (fun c => (c, ())) hpl.symm (by omega) hD (fun H s => SqT.of (s _ _ ep)) ?_ ?_
        · rintro j x a H4 H4' k e ha s4 ⟨rfl, hx⟩ hk
          refine ⟨rfl, t_yes ⟨x, rfl, by show 2 ≤ sizeLine; decide, fun t nt => hk _ _ (same_new nt) ⟨t, x, .bl true, rfl, upd_same, ((ap.at_ hx ha).same s4).same (same_new nt), rfl⟩⟩⟩
        · rintro H4 s4 L4
          obtain ⟨acc, a1, a2⟩ := L4
          refine ⟨Cell, Unit, inferInstance, cellR, trueV, D, acc, _, rfl, a1, a2, fun d2 ob2 nd2 Dd2 => ?_⟩
          rw [putAll_nodup _ _ (by rw [List.nil_append, map_fst_map]; exact pN), List.nil_append] at Dd2
          have s5 : Same H3 (upd H4 d2 (dno d2 ob2)) := s4.trans (same_new nd2)
          have Dm5 := (Dm2.same s3).same s5
          have hne : dm ≠ d2 := ((Dm2.same s3).same s4).ne nd2
          have L5 := (L.same s3).same s5
          generalize upd H4 d2 (dno d2 ob2) = H5 at s5 Dd2 Dm5 L5
          have hml : ms.length ≤ Fl.length := by
            have h := Mow.nodup_le Dm5.nodup mF
            rwa [List.length_map] at h
          refine ⟨d2, _, rfl, Dm5, Dd2, hne, ?_, ?_, fun ob3 Dm6 => ?_⟩
          · have e1 : ((p.map fun c => (c, ())).map fun e => (cellR.f e.1).hash w) = p.map fun c => (ck c).hash w := by rw [List.map_map]; rfl
            have e2 := hash_nodup w pN fun c hc => fR c (pF c hc)
            rw [← e1] at e2
            exact e2
          · rw [List.length_map]; exact Nat.le_of_lt (small_line (by omega))
          · obtain ⟨o5, c5⟩ := Dm5.obj
            have tu : Tu H5 (upd H5 dm (dno dm ob3)) := Tu.mut c5 dno_tup
            have hdm0 : Hn dm = none := hdm
            have s35 : Same Hn H5 := s2.trans (s3.trans s5)
            have s6 : Same Hn (upd H5 dm (dno dm ob3)) := same_mut hdm0 s35
            have L6 := L5.mono tu (upd_ne nml.symm)
            have n6 : NK (upd H5 dm (dno dm ob3)) (csk p) (.ref tp) := NK.tu tu (np.same s5)
            obtain ⟨acc6, b1, b2, b3⟩ := L6.push (Same.refl _) (y := .ref tp) (b := p) n6 (by have := Mow.get_lt hc; omega)
            refine ⟨.ref fl, rfl, .inl ⟨rfl, _, SqL.of b1⟩, .ref tp, rfl, fl, acc6, .ref tp, rfl, rfl, b1, b2, ?_⟩
            have tu7 := Tu.mut (H := upd H5 dm (dno dm ob3)) (p := fl) (o := .lst (acc6 ++ [.ref tp])) b1 fun _ z => by cases z
            refine ⟨_, Ps ++ [p], some y, some (.ref tp), rfl, same_mut hfl0 s6, Dm6.keep tu7 (upd_ne nml), b3, fun x hx => ?_, fun p' hp' => ?_, fun x hx => ?_, fun x hx => ?_, ?_⟩
            · rcases (putAll_keys _ _ _).mp hx with h | h
              · exact mF x h
              · rw [map_fst_map] at h; exact pF x h
            · rcases List.mem_append.mp hp' with h | h
              · exact pR p' h
              · rw [List.mem_singleton.mp h]; exact ⟨c, cF, pP⟩
            · rw [take_snoc hc] at hx
              rcases List.mem_append.mp hx with h | h
              · obtain ⟨p', h1, h2⟩ := pT x h
                exact ⟨p', List.mem_append_left _ h1, h2⟩
              · rw [List.mem_singleton.mp h]
                exact ⟨p, List.mem_append_right _ (List.mem_singleton.mpr rfl), (pP c).mpr (.refl cF)⟩
            · rcases (putAll_keys _ _ _).mp hx with h | h
              · obtain ⟨p', h1, h2⟩ := pM x h
                exact ⟨p', List.mem_append_left _ h1, h2⟩
              · rw [map_fst_map] at h
                exact ⟨p, List.mem_append_right _ (List.mem_singleton.mpr rfl), h⟩
            · rw [List.length_append, List.length_singleton]; omega
      · have cM : c ∈ ms.map (·.1) := by simpa using hq
        refine ⟨ms, Ps, some y, y5, rfl, s2, Dm2, L, mF, pR, fun x hx => ?_, pM, Nat.le_succ_of_le pl⟩
        rw [take_snoc hc] at hx
        rcases List.mem_append.mp hx with h | h
        · exact pT x h
        · rw [List.mem_singleton.mp h]; exact pM c cM
    · rintro σ H2 ⟨ms, Ps, y4, y5, rfl, s2, Dm2, L, mF, pR, pT, pM, pl⟩
      obtain ⟨acc, a1, a2⟩ := L.nks
      refine ⟨.ref fl, rfl, fl, acc, rfl, a1, fun l hl => ?_⟩
      rw [take_all (by omega)] at pT
      exact q _ _ Ps ((sn.trans s2).trans (same_new hl)) (nk_tuple hl a2) ⟨pR, pT⟩ (by omega)
end
end MF

set_option autoImplicit false
set_option Elab.async false
set_option linter.all false
set_option maxRecDepth 100000
set_option maxHeartbeats 400000
/-! Walks: are_rising, is_floor, are_near, is_walk. -/
namespace MF
open PySem PySem.Spec PyProof.Rows L2
theorem dec_eq {p q : Prop} {i : Decidable p} {j : Decidable q} (h : p ↔ q) : @decide p i = @decide q j := by
  by_cases z : p
  · rw [decide_eq_true z, decide_eq_true (h.mp z)]
  · rw [decide_eq_false z, decide_eq_false fun z' => z (h.mpr z')]
section
variable {H : Hp} {Q : VK} {x y : V}
theorem rd_ceq {c d : Cell} (neg : Bool) (nx : NK H (ck c) x) (ny : NK H (ck d) y) (q : Q (.bl (ngB neg (decide (c = d)))) H) : rNEq neg x y H Q := by
  refine ⟨_, _, nx, ny, by rw [ck_dep]; decide, by rw [ck_dep]; decide, ?_⟩
  rw [show (decide (ck c = ck d)) = decide (c = d) from dec_eq ⟨ck_inj, fun e => by rw [e]⟩]
  exact q
theorem rd_cmem {c : Cell} {Fl : List Cell} {p : Addr} {xs : List V} (neg : Bool) (nx : NK H (ck c) x) (e : H p = some (.tup xs) ∨ H p = some (.lst xs)) (n : NKs H (Fl.map ck) xs) (q : Q (.bl (ngB neg (decide (c ∈ Fl)))) H) : rNIn neg x (.ref p) H Q := by
  refine ⟨p, xs, _, _, rfl, e, nx, n, by rw [ck_dep]; decide, Nat.le_trans (cks_dep Fl) (by decide), ?_⟩
  have e1 : (decide (ck c ∈ Fl.map ck)) = decide (c ∈ Fl) := dec_eq (mem_map_iff fun _ _ => ck_inj)
  rw [e1]
  exact q
theorem rd_cmemT {c : Cell} {Fl : List Cell} (neg : Bool) (nx : NK H (ck c) x) (ny : NK H (csk Fl) y) (q : Q (.bl (ngB neg (decide (c ∈ Fl)))) H) : rNIn neg x y H Q := by
  obtain ⟨t, xs, rfl, e, n⟩ := ny.seq
  exact rd_cmem neg nx (.inl e) n q
end
section
variable {P : Program} {w : World} {K : PySem.W.Frag} {mg : Str → Option Value} {base : Heap}
theorem scRising : FnScope ["things", "one", "other"] ["things"] (defScope sRising) := ⟨rfl, rfl, rfl, by decide +kernel, rfl, by decide +kernel, by decide +kernel⟩
def Rise (cs : List Cell) : Prop := ∀ p ∈ cs.zip (cs.drop 1), Mow.clt p.1 p.2 = true
def spRising : Sp := fun vs H Q _ => ∃ (v : V) (cs : List Cell), vs = [v] ∧ NK H (csk cs) v ∧ cs.length ≤ 10000 ∧ Rise cs ∧ ∀ H', Same H H' → Q (.bl true) H'
theorem room64 {k : Nat} {A : Around} (hr : Room k A) : A.units + 64 < cLine := by have := hr.un; omega
theorem ok_rising (T : Tx mg) (F : FunD K mg "are_rising" sRising ["things"]) : Dn P w K mg base 1 "are_rising" ["things"] spRising := .of F fun f fd F => by
  refine F.ok scRising (fun vs H Q E h => ?_) (fun cdv A outer s H vs Q E hr h => ?_)
  · obtain ⟨v, cs, rfl, _⟩ := h; rfl
  · obtain ⟨v, cs, rfl, n, hz, hR, q⟩ := h
    refine ⟨_, pss_one (ps_ret (pe_callB (call_all rfl) (by rfl) T.all (by decide +kernel) (pa_cons
      (pe_lc (own := [("one", 1), ("other", 2)]) (g := gTup K 2 _) rfl scRising.nd (RZ.pi_zipA (by rfl) T.zip (pa_cons (pv 0) (pa_cons (pe_tail (pv 0)) pa_nil))) (blkOk_by (N := ["things", "one", "other"]) (sc := defScope sRising) (by decide +kernel))
        (fun _ _ _ _ _ => pg_tupC K rfl rfl (pgs_cons (pg_name (i := 1) scRising.nd rfl (Or.inl rfl)) (pgs_cons (pg_name (i := 2) scRising.nd rfl (Or.inl rfl)) pgs_nil))) (fun _ _ _ _ _ => pts_nil)
        (fun _ _ _ _ _ => pe_cmpR (op_clt (room20 hr)) (pv 1) (pv 2) rfl)) pa_nil))), ?_⟩
    obtain ⟨t, xs, rfl, e, a⟩ := n.seq
    have hl : xs.length = cs.length := a.lenm
    refine ⟨.ref t, rfl, .ref t, rfl, t, xs, rfl, e, fun p H1 s1 e1 => ?_⟩
    refine ⟨t, p, xs, xs.drop 1, rfl, .inr ⟨SqT.of (s1 _ _ e), SqT.of e1, fun D hD => ?_⟩⟩
    refine lc_map (vr := blV) (walk_pairs (xs := xs)) (cs.zip (cs.drop 1)) (fun _ => true) (by rw [zip_len, hl]) (by omega) hD (fun H s => ⟨SqT.of (s _ _ (s1 _ _ e)), SqT.of (s _ _ e1)⟩) ?_ ?_
    · rintro i v ⟨c, d⟩ H2 H2' k e2 hc s2 ⟨T', x, y, rfl, hT, rfl, hx, hy⟩ hk
      have hp := hR _ (Mow.get_mem hc)
      obtain ⟨c1, c2⟩ := zip_get hc
      have ss : Same H (upd H2 T' (.tup [x, y])) := s1.trans (s2.trans (same_new hT))
      refine ⟨T', _, rfl, SqT.of upd_same, rfl, _, _, rfl, _, _, rfl, rfl, rfl, t_yes ⟨x, rfl, y, rfl, c, d, (a.at_ hx c1).same ss, (a.at_ hy c2).same ss, ?_⟩⟩
      rw [hp]
      exact hk _ _ (same_new hT) rfl
    · rintro H2 s2 L
      exact ⟨_, _, rfl, L, by rw [all_map_true fun _ _ => rfl]; exact q _ (s1.trans s2)⟩

theorem scFloor : FnScope ["thing", "one"] ["thing"] (defScope sFloor) := ⟨rfl, rfl, rfl, by decide +kernel, rfl, by decide +kernel, by decide +kernel⟩
def spFloor : Sp := fun vs H Q _ => ∃ (v : V) (cs : List Cell), vs = [v] ∧ NK H (csk cs) v ∧ cs.length ≤ 10000 ∧ Rise cs ∧ (∀ c ∈ cs, InR c) ∧ ∀ H', Same H H' → Q (.bl true) H'
theorem ok_floor (T : Tx mg) (D1 : Dn P w K mg base 2 "is_cell" ["thing"] spCell) (D2 : Dn P w K mg base 1 "are_rising" ["things"] spRising) (F : FunD K mg "is_floor" sFloor ["thing"]) : Dn P w K mg base 3 "is_floor" ["thing"] spFloor := .of F fun f fd F => by
  refine F.ok scFloor (fun vs H Q E h => ?_) (fun cdv A outer s H vs Q E hr h => ?_)
  · obtain ⟨v, cs, rfl, _⟩ := h; rfl
  · obtain ⟨v, cs, rfl, n, hz, hR, hI, q⟩ := h
    refine ⟨_, pss_one (ps_ret (pe_and (pe_callB call_isi (by rfl) T.isi (by decide +kernel) (pa_cons (pv 0) (pa_cons (pe_bltn (v := .ty "tuple") (by rfl) T.tuple (by decide +kernel) rfl) pa_nil)))
      (pe_and (pe_callB (call_all rfl) (by rfl) T.all (by decide +kernel) (pa_cons
        (pe_lc (own := [("one", 1)]) (g := gName 1) rfl scFloor.nd (pi_tup (pv 0)) (blkOk_by (N := ["thing", "one"]) (sc := defScope sFloor) (by decide +kernel))
          (fun _ _ _ _ _ => pg_name (i := 1) scFloor.nd rfl (Or.inl rfl)) (fun _ _ _ _ _ => pts_nil) (fun _ _ _ _ _ => pe_dn D1 hr (by rfl) (pa_cons (pv 1) pa_nil))) pa_nil))
        (pe_one (pe_dn D2 (hr.mono (by decide)) (by rfl) (pa_cons (pv 0) pa_nil)))))), ?_⟩
    obtain ⟨t, xs, rfl, e, a⟩ := id n.seq
    have hl : xs.length = cs.length := a.lenm
    refine ⟨_, rfl, _, _, _, _, true, rfl, .ty "tuple", .base (.tup e), kit_ty (by decide +kernel), true, rfl, iteT ?_⟩
    refine ⟨_, rfl, t, rfl, ⟨_, SqT.of e⟩, fun D hD => ?_⟩
    refine lc_map (vr := blV) (walk_tup (xs := xs)) cs (fun _ => true) hl.symm (by omega) hD (fun H s => SqT.of (s _ _ e)) ?_ ?_
    · rintro i x c H2 H2' k e2 hc s2 ⟨rfl, hx⟩ hk
      exact ⟨rfl, t_yes ⟨x, rfl, x, c, rfl, (a.at_ hx hc).same s2, hI c (Mow.get_mem hc), hk _ _ (Same.refl _) rfl⟩⟩
    · rintro H2 s2 L
      refine ⟨_, _, rfl, L, ?_⟩
      rw [all_map_true fun _ _ => rfl]
      exact ⟨true, rfl, iteT ⟨.ref t, rfl, .ref t, cs, rfl, n.same s2, hz, hR, fun H' s3 => q H' (s2.trans s3)⟩⟩

theorem scNear : FnScope ["field", "a", "b"] ["field", "a", "b"] (defScope sNear) := ⟨rfl, rfl, rfl, by decide +kernel, rfl, by decide +kernel, by decide +kernel⟩
def spNear : Sp := fun vs H Q _ => ∃ (vf va vb : V) (Fl : List Cell) (a b : Cell), vs = [vf, va, vb] ∧ NK H (csk Fl) vf ∧ NK H (ck a) va ∧ NK H (ck b) vb ∧ a ≠ b ∧ b ∉ Mow.nb a ∧ ∀ H', Same H H' → Q (.bl false) H'
theorem ok_near (T : Tx mg) (D1 : Dn P w K mg base 2 "neighbours" ["floor", "cell"] spNeigh) (F : FunD K mg "are_near" sNear ["field", "a", "b"]) : Dn P w K mg base 3 "are_near" ["field", "a", "b"] spNear := .of F fun f fd F => by
  refine F.ok scNear (fun vs H Q E h => ?_) (fun cdv A outer s H vs Q E hr h => ?_)
  · obtain ⟨vf, va, vb, Fl, a, b, rfl, _⟩ := h; rfl
  · obtain ⟨vf, va, vb, Fl, a, b, rfl, nf, na, nb, ne, nn, q⟩ := h
    refine ⟨_, pss_one (ps_ret (pe_or (pe_cmpR (op_neqT (room64 hr)) (pv 1) (pv 2) rfl) (pe_one (pe_cmpR (op_nin (room65 hr)) (pv 2) (pe_dn D1 hr (by rfl) (pa_cons (pv 0) (pa_cons (pv 1) pa_nil))) rfl)))), ?_⟩
    refine ⟨va, rfl, vb, rfl, rd_ceq false na nb ⟨_, rfl, ?_⟩⟩
    show if decide (a = b) = true then _ else _
    rw [decide_eq_false ne]
    refine iteF ⟨vb, rfl, vf, rfl, va, rfl, vf, va, Fl, a, rfl, nf, na, fun H' v s1 nv => ?_⟩
    refine rd_cmemT false (nb.same s1) nv ?_
    show Q (.bl (decide (b ∈ nbF Fl a))) H'
    rw [decide_eq_false fun h => nn (mem_nbF.mp h).1]
    exact q H' s1

theorem scWalk : FnScope ["field", "thing", "known", "one", "cell", "other"] ["field", "thing"] (defScope sWalk) := ⟨rfl, rfl, rfl, by decide +kernel, rfl, by decide +kernel, by decide +kernel⟩
/-- a walk -/
def WalkIn (Fl ws : List Cell) : Prop := ws ≠ [] ∧ (∀ c ∈ ws, c ∈ Fl) ∧ ∀ p ∈ ws.zip (ws.drop 1), p.2 ∈ Mow.nb p.1
def spWalk : Sp := fun vs H Q _ => ∃ (vf v : V) (Fl ws : List Cell), vs = [vf, v] ∧ NK H (csk Fl) vf ∧ NK H (csk ws) v ∧ Fl.Nodup ∧ Fl.length ≤ 1000 ∧ ws.length ≤ 10000 ∧ (∀ c ∈ Fl, InR c) ∧ WalkIn Fl ws ∧ ∀ H', Same H H' → Q (.bl true) H'
theorem ok_walk (T : Tx mg) (D1 : Dn P w K mg base 2 "is_cell" ["thing"] spCell) (D2 : Dn P w K mg base 1 "beside" ["cell"] spBeside) (F : FunD K mg "is_walk" sWalk ["field", "thing"]) : Dn P w K mg base 3 "is_walk" ["field", "thing"] spWalk := .of F fun f fd F => by
  refine F.ok scWalk (fun vs H Q E h => ?_) (fun cdv A outer s H vs Q E hr h => ?_)
  · obtain ⟨vf, v, Fl, ws, rfl, _⟩ := h; rfl
  · obtain ⟨vf, v, Fl, ws, rfl, nf, nw, fN, fz, wz, fR, ⟨w0, wF, wA⟩, q⟩ := h
    refine ⟨_, pss_cons (ps_if (PW.pt (pw_or (pt_not (pt_val (pe_callB call_isi (by rfl) T.isi (by decide +kernel) (pa_cons (pv 1) (pa_cons (pe_bltn (v := .ty "tuple") (by rfl) T.tuple (by decide +kernel) rfl) pa_nil)))))
        (pw_or (pt_cmpR op_eq (pe_callB call_len_seq (by rfl) T.len PySem.boot_len (pa_cons (pv 1) pa_nil)) pe_int (nomark _))
        (pw_or1 (pt_not (pt_val (pe_callB (call_all rfl) (by rfl) T.all (by decide +kernel) (pa_cons
          (pe_lc (own := [("one", 3)]) (g := gName 3) rfl scWalk.nd (pi_tup (pv 1)) (blkOk_by (N := ["field", "thing", "known", "one", "cell", "other"]) (sc := defScope sWalk) (by decide +kernel))
            (fun _ _ _ _ _ => pg_name (i := 3) scWalk.nd rfl (Or.inl rfl)) (fun _ _ _ _ _ => pts_nil) (fun _ _ _ _ _ => pe_dn D1 hr (by rfl) (pa_cons (pv 3) pa_nil))) pa_nil))))))))
        (pss_one (ps_ret pe_bl)) pss_nil)
      (pss_cons (ps_set (i := 2) scWalk.nd rfl (.inr rfl) (pe_callTy (call_ndict rfl (room20 hr)) (by rfl) T.dict (by decide +kernel) (pa_cons
        (pe_lc (own := [("cell", 4)]) (g := gName 4) rfl scWalk.nd (pi_tup (pv 0)) (blkOk_by (N := ["field", "thing", "known", "one", "cell", "other"]) (sc := defScope sWalk) (by decide +kernel))
          (fun _ _ _ _ _ => pg_name (i := 4) scWalk.nd rfl (Or.inl rfl)) (fun _ _ _ _ _ => pts_nil) (fun _ _ _ _ _ => pe_tup (pa_cons (pv 4) (pa_cons pe_bl pa_nil)))) pa_nil)))
      (pss_cons (ps_if (pt_not (pt_val (pe_callB (call_all rfl) (by rfl) T.all (by decide +kernel) (pa_cons
          (pe_lc (own := [("one", 3)]) (g := gName 3) rfl scWalk.nd (pi_tup (pv 1)) (blkOk_by (N := ["field", "thing", "known", "one", "cell", "other"]) (sc := defScope sWalk) (by decide +kernel))
            (fun _ _ _ _ _ => pg_name (i := 3) scWalk.nd rfl (Or.inl rfl)) (fun _ _ _ _ _ => pts_nil) (fun _ _ _ _ _ => pe_cmpR (op_ndinC P w rfl rfl (room20 hr)) (pv 3) (pv 2) rfl)) pa_nil))))
        (pss_one (ps_ret pe_bl)) pss_nil)
      (pss_one (ps_ret (pe_callB (call_all rfl) (by rfl) T.all (by decide +kernel) (pa_cons
        (pe_lc (own := [("one", 3), ("other", 5)]) (g := gTup K 2 _) rfl scWalk.nd (RZ.pi_zipA (by rfl) T.zip (pa_cons (pv 1) (pa_cons (pe_tail (pv 1)) pa_nil))) (blkOk_by (N := ["field", "thing", "known", "one", "cell", "other"]) (sc := defScope sWalk) (by decide +kernel))
          (fun _ _ _ _ _ => pg_tupC K rfl rfl (pgs_cons (pg_name (i := 3) scWalk.nd rfl (Or.inl rfl)) (pgs_cons (pg_name (i := 5) scWalk.nd rfl (Or.inl rfl)) pgs_nil))) (fun _ _ _ _ _ => pts_nil)
          (fun _ _ _ _ _ => pe_cmpR (op_nin (room65 hr)) (pv 5) (pe_dn D2 (hr.mono (by decide)) (by rfl) (pa_cons (pv 3) pa_nil)) rfl)) pa_nil)))))), ?_⟩
    obtain ⟨tf, xf, rfl, ef, af⟩ := nf.seq
    obtain ⟨t, xs, rfl, e, a⟩ := id nw.seq
    have hfl : xf.length = Fl.length := af.lenm
    have hl : xs.length = ws.length := a.lenm
    refine ⟨_, rfl, _, _, _, _, true, rfl, .ty "tuple", .base (.tup e), kit_ty (by decide +kernel), true, rfl, iteF ?_⟩
    refine ⟨_, rfl, t, _, rfl, .inr (SqT.of e), rfl, _, rfl, t_ite (fun h => ?_) (fun _ => ?_)⟩
    · exfalso
      have h2 : (xs.length : Int) = 0 := by simpa using h
      exact w0 (List.length_eq_zero_iff.mp (by omega))
    refine ⟨_, rfl, t, rfl, ⟨_, SqT.of e⟩, fun D hD => ?_⟩
    refine lc_map (vr := blV) (walk_tup (xs := xs)) ws (fun _ => true) hl.symm (by omega) hD (fun H s => SqT.of (s _ _ e)) ?_ ?_
    · rintro i x c H2 H2' k e2 hc s2 ⟨rfl, hx⟩ hk
      exact ⟨rfl, t_yes ⟨x, rfl, x, c, rfl, (a.at_ hx hc).same s2, fR c (wF c (Mow.get_mem hc)), hk _ _ (Same.refl _) rfl⟩⟩
    rintro H2 s2 L
    refine ⟨_, _, rfl, L, ?_⟩
    rw [all_map_true fun _ _ => rfl]
    refine ⟨true, rfl, iteF ?_⟩
    -- known
    refine ⟨.ref tf, rfl, tf, rfl, ⟨_, SqT.of (s2 _ _ ef)⟩, fun D2 hD2 => ?_⟩
    refine lc_map (vr := pairV cellR trueV) (walk_tup (xs := xf)) Fl (fun c => (c, ())) hfl.symm (by omega) hD2 (fun H s => SqT.of (s _ _ (s2 _ _ ef))) ?_ ?_
    · rintro j x a H4 H4' k e ha s4 ⟨rfl, hx⟩ hk
      refine ⟨rfl, t_yes ⟨x, rfl, by show 2 ≤ sizeLine; decide, fun t nt => hk _ _ (same_new nt) ⟨t, x, .bl true, rfl, upd_same, ((af.at_ hx ha).same (s2.trans s4)).same (same_new nt), rfl⟩⟩⟩
    rintro H4 s4 L4
    obtain ⟨acc, a1, a2⟩ := L4
    refine ⟨Cell, Unit, inferInstance, cellR, trueV, D2, acc, _, rfl, a1, a2, fun d2 ob2 nd2 Dd2 => ?_⟩
    rw [putAll_nodup _ _ (by rw [List.nil_append, map_fst_map]; exact fN), List.nil_append] at Dd2
    have s5 : Same H (upd H4 d2 (dno d2 ob2)) := s2.trans (s4.trans (same_new nd2))
    generalize upd H4 d2 (dno d2 ob2) = H5 at s5 Dd2
    refine ⟨_, rfl, t, rfl, ⟨_, SqT.of (s5 _ _ e)⟩, fun D3 hD3 => ?_⟩
    refine lc_map (vr := blV) (walk_tup (xs := xs)) ws (fun _ => true) hl.symm (by omega) hD3 (fun H s => SqT.of (s _ _ (s5 _ _ e))) ?_ ?_
    · rintro i x c H6 H6' k e2 hc s6 ⟨rfl, hx⟩ hk
      refine ⟨rfl, t_yes ⟨x, rfl, .ref d2, rfl, Cell, Unit, inferInstance, cellR, trueV, d2, _, c, rfl, Dd2.same s6, (a.at_ hx hc).same (s5.trans s6), ?_⟩⟩
      rw [map_fst_map]
      have hm := wF c (Mow.get_mem hc)
      simpa [hm, ngB] using hk (.bl true) H6' (Same.refl _) rfl
    rintro H6 s6 L6
    refine ⟨_, _, rfl, L6, ?_⟩
    rw [all_map_true fun _ _ => rfl]
    refine ⟨true, rfl, iteF ?_⟩
    have s06 : Same H H6 := s5.trans s6
    refine ⟨.ref t, rfl, .ref t, rfl, t, xs, rfl, s06 _ _ e, fun p H7 s7 e7 => ?_⟩
    refine ⟨t, p, xs, xs.drop 1, rfl, .inr ⟨SqT.of (s7 _ _ (s06 _ _ e)), SqT.of e7, fun D8 hD8 => ?_⟩⟩
    refine lc_map (vr := blV) (walk_pairs (xs := xs)) (ws.zip (ws.drop 1)) (fun _ => true) (by rw [zip_len, hl]) (by omega) hD8 (fun H s => ⟨SqT.of (s _ _ (s7 _ _ (s06 _ _ e))), SqT.of (s _ _ e7)⟩) ?_ ?_
    · rintro i v ⟨c, d⟩ H8 H8' k e2 hc s8 ⟨T', x, y, rfl, hT, rfl, hx, hy⟩ hk
      have hp := wA _ (Mow.get_mem hc)
      obtain ⟨c1, c2⟩ := zip_get hc
      have ss : Same H (upd H8 T' (.tup [x, y])) := s06.trans (s7.trans (s8.trans (same_new hT)))
      refine ⟨T', _, rfl, SqT.of upd_same, rfl, _, _, rfl, _, _, rfl, rfl, rfl, t_yes ⟨y, rfl, x, rfl, x, c, rfl, (a.at_ hx c1).same ss, fun H9 t9 x9 s9 e9 n9 => ?_⟩⟩
      refine rd_cmem false ((a.at_ hy c2).same (ss.trans s9)) (.inl e9) n9 ?_
      show k (.bl (decide (d ∈ Mow.nb c))) H9
      rw [decide_eq_true hp]
      exact hk _ _ ((same_new hT).trans s9) rfl
    · rintro H8 s8 L8
      refine ⟨_, _, rfl, L8, ?_⟩
      rw [all_map_true fun _ _ => rfl]
      exact q _ (s06.trans (s7.trans s8))
end
end MF

set_option autoImplicit false
set_option Elab.async false
set_option linter.all false
set_option maxRecDepth 100000
set_option maxHeartbeats 400000
/-! Walks: are_bars, are_apart, shows_barred. -/
namespace MF
open PySem PySem.Spec PyProof.Rows L2
theorem atI_zero {xs : List V} {v : V} (h : xs[0]? = some v) : atI xs 0 = some v := by
  cases xs with
  | nil => simp at h
  | cons x xs => simp [atI, ixN]; simpa using h
theorem atI_last {xs : List V} {v : V} (h : xs[xs.length - 1]? = some v) : atI xs (-1) = some v := by
  have hl := Mow.get_lt h
  have e : ixN xs.length (-1) = some (xs.length - 1) := by
    unfold ixN
    rw [if_neg (by decide)]
    split
    · congr 1; omega
    · omega
  unfold atI
  rw [e]
  exact h
theorem atI_nat {xs : List V} {i : Nat} {v : V} (h : xs[i]? = some v) : atI xs (i : Int) = some v := by
  have hl := Mow.get_lt h
  have e : ixN xs.length (i : Int) = some i := by
    unfold ixN
    rw [if_pos (by omega)]
    split
    · congr 1
    · omega
  unfold atI
  rw [e]
  exact h
section
variable {P : Program} {w : World} {K : PySem.W.Frag} {mg : Str → Option Value} {base : Heap}
abbrev nBars : List Str := ["field", "a", "b", "cells", "left", "cell", "part"]
theorem scBars : FnScope nBars ["field", "a", "b", "cells"] (defScope sBars) := ⟨rfl, rfl, rfl, by decide +kernel, rfl, by decide +kernel, by decide +kernel⟩
def spBars : Sp := fun vs H Q _ => ∃ (vf va vb vc : V) (Fl : List Cell) (a b : Cell) (C : List Cell), vs = [vf, va, vb, vc] ∧ NK H (csk Fl) vf ∧ NK H (ck a) va ∧ NK H (ck b) vb ∧ NK H (csk C) vc ∧ Fl.Nodup ∧ (∀ c ∈ Fl, InR c) ∧ Fl.length ≤ 1000 ∧
  C.length ≤ 1000 ∧ Rise C ∧ (∀ c ∈ C, c ∈ Fl) ∧ a ∉ C ∧ b ∉ C ∧ ¬ Mow.Reach (Fl.filter fun x => !decide (x ∈ C)) a b ∧ ∀ H', Same H H' → Q (.bl true) H'
theorem ok_bars (T : Tx mg) (D1 : Dn P w K mg base 3 "is_floor" ["thing"] spFloor) (D2 : Dn P w K mg base 3 "parts" ["floor"] spParts) (F : FunD K mg "are_bars" sBars ["field", "a", "b", "cells"]) : Dn P w K mg base 4 "are_bars" ["field", "a", "b", "cells"] spBars := .of F fun f fd F => by
  refine F.ok scBars (fun vs H Q E h => ?_) (fun cdv A outer s H vs Q E hr h => ?_)
  · obtain ⟨vf, va, vb, vc, Fl, a, b, C, rfl, _⟩ := h; rfl
  · obtain ⟨vf, va, vb, vc, Fl, a, b, C, rfl, nf, na, nb, nc, fN, fR, fz, cz, hR, cF, aC, bC, nR, q⟩ := h
    refine ⟨_, pss_cons (ps_if (PW.pt (pw_or (pt_not (pt_val (pe_dn D1 hr (by rfl) (pa_cons (pv 3) pa_nil))))
        (pw_or1 (pt_not (pt_val (pe_callB (call_all rfl) (by rfl) T.all (by decide +kernel) (pa_cons
          (pe_lc (own := [("cell", 5)]) (g := gName 5) rfl scBars.nd (pi_tup (pv 3)) (blkOk_by (N := nBars) (sc := defScope sBars) (by decide +kernel))
            (fun _ _ _ _ _ => pg_name (i := 5) scBars.nd rfl (Or.inl rfl)) (fun _ _ _ _ _ => pts_nil)
            (fun _ _ _ _ _ => pe_and (pe_cmpR (op_nin (room65 hr)) (pv 5) (pv 0) rfl) (pe_and (pe_cmpR (op_nneT (room64 hr)) (pv 5) (pv 1) rfl) (pe_one (pe_cmpR (op_nneT (room64 hr)) (pv 5) (pv 2) rfl))))) pa_nil)))))))
        (pss_one (ps_ret pe_bl)) pss_nil)
      (pss_cons (ps_set (i := 4) scBars.nd rfl (.inl rfl) (pe_callTy call_tupL (by rfl) T.tuple (by decide +kernel) (pa_cons
        (pe_lc (own := [("cell", 5)]) (g := gName 5) rfl scBars.nd (pi_tup (pv 0)) (blkOk_by (N := nBars) (sc := defScope sBars) (by decide +kernel))
          (fun _ _ _ _ _ => pg_name (i := 5) scBars.nd rfl (Or.inl rfl)) (fun _ _ _ _ _ => pts_one (pt_cmpR (op_nnin (room65 hr)) (pv 5) (pv 3) rfl)) (fun _ _ _ _ _ => pv 5)) pa_nil)))
      (pss_one (ps_ret (pe_not (pe_callB (call_any rfl) (by rfl) T.any (by decide +kernel) (pa_cons
        (pe_lc (own := [("part", 6)]) (g := gName 6) rfl scBars.nd (pi_tup (pe_dn D2 hr (by rfl) (pa_cons (pv 4) pa_nil))) (blkOk_by (N := nBars) (sc := defScope sBars) (by decide +kernel))
          (fun _ _ _ _ _ => pg_name (i := 6) scBars.nd rfl (Or.inl rfl)) (fun _ _ _ _ _ => pts_nil)
          (fun _ _ _ _ _ => pe_and (pe_cmpR (op_nin (room65 hr)) (pv 1) (pv 6) rfl) (pe_one (pe_cmpR (op_nin (room65 hr)) (pv 2) (pv 6) rfl)))) pa_nil)))))), ?_⟩
    obtain ⟨tf, xf, rfl, ef, af⟩ := id nf.seq
    obtain ⟨tc, xc, rfl, ec, ac⟩ := id nc.seq
    have hfl : xf.length = Fl.length := af.lenm
    have hcl : xc.length = C.length := ac.lenm
    refine ⟨.ref tc, rfl, .ref tc, C, rfl, nc, by omega, hR, fun c hc => fR c (cF c hc), fun H1 s1 => ⟨true, rfl, iteF ?_⟩⟩
    refine ⟨.ref tc, rfl, tc, rfl, ⟨_, SqT.of (s1 _ _ ec)⟩, fun D hD => ?_⟩
    refine lc_map (vr := blV) (walk_tup (xs := xc)) C (fun _ => true) hcl.symm (by omega) hD (fun H s => SqT.of (s _ _ (s1 _ _ ec))) ?_ ?_
    · rintro i x c H2 H2' k e2 hc s2 ⟨rfl, hx⟩ hk
      have cm := Mow.get_mem hc
      have ss : Same H H2' := s1.trans s2
      have nx := (ac.at_ hx hc).same ss
      refine ⟨rfl, t_yes ⟨x, rfl, .ref tf, rfl, rd_cmemT false nx (nf.same ss) ⟨_, rfl, ?_⟩⟩⟩
      show if decide (c ∈ Fl) = true then _ else _
      rw [decide_eq_true (cF c cm)]
      refine iteT ⟨x, rfl, va, rfl, rd_ceq true nx (na.same ss) ⟨_, rfl, ?_⟩⟩
      show if (!decide (c = a)) = true then _ else _
      rw [decide_eq_false fun z : c = a => aC (z ▸ cm)]
      refine iteT ⟨x, rfl, vb, rfl, rd_ceq true nx (nb.same ss) ?_⟩
      show k (.bl (!decide (c = b))) H2'
      rw [decide_eq_false fun z : c = b => bC (z ▸ cm)]
      exact hk _ _ (Same.refl _) rfl
    rintro H2 s2 L
    refine ⟨_, _, rfl, L, ?_⟩
    rw [all_map_true fun _ _ => rfl]
    refine ⟨true, rfl, iteF ?_⟩
    have s02 : Same H H2 := s1.trans s2
    refine ⟨.ref tf, rfl, tf, rfl, ⟨_, SqT.of (s02 _ _ ef)⟩, fun D2 hD2 => ?_⟩
    refine lc_filter (vr := nkV ck) (walk_tup (xs := xf)) Fl (fun x => !decide (x ∈ C)) hfl.symm (by omega) hD2 (fun H s => SqT.of (s _ _ (s02 _ _ ef))) ?_ ?_
    · rintro i x c H3 H3' k e hc s3 ⟨rfl, hx⟩ hk he
      have ss : Same H H3' := s02.trans s3
      have nx := (af.at_ hx hc).same ss
      refine ⟨rfl, _, rfl, .ref tc, rfl, rd_cmemT true nx (nc.same ss) ⟨_, rfl, ?_⟩⟩
      exact t_ite (fun z => ⟨_, rfl, hk z _ _ (Same.refl _) nx⟩) (fun z => he z _ (Same.refl _))
    rintro H3 s3 L3
    obtain ⟨acc, a1, a2⟩ := L3.nks
    refine ⟨D2, acc, rfl, a1, fun l hl => ?_⟩
    have s4 : Same H (upd H3 l (.tup acc)) := s02.trans (s3.trans (same_new hl))
    have nl := nk_tuple hl a2
    generalize upd H3 l (.tup acc) = H4 at s4 nl
    have zN : (Fl.filter fun x => !decide (x ∈ C)).Nodup := fN.filter _
    have zz : (Fl.filter fun x => !decide (x ∈ C)).length ≤ 1000 := Nat.le_trans (List.length_filter_le _ _) fz
    refine ⟨.ref l, rfl, .ref l, _, rfl, nl, zN, fun c hc => fR c (List.mem_filter.mp hc).1, zz, fun H5 u Ps s5 nu hP hpl => ?_⟩
    obtain ⟨tp, xp, rfl, ep, ap⟩ := nu.seq
    have hpl2 : xp.length = Ps.length := ap.lenm
    refine ⟨tp, rfl, ⟨_, SqT.of ep⟩, fun D6 hD6 => ?_⟩
    refine lc_map (vr := blV) (walk_tup (xs := xp)) Ps (fun p => decide (a ∈ p) && decide (b ∈ p)) hpl2.symm (by omega) hD6 (fun H s => SqT.of (s _ _ ep)) ?_ ?_
    · rintro i x p H6 H6' k e hp s6 ⟨rfl, hx⟩ hk
      have np := (ap.at_ hx hp).same s6
      have ss : Same H H6' := s4.trans (s5.trans s6)
      refine ⟨rfl, t_yes ⟨va, rfl, x, rfl, rd_cmemT false (na.same ss) np ⟨_, rfl, ?_⟩⟩⟩
      refine t_ite (fun z => ?_) (fun z => ?_)
      · refine ⟨vb, rfl, x, rfl, rd_cmemT false (nb.same ss) np ?_⟩
        have z' : decide (a ∈ p) = true := z
        refine hk _ _ (Same.refl _) ?_
        show V.bl (decide (b ∈ p)) = V.bl (decide (a ∈ p) && decide (b ∈ p))
        rw [z', Bool.true_and]
      · have z' : decide (a ∈ p) = false := z
        refine hk _ _ (Same.refl _) ?_
        show V.bl false = V.bl (decide (a ∈ p) && decide (b ∈ p))
        rw [z', Bool.false_and]
    rintro H6 s6 L6
    refine ⟨_, _, rfl, L6, _, rfl, ?_⟩
    have hno : ((Ps.map fun p => decide (a ∈ p) && decide (b ∈ p)).any id) = false := by
      cases e : (Ps.map fun p => decide (a ∈ p) && decide (b ∈ p)).any id with
      | false => rfl
      | true =>
        obtain ⟨p, hp, h⟩ := any_map_iff.mp e
        rw [Bool.and_eq_true, decide_eq_true_eq, decide_eq_true_eq] at h
        obtain ⟨c, hc, hr⟩ := hP.1 p hp
        exact absurd (((hr a).mp h.1).symm.trans ((hr b).mp h.2)) nR
    rw [hno]
    exact q _ (s4.trans (s5.trans s6))

abbrev nApart : List Str := ["field", "a", "b", "ways", "way", "met", "cell", "one", "other"]
theorem scApart : FnScope nApart ["field", "a", "b", "ways"] (defScope sApart) := ⟨rfl, rfl, rfl, by decide +kernel, rfl, by decide +kernel, by decide +kernel⟩
/-- the cells of a way but the first and the last -/
def mid (ws : List Cell) : List Cell := (ws.drop 1).take (ws.length - 2)
def WaysOk (Fl : List Cell) (a b : Cell) (W : List (List Cell)) : Prop := (∀ x ∈ W, WalkIn Fl x ∧ x.length ≤ 1000 ∧ 2 ≤ x.length ∧ x[0]? = some a ∧ x[x.length - 1]? = some b) ∧ (∀ p ∈ W.zip (W.drop 1), Mow.wlt p.1 p.2 = true) ∧
  (a :: b :: W.flatMap mid).Nodup
def spApart : Sp := fun vs H Q _ => ∃ (vf va vb vw : V) (Fl : List Cell) (a b : Cell) (W : List (List Cell)), vs = [vf, va, vb, vw] ∧ NK H (csk Fl) vf ∧ NK H (ck a) va ∧ NK H (ck b) vb ∧ NK H (wsk W) vw ∧ Fl.Nodup ∧ (∀ c ∈ Fl, InR c) ∧ Fl.length ≤ 1000 ∧
  W.length ≤ 1000 ∧ WaysOk Fl a b W ∧ ∀ H', Same H H' → Q (.bl true) H'
theorem mid_mem {ws : List Cell} {c : Cell} (h : c ∈ mid ws) : c ∈ ws := List.mem_of_mem_drop (List.mem_of_mem_take h)
theorem flat_take {W : List (List Cell)} {i : Nat} {x : List Cell} (h : W[i]? = some x) : (W.take (i + 1)).flatMap mid = (W.take i).flatMap mid ++ mid x := by
  rw [take_snoc h, List.flatMap_append]; simp
theorem flat_at {W : List (List Cell)} {i j : Nat} {x : List Cell} {c : Cell} (h : W[i]? = some x) (hc : (mid x)[j]? = some c) {a b : Cell} (hn : (a :: b :: W.flatMap mid).Nodup) : c ∉ (a :: b :: (W.take i).flatMap mid) ++ (mid x).take j := by
  have e1 : W = W.take i ++ x :: W.drop (i + 1) := by
    have := List.take_append_drop i W
    rw [List.drop_eq_getElem?_toList_append, h] at this
    exact this.symm
  have e2 : mid x = (mid x).take j ++ c :: (mid x).drop (j + 1) := by
    have := List.take_append_drop j (mid x)
    rw [List.drop_eq_getElem?_toList_append, hc] at this
    exact this.symm
  rw [e1, List.flatMap_append, List.flatMap_cons] at hn
  rw [e2] at hn
  have e3 : (a :: b :: ((W.take i).flatMap mid ++ (((mid x).take j ++ c :: (mid x).drop (j + 1)) ++ (W.drop (i + 1)).flatMap mid))) = ((a :: b :: (W.take i).flatMap mid) ++ (mid x).take j) ++ c :: ((mid x).drop (j + 1) ++ (W.drop (i + 1)).flatMap mid) := by simp
  rw [e3] at hn
  intro hm
  exact (List.nodup_append.mp hn).2.2 c hm c List.mem_cons_self rfl
theorem ok_apart (T : Tx mg) (D1 : Dn P w K mg base 3 "is_walk" ["field", "thing"] spWalk) (F : FunD K mg "are_apart" sApart ["field", "a", "b", "ways"]) : Dn P w K mg base 4 "are_apart" ["field", "a", "b", "ways"] spApart := .of F fun f fd F => by
  refine F.ok scApart (fun vs H Q E h => ?_) (fun cdv A outer s H vs Q E hr h => ?_)
  · obtain ⟨vf, va, vb, vw, Fl, a, b, W, rfl, _⟩ := h; rfl
  · obtain ⟨vf, va, vb, vw, Fl, a, b, W, rfl, nf, na, nb, nw, fN, fR, fz, wz, ⟨wA, wS, wD⟩, q⟩ := h
    have hu := room20 hr
    have e64 := room64 hr
    refine ⟨_, pss_cons (ps_if (PW.pt (pw_or (pt_not (pt_val (pe_callB call_isi (by rfl) T.isi (by decide +kernel) (pa_cons (pv 3) (pa_cons (pe_bltn (v := .ty "tuple") (by rfl) T.tuple (by decide +kernel) rfl) pa_nil)))))
        (pw_or1 (pt_not (pt_val (pe_callB (call_all rfl) (by rfl) T.all (by decide +kernel) (pa_cons
          (pe_lc (own := [("way", 4)]) (g := gName 4) rfl scApart.nd (pi_tup (pv 3)) (blkOk_by (N := nApart) (sc := defScope sApart) (by decide +kernel))
            (fun _ _ _ _ _ => pg_name (i := 4) scApart.nd rfl (Or.inl rfl)) (fun _ _ _ _ _ => pts_nil) (fun _ _ _ _ _ => pe_dn D1 hr (by rfl) (pa_cons (pv 0) (pa_cons (pv 4) pa_nil)))) pa_nil)))))))
        (pss_one (ps_ret pe_bl)) pss_nil)
      (pss_cons (ps_if (pt_not (pt_val (pe_callB (call_all rfl) (by rfl) T.all (by decide +kernel) (pa_cons
          (pe_lc (own := [("one", 7), ("other", 8)]) (g := gTup K 2 _) rfl scApart.nd (RZ.pi_zipA (by rfl) T.zip (pa_cons (pv 3) (pa_cons (pe_tail (pv 3)) pa_nil))) (blkOk_by (N := nApart) (sc := defScope sApart) (by decide +kernel))
            (fun _ _ _ _ _ => pg_tupC K rfl rfl (pgs_cons (pg_name (i := 7) scApart.nd rfl (Or.inl rfl)) (pgs_cons (pg_name (i := 8) scApart.nd rfl (Or.inl rfl)) pgs_nil))) (fun _ _ _ _ _ => pts_nil)
            (fun _ _ _ _ _ => pe_cmpR (op_wlt (room30 hr)) (pv 7) (pv 8) rfl)) pa_nil))))
        (pss_one (ps_ret pe_bl)) pss_nil)
      (pss_cons (ps_set (i := 5) scApart.nd rfl (.inl rfl) (pe_ndisp hu (pps_cons (pv 1) pe_bl (pps_cons (pv 2) pe_bl pps_nil)) rfl rfl (fun z => by cases z) (by show 2 ≤ 15; decide)))
      (pss_cons (ps_for PassesOwn.never rfl (pi_tup (pv 3)) (pg_name (i := 4) scApart.nd rfl (.inl rfl))
        (pss_cons (ps_if (PW.pt (pw_or (pt_cmpR op_lt (pe_callB call_len_seq (by rfl) T.len PySem.boot_len (pa_cons (pv 4) pa_nil)) pe_int (nomark _))
            (pw_or (pt_cmpR (op_nneT e64) (pe_ix ix_tup (pv 4) pe_int (fun _ _ => rfl)) (pv 1) rfl)
            (pw_or1 (pt_cmpR (op_nneT e64) (pe_ix ix_tup (pv 4) (pe_un un_neg pe_int) (fun _ _ => rfl)) (pv 2) rfl)))))
          (pss_one (ps_ret pe_bl)) pss_nil)
        (pss_one (ps_for PassesOwn.never rfl (pi_tup (pe_mid (pv 4))) (pg_name (i := 6) scApart.nd rfl (.inl rfl))
          (pss_cons (ps_if (pt_cmpR (op_ndin hu) (pv 6) (pv 5) rfl) (pss_one (ps_ret pe_bl)) pss_nil)
          (pss_one (ps_asg pe_bl (pg_sub (pv 5) (pv 6) (set_nd hu)))))))))
      (pss_one (ps_ret pe_bl))))), ?_⟩
    obtain ⟨tw, xw, rfl, ew, aw⟩ := nw.seq
    have hwl : xw.length = W.length := aw.lenm
    have hab : a ≠ b := fun z => by rw [z] at wD; simp at wD
    refine ⟨_, rfl, _, _, _, _, true, rfl, .ty "tuple", .base (.tup ew), kit_ty (by decide +kernel), true, rfl, iteF ?_⟩
    refine ⟨_, rfl, tw, rfl, ⟨_, SqT.of ew⟩, fun D hD => ?_⟩
    refine lc_map (vr := blV) (walk_tup (xs := xw)) W (fun _ => true) hwl.symm (by omega) hD (fun H s => SqT.of (s _ _ ew)) ?_ ?_
    · rintro i x p H2 H2' k e2 hp s2 ⟨rfl, hx⟩ hk
      obtain ⟨h1, h2, _⟩ := wA p (Mow.get_mem hp)
      exact ⟨rfl, t_yes ⟨vf, rfl, x, rfl, vf, x, Fl, p, rfl, nf.same s2, (aw.at_ hx hp).same s2, fN, fz, by omega, fR, h1, fun H' s3 => hk _ _ s3 rfl⟩⟩
    rintro H2 s2 L
    refine ⟨_, _, rfl, L, ?_⟩
    rw [all_map_true fun _ _ => rfl]
    refine ⟨true, rfl, iteF ?_⟩
    refine ⟨.ref tw, rfl, .ref tw, rfl, tw, xw, rfl, s2 _ _ ew, fun p H3 s3 e3 => ?_⟩
    have s03 : Same H H3 := s2.trans s3
    refine ⟨tw, p, xw, xw.drop 1, rfl, .inr ⟨SqT.of (s03 _ _ ew), SqT.of e3, fun D4 hD4 => ?_⟩⟩
    refine lc_map (vr := blV) (walk_pairs (xs := xw)) (W.zip (W.drop 1)) (fun _ => true) (by rw [zip_len, hwl]) (by omega) hD4 (fun H s => ⟨SqT.of (s _ _ (s03 _ _ ew)), SqT.of (s _ _ e3)⟩) ?_ ?_
    · rintro i v ⟨c, d⟩ H4 H4' k e2 hc s4 ⟨T', x, y, rfl, hT, rfl, hx, hy⟩ hk
      have hp := wS _ (Mow.get_mem hc)
      obtain ⟨c1, c2⟩ := zip_get hc
      have ss : Same H (upd H4 T' (.tup [x, y])) := s03.trans (s4.trans (same_new hT))
      refine ⟨T', _, rfl, SqT.of upd_same, rfl, _, _, rfl, _, _, rfl, rfl, rfl, t_yes ⟨x, rfl, y, rfl, c, d, (aw.at_ hx c1).same ss, (aw.at_ hy c2).same ss, ?_⟩⟩
      rw [hp]
      exact hk _ _ (same_new hT) rfl
    rintro H4 s4 L4
    refine ⟨_, _, rfl, L4, ?_⟩
    rw [all_map_true fun _ _ => rfl]
    refine ⟨true, rfl, iteF ?_⟩
    have s04 : Same H H4 := s03.trans s4
    -- met
    intro dm hdm
    refine ⟨va, rfl, vb, rfl, upd_same, Cell, Unit, inferInstance, cellR, trueV, [(a, ()), (b, ())], .cons ⟨(na.same s04).same (same_new hdm), rfl⟩ (.cons ⟨(nb.same s04).same (same_new hdm), rfl⟩ .nil), by show 2 ≤ 15; decide, fun ob Dm => ?_⟩
    rw [putAll_nodup _ _ (by simpa using hab), List.nil_append] at Dm
    have s5 : Same H4 (upd (upd H4 dm (dno dm obj0)) dm (dno dm ob)) := same_mut hdm (same_new hdm)
    generalize upd (upd H4 dm (dno dm obj0)) dm (dno dm ob) = H5 at s5 Dm
    have hdm0 : H dm = none := s04.free hdm
    have s05 : Same H H5 := s04.trans s5
    have mF : ∀ x ∈ W.flatMap mid, x ∈ Fl := fun x hx => by
      obtain ⟨p, hp, h⟩ := List.mem_flatMap.mp hx
      exact (wA p hp).1.2.1 x (mid_mem h)
    have mN : (W.flatMap mid).Nodup := (List.nodup_cons.mp (List.nodup_cons.mp wD).2).2
    have mz : (W.flatMap mid).length ≤ Fl.length := Mow.nodup_le mN mF
    refine ⟨.ref tw, rfl, tw, rfl, ⟨_, SqT.of (s05 _ _ ew)⟩, ?_⟩
    refine for_it (walk_tup (xs := xw)) (fun i σ H6 => ∃ (ms : List (Cell × Unit)) (y4 y6 : Option V), σ = [some vf, some va, some vb, some (.ref tw), y4, some (.ref dm), y6, none, none] ∧ Same H H6 ∧
        Dct P w cellR trueV H6 dm ms ∧ ms.map (·.1) = a :: b :: (W.take i).flatMap mid)
      ⟨_, none, none, rfl, s05, Dm, rfl⟩ (fun i σ H6 _ ⟨_, _, _, _, s6, _⟩ => SqT.of (s6 _ _ ew)) ?_ ?_
    · rintro i y σ H6 H6' hi ⟨ms, y4, y6, rfl, s6, Dm6, hk⟩ ⟨rfl, hy⟩
      obtain ⟨p, hp, np⟩ := aw.getm hy
      obtain ⟨_, hp1, hp2, hpa, hpb⟩ := wA p (Mow.get_mem hp)
      obtain ⟨tp, xp, rfl, ep, ap⟩ := np.seq
      have hpl : xp.length = p.length := ap.lenm
      obtain ⟨y0, hy0, ny0⟩ := ap.getm' hpa
      obtain ⟨y1, hy1, ny1⟩ := ap.getm' hpb
      rw [← hpl] at hy1
      have ep6 := s6 _ _ ep
      refine ⟨.ref tp, rfl, tp, xp, rfl, .inr (SqT.of ep6), _, _, rfl, rfl, _, rfl, ?_⟩
      refine t_ite (fun h => ?_) (fun _ => ?_)
      · exfalso
        have h2 : (xp.length : Int) < 2 := of_decide_eq_true h
        omega
      refine ⟨.ref tp, rfl, tp, xp, 0, y0, rfl, rfl, SqT.of ep6, atI_zero hy0, va, rfl, rd_ceq true (ny0.same s6) (na.same s6) ⟨_, rfl, ?_⟩⟩
      show if (!decide (a = a)) = true then _ else _
      rw [decide_eq_true rfl]
      refine iteF ⟨.ref tp, rfl, 1, rfl, tp, xp, -1, y1, rfl, rfl, SqT.of ep6, atI_last hy1, vb, rfl, rd_ceq true (ny1.same s6) (nb.same s6) ⟨_, rfl, ?_⟩⟩
      show if (!decide (b = b)) = true then _ else _
      rw [decide_eq_true rfl]
      refine iteF ?_
      refine ⟨.ref tp, rfl, tp, xp, rfl, ep6, by omega, fun pm H7 s7 e7 => ?_⟩
      have am : NKs H ((mid p).map ck) ((xp.drop 1).take (xp.length - 2)) := by
        have := (ap.drop 1).take (xp.length - 2)
        rw [← List.map_drop, ← List.map_take] at this
        unfold mid
        rw [← hpl]
        exact this
      have hml : ((xp.drop 1).take (xp.length - 2)).length = (mid p).length := am.lenm
      generalize (xp.drop 1).take (xp.length - 2) = xm at e7 am hml
      have s07 : Same H H7 := s6.trans s7
      refine ⟨pm, rfl, ⟨_, SqT.of e7⟩, ?_⟩
      refine for_it (walk_tup (xs := xm)) (fun j σ H8 => ∃ (ms : List (Cell × Unit)) (y6 : Option V), σ = [some vf, some va, some vb, some (.ref tw), some (.ref tp), some (.ref dm), y6, none, none] ∧ Same H H8 ∧ H8 pm = some (.tup xm) ∧
          Dct P w cellR trueV H8 dm ms ∧ ms.map (·.1) = (a :: b :: (W.take i).flatMap mid) ++ (mid p).take j)
        ⟨ms, y6, rfl, s07, e7, Dm6.same s7, by rw [hk]; simp⟩ (fun j σ H8 _ ⟨_, _, _, _, e8, _⟩ => SqT.of e8) ?_ ?_
      · rintro j z σ H8 H8' hj ⟨ms, y6, rfl, s8, e8, Dm8, hk8⟩ ⟨rfl, hz⟩
        obtain ⟨c, hc, nc⟩ := am.getm hz
        have hnew := flat_at hp hc wD
        rw [← hk8] at hnew
        refine ⟨z, rfl, .ref dm, rfl, Cell, Unit, inferInstance, cellR, trueV, dm, ms, c, rfl, Dm8, nc.same s8, _, rfl, ?_⟩
        refine t_ite (fun h => ?_) (fun _ => ?_)
        · exact absurd (by simpa using h) hnew
        have hlen : ms.length < 10000 := by
          have h1 : ms.length = ((a :: b :: (W.take i).flatMap mid) ++ (mid p).take j).length := by rw [← hk8, List.length_map]
          have h2 : ((W.take i).flatMap mid).length + (mid p).length ≤ (W.flatMap mid).length := by
            rw [← List.length_append, ← flat_take hp]
            have e9 : W.flatMap mid = (W.take (i + 1)).flatMap mid ++ (W.drop (i + 1)).flatMap mid := by rw [← List.flatMap_append, List.take_append_drop]
            rw [e9, List.length_append]
            omega
          have h3 := List.length_take_le j (mid p)
          rw [h1, List.length_append, List.length_cons, List.length_cons]
          omega
        refine ⟨.ref dm, rfl, z, rfl, Cell, Unit, inferInstance, cellR, trueV, dm, ms, c, (), rfl, Dm8, nc.same s8, rfl, small_line (by omega), fun ob2 Dm9 => ?_⟩
        rw [putL_new hnew] at Dm9
        obtain ⟨o8, c8⟩ := Dm8.obj
        have tu : Tu H8' (upd H8' dm (dno dm ob2)) := Tu.mut c8 dno_tup
        refine ⟨ms ++ [(c, ())], some z, rfl, same_mut hdm0 s8, tu _ _ e8, Dm9, ?_⟩
        rw [List.map_append, hk8, take_snoc hc, List.append_assoc]
        rfl
      · rintro σ H8 ⟨ms, y6, rfl, s8, e8, Dm8, hk8⟩
        refine ⟨ms, _, _, rfl, s8, Dm8, ?_⟩
        rw [take_all (l := mid p) (n := xm.length) (by omega)] at hk8
        rw [hk8, flat_take hp]
        rfl
    · rintro σ H6 ⟨ms, y4, y6, rfl, s6, _⟩
      exact q H6 s6

abbrev nShows : List Str := ["field", "a", "b", "cells", "ways"]
theorem scShows : FnScope nShows ["field", "a", "b", "cells", "ways"] (defScope sShows) := ⟨rfl, rfl, rfl, by decide +kernel, rfl, by decide +kernel, by decide +kernel⟩
def spShows : Sp := fun vs H Q _ => ∃ (vf va vb vc vw : V) (Fl : List Cell) (a b : Cell) (C : List Cell) (W : List (List Cell)), vs = [vf, va, vb, vc, vw] ∧ NK H (csk Fl) vf ∧ NK H (ck a) va ∧ NK H (ck b) vb ∧ NK H (csk C) vc ∧ NK H (wsk W) vw ∧
  Fl.Nodup ∧ (∀ c ∈ Fl, InR c) ∧ Fl.length ≤ 1000 ∧ (a ≠ b ∧ b ∉ Mow.nb a) ∧
  (C.length ≤ 1000 ∧ Rise C ∧ (∀ c ∈ C, c ∈ Fl) ∧ a ∉ C ∧ b ∉ C ∧ ¬ Mow.Reach (Fl.filter fun x => !decide (x ∈ C)) a b) ∧ (W.length ≤ 1000 ∧ WaysOk Fl a b W) ∧ C.length = W.length ∧ ∀ H', Same H H' → Q (.bl true) H'
theorem ok_shows (T : Tx mg) (D1 : Dn P w K mg base 3 "are_near" ["field", "a", "b"] spNear) (D2 : Dn P w K mg base 4 "are_bars" ["field", "a", "b", "cells"] spBars) (D3 : Dn P w K mg base 4 "are_apart" ["field", "a", "b", "ways"] spApart)
    (F : FunD K mg "shows_barred" sShows ["field", "a", "b", "cells", "ways"]) : Dn P w K mg base 5 "shows_barred" ["field", "a", "b", "cells", "ways"] spShows := .of F fun f fd F => by
  refine F.ok scShows (fun vs H Q E h => ?_) (fun cdv A outer s H vs Q E hr h => ?_)
  · obtain ⟨vf, va, vb, vc, vw, Fl, a, b, C, W, rfl, _⟩ := h; rfl
  · obtain ⟨vf, va, vb, vc, vw, Fl, a, b, C, W, rfl, nf, na, nb, nc, nw, fN, fR, fz, ⟨ne, nn⟩, ⟨cz, cR, cF, aC, bC, nR⟩, ⟨wz, wO⟩, hCW, q⟩ := h
    refine ⟨_, pss_cons (ps_if (PW.pt (pw_or (pt_val (pe_dn D1 (hr.mono (by decide)) (by rfl) (pa_cons (pv 0) (pa_cons (pv 1) (pa_cons (pv 2) pa_nil)))))
        (pw_or1 (pt_not (pt_val (pe_dn D2 hr (by rfl) (pa_cons (pv 0) (pa_cons (pv 1) (pa_cons (pv 2) (pa_cons (pv 3) pa_nil))))))))))
        (pss_one (ps_ret pe_bl)) pss_nil)
      (pss_one (ps_ret (pe_and (pe_dn D3 hr (by rfl) (pa_cons (pv 0) (pa_cons (pv 1) (pa_cons (pv 2) (pa_cons (pv 4) pa_nil)))))
        (pe_one (pe_cmpR op_eq (pe_callB call_len_seq (by rfl) T.len PySem.boot_len (pa_cons (pv 3) pa_nil)) (pe_callB call_len_seq (by rfl) T.len PySem.boot_len (pa_cons (pv 4) pa_nil)) (nomark _)))))), ?_⟩
    refine ⟨vf, rfl, va, rfl, vb, rfl, vf, va, vb, Fl, a, b, rfl, nf, na, nb, ne, nn, fun H1 s1 => ⟨false, rfl, iteF ?_⟩⟩
    refine ⟨vf, rfl, va, rfl, vb, rfl, vc, rfl, vf, va, vb, vc, Fl, a, b, C, rfl, nf.same s1, na.same s1, nb.same s1, nc.same s1, fN, fR, fz, cz, cR, cF, aC, bC, nR, fun H2 s2 => ⟨true, rfl, iteF ?_⟩⟩
    have s02 := s1.trans s2
    refine ⟨vf, rfl, va, rfl, vb, rfl, vw, rfl, vf, va, vb, vw, Fl, a, b, W, rfl, nf.same s02, na.same s02, nb.same s02, nw.same s02, fN, fR, fz, wz, wO, fun H3 s3 => ⟨true, rfl, iteT ?_⟩⟩
    have s03 := s02.trans s3
    obtain ⟨tc, xc, rfl, ec, ac⟩ := nc.seq
    obtain ⟨tw, xw, rfl, ew, aw⟩ := nw.seq
    have h1 : xc.length = C.length := ac.lenm
    have h2 : xw.length = W.length := aw.lenm
    refine ⟨.ref tc, rfl, tc, xc, rfl, .inr (SqT.of (s03 _ _ ec)), .ref tw, rfl, tw, xw, rfl, .inr (SqT.of (s03 _ _ ew)), rfl, ?_⟩
    rw [h1, h2, hCW]
    show Q (.bl (decide _)) H3
    rw [decide_eq_true rfl]
    exact q H3 s03
end
end MF

set_option autoImplicit false
set_option Elab.async false
set_option linter.all false
set_option maxRecDepth 100000
set_option maxHeartbeats 400000
/-! The class Ways: its state; __init__, doors_from. -/
namespace MF
open PySem PySem.Spec PyProof.Rows L2
theorem putF_le (f : Str) (v : V) : ∀ fs : List (Str × V), (putF f v fs).length ≤ fs.length + 1
  | [] => Nat.le_refl _
  | (g, x) :: r => by
    have := putF_le f v r
    unfold putF
    split
    · rw [List.length_cons, List.length_cons]; omega
    · rw [List.length_cons, List.length_cons]; omega
theorem putF_old {f : Str} (v : V) : ∀ {fs : List (Str × V)} {u : V}, fs.lookup f = some u → (putF f v fs).length = fs.length
  | [], _, h => nomatch h
  | (g, x) :: r, u, h => by
    unfold putF
    by_cases e : g = f
    · rw [if_pos e]; rfl
    · rw [if_neg e, List.length_cons, List.length_cons]
      have hb : (f == g) = false := beq_eq_false_iff_ne.mpr (Ne.symm e)
      rw [List.lookup_cons, hb] at h
      rw [putF_old v h]
/-- the attributes of a Ways -/
structure Fl6 (fs : List (Str × V)) (va vb vn vk vh vf : V) : Prop where
  a : fs.lookup ("a" : Str) = some va
  b : fs.lookup ("b" : Str) = some vb
  n : fs.lookup ("near" : Str) = some vn
  k : fs.lookup ("behind" : Str) = some vk
  h : fs.lookup ("ahead" : Str) = some vh
  f : fs.lookup ("firsts" : Str) = some vf
  len : fs.length < 900
  m1 : fs.lookup ("doors_from" : Str) = none
  m2 : fs.lookup ("search" : Str) = none
  m3 : fs.lookup ("steps_of" : Str) = none
  m4 : fs.lookup ("take_in" : Str) = none
  m5 : fs.lookup ("all_ways" : Str) = none
theorem lk_pos (f : Str) (v : V) (fs : List (Str × V)) : (putF f v fs).lookup f = some v := by rw [lookup_putF, if_pos rfl]
theorem lk_neg {f g : Str} (v : V) (fs : List (Str × V)) (h : (g == f) = false) : (putF f v fs).lookup g = fs.lookup g := by rw [lookup_putF, if_neg (beq_eq_false_iff_ne.mp h)]
theorem Fl6.made (va vb vn vk vh vf : V) : Fl6 (putF "firsts" vf (putF "ahead" vh (putF "behind" vk (putF "near" vn (putF "b" vb (putF "a" va [])))))) va vb vn vk vh vf := by
  constructor
  · rw [lk_neg _ _ (by decide +kernel), lk_neg _ _ (by decide +kernel), lk_neg _ _ (by decide +kernel), lk_neg _ _ (by decide +kernel), lk_neg _ _ (by decide +kernel), lk_pos]
  · rw [lk_neg _ _ (by decide +kernel), lk_neg _ _ (by decide +kernel), lk_neg _ _ (by decide +kernel), lk_neg _ _ (by decide +kernel), lk_pos]
  · rw [lk_neg _ _ (by decide +kernel), lk_neg _ _ (by decide +kernel), lk_neg _ _ (by decide +kernel), lk_pos]
  · rw [lk_neg _ _ (by decide +kernel), lk_neg _ _ (by decide +kernel), lk_pos]
  · rw [lk_neg _ _ (by decide +kernel), lk_pos]
  · rw [lk_pos]
  · have h1 := putF_le "a" va []
    have h2 := putF_le "b" vb (putF "a" va [])
    have h3 := putF_le "near" vn (putF "b" vb (putF "a" va []))
    have h4 := putF_le "behind" vk (putF "near" vn (putF "b" vb (putF "a" va [])))
    have h5 := putF_le "ahead" vh (putF "behind" vk (putF "near" vn (putF "b" vb (putF "a" va []))))
    have h6 := putF_le "firsts" vf (putF "ahead" vh (putF "behind" vk (putF "near" vn (putF "b" vb (putF "a" va [])))))
    rw [List.length_nil] at h1
    omega
  all_goals rw [lk_neg _ _ (by decide +kernel), lk_neg _ _ (by decide +kernel), lk_neg _ _ (by decide +kernel), lk_neg _ _ (by decide +kernel), lk_neg _ _ (by decide +kernel), lk_neg _ _ (by decide +kernel)]; rfl
section
variable {fs : List (Str × V)} {va vb vn vk vh vf : V}
theorem Fl6.putf (F : Fl6 fs va vb vn vk vh vf) (v : V) : Fl6 (putF "firsts" v fs) va vb vn vk vh v :=
  ⟨(lk_neg _ _ (by decide +kernel)).trans F.a, (lk_neg _ _ (by decide +kernel)).trans F.b, (lk_neg _ _ (by decide +kernel)).trans F.n, (lk_neg _ _ (by decide +kernel)).trans F.k, (lk_neg _ _ (by decide +kernel)).trans F.h, lk_pos _ _ _,
    by rw [putF_old v F.f]; exact F.len, (lk_neg _ _ (by decide +kernel)).trans F.m1, (lk_neg _ _ (by decide +kernel)).trans F.m2, (lk_neg _ _ (by decide +kernel)).trans F.m3, (lk_neg _ _ (by decide +kernel)).trans F.m4, (lk_neg _ _ (by decide +kernel)).trans F.m5⟩
theorem Fl6.putk (F : Fl6 fs va vb vn vk vh vf) (v : V) : Fl6 (putF "behind" v fs) va vb vn v vh vf :=
  ⟨(lk_neg _ _ (by decide +kernel)).trans F.a, (lk_neg _ _ (by decide +kernel)).trans F.b, (lk_neg _ _ (by decide +kernel)).trans F.n, lk_pos _ _ _, (lk_neg _ _ (by decide +kernel)).trans F.h, (lk_neg _ _ (by decide +kernel)).trans F.f,
    by rw [putF_old v F.k]; exact F.len, (lk_neg _ _ (by decide +kernel)).trans F.m1, (lk_neg _ _ (by decide +kernel)).trans F.m2, (lk_neg _ _ (by decide +kernel)).trans F.m3, (lk_neg _ _ (by decide +kernel)).trans F.m4, (lk_neg _ _ (by decide +kernel)).trans F.m5⟩
theorem Fl6.puth (F : Fl6 fs va vb vn vk vh vf) (v : V) : Fl6 (putF "ahead" v fs) va vb vn vk v vf :=
  ⟨(lk_neg _ _ (by decide +kernel)).trans F.a, (lk_neg _ _ (by decide +kernel)).trans F.b, (lk_neg _ _ (by decide +kernel)).trans F.n, (lk_neg _ _ (by decide +kernel)).trans F.k, lk_pos _ _ _, (lk_neg _ _ (by decide +kernel)).trans F.f,
    by rw [putF_old v F.h]; exact F.len, (lk_neg _ _ (by decide +kernel)).trans F.m1, (lk_neg _ _ (by decide +kernel)).trans F.m2, (lk_neg _ _ (by decide +kernel)).trans F.m3, (lk_neg _ _ (by decide +kernel)).trans F.m4, (lk_neg _ _ (by decide +kernel)).trans F.m5⟩
end
/-- the class as the top has made it -/
structure TxW (K : PySem.W.Frag) (C : Addr) : Prop where
  cl : Cls K C
  nA : NoAttr K C "a"
  nB : NoAttr K C "b"
  nN : NoAttr K C "near"
  nK : NoAttr K C "behind"
  nH : NoAttr K C "ahead"
  nF : NoAttr K C "firsts"
/-- what the dicts and the list tell of the steps -/
structure Rep (a b : Cell) (S : List Mow.Step) (pk ph : List (Cell × Cell)) (fs : List Cell) : Prop where
  hk : ∀ e, e ∈ pk ↔ e ∈ S ∧ e.1 ≠ a
  hh : ∀ e : Cell × Cell, e ∈ ph ↔ (e.2, e.1) ∈ S ∧ e.1 ≠ b
  hf : ∀ f, f ∈ fs ↔ (a, f) ∈ S
  fn : fs.Nodup
/-- a Ways stands at p -/
def WaysAt (P : Program) (w : World) (C : Addr) (H : Hp) (p : Addr) (Fl : List Cell) (a b : Cell) (S : List Mow.Step) (gs : List Cell) : Prop :=
  ∃ (dx : Addr) (fs : List (Str × V)) (va vb : V) (n k h f : Addr) (pk ph : List (Cell × Cell)), H p = some (.ins C dx fs) ∧ Fl6 fs va vb (.ref n) (.ref k) (.ref h) (.ref f) ∧ NK H (ck a) va ∧ NK H (ck b) vb ∧
    Dct P w cellR (nkV csk) H n (Fl.map fun c => (c, nbF Fl c)) ∧ Dct P w cellR (nkV ck) H k pk ∧ Dct P w cellR (nkV ck) H h ph ∧ LstV (nkV ck) H f gs ∧ Rep a b S pk ph gs
section
variable {P : Program} {w : World} {K : PySem.W.Frag} {mg : Str → Option Value} {base : Heap} {C : Addr}
theorem WaysAt.same {H H' : Hp} {p : Addr} {Fl : List Cell} {a b : Cell} {S : List Mow.Step} {gs : List Cell} (x : WaysAt P w C H p Fl a b S gs) (s : Same H H') : WaysAt P w C H' p Fl a b S gs := by
  obtain ⟨dx, fs, va, vb, n, k, h, f, pk, ph, e1, e2, e3, e4, e5, e6, e7, e8, e9⟩ := x
  exact ⟨dx, fs, va, vb, n, k, h, f, pk, ph, s _ _ e1, e2, e3.same s, e4.same s, e5.same s, e6.same s, e7.same s, e8.same s, e9⟩
/-- a method as it stands -/
def MthD (K : PySem.W.Frag) (C : Addr) (m q : Str) (st : Stmt) (ps : List Str) : Prop := ∃ f fd, Meth K C m f ∧ Fun K m q st f fd ∧ Binds K fd ps []
/-- a method that keeps its promise -/
structure MDn (P : Program) (w : World) (K : PySem.W.Frag) (mg : Str → Option Value) (base : Heap) (k : Nat) (C : Addr) (m : Str) (ps : List Str) (sp : Sp) : Prop where
  ex : ∃ f fd, Meth K C m f ∧ FnOk P w K mg base CX0 k f fd ps sp ∧ Binds K fd ps []
theorem MDn.of {k : Nat} {m q : Str} {st : Stmt} {ps : List Str} {sp : Sp} (F : MthD K C m q st ps) (h : ∀ f fd, Fun K m q st f fd → FnOk P w K mg base CX0 k f fd ps sp) : MDn P w K mg base k C m ps sp := by
  obtain ⟨f, fd, e, F, b⟩ := F
  exact ⟨f, fd, e, h f fd F, b⟩
end
section
variable {X : Cx} {C : Addr} {k : Nat} {m : Str} {ps : List Str} {sp : Sp} {ta : TE} {o e : Expr} {es : List Expr} {t : TA} {apos pos : Pos}
theorem pe_mdn {pl : Sem Bool} (c : Cls X.K C) (D : MDn X.prog X.w X.K X.mg X.base k C m ps sp) (hr : Room k X.A) (he : PE X o ta) (ha : PA X (e :: es) t)
    (hst : starEach (e :: es) X.env = (false, eval e X.env) :: starEach es X.env := by rfl) (hpl : (backTo pos (starEach es X.env)).any (·.1) = false := by rfl)
    (ht : eval (.Call (.Attribute o m apos) (e :: es) [] pos) X.env = (do
      let ov ← eval o X.env
      standAt apos.atName
      let (f, first) ← holding [ov] (getMethod ov m pl)
      callWith pos f first (backTo pos (starEach (e :: es) X.env)) (backToKw pos (keywordEach [] X.env))) := by rfl) :
    PE X (.Call (.Attribute o m apos) (e :: es) [] pos) (tMeth C m sp [] E0 ta t) := by
  obtain ⟨f, fd, hm, F, b⟩ := D.ex
  exact pe_meth he c hm F hr b .nil pass0 ha hst hpl ht
theorem pe_mdn0 {pl : Sem Bool} (c : Cls X.K C) (D : MDn X.prog X.w X.K X.mg X.base k C m ps sp) (hr : Room k X.A) (he : PE X o ta)
    (ht : eval (.Call (.Attribute o m apos) [] [] pos) X.env = (do
      let ov ← eval o X.env
      standAt apos.atName
      let (f, first) ← holding [ov] (getMethod ov m pl)
      callWith pos f first (backTo pos (starEach [] X.env)) (backToKw pos (keywordEach [] X.env))) := by rfl) :
    PE X (.Call (.Attribute o m apos) [] [] pos) (tMeth C m sp [] E0 ta tNil) := by
  obtain ⟨f, fd, hm, F, b⟩ := D.ex
  exact pe_meth0 he c hm F hr b .nil pass0 ht
end
section
variable {P : Program} {w : World} {K : PySem.W.Frag} {mg : Str → Option Value} {base : Heap} {C : Addr}
abbrev nInit : List Str := ["self", "field", "a", "b", "cell"]
theorem scInit : FnScope nInit ["self", "field", "a", "b"] (defScope sInit) := ⟨rfl, rfl, rfl, by decide +kernel, rfl, by decide +kernel, by decide +kernel⟩
def spInit (P : Program) (w : World) (C : Addr) : Sp := fun vs H Q _ => ∃ (p dx : Addr) (vf va vb : V) (Fl : List Cell) (a b : Cell), vs = [.ref p, vf, va, vb] ∧ H p = some (.ins C dx []) ∧ NK H (csk Fl) vf ∧ NK H (ck a) va ∧ NK H (ck b) vb ∧ Fl.Nodup ∧ Fl.length ≤ 1000 ∧
  ∀ H', (∀ c o, H c = some o → c ≠ p → H' c = some o) → WaysAt P w C H' p Fl a b [] [] → Q .non H'
theorem ok_init {f : Addr} {fd : FuncData} (F : Fun K "__init__" "Ways.__init__" sInit f fd) (T : Tx mg) (TW : TxW K C) (D1 : Dn P w K mg base 2 "neighbours" ["floor", "cell"] spNeigh) : FnOk P w K mg base CX0 3 f fd ["self", "field", "a", "b"] (spInit P w C) := by
  refine F.ok scInit (fun vs H Q E h => ?_) (fun cdv A outer s H vs Q E hr h => ?_)
  · obtain ⟨p, dx, vf, va, vb, Fl, a, b, rfl, _⟩ := h; rfl
  · obtain ⟨p, dx, vf, va, vb, Fl, a, b, rfl, hp, nf, na, nb, fN, fz, q⟩ := h
    refine ⟨_, pss_cons (ps_fld (pv 0) (pv 2) rfl) (pss_cons (ps_fld (pv 0) (pv 3) rfl) (pss_cons (ps_fld (pv 0)
        (pe_callTy (call_ndict rfl (room20 hr)) (by rfl) T.dict (by decide +kernel) (pa_cons
          (pe_lc (own := [("cell", 4)]) (g := gName 4) rfl scInit.nd (pi_tup (pv 1)) (blkOk_by (N := nInit) (sc := defScope sInit) (by decide +kernel))
            (fun _ _ _ _ _ => pg_name (i := 4) scInit.nd rfl (Or.inl rfl)) (fun _ _ _ _ _ => pts_nil) (fun _ _ _ _ _ => pe_tup (pa_cons (pv 4) (pa_cons (pe_dn D1 hr (by rfl) (pa_cons (pv 1) (pa_cons (pv 4) pa_nil))) pa_nil)))) pa_nil)) rfl)
      (pss_cons (ps_fld (pv 0) pe_nnew rfl) (pss_cons (ps_fld (pv 0) pe_nnew rfl) (pss_one (ps_fld (pv 0) (pe_lst pa_nil) rfl)))))), ?_⟩
    have mono : ∀ {H1 H2 : Hp}, (∀ c o, H1 c = some o → c ≠ p → H2 c = some o) → (∀ d e, H1 p = some (.ins C d e) → Tu H1 H2) := fun {H1 H2} h d e hp b xs e2 => h b _ e2 (fun z => by subst z; rw [hp] at e2; cases e2)
    -- self.a, self.b
    refine ⟨va, rfl, .ref p, rfl, p, C, dx, _, rfl, hp, TW.cl, TW.nA, by show 0 < 1000; decide, ?_⟩
    refine ⟨vb, rfl, .ref p, rfl, p, C, dx, _, rfl, upd_same, TW.cl, TW.nB, by show 1 < 1000; decide, ?_⟩
    have k0 : ∀ c o, H c = some o → c ≠ p → (upd (upd H p (.ins C dx (putF "a" va []))) p (.ins C dx (putF "b" vb (putF "a" va [])))) c = some o := fun c o e hc => by rw [upd_ne hc, upd_ne hc]; exact e
    have p0 : (upd (upd H p (.ins C dx (putF "a" va []))) p (.ins C dx (putF "b" vb (putF "a" va [])))) p = some (.ins C dx (putF "b" vb (putF "a" va []))) := upd_same
    generalize upd (upd H p (.ins C dx (putF "a" va []))) p (.ins C dx (putF "b" vb (putF "a" va []))) = H1 at k0 p0
    have t0 := mono k0 _ _ hp
    have nf1 := NK.tu t0 nf
    have na1 := NK.tu t0 na
    have nb1 := NK.tu t0 nb
    -- self.near
    obtain ⟨tf, xf, rfl, ef, af⟩ := id nf1.seq
    have hxl : xf.length = Fl.length := af.lenm
    refine ⟨.ref tf, rfl, tf, rfl, ⟨_, SqT.of ef⟩, fun D hD => ?_⟩
    refine lc_map (vr := pairV cellR (nkV csk)) (walk_tup (xs := xf)) Fl (fun c => (c, nbF Fl c)) hxl.symm (by omega) hD (fun H s => SqT.of (s _ _ ef)) ?_ ?_
    · rintro i x c H2 H2' k e hc s2 ⟨rfl, hx⟩ hk
      have nx := (af.at_ hx hc).same s2
      refine ⟨rfl, t_yes ⟨x, rfl, .ref tf, rfl, x, rfl, .ref tf, x, Fl, c, rfl, nf1.same s2, nx, fun H3 v s3 nv => ?_⟩⟩
      refine ⟨by show 2 ≤ sizeLine; decide, fun t nt => hk _ _ (s3.trans (same_new nt)) ⟨t, x, v, rfl, upd_same, (nx.same s3).same (same_new nt), nv.same (same_new nt)⟩⟩
    rintro H2 s2 ⟨acc, a1, a2⟩
    refine ⟨Cell, List Cell, inferInstance, cellR, nkV csk, D, acc, _, rfl, a1, a2, fun n ob nn Dn => ?_⟩
    rw [putAll_nodup _ _ (by rw [List.nil_append, map_fst_map]; exact fN), List.nil_append] at Dn
    have s3 : Same H1 (upd H2 n (dno n ob)) := s2.trans (same_new nn)
    generalize upd H2 n (dno n ob) = H3 at s3 Dn
    have p3 := s3 _ _ p0
    have hmt : ∀ {H : Hp} {fs : List (Str × V)} (o : HO), H p = some (.ins C dx fs) → Tu H (upd H p o) := fun o e => Tu.mut e fun _ z => by cases z
    refine ⟨.ref p, rfl, p, C, dx, _, rfl, p3, TW.cl, TW.nN, by have h1 := putF_le "a" va []; have h2 := putF_le "b" vb (putF "a" va []); rw [List.length_nil] at h1; omega, ?_⟩
    have npn : n ≠ p := Dn.ne' p3 fun o z => by cases z
    have D4 : Dct P w cellR (nkV csk) (upd H3 p (.ins C dx (putF "near" (.ref n) (putF "b" vb (putF "a" va []))))) n (Fl.map fun c => (c, nbF Fl c)) := Dn.keep (hmt _ p3) (upd_ne npn)
    have k4 : ∀ c o, H c = some o → c ≠ p → (upd H3 p (.ins C dx (putF "near" (.ref n) (putF "b" vb (putF "a" va []))))) c = some o := fun c o e hc => by rw [upd_ne hc]; exact s3 _ _ (k0 c o e hc)
    have p4 : (upd H3 p (.ins C dx (putF "near" (.ref n) (putF "b" vb (putF "a" va []))))) p = some (.ins C dx (putF "near" (.ref n) (putF "b" vb (putF "a" va [])))) := upd_same
    generalize upd H3 p (.ins C dx (putF "near" (.ref n) (putF "b" vb (putF "a" va [])))) = H4 at D4 k4 p4
    -- self.behind
    intro k ob5 hk5 Dk0
    have Dk := Dk0 Cell Cell inferInstance cellR (nkV ck)
    have D5 := D4.upd (o := dno k ob5) hk5
    have k5 : ∀ c o, H c = some o → c ≠ p → (upd H4 k (dno k ob5)) c = some o := fun c o e hc => same_new hk5 _ _ (k4 c o e hc)
    have p5 := same_new (o := dno k ob5) hk5 _ _ p4
    generalize upd H4 k (dno k ob5) = H5 at Dk D5 k5 p5
    have npk : k ≠ p := Dk.ne' p5 fun o z => by cases z
    refine ⟨.ref p, rfl, p, C, dx, _, rfl, p5, TW.cl, TW.nK, by have h1 := putF_le "a" va []; have h2 := putF_le "b" vb (putF "a" va []); have h3 := putF_le "near" (.ref n) (putF "b" vb (putF "a" va [])); rw [List.length_nil] at h1; omega, ?_⟩
    have D6 := D5.keep (hmt (.ins C dx (putF "behind" (.ref k) (putF "near" (.ref n) (putF "b" vb (putF "a" va []))))) p5) (upd_ne npn)
    have Dk6 := Dk.keep (hmt (.ins C dx (putF "behind" (.ref k) (putF "near" (.ref n) (putF "b" vb (putF "a" va []))))) p5) (upd_ne npk)
    have k6 : ∀ c o, H c = some o → c ≠ p → (upd H5 p (.ins C dx (putF "behind" (.ref k) (putF "near" (.ref n) (putF "b" vb (putF "a" va [])))))) c = some o := fun c o e hc => by rw [upd_ne hc]; exact k5 c o e hc
    have p6 : (upd H5 p (.ins C dx (putF "behind" (.ref k) (putF "near" (.ref n) (putF "b" vb (putF "a" va [])))))) p = some (.ins C dx (putF "behind" (.ref k) (putF "near" (.ref n) (putF "b" vb (putF "a" va []))))) := upd_same
    generalize upd H5 p (.ins C dx (putF "behind" (.ref k) (putF "near" (.ref n) (putF "b" vb (putF "a" va []))))) = H6 at D6 Dk6 k6 p6
    -- self.ahead
    intro h ob7 hh7 Dh0
    have Dh := Dh0 Cell Cell inferInstance cellR (nkV ck)
    have D7 := D6.upd (o := dno h ob7) hh7
    have Dk7 := Dk6.upd (o := dno h ob7) hh7
    have k7 : ∀ c o, H c = some o → c ≠ p → (upd H6 h (dno h ob7)) c = some o := fun c o e hc => same_new hh7 _ _ (k6 c o e hc)
    have p7 := same_new (o := dno h ob7) hh7 _ _ p6
    generalize upd H6 h (dno h ob7) = H7 at Dh D7 Dk7 k7 p7
    have nph : h ≠ p := Dh.ne' p7 fun o z => by cases z
    refine ⟨.ref p, rfl, p, C, dx, _, rfl, p7, TW.cl, TW.nH, by have h1 := putF_le "a" va []; have h2 := putF_le "b" vb (putF "a" va []); have h3 := putF_le "near" (.ref n) (putF "b" vb (putF "a" va [])); have h4 := putF_le "behind" (.ref k) (putF "near" (.ref n) (putF "b" vb (putF "a" va []))); rw [List.length_nil] at h1; omega, ?_⟩
    have D8 := D7.keep (hmt (.ins C dx (putF "ahead" (.ref h) (putF "behind" (.ref k) (putF "near" (.ref n) (putF "b" vb (putF "a" va [])))))) p7) (upd_ne npn)
    have Dk8 := Dk7.keep (hmt (.ins C dx (putF "ahead" (.ref h) (putF "behind" (.ref k) (putF "near" (.ref n) (putF "b" vb (putF "a" va [])))))) p7) (upd_ne npk)
    have Dh8 := Dh.keep (hmt (.ins C dx (putF "ahead" (.ref h) (putF "behind" (.ref k) (putF "near" (.ref n) (putF "b" vb (putF "a" va [])))))) p7) (upd_ne nph)
    have k8 : ∀ c o, H c = some o → c ≠ p → (upd H7 p (.ins C dx (putF "ahead" (.ref h) (putF "behind" (.ref k) (putF "near" (.ref n) (putF "b" vb (putF "a" va []))))))) c = some o := fun c o e hc => by rw [upd_ne hc]; exact k7 c o e hc
    have p8 : (upd H7 p (.ins C dx (putF "ahead" (.ref h) (putF "behind" (.ref k) (putF "near" (.ref n) (putF "b" vb (putF "a" va []))))))) p = some (.ins C dx (putF "ahead" (.ref h) (putF "behind" (.ref k) (putF "near" (.ref n) (putF "b" vb (putF "a" va [])))))) := upd_same
    generalize upd H7 p (.ins C dx (putF "ahead" (.ref h) (putF "behind" (.ref k) (putF "near" (.ref n) (putF "b" vb (putF "a" va [])))))) = H8 at D8 Dk8 Dh8 k8 p8
    -- self.firsts
    refine ⟨by show 0 ≤ sizeLine; exact Nat.zero_le _, fun l hl => ?_⟩
    have p9 := same_new (o := .lst []) hl _ _ p8
    have npl : l ≠ p := fun z => by rw [z] at hl; rw [hl] at p8; cases p8
    have s9 : Same H8 (upd H8 l (.lst [])) := same_new hl
    refine ⟨.ref p, rfl, p, C, dx, _, rfl, p9, TW.cl, TW.nF, by have h1 := putF_le "a" va []; have h2 := putF_le "b" vb (putF "a" va []); have h3 := putF_le "near" (.ref n) (putF "b" vb (putF "a" va [])); have h4 := putF_le "behind" (.ref k) (putF "near" (.ref n) (putF "b" vb (putF "a" va []))); have h5 := putF_le "ahead" (.ref h) (putF "behind" (.ref k) (putF "near" (.ref n) (putF "b" vb (putF "a" va [])))); rw [List.length_nil] at h1; omega, ?_⟩
    have tu := hmt (.ins C dx (putF "firsts" (.ref l) (putF "ahead" (.ref h) (putF "behind" (.ref k) (putF "near" (.ref n) (putF "b" vb (putF "a" va []))))))) p9
    have k9 : ∀ c o, H c = some o → c ≠ p → (upd (upd H8 l (.lst [])) p (.ins C dx (putF "firsts" (.ref l) (putF "ahead" (.ref h) (putF "behind" (.ref k) (putF "near" (.ref n) (putF "b" vb (putF "a" va [])))))))) c = some o := fun c o e hc => by rw [upd_ne hc]; exact s9 _ _ (k8 c o e hc)
    have tH := mono k9 _ _ hp
    refine q _ k9 ⟨dx, _, va, vb, n, k, h, l, [], [], upd_same, Fl6.made va vb _ _ _ _, NK.tu tH na, NK.tu tH nb, (D8.same s9).keep tu (upd_ne npn), (Dk8.same s9).keep tu (upd_ne npk), (Dh8.same s9).keep tu (upd_ne nph), (LstV.start H8 l).mono tu (upd_ne npl), ?_⟩
    exact ⟨fun e => by simp, fun e => by simp, fun f => by simp, List.nodup_nil⟩
end
end MF

set_option autoImplicit false
set_option Elab.async false
set_option linter.all false
set_option maxRecDepth 100000
set_option maxHeartbeats 400000
/-! Ways.doors_from. -/
namespace MF
open PySem PySem.Spec PyProof.Rows L2
section
variable {a b : Cell} {S : List Mow.Step} {pk ph : List (Cell × Cell)} {fs : List Cell}
theorem Rep.beh (R : Rep a b S pk ph fs) (u : Cell) : u ∈ pk.map (·.1) ↔ Mow.Beh a S u := by
  constructor
  · intro h
    obtain ⟨⟨x, n⟩, he, e⟩ := List.mem_map.mp h
    simp only at e
    subst e
    have := (R.hk _).mp he
    exact ⟨this.2, n, this.1⟩
  · rintro ⟨ne, n, h⟩
    exact List.mem_map.mpr ⟨(u, n), (R.hk _).mpr ⟨h, ne⟩, rfl⟩
end
theorem NK.mk_door {H : Hp} {t : Addr} {c : Cell} {i : Int} {y : V} (e : H t = some (.tup [y, .int i])) (n : NK H (ck c) y) : NK H (dk (c, i)) (.ref t) := NK.mk_two e n (.num i)
section
variable {P : Program} {w : World} {K : PySem.W.Frag} {mg : Str → Option Value} {base : Heap} {C : Addr}
abbrev nDoors : List Str := ["self", "door", "cell", "side", "found", "other"]
theorem scDoors : FnScope nDoors ["self", "door"] (defScope sDoors) := ⟨rfl, rfl, rfl, by decide +kernel, rfl, by decide +kernel, by decide +kernel⟩
def spDoors (P : Program) (w : World) (C : Addr) : Sp := fun vs H Q _ => ∃ (p : Addr) (v : V) (Fl : List Cell) (a b : Cell) (S : List Mow.Step) (gs : List Cell) (d : Mow.Door), vs = [.ref p, v] ∧ WaysAt P w C H p Fl a b S gs ∧ Mow.Flow Fl a b S ∧ Fl.Nodup ∧ NK H (dk d) v ∧ d.1 ∈ Fl ∧ (d.2 = 0 ∨ d.2 = 1) ∧
  ∀ H' l ds, Same H H' → H l = none → LstV (nkV dk) H' l ds → (∀ e, e ∈ ds ↔ Mow.Nxt Fl a b S d e) → ds.length ≤ 5 → Q (.ref l) H'
theorem ok_doors (T : Tx mg) (TW : TxW K C) (F : MthD K C "doors_from" "Ways.doors_from" sDoors ["self", "door"]) : MDn P w K mg base 1 C "doors_from" ["self", "door"] (spDoors P w C) := .of F fun f fd F => by
  refine F.ok scDoors (fun vs H Q E h => ?_) (fun cdv A outer s H vs Q E hr h => ?_)
  · obtain ⟨p, v, Fl, a, b, S, gs, d, rfl, _⟩ := h; rfl
  · obtain ⟨p, v, Fl, a, b, S, gs, d, rfl, WA, hF, fN, nd, dF, ds2, q⟩ := h
    have hu := room20 hr
    have e64 := room64 hr
    refine ⟨_, pss_cons (ps_asg (pv 1) (pg_tup rfl (pgs_cons (pg_name (i := 2) scDoors.nd rfl (.inl rfl)) (pgs_cons (pg_name (i := 3) scDoors.nd rfl (.inl rfl)) pgs_nil))))
      (pss_cons (ps_if (pt_cmpR op_eq (pv 3) (pe_num (by rfl) T.cout) (nomark _))
        (pss_cons (ps_setLc (i := 4) (own := [("other", 5)]) (g := gName 5) rfl scDoors.nd rfl rfl (sw_true rfl rfl rfl (by decide +kernel)) (pi_tup (pe_nget hu (pe_fld (pv 0) rfl) (pv 2) (fun _ _ => rfl))) (blkOk_by (N := nDoors) (sc := defScope sDoors) (by decide +kernel))
            (fun _ _ _ _ _ => pg_name (i := 5) scDoors.nd rfl (Or.inl rfl)) (fun _ _ _ _ _ => pts_one (pt_cmpR (op_nneT e64) (pv 5) (pe_fldC K rfl (pv 0) rfl) rfl)) (fun _ _ _ _ _ => pe_tup (pa_cons (pv 5) (pa_cons (pe_num (by rfl) T.cin) pa_nil))))
        (pss_cons (ps_if (pt_cmpR (op_ndin hu) (pv 2) (pe_fld (pv 0) rfl) rfl)
            (pss_one (ps_expr (pe_bm PySem.F.plainAttrs_list PySem.F.slot_list_append PySem.F.type_list_append mt_append (pv 4) (pa_cons (pe_tup (pa_cons (pv 2) (pa_cons (pe_num (by rfl) T.cin) pa_nil))) pa_nil)))) pss_nil)
        (pss_one (ps_ret (pv 4))))) pss_nil)
      (pss_cons (ps_set (i := 4) scDoors.nd rfl (.inl rfl) (pe_lst pa_nil))
      (pss_cons (ps_if (pt_cmpR (op_ndnin hu) (pv 2) (pe_fld (pv 0) rfl) rfl)
          (pss_one (ps_expr (pe_bm PySem.F.plainAttrs_list PySem.F.slot_list_append PySem.F.type_list_append mt_append (pv 4) (pa_cons (pe_tup (pa_cons (pv 2) (pa_cons (pe_num (by rfl) T.cout) pa_nil))) pa_nil))))
          (pss_one (ps_if (pt_cmpR (op_nneT e64) (pe_nget hu (pe_fld (pv 0) rfl) (pv 2) (fun _ _ => rfl)) (pe_fld (pv 0) rfl) rfl)
            (pss_one (ps_expr (pe_bm PySem.F.plainAttrs_list PySem.F.slot_list_append PySem.F.type_list_append mt_append (pv 4) (pa_cons (pe_tup (pa_cons (pe_nget hu (pe_fld (pv 0) rfl) (pv 2) (fun _ _ => rfl)) (pa_cons (pe_num (by rfl) T.cout) pa_nil))) pa_nil)))) pss_nil)))
      (pss_one (ps_ret (pv 4)))))), ?_⟩
    obtain ⟨dx, fs, va, vb, n, k, h, fi, pk, ph, hp, F6, na, nb, Dn, Dk, Dh, Lf, R⟩ := WA
    obtain ⟨t, y, rfl, et, ny⟩ := nd.door
    obtain ⟨c, sd⟩ := d
    simp only at dF ds2 ny et
    -- cell, side = door
    refine ⟨.ref t, rfl, t, _, rfl, SqT.of et, rfl, _, _, rfl, _, _, rfl, rfl, ?_⟩
    refine ⟨_, rfl, rfl, _, rfl, ?_⟩
    refine t_ite (fun hs => ?_) (fun hs => ?_)
    · have sd1 : sd = 1 := by simpa using hs
      subst sd1
      -- found = [..]
      refine ⟨.ref p, rfl, p, C, dx, fs, _, rfl, hp, TW.cl, TW.nN, F6.n, y, rfl, Cell, List Cell, inferInstance, cellR, nkV csk, n, _, c, nbF Fl c, rfl, Dn, ny, look_map (nbF Fl) dF fN, fun v2 hv2 => ?_⟩
      obtain ⟨t2, xs2, rfl, e2, n2⟩ := NK.seq hv2
      have hl2 : xs2.length = (nbF Fl c).length := n2.lenm
      have hl4 := nbF_len Fl c
      refine ⟨t2, rfl, ⟨_, SqT.of e2⟩, fun D hD => ?_⟩
      refine lc_pick (vr := nkV dk) (walk_tup (xs := xs2)) (nbF Fl c) (fun x => if decide (x = a) = true then none else some (x, (0 : Int))) hl2.symm (by omega) hD (fun H s => SqT.of (s _ _ e2)) ?_ ?_
      · rintro i x z H2 H2' kk e hz s2 ⟨rfl, hx⟩ hk he
        have nx := (n2.at_ hx hz).same s2
        refine ⟨rfl, x, rfl, .ref p, rfl, p, C, dx, fs, _, rfl, s2 _ _ hp, TW.cl, TW.nA, F6.a, rd_ceq true nx (na.same s2) ⟨_, rfl, ?_⟩⟩
        refine t_ite (fun q1 => ?_) (fun q1 => ?_)
        · have q2 : decide (z = a) = false := by simpa [ngB] using q1
          refine ⟨x, rfl, by show 2 ≤ sizeLine; decide, fun t3 nt3 => hk (z, 0) (by rw [q2]; rfl) _ _ (same_new nt3) ?_⟩
          exact NK.mk_door (H := upd H2' t3 _) upd_same (nx.same (same_new nt3))
        · have q2 : decide (z = a) = true := by simpa [ngB] using q1
          exact he (by rw [q2]; rfl) _ (Same.refl _)
      rintro H2 s2 L
      have hmem : ∀ e : Mow.Door, e ∈ (nbF Fl c).filterMap (fun x => if decide (x = a) = true then none else some (x, (0 : Int))) ↔ (e.2 = 0 ∧ e.1 ∈ Mow.nb c ∧ e.1 ∈ Fl ∧ e.1 ≠ a) := by
        rintro ⟨ec, es⟩
        rw [List.mem_filterMap]
        constructor
        · rintro ⟨x, hx, e⟩
          by_cases z : x = a
          · rw [decide_eq_true z] at e; cases e
          · rw [decide_eq_false z] at e
            cases e
            exact ⟨rfl, (mem_nbF.mp hx).1, (mem_nbF.mp hx).2, z⟩
        · rintro ⟨e1, e2, e3, e4⟩
          simp only at e1 e2 e3 e4
          subst e1
          exact ⟨ec, mem_nbF.mpr ⟨e2, e3⟩, by rw [decide_eq_false e4]; rfl⟩
      have hlen : ((nbF Fl c).filterMap (fun x => if decide (x = a) = true then none else some (x, (0 : Int)))).length ≤ 4 := Nat.le_trans (List.length_filterMap_le _ _) hl4
      generalize (nbF Fl c).filterMap (fun x => if decide (x = a) = true then none else some (x, (0 : Int))) = ds at L hmem hlen
      refine ⟨y, rfl, .ref p, rfl, p, C, dx, fs, _, rfl, s2 _ _ hp, TW.cl, TW.nK, F6.k, Cell, Cell, inferInstance, cellR, nkV ck, k, pk, c, rfl, Dk.same s2, ny.same s2, _, rfl, ?_⟩
      refine t_ite (fun hb => ?_) (fun hb => ?_)
      · have hb' : Mow.Beh a S c := (R.beh c).mp (by simpa using hb)
        refine ⟨.ref D, rfl, .inl ⟨rfl, _, SqL.of L.choose_spec.1⟩, y, rfl, by show 2 ≤ sizeLine; decide, fun t3 nt3 => ?_⟩
        obtain ⟨acc, b1, b2, b3⟩ := L.push (same_new (o := .tup [y, .int 0]) nt3) (y := .ref t3) (b := (c, 0)) (NK.mk_door upd_same ((ny.same s2).same (same_new nt3))) (by omega)
        refine ⟨D, acc, .ref t3, rfl, rfl, b1, b2, .ref D, rfl, ?_⟩
        refine q _ D (ds ++ [(c, 0)]) (same_mut hD (s2.trans (same_new nt3))) hD b3 (fun e => ?_) (by rw [List.length_append, List.length_singleton]; omega)
        rw [List.mem_append, List.mem_singleton, hmem]
        unfold Mow.Nxt
        constructor
        · rintro (z | z)
          · exact .inl ⟨rfl, z.1, z.2.1, z.2.2.1, z.2.2.2⟩
          · exact .inr (.inl ⟨rfl, z, hb'⟩)
        · rintro (z | z | z | z)
          · exact .inl ⟨z.2.1, z.2.2.1, z.2.2.2.1, z.2.2.2.2⟩
          · exact .inr z.2.1
          · exact absurd z.1 (by show ¬ (1 : Int) = 0; decide)
          · exact absurd z.1 (by show ¬ (1 : Int) = 0; decide)
      · have hb' : ¬ Mow.Beh a S c := fun z => by
          have := (R.beh c).mpr z
          have h2 : ¬ c ∈ pk.map (·.1) := by simpa using hb
          exact h2 this
        refine ⟨.ref D, rfl, ?_⟩
        refine q _ D ds s2 hD L (fun e => ?_) (by omega)
        rw [hmem]
        unfold Mow.Nxt
        constructor
        · exact fun z => .inl ⟨rfl, z.1, z.2.1, z.2.2.1, z.2.2.2⟩
        · rintro (z | z | z | z)
          · exact ⟨z.2.1, z.2.2.1, z.2.2.2.1, z.2.2.2.2⟩
          · exact absurd z.2.2 hb'
          · exact absurd z.1 (by show ¬ (1 : Int) = 0; decide)
          · exact absurd z.1 (by show ¬ (1 : Int) = 0; decide)
    · have sd0 : sd = 0 := by
        rcases ds2 with z | z
        · exact z
        · exfalso; rw [z] at hs; simp at hs
      subst sd0
      -- found = []
      refine ⟨by show 0 ≤ sizeLine; exact Nat.zero_le _, fun D hD => ?_⟩
      have s2 := same_new (o := .lst []) hD
      have L := LstV.start (vr := nkV dk) H D
      generalize upd H D (.lst []) = H2 at s2 L
      refine ⟨y, rfl, .ref p, rfl, p, C, dx, fs, _, rfl, s2 _ _ hp, TW.cl, TW.nK, F6.k, Cell, Cell, inferInstance, cellR, nkV ck, k, pk, c, rfl, Dk.same s2, ny.same s2, _, rfl, ?_⟩
      refine t_ite (fun hb => ?_) (fun hb => ?_)
      · have hb' : ¬ Mow.Beh a S c := fun z => by
          have := (R.beh c).mpr z
          have h2 : ¬ c ∈ pk.map (·.1) := by simpa using hb
          exact h2 this
        refine ⟨.ref D, rfl, .inl ⟨rfl, _, SqL.of L.choose_spec.1⟩, y, rfl, by show 2 ≤ sizeLine; decide, fun t3 nt3 => ?_⟩
        obtain ⟨acc, b1, b2, b3⟩ := L.push (same_new (o := .tup [y, .int 1]) nt3) (y := .ref t3) (b := (c, 1)) (NK.mk_door upd_same ((ny.same s2).same (same_new nt3))) (by simp)
        refine ⟨D, acc, .ref t3, rfl, rfl, b1, b2, .ref D, rfl, ?_⟩
        refine q _ D [(c, 1)] (same_mut hD (s2.trans (same_new nt3))) hD b3 (fun e => ?_) (by simp)
        rw [List.mem_singleton]
        unfold Mow.Nxt
        constructor
        · exact fun z => .inr (.inr (.inl ⟨rfl, z, hb'⟩))
        · rintro (z | z | z | z)
          · exact absurd z.1 (by show ¬ (0 : Int) = 1; decide)
          · exact absurd z.1 (by show ¬ (0 : Int) = 1; decide)
          · exact z.2.1
          · exact absurd z.2.2.1 hb'
      · have hb' : Mow.Beh a S c := (R.beh c).mp (by simpa using hb)
        obtain ⟨ca, m, hm⟩ := hb'
        obtain ⟨o, ho⟩ := hF.prev ca hm
        have cb : c ≠ b := (hF.ok _ hm).2.2.2.2
        have hph : (c, o) ∈ ph := (R.hh (c, o)).mpr ⟨ho, cb⟩
        have hlk := look_of_mem Dh.nodup hph
        refine ⟨.ref p, rfl, p, C, dx, fs, _, rfl, s2 _ _ hp, TW.cl, TW.nH, F6.h, y, rfl, Cell, Cell, inferInstance, cellR, nkV ck, h, ph, c, o, rfl, Dh.same s2, ny.same s2, hlk, fun v3 hv3 => ?_⟩
        refine ⟨.ref p, rfl, p, C, dx, fs, _, rfl, s2 _ _ hp, TW.cl, TW.nA, F6.a, rd_ceq true hv3 (na.same s2) ⟨_, rfl, ?_⟩⟩
        refine t_ite (fun hq => ?_) (fun hq => ?_)
        · have hq' : ¬ o = a := by simpa [ngB] using hq
          refine ⟨.ref D, rfl, .inl ⟨rfl, _, SqL.of L.choose_spec.1⟩, .ref p, rfl, p, C, dx, fs, _, rfl, s2 _ _ hp, TW.cl, TW.nH, F6.h, y, rfl, Cell, Cell, inferInstance, cellR, nkV ck, h, ph, c, o, rfl, Dh.same s2, ny.same s2, hlk, fun v4 hv4 => ?_⟩
          refine ⟨by show 2 ≤ sizeLine; decide, fun t3 nt3 => ?_⟩
          obtain ⟨acc, b1, b2, b3⟩ := L.push (same_new (o := .tup [v4, .int 1]) nt3) (y := .ref t3) (b := (o, 1)) (NK.mk_door upd_same (NK.same (same_new nt3) hv4)) (by simp)
          refine ⟨D, acc, .ref t3, rfl, rfl, b1, b2, .ref D, rfl, ?_⟩
          refine q _ D [(o, 1)] (same_mut hD (s2.trans (same_new nt3))) hD b3 (fun e => ?_) (by simp)
          rw [List.mem_singleton]
          unfold Mow.Nxt
          constructor
          · exact fun z => .inr (.inr (.inr ⟨rfl, by rw [z], ⟨ca, m, hm⟩, cb, by rw [z]; exact ho, by rw [z]; exact hq'⟩))
          · rintro (z | z | z | z)
            · exact absurd z.1 (by show ¬ (0 : Int) = 1; decide)
            · exact absurd z.1 (by show ¬ (0 : Int) = 1; decide)
            · exact absurd ⟨ca, m, hm⟩ z.2.2
            · exact Prod.ext (hF.inU cb z.2.2.2.2.1 ho) z.2.1
        · have hq' : o = a := by simpa [ngB] using hq
          refine ⟨.ref D, rfl, ?_⟩
          refine q _ D [] s2 hD L (fun e => ?_) (by simp)
          unfold Mow.Nxt
          constructor
          · exact fun z => by simp at z
          · rintro (z | z | z | z)
            · exact absurd z.1 (by show ¬ (0 : Int) = 1; decide)
            · exact absurd z.1 (by show ¬ (0 : Int) = 1; decide)
            · exact absurd ⟨ca, m, hm⟩ z.2.2
            · exact absurd ((hF.inU cb z.2.2.2.2.1 ho).trans hq') z.2.2.2.2.2
end
end MF

set_option autoImplicit false
set_option Elab.async false
set_option linter.all false
set_option maxRecDepth 100000
set_option maxHeartbeats 400000
/-! Ways.search. -/
namespace MF
open PySem PySem.Spec PyProof.Rows L2
section
variable {P : Program} {w : World} {K : PySem.W.Frag} {mg : Str → Option Value} {base : Heap} {C : Addr}
theorem keys_le {Fl : List Cell} {ks : List Mow.Door} (hn : ks.Nodup) (h : ∀ d ∈ ks, d.1 ∈ Fl ∧ (d.2 = 0 ∨ d.2 = 1)) : ks.length ≤ 2 * Fl.length := by
  have := Mow.nodup_le (m := (Fl.map fun c => ((c, 0) : Mow.Door)) ++ Fl.map fun c => ((c, 1) : Mow.Door)) hn fun d hd => by
    obtain ⟨h1, h2⟩ := h d hd
    obtain ⟨c, i⟩ := d
    rcases h2 with h2 | h2
    · simp only at h2; subst h2; exact List.mem_append_left _ (List.mem_map.mpr ⟨c, h1, rfl⟩)
    · simp only at h2; subst h2; exact List.mem_append_right _ (List.mem_map.mpr ⟨c, h1, rfl⟩)
  rw [List.length_append, List.length_map, List.length_map] at this
  omega
abbrev nSearch : List Str := ["self", "begin", "met", "waiting", "at", "door"]
theorem scSearch : FnScope nSearch ["self"] (defScope sSearch) := ⟨rfl, rfl, rfl, by decide +kernel, rfl, by decide +kernel, by decide +kernel⟩
def spSearch (P : Program) (w : World) (C : Addr) : Sp := fun vs H Q _ => ∃ (p : Addr) (Fl : List Cell) (a b : Cell) (S : List Mow.Step) (gs : List Cell), vs = [.ref p] ∧ WaysAt P w C H p Fl a b S gs ∧ Mow.Flow Fl a b S ∧ Fl.Nodup ∧ Fl.length ≤ 1000 ∧ a ∈ Fl ∧ a ≠ b ∧
  ∀ H' d M, Same H H' → H d = none → Dct P w doorR parV H' d M → Mow.Srch Fl a b S M → ((b, (0 : Int)) ∈ Mow.keys M ∨ ∀ d ∈ Mow.keys M, ∀ e, Mow.Nxt Fl a b S d e → e ∈ Mow.keys M) → Q (.ref d) H'
/-- what holds between two turns -/
def SrchP (P : Program) (w : World) (Fl : List Cell) (a b : Cell) (S : List Mow.Step) (H0 : Hp) (dm lw : Addr) (M : List (Mow.Door × Option Mow.Door)) (H : Hp) : Prop :=
  Same H0 H ∧ Dct P w doorR parV H dm M ∧ LstV (nkV dk) H lw (Mow.keys M) ∧ Mow.Srch Fl a b S M
theorem ok_search (T : Tx mg) (TW : TxW K C) (DD : MDn P w K mg base 1 C "doors_from" ["self", "door"] (spDoors P w C)) (F : MthD K C "search" "Ways.search" sSearch ["self"]) : MDn P w K mg base 2 C "search" ["self"] (spSearch P w C) := .of F fun f fd F => by
  refine F.ok scSearch (fun vs H Q E h => ?_) (fun cdv A outer s H vs Q E hr h => ?_)
  · obtain ⟨p, Fl, a, b, S, gs, rfl, _⟩ := h; rfl
  · obtain ⟨p, Fl, a, b, S, gs, rfl, WA, hF, fN, fz, aF, ab, q⟩ := h
    have hu := room20 hr
    refine ⟨_, pss_cons (ps_set (i := 1) scSearch.nd rfl (.inl rfl) (pe_tup (pa_cons (pe_fld (pv 0) rfl) (pa_cons (pe_num (by rfl) T.cout) pa_nil))))
      (pss_cons (ps_set (i := 2) scSearch.nd rfl (.inl rfl) (pe_ndisp hu (pps_cons (pv 1) pe_non pps_nil) rfl rfl (fun z => by cases z) (by show 1 ≤ 15; decide)))
      (pss_cons (ps_set (i := 3) scSearch.nd rfl (.inl rfl) (pe_lst (pa_cons (pv 1) pa_nil)))
      (pss_cons (ps_set (i := 4) scSearch.nd rfl (.inl rfl) pe_int)
      (pss_cons (ps_while PassesOwn.never (PW.pt (pw_and (pt_cmpR op_lt (pv 4) (pe_callB call_len_seq (by rfl) T.len PySem.boot_len (pa_cons (pv 3) pa_nil)) (nomark _))
          (pw_and1 (pt_cmpR (op_ndnin hu) (pe_tup (pa_cons (pe_fld (pv 0) rfl) (pa_cons (pe_num (by rfl) T.cin) pa_nil))) (pv 2) rfl))))
        (pss_cons (ps_for PassesOwn.never rfl (pi_list (pe_mdn TW.cl DD hr (pv 0) (pa_cons (pe_ix ix_list (pv 3) (pv 4) (fun _ _ => rfl)) pa_nil))) (pg_name (i := 5) scSearch.nd rfl (.inl rfl))
          (pss_one (ps_if (pt_cmpR (op_ndnin hu) (pv 5) (pv 2) rfl)
            (pss_cons (ps_asg (pe_ix ix_list (pv 3) (pv 4) (fun _ _ => rfl)) (pg_sub (pv 2) (pv 5) (set_nd hu)))
            (pss_one (ps_expr (pe_bm PySem.F.plainAttrs_list PySem.F.slot_list_append PySem.F.type_list_append mt_append (pv 3) (pa_cons (pv 5) pa_nil))))) pss_nil)))
        (pss_one (ps_aug (i := 4) scSearch.nd rfl (.inl rfl) pe_int ip_add))))
      (pss_one (ps_ret (pv 2))))))), ?_⟩
    obtain ⟨dx, fs, va, vb, n, k, h, fi, pk, ph, hp, F6, na, nb, _⟩ := id WA
    -- begin
    refine ⟨.ref p, rfl, p, C, dx, fs, _, rfl, hp, TW.cl, TW.nA, F6.a, by show 2 ≤ sizeLine; decide, fun tb ntb => ?_⟩
    have s1 := same_new (o := .tup [va, .int 1]) ntb
    have nbg : NK (upd H tb (.tup [va, .int 1])) (dk (a, 1)) (.ref tb) := NK.mk_door upd_same (na.same s1)
    generalize upd H tb (.tup [va, .int 1]) = H1 at s1 nbg
    -- met
    intro dm hdm
    refine ⟨.ref tb, rfl, upd_same, Mow.Door, Option Mow.Door, inferInstance, doorR, parV, [((a, 1), none)], .cons ⟨nbg.same (same_new hdm), rfl⟩ .nil, by show 1 ≤ 15; decide, fun ob Dm => ?_⟩
    have hdm0 : H dm = none := s1.free hdm
    have s2 : Same H (upd (upd H1 dm (dno dm obj0)) dm (dno dm ob)) := s1.trans (same_mut hdm (same_new hdm))
    have nbg2 := nbg.same (same_mut (o := dno dm ob) hdm (same_new (o := dno dm obj0) hdm))
    generalize upd (upd H1 dm (dno dm obj0)) dm (dno dm ob) = H2 at s2 Dm nbg2
    -- waiting
    refine ⟨.ref tb, rfl, by show 1 ≤ sizeLine; decide, fun lw hlw => ?_⟩
    have hlw0 : H lw = none := s2.free hlw
    have nml : dm ≠ lw := Dm.ne hlw
    have P0 : SrchP P w Fl a b S H dm lw [((a, 1), none)] (upd H2 lw (.lst [.ref tb])) :=
      ⟨s2.trans (same_new hlw), Dm.upd hlw, ⟨[.ref tb], upd_same, .cons (nbg2.same (same_new hlw)) .nil⟩, .one⟩
    generalize upd H2 lw (.lst [.ref tb]) = H3 at P0
    have bound : ∀ M, Mow.Srch Fl a b S M → M.length ≤ 2 * Fl.length := fun M hM => by
      have := keys_le (Mow.Met.nodup hM) fun d hd => let z := Mow.Srch.doors hF aF ab hM d hd; ⟨z.1, z.2.1⟩
      rwa [Mow.keys, List.length_map] at this
    -- while
    refine ⟨fun m σ H4 => ∃ (M : List (Mow.Door × Option Mow.Door)) (i : Nat) (y5 : Option V), σ = [some (.ref p), some (.ref tb), some (.ref dm), some (.ref lw), some (.int i), y5] ∧ SrchP P w Fl a b S H dm lw M H4 ∧
        (∀ j < i, ∀ d, (Mow.keys M)[j]? = some d → ∀ e, Mow.Nxt Fl a b S d e → e ∈ Mow.keys M) ∧ m = 2 * Fl.length - i,
      ⟨_, _, 0, none, rfl, P0, fun j hj => absurd hj (Nat.not_lt_zero _), rfl⟩, ?_⟩
    rintro m σ H4 ⟨M, i, y5, rfl, ⟨s4, D4, L4, hM⟩, hcl, rfl⟩
    obtain ⟨acc, ea, pa⟩ := id L4
    have hal : acc.length = (Mow.keys M).length := Paired.length pa
    have hkl : (Mow.keys M).length = M.length := List.length_map _
    refine ⟨.int i, rfl, .ref lw, rfl, lw, acc, rfl, .inl (SqL.of ea), _, _, rfl, rfl, _, rfl, ?_⟩
    refine t_ite (fun hlt => ?_) (fun hlt => ?_)
    · have hi : i < M.length := by
        have h1 : (i : Int) < (acc.length : Int) := of_decide_eq_true hlt
        omega
      refine ⟨.ref p, rfl, p, C, dx, fs, _, rfl, s4 _ _ hp, TW.cl, TW.nB, F6.b, by show 2 ≤ sizeLine; decide, fun tn ntn => ?_⟩
      have s5 := same_new (o := .tup [vb, .int 0]) ntn
      have nbe : NK (upd H4 tn (.tup [vb, .int 0])) (dk (b, 0)) (.ref tn) := NK.mk_door upd_same ((nb.same s4).same s5)
      generalize upd H4 tn (.tup [vb, .int 0]) = H5 at s5 nbe
      have s05 : Same H H5 := s4.trans s5
      refine ⟨.ref dm, rfl, Mow.Door, Option Mow.Door, inferInstance, doorR, parV, dm, M, (b, 0), rfl, D4.same s5, nbe, _, rfl, ?_⟩
      refine t_ite (fun hq => ?_) (fun hq => ?_)
      · have hb0 : (b, (0 : Int)) ∉ Mow.keys M := by simpa [ngB] using hq
        -- a turn
        refine ⟨fun σ' H' => ∃ (M' : List (Mow.Door × Option Mow.Door)) (y5 : Option V), σ' = [some (.ref p), some (.ref tb), some (.ref dm), some (.ref lw), some (.int ((i + 1 : Nat) : Int)), y5] ∧ SrchP P w Fl a b S H dm lw M' H' ∧
            (∀ j < i + 1, ∀ d, (Mow.keys M')[j]? = some d → ∀ e, Mow.Nxt Fl a b S d e → e ∈ Mow.keys M'), ?_, ?_⟩
        · rintro σ' H' ⟨M', y5', e1, e2, e3⟩
          have := bound M hM
          exact ⟨2 * Fl.length - (i + 1), by omega, M', i + 1, y5', e1, e2, e3, rfl⟩
        · have L5 := L4.same s5
          obtain ⟨d0, hd0⟩ := Mow.get_of_lt (l := Mow.keys M) (i := i) (by omega)
          obtain ⟨y0, hy0⟩ := Mow.get_of_lt (l := acc) (i := i) (by omega)
          have ny0 : NK H4 (dk d0) y0 := paired_ix pa hy0 hd0
          obtain ⟨d0F, d0s, _⟩ := Mow.Srch.doors hF aF ab hM d0 (Mow.get_mem hd0)
          have hd0b : d0 ≠ (b, 0) := fun z => hb0 (z ▸ Mow.get_mem hd0)
          refine ⟨.ref p, rfl, p, dx, fs, rfl, s05 _ _ hp, F6.m1, .ref lw, rfl, .int i, rfl, lw, acc, i, y0, rfl, rfl, SqL.of (s5 _ _ ea), atI_nat hy0, p, y0, Fl, a, b, S, gs, d0, rfl, WA.same s05, hF, fN, ny0.same s5, d0F, d0s, fun H6 l ds s6 hl L6 hN hd5 => ?_⟩
          have hnl : l ≠ lw := fun z => by
            subst z
            rw [s5 _ _ ea] at hl; cases hl
          have hnd : dm ≠ l := (D4.same s5).ne hl
          obtain ⟨accd, ed, pd⟩ := id L6
          have hdl : accd.length = ds.length := Paired.length pd
          have s06 : Same H H6 := s05.trans s6
          refine ⟨l, rfl, ⟨_, SqL.of ed⟩, ?_⟩
          refine for_it (walk_list (xs := accd)) (fun j σ' H' => ∃ (M' ex : List (Mow.Door × Option Mow.Door)) (y5 : Option V), σ' = [some (.ref p), some (.ref tb), some (.ref dm), some (.ref lw), some (.int i), y5] ∧ SrchP P w Fl a b S H dm lw M' H' ∧
              H' l = some (.lst accd) ∧ LstV (nkV dk) H' l ds ∧ M' = M ++ ex ∧ ∀ e ∈ ds.take j, e ∈ Mow.keys M')
            ⟨M, [], y5, rfl, ⟨s06, (D4.same s5).same s6, L5.same s6, hM⟩, ed, L6, (List.append_nil _).symm, fun e he => by simp at he⟩ (fun j σ' H' _ ⟨_, _, _, _, _, e, _⟩ => SqL.of e) ?_ ?_
          · rintro j u σ' H7 H7' hj ⟨M', ex, y5', rfl, ⟨s7, D7, L7, hM'⟩, ed7, Ld7, eM, htk⟩ ⟨rfl, hu7⟩
            have pd7 := Ld7.get ed7
            obtain ⟨e, he⟩ := Mow.get_of_lt (l := ds) (i := j) (by omega)
            have ne7 : NK H7' (dk e) u := paired_ix pd7 hu7 he
            refine ⟨u, rfl, .ref dm, rfl, Mow.Door, Option Mow.Door, inferInstance, doorR, parV, dm, M', e, rfl, D7, ne7, _, rfl, ?_⟩
            refine t_ite (fun hq7 => ?_) (fun hq7 => ?_)
            · have hnew : e ∉ Mow.keys M' := by simpa [ngB] using hq7
              have hk0 : (Mow.keys M')[i]? = some d0 := by
                rw [eM, Mow.keys, List.map_append, List.getElem?_append_left (by rw [← Mow.keys]; omega)]
                exact hd0
              obtain ⟨accw, ew, pw⟩ := id L7
              have hwl : accw.length = (Mow.keys M').length := Paired.length pw
              have hi2 := Mow.get_lt hk0
              obtain ⟨y1, hy1⟩ := Mow.get_of_lt (l := accw) (i := i) (by omega)
              have ny1 : NK H7' (dk d0) y1 := paired_ix pw hy1 hk0
              refine ⟨.ref lw, rfl, .int i, rfl, lw, accw, i, y1, rfl, rfl, SqL.of ew, atI_nat hy1, .ref dm, rfl, u, rfl, Mow.Door, Option Mow.Door, inferInstance, doorR, parV, dm, M', e, some d0, rfl, D7, ne7, ny1, ?_, fun ob8 D8 => ?_⟩
              · have := bound M' hM'
                exact small_line (by omega)
              rw [putL_new hnew] at D8
              obtain ⟨o7, c7⟩ := D7.obj
              have tu8 : Tu H7' (upd H7' dm (dno dm ob8)) := Tu.mut c7 dno_tup
              have s8 : Same H (upd H7' dm (dno dm ob8)) := same_mut hdm0 s7
              have L8 := L7.mono tu8 (upd_ne nml.symm)
              have Ld8 := Ld7.mono tu8 (upd_ne hnd.symm)
              have ed8 : (upd H7' dm (dno dm ob8)) l = some (.lst accd) := (upd_ne hnd.symm).trans ed7
              have ne8 := NK.tu tu8 ne7
              generalize upd H7' dm (dno dm ob8) = H8 at D8 s8 L8 Ld8 ed8 ne8
              obtain ⟨acc9, b1, b2, b3⟩ := L8.push (Same.refl _) (y := u) (b := e) ne8 (by
                have h1 := bound M' hM'
                have h2 : (Mow.keys M').length = M'.length := List.length_map _
                omega)
              refine ⟨.ref lw, rfl, .inl ⟨rfl, _, SqL.of b1⟩, u, rfl, lw, acc9, u, rfl, rfl, b1, b2, ?_⟩
              have tu9 : Tu H8 (upd H8 lw (.lst (acc9 ++ [u]))) := Tu.mut b1 fun _ z => by cases z
              have hks : Mow.keys (M' ++ [(e, some d0)]) = Mow.keys M' ++ [e] := by simp [Mow.keys]
              refine ⟨M' ++ [(e, some d0)], ex ++ [(e, some d0)], some u, rfl, ⟨same_mut hlw0 s8, D8.keep tu9 (upd_ne nml), by rw [hks]; exact b3, ?_⟩, (upd_ne hnl).trans ed8, Ld8.mono tu9 (upd_ne hnl), by rw [eM, List.append_assoc], fun x hx => ?_⟩
              · exact .more hM' (Mow.get_mem hk0) ⟨hd0b, (hN e).mp (Mow.get_mem he)⟩ hnew
              · rw [hks]
                rw [take_snoc he] at hx
                rcases List.mem_append.mp hx with z | z
                · exact List.mem_append_left _ (htk x z)
                · exact List.mem_append_right _ z
            · have hold : e ∈ Mow.keys M' := by simpa [ngB] using hq7
              refine ⟨M', ex, some u, rfl, ⟨s7, D7, L7, hM'⟩, ed7, Ld7, eM, fun x hx => ?_⟩
              rw [take_snoc he] at hx
              rcases List.mem_append.mp hx with z | z
              · exact htk x z
              · rw [List.mem_singleton.mp z]; exact hold
          · rintro σ' H7 ⟨M', ex, y5', rfl, ⟨s7, D7, L7, hM'⟩, ed7, Ld7, eM, htk⟩
            rw [take_all (by omega)] at htk
            refine ⟨.int i, rfl, _, _, rfl, rfl, M', y5', rfl, ⟨s7, D7, L7, hM'⟩, fun j hj d hd e he => ?_⟩
            have hpre : ∀ j' < M.length, (Mow.keys M')[j']? = (Mow.keys M)[j']? := fun j' hj' => by
              rw [eM, Mow.keys, List.map_append, List.getElem?_append_left (by rw [← Mow.keys]; omega)]
            have hsub : ∀ x ∈ Mow.keys M, x ∈ Mow.keys M' := fun x hx => by
              rw [eM, Mow.keys, List.map_append]; exact List.mem_append_left _ hx
            rw [hpre j (by omega)] at hd
            by_cases hji : j = i
            · subst hji
              rw [hd0] at hd
              cases hd
              exact htk e ((hN e).mpr he)
            · exact hsub e (hcl j (by omega) d hd e he)
      · have hb0 : (b, (0 : Int)) ∈ Mow.keys M := by simpa [ngB] using hq
        exact ⟨.ref dm, rfl, q _ dm M s05 hdm0 (D4.same s5) hM (.inl hb0)⟩
    · have hi : M.length ≤ i := by
        have h1 : ¬ (i : Int) < (acc.length : Int) := of_decide_eq_false hlt
        omega
      refine ⟨.ref dm, rfl, q _ dm M s4 hdm0 D4 hM (.inr fun d hd e he => ?_)⟩
      obtain ⟨j, hj⟩ := List.mem_iff_getElem?.mp hd
      exact hcl j (by have := Mow.get_lt hj; omega) d hj e he
end
end MF

set_option autoImplicit false
set_option Elab.async false
set_option linter.all false
set_option maxRecDepth 100000
set_option maxHeartbeats 400000
/-! Ways.steps_of, Ways.all_ways. -/
namespace Mow
section
variable {F : List Cell} {a b : Cell} {S T : List Step}
theorem Flow.perm (h : Flow F a b S) (hp : T.Perm S) : Flow F a b T :=
  ⟨hp.nodup_iff.mpr h.nd, fun e he => h.ok e (hp.mem_iff.mp he), fun v h1 h2 => by
    have := h.bal v h1 h2
    unfold inn out at *
    rw [hp.countP_eq, hp.countP_eq]; exact this, fun v h1 h2 => by
    have := h.cap v h1 h2
    unfold out at *
    rw [hp.countP_eq]; exact this⟩
theorem Nxt.perm (hp : T.Perm S) {d e : Door} (h : Nxt F a b S d e) : Nxt F a b T d e := by
  have hb : ∀ u, Beh a S u ↔ Beh a T u := fun u => ⟨fun ⟨x, n, y⟩ => ⟨x, n, hp.mem_iff.mpr y⟩, fun ⟨x, n, y⟩ => ⟨x, n, hp.mem_iff.mp y⟩⟩
  unfold Nxt at *
  rcases h with h | h | h | h
  · exact .inl h
  · exact .inr (.inl ⟨h.1, h.2.1, (hb _).mp h.2.2⟩)
  · exact .inr (.inr (.inl ⟨h.1, h.2.1, fun z => h.2.2 ((hb _).mpr z)⟩))
  · exact .inr (.inr (.inr ⟨h.1, h.2.1, (hb _).mp h.2.2.1, h.2.2.2.1, hp.mem_iff.mpr h.2.2.2.2.1, h.2.2.2.2.2⟩))
theorem Met.congr {N N' : Door → Door → Prop} {s : Door} (h : ∀ p d, N p d → N' p d) {M : List (Door × Option Door)} (m : Met N s M) : Met N' s M := by
  induction m with
  | one => exact .one
  | more _ hp hN hd ih => exact .more ih hp (h _ _ hN) hd
theorem Srch.perm (hp : T.Perm S) {M : List (Door × Option Door)} (m : Srch F a b S M) : Srch F a b T M := Met.congr (fun _ _ h => ⟨h.1, h.2.perm hp⟩) m
/-- the first steps, counted -/
theorem out_len {fs : List Cell} (hS : S.Nodup) (hn : fs.Nodup) (hf : ∀ f, f ∈ fs ↔ (a, f) ∈ S) : fs.length = out S a := by
  have hp : (fs.map fun f => (a, f)).Perm (S.filter fun e => decide (e.1 = a)) := by
    refine (List.perm_ext_iff_of_nodup ?_ (hS.filter _)).mpr fun e => ?_
    · rw [List.nodup_iff_pairwise_ne] at *
      exact List.pairwise_map.mpr (hn.imp fun h z => h (Prod.mk.inj z).2)
    · rw [List.mem_map, List.mem_filter, decide_eq_true_eq]
      constructor
      · rintro ⟨f, h, rfl⟩
        exact ⟨(hf f).mp h, rfl⟩
      · rintro ⟨h1, h2⟩
        obtain ⟨x, y⟩ := e
        simp only at h2
        subst h2
        exact ⟨y, (hf y).mpr h1, rfl⟩
  have := hp.length_eq
  rw [List.length_map] at this
  unfold out
  rw [this, List.countP_eq_length_filter]
end
end Mow
namespace MF
open PySem PySem.Spec PyProof.Rows L2
theorem Rep.perm {a b : Cell} {S T : List Mow.Step} {pk ph : List (Cell × Cell)} {fs : List Cell} (R : Rep a b S pk ph fs) (hp : T.Perm S) : Rep a b T pk ph fs :=
  ⟨fun e => by rw [R.hk, hp.mem_iff], fun e => by rw [R.hh, hp.mem_iff], fun f => by rw [R.hf, hp.mem_iff], R.fn⟩
theorem nodup_of_fst {α β : Type} {l : List (α × β)} (h : (l.map (·.1)).Nodup) : l.Nodup := by
  rw [List.nodup_iff_pairwise_ne] at *
  exact (List.pairwise_map.mp h).imp fun h z => h (by rw [z])
/-- the steps as steps_of puts them -/
theorem Rep.steps {a b : Cell} {S : List Mow.Step} {pk ph : List (Cell × Cell)} {fs : List Cell} (R : Rep a b S pk ph fs) (hS : S.Nodup) (hk : (pk.map (·.1)).Nodup) : ((fs.map fun f => ((a, f) : Mow.Step)) ++ pk).Perm S := by
  refine (List.perm_ext_iff_of_nodup ?_ hS).mpr fun e => ?_
  · rw [List.nodup_append]
    refine ⟨?_, nodup_of_fst hk, fun x hx y hy e => ?_⟩
    · have := R.fn
      rw [List.nodup_iff_pairwise_ne] at *
      exact List.pairwise_map.mpr (this.imp fun h z => h (Prod.mk.inj z).2)
    · subst e
      obtain ⟨f, _, rfl⟩ := List.mem_map.mp hx
      exact ((R.hk _).mp hy).2 rfl
  · rw [List.mem_append, List.mem_map, R.hk]
    constructor
    · rintro (⟨f, h, rfl⟩ | h)
      · exact (R.hf f).mp h
      · exact h.1
    · intro h
      by_cases z : e.1 = a
      · refine .inl ⟨e.2, (R.hf _).mpr ?_, ?_⟩
        · rw [← z]; exact h
        · rw [← z]
      · exact .inr ⟨h, z⟩
section
variable {P : Program} {w : World} {K : PySem.W.Frag} {mg : Str → Option Value} {base : Heap} {C : Addr}
theorem WaysAt.perm {H : Hp} {p : Addr} {Fl : List Cell} {a b : Cell} {S T : List Mow.Step} {gs : List Cell} (x : WaysAt P w C H p Fl a b S gs) (hp : T.Perm S) : WaysAt P w C H p Fl a b T gs := by
  obtain ⟨dx, fs, va, vb, n, k, h, f, pk, ph, e1, e2, e3, e4, e5, e6, e7, e8, e9⟩ := x
  exact ⟨dx, fs, va, vb, n, k, h, f, pk, ph, e1, e2, e3, e4, e5, e6, e7, e8, e9.perm hp⟩
abbrev nSteps : List Str := ["self", "steps", "cell", "first"]
theorem scSteps : FnScope nSteps ["self"] (defScope sSteps) := ⟨rfl, rfl, rfl, by decide +kernel, rfl, by decide +kernel, by decide +kernel⟩
def spSteps (P : Program) (w : World) (C : Addr) : Sp := fun vs H Q _ => ∃ (p : Addr) (Fl : List Cell) (a b : Cell) (S : List Mow.Step) (gs : List Cell), vs = [.ref p] ∧ WaysAt P w C H p Fl a b S gs ∧ Mow.Flow Fl a b S ∧ Fl.length ≤ 1000 ∧
  ∀ H' d (T : List Mow.Step), Same H H' → H d = none → Dct P w stepR trueV H' d (T.map fun e => (e, ())) → T.Perm S → T.length ≤ 2000 → Q (.ref d) H'
theorem firsts_le {Fl : List Cell} {a b : Cell} {S : List Mow.Step} {gs : List Cell} (hF : Mow.Flow Fl a b S) (hf : ∀ f, f ∈ gs ↔ (a, f) ∈ S) (hn : gs.Nodup) : gs.length ≤ 4 := by
  have := Mow.nodup_le (m := Mow.nb a) hn fun f h => (hF.ok _ ((hf f).mp h)).2.2.1
  rw [Mow.nb_length] at this
  exact this
theorem ok_steps (T : Tx mg) (TW : TxW K C) (F : MthD K C "steps_of" "Ways.steps_of" sSteps ["self"]) : MDn P w K mg base 1 C "steps_of" ["self"] (spSteps P w C) := .of F fun f fd F => by
  refine F.ok scSteps (fun vs H Q E h => ?_) (fun cdv A outer s H vs Q E hr h => ?_)
  · obtain ⟨p, Fl, a, b, S, gs, rfl, _⟩ := h; rfl
  · obtain ⟨p, Fl, a, b, S, gs, rfl, WA, hF, fz, q⟩ := h
    have hu := room20 hr
    refine ⟨_, pss_cons (ps_set (i := 1) scSteps.nd rfl (.inl rfl) (pe_callTy (call_ndict rfl hu) (by rfl) T.dict (by decide +kernel) (pa_cons
        (pe_lc (own := [("first", 3)]) (g := gName 3) rfl scSteps.nd (pi_list (pe_fld (pv 0) rfl)) (blkOk_by (N := nSteps) (sc := defScope sSteps) (by decide +kernel))
          (fun _ _ _ _ _ => pg_name (i := 3) scSteps.nd rfl (Or.inl rfl)) (fun _ _ _ _ _ => pts_nil) (fun _ _ _ _ _ => pe_tup (pa_cons (pe_tup (pa_cons (pe_fldC K rfl (pv 0) rfl) (pa_cons (pv 3) pa_nil))) (pa_cons pe_bl pa_nil)))) pa_nil)))
      (pss_cons (ps_for PassesOwn.never rfl (pi_nkeys (pe_fld (pv 0) rfl)) (pg_name (i := 2) scSteps.nd rfl (.inl rfl))
        (pss_one (ps_asg pe_bl (pg_sub (pv 1) (pe_tup (pa_cons (pv 2) (pa_cons (pe_nget hu (pe_fld (pv 0) rfl) (pv 2) (fun _ _ => rfl)) pa_nil))) (set_nd hu)))))
      (pss_one (ps_ret (pv 1)))), ?_⟩
    obtain ⟨dx, fs, va, vb, n, k, h, fi, pk, ph, hp, F6, na, nb, Dn, Dk, Dh, Lf, R⟩ := WA
    obtain ⟨accf, ef, nf⟩ := id Lf.nks
    have hgl : accf.length = gs.length := nf.lenm
    have hg4 := firsts_le hF R.hf R.fn
    have hpl : pk.length ≤ Fl.length := by
      have := Mow.nodup_le (m := Fl) Dk.nodup fun c hc => by
        obtain ⟨⟨x, m⟩, hm, e⟩ := List.mem_map.mp hc
        simp only at e; subst e
        exact (hF.ok _ ((R.hk _).mp hm).1).1
      rwa [List.length_map] at this
    refine ⟨.ref p, rfl, p, C, dx, fs, _, rfl, hp, TW.cl, TW.nF, F6.f, fi, rfl, ⟨_, SqL.of ef⟩, fun D hD => ?_⟩
    refine lc_map (vr := pairV stepR trueV) (walk_list (xs := accf)) gs (fun g => (((a, g) : Mow.Step), ())) hgl.symm (by omega) hD (fun H s => SqL.of (s _ _ ef)) ?_ ?_
    · rintro i x g H2 H2' kk e hg s2 ⟨rfl, hx⟩ hk
      have nx := (nf.at_ hx hg).same s2
      refine ⟨rfl, t_yes ⟨.ref p, rfl, p, C, dx, fs, _, rfl, s2 _ _ hp, TW.cl, TW.nA, F6.a, x, rfl, by show 2 ≤ sizeLine; decide, fun t1 n1 => ?_⟩⟩
      have s3 := same_new (o := .tup [va, x]) n1
      have nst : NK (upd H2' t1 (.tup [va, x])) (sk (a, g)) (.ref t1) := NK.mk_two upd_same ((na.same s2).same s3) (nx.same s3)
      generalize upd H2' t1 (.tup [va, x]) = H3 at s3 nst
      refine ⟨by show 2 ≤ sizeLine; decide, fun t2 n2 => hk _ _ (s3.trans (same_new n2)) ⟨t2, .ref t1, .bl true, rfl, upd_same, nst.same (same_new n2), rfl⟩⟩
    rintro H2 s2 ⟨acc, a1, a2⟩
    refine ⟨Mow.Step, Unit, inferInstance, stepR, trueV, D, acc, _, rfl, a1, a2, fun ds ob nds Dd => ?_⟩
    have hfn : ((gs.map fun g => (((a, g) : Mow.Step), ())).map (·.1)).Nodup := by
      rw [List.map_map]
      have := R.fn
      rw [List.nodup_iff_pairwise_ne] at *
      exact List.pairwise_map.mpr (this.imp fun h z => h (Prod.mk.inj z).2)
    rw [putAll_nodup _ _ (by rw [List.nil_append]; exact hfn), List.nil_append] at Dd
    have hds0 : H ds = none := s2.free nds
    have s3 : Same H (upd H2 ds (dno ds ob)) := s2.trans (same_new nds)
    generalize upd H2 ds (dno ds ob) = H3 at s3 Dd
    obtain ⟨ok, ck0⟩ := Dk.obj
    have hperm := R.steps hF.nd Dk.nodup
    have hNd := hperm.nodup_iff.mpr hF.nd
    have hkd : k ≠ ds := fun z => by rw [z] at ck0; rw [ck0] at hds0; cases hds0
    refine ⟨.ref p, rfl, p, C, dx, fs, _, rfl, s3 _ _ hp, TW.cl, TW.nK, F6.k, Cell, Cell, inferInstance, cellR, nkV ck, k, pk, rfl, Dk.same s3, fun o ho => ?_⟩
    refine for_it walk_n (fun i σ H4 => ∃ y2, σ = [some (.ref p), some (.ref ds), y2, none] ∧ Same H H4 ∧ Dct P w stepR trueV H4 ds (((gs.map fun g => ((a, g) : Mow.Step)) ++ pk.take i).map fun e => (e, ())))
      ⟨none, rfl, s3, by have Dd' : Dct P w stepR trueV H3 ds _ := Dd; simpa [Function.comp_def] using Dd'⟩ (fun i σ H4 _ ⟨_, _, s4, _⟩ => ⟨by rw [s3 _ _ ck0] at ho; rw [s4 _ _ ck0]; exact ho, Dk.same s4⟩) ?_ ?_
    · rintro i u σ H4 H4' hi ⟨y2, rfl, s4, D4⟩ ⟨rfl, c, m, hc, nc⟩
      have hlk := look_of_mem Dk.nodup (Mow.get_mem hc)
      have hnew : ((c, m) : Mow.Step) ∉ (((gs.map fun g => ((a, g) : Mow.Step)) ++ pk.take i).map fun e => (e, ())).map (·.1) := by
        rw [List.map_map]
        intro hm
        have hm2 : ((c, m) : Mow.Step) ∈ (gs.map fun g => ((a, g) : Mow.Step)) ++ pk.take i := by simpa [Function.comp_def] using hm
        have e1 : (gs.map fun g => ((a, g) : Mow.Step)) ++ pk = ((gs.map fun g => ((a, g) : Mow.Step)) ++ pk.take i) ++ (c, m) :: pk.drop (i + 1) := by
          have := List.take_append_drop i pk
          rw [List.drop_eq_getElem?_toList_append, hc] at this
          rw [List.append_assoc]
          exact congrArg _ this.symm
        rw [e1] at hNd
        exact (List.nodup_append.mp hNd).2.2 _ hm2 _ List.mem_cons_self rfl
      refine ⟨.ref ds, rfl, u, rfl, .ref p, rfl, p, C, dx, fs, _, rfl, s4 _ _ hp, TW.cl, TW.nK, F6.k, u, rfl, Cell, Cell, inferInstance, cellR, nkV ck, k, pk, c, m, rfl, Dk.same s4, nc, hlk, fun v nv => ?_⟩
      refine ⟨by show 2 ≤ sizeLine; decide, fun t nt => ?_⟩
      have s5 := same_new (o := .tup [u, v]) nt
      have nst : NK (upd H4' t (.tup [u, v])) (sk (c, m)) (.ref t) := NK.mk_two upd_same (NK.same s5 nc) (NK.same s5 nv)
      have D5 := D4.same s5
      generalize upd H4' t (.tup [u, v]) = H5 at s5 nst D5
      have hlt := Mow.get_lt hc
      refine ⟨Mow.Step, Unit, inferInstance, stepR, trueV, ds, _, (c, m), (), rfl, D5, nst, rfl, small_line ?_, fun ob6 D6 => ?_⟩
      · rw [List.length_map, List.length_append, List.length_map, List.length_take]; omega
      · rw [putL_new hnew] at D6
        refine ⟨some u, rfl, same_mut hds0 (s4.trans s5), ?_⟩
        rw [take_snoc hc]
        have D6' : Dct P w stepR trueV (upd H5 ds (dno ds ob6)) ds _ := D6
        simpa using D6'
    · rintro σ H4 ⟨y2, rfl, s4, D4⟩
      rw [take_all (Nat.le_refl _)] at D4
      exact ⟨.ref ds, rfl, q _ ds _ s4 hds0 D4 hperm (by rw [List.length_append, List.length_map]; omega)⟩

abbrev nAllWays : List Str := ["self", "found", "first", "way"]
theorem scAllWays : FnScope nAllWays ["self"] (defScope sAllWays) := ⟨rfl, rfl, rfl, by decide +kernel, rfl, by decide +kernel, by decide +kernel⟩
def spAllWays (P : Program) (w : World) (C : Addr) : Sp := fun vs H Q _ => ∃ (p : Addr) (Fl : List Cell) (a b : Cell) (S : List Mow.Step) (gs : List Cell), vs = [.ref p] ∧ WaysAt P w C H p Fl a b S gs ∧ Mow.Flow Fl a b S ∧ Fl.length ≤ 1000 ∧ a ∈ Fl ∧ a ≠ b ∧
  ∀ H' v ws W, Same H H' → NK H' (wsk W) v → (∀ f, f ∈ gs ↔ (a, f) ∈ S) → gs.Nodup → ws.length = gs.length → (∀ (j : Nat) (f : Cell) (y : List Cell), gs[j]? = some f → ws[j]? = some y → Mow.WayP a b S f y) → W.Perm ws → SrtO.Srtd Mow.wlt W → Q v H'
theorem last_eq {α : Type} {l : List α} {x : α} (h : l[l.length - 1]? = some x) : l.getLast? = some x := by rw [List.getLast?_eq_getElem?]; exact h
theorem ok_allWays (T : Tx mg) (TW : TxW K C) (F : MthD K C "all_ways" "Ways.all_ways" sAllWays ["self"]) : MDn P w K mg base 1 C "all_ways" ["self"] (spAllWays P w C) := .of F fun f fd F => by
  refine F.ok scAllWays (fun vs H Q E h => ?_) (fun cdv A outer s H vs Q E hr h => ?_)
  · obtain ⟨p, Fl, a, b, S, gs, rfl, _⟩ := h; rfl
  · obtain ⟨p, Fl, a, b, S, gs, rfl, WA, hF, fz, aF, ab, q⟩ := h
    have hu := room20 hr
    have e64 := room64 hr
    refine ⟨_, pss_cons (ps_set (i := 1) scAllWays.nd rfl (.inl rfl) (pe_lst pa_nil))
      (pss_cons (ps_for PassesOwn.never rfl (pi_list (pe_fld (pv 0) rfl)) (pg_name (i := 2) scAllWays.nd rfl (.inl rfl))
        (pss_cons (ps_set (i := 3) scAllWays.nd rfl (.inl rfl) (pe_tup (pa_cons (pe_fld (pv 0) rfl) (pa_cons (pv 2) pa_nil))))
        (pss_cons (ps_while PassesOwn.never (pt_cmpR (op_nneT e64) (pe_ix ix_tup (pv 3) (pe_un un_neg pe_int) (fun _ _ => rfl)) (pe_fld (pv 0) rfl) rfl)
          (pss_one (ps_set (i := 3) scAllWays.nd rfl (.inl rfl) (pe_op op_catT (pv 3) (pe_tup (pa_cons (pe_nget hu (pe_fld (pv 0) rfl) (pe_ix ix_tup (pv 3) (pe_un un_neg pe_int) (fun _ _ => rfl)) (fun _ _ => rfl)) pa_nil))))))
        (pss_one (ps_expr (pe_bm PySem.F.plainAttrs_list PySem.F.slot_list_append PySem.F.type_list_append mt_append (pv 1) (pa_cons (pv 3) pa_nil)))))))
      (pss_one (ps_ret (pe_callTy call_tupL (by rfl) T.tuple (by decide +kernel) (pa_cons (pe_callB (call_nsort wayLk (room60 hr)) (by rfl) T.sorted (by decide +kernel) (pa_cons (pv 1) pa_nil)) pa_nil))))), ?_⟩
    obtain ⟨dx, fs, va, vb, n, k, h, fi, pk, ph, hp, F6, na, nb, Dn, Dk, Dh, Lf, R⟩ := WA
    obtain ⟨accf, ef, nf⟩ := id Lf.nks
    have hgl : accf.length = gs.length := nf.lenm
    have hg4 := firsts_le hF R.hf R.fn
    refine ⟨by show 0 ≤ sizeLine; exact Nat.zero_le _, fun lf hlf => ?_⟩
    refine ⟨.ref p, rfl, p, C, dx, fs, _, rfl, same_new hlf _ _ hp, TW.cl, TW.nF, F6.f, fi, rfl, ⟨_, SqL.of (same_new hlf _ _ ef)⟩, ?_⟩
    refine for_it (walk_list (xs := accf)) (fun i σ H2 => ∃ (ws : List (List Cell)) (y2 y3 : Option V), σ = [some (.ref p), some (.ref lf), y2, y3] ∧ Same H H2 ∧ LstV (nkV csk) H2 lf ws ∧ ws.length = i ∧
        (∀ (j : Nat) (f : Cell) (y : List Cell), gs[j]? = some f → ws[j]? = some y → Mow.WayP a b S f y))
      ⟨[], none, none, rfl, same_new hlf, LstV.start H lf, rfl, fun j f y _ e => by simp at e⟩ (fun i σ H2 _ ⟨_, _, _, _, s2, _⟩ => SqL.of (s2 _ _ ef)) ?_ ?_
    · rintro i u σ H2 H2' hi ⟨ws, y2, y3, rfl, s2, L, hwl, hws⟩ ⟨rfl, hu2⟩
      obtain ⟨g, hg, ng⟩ := nf.getm hu2
      have gS : (a, g) ∈ S := (R.hf g).mp (Mow.get_mem hg)
      refine ⟨.ref p, rfl, p, C, dx, fs, _, rfl, s2 _ _ hp, TW.cl, TW.nA, F6.a, u, rfl, by show 2 ≤ sizeLine; decide, fun t0 nt0 => ?_⟩
      have s3 := same_new (o := .tup [va, u]) nt0
      have nw0 : NK (upd H2' t0 (.tup [va, u])) (csk [a, g]) (.ref t0) := NK.mk_two upd_same ((na.same s2).same s3) ((ng.same s2).same s3)
      generalize upd H2' t0 (.tup [va, u]) = H3 at s3 nw0
      have s03 : Same H H3 := s2.trans s3
      -- while
      refine ⟨fun m σ H4 => ∃ (wy : List Cell) (vw : V), σ = [some (.ref p), some (.ref lf), some u, some vw] ∧ Same H3 H4 ∧ NK H4 (csk wy) vw ∧ Mow.Tr S wy ∧ wy[0]? = some a ∧ wy[1]? = some g ∧ m = Fl.length + 1 - wy.length,
        ⟨_, [a, g], .ref t0, rfl, Same.refl _, nw0, fun j x y hx hy => ?_, rfl, rfl, rfl⟩, ?_⟩
      · cases j with
        | zero => simp at hx hy; subst hx hy; exact gS
        | succ j => simp at hy
      rintro m σ H4 ⟨wy, vw, rfl, s4, nw, htr, h0, h1, rfl⟩
      have s04 : Same H H4 := s03.trans s4
      obtain ⟨t, xs, rfl, et, nx⟩ := id nw.seq
      have hxl : xs.length = wy.length := nx.lenm
      have hwlen := htr.length hF aF h0
      have h2l := Mow.get_lt h1
      obtain ⟨lc, hlc⟩ := Mow.get_of_lt (l := wy) (i := wy.length - 1) (by omega)
      obtain ⟨vl, hvl, nvl⟩ := nx.getm' hlc
      rw [← hxl] at hvl
      refine ⟨.ref t, rfl, 1, rfl, t, xs, -1, vl, rfl, rfl, SqT.of et, atI_last hvl, .ref p, rfl, p, C, dx, fs, _, rfl, s04 _ _ hp, TW.cl, TW.nB, F6.b, rd_ceq true nvl (nb.same s04) ⟨_, rfl, ?_⟩⟩
      refine t_ite (fun hq => ?_) (fun hq => ?_)
      · have hlb : lc ≠ b := by simpa [ngB] using hq
        have hla : lc ≠ a := fun z => by
          subst z
          have := htr.at0 hF hlc
          omega
        -- the one behind
        obtain ⟨pc, hpc⟩ := Mow.get_of_lt (l := wy) (i := wy.length - 2) (by omega)
        have hstep : (pc, lc) ∈ S := htr _ _ _ hpc (by rw [show wy.length - 2 + 1 = wy.length - 1 by omega]; exact hlc)
        obtain ⟨nx2, hnx⟩ := hF.next hlb hstep
        have hpk : (lc, nx2) ∈ pk := (R.hk _).mpr ⟨hnx, hla⟩
        have hlk := look_of_mem Dk.nodup hpk
        refine ⟨fun σ' H' => ∃ (wy' : List Cell) (vw : V), σ' = [some (.ref p), some (.ref lf), some u, some vw] ∧ Same H3 H' ∧ NK H' (csk wy') vw ∧ Mow.Tr S wy' ∧ wy'[0]? = some a ∧ wy'[1]? = some g ∧ wy'.length = wy.length + 1, ?_, ?_⟩
        · rintro σ' H' ⟨wy', vw', e1, e2, e3, e4, e5, e6, e7⟩
          refine ⟨Fl.length + 1 - wy'.length, ?_, wy', vw', e1, e2, e3, e4, e5, e6, rfl⟩
          omega
        · refine ⟨.ref t, rfl, .ref p, rfl, p, C, dx, fs, _, rfl, s04 _ _ hp, TW.cl, TW.nK, F6.k, .ref t, rfl, 1, rfl, t, xs, -1, vl, rfl, rfl, SqT.of et, atI_last hvl, Cell, Cell, inferInstance, cellR, nkV ck, k, pk, lc, nx2, rfl, Dk.same s04, nvl, hlk, fun v nv => ?_⟩
          refine ⟨by show 1 ≤ sizeLine; decide, fun t1 nt1 => ?_⟩
          have s5 := same_new (o := .tup [v]) nt1
          have hw2 := htr.snoc hlc hnx
          refine ⟨t, t1, xs, [v], rfl, rfl, SqT.of (s5 _ _ et), SqT.of upd_same, fun z => by rw [z] at hxl; simp at hxl; omega, by rw [hxl]; show wy.length + 1 ≤ sizeLine; exact Nat.le_of_lt (small_line (by omega)), fun z => (by cases z), fun _ p2 np2 => ?_⟩
          have s6 := s5.trans (same_new (o := .tup (xs ++ [v])) np2)
          refine ⟨wy ++ [nx2], .ref p2, rfl, s4.trans s6, .tup upd_same ?_, hw2, ?_, ?_, by simp⟩
          · have := NKs.sameT s6 (NKs.snocm nx (c := nx2) nv)
            exact this
          · rw [List.getElem?_append_left (by omega)]; exact h0
          · rw [List.getElem?_append_left (by omega)]; exact h1
      · have hlb : lc = b := by simpa [ngB] using hq
        subst hlb
        -- found.append(way)
        have L4 := (L.same s3).same s4
        obtain ⟨acc, b1, b2, b3⟩ := L4.push (Same.refl _) (y := .ref t) (b := wy) nw (by omega)
        refine ⟨.ref lf, rfl, .inl ⟨rfl, _, SqL.of b1⟩, .ref t, rfl, lf, acc, .ref t, rfl, rfl, b1, b2, ?_⟩
        refine ⟨ws ++ [wy], _, _, rfl, same_mut hlf s04, b3, by rw [List.length_append, hwl]; rfl, fun j f' y hf' hy => ?_⟩
        by_cases hj : j < ws.length
        · rw [List.getElem?_append_left hj] at hy
          exact hws j f' y hf' hy
        · have hj2 : j = ws.length := by
            have := Mow.get_lt hy
            rw [List.length_append, List.length_singleton] at this
            omega
          subst hj2
          rw [List.getElem?_append_right (Nat.le_refl _), Nat.sub_self] at hy
          rw [hwl, hg] at hf'
          cases hf'
          simp at hy
          subst hy
          exact ⟨h0, h1, htr, last_eq hlc⟩
    · rintro σ H2 ⟨ws, y2, y3, rfl, s2, L, hwl, hws⟩
      obtain ⟨acc, a1, a2⟩ := L.nks
      refine ⟨.ref lf, rfl, lf, acc, ws, rfl, .inl a1, a2, fun x hx => ?_, fun ys outV p3 hperm hs hn no => ?_⟩
      · obtain ⟨j, hj⟩ := List.mem_iff_getElem?.mp hx
        obtain ⟨g, hg⟩ := Mow.get_of_lt (l := gs) (i := j) (by have := Mow.get_lt hj; omega)
        have := (hws j g x hg hj).w0
        show x ≠ []
        intro z
        rw [z] at this; simp at this
      · refine ⟨p3, outV, rfl, upd_same, fun l hl => ?_⟩
        have s3 := same_new (o := .lst outV) hn
        exact q _ _ ws ys (s2.trans (s3.trans (same_new hl))) (nk_tuple hl (NKs.sameT s3 no)) R.hf R.fn (by omega) hws hperm hs
end
end MF

set_option autoImplicit false
set_option Elab.async false
set_option linter.all false
set_option maxRecDepth 100000
set_option maxHeartbeats 400000
/-! Ways.take_in. -/
namespace MF
open PySem PySem.Spec PyProof.Rows L2
theorem filterMap_nodup {α β : Type} {g : α → Option β} : ∀ {l : List α}, l.Nodup → (∀ x ∈ l, ∀ y ∈ l, ∀ b, g x = some b → g y = some b → x = y) → (l.filterMap g).Nodup
  | [], _, _ => List.nodup_nil
  | x :: l, hn, hi => by
    have ih := filterMap_nodup (List.nodup_cons.mp hn).2 fun x hx y hy => hi x (List.mem_cons_of_mem _ hx) y (List.mem_cons_of_mem _ hy)
    cases e : g x with
    | none => rw [List.filterMap_cons_none e]; exact ih
    | some b =>
      rw [List.filterMap_cons_some e]
      refine List.nodup_cons.mpr ⟨fun hm => ?_, ih⟩
      obtain ⟨y, hy, ey⟩ := List.mem_filterMap.mp hm
      have := hi x List.mem_cons_self y (List.mem_cons_of_mem _ hy) b e ey
      subst this
      exact (List.nodup_cons.mp hn).1 hy
def pkF (a : Cell) (e : Mow.Step) : Option Cell := if decide (e.1 = a) = true then some e.2 else none
def pkK (a : Cell) (e : Mow.Step) : Option (Cell × Cell) := if decide (e.1 = a) = true then none else some (e.1, e.2)
def pkH (b : Cell) (e : Mow.Step) : Option (Cell × Cell) := if decide (e.2 = b) = true then none else some (e.2, e.1)
theorem pkF_iff {a : Cell} {e : Mow.Step} {x : Cell} : pkF a e = some x ↔ e = (a, x) := by
  obtain ⟨u, v⟩ := e
  unfold pkF
  by_cases h : u = a
  · subst h; simp
  · simp [h]
theorem pkK_iff {a : Cell} {e : Mow.Step} {x : Cell × Cell} : pkK a e = some x ↔ e = x ∧ e.1 ≠ a := by
  obtain ⟨u, v⟩ := e
  unfold pkK
  by_cases h : u = a
  · subst h; simp
  · simp [h]
theorem pkH_iff {b : Cell} {e : Mow.Step} {x : Cell × Cell} : pkH b e = some x ↔ e = (x.2, x.1) ∧ e.2 ≠ b := by
  obtain ⟨u, v⟩ := e
  obtain ⟨y, z⟩ := x
  unfold pkH
  by_cases h : v = b
  · subst h; simp
  · simp [h]; exact ⟨fun ⟨p, q⟩ => ⟨q, p⟩, fun ⟨p, q⟩ => ⟨q, p⟩⟩
section
variable {Fl : List Cell} {a b : Cell} {T : List Mow.Step}
theorem repF (hN : T.Nodup) : (T.filterMap (pkF a)).Nodup ∧ ∀ f, f ∈ T.filterMap (pkF a) ↔ (a, f) ∈ T := by
  refine ⟨filterMap_nodup hN fun x _ y _ c h1 h2 => (pkF_iff.mp h1).trans (pkF_iff.mp h2).symm, fun f => ?_⟩
  rw [List.mem_filterMap]
  exact ⟨fun ⟨e, he, h⟩ => by rw [← pkF_iff.mp h]; exact he, fun h => ⟨_, h, pkF_iff.mpr rfl⟩⟩
theorem repK (hF : Mow.Flow Fl a b T) : ((T.filterMap (pkK a)).map (·.1)).Nodup ∧ ∀ e, e ∈ T.filterMap (pkK a) ↔ e ∈ T ∧ e.1 ≠ a := by
  constructor
  · rw [List.map_filterMap]
    refine filterMap_nodup hF.nd fun x hx y hy c h1 h2 => ?_
    obtain ⟨x', e1, rfl⟩ := Option.map_eq_some_iff.mp h1
    obtain ⟨y', e2, e3⟩ := Option.map_eq_some_iff.mp h2
    obtain ⟨rfl, ne⟩ := pkK_iff.mp e1
    obtain ⟨rfl, _⟩ := pkK_iff.mp e2
    refine Prod.ext e3.symm (hF.outU (u := x.1) ne hx ?_)
    rw [← e3]; exact hy
  · intro e
    rw [List.mem_filterMap]
    exact ⟨fun ⟨x, hx, h⟩ => by obtain ⟨rfl, ne⟩ := pkK_iff.mp h; exact ⟨hx, ne⟩, fun ⟨h, ne⟩ => ⟨e, h, pkK_iff.mpr ⟨rfl, ne⟩⟩⟩
theorem repH (hF : Mow.Flow Fl a b T) : ((T.filterMap (pkH b)).map (·.1)).Nodup ∧ ∀ e : Cell × Cell, e ∈ T.filterMap (pkH b) ↔ (e.2, e.1) ∈ T ∧ e.1 ≠ b := by
  constructor
  · rw [List.map_filterMap]
    refine filterMap_nodup hF.nd fun x hx y hy c h1 h2 => ?_
    obtain ⟨x', e1, rfl⟩ := Option.map_eq_some_iff.mp h1
    obtain ⟨y', e2, e3⟩ := Option.map_eq_some_iff.mp h2
    obtain ⟨rfl, ne⟩ := pkH_iff.mp e1
    obtain ⟨rfl, _⟩ := pkH_iff.mp e2
    refine Prod.ext (hF.inU (v := x'.1) ne hx ?_) e3.symm
    rw [← e3]; exact hy
  · rintro ⟨u, v⟩
    rw [List.mem_filterMap]
    exact ⟨fun ⟨x, hx, h⟩ => by obtain ⟨rfl, ne⟩ := pkH_iff.mp h; exact ⟨hx, ne⟩, fun ⟨h, ne⟩ => ⟨(v, u), h, pkH_iff.mpr ⟨rfl, ne⟩⟩⟩
end
theorem keysT (T : List Mow.Step) : (T.map fun e => (e, ())).map (·.1) = T := map_fst_map _ T
theorem dropL_map (T : List Mow.Step) (k : Mow.Step) : dropL (T.map fun e => (e, ())) k = (T.filter fun x => decide (x ≠ k)).map fun e => (e, ()) := by
  unfold dropL
  rw [List.filter_map]
  rfl
section
variable {P : Program} {w : World} {K : PySem.W.Frag} {mg : Str → Option Value} {base : Heap} {C : Addr}
abbrev nTake : List Str := ["self", "met", "steps", "door", "former", "one", "other"]
theorem scTake : FnScope nTake ["self", "met"] (defScope sTake) := ⟨rfl, rfl, rfl, by decide +kernel, rfl, by decide +kernel, by decide +kernel⟩
def spTake (P : Program) (w : World) (C : Addr) : Sp := fun vs H Q _ => ∃ (p dm : Addr) (Fl : List Cell) (a b : Cell) (S : List Mow.Step) (gs : List Cell) (M : List (Mow.Door × Option Mow.Door)), vs = [.ref p, .ref dm] ∧ WaysAt P w C H p Fl a b S gs ∧ Mow.Flow Fl a b S ∧ Fl.length ≤ 1000 ∧
  a ∈ Fl ∧ a ≠ b ∧ b ∉ Mow.nb a ∧ Mow.Srch Fl a b S M ∧ (b, (0 : Int)) ∈ Mow.keys M ∧ Dct P w doorR parV H dm M ∧
  ∀ (H' : Hp) (S' : List Mow.Step) (gs' : List Cell), (∀ c o, H c = some o → c ≠ p → H' c = some o) → WaysAt P w C H' p Fl a b S' gs' → Mow.Flow Fl a b S' → gs'.length = gs.length + 1 → Q .non H'
theorem flow_len {Fl : List Cell} {a b : Cell} {T : List Mow.Step} (hF : Mow.Flow Fl a b T) (hz : Fl.length ≤ 1000) : T.length ≤ 2000 := by
  have h1 : T.length ≤ (T.filterMap (pkF a)).length + (T.filterMap (pkK a)).length := by
    clear hF hz
    induction T with
    | nil => exact Nat.zero_le _
    | cons e T ih =>
      by_cases h : e.1 = a
      · rw [List.filterMap_cons_some (show pkF a e = some e.2 by unfold pkF; rw [if_pos (decide_eq_true h)]), List.filterMap_cons_none (show pkK a e = none by unfold pkK; rw [if_pos (decide_eq_true h)]), List.length_cons, List.length_cons]
        omega
      · rw [List.filterMap_cons_none (show pkF a e = none by unfold pkF; rw [if_neg (by simpa using h)]), List.filterMap_cons_some (show pkK a e = some (e.1, e.2) by unfold pkK; rw [if_neg (by simpa using h)]), List.length_cons, List.length_cons]
        omega
  obtain ⟨f1, f2⟩ := repF (a := a) hF.nd
  obtain ⟨k1, k2⟩ := repK hF
  have h4 := firsts_le hF f2 f1
  have h5 := Mow.nodup_le (m := Fl) k1 fun c hc => by
    obtain ⟨e, he, rfl⟩ := List.mem_map.mp hc
    exact (hF.ok _ ((k2 e).mp he).1).1
  rw [List.length_map] at h5
  omega
theorem ok_take (T : Tx mg) (TW : TxW K C) (DS : MDn P w K mg base 1 C "steps_of" ["self"] (spSteps P w C)) (F : MthD K C "take_in" "Ways.take_in" sTake ["self", "met"]) : MDn P w K mg base 2 C "take_in" ["self", "met"] (spTake P w C) := .of F fun f fd F => by
  refine F.ok scTake (fun vs H Q E h => ?_) (fun cdv A outer s H vs Q E hr h => ?_)
  · obtain ⟨p, dm, Fl, a, b, S, gs, M, rfl, _⟩ := h; rfl
  · obtain ⟨p, dm, Fl, a, b, S, gs, M, rfl, WA, hF, fz, aF, ab, hnab, hM, hb, Dm, q⟩ := h
    have hu := room20 hr
    have e64 := room64 hr
    refine ⟨_, pss_cons (ps_set (i := 2) scTake.nd rfl (.inl rfl) (pe_mdn0 TW.cl DS hr (pv 0)))
      (pss_cons (ps_set (i := 3) scTake.nd rfl (.inl rfl) (pe_tup (pa_cons (pe_fld (pv 0) rfl) (pa_cons (pe_num (by rfl) T.cin) pa_nil))))
      (pss_cons (ps_while PassesOwn.never (pt_cmpR op_notN (pe_nget hu (pv 1) (pv 3) (fun _ _ => rfl)) pe_non (nomark _))
        (pss_cons (ps_set (i := 4) scTake.nd rfl (.inl rfl) (pe_nget hu (pv 1) (pv 3) (fun _ _ => rfl)))
        (pss_cons (ps_if (pt_cmpR (op_nneT e64) (pe_ix ix_tup (pv 4) pe_int (fun _ _ => rfl)) (pe_ix ix_tup (pv 3) pe_int (fun _ _ => rfl)) rfl)
          (pss_one (ps_if (pt_cmpR op_eq (pe_ix ix_tup (pv 4) pe_int (fun _ _ => rfl)) (pe_num (by rfl) T.cout) (nomark _))
            (pss_one (ps_asg pe_bl (pg_sub (pv 2) (pe_tup (pa_cons (pe_ix ix_tup (pv 4) pe_int (fun _ _ => rfl)) (pa_cons (pe_ix ix_tup (pv 3) pe_int (fun _ _ => rfl)) pa_nil))) (set_nd hu))))
            (pss_one (ps_expr (pe_npop hu (pv 2) (pa_cons (pe_tup (pa_cons (pe_ix ix_tup (pv 3) pe_int (fun _ _ => rfl)) (pa_cons (pe_ix ix_tup (pv 4) pe_int (fun _ _ => rfl)) pa_nil))) pa_nil)))))) pss_nil)
        (pss_one (ps_set (i := 3) scTake.nd rfl (.inl rfl) (pv 4))))))
      (pss_cons (ps_fld (pv 0) (pe_callB (call_nsort cellLk (room60 hr)) (by rfl) T.sorted (by decide +kernel) (pa_cons
        (pe_lc (own := [("one", 5), ("other", 6)]) (g := gTup K 2 _) rfl scTake.nd (pi_nkeys (pv 2)) (blkOk_by (N := nTake) (sc := defScope sTake) (by decide +kernel))
          (fun _ _ _ _ _ => pg_tupC K rfl rfl (pgs_cons (pg_name (i := 5) scTake.nd rfl (Or.inl rfl)) (pgs_cons (pg_name (i := 6) scTake.nd rfl (Or.inl rfl)) pgs_nil)))
          (fun _ _ _ _ _ => pts_one (pt_cmpR (op_neqT e64) (pv 5) (pe_fldC K rfl (pv 0) rfl) rfl)) (fun _ _ _ _ _ => pv 6)) pa_nil)) rfl)
      (pss_cons (ps_fld (pv 0) (pe_callTy (call_ndict rfl hu) (by rfl) T.dict (by decide +kernel) (pa_cons
        (pe_lc (own := [("one", 5), ("other", 6)]) (g := gTup K 2 _) rfl scTake.nd (pi_nkeys (pv 2)) (blkOk_by (N := nTake) (sc := defScope sTake) (by decide +kernel))
          (fun _ _ _ _ _ => pg_tupC K rfl rfl (pgs_cons (pg_name (i := 5) scTake.nd rfl (Or.inl rfl)) (pgs_cons (pg_name (i := 6) scTake.nd rfl (Or.inl rfl)) pgs_nil)))
          (fun _ _ _ _ _ => pts_one (pt_cmpR (op_nneT e64) (pv 5) (pe_fldC K rfl (pv 0) rfl) rfl)) (fun _ _ _ _ _ => pe_tup (pa_cons (pv 5) (pa_cons (pv 6) pa_nil)))) pa_nil)) rfl)
      (pss_one (ps_fld (pv 0) (pe_callTy (call_ndict rfl hu) (by rfl) T.dict (by decide +kernel) (pa_cons
        (pe_lc (own := [("one", 5), ("other", 6)]) (g := gTup K 2 _) rfl scTake.nd (pi_nkeys (pv 2)) (blkOk_by (N := nTake) (sc := defScope sTake) (by decide +kernel))
          (fun _ _ _ _ _ => pg_tupC K rfl rfl (pgs_cons (pg_name (i := 5) scTake.nd rfl (Or.inl rfl)) (pgs_cons (pg_name (i := 6) scTake.nd rfl (Or.inl rfl)) pgs_nil)))
          (fun _ _ _ _ _ => pts_one (pt_cmpR (op_nneT e64) (pv 6) (pe_fldC K rfl (pv 0) rfl) rfl)) (fun _ _ _ _ _ => pe_tup (pa_cons (pv 6) (pa_cons (pv 5) pa_nil)))) pa_nil)) rfl)))))), ?_⟩
    have WA0 := WA
    obtain ⟨dx, fs, va, vb, n, k, h, fi, pk, ph, hp, F6, na, nb, Dn, Dk, Dh, Lf, R⟩ := WA
    -- steps
    refine ⟨.ref p, rfl, p, dx, fs, rfl, hp, F6.m3, p, Fl, a, b, S, gs, rfl, WA0, hF, fz, fun H1 ds T0 s1 hds D1 hT0 hT0l => ?_⟩
    have hF0 : Mow.Flow Fl a b T0 := hF.perm hT0
    have hgf : ∀ f, f ∈ gs ↔ (a, f) ∈ T0 := (R.perm hT0).hf
    have hgn := R.fn
    have hM0 : Mow.Srch Fl a b T0 M := Mow.Srch.perm hT0 hM
    -- door
    refine ⟨.ref p, rfl, p, C, dx, fs, _, rfl, s1 _ _ hp, TW.cl, TW.nB, F6.b, by show 2 ≤ sizeLine; decide, fun t0 nt0 => ?_⟩
    have s2 := same_new (o := .tup [vb, .int 0]) nt0
    have nd0 : NK (upd H1 t0 (.tup [vb, .int 0])) (dk (b, 0)) (.ref t0) := NK.mk_door upd_same ((nb.same s1).same s2)
    have D2 := D1.same s2
    generalize upd H1 t0 (.tup [vb, .int 0]) = H2 at s2 nd0 D2
    have s02 : Same H H2 := s1.trans s2
    obtain ⟨k0, A0⟩ := Mow.AugAt.start hF0 ab hb
    have hk0 : k0 ≤ 2000 := by
      have h1 := keys_le (Fl := Fl) (Mow.Met.nodup hM) fun d hd => let z := Mow.Srch.doors hF aF ab hM d hd; ⟨z.1, z.2.1⟩
      obtain ⟨_, M1, M2, _, e1, e2, _⟩ := id A0
      rw [Mow.keys, List.length_map, e1, List.length_append] at h1
      omega
    -- while
    refine ⟨fun m σ H3 => ∃ (TT : List Mow.Step) (d : Mow.Door) (vd : V) (y4 : Option V), σ = [some (.ref p), some (.ref dm), some (.ref ds), some vd, y4, none, none] ∧ Same H H3 ∧ NK H3 (dk d) vd ∧ Dct P w stepR trueV H3 ds (TT.map fun e => (e, ())) ∧ TT.length + m ≤ 4000 ∧ Mow.AugAt Fl a b T0 M d m TT,
      ⟨k0, T0, (b, 0), .ref t0, none, rfl, s02, nd0, D2, by omega, A0⟩, ?_⟩
    rintro m σ H3 ⟨TT, d, vd, y4, rfl, s3, nvd, D3, hTl, A3⟩
    have Dm3 := Dm.same s3
    obtain ⟨e, hde⟩ := A3.here
    have hlk := look_of_mem Dm3.nodup hde
    refine ⟨.ref dm, rfl, vd, rfl, Mow.Door, Option Mow.Door, inferInstance, doorR, parV, dm, M, d, e, rfl, Dm3, nvd, hlk, fun v hv => ⟨rfl, _, rfl, ?_⟩⟩
    cases e with
    | some pd =>
      obtain ⟨t4, y4', rfl, et4, n4⟩ := NK.door (d := pd) hv
      show if (!decide (V.ref t4 = V.non)) = true then _ else _
      rw [decide_eq_false (by intro z; cases z)]
      refine iteT ⟨fun σ' H' => ∃ (TT' : List Mow.Step) (d' : Mow.Door) (vd' : V) (y4 : Option V) (m' : Nat), σ' = [some (.ref p), some (.ref dm), some (.ref ds), some vd', y4, none, none] ∧ Same H H' ∧ NK H' (dk d') vd' ∧ Dct P w stepR trueV H' ds (TT'.map fun e => (e, ())) ∧ TT'.length + m' ≤ 4000 ∧ Mow.AugAt Fl a b T0 M d' m' TT' ∧ m' < m, ?_, ?_⟩
      · rintro σ' H' ⟨TT', d', vd', y4, m', e1, e2, e3, e4, e5, e6, e7⟩
        exact ⟨m', e7, TT', d', vd', y4, e1, e2, e3, e4, e5, e6⟩
      · obtain ⟨c1, c2, c3⟩ := A3.turn hF0 aF ab hnab hM0 hde
        clear hv et4 n4
        refine ⟨.ref dm, rfl, vd, rfl, Mow.Door, Option Mow.Door, inferInstance, doorR, parV, dm, M, d, some pd, rfl, Dm3, nvd, hlk, fun v2 hv2 => ?_⟩
        have nv2 : NK H3 (dk pd) v2 := hv2
        obtain ⟨t5, y5, rfl, et5, n5⟩ := nv2.door
        obtain ⟨t3, y3, rfl, et3, n3⟩ := nvd.door
        refine ⟨.ref t5, rfl, t5, _, 0, y5, rfl, rfl, SqT.of et5, rfl, .ref t3, rfl, t3, _, 0, y3, rfl, rfl, SqT.of et3, rfl, rd_ceq true n5 n3 ⟨_, rfl, ?_⟩⟩
        refine t_ite (fun hq => ?_) (fun hq => ?_)
        · have hne : pd.1 ≠ d.1 := by simpa [ngB] using hq
          refine ⟨.ref t5, rfl, t5, _, 1, .int pd.2, rfl, rfl, SqT.of et5, rfl, rfl, _, rfl, ?_⟩
          refine t_ite (fun hq2 => ?_) (fun hq2 => ?_)
          · have h1 : pd.2 = 1 := by simpa using hq2
            obtain ⟨hnew, m', hm', A'⟩ := c1 hne h1
            refine ⟨.ref ds, rfl, .ref t5, rfl, t5, _, 0, y5, rfl, rfl, SqT.of et5, rfl, .ref t3, rfl, t3, _, 0, y3, rfl, rfl, SqT.of et3, rfl, by show 2 ≤ sizeLine; decide, fun t6 nt6 => ?_⟩
            have s6 := same_new (o := .tup [y5, y3]) nt6
            have nst : NK (upd H3 t6 (.tup [y5, y3])) (sk (pd.1, d.1)) (.ref t6) := NK.mk_two upd_same (n5.same s6) (n3.same s6)
            have D6 := D3.same s6
            have nv6 := nv2.same s6
            generalize upd H3 t6 (.tup [y5, y3]) = H6 at s6 nst D6 nv6
            refine ⟨Mow.Step, Unit, inferInstance, stepR, trueV, ds, _, (pd.1, d.1), (), rfl, D6, nst, rfl, by rw [List.length_map]; exact small_line (by omega), fun ob D7 => ?_⟩
            rw [putL_new (by rw [keysT]; exact hnew)] at D7
            obtain ⟨o6, c6⟩ := D6.obj
            have tu : Tu H6 (upd H6 ds (dno ds ob)) := Tu.mut c6 dno_tup
            refine ⟨.ref t5, rfl, TT ++ [(pd.1, d.1)], pd, .ref t5, _, m', rfl, same_mut hds (s3.trans s6), NK.tu tu nv6, ?_, ?_, A', hm'⟩
            · have D7' : Dct P w stepR trueV (upd H6 ds (dno ds ob)) ds _ := D7
              simpa using D7'
            · rw [List.length_append, List.length_singleton]; omega
          · have h1 : pd.2 ≠ 1 := by simpa using hq2
            obtain ⟨hold, m', hm', A'⟩ := c2 hne h1
            refine ⟨.ref ds, rfl, Mow.Step, Unit, inferInstance, stepR, trueV, ds, _, rfl, D3, .ref t3, rfl, t3, _, 0, y3, rfl, rfl, SqT.of et3, rfl, .ref t5, rfl, t5, _, 0, y5, rfl, rfl, SqT.of et5, rfl, by show 2 ≤ sizeLine; decide, fun t6 nt6 => ?_⟩
            have s6 := same_new (o := .tup [y3, y5]) nt6
            have nst : NK (upd H3 t6 (.tup [y3, y5])) (sk (d.1, pd.1)) (.ref t6) := NK.mk_two upd_same (n3.same s6) (n5.same s6)
            have D6 := D3.same s6
            have nv6 := nv2.same s6
            generalize upd H3 t6 (.tup [y3, y5]) = H6 at s6 nst D6 nv6
            refine ⟨.ref t6, (d.1, pd.1), (), rfl, D6, nst, look_of_mem D6.nodup (List.mem_map.mpr ⟨_, hold, rfl⟩), fun v7 ob _ D7 => ?_⟩
            rw [dropL_map] at D7
            obtain ⟨o6, c6⟩ := D6.obj
            have tu : Tu H6 (upd H6 ds (dno ds ob)) := Tu.mut c6 dno_tup
            refine ⟨.ref t5, rfl, _, pd, .ref t5, _, m', rfl, same_mut hds (s3.trans s6), NK.tu tu nv6, D7, ?_, A', hm'⟩
            exact Nat.le_trans (Nat.add_le_add (List.length_filter_le _ _) (Nat.le_of_lt hm')) hTl
        · have heq : pd.1 = d.1 := by simpa [ngB] using hq
          obtain ⟨m', hm', A'⟩ := c3 heq
          exact ⟨.ref t5, rfl, TT, pd, .ref t5, _, m', rfl, s3, nv2, D3, by omega, A', hm'⟩
    | none =>
      have hv' : v = .non := hv
      subst hv'
      refine iteF ?_
      obtain ⟨hFT, hout⟩ := A3.done hF0 hM0 hde
      have hTz := flow_len hFT fz
      clear hlk hde A3 hTl nvd Dm3
      have hmt : ∀ {H : Hp} {fs : List (Str × V)} (o : HO), H p = some (.ins C dx fs) → Tu H (upd H p o) := fun o e => Tu.mut e fun _ z => by cases z
      have p3 := s3 _ _ hp
      have na3 := na.same s3
      have nb3 := nb.same s3
      have Dn3 := Dn.same s3
      have k3 : ∀ c o, H c = some o → c ≠ p → H3 c = some o := fun c o e _ => s3 _ _ e
      clear s3 Dm Dk Dh Lf R WA0 s1 s2 s02 D1 D2
      -- self.firsts
      refine ⟨.ref ds, rfl, Mow.Step, Unit, inferInstance, stepR, trueV, ds, _, rfl, D3, fun o3 ho3 D hD => ?_⟩
      refine lc_pick (vr := nkV ck) walk_n TT (pkF a) (by rw [List.length_map]) (by rw [List.length_map]; omega) hD (fun H s => ⟨s _ _ ho3, D3.same s⟩) ?_ ?_
      · rintro i x st H4 H4' kk e hst s4 ⟨rfl, st', u', hst', nx⟩ hk he
        rw [List.getElem?_map, hst] at hst'
        cases hst'
        obtain ⟨t, y, z, rfl, et, ny, nz⟩ := NK.two (k := ck st.1) (l := ck st.2) nx
        refine ⟨t, _, rfl, SqT.of et, rfl, _, _, rfl, _, _, rfl, rfl, rfl, y, rfl, .ref p, rfl, p, C, dx, fs, _, rfl, s4 _ _ p3, TW.cl, TW.nA, F6.a, rd_ceq false ny (na3.same s4) ⟨_, rfl, ?_⟩⟩
        refine t_ite (fun q1 => ?_) (fun q1 => ?_)
        · have q2 : decide (st.1 = a) = true := by simpa [ngB] using q1
          exact ⟨z, rfl, hk st.2 (by unfold pkF; rw [if_pos q2]) _ _ (Same.refl _) nz⟩
        · have q2 : ¬ decide (st.1 = a) = true := by simpa [ngB] using q1
          exact he (by unfold pkF; rw [if_neg q2]) _ (Same.refl _)
      rintro H4 s4 L4
      obtain ⟨acc, a1, a2⟩ := L4.nks
      refine ⟨D, acc, _, rfl, .inl a1, a2, fun _ _ => trivial, fun ys outV l1 hperm _ hl1 no => ?_⟩
      obtain ⟨rf1, rf2⟩ := repF (a := a) hFT.nd
      have ysN : ys.Nodup := hperm.nodup_iff.mpr rf1
      have ysm : ∀ f, f ∈ ys ↔ (a, f) ∈ TT := fun f => by rw [hperm.mem_iff]; exact rf2 f
      have ysl : ys.length = gs.length + 1 := by
        rw [Mow.out_len hFT.nd ysN ysm, hout]
        have := Mow.out_len hF0.nd hgn hgf
        omega
      have s5 : Same H3 (upd H4 l1 (.lst outV)) := s4.trans (same_new hl1)
      have L5 : LstV (nkV ck) (upd H4 l1 (.lst outV)) l1 ys := LstV.of_nks upd_same (NKs.sameT (same_new hl1) no)
      have n5 : H3 l1 = none := s4.free hl1
      generalize upd H4 l1 (.lst outV) = H5 at s5 L5
      have p5 := s5 _ _ p3
      have npl : l1 ≠ p := fun z => by rw [z] at n5; rw [n5] at p3; cases p3
      have npn : n ≠ p := Dn3.ne' p3 fun o z => by cases z
      have npd : ds ≠ p := D3.ne' p3 fun o z => by cases z
      refine ⟨.ref p, rfl, p, C, dx, fs, rfl, p5, TW.cl, TW.nF, by have := F6.len; omega, ?_⟩
      have F7 := F6.putf (.ref l1)
      generalize putF "firsts" (V.ref l1) fs = fs1 at F7
      have tu := hmt (.ins C dx fs1) p5
      have p6 : (upd H5 p (.ins C dx fs1)) p = some (.ins C dx fs1) := upd_same
      have k6 : ∀ c o, H c = some o → c ≠ p → (upd H5 p (.ins C dx fs1)) c = some o := fun c o e hc => by rw [upd_ne hc]; exact s5 _ _ (k3 c o e hc)
      have na6 := NK.tu tu (na3.same s5)
      have nb6 := NK.tu tu (nb3.same s5)
      have Dn6 := (Dn3.same s5).keep tu (upd_ne npn)
      have D6 := (D3.same s5).keep tu (upd_ne npd)
      have L6 := L5.mono tu (upd_ne npl)
      generalize upd H5 p (.ins C dx fs1) = H6 at p6 k6 na6 nb6 Dn6 D6 L6
      clear na3 nb3 Dn3 k3 p3 s4 L4 a1 a2 no s5 L5 p5 tu hD hl1 n5 F6 D3 ho3
      -- self.behind
      refine ⟨.ref ds, rfl, Mow.Step, Unit, inferInstance, stepR, trueV, ds, _, rfl, D6, fun o6 ho6 D hD => ?_⟩
      refine lc_pick (vr := pairV cellR (nkV ck)) walk_n TT (pkK a) (by rw [List.length_map]) (by rw [List.length_map]; omega) hD (fun H s => ⟨s _ _ ho6, D6.same s⟩) ?_ ?_
      · rintro i x st H7 H7' kk e hst s7 ⟨rfl, st', u', hst', nx⟩ hk he
        rw [List.getElem?_map, hst] at hst'
        cases hst'
        obtain ⟨t, y, z, rfl, et, ny, nz⟩ := NK.two (k := ck st.1) (l := ck st.2) nx
        refine ⟨t, _, rfl, SqT.of et, rfl, _, _, rfl, _, _, rfl, rfl, rfl, y, rfl, .ref p, rfl, p, C, dx, fs1, _, rfl, s7 _ _ p6, TW.cl, TW.nA, F7.a, rd_ceq true ny (na6.same s7) ⟨_, rfl, ?_⟩⟩
        refine t_ite (fun q1 => ?_) (fun q1 => ?_)
        · have q2 : ¬ decide (st.1 = a) = true := by simpa [ngB] using q1
          exact ⟨y, rfl, z, rfl, by show 2 ≤ sizeLine; decide, fun t2 nt2 => hk (st.1, st.2) (by unfold pkK; rw [if_neg q2]) _ _ (same_new nt2) ⟨t2, y, z, rfl, upd_same, ny.same (same_new nt2), nz.same (same_new nt2)⟩⟩
        · have q2 : decide (st.1 = a) = true := by simpa [ngB] using q1
          exact he (by unfold pkK; rw [if_pos q2]) _ (Same.refl _)
      rintro H7 s7 ⟨acc7, c1, c2⟩
      refine ⟨Cell, Cell, inferInstance, cellR, nkV ck, D, acc7, _, rfl, c1, c2, fun k1 ob8 hk1 Dk1 => ?_⟩
      obtain ⟨rk1, rk2⟩ := repK hFT
      rw [putAll_nodup _ _ (by rw [List.nil_append]; exact rk1), List.nil_append] at Dk1
      have s8 : Same H6 (upd H7 k1 (dno k1 ob8)) := s7.trans (same_new hk1)
      generalize upd H7 k1 (dno k1 ob8) = H8 at s8 Dk1
      have p8 := s8 _ _ p6
      have npk : k1 ≠ p := Dk1.ne' p8 fun o z => by cases z
      refine ⟨.ref p, rfl, p, C, dx, fs1, rfl, p8, TW.cl, TW.nK, by have := F7.len; omega, ?_⟩
      have F8 := F7.putk (.ref k1)
      generalize putF "behind" (V.ref k1) fs1 = fs2 at F8
      have tu8 := hmt (.ins C dx fs2) p8
      have p9 : (upd H8 p (.ins C dx fs2)) p = some (.ins C dx fs2) := upd_same
      have k9 : ∀ c o, H c = some o → c ≠ p → (upd H8 p (.ins C dx fs2)) c = some o := fun c o e hc => by rw [upd_ne hc]; exact s8 _ _ (k6 c o e hc)
      have na9 := NK.tu tu8 (na6.same s8)
      have nb9 := NK.tu tu8 (nb6.same s8)
      have Dn9 := (Dn6.same s8).keep tu8 (upd_ne npn)
      have D9 := (D6.same s8).keep tu8 (upd_ne npd)
      have L9 := (L6.same s8).mono tu8 (upd_ne npl)
      have Dk9 := Dk1.keep tu8 (upd_ne npk)
      generalize upd H8 p (.ins C dx fs2) = H9 at p9 k9 na9 nb9 Dn9 D9 L9 Dk9
      clear na6 nb6 Dn6 k6 p6 s7 c1 c2 s8 L6 p8 tu8 hD hk1 F7 D6 ho6 Dk1
      -- self.ahead
      refine ⟨.ref ds, rfl, Mow.Step, Unit, inferInstance, stepR, trueV, ds, _, rfl, D9, fun o9 ho9 D hD => ?_⟩
      refine lc_pick (vr := pairV cellR (nkV ck)) walk_n TT (pkH b) (by rw [List.length_map]) (by rw [List.length_map]; omega) hD (fun H s => ⟨s _ _ ho9, D9.same s⟩) ?_ ?_
      · rintro i x st H7 H7' kk e hst s7 ⟨rfl, st', u', hst', nx⟩ hk he
        rw [List.getElem?_map, hst] at hst'
        cases hst'
        obtain ⟨t, y, z, rfl, et, ny, nz⟩ := NK.two (k := ck st.1) (l := ck st.2) nx
        refine ⟨t, _, rfl, SqT.of et, rfl, _, _, rfl, _, _, rfl, rfl, rfl, z, rfl, .ref p, rfl, p, C, dx, fs2, _, rfl, s7 _ _ p9, TW.cl, TW.nB, F8.b, rd_ceq true nz (nb9.same s7) ⟨_, rfl, ?_⟩⟩
        refine t_ite (fun q1 => ?_) (fun q1 => ?_)
        · have q2 : ¬ decide (st.2 = b) = true := by simpa [ngB] using q1
          exact ⟨z, rfl, y, rfl, by show 2 ≤ sizeLine; decide, fun t2 nt2 => hk (st.2, st.1) (by unfold pkH; rw [if_neg q2]) _ _ (same_new nt2) ⟨t2, z, y, rfl, upd_same, nz.same (same_new nt2), ny.same (same_new nt2)⟩⟩
        · have q2 : decide (st.2 = b) = true := by simpa [ngB] using q1
          exact he (by unfold pkH; rw [if_pos q2]) _ (Same.refl _)
      rintro H7 s7 ⟨acc7, c1, c2⟩
      refine ⟨Cell, Cell, inferInstance, cellR, nkV ck, D, acc7, _, rfl, c1, c2, fun h1 ob8 hh1 Dh1 => ?_⟩
      obtain ⟨rh1, rh2⟩ := repH hFT
      rw [putAll_nodup _ _ (by rw [List.nil_append]; exact rh1), List.nil_append] at Dh1
      have s8 : Same H9 (upd H7 h1 (dno h1 ob8)) := s7.trans (same_new hh1)
      generalize upd H7 h1 (dno h1 ob8) = H8 at s8 Dh1
      have p8 := s8 _ _ p9
      have nph : h1 ≠ p := Dh1.ne' p8 fun o z => by cases z
      refine ⟨.ref p, rfl, p, C, dx, fs2, rfl, p8, TW.cl, TW.nH, by have := F8.len; omega, ?_⟩
      have F9 := F8.puth (.ref h1)
      generalize putF "ahead" (V.ref h1) fs2 = fs3 at F9
      have tu8 := hmt (.ins C dx fs3) p8
      refine q _ TT ys (fun c o e hc => by rw [upd_ne hc]; exact s8 _ _ (k9 c o e hc)) ?_ hFT ysl
      exact ⟨dx, fs3, va, vb, n, k1, h1, l1, _, _, upd_same, F9, NK.tu tu8 (na9.same s8), NK.tu tu8 (nb9.same s8), (Dn9.same s8).keep tu8 (upd_ne npn), (Dk9.same s8).keep tu8 (upd_ne npk), Dh1.keep tu8 (upd_ne nph), (L9.same s8).mono tu8 (upd_ne npl),
        ⟨rk2, rh2, ysm, ysN⟩⟩
end
end MF

set_option autoImplicit false
set_option Elab.async false
set_option linter.all false
set_option maxRecDepth 100000
set_option maxHeartbeats 400000
/-! barred. -/
namespace MF
open PySem PySem.Spec PyProof.Rows L2
/-- the class can be made -/
structure MkOk (P : Program) (w : World) (K : PySem.W.Frag) (mg : Str → Option Value) (base : Heap) (k : Nat) (C : Addr) (ps : List Str) (sp : Sp) : Prop where
  ex : ∃ f fd, Mk K C f ∧ FnOk P w K mg base CX0 k f fd ps sp ∧ Binds K fd ps []
section
variable {X : Cx} {C : Addr} {k : Nat} {x : Str} {ps : List Str} {sp : Sp} {e : Expr} {es : List Expr} {t : TA} {p pos : Pos}
theorem pe_mk (D : MkOk X.prog X.w X.K X.mg X.base k C ps sp) (hr : Room (k + 1) X.A) (hg : Gl X x) (hm : X.mg x = some (.ref C)) (ha : PA X (e :: es) t) (hdb : (x == ("__debug__" : Str)) = false := by decide)
    (he : starEach (e :: es) X.env = (false, eval e X.env) :: starEach es X.env := by rfl) (hpl : (backTo pos (starEach es X.env)).any (·.1) = false := by rfl) : PE X (.Call (.Name x p) (e :: es) [] pos) (tMake C sp [] E0 t) := by
  obtain ⟨f, fd, M, F, b⟩ := D.ex
  exact pe_make M F hr hg hm b .nil pass0 ha hdb he hpl
end
section
variable {P : Program} {w : World} {K : PySem.W.Frag} {mg : Str → Option Value} {base : Heap} {C : Addr}
theorem WaysAt.le {H : Hp} {p : Addr} {Fl : List Cell} {a b : Cell} {S : List Mow.Step} {gs : List Cell} (x : WaysAt P w C H p Fl a b S gs) (hF : Mow.Flow Fl a b S) : gs.length ≤ 4 := by
  obtain ⟨_, _, _, _, _, _, _, _, _, _, _, _, _, _, _, _, _, _, R⟩ := x
  exact firsts_le hF R.hf R.fn
theorem WaysAt.obj {H : Hp} {p : Addr} {Fl : List Cell} {a b : Cell} {S : List Mow.Step} {gs : List Cell} (x : WaysAt P w C H p Fl a b S gs) : ∃ dx fs va vb vn vk vh vf, H p = some (.ins C dx fs) ∧ Fl6 fs va vb vn vk vh vf := by
  obtain ⟨dx, fs, va, vb, n, k, h, f, pk, ph, e1, e2, _⟩ := x
  exact ⟨dx, fs, va, vb, _, _, _, _, e1, e2⟩
abbrev nBarred : List Str := ["field", "a", "b", "ways", "met", "cells", "cell"]
theorem scBarred : FnScope nBarred ["field", "a", "b"] (defScope sBarred) := ⟨rfl, rfl, rfl, by decide +kernel, rfl, by decide +kernel, by decide +kernel⟩
def spBarred : Sp := fun vs H Q _ => ∃ (vf va vb : V) (Fl : List Cell) (a b : Cell), vs = [vf, va, vb] ∧ NK H (csk Fl) vf ∧ NK H (ck a) va ∧ NK H (ck b) vb ∧ Fl.Nodup ∧ Fl.length ≤ 1000 ∧ a ∈ Fl ∧ a ≠ b ∧ b ∉ Mow.nb a ∧
  ∀ H' t vc vw Cs W, Same H H' → H' t = some (.tup [vc, vw]) → NK H' (csk Cs) vc → NK H' (wsk W) vw → Mow.Barred Fl a b Cs W → SrtO.Srtd Mow.wlt W → Q (.ref t) H'
theorem ok_barred (T : Tx mg) (TW : TxW K C) (hC : mg "Ways" = some (.ref C)) (D1 : Dn P w K mg base 3 "are_near" ["field", "a", "b"] spNear) (MK : MkOk P w K mg base 3 C ["self", "field", "a", "b"] (spInit P w C))
    (DS : MDn P w K mg base 2 C "search" ["self"] (spSearch P w C)) (DT : MDn P w K mg base 2 C "take_in" ["self", "met"] (spTake P w C)) (DA : MDn P w K mg base 1 C "all_ways" ["self"] (spAllWays P w C))
    (F : FunD K mg "barred" sBarred ["field", "a", "b"]) : Dn P w K mg base 5 "barred" ["field", "a", "b"] spBarred := .of F fun f fd F => by
  refine F.ok scBarred (fun vs H Q E h => ?_) (fun cdv A outer s H vs Q E hr h => ?_)
  · obtain ⟨vf, va, vb, Fl, a, b, rfl, _⟩ := h; rfl
  · obtain ⟨vf, va, vb, Fl, a, b, rfl, nf, na, nb, fN, fz, aF, ab, hnab, q⟩ := h
    have hu := room20 hr
    refine ⟨_, pss_cons (ps_if (pt_val (pe_dn D1 (hr.mono (by decide)) (by rfl) (pa_cons (pv 0) (pa_cons (pv 1) (pa_cons (pv 2) pa_nil))))) (pss_one ps_never) pss_nil)
      (pss_cons (ps_set (i := 3) scBarred.nd rfl (.inl rfl) (pe_mk MK hr (by rfl) hC (pa_cons (pv 0) (pa_cons (pv 1) (pa_cons (pv 2) pa_nil)))))
      (pss_cons (ps_set (i := 4) scBarred.nd rfl (.inr rfl) (pe_mdn0 TW.cl DS (hr.mono (by decide)) (pv 3)))
      (pss_cons (ps_while PassesOwn.never (pt_cmpR (op_ndin hu) (pe_tup (pa_cons (pv 2) (pa_cons (pe_num (by rfl) T.cin) pa_nil))) (pv 4) rfl)
        (pss_cons (ps_expr (pe_mdn TW.cl DT (hr.mono (by decide)) (pv 3) (pa_cons (pv 4) pa_nil)))
        (pss_one (ps_set (i := 4) scBarred.nd rfl (.inr rfl) (pe_mdn0 TW.cl DS (hr.mono (by decide)) (pv 3))))))
      (pss_cons (ps_setLc (i := 5) (own := [("cell", 6)]) (g := gName 6) rfl scBarred.nd rfl rfl (sw_true rfl rfl rfl (by decide +kernel)) (pi_tup (pv 0)) (blkOk_by (N := nBarred) (sc := defScope sBarred) (by decide +kernel))
          (fun _ _ _ _ _ => pg_name (i := 6) scBarred.nd rfl (Or.inl rfl))
          (fun _ _ _ _ _ => pts_one (PW.pt (pw_and (pt_cmpR (op_ndinC P w rfl rfl hu) (pe_tup (pa_cons (pv 6) (pa_cons (pe_num (by rfl) T.cin) pa_nil))) (pv 4) rfl) (pw_and1 (pt_cmpR (op_ndninC P w rfl rfl hu) (pe_tup (pa_cons (pv 6) (pa_cons (pe_num (by rfl) T.cout) pa_nil))) (pv 4) rfl)))))
          (fun _ _ _ _ _ => pv 6))
      (pss_one (ps_ret (pe_tup (pa_cons (pe_callTy call_tupL (by rfl) T.tuple (by decide +kernel) (pa_cons (pv 5) pa_nil)) (pa_cons (pe_mdn0 TW.cl DA (hr.mono (by decide)) (pv 3)) pa_nil))))))))), ?_⟩
    obtain ⟨tf, xf, rfl, ef, af⟩ := id nf.seq
    have hxl : xf.length = Fl.length := af.lenm
    refine ⟨.ref tf, rfl, va, rfl, vb, rfl, .ref tf, va, vb, Fl, a, b, rfl, nf, na, nb, ab, hnab, fun H1 s1 => ⟨false, rfl, iteF ?_⟩⟩
    -- ways = Ways(field, a, b)
    refine ⟨.ref tf, rfl, va, rfl, vb, rfl, fun p dx hp hdx ndp => ?_⟩
    have hp0 : H p = none := s1.free hp
    have s2 : Same H1 (upd (upd H1 dx (.own p)) p (.ins C dx [])) := same_mut hp (same_new hdx)
    have s02 := s1.trans s2
    refine ⟨p, dx, .ref tf, va, vb, Fl, a, b, rfl, upd_same, nf.same s02, na.same s02, nb.same s02, fN, fz, fun H3 k3 WA => ⟨rfl, ?_⟩⟩
    have s3 : Same H H3 := fun c o e => k3 c o (s02 c o e) (ne_of_none e hp0)
    clear k3 s2 s02 s1 hp hdx
    -- met
    obtain ⟨dx3, fs3, _, _, _, _, _, _, o3, F3⟩ := WA.obj
    refine ⟨.ref p, rfl, p, dx3, fs3, rfl, o3, F3.m2, p, Fl, a, b, [], [], rfl, WA, .nil Fl a b, fN, fz, aF, ab, fun H4 dm M s4 _ Dm hM hcl => ?_⟩
    refine ⟨fun m σ H5 => ∃ (S : List Mow.Step) (gs : List Cell) (M : List (Mow.Door × Option Mow.Door)) (dm : Addr), σ = [some (.ref tf), some va, some vb, some (.ref p), some (.ref dm), none, none] ∧ Same H H5 ∧ WaysAt P w C H5 p Fl a b S gs ∧ Mow.Flow Fl a b S ∧
        Dct P w doorR parV H5 dm M ∧ Mow.Srch Fl a b S M ∧ ((b, (0 : Int)) ∈ Mow.keys M ∨ ∀ d ∈ Mow.keys M, ∀ e, Mow.Nxt Fl a b S d e → e ∈ Mow.keys M) ∧ m = 5 - gs.length,
      ⟨_, [], [], M, dm, rfl, s3.trans s4, WA.same s4, .nil Fl a b, Dm, hM, hcl, rfl⟩, ?_⟩
    clear o3 F3 Dm hM hcl s4 s3 WA
    rintro m σ H5 ⟨S, gs, M, dm, rfl, s5, WA, hF, Dm, hM, hcl, rfl⟩
    refine ⟨vb, rfl, by show 2 ≤ sizeLine; decide, fun t6 nt6 => ?_⟩
    have s6 := same_new (o := .tup [vb, .int 0]) nt6
    have nbe : NK (upd H5 t6 (.tup [vb, .int 0])) (dk (b, 0)) (.ref t6) := NK.mk_door upd_same ((nb.same s5).same s6)
    generalize upd H5 t6 (.tup [vb, .int 0]) = H6 at s6 nbe
    have s06 := s5.trans s6
    have WA6 := WA.same s6
    have Dm6 := Dm.same s6
    obtain ⟨dx6, fs6, _, _, _, _, _, _, o6, F6⟩ := WA6.obj
    refine ⟨.ref dm, rfl, Mow.Door, Option Mow.Door, inferInstance, doorR, parV, dm, M, (b, 0), rfl, Dm6, nbe, _, rfl, ?_⟩
    refine t_ite (fun hq => ?_) (fun hq => ?_)
    · have hb0 : (b, (0 : Int)) ∈ Mow.keys M := by simpa [ngB] using hq
      refine ⟨fun σ' H' => ∃ (S' : List Mow.Step) (gs' : List Cell) (M : List (Mow.Door × Option Mow.Door)) (dm : Addr), σ' = [some (.ref tf), some va, some vb, some (.ref p), some (.ref dm), none, none] ∧ Same H H' ∧ WaysAt P w C H' p Fl a b S' gs' ∧ Mow.Flow Fl a b S' ∧
          Dct P w doorR parV H' dm M ∧ Mow.Srch Fl a b S' M ∧ ((b, (0 : Int)) ∈ Mow.keys M ∨ ∀ d ∈ Mow.keys M, ∀ e, Mow.Nxt Fl a b S' d e → e ∈ Mow.keys M) ∧ gs'.length = gs.length + 1, ?_, ?_⟩
      · rintro σ' H' ⟨S', gs', M', dm', e1, e2, e3, e4, e5, e6, e7, e8⟩
        have := e3.le e4
        exact ⟨5 - gs'.length, by omega, S', gs', M', dm', e1, e2, e3, e4, e5, e6, e7, rfl⟩
      · refine ⟨.ref p, rfl, p, dx6, fs6, rfl, o6, F6.m4, .ref dm, rfl, p, dm, Fl, a, b, S, gs, M, rfl, WA6, hF, fz, aF, ab, hnab, hM, hb0, Dm6, fun H7 S' gs' k7 WA7 hF7 hl7 => ?_⟩
        have s7 : Same H H7 := fun c o e => k7 c o (s06 c o e) (ne_of_none e hp0)
        obtain ⟨dx7, fs7, _, _, _, _, _, _, o7, F7⟩ := WA7.obj
        exact ⟨.ref p, rfl, p, dx7, fs7, rfl, o7, F7.m2, p, Fl, a, b, S', gs', rfl, WA7, hF7, fN, fz, aF, ab, fun H8 dm8 M8 s8 _ Dm8 hM8 hcl8 => ⟨S', gs', M8, dm8, rfl, s7.trans s8, WA7.same s8, hF7, Dm8, hM8, hcl8, hl7⟩⟩
    · have hb0 : (b, (0 : Int)) ∉ Mow.keys M := by simpa [ngB] using hq
      have hc := hcl.resolve_left hb0
      have SH := Mow.Shut.of hF aF ab hM hb0 hc
      -- cells
      refine ⟨.ref tf, rfl, tf, rfl, ⟨_, SqT.of (s06 _ _ ef)⟩, fun D hD => ?_⟩
      refine lc_filter (vr := nkV ck) (walk_tup (xs := xf)) Fl (fun c => decide ((c, (0 : Int)) ∈ Mow.keys M ∧ (c, (1 : Int)) ∉ Mow.keys M)) hxl.symm (by omega) hD (fun H s => SqT.of (s _ _ (s06 _ _ ef))) ?_ ?_
      · rintro i x c H7 H7' k e hc s7 ⟨rfl, hx⟩ hk he
        have nx := (af.at_ hx hc).same (s06.trans s7)
        refine ⟨rfl, x, rfl, by show 2 ≤ sizeLine; decide, fun t8 nt8 => ?_⟩
        have s8 := same_new (o := .tup [x, .int 0]) nt8
        have n8 : NK (upd H7' t8 (.tup [x, .int 0])) (dk (c, 0)) (.ref t8) := NK.mk_door upd_same (nx.same s8)
        generalize upd H7' t8 (.tup [x, .int 0]) = H8 at s8 n8
        refine ⟨.ref dm, rfl, Mow.Door, Option Mow.Door, inferInstance, doorR, parV, dm, M, (c, 0), rfl, (Dm6.same s7).same s8, n8, _, rfl, ?_⟩
        refine t_ite (fun q1 => ?_) (fun q1 => ?_)
        · have q1' : (c, (0 : Int)) ∈ Mow.keys M := by simpa [ngB] using q1
          refine ⟨x, rfl, by show 2 ≤ sizeLine; decide, fun t9 nt9 => ?_⟩
          have s9 := same_new (o := .tup [x, .int 1]) nt9
          have n9 : NK (upd H8 t9 (.tup [x, .int 1])) (dk (c, 1)) (.ref t9) := NK.mk_door upd_same ((nx.same s8).same s9)
          generalize upd H8 t9 (.tup [x, .int 1]) = H9 at s9 n9
          refine ⟨.ref dm, rfl, Mow.Door, Option Mow.Door, inferInstance, doorR, parV, dm, M, (c, 1), rfl, ((Dm6.same s7).same s8).same s9, n9, _, rfl, ?_⟩
          refine t_ite (fun q2 => ?_) (fun q2 => ?_)
          · have q2' : (c, (1 : Int)) ∉ Mow.keys M := by simpa [ngB] using q2
            exact ⟨x, rfl, hk (decide_eq_true ⟨q1', q2'⟩) _ _ (s8.trans s9) ((nx.same s8).same s9)⟩
          · have q2' : (c, (1 : Int)) ∈ Mow.keys M := by simpa [ngB] using q2
            exact he (decide_eq_false fun z => z.2 q2') _ (s8.trans s9)
        · have q1' : (c, (0 : Int)) ∉ Mow.keys M := by simpa [ngB] using q1
          exact he (decide_eq_false fun z => q1' z.1) _ s8
      rintro H7 s7 L7
      obtain ⟨acc, a1, a2⟩ := L7.nks
      refine ⟨.ref D, rfl, D, acc, rfl, a1, fun l hl => ?_⟩
      have s8 := same_new (o := .tup acc) hl
      have n8 : NK (upd H7 l (.tup acc)) (csk (Mow.cut Fl (Mow.keys M))) (.ref l) := nk_tuple hl a2
      generalize upd H7 l (.tup acc) = H8 at s8 n8
      have s68 := s7.trans s8
      refine ⟨.ref p, rfl, p, dx6, fs6, rfl, s68 _ _ o6, F6.m5, p, Fl, a, b, S, gs, rfl, WA6.same s68, hF, fz, aF, ab, fun H9 v9 ws W s9 n9 gf gn wl wy hperm hs => ?_⟩
      refine ⟨by show 2 ≤ sizeLine; decide, fun t nt => ?_⟩
      have s10 := same_new (o := .tup [.ref l, v9]) nt
      exact q _ t (.ref l) v9 _ W ((s06.trans s68).trans (s9.trans s10)) upd_same ((n8.same s9).same s10) (n9.same s10) (Mow.barred_of hF SH fN aF ab hnab gn gf wl wy hperm) hs
end
end MF

set_option autoImplicit false
set_option Elab.async false
set_option linter.all false
set_option maxRecDepth 100000
set_option maxHeartbeats 400000
/-! The law's own: _law_pick, _law_left, _law_beside, _law_part. -/
namespace MF
open PySem PySem.Spec PyProof.Rows L2
/-- nothing but what stands at l is another -/
def Kp (l : Addr) (H H' : Hp) : Prop := ∀ c o, H c = some o → c ≠ l → H' c = some o
/-- the three numbers that the draws go on from -/
def LeftAt (H : Hp) (l : Addr) : Prop := ∃ x y z : Int, H l = some (.lst [.int x, .int y, .int z])
section
variable {l : Addr} {H H1 H2 : Hp}
theorem Kp.refl (l : Addr) (H : Hp) : Kp l H H := fun _ _ e _ => e
theorem Kp.of (s : Same H H1) : Kp l H H1 := fun c o e _ => s c o e
theorem Kp.trans (a : Kp l H H1) (b : Kp l H1 H2) : Kp l H H2 := fun c o e h => b c o (a c o e h) h
theorem Kp.mut {o : HO} (a : Kp l H H1) : Kp l H (upd H1 l o) := fun c x e h => by rw [upd_ne h]; exact a c x e h
/-- another list, new since H -/
theorem Kp.mut2 {o : HO} {p : Addr} (a : Kp l H H1) (hp : H p = none) : Kp l H (upd H1 p o) := fun c x e h => by rw [upd_ne (ne_of_none e hp)]; exact a c x e h
theorem Kp.free (a : Kp l H H1) (hl : LeftAt H l) {c : Addr} (h : H1 c = none) (hl1 : LeftAt H1 l) : H c = none := by
  cases e : H c with
  | none => rfl
  | some o =>
    by_cases z : c = l
    · obtain ⟨x, y, w, e2⟩ := hl1
      rw [z, e2] at h; cases h
    · rw [a c o e z] at h; cases h
theorem LeftAt.ntup (hl : LeftAt H l) (xs : List V) : H l ≠ some (.tup xs) := by
  obtain ⟨x, y, z, e⟩ := hl
  rw [e]; intro h; cases h
theorem Kp.tu (a : Kp l H H1) (hl : LeftAt H l) : Tu H H1 := fun b xs e => a b _ e fun z => hl.ntup xs (z ▸ e)
theorem LeftAt.same (hl : LeftAt H l) (s : Same H H1) : LeftAt H1 l := let ⟨x, y, z, e⟩ := hl; ⟨x, y, z, s _ _ e⟩
theorem LeftAt.ne (hl : LeftAt H l) {c : Addr} (h : H c = none) : c ≠ l := fun z => by
  obtain ⟨x, y, w, e⟩ := hl
  rw [z, e] at h; cases h
theorem LeftAt.upd (hl : LeftAt H l) {c : Addr} {o : HO} (h : c ≠ l) : LeftAt (upd H c o) l := by
  obtain ⟨x, y, w, e⟩ := hl
  exact ⟨x, y, w, by rw [upd_ne h.symm]; exact e⟩
end
section
variable {P : Program} {w : World} {K : PySem.W.Frag} {mg : Str → Option Value} {base : Heap}
abbrev nPick : List Str := ["_law_left_here", "_law_many", "_law_digit", "_law_mixed"]
theorem scPick : FnScope nPick ["_law_left_here", "_law_many"] (defScope sPick) := ⟨rfl, rfl, rfl, by decide +kernel, rfl, by decide +kernel, by decide +kernel⟩
def spPick : Sp := fun vs H Q _ => ∃ (l : Addr) (many : Int), vs = [.ref l, .int many] ∧ LeftAt H l ∧ 0 < many ∧ many < 1073741824 ∧ ∀ H' r, Kp l H H' → LeftAt H' l → 0 ≤ r → r < many → Q (.int r) H'
theorem modp {i j : Int} (h : 0 < j) : (fun (_ : Int) (j : Int) => 0 < j) i j := h
theorem cmul_r {i j : Int} (h : -(2 ^ 64) < j ∧ j < 2 ^ 64) : CMul i j := .inr h
theorem ok_pick (F : FunD K mg "_law_pick" sPick ["_law_left_here", "_law_many"]) : Dn P w K mg base 1 "_law_pick" ["_law_left_here", "_law_many"] spPick := .of F fun f fd F => by
  refine F.ok scPick (fun vs H Q E h => ?_) (fun cdv A outer s H vs Q E hr h => ?_)
  · obtain ⟨l, m, rfl, _⟩ := h; rfl
  · obtain ⟨l, many, rfl, ⟨x, y, z, e⟩, m0, m1, q⟩ := h
    refine ⟨_, pss_cons (ps_if (pt_cmpR op_gt (pe_ix ix_list (pv 0) pe_int (fun _ _ => rfl)) pe_int (nomark _))
        (pss_cons (ps_set (i := 2) scPick.nd rfl (.inl rfl) (pe_op op_mod (pe_ix ix_list (pv 0) pe_int (fun _ _ => rfl)) (pv 1)))
        (pss_cons (ps_asg (pe_op op_fdiv (pe_ix ix_list (pv 0) pe_int (fun _ _ => rfl)) (pv 1)) (pg_sub (pv 0) pe_int set_list))
        (pss_one (ps_ret (pv 2))))) pss_nil)
      (pss_cons (ps_asg (pe_op op_add (pe_ix ix_list (pv 0) pe_int (fun _ _ => rfl)) pe_int) (pg_sub (pv 0) pe_int set_list))
      (pss_cons (ps_set (i := 3) scPick.nd rfl (.inl rfl) (pe_op op_mod (pe_op op_mul (pe_op op_add (pe_ix ix_list (pv 0) pe_int (fun _ _ => rfl)) (pe_op op_mul (pe_ix ix_list (pv 0) pe_int (fun _ _ => rfl)) pe_int)) pe_int) pe_int))
      (pss_cons (ps_asg (pe_op op_mod (pe_op op_mul (pv 3) (pe_op op_add (pe_op op_mod (pv 3) pe_int) pe_int)) pe_int) (pg_sub (pv 0) pe_int set_list))
      (pss_one (ps_ret (pe_op op_mod (pe_op op_fdiv (pe_ix ix_list (pv 0) pe_int (fun _ _ => rfl)) pe_int) (pv 1))))))), ?_⟩
    refine ⟨.ref l, rfl, l, _, 0, .int x, rfl, rfl, SqL.of e, rfl, _, _, rfl, rfl, _, rfl, ?_⟩
    refine t_ite (fun _ => ?_) (fun _ => ?_)
    · refine ⟨.ref l, rfl, l, _, 0, .int x, rfl, rfl, SqL.of e, rfl, .int many, rfl, x, many, rfl, rfl, m0, ?_⟩
      refine ⟨.ref l, rfl, l, _, 0, .int x, rfl, rfl, SqL.of e, rfl, .int many, rfl, x, many, rfl, rfl, ⟨m0, m1⟩, ?_⟩
      refine ⟨.ref l, rfl, l, _, 0, 0, rfl, rfl, e, rfl, .int (x % many), rfl, ?_⟩
      exact q _ _ (Kp.mut (Kp.refl l H)) ⟨_, _, _, upd_same⟩ (Int.emod_nonneg _ (by omega)) (Int.emod_lt_of_pos _ m0)
    · refine ⟨.ref l, rfl, l, _, 2, .int z, rfl, rfl, SqL.of e, rfl, _, _, rfl, rfl, .ref l, rfl, l, _, 2, 2, rfl, rfl, e, rfl, ?_⟩
      have e1 : (upd H l (.lst ([V.int x, .int y, .int z].set 2 (.int (z + 1))))) l = some (.lst [.int x, .int y, .int (z + 1)]) := upd_same
      have k1 : Kp l H (upd H l (.lst ([V.int x, .int y, .int z].set 2 (.int (z + 1))))) := Kp.mut (Kp.refl l H)
      generalize upd H l (.lst ([V.int x, .int y, .int z].set 2 (.int (z + 1)))) = H1 at e1 k1
      refine ⟨.ref l, rfl, l, _, 1, .int y, rfl, rfl, SqL.of e1, rfl, .ref l, rfl, l, _, 2, .int (z + 1), rfl, rfl, SqL.of e1, rfl, _, _, rfl, rfl, cmul_r (by decide), _, _, rfl, rfl, _, _, rfl, rfl, cmul_r (by decide), _, _, rfl, rfl, (by show (0 : Int) < _; decide), ?_⟩
      refine ⟨_, rfl, _, rfl, _, _, rfl, rfl, (by show (0 : Int) < _; decide), _, _, rfl, rfl, _, _, rfl, rfl, cmul_r ?_, _, _, rfl, rfl, (by show (0 : Int) < _; decide), .ref l, rfl, l, _, 1, 1, rfl, rfl, e1, rfl, ?_⟩
      · generalize (y + (z + 1) * 104729) * 48271 % 2305843009213693951 = mixed
        have h1 := Int.emod_nonneg mixed (show (1009 : Int) ≠ 0 by decide)
        have h2 := Int.emod_lt_of_pos mixed (show (0 : Int) < 1009 by decide)
        constructor <;> omega
      generalize (y + (z + 1) * 104729) * 48271 % 2305843009213693951 = mixed
      have e2 : (upd H1 l (.lst ([V.int x, .int y, .int (z + 1)].set 1 (.int (mixed * (mixed % 1009 + 69621) % 2305843009213693951))))) l = some (.lst [.int x, .int (mixed * (mixed % 1009 + 69621) % 2305843009213693951), .int (z + 1)]) := upd_same
      refine ⟨.ref l, rfl, l, _, 1, _, rfl, rfl, SqL.of e2, rfl, _, _, rfl, rfl, ⟨by decide, by decide⟩, .int many, rfl, _, many, rfl, rfl, m0, ?_⟩
      exact q _ _ (Kp.mut k1) ⟨_, _, _, upd_same⟩ (Int.emod_nonneg _ (by omega)) (Int.emod_lt_of_pos _ m0)

abbrev nLeft : List Str := ["_law_script", "_law_turn", "_law_seed", "_law_cell", "_law_bound"]
theorem scLeft : FnScope nLeft ["_law_script", "_law_turn"] (defScope sLeft) := ⟨rfl, rfl, rfl, by decide +kernel, rfl, by decide +kernel, by decide +kernel⟩
def spLeft (K : PySem.W.Frag) : Sp := fun vs H Q _ => ∃ (a : Addr) (ns : List Int) (turn : Int), vs = [.ref a, .int turn] ∧ SqL K H a (ns.map V.int) ∧ ∀ H' l, Same H H' → H l = none → LeftAt H' l → Q (.ref l) H'
theorem ite_int {b : Bool} {ta tb : TE} {σ : L2.St} {H : Hp} {Q : VK} (h1 : b = true → ∀ Q' : VK, (∀ c : Int, Q' (.int c) H) → ta σ H Q') (h2 : b = false → ∀ Q' : VK, (∀ c : Int, Q' (.int c) H) → tb σ H Q') (h : ∀ c : Int, Q (.int c) H) :
    if b = true then ta σ H Q else tb σ H Q := by
  cases b with
  | true => rw [if_pos rfl]; exact h1 rfl Q h
  | false => rw [if_neg Bool.false_ne_true]; exact h2 rfl Q h
theorem pow60 : (0 : Int) < 10 ^ (60 : Int).toNat := Int.pow_pos (by decide)
theorem ints_cut (ns : List Int) (lo hi : Option Int) : ∃ ms : List Int, cutV (ns.map V.int) lo hi = ms.map V.int := ⟨_, by unfold cutV; rw [← List.map_drop, ← List.map_take]⟩
theorem ok_left (T : Tx mg) (F : FunD K mg "_law_left" sLeft ["_law_script", "_law_turn"]) : Dn P w K mg base 1 "_law_left" ["_law_script", "_law_turn"] (spLeft K) := .of F fun f fd F => by
  refine F.ok scLeft (fun vs H Q E h => ?_) (fun cdv A outer s H vs Q E hr h => ?_)
  · obtain ⟨a, ns, t, rfl, _⟩ := h; rfl
  · obtain ⟨a, ns, turn, rfl, hS, q⟩ := h
    refine ⟨_, pss_cons (ps_set (i := 2) scLeft.nd rfl (.inl rfl) (pe_op op_add pe_int (pe_op op_mul pe_int (pv 1))))
      (pss_cons (ps_for PassesOwn.never rfl (pi_list (pe_slice sl_list (pv 0) po_none (po_some pe_int))) (pg_name (i := 3) scLeft.nd rfl (.inl rfl))
        (pss_one (ps_set (i := 2) scLeft.nd rfl (.inl rfl) (pe_op op_mod (pe_op op_add (pe_op op_add (pe_op op_mul (pv 2) pe_int) (pe_op op_mod (pv 3) pe_int)) pe_int) pe_int))))
      (pss_cons (ps_set (i := 3) scLeft.nd rfl (.inl rfl) (pe_ifExp (pt_cmpR op_gt (pe_callB call_len_seq (by rfl) T.len PySem.boot_len (pa_cons (pv 0) pa_nil)) pe_int (nomark _))
          (pe_ix ix_list (pv 0) (pe_op op_mod (pv 1) (pe_callB call_len_seq (by rfl) T.len PySem.boot_len (pa_cons (pv 0) pa_nil))) (fun _ _ => rfl)) pe_int))
      (pss_cons (ps_set (i := 4) scLeft.nd rfl (.inl rfl) (pe_op op_mulW (pe_op op_mulW (pe_op op_pow pe_int pe_int) (pe_op op_pow pe_int pe_int)) (pe_op op_pow pe_int pe_int)))
      (pss_one (ps_ret (pe_lst (pa_cons (pe_op op_mul (pe_op op_mod (pv 3) (pv 4)) (pe_callTy call_int1 (by rfl) T.int (by decide +kernel) (pa_cons (pe_cmpR op_ge (pv 3) (pe_op op_pow pe_int pe_int) (nomark _)) pa_nil)))
          (pa_cons (pv 2) (pa_cons pe_int pa_nil))))))))), ?_⟩
    refine ⟨.int turn, rfl, _, _, rfl, rfl, .inl ⟨by decide, by decide⟩, _, _, rfl, rfl, ?_⟩
    refine ⟨.ref a, rfl, 63, rfl, a, _, rfl, hS, fun p hp => ⟨p, rfl, ⟨_, SqL.of upd_same⟩, ?_⟩⟩
    obtain ⟨ms, em⟩ := ints_cut ns none (some 63)
    have s1 := same_new (o := .lst (cutV (ns.map V.int) none (some 63))) hp
    have e1 : (upd H p (.lst (cutV (ns.map V.int) none (some 63)))) p = some (.lst (ms.map V.int)) := by rw [em]; exact upd_same
    generalize upd H p (.lst (cutV (ns.map V.int) none (some 63))) = H1 at s1 e1
    refine for_it (walk_list (xs := ms.map V.int)) (fun i σ H2 => ∃ (sd : Int) (y3 : Option V), σ = [some (.ref a), some (.int turn), some (.int sd), y3, none] ∧ H2 = H1) ⟨_, none, rfl, rfl⟩ (fun i σ H2 _ ⟨_, _, _, e⟩ => by rw [e]; exact SqL.of e1) ?_ ?_
    · rintro i u σ H2 H2' hi ⟨sd, y3, rfl, rfl⟩ ⟨rfl, hu⟩
      rw [List.getElem?_map] at hu
      obtain ⟨c, _, rfl⟩ := Option.map_eq_some_iff.mp hu
      exact ⟨.int sd, rfl, _, _, rfl, rfl, cmul_r (by decide), .int c, rfl, _, _, rfl, rfl, (by show (0 : Int) < _; decide), _, _, rfl, rfl, _, _, rfl, rfl, _, _, rfl, rfl, (by show (0 : Int) < _; decide), _, _, rfl, rfl⟩
    · rintro σ H2 ⟨sd, y3, rfl, rfl⟩
      have hS1 := s1.seq hS
      refine ⟨.ref a, rfl, a, _, rfl, .inl hS1, _, _, rfl, rfl, _, rfl, ?_⟩
      refine ite_int (fun hlt Q' hq => ?_) (fun _ Q' hq => hq 0) (fun c => ?_)
      · have hlen : (0 : Int) < ((ns.map V.int).length : Int) := of_decide_eq_true hlt
        have h1 := Int.emod_nonneg turn (show ((ns.map V.int).length : Int) ≠ 0 by omega)
        have h2 := Int.emod_lt_of_pos turn hlen
        obtain ⟨j, hj⟩ := Int.eq_ofNat_of_zero_le h1
        obtain ⟨v, hv⟩ := Mow.get_of_lt (l := ns.map V.int) (i := j) (by omega)
        have hv2 := hv
        rw [List.getElem?_map] at hv2
        obtain ⟨c, _, rfl⟩ := Option.map_eq_some_iff.mp hv2
        refine ⟨.ref a, rfl, .int turn, rfl, .ref a, rfl, a, _, rfl, .inl hS1, _, _, rfl, rfl, hlen, a, _, _, .int c, rfl, rfl, hS1, ?_, hq c⟩
        rw [hj]; exact atI_nat hv
      · refine ⟨_, _, rfl, rfl, ⟨by decide, by decide, by decide⟩, _, _, rfl, rfl, ⟨by decide, by decide, by decide⟩, _, _, rfl, rfl, ?_, _, _, rfl, rfl, ⟨by decide, by decide, by decide⟩, _, _, rfl, rfl, ?_, ?_⟩
        · exact wide_mul (a := 200) (b := 200) (by decide +kernel) (by decide +kernel) (by decide) (by decide) (by decide)
        · exact wide_mul (a := 400) (b := 200) (by decide +kernel) (by decide +kernel) (by decide) (by decide) (by decide)
        · refine ⟨.int c, rfl, _, rfl, _, _, rfl, rfl, (Int.mul_pos (Int.mul_pos pow60 pow60) pow60), .int c, rfl, _, _, rfl, rfl, ⟨by decide, by decide, by decide⟩, _, _, rfl, rfl, .inr ⟨_, rfl, ?_⟩⟩
          refine ⟨_, _, rfl, rfl, cmul_r ?_, .int sd, rfl, by show 3 ≤ sizeLine; decide, fun l hl => ?_⟩
          · split <;> decide
          · exact q _ l (s1.trans (same_new hl)) (s1.free hl) ⟨_, _, _, upd_same⟩
end
end MF

set_option autoImplicit false
set_option Elab.async false
set_option linter.all false
set_option maxRecDepth 100000
set_option maxHeartbeats 400000
/-! The law's own: _law_beside, _law_part, _law_grown. -/
namespace MF
open PySem PySem.Spec PyProof.Rows L2
section
variable {P : Program} {w : World} {K : PySem.W.Frag} {mg : Str → Option Value} {base : Heap}
abbrev nLB : List Str := ["_law_cell"]
theorem scLB : FnScope nLB ["_law_cell"] (defScope sLBeside) := ⟨rfl, rfl, rfl, by decide +kernel, rfl, by decide +kernel, by decide +kernel⟩
def spLB : Sp := fun vs H Q _ => ∃ (v : V) (c : Cell), vs = [v] ∧ NK H (ck c) v ∧ ∀ H' l, Same H H' → H l = none → LstV (nkV ck) H' l (Mow.nb c) → Q (.ref l) H'
theorem ok_lb (F : FunD K mg "_law_beside" sLBeside ["_law_cell"]) : Dn P w K mg base 1 "_law_beside" ["_law_cell"] spLB := .of F fun f fd F => by
  refine F.ok scLB (fun vs H Q E h => ?_) (fun cdv A outer s H vs Q E hr h => ?_)
  · obtain ⟨v, c, rfl, _⟩ := h; rfl
  · obtain ⟨v, c, rfl, n, q⟩ := h
    obtain ⟨t, rfl, e⟩ := n.cell
    refine ⟨_, pss_one (ps_ret (pe_lst (pa_cons (pe_tup (pa_cons (pe_op op_sub (pe_ix ix_tup (pv 0) pe_int (fun _ _ => rfl)) pe_int) (pa_cons (pe_ix ix_tup (pv 0) pe_int (fun _ _ => rfl)) pa_nil)))
      (pa_cons (pe_tup (pa_cons (pe_ix ix_tup (pv 0) pe_int (fun _ _ => rfl)) (pa_cons (pe_op op_sub (pe_ix ix_tup (pv 0) pe_int (fun _ _ => rfl)) pe_int) pa_nil)))
      (pa_cons (pe_tup (pa_cons (pe_ix ix_tup (pv 0) pe_int (fun _ _ => rfl)) (pa_cons (pe_op op_add (pe_ix ix_tup (pv 0) pe_int (fun _ _ => rfl)) pe_int) pa_nil)))
      (pa_cons (pe_tup (pa_cons (pe_op op_add (pe_ix ix_tup (pv 0) pe_int (fun _ _ => rfl)) pe_int) (pa_cons (pe_ix ix_tup (pv 0) pe_int (fun _ _ => rfl)) pa_nil))) pa_nil)))))), ?_⟩
    refine ⟨.ref t, rfl, t, _, 0, .int c.1, rfl, rfl, SqT.of e, rfl, _, _, rfl, rfl, .ref t, rfl, t, _, 1, .int c.2, rfl, rfl, SqT.of e, rfl, by show 2 ≤ sizeLine; decide, fun t1 n1 => ?_⟩
    have s1 := same_new (o := .tup [.int (c.1 - 1), .int c.2]) n1
    refine ⟨.ref t, rfl, t, _, 0, .int c.1, rfl, rfl, SqT.of (s1 _ _ e), rfl, .ref t, rfl, t, _, 1, .int c.2, rfl, rfl, SqT.of (s1 _ _ e), rfl, _, _, rfl, rfl, by show 2 ≤ sizeLine; decide, fun t2 n2 => ?_⟩
    have s2 := same_new (o := .tup [.int c.1, .int (c.2 - 1)]) n2
    have e2 := s2 _ _ (s1 _ _ e)
    refine ⟨.ref t, rfl, t, _, 0, .int c.1, rfl, rfl, SqT.of e2, rfl, .ref t, rfl, t, _, 1, .int c.2, rfl, rfl, SqT.of e2, rfl, _, _, rfl, rfl, by show 2 ≤ sizeLine; decide, fun t3 n3 => ?_⟩
    have s3 := same_new (o := .tup [.int c.1, .int (c.2 + 1)]) n3
    have e3 := s3 _ _ e2
    refine ⟨.ref t, rfl, t, _, 0, .int c.1, rfl, rfl, SqT.of e3, rfl, _, _, rfl, rfl, .ref t, rfl, t, _, 1, .int c.2, rfl, rfl, SqT.of e3, rfl, by show 2 ≤ sizeLine; decide, fun t4 n4 => ?_⟩
    have s4 := same_new (o := .tup [.int (c.1 + 1), .int c.2]) n4
    refine ⟨by show 4 ≤ sizeLine; decide, fun p np => ?_⟩
    have s5 := same_new (o := .lst [.ref t1, .ref t2, .ref t3, .ref t4]) np
    have ss := ((s1.trans s2).trans (s3.trans s4)).trans s5
    refine q _ p ss (((s1.trans s2).trans (s3.trans s4)).free np) (LstV.of_nks (out := Mow.nb c) upd_same ?_)
    refine .cons ?_ (.cons ?_ (.cons ?_ (.cons ?_ .nil)))
    · exact NK.mk_cell (s5 _ _ (s4 _ _ (s3 _ _ (s2 _ _ upd_same))))
    · exact NK.mk_cell (s5 _ _ (s4 _ _ (s3 _ _ upd_same)))
    · exact NK.mk_cell (s5 _ _ (s4 _ _ upd_same))
    · exact NK.mk_cell (s5 _ _ upd_same)

theorem nks_shaped {H : Hp} {ks : List NestedKey} {vs : List V} (n : NKs H ks vs) (hd : NestedKey.depthAll ks ≤ 60) : SeqAt.shaped (.list (NestedKey.datas ks)) = true := by
  have h1 : (PyData.list (NestedKey.datas ks)).canLay0 = true := by simp only [PyData.canLay0]; exact NKs.lay ks vs n
  have h2 : (PyData.list (NestedKey.datas ks)).depth ≤ 64 := by simp only [PyData.depth]; rw [depthAll_data]; omega
  unfold SeqAt.shaped
  rw [h1, decide_eq_true h2]; rfl
/-- l != [], l a list of cells -/
theorem rd_nenil {H : Hp} {Q : VK} {l p : Addr} {Cs : List Cell} (L : LstV (nkV ck) H l Cs) (e : H p = some (.lst [])) (q : Q (.bl (!decide (Cs = []))) H) : rNeD K (.ref l) (.ref p) H Q := by
  obtain ⟨acc, a, n⟩ := L.nks
  refine ⟨.list (NestedKey.datas (Cs.map ck)), .list [], .lst (SqL.of a) (NKs.dp _ _ n), .lst (SqL.of e) .nil, nks_shaped n (Nat.le_trans (cks_dep Cs) (by decide)), by decide, ?_⟩
  cases Cs with
  | nil => simpa [NestedKey.datas, PyData.eqv, PyData.eqvAll] using q
  | cons c Cs => simpa [NestedKey.datas, PyData.eqv, PyData.eqvAll] using q
theorem rd_eqnil {H : Hp} {Q : VK} {l p : Addr} {Cs : List Cell} (L : LstV (nkV ck) H l Cs) (e : H p = some (.lst [])) (q : Q (.bl (decide (Cs = []))) H) : rEqD K (.ref l) (.ref p) H Q := by
  obtain ⟨acc, a, n⟩ := L.nks
  refine ⟨.list (NestedKey.datas (Cs.map ck)), .list [], .lst (SqL.of a) (NKs.dp _ _ n), .lst (SqL.of e) .nil, nks_shaped n (Nat.le_trans (cks_dep Cs) (by decide)), by decide, ?_⟩
  cases Cs with
  | nil => simpa [NestedKey.datas, PyData.eqv, PyData.eqvAll] using q
  | cons c Cs => simpa [NestedKey.datas, PyData.eqv, PyData.eqvAll] using q
abbrev nLP : List Str := ["_law_some", "_law_begin", "_law_there", "_law_met", "_law_waiting", "_law_other", "_law_cell"]
theorem scLP : FnScope nLP ["_law_some", "_law_begin"] (defScope sLPart) := ⟨rfl, rfl, rfl, by decide +kernel, rfl, by decide +kernel, by decide +kernel⟩
def spLP : Sp := fun vs H Q _ => ∃ (ls : Addr) (vb : V) (Cs : List Cell) (c : Cell), vs = [.ref ls, vb] ∧ LstV (nkV ck) H ls Cs ∧ NK H (ck c) vb ∧ c ∈ Cs ∧ Cs.length ≤ 1000 ∧
  ∀ H' v p, Same H H' → NK H' (csk p) v → p.Nodup → (∀ x ∈ p, x ∈ Cs) → c ∈ p → Q v H'
def LPartP (P : Program) (w : World) (Cs : List Cell) (c : Cell) (H0 : Hp) (dm lw : Addr) (M W : List Cell) (H : Hp) : Prop :=
  Same H0 H ∧ Dct P w cellR trueV H dm (M.map fun c => (c, ())) ∧ LstV (nkV ck) H lw W ∧ M.Nodup ∧ c ∈ M ∧ (∀ x ∈ M, x ∈ Cs) ∧ W.length ≤ M.length
theorem ok_lp (T : Tx mg) (DB : Dn P w K mg base 1 "_law_beside" ["_law_cell"] spLB) (F : FunD K mg "_law_part" sLPart ["_law_some", "_law_begin"]) : Dn P w K mg base 2 "_law_part" ["_law_some", "_law_begin"] spLP := .of F fun f fd F => by
  refine F.ok scLP (fun vs H Q E h => ?_) (fun cdv A outer s H vs Q E hr h => ?_)
  · obtain ⟨ls, vb, Cs, c, rfl, _⟩ := h; rfl
  · obtain ⟨ls, vb, Cs, c, rfl, L, nb, cC, cz, q⟩ := h
    have hu := room20 hr
    refine ⟨_, pss_cons (ps_set (i := 2) scLP.nd rfl (.inl rfl) (pe_callTy (call_ndict rfl hu) (by rfl) T.dict (by decide +kernel) (pa_cons
        (pe_lc (own := [("_law_cell", 6)]) (g := gName 6) rfl scLP.nd (pi_list (pv 0)) (blkOk_by (N := nLP) (sc := defScope sLPart) (by decide +kernel))
          (fun _ _ _ _ _ => pg_name (i := 6) scLP.nd rfl (Or.inl rfl)) (fun _ _ _ _ _ => pts_nil) (fun _ _ _ _ _ => pe_tup (pa_cons (pv 6) (pa_cons pe_bl pa_nil)))) pa_nil)))
      (pss_cons (ps_set (i := 3) scLP.nd rfl (.inl rfl) (pe_ndisp hu (pps_cons (pv 1) pe_bl pps_nil) rfl rfl (fun z => by cases z) (by show 1 ≤ 15; decide)))
      (pss_cons (ps_set (i := 4) scLP.nd rfl (.inl rfl) (pe_lst (pa_cons (pv 1) pa_nil)))
      (pss_cons (ps_while PassesOwn.never (pt_cmpR (op_neD (room64 hr)) (pv 4) (pe_lst pa_nil) rfl)
        (pss_one (ps_for PassesOwn.never rfl (pi_list (pe_dn DB hr (by rfl) (pa_cons (pe_bm0 PySem.F.plainAttrs_list PySem.F.slot_list_pop PySem.F.type_list_pop mt_pop (pv 4)) pa_nil))) (pg_name (i := 5) scLP.nd rfl (.inl rfl))
          (pss_one (ps_if (PW.pt (pw_and (pt_cmpR (op_ndin hu) (pv 5) (pv 2) rfl) (pw_and1 (pt_cmpR (op_ndnin hu) (pv 5) (pv 3) rfl))))
            (pss_cons (ps_asg pe_bl (pg_sub (pv 3) (pv 5) (set_nd hu))) (pss_one (ps_expr (pe_bm PySem.F.plainAttrs_list PySem.F.slot_list_append PySem.F.type_list_append mt_append (pv 4) (pa_cons (pv 5) pa_nil))))) pss_nil)))))
      (pss_one (ps_ret (pe_callTy call_tupL (by rfl) T.tuple (by decide +kernel) (pa_cons (pe_callB (call_nsortD rfl (room60 hr)) (by rfl) T.sorted (by decide +kernel) (pa_cons (pv 3) pa_nil)) pa_nil))))))), ?_⟩
    obtain ⟨accs, es, ns⟩ := id L.nks
    have hsl : accs.length = Cs.length := ns.lenm
    refine ⟨.ref ls, rfl, ls, rfl, ⟨_, SqL.of es⟩, fun D hD => ?_⟩
    refine lc_map (vr := pairV cellR trueV) (walk_list (xs := accs)) Cs (fun c => (c, ())) hsl.symm (by omega) hD (fun H s => SqL.of (s _ _ es)) ?_ ?_
    · rintro j x a H4 H4' k e ha s4 ⟨rfl, hx⟩ hk
      refine ⟨rfl, t_yes ⟨x, rfl, by show 2 ≤ sizeLine; decide, fun t nt => hk _ _ (same_new nt) ⟨t, x, .bl true, rfl, upd_same, ((ns.at_ hx ha).same s4).same (same_new nt), rfl⟩⟩⟩
    rintro H4 s4 ⟨acc, a1, a2⟩
    refine ⟨Cell, Unit, inferInstance, cellR, trueV, D, acc, _, rfl, a1, a2, fun dt ob2 ndt Dt => ?_⟩
    have hkt : ∀ x, x ∈ (putAll [] (Cs.map fun c => (c, ()))).map (·.1) ↔ x ∈ Cs := fun x => by rw [putAll_keys, map_fst_map]; simp
    generalize putAll [] (Cs.map fun c => (c, ())) = ts at Dt hkt
    have s5 : Same H (upd H4 dt (dno dt ob2)) := s4.trans (same_new ndt)
    generalize upd H4 dt (dno dt ob2) = H5 at s5 Dt
    -- met
    intro dm hdm
    refine ⟨vb, rfl, upd_same, Cell, Unit, inferInstance, cellR, trueV, [(c, ())], .cons ⟨(nb.same s5).same (same_new hdm), rfl⟩ .nil, by show 1 ≤ 15; decide, fun ob Dm => ?_⟩
    have s6 : Same H5 (upd (upd H5 dm (dno dm obj0)) dm (dno dm ob)) := same_mut hdm (same_new hdm)
    generalize upd (upd H5 dm (dno dm obj0)) dm (dno dm ob) = H6 at s6 Dm
    refine ⟨vb, rfl, by show 1 ≤ sizeLine; decide, fun lw hlw => ?_⟩
    have nml : dm ≠ lw := Dm.ne hlw
    have hlw5 : H5 lw = none := s6.free hlw
    have nb6 := (nb.same s5).same s6
    have P0 : LPartP P w Cs c H5 dm lw [c] [c] (upd H6 lw (.lst [vb])) :=
      ⟨s6.trans (same_new hlw), Dm.upd hlw, ⟨[vb], upd_same, .cons (nb6.same (same_new hlw)) .nil⟩, by simp, by simp, fun x hx => by rw [List.mem_singleton.mp hx]; exact cC, Nat.le_refl _⟩
    generalize upd H6 lw (.lst [vb]) = H7 at P0
    refine ⟨fun m σ H2 => ∃ M W y5, σ = [some (.ref ls), some vb, some (.ref dt), some (.ref dm), some (.ref lw), y5, none] ∧ LPartP P w Cs c H5 dm lw M W H2 ∧ m = Cs.length - M.length + W.length,
      ⟨_, [c], [c], none, rfl, P0, rfl⟩, ?_⟩
    rintro m σ H2 ⟨M, W, y5, rfl, ⟨s2, Dm2, Lw, mN, cM, mF, hWM⟩, rfl⟩
    have mz : M.length ≤ Cs.length := Mow.nodup_le mN mF
    refine ⟨.ref lw, rfl, by show 0 ≤ sizeLine; exact Nat.zero_le _, fun le hle => ?_⟩
    have s8 := same_new (o := .lst []) hle
    refine rd_nenil (Lw.same s8) upd_same ⟨_, rfl, ?_⟩
    have Lw8 := Lw.same s8
    have Dm8 := Dm2.same s8
    have s28 := s2.trans s8
    generalize upd H2 le (.lst []) = H8 at s8 Lw8 Dm8 s28
    clear Lw Dm2 s2 hle
    refine t_ite (fun hlt => ?_) (fun hlt => ?_)
    · have hW : W ≠ [] := by simpa using hlt
      obtain ⟨acc', y, W', x, ea, ey, eW, nx, pd⟩ := Lw8.pop hW
      have h3 : W.length = W'.length + 1 := by rw [eW]; simp
      refine ⟨fun σ' H' => ∃ M' W'' y5, σ' = [some (.ref ls), some vb, some (.ref dt), some (.ref dm), some (.ref lw), y5, none] ∧ LPartP P w Cs c H5 dm lw M' W'' H' ∧ Cs.length - M'.length + W''.length < Cs.length - M.length + W.length, ?_, ?_⟩
      · rintro σ' H' ⟨M', W'', y5', e1, e2, e3⟩
        exact ⟨_, e3, M', W'', y5', e1, e2, rfl⟩
      · refine ⟨.ref lw, rfl, .inl ⟨rfl, _, SqL.of ea⟩, lw, acc', y, rfl, rfl, ea, ey, ?_⟩
        have tu : Tu H8 (upd H8 lw (.lst acc'.dropLast)) := Tu.mut ea fun _ z => by cases z
        have s9 : Same H5 (upd H8 lw (.lst acc'.dropLast)) := same_mut hlw5 s28
        have Dm9 : Dct P w cellR trueV (upd H8 lw (.lst acc'.dropLast)) dm (M.map fun c => (c, ())) := Dm8.keep tu (upd_ne nml)
        have Lw9 : LstV (nkV ck) (upd H8 lw (.lst acc'.dropLast)) lw W' := ⟨_, upd_same, Paired.mapP pd fun _ _ z => (nkV ck).mono tu _ _ z⟩
        have nx9 : NK (upd H8 lw (.lst acc'.dropLast)) (ck x) y := NK.tu tu nx
        generalize upd H8 lw (.lst acc'.dropLast) = H9 at s9 Dm9 Lw9 nx9
        refine ⟨y, x, rfl, nx9, fun H10 l s10 hl L10 => ?_⟩
        have hnl : l ≠ lw := fun z => by
          obtain ⟨a9, e9, _⟩ := Lw9
          rw [z, e9] at hl; cases hl
        have hdl : dm ≠ l := Dm9.ne hl
        obtain ⟨accd, ed, nd⟩ := id L10.nks
        have hl4 : accd.length = 4 := by rw [nd.length, List.length_map, Mow.nb_length]
        refine ⟨l, rfl, ⟨_, SqL.of ed⟩, ?_⟩
        refine for_it (walk_list (xs := accd)) (fun i σ' H' => ∃ M' W'' y5, σ' = [some (.ref ls), some vb, some (.ref dt), some (.ref dm), some (.ref lw), y5, none] ∧ LPartP P w Cs c H5 dm lw M' W'' H' ∧ H' l = some (.lst accd) ∧ NKs H' ((Mow.nb x).map ck) accd ∧ M'.length + W'.length = M.length + W''.length)
          ⟨M, W', y5, rfl, ⟨s9.trans s10, Dm9.same s10, Lw9.same s10, mN, cM, mF, by omega⟩, ed, nd, rfl⟩ (fun i σ' H' _ ⟨_, _, _, _, _, e, _⟩ => SqL.of e) ?_ ?_
        · rintro i u σ' H11 H11' hi ⟨M', W'', y5', rfl, ⟨s11, D11, L11, mN11, cM11, mF11, hWM11⟩, e11, n11, hln⟩ ⟨rfl, hu11⟩
          obtain ⟨z, hz, nz⟩ := n11.getm hu11
          refine ⟨u, rfl, .ref dt, rfl, Cell, Unit, inferInstance, cellR, trueV, dt, ts, z, rfl, Dt.same s11, nz, _, rfl, ?_⟩
          refine t_ite (fun hq1 => ?_) (fun hq1 => ?_)
          · have zC : z ∈ Cs := (hkt z).mp (by simpa [ngB] using hq1)
            refine ⟨u, rfl, .ref dm, rfl, Cell, Unit, inferInstance, cellR, trueV, dm, _, z, rfl, D11, nz, _, rfl, ?_⟩
            refine t_ite (fun hq2 => ?_) (fun hq2 => ?_)
            · have zM : z ∉ M' := by simpa [keys_unit, ngB] using hq2
              have hM' : M'.length ≤ Cs.length := Mow.nodup_le mN11 mF11
              refine ⟨.ref dm, rfl, u, rfl, Cell, Unit, inferInstance, cellR, trueV, dm, _, z, (), rfl, D11, nz, rfl, by rw [List.length_map]; exact small_line (by omega), fun ob3 D12 => ?_⟩
              rw [putL_unit zM] at D12
              obtain ⟨o4, c4⟩ := D11.obj
              have tu5 : Tu H11' (upd H11' dm (dno dm ob3)) := Tu.mut c4 dno_tup
              have s12 : Same H5 (upd H11' dm (dno dm ob3)) := same_mut hdm s11
              have L12 := L11.mono tu5 (upd_ne nml.symm)
              have e12 : (upd H11' dm (dno dm ob3)) l = some (.lst accd) := (upd_ne hdl.symm).trans e11
              have n12 := NKs.tu tu5 n11
              have nz12 := NK.tu tu5 nz
              generalize upd H11' dm (dno dm ob3) = H12 at D12 s12 L12 e12 n12 nz12
              obtain ⟨acc5, b1, b2, b3⟩ := L12.push (Same.refl _) (y := u) (b := z) nz12 (by omega)
              refine ⟨.ref lw, rfl, .inl ⟨rfl, _, SqL.of b1⟩, u, rfl, lw, acc5, u, rfl, rfl, b1, b2, ?_⟩
              have tu6 : Tu H12 (upd H12 lw (.lst (acc5 ++ [u]))) := Tu.mut b1 fun _ z => by cases z
              refine ⟨M' ++ [z], W'' ++ [z], some u, rfl, ⟨same_mut hlw5 s12, D12.keep tu6 (upd_ne nml), b3, ?_, List.mem_append_left _ cM11, fun x' hx' => ?_, by simp; omega⟩, (upd_ne hnl).trans e12, NKs.tu tu6 n12, by simp; omega⟩
              · rw [List.nodup_append]
                exact ⟨mN11, by simp, fun a ha b hb e => zM (by rw [List.mem_singleton.mp hb] at e; exact e ▸ ha)⟩
              · rcases List.mem_append.mp hx' with h | h
                · exact mF11 x' h
                · rw [List.mem_singleton.mp h]; exact zC
            · exact ⟨M', W'', some u, rfl, ⟨s11, D11, L11, mN11, cM11, mF11, hWM11⟩, e11, n11, hln⟩
          · exact ⟨M', W'', some u, rfl, ⟨s11, D11, L11, mN11, cM11, mF11, hWM11⟩, e11, n11, hln⟩
        · rintro σ' H11 ⟨M', W'', y5', rfl, P11, e11, n11, hln⟩
          have hM' : M'.length ≤ Cs.length := Mow.nodup_le P11.2.2.2.1 P11.2.2.2.2.2.1
          exact ⟨M', W'', y5', rfl, P11, by omega⟩
    · refine ⟨.ref dm, rfl, Unit, trueV, dm, _, rfl, Dm8, fun ys outV p hp hs hn no => ?_⟩
      rw [keys_unit] at hp
      refine ⟨p, outV, rfl, upd_same, fun l hl => ?_⟩
      have s9 := same_new (o := .lst outV) hn
      exact q _ _ ys (s5.trans (s28.trans (s9.trans (same_new hl)))) (nk_tuple hl (NKs.sameT s9 no)) (hp.nodup_iff.mpr mN) (fun x hx => mF x (hp.mem_iff.mp hx)) (hp.mem_iff.mpr cM)
end
end MF

set_option autoImplicit false
set_option Elab.async false
set_option linter.all false
set_option maxRecDepth 100000
set_option maxHeartbeats 400000
/-! The law's own: _law_grown, _law_field. -/
namespace MF
open PySem PySem.Spec PyProof.Rows L2
section
variable {X : Cx} {st : Stmt} {t : TS}
/-- a statement behind which a fact of one's choice stands -/
def tVia (t : TS) : TS := fun D σ H => ∃ Mid : L2.St → Hp → Prop, t { D with nx := Mid } σ H ∧ ∀ σ' H', Mid σ' H' → D.nx σ' H'
theorem ps_via (h : PS X st t) : PS X st (tVia t) := ⟨fun pins s σ H D I ⟨Mid, h1, h2⟩ => thn (h.run pins s σ H { D with nx := Mid } I h1) fun f s1 q => by
  cases f with
  | next => obtain ⟨σ', H', I', q⟩ := q; exact ⟨σ', H', I', h2 _ _ q⟩
  | ret v => exact q
  | brk => exact q
  | cont => exact q⟩
end
theorem LstV.kp {β : Type} {vr : VR β} {H H' : Hp} {D l : Addr} {out : List β} (L : LstV vr H D out) (k : Kp l H H') (hl : LeftAt H l) (hd : D ≠ l) : LstV vr H' D out := by
  obtain ⟨acc, a, p⟩ := L
  exact ⟨acc, k _ _ a hd, Paired.mapP p fun _ _ z => vr.mono (k.tu hl) _ _ z⟩
/-- cells that a field can be made of -/
def Good (Cs : List Cell) : Prop := Cs ≠ [] ∧ Cs.length ≤ 1000 ∧ ∀ c ∈ Cs, 0 ≤ c.1 ∧ c.1 ≤ 24 ∧ 0 ≤ c.2 ∧ c.2 ≤ 24
section
variable {P : Program} {w : World} {K : PySem.W.Frag} {mg : Str → Option Value} {base : Heap}
abbrev nGrown : List Str := ["_law_left_here", "_law_most", "_law_cells", "_law_k", "_law_other"]
theorem scGrown : FnScope nGrown ["_law_left_here", "_law_most"] (defScope sGrown) := ⟨rfl, rfl, rfl, by decide +kernel, rfl, by decide +kernel, by decide +kernel⟩
def spGrown : Sp := fun vs H Q _ => ∃ (l : Addr), vs = [.ref l, .int 50] ∧ LeftAt H l ∧ ∀ H' D Cs, Kp l H H' → LeftAt H' l → H D = none → LstV (nkV ck) H' D Cs → Good Cs → Q (.ref D) H'
theorem ok_grown (T : Tx mg) (DP : Dn P w K mg base 1 "_law_pick" ["_law_left_here", "_law_many"] spPick) (DB : Dn P w K mg base 1 "_law_beside" ["_law_cell"] spLB) (F : FunD K mg "_law_grown" sGrown ["_law_left_here", "_law_most"]) : Dn P w K mg base 2 "_law_grown" ["_law_left_here", "_law_most"] spGrown := .of F fun f fd F => by
  refine F.ok scGrown (fun vs H Q E h => ?_) (fun cdv A outer s H vs Q E hr h => ?_)
  · obtain ⟨l, rfl, _⟩ := h; rfl
  · obtain ⟨l, rfl, hl, q⟩ := h
    have e65 := room65 hr
    refine ⟨_, pss_cons (ps_set (i := 2) scGrown.nd rfl (.inl rfl) (pe_lst (pa_cons (pe_tup (pa_cons pe_int (pa_cons pe_int pa_nil))) pa_nil)))
      (pss_cons (ps_for PassesOwn.never rfl (pi_range1 (by rfl) T.range (pa_cons (pe_dn DP hr (by rfl) (pa_cons (pv 0) (pa_cons (pv 1) pa_nil))) pa_nil)) (pg_name (i := 3) scGrown.nd rfl (.inl rfl))
        (pss_cons (ps_set (i := 4) scGrown.nd rfl (.inl rfl) (pe_ix ix_list (pe_dn DB hr (by rfl) (pa_cons (pe_ix ix_list (pv 2) (pe_dn DP hr (by rfl) (pa_cons (pv 0) (pa_cons (pe_callB call_len_seq (by rfl) T.len PySem.boot_len (pa_cons (pv 2) pa_nil)) pa_nil))) (fun _ _ => rfl)) pa_nil))
          (pe_dn DP hr (by rfl) (pa_cons (pv 0) (pa_cons pe_int pa_nil))) (fun _ _ => rfl)))
        (pss_one (ps_if (PW.pt (pw_and (pt_cmpR (op_nnin e65) (pv 4) (pv 2) rfl) (pw_and (pt_chain op_le op_le pe_int (pe_ix ix_tup (pv 4) pe_int (fun _ _ => rfl)) pe_int) (pw_and1 (pt_chain op_le op_le pe_int (pe_ix ix_tup (pv 4) pe_int (fun _ _ => rfl)) pe_int)))))
          (pss_one (ps_expr (pe_bm PySem.F.plainAttrs_list PySem.F.slot_list_append PySem.F.type_list_append mt_append (pv 2) (pa_cons (pv 4) pa_nil)))) pss_nil))))
      (pss_one (ps_ret (pv 2)))), ?_⟩
    refine ⟨by show 2 ≤ sizeLine; decide, fun t nt => ⟨by show 1 ≤ sizeLine; decide, fun D nD => ?_⟩⟩
    have s1 := (same_new (o := .tup [.int 12, .int 12]) nt)
    have s2 := same_new (o := .lst [.ref t]) nD
    have hD0 : H D = none := s1.free nD
    have L2 : LstV (nkV ck) (upd (upd H t (.tup [.int 12, .int 12])) D (.lst [.ref t])) D [(12, 12)] := ⟨_, upd_same, .cons (NK.same s2 (NK.mk_cell upd_same)) .nil⟩
    have s12 := s1.trans s2
    have hDl : D ≠ l := hl.ne hD0
    generalize upd (upd H t (.tup [.int 12, .int 12])) D (.lst [.ref t]) = H2 at L2 s12
    refine ⟨.ref l, rfl, .int 50, rfl, l, 50, rfl, hl.same s12, by decide, by decide, fun H3 r k3 l3 r0 r1 => ⟨r, rfl, by omega, by omega, ?_⟩⟩
    have L3 := L2.kp k3 (hl.same s12) hDl
    have k03 : Kp l H H3 := (Kp.of s12).trans k3
    refine for_it (walk_range (lo := 0) (n := r.toNat)) (fun i σ H4 => ∃ (Cs : List Cell) (y3 y4 : Option V), σ = [some (.ref l), some (.int 50), some (.ref D), y3, y4] ∧ Kp l H H4 ∧ LeftAt H4 l ∧ LstV (nkV ck) H4 D Cs ∧ Cs ≠ [] ∧ Cs.length ≤ i + 1 ∧ ∀ c ∈ Cs, 0 ≤ c.1 ∧ c.1 ≤ 24 ∧ 0 ≤ c.2 ∧ c.2 ≤ 24)
      ⟨_, none, none, rfl, k03, l3, L3, by simp, Nat.le_refl _, fun c hc => by rw [List.mem_singleton.mp hc]; decide⟩ (fun _ _ _ _ _ => trivial) ?_ ?_
    · rintro i u σ H4 H4' hi ⟨Cs, y3, y4, rfl, k4, l4, L4, hne, hlen, hrg⟩ ⟨rfl, rfl⟩
      obtain ⟨acc, ea, na⟩ := id L4.nks
      have hal : acc.length = Cs.length := na.lenm
      have hpos : 0 < acc.length := by rw [hal]; exact List.length_pos_iff.mpr hne
      refine ⟨.ref D, rfl, .ref l, rfl, .ref D, rfl, D, acc, rfl, .inl (SqL.of ea), l, acc.length, rfl, l4, by omega, by omega, fun H5 r5 k5 l5 r50 r51 => ?_⟩
      have L5 := L4.kp k5 l4 hDl
      have ea5 := k5 _ _ ea hDl
      have na5 := NKs.tu (k5.tu l4) na
      obtain ⟨j, rfl⟩ := Int.eq_ofNat_of_zero_le r50
      obtain ⟨y, hy⟩ := Mow.get_of_lt (l := acc) (i := j) (by omega)
      obtain ⟨c, hc, nc⟩ := na5.getm hy
      refine ⟨D, acc, j, y, rfl, rfl, SqL.of ea5, atI_nat hy, y, c, rfl, nc, fun H6 lb s6 hlb L6 => ?_⟩
      have hlbl : lb ≠ l := l5.ne hlb
      refine ⟨.ref l, rfl, l, 4, rfl, l5.same s6, by decide, by decide, fun H7 r7 k7 l7 r70 r71 => ?_⟩
      have L7 := L6.kp k7 (l5.same s6) hlbl
      obtain ⟨acb, eb, nb⟩ := id L7.nks
      have hbl : acb.length = 4 := by rw [nb.length, List.length_map, Mow.nb_length]
      obtain ⟨j7, rfl⟩ := Int.eq_ofNat_of_zero_le r70
      obtain ⟨z, hz⟩ := Mow.get_of_lt (l := acb) (i := j7) (by omega)
      obtain ⟨d, hd, nd⟩ := nb.getm hz
      refine ⟨lb, acb, j7, z, rfl, rfl, SqL.of eb, atI_nat hz, ?_⟩
      have L7D := (L5.same s6).kp k7 (l5.same s6) hDl
      have k07 : Kp l H H7 := k4.trans (k5.trans ((Kp.of s6).trans k7))
      obtain ⟨acc7, ea7, na7⟩ := id L7D.nks
      refine ⟨z, rfl, .ref D, rfl, rd_cmem true nd (.inr ea7) na7 ⟨_, rfl, ?_⟩⟩
      obtain ⟨td, rfl, ed⟩ := nd.cell
      have stay : ∃ (Cs : List Cell) (y3 y4 : Option V), [some (V.ref l), some (.int 50), some (.ref D), some (.int (0 + (i : Int))), some (.ref td)] = [some (V.ref l), some (.int 50), some (.ref D), y3, y4] ∧ Kp l H H7 ∧ LeftAt H7 l ∧ LstV (nkV ck) H7 D Cs ∧ Cs ≠ [] ∧ Cs.length ≤ (i + 1) + 1 ∧ ∀ c ∈ Cs, 0 ≤ c.1 ∧ c.1 ≤ 24 ∧ 0 ≤ c.2 ∧ c.2 ≤ 24 :=
        ⟨Cs, _, _, rfl, k07, l7, L7D, hne, by omega, hrg⟩
      refine t_ite (fun _ => ?_) (fun _ => stay)
      refine ⟨.ref td, rfl, td, _, 0, .int d.1, rfl, rfl, SqT.of ed, rfl, _, _, rfl, rfl, _, rfl, ?_⟩
      refine t_ite (fun q1 => ?_) (fun _ => ⟨_, rfl, iteF stay⟩)
      refine ⟨_, _, rfl, rfl, _, rfl, ?_⟩
      refine t_ite (fun q2 => ?_) (fun _ => stay)
      refine ⟨.ref td, rfl, td, _, 1, .int d.2, rfl, rfl, SqT.of ed, rfl, _, _, rfl, rfl, _, rfl, ?_⟩
      refine t_ite (fun q3 => ?_) (fun _ => ⟨_, rfl, iteF stay⟩)
      refine ⟨_, _, rfl, rfl, _, rfl, ?_⟩
      refine t_ite (fun q4 => ?_) (fun _ => stay)
      have d1 : (0 : Int) ≤ d.1 := of_decide_eq_true q1
      have d2 : d.1 ≤ 24 := of_decide_eq_true q2
      have d3 : (0 : Int) ≤ d.2 := of_decide_eq_true q3
      have d4 : d.2 ≤ 24 := of_decide_eq_true q4
      obtain ⟨acc8, b1, b2, b3⟩ := L7D.push (Same.refl _) (y := .ref td) (b := d) nd (by omega)
      refine ⟨.ref D, rfl, .inl ⟨rfl, _, SqL.of b1⟩, .ref td, rfl, D, acc8, .ref td, rfl, rfl, b1, b2, ?_⟩
      refine ⟨Cs ++ [d], _, _, rfl, k07.mut2 hD0, l7.upd hDl, b3, by simp, by rw [List.length_append, List.length_singleton]; omega, fun c' hc' => ?_⟩
      rcases List.mem_append.mp hc' with h | h
      · exact hrg c' h
      · rw [List.mem_singleton.mp h]; exact ⟨d1, d2, d3, d4⟩
    · rintro σ H4 ⟨Cs, y3, y4, rfl, k4, l4, L4, hne, hlen, hrg⟩
      exact ⟨.ref D, rfl, q H4 D Cs k4 l4 hD0 L4 ⟨hne, by omega, hrg⟩⟩
end
end MF

set_option autoImplicit false
set_option Elab.async false
set_option linter.all false
set_option maxRecDepth 100000
set_option maxHeartbeats 400000
/-! The law's own: _law_field. -/
namespace MF
open PySem PySem.Spec PyProof.Rows L2
theorem or_any {c : Bool} {u : TT} {σ : L2.St} {H : Hp} {Q : Bool → Hp → Prop} (h : ∀ b, Q b H) (hu : (∀ b, Q b H) → u σ H Q) : if c = true then Q true H else u σ H Q := by
  cases c with
  | true => rw [if_pos rfl]; exact h true
  | false => rw [if_neg Bool.false_ne_true]; exact hu h
theorem erase_map {α β : Type} (f : α → β) : ∀ (l : List α) (n : Nat), (l.map f).eraseIdx n = (l.eraseIdx n).map f
  | [], _ => rfl
  | _ :: _, 0 => rfl
  | x :: l, n + 1 => by simp only [List.map_cons, List.eraseIdx_cons_succ]; rw [erase_map f l n]
theorem LstV.erase {H : Hp} {D : Addr} {Cs : List Cell} {acc : List V} (L : LstV (nkV ck) H D Cs) (e : H D = some (.lst acc)) (j : Nat) : LstV (nkV ck) (upd H D (.lst (acc.eraseIdx j))) D (Cs.eraseIdx j) := by
  obtain ⟨acc', a, n⟩ := L.nks
  rw [e] at a; cases a
  have tu : Tu H (upd H D (.lst (acc.eraseIdx j))) := Tu.mut e fun _ z => by cases z
  refine LstV.of_nks upd_same ?_
  rw [← erase_map]
  exact NKs.tu tu (NKs.erase j n)
theorem ix_in {n j : Nat} (h : j < n) : ixN n (j : Int) = some j := by
  unfold ixN
  rw [if_pos (Int.natCast_nonneg j), if_pos (by omega), Int.toNat_natCast]
/-- the grid -/
def gridC (wide : Int) (k : Nat) : Cell := ((0 + (k : Int)) / wide, (0 + (k : Int)) % wide)
theorem grid_good {rh rw_ : Int} (h0 : 0 ≤ rh) (h1 : rh < 7) (w0 : 0 ≤ rw_) (w1 : rw_ < 7) : Good ((List.range ((1 + rh) * (1 + rw_)).toNat).map (gridC (1 + rw_))) ∧ (0, 0) ∈ (List.range ((1 + rh) * (1 + rw_)).toNat).map (gridC (1 + rw_)) ∧ 0 < (1 + rh) * (1 + rw_) ∧ (1 + rh) * (1 + rw_) ≤ 49 := by
  have hp : 0 < (1 + rh) * (1 + rw_) := Int.mul_pos (by omega) (by omega)
  have hle : (1 + rh) * (1 + rw_) ≤ 49 := by
    have := Int.mul_le_mul (show 1 + rh ≤ 7 by omega) (show 1 + rw_ ≤ 7 by omega) (by omega) (by omega)
    omega
  have hm : (0, 0) ∈ (List.range ((1 + rh) * (1 + rw_)).toNat).map (gridC (1 + rw_)) := List.mem_map.mpr ⟨0, List.mem_range.mpr (by omega), by unfold gridC; simp⟩
  refine ⟨⟨List.ne_nil_of_mem hm, ?_, fun c hc => ?_⟩, hm, hp, hle⟩
  · rw [List.length_map, List.length_range]; omega
  · obtain ⟨k, hk, rfl⟩ := List.mem_map.mp hc
    have hk' : (k : Int) < (1 + rh) * (1 + rw_) := by have := List.mem_range.mp hk; omega
    unfold gridC
    simp only
    have a1 := Int.ediv_nonneg (show (0 : Int) ≤ 0 + (k : Int) by omega) (show (0 : Int) ≤ 1 + rw_ by omega)
    have a2 : (0 + (k : Int)) / (1 + rw_) < 1 + rh := Int.ediv_lt_of_lt_mul (by omega) (by omega)
    have a3 := Int.emod_nonneg (0 + (k : Int)) (show (1 + rw_ : Int) ≠ 0 by omega)
    have a4 := Int.emod_lt_of_pos (0 + (k : Int)) (show (0 : Int) < 1 + rw_ by omega)
    exact ⟨a1, by omega, a3, by omega⟩
theorem four_vals {r : Int} (h0 : 0 ≤ r) (h1 : r < 4) : ∃ j : Int, atI [V.int 0, .int 0, .int 6, .int 3] r = some (.int j) ∧ 0 ≤ j ∧ j ≤ 6 := by
  have : r = 0 ∨ r = 1 ∨ r = 2 ∨ r = 3 := by omega
  rcases this with z | z | z | z <;> subst z
  · exact ⟨0, rfl, by decide, by decide⟩
  · exact ⟨0, rfl, by decide, by decide⟩
  · exact ⟨6, rfl, by decide, by decide⟩
  · exact ⟨3, rfl, by decide, by decide⟩
section
variable {P : Program} {w : World} {K : PySem.W.Frag} {mg : Str → Option Value} {base : Heap}
abbrev nLField : List Str := ["_law_left_here", "_law_most", "_law_way", "_law_wide", "_law_high", "_law_k", "_law_cells", "_law_part_here", "_law_row", "_law_column", "_law_cell"]
theorem scLField : FnScope nLField ["_law_left_here", "_law_most"] (defScope sLField) := ⟨rfl, rfl, rfl, by decide +kernel, rfl, by decide +kernel, by decide +kernel⟩
def spLField : Sp := fun vs H Q _ => ∃ (l : Addr), vs = [.ref l, .int 50] ∧ LeftAt H l ∧ ∀ H' v Fl, Kp l H H' → LeftAt H' l → NK H' (csk Fl) v → Fl.Nodup → (∀ c ∈ Fl, InR c) → Fl ≠ [] → Fl.length ≤ 1000 → Q v H'
theorem ok_lfield (T : Tx mg) (DP : Dn P w K mg base 1 "_law_pick" ["_law_left_here", "_law_many"] spPick) (DG : Dn P w K mg base 2 "_law_grown" ["_law_left_here", "_law_most"] spGrown) (DL : Dn P w K mg base 2 "_law_part" ["_law_some", "_law_begin"] spLP)
    (F : FunD K mg "_law_field" sLField ["_law_left_here", "_law_most"]) : Dn P w K mg base 3 "_law_field" ["_law_left_here", "_law_most"] spLField := .of F fun f fd F => by
  refine F.ok scLField (fun vs H Q E h => ?_) (fun cdv A outer s H vs Q E hr h => ?_)
  · obtain ⟨l, rfl, _⟩ := h; rfl
  · obtain ⟨l, rfl, hl, q⟩ := h
    have hr1 := hr.mono (show 1 ≤ 2 by decide)
    refine ⟨_, pss_cons (ps_set (i := 2) scLField.nd rfl (.inl rfl) (pe_dn DP hr1 (by rfl) (pa_cons (pv 0) (pa_cons pe_int pa_nil))))
      (pss_cons (ps_set (i := 3) scLField.nd rfl (.inr rfl) (pe_op op_add pe_int (pe_dn DP hr1 (by rfl) (pa_cons (pv 0) (pa_cons pe_int pa_nil)))))
      (pss_cons (ps_set (i := 4) scLField.nd rfl (.inl rfl) (pe_op op_add pe_int (pe_dn DP hr1 (by rfl) (pa_cons (pv 0) (pa_cons (pe_callB (call_max2 rfl) (by rfl) T.max (by decide +kernel) (pa_cons pe_int (pa_cons (pe_callB (call_min2 rfl) (by rfl) T.min (by decide +kernel) (pa_cons pe_int (pa_cons (pe_op op_fdiv (pv 1) (pv 3)) pa_nil))) pa_nil))) pa_nil)))))
      (pss_cons (ps_setLc (i := 6) (own := [("_law_k", 5)]) (g := gName 5) rfl scLField.nd rfl rfl (sw_true rfl rfl rfl (by decide +kernel)) (pi_range1 (by rfl) T.range (pa_cons (pe_op op_mul (pv 4) (pv 3)) pa_nil)) (blkOk_by (N := nLField) (sc := defScope sLField) (by decide +kernel))
          (fun _ _ _ _ _ => pg_name (i := 5) scLField.nd rfl (Or.inl rfl)) (fun _ _ _ _ _ => pts_nil) (fun _ _ _ _ _ => pe_tup (pa_cons (pe_op op_fdiv (pv 5) (pv 3)) (pa_cons (pe_op op_mod (pv 5) (pv 3)) pa_nil))))
      (pss_cons (ps_via (ps_if (PW.pt (pw_or (pt_cmpR op_eq (pv 2) pe_int (nomark _)) (pw_or1 (pt_cmpR op_eq (pv 2) pe_int (nomark _)))))
          (pss_one (ps_for PassesOwn.never rfl (pi_range1 (by rfl) T.range (pa_cons (pe_dn DP hr1 (by rfl) (pa_cons (pv 0) (pa_cons (pe_op op_add pe_int (pe_op op_fdiv (pe_callB call_len_seq (by rfl) T.len PySem.boot_len (pa_cons (pv 6) pa_nil)) pe_int)) pa_nil))) pa_nil)) (pg_name (i := 5) scLField.nd rfl (.inl rfl))
            (pss_one (ps_expr (pe_bm PySem.F.plainAttrs_list PySem.F.slot_list_pop PySem.F.type_list_pop mt_popAt (pv 6) (pa_cons (pe_dn DP hr1 (by rfl) (pa_cons (pv 0) (pa_cons (pe_callB call_len_seq (by rfl) T.len PySem.boot_len (pa_cons (pv 6) pa_nil)) pa_nil))) pa_nil))))))
          (pss_one (ps_if (pt_cmpR op_eq (pv 2) pe_int (nomark _))
            (pss_one (ps_setLc (i := 6) (own := [("_law_cell", 10)]) (g := gName 10) rfl scLField.nd rfl rfl (sw_true rfl rfl rfl (by decide +kernel)) (pi_list (pv 6)) (blkOk_by (N := nLField) (sc := defScope sLField) (by decide +kernel))
              (fun _ _ _ _ _ => pg_name (i := 10) scLField.nd rfl (Or.inl rfl))
              (fun _ _ _ _ _ => pts_one (pt_cmpR op_eq (pe_op op_mul (pe_op op_mod (pe_ix (ix_tupC K rfl) (pv 10) pe_int (fun _ _ => rfl)) pe_int) (pe_op op_mod (pe_op op_mod (pe_ix (ix_tupC K rfl) (pv 10) pe_int (fun _ _ => rfl)) pe_int) pe_int)) pe_int (nomark _))) (fun _ _ _ _ _ => pv 10)))
            (pss_one (ps_if (pt_cmpR op_gt (pv 2) pe_int (nomark _)) (pss_one (ps_set (i := 6) scLField.nd rfl (.inl rfl) (pe_dn DG hr (by rfl) (pa_cons (pv 0) (pa_cons (pv 1) pa_nil))))) pss_nil))))))
      (pss_cons (ps_set (i := 7) scLField.nd rfl (.inl rfl) (pe_dn DL hr (by rfl) (pa_cons (pv 6) (pa_cons (pe_ix ix_list (pv 6) (pe_dn DP hr1 (by rfl) (pa_cons (pv 0) (pa_cons (pe_callB call_len_seq (by rfl) T.len PySem.boot_len (pa_cons (pv 6) pa_nil)) pa_nil))) (fun _ _ => rfl)) pa_nil))))
      (pss_cons (ps_asg (pe_lc (own := [("_law_k", 5)]) (g := gName 5) rfl scLField.nd (pi_range1 (by rfl) T.range (pa_cons pe_int pa_nil)) (blkOk_by (N := nLField) (sc := defScope sLField) (by decide +kernel))
          (fun _ _ _ _ _ => pg_name (i := 5) scLField.nd rfl (Or.inl rfl)) (fun _ _ _ _ _ => pts_nil)
          (fun _ _ _ _ _ => pe_ix (ix_listC K rfl) (pe_lst (pa_cons pe_int (pa_cons pe_int (pa_cons pe_int (pa_cons pe_int pa_nil))))) (pe_dn DP hr1 (by rfl) (pa_cons (pv 0) (pa_cons pe_int pa_nil))) (fun _ _ => rfl)))
        (pg_unl rfl (pgs_cons (pg_name (i := 8) scLField.nd rfl (.inr rfl)) (pgs_cons (pg_name (i := 9) scLField.nd rfl (.inr rfl)) pgs_nil))))
      (pss_one (ps_ret (pe_callTy call_tupL (by rfl) T.tuple (by decide +kernel) (pa_cons
        (pe_lc (own := [("_law_cell", 10)]) (g := gName 10) rfl scLField.nd (pi_tup (pv 7)) (blkOk_by (N := nLField) (sc := defScope sLField) (by decide +kernel))
          (fun _ _ _ _ _ => pg_name (i := 10) scLField.nd rfl (Or.inl rfl)) (fun _ _ _ _ _ => pts_nil)
          (fun _ _ _ _ _ => pe_tup (pa_cons (pe_op op_add (pe_ix (ix_tupC K rfl) (pv 10) pe_int (fun _ _ => rfl)) (pv 8)) (pa_cons (pe_op op_add (pe_ix (ix_tupC K rfl) (pv 10) pe_int (fun _ _ => rfl)) (pv 9)) pa_nil)))) pa_nil)))))))))), ?_⟩
    -- way
    refine ⟨.ref l, rfl, l, 6, rfl, hl, by decide, by decide, fun H1 way k1 l1 _ _ => ?_⟩
    -- wide
    refine ⟨.ref l, rfl, l, 7, rfl, l1, by decide, by decide, fun H2 rw_ k2 l2 w0 w1 => ⟨1, rw_, rfl, rfl, ?_⟩⟩
    -- high
    refine ⟨.ref l, rfl, .int 50, rfl, .int (1 + rw_), rfl, _, _, rfl, rfl, ⟨by omega, by omega⟩, _, _, rfl, _, _, rfl, l, _, rfl, l2, ?_, ?_, fun H3 rh k3 l3 h0 h1 => ⟨1, rh, rfl, rfl, ?_⟩⟩
    · generalize (50 : Int) / (1 + rw_) = d
      split <;> split <;> omega
    · generalize (50 : Int) / (1 + rw_) = d
      split <;> split <;> omega
    have h7 : rh < 7 := by
      generalize (50 : Int) / (1 + rw_) = d at h1
      split at h1 <;> split at h1 <;> omega
    clear h1
    obtain ⟨gG, g00, gp, gle⟩ := grid_good h0 h7 w0 w1
    have k03 := (k1.trans k2).trans k3
    -- cells
    refine ⟨.int (1 + rh), rfl, .int (1 + rw_), rfl, _, _, rfl, rfl, cmul_r ⟨by omega, by omega⟩, _, rfl, by omega, by omega, fun D hD => ?_⟩
    have hgl : ((List.range ((1 + rh) * (1 + rw_)).toNat).map (gridC (1 + rw_))).length ≤ 1000 := gG.2.1
    rw [List.length_map] at hgl
    refine lc_map (vr := nkV ck) walk_range (List.range ((1 + rh) * (1 + rw_)).toNat) (gridC (1 + rw_)) List.length_range (by rw [List.length_range] at hgl; omega) hD (fun _ _ => trivial) ?_ ?_
    · rintro i x a H4 H4' k e ha s4 ⟨rfl, rfl⟩ hk
      have hai : a = i := by
        have := Mow.get_lt ha
        rw [List.length_range] at this
        rw [List.getElem?_range this] at ha
        exact (Option.some.inj ha).symm
      subst hai
      refine ⟨rfl, t_yes ⟨_, rfl, _, rfl, _, _, rfl, rfl, ⟨by omega, by omega⟩, _, rfl, _, rfl, _, _, rfl, rfl, (by show (0 : Int) < _; omega), by show 2 ≤ sizeLine; decide, fun t nt => hk _ _ (same_new nt) (NK.mk_cell upd_same)⟩⟩
    rintro H4 s4 L4
    have hD0 : H D = none := k03.free hl hD l3
    have k04 := k03.trans (Kp.of (l := l) s4)
    have l4 := l3.same s4
    generalize (List.range ((1 + rh) * (1 + rw_)).toNat).map (gridC (1 + rw_)) = Cs0 at gG g00 L4
    clear s4 k03 l3 k3 k2 k1 l1 l2 hD
    have hDl : D ≠ l := hl.ne hD0
    -- one of the four ways
    refine ⟨fun σ H5 => ∃ (D : Addr) (Cs : List Cell) (y5 : Option V), σ = [some (.ref l), some (.int 50), some (.int way), some (.int (1 + rw_)), some (.int (1 + rh)), y5, some (.ref D), none, none, none, none] ∧ Kp l H H5 ∧ LeftAt H5 l ∧ H D = none ∧ LstV (nkV ck) H5 D Cs ∧ Good Cs, ?_, ?_⟩
    · refine ⟨_, rfl, rfl, _, rfl, or_any (fun b => ?_) (fun hb => ⟨_, rfl, rfl, _, rfl, hb _⟩)⟩
      refine t_ite (fun _ => ?_) (fun _ => ?_)
      · -- pops
        obtain ⟨acc, ea, na⟩ := id L4.nks
        have hal : acc.length = Cs0.length := na.lenm
        have hz := gG.2.1
        have hpos : 0 < Cs0.length := List.length_pos_iff.mpr gG.1
        refine ⟨.ref l, rfl, .ref D, rfl, D, acc, rfl, .inl (SqL.of ea), _, _, rfl, rfl, ⟨by decide, by decide⟩, _, _, rfl, rfl, l, _, rfl, l4, by omega, by omega, fun H5 r5 k5 l5 r50 r51 => ⟨r5, rfl, by omega, by omega, ?_⟩⟩
        have L5 := L4.kp k5 l4 hDl
        refine for_it (walk_range (lo := 0) (n := r5.toNat)) (fun i σ H6 => ∃ (Cs : List Cell) (y5 : Option V), σ = [some (.ref l), some (.int 50), some (.int way), some (.int (1 + rw_)), some (.int (1 + rh)), y5, some (.ref D), none, none, none, none] ∧ Kp l H H6 ∧ LeftAt H6 l ∧ LstV (nkV ck) H6 D Cs ∧ Cs.length + i = Cs0.length ∧ ∀ c ∈ Cs, c ∈ Cs0)
          ⟨Cs0, none, rfl, k04.trans k5, l5, L5, rfl, fun c hc => hc⟩ (fun _ _ _ _ _ => trivial) ?_ ?_
        · rintro i u σ H6 H6' hi ⟨Cs, y5, rfl, k6, l6, L6, hlen, hsub⟩ ⟨rfl, rfl⟩
          obtain ⟨acc6, e6, n6⟩ := id L6.nks
          have hal6 : acc6.length = Cs.length := n6.lenm
          refine ⟨.ref D, rfl, .inl ⟨rfl, _, SqL.of e6⟩, .ref l, rfl, .ref D, rfl, D, acc6, rfl, .inl (SqL.of e6), l, acc6.length, rfl, l6, by omega, by omega, fun H7 r7 k7 l7 r70 r71 => ?_⟩
          obtain ⟨j, rfl⟩ := Int.eq_ofNat_of_zero_le r70
          have L7 := L6.kp k7 l6 hDl
          have e7 := k7 _ _ e6 hDl
          obtain ⟨y, hy⟩ := Mow.get_of_lt (l := acc6) (i := j) (by omega)
          refine ⟨D, acc6, j, j, y, rfl, rfl, e7, by omega, by omega, (ixN_seq (ix_in (by omega))).1, hy, ?_⟩
          refine ⟨Cs.eraseIdx j, _, rfl, (k6.trans k7).mut2 hD0, l7.upd hDl, L7.erase e7 j, ?_, fun c hc => hsub c (List.mem_of_mem_eraseIdx hc)⟩
          rw [List.length_eraseIdx_of_lt (by omega)]; omega
        · rintro σ H6 ⟨Cs, y5, rfl, k6, l6, L6, hlen, hsub⟩
          exact ⟨D, Cs, y5, rfl, k6, l6, hD0, L6, fun z => by rw [z, List.length_nil] at hlen; omega, by omega, fun c hc => gG.2.2 c (hsub c hc)⟩
      · refine ⟨_, rfl, rfl, _, rfl, t_ite (fun _ => ?_) (fun _ => ?_)⟩
        · -- a filter
          obtain ⟨acc, ea, na⟩ := id L4.nks
          have hal : acc.length = Cs0.length := na.lenm
          have hz := gG.2.1
          refine ⟨.ref D, rfl, D, rfl, ⟨_, SqL.of ea⟩, fun D2 hD2 => ?_⟩
          refine lc_filter (vr := nkV ck) (walk_list (xs := acc)) Cs0 (fun c => decide (c.1 % 2 * (c.2 % 3 % 2) = 0)) hal.symm (by omega) hD2 (fun H s => SqL.of (s _ _ ea)) ?_ ?_
          · rintro i x c H5 H5' k e hc s5 ⟨rfl, hx⟩ hk he
            have nx := (na.at_ hx hc).same s5
            obtain ⟨t, rfl, et⟩ := id nx.cell
            refine ⟨rfl, .ref t, rfl, t, _, 0, .int c.1, rfl, rfl, SqT.of et, rfl, _, _, rfl, rfl, (by show (0 : Int) < _; decide), .ref t, rfl, t, _, 1, .int c.2, rfl, rfl, SqT.of et, rfl, _, _, rfl, rfl, (by show (0 : Int) < _; decide), _, _, rfl, rfl, (by show (0 : Int) < _; decide), _, _, rfl, rfl, cmul_r ?_, rfl, _, rfl, ?_⟩
            · have h1 := Int.emod_nonneg (c.2 % 3) (show (2 : Int) ≠ 0 by decide)
              have h2 := Int.emod_lt_of_pos (c.2 % 3) (show (0 : Int) < 2 by decide)
              exact ⟨by omega, by omega⟩
            · refine t_ite (fun z => ⟨.ref t, rfl, hk (by simpa using z) _ _ (Same.refl _) nx⟩) (fun z => he (by simpa using z) _ (Same.refl _))
          rintro H5 s5 L5
          exact ⟨D2, _, _, rfl, k04.trans (Kp.of s5), l4.same s5, k04.free hl hD2 l4, L5, List.ne_nil_of_mem (List.mem_filter.mpr ⟨g00, by decide⟩), Nat.le_trans (List.length_filter_le _ _) hz, fun c hc => gG.2.2 c (List.mem_filter.mp hc).1⟩
        · refine ⟨_, rfl, _, _, rfl, rfl, _, rfl, t_ite (fun _ => ?_) (fun _ => ?_)⟩
          · refine ⟨.ref l, rfl, .int 50, rfl, l, rfl, l4, fun H5 D5 Cs5 k5 l5 hD5 L5 G5 => ?_⟩
            exact ⟨D5, Cs5, _, rfl, k04.trans k5, l5, k04.free hl hD5 l4, L5, G5⟩
          · exact ⟨D, Cs0, _, rfl, k04, l4, hD0, L4, gG⟩
    clear L4 l4 k04 gG g00 hDl hD0
    rintro σ H5 ⟨D, Cs, y5, rfl, k5, l5, hD0, L5, ⟨c0, cz, cR⟩⟩
    have hDl : D ≠ l := hl.ne hD0
    -- part
    obtain ⟨acc, ea, na⟩ := id L5.nks
    have hal : acc.length = Cs.length := na.lenm
    have hpos : 0 < Cs.length := List.length_pos_iff.mpr c0
    refine ⟨.ref D, rfl, .ref D, rfl, .ref l, rfl, .ref D, rfl, D, acc, rfl, .inl (SqL.of ea), l, acc.length, rfl, l5, by omega, by omega, fun H6 r6 k6 l6 r60 r61 => ?_⟩
    obtain ⟨j, rfl⟩ := Int.eq_ofNat_of_zero_le r60
    obtain ⟨y, hy⟩ := Mow.get_of_lt (l := acc) (i := j) (by omega)
    have na6 := NKs.tu (k6.tu l5) na
    obtain ⟨c, hc, nc⟩ := na6.getm hy
    refine ⟨D, acc, j, y, rfl, rfl, SqL.of (k6 _ _ ea hDl), atI_nat hy, D, y, Cs, c, rfl, L5.kp k6 l5 hDl, nc, Mow.get_mem hc, cz, fun H7 v p s7 np pN pC cp => ?_⟩
    have k07 : Kp l H H7 := (k5.trans k6).trans (Kp.of s7)
    have l7 := l6.same s7
    obtain ⟨tp, xp, rfl, ep, ap⟩ := np.seq
    have hpl : xp.length = p.length := ap.lenm
    have pz : p.length ≤ Cs.length := Mow.nodup_le pN pC
    -- row, column
    refine ⟨2, rfl, by decide, by decide, fun D2 hD2 => ?_⟩
    have hD2l : D2 ≠ l := l7.ne hD2
    refine lc_it (walk_range (lo := 0) (n := (2 : Int).toNat)) (fun i H8 => Kp l H7 H8 ∧ LeftAt H8 l ∧ ∃ acc, H8 D2 = some (.lst acc) ∧ acc.length = i ∧ ∀ v ∈ acc, ∃ j : Int, v = .int j ∧ 0 ≤ j ∧ j ≤ 6) ⟨(Kp.refl l H7).mut2 hD2, l7.upd hD2l, [], upd_same, rfl, fun v hv => by simp at hv⟩ (fun _ _ _ _ => trivial) ?_ ?_
    · rintro i x H8 H8' hi ⟨k8, l8, acc8, e8, hl8, hv8⟩ ⟨rfl, rfl⟩
      refine ⟨rfl, t_yes ⟨by show 4 ≤ sizeLine; decide, fun p4 np4 => ?_⟩⟩
      have s9 := same_new (o := .lst [.int 0, .int 0, .int 6, .int 3]) np4
      have e9 : (upd H8' p4 (.lst [.int 0, .int 0, .int 6, .int 3])) p4 = some (.lst [.int 0, .int 0, .int 6, .int 3]) := upd_same
      have hp4 : p4 ≠ l := l8.ne np4
      refine ⟨.ref l, rfl, l, 4, rfl, l8.same s9, by decide, by decide, fun H9 r9 k9 l9 r90 r91 => ?_⟩
      obtain ⟨jv, hjv, j0, j6⟩ := four_vals r90 r91
      refine ⟨p4, _, r9, .int jv, rfl, rfl, SqL.of (k9 _ _ e9 hp4), hjv, acc8, k9 _ _ (s9 _ _ e8) hD2l, small_line (by omega), ?_⟩
      have hi2 : i < 2 := hi
      refine ⟨((k8.trans (Kp.of s9)).trans k9).mut2 hD2, l9.upd hD2l, acc8 ++ [.int jv], upd_same, by rw [List.length_append, hl8]; rfl, fun v hv => ?_⟩
      rcases List.mem_append.mp hv with h | h
      · exact hv8 v h
      · exact ⟨jv, List.mem_singleton.mp h, j0, j6⟩
    rintro H8 ⟨k8, l8, acc8, e8, hl8, hv8⟩
    match acc8, hl8, e8, hv8 with
    | [v1, v2], _, e8, hv8 =>
      obtain ⟨j1, rfl, a1, a2⟩ := hv8 v1 (by simp)
      obtain ⟨j2, rfl, b1, b2⟩ := hv8 v2 (by simp)
      refine ⟨D2, _, rfl, SqL.of e8, rfl, _, _, rfl, _, _, rfl, rfl, ?_⟩
      have ap8 := NKs.tu (k8.tu l7) ap
      have htl : tp ≠ l := fun z => l7.ntup xp (z ▸ ep)
      have ep8 := k8 _ _ ep htl
      refine ⟨.ref tp, rfl, tp, rfl, ⟨_, SqT.of ep8⟩, fun D9 hD9 => ?_⟩
      refine lc_map (vr := nkV ck) (walk_tup (xs := xp)) p (fun c => (c.1 + j1, c.2 + j2)) hpl.symm (by omega) hD9 (fun H s => SqT.of (s _ _ ep8)) ?_ ?_
      · rintro i x c H9 H9' k e hc s9 ⟨rfl, hx⟩ hk
        have nx := (ap8.at_ hx hc).same s9
        obtain ⟨t, rfl, et⟩ := nx.cell
        exact ⟨rfl, t_yes ⟨.ref t, rfl, t, _, 0, .int c.1, rfl, rfl, SqT.of et, rfl, _, rfl, _, _, rfl, rfl, .ref t, rfl, t, _, 1, .int c.2, rfl, rfl, SqT.of et, rfl, _, rfl, _, _, rfl, rfl, by show 2 ≤ sizeLine; decide, fun t2 nt2 => hk _ _ (same_new nt2) (NK.mk_cell upd_same)⟩⟩
      rintro H9 s9 L9
      obtain ⟨acc9, c1, c2⟩ := L9.nks
      refine ⟨D9, acc9, rfl, c1, fun lf hlf => ?_⟩
      have s10 := same_new (o := .tup acc9) hlf
      refine q _ _ (p.map fun c => (c.1 + j1, c.2 + j2)) ((k07.trans k8).trans (Kp.of (s9.trans s10))) (l8.same (s9.trans s10)) (nk_tuple hlf c2) ?_ (fun c hc => ?_) (fun z => ?_) (by rw [List.length_map]; omega)
      · rw [List.nodup_iff_pairwise_ne] at *
        refine List.pairwise_map.mpr (pN.imp fun h z => h ?_)
        exact Prod.ext (by have := (Prod.mk.inj z).1; omega) (by have := (Prod.mk.inj z).2; omega)
      · obtain ⟨d, hd, rfl⟩ := List.mem_map.mp hc
        obtain ⟨r1, r2, r3, r4⟩ := cR d (pC d hd)
        exact ⟨by simp only; omega, by simp only; omega, by simp only; omega, by simp only; omega⟩
      · have := List.map_eq_nil_iff.mp z
        rw [this] at cp
        simp at cp
end
end MF

set_option autoImplicit false
set_option Elab.async false
set_option linter.all false
set_option maxRecDepth 100000
set_option maxHeartbeats 400000
/-! The law's own: _law_apart, _law_together, _law_turned. -/
namespace MF
open PySem PySem.Spec PyProof.Rows L2
section
variable {P : Program} {w : World} {K : PySem.W.Frag} {mg : Str → Option Value} {base : Heap}
abbrev nLA : List Str := ["_law_left_here", "_law_field_here", "_law_a", "_law_some", "_law_cell"]
theorem scLA : FnScope nLA ["_law_left_here", "_law_field_here"] (defScope sLApart) := ⟨rfl, rfl, rfl, by decide +kernel, rfl, by decide +kernel, by decide +kernel⟩
def spLA : Sp := fun vs H Q _ => ∃ (l : Addr) (vf : V) (Fl : List Cell), vs = [.ref l, vf] ∧ LeftAt H l ∧ NK H (csk Fl) vf ∧ Fl ≠ [] ∧ Fl.length ≤ 1000 ∧ (∀ H', Kp l H H' → LeftAt H' l → Q .non H') ∧
  ∀ H' t va vb a b, Kp l H H' → LeftAt H' l → H' t = some (.tup [va, vb]) → NK H' (ck a) va → NK H' (ck b) vb → a ∈ Fl → b ∈ Fl → a ≠ b → b ∉ Mow.nb a → Q (.ref t) H'
theorem ok_la (T : Tx mg) (DP : Dn P w K mg base 1 "_law_pick" ["_law_left_here", "_law_many"] spPick) (DB : Dn P w K mg base 1 "_law_beside" ["_law_cell"] spLB) (F : FunD K mg "_law_apart" sLApart ["_law_left_here", "_law_field_here"]) : Dn P w K mg base 2 "_law_apart" ["_law_left_here", "_law_field_here"] spLA := .of F fun f fd F => by
  refine F.ok scLA (fun vs H Q E h => ?_) (fun cdv A outer s H vs Q E hr h => ?_)
  · obtain ⟨l, vf, Fl, rfl, _⟩ := h; rfl
  · obtain ⟨l, vf, Fl, rfl, hl, nf, f0, fz, q0, q⟩ := h
    have e64 := room64 hr
    have e65 := room65 hr
    refine ⟨_, pss_cons (ps_set (i := 2) scLA.nd rfl (.inr rfl) (pe_ix ix_tup (pv 1) (pe_dn DP hr (by rfl) (pa_cons (pv 0) (pa_cons (pe_callB call_len_seq (by rfl) T.len PySem.boot_len (pa_cons (pv 1) pa_nil)) pa_nil))) (fun _ _ => rfl)))
      (pss_cons (ps_setLc (i := 3) (own := [("_law_cell", 4)]) (g := gName 4) rfl scLA.nd rfl rfl (sw_true rfl rfl rfl (by decide +kernel)) (pi_tup (pv 1)) (blkOk_by (N := nLA) (sc := defScope sLApart) (by decide +kernel))
          (fun _ _ _ _ _ => pg_name (i := 4) scLA.nd rfl (Or.inl rfl)) (fun _ _ _ _ _ => pts_one (PW.pt (pw_and (pt_cmpR (op_nneT e64) (pv 4) (pv 2) rfl) (pw_and1 (pt_cmpR (op_nnin e65) (pv 4) (pe_dn DB hr (by rfl) (pa_cons (pv 2) pa_nil)) rfl))))) (fun _ _ _ _ _ => pv 4))
      (pss_cons (ps_if (pt_cmpR (op_eqD e64) (pv 3) (pe_lst pa_nil) rfl) (pss_one (ps_ret pe_non)) pss_nil)
      (pss_one (ps_ret (pe_tup (pa_cons (pv 2) (pa_cons (pe_ix ix_list (pv 3) (pe_dn DP hr (by rfl) (pa_cons (pv 0) (pa_cons (pe_callB call_len_seq (by rfl) T.len PySem.boot_len (pa_cons (pv 3) pa_nil)) pa_nil))) (fun _ _ => rfl)) pa_nil))))))), ?_⟩
    obtain ⟨tf, xf, rfl, ef, af⟩ := nf.seq
    have hfl : xf.length = Fl.length := af.lenm
    have hpos : 0 < Fl.length := List.length_pos_iff.mpr f0
    refine ⟨.ref tf, rfl, .ref l, rfl, .ref tf, rfl, tf, xf, rfl, .inr (SqT.of ef), l, xf.length, rfl, hl, by omega, by omega, fun H1 r1 k1 l1 r10 r11 => ?_⟩
    obtain ⟨j, rfl⟩ := Int.eq_ofNat_of_zero_le r10
    obtain ⟨va, hva⟩ := Mow.get_of_lt (l := xf) (i := j) (by omega)
    obtain ⟨a, ha, na⟩ := af.getm hva
    have htf : tf ≠ l := fun z => hl.ntup xf (z ▸ ef)
    have ef1 := k1 _ _ ef htf
    have af1 := NKs.tu (k1.tu hl) af
    have na1 := NK.tu (k1.tu hl) na
    refine ⟨tf, xf, j, va, rfl, rfl, SqT.of ef1, atI_nat hva, ?_⟩
    refine ⟨.ref tf, rfl, tf, rfl, ⟨_, SqT.of ef1⟩, fun D hD => ?_⟩
    refine lc_filter (vr := nkV ck) (walk_tup (xs := xf)) Fl (fun c => !decide (c = a) && !decide (c ∈ Mow.nb a)) hfl.symm (by omega) hD (fun H s => SqT.of (s _ _ ef1)) ?_ ?_
    · rintro i x c H2 H2' k e hc s2 ⟨rfl, hx⟩ hk he
      have nx := (af1.at_ hx hc).same s2
      have na2 := na1.same s2
      refine ⟨rfl, x, rfl, va, rfl, rd_ceq true nx na2 ⟨_, rfl, ?_⟩⟩
      refine t_ite (fun z1 => ?_) (fun z1 => ?_)
      · have z1' : decide (c = a) = false := by simpa [ngB] using z1
        refine ⟨x, rfl, va, rfl, va, a, rfl, na2, fun H3 lb s3 hlb L3 => ?_⟩
        obtain ⟨acb, eb, nb⟩ := L3.nks
        refine rd_cmem true (nx.same s3) (.inr eb) nb ⟨_, rfl, ?_⟩
        refine t_ite (fun z2 => ?_) (fun z2 => ?_)
        · exact ⟨x, rfl, hk (by rw [z1']; simpa [ngB] using z2) _ _ s3 (nx.same s3)⟩
        · exact he (by rw [z1']; simpa [ngB] using z2) _ s3
      · have z1' : decide (c = a) = true := by simpa [ngB] using z1
        exact he (by rw [z1']; rfl) _ (Same.refl _)
    rintro H2 s2 L2
    refine ⟨.ref D, rfl, by show 0 ≤ sizeLine; exact Nat.zero_le _, fun le hle => ?_⟩
    have s3 := same_new (o := .lst []) hle
    refine rd_eqnil (L2.same s3) upd_same ⟨_, rfl, ?_⟩
    have L3 := L2.same s3
    have s13 := s2.trans s3
    generalize upd H2 le (.lst []) = H3 at s3 L3 s13
    have k03 : Kp l H H3 := k1.trans (Kp.of s13)
    have l3 := l1.same s13
    refine t_ite (fun _ => q0 H3 k03 l3) (fun hq => ?_)
    have hne : (Fl.filter fun c => !decide (c = a) && !decide (c ∈ Mow.nb a)) ≠ [] := of_decide_eq_false hq
    have hlen : (Fl.filter fun c => !decide (c = a) && !decide (c ∈ Mow.nb a)).length ≤ Fl.length := List.length_filter_le _ _
    have hmem : ∀ c ∈ Fl.filter fun c => !decide (c = a) && !decide (c ∈ Mow.nb a), c ∈ Fl ∧ c ≠ a ∧ c ∉ Mow.nb a := fun c hc => by
      obtain ⟨h1, h2⟩ := List.mem_filter.mp hc
      rw [Bool.and_eq_true, Bool.not_eq_true', Bool.not_eq_true', decide_eq_false_iff_not, decide_eq_false_iff_not] at h2
      exact ⟨h1, h2.1, h2.2⟩
    generalize (Fl.filter fun c => !decide (c = a) && !decide (c ∈ Mow.nb a)) = Bs at L3 hne hlen hmem
    have hDl : D ≠ l := l1.ne hD
    obtain ⟨acc, ea, nA⟩ := id L3.nks
    have hal : acc.length = Bs.length := nA.lenm
    have hbp : 0 < Bs.length := List.length_pos_iff.mpr hne
    refine ⟨va, rfl, .ref D, rfl, .ref l, rfl, .ref D, rfl, D, acc, rfl, .inl (SqL.of ea), l, acc.length, rfl, l3, by omega, by omega, fun H4 r4 k4 l4 r40 r41 => ?_⟩
    obtain ⟨j4, rfl⟩ := Int.eq_ofNat_of_zero_le r40
    obtain ⟨vb, hvb⟩ := Mow.get_of_lt (l := acc) (i := j4) (by omega)
    obtain ⟨b, hb, nb⟩ := nA.getm hvb
    refine ⟨D, acc, j4, vb, rfl, rfl, SqL.of (k4 _ _ ea hDl), atI_nat hvb, by show 2 ≤ sizeLine; decide, fun t nt => ?_⟩
    have s5 := same_new (o := .tup [va, vb]) nt
    obtain ⟨m1, m2, m3⟩ := hmem b (Mow.get_mem hb)
    exact q _ t va vb a b (k03.trans (k4.trans (Kp.of s5))) (l4.same s5) upd_same (NK.same s5 (NK.tu (k4.tu l3) (na1.same s13))) (NK.same s5 (NK.tu (k4.tu l3) nb)) (Mow.get_mem ha) m1 (Ne.symm m2) m3

abbrev nTog : List Str := ["_law_some", "_law_a", "_law_b", "_law_part_here"]
theorem scTog : FnScope nTog ["_law_some", "_law_a", "_law_b"] (defScope sTogether) := ⟨rfl, rfl, rfl, by decide +kernel, rfl, by decide +kernel, by decide +kernel⟩
def spTog : Sp := fun vs H Q _ => ∃ (ls : Addr) (va vb : V) (Cs : List Cell) (a b : Cell), vs = [.ref ls, va, vb] ∧ LstV (nkV ck) H ls Cs ∧ NK H (ck a) va ∧ NK H (ck b) vb ∧ Cs.Nodup ∧ (∀ c ∈ Cs, InR c) ∧ Cs.length ≤ 1000 ∧
  ∀ H' r, Same H H' → (r = true ↔ Mow.Reach Cs a b) → Q (.bl r) H'
theorem ok_tog (T : Tx mg) (DPS : Dn P w K mg base 3 "parts" ["floor"] spParts) (F : FunD K mg "_law_together" sTogether ["_law_some", "_law_a", "_law_b"]) : Dn P w K mg base 4 "_law_together" ["_law_some", "_law_a", "_law_b"] spTog := .of F fun f fd F => by
  refine F.ok scTog (fun vs H Q E h => ?_) (fun cdv A outer s H vs Q E hr h => ?_)
  · obtain ⟨ls, va, vb, Cs, a, b, rfl, _⟩ := h; rfl
  · obtain ⟨ls, va, vb, Cs, a, b, rfl, L, na, nb, cN, cR, cz, q⟩ := h
    refine ⟨_, pss_one (ps_ret (pe_callB (call_any rfl) (by rfl) T.any (by decide +kernel) (pa_cons
      (pe_lc (own := [("_law_part_here", 3)]) (g := gName 3) rfl scTog.nd (pi_tup (pe_dn DPS hr (by rfl) (pa_cons (pe_callTy call_tupL (by rfl) T.tuple (by decide +kernel) (pa_cons (pv 0) pa_nil)) pa_nil))) (blkOk_by (N := nTog) (sc := defScope sTogether) (by decide +kernel))
        (fun _ _ _ _ _ => pg_name (i := 3) scTog.nd rfl (Or.inl rfl)) (fun _ _ _ _ _ => pts_nil)
        (fun _ _ _ _ _ => pe_and (pe_cmpR (op_nin (room65 hr)) (pv 1) (pv 3) rfl) (pe_one (pe_cmpR (op_nin (room65 hr)) (pv 2) (pv 3) rfl)))) pa_nil))), ?_⟩
    obtain ⟨acc, ea, nA⟩ := id L.nks
    refine ⟨.ref ls, rfl, ls, acc, rfl, ea, fun l hl => ?_⟩
    have s4 := same_new (o := .tup acc) hl
    have nl := nk_tuple hl nA
    generalize upd H l (.tup acc) = H4 at s4 nl
    refine ⟨.ref l, Cs, rfl, nl, cN, cR, cz, fun H5 u Ps s5 nu hP hpl => ?_⟩
    obtain ⟨tp, xp, rfl, ep, ap⟩ := nu.seq
    have hpl2 : xp.length = Ps.length := ap.lenm
    refine ⟨tp, rfl, ⟨_, SqT.of ep⟩, fun D6 hD6 => ?_⟩
    refine lc_map (vr := blV) (walk_tup (xs := xp)) Ps (fun p => decide (a ∈ p) && decide (b ∈ p)) hpl2.symm (by omega) hD6 (fun H s => SqT.of (s _ _ ep)) ?_ ?_
    · rintro i x p H6 H6' k e hp s6 ⟨rfl, hx⟩ hk
      have np := (ap.at_ hx hp).same s6
      have ss : Same H H6' := s4.trans (s5.trans s6)
      refine ⟨rfl, t_yes ⟨va, rfl, x, rfl, rd_cmemT false (na.same ss) np ⟨_, rfl, ?_⟩⟩⟩
      refine t_ite (fun z => ?_) (fun z => ?_)
      · refine ⟨vb, rfl, x, rfl, rd_cmemT false (nb.same ss) np ?_⟩
        have z' : decide (a ∈ p) = true := z
        refine hk _ _ (Same.refl _) ?_
        show V.bl (decide (b ∈ p)) = V.bl (decide (a ∈ p) && decide (b ∈ p))
        rw [z', Bool.true_and]
      · have z' : decide (a ∈ p) = false := z
        refine hk _ _ (Same.refl _) ?_
        show V.bl false = V.bl (decide (a ∈ p) && decide (b ∈ p))
        rw [z', Bool.false_and]
    rintro H6 s6 L6
    refine ⟨_, _, rfl, L6, q _ _ (s4.trans (s5.trans s6)) ?_⟩
    rw [any_map_iff]
    constructor
    · rintro ⟨p, hp, h⟩
      rw [Bool.and_eq_true, decide_eq_true_eq, decide_eq_true_eq] at h
      obtain ⟨c, hc, hr⟩ := hP.1 p hp
      exact ((hr a).mp h.1).symm.trans ((hr b).mp h.2)
    · intro h
      obtain ⟨p, hp, hap⟩ := hP.2 a h.left
      obtain ⟨c, hc, hr⟩ := hP.1 p hp
      exact ⟨p, hp, by rw [Bool.and_eq_true, decide_eq_true_eq, decide_eq_true_eq]; exact ⟨hap, (hr b).mpr (((hr a).mp hap).trans h)⟩⟩

abbrev nTurned : List Str := ["_law_cells", "_law_row", "_law_column"]
theorem scTurned : FnScope nTurned ["_law_cells"] (defScope sTurned) := ⟨rfl, rfl, rfl, by decide +kernel, rfl, by decide +kernel, by decide +kernel⟩
def spTurned : Sp := fun vs H Q _ => ∃ (p : Addr) (xs : List V) (Cs : List Cell), vs = [.ref p] ∧ (H p = some (.tup xs) ∨ H p = some (.lst xs)) ∧ NKs H (Cs.map ck) xs ∧ Cs.length ≤ 1000 ∧ ∀ H' v, Same H H' → NK H' (csk (Cs.map Mow.sw)) v → Q v H'
theorem ok_turned (T : Tx mg) (F : FunD K mg "_law_turned" sTurned ["_law_cells"]) : Dn P w K mg base 1 "_law_turned" ["_law_cells"] spTurned := .of F fun f fd F => by
  refine F.ok scTurned (fun vs H Q E h => ?_) (fun cdv A outer s H vs Q E hr h => ?_)
  · obtain ⟨p, xs, Cs, rfl, _⟩ := h; rfl
  · obtain ⟨p, xs, Cs, rfl, hp, n, cz, q⟩ := h
    have hl : xs.length = Cs.length := n.lenm
    rcases hp with hp | hp
    · refine ⟨_, pss_one (ps_ret (pe_callTy call_tupL (by rfl) T.tuple (by decide +kernel) (pa_cons
        (pe_lc (own := [("_law_row", 1), ("_law_column", 2)]) (g := gTup K 2 _) rfl scTurned.nd (pi_tup (pv 0)) (blkOk_by (N := nTurned) (sc := defScope sTurned) (by decide +kernel))
          (fun _ _ _ _ _ => pg_tupC K rfl rfl (pgs_cons (pg_name (i := 1) scTurned.nd rfl (Or.inl rfl)) (pgs_cons (pg_name (i := 2) scTurned.nd rfl (Or.inl rfl)) pgs_nil))) (fun _ _ _ _ _ => pts_nil)
          (fun _ _ _ _ _ => pe_tup (pa_cons (pv 2) (pa_cons (pv 1) pa_nil)))) pa_nil))), ?_⟩
      refine ⟨.ref p, rfl, p, rfl, ⟨_, SqT.of hp⟩, fun D hD => ?_⟩
      refine lc_map (vr := nkV ck) (walk_tup (xs := xs)) Cs Mow.sw hl.symm (by omega) hD (fun H s => SqT.of (s _ _ hp)) ?_ ?_
      · rintro i x c H2 H2' k e hc s2 ⟨rfl, hx⟩ hk
        obtain ⟨t, rfl, et⟩ := ((n.at_ hx hc).same s2).cell
        exact ⟨t, _, rfl, SqT.of et, rfl, _, _, rfl, _, _, rfl, rfl, rfl, t_yes ⟨_, rfl, _, rfl, by show 2 ≤ sizeLine; decide, fun t2 nt2 => hk _ _ (same_new nt2) (NK.mk_cell upd_same)⟩⟩
      rintro H2 s2 L2
      obtain ⟨acc, a1, a2⟩ := L2.nks
      exact ⟨D, acc, rfl, a1, fun l hl => q _ _ (s2.trans (same_new hl)) (nk_tuple hl a2)⟩
    · refine ⟨_, pss_one (ps_ret (pe_callTy call_tupL (by rfl) T.tuple (by decide +kernel) (pa_cons
        (pe_lc (own := [("_law_row", 1), ("_law_column", 2)]) (g := gTup K 2 _) rfl scTurned.nd (pi_list (pv 0)) (blkOk_by (N := nTurned) (sc := defScope sTurned) (by decide +kernel))
          (fun _ _ _ _ _ => pg_tupC K rfl rfl (pgs_cons (pg_name (i := 1) scTurned.nd rfl (Or.inl rfl)) (pgs_cons (pg_name (i := 2) scTurned.nd rfl (Or.inl rfl)) pgs_nil))) (fun _ _ _ _ _ => pts_nil)
          (fun _ _ _ _ _ => pe_tup (pa_cons (pv 2) (pa_cons (pv 1) pa_nil)))) pa_nil))), ?_⟩
      refine ⟨.ref p, rfl, p, rfl, ⟨_, SqL.of hp⟩, fun D hD => ?_⟩
      refine lc_map (vr := nkV ck) (walk_list (xs := xs)) Cs Mow.sw hl.symm (by omega) hD (fun H s => SqL.of (s _ _ hp)) ?_ ?_
      · rintro i x c H2 H2' k e hc s2 ⟨rfl, hx⟩ hk
        obtain ⟨t, rfl, et⟩ := ((n.at_ hx hc).same s2).cell
        exact ⟨t, _, rfl, SqT.of et, rfl, _, _, rfl, _, _, rfl, rfl, rfl, t_yes ⟨_, rfl, _, rfl, by show 2 ≤ sizeLine; decide, fun t2 nt2 => hk _ _ (same_new nt2) (NK.mk_cell upd_same)⟩⟩
      rintro H2 s2 L2
      obtain ⟨acc, a1, a2⟩ := L2.nks
      exact ⟨D, acc, rfl, a1, fun l hl => q _ _ (s2.trans (same_new hl)) (nk_tuple hl a2)⟩
end
end MF

set_option autoImplicit false
set_option Elab.async false
set_option linter.all false
set_option maxRecDepth 100000
set_option maxHeartbeats 400000
/-! Plain facts that the law's end needs. -/
namespace MF
open Mow (sw Barred Adj clt wlt)
theorem zip_ix {α : Type} {l : List α} {p : α × α} (h : p ∈ l.zip (l.drop 1)) : ∃ i, l[i]? = some p.1 ∧ l[i + 1]? = some p.2 := by
  obtain ⟨i, hi⟩ := List.mem_iff_getElem?.mp h
  exact ⟨i, zip_get hi⟩
theorem pair_ix {α : Type} {R : α → α → Prop} {l : List α} (h : l.Pairwise R) {i : Nat} {x y : α} (hx : l[i]? = some x) (hy : l[i + 1]? = some y) : R x y := by
  obtain ⟨h1, e1⟩ := List.getElem?_eq_some_iff.mp hx
  obtain ⟨h2, e2⟩ := List.getElem?_eq_some_iff.mp hy
  have := List.pairwise_iff_getElem.mp h i (i + 1) h1 h2 (Nat.lt_succ_self i)
  rwa [e1, e2] at this
theorem rise_of {ys : List Cell} (hs : SrtO.Srtd clt ys) (hn : ys.Nodup) : Rise ys := by
  intro p hp
  obtain ⟨i, h1, h2⟩ := zip_ix hp
  have a := pair_ix hs h1 h2
  have b := pair_ix (List.nodup_iff_pairwise_ne.mp hn) h1 h2
  cases e : clt p.1 p.2 with
  | true => rfl
  | false => exact absurd (Mow.clt_tri e a) b
theorem wrise_of {ys : List (List Cell)} (hs : SrtO.Srtd wlt ys) (hn : ys.Nodup) : ∀ p ∈ ys.zip (ys.drop 1), wlt p.1 p.2 = true := by
  intro p hp
  obtain ⟨i, h1, h2⟩ := zip_ix hp
  have a := pair_ix hs h1 h2
  have b := pair_ix (List.nodup_iff_pairwise_ne.mp hn) h1 h2
  cases e : wlt p.1 p.2 with
  | true => rfl
  | false => exact absurd (Mow.wlt_tri e a) b
theorem map_sw_nodup {l : List Cell} (h : l.Nodup) : (l.map sw).Nodup := by
  rw [List.nodup_iff_pairwise_ne] at *
  exact List.pairwise_map.mpr (h.imp fun h z => h (Mow.sw_inj z))
theorem map_sw_inj {l m : List Cell} (h : l.map sw = m.map sw) : l = m := by
  have := congrArg (List.map sw) h
  rw [List.map_map, List.map_map] at this
  simpa [Function.comp_def, Mow.sw_sw] using this
theorem mem_map_sw {l : List Cell} {x : Cell} : sw x ∈ l.map sw ↔ x ∈ l := by
  constructor
  · intro h
    obtain ⟨y, hy, e⟩ := List.mem_map.mp h
    rw [← Mow.sw_inj e]; exact hy
  · exact fun h => List.mem_map.mpr ⟨x, h, rfl⟩
theorem mid_map (l : List Cell) : mid (l.map sw) = (mid l).map sw := by
  unfold mid
  rw [← List.map_drop, ← List.map_take, List.length_map]
/-- a way's inner cells are neither its first nor its last -/
theorem mid_not {l : List Cell} {a b : Cell} (hn : l.Nodup) (h0 : l[0]? = some a) (h1 : l[l.length - 1]? = some b) (h2 : 2 ≤ l.length) : (mid l).Nodup ∧ a ∉ mid l ∧ b ∉ mid l := by
  have ix : ∀ x ∈ mid l, ∃ j, 1 ≤ j ∧ j < l.length - 1 ∧ l[j]? = some x := fun x hx => by
    obtain ⟨i, hi⟩ := List.mem_iff_getElem?.mp hx
    have hlt := Mow.get_lt hi
    unfold mid at hi hlt
    rw [List.length_take, List.length_drop] at hlt
    rw [List.getElem?_take_of_lt (by omega), List.getElem?_drop] at hi
    exact ⟨1 + i, by omega, by omega, hi⟩
  have uq := Mow.nodup_ix.mp hn
  refine ⟨?_, fun h => ?_, fun h => ?_⟩
  · unfold mid
    exact (hn.sublist (List.drop_sublist _ _)).sublist (List.take_sublist _ _)
  · obtain ⟨j, j1, j2, e⟩ := ix a h
    exact uq 0 j (by omega) (by omega) (h0.trans e.symm)
  · obtain ⟨j, j1, j2, e⟩ := ix b h
    exact uq j (l.length - 1) (by omega) (by omega) (e.trans h1.symm)
section
variable {Fl G : List Cell} {a b : Cell} {Cs : List Cell} {W : List (List Cell)}
theorem len2 (B : Barred Fl a b Cs W) (hab : a ≠ b) {x : List Cell} (hx : x ∈ W) : 2 ≤ x.length ∧ x[0]? = some a ∧ x[x.length - 1]? = some b := by
  have h0 := B.w0 x hx
  have h1 := B.wl x hx
  rw [List.getLast?_eq_getElem?] at h1
  refine ⟨?_, h0, h1⟩
  have := Mow.get_lt h0
  by_cases z : x.length = 1
  · rw [z, h0] at h1
    exact absurd (Option.some.inj h1) hab
  · omega
/-- a way is a walk -/
theorem walk_of_way (B : Barred Fl a b Cs W) (hab : a ≠ b) {x : List Cell} (hx : x ∈ W) : WalkIn Fl x := by
  refine ⟨fun z => ?_, B.wF x hx, fun p hp => ?_⟩
  · have := (len2 B hab hx).1
    rw [z] at this; simp at this
  · obtain ⟨i, h1, h2⟩ := zip_ix hp
    exact Mow.ix_of_adj (B.adj x hx) i p.1 p.2 h1 h2
theorem way_le (B : Barred Fl a b Cs W) {x : List Cell} (hx : x ∈ W) : x.length ≤ Fl.length := Mow.nodup_le (B.wN x hx) (B.wF x hx)
/-- the exchanged ways, put in order -/
theorem ways_turned (B : Barred Fl a b Cs W) (hab : a ≠ b) (hz : Fl.length ≤ 1000) (hG : ∀ x, x ∈ Fl ↔ sw x ∈ G) {W' : List (List Cell)} (hp : W'.Perm (W.map (List.map sw))) (hs : SrtO.Srtd wlt W') : WaysOk G (sw a) (sw b) W' := by
  have hWN := B.wsN hab
  have hN : W'.Nodup := hp.nodup_iff.mpr (by
    rw [List.nodup_iff_pairwise_ne] at *
    exact List.pairwise_map.mpr (hWN.imp fun h z => h (map_sw_inj z)))
  refine ⟨fun x hx => ?_, wrise_of hs hN, ?_⟩
  · obtain ⟨y, hy, rfl⟩ := List.mem_map.mp (hp.mem_iff.mp hx)
    obtain ⟨l2, l0, l1⟩ := len2 B hab hy
    have hw := walk_of_way B hab hy
    refine ⟨⟨fun z => hw.1 (List.map_eq_nil_iff.mp z), fun c hc => ?_, fun p hp => ?_⟩, ?_, ?_, ?_, ?_⟩
    · obtain ⟨d, hd, rfl⟩ := List.mem_map.mp hc
      exact (hG d).mp (hw.2.1 d hd)
    · obtain ⟨i, h1, h2⟩ := zip_ix hp
      exact Mow.ix_of_adj (Mow.adj_sw (B.adj y hy)) i p.1 p.2 h1 h2
    · rw [List.length_map]; exact Nat.le_trans (way_le B hy) hz
    · rw [List.length_map]; exact l2
    · rw [List.getElem?_map, l0]; rfl
    · rw [List.length_map, List.getElem?_map, l1]; rfl
  · have hpf : (W'.flatMap mid).Perm ((W.map (List.map sw)).flatMap mid) := hp.flatMap_right mid
    have hpp : (sw a :: sw b :: W'.flatMap mid).Perm ((a :: b :: W.flatMap mid).map sw) := by
      rw [List.map_cons, List.map_cons]
      refine .cons _ (.cons _ (hpf.trans (.of_eq ?_)))
      rw [List.flatMap_map, List.map_flatMap]
      exact congrArg (fun f => List.flatMap f W) (funext fun l => mid_map l)
    refine hpp.nodup_iff.mpr (map_sw_nodup ?_)
    have mn : ∀ x ∈ W, (mid x).Nodup ∧ a ∉ mid x ∧ b ∉ mid x := fun x hx => by
      obtain ⟨l2, l0, l1⟩ := len2 B hab hx
      exact mid_not (B.wN x hx) l0 l1 l2
    refine List.nodup_cons.mpr ⟨fun h => ?_, List.nodup_cons.mpr ⟨fun h => ?_, ?_⟩⟩
    · rcases List.mem_cons.mp h with h | h
      · exact hab h
      · obtain ⟨x, hx, h⟩ := List.mem_flatMap.mp h
        exact (mn x hx).2.1 h
    · obtain ⟨x, hx, h⟩ := List.mem_flatMap.mp h
      exact (mn x hx).2.2 h
    · rw [List.nodup_iff_pairwise_ne, List.pairwise_flatMap]
      refine ⟨fun x hx => List.nodup_iff_pairwise_ne.mp (mn x hx).1, ?_⟩
      have dj := B.disj
      refine (List.Pairwise.and_mem.mp dj).imp fun {v x} h y hy z hz e => ?_
      obtain ⟨hv, hx, h⟩ := h
      subst e
      rcases h y (mid_mem hy) (mid_mem hz) with e | e
      · subst e; exact (mn v hv).2.1 hy
      · subst e; exact (mn v hv).2.2 hy
theorem filter_not (Fl Cs : List Cell) : (Fl.filter fun x => !decide (x ∈ Cs)) = Fl.filter fun x => decide (x ∉ Cs) := by
  congr 1
  funext x
  by_cases h : x ∈ Cs <;> simp [h]
/-- rest and one cell -/
theorem rest_one (B : Barred Fl a b Cs W) (hF : Fl.Nodup) {c : Cell} (hc : c ∈ Cs) {ys : List Cell} (hp : ys.Perm ((Fl.filter fun x => !decide (x ∈ Cs)) ++ [c])) : ys.Nodup ∧ (∀ x ∈ ys, x ∈ Fl) ∧ Mow.Reach ys a b := by
  have hm : ∀ x, x ∈ ys ↔ (x ∈ Fl ∧ x ∉ Cs) ∨ x = c := fun x => by
    rw [hp.mem_iff, List.mem_append, List.mem_filter, List.mem_singleton]
    simp
  refine ⟨hp.nodup_iff.mpr ?_, fun x hx => ?_, B.back hc fun x hx h => ?_⟩
  · rw [List.nodup_append]
    refine ⟨hF.filter _, by simp, fun x hx y hy e => ?_⟩
    have h := (List.mem_filter.mp hx).2
    rw [List.mem_singleton.mp hy] at e
    subst e
    simp [hc] at h
  · rcases (hm x).mp hx with h | h
    · exact h.1
    · rw [h]; exact (B.cF c hc).1
  · rcases h with h | h
    · exact (hm x).mpr (.inl ⟨hx, h⟩)
    · exact (hm x).mpr (.inr h)
end
theorem sw_inr {c : Cell} (h : InR c) : InR (sw c) := ⟨h.2.2.1, h.2.2.2, h.1, h.2.1⟩
end MF

set_option autoImplicit false
set_option Elab.async false
set_option linter.all false
set_option maxRecDepth 100000
set_option maxHeartbeats 8000000
/-! law. -/
namespace MF
open PySem PySem.Spec PyProof.Rows L2
def passS : Stmt := .Pass ⟨0, 0, 0, 0⟩
def forB : Stmt → List Stmt
  | .For _ _ b _ _ => b
  | _ => []
def ifB : Stmt → List Stmt
  | .If _ b _ _ => b
  | _ => []
def ifT : Stmt → Expr
  | .If t _ _ _ => t
  | _ => .Constant .none 0 ⟨0, 0, 0, 0⟩
def notE : Expr → Expr
  | .UnaryOp _ e _ => e
  | e => e
/-- the law's statements for two cells -/
def lawIn (j : Nat) : Stmt := (ifB ((forB (nthS sLaw 0)).getD 3 passS)).getD j passS
section
variable {P : Program} {w : World} {K : PySem.W.Frag} {mg : Str → Option Value} {base : Heap}
abbrev nLaw : List Str := ["_law_script", "_law_turn", "_law_left_here", "_law_field_here", "_law_two", "_law_a", "_law_b", "_law_cells", "_law_ways", "_law_rest", "_law_other", "_law_one", "_law_last", "_law_turned_here", "_law_cell", "_law_way"]
theorem scLaw : FnScope nLaw ["_law_script"] (defScope sLaw) := ⟨rfl, rfl, rfl, by decide +kernel, rfl, by decide +kernel, by decide +kernel⟩
def spLaw (K : PySem.W.Frag) : Sp := fun vs H Q _ => ∃ (a : Addr) (ns : List Int), vs = [.ref a] ∧ SqL K H a (ns.map V.int) ∧ ns.length ≤ 63 ∧ ∀ H', Q (.bl true) H'
theorem ok_law (T : Tx mg) (D1 : Dn P w K mg base 1 "_law_left" ["_law_script", "_law_turn"] (spLeft K)) (D2 : Dn P w K mg base 3 "_law_field" ["_law_left_here", "_law_most"] spLField) (D3 : Dn P w K mg base 2 "_law_apart" ["_law_left_here", "_law_field_here"] spLA)
    (D4 : Dn P w K mg base 5 "barred" ["field", "a", "b"] spBarred) (D5 : Dn P w K mg base 4 "_law_together" ["_law_some", "_law_a", "_law_b"] spTog) (D6 : Dn P w K mg base 3 "is_walk" ["field", "thing"] spWalk) (D7 : Dn P w K mg base 1 "_law_turned" ["_law_cells"] spTurned)
    (D8 : Dn P w K mg base 5 "shows_barred" ["field", "a", "b", "cells", "ways"] spShows) {f : Addr} {fd : FuncData} (F : Fun K "law" "law" sLaw f fd) : FnOk P w K mg base CX0 6 f fd ["_law_script"] (spLaw K) := by
  refine F.ok scLaw (fun vs H Q E h => ?_) (fun cdv A outer s H vs Q E hr h => ?_)
  · obtain ⟨a, ns, rfl, _⟩ := h; rfl
  · obtain ⟨a, ns, rfl, hS, hlen, q⟩ := h
    have e60 := room60 hr
    have e65 := room65 hr
    have r1 := hr.mono (show 1 ≤ 5 by decide)
    have r2 := hr.mono (show 2 ≤ 5 by decide)
    have r3 := hr.mono (show 3 ≤ 5 by decide)
    have r4 := hr.mono (show 4 ≤ 5 by decide)
    refine ⟨_, pss_cons (ps_for PassesOwn.never rfl (pi_range1 (by rfl) T.range (pa_cons pe_int pa_nil)) (pg_name (i := 1) scLaw.nd rfl (.inl rfl))
        (pss_cons (ps_set (i := 2) scLaw.nd rfl (.inl rfl) (pe_dn D1 r1 (by rfl) (pa_cons (pv 0) (pa_cons (pv 1) pa_nil))))
        (pss_cons (ps_set (i := 3) scLaw.nd rfl (.inr rfl) (pe_dn D2 r3 (by rfl) (pa_cons (pv 2) (pa_cons pe_int pa_nil))))
        (pss_cons (ps_set (i := 4) scLaw.nd rfl (.inl rfl) (pe_dn D3 r2 (by rfl) (pa_cons (pv 2) (pa_cons (pv 3) pa_nil))))
        (pss_one (ps_if (pt_cmpR op_notN (pv 4) pe_non (nomark _))
          (pss_cons (ps_asg (pv 4) (pg_tup rfl (pgs_cons (pg_name (i := 5) scLaw.nd rfl (.inr rfl)) (pgs_cons (pg_name (i := 6) scLaw.nd rfl (.inr rfl)) pgs_nil))))
          (pss_cons (ps_asg (pe_dn D4 hr (by rfl) (pa_cons (pv 3) (pa_cons (pv 5) (pa_cons (pv 6) pa_nil)))) (pg_tup rfl (pgs_cons (pg_name (i := 7) scLaw.nd rfl (.inr rfl)) (pgs_cons (pg_name (i := 8) scLaw.nd rfl (.inr rfl)) pgs_nil))))
          (pss_cons (ps_set (i := 9) scLaw.nd rfl (.inr rfl) (pe_lc (own := [("_law_cell", 14)]) (g := gName 14) rfl scLaw.nd (pi_tup (pv 3)) (blkOk_by (N := nLaw) (sc := defScope sLaw) (by decide +kernel))
              (fun _ _ _ _ _ => pg_name (i := 14) scLaw.nd rfl (Or.inl rfl)) (fun _ _ _ _ _ => pts_one (pt_cmpR (op_nnin e65) (pv 14) (pv 7) rfl)) (fun _ _ _ _ _ => pv 14)))
          (pss_cons (ps_if (PW.pt (pw_or (pt_val (pe_dn D5 r4 (by rfl) (pa_cons (pv 9) (pa_cons (pv 5) (pa_cons (pv 6) pa_nil)))))
              (pw_or1 (pt_cmpR op_ne (pe_callB call_len_seq (by rfl) T.len PySem.boot_len (pa_cons (pv 7) pa_nil)) (pe_callB call_len_seq (by rfl) T.len PySem.boot_len (pa_cons (pv 8) pa_nil)) (nomark _))))) (pss_one (ps_ret pe_bl)) pss_nil)
          (pss_cons (ps_if (pt_not (pt_val (pe_callB (call_all rfl) (by rfl) T.all (by decide +kernel) (pa_cons
              (pe_lc (own := [("_law_cell", 14)]) (g := gName 14) rfl scLaw.nd (pi_tup (pv 7)) (blkOk_by (N := nLaw) (sc := defScope sLaw) (by decide +kernel))
                (fun _ _ _ _ _ => pg_name (i := 14) scLaw.nd rfl (Or.inl rfl)) (fun _ _ _ _ _ => pts_nil)
                (fun _ _ _ _ _ => pe_dn D5 r4 (by rfl) (pa_cons (pe_callB (call_nsort cellLk e60) (by rfl) T.sorted (by decide +kernel) (pa_cons (pe_op op_cat (pv 9) (pe_lst (pa_cons (pv 14) pa_nil))) pa_nil)) (pa_cons (pv 5) (pa_cons (pv 6) pa_nil))))) pa_nil)))) (pss_one (ps_ret pe_bl)) pss_nil)
          (pss_cons (ps_if (pt_not (pt_val (pe_callB (call_all rfl) (by rfl) T.all (by decide +kernel) (pa_cons
              (pe_lc (own := [("_law_way", 15)]) (g := gName 15) rfl scLaw.nd (pi_tup (pv 8)) (blkOk_by (N := nLaw) (sc := defScope sLaw) (by decide +kernel))
                (fun _ _ _ _ _ => pg_name (i := 15) scLaw.nd rfl (Or.inl rfl)) (fun _ _ _ _ _ => pts_nil)
                (fun _ _ _ _ _ => pe_and (pe_dn D6 r3 (by rfl) (pa_cons (pv 3) (pa_cons (pv 15) pa_nil))) (pe_one (pe_cmpR op_eq (pe_callB (call_lenC K rfl) (by rfl) T.len PySem.boot_len (pa_cons
                  (pe_lc (own := [("_law_cell", 14)]) (g := gName 14) rfl scLaw.nd (pi_tupC K rfl (pv 15)) (blkOk_by (N := nLaw) (sc := relS (lcSc (argE 0 (notE (ifT (lawIn 5))))) (defScope sLaw)) (by decide +kernel))
                    (fun _ _ _ _ _ => pg_name (i := 14) scLaw.nd rfl (Or.inl rfl)) (fun _ _ _ _ _ => pts_one (pt_cmpR (op_nin e65) (pv 14) (pv 7) rfl)) (fun _ _ _ _ _ => pv 14)) pa_nil)) pe_int (nomark _))))) pa_nil)))) (pss_one (ps_ret pe_bl)) pss_nil)
          (pss_cons (ps_if (pt_not (pt_val (pe_callB (call_all rfl) (by rfl) T.all (by decide +kernel) (pa_cons
              (pe_lc (own := [("_law_cell", 14)]) (g := gName 14) rfl scLaw.nd (pi_tup (pv 7)) (blkOk_by (N := nLaw) (sc := defScope sLaw) (by decide +kernel))
                (fun _ _ _ _ _ => pg_name (i := 14) scLaw.nd rfl (Or.inr rfl)) (fun _ _ _ _ _ => pts_nil)
                (fun _ _ _ _ _ => pe_cmpR op_eq (pe_callB (call_lenC K rfl) (by rfl) T.len PySem.boot_len (pa_cons
                  (pe_lc (own := [("_law_way", 15)]) (g := gName 15) rfl scLaw.nd (pi_tupC K rfl (pv 8)) (blkOk_by (N := nLaw) (sc := relS (lcSc (argE 0 (notE (ifT (lawIn 6))))) (defScope sLaw)) (by decide +kernel))
                    (fun _ _ _ _ _ => pg_name (i := 15) scLaw.nd rfl (Or.inl rfl)) (fun _ _ _ _ _ => pts_one (pt_cmpR (op_nin e65) (pv 14) (pv 15) rfl)) (fun _ _ _ _ _ => pv 15)) pa_nil)) pe_int (nomark _))) pa_nil)))) (pss_one (ps_ret pe_bl)) pss_nil)
          (pss_cons (ps_set (i := 10) scLaw.nd rfl (.inl rfl) (pe_callTy call_tupL (by rfl) T.tuple (by decide +kernel) (pa_cons (pe_callB (call_nsort cellLk e60) (by rfl) T.sorted (by decide +kernel) (pa_cons (pe_dn D7 r1 (by rfl) (pa_cons (pv 3) pa_nil)) pa_nil)) pa_nil)))
          (pss_cons (ps_asg (pe_dn D7 r1 (by rfl) (pa_cons (pe_lst (pa_cons (pv 5) (pa_cons (pv 6) pa_nil))) pa_nil)) (pg_tup rfl (pgs_cons (pg_name (i := 11) scLaw.nd rfl (.inl rfl)) (pgs_cons (pg_name (i := 12) scLaw.nd rfl (.inl rfl)) pgs_nil))))
          (pss_cons (ps_if (pt_cmpR op_ne (pe_callB call_len_seq (by rfl) T.len PySem.boot_len (pa_cons (pe_ix ix_tup (pe_dn D4 hr (by rfl) (pa_cons (pv 10) (pa_cons (pv 11) (pa_cons (pv 12) pa_nil)))) pe_int (fun _ _ => rfl)) pa_nil))
              (pe_callB call_len_seq (by rfl) T.len PySem.boot_len (pa_cons (pv 7) pa_nil)) (nomark _)) (pss_one (ps_ret pe_bl)) pss_nil)
          (pss_cons (ps_set (i := 13) scLaw.nd rfl (.inl rfl) (pe_callTy call_tupL (by rfl) T.tuple (by decide +kernel) (pa_cons (pe_callB (call_nsort wayLk e60) (by rfl) T.sorted (by decide +kernel) (pa_cons
              (pe_lc (own := [("_law_way", 15)]) (g := gName 15) rfl scLaw.nd (pi_tup (pv 8)) (blkOk_by (N := nLaw) (sc := defScope sLaw) (by decide +kernel))
                (fun _ _ _ _ _ => pg_name (i := 15) scLaw.nd rfl (Or.inl rfl)) (fun _ _ _ _ _ => pts_nil) (fun _ _ _ _ _ => pe_dn D7 r1 (by rfl) (pa_cons (pv 15) pa_nil))) pa_nil)) pa_nil)))
          (pss_one (ps_if (pt_cmpR op_notBl (pe_dn D8 hr (by rfl) (pa_cons (pv 10) (pa_cons (pv 11) (pa_cons (pv 12) (pa_cons (pe_callTy call_tupL (by rfl) T.tuple (by decide +kernel) (pa_cons (pe_callB (call_nsort cellLk e60) (by rfl) T.sorted (by decide +kernel) (pa_cons (pe_dn D7 r1 (by rfl) (pa_cons (pv 7) pa_nil)) pa_nil)) pa_nil))
              (pa_cons (pv 13) pa_nil)))))) pe_bl (nomark _)) (pss_one (ps_ret pe_bl)) pss_nil))))))))))))) pss_nil))))))
      (pss_one (ps_ret pe_bl)), ?_⟩
    refine ⟨3, rfl, by decide, by decide, ?_⟩
    refine for_it (walk_range (lo := 0) (n := (3 : Int).toNat)) (fun i σ H1 => ∃ y1 y2 y3 y4 y5 y6 y7 y8 y9 y10 y11 y12 y13 : Option V, σ = [some (.ref a), y1, y2, y3, y4, y5, y6, y7, y8, y9, y10, y11, y12, y13, none, none] ∧ Same H H1)
      ⟨none, none, none, none, none, none, none, none, none, none, none, none, none, rfl, Same.refl H⟩ (fun _ _ _ _ _ => trivial) ?_ ?_
    · rintro i x σ H0 H0' hi ⟨y1, y2, y3, y4, y5, y6, y7, y8, y9, y10, y11, y12, y13, rfl, s0⟩ ⟨rfl, rfl⟩
      -- left, field, two
      refine ⟨.ref a, rfl, _, rfl, a, ns, _, rfl, s0.seq hS, fun H1 l s1 hl l1 => ?_⟩
      refine ⟨.ref l, rfl, l, rfl, l1, fun H2 vf Fl k2 l2 nf2 fN fR f0 fz => ?_⟩
      refine ⟨.ref l, rfl, vf, rfl, l, vf, Fl, rfl, l2, nf2, f0, fz, fun H3 k3 l3 => ?_, fun H3 t va vb pa pb k3 l3 et na nb aF bF ab hnab => ?_⟩
      · refine ⟨.non, rfl, rfl, _, rfl, ?_⟩
        show if (!decide (V.non = V.non)) = true then _ else _
        rw [decide_eq_true rfl]
        exact iteF ⟨_, _, _, _, _, _, _, _, _, _, _, _, _, rfl, fun c o e => let e0 := s0 c o e; let hc := ne_of_none e0 hl; k3 _ _ (k2 _ _ (s1 _ _ e0) hc) hc⟩
      have s03 : Same H H3 := fun c o e => let e0 := s0 c o e; let hc := ne_of_none e0 hl; k3 _ _ (k2 _ _ (s1 _ _ e0) hc) hc
      have nf := NK.tu (k3.tu l2) nf2
      clear k3 k2 s1 hl l1 l2 l3 s0 nf2
      obtain ⟨tf, xf, rfl, ef, af⟩ := id nf.seq
      have hfl : xf.length = Fl.length := af.lenm
      refine ⟨.ref t, rfl, rfl, _, rfl, ?_⟩
      show if (!decide (V.ref t = V.non)) = true then _ else _
      rw [decide_eq_false (by intro z; cases z)]
      refine iteT ?_
      refine ⟨.ref t, rfl, t, _, rfl, SqT.of et, rfl, _, _, rfl, _, _, rfl, rfl, ?_⟩
      -- barred
      refine ⟨.ref tf, rfl, va, rfl, vb, rfl, .ref tf, va, vb, Fl, pa, pb, rfl, nf, na, nb, fN, fz, aF, ab, hnab, fun H4 tb vc vw Cs W s4 etb nc nw B hWs => ?_⟩
      refine ⟨tb, _, rfl, SqT.of etb, rfl, _, _, rfl, _, _, rfl, rfl, ?_⟩
      have nf4 := nf.same s4
      have na4 := na.same s4
      have nb4 := nb.same s4
      have ef4 := s4 _ _ ef
      have af4 := NKs.sameT s4 af
      have s04 := s03.trans s4
      clear nf na nb ef af s4 s03 et etb
      obtain ⟨tc, xc, rfl, ec, ac⟩ := id nc.seq
      have hcl : xc.length = Cs.length := ac.lenm
      obtain ⟨tw, xw, rfl, ew, aw⟩ := id nw.seq
      have hwl : xw.length = W.length := aw.lenm
      have hcz : Cs.length ≤ 1000 := Nat.le_trans (Mow.nodup_le B.cN fun c hc => (B.cF c hc).1) fz
      have hwz : W.length ≤ 1000 := by rw [← B.len]; exact hcz
      -- rest
      refine ⟨.ref tf, rfl, tf, rfl, ⟨_, SqT.of ef4⟩, fun Dr hDr => ?_⟩
      refine lc_filter (vr := nkV ck) (walk_tup (xs := xf)) Fl (fun x => !decide (x ∈ Cs)) hfl.symm (by omega) hDr (fun H s => SqT.of (s _ _ ef4)) ?_ ?_
      · rintro i x c H5 H5' k e hc s5 ⟨rfl, hx⟩ hk he
        have nx := (af4.at_ hx hc).same s5
        refine ⟨rfl, _, rfl, .ref tc, rfl, rd_cmemT true nx (nc.same s5) ⟨_, rfl, ?_⟩⟩
        exact t_ite (fun z => ⟨_, rfl, hk z _ _ (Same.refl _) nx⟩) (fun z => he z _ (Same.refl _))
      rintro H5 s5 L5
      -- together
      have zN : (Fl.filter fun x => !decide (x ∈ Cs)).Nodup := fN.filter _
      have zz : (Fl.filter fun x => !decide (x ∈ Cs)).length ≤ 1000 := Nat.le_trans (List.length_filter_le _ _) fz
      refine ⟨.ref Dr, rfl, va, rfl, vb, rfl, Dr, va, vb, _, pa, pb, rfl, L5, na4.same s5, nb4.same s5, zN, fun c hc => fR c (List.mem_filter.mp hc).1, zz, fun H6 r s6 hr6 => ⟨r, rfl, ?_⟩⟩
      have hr0 : r = false := by
        cases r with
        | false => rfl
        | true =>
          have := hr6.mp rfl
          rw [filter_not] at this
          exact absurd this B.sep
      subst hr0
      refine iteF ?_
      have s46 := s5.trans s6
      refine ⟨.ref tc, rfl, tc, xc, rfl, .inr (SqT.of (s46 _ _ ec)), .ref tw, rfl, tw, xw, rfl, .inr (SqT.of (s46 _ _ ew)), rfl, _, rfl, ?_⟩
      refine t_ite (fun hq => ?_) (fun _ => ?_)
      · exfalso
        rw [hcl, hwl, B.len] at hq
        simp at hq
      -- each cell put back
      refine ⟨.ref tc, rfl, tc, rfl, ⟨_, SqT.of (s46 _ _ ec)⟩, fun D7 hD7 => ?_⟩
      have L6 := L5.same s6
      refine lc_map (vr := blV) (walk_tup (xs := xc)) Cs (fun _ => true) hcl.symm (by omega) hD7 (fun H s => SqT.of (s _ _ (s46 _ _ ec))) ?_ ?_
      · rintro i x c H7 H7' k e hc s7 ⟨rfl, hx⟩ hk
        have cm := Mow.get_mem hc
        have s47 := s46.trans s7
        have nx := (ac.at_ hx hc).same s47
        obtain ⟨accr, er, nr⟩ := (L6.same s7).nks
        have hrl : accr.length = (Fl.filter fun x => !decide (x ∈ Cs)).length := nr.lenm
        refine ⟨rfl, t_yes ⟨.ref Dr, rfl, x, rfl, by show 1 ≤ sizeLine; decide, fun p1 hp1 => ?_⟩⟩
        have s8 := same_new (o := .lst [x]) hp1
        refine ⟨Dr, p1, accr, [x], rfl, rfl, s8 _ _ er, upd_same, by show accr.length + 1 ≤ sizeLine; exact Nat.le_of_lt (small_line (by omega)), fun p2 hp2 => ?_⟩
        have s9 := s8.trans (same_new (o := .lst (accr ++ [x])) hp2)
        have n9 : NKs (upd (upd H7' p1 (.lst [x])) p2 (.lst (accr ++ [x]))) (((Fl.filter fun x => !decide (x ∈ Cs)) ++ [c]).map ck) (accr ++ [x]) := NKs.snocm (NKs.sameT s9 nr) (nx.same s9)
        refine ⟨p2, accr ++ [x], (Fl.filter fun x => !decide (x ∈ Cs)) ++ [c], rfl, .inl upd_same, n9, fun _ _ => trivial, fun ys outV p3 hperm _ hn3 no => ?_⟩
        have s10 := s9.trans (same_new (o := .lst outV) hn3)
        obtain ⟨yN, yF, yR⟩ := rest_one B fN cm hperm
        have yz : ys.length ≤ 1000 := Nat.le_trans (Mow.nodup_le yN yF) fz
        refine ⟨va, rfl, vb, rfl, p3, va, vb, ys, pa, pb, rfl, LstV.of_nks upd_same (NKs.sameT (same_new hn3) no), na4.same (s47.trans s10), nb4.same (s47.trans s10), yN, fun c hc => fR c (yF c hc), yz, fun H11 r s11 hr11 => ?_⟩
        have hr1 : r = true := hr11.mpr yR
        subst hr1
        exact hk _ _ (s10.trans s11) rfl
      rintro H7 s7 L7
      refine ⟨_, _, rfl, L7, ?_⟩
      rw [all_map_true fun _ _ => rfl]
      refine ⟨true, rfl, iteF ?_⟩
      have s47 := s46.trans s7
      -- each way
      refine ⟨.ref tw, rfl, tw, rfl, ⟨_, SqT.of (s47 _ _ ew)⟩, fun D8 hD8 => ?_⟩
      refine lc_map (vr := blV) (walk_tup (xs := xw)) W (fun _ => true) hwl.symm (by omega) hD8 (fun H s => SqT.of (s _ _ (s47 _ _ ew))) ?_ ?_
      · rintro i x wy H8 H8' k e hw s8 ⟨rfl, hx⟩ hk
        have wm := Mow.get_mem hw
        have s48 := s47.trans s8
        have nx := (aw.at_ hx hw).same s48
        have wyl := Nat.le_trans (way_le B wm) fz
        refine ⟨rfl, t_yes ⟨.ref tf, rfl, x, rfl, .ref tf, x, Fl, wy, rfl, nf4.same s48, nx, fN, fz, by omega, fR, walk_of_way B ab wm, fun H9 s9 => ⟨true, rfl, iteT ?_⟩⟩⟩
        obtain ⟨ty, xy, rfl, ey, ay⟩ := (nx.same s9).seq
        have hyl : xy.length = wy.length := ay.lenm
        refine ⟨_, rfl, ty, rfl, ⟨_, SqT.of ey⟩, fun D10 hD10 => ?_⟩
        refine lc_filter (vr := nkV ck) (walk_tup (xs := xy)) wy (fun x => decide (x ∈ Cs)) hyl.symm (by omega) hD10 (fun H s => SqT.of (s _ _ ey)) ?_ ?_
        · rintro j z c H10 H10' k2 e2 hc s10 ⟨rfl, hz⟩ hk2 he2
          have nz := (ay.at_ hz hc).same s10
          refine ⟨rfl, _, rfl, .ref tc, rfl, rd_cmemT false nz (nc.same (s48.trans (s9.trans s10))) ⟨_, rfl, ?_⟩⟩
          exact t_ite (fun z => ⟨_, rfl, hk2 z _ _ (Same.refl _) nz⟩) (fun z => he2 z _ (Same.refl _))
        rintro H10 s10 L10
        obtain ⟨acc10, e10, n10⟩ := L10.nks
        have h10 : acc10.length = 1 := by
          have h1 := n10.lenm
          rw [h1, ← List.countP_eq_length_filter]
          exact B.one wy wm
        refine ⟨D10, acc10, rfl, .inl (SqL.of e10), rfl, ?_⟩
        rw [h10]
        exact hk _ _ (s9.trans s10) rfl
      rintro H8 s8 L8
      refine ⟨_, _, rfl, L8, ?_⟩
      rw [all_map_true fun _ _ => rfl]
      refine ⟨true, rfl, iteF ?_⟩
      have s48 := s47.trans s8
      -- each cell
      refine ⟨.ref tc, rfl, tc, rfl, ⟨_, SqT.of (s48 _ _ ec)⟩, fun D9 hD9 => ?_⟩
      refine lc_map (vr := blV) (walk_tup (xs := xc)) Cs (fun _ => true) hcl.symm (by omega) hD9 (fun H s => SqT.of (s _ _ (s48 _ _ ec))) ?_ ?_
      · rintro i x c H9 H9' k e hc s9 ⟨rfl, hx⟩ hk
        have cm := Mow.get_mem hc
        have s49 := s48.trans s9
        have nx := (ac.at_ hx hc).same s49
        refine ⟨rfl, t_yes ⟨_, rfl, tw, rfl, ⟨_, SqT.of (s49 _ _ ew)⟩, fun D10 hD10 => ?_⟩⟩
        refine lc_filter (vr := nkV csk) (walk_tup (xs := xw)) W (fun y => decide (c ∈ y)) hwl.symm (by omega) hD10 (fun H s => SqT.of (s _ _ (s49 _ _ ew))) ?_ ?_
        · rintro j z wy H10 H10' k2 e2 hc s10 ⟨rfl, hz⟩ hk2 he2
          have nz := (aw.at_ hz hc).same (s49.trans s10)
          refine ⟨rfl, _, rfl, _, rfl, rd_cmemT false (nx.same s10) nz ⟨_, rfl, ?_⟩⟩
          exact t_ite (fun z => ⟨_, rfl, hk2 z _ _ (Same.refl _) nz⟩) (fun z => he2 z _ (Same.refl _))
        rintro H10 s10 L10
        obtain ⟨acc10, e10, n10⟩ := L10.nks
        have h10 : acc10.length = 1 := by
          have h1 := n10.lenm
          rw [h1, ← List.countP_eq_length_filter]
          exact B.each c cm
        refine ⟨D10, acc10, rfl, .inl (SqL.of e10), rfl, ?_⟩
        rw [h10]
        exact hk _ _ s10 rfl
      rintro H9 s9 L9
      refine ⟨_, _, rfl, L9, ?_⟩
      rw [all_map_true fun _ _ => rfl]
      refine ⟨true, rfl, iteF ?_⟩
      have s49 := s48.trans s9
      -- rows and columns exchanged
      refine ⟨.ref tf, rfl, tf, xf, Fl, rfl, .inl (s49 _ _ ef4), NKs.sameT s49 af4, fz, fun H10 vg s10 ng => ?_⟩
      obtain ⟨tg, xg, rfl, eg, ag⟩ := ng.seq
      refine ⟨tg, xg, Fl.map Mow.sw, rfl, .inr eg, ag, fun _ _ => trivial, fun G outG pg hpG hsG hnG noG => ⟨pg, outG, rfl, upd_same, fun lg hlg => ?_⟩⟩
      have s11 := (same_new (o := .lst outG) hnG)
      have s12 := s11.trans (same_new (o := .tup outG) hlg)
      have nG : NK (upd (upd H10 pg (.lst outG)) lg (.tup outG)) (csk G) (.ref lg) := nk_tuple hlg (NKs.sameT s11 noG)
      have s4x := s49.trans (s10.trans s12)
      generalize upd (upd H10 pg (.lst outG)) lg (.tup outG) = H11 at nG s4x
      clear s11 s12 eg ag hnG noG hlg s10
      have hGm : ∀ x, x ∈ Fl ↔ Mow.sw x ∈ G := fun x => by rw [hpG.mem_iff, mem_map_sw]
      have hGN : G.Nodup := hpG.nodup_iff.mpr (map_sw_nodup fN)
      have hGz : G.length ≤ 1000 := by rw [hpG.length_eq, List.length_map]; exact fz
      have hGR : ∀ c ∈ G, InR c := fun c hc => by
        obtain ⟨d, hd, rfl⟩ := List.mem_map.mp (hpG.mem_iff.mp hc)
        exact sw_inr (fR d hd)
      have abs : Mow.sw pa ≠ Mow.sw pb := fun z => ab (Mow.sw_inj z)
      have nbs : Mow.sw pb ∉ Mow.nb (Mow.sw pa) := fun z => hnab (Mow.sw_nb.mp z)
      -- one, last
      refine ⟨va, rfl, vb, rfl, by show 2 ≤ sizeLine; decide, fun p5 hp5 => ?_⟩
      have s12 := same_new (o := .lst [va, vb]) hp5
      refine ⟨p5, [va, vb], [pa, pb], rfl, .inr upd_same, .cons ((na4.same s4x).same s12) (.cons ((nb4.same s4x).same s12) .nil), by show 2 ≤ 1000; decide, fun H12 v2 s13 n2 => ?_⟩
      obtain ⟨t2, v21, v22, rfl, e2, n21, n22⟩ := NK.two (k := ck (Mow.sw pa)) (l := ck (Mow.sw pb)) n2
      have s4y := s4x.trans (s12.trans s13)
      have nG2 := nG.same (s12.trans s13)
      refine ⟨t2, _, rfl, SqT.of e2, rfl, _, _, rfl, _, _, rfl, rfl, ?_⟩
      clear s12 s13 nG s4x n2
      -- barred again
      refine ⟨.ref lg, rfl, v21, rfl, v22, rfl, .ref lg, v21, v22, G, Mow.sw pa, Mow.sw pb, rfl, nG2, n21, n22, hGN, hGz, (hGm pa).mp aF, abs, nbs, fun H13 tb2 vc2 vw2 C2 W2 s14 etb2 nc2 _ B2 _ => ?_⟩
      obtain ⟨tc2, xc2, rfl, ec2, ac2⟩ := nc2.seq
      have hc2 : xc2.length = C2.length := ac2.lenm
      have s4z := s4y.trans s14
      refine ⟨tb2, _, 0, .ref tc2, rfl, rfl, SqT.of etb2, rfl, tc2, xc2, rfl, .inr (SqT.of ec2), .ref tc, rfl, tc, xc, rfl, .inr (SqT.of (s4z _ _ ec)), rfl, _, rfl, ?_⟩
      refine t_ite (fun hq => ?_) (fun _ => ?_)
      · exfalso
        rw [hcl, hc2, B.dual B2 hGm] at hq
        simp at hq
      -- turned ways
      refine ⟨.ref tw, rfl, tw, rfl, ⟨_, SqT.of (s4z _ _ ew)⟩, fun D14 hD14 => ?_⟩
      refine lc_map (vr := nkV csk) (walk_tup (xs := xw)) W (List.map Mow.sw) hwl.symm (by omega) hD14 (fun H s => SqT.of (s _ _ (s4z _ _ ew))) ?_ ?_
      · rintro i x wy H14 H14' k e hw s15 ⟨rfl, hx⟩ hk
        have wm := Mow.get_mem hw
        obtain ⟨ty, xy, rfl, ey, ay⟩ := ((aw.at_ hx hw).same (s4z.trans s15)).seq
        exact ⟨rfl, t_yes ⟨_, rfl, ty, xy, wy, rfl, .inl ey, ay, Nat.le_trans (way_le B wm) fz, fun H15 v s16 nv => hk _ _ s16 nv⟩⟩
      rintro H14 s15 L14
      obtain ⟨acc14, e14, n14⟩ := L14.nks
      refine ⟨D14, acc14, W.map (List.map Mow.sw), rfl, .inl e14, n14, fun x hx => ?_, fun W' outW pw hpW hsW hnW noW => ⟨pw, outW, rfl, upd_same, fun lw hlw => ?_⟩⟩
      · obtain ⟨y, hy, rfl⟩ := List.mem_map.mp hx
        exact fun z => (walk_of_way B ab hy).1 (List.map_eq_nil_iff.mp z)
      have s16 := same_new (o := .lst outW) hnW
      have s17 := s15.trans (s16.trans (same_new (o := .tup outW) hlw))
      have nW : NK (upd (upd H14 pw (.lst outW)) lw (.tup outW)) (wsk W') (.ref lw) := nk_tuple hlw (NKs.sameT s16 noW)
      generalize upd (upd H14 pw (.lst outW)) lw (.tup outW) = H15 at s17 nW
      clear s16 e14 n14 noW hnW hlw L14 s15
      have s4u := s4z.trans s17
      have s13u := s14.trans s17
      -- shows_barred
      refine ⟨.ref lg, rfl, v21, rfl, v22, rfl, .ref tc, rfl, tc, xc, Cs, rfl, .inl (s4u _ _ ec), NKs.sameT s4u ac, hcz, fun H16 vq s18 nq => ?_⟩
      obtain ⟨tq, xq, rfl, eq_, aq⟩ := nq.seq
      refine ⟨tq, xq, Cs.map Mow.sw, rfl, .inr eq_, aq, fun _ _ => trivial, fun C' outC pc hpC hsC hnC noC => ⟨pc, outC, rfl, upd_same, fun lc hlc => ?_⟩⟩
      have s19 := same_new (o := .lst outC) hnC
      have s20 := s18.trans (s19.trans (same_new (o := .tup outC) hlc))
      have nC : NK (upd (upd H16 pc (.lst outC)) lc (.tup outC)) (csk C') (.ref lc) := nk_tuple hlc (NKs.sameT s19 noC)
      generalize upd (upd H16 pc (.lst outC)) lc (.tup outC) = H17 at s20 nC
      have hCm : ∀ x, x ∈ Cs ↔ Mow.sw x ∈ C' := fun x => by rw [hpC.mem_iff, mem_map_sw]
      have hCN : C'.Nodup := hpC.nodup_iff.mpr (map_sw_nodup B.cN)
      have hCF : ∀ c ∈ C', c ∈ G ∧ c ≠ Mow.sw pa ∧ c ≠ Mow.sw pb := fun c hc => by
        obtain ⟨d, hd, rfl⟩ := List.mem_map.mp (hpC.mem_iff.mp hc)
        obtain ⟨d1, d2, d3⟩ := B.cF d hd
        exact ⟨(hGm d).mp d1, fun z => d2 (Mow.sw_inj z), fun z => d3 (Mow.sw_inj z)⟩
      have hCl : C'.length = Cs.length := by rw [hpC.length_eq, List.length_map]
      have hWl : W'.length = W.length := by rw [hpW.length_eq, List.length_map]
      have s21 := s13u.trans s20
      refine ⟨.ref lw, rfl, .ref lg, v21, v22, .ref lc, .ref lw, G, Mow.sw pa, Mow.sw pb, C', W', rfl, nG2.same s21, n21.same s21, n22.same s21, nC, nW.same s20, hGN, hGR, hGz, ⟨abs, nbs⟩, ⟨by omega, rise_of hsC hCN, fun c hc => (hCF c hc).1, fun hc => (hCF _ hc).2.1 rfl, fun hc => (hCF _ hc).2.2 rfl, ?_⟩, ⟨by omega, ways_turned B ab fz hGm hpW hsW⟩, by rw [hCl, hWl]; exact B.len, fun H18 s22 => ?_⟩
      · rw [filter_not]
        exact B.sepT hGm hCm
      refine ⟨true, true, rfl, rfl, _, rfl, ?_⟩
      show if (!decide (true = true)) = true then _ else _
      rw [decide_eq_true rfl]
      exact iteF ⟨_, _, _, _, _, _, _, _, _, _, _, _, _, rfl, s04.trans (s4u.trans (s20.trans s22))⟩
    · rintro σ H1 ⟨_, _, _, _, _, _, _, _, _, _, _, _, _, rfl, _⟩
      exact q H1
end
end MF

set_option autoImplicit false
set_option Elab.async false
set_option linter.all false
set_option maxRecDepth 100000
set_option maxHeartbeats 400000
/-! What the top has made; the theorem. -/
namespace MF
open PySem L2
/-- the class can be made, its __init__ as it stands -/
def IniD (K : PySem.W.Frag) (C : Addr) : Prop := ∃ f fd, Mk K C f ∧ Fun K "__init__" "Ways.__init__" sInit f fd ∧ Binds K fd ["self", "field", "a", "b"] []
section
variable {K : PySem.W.Frag} {h : Heap} {mg : Str → Option Value} {C f : Addr} {od an : Option Addr} {sl : Array (Option Value)} {oc kV dc pm cd ct : Value}
theorem fd_is_whole (X : K.In h) (G : h.Ns mainGlobals mg) (a : PySem.W.nsIn K mainGlobals "is_whole" = some (some (.ref f))) (l : K.lookup f = some ⟨oc, od, .func (PySem.W.fnOf "is_whole" "is_whole" (defArgs sWhole) (defBody sWhole) (defScope sWhole) .none kV dc pm an cd ct), sl⟩) (c : PySem.W.codeIn K cd "is_whole" = true) (k : PySem.W.keepIn K (.ref f) = true) : FunD K mg "is_whole" sWhole ["thing"] :=
  ⟨f, _, PySem.W.mg_of X G a, fun_mk (st := sWhole) l c k, (fun_mk (st := sWhole) l c k).binds (ps := ["thing"]) fun _ _ _ _ _ _ us hl => match us, hl with | [_], _ => rfl⟩
theorem fd_is_cell (X : K.In h) (G : h.Ns mainGlobals mg) (a : PySem.W.nsIn K mainGlobals "is_cell" = some (some (.ref f))) (l : K.lookup f = some ⟨oc, od, .func (PySem.W.fnOf "is_cell" "is_cell" (defArgs sCell) (defBody sCell) (defScope sCell) .none kV dc pm an cd ct), sl⟩) (c : PySem.W.codeIn K cd "is_cell" = true) (k : PySem.W.keepIn K (.ref f) = true) : FunD K mg "is_cell" sCell ["thing"] :=
  ⟨f, _, PySem.W.mg_of X G a, fun_mk (st := sCell) l c k, (fun_mk (st := sCell) l c k).binds (ps := ["thing"]) fun _ _ _ _ _ _ us hl => match us, hl with | [_], _ => rfl⟩
theorem fd_are_rising (X : K.In h) (G : h.Ns mainGlobals mg) (a : PySem.W.nsIn K mainGlobals "are_rising" = some (some (.ref f))) (l : K.lookup f = some ⟨oc, od, .func (PySem.W.fnOf "are_rising" "are_rising" (defArgs sRising) (defBody sRising) (defScope sRising) .none kV dc pm an cd ct), sl⟩) (c : PySem.W.codeIn K cd "are_rising" = true) (k : PySem.W.keepIn K (.ref f) = true) : FunD K mg "are_rising" sRising ["things"] :=
  ⟨f, _, PySem.W.mg_of X G a, fun_mk (st := sRising) l c k, (fun_mk (st := sRising) l c k).binds (ps := ["things"]) fun _ _ _ _ _ _ us hl => match us, hl with | [_], _ => rfl⟩
theorem fd_is_floor (X : K.In h) (G : h.Ns mainGlobals mg) (a : PySem.W.nsIn K mainGlobals "is_floor" = some (some (.ref f))) (l : K.lookup f = some ⟨oc, od, .func (PySem.W.fnOf "is_floor" "is_floor" (defArgs sFloor) (defBody sFloor) (defScope sFloor) .none kV dc pm an cd ct), sl⟩) (c : PySem.W.codeIn K cd "is_floor" = true) (k : PySem.W.keepIn K (.ref f) = true) : FunD K mg "is_floor" sFloor ["thing"] :=
  ⟨f, _, PySem.W.mg_of X G a, fun_mk (st := sFloor) l c k, (fun_mk (st := sFloor) l c k).binds (ps := ["thing"]) fun _ _ _ _ _ _ us hl => match us, hl with | [_], _ => rfl⟩
theorem fd_beside (X : K.In h) (G : h.Ns mainGlobals mg) (a : PySem.W.nsIn K mainGlobals "beside" = some (some (.ref f))) (l : K.lookup f = some ⟨oc, od, .func (PySem.W.fnOf "beside" "beside" (defArgs sBeside) (defBody sBeside) (defScope sBeside) .none kV dc pm an cd ct), sl⟩) (c : PySem.W.codeIn K cd "beside" = true) (k : PySem.W.keepIn K (.ref f) = true) : FunD K mg "beside" sBeside ["cell"] :=
  ⟨f, _, PySem.W.mg_of X G a, fun_mk (st := sBeside) l c k, (fun_mk (st := sBeside) l c k).binds (ps := ["cell"]) fun _ _ _ _ _ _ us hl => match us, hl with | [_], _ => rfl⟩
theorem fd_neighbours (X : K.In h) (G : h.Ns mainGlobals mg) (a : PySem.W.nsIn K mainGlobals "neighbours" = some (some (.ref f))) (l : K.lookup f = some ⟨oc, od, .func (PySem.W.fnOf "neighbours" "neighbours" (defArgs sNeigh) (defBody sNeigh) (defScope sNeigh) .none kV dc pm an cd ct), sl⟩) (c : PySem.W.codeIn K cd "neighbours" = true) (k : PySem.W.keepIn K (.ref f) = true) : FunD K mg "neighbours" sNeigh ["floor", "cell"] :=
  ⟨f, _, PySem.W.mg_of X G a, fun_mk (st := sNeigh) l c k, (fun_mk (st := sNeigh) l c k).binds (ps := ["floor", "cell"]) fun _ _ _ _ _ _ us hl => match us, hl with | [_, _], _ => rfl⟩
theorem fd_neighbours_of_all (X : K.In h) (G : h.Ns mainGlobals mg) (a : PySem.W.nsIn K mainGlobals "neighbours_of_all" = some (some (.ref f))) (l : K.lookup f = some ⟨oc, od, .func (PySem.W.fnOf "neighbours_of_all" "neighbours_of_all" (defArgs sNeighAll) (defBody sNeighAll) (defScope sNeighAll) .none kV dc pm an cd ct), sl⟩) (c : PySem.W.codeIn K cd "neighbours_of_all" = true) (k : PySem.W.keepIn K (.ref f) = true) : FunD K mg "neighbours_of_all" sNeighAll ["floor"] :=
  ⟨f, _, PySem.W.mg_of X G a, fun_mk (st := sNeighAll) l c k, (fun_mk (st := sNeighAll) l c k).binds (ps := ["floor"]) fun _ _ _ _ _ _ us hl => match us, hl with | [_], _ => rfl⟩
theorem fd_part_of (X : K.In h) (G : h.Ns mainGlobals mg) (a : PySem.W.nsIn K mainGlobals "part_of" = some (some (.ref f))) (l : K.lookup f = some ⟨oc, od, .func (PySem.W.fnOf "part_of" "part_of" (defArgs sPartOf) (defBody sPartOf) (defScope sPartOf) .none kV dc pm an cd ct), sl⟩) (c : PySem.W.codeIn K cd "part_of" = true) (k : PySem.W.keepIn K (.ref f) = true) : FunD K mg "part_of" sPartOf ["near", "cell"] :=
  ⟨f, _, PySem.W.mg_of X G a, fun_mk (st := sPartOf) l c k, (fun_mk (st := sPartOf) l c k).binds (ps := ["near", "cell"]) fun _ _ _ _ _ _ us hl => match us, hl with | [_, _], _ => rfl⟩
theorem fd_parts (X : K.In h) (G : h.Ns mainGlobals mg) (a : PySem.W.nsIn K mainGlobals "parts" = some (some (.ref f))) (l : K.lookup f = some ⟨oc, od, .func (PySem.W.fnOf "parts" "parts" (defArgs sParts) (defBody sParts) (defScope sParts) .none kV dc pm an cd ct), sl⟩) (c : PySem.W.codeIn K cd "parts" = true) (k : PySem.W.keepIn K (.ref f) = true) : FunD K mg "parts" sParts ["floor"] :=
  ⟨f, _, PySem.W.mg_of X G a, fun_mk (st := sParts) l c k, (fun_mk (st := sParts) l c k).binds (ps := ["floor"]) fun _ _ _ _ _ _ us hl => match us, hl with | [_], _ => rfl⟩
theorem fd_are_near (X : K.In h) (G : h.Ns mainGlobals mg) (a : PySem.W.nsIn K mainGlobals "are_near" = some (some (.ref f))) (l : K.lookup f = some ⟨oc, od, .func (PySem.W.fnOf "are_near" "are_near" (defArgs sNear) (defBody sNear) (defScope sNear) .none kV dc pm an cd ct), sl⟩) (c : PySem.W.codeIn K cd "are_near" = true) (k : PySem.W.keepIn K (.ref f) = true) : FunD K mg "are_near" sNear ["field", "a", "b"] :=
  ⟨f, _, PySem.W.mg_of X G a, fun_mk (st := sNear) l c k, (fun_mk (st := sNear) l c k).binds (ps := ["field", "a", "b"]) fun _ _ _ _ _ _ us hl => match us, hl with | [_, _, _], _ => rfl⟩
theorem fd_barred (X : K.In h) (G : h.Ns mainGlobals mg) (a : PySem.W.nsIn K mainGlobals "barred" = some (some (.ref f))) (l : K.lookup f = some ⟨oc, od, .func (PySem.W.fnOf "barred" "barred" (defArgs sBarred) (defBody sBarred) (defScope sBarred) .none kV dc pm an cd ct), sl⟩) (c : PySem.W.codeIn K cd "barred" = true) (k : PySem.W.keepIn K (.ref f) = true) : FunD K mg "barred" sBarred ["field", "a", "b"] :=
  ⟨f, _, PySem.W.mg_of X G a, fun_mk (st := sBarred) l c k, (fun_mk (st := sBarred) l c k).binds (ps := ["field", "a", "b"]) fun _ _ _ _ _ _ us hl => match us, hl with | [_, _, _], _ => rfl⟩
theorem fd_is_walk (X : K.In h) (G : h.Ns mainGlobals mg) (a : PySem.W.nsIn K mainGlobals "is_walk" = some (some (.ref f))) (l : K.lookup f = some ⟨oc, od, .func (PySem.W.fnOf "is_walk" "is_walk" (defArgs sWalk) (defBody sWalk) (defScope sWalk) .none kV dc pm an cd ct), sl⟩) (c : PySem.W.codeIn K cd "is_walk" = true) (k : PySem.W.keepIn K (.ref f) = true) : FunD K mg "is_walk" sWalk ["field", "thing"] :=
  ⟨f, _, PySem.W.mg_of X G a, fun_mk (st := sWalk) l c k, (fun_mk (st := sWalk) l c k).binds (ps := ["field", "thing"]) fun _ _ _ _ _ _ us hl => match us, hl with | [_, _], _ => rfl⟩
theorem fd_are_bars (X : K.In h) (G : h.Ns mainGlobals mg) (a : PySem.W.nsIn K mainGlobals "are_bars" = some (some (.ref f))) (l : K.lookup f = some ⟨oc, od, .func (PySem.W.fnOf "are_bars" "are_bars" (defArgs sBars) (defBody sBars) (defScope sBars) .none kV dc pm an cd ct), sl⟩) (c : PySem.W.codeIn K cd "are_bars" = true) (k : PySem.W.keepIn K (.ref f) = true) : FunD K mg "are_bars" sBars ["field", "a", "b", "cells"] :=
  ⟨f, _, PySem.W.mg_of X G a, fun_mk (st := sBars) l c k, (fun_mk (st := sBars) l c k).binds (ps := ["field", "a", "b", "cells"]) fun _ _ _ _ _ _ us hl => match us, hl with | [_, _, _, _], _ => rfl⟩
theorem fd_are_apart (X : K.In h) (G : h.Ns mainGlobals mg) (a : PySem.W.nsIn K mainGlobals "are_apart" = some (some (.ref f))) (l : K.lookup f = some ⟨oc, od, .func (PySem.W.fnOf "are_apart" "are_apart" (defArgs sApart) (defBody sApart) (defScope sApart) .none kV dc pm an cd ct), sl⟩) (c : PySem.W.codeIn K cd "are_apart" = true) (k : PySem.W.keepIn K (.ref f) = true) : FunD K mg "are_apart" sApart ["field", "a", "b", "ways"] :=
  ⟨f, _, PySem.W.mg_of X G a, fun_mk (st := sApart) l c k, (fun_mk (st := sApart) l c k).binds (ps := ["field", "a", "b", "ways"]) fun _ _ _ _ _ _ us hl => match us, hl with | [_, _, _, _], _ => rfl⟩
theorem fd_shows_barred (X : K.In h) (G : h.Ns mainGlobals mg) (a : PySem.W.nsIn K mainGlobals "shows_barred" = some (some (.ref f))) (l : K.lookup f = some ⟨oc, od, .func (PySem.W.fnOf "shows_barred" "shows_barred" (defArgs sShows) (defBody sShows) (defScope sShows) .none kV dc pm an cd ct), sl⟩) (c : PySem.W.codeIn K cd "shows_barred" = true) (k : PySem.W.keepIn K (.ref f) = true) : FunD K mg "shows_barred" sShows ["field", "a", "b", "cells", "ways"] :=
  ⟨f, _, PySem.W.mg_of X G a, fun_mk (st := sShows) l c k, (fun_mk (st := sShows) l c k).binds (ps := ["field", "a", "b", "cells", "ways"]) fun _ _ _ _ _ _ us hl => match us, hl with | [_, _, _, _, _], _ => rfl⟩
theorem fd__law_left (X : K.In h) (G : h.Ns mainGlobals mg) (a : PySem.W.nsIn K mainGlobals "_law_left" = some (some (.ref f))) (l : K.lookup f = some ⟨oc, od, .func (PySem.W.fnOf "_law_left" "_law_left" (defArgs sLeft) (defBody sLeft) (defScope sLeft) .none kV dc pm an cd ct), sl⟩) (c : PySem.W.codeIn K cd "_law_left" = true) (k : PySem.W.keepIn K (.ref f) = true) : FunD K mg "_law_left" sLeft ["_law_script", "_law_turn"] :=
  ⟨f, _, PySem.W.mg_of X G a, fun_mk (st := sLeft) l c k, (fun_mk (st := sLeft) l c k).binds (ps := ["_law_script", "_law_turn"]) fun _ _ _ _ _ _ us hl => match us, hl with | [_, _], _ => rfl⟩
theorem fd__law_pick (X : K.In h) (G : h.Ns mainGlobals mg) (a : PySem.W.nsIn K mainGlobals "_law_pick" = some (some (.ref f))) (l : K.lookup f = some ⟨oc, od, .func (PySem.W.fnOf "_law_pick" "_law_pick" (defArgs sPick) (defBody sPick) (defScope sPick) .none kV dc pm an cd ct), sl⟩) (c : PySem.W.codeIn K cd "_law_pick" = true) (k : PySem.W.keepIn K (.ref f) = true) : FunD K mg "_law_pick" sPick ["_law_left_here", "_law_many"] :=
  ⟨f, _, PySem.W.mg_of X G a, fun_mk (st := sPick) l c k, (fun_mk (st := sPick) l c k).binds (ps := ["_law_left_here", "_law_many"]) fun _ _ _ _ _ _ us hl => match us, hl with | [_, _], _ => rfl⟩
theorem fd__law_beside (X : K.In h) (G : h.Ns mainGlobals mg) (a : PySem.W.nsIn K mainGlobals "_law_beside" = some (some (.ref f))) (l : K.lookup f = some ⟨oc, od, .func (PySem.W.fnOf "_law_beside" "_law_beside" (defArgs sLBeside) (defBody sLBeside) (defScope sLBeside) .none kV dc pm an cd ct), sl⟩) (c : PySem.W.codeIn K cd "_law_beside" = true) (k : PySem.W.keepIn K (.ref f) = true) : FunD K mg "_law_beside" sLBeside ["_law_cell"] :=
  ⟨f, _, PySem.W.mg_of X G a, fun_mk (st := sLBeside) l c k, (fun_mk (st := sLBeside) l c k).binds (ps := ["_law_cell"]) fun _ _ _ _ _ _ us hl => match us, hl with | [_], _ => rfl⟩
theorem fd__law_part (X : K.In h) (G : h.Ns mainGlobals mg) (a : PySem.W.nsIn K mainGlobals "_law_part" = some (some (.ref f))) (l : K.lookup f = some ⟨oc, od, .func (PySem.W.fnOf "_law_part" "_law_part" (defArgs sLPart) (defBody sLPart) (defScope sLPart) .none kV dc pm an cd ct), sl⟩) (c : PySem.W.codeIn K cd "_law_part" = true) (k : PySem.W.keepIn K (.ref f) = true) : FunD K mg "_law_part" sLPart ["_law_some", "_law_begin"] :=
  ⟨f, _, PySem.W.mg_of X G a, fun_mk (st := sLPart) l c k, (fun_mk (st := sLPart) l c k).binds (ps := ["_law_some", "_law_begin"]) fun _ _ _ _ _ _ us hl => match us, hl with | [_, _], _ => rfl⟩
theorem fd__law_grown (X : K.In h) (G : h.Ns mainGlobals mg) (a : PySem.W.nsIn K mainGlobals "_law_grown" = some (some (.ref f))) (l : K.lookup f = some ⟨oc, od, .func (PySem.W.fnOf "_law_grown" "_law_grown" (defArgs sGrown) (defBody sGrown) (defScope sGrown) .none kV dc pm an cd ct), sl⟩) (c : PySem.W.codeIn K cd "_law_grown" = true) (k : PySem.W.keepIn K (.ref f) = true) : FunD K mg "_law_grown" sGrown ["_law_left_here", "_law_most"] :=
  ⟨f, _, PySem.W.mg_of X G a, fun_mk (st := sGrown) l c k, (fun_mk (st := sGrown) l c k).binds (ps := ["_law_left_here", "_law_most"]) fun _ _ _ _ _ _ us hl => match us, hl with | [_, _], _ => rfl⟩
theorem fd__law_field (X : K.In h) (G : h.Ns mainGlobals mg) (a : PySem.W.nsIn K mainGlobals "_law_field" = some (some (.ref f))) (l : K.lookup f = some ⟨oc, od, .func (PySem.W.fnOf "_law_field" "_law_field" (defArgs sLField) (defBody sLField) (defScope sLField) .none kV dc pm an cd ct), sl⟩) (c : PySem.W.codeIn K cd "_law_field" = true) (k : PySem.W.keepIn K (.ref f) = true) : FunD K mg "_law_field" sLField ["_law_left_here", "_law_most"] :=
  ⟨f, _, PySem.W.mg_of X G a, fun_mk (st := sLField) l c k, (fun_mk (st := sLField) l c k).binds (ps := ["_law_left_here", "_law_most"]) fun _ _ _ _ _ _ us hl => match us, hl with | [_, _], _ => rfl⟩
theorem fd__law_apart (X : K.In h) (G : h.Ns mainGlobals mg) (a : PySem.W.nsIn K mainGlobals "_law_apart" = some (some (.ref f))) (l : K.lookup f = some ⟨oc, od, .func (PySem.W.fnOf "_law_apart" "_law_apart" (defArgs sLApart) (defBody sLApart) (defScope sLApart) .none kV dc pm an cd ct), sl⟩) (c : PySem.W.codeIn K cd "_law_apart" = true) (k : PySem.W.keepIn K (.ref f) = true) : FunD K mg "_law_apart" sLApart ["_law_left_here", "_law_field_here"] :=
  ⟨f, _, PySem.W.mg_of X G a, fun_mk (st := sLApart) l c k, (fun_mk (st := sLApart) l c k).binds (ps := ["_law_left_here", "_law_field_here"]) fun _ _ _ _ _ _ us hl => match us, hl with | [_, _], _ => rfl⟩
theorem fd__law_together (X : K.In h) (G : h.Ns mainGlobals mg) (a : PySem.W.nsIn K mainGlobals "_law_together" = some (some (.ref f))) (l : K.lookup f = some ⟨oc, od, .func (PySem.W.fnOf "_law_together" "_law_together" (defArgs sTogether) (defBody sTogether) (defScope sTogether) .none kV dc pm an cd ct), sl⟩) (c : PySem.W.codeIn K cd "_law_together" = true) (k : PySem.W.keepIn K (.ref f) = true) : FunD K mg "_law_together" sTogether ["_law_some", "_law_a", "_law_b"] :=
  ⟨f, _, PySem.W.mg_of X G a, fun_mk (st := sTogether) l c k, (fun_mk (st := sTogether) l c k).binds (ps := ["_law_some", "_law_a", "_law_b"]) fun _ _ _ _ _ _ us hl => match us, hl with | [_, _, _], _ => rfl⟩
theorem fd__law_turned (X : K.In h) (G : h.Ns mainGlobals mg) (a : PySem.W.nsIn K mainGlobals "_law_turned" = some (some (.ref f))) (l : K.lookup f = some ⟨oc, od, .func (PySem.W.fnOf "_law_turned" "_law_turned" (defArgs sTurned) (defBody sTurned) (defScope sTurned) .none kV dc pm an cd ct), sl⟩) (c : PySem.W.codeIn K cd "_law_turned" = true) (k : PySem.W.keepIn K (.ref f) = true) : FunD K mg "_law_turned" sTurned ["_law_cells"] :=
  ⟨f, _, PySem.W.mg_of X G a, fun_mk (st := sTurned) l c k, (fun_mk (st := sTurned) l c k).binds (ps := ["_law_cells"]) fun _ _ _ _ _ _ us hl => match us, hl with | [_], _ => rfl⟩
theorem mt_doors_from (a : PySem.W.findIn K (.ref C) "doors_from" = some (some (.ref f))) (i : PySem.W.isFn K (.ref f) = true) (l : K.lookup f = some ⟨oc, od, .func (PySem.W.fnOf "doors_from" "Ways.doors_from" (defArgs sDoors) (defBody sDoors) (defScope sDoors) .none kV dc pm an cd ct), sl⟩) (c : PySem.W.codeIn K cd "Ways.doors_from" = true) (k : PySem.W.keepIn K (.ref f) = true) : MthD K C "doors_from" "Ways.doors_from" sDoors ["self", "door"] :=
  ⟨f, _, ⟨a, i, k⟩, fun_mk (st := sDoors) l c k, (fun_mk (st := sDoors) l c k).binds (ps := ["self", "door"]) fun _ _ _ _ _ _ us hl => match us, hl with | [_, _], _ => rfl⟩
theorem mt_search (a : PySem.W.findIn K (.ref C) "search" = some (some (.ref f))) (i : PySem.W.isFn K (.ref f) = true) (l : K.lookup f = some ⟨oc, od, .func (PySem.W.fnOf "search" "Ways.search" (defArgs sSearch) (defBody sSearch) (defScope sSearch) .none kV dc pm an cd ct), sl⟩) (c : PySem.W.codeIn K cd "Ways.search" = true) (k : PySem.W.keepIn K (.ref f) = true) : MthD K C "search" "Ways.search" sSearch ["self"] :=
  ⟨f, _, ⟨a, i, k⟩, fun_mk (st := sSearch) l c k, (fun_mk (st := sSearch) l c k).binds (ps := ["self"]) fun _ _ _ _ _ _ us hl => match us, hl with | [_], _ => rfl⟩
theorem mt_steps_of (a : PySem.W.findIn K (.ref C) "steps_of" = some (some (.ref f))) (i : PySem.W.isFn K (.ref f) = true) (l : K.lookup f = some ⟨oc, od, .func (PySem.W.fnOf "steps_of" "Ways.steps_of" (defArgs sSteps) (defBody sSteps) (defScope sSteps) .none kV dc pm an cd ct), sl⟩) (c : PySem.W.codeIn K cd "Ways.steps_of" = true) (k : PySem.W.keepIn K (.ref f) = true) : MthD K C "steps_of" "Ways.steps_of" sSteps ["self"] :=
  ⟨f, _, ⟨a, i, k⟩, fun_mk (st := sSteps) l c k, (fun_mk (st := sSteps) l c k).binds (ps := ["self"]) fun _ _ _ _ _ _ us hl => match us, hl with | [_], _ => rfl⟩
theorem mt_take_in (a : PySem.W.findIn K (.ref C) "take_in" = some (some (.ref f))) (i : PySem.W.isFn K (.ref f) = true) (l : K.lookup f = some ⟨oc, od, .func (PySem.W.fnOf "take_in" "Ways.take_in" (defArgs sTake) (defBody sTake) (defScope sTake) .none kV dc pm an cd ct), sl⟩) (c : PySem.W.codeIn K cd "Ways.take_in" = true) (k : PySem.W.keepIn K (.ref f) = true) : MthD K C "take_in" "Ways.take_in" sTake ["self", "met"] :=
  ⟨f, _, ⟨a, i, k⟩, fun_mk (st := sTake) l c k, (fun_mk (st := sTake) l c k).binds (ps := ["self", "met"]) fun _ _ _ _ _ _ us hl => match us, hl with | [_, _], _ => rfl⟩
theorem mt_all_ways (a : PySem.W.findIn K (.ref C) "all_ways" = some (some (.ref f))) (i : PySem.W.isFn K (.ref f) = true) (l : K.lookup f = some ⟨oc, od, .func (PySem.W.fnOf "all_ways" "Ways.all_ways" (defArgs sAllWays) (defBody sAllWays) (defScope sAllWays) .none kV dc pm an cd ct), sl⟩) (c : PySem.W.codeIn K cd "Ways.all_ways" = true) (k : PySem.W.keepIn K (.ref f) = true) : MthD K C "all_ways" "Ways.all_ways" sAllWays ["self"] :=
  ⟨f, _, ⟨a, i, k⟩, fun_mk (st := sAllWays) l c k, (fun_mk (st := sAllWays) l c k).binds (ps := ["self"]) fun _ _ _ _ _ _ us hl => match us, hl with | [_], _ => rfl⟩
theorem ini_mk (mk : PySem.W.makesIn K C = true) (kc : PySem.W.keepIn K (.ref C) = true) (a : PySem.W.findIn K (.ref C) "__init__" = some (some (.ref f))) (i : PySem.W.isFn K (.ref f) = true) (l : K.lookup f = some ⟨oc, od, .func (PySem.W.fnOf "__init__" "Ways.__init__" (defArgs sInit) (defBody sInit) (defScope sInit) .none kV dc pm an cd ct), sl⟩) (c : PySem.W.codeIn K cd "Ways.__init__" = true) (k : PySem.W.keepIn K (.ref f) = true) : IniD K C :=
  ⟨f, _, ⟨mk, a, i, kc⟩, fun_mk (st := sInit) l c k, (fun_mk (st := sInit) l c k).binds (ps := ["self", "field", "a", "b"]) fun _ _ _ _ _ _ us hl => match us, hl with | [_, _, _, _], _ => rfl⟩
theorem tx_mk {t1 t2 t3 : Nat} (X : K.In h) (G : h.Ns mainGlobals mg) (z1 : PySem.W.nsIn K mainGlobals "isinstance" = some none) (z2 : PySem.W.nsIn K mainGlobals "int" = some none) (z3 : PySem.W.nsIn K mainGlobals "bool" = some none) (z4 : PySem.W.nsIn K mainGlobals "tuple" = some none) (z5 : PySem.W.nsIn K mainGlobals "len" = some none) (z6 : PySem.W.nsIn K mainGlobals "all" = some none) (z7 : PySem.W.nsIn K mainGlobals "any" = some none) (z8 : PySem.W.nsIn K mainGlobals "zip" = some none) (z9 : PySem.W.nsIn K mainGlobals "dict" = some none) (z10 : PySem.W.nsIn K mainGlobals "sorted" = some none) (z11 : PySem.W.nsIn K mainGlobals "range" = some none) (z12 : PySem.W.nsIn K mainGlobals "max" = some none) (z13 : PySem.W.nsIn K mainGlobals "min" = some none) (m1 : PySem.W.nsIn K mainGlobals "MOST" = some (some (.int 30 t1))) (m2 : PySem.W.nsIn K mainGlobals "IN" = some (some (.int 0 t2))) (m3 : PySem.W.nsIn K mainGlobals "OUT" = some (some (.int 1 t3))) : Tx mg :=
  ⟨PySem.W.mg_none_of X G z1, PySem.W.mg_none_of X G z2, PySem.W.mg_none_of X G z3, PySem.W.mg_none_of X G z4, PySem.W.mg_none_of X G z5, PySem.W.mg_none_of X G z6, PySem.W.mg_none_of X G z7, PySem.W.mg_none_of X G z8, PySem.W.mg_none_of X G z9, PySem.W.mg_none_of X G z10, PySem.W.mg_none_of X G z11, PySem.W.mg_none_of X G z12, PySem.W.mg_none_of X G z13, ⟨_, PySem.W.mg_of X G m1⟩, ⟨_, PySem.W.mg_of X G m2⟩, ⟨_, PySem.W.mg_of X G m3⟩⟩
theorem tw_mk (pg : PySem.W.plainGet K C Str.empty = true) (hd : PySem.W.hasDictIn K C = true) (po : PySem.W.plainOver K C = true) (sa : PySem.W.findIn K (.ref C) "__setattr__" = some (some (.builtin "object.__setattr__"))) (n1 : PySem.W.findIn K (.ref C) "a" = some none) (n2 : PySem.W.findIn K (.ref C) "b" = some none) (n3 : PySem.W.findIn K (.ref C) "near" = some none) (n4 : PySem.W.findIn K (.ref C) "behind" = some none) (n5 : PySem.W.findIn K (.ref C) "ahead" = some none) (n6 : PySem.W.findIn K (.ref C) "firsts" = some none) : TxW K C := ⟨⟨pg, hd, po, sa⟩, n1, n2, n3, n4, n5, n6⟩
end
section
variable {P : Program} {w : World} {K : PySem.W.Frag} {mg : Str → Option Value} {C : Addr}
theorem all_law (T : Tx mg) (TW : TxW K C) (hC : mg "Ways" = some (.ref C)) (I : IniD K C) (M1 : MthD K C "doors_from" "Ways.doors_from" sDoors ["self", "door"]) (M2 : MthD K C "search" "Ways.search" sSearch ["self"]) (M3 : MthD K C "steps_of" "Ways.steps_of" sSteps ["self"]) (M4 : MthD K C "take_in" "Ways.take_in" sTake ["self", "met"]) (M5 : MthD K C "all_ways" "Ways.all_ways" sAllWays ["self"]) (F1 : FunD K mg "is_whole" sWhole ["thing"]) (F2 : FunD K mg "is_cell" sCell ["thing"]) (F3 : FunD K mg "are_rising" sRising ["things"]) (F4 : FunD K mg "is_floor" sFloor ["thing"]) (F5 : FunD K mg "beside" sBeside ["cell"]) (F6 : FunD K mg "neighbours" sNeigh ["floor", "cell"]) (F7 : FunD K mg "neighbours_of_all" sNeighAll ["floor"]) (F8 : FunD K mg "part_of" sPartOf ["near", "cell"]) (F9 : FunD K mg "parts" sParts ["floor"]) (F10 : FunD K mg "are_near" sNear ["field", "a", "b"]) (F11 : FunD K mg "barred" sBarred ["field", "a", "b"]) (F12 : FunD K mg "is_walk" sWalk ["field", "thing"]) (F13 : FunD K mg "are_bars" sBars ["field", "a", "b", "cells"]) (F14 : FunD K mg "are_apart" sApart ["field", "a", "b", "ways"]) (F15 : FunD K mg "shows_barred" sShows ["field", "a", "b", "cells", "ways"]) (F16 : FunD K mg "_law_left" sLeft ["_law_script", "_law_turn"]) (F17 : FunD K mg "_law_pick" sPick ["_law_left_here", "_law_many"]) (F18 : FunD K mg "_law_beside" sLBeside ["_law_cell"]) (F19 : FunD K mg "_law_part" sLPart ["_law_some", "_law_begin"]) (F20 : FunD K mg "_law_grown" sGrown ["_law_left_here", "_law_most"]) (F21 : FunD K mg "_law_field" sLField ["_law_left_here", "_law_most"]) (F22 : FunD K mg "_law_apart" sLApart ["_law_left_here", "_law_field_here"]) (F23 : FunD K mg "_law_together" sTogether ["_law_some", "_law_a", "_law_b"]) (F24 : FunD K mg "_law_turned" sTurned ["_law_cells"]) {f : Addr} {fd : FuncData} (F : Fun K "law" "law" sLaw f fd) (base : Heap) : FnOk P w K mg base CX0 6 f fd ["_law_script"] (spLaw K) := by
  have G1 : Dn P w K mg base 1 "is_whole" ["thing"] spWhole := ok_whole T F1
  have G2 : Dn P w K mg base 2 "is_cell" ["thing"] spCell := ok_cell T G1 F2
  have G3 : Dn P w K mg base 1 "are_rising" ["things"] spRising := ok_rising T F3
  have G4 : Dn P w K mg base 3 "is_floor" ["thing"] spFloor := ok_floor T G2 G3 F4
  have G5 : Dn P w K mg base 1 "beside" ["cell"] spBeside := ok_beside F5
  have G6 : Dn P w K mg base 2 "neighbours" ["floor", "cell"] spNeigh := ok_neigh T G5 F6
  have G7 : Dn P w K mg base 2 "neighbours_of_all" ["floor"] (spNeighAll P w) := ok_neighAll T G5 F7
  have G8 : Dn P w K mg base 1 "part_of" ["near", "cell"] (spPartOf P w) := ok_partOf T F8
  have G9 : Dn P w K mg base 3 "parts" ["floor"] spParts := ok_parts T G7 G8 F9
  have G10 : Dn P w K mg base 3 "are_near" ["field", "a", "b"] spNear := ok_near T G6 F10
  have N1 : MDn P w K mg base 1 C "doors_from" ["self", "door"] (spDoors P w C) := ok_doors T TW M1
  have N2 : MDn P w K mg base 2 C "search" ["self"] (spSearch P w C) := ok_search T TW N1 M2
  have N3 : MDn P w K mg base 1 C "steps_of" ["self"] (spSteps P w C) := ok_steps T TW M3
  have N4 : MDn P w K mg base 2 C "take_in" ["self", "met"] (spTake P w C) := ok_take T TW N3 M4
  have N5 : MDn P w K mg base 1 C "all_ways" ["self"] (spAllWays P w C) := ok_allWays T TW M5
  have MK : MkOk P w K mg base 3 C ["self", "field", "a", "b"] (spInit P w C) := by
    obtain ⟨fi, fdi, mk, Fi, bi⟩ := I
    exact ⟨fi, fdi, mk, ok_init Fi T TW G6, bi⟩
  have G11 : Dn P w K mg base 5 "barred" ["field", "a", "b"] spBarred := ok_barred T TW hC G10 MK N2 N4 N5 F11
  have G12 : Dn P w K mg base 3 "is_walk" ["field", "thing"] spWalk := ok_walk T G2 G5 F12
  have G13 : Dn P w K mg base 4 "are_bars" ["field", "a", "b", "cells"] spBars := ok_bars T G4 G9 F13
  have G14 : Dn P w K mg base 4 "are_apart" ["field", "a", "b", "ways"] spApart := ok_apart T G12 F14
  have G15 : Dn P w K mg base 5 "shows_barred" ["field", "a", "b", "cells", "ways"] spShows := ok_shows T G10 G13 G14 F15
  have G16 : Dn P w K mg base 1 "_law_left" ["_law_script", "_law_turn"] (spLeft K) := ok_left T F16
  have G17 : Dn P w K mg base 1 "_law_pick" ["_law_left_here", "_law_many"] spPick := ok_pick F17
  have G18 : Dn P w K mg base 1 "_law_beside" ["_law_cell"] spLB := ok_lb F18
  have G19 : Dn P w K mg base 2 "_law_part" ["_law_some", "_law_begin"] spLP := ok_lp T G18 F19
  have G20 : Dn P w K mg base 2 "_law_grown" ["_law_left_here", "_law_most"] spGrown := ok_grown T G17 G18 F20
  have G21 : Dn P w K mg base 3 "_law_field" ["_law_left_here", "_law_most"] spLField := ok_lfield T G17 G20 G19 F21
  have G22 : Dn P w K mg base 2 "_law_apart" ["_law_left_here", "_law_field_here"] spLA := ok_la T G17 G18 F22
  have G23 : Dn P w K mg base 4 "_law_together" ["_law_some", "_law_a", "_law_b"] spTog := ok_tog T G9 F23
  have G24 : Dn P w K mg base 1 "_law_turned" ["_law_cells"] spTurned := ok_turned T F24
  exact ok_law T G16 G21 G22 G11 G23 G12 G24 G15 F
end
theorem fin {l : PySem.W.OpenLaw} {w : World} {K : PySem.W.Frag} {h : Heap} {mg : Str → Option Value} {fa C f25 : Addr} {od25 an25 : Option Addr} {sl25 : Array (Option Value)} {oc25 kV25 dc25 pm25 cd25 ct25 : Value} (X : K.In h) (G : h.Ns mainGlobals mg) (hfa : mg "law" = some (.ref fa))
    (aC : PySem.W.nsIn K mainGlobals "Ways" = some (some (.ref C))) (T : Tx mg) (TW : TxW K C) (I : IniD K C) (M1 : MthD K C "doors_from" "Ways.doors_from" sDoors ["self", "door"]) (M2 : MthD K C "search" "Ways.search" sSearch ["self"]) (M3 : MthD K C "steps_of" "Ways.steps_of" sSteps ["self"]) (M4 : MthD K C "take_in" "Ways.take_in" sTake ["self", "met"]) (M5 : MthD K C "all_ways" "Ways.all_ways" sAllWays ["self"]) (F1 : FunD K mg "is_whole" sWhole ["thing"]) (F2 : FunD K mg "is_cell" sCell ["thing"]) (F3 : FunD K mg "are_rising" sRising ["things"]) (F4 : FunD K mg "is_floor" sFloor ["thing"]) (F5 : FunD K mg "beside" sBeside ["cell"]) (F6 : FunD K mg "neighbours" sNeigh ["floor", "cell"]) (F7 : FunD K mg "neighbours_of_all" sNeighAll ["floor"]) (F8 : FunD K mg "part_of" sPartOf ["near", "cell"]) (F9 : FunD K mg "parts" sParts ["floor"]) (F10 : FunD K mg "are_near" sNear ["field", "a", "b"]) (F11 : FunD K mg "barred" sBarred ["field", "a", "b"]) (F12 : FunD K mg "is_walk" sWalk ["field", "thing"]) (F13 : FunD K mg "are_bars" sBars ["field", "a", "b", "cells"]) (F14 : FunD K mg "are_apart" sApart ["field", "a", "b", "ways"]) (F15 : FunD K mg "shows_barred" sShows ["field", "a", "b", "cells", "ways"]) (F16 : FunD K mg "_law_left" sLeft ["_law_script", "_law_turn"]) (F17 : FunD K mg "_law_pick" sPick ["_law_left_here", "_law_many"]) (F18 : FunD K mg "_law_beside" sLBeside ["_law_cell"]) (F19 : FunD K mg "_law_part" sLPart ["_law_some", "_law_begin"]) (F20 : FunD K mg "_law_grown" sGrown ["_law_left_here", "_law_most"]) (F21 : FunD K mg "_law_field" sLField ["_law_left_here", "_law_most"]) (F22 : FunD K mg "_law_apart" sLApart ["_law_left_here", "_law_field_here"]) (F23 : FunD K mg "_law_together" sTogether ["_law_some", "_law_a", "_law_b"]) (F24 : FunD K mg "_law_turned" sTurned ["_law_cells"])
    (a25 : PySem.W.nsIn K mainGlobals "law" = some (some (.ref f25))) (l25 : K.lookup f25 = some ⟨oc25, od25, .func (PySem.W.fnOf "law" "law" (defArgs sLaw) (defBody sLaw) (defScope sLaw) .none kV25 dc25 pm25 an25 cd25 ct25), sl25⟩) (c25 : PySem.W.codeIn K cd25 "law" = true) (k25 : PySem.W.keepIn K (.ref f25) = true) :
    ∃ fd : FuncData, (∀ (s : Shared) (v : Value), BindsTo s fd ⟨[v], []⟩ [("_law_script", v)]) ∧ ∀ base : Heap, K.In base → base.Ns mainGlobals mg → FnOk l.prog w K mg base CX0 6 fa fd ["_law_script"] (spLaw K) := by
  have e := hfa.symm.trans (PySem.W.mg_of X G a25)
  cases e
  exact ⟨PySem.W.fnOf "law" "law" (defArgs sLaw) (defBody sLaw) (defScope sLaw) .none kV25 dc25 pm25 an25 cd25 ct25, fun s v => .of_eq rfl, fun base _ _ => all_law T TW (PySem.W.mg_of X G aC) I M1 M2 M3 M4 M5 F1 F2 F3 F4 F5 F6 F7 F8 F9 F10 F11 F12 F13 F14 F15 F16 F17 F18 F19 F20 F21 F22 F23 F24 (fun_mk (st := sLaw) l25 c25 k25) base⟩
theorem walk {l : PySem.W.OpenLaw} {q : Program} {loose : List Str} {XP : (Str → Option Value) → Heap → Prop} {YP : World → Heap → Prop} {d : DefRec} {K : Params → PySem.W.Frag} (hn : l.most = some 63) (hdf : d.params.defaults = [])
    (hY : ∀ (w : World) (h : Heap), YP w h → (K w.params).In h)
    (F : ∀ (w : World) (mg : Str → Option Value) (fa : Addr) (h : Heap), (K w.params).In h → h.Ns mainGlobals mg → mg d.name = some (.ref fa) →
      ∃ fd : FuncData, (∀ (s : Shared) (u : Value), BindsTo s fd ⟨[u], []⟩ [("_law_script", u)]) ∧ ∀ base : Heap, (K w.params).In base → base.Ns mainGlobals mg → FnOk l.prog w (K w.params) mg base CX0 6 fa fd ["_law_script"] (spLaw (K w.params))) :
    PySem.W.WalkO q loose XP YP l.row.toRowW d [] (fun f vs => PySem.call f vs) :=
  L2.walk_of (n := 63) (k := 6) (x := "_law_script") (CX := fun _ => CX0) (sp := fun w => spLaw (K w.params)) hn (by decide) hdf ⟨rfl, by decide, by decide⟩ hY F (fun _ _ a ns hl _ hS => ⟨a, ns, rfl, hS, hl, fun _ => rfl⟩) fun _ _ _ _ _ z => z
end MF

set_option Elab.async false
set_option linter.all false
open PySem PySem.W PyProof.Rows
set_option maxRecDepth 100000 in
set_option maxHeartbeats 0 in
theorem PySem.Challenge.cw_mowfloor_k36_whole_bars_and_ways_holds : PySem.Challenge.rw_mowfloor_k36_whole_bars_and_ways.Holds := by
  w_on; o_law; k_head; (case hw => w_witness2)
  k_fill
  refine MF.walk (l := PySem.Challenge.rw_mowfloor_k36_whole_bars_and_ways) rfl rfl (fun w h Y => PySem.W.kIn_of Y) ?F
  case F =>
    intro w mg fa h KX G hmg
    refine' MF.fin KX G hmg ?aC (MF.tx_mk KX G ?z1 ?z2 ?z3 ?z4 ?z5 ?z6 ?z7 ?z8 ?z9 ?z10 ?z11 ?z12 ?z13 ?n1 ?n2 ?n3) (MF.tw_mk ?pg ?hd ?po ?sa ?nA ?nB ?nN ?nK ?nH ?nF) (MF.ini_mk ?mk ?kc ?ai ?ii ?li ?ci ?ki)
      (MF.mt_doors_from ?am1 ?im1 ?lm1 ?cm1 ?km1) (MF.mt_search ?am2 ?im2 ?lm2 ?cm2 ?km2) (MF.mt_steps_of ?am3 ?im3 ?lm3 ?cm3 ?km3) (MF.mt_take_in ?am4 ?im4 ?lm4 ?cm4 ?km4) (MF.mt_all_ways ?am5 ?im5 ?lm5 ?cm5 ?km5)
      (MF.fd_is_whole KX G ?a1 ?l1 ?c1 ?k1) (MF.fd_is_cell KX G ?a2 ?l2 ?c2 ?k2) (MF.fd_are_rising KX G ?a3 ?l3 ?c3 ?k3) (MF.fd_is_floor KX G ?a4 ?l4 ?c4 ?k4) (MF.fd_beside KX G ?a5 ?l5 ?c5 ?k5) (MF.fd_neighbours KX G ?a6 ?l6 ?c6 ?k6) (MF.fd_neighbours_of_all KX G ?a7 ?l7 ?c7 ?k7) (MF.fd_part_of KX G ?a8 ?l8 ?c8 ?k8) (MF.fd_parts KX G ?a9 ?l9 ?c9 ?k9) (MF.fd_are_near KX G ?a10 ?l10 ?c10 ?k10) (MF.fd_barred KX G ?a11 ?l11 ?c11 ?k11) (MF.fd_is_walk KX G ?a12 ?l12 ?c12 ?k12) (MF.fd_are_bars KX G ?a13 ?l13 ?c13 ?k13) (MF.fd_are_apart KX G ?a14 ?l14 ?c14 ?k14) (MF.fd_shows_barred KX G ?a15 ?l15 ?c15 ?k15) (MF.fd__law_left KX G ?a16 ?l16 ?c16 ?k16) (MF.fd__law_pick KX G ?a17 ?l17 ?c17 ?k17) (MF.fd__law_beside KX G ?a18 ?l18 ?c18 ?k18) (MF.fd__law_part KX G ?a19 ?l19 ?c19 ?k19) (MF.fd__law_grown KX G ?a20 ?l20 ?c20 ?k20) (MF.fd__law_field KX G ?a21 ?l21 ?c21 ?k21) (MF.fd__law_apart KX G ?a22 ?l22 ?c22 ?k22) (MF.fd__law_together KX G ?a23 ?l23 ?c23 ?k23) (MF.fd__law_turned KX G ?a24 ?l24 ?c24 ?k24)
      ?a25 ?l25 ?c25 ?k25
    (case aC => k_is); (case z1 => k_is); (case z2 => k_is); (case z3 => k_is); (case z4 => k_is); (case z5 => k_is); (case z6 => k_is); (case z7 => k_is)
    (case z8 => k_is); (case z9 => k_is); (case z10 => k_is); (case z11 => k_is); (case z12 => k_is); (case z13 => k_is); (case n1 => k_is); (case n2 => k_is)
    (case n3 => k_is); (case pg => k_is); (case hd => k_is); (case po => k_is); (case sa => k_is); (case nA => k_is); (case nB => k_is); (case nN => k_is)
    (case nK => k_is); (case nH => k_is); (case nF => k_is); (case mk => k_is); (case kc => k_is); (case ai => k_is); (case ii => k_is); (case li => k_is)
    (case ci => k_is); (case ki => k_is); (case am1 => k_is); (case im1 => k_is); (case lm1 => k_is); (case cm1 => k_is); (case km1 => k_is); (case am2 => k_is)
    (case im2 => k_is); (case lm2 => k_is); (case cm2 => k_is); (case km2 => k_is); (case am3 => k_is); (case im3 => k_is); (case lm3 => k_is); (case cm3 => k_is)
    (case km3 => k_is); (case am4 => k_is); (case im4 => k_is); (case lm4 => k_is); (case cm4 => k_is); (case km4 => k_is); (case am5 => k_is); (case im5 => k_is)
    (case lm5 => k_is); (case cm5 => k_is); (case km5 => k_is); (case a1 => k_is); (case l1 => k_is); (case c1 => k_is); (case k1 => k_is); (case a2 => k_is)
    (case l2 => k_is); (case c2 => k_is); (case k2 => k_is); (case a3 => k_is); (case l3 => k_is); (case c3 => k_is); (case k3 => k_is); (case a4 => k_is)
    (case l4 => k_is); (case c4 => k_is); (case k4 => k_is); (case a5 => k_is); (case l5 => k_is); (case c5 => k_is); (case k5 => k_is); (case a6 => k_is)
    (case l6 => k_is); (case c6 => k_is); (case k6 => k_is); (case a7 => k_is); (case l7 => k_is); (case c7 => k_is); (case k7 => k_is); (case a8 => k_is)
    (case l8 => k_is); (case c8 => k_is); (case k8 => k_is); (case a9 => k_is); (case l9 => k_is); (case c9 => k_is); (case k9 => k_is); (case a10 => k_is)
    (case l10 => k_is); (case c10 => k_is); (case k10 => k_is); (case a11 => k_is); (case l11 => k_is); (case c11 => k_is); (case k11 => k_is); (case a12 => k_is)
    (case l12 => k_is); (case c12 => k_is); (case k12 => k_is); (case a13 => k_is); (case l13 => k_is); (case c13 => k_is); (case k13 => k_is); (case a14 => k_is)
    (case l14 => k_is); (case c14 => k_is); (case k14 => k_is); (case a15 => k_is); (case l15 => k_is); (case c15 => k_is); (case k15 => k_is); (case a16 => k_is)
    (case l16 => k_is); (case c16 => k_is); (case k16 => k_is); (case a17 => k_is); (case l17 => k_is); (case c17 => k_is); (case k17 => k_is); (case a18 => k_is)
    (case l18 => k_is); (case c18 => k_is); (case k18 => k_is); (case a19 => k_is); (case l19 => k_is); (case c19 => k_is); (case k19 => k_is); (case a20 => k_is)
    (case l20 => k_is); (case c20 => k_is); (case k20 => k_is); (case a21 => k_is); (case l21 => k_is); (case c21 => k_is); (case k21 => k_is); (case a22 => k_is)
    (case l22 => k_is); (case c22 => k_is); (case k22 => k_is); (case a23 => k_is); (case l23 => k_is); (case c23 => k_is); (case k23 => k_is); (case a24 => k_is)
    (case l24 => k_is); (case c24 => k_is); (case k24 => k_is); (case a25 => k_is); (case l25 => k_is); (case c25 => k_is); (case k25 => k_is)
#print axioms PySem.Challenge.cw_mowfloor_k36_whole_bars_and_ways_holds
