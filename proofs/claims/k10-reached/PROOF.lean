import PyProof.Rows.All
import Wide.All
import OpenK.AllK
import Wide.FinOn
import HandS.ForMost
import HandS.Walk
import HandS.Star
import HandS.IsInst
import HandS.Deep
import HandS.Evl
import HandS.Conv
import HandS.NoneIn
import HandS.TupAny
import KE.KDictPairs
import KE.KDictDisplayH
import KE.GoesEnum
import PySem.Challenge.RW_liftedladders_k10_whole_reached_places
set_option Elab.async false
set_option linter.all false
set_option maxRecDepth 100000
set_option maxHeartbeats 2100000
/-! The mathematics: places, moves, what is reached, least numbers of friends, ascending lists. -/
namespace M10

abbrev Place := List Int
structure Move where
  ins : List Place
  outs : List Place

/-! ### lists -/
theorem nodup_len {α : Type} [DecidableEq α] : ∀ {l1 l2 : List α}, l1.Nodup → (∀ x ∈ l1, x ∈ l2) → l1.length ≤ l2.length
  | [], _, _, _ => by exact Nat.zero_le _
  | a :: r, l2, nd, sub => by
    obtain ⟨h1, h2⟩ := List.nodup_cons.mp nd
    have ha : a ∈ l2 := sub a List.mem_cons_self
    have q := nodup_len (l1 := r) (l2 := l2.erase a) h2 fun x hx => (List.mem_erase_of_ne (fun e : x = a => h1 (e ▸ hx))).mpr (sub x (List.mem_cons_of_mem _ hx))
    rw [List.length_erase_of_mem ha] at q
    have := List.length_pos_of_mem ha
    rw [List.length_cons]
    omega
theorem nodup_snoc {α : Type} {l : List α} {k : α} (h : l.Nodup) (hk : k ∉ l) : (l ++ [k]).Nodup := by
  rw [List.nodup_append]
  refine ⟨h, by simp, fun a ha b hb e => ?_⟩
  rw [List.mem_singleton] at hb
  subst hb
  subst e
  exact hk ha
theorem sum_lt {α : Type} {g h : α → Nat} : ∀ {l : List α}, (∀ x ∈ l, g x ≤ h x) → (∃ x ∈ l, g x < h x) → (l.map g).sum < (l.map h).sum
  | [], _, ⟨_, hx, _⟩ => by cases hx
  | a :: r, hle, ⟨x, hx, hlt⟩ => by
    have ha := hle a List.mem_cons_self
    have hr : ∀ {l : List α}, (∀ x ∈ l, g x ≤ h x) → (l.map g).sum ≤ (l.map h).sum := fun {l} => by
      induction l with
      | nil => intro _; exact Nat.le_refl _
      | cons b t ih =>
        intro hb
        have h1 := hb b List.mem_cons_self
        have h2 := ih fun y hy => hb y (List.mem_cons_of_mem _ hy)
        simp only [List.sum_cons, List.map_cons]
        omega
    have hr' := hr fun y hy => hle y (List.mem_cons_of_mem _ hy)
    simp only [List.sum_cons, List.map_cons]
    rcases (List.mem_cons.mp hx) with rfl | hx
    · omega
    · have := sum_lt (fun y hy => hle y (List.mem_cons_of_mem _ hy)) ⟨x, hx, hlt⟩
      omega

/-! ### a strict order, ascending lists -/
section
variable {α : Type} [DecidableEq α] {lt : α → α → Bool}
structure SO (lt : α → α → Bool) : Prop where
  irr : ∀ a, lt a a = false
  tr : ∀ a b c, lt a b = true → lt b c = true → lt a c = true
  tot : ∀ a b, a = b ∨ lt a b = true ∨ lt b a = true
def Asc (lt : α → α → Bool) (l : List α) : Prop := l.Pairwise fun a b => lt a b = true
theorem Asc.nodup (so : SO lt) {l : List α} (h : Asc lt l) : l.Nodup := h.imp fun {a b} e q => by
  subst q
  rw [so.irr] at e
  cases e
theorem asc_ext (so : SO lt) : ∀ {l1 l2 : List α}, Asc lt l1 → Asc lt l2 → (∀ x, x ∈ l1 ↔ x ∈ l2) → l1 = l2
  | [], [], _, _, _ => rfl
  | [], b :: _, _, _, h => by have := (h b).mpr List.mem_cons_self; cases this
  | a :: _, [], _, _, h => by have := (h a).mp List.mem_cons_self; cases this
  | a :: r, b :: t, h1, h2, h => by
    obtain ⟨a1, a2⟩ := List.pairwise_cons.mp h1
    obtain ⟨b1, b2⟩ := List.pairwise_cons.mp h2
    have nl : ∀ x y, lt x y = true → lt y x = true → False := fun x y p q => by
      have := so.tr x y x p q
      rw [so.irr] at this
      cases this
    have e : a = b := by
      rcases List.mem_cons.mp ((h a).mp List.mem_cons_self) with e | e
      · exact e
      · rcases List.mem_cons.mp ((h b).mpr List.mem_cons_self) with e' | e'
        · exact e'.symm
        · exact (nl b a (b1 a e) (a1 b e')).elim
    subst e
    have na : a ∉ r := fun q => by
      have := a1 a q
      rw [so.irr] at this
      cases this
    have nb : a ∉ t := fun q => by
      have := b1 a q
      rw [so.irr] at this
      cases this
    rw [asc_ext so a2 b2 fun x => ⟨fun hx => ?_, fun hx => ?_⟩]
    · rcases List.mem_cons.mp ((h x).mp (List.mem_cons_of_mem _ hx)) with e | e
      · exact absurd (e ▸ hx) na
      · exact e
    · rcases List.mem_cons.mp ((h x).mpr (List.mem_cons_of_mem _ hx)) with e | e
      · exact absurd (e ▸ hx) nb
      · exact e
/-- put into an ascending list -/
def insP (lt : α → α → Bool) (l : List α) (p : α) : List α := l.filter (fun x => lt x p) ++ p :: l.filter (fun x => !lt x p)
theorem asc_split (so : SO lt) (p : α) : ∀ {l : List α}, Asc lt l → l = l.filter (fun x => lt x p) ++ l.filter (fun x => !lt x p)
  | [], _ => rfl
  | a :: r, h => by
    obtain ⟨a1, a2⟩ := List.pairwise_cons.mp h
    have ih := asc_split so p a2
    cases e : lt a p with
    | true =>
      rw [List.filter_cons_of_pos (by simpa using e), List.filter_cons_of_neg (by simp [e]), List.cons_append, ← ih]
    | false =>
      have hn : r.filter (fun x => lt x p) = [] := by
        rw [List.filter_eq_nil_iff]
        intro x hx q
        have := so.tr a x p (a1 x hx) q
        rw [e] at this
        cases this
      rw [hn, List.nil_append] at ih
      rw [List.filter_cons_of_neg (by simp [e]), List.filter_cons_of_pos (by simp [e]), hn, List.nil_append, ← ih]
theorem insP_take (so : SO lt) {l : List α} (p : α) (h : Asc lt l) : l.take (l.filter (fun x => lt x p)).length = l.filter (fun x => lt x p) := by
  conv => lhs; rw [asc_split so p h]
  rw [List.take_append_of_le_length]
  · conv =>
      lhs
      arg 1
      rw [← asc_split so p h]
    rw [List.take_length]
  · conv => rhs; rw [asc_split so p h]
    simp
theorem insP_drop (so : SO lt) {l : List α} (p : α) (h : Asc lt l) : l.drop (l.filter (fun x => lt x p)).length = l.filter (fun x => !lt x p) := by
  have e := List.take_append_drop (l.filter (fun x => lt x p)).length l
  rw [insP_take so p h] at e
  have e2 := asc_split so p h
  exact List.append_cancel_left (e.trans e2)
theorem mem_insP {l : List α} {p x : α} : x ∈ insP lt l p ↔ x = p ∨ x ∈ l := by
  unfold insP
  rw [List.mem_append, List.mem_cons, List.mem_filter, List.mem_filter]
  constructor
  · rintro (⟨h, _⟩ | h | ⟨h, _⟩)
    · exact .inr h
    · exact .inl h
    · exact .inr h
  · rintro (h | h)
    · exact .inr (.inl h)
    · cases e : lt x p with
      | true => exact .inl ⟨h, rfl⟩
      | false => exact .inr (.inr ⟨h, rfl⟩)
theorem insP_length (so : SO lt) {l : List α} (p : α) (h : Asc lt l) : (insP lt l p).length = l.length + 1 := by
  have e := congrArg List.length (asc_split so p h)
  unfold insP
  simp only [List.length_append, List.length_cons] at e ⊢
  omega
theorem insP_asc (so : SO lt) {l : List α} {p : α} (h : Asc lt l) (hp : p ∉ l) : Asc lt (insP lt l p) := by
  unfold insP Asc
  rw [List.pairwise_append]
  refine ⟨h.filter _, List.pairwise_cons.mpr ⟨fun x hx => ?_, h.filter _⟩, fun x hx y hy => ?_⟩
  · obtain ⟨h1, h2⟩ := List.mem_filter.mp hx
    have h2' : lt x p = false := by simpa using h2
    rcases so.tot p x with e | e | e
    · exact absurd (e ▸ h1) hp
    · exact e
    · rw [h2'] at e; cases e
  · obtain ⟨h1, h2⟩ := List.mem_filter.mp hx
    rcases (List.mem_cons.mp hy) with rfl | hy
    · exact h2
    · obtain ⟨h3, h4⟩ := List.mem_filter.mp hy
      have h4' : lt y p = false := by simpa using h4
      have hpy : lt p y = true := by
        rcases so.tot p y with e | e | e
        · exact absurd (e ▸ h3) hp
        · exact e
        · rw [h4'] at e; cases e
      exact so.tr x p y h2 hpy
def inOrder (lt : α → α → Bool) (l : List α) : List α := l.foldl (insP lt) []
theorem inOrder_snoc (l : List α) (p : α) : inOrder lt (l ++ [p]) = insP lt (inOrder lt l) p := by
  unfold inOrder
  rw [List.foldl_append]
  rfl
theorem inOrder_ok (so : SO lt) (l : List α) : l.Nodup → Asc lt (inOrder lt l) ∧ (∀ x, x ∈ inOrder lt l ↔ x ∈ l) ∧ (inOrder lt l).length = l.length := by
  suffices h : ∀ (r acc : List α), Asc lt acc → (∀ x ∈ acc, x ∉ r) → r.Nodup → Asc lt (r.foldl (insP lt) acc) ∧ (∀ x, x ∈ r.foldl (insP lt) acc ↔ x ∈ acc ∨ x ∈ r) ∧ (r.foldl (insP lt) acc).length = acc.length + r.length by
    intro nd
    obtain ⟨h1, h2, h3⟩ := h l [] List.Pairwise.nil (fun x hx => by cases hx) nd
    refine ⟨h1, fun x => (h2 x).trans ?_, h3.trans (by simp)⟩
    simp
  intro r
  induction r with
  | nil => intro acc h1 _ _; exact ⟨h1, fun x => by simp, rfl⟩
  | cons a t ih =>
    intro acc h1 h2 nd
    obtain ⟨n1, n2⟩ := (List.nodup_cons.mp nd)
    have ha : a ∉ acc := fun q => h2 a q List.mem_cons_self
    obtain ⟨i1, i2, i3⟩ := ih (insP lt acc a) (insP_asc so h1 ha) (fun x hx q => by
      rcases mem_insP.mp hx with rfl | hx
      · exact n1 q
      · exact h2 x hx (List.mem_cons_of_mem _ q)) n2
    refine ⟨i1, fun x => ?_, ?_⟩
    · rw [List.foldl_cons, i2, mem_insP, List.mem_cons]
      constructor
      · rintro ((h | h) | h)
        · exact .inr (.inl h)
        · exact .inl h
        · exact .inr (.inr h)
      · rintro (h | h | h)
        · exact .inl (.inr h)
        · exact .inl (.inl h)
        · exact .inr h
    · rw [List.foldl_cons, i3, insP_length so a h1, List.length_cons]
      omega
theorem inOrder_self (so : SO lt) {l : List α} (h : Asc lt l) : inOrder lt l = l := by
  obtain ⟨h1, h2, _⟩ := inOrder_ok so l (h.nodup so)
  exact asc_ext so h1 h h2
end

/-! ### what is reached -/
inductive Reach (ms : List Move) (s : Place) : Place → Prop
  | start : Reach ms s s
  | step {m : Move} {p : Place} : m ∈ ms → (∀ q ∈ m.ins, Reach ms s q) → p ∈ m.outs → Reach ms s p
theorem Reach.least {ms : List Move} {s p : Place} (h : Reach ms s p) {C : Place → Prop} (h0 : C s) (hc : ∀ m ∈ ms, (∀ q ∈ m.ins, C q) → ∀ p ∈ m.outs, C p) : C p := by
  induction h with
  | start => exact h0
  | step hm _ hp ih => exact hc _ hm ih _ hp
theorem Reach.mono {ms ms' : List Move} {s p : Place} (hs : ∀ m ∈ ms, m ∈ ms') (h : Reach ms s p) : Reach ms' s p :=
  h.least .start fun m hm hq p hp => .step (hs m hm) hq hp

/-- ways that are in order -/
structure VMove (ps : List Place) (m : Move) : Prop where
  sz : m.ins.length = 1 ∨ m.ins.length = 2 ∨ m.ins.length = 4
  eq : m.outs.length = m.ins.length
  ip : ∀ p ∈ m.ins, p ∈ ps
  op : ∀ p ∈ m.outs, p ∈ ps

/-! ### the table of needs -/
abbrev Tab := Place → Option (Int × Option Nat)
def val (f : Tab) (q : Place) : Int := ((f q).map (·.1)).getD 0
def sumF (f : Tab) (qs : List Place) : Int := (qs.map (val f)).sum
def setT (f : Tab) (p : Place) (e : Int × Option Nat) : Tab := fun q => if q = p then some e else f q
theorem sumF_cons (f : Tab) (q : Place) (qs : List Place) : sumF f (q :: qs) = val f q + sumF f qs := by simp [sumF]
theorem sumF_congr {f g : Tab} : ∀ {qs : List Place}, (∀ q ∈ qs, f q = g q) → sumF f qs = sumF g qs
  | [], _ => rfl
  | q :: qs, h => by
    rw [sumF_cons, sumF_cons, sumF_congr fun x hx => h x (List.mem_cons_of_mem _ hx)]
    unfold val
    rw [h q List.mem_cons_self]
theorem sumF_nonneg {f : Tab} : ∀ {qs : List Place}, (∀ q ∈ qs, 1 ≤ val f q) → 0 ≤ sumF f qs
  | [], _ => Int.le_refl _
  | q :: qs, h => by
    rw [sumF_cons]
    have h1 := h q List.mem_cons_self
    have h2 := sumF_nonneg fun x hx => h x (List.mem_cons_of_mem _ hx)
    omega
theorem sumF_mem {f : Tab} : ∀ {qs : List Place} {p : Place}, (∀ q ∈ qs, 1 ≤ val f q) → p ∈ qs → val f p ≤ sumF f qs
  | q :: qs, p, h, hp => by
    rw [sumF_cons]
    have h1 := h q List.mem_cons_self
    rcases (List.mem_cons.mp hp) with e | hp
    · have h2 := sumF_nonneg fun x hx => h x (List.mem_cons_of_mem _ hx)
      rw [e]
      omega
    · have h2 := sumF_mem (fun x hx => h x (List.mem_cons_of_mem _ hx)) hp
      omega
theorem sumF_le {f : Tab} {B : Int} : ∀ {qs : List Place}, (∀ q ∈ qs, val f q ≤ B) → sumF f qs ≤ qs.length * B
  | [], _ => by simp [sumF]
  | q :: qs, h => by
    rw [sumF_cons, List.length_cons]
    have h1 := h q List.mem_cons_self
    have h2 := sumF_le fun x hx => h x (List.mem_cons_of_mem _ hx)
    have e : ((qs.length + 1 : Nat) : Int) * B = qs.length * B + B := by rw [Int.natCast_add, Int.add_mul]; simp
    omega
theorem val_set_same (f : Tab) (p : Place) (e : Int × Option Nat) : val (setT f p e) p = e.1 := by simp [val, setT]
theorem val_set_ne (f : Tab) {p q : Place} (e : Int × Option Nat) (h : q ≠ p) : val (setT f p e) q = val f q := by simp [val, setT, h]
theorem sumF_set_le {f : Tab} {p : Place} {e : Int × Option Nat} (h : e.1 ≤ val f p) : ∀ qs : List Place, sumF (setT f p e) qs ≤ sumF f qs
  | [] => Int.le_refl _
  | q :: qs => by
    rw [sumF_cons, sumF_cons]
    have h1 := sumF_set_le h qs
    by_cases hq : q = p
    · subst hq
      rw [val_set_same]
      omega
    · rw [val_set_ne f e hq]
      omega
theorem sumF_set_lt {f : Tab} {p : Place} {e : Int × Option Nat} (h : e.1 < val f p) : ∀ {qs : List Place}, p ∈ qs → sumF (setT f p e) qs < sumF f qs
  | q :: qs, hp => by
    rw [sumF_cons, sumF_cons]
    by_cases hq : q = p
    · subst hq
      have h1 := sumF_set_le (Int.le_of_lt h) qs
      rw [val_set_same]
      omega
    · rw [val_set_ne f e hq]
      have h1 := sumF_set_lt h ((List.mem_cons.mp hp).resolve_left fun z => hq z.symm)
      omega
theorem sumF_set_out {f : Tab} {p : Place} {e : Int × Option Nat} {qs : List Place} (h : p ∉ qs) : sumF (setT f p e) qs = sumF f qs :=
  sumF_congr fun q hq => by
    have : q ≠ p := fun z => h (z ▸ hq)
    simp [setT, this]

structure NInv (ps : List Place) (ms : List Move) (s : Place) (ks : List Place) (f : Tab) (T : Place → Nat) (now : Nat) : Prop where
  nd : ks.Nodup
  dom : ∀ p, (f p).isSome = true ↔ p ∈ ks
  sub : ∀ p ∈ ks, p ∈ ps
  re : ∀ p ∈ ks, Reach ms s p
  st : f s = some (1, none)
  pos : ∀ p v i, f p = some (v, i) → 1 ≤ v ∧ v ≤ 4 ^ ks.length
  tm : ∀ p ∈ ks, T p < now
  ptr : ∀ p v i, f p = some (v, some i) → ∃ m, ms[i]? = some m ∧ p ∈ m.outs ∧ (∀ q ∈ m.ins, q ∈ ks) ∧ (((∀ q ∈ m.ins, T q < T p) ∧ sumF f m.ins ≤ v) ∨ sumF f m.ins < v)
def mu (ps : List Place) (f : Tab) : Nat := (ps.map fun p => match f p with | none => 4 ^ (ps.length + 1) | some (v, _) => v.toNat).sum
/-- one more key -/
def addK (ks : List Place) (p : Place) : List Place := if p ∈ ks then ks else ks ++ [p]
theorem mem_addK {ks : List Place} {p q : Place} : q ∈ addK ks p ↔ q = p ∨ q ∈ ks := by
  unfold addK
  by_cases h : p ∈ ks
  · rw [if_pos h]
    exact ⟨.inr, fun z => z.elim (fun e => e ▸ h) id⟩
  · rw [if_neg h, List.mem_append, List.mem_singleton]
    exact ⟨fun z => z.elim .inr .inl, fun z => z.elim .inr .inl⟩
theorem addK_nodup {ks : List Place} {p : Place} (h : ks.Nodup) : (addK ks p).Nodup := by
  unfold addK
  by_cases hp : p ∈ ks
  · rw [if_pos hp]; exact h
  · rw [if_neg hp]; exact nodup_snoc h hp
section
variable {ps : List Place} {ms : List Move} {s : Place} {ks : List Place} {f : Tab} {T : Place → Nat} {now : Nat}
theorem NInv.some_of (N : NInv ps ms s ks f T now) {p : Place} (h : p ∈ ks) : ∃ v i, f p = some (v, i) := by
  have := (N.dom p).mpr h
  cases e : f p with
  | none => rw [e] at this; cases this
  | some x => exact ⟨x.1, x.2, rfl⟩
theorem NInv.val1 (N : NInv ps ms s ks f T now) {p : Place} (h : p ∈ ks) : 1 ≤ val f p ∧ val f p ≤ 4 ^ ks.length := by
  obtain ⟨v, i, e⟩ := N.some_of h
  unfold val
  rw [e]
  exact N.pos p v i e
theorem NInv.init (hs : s ∈ ps) : NInv ps ms s [s] (setT (fun _ => none) s (1, none)) (fun _ => 0) 1 where
  nd := by simp
  dom := fun p => by
    unfold setT
    by_cases h : p = s
    · simp [h]
    · simp [h]
  sub := fun p h => by rw [List.mem_singleton] at h; rw [h]; exact hs
  re := fun p h => by rw [List.mem_singleton] at h; rw [h]; exact .start
  st := by simp [setT]
  pos := fun p v i e => by
    unfold setT at e
    by_cases h : p = s
    · rw [if_pos h] at e
      cases e
      simp
    · rw [if_neg h] at e
      cases e
  tm := fun _ _ => Nat.one_pos
  ptr := fun p v i e => by
    unfold setT at e
    by_cases h : p = s
    · rw [if_pos h] at e
      cases e
    · rw [if_neg h] at e
      cases e
theorem NInv.klen (N : NInv ps ms s ks f T now) : ks.length ≤ ps.length := nodup_len N.nd N.sub
theorem NInv.sum1 (N : NInv ps ms s ks f T now) {m : Move} (v : VMove ps m) (hin : ∀ q ∈ m.ins, q ∈ ks) : 1 ≤ sumF f m.ins ∧ sumF f m.ins ≤ 4 ^ (ks.length + 1) := by
  have hpos : ∀ q ∈ m.ins, 1 ≤ val f q := fun q hq => (N.val1 (hin q hq)).1
  have hle := sumF_le (qs := m.ins) (f := f) (B := 4 ^ ks.length) fun q hq => (N.val1 (hin q hq)).2
  have hne : 1 ≤ m.ins.length := by rcases v.sz with h | h | h <;> omega
  have h4 : m.ins.length ≤ 4 := by rcases v.sz with h | h | h <;> omega
  constructor
  · obtain ⟨q, hq⟩ : ∃ q, q ∈ m.ins := by
      cases e : m.ins with
      | nil => rw [e] at hne; simp at hne
      | cons a r => exact ⟨a, List.mem_cons_self⟩
    have h1 := hpos q hq
    have h2 := sumF_mem hpos hq
    omega
  · refine Int.le_trans hle ?_
    rw [Int.pow_succ, Int.mul_comm]
    refine Int.mul_le_mul_of_nonneg_left (by omega) ?_
    exact Int.le_of_lt (Int.pow_pos (by decide))
/-- an out is put -/
theorem NInv.upd (N : NInv ps ms s ks f T now) {i : Nat} {m : Move} {p : Place} (hm : ms[i]? = some m) (vm : VMove ps m) (hin : ∀ q ∈ m.ins, q ∈ ks) (hp : p ∈ m.outs)
    (hc : f p = none ∨ sumF f m.ins < val f p) :
    NInv ps ms s (addK ks p) (setT f p (sumF f m.ins, some i)) (fun q => if q = p then now else T q) (now + 1) ∧ p ∉ m.ins ∧ mu ps (setT f p (sumF f m.ins, some i)) < mu ps f := by
  have hpos : ∀ q ∈ m.ins, 1 ≤ val f q := fun q hq => (N.val1 (hin q hq)).1
  obtain ⟨s1, s2⟩ := N.sum1 vm hin
  have pn : p ∉ m.ins := fun h => by
    have hk := hin p h
    obtain ⟨v, j, e⟩ := N.some_of hk
    rcases hc with hc | hc
    · rw [hc] at e; cases e
    · have := sumF_mem hpos h
      omega
  have ps' : p ≠ s := fun e => by
    rcases hc with hc | hc
    · rw [e, N.st] at hc; cases hc
    · rw [e] at hc
      unfold val at hc
      rw [N.st] at hc
      have hc' : sumF f m.ins < 1 := hc
      omega
  have klen : (addK ks p).length = ks.length ∨ ((addK ks p).length = ks.length + 1 ∧ p ∉ ks) := by
    unfold addK
    by_cases h : p ∈ ks
    · rw [if_pos h]; exact .inl rfl
    · rw [if_neg h]; exact .inr ⟨by simp, h⟩
  have kle : ks.length ≤ (addK ks p).length := by rcases klen with h | h <;> omega
  have pw : ∀ {a b : Nat}, a ≤ b → (4 : Int) ^ a ≤ 4 ^ b := fun {a b} h => by
    have h1 := Nat.pow_le_pow_right (n := 4) (by decide) h
    exact_mod_cast h1
  have newv : 1 ≤ sumF f m.ins ∧ sumF f m.ins ≤ 4 ^ (addK ks p).length := by
    refine ⟨s1, ?_⟩
    rcases klen with h | ⟨h, hk⟩
    · rcases hc with hc | hc
      · have hpk : p ∉ ks := fun z => by
          obtain ⟨v, j, e⟩ := N.some_of z
          rw [hc] at e; cases e
        unfold addK at h
        rw [if_neg hpk] at h
        simp at h
      · rw [h]
        have hpk : p ∈ ks := (N.dom p).mp (by
          cases e : f p with
          | none => unfold val at hc; rw [e] at hc; have hc' : sumF f m.ins < 0 := hc; omega
          | some x => rfl)
        have := (N.val1 hpk).2
        omega
    · rw [h]; exact s2
  have NN : NInv ps ms s (addK ks p) (setT f p (sumF f m.ins, some i)) (fun q => if q = p then now else T q) (now + 1) := by
    refine ⟨addK_nodup N.nd, fun q => ?_, fun q hq => ?_, fun q hq => ?_, ?_, fun q v j e => ?_, fun q hq => ?_, fun q v j e => ?_⟩
    · rw [mem_addK]
      unfold setT
      by_cases h : q = p
      · simp [h]
      · simp only [h, if_false, false_or]
        exact N.dom q
    · rcases mem_addK.mp hq with h | h
      · rw [h]; exact vm.op p hp
      · exact N.sub q h
    · rcases mem_addK.mp hq with h | h
      · rw [h]; exact .step (List.mem_of_getElem? hm) (fun x hx => N.re x (hin x hx)) hp
      · exact N.re q h
    · unfold setT
      rw [if_neg (Ne.symm ps')]
      exact N.st
    · unfold setT at e
      by_cases h : q = p
      · rw [if_pos h] at e
        cases e
        exact newv
      · rw [if_neg h] at e
        have := N.pos q v j e
        exact ⟨this.1, Int.le_trans this.2 (pw kle)⟩
    · show (if q = p then now else T q) < now + 1
      by_cases h : q = p
      · rw [if_pos h]; omega
      · rw [if_neg h]
        have := N.tm q ((mem_addK.mp hq).resolve_left h)
        omega
    · unfold setT at e
      by_cases h : q = p
      · rw [if_pos h] at e
        cases e
        refine ⟨m, hm, by rw [h]; exact hp, fun x hx => mem_addK.mpr (.inr (hin x hx)), .inl ⟨fun x hx => ?_, ?_⟩⟩
        · have hx' : x ≠ p := fun z => pn (z ▸ hx)
          show (if x = p then now else T x) < (if q = p then now else T q)
          rw [if_neg hx', if_pos h]
          exact N.tm x (hin x hx)
        · rw [sumF_set_out pn]
          exact Int.le_refl _
      · rw [if_neg h] at e
        obtain ⟨m', h1, h1o, h2, h3⟩ := N.ptr q v j e
        refine ⟨m', h1, h1o, fun x hx => mem_addK.mpr (.inr (h2 x hx)), ?_⟩
        by_cases hpm : p ∈ m'.ins
        · have hpk := h2 p hpm
          have hlt : sumF f m.ins < val f p := by
            rcases hc with hc | hc
            · obtain ⟨v', j', e'⟩ := N.some_of hpk
              rw [hc] at e'; cases e'
            · exact hc
          have := sumF_set_lt (f := f) (p := p) (e := (sumF f m.ins, some i)) hlt hpm
          rcases h3 with ⟨_, h3⟩ | h3
          · exact .inr (by omega)
          · exact .inr (by omega)
        · rw [sumF_set_out hpm]
          rcases h3 with ⟨h3, h4⟩ | h3
          · refine .inl ⟨fun x hx => ?_, h4⟩
            have hx' : x ≠ p := fun z => hpm (z ▸ hx)
            show (if x = p then now else T x) < (if q = p then now else T q)
            rw [if_neg hx', if_neg h]
            exact h3 x hx
          · exact .inr h3
  refine ⟨NN, pn, ?_⟩
  have kl' : (addK ks p).length ≤ ps.length := NN.klen
  have hB : ∀ v : Int, v ≤ 4 ^ (addK ks p).length → v.toNat < 4 ^ (ps.length + 1) := fun v hv => by
    have h1 : v ≤ 4 ^ ps.length := Int.le_trans hv (pw kl')
    have h2 : ((4 : Int) ^ ps.length) = ((4 ^ ps.length : Nat) : Int) := by simp
    have h3 : (4 : Nat) ^ (ps.length + 1) = 4 ^ ps.length * 4 := Nat.pow_succ ..
    have h4 : 0 < (4 : Nat) ^ ps.length := Nat.pow_pos (by decide)
    omega
  unfold mu
  refine sum_lt (fun q hq => ?_) ⟨p, vm.op p hp, ?_⟩
  · by_cases h : q = p
    · subst h
      simp only [setT, if_true]
      rcases hc with hc | hc
      · rw [hc]
        exact Nat.le_of_lt (hB _ newv.2)
      · cases e : f q with
        | none => exact Nat.le_of_lt (hB _ newv.2)
        | some x =>
          unfold val at hc
          rw [e] at hc
          have hc' : sumF f m.ins < x.1 := hc
          show (sumF f m.ins).toNat ≤ x.1.toNat
          omega
    · simp only [setT, if_neg h]
      exact Nat.le_refl _
  · simp only [setT, if_true]
    rcases hc with hc | hc
    · rw [hc]
      exact hB _ newv.2
    · cases e : f p with
      | none => exact hB _ newv.2
      | some x =>
        unfold val at hc
        rw [e] at hc
        have hc' : sumF f m.ins < x.1 := hc
        show (sumF f m.ins).toNat < x.1.toNat
        omega
/-- a move adds nothing -/
def Quiet (ks : List Place) (f : Tab) (m : Move) : Prop := (∀ q ∈ m.ins, q ∈ ks) → ∀ p ∈ m.outs, ∃ v i, f p = some (v, i) ∧ v ≤ sumF f m.ins
/-- what the table of needs is at the end -/
structure Needs (ps : List Place) (ms : List Move) (s : Place) (ks : List Place) (f : Tab) (rk : Place → Nat) : Prop where
  nd : ks.Nodup
  dom : ∀ p, (f p).isSome = true ↔ p ∈ ks
  sub : ∀ p ∈ ks, p ∈ ps
  mem : ∀ p, p ∈ ks ↔ Reach ms s p
  ptr : ∀ p v i, f p = some (v, some i) → ∃ m, ms[i]? = some m ∧ ∀ q ∈ m.ins, q ∈ ks ∧ rk q < rk p
  rkb : ∀ p ∈ ks, rk p < ps.length
theorem filter_lt {l : List Place} {p q : Place} (hq : q ∈ l) (T : Place → Nat) (h : T q < T p) : (l.filter fun x => decide (T x < T q)).length < (l.filter fun x => decide (T x < T p)).length := by
  induction l with
  | nil => cases hq
  | cons a r ih =>
    have mono : ∀ l : List Place, (l.filter fun x => decide (T x < T q)).length ≤ (l.filter fun x => decide (T x < T p)).length := fun l => by
      induction l with
      | nil => exact Nat.le_refl _
      | cons b t ih2 =>
        by_cases h1 : T b < T q
        · rw [List.filter_cons_of_pos (by simpa using h1), List.filter_cons_of_pos (by simp; omega), List.length_cons, List.length_cons]
          omega
        · rw [List.filter_cons_of_neg (by simpa using h1)]
          by_cases h2 : T b < T p
          · rw [List.filter_cons_of_pos (by simpa using h2), List.length_cons]
            omega
          · rw [List.filter_cons_of_neg (by simpa using h2)]
            exact ih2
    rcases List.mem_cons.mp hq with e | hq
    · subst e
      rw [List.filter_cons_of_neg (by simp), List.filter_cons_of_pos (by simpa using h), List.length_cons]
      have := mono r
      omega
    · have := ih hq
      by_cases h1 : T a < T q
      · rw [List.filter_cons_of_pos (by simpa using h1), List.filter_cons_of_pos (by simp; omega), List.length_cons, List.length_cons]
        omega
      · rw [List.filter_cons_of_neg (by simpa using h1)]
        by_cases h2 : T a < T p
        · rw [List.filter_cons_of_pos (by simpa using h2), List.length_cons]
          omega
        · rw [List.filter_cons_of_neg (by simpa using h2)]
          exact this
theorem NInv.done (N : NInv ps ms s ks f T now) (hq : ∀ m ∈ ms, Quiet ks f m) : Needs ps ms s ks f (fun p => (ks.filter fun x => decide (T x < T p)).length) where
  nd := N.nd
  dom := N.dom
  sub := N.sub
  mem := fun p => ⟨N.re p, fun h => h.least ((N.dom s).mp (by rw [N.st]; rfl)) fun m hm hi x hx => by
    obtain ⟨v, i, e, _⟩ := hq m hm hi x hx
    exact (N.dom x).mp (by rw [e]; rfl)⟩
  ptr := fun p v i e => by
    obtain ⟨m, h1, h1o, h2, h3⟩ := N.ptr p v i e
    have hk : p ∈ ks := (N.dom p).mp (by rw [e]; rfl)
    refine ⟨m, h1, fun q hq' => ⟨h2 q hq', ?_⟩⟩
    rcases h3 with ⟨h3, _⟩ | h3
    · exact filter_lt (h2 q hq') T (h3 q hq')
    · exfalso
      obtain ⟨v', i', e', hle⟩ := hq m (List.mem_of_getElem? h1) h2 p h1o
      rw [e] at e'
      cases e'
      omega
  rkb := fun p hp => by
    refine Nat.lt_of_lt_of_le ?_ N.klen
    have h1 := List.length_filter_le (fun x => decide (T x < T p)) ks
    rcases Nat.lt_or_ge (ks.filter fun x => decide (T x < T p)).length ks.length with h | h
    · exact h
    · have e := List.length_filter_eq_length_iff.mp (Nat.le_antisymm h1 h) p hp
      have e' := of_decide_eq_true e
      omega
end

/-! ### the law's own way: a list that grows -/
structure LInv (ps : List Place) (ms : List Move) (s : Place) (fs : List Place) : Prop where
  nd : fs.Nodup
  sub : ∀ p ∈ fs, p ∈ ps
  re : ∀ p ∈ fs, Reach ms s p
  st : s ∈ fs
def dedup (l : List Place) : List Place := l.foldl addK []
theorem dedup_aux : ∀ (l acc : List Place), acc.Nodup → (l.foldl addK acc).Nodup ∧ ∀ x, x ∈ l.foldl addK acc ↔ x ∈ acc ∨ x ∈ l
  | [], acc, h => ⟨h, fun x => by simp⟩
  | a :: r, acc, h => by
    obtain ⟨h1, h2⟩ := dedup_aux r (addK acc a) (addK_nodup h)
    refine ⟨h1, fun x => ?_⟩
    rw [List.foldl_cons, h2, mem_addK, List.mem_cons]
    constructor
    · rintro ((h | h) | h)
      · exact .inr (.inl h)
      · exact .inl h
      · exact .inr (.inr h)
    · rintro (h | h | h)
      · exact .inl (.inr h)
      · exact .inl (.inl h)
      · exact .inr h
theorem dedup_nodup (l : List Place) : (dedup l).Nodup := (dedup_aux l [] List.nodup_nil).1
theorem mem_dedup {l : List Place} {x : Place} : x ∈ dedup l ↔ x ∈ l := by
  have := (dedup_aux l [] List.nodup_nil).2 x
  unfold dedup
  rw [this]
  simp
def newOf (fs outs : List Place) : List Place := (dedup outs).filter fun p => decide (p ∉ fs)
theorem mem_newOf {fs outs : List Place} {x : Place} : x ∈ newOf fs outs ↔ x ∈ outs ∧ x ∉ fs := by
  unfold newOf
  rw [List.mem_filter, mem_dedup]
  simp
section
variable {ps : List Place} {ms : List Move} {s : Place} {fs : List Place}
theorem LInv.init (hs : s ∈ ps) : LInv ps ms s [s] :=
  ⟨by simp, fun p h => by rw [List.mem_singleton] at h; rw [h]; exact hs, fun p h => by rw [List.mem_singleton] at h; rw [h]; exact .start, by simp⟩
theorem LInv.len (L : LInv ps ms s fs) : fs.length ≤ ps.length := nodup_len L.nd L.sub
theorem LInv.step (L : LInv ps ms s fs) {m : Move} (hm : m ∈ ms) (vm : VMove ps m) (hi : ∀ q ∈ m.ins, q ∈ fs) : LInv ps ms s (fs ++ newOf fs m.outs) := by
  refine ⟨?_, fun p hp => ?_, fun p hp => ?_, List.mem_append_left _ L.st⟩
  · rw [List.nodup_append]
    refine ⟨L.nd, (dedup_nodup _).filter _, fun a ha b hb e => ?_⟩
    subst e
    exact (mem_newOf.mp hb).2 ha
  · rcases (List.mem_append.mp hp) with h | h
    · exact L.sub p h
    · exact vm.op p (mem_newOf.mp h).1
  · rcases (List.mem_append.mp hp) with h | h
    · exact L.re p h
    · exact .step hm (fun q hq => L.re q (hi q hq)) (mem_newOf.mp h).1
def Clo (fs : List Place) (m : Move) : Prop := (∀ q ∈ m.ins, q ∈ fs) → ∀ p ∈ m.outs, p ∈ fs
theorem LInv.done (L : LInv ps ms s fs) (hq : ∀ m ∈ ms, Clo fs m) : ∀ p, p ∈ fs ↔ Reach ms s p := fun p =>
  ⟨L.re p, fun h => h.least L.st fun m hm hi x hx => hq m hm hi x hx⟩
theorem newOf_nil {fs outs : List Place} (h : newOf fs outs = []) : ∀ p ∈ outs, p ∈ fs := fun p hp => by
  by_cases hf : p ∈ fs
  · exact hf
  · have := mem_newOf.mpr ⟨hp, hf⟩
    rw [h] at this
    cases this
end
end M10

/-! Rules that the layer lacks: in and [] by own methods, in a tuple of tuples, dicts with tuple keys displayed and made of pairs, enumerate of a tuple. -/
namespace M10
open PySem PySem.Spec L2 PyProof.Rows

section
variable {X : Cx} {CX : CXT} {k : Nat} {f C : Addr} {fd : FuncData} {ps : List Str} {sp : Sp} {E : XK} {a b : Expr} {ta tb : TE} {pos : Pos}
theorem run_fnA {A : Around} {pn : List (Addr × Obj)} {σ : L2.St} {H : Hp} {s : Shared} {Q : VK} {us : List Value} {vs : List V} (F : FnOk X.prog X.w X.K X.mg X.base CX k f fd ps sp) (hr : Room k A) (hf : A.frames = X.A.frames) (hbd : Binds X.K fd ps []) (hxx : Passes CX X E)
    (I : Inv X pn σ H s) (r : Vals vs us) (h : sp vs H Q E) : wpAny (model X.prog X.w) A (call (.ref f) us) (EP X pn σ Q) X.xe s := by
  have hlen : us.length = ps.length := by rw [← r.length]; exact F.len _ _ _ _ h
  have env0 : Env0 X.prog X.w X.K X.mg X.base A X.stack s H := by
    have e := I.env0
    exact ⟨by rw [hf]; exact e.frames, e.mod, e.bs, e.bsz, e.funs, e.frf, e.hok, e.bare⟩
  refine wpAny_call (codeAny_mono (F.run A X.stack s H ⟨us, []⟩ us vs Q E hr env0 (by
    have := hbd s us I.kIn (by simpa using hlen)
    simpa using this) r h) fun r s' hqq => ?_)
  cases r with
  | error e => exact hxx pn σ H s e s' I hqq
  | ok fl =>
    cases fl with
    | ret u => exact I.after hqq
    | next => exact False.elim hqq
    | brk => exact False.elim hqq
    | cont => exact False.elim hqq
theorem instAt_of {pn : List (Addr × Obj)} {σ : L2.St} {H : Hp} {s : Shared} {a dx : Addr} {fs : List (Str × V)} (I : Inv X pn σ H s) (ha : H a = some (.ins C dx fs)) : ∃ od, PySem.W.InstAt s.heap a (PySem.W.instObj C dx) C od := by
  obtain ⟨mm0, J, _⟩ := ins_get I.hok ha
  obtain ⟨od, J, _⟩ := J.look
  exact ⟨_, J⟩
/-- x in o, by o's own __contains__ -/
def rOwnIn (C : Addr) (sp : Sp) (E : XK) (neg : Bool) : R2 := fun x y H Q => ∃ a dx fs, y = .ref a ∧ H a = some (.ins C dx fs) ∧ sp [.ref a, x] H (fun v H' => ∃ c, v = .bl c ∧ Q (.bl (if neg then !c else c)) H') E
theorem op_ownIn (F : FnOk X.prog X.w X.K X.mg X.base CX k f fd ps sp) (hs : PySem.W.findIn X.K (.ref C) "__contains__" = some (some (.ref f))) (hf : PySem.W.isFn X.K (.ref f) = true) (hr : Room k X.A) (hbd : Binds X.K fd ps []) (hxx : Passes CX X E) :
    OpR X (compareOp .In) (rOwnIn C sp E false) := by
  intro pn s σ H x y v u Q I rxx ryy hqq
  obtain ⟨a, dx, fs, rfl, ha, h⟩ := hqq
  cases ryy
  obtain ⟨od, J⟩ := instAt_of I ha
  obtain ⟨m, hF⟩ := I.fr
  refine PySem.W.in_K hF I.ok.mod.kin J hs hf (thn (run_fnA (us := [.ref a, v]) (vs := [.ref a, x]) F hr rfl hbd hxx I (.cons rfl (.cons rxx .nil)) h) fun r s' ⟨w', H', I', rw', c, hc, q⟩ => ?_)
  subst hc
  cases rw'
  exact wpAny_truthy_bool ⟨.bl c, H', I', rfl, q⟩
theorem op_ownNotIn (F : FnOk X.prog X.w X.K X.mg X.base CX k f fd ps sp) (hs : PySem.W.findIn X.K (.ref C) "__contains__" = some (some (.ref f))) (hf : PySem.W.isFn X.K (.ref f) = true) (hr : Room k X.A) (hbd : Binds X.K fd ps []) (hxx : Passes CX X E) :
    OpR X (compareOp .NotIn) (rOwnIn C sp E true) := by
  intro pn s σ H x y v u Q I rxx ryy hqq
  obtain ⟨a, dx, fs, rfl, ha, h⟩ := hqq
  cases ryy
  obtain ⟨od, J⟩ := instAt_of I ha
  obtain ⟨m, hF⟩ := I.fr
  refine PySem.W.notIn_K hF I.ok.mod.kin J hs hf (thn (run_fnA (us := [.ref a, v]) (vs := [.ref a, x]) F hr rfl hbd hxx I (.cons rfl (.cons rxx .nil)) h) fun r s' ⟨w', H', I', rw', c, hc, q⟩ => ?_)
  subst hc
  cases rw'
  exact wpAny_truthy_bool ⟨.bl (!c), H', I', rfl, q⟩
/-- o[i], by o's own __getitem__ -/
def tOwnIx (C : Addr) (sp : Sp) (E : XK) (ta tb : TE) : TE := fun σ H Q => ta σ H fun x H1 => tb σ H1 fun y H2 => ∃ a dx fs, x = .ref a ∧ H2 a = some (.ins C dx fs) ∧ sp [.ref a, y] H2 Q E
theorem pe_ownIx (F : FnOk X.prog X.w X.K X.mg X.base CX k f fd ps sp) (hs : PySem.W.findIn X.K (.ref C) "__getitem__" = some (some (.ref f))) (hf : PySem.W.isFn X.K (.ref f) = true) (hfn : PySem.W.fnIn X.K f = true) (hr : Room (k + 1) X.A) (hbd : Binds X.K fd ps []) (hxx : Passes CX X E)
    (ha : PE X a ta) (hbb : PE X b tb) (hsl : ∀ o i, subscripted b true o i = runValue (.builtin "lifetime.subscript" ⟨[o, i], []⟩) := by intros; with_unfolding_all rfl) : PE X (.Subscript a b pos) (tOwnIx C sp E ta tb) := by
  refine ⟨fun pn s σ H Q I h => ?_⟩
  refine Subscript_ (binT ha hbb (R := fun x y H2 => ∃ a dx fs, x = .ref a ∧ H2 a = some (.ins C dx fs) ∧ sp [.ref a, y] H2 Q E) I h fun v u s2 x y H2 I2 rxx ryy q => ?_)
  obtain ⟨o, dx, fs, rfl, ho, hqq⟩ := q
  cases rxx
  obtain ⟨od, J⟩ := instAt_of I2 ho
  obtain ⟨m, hF⟩ := I2.fr
  exact PySem.W.sub_K hF I2.ok.mod.kin J hs hfn hf (run_fnA (us := [.ref o, u]) (vs := [.ref o, y]) F hr.in1 rfl hbd hxx I2 (.cons rfl (.cons ryy .nil)) hqq) (hsl _ _)
end

section
variable {X : Cx}
/-- x in t, t a tuple of data -/
def rInDT (K : PySem.W.Frag) : R2 := fun x y H Q => ∃ d dss, Dp K H x d ∧ Dp K H y (.tuple dss) ∧ SeqAt.shaped d = true ∧ SeqAt.shaped (.tuple dss) = true ∧ Q (.bl (dss.any fun z => PyData.eqv z d)) H
theorem room_inT {d : PyData} {dss : List PyData} (sd : SeqAt.shaped d = true) {u : Nat} (hu : u + 65 < cLine) : u + 1 + min (PyData.depthAll dss) d.depth < cLine := by
  have h : d.depth ≤ 64 := by
    have h' : (d.canLay0 && decide (d.depth ≤ 64)) = true := sd
    rw [Bool.and_eq_true] at h'
    exact of_decide_eq_true h'.2
  have : min (PyData.depthAll dss) d.depth ≤ d.depth := Nat.min_le_right _ _
  omega
theorem op_inDT (hu : X.A.units + 65 < cLine) : OpR X (compareOp .In) (rInDT X.K) := by
  intro pn s σ H x y v u Q I rxx ryy h
  obtain ⟨d, dss, hdd, hen, sd, se, q⟩ := h
  obtain ⟨as, rr1⟩ := Dp.reads I d x v hdd rxx
  obtain ⟨bs, r2⟩ := Dp.reads I (.tuple dss) y u hen ryy
  exact SeqAt.in_tuple_reads r2 rr1 (by have := SeqAt.canLay_of_shaped se; simpa [PyData.canLay0] using this) (SeqAt.canLay_of_shaped sd) (room_inT sd hu) ⟨.bl _, H, I, rfl, q⟩

/-- {k: v}, k a tuple of numbers and texts -/
def tDispT (tk tv : TE) : TE := fun σ H Q => ∀ p, H p = none → tk σ (upd H p (.dT [])) fun x H1 => tv σ H1 fun y H2 => H2 p = some (.dT []) ∧ ∃ b ks, x = .ref b ∧ H2 b = some (.tup (ks.map kV)) ∧ Q (.ref p) (upd H2 p (.dT [(ks, y)]))
theorem dt_new {P : Program} {w : World} {H : Hp} {h' : Heap} {a : Addr} {kvs : List (List Key × V)} {xs : List (List Key × Addr × Value)} (z : kvs.length ≤ sizeLine) (hdd : (a == sysModules) = false) (rel : KT H kvs xs) (dd : h'.DictOfH (tupleKind (mixKind P w)) a xs) : ObjOk P w H h' a (.dT kvs) := by
  obtain ⟨o, es, ep, g1, g2, g3, g4, _, h5⟩ := dd
  exact ⟨z, hdd, xs, rel, o, es, ep, g1, g2, g3, g4, h5⟩
theorem pe_dispT {k v : Expr} {tk tv : TE} {pos : Pos} (hu : X.A.units < cLine) (hk : PE X k tk) (hv : PE X v tv) : PE X (.Dict [some k] [v] pos) (tDispT tk tv) := by
  refine ⟨fun pn s σ H Q I q => ?_⟩
  have hfree := I.hok.fresh (Nat.le_refl s.heap.objs.size)
  have J1 := I.laid (a := s.heap.objs.size) (o := .dT []) (h' := s.heap.push { cls := .type "dict", data := .dict #[] }) (t' := s.toks) (fun _ _ q => Heap.get?_push_of_some _ q) (Nat.le_refl _) (dt_empty s.heap I.big)
  rw [arm_eval_Dict, zip_pairTrees [some k] [v] X.env pos rfl rfl, dictDisplay_pairs (pairTrees [some k] [v] X.env pos) (by simp [pairTrees]) (by simp [pairTrees])]
  refine wpAny_bind (wpAny_standAt (wpAny_bind (wpAny_subDictH (knd := tupleKind (mixKind X.prog X.w)) hu (by simp [pairTrees]) ?_)))
  refine pairTrees_cons_walk (thn (hk.run pn _ σ _ _ J1 (q _ hfree)) fun kv sA ⟨x, H1, Ik, rk, qq1⟩ => thn (hv.run pn sA σ H1 _ Ik qq1) fun vv s2 ⟨y, H2, I2, rvs, q2⟩ => pairTrees_nil_walk ?_)
  obtain ⟨e, b, ks, ex, hbd, q2⟩ := q2
  subst ex
  cases rk
  obtain ⟨z, hdd, xs0, r0, dd⟩ := dt_of I2.hok e
  cases r0
  refine ⟨[(ks, b, vv)], ⟨rfl, rfl, key_of I2.hok hbd, trivial⟩, dd, fun h' tk' dd' hs => wpAny_pure ⟨.ref s.heap.objs.size, _, ?_, rfl, q2⟩⟩
  have hen : ∃ q, h'.get? s.heap.objs.size = some q := let ⟨q, _, _, hqq, _⟩ := dd'; ⟨q, hqq⟩
  have dd2 : h'.DictOfH (tupleKind (mixKind X.prog X.w)) s.heap.objs.size [(ks, b, vv)] := by simpa [storedAllH, storedH, atKey] using dd'
  have nb : b ≠ s.heap.objs.size := ne_of hbd e (fun z => nomatch z)
  exact d_write I2 (by rw [e]; exact True.intro) hs hen (dt_new (by show 1 ≤ sizeLine; decide) hdd (.cons ⟨rfl, by rw [upd_ne nb]; exact hbd, rvs⟩ .nil) dd2)

/-- dict(xs), xs a list of pairs whose keys are tuples -/
def mergeT (kvs more : List (List Key × V)) : List (List Key × V) := more.foldl (fun acc kv => putK acc kv.1 kv.2) kvs
theorem length_mergeT : ∀ (more kvs : List (List Key × V)), (mergeT kvs more).length ≤ kvs.length + more.length
  | [], kvs => Nat.le_refl _
  | p :: r, kvs => by
    have g1 := length_mergeT r (putK kvs p.1 p.2)
    have g2 := length_putK kvs p.1 p.2
    have e : mergeT kvs (p :: r) = mergeT (putK kvs p.1 p.2) r := rfl
    rw [e, List.length_cons]
    omega
theorem kt_merge {H : Hp} : ∀ {more : List (List Key × V)} {rs : List (List Key × Addr × Value)} {kvs : List (List Key × V)} {xs : List (List Key × Addr × Value)}, KT H more rs → KT H kvs xs → KT H (mergeT kvs more) (storedAllH xs rs)
  | _, _, _, _, .nil, h => h
  | _, _, _, _, .cons (a := p) (b := q) hqq t, h => by
    have g1 := h.put p.1 (b := q.2.1) hqq.2.1 hqq.2.2
    have g2 := kt_merge t g1
    have e := hqq.1
    rw [e] at g2
    unfold mergeT storedAllH at g2 ⊢
    rw [List.foldl_cons]
    rw [List.foldl_cons]
    rw [e]
    exact g2
def rDictT (K : PySem.W.Frag) : List V → Hp → VK → Prop := fun xs H Q => ∃ (a : Addr) (ps : List Addr) (kvs : List (List Key × V)), xs = [.ref a] ∧ SqL K H a (ps.map V.ref) ∧
  Paired (fun p kv => ∃ b, H p = some (.tup [.ref b, kv.2]) ∧ H b = some (.tup (kv.1.map kV))) ps kvs ∧ ∀ p, H p = none → Q (.ref p) (upd H p (.dT (mergeT [] kvs)))
theorem pairsT_of {pn : List (Addr × Obj)} {σ : L2.St} {H : Hp} {s : Shared} (I : Inv X pn σ H s) : ∀ {ps : List Addr} {kvs : List (List Key × V)}, Paired (fun p kv => ∃ b, H p = some (.tup [.ref b, kv.2]) ∧ H b = some (.tup (kv.1.map kV))) ps kvs →
    ∃ rs : List (List Key × Addr × Value), KT H kvs rs ∧ rs.length = ps.length ∧ ∀ (j : Nat) (r : List Key × Addr × Value), rs[j]? = some r → ∃ p, ps[j]? = some p ∧ IsTup s.heap p #[.ref r.2.1, r.2.2]
  | _, _, .nil => ⟨[], .nil, rfl, fun j r h => by simp at h⟩
  | _, _, .cons (a := p) (b := kv) ⟨b, g1, g2⟩ t => by
    obtain ⟨rs, k, l, g⟩ := pairsT_of I t
    obtain ⟨_, itv, rvs, ht⟩ := I.hok p _ g1
    obtain ⟨u1, u2, rfl, rr1, r2⟩ := Vals.two rvs
    cases rr1
    refine ⟨(kv.1, b, u2) :: rs, .cons ⟨rfl, g2, r2⟩ k, by simp [l], fun j r hj => ?_⟩
    cases j with
    | zero =>
      have e : (kv.1, b, u2) = r := by simpa using hj
      subst e
      exact ⟨p, rfl, ht⟩
    | succ j =>
      have e : rs[j]? = some r := by simpa using hj
      obtain ⟨p', e1, e2⟩ := g j r e
      exact ⟨p', by simpa using e1, e2⟩
theorem call_dictT (hc : X.calm = true) (hu : X.A.units + 2 < cLine) : CallR X (.type "dict") (rDictT X.K) := by
  intro pn s σ H xs us Q I r q
  obtain ⟨a, ps, kvs, rfl, hqq, hpp, q⟩ := q
  obtain ⟨u, rfl, rxx⟩ := vals1 r
  cases rxx
  obtain ⟨itv, rvs, pl, hsize⟩ := I.list hqq
  have ei := refs_at rvs
  subst ei
  rw [List.length_map] at hsize
  obtain ⟨rs, rel, hlen, hpr⟩ := pairsT_of I hpp
  obtain ⟨o, n, ho, hcl, hdd, hdat⟩ := pl
  have hmod : (s.heap.objs.size == sysModules) = false := beq_eq_false_iff_ne.mpr (Nat.ne_of_gt I.big)
  refine call_dict_pairsH (knd := tupleKind (mixKind X.prog X.w)) (ps := rs) (PairArg.list a (ps.map Value.ref).toArray (fun j => (ps[j]?).getD 0) (rs.map fun r => (Value.ref r.2.1, r.2.2))) (I.ok.hd hc) ?_ ⟨⟨o, n, ho, hcl, hdd, hdat⟩, by simp [hlen], fun j k v hj => ?_⟩ ⟨by simp, fun i key v hidx => ?_⟩ (fun h' hk x hxx => ?_) (by simp [hlen]; exact hsize) fun h' tk dd hk => ?_
  · show X.A.units + 1 + 1 < cLine
    omega
  · rw [List.getElem?_map] at hj
    cases e : rs[j]? with
    | none => rw [e] at hj; simp at hj
    | some r =>
      rw [e] at hj
      have hj' : (Value.ref r.2.1, r.2.2) = (k, v) := by simpa using hj
      obtain ⟨p, e1, e2⟩ := hpr j r e
      obtain ⟨rfl, rfl⟩ := Prod.mk.inj hj'
      refine ⟨by simp [e1], .inl ?_⟩
      obtain ⟨o', ho', hc', n', hd'⟩ := e2
      exact ⟨o', by show s.heap.get? ((ps[j]?).getD 0) = some o'; rw [e1]; exact ho', hc', n', hd'⟩
  · have hi' : (rs.map fun r => (Value.ref r.2.1, r.2.2))[i]? = some (key, v) := hidx
    rw [List.getElem?_map] at hi'
    cases e : rs[i]? with
    | none => rw [e] at hi'; simp at hi'
    | some r =>
      rw [e] at hi'
      have hj' : (Value.ref r.2.1, r.2.2) = (key, v) := by simpa using hi'
      obtain ⟨rfl, rfl⟩ := Prod.mk.inj hj'
      exact ⟨r.1, r.2.1, rfl, rfl⟩
  · have kept : ∀ b o, s.heap.get? b = some o → h'.get? b = some o := fun b o e => hk b o (Nat.ne_of_lt (Heap.lt_size e)) (by simp) e
    have all : ∀ {l : List (List Key × V)} {m : List (List Key × Addr × Value)}, KT H l m → ∀ x ∈ m, (tupleKind (mixKind X.prog X.w)).is h' x.1 x.2.1 := by
      intro l m q
      induction q with
      | nil => intro x hxx; exact nomatch hxx
      | @cons p q ps qs hqq t ih =>
        intro x hxx
        rcases List.mem_cons.mp hxx with e | hxx
        · subst e
          exact key_of (I.hok.kept kept) (by rw [← hqq.1]; exact hqq.2.1)
        · exact ih x hxx
    exact all rel x hxx
  · have kept : ∀ b o, s.heap.get? b = some o → h'.get? b = some o := fun b o e => hk b o (by simp) e
    have hlen : (mergeT [] kvs).length ≤ sizeLine := by
      refine Nat.le_trans (length_mergeT kvs []) ?_
      rw [List.length_nil, Nat.zero_add, Paired.length rel, hlen]
      exact hsize
    have hfree := I.hok.fresh (Nat.le_refl s.heap.objs.size)
    refine ⟨.ref s.heap.objs.size, upd H s.heap.objs.size (.dT (mergeT [] kvs)), I.laid (t' := tk) kept (Nat.le_refl _) (dt_new hlen hmod ((kt_merge rel .nil).keeps fun b ys e => ?_) dd), rfl, q _ hfree⟩
    rw [upd_ne (ne_of_none e hfree)]
    exact e
/-! ### enumerate of a tuple -/
def IteT (K : PySem.W.Frag) (a : Addr) : It :=
  ⟨fun i H => ∃ (xs : List V) (x : V), SqT K H a xs ∧ xs[i]? = some x, fun i H v H' => ∃ T x, v = .ref T ∧ H T = none ∧ H' = upd H T (.tup [.int (i : Nat), x]) ∧ ∀ xs, SqT K H a xs → xs[i]? = some x, fun i H => ∃ xs : List V, SqT K H a xs ∧ xs.length ≤ i⟩
theorem walk_enumT {K : PySem.W.Frag} {a : Addr} {xs : List V} : Walk (IteT K a) xs.length (fun H => SqT K H a xs) (YPair (fun i => some (.int (i : Nat))) (fun i => xs[i]?)) := by
  refine ⟨fun i _ hidx q => ⟨xs, xs[i], q, by simp [hidx]⟩, fun _ q => ⟨xs, q, Nat.le_refl _⟩, fun i H v H' _ q y => ?_⟩
  obtain ⟨T, x, g1, g2, g3, g4⟩ := y
  exact ⟨T, .int (i : Nat), x, g1, g2, g3, rfl, g4 xs q⟩
theorem meets_enumerate_newT {v : Value} {o : Obj} {H : Heap → Prop} (B : Begins v o H) :
    Meets (Builtin.«enumerate.__new__» ⟨[.type "enumerate", v], []⟩) (fun _ R s => H s.heap ∧
      R (.ok (.ret (.ref (s.heap.push o).objs.size))) { s with heap := (s.heap.push o).push { cls := .type "enumerate", data := .fields #[.none, .bool false, .ref s.heap.objs.size, rawInt 0, .none, .none] } }) :=
  .of_wp fun prog wld A R s h => by
    obtain ⟨hpp, g, d, tk, os⟩ := s
    obtain ⟨g1, h⟩ := h
    have hsub := sub_enumerate
    have qq1 : ∀ {A' : Around} {E : Value → Shared → Prop} {Q : Value → Shared → Prop}, Q (.ref hpp.objs.size) ⟨hpp.push o, g, d, tk, os⟩ → wpAny (model prog wld) A' (pyIter v) Q E ⟨hpp, g, d, tk, os⟩ :=
      fun q => B.iter prog wld _ _ ⟨hpp, g, d, tk, os⟩ _ g1 q
    wp_walk using qq1
    refine wpAny_stack_any fun stt => wpAny_pure ?_
    split
    · rename_i c _ _ _ _ _
      cases (c == (Value.type "enumerate"))
      · wp_walk using qq1
        exact ⟨_, rfl, h⟩
      · wp_walk using qq1
        exact ⟨_, rfl, h⟩
    · wp_walk using qq1
      exact ⟨_, rfl, h⟩
theorem call_enumerate_any {prog : Program} {w : World} {A : Around} {E : Value → Shared → Prop} {s : Shared} {v : Value} {o : Obj} {H : Heap → Prop} {Q : Value → Shared → Prop} (B : Begins v o H) (g1 : H s.heap)
    (h : ∀ h', IsEnum h' (s.heap.objs.size + 1) s.heap.objs.size 0 .none → h'.get? s.heap.objs.size = some o → h'.objs.size = s.heap.objs.size + 2 →
      (∀ (b : Addr) (o : Obj), s.heap.get? b = some o → h'.get? b = some o) → Q (.ref (s.heap.objs.size + 1)) { s with heap := h' }) :
    wpAny (model prog w) A (call (.type "enumerate") [v]) Q E s := by
  refine callType_new F.called_enumerate (by decide) (F.typeCall_enumerate_1 _) (F.newCall_enumerate_1 _) (fun o1 => F.args_object_init_2 o1 _) F.entry_enumerate_new
    (meets_enumerate_newT B) ⟨g1, ?_⟩
  have hsize : (s.heap.push o).objs.size = s.heap.objs.size + 1 := Heap.size_push ..
  show _ ∧ _
  rw [hsize]
  have hen : IsEnum ((s.heap.push o).push { cls := .type "enumerate", data := .fields #[.none, .bool false, .ref s.heap.objs.size, rawInt 0, .none, .none] }) (s.heap.objs.size + 1) s.heap.objs.size 0 .none := by
    have := Heap.get?_push_size (s.heap.push o) (o := { cls := .type "enumerate", data := .fields #[.none, .bool false, .ref s.heap.objs.size, rawInt 0, .none, .none] }) rfl
    rw [hsize] at this
    exact this
  refine ⟨⟨_, hen, rfl⟩, h _ hen (Heap.get?_push_of_some _ (Heap.get?_push_size _ B.free)) (by rw [Heap.size_push, hsize]) fun b o x => Heap.get?_push_of_some _ (Heap.get?_push_of_some _ x)⟩
theorem next_enumT_end {prog : Program} {w : World} {A : Around} {E : Value → Shared → Prop} {s : Shared} {e it l : Addr} {i : Nat} {items : Array Value} {old0 : Value} {Q : Option Value → Shared → Prop} (hh : A.handled = none)
    (hen : IsEnum s.heap e it i old0) (hitr : s.heap.IsTupleIter it l i) (hlen : s.heap.IsTuple l items) (hxx : items[i]? = none)
    (hQQ : ∀ h', Heap.ExtBut it s.heap h' → Q none { s with heap := h' }) : wpAny (model prog w) A (pyNext (.ref e)) Q E s := by
  have hTy : s.TypeIs (.ref e) "enumerate" := ⟨_, hen, rfl⟩
  unfold pyNext
  refine wpAny_bind (wpAny_attempt (wpAny_callSpecial?_slot (name := Str.ofString "__next__") hTy F.slot_enumerate_next (wpAny_call_entry F.slot_enumerate_next hTy F.entry_enumerate_next ?_ (F.args_enumerate_next_1 _))))
  change wpAny _ _ (field (.ref e) 2 >>= _) _ _ _
  refine wpAny_bind (wpAny_field hen rfl (x := .ref it) rfl ?_)
  refine wpAny_bind (wpAny_nextOf_tuple_end hh hitr hlen hxx fun h' x he' hx' => ?_)
  obtain ⟨o, ho, hc⟩ := hx'
  refine wpAny_bind (wpAny_isInstance (b := true) (T := "StopIteration") ⟨o, ho, hc⟩ isSubtype_stop ?_)
  exact wpAny_pure (hQQ _ he')
theorem turn_enumT {P : Program} {w : World} {K : PySem.W.Frag} {elts : List Expr} {kk : Nat} {tpos : Pos} (a e it : Addr) :
    Turn P w K (.Tuple elts kk tpos) (IteT K a) [e, it] e (fun i h => (∃ old0, IsEnum h e it ((i : Nat) : Int) old0) ∧ h.IsTupleIter it a i ∧ e ≠ it ∧ a ≠ it ∧ a ≠ e) where
  mem := by simp
  obj := fun i h stt b hbd => by
    obtain ⟨⟨old0, hen⟩, ⟨o, ho, hc, hdd⟩, _⟩ := stt
    have e' : b = e ∨ b = it := by simpa using hbd
    rcases e' with z | z
    · rw [z]; exact ⟨_, hen, fun v q => nomatch q⟩
    · rw [z]; exact ⟨o, ho, fun v q => by rw [hdd] at q; cases q⟩
  keep := fun i h h' stt k => let ⟨⟨old0, hen⟩, hidx, hne⟩ := stt; ⟨⟨old0, k e (by simp) _ hen⟩, hidx.at fun o q => k it (by simp) o q, hne⟩
  item := by
    intro X hP hw hK hc i pn s σ H E I hf stt hg
    subst hP hw hK
    obtain ⟨⟨old0, hen⟩, hitr, hne, hai, hae⟩ := stt
    obtain ⟨xs, x, hqq, hxx⟩ := hg
    obtain ⟨itv, rvs, p, hsize⟩ := I.tuple hqq
    obtain ⟨u, hu, ru⟩ := rvs.get hxx
    have heb : e < s.heap.objs.size := Heap.lt_size hen
    have hib : it < s.heap.objs.size := by obtain ⟨_, q, _⟩ := hitr; exact Heap.lt_size q
    have hlt : i < itv.toArray.size := by
      obtain ⟨q, _⟩ := List.getElem?_eq_some_iff.mp hu
      simpa using q
    refine wpAny_pyNext_enum_itemD (Draws.tuple (prog := X.prog) (w := X.w) (A := X.A.in1) (show X.A.in1.handled = none from I.ok.hd hc) it a hai itv.toArray) hen ⟨hitr, p⟩ hlt hne (by simp [hne, Ne.symm hae]) fun u' h' tk hu' ho hst hTy hsz hk => ?_
    have eu : u' = u := by
      have : itv[i]? = some u' := by simpa using hu'
      rw [hu] at this
      exact Eq.symm (Option.some.inj this)
    subst eu
    refine ⟨_, rfl, wpAny_letOwnedTupleGo_enum (s := { s with heap := h', toks := tk + 1 }) ho fun h'' he' sb => ?_⟩
    have hT2 : h''.get? s.heap.objs.size = some { cls := .type "tuple", data := .seq #[.int i tk, u'] } := (sb.2 _ (Nat.ne_of_gt heb)).trans hTy
    have new : ObjOk X.prog X.w (upd H s.heap.objs.size (.tup [V.int (i : Nat), x])) h'' s.heap.objs.size (.tup [V.int (i : Nat), x]) :=
      ⟨by show 2 ≤ sizeLine; decide, [.int i tk, u'], .cons ⟨_, rfl⟩ (.cons ru .nil), ⟨_, hT2, rfl, _, rfl⟩⟩
    have J1 : L2.Inv X pn σ (upd H s.heap.objs.size (.tup [.int (i : Nat), x])) { s with heap := h'', toks := tk + 1 } :=
      I.turnedNew (ch := [e, it]) (fun b ob hbd q => (sb.2 b (fun z => hbd (by simp [z]))).trans (hk b ob (fun z => hbd (by simp [z])) (fun z => hbd (by simp [z])) q)) hf (Nat.le_refl _) new
    refine ⟨.ref s.heap.objs.size, _, J1, rfl, ⟨_, x, rfl, I.hok.fresh (Nat.le_refl _), rfl, fun ys hy => by rw [I.tuple_inj hy hqq]; exact hxx⟩, ⟨⟨u', ?_⟩, hst.1.at fun o q => (sb.2 it (Ne.symm hne)).trans q, hne, hai, hae⟩, fun b hbd => ?_⟩
    · have e1 : ((i + 1 : Nat) : Int) = ((i : Int) + 1) := by omega
      rw [e1]
      exact he'
    · have hb' : b < (s.heap.objs.size : Nat) := by
        have e' : b = e ∨ b = it := by simpa using hbd
        rcases e' with z | z
        · rw [z]; exact heb
        · rw [z]; exact hib
      rw [upd_ne (Nat.ne_of_lt hb' : b ≠ _)]
      exact (hf b hbd).1
  done := by
    intro X hP hw hK hc i pn s σ H E I hf stt hg
    subst hP hw hK
    obtain ⟨⟨old0, hen⟩, hitr, hne, hai, hae⟩ := stt
    obtain ⟨xs, hqq, hxx⟩ := hg
    obtain ⟨itv, rvs, p, hsize⟩ := I.tuple hqq
    obtain ⟨u0, u1, u2, u3, u4, u5⟩ := hf it (by simp)
    have hlen := rvs.length
    exact next_enumT_end (I.ok.hd hc) hen hitr p (by simp; omega) fun h' eb => ⟨rfl, I.turned (t' := s.toks) (fun b o hbd q => eb b o hbd q) u0 u1 u3 u4 u5⟩
  self := fun A i s Q E stt h => let ⟨⟨_, hen⟩, _⟩ := stt; wpAny_pyIter_enum hen h
def iEnumT (K : PySem.W.Frag) (ta : TA) : TI := fun σ H R => ta σ H fun vs H1 => ∃ a xs, vs = [.ref a] ∧ SqT K H1 a xs ∧ R (IteT K a) H1
theorem pi_enumT {e : Expr} {ta : TA} {p pos tpos : Pos} {elts : List Expr} {kk : Nat} (hg : Gl X "enumerate") (hmod : X.mg "enumerate" = none) (ha : PA X [e] ta) (hs : starEach [e] X.env = [(false, eval e X.env)] := by rfl) :
    PI X (.Tuple elts kk tpos) (.Call (.Name "enumerate" p) [e] [] pos) (iEnumT X.K ta) := by
  refine ⟨fun pn s σ H R I h => ?_⟩
  refine Call_ (ld_blt I hg hmod boot_enumerate (PyProof.Rows.callWith_type1 (thn (ha.run pos pn s σ H _ I h) fun us sA ⟨vs, H1, J1, rr1, qq1⟩ => ?_) hs rfl))
  obtain ⟨a, xs, ex, hqq, q⟩ := qq1
  subst ex
  cases rr1 with
  | cons r rr =>
    cases rr
    cases r
    obtain ⟨itv, rvs, p', hsize⟩ := J1.tuple hqq
    refine call_enumerate_any (begins_tuple a itv.toArray) p' fun h' hen hitr hsz hk => wpAny_pyIter_enum hen ?_
    have I2 : L2.Inv X pn σ H1 { sA with heap := h' } := J1.kept (t' := sA.toks) hk
    have hal : a < sA.heap.objs.size := p'.lt
    refine ⟨sA.heap.objs.size + 1, [sA.heap.objs.size + 1, sA.heap.objs.size], _, _, H1, rfl, I2, turn_enumT a (sA.heap.objs.size + 1) sA.heap.objs.size, ⟨⟨.none, hen⟩, ⟨_, hitr, rfl, rfl⟩, Nat.succ_ne_self _, Nat.ne_of_lt hal, Nat.ne_of_lt (Nat.lt_succ_of_lt hal)⟩, fun b hbd => ?_, q⟩
    have e' : b = sA.heap.objs.size + 1 ∨ b = sA.heap.objs.size := by simpa using hbd
    have hlow : sA.heap.objs.size ≤ b := by
      rcases e' with z | z
      · exact z ▸ Nat.le_add_right _ _
      · rw [z]; exact Nat.le_refl _
    exact J1.fpOk hlow (J1.hok.fresh hlow)
end
end M10

/-! The text by places; places and moves in the heap; what evaluates to what; the small checks. -/
namespace M10
open PySem PySem.Spec L2 Evl

/-! ### the text -/
def top (i : Nat) : Stmt := PySem.Challenge.pw_liftedladders_k10_whole_reached_places.main.body.getD i (.Pass ⟨0, 0, 0, 0⟩)
abbrev sIsInteger : Stmt := top 7
abbrev sIsWhole : Stmt := top 8
abbrev sIsPlace : Stmt := top 13
abbrev sArePlaces : Stmt := top 14
abbrev sIsMove : Stmt := top 15
abbrev sChecked : Stmt := top 16
abbrev sInit : Stmt := inClass (top 17) 0
abbrev sMoves : Stmt := inClass (top 17) 2
abbrev sContains : Stmt := inClass (top 17) 5
abbrev sGetItem : Stmt := inClass (top 17) 6
abbrev sWithin : Stmt := inClass (top 17) 9
abbrev sInOrder : Stmt := top 18
abbrev sCheckPlace : Stmt := top 20
abbrev sNeedsOf : Stmt := top 21
abbrev sReached : Stmt := top 22
abbrev sClimb : Stmt := top 23
abbrev sPutClimb : Stmt := top 24
abbrev sIsClosed : Stmt := top 25
abbrev sPool : Stmt := top 27
abbrev sDraw : Stmt := top 28
abbrev sPick : Stmt := top 29
abbrev sEntry : Stmt := top 30
abbrev sSpec : Stmt := top 31
abbrev sPlaces : Stmt := top 32
abbrev sMoved : Stmt := top 33
abbrev sGame : Stmt := top 34
abbrev sLMoves : Stmt := top 35
abbrev sLWays : Stmt := top 36
abbrev sAnyWays : Stmt := top 37
abbrev sLReached : Stmt := top 38
abbrev sLaw : Stmt := top 39

/-- a def of the module that keeps its promise: for callers -/
def Callee (P : Program) (w : World) (K : PySem.W.Frag) (mg : Str → Option Value) (base : Heap) (k : Nat) (x : Str) (ps : List Str) (sp : Sp) : Prop :=
  ∃ f fd, FnOk P w K mg base CX0 k f fd ps sp ∧ mg x = some (.ref f) ∧ PySem.W.keepIn K (.ref f) = true ∧ Binds K fd ps []
/-- a def of the module where it stands -/
def DefAt (K : PySem.W.Frag) (mg : Str → Option Value) (x : Str) (st : Stmt) (ps : List Str) : Prop :=
  ∃ f fd, Fun K x x st f fd ∧ mg x = some (.ref f) ∧ Binds K fd ps []
theorem DefAt.callee {P : Program} {w : World} {K : PySem.W.Frag} {mg : Str → Option Value} {base : Heap} {k : Nat} {x : Str} {st : Stmt} {ps : List Str} {sp : Sp} (D : DefAt K mg x st ps)
    (h : ∀ f fd, Fun K x x st f fd → FnOk P w K mg base CX0 k f fd ps sp) : Callee P w K mg base k x ps sp := by
  obtain ⟨f, fd, F, m, b⟩ := D
  exact ⟨f, fd, h f fd F, m, F.kp, b⟩

/-! ### what stands in the heap -/
theorem ex_mut2 {H H' : Hp} {p : Addr} {o : HO} (e : Ex H H') (h : H p = none) : Ex H (upd H' p o) := Ex.mut e h
def PlA (H : Hp) (v : V) (p : Place) : Prop := ∃ a, v = .ref a ∧ H a = some (.tup (p.map V.int))
def PlsT (H : Hp) (v : V) (ps : List Place) : Prop := ∃ a vs, v = .ref a ∧ H a = some (.tup vs) ∧ Paired (PlA H) vs ps
def MvA (H : Hp) (v : V) (m : Move) : Prop := ∃ a x n y, v = .ref a ∧ H a = some (.tup [x, .str n, y]) ∧ PlsT H x m.ins ∧ PlsT H y m.outs
/-- tuples stay -/
def Tx (H H' : Hp) : Prop := ∀ a xs, H a = some (.tup xs) → H' a = some (.tup xs)
theorem Tx.of {H H' : Hp} (e : Ex H H') : Tx H H' := fun a xs h => e a _ h
theorem Tx.refl (H : Hp) : Tx H H := fun _ _ h => h
theorem Tx.trans {H H1 H2 : Hp} (a : Tx H H1) (b : Tx H1 H2) : Tx H H2 := fun c xs h => b c xs (a c xs h)
/-- what is no tuple is written -/
theorem Tx.upd {H : Hp} {p : Addr} {o : HO} (h : ∀ xs, H p ≠ some (.tup xs)) : Tx H (upd H p o) := fun a xs e => by
  have ne : a ≠ p := fun z => h xs (by rw [← z]; exact e)
  rw [upd_ne ne]
  exact e
theorem Tx.lst {H : Hp} {p : Addr} {ys : List V} {o : HO} (h : H p = some (.lst ys)) : Tx H (L2.upd H p o) := Tx.upd fun xs e => by
  rw [h] at e
  cases e
theorem Tx.dT {H : Hp} {p : Addr} {ys : List (List Key × V)} {o : HO} (h : H p = some (.dT ys)) : Tx H (L2.upd H p o) := Tx.upd fun xs e => by
  rw [h] at e
  cases e
theorem Tx.dK {H : Hp} {p : Addr} {ys : List (Key × V)} {o : HO} (h : H p = some (.dK ys)) : Tx H (L2.upd H p o) := Tx.upd fun xs e => by
  rw [h] at e
  cases e
theorem Tx.new {H : Hp} {p : Addr} {o : HO} (h : H p = none) : Tx H (L2.upd H p o) := Tx.of (Ex.new h)
theorem pairedMono {α β : Type} {F G : α → β → Prop} (h : ∀ a b, F a b → G a b) : ∀ {l1 : List α} {l2 : List β}, Paired F l1 l2 → Paired G l1 l2
  | _, _, .nil => .nil
  | _, _, .cons r t => .cons (h _ _ r) (pairedMono h t)
theorem PlA.mono {H H' : Hp} {v : V} {p : Place} (e : Tx H H') (h : PlA H v p) : PlA H' v p := let ⟨a, e1, e2⟩ := h; ⟨a, e1, e a _ e2⟩
theorem plsMono {H H' : Hp} {vs : List V} {ps : List Place} (e : Tx H H') (h : Paired (PlA H) vs ps) : Paired (PlA H') vs ps := pairedMono (fun _ _ q => q.mono e) h
theorem PlsT.mono {H H' : Hp} {v : V} {ps : List Place} (e : Tx H H') (h : PlsT H v ps) : PlsT H' v ps := let ⟨a, vs, e1, e2, q⟩ := h; ⟨a, vs, e1, e a _ e2, plsMono e q⟩
theorem MvA.mono {H H' : Hp} {v : V} {m : Move} (e : Tx H H') (h : MvA H v m) : MvA H' v m := let ⟨a, x, n, y, e1, e2, q, r⟩ := h; ⟨a, x, n, y, e1, e a _ e2, q.mono e, r.mono e⟩
theorem mvsMono {H H' : Hp} {vs : List V} {ms : List Move} (e : Tx H H') (h : Paired (MvA H) vs ms) : Paired (MvA H') vs ms := pairedMono (fun _ _ q => q.mono e) h
theorem pairedLen {α β : Type} {F : α → β → Prop} {l1 : List α} {l2 : List β} (h : Paired F l1 l2) : l1.length = l2.length := Paired.length h
theorem pairedGet {α β : Type} {F : α → β → Prop} : ∀ {l1 : List α} {l2 : List β} {i : Nat} {x : α}, Paired F l1 l2 → l1[i]? = some x → ∃ y, l2[i]? = some y ∧ F x y
  | _, _, i, _, .nil, e => by simp at e
  | _, _, 0, _, .cons r _, e => ⟨_, rfl, by simpa using (by simpa using e : _ = _) ▸ r⟩
  | _, _, Nat.succ i, x, .cons _ t, e => by
    obtain ⟨y, h1, h2⟩ := pairedGet (i := i) (x := x) t (by simpa using e)
    exact ⟨y, by simpa using h1, h2⟩
theorem pairedGet2 {α β : Type} {F : α → β → Prop} : ∀ {l1 : List α} {l2 : List β} {i : Nat} {y : β}, Paired F l1 l2 → l2[i]? = some y → ∃ x, l1[i]? = some x ∧ F x y
  | _, _, i, _, .nil, e => by simp at e
  | _, _, 0, _, .cons r _, e => ⟨_, rfl, by simpa using (by simpa using e : _ = _) ▸ r⟩
  | _, _, i + 1, y, .cons _ t, e => by
    obtain ⟨x, h1, h2⟩ := pairedGet2 (i := i) (y := y) t (by simpa using e)
    exact ⟨x, (by simpa using h1), h2⟩
theorem pairedApp {α β : Type} {F : α → β → Prop} : ∀ {l1 k1 : List α} {l2 k2 : List β}, Paired F l1 l2 → Paired F k1 k2 → Paired F (l1 ++ k1) (l2 ++ k2)
  | _, _, _, _, .nil, s => s
  | _, _, _, _, .cons r t, s => .cons r (pairedApp t s)
theorem pairedTake {α β : Type} {F : α → β → Prop} : ∀ {l1 : List α} {l2 : List β} (n : Nat), Paired F l1 l2 → Paired F (l1.take n) (l2.take n)
  | _, _, 0, _ => by rw [List.take_zero, List.take_zero]; exact .nil
  | _, _, _ + 1, .nil => .nil
  | _, _, n + 1, .cons r t => .cons r (pairedTake n t)
theorem pairedDrop {α β : Type} {F : α → β → Prop} : ∀ {l1 : List α} {l2 : List β} (n : Nat), Paired F l1 l2 → Paired F (l1.drop n) (l2.drop n)
  | _, _, 0, r => r
  | _, _, _ + 1, .nil => .nil
  | _, _, n + 1, .cons _ t => pairedDrop n t

/-! ### data -/
def pd (p : Place) : PyData := .tuple (p.map PyData.int)
theorem dp_ints (K : PySem.W.Frag) (H : Hp) : ∀ p : List Int, DpAll K H (p.map V.int) (p.map PyData.int)
  | [] => .nil
  | i :: r => .cons (.int i) (dp_ints K H r)
theorem PlA.dp {K : PySem.W.Frag} {H : Hp} {v : V} {p : Place} (h : PlA H v p) : Dp K H v (pd p) := by
  obtain ⟨a, rfl, e⟩ := h
  exact .tup (SqT.of e) (dp_ints K H p)
theorem dp_pls {K : PySem.W.Frag} {H : Hp} : ∀ {vs : List V} {ps : List Place}, Paired (PlA H) vs ps → DpAll K H vs (ps.map pd)
  | _, _, .nil => .nil
  | _, _, .cons r t => .cons r.dp (dp_pls t)
theorem lay_ints : ∀ p : List Int, PyData.canLayAll0 (p.map PyData.int) = true ∧ PyData.depthAll (p.map PyData.int) = 0
  | [] => by simp [PyData.canLayAll0, PyData.depthAll]
  | i :: r => by
    have h := lay_ints r
    simp [PyData.canLayAll0, PyData.canLay0, PyData.depthAll, PyData.depth, h.1, h.2]
theorem lay_pls : ∀ ps : List Place, PyData.canLayAll0 (ps.map pd) = true ∧ PyData.depthAll (ps.map pd) ≤ 1
  | [] => by simp [PyData.canLayAll0, PyData.depthAll]
  | p :: r => by
    have h := lay_pls r
    have h1 := lay_ints p
    simp only [List.map_cons, PyData.canLayAll0, PyData.depthAll, pd, PyData.canLay0, PyData.depth, h.1, h1.1, h1.2]
    have h2 := h.2
    unfold pd at h2
    refine ⟨rfl, by omega⟩
theorem shaped_pd (p : Place) : SeqAt.shaped (pd p) = true := by
  have h := lay_ints p
  show ((pd p).canLay0 && decide ((pd p).depth ≤ 64)) = true
  rw [Bool.and_eq_true]
  refine ⟨by simpa [pd, PyData.canLay0] using h.1, decide_eq_true (by simp [pd, PyData.depth, h.2])⟩
theorem shaped_list (ps : List Place) : SeqAt.shaped (.list (ps.map pd)) = true := by
  have h := lay_pls ps
  show (PyData.canLay0 (.list (ps.map pd)) && decide (PyData.depth (.list (ps.map pd)) ≤ 64)) = true
  rw [Bool.and_eq_true]
  exact ⟨by simpa [PyData.canLay0] using h.1, decide_eq_true (by simp only [PyData.depth]; omega)⟩
theorem shaped_tuple (ps : List Place) : SeqAt.shaped (.tuple (ps.map pd)) = true := by
  have h := lay_pls ps
  show (PyData.canLay0 (.tuple (ps.map pd)) && decide (PyData.depth (.tuple (ps.map pd)) ≤ 64)) = true
  rw [Bool.and_eq_true]
  exact ⟨by simpa [PyData.canLay0] using h.1, decide_eq_true (by simp only [PyData.depth]; omega)⟩
theorem eqv_ints : ∀ p q : List Int, PyData.eqvAll (p.map PyData.int) (q.map PyData.int) = decide (p = q)
  | .nil, .nil => by simp [PyData.eqvAll]
  | [], j :: t => by simp [PyData.eqvAll]
  | i :: r, [] => by simp [PyData.eqvAll]
  | i :: r, j :: t => by
    simp only [List.map_cons, PyData.eqvAll, PyData.eqv, eqv_ints r t]
    by_cases h1 : i = j
    · by_cases h2 : r = t <;> simp [h1, h2]
    · simp [h1]
theorem eqv_pd (p q : Place) : PyData.eqv (pd p) (pd q) = decide (p = q) := by
  simp only [pd, PyData.eqv, eqv_ints]
theorem eqvAll_pds : ∀ ps qs : List Place, PyData.eqvAll (ps.map pd) (qs.map pd) = decide (ps = qs)
  | .nil, .nil => by simp [PyData.eqvAll]
  | [], j :: t => by simp [PyData.eqvAll]
  | i :: r, [] => by simp [PyData.eqvAll]
  | i :: r, j :: t => by
    simp only [List.map_cons, PyData.eqvAll, eqv_pd, eqvAll_pds r t]
    by_cases h1 : i = j
    · by_cases h2 : r = t <;> simp [h1, h2]
    · simp [h1]
theorem any_pds (p : Place) : ∀ ps : List Place, ((ps.map pd).any fun z => PyData.eqv z (pd p)) = decide (p ∈ ps)
  | [] => by simp
  | q :: r => by
    rw [List.map_cons, List.any_cons, any_pds p r, eqv_pd]
    by_cases h1 : q = p
    · simp [h1]
    · by_cases h2 : p ∈ r
      · simp [h2]
      · simp [h1, h2, Ne.symm h1]

/-! ### values of expressions -/
section
variable {K : PySem.W.Frag} {σ : L2.St} {H H' : Hp} {ta tb tc te : TE} {t : TT} {x y z v : V} {r : R2} {p : Place} {ps : List Place} {l : Addr} {vs xs : List V}
theorem et_yes : EvT tYes σ H true := fun H1 _ _ q => q H1 (Ex.refl H1)
theorem ev_inL (ha : Ev ta σ H x) (hx : PlA H x p) (hb : Ev tb σ H (.ref l)) (hl : H l = some (.lst vs)) (hp : Paired (PlA H) vs ps) : Ev (tOp (rInD K) ta tb) σ H (.bl (decide (p ∈ ps))) :=
  ev_op ha hb (rv_val fun H1 e Q q => ⟨pd p, ps.map pd, (hx.mono (Tx.of e)).dp, .lst (SqL.of (e _ _ hl)) (dp_pls (plsMono (Tx.of e) hp)), shaped_pd p, shaped_list ps, by rw [any_pds]; exact q⟩)
theorem ev_niL (ha : Ev ta σ H x) (hx : PlA H x p) (hb : Ev tb σ H (.ref l)) (hl : H l = some (.lst vs)) (hp : Paired (PlA H) vs ps) : Ev (tOp (rNotInD K) ta tb) σ H (.bl (!decide (p ∈ ps))) :=
  ev_op ha hb (rv_val fun H1 e Q q => ⟨pd p, ps.map pd, (hx.mono (Tx.of e)).dp, .lst (SqL.of (e _ _ hl)) (dp_pls (plsMono (Tx.of e) hp)), shaped_pd p, shaped_list ps, by rw [any_pds]; exact q⟩)
theorem ev_inT (ha : Ev ta σ H x) (hx : PlA H x p) (hb : Ev tb σ H (.ref l)) (hl : H l = some (.tup vs)) (hp : Paired (PlA H) vs ps) : Ev (tOp (rInDT K) ta tb) σ H (.bl (decide (p ∈ ps))) :=
  ev_op ha hb (rv_val fun H1 e Q q => ⟨pd p, ps.map pd, (hx.mono (Tx.of e)).dp, .tup (SqT.of (e _ _ hl)) (dp_pls (plsMono (Tx.of e) hp)), shaped_pd p, shaped_tuple ps, by rw [any_pds]; exact q⟩)
/-- the container a new list -/
theorem ev_inNL (ha : Ev ta σ H x) (hx : PlA H x p) (hb : EvL tb σ H vs) (hp : Paired (PlA H) vs ps) : Ev (tOp (rInD K) ta tb) σ H (.bl (decide (p ∈ ps))) :=
  ev_opL ha hb fun q H1 hq e => rv_val fun H2 e2 Q k => ⟨pd p, ps.map pd, (hx.mono (Tx.of (e.trans e2))).dp, .lst (SqL.of (e2 _ _ hq)) (dp_pls (plsMono (Tx.of (e.trans e2)) hp)), shaped_pd p, shaped_list ps, by rw [any_pds]; exact k⟩
theorem ev_isi {c : V} {u t : Value} {b : Bool} (ha : Ev ta σ H x) (hc : Ev tc σ H c) (hk : ClsV c u) (ht : ∀ H1, Ex H H1 → TyX K H1 x t) (e : PySem.W.kitOne K t u = some b) : Ev (tCB (rIsi K) (tCons ta (tCons tc tNil))) σ H (.bl b) :=
  ev_cb (ea_cons ha (ea_cons hc ea_nil)) fun H1 e1 Q q => ⟨x, c, t, u, b, rfl, hk, ht H1 e1, e, q H1 (Ex.refl H1)⟩
/-- isinstance(x, (c, d)), the tuple made on the way -/
theorem ev_isiT {cs : List V} {us : List Value} {t : Value} {b : Bool} (ha : Ev ta σ H x) (hc : EvU tc σ H cs) (hk : Paired ClsV cs us) (ht : ∀ H1, Ex H H1 → TyX K H1 x t) (e : PySem.W.kitAny K t us = some b) : Ev (tCB (rIsiT K) (tCons ta (tCons tc tNil))) σ H (.bl b) :=
  fun H1 e1 Q q => ha H1 e1 _ fun H2 e2 => hc H2 (e1.trans e2) _ fun p H3 _ e3 hp => ⟨x, p, cs, t, us, b, rfl, hp, hk, ht H3 ((e1.trans e2).trans e3), e, q H3 (e2.trans e3)⟩
theorem tyx_int (i : Int) : TyX K H (.int i) (.type "int") := .base (.int i)
theorem tyx_tup {a : Addr} (h : H a = some (.tup xs)) : TyX K H (.ref a) (.type "tuple") := .base (.tup h)
theorem tyx_lst {a : Addr} (h : H a = some (.lst xs)) : TyX K H (.ref a) (.type "list") := .base (.lst h)
theorem ev_chain {r r' : R2} {a b : Bool} (ha : Ev ta σ H x) (hb : Ev tb σ H y) (h1 : RV r x y H (.bl a)) (hc : a = true → Ev tc σ H z) (h2 : a = true → RV r' y z H (.bl b)) : Ev (tChain r r' ta tb tc) σ H (.bl (a && b)) := fun H1 e Q q =>
  ha H1 e _ fun H2 e2 => hb H2 (e.trans e2) _ fun H3 e3 => h1 H3 ((e.trans e2).trans e3) _ fun H4 e4 => ⟨a, rfl, by
    cases a with
    | true =>
      show tc σ H4 fun w H5 => r' y w H5 Q
      exact hc rfl H4 (((e.trans e2).trans e3).trans e4) _ fun H5 e5 => h2 rfl H5 ((((e.trans e2).trans e3).trans e4).trans e5) Q fun H6 e6 => q H6 ((((e2.trans e3).trans e4).trans e5).trans e6)
    | false =>
      show Q (.bl false) H4
      exact q H4 ((e2.trans e3).trans e4)⟩
/-- len of a tuple that is known -/
theorem ev_lenT (ha : Ev ta σ H (.ref l)) (h : H l = some (.tup vs)) : Ev (tCB (fun xs H Q => ∃ p ys, xs = [.ref p] ∧ (SqL K H p ys ∨ SqT K H p ys) ∧ Q (.int ys.length) H) (tCons ta tNil)) σ H (.int (vs.length : Nat)) :=
  ev_cb (ea_cons ha ea_nil) fun H1 e Q q => ⟨l, vs, rfl, .inr (SqT.of (e _ _ h)), q H1 (Ex.refl H1)⟩
theorem ev_lenL (ha : Ev ta σ H (.ref l)) (h : H l = some (.lst vs)) : Ev (tCB (fun xs H Q => ∃ p ys, xs = [.ref p] ∧ (SqL K H p ys ∨ SqT K H p ys) ∧ Q (.int ys.length) H) (tCons ta tNil)) σ H (.int (vs.length : Nat)) :=
  ev_cb (ea_cons ha ea_nil) fun H1 e Q q => ⟨l, vs, rfl, .inl (SqL.of (e _ _ h)), q H1 (Ex.refl H1)⟩
theorem ev_lenNL (ha : EvL ta σ H vs) : Ev (tCB (fun xs H Q => ∃ p ys, xs = [.ref p] ∧ (SqL K H p ys ∨ SqT K H p ys) ∧ Q (.int ys.length) H) (tCons ta tNil)) σ H (.int (vs.length : Nat)) := fun H1 e Q q =>
  ha H1 e _ fun p H2 _ e2 h2 => ⟨p, vs, rfl, .inl (SqL.of h2), q H2 e2⟩
/-- t[i] of a tuple, xs[i] of a list -/
theorem ev_ixT {j : Nat} (ha : Ev ta σ H (.ref l)) (hb : Ev tb σ H (.int (j : Int))) (h : H l = some (.tup vs)) (hv : vs[j]? = some v) : Ev (tOp (rIxT K) ta tb) σ H v :=
  ev_op ha hb (rv_ixT (SqT.of h) (atI_nat hv))
theorem ev_ixL {j : Nat} (ha : Ev ta σ H (.ref l)) (hb : Ev tb σ H (.int (j : Int))) (h : H l = some (.lst vs)) (hv : vs[j]? = some v) : Ev (tOp (rIxL K) ta tb) σ H v :=
  ev_op ha hb (rv_ixL (SqL.of h) (atI_nat hv))
/-- comprehensions: what is kept and what is made of it -/
def CwX (H : Hp) (f : V → Bool) (g : V → V) (xs : List V) (Dl : Addr) (i : Nat) (H' : Hp) : Prop := H Dl = none ∧ Ex H H' ∧ H' Dl = some (.lst (((xs.take i).filter f).map g))
theorem cwx_turn {f : V → Bool} {g : V → V} {xs : List V} {Dl : Addr} {i : Nat} {x : V} {σ2 : L2.St} (hx : xs[i]? = some x) (p : CwX H f g xs Dl i H') (hz : xs.length ≤ 50000) (ht : EvT t σ2 H (f x)) (he : f x = true → Ev te σ2 H (g x)) :
    t σ2 H' fun b H3 => if b = true then te σ2 H3 fun y H4 => ∃ acc, H4 Dl = some (.lst acc) ∧ acc.length < sizeLine ∧ CwX H f g xs Dl (i + 1) (L2.upd H4 Dl (.lst (acc ++ [y]))) else CwX H f g xs Dl (i + 1) H3 := by
  obtain ⟨p1, p2, p3⟩ := p
  have hi := (List.getElem?_eq_some_iff.mp hx).1
  have e1 : xs.take (i + 1) = xs.take i ++ [x] := by
    rw [List.take_add_one, hx]
    rfl
  refine ht H' p2 _ (fun H3 e3 => ?_)
  cases hf : f x with
  | true =>
    show te σ2 H3 fun y H4 => ∃ acc, H4 Dl = some (.lst acc) ∧ acc.length < sizeLine ∧ CwX H f g xs Dl (i + 1) (L2.upd H4 Dl (.lst (acc ++ [y])))
    refine he hf H3 (p2.trans e3) _ fun H4 e4 => ⟨_, e4 Dl _ (e3 Dl _ p3), sz_lt ?_, p1, Ex.mut ((p2.trans e3).trans e4) p1, ?_⟩
    · rw [List.length_map]
      have h1 := List.length_filter_le f (xs.take i)
      rw [List.length_take] at h1
      omega
    · rw [e1, List.filter_append, List.filter_cons, if_pos hf, List.filter_nil, List.map_append]
      exact upd_same
  | false =>
    show CwX H f g xs Dl (i + 1) H3
    refine ⟨p1, p2.trans e3, ?_⟩
    rw [e1, List.filter_append, List.filter_cons, if_neg (by rw [hf]; decide), List.filter_nil, List.append_nil]
    exact e3 Dl _ p3
theorem el_fmT {tl : TE} {j : Nat} {is : List Nat} (f : V → Bool) (g : V → V) (h : Ev tl σ H (.ref l)) (hx : H l = some (.tup xs)) (hz : xs.length ≤ 50000) (hw : ∀ x, wipe ((wipe σ is).set j (some x)) is = wipe σ is)
    (ht : ∀ (i : Nat) (x : V) H1, Ex H H1 → xs[i]? = some x → EvT t ((wipe σ is).set j (some x)) H1 (f x)) (he : ∀ (i : Nat) (x : V) H1, Ex H H1 → xs[i]? = some x → f x = true → Ev te ((wipe σ is).set j (some x)) H1 (g x)) :
    EvL (tLc (iTup K tl) (gName j) t te is) σ H ((xs.filter f).map g) := fun H0 e Q q => h H0 e _ fun H1 e1 => ⟨l, rfl, ⟨xs, SqT.of ((e.trans e1) _ _ hx)⟩, fun Dl hD =>
  lc_tup (xs := xs) (CwX H1 f g xs Dl) ⟨hD, Ex.new hD, upd_same⟩ (fun i H' _ p => SqT.of (((e.trans e1).trans p.2.1) _ _ hx)) (fun i x H' hi p => ⟨hw x, cwx_turn hi p hz (ht i x H1 (e.trans e1) hi) (fun hf => he i x H1 (e.trans e1) hi hf)⟩)
    (fun H' p => q Dl H' (fresh_back e1 p.1) (e1.trans p.2.1) (by
      have := p.2.2
      rw [List.take_length] at this
      exact this))⟩
theorem el_fmL {tl : TE} {j : Nat} {is : List Nat} (f : V → Bool) (g : V → V) (h : Ev tl σ H (.ref l)) (hx : H l = some (.lst xs)) (hz : xs.length ≤ 50000) (hw : ∀ x, wipe ((wipe σ is).set j (some x)) is = wipe σ is)
    (ht : ∀ (i : Nat) (x : V) H1, Ex H H1 → xs[i]? = some x → EvT t ((wipe σ is).set j (some x)) H1 (f x)) (he : ∀ (i : Nat) (x : V) H1, Ex H H1 → xs[i]? = some x → f x = true → Ev te ((wipe σ is).set j (some x)) H1 (g x)) :
    EvL (tLc (iList K tl) (gName j) t te is) σ H ((xs.filter f).map g) := fun H0 e Q q => h H0 e _ fun H1 e1 => ⟨l, rfl, ⟨xs, SqL.of ((e.trans e1) _ _ hx)⟩, fun Dl hD =>
  lc_list (xs := xs) (CwX H1 f g xs Dl) ⟨hD, Ex.new hD, upd_same⟩ (fun i H' _ p => SqL.of (((e.trans e1).trans p.2.1) _ _ hx)) (fun i x H' hi p => ⟨hw x, cwx_turn hi p hz (ht i x H1 (e.trans e1) hi) (fun hf => he i x H1 (e.trans e1) hi hf)⟩)
    (fun H' p => q Dl H' (fresh_back e1 p.1) (e1.trans p.2.1) (by
      have := p.2.2
      rw [List.take_length] at this
      exact this))⟩
/-- over a new list -/
theorem el_fmNL {tl : TE} {j : Nat} {is : List Nat} (f : V → Bool) (g : V → V) (h : EvL tl σ H xs) (hz : xs.length ≤ 50000) (hw : ∀ x, wipe ((wipe σ is).set j (some x)) is = wipe σ is)
    (ht : ∀ (i : Nat) (x : V) H1, Ex H H1 → xs[i]? = some x → EvT t ((wipe σ is).set j (some x)) H1 (f x)) (he : ∀ (i : Nat) (x : V) H1, Ex H H1 → xs[i]? = some x → f x = true → Ev te ((wipe σ is).set j (some x)) H1 (g x)) :
    EvL (tLc (iList K tl) (gName j) t te is) σ H ((xs.filter f).map g) := fun H0 e Q q => h H0 e _ fun a H1 ha e1 hx => ⟨a, rfl, ⟨xs, SqL.of hx⟩, fun Dl hD =>
  lc_list (xs := xs) (CwX H1 f g xs Dl) ⟨hD, Ex.new hD, upd_same⟩ (fun i H' _ p => SqL.of (p.2.1 _ _ hx)) (fun i x H' hi p => ⟨hw x, cwx_turn hi p hz (ht i x H1 (e.trans e1) hi) (fun hf => he i x H1 (e.trans e1) hi hf)⟩)
    (fun H' p => q Dl H' (fresh_back e1 p.1) (e1.trans p.2.1) (by
      have := p.2.2
      rw [List.take_length] at this
      exact this))⟩
theorem el_is {ys : List V} (h : EvL te σ H xs) (e : xs = ys) : EvL te σ H ys := e ▸ h
theorem filter_true {α : Type} (l : List α) : l.filter (fun _ => true) = l := by simp
/-- all(..) of a new list of truths -/
theorem ev_allNL {bs : List Bool} (ha : EvL ta σ H (bs.map V.bl)) : Ev (tCB (rAll K) (tCons ta tNil)) σ H (.bl (bs.all id)) := fun H1 e Q q =>
  ha H1 e _ fun p H2 _ e2 h2 => ⟨p, bs, rfl, SqL.of h2, q H2 e2⟩
theorem all_map_true {α : Type} : ∀ (l : List α) (f : α → Bool), (∀ x ∈ l, f x = true) → (l.map f).all id = true
  | [], _, _ => rfl
  | a :: r, f, h => by
    rw [List.map_cons, List.all_cons, all_map_true r f fun x hx => h x (List.mem_cons_of_mem _ hx), Bool.and_true]
    exact h a List.mem_cons_self
/-- all([.. for x in t]): every turn gives True -/
theorem ev_allT {tl : TE} {j : Nat} {is : List Nat} (h : Ev tl σ H (.ref l)) (hx : H l = some (.tup xs)) (hz : xs.length ≤ 50000) (hw : ∀ x, wipe ((wipe σ is).set j (some x)) is = wipe σ is)
    (he : ∀ (i : Nat) (x : V) H1, Ex H H1 → xs[i]? = some x → Ev te ((wipe σ is).set j (some x)) H1 (.bl true)) :
    Ev (tCB (rAll K) (tCons (tLc (iTup K tl) (gName j) tYes te is) tNil)) σ H (.bl true) := by
  have q := ev_allNL (K := K) (bs := xs.map fun _ => true) (el_is (el_fmT (K := K) (t := tYes) (te := te) (fun _ => true) (fun _ => V.bl true) h hx hz hw (fun _ _ _ _ _ => et_yes) (fun i x H1 e hi _ => he i x H1 e hi)) (by rw [filter_true, List.map_map]; rfl))
  rw [all_map_true xs (fun _ => true) fun _ _ => rfl] at q
  exact q
end
/-! ### promises -/
/-- some value, with what is said of it -/
def RetP (W : V → Hp → Prop) (H : Hp) (Q : VK) : Prop := ∀ v H2, Ex H H2 → W v H2 → Q v H2
theorem wipe1 {σ : L2.St} {j : Nat} (x : Option V) : wipe ((wipe σ [j]).set j x) [j] = wipe σ [j] := by
  show (((σ.set j none).set j x).set j none) = σ.set j none
  rw [List.set_set, List.set_set]
end M10

namespace M10
open PySem PySem.Spec L2 Evl

/-- built-in names that the module does not hide -/
structure Txt (K : PySem.W.Frag) (mg : Str → Option Value) : Prop where
  isinstance : mg "isinstance" = none
  int : mg "int" = none
  bool : mg "bool" = none
  tuple : mg "tuple" = none
  list : mg "list" = none
  dict : mg "dict" = none
  str : mg "str" = none
  len : mg "len" = none
  all : mg "all" = none
  sum : mg "sum" = none
  max : mg "max" = none
  min : mg "min" = none
  abs : mg "abs" = none
  zip : mg "zip" = none
  range : mg "range" = none
  enumerate : mg "enumerate" = none
  mostP : ∃ t, mg "MOST_PLACES" = some (.int 24 t)
  mostM : ∃ t, mg "MOST_MOVES" = some (.int 3000 t)
  sizes : ∃ a, mg "SIZES" = some (.ref a) ∧ ∃ (o : Obj) (its : Array Value) (n : Nat), K.lookup a = some o ∧ o.cls = .type "tuple" ∧ o.data = .seq its n ∧ its.size ≤ sizeLine ∧ Vals [.int 1, .int 2, .int 4] its.toList

section
variable {K : PySem.W.Frag} {P : Program} {w : World} {mg : Str → Option Value} {base : Heap}

/-! ### is_whole, is_integer -/
def spWhole : Sp := fun vs H Q _ => ∃ i : Int, vs = [.int i] ∧ RetV (.bl true) H Q
theorem scWhole : FnScope ["value"] ["value"] (defScope sIsWhole) := ⟨rfl, rfl, rfl, by decide +kernel, rfl, by decide +kernel, by decide +kernel⟩
theorem ok_whole (T : Txt K mg) (D : DefAt K mg "is_whole" sIsWhole ["value"]) : Callee P w K mg base 1 "is_whole" ["value"] spWhole := by
  refine D.callee fun f fd F => F.ok scWhole (fun vs H Q E h => ?_) (fun cdv A outer s H vs Q E hr h => ?_)
  · obtain ⟨i, rfl, _⟩ := h
    rfl
  · obtain ⟨i, rfl, k⟩ := h
    refine ⟨_, pss_one (ps_ret (pe_and (pe_callB call_isi (by rfl) T.isinstance (by decide +kernel) (pa_cons (pv 0) (pa_cons (pe_bltn (v := .ty "int") (by rfl) T.int (by decide +kernel) rfl) pa_nil)))
      (pe_one (pe_not (pe_callB call_isi (by rfl) T.isinstance (by decide +kernel) (pa_cons (pv 0) (pa_cons (pe_bltn (v := .ty "bool") (by rfl) T.bool (by decide +kernel) rfl) pa_nil))))))), ?_⟩
    refine s_ret (v := .bl true) (ev_andV (a := true) (b := true) (ev_isi (ev_var rfl) ev_c (.ty _) (fun _ _ => tyx_int _) (kit_ty (by decide +kernel))) fun _ =>
      ev_notV (a := false) (ev_isi (ev_var rfl) ev_c (.ty _) (fun _ _ => tyx_int _) (kit_ty (by decide +kernel)))) fun H1 e => k H1 e
def spInteger : Sp := fun vs H Q _ => ∃ i a b : Int, vs = [.int i, .int a, .int b] ∧ RetV (.bl (decide (a ≤ i) && decide (i ≤ b))) H Q
theorem scInteger : FnScope ["value", "lowest", "highest"] ["value", "lowest", "highest"] (defScope sIsInteger) := ⟨rfl, rfl, rfl, by decide +kernel, rfl, by decide +kernel, by decide +kernel⟩
theorem ok_integer (T : Txt K mg) (D : DefAt K mg "is_integer" sIsInteger ["value", "lowest", "highest"]) (G : Callee P w K mg base 1 "is_whole" ["value"] spWhole) : Callee P w K mg base 2 "is_integer" ["value", "lowest", "highest"] spInteger := by
  obtain ⟨f1, fd1, F1, m1, k1, b1⟩ := G
  refine D.callee fun f fd F => F.ok scInteger (fun vs H Q E h => ?_) (fun cdv A outer s H vs Q E hr h => ?_)
  · obtain ⟨i, a, b, rfl, _⟩ := h
    rfl
  · obtain ⟨i, a, b, rfl, k⟩ := h
    refine ⟨_, pss_one (ps_ret (pe_and (pe_call F1 hr (by rfl) m1 k1 b1 .nil pass0 (pa_cons (pv 0) pa_nil)) (pe_one (pe_chain op_le op_le (pv 1) (pv 0) (pv 2))))), ?_⟩
    refine s_ret (v := .bl (true && (decide (a ≤ i) && decide (i ≤ b)))) (ev_andV (ev_call (ea_cons (ev_var rfl) ea_nil) fun H1 _ Q q E => ⟨i, rfl, q⟩) fun _ =>
      ev_chain (ev_var rfl) (ev_var rfl) rv_I0 (fun _ => ev_var rfl) (fun _ => rv_I0)) fun H1 e => ?_
    rw [Bool.true_and]
    exact k H1 e

/-! ### is_place, are_places, is_move -/
def spIsPlace : Sp := fun vs H Q _ => ∃ (v : V) (p : Place), vs = [v] ∧ PlA H v p ∧ p ≠ [] ∧ p.length ≤ 50000 ∧ RetV (.bl true) H Q
theorem scIsPlace : FnScope ["value", "part"] ["value"] (defScope sIsPlace) := ⟨rfl, rfl, rfl, by decide +kernel, rfl, by decide +kernel, by decide +kernel⟩
theorem ok_isPlace (T : Txt K mg) (D : DefAt K mg "is_place" sIsPlace ["value"]) (G : Callee P w K mg base 1 "is_whole" ["value"] spWhole) : Callee P w K mg base 2 "is_place" ["value"] spIsPlace := by
  obtain ⟨f1, fd1, F1, m1, k1, b1⟩ := G
  refine D.callee fun f fd F => F.ok scIsPlace (fun vs H Q E h => ?_) (fun cdv A outer s H vs Q E hr h => ?_)
  · obtain ⟨v, p, rfl, _⟩ := h
    rfl
  · obtain ⟨v, p, rfl, ⟨a, rfl, ha⟩, hne, hz, k⟩ := h
    refine ⟨_, pss_one (ps_ret (pe_and (pe_callB call_isi (by rfl) T.isinstance (by decide +kernel) (pa_cons (pv 0) (pa_cons (pe_bltn (v := .ty "tuple") (by rfl) T.tuple (by decide +kernel) rfl) pa_nil)))
      (pe_and (pe_cmpR op_gt (pe_callB call_len_seq (by rfl) T.len PySem.boot_len (pa_cons (pv 0) pa_nil)) pe_int (nomark _))
      (pe_one (pe_callB (cr_all rfl) (by rfl) T.all (by decide +kernel) (pa_cons (pe_lc (own := [("part", 1)]) (g := gName 1) (tt := tYes) (by rfl) scIsPlace.nd (pi_tup (pv 0)) (blkOk_by (own := [("part", 1)]) (N := ["value", "part"]) (sc := defScope sIsPlace) (by decide +kernel))
        (fun _ _ _ _ _ => pg_name (i := 1) scIsPlace.nd rfl (Or.inl rfl)) (fun _ _ _ _ _ => pts_nil) (fun _ _ _ _ _ => pe_call F1 hr (by rfl) m1 k1 b1 .nil pass0 (pa_cons (pv 1) pa_nil))) pa_nil)))))), ?_⟩
    refine s_ret (v := .bl (true && (true && true))) (ev_andV (ev_isi (ev_var rfl) ev_c (.ty _) (fun H1 e => tyx_tup (e _ _ ha)) (kit_ty (by decide +kernel))) fun _ =>
      ev_andV (ev_is (ev_op (ev_lenT (ev_var rfl) ha) ev_c rv_I0) ?_) fun _ => ev_allT (ev_var rfl) ha (by simpa using hz) (fun _ => rfl) fun i x H1 e hi => ?_) fun H1 e => k H1 e
    · rw [List.length_map, decide_eq_true]
      have := List.length_pos_iff.mpr hne
      omega
    · rw [List.getElem?_map] at hi
      obtain ⟨z, _, rfl⟩ := Option.map_eq_some_iff.mp hi
      exact ev_call (ea_cons (ev_var rfl) ea_nil) fun H1 _ Q q E => ⟨z, rfl, q⟩
/-- a short place -/
def Pl (p : Place) : Prop := p ≠ [] ∧ p.length ≤ 50000
def spArePlaces : Sp := fun vs H Q _ => ∃ (v : V) (ps : List Place), vs = [v] ∧ PlsT H v ps ∧ (ps.length = 1 ∨ ps.length = 2 ∨ ps.length = 4) ∧ (∀ p ∈ ps, Pl p) ∧ RetV (.bl true) H Q
theorem scArePlaces : FnScope ["value", "place"] ["value"] (defScope sArePlaces) := ⟨rfl, rfl, rfl, by decide +kernel, rfl, by decide +kernel, by decide +kernel⟩
theorem ok_arePlaces (T : Txt K mg) (D : DefAt K mg "are_places" sArePlaces ["value"]) (G : Callee P w K mg base 2 "is_place" ["value"] spIsPlace) : Callee P w K mg base 3 "are_places" ["value"] spArePlaces := by
  obtain ⟨f1, fd1, F1, m1, k1, b1⟩ := G
  obtain ⟨sa, ms, hs⟩ := T.sizes
  refine D.callee fun f fd F => F.ok scArePlaces (fun vs H Q E h => ?_) (fun cdv A outer s H vs Q E hr h => ?_)
  · obtain ⟨v, p, rfl, _⟩ := h
    rfl
  · obtain ⟨v, ps, rfl, ⟨a, pvs, rfl, ha, hp⟩, hl, hz, k⟩ := h
    have el : pvs.length = ps.length := pairedLen hp
    refine ⟨_, (pss_one (ps_ret (pe_and (pe_callB call_isi (by rfl) T.isinstance (by decide +kernel) (pa_cons (pv 0) (pa_cons (pe_bltn (v := .ty "tuple") (by rfl) T.tuple (by decide +kernel) rfl) pa_nil))) (pe_and (pe_cmpR op_in_seq (pe_callB call_len_seq (by rfl) T.len (by decide +kernel) (pa_cons (pv 0) pa_nil)) (pe_glob (v := .ref sa) (by rfl) ms rfl) (by rfl)) (pe_one (pe_callB (cr_all rfl) (by rfl) T.all (by decide +kernel) (pa_cons (pe_lc (own := [("place", 1)]) (g := gName 1) (tt := tYes) (by rfl) scArePlaces.nd (pi_tup (pv 0)) (blkOk_by (own := [("place", 1)]) (N := ["value", "place"]) (sc := defScope sArePlaces) (by decide +kernel)) (fun _ _ _ _ _ => pg_name (i := 1) scArePlaces.nd rfl (Or.inl rfl)) (fun _ _ _ _ _ => pts_nil) (fun _ _ _ _ _ => (pe_call F1 hr (by rfl) m1 k1 b1 .nil pass0 (pa_cons (pv 1) pa_nil)))) pa_nil))))))), ?_⟩
    refine s_ret (v := .bl (true && (true && true))) (ev_andV (ev_isi (ev_var rfl) ev_c (.ty _) (fun H1 e => tyx_tup (e _ _ ha)) (kit_ty (by decide +kernel))) fun _ =>
      ev_andV (ev_is (ev_op (ev_lenT (ev_var rfl) ha) ev_c (rv_isT (.inr hs) rfl rfl)) ?_) fun _ => ev_allT (ev_var rfl) ha (by omega) (fun _ => rfl) fun i x H1 e hi => ?_) fun H1 e => k H1 e
    · rw [el]
      rcases hl with h | h | h <;> rw [h] <;> rfl
    · obtain ⟨p, h1, h2⟩ := pairedGet hp hi
      have h3 := hz p (List.mem_of_getElem? h1)
      exact ev_call (ea_cons (ev_var rfl) ea_nil) fun H2 e2 Q q E => ⟨_, p, rfl, h2.mono (Tx.of (e.trans e2)), h3.1, h3.2, q⟩

theorem q_skip {D : Ends} {t : TT} {tu tz : TS} {σ : L2.St} {H : Hp} (h : EvT t σ H false) (k : ∀ H1, Ex H H1 → tz D σ H1) : tSeq (tIfS t tu tNext) tz D σ H := q_when h (fun z => nomatch z) fun _ => k
theorem s_skip {D : Ends} {t : TT} {tu : TS} {σ : L2.St} {H : Hp} (h : EvT t σ H false) (k : ∀ H1, Ex H H1 → D.nx σ H1) : tIfS t tu tNext D σ H := s_when h (fun z => nomatch z) fun _ => k
def MvOk (ps : List Place) (m : Move) : Prop := VMove ps m ∧ (∀ p ∈ m.ins, Pl p) ∧ ∀ p ∈ m.outs, Pl p
def spIsMove : Sp := fun vs H Q _ => ∃ (v : V) (m : Move) (ps : List Place), vs = [v] ∧ MvA H v m ∧ MvOk ps m ∧ RetV (.bl true) H Q
theorem scIsMove : FnScope ["value"] ["value"] (defScope sIsMove) := ⟨rfl, rfl, rfl, by decide +kernel, rfl, by decide +kernel, by decide +kernel⟩
theorem ok_isMove (T : Txt K mg) (D : DefAt K mg "is_move" sIsMove ["value"]) (G : Callee P w K mg base 3 "are_places" ["value"] spArePlaces) : Callee P w K mg base 4 "is_move" ["value"] spIsMove := by
  obtain ⟨f1, fd1, F1, m1, k1, b1⟩ := G
  refine D.callee fun f fd F => F.ok scIsMove (fun vs H Q E h => ?_) (fun cdv A outer s H vs Q E hr h => ?_)
  · obtain ⟨v, p, _, rfl, _⟩ := h
    rfl
  · obtain ⟨v, m, ps, rfl, ⟨a, x, n, y, rfl, ha, hx, hy⟩, ⟨vm, hi, ho⟩, k⟩ := h
    obtain ⟨xa, xv, rfl, hxa, hxp⟩ := hx
    obtain ⟨ya, yv, rfl, hya, hyp⟩ := hy
    refine ⟨_, (pss_cons (ps_if (PW.pt (pw_or (pt_not (pt_val (pe_callB call_isi (by rfl) T.isinstance (by decide +kernel) (pa_cons (pv 0) (pa_cons (pe_bltn (v := .ty "tuple") (by rfl) T.tuple (by decide +kernel) rfl) pa_nil))))) (pw_or (pt_cmpR op_ne (pe_callB call_len_seq (by rfl) T.len (by decide +kernel) (pa_cons (pv 0) pa_nil)) pe_int (nomark _)) (pw_or1 (pt_not (pt_val (pe_callB call_isi (by rfl) T.isinstance (by decide +kernel) (pa_cons (pe_ix ix_tup (pv 0) pe_int (fun _ _ => rfl)) (pa_cons (pe_bltn (v := .ty "str") (by rfl) T.str (by decide +kernel) rfl) pa_nil))))))))) pss_never pss_nil)
      (pss_one (ps_ret (pe_and (pe_call F1 hr (by rfl) m1 k1 b1 .nil pass0 (pa_cons (pe_ix ix_tup (pv 0) pe_int (fun _ _ => rfl)) pa_nil)) (pe_and (pe_call F1 hr (by rfl) m1 k1 b1 .nil pass0 (pa_cons (pe_ix ix_tup (pv 0) pe_int (fun _ _ => rfl)) pa_nil)) (pe_one (pe_cmpR op_eq (pe_callB call_len_seq (by rfl) T.len (by decide +kernel) (pa_cons (pe_ix ix_tup (pv 0) pe_int (fun _ _ => rfl)) pa_nil)) (pe_callB call_len_seq (by rfl) T.len (by decide +kernel) (pa_cons (pe_ix ix_tup (pv 0) pe_int (fun _ _ => rfl)) pa_nil)) (nomark _)))))))), ?_⟩
    refine q_skip (et_is (et_or (a := false) (b := false) (et_not (a := true) (et_B (ev_isi (ev_var rfl) ev_c (.ty _) (fun H1 e => tyx_tup (e _ _ ha)) (kit_ty (by decide +kernel))))) fun _ =>
      et_or (a := false) (b := false) (et_test (ev_is (ev_op (ev_lenT (ev_var rfl) ha) ev_c (rv_ne rfl)) (by simp))) fun _ => et_not (a := true) (et_B (ev_isi (ev_ixT (j := 1) (ev_var rfl) ev_c ha rfl) ev_c (.ty _) (fun H1 e => .base (.str n)) (kit_ty (by decide +kernel))))) rfl) fun H1 e1 => ?_
    have ha1 := e1 _ _ ha
    refine s_ret (v := .bl (true && (true && true))) (ev_andV (ev_call (ea_cons (ev_ixT (j := 0) (ev_var rfl) ev_c ha1 rfl) ea_nil) fun H2 e2 Q q E => ⟨_, m.ins, rfl, PlsT.mono (Tx.of (e1.trans e2)) ⟨xa, xv, rfl, hxa, hxp⟩, vm.sz, hi, q⟩) fun _ =>
      ev_andV (ev_call (ea_cons (ev_ixT (j := 2) (ev_var rfl) ev_c ha1 rfl) ea_nil) fun H2 e2 Q q E => ⟨_, m.outs, rfl, PlsT.mono (Tx.of (e1.trans e2)) ⟨ya, yv, rfl, hya, hyp⟩, by rw [vm.eq]; exact vm.sz, ho, q⟩) fun _ =>
      ev_is (ev_op (ev_lenT (ev_ixT (j := 0) (ev_var rfl) ev_c ha1 rfl) (e1 _ _ hxa)) (ev_lenT (ev_ixT (j := 2) (ev_var rfl) ev_c ha1 rfl) (e1 _ _ hya)) (rv_eq rfl)) ?_) fun H2 e2 => k H2 (e1.trans e2)
    rw [pairedLen hxp, pairedLen hyp, vm.eq, decide_eq_true rfl]
end
end M10

namespace M10
open PySem PySem.Spec L2 Evl StX

/-! ### the order of places -/
abbrev lx : Place → Place → Bool := HT.lexLt
theorem lx_irr : ∀ a : Place, lx a a = false
  | [] => rfl
  | i :: r => by
    show HT.lexLt (i :: r) (i :: r) = false
    rw [HT.lexLt_cons, if_pos rfl]
    exact lx_irr r
theorem lx_tr : ∀ a b c : Place, lx a b = true → lx b c = true → lx a c = true
  | [], [], _, h, _ => by cases h
  | _, _ :: _, [], _, h => by cases h
  | [], (_ :: _), (_ :: _), _, _ => rfl
  | (_ :: _), [], _, h, _ => by cases h
  | i :: r, j :: s, k :: t, h1, h2 => by
    have h1' : (if i = j then HT.lexLt r s else decide (i < j)) = true := h1
    have h2' : (if j = k then HT.lexLt s t else decide (j < k)) = true := h2
    show (if i = k then HT.lexLt r t else decide (i < k)) = true
    by_cases e1 : i = j
    · rw [if_pos e1] at h1'
      by_cases e2 : j = k
      · rw [if_pos e2] at h2'
        rw [if_pos (e1.trans e2)]
        exact lx_tr r s t h1' h2'
      · rw [if_neg e2] at h2'
        rw [if_neg (fun z => e2 (e1.symm.trans z))]
        have := of_decide_eq_true h2'
        exact (decide_eq_true (by omega))
    · rw [if_neg e1] at h1'
      have q1 := of_decide_eq_true h1'
      by_cases e2 : j = k
      · rw [if_neg (fun z => e1 (z.trans e2.symm))]
        exact (decide_eq_true (by omega))
      · rw [if_neg e2] at h2'
        have q2 := of_decide_eq_true h2'
        rw [if_neg (by omega)]
        exact (decide_eq_true (by omega))
theorem lx_tot : ∀ a b : Place, a = b ∨ lx a b = true ∨ lx b a = true
  | [], [] => .inl rfl
  | [], _ :: _ => .inr (.inl rfl)
  | _ :: _, [] => .inr (.inr rfl)
  | i :: r, j :: s => by
    by_cases e : i = j
    · subst e
      rcases lx_tot r s with h | h | h
      · exact .inl (by rw [h])
      · exact .inr (.inl (by show HT.lexLt (i :: r) (i :: s) = true; rw [HT.lexLt_cons, if_pos rfl]; exact h))
      · exact .inr (.inr (by show HT.lexLt (i :: s) (i :: r) = true; rw [HT.lexLt_cons, if_pos rfl]; exact h))
    · rcases Int.lt_or_gt_of_ne e with h | h
      · exact .inr (.inl (by show HT.lexLt (i :: r) (j :: s) = true; rw [HT.lexLt_cons, if_neg e]; exact decide_eq_true h))
      · exact .inr (.inr (by show HT.lexLt (j :: s) (i :: r) = true; rw [HT.lexLt_cons, if_neg (Ne.symm e)]; exact decide_eq_true h))
theorem so_lx : SO lx := ⟨lx_irr, lx_tr, lx_tot⟩

/-! ### more of what evaluates to what -/
theorem hu0_of {A : Around} {k : Nat} (hr : Room k A) : A.units < cLine := hr.units0
theorem hu2_of {A : Around} {k : Nat} (hr : Room k A) : A.units + 2 < cLine := by have := hr.un; omega
theorem hu64_of {A : Around} {k : Nat} (hr : Room k A) : A.units + 64 < cLine := by have := hr.un; omega
theorem hu65_of {A : Around} {k : Nat} (hr : Room k A) : A.units + 65 < cLine := by have := hr.un; omega
def intOf : V → Int
  | .int i => i
  | _ => 0
def tupOf : Option HO → List V
  | some (.tup xs) => xs
  | _ => []
def refAt : V → Addr
  | .ref a => a
  | _ => 0
def plOf (H : Hp) (v : V) : Place := (tupOf (H (refAt v))).map intOf
theorem PlA.of {H : Hp} {v : V} {p : Place} (h : PlA H v p) : plOf H v = p := by
  obtain ⟨a, rfl, e⟩ := h
  show (tupOf (H a)).map intOf = p
  rw [e]
  show (p.map V.int).map intOf = p
  rw [List.map_map]
  exact List.map_id p
section
variable {X : Cx} {K : PySem.W.Frag}
theorem ix_tupK (e : X.K = K) : IxR X (rIxT K) := e ▸ ix_tup
theorem ix_listK (e : X.K = K) : IxR X (rIxL K) := e ▸ ix_list
theorem op_ltTK (e : X.K = K) (hu : X.A.units < cLine) : OpR X (compareOp .Lt) (rLtT K) := e ▸ op_ltT hu
theorem op_inDK (e : X.K = K) (hu : X.A.units + 65 < cLine) : OpR X (compareOp .In) (rInD K) := e ▸ op_inD hu
theorem op_notInDK (e : X.K = K) (hu : X.A.units + 65 < cLine) : OpR X (compareOp .NotIn) (rNotInD K) := e ▸ op_notInD hu
theorem op_inDTK (e : X.K = K) (hu : X.A.units + 65 < cLine) : OpR X (compareOp .In) (rInDT K) := e ▸ op_inDT hu
theorem pi_tupK {tg l : Expr} {tl : TE} (e : X.K = K) (hl : PE X l tl) : PI X tg l (iTup K tl) := e ▸ pi_tup hl
theorem pi_listK {tg l : Expr} {tl : TE} (e : X.K = K) (hl : PE X l tl) : PI X tg l (iList K tl) := e ▸ pi_list hl
end
theorem pairedFilter {α β : Type} {F : α → β → Prop} {f : α → Bool} {g : β → Bool} (h : ∀ a b, F a b → f a = g b) : ∀ {l1 : List α} {l2 : List β}, Paired F l1 l2 → Paired F (l1.filter f) (l2.filter g)
  | _, _, .nil => .nil
  | _, _, .cons (a := a) (b := b) r t => by
    have e := h a b r
    have ih := pairedFilter h t
    cases q : f a with
    | true =>
      rw [List.filter_cons_of_pos (by simpa using q), List.filter_cons_of_pos (by rw [← e]; simpa using q)]
      exact .cons r ih
    | false =>
      rw [List.filter_cons_of_neg (by simp [q]), List.filter_cons_of_neg (by rw [← e]; simp [q])]
      exact ih
section
variable {K : PySem.W.Frag} {σ : L2.St} {H H' : Hp} {ta tb tc te : TE} {t : TT} {x y z v : V} {r : R2} {p q : Place} {ps : List Place} {l : Addr} {vs xs ys : List V}
theorem ev_lt (ha : Ev ta σ H x) (hx : PlA H x p) (hb : Ev tb σ H y) (hy : PlA H y q) : Ev (tOp (rLtT K) ta tb) σ H (.bl (lx p q)) :=
  ev_op ha hb (rv_val fun H1 e Q k => by
    obtain ⟨a, rfl, h1⟩ := hx
    obtain ⟨b, rfl, h2⟩ := hy
    exact ⟨a, b, p, q, rfl, rfl, SqT.of (e _ _ h1), SqT.of (e _ _ h2), k⟩)
theorem cutV_take (xs : List V) (k : Nat) : cutV xs none (some (k : Int)) = xs.take k := by
  unfold cutV
  rw [HT.sIx_none, HT.sIx_nat, List.drop_zero, Nat.sub_zero]
  rcases Nat.le_total k xs.length with h | h
  · rw [Nat.min_eq_left h]
  · rw [Nat.min_eq_right h, List.take_length, List.take_of_length_le h]
theorem cutV_drop (xs : List V) (k : Nat) : cutV xs (some (k : Int)) none = xs.drop k := by
  unfold cutV
  rw [HT.sIx_none, HT.sIx_nat]
  rcases Nat.le_total k xs.length with h | h
  · rw [Nat.min_eq_left h]; rw [List.take_of_length_le (by simp)]
  · rw [Nat.min_eq_right h, List.drop_of_length_le (Nat.le_refl _), List.drop_of_length_le h, List.take_nil]
theorem ea_starL {tr : TA} (h : EvL te σ H xs) (hr : EvA tr σ H ys) : EvA (tStar K te tr) σ H (xs ++ ys) := fun H1 e Q k =>
  h H1 e _ fun p H2 _ e2 hp => ⟨p, xs, rfl, .inr (SqL.of hp), hr H2 (e.trans e2) _ fun H3 e3 => k H3 (e2.trans e3)⟩
theorem q_asgR {i : Nat} {D : Ends} {tz : TS} {W : V → Hp → Prop} (h : ∀ Q : VK, (∀ u H2, Ex H H2 → W u H2 → Q u H2) → te σ H Q) (k : ∀ u H1, Ex H H1 → W u H1 → tz D (σ.set i (some u)) H1) : tSeq (tAsg te (gName i)) tz D σ H := h _ k
theorem s_retR {D : Ends} {W : V → Hp → Prop} (h : ∀ Q : VK, (∀ u H2, Ex H H2 → W u H2 → Q u H2) → te σ H Q) (k : ∀ u H1, Ex H H1 → W u H1 → D.rt u H1) : tRet te D σ H := h _ k
end

section
variable {K : PySem.W.Frag} {P : Program} {w : World} {mg : Str → Option Value} {base : Heap}
/-! ### in_order -/
/-- a list of places -/
def PlsL (H : Hp) (v : V) (ps : List Place) : Prop := ∃ l vs, v = .ref l ∧ H l = some (.lst vs) ∧ Paired (PlA H) vs ps
def spInOrder : Sp := fun vs H Q _ => ∃ (v : V) (ps : List Place), vs = [v] ∧ PlsL H v ps ∧ ps.Nodup ∧ ps.length ≤ 1000 ∧ ∀ r qvs H', Ex H H' → H r = none → H' r = some (.lst qvs) → Paired (PlA H') qvs (inOrder lx ps) → Q (.ref r) H'
theorem scInOrder : FnScope ["places", "found", "place", "at", "other"] ["places"] (defScope sInOrder) := ⟨rfl, rfl, rfl, by decide +kernel, rfl, by decide +kernel, by decide +kernel⟩
theorem ok_inOrder (T : Txt K mg) (D : DefAt K mg "in_order" sInOrder ["places"]) : Callee P w K mg base 1 "in_order" ["places"] spInOrder := by
  refine D.callee fun f fd F => F.ok scInOrder (fun vs H Q E h => ?_) (fun cdv A outer s H vs Q E hr h => ?_)
  · obtain ⟨v, ps, rfl, _⟩ := h
    rfl
  · obtain ⟨v, ps, rfl, ⟨l, pvs, rfl, hl, hp⟩, nd, hz, k⟩ := h
    refine ⟨_, (pss_cons (ps_set (i := 1) scInOrder.nd rfl (Or.inl rfl) (pe_lst pa_nil))
      (pss_cons (ps_for PassesOwn.never rfl (pi_list (pv 0)) (pg_name (i := 2) scInOrder.nd rfl (Or.inr rfl))
        (pss_cons (ps_set (i := 3) scInOrder.nd rfl (Or.inl rfl) (pe_callB call_len_seq (by rfl) T.len (by decide +kernel) (pa_cons (pe_lc (own := [("other", 4)]) (g := gName 4) (by rfl) scInOrder.nd (pi_list (pv 1)) (blkOk_by (own := [("other", 4)]) (N := ["places", "found", "place", "at", "other"]) (sc := defScope sInOrder) (by decide +kernel)) (fun _ _ _ _ _ => pg_name (i := 4) scInOrder.nd rfl (Or.inl rfl)) (fun _ _ _ _ _ => pts_one (pt_cmpR (op_ltTK (K := K) rfl (hu0_of hr)) (pv 4) (pv 2) (nomark _))) (fun _ _ _ _ _ => (pv 4))) pa_nil)))
        (pss_one (ps_set (i := 1) scInOrder.nd rfl (Or.inl rfl) (pe_lst (pa_star (pe_slice sl_list (pv 1) po_none (po_some (pv 3))) (pa_cons (pv 2) (pa_star (pe_slice sl_list (pv 1) (po_some (pv 3)) po_none) pa_nil))))))))
      (pss_one (ps_ret (pv 1))))), ?_⟩
    refine q_asgL (el_lst ea_nil (by decide)) fun fl H1 nf e1 hf => ?_
    have npl : pvs.length = ps.length := pairedLen hp
    refine q_forLn (ev_var rfl) (SqL.of (e1 _ _ hl)) (fun i σ' H' => ∃ (r : Addr) (c d : Option V) (qvs : List V), σ' = [some (.ref l), some (.ref r), c, d, none] ∧ Ex H H' ∧ H r = none ∧ H' r = some (.lst qvs) ∧ Paired (PlA H') qvs (inOrder lx (ps.take i)))
      (fun H2 e2 => ⟨fl, none, none, [], rfl, e1.trans e2, nf, e2 _ _ hf, .nil⟩) (fun i σ' H' _ ⟨r, c, d, qvs, _, e, _⟩ => SqL.of (e _ _ hl)) ?_ ?_
    · rintro i x σ' H' hi ⟨r, c, d, qvs, rfl, e, nr, hr', hq⟩
      obtain ⟨p, hpi, hx0⟩ := pairedGet hp hi
      have hx := hx0.mono (Tx.of e)
      have hasc : Asc lx (inOrder lx (ps.take i)) := (inOrder_ok so_lx _ (nd.sublist (List.take_sublist _ _))).1
      have hlen : (inOrder lx (ps.take i)).length ≤ 1000 := by
        rw [(inOrder_ok so_lx _ (nd.sublist (List.take_sublist _ _))).2.2, List.length_take]
        omega
      have hql : qvs.length ≤ 1000 := by rw [pairedLen hq]; exact hlen
      have hfil : ((qvs.filter fun v => lx (plOf H' v) p)).length = ((inOrder lx (ps.take i)).filter fun z => lx z p).length := pairedLen (pairedFilter (fun a b h => by rw [h.of]) hq)
      refine q_asg (v := .int (((inOrder lx (ps.take i)).filter fun z => lx z p).length : Nat)) (ev_is (ev_lenNL (el_fmL (fun v => lx (plOf H' v) p) id (ev_var rfl) hr' (by omega) (fun _ => rfl) (fun j y H2 e2 hj => ?_) (fun j y H2 e2 hj _ => ev_var rfl))) ?_) fun H2 e2 => ?_
      · obtain ⟨z, _, hz'⟩ := pairedGet hq hj
        have := et_test (ev_lt (K := K) (σ := (wipe [some (V.ref l), some (.ref r), some x, d, none] [4]).set 4 (some y)) (ta := tVar 4) (tb := tVar 2) (ev_var rfl) (hz'.mono (Tx.of e2)) (ev_var rfl) (hx.mono (Tx.of e2)))
        rw [hz'.of]
        exact this
      · rw [List.map_id, hfil]
      · have hr2 := e2 _ _ hr'
        refine s_asgL (el_is (el_lst (ea_starL (el_sl (ev_var rfl) eo_none (eo_some (ev_var rfl)) (SqL.of hr2)) (ea_cons (ev_var rfl) (ea_starL (el_sl (ev_var rfl) (eo_some (ev_var rfl)) eo_none (SqL.of hr2)) ea_nil))) ?_) rfl) fun r3 H3 n3 e3 h3 => ?_
        · have h1 := cutV_length qvs none (some ((((inOrder lx (ps.take i)).filter fun z => lx z p).length : Nat) : Int))
          have h2 := cutV_length qvs (some ((((inOrder lx (ps.take i)).filter fun z => lx z p).length : Nat) : Int)) none
          simp only [List.length_append, List.length_cons, List.length_nil]
          omega
        · refine ⟨r3, some x, _, _, rfl, (e.trans e2).trans e3, fresh_back (e.trans e2) n3, h3, ?_⟩
          have et : ps.take (i + 1) = ps.take i ++ [p] := by rw [List.take_add_one, hpi]; rfl
          have em : Tx H' H3 := Tx.of (e2.trans e3)
          rw [et, inOrder_snoc, cutV_take, cutV_drop]
          have e7 : insP lx (inOrder lx (ps.take i)) p = (inOrder lx (ps.take i)).take ((inOrder lx (ps.take i)).filter fun z => lx z p).length ++ p :: (inOrder lx (ps.take i)).drop ((inOrder lx (ps.take i)).filter fun z => lx z p).length := by
            rw [insP_take so_lx p hasc, insP_drop so_lx p hasc]
            rfl
          rw [e7, List.append_nil]
          exact pairedApp (pairedTake _ (plsMono em hq)) (.cons (hx.mono em) (pairedDrop _ (plsMono em hq)))
    · rintro σ' H' ⟨r, c, d, qvs, rfl, e, nr, hr', hq⟩
      rw [npl, List.take_length] at hq
      exact s_ret (ev_var rfl) fun H2 e2 => k r qvs H2 (e.trans e2) nr (e2 _ _ hr') (plsMono (Tx.of e2) hq)
end
end M10

namespace M10
open PySem PySem.Spec L2 Evl StX

/-! ### what evaluates to what, further -/
def EvR (te : TE) (σ : L2.St) (H : Hp) (W : V → Hp → Prop) : Prop := ∀ H1, Ex H H1 → ∀ Q : VK, (∀ v H2, Ex H1 H2 → W v H2 → Q v H2) → te σ H1 Q
section
variable {K : PySem.W.Frag} {σ : L2.St} {H H' : Hp} {ta tb tc te : TE} {t : TT} {x y z v : V} {r : R2} {p q : Place} {ps : List Place} {l : Addr} {vs xs ys : List V} {W : V → Hp → Prop}
theorem ev_fld {a C dx : Addr} {fs : List (Str × V)} {f : Str} (ha : Ev ta σ H (.ref a)) (h : H a = some (.ins C dx fs)) (c : Cls K C) (n : NoAttr K C f) (hl : fs.lookup f = some v) : Ev (tFld K ta f) σ H v := fun H1 e Q q =>
  ha H1 e _ fun H2 e2 => ⟨a, C, dx, fs, v, rfl, (e.trans e2) _ _ h, c, n, hl, q H2 e2⟩
theorem el_listT (ha : Ev ta σ H (.ref l)) (h : H l = some (.tup xs)) : EvL (tCB (fun xs H Q => ∃ p ys, xs = [.ref p] ∧ (SqL K H p ys ∨ SqT K H p ys) ∧ ∀ l, H l = none → Q (.ref l) (L2.upd H l (.lst ys))) (tCons ta tNil)) σ H xs := fun H1 e Q q =>
  ha H1 e _ fun H2 e2 => ⟨l, xs, rfl, .inr (SqT.of ((e.trans e2) _ _ h)), fun m hm => q m _ (fresh_back e2 hm) (e2.trans (Ex.new hm)) upd_same⟩
theorem el_listL (ha : Ev ta σ H (.ref l)) (h : H l = some (.lst xs)) : EvL (tCB (fun xs H Q => ∃ p ys, xs = [.ref p] ∧ (SqL K H p ys ∨ SqT K H p ys) ∧ ∀ l, H l = none → Q (.ref l) (L2.upd H l (.lst ys))) (tCons ta tNil)) σ H xs := fun H1 e Q q =>
  ha H1 e _ fun H2 e2 => ⟨l, xs, rfl, .inl (SqL.of ((e.trans e2) _ _ h)), fun m hm => q m _ (fresh_back e2 hm) (e2.trans (Ex.new hm)) upd_same⟩
/-- tuple(xs) -/
theorem eu_tupleL (ha : Ev ta σ H (.ref l)) (h : H l = some (.lst xs)) : EvU (tCB (fun xs H Q => ∃ p ys, xs = [.ref p] ∧ ((SqL K H p ys ∧ ∀ l, H l = none → Q (.ref l) (L2.upd H l (.tup ys))) ∨ (SqT K H p ys ∧ Q (.ref p) H))) (tCons ta tNil)) σ H xs := fun H1 e Q q =>
  ha H1 e _ fun H2 e2 => ⟨l, xs, rfl, .inl ⟨SqL.of ((e.trans e2) _ _ h), fun m hm => q m _ (fresh_back e2 hm) (e2.trans (Ex.new hm)) upd_same⟩⟩
theorem pairedMap {F : V → Place → Prop} {G : V → V} {g : Place → V} (h : ∀ a b, F a b → G a = g b) : ∀ {l1 : List V} {l2 : List Place}, Paired F l1 l2 → l1.map G = l2.map g
  | _, _, .nil => rfl
  | _, _, .cons r t => by rw [List.map_cons, List.map_cons, h _ _ r, pairedMap h t]
/-- all([.. for p in t]), t a tuple of places -/
theorem ev_allPl {tl : TE} {j : Nat} {is : List Nat} (B : Place → Bool) (h : Ev tl σ H (.ref l)) (hx : H l = some (.tup xs)) (hp : Paired (PlA H) xs ps) (hz : xs.length ≤ 50000) (hw : ∀ x, wipe ((wipe σ is).set j (some x)) is = wipe σ is)
    (he : ∀ (x : V) (p : Place) H1, Ex H H1 → PlA H1 x p → p ∈ ps → Ev te ((wipe σ is).set j (some x)) H1 (.bl (B p))) :
    Ev (tCB (rAll K) (tCons (tLc (iTup K tl) (gName j) tYes te is) tNil)) σ H (.bl (ps.all B)) := by
  have q := ev_allNL (K := K) (bs := ps.map B) (el_is (el_fmT (K := K) (t := tYes) (te := te) (fun _ => true) (fun v => V.bl (B (plOf H v))) h hx hz hw (fun _ _ _ _ _ => et_yes) (fun i x H1 e hi _ => by
    obtain ⟨p, h1, h2⟩ := pairedGet hp hi
    have := he x p H1 e (h2.mono (Tx.of e)) (List.mem_of_getElem? h1)
    rw [h2.of]
    exact this)) (by rw [filter_true, List.map_map]; exact pairedMap (fun a b h => by show V.bl (B (plOf H a)) = V.bl (B b); rw [h.of]) hp))
  have e : ∀ l : List Place, (l.map B).all id = l.all B := fun l => by
    induction l with
    | nil => rfl
    | cons a r ih => rw [List.map_cons, List.all_cons, List.all_cons, ih]; rfl
  rw [e] at q
  exact q
theorem ev_allPlL {tl : TE} {j : Nat} {is : List Nat} (B : Place → Bool) (h : Ev tl σ H (.ref l)) (hx : H l = some (.lst xs)) (hp : Paired (PlA H) xs ps) (hz : xs.length ≤ 50000) (hw : ∀ x, wipe ((wipe σ is).set j (some x)) is = wipe σ is)
    (he : ∀ (x : V) (p : Place) H1, Ex H H1 → PlA H1 x p → p ∈ ps → Ev te ((wipe σ is).set j (some x)) H1 (.bl (B p))) :
    Ev (tCB (rAll K) (tCons (tLc (iList K tl) (gName j) tYes te is) tNil)) σ H (.bl (ps.all B)) := by
  have q := ev_allNL (K := K) (bs := ps.map B) (el_is (el_fmL (K := K) (t := tYes) (te := te) (fun _ => true) (fun v => V.bl (B (plOf H v))) h hx hz hw (fun _ _ _ _ _ => et_yes) (fun i x H1 e hi _ => by
    obtain ⟨p, h1, h2⟩ := pairedGet hp hi
    have := he x p H1 e (h2.mono (Tx.of e)) (List.mem_of_getElem? h1)
    rw [h2.of]
    exact this)) (by rw [filter_true, List.map_map]; exact pairedMap (fun a b h => by show V.bl (B (plOf H a)) = V.bl (B b); rw [h.of]) hp))
  have e : ∀ l : List Place, (l.map B).all id = l.all B := fun l => by
    induction l with
    | nil => rfl
    | cons a r ih => rw [List.map_cons, List.all_cons, List.all_cons, ih]; rfl
  rw [e] at q
  exact q
theorem ev_allNT {tl : TE} {j : Nat} {is : List Nat} (h : EvU tl σ H xs) (hz : xs.length ≤ 50000) (hw : ∀ x, wipe ((wipe σ is).set j (some x)) is = wipe σ is)
    (he : ∀ (i : Nat) (x : V) H1, Ex H H1 → xs[i]? = some x → Ev te ((wipe σ is).set j (some x)) H1 (.bl true)) :
    Ev (tCB (rAll K) (tCons (tLc (iTup K tl) (gName j) tYes te is) tNil)) σ H (.bl true) := fun H1 e1 Q q => by
  refine h H1 e1 _ fun p H2 hp e2 h2 => ?_
  have z := ev_allT (K := K) (te := te) (j := j) (is := is) (σ := σ) (H := H2) (tl := tC (.ref p)) (l := p) ev_c h2 hz hw (fun i x H3 e3 hi => he i x H3 ((e1.trans e2).trans e3) hi)
  exact z H2 (Ex.refl H2) Q fun H3 e3 => q H3 (e2.trans e3)
/-- t + u of two tuples that are not empty -/
theorem eu_cat {m : Addr} (ha : Ev ta σ H (.ref l)) (hb : Ev tb σ H (.ref m)) (h1 : H l = some (.tup xs)) (h2 : H m = some (.tup ys)) (n1 : xs ≠ []) (n2 : ys ≠ []) (hz : xs.length + ys.length ≤ 100000) : EvU (tOp (rCatT K) ta tb) σ H (xs ++ ys) := fun H1 e Q q =>
  ha H1 e _ fun H2 e2 => hb H2 (e.trans e2) _ fun H3 e3 => ⟨l, m, xs, ys, rfl, rfl, SqT.of (((e.trans e2).trans e3) _ _ h1), SqT.of (((e.trans e2).trans e3) _ _ h2), n1, sz_of hz, fun z => (n2 z).elim,
    fun _ p hp => q p _ (fresh_back (e2.trans e3) hp) ((e2.trans e3).trans (Ex.new hp)) upd_same⟩
/-- for a, b in enumerate(xs) -/
theorem s_forEn {D : Ends} {tu : TS} {tl : TE} {j1 j2 : Nat} (h : Ev tl σ H (.ref l)) (hx : H l = some (.lst xs)) (Pv : Nat → L2.St → Hp → Prop) (h0 : ∀ H1, Ex H H1 → Pv 0 σ H1) (hG : ∀ i σ' H', i ≤ xs.length → Pv i σ' H' → H' l = some (.lst xs))
    (hs : ∀ i x σ' H' H2, xs[i]? = some x → Pv i σ' H' → Ex H' H2 → tu { D with nx := Pv (i + 1), ct := Pv (i + 1), bk := D.nx } ((σ'.set j1 (some (.int (i : Nat)))).set j2 (some x)) H2) (hd : ∀ σ' H', Pv xs.length σ' H' → D.nx σ' H') :
    tFor (iEnum K (tCons tl tNil)) (gTup K 2 (gCons (gName j1) (gCons (gName j2) gNil))) tu D σ H := h H (Ex.refl H) _ fun H1 e => ⟨l, xs, rfl, SqL.of (e _ _ hx), for_it (walk_enum (K := K) (a := l) (xs := xs)) Pv (h0 H1 e) (fun i σ' H' hi p => SqL.of (hG i σ' H' hi p)) (fun i v σ' H' H2 hi p y => by
    obtain ⟨T, a, b, rfl, nT, rfl, e1, e2⟩ := y
    cases e1
    refine ⟨T, _, rfl, SqT.of upd_same, rfl, _, _, rfl, _, _, rfl, rfl, ?_⟩
    exact hs i b σ' H' _ e2 p (Ex.new nT)) hd⟩
theorem s_forEnT {D : Ends} {tu : TS} {tl : TE} {j1 j2 : Nat} (h : Ev tl σ H (.ref l)) (hx : H l = some (.tup xs)) (Pv : Nat → L2.St → Hp → Prop) (h0 : ∀ H1, Ex H H1 → Pv 0 σ H1) (hG : ∀ i σ' H', i ≤ xs.length → Pv i σ' H' → H' l = some (.tup xs))
    (hs : ∀ i x σ' H' H2, xs[i]? = some x → Pv i σ' H' → Ex H' H2 → tu { D with nx := Pv (i + 1), ct := Pv (i + 1), bk := D.nx } ((σ'.set j1 (some (.int (i : Nat)))).set j2 (some x)) H2) (hd : ∀ σ' H', Pv xs.length σ' H' → D.nx σ' H') :
    tFor (iEnumT K (tCons tl tNil)) (gTup K 2 (gCons (gName j1) (gCons (gName j2) gNil))) tu D σ H := h H (Ex.refl H) _ fun H1 e => ⟨l, xs, rfl, SqT.of (e _ _ hx), for_it (walk_enumT (K := K) (a := l) (xs := xs)) Pv (h0 H1 e) (fun i σ' H' hi p => SqT.of (hG i σ' H' hi p)) (fun i v σ' H' H2 hi p y => by
    obtain ⟨T, a, b, rfl, nT, rfl, e1, e2⟩ := y
    cases e1
    refine ⟨T, _, rfl, SqT.of upd_same, rfl, _, _, rfl, _, _, rfl, rfl, ?_⟩
    exact hs i b σ' H' _ e2 p (Ex.new nT)) hd⟩
theorem q_forEn {D : Ends} {tu tz : TS} {tl : TE} {j1 j2 : Nat} (h : Ev tl σ H (.ref l)) (hx : H l = some (.lst xs)) (Pv : Nat → L2.St → Hp → Prop) (h0 : ∀ H1, Ex H H1 → Pv 0 σ H1) (hG : ∀ i σ' H', i ≤ xs.length → Pv i σ' H' → H' l = some (.lst xs))
    (hs : ∀ i x σ' H' H2, xs[i]? = some x → Pv i σ' H' → Ex H' H2 → tu { D with nx := Pv (i + 1), ct := Pv (i + 1), bk := tz D } ((σ'.set j1 (some (.int (i : Nat)))).set j2 (some x)) H2) (hd : ∀ σ' H', Pv xs.length σ' H' → tz D σ' H') :
    tSeq (tFor (iEnum K (tCons tl tNil)) (gTup K 2 (gCons (gName j1) (gCons (gName j2) gNil))) tu) tz D σ H := s_forEn (D := { D with nx := tz D }) h hx Pv h0 hG hs hd
theorem q_forEnT {D : Ends} {tu tz : TS} {tl : TE} {j1 j2 : Nat} (h : Ev tl σ H (.ref l)) (hx : H l = some (.tup xs)) (Pv : Nat → L2.St → Hp → Prop) (h0 : ∀ H1, Ex H H1 → Pv 0 σ H1) (hG : ∀ i σ' H', i ≤ xs.length → Pv i σ' H' → H' l = some (.tup xs))
    (hs : ∀ i x σ' H' H2, xs[i]? = some x → Pv i σ' H' → Ex H' H2 → tu { D with nx := Pv (i + 1), ct := Pv (i + 1), bk := tz D } ((σ'.set j1 (some (.int (i : Nat)))).set j2 (some x)) H2) (hd : ∀ σ' H', Pv xs.length σ' H' → tz D σ' H') :
    tSeq (tFor (iEnumT K (tCons tl tNil)) (gTup K 2 (gCons (gName j1) (gCons (gName j2) gNil))) tu) tz D σ H := s_forEnT (D := { D with nx := tz D }) h hx Pv h0 hG hs hd
end

section
variable {K : PySem.W.Frag} {P : Program} {w : World} {mg : Str → Option Value} {base : Heap}
/-! ### checked_moves -/
def MvsL (H : Hp) (v : V) (ms : List Move) : Prop := ∃ l vs, v = .ref l ∧ H l = some (.lst vs) ∧ Paired (MvA H) vs ms
theorem MvsL.mono {H H' : Hp} {v : V} {ms : List Move} (e : Ex H H') (h : MvsL H v ms) : MvsL H' v ms := let ⟨l, vs, e1, e2, p⟩ := h; ⟨l, vs, e1, e _ _ e2, mvsMono (Tx.of e) p⟩
theorem PlsL.mono {H H' : Hp} {v : V} {ps : List Place} (e : Ex H H') (h : PlsL H v ps) : PlsL H' v ps := let ⟨l, vs, e1, e2, p⟩ := h; ⟨l, vs, e1, e _ _ e2, plsMono (Tx.of e) p⟩
def spChecked : Sp := fun vs H Q _ => ∃ (pv mv : V) (ps : List Place) (ms : List Move), vs = [pv, mv] ∧ PlsT H pv ps ∧ MvsL H mv ms ∧ (∀ m ∈ ms, MvOk ps m) ∧ ms.length ≤ 50000 ∧
  ∀ u mvs H', Ex H H' → H' u = some (.tup mvs) → Paired (MvA H') mvs ms → Q (.ref u) H'
theorem scChecked : FnScope ["places", "moves", "index", "move", "place"] ["places", "moves"] (defScope sChecked) := ⟨rfl, rfl, rfl, by decide +kernel, rfl, by decide +kernel, by decide +kernel⟩
theorem ok_checked (T : Txt K mg) (D : DefAt K mg "checked_moves" sChecked ["places", "moves"]) (G : Callee P w K mg base 4 "is_move" ["value"] spIsMove) : Callee P w K mg base 5 "checked_moves" ["places", "moves"] spChecked := by
  obtain ⟨f1, fd1, F1, m1, k1, b1⟩ := G
  refine D.callee fun f fd F => F.ok scChecked (fun vs H Q E h => ?_) (fun cdv A outer s H vs Q E hr h => ?_)
  · obtain ⟨pv, mv, ps, ms, rfl, _⟩ := h
    rfl
  · obtain ⟨pw, mv, ps, ms, rfl, ⟨t, pvs, rfl, ht, hp⟩, ⟨l, mvs, rfl, hl, hm⟩, ok, hz, k⟩ := h
    refine ⟨_, (pss_cons (ps_if (pt_not (pt_val (pe_callB call_isiT (by rfl) T.isinstance (by decide +kernel) (pa_cons (pv 1) (pa_cons (pe_tup (pa_cons (pe_bltn (v := .ty "list") (by rfl) T.list (by decide +kernel) rfl) (pa_cons (pe_bltn (v := .ty "tuple") (by rfl) T.tuple (by decide +kernel) rfl) pa_nil))) pa_nil))))) pss_never pss_nil)
      (pss_cons (ps_for PassesOwn.never rfl (pi_enum (by rfl) T.enumerate (pa_cons (pv 1) pa_nil)) (pg_tup rfl (pgs_cons (pg_name (i := 2) scChecked.nd rfl (Or.inl rfl)) (pgs_cons (pg_name (i := 3) scChecked.nd rfl (Or.inl rfl)) pgs_nil)))
        (pss_one (ps_if (PW.pt (pw_or (pt_not (pt_val (pe_call F1 hr (by rfl) m1 k1 b1 .nil pass0 (pa_cons (pv 3) pa_nil)))) (pw_or1 (pt_not (pt_val (pe_callB (cr_all rfl) (by rfl) T.all (by decide +kernel) (pa_cons (pe_lc (own := [("place", 4)]) (g := gName 4) (tt := tYes) (by rfl) scChecked.nd (pi_tup (pe_op op_catT (pe_ix ix_tup (pv 3) pe_int (fun _ _ => rfl)) (pe_ix ix_tup (pv 3) pe_int (fun _ _ => rfl)))) (blkOk_by (own := [("place", 4)]) (N := ["places", "moves", "index", "move", "place"]) (sc := defScope sChecked) (by decide +kernel)) (fun _ _ _ _ _ => pg_name (i := 4) scChecked.nd rfl (Or.inl rfl)) (fun _ _ _ _ _ => pts_nil) (fun _ _ _ _ _ => (pe_cmpR (op_inDTK (K := K) rfl (hu65_of hr)) (pv 4) (pv 0) (by rfl)))) pa_nil))))))) pss_never pss_nil)))
      (pss_one (ps_ret (pe_callTy call_tuple_of (by rfl) T.tuple (by decide +kernel) (pa_cons (pv 1) pa_nil)))))), ?_⟩
    refine q_skip (et_not (a := true) (et_B (ev_isiT (ev_var rfl) (eu_tup (ea_cons ev_c (ea_cons ev_c ea_nil)) (by decide)) (.cons (.ty _) (.cons (.ty _) .nil)) (fun H1 e => tyx_lst (e _ _ hl)) (by
      refine kitAny_cons (b := true) (kit_ty (by decide +kernel)) (fun z => nomatch z) fun _ => rfl)))) fun H1 e1 => ?_
    have nlen : mvs.length = ms.length := pairedLen hm
    refine q_forEn (ev_var rfl) (e1 _ _ hl) (fun i σ' H' => ∃ c d : Option V, σ' = [some (.ref t), some (.ref l), c, d, none] ∧ Ex H H') (fun H2 e2 => ⟨none, none, rfl, e1.trans e2⟩) (fun i σ' H' _ ⟨c, d, _, e⟩ => e _ _ hl) ?_ ?_
    · rintro i x σ' H' H2 hi ⟨c, d, rfl, e⟩ e2
      have e02 := e.trans e2
      obtain ⟨m, hmi, hx0⟩ := pairedGet hm hi
      have hok := ok m (List.mem_of_getElem? hmi)
      have hx := hx0.mono (Tx.of e02)
      obtain ⟨a, ia, n, oa, rfl, ha, ⟨ia', iv, rfl, hia, hip⟩, ⟨oa', ov, rfl, hoa, hop⟩⟩ := id hx
      have il : iv.length = m.ins.length := pairedLen hip
      have ol : ov.length = m.outs.length := pairedLen hop
      have hsz := hok.1.sz
      have heq := hok.1.eq
      refine s_skip (et_or (a := false) (b := false) (et_not (a := true) (et_B (ev_call (ea_cons (ev_var rfl) ea_nil) fun H3 e3 Q q E => ⟨_, m, ps, rfl, hx.mono (Tx.of e3), hok, q⟩))) fun _ => et_not (a := true) (et_B (ev_allNT (eu_cat (ev_ixT (j := 0) (ev_var rfl) ev_c ha rfl) (ev_ixT (j := 2) (ev_var rfl) ev_c ha rfl) hia hoa ?_ ?_ ?_) ?_ (fun _ => rfl) fun j y H3 e3 hj => ?_))) fun H3 e3 => ⟨_, _, rfl, e02.trans e3⟩
      · intro z
        rw [z] at il
        rcases hsz with h | h | h <;> rw [h] at il <;> cases il
      · intro z
        rw [z] at ol
        rw [heq] at ol
        rcases hsz with h | h | h <;> rw [h] at ol <;> cases ol
      · rcases hsz with h | h | h <;> omega
      · rw [List.length_append]
        rcases hsz with h | h | h <;> omega
      · obtain ⟨p, hp1, hp2⟩ := pairedGet (pairedApp hip hop) hj
        have hin : p ∈ ps := by
          rcases List.mem_append.mp (List.mem_of_getElem? hp1) with z | z
          · exact hok.1.ip p z
          · exact hok.1.op p z
        have := ev_inT (K := K) (σ := (wipe [some (V.ref t), some (.ref l), some (.int (i : Nat)), some (.ref a), none] [4]).set 4 (some y)) (ta := tVar 4) (tb := tVar 0) (ev_var rfl) (hp2.mono (Tx.of e3)) (ev_var rfl) ((e02.trans e3) _ _ ht) (plsMono (Tx.of (e02.trans e3)) hp)
        rw [decide_eq_true hin] at this
        exact this
    · rintro σ' H' ⟨c, d, rfl, e⟩
      exact s_retU (eu_tupleL (ev_var rfl) (e _ _ hl)) fun u H2 _ e2 h2 => k u mvs H2 (e.trans e2) h2 (mvsMono (Tx.of (e.trans e2)) hm)
end
end M10

namespace M10
open PySem PySem.Spec L2 Evl StX

/-! ### the class Ways -/
def wf (t u : Addr) : List (Str × V) := putF "own_moves" (.ref u) (putF "own_places" (.ref t) [])
theorem nMP : ¬ (("own_places" : Str) = "own_moves") := by decide +kernel
theorem wf_places (t u : Addr) : (wf t u).lookup ("own_places" : Str) = some (.ref t) := by
  unfold wf
  rw [lookup_putF, if_neg nMP, lookup_putF, if_pos rfl]
theorem wf_moves (t u : Addr) : (wf t u).lookup ("own_moves" : Str) = some (.ref u) := by
  unfold wf
  rw [lookup_putF, if_pos rfl]
theorem wf_no (t u : Addr) {m : Str} (h1 : ¬ m = "own_moves") (h2 : ¬ m = "own_places") : (wf t u).lookup m = none := by
  unfold wf
  rw [lookup_putF, if_neg h1, lookup_putF, if_neg h2]
  rfl
def WaysAt (C : Addr) (H : Hp) (v : V) (ps : List Place) (ms : List Move) : Prop := ∃ a dx t u pvs mvs, v = .ref a ∧ H a = some (.ins C dx (wf t u)) ∧ H t = some (.tup pvs) ∧ Paired (PlA H) pvs ps ∧ H u = some (.tup mvs) ∧ Paired (MvA H) mvs ms
theorem WaysAt.mono {C : Addr} {H H' : Hp} {v : V} {ps : List Place} {ms : List Move} (e : Ex H H') (h : WaysAt C H v ps ms) : WaysAt C H' v ps ms :=
  let ⟨a, dx, t, u, pvs, mvs, e1, e2, e3, e4, e5, e6⟩ := h
  ⟨a, dx, t, u, pvs, mvs, e1, e _ _ e2, e _ _ e3, plsMono (Tx.of e) e4, e _ _ e5, mvsMono (Tx.of e) e6⟩
/-- ways stay while what is no instance and no tuple changes -/
theorem WaysAt.upd {C : Addr} {H : Hp} {v : V} {ps : List Place} {ms : List Move} {p : Addr} {o : HO} (h : WaysAt C H v ps ms) (ht : ∀ xs, H p ≠ some (.tup xs)) (hi : ∀ C dx fs, H p ≠ some (.ins C dx fs)) : WaysAt C (L2.upd H p o) v ps ms := by
  obtain ⟨a, dx, t, u, pvs, mvs, e1, e2, e3, e4, e5, e6⟩ := h
  have tx : Tx H (L2.upd H p o) := Tx.upd ht
  exact ⟨a, dx, t, u, pvs, mvs, e1, by rw [upd_ne fun z => hi _ _ _ (z ▸ e2)]; exact e2, tx _ _ e3, plsMono tx e4, tx _ _ e5, mvsMono tx e6⟩
structure WTxt (K : PySem.W.Frag) (mg : Str → Option Value) (C : Addr) : Prop where
  cl : Cls K C
  nP : NoAttr K C "own_places"
  nM : NoAttr K C "own_moves"
  mgC : mg "Ways" = some (.ref C)
def CalleeM (P : Program) (w : World) (K : PySem.W.Frag) (mg : Str → Option Value) (base : Heap) (C : Addr) (k : Nat) (x : Str) (ps : List Str) (sp : Sp) : Prop :=
  ∃ f fd, FnOk P w K mg base CX0 k f fd ps sp ∧ Meth K C x f ∧ Binds K fd ps [] ∧ PySem.W.fnIn K f = true
def DefAtM (K : PySem.W.Frag) (C : Addr) (x qual : Str) (st : Stmt) (ps : List Str) : Prop :=
  ∃ f fd, Fun K x qual st f fd ∧ Meth K C x f ∧ Binds K fd ps [] ∧ PySem.W.fnIn K f = true
theorem DefAtM.callee {P : Program} {w : World} {K : PySem.W.Frag} {mg : Str → Option Value} {base : Heap} {C : Addr} {k : Nat} {x qual : Str} {st : Stmt} {ps : List Str} {sp : Sp} (D : DefAtM K C x qual st ps)
    (h : ∀ f fd, Fun K x qual st f fd → FnOk P w K mg base CX0 k f fd ps sp) : CalleeM P w K mg base C k x ps sp := by
  obtain ⟨f, fd, F, m, b, q⟩ := D
  exact ⟨f, fd, h f fd F, m, b, q⟩
section
variable {P : Program} {w : World} {K : PySem.W.Frag} {mg : Str → Option Value} {base : Heap} {C : Addr}
def spMoves (C : Addr) : Sp := fun vs H Q _ => ∃ (v : V) (ps : List Place) (ms : List Move), vs = [v] ∧ WaysAt C H v ps ms ∧ ∀ r mvs H', Ex H H' → H r = none → H' r = some (.lst mvs) → Paired (MvA H') mvs ms → Q (.ref r) H'
theorem scMoves : FnScope ["self"] ["self"] (defScope sMoves) := ⟨rfl, rfl, rfl, by decide +kernel, rfl, by decide +kernel, by decide +kernel⟩
theorem ok_moves (T : Txt K mg) (W : WTxt K mg C) (D : DefAtM K C "moves" "Ways.moves" sMoves ["self"]) : CalleeM P w K mg base C 1 "moves" ["self"] (spMoves C) := by
  refine D.callee fun f fd F => F.ok scMoves (fun vs H Q E h => ?_) (fun cdv A outer s H vs Q E hr h => ?_)
  · obtain ⟨v, ps, ms, rfl, _⟩ := h
    rfl
  · obtain ⟨v, ps, ms, rfl, ⟨a, dx, t, u, pvs, mvs, rfl, ha, ht, hp, hu, hm⟩, k⟩ := h
    refine ⟨_, (pss_one (ps_ret (pe_callTy call_list_of (by rfl) T.list (by decide +kernel) (pa_cons (pe_fld (pv 0) rfl) pa_nil)))), ?_⟩
    exact s_retL (el_listT (ev_fld (ev_var rfl) ha W.cl W.nM (wf_moves _ _)) hu) fun r H1 nr e hr1 => k r mvs H1 e nr hr1 (mvsMono (Tx.of e) hm)
def spContains (C : Addr) : Sp := fun vs H Q _ => ∃ (v x : V) (ps : List Place) (ms : List Move) (p : Place), vs = [v, x] ∧ WaysAt C H v ps ms ∧ PlA H x p ∧ Pl p ∧ RetV (.bl (decide (p ∈ ps))) H Q
theorem scContains : FnScope ["self", "place"] ["self", "place"] (defScope sContains) := ⟨rfl, rfl, rfl, by decide +kernel, rfl, by decide +kernel, by decide +kernel⟩
theorem ok_contains (T : Txt K mg) (W : WTxt K mg C) (D : DefAtM K C "__contains__" "Ways.__contains__" sContains ["self", "place"]) (G : Callee P w K mg base 2 "is_place" ["value"] spIsPlace) : CalleeM P w K mg base C 3 "__contains__" ["self", "place"] (spContains C) := by
  obtain ⟨f1, fd1, F1, m1, k1, b1⟩ := G
  refine D.callee fun f fd F => F.ok scContains (fun vs H Q E h => ?_) (fun cdv A outer s H vs Q E hr h => ?_)
  · obtain ⟨v, x, ps, ms, p, rfl, _⟩ := h
    rfl
  · obtain ⟨v, x, ps, ms, p, rfl, ⟨a, dx, t, u, pvs, mvs, rfl, ha, ht, hp, hu, hm⟩, hx, hpl, k⟩ := h
    refine ⟨_, (pss_one (ps_ret (pe_and (pe_call F1 hr (by rfl) m1 k1 b1 .nil pass0 (pa_cons (pv 1) pa_nil)) (pe_one (pe_cmpR (op_inDT (hu65_of hr)) (pv 1) (pe_fld (pv 0) rfl) (by rfl)))))), ?_⟩
    refine s_ret (v := .bl (true && decide (p ∈ ps))) (ev_andV (ev_call (ea_cons (ev_var rfl) ea_nil) fun H2 e2 Q q E => ⟨_, p, rfl, hx.mono (Tx.of e2), hpl.1, hpl.2, q⟩) fun _ => ev_inT (ev_var rfl) hx (ev_fld (ev_var rfl) ha W.cl W.nP (wf_places _ _)) ht hp) fun H1 e => ?_
    rw [Bool.true_and]
    exact k H1 e
def spGetItem (C : Addr) : Sp := fun vs H Q _ => ∃ (v : V) (ps : List Place) (ms : List Move) (n : Nat) (m : Move), vs = [v, .int (n : Int)] ∧ WaysAt C H v ps ms ∧ ms[n]? = some m ∧ ∀ r H', Ex H H' → MvA H' r m → Q r H'
theorem scGetItem : FnScope ["self", "index"] ["self", "index"] (defScope sGetItem) := ⟨rfl, rfl, rfl, by decide +kernel, rfl, by decide +kernel, by decide +kernel⟩
theorem ok_getItem (T : Txt K mg) (W : WTxt K mg C) (D : DefAtM K C "__getitem__" "Ways.__getitem__" sGetItem ["self", "index"]) (G : Callee P w K mg base 2 "is_integer" ["value", "lowest", "highest"] spInteger) : CalleeM P w K mg base C 3 "__getitem__" ["self", "index"] (spGetItem C) := by
  obtain ⟨f1, fd1, F1, m1, k1, b1⟩ := G
  refine D.callee fun f fd F => F.ok scGetItem (fun vs H Q E h => ?_) (fun cdv A outer s H vs Q E hr h => ?_)
  · obtain ⟨v, ps, ms, n, m, rfl, _⟩ := h
    rfl
  · obtain ⟨v, ps, ms, n, m, rfl, ⟨a, dx, t, u, pvs, mvs, rfl, ha, ht, hp, hu, hm⟩, hn, k⟩ := h
    obtain ⟨mv, hmv, hmm⟩ := pairedGet2 hm hn
    have hlt := (List.getElem?_eq_some_iff.mp hmv).1
    refine ⟨_, (pss_cons (ps_if (pt_not (pt_val (pe_call F1 hr (by rfl) m1 k1 b1 .nil pass0 (pa_cons (pv 1) (pa_cons pe_int (pa_cons (pe_op op_sub (pe_callB call_len_seq (by rfl) T.len (by decide +kernel) (pa_cons (pe_fld (pv 0) rfl) pa_nil)) pe_int) pa_nil)))))) pss_never pss_nil)
      (pss_one (ps_ret (pe_ix ix_tup (pe_fld (pv 0) rfl) (pv 1) (fun _ _ => rfl))))), ?_⟩
    refine q_skip (et_not (a := true) (et_B (ev_is (ev_call (z := .bl (decide ((0 : Int) ≤ n) && decide ((n : Int) ≤ (mvs.length : Nat) - 1))) (ea_cons (ev_var rfl) (ea_cons ev_c (ea_cons (ev_op (ev_lenT (ev_fld (ev_var rfl) ha W.cl W.nM (wf_moves _ _)) hu) ev_c rv_I0) ea_nil))) fun H2 e2 Q q E => ⟨_, _, _, rfl, q⟩) ?_))) fun H1 e1 => ?_
    · rw [decide_eq_true (by omega), decide_eq_true (by omega)]
      rfl
    · exact s_ret (ev_ixT (ev_fld (ev_var rfl) (e1 _ _ ha) W.cl W.nM (wf_moves _ _)) (ev_var rfl) (e1 _ _ hu) hmv) fun H2 e2 => k _ H2 (e1.trans e2) (hmm.mono (Tx.of (e1.trans e2)))
def spWithin (C : Addr) : Sp := fun vs H Q _ => ∃ (v x : V) (ps : List Place) (ms : List Move) (R : List Place), vs = [v, x] ∧ WaysAt C H v ps ms ∧ PlsL H x R ∧ (∀ m ∈ ms, m.ins.length ≤ 4) ∧ ms.length ≤ 50000 ∧
  ∀ r (is : List Nat) H', Ex H H' → H r = none → H' r = some (.lst (is.map fun i => V.int (i : Nat))) → is.length ≤ ms.length → (∀ i ∈ is, ∃ m, ms[i]? = some m ∧ ∀ q ∈ m.ins, q ∈ R) → Q (.ref r) H'
theorem scWithin : FnScope ["self", "places", "known", "found", "index", "move", "place"] ["self", "places"] (defScope sWithin) := ⟨rfl, rfl, rfl, by decide +kernel, rfl, by decide +kernel, by decide +kernel⟩
theorem ok_within (T : Txt K mg) (W : WTxt K mg C) (D : DefAtM K C "within" "Ways.within" sWithin ["self", "places"]) : CalleeM P w K mg base C 1 "within" ["self", "places"] (spWithin C) := by
  refine D.callee fun f fd F => F.ok scWithin (fun vs H Q E h => ?_) (fun cdv A outer s H vs Q E hr h => ?_)
  · obtain ⟨v, x, ps, ms, R, rfl, _⟩ := h
    rfl
  · obtain ⟨v, x, ps, ms, R, rfl, ⟨a, dx, t, u, pvs, mvs, rfl, ha, ht, hp, hu, hm⟩, ⟨l, rvs, rfl, hl, hR⟩, h4, hz, k⟩ := h
    refine ⟨_, (pss_cons (ps_set (i := 2) scWithin.nd rfl (Or.inr rfl) (pe_callTy call_list_of (by rfl) T.list (by decide +kernel) (pa_cons (pv 1) pa_nil)))
      (pss_cons (ps_set (i := 3) scWithin.nd rfl (Or.inl rfl) (pe_lst pa_nil))
      (pss_cons (ps_for PassesOwn.never rfl (pi_enumT (by rfl) T.enumerate (pa_cons (pe_fld (pv 0) rfl) pa_nil)) (pg_tup rfl (pgs_cons (pg_name (i := 4) scWithin.nd rfl (Or.inl rfl)) (pgs_cons (pg_name (i := 5) scWithin.nd rfl (Or.inl rfl)) pgs_nil)))
        (pss_one (ps_expr (pe_bm PySem.F.plainAttrs_list PySem.F.slot_list_extend PySem.F.type_list_extend mt_extend (pv 3) (pa_cons (pe_ifExp (pt_val (pe_callB (cr_all rfl) (by rfl) T.all (by decide +kernel) (pa_cons (pe_lc (own := [("place", 6)]) (g := gName 6) (tt := tYes) (by rfl) scWithin.nd (pi_tup (pe_ix ix_tup (pv 5) pe_int (fun _ _ => rfl))) (blkOk_by (own := [("place", 6)]) (N := ["self", "places", "known", "found", "index", "move", "place"]) (sc := defScope sWithin) (by decide +kernel)) (fun _ _ _ _ _ => pg_name (i := 6) scWithin.nd rfl (Or.inl rfl)) (fun _ _ _ _ _ => pts_nil) (fun _ _ _ _ _ => (pe_cmpR (op_inDK (K := K) rfl (hu65_of hr)) (pv 6) (pv 2) (by rfl)))) pa_nil))) (pe_lst (pa_cons (pv 4) pa_nil)) (pe_lst pa_nil)) pa_nil)))))
      (pss_one (ps_ret (pv 3)))))), ?_⟩
    refine q_asgL (el_listL (ev_var rfl) hl) fun kn H1 nkn e1 hkn => ?_
    refine q_asgL (el_lst ea_nil (by decide)) fun fl H2 nfl e2 hfl => ?_
    have mlen : mvs.length = ms.length := pairedLen hm
    refine q_forEnT (ev_fld (ev_var rfl) ((e1.trans e2) _ _ ha) W.cl W.nM (wf_moves _ _)) ((e1.trans e2) _ _ hu)
      (fun i σ' H' => ∃ (c d : Option V) (is : List Nat), σ' = [some (.ref a), some (.ref l), some (.ref kn), some (.ref fl), c, d, none] ∧ Ex H1 H' ∧ H' fl = some (.lst (is.map fun i => V.int (i : Nat))) ∧ is.length ≤ i ∧ ∀ j ∈ is, ∃ m, ms[j]? = some m ∧ ∀ q ∈ m.ins, q ∈ R)
      (fun H3 e3 => ⟨none, none, [], rfl, e2.trans e3, e3 _ _ hfl, Nat.le_refl _, fun j hj => by cases hj⟩) (fun i σ' H' _ ⟨c, d, is, _, e, _⟩ => (e1.trans e) _ _ hu) ?_ ?_
    · rintro i x σ' H' H3 hi ⟨c, d, is, rfl, e, hf, hlen, hsnd⟩ e3
      obtain ⟨m, hmi, hx0⟩ := pairedGet hm hi
      have hii := (List.getElem?_eq_some_iff.mp hi).1
      have e13 := e.trans e3
      have hx := hx0.mono (Tx.of (e1.trans e13))
      obtain ⟨b, ia, n, oa, rfl, hb, ⟨ia', iv, rfl, hia, hip⟩, _⟩ := id hx
      have il : iv.length = m.ins.length := pairedLen hip
      have h4' := h4 m (List.mem_of_getElem? hmi)
      have hkR : Paired (PlA H3) rvs R := plsMono (Tx.of (e1.trans e13)) hR
      have test : EvT (tB (tCB (rAll K) (tCons (tLc (iTup K (tOp (rIxT K) (tVar 5) (tC (.int 0)))) (gName 6) tYes (tOp (rInD K) (tVar 6) (tVar 2)) [6]) tNil))) [some (.ref a), some (.ref l), some (.ref kn), some (.ref fl), some (.int (i : Nat)), some (.ref b), none] H3 (m.ins.all fun p => decide (p ∈ R)) :=
        et_B (ev_allPl (fun p => decide (p ∈ R)) (ev_ixT (j := 0) (ev_var rfl) ev_c hb rfl) hia hip (by omega) (fun _ => rfl) fun y p H4 e4 hy _ => ev_inL (ev_var rfl) hy (ev_var rfl) ((e13.trans e4) _ _ hkn) (plsMono (Tx.of e4) hkR))
      have hf3 := e3 _ _ hf
      refine ⟨_, rfl, .inl ⟨rfl, _, SqL.of hf3⟩, ?_⟩
      refine test H3 (Ex.refl H3) _ fun H4 e4 => ?_
      cases hc : m.ins.all fun p => decide (p ∈ R) with
      | true =>
        refine iteT ?_
        refine ⟨_, rfl, (by show 1 ≤ sizeLine; decide), fun q nq => ?_⟩
        have nqf : fl ≠ q := ne_of_none (e4 _ _ hf3) nq
        refine ⟨fl, q, _, _, rfl, rfl, by rw [upd_ne nqf]; exact e4 _ _ hf3, upd_same, sz_of (by simp; omega), ?_⟩
        refine ⟨_, _, is ++ [i], rfl, Ex.mut ((e13.trans e4).trans (Ex.new nq)) nfl, by rw [upd_same]; simp, by simp; omega, fun j hj => ?_⟩
        rcases List.mem_append.mp hj with z | z
        · exact hsnd j z
        · rw [List.mem_singleton] at z
          subst z
          exact ⟨m, hmi, fun q hq => of_decide_eq_true (List.all_eq_true.mp hc q hq)⟩
      | false =>
        refine iteF ?_
        refine ⟨(by show 0 ≤ sizeLine; decide), fun q nq => ?_⟩
        have nqf : fl ≠ q := ne_of_none (e4 _ _ hf3) nq
        refine ⟨fl, q, _, _, rfl, rfl, by rw [upd_ne nqf]; exact e4 _ _ hf3, upd_same, sz_of (by simp; omega), ?_⟩
        exact ⟨_, _, is, rfl, Ex.mut ((e13.trans e4).trans (Ex.new nq)) nfl, by rw [upd_same]; simp, by omega, hsnd⟩
    · rintro σ' H' ⟨c, d, is, rfl, e, hf, hlen, hsnd⟩
      exact s_ret (ev_var rfl) fun H3 e3 => k fl is H3 ((e1.trans e).trans e3) (fresh_back e1 nfl) (e3 _ _ hf) (by omega) hsnd
end
end M10

namespace M10
open PySem PySem.Spec L2 Evl StX

section
variable {P : Program} {w : World} {K : PySem.W.Frag} {mg : Str → Option Value} {base : Heap} {C : Addr}
/-! ### Ways.__init__ -/
/-- ways that are in order -/
structure VWays (ps : List Place) (ms : List Move) : Prop where
  asc : Asc lx ps
  ne : ps ≠ []
  len : ps.length ≤ 24
  pl : ∀ p ∈ ps, Pl p
  mv : ∀ m ∈ ms, MvOk ps m
  mlen : ms.length ≤ 3000
def spInit (C : Addr) : Sp := fun vs H Q _ => ∃ (H0 : Hp) (a dx : Addr) (pw mw : V) (ps : List Place) (ms : List Move), vs = [.ref a, pw, mw] ∧ Ex H0 H ∧ H0 a = none ∧ H a = some (.ins C dx []) ∧ PlsL H0 pw ps ∧ MvsL H0 mw ms ∧ VWays ps ms ∧
  ∀ H', Ex H0 H' → WaysAt C H' (.ref a) ps ms → Q .non H'
theorem scInit : FnScope ["self", "places", "moves", "index", "place"] ["self", "places", "moves"] (defScope sInit) := ⟨rfl, rfl, rfl, by decide +kernel, rfl, by decide +kernel, by decide +kernel⟩
theorem ok_init (T : Txt K mg) (W : WTxt K mg C) {f : Addr} {fd : FuncData} (F : Fun K "__init__" "Ways.__init__" sInit f fd) (G1 : Callee P w K mg base 2 "is_place" ["value"] spIsPlace) (G2 : Callee P w K mg base 1 "in_order" ["places"] spInOrder) (G3 : Callee P w K mg base 5 "checked_moves" ["places", "moves"] spChecked) : FnOk P w K mg base CX0 6 f fd ["self", "places", "moves"] (spInit C) := by
  obtain ⟨f1, fd1, F1, m1, k1, b1⟩ := G1
  obtain ⟨f2, fd2, F2, m2, k2, b2⟩ := G2
  obtain ⟨f3, fd3, F3, m3, k3, b3⟩ := G3
  obtain ⟨tP, mP⟩ := T.mostP
  obtain ⟨tM, mM⟩ := T.mostM
  refine F.ok scInit (fun vs H Q E h => ?_) (fun cdv A outer s H vs Q E hr h => ?_)
  · obtain ⟨H0, a, dx, pw, mw, ps, ms, rfl, _⟩ := h
    rfl
  · obtain ⟨H0, a, dx, pw, mw, ps, ms, rfl, e0, na, ha, ⟨l, pvs, rfl, hl, hp⟩, ⟨lm, mvs, rfl, hlm, hm⟩, VW, k⟩ := h
    have plen : pvs.length = ps.length := pairedLen hp
    have hlen := VW.len
    have nd := VW.asc.nodup so_lx
    have hr1 : Room 1 _ := hr.mono (by decide)
    have hr2 : Room 2 _ := hr.mono (by decide)
    refine ⟨_, (pss_cons (ps_if (PW.pt (pw_or (pt_not (pt_val (pe_callB call_isiT (by rfl) T.isinstance (by decide +kernel) (pa_cons (pv 1) (pa_cons (pe_tup (pa_cons (pe_bltn (v := .ty "list") (by rfl) T.list (by decide +kernel) rfl) (pa_cons (pe_bltn (v := .ty "tuple") (by rfl) T.tuple (by decide +kernel) rfl) pa_nil))) pa_nil))))) (pw_or1 (pt_cmpR op_eq (pe_callB call_len_seq (by rfl) T.len (by decide +kernel) (pa_cons (pv 1) pa_nil)) pe_int (nomark _))))) pss_never pss_nil)
      (pss_cons (ps_for PassesOwn.never rfl (pi_enum (by rfl) T.enumerate (pa_cons (pv 1) pa_nil)) (pg_tup rfl (pgs_cons (pg_name (i := 3) scInit.nd rfl (Or.inl rfl)) (pgs_cons (pg_name (i := 4) scInit.nd rfl (Or.inl rfl)) pgs_nil)))
        (pss_one (ps_if (PW.pt (pw_or (pt_not (pt_val (pe_call F1 hr2 (by rfl) m1 k1 b1 .nil pass0 (pa_cons (pv 4) pa_nil)))) (pw_or1 (pt_cmpR (op_inD (hu65_of hr)) (pv 4) (pe_slice sl_list (pv 1) po_none (po_some (pv 3))) (by rfl))))) pss_never pss_nil)))
      (pss_cons (ps_if (pt_cmpR op_gt (pe_callB call_len_seq (by rfl) T.len (by decide +kernel) (pa_cons (pv 1) pa_nil)) (pe_glob (v := .int 24) (by rfl) mP ⟨tP, rfl⟩) (nomark _)) pss_never pss_nil)
      (pss_cons (ps_fld (pv 0) (pe_callTy call_tuple_of (by rfl) T.tuple (by decide +kernel) (pa_cons (pe_call F2 hr1 (by rfl) m2 k2 b2 .nil pass0 (pa_cons (pv 1) pa_nil)) pa_nil)) rfl)
      (pss_cons (ps_fld (pv 0) (pe_call F3 hr (by rfl) m3 k3 b3 .nil pass0 (pa_cons (pe_fld (pv 0) rfl) (pa_cons (pv 2) pa_nil))) rfl)
      (pss_one (ps_if (pt_cmpR op_gt (pe_callB call_len_seq (by rfl) T.len (by decide +kernel) (pa_cons (pe_fld (pv 0) rfl) pa_nil)) (pe_glob (v := .int 3000) (by rfl) mM ⟨tM, rfl⟩) (nomark _)) pss_never pss_nil))))))), ?_⟩
    have hl0 := e0 _ _ hl
    refine q_skip (et_or (a := false) (b := false) (et_not (a := true) (et_B (ev_isiT (ev_var rfl) (eu_tup (ea_cons ev_c (ea_cons ev_c ea_nil)) (by decide)) (.cons (.ty _) (.cons (.ty _) .nil)) (fun H1 e => tyx_lst (e _ _ hl0)) (by
      refine kitAny_cons (b := true) (kit_ty (by decide +kernel)) (fun z => nomatch z) fun _ => rfl)))) fun _ => et_test (ev_is (ev_op (ev_lenL (ev_var rfl) hl0) ev_c (rv_eq rfl)) ?_)) fun H1 e1 => ?_
    · have hne := List.length_pos_iff.mpr VW.ne
      rw [decide_eq_false fun z => ?_]
      have z' : ((pvs.length : Nat) : Int) = 0 := by injection z
      omega
    refine q_forEn (ev_var rfl) (e1 _ _ hl0) (fun i σ' H' => ∃ c d : Option V, σ' = [some (.ref a), some (.ref l), some (.ref lm), c, d] ∧ Ex H H') (fun H2 e2 => ⟨none, none, rfl, e1.trans e2⟩) (fun i σ' H' _ ⟨c, d, _, e⟩ => e _ _ hl0) ?_ ?_
    · rintro i x σ' H' H2 hi ⟨c, d, rfl, e⟩ e2
      have e02 := e.trans e2
      obtain ⟨p, hpi, hx0⟩ := pairedGet hp hi
      have hpl := VW.pl p (List.mem_of_getElem? hpi)
      have hx := hx0.mono (Tx.of (e0.trans e02))
      have hp2 : Paired (PlA H2) pvs ps := plsMono (Tx.of (e0.trans e02)) hp
      have hni : p ∉ ps.take i := fun hz => by
        obtain ⟨j, hj, hjp⟩ := List.getElem_of_mem hz
        rw [List.length_take] at hj
        have hj2 : ps[j]? = some p := by
          rw [← hjp, List.getElem_take]
          exact List.getElem?_eq_getElem (by omega)
        have := nd_ix nd hj2 hpi
        omega
      refine s_skip (et_or (a := false) (b := false) (et_not (a := true) (et_B (ev_call (ea_cons (ev_var rfl) ea_nil) fun H3 e3 Q q E => ⟨_, p, rfl, hx.mono (Tx.of e3), hpl.1, hpl.2, q⟩))) fun _ =>
        et_test (ev_is (ev_inNL (ev_var rfl) hx (el_sl (ev_var rfl) eo_none (eo_some (ev_var rfl)) (SqL.of (e02 _ _ hl0))) (by rw [cutV_take]; exact pairedTake i hp2)) (by rw [decide_eq_false hni]))) fun H3 e3 => ⟨_, _, rfl, e02.trans e3⟩
    · rintro σ' H' ⟨c, d, rfl, e⟩
      refine q_skip (et_test (ev_is (ev_op (ev_lenL (ev_var rfl) (e _ _ hl0)) ev_c rv_I0) (by rw [decide_eq_false (by omega)]))) fun H2 e2 => ?_
      have e02 := e.trans e2
      have e00 := e0.trans e02
      have ha2 := e02 _ _ ha
      refine ⟨_, rfl, _, ps, rfl, ⟨l, pvs, rfl, e02 _ _ hl0, plsMono (Tx.of e00) hp⟩, nd, by omega, fun r qvs H3 e3 nr hr3 hq3 => ?_⟩
      rw [inOrder_self so_lx VW.asc] at hq3
      refine ⟨r, qvs, rfl, .inl ⟨SqL.of hr3, fun t nt => ?_⟩⟩
      have ha3 := e3 _ _ ha2
      have nat : a ≠ t := ne_of_none ha3 nt
      refine ⟨_, rfl, a, C, dx, [], rfl, by rw [upd_ne nat]; exact ha3, W.cl, W.nP, by decide, ?_⟩
      -- the heap with own_places
      have ex4 : Ex H0 (L2.upd (L2.upd H3 t (.tup qvs)) a (.ins C dx (putF "own_places" (.ref t) []))) := Ex.mut ((e00.trans e3).trans (Ex.new nt)) na
      have ht4 : (L2.upd (L2.upd H3 t (.tup qvs)) a (.ins C dx (putF "own_places" (.ref t) []))) t = some (.tup qvs) := by rw [upd_ne nat.symm, upd_same]
      have tx4 : Tx H3 (L2.upd (L2.upd H3 t (.tup qvs)) a (.ins C dx (putF "own_places" (.ref t) []))) := (Tx.new nt).trans (Tx.upd fun xs z => by
        rw [upd_ne nat, ha3] at z
        cases z)
      have hq4 := plsMono tx4 hq3
      revert ex4 ht4 hq4
      generalize hH4 : L2.upd (L2.upd H3 t (.tup qvs)) a (.ins C dx (putF "own_places" (.ref t) [])) = H4
      intro ex4 ht4 hq4
      have ha4 : H4 a = some (.ins C dx (putF "own_places" (.ref t) [])) := by rw [← hH4, upd_same]
      refine ⟨_, rfl, a, C, dx, _, _, rfl, ha4, W.cl, W.nP, (by rw [lookup_putF, if_pos rfl]), _, rfl, ?_⟩
      refine ⟨_, _, ps, ms, rfl, ⟨t, qvs, rfl, ht4, hq4⟩, ⟨lm, mvs, rfl, ex4 _ _ hlm, mvsMono (Tx.of ex4) hm⟩, VW.mv, by have := VW.mlen; omega, fun u nvs H5 e5 hu hm5 => ?_⟩
      have ha5 := e5 _ _ ha4
      refine ⟨_, rfl, a, C, dx, _, rfl, ha5, W.cl, W.nM, (by show 1 < 1000; decide), ?_⟩
      have nua : a ≠ u := ne_of ha5 hu (fun z => nomatch z)
      have nta : a ≠ t := ne_of ha5 (e5 _ _ ht4) (fun z => nomatch z)
      have tx6 : Tx H5 (L2.upd H5 a (.ins C dx (wf t u))) := Tx.upd fun xs z => by
        rw [ha5] at z
        cases z
      have hW : WaysAt C (L2.upd H5 a (.ins C dx (wf t u))) (.ref a) ps ms := ⟨a, dx, t, u, qvs, nvs, rfl, upd_same, tx6 _ _ (e5 _ _ ht4), plsMono (Tx.trans (Tx.of e5) tx6) hq4, tx6 _ _ hu, mvsMono tx6 hm5⟩
      have ex6 : Ex H0 (L2.upd H5 a (.ins C dx (wf t u))) := Ex.mut (ex4.trans e5) na
      have nlen : nvs.length = ms.length := pairedLen hm5
      have hml := VW.mlen
      refine s_skip (et_test (ev_is (ev_op (ev_lenT (ev_fld (ev_var rfl) upd_same W.cl W.nM (wf_moves _ _)) (tx6 _ _ hu)) ev_c rv_I0) (by rw [decide_eq_false (by omega)]))) fun H7 e7 => ?_
      exact k H7 (ex6.trans e7) (hW.mono e7)

/-! ### check_place -/
theorem ev_ownIn {σ : L2.St} {H : Hp} {ta tb : TE} {x v : V} {ps : List Place} {ms : List Move} {p : Place} {neg : Bool} {E : XK} (ha : Ev ta σ H x) (hb : Ev tb σ H v) (hw : WaysAt C H v ps ms) (hx : PlA H x p) (hp : Pl p) :
    Ev (tOp (rOwnIn C (spContains C) E neg) ta tb) σ H (.bl (if neg then !decide (p ∈ ps) else decide (p ∈ ps))) := ev_op ha hb fun H1 e Q q => by
  have hw1 := hw.mono e
  obtain ⟨a, dx, t, u, pvs, mvs, rfl, h1, _⟩ := id hw1
  exact ⟨a, dx, _, rfl, h1, _, _, ps, ms, p, rfl, hw1, hx.mono (Tx.of e), hp, fun H2 e2 => ⟨_, rfl, q H2 e2⟩⟩
def spCheckPlace (C : Addr) : Sp := fun vs H Q _ => ∃ (v x : V) (ps : List Place) (ms : List Move) (p : Place), vs = [v, x] ∧ WaysAt C H v ps ms ∧ PlA H x p ∧ Pl p ∧ p ∈ ps ∧ RetV .non H Q
theorem scCheckPlace : FnScope ["ways", "place"] ["ways", "place"] (defScope sCheckPlace) := ⟨rfl, rfl, rfl, by decide +kernel, rfl, by decide +kernel, by decide +kernel⟩
theorem ok_checkPlace (T : Txt K mg) (W : WTxt K mg C) (D : DefAt K mg "check_place" sCheckPlace ["ways", "place"]) (G : CalleeM P w K mg base C 3 "__contains__" ["self", "place"] (spContains C)) : Callee P w K mg base 4 "check_place" ["ways", "place"] (spCheckPlace C) := by
  obtain ⟨f1, fd1, F1, M1, b1, q1⟩ := G
  refine D.callee fun f fd F => F.ok scCheckPlace (fun vs H Q E h => ?_) (fun cdv A outer s H vs Q E hr h => ?_)
  · obtain ⟨v, x, ps, ms, p, rfl, _⟩ := h
    rfl
  · obtain ⟨v, x, ps, ms, p, rfl, hw, hx, hp, hin, k⟩ := h
    refine ⟨_, (pss_one (ps_if (pt_cmpR (op_ownNotIn (E := E0) F1 M1.at_ M1.fn hr b1 pass0) (pv 1) (pv 0) (by rfl)) pss_never pss_nil)), ?_⟩
    exact s_skip (et_test (ev_is (ev_ownIn (ev_var rfl) (ev_var rfl) hw hx hp) (by rw [decide_eq_true hin]; rfl))) fun H1 e => k H1 e
end
end M10

namespace M10
open PySem PySem.Spec L2 Evl StX

/-! ### the table of needs in the heap -/
def keyOf (p : Place) : List Key := p.map Sum.inl
theorem keyOf_kV (p : Place) : (keyOf p).map kV = p.map V.int := by
  unfold keyOf
  rw [List.map_map]
  rfl
theorem keyOf_inj {p q : Place} (h : keyOf p = keyOf q) : p = q := by
  have := congrArg (List.map kV) h
  rw [keyOf_kV, keyOf_kV] at this
  have h2 := congrArg (List.map intOf) this
  rw [List.map_map, List.map_map] at h2
  have e : (intOf ∘ V.int) = id := rfl
  rw [e, List.map_id, List.map_id] at h2
  exact h2
def oi : Option Nat → V
  | none => .non
  | some i => .int (i : Nat)
/-- the entry of a place -/
def EntA (H : Hp) (kvs : List (List Key × V)) (p : Place) : Option (Int × Option Nat) → Prop
  | none => valV kvs (keyOf p) = none
  | some e => ∃ a, valV kvs (keyOf p) = some (.ref a) ∧ H a = some (.tup [.int e.1, oi e.2])
def FT (H : Hp) (d : Addr) (ks : List Place) (f : Tab) : Prop := ∃ kvs, H d = some (.dT kvs) ∧ kvs.map (·.1) = ks.map keyOf ∧ ∀ p, EntA H kvs p (f p)
theorem EntA.mono {H H' : Hp} (e : Tx H H') {kvs : List (List Key × V)} {p : Place} {o : Option (Int × Option Nat)} (h : EntA H kvs p o) : EntA H' kvs p o := by
  cases o with
  | none => exact h
  | some x => obtain ⟨a, h1, h2⟩ := h; exact ⟨a, h1, e _ _ h2⟩
theorem FT.mono {H H' : Hp} {d : Addr} {ks : List Place} {f : Tab} (e : Ex H H') (h : FT H d ks f) : FT H' d ks f := by
  obtain ⟨kvs, h1, h2, h3⟩ := h
  exact ⟨kvs, e _ _ h1, h2, fun p => (h3 p).mono (Tx.of e)⟩
theorem FT.len {ks : List Place} {kvs : List (List Key × V)} (h2 : kvs.map (·.1) = ks.map keyOf) : kvs.length = ks.length := by
  have := congrArg List.length h2
  simpa using this
theorem ft_put {H : Hp} {d a : Addr} {ks : List Place} {f : Tab} {kvs : List (List Key × V)} (h1 : H d = some (.dT kvs)) (h2 : kvs.map (·.1) = ks.map keyOf) (h3 : ∀ p, EntA H kvs p (f p)) (dom : ∀ p, (f p).isSome = true ↔ p ∈ ks)
    {p : Place} {e : Int × Option Nat} (ha : H a = some (.tup [.int e.1, oi e.2])) : FT (L2.upd H d (.dT (putK kvs (keyOf p) (.ref a)))) d (addK ks p) (setT f p e) := by
  have tx : Tx H (L2.upd H d (.dT (putK kvs (keyOf p) (.ref a)))) := Tx.dT h1
  refine ⟨_, upd_same, ?_, fun q => ?_⟩
  · unfold addK
    have hp := h3 p
    cases e : f p with
    | none =>
      rw [e] at hp
      have hn : p ∉ ks := fun z => by
        have := (dom p).mpr z
        rw [e] at this
        cases this
      rw [if_neg hn, putK_new _ hp, List.map_append, List.map_append, h2]
      rfl
    | some x =>
      rw [e] at hp
      obtain ⟨b, hb, _⟩ := hp
      have hin : p ∈ ks := (dom p).mp (by rw [e]; rfl)
      rw [if_pos hin, ← h2]
      have hany : (kvs.any fun kv => decide (kv.1 = keyOf p)) = true := by rw [valV_any, hb]; rfl
      unfold putK
      rw [if_pos hany, List.map_map]
      refine List.map_congr_left fun kv _ => ?_
      show (if kv.1 = keyOf p then (kv.1, V.ref a) else kv).1 = kv.1
      by_cases z : kv.1 = keyOf p
      · rw [if_pos z]
      · rw [if_neg z]
  · unfold setT
    by_cases z : q = p
    · subst z
      rw [if_pos rfl]
      exact ⟨a, by rw [valV_put, if_pos rfl], tx _ _ ha⟩
    · rw [if_neg z]
      have hq := h3 q
      have nk : ¬ keyOf q = keyOf p := fun y => z (keyOf_inj y)
      cases e' : f q with
      | none =>
        rw [e'] at hq
        show valV _ _ = none
        rw [valV_put, if_neg nk]
        exact hq
      | some x =>
        rw [e'] at hq
        obtain ⟨b, h4, h5⟩ := hq
        exact ⟨b, by rw [valV_put, if_neg nk]; exact h4, tx _ _ h5⟩
/-- all but d is kept -/
def Kd (d : Addr) (H H' : Hp) : Prop := ∀ a o, a ≠ d → H a = some o → H' a = some o
theorem Kd.refl (d : Addr) (H : Hp) : Kd d H H := fun _ _ _ h => h
theorem Kd.trans {d : Addr} {H H1 H2 : Hp} (a : Kd d H H1) (b : Kd d H1 H2) : Kd d H H2 := fun c o n h => b c o n (a c o n h)
theorem Kd.of {d : Addr} {H H' : Hp} (e : Ex H H') : Kd d H H' := fun a o _ h => e a o h
theorem Kd.upd (d : Addr) (H : Hp) (o : HO) : Kd d H (L2.upd H d o) := fun a u n h => by
  rw [upd_ne n]
  exact h
theorem Kd.ex {d : Addr} {H0 H H' : Hp} (k : Kd d H H') (e : Ex H0 H) (n : H0 d = none) : Ex H0 H' := fun a o h => k a o (ne_of_none h n) (e a o h)
theorem Kd.tx {d : Addr} {H H' : Hp} (k : Kd d H H') (n : ∀ xs, H d ≠ some (.tup xs)) : Tx H H' := fun a xs h => k a _ (fun z => n xs (z ▸ h)) h
theorem Kd.txT {d : Addr} {H H' : Hp} {kvs : List (List Key × V)} (k : Kd d H H') (h : H d = some (.dT kvs)) : Tx H H' := k.tx fun xs z => by
  rw [h] at z
  cases z

section
variable {K : PySem.W.Frag} {σ : L2.St} {H H' : Hp} {ta tb tc te : TE} {x y z v : V} {p q : Place} {ps ks : List Place} {l d : Addr} {vs xs ys : List V} {f : Tab}
theorem dget_of (h : FT H d ks f) (hx : PlA H x p) : ∃ o, DGet H d x o ∧ o.isSome = (f p).isSome := by
  obtain ⟨kvs, h1, h2, h3⟩ := h
  obtain ⟨b, rfl, hb⟩ := hx
  refine ⟨valV kvs (keyOf p), DGet.t h1 (by rw [keyOf_kV]; exact hb), ?_⟩
  have := h3 p
  cases e : f p with
  | none =>
    rw [e] at this
    have h4 : valV kvs (keyOf p) = none := this
    rw [h4]
    rfl
  | some y =>
    rw [e] at this
    obtain ⟨a, h4, _⟩ := this
    rw [h4]
    rfl
theorem ev_din (ha : Ev ta σ H x) (hx : PlA H x p) (hb : Ev tb σ H (.ref d)) (h : FT H d ks f) : Ev (tDIn ta tb) σ H (.bl (f p).isSome) := fun H1 e Q q =>
  ha H1 e _ fun H2 e2 => hb H2 (e.trans e2) _ fun H3 e3 => by
    have e13 := (e.trans e2).trans e3
    obtain ⟨o, h1, h2⟩ := dget_of (h.mono e13) (hx.mono (Tx.of e13))
    exact ⟨d, o, rfl, h1, by rw [h2]; exact q H3 (e2.trans e3)⟩
theorem ev_dnotin (ha : Ev ta σ H x) (hx : PlA H x p) (hb : Ev tb σ H (.ref d)) (h : FT H d ks f) : Ev (tDNotIn ta tb) σ H (.bl (!(f p).isSome)) := fun H1 e Q q =>
  ha H1 e _ fun H2 e2 => hb H2 (e.trans e2) _ fun H3 e3 => by
    have e13 := (e.trans e2).trans e3
    obtain ⟨o, h1, h2⟩ := dget_of (h.mono e13) (hx.mono (Tx.of e13))
    exact ⟨d, o, rfl, h1, by rw [h2]; exact q H3 (e2.trans e3)⟩
/-- d[p]: the entry's tuple -/
theorem ev_dgetT {e : Int × Option Nat} (h : FT H d ks f) (hf : f p = some e) (hx : PlA H x p) : ∃ a, H a = some (.tup [.int e.1, oi e.2]) ∧ ∀ {σ : L2.St} {ta tb : TE} {H1 : Hp}, Ex H H1 → Ev ta σ H1 (.ref d) → Ev tb σ H1 x → Ev (tDGet ta tb) σ H1 (.ref a) := by
  obtain ⟨kvs, h1, h2, h3⟩ := h
  have h4 := h3 p
  rw [hf] at h4
  obtain ⟨a, h5, h6⟩ := h4
  obtain ⟨b, rfl, hb⟩ := hx
  refine ⟨a, h6, fun {σ ta tb H1} e1 ha hb' H2 e Q q => ha H2 e _ fun H3 e3 => hb' H3 (e.trans e3) _ fun H4 e4 => ?_⟩
  have e14 := (e.trans e3).trans e4
  refine ⟨d, .ref a, rfl, ?_, q H4 (e3.trans e4)⟩
  rw [← h5]
  exact DGet.t (e14 _ _ (e1 _ _ h1)) (by rw [keyOf_kV]; exact e14 _ _ (e1 _ _ hb))
theorem ev_sumNL {ns : List Int} (ha : EvL ta σ H (ns.map V.int)) : Ev (tCB (rSum K) (tCons ta tNil)) σ H (.int ns.sum) := fun H1 e Q q =>
  ha H1 e _ fun p H2 _ e2 h2 => ⟨p, ns, rfl, SqL.of h2, q H2 e2⟩
/-- sum([.. for p in t]), t a tuple of places -/
theorem ev_sumPl {tl : TE} {j : Nat} {is : List Nat} (B : Place → Int) (h : Ev tl σ H (.ref l)) (hx : H l = some (.tup xs)) (hp : Paired (PlA H) xs ps) (hz : xs.length ≤ 50000) (hw : ∀ x, wipe ((wipe σ is).set j (some x)) is = wipe σ is)
    (he : ∀ (x : V) (p : Place) H1, Ex H H1 → PlA H1 x p → p ∈ ps → Ev te ((wipe σ is).set j (some x)) H1 (.int (B p))) :
    Ev (tCB (rSum K) (tCons (tLc (iTup K tl) (gName j) tYes te is) tNil)) σ H (.int (ps.map B).sum) := by
  have q : EvL (tLc (iTup K tl) (gName j) tYes te is) σ H ((ps.map B).map V.int) := el_is (el_fmT (K := K) (t := tYes) (te := te) (fun _ => true) (fun v => V.int (B (plOf H v))) h hx hz hw (fun _ _ _ _ _ => et_yes) (fun i x H1 e hi _ => by
    obtain ⟨p, h1, h2⟩ := pairedGet hp hi
    have := he x p H1 e (h2.mono (Tx.of e)) (List.mem_of_getElem? h1)
    rw [h2.of]
    exact this)) (by rw [filter_true, List.map_map]; exact pairedMap (fun a b h => by show V.int (B (plOf H a)) = V.int (B b); rw [h.of]) hp)
  exact ev_sumNL q
theorem enFor {D : Ends} {tu : TS} {j1 j2 : Nat} (hx : H l = some (.lst xs)) (Pv : Nat → L2.St → Hp → Prop) (h0 : Pv 0 σ H) (hG : ∀ i σ' H', i ≤ xs.length → Pv i σ' H' → H' l = some (.lst xs))
    (hs : ∀ i x σ' H' H2, xs[i]? = some x → Pv i σ' H' → Ex H' H2 → tu { D with nx := Pv (i + 1), ct := Pv (i + 1), bk := D.nx } ((σ'.set j1 (some (.int (i : Nat)))).set j2 (some x)) H2) (hd : ∀ σ' H', Pv xs.length σ' H' → D.nx σ' H') :
    ∃ Wt : Nat → Nat → L2.St → Hp → Prop, (∃ m, Wt 0 m σ H) ∧ ∀ i m σ H, Wt i m σ H →
      ((Ite K l).stop i H ∧ D.nx σ H) ∨ ((Ite K l).go i H ∧ ∃ N : L2.St → Hp → Prop, (∀ σ' H', N σ' H' → ∃ m', m' < m ∧ Wt (i + 1) m' σ' H') ∧ ∀ x H', (Ite K l).yld i H x H' → gTup K 2 (gCons (gName j1) (gCons (gName j2) gNil)) x σ H' fun σ2 H2 => tu { D with nx := N, ct := N, bk := D.nx } σ2 H2) :=
  for_it (walk_enum (K := K) (a := l) (xs := xs)) Pv h0 (fun i σ' H' hi p => SqL.of (hG i σ' H' hi p)) (fun i v σ' H' H2 hi p y => by
    obtain ⟨T, a, b, rfl, nT, rfl, e1, e2⟩ := y
    cases e1
    refine ⟨T, _, rfl, SqT.of upd_same, rfl, _, _, rfl, _, _, rfl, rfl, ?_⟩
    exact hs i b σ' H' _ e2 p (Ex.new nT)) hd
end

section
variable {P : Program} {w : World} {K : PySem.W.Frag} {mg : Str → Option Value} {base : Heap} {C : Addr}
/-! ### needs_of -/
theorem mu_set_same {ps : List Place} {f : Tab} : mu ps f = mu ps f := rfl
theorem ev_orF {t u : TT} {σ : L2.St} {H : Hp} {a b : Bool} (h1 : EvT t σ H a) (h2 : a = false → EvT u σ H b) : EvT (tOr t u) σ H (a || b) := et_or h1 h2
def spNeedsOf (C : Addr) : Sp := fun vs H Q _ => ∃ (v x : V) (ps : List Place) (ms : List Move) (s : Place), vs = [v, x] ∧ WaysAt C H v ps ms ∧ VWays ps ms ∧ PlA H x s ∧ s ∈ ps ∧
  ∀ d ks f rk H', Ex H H' → H d = none → FT H' d ks f → Needs ps ms s ks f rk → Q (.ref d) H'
theorem scNeedsOf : FnScope ["ways", "start", "found", "is_growing", "index", "move", "place", "many"] ["ways", "start"] (defScope sNeedsOf) := ⟨rfl, rfl, rfl, by decide +kernel, rfl, by decide +kernel, by decide +kernel⟩
/-- between two turns over the moves -/
def PassI (H1 : Hp) (wa sa : V) (ps : List Place) (ms : List Move) (s : Place) (d : Addr) (mu0 : Nat) (i : Nat) (σ : L2.St) (H' : Hp) : Prop :=
  ∃ (g : Bool) (ks : List Place) (f : Tab) (T : Place → Nat) (now : Nat) (c1 c2 c3 c4 : Option V), σ = [some wa, some sa, some (.ref d), some (.bl g), c1, c2, c3, c4] ∧ Kd d H1 H' ∧ FT H' d ks f ∧ NInv ps ms s ks f T now ∧
    mu ps f ≤ mu0 ∧ (g = true → mu ps f < mu0) ∧ (g = false → ∀ j m, j < i → ms[j]? = some m → Quiet ks f m)
/-- between two outs of one move -/
def OutI (H1 : Hp) (wa sa : V) (ps : List Place) (ms : List Move) (s : Place) (d : Addr) (mu0 : Nat) (m : Move) (i : Nat) (b : Addr) (g0 : Bool) (ks0 : List Place) (f0 : Tab) (t : Nat) (σ : L2.St) (H' : Hp) : Prop :=
  ∃ (g : Bool) (ks : List Place) (f : Tab) (T : Place → Nat) (now : Nat) (c3 : Option V), σ = [some wa, some sa, some (.ref d), some (.bl g), some (.int (i : Nat)), some (.ref b), c3, some (.int (sumF f m.ins))] ∧ Kd d H1 H' ∧ FT H' d ks f ∧ NInv ps ms s ks f T now ∧
    (∀ q ∈ m.ins, q ∈ ks) ∧ mu ps f ≤ mu0 ∧ (g = true → mu ps f < mu0) ∧ (g = false → g0 = false ∧ ks = ks0 ∧ f = f0 ∧ ∀ j p, j < t → m.outs[j]? = some p → ∃ v k, f p = some (v, k) ∧ v ≤ sumF f m.ins)
theorem ok_needsOf (T : Txt K mg) (W : WTxt K mg C) (D : DefAt K mg "needs_of" sNeedsOf ["ways", "start"]) (G : CalleeM P w K mg base C 1 "moves" ["self"] (spMoves C)) : Callee P w K mg base 2 "needs_of" ["ways", "start"] (spNeedsOf C) := by
  obtain ⟨f1, fd1, F1, M1, b1, q1⟩ := G
  refine D.callee fun f fd F => F.ok scNeedsOf (fun vs H Q E h => ?_) (fun cdv A outer s H vs Q E hr h => ?_)
  · obtain ⟨v, x, ps, ms, s, rfl, _⟩ := h
    rfl
  · obtain ⟨v, x, ps, ms, s, rfl, hw, VW, hx, hs, k⟩ := h
    refine ⟨_, (pss_cons (ps_set (i := 2) scNeedsOf.nd rfl (Or.inr rfl) (pe_dispT (hu0_of hr) (pv 1) (pe_tup (pa_cons pe_int (pa_cons pe_non pa_nil)))))
      (pss_cons (ps_set (i := 3) scNeedsOf.nd rfl (Or.inl rfl) pe_bl)
      (pss_cons (ps_while PassesOwn.never (pt_val (pv 3))
        (pss_cons (ps_set (i := 3) scNeedsOf.nd rfl (Or.inl rfl) pe_bl)
        (pss_one (ps_for PassesOwn.never rfl (pi_enum (by rfl) T.enumerate (pa_cons (pe_meth0 (pv 0) W.cl M1 F1 hr b1 .nil pass0) pa_nil)) (pg_tup rfl (pgs_cons (pg_name (i := 4) scNeedsOf.nd rfl (Or.inl rfl)) (pgs_cons (pg_name (i := 5) scNeedsOf.nd rfl (Or.inl rfl)) pgs_nil)))
          (pss_one (ps_if (pt_val (pe_callB (cr_all rfl) (by rfl) T.all (by decide +kernel) (pa_cons (pe_lc (own := [("place", 6)]) (g := gName 6) (tt := tYes) (by rfl) scNeedsOf.nd (pi_tup (pe_ix ix_tup (pv 5) pe_int (fun _ _ => rfl))) (blkOk_by (own := [("place", 6)]) (N := ["ways", "start", "found", "is_growing", "index", "move", "place", "many"]) (sc := defScope sNeedsOf) (by decide +kernel)) (fun _ _ _ _ _ => pg_name (i := 6) scNeedsOf.nd rfl (Or.inl rfl)) (fun _ _ _ _ _ => pts_nil) (fun _ _ _ _ _ => (pe_cmp (pc_din (hu_of hr) (pv 6) (pv 2)) (by rfl)))) pa_nil))) (pss_cons (ps_set (i := 7) scNeedsOf.nd rfl (Or.inl rfl) (pe_callB (cr_sum rfl) (by rfl) T.sum (by decide +kernel) (pa_cons (pe_lc (own := [("place", 6)]) (g := gName 6) (tt := tYes) (by rfl) scNeedsOf.nd (pi_tup (pe_ix ix_tup (pv 5) pe_int (fun _ _ => rfl))) (blkOk_by (own := [("place", 6)]) (N := ["ways", "start", "found", "is_growing", "index", "move", "place", "many"]) (sc := defScope sNeedsOf) (by decide +kernel)) (fun _ _ _ _ _ => pg_name (i := 6) scNeedsOf.nd rfl (Or.inl rfl)) (fun _ _ _ _ _ => pts_nil) (fun _ _ _ _ _ => (pe_ix (ix_tupK (K := K) rfl) (pe_dget (hu_of hr) (pv 2) (pv 6) (fun _ _ => rfl)) pe_int (fun _ _ => rfl)))) pa_nil)))
            (pss_one (ps_for PassesOwn.never rfl (pi_tup (pe_ix ix_tup (pv 5) pe_int (fun _ _ => rfl))) (pg_name (i := 6) scNeedsOf.nd rfl (Or.inl rfl))
              (pss_one (ps_if (PW.pt (pw_or (pt_cmp (pc_dnotin (hu_of hr) (pv 6) (pv 2)) (by rfl)) (pw_or1 (pt_cmpR op_lt (pv 7) (pe_ix ix_tup (pe_dget (hu_of hr) (pv 2) (pv 6) (fun _ _ => rfl)) pe_int (fun _ _ => rfl)) (nomark _))))) (pss_cons (ps_dput (hu_of hr) (pv 2) (pv 6) (pe_tup (pa_cons (pv 7) (pa_cons (pv 4) pa_nil))) rfl)
                (pss_one (ps_set (i := 3) scNeedsOf.nd rfl (Or.inl rfl) pe_bl))) pss_nil))))) pss_nil))))))
      (pss_one (ps_ret (pv 2)))))), ?_⟩
    obtain ⟨wa, dx, tw, uw, pvs, mvs0, rfl, hwa, _⟩ := id hw
    obtain ⟨sa, rfl, hsa⟩ := id hx
    intro d nd
    refine ⟨_, rfl, (by show 2 ≤ sizeLine; decide), fun e0 ne0 => ?_⟩
    have nde : d ≠ e0 := fun z => by
      rw [← z, upd_same] at ne0
      cases ne0
    have nH0 : H e0 = none := by
      rw [upd_ne nde.symm] at ne0
      exact ne0
    have nds : sa ≠ d := ne_of_none hsa nd
    have nes : sa ≠ e0 := ne_of_none hsa nH0
    refine ⟨by rw [upd_ne nde, upd_same], sa, keyOf s, rfl, by rw [upd_ne nes, upd_ne nds, keyOf_kV]; exact hsa, ?_⟩
    have hF0 : FT (L2.upd (L2.upd (L2.upd H d (.dT [])) e0 (.tup [.int 1, .non])) d (.dT [(keyOf s, .ref e0)])) d [s] (setT (fun _ => none) s (1, none)) := by
      refine ⟨_, upd_same, rfl, fun p => ?_⟩
      unfold setT
      by_cases z : p = s
      · rw [if_pos z]
        exact ⟨e0, by rw [z]; exact valV_pos rfl, by rw [upd_ne nde.symm, upd_same]; rfl⟩
      · rw [if_neg z]
        show valV _ _ = none
        rw [valV_neg (fun y => z (keyOf_inj y).symm)]
        rfl
    have ex0 : Ex H (L2.upd (L2.upd (L2.upd H d (.dT [])) e0 (.tup [.int 1, .non])) d (.dT [(keyOf s, .ref e0)])) := Ex.mut ((Ex.new nd).trans (Ex.new ne0)) nd
    revert hF0 ex0
    generalize L2.upd (L2.upd (L2.upd H d (.dT [])) e0 (.tup [.int 1, .non])) d (.dT [(keyOf s, .ref e0)]) = Hs
    intro hF0 ex0
    refine q_asg ev_c fun H1 e1 => ?_
    refine q_while (fun m σ' H' => ∃ (g : Bool) (ks : List Place) (f : Tab) (T : Place → Nat) (now : Nat) (c1 c2 c3 c4 : Option V), σ' = [some (.ref wa), some (.ref sa), some (.ref d), some (.bl g), c1, c2, c3, c4] ∧ Ex H H' ∧ FT H' d ks f ∧ NInv ps ms s ks f T now ∧
      (g = false → ∀ m ∈ ms, Quiet ks f m) ∧ m = if g = true then mu ps f + 1 else 0) (mu ps (setT (fun _ => none) s (1, none)) + 1)
      ⟨true, [s], _, _, 1, none, none, none, none, rfl, ex0.trans e1, hF0.mono e1, NInv.init hs, (fun z => nomatch z), rfl⟩ ?_
    rintro m σ' H' ⟨g, ks, f, Tm, now, c1, c2, c3, c4, rfl, e, hF, N, hq, rfl⟩
    refine ⟨g, et_B (ev_var rfl), fun hg H2 e2 => ?_, fun hg H2 e2 => ?_⟩
    · subst hg
      refine ⟨fun σ2 H3 => ∃ m', m' < mu ps f + 1 ∧ ∃ (g : Bool) (ks : List Place) (f : Tab) (T : Place → Nat) (now : Nat) (c1 c2 c3 c4 : Option V), σ2 = [some (.ref wa), some (.ref sa), some (.ref d), some (.bl g), c1, c2, c3, c4] ∧ Ex H H3 ∧ FT H3 d ks f ∧ NInv ps ms s ks f T now ∧
        (g = false → ∀ m ∈ ms, Quiet ks f m) ∧ m' = if g = true then mu ps f + 1 else 0, fun _ _ z => z, ?_⟩
      refine q_asg ev_c fun H3 e3 => ?_
      have e03 := (e.trans e2).trans e3
      have hF3 := hF.mono (e2.trans e3)
      refine ⟨_, rfl, wa, dx, _, rfl, e03 _ _ hwa, wf_no _ _ (by decide +kernel) (by decide +kernel), _, ps, ms, rfl, hw.mono e03, fun r mvs H4 e4 nr hr4 hm4 => ⟨r, mvs, rfl, SqL.of hr4, ?_⟩⟩
      have hF4 := hF3.mono e4
      obtain ⟨kvs3, hd3, _⟩ := id hF3
      obtain ⟨kvs4, hd4, _⟩ := id hF4
      have nrd : r ≠ d := (ne_of_none hd3 nr).symm
      have mlen : mvs.length = ms.length := pairedLen hm4
      refine enFor hr4 (PassI H4 (.ref wa) (.ref sa) ps ms s d (mu ps f)) ⟨false, ks, f, Tm, now, c1, c2, c3, c4, rfl, Kd.refl _ _, hF4, N, Nat.le_refl _, (fun z => nomatch z), fun _ j m hj => absurd hj (Nat.not_lt_zero _)⟩
        (fun i σ' H' _ ⟨_, _, _, _, _, _, _, _, _, _, kd, _⟩ => kd _ _ nrd hr4) ?_ ?_
      · rintro i x σ' H' H5 hi ⟨g, ks1, f1, T1, now1, d1, d2, d3, d4, rfl, kd, hF', N1, hle, hg, hq1⟩ e5
        obtain ⟨m, hmi, hx4⟩ := pairedGet hm4 hi
        have hmok := VW.mv m (List.mem_of_getElem? hmi)
        have vm := hmok.1
        have l4 : m.ins.length ≤ 4 := by rcases vm.sz with h | h | h <;> omega
        have kd5 : Kd d H4 H5 := kd.trans (Kd.of e5)
        have tx5 : Tx H4 H5 := kd5.txT hd4
        obtain ⟨b, ia, nm, oa, rfl, hb4, ⟨ia', iv, rfl, hia4, hip4⟩, ⟨oa', ov, rfl, hoa4, hop4⟩⟩ := id hx4
        have il : iv.length = m.ins.length := pairedLen hip4
        have hF5 := hF'.mono e5
        refine s_when (b := m.ins.all fun p => (f1 p).isSome) (et_B (ev_allPl (fun p => (f1 p).isSome) (ev_ixT (j := 0) (ev_var rfl) ev_c (tx5 _ _ hb4) rfl) (tx5 _ _ hia4) (plsMono tx5 hip4) (by omega) (fun _ => rfl) fun y p H6 e6 hy _ => ev_din (ev_var rfl) hy (ev_var rfl) (hF5.mono e6))) (fun hall H6 e6 => ?_) (fun hall H6 e6 => ?_)
        · have hin : ∀ q ∈ m.ins, q ∈ ks1 := fun q hq' => (N1.dom q).mp (List.all_eq_true.mp hall q hq')
          have kd6 : Kd d H4 H6 := kd5.trans (Kd.of e6)
          have tx6 : Tx H4 H6 := kd6.txT hd4
          have hF6 := hF5.mono e6
          refine q_asg (v := .int (sumF f1 m.ins)) (ev_sumPl (val f1) (ev_ixT (j := 0) (ev_var rfl) ev_c (tx6 _ _ hb4) rfl) (tx6 _ _ hia4) (plsMono tx6 hip4) (by omega) (fun _ => rfl) fun y p H7 e7 hy hpin => ?_) fun H7 e7 => ?_
          · obtain ⟨v, i', hfp⟩ := N1.some_of (hin p hpin)
            obtain ⟨a, ha, hget⟩ := ev_dgetT (hF6.mono e7) hfp hy
            have hval : val f1 p = v := by unfold val; rw [hfp]; rfl
            rw [hval]
            exact ev_ixT (j := 0) (hget (Ex.refl _) (ev_var rfl) (ev_var rfl)) ev_c ha rfl
          · have kd7 : Kd d H4 H7 := kd6.trans (Kd.of e7)
            have tx7 : Tx H4 H7 := kd7.txT hd4
            have hF7 := hF6.mono e7
            refine s_forT (ev_ixT (j := 2) (ev_var rfl) ev_c (tx7 _ _ hb4) rfl) (SqT.of (tx7 _ _ hoa4)) (OutI H4 (.ref wa) (.ref sa) ps ms s d (mu ps f) m i b g ks1 f1)
              (fun H8 e8 => ⟨g, ks1, f1, T1, now1, d3, rfl, kd7.trans (Kd.of e8), hF7.mono e8, N1, hin, hle, hg, fun z => ⟨z, rfl, rfl, fun j p hj => absurd hj (Nat.not_lt_zero _)⟩⟩)
              (fun t σ' H' _ ⟨_, _, _, _, _, _, _, kd', _⟩ => SqT.of (kd'.txT hd4 _ _ hoa4)) ?_ ?_
            · rintro t y σ' H' hy ⟨g2, ks2, f2, T2, now2, c3', rfl, kd', hF2, N2, hin2, hle2, hg2, hq2⟩
              obtain ⟨p, hpt, hy4⟩ := pairedGet hop4 hy
              have hpo : p ∈ m.outs := List.mem_of_getElem? hpt
              have tx' : Tx H4 H' := kd'.txT hd4
              have hyp := hy4.mono tx'
              show tIfS _ _ _ _ _ _
              refine s_when (b := !(f2 p).isSome || decide (sumF f2 m.ins < val f2 p)) (et_or (et_B (ev_dnotin (ev_var rfl) hyp (ev_var rfl) hF2)) fun hsm => ?_) (fun hc H8 e8 => ?_) (fun hc H8 e8 => ?_)
              · cases hfp : f2 p with
                | none => rw [hfp] at hsm; cases hsm
                | some en =>
                  obtain ⟨a, ha, hget⟩ := ev_dgetT hF2 hfp hyp
                  have hval : val f2 p = en.1 := by unfold val; rw [hfp]; rfl
                  rw [hval]
                  exact et_test (ev_op (ev_var rfl) (ev_ixT (j := 0) (hget (Ex.refl _) (ev_var rfl) (ev_var rfl)) ev_c ha rfl) rv_I0)
              · have hcond : f2 p = none ∨ sumF f2 m.ins < val f2 p := by
                  rcases Bool.or_eq_true_iff.mp hc with h | h
                  · left
                    cases hfp : f2 p with
                    | none => rfl
                    | some en => rw [hfp] at h; cases h
                  · exact .inr (of_decide_eq_true h)
                obtain ⟨N3, pn, hmu⟩ := N2.upd hmi vm hin2 hpo hcond
                have hF8 := hF2.mono e8
                obtain ⟨kvs, hk1, hk2, hk3⟩ := id hF8
                have klen := FT.len hk2
                have kl := N2.klen
                have pl := VW.len
                obtain ⟨ya, rfl, hya⟩ := hyp.mono (Tx.of e8)
                refine ⟨_, rfl, _, rfl, (by show 2 ≤ sizeLine; decide), fun en nen => ?_⟩
                have ned : d ≠ en := ne_of_none hk1 nen
                have nya : ya ≠ en := ne_of_none hya nen
                refine ⟨_, rfl, _, rfl, d, _, rfl, DPut.t (k := keyOf p) (by rw [upd_ne ned]; exact hk1) (by rw [upd_ne nya, keyOf_kV]; exact hya) (sz_lt (by omega)), ?_⟩
                have exn : Ex H8 (L2.upd H8 en (.tup [.int (sumF f2 m.ins), .int (i : Nat)])) := Ex.new nen
                refine ⟨true, addK ks2 p, setT f2 p (sumF f2 m.ins, some i), _, now2 + 1, some (.ref ya), by rw [sumF_set_out pn]; rfl, (kd'.trans (Kd.of (e8.trans exn))).trans (Kd.upd d _ _), ?_, N3, fun q hq' => mem_addK.mpr (.inr (hin2 q hq')), by omega, fun _ => by omega, fun z => nomatch z⟩
                exact ft_put (e := (sumF f2 m.ins, some i)) (exn _ _ hk1) hk2 (fun p => (hk3 p).mono (Tx.of exn)) N2.dom upd_same
              · obtain ⟨h1, h2⟩ := Bool.or_eq_false_iff.mp hc
                refine ⟨g2, ks2, f2, T2, now2, some y, rfl, kd'.trans (Kd.of e8), hF2.mono e8, N2, hin2, hle2, hg2, fun z => ?_⟩
                obtain ⟨z1, z2, z3, z4⟩ := hq2 z
                refine ⟨z1, z2, z3, fun j p' hj hjp => ?_⟩
                rcases Nat.lt_or_ge j t with hlt | hge
                · exact z4 j p' hlt hjp
                · have ejt : j = t := by omega
                  subst ejt
                  rw [hpt] at hjp
                  cases hjp
                  cases hfp : f2 p with
                  | none => rw [hfp] at h1; cases h1
                  | some en =>
                    have hval : val f2 p = en.1 := by unfold val; rw [hfp]; rfl
                    have h3 := of_decide_eq_false h2
                    rw [hval] at h3
                    exact ⟨en.1, en.2, rfl, by omega⟩
            · rintro σ' H' ⟨g2, ks2, f2, T2, now2, c3', rfl, kd', hF2, N2, hin2, hle2, hg2, hq2⟩
              refine ⟨g2, ks2, f2, T2, now2, _, _, _, _, rfl, kd', hF2, N2, hle2, hg2, fun z => ?_⟩
              obtain ⟨z1, z2, z3, z4⟩ := hq2 z
              subst z2 z3
              intro j m' hj hjm
              rcases Nat.lt_or_ge j i with hlt | hge
              · exact hq1 z1 j m' hlt hjm
              · have ej : j = i := by omega
                subst ej
                rw [hmi] at hjm
                cases hjm
                intro _ p hp
                obtain ⟨t, ht, hpe⟩ := List.getElem_of_mem hp
                exact z4 t p (by rw [pairedLen hop4]; exact ht) (by rw [List.getElem?_eq_getElem ht, hpe])
        · refine ⟨g, ks1, f1, T1, now1, _, _, _, _, rfl, kd5.trans (Kd.of e6), hF5.mono e6, N1, hle, hg, fun z j m' hj hjm => ?_⟩
          rcases Nat.lt_or_ge j i with hlt | hge
          · exact hq1 z j m' hlt hjm
          · have ej : j = i := by omega
            subst ej
            rw [hmi] at hjm
            cases hjm
            intro hin
            have : (m.ins.all fun p => (f1 p).isSome) = true := List.all_eq_true.mpr fun q hq' => (N1.dom q).mpr (hin q hq')
            rw [hall] at this
            cases this
      · rintro σ' H' ⟨g, ks1, f1, T1, now1, d1, d2, d3, d4, rfl, kd, hF', N1, hle, hg, hq1⟩
        have exH : Ex H H' := kd.ex (e03.trans e4) nd
        cases g with
        | true => exact ⟨mu ps f1 + 1, by have := hg rfl; omega, true, ks1, f1, T1, now1, d1, d2, d3, d4, rfl, exH, hF', N1, (fun z => nomatch z), rfl⟩
        | false =>
          refine ⟨0, Nat.succ_pos _, false, ks1, f1, T1, now1, d1, d2, d3, d4, rfl, exH, hF', N1, fun _ m hm => ?_, rfl⟩
          obtain ⟨j, hj, hjm⟩ := List.getElem_of_mem hm
          exact hq1 rfl j m (by omega) (by rw [List.getElem?_eq_getElem hj, hjm])
    · subst hg
      exact s_ret (ev_var rfl) fun H3 e3 => k d ks f _ H3 ((e.trans e2).trans e3) nd (hF.mono (e2.trans e3)) (N.done (hq rfl))
end
end M10

namespace M10
open PySem PySem.Spec L2 Evl StX

section
variable {H H' : Hp} {l d : Addr}
theorem Kd.txL {vs : List V} (k : Kd l H H') (h : H l = some (.lst vs)) : Tx H H' := k.tx fun xs z => by
  rw [h] at z
  cases z
theorem WaysAt.kd {C : Addr} {v : V} {ps : List Place} {ms : List Move} {vs : List V} (h : WaysAt C H v ps ms) (k : Kd l H H') (hl : H l = some (.lst vs)) : WaysAt C H' v ps ms := by
  obtain ⟨a, dx, t, u, pvs, mvs, e1, e2, e3, e4, e5, e6⟩ := h
  have tx := k.txL hl
  exact ⟨a, dx, t, u, pvs, mvs, e1, k _ _ (ne_of e2 hl (fun z => nomatch z)) e2, tx _ _ e3, plsMono tx e4, tx _ _ e5, mvsMono tx e6⟩
theorem FT.kd {ks : List Place} {f : Tab} {vs : List V} (h : FT H d ks f) (k : Kd l H H') (hl : H l = some (.lst vs)) : FT H' d ks f := by
  obtain ⟨kvs, h1, h2, h3⟩ := h
  exact ⟨kvs, k _ _ (ne_of h1 hl (fun z => nomatch z)) h1, h2, fun p => (h3 p).mono (k.txL hl)⟩
theorem keysPl {kvs : List (List Key × V)} : ∀ {bs : List Addr}, IsKeys H kvs bs → ∀ {ks : List Place}, kvs.map (·.1) = ks.map keyOf → Paired (PlA H) (bs.map V.ref) ks := by
  intro bs h
  induction h with
  | nil =>
    intro ks e
    cases ks with
    | nil => exact .nil
    | cons a r => cases e
  | @cons kv b kvs bs hb _ ih =>
    intro ks e
    cases ks with
    | nil => cases e
    | cons a r =>
      rw [List.map_cons] at e; rw [List.map_cons] at e
      obtain ⟨e1, e2⟩ := List.cons.inj e
      refine .cons ⟨b, rfl, ?_⟩ (ih e2)
      rw [hb, e1, keyOf_kV]
end

section
variable {P : Program} {w : World} {K : PySem.W.Frag} {mg : Str → Option Value} {base : Heap} {C : Addr}
/-! ### reached -/
def spReached (C : Addr) : Sp := fun vs H Q _ => ∃ (v x : V) (ps : List Place) (ms : List Move) (s : Place), vs = [v, x] ∧ WaysAt C H v ps ms ∧ VWays ps ms ∧ PlA H x s ∧ s ∈ ps ∧
  ∀ r (R : List Place) qvs H', Ex H H' → H r = none → H' r = some (.lst qvs) → Paired (PlA H') qvs R → Asc lx R → (∀ p, p ∈ R ↔ Reach ms s p) → (∀ p ∈ R, p ∈ ps) → Q (.ref r) H'
theorem scReached : FnScope ["ways", "start"] ["ways", "start"] (defScope sReached) := ⟨rfl, rfl, rfl, by decide +kernel, rfl, by decide +kernel, by decide +kernel⟩
theorem ok_reached (T : Txt K mg) (D : DefAt K mg "reached" sReached ["ways", "start"]) (G1 : Callee P w K mg base 4 "check_place" ["ways", "place"] (spCheckPlace C)) (G2 : Callee P w K mg base 1 "in_order" ["places"] spInOrder) (G3 : Callee P w K mg base 2 "needs_of" ["ways", "start"] (spNeedsOf C)) :
    Callee P w K mg base 5 "reached" ["ways", "start"] (spReached C) := by
  obtain ⟨f1, fd1, F1, m1, k1, b1⟩ := G1
  obtain ⟨f2, fd2, F2, m2, k2, b2⟩ := G2
  obtain ⟨f3, fd3, F3, m3, k3, b3⟩ := G3
  refine D.callee fun f fd F => F.ok scReached (fun vs H Q E h => ?_) (fun cdv A outer s H vs Q E hr h => ?_)
  · obtain ⟨v, x, ps, ms, s, rfl, _⟩ := h
    rfl
  · obtain ⟨v, x, ps, ms, s, rfl, hw, VW, hx, hs, k⟩ := h
    have hr1 : Room 1 _ := hr.mono (by decide)
    have hr2 : Room 2 _ := hr.mono (by decide)
    refine ⟨_, (pss_cons (ps_expr (pe_call F1 hr (by rfl) m1 k1 b1 .nil pass0 (pa_cons (pv 0) (pa_cons (pv 1) pa_nil))))
      (pss_one (ps_ret (pe_call F2 hr1 (by rfl) m2 k2 b2 .nil pass0 (pa_cons (pe_callTy (call_list_dT rfl) (by rfl) T.list (by decide +kernel) (pa_cons (pe_call F3 hr2 (by rfl) m3 k3 b3 .nil pass0 (pa_cons (pv 0) (pa_cons (pv 1) pa_nil))) pa_nil)) pa_nil))))), ?_⟩
    refine q_drop (ev_call (ea_cons (ev_var rfl) (ea_cons (ev_var rfl) ea_nil)) fun H1 e1 Q q E => ⟨_, _, ps, ms, s, rfl, hw.mono e1, hx.mono (Tx.of e1), VW.pl s hs, hs, q⟩) fun H1 e1 => ?_
    refine ⟨_, rfl, _, rfl, _, _, ps, ms, s, rfl, hw.mono e1, VW, hx.mono (Tx.of e1), hs, fun d ks f rk H2 e2 nd hF N => ?_⟩
    obtain ⟨kvs, hd, hks, _⟩ := hF
    refine ⟨d, kvs, rfl, .inl hd, fun l bs nl hk => ?_⟩
    have el : Ex H2 (L2.upd H2 l (.lst (bs.map V.ref))) := Ex.new nl
    have kl := nodup_len N.nd N.sub
    have pl := VW.len
    refine ⟨_, ks, rfl, ⟨l, _, rfl, upd_same, plsMono (Tx.of el) (keysPl hk hks)⟩, N.nd, by omega, fun r qvs H3 e3 nr hr3 hq3 => ?_⟩
    obtain ⟨i1, i2, _⟩ := inOrder_ok so_lx ks N.nd
    have e13 := (e1.trans e2).trans (el.trans e3)
    exact k r (inOrder lx ks) qvs H3 e13 (fresh_back ((e1.trans e2).trans el) nr) hr3 hq3 i1 (fun p => (i2 p).trans (N.mem p)) (fun p hp => N.sub p ((i2 p).mp hp))

/-! ### put_climb -/
def RowA (H : Hp) (v : V) (p : Place) : Prop := ∃ a x i, v = .ref a ∧ H a = some (.tup [x, .int i]) ∧ PlA H x p
theorem RowA.mono {H H' : Hp} {v : V} {p : Place} (e : Tx H H') (h : RowA H v p) : RowA H' v p := let ⟨a, x, i, e1, e2, e3⟩ := h; ⟨a, x, i, e1, e _ _ e2, e3.mono e⟩
def RowsAt (H : Hp) (l : Addr) (rows : List Place) : Prop := ∃ vs, H l = some (.lst vs) ∧ Paired (RowA H) vs rows
theorem RowsAt.mono {H H' : Hp} {l : Addr} {rows : List Place} (e : Ex H H') (h : RowsAt H l rows) : RowsAt H' l rows := let ⟨vs, h1, h2⟩ := h; ⟨vs, e _ _ h1, pairedMono (fun _ _ q => q.mono (Tx.of e)) h2⟩
def headOf (H : Hp) (v : V) : V := (tupOf (H (refAt v))).headD .non
theorem RowA.head {H : Hp} {v : V} {p : Place} (h : RowA H v p) : PlA H (headOf H v) p := by
  obtain ⟨a, x, i, rfl, h1, h2⟩ := h
  show PlA H ((tupOf (H a)).headD .non) p
  rw [h1]
  exact h2
theorem pairedMapL {α β γ : Type} {F : α → β → Prop} {G : γ → β → Prop} {g : α → γ} (h : ∀ a b, F a b → G (g a) b) : ∀ {l1 : List α} {l2 : List β}, Paired F l1 l2 → Paired G (l1.map g) l2
  | _, _, .nil => .nil
  | _, _, .cons r t => .cons (h _ _ r) (pairedMapL h t)
def spPut (C : Addr) (n : Nat) : Sp := fun vs H Q _ => ∃ (v x : V) (d l : Addr) (ps : List Place) (ms : List Move) (s : Place) (ks : List Place) (f : Tab) (rk : Place → Nat) (p : Place) (rows : List Place), vs = [v, .ref d, x, .ref l] ∧ WaysAt C H v ps ms ∧ VWays ps ms ∧
  FT H d ks f ∧ Needs ps ms s ks f rk ∧ PlA H x p ∧ p ∈ ks ∧ rk p < n ∧ RowsAt H l rows ∧ rows.Nodup ∧ (∀ q ∈ rows, q ∈ ks) ∧
  ∀ H' rows', Kd l H H' → RowsAt H' l rows' → rows'.Nodup → (∀ q ∈ rows', q ∈ ks) → (∀ q ∈ rows', q ∈ rows ∨ rk q ≤ rk p) → Q .non H'
theorem scPut : FnScope ["ways", "needs", "place", "found", "index", "other", "row"] ["ways", "needs", "place", "found"] (defScope sPutClimb) := ⟨rfl, rfl, rfl, by decide +kernel, rfl, by decide +kernel, by decide +kernel⟩
theorem oi_none {o : Option Nat} (h : decide (oi o = .non) = false) : ∃ i, o = some i := by
  cases o with
  | none => exact absurd rfl (of_decide_eq_false h)
  | some i => exact ⟨i, rfl⟩
theorem ev_isN {σ : L2.St} {H : Hp} {ta : TE} {x : V} (ha : Ev ta σ H x) : Ev (tOp (fun x y H Q => y = .non ∧ Q (.bl (decide (x = .non))) H) ta (tC .non)) σ H (.bl (decide (x = .non))) :=
  ev_op ha ev_c fun H1 e Q q => ⟨rfl, q H1 (Ex.refl H1)⟩
theorem ok_put (T : Txt K mg) {f0 : Addr} {fd : FuncData} (F : Fun K "put_climb" "put_climb" sPutClimb f0 fd) (hm0 : mg "put_climb" = some (.ref f0)) (hb : Binds K fd ["ways", "needs", "place", "found"] []) (G : CalleeM P w K mg base C 3 "__getitem__" ["self", "index"] (spGetItem C)) :
    ∀ n, FnOk P w K mg base CX0 (4 + n) f0 fd ["ways", "needs", "place", "found"] (spPut C n)
  | 0 => ⟨fun vs H Q E h => by
      obtain ⟨v, x, d, l, ps, ms, s, ks, f, rk, p, rows, rfl, _⟩ := h
      rfl, fun A outer s H args us vs Q E hr he hbb hv h => by
      obtain ⟨v, x, d, l, ps, ms, s, ks, f, rk, p, rows, _, _, _, _, _, _, _, hn, _⟩ := h
      exact absurd hn (Nat.not_lt_zero _)⟩
  | n + 1 => by
    have F1 := ok_put T F hm0 hb G n
    have k1 := F.kp
    obtain ⟨f2, fd2, F2, M2, b2, q2⟩ := G
    refine F.ok scPut (fun vs H Q E h => ?_) (fun cdv A outer s0 H vs Q E hr h => ?_)
    · obtain ⟨v, x, d, l, ps, ms, s, ks, f, rk, p, rows, rfl, _⟩ := h
      rfl
    · obtain ⟨v, x, d, l, ps, ms, s, ks, f, rk, p, rows, rfl, hw, VW, hF, N, hx, hpk, hrk, hR, nd, hsub, k⟩ := h
      have hr4 : Room 4 _ := hr.mono (Nat.le_add_right 4 n)
      refine ⟨_, (pss_cons (ps_set (i := 4) scPut.nd rfl (Or.inl rfl) (pe_ix ix_tup (pe_dget (hu_of hr) (pv 1) (pv 2) (fun _ _ => rfl)) pe_int (fun _ _ => rfl)))
      (pss_cons (ps_if (PW.pt (pw_or (pt_cmpR op_isN (pv 4) pe_non (nomark _)) (pw_or1 (pt_cmpR (op_inD (hu65_of hr)) (pv 2) (pe_lc (own := [("row", 6)]) (g := gName 6) (tt := tYes) (by rfl) scPut.nd (pi_list (pv 3)) (blkOk_by (own := [("row", 6)]) (N := ["ways", "needs", "place", "found", "index", "other", "row"]) (sc := defScope sPutClimb) (by decide +kernel)) (fun _ _ _ _ _ => pg_name (i := 6) scPut.nd rfl (Or.inl rfl)) (fun _ _ _ _ _ => pts_nil) (fun _ _ _ _ _ => (pe_ix (ix_tupK (K := K) rfl) (pv 6) pe_int (fun _ _ => rfl)))) (by rfl))))) (pss_one (ps_retN)) pss_nil)
      (pss_cons (ps_for PassesOwn.never rfl (pi_tup (pe_ix ix_tup (pe_ownIx (E := E0) F2 M2.at_ M2.fn q2 hr4 b2 pass0 (pv 0) (pv 4)) pe_int (fun _ _ => rfl))) (pg_name (i := 5) scPut.nd rfl (Or.inl rfl))
        (pss_one (ps_expr (pe_call F1 hr (by rfl) hm0 k1 hb .nil pass0 (pa_cons (pv 0) (pa_cons (pv 1) (pa_cons (pv 5) (pa_cons (pv 3) pa_nil))))))))
      (pss_one (ps_expr (pe_bm PySem.F.plainAttrs_list PySem.F.slot_list_append PySem.F.type_list_append mt_append (pv 3) (pa_cons (pe_tup (pa_cons (pv 2) (pa_cons (pv 4) pa_nil))) pa_nil))))))), ?_⟩
      obtain ⟨wa, dx, tw, uw, pvs, mvs0, rfl, hwa, _⟩ := id hw
      obtain ⟨vs0, hl, hrows⟩ := hR
      obtain ⟨en, hfp⟩ : ∃ en, f p = some en := by
        have := (N.dom p).mpr hpk
        cases e : f p with
        | none => rw [e] at this; cases this
        | some en => exact ⟨en, rfl⟩
      obtain ⟨ea, hea, hget⟩ := ev_dgetT hF hfp hx
      have kl := nodup_len nd (fun q hq => hsub q hq)
      have kl2 := nodup_len N.nd N.sub
      have pl := VW.len
      refine q_asg (ev_ixT (j := 1) (hget (Ex.refl _) (ev_var rfl) (ev_var rfl)) ev_c hea rfl) fun H1 e1 => ?_
      have hl1 := e1 _ _ hl
      have hr1 : Paired (RowA H1) vs0 rows := pairedMono (fun _ _ q => q.mono (Tx.of e1)) hrows
      refine q_when (b := decide (oi en.2 = .non) || decide (p ∈ rows)) (et_or (et_test (ev_isN (ev_var rfl))) fun _ => et_test (ev_inNL (vs := vs0.map (headOf H1)) (ev_var rfl) (hx.mono (Tx.of e1)) (el_is (el_fmL (fun _ => true) (headOf H1) (ev_var rfl) hl1 (by rw [pairedLen hrows]; omega) (fun _ => rfl) (fun _ _ _ _ _ => et_yes) (fun i y H2 e2 hi _ => ?_)) (by rw [filter_true])) (pairedMapL (fun a b h => h.head) hr1))) (fun hc H2 e2 => ?_) (fun hc H2 e2 => ?_)
      · obtain ⟨q, _, ra, rx, ri, rfl, h1, h2⟩ := pairedGet hr1 hi
        have : headOf H1 (.ref ra) = rx := by
          show (tupOf (H1 ra)).headD .non = rx
          rw [h1]
          rfl
        rw [this]
        exact ev_ixT (j := 0) (ev_var rfl) ev_c (e2 _ _ h1) rfl
      · exact k H2 rows (Kd.of (e1.trans e2)) ⟨vs0, e2 _ _ hl1, pairedMono (fun _ _ q => q.mono (Tx.of e2)) hr1⟩ nd hsub fun q hq => .inl hq
      · obtain ⟨c1, c2⟩ := Bool.or_eq_false_iff.mp hc
        obtain ⟨i, hi⟩ := oi_none c1
        have hnp : p ∉ rows := of_decide_eq_false c2
        obtain ⟨ev, ei⟩ := en
        obtain rfl : ei = some i := hi
        obtain ⟨m, hmi, hmq⟩ := N.ptr p ev i hfp
        have e12 := e1.trans e2
        refine ⟨_, rfl, _, rfl, wa, dx, _, rfl, e12 _ _ hwa, _, ps, ms, i, m, rfl, hw.mono e12, hmi, fun r H3 e3 hmv => ?_⟩
        obtain ⟨ra, ia, nm, oa, rfl, hra, ⟨ia', iv, rfl, hia, hip⟩, _⟩ := hmv
        refine ⟨ra, _, 0, _, rfl, rfl, SqT.of hra, (atI_nat (j := 0) rfl), ia', rfl, ⟨iv, SqT.of hia⟩, ?_⟩
        have e13 := e12.trans e3
        have hl3 := e13 _ _ hl
        refine for_tup (K := K) (a := ia') (xs := iv) (fun t σ' H' => ∃ (c : Option V) (rows' : List Place), σ' = [some (.ref wa), some (.ref d), some x, some (.ref l), some (.int (i : Nat)), c, none] ∧ Kd l H3 H' ∧ RowsAt H' l rows' ∧ rows'.Nodup ∧ (∀ q ∈ rows', q ∈ ks) ∧ ∀ q ∈ rows', q ∈ rows ∨ rk q < rk p)
          ⟨none, rows, rfl, Kd.refl _ _, ⟨vs0, hl3, pairedMono (fun _ _ q => q.mono (Tx.of e13)) hrows⟩, nd, hsub, fun q hq => .inl hq⟩ (fun t σ' H' _ ⟨_, _, _, kd, _⟩ => SqT.of (kd.txL hl3 _ _ hia)) ?_ ?_
        · rintro t y σ' H' hy ⟨c, rows', rfl, kd, hR', nd', hsub', hdec⟩
          obtain ⟨q, hq, hyq⟩ := pairedGet hip hy
          obtain ⟨hqk, hqr⟩ := hmq q (List.mem_of_getElem? hq)
          have kd0 : Kd l H H' := (Kd.of e13).trans kd
          obtain ⟨vs', hl', _⟩ := id hR'
          show tDrop _ _ _ _
          refine ⟨_, rfl, _, rfl, _, rfl, _, rfl, _, _, d, l, ps, ms, s, ks, f, rk, q, rows', rfl, hw.kd kd0 hl, VW, hF.kd kd0 hl, N, hyq.mono (kd.txL hl3), hqk, by omega, hR', nd', hsub', fun H4 rows4 k4 hR4 nd4 hsub4 hdec4 => ?_⟩
          refine ⟨some y, rows4, rfl, kd.trans k4, hR4, nd4, hsub4, fun z hz => ?_⟩
          rcases hdec4 z hz with h | h
          · exact hdec z h
          · exact .inr (by omega)
        · rintro σ' H' ⟨c, rows', rfl, kd, ⟨vs', hl', hrows'⟩, nd', hsub', hdec⟩
          have hnp' : p ∉ rows' := fun z => by
            rcases hdec p z with h | h
            · exact hnp h
            · omega
          have kl3 := nodup_len nd' (fun q hq => hsub' q hq)
          have vl := pairedLen hrows'
          refine ⟨_, rfl, .inl ⟨rfl, _, SqL.of hl'⟩, _, rfl, _, rfl, (by show 2 ≤ sizeLine; decide), fun e ne => ?_⟩
          have nel : l ≠ e := ne_of_none hl' ne
          refine ⟨l, vs', .ref e, rfl, rfl, by rw [upd_ne nel]; exact hl', sz_lt (by omega), ?_⟩
          have kd0 : Kd l H H' := (Kd.of e13).trans kd
          have ex : Ex H' (L2.upd H' e (.tup [x, .int (i : Nat)])) := Ex.new ne
          have tx5 : Tx H' (L2.upd (L2.upd H' e (.tup [x, .int (i : Nat)])) l (.lst (vs' ++ [.ref e]))) := (Tx.of ex).trans (Tx.lst (ex _ _ hl'))
          refine k _ (rows' ++ [p]) ((kd0.trans (Kd.of ex)).trans (Kd.upd l _ _)) ⟨_, upd_same, pairedApp (pairedMono (fun _ _ q => q.mono tx5) hrows') (.cons ⟨e, x, i, rfl, by rw [upd_ne nel.symm, upd_same], (hx.mono (kd0.txL hl)).mono tx5⟩ .nil)⟩ (nodup_snoc nd' hnp') (fun q hq => ?_) fun q hq => ?_
          · rcases List.mem_append.mp hq with h | h
            · exact hsub' q h
            · rw [List.mem_singleton] at h
              exact h ▸ hpk
          · rcases List.mem_append.mp hq with h | h
            · rcases hdec q h with h | h
              · exact .inl h
              · exact .inr (by omega)
            · rw [List.mem_singleton] at h
              rw [h]
              exact .inr (Nat.le_refl _)

/-! ### climb -/
def spClimb (C : Addr) : Sp := fun vs H Q _ => ∃ (v x y : V) (ps : List Place) (ms : List Move) (s p : Place), vs = [v, x, y] ∧ WaysAt C H v ps ms ∧ VWays ps ms ∧ PlA H x s ∧ s ∈ ps ∧ PlA H y p ∧ p ∈ ps ∧
  ∀ r H', Ex H H' → ((Reach ms s p ∧ ∃ l, r = .ref l) ∨ (¬ Reach ms s p ∧ r = .non)) → Q r H'
theorem scClimb : FnScope ["ways", "start", "place", "needs", "found"] ["ways", "start", "place"] (defScope sClimb) := ⟨rfl, rfl, rfl, by decide +kernel, rfl, by decide +kernel, by decide +kernel⟩
theorem ok_climb (T : Txt K mg) (D : DefAt K mg "climb" sClimb ["ways", "start", "place"]) (G1 : Callee P w K mg base 4 "check_place" ["ways", "place"] (spCheckPlace C)) (G2 : Callee P w K mg base 28 "put_climb" ["ways", "needs", "place", "found"] (spPut C 24)) (G3 : Callee P w K mg base 2 "needs_of" ["ways", "start"] (spNeedsOf C)) :
    Callee P w K mg base 29 "climb" ["ways", "start", "place"] (spClimb C) := by
  obtain ⟨f1, fd1, F1, m1, k1, b1⟩ := G1
  obtain ⟨f2, fd2, F2, m2, k2, b2⟩ := G2
  obtain ⟨f3, fd3, F3, m3, k3, b3⟩ := G3
  refine D.callee fun f fd F => F.ok scClimb (fun vs H Q E h => ?_) (fun cdv A outer s0 H vs Q E hr h => ?_)
  · obtain ⟨v, x, y, ps, ms, s, p, rfl, _⟩ := h
    rfl
  · obtain ⟨v, x, y, ps, ms, s, p, rfl, hw, VW, hx, hs, hy, hp, k⟩ := h
    have hr2 : Room 2 _ := hr.mono (by decide)
    have hr4 : Room 4 _ := hr.mono (by decide)
    refine ⟨_, (pss_cons (ps_expr (pe_call F1 hr4 (by rfl) m1 k1 b1 .nil pass0 (pa_cons (pv 0) (pa_cons (pv 1) pa_nil))))
      (pss_cons (ps_expr (pe_call F1 hr4 (by rfl) m1 k1 b1 .nil pass0 (pa_cons (pv 0) (pa_cons (pv 2) pa_nil))))
      (pss_cons (ps_set (i := 3) scClimb.nd rfl (Or.inl rfl) (pe_call F3 hr2 (by rfl) m3 k3 b3 .nil pass0 (pa_cons (pv 0) (pa_cons (pv 1) pa_nil))))
      (pss_cons (ps_if (pt_cmp (pc_dnotin (hu_of hr) (pv 2) (pv 3)) (by rfl)) (pss_one (ps_ret pe_non)) pss_nil)
      (pss_cons (ps_set (i := 4) scClimb.nd rfl (Or.inl rfl) (pe_lst pa_nil))
      (pss_cons (ps_expr (pe_call F2 hr (by rfl) m2 k2 b2 .nil pass0 (pa_cons (pv 0) (pa_cons (pv 3) (pa_cons (pv 2) (pa_cons (pv 4) pa_nil))))))
      (pss_one (ps_ret (pv 4))))))))), ?_⟩
    refine q_drop (ev_call (ea_cons (ev_var rfl) (ea_cons (ev_var rfl) ea_nil)) fun H1 e1 Q q E => ⟨_, _, ps, ms, s, rfl, hw.mono e1, hx.mono (Tx.of e1), VW.pl s hs, hs, q⟩) fun H1 e1 => ?_
    refine q_drop (ev_call (ea_cons (ev_var rfl) (ea_cons (ev_var rfl) ea_nil)) fun H2 e2 Q q E => ⟨_, _, ps, ms, p, rfl, hw.mono (e1.trans e2), hy.mono (Tx.of (e1.trans e2)), VW.pl p hp, hp, q⟩) fun H2 e2 => ?_
    have e12 := e1.trans e2
    refine ⟨_, rfl, _, rfl, _, _, ps, ms, s, rfl, hw.mono e12, VW, hx.mono (Tx.of e12), hs, fun d ks f rk H3 e3 nd hF N => ?_⟩
    have e13 := e12.trans e3
    have hy3 := hy.mono (Tx.of e13)
    refine q_when (b := !(f p).isSome) (et_B (ev_dnotin (ev_var rfl) hy3 (ev_var rfl) hF)) (fun hc H4 e4 => ?_) (fun hc H4 e4 => ?_)
    · refine s_ret ev_c fun H5 e5 => k .non H5 ((e13.trans e4).trans e5) (.inr ⟨fun hre => ?_, rfl⟩)
      have := (N.dom p).mpr ((N.mem p).mpr hre)
      rw [this] at hc
      cases hc
    · have hpk : p ∈ ks := (N.dom p).mp (by
        cases e : (f p).isSome with
        | true => rfl
        | false => rw [e] at hc; cases hc)
      have hrk := N.rkb p hpk
      have pl := VW.len
      refine q_asgL (el_lst ea_nil (by decide)) fun l H5 nl e5 hl => ?_
      have e15 := (e13.trans e4).trans e5
      refine ⟨_, rfl, _, rfl, _, rfl, _, rfl, _, _, d, l, ps, ms, s, ks, f, rk, p, [], rfl, hw.mono e15, VW, hF.mono (e4.trans e5), N, hy.mono (Tx.of e15), hpk, by omega, ⟨[], hl, .nil⟩, List.nodup_nil, (fun q hq => by cases hq), fun H6 rows' k6 hR6 _ _ _ => ?_⟩
      refine s_ret (ev_var rfl) fun H7 e7 => k _ H7 ?_ (.inl ⟨(N.mem p).mp hpk, l, rfl⟩)
      exact (k6.ex e15 (fresh_back (e13.trans e4) nl)).trans e7
end
end M10

namespace M10
open PySem PySem.Spec L2 Evl StX

section
variable {X : Cx} {K : PySem.W.Frag}
theorem pg_tupK {es : List Expr} {k : Nat} {pos : Pos} {t : TGs} {n : Nat} (e : X.K = K) (hc : X.calm = true) (h : PGs X es t) (hn : (assignEach es X.env).length = n := by rfl) (hst : (assignEach es X.env).findIdx? (·.1) = none := by rfl) : PG X (.Tuple es k pos) (gTup K n t) := e ▸ pg_tup hc h hn hst
end
section
variable {K : PySem.W.Frag} {σ : L2.St} {H H' : Hp} {ta tb tc te : TE} {x y z v : V} {p q : Place} {ps ks : List Place} {l d a : Addr} {vs xs ys : List V}
theorem rep_map (n : Nat) : List.replicate n (V.bl true) = (List.replicate n true).map V.bl := by simp
theorem rep_all (n : Nat) : (List.replicate n true).all id = true := by
  induction n with
  | zero => rfl
  | succ n ih => rw [List.replicate_succ, List.all_cons, ih]; rfl
theorem rep_snoc {α : Type} (n : Nat) (x : α) : List.replicate n x ++ [x] = List.replicate (n + 1) x := by
  rw [List.replicate_succ']
theorem tyes_go {σ : L2.St} {H : Hp} {A B : Hp → Prop} (h : A H) : tYes σ H (fun b H => if b = true then A H else B H) := by
  show if true = true then A H else B H
  rw [if_pos rfl]
  exact h
/-- all([.. for a, b in zip(xs, ys)]) -/
theorem ev_allZip {ts : TA} {j1 j2 : Nat} {is : List Nat} (h : ∀ H1, Ex H H1 → ∀ Q : List V → Hp → Prop, (∀ b H2, Ex H1 H2 → H2 b = some (.lst ys) → Q [.ref a, .ref b] H2) → ts σ H1 Q) (hx : H a = some (.lst xs)) (hz : xs.length ≤ 50000)
    (hw : ∀ x y, wipe (((wipe σ is).set j1 (some x)).set j2 (some y)) is = wipe σ is) (he : ∀ (i : Nat) (x y : V) H1, Ex H H1 → xs[i]? = some x → ys[i]? = some y → Ev te (((wipe σ is).set j1 (some x)).set j2 (some y)) H1 (.bl true)) :
    Ev (tCB (rAll K) (tCons (tLc (iZip K ts) (gTup K 2 (gCons (gName j1) (gCons (gName j2) gNil))) tYes te is) tNil)) σ H (.bl true) := fun H1 e Q q => by
  refine h H1 e _ fun b H2 e2 hb => ?_
  have hx2 := (e.trans e2) _ _ hx
  refine ⟨a, b, xs, ys, rfl, SqL.of hx2, SqL.of hb, fun D nD => ?_⟩
  refine lc_it (walk_zip (K := K) (a := a) (b := b) (xs := xs) (ys := ys) rfl) (fun i H' => Ex H2 H' ∧ H' D = some (.lst (List.replicate i (V.bl true)))) ⟨Ex.new nD, upd_same⟩ (fun i H' _ p => ⟨SqL.of (p.1 _ _ hx2), SqL.of (p.1 _ _ hb)⟩) ?_ ?_
  · rintro i u H3 H4 hi ⟨e3, h3⟩ ⟨T, x, y, rfl, nT, rfl, e1, e2'⟩
    refine ⟨T, _, rfl, SqT.of upd_same, rfl, _, _, rfl, _, _, rfl, rfl, hw x y, ?_⟩
    refine tyes_go ?_
    have e4 : Ex H2 (L2.upd H3 T (.tup [x, y])) := e3.trans (Ex.new nT)
    refine he i x y _ ((e.trans e2).trans e4) e1 e2' _ (Ex.refl _) _ fun H5 e5 => ?_
    refine ⟨_, e5 _ _ ((Ex.new nT) _ _ h3), sz_lt (by rw [List.length_replicate]; omega), Ex.mut (e4.trans e5) nD, ?_⟩
    rw [rep_snoc]
    exact upd_same
  · rintro H3 ⟨e3, h3⟩
    refine ⟨D, List.replicate _ true, rfl, SqL.of (by rw [← rep_map]; exact h3), ?_⟩
    rw [rep_all]
    exact q H3 (e2.trans e3)
/-- [.. for i in xs for p in t(i)], each turn True: from where the outer list is known -/
theorem lc2_true {ti : TE} {j j1 : Nat} {is : List Nat} {Qd : Addr → Hp → Prop} (hx : H l = some (.lst xs)) (hz : xs.length ≤ 10000) (hw : ∀ x, wipe ((wipe σ is).set j (some x)) is = wipe σ is)
    (hw1 : ∀ x y, wipe ((wipe ((wipe σ is).set j (some x)) [j1]).set j1 (some y)) [j1] = wipe ((wipe σ is).set j (some x)) [j1])
    (hi : ∀ (i : Nat) (x : V) H1, Ex H H1 → xs[i]? = some x → EvR ti ((wipe σ is).set j (some x)) H1 fun u H2 => ∃ t ys, u = .ref t ∧ H2 t = some (.tup ys) ∧ ys.length ≤ 4 ∧
      ∀ (y : V) H3, Ex H H3 → Tx H2 H3 → y ∈ ys → Ev te ((wipe ((wipe σ is).set j (some x)) [j1]).set j1 (some y)) H3 (.bl true))
    (hd : ∀ D n H', H D = none → Ex H H' → H' D = some (.lst (List.replicate n (V.bl true))) → Qd D H') : ∀ D, H D = none → ∃ W : Nat → Nat → Hp → Prop, (∃ m, W 0 m (L2.upd H D (.lst []))) ∧ ∀ i m H, W i m H →
  ((Itl K l).stop i H ∧ Qd D H) ∨ ((Itl K l).go i H ∧ ∃ Nx : Hp → Prop, (∀ H', Nx H' → ∃ m', m' < m ∧ W (i + 1) m' H') ∧ ∀ x H', (Itl K l).yld i H x H' → gName j x (wipe σ is) H' fun σ2 H2 => wipe σ2 is = wipe σ is ∧ tYes σ2 H2 fun b H3 =>
    if b = true then iTup K ti σ2 H3 fun J1 H4 => ∃ W1 : Nat → Nat → Hp → Prop, (∃ m, W1 0 m H4) ∧ ∀ j k H, W1 j k H →
      (J1.stop j H ∧ Nx H) ∨ (J1.go j H ∧ ∃ Nx1 : Hp → Prop, (∀ H', Nx1 H' → ∃ k', k' < k ∧ W1 (j + 1) k' H') ∧ ∀ x H', J1.yld j H x H' → gName j1 x (wipe σ2 [j1]) H' fun σ3 H5 => wipe σ3 [j1] = wipe σ2 [j1] ∧ tYes σ3 H5 fun b H6 =>
        if b = true then te σ3 H6 fun y H7 => ∃ acc, H7 D = some (.lst acc) ∧ acc.length < sizeLine ∧ Nx1 (L2.upd H7 D (.lst (acc ++ [y]))) else Nx1 H6)
    else Nx H3) := fun D nD => by
  refine ⟨fun i m H' => m = xs.length - i ∧ i ≤ xs.length ∧ Ex H H' ∧ ∃ n, n ≤ 4 * i ∧ H' D = some (.lst (List.replicate n (V.bl true))), ⟨xs.length, by simp, Nat.zero_le _, Ex.new nD, 0, Nat.le_refl _, upd_same⟩, ?_⟩
  rintro i m H1 ⟨rfl, hil, e1, n, hn, hD⟩
  by_cases hlt : i < xs.length
  · refine .inr ⟨⟨xs, xs[i], SqL.of (e1 _ _ hx), by simp [hlt]⟩, fun H' => i + 1 ≤ xs.length ∧ Ex H H' ∧ ∃ n, n ≤ 4 * (i + 1) ∧ H' D = some (.lst (List.replicate n (V.bl true))), fun H' ⟨h1, h2, h3⟩ => ⟨xs.length - (i + 1), by omega, rfl, h1, h2, h3⟩, fun x H' yd => ?_⟩
    obtain ⟨rfl, hy⟩ := yd
    have hxi := hy xs (SqL.of (e1 _ _ hx))
    refine ⟨hw x, ?_⟩
    refine tyes_go ?_
    refine hi i x H' e1 hxi H' (Ex.refl _) _ fun u H2 e2 ⟨t, ys, hu, ht, hys, hev⟩ => ?_
    refine ⟨t, hu, ⟨ys, SqT.of ht⟩, ?_⟩
    refine ⟨fun k m H3 => m = ys.length - k ∧ k ≤ ys.length ∧ Tx H2 H3 ∧ Ex H H3 ∧ ∃ n', n' ≤ n + k ∧ H3 D = some (.lst (List.replicate n' (V.bl true))), ⟨ys.length, by simp, Nat.zero_le _, Tx.refl _, e1.trans e2, n, Nat.le_refl _, e2 _ _ hD⟩, ?_⟩
    rintro k m H3 ⟨rfl, hk, e23, e03, n', hn', hD3⟩
    by_cases hkt : k < ys.length
    · refine .inr ⟨⟨ys, ys[k], SqT.of (e23 _ _ ht), by simp [hkt]⟩, fun H4 => k + 1 ≤ ys.length ∧ Tx H2 H4 ∧ Ex H H4 ∧ ∃ n', n' ≤ n + (k + 1) ∧ H4 D = some (.lst (List.replicate n' (V.bl true))), fun H4 ⟨h1, h2, h3, h4⟩ => ⟨ys.length - (k + 1), by omega, rfl, h1, h2, h3, h4⟩, fun y H4 yd => ?_⟩
      obtain ⟨rfl, hyy⟩ := yd
      have hyk := hyy ys (SqT.of (e23 _ _ ht))
      refine ⟨hw1 x y, ?_⟩
      refine tyes_go ?_
      refine hev y H4 e03 e23 (List.mem_of_getElem? hyk) H4 (Ex.refl _) _ fun H5 e5 => ?_
      refine ⟨_, e5 _ _ hD3, sz_lt (by rw [List.length_replicate]; omega), hkt, (e23.trans (Tx.of e5)).trans (Tx.lst (e5 _ _ hD3)), Ex.mut (e03.trans e5) nD, n' + 1, by omega, by rw [rep_snoc]; exact upd_same⟩
    · have e : k = ys.length := by omega
      exact .inl ⟨⟨ys, SqT.of (e23 _ _ ht), by omega⟩, hlt, e03, n', by omega, hD3⟩
  · have e : i = (xs.length) := by omega
    subst e
    exact .inl ⟨⟨xs, SqL.of (e1 _ _ hx), Nat.le_refl _⟩, hd D n H1 nD e1 hD⟩
end

section
variable {P : Program} {w : World} {K : PySem.W.Frag} {mg : Str → Option Value} {base : Heap} {C : Addr}
/-! ### is_closed -/
def spIsClosed (C : Addr) : Sp := fun vs H Q _ => ∃ (v x y z : V) (ps : List Place) (ms : List Move) (s p : Place) (R : List Place), vs = [v, x, y, z] ∧ WaysAt C H v ps ms ∧ VWays ps ms ∧ PlA H x s ∧ s ∈ ps ∧ PlA H y p ∧ p ∈ ps ∧ PlsL H z R ∧ Asc lx R ∧ (∀ q, q ∈ R ↔ Reach ms s q) ∧ (∀ q ∈ R, q ∈ ps) ∧
  RetV (.bl (!decide (p ∈ R))) H Q
theorem scIsClosed : FnScope ["ways", "start", "place", "value", "other", "one", "index"] ["ways", "start", "place", "value"] (defScope sIsClosed) := ⟨rfl, rfl, rfl, by decide +kernel, rfl, by decide +kernel, by decide +kernel⟩
theorem ok_isClosed (T : Txt K mg) (W : WTxt K mg C) (D : DefAt K mg "is_closed" sIsClosed ["ways", "start", "place", "value"]) (G1 : Callee P w K mg base 4 "check_place" ["ways", "place"] (spCheckPlace C)) (G2 : CalleeM P w K mg base C 3 "__contains__" ["self", "place"] (spContains C))
    (G3 : CalleeM P w K mg base C 1 "within" ["self", "places"] (spWithin C)) (G4 : CalleeM P w K mg base C 3 "__getitem__" ["self", "index"] (spGetItem C)) : Callee P w K mg base 5 "is_closed" ["ways", "start", "place", "value"] (spIsClosed C) := by
  obtain ⟨f1, fd1, F1, m1, k1, b1⟩ := G1
  obtain ⟨f2, fd2, F2, M2, b2, q2⟩ := G2
  obtain ⟨f3, fd3, F3, M3, b3, q3⟩ := G3
  obtain ⟨f4, fd4, F4, M4, b4, q4⟩ := G4
  refine D.callee fun f fd F => F.ok scIsClosed (fun vs H Q E h => ?_) (fun cdv A outer s0 H vs Q E hr h => ?_)
  · obtain ⟨v, x, y, z, ps, ms, s, p, R, rfl, _⟩ := h
    rfl
  · obtain ⟨v, x, y, z, ps, ms, s, p, R, rfl, hw, VW, hx, hs, hy, hp, ⟨l, rvs, rfl, hl, hR⟩, asc, hre, hsub, k⟩ := h
    have hr3 : Room 3 _ := hr.mono (by decide)
    have hr1 : Room 1 _ := hr.mono (by decide)
    have rl := nodup_len (asc.nodup so_lx) hsub
    have pl := VW.len
    have rvl : rvs.length = R.length := pairedLen hR
    refine ⟨_, (pss_cons (ps_expr (pe_call F1 hr (by rfl) m1 k1 b1 .nil pass0 (pa_cons (pv 0) (pa_cons (pv 1) pa_nil))))
      (pss_cons (ps_expr (pe_call F1 hr (by rfl) m1 k1 b1 .nil pass0 (pa_cons (pv 0) (pa_cons (pv 2) pa_nil))))
      (pss_cons (ps_if (PW.pt (pw_or (pt_not (pt_val (pe_callB call_isi (by rfl) T.isinstance (by decide +kernel) (pa_cons (pv 3) (pa_cons (pe_bltn (v := .ty "list") (by rfl) T.list (by decide +kernel) rfl) pa_nil))))) (pw_or1 (pt_not (pt_val (pe_callB (cr_all rfl) (by rfl) T.all (by decide +kernel) (pa_cons (pe_lc (own := [("other", 4)]) (g := gName 4) (tt := tYes) (by rfl) scIsClosed.nd (pi_list (pv 3)) (blkOk_by (own := [("other", 4)]) (N := ["ways", "start", "place", "value", "other", "one", "index"]) (sc := defScope sIsClosed) (by decide +kernel)) (fun _ _ _ _ _ => pg_name (i := 4) scIsClosed.nd rfl (Or.inl rfl)) (fun _ _ _ _ _ => pts_nil) (fun _ _ _ _ _ => (pe_cmpR (op_ownIn (E := E0) F2 M2.at_ M2.fn hr3 b2 pass0) (pv 4) (pv 0) (by rfl)))) pa_nil))))))) (pss_one (ps_ret pe_bl)) pss_nil)
      (pss_cons (ps_if (PW.pt (pw_or (pt_not (pt_val (pe_callB (cr_all rfl) (by rfl) T.all (by decide +kernel) (pa_cons (pe_lc (own := [("one", 5), ("other", 4)]) (tt := tYes) (by rfl) scIsClosed.nd (pi_zip (by rfl) T.zip (pa_cons (pv 3) (pa_cons (pe_slice sl_list (pv 3) (po_some pe_int) po_none) pa_nil))) (blkOk_by (own := [("one", 5), ("other", 4)]) (N := ["ways", "start", "place", "value", "other", "one", "index"]) (sc := defScope sIsClosed) (by decide +kernel)) (fun _ _ _ _ _ => pg_tupK (K := K) (n := 2) rfl rfl (pgs_cons (pg_name (i := 5) scIsClosed.nd rfl (Or.inl rfl)) (pgs_cons (pg_name (i := 4) scIsClosed.nd rfl (Or.inl rfl)) pgs_nil))) (fun _ _ _ _ _ => pts_nil) (fun _ _ _ _ _ => (pe_cmpR (op_ltTK (K := K) rfl (hu0_of hr)) (pv 5) (pv 4) (nomark _)))) pa_nil)))) (pw_or (pt_cmpR (op_notInD (hu65_of hr)) (pv 1) (pv 3) (by rfl)) (pw_or1 (pt_cmpR (op_inD (hu65_of hr)) (pv 2) (pv 3) (by rfl)))))) (pss_one (ps_ret pe_bl)) pss_nil)
      (pss_one (ps_ret (pe_callB (cr_all rfl) (by rfl) T.all (by decide +kernel) (pa_cons (pe_lc2 (own := [("index", 6), ("other", 4)]) (vs1 := [4]) (g := gName 6) (tt := tYes) (g1 := gName 4) (tt1 := tYes) (by rfl) scIsClosed.nd (pi_list (pe_meth (pv 0) W.cl M3 F3 hr1 b3 .nil pass0 (pa_cons (pv 3) pa_nil))) (blkOk_by (own := [("index", 6), ("other", 4)]) (N := ["ways", "start", "place", "value", "other", "one", "index"]) (sc := defScope sIsClosed) (by decide +kernel)) (by decide) (fun _ _ _ _ _ => pg_name (i := 6) scIsClosed.nd rfl (Or.inl rfl)) (fun _ _ _ _ _ => pts_nil) (fun _ _ _ _ _ => (pi_tupK (K := K) rfl) (pe_ix (ix_tupK (K := K) rfl) (pe_ownIx (E := E0) F4 M4.at_ M4.fn q4 hr b4 pass0 (pv 0) (pv 6)) pe_int (fun _ _ => rfl))) (fun _ _ _ _ _ => pg_name (i := 4) scIsClosed.nd rfl (Or.inl rfl)) (fun _ _ _ _ _ => pts_nil) (fun _ _ _ _ _ => (pe_cmpR (op_inDK (K := K) rfl (hu65_of hr)) (pv 4) (pv 3) (by rfl)))) pa_nil)))))))), ?_⟩
    refine q_drop (ev_call (ea_cons (ev_var rfl) (ea_cons (ev_var rfl) ea_nil)) fun H1 e1 Q q E => ⟨_, _, ps, ms, s, rfl, hw.mono e1, hx.mono (Tx.of e1), VW.pl s hs, hs, q⟩) fun H1 e1 => ?_
    refine q_drop (ev_call (ea_cons (ev_var rfl) (ea_cons (ev_var rfl) ea_nil)) fun H2 e2 Q q E => ⟨_, _, ps, ms, p, rfl, hw.mono (e1.trans e2), hy.mono (Tx.of (e1.trans e2)), VW.pl p hp, hp, q⟩) fun H2 e2 => ?_
    have e12 := e1.trans e2
    have hl2 := e12 _ _ hl
    have hR2 : Paired (PlA H2) rvs R := plsMono (Tx.of e12) hR
    refine q_skip (et_or (a := false) (b := false) (et_not (a := true) (et_B (ev_isi (ev_var rfl) ev_c (.ty _) (fun H3 e3 => tyx_lst (e3 _ _ hl2)) (kit_ty (by decide +kernel))))) fun _ => et_not (a := true) (et_B (ev_is (ev_allPlL (fun q => decide (q ∈ ps)) (ev_var rfl) hl2 hR2 (by omega) (fun _ => rfl) fun u q H3 e3 hu hq => ev_ownIn (neg := false) (ev_var rfl) (ev_var rfl) (hw.mono (e12.trans e3)) hu (VW.pl q (hsub q hq))) (by rw [List.all_eq_true.mpr fun q hq => decide_eq_true (hsub q hq)])))) fun H3 e3 => ?_
    have e13 := e12.trans e3
    have hl3 := e13 _ _ hl
    have hR3 : Paired (PlA H3) rvs R := plsMono (Tx.of e13) hR
    have hsR : s ∈ R := (hre s).mpr .start
    refine q_when (b := decide (p ∈ R)) (et_is (et_or (a := false) (b := decide (p ∈ R)) (et_not (a := true) (et_B (ev_allZip (a := l) (xs := rvs) (ys := rvs.drop 1) ?_ hl3 (by omega) (fun _ _ => rfl) fun i u1 u2 H4 e4 h1 h2 => ?_))) fun _ => et_is (et_or (a := false) (b := decide (p ∈ R)) (et_test (ev_is (ev_niL (ev_var rfl) (hx.mono (Tx.of e13)) (ev_var rfl) hl3 hR3) (by rw [decide_eq_true hsR]; rfl))) fun _ => et_test (ev_inL (ev_var rfl) (hy.mono (Tx.of e13)) (ev_var rfl) hl3 hR3)) (by simp)) (by simp)) (fun hc H4 e4 => ?_) (fun hc H4 e4 => ?_)
    · intro H4 e4 Q q
      refine ⟨_, rfl, ?_⟩
      refine el_sl (K := K) (tl := tPart (tC (.int 1))) (th := tNoPart) (te := tVar 3) (a := l) (xs := rvs) (lo := some ((1 : Nat) : Int)) (hi := none) (ev_var rfl) (eo_some ev_c) eo_none (SqL.of hl3) H4 e4 _ fun b H5 nb e5 hb => ?_
      rw [cutV_drop] at hb
      exact q b H5 e5 hb
    · obtain ⟨p1, hp1, hu1⟩ := pairedGet hR3 h1
      obtain ⟨p2, hp2, hu2⟩ := pairedGet (pairedDrop 1 hR3) h2
      have hlt : lx p1 p2 = true := by
        rw [List.getElem?_drop] at hp2
        obtain ⟨l1, g1⟩ := List.getElem?_eq_some_iff.mp hp1
        obtain ⟨l2, g2⟩ := List.getElem?_eq_some_iff.mp hp2
        have := List.pairwise_iff_getElem.mp asc i (1 + i) l1 l2 (by omega)
        rw [g1, g2] at this
        exact this
      rw [← hlt]
      exact ev_lt (ev_var rfl) (hu1.mono (Tx.of e4)) (ev_var rfl) (hu2.mono (Tx.of e4))
    · have hpR := of_decide_eq_true hc
      refine s_ret ev_c fun H5 e5 => ?_
      have := k H5 ((e13.trans e4).trans e5)
      rw [decide_eq_true hpR] at this
      exact this
    · have hpR := of_decide_eq_false hc
      have e14 := e13.trans e4
      obtain ⟨wa, dx, tw, uw, pvs, mvs0, rfl, hwa, _⟩ := id hw
      refine ⟨_, rfl, wa, dx, _, rfl, e14 _ _ hwa, wf_no _ _ (by decide +kernel) (by decide +kernel), _, rfl, _, _, ps, ms, R, rfl, hw.mono e14, ⟨l, rvs, rfl, e14 _ _ hl, plsMono (Tx.of e14) hR⟩, (fun m hm => by
        have := (VW.mv m hm).1.sz
        rcases this with h | h | h <;> omega), (by have := VW.mlen; omega), fun r is H5 e5 nr hr5 hil his => ?_⟩
      have e15 := e14.trans e5
      have hml := VW.mlen
      refine ⟨r, rfl, ⟨_, SqL.of hr5⟩, lc2_true (K := K) hr5 (by rw [List.length_map]; omega) (fun _ => rfl) (fun _ _ => rfl) ?_ ?_⟩
      · intro i x1 H6 e6 hi
        rw [List.getElem?_map] at hi
        obtain ⟨n, hn, rfl⟩ := Option.map_eq_some_iff.mp hi
        obtain ⟨m, hmi, hin⟩ := his n (List.mem_of_getElem? hn)
        have hmem := List.mem_of_getElem? hmi
        intro H7 e7 Q q
        have e17 := (e15.trans e6).trans e7
        refine ⟨_, rfl, _, rfl, wa, dx, _, rfl, e17 _ _ hwa, _, ps, ms, n, m, rfl, hw.mono e17, hmi, fun r2 H8 e8 hmv => ?_⟩
        obtain ⟨ra, ia, nm, oa, rfl, hra, _, ⟨oa', ov, rfl, hoa, hop⟩⟩ := hmv
        refine ⟨ra, _, 2, _, rfl, rfl, SqT.of hra, (atI_nat (j := 2) rfl), ?_⟩
        refine q _ H8 e8 ⟨oa', ov, rfl, hoa, ?_, fun u H9 e9 t9 hu => ?_⟩
        · have h1 := pairedLen hop
          have h2 := (VW.mv m hmem).1.eq
          have h3 := (VW.mv m hmem).1.sz
          rcases h3 with h | h | h <;> omega
        · obtain ⟨j, hj, hju⟩ := List.getElem_of_mem hu
          obtain ⟨q', hq', huq⟩ := pairedGet hop (by rw [List.getElem?_eq_getElem hj, hju])
          have hqR : q' ∈ R := (hre q').mpr (.step hmem (fun z hz => (hre z).mp (hin z hz)) (List.mem_of_getElem? hq'))
          have e19 := e15.trans e9
          have := ev_inL (K := K) (σ := (wipe ((wipe [some (V.ref wa), some x, some y, some (.ref l), none, none, none] [6, 4]).set 6 (some (.int (n : Nat)))) [4]).set 4 (some u)) (ta := tVar 4) (tb := tVar 3) (ev_var rfl) (huq.mono t9) (ev_var rfl) (e19 _ _ hl) (plsMono (Tx.of e19) hR)
          rw [decide_eq_true hqR] at this
          exact this
      · intro D n H6 nD e6 hD
        refine ⟨D, List.replicate n true, rfl, SqL.of (by rw [← rep_map]; exact hD), ?_⟩
        rw [rep_all]
        have := k H6 (e15.trans e6)
        rw [decide_eq_false hpR] at this
        exact this
end
end M10

namespace M10
open PySem PySem.Spec L2 Evl StX

section
variable {K : PySem.W.Frag} {σ : L2.St} {H H' : Hp} {ta tb tc te : TE} {x y z v : V} {l d a : Addr} {vs xs ys : List V}
theorem ev_int (ha : Ev ta σ H (.int i)) : Ev (tCB (fun xs H Q => (∃ i, xs = [.int i] ∧ Q (.int i) H) ∨ ∃ k, xs = [.bl k] ∧ Q (.int (if k then 1 else 0)) H) (tCons ta tNil)) σ H (.int i) :=
  ev_cb (ea_cons ha ea_nil) fun H1 _ Q q => .inl ⟨i, rfl, q H1 (Ex.refl H1)⟩
theorem ev_intB {b : Bool} (ha : Ev ta σ H (.bl b)) : Ev (tCB (fun xs H Q => (∃ i, xs = [.int i] ∧ Q (.int i) H) ∨ ∃ k, xs = [.bl k] ∧ Q (.int (if k then 1 else 0)) H) (tCons ta tNil)) σ H (.int (if b then 1 else 0)) :=
  ev_cb (ea_cons ha ea_nil) fun H1 _ Q q => .inr ⟨b, rfl, q H1 (Ex.refl H1)⟩
theorem ev_abs {i : Int} (ha : Ev ta σ H (.int i)) : Ev (tCB (fun xs H Q => ∃ i, xs = [.int i] ∧ Q (.int (if i < 0 then -i else i)) H) (tCons ta tNil)) σ H (.int (if i < 0 then -i else i)) :=
  ev_cb (ea_cons ha ea_nil) fun H1 _ Q q => ⟨i, rfl, q H1 (Ex.refl H1)⟩
theorem ev_lenS {K : PySem.W.Frag} (ha : Ev ta σ H (.ref l)) (h : SqL K H l xs) : Ev (tCB (fun xs H Q => ∃ p ys, xs = [.ref p] ∧ (SqL K H p ys ∨ SqT K H p ys) ∧ Q (.int ys.length) H) (tCons ta tNil)) σ H (.int (xs.length : Nat)) :=
  ev_cb (ea_cons ha ea_nil) fun H1 e Q q => ⟨l, xs, rfl, .inl (ex_l e h), q H1 (Ex.refl H1)⟩
end
section
variable {K : PySem.W.Frag} {P : Program} {w : World} {mg : Str → Option Value} {base : Heap}
/-! ### the law's pool -/
def PoolAt (H : Hp) (a : Addr) : Prop := ∃ x y : Int, H a = some (.lst [.int x, .int y]) ∧ 0 ≤ x ∧ 0 ≤ y ∧ y < 2147483647
theorem PoolAt.mono {H H' : Hp} {a : Addr} (e : Ex H H') (h : PoolAt H a) : PoolAt H' a := let ⟨x, y, h1, h2⟩ := h; ⟨x, y, e _ _ h1, h2⟩
theorem PoolAt.tx {H H' : Hp} {a : Addr} (h : PoolAt H a) (k : Kd a H H') : Tx H H' := let ⟨_, _, h1, _⟩ := h; k.txL h1
def spPool (K : PySem.W.Frag) : Sp := fun vs H Q _ => ∃ (a : Addr) (ns : List Int) (k : Int), vs = [.ref a, .int k] ∧ SqL K H a (ns.map V.int) ∧ 0 ≤ k ∧ k ≤ 2 ∧ ∀ r H', Ex H H' → H r = none → PoolAt H' r → Q (.ref r) H'
theorem scPool : FnScope ["_law_script", "_law_k", "_law_cell", "_law_size", "_law_mixed"] ["_law_script", "_law_k"] (defScope sPool) := ⟨rfl, rfl, rfl, by decide +kernel, rfl, by decide +kernel, by decide +kernel⟩
theorem ok_pool (T : Txt K mg) (D : DefAt K mg "_law_pool" sPool ["_law_script", "_law_k"]) : Callee P w K mg base 1 "_law_pool" ["_law_script", "_law_k"] (spPool K) := by
  refine D.callee fun f fd F => F.ok scPool (fun vs H Q E h => ?_) (fun cdv A outer s H vs Q E hr h => ?_)
  · obtain ⟨a, ns, k, rfl, _⟩ := h
    rfl
  · obtain ⟨a, ns, k, rfl, hS, k0, k2, kk⟩ := h
    refine ⟨_, (pss_cons (ps_set (i := 2) scPool.nd rfl (Or.inl rfl) (pe_ifExp (pt_cmpR op_lt (pv 1) (pe_callB call_len_seq (by rfl) T.len (by decide +kernel) (pa_cons (pv 0) pa_nil)) (nomark _)) (pe_ix ix_list (pv 0) (pv 1) (fun _ _ => rfl)) (pe_op op_add (pe_op op_mul pe_int (pe_callB (cr_sum rfl) (by rfl) T.sum (by decide +kernel) (pa_cons (pe_slice sl_list (pv 0) po_none (po_some pe_int)) pa_nil))) (pv 1))))
      (pss_cons (ps_set (i := 3) scPool.nd rfl (Or.inl rfl) (pe_callB call_abs (by rfl) T.abs (by decide +kernel) (pa_cons (pv 2) pa_nil)))
      (pss_cons (ps_set (i := 4) scPool.nd rfl (Or.inl rfl) (pe_op op_add (pe_op op_add (pe_op op_add (pe_op op_mod (pe_callTy call_int1 (by rfl) T.int (by decide +kernel) (pa_cons (pv 3) pa_nil)) pe_int) (pe_op op_mul (pe_op op_mul pe_int (pv 1)) (pv 1))) (pe_op op_mul pe_int (pv 1))) pe_int))
      (pss_cons (ps_set (i := 4) scPool.nd rfl (Or.inl rfl) (pe_op op_mod (pe_callTy call_int1 (by rfl) T.int (by decide +kernel) (pa_cons (pe_op op_mul (pv 4) pe_int) pa_nil)) pe_int))
      (pss_one (ps_ret (pe_lst (pa_cons (pe_op op_mul (pv 3) (pe_callTy call_int1 (by rfl) T.int (by decide +kernel) (pa_cons (pe_cmpR op_ge (pv 3) (pe_op op_pow pe_int pe_int) (nomark _)) pa_nil))) (pa_cons (pe_op op_mod (pe_callTy call_int1 (by rfl) T.int (by decide +kernel) (pa_cons (pe_op op_mul (pv 4) (pv 4)) pa_nil)) pe_int) pa_nil))))))))), ?_⟩
    have hcell : ∃ c : Int, Ev (tIf (tTest (tOp (rI0 fun i j => .bl (decide (i < j))) (tVar 1) (tCB (fun xs H Q => ∃ p ys, xs = [.ref p] ∧ (SqL K H p ys ∨ SqT K H p ys) ∧ Q (.int ys.length) H) (tCons (tVar 0) tNil)))) (tOp (rIxL K) (tVar 0) (tVar 1))
        (tOp (rI0 fun i j => .int (i + j)) (tOp (rI CMul fun i j => .int (i * j)) (tC (.int 7)) (tCB (rSum K) (tCons (tSl (rSlL K) (tVar 0) tNoPart (tPart (tC (.int 63)))) tNil))) (tVar 1))) [some (.ref a), some (.int k), none, none, none] H (.int c) := by
      by_cases hlt : k < ((ns.map V.int).length : Nat)
      · have hk : k.toNat < ns.length := by rw [List.length_map] at hlt; omega
        refine ⟨ns[k.toNat], ev_if (b := true) (et_test (ev_is (ev_op (ev_var rfl) (ev_lenS (ev_var rfl) hS) rv_I0) (by rw [decide_eq_true hlt]))) (fun _ => ev_op (ev_var rfl) (ev_var rfl) (rv_ixL hS ?_)) (fun z => nomatch z)⟩
        have ek : k = (k.toNat : Int) := by omega
        have q := atI_nat (xs := ns.map V.int) (j := k.toNat) (v := V.int ns[k.toNat]) (by simp [hk])
        rw [← ek] at q
        exact q
      · refine ⟨7 * (ns.take 63).sum + k, ev_if (b := false) (et_test (ev_is (ev_op (ev_var rfl) (ev_lenS (ev_var rfl) hS) rv_I0) (by rw [decide_eq_false hlt]))) (fun z => nomatch z) (fun _ => ev_op (ev_op ev_c (ev_sumNL (el_is (el_sl (lo := none) (hi := some ((63 : Nat) : Int)) (ev_var rfl) eo_none (eo_some ev_c) hS) ?_)) (rv_I (.inl ⟨by decide, by decide⟩))) (ev_var rfl) rv_I0)⟩
        rw [cutV_take, List.map_take]
    obtain ⟨c, hc⟩ := hcell
    refine q_asg hc fun H1 e1 => ?_
    refine q_asg (ev_abs (ev_var rfl)) fun H2 e2 => ?_
    have habs : (0 : Int) ≤ (if c < 0 then -c else c) := by split <;> omega
    revert habs
    generalize (if c < 0 then -c else c) = sz
    intro habs
    refine q_asg (ev_op (ev_op (ev_op (ev_op (ev_int (ev_var rfl)) ev_c (rv_I (by show (0 : Int) < 2147483629; decide))) (ev_op (ev_op ev_c (ev_var rfl) (rv_I (.inl ⟨by decide, by decide⟩))) (ev_var rfl) (rv_I (.inr ⟨by omega, by omega⟩))) rv_I0) (ev_op ev_c (ev_var rfl) (rv_I (.inl ⟨by decide, by decide⟩))) rv_I0) ev_c rv_I0) fun H3 e3 => ?_
    refine q_asg (ev_op (ev_int (ev_op (ev_var rfl) ev_c (rv_I (.inr ⟨by decide, by decide⟩)))) ev_c (rv_I (by show (0 : Int) < 2147483647; decide))) fun H4 e4 => ?_
    have hm1 := Int.emod_nonneg ((sz % 2147483629 + 7919 * k * k + 31 * k + 17) * 48271) (show (2147483647 : Int) ≠ 0 by decide)
    have hm2 := Int.emod_lt_of_pos ((sz % 2147483629 + 7919 * k * k + 31 * k + 17) * 48271) (show (0 : Int) < 2147483647 by decide)
    revert hm1 hm2
    generalize (sz % 2147483629 + 7919 * k * k + 31 * k + 17) * 48271 % 2147483647 = mx
    intro hm1 hm2
    refine s_retL (el_lst (ea_cons (ev_op (ev_var rfl) (ev_intB (ev_op (ev_var rfl) (ev_op ev_c ev_c (rv_I ⟨by decide, by decide, by decide⟩)) rv_I0)) (rv_I (.inr ⟨by split <;> decide, by split <;> decide⟩))) (ea_cons (ev_op (ev_int (ev_op (ev_var rfl) (ev_var rfl) (rv_I (.inl ⟨by omega, by omega⟩)))) ev_c (rv_I (by show (0 : Int) < 2147483629; decide))) ea_nil)) (by show 2 ≤ 100000; decide)) fun r H5 nr e5 hr5 => ?_
    refine kk r H5 (((e1.trans e2).trans (e3.trans e4)).trans e5) (fresh_back ((e1.trans e2).trans (e3.trans e4)) nr) ⟨_, _, hr5, ?_, Int.emod_nonneg _ (by decide), ?_⟩
    · split
      · omega
      · omega
    · have := Int.emod_lt_of_pos (mx * mx) (show (0 : Int) < 2147483629 by decide)
      omega
/-! ### draws -/
def spDraw : Sp := fun vs H Q _ => ∃ (a : Addr) (n : Int), vs = [.ref a, .int n] ∧ PoolAt H a ∧ 1 ≤ n ∧ n < 1000000000 ∧ ∀ (r : Int) H', Kd a H H' → PoolAt H' a → 0 ≤ r → r < n → Q (.int r) H'
theorem scDraw : FnScope ["_law_pool_here", "_law_many", "_law_found"] ["_law_pool_here", "_law_many"] (defScope sDraw) := ⟨rfl, rfl, rfl, by decide +kernel, rfl, by decide +kernel, by decide +kernel⟩
theorem ok_draw (T : Txt K mg) (D : DefAt K mg "_law_draw" sDraw ["_law_pool_here", "_law_many"]) : Callee P w K mg base 1 "_law_draw" ["_law_pool_here", "_law_many"] spDraw := by
  refine D.callee fun f fd F => F.ok scDraw (fun vs H Q E h => ?_) (fun cdv A outer s H vs Q E hr h => ?_)
  · obtain ⟨a, n, rfl, _⟩ := h
    rfl
  · obtain ⟨a, n, rfl, ⟨x, y, ha, hx, hy, hy2⟩, n1, n2, k⟩ := h
    refine ⟨_, (pss_cons (ps_if (pt_cmpR op_gt (pe_ix ix_list (pv 0) pe_int (fun _ _ => rfl)) pe_int (nomark _)) (pss_cons (ps_set (i := 2) scDraw.nd rfl (Or.inl rfl) (pe_op op_mod (pe_callTy call_int1 (by rfl) T.int (by decide +kernel) (pa_cons (pe_ix ix_list (pv 0) pe_int (fun _ _ => rfl)) pa_nil)) (pv 1)))
        (pss_cons (ps_asg (pe_op op_fdiv (pe_ix ix_list (pv 0) pe_int (fun _ _ => rfl)) (pv 1)) (pg_sub (pv 0) pe_int set_list))
        (pss_one (ps_ret (pv 2))))) pss_nil)
      (pss_cons (ps_asg (pe_op op_mod (pe_callTy call_int1 (by rfl) T.int (by decide +kernel) (pa_cons (pe_op op_add (pe_op op_mul (pe_ix ix_list (pv 0) pe_int (fun _ _ => rfl)) pe_int) pe_int) pa_nil)) pe_int) (pg_sub (pv 0) pe_int set_list))
      (pss_one (ps_ret (pe_op op_mod (pe_callTy call_int1 (by rfl) T.int (by decide +kernel) (pa_cons (pe_op op_fdiv (pe_op op_mod (pe_callTy call_int1 (by rfl) T.int (by decide +kernel) (pa_cons (pe_op op_mul (pe_ix ix_list (pv 0) pe_int (fun _ _ => rfl)) (pe_ix ix_list (pv 0) pe_int (fun _ _ => rfl))) pa_nil)) pe_int) pe_int) pa_nil)) (pv 1)))))), ?_⟩
    refine q_when (b := decide (0 < x)) (et_test (ev_op (ev_ixL (j := 0) (ev_var rfl) ev_c ha rfl) ev_c rv_I0)) (fun hc H1 e1 => ?_) (fun hc H1 e1 => ?_)
    · have ha1 := e1 _ _ ha
      refine q_asg (ev_op (ev_int (ev_ixL (j := 0) (ev_var rfl) ev_c ha1 rfl)) (ev_var rfl) (rv_I (by show (0 : Int) < n; omega))) fun H2 e2 => ?_
      have ha2 := e2 _ _ ha1
      refine q_setL (j := 0) ha2 (ev_op (ev_ixL (j := 0) (ev_var rfl) ev_c ha2 rfl) (ev_var rfl) (rv_I ⟨by show (0 : Int) < n; omega, by show n < 1073741824; omega⟩)) (ev_var rfl) ev_c (by show 0 < 2; decide) fun H3 e3 => ?_
      refine s_ret (ev_var rfl) fun H4 e4 => k _ H4 (((Kd.of ((e1.trans e2).trans e3)).trans (Kd.upd a _ _)).trans (Kd.of e4)) ⟨x / n, y, e4 _ _ upd_same, Int.ediv_nonneg hx (by omega), hy, hy2⟩ (Int.emod_nonneg _ (by omega)) (Int.emod_lt_of_pos _ (by omega))
    · have ha1 := e1 _ _ ha
      refine q_setL (j := 1) ha1 (ev_op (ev_int (ev_op (ev_op (ev_ixL (j := 1) (ev_var rfl) ev_c ha1 rfl) ev_c (rv_I (.inr ⟨by decide, by decide⟩))) ev_c rv_I0)) ev_c (rv_I (by show (0 : Int) < 2147483647; decide))) (ev_var rfl) ev_c (by show 1 < 2; decide) fun H2 e2 => ?_
      have hm1 := Int.emod_nonneg (y * 48271 + 11) (show (2147483647 : Int) ≠ 0 by decide)
      have hm2 := Int.emod_lt_of_pos (y * 48271 + 11) (show (0 : Int) < 2147483647 by decide)
      revert hm1 hm2
      generalize (y * 48271 + 11) % 2147483647 = y2
      intro hm1 hm2
      have h2 : (L2.upd H2 a (.lst ([V.int x, V.int y].set 1 (.int y2)))) a = some (.lst [.int x, .int y2]) := upd_same
      refine s_ret (ev_op (ev_int (ev_op (ev_op (ev_int (ev_op (ev_ixL (j := 1) (ev_var rfl) ev_c h2 rfl) (ev_ixL (j := 1) (ev_var rfl) ev_c h2 rfl) (rv_I (.inl ⟨by omega, by omega⟩)))) ev_c (rv_I (by show (0 : Int) < 2147483629; decide))) ev_c (rv_I ⟨by decide, by decide⟩))) (ev_var rfl) (rv_I (by show (0 : Int) < n; omega))) fun H3 e3 => ?_
      exact k _ H3 (((Kd.of (e1.trans e2)).trans (Kd.upd a _ _)).trans (Kd.of e3)) ⟨x, y2, e3 _ _ h2, hx, hm1, hm2⟩ (Int.emod_nonneg _ (by omega)) (Int.emod_lt_of_pos _ (by omega))
theorem draw_go {σ : L2.St} {H : Hp} {ta : TA} {a : Addr} {n : Int} {E : XK} {Q : VK} (h : EvA ta σ H [.ref a, .int n]) (hp : PoolAt H a) (n1 : 1 ≤ n) (n2 : n < 1000000000) (k : ∀ (r : Int) H', Kd a H H' → PoolAt H' a → 0 ≤ r → r < n → Q (.int r) H') : tCall spDraw [] E ta σ H Q :=
  h H (Ex.refl H) _ fun H1 e1 => ⟨a, n, rfl, hp.mono e1, n1, n2, fun r H' kd => k r H' ((Kd.of e1).trans kd)⟩
def spPick : Sp := fun vs H Q _ => ∃ (a l : Addr) (xs : List V), vs = [.ref a, .ref l] ∧ PoolAt H a ∧ H l = some (.lst xs) ∧ l ≠ a ∧ xs ≠ [] ∧ xs.length ≤ 1000 ∧ ∀ r H', Kd a H H' → PoolAt H' a → r ∈ xs → Q r H'
theorem scPick : FnScope ["_law_pool_here", "_law_row"] ["_law_pool_here", "_law_row"] (defScope sPick) := ⟨rfl, rfl, rfl, by decide +kernel, rfl, by decide +kernel, by decide +kernel⟩
theorem ok_pick (T : Txt K mg) (D : DefAt K mg "_law_pick" sPick ["_law_pool_here", "_law_row"]) (G : Callee P w K mg base 1 "_law_draw" ["_law_pool_here", "_law_many"] spDraw) : Callee P w K mg base 2 "_law_pick" ["_law_pool_here", "_law_row"] spPick := by
  obtain ⟨f1, fd1, F1, m1, k1, b1⟩ := G
  refine D.callee fun f fd F => F.ok scPick (fun vs H Q E h => ?_) (fun cdv A outer s H vs Q E hr h => ?_)
  · obtain ⟨a, l, xs, rfl, _⟩ := h
    rfl
  · obtain ⟨a, l, xs, rfl, hp, hl, hla, hne, hz, k⟩ := h
    have hpos := List.length_pos_iff.mpr hne
    refine ⟨_, (pss_one (ps_ret (pe_ix ix_list (pv 1) (pe_call F1 hr (by rfl) m1 k1 b1 .nil pass0 (pa_cons (pv 0) (pa_cons (pe_callB call_len_seq (by rfl) T.len (by decide +kernel) (pa_cons (pv 1) pa_nil)) pa_nil))) (fun _ _ => rfl)))), ?_⟩
    refine ⟨_, rfl, _, rfl, _, rfl, l, xs, rfl, .inl (SqL.of hl), a, _, rfl, hp, by omega, by omega, fun r H1 kd hp1 r0 r1 => ?_⟩
    have hr2 : r.toNat < xs.length := by omega
    have er : r = (r.toNat : Int) := by omega
    refine ⟨l, xs, r, xs[r.toNat], rfl, rfl, SqL.of (kd _ _ hla hl), ?_, k _ H1 kd hp1 (List.getElem_mem hr2)⟩
    have q := atI_nat (xs := xs) (j := r.toNat) (v := xs[r.toNat]) (by simp [hr2])
    rw [← er] at q
    exact q
theorem pick_go {σ : L2.St} {H : Hp} {ta : TA} {a l : Addr} {xs : List V} {E : XK} {Q : VK} (h : EvA ta σ H [.ref a, .ref l]) (hp : PoolAt H a) (hl : H l = some (.lst xs)) (hla : l ≠ a) (hne : xs ≠ []) (hz : xs.length ≤ 1000) (k : ∀ r H', Kd a H H' → PoolAt H' a → r ∈ xs → Q r H') : tCall spPick [] E ta σ H Q :=
  h H (Ex.refl H) _ fun H1 e1 => ⟨a, l, xs, rfl, hp.mono e1, e1 _ _ hl, hla, hne, hz, fun r H' kd => k r H' ((Kd.of e1).trans kd)⟩
/-- what a result changes, or None -/
def EntryA (H : Hp) (v : V) : Prop := v = .non ∨ ∃ b i j, v = .ref b ∧ H b = some (.tup [.int i, .int j])
theorem EntryA.mono {H H' : Hp} {v : V} (e : Tx H H') (h : EntryA H v) : EntryA H' v := by
  rcases h with h | ⟨b, i, j, h1, h2⟩
  · exact .inl h
  · exact .inr ⟨b, i, j, h1, e _ _ h2⟩
def spEntry : Sp := fun vs H Q _ => ∃ (a : Addr) (wd : Int), vs = [.ref a, .int wd] ∧ PoolAt H a ∧ 0 ≤ wd ∧ wd ≤ 9 ∧ ∀ r H', Kd a H H' → PoolAt H' a → EntryA H' r → Q r H'
theorem entry_go {σ : L2.St} {H : Hp} {ta : TA} {a : Addr} {n : Int} {E : XK} {Q : VK} (h : EvA ta σ H [.ref a, .int n]) (hp : PoolAt H a) (n1 : 0 ≤ n) (n2 : n ≤ 9) (k : ∀ r H', Kd a H H' → PoolAt H' a → EntryA H' r → Q r H') : tCall spEntry [] E ta σ H Q :=
  h H (Ex.refl H) _ fun H1 e1 => ⟨a, n, rfl, hp.mono e1, n1, n2, fun r H' kd => k r H' ((Kd.of e1).trans kd)⟩
theorem scEntry : FnScope ["_law_pool_here", "_law_wide"] ["_law_pool_here", "_law_wide"] (defScope sEntry) := ⟨rfl, rfl, rfl, by decide +kernel, rfl, by decide +kernel, by decide +kernel⟩
theorem ok_entry (T : Txt K mg) (D : DefAt K mg "_law_entry" sEntry ["_law_pool_here", "_law_wide"]) (G : Callee P w K mg base 1 "_law_draw" ["_law_pool_here", "_law_many"] spDraw) : Callee P w K mg base 2 "_law_entry" ["_law_pool_here", "_law_wide"] spEntry := by
  obtain ⟨f1, fd1, F1, m1, k1, b1⟩ := G
  refine D.callee fun f fd F => F.ok scEntry (fun vs H Q E h => ?_) (fun cdv A outer s H vs Q E hr h => ?_)
  · obtain ⟨a, wd, rfl, _⟩ := h
    rfl
  · obtain ⟨a, wd, rfl, hp, w0, w9, k⟩ := h
    refine ⟨_, (pss_cons (ps_if (pt_cmpR op_eq (pe_call F1 hr (by rfl) m1 k1 b1 .nil pass0 (pa_cons (pv 0) (pa_cons pe_int pa_nil))) pe_int (nomark _)) (pss_one (ps_ret pe_non)) pss_nil)
      (pss_one (ps_ret (pe_tup (pa_cons (pe_op op_sub (pe_call F1 hr (by rfl) m1 k1 b1 .nil pass0 (pa_cons (pv 0) (pa_cons (pe_op op_add (pe_op op_mul pe_int (pv 1)) pe_int) pa_nil))) (pv 1)) (pa_cons (pe_op op_sub (pe_call F1 hr (by rfl) m1 k1 b1 .nil pass0 (pa_cons (pv 0) (pa_cons (pe_op op_add (pe_op op_mul pe_int (pv 1)) pe_int) pa_nil))) (pv 1)) pa_nil)))))), ?_⟩
    refine draw_go (ea_cons (ev_var rfl) (ea_cons ev_c ea_nil)) hp (by decide) (by decide) fun r H1 kd1 hp1 r0 r1 => ⟨rfl, _, rfl, ?_⟩
    refine ite2 (fun _ => ?_) (fun _ => ?_)
    · exact k .non H1 kd1 hp1 (.inl rfl)
    · refine draw_go (n := 2 * wd + 1) (ea_cons (ev_var rfl) (ea_cons (ev_op (ev_op ev_c (ev_var rfl) (rv_I (.inl ⟨by decide, by decide⟩))) ev_c rv_I0) ea_nil)) hp1 (by omega) (by omega) fun r2 H2 kd2 hp2 _ _ => ⟨_, rfl, _, _, rfl, rfl, ?_⟩
      refine draw_go (n := 2 * wd + 1) (ea_cons (ev_var rfl) (ea_cons (ev_op (ev_op ev_c (ev_var rfl) (rv_I (.inl ⟨by decide, by decide⟩))) ev_c rv_I0) ea_nil)) hp2 (by omega) (by omega) fun r3 H3 kd3 hp3 _ _ => ⟨_, rfl, _, _, rfl, rfl, ?_⟩
      refine ⟨(by show 2 ≤ sizeLine; decide), fun b nb => ?_⟩
      have e4 : Ex H3 (L2.upd H3 b (.tup [.int (r2 - wd), .int (r3 - wd)])) := Ex.new nb
      exact k _ _ (((kd1.trans kd2).trans kd3).trans (Kd.of e4)) (hp3.mono e4) (.inr ⟨b, _, _, rfl, upd_same⟩)
end
end M10

namespace M10
open PySem PySem.Spec L2 Evl StX

/-! ### the law's books -/
abbrev kS (x : Str) : Key := Sum.inr x
def RowE (H : Hp) (r : V) (bd : Int) : Prop := ∃ a e1 e2 e3, r = .ref a ∧ H a = some (.tup [.int bd, e1, e2, e3]) ∧ EntryA H e1 ∧ EntryA H e2 ∧ EntryA H e3
theorem RowE.mono {H H' : Hp} {r : V} {bd : Int} (e : Tx H H') (h : RowE H r bd) : RowE H' r bd := let ⟨a, e1, e2, e3, h1, h2, h3, h4, h5⟩ := h; ⟨a, e1, e2, e3, h1, e _ _ h2, h3.mono e, h4.mono e, h5.mono e⟩
def TableAt (H : Hp) (tl : Addr) : Prop := ∃ r0 rs, H tl = some (.lst (r0 :: rs)) ∧ rs.length ≤ 10 ∧ RowE H r0 0 ∧ ∀ r ∈ r0 :: rs, ∃ bd, RowE H r bd
theorem TableAt.mono {H H' : Hp} {tl : Addr} (e : Ex H H') (h : TableAt H tl) : TableAt H' tl :=
  let ⟨r0, rs, h1, h2, h3, h4⟩ := h; ⟨r0, rs, e _ _ h1, h2, h3.mono (Tx.of e), fun r hr => let ⟨bd, q⟩ := h4 r hr; ⟨bd, q.mono (Tx.of e)⟩⟩
structure Bk where
  lo : Int
  hi : Int
  fr : Int
  ti : Int
  bo : Int
def Bk.last (b : Bk) : Int := if 0 < b.fr then b.fr else if 0 < b.bo then 1 else 0
structure BookOk (b : Bk) : Prop where
  lo0 : 0 ≤ b.lo
  lo2 : b.lo ≤ 2
  hi1 : b.lo < b.hi
  hi2 : b.hi ≤ b.lo + 2
  fr0 : 0 ≤ b.fr
  fr2 : b.fr ≤ 2
  ti1 : 1 ≤ b.ti
  ti3 : b.ti ≤ 3
  bo0 : 0 ≤ b.bo
  bo3 : b.bo ≤ 3
theorem BookOk.last (b : Bk) (h : BookOk b) : 0 ≤ b.last ∧ b.last ≤ 2 := by
  have h1 := h.fr0
  have h2 := h.fr2
  unfold Bk.last
  split
  · omega
  · split <;> omega
def BookAt (H : Hp) (d : Addr) (b : Bk) : Prop := ∃ kvs tl, H d = some (.dK kvs) ∧ valV kvs (kS "low") = some (.int b.lo) ∧ valV kvs (kS "high") = some (.int b.hi) ∧ valV kvs (kS "fresh") = some (.int b.fr) ∧ valV kvs (kS "times") = some (.int b.ti) ∧ valV kvs (kS "bonus") = some (.int b.bo) ∧
  valV kvs (kS "table") = some (.ref tl) ∧ TableAt H tl
theorem BookAt.mono {H H' : Hp} {d : Addr} {b : Bk} (e : Ex H H') (h : BookAt H d b) : BookAt H' d b :=
  let ⟨kvs, tl, h1, h2, h3, h4, h5, h6, h7, h8⟩ := h; ⟨kvs, tl, e _ _ h1, h2, h3, h4, h5, h6, h7, h8.mono e⟩
theorem ev_dk {σ : L2.St} {H : Hp} {td ty : TE} {d : Addr} {x : Str} {kvs : List (Key × V)} {v : V} (ha : Ev td σ H (.ref d)) (hb : Ev ty σ H (.str x)) (h : H d = some (.dK kvs)) (hv : valV kvs (kS x) = some v) : Ev (tDGet td ty) σ H v := fun H1 e Q q =>
  ha H1 e _ fun H2 e2 => hb H2 (e.trans e2) _ fun H3 e3 => ⟨d, v, rfl, by
    rw [← hv]
    exact DGet.k (k := kS x) (((e.trans e2).trans e3) _ _ h), q H3 (e2.trans e3)⟩
/-- [e for x in range(n)], e with effects -/
theorem lcR_by {σ : L2.St} {H : Hp} {ta : TA} {te : TE} {n : Int} {j : Nat} {vs : List Nat} {Q : VK} (h : EvA ta σ H [.int n]) (hn : 0 ≤ n ∧ n ≤ 40000) (hw : ∀ x, wipe ((wipe σ vs).set j (some x)) vs = wipe σ vs) (Pv : Hp → Addr → Nat → Hp → Prop)
    (h0 : ∀ H1 D, Ex H H1 → H1 D = none → Pv H1 D 0 (L2.upd H1 D (.lst [])))
    (hs : ∀ H1 D (i : Nat) H', Ex H H1 → H1 D = none → (i : Int) < n → Pv H1 D i H' → te ((wipe σ vs).set j (some (.int (i : Int)))) H' fun y H4 => ∃ acc, H4 D = some (.lst acc) ∧ acc.length < sizeLine ∧ Pv H1 D (i + 1) (L2.upd H4 D (.lst (acc ++ [y]))))
    (hd : ∀ H1 D H', Ex H H1 → H1 D = none → Pv H1 D n.toNat H' → Q (.ref D) H') : tLc (iRng1 ta) (gName j) tYes te vs σ H Q :=
  h H (Ex.refl H) _ fun H1 e1 => ⟨n, rfl, by omega, by omega, fun D nD => lc_range (lo := 0) (n := n.toNat) (Pv H1 D) (h0 H1 D e1 nD) (fun i H' hi p => by
    have e0 : ((0 : Int) + (i : Int)) = (i : Int) := Int.zero_add _
    refine ⟨hw _, tyes_go ?_⟩
    rw [e0]
    exact hs H1 D i H' e1 nD (by omega) p) (fun H' p => hd H1 D H' e1 nD p)⟩
/-- the places of a book: n ratings from lo on, m phases -/
def bookRow (r : Int) (m : Nat) : List Place := (List.range m).map fun j => [r, ((j : Nat) : Int)]
def bookPl (lo : Int) (n m : Nat) : List Place := (List.range n).flatMap fun i => bookRow (lo + (i : Nat)) m
theorem bookRow_snoc (r : Int) (m : Nat) : bookRow r (m + 1) = bookRow r m ++ [[r, (m : Nat)]] := by
  unfold bookRow
  rw [List.range_succ, List.map_append]
  rfl
theorem bookPl_snoc (lo : Int) (n m : Nat) : bookPl lo (n + 1) m = bookPl lo n m ++ bookRow (lo + (n : Nat)) m := by
  unfold bookPl
  rw [List.range_succ, List.flatMap_append]
  simp
theorem mem_bookRow {r : Int} {m : Nat} {p : Place} : p ∈ bookRow r m ↔ ∃ j : Nat, j < m ∧ p = [r, (j : Int)] := by
  unfold bookRow
  rw [List.mem_map]
  constructor
  · rintro ⟨j, hj, rfl⟩
    exact ⟨j, List.mem_range.mp hj, rfl⟩
  · rintro ⟨j, hj, rfl⟩
    exact ⟨j, List.mem_range.mpr hj, rfl⟩
theorem mem_bookPl {lo : Int} {n m : Nat} {p : Place} : p ∈ bookPl lo n m ↔ ∃ i j : Nat, i < n ∧ j < m ∧ p = [lo + (i : Nat), (j : Int)] := by
  unfold bookPl
  rw [List.mem_flatMap]
  constructor
  · rintro ⟨i, hi, hp⟩
    obtain ⟨j, hj, e⟩ := mem_bookRow.mp hp
    exact ⟨i, j, List.mem_range.mp hi, hj, e⟩
  · rintro ⟨i, j, hi, hj, e⟩
    exact ⟨i, List.mem_range.mpr hi, mem_bookRow.mpr ⟨j, hj, e⟩⟩
theorem lx_pair {a b c d : Int} (h : a < c ∨ (a = c ∧ b < d)) : lx [a, b] [c, d] = true := by
  show HT.lexLt [a, b] [c, d] = true
  rw [HT.lexLt_cons]
  rcases h with h | ⟨h, h'⟩
  · rw [if_neg (by omega)]
    exact decide_eq_true h
  · rw [if_pos h, HT.lexLt_cons, if_neg (by omega)]
    exact decide_eq_true h'
theorem bookRow_asc (r : Int) : ∀ m, Asc lx (bookRow r m)
  | 0 => .nil
  | m + 1 => by
    rw [bookRow_snoc]
    unfold Asc
    rw [List.pairwise_append]
    refine ⟨bookRow_asc r m, by simp, fun x hx y hy => ?_⟩
    obtain ⟨j, hj, rfl⟩ := mem_bookRow.mp hx
    rw [List.mem_singleton] at hy
    subst hy
    exact lx_pair (.inr ⟨rfl, by omega⟩)
theorem bookPl_asc (lo : Int) (m : Nat) : ∀ n, Asc lx (bookPl lo n m)
  | 0 => .nil
  | n + 1 => by
    rw [bookPl_snoc]
    unfold Asc
    rw [List.pairwise_append]
    refine ⟨bookPl_asc lo m n, bookRow_asc _ m, fun x hx y hy => ?_⟩
    obtain ⟨i, j, hi, hj, rfl⟩ := mem_bookPl.mp hx
    obtain ⟨k, hk, rfl⟩ := mem_bookRow.mp hy
    exact lx_pair (.inl (by omega))
theorem bookRow_len (r : Int) (m : Nat) : (bookRow r m).length = m := by simp [bookRow]
theorem bookPl_len (lo : Int) (m : Nat) : ∀ n, (bookPl lo n m).length = n * m
  | 0 => by simp [bookPl]
  | n + 1 => by rw [bookPl_snoc, List.length_append, bookPl_len lo m n, bookRow_len, Nat.succ_mul]
def Bk.places (b : Bk) : List Place := bookPl b.lo (b.hi + 1 - b.lo).toNat (b.last + 1).toNat
theorem mem_places {b : Bk} {r ph : Int} (h1 : b.lo ≤ r) (h2 : r ≤ b.hi) (h3 : 0 ≤ ph) (h4 : ph ≤ b.last) : [r, ph] ∈ b.places := by
  refine mem_bookPl.mpr ⟨(r - b.lo).toNat, ph.toNat, by omega, by omega, ?_⟩
  have e1 : b.lo + ((r - b.lo).toNat : Nat) = r := by omega
  have e2 : (ph.toNat : Int) = ph := by omega
  rw [e1, e2]
theorem of_places {b : Bk} {p : Place} (h : p ∈ b.places) : ∃ r ph : Int, p = [r, ph] ∧ b.lo ≤ r ∧ r ≤ b.hi ∧ 0 ≤ ph ∧ ph ≤ b.last := by
  obtain ⟨i, j, hi, hj, rfl⟩ := mem_bookPl.mp h
  exact ⟨_, _, rfl, by omega, by omega, by omega, by omega⟩
theorem places_len {b : Bk} (h : BookOk b) : b.places.length ≤ 9 ∧ 0 < b.places.length := by
  have h1 := h.hi1
  have h2 := h.hi2
  obtain ⟨h3, h4⟩ := h.last
  unfold Bk.places
  rw [bookPl_len]
  have a1 : (b.hi + 1 - b.lo).toNat = 2 ∨ (b.hi + 1 - b.lo).toNat = 3 := by omega
  have a2 : (b.last + 1).toNat = 1 ∨ (b.last + 1).toNat = 2 ∨ (b.last + 1).toNat = 3 := by omega
  rcases a1 with e | e <;> rcases a2 with e' | e' | e' <;> rw [e, e'] <;> decide

section
variable {K : PySem.W.Frag} {P : Program} {w : World} {mg : Str → Option Value} {base : Heap}
/-! ### _law_places -/
def spLPlaces : Sp := fun vs H Q _ => ∃ (d : Addr) (b : Bk), vs = [.ref d] ∧ BookAt H d b ∧ BookOk b ∧ ∀ r pvs H', Ex H H' → H r = none → H' r = some (.lst pvs) → Paired (PlA H') pvs b.places → Q (.ref r) H'
theorem scPlaces : FnScope ["_law_b", "_law_last", "_law_found", "_law_rating", "_law_phase"] ["_law_b"] (defScope sPlaces) := ⟨rfl, rfl, rfl, by decide +kernel, rfl, by decide +kernel, by decide +kernel⟩
theorem ok_lplaces (T : Txt K mg) (D : DefAt K mg "_law_places" sPlaces ["_law_b"]) : Callee P w K mg base 1 "_law_places" ["_law_b"] spLPlaces := by
  refine D.callee fun f fd F => F.ok scPlaces (fun vs H Q E h => ?_) (fun cdv A outer s H vs Q E hr h => ?_)
  · obtain ⟨d, b, rfl, _⟩ := h
    rfl
  · obtain ⟨d, b, rfl, ⟨kvs, tl, hd, v1, v2, v3, v4, v5, v6, htl⟩, ok, k⟩ := h
    refine ⟨_, (pss_cons (ps_set (i := 1) scPlaces.nd rfl (Or.inl rfl) (pe_ifExp (pt_cmpR op_gt (pe_dget (hu_of hr) (pv 0) pe_str (fun _ _ => rfl)) pe_int (nomark _)) (pe_dget (hu_of hr) (pv 0) pe_str (fun _ _ => rfl)) (pe_callTy call_int1 (by rfl) T.int (by decide +kernel) (pa_cons (pe_cmpR op_gt (pe_dget (hu_of hr) (pv 0) pe_str (fun _ _ => rfl)) pe_int (nomark _)) pa_nil))))
      (pss_cons (ps_set (i := 2) scPlaces.nd rfl (Or.inl rfl) (pe_lst pa_nil))
      (pss_cons (ps_for PassesOwn.never rfl (pi_range2 (by rfl) T.range (pa_cons (pe_dget (hu_of hr) (pv 0) pe_str (fun _ _ => rfl)) (pa_cons (pe_op op_add (pe_dget (hu_of hr) (pv 0) pe_str (fun _ _ => rfl)) pe_int) pa_nil))) (pg_name (i := 3) scPlaces.nd rfl (Or.inr rfl))
        (pss_one (ps_set (i := 2) scPlaces.nd rfl (Or.inl rfl) (pe_op op_cat (pv 2) (pe_lc (own := [("_law_phase", 4)]) (g := gName 4) (tt := tYes) (by rfl) scPlaces.nd (pi_range1 (by rfl) T.range (pa_cons (pe_op op_add (pv 1) pe_int) pa_nil)) (blkOk_by (own := [("_law_phase", 4)]) (N := ["_law_b", "_law_last", "_law_found", "_law_rating", "_law_phase"]) (sc := defScope sPlaces) (by decide +kernel)) (fun _ _ _ _ _ => pg_name (i := 4) scPlaces.nd rfl (Or.inl rfl)) (fun _ _ _ _ _ => pts_nil) (fun _ _ _ _ _ => (pe_tup (pa_cons (pv 3) (pa_cons (pv 4) pa_nil)))))))))
      (pss_one (ps_ret (pv 2)))))), ?_⟩
    have hlast := ok.last
    have hl0 := ok.lo0
    have hl2 := ok.lo2
    have hh1 := ok.hi1
    have hh2 := ok.hi2
    refine q_asg (v := .int b.last) (ev_if (b := decide (0 < b.fr)) (et_test (ev_op (ev_dk (ev_var rfl) ev_c hd v3) ev_c rv_I0)) (fun hc => ev_is (ev_dk (ev_var rfl) ev_c hd v3) ?_) (fun hc => ev_is (ev_intB (ev_op (ev_dk (ev_var rfl) ev_c hd v5) ev_c rv_I0)) ?_)) fun H1 e1 => ?_
    · unfold Bk.last
      rw [if_pos (of_decide_eq_true hc)]
    · unfold Bk.last
      rw [if_neg (of_decide_eq_false hc)]
      by_cases hb : 0 < b.bo
      · simp [hb]
      · simp [hb]
    · refine q_asgL (el_lst ea_nil (by decide)) fun fl H2 nf e2 hf => ?_
      have e12 := e1.trans e2
      refine q_forR2 (lo := b.lo) (n := b.hi + 1) (ea_cons (ev_dk (ev_var rfl) ev_c (e12 _ _ hd) v1) (ea_cons (ev_op (ev_dk (ev_var rfl) ev_c (e12 _ _ hd) v2) ev_c rv_I0) ea_nil)) ⟨by omega, by omega, by omega, by omega⟩
        (fun i σ' H' => ∃ (r : Addr) (pvs : List V) (c : Option V), σ' = [some (.ref d), some (.int b.last), some (.ref r), c, none] ∧ Ex H H' ∧ H r = none ∧ H' r = some (.lst pvs) ∧ Paired (PlA H') pvs (bookPl b.lo i (b.last + 1).toNat)) (fun H3 e3 => ⟨fl, [], none, rfl, e12.trans e3, fresh_back e1 nf, e3 _ _ hf, .nil⟩) ?_ ?_
      · rintro i σ' H' hi ⟨r, pvs, c, rfl, e, nr, hr', hp⟩
        refine ⟨_, rfl, ?_⟩
        have hlp : pvs.length ≤ 9 := by
          rw [pairedLen hp, bookPl_len]
          have a1 : i ≤ 2 := by omega
          have a2 : (b.last + 1).toNat ≤ 3 := by omega
          exact Nat.le_trans (Nat.mul_le_mul a1 a2) (by decide)
        refine lcR_by (n := b.last + 1) (ea_cons (ev_op (ev_var rfl) ev_c rv_I0) ea_nil) ⟨by omega, by omega⟩ (fun _ => rfl) (fun H3 L j H4 => Ex H3 H4 ∧ ∃ ws, H4 L = some (.lst ws) ∧ Paired (PlA H4) ws (bookRow (b.lo + (i : Nat)) j)) (fun H3 L e3 nL => ⟨Ex.new nL, [], upd_same, .nil⟩) ?_ ?_
        · rintro H3 L j H4 e3 nL hj ⟨e4, ws, hL, hws⟩
          refine ⟨_, rfl, _, rfl, (by show 2 ≤ sizeLine; decide), fun t nt => ?_⟩
          have nLt : L ≠ t := ne_of_none hL nt
          have et : Ex H4 (L2.upd H4 t (.tup [.int (b.lo + (i : Nat)), .int (j : Nat)])) := Ex.new nt
          have hwl := pairedLen hws
          rw [bookRow_len] at hwl
          refine ⟨ws, et _ _ hL, sz_lt (by omega), Ex.mut (e4.trans et) nL, ws ++ [.ref t], upd_same, ?_⟩
          have tx := (Tx.of et).trans (Tx.lst (o := .lst (ws ++ [.ref t])) (et _ _ hL))
          rw [bookRow_snoc]
          refine pairedApp (plsMono tx hws) (.cons ⟨t, rfl, ?_⟩ .nil)
          rw [upd_ne nLt.symm, upd_same]
          rfl
        · rintro H3 L H4 e3 nL ⟨e4, ws, hL, hws⟩
          have hwl := pairedLen hws
          rw [bookRow_len] at hwl
          refine ⟨r, L, pvs, ws, rfl, rfl, (e3.trans e4) _ _ hr', hL, sz_of (by omega), fun q nq => ?_⟩
          have eq : Ex H4 (L2.upd H4 q (.lst (pvs ++ ws))) := Ex.new nq
          have e04 := (e.trans e3).trans e4
          refine ⟨q, pvs ++ ws, _, rfl, e04.trans eq, fresh_back e04 nq, upd_same, ?_⟩
          rw [bookPl_snoc]
          exact pairedApp (plsMono (Tx.of ((e3.trans e4).trans eq)) hp) (plsMono (Tx.of eq) hws)
      · rintro σ' H' ⟨r, pvs, c, rfl, e, nr, hr', hp⟩
        exact s_ret (ev_var rfl) fun H3 e3 => k r pvs H3 (e.trans e3) nr (e3 _ _ hr') (plsMono (Tx.of e3) hp)
/-! ### _law_moved -/
theorem s_par {i j : Nat} {ta : TA} {D : Ends} {σ : L2.St} {H : Hp} {v u : V} (h : EvA ta σ H [v, u]) (k : ∀ H1, Ex H H1 → D.nx ((σ.set i (some v)).set j (some u)) H1) : tPar i j ta D σ H := h H (Ex.refl H) _ fun H1 e => ⟨v, u, rfl, k H1 e⟩
def spMoved : Sp := fun vs H Q _ => ∃ (d : Addr) (x : V) (c : Int) (won : Bool) (b : Bk) (r ph : Int), vs = [.ref d, x, .int c, .bl won] ∧ BookAt H d b ∧ BookOk b ∧ PlA H x [r, ph] ∧ 0 ≤ ph ∧ ph ≤ b.last ∧
  ∀ u q H', Ex H H' → PlA H' u q → q ∈ b.places → Q u H'
theorem scMoved : FnScope ["_law_b", "_law_place", "_law_change", "_law_won", "_law_rating", "_law_phase"] ["_law_b", "_law_place", "_law_change", "_law_won"] (defScope sMoved) := ⟨rfl, rfl, rfl, by decide +kernel, rfl, by decide +kernel, by decide +kernel⟩
theorem ok_moved (T : Txt K mg) (D : DefAt K mg "_law_moved" sMoved ["_law_b", "_law_place", "_law_change", "_law_won"]) : Callee P w K mg base 1 "_law_moved" ["_law_b", "_law_place", "_law_change", "_law_won"] spMoved := by
  refine D.callee fun f fd F => F.ok scMoved (fun vs H Q E h => ?_) (fun cdv A outer s H vs Q E hr h => ?_)
  · obtain ⟨d, x, c, won, b, r, ph, rfl, _⟩ := h
    rfl
  · obtain ⟨d, x, c, won, b, r, ph, rfl, hb, ok, ⟨a, rfl, ha⟩, p0, p1, k⟩ := h
    obtain ⟨kvs, tl, hd, v1, v2, v3, v4, v5, v6, htl⟩ := hb
    have hlast := ok.last
    have hl0 := ok.lo0
    have hh1 := ok.hi1
    refine ⟨_, (pss_cons (ps_asg (pv 1) (pg_tup rfl (pgs_cons (pg_name (i := 4) scMoved.nd rfl (Or.inl rfl)) (pgs_cons (pg_name (i := 5) scMoved.nd rfl (Or.inl rfl)) pgs_nil))))
      (pss_cut (ps_if (PW.pt (pw_and (pt_cmpR op_gt (pe_dget (hu_of hr) (pv 0) pe_str (fun _ _ => rfl)) pe_int (nomark _)) (pw_and1 (pt_cmpR op_gt (pv 5) pe_int (nomark _))))) (pss_one (ps_par (i := 4) (j := 5) rfl scMoved.nd rfl rfl (by decide) rfl rfl (pa_cons (pe_op op_add (pv 4) (pe_op op_mul (pv 2) (pe_dget (hu_of hr) (pv 0) pe_str (fun _ _ => rfl)))) (pa_cons (pe_op op_sub (pv 5) pe_int) pa_nil)) (by rfl))) (pss_one (ps_if (pt_cmpR op_gt (pe_dget (hu_of hr) (pv 0) pe_str (fun _ _ => rfl)) pe_int (nomark _)) (pss_one (ps_set (i := 4) scMoved.nd rfl (Or.inl rfl) (pe_op op_add (pv 4) (pv 2)))) (pss_cons (ps_set (i := 4) scMoved.nd rfl (Or.inl rfl) (pe_op op_add (pe_op op_add (pv 4) (pv 2)) (pe_op op_mul (pe_dget (hu_of hr) (pv 0) pe_str (fun _ _ => rfl)) (pe_callTy call_int1 (by rfl) T.int (by decide +kernel) (pa_cons (pe_and (pv 3) (pe_one (pe_cmpR op_eq (pv 5) pe_int (nomark _)))) pa_nil)))))
          (pss_one (ps_set (i := 5) scMoved.nd rfl (Or.inl rfl) (pe_callTy call_int1 (by rfl) T.int (by decide +kernel) (pa_cons (pe_and (pv 3) (pe_one (pe_cmpR op_gt (pe_dget (hu_of hr) (pv 0) pe_str (fun _ _ => rfl)) pe_int (nomark _)))) pa_nil))))))))
      (pss_cut (ps_if (pt_cmpR op_lt (pv 4) (pe_dget (hu_of hr) (pv 0) pe_str (fun _ _ => rfl)) (nomark _)) (pss_one (ps_set (i := 4) scMoved.nd rfl (Or.inl rfl) (pe_dget (hu_of hr) (pv 0) pe_str (fun _ _ => rfl)))) pss_nil)
      (pss_one (ps_ret (pe_tup (pa_cons (pe_ifExp (pt_cmpR op_gt (pv 4) (pe_dget (hu_of hr) (pv 0) pe_str (fun _ _ => rfl)) (nomark _)) (pe_dget (hu_of hr) (pv 0) pe_str (fun _ _ => rfl)) (pv 4)) (pa_cons (pv 5) pa_nil)))))))), ?_⟩
    refine ⟨_, rfl, a, _, rfl, SqT.of ha, rfl, _, _, rfl, _, _, rfl, rfl, ?_⟩
    refine ⟨fun σ' H' => ∃ r1 ph1 : Int, σ' = [some (.ref d), some (.ref a), some (.int c), some (.bl won), some (.int r1), some (.int ph1)] ∧ Ex H H' ∧ 0 ≤ ph1 ∧ ph1 ≤ b.last, ?_, ?_⟩
    · refine s_if (b := decide (0 < b.fr) && decide (0 < ph)) (et_and (et_test (ev_op (ev_dk (ev_var rfl) ev_c hd v3) ev_c rv_I0)) fun _ => et_test (ev_op (ev_var rfl) ev_c rv_I0)) (fun hc H1 e1 => ?_) (fun hc H1 e1 => ?_)
      · obtain ⟨c1, c2⟩ := Bool.and_eq_true_iff.mp hc
        have c2' := of_decide_eq_true c2
        exact s_par (ea_cons (ev_op (ev_var rfl) (ev_op (ev_var rfl) (ev_dk (ev_var rfl) ev_c (e1 _ _ hd) v4) (rv_I (.inr ⟨by have := ok.ti1; omega, by have := ok.ti3; omega⟩))) rv_I0) (ea_cons (ev_op (ev_var rfl) ev_c rv_I0) ea_nil)) fun H2 e2 => ⟨_, _, rfl, e1.trans e2, by omega, by omega⟩
      · refine s_if (b := decide (0 < b.fr)) (et_test (ev_op (ev_dk (ev_var rfl) ev_c (e1 _ _ hd) v3) ev_c rv_I0)) (fun hc2 H2 e2 => ?_) (fun hc2 H2 e2 => ?_)
        · exact s_asg (ev_op (ev_var rfl) (ev_var rfl) rv_I0) fun H3 e3 => ⟨_, _, rfl, (e1.trans e2).trans e3, p0, p1⟩
        · have c2' := of_decide_eq_false hc2
          have e12 := e1.trans e2
          refine q_asg (ev_op (ev_op (ev_var rfl) (ev_var rfl) rv_I0) (ev_op (ev_dk (ev_var rfl) ev_c (e12 _ _ hd) v5) (ev_intB (ev_andV (b := decide (ph = 1)) (ev_var rfl) fun _ => ev_is (ev_op (ev_var rfl) ev_c (rv_eq rfl)) (by rw [dec_int, Bool.beq_eq_decide_eq]))) (rv_I (.inl ⟨by have := ok.bo0; omega, by have := ok.bo3; omega⟩))) rv_I0) fun H3 e3 => ?_
          refine s_asg (ev_intB (ev_andV (b := decide (0 < b.bo)) (ev_var rfl) fun _ => ev_op (ev_dk (ev_var rfl) ev_c ((e12.trans e3) _ _ hd) v5) ev_c rv_I0)) fun H4 e4 => ⟨_, _, rfl, (e12.trans e3).trans e4, by split <;> decide, ?_⟩
          unfold Bk.last
          rw [if_neg c2']
          by_cases hbo : 0 < b.bo
          · rw [if_pos hbo]
            split <;> decide
          · rw [if_neg hbo, decide_eq_false hbo, Bool.and_false]
            decide
    · rintro σ' H' ⟨r1, ph1, rfl, e, q0, q1⟩
      have hd' := e _ _ hd
      refine ⟨fun σ'' H2 => ∃ r2 : Int, σ'' = [some (.ref d), some (.ref a), some (.int c), some (.bl won), some (.int r2), some (.int ph1)] ∧ Ex H H2 ∧ b.lo ≤ r2, ?_, ?_⟩
      · refine s_when (b := decide (r1 < b.lo)) (et_test (ev_op (ev_var rfl) (ev_dk (ev_var rfl) ev_c hd' v1) rv_I0)) (fun hc H2 e2 => ?_) (fun hc H2 e2 => ?_)
        · exact s_asg (ev_dk (ev_var rfl) ev_c (e2 _ _ hd') v1) fun H3 e3 => ⟨_, rfl, (e.trans e2).trans e3, Int.le_refl _⟩
        · have := of_decide_eq_false hc
          exact ⟨r1, rfl, e.trans e2, by omega⟩
      · rintro σ'' H2 ⟨r2, rfl, e2, hr2⟩
        have hd2 := e2 _ _ hd
        refine s_retU (eu_tup (ea_cons (ev_if (b := decide (b.hi < r2)) (v := .int (if b.hi < r2 then b.hi else r2)) (et_test (ev_op (ev_var rfl) (ev_dk (ev_var rfl) ev_c hd2 v2) rv_I0)) (fun hc => ev_is (ev_dk (ev_var rfl) ev_c hd2 v2) ?_) (fun hc => ev_is (ev_var rfl) ?_)) (ea_cons (ev_var rfl) ea_nil)) (by show 2 ≤ 100000; decide)) fun u H3 nu e3 hu => ?_
        · rw [if_pos (of_decide_eq_true hc)]
        · rw [if_neg (of_decide_eq_false hc)]
        · refine k _ [if b.hi < r2 then b.hi else r2, ph1] H3 (e2.trans e3) ⟨u, rfl, hu⟩ (mem_places ?_ ?_ q0 q1)
          · split <;> omega
          · split <;> omega
end
end M10

namespace M10
open PySem PySem.Spec L2 Evl StX

section
variable {K : PySem.W.Frag} {P : Program} {w : World} {mg : Str → Option Value} {base : Heap}
/-! ### _law_game -/
theorem moved_go {σ : L2.St} {H : Hp} {ta : TA} {d : Addr} {x : V} {c : Int} {won : Bool} {b : Bk} {r ph : Int} {E : XK} {Q : VK} (h : EvA ta σ H [.ref d, x, .int c, .bl won]) (hb : BookAt H d b) (ok : BookOk b) (hx : PlA H x [r, ph]) (p0 : 0 ≤ ph) (p1 : ph ≤ b.last)
    (k : ∀ u q H', Ex H H' → PlA H' u q → q ∈ b.places → Q u H') : tCall spMoved [] E ta σ H Q :=
  h H (Ex.refl H) _ fun H1 e1 => ⟨d, x, c, won, b, r, ph, rfl, hb.mono e1, ok, hx.mono (Tx.of e1), p0, p1, fun u q H' e => k u q H' (e1.trans e)⟩
def GameA (b : Bk) (H : Hp) (u : V) : Prop := u = .non ∨ ∃ a x y p q, u = .ref a ∧ H a = some (.tup [x, y]) ∧ PlA H x p ∧ PlA H y q ∧ p ∈ b.places ∧ q ∈ b.places
def isRes (x : Str) : Prop := x = "upper" ∨ x = "draw" ∨ x = "lower"
def spGame : Sp := fun vs H Q _ => ∃ (d : Addr) (x y : V) (res : Str) (b : Bk) (r1 p1 r2 p2 : Int), vs = [.ref d, x, y, .str res] ∧ BookAt H d b ∧ BookOk b ∧ PlA H x [r1, p1] ∧ PlA H y [r2, p2] ∧ r2 ≤ r1 ∧ 0 ≤ p1 ∧ p1 ≤ b.last ∧ 0 ≤ p2 ∧ p2 ≤ b.last ∧ isRes res ∧
  ∀ u H', Ex H H' → GameA b H' u → Q u H'
theorem scGame : FnScope ["_law_b", "_law_upper", "_law_lower", "_law_result", "_law_row", "_law_one", "_law_entry_here"] ["_law_b", "_law_upper", "_law_lower", "_law_result"] (defScope sGame) := ⟨rfl, rfl, rfl, by decide +kernel, rfl, by decide +kernel, by decide +kernel⟩
theorem ev_index {σ : L2.St} {H : Hp} {ta : TE} {res : Str} (ha : Ev ta σ H (.str res)) (hr : isRes res) : ∃ j : Nat, j < 3 ∧ Ev (tBM K "list" (rIndex K) (tLst (tCons (tC (.str "upper")) (tCons (tC (.str "draw")) (tCons (tC (.str "lower")) tNil)))) (tCons ta tNil)) σ H (.int (j : Int)) := by
  have main : ∀ j : Nat, j < 3 → ([V.str "upper", V.str "draw", V.str "lower"] : List V)[j]? = some (V.str res) → (∀ (m : Nat) (z' : V), m < j → ([V.str "upper", V.str "draw", V.str "lower"] : List V)[m]? = some z' → eqV z' (V.str res) = false) →
      ∃ j : Nat, j < 3 ∧ Ev (tBM K "list" (rIndex K) (tLst (tCons (tC (.str "upper")) (tCons (tC (.str "draw")) (tCons (tC (.str "lower")) tNil)))) (tCons ta tNil)) σ H (.int (j : Int)) := fun j hj h1 h2 =>
    ⟨j, hj, fun H1 e Q q => ⟨(by show 3 ≤ sizeLine; decide), fun l nl => ⟨.inl ⟨rfl, _, SqL.of upd_same⟩, ha _ (e.trans (Ex.new nl)) _ fun H2 e2 => ⟨l, _, .str res, j, .str res, rfl, rfl, SqL.of (e2 _ _ upd_same), rfl, rfl, h1, (by simp [eqV]), h2, q H2 ((Ex.new nl).trans e2)⟩⟩⟩⟩
  rcases hr with rfl | rfl | rfl
  · exact main 0 (by decide) rfl fun m z' hm => absurd hm (Nat.not_lt_zero _)
  · refine main 1 (by decide) rfl fun m z' hm hz => ?_
    have e : m = 0 := by omega
    subst e
    cases hz
    decide +kernel
  · refine main 2 (by decide) rfl fun m z' hm hz => ?_
    have e : m = 0 ∨ m = 1 := by omega
    rcases e with rfl | rfl
    · cases hz
      decide +kernel
    · cases hz
      decide +kernel
theorem ok_game (T : Txt K mg) (D : DefAt K mg "_law_game" sGame ["_law_b", "_law_upper", "_law_lower", "_law_result"]) (G : Callee P w K mg base 1 "_law_moved" ["_law_b", "_law_place", "_law_change", "_law_won"] spMoved) : Callee P w K mg base 2 "_law_game" ["_law_b", "_law_upper", "_law_lower", "_law_result"] spGame := by
  obtain ⟨f1, fd1, F1, m1, k1, b1⟩ := G
  refine D.callee fun f fd F => F.ok scGame (fun vs H Q E h => ?_) (fun cdv A outer s H vs Q E hr h => ?_)
  · obtain ⟨d, x, y, res, b, r1, p1, r2, p2, rfl, _⟩ := h
    rfl
  · obtain ⟨d, x, y, res, b, r1, p1, r2, p2, rfl, hb, ok, ⟨xa, rfl, hx⟩, ⟨ya, rfl, hy⟩, hle, q1, q2, q3, q4, hres, k⟩ := h
    refine ⟨_, (pss_cons (ps_set (i := 4) scGame.nd rfl (Or.inl rfl) pe_non)
      (pss_cons (ps_for PassesOwn.never rfl (pi_list (pe_dget (hu_of hr) (pv 0) pe_str (fun _ _ => rfl))) (pg_name (i := 5) scGame.nd rfl (Or.inl rfl))
        (pss_one (ps_if (pt_cmpR op_le (pe_ix ix_tup (pv 5) pe_int (fun _ _ => rfl)) (pe_op op_sub (pe_ix ix_tup (pv 1) pe_int (fun _ _ => rfl)) (pe_ix ix_tup (pv 2) pe_int (fun _ _ => rfl))) (nomark _)) (pss_one (ps_set (i := 4) scGame.nd rfl (Or.inl rfl) (pv 5))) pss_nil)))
      (pss_cons (ps_set (i := 6) scGame.nd rfl (Or.inl rfl) (pe_ix ix_tup (pv 4) (pe_op op_add pe_int (pe_bm PySem.F.plainAttrs_list PySem.F.slot_list_index PySem.F.type_list_index mt_index (pe_lst (pa_cons pe_str (pa_cons pe_str (pa_cons pe_str pa_nil)))) (pa_cons (pv 3) pa_nil))) (fun _ _ => rfl)))
      (pss_cons (ps_if (pt_cmpR op_isN (pv 6) pe_non (nomark _)) (pss_one (ps_ret pe_non)) pss_nil)
      (pss_one (ps_ret (pe_tup (pa_cons (pe_call F1 hr (by rfl) m1 k1 b1 .nil pass0 (pa_cons (pv 0) (pa_cons (pv 1) (pa_cons (pe_ix ix_tup (pv 6) pe_int (fun _ _ => rfl)) (pa_cons (pe_cmpR op_eq (pv 3) pe_str (nomark _)) pa_nil))))) (pa_cons (pe_call F1 hr (by rfl) m1 k1 b1 .nil pass0 (pa_cons (pv 0) (pa_cons (pv 2) (pa_cons (pe_ix ix_tup (pv 6) pe_int (fun _ _ => rfl)) (pa_cons (pe_cmpR op_eq (pv 3) pe_str (nomark _)) pa_nil))))) pa_nil))))))))), ?_⟩
    have hb0 := hb
    obtain ⟨kvs, tl, hd, v1, v2, v3, v4, v5, v6, r0, rs, htl, hrl, hr0, hrs⟩ := hb
    refine q_asg ev_c fun H1 e1 => ?_
    refine q_forLn (ev_dk (ev_var rfl) ev_c (e1 _ _ hd) v6) (SqL.of (e1 _ _ htl)) (fun i σ' H' => ∃ (c : V) (e : Option V), σ' = [some (.ref d), some (.ref xa), some (.ref ya), some (.str res), some c, e, none] ∧ Ex H H' ∧ (0 < i → ∃ bd, RowE H' c bd))
      (fun H2 e2 => ⟨.non, none, rfl, e1.trans e2, fun z => absurd z (Nat.not_lt_zero _)⟩) (fun i σ' H' _ ⟨_, _, _, e, _⟩ => SqL.of (e _ _ htl)) ?_ ?_
    · rintro i u σ' H' hi ⟨c, e, rfl, ex, hc⟩
      obtain ⟨bd, hrow⟩ := hrs u (List.mem_of_getElem? hi)
      have hrow' := hrow.mono (Tx.of ex)
      obtain ⟨ua, e1', e2', e3', rfl, hua, _⟩ := id hrow'
      refine s_when (b := decide (bd ≤ r1 - r2)) (et_test (ev_op (ev_ixT (j := 0) (ev_var rfl) ev_c hua rfl) (ev_op (ev_ixT (j := 0) (ev_var rfl) ev_c (ex _ _ hx) rfl) (ev_ixT (j := 0) (ev_var rfl) ev_c (ex _ _ hy) rfl) rv_I0) rv_I0)) (fun hc1 H2 e2 => ?_) (fun hc1 H2 e2 => ?_)
      · exact s_asg (ev_var rfl) fun H3 e3 => ⟨_, _, rfl, (ex.trans e2).trans e3, fun _ => ⟨bd, hrow'.mono (Tx.of (e2.trans e3))⟩⟩
      · refine ⟨c, _, rfl, ex.trans e2, fun _ => ?_⟩
        rcases Nat.eq_zero_or_pos i with h0 | h0
        · exfalso
          subst h0
          have e0 : r0 = .ref ua := by simpa using hi
          subst e0
          obtain ⟨za, z1, z2, z3, ez, hz, _⟩ := hr0
          cases ez
          have hz' := ex _ _ hz
          rw [hua] at hz'
          have hz2 := Option.some.inj hz'
          injection hz2 with hz3
          have hz4 : V.int bd = V.int 0 := (List.cons.inj hz3).1
          injection hz4 with hz5
          have := of_decide_eq_false hc1
          omega
        · obtain ⟨bd', q⟩ := hc h0
          exact ⟨bd', q.mono (Tx.of e2)⟩
    · rintro σ' H' ⟨c, e, rfl, ex, hc⟩
      obtain ⟨bd, ca, n1, n2, n3, rfl, hca, hn1, hn2, hn3⟩ := hc (Nat.succ_pos _)
      obtain ⟨j, hj, hev⟩ := ev_index (K := K) (σ := [some (.ref d), some (.ref xa), some (.ref ya), some (.str res), some (.ref ca), e, none]) (H := H') (ta := tVar 3) (ev_var rfl) hres
      have hent : ∃ en, ([.int bd, n1, n2, n3] : List V)[1 + j]? = some en ∧ EntryA H' en := by
        have e3 : j = 0 ∨ j = 1 ∨ j = 2 := by omega
        rcases e3 with rfl | rfl | rfl
        · exact ⟨n1, rfl, hn1⟩
        · exact ⟨n2, rfl, hn2⟩
        · exact ⟨n3, rfl, hn3⟩
      obtain ⟨en, hen, hEn⟩ := hent
      refine q_asg (v := en) (ev_ixT (j := 1 + j) (ev_var rfl) (ev_is (ev_op ev_c hev rv_I0) (by congr 1)) hca hen) fun H2 e2 => ?_
      have ex2 := ex.trans e2
      rcases hEn.mono (Tx.of e2) with rfl | ⟨ea, i1, i2, rfl, hea⟩
      · refine q_when (b := true) (et_test (ev_is (ev_isN (x := .non) (ev_var rfl)) rfl)) (fun _ H3 e3 => s_ret ev_c fun H4 e4 => k .non H4 ((ex2.trans e3).trans e4) (.inl rfl)) (fun z => nomatch z)
      · refine q_skip (et_test (ev_is (ev_isN (x := .ref ea) (ev_var rfl)) rfl)) fun H3 e3 => ?_
        have ex3 := ex2.trans e3
        refine moved_go (ea_cons (ev_var rfl) (ea_cons (ev_var rfl) (ea_cons (ev_ixT (j := 0) (ev_var rfl) ev_c (e3 _ _ hea) rfl) (ea_cons (ev_op (ev_var rfl) ev_c (rv_eq rfl)) ea_nil)))) (hb0.mono ex3) ok ⟨xa, rfl, ex3 _ _ hx⟩ q1 q2 fun u1 w1 H4 e4 hu1 hw1 => ?_
        have ex4 := ex3.trans e4
        refine moved_go (ea_cons (ev_var rfl) (ea_cons (ev_var rfl) (ea_cons (ev_ixT (j := 1) (ev_var rfl) ev_c ((e3.trans e4) _ _ hea) rfl) (ea_cons (ev_op (ev_var rfl) ev_c (rv_eq rfl)) ea_nil)))) (hb0.mono ex4) ok ⟨ya, rfl, ex4 _ _ hy⟩ q3 q4 fun u2 w2 H5 e5 hu2 hw2 => ?_
        refine ⟨(by show 2 ≤ sizeLine; decide), fun t nt => ?_⟩
        have et : Ex H5 (L2.upd H5 t (.tup [u1, u2])) := Ex.new nt
        exact k _ _ ((ex4.trans e5).trans et) (.inr ⟨t, u1, u2, w1, w2, rfl, upd_same, hu1.mono (Tx.of (e5.trans et)), hu2.mono (Tx.of et), hw1, hw2⟩)
/-! ### _law_moves -/
theorem ev_notN {σ : L2.St} {H : Hp} {ta : TE} {x : V} (ha : Ev ta σ H x) : Ev (tOp (fun x y H Q => y = .non ∧ Q (.bl (!decide (x = .non))) H) ta (tC .non)) σ H (.bl (!decide (x = .non))) :=
  ev_op ha ev_c fun H1 e Q q => ⟨rfl, q H1 (Ex.refl H1)⟩
/-- the moves that are found so far, at most n -/
def FoundM (H0 : Hp) (ps : List Place) (n : Nat) (fl : Addr) (H : Hp) : Prop := H0 fl = none ∧ ∃ mvs ms, H fl = some (.lst mvs) ∧ Paired (MvA H) mvs ms ∧ ms.length ≤ n ∧ ∀ m ∈ ms, MvOk ps m
theorem FoundM.mono {H0 : Hp} {ps : List Place} {n n' : Nat} {fl : Addr} {H H' : Hp} (h : FoundM H0 ps n fl H) (hn : n ≤ n') (e : Ex H H') : FoundM H0 ps n' fl H' :=
  let ⟨h0, mvs, ms, h1, h2, h3, h4⟩ := h; ⟨h0, mvs, ms, e _ _ h1, mvsMono (Tx.of e) h2, Nat.le_trans h3 hn, h4⟩
theorem pl2 (r ph : Int) : Pl [r, ph] := ⟨by simp, by simp⟩
def spLMoves : Sp := fun vs H Q _ => ∃ (d : Addr) (b : Bk), vs = [.ref d] ∧ BookAt H d b ∧ BookOk b ∧ ∀ r mvs ms H', Ex H H' → H r = none → H' r = some (.lst mvs) → Paired (MvA H') mvs ms → ms.length ≤ 300 → (∀ m ∈ ms, MvOk b.places m) → Q (.ref r) H'
theorem scLMoves : FnScope ["_law_b", "_law_found", "_law_upper", "_law_lower", "_law_result", "_law_behind"] ["_law_b"] (defScope sLMoves) := ⟨rfl, rfl, rfl, by decide +kernel, rfl, by decide +kernel, by decide +kernel⟩
theorem ok_lmoves (T : Txt K mg) (D : DefAt K mg "_law_moves" sLMoves ["_law_b"]) (G1 : Callee P w K mg base 1 "_law_places" ["_law_b"] spLPlaces) (G2 : Callee P w K mg base 2 "_law_game" ["_law_b", "_law_upper", "_law_lower", "_law_result"] spGame) : Callee P w K mg base 3 "_law_moves" ["_law_b"] spLMoves := by
  obtain ⟨f1, fd1, F1, m1, k1, b1⟩ := G1
  obtain ⟨f2, fd2, F2, m2, k2, b2⟩ := G2
  refine D.callee fun f fd F => F.ok scLMoves (fun vs H Q E h => ?_) (fun cdv A outer s H vs Q E hr h => ?_)
  · obtain ⟨d, b, rfl, _⟩ := h
    rfl
  · obtain ⟨d, b, rfl, hb, ok, k⟩ := h
    have hr1 : Room 1 _ := hr.mono (by decide)
    refine ⟨_, (pss_cons (ps_set (i := 1) scLMoves.nd rfl (Or.inl rfl) (pe_lst pa_nil))
      (pss_cons (ps_for PassesOwn.never rfl (pi_list (pe_call F1 hr1 (by rfl) m1 k1 b1 .nil pass0 (pa_cons (pv 0) pa_nil))) (pg_name (i := 2) scLMoves.nd rfl (Or.inl rfl))
        (pss_one (ps_for PassesOwn.never rfl (pi_list (pe_call F1 hr1 (by rfl) m1 k1 b1 .nil pass0 (pa_cons (pv 0) pa_nil))) (pg_name (i := 3) scLMoves.nd rfl (Or.inl rfl))
          (pss_one (ps_for PassesOwn.never rfl (pi_list (pe_lst (pa_cons pe_str (pa_cons pe_str (pa_cons pe_str pa_nil))))) (pg_name (i := 4) scLMoves.nd rfl (Or.inl rfl))
            (pss_one (ps_if (pt_cmpR op_le (pe_ix ix_tup (pv 3) pe_int (fun _ _ => rfl)) (pe_ix ix_tup (pv 2) pe_int (fun _ _ => rfl)) (nomark _)) (pss_cons (ps_set (i := 5) scLMoves.nd rfl (Or.inl rfl) (pe_call F2 hr (by rfl) m2 k2 b2 .nil pass0 (pa_cons (pv 0) (pa_cons (pv 2) (pa_cons (pv 3) (pa_cons (pv 4) pa_nil))))))
              (pss_one (ps_set (i := 1) scLMoves.nd rfl (Or.inl rfl) (pe_op op_cat (pv 1) (pe_op op_rep (pe_lst (pa_cons (pe_tup (pa_cons (pe_tup (pa_cons (pv 2) (pa_cons (pv 3) pa_nil))) (pa_cons (pv 4) (pa_cons (pv 5) pa_nil)))) pa_nil)) (pe_callTy call_int1 (by rfl) T.int (by decide +kernel) (pa_cons (pe_cmpR op_notN (pv 5) pe_non (nomark _)) pa_nil))))))) pss_nil)))))))
      (pss_one (ps_ret (pv 1))))), ?_⟩
    obtain ⟨pl9, _⟩ := places_len ok
    refine q_asgL (el_lst ea_nil (by decide)) fun fl H1 nf e1 hf => ?_
    refine ⟨_, rfl, d, b, rfl, hb.mono e1, ok, fun ul uvs H2 e2 nu hu hup => ⟨ul, rfl, ⟨uvs, SqL.of hu⟩, ?_⟩⟩
    have e12 := e1.trans e2
    have ulen : uvs.length = b.places.length := pairedLen hup
    refine for_list (K := K) (a := ul) (xs := uvs) (fun i σ' H' => ∃ (fl : Addr) (c1 c2 c3 c4 : Option V), σ' = [some (.ref d), some (.ref fl), c1, c2, c3, c4] ∧ Ex H2 H' ∧ FoundM H b.places (27 * i) fl H')
      ⟨fl, none, none, none, none, rfl, Ex.refl _, nf, [], [], e2 _ _ hf, .nil, Nat.le_refl _, fun m hm => by cases hm⟩ (fun i σ' H' _ ⟨_, _, _, _, _, _, e, _⟩ => SqL.of (e _ _ hu)) ?_ ?_
    · rintro i u σ' H' hi ⟨fl, c1, c2, c3, c4, rfl, ex, hfm⟩
      have hil := (List.getElem?_eq_some_iff.mp hi).1
      obtain ⟨pu, hpu, huA⟩ := pairedGet hup hi
      have hpum := List.mem_of_getElem? hpu
      obtain ⟨r1, p1, rfl, q1, q2, q3, q4⟩ := of_places hpum
      show tFor _ _ _ _ _ _
      refine ⟨_, rfl, d, b, rfl, hb.mono (e12.trans ex), ok, fun ll lvs H3 e3 nl hl hlp => ⟨ll, rfl, ⟨lvs, SqL.of hl⟩, ?_⟩⟩
      have ex3 := ex.trans e3
      have llen : lvs.length = b.places.length := pairedLen hlp
      refine for_list (K := K) (a := ll) (xs := lvs) (fun j σ' H' => ∃ (fl : Addr) (c2 c3 c4 : Option V), σ' = [some (.ref d), some (.ref fl), some u, c2, c3, c4] ∧ Ex H3 H' ∧ FoundM H b.places (27 * i + 3 * j) fl H')
        ⟨fl, c2, c3, c4, rfl, Ex.refl _, hfm.mono (by omega) e3⟩ (fun j σ' H' _ ⟨_, _, _, _, _, e, _⟩ => SqL.of (e _ _ hl)) ?_ ?_
      · rintro j v σ' H' hj ⟨fl, c2, c3, c4, rfl, ey, hfm⟩
        have hjl := (List.getElem?_eq_some_iff.mp hj).1
        obtain ⟨pv', hpv, hvA⟩ := pairedGet hlp hj
        have hpvm := List.mem_of_getElem? hpv
        obtain ⟨r2, p2, rfl, t1, t2, t3, t4⟩ := of_places hpvm
        show tFor _ _ _ _ _ _
        refine s_forNL (el_lst (ea_cons ev_c (ea_cons ev_c (ea_cons ev_c ea_nil))) (by show 3 ≤ 100000; decide)) (fun sl t σ' H' => ∃ (fl : Addr) (c3 c4 : Option V), σ' = [some (.ref d), some (.ref fl), some u, some v, c3, c4] ∧ Ex H3 H' ∧ H' sl = some (.lst [.str "upper", .str "draw", .str "lower"]) ∧ FoundM H b.places (27 * i + 3 * j + t) fl H')
          (fun sl H4 ns e4 hs => ⟨fl, c3, c4, rfl, ey.trans e4, hs, hfm.mono (by omega) e4⟩) (fun sl t σ' H' _ ⟨_, _, _, _, _, h, _⟩ => SqL.of h) ?_ ?_
        · rintro sl t rs σ' H' ht ⟨fl, c3, c4, rfl, ez, hsl, hfm⟩
          have htl : t < 3 := (List.getElem?_eq_some_iff.mp ht).1
          have hres : ∃ res : Str, rs = .str res ∧ isRes res := by
            have hm := List.mem_of_getElem? ht
            simp only [List.not_mem_nil, List.mem_cons, or_false] at hm
            rcases hm with rfl | rfl | rfl
            · exact ⟨_, rfl, .inl rfl⟩
            · exact ⟨_, rfl, .inr (.inl rfl)⟩
            · exact ⟨_, rfl, .inr (.inr rfl)⟩
          obtain ⟨res, rfl, hres⟩ := hres
          have huA' := huA.mono (Tx.of (ex3.trans ez))
          have hvA' := hvA.mono (Tx.of ez)
          obtain ⟨ua, rfl, hua⟩ := id huA'
          obtain ⟨va, rfl, hva⟩ := id hvA'
          show tIfS _ _ _ _ _ _
          refine s_when (b := decide (r2 ≤ r1)) (et_test (ev_op (ev_ixT (j := 0) (ev_var rfl) ev_c hva rfl) (ev_ixT (j := 0) (ev_var rfl) ev_c hua rfl) rv_I0)) (fun hc H4 e4 => ?_) (fun hc H4 e4 => ⟨fl, _, c4, rfl, ez.trans e4, e4 _ _ hsl, hfm.mono (by omega) e4⟩)
          have hle := of_decide_eq_true hc
          have e0 : Ex H H4 := (e12.trans ex3).trans (ez.trans e4)
          refine ⟨_, rfl, _, rfl, _, rfl, _, rfl, d, _, _, res, b, r1, p1, r2, p2, rfl, hb.mono e0, ok, huA'.mono (Tx.of e4), hvA'.mono (Tx.of e4), hle, q3, q4, t3, t4, hres, fun g H5 e5 hg => ?_⟩
          obtain ⟨nfl, mvs, ms, hfl, hms, hml, hok⟩ := hfm.mono (Nat.le_refl _) (e4.trans e5)
          have e50 := (e4.trans e5)
          have hml2 : ms.length ≤ 300 := by omega
          have mvl := pairedLen hms
          refine ⟨_, rfl, _, rfl, _, rfl, (by show 2 ≤ sizeLine; decide), fun x1 nx1 => ⟨_, rfl, _, rfl, (by show 3 ≤ sizeLine; decide), fun x2 nx2 => ⟨(by show 1 ≤ sizeLine; decide), fun x3 nx3 => ?_⟩⟩⟩
          have ea : Ex H5 (L2.upd H5 x1 (.tup [.ref ua, .ref va])) := Ex.new nx1
          have eb := ea.trans (Ex.new (o := .tup [.ref x1, .str res, g]) nx2)
          have ec := eb.trans (Ex.new (o := .lst [.ref x2]) nx3)
          refine (ev_intB (ev_notN (ev_var rfl)) : Ev _ [some (.ref d), some (.ref fl), some (.ref ua), some (.ref va), some (.str res), some g] _ _) _ (Ex.refl _) _ fun H6 e6 => ?_
          have h3 := e6 _ _ (upd_same (H := L2.upd (L2.upd H5 x1 (.tup [.ref ua, .ref va])) x2 (.tup [.ref x1, .str res, g])) (a := x3) (o := .lst [.ref x2]))
          have e56 := ec.trans e6
          have h2' : H6 x2 = some (.tup [.ref x1, .str res, g]) := e6 _ _ ((Ex.new nx3) _ _ upd_same)
          have h1' : H6 x1 = some (.tup [.ref ua, .ref va]) := e6 _ _ ((Ex.new nx3) _ _ ((Ex.new nx2) _ _ upd_same))
          refine ⟨x3, _, [.ref x2], rfl, rfl, h3, by split <;> decide, by split <;> decide, sz_of (by split <;> first | exact (by decide : (1 * 1 : Nat) ≤ 100000) | exact (by decide : (1 * 0 : Nat) ≤ 100000)), fun x4 nx4 => ?_⟩
          have ed : Ex H6 (L2.upd H6 x4 (.lst (List.replicate (if (!decide (g = V.non)) = true then (1 : Int) else 0).toNat [V.ref x2]).flatten)) := Ex.new nx4
          have hcnt : ((List.replicate (if (!decide (g = V.non)) = true then (1 : Int) else 0).toNat [V.ref x2]).flatten).length ≤ 1 := by
            split <;> first | exact Nat.le_refl 1 | exact Nat.zero_le 1
          refine ⟨fl, x4, mvs, _, rfl, rfl, (e56.trans ed) _ _ hfl, upd_same, sz_of (by omega), fun x5 nx5 => ?_⟩
          have ee := (e56.trans ed).trans (Ex.new (o := .lst (mvs ++ (List.replicate (if (!decide (g = V.non)) = true then (1 : Int) else 0).toNat [V.ref x2]).flatten)) nx5)
          have e0' : Ex H H5 := e0.trans e5
          refine ⟨x5, _, _, rfl, (ez.trans e50).trans ee, (e50.trans ee) _ _ hsl, fresh_back ((e0'.trans e56).trans ed) nx5, ?_⟩
          rcases hg with rfl | ⟨ga, gx, gy, gp, gq, rfl, hga, hgx, hgy, hgp, hgq⟩
          · exact ⟨mvs, ms, by rw [upd_same]; simp, mvsMono (Tx.of ee) hms, by omega, hok⟩
          · obtain ⟨gp1, gp2, rfl, _⟩ := of_places hgp
            obtain ⟨gq1, gq2, rfl, _⟩ := of_places hgq
            have e6f : Ex H6 _ := ed.trans (Ex.new (o := .lst (mvs ++ (List.replicate (if (!decide (V.ref ga = V.non)) = true then (1 : Int) else 0).toNat [V.ref x2]).flatten)) nx5)
            refine ⟨mvs ++ [.ref x2], ms ++ [⟨[[r1, p1], [r2, p2]], [[gp1, gp2], [gq1, gq2]]⟩], by rw [upd_same]; rfl, pairedApp (mvsMono (Tx.of ee) hms) (.cons ⟨x2, .ref x1, res, .ref ga, rfl, e6f _ _ h2', ?_, ?_⟩ .nil), by rw [List.length_append, List.length_singleton]; omega, fun m hm => ?_⟩
            · exact ⟨x1, _, rfl, e6f _ _ h1', .cons (huA'.mono (Tx.of (e50.trans ee))) (.cons (hvA'.mono (Tx.of (e50.trans ee))) .nil)⟩
            · exact ⟨ga, _, rfl, ee _ _ hga, .cons (hgx.mono (Tx.of ee)) (.cons (hgy.mono (Tx.of ee)) .nil)⟩
            · rcases List.mem_append.mp hm with h | h
              · exact hok m h
              · rw [List.mem_singleton] at h
                subst h
                refine ⟨⟨.inr (.inl rfl), rfl, fun p hp => ?_, fun p hp => ?_⟩, fun p hp => ?_, fun p hp => ?_⟩
                · simp only [List.mem_cons, List.not_mem_nil, or_false] at hp
                  rcases hp with rfl | rfl
                  · exact hpum
                  · exact hpvm
                · simp only [List.mem_cons, List.not_mem_nil, or_false] at hp
                  rcases hp with rfl | rfl
                  · exact hgp
                  · exact hgq
                · simp only [List.mem_cons, List.not_mem_nil, or_false] at hp
                  rcases hp with rfl | rfl <;> exact pl2 _ _
                · simp only [List.mem_cons, List.not_mem_nil, or_false] at hp
                  rcases hp with rfl | rfl <;> exact pl2 _ _
        · rintro sl σ' H' ⟨fl, c3, c4, rfl, ez, hsl, hfm⟩
          exact ⟨fl, _, c3, c4, rfl, ez, hfm.mono (by show 27 * i + 3 * j + 3 ≤ 27 * i + 3 * (j + 1); omega) (Ex.refl _)⟩
      · rintro σ' H' ⟨fl, c2, c3, c4, rfl, ey, hfm⟩
        exact ⟨fl, _, c2, c3, c4, rfl, ex3.trans ey, hfm.mono (by omega) (Ex.refl _)⟩
    · rintro σ' H' ⟨fl, c1, c2, c3, c4, rfl, ex, nfl, mvs, ms, hfl, hms, hml, hok⟩
      exact s_ret (ev_var rfl) fun H3 e3 => k fl mvs ms H3 ((e12.trans ex).trans e3) nfl (e3 _ _ hfl) (mvsMono (Tx.of e3) hms) (by omega) hok
end
end M10

namespace M10
open PySem PySem.Spec L2 Evl StX

theorem Kd.mut {a p : Addr} {H H' : Hp} {o : HO} (k : Kd a H H') (n : H p = none) : Kd a H (L2.upd H' p o) := fun b u hb h => by
  rw [upd_ne (ne_of_none h n)]
  exact k b u hb h
theorem PoolAt.upd {a p : Addr} {H : Hp} {o : HO} (h : PoolAt H a) (n : p ≠ a) : PoolAt (L2.upd H p o) a := by
  obtain ⟨x, y, h1, h2⟩ := h
  exact ⟨x, y, by rw [upd_ne n.symm]; exact h1, h2⟩
section
variable {X : Cx}
theorem set_dict (hu : X.A.units + 1 < cLine) : PSet X (fun o i v H Q => ∃ a H', o = .ref a ∧ DPut H a i v H' ∧ Q H') := by
  intro pn s σ H o i v ov iv u Q I ro ri rv h
  obtain ⟨a, H', rfl, g, q⟩ := h
  cases ro
  exact d_setItem hu I g ri rv (fun s' I' => ⟨H', I', q⟩)
end
section
variable {σ : L2.St} {H : Hp}
theorem par_go {i j : Nat} {ta : TA} {D : Ends} (h : ta σ H fun vs H1 => ∃ v u, vs = [v, u] ∧ D.nx ((σ.set i (some v)).set j (some u)) H1) : tPar i j ta D σ H := h
theorem cons_go {te : TE} {tr : TA} {Q : List V → Hp → Prop} (h : te σ H fun v H1 => tr σ H1 fun vs H2 => Q (v :: vs) H2) : tCons te tr σ H Q := h
theorem call_go {sp : Sp} {E : XK} {ta : TA} {Q : VK} (h : ta σ H fun vs H1 => sp (vs ++ []) H1 Q E) : tCall sp [] E ta σ H Q := h
theorem var_go {i : Nat} {v : V} {Q : VK} (h : σ[i]? = some (some v)) (q : Q v H) : tVar i σ H Q := ⟨v, h, q⟩
theorem seq_go {t u : TS} {D : Ends} (h : t { D with nx := u D } σ H) : tSeq t u D σ H := h
theorem forL_go {K : PySem.W.Frag} {tl : TE} {g : TG} {tb : TS} {D : Ends} (h : tl σ H fun x H1 => ∃ a, x = .ref a ∧ (∃ xs, SqL K H1 a xs) ∧ ∃ W : Nat → Nat → L2.St → Hp → Prop, (∃ m, W 0 m σ H1) ∧ ∀ i m σ H, W i m σ H →
    ((Itl K a).stop i H ∧ D.nx σ H) ∨ ((Itl K a).go i H ∧ ∃ N : L2.St → Hp → Prop, (∀ σ' H', N σ' H' → ∃ m', m' < m ∧ W (i + 1) m' σ' H') ∧ ∀ x H', (Itl K a).yld i H x H' → g x σ H' fun σ2 H2 => tb { D with nx := N, ct := N, bk := D.nx } σ2 H2)) : tFor (iList K tl) g tb D σ H := h
theorem sl_go {r : V → Option Int → Option Int → Hp → VK → Prop} {te : TE} {tl th : TO} {Q : VK} (h : te σ H fun x H1 => tl σ H1 fun l H2 => th σ H2 fun u H3 => r x l u H3 Q) : tSl r te tl th σ H Q := h
theorem lst_go {t : TA} {Q : VK} (h : t σ H fun xs H1 => xs.length ≤ sizeLine ∧ ∀ p, H1 p = none → Q (.ref p) (L2.upd H1 p (.lst xs))) : tLst t σ H Q := h
theorem tup_go {t : TA} {Q : VK} (h : t σ H fun xs H1 => xs.length ≤ sizeLine ∧ ∀ p, H1 p = none → Q (.ref p) (L2.upd H1 p (.tup xs))) : tTup t σ H Q := h
theorem nopart_go {Q : Option Int → Hp → Prop} (h : Q none H) : tNoPart σ H Q := h
theorem part_go {te : TE} {Q : Option Int → Hp → Prop} (h : te σ H fun x H1 => ∃ i, x = .int i ∧ Q (some i) H1) : tPart te σ H Q := h
theorem asg_go {te : TE} {g : TG} {D : Ends} (h : te σ H fun v H1 => g v σ H1 D.nx) : tAsg te g D σ H := h
theorem drop_go {te : TE} {D : Ends} (h : te σ H fun _ H1 => D.nx σ H1) : tDrop te D σ H := h
theorem bm_go {K : PySem.W.Frag} {T : String} {r : V → List V → Hp → VK → Prop} {to : TE} {t : TA} {Q : VK} (h : to σ H fun x H1 => tyV K T x H1 ∧ t σ H1 fun xs H2 => r x xs H2 Q) : tBM K T r to t σ H Q := h
theorem c_go {v : V} {Q : VK} (q : Q v H) : tC v σ H Q := q
end
theorem op_go {σ : L2.St} {H : Hp} {r : R2} {ta tb : TE} {x : V} {Q : VK} (ha : Ev ta σ H x) (k : ∀ H1, Ex H H1 → tb σ H1 fun y H2 => r x y H2 Q) : tOp r ta tb σ H Q := ha H (Ex.refl H) _ k
theorem entry_dp {K : PySem.W.Frag} {H : Hp} {v : V} (h : EntryA H v) : ∃ d, Dp K H v d ∧ d.canLay0 = true ∧ d.depth ≤ 1 := by
  rcases h with rfl | ⟨b, i, j, rfl, h⟩
  · exact ⟨.none, .non, by simp [PyData.canLay0], by simp [PyData.depth]⟩
  · refine ⟨.tuple [.int i, .int j], .tup (SqT.of h) (.cons (.int i) (.cons (.int j) .nil)), by simp [PyData.canLay0, PyData.canLayAll0], by simp [PyData.depth, PyData.depthAll]⟩
theorem rows_dp {K : PySem.W.Frag} {H : Hp} : ∀ {rs : List V}, (∀ r ∈ rs, ∃ bd, RowE H r bd) → ∃ ds, DpAll K H rs ds ∧ PyData.canLayAll0 ds = true ∧ PyData.depthAll ds ≤ 2 ∧ ds.isEmpty = rs.isEmpty
  | [], _ => ⟨[], .nil, by simp [PyData.canLayAll0], by simp [PyData.depthAll], rfl⟩
  | r :: rs, h => by
    obtain ⟨ds, h1, h2, h3, h4⟩ := rows_dp (K := K) fun r' hr => h r' (List.mem_cons_of_mem _ hr)
    obtain ⟨bd, a, e1, e2, e3, rfl, ha, q1, q2, q3⟩ := h r List.mem_cons_self
    obtain ⟨d1, a1, b1, c1⟩ := entry_dp (K := K) q1
    obtain ⟨d2, a2, b2, c2⟩ := entry_dp (K := K) q2
    obtain ⟨d3, a3, b3, c3⟩ := entry_dp (K := K) q3
    refine ⟨.tuple [.int bd, d1, d2, d3] :: ds, .cons (.tup (SqT.of ha) (.cons (.int bd) (.cons a1 (.cons a2 (.cons a3 .nil))))) h1, by simp [PyData.canLayAll0, PyData.canLay0, b1, b2, b3, h2], ?_, rfl⟩
    simp only [PyData.depthAll, PyData.depth]
    omega
theorem ev_eqNil {K : PySem.W.Frag} {σ : L2.St} {H : Hp} {ta : TE} {l : Addr} {rs : List V} (ha : Ev ta σ H (.ref l)) (h : H l = some (.lst rs)) (hr : ∀ r ∈ rs, ∃ bd, RowE H r bd) : Ev (tOp (rEqD K) ta (tLst tNil)) σ H (.bl rs.isEmpty) :=
  ev_opL ha (el_lst ea_nil (by decide)) fun p H1 hp e => rv_val fun H2 e2 Q q => by
    have e12 := e.trans e2
    obtain ⟨ds, h1, h2, h3, h4⟩ := rows_dp (K := K) (H := H2) (rs := rs) fun r hr' => let ⟨bd, z⟩ := hr r hr'; ⟨bd, z.mono (Tx.of e12)⟩
    refine ⟨.list ds, .list [], .lst (SqL.of (e12 _ _ h)) h1, .lst (SqL.of (e2 _ _ hp)) .nil, ?_, ?_, ?_⟩
    · show (PyData.canLay0 (.list ds) && decide (PyData.depth (.list ds) ≤ 64)) = true
      rw [Bool.and_eq_true]
      exact ⟨by simpa [PyData.canLay0] using h2, decide_eq_true (by simp only [PyData.depth]; omega)⟩
    · show (PyData.canLay0 (.list []) && decide (PyData.depth (.list []) ≤ 64)) = true
      simp [PyData.canLay0, PyData.canLayAll0, PyData.depth, PyData.depthAll]
    · have : PyData.eqv (.list ds) (.list []) = rs.isEmpty := by
        rw [← h4]
        cases ds <;> simp [PyData.eqv, PyData.eqvAll]
      rw [this]
      exact q
theorem row_if {K : PySem.W.Frag} {σ : L2.St} {H : Hp} {t : TT} {D : Ends} {a rl : Addr} {rs : List V} {n wd : Int} {b : Bool} (h : EvT t σ H b) (s0 : σ[0]? = some (some (.ref a))) (s3 : σ[3]? = some (some (.ref rl))) (s4 : σ[4]? = some (some (.int wd))) (s5 : σ[5]? = some (some (.int n)))
    (w0 : 0 ≤ wd) (w9 : wd ≤ 9) (hp : PoolAt H a) (hl : H rl = some (.lst rs)) (na : rl ≠ a) (hz : rs.length ≤ 10) (k0 : b = false → ∀ H1, Ex H H1 → D.nx σ H1)
    (k1 : ∀ H1 r, Kd a H H1 → PoolAt H1 a → Tx H H1 → RowE H1 r n → D.nx σ (L2.upd H1 rl (.lst (rs ++ [r])))) :
    tIfS t (tDrop (tBM K "list" rAppend (tVar 3) (tCons (tTup (tCons (tVar 5) (tCons (tCall spEntry [] E0 (tCons (tVar 0) (tCons (tVar 4) tNil))) (tCons (tCall spEntry [] E0 (tCons (tVar 0) (tCons (tVar 4) tNil))) (tCons (tCall spEntry [] E0 (tCons (tVar 0) (tCons (tVar 4) tNil))) tNil))))) tNil))) tNext D σ H := by
  refine s_when h (fun _ H1 e1 => ?_) k0
  refine drop_go (bm_go (var_go s3 ⟨.inl ⟨rfl, rs, SqL.of (e1 _ _ hl)⟩, ?_⟩))
  refine cons_go (tup_go (cons_go (var_go s5 (cons_go ?_))))
  refine entry_go (ea_cons (ev_var s0) (ea_cons (ev_var s4) ea_nil)) (hp.mono e1) w0 w9 fun r1 H2 kd2 hp2 q2 => cons_go ?_
  refine entry_go (ea_cons (ev_var s0) (ea_cons (ev_var s4) ea_nil)) hp2 w0 w9 fun r2 H3 kd3 hp3 q3 => cons_go ?_
  refine entry_go (ea_cons (ev_var s0) (ea_cons (ev_var s4) ea_nil)) hp3 w0 w9 fun r3 H4 kd4 hp4 q4 => ?_
  refine ⟨(by show 4 ≤ _; decide), fun tp htp => ?_⟩
  obtain ⟨x1, y1, z1, _⟩ := id (hp.mono e1)
  obtain ⟨x2, y2, z2, _⟩ := id hp2
  obtain ⟨x3, y3, z3, _⟩ := id hp3
  have kd : Kd a H (L2.upd H4 tp (.tup [.int n, r1, r2, r3])) := (Kd.of e1).trans ((kd2.trans (kd3.trans kd4)).trans (Kd.of (Ex.new htp)))
  have t4 : Tx H4 (L2.upd H4 tp (.tup [.int n, r1, r2, r3])) := Tx.of (Ex.new htp)
  have t34 := kd4.txL z3
  have t23 := kd3.txL z2
  refine ⟨rl, rs, _, rfl, rfl, kd _ _ na hl, sz_lt (by omega), ?_⟩
  refine k1 _ _ kd (hp4.mono (Ex.new htp)) (((Tx.of e1).trans (kd2.txL z1)).trans ((t23.trans t34).trans t4)) ⟨tp, r1, r2, r3, rfl, upd_same, q2.mono ((t23.trans t34).trans t4), q3.mono (t34.trans t4), q4.mono t4⟩
theorem TableAt.put {H : Hp} {tl p : Addr} {kvs : List (Key × V)} {o : HO} (h : TableAt H tl) (n : tl ≠ p) (hd : H p = some (.dK kvs)) : TableAt (L2.upd H p o) tl := by
  have tx : Tx H (L2.upd H p o) := (Kd.upd p H o).tx fun xs z => by
    rw [hd] at z
    cases z
  obtain ⟨r0, rs, h1, h2, h3, h4⟩ := h
  exact ⟨r0, rs, by rw [upd_ne n]; exact h1, h2, h3.mono tx, fun r hr => let ⟨bd, q⟩ := h4 r hr; ⟨bd, q.mono tx⟩⟩
theorem TableAt.kd {H H' : Hp} {tl a : Addr} (h : TableAt H tl) (k : Kd a H H') (hp : PoolAt H a) (n : tl ≠ a) : TableAt H' tl := by
  obtain ⟨x, y, hx, _⟩ := hp
  have tx := k.txL hx
  obtain ⟨r0, rs, h1, h2, h3, h4⟩ := h
  exact ⟨r0, rs, k _ _ n h1, h2, h3.mono tx, fun r hr => let ⟨bd, q⟩ := h4 r hr; ⟨bd, q.mono tx⟩⟩
structure Lk (kvs : List (Key × V)) (b : Bk) (rl : Addr) : Prop where
  lo : valV kvs (kS "low") = some (.int b.lo)
  hi : valV kvs (kS "high") = some (.int b.hi)
  fr : valV kvs (kS "fresh") = some (.int b.fr)
  ti : valV kvs (kS "times") = some (.int b.ti)
  bo : valV kvs (kS "bonus") = some (.int b.bo)
  ta : valV kvs (kS "table") = some (.ref rl)
theorem Lk.fresh {kvs : List (Key × V)} {b : Bk} {rl : Addr} (h : Lk kvs b rl) (x : Int) : Lk (putK kvs (kS "fresh") (.int x)) { b with fr := x } rl := by
  refine ⟨?_, ?_, ?_, ?_, ?_, ?_⟩
  · rw [valV_put, if_neg (by decide +kernel)]; exact h.lo
  · rw [valV_put, if_neg (by decide +kernel)]; exact h.hi
  · rw [valV_put, if_pos rfl]
  · rw [valV_put, if_neg (by decide +kernel)]; exact h.ti
  · rw [valV_put, if_neg (by decide +kernel)]; exact h.bo
  · rw [valV_put, if_neg (by decide +kernel)]; exact h.ta
theorem Lk.times {kvs : List (Key × V)} {b : Bk} {rl : Addr} (h : Lk kvs b rl) (x : Int) : Lk (putK kvs (kS "times") (.int x)) { b with ti := x } rl := by
  refine ⟨?_, ?_, ?_, ?_, ?_, ?_⟩
  · rw [valV_put, if_neg (by decide +kernel)]; exact h.lo
  · rw [valV_put, if_neg (by decide +kernel)]; exact h.hi
  · rw [valV_put, if_neg (by decide +kernel)]; exact h.fr
  · rw [valV_put, if_pos rfl]
  · rw [valV_put, if_neg (by decide +kernel)]; exact h.bo
  · rw [valV_put, if_neg (by decide +kernel)]; exact h.ta
theorem Lk.bonus {kvs : List (Key × V)} {b : Bk} {rl : Addr} (h : Lk kvs b rl) (x : Int) : Lk (putK kvs (kS "bonus") (.int x)) { b with bo := x } rl := by
  refine ⟨?_, ?_, ?_, ?_, ?_, ?_⟩
  · rw [valV_put, if_neg (by decide +kernel)]; exact h.lo
  · rw [valV_put, if_neg (by decide +kernel)]; exact h.hi
  · rw [valV_put, if_neg (by decide +kernel)]; exact h.fr
  · rw [valV_put, if_neg (by decide +kernel)]; exact h.ti
  · rw [valV_put, if_pos rfl]
  · rw [valV_put, if_neg (by decide +kernel)]; exact h.ta
section
variable {K : PySem.W.Frag} {P : Program} {w : World} {mg : Str → Option Value} {base : Heap}
/-! ### _law_spec -/
def spSpec : Sp := fun vs H Q _ => ∃ (a : Addr), vs = [.ref a, .int 3] ∧ PoolAt H a ∧ ∀ d b H', Kd a H H' → PoolAt H' a → BookOk b → BookAt H' d b → Q (.ref d) H'
theorem scSpec : FnScope ["_law_pool_here", "_law_ratings", "_law_b", "_law_rows", "_law_wide", "_law_border", "_law_kind"] ["_law_pool_here", "_law_ratings"] (defScope sSpec) := ⟨rfl, rfl, rfl, by decide +kernel, rfl, by decide +kernel, by decide +kernel⟩
theorem ok_spec (T : Txt K mg) (D : DefAt K mg "_law_spec" sSpec ["_law_pool_here", "_law_ratings"]) (G1 : Callee P w K mg base 1 "_law_draw" ["_law_pool_here", "_law_many"] spDraw) (G2 : Callee P w K mg base 2 "_law_pick" ["_law_pool_here", "_law_row"] spPick) (G3 : Callee P w K mg base 2 "_law_entry" ["_law_pool_here", "_law_wide"] spEntry) :
    Callee P w K mg base 3 "_law_spec" ["_law_pool_here", "_law_ratings"] spSpec := by
  obtain ⟨f1, fd1, F1, m1, k1, b1⟩ := G1
  obtain ⟨f2, fd2, F2, m2, k2, b2⟩ := G2
  obtain ⟨f3, fd3, F3, m3, k3, b3⟩ := G3
  refine D.callee fun f fd F => F.ok scSpec (fun vs H Q E h => ?_) (fun cdv A outer s H vs Q E hr h => ?_)
  · obtain ⟨a, rfl, _⟩ := h
    rfl
  · obtain ⟨a, rfl, hp, k⟩ := h
    have hr1 : Room 1 _ := hr.mono (by decide)
    obtain ⟨x0, y0, ha0, _⟩ := id hp
    refine ⟨_, (pss_cons (ps_set (i := 2) scSpec.nd rfl (Or.inl rfl) (pe_disp (pps_cons pe_str (pe_call F1 hr1 (by rfl) m1 k1 b1 .nil pass0 (pa_cons (pv 0) (pa_cons pe_int pa_nil))) (pps_cons pe_str pe_int (pps_cons pe_str pe_int (pps_cons pe_str pe_int pps_nil)))) (by rfl) (by rfl) (fun z => by cases z) (by decide)))
      (pss_cons (ps_dput (hu_of hr) (pv 2) pe_str (pe_op op_add (pe_op op_add (pe_dget (hu_of hr) (pv 2) pe_str (fun _ _ => rfl)) pe_int) (pe_call F1 hr1 (by rfl) m1 k1 b1 .nil pass0 (pa_cons (pv 0) (pa_cons (pe_op op_sub (pv 1) pe_int) pa_nil)))) rfl)
      (pss_cons (ps_par (i := 3) (j := 4) rfl scSpec.nd rfl rfl (by decide) rfl rfl (pa_cons (pe_lst pa_nil) (pa_cons (pe_call F2 hr (by rfl) m2 k2 b2 .nil pass0 (pa_cons (pv 0) (pa_cons (pe_lst (pa_cons pe_int (pa_cons pe_int (pa_cons pe_int (pa_cons pe_int pa_nil))))) pa_nil))) pa_nil)) (by rfl))
      (pss_cons (ps_for PassesOwn.never rfl (pi_list (pe_slice sl_list (pe_lst (pa_cons pe_int (pa_cons pe_int (pa_cons (pe_op op_add pe_int (pe_call F1 hr1 (by rfl) m1 k1 b1 .nil pass0 (pa_cons (pv 0) (pa_cons pe_int pa_nil)))) pa_nil)))) po_none (po_some (pe_op op_add pe_int (pe_call F1 hr1 (by rfl) m1 k1 b1 .nil pass0 (pa_cons (pv 0) (pa_cons pe_int pa_nil))))))) (pg_name (i := 5) scSpec.nd rfl (Or.inl rfl))
        (pss_one (ps_if (PW.pt (pw_or (pt_cmpR (op_eqD (hu64_of hr)) (pv 3) (pe_lst pa_nil) (nomark _)) (pw_or1 (pt_cmpR op_gt (pv 5) (pe_ix ix_tup (pe_ix ix_list (pv 3) (pe_un un_neg pe_int) (fun _ _ => rfl)) pe_int (fun _ _ => rfl)) (nomark _))))) (pss_one (ps_expr (pe_bm PySem.F.plainAttrs_list PySem.F.slot_list_append PySem.F.type_list_append mt_append (pv 3) (pa_cons (pe_tup (pa_cons (pv 5) (pa_cons (pe_call F3 hr (by rfl) m3 k3 b3 .nil pass0 (pa_cons (pv 0) (pa_cons (pv 4) pa_nil))) (pa_cons (pe_call F3 hr (by rfl) m3 k3 b3 .nil pass0 (pa_cons (pv 0) (pa_cons (pv 4) pa_nil))) (pa_cons (pe_call F3 hr (by rfl) m3 k3 b3 .nil pass0 (pa_cons (pv 0) (pa_cons (pv 4) pa_nil))) pa_nil))))) pa_nil)))) pss_nil)))
      (pss_cons (ps_dput (hu_of hr) (pv 2) pe_str (pv 3) rfl)
      (pss_cons (ps_set (i := 6) scSpec.nd rfl (Or.inl rfl) (pe_call F1 hr1 (by rfl) m1 k1 b1 .nil pass0 (pa_cons (pv 0) (pa_cons pe_int pa_nil))))
      (pss_cut (ps_if (pt_cmpR op_eq (pv 6) pe_int (nomark _)) (pss_one (ps_asg (pe_tup (pa_cons (pe_op op_add pe_int (pe_call F1 hr1 (by rfl) m1 k1 b1 .nil pass0 (pa_cons (pv 0) (pa_cons pe_int pa_nil)))) (pa_cons (pe_op op_add pe_int (pe_call F1 hr1 (by rfl) m1 k1 b1 .nil pass0 (pa_cons (pv 0) (pa_cons pe_int pa_nil)))) pa_nil))) (pg_tup rfl (pgs_cons (pg_sub (pv 2) pe_str (set_dict (hu_of hr))) (pgs_cons (pg_sub (pv 2) pe_str (set_dict (hu_of hr))) pgs_nil))))) pss_nil)
      (pss_cut (ps_if (pt_cmpR op_eq (pv 6) pe_int (nomark _)) (pss_one (ps_dput (hu_of hr) (pv 2) pe_str (pe_op op_add pe_int (pe_call F1 hr1 (by rfl) m1 k1 b1 .nil pass0 (pa_cons (pv 0) (pa_cons pe_int pa_nil)))) rfl)) pss_nil)
      (pss_one (ps_ret (pv 2))))))))))), ?_⟩
    intro p np
    have npa : p ≠ a := (ne_of_none ha0 np).symm
    refine draw_go (ea_cons (ev_var rfl) (ea_cons ev_c ea_nil)) (hp.upd npa) (by decide) (by decide) fun lo H1 kd1 hp1 l0 l3 => ?_
    refine ⟨kd1 _ _ npa upd_same, [(kS "low", .int lo), (kS "fresh", .int 0), (kS "times", .int 1), (kS "bonus", .int 0)], rfl, (by show 4 ≤ 15; decide), ?_⟩
    have kdA : Kd a H (L2.upd H1 p (.dK (mergeK [] [(kS "low", V.int lo), (kS "fresh", V.int 0), (kS "times", V.int 1), (kS "bonus", V.int 0)]))) := ((Kd.of (Ex.new np)).trans kd1).mut np
    have g1 : valV (mergeK [] [(kS "low", V.int lo), (kS "fresh", V.int 0), (kS "times", V.int 1), (kS "bonus", V.int 0)]) (kS "low") = some (.int lo) := by
      unfold mergeK
      simp only [List.foldl_cons, List.foldl_nil]
      rw [valV_put, if_neg (by decide +kernel), valV_put, if_neg (by decide +kernel), valV_put, if_neg (by decide +kernel), valV_put, if_pos rfl]
    have g2 : valV (mergeK [] [(kS "low", V.int lo), (kS "fresh", V.int 0), (kS "times", V.int 1), (kS "bonus", V.int 0)]) (kS "fresh") = some (.int 0) := by
      unfold mergeK
      simp only [List.foldl_cons, List.foldl_nil]
      rw [valV_put, if_neg (by decide +kernel), valV_put, if_neg (by decide +kernel), valV_put, if_pos rfl]
    have g3 : valV (mergeK [] [(kS "low", V.int lo), (kS "fresh", V.int 0), (kS "times", V.int 1), (kS "bonus", V.int 0)]) (kS "times") = some (.int 1) := by
      unfold mergeK
      simp only [List.foldl_cons, List.foldl_nil]
      rw [valV_put, if_neg (by decide +kernel), valV_put, if_pos rfl]
    have g4 : valV (mergeK [] [(kS "low", V.int lo), (kS "fresh", V.int 0), (kS "times", V.int 1), (kS "bonus", V.int 0)]) (kS "bonus") = some (.int 0) := by
      unfold mergeK
      simp only [List.foldl_cons, List.foldl_nil]
      rw [valV_put, if_pos rfl]
    have gl : (mergeK [] [(kS "low", V.int lo), (kS "fresh", V.int 0), (kS "times", V.int 1), (kS "bonus", V.int 0)]).length ≤ 4 := length_mergeK _ []
    have hpA : PoolAt (L2.upd H1 p (.dK (mergeK [] [(kS "low", V.int lo), (kS "fresh", V.int 0), (kS "times", V.int 1), (kS "bonus", V.int 0)]))) a := hp1.upd npa
    have hdA : (L2.upd H1 p (.dK (mergeK [] [(kS "low", V.int lo), (kS "fresh", V.int 0), (kS "times", V.int 1), (kS "bonus", V.int 0)]))) p = some (.dK (mergeK [] [(kS "low", V.int lo), (kS "fresh", V.int 0), (kS "times", V.int 1), (kS "bonus", V.int 0)])) := upd_same
    revert kdA g1 g2 g3 g4 gl hpA hdA
    generalize L2.upd H1 p (.dK (mergeK [] [(kS "low", V.int lo), (kS "fresh", V.int 0), (kS "times", V.int 1), (kS "bonus", V.int 0)])) = HA
    generalize mergeK [] [(kS "low", V.int lo), (kS "fresh", V.int 0), (kS "times", V.int 1), (kS "bonus", V.int 0)] = kA
    intro kdA g1 g2 g3 g4 gl hpA hdA
    -- high
    refine op_go (ev_op (ev_dk (ev_var rfl) ev_c hdA g1) ev_c rv_I0) fun H2 e2 => ?_
    refine draw_go (n := 3 - 1) (ea_cons (ev_var rfl) (ea_cons (ev_op (ev_var rfl) ev_c rv_I0) ea_nil)) (hpA.mono e2) (by decide) (by decide) fun hh H3 kd3 hp3 h0 h1 => ⟨_, _, rfl, rfl, ?_⟩
    have hd3 := kd3 _ _ npa (e2 _ _ hdA)
    refine ⟨_, rfl, p, _, rfl, DPut.k (k := kS "high") (v := V.int (lo + 1 + hh)) hd3 (sz_lt (by omega)), ?_⟩
    have kdB : Kd a H (L2.upd H3 p (.dK (putK kA (kS "high") (V.int (lo + 1 + hh))))) := (kdA.trans ((Kd.of e2).trans kd3)).mut np
    have hdB : (L2.upd H3 p (.dK (putK kA (kS "high") (V.int (lo + 1 + hh))))) p = some (.dK (putK kA (kS "high") (V.int (lo + 1 + hh)))) := upd_same
    have hpB : PoolAt (L2.upd H3 p (.dK (putK kA (kS "high") (V.int (lo + 1 + hh))))) a := hp3.upd npa
    have vB : ∀ j, valV (putK kA (kS "high") (V.int (lo + 1 + hh))) j = if j = kS "high" then some (V.int (lo + 1 + hh)) else valV kA j := fun j => valV_put _ _ _ _
    have lB : (putK kA (kS "high") (V.int (lo + 1 + hh))).length ≤ 5 := by
      have := length_putK kA (kS "high") (V.int (lo + 1 + hh))
      omega
    revert kdB hdB hpB vB lB
    generalize L2.upd H3 p (.dK (putK kA (kS "high") (V.int (lo + 1 + hh)))) = HB
    generalize putK kA (kS "high") (V.int (lo + 1 + hh)) = kB
    intro kdB hdB hpB vB lB
    have b1 : valV kB (kS "low") = some (.int lo) := by rw [vB, if_neg (by decide +kernel), g1]
    have b2 : valV kB (kS "fresh") = some (.int 0) := by rw [vB, if_neg (by decide +kernel), g2]
    have b3 : valV kB (kS "times") = some (.int 1) := by rw [vB, if_neg (by decide +kernel), g3]
    have b4 : valV kB (kS "bonus") = some (.int 0) := by rw [vB, if_neg (by decide +kernel), g4]
    have b5 : valV kB (kS "high") = some (.int (lo + 1 + hh)) := by rw [vB, if_pos rfl]
    -- rows, wide
    refine par_go (cons_go (el_lst ea_nil (by decide) HB (Ex.refl HB) _ fun rl H4 hrl e4 hl4 => ?_))
    refine cons_go (call_go (cons_go (var_go rfl ?_)))
    refine cons_go ((el_lst (ea_cons ev_c (ea_cons ev_c (ea_cons ev_c (ea_cons ev_c ea_nil)))) (by decide)) H4 (Ex.refl H4) _ fun wl H6 hw6 e6 hl6 => ?_)
    have hp6 := hpB.mono (e4.trans e6)
    have ha6 : ∃ xs, HB a = some (.lst xs) := let ⟨x, y, h, _⟩ := hpB; ⟨_, h⟩
    obtain ⟨xsB, haB⟩ := ha6
    have nrp : rl ≠ p := (ne_of_none hdB hrl).symm
    have nra : rl ≠ a := (ne_of_none haB hrl).symm
    have nwa : wl ≠ a := (ne_of_none (e4 _ _ haB) hw6).symm
    refine ⟨a, wl, _, rfl, hp6, hl6, nwa, by simp, by decide, fun r H7 kd7 hp7 hr7 => ?_⟩
    obtain ⟨wd, rfl, w0, w9⟩ : ∃ wd : Int, r = .int wd ∧ 0 ≤ wd ∧ wd ≤ 9 := by
      simp only [List.mem_cons, List.not_mem_nil, or_false] at hr7
      rcases hr7 with rfl | rfl | rfl | rfl <;> exact ⟨_, rfl, by decide, by decide⟩
    refine ⟨_, _, rfl, ?_⟩
    have kd47 : Kd a H4 H7 := (Kd.of e6).trans kd7
    have hd7 := kd47 _ _ npa (e4 _ _ hdB)
    have hl7 := kd47 _ _ nra hl4
    have kdH7 : Kd a H H7 := kdB.trans ((Kd.of e4).trans kd47)
    have nr : H rl = none := by
      cases hq : H rl with
      | none => rfl
      | some o => exact absurd (kdB _ _ nra hq) (by rw [hrl]; exact fun z => nomatch z)
    -- the borders
    dsimp only
    refine seq_go (forL_go (sl_go (lst_go ?_)))
    refine cons_go (c_go (cons_go (c_go (cons_go (op_go ev_c fun H10 e710 => ?_)))))
    refine draw_go (n := 3) (ea_cons (ev_var rfl) (ea_cons ev_c ea_nil)) (hp7.mono e710) (by decide) (by decide) fun dr H11 kd11 hp11 dr0 dr3 => ⟨_, _, rfl, rfl, ?_⟩
    refine ⟨(by show 3 ≤ _; decide), fun bl hbl => ?_⟩
    have nbp : bl ≠ p := (ne_of_none (kd11 _ _ npa (e710 _ _ hd7)) hbl).symm
    have nbr : bl ≠ rl := (ne_of_none (kd11 _ _ nra (e710 _ _ hl7)) hbl).symm
    obtain ⟨x11, y11, ha11, _⟩ := id hp11
    have nba : bl ≠ a := (ne_of_none ha11 hbl).symm
    refine nopart_go (part_go (op_go ev_c fun H12 e12 => ?_))
    refine draw_go (n := 3) (ea_cons (ev_var rfl) (ea_cons ev_c ea_nil)) ((hp11.mono (Ex.new hbl)).mono e12) (by decide) (by decide) fun d2 H13 kd13 hp13 d20 d23 => ⟨_, _, rfl, rfl, _, rfl, ?_⟩
    have kd1113 : Kd a H11 H13 := ((Kd.of (Ex.new hbl)).trans (Kd.of e12)).trans kd13
    refine ⟨bl, _, rfl, SqL.of (kd13 _ _ nba (e12 _ _ upd_same)), fun cl hcl => ?_⟩
    have kd713 : Kd a H7 H13 := ((Kd.of e710).trans kd11).trans kd1113
    have hd13 := kd713 _ _ npa hd7
    have hl13 := kd713 _ _ nra hl7
    have ncp : cl ≠ p := (ne_of_none hd13 hcl).symm
    have ncr : cl ≠ rl := (ne_of_none hl13 hcl).symm
    obtain ⟨x13, y13, ha13, _⟩ := id hp13
    have nca : cl ≠ a := (ne_of_none ha13 hcl).symm
    have hxs : ∃ xs : List V, cutV [V.int 0, V.int 1, V.int (1 + dr)] none (some (1 + d2)) = xs ∧ xs.length ≤ 3 ∧ xs[0]? = some (V.int 0) ∧ ∀ (i : Nat) x, xs[i]? = some x → ∃ n : Int, x = .int n := by
      refine ⟨_, rfl, ?_⟩
      have : (1 + d2 : Int) = ((1 + d2).toNat : Nat) := by omega
      rw [this, cutV_take]
      obtain ⟨k, hk⟩ : ∃ k, (1 + d2).toNat = k + 1 := ⟨d2.toNat, by omega⟩
      rw [hk]
      refine ⟨by rw [List.length_take]; exact Nat.le_trans (Nat.min_le_right _ _) (Nat.le_refl 3), rfl, fun i x hx => ?_⟩
      have hm := List.mem_of_mem_take (List.mem_of_getElem? hx)
      simp only [List.not_mem_nil, List.mem_cons, or_false] at hm
      rcases hm with rfl | rfl | rfl <;> exact ⟨_, rfl⟩
    obtain ⟨xs, hxe, hx3, hx0, hxi⟩ := hxs
    refine ⟨cl, rfl, ⟨xs, SqL.of (by rw [upd_same]; exact congrArg (fun z => some (HO.lst z)) hxe)⟩, for_list (xs := xs) (fun i σ' H' => Kd a H H' ∧ PoolAt H' a ∧ H' p = some (.dK kB) ∧ H' cl = some (.lst xs) ∧
      ∃ x5 rs, σ' = [some (.ref a), some (.int 3), some (.ref p), some (.ref rl), some (.int wd), x5, none] ∧ H' rl = some (.lst rs) ∧ rs.length ≤ i ∧ (∀ r ∈ rs, ∃ bd, RowE H' r bd) ∧ (0 < i → ∃ r0 rs', rs = r0 :: rs' ∧ RowE H' r0 0)) ?_ ?_ ?_ ?_⟩
    · refine ⟨(kdH7.trans kd713).trans (Kd.of (Ex.new hcl)), hp13.mono (Ex.new hcl), Ex.new hcl _ _ hd13, ?_, none, [], rfl, Ex.new hcl _ _ hl13, Nat.le_refl _, (fun r hr => by cases hr), fun z => absurd z (by decide)⟩
      rw [upd_same]
      exact congrArg (fun z => some (HO.lst z)) hxe
    · exact fun i σ' H' _ q => SqL.of q.2.2.2.1
    · rintro i x σ' H' hx ⟨q1, q2, q3, q4, x5, rs, rfl, q6, q7, q8, q9⟩
      obtain ⟨n, rfl⟩ := hxi i x hx
      have hi : i < xs.length := (List.getElem?_eq_some_iff.mp hx).1
      show tIfS _ _ _ _ _ _
      have nx0 : rs = [] → n = 0 := fun hz => by
        have : i = 0 := by
          rcases Nat.eq_zero_or_pos i with h | h
          · exact h
          · obtain ⟨r0, rs', h1, _⟩ := q9 h
            rw [hz] at h1
            cases h1
        subst this
        rw [hx0] at hx
        injection hx with hx
        injection hx with hx
        exact hx.symm
      have last : ∀ H1, Ex H' H1 → ∀ r0 rt, rs = r0 :: rt → ∃ (r : V) (bd : Int), atI rs (-1) = some r ∧ RowE H1 r bd := fun H1 e1 r0 rt hrs => by
        have hne : rs ≠ [] := by rw [hrs]; exact fun z => nomatch z
        refine ⟨rs.getLast hne, ?_⟩
        obtain ⟨bd, hb⟩ := q8 _ (List.getLast_mem hne)
        refine ⟨bd, ?_, hb.mono (Tx.of e1)⟩
        have := atI_last rs.dropLast (rs.getLast hne)
        rwa [List.dropLast_concat_getLast] at this
      have hev : ∃ b : Bool, (b = false → rs ≠ []) ∧ EvT (tOr (tTest (tOp (rEqD K) (tVar 3) (tLst tNil))) (tTest (tOp (rI0 fun i j => V.bl (decide (j < i))) (tVar 5) (tOp (rIxT K) (tOp (rIxL K) (tVar 3) (tUn (rU fun i => V.int (-i)) (tC (V.int 1)))) (tC (V.int 0)))))) ([some (.ref a), some (.int 3), some (.ref p), some (.ref rl), some (.int wd), some (.int n), none]) H' b := by
        cases hrs : rs with
        | nil =>
          have := et_or (b := false) (t := tTest (tOp (rEqD K) (tVar 3) (tLst tNil))) (u := tTest (tOp (rI0 fun i j => V.bl (decide (j < i))) (tVar 5) (tOp (rIxT K) (tOp (rIxL K) (tVar 3) (tUn (rU fun i => V.int (-i)) (tC (V.int 1)))) (tC (V.int 0))))) (et_test (ev_eqNil (K := K) (ev_var (σ := [some (.ref a), some (.int 3), some (.ref p), some (.ref rl), some (.int wd), some (.int n), none]) (i := 3) rfl) q6 q8)) (fun z => by rw [hrs] at z; cases z)
          rw [hrs] at this
          exact ⟨_, (fun z => by cases z), this⟩
        | cons r0 rt =>
          obtain ⟨r, bd, h1, ra, w1, w2, w3, rfl, h3, _⟩ := last H' (Ex.refl H') r0 rt hrs
          refine ⟨_, fun _ z => (by cases z), et_or (et_test (ev_eqNil (ev_var rfl) q6 q8)) fun _ => et_test (ev_op (ev_var rfl) (ev_ixT (j := 0) (ev_op (ev_var rfl) (ev_un ev_c ru_neg) (rv_ixL (SqL.of q6) h1)) ev_c h3 rfl) rv_I0)⟩
      obtain ⟨b, hb, hev⟩ := hev
      refine row_if (a := a) (n := n) (wd := wd) (rl := rl) (rs := rs) hev rfl rfl rfl rfl w0 w9 q2 q6 nra (by omega) (fun hf H1 e1 => ?_) (fun H1 r kd1 hp1 tx1 hr => ?_)
      · refine ⟨q1.trans (Kd.of e1), q2.mono e1, e1 _ _ q3, e1 _ _ q4, some (.int n), rs, rfl, e1 _ _ q6, by omega, fun r hr => let ⟨bd, z⟩ := q8 r hr; ⟨bd, z.mono (Tx.of e1)⟩, fun _ => ?_⟩
        cases hrs : rs with
        | nil => exact absurd hrs (hb hf)
        | cons r0 rt =>
          have : 0 < i := by
            rw [hrs] at q7
            simp only [List.length_cons] at q7
            omega
          obtain ⟨r1, rs1, z1, z2⟩ := q9 this
          rw [← hrs]
          exact ⟨r1, rs1, z1, z2.mono (Tx.of e1)⟩
      · have tu : Tx H1 (L2.upd H1 rl (.lst (rs ++ [r]))) := (Kd.upd rl H1 _).txL (kd1 _ _ nra q6)
        refine ⟨(q1.trans kd1).mut nr, hp1.upd nra, ?_, ?_, some (.int n), rs ++ [r], rfl, upd_same, ?_, ?_, fun _ => ?_⟩
        · rw [upd_ne nrp.symm]
          exact kd1 _ _ npa q3
        · rw [upd_ne ncr]
          exact kd1 _ _ nca q4
        · rw [List.length_append, List.length_singleton]
          omega
        · intro r' hr'
          rcases List.mem_append.mp hr' with h | h
          · obtain ⟨bd, z⟩ := q8 r' h
            exact ⟨bd, z.mono (tx1.trans tu)⟩
          · cases List.mem_singleton.mp h
            exact ⟨n, hr.mono tu⟩
        · cases hrs : rs with
          | nil =>
            have n0 := nx0 hrs
            rw [hrs] at tu
            exact ⟨r, [], rfl, n0 ▸ hr.mono tu⟩
          | cons r0 rt =>
            have : 0 < i := by
              rw [hrs] at q7
              simp only [List.length_cons] at q7
              omega
            obtain ⟨r1, rs1, z1, z2⟩ := q9 this
            rw [hrs] at z1
            injection z1 with z1 z3
            subst z1
            rw [hrs] at tu
            exact ⟨r0, rt ++ [r], rfl, z2.mono (tx1.trans tu)⟩
    · rintro σ' H' ⟨q1, q2, q3, q4, x5, rs, rfl, q6, q7, q8, q9⟩
      dsimp only
      refine seq_go ?_
      refine ⟨_, rfl, _, rfl, p, _, rfl, DPut.k (k := kS "table") (v := V.ref rl) q3 (sz_lt (by omega)), ?_⟩
      have hx1 : 0 < xs.length := (List.getElem?_eq_some_iff.mp hx0).1
      have ta0 : TableAt H' rl := by
        obtain ⟨r0, rs', z1, z2⟩ := q9 hx1
        subst z1
        simp only [List.length_cons] at q7
        exact ⟨r0, rs', q6, by omega, z2, q8⟩
      have taC : TableAt (L2.upd H' p (.dK (putK kB (kS "table") (V.ref rl)))) rl := ta0.put nrp q3
      have kdC : Kd a H (L2.upd H' p (.dK (putK kB (kS "table") (V.ref rl)))) := q1.mut np
      have hpC : PoolAt (L2.upd H' p (.dK (putK kB (kS "table") (V.ref rl)))) a := q2.upd npa
      have hdC : (L2.upd H' p (.dK (putK kB (kS "table") (V.ref rl)))) p = some (.dK (putK kB (kS "table") (V.ref rl))) := upd_same
      have lkC : Lk (putK kB (kS "table") (V.ref rl)) ⟨lo, lo + 1 + hh, 0, 1, 0⟩ rl := by
        refine ⟨?_, ?_, ?_, ?_, ?_, ?_⟩
        · rw [valV_put, if_neg (by decide +kernel)]; exact b1
        · rw [valV_put, if_neg (by decide +kernel)]; exact b5
        · rw [valV_put, if_neg (by decide +kernel)]; exact b2
        · rw [valV_put, if_neg (by decide +kernel)]; exact b3
        · rw [valV_put, if_neg (by decide +kernel)]; exact b4
        · rw [valV_put, if_pos rfl]
      have lnC : (putK kB (kS "table") (V.ref rl)).length ≤ 6 := by
        have := length_putK kB (kS "table") (V.ref rl)
        omega
      revert taC kdC hpC hdC lkC lnC
      generalize L2.upd H' p (.dK (putK kB (kS "table") (V.ref rl))) = HC
      generalize putK kB (kS "table") (V.ref rl) = kC
      intro taC kdC hpC hdC lkC lnC
      have okC : BookOk ⟨lo, lo + 1 + hh, 0, 1, 0⟩ := ⟨l0, (by show lo ≤ 2; omega), (by show lo < lo + 1 + hh; omega), (by show lo + 1 + hh ≤ lo + 2; omega), (by show (0 : Int) ≤ 0; decide), (by show (0 : Int) ≤ 2; decide), (by show (1 : Int) ≤ 1; decide), (by show (1 : Int) ≤ 3; decide), (by show (0 : Int) ≤ 0; decide), (by show (0 : Int) ≤ 3; decide)⟩
      dsimp only
      refine seq_go (asg_go ?_)
      refine draw_go (n := 4) (ea_cons (ev_var rfl) (ea_cons ev_c ea_nil)) hpC (by decide) (by decide) fun kd H5 kd5 hp5 _ _ => ?_
      have ta5 := taC.kd kd5 hpC nra
      have hd5 := kd5 _ _ npa hdC
      have kdH5 := kdC.trans kd5
      show tCut _ _ _ _ _
      refine ⟨fun σ' H' => σ' = [some (.ref a), some (.int 3), some (.ref p), some (.ref rl), some (.int wd), x5, some (.int kd)] ∧ Kd a H H' ∧ PoolAt H' a ∧ TableAt H' rl ∧ ∃ kvs b, H' p = some (.dK kvs) ∧ kvs.length ≤ 8 ∧ Lk kvs b rl ∧ BookOk b, ?_, ?_⟩
      · refine s_when (et_test (ev_op (ev_var rfl) ev_c (rv_eq rfl))) (fun _ H6 e6 => ?_) (fun _ H6 e6 => ⟨rfl, kdH5.trans (Kd.of e6), hp5.mono e6, ta5.mono e6, kC, _, e6 _ _ hd5, by omega, lkC, okC⟩)
        refine asg_go (tup_go (cons_go (op_go ev_c fun H7 e7 => ?_)))
        refine draw_go (n := 2) (ea_cons (ev_var rfl) (ea_cons ev_c ea_nil)) (hp5.mono (e6.trans e7)) (by decide) (by decide) fun fr H8 kd8 hp8 fr0 fr2 => ⟨_, _, rfl, rfl, ?_⟩
        refine cons_go (op_go ev_c fun H9 e9 => ?_)
        refine draw_go (n := 3) (ea_cons (ev_var rfl) (ea_cons ev_c ea_nil)) (hp8.mono e9) (by decide) (by decide) fun ti H10 kd10 hp10 ti0 ti3 => ⟨_, _, rfl, rfl, ?_⟩
        refine ⟨(by show 2 ≤ _; decide), fun tp htp => ?_⟩
        have ta10 := (((ta5.mono (e6.trans e7)).kd kd8 (hp5.mono (e6.trans e7)) nra).mono e9).kd kd10 (hp8.mono e9) nra
        have kd510 : Kd a H5 H10 := (((Kd.of (e6.trans e7)).trans kd8).trans (Kd.of e9)).trans kd10
        have hd11 := Ex.new htp (o := .tup [V.int (1 + fr), V.int (1 + ti)]) _ _ (kd510 _ _ npa hd5)
        refine ⟨tp, _, rfl, SqT.of upd_same, rfl, ?_⟩
        refine ⟨_, _, rfl, _, rfl, p, _, rfl, DPut.k (k := kS "fresh") (v := V.int (1 + fr)) hd11 (sz_lt (by omega)), ?_⟩
        have l1 := length_putK kC (kS "fresh") (V.int (1 + fr))
        have l2 := length_putK (putK kC (kS "fresh") (V.int (1 + fr))) (kS "times") (V.int (1 + ti))
        refine ⟨_, _, rfl, _, rfl, p, _, rfl, DPut.k (k := kS "times") (v := V.int (1 + ti)) upd_same (sz_lt (by omega)), rfl, rfl, ?_⟩
        refine ⟨(((kdH5.trans kd510).trans (Kd.of (Ex.new htp))).mut np).mut np, ((hp10.mono (Ex.new htp)).upd npa).upd npa, ((ta10.mono (Ex.new htp)).put nrp hd11).put nrp upd_same, _, _, upd_same, by omega, (lkC.fresh (1 + fr)).times (1 + ti), ?_⟩
        exact ⟨okC.lo0, okC.lo2, okC.hi1, okC.hi2, (by show 0 ≤ 1 + fr; omega), (by show 1 + fr ≤ 2; omega), (by show 1 ≤ 1 + ti; omega), (by show 1 + ti ≤ 3; omega), okC.bo0, okC.bo3⟩
      · rintro σ' H6 ⟨rfl, kd6, hp6', ta6, kvs, b, hd6, ln6, lk6, ok6⟩
        refine ⟨fun σ' H' => σ' = [some (.ref a), some (.int 3), some (.ref p), some (.ref rl), some (.int wd), x5, some (.int kd)] ∧ Kd a H H' ∧ PoolAt H' a ∧ TableAt H' rl ∧ ∃ kvs b, H' p = some (.dK kvs) ∧ Lk kvs b rl ∧ BookOk b, ?_, ?_⟩
        · refine s_when (et_test (ev_op (ev_var rfl) ev_c (rv_eq rfl))) (fun _ H7 e7 => ?_) (fun _ H7 e7 => ⟨rfl, kd6.trans (Kd.of e7), hp6'.mono e7, ta6.mono e7, kvs, _, e7 _ _ hd6, lk6, ok6⟩)
          refine op_go ev_c fun H8 e8 => ?_
          refine draw_go (n := 3) (ea_cons (ev_var rfl) (ea_cons ev_c ea_nil)) (hp6'.mono (e7.trans e8)) (by decide) (by decide) fun bo H9 kd9 hp9 bo0 bo3 => ⟨_, _, rfl, rfl, ?_⟩
          have hd9 := kd9 _ _ npa ((e7.trans e8) _ _ hd6)
          refine ⟨_, rfl, p, _, rfl, DPut.k (k := kS "bonus") (v := V.int (1 + bo)) hd9 (sz_lt (by omega)), ?_⟩
          refine ⟨rfl, ((kd6.trans (Kd.of (e7.trans e8))).trans kd9).mut np, hp9.upd npa, (((ta6.mono (e7.trans e8)).kd kd9 (hp6'.mono (e7.trans e8)) nra)).put nrp hd9, _, _, upd_same, lk6.bonus (1 + bo), ?_⟩
          exact ⟨ok6.lo0, ok6.lo2, ok6.hi1, ok6.hi2, ok6.fr0, ok6.fr2, ok6.ti1, ok6.ti3, (by show 0 ≤ 1 + bo; omega), (by show 1 + bo ≤ 3; omega)⟩
        · rintro σ' H7 ⟨rfl, kd7', hp7', ta7, kvs', b', hd7', lk7, ok7⟩
          exact s_ret (ev_var rfl) fun H8 e8 => k p b' H8 (kd7'.trans (Kd.of e8)) (hp7'.mono e8) ok7 (BookAt.mono e8 ⟨kvs', rl, hd7', lk7.lo, lk7.hi, lk7.fr, lk7.ti, lk7.bo, lk7.ta, ta7⟩)
end
end M10

namespace M10
open PySem PySem.Spec L2 Evl StX
section
variable {σ : L2.St} {H : Hp}
theorem lc_go {wi : TI} {g : TG} {tt : TT} {te : TE} {vs : List Nat} {Q : VK} (h : wi σ H fun J H1 => ∀ D, H1 D = none → ∃ W : Nat → Nat → Hp → Prop, (∃ m, W 0 m (L2.upd H1 D (.lst []))) ∧ ∀ i m H, W i m H →
    (J.stop i H ∧ Q (.ref D) H) ∨ (J.go i H ∧ ∃ N1 : Hp → Prop, (∀ H', N1 H' → ∃ m', m' < m ∧ W (i + 1) m' H') ∧ ∀ x H', J.yld i H x H' → g x (wipe σ vs) H' fun σ2 H2 => wipe σ2 vs = wipe σ vs ∧ tt σ2 H2 fun b H3 =>
      if b = true then te σ2 H3 fun y H4 => ∃ acc, H4 D = some (.lst acc) ∧ acc.length < sizeLine ∧ N1 (L2.upd H4 D (.lst (acc ++ [y]))) else N1 H3)) : tLc wi g tt te vs σ H Q := h
theorem rng_go {ta : TA} {R : It → Hp → Prop} (h : ta σ H fun vs H1 => ∃ j : Int, vs = [.int j] ∧ -(2 ^ 62) ≤ j ∧ j < 2 ^ 62 ∧ R (Itr 0 j.toNat) H1) : iRng1 ta σ H R := h
theorem for_go {wi : TI} {g : TG} {tb : TS} {D : Ends} (h : wi σ H fun J H1 => ∃ W : Nat → Nat → L2.St → Hp → Prop, (∃ m, W 0 m σ H1) ∧ ∀ i m σ H, W i m σ H →
    (J.stop i H ∧ D.nx σ H) ∨ (J.go i H ∧ ∃ N : L2.St → Hp → Prop, (∀ σ' H', N σ' H' → ∃ m', m' < m ∧ W (i + 1) m' σ' H') ∧ ∀ x H', J.yld i H x H' → g x σ H' fun σ2 H2 => tb { D with nx := N, ct := N, bk := D.nx } σ2 H2)) : tFor wi g tb D σ H := h
theorem cb_go {r : List V → Hp → VK → Prop} {t : TA} {Q : VK} (h : t σ H fun vs H1 => r vs H1 Q) : tCB r t σ H Q := h
end
theorem pl_of_mem {H : Hp} {vs : List V} {ps : List Place} {r : V} (h : Paired (PlA H) vs ps) (hr : r ∈ vs) : ∃ p, p ∈ ps ∧ PlA H r p := by
  obtain ⟨i, hi⟩ := List.getElem?_of_mem hr
  obtain ⟨p, h1, h2⟩ := pairedGet h hi
  exact ⟨p, List.mem_of_getElem? h1, h2⟩
theorem PoolAt.some {H : Hp} {a : Addr} (h : PoolAt H a) : ∃ xs, H a = some (.lst xs) := let ⟨_, _, h, _⟩ := h; ⟨_, h⟩
/-- n picked places -/
theorem picks_go {K : PySem.W.Frag} {a l : Addr} {n : Int} {c2 c3 c5 : Option V} {H : Hp} {pvs : List V} {ps : List Place} {Q : VK} (hp : PoolAt H a) (hl : H l = some (.lst pvs)) (hla : l ≠ a) (hps : Paired (PlA H) pvs ps) (hne : ps ≠ []) (hz : ps.length ≤ 1000) (n0 : 0 ≤ n) (n4 : n ≤ 4)
    (k : ∀ t H' qs, Kd a H H' → PoolAt H' a → PlsT H' (.ref t) qs → qs.length = n.toNat → (∀ q ∈ qs, q ∈ ps) → Q (.ref t) H') :
    tCB (fun xs H Q => ∃ p ys, xs = [V.ref p] ∧ ((SqL K H p ys ∧ ∀ l : Addr, H l = none → Q (.ref l) (L2.upd H l (.tup ys))) ∨ (SqT K H p ys ∧ Q (.ref p) H)))
      (tCons (tLc (iRng1 (tCons (tVar 4) tNil)) (gName 6) tYes (tCall spPick [] E0 (tCons (tVar 0) (tCons (tVar 1) tNil))) [6]) tNil) [some (.ref a), some (.ref l), c2, c3, some (.int n), c5, none] H Q := by
  refine cb_go (cons_go ?_)
  have hv : pvs ≠ [] := fun z => by
    subst z
    cases hps
    exact hne rfl
  refine lcR_by (n := n) (ea_cons (ev_var rfl) ea_nil) ⟨n0, by omega⟩ (fun _ => rfl) (fun H1 D i H' => Kd a H1 H' ∧ PoolAt H' a ∧ ∃ ws qs, H' D = some (.lst ws) ∧ Paired (PlA H') ws qs ∧ qs.length = i ∧ ∀ q ∈ qs, q ∈ ps)
    (fun H1 D e1 nD => ⟨Kd.of (Ex.new nD), (hp.mono e1).mono (Ex.new nD), [], [], upd_same, .nil, rfl, fun q hq => by cases hq⟩) ?_ ?_
  · rintro H1 D i H' e1 nD hi ⟨kd, hp', ws, qs, hD, hq, hl', hm⟩
    obtain ⟨xs1, hx1⟩ := (hp.mono e1).some
    have nDa : D ≠ a := (ne_of_none hx1 nD).symm
    have nDl : D ≠ l := (ne_of_none (e1 _ _ hl) nD).symm
    have hl1 := kd _ _ hla (e1 _ _ hl)
    refine pick_go (ea_cons (ev_var rfl) (ea_cons (ev_var rfl) ea_nil)) hp' hl1 hla hv (by rw [pairedLen hps]; exact hz) fun r H4 kd4 hp4 hr => ?_
    obtain ⟨ys, hy⟩ := hp'.some
    obtain ⟨ys1, hy1⟩ := hp.some
    have t1 : Tx H H' := (Tx.of e1).trans (kd.txL hx1)
    have t4 : Tx H' H4 := kd4.txL hy
    have hw := pairedLen hq
    obtain ⟨p, pm, hpl⟩ := pl_of_mem (plsMono (t1.trans t4) hps) hr
    have tm : Tx H4 (L2.upd H4 D (.lst (ws ++ [r]))) := Tx.lst (kd4 _ _ nDa hD)
    refine ⟨ws, kd4 _ _ nDa hD, sz_lt (by omega), (kd.trans kd4).mut nD, hp4.upd nDa, ws ++ [r], qs ++ [p], upd_same, pairedApp (plsMono (t4.trans tm) hq) (.cons (hpl.mono tm) .nil), ?_, ?_⟩
    · rw [List.length_append, hl']
      rfl
    · intro q hq'
      rcases List.mem_append.mp hq' with h | h
      · exact hm q h
      · cases List.mem_singleton.mp h
        exact pm
  · rintro H1 D H' e1 nD ⟨kd, hp', ws, qs, hD, hq, hl', hm⟩
    refine ⟨D, ws, rfl, .inl ⟨SqL.of hD, fun t nt => ?_⟩⟩
    exact k t _ qs (((Kd.of e1).trans kd).trans (Kd.of (Ex.new nt))) (hp'.mono (Ex.new nt)) ⟨t, ws, rfl, upd_same, plsMono (Tx.new nt) hq⟩ hl' hm
def mkPl (n : Nat) : List Place := (List.range n).map fun i => [((i : Nat) : Int)]
theorem mkPl_snoc (n : Nat) : mkPl (n + 1) = mkPl n ++ [[(n : Int)]] := by
  unfold mkPl
  rw [List.range_succ, List.map_append]
  rfl
theorem mkPl_len (n : Nat) : (mkPl n).length = n := by simp [mkPl]
theorem mem_mkPl {n : Nat} {p : Place} : p ∈ mkPl n ↔ ∃ j : Nat, j < n ∧ p = [(j : Int)] := by
  unfold mkPl
  rw [List.mem_map]
  constructor
  · rintro ⟨j, hj, rfl⟩
    exact ⟨j, List.mem_range.mp hj, rfl⟩
  · rintro ⟨j, hj, rfl⟩
    exact ⟨j, List.mem_range.mpr hj, rfl⟩
theorem mkPl_asc : ∀ n, Asc lx (mkPl n)
  | 0 => .nil
  | n + 1 => by
    rw [mkPl_snoc]
    unfold Asc
    rw [List.pairwise_append]
    refine ⟨mkPl_asc n, by simp, fun x hx y hy => ?_⟩
    obtain ⟨j, hj, rfl⟩ := mem_mkPl.mp hx
    rw [List.mem_singleton] at hy
    subst hy
    show HT.lexLt [(j : Int)] [(n : Int)] = true
    rw [HT.lexLt_cons, if_neg (by omega)]
    exact (decide_eq_true (by omega))
section
variable {K : PySem.W.Frag} {P : Program} {w : World} {mg : Str → Option Value} {base : Heap}
/-! ### _law_ways -/
def spWays : Sp := fun vs H Q _ => ∃ (a : Addr), vs = [.ref a] ∧ PoolAt H a ∧ ∀ r pv mv ps ms H', Kd a H H' → PoolAt H' a → H' r = some (.lst [pv, mv]) → PlsL H' pv ps → MvsL H' mv ms → VWays ps ms → Q (.ref r) H'
theorem scWays : FnScope ["_law_pool_here", "_law_places_here", "_law_moves_here", "_law_turn", "_law_size", "_law_ins", "_law_at"] ["_law_pool_here"] (defScope sLWays) := ⟨rfl, rfl, rfl, by decide +kernel, rfl, by decide +kernel, by decide +kernel⟩
theorem ok_ways (T : Txt K mg) (D : DefAt K mg "_law_ways" sLWays ["_law_pool_here"]) (G1 : Callee P w K mg base 1 "_law_draw" ["_law_pool_here", "_law_many"] spDraw) (G2 : Callee P w K mg base 2 "_law_pick" ["_law_pool_here", "_law_row"] spPick) :
    Callee P w K mg base 3 "_law_ways" ["_law_pool_here"] spWays := by
  obtain ⟨f1, fd1, F1, m1, k1, b1⟩ := G1
  obtain ⟨f2, fd2, F2, m2, k2, b2⟩ := G2
  refine D.callee fun f fd F => F.ok scWays (fun vs H Q E h => ?_) (fun cdv A outer s H vs Q E hr h => ?_)
  · obtain ⟨a, rfl, _⟩ := h
    rfl
  · obtain ⟨a, rfl, hp, k⟩ := h
    have hr1 : Room 1 _ := hr.mono (by decide)
    refine ⟨_, (pss_cons (ps_set (i := 1) scWays.nd rfl (Or.inr rfl) (pe_lc (own := [("_law_at", 6)]) (g := gName 6) (tt := tYes) (by rfl) scWays.nd (pi_range1 (by rfl) T.range (pa_cons (pe_op op_add pe_int (pe_call F1 hr1 (by rfl) m1 k1 b1 .nil pass0 (pa_cons (pv 0) (pa_cons pe_int pa_nil)))) pa_nil)) (blkOk_by (own := [("_law_at", 6)]) (N := ["_law_pool_here", "_law_places_here", "_law_moves_here", "_law_turn", "_law_size", "_law_ins", "_law_at"]) (sc := defScope sLWays) (by decide +kernel)) (fun _ _ _ _ _ => pg_name (i := 6) scWays.nd rfl (Or.inl rfl)) (fun _ _ _ _ _ => pts_nil) (fun _ _ _ _ _ => (pe_tup (pa_cons (pv 6) pa_nil)))))
      (pss_cons (ps_set (i := 2) scWays.nd rfl (Or.inl rfl) (pe_lst pa_nil))
      (pss_cons (ps_for PassesOwn.never rfl (pi_range1 (by rfl) T.range (pa_cons (pe_call F1 hr1 (by rfl) m1 k1 b1 .nil pass0 (pa_cons (pv 0) (pa_cons pe_int pa_nil))) pa_nil)) (pg_name (i := 3) scWays.nd rfl (Or.inl rfl))
        (pss_cons (ps_set (i := 4) scWays.nd rfl (Or.inl rfl) (pe_call F2 hr (by rfl) m2 k2 b2 .nil pass0 (pa_cons (pv 0) (pa_cons (pe_lst (pa_cons pe_int (pa_cons pe_int (pa_cons pe_int (pa_cons pe_int (pa_cons pe_int pa_nil)))))) pa_nil))))
        (pss_cons (ps_set (i := 5) scWays.nd rfl (Or.inl rfl) (pe_callTy call_tuple_of (by rfl) T.tuple (by decide +kernel) (pa_cons (pe_lc (own := [("_law_at", 6)]) (g := gName 6) (tt := tYes) (by rfl) scWays.nd (pi_range1 (by rfl) T.range (pa_cons (pv 4) pa_nil)) (blkOk_by (own := [("_law_at", 6)]) (N := ["_law_pool_here", "_law_places_here", "_law_moves_here", "_law_turn", "_law_size", "_law_ins", "_law_at"]) (sc := defScope sLWays) (by decide +kernel)) (fun _ _ _ _ _ => pg_name (i := 6) scWays.nd rfl (Or.inl rfl)) (fun _ _ _ _ _ => pts_nil) (fun _ _ _ _ _ => (pe_call F2 hr (by rfl) m2 k2 b2 .nil pass0 (pa_cons (pv 0) (pa_cons (pv 1) pa_nil))))) pa_nil)))
        (pss_one (ps_expr (pe_bm PySem.F.plainAttrs_list PySem.F.slot_list_append PySem.F.type_list_append mt_append (pv 2) (pa_cons (pe_tup (pa_cons (pv 5) (pa_cons (pe_call F2 hr (by rfl) m2 k2 b2 .nil pass0 (pa_cons (pv 0) (pa_cons (pe_lst (pa_cons pe_str (pa_cons pe_str (pa_cons pe_str pa_nil)))) pa_nil))) (pa_cons (pe_callTy call_tuple_of (by rfl) T.tuple (by decide +kernel) (pa_cons (pe_lc (own := [("_law_at", 6)]) (g := gName 6) (tt := tYes) (by rfl) scWays.nd (pi_range1 (by rfl) T.range (pa_cons (pv 4) pa_nil)) (blkOk_by (own := [("_law_at", 6)]) (N := ["_law_pool_here", "_law_places_here", "_law_moves_here", "_law_turn", "_law_size", "_law_ins", "_law_at"]) (sc := defScope sLWays) (by decide +kernel)) (fun _ _ _ _ _ => pg_name (i := 6) scWays.nd rfl (Or.inl rfl)) (fun _ _ _ _ _ => pts_nil) (fun _ _ _ _ _ => (pe_call F2 hr (by rfl) m2 k2 b2 .nil pass0 (pa_cons (pv 0) (pa_cons (pv 1) pa_nil))))) pa_nil)) pa_nil)))) pa_nil)))))))
      (pss_one (ps_ret (pe_lst (pa_cons (pv 1) (pa_cons (pv 2) pa_nil)))))))), ?_⟩
    refine seq_go (asg_go (lc_go (rng_go (cons_go (op_go ev_c fun H1 e1 => ?_)))))
    refine draw_go (n := 6) (ea_cons (ev_var rfl) (ea_cons ev_c ea_nil)) (hp.mono e1) (by decide) (by decide) fun d H2 kd2 hp2 d0 d6 => ⟨_, _, rfl, rfl, ?_⟩
    obtain ⟨n, hn, n1, n6⟩ : ∃ n : Nat, (1 + d) = (n : Int) ∧ 1 ≤ n ∧ n ≤ 6 := ⟨(1 + d).toNat, by omega, by omega, by omega⟩
    refine ⟨1 + d, rfl, by omega, by omega, fun l nl => ?_⟩
    obtain ⟨xs2, hx2⟩ := hp2.some
    obtain ⟨xs0, hx0⟩ := hp.some
    have nla : l ≠ a := (ne_of_none hx2 nl).symm
    rw [hn]
    refine lc_range (lo := 0) (n := n) (fun i H' => Ex H2 H' ∧ ∃ ws, H' l = some (.lst ws) ∧ Paired (PlA H') ws (mkPl i)) ⟨Ex.new nl, [], upd_same, .nil⟩ (fun i H3 hi p => ?_) (fun H3 p => ?_)
    · obtain ⟨e3, ws, hl3, hws⟩ := p
      have e0 : ((0 : Int) + (i : Int)) = (i : Int) := Int.zero_add _
      refine ⟨rfl, tyes_go ?_⟩
      rw [e0]
      refine tup_go (cons_go (var_go rfl ⟨(by show 1 ≤ sizeLine; decide), fun t nt => ?_⟩))
      have hwl := pairedLen hws
      rw [mkPl_len] at hwl
      have nlt : l ≠ t := ne_of_none hl3 nt
      have et : Ex H3 (L2.upd H3 t (.tup [.int (i : Nat)])) := Ex.new nt
      have tm : Tx (L2.upd H3 t (.tup [.int (i : Nat)])) (L2.upd (L2.upd H3 t (.tup [.int (i : Nat)])) l (.lst (ws ++ [.ref t]))) := Tx.lst (et _ _ hl3)
      refine ⟨ws, et _ _ hl3, sz_lt (by omega), Ex.mut (e3.trans et) nl, ws ++ [.ref t], upd_same, ?_⟩
      rw [mkPl_snoc]
      refine pairedApp (plsMono ((Tx.of et).trans tm) hws) (.cons ⟨t, rfl, ?_⟩ .nil)
      exact tm _ _ upd_same
    · obtain ⟨e3, ws, hl3, hws⟩ := p
      have kdH3 : Kd a H H3 := ((Kd.of e1).trans kd2).trans (Kd.of e3)
      have hp3 := hp2.mono e3
      refine q_asgL (el_lst ea_nil (by decide)) fun ml H4 nml e4 hml => ?_
      have nma : ml ≠ a := (ne_of_none (e3 _ _ hx2) nml).symm
      have nml2 : ml ≠ l := (ne_of_none hl3 nml).symm
      have nmH : H ml = none := by
        cases hq : H ml with
        | none => rfl
        | some o => exact absurd (kdH3 _ _ nma hq) (by rw [nml]; exact fun z => nomatch z)
      refine seq_go (for_go (rng_go (cons_go ?_)))
      refine draw_go (n := 10) (ea_cons (ev_var rfl) (ea_cons ev_c ea_nil)) (hp3.mono e4) (by decide) (by decide) fun d5 H5 kd5 hp5 d50 d51 => ?_
      refine ⟨d5, rfl, by omega, by omega, for_range (lo := 0) (n := d5.toNat) (fun i σ' H' => ∃ c3 c4 c5 mvs ms, σ' = [some (.ref a), some (.ref l), some (.ref ml), c3, c4, c5, none] ∧ Kd a H H' ∧ PoolAt H' a ∧ H' l = some (.lst ws) ∧ Paired (PlA H') ws (mkPl n) ∧ H' ml = some (.lst mvs) ∧ Paired (MvA H') mvs ms ∧ ms.length ≤ i ∧ ∀ m ∈ ms, MvOk (mkPl n) m) ?_ ?_ ?_⟩
      · have t45 : Tx H4 H5 := kd5.txL (e4 _ _ (e3 _ _ hx2))
        exact ⟨none, none, none, [], [], rfl, (kdH3.trans (Kd.of e4)).trans kd5, hp5, kd5 _ _ nla (e4 _ _ hl3), plsMono ((Tx.of e4).trans t45) hws, kd5 _ _ nma hml, .nil, Nat.le_refl _, fun m hm => by cases hm⟩
      · rintro i σ' H' hi ⟨c3, c4, c5, mvs, ms, rfl, kd, hp', hl', hps', hm', hms, hlen, hok⟩
        have hneP : mkPl n ≠ [] := fun z => by
          have := mkPl_len n
          rw [z] at this
          simp at this
          omega
        have hlP : (mkPl n).length ≤ 1000 := by
          rw [mkPl_len]
          omega
        refine seq_go (asg_go (call_go (cons_go (var_go rfl (cons_go ?_)))))
        refine el_lst (ea_cons ev_c (ea_cons ev_c (ea_cons ev_c (ea_cons ev_c (ea_cons ev_c ea_nil))))) (by decide) H' (Ex.refl H') _ fun wl H6 hw6 e6 hl6 => ?_
        obtain ⟨xs', hx'⟩ := hp'.some
        have nwa : wl ≠ a := (ne_of_none hx' hw6).symm
        refine ⟨a, wl, _, rfl, hp'.mono e6, hl6, nwa, by simp, by decide, fun r H7 kd7 hp7 hr7 => ?_⟩
        obtain ⟨z, rfl, hz⟩ : ∃ z : Int, r = .int z ∧ (z = 1 ∨ z = 2 ∨ z = 4) := by
          simp only [List.mem_cons, List.not_mem_nil, or_false] at hr7
          rcases hr7 with rfl | rfl | rfl | rfl | rfl <;> exact ⟨_, rfl, by decide⟩
        have kd67 : Kd a H' H7 := (Kd.of e6).trans kd7
        have t67 : Tx H' H7 := kd67.txL hx'
        dsimp only
        refine seq_go (asg_go ?_)
        refine picks_go hp7 (kd67 _ _ nla hl') nla (plsMono t67 hps') hneP hlP (by omega) (by omega) fun t1 H8 q1 kd8 hp8 pt1 ln1 mm1 => ?_
        obtain ⟨xs7, hx7⟩ := hp7.some
        have t78 := kd8.txL hx7
        have kd68 := kd67.trans kd8
        have hm8 := kd68 _ _ nma hm'
        dsimp only
        refine drop_go (bm_go (var_go rfl ⟨.inl ⟨rfl, mvs, SqL.of hm8⟩, ?_⟩))
        refine cons_go (tup_go (cons_go (var_go rfl (cons_go (call_go (cons_go (var_go rfl (cons_go ?_))))))))
        refine el_lst (ea_cons ev_c (ea_cons ev_c (ea_cons ev_c ea_nil))) (by decide) H8 (Ex.refl H8) _ fun nl9 H9 hw9 e9 hl9 => ?_
        obtain ⟨xs8, hx8⟩ := hp8.some
        have nna : nl9 ≠ a := (ne_of_none hx8 hw9).symm
        refine ⟨a, nl9, _, rfl, hp8.mono e9, hl9, nna, by simp, by decide, fun r2 H10 kd10 hp10 hr10 => ?_⟩
        obtain ⟨nm, rfl⟩ : ∃ nm : Str, r2 = .str nm := by
          simp only [List.mem_cons, List.not_mem_nil, or_false] at hr10
          rcases hr10 with rfl | rfl | rfl <;> exact ⟨_, rfl⟩
        have kd810 : Kd a H8 H10 := (Kd.of e9).trans kd10
        have t810 := kd810.txL hx8
        refine cons_go ?_
        refine picks_go hp10 (kd810 _ _ nla (kd68 _ _ nla hl')) nla (plsMono ((t67.trans t78).trans t810) hps') hneP hlP (by omega) (by omega) fun t2 H11 q2 kd11 hp11 pt2 ln2 mm2 => ?_
        obtain ⟨xs10, hx10⟩ := hp10.some
        have t1011 := kd11.txL hx10
        have kd811 := kd810.trans kd11
        refine ⟨(by show 3 ≤ sizeLine; decide), fun tp ntp => ?_⟩
        have kd8p := kd811.trans (Kd.of (Ex.new (o := .tup [V.ref t1, V.str nm, V.ref t2]) ntp))
        have hmlen := pairedLen hms
        refine ⟨ml, mvs, _, rfl, rfl, kd8p _ _ nma hm8, sz_lt (by omega), ?_⟩
        have tp1 : Tx H11 (L2.upd H11 tp (.tup [V.ref t1, V.str nm, V.ref t2])) := Tx.new ntp
        have tp2 : Tx (L2.upd H11 tp (.tup [V.ref t1, V.str nm, V.ref t2])) (L2.upd (L2.upd H11 tp (.tup [V.ref t1, V.str nm, V.ref t2])) ml (.lst (mvs ++ [.ref tp]))) := Tx.lst (kd8p _ _ nma hm8)
        have tpp := tp1.trans tp2
        have tA := ((t67.trans t78).trans (t810.trans t1011)).trans tpp
        refine ⟨_, _, _, mvs ++ [.ref tp], ms ++ [⟨q1, q2⟩], rfl, (kd.trans (kd68.trans kd8p)).mut nmH, (hp11.mono (Ex.new ntp)).upd nma, ?_, plsMono tA hps', upd_same, ?_, ?_, ?_⟩
        · rw [upd_ne nml2.symm]
          exact kd8p _ _ nla (kd68 _ _ nla hl')
        · exact pairedApp (mvsMono tA hms) (.cons ⟨tp, .ref t1, nm, .ref t2, rfl, tp2 _ _ upd_same, pt1.mono ((t810.trans t1011).trans tpp), pt2.mono tpp⟩ .nil)
        · rw [List.length_append, List.length_singleton]
          omega
        · have plk : ∀ q, q ∈ mkPl n → Pl q := fun q hq => by
            obtain ⟨j, _, rfl⟩ := mem_mkPl.mp hq
            exact ⟨(fun z => nomatch z), by show 1 ≤ 50000; decide⟩
          intro m hm
          rcases List.mem_append.mp hm with h | h
          · exact hok m h
          · cases List.mem_singleton.mp h
            exact ⟨⟨by show q1.length = 1 ∨ q1.length = 2 ∨ q1.length = 4; omega, by show q2.length = q1.length; omega, mm1, mm2⟩, fun q hq => plk q (mm1 q hq), fun q hq => plk q (mm2 q hq)⟩
      · rintro σ' H' ⟨c3, c4, c5, mvs, ms, rfl, kd, hp', hl', hps', hm', hms, hlen, hok⟩
        refine s_retL (el_lst (ea_cons (ev_var rfl) (ea_cons (ev_var rfl) ea_nil)) (by show 2 ≤ 100000; decide)) fun r H6 nr e6 hr' => ?_
        refine k r _ _ (mkPl n) ms H6 (kd.trans (Kd.of e6)) (hp'.mono e6) hr' ⟨l, ws, rfl, e6 _ _ hl', plsMono (Tx.of e6) hps'⟩ ⟨ml, mvs, rfl, e6 _ _ hm', mvsMono (Tx.of e6) hms⟩ ⟨mkPl_asc n, fun z => ?_, by rw [mkPl_len]; omega, fun q hq => ?_, hok, by omega⟩
        · have := mkPl_len n
          rw [z] at this
          simp at this
          omega
        · obtain ⟨j, _, rfl⟩ := mem_mkPl.mp hq
          exact ⟨(fun z => nomatch z), by show 1 ≤ 50000; decide⟩
end
end M10

namespace M10
open PySem PySem.Spec L2 Evl StX
theorem if_go {t : TT} {u v : TS} {D : Ends} {σ : L2.St} {H : Hp} (h : t σ H fun b H1 => if b = true then u D σ H1 else v D σ H1) : tIfS t u v D σ H := h
theorem ret_go {te : TE} {D : Ends} {σ : L2.St} {H : Hp} (h : te σ H D.rt) : tRet te D σ H := h
section
variable {K : PySem.W.Frag} {P : Program} {w : World} {mg : Str → Option Value} {base : Heap}
/-! ### _law_any_ways -/
theorem scAny : FnScope ["_law_pool_here", "_law_b"] ["_law_pool_here"] (defScope sAnyWays) := ⟨rfl, rfl, rfl, by decide +kernel, rfl, by decide +kernel, by decide +kernel⟩
theorem ok_anyWays (T : Txt K mg) (D : DefAt K mg "_law_any_ways" sAnyWays ["_law_pool_here"]) (G1 : Callee P w K mg base 1 "_law_draw" ["_law_pool_here", "_law_many"] spDraw) (G2 : Callee P w K mg base 3 "_law_spec" ["_law_pool_here", "_law_ratings"] spSpec)
    (G3 : Callee P w K mg base 1 "_law_places" ["_law_b"] spLPlaces) (G4 : Callee P w K mg base 3 "_law_moves" ["_law_b"] spLMoves) (G5 : Callee P w K mg base 3 "_law_ways" ["_law_pool_here"] spWays) :
    Callee P w K mg base 4 "_law_any_ways" ["_law_pool_here"] spWays := by
  obtain ⟨f1, fd1, F1, m1, k1, b1⟩ := G1
  obtain ⟨f2, fd2, F2, m2, k2, b2⟩ := G2
  obtain ⟨f3, fd3, F3, m3, k3, b3⟩ := G3
  obtain ⟨f4, fd4, F4, m4, k4, b4⟩ := G4
  obtain ⟨f5, fd5, F5, m5, k5, b5⟩ := G5
  refine D.callee fun f fd F => F.ok scAny (fun vs H Q E h => ?_) (fun cdv A outer s H vs Q E hr h => ?_)
  · obtain ⟨a, rfl, _⟩ := h
    rfl
  · obtain ⟨a, rfl, hp, k⟩ := h
    have hr1 : Room 1 _ := hr.mono (by decide)
    refine ⟨_, (pss_cons (ps_if (pt_cmpR op_eq (pe_call F1 hr1 (by rfl) m1 k1 b1 .nil pass0 (pa_cons (pv 0) (pa_cons pe_int pa_nil))) pe_int (nomark _)) (pss_cons (ps_set (i := 1) scAny.nd rfl (Or.inl rfl) (pe_call F2 hr (by rfl) m2 k2 b2 .nil pass0 (pa_cons (pv 0) (pa_cons pe_int pa_nil))))
        (pss_one (ps_ret (pe_lst (pa_cons (pe_call F3 hr1 (by rfl) m3 k3 b3 .nil pass0 (pa_cons (pv 1) pa_nil)) (pa_cons (pe_call F4 hr (by rfl) m4 k4 b4 .nil pass0 (pa_cons (pv 1) pa_nil)) pa_nil)))))) pss_nil)
      (pss_one (ps_ret (pe_call F5 hr (by rfl) m5 k5 b5 .nil pass0 (pa_cons (pv 0) pa_nil))))), ?_⟩
    refine seq_go (if_go ?_)
    refine draw_go (n := 3) (ea_cons (ev_var rfl) (ea_cons ev_c ea_nil)) hp (by decide) (by decide) fun d H1 kd1 hp1 _ _ => ?_
    refine c_go ⟨rfl, _, rfl, ?_⟩
    obtain ⟨xs1, hx1⟩ := hp1.some
    have ways : tCall spWays [] E0 (tCons (tVar 0) tNil) [some (.ref a), none] H1 Q := by
      refine call_go (cons_go (var_go rfl ⟨a, rfl, hp1, fun r pv mv ps ms H' kd hp' hr' h1 h2 h3 => k r pv mv ps ms H' (kd1.trans kd) hp' hr' h1 h2 h3⟩))
    by_cases hd : V.int d = V.int 0
    · rw [decide_eq_true hd]
      refine iteT ?_
      refine seq_go (asg_go (call_go (cons_go (var_go rfl (cons_go (c_go ⟨a, rfl, hp1, fun b bk H2 kd2 hp2 okb hb => ?_⟩))))))
      dsimp only
      refine ret_go (lst_go (cons_go (call_go (cons_go (var_go rfl ⟨b, bk, rfl, hb, okb, fun r1 pvs H3 e3 n1 hr1' hps => ?_⟩)))))
      refine cons_go (call_go (cons_go (var_go rfl ⟨b, bk, rfl, hb.mono e3, okb, fun r2 mvs ms H4 e4 n2 hr2' hms hlen hok => ?_⟩)))
      refine ⟨(by show 2 ≤ sizeLine; decide), fun r nr => ?_⟩
      have e5 : Ex H4 (L2.upd H4 r (.lst [V.ref r1, V.ref r2])) := Ex.new nr
      have pl := places_len okb
      refine k r _ _ bk.places ms _ (((kd1.trans kd2).trans (Kd.of (e3.trans e4))).trans (Kd.of e5)) ((hp2.mono (e3.trans e4)).mono e5) upd_same ⟨r1, pvs, rfl, (e4.trans e5) _ _ hr1', plsMono (Tx.of (e4.trans e5)) hps⟩ ⟨r2, mvs, rfl, e5 _ _ hr2', mvsMono (Tx.of e5) hms⟩ ⟨bookPl_asc _ _ _, fun z => ?_, by omega, fun q hq => ?_, hok, by omega⟩
      · rw [z] at pl
        exact absurd pl.2 (by decide)
      · obtain ⟨x, y, rfl, _⟩ := of_places hq
        exact ⟨(fun z => nomatch z), by show 2 ≤ 50000; decide⟩
    · rw [decide_eq_false hd]
      refine iteF ?_
      exact (ret_go ways : tRet (tCall spWays [] E0 (tCons (tVar 0) tNil)) { nx := fun x H' => Q V.non H', rt := Q } _ H1)
end
end M10

namespace M10
open PySem PySem.Spec L2 Evl StX
/-- a new thing that stays locked -/
def tFrz (t : TE) : TE := fun σ H Q => t σ H fun x H1 => ∃ d u, x = .ref d ∧ H1 d = some u ∧ Mut (some u) ∧ ∀ od, Q (.ref d) (L2.upd H1 d (.frz od u))
theorem pe_frz {X : Cx} {e : Expr} {t : TE} (h : PE X e t) : PE X e (tFrz t) := by
  refine ⟨fun pn s σ H Q I hw => ?_⟩
  refine thn (h.run pn s σ H _ I hw) fun v s1 ⟨x, H1, I1, r, d, u, ex, hd, mu, q⟩ => ?_
  obtain ⟨od, I2⟩ := I1.lock hd mu
  subst ex
  exact ⟨.ref d, _, I2, r, q od⟩
theorem keys_putK (kvs : List (List Key × V)) (p : Place) (v : V) (ks : List Place) (h : kvs.map (·.1) = ks.map keyOf) : (putK kvs (keyOf p) v).map (·.1) = (addK ks p).map keyOf := by
  have key : (kvs.any fun kv => decide (kv.1 = keyOf p)) = decide (p ∈ ks) := by
    rw [Bool.eq_iff_iff, List.any_eq_true, decide_eq_true_iff]
    constructor
    · rintro ⟨kv, h1, h2⟩
      have : kv.1 ∈ kvs.map (·.1) := List.mem_map.mpr ⟨kv, h1, rfl⟩
      rw [h, of_decide_eq_true h2] at this
      obtain ⟨q, hq, e⟩ := (List.mem_map.mp this)
      exact keyOf_inj e ▸ hq
    · intro hp
      have : keyOf p ∈ kvs.map (·.1) := by
        rw [h]
        exact List.mem_map.mpr ⟨p, hp, rfl⟩
      obtain ⟨kv, h1, h2⟩ := List.mem_map.mp this
      exact ⟨kv, h1, decide_eq_true h2⟩
  unfold putK addK
  rw [key]
  by_cases hp : p ∈ ks
  · rw [if_pos (decide_eq_true hp), if_pos hp, List.map_map, ← h]
    refine List.map_congr_left fun kv _ => ?_
    show (if kv.1 = keyOf p then (kv.1, v) else kv).1 = kv.1
    split <;> rfl
  · rw [if_neg (by simp [hp]), if_neg hp, List.map_append, List.map_append, h]
    rfl
theorem keys_merge : ∀ (outs ks : List Place) (kvs : List (List Key × V)), kvs.map (·.1) = ks.map keyOf → (mergeT kvs (outs.map fun p => (keyOf p, V.int 0))).map (·.1) = (outs.foldl addK ks).map keyOf
  | [], _, _, h => h
  | p :: r, ks, kvs, h => by
    have e : mergeT kvs ((p :: r).map fun p => (keyOf p, V.int 0)) = mergeT (putK kvs (keyOf p) (.int 0)) (r.map fun p => (keyOf p, V.int 0)) := rfl
    rw [e]
    exact keys_merge r (addK ks p) _ (keys_putK kvs p (.int 0) ks h)
theorem dedup_len (outs : List Place) : (dedup outs).length ≤ outs.length := nodup_len (dedup_nodup outs) fun x hx => mem_dedup.mp hx
/-- what the outs tell anew -/
theorem newOf_go {K : PySem.W.Frag} {H : Hp} {c0 c1 c3 c4 c5 : Option V} {f : Addr} {y : V} {fvs : List V} {fs outs : List Place} {Q : VK} (hf : H f = some (.lst fvs)) (hps : Paired (PlA H) fvs fs) (hy : PlsT H y outs) (ho : outs.length ≤ 4)
    (k : ∀ D H' ws, Ex H H' → H' D = some (.lst ws) → Paired (PlA H') ws (newOf fs outs) → Q (.ref D) H') :
    tLc (iKeys (tFrz (tCB (rDictT K) (tCons (tLc (iTup K (tVar 6)) (gName 8) tYes (tTup (tCons (tVar 8) (tCons (tC (.int 0)) tNil))) [8]) tNil)))) (gName 7) (tTest (tOp (rNotInD K) (tVar 7) (tVar 2))) (tVar 7) [7] [c0, c1, some (.ref f), c3, c4, c5, some y, none, none] H Q := by
  obtain ⟨oa, ovs, rfl, hoa, hov⟩ := hy
  have hol := pairedLen hov
  refine lc_go ?_
  show tFrz _ _ _ _
  show tCB _ _ _ _ _
  refine cb_go (cons_go (lc_go ?_))
  refine var_go rfl ⟨oa, rfl, ⟨ovs, SqT.of hoa⟩, fun D nD => ?_⟩
  refine lc_tup (xs := ovs) (fun i H' => Ex H H' ∧ ∃ as, H' D = some (.lst (as.map V.ref)) ∧ Paired (fun p kv => ∃ b, H' p = some (.tup [.ref b, kv.2]) ∧ H' b = some (.tup (kv.1.map kV))) as ((outs.take i).map fun p => (keyOf p, V.int 0))) ⟨Ex.new nD, [], upd_same, .nil⟩ (fun i H' _ q => SqT.of (q.1 _ _ hoa)) ?_ ?_
  · rintro i x H' hx ⟨e, as, hD, has⟩
    obtain ⟨p, hp, b, rfl, hb⟩ := pairedGet hov hx
    refine ⟨rfl, tyes_go ?_⟩
    refine tup_go (cons_go (var_go rfl (cons_go (c_go ⟨(by show 2 ≤ sizeLine; decide), fun t nt => ?_⟩))))
    have hi : i < outs.length := (List.getElem?_eq_some_iff.mp hp).1
    have hal := pairedLen has
    rw [List.length_map, List.length_take] at hal
    have et : Ex H' (L2.upd H' t (.tup [.ref b, V.int 0])) := Ex.new nt
    have tm : Tx (L2.upd H' t (.tup [.ref b, V.int 0])) (L2.upd (L2.upd H' t (.tup [.ref b, V.int 0])) D (.lst (as.map V.ref ++ [.ref t]))) := Tx.lst (et _ _ hD)
    have tA := (Tx.of et).trans tm
    refine ⟨_, et _ _ hD, sz_lt (by rw [List.length_map]; omega), Ex.mut (e.trans et) nD, as ++ [t], ?_, ?_⟩
    · rw [upd_same, List.map_append]
      rfl
    · rw [List.take_add_one, hp, List.map_append]
      refine pairedApp (pairedMono (fun p kv ⟨b, z1, z2⟩ => ⟨b, tA _ _ z1, tA _ _ z2⟩) has) (.cons ⟨b, tm _ _ upd_same, ?_⟩ .nil)
      show _ = some (HO.tup ((keyOf p).map kV))
      rw [keyOf_kV]
      exact ((Tx.of e).trans tA) _ _ hb
  · rintro H' ⟨e, as, hD, has⟩
    rw [hol, List.take_length] at has
    refine ⟨D, as, _, rfl, SqL.of hD, has, fun d nd => ?_⟩
    refine ⟨d, _, rfl, upd_same, trivial, fun od => ?_⟩
    refine ⟨d, od, rfl, .inr ⟨mergeT [] (outs.map fun p => (keyOf p, V.int 0)), upd_same, fun D2 nD2 => ?_⟩⟩
    have ex1 : Ex H (L2.upd (L2.upd H' d (.dT (mergeT [] (outs.map fun p => (keyOf p, V.int 0))))) d (.frz od (.dT (mergeT [] (outs.map fun p => (keyOf p, V.int 0)))))) := Ex.mut (e.trans (Ex.new nd)) (fresh_back e nd)
    have hfr : (L2.upd (L2.upd H' d (.dT (mergeT [] (outs.map fun p => (keyOf p, V.int 0))))) d (.frz od (.dT (mergeT [] (outs.map fun p => (keyOf p, V.int 0)))))) d = some (.frz od (.dT (mergeT [] (outs.map fun p => (keyOf p, V.int 0))))) := upd_same
    have hk := keys_merge outs [] [] rfl
    revert nD2 ex1 hfr hk
    generalize L2.upd (L2.upd H' d (.dT (mergeT [] (outs.map fun p => (keyOf p, V.int 0))))) d (.frz od (.dT (mergeT [] (outs.map fun p => (keyOf p, V.int 0))))) = HF
    generalize mergeT [] (outs.map fun p => (keyOf p, V.int 0)) = kvs
    intro nD2 ex1 hfr hk
    have hk' : kvs.map (·.1) = (dedup outs).map keyOf := hk
    have hkl : kvs.length = (dedup outs).length := by
      have := congrArg List.length hk'
      rwa [List.length_map, List.length_map] at this
    have hdl := dedup_len outs
    refine lc_it walk_keysT (fun i H2 => Ex HF H2 ∧ ∃ ws, H2 D2 = some (.lst ws) ∧ Paired (PlA H2) ws (((dedup outs).take i).filter fun p => decide (p ∉ fs))) ⟨Ex.new nD2, [], upd_same, .nil⟩ (fun i H2 _ q => q.1 _ _ hfr) ?_ ?_
    · rintro i x H2 H3 hi ⟨e2, ws, hD2, hws⟩ ⟨rfl, key, v, q, hq1, rfl, hq2⟩
      obtain ⟨p, hp, hkp⟩ : ∃ p, (dedup outs)[i]? = some p ∧ key = keyOf p := by
        have h1 : (kvs.map (·.1))[i]? = some key := by rw [List.getElem?_map, hq1]; rfl
        rw [hk', List.getElem?_map] at h1
        cases hd : (dedup outs)[i]? with
        | none => rw [hd] at h1; cases h1
        | some p => rw [hd] at h1; injection h1 with h1; exact ⟨p, rfl, h1.symm⟩
      subst hkp
      have hpa : PlA H3 (.ref q) p := ⟨q, rfl, by rw [← keyOf_kV]; exact hq2⟩
      have e02 := ex1.trans e2
      refine ⟨rfl, ?_⟩
      refine et_test (ev_niL (p := p) (ps := fs) (ev_var (i := 7) (v := V.ref q) rfl) hpa (ev_var (i := 2) (v := V.ref f) rfl) (e02 _ _ hf) (plsMono (Tx.of e02) hps)) H3 (Ex.refl H3) _ fun H4 e4 => ?_
      have hwl : ws.length ≤ 4 := by
        rw [pairedLen hws]
        exact Nat.le_trans (List.length_filter_le _ _) (by rw [List.length_take]; omega)
      by_cases hm : p ∈ fs
      · rw [decide_eq_true hm]
        refine iteF ?_
        refine ⟨e2.trans e4, ws, e4 _ _ hD2, ?_⟩
        rw [List.take_add_one, hp]
        simp only [Option.toList, List.filter_append, List.filter_cons, List.filter_nil, hm, not_true_eq_false, decide_false, Bool.false_eq_true, if_false, List.append_nil]
        exact plsMono (Tx.of e4) hws
      · rw [decide_eq_false hm]
        refine iteT ?_
        have tm : Tx H4 (L2.upd H4 D2 (.lst (ws ++ [.ref q]))) := Tx.lst (e4 _ _ hD2)
        refine var_go rfl ⟨ws, e4 _ _ hD2, sz_lt (by omega), Ex.mut (e2.trans e4) nD2, ws ++ [.ref q], upd_same, ?_⟩
        rw [List.take_add_one, hp]
        simp only [Option.toList, List.filter_append, List.filter_cons, List.filter_nil, hm, not_false_eq_true, decide_true, if_true]
        exact pairedApp (plsMono ((Tx.of e4).trans tm) hws) (.cons (hpa.mono ((Tx.of e4).trans tm)) .nil)
    · rintro H2 ⟨e2, ws, hD2, hws⟩
      rw [hkl, List.take_length] at hws
      exact k D2 H2 ws (ex1.trans e2) hD2 hws
theorem rv_eqPl {K : PySem.W.Frag} {H : Hp} {p q : Addr} {vs ws : List V} {l l' : List Place} (h1 : H p = some (.lst vs)) (h2 : Paired (PlA H) vs l) (h3 : H q = some (.lst ws)) (h4 : Paired (PlA H) ws l') : RV (rEqD K) (.ref p) (.ref q) H (.bl (decide (l = l'))) := fun H1 e Q k => by
  refine ⟨.list (l.map pd), .list (l'.map pd), .lst (SqL.of (e _ _ h1)) (dp_pls (plsMono (Tx.of e) h2)), .lst (SqL.of (e _ _ h3)) (dp_pls (plsMono (Tx.of e) h4)), shaped_list _, shaped_list _, ?_⟩
  have : PyData.eqv (.list (l.map pd)) (.list (l'.map pd)) = decide (l = l') := by
    rw [← eqvAll_pds]
    simp only [PyData.eqv]
  rw [this]
  exact k H1 (Ex.refl H1)
theorem rv_nePl {K : PySem.W.Frag} {H : Hp} {p q : Addr} {vs ws : List V} {l l' : List Place} (h1 : H p = some (.lst vs)) (h2 : Paired (PlA H) vs l) (h3 : H q = some (.lst ws)) (h4 : Paired (PlA H) ws l') : RV (rNeD K) (.ref p) (.ref q) H (.bl (!decide (l = l'))) := fun H1 e Q k => by
  refine ⟨.list (l.map pd), .list (l'.map pd), .lst (SqL.of (e _ _ h1)) (dp_pls (plsMono (Tx.of e) h2)), .lst (SqL.of (e _ _ h3)) (dp_pls (plsMono (Tx.of e) h4)), shaped_list _, shaped_list _, ?_⟩
  have : PyData.eqv (.list (l.map pd)) (.list (l'.map pd)) = decide (l = l') := by
    rw [← eqvAll_pds]
    simp only [PyData.eqv]
  rw [this]
  exact k H1 (Ex.refl H1)
section
variable {K : PySem.W.Frag} {P : Program} {w : World} {mg : Str → Option Value} {base : Heap}
/-! ### _law_reached -/
def spLReached : Sp := fun vs H Q _ => ∃ (mv sv : V) (ps : List Place) (ms : List Move) (s : Place), vs = [mv, sv] ∧ MvsL H mv ms ∧ PlA H sv s ∧ s ∈ ps ∧ VWays ps ms ∧
  ∀ r fvs fs H', Ex H H' → H' r = some (.lst fvs) → Paired (PlA H') fvs fs → fs.length ≤ 24 → (∀ p, p ∈ fs ↔ Reach ms s p) → (∀ p ∈ fs, p ∈ ps) → Q (.ref r) H'
theorem scLReached : FnScope ["_law_moves_here", "_law_start", "_law_found", "_law_size", "_law_ins", "_law_name", "_law_outs", "_law_place", "_law_one"] ["_law_moves_here", "_law_start"] (defScope sLReached) := ⟨rfl, rfl, rfl, by decide +kernel, rfl, by decide +kernel, by decide +kernel⟩
theorem ok_lreached (T : Txt K mg) (D : DefAt K mg "_law_reached" sLReached ["_law_moves_here", "_law_start"]) :
    Callee P w K mg base 1 "_law_reached" ["_law_moves_here", "_law_start"] spLReached := by
  refine D.callee fun f fd F => F.ok scLReached (fun vs H Q E h => ?_) (fun cdv A outer s0 H vs Q E hr h => ?_)
  · obtain ⟨mv, sv, ps, ms, s, rfl, _⟩ := h
    rfl
  · obtain ⟨mv, sv, ps, ms, s, rfl, hms, hsv, hs, vw, k⟩ := h
    refine ⟨_, (pss_cons (ps_asg (pe_tup (pa_cons (pe_lst (pa_cons (pv 1) pa_nil)) (pa_cons pe_int pa_nil))) (pg_tup rfl (pgs_cons (pg_name (i := 2) scLReached.nd rfl (Or.inr rfl)) (pgs_cons (pg_name (i := 3) scLReached.nd rfl (Or.inl rfl)) pgs_nil))))
      (pss_cons (ps_while PassesOwn.never (pt_cmpR op_lt (pv 3) (pe_callB call_len_seq (by rfl) T.len (by decide +kernel) (pa_cons (pv 2) pa_nil)) (nomark _))
        (pss_cons (ps_set (i := 3) scLReached.nd rfl (Or.inl rfl) (pe_callB call_len_seq (by rfl) T.len (by decide +kernel) (pa_cons (pv 2) pa_nil)))
        (pss_one (ps_for PassesOwn.never rfl (pi_list (pv 0)) (pg_tup rfl (pgs_cons (pg_name (i := 4) scLReached.nd rfl (Or.inl rfl)) (pgs_cons (pg_name (i := 5) scLReached.nd rfl (Or.inl rfl)) (pgs_cons (pg_name (i := 6) scLReached.nd rfl (Or.inl rfl)) pgs_nil))))
          (pss_one (ps_if (pt_cmpR (op_eqD (hu64_of hr)) (pe_lc (own := [("_law_place", 7)]) (g := gName 7) (by rfl) scLReached.nd (pi_tup (pv 4)) (blkOk_by (own := [("_law_place", 7)]) (N := ["_law_moves_here", "_law_start", "_law_found", "_law_size", "_law_ins", "_law_name", "_law_outs", "_law_place", "_law_one"]) (sc := defScope sLReached) (by decide +kernel)) (fun _ _ _ _ _ => pg_name (i := 7) scLReached.nd rfl (Or.inl rfl)) (fun _ _ _ _ _ => pts_one (pt_cmpR (op_notInDK (K := K) rfl (hu65_of hr)) (pv 7) (pv 2) (by rfl))) (fun _ _ _ _ _ => (pv 7))) (pe_lst pa_nil) (nomark _)) (pss_one (ps_set (i := 2) scLReached.nd rfl (Or.inr rfl) (pe_op op_cat (pv 2) (pe_lc (own := [("_law_place", 7)]) (g := gName 7) (by rfl) scLReached.nd (pi_keys (pe_frz (pe_callTy (call_dictT rfl (hu2_of hr)) (by rfl) T.dict (by decide +kernel) (pa_cons (pe_lc (own := [("_law_one", 8)]) (g := gName 8) (tt := tYes) (by rfl) scLReached.nd (pi_tup (pv 6)) (blkOk_by (own := [("_law_one", 8)]) (N := ["_law_moves_here", "_law_start", "_law_found", "_law_size", "_law_ins", "_law_name", "_law_outs", "_law_place", "_law_one"]) (sc := defScope sLReached) (by decide +kernel)) (fun _ _ _ _ _ => pg_name (i := 8) scLReached.nd rfl (Or.inl rfl)) (fun _ _ _ _ _ => pts_nil) (fun _ _ _ _ _ => (pe_tup (pa_cons (pv 8) (pa_cons pe_int pa_nil))))) pa_nil)))) (blkOk_by (own := [("_law_place", 7)]) (N := ["_law_moves_here", "_law_start", "_law_found", "_law_size", "_law_ins", "_law_name", "_law_outs", "_law_place", "_law_one"]) (sc := defScope sLReached) (by decide +kernel)) (fun _ _ _ _ _ => pg_name (i := 7) scLReached.nd rfl (Or.inl rfl)) (fun _ _ _ _ _ => pts_one (pt_cmpR (op_notInDK (K := K) rfl (hu65_of hr)) (pv 7) (pv 2) (by rfl))) (fun _ _ _ _ _ => (pv 7)))))) pss_nil))))))
      (pss_one (ps_ret (pv 2))))), ?_⟩
    obtain ⟨ml, mvs, rfl, hml, hmp⟩ := hms
    refine seq_go (asg_go (tup_go (cons_go (lst_go (cons_go (var_go rfl ⟨(by show 1 ≤ sizeLine; decide), fun fl nfl => ?_⟩))))))
    refine cons_go (c_go ⟨(by show 2 ≤ sizeLine; decide), fun tp ntp => ?_⟩)
    have e0 : Ex H (L2.upd (L2.upd H fl (.lst [sv])) tp (.tup [V.ref fl, V.int 0])) := (Ex.new nfl).trans (Ex.new ntp)
    have hfl : (L2.upd (L2.upd H fl (.lst [sv])) tp (.tup [V.ref fl, V.int 0])) fl = some (.lst [sv]) := Ex.new ntp _ _ upd_same
    refine ⟨tp, _, rfl, SqT.of upd_same, rfl, _, _, rfl, _, _, rfl, rfl, ?_⟩
    revert e0 hfl
    generalize L2.upd (L2.upd H fl (.lst [sv])) tp (.tup [V.ref fl, V.int 0]) = HB
    intro e0 hfl
    dsimp only
    refine q_while (fun m σ' H' => ∃ (f : Addr) (n : Nat) (c4 c5 c6 : Option V) (fvs : List V) (fs : List Place), σ' = [some (.ref ml), some sv, some (.ref f), some (.int (n : Nat)), c4, c5, c6, none, none] ∧ Ex H H' ∧ H' f = some (.lst fvs) ∧ Paired (PlA H') fvs fs ∧ LInv ps ms s fs ∧ n ≤ fs.length ∧ (n = fs.length → ∀ m ∈ ms, Clo fs m) ∧ m = ps.length - n) ps.length
      ⟨fl, 0, none, none, none, [sv], [s], rfl, e0, hfl, .cons (hsv.mono (Tx.of e0)) .nil, LInv.init hs, Nat.zero_le _, (fun z => by cases z), rfl⟩ ?_
    rintro m σ' H' ⟨f, n, c4, c5, c6, fvs, fs, rfl, e, hf, hfs, L, hn, hc, rfl⟩
    have hfl' := pairedLen hfs
    have hL := L.len
    have h24 := vw.len
    refine ⟨decide ((n : Int) < (fvs.length : Nat)), et_test (ev_op (ev_var rfl) (ev_lenL (ev_var rfl) hf) rv_I0), fun hb H1 e1 => ?_, fun hb H1 e1 => ?_⟩
    · have hlt : n < fs.length := by
        have := of_decide_eq_true hb
        omega
      refine ⟨fun σ' H' => ∃ (f : Addr) (c4 c5 c6 : Option V) (fvs' : List V) (fs' : List Place), σ' = [some (.ref ml), some sv, some (.ref f), some (.int (fs.length : Nat)), c4, c5, c6, none, none] ∧ Ex H H' ∧ H' f = some (.lst fvs') ∧ Paired (PlA H') fvs' fs' ∧ LInv ps ms s fs' ∧ fs.length ≤ fs'.length ∧ (fs.length = fs'.length → ∀ m ∈ ms, Clo fs' m), ?_, ?_⟩
      · rintro σ2 H2 ⟨f', c4, c5, c6, fvs', fs', rfl, q1, q2, q3, q4, q5, q6⟩
        exact ⟨ps.length - fs.length, by omega, f', fs.length, c4, c5, c6, fvs', fs', rfl, q1, q2, q3, q4, q5, q6, rfl⟩
      · refine q_asg (ev_lenL (ev_var rfl) (e1 _ _ hf)) fun H2 e2 => ?_
        have e02 := (e.trans e1).trans e2
        refine s_forL (a := ml) (xs := mvs) (ev_var rfl) (SqL.of (e02 _ _ hml)) (fun i σ' H' => ∃ (f : Addr) (c4 c5 c6 : Option V) (fvs' : List V) (fs' : List Place), σ' = [some (.ref ml), some sv, some (.ref f), some (.int (fs.length : Nat)), c4, c5, c6, none, none] ∧ Ex H H' ∧ H' f = some (.lst fvs') ∧ Paired (PlA H') fvs' fs' ∧ LInv ps ms s fs' ∧ fs.length ≤ fs'.length ∧ (fs.length = fs'.length → ∀ m ∈ ms.take i, Clo fs' m))
          (fun H3 e3 => ⟨f, c4, c5, c6, fvs, fs, by rw [← hfl']; rfl, e02.trans e3, ((e1.trans e2).trans e3) _ _ hf, plsMono (Tx.of ((e1.trans e2).trans e3)) hfs, L, Nat.le_refl _, fun _ m hm => by simp at hm⟩)
          (fun i σ' H' _ q => let ⟨_, _, _, _, _, _, _, q1, _⟩ := q; SqL.of (q1 _ _ hml)) ?_ ?_
        · rintro i x σ' H3 hx ⟨f', d4, d5, d6, fvs', fs', rfl, q1, q2, q3, q4, q5, q6⟩
          obtain ⟨m, hm, a, u, nm, y, rfl, ha, hu, hy⟩ := pairedGet hmp hx
          have hmm := List.mem_of_getElem? hm
          obtain ⟨vm, _, _⟩ := vw.mv m hmm
          refine ⟨a, _, rfl, SqT.of (q1 _ _ ha), rfl, _, _, rfl, _, _, rfl, _, _, rfl, rfl, ?_⟩
          obtain ⟨ua, uvs, rfl, hua, huv⟩ := hu
          have hil : m.ins.length ≤ 4 := by
            have := vm.sz
            omega
          have hul := pairedLen huv
          have hpf : Paired (PlA H3) (uvs.filter fun v => !decide (plOf H v ∈ fs')) (m.ins.filter fun p => !decide (p ∈ fs')) := by
            refine plsMono (Tx.of q1) (pairedFilter (fun v p h => ?_) huv)
            rw [h.of]
          refine s_when (b := decide ((m.ins.filter fun p => !decide (p ∈ fs')) = [])) (et_test (ev_opLL (el_fmT (xs := uvs) (fun v => !decide (plOf H v ∈ fs')) (fun v => v) (ev_var rfl) (q1 _ _ hua) (by omega) (fun _ => rfl) (fun i v H4 e4 hv => ?_) (fun i v H4 e4 hv _ => ev_var rfl)) (el_lst ea_nil (by decide)) (fun p q H4 hp hq e4 => ?_))) (fun hb H4 e4 => ?_) (fun hb H4 e4 => ?_)
          · obtain ⟨p, _, hp⟩ := pairedGet huv hv
            rw [hp.of]
            exact et_test (ev_niL (ev_var rfl) (hp.mono (Tx.of (q1.trans e4))) (ev_var rfl) (e4 _ _ q2) (plsMono (Tx.of e4) q3))
          · rw [List.map_id'] at hp
            exact rv_eqPl hp (plsMono (Tx.of e4) hpf) hq .nil
          · have hall : ∀ p ∈ m.ins, p ∈ fs' := fun p hp => by
              have h1 := of_decide_eq_true hb
              by_cases z : p ∈ fs'
              · exact z
              · have : p ∈ m.ins.filter fun p => !decide (p ∈ fs') := List.mem_filter.mpr ⟨hp, by simp [z]⟩
                rw [h1] at this
                cases this
            have hol : m.outs.length ≤ 4 := by
              have := vm.eq
              omega
            have L2' := q4.step hmm vm hall
            have hl2 := L2'.len
            refine asg_go (op_go (ev_var rfl) fun H5 e5 => ?_)
            have e35 := e4.trans e5
            refine newOf_go (e35 _ _ q2) (plsMono (Tx.of e35) q3) (hy.mono (Tx.of (q1.trans e35))) hol fun D H6 ws e6 hD hws => ?_
            have hfl3 := pairedLen q3
            have hwl := pairedLen hws
            rw [List.length_append] at hl2
            refine ⟨f', D, fvs', ws, rfl, rfl, (e35.trans e6) _ _ q2, hD, sz_of (by omega), fun q nq => ?_⟩
            have e7 : Ex H6 (L2.upd H6 q (.lst (fvs' ++ ws))) := Ex.new nq
            refine ⟨q, _, _, _, fvs' ++ ws, fs' ++ newOf fs' m.outs, rfl, (q1.trans (e35.trans e6)).trans e7, upd_same, pairedApp (plsMono (Tx.of ((e35.trans e6).trans e7)) q3) (plsMono (Tx.of e7) hws), L2', by rw [List.length_append]; omega, fun hz => ?_⟩
            rw [List.length_append] at hz
            have hnil : newOf fs' m.outs = [] := List.eq_nil_of_length_eq_zero (by omega)
            rw [hnil, List.append_nil, List.take_add_one, hm]
            intro m' hm'
            rcases List.mem_append.mp hm' with h | h
            · exact q6 (by omega) m' h
            · cases List.mem_singleton.mp h
              exact fun _ => newOf_nil hnil
          · refine ⟨f', _, _, _, fvs', fs', rfl, q1.trans e4, e4 _ _ q2, plsMono (Tx.of e4) q3, q4, q5, fun hz => ?_⟩
            rw [List.take_add_one, hm]
            intro m' hm'
            rcases List.mem_append.mp hm' with h | h
            · exact q6 hz m' h
            · cases List.mem_singleton.mp h
              intro hall
              have : (m.ins.filter fun p => !decide (p ∈ fs')) = [] := List.filter_eq_nil_iff.mpr fun p hp => by simp [hall p hp]
              exact absurd this (of_decide_eq_false hb)
        · rintro σ' H3 ⟨f', d4, d5, d6, fvs', fs', rfl, q1, q2, q3, q4, q5, q6⟩
          rw [pairedLen hmp, List.take_length] at q6
          exact ⟨f', d4, d5, d6, fvs', fs', rfl, q1, q2, q3, q4, q5, q6⟩
    · have hge : n = fs.length := by
        have := of_decide_eq_false hb
        omega
      have hdone := L.done (hc hge)
      refine s_ret (ev_var rfl) fun H2 e2 => ?_
      exact k f fvs fs H2 ((e.trans e1).trans e2) ((e1.trans e2) _ _ hf) (plsMono (Tx.of (e1.trans e2)) hfs) (by omega) hdone L.sub
end
end M10

namespace M10
open PySem PySem.Spec L2 Evl StX
theorem test_go {t : TE} {σ : L2.St} {H : Hp} {Q : Bool → Hp → Prop} (h : t σ H fun x H' => ∃ k, x = .bl k ∧ Q k H') : tTest t σ H Q := h
theorem opR_go {σ : L2.St} {H : Hp} {r : R2} {ta tb : TE} {Q : VK} (h : ta σ H fun x H1 => tb σ H1 fun y H2 => r x y H2 Q) : tOp r ta tb σ H Q := h
theorem nx_go {D : Ends} {σ : L2.St} {H : Hp} (h : D.nx σ H) : tNext D σ H := h
theorem make_go {C : Addr} {sp : Sp} {E : XK} {t : TA} {σ : L2.St} {H : Hp} {Q : VK} (h : t σ H fun vs H1 => ∀ x dx, H1 x = none → H1 dx = none → dx ≠ x → sp (.ref x :: (vs ++ [])) (L2.upd (L2.upd H1 dx (.own x)) x (.ins C dx [])) (fun v H2 => v = .non ∧ Q (.ref x) H2) E) : tMake C sp [] E t σ H Q := h
theorem ilist_go {K : PySem.W.Frag} {tl : TE} {σ : L2.St} {H : Hp} {R : It → Hp → Prop} (h : tl σ H fun x H1 => ∃ a, x = .ref a ∧ (∃ xs, SqL K H1 a xs) ∧ R (Itl K a) H1) : iList K tl σ H R := h
theorem rv_neSame {K : PySem.W.Frag} {H : Hp} {p q : Addr} {vs ws : List V} {l l' : List Place} (h1 : H p = some (.lst vs)) (h2 : Paired (PlA H) vs l) (h3 : H q = some (.lst ws)) (h4 : Paired (PlA H) ws l') (h : l = l') : RV (rNeD K) (.ref p) (.ref q) H (.bl false) := by
  have := rv_nePl (K := K) h1 h2 h3 h4
  rw [decide_eq_true h] at this
  exact this
theorem ne_go {a b : Bool} {H : Hp} {Q : Bool → Hp → Prop} (h : a = b) (q : Q false H) : rNe (.bl a) (.bl b) H fun x H' => ∃ k, x = .bl k ∧ Q k H' := by
  subst h
  refine ⟨rfl, false, ?_, q⟩
  simp
theorem make_ex {H : Hp} {x dx C : Addr} (hx : H x = none) (hd : H dx = none) (n : dx ≠ x) : Ex H (L2.upd (L2.upd H dx (.own x)) x (.ins C dx [])) :=
  (Ex.new hd).trans (Ex.new (by rw [upd_ne n.symm]; exact hx))
theorem VWays.take {ps : List Place} {ms : List Move} (h : VWays ps ms) (j : Nat) : VWays ps (ms.take j) :=
  ⟨h.asc, h.ne, h.len, h.pl, fun m hm => h.mv m (List.mem_of_mem_take hm), Nat.le_trans (by rw [List.length_take]; exact Nat.min_le_right _ _) h.mlen⟩
section
variable {P : Program} {w : World} {K : PySem.W.Frag} {mg : Str → Option Value} {base : Heap} {C : Addr}
/-! ### law -/
def spLaw (K : PySem.W.Frag) : Sp := fun vs H Q _ => ∃ (a : Addr) (ns : List Int), vs = [.ref a] ∧ SqL K H a (ns.map V.int) ∧ ns.length ≤ 100000 ∧ ∀ H', Q (.bl true) H'
theorem scLaw : FnScope ["_law_script", "_law_k", "_law_pool_here", "_law_places_here", "_law_moves_here", "_law_ways_here", "_law_fewer", "_law_start", "_law_least", "_law_place", "_law_due", "_law_told"] ["_law_script"] (defScope sLaw) := ⟨rfl, rfl, rfl, by decide +kernel, rfl, by decide +kernel, by decide +kernel⟩
theorem ok_law {f : Addr} {fd : FuncData} (T : Txt K mg) (F : Fun K "law" "law" sLaw f fd) (mC : mg "Ways" = some (.ref C)) {fI : Addr} {fdI : FuncData} (MK : Mk K C fI) (FI : FnOk P w K mg base CX0 6 fI fdI ["self", "places", "moves"] (spInit C)) (bI : Binds K fdI ["self", "places", "moves"] [])
    (G1 : Callee P w K mg base 1 "_law_pool" ["_law_script", "_law_k"] (spPool K)) (G2 : Callee P w K mg base 4 "_law_any_ways" ["_law_pool_here"] spWays) (G3 : Callee P w K mg base 1 "_law_reached" ["_law_moves_here", "_law_start"] spLReached)
    (G4 : Callee P w K mg base 5 "reached" ["ways", "start"] (spReached C)) (G5 : Callee P w K mg base 29 "climb" ["ways", "start", "place"] (spClimb C)) (G6 : Callee P w K mg base 5 "is_closed" ["ways", "start", "place", "value"] (spIsClosed C)) :
    FnOk P w K mg base CX0 30 f fd ["_law_script"] (spLaw K) := by
  obtain ⟨f1, fd1, F1, m1, k1, b1⟩ := G1
  obtain ⟨f2, fd2, F2, m2, k2, b2⟩ := G2
  obtain ⟨f3, fd3, F3, m3, k3, b3⟩ := G3
  obtain ⟨f4, fd4, F4, m4, k4, b4⟩ := G4
  obtain ⟨f5, fd5, F5, m5, k5, b5⟩ := G5
  obtain ⟨f6, fd6, F6, m6, k6, b6⟩ := G6
  refine F.ok scLaw (fun vs H Q E h => ?_) (fun cdv A outer s0 H vs Q E hr h => ?_)
  · obtain ⟨a, ns, rfl, _⟩ := h
    rfl
  · obtain ⟨a, ns, rfl, ha, hns, k⟩ := h
    have hr1 : Room 1 _ := hr.mono (by decide)
    have hr4 : Room 4 _ := hr.mono (by decide)
    have hr5 : Room 5 _ := hr.mono (by decide)
    have hr7 : Room 7 _ := hr.mono (by decide)
    refine ⟨_, (pss_cons (ps_for PassesOwn.never rfl (pi_range1 (by rfl) T.range (pa_cons (pe_callB (call_max2 rfl) (by rfl) T.max (by decide +kernel) (pa_cons pe_int (pa_cons (pe_callB (call_min2 rfl) (by rfl) T.min (by decide +kernel) (pa_cons (pe_callB call_len_seq (by rfl) T.len (by decide +kernel) (pa_cons (pv 0) pa_nil)) (pa_cons pe_int pa_nil))) pa_nil))) pa_nil)) (pg_name (i := 1) scLaw.nd rfl (Or.inl rfl))
        (pss_cons (ps_set (i := 2) scLaw.nd rfl (Or.inl rfl) (pe_call F1 hr1 (by rfl) m1 k1 b1 .nil pass0 (pa_cons (pv 0) (pa_cons (pv 1) pa_nil))))
        (pss_cons (ps_asg (pe_call F2 hr4 (by rfl) m2 k2 b2 .nil pass0 (pa_cons (pv 2) pa_nil)) (pg_unl rfl (pgs_cons (pg_name (i := 3) scLaw.nd rfl (Or.inl rfl)) (pgs_cons (pg_name (i := 4) scLaw.nd rfl (Or.inl rfl)) pgs_nil))))
        (pss_cons (ps_par (i := 5) (j := 6) rfl scLaw.nd rfl rfl (by decide) rfl rfl (pa_cons (pe_make (E := E0) MK FI hr7 (by rfl) mC bI .nil pass0 (pa_cons (pv 3) (pa_cons (pv 4) pa_nil))) (pa_cons (pe_make (E := E0) MK FI hr7 (by rfl) mC bI .nil pass0 (pa_cons (pv 3) (pa_cons (pe_slice sl_list (pv 4) po_none (po_some (pe_op op_fdiv (pe_callB call_len_seq (by rfl) T.len (by decide +kernel) (pa_cons (pv 4) pa_nil)) pe_int))) pa_nil))) pa_nil)) (by rfl))
        (pss_one (ps_for PassesOwn.never rfl (pi_list (pv 3)) (pg_name (i := 7) scLaw.nd rfl (Or.inl rfl))
          (pss_cons (ps_set (i := 8) scLaw.nd rfl (Or.inr rfl) (pe_call F3 hr1 (by rfl) m3 k3 b3 .nil pass0 (pa_cons (pv 4) (pa_cons (pv 7) pa_nil))))
          (pss_cons (ps_set (i := 10) scLaw.nd rfl (Or.inr rfl) (pe_lc (own := [("_law_place", 9)]) (g := gName 9) (by rfl) scLaw.nd (pi_list (pv 3)) (blkOk_by (own := [("_law_place", 9)]) (N := ["_law_script", "_law_k", "_law_pool_here", "_law_places_here", "_law_moves_here", "_law_ways_here", "_law_fewer", "_law_start", "_law_least", "_law_place", "_law_due", "_law_told"]) (sc := defScope sLaw) (by decide +kernel)) (fun _ _ _ _ _ => pg_name (i := 9) scLaw.nd rfl (Or.inl rfl)) (fun _ _ _ _ _ => pts_one (pt_cmpR (op_inDK (K := K) rfl (hu65_of hr)) (pv 9) (pv 8) (by rfl))) (fun _ _ _ _ _ => (pv 9))))
          (pss_cons (ps_set (i := 11) scLaw.nd rfl (Or.inl rfl) (pe_call F4 hr5 (by rfl) m4 k4 b4 .nil pass0 (pa_cons (pv 5) (pa_cons (pv 7) pa_nil))))
          (pss_cons (ps_if (pt_cmpR (op_neD (hu64_of hr)) (pv 11) (pv 10) (nomark _)) (pss_one (ps_ret pe_bl)) pss_nil)
          (pss_cons (ps_if (pt_cmpR (op_neD (hu64_of hr)) (pe_lc (own := [("_law_place", 9)]) (g := gName 9) (by rfl) scLaw.nd (pi_list (pe_call F4 hr5 (by rfl) m4 k4 b4 .nil pass0 (pa_cons (pv 6) (pa_cons (pv 7) pa_nil)))) (blkOk_by (own := [("_law_place", 9)]) (N := ["_law_script", "_law_k", "_law_pool_here", "_law_places_here", "_law_moves_here", "_law_ways_here", "_law_fewer", "_law_start", "_law_least", "_law_place", "_law_due", "_law_told"]) (sc := defScope sLaw) (by decide +kernel)) (fun _ _ _ _ _ => pg_name (i := 9) scLaw.nd rfl (Or.inl rfl)) (fun _ _ _ _ _ => pts_one (pt_cmpR (op_notInDK (K := K) rfl (hu65_of hr)) (pv 9) (pv 10) (by rfl))) (fun _ _ _ _ _ => (pv 9))) (pe_lst pa_nil) (nomark _)) (pss_one (ps_ret pe_bl)) pss_nil)
          (pss_cons (ps_for PassesOwn.never rfl (pi_list (pv 3)) (pg_name (i := 9) scLaw.nd rfl (Or.inl rfl))
            (pss_cons (ps_if (pt_cmpR op_ne (pe_cmpR op_isN (pe_call F5 hr (by rfl) m5 k5 b5 .nil pass0 (pa_cons (pv 5) (pa_cons (pv 7) (pa_cons (pv 9) pa_nil)))) pe_non (nomark _)) (pe_cmpR (op_notInDK (K := K) rfl (hu65_of hr)) (pv 9) (pv 10) (by rfl)) (nomark _)) (pss_one (ps_ret pe_bl)) pss_nil)
            (pss_one (ps_if (pt_cmpR op_ne (pe_call F6 hr5 (by rfl) m6 k6 b6 .nil pass0 (pa_cons (pv 5) (pa_cons (pv 7) (pa_cons (pv 9) (pa_cons (pv 11) pa_nil))))) (pe_cmpR (op_notInDK (K := K) rfl (hu65_of hr)) (pv 9) (pv 10) (by rfl)) (nomark _)) (pss_one (ps_ret pe_bl)) pss_nil))))
          (pss_cons (ps_expr (pe_bm PySem.F.plainAttrs_list PySem.F.slot_list_append PySem.F.type_list_append mt_append (pv 11) (pa_cons pe_non pa_nil)))
          (pss_one (ps_if (pt_cmpR (op_neD (hu64_of hr)) (pe_call F4 hr5 (by rfl) m4 k4 b4 .nil pass0 (pa_cons (pv 5) (pa_cons (pv 7) pa_nil))) (pv 10) (nomark _)) (pss_one (ps_ret pe_bl)) pss_nil)))))))))))))))
      (pss_one (ps_ret pe_bl))), ?_⟩
    have hlen : Ev (tCB (fun xs H Q => ∃ i j, xs = [V.int i, V.int j] ∧ Q (V.int (if j > i then j else i)) H) (tCons (tC (V.int 1)) (tCons (tCB (fun xs H Q => ∃ i j, xs = [V.int i, V.int j] ∧ Q (V.int (if j < i then j else i)) H)
        (tCons (tCB (fun xs H Q => ∃ p ys, xs = [V.ref p] ∧ (SqL K H p ys ∨ SqT K H p ys) ∧ Q (V.int ys.length) H) (tCons (tVar 0) tNil)) (tCons (tC (V.int 3)) tNil))) tNil))) [some (.ref a), none, none, none, none, none, none, none, none, none, none, none] H (.int (if (if (3 : Int) < (ns.map V.int).length then 3 else ((ns.map V.int).length : Int)) > 1 then (if (3 : Int) < (ns.map V.int).length then 3 else ((ns.map V.int).length : Int)) else 1)) :=
      ev_cb (ea_cons ev_c (ea_cons (ev_cb (ea_cons (ev_lenS (ev_var rfl) ha) (ea_cons ev_c ea_nil)) fun H1 e1 Q q => ⟨_, _, rfl, q H1 (Ex.refl H1)⟩) ea_nil)) fun H1 e1 Q q => ⟨_, _, rfl, q H1 (Ex.refl H1)⟩
    have hk : ∃ n : Int, (if (if (3 : Int) < (ns.map V.int).length then 3 else ((ns.map V.int).length : Int)) > 1 then (if (3 : Int) < (ns.map V.int).length then 3 else ((ns.map V.int).length : Int)) else 1) = n ∧ 1 ≤ n ∧ n ≤ 3 := by
      refine ⟨_, rfl, ?_⟩
      split <;> split <;> omega
    obtain ⟨n, hn, n1, n3⟩ := hk
    rw [hn] at hlen
    refine q_forR1 (n := n) (ea_cons hlen ea_nil) ⟨by omega, by omega⟩ (fun i σ' H' => (∃ c1 c2 c3 c4 c5 c6 c7 c8 c9 c10 c11, σ' = [some (.ref a), c1, c2, c3, c4, c5, c6, c7, c8, c9, c10, c11]) ∧ Ex H H') (fun H1 e1 => ⟨⟨_, _, _, _, _, _, _, _, _, _, _, rfl⟩, e1⟩) ?_ (fun σ' H' _ => s_ret ev_c fun H2 _ => k H2)
    rintro kk σ' H' hi ⟨⟨c1, c2, c3, c4, c5, c6, c7, c8, c9, c10, c11, rfl⟩, e⟩
    refine seq_go (asg_go (call_go (cons_go (var_go rfl (cons_go (var_go rfl ⟨a, ns, ((kk : Nat) : Int), rfl, ex_l e ha, by omega, by omega, fun pl H2 e2 npl hp2 => ?_⟩))))))
    dsimp only
    refine seq_go (asg_go (call_go (cons_go (var_go rfl ⟨pl, rfl, hp2, fun r pv mv ps ms H3 kd3 hp3 hr3 hpv hmv vw => ?_⟩))))
    obtain ⟨P0, pvs, rfl, hP3, hps3⟩ := hpv
    obtain ⟨M0, mvs, rfl, hM3, hms3⟩ := hmv
    have e03 : Ex H H3 := e.trans (kd3.ex e2 npl)
    refine ⟨r, _, rfl, SqL.of hr3, rfl, _, _, rfl, _, _, rfl, rfl, ?_⟩
    dsimp only
    refine seq_go (par_go (cons_go (make_go (cons_go (var_go rfl (cons_go (var_go rfl ?_)))))))
    intro W0 dx nW ndx hne
    have eW := make_ex (C := C) nW ndx hne
    refine ⟨H3, W0, dx, _, _, ps, ms, rfl, eW, nW, upd_same, ⟨P0, pvs, rfl, hP3, hps3⟩, ⟨M0, mvs, rfl, hM3, hms3⟩, vw, fun H4 e4 hW4 => ⟨rfl, ?_⟩⟩
    have hmlen := pairedLen hms3
    refine cons_go (make_go (cons_go (var_go rfl (cons_go (sl_go (var_go rfl (nopart_go (part_go ?_))))))))
    refine ev_op (ev_lenL (ev_var rfl) (e4 _ _ hM3)) ev_c (rv_I (show CDiv _ 2 from ⟨by decide, by decide⟩)) H4 (Ex.refl H4) _ fun H5 e5 => ⟨_, rfl, M0, mvs, rfl, SqL.of ((e4.trans e5) _ _ hM3), fun cl ncl => ?_⟩
    have hhalf : ((mvs.length : Nat) : Int) / 2 = ((mvs.length / 2 : Nat) : Int) := by omega
    rw [hhalf, cutV_take]
    have e6 : Ex H5 (L2.upd H5 cl (.lst (mvs.take (mvs.length / 2)))) := Ex.new ncl
    have e36 : Ex H3 (L2.upd H5 cl (.lst (mvs.take (mvs.length / 2)))) := (e4.trans e5).trans e6
    have hcl : (L2.upd H5 cl (.lst (mvs.take (mvs.length / 2)))) cl = some (.lst (mvs.take (mvs.length / 2))) := upd_same
    intro W1 dx1 nW1 ndx1 hne1
    have eW1 := make_ex (C := C) nW1 ndx1 hne1
    have vwF := vw.take (mvs.length / 2)
    refine ⟨_, W1, dx1, _, _, ps, ms.take (mvs.length / 2), rfl, eW1, nW1, upd_same, ⟨P0, pvs, rfl, e36 _ _ hP3, plsMono (Tx.of e36) hps3⟩, ⟨cl, _, rfl, hcl, pairedTake _ (mvsMono (Tx.of e36) hms3)⟩, vwF, fun H7 e7 hF7 => ⟨rfl, ?_⟩⟩
    refine ⟨_, _, rfl, ?_⟩
    have e37 := e36.trans e7
    have e47 := (e5.trans e6).trans e7
    have hW7 := hW4.mono e47
    have hP7 := e37 _ _ hP3
    have hps7 := plsMono (Tx.of e37) hps3
    have hM7 := e37 _ _ hM3
    have hms7 := mvsMono (Tx.of e37) hms3
    have hpl := pairedLen hps7
    have h24 := vw.len
    have e07 := e03.trans e37
    dsimp only
    refine s_forL (a := P0) (xs := pvs) (ev_var rfl) (SqL.of hP7) (fun i σ' H' => (∃ c7 c8 c9 c10 c11, σ' = [some (.ref a), some (.int ((kk : Nat) : Int)), some (.ref pl), some (.ref P0), some (.ref M0), some (.ref W0), some (.ref W1), c7, c8, c9, c10, c11]) ∧ Ex H7 H')
      (fun H8 e8 => ⟨⟨_, _, _, _, _, rfl⟩, e8⟩) (fun i σ' H' _ q => SqL.of (q.2 _ _ hP7)) ?_ (fun σ' H' ⟨⟨d7, d8, d9, d10, d11, z⟩, e8⟩ => ⟨⟨_, _, _, _, _, _, _, _, _, _, _, z⟩, e07.trans e8⟩)
    rintro i1 x σ' H8 hx ⟨⟨d7, d8, d9, d10, d11, rfl⟩, e8⟩
    obtain ⟨s, hs, hxs7⟩ := pairedGet hps7 hx
    have hsp := List.mem_of_getElem? hs
    -- least
    refine seq_go (asg_go (call_go (cons_go (var_go rfl (cons_go (var_go rfl ⟨_, x, ps, ms, s, rfl, ⟨M0, mvs, rfl, e8 _ _ hM7, mvsMono (Tx.of e8) hms7⟩, hxs7.mono (Tx.of e8), hsp, vw, fun lr lvs ls H9 e9 hlr hlp l24 lmem lsub => ?_⟩))))))
    dsimp only
    have e79 := e8.trans e9
    -- due
    refine q_asgL (el_fmL (xs := pvs) (fun v => decide (plOf H7 v ∈ ls)) (fun v => v) (ev_var rfl) (e79 _ _ hP7) (by omega) (fun _ => rfl) (fun i v H4 e4 hv => ?_) (fun i v H4 e4 hv _ => ev_var rfl)) fun dl H10 ndl e10 hdl => ?_
    · obtain ⟨p, _, hp⟩ := pairedGet hps7 hv
      rw [hp.of]
      exact et_test (ev_inL (ev_var rfl) (hp.mono (Tx.of (e79.trans e4))) (ev_var rfl) (e4 _ _ hlr) (plsMono (Tx.of e4) hlp))
    rw [List.map_id'] at hdl
    have e710 := e79.trans e10
    have hdp : Paired (PlA H10) (pvs.filter fun v => decide (plOf H7 v ∈ ls)) (ps.filter fun p => decide (p ∈ ls)) :=
      plsMono (Tx.of e710) (pairedFilter (fun v p h => by rw [h.of]) hps7)
    have dasc : Asc lx (ps.filter fun p => decide (p ∈ ls)) := List.Pairwise.sublist List.filter_sublist vw.asc
    have dmem : ∀ p, p ∈ (ps.filter fun p => decide (p ∈ ls)) ↔ Reach ms s p := fun p => by
      rw [List.mem_filter, decide_eq_true_iff, ← lmem p]
      exact ⟨fun h => h.2, fun h => ⟨lsub p h, h⟩⟩
    revert hdp dasc dmem hdl
    generalize (pvs.filter fun v => decide (plOf H7 v ∈ ls)) = dvs
    generalize (ps.filter fun p => decide (p ∈ ls)) = due
    intro hdl hdp dasc dmem
    -- told
    refine seq_go (asg_go (call_go (cons_go (var_go rfl (cons_go (var_go rfl ⟨.ref W0, x, ps, ms, s, rfl, hW7.mono e710, vw, hxs7.mono (Tx.of e710), hsp, fun tr R qvs H11 e11 ntr htr htq tasc tmem tsub => ?_⟩))))))
    have hRd : R = due := asc_ext so_lx tasc dasc fun p => (tmem p).trans (dmem p).symm
    subst hRd
    dsimp only
    refine q_when (b := false) (et_test (ev_op (ev_var rfl) (ev_var rfl) (rv_neSame htr htq (e11 _ _ hdl) (plsMono (Tx.of e11) hdp) rfl))) (fun z => by cases z) fun _ H12 e12 => ?_
    have e712 := (e710.trans e11).trans e12
    have hqlen : qvs.length ≤ 24 := by
      rw [pairedLen htq]
      exact Nat.le_trans (nodup_len (Asc.nodup so_lx tasc) tsub) h24
    -- fewer
    refine seq_go (if_go (test_go (opR_go (lc_go (ilist_go ?_)))))
    refine call_go (cons_go (var_go rfl (cons_go (var_go rfl ⟨.ref W1, x, ps, ms.take (mvs.length / 2), s, rfl, hF7.mono e712, vwF, hxs7.mono (Tx.of e712), hsp, fun fr R2 fvs H13 e13 nfr hfr hfq fasc fmem fsub => ⟨fr, rfl, ⟨fvs, SqL.of hfr⟩, fun DD nD => ?_⟩⟩))))
    have e1013 := (e11.trans e12).trans e13
    refine lc_list (xs := fvs) (fun i H' => Ex H13 H' ∧ H' DD = some (.lst [])) ⟨Ex.new nD, upd_same⟩ (fun i H' _ q => SqL.of (q.1 _ _ hfr)) ?_ ?_
    · rintro i2 v H' hv ⟨e14, hDD⟩
      obtain ⟨p, hp, hpa⟩ := pairedGet hfq hv
      have hin : p ∈ R := (dmem p).mpr (Reach.mono (fun m hm => List.mem_of_mem_take hm) ((fmem p).mp (List.mem_of_getElem? hp)))
      refine ⟨rfl, ?_⟩
      refine et_test (ev_niL (p := p) (ps := R) (ev_var (i := 9) (v := v) rfl) (hpa.mono (Tx.of e14)) (ev_var (i := 10) (v := V.ref dl) rfl) ((e1013.trans e14) _ _ hdl) (plsMono (Tx.of (e1013.trans e14)) hdp)) H' (Ex.refl H') _ fun H15 e15 => ?_
      rw [decide_eq_true hin]
      exact iteF ⟨e14.trans e15, e15 _ _ hDD⟩
    rintro H14 ⟨e14, hDD⟩
    refine el_lst ea_nil (by decide) H14 (Ex.refl H14) _ fun q H15 nq e15 hq => ?_
    refine rv_neSame (l := []) (l' := []) (e15 _ _ hDD) .nil hq .nil rfl H15 (Ex.refl H15) _ fun H16 e16 => ⟨false, rfl, iteF ?_⟩
    have e1016 := ((e1013.trans e14).trans e15).trans e16
    have e716 := e710.trans e1016
    have e1116 := ((((e12.trans e13).trans e14).trans e15).trans e16)
    show tSeq _ _ _ _ _
    refine q_forLn (a := P0) (xs := pvs) (ev_var rfl) (SqL.of (e716 _ _ hP7)) (fun i σ' H' => (∃ c9, σ' = [some (.ref a), some (.int ((kk : Nat) : Int)), some (.ref pl), some (.ref P0), some (.ref M0), some (.ref W0), some (.ref W1), some x, some (.ref lr), c9, some (.ref dl), some (.ref tr)]) ∧ Ex H16 H')
      (fun H17 e17 => ⟨⟨_, rfl⟩, e17⟩) (fun i σ' H' _ q => SqL.of (q.2 _ _ (e716 _ _ hP7))) ?_ ?_
    · rintro i3 y σ' H17 hy ⟨⟨d9', rfl⟩, e17⟩
      obtain ⟨p, hp, hyp⟩ := pairedGet hps7 hy
      have hpp := List.mem_of_getElem? hp
      have e717 := e716.trans e17
      have e1017 := e1016.trans e17
      have e1117 := e1116.trans e17
      refine seq_go (if_go (test_go (opR_go (opR_go ?_))))
      refine call_go (cons_go (var_go rfl (cons_go (var_go rfl (cons_go (var_go rfl ⟨.ref W0, x, y, ps, ms, s, p, rfl, hW7.mono e717, vw, hxs7.mono (Tx.of e717), hsp, hyp.mono (Tx.of e717), hpp, fun r1 H18 e18 hr1 => ?_⟩))))))
      refine c_go ⟨rfl, ?_⟩
      refine ev_niL (p := p) (ps := R) (ev_var (i := 9) (v := y) rfl) (hyp.mono (Tx.of (e717.trans e18))) (ev_var (i := 10) (v := V.ref dl) rfl) ((e1017.trans e18) _ _ hdl) (plsMono (Tx.of (e1017.trans e18)) hdp) H18 (Ex.refl H18) _ fun H19 e19 => ?_
      have hsame : decide (r1 = V.non) = !decide (p ∈ R) := by
        rcases hr1 with ⟨h1, l, rfl⟩ | ⟨h1, rfl⟩
        · rw [decide_eq_true ((dmem p).mpr h1)]
          rfl
        · rw [decide_eq_false fun z => h1 ((dmem p).mp z)]
          rfl
      refine ne_go hsame (iteF ?_)
      have e1719 := e18.trans e19
      refine nx_go ?_
      dsimp only
      refine if_go (test_go (opR_go (call_go (cons_go (var_go rfl (cons_go (var_go rfl (cons_go (var_go rfl (cons_go (var_go rfl ?_)))))))))))
      refine ⟨.ref W0, x, y, .ref tr, ps, ms, s, p, R, rfl, hW7.mono (e717.trans e1719), vw, hxs7.mono (Tx.of (e717.trans e1719)), hsp, hyp.mono (Tx.of (e717.trans e1719)), hpp, ⟨tr, qvs, rfl, (e1117.trans e1719) _ _ htr, plsMono (Tx.of (e1117.trans e1719)) htq⟩, tasc, tmem, tsub, fun H20 e20 => ?_⟩
      refine ev_niL (p := p) (ps := R) (ev_var (i := 9) (v := y) rfl) (hyp.mono (Tx.of ((e717.trans e1719).trans e20))) (ev_var (i := 10) (v := V.ref dl) rfl) (((e1017.trans e1719).trans e20) _ _ hdl) (plsMono (Tx.of ((e1017.trans e1719).trans e20)) hdp) H20 (Ex.refl H20) _ fun H21 e21 => ?_
      refine ne_go rfl (iteF ?_)
      exact ⟨⟨_, rfl⟩, ((e17.trans e1719).trans e20).trans e21⟩
    · rintro σ' H17 ⟨⟨d9', rfl⟩, e17⟩
      have e1117 := e1116.trans e17
      have e717 := e716.trans e17
      refine seq_go (drop_go (bm_go (var_go rfl ⟨.inl ⟨rfl, qvs, SqL.of (e1117 _ _ htr)⟩, cons_go (c_go ⟨tr, qvs, _, rfl, rfl, e1117 _ _ htr, sz_lt (by omega), ?_⟩)⟩)))
      have e10u : Ex H10 (L2.upd H17 tr (.lst (qvs ++ [V.non]))) := Ex.mut (e11.trans e1117) ntr
      have e7u := e710.trans e10u
      dsimp only
      refine if_go (test_go (opR_go (call_go (cons_go (var_go rfl (cons_go (var_go rfl ⟨.ref W0, x, ps, ms, s, rfl, hW7.mono e7u, vw, hxs7.mono (Tx.of e7u), hsp, fun r3 R3 q3 H18 e18 n3 hr3' hq3 asc3 mem3 sub3 => ?_⟩)))))))
      refine var_go rfl ?_
      have hR3 : R3 = R := asc_ext so_lx asc3 dasc fun p => (mem3 p).trans (dmem p).symm
      refine rv_neSame hr3' hq3 ((e10u.trans e18) _ _ hdl) (plsMono (Tx.of (e10u.trans e18)) hdp) hR3 H18 (Ex.refl H18) _ fun H19 e19 => ⟨false, rfl, iteF ?_⟩
      exact ⟨⟨_, _, _, _, _, rfl⟩, (e7u.trans e18).trans e19⟩
end
end M10

namespace M10
open PySem PySem.Spec L2 Evl StX
/-! ### what the top has written -/
section
variable {h : Heap} {K : PySem.W.Frag} {mg : Str → Option Value}
theorem defAt_mk {x : Str} {st : Stmt} {ps : List Str} {f : Addr} {oc kV dc pm cd ct : Value} {od an : Option Addr} {sl : Array (Option Value)} (X : K.In h) (G : h.Ns mainGlobals mg) (a : PySem.W.nsIn K mainGlobals x = some (some (.ref f)))
    (l : K.lookup f = some ⟨oc, od, .func (PySem.W.fnOf x x (defArgs st) (defBody st) (defScope st) .none kV dc pm an cd ct), sl⟩) (c : PySem.W.codeIn K cd x = true) (k : PySem.W.keepIn K (.ref f) = true)
    (b : ∀ (kV doc pm : Value) (an : Option Addr) (cdv ct : Value) (us : List Value), us.length = ps.length → bindArgs (PySem.W.fnOf x x (defArgs st) (defBody st) (defScope st) .none kV doc pm an cdv ct) ⟨us, []⟩ = pure (ps.zip us)) : DefAt K mg x st ps :=
  ⟨f, _, fun_mk l c k, PySem.W.mg_of X G a, (fun_mk l c k).binds b⟩
theorem defAtM_mk {C : Addr} {x qual : Str} {st : Stmt} {ps : List Str} {f : Addr} {oc kV dc pm cd ct : Value} {od an : Option Addr} {sl : Array (Option Value)} (a : PySem.W.findIn K (.ref C) x = some (some (.ref f))) (i : PySem.W.isFn K (.ref f) = true)
    (l : K.lookup f = some ⟨oc, od, .func (PySem.W.fnOf x qual (defArgs st) (defBody st) (defScope st) .none kV dc pm an cd ct), sl⟩) (c : PySem.W.codeIn K cd qual = true) (k : PySem.W.keepIn K (.ref f) = true) (q : PySem.W.fnIn K f = true)
    (b : ∀ (kV doc pm : Value) (an : Option Addr) (cdv ct : Value) (us : List Value), us.length = ps.length → bindArgs (PySem.W.fnOf x qual (defArgs st) (defBody st) (defScope st) .none kV doc pm an cdv ct) ⟨us, []⟩ = pure (ps.zip us)) : DefAtM K C x qual st ps :=
  ⟨f, _, fun_mk l c k, ⟨a, i, k⟩, (fun_mk l c k).binds b, q⟩
def InitAt (K : PySem.W.Frag) (C : Addr) : Prop := ∃ f fd, Fun K "__init__" "Ways.__init__" sInit f fd ∧ Mk K C f ∧ Binds K fd ["self", "places", "moves"] []
theorem init_mk {C f : Addr} {oc kV dc pm cd ct : Value} {od an : Option Addr} {sl : Array (Option Value)} (a : PySem.W.findIn K (.ref C) "__init__" = some (some (.ref f))) (i : PySem.W.isFn K (.ref f) = true)
    (l : K.lookup f = some ⟨oc, od, .func (PySem.W.fnOf "__init__" "Ways.__init__" (defArgs sInit) (defBody sInit) (defScope sInit) .none kV dc pm an cd ct), sl⟩) (c : PySem.W.codeIn K cd "Ways.__init__" = true) (k : PySem.W.keepIn K (.ref f) = true)
    (mk : PySem.W.makesIn K C = true) (kc : PySem.W.keepIn K (.ref C) = true) : InitAt K C :=
  ⟨f, _, fun_mk l c k, ⟨mk, a, i, kc⟩, (fun_mk l c k).binds fun _ _ _ _ _ _ us hl => match us, hl with | [_, _, _], _ => rfl⟩
theorem wtxt_mk {C : Addr} (X : K.In h) (G : h.Ns mainGlobals mg) (a : PySem.W.nsIn K mainGlobals "Ways" = some (some (.ref C))) (pg : PySem.W.plainGet K C Str.empty = true) (hd : PySem.W.hasDictIn K C = true) (po : PySem.W.plainOver K C = true)
    (sa : PySem.W.findIn K (.ref C) "__setattr__" = some (some (.builtin "object.__setattr__"))) (nP : PySem.W.findIn K (.ref C) "own_places" = some none) (nM : PySem.W.findIn K (.ref C) "own_moves" = some none) : WTxt K mg C :=
  ⟨⟨pg, hd, po, sa⟩, nP, nM, PySem.W.mg_of X G a⟩
theorem txt_mk {sa : Addr} {od : Option Addr} {n : Nat} {sl : Array (Option Value)} {tP tM t1 t2 t3 : Addr} (X : K.In h) (G : h.Ns mainGlobals mg)
    (z_isinstance : PySem.W.nsIn K mainGlobals "isinstance" = some none)
    (z_int : PySem.W.nsIn K mainGlobals "int" = some none)
    (z_bool : PySem.W.nsIn K mainGlobals "bool" = some none)
    (z_tuple : PySem.W.nsIn K mainGlobals "tuple" = some none)
    (z_list : PySem.W.nsIn K mainGlobals "list" = some none)
    (z_dict : PySem.W.nsIn K mainGlobals "dict" = some none)
    (z_str : PySem.W.nsIn K mainGlobals "str" = some none)
    (z_len : PySem.W.nsIn K mainGlobals "len" = some none)
    (z_all : PySem.W.nsIn K mainGlobals "all" = some none)
    (z_sum : PySem.W.nsIn K mainGlobals "sum" = some none)
    (z_max : PySem.W.nsIn K mainGlobals "max" = some none)
    (z_min : PySem.W.nsIn K mainGlobals "min" = some none)
    (z_abs : PySem.W.nsIn K mainGlobals "abs" = some none)
    (z_zip : PySem.W.nsIn K mainGlobals "zip" = some none)
    (z_range : PySem.W.nsIn K mainGlobals "range" = some none)
    (z_enumerate : PySem.W.nsIn K mainGlobals "enumerate" = some none)
    (zP : PySem.W.nsIn K mainGlobals "MOST_PLACES" = some (some (.int 24 tP))) (zM : PySem.W.nsIn K mainGlobals "MOST_MOVES" = some (some (.int 3000 tM))) (zS : PySem.W.nsIn K mainGlobals "SIZES" = some (some (.ref sa)))
    (lS : K.lookup sa = some ⟨.type "tuple", od, .seq #[.int 1 t1, .int 2 t2, .int 4 t3] n, sl⟩) : Txt K mg :=
  ⟨PySem.W.mg_none_of X G z_isinstance, PySem.W.mg_none_of X G z_int, PySem.W.mg_none_of X G z_bool, PySem.W.mg_none_of X G z_tuple, PySem.W.mg_none_of X G z_list, PySem.W.mg_none_of X G z_dict, PySem.W.mg_none_of X G z_str, PySem.W.mg_none_of X G z_len, PySem.W.mg_none_of X G z_all, PySem.W.mg_none_of X G z_sum, PySem.W.mg_none_of X G z_max, PySem.W.mg_none_of X G z_min, PySem.W.mg_none_of X G z_abs, PySem.W.mg_none_of X G z_zip, PySem.W.mg_none_of X G z_range, PySem.W.mg_none_of X G z_enumerate,
    ⟨tP, PySem.W.mg_of X G zP⟩, ⟨tM, PySem.W.mg_of X G zM⟩, sa, PySem.W.mg_of X G zS, _, _, n, lS, rfl, rfl, (by show 3 ≤ sizeLine; decide), .cons ⟨_, rfl⟩ (.cons ⟨_, rfl⟩ (.cons ⟨_, rfl⟩ .nil))⟩
end
theorem all_mk {P : Program} {w : World} {K : PySem.W.Frag} {mg : Str → Option Value} {fa C : Addr} (hfa : mg "law" = some (.ref fa)) (W : WTxt K mg C) (T : Txt K mg) (I : InitAt K C)
    (m_moves : DefAtM K C "moves" "Ways.moves" sMoves ["self"])
    (m_contains : DefAtM K C "__contains__" "Ways.__contains__" sContains ["self", "place"])
    (m_getitem : DefAtM K C "__getitem__" "Ways.__getitem__" sGetItem ["self", "index"])
    (m_within : DefAtM K C "within" "Ways.within" sWithin ["self", "places"])
    (d_is_integer : DefAt K mg "is_integer" sIsInteger ["value", "lowest", "highest"])
    (d_is_whole : DefAt K mg "is_whole" sIsWhole ["value"])
    (d_is_place : DefAt K mg "is_place" sIsPlace ["value"])
    (d_are_places : DefAt K mg "are_places" sArePlaces ["value"])
    (d_is_move : DefAt K mg "is_move" sIsMove ["value"])
    (d_checked_moves : DefAt K mg "checked_moves" sChecked ["places", "moves"])
    (d_in_order : DefAt K mg "in_order" sInOrder ["places"])
    (d_check_place : DefAt K mg "check_place" sCheckPlace ["ways", "place"])
    (d_needs_of : DefAt K mg "needs_of" sNeedsOf ["ways", "start"])
    (d_reached : DefAt K mg "reached" sReached ["ways", "start"])
    (d_climb : DefAt K mg "climb" sClimb ["ways", "start", "place"])
    (d_put_climb : DefAt K mg "put_climb" sPutClimb ["ways", "needs", "place", "found"])
    (d_is_closed : DefAt K mg "is_closed" sIsClosed ["ways", "start", "place", "value"])
    (d_law_pool : DefAt K mg "_law_pool" sPool ["_law_script", "_law_k"])
    (d_law_draw : DefAt K mg "_law_draw" sDraw ["_law_pool_here", "_law_many"])
    (d_law_pick : DefAt K mg "_law_pick" sPick ["_law_pool_here", "_law_row"])
    (d_law_entry : DefAt K mg "_law_entry" sEntry ["_law_pool_here", "_law_wide"])
    (d_law_spec : DefAt K mg "_law_spec" sSpec ["_law_pool_here", "_law_ratings"])
    (d_law_places : DefAt K mg "_law_places" sPlaces ["_law_b"])
    (d_law_moved : DefAt K mg "_law_moved" sMoved ["_law_b", "_law_place", "_law_change", "_law_won"])
    (d_law_game : DefAt K mg "_law_game" sGame ["_law_b", "_law_upper", "_law_lower", "_law_result"])
    (d_law_moves : DefAt K mg "_law_moves" sLMoves ["_law_b"])
    (d_law_ways : DefAt K mg "_law_ways" sLWays ["_law_pool_here"])
    (d_law_any_ways : DefAt K mg "_law_any_ways" sAnyWays ["_law_pool_here"])
    (d_law_reached : DefAt K mg "_law_reached" sLReached ["_law_moves_here", "_law_start"])
    (d_law : DefAt K mg "law" sLaw ["_law_script"])
    : ∃ fd : FuncData, (∀ (s : Shared) (v : Value), BindsTo s fd ⟨[v], []⟩ [("_law_script", v)]) ∧ ∀ base : Heap, FnOk P w K mg base CX0 30 fa fd ["_law_script"] (spLaw K) := by
  obtain ⟨f, fd, F, m, _⟩ := d_law
  have e := hfa.symm.trans m
  injection e with e
  injection e with e
  subst e
  obtain ⟨fI, fdI, FI, MK, bI⟩ := I
  obtain ⟨fc, fdc, Fc, mc, bc⟩ := d_put_climb
  have ef : ∃ (kV doc pm : Value) (an : Option Addr) (cdv ct : Value), fd = PySem.W.fnOf "law" "law" (defArgs sLaw) (defBody sLaw) (defScope sLaw) .none kV doc pm an cdv ct := by
    obtain ⟨_, _, kV, doc, pm, an, cdv, ct, _, e, _⟩ := F.ex
    exact ⟨kV, doc, pm, an, cdv, ct, e⟩
  refine ⟨fd, fun s v => ?_, fun base => ?_⟩
  · obtain ⟨kV, doc, pm, an, cdv, ct, rfl⟩ := ef
    exact .of_eq rfl
  have whole := ok_whole (P := P) (w := w) (base := base) T d_is_whole
  have isInt := ok_integer T d_is_integer whole
  have isPlace := ok_isPlace T d_is_place whole
  have arePl := ok_arePlaces T d_are_places isPlace
  have isMove := ok_isMove T d_is_move arePl
  have inOrd := ok_inOrder (P := P) (w := w) (base := base) T d_in_order
  have chk := ok_checked T d_checked_moves isMove
  have mMoves := ok_moves (P := P) (w := w) (base := base) T W m_moves
  have mHas := ok_contains T W m_contains isPlace
  have mGet := ok_getItem T W m_getitem isInt
  have mIn := ok_within (P := P) (w := w) (base := base) T W m_within
  have init := ok_init T W FI isPlace inOrd chk
  have chPl := ok_checkPlace T W d_check_place mHas
  have needs := ok_needsOf T W d_needs_of mMoves
  have rea := ok_reached T d_reached chPl inOrd needs
  have put : Callee P w K mg base 28 "put_climb" ["ways", "needs", "place", "found"] (spPut C 24) := ⟨fc, fdc, ok_put T Fc mc bc mGet 24, mc, Fc.kp, bc⟩
  have clb := ok_climb T d_climb chPl put needs
  have clo := ok_isClosed T W d_is_closed chPl mHas mIn mGet
  have pool := ok_pool (P := P) (w := w) (base := base) T d_law_pool
  have draw := ok_draw (P := P) (w := w) (base := base) T d_law_draw
  have pick := ok_pick T d_law_pick draw
  have entry := ok_entry T d_law_entry draw
  have spec := ok_spec T d_law_spec draw pick entry
  have pls := ok_lplaces (P := P) (w := w) (base := base) T d_law_places
  have moved := ok_moved (P := P) (w := w) (base := base) T d_law_moved
  have game := ok_game T d_law_game moved
  have mvs := ok_lmoves T d_law_moves pls game
  have drawn := ok_ways T d_law_ways draw pick
  have anyW := ok_anyWays T d_law_any_ways draw spec pls mvs drawn
  have lrea := ok_lreached (P := P) (w := w) (base := base) T d_law_reached
  exact ok_law T F W.mgC MK init bI pool anyW lrea rea clb clo
theorem walk {l : PySem.W.OpenLaw} {q : Program} {loose : List Str} {XP : (Str → Option Value) → Heap → Prop} {YP : World → Heap → Prop} {d : DefRec} {K : Params → PySem.W.Frag} (hn : l.most = some 63) (hdf : d.params.defaults = []) (hY : ∀ (w : World) (h : Heap), YP w h → (K w.params).In h)
    (F : ∀ (w : World) (mg : Str → Option Value) (fa : Addr) (hp : Heap), (K w.params).In hp → hp.Ns mainGlobals mg → mg d.name = some (.ref fa) →
      ∃ fd : FuncData, (∀ (s : Shared) (u : Value), BindsTo s fd ⟨[u], []⟩ [("_law_script", u)]) ∧ ∀ base : Heap, FnOk l.prog w (K w.params) mg base CX0 30 fa fd ["_law_script"] (spLaw (K w.params))) : PySem.W.WalkO q loose XP YP l.row.toRowW d [] (fun f vs => PySem.call f vs) :=
  L2.walk_of (n := 63) (k := 30) (x := "_law_script") (CX := fun _ => CX0) (sp := fun w => spLaw (K w.params)) hn (by decide) hdf ⟨rfl, by decide, by decide⟩ hY (fun w mg fa h KX G e => let ⟨fd, b, o⟩ := F w mg fa h KX G e; ⟨fd, b, fun base _ _ => o base⟩)
    (fun _ _ a ns hl _ hS => ⟨a, ns, rfl, hS, by omega, fun _ => rfl⟩) fun _ _ _ _ _ z => z
end M10

open PySem PySem.W PyProof.Rows in
set_option maxHeartbeats 0 in
theorem PySem.Challenge.cw_liftedladders_k10_whole_reached_places_holds : PySem.Challenge.rw_liftedladders_k10_whole_reached_places.Holds := by
  w_on; o_law; k_head; (case hw => w_witness2)
  k_fill
  refine M10.walk (l := PySem.Challenge.rw_liftedladders_k10_whole_reached_places) rfl rfl (fun w h Y => PySem.W.kIn_of Y) ?F
  case F =>
    intro w mg fa h KX G hmg
    refine' M10.all_mk hmg ?W ?T ?I ?m_moves ?m_contains ?m_getitem ?m_within ?d_is_integer ?d_is_whole ?d_is_place ?d_are_places ?d_is_move ?d_checked_moves ?d_in_order ?d_check_place ?d_needs_of ?d_reached ?d_climb ?d_put_climb ?d_is_closed ?d_law_pool ?d_law_draw ?d_law_pick ?d_law_entry ?d_law_spec ?d_law_places ?d_law_moved ?d_law_game ?d_law_moves ?d_law_ways ?d_law_any_ways ?d_law_reached ?d_law
    (case W =>
      refine' M10.wtxt_mk KX G ?a ?pg ?hd ?po ?sa ?nP ?nM
      (case a => k_is)
      (case pg => k_is)
      (case hd => k_is)
      (case po => k_is)
      (case sa => k_is)
      (case nP => k_is)
      (case nM => k_is))
    (case T =>
      refine' M10.txt_mk KX G ?z_isinstance ?z_int ?z_bool ?z_tuple ?z_list ?z_dict ?z_str ?z_len ?z_all ?z_sum ?z_max ?z_min ?z_abs ?z_zip ?z_range ?z_enumerate ?zP ?zM ?zS ?lS
      (case z_isinstance => k_is)
      (case z_int => k_is)
      (case z_bool => k_is)
      (case z_tuple => k_is)
      (case z_list => k_is)
      (case z_dict => k_is)
      (case z_str => k_is)
      (case z_len => k_is)
      (case z_all => k_is)
      (case z_sum => k_is)
      (case z_max => k_is)
      (case z_min => k_is)
      (case z_abs => k_is)
      (case z_zip => k_is)
      (case z_range => k_is)
      (case z_enumerate => k_is)
      (case zP => k_is)
      (case zM => k_is)
      (case zS => k_is)
      (case lS => k_is))
    (case I =>
      refine' M10.init_mk ?a ?i ?l ?c ?k ?mk ?kc
      (case a => k_is)
      (case i => k_is)
      (case l => k_is)
      (case c => k_is)
      (case k => k_is)
      (case mk => k_is)
      (case kc => k_is))
    (case m_moves =>
      refine' M10.defAtM_mk ?a ?i ?l ?c ?k ?fnq (fun _ _ _ _ _ _ us hl => match us, hl with | [_], _ => rfl)
      (case a => k_is)
      (case i => k_is)
      (case l => k_is)
      (case c => k_is)
      (case k => k_is)
      (case fnq => k_is))
    (case m_contains =>
      refine' M10.defAtM_mk ?a ?i ?l ?c ?k ?fnq (fun _ _ _ _ _ _ us hl => match us, hl with | [_, _], _ => rfl)
      (case a => k_is)
      (case i => k_is)
      (case l => k_is)
      (case c => k_is)
      (case k => k_is)
      (case fnq => k_is))
    (case m_getitem =>
      refine' M10.defAtM_mk ?a ?i ?l ?c ?k ?fnq (fun _ _ _ _ _ _ us hl => match us, hl with | [_, _], _ => rfl)
      (case a => k_is)
      (case i => k_is)
      (case l => k_is)
      (case c => k_is)
      (case k => k_is)
      (case fnq => k_is))
    (case m_within =>
      refine' M10.defAtM_mk ?a ?i ?l ?c ?k ?fnq (fun _ _ _ _ _ _ us hl => match us, hl with | [_, _], _ => rfl)
      (case a => k_is)
      (case i => k_is)
      (case l => k_is)
      (case c => k_is)
      (case k => k_is)
      (case fnq => k_is))
    (case d_is_integer =>
      refine' M10.defAt_mk KX G ?a ?l ?c ?k (fun _ _ _ _ _ _ us hl => match us, hl with | [_, _, _], _ => rfl)
      (case a => k_is)
      (case l => k_is)
      (case c => k_is)
      (case k => k_is))
    (case d_is_whole =>
      refine' M10.defAt_mk KX G ?a ?l ?c ?k (fun _ _ _ _ _ _ us hl => match us, hl with | [_], _ => rfl)
      (case a => k_is)
      (case l => k_is)
      (case c => k_is)
      (case k => k_is))
    (case d_is_place =>
      refine' M10.defAt_mk KX G ?a ?l ?c ?k (fun _ _ _ _ _ _ us hl => match us, hl with | [_], _ => rfl)
      (case a => k_is)
      (case l => k_is)
      (case c => k_is)
      (case k => k_is))
    (case d_are_places =>
      refine' M10.defAt_mk KX G ?a ?l ?c ?k (fun _ _ _ _ _ _ us hl => match us, hl with | [_], _ => rfl)
      (case a => k_is)
      (case l => k_is)
      (case c => k_is)
      (case k => k_is))
    (case d_is_move =>
      refine' M10.defAt_mk KX G ?a ?l ?c ?k (fun _ _ _ _ _ _ us hl => match us, hl with | [_], _ => rfl)
      (case a => k_is)
      (case l => k_is)
      (case c => k_is)
      (case k => k_is))
    (case d_checked_moves =>
      refine' M10.defAt_mk KX G ?a ?l ?c ?k (fun _ _ _ _ _ _ us hl => match us, hl with | [_, _], _ => rfl)
      (case a => k_is)
      (case l => k_is)
      (case c => k_is)
      (case k => k_is))
    (case d_in_order =>
      refine' M10.defAt_mk KX G ?a ?l ?c ?k (fun _ _ _ _ _ _ us hl => match us, hl with | [_], _ => rfl)
      (case a => k_is)
      (case l => k_is)
      (case c => k_is)
      (case k => k_is))
    (case d_check_place =>
      refine' M10.defAt_mk KX G ?a ?l ?c ?k (fun _ _ _ _ _ _ us hl => match us, hl with | [_, _], _ => rfl)
      (case a => k_is)
      (case l => k_is)
      (case c => k_is)
      (case k => k_is))
    (case d_needs_of =>
      refine' M10.defAt_mk KX G ?a ?l ?c ?k (fun _ _ _ _ _ _ us hl => match us, hl with | [_, _], _ => rfl)
      (case a => k_is)
      (case l => k_is)
      (case c => k_is)
      (case k => k_is))
    (case d_reached =>
      refine' M10.defAt_mk KX G ?a ?l ?c ?k (fun _ _ _ _ _ _ us hl => match us, hl with | [_, _], _ => rfl)
      (case a => k_is)
      (case l => k_is)
      (case c => k_is)
      (case k => k_is))
    (case d_climb =>
      refine' M10.defAt_mk KX G ?a ?l ?c ?k (fun _ _ _ _ _ _ us hl => match us, hl with | [_, _, _], _ => rfl)
      (case a => k_is)
      (case l => k_is)
      (case c => k_is)
      (case k => k_is))
    (case d_put_climb =>
      refine' M10.defAt_mk KX G ?a ?l ?c ?k (fun _ _ _ _ _ _ us hl => match us, hl with | [_, _, _, _], _ => rfl)
      (case a => k_is)
      (case l => k_is)
      (case c => k_is)
      (case k => k_is))
    (case d_is_closed =>
      refine' M10.defAt_mk KX G ?a ?l ?c ?k (fun _ _ _ _ _ _ us hl => match us, hl with | [_, _, _, _], _ => rfl)
      (case a => k_is)
      (case l => k_is)
      (case c => k_is)
      (case k => k_is))
    (case d_law_pool =>
      refine' M10.defAt_mk KX G ?a ?l ?c ?k (fun _ _ _ _ _ _ us hl => match us, hl with | [_, _], _ => rfl)
      (case a => k_is)
      (case l => k_is)
      (case c => k_is)
      (case k => k_is))
    (case d_law_draw =>
      refine' M10.defAt_mk KX G ?a ?l ?c ?k (fun _ _ _ _ _ _ us hl => match us, hl with | [_, _], _ => rfl)
      (case a => k_is)
      (case l => k_is)
      (case c => k_is)
      (case k => k_is))
    (case d_law_pick =>
      refine' M10.defAt_mk KX G ?a ?l ?c ?k (fun _ _ _ _ _ _ us hl => match us, hl with | [_, _], _ => rfl)
      (case a => k_is)
      (case l => k_is)
      (case c => k_is)
      (case k => k_is))
    (case d_law_entry =>
      refine' M10.defAt_mk KX G ?a ?l ?c ?k (fun _ _ _ _ _ _ us hl => match us, hl with | [_, _], _ => rfl)
      (case a => k_is)
      (case l => k_is)
      (case c => k_is)
      (case k => k_is))
    (case d_law_spec =>
      refine' M10.defAt_mk KX G ?a ?l ?c ?k (fun _ _ _ _ _ _ us hl => match us, hl with | [_, _], _ => rfl)
      (case a => k_is)
      (case l => k_is)
      (case c => k_is)
      (case k => k_is))
    (case d_law_places =>
      refine' M10.defAt_mk KX G ?a ?l ?c ?k (fun _ _ _ _ _ _ us hl => match us, hl with | [_], _ => rfl)
      (case a => k_is)
      (case l => k_is)
      (case c => k_is)
      (case k => k_is))
    (case d_law_moved =>
      refine' M10.defAt_mk KX G ?a ?l ?c ?k (fun _ _ _ _ _ _ us hl => match us, hl with | [_, _, _, _], _ => rfl)
      (case a => k_is)
      (case l => k_is)
      (case c => k_is)
      (case k => k_is))
    (case d_law_game =>
      refine' M10.defAt_mk KX G ?a ?l ?c ?k (fun _ _ _ _ _ _ us hl => match us, hl with | [_, _, _, _], _ => rfl)
      (case a => k_is)
      (case l => k_is)
      (case c => k_is)
      (case k => k_is))
    (case d_law_moves =>
      refine' M10.defAt_mk KX G ?a ?l ?c ?k (fun _ _ _ _ _ _ us hl => match us, hl with | [_], _ => rfl)
      (case a => k_is)
      (case l => k_is)
      (case c => k_is)
      (case k => k_is))
    (case d_law_ways =>
      refine' M10.defAt_mk KX G ?a ?l ?c ?k (fun _ _ _ _ _ _ us hl => match us, hl with | [_], _ => rfl)
      (case a => k_is)
      (case l => k_is)
      (case c => k_is)
      (case k => k_is))
    (case d_law_any_ways =>
      refine' M10.defAt_mk KX G ?a ?l ?c ?k (fun _ _ _ _ _ _ us hl => match us, hl with | [_], _ => rfl)
      (case a => k_is)
      (case l => k_is)
      (case c => k_is)
      (case k => k_is))
    (case d_law_reached =>
      refine' M10.defAt_mk KX G ?a ?l ?c ?k (fun _ _ _ _ _ _ us hl => match us, hl with | [_, _], _ => rfl)
      (case a => k_is)
      (case l => k_is)
      (case c => k_is)
      (case k => k_is))
    (case d_law =>
      refine' M10.defAt_mk KX G ?a ?l ?c ?k (fun _ _ _ _ _ _ us hl => match us, hl with | [_], _ => rfl)
      (case a => k_is)
      (case l => k_is)
      (case c => k_is)
      (case k => k_is))

