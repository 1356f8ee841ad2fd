import PyProof.Rows.All
import Wide.All
import OpenK.AllK
import Wide.FinOn
import KE.KeyNested
import KE.SortData
import KE.KOpsOwn
import HandS.ForMost
import HandS.Evl
import HandS.Star
import HandS.TupAny
import HandS.TupSets
import HandS.IsInst
import HandS.Property
import HandS.FStr
import HandS.Flow
import HandS.Style
import HandS.Zip
import HandS.Wide
import HandS.WideBits
import HandS.Steps
import HandS.More
import HandS.Small
import HandS.Strs
import HandS.HeadHook4
import HandS.HeadEnd
import HandS.EndBits
import HandS.Head2
import HandS.ExcBuiltin
import HandS.Walk
import PySem.Challenge.RW_moredone_k54_whole_each_rule_is_its_base
set_option Elab.async false
/-! KMath: parts of logs, bases, rules, in plain Lean. -/
set_option linter.all false
namespace K54
section
variable {α : Type} [DecidableEq α]

/-- of how many events the longest beginning of w is that the greedy walk finds, m of them found before -/
def begunF (w : List α) (m : Nat) : List α → Nat
  | [] => m
  | x :: r => begunF w (if w[m]? = some x then m + 1 else m) r
def isPart (w l : List α) : Bool := begunF w 0 l == w.length

theorem begunF_iff (w : List α) : ∀ (l : List α) (m : Nat), m ≤ w.length → (begunF w m l = w.length ↔ (w.drop m).Sublist l)
  | [], m, hm => by
    simp only [begunF, List.sublist_nil, List.drop_eq_nil_iff]
    omega
  | x :: r, m, hm => by
    simp only [begunF]
    by_cases h : w[m]? = some x
    · rw [if_pos h]
      obtain ⟨hlt, hx⟩ := List.getElem?_eq_some_iff.mp h
      rw [begunF_iff w r (m + 1) hlt, List.drop_eq_getElem_cons hlt, hx, List.cons_sublist_cons]
    · rw [if_neg h, begunF_iff w r m hm]
      constructor
      · intro s
        exact s.cons x
      · intro s
        rcases Nat.lt_or_ge m w.length with hlt | hge
        · rw [List.drop_eq_getElem_cons hlt] at s ⊢
          cases s with
          | cons _ s => exact s
          | cons_cons _ s => exact absurd (List.getElem?_eq_getElem hlt) h
        · rw [List.drop_eq_nil_of_le hge]
          exact List.nil_sublist r
theorem begunF_le (w : List α) : ∀ (l : List α) (m : Nat), m ≤ w.length → begunF w m l ≤ w.length
  | [], m, hm => hm
  | x :: r, m, hm => by
    simp only [begunF]
    by_cases h : w[m]? = some x
    · rw [if_pos h]
      exact begunF_le w r (m + 1) (List.getElem?_eq_some_iff.mp h).1
    · rw [if_neg h]
      exact begunF_le w r m hm
theorem isPart_iff {w l : List α} : isPart w l = true ↔ w.Sublist l := by
  unfold isPart
  rw [beq_iff_eq, begunF_iff w l 0 (Nat.zero_le _), List.drop_zero]

/-- an order of logs in which those of fewer events stand first -/
structure LogOrd (α : Type) where
  lt : List α → List α → Bool
  irr : ∀ a, lt a a = false
  tr : ∀ a b c, lt a b = true → lt b c = true → lt a c = true
  tot : ∀ a b, a ≠ b → lt a b = true ∨ lt b a = true
  len : ∀ a b, a.length < b.length → lt a b = true

variable (O : LogOrd α)
def ins (x : List α) : List (List α) → List (List α)
  | [] => [x]
  | y :: r => if x = y then y :: r else if O.lt x y then x :: y :: r else y :: ins x r
/-- each once, in order -/
def inOrder (l : List (List α)) : List (List α) := l.foldr (ins O) []
abbrev Srt (l : List (List α)) : Prop := l.Pairwise fun a b => O.lt a b = true

variable {O}
theorem mem_ins {x z : List α} : ∀ {l : List (List α)}, z ∈ ins O x l ↔ z = x ∨ z ∈ l
  | [] => by simp [ins]
  | y :: r => by
    simp only [ins]
    split
    · rename_i h
      subst h
      simp
    · split
      · simp
      · rw [List.mem_cons, mem_ins, List.mem_cons]
        constructor
        · rintro (h | h | h)
          · exact .inr (.inl h)
          · exact .inl h
          · exact .inr (.inr h)
        · rintro (h | h | h)
          · exact .inr (.inl h)
          · exact .inl h
          · exact .inr (.inr h)
theorem srt_ins {x : List α} : ∀ {l : List (List α)}, Srt O l → Srt O (ins O x l)
  | [], _ => by simp [ins, Srt]
  | y :: r, h => by
    obtain ⟨h1, h2⟩ := List.pairwise_cons.mp h
    simp only [ins]
    split
    · exact h
    · split
      · rename_i hlt
        refine List.pairwise_cons.mpr ⟨fun z hz => ?_, h⟩
        rcases List.mem_cons.mp hz with e | hz
        · rw [e]; exact hlt
        · exact O.tr _ _ _ hlt (h1 z hz)
      · rename_i hne hlt
        refine List.pairwise_cons.mpr ⟨fun z hz => ?_, srt_ins h2⟩
        rcases mem_ins.mp hz with e | hz
        · rw [e]
          rcases O.tot x y hne with q | q
          · exact absurd q hlt
          · exact q
        · exact h1 z hz
theorem mem_inOrder {z : List α} : ∀ {l : List (List α)}, z ∈ inOrder O l ↔ z ∈ l
  | [] => Iff.rfl
  | y :: r => by
    show z ∈ ins O y (inOrder O r) ↔ _
    rw [mem_ins, mem_inOrder, List.mem_cons]
theorem srt_inOrder : ∀ (l : List (List α)), Srt O (inOrder O l)
  | [] => List.Pairwise.nil
  | y :: r => srt_ins (srt_inOrder r)
theorem lt_asym {a b : List α} (h : O.lt a b = true) : O.lt b a = false := by
  cases e : O.lt b a with
  | false => rfl
  | true =>
    have q := O.tr _ _ _ h e
    rw [O.irr] at q
    cases q
theorem srt_ext : ∀ {a b : List (List α)}, Srt O a → Srt O b → (∀ z, z ∈ a ↔ z ∈ b) → a = b
  | [], [], _, _, _ => rfl
  | [], y :: b, _, _, h => by cases (h y).mpr List.mem_cons_self
  | x :: a, [], _, _, h => by cases (h x).mp List.mem_cons_self
  | x :: a, y :: b, ha, hb, h => by
    obtain ⟨a1, a2⟩ := List.pairwise_cons.mp ha
    obtain ⟨b1, b2⟩ := List.pairwise_cons.mp hb
    have e : x = y := by
      rcases List.mem_cons.mp ((h x).mp List.mem_cons_self) with e | hx
      · exact e
      · rcases List.mem_cons.mp ((h y).mpr List.mem_cons_self) with e | hy
        · exact e.symm
        · have q := lt_asym (a1 y hy)
          rw [b1 x hx] at q
          cases q
    subst e
    rw [srt_ext a2 b2 fun z => ?_]
    have hx : x ∉ a := fun q => by
      have z := a1 x q
      rw [O.irr] at z
      cases z
    have hy : x ∉ b := fun q => by
      have z := b1 x q
      rw [O.irr] at z
      cases z
    constructor
    · intro hz
      rcases List.mem_cons.mp ((h z).mp (List.mem_cons_of_mem _ hz)) with e | q
      · exact absurd (e ▸ hz) hx
      · exact q
    · intro hz
      rcases List.mem_cons.mp ((h z).mpr (List.mem_cons_of_mem _ hz)) with e | q
      · exact absurd (e ▸ hz) hy
      · exact q
theorem inOrder_srt {l : List (List α)} (h : Srt O l) : inOrder O l = l := srt_ext (srt_inOrder l) h fun _ => mem_inOrder
theorem srt_nodup {l : List (List α)} (h : Srt O l) : l.Nodup := h.imp fun {a b} q e => by
  subst e
  rw [O.irr] at q
  cases q
theorem nodup_len : ∀ {a b : List (List α)}, a.Nodup → (∀ z, z ∈ a → z ∈ b) → a.length ≤ b.length
  | [], _, _, _ => Nat.zero_le _
  | x :: a, b, ha, h => by
    obtain ⟨h1, h2⟩ := List.nodup_cons.mp ha
    have hx := h x List.mem_cons_self
    have q := nodup_len (b := b.erase x) h2 fun z hz => (List.mem_erase_of_ne (fun e : z = x => h1 (by rw [← e]; exact hz))).mpr (h z (List.mem_cons_of_mem _ hz))
    rw [List.length_erase_of_mem hx] at q
    have := List.length_pos_of_mem hx
    simp only [List.length_cons]
    omega
theorem inOrder_len (l : List (List α)) : (inOrder O l).length ≤ l.length := nodup_len (srt_nodup (srt_inOrder l)) fun _ => mem_inOrder.mp

variable (O)
def least1 (acc : List (List α)) (x : List α) : List (List α) := if acc.any (fun w => isPart w x) = true then acc else acc ++ [x]
/-- those of which no other one is a part, in order -/
def leastOf (l : List (List α)) : List (List α) := (inOrder O l).foldl least1 []
/-- a base: in order, no word a part of another -/
def IsB (b : List (List α)) : Prop := Srt O b ∧ b.Pairwise fun a c => ¬ a.Sublist c
variable {O}
/-- the logs that do it -/
def up (b : List (List α)) (z : List α) : Prop := ∃ w ∈ b, w.Sublist z
def does (b : List (List α)) (z : List α) : Bool := b.any fun w => isPart w z
theorem does_iff {b : List (List α)} {z : List α} : does b z = true ↔ up b z := by
  unfold does up
  rw [List.any_eq_true]
  constructor
  · rintro ⟨w, h1, h2⟩
    exact ⟨w, h1, isPart_iff.mp h2⟩
  · rintro ⟨w, h1, h2⟩
    exact ⟨w, h1, isPart_iff.mpr h2⟩
theorem up_mono {b : List (List α)} {y z : List α} (h : y.Sublist z) (u : up b y) : up b z := let ⟨w, h1, h2⟩ := u; ⟨w, h1, h2.trans h⟩

/-- what the fold over logs in order has -/
structure LInv (done acc : List (List α)) : Prop where
  sub : acc.Sublist done
  cov : ∀ x ∈ done, up acc x
  ant : acc.Pairwise fun a c => ¬ a.Sublist c
theorem linv_step {done acc : List (List α)} {x : List α} (h : LInv done acc) : LInv (done ++ [x]) (least1 acc x) := by
  unfold least1
  split
  · rename_i hx
    refine ⟨h.sub.trans (List.sublist_append_left _ _), fun z hz => ?_, h.ant⟩
    rcases List.mem_append.mp hz with q | q
    · exact h.cov z q
    · rw [List.mem_singleton.mp q]
      exact does_iff.mp hx
  · rename_i hx
    refine ⟨h.sub.append (List.Sublist.refl _), fun z hz => ?_, List.pairwise_append.mpr ⟨h.ant, List.pairwise_singleton _ _, fun a ha c hc s => ?_⟩⟩
    · rcases List.mem_append.mp hz with q | q
      · obtain ⟨w, h1, h2⟩ := h.cov z q
        exact ⟨w, List.mem_append_left _ h1, h2⟩
      · rw [List.mem_singleton.mp q]
        exact ⟨x, List.mem_append_right _ List.mem_cons_self, List.Sublist.refl _⟩
    · rw [List.mem_singleton.mp hc] at s
      exact hx (List.any_eq_true.mpr ⟨a, ha, isPart_iff.mpr s⟩)
theorem linv_fold : ∀ (rest done acc : List (List α)), LInv done acc → LInv (done ++ rest) (rest.foldl least1 acc)
  | [], done, acc, h => by
    rw [List.append_nil]
    exact h
  | x :: r, done, acc, h => by
    have q := linv_fold r _ _ (linv_step (x := x) h)
    rw [List.append_assoc] at q
    exact q
theorem linv_leastOf (l : List (List α)) : LInv (inOrder O l) (leastOf O l) := by
  have q := linv_fold (inOrder O l) [] [] ⟨List.Sublist.refl _, fun x hx => (by cases hx), List.Pairwise.nil⟩
  exact q
theorem leastOf_isB (l : List (List α)) : IsB O (leastOf O l) := ⟨(srt_inOrder l).sublist (linv_leastOf l).sub, (linv_leastOf l).ant⟩
theorem leastOf_mem {l : List (List α)} {w : List α} (h : w ∈ leastOf O l) : w ∈ l := mem_inOrder.mp ((linv_leastOf l).sub.subset h)
theorem leastOf_up {l : List (List α)} {z : List α} : up (leastOf O l) z ↔ up l z := by
  constructor
  · rintro ⟨w, h1, h2⟩
    exact ⟨w, leastOf_mem h1, h2⟩
  · rintro ⟨w, h1, h2⟩
    exact up_mono h2 ((linv_leastOf l).cov w (mem_inOrder.mpr h1))
theorem leastOf_len (l : List (List α)) : (leastOf O l).length ≤ l.length := Nat.le_trans (linv_leastOf (O := O) l).sub.length_le (inOrder_len l)
theorem lt_len {a b : List α} (h : O.lt a b = true) : a.length ≤ b.length := by
  rcases Nat.lt_or_ge b.length a.length with q | q
  · have z := lt_asym h
    rw [O.len _ _ q] at z
    cases z
  · exact q
theorem pw_get {β : Type} {R : β → β → Prop} : ∀ {l : List β}, l.Pairwise R → ∀ x ∈ l, ∀ y ∈ l, x = y ∨ R x y ∨ R y x
  | [], _, x, hx, _, _ => by cases hx
  | a :: r, h, x, hx, y, hy => by
    obtain ⟨h1, h2⟩ := List.pairwise_cons.mp h
    rcases List.mem_cons.mp hx with e | hx <;> rcases List.mem_cons.mp hy with e' | hy
    · exact .inl (e.trans e'.symm)
    · rw [e]; exact .inr (.inl (h1 y hy))
    · rw [e']; exact .inr (.inr (h1 x hx))
    · exact pw_get h2 x hx y hy
/-- no word of a base is a part of another -/
theorem IsB.anti {b : List (List α)} (h : IsB O b) {x y : List α} (hx : x ∈ b) (hy : y ∈ b) (s : x.Sublist y) : x = y := by
  have q := pw_get (R := fun a c => O.lt a c = true ∧ ¬ a.Sublist c) (h.1.and h.2) x hx y hy
  rcases q with e | ⟨_, n⟩ | ⟨l, _⟩
  · exact e
  · exact absurd s n
  · exact s.eq_of_length_le (lt_len l)
theorem isB_ext {a b : List (List α)} (ha : IsB O a) (hb : IsB O b) (h : ∀ z, up a z ↔ up b z) : a = b := by
  have key : ∀ {a b : List (List α)}, IsB O a → IsB O b → (∀ z, up a z ↔ up b z) → ∀ w, w ∈ a → w ∈ b := fun {a b} ha hb h w hw => by
    obtain ⟨v, hv, s⟩ := (h w).mp ⟨w, hw, List.Sublist.refl _⟩
    obtain ⟨u, hu, s2⟩ := (h v).mpr ⟨v, hv, List.Sublist.refl _⟩
    have e := ha.anti hu hw (s2.trans s)
    subst e
    rw [s2.eq_of_length_le s.length_le]
    exact hv
  exact srt_ext ha.1 hb.1 fun z => ⟨key ha hb h z, key hb ha (fun z => (h z).symm) z⟩
theorem leastOf_fix {b : List (List α)} (h : IsB O b) : leastOf O b = b := isB_ext (leastOf_isB b) h fun _ => leastOf_up

/-! ### either, both, then, times -/
variable (O)
def either (a b : List (List α)) : List (List α) := leastOf O (a ++ b)
/-- the least logs that have both (before the last sifting) -/
def lb : List α → List α → List (List α)
  | [], y => [y]
  | a :: x, [] => [a :: x]
  | a :: x, b :: y => if a = b then (lb x y).map (a :: ·) else leastOf O ((lb x (b :: y)).map (a :: ·) ++ (lb (a :: x) y).map (b :: ·))
termination_by x y => x.length + y.length
def leastBoth (x y : List α) : List (List α) := leastOf O (lb O x y)
def both (a b : List (List α)) : List (List α) := leastOf O (a.flatMap fun w => b.flatMap fun m => leastBoth O w m)
def thnB (a b : List (List α)) : List (List α) := inOrder O (a.flatMap fun w => b.map fun m => w ++ m)
def timesN (b : List (List α)) : Nat → List (List α)
  | 0 => [[]]
  | n + 1 => thnB O (timesN b n) b
variable {O}
theorem up_append {a b : List (List α)} {z : List α} : up (a ++ b) z ↔ up a z ∨ up b z := by
  unfold up
  constructor
  · rintro ⟨w, h1, h2⟩
    rcases List.mem_append.mp h1 with q | q
    · exact .inl ⟨w, q, h2⟩
    · exact .inr ⟨w, q, h2⟩
  · rintro (⟨w, h1, h2⟩ | ⟨w, h1, h2⟩)
    · exact ⟨w, List.mem_append_left _ h1, h2⟩
    · exact ⟨w, List.mem_append_right _ h1, h2⟩
theorem either_up {a b : List (List α)} {z : List α} : up (either O a b) z ↔ up a z ∨ up b z := leastOf_up.trans up_append
theorem up_map_cons {b : List (List α)} {c : α} {z : List α} : up (b.map (c :: ·)) z ↔ ∃ w ∈ b, (c :: w).Sublist z := by
  unfold up
  constructor
  · rintro ⟨w, h1, h2⟩
    obtain ⟨v, hv, e⟩ := List.mem_map.mp h1
    exact ⟨v, hv, e ▸ h2⟩
  · rintro ⟨w, h1, h2⟩
    exact ⟨c :: w, List.mem_map.mpr ⟨w, h1, rfl⟩, h2⟩
theorem lb_up : ∀ (x y z : List α), up (lb O x y) z ↔ x.Sublist z ∧ y.Sublist z
  | [], y, z => by
    rw [lb]
    unfold up
    simp
  | a :: x, [], z => by
    rw [lb]
    unfold up
    simp
  | a :: x, b :: y, z => by
    rw [lb]
    split
    · rename_i e
      subst e
      rw [up_map_cons]
      constructor
      · rintro ⟨w, hw, s⟩
        obtain ⟨s1, s2⟩ := (lb_up x y w).mp ⟨w, hw, List.Sublist.refl _⟩
        exact ⟨(s1.cons_cons a).trans s, (s2.cons_cons a).trans s⟩
      · rintro ⟨s1, s2⟩
        induction z with
        | nil => cases s1
        | cons c z ih =>
          by_cases e : c = a
          · subst e
            obtain ⟨w, hw, s⟩ := (lb_up x y z).mpr ⟨List.cons_sublist_cons.mp s1, List.cons_sublist_cons.mp s2⟩
            exact ⟨w, hw, s.cons_cons c⟩
          · have t1 : (a :: x).Sublist z := by
              cases s1 with
              | cons _ s => exact s
              | cons_cons _ s => exact absurd rfl e
            have t2 : (a :: y).Sublist z := by
              cases s2 with
              | cons _ s => exact s
              | cons_cons _ s => exact absurd rfl e
            obtain ⟨w, hw, s⟩ := ih t1 t2
            exact ⟨w, hw, s.cons c⟩
    · rename_i hne
      rw [leastOf_up, up_append, up_map_cons, up_map_cons]
      constructor
      · rintro (⟨w, hw, s⟩ | ⟨w, hw, s⟩)
        · obtain ⟨s1, s2⟩ := (lb_up x (b :: y) w).mp ⟨w, hw, List.Sublist.refl _⟩
          exact ⟨(s1.cons_cons a).trans s, (s2.cons a).trans s⟩
        · obtain ⟨s1, s2⟩ := (lb_up (a :: x) y w).mp ⟨w, hw, List.Sublist.refl _⟩
          exact ⟨(s1.cons b).trans s, (s2.cons_cons b).trans s⟩
      · rintro ⟨s1, s2⟩
        induction z with
        | nil => cases s1
        | cons c z ih =>
          by_cases e : c = a
          · subst e
            have t2 : (b :: y).Sublist z := by
              cases s2 with
              | cons _ s => exact s
              | cons_cons _ s => exact absurd rfl hne
            obtain ⟨w, hw, s⟩ := (lb_up x (b :: y) z).mpr ⟨List.cons_sublist_cons.mp s1, t2⟩
            exact .inl ⟨w, hw, s.cons_cons c⟩
          · have t1 : (a :: x).Sublist z := by
              cases s1 with
              | cons _ s => exact s
              | cons_cons _ s => exact absurd rfl e
            by_cases e2 : c = b
            · subst e2
              obtain ⟨w, hw, s⟩ := (lb_up (a :: x) y z).mpr ⟨t1, List.cons_sublist_cons.mp s2⟩
              exact .inr ⟨w, hw, s.cons_cons c⟩
            · have t2 : (b :: y).Sublist z := by
                cases s2 with
                | cons _ s => exact s
                | cons_cons _ s => exact absurd rfl e2
              rcases ih t1 t2 with ⟨w, hw, s⟩ | ⟨w, hw, s⟩
              · exact .inl ⟨w, hw, s.cons c⟩
              · exact .inr ⟨w, hw, s.cons c⟩
termination_by x y => x.length + y.length
theorem up_flatMap {β : Type} {l : List β} {f : β → List (List α)} {z : List α} : up (l.flatMap f) z ↔ ∃ b ∈ l, up (f b) z := by
  unfold up
  constructor
  · rintro ⟨w, h1, h2⟩
    obtain ⟨b, hb, hw⟩ := List.mem_flatMap.mp h1
    exact ⟨b, hb, w, hw, h2⟩
  · rintro ⟨b, hb, w, hw, h2⟩
    exact ⟨w, List.mem_flatMap.mpr ⟨b, hb, hw⟩, h2⟩
theorem both_up {a b : List (List α)} {z : List α} : up (both O a b) z ↔ up a z ∧ up b z := by
  unfold both
  rw [leastOf_up, up_flatMap]
  constructor
  · rintro ⟨w, hw, h⟩
    obtain ⟨m, hm, h⟩ := up_flatMap.mp h
    obtain ⟨s1, s2⟩ := (lb_up w m z).mp (leastOf_up.mp h)
    exact ⟨⟨w, hw, s1⟩, ⟨m, hm, s2⟩⟩
  · rintro ⟨⟨w, hw, s1⟩, ⟨m, hm, s2⟩⟩
    exact ⟨w, hw, up_flatMap.mpr ⟨m, hm, leastOf_up.mpr ((lb_up w m z).mpr ⟨s1, s2⟩)⟩⟩
theorem inOrder_up {l : List (List α)} {z : List α} : up (inOrder O l) z ↔ up l z := by
  unfold up
  constructor
  · rintro ⟨w, h1, h2⟩
    exact ⟨w, mem_inOrder.mp h1, h2⟩
  · rintro ⟨w, h1, h2⟩
    exact ⟨w, mem_inOrder.mpr h1, h2⟩
/-- cut in two -/
theorem thn_up {a b : List (List α)} {z : List α} : up (thnB O a b) z ↔ ∃ k, k ≤ z.length ∧ up a (z.take k) ∧ up b (z.drop k) := by
  unfold thnB
  rw [inOrder_up, up_flatMap]
  constructor
  · rintro ⟨w, hw, u⟩
    obtain ⟨v, hv, s⟩ := u
    obtain ⟨m, hm, e⟩ := List.mem_map.mp hv
    subst e
    obtain ⟨z1, z2, e, s1, s2⟩ := List.append_sublist_iff.mp s
    subst e
    refine ⟨z1.length, by simp, ⟨w, hw, ?_⟩, ⟨m, hm, ?_⟩⟩
    · rw [List.take_left]
      exact s1
    · rw [List.drop_left]
      exact s2
  · rintro ⟨k, _, ⟨w, hw, s1⟩, ⟨m, hm, s2⟩⟩
    refine ⟨w, hw, w ++ m, List.mem_map.mpr ⟨m, hm, rfl⟩, ?_⟩
    have q := s1.append s2
    rw [List.take_append_drop] at q
    exact q
theorem append_part {w m w' m' : List α} (s : (w ++ m).Sublist (w' ++ m')) : w.Sublist w' ∨ ((m.Sublist m') ∧ m.length < m'.length) := by
  obtain ⟨z1, z2, e, s1, s2⟩ := List.append_sublist_iff.mp s
  rcases List.append_eq_append_iff.mp e with ⟨a, e1, e2⟩ | ⟨c, e1, e2⟩
  · -- z1 = w' ++ a , m' = a ++ z2
    subst e1
    cases a with
    | nil =>
      rw [List.append_nil] at s1
      exact .inl s1
    | cons x a =>
      rw [e2]
      refine .inr ⟨s2.trans (List.sublist_append_right _ _), ?_⟩
      have := s2.length_le
      simp only [List.length_append, List.length_cons]
      omega
  · rw [e1]
    exact .inl (s1.trans (List.sublist_append_left _ _))
theorem thn_isB {a b : List (List α)} (ha : IsB O a) (hb : IsB O b) : IsB O (thnB O a b) := by
  have hs := srt_inOrder (O := O) (a.flatMap fun w => b.map fun m => w ++ m)
  refine ⟨hs, ?_⟩
  have h2 : ∀ x ∈ thnB O a b, ∀ y ∈ thnB O a b, x.Sublist y → x = y := by
    intro x hx y hy s
    obtain ⟨w, hw, h⟩ := List.mem_flatMap.mp (mem_inOrder.mp hx)
    obtain ⟨m, hm, e⟩ := List.mem_map.mp h
    obtain ⟨w', hw', h'⟩ := List.mem_flatMap.mp (mem_inOrder.mp hy)
    obtain ⟨m', hm', e'⟩ := List.mem_map.mp h'
    subst e e'
    rcases append_part s with q | ⟨q, ql⟩
    · have e := ha.anti hw hw' q
      subst e
      rw [hb.anti hm hm' ((List.append_sublist_append_left w).mp s)]
    · have e := hb.anti hm hm' q
      subst e
      omega
  refine List.Pairwise.imp_of_mem (fun {x y} hx hy hlt s => ?_) hs
  have e := h2 x hx y hy s
  subst e
  rw [O.irr] at hlt
  cases hlt
theorem one_isB (x : List α) : IsB O [x] := ⟨List.pairwise_singleton _ _, List.pairwise_singleton _ _⟩
theorem nil_isB : IsB O ([] : List (List α)) := ⟨List.Pairwise.nil, List.Pairwise.nil⟩
theorem timesN_isB {b : List (List α)} (hb : IsB O b) : ∀ n, IsB O (timesN O b n)
  | 0 => one_isB _
  | n + 1 => thn_isB (timesN_isB hb n) hb
theorem up_nil {z : List α} : up ([[]] : List (List α)) z := ⟨[], List.mem_cons_self, List.nil_sublist z⟩
theorem thn_assoc_up {a b c : List (List α)} {z : List α} : up (thnB O (thnB O a b) c) z ↔ up (thnB O a (thnB O b c)) z := by
  constructor
  · intro h
    obtain ⟨k, hk, h1, h2⟩ := thn_up.mp h
    obtain ⟨j, hj, h3, h4⟩ := thn_up.mp h1
    rw [List.length_take] at hj
    refine thn_up.mpr ⟨j, by omega, ?_, thn_up.mpr ⟨k - j, ?_, ?_, ?_⟩⟩
    · rw [List.take_take] at h3
      rw [show min j k = j by omega] at h3
      exact h3
    · rw [List.length_drop]; omega
    · rw [List.drop_take] at h4
      exact h4
    · rw [List.drop_drop, show j + (k - j) = k by omega]
      exact h2
  · intro h
    obtain ⟨k, hk, h1, h2⟩ := thn_up.mp h
    obtain ⟨j, hj, h3, h4⟩ := thn_up.mp h2
    rw [List.length_drop] at hj
    refine thn_up.mpr ⟨k + j, by omega, thn_up.mpr ⟨k, ?_, ?_, ?_⟩, ?_⟩
    · rw [List.length_take]; omega
    · rw [List.take_take, show min k (k + j) = k by omega]
      exact h1
    · rw [List.drop_take, show k + j - k = j by omega]
      exact h3
    · rw [List.drop_drop] at h4
      exact h4
theorem thn_congr_up {a b c d : List (List α)} (h1 : ∀ z, up a z ↔ up c z) (h2 : ∀ z, up b z ↔ up d z) (z : List α) : up (thnB O a b) z ↔ up (thnB O c d) z := by
  rw [thn_up, thn_up]
  constructor
  · rintro ⟨k, hk, q1, q2⟩
    exact ⟨k, hk, (h1 _).mp q1, (h2 _).mp q2⟩
  · rintro ⟨k, hk, q1, q2⟩
    exact ⟨k, hk, (h1 _).mpr q1, (h2 _).mpr q2⟩
theorem thn_one_left {b : List (List α)} {z : List α} : up (thnB O [[]] b) z ↔ up b z := by
  rw [thn_up]
  constructor
  · rintro ⟨k, _, _, h⟩
    exact up_mono (List.drop_sublist k z) h
  · intro h
    exact ⟨0, Nat.zero_le _, up_nil, by rw [List.drop_zero]; exact h⟩
theorem thn_one_right {b : List (List α)} {z : List α} : up (thnB O b [[]]) z ↔ up b z := by
  rw [thn_up]
  constructor
  · rintro ⟨k, _, h, _⟩
    exact up_mono (List.take_sublist k z) h
  · intro h
    exact ⟨z.length, Nat.le_refl _, by rw [List.take_length]; exact h, up_nil⟩
/-- the law's way round: one ahead of the others -/
theorem timesN_front (b : List (List α)) : ∀ (n : Nat) (z : List α), up (timesN O b (n + 1)) z ↔ up (thnB O b (timesN O b n)) z
  | 0, z => by
    show up (thnB O [[]] b) z ↔ up (thnB O b [[]]) z
    rw [thn_one_left, thn_one_right]
  | n + 1, z => by
    show up (thnB O (timesN O b (n + 1)) b) z ↔ up (thnB O b (thnB O (timesN O b n) b)) z
    rw [← thn_assoc_up]
    exact thn_congr_up (timesN_front b n) (fun _ => Iff.rfl) z

/-! ### rules as trees -/
inductive T (α : Type) where
  | seen (x : α) | one | zero
  | thn (a b : T α) | alt (a b : T α) | all (a b : T α)
  | tms (a : T α) (n : Nat)
deriving DecidableEq, Inhabited
variable (O)
def tbase : T α → List (List α)
  | .seen x => [[x]]
  | .one => [[]]
  | .zero => []
  | .thn a b => thnB O (tbase a) (tbase b)
  | .alt a b => either O (tbase a) (tbase b)
  | .all a b => both O (tbase a) (tbase b)
  | .tms a n => timesN O (tbase a) n
variable {O}
/-- cutting at every place -/
def cuts (f g : List α → Bool) (z : List α) : Bool := (List.range (z.length + 1)).any fun k => f (z.take k) && g (z.drop k)
def timesH (f : List α → Bool) : Nat → List α → Bool
  | 0, _ => true
  | n + 1, z => cuts f (timesH f n) z
def holds : T α → List α → Bool
  | .seen x, z => decide (x ∈ z)
  | .one, _ => true
  | .zero, _ => false
  | .thn a b, z => cuts (holds a) (holds b) z
  | .alt a b, z => holds a z || holds b z
  | .all a b, z => holds a z && holds b z
  | .tms a n, z => timesH (holds a) n z
theorem tbase_isB : ∀ t : T α, IsB O (tbase O t)
  | .seen x => one_isB _
  | .one => one_isB _
  | .zero => nil_isB
  | .thn a b => thn_isB (tbase_isB a) (tbase_isB b)
  | .alt a b => leastOf_isB _
  | .all a b => leastOf_isB _
  | .tms a n => timesN_isB (tbase_isB a) n
theorem cuts_iff {f g : List α → Bool} {a b : List (List α)} (h1 : ∀ z, f z = true ↔ up a z) (h2 : ∀ z, g z = true ↔ up b z) (z : List α) : cuts f g z = true ↔ up (thnB O a b) z := by
  unfold cuts
  rw [List.any_eq_true, thn_up]
  constructor
  · rintro ⟨k, hk, h⟩
    rw [Bool.and_eq_true] at h
    exact ⟨k, by have := List.mem_range.mp hk; omega, (h1 _).mp h.1, (h2 _).mp h.2⟩
  · rintro ⟨k, hk, q1, q2⟩
    exact ⟨k, List.mem_range.mpr (by omega), by rw [(h1 _).mpr q1, (h2 _).mpr q2]; rfl⟩
theorem timesH_iff {f : List α → Bool} {a : List (List α)} (h : ∀ z, f z = true ↔ up a z) : ∀ (n : Nat) (z : List α), timesH f n z = true ↔ up (timesN O a n) z
  | 0, z => by
    show true = true ↔ up [[]] z
    simp [up_nil]
  | n + 1, z => by
    rw [timesN_front]
    exact cuts_iff h (timesH_iff h n) z
/-- a log is in the rule, judged by cutting, exactly if a word of the base is a part of it -/
theorem holds_iff : ∀ (t : T α) (z : List α), holds t z = true ↔ up (tbase O t) z
  | .seen x, z => by
    show decide (x ∈ z) = true ↔ up [[x]] z
    rw [decide_eq_true_iff]
    unfold up
    simp
  | .one, z => by
    show true = true ↔ up [[]] z
    simp [up_nil]
  | .zero, z => by
    show false = true ↔ up [] z
    unfold up
    simp
  | .thn a b, z => cuts_iff (holds_iff a) (holds_iff b) z
  | .alt a b, z => by
    show (holds a z || holds b z) = true ↔ up (either O _ _) z
    rw [Bool.or_eq_true, either_up, holds_iff a z, holds_iff b z]
  | .all a b, z => by
    show (holds a z && holds b z) = true ↔ up (both O _ _) z
    rw [Bool.and_eq_true, both_up, holds_iff a z, holds_iff b z]
  | .tms a n, z => timesH_iff (holds_iff a) n z
theorem holds_does (t : T α) (z : List α) : holds t z = does (tbase O t) z := by
  have h := (holds_iff (O := O) t z).trans does_iff.symm
  cases h1 : holds t z <;> cases h2 : does (tbase O t) z <;> simp_all
end
end K54
namespace K54
section
variable {α : Type} [DecidableEq α] {O : LogOrd α}
/-! ### the rule of a base -/
def wordT : List α → T α
  | [] => .one
  | x :: r => r.foldl (fun t y => .thn t (.seen y)) (.seen x)
def ruleOfT : List (List α) → T α
  | [] => .zero
  | w :: r => r.foldl (fun t v => .alt t (wordT v)) (wordT w)
theorem thn_single (v m : List α) : thnB O [v] [m] = [v ++ m] := by
  unfold thnB
  simp [inOrder, ins]
theorem tbase_fold : ∀ (r : List α) (t : T α) (v : List α), tbase O t = [v] → tbase O (r.foldl (fun t y => .thn t (.seen y)) t) = [v ++ r]
  | [], t, v, h => by simpa using h
  | x :: r, t, v, h => by
    show tbase O (r.foldl (fun t y => .thn t (.seen y)) (.thn t (.seen x))) = _
    rw [tbase_fold r _ (v ++ [x]) ?_]
    · simp
    · show thnB O (tbase O t) [[x]] = _
      rw [h, thn_single]
theorem tbase_word : ∀ w : List α, tbase O (wordT w) = [w]
  | [] => rfl
  | x :: r => tbase_fold r (.seen x) [x] rfl
theorem up_single {w z : List α} : up [w] z ↔ w.Sublist z := by
  unfold up
  simp
theorem up_cons {w : List α} {b : List (List α)} {z : List α} : up (w :: b) z ↔ w.Sublist z ∨ up b z := by
  unfold up
  constructor
  · rintro ⟨v, hv, s⟩
    rcases List.mem_cons.mp hv with e | hv
    · exact .inl (e ▸ s)
    · exact .inr ⟨v, hv, s⟩
  · rintro (s | ⟨v, hv, s⟩)
    · exact ⟨w, List.mem_cons_self, s⟩
    · exact ⟨v, List.mem_cons_of_mem _ hv, s⟩
theorem ruleOf_fold : ∀ (r : List (List α)) (t : T α) (z : List α), up (tbase O (r.foldl (fun t v => .alt t (wordT v)) t)) z ↔ up (tbase O t) z ∨ up r z
  | [], t, z => by
    have : ¬ up ([] : List (List α)) z := fun ⟨_, h, _⟩ => by cases h
    simp [this]
  | v :: r, t, z => by
    show up (tbase O (r.foldl (fun t v => .alt t (wordT v)) (.alt t (wordT v)))) z ↔ _
    rw [ruleOf_fold r _ z]
    show up (either O (tbase O t) (tbase O (wordT v))) z ∨ up r z ↔ _
    rw [either_up, tbase_word, up_single, up_cons, or_assoc]
theorem ruleOf_up : ∀ (b : List (List α)) (z : List α), up (tbase O (ruleOfT b)) z ↔ up b z
  | [], z => Iff.rfl
  | w :: r, z => by
    show up (tbase O (r.foldl (fun t v => .alt t (wordT v)) (wordT w))) z ↔ _
    rw [ruleOf_fold, tbase_word, up_single, up_cons]
/-- rule_of has the base -/
theorem ruleOf_base {b : List (List α)} (h : IsB O b) : tbase O (ruleOfT b) = b := isB_ext (tbase_isB _) h (ruleOf_up b)

/-! ### one word left out -/
def isInside (a b : List (List α)) : Bool := a.all fun w => does b w
def outsideM (a b : List (List α)) : Option (List α) := a.find? fun w => !does b w
def fewer (b : List (List α)) (w : List α) : List (List α) := b.filter fun v => decide (v ≠ w)
theorem does_self {b : List (List α)} {w : List α} (h : w ∈ b) : does b w = true := does_iff.mpr ⟨w, h, List.Sublist.refl _⟩
theorem mem_fewer {b : List (List α)} {v w : List α} : v ∈ fewer b w ↔ v ∈ b ∧ v ≠ w := by
  unfold fewer
  rw [List.mem_filter, decide_eq_true_iff]
theorem fewer_isB {b : List (List α)} (h : IsB O b) (w : List α) : IsB O (fewer b w) := ⟨h.1.filter _, h.2.filter _⟩
theorem fewer_not {b : List (List α)} (h : IsB O b) {w : List α} (hw : w ∈ b) : does (fewer b w) w = false := by
  cases e : does (fewer b w) w with
  | false => rfl
  | true =>
    obtain ⟨v, hv, s⟩ := does_iff.mp e
    obtain ⟨h1, h2⟩ := mem_fewer.mp hv
    exact absurd (h.anti h1 hw s) h2
theorem fewer_inside {b : List (List α)} (w : List α) : isInside (fewer b w) b = true := List.all_eq_true.mpr fun _ hv => does_self (mem_fewer.mp hv).1
theorem not_inside {b : List (List α)} (h : IsB O b) {w : List α} (hw : w ∈ b) : isInside b (fewer b w) = false := by
  cases e : isInside b (fewer b w) with
  | false => rfl
  | true =>
    have q := List.all_eq_true.mp e w hw
    rw [fewer_not h hw] at q
    cases q
theorem outside_fewer (b : List (List α)) (w : List α) : outsideM (fewer b w) b = none := by
  unfold outsideM
  rw [List.find?_eq_none]
  intro v hv
  rw [does_self (mem_fewer.mp hv).1]
  decide
theorem find_only {β : Type} {p : β → Bool} {x : β} : ∀ {l : List β}, x ∈ l → (∀ y ∈ l, p y = true → y = x) → p x = true → l.find? p = some x
  | [], h, _, _ => by cases h
  | y :: r, h, h2, h3 => by
    rw [List.find?_cons]
    cases e : p y with
    | true => rw [h2 y List.mem_cons_self e]
    | false =>
      refine find_only ?_ (fun z hz => h2 z (List.mem_cons_of_mem _ hz)) h3
      rcases List.mem_cons.mp h with q | q
      · rw [q, e] at h3
        cases h3
      · exact q
theorem outside_word {b : List (List α)} (h : IsB O b) {w : List α} (hw : w ∈ b) : outsideM b (fewer b w) = some w := by
  refine find_only hw (fun y hy q => ?_) (by rw [fewer_not h hw]; rfl)
  by_cases e : y = w
  · exact e
  · rw [does_self (mem_fewer.mpr ⟨hy, e⟩)] at q
    cases q
theorem fewer_ne {b : List (List α)} {w : List α} (hw : w ∈ b) : fewer b w ≠ b := fun e => by
  have q := hw
  rw [← e] at q
  exact (mem_fewer.mp q).2 rfl
theorem cut_not {b : List (List α)} (h : IsB O b) {w : List α} (hw : w ∈ b) {k : Nat} (hk : k < w.length) : does b (w.take k ++ w.drop (k + 1)) = false := by
  cases e : does b (w.take k ++ w.drop (k + 1)) with
  | false => rfl
  | true =>
    obtain ⟨v, hv, s⟩ := does_iff.mp e
    have s2 : (w.take k ++ w.drop (k + 1)).Sublist w := by
      have q := (List.Sublist.refl (w.take k)).append (List.sublist_cons_self w[k] (w.drop (k + 1)))
      rw [← List.drop_eq_getElem_cons hk, List.take_append_drop] at q
      exact q
    have e2 := h.anti hv hw (s.trans s2)
    have l := s.length_le
    rw [e2, List.length_append, List.length_take, List.length_drop] at l
    omega
theorem twice_base {b : List (List α)} (h : IsB O b) : leastOf O (b ++ b.reverse) = b := isB_ext (leastOf_isB _) h fun z => by
  rw [leastOf_up, up_append]
  constructor
  · rintro (q | ⟨w, hw, s⟩)
    · exact q
    · exact ⟨w, List.mem_reverse.mp hw, s⟩
  · exact .inl
end
end K54
/-! KText: how a rule is written, and how it is read back. Plain Lean. -/
set_option linter.all false
namespace K54
abbrev Sym := List Nat
section
variable {α : Type} (cps : α → Sym) (mk : Sym → α)
def isLet (c : Nat) : Bool := decide (97 ≤ c ∧ c ≤ 122)
def isDig (c : Nat) : Bool := decide (48 ≤ c ∧ c ≤ 57)
def nameOk (s : Sym) : Bool := decide (1 ≤ s.length ∧ s.length ≤ 8) && s.all isLet
/-- how much a sign binds -/
def bnd : T α → Nat
  | .seen _ => 4
  | .one => 4
  | .zero => 4
  | .tms _ _ => 3
  | .thn _ _ => 2
  | .all _ _ => 1
  | .alt _ _ => 0
def signL : Nat → Sym
  | 0 => [124]
  | 1 => [38]
  | _ => [62, 62]
def digitL (n : Nat) : Sym := [48 + n]
def wrapL (t : T α) (least : Nat) (x : Sym) : Sym := if least ≤ bnd t then x else 40 :: (x ++ [41])
/-- the text -/
def textL : T α → Sym
  | .seen x => cps x
  | .one => [49]
  | .zero => [48]
  | .tms a n => wrapL a 3 (textL a) ++ [32, 42, 32] ++ digitL n
  | .thn a b => wrapL a 2 (textL a) ++ [32] ++ signL 2 ++ [32] ++ wrapL b 3 (textL b)
  | .all a b => wrapL a 1 (textL a) ++ [32] ++ signL 1 ++ [32] ++ wrapL b 2 (textL b)
  | .alt a b => wrapL a 0 (textL a) ++ [32] ++ signL 0 ++ [32] ++ wrapL b 1 (textL b)
/-- names are NAMEs, numbers are digits -/
def TOk : T α → Prop
  | .seen x => nameOk (cps x) = true
  | .one => True
  | .zero => True
  | .tms a n => TOk a ∧ n ≤ 8
  | .thn a b => TOk a ∧ TOk b
  | .all a b => TOk a ∧ TOk b
  | .alt a b => TOk a ∧ TOk b

/-! ### symbols -/
/-- the symbol with which a text begins -/
def symL (l : Sym) : Sym :=
  match l with
  | [] => []
  | c :: r => if c = 40 ∨ c = 41 ∨ c = 124 ∨ c = 38 ∨ c = 42 then [c]
    else if (c :: r).take 2 = [62, 62] then [62, 62]
    else if 0 < ((c :: r).takeWhile isLet).length then (if ((c :: r).takeWhile isLet).length ≤ 8 then (c :: r).takeWhile isLet else [])
    else if ((c :: r).takeWhile isDig).length < 2 ∨ ((c :: r).takeWhile isDig)[0]? ≠ some 48 then (c :: r).takeWhile isDig else []
/-- the symbols with their places, and a last empty one -/
def scanF : Nat → Nat → Sym → List (Sym × Nat)
  | 0, _, _ => []
  | _ + 1, n, [] => [([], n)]
  | f + 1, n, c :: r => if c = 32 then scanF f (n + 1) r
    else if symL (c :: r) = [] then [([], n)]
    else (symL (c :: r), n) :: scanF f (n + (symL (c :: r)).length) ((c :: r).drop (symL (c :: r)).length)
def scan (n : Nat) (l : Sym) : List (Sym × Nat) := scanF (l.length + 1) n l

/-- a symbol, with a blank ahead or none -/
abbrev Tk := Bool × Sym
def blank : List Tk → List Tk
  | [] => []
  | (_, s) :: r => (true, s) :: r
def wrapK (t : T α) (least : Nat) (x : List Tk) : List Tk := if least ≤ bnd t then x else (false, [40]) :: (x ++ [(false, [41])])
def toks : T α → List Tk
  | .seen x => [(false, cps x)]
  | .one => [(false, [49])]
  | .zero => [(false, [48])]
  | .tms a n => wrapK a 3 (toks a) ++ [(true, [42]), (true, digitL n)]
  | .thn a b => wrapK a 2 (toks a) ++ (true, signL 2) :: blank (wrapK b 3 (toks b))
  | .all a b => wrapK a 1 (toks a) ++ (true, signL 1) :: blank (wrapK b 2 (toks b))
  | .alt a b => wrapK a 0 (toks a) ++ (true, signL 0) :: blank (wrapK b 1 (toks b))
def oneL (k : Tk) : Sym := if k.1 = true then 32 :: k.2 else k.2
def renderL (ks : List Tk) : Sym := ks.flatMap oneL
theorem render_app (a b : List Tk) : renderL (a ++ b) = renderL a ++ renderL b := List.flatMap_append
theorem render_cons (k : Tk) (r : List Tk) : renderL (k :: r) = oneL k ++ renderL r := by simp [renderL]
theorem toks_ne : ∀ t : T α, toks cps t ≠ []
  | .seen x => by simp [toks]
  | .one => by simp [toks]
  | .zero => by simp [toks]
  | .tms a n => by simp [toks]
  | .thn a b => by simp [toks]
  | .all a b => by simp [toks]
  | .alt a b => by simp [toks]
/-- the first symbol has no blank ahead -/
def NoB : List Tk → Prop
  | (false, _) :: _ => True
  | _ => False
theorem noB_app {a b : List Tk} (h : NoB a) : NoB (a ++ b) := by
  cases a with
  | nil => exact h.elim
  | cons k a =>
    obtain ⟨b', s⟩ := k
    cases b' with
    | false => exact trivial
    | true => exact h.elim
theorem noB_wrap {t : T α} {n : Nat} {x : List Tk} (h : NoB x) : NoB (wrapK t n x) := by
  unfold wrapK
  split
  · exact h
  · exact trivial
theorem toks_noB : ∀ t : T α, NoB (toks cps t)
  | .seen x => trivial
  | .one => trivial
  | .zero => trivial
  | .tms a n => noB_app (noB_wrap (toks_noB a))
  | .thn a b => noB_app (noB_wrap (toks_noB a))
  | .all a b => noB_app (noB_wrap (toks_noB a))
  | .alt a b => noB_app (noB_wrap (toks_noB a))
theorem render_blank {x : List Tk} (h : NoB x) : renderL (blank x) = 32 :: renderL x := by
  cases x with
  | nil => exact h.elim
  | cons k a =>
    obtain ⟨b', s⟩ := k
    cases b' with
    | false =>
      show renderL ((true, s) :: a) = 32 :: renderL ((false, s) :: a)
      rw [render_cons, render_cons]
      rfl
    | true => exact h.elim
theorem render_wrap {t : T α} {n : Nat} {x : List Tk} : renderL (wrapK t n x) = wrapL t n (renderL x) := by
  unfold wrapK wrapL
  split
  · rfl
  · rw [render_cons, render_app]
    rfl
/-- the text is its symbols' -/
theorem text_toks : ∀ t : T α, renderL (toks cps t) = textL cps t
  | .seen x => by simp [toks, renderL, oneL, textL]
  | .one => rfl
  | .zero => rfl
  | .tms a n => by
    show renderL (wrapK a 3 (toks cps a) ++ [(true, [42]), (true, digitL n)]) = wrapL a 3 (textL cps a) ++ [32, 42, 32] ++ digitL n
    rw [render_app, render_wrap, text_toks a]
    simp [renderL, oneL]
  | .thn a b => by
    show renderL (wrapK a 2 (toks cps a) ++ (true, signL 2) :: blank (wrapK b 3 (toks cps b))) = wrapL a 2 (textL cps a) ++ [32] ++ signL 2 ++ [32] ++ wrapL b 3 (textL cps b)
    rw [render_app, render_cons, render_blank (noB_wrap (toks_noB cps b)), render_wrap, render_wrap, text_toks a, text_toks b]
    simp [oneL]
  | .all a b => by
    show renderL (wrapK a 1 (toks cps a) ++ (true, signL 1) :: blank (wrapK b 2 (toks cps b))) = wrapL a 1 (textL cps a) ++ [32] ++ signL 1 ++ [32] ++ wrapL b 2 (textL cps b)
    rw [render_app, render_cons, render_blank (noB_wrap (toks_noB cps b)), render_wrap, render_wrap, text_toks a, text_toks b]
    simp [oneL]
  | .alt a b => by
    show renderL (wrapK a 0 (toks cps a) ++ (true, signL 0) :: blank (wrapK b 1 (toks cps b))) = wrapL a 0 (textL cps a) ++ [32] ++ signL 0 ++ [32] ++ wrapL b 1 (textL cps b)
    rw [render_app, render_cons, render_blank (noB_wrap (toks_noB cps b)), render_wrap, render_wrap, text_toks a, text_toks b]
    simp [oneL]
/-- a symbol as it may stand in a text: a bracket or a sign, a name, a digit -/
def Punct (s : Sym) : Prop := s = [40] ∨ s = [41] ∨ s = [124] ∨ s = [38] ∨ s = [42] ∨ s = [62, 62]
def Word (s : Sym) : Prop := nameOk s = true ∨ ∃ n, n ≤ 8 ∧ s = digitL n
/-- what follows a word: nothing, a blank, a bracket that closes -/
def After : List Tk → Prop
  | [] => True
  | (b, s) :: _ => b = true ∨ s = [41]
def GoodT : List Tk → Prop
  | [] => True
  | (_, s) :: r => (Punct s ∨ (Word s ∧ After r)) ∧ GoodT r
theorem good_app : ∀ {a b : List Tk}, GoodT a → GoodT b → After b → GoodT (a ++ b)
  | [], b, _, hb, _ => hb
  | (k, s) :: r, b, ha, hb, hc => by
    obtain ⟨h1, h2⟩ := ha
    refine ⟨?_, good_app h2 hb hc⟩
    rcases h1 with h1 | ⟨h1, h3⟩
    · exact .inl h1
    · refine .inr ⟨h1, ?_⟩
      cases r with
      | nil => exact hc
      | cons k r => exact h3
theorem good_blank {a : List Tk} (h : GoodT a) : GoodT (blank a) := by
  cases a with
  | nil => exact h
  | cons k r => exact h
theorem good_wrap {t : T α} {n : Nat} {x : List Tk} (h : GoodT x) : GoodT (wrapK t n x) := by
  unfold wrapK
  split
  · exact h
  · exact ⟨.inl (.inl rfl), good_app h ⟨.inl (.inr (.inl rfl)), trivial⟩ (.inr rfl)⟩
theorem punct_sign (k : Nat) : Punct (signL k) := by
  unfold signL
  split
  · exact .inr (.inr (.inl rfl))
  · exact .inr (.inr (.inr (.inl rfl)))
  · exact .inr (.inr (.inr (.inr (.inr rfl))))
theorem good_bin {a b : List Tk} {k : Nat} (ha : GoodT a) (hb : GoodT b) : GoodT (a ++ (true, signL k) :: blank b) :=
  good_app ha ⟨.inl (punct_sign k), good_blank hb⟩ (.inl rfl)
theorem toks_good : ∀ t : T α, TOk cps t → GoodT (toks cps t)
  | .seen x, h => ⟨.inr ⟨.inl h, trivial⟩, trivial⟩
  | .one, _ => ⟨.inr ⟨.inr ⟨1, by omega, rfl⟩, trivial⟩, trivial⟩
  | .zero, _ => ⟨.inr ⟨.inr ⟨0, by omega, rfl⟩, trivial⟩, trivial⟩
  | .tms a n, h => good_app (good_wrap (toks_good a h.1)) ⟨.inl (.inr (.inr (.inr (.inr (.inl rfl))))), ⟨.inr ⟨.inr ⟨n, h.2, rfl⟩, trivial⟩, trivial⟩⟩ (.inl rfl)
  | .thn a b, h => good_bin (good_wrap (toks_good a h.1)) (good_wrap (toks_good b h.2))
  | .all a b, h => good_bin (good_wrap (toks_good a h.1)) (good_wrap (toks_good b h.2))
  | .alt a b, h => good_bin (good_wrap (toks_good a h.1)) (good_wrap (toks_good b h.2))
theorem takeWhile_app {p : Nat → Bool} : ∀ {a b : Sym}, a.all p = true → (∀ c, b.head? = some c → p c = false) → (a ++ b).takeWhile p = a
  | [], [], _, _ => rfl
  | [], c :: b, _, h => by
    show (c :: b).takeWhile p = []
    rw [List.takeWhile_cons, h c rfl]
    rfl
  | c :: a, b, h, h2 => by
    rw [List.all_cons, Bool.and_eq_true] at h
    show (c :: (a ++ b)).takeWhile p = _
    rw [List.takeWhile_cons, h.1, takeWhile_app h.2 h2]
    rfl
theorem after_head {r : List Tk} (h : After r) : ∀ c, (renderL r).head? = some c → isLet c = false ∧ isDig c = false := by
  intro c hc
  cases r with
  | nil => cases hc
  | cons k r =>
    obtain ⟨b, s⟩ := k
    rw [render_cons] at hc
    have : c = 32 ∨ c = 41 := by
      rcases h with h | h
      · subst h
        left
        simpa [oneL, eq_comm] using hc
      · subst h
        cases b with
        | true =>
          left
          simpa [oneL, eq_comm] using hc
        | false =>
          right
          simpa [oneL, eq_comm] using hc
    rcases this with e | e
    · subst e
      exact ⟨by decide, by decide⟩
    · subst e
      exact ⟨by decide, by decide⟩
theorem sym_punct {s rest : Sym} (h : Punct s) : symL (s ++ rest) = s ∧ s.head? ≠ some 32 := by
  rcases h with h | h | h | h | h | h <;> subst h
  · exact ⟨by simp [symL], by decide⟩
  · exact ⟨by simp [symL], by decide⟩
  · exact ⟨by simp [symL], by decide⟩
  · exact ⟨by simp [symL], by decide⟩
  · exact ⟨by simp [symL], by decide⟩
  · exact ⟨by simp [symL], by decide⟩
theorem let_not {c : Nat} (h : isLet c = true) : ¬ (c = 40 ∨ c = 41 ∨ c = 124 ∨ c = 38 ∨ c = 42) ∧ c ≠ 62 ∧ c ≠ 32 := by
  have h2 : 97 ≤ c ∧ c ≤ 122 := of_decide_eq_true h
  omega
theorem sym_word {s : Sym} {r : List Tk} (h : Word s) (ha : After r) : symL (s ++ renderL r) = s ∧ s.head? ≠ some 32 ∧ s ≠ [] := by
  rcases h with h | ⟨n, hn, e⟩
  · unfold nameOk at h
    rw [Bool.and_eq_true, decide_eq_true_iff] at h
    obtain ⟨⟨h1, h8⟩, hl⟩ := h
    cases s with
    | nil => simp at h1
    | cons c s =>
      have hc : isLet c = true := by
        rw [List.all_cons, Bool.and_eq_true] at hl
        exact hl.1
      obtain ⟨n1, n2, n3⟩ := let_not hc
      have tw := takeWhile_app hl fun d hd => (after_head ha d hd).1
      refine ⟨?_, by simpa using n3, by simp⟩
      show symL (c :: (s ++ renderL r)) = _
      have tw' : (c :: (s ++ renderL r)).takeWhile isLet = c :: s := tw
      unfold symL
      dsimp only
      rw [if_neg n1, if_neg (by intro q; simp at q; exact n2 q.1), tw', if_pos (by simp), if_pos h8]
  · subst e
    have hd : isDig (48 + n) = true := decide_eq_true (by omega)
    have tw : ((48 + n) :: renderL r).takeWhile isDig = [48 + n] := takeWhile_app (a := [48 + n]) (by simp [hd]) fun d hd => (after_head ha d hd).2
    have hl : isLet (48 + n) = false := decide_eq_false (by omega)
    refine ⟨?_, by simp [digitL]; omega, by simp [digitL]⟩
    show symL ((48 + n) :: renderL r) = _
    unfold symL
    dsimp only
    rw [if_neg (by omega), if_neg (by intro q; simp at q; omega), if_neg (by rw [List.takeWhile_cons, hl]; simp), tw, if_pos (by simp)]
    rfl
/-- the places of the symbols -/
def placed : Nat → List Tk → List (Sym × Nat)
  | n, [] => [([], n)]
  | n, (b, s) :: r => (s, if b = true then n + 1 else n) :: placed (n + (oneL (b, s)).length) r
theorem scanF_step {f n : Nat} {s : Sym} {rest : Sym} (h : symL (s ++ rest) = s) (h32 : s.head? ≠ some 32) (hs : s ≠ []) : scanF (f + 1) n (s ++ rest) = (s, n) :: scanF f (n + s.length) rest := by
  cases s with
  | nil => exact absurd rfl hs
  | cons c s =>
    have hc : ¬ c = 32 := by simpa using h32
    show scanF (f + 1) n (c :: (s ++ rest)) = _
    have h' : symL (c :: (s ++ rest)) = c :: s := h
    conv => lhs; unfold scanF
    rw [if_neg hc, h', if_neg hs]
    congr 2
    show (c :: (s ++ rest)).drop (c :: s).length = rest
    have : (c :: (s ++ rest)) = (c :: s) ++ rest := rfl
    rw [this, List.drop_left]
theorem scanF_good : ∀ (ks : List Tk) (f n : Nat), (renderL ks).length < f → GoodT ks → scanF f n (renderL ks) = placed n ks
  | [], f, n, hf, _ => by
    cases f with
    | zero => omega
    | succ f => rfl
  | (b, s) :: r, f, n, hf, hg => by
    obtain ⟨h1, h2⟩ := hg
    have key : symL (s ++ renderL r) = s ∧ s.head? ≠ some 32 ∧ s ≠ [] := by
      rcases h1 with h1 | ⟨h1, h3⟩
      · obtain ⟨q1, q2⟩ := sym_punct (rest := renderL r) h1
        refine ⟨q1, q2, ?_⟩
        rcases h1 with h | h | h | h | h | h <;> subst h <;> simp
      · exact sym_word h1 h3
    obtain ⟨k1, k2, k3⟩ := key
    have hlen : 0 < s.length := List.length_pos_iff.mpr k3
    rw [render_cons] at hf ⊢
    cases b with
    | false =>
      have e : oneL (false, s) = s := rfl
      rw [e] at hf ⊢
      rw [List.length_append] at hf
      cases f with
      | zero => omega
      | succ f =>
        rw [scanF_step k1 k2 k3, scanF_good r f _ (by omega) h2]
        rfl
    | true =>
      have e : oneL (true, s) = 32 :: s := rfl
      rw [e] at hf ⊢
      rw [List.length_append, List.length_cons] at hf
      cases f with
      | zero => omega
      | succ f =>
        show scanF (f + 1) n (32 :: (s ++ renderL r)) = _
        have e1 : scanF (f + 1) n (32 :: (s ++ renderL r)) = scanF f (n + 1) (s ++ renderL r) := by
          conv => lhs; unfold scanF
          rw [if_pos rfl]
        rw [e1]
        cases f with
        | zero => omega
        | succ f =>
          rw [scanF_step k1 k2 k3, scanF_good r f _ (by omega) h2]
          show _ = (s, n + 1) :: placed (n + (32 :: s).length) r
          rw [show n + 1 + s.length = n + (32 :: s).length by simp; omega]
theorem placed_map : ∀ (n : Nat) (ks : List Tk), placed n ks = (placed n ks).dropLast ++ [([], n + (renderL ks).length)] ∧ (placed n ks).dropLast.map (·.1) = ks.map (·.2)
  | n, [] => ⟨rfl, rfl⟩
  | n, (b, s) :: r => by
    obtain ⟨h1, h2⟩ := placed_map (n + (oneL (b, s)).length) r
    have hne : placed (n + (oneL (b, s)).length) r ≠ [] := by
      cases r with
      | nil => simp [placed]
      | cons k r => simp [placed]
    have e : (placed n ((b, s) :: r)).dropLast = (s, if b = true then n + 1 else n) :: (placed (n + (oneL (b, s)).length) r).dropLast := by
      show ((s, if b = true then n + 1 else n) :: placed (n + (oneL (b, s)).length) r).dropLast = _
      exact List.dropLast_cons_of_ne_nil hne
    refine ⟨?_, ?_⟩
    · rw [e, render_cons, List.length_append, ← Nat.add_assoc]
      show (s, if b = true then n + 1 else n) :: placed (n + (oneL (b, s)).length) r = _
      rw [h1]
      simp
    · rw [e, List.map_cons, List.map_cons, h2]
/-- what symbols_of gives for a rule's text -/
theorem scan_text {t : T α} (h : TOk cps t) : ∃ ps : List (Sym × Nat), scan 0 (textL cps t) = ps ++ [([], (textL cps t).length)] ∧ ps.map (·.1) = (toks cps t).map (·.2) := by
  have h1 : scan 0 (textL cps t) = placed 0 (toks cps t) := by
    rw [← text_toks]
    exact scanF_good _ _ _ (Nat.lt_succ_self _) (toks_good cps t h)
  obtain ⟨h2, h3⟩ := placed_map 0 (toks cps t)
  refine ⟨_, ?_, h3⟩
  rw [h1, ← text_toks]
  rw [Nat.zero_add] at h2
  exact h2

/-! ### the reader -/
inductive Item (α : Type) where
  | rule (t : T α)
  | sg (k : Nat)
def joinT (k : Nat) (a b : T α) : T α := match k with
  | 0 => .alt a b
  | 1 => .all a b
  | _ => .thn a b
/-- the rows stand with their last item first -/
def putT : Nat → List (Item α) → Nat → List (Item α)
  | 0, r, _ => r
  | f + 1, .rule b :: .sg k :: .rule a :: r, n => if n ≤ k then putT f (.rule (joinT k a b) :: r) n else .rule b :: .sg k :: .rule a :: r
  | _ + 1, r, _ => r
def put (r : List (Item α)) (n : Nat) : List (Item α) := putT r.length r n
theorem putT_enough : ∀ (f g : Nat) (r : List (Item α)) (n : Nat), r.length ≤ f → r.length ≤ g → putT f r n = putT g r n
  | 0, g, [], n, _, _ => by cases g <;> rfl
  | 0, g, _ :: _, n, h, _ => by simp at h
  | f + 1, 0, [], n, _, _ => rfl
  | f + 1, 0, _ :: _, n, _, h => by simp at h
  | f + 1, g + 1, .rule b :: .sg k :: .rule a :: r, n, hf, hg => by
    unfold putT
    split
    · exact putT_enough f g _ n (by simp at hf ⊢; omega) (by simp at hg ⊢; omega)
    · rfl
  | f + 1, g + 1, [], n, _, _ => rfl
  | f + 1, g + 1, [.rule b], n, _, _ => rfl
  | f + 1, g + 1, [.rule b, .sg k], n, _, _ => rfl
  | f + 1, g + 1, .rule b :: .sg k :: .sg a :: r, n, _, _ => rfl
  | f + 1, g + 1, .rule b :: .rule k :: r, n, _, _ => rfl
  | f + 1, g + 1, .sg b :: r, n, _, _ => rfl
theorem put_join {a b : T α} {k n : Nat} {r : List (Item α)} (h : n ≤ k) : put (.rule b :: .sg k :: .rule a :: r) n = put (.rule (joinT k a b) :: r) n := by
  unfold put
  show putT (r.length + 2 + 1) _ n = _
  conv => lhs; unfold putT
  rw [if_pos h]
  exact putT_enough (r.length + 2) (r.length + 1) (.rule (joinT k a b) :: r) n (Nat.le_succ (r.length + 1)) (Nat.le_refl (r.length + 1))
theorem put_stay {a b : T α} {k n : Nat} {r : List (Item α)} (h : ¬ n ≤ k) : put (.rule b :: .sg k :: .rule a :: r) n = .rule b :: .sg k :: .rule a :: r := by
  unfold put
  show putT (r.length + 2 + 1) _ n = _
  unfold putT
  rw [if_neg h]
theorem put_one {b : T α} {n : Nat} : put [.rule b] n = [.rule b] := rfl
def lone (s : Sym) : Option (T α) := if nameOk s = true then some (.seen (mk s)) else if s = [49] then some .one else if s = [48] then some .zero else none
def lvlOf (s : Sym) : Option Nat := if s = [124] then some 0 else if s = [38] then some 1 else if s = [62, 62] then some 2 else none
def digitOf (s : Sym) : Option Nat := match s with
  | [c] => if 48 ≤ c ∧ c ≤ 56 then some (c - 48) else none
  | _ => none
def runS : List Sym → List (List (Item α)) → Bool → Option (T α)
  | [], [top], false => (match put top 0 with
    | [.rule t] => some t
    | _ => none)
  | [], _, _ => none
  | s :: r, top :: below, true => if s = [40] then runS r ([] :: top :: below) true
    else (match lone mk s with
      | some t => runS r ((.rule t :: top) :: below) false
      | none => none)
  | s :: r, top :: below, false => if s = [42] then (match r, top with
      | w :: r', .rule t :: top' => (match digitOf w with
        | some n => runS r' ((.rule (.tms t n) :: top') :: below) false
        | none => none)
      | _, _ => none)
    else (match lvlOf s with
      | some k => runS r ((.sg k :: put top k) :: below) true
      | none => if s = [41] then (match put top 0, below with
          | [.rule t], b :: bs => runS r ((.rule t :: b) :: bs) false
          | _, _ => none)
        else none)
  | _ :: _, [], _ => none

/-! ### reading what was written -/
/-- what stands in the row behind a rule that was just read, last item first -/
def openU : T α → List (Item α)
  | .thn a b => (if 3 ≤ bnd b then openU b else [.rule b]) ++ [.sg 2, .rule a]
  | .all a b => (if 2 ≤ bnd b then openU b else [.rule b]) ++ [.sg 1, .rule a]
  | .alt a b => (if 1 ≤ bnd b then openU b else [.rule b]) ++ [.sg 0, .rule a]
  | t => [.rule t]
theorem put_bin {a b : T α} {l n : Nat} {r : List (Item α)} {x : List (Item α)} (hx : ∀ q, put (x ++ q) n = put (.rule b :: q) n) (h : n ≤ l) : put ((x ++ [.sg l, .rule a]) ++ r) n = put (.rule (joinT l a b) :: r) n := by
  rw [List.append_assoc, hx]
  exact put_join h
theorem put_open : ∀ (t : T α) (n : Nat) (r : List (Item α)), n ≤ bnd t → put (openU t ++ r) n = put (.rule t :: r) n
  | .seen _, _, _, _ => rfl
  | .one, _, _, _ => rfl
  | .zero, _, _, _ => rfl
  | .tms _ _, _, _, _ => rfl
  | .thn a b, n, r, h => by
    have h2 : n ≤ 2 := h
    refine put_bin (l := 2) (a := a) (b := b) (fun q => ?_) h
    split
    · exact put_open b n q (by omega)
    · rfl
  | .all a b, n, r, h => by
    have h2 : n ≤ 1 := h
    refine put_bin (l := 1) (a := a) (b := b) (fun q => ?_) h
    split
    · exact put_open b n q (by omega)
    · rfl
  | .alt a b, n, r, h => by
    have h2 : n ≤ 0 := h
    refine put_bin (l := 0) (a := a) (b := b) (fun q => ?_) h
    split
    · exact put_open b n q (by omega)
    · rfl
/-- what waits in the row binds less -/
def Less : List (Item α) → Nat → Prop
  | [], _ => True
  | .sg k :: .rule _ :: _, n => k < n
  | _, _ => False
theorem put_less {t : T α} {p : List (Item α)} {n : Nat} (h : Less p n) : put (.rule t :: p) n = .rule t :: p := by
  match p, h with
  | [], _ => rfl
  | .sg k :: .rule a :: r, h => exact put_stay (by have : k < n := h; omega)
theorem less_mono {p : List (Item α)} {n m : Nat} (h : Less p n) (hm : n ≤ m) : Less p m := by
  match p, h with
  | [], _ => exact trivial
  | .sg k :: .rule a :: r, h => exact Nat.lt_of_lt_of_le h hm
def symsW (t : T α) (least : Nat) : List Sym := (wrapK t least (toks cps t)).map (·.2)
theorem blank_map : ∀ x : List Tk, (blank x).map (·.2) = x.map (·.2)
  | [] => rfl
  | _ :: _ => rfl
theorem lone_digit {n : Nat} (h : n ≤ 1) : lone mk (digitL n) = some (if n = 1 then (.one : T α) else .zero) := by
  have h2 : n = 0 ∨ n = 1 := by omega
  rcases h2 with e | e <;> subst e <;> rfl
theorem run_lone {s : Sym} {rest : List Sym} {p : List (Item α)} {below : List (List (Item α))} {t : T α} (h : lone mk s = some t) (h40 : s ≠ [40]) : runS mk (s :: rest) (p :: below) true = runS mk rest ((.rule t :: p) :: below) false := by
  conv => lhs; unfold runS
  rw [if_neg h40, h]
theorem run_sign {k : Nat} {rest : List Sym} {p : List (Item α)} {below : List (List (Item α))} (hk : k ≤ 2) : runS mk (signL k :: rest) (p :: below) false = runS mk rest ((.sg k :: put p k) :: below) true := by
  have h2 : k = 0 ∨ k = 1 ∨ k = 2 := by omega
  rcases h2 with e | e | e <;> subst e <;> (conv => lhs; unfold runS) <;> rw [if_neg (by decide)] <;> rfl
theorem run_star {n : Nat} {t : T α} {rest : List Sym} {p : List (Item α)} {below : List (List (Item α))} (hn : n ≤ 8) : runS mk ([42] :: digitL n :: rest) ((.rule t :: p) :: below) false = runS mk rest ((.rule (.tms t n) :: p) :: below) false := by
  have e : digitOf (digitL n) = some n := by
    show (if 48 ≤ 48 + n ∧ 48 + n ≤ 56 then some (48 + n - 48) else none) = some n
    rw [if_pos (by omega)]
    congr 1
    omega
  conv => lhs; unfold runS
  rw [if_pos rfl]
  dsimp only
  rw [e]
theorem run_close {t : T α} {rest : List Sym} {p top : List (Item α)} {below : List (List (Item α))} (h : put top 0 = [.rule t]) : runS mk ([41] :: rest) (top :: p :: below) false = runS mk rest ((.rule t :: p) :: below) false := by
  conv => lhs; unfold runS
  rw [if_neg (by decide)]
  show (match put top 0, p :: below with
          | [.rule t], b :: bs => runS mk rest ((.rule t :: b) :: bs) false
          | _, _ => none) = _
  rw [h]
theorem run_open {rest : List Sym} {p : List (Item α)} {below : List (List (Item α))} : runS mk ([40] :: rest) (p :: below) true = runS mk rest ([] :: p :: below) true := by
  conv => lhs; unfold runS
  rw [if_pos rfl]
theorem name_not40 {s : Sym} (h : nameOk s = true) : s ≠ [40] := by
  rintro rfl
  revert h
  decide
section
variable (hmk : ∀ x, mk (cps x) = x)
include hmk
/-- the part of a rule, with brackets or without -/
theorem run_part (t : T α) (ih : ∀ (rest : List Sym) (p : List (Item α)) (below : List (List (Item α))), Less p (bnd t) → runS mk ((toks cps t).map (·.2) ++ rest) (p :: below) true = runS mk rest ((openU t ++ p) :: below) false)
    (least : Nat) (rest : List Sym) (p : List (Item α)) (below : List (List (Item α))) (h : Less p least) :
    runS mk (symsW cps t least ++ rest) (p :: below) true = runS mk rest (((if least ≤ bnd t then openU t else [.rule t]) ++ p) :: below) false := by
  unfold symsW wrapK
  split
  · rename_i hb
    exact ih rest p below (less_mono h hb)
  · have e : ((false, [40]) :: (toks cps t ++ [(false, [41])]) : List Tk).map (·.2) ++ rest = [40] :: ((toks cps t).map (·.2) ++ ([41] :: rest)) := by simp
    rw [e, run_open, ih _ _ _ (by trivial), List.append_nil, run_close mk (t := t)]
    · rfl
    · have q := put_open t 0 [] (Nat.zero_le _)
      rw [List.append_nil] at q
      rw [q]
      rfl
theorem put_part {t : T α} {l : Nat} {p : List (Item α)} (h : Less p l) : put ((if l ≤ bnd t then openU t else [.rule t]) ++ p) l = .rule t :: p := by
  split
  · rename_i hb
    rw [put_open t l p hb, put_less h]
  · exact put_less h
theorem run_bin {a b : T α} {l : Nat} (hl : l ≤ 2)
    (iha : ∀ (rest : List Sym) (p : List (Item α)) (below : List (List (Item α))), Less p (bnd a) → runS mk ((toks cps a).map (·.2) ++ rest) (p :: below) true = runS mk rest ((openU a ++ p) :: below) false)
    (ihb : ∀ (rest : List Sym) (p : List (Item α)) (below : List (List (Item α))), Less p (bnd b) → runS mk ((toks cps b).map (·.2) ++ rest) (p :: below) true = runS mk rest ((openU b ++ p) :: below) false)
    (rest : List Sym) (p : List (Item α)) (below : List (List (Item α))) (h : Less p l) :
    runS mk ((wrapK a l (toks cps a) ++ (true, signL l) :: blank (wrapK b (l + 1) (toks cps b))).map (·.2) ++ rest) (p :: below) true =
      runS mk rest ((((if l + 1 ≤ bnd b then openU b else [.rule b]) ++ [.sg l, .rule a]) ++ p) :: below) false := by
  have e : (wrapK a l (toks cps a) ++ (true, signL l) :: blank (wrapK b (l + 1) (toks cps b))).map (·.2) ++ rest = symsW cps a l ++ (signL l :: (symsW cps b (l + 1) ++ rest)) := by
    simp [symsW, blank_map]
  rw [e, run_part cps mk hmk a iha l _ p below h, run_sign mk hl, put_part cps mk hmk h, run_part cps mk hmk b ihb (l + 1) rest _ below (show Less (.sg l :: .rule a :: p) (l + 1) from Nat.lt_succ_self l)]
  congr 2
  rw [List.append_assoc]
  rfl
theorem run_tree : ∀ (t : T α), TOk cps t → ∀ (rest : List Sym) (p : List (Item α)) (below : List (List (Item α))), Less p (bnd t) →
    runS mk ((toks cps t).map (·.2) ++ rest) (p :: below) true = runS mk rest ((openU t ++ p) :: below) false
  | .seen x, h, rest, p, below, _ => by
    refine run_lone mk ?_ (name_not40 h)
    show (if nameOk (cps x) = true then some (T.seen (mk (cps x))) else _) = _
    rw [if_pos (show nameOk (cps x) = true from h), hmk]
  | .one, _, rest, p, below, _ => run_lone mk rfl (by decide)
  | .zero, _, rest, p, below, _ => run_lone mk rfl (by decide)
  | .tms a n, h, rest, p, below, hp => by
    have e : (toks cps (.tms a n)).map (·.2) ++ rest = symsW cps a 3 ++ ([42] :: digitL n :: rest) := by
      simp [symsW, toks]
    rw [e, run_part cps mk hmk a (run_tree a h.1) 3 _ p below hp]
    have e2 : (if 3 ≤ bnd a then openU a else [.rule a]) = [Item.rule a] := by
      split
      · rename_i hb
        cases a <;> first | rfl | (revert hb; simp [bnd])
      · rfl
    rw [e2]
    exact run_star mk h.2
  | .thn a b, h, rest, p, below, hp => run_bin cps mk hmk (l := 2) (by omega) (run_tree a h.1) (run_tree b h.2) rest p below hp
  | .all a b, h, rest, p, below, hp => run_bin cps mk hmk (l := 1) (by omega) (run_tree a h.1) (run_tree b h.2) rest p below hp
  | .alt a b, h, rest, p, below, hp => run_bin cps mk hmk (l := 0) (by omega) (run_tree a h.1) (run_tree b h.2) rest p below hp
/-- what was written is read back -/
theorem run_text {t : T α} (h : TOk cps t) : runS mk ((toks cps t).map (·.2)) [[]] true = some t := by
  have q := run_tree cps mk hmk t h [] [] [] trivial
  rw [List.append_nil, List.append_nil] at q
  rw [q]
  unfold runS
  have z := put_open t 0 [] (Nat.zero_le _)
  rw [List.append_nil] at z
  rw [z]
  rfl
end
end
end K54
set_option Elab.async false
set_option linter.all false
set_option maxRecDepth 100000
set_option maxHeartbeats 4000000
namespace K54
open PySem PySem.Spec PyProof.Rows L2
def top (i : Nat) : Stmt := PySem.Challenge.pw_moredone_k54_whole_each_rule_is_its_base.main.body.getD i (.Pass ⟨0, 0, 0, 0⟩)
end K54
/-! KSet: set(xs) and sorted of it, xs a list of nested keys (here: pairs of a length and a log). The search in the table leans on TabOk (HandS.TupSets). -/
set_option Elab.async false
set_option linter.all false
set_option maxRecDepth 100000
set_option maxHeartbeats 4000000
namespace K54
open PySem PySem.Spec PyProof.Rows L2

/-! ### two small questions asked of a key -/
section
variable {P : Program} {w : World}
def NoCls (P : Program) (w : World) (n : Nat) (s : Shared) (v : Value) : Prop := ∀ (A : Around) (E : Value → Shared → Prop) (Q : Bool → Shared → Prop), Q false s → wpAny (model P w) A (ofAClassStatement n v) Q E s
def SomeB (P : Program) (w : World) (n : Nat) (s : Shared) (v : Value) : Prop := ∀ (A : Around) (E : Value → Shared → Prop) (Q : Bool → Shared → Prop), (∀ b, Q b s) → wpAny (model P w) A (hashByValue n v) Q E s
theorem noCls_flat {n : Nat} {s : Shared} {v : Value} (h : ofAClassStatement n v = pure false) : NoCls P w n s v := fun A E Q q => by
  rw [h]
  exact wpAny_pure q
theorem someB_flat {n : Nat} {s : Shared} {v : Value} {b : Bool} (h : hashByValue n v = pure b) : SomeB P w n s v := fun A E Q q => by
  rw [h]
  exact wpAny_pure (q b)
theorem noCls_tup {n : Nat} {s : Shared} {b : Addr} {o : Obj} {vs : Array Value} {m : Nat} (ho : s.heap.get? b = some o) (hc : o.cls = .type "tuple") (hd : o.data = .seq vs m) (hq : ∀ v ∈ vs.toList, NoCls P w n s v) : NoCls P w (n + 1) s (.ref b) := fun A E Q h => by
  have hT : s.TypeIs (.ref b) "tuple" := ⟨o, ho, hc⟩
  unfold ofAClassStatement
  refine wpAny_bind (wpAny_typeOf hT ?_)
  dsimp only
  simp only [show (("tuple" : String) == "tuple") = true by decide, if_true]
  refine wpAny_bind (wpAny_pure ?_)
  simp only [Bool.not_true, Bool.false_eq_true, if_false]
  refine wpAny_bind (wpAny_seqItems ho hd ?_)
  dsimp only
  refine wpAny_bind ?_
  show wpAny _ _ (forIn vs _ _) _ _ s
  rw [← Array.forIn_toList]
  refine wpAny_forIn_list _ (fun left r s' => (r.1 = none ∧ s' = s) ∧ ∀ v ∈ left, NoCls P w n s v) _ ?_ ?_ _ _ ⟨⟨rfl, rfl⟩, hq⟩
  · intro v left r s' hi
    obtain ⟨⟨hr, es⟩, hall⟩ := hi
    subst es
    refine wpAny_bind (hall v List.mem_cons_self _ _ _ ?_)
    simp only [Bool.false_eq_true, if_false]
    exact wpAny_pure ⟨⟨rfl, rfl⟩, fun u hu => hall u (List.mem_cons_of_mem _ hu)⟩
  · intro r s' hi
    obtain ⟨⟨hr, es⟩, _⟩ := hi
    subst es
    obtain ⟨r1, r2⟩ := r
    have e : r1 = none := hr
    subst e
    exact wpAny_pure h
theorem someB_tup {n : Nat} {s : Shared} {b : Addr} {o : Obj} {vs : Array Value} {m : Nat} (ho : s.heap.get? b = some o) (hc : o.cls = .type "tuple") (hd : o.data = .seq vs m) (hq : ∀ v ∈ vs.toList, SomeB P w n s v) : SomeB P w (n + 1) s (.ref b) := fun A E Q h => by
  have hT : s.TypeIs (.ref b) "tuple" := ⟨o, ho, hc⟩
  unfold hashByValue
  refine wpAny_bind (wpAny_specialOf hT F.slot_tuple_hash.lookup ?_)
  show wpAny _ _ (seqItems? (.ref b) >>= _) _ _ s
  refine wpAny_bind (wpAny_seqItems ho hd ?_)
  refine wpAny_bind ?_
  show wpAny _ _ (forIn vs _ _) _ _ s
  rw [← Array.forIn_toList]
  refine wpAny_forIn_list _ (fun left r s' => (r.1 = none ∧ s' = s) ∧ ∀ v ∈ left, SomeB P w n s v) _ ?_ ?_ _ _ ⟨⟨rfl, rfl⟩, hq⟩
  · intro v left r s' hi
    obtain ⟨⟨hr, es⟩, hall⟩ := hi
    subst es
    refine wpAny_bind (hall v List.mem_cons_self _ _ _ fun k => ?_)
    cases k with
    | true =>
      simp only [Bool.not_true, Bool.false_eq_true, if_false]
      exact wpAny_pure ⟨⟨rfl, rfl⟩, fun u hu => hall u (List.mem_cons_of_mem _ hu)⟩
    | false =>
      simp only [Bool.not_false, if_true]
      exact wpAny_pure (wpAny_pure (h false))
  · intro r s' hi
    obtain ⟨⟨hr, es⟩, _⟩ := hi
    subst es
    obtain ⟨r1, r2⟩ := r
    have e : r1 = none := hr
    subst e
    exact wpAny_pure (h true)
mutual
theorem noCls_key : ∀ (k : NestedKey) (v : Value) (n : Nat) (s : Shared), NestedIs s.heap k v → k.depth ≤ n → NoCls P w n s v
  | .none, _, n, s, x, _ => by
    cases x
    cases n <;> exact noCls_flat rfl
  | .num i, _, n, s, x, _ => by cases x <;> cases n <;> exact noCls_flat rfl
  | .text y, _, n, s, x, _ => by
    cases x
    cases n <;> exact noCls_flat rfl
  | .tup ks, _, n, s, x, hn => by
    cases x with
    | tup hg hc hd hk =>
      simp only [NestedKey.depth] at hn
      cases n with
      | zero => omega
      | succ n => exact noCls_tup hg hc hd (noCls_keys ks _ n s hk (by omega))
theorem noCls_keys : ∀ (ks : List NestedKey) (vs : List Value) (n : Nat) (s : Shared), NestedAll s.heap ks vs → NestedKey.depthAll ks ≤ n → ∀ v ∈ vs, NoCls P w n s v
  | [], _, n, s, x, _, v, hv => by
    cases x
    cases hv
  | k :: ks, _, n, s, x, hn, v, hv => by
    cases x with
    | cons x1 x2 =>
      simp only [NestedKey.depthAll] at hn
      rcases List.mem_cons.mp hv with e | hv
      · rw [e]
        exact noCls_key k _ n s x1 (by omega)
      · exact noCls_keys ks _ n s x2 (by omega) v hv
end
mutual
theorem someB_key : ∀ (k : NestedKey) (v : Value) (n : Nat) (s : Shared), NestedIs s.heap k v → k.depth ≤ n → SomeB P w n s v
  | .none, _, n, s, x, _ => by
    cases x
    cases n <;> exact someB_flat rfl
  | .num i, _, n, s, x, _ => by cases x <;> cases n <;> exact someB_flat rfl
  | .text y, _, n, s, x, _ => by
    cases x
    cases n <;> exact someB_flat rfl
  | .tup ks, _, n, s, x, hn => by
    cases x with
    | tup hg hc hd hk =>
      simp only [NestedKey.depth] at hn
      cases n with
      | zero => omega
      | succ n => exact someB_tup hg hc hd (someB_keys ks _ n s hk (by omega))
theorem someB_keys : ∀ (ks : List NestedKey) (vs : List Value) (n : Nat) (s : Shared), NestedAll s.heap ks vs → NestedKey.depthAll ks ≤ n → ∀ v ∈ vs, SomeB P w n s v
  | [], _, n, s, x, _, v, hv => by
    cases x
    cases hv
  | k :: ks, _, n, s, x, hn, v, hv => by
    cases x with
    | cons x1 x2 =>
      simp only [NestedKey.depthAll] at hn
      rcases List.mem_cons.mp hv with e | hv
      · rw [e]
        exact someB_key k _ n s x1 (by omega)
      · exact someB_keys ks _ n s x2 (by omega) v hv
end
end

/-! ### the set -/
abbrev Pair := Addr × NestedKey
/-- the tuple at a is the key k -/
abbrev KeyAt (P : Program) (w : World) (h : Heap) (k : NestedKey) (a : Addr) : Prop := (nestedKind P w).is h k a
theorem KeyAt.stay {P : Program} {w : World} {h h' : Heap} {k : NestedKey} {a : Addr} (x : KeyAt P w h k a) (hk : ∀ b o vs n, h.get? b = some o → o.data = .seq vs n → h'.get? b = some o) : KeyAt P w h' k a := ⟨NestedIs.at hk k _ x.1, x.2⟩
theorem KeyAt.kept {P : Program} {w : World} {h h' : Heap} {k : NestedKey} {a : Addr} (x : KeyAt P w h k a) (hk : ∀ b o, h.get? b = some o → h'.get? b = some o) : KeyAt P w h' k a := x.stay fun b o _ _ e _ => hk b o e
theorem KeyAt.but {P : Program} {w : World} {h h' : Heap} {k : NestedKey} {a b : Addr} {o : Obj} {es : Array (Int × Value)} {ep : Nat} {t : SetTable} (x : KeyAt P w h k b) (ho : h.get? a = some o) (hd : o.data = .set es ep t) (hs : Heap.SameBut a h h') : KeyAt P w h' k b :=
  x.stay fun c u vs n e ed => by
    refine (hs.2 c fun z => ?_).trans e
    subst z
    rw [ho] at e
    cases e
    rw [hd] at ed
    cases ed
def rowL (w : World) (L : List Pair) : List (Int × Value) := L.map fun p => (p.2.hash w, Value.ref p.1)
def hashL (w : World) (L : List Pair) : List Int := L.map fun p => p.2.hash w
structure NSet (P : Program) (w : World) (h : Heap) (a : Addr) (L : List Pair) (es : Array (Int × Value)) (ep : Nat) (t : SetTable) : Prop where
  obj : ∃ o, h.get? a = some o ∧ o.ExactSet ∧ o.data = .set es ep t
  row : es.toList = rowL w L
  tab : TabOk t (hashL w L)
  nod : (L.map (·.2)).Nodup
  elt : ∀ p ∈ L, KeyAt P w h p.2 p.1
  led : w.params.followText "set-order" = true ∨ t.led = true
  fre : L.length * 5 < t.mask * 3
  few : L.length < 64
section
variable {P : Program} {w : World} {A : Around} {E : Value → Shared → Prop} {s : Shared} {a : Addr} {L : List Pair} {es : Array (Int × Value)} {ep : Nat} {t : SetTable}
theorem rowL_size {L : List Pair} {es : Array (Int × Value)} (r : es.toList = rowL w L) : es.size = L.length := by
  rw [← Array.length_toList, r]
  exact List.length_map _
theorem rowL_get {L : List Pair} {es : Array (Int × Value)} (r : es.toList = rowL w L) {i : Nat} {p : Pair} (h : L[i]? = some p) : es[i]? = some (p.2.hash w, Value.ref p.1) := by
  rw [← Array.getElem?_toList, r]
  unfold rowL
  rw [List.getElem?_map, h]
  rfl
theorem fits_of {t : SetTable} {hs : List Int} {n : Nat} (T : TabOk t hs) (hn : hs.length = n) (hm : n ≤ t.mask) : t.fits n = true := by
  have h1 := T.sz
  unfold SetTable.fits SetTable.fill
  rw [T.dm, Bool.and_eq_true, beq_iff_eq, decide_eq_true_eq]
  show t.place.size = n ∧ t.place.size + 0 ≤ t.mask
  omega
theorem NSet.fits (R : NSet P w s.heap a L es ep t) : t.fits es.size = true := by
  have h1 := rowL_size R.row
  have h2 := R.fre
  exact fits_of R.tab (by rw [h1]; exact List.length_map _) (by omega)
theorem gaveWay_not {t : SetTable} {hs : List Int} (T : TabOk t hs) : ¬ t.gaveWay = true := by
  unfold SetTable.gaveWay
  rw [mask_odd T.mok]
  decide
/-- asking around tells nothing -/
theorem seen_not {k : NestedKey} {b : Addr} {Q : Bool → Shared → Prop} (hk : KeyAt P w s.heap k b) {ys : List Value} (hy : ∀ y ∈ ys, ∃ k' c, y = Value.ref c ∧ KeyAt P w s.heap k' c) (h : Q false s) :
    wpAny (model P w) A (searchCouldBeSeen (.ref b) ys) Q E s := by
  unfold searchCouldBeSeen
  refine wpAny_bind ?_
  refine wpAny_forIn_list _ (fun left r s' => (r.1 = none ∧ s' = s) ∧ ∀ y ∈ left, ∃ k' c, y = Value.ref c ∧ KeyAt P w s.heap k' c) _ ?_ ?_ _ _ ⟨⟨rfl, rfl⟩, hy⟩
  · intro v left r s' hi
    obtain ⟨⟨hr, e⟩, hall⟩ := hi
    subst e
    obtain ⟨k', c, ev, hc⟩ := hall v List.mem_cons_self
    subst ev
    have left' : ∀ y ∈ left, ∃ k' c, y = Value.ref c ∧ KeyAt P w s'.heap k' c := fun u hu => hall u (List.mem_cons_of_mem _ hu)
    dsimp only
    by_cases hv : (b == c || (carriedByValue (.ref b) && carriedByValue (.ref c))) = true
    · refine wp_if_pos hv ?_
      exact wpAny_pure ⟨⟨rfl, rfl⟩, left'⟩
    · refine wp_if_neg hv ?_
      refine wpAny_bind ((nestedKind P w).quiet hk ?_)
      simp only [Bool.not_true, Bool.false_eq_true, if_false]
      refine wpAny_bind ((nestedKind P w).quiet hc ?_)
      simp only [Bool.not_true, Bool.false_eq_true, if_false]
      refine wpAny_bind (noCls_key k _ 8 s' hk.1 hk.2 _ _ _ ?_)
      simp only [Bool.false_eq_true, if_false]
      refine wpAny_bind (noCls_key k' _ 8 s' hc.1 hc.2 _ _ _ ?_)
      simp only [Bool.false_eq_true, if_false]
      exact wpAny_pure ⟨⟨rfl, rfl⟩, left'⟩
  · intro r s' hi
    obtain ⟨⟨hr, e⟩, _⟩ := hi
    subst e
    obtain ⟨r1, r2⟩ := r
    have e : r1 = none := hr
    subst e
    exact wpAny_pure h

/-- the c-th state of the search for the hash h -/
abbrev stN (m : Nat) (h : Int) (c : Nat) : SetTable.Probe := nth m (runAt m (SetTable.bits h % (m + 1)) (SetTable.bits h)) c
theorem stN_add (m : Nat) (h : Int) (c q : Nat) : nth m (stN m h c) q = stN m h (c + q) := (nth_add m c _ q).symm
theorem stN_dummy (m : Nat) (h : Int) (c : Nat) : (stN m h c).dummy = none := by
  have key : ∀ (n : Nat) (p : SetTable.Probe), p.dummy = none → (nth m p n).dummy = none := by
    intro n
    induction n with
    | zero => exact fun p q => q
    | succ n ih =>
      intro p q
      refine ih (adv m p) ?_
      unfold adv
      split <;> exact q
  exact key c _ rfl
theorem search_go (R : NSet P w s.heap a L es ep t) {x : Addr} {k : NestedKey} (hx : KeyAt P w s.heap k x) (hu : A.units + 8 < cLine) {n : Nat} (hn : n < 10 * SetTable.turns t.mask)
    (hN : way t.mask (k.hash w) n ∉ t.place.toList) (hB : ∀ c, c < n → way t.mask (k.hash w) c ∈ t.place.toList) {Q : SetFound → Shared → Prop}
    (yes : k ∈ L.map (·.2) → Q (.there none) s) (no : k ∉ L.map (·.2) → Q (.free (way t.mask (k.hash w) n) false) s) :
    ∀ (f c : Nat) (stand : Option SetTable.Probe), stand.getD (t.probeStart (k.hash w)) = stN t.mask (k.hash w) c → c ≤ n → n - c < f →
      (∀ (i : Nat) p, L[i]? = some p → p.2 = k → ∃ c', c ≤ c' ∧ c' < n ∧ t.place.toList[i]? = some (way t.mask (k.hash w) c')) →
      wpAny (model P w) A (setSearchFrom a (.ref x) (k.hash w) true f stand) Q E s
  | 0, _, _, _, _, hf, _ => absurd hf (Nat.not_lt_zero _)
  | f + 1, c, stand, hst, hc, hf, hre => by
    obtain ⟨o, ho, hex, hd⟩ := R.obj
    rw [setSearchFrom_succ]
    refine wpAny_bind (wpAny_setState_of ho hd R.fits ?_)
    dsimp only
    refine wp_if_neg (gaveWay_not R.tab) ?_
    try refine wpAny_bind (wpAny_pure ?_)
    have wj : ∀ q, (nth t.mask (stN t.mask (k.hash w) c) q).j = way t.mask (k.hash w) (c + q) := fun q => congrArg SetTable.Probe.j (stN_add t.mask (k.hash w) c q)
    have hcn : c + (n - c) = n := by omega
    have spec := go_spec t R.tab.ris R.tab.dm (fun i => (es[i]?.map (·.1)).getD 0) (k.hash w) (10 * SetTable.turns t.mask) (n - c) (stN t.mask (k.hash w) c) (stN_dummy _ _ _) (by omega)
      (fun q hq => by rw [wj]; exact hB (c + q) (by omega)) (by rw [wj, hcn]; exact hN)
    have hat : ∀ (i : Nat) p, L[i]? = some p → (fun i => (es[i]?.map (·.1)).getD 0) i = p.2.hash w := fun i p hp => by
      show (es[i]?.map (·.1)).getD 0 = _
      rw [rowL_get R.row hp]
      rfl
    rcases spec with ⟨q, i, hq, hi, hh, hno, hpr⟩ | ⟨hno, hpr⟩
    · have hpr' : t.probe (fun i => (es[i]?.map (·.1)).getD 0) (k.hash w) (stand.getD (t.probeStart (k.hash w))) = some (.candidate (way t.mask (k.hash w) (c + q)) i (stN t.mask (k.hash w) (c + (q + 1)))) := by
        rw [hst, ← wj, ← stN_add]
        exact hpr
      rw [hpr']
      dsimp only
      rw [wj] at hi
      have hil : i < L.length := by
        have h1 := (List.getElem?_eq_some_iff.mp hi).1
        have h2 : t.place.size = L.length := R.tab.sz.trans (List.length_map _)
        rw [Array.length_toList] at h1
        omega
      obtain ⟨p, hp⟩ : ∃ p, L[i]? = some p := ⟨L[i], List.getElem?_eq_getElem hil⟩
      have hmem : p ∈ L := List.mem_of_getElem? hp
      have hsl : t.slot (way t.mask (k.hash w) (c + q)) = .live i := slot_live R.tab.ris hi
      have back : wpAny (model P w) A (searchRest a (.ref x) (k.hash w) true f es t (way t.mask (k.hash w) (c + q)) i (stN t.mask (k.hash w) (c + (q + 1)))) Q E s := by
        unfold searchRest
        rw [rowL_get R.row hp]
        dsimp only
        refine wpAny_bind (wpAny_holding ((nestedKind P w).eqBool hu (R.elt p hmem) hx ?_))
        refine wpAny_bind (wpAny_setState_of ho hd R.fits ?_)
        dsimp only
        by_cases hkk : p.2 = k
        · refine wp_if_pos (by simp [hkk]) ?_
          exact wpAny_pure (yes (List.mem_map.mpr ⟨p, hmem, hkk⟩))
        · refine wp_if_neg (by simp [hkk]) ?_
          try refine wpAny_bind (wpAny_pure ?_)
          rw [sameMem]
          dsimp only
          simp only [if_true, hsl, rowL_get R.row hp]
          refine wpAny_bind (wpAny_isSame_ref_self (wpAny_bind (wpAny_pure ?_)))
          simp only [if_true]
          refine wp_if_neg (by simp [hkk]) ?_
          refine search_go R hx hu hn hN hB yes no f (c + (q + 1)) _ rfl (by omega) (by omega) fun i0 p0 h0 hk0 => ?_
          obtain ⟨c', a1, a2, a3⟩ := hre i0 p0 h0 hk0
          refine ⟨c', ?_, a2, a3⟩
          have n1 : ¬ c' < c + q := fun z => hno (c' - c) i0 (by omega) (by rw [wj, show c + (c' - c) = c' by omega]; exact a3) ((hat i0 p0 h0).trans (congrArg (NestedKey.hash w) hk0))
          have n2 : c' ≠ c + q := fun z => by
            rw [z] at a3
            have s0 := slot_live R.tab.ris a3
            rw [hsl] at s0
            injection s0 with s0
            rw [← s0, hp] at h0
            exact hkk ((congrArg Prod.snd (Option.some.inj h0)).trans hk0)
          omega
      by_cases hl : t.led = true
      · refine wp_if_neg (by simp [hl]) ?_
        try refine wpAny_bind (wpAny_pure ?_)
        exact back
      · refine wp_if_pos (by simp [hl]) ?_
        refine wpAny_bind (seen_not hx (fun y hy => ?_) ?_)
        · obtain ⟨e, he, ee⟩ := List.mem_map.mp hy
          have he2 : e ∈ es.toList := by
            have z : e ∈ es ∧ e.1 = k.hash w := by simpa using he
            simpa using z.1
          rw [R.row] at he2
          obtain ⟨p2, hp2, e2⟩ := List.mem_map.mp he2
          exact ⟨p2.2, p2.1, by rw [← ee, ← e2], R.elt p2 hp2⟩
        · refine wp_if_neg (by decide) ?_
          try refine wpAny_bind (wpAny_pure ?_)
          exact back
    · have hpr' : t.probe (fun i => (es[i]?.map (·.1)).getD 0) (k.hash w) (stand.getD (t.probeStart (k.hash w))) = some (.empty (way t.mask (k.hash w) n) none) := by
        rw [hst, show way t.mask (k.hash w) n = (nth t.mask (stN t.mask (k.hash w) c) (n - c)).j by rw [wj, hcn]]
        exact hpr
      rw [hpr']
      dsimp only
      refine wpAny_pure (no fun hm => ?_)
      obtain ⟨p0, h0, hk0⟩ := List.mem_map.mp hm
      obtain ⟨i0, e0⟩ := List.mem_iff_getElem?.mp h0
      obtain ⟨c', a1, a2, a3⟩ := hre i0 p0 e0 hk0
      exact hno (c' - c) i0 (by omega) (by rw [wj, show c + (c' - c) = c' by omega]; exact a3) ((hat i0 p0 e0).trans (congrArg (NestedKey.hash w) hk0))
theorem search_add (R : NSet P w s.heap a L es ep t) {x : Addr} {k : NestedKey} (hx : KeyAt P w s.heap k x) (hu : A.units + 8 < cLine) {Q : SetFound → Shared → Prop}
    (yes : k ∈ L.map (·.2) → Q (.there none) s)
    (no : ∀ n, k ∉ L.map (·.2) → way t.mask (k.hash w) n ∉ t.place.toList → (∀ c, c < n → way t.mask (k.hash w) c ∈ t.place.toList) → Q (.free (way t.mask (k.hash w) n) false) s) :
    wpAny (model P w) A (setSearch a (.ref x) (k.hash w) true) Q E s := by
  have hl : (hashL w L).length = L.length := List.length_map _
  have hroom := R.fre
  obtain ⟨n, hn, hN, hB⟩ := R.tab.first (by omega) (k.hash w)
  have big : n < 100000 := by
    have : 10 * SetTable.turns t.mask ≤ 1420 := by
      unfold SetTable.turns
      rcases R.tab.mok with e | e | e <;> omega
    omega
  unfold setSearch
  refine search_go R hx hu hn hN hB yes (fun z => no n z hN hB) 100000 0 none rfl (Nat.zero_le _) (by omega) fun i p hp hk => ?_
  have hi : (hashL w L)[i]? = some (k.hash w) := by
    unfold hashL
    rw [List.getElem?_map, hp, ← hk]
    rfl
  have hil : i < t.place.toList.length := by
    have h1 := (List.getElem?_eq_some_iff.mp hi).1
    rw [Array.length_toList, R.tab.sz]
    exact h1
  obtain ⟨c, hc, e⟩ := R.tab.before hN hi (List.getElem?_eq_getElem hil)
  exact ⟨c, Nat.zero_le _, hc, by rw [List.getElem?_eq_getElem hil, e]⟩
theorem rowL_put (w : World) (L : List Pair) (p : Nat) (y : Pair) : rowL w (L.take p ++ y :: L.drop p) = (rowL w L).take p ++ (y.2.hash w, Value.ref y.1) :: (rowL w L).drop p := by
  unfold rowL
  rw [List.map_append, List.map_cons, List.map_take, List.map_drop]
theorem hashL_put (w : World) (L : List Pair) (p : Nat) (y : Pair) : hashL w (L.take p ++ y :: L.drop p) = (hashL w L).take p ++ y.2.hash w :: (hashL w L).drop p := by
  unfold hashL
  rw [List.map_append, List.map_cons, List.map_take, List.map_drop]
/-- the rows in a new order -/
theorem rows_order (w : World) (L : List Pair) (es : Array (Int × Value)) (order : Array Nat) (hr : es.toList = rowL w L) (hp : order.toList.Perm (List.range L.length)) :
    ∃ L2, (order.filterMap (es[·]?)).toList = rowL w L2 ∧ L2.Perm L ∧ hashL w L2 = order.toList.map fun i => (es.map (·.1)).getD i 0 := by
  have hsz := rowL_size hr
  have key : ∀ l : List Nat, (∀ i ∈ l, i < L.length) → l.filterMap (fun i => es[i]?) = rowL w (l.filterMap fun i => L[i]?) ∧ hashL w (l.filterMap fun i => L[i]?) = l.map fun i => (es.map (·.1)).getD i 0 := by
    intro l
    induction l with
    | nil => exact fun _ => ⟨rfl, rfl⟩
    | cons i l ih =>
      intro hl
      have hi := hl i List.mem_cons_self
      obtain ⟨e1, e2⟩ := ih fun j hj => hl j (List.mem_cons_of_mem _ hj)
      have ent := rowL_get hr (List.getElem?_eq_getElem hi)
      rw [List.filterMap_cons_some (List.getElem?_eq_getElem hi), List.filterMap_cons_some ent, e1, List.map_cons, ← e2]
      have e5 : (es.map (·.1)).getD i 0 = (L[i]).2.hash w := by
        have z : (es.map (·.1))[i]? = some ((L[i]).2.hash w) := by
          rw [Array.getElem?_map, ent]
          rfl
        simp [Array.getD_eq_getD_getElem?, z]
      rw [e5]
      exact ⟨rfl, rfl⟩
  obtain ⟨e1, e2⟩ := key order.toList fun i hi => List.mem_range.mp (hp.mem_iff.mp hi)
  refine ⟨_, by first | (rw [Array.toList_filterMap]; exact e1) | simpa using e1, ?_, e2⟩
  have h1 := hp.filterMap fun i => L[i]?
  have h2 : (List.range L.length).filterMap (fun i => L[i]?) = L := by
    refine List.ext_getElem? fun j => ?_
    have key2 : ∀ n, n ≤ L.length → (List.range n).filterMap (fun i => L[i]?) = L.take n := by
      intro n
      induction n with
      | zero => exact fun _ => rfl
      | succ n ih =>
        intro hn
        have hlt : n < L.length := hn
        rw [List.range_succ, List.filterMap_append, ih (Nat.le_of_lt hlt), List.take_succ, List.getElem?_eq_getElem hlt, List.filterMap_cons_some (List.getElem?_eq_getElem hlt)]
        rfl
    rw [key2 L.length (Nat.le_refl _), List.take_length]
  rw [h2] at h1
  exact h1
end
end K54
/-! KSetB: adding to the set, set(xs), sorted(set). -/
set_option Elab.async false
set_option linter.all false
set_option maxRecDepth 100000
set_option maxHeartbeats 4000000
namespace K54
open PySem PySem.Spec PyProof.Rows L2
section
variable {P : Program} {w : World} {A : Around} {E : Value → Shared → Prop} {s : Shared} {a : Addr} {L : List Pair} {es : Array (Int × Value)} {ep : Nat} {t : SetTable}
/-- the table is laid anew, larger -/
theorem relay_go {o : Obj} (ho : s.heap.get? a = some o) (hex : o.ExactSet) (hd : o.data = .set es ep t) (hrow : es.toList = rowL w L) (T0 : TabOk t (hashL w L)) (hfl : L.length ≤ t.mask)
    (nod : (L.map (·.2)).Nodup) (elt : ∀ p ∈ L, KeyAt P w s.heap p.2 p.1) (ld : w.params.followText "set-order" = true ∨ t.led = true) (few : L.length < 64) {wanted M : Nat}
    (hw : SetTable.sizeAbove wanted - 1 = M) (hM : MaskOk M) (hw2 : SetTable.sizeAbove wanted ≤ 128) (hn : L.length * 5 < M * 3) {Q : Unit → Shared → Prop}
    (hQ : ∀ h' L' es' ep' t', Heap.SameBut a s.heap h' → NSet P w h' a L' es' ep' t' → L'.Perm L → Q () { s with heap := h' }) : wpAny (model P w) A (setRelay a wanted) Q E s := by
  have hsl := rowL_size hrow
  have hfits : t.fits es.size = true := fits_of T0 (by rw [hsl]; exact List.length_map _) (by omega)
  obtain ⟨t', order, e, hp, T, em, el, ep', ed⟩ := relaid_ok t (hs := es.map (·.1)) (wanted := wanted) hw hM (by rw [Array.size_map, hsl]; omega)
  rw [Array.size_map, hsl] at hp
  obtain ⟨L2, r1, r2, r3⟩ := rows_order w L es order hrow hp
  rw [← r3] at T
  have hs2 : (order.filterMap (es[·]?)).size = es.size := by rw [rowL_size r1, r2.length_eq, hsl]
  rw [setRelay_eq]
  refine wpAny_bind (wpAny_setState_of ho hd hfits ?_)
  dsimp only
  refine wp_if_neg (by rw [sizeLine_eq]; omega) ?_
  try refine wpAny_bind (wpAny_pure ?_)
  rw [e]
  dsimp only
  refine wpAny_bind ?_
  refine wp_if_neg (by rw [hs2]; simp) ?_
  try refine wpAny_bind (wpAny_pure ?_)
  refine wpAny_pure ?_
  dsimp only
  refine wpAny_storeSet_of ho hd ?_ (by rw [hs2, hsl, sizeLine_eq]; omega)
  have sb : Heap.SameBut a s.heap (s.heap.update a (Obj.putSet (order.filterMap (es[·]?)) t')) := Heap.SameBut.update ..
  refine hQ _ L2 (order.filterMap (es[·]?)) (ep + 1) t' sb ⟨⟨_, store_at ho hd, ⟨hex.1, hex.2.1, hex.2.2⟩, rfl⟩, r1, T, (r2.map (·.2)).nodup_iff.mpr nod, fun p hpm => (elt p (r2.mem_iff.mp hpm)).but ho hd sb, by rw [el]; exact ld, ?_, by rw [r2.length_eq]; exact few⟩ r2
  rw [r2.length_eq, em]
  exact hn
theorem tab_plain {t : SetTable} {hs : List Int} (T : TabOk t hs) (b : Bool) : TabOk { t with plain := b } hs := ⟨T.ris, T.dm, T.sz, T.mok, T.bd, T.reach⟩
/-- behind the new entry is stored: laid anew if the table is too full -/
theorem add_tail {o : Obj} {t1 : SetTable} {es1 : Array (Int × Value)} {L1 : List Pair} {ep1 : Nat} (ho : s.heap.get? a = some o) (hex : o.ExactSet) (hd : o.data = .set es1 ep1 t1) (hrow : es1.toList = rowL w L1) (T : TabOk t1 (hashL w L1))
    (nod : (L1.map (·.2)).Nodup) (elt : ∀ p ∈ L1, KeyAt P w s.heap p.2 p.1) (ld : w.params.followText "set-order" = true ∨ t1.led = true) (few : L1.length < 64) (was : L1.length * 5 < t1.mask * 3 + 5) {Q : Bool → Shared → Prop}
    (hQ : ∀ h' L' es' ep' t', Heap.SameBut a s.heap h' → NSet P w h' a L' es' ep' t' → L'.Perm L1 → Q true { s with heap := h' }) :
    wpAny (model P w) A (do
      if !false && t1.tooFull then setRelay a (SetTable.grown L1.length)
      return true) Q E s := by
  have hl : (hashL w L1).length = L1.length := List.length_map _
  by_cases hf : t1.tooFull = true
  · have full : L1.length * 5 ≥ t1.mask * 3 := by
      have h := hf
      unfold SetTable.tooFull SetTable.fill at h
      rw [decide_eq_true_eq, T.dm, T.sz, hl] at h
      simpa using h
    have two : (t1.mask = 7 ∧ L1.length = 5) ∨ (t1.mask = 31 ∧ L1.length = 19) := by
      rcases T.mok with e | e | e
      · left
        rw [e] at full was
        exact ⟨e, by omega⟩
      · right
        rw [e] at full was
        exact ⟨e, by omega⟩
      · exfalso
        rw [e] at full
        omega
    have go : ∀ M, SetTable.sizeAbove (SetTable.grown L1.length) - 1 = M → MaskOk M → SetTable.sizeAbove (SetTable.grown L1.length) ≤ 128 → L1.length * 5 < M * 3 →
        wpAny (model P w) A (setRelay a (SetTable.grown L1.length)) (fun _ s' => wpAny (model P w) A (pure true) Q E s') E s := fun M h1 h2 h3 h4 => by
      refine relay_go ho hex hd hrow T (by rcases two with ⟨e, e2⟩ | ⟨e, e2⟩ <;> omega) nod elt ld few h1 h2 h3 h4 ?_
      exact fun h' L2 es2 ep2 t2 sb R pm => wpAny_pure (hQ h' L2 es2 ep2 t2 sb R pm)
    have inner : wpAny (model P w) A (setRelay a (SetTable.grown L1.length)) (fun _ s' => wpAny (model P w) A (pure true) Q E s') E s := by
      rcases two with ⟨_, e2⟩ | ⟨_, e2⟩
      · exact go 31 (by rw [e2, size_20]) (.inr (.inl rfl)) (by rw [e2, size_20]; decide) (by omega)
      · exact go 127 (by rw [e2, size_76]) (.inr (.inr rfl)) (by rw [e2, size_76]; decide) (by omega)
    first
      | exact wp_if_pos (by simp [hf]) (wpAny_bind inner)
      | exact wpAny_bind (wp_if_pos (by simp [hf]) inner)
  · have room : L1.length * 5 < t1.mask * 3 := by
      have h := hf
      unfold SetTable.tooFull SetTable.fill at h
      rw [decide_eq_true_eq, T.dm, T.sz, hl] at h
      simp at h
      omega
    have fin : Q true s := by
      refine hQ s.heap L1 es1 ep1 t1 (Heap.SameBut.refl a s.heap) ⟨⟨o, ho, hex, hd⟩, hrow, T, nod, elt, ld, room, few⟩ (List.Perm.refl _)
    first
      | exact wp_if_neg (by simp [hf]) (wpAny_pure fin)
      | exact wpAny_bind (wp_if_neg (by simp [hf]) (wpAny_pure (wpAny_pure fin)))
theorem put_plain {t : SetTable} (hd : t.dummies = #[]) (j : Nat) : (t.put j).1.dummies = #[] := put_dm hd j
theorem add_go (R : NSet P w s.heap a L es ep t) {x : Addr} {k : NestedKey} (hx : KeyAt P w s.heap k x) (hu : A.units + 8 < cLine) (hfew : L.length + 1 < 64) {Q : Bool → Shared → Prop}
    (hQ : ∀ b h' L' es' ep' t', Heap.SameBut a s.heap h' → NSet P w h' a L' es' ep' t' → (k ∈ L.map (·.2) → L' = L) → (k ∉ L.map (·.2) → L'.Perm ((x, k) :: L)) → Q b { s with heap := h' }) :
    wpAny (model P w) A (setAddHashed a (.ref x) (k.hash w)) Q E s := by
  obtain ⟨o, ho, hex, hd⟩ := R.obj
  have hsl := rowL_size R.row
  have hroom := R.fre
  unfold setAddHashed
  refine wpAny_holding ?_
  rw [show (100000 : Nat) = 99999 + 1 from rfl, setAddHashedIn_succ]
  refine wpAny_bind (wpAny_setState_of ho hd R.fits ?_)
  dsimp only
  refine wp_if_neg (by simp [byScan, Value.scannable]) ?_
  try refine wpAny_bind (wpAny_pure ?_)
  refine wpAny_bind (search_add R hx hu (fun hm => ?_) fun n hm hN hB => ?_)
  · dsimp only
    exact wpAny_pure (hQ false s.heap L es ep t (Heap.SameBut.refl a s.heap) R (fun _ => rfl) fun z => absurd hm z)
  · dsimp only
    refine wpAny_bind (wpAny_setState_of ho hd R.fits ?_)
    dsimp only
    obtain ⟨q1, q2, q3, q4, q5, q6, q7, q8, q9⟩ := R.tab.put hN hB
    generalize hpt : t.put (way t.mask (k.hash w) n) = pt at q1 q3 q4 q5 q6 q7 q8 q9 ⊢
    obtain ⟨t1, p⟩ := pt
    dsimp only at q1 q3 q4 q5 q6 q7 q8 q9 ⊢
    subst q1
    generalize hpp : SetTable.below t.place (way t.mask (k.hash w) n) = p at q2 q3 ⊢
    have hin : (SetTable.insertAt es p (k.hash w, Value.ref x)).toList = rowL w (L.take p ++ (x, k) :: L.drop p) := by rw [SetTable.toList_insertAt, rowL_put, R.row]
    rw [← hashL_put w L p (x, k)] at q3
    have pm : (L.take p ++ (x, k) :: L.drop p).Perm ((x, k) :: L) := put_perm L p (x, k)
    have hlen := pm.length_eq
    rw [List.length_cons] at hlen
    have nod1 : ((L.take p ++ (x, k) :: L.drop p).map (·.2)).Nodup := (pm.map (·.2)).nodup_iff.mpr (by
      rw [List.map_cons]
      exact List.nodup_cons.mpr ⟨hm, R.nod⟩)
    generalize L.take p ++ (x, k) :: L.drop p = L1 at pm hlen q3 nod1 hin
    have hes := rowL_size hin
    have eg : es.size + 1 = L1.length := by omega
    generalize SetTable.insertAt es p (k.hash w, Value.ref x) = es1 at hin hes ⊢
    have fin : ∀ b : Bool, wpAny (model P w) A (do
        storeSet a es1 (if b = true then t1 else { t1 with plain := false })
        if !false && (if b = true then t1 else { t1 with plain := false }).tooFull then setRelay a (SetTable.grown (es.size + 1))
        return true) Q E s := fun b => by
      have T2 : TabOk (if b = true then t1 else { t1 with plain := false }) (hashL w L1) := by
        cases b
        · exact tab_plain q3 false
        · exact q3
      have em : (if b = true then t1 else { t1 with plain := false }).mask = t.mask := by
        cases b <;> exact q4
      have el : (if b = true then t1 else { t1 with plain := false }).led = t.led := by
        cases b <;> exact q5
      generalize (if b = true then t1 else { t1 with plain := false }) = t2 at T2 em el ⊢
      refine wpAny_bind (wpAny_storeSet_of ho hd ?_ (by rw [hes, hlen, sizeLine_eq]; omega))
      have sb : Heap.SameBut a s.heap (s.heap.update a (Obj.putSet es1 t2)) := Heap.SameBut.update ..
      have ho1 := store_at (es' := es1) (t' := t2) ho hd
      generalize s.heap.update a (Obj.putSet es1 t2) = h1 at sb ho1 ⊢
      rw [eg]
      refine add_tail (s := { s with heap := h1 }) ho1 ⟨hex.1, hex.2.1, hex.2.2⟩ rfl hin T2 nod1 (fun p hp => ?_) (by rw [el]; exact R.led) (by omega) (by rw [em]; omega) fun h2 L2 es2 ep2 t3 sb2 R2 pm2 => ?_
      · rcases List.mem_cons.mp (pm.mem_iff.mp hp) with e | hp
        · rw [e]
          exact hx.but ho hd sb
        · exact (R.elt p hp).but ho hd sb
      · exact hQ true h2 L2 es2 ep2 t3 (sb.trans sb2) R2 (fun z => absurd z hm) fun _ => pm2.trans pm
    by_cases hp1 : t1.plain = true
    · first
        | (refine wpAny_bind ?_; refine wp_if_pos hp1 ?_; exact someB_key k _ 8 s hx.1 hx.2 _ _ _ fun b => fin b)
        | exact wp_if_pos hp1 (wpAny_bind (someB_key k _ 8 s hx.1 hx.2 _ _ _ fun b => fin b))
    · first
        | (refine wpAny_bind ?_; refine wp_if_neg hp1 ?_; exact wpAny_pure (fin true))
        | exact wp_if_neg hp1 (wpAny_bind (wpAny_pure (fin true)))
end
end K54
/-! KSetC: set(xs), sorted(set) over nested keys; the two rules of the hand layer. -/
set_option Elab.async false
set_option linter.all false
set_option maxRecDepth 100000
set_option maxHeartbeats 4000000
namespace K54
open PySem PySem.Spec PyProof.Rows L2
/-- what the set has got of the first i items -/
structure Has (ks : List Pair) (i : Nat) (L : List Pair) : Prop where
  sub : ∀ p ∈ L, p ∈ ks.take i
  all : ∀ p ∈ ks.take i, p.2 ∈ L.map (·.2)
  len : L.length ≤ i
theorem has_same {ks L : List Pair} {i : Nat} {x : Pair} (g : Has ks i L) (h : ks[i]? = some x) (hm : x.2 ∈ L.map (·.2)) : Has ks (i + 1) L := by
  refine ⟨fun p hp => ?_, fun p hp => ?_, Nat.le_succ_of_le g.len⟩
  · rw [take_next h]
    exact List.mem_append_left _ (g.sub p hp)
  · rw [take_next h] at hp
    rcases List.mem_append.mp hp with z | z
    · exact g.all p z
    · rw [List.mem_singleton.mp z]
      exact hm
theorem has_more {ks L L' : List Pair} {i : Nat} {x : Pair} (g : Has ks i L) (h : ks[i]? = some x) (pm : L'.Perm (x :: L)) : Has ks (i + 1) L' := by
  refine ⟨fun p hp => ?_, fun p hp => ?_, ?_⟩
  · rw [take_next h]
    rcases List.mem_cons.mp (pm.mem_iff.mp hp) with e | z
    · rw [e]
      exact List.mem_append_right _ (List.mem_singleton.mpr rfl)
    · exact List.mem_append_left _ (g.sub p z)
  · rw [(pm.map (·.2)).mem_iff, List.map_cons]
    rw [take_next h] at hp
    rcases List.mem_append.mp hp with z | z
    · exact List.mem_cons_of_mem _ (g.all p z)
    · rw [List.mem_singleton.mp z]
      exact List.mem_cons_self
  · rw [pm.length_eq, List.length_cons]
    exact Nat.succ_le_succ g.len
section
variable {P : Program} {w : World} {A : Around} {E : Value → Shared → Prop} {s : Shared}
theorem nset_keep {h h' : Heap} {a : Addr} {L : List Pair} {es : Array (Int × Value)} {ep : Nat} {t : SetTable} (R : NSet P w h a L es ep t) (ha : ∀ o, h.get? a = some o → h'.get? a = some o) (hk : ∀ p ∈ L, KeyAt P w h' p.2 p.1) : NSet P w h' a L es ep t := by
  obtain ⟨o, ho, r⟩ := R.obj
  exact ⟨⟨o, ha o ho, r⟩, R.row, R.tab, R.nod, hk, R.led, R.fre, R.few⟩
abbrev freshT (w : World) : SetTable := .fresh 0 0 (!w.params.followText "set-order")
abbrev freshS (w : World) : Obj := { cls := .type "set", dict := none, data := .set #[] 0 (freshT w) }
theorem nset_fresh {h : Heap} {a : Addr} (ho : h.get? a = some (freshS w)) : NSet P w h a [] #[] 0 (freshT w) := by
  refine ⟨⟨_, ho, ⟨rfl, rfl, rfl⟩, rfl⟩, rfl, ⟨List.Pairwise.nil, rfl, rfl, .inl rfl, fun x hx => (by cases hx), fun i h j hi => ?_⟩, List.nodup_nil, fun p hp => (by cases hp), ?_, by show 0 * 5 < 7 * 3; decide, by show 0 < 64; decide⟩
  · have z : ([] : List Int)[i]? = some h := hi
    simp at z
  · show _ ∨ (!w.params.followText "set-order") = true
    cases w.params.followText "set-order"
    · exact .inr rfl
    · exact .inl rfl
theorem update_loop {I : Addr} {fp wr : List Addr} {G : Array GenState → Array GenState → Prop} {n : Nat} {Pv : Nat → Value → Prop} {St : Nat → Shared → Prop} {R : Result → Shared → Prop}
    (W : WalksS P w A.in1 I fp wr G n Pv St) (S : Addr) (hSf : S ∉ fp) (ks : List Pair) (hn : n = ks.length) (hfew : ks.length < 64) (hval : ∀ i v, Pv i v → ∃ p, ks[i]? = some p ∧ v = .ref p.1)
    (h0 : Heap) (hk : ∀ p ∈ ks, KeyAt P w h0 p.2 p.1) (hS0 : h0.get? S = none) (hw0 : ∀ b ∈ wr, h0.get? b = none) (hu : A.in1.units + 8 < cLine) :
    ∀ (k i : Nat) (s : Shared), n - i = k → i ≤ n → St i s → (∀ b o, h0.get? b = some o → s.heap.get? b = some o) → (∃ L es ep t, NSet P w s.heap S L es ep t ∧ Has ks i L) →
      (∀ s' L es ep t, Moved (S :: wr) G s s' → NSet P w s'.heap S L es ep t → Has ks n L → (∀ b o, h0.get? b = some o → s'.heap.get? b = some o) → R (.ok (.ret .none)) s') →
      codeAny (model P w) A (.builtin "set.update.loop" ⟨[.ref S, .ref I], []⟩) R s := by
  have hSw : S ∉ wr := fun h => hSf (W.sub _ h)
  have hsub : ∀ b ∈ wr, b ∈ S :: wr := fun b hb => List.mem_cons_of_mem _ hb
  have keepM : ∀ {s s' : Shared}, Moved wr G s s' → (∀ b o, h0.get? b = some o → s.heap.get? b = some o) → ∀ b o, h0.get? b = some o → s'.heap.get? b = some o := fun hm hkp b o e =>
    hm.heap b o (fun hb => by rw [hw0 b hb] at e; cases e) (hkp b o e)
  intro k
  induction k with
  | zero =>
    intro i s hk' hi hst hkp ⟨L, es, ep, t, hS, g⟩ hR
    have hin : i = n := by omega
    subst hin
    refine codeAny_builtin F.entry_set_update_loop ?_
    rw [Around.under_plainId F.plain_set_update_loop _]
    show wpAny _ A.in1 (pyNext (.ref I) >>= _) _ _ s
    refine wpAny_bind (W.done s _ _ hst fun s' hm => ?_)
    show wpAny _ A.in1 (ret Value.none) _ _ s'
    have hkp' := keepM hm hkp
    exact wpAny_pure (hR s' L es ep t (hm.mono hsub) (nset_keep hS (fun o e => hm.heap S o hSw e) fun p hp => (hk p (List.mem_of_mem_take (g.sub p hp))).kept hkp') g hkp')
  | succ k ih =>
    intro i s hk' hi hst hkp ⟨L, es, ep, t, hS, g⟩ hR
    have hlt : i < n := by omega
    refine codeAny_builtin F.entry_set_update_loop ?_
    rw [Around.under_plainId F.plain_set_update_loop _]
    show wpAny _ A.in1 (pyNext (.ref I) >>= _) _ _ s
    refine wpAny_bind (W.item i s _ _ hlt hst fun v s' hP hst' hm => ?_)
    obtain ⟨p, hp, rfl⟩ := hval i v hP
    have hkp' := keepM hm hkp
    have hS' : NSet P w s'.heap S L es ep t := nset_keep hS (fun o e => hm.heap S o hSw e) fun q hq => (hk q (List.mem_of_mem_take (g.sub q hq))).kept hkp'
    have hx : KeyAt P w s'.heap p.2 p.1 := (hk p (List.mem_of_getElem? hp)).kept hkp'
    show wpAny _ A.in1 (holding [Value.ref p.1] (setAdd S (.ref p.1)) >>= _) _ _ s'
    refine wpAny_bind (wpAny_holding ?_)
    unfold setAdd
    refine wpAny_holding ?_
    refine wpAny_bind ((nestedKind P w).pyHash hu hx ?_)
    refine add_go (s := { s' with toks := s'.toks + (nestedKind P w).draws p.2 }) hS' hx hu (by have := g.len; omega) fun b h' L' es' ep' t' hsb hS2 c1 c2 => ?_
    have g' : Has ks (i + 1) L' := by
      rcases Classical.em (p.2 ∈ L.map (·.2)) with c | c
      · rw [c1 c]
        exact has_same g hp c
      · exact has_more g hp (c2 c)
    have hkp2 : ∀ b o, h0.get? b = some o → h'.get? b = some o := fun b o e => (hsb.2 b (fun z => by rw [z, hS0] at e; cases e)).trans (hkp' b o e)
    refine wpAny_pure ⟨plainId_quiet F.plain_set_update_loop _, ih (i + 1) _ (by omega) hlt (W.frame _ s' _ _ hst' (Nat.le_add_right _ _) fun b hb o e => ?_) hkp2 ⟨L', es', ep', t', hS2, g'⟩ fun s'' L2 es2 ep2 t2 hm'' hS'' g'' hkp'' => ?_⟩
    · rw [hsb.2 b (fun h : b = S => hSf (by rw [← h]; exact hb))]
      exact e
    · refine hR s'' L2 es2 ep2 t2 (Moved.trans W.gtrans ((hm.mono hsub).then_heap (Nat.le_add_right _ _) fun b o hb e => ?_) hm'') hS'' g'' hkp''
      rw [hsb.2 b (fun h : b = S => hb (by rw [h]; exact List.mem_cons_self))]
      exact e
set_option maxHeartbeats 8000000 in
/-- set(xs) -/
theorem call_setN {l : Addr} {items : Array Value} (ks : List Pair) {Q : Value → Shared → Prop} (hh : A.handled = none) (hl : s.heap.IsList l items) (hit : items.toList = ks.map fun p => Value.ref p.1)
    (hk : ∀ p ∈ ks, KeyAt P w s.heap p.2 p.1) (hfew : ks.length < 64) (hu : A.units + 12 < cLine)
    (h : ∀ (h' : Heap) (tk : Nat) L es ep t, NSet P w h' s.heap.objs.size L es ep t → Has ks ks.length L → (∀ b o, s.heap.get? b = some o → h'.get? b = some o) → Q (.ref s.heap.objs.size) { s with heap := h', toks := tk }) :
    wpAny (model P w) A (call (.type "set") [.ref l]) Q E s := by
  have hisz : items.size = ks.length := by
    rw [← Array.length_toList, hit]
    exact List.length_map _
  obtain ⟨c, tl, hmro⟩ := F.called_set.mro
  have hmade := F.called_set.made
  have hsub := F.called_set.sub
  refine wpAny_call (codeAny_of_tree ?_)
  show wpAny _ _ (callAny (.type "set") _) _ _ _
  refine wpAny_pure ⟨Code.quiet_builtin _ (by decide +kernel), codeAny_builtin F.entry_type_call ?_⟩
  rw [Around.under_plain (weight_type_call_type "set" [.ref l] []) rfl]
  have h1 := F.called_set.notType
  have h2 := F.called_set.canCreate
  have hct := F.typeCall_set_1 (.ref l)
  repeat (any_goals (first | assumption | wp_step))
  refine codeAny_mono (code_set_led1 (.ref l) (E := E) (Q₁ := fun obj s₁ => obj = .ref s.heap.objs.size ∧ s₁ = { s with heap := s.heap.push (freshS w) }) ⟨rfl, rfl⟩) fun r s₁ hr => ?_
  cases r with
  | error e => exact hr
  | ok fl =>
    cases fl with
    | ret obj =>
      obtain ⟨rfl, rfl⟩ := hr
      have hS : (s.heap.push (freshS w)).get? s.heap.objs.size = some (freshS w) := Heap.get?_push_size _ rfl
      have hT : Shared.TypeIs { s with heap := s.heap.push (freshS w) } (.ref s.heap.objs.size) "set" := ⟨_, hS, rfl⟩
      have hli := F.called_set.init.lookup
      have hbi := F.called_set.init.bind (.ref s.heap.objs.size)
      repeat (any_goals (first | assumption | wp_step))
      refine codeAny_mono (codeAny_call_builtin (R := wants (fun r s₂ => r = .none ∧ ∃ h' tk L es ep t, s₂ = { s with heap := h', toks := tk } ∧ NSet P w h' s.heap.objs.size L es ep t ∧ Has ks ks.length L ∧
          (∀ b o, s.heap.get? b = some o → h'.get? b = some o)) E) F.called_set.init.plain F.entry_set_init (check_set_init_1 hT ?_)) fun r₂ s₂ hr₂ => ?_
      · obtain ⟨ol, hol, hcl, nl, hdl⟩ := hl
        obtain ⟨ocls, odict, odata, oslots⟩ := ol
        simp only at hcl hdl
        subst hcl
        subst hdl
        have hol' : (s.heap.push (freshS w)).get? l = some { cls := .type "list", dict := odict, data := .seq items nl, slots := oslots } := Heap.get?_push_of_some _ hol
        have hsls := F.sub_list_set
        have hslf := F.sub_list_frozenset
        have hne : (Value.type "list" == Value.type "dict") = false := by decide
        have hl1 : (s.heap.push (freshS w)).IsList l items := ⟨_, hol', rfl, nl, rfl⟩
        unfold Builtin.«set.__init__» noKeywords Builtin.Frozenset.updateFrom
        generalize hPI : pyIter = PI
        wp_walk
        subst hPI
        refine wpAny_pyIter_list hl1 ?_
        refine wpAny_bind (wpAny_runValue ?_)
        have hlS : l < s.heap.objs.size := Heap.lt_size hol
        have hh3 : A.in1.in1.in1.handled = none := by simp [hh]
        have hneI : l ≠ (s.heap.push (freshS w)).objs.size := by
          rw [Heap.size_push]
          exact Nat.ne_of_lt (Nat.lt_succ_of_lt hlS)
        have hSf : s.heap.objs.size ∉ [(s.heap.push (freshS w)).objs.size, l] := by
          rw [Heap.size_push]
          simp only [List.mem_cons, List.mem_singleton, List.not_mem_nil, or_false, not_or]
          exact ⟨Nat.ne_of_lt (Nat.lt_succ_self _), Nat.ne_of_gt hlS⟩
        have hval : ∀ (i : Nat) (v : Value), items[i]? = some v → ∃ p, ks[i]? = some p ∧ v = .ref p.1 := fun i v hv => by
          have q : items.toList[i]? = some v := by
            rw [Array.getElem?_toList]
            exact hv
          rw [hit, List.getElem?_map] at q
          obtain ⟨p, hp, e⟩ := Option.map_eq_some_iff.mp q
          exact ⟨p, hp, e.symm⟩
        have none_of : ∀ b, s.heap.objs.size ≤ b → s.heap.get? b = none := fun b hb => Heap.get?_none_of_le hb
        refine update_loop ((Walks.list hh3 _ l hneI items).toS) s.heap.objs.size
          hSf ks hisz hfew hval s.heap hk (none_of _ (Nat.le_refl _)) (fun b hb => none_of b (by
            rw [List.mem_singleton.mp hb, Heap.size_push]
            exact Nat.le_succ _)) (by show A.units + 1 + 1 + 1 + 8 < cLine; omega) (items.size - 0) 0 _ (by omega) (Nat.zero_le _)
          ⟨⟨_, Heap.get?_push_size _ rfl, rfl, rfl⟩, (hl1.push _)⟩ (fun b o e => Heap.get?_push_of_some _ (Heap.get?_push_of_some _ e)) ?hS0 ?hR
        case hS0 =>
          exact ⟨[], #[], 0, _, nset_fresh (Heap.get?_push_of_some _ hS), ⟨fun p hp => (by cases hp), fun p hp => (by simp at hp), Nat.le_refl _⟩⟩
        case hR =>
          intro s' L es ep t hm hS' g' hkp
          obtain ⟨h', g2, d', tk', os'⟩ := s'
          obtain rfl : g2 = s.gens := hm.gens
          obtain rfl : d' = s.drawn := hm.drawn
          obtain rfl : os' = s.os := hm.os
          show wpAny _ _ _ _ _ _
          refine wpAny_pure ?_
          show wpAny _ _ (ret Value.none) _ _ _
          rw [hisz] at g'
          exact wpAny_pure ⟨rfl, h', tk', L, es, ep, t, rfl, hS', g', hkp⟩
      · cases r₂ with
        | error e => exact hr₂
        | ok fl₂ =>
          cases fl₂ with
          | ret r =>
            obtain ⟨rfl, h', tk, L, es, ep, t, rfl, hS', g', hk'⟩ := hr₂
            repeat (any_goals (first | assumption | wp_step))
            exact h _ _ _ _ _ _ hS' g' hk'
          | _ => exact hr₂.elim
    | _ => exact hr.elim
end
end K54
/-! KSort: the order of logs; sorted(set) of pairs (length, log); the two rules of the hand layer. -/
set_option Elab.async false
set_option linter.all false
set_option maxRecDepth 100000
set_option maxHeartbeats 4000000
namespace K54
open PySem PySem.Spec PyProof.Rows L2
abbrev Log := List Str
/-! ### the order -/
def encP (l : Log) : PyData := .tuple [.int (l.length : Nat), .tuple (l.map .str)]
def keyP (l : Log) : NestedKey := .tup [.num (l.length : Nat), .tup (l.map .text)]
def logKey (l : Log) : List (Int ⊕ List Nat) := PySem.W.keyToks (encP l)
def logLt (a b : Log) : Bool := PySem.W.dataLt (encP a) (encP b)
theorem toksAll_str : ∀ (a b : Log), PySem.W.keyToksAll (a.map .str) = PySem.W.keyToksAll (b.map .str) → a = b
  | [], [], _ => rfl
  | [], y :: b, h => by simp [PySem.W.keyToksAll] at h
  | x :: a, [], h => by simp [PySem.W.keyToksAll] at h
  | x :: a, y :: b, h => by
    simp only [List.map_cons, PySem.W.keyToksAll, PySem.W.keyToks, List.cons_append, List.nil_append, List.cons.injEq, Sum.inr.injEq, true_and] at h
    rw [PySem.W.str_of_cps h.1, toksAll_str a b h.2]
theorem logKey_inj {a b : Log} (h : logKey a = logKey b) : a = b := by
  unfold logKey encP at h
  simp only [PySem.W.keyToks, PySem.W.keyToksAll, List.cons_append, List.nil_append, List.cons.injEq, true_and] at h
  exact toksAll_str a b (List.append_cancel_right h.2)
theorem alike_strs : ∀ a b : Log, PySem.W.alikeAll (a.map .str) (b.map .str) = true
  | [], b => by simp [PySem.W.alikeAll]
  | x :: a, [] => by simp [PySem.W.alikeAll]
  | x :: a, y :: b => by simp [PySem.W.alikeAll, PySem.W.alike, alike_strs a b]
theorem alike_encP (a b : Log) : PySem.W.alike (encP a) (encP b) = true := by
  unfold encP
  simp [PySem.W.alike, PySem.W.alikeAll, alike_strs a b]
def logO : LogOrd Str where
  lt := logLt
  irr := fun a => PyProof.Rows.lex_irrefl _
  tr := fun a b c h1 h2 => PyProof.Rows.lex_trans _ _ _ h1 h2
  tot := fun a b h => by
    cases e1 : logLt a b with
    | true => exact .inl rfl
    | false =>
      cases e2 : logLt b a with
      | true => exact .inr rfl
      | false => exact absurd (logKey_inj (PyProof.Rows.lex_total _ _ e1 e2)) h
  len := fun a b h => by
    unfold logLt encP
    rw [PySem.W.dataLt_pair (by simp [PySem.W.alike]) (by simp [PySem.W.alike, alike_strs a b]), if_neg (by simp [PyData.eqv]; omega), PySem.W.dataLt_int]
    exact decide_eq_true (by omega)
/-! ### what the values are -/
theorem encP_reads {h : Heap} {v : Value} {l : Log} {as : List Addr} (r : Reads h v (encP l) as) : as = [] := by
  have hss : ∀ (l : Log) (vs : List Value) (as : List Addr), ReadsAll h vs (l.map .str) as → as = [] := by
    intro l
    induction l with
    | nil => exact fun vs as r => by cases r; rfl
    | cons x l ih =>
      intro vs as r
      cases r with
      | cons r1 r2 =>
        cases r1
        rw [ih _ _ r2]
        rfl
  have two : ∀ (vs : List Value) (as : List Addr), ReadsAll h vs [.int (l.length : Nat), .tuple (l.map .str)] as → as = [] := by
    intro vs as q
    cases q with
    | cons r1 r2 =>
      cases r1
      cases r2 with
      | cons r3 r4 =>
        cases r4
        cases r3 with
        | tuple k1 k2 k3 k4 =>
          rw [hss l _ _ k4]
          rfl
  unfold encP at r
  cases r with
  | tuple h1 h2 h3 h4 => exact two _ _ h4
theorem encP_depth (l : Log) : (encP l).depth ≤ 2 := by
  have hss : ∀ l : Log, PyData.depthAll (l.map .str) = 0 := by
    intro l
    induction l with
    | nil => rfl
    | cons x l ih =>
      rw [List.map_cons]
      simp [PyData.depthAll, PyData.depth, ih]
  unfold encP
  simp [PyData.depth, PyData.depthAll, hss]
theorem keyP_depth (l : Log) : (keyP l).depth ≤ 8 := by
  have hss : ∀ l : Log, NestedKey.depthAll (l.map .text) = 0 := by
    intro l
    induction l with
    | nil => rfl
    | cons x l ih =>
      rw [List.map_cons]
      simp [NestedKey.depthAll, NestedKey.depth, ih]
  unfold keyP
  simp [NestedKey.depth, NestedKey.depthAll, hss]
theorem keyP_inj {a b : Log} (h : keyP a = keyP b) : a = b := by
  have hss : ∀ a b : Log, (a.map NestedKey.text) = b.map NestedKey.text → a = b := by
    intro a
    induction a with
    | nil =>
      intro b h
      cases b with
      | nil => rfl
      | cons y b => cases h
    | cons x a ih =>
      intro b h
      cases b with
      | nil => cases h
      | cons y b =>
        rw [List.map_cons, List.map_cons] at h
        injection h with h1 h2
        injection h1 with h1
        rw [h1, ih b h2]
  unfold keyP at h
  injection h with h
  injection h with h1 h2
  injection h2 with h2 _
  injection h2 with h2
  exact hss a b h2
/-- the value v is the pair of l's length and l -/
def PairAt (K : PySem.W.Frag) (H : Hp) (v : V) (l : Log) : Prop := ∃ a b, v = .ref a ∧ SqT K H a [.int (l.length : Nat), .ref b] ∧ SqT K H b (l.map V.str)
section
variable {X : Cx} {pins : List (Addr × Obj)} {σ : L2.St} {H : Hp} {s : Shared}
theorem vals_texts {h : Heap} : ∀ {l : Log} {us : List Value}, Vals (l.map V.str) us → NestedAll h (l.map .text) us
  | [], _, .nil => .nil
  | x :: l, _, .cons r t => by
    obtain ⟨k, rfl⟩ := r
    exact .cons (.text _ _) (vals_texts t)
theorem pair_key (I : Inv X pins σ H s) {a : Addr} {l : Log} (h : PairAt X.K H (.ref a) l) : KeyAt X.prog X.w s.heap (keyP l) a := by
  obtain ⟨a', b, ea, h1, h2⟩ := h
  cases ea
  obtain ⟨its, r, ⟨o, ho, hc, n, hd⟩, _⟩ := I.tuple h1
  obtain ⟨its2, r2, ⟨o2, ho2, hc2, n2, hd2⟩, _⟩ := I.tuple h2
  refine ⟨?_, keyP_depth l⟩
  cases r with
  | cons q1 q =>
    cases q with
    | cons q2 q3 =>
      cases q3
      obtain ⟨tk, rfl⟩ := q1
      cases q2
      exact .tup ho hc hd (.cons (.int _ _) (.cons (.tup ho2 hc2 hd2 (by simpa using vals_texts r2)) .nil))
theorem dp_strs {K : PySem.W.Frag} {H : Hp} : ∀ l : Log, DpAll K H (l.map V.str) (l.map .str)
  | [] => .nil
  | x :: l => .cons (.str x) (dp_strs l)
theorem pair_dp {K : PySem.W.Frag} {H : Hp} {v : V} {l : Log} (h : PairAt K H v l) : Dp K H v (encP l) := by
  obtain ⟨a, b, e, h1, h2⟩ := h
  subst e
  exact .tup h1 (.cons (.int _) (.cons (.tup h2 (dp_strs l)) .nil))
end
/-! ### sorted of such a set -/
abbrev PL := Addr × Log
def keysOf (L : List PL) : List Pair := L.map fun p => (p.1, keyP p.2)
section
variable {P : Program} {w : World} {A : Around} {E : Value → Shared → Prop} {s : Shared}
theorem each_refs {R : Value → PL → Prop} : ∀ (L : List PL), (∀ p ∈ L, R (.ref p.1) p) → PySem.W.EachIs R (L.map fun p => Value.ref p.1) L
  | [], _ => .nil
  | p :: L, h => .cons (h p List.mem_cons_self) (each_refs L fun q hq => h q (List.mem_cons_of_mem _ hq))
theorem refs_each : ∀ {out : List Value} {L : List PL}, PySem.W.EachIs (fun v (p : PL) => v = Value.ref p.1) out L → out = L.map fun p => Value.ref p.1
  | _, _, .nil => rfl
  | _, _, .cons h t => by rw [h, refs_each t, List.map_cons]
theorem sorted_setN {a : Addr} {L : List PL} {es : Array (Int × Value)} {ep : Nat} {t : SetTable} {Q : Value → Shared → Prop} (R : NSet P w s.heap a (keysOf L) es ep t) (hh : A.handled = none) (hu : A.units + 20 < cLine)
    (hr : ∀ p ∈ L, ∃ as, Reads s.heap (.ref p.1) (encP p.2) as)
    (hQ : ∀ s' p (out : Array Value) (c : Nat) (L' : List PL), (∀ b o, s.heap.get? b = some o → s'.heap.get? b = some o) → s'.gens = s.gens → s'.os = s.os → s.heap.objs.size ≤ p →
      s'.heap.get? p = some (seqObj "list" out c) → out.toList = L'.map (fun q => Value.ref q.1) → L'.Perm L → L'.Pairwise (fun q r => logLt r.2 q.2 = false) → Q (.ref p) s') :
    wpAny (model P w) A (call (.builtin "sorted") [.ref a]) Q E s := by
  obtain ⟨o, ho, hex, hd⟩ := R.obj
  have hsz := rowL_size R.row
  have hlen : (keysOf L).length = L.length := List.length_map _
  have hfew := R.few
  refine Calls.call_function_entry kind_sorted plain_sorted entry_sorted (args_sorted1 _) ?_
  unfold Builtin.«sorted»
  refine wpAny_bind (m := checkCount "sorted" 1 1 _) (wpAny_pure ?_)
  refine wpAny_bind (collect_set (A := A.in1) hh ⟨o, ho, hex.1, hd⟩ R.fits (by unfold scanBound; omega) R.tab.ris R.led fun s1 vs k1 hz g1 o1 pm => ?_)
  have hes : es.toList.map (·.2) = L.map fun q => Value.ref q.1 := by
    rw [R.row]
    unfold rowL keysOf
    rw [List.map_map, List.map_map]
    rfl
  rw [hes] at pm
  -- some arrangement of the pairs
  obtain ⟨L1, e1, p1⟩ : ∃ L1 : List PL, vs = L1.map (fun q => Value.ref q.1) ∧ L1.Perm L := by
    have key : ∀ (L : List PL) (vs : List Value), vs.Perm (L.map fun q => Value.ref q.1) → ∃ L1 : List PL, vs = L1.map (fun q => Value.ref q.1) ∧ L1.Perm L := by
      intro L
      induction L with
      | nil =>
        intro vs pm
        have e : vs = [] := List.Perm.eq_nil pm
        exact ⟨[], e, List.Perm.refl _⟩
      | cons p L ih =>
        intro vs pm
        rw [List.map_cons] at pm
        obtain ⟨xs, ys, e⟩ := List.append_of_mem (pm.mem_iff.mpr List.mem_cons_self)
        subst e
        have pm2 : (xs ++ ys).Perm (L.map fun q => Value.ref q.1) := (List.perm_cons _).mp (List.perm_middle.symm.trans pm)
        obtain ⟨L1, e1, p1⟩ := ih _ pm2
        obtain ⟨A1, B1, e2, e3, e4⟩ := List.append_eq_map_iff.mp e1
        subst e2
        refine ⟨A1 ++ p :: B1, by rw [List.map_append, List.map_cons, e3, e4], List.perm_middle.trans ((List.perm_cons _).mpr p1)⟩
    exact key L vs pm
  subst e1
  refine wpAny_bind (wpAny_newList ?_ (by rw [List.length_map, p1.length_eq, sizeLine_eq]; omega))
  generalize hvs : (L1.map fun q => Value.ref q.1) = vs at *
  have hoL : (s1.heap.push (seqObj "list" vs.toArray 0)).get? s1.heap.objs.size = some (seqObj "list" vs.toArray 0) := Heap.get?_push_size _ rfl
  have hl1 : L1.length ≤ 64 := by rw [p1.length_eq]; omega
  have rd : ∀ p ∈ L1, ∃ as, Reads (s1.heap.push (seqObj "list" vs.toArray 0)) (.ref p.1) (encP p.2) as ∧ s1.heap.objs.size ∉ as := fun p hp => by
    obtain ⟨as, r⟩ := hr p (p1.mem_iff.mp hp)
    rw [encP_reads r] at r
    exact ⟨[], PyProof.Rows.Reads.keeps (fun b o e => Heap.get?_push_of_some _ (k1 b o e)) r, by simp⟩
  refine wpAny_bind (wpAny_holding (PySem.W.list_sort_data (β := PL) (R := fun v p => v = Value.ref p.1) (enc := fun p => encP p.2) (vs := vs) (bs := L1) (s := { s1 with heap := s1.heap.push (seqObj "list" vs.toArray 0) }) hoL (by rw [← hvs]; exact each_refs L1 fun _ _ => rfl)
    (by
      have q := each_refs (R := fun v (p : PL) => ∃ as, Reads (s1.heap.push (seqObj "list" vs.toArray 0)) v (encP p.2) as ∧ s1.heap.objs.size ∉ as) L1 rd
      rw [hvs] at q
      exact q) (PySem.W.AllAlike.of fun p q => alike_encP p.2 q.2) (PySem.W.Sortable.tuples fun p => ⟨_, _, rfl⟩) (by rw [sizeLine_eq]; omega) (fun p _ => by
      have := encP_depth p.2
      show A.units + 1 + 1 + _ < _
      omega) fun out hlo eo => ?_))
  obtain ⟨c, hc⟩ := sortedHeap_at (vs := vs) (out := out.toArray) hoL
  have eout := refs_each eo
  refine wpAny_pure ⟨_, rfl, hQ _ s1.heap.objs.size out.toArray c _ (fun b u e => ?_) g1 o1 hz hc (by simpa using eout) ((List.mergeSort_perm _ _).trans p1) ?_⟩
  · have q := k1 b u e
    have hlt := Heap.lt_size q
    show (sortedHeap (s1.heap.push (seqObj "list" vs.toArray 0)) s1.heap.objs.size vs out.toArray).get? b = some u
    rw [sortedHeap_old (Nat.ne_of_lt hlt) (by rw [size_push']; exact Nat.lt_succ_of_lt hlt)]
    exact Heap.get?_push_of_some _ q
  · have tl : PySem.W.TotalLe (PySem.W.dataLe false fun p : PL => encP p.2) := {
      trans := fun a b c h1 h2 => by
        have h1' : (!logLt b.2 a.2) = true := h1
        have h2' : (!logLt c.2 b.2) = true := h2
        show (!logLt c.2 a.2) = true
        rw [Bool.not_eq_true'] at h1' h2' ⊢
        cases e : logLt c.2 a.2 with
        | false => rfl
        | true =>
          rcases PyProof.Rows.lex_negTrans _ (PySem.W.keyToks (encP b.2)) _ e with q | q
          · have q' : logLt c.2 b.2 = true := q
            rw [h2'] at q'
            cases q'
          · have q' : logLt b.2 a.2 = true := q
            rw [h1'] at q'
            cases q'
      total := fun a b => by
        show (!logLt b.2 a.2) = true ∨ (!logLt a.2 b.2) = true
        cases e : logLt b.2 a.2 with
        | false => exact .inl rfl
        | true =>
          right
          rw [lt_asym (O := logO) (a := b.2) (b := a.2) e |> (fun z => (show logLt a.2 b.2 = false from z))]
          rfl }
    refine (PySem.W.sort_pairwise tl L1).imp fun {p q} h => ?_
    have h' : (!logLt q.2 p.2) = true := h
    rw [Bool.not_eq_true'] at h'
    exact h'
end
/-! ### the rules -/
structure SetN0 (P : Program) (w : World) (h : Heap) (a : Addr) (L : List PL) : Prop where
  ex : ∃ (es : Array (Int × Value)) (ep : Nat) (t : SetTable), (∃ o, h.get? a = some o ∧ o.ExactSet ∧ o.data = .set es ep t) ∧ es.toList = rowL w (keysOf L) ∧ TabOk t (hashL w (keysOf L)) ∧ ((keysOf L).map (·.2)).Nodup ∧
    (w.params.followText "set-order" = true ∨ t.led = true) ∧ (keysOf L).length * 5 < t.mask * 3 ∧ (keysOf L).length < 64
def SetNO (P : Program) (w : World) (a : Addr) (L : List PL) : HO := .ext fun h => SetN0 P w h a L
theorem setNO_new {P : Program} {w : World} {H : Hp} {h : Heap} {a : Addr} {L : List PL} (R : SetN0 P w h a L) : ObjOk P w H h a (SetNO P w a L) := by
  obtain ⟨es, ep, t, ⟨o, ho, r⟩, q⟩ := R.ex
  refine ⟨R, ⟨o, ho⟩, fun h1 h2 p k => ?_⟩
  obtain ⟨es', ep', t', ⟨o', ho', r'⟩, q'⟩ := SetN0.ex p
  exact ⟨es', ep', t', ⟨o', k o' ho', r'⟩, q'⟩
section
variable {X : Cx}
/-- set(xs), xs a list of pairs (length, log) -/
def rSetN (K : PySem.W.Frag) (P : Program) (w : World) : List V → Hp → VK → Prop := fun xs H Q => ∃ (l : Addr) (ks : List PL), xs = [V.ref l] ∧ SqL K H l (ks.map fun p => V.ref p.1) ∧ (∀ p ∈ ks, PairAt K H (.ref p.1) p.2) ∧ ks.length < 64 ∧
  ∀ a L, H a = none → (∀ p ∈ L, p ∈ ks) → (∀ p ∈ ks, p.2 ∈ L.map (·.2)) → Q (.ref a) (upd H a (SetNO P w a L))
theorem refs_ofV : ∀ {ks : List PL} {us : List Value}, Vals (ks.map fun p => V.ref p.1) us → us = ks.map fun p => Value.ref p.1
  | [], _, .nil => rfl
  | p :: ks, _, .cons r t => by
    cases r
    rw [refs_ofV t]
    rfl
theorem refs_toV : ∀ ks : List PL, Vals (ks.map fun p => V.ref p.1) (ks.map fun p => Value.ref p.1)
  | [] => .nil
  | p :: ks => .cons rfl (refs_toV ks)
theorem cr_setN (hc : X.calm = true) (hu : X.A.units + 64 < cLine) : CallR X (.type "set") (rSetN X.K X.prog X.w) := by
  intro pins s σ H xs us Q I r h
  obtain ⟨l, ks, rfl, hl, hk, hf, q⟩ := h
  rw [Vals.ref1 r]
  obtain ⟨its, rv, pl, hz⟩ := I.list hl
  have hn : H s.heap.objs.size = none := I.hok.fresh (Nat.le_refl _)
  have hit : its = (keysOf ks).map fun p => Value.ref p.1 := by
    rw [refs_ofV rv]
    unfold keysOf
    rw [List.map_map]
    rfl
  refine call_setN (P := X.prog) (w := X.w) (keysOf ks) (I.ok.hd hc) pl.isList (by simpa using hit) (fun p hp => ?_) (by unfold keysOf; rw [List.length_map]; exact hf) (by omega) fun h' tk L es ep t R g k => ?_
  · obtain ⟨p', hp', e⟩ := List.mem_map.mp hp
    subst e
    exact pair_key I (hk p' hp')
  · -- the set's own rows are pairs of ours
    obtain ⟨L0, e0, hL0⟩ : ∃ L0 : List PL, L = keysOf L0 ∧ ∀ p ∈ L0, p ∈ ks := by
      have sub : ∀ p ∈ L, ∃ p' ∈ ks, (p'.1, keyP p'.2) = p := fun p hp => List.mem_map.mp (List.mem_of_mem_take (g.sub p hp))
      have key : ∀ L : List Pair, (∀ p ∈ L, ∃ p' ∈ ks, (p'.1, keyP p'.2) = p) → ∃ L0 : List PL, L = keysOf L0 ∧ ∀ p ∈ L0, p ∈ ks := by
        intro L
        induction L with
        | nil => exact fun _ => ⟨[], rfl, fun p hp => (by cases hp)⟩
        | cons x L ih =>
          intro h
          obtain ⟨p', hp', e⟩ := h x List.mem_cons_self
          obtain ⟨L0, e0, h0⟩ := ih fun y hy => h y (List.mem_cons_of_mem _ hy)
          refine ⟨p' :: L0, by unfold keysOf; rw [List.map_cons, e, e0]; rfl, fun y hy => ?_⟩
          rcases List.mem_cons.mp hy with e | hy
          · rw [e]; exact hp'
          · exact h0 y hy
      exact key L sub
    subst e0
    refine ⟨.ref s.heap.objs.size, upd H s.heap.objs.size (SetNO X.prog X.w s.heap.objs.size L0), I.laid (t' := tk) k (Nat.le_refl _) (setNO_new ⟨es, ep, t, R.obj, R.row, R.tab, R.nod, R.led, R.fre, R.few⟩), rfl, q _ L0 hn hL0 fun p hp => ?_⟩
    have z := g.all (p.1, keyP p.2) (by rw [List.take_length]; exact List.mem_map.mpr ⟨p, hp, rfl⟩)
    unfold keysOf at z
    rw [List.map_map] at z
    obtain ⟨y, hy, e⟩ := List.mem_map.mp z
    have e2 : keyP y.2 = keyP p.2 := e
    rw [← keyP_inj e2]
    exact List.mem_map.mpr ⟨y, hy, rfl⟩
/-- sorted of it -/
def rSortN (K : PySem.W.Frag) (P : Program) (w : World) : List V → Hp → VK → Prop := fun vs H Q => ∃ (a : Addr) (L : List PL), vs = [V.ref a] ∧ H a = some (SetNO P w a L) ∧ (∀ p ∈ L, PairAt K H (.ref p.1) p.2) ∧
  ∀ (L' : List PL) (p : Addr), L'.Perm L → Srt logO (L'.map (·.2)) → L'.length < 64 → H p = none → Q (.ref p) (upd H p (.lst (L'.map fun q => V.ref q.1)))
theorem cr_sortN (hc : X.calm = true) (hu : X.A.units + 64 < cLine) : CallR X (.builtin "sorted") (rSortN X.K X.prog X.w) := by
  intro pins s σ H vs us Q I r h
  obtain ⟨a, L, rfl, ha, hk, q⟩ := h
  have R0 : SetN0 X.prog X.w s.heap a L := (I.hok a _ ha).1
  obtain ⟨es, ep, t, h1, h2, h3, h4, h5, h6, h7⟩ := R0.ex
  have R : NSet X.prog X.w s.heap a (keysOf L) es ep t := ⟨h1, h2, h3, h4, fun p hp => by
    obtain ⟨p', hp', e⟩ := List.mem_map.mp hp
    subst e
    exact pair_key I (hk p' hp'), h5, h6, h7⟩
  have nod : (L.map (·.2)).Nodup := by
    unfold keysOf at h4
    rw [List.map_map] at h4
    have e : ((fun p : Pair => p.2) ∘ fun p : PL => (p.1, keyP p.2)) = keyP ∘ (fun p : PL => p.2) := rfl
    rw [e, ← List.map_map] at h4
    exact nodup_of_map h4
  rw [Vals.ref1 r]
  refine sorted_setN R (I.ok.hd hc) (by omega) (fun p hp => Dp.reads I _ _ _ (pair_dp (hk p hp)) rfl) fun s' p out c L' k g o hp hg hout pm pw => ?_
  have hlen0 : (keysOf L).length = L.length := List.length_map _
  have hfew : L'.length < 64 := by
    rw [pm.length_eq]
    omega
  have hlen : (L'.map fun q => V.ref q.1).length ≤ sizeLine := by
    rw [List.length_map, sizeLine_eq]
    omega
  have hn : H p = none := I.hok.fresh hp
  have hv : Vals (L'.map fun q => V.ref q.1) out.toList := by
    rw [hout]
    exact refs_toV L'
  have J : Inv X pins σ (upd H p (.lst (L'.map fun q => V.ref q.1))) { s with heap := s'.heap, gens := s'.gens, drawn := s'.drawn, toks := s'.toks } :=
    I.call (ch := []) (Un.laid k hp hn) (I.hok.laid k hp ⟨hlen, out.toList, c, hv, hg⟩) (by rw [g]; exact I.bare) (fun _ z => nomatch z)
  have e : s' = { s with heap := s'.heap, gens := s'.gens, drawn := s'.drawn, toks := s'.toks } := by
    cases s'
    cases s
    cases o
    rfl
  rw [e]
  refine ⟨.ref p, _, J, rfl, q L' p pm ?_ hfew hn⟩
  have nod' : (L'.map (·.2)).Nodup := (pm.map (·.2)).nodup_iff.mpr nod
  have pw' : (L'.map (·.2)).Pairwise (fun x y => logLt y x = false) := List.pairwise_map.mpr pw
  refine (pw'.and nod').imp fun {x y} h => ?_
  rcases logO.tot x y h.2 with z | z
  · exact z
  · have z' : logLt y x = true := z
    rw [h.1] at z'
    cases z'
end
end K54
/-! KOwn: the operators and 'in' of an own class, as rules of the hand layer; extend by a tuple; list of a text; a call of a def by its promise. -/
set_option Elab.async false
set_option linter.all false
set_option maxRecDepth 100000
set_option maxHeartbeats 4000000
namespace K54
open PySem PySem.W PySem.Calls PyProof.Rows L2
/-! ### a def with its promise -/
structure Cl (P : Program) (w : World) (K : Frag) (mg : Str → Option Value) (base : Heap) (x : Str) (ps : List Str) (k : Nat) (sp : Sp) : Prop where
  ex : ∃ f fd, mg x = some (.ref f) ∧ keepIn K (.ref f) = true ∧ Binds K fd ps [] ∧ FnOk P w K mg base CX0 k f fd ps sp
section
variable {X : Cx}
theorem pe_cl {x : Str} {ps : List Str} {k : Nat} {sp : Sp} {p pos : Pos} {e : Expr} {es : List Expr} {t : TA} (C : Cl X.prog X.w X.K X.mg X.base x ps k sp) (hr : Room k X.A) (ha : PA X (e :: es) t) (hg : Gl X x := by rfl)
    (hdb : (x == ("__debug__" : Str)) = false := by decide) (he : starEach (e :: es) X.env = (false, eval e X.env) :: starEach es X.env := by rfl) (hpl : (backTo pos (starEach es X.env)).any (·.1) = false := by rfl) :
    PE X (.Call (.Name x p) (e :: es) [] pos) (tCall sp [] E0 t) := by
  obtain ⟨f, fd, h1, h2, h3, h4⟩ := C.ex
  exact pe_call h4 hr hg h1 h2 h3 .nil pass0 ha hdb he hpl
theorem pe_cl0 {x : Str} {ps : List Str} {k : Nat} {sp : Sp} {p pos : Pos} (C : Cl X.prog X.w X.K X.mg X.base x ps k sp) (hr : Room k X.A) (hg : Gl X x := by rfl) (hdb : (x == ("__debug__" : Str)) = false := by decide) :
    PE X (.Call (.Name x p) [] [] pos) (tCall sp [] E0 tNil) := by
  obtain ⟨f, fd, h1, h2, h3, h4⟩ := C.ex
  exact pe_call0 h4 hr hg h1 h2 h3 .nil pass0 hdb
end
/-! ### one more binary operator: the right side's own class -/
section
variable {prog : Program} {w : World} {A : Around} {E : Value → Shared → Prop} {s : Shared} {K : Frag} {y C L f g : Addr} {h₀ : Heap} {m : Str → Option Value} {oy : Obj} {od : Option Obj} {T : String}
theorem refl_str {op : Operator} {x : Str} {tx : Tok} {Q : Value → Shared → Prop} (FR : Fr h₀ L s.heap m) (X₀ : K.In h₀) (I : InstAt s.heap y oy C od) (hc : selfFirst K C = true)
    (hs : findIn K (.ref C) (PySem.dunder op.info.2) = some (some (.ref f))) (hr : findIn K (.ref C) (dunderR op.info.2) = some (some (.ref g))) (hg : isFn K (.ref g) = true)
    (hl : fillsNumberSlot (.type "str") op.info.2 = pure false)
    (h : wpAny (model prog w) A (call (.ref g) [.ref y, .str x tx]) (PySem.W.CmpBack Q) E s) : wpAny (model prog w) A (binaryOp op (.str x tx) (.ref y)) Q E s := by
  have X := X₀.keeps FR.keep
  obtain ⟨cd, rest, hcd, hm⟩ := ksp_first hc
  rcases hi : op.info with ⟨sym, nm'⟩
  rw [hi] at hs hr hl
  dsimp only at hs hr hl
  have one := ksp_try X I hr hg h
  obtain ⟨hh, g0, d, tt, os⟩ := s
  have L1 : Looks (model prog w) hh (typeOf (.str x tx)) (.type "str") := Looks.of_pure rfl
  have L2 : Looks (model prog w) hh (typeOf (.ref y)) (.ref C) := I.type
  have L3 : Looks (model prog w) hh (fillsNumberSlot (.type "str") nm') false := Looks.of_pure hl
  have L4 : Looks (model prog w) hh (fillsNumberSlot (.ref C) nm') true := fills_K X hcd hm hs
  have hne : (Value.type "str" == Value.ref C) = false := Bool.eq_false_iff.mpr fun q => by cases beq_iff_eq.mp q
  simp only [binaryOp, hi]
  refine wpAny_holding (wpAny_bind ?_)
  unfold binaryOp1
  refine wpAny_bind (L1.at (wpAny_bind (L2.at (wpAny_bind (L3.at ?_)))))
  simp only [hne, Bool.false_eq_true, if_false]
  ksp_lk
  refine wpAny_mono one (fun r s' hr' => ?_) fun _ _ e => e
  obtain ⟨v, rfl, hq⟩ := hr'
  ksp_lk
  exact hq
theorem int_mul_ref {a : Int} {ta : Tok} {dx : Addr} {Q : Value → Shared → Prop} (ho : s.heap.get? y = some (instObj C dx)) (h : Q .notImplemented s) : wpAny (model prog w) A (call (.builtin "int.__mul__") [.int a ta, .ref y]) Q E s := by
  refine wpAny_call_entry F.slot_int_mul (typeIs_int s a ta) F.entry_int_mul ?_ (F.args_int_mul_2 _ _)
  unfold instObj at ho
  obtain ⟨hh, g0, d, tt, os⟩ := s
  wp_walk
  exact ⟨_, rfl, h⟩
theorem refl_int {op : Operator} {i : Int} {tx : Tok} {dx : Addr} {Q : Value → Shared → Prop} (hop : op.info.2 = "mul") (FR : Fr h₀ L s.heap m) (X₀ : K.In h₀) (I : InstAt s.heap y oy C od) (hc : selfFirst K C = true)
    (hs : findIn K (.ref C) (PySem.dunder op.info.2) = some (some (.ref f))) (hr : findIn K (.ref C) (dunderR op.info.2) = some (some (.ref g))) (hg : isFn K (.ref g) = true)
    (hsub : subIn K (.ref C) (.type "int") = some false) (ho : s.heap.get? y = some (instObj C dx))
    (h : wpAny (model prog w) A (call (.ref g) [.ref y, .int i tx]) (PySem.W.CmpBack Q) E s) : wpAny (model prog w) A (binaryOp op (.int i tx) (.ref y)) Q E s := by
  have X := X₀.keeps FR.keep
  obtain ⟨cd, rest, hcd, hm⟩ := ksp_first hc
  rcases hi : op.info with ⟨sym, nm'⟩
  rw [hi] at hs hr hop
  dsimp only at hs hr hop
  have one := ksp_try X I hr hg h
  have sl : Slot "int" (PySem.dunder nm') "int.__mul__" := by
    rw [hop, show PySem.dunder "mul" = ("__mul__" : Str) by decide +kernel]
    exact F.slot_int_mul
  have decl : ∀ {R : Option Value → Shared → Prop}, R none s → wpAny (model prog w) A (tryMethod (.int i tx) (PySem.dunder nm') (.ref y)) R E s := fun {R} q => by
    unfold tryMethod
    refine wpAny_bind (wpAny_callSpecial?_slot (typeIs_int s i tx) sl (int_mul_ref ho ?_))
    exact wpAny_pure q
  have hf : fillsNumberSlot (.type "int") nm' = pure true := by
    rw [hop]
    exact F.fills_int_mul
  have hp : numberSlotInPython (.type "int") nm' = pure false := rfl
  obtain ⟨hh, g0, d, tt, os⟩ := s
  have L1 : Looks (model prog w) hh (typeOf (.int i tx)) (.type "int") := Looks.of_pure rfl
  have L2 : Looks (model prog w) hh (typeOf (.ref y)) (.ref C) := I.type
  have L3 : Looks (model prog w) hh (fillsNumberSlot (.type "int") nm') true := Looks.of_pure hf
  have L4 : Looks (model prog w) hh (fillsNumberSlot (.ref C) nm') true := fills_K X hcd hm hs
  have L5 : Looks (model prog w) hh (isSubtype (.ref C) (.type "int")) false := looks_subIn X hsub
  have L7 : Looks (model prog w) hh (numberSlotInPython (.type "int") nm') false := Looks.of_pure hp
  have hne : (Value.type "int" == Value.ref C) = false := Bool.eq_false_iff.mpr fun q => by cases beq_iff_eq.mp q
  clear hop
  simp only [binaryOp, hi]
  refine wpAny_holding (wpAny_bind ?_)
  unfold binaryOp1
  refine wpAny_bind (L1.at (wpAny_bind (L2.at (wpAny_bind (L3.at ?_)))))
  simp only [hne, Bool.false_eq_true, if_false]
  ksp_lk
  refine decl ?_
  ksp_lk
  refine wpAny_mono one (fun r s' hr' => ?_) fun _ _ e => e
  obtain ⟨v, rfl, hq⟩ := hr'
  ksp_lk
  exact hq
end
end K54
/-! KRule: rules of the hand layer that this program needs besides: operators and 'in' of an own class, extend by a tuple, list of a text. -/
set_option Elab.async false
set_option linter.all false
set_option maxRecDepth 100000
set_option maxHeartbeats 4000000
namespace K54
open PySem PySem.W PySem.Calls PyProof.Rows L2
section
variable {X : Cx} {pins : List (Addr × Obj)} {σ : L2.St} {H : Hp} {s : Shared}
theorem inst_of (I : Inv X pins σ H s) {a C dx : Addr} {fs : List (Str × V)} (e : H a = some (.ins C dx fs)) : s.heap.get? a = some (instObj C dx) ∧ ∃ od, InstAt s.heap a (instObj C dx) C (some od) := by
  obtain ⟨mA, O, _, _, _, _⟩ := ins_get I.hok e
  obtain ⟨od, J, _⟩ := O.look
  exact ⟨J.at_, od, J⟩
theorem back_of {Q : VK} {E : Value → Shared → Prop} {A : Around} {t : Sem Value} (h : wpAny (model X.prog X.w) A t (EP X pins σ Q) E s) : wpAny (model X.prog X.w) A t (PySem.W.CmpBack (EP X pins σ Q)) E s := by
  refine wpAny_mono h (fun u s' q => ?_) fun _ _ z => z
  have q0 := q
  obtain ⟨v, H', J, r, z⟩ := q
  cases u <;> first | exact q0 | (cases v <;> (first | (obtain ⟨_, e⟩ := r; cases e) | cases r))
end
/-- the facts of an operator of the class at C: nm its word, f its method, g the reflected one's -/
structure OwnOp (K : Frag) (C : Addr) (nm : String) (f g : Addr) : Prop where
  first : selfFirst K C = true
  at_ : findIn K (.ref C) (PySem.dunder nm) = some (some (.ref f))
  fn : isFn K (.ref f) = true
  rat : findIn K (.ref C) (dunderR nm) = some (some (.ref g))
  rfn : isFn K (.ref g) = true
  subS : subIn K (.type "str") (.ref C) = some false
  subI : subIn K (.type "int") (.ref C) = some false
  supI : subIn K (.ref C) (.type "int") = some false
section
variable {X : Cx} {k : Nat} {f g C : Addr} {fd : FuncData} {ps : List Str} {sp : Sp} {op : Operator}
/-- o op x: o an instance of the class at C, x another one, a text or an int -/
def rOwnL (C : Addr) (sp : Sp) : R2 := fun x y H Q => ∃ a dx fs, x = .ref a ∧ H a = some (.ins C dx fs) ∧ ((∃ b dx' fs', y = .ref b ∧ H b = some (.ins C dx' fs')) ∨ (∃ z, y = .str z) ∨ ∃ i, y = .int i) ∧ sp [x, y] H Q E0
theorem op_ownL {fo1 ro1 fo2 ro2 : Option Value} (O : OwnOp X.K C op.info.2 f g) (G : FnOk X.prog X.w X.K X.mg X.base CX0 k f fd ps sp) (hr : Room k X.A) (hb : Binds X.K fd ps [])
    (h1 : findIn X.K (.type "str") (PySem.dunder op.info.2) = some fo1) (h2 : findIn X.K (.type "str") (dunderR op.info.2) = some ro1) (h3 : findIn X.K (.type "int") (PySem.dunder op.info.2) = some fo2) (h4 : findIn X.K (.type "int") (dunderR op.info.2) = some ro2) :
    OpR X (binaryOp op) (rOwnL C sp) := by
  intro pins s σ H x y v u Q I rx ry h
  obtain ⟨a, dx, fs, rfl, ha, hy, q⟩ := h
  cases rx
  obtain ⟨m, FR⟩ := I.fr
  obtain ⟨hat, od, J⟩ := inst_of I ha
  have run : ∀ {y : V} {u : Value}, RelV y u → sp [.ref a, y] H Q E0 → wpAny (model X.prog X.w) X.A (call (.ref f) [.ref a, u]) (PySem.W.CmpBack (EP X pins σ Q)) X.xe s := fun {y u} ry q =>
    back_of (run_fn (us := [.ref a, u]) (vs := [.ref a, y]) (dvs := []) (ds := []) G hr hb .nil pass0 I (.cons rfl (.cons ry .nil)) q)
  rcases hy with ⟨b, dx', fs', rfl, hb'⟩ | ⟨z, rfl⟩ | ⟨i, rfl⟩
  · cases ry
    obtain ⟨_, od', J'⟩ := inst_of I hb'
    exact binop_K FR I.ok.mod.kin J J'.type O.first O.at_ O.fn (run (y := .ref b) rfl q)
  · obtain ⟨t, rfl⟩ := ry
    exact ksp_binT FR I.ok.mod.kin J rfl O.first O.at_ O.fn O.rat (.inr ⟨_, rfl⟩) h1 h2 O.subS (run (y := .str z) ⟨t, rfl⟩ q)
  · obtain ⟨t, rfl⟩ := ry
    exact ksp_binT FR I.ok.mod.kin J rfl O.first O.at_ O.fn O.rat (.inr ⟨_, rfl⟩) h3 h4 O.subI (run (y := .int i) ⟨t, rfl⟩ q)
/-- x op o: x a text -/
def rOwnS (C : Addr) (sp : Sp) : R2 := fun x y H Q => ∃ a dx fs, y = .ref a ∧ H a = some (.ins C dx fs) ∧ (∃ z, x = .str z) ∧ sp [y, x] H Q E0
theorem op_ownS (O : OwnOp X.K C op.info.2 f g) (G : FnOk X.prog X.w X.K X.mg X.base CX0 k g fd ps sp) (hr : Room k X.A) (hb : Binds X.K fd ps []) (hl : fillsNumberSlot (.type "str") op.info.2 = pure false) :
    OpR X (binaryOp op) (rOwnS C sp) := by
  intro pins s σ H x y v u Q I rx ry h
  obtain ⟨a, dx, fs, rfl, ha, ⟨z, rfl⟩, q⟩ := h
  cases ry
  obtain ⟨t, rfl⟩ := rx
  obtain ⟨m, FR⟩ := I.fr
  obtain ⟨hat, od, J⟩ := inst_of I ha
  exact refl_str FR I.ok.mod.kin J O.first O.at_ O.rat O.rfn hl (back_of (run_fn (us := [.ref a, .str z t]) (vs := [.ref a, .str z]) (dvs := []) (ds := []) G hr hb .nil pass0 I (.cons rfl (.cons ⟨t, rfl⟩ .nil)) q))
/-- i * o: i an int -/
def rOwnI (C : Addr) (sp : Sp) : R2 := fun x y H Q => ∃ a dx fs, y = .ref a ∧ H a = some (.ins C dx fs) ∧ (∃ i, x = .int i) ∧ sp [y, x] H Q E0
theorem op_ownI (hop : op.info.2 = "mul") (O : OwnOp X.K C op.info.2 f g) (G : FnOk X.prog X.w X.K X.mg X.base CX0 k g fd ps sp) (hr : Room k X.A) (hb : Binds X.K fd ps []) :
    OpR X (binaryOp op) (rOwnI C sp) := by
  intro pins s σ H x y v u Q I rx ry h
  obtain ⟨a, dx, fs, rfl, ha, ⟨i, rfl⟩, q⟩ := h
  cases ry
  obtain ⟨t, rfl⟩ := rx
  obtain ⟨m, FR⟩ := I.fr
  obtain ⟨hat, od, J⟩ := inst_of I ha
  exact refl_int hop FR I.ok.mod.kin J O.first O.at_ O.rat O.rfn O.supI hat (back_of (run_fn (us := [.ref a, .int i t]) (vs := [.ref a, .int i]) (dvs := []) (ds := []) G hr hb .nil pass0 I (.cons rfl (.cons ⟨t, rfl⟩ .nil)) q))
/-- x in o, by its own __contains__, which gives a truth value -/
def rOwnIn (C : Addr) (neg : Bool) (sp : Sp) : R2 := fun x y H Q => ∃ a dx fs, y = .ref a ∧ H a = some (.ins C dx fs) ∧ sp [y, x] H (fun v H' => ∃ b, v = .bl b ∧ Q (.bl (if neg then !b else b)) H') E0
theorem truthy_bool {b : Bool} {Q : Bool → Shared → Prop} {E : Value → Shared → Prop} {M : Model} {A : Around} {s : Shared} (h : Q b s) : wpAny M A (truthy (.bool b)) Q E s := by
  have e : truthy (.bool b) = pure b := by first | rfl | (unfold truthy; rfl)
  rw [e]
  exact wpAny_pure h
theorem op_ownIn (at_ : findIn X.K (.ref C) "__contains__" = some (some (.ref f))) (fn : isFn X.K (.ref f) = true) (G : FnOk X.prog X.w X.K X.mg X.base CX0 k f fd ps sp) (hr : Room k X.A) (hb : Binds X.K fd ps []) :
    OpR X (compareOp .In) (rOwnIn C false sp) := by
  intro pins s σ H x y v u Q I rx ry h
  obtain ⟨a, dx, fs, rfl, ha, q⟩ := h
  cases ry
  obtain ⟨m, FR⟩ := I.fr
  obtain ⟨hat, od, J⟩ := inst_of I ha
  refine in_K FR I.ok.mod.kin J at_ fn (thn (run_fn (us := [.ref a, v]) (vs := [.ref a, x]) (dvs := []) (ds := []) G hr hb .nil pass0 I (.cons rfl (.cons rx .nil)) q) fun u s' z => ?_)
  obtain ⟨v', H', J', r, b, e, z⟩ := z
  subst e
  cases r
  exact truthy_bool ⟨.bl b, H', J', rfl, z⟩
theorem op_ownNotIn (at_ : findIn X.K (.ref C) "__contains__" = some (some (.ref f))) (fn : isFn X.K (.ref f) = true) (G : FnOk X.prog X.w X.K X.mg X.base CX0 k f fd ps sp) (hr : Room k X.A) (hb : Binds X.K fd ps []) :
    OpR X (compareOp .NotIn) (rOwnIn C true sp) := by
  intro pins s σ H x y v u Q I rx ry h
  obtain ⟨a, dx, fs, rfl, ha, q⟩ := h
  cases ry
  obtain ⟨m, FR⟩ := I.fr
  obtain ⟨hat, od, J⟩ := inst_of I ha
  refine notIn_K FR I.ok.mod.kin J at_ fn (thn (run_fn (us := [.ref a, v]) (vs := [.ref a, x]) (dvs := []) (ds := []) G hr hb .nil pass0 I (.cons rfl (.cons rx .nil)) q) fun u s' z => ?_)
  obtain ⟨v', H', J', r, b, e, z⟩ := z
  subst e
  cases r
  exact truthy_bool ⟨.bl (!b), H', J', rfl, z⟩
/-! ### xs.extend(a tuple) -/
theorem list_extend_tup (l : Addr) (items : Array Value) (n : Nat) (b : Addr) (items2 : Array Value) (n2 : Nat) (dd : Option Addr) (sl : Array (Option Value)) (hs0 : ¬(!items.isEmpty && Builtin.List.listTooLong (items.size + items2.size)) = true) (hs1 : items.size ≤ sizeLine) (hs2 : items.size + items2.size ≤ sizeLine + 1) :
    Meets (Builtin.«list.extend» ⟨[.ref l, .ref b], []⟩) (fun _ R s => s.heap.get? l = some { cls := .type "list", dict := none, data := .seq items n, slots := #[] } ∧ s.heap.get? b = some { cls := .type "tuple", dict := dd, data := .seq items2 n2, slots := sl } ∧ R (.ok (.ret Value.none)) { s with heap := s.heap.update l (Obj.mapSeq fun x => x ++ items2), toks := s.toks }) :=
  .of_wp fun prog w A R s h => by
    obtain ⟨hp, g, d, tk, os⟩ := s
    obtain ⟨hl, hb, h⟩ := h
    have f1 := AutoSeq1.sub_tuple_tuple
    have f2 := AutoSeq1.sub_tuple_list
    have hz' : (items ++ items2).size ≤ sizeLine + 1 := by
      rw [Array.size_append]
      exact hs2
    wp_walk using (wpAny_updateSeq hl rfl (hz := hs1) (_hz' := hz')), AutoSeq1.wpAny_loadPart' hl, AutoSeq1.wpAny_loadPart' hb
    exact ⟨_, rfl, h⟩
def rExtT (K : Frag) : V → List V → Hp → VK → Prop := fun x vs H Q => ∃ l b xs zs, x = .ref l ∧ vs = [.ref b] ∧ H l = some (.lst xs) ∧ SqT K H b zs ∧ xs.length + zs.length ≤ sizeLine ∧ Q .non (upd H l (.lst (xs ++ zs)))
theorem mt_extT : MtM X "list.extend" (rExtT X.K) := by
  intro pins s σ H x vs v us Q I rx rv h
  obtain ⟨l, b, xs, zs, rfl, rfl, hH, hB, hz, q⟩ := h
  cases rx
  obtain ⟨u, rfl, ru⟩ := rv.one
  cases ru
  obtain ⟨z, its, n, r, hl, e⟩ := I.lstM hH
  obtain ⟨its2, r2, ⟨o2, ho2, hc2, n2, hd2⟩, z2⟩ := I.tuple hB
  obtain ⟨oc, odd, odt, osl⟩ := o2
  simp only at hc2 hd2
  subst hc2
  subst hd2
  have h2 := r2.length
  have hsz : its.toArray.size + its2.toArray.size ≤ sizeLine := by
    rw [List.size_toArray, List.size_toArray]
    omega
  have hlong : ¬ (!its.toArray.isEmpty && Builtin.List.listTooLong (its.toArray.size + its2.toArray.size)) = true := by
    rw [notLongL hsz, Bool.and_false]
    exact Bool.false_ne_true
  refine call_meets F.slot_list_extend ⟨_, e, rfl⟩ F.entry_list_extend (F.args_list_extend_2 _ _) (list_extend_tup l its.toArray n b its2.toArray n2 odd osl hlong (by rw [List.size_toArray]; omega) (by omega)) ⟨e, ho2, ?_⟩
  refine ⟨.non, _, I.lset (its' := its ++ its2) hH e (by simp) (r.append r2) ?_, rfl, q⟩
  rw [List.length_append]
  omega
/-! ### list(a text) -/
def signV (x : Str) : List V := x.cps.toList.map fun c => V.str ⟨#[c]⟩
theorem call_list_text (hc : X.calm = true) : CallR X (.type "list") (fun xs H Q => ∃ x, xs = [.str x] ∧ x.cps.size ≤ sizeLine ∧ ∀ l, H l = none → Q (.ref l) (upd H l (.lst (signV x)))) := by
  intro pins s σ H xs us Q I r h
  obtain ⟨x, rfl, hz, q⟩ := h
  obtain ⟨u, rfl, ru⟩ := vals1 r
  obtain ⟨t, rfl⟩ := ru
  refine call_list_str (I.ok.hd hc) x t (hn := hz) fun h' tk acc' c' hk hS' hacc => ?_
  have hv : Vals (signV x) acc'.toList := by
    have key : ∀ (ys : List Nat) (us : List Value), us.length = ys.length → (∀ (j : Nat) (v : Value), us[j]? = some v → ∃ c u, ys[j]? = some c ∧ v = Value.str ⟨#[c]⟩ u) → Vals (ys.map fun c => V.str ⟨#[c]⟩) us := by
      intro ys
      induction ys with
      | nil =>
        intro us hl _
        cases us with
        | nil => exact .nil
        | cons _ _ => cases hl
      | cons c ys ih =>
        intro us hl hg
        cases us with
        | nil => cases hl
        | cons v us =>
          obtain ⟨c', t', e1, e2⟩ := hg 0 v rfl
          cases e1
          subst e2
          exact .cons ⟨t', rfl⟩ (ih us (Nat.succ.inj hl) fun j v hv => hg (j + 1) v hv)
    refine key _ _ (by simp [hacc.1]) fun j v hv => ?_
    obtain ⟨c, u, hc, e⟩ := hacc.2 j v (by simpa using hv)
    exact ⟨c, u, by simpa using hc, e⟩
  have hlen : (signV x).length ≤ sizeLine := by
    unfold signV
    rw [List.length_map, Array.length_toList]
    exact hz
  exact ⟨.ref s.heap.objs.size, _, I.laid (t' := tk) hk (Nat.le_refl _) (show ObjOk X.prog X.w _ h' _ (.lst (signV x)) from ⟨hlen, acc'.toList, c', hv, by simpa using hS'⟩), rfl, q _ (I.hok.fresh (Nat.le_refl _))⟩
end
end K54
/-! KW: the walk's own words: bundles of promises about values (Pr), readings that end in them (Er), rules for both. -/
set_option Elab.async false
set_option linter.all false
set_option maxRecDepth 100000
set_option maxHeartbeats 4000000
namespace K54
open PySem PySem.W PySem.Calls PyProof.Rows L2 Evl
/-- a word about a value on a heap that stays true while the heap grows -/
structure Pr where
  r : Hp → V → Prop
  up : ∀ {H H' : Hp} {v : V}, Ex H H' → r H v → r H' v
def Is (v : V) : Pr := ⟨fun _ u => u = v, fun _ h => h⟩
def Any : Pr := ⟨fun _ _ => True, fun _ h => h⟩
def Al : List Pr → Hp → List V → Prop
  | [], _, [] => True
  | R :: Rs, H, v :: vs => R.r H v ∧ Al Rs H vs
  | _, _, _ => False
theorem Al.up {H H' : Hp} (e : Ex H H') : ∀ {Rs : List Pr} {vs : List V}, Al Rs H vs → Al Rs H' vs
  | [], [], _ => trivial
  | R :: Rs, v :: vs, h => ⟨R.up e h.1, Al.up e h.2⟩
  | [], _ :: _, h => h.elim
  | _ :: _, [], h => h.elim
theorem Al.len {H : Hp} : ∀ {Rs : List Pr} {vs : List V}, Al Rs H vs → vs.length = Rs.length
  | [], [], _ => rfl
  | R :: Rs, v :: vs, h => congrArg Nat.succ (Al.len h.2)
  | [], _ :: _, h => h.elim
  | _ :: _, [], h => h.elim
theorem Al.app {H : Hp} : ∀ {Rs Ss : List Pr} {vs ws : List V}, Al Rs H vs → Al Ss H ws → Al (Rs ++ Ss) H (vs ++ ws)
  | [], _, [], _, _, g => g
  | R :: Rs, _, v :: vs, _, h, g => ⟨h.1, Al.app h.2 g⟩
  | [], _, _ :: _, _, h, _ => h.elim
  | _ :: _, _, [], _, h, _ => h.elim
theorem Al.get {H : Hp} : ∀ {Rs : List Pr} {vs : List V} {i : Nat} {R : Pr}, Al Rs H vs → Rs[i]? = some R → ∃ v, vs[i]? = some v ∧ R.r H v
  | R :: Rs, v :: vs, 0, _, h, e => ⟨v, rfl, by cases e; exact h.1⟩
  | R :: Rs, v :: vs, i + 1, _, h, e => Al.get (Rs := Rs) (vs := vs) (i := i) h.2 e
  | [], [], _, _, _, e => by simp at e
  | [], _ :: _, _, _, h, _ => h.elim
  | _ :: _, [], _, _, h, _ => h.elim
theorem Al.at {H : Hp} {Rs : List Pr} {vs : List V} {i : Nat} {v : V} (h : Al Rs H vs) (e : vs[i]? = some v) : ∃ R, Rs[i]? = some R ∧ R.r H v := by
  have hi := (List.getElem?_eq_some_iff.mp e).1
  rw [h.len] at hi
  obtain ⟨v', e', r⟩ := h.get (List.getElem?_eq_getElem hi)
  rw [e] at e'
  cases e'
  exact ⟨_, List.getElem?_eq_getElem hi, r⟩
theorem Al.drop {H : Hp} : ∀ {Rs : List Pr} {vs : List V} (k : Nat), Al Rs H vs → Al (Rs.drop k) H (vs.drop k)
  | _, _, 0, h => h
  | R :: Rs, v :: vs, k + 1, h => Al.drop (Rs := Rs) (vs := vs) k h.2
  | [], [], k + 1, _ => by simp; trivial
  | [], _ :: _, _ + 1, h => h.elim
  | _ :: _, [], _ + 1, h => h.elim
theorem Al.take {H : Hp} : ∀ {Rs : List Pr} {vs : List V} (k : Nat), Al Rs H vs → Al (Rs.take k) H (vs.take k)
  | [], _, 0, h => by simp; trivial
  | _ :: _, _, 0, h => by simp; trivial
  | R :: Rs, v :: vs, k + 1, h => ⟨h.1, Al.take (Rs := Rs) (vs := vs) k h.2⟩
  | [], [], k + 1, _ => by simp; trivial
  | [], _ :: _, _ + 1, h => h.elim
  | _ :: _, [], _ + 1, h => h.elim
theorem Al.rev {H : Hp} : ∀ {Rs : List Pr} {vs : List V}, Al Rs H vs → Al Rs.reverse H vs.reverse
  | [], [], _ => trivial
  | R :: Rs, v :: vs, h => by
    rw [List.reverse_cons, List.reverse_cons]
    exact Al.app (Al.rev h.2) ⟨h.1, trivial⟩
  | [], _ :: _, h => h.elim
  | _ :: _, [], h => h.elim
theorem Al.is {H : Hp} : ∀ (vs : List V), Al (vs.map Is) H vs
  | [] => trivial
  | v :: vs => ⟨rfl, Al.is vs⟩
theorem Al.isEq {H : Hp} : ∀ {vs ws : List V}, Al (vs.map Is) H ws → ws = vs
  | [], [], _ => rfl
  | v :: vs, w :: ws, h => by
    rw [Al.isEq h.2]
    exact congrArg (· :: vs) h.1
  | [], _ :: _, h => h.elim
  | _ :: _, [], h => h.elim
theorem al1 {H : Hp} {R : Pr} : ∀ {vs : List V}, Al [R] H vs → ∃ v, vs = [v] ∧ R.r H v
  | [v], h => ⟨v, rfl, h.1⟩
  | [], h => h.elim
  | _ :: _ :: _, h => h.2.elim
theorem al2 {H : Hp} {R S : Pr} : ∀ {vs : List V}, Al [R, S] H vs → ∃ v w, vs = [v, w] ∧ R.r H v ∧ S.r H w
  | [v, w], h => ⟨v, w, rfl, h.1, h.2.1⟩
  | [], h => h.elim
  | [_], h => h.2.elim
  | _ :: _ :: _ :: _, h => h.2.2.elim
theorem al3 {H : Hp} {R S T : Pr} : ∀ {vs : List V}, Al [R, S, T] H vs → ∃ v w x, vs = [v, w, x] ∧ R.r H v ∧ S.r H w ∧ T.r H x
  | [v, w, x], h => ⟨v, w, x, rfl, h.1, h.2.1, h.2.2.1⟩
  | [], h => h.elim
  | [_], h => h.2.elim
  | [_, _], h => h.2.2.elim
  | _ :: _ :: _ :: _ :: _, h => h.2.2.2.elim
/-- a tuple, a list of such things -/
def Tup (K : PySem.W.Frag) (Rs : List Pr) : Pr := ⟨fun H v => ∃ a vs, v = .ref a ∧ SqT K H a vs ∧ Al Rs H vs, fun e ⟨a, vs, h1, h2, h3⟩ => ⟨a, vs, h1, ex_t e h2, h3.up e⟩⟩
def Lst (K : PySem.W.Frag) (Rs : List Pr) : Pr := ⟨fun H v => ∃ a vs, v = .ref a ∧ H a = some (.lst vs) ∧ Al Rs H vs, fun e ⟨a, vs, h1, h2, h3⟩ => ⟨a, vs, h1, e _ _ h2, h3.up e⟩⟩
def Sy (x : Str) : Pr := Is (.str x)
def In (i : Int) : Pr := Is (.int i)
def Bo (b : Bool) : Pr := Is (.bl b)
/-- a log: a tuple of names; logs: a tuple, a list of them -/
def LogP (K : PySem.W.Frag) (l : Log) : Pr := Tup K (l.map Sy)
def LogsP (K : PySem.W.Frag) (ls : List Log) : Pr := Tup K (ls.map (LogP K))
def LogsL (K : PySem.W.Frag) (ls : List Log) : Pr := Lst K (ls.map (LogP K))
/-! ### readings -/
def Er (te : TE) (σ : L2.St) (H : Hp) (R : Pr) : Prop := ∀ H1, Ex H H1 → ∀ Q : VK, (∀ v H2, Ex H1 H2 → R.r H2 v → Q v H2) → te σ H1 Q
def Ea (ta : TA) (σ : L2.St) (H : Hp) (Rs : List Pr) : Prop := ∀ H1, Ex H H1 → ∀ Q : List V → Hp → Prop, (∀ vs H2, Ex H1 H2 → Al Rs H2 vs → Q vs H2) → ta σ H1 Q
/-- an operation on values -/
def RR (f : VK → Prop) (H : Hp) (R : Pr) : Prop := ∀ Q : VK, (∀ v H2, Ex H H2 → R.r H2 v → Q v H2) → f Q
section
variable {K : PySem.W.Frag} {σ : L2.St} {H H' : Hp} {ta tb te tx : TE} {t u : TT} {v : V} {R Ra Rb : Pr} {Rs : List Pr} {tr : TA}
theorem Er.mono (e : Ex H H') (h : Er te σ H R) : Er te σ H' R := fun H1 a Q q => h H1 (e.trans a) Q q
theorem Ea.mono (e : Ex H H') (h : Ea tr σ H Rs) : Ea tr σ H' Rs := fun H1 a Q q => h H1 (e.trans a) Q q
theorem er_var {i : Nat} (h : σ[i]? = some (some v)) (r : R.r H v) : Er (tVar i) σ H R := fun H1 e Q q => ⟨v, h, q v H1 (Ex.refl H1) (R.up e r)⟩
theorem er_c (r : R.r H v) : Er (tC v) σ H R := fun H1 e Q q => q v H1 (Ex.refl H1) (R.up e r)
theorem er_is : Er (tC v) σ H (Is v) := er_c rfl
theorem er_as (h : Er te σ H Ra) (k : ∀ v H1, Ex H H1 → Ra.r H1 v → R.r H1 v) : Er te σ H R := fun H1 e Q q => h H1 e Q fun v H2 e2 r => q v H2 e2 (k v H2 (e.trans e2) r)
theorem er_ev (h : Ev te σ H v) : Er te σ H (Is v) := fun H1 e Q q => h H1 e Q fun H2 e2 => q v H2 e2 rfl
theorem ev_er (h : Er te σ H (Is v)) : Ev te σ H v := fun H1 e Q q => h H1 e Q fun v' H2 e2 r => by
  cases (show v' = v from r)
  exact q H2 e2
theorem er_op {r : R2} (ha : Er ta σ H Ra) (hb : Er tb σ H Rb) (hr : ∀ x y H1, Ex H H1 → Ra.r H1 x → Rb.r H1 y → RR (r x y H1) H1 R) : Er (tOp r ta tb) σ H R := fun H1 e Q q =>
  ha H1 e _ fun x H2 e2 rx => hb H2 (e.trans e2) _ fun y H3 e3 ry => hr x y H3 ((e.trans e2).trans e3) (Ra.up e3 rx) ry Q fun v H4 e4 rv => q v H4 ((e2.trans e3).trans e4) rv
theorem er_un {r : V → Hp → VK → Prop} (ha : Er ta σ H Ra) (hr : ∀ x H1, Ex H H1 → Ra.r H1 x → RR (r x H1) H1 R) : Er (tUn r ta) σ H R := fun H1 e Q q =>
  ha H1 e _ fun x H2 e2 rx => hr x H2 (e.trans e2) rx Q fun v H4 e4 rv => q v H4 (e2.trans e4) rv
theorem er_cb {r : List V → Hp → VK → Prop} (h : Ea tr σ H Rs) (hr : ∀ vs H1, Ex H H1 → Al Rs H1 vs → RR (r vs H1) H1 R) : Er (tCB r tr) σ H R := fun H1 e Q q =>
  h H1 e _ fun vs H2 e2 ra => hr vs H2 (e.trans e2) ra Q fun v H4 e4 rv => q v H4 (e2.trans e4) rv
theorem ea_nilR : Ea tNil σ H [] := fun H1 _ Q q => q [] H1 (Ex.refl H1) trivial
theorem ea_consR (h : Er ta σ H R) (hr : Ea tr σ H Rs) : Ea (tCons ta tr) σ H (R :: Rs) := fun H1 e Q q =>
  h H1 e _ fun v H2 e2 rv => hr H2 (e.trans e2) _ fun vs H3 e3 rs => q (v :: vs) H3 (e2.trans e3) ⟨R.up e3 rv, rs⟩
theorem ea_1 (h : Er ta σ H R) : Ea (tCons ta tNil) σ H [R] := ea_consR h ea_nilR
theorem ea_2 (h : Er ta σ H Ra) (h2 : Er tb σ H Rb) : Ea (tCons ta (tCons tb tNil)) σ H [Ra, Rb] := ea_consR h (ea_1 h2)
theorem ea_3 {Rc : Pr} {tc : TE} (h : Er ta σ H Ra) (h2 : Er tb σ H Rb) (h3 : Er tc σ H Rc) : Ea (tCons ta (tCons tb (tCons tc tNil))) σ H [Ra, Rb, Rc] := ea_consR h (ea_2 h2 h3)
theorem er_tup (h : Ea tr σ H Rs) (hz : Rs.length ≤ 100000) : Er (tTup tr) σ H (Tup K Rs) := fun H1 e Q q =>
  h H1 e _ fun vs H2 e2 ra => ⟨sz_of (by rw [ra.len]; exact hz), fun p hp => q _ _ (e2.trans (Ex.new hp)) ⟨p, vs, rfl, st_of upd_same, ra.up (Ex.new hp)⟩⟩
theorem er_lst (h : Ea tr σ H Rs) (hz : Rs.length ≤ 100000) : Er (tLst tr) σ H (Lst K Rs) := fun H1 e Q q =>
  h H1 e _ fun vs H2 e2 ra => ⟨sz_of (by rw [ra.len]; exact hz), fun p hp => q _ _ (e2.trans (Ex.new hp)) ⟨p, vs, rfl, upd_same, ra.up (Ex.new hp)⟩⟩
theorem er_if {b : Bool} (h : EvT t σ H b) (h1 : b = true → Er ta σ H R) (h2 : b = false → Er tb σ H R) : Er (tIf t ta tb) σ H R := fun H1 e Q q => h H1 e _ fun H2 e2 => by
  cases b with
  | true =>
    show ta σ H2 Q
    exact h1 rfl H2 (e.trans e2) Q fun v H3 e3 r => q v H3 (e2.trans e3) r
  | false =>
    show tb σ H2 Q
    exact h2 rfl H2 (e.trans e2) Q fun v H3 e3 r => q v H3 (e2.trans e3) r
theorem et_testR {b : Bool} (h : Er te σ H (Bo b)) : EvT (tTest te) σ H b := et_test (ev_er h)
theorem et_BR {b : Bool} (h : Er te σ H (Bo b)) : EvT (tB te) σ H b := et_B (ev_er h)
/-! two-place operations -/
theorem er_eq {x y : V} (ha : Er ta σ H (Is x)) (hb : Er tb σ H (Is y)) (hs : scal x y = true) : Er (tOp rEq ta tb) σ H (Bo (decide (x = y))) :=
  er_op ha hb fun x' y' H1 _ e1 e2 Q q => by
    cases (show x' = x from e1); cases (show y' = y from e2)
    exact ⟨hs, q _ H1 (Ex.refl H1) rfl⟩
theorem er_ne {x y : V} (ha : Er ta σ H (Is x)) (hb : Er tb σ H (Is y)) (hs : scal x y = true) : Er (tOp rNe ta tb) σ H (Bo (!decide (x = y))) :=
  er_op ha hb fun x' y' H1 _ e1 e2 Q q => by
    cases (show x' = x from e1); cases (show y' = y from e2)
    exact ⟨hs, q _ H1 (Ex.refl H1) rfl⟩
theorem er_eqS {x y : Str} (ha : Er ta σ H (Sy x)) (hb : Er tb σ H (Sy y)) : Er (tOp rEq ta tb) σ H (Bo (decide (x = y))) := by
  have := er_eq ha hb rfl
  rwa [show decide (V.str x = V.str y) = decide (x = y) by simp] at this
theorem er_eqI {x y : Int} (ha : Er ta σ H (In x)) (hb : Er tb σ H (In y)) : Er (tOp rEq ta tb) σ H (Bo (decide (x = y))) := by
  have := er_eq ha hb rfl
  rwa [show decide (V.int x = V.int y) = decide (x = y) by simp] at this
theorem er_neS {x y : Str} (ha : Er ta σ H (Sy x)) (hb : Er tb σ H (Sy y)) : Er (tOp rNe ta tb) σ H (Bo (!decide (x = y))) := by
  have := er_ne ha hb rfl
  rwa [show decide (V.str x = V.str y) = decide (x = y) by simp] at this
theorem er_neI {x y : Int} (ha : Er ta σ H (In x)) (hb : Er tb σ H (In y)) : Er (tOp rNe ta tb) σ H (Bo (!decide (x = y))) := by
  have := er_ne ha hb rfl
  rwa [show decide (V.int x = V.int y) = decide (x = y) by simp] at this
theorem er_I0 {g : Int → Int → V} {i j : Int} (ha : Er ta σ H (In i)) (hb : Er tb σ H (In j)) : Er (tOp (rI0 g) ta tb) σ H (Is (g i j)) :=
  er_op ha hb fun x' y' H1 _ e1 e2 Q q => by
    cases (show x' = _ from e1); cases (show y' = _ from e2)
    exact ⟨i, j, rfl, rfl, q _ H1 (Ex.refl H1) rfl⟩
theorem er_I {C : Int → Int → Prop} {g : Int → Int → V} {i j : Int} (ha : Er ta σ H (In i)) (hb : Er tb σ H (In j)) (hc : C i j) : Er (tOp (rI C g) ta tb) σ H (Is (g i j)) :=
  er_op ha hb fun x' y' H1 _ e1 e2 Q q => by
    cases (show x' = _ from e1); cases (show y' = _ from e2)
    exact ⟨i, j, rfl, rfl, hc, q _ H1 (Ex.refl H1) rfl⟩
theorem atI_natV {vs : List V} {i : Nat} {v : V} (h : vs[i]? = some v) : atI vs (i : Int) = some v := atI_nat h
/-- t[i], xs[i] -/
theorem er_ixT {i : Nat} (ha : Er ta σ H (Tup K Rs)) (hb : Er tb σ H (In (i : Int))) (h : Rs[i]? = some R) : Er (tOp (rIxT K) ta tb) σ H R :=
  er_op ha hb fun x y H1 e0 h1 h2 Q q => by
    obtain ⟨a, vs, rfl, hs, hA⟩ := h1
    cases (show y = _ from h2)
    obtain ⟨v, hv, r⟩ := hA.get h
    exact ⟨a, vs, _, v, rfl, rfl, hs, atI_natV hv, q v H1 (Ex.refl H1) r⟩
theorem er_ixL {i : Nat} (ha : Er ta σ H (Lst K Rs)) (hb : Er tb σ H (In (i : Int))) (h : Rs[i]? = some R) : Er (tOp (rIxL K) ta tb) σ H R :=
  er_op ha hb fun x y H1 e0 h1 h2 Q q => by
    obtain ⟨a, vs, rfl, hs, hA⟩ := h1
    cases (show y = _ from h2)
    obtain ⟨v, hv, r⟩ := hA.get h
    exact ⟨a, vs, _, v, rfl, rfl, sq_of hs, atI_natV hv, q v H1 (Ex.refl H1) r⟩
/-- s[i] -/
theorem er_ixS {w : Str} {i : Nat} {c : Nat} (ha : Er ta σ H (Sy w)) (hb : Er tb σ H (In (i : Int))) (hw : w.length ≤ 100000) (h : w.cps.toList[i]? = some c) : Er (tOp rIxS ta tb) σ H (Sy ⟨#[c]⟩) :=
  er_op ha hb fun x y H1 e0 h1 h2 Q q => by
    cases (show x = _ from h1)
    cases (show y = _ from h2)
    exact ⟨w, _, c, rfl, rfl, sz_of hw, atI_nat h, q _ H1 (Ex.refl H1) rfl⟩
/-- len -/
theorem er_lenT (ha : Er ta σ H (Tup K Rs)) : Er (tCB (Evl.rLenS K) (tCons ta tNil)) σ H (In (Rs.length : Int)) := fun H1 e Q q =>
  ha H1 e _ fun x H2 e2 ⟨a, vs, h1, hs, hA⟩ => ⟨a, vs, by rw [h1], .inr hs, q _ H2 e2 (by rw [← hA.len]; rfl)⟩
theorem er_lenL (ha : Er ta σ H (Lst K Rs)) : Er (tCB (Evl.rLenS K) (tCons ta tNil)) σ H (In (Rs.length : Int)) := fun H1 e Q q =>
  ha H1 e _ fun x H2 e2 ⟨a, vs, h1, hs, hA⟩ => ⟨a, vs, by rw [h1], .inl (sq_of hs), q _ H2 e2 (by rw [← hA.len]; rfl)⟩
/-! statements -/
variable {D : Ends} {tu tw tz : TS}
theorem s_asgR {i : Nat} (h : Er te σ H R) (k : ∀ v H1, Ex H H1 → R.r H1 v → D.nx (σ.set i (some v)) H1) : tAsg te (gName i) D σ H := h H (Ex.refl H) _ k
theorem q_asgR {i : Nat} (h : Er te σ H R) (k : ∀ v H1, Ex H H1 → R.r H1 v → tz D (σ.set i (some v)) H1) : tSeq (tAsg te (gName i)) tz D σ H := h H (Ex.refl H) _ k
theorem s_retR (h : Er te σ H R) (k : ∀ v H1, Ex H H1 → R.r H1 v → D.rt v H1) : tRet te D σ H := h H (Ex.refl H) _ k
theorem q_parR {i j : Nat} (h : Ea tr σ H [Ra, Rb]) (k : ∀ v w H1, Ex H H1 → Ra.r H1 v → Rb.r H1 w → tz D ((σ.set i (some v)).set j (some w)) H1) : tSeq (tPar i j tr) tz D σ H :=
  h H (Ex.refl H) _ fun vs H1 e ra => by
    match vs, ra with
    | [v, w], ra => exact ⟨v, w, rfl, k v w H1 e ra.1 ra.2.1⟩
theorem q_par3R {i j l : Nat} {Rc : Pr} (h : Ea tr σ H [Ra, Rb, Rc]) (k : ∀ v w x H1, Ex H H1 → Ra.r H1 v → Rb.r H1 w → Rc.r H1 x → tz D (((σ.set i (some v)).set j (some w)).set l (some x)) H1) : tSeq (tPar3 i j l tr) tz D σ H :=
  h H (Ex.refl H) _ fun vs H1 e ra => by
    match vs, ra with
    | [v, w, x], ra => exact ⟨v, w, x, rfl, k v w x H1 e ra.1 ra.2.1 ra.2.2.1⟩
end
/-! ### promises -/
/-- a def that changes nothing that stands: ins what it takes, out what it gives -/
def spF {α : Type} (pre : α → Prop) (ins : α → List Pr) (out : α → Pr) : Sp := fun vs H Q _ => ∃ a, pre a ∧ Al (ins a) H vs ∧ ∀ v H', Ex H H' → (out a).r H' v → Q v H'
theorem er_call {α : Type} {pre : α → Prop} {ins : α → List Pr} {out : α → Pr} {σ : L2.St} {H : Hp} {tr : TA} {E : XK} (a : α) (hp : pre a) (h : Ea tr σ H (ins a)) : Er (tCall (spF pre ins out) [] E tr) σ H (out a) := fun H1 e Q q =>
  h H1 e _ fun vs H2 e2 ra => ⟨a, hp, by rw [List.append_nil]; exact ra, fun v H3 e3 r => q v H3 (e2.trans e3) r⟩
/-- a def of the text by its name -/
structure DefAt (K : PySem.W.Frag) (mg : Str → Option Value) (x : Str) (st : Stmt) : Prop where
  ex : ∃ f fd, FunD K x x (defArgs st) (defBody st) (defScope st) [] [] f fd ∧ mg x = some (.ref f)
theorem cl_any {P : Program} {w : World} {K : PySem.W.Frag} {mg : Str → Option Value} {base : Heap} {x : Str} {st : Stmt} {N ps : List Str} {k : Nat} {sp : Sp} (F : DefAt K mg x st) (S : FnScope N ps (defScope st))
    (hb : ∀ (kV doc pm : Value) (an : Option Addr) (cdv ct : Value) (us : List Value), us.length = ps.length → bindArgs (PySem.W.fnOf x x (defArgs st) (defBody st) (defScope st) .none kV doc pm an cdv ct) ⟨us, []⟩ = pure (ps.zip us))
    (len : ∀ vs H Q E, sp vs H Q E → vs.length = ps.length)
    (body : ∀ (f : Addr) (cdv : Value) (A : Around) (outer : List Env) (s : Shared) (H : Hp) (E : XK) (vs : List V) (Q : VK), Room k (A.deeper (envOfC x (defScope st) s.heap.objs.size f cdv)) → sp vs H Q E →
      ∃ t, PSs (cxOf CX0 P w K mg base N x (defScope st) f cdv A outer s H E).nox (defBody st) t ∧ t { nx := fun _ H' => Q .non H', rt := Q } (start N vs) H) : Cl P w K mg base x ps (k + 1) sp := by
  obtain ⟨f, fd, F, hm⟩ := F.ex
  refine ⟨f, fd, hm, F.kp, F.bindsN hb, F.ok S len fun cdv A outer s H vs Q E hr h => ?_⟩
  obtain ⟨t, h1, h2⟩ := body f cdv A outer s H E vs Q hr h
  exact ⟨t, PSs.nox h1, h2⟩
theorem cl_of {P : Program} {w : World} {K : PySem.W.Frag} {mg : Str → Option Value} {base : Heap} {x : Str} {st : Stmt} {N ps : List Str} {k : Nat} {α : Type} {pre : α → Prop} {ins : α → List Pr} {out : α → Pr} (F : DefAt K mg x st) (S : FnScope N ps (defScope st))
    (hb : ∀ (kV doc pm : Value) (an : Option Addr) (cdv ct : Value) (us : List Value), us.length = ps.length → bindArgs (PySem.W.fnOf x x (defArgs st) (defBody st) (defScope st) .none kV doc pm an cdv ct) ⟨us, []⟩ = pure (ps.zip us))
    (hl : ∀ a, (ins a).length = ps.length)
    (body : ∀ (f : Addr) (cdv : Value) (A : Around) (outer : List Env) (s : Shared) (H : Hp) (E : XK) (a : α) (vs : List V), Room k (A.deeper (envOfC x (defScope st) s.heap.objs.size f cdv)) → pre a → Al (ins a) H vs →
      ∃ t, PSs (cxOf CX0 P w K mg base N x (defScope st) f cdv A outer s H E).nox (defBody st) t ∧ ∀ Q : VK, (∀ v H', Ex H H' → (out a).r H' v → Q v H') → t { nx := fun _ H' => Q .non H', rt := Q } (start N vs) H) : Cl P w K mg base x ps (k + 1) (spF pre ins out) := by
  refine cl_any F S hb (fun vs H Q E ⟨a, _, h, _⟩ => by rw [h.len]; exact hl a) fun f cdv A outer s H E vs Q hr ⟨a, hp, h, q⟩ => ?_
  obtain ⟨t, h1, h2⟩ := body f cdv A outer s H E a vs hr hp h
  exact ⟨t, h1, h2 Q q⟩
end K54
/-! KV: comprehensions, loops, built-ins by the words of KW. -/
set_option Elab.async false
set_option linter.all false
set_option maxRecDepth 100000
set_option maxHeartbeats 4000000
namespace K54
open PySem PySem.W PySem.Calls PyProof.Rows L2 Evl
/-! ### things that never change -/
def Imm : HO → Bool
  | .tup _ => true
  | .ins _ _ _ => true
  | .frz _ _ => true
  | _ => false
def Kp (H H' : Hp) : Prop := ∀ a o, Imm o = true → H a = some o → H' a = some o
theorem Kp.refl (H : Hp) : Kp H H := fun _ _ _ h => h
theorem Kp.trans {H H1 H2 : Hp} (a : Kp H H1) (b : Kp H1 H2) : Kp H H2 := fun x o i h => b x o i (a x o i h)
theorem kp_ex {H H' : Hp} (e : Ex H H') : Kp H H' := fun a o _ h => e a o h
/-- a list that stood changes -/
theorem kp_mut {H H' : Hp} {p : Addr} {o u : HO} (e : Kp H H') (h : H' p = some u) (hu : Imm u = false) : Kp H (upd H' p o) := fun a x i ha => by
  have h1 := e a x i ha
  by_cases ea : a = p
  · subst ea
    rw [h] at h1
    cases h1
    rw [hu] at i
    cases i
  · rw [upd_ne ea]
    exact h1
theorem kp_t {K : PySem.W.Frag} {H H' : Hp} {a : Addr} {xs : List V} (e : Kp H H') (h : SqT K H a xs) : SqT K H' a xs := by
  rcases h with h | h
  · rcases h with h | ⟨o, h⟩
    · exact .inl (.inl (e a _ rfl h))
    · exact .inl (.inr ⟨o, e a _ rfl h⟩)
  · exact .inr h
def Im (R : Pr) : Prop := ∀ {H H' : Hp} {v : V}, Kp H H' → R.r H v → R.r H' v
def ImL (Rs : List Pr) : Prop := ∀ R ∈ Rs, Im R
theorem im_is {v : V} : Im (Is v) := fun _ h => h
theorem im_sy {x : Str} : Im (Sy x) := fun _ h => h
theorem Al.kp {H H' : Hp} (e : Kp H H') : ∀ {Rs : List Pr} {vs : List V}, ImL Rs → Al Rs H vs → Al Rs H' vs
  | [], [], _, _ => trivial
  | R :: Rs, v :: vs, i, h => ⟨i R (List.mem_cons_self ..) e h.1, Al.kp e (fun S hS => i S (List.mem_cons_of_mem _ hS)) h.2⟩
  | [], _ :: _, _, h => h.elim
  | _ :: _, [], _, h => h.elim
theorem im_tup {K : PySem.W.Frag} {Rs : List Pr} (i : ImL Rs) : Im (Tup K Rs) := fun e ⟨a, vs, h1, h2, h3⟩ => ⟨a, vs, h1, kp_t e h2, h3.kp e i⟩
theorem iml_map {β : Type} {f : β → Pr} {l : List β} (h : ∀ b, Im (f b)) : ImL (l.map f) := fun R hR => by
  obtain ⟨b, _, rfl⟩ := List.mem_map.mp hR
  exact h b
theorem im_log {K : PySem.W.Frag} {l : Log} : Im (LogP K l) := im_tup (iml_map fun _ => im_sy)
theorem im_logs {K : PySem.W.Frag} {l : List Log} : Im (LogsP K l) := im_tup (iml_map fun _ => im_log)
section
variable {K : PySem.W.Frag} {σ : L2.St} {H H' : Hp} {ta tb te tx tl : TE} {t u : TT} {v : V} {R Ra Rb : Pr} {Rs : List Pr} {tr : TA} {β : Type}
/-! ### comprehensions -/
theorem filter_take {f : β → Bool} {items : List β} {i : Nat} {b : β} (h : items[i]? = some b) : (items.take (i + 1)).filter f = (items.take i).filter f ++ (if f b = true then [b] else []) := by
  rw [List.take_add_one, h, List.filter_append]
  simp [List.filter_cons]
def Cq (items : List β) (f : β → Bool) (G : β → Pr) (H : Hp) (Dl : Addr) (i : Nat) (H' : Hp) : Prop := H Dl = none ∧ Ex H H' ∧ ∃ vs, H' Dl = some (.lst vs) ∧ Al (((items.take i).filter f).map G) H' vs
theorem cq_turn {items : List β} {f : β → Bool} {G : β → Pr} {Dl : Addr} {i : Nat} {σ2 : L2.St} {b : β} (hG : ∀ b, Im (G b)) (p : Cq items f G H Dl i H') (hb : items[i]? = some b) (hi : items.length ≤ 40000) (ht : EvT t σ2 H' (f b)) (he : f b = true → Er te σ2 H' (G b)) :
    t σ2 H' fun c H3 => if c = true then te σ2 H3 fun y H4 => ∃ acc, H4 Dl = some (.lst acc) ∧ acc.length < sizeLine ∧ Cq items f G H Dl (i + 1) (upd H4 Dl (.lst (acc ++ [y]))) else Cq items f G H Dl (i + 1) H3 := by
  obtain ⟨p1, p2, vs, p3, p4⟩ := p
  have hlen : vs.length ≤ items.length := by
    rw [p4.len, List.length_map]
    exact Nat.le_trans (List.length_filter_le _ _) (by rw [List.length_take]; exact Nat.min_le_right _ _)
  refine ht H' (Ex.refl H') _ fun H3 e3 => ?_
  cases hf : f b with
  | true =>
    show te σ2 H3 _
    refine he hf H3 e3 _ fun y H4 e4 ry => ⟨vs, e4 Dl _ (e3 Dl _ p3), sz_lt (by omega), p1, Ex.mut ((p2.trans e3).trans e4) p1, _, upd_same, ?_⟩
    rw [filter_take hb, hf, if_pos rfl, List.map_append]
    have a1 : Al (((items.take i).filter f).map G) H4 vs := p4.up (e3.trans e4)
    have a2 : Al ([b].map G) H4 [y] := ⟨ry, trivial⟩
    refine (Al.app a1 a2).kp (kp_mut (Kp.refl H4) (e4 Dl _ (e3 Dl _ p3)) rfl) ?_
    rw [← List.map_append]
    exact iml_map hG
  | false =>
    refine ⟨p1, p2.trans e3, vs, e3 Dl _ p3, ?_⟩
    rw [filter_take hb, hf, if_neg (by decide), List.append_nil]
    exact p4.up e3
theorem map_at {items : List β} {S : β → Pr} {vs : List V} {i : Nat} {x : V} (h : Al (items.map S) H vs) (e : vs[i]? = some x) : ∃ b, items[i]? = some b ∧ (S b).r H x := by
  obtain ⟨R, e1, r⟩ := h.at e
  rw [List.getElem?_map] at e1
  cases hb : items[i]? with
  | none => rw [hb] at e1; cases e1
  | some b =>
    rw [hb] at e1
    cases e1
    exact ⟨b, rfl, r⟩
theorem cq_end {items : List β} {f : β → Bool} {G : β → Pr} {Dl : Addr} {n : Nat} (hn : n = items.length) (p : Cq items f G H Dl n H') : Ex H H' ∧ (Lst K ((items.filter f).map G)).r H' (.ref Dl) := by
  obtain ⟨p1, p2, vs, p3, p4⟩ := p
  refine ⟨p2, Dl, vs, rfl, p3, ?_⟩
  rw [hn, List.take_length] at p4
  exact p4
theorem er_lcT {j : Nat} {vs : List Nat} (items : List β) (S : β → Pr) (f : β → Bool) (G : β → Pr) (h : Er tl σ H (Tup K (items.map S))) (hG : ∀ b, Im (G b)) (hz : items.length ≤ 40000) (hw : ∀ x, wipe ((wipe σ vs).set j (some x)) vs = wipe σ vs)
    (ht : ∀ b x H1, b ∈ items → Ex H H1 → (S b).r H1 x → EvT t ((wipe σ vs).set j (some x)) H1 (f b)) (he : ∀ b x H1, b ∈ items → Ex H H1 → (S b).r H1 x → f b = true → Er te ((wipe σ vs).set j (some x)) H1 (G b)) :
    Er (tLc (iTup K tl) (gName j) t te vs) σ H (Lst K ((items.filter f).map G)) := fun H0 e Q q => h H0 e _ fun v H1 e1 ⟨a, xs, h1, hs, hA⟩ => ⟨a, h1, ⟨xs, hs⟩, fun Dl hD =>
  lc_tup (xs := xs) (Cq items f G H1 Dl) ⟨hD, Ex.new hD, [], upd_same, trivial⟩ (fun i H' _ p => ex_t p.2.1 hs) (fun i x H' hi p => by
    obtain ⟨b, hb, r⟩ := map_at (hA.up p.2.1) hi
    have hm := List.mem_of_getElem? hb
    exact ⟨hw x, cq_turn hG p hb hz (ht b x H' hm ((e.trans e1).trans p.2.1) r) (he b x H' hm ((e.trans e1).trans p.2.1) r)⟩)
    (fun H' p => by
      have hl : xs.length = items.length := by rw [hA.len, List.length_map]
      obtain ⟨p1, p2⟩ := cq_end (K := K) hl p
      exact q _ H' (e1.trans p1) p2)⟩
theorem er_lcL {j : Nat} {vs : List Nat} (items : List β) (S : β → Pr) (f : β → Bool) (G : β → Pr) (h : Er tl σ H (Lst K (items.map S))) (hG : ∀ b, Im (G b)) (hz : items.length ≤ 40000) (hw : ∀ x, wipe ((wipe σ vs).set j (some x)) vs = wipe σ vs)
    (ht : ∀ b x H1, b ∈ items → Ex H H1 → (S b).r H1 x → EvT t ((wipe σ vs).set j (some x)) H1 (f b)) (he : ∀ b x H1, b ∈ items → Ex H H1 → (S b).r H1 x → f b = true → Er te ((wipe σ vs).set j (some x)) H1 (G b)) :
    Er (tLc (iList K tl) (gName j) t te vs) σ H (Lst K ((items.filter f).map G)) := fun H0 e Q q => h H0 e _ fun v H1 e1 ⟨a, xs, h1, hs, hA⟩ => ⟨a, h1, ⟨xs, sq_of hs⟩, fun Dl hD =>
  lc_list (xs := xs) (Cq items f G H1 Dl) ⟨hD, Ex.new hD, [], upd_same, trivial⟩ (fun i H' _ p => ex_l p.2.1 (sq_of hs)) (fun i x H' hi p => by
    obtain ⟨b, hb, r⟩ := map_at (hA.up p.2.1) hi
    have hm := List.mem_of_getElem? hb
    exact ⟨hw x, cq_turn hG p hb hz (ht b x H' hm ((e.trans e1).trans p.2.1) r) (he b x H' hm ((e.trans e1).trans p.2.1) r)⟩)
    (fun H' p => by
      have hl : xs.length = items.length := by rw [hA.len, List.length_map]
      obtain ⟨p1, p2⟩ := cq_end (K := K) hl p
      exact q _ H' (e1.trans p1) p2)⟩
theorem er_lcR {j : Nat} {vs : List Nat} {n : Nat} (f : Nat → Bool) (G : Nat → Pr) (h : Ea tr σ H [In (n : Int)]) (hG : ∀ b, Im (G b)) (hz : n ≤ 40000) (hw : ∀ x, wipe ((wipe σ vs).set j (some x)) vs = wipe σ vs)
    (ht : ∀ (i : Nat) H1, i < n → Ex H H1 → EvT t ((wipe σ vs).set j (some (.int (i : Int)))) H1 (f i)) (he : ∀ (i : Nat) H1, i < n → Ex H H1 → f i = true → Er te ((wipe σ vs).set j (some (.int (i : Int)))) H1 (G i)) :
    Er (tLc (iRng1 tr) (gName j) t te vs) σ H (Lst K (((List.range n).filter f).map G)) := fun H0 e Q q => h H0 e _ fun ws H1 e1 hA => by
  match ws, hA with
  | [w], hA =>
    cases (show w = .int (n : Int) from hA.1)
    refine ⟨n, rfl, by omega, by omega, fun Dl hD => lc_range (lo := 0) (n := (n : Int).toNat) (Cq (List.range n) f G H1 Dl) ⟨hD, Ex.new hD, [], upd_same, trivial⟩ (fun i H' hi p => ?_) (fun H' p => ?_)⟩
    · have hi' : i < n := by omega
      have e0 : (0 : Int) + (i : Int) = (i : Int) := Int.zero_add _
      have hb : (List.range n)[i]? = some i := by simp [hi']
      show wipe ((wipe σ vs).set j (some (.int ((0 : Int) + (i : Int))))) vs = wipe σ vs ∧ _
      rw [e0]
      exact ⟨hw _, cq_turn hG p hb (by simpa using hz) (ht i H' hi' ((e.trans e1).trans p.2.1)) (he i H' hi' ((e.trans e1).trans p.2.1))⟩
    · obtain ⟨p1, p2⟩ := cq_end (K := K) (by simp) p
      exact q _ H' (e1.trans p1) p2
theorem et_yes : EvT tYes σ H true := fun H1 _ Q q => q H1 (Ex.refl H1)
theorem filter_yes (items : List β) : items.filter (fun _ => true) = items := by simp
/-- without an if -/
theorem er_mapT {j : Nat} {vs : List Nat} (items : List β) (S : β → Pr) (G : β → Pr) (h : Er tl σ H (Tup K (items.map S))) (hG : ∀ b, Im (G b)) (hz : items.length ≤ 40000) (hw : ∀ x, wipe ((wipe σ vs).set j (some x)) vs = wipe σ vs)
    (he : ∀ b x H1, b ∈ items → Ex H H1 → (S b).r H1 x → Er te ((wipe σ vs).set j (some x)) H1 (G b)) : Er (tLc (iTup K tl) (gName j) tYes te vs) σ H (Lst K (items.map G)) := by
  have := er_lcT (te := te) items S (fun _ => true) G h hG hz hw (fun b x H1 _ _ _ => et_yes) (fun b x H1 hm e r _ => he b x H1 hm e r)
  rwa [filter_yes] at this
theorem er_mapL {j : Nat} {vs : List Nat} (items : List β) (S : β → Pr) (G : β → Pr) (h : Er tl σ H (Lst K (items.map S))) (hG : ∀ b, Im (G b)) (hz : items.length ≤ 40000) (hw : ∀ x, wipe ((wipe σ vs).set j (some x)) vs = wipe σ vs)
    (he : ∀ b x H1, b ∈ items → Ex H H1 → (S b).r H1 x → Er te ((wipe σ vs).set j (some x)) H1 (G b)) : Er (tLc (iList K tl) (gName j) tYes te vs) σ H (Lst K (items.map G)) := by
  have := er_lcL (te := te) items S (fun _ => true) G h hG hz hw (fun b x H1 _ _ _ => et_yes) (fun b x H1 hm e r _ => he b x H1 hm e r)
  rwa [filter_yes] at this
theorem er_mapR {j : Nat} {vs : List Nat} {n : Nat} (G : Nat → Pr) (h : Ea tr σ H [In (n : Int)]) (hG : ∀ b, Im (G b)) (hz : n ≤ 40000) (hw : ∀ x, wipe ((wipe σ vs).set j (some x)) vs = wipe σ vs)
    (he : ∀ (i : Nat) H1, i < n → Ex H H1 → Er te ((wipe σ vs).set j (some (.int (i : Int)))) H1 (G i)) : Er (tLc (iRng1 tr) (gName j) tYes te vs) σ H (Lst K ((List.range n).map G)) := by
  have := er_lcR (K := K) (te := te) (fun _ => true) G h hG hz hw (fun i H1 _ _ => et_yes) (fun i H1 hi e _ => he i H1 hi e)
  rwa [filter_yes] at this
/-! ### all, any, tuple -/
theorem al_bools {items : List β} {f : β → Bool} {vs : List V} (h : Al (items.map fun b => Bo (f b)) H vs) : vs = (items.map f).map V.bl := by
  have : items.map (fun b => Bo (f b)) = ((items.map f).map V.bl).map Is := by simp [Bo]
  rw [this] at h
  exact Al.isEq h
theorem er_all {items : List β} {f : β → Bool} (h : Er te σ H (Lst K (items.map fun b => Bo (f b)))) : Er (tCB (rAll K) (tCons te tNil)) σ H (Bo (items.all f)) := fun H1 e Q q =>
  h H1 e _ fun v H2 e2 ⟨a, vs, h1, hs, hA⟩ => by
    rw [al_bools hA] at hs
    refine ⟨a, items.map f, by rw [h1], sq_of hs, q _ H2 e2 ?_⟩
    show V.bl _ = V.bl _
    rw [List.all_map]
    rfl
theorem er_any {items : List β} {f : β → Bool} (h : Er te σ H (Lst K (items.map fun b => Bo (f b)))) : Er (tCB (rAny K) (tCons te tNil)) σ H (Bo (items.any f)) := fun H1 e Q q =>
  h H1 e _ fun v H2 e2 ⟨a, vs, h1, hs, hA⟩ => by
    rw [al_bools hA] at hs
    refine ⟨a, items.map f, by rw [h1], sq_of hs, q _ H2 e2 ?_⟩
    show V.bl _ = V.bl _
    rw [List.any_map]
    rfl
def rTupOf (K : PySem.W.Frag) : List V → Hp → VK → Prop := fun xs H Q => ∃ p ys, xs = [.ref p] ∧ ((SqL K H p ys ∧ ∀ l, H l = none → Q (.ref l) (upd H l (.tup ys))) ∨ (SqT K H p ys ∧ Q (.ref p) H))
theorem er_tupL (h : Er te σ H (Lst K Rs)) : Er (tCB (rTupOf K) (tCons te tNil)) σ H (Tup K Rs) := fun H1 e Q q =>
  h H1 e _ fun v H2 e2 ⟨a, vs, h1, hs, hA⟩ => ⟨a, vs, by rw [h1], .inl ⟨sq_of hs, fun l hl => q _ _ (e2.trans (Ex.new hl)) ⟨l, vs, rfl, st_of upd_same, hA.up (Ex.new hl)⟩⟩⟩
theorem er_tupT (h : Er te σ H (Tup K Rs)) : Er (tCB (rTupOf K) (tCons te tNil)) σ H (Tup K Rs) := fun H1 e Q q =>
  h H1 e _ fun v H2 e2 ⟨a, vs, h1, hs, hA⟩ => ⟨a, vs, by rw [h1], .inr ⟨hs, q _ H2 e2 ⟨a, vs, rfl, hs, hA⟩⟩⟩
/-! ### tuples: together, cut -/
theorem er_catT {Ss : List Pr} (ha : Er ta σ H (Tup K Rs)) (hb : Er tb σ H (Tup K Ss)) (hz : Rs.length + Ss.length ≤ 100000) : Er (tOp (rCatA K) ta tb) σ H (Tup K (Rs ++ Ss)) :=
  er_op ha hb fun x y H1 _ r1 r2 Q q => by
    obtain ⟨a, xs, rfl, hs, hA⟩ := r1
    obtain ⟨b, ys, rfl, ht, hB⟩ := r2
    refine ⟨a, b, xs, ys, rfl, rfl, hs, ht, sz_of (by rw [hA.len, hB.len]; exact hz), fun e => ?_, fun _ e => ?_, fun _ _ p hp => ?_⟩
    · refine q _ H1 (Ex.refl H1) ⟨b, ys, rfl, ht, ?_⟩
      subst e
      have := hA.len
      cases Rs with
      | nil => exact hB
      | cons R Rs => cases this
    · refine q _ H1 (Ex.refl H1) ⟨a, xs, rfl, hs, ?_⟩
      subst e
      have := hB.len
      cases Ss with
      | nil => rw [List.append_nil]; exact hA
      | cons R Rs => cases this
    · exact q _ _ (Ex.new hp) ⟨p, _, rfl, st_of upd_same, (hA.app hB).up (Ex.new hp)⟩
def cutN {γ : Type} (xs : List γ) (lo hi : Option Int) : List γ := (xs.drop (HT.sIx xs.length 0 lo)).take (HT.sIx xs.length xs.length hi - HT.sIx xs.length 0 lo)
theorem cutN_map {γ δ : Type} (f : γ → δ) (xs : List γ) (lo hi : Option Int) : cutN (xs.map f) lo hi = (cutN xs lo hi).map f := by
  unfold cutN
  rw [List.length_map, List.map_take, List.map_drop]
theorem cutN_from {γ : Type} (xs : List γ) (k : Nat) : cutN xs (some (k : Int)) none = xs.drop k := by
  unfold cutN
  rw [HT.sIx_nat, HT.sIx_none]
  rcases Nat.le_total k xs.length with h | h
  · rw [Nat.min_eq_left h, List.take_of_length_le (by rw [List.length_drop]; exact Nat.le_refl _)]
  · rw [Nat.min_eq_right h, List.drop_of_length_le h, Nat.sub_self, List.take_zero]
theorem cutN_to {γ : Type} (xs : List γ) (k : Nat) : cutN xs none (some (k : Int)) = xs.take k := by
  unfold cutN
  rw [HT.sIx_nat, HT.sIx_none, List.drop_zero, Nat.sub_zero]
  rcases Nat.le_total k xs.length with h | h
  · rw [Nat.min_eq_left h]
  · rw [Nat.min_eq_right h, List.take_length, List.take_of_length_le h]
theorem al_cut {vs : List V} (lo hi : Option Int) (h : Al Rs H vs) : Al (cutN Rs lo hi) H (cutV vs lo hi) := by
  unfold cutN cutV
  rw [h.len]
  exact (h.drop _).take _
theorem er_slT {t1 t2 : TO} {lo hi : Option Int} (h : Er te σ H (Tup K Rs)) (h1 : EvO t1 σ H lo) (h2 : EvO t2 σ H hi) : Er (tSl (rSlA K) te t1 t2) σ H (Tup K (cutN Rs lo hi)) := fun H1 e Q q =>
  h H1 e _ fun v H2 e2 r => h1 H2 (e.trans e2) _ fun H3 e3 => h2 H3 ((e.trans e2).trans e3) _ fun H4 e4 => by
    obtain ⟨a, xs, e0, hs, hA⟩ := (Tup K Rs).up (e3.trans e4) r
    refine ⟨a, xs, e0, hs, fun e' => q _ H4 ((e2.trans e3).trans e4) ⟨a, xs, rfl, hs, ?_⟩, fun _ p hp => q _ _ (((e2.trans e3).trans e4).trans (Ex.new hp)) ⟨p, _, rfl, st_of upd_same, (al_cut lo hi hA).up (Ex.new hp)⟩⟩
    unfold cutN
    rw [← hA.len, e'.1, e'.2, List.drop_zero, Nat.sub_zero, hA.len, List.take_length]
    exact hA
theorem er_slL {t1 t2 : TO} {lo hi : Option Int} (h : Er te σ H (Lst K Rs)) (h1 : EvO t1 σ H lo) (h2 : EvO t2 σ H hi) : Er (tSl (rSlL K) te t1 t2) σ H (Lst K (cutN Rs lo hi)) := fun H1 e Q q =>
  h H1 e _ fun v H2 e2 r => h1 H2 (e.trans e2) _ fun H3 e3 => h2 H3 ((e.trans e2).trans e3) _ fun H4 e4 => by
    obtain ⟨a, xs, e0, hs, hA⟩ := (Lst K Rs).up (e3.trans e4) r
    exact ⟨a, xs, e0, sq_of hs, fun p hp => q _ _ (((e2.trans e3).trans e4).trans (Ex.new hp)) ⟨p, _, rfl, upd_same, (al_cut lo hi hA).up (Ex.new hp)⟩⟩
theorem eo_R {i : Int} (h : Er te σ H (In i)) : EvO (tPart te) σ H (some i) := eo_some (ev_er h)
theorem er_dropM {te ti : TE} {l : List β} {S : β → Pr} {k : Nat} (h : Er te σ H (Tup K (l.map S))) (h1 : Er ti σ H (In (k : Int))) : Er (tSl (rSlA K) te (tPart ti) tNoPart) σ H (Tup K ((l.drop k).map S)) := by
  have := er_slT h (eo_R h1) eo_none
  rwa [cutN_map, cutN_from] at this
theorem er_takeM {te ti : TE} {l : List β} {S : β → Pr} {k : Nat} (h : Er te σ H (Tup K (l.map S))) (h1 : Er ti σ H (In (k : Int))) : Er (tSl (rSlA K) te tNoPart (tPart ti)) σ H (Tup K ((l.take k).map S)) := by
  have := er_slT h eo_none (eo_R h1)
  rwa [cutN_map, cutN_to] at this
theorem er_catM {ta tb : TE} {l m : List β} {S : β → Pr} (ha : Er ta σ H (Tup K (l.map S))) (hb : Er tb σ H (Tup K (m.map S))) (hz : l.length + m.length ≤ 100000) : Er (tOp (rCatA K) ta tb) σ H (Tup K ((l ++ m).map S)) := by
  have := er_catT ha hb (by rw [List.length_map, List.length_map]; exact hz)
  rwa [← List.map_append] at this
/-! ### stars in a display -/
theorem ea_star (h : Er te σ H (Tup K Rs)) {Ss : List Pr} (hr : Ea tr σ H Ss) : Ea (StX.tStar K te tr) σ H (Rs ++ Ss) := fun H1 e Q q =>
  h H1 e _ fun v H2 e2 ⟨a, xs, h1, hs, hA⟩ => ⟨a, xs, h1, .inl hs, hr H2 (e.trans e2) _ fun ys H3 e3 hB => q _ H3 (e2.trans e3) ((hA.up e3).app hB)⟩
theorem ea_starL (h : Er te σ H (Lst K Rs)) {Ss : List Pr} (hr : Ea tr σ H Ss) : Ea (StX.tStar K te tr) σ H (Rs ++ Ss) := fun H1 e Q q =>
  h H1 e _ fun v H2 e2 ⟨a, xs, h1, hs, hA⟩ => ⟨a, xs, h1, .inr (sq_of hs), hr H2 (e.trans e2) _ fun ys H3 e3 hB => q _ H3 (e2.trans e3) ((hA.up e3).app hB)⟩
/-! ### loops -/
variable {D : Ends} {tu tw tz : TS}
theorem s_forT' {j : Nat} (items : List β) (S : β → Pr) (hS : ∀ b, Im (S b)) (h : Er tl σ H (Tup K (items.map S)))
    (k : ∀ H1, Ex H H1 → ∃ Pv : Nat → L2.St → Hp → Prop, Pv 0 σ H1 ∧ (∀ i σ' H', Pv i σ' H' → Kp H1 H') ∧
      (∀ i b v σ' H', items[i]? = some b → Pv i σ' H' → (S b).r H' v → tu { D with nx := Pv (i + 1), ct := Pv (i + 1), bk := D.nx } (σ'.set j (some v)) H') ∧ (∀ σ' H', Pv items.length σ' H' → D.nx σ' H')) :
    tFor (iTup K tl) (gName j) tu D σ H := h H (Ex.refl H) _ fun v H1 e1 ⟨a, xs, h1, hs, hA⟩ => by
  obtain ⟨Pv, p0, pk, ps, pd⟩ := k H1 e1
  refine ⟨a, h1, ⟨xs, hs⟩, for_tup Pv p0 (fun i σ' H' _ p => kp_t (pk i σ' H' p) hs) (fun i x σ' H' hi p => ?_) (fun σ' H' p => ?_)⟩
  · obtain ⟨b, hb, r⟩ := map_at hA hi
    exact ps i b x σ' H' hb p (hS b (pk i σ' H' p) r)
  · rw [hA.len, List.length_map] at p
    exact pd σ' H' p
theorem q_forT' {j : Nat} (items : List β) (S : β → Pr) (hS : ∀ b, Im (S b)) (h : Er tl σ H (Tup K (items.map S)))
    (k : ∀ H1, Ex H H1 → ∃ Pv : Nat → L2.St → Hp → Prop, Pv 0 σ H1 ∧ (∀ i σ' H', Pv i σ' H' → Kp H1 H') ∧
      (∀ i b v σ' H', items[i]? = some b → Pv i σ' H' → (S b).r H' v → tu { D with nx := Pv (i + 1), ct := Pv (i + 1), bk := tz D } (σ'.set j (some v)) H') ∧ (∀ σ' H', Pv items.length σ' H' → tz D σ' H')) :
    tSeq (tFor (iTup K tl) (gName j) tu) tz D σ H := h H (Ex.refl H) _ fun v H1 e1 ⟨a, xs, h1, hs, hA⟩ => by
  obtain ⟨Pv, p0, pk, ps, pd⟩ := k H1 e1
  refine ⟨a, h1, ⟨xs, hs⟩, for_tup (D := { D with nx := tz D }) Pv p0 (fun i σ' H' _ p => kp_t (pk i σ' H' p) hs) (fun i x σ' H' hi p => ?_) (fun σ' H' p => ?_)⟩
  · obtain ⟨b, hb, r⟩ := map_at hA hi
    exact ps i b x σ' H' hb p (hS b (pk i σ' H' p) r)
  · rw [hA.len, List.length_map] at p
    exact pd σ' H' p
/-- over a list that the turns leave as it is -/
theorem s_forL' {j : Nat} (items : List β) (S : β → Pr) (hS : ∀ b, Im (S b)) (h : Er tl σ H (Lst K (items.map S)))
    (k : ∀ a vs H1, Ex H H1 → H1 a = some (.lst vs) → vs.length = items.length → ∃ Pv : Nat → L2.St → Hp → Prop, Pv 0 σ H1 ∧ (∀ i σ' H', Pv i σ' H' → Kp H1 H' ∧ H' a = some (.lst vs)) ∧
      (∀ i b v σ' H', items[i]? = some b → Pv i σ' H' → (S b).r H' v → tu { D with nx := Pv (i + 1), ct := Pv (i + 1), bk := D.nx } (σ'.set j (some v)) H') ∧ (∀ σ' H', Pv items.length σ' H' → D.nx σ' H')) :
    tFor (iList K tl) (gName j) tu D σ H := h H (Ex.refl H) _ fun v H1 e1 ⟨a, xs, h1, hs, hA⟩ => by
  obtain ⟨Pv, p0, pk, ps, pd⟩ := k a xs H1 e1 hs (by rw [hA.len, List.length_map])
  refine ⟨a, h1, ⟨xs, sq_of hs⟩, for_list Pv p0 (fun i σ' H' _ p => sq_of (pk i σ' H' p).2) (fun i x σ' H' hi p => ?_) (fun σ' H' p => ?_)⟩
  · obtain ⟨b, hb, r⟩ := map_at hA hi
    exact ps i b x σ' H' hb p (hS b (pk i σ' H' p).1 r)
  · rw [hA.len, List.length_map] at p
    exact pd σ' H' p
theorem q_forL' {j : Nat} (items : List β) (S : β → Pr) (hS : ∀ b, Im (S b)) (h : Er tl σ H (Lst K (items.map S)))
    (k : ∀ a vs H1, Ex H H1 → H1 a = some (.lst vs) → vs.length = items.length → ∃ Pv : Nat → L2.St → Hp → Prop, Pv 0 σ H1 ∧ (∀ i σ' H', Pv i σ' H' → Kp H1 H' ∧ H' a = some (.lst vs)) ∧
      (∀ i b v σ' H', items[i]? = some b → Pv i σ' H' → (S b).r H' v → tu { D with nx := Pv (i + 1), ct := Pv (i + 1), bk := tz D } (σ'.set j (some v)) H') ∧ (∀ σ' H', Pv items.length σ' H' → tz D σ' H')) :
    tSeq (tFor (iList K tl) (gName j) tu) tz D σ H := h H (Ex.refl H) _ fun v H1 e1 ⟨a, xs, h1, hs, hA⟩ => by
  obtain ⟨Pv, p0, pk, ps, pd⟩ := k a xs H1 e1 hs (by rw [hA.len, List.length_map])
  refine ⟨a, h1, ⟨xs, sq_of hs⟩, for_list (D := { D with nx := tz D }) Pv p0 (fun i σ' H' _ p => sq_of (pk i σ' H' p).2) (fun i x σ' H' hi p => ?_) (fun σ' H' p => ?_)⟩
  · obtain ⟨b, hb, r⟩ := map_at hA hi
    exact ps i b x σ' H' hb p (hS b (pk i σ' H' p).1 r)
  · rw [hA.len, List.length_map] at p
    exact pd σ' H' p
theorem s_forR' {j : Nat} {n : Nat} (h : Ea tr σ H [In (n : Int)]) (hz : n ≤ 40000)
    (k : ∀ H1, Ex H H1 → ∃ Pv : Nat → L2.St → Hp → Prop, Pv 0 σ H1 ∧ 
      (∀ i σ' H', i < n → Pv i σ' H' → tu { D with nx := Pv (i + 1), ct := Pv (i + 1), bk := D.nx } (σ'.set j (some (.int (i : Int)))) H') ∧ (∀ σ' H', Pv n σ' H' → D.nx σ' H')) :
    tFor (iRng1 tr) (gName j) tu D σ H := h H (Ex.refl H) _ fun ws H1 e1 hA => by
  match ws, hA with
  | [w], hA =>
    cases (show w = .int (n : Int) from hA.1)
    obtain ⟨Pv, p0, ps, pd⟩ := k H1 e1
    refine ⟨n, rfl, by omega, by omega, for_range (lo := 0) (n := (n : Int).toNat) Pv p0 (fun i σ' H' hi p => ?_) (fun σ' H' p => pd σ' H' p)⟩
    have e0 : (0 : Int) + (i : Int) = (i : Int) := Int.zero_add _
    show tu { D with nx := Pv (i + 1), ct := Pv (i + 1), bk := D.nx } (σ'.set j (some (.int ((0 : Int) + (i : Int))))) H'
    rw [e0]
    exact ps i σ' H' (by omega) p
theorem q_forR' {j : Nat} {n : Nat} (h : Ea tr σ H [In (n : Int)]) (hz : n ≤ 40000)
    (k : ∀ H1, Ex H H1 → ∃ Pv : Nat → L2.St → Hp → Prop, Pv 0 σ H1 ∧ 
      (∀ i σ' H', i < n → Pv i σ' H' → tu { D with nx := Pv (i + 1), ct := Pv (i + 1), bk := tz D } (σ'.set j (some (.int (i : Int)))) H') ∧ (∀ σ' H', Pv n σ' H' → tz D σ' H')) :
    tSeq (tFor (iRng1 tr) (gName j) tu) tz D σ H := h H (Ex.refl H) _ fun ws H1 e1 hA => by
  match ws, hA with
  | [w], hA =>
    cases (show w = .int (n : Int) from hA.1)
    obtain ⟨Pv, p0, ps, pd⟩ := k H1 e1
    refine ⟨n, rfl, by omega, by omega, for_range (D := { D with nx := tz D }) (lo := 0) (n := (n : Int).toNat) Pv p0 (fun i σ' H' hi p => ?_) (fun σ' H' p => pd σ' H' p)⟩
    have e0 : (0 : Int) + (i : Int) = (i : Int) := Int.zero_add _
    show tu { D with nx := Pv (i + 1), ct := Pv (i + 1), bk := tz D } (σ'.set j (some (.int ((0 : Int) + (i : Int))))) H'
    rw [e0]
    exact ps i σ' H' (by omega) p
/-- xs.extend(a tuple) -/
theorem s_ext {l : Addr} {xs : List V} (hl : H l = some (.lst xs)) (ha : Er ta σ H (Is (.ref l))) (h : Er te σ H (Tup K Rs)) (hz : xs.length + Rs.length ≤ 100000) (k : ∀ vs H1, Ex H H1 → Al Rs H1 vs → D.nx σ (upd H1 l (.lst (xs ++ vs)))) :
    tDrop (tBM K "list" (rExtT K) ta (tCons te tNil)) D σ H := ha H (Ex.refl H) _ fun x H1 e1 hx => by
  cases (show x = _ from hx)
  exact ⟨Or.inl ⟨rfl, xs, sq_of (e1 l _ hl)⟩, h H1 e1 _ fun v H2 e2 r => by
    obtain ⟨b, vs, rfl, hs, hA⟩ := r
    exact ⟨l, b, xs, vs, rfl, rfl, e2 l _ (e1 l _ hl), hs, sz_of (by rw [hA.len]; exact hz), k vs H2 (e1.trans e2) hA⟩⟩
end
end K54
/-! KA: the law's program, its names; plain.py, and words.py's is_log, begun, is_part. -/
set_option Elab.async false
set_option linter.all false
set_option maxRecDepth 100000
set_option maxHeartbeats 4000000
namespace K54
open PySem PySem.W PySem.Calls PyProof.Rows L2 Evl
abbrev sT (i : Nat) : Stmt := top i
def clsAt (s : Stmt) (j : Nat) : Stmt := match s with
  | .ClassDef (body := b) .. => b.getD j (.Pass ⟨0, 0, 0, 0⟩)
  | _ => .Pass ⟨0, 0, 0, 0⟩
abbrev sM (i j : Nat) : Stmt := clsAt (top i) j
/-- a global text -/
structure GS (mg : Str → Option Value) (x v : Str) : Prop where
  ex : ∃ t, mg x = some (.str v t)
/-- what the program's text knows of its module -/
structure Txt (K : PySem.W.Frag) (mg : Str → Option Value) : Prop where
  len : mg "len" = none
  all : mg "all" = none
  any : mg "any" = none
  tuple : mg "tuple" = none
  list : mg "list" = none
  set : mg "set" = none
  sorted : mg "sorted" = none
  range : mg "range" = none
  int : mg "int" = none
  abs : mg "abs" = none
  max : mg "max" = none
  min : mg "min" = none
  enumerate : mg "enumerate" = none
  zip : mg "zip" = none
  str : mg "str" = none
  bool : mg "bool" = none
  isinstance : mg "isinstance" = none
  g_LETTERS : GS mg "LETTERS" "abcdefghijklmnopqrstuvwxyz"
  g_SEEN : GS mg "SEEN" "seen"
  g_NOTHING_rules : GS mg "NOTHING_rules" "1"
  g_NEVER_rules : GS mg "NEVER_rules" "0"
  g_THEN : GS mg "THEN" ">>"
  g_BOTH : GS mg "BOTH" "&"
  g_EITHER : GS mg "EITHER" "|"
  g_TIMES : GS mg "TIMES" "*"
  g_NEVER_texts : GS mg "NEVER_texts" "0"
  g_NOTHING_texts : GS mg "NOTHING_texts" "1"
  g_BLANK : GS mg "BLANK" " "
  g_DIGITS : GS mg "DIGITS" "0123456789"
  g_ALWAYS : ∃ a, mg "ALWAYS" = some (.ref a) ∧ ∀ H, (LogsP K [[]]).r H (.ref a)
  g_SIGNS : ∃ a, mg "SIGNS" = some (.ref a) ∧ (∃ o, K.lookup a = some o ∧ o.cls = .type "tuple" ∧ o.dict = none) ∧ ∀ H, SqT K H a ((["|", "&", ">>"] : List Str).map V.str)
  g_MOST : ∃ t, mg "MOST" = some (.int 8 t)
section
variable {X : Cx} {σ : L2.St} {H : Hp} {K : PySem.W.Frag}
theorem pe_gs {x v : Str} {pos : Pos} (g : GS X.mg x v) (hg : Gl X x := by rfl) (hd : (x == ("__debug__" : Str)) = false := by decide) : PE X (.Name x pos) (tC (.str v)) := by
  obtain ⟨t, h⟩ := g.ex
  exact pe_glob hg h ⟨t, rfl⟩ hd
/-! ### the layer's rules with K written out (within a comprehension the context's own K is no closed term) -/
theorem kLen (K : PySem.W.Frag) (h : X.K = K) : CallR X (.builtin "len") (Evl.rLenS K) := by subst h; exact call_len_seq
theorem kAll (K : PySem.W.Frag) (hc : X.calm = true) (h : X.K = K) : CallR X (.builtin "all") (rAll K) := by subst h; exact cr_all hc
theorem kAny (K : PySem.W.Frag) (hc : X.calm = true) (h : X.K = K) : CallR X (.builtin "any") (rAny K) := by subst h; exact cr_any hc
theorem kTupleOf (K : PySem.W.Frag) (h : X.K = K) : CallR X (.type "tuple") (rTupOf K) := by subst h; exact call_tuple_of
def rLstOf (K : PySem.W.Frag) : List V → Hp → VK → Prop := fun xs H Q => ∃ p ys, xs = [.ref p] ∧ (SqL K H p ys ∨ SqT K H p ys) ∧ ∀ l, H l = none → Q (.ref l) (upd H l (.lst ys))
theorem kListOf (K : PySem.W.Frag) (h : X.K = K) : CallR X (.type "list") (rLstOf K) := by subst h; exact call_list_of
theorem kSet (K : PySem.W.Frag) (P : Program) (w : World) (hc : X.calm = true) (hu : X.A.units + 64 < cLine) (h : X.K = K) (hP : X.prog = P) (hw : X.w = w) : CallR X (.type "set") (rSetN K P w) := by subst h hP hw; exact cr_setN hc hu
theorem kSort (K : PySem.W.Frag) (P : Program) (w : World) (hc : X.calm = true) (hu : X.A.units + 64 < cLine) (h : X.K = K) (hP : X.prog = P) (hw : X.w = w) : CallR X (.builtin "sorted") (rSortN K P w) := by subst h hP hw; exact cr_sortN hc hu
theorem kIsi (K : PySem.W.Frag) (h : X.K = K) : CallR X (.builtin "isinstance") (rIsi K) := by subst h; exact call_isi
theorem kIsiT (K : PySem.W.Frag) (h : X.K = K) : CallR X (.builtin "isinstance") (rIsiT K) := by subst h; exact call_isiT
theorem kIxT (K : PySem.W.Frag) (h : X.K = K) : IxR X (rIxT K) := by subst h; exact ix_tup
theorem kIxL (K : PySem.W.Frag) (h : X.K = K) : IxR X (rIxL K) := by subst h; exact ix_list
theorem kSlT (K : PySem.W.Frag) (h : X.K = K) : SlR X (rSlA K) := by subst h; exact sl_tupA
theorem kSlL (K : PySem.W.Frag) (h : X.K = K) : SlR X (rSlL K) := by subst h; exact sl_list
theorem kCatT (K : PySem.W.Frag) (h : X.K = K) : OpR X (binaryOp .Add) (rCatA K) := by subst h; exact op_catA
theorem kIn (K : PySem.W.Frag) (h : X.K = K) : OpR X (compareOp .In) (rIn K false) := by subst h; exact op_in_seq
theorem kNotIn (K : PySem.W.Frag) (h : X.K = K) : OpR X (compareOp .NotIn) (rIn K true) := by subst h; exact op_notIn_seq
theorem kEqD (K : PySem.W.Frag) (hu : X.A.units + 64 < cLine) (h : X.K = K) : OpR X (compareOp .Eq) (rEqD K) := by subst h; exact op_eqD hu
theorem kNeD (K : PySem.W.Frag) (hu : X.A.units + 64 < cLine) (h : X.K = K) : OpR X (compareOp .NotEq) (rNeD K) := by subst h; exact op_neD hu
theorem kPiT (K : PySem.W.Frag) {tg l : Expr} {tl : TE} (h : X.K = K) (hl : PE X l tl) : PI X tg l (iTup K tl) := by subst h; exact pi_tup hl
theorem kPiL (K : PySem.W.Frag) {tg l : Expr} {tl : TE} (h : X.K = K) (hl : PE X l tl) : PI X tg l (iList K tl) := by subst h; exact pi_list hl
theorem kStar (K : PySem.W.Frag) {e : Expr} {es : List Expr} {p : Pos} {te : TE} {t : TA} (h : X.K = K) (he : PE X e te) (hr : PA X es t) (hs : starEach (.Starred e p :: es) X.env = (true, eval e X.env) :: starEach es X.env := by rfl) : PA X (.Starred e p :: es) (StX.tStar K te t) := by
  subst h
  exact StX.pa_star he hr hs
/-- a comprehension over a text -/
theorem er_mapS {ts te : TE} {j : Nat} {vs : List Nat} {z : Str} (G : Nat → Pr) (h : Er ts σ H (Sy z)) (hG : ∀ b, Im (G b)) (hz : z.cps.size ≤ 40000) (hw : ∀ x, wipe ((wipe σ vs).set j (some x)) vs = wipe σ vs)
    (he : ∀ c H1, c ∈ z.cps.toList → Ex H H1 → Er te ((wipe σ vs).set j (some (.str ⟨#[c]⟩))) H1 (G c)) : Er (tLc (iStr ts) (gName j) tYes te vs) σ H (Lst K (z.cps.toList.map G)) := fun H0 e Q q => h H0 e _ fun v H1 e1 r => by
  cases (show v = .str z from r)
  refine ⟨z, rfl, fun Dl hD => lc_it walk_str (Cq z.cps.toList (fun _ => true) G H1 Dl) ⟨hD, Ex.new hD, [], upd_same, trivial⟩ (fun _ _ _ _ => trivial) (fun i x H' H2 hi p y => ?_) (fun H' p => ?_)⟩
  · obtain ⟨e2, c, hc, rfl⟩ := y
    subst e2
    have hb : z.cps.toList[i]? = some c := by simpa using hc
    exact ⟨hw _, cq_turn hG p hb (by simpa using hz) et_yes fun _ => he c H2 (List.mem_of_getElem? hb) ((e.trans e1).trans p.2.1)⟩
  · obtain ⟨p1, p2⟩ := cq_end (K := K) (by simp) p
    rw [filter_yes] at p2
    exact q _ H' (e1.trans p1) p2
def rInS : R2 := fun x y H Q => ∃ (c : Nat) (z : Str), x = .str ⟨#[c]⟩ ∧ y = .str z ∧ Q (.bl (decide (c ∈ z.cps.toList))) H
theorem er_inS {ta tb : TE} {c : Nat} {z : Str} (ha : Er ta σ H (Sy ⟨#[c]⟩)) (hb : Er tb σ H (Sy z)) : Er (tOp rInS ta tb) σ H (Bo (decide (c ∈ z.cps.toList))) :=
  er_op ha hb fun x y H1 _ h1 h2 Q q => by
    cases (show x = _ from h1)
    cases (show y = _ from h2)
    exact ⟨c, z, rfl, rfl, q _ H1 (Ex.refl H1) rfl⟩
def rLenT : List V → Hp → VK → Prop := fun xs H Q => ∃ z, xs = [.str z] ∧ z.length ≤ sizeLine ∧ Q (.int z.length) H
theorem er_lenS {ta : TE} {z : Str} (ha : Er ta σ H (Sy z)) (hz : z.length ≤ 100000) : Er (tCB rLenT (tCons ta tNil)) σ H (In (z.length : Int)) := fun H1 e Q q =>
  ha H1 e _ fun x H2 e2 h => by
    cases (show x = _ from h)
    exact ⟨z, rfl, sz_of hz, q _ H2 e2 rfl⟩
theorem er_chainI {r r' : R2} {ta tb tc : TE} {x y z : V} {b c : Bool} (ha : Er ta σ H (Is x)) (hb : Er tb σ H (Is y)) (hc : Er tc σ H (Is z)) (h1 : ∀ H1 Q, Q (.bl b) H1 → r x y H1 Q) (h2 : ∀ H1 Q, Q (.bl c) H1 → r' y z H1 Q) :
    Er (tChain r r' ta tb tc) σ H (Bo (b && c)) := fun H1 e Q q => ha H1 e _ fun x' H2 e2 r1 => hb H2 (e.trans e2) _ fun y' H3 e3 r2 => by
  cases (show x' = _ from r1)
  cases (show y' = _ from r2)
  refine h1 H3 _ ⟨b, rfl, ?_⟩
  cases b with
  | false => exact q _ H3 (e2.trans e3) rfl
  | true =>
    refine hc H3 ((e.trans e2).trans e3) _ fun z' H4 e4 r3 => ?_
    cases (show z' = _ from r3)
    exact h2 H4 Q (q _ H4 ((e2.trans e3).trans e4) rfl)
theorem er_andV {ta tb : TE} {a b : Bool} (h1 : Er ta σ H (Bo a)) (h2 : a = true → Er tb σ H (Bo b)) : Er (tAndV ta tb) σ H (Bo (a && b)) := er_ev (ev_andV (ev_er h1) fun e => ev_er (h2 e))
theorem er_notV {ta : TE} {a : Bool} (h1 : Er ta σ H (Bo a)) : Er (tNotV ta) σ H (Bo (!a)) := er_ev (ev_notV (ev_er h1))
theorem er_lt {ta tb : TE} {i j : Int} (ha : Er ta σ H (In i)) (hb : Er tb σ H (In j)) : Er (tOp (rI0 fun i j => .bl (decide (i < j))) ta tb) σ H (Bo (decide (i < j))) := er_I0 (g := fun i j => .bl (decide (i < j))) ha hb
theorem er_le {ta tb : TE} {i j : Int} (ha : Er ta σ H (In i)) (hb : Er tb σ H (In j)) : Er (tOp (rI0 fun i j => .bl (decide (i ≤ j))) ta tb) σ H (Bo (decide (i ≤ j))) := er_I0 (g := fun i j => .bl (decide (i ≤ j))) ha hb
theorem er_gt {ta tb : TE} {i j : Int} (ha : Er ta σ H (In i)) (hb : Er tb σ H (In j)) : Er (tOp (rI0 fun i j => .bl (decide (j < i))) ta tb) σ H (Bo (decide (j < i))) := er_I0 (g := fun i j => .bl (decide (j < i))) ha hb
theorem er_ge {ta tb : TE} {i j : Int} (ha : Er ta σ H (In i)) (hb : Er tb σ H (In j)) : Er (tOp (rI0 fun i j => .bl (decide (j ≤ i))) ta tb) σ H (Bo (decide (j ≤ i))) := er_I0 (g := fun i j => .bl (decide (j ≤ i))) ha hb
theorem er_add {ta tb : TE} {i j : Int} (ha : Er ta σ H (In i)) (hb : Er tb σ H (In j)) : Er (tOp (rI0 fun i j => .int (i + j)) ta tb) σ H (In (i + j)) := er_I0 (g := fun i j => .int (i + j)) ha hb
theorem er_sub {ta tb : TE} {i j : Int} (ha : Er ta σ H (In i)) (hb : Er tb σ H (In j)) : Er (tOp (rI0 fun i j => .int (i - j)) ta tb) σ H (In (i - j)) := er_I0 (g := fun i j => .int (i - j)) ha hb
theorem er_lenM {β : Type} {te : TE} {l : List β} {S : β → Pr} (h : Er te σ H (Tup K (l.map S))) : Er (tCB (Evl.rLenS K) (tCons te tNil)) σ H (In (l.length : Int)) := by
  have := er_lenT h
  rwa [List.length_map] at this
theorem er_lenN {β : Type} {te : TE} {l : List β} {S : β → Pr} (h : Er te σ H (Lst K (l.map S))) : Er (tCB (Evl.rLenS K) (tCons te tNil)) σ H (In (l.length : Int)) := by
  have := er_lenL h
  rwa [List.length_map] at this
theorem er_ixM {β : Type} {ta tb : TE} {l : List β} {S : β → Pr} {i : Nat} {b : β} (ha : Er ta σ H (Tup K (l.map S))) (hb : Er tb σ H (In (i : Int))) (h : l[i]? = some b) : Er (tOp (rIxT K) ta tb) σ H (S b) :=
  er_ixT ha hb (by rw [List.getElem?_map, h]; rfl)
theorem er_ixN {β : Type} {ta tb : TE} {l : List β} {S : β → Pr} {i : Nat} {b : β} (ha : Er ta σ H (Lst K (l.map S))) (hb : Er tb σ H (In (i : Int))) (h : l[i]? = some b) : Er (tOp (rIxL K) ta tb) σ H (S b) :=
  er_ixL ha hb (by rw [List.getElem?_map, h]; rfl)
/-- isinstance(x, T) -/
def TyP (K : PySem.W.Frag) (R : Pr) (t : Value) : Prop := ∀ H v, R.r H v → TyX K H v t
theorem ty_sy {x : Str} : TyP K (Sy x) (.type "str") := fun H v h => by
  cases (show v = _ from h)
  exact .base (.str x)
theorem ty_t {H : Hp} {a : Addr} {xs : List V} (h : SqT K H a xs) : TyX K H (.ref a) (.type "tuple") := by
  rcases h with (h | ⟨o, h⟩) | ⟨o, its, n, h, hc, _⟩
  · exact .base (.tup h)
  · exact .fTuple h
  · exact .kTuple h hc
theorem ty_l {H : Hp} {a : Addr} {xs : List V} (h : SqL K H a xs) : TyX K H (.ref a) (.type "list") := by
  rcases h with (h | ⟨o, h⟩) | ⟨o, its, n, h, hc, _⟩
  · exact .base (.lst h)
  · exact .base (.frz h)
  · exact .kList h hc
theorem ty_tup {Rs : List Pr} : TyP K (Tup K Rs) (.type "tuple") := fun H v ⟨a, vs, e, hs, _⟩ => by
  subst e
  exact ty_t hs
theorem ty_lst {Rs : List Pr} : TyP K (Lst K Rs) (.type "list") := fun H v ⟨a, vs, e, hs, _⟩ => by
  subst e
  exact ty_l (sq_of hs)
theorem er_isi {ta : TE} {R : Pr} {t : Value} {n : String} {b : Bool} (ha : Er ta σ H R) (ht : TyP K R t) (hk : PySem.W.kitOne K t (.type n) = some b) : Er (tCB (rIsi K) (tCons ta (tCons (tC (.ty n)) tNil))) σ H (Bo b) := fun H1 e Q q =>
  ha H1 e _ fun x H2 e2 r => ⟨x, .ty n, t, .type n, b, rfl, .ty n, ht H2 x r, hk, q _ H2 e2 rfl⟩
theorem er_isiT {ta : TE} {R : Pr} {t : Value} {n m : String} {b : Bool} (ha : Er ta σ H R) (ht : TyP K R t) (hk : PySem.W.kitAny K t [.type n, .type m] = some b) : Er (tCB (rIsiT K) (tCons ta (tCons (tTup (tCons (tC (.ty n)) (tCons (tC (.ty m)) tNil))) tNil))) σ H (Bo b) := fun H1 e Q q =>
  ha H1 e _ fun x H2 e2 r => ⟨sz_of (show 2 ≤ 100000 by decide), fun p hp => ⟨x, p, [.ty n, .ty m], t, [.type n, .type m], b, rfl, upd_same, .cons (.ty n) (.cons (.ty m) .nil), ht _ x (R.up (Ex.new hp) r), hk, q _ _ (e2.trans (Ex.new hp)) rfl⟩⟩
end
theorem kit_str {K : PySem.W.Frag} : PySem.W.kitOne K (.type "str") (.type "str") = some true := kit_ty (by decide +kernel)
theorem kit_tt {K : PySem.W.Frag} : PySem.W.kitOne K (.type "tuple") (.type "tuple") = some true := kit_ty (by decide +kernel)
theorem kit_lt {K : PySem.W.Frag} : PySem.W.kitAny K (.type "list") [.type "list", .type "tuple"] = some true := kitAny_cons (b := true) (kit_ty (by decide +kernel)) (fun h => by cases h) fun _ => rfl
theorem kit_tlt {K : PySem.W.Frag} : PySem.W.kitAny K (.type "tuple") [.type "list", .type "tuple"] = some true :=
  kitAny_cons (b := false) (kit_ty (by decide +kernel)) (fun _ => kitAny_cons (b := true) (kit_ty (by decide +kernel)) (fun h => by cases h) fun _ => rfl) fun h => by cases h
theorem kit_slt {K : PySem.W.Frag} : PySem.W.kitAny K (.type "str") [.type "list", .type "tuple"] = some false :=
  kitAny_cons (b := false) (kit_ty (by decide +kernel)) (fun _ => kitAny_cons (b := false) (kit_ty (by decide +kernel)) (fun _ => kitAny_nil) fun h => by cases h) fun h => by cases h
theorem isLet_in (c : Nat) : decide (c ∈ ("abcdefghijklmnopqrstuvwxyz" : Str).cps.toList) = isLet c := by
  have : ("abcdefghijklmnopqrstuvwxyz" : Str).cps.toList = [97, 98, 99, 100, 101, 102, 103, 104, 105, 106, 107, 108, 109, 110, 111, 112, 113, 114, 115, 116, 117, 118, 119, 120, 121, 122] := by decide +kernel
  rw [this]
  unfold isLet
  rw [decide_eq_decide]
  simp only [List.mem_cons, List.not_mem_nil, or_false]
  omega
end K54
/-! KB: plain.py, words.py's begun -/
set_option Elab.async false
set_option linter.all false
set_option maxRecDepth 100000
set_option maxHeartbeats 400000
namespace K54
open PySem PySem.W PySem.Calls PyProof.Rows L2 Evl
section
variable {P : Program} {w : World} {K : PySem.W.Frag} {mg : Str → Option Value} {base : Heap}
/-! ### is_name -/
theorem sc_is_name : FnScope ["value", "sign"] ["value"] (defScope (sT 6)) := ⟨rfl, rfl, rfl, by decide +kernel, rfl, by decide +kernel, by decide +kernel⟩
abbrev spIsName (K : PySem.W.Frag) : Sp := spF (fun x : Str => x.length ≤ 40000) (fun x => [Sy x]) (fun x => Bo (nameOk x.cps.toList))
theorem cl_is_name (T : Txt K mg) (F : DefAt K mg "is_name" (sT 6)) : Cl P w K mg base "is_name" ["value"] 1 (spIsName K) := by
  refine cl_of F sc_is_name (fun _ _ _ _ _ _ us hl => match us, hl with | [_], _ => rfl) (fun _ => rfl) fun f cdv A outer s H E x vs hr hp hA => ?_
  refine ⟨_, (pss_one (ps_ret (pe_and (pe_callB (kIsi K rfl) (by rfl) T.isinstance (by decide +kernel) (pa_cons (pv 0) (pa_cons (pe_bltn (v := .ty "str") (u := .type "str") (by rfl) T.str (by decide +kernel) rfl) pa_nil))) (pe_and (pe_chain op_le op_le pe_int (pe_callB call_len_str (by rfl) T.len (by decide +kernel) (pa_cons (pv 0) pa_nil)) pe_int) (pe_one (pe_callB (kAll K rfl rfl) (by rfl) T.all (by decide +kernel) (pa_cons (pe_lc (own := [("sign", 1)]) (g := gName 1) (tt := tYes) (by rfl) sc_is_name.nd (pi_str (pv 0)) (blkOk_by (own := [("sign", 1)]) (N := ["value", "sign"]) (sc := defScope (sT 6)) (by decide +kernel)) (fun _ _ _ _ _ => (pg_name (i := 1) sc_is_name.nd rfl (by first | exact Or.inl rfl | exact Or.inr rfl))) (fun _ _ _ _ _ => pts_nil) (fun _ _ _ _ _ => (pe_cmpR op_in_sign (pv 1) (pe_gs T.g_LETTERS) (by rfl)))) pa_nil))))))), fun Q q => ?_⟩
  · obtain ⟨v, rfl, h⟩ := al1 hA
    cases (show v = .str x from h)
    have hv : Er (tVar 0) (start ["value", "sign"] [.str x]) H (Sy x) := er_var rfl rfl
    have e2 : (true && ((decide ((1 : Int) ≤ x.length) && decide ((x.length : Int) ≤ 8)) && x.cps.toList.all isLet)) = nameOk x.cps.toList := by
      unfold nameOk
      rw [Bool.true_and]
      congr 1
      rw [Bool.eq_iff_iff, Bool.and_eq_true, decide_eq_true_eq, decide_eq_true_eq, decide_eq_true_eq]
      show ((1 : Int) ≤ (x.cps.size : Nat) ∧ ((x.cps.size : Nat) : Int) ≤ 8) ↔ _
      rw [Array.length_toList]
      omega
    rw [← e2] at q
    refine s_retR (er_andV (er_isi hv ty_sy kit_str) fun _ => er_andV (er_chainI (b := decide ((1 : Int) ≤ x.length)) (c := decide ((x.length : Int) ≤ 8)) er_is (er_lenS hv (Nat.le_trans hp (by decide))) er_is (fun H1 Q q => ⟨_, _, rfl, rfl, q⟩) (fun H1 Q q => ⟨_, _, rfl, rfl, q⟩)) fun _ =>
      er_all (f := isLet) (er_mapS (fun c => Bo (isLet c)) hv (fun _ => im_is) hp (fun _ => rfl) fun c H1 _ _ => by
        rw [← isLet_in c]
        exact er_inS (er_var (i := 1) rfl rfl) er_is)) q
/-! ### checked_name: of a name -/
theorem sc_checked_name : FnScope ["value"] ["value"] (defScope (sT 7)) := ⟨rfl, rfl, rfl, by decide +kernel, rfl, by decide +kernel, by decide +kernel⟩
abbrev spChecked (K : PySem.W.Frag) : Sp := spF (fun x : Str => nameOk x.cps.toList = true) (fun x => [Sy x]) (fun x => Sy x)
theorem name_len {x : Str} (h : nameOk x.cps.toList = true) : x.length ≤ 8 := by
  unfold nameOk at h
  rw [Bool.and_eq_true, decide_eq_true_eq, Array.length_toList] at h
  exact h.1.2
theorem cl_checked_name (c_is_name : Cl P w K mg base "is_name" ["value"] 1 (spIsName K)) (F : DefAt K mg "checked_name" (sT 7)) : Cl P w K mg base "checked_name" ["value"] 2 (spChecked K) := by
  refine cl_of F sc_checked_name (fun _ _ _ _ _ _ us hl => match us, hl with | [_], _ => rfl) (fun _ => rfl) fun f cdv A outer s H E x vs hr hp hA => ?_
  refine ⟨_, (pss_cons (ps_if (pt_not (pt_val (pe_cl c_is_name (hr.mono (by first | decide | omega)) (pa_cons (pv 0) pa_nil)))) (pss_one ps_never) pss_nil) (pss_one (ps_ret (pv 0)))), fun Q q => ?_⟩
  · obtain ⟨v, rfl, h⟩ := al1 hA
    cases (show v = .str x from h)
    refine q_when (b := !nameOk x.cps.toList) (et_not (et_BR (er_call x (Nat.le_trans (name_len hp) (by decide)) (ea_1 (er_var rfl rfl))))) (fun h => ?_) (fun _ H1 e => s_retR (er_var rfl rfl) fun v H2 e2 r => q v H2 (e.trans e2) r)
    rw [hp] at h
    cases h
/-! ### begun, is_part -/
theorem sc_begun : FnScope ["word", "log", "many", "name"] ["word", "log"] (defScope (sT 11)) := ⟨rfl, rfl, rfl, by decide +kernel, rfl, by decide +kernel, by decide +kernel⟩
abbrev spBegun (K : PySem.W.Frag) : Sp := spF (fun p : Log × Log => True) (fun p => [LogP K p.1, LogP K p.2]) (fun p => In (begunF p.1 0 p.2 : Nat))
theorem begun_snoc {w : List Str} {y : Str} : ∀ (l : List Str) (m : Nat), begunF w m (l ++ [y]) = if w[begunF w m l]? = some y then begunF w m l + 1 else begunF w m l
  | [], m => rfl
  | x :: l, m => begun_snoc l _
theorem cl_begun (T : Txt K mg) (F : DefAt K mg "begun" (sT 11)) : Cl P w K mg base "begun" ["word", "log"] 1 (spBegun K) := by
  refine cl_of F sc_begun (fun _ _ _ _ _ _ us hl => match us, hl with | [_, _], _ => rfl) (fun _ => rfl) fun f cdv A outer s H E p vs hr hp hA => ?_
  obtain ⟨wd, lg⟩ := p
  refine ⟨_, (pss_cons (ps_set (i := 2) sc_begun.nd rfl (by first | exact Or.inl rfl | exact Or.inr rfl) pe_int) (pss_cons (ps_for PassesOwn.never rfl (kPiT K rfl (pv 1)) (pg_name (i := 3) sc_begun.nd rfl (by first | exact Or.inl rfl | exact Or.inr rfl)) (pss_one (ps_if (PW.pt (pw_and (pt_cmpR op_lt (pv 2) (pe_callB (kLen K rfl) (by rfl) T.len (by decide +kernel) (pa_cons (pv 0) pa_nil)) (nomark _)) (pw_and1 (pt_cmpR op_eq (pe_ix (kIxT K rfl) (pv 0) (pv 2) (fun _ _ => rfl)) (pv 3) (nomark _))))) (pss_one (ps_aug (i := 2) sc_begun.nd rfl (Or.inl rfl) pe_int ip_add)) pss_nil))) (pss_one (ps_ret (pv 2))))), fun Q q => ?_⟩
  · obtain ⟨v1, v2, rfl, h1, h2⟩ := al2 hA
    refine q_asgR (R := In 0) er_is fun v H1 ex1 r1 => ?_
    cases (show v = _ from r1)
    refine q_forT' (K := K) lg Sy (fun _ => im_sy) (er_var rfl ((LogP K lg).up ex1 h2)) fun H2 ex2 => ?_
    refine ⟨fun i σ' H' => Ex H2 H' ∧ ∃ y, σ' = [some v1, some v2, some (.int (begunF wd 0 (lg.take i) : Nat)), y], ⟨Ex.refl H2, none, rfl⟩, fun i σ' H' hx => kp_ex hx.1, fun i b v σ' H' hb hx hv => ?_, fun σ' H' hx => ?_⟩
    · obtain ⟨ex0, y, rfl⟩ := hx
      have ex := (ex1.trans ex2).trans ex0
      cases (show v = .str b from hv)
      have hm : begunF wd 0 (lg.take i) ≤ wd.length := begunF_le wd _ 0 (Nat.zero_le _)
      have ht : begunF wd 0 (lg.take (i + 1)) = if wd[begunF wd 0 (lg.take i)]? = some b then begunF wd 0 (lg.take i) + 1 else begunF wd 0 (lg.take i) := by
        rw [List.take_add_one, hb]
        exact begun_snoc _ _
      generalize begunF wd 0 (lg.take i) = m at hm ht
      show tIfS _ _ _ _ [some v1, some v2, some (.int (m : Nat)), some (.str b)] H'
      have hv1 : Er (tVar 0) [some v1, some v2, some (.int (m : Nat)), some (.str b)] H' (LogP K wd) := er_var rfl ((LogP K wd).up ex h1)
      have hv2 : Er (tVar 2) [some v1, some v2, some (.int (m : Nat)), some (.str b)] H' (In (m : Nat)) := er_var rfl rfl
      have hv3 : Er (tVar 3) [some v1, some v2, some (.int (m : Nat)), some (.str b)] H' (Sy b) := er_var rfl rfl
      refine s_if (b := decide (((m : Nat) : Int) < (wd.length : Nat)) && decide (wd[m]? = some b)) (et_and (et_testR (er_lt hv2 (er_lenM hv1))) fun hlt => ?_) (fun hb2 H3 e2 => ?_) (fun hb2 H3 e2 => ?_)
      · have hlt' : m < wd.length := by
          have := of_decide_eq_true hlt
          omega
        have hg : wd[m]? = some wd[m] := List.getElem?_eq_getElem hlt'
        rw [show decide (wd[m]? = some b) = decide (wd[m] = b) by rw [hg]; simp]
        exact et_testR (er_eqS (er_ixM hv1 hv2 hg) hv3)
      · rw [Bool.and_eq_true, decide_eq_true_eq, decide_eq_true_eq] at hb2
        refine ⟨_, rfl, _, _, rfl, rfl, ex0.trans e2, some (.str b), ?_⟩
        rw [ht, if_pos hb2.2]
        rfl
      · refine ⟨ex0.trans e2, some (.str b), ?_⟩
        rw [ht, if_neg fun e => ?_]
        have : m < wd.length := (List.getElem?_eq_some_iff.mp e).1
        rw [e, Bool.and_eq_false_iff] at hb2
        rcases hb2 with z | z
        · have := of_decide_eq_false z
          omega
        · exact of_decide_eq_false z rfl
    · obtain ⟨ex, y, rfl⟩ := hx
      rw [List.take_length]
      exact s_retR (er_var rfl rfl) fun v H3 e2 r => q v H3 (((ex1.trans ex2).trans ex).trans e2) r
/-! ### is_part -/
theorem sc_is_part : FnScope ["word", "log"] ["word", "log"] (defScope (sT 12)) := ⟨rfl, rfl, rfl, by decide +kernel, rfl, by decide +kernel, by decide +kernel⟩
abbrev spIsPart (K : PySem.W.Frag) : Sp := spF (fun p : Log × Log => True) (fun p => [LogP K p.1, LogP K p.2]) (fun p => Bo (isPart p.1 p.2))
theorem cl_is_part (T : Txt K mg) (c_begun : Cl P w K mg base "begun" ["word", "log"] 1 (spBegun K)) (F : DefAt K mg "is_part" (sT 12)) : Cl P w K mg base "is_part" ["word", "log"] 2 (spIsPart K) := by
  refine cl_of F sc_is_part (fun _ _ _ _ _ _ us hl => match us, hl with | [_, _], _ => rfl) (fun _ => rfl) fun f cdv A outer s H E p vs hr hp hA => ?_
  obtain ⟨wd, lg⟩ := p
  refine ⟨_, (pss_one (ps_ret (pe_cmpR op_eq (pe_cl c_begun (hr.mono (by first | decide | omega)) (pa_cons (pv 0) (pa_cons (pv 1) pa_nil))) (pe_callB (kLen K rfl) (by rfl) T.len (by decide +kernel) (pa_cons (pv 0) pa_nil)) (nomark _)))), fun Q q => ?_⟩
  obtain ⟨v1, v2, rfl, h1, h2⟩ := al2 hA
  refine s_retR (er_eqI (er_call (wd, lg) trivial (ea_2 (er_var rfl h1) (er_var rfl h2))) (er_lenM (er_var rfl h1))) ?_
  rw [show decide (((begunF wd 0 lg : Nat) : Int) = (wd.length : Nat)) = isPart wd lg by
    unfold isPart
    rw [Bool.eq_iff_iff, decide_eq_true_eq, beq_iff_eq]
    omega]
  exact q
end
end K54
/-! KC: words.py's in_order, least_of, led_by; plain.py's tupled. -/
set_option Elab.async false
set_option linter.all false
set_option maxRecDepth 100000
set_option maxHeartbeats 400000
namespace K54
open PySem PySem.W PySem.Calls PyProof.Rows L2 Evl
def SeqP (K : PySem.W.Frag) (isL : Bool) (Rs : List Pr) : Pr := if isL = true then Lst K Rs else Tup K Rs
def PairP (K : PySem.W.Frag) (l : Log) : Pr := Tup K [In (l.length : Int), LogP K l]
theorem im_pair {K : PySem.W.Frag} {l : Log} : Im (PairP K l) := im_tup fun R hR => by
  rcases List.mem_cons.mp hR with e | hR
  · subst e; exact im_is
  · rcases List.mem_cons.mp hR with e | hR
    · subst e; exact im_log
    · cases hR
theorem is_all {H : Hp} {l : Log} {vs : List V} (h : Al (l.map Sy) H vs) : vs = l.map V.str := by
  have e : l.map Sy = (l.map V.str).map Is := by rw [List.map_map]; rfl
  rw [e] at h
  exact Al.isEq h
theorem log_at {K : PySem.W.Frag} {H : Hp} {l : Log} {v : V} (h : (LogP K l).r H v) : ∃ a, v = .ref a ∧ SqT K H a (l.map V.str) := by
  obtain ⟨a, vs, e, hs, hA⟩ := h
  rw [is_all hA] at hs
  exact ⟨a, e, hs⟩
theorem at_log {K : PySem.W.Frag} {H : Hp} {l : Log} {a : Addr} (h : SqT K H a (l.map V.str)) : (LogP K l).r H (.ref a) := by
  refine ⟨a, _, rfl, h, ?_⟩
  rw [show l.map Sy = (l.map V.str).map Is by rw [List.map_map]; rfl]
  exact Al.is _
theorem pair_at {K : PySem.W.Frag} {H : Hp} {l : Log} {v : V} (h : (PairP K l).r H v) : PairAt K H v l := by
  obtain ⟨a, vs, e, hs, hA⟩ := h
  obtain ⟨x, y, e2, r1, r2⟩ := al2 hA
  obtain ⟨b, e3, hb⟩ := log_at r2
  cases (show x = _ from r1)
  subst e2 e3
  exact ⟨a, b, e, hs, hb⟩
theorem at_pair {K : PySem.W.Frag} {H : Hp} {l : Log} {v : V} (h : PairAt K H v l) : (PairP K l).r H v := by
  obtain ⟨a, b, e, hs, hb⟩ := h
  exact ⟨a, _, e, hs, rfl, at_log hb, trivial⟩
theorem pairs_ks {K : PySem.W.Frag} {H : Hp} : ∀ {ls : List Log} {vs : List V}, Al (ls.map (PairP K)) H vs → ∃ ks : List PL, vs = (ks.map fun p => V.ref p.1) ∧ ks.map (·.2) = ls ∧ ∀ p ∈ ks, PairAt K H (.ref p.1) p.2
  | [], [], _ => ⟨[], rfl, rfl, fun p hp => by cases hp⟩
  | l :: ls, v :: vs, h => by
    obtain ⟨ks, e1, e2, e3⟩ := pairs_ks h.2
    have hp := pair_at h.1
    obtain ⟨a, b, e, _⟩ := id hp
    subst e
    refine ⟨(a, l) :: ks, by rw [e1]; rfl, by rw [List.map_cons, e2], fun p hq => ?_⟩
    rcases List.mem_cons.mp hq with e | hq
    · subst e; exact hp
    · exact e3 p hq
  | [], _ :: _, h => h.elim
  | _ :: _, [], h => h.elim
theorem ks_pairs {K : PySem.W.Frag} {H : Hp} : ∀ {ks : List PL}, (∀ p ∈ ks, PairAt K H (.ref p.1) p.2) → Al ((ks.map (·.2)).map (PairP K)) H (ks.map fun p => V.ref p.1)
  | [], _ => trivial
  | p :: ks, h => ⟨at_pair (h p (List.mem_cons_self ..)), ks_pairs fun q hq => h q (List.mem_cons_of_mem _ hq)⟩
theorem pairAt_up {K : PySem.W.Frag} {H H' : Hp} {v : V} {l : Log} (e : Ex H H') (h : PairAt K H v l) : PairAt K H' v l := pair_at ((PairP K l).up e (at_pair h))
section
variable {X : Cx} {σ : L2.St} {H : Hp} {K : PySem.W.Frag} {P : Program} {w : World}
theorem er_sorted {te : TE} {ls : List Log} (h : Er te σ H (Lst K (ls.map (PairP K)))) (hz : ls.length < 64) : Er (tCB (rSortN K P w) (tCons (tCB (rSetN K P w) (tCons te tNil)) tNil)) σ H (Lst K ((inOrder logO ls).map (PairP K))) := fun H1 e Q q =>
  h H1 e _ fun v H2 e2 r => by
    obtain ⟨l, vs, e3, hs, hA⟩ := r
    subst e3
    obtain ⟨ks, e4, e5, hk⟩ := pairs_ks hA
    subst e4
    refine ⟨l, ks, rfl, sq_of hs, hk, by rw [← List.length_map (f := (·.2)), e5]; exact hz, fun a L ha hL1 hL2 => ?_⟩
    have ex3 : Ex H2 (upd H2 a (SetNO P w a L)) := Ex.new ha
    refine ⟨a, L, rfl, upd_same, fun p hp => pairAt_up ex3 (hk p (hL1 p hp)), fun L' p hp hs hf hn => ?_⟩
    have ex4 : Ex (upd H2 a (SetNO P w a L)) (upd (upd H2 a (SetNO P w a L)) p (.lst (L'.map fun q => V.ref q.1))) := Ex.new hn
    have eL : L'.map (·.2) = inOrder logO ls := srt_ext hs (srt_inOrder ls) fun z => by
      rw [mem_inOrder, ← e5]
      constructor
      · intro hz
        obtain ⟨y, hy, e⟩ := List.mem_map.mp hz
        exact List.mem_map.mpr ⟨y, hL1 y (hp.mem_iff.mp hy), e⟩
      · intro hz
        obtain ⟨y, hy, e⟩ := List.mem_map.mp hz
        have := hL2 y hy
        rw [← e]
        obtain ⟨x, hx, e'⟩ := List.mem_map.mp this
        exact List.mem_map.mpr ⟨x, hp.mem_iff.mpr hx, e'⟩
    refine q _ _ ((e2.trans ex3).trans ex4) ⟨p, _, rfl, upd_same, ?_⟩
    rw [← eL]
    exact ks_pairs fun x hx => pairAt_up (ex3.trans ex4) (hk x (hL1 x (hp.mem_iff.mp hx)))
/-- over pairs -/
theorem er_lcP {β : Type} {tl te : TE} {j1 j2 : Nat} {vs : List Nat} (items : List β) (S1 S2 : β → Pr) (G : β → Pr) (h : Er tl σ H (Lst K (items.map fun b => Tup K [S1 b, S2 b]))) (hG : ∀ b, Im (G b)) (hz : items.length ≤ 40000)
    (hw : ∀ x y, wipe (((wipe σ vs).set j1 (some x)).set j2 (some y)) vs = wipe σ vs)
    (he : ∀ b x y H1, b ∈ items → Ex H H1 → (S1 b).r H1 x → (S2 b).r H1 y → Er te (((wipe σ vs).set j1 (some x)).set j2 (some y)) H1 (G b)) :
    Er (tLc (iList K tl) (gTup K 2 (gCons (gName j1) (gCons (gName j2) gNil))) tYes te vs) σ H (Lst K (items.map G)) := fun H0 e Q q => h H0 e _ fun v H1 e1 ⟨a, xs, h1, hs, hA⟩ => ⟨a, h1, ⟨xs, sq_of hs⟩, fun Dl hD =>
  lc_list (xs := xs) (Cq items (fun _ => true) G H1 Dl) ⟨hD, Ex.new hD, [], upd_same, trivial⟩ (fun i H' _ p => ex_l p.2.1 (sq_of hs)) (fun i x H' hi p => by
    obtain ⟨b, hb, r⟩ := map_at (hA.up p.2.1) hi
    have hm := List.mem_of_getElem? hb
    obtain ⟨t, ws, e3, ht, hB⟩ := r
    obtain ⟨x1, x2, e4, r1, r2⟩ := al2 hB
    subst e3 e4
    exact ⟨t, [x1, x2], rfl, ht, rfl, x1, [x2], rfl, x2, [], rfl, rfl, hw x1 x2, cq_turn hG p hb hz et_yes fun _ => he b x1 x2 H' hm ((e.trans e1).trans p.2.1) r1 r2⟩)
    (fun H' p => by
      have hl : xs.length = items.length := by rw [hA.len, List.length_map]
      obtain ⟨p1, p2⟩ := cq_end (K := K) hl p
      rw [filter_yes] at p2
      exact q _ H' (e1.trans p1) p2)⟩
end
section
variable {P : Program} {w : World} {K : PySem.W.Frag} {mg : Str → Option Value} {base : Heap}
/-! ### in_order: of a list or of a tuple -/
theorem sc_in_order : FnScope ["logs", "size", "log"] ["logs"] (defScope (sT 13)) := ⟨rfl, rfl, rfl, by decide +kernel, rfl, by decide +kernel, by decide +kernel⟩
abbrev spInOrder (K : PySem.W.Frag) : Sp := spF (fun p : Bool × List Log => p.2.length < 64) (fun p => [SeqP K p.1 (p.2.map (LogP K))]) (fun p => LogsL K (inOrder logO p.2))
theorem cl_in_order (T : Txt K mg) (F : DefAt K mg "in_order" (sT 13)) : Cl P w K mg base "in_order" ["logs"] 1 (spInOrder K) := by
  refine cl_of F sc_in_order (fun _ _ _ _ _ _ us hl => match us, hl with | [_], _ => rfl) (fun _ => rfl) fun f cdv A outer s H E p vs hr hp hA => ?_
  obtain ⟨isL, ls⟩ := p
  obtain ⟨v, rfl, h⟩ := al1 hA
  have hlen : (inOrder logO ls).length ≤ 40000 := Nat.le_trans (inOrder_len ls) (by have : ls.length < 64 := hp; omega)
  have hlen2 : ls.length ≤ 40000 := by have : ls.length < 64 := hp; omega
  cases isL with
  | true =>
    refine ⟨_, (pss_one (ps_ret (pe_lc (own := [("size", 1), ("log", 2)]) (g := gTup K 2 (gCons (gName 1) (gCons (gName 2) gNil))) (tt := tYes) (by rfl) sc_in_order.nd (kPiL K rfl (pe_callB (kSort K P w rfl hr.units rfl rfl rfl) (by rfl) T.sorted (by decide +kernel) (pa_cons (pe_callTy (kSet K P w rfl hr.units rfl rfl rfl) (by rfl) T.set (by decide +kernel) (pa_cons (pe_lc (own := [("log", 2)]) (g := gName 2) (tt := tYes) (by rfl) sc_in_order.nd (kPiL K rfl (pv 0)) (blkOk_by (own := [("log", 2)]) (N := ["logs", "size", "log"]) (sc := defScope (sT 13)) (by decide +kernel)) (fun _ _ _ _ _ => (pg_name (i := 2) sc_in_order.nd rfl (by first | exact Or.inl rfl | exact Or.inr rfl))) (fun _ _ _ _ _ => pts_nil) (fun _ _ _ _ _ => (pe_tup (pa_cons (pe_callB (kLen K rfl) (by rfl) T.len (by decide +kernel) (pa_cons (pv 2) pa_nil)) (pa_cons (pv 2) pa_nil))))) pa_nil)) pa_nil))) (blkOk_by (own := [("size", 1), ("log", 2)]) (N := ["logs", "size", "log"]) (sc := defScope (sT 13)) (by decide +kernel)) (fun _ _ _ _ _ => (pg_tup (by rfl) (pgs_cons (pg_name (i := 1) sc_in_order.nd rfl (by first | exact Or.inl rfl | exact Or.inr rfl)) (pgs_cons (pg_name (i := 2) sc_in_order.nd rfl (by first | exact Or.inl rfl | exact Or.inr rfl)) pgs_nil)))) (fun _ _ _ _ _ => pts_nil) (fun _ _ _ _ _ => (pv 2))))), fun Q q => ?_⟩
    have hv : Er (tVar 0) (start ["logs", "size", "log"] [v]) H (Lst K (ls.map (LogP K))) := er_var rfl h
    refine s_retR (er_lcP (inOrder logO ls) (fun l => In (l.length : Int)) (LogP K) (LogP K) (er_sorted (er_mapL ls (LogP K) (PairP K) hv (fun _ => im_pair) hlen2 (fun _ => rfl) fun b x H1 _ _ hb =>
      er_tup (ea_2 (er_lenM (er_var rfl hb)) (er_var rfl hb)) (by show 2 ≤ 100000; decide)) hp) (fun _ => im_log) hlen (fun _ _ => rfl) fun b x y H1 _ _ _ hy => er_var rfl hy) q
  | false =>
    refine ⟨_, (pss_one (ps_ret (pe_lc (own := [("size", 1), ("log", 2)]) (g := gTup K 2 (gCons (gName 1) (gCons (gName 2) gNil))) (tt := tYes) (by rfl) sc_in_order.nd (kPiL K rfl (pe_callB (kSort K P w rfl hr.units rfl rfl rfl) (by rfl) T.sorted (by decide +kernel) (pa_cons (pe_callTy (kSet K P w rfl hr.units rfl rfl rfl) (by rfl) T.set (by decide +kernel) (pa_cons (pe_lc (own := [("log", 2)]) (g := gName 2) (tt := tYes) (by rfl) sc_in_order.nd (kPiT K rfl (pv 0)) (blkOk_by (own := [("log", 2)]) (N := ["logs", "size", "log"]) (sc := defScope (sT 13)) (by decide +kernel)) (fun _ _ _ _ _ => (pg_name (i := 2) sc_in_order.nd rfl (by first | exact Or.inl rfl | exact Or.inr rfl))) (fun _ _ _ _ _ => pts_nil) (fun _ _ _ _ _ => (pe_tup (pa_cons (pe_callB (kLen K rfl) (by rfl) T.len (by decide +kernel) (pa_cons (pv 2) pa_nil)) (pa_cons (pv 2) pa_nil))))) pa_nil)) pa_nil))) (blkOk_by (own := [("size", 1), ("log", 2)]) (N := ["logs", "size", "log"]) (sc := defScope (sT 13)) (by decide +kernel)) (fun _ _ _ _ _ => (pg_tup (by rfl) (pgs_cons (pg_name (i := 1) sc_in_order.nd rfl (by first | exact Or.inl rfl | exact Or.inr rfl)) (pgs_cons (pg_name (i := 2) sc_in_order.nd rfl (by first | exact Or.inl rfl | exact Or.inr rfl)) pgs_nil)))) (fun _ _ _ _ _ => pts_nil) (fun _ _ _ _ _ => (pv 2))))), fun Q q => ?_⟩
    have hv : Er (tVar 0) (start ["logs", "size", "log"] [v]) H (Tup K (ls.map (LogP K))) := er_var rfl h
    refine s_retR (er_lcP (inOrder logO ls) (fun l => In (l.length : Int)) (LogP K) (LogP K) (er_sorted (er_mapT ls (LogP K) (PairP K) hv (fun _ => im_pair) hlen2 (fun _ => rfl) fun b x H1 _ _ hb =>
      er_tup (ea_2 (er_lenM (er_var rfl hb)) (er_var rfl hb)) (by show 2 ≤ 100000; decide)) hp) (fun _ => im_log) hlen (fun _ _ => rfl) fun b x y H1 _ _ _ hy => er_var rfl hy) q
/-! ### least_of -/
theorem sqL_ne {H H' : Hp} {a p : Addr} {vs ws : List V} (h : H a = some (.lst vs)) (hp : H p = some (.lst ws)) (hne : vs ≠ ws) (k : ∀ b o, b ≠ p → H b = some o → H' b = some o) : H' a = some (.lst vs) := by
  refine k _ _ ?_ h
  rintro rfl
  rw [hp] at h
  exact hne (by cases h; rfl)
theorem foldl_take {β γ : Type} {f : γ → β → γ} {z : γ} {l : List β} {i : Nat} {b : β} (h : l[i]? = some b) : (l.take (i + 1)).foldl f z = f ((l.take i).foldl f z) b := by
  rw [List.take_add_one, h, List.foldl_append]
  rfl
theorem sc_least_of : FnScope ["logs", "found", "log", "word"] ["logs"] (defScope (sT 14)) := ⟨rfl, rfl, rfl, by decide +kernel, rfl, by decide +kernel, by decide +kernel⟩
abbrev spLeastOf (K : PySem.W.Frag) : Sp := spF (fun p : Bool × List Log => p.2.length < 64) (fun p => [SeqP K p.1 (p.2.map (LogP K))]) (fun p => LogsP K (leastOf logO p.2))
theorem least1_len (acc : List Log) (b : Log) : (least1 acc b).length ≤ acc.length + 1 := by
  unfold least1
  split
  · omega
  · rw [List.length_append]; exact Nat.le_refl _
theorem fold_len : ∀ (l : List Log) (acc : List Log), (l.foldl least1 acc).length ≤ acc.length + l.length
  | [], acc => Nat.le_refl _
  | b :: l, acc => by
    have h1 := fold_len l (least1 acc b)
    have h2 := least1_len acc b
    rw [List.foldl_cons, List.length_cons]
    omega
theorem cl_least_of (T : Txt K mg) (c_is_part : Cl P w K mg base "is_part" ["word", "log"] 2 (spIsPart K)) (c_in_order : Cl P w K mg base "in_order" ["logs"] 1 (spInOrder K)) (F : DefAt K mg "least_of" (sT 14)) : Cl P w K mg base "least_of" ["logs"] 3 (spLeastOf K) := by
  refine cl_of F sc_least_of (fun _ _ _ _ _ _ us hl => match us, hl with | [_], _ => rfl) (fun _ => rfl) fun f cdv A outer s H E p vs hr hp hA => ?_
  obtain ⟨isL, ls⟩ := p
  obtain ⟨v, rfl, h⟩ := al1 hA
  have hz : ls.length < 64 := hp
  have hlen : (inOrder logO ls).length < 64 := Nat.lt_of_le_of_lt (inOrder_len ls) hz
  refine ⟨_, (pss_cons (ps_set (i := 1) sc_least_of.nd rfl (by first | exact Or.inl rfl | exact Or.inr rfl) (pe_lst pa_nil)) (pss_cons (ps_for PassesOwn.never rfl (kPiL K rfl (pe_cl c_in_order (hr.mono (by first | decide | omega)) (pa_cons (pv 0) pa_nil))) (pg_name (i := 2) sc_least_of.nd rfl (by first | exact Or.inl rfl | exact Or.inr rfl)) (pss_one (ps_if (pt_not (pt_val (pe_callB (kAny K rfl rfl) (by rfl) T.any (by decide +kernel) (pa_cons (pe_lc (own := [("word", 3)]) (g := gName 3) (tt := tYes) (by rfl) sc_least_of.nd (kPiL K rfl (pv 1)) (blkOk_by (own := [("word", 3)]) (N := ["logs", "found", "log", "word"]) (sc := defScope (sT 14)) (by decide +kernel)) (fun _ _ _ _ _ => (pg_name (i := 3) sc_least_of.nd rfl (by first | exact Or.inl rfl | exact Or.inr rfl))) (fun _ _ _ _ _ => pts_nil) (fun _ _ _ _ _ => (pe_cl c_is_part (hr.mono (by first | decide | omega)) (pa_cons (pv 3) (pa_cons (pv 2) pa_nil))))) pa_nil)))) (pss_one (ps_expr (pe_bm PySem.F.plainAttrs_list PySem.F.slot_list_append PySem.F.type_list_append mt_append (pv 1) (pa_cons (pv 2) pa_nil)))) pss_nil))) (pss_one (ps_ret (pe_callTy (kTupleOf K rfl) (by rfl) T.tuple (by decide +kernel) (pa_cons (pv 1) pa_nil)))))), fun Q q => ?_⟩
  refine q_asgL (el_lst ea_nil (by show 0 ≤ 100000; decide)) fun p H1 hp1 ex1 hl1 => ?_
  refine q_forL' (inOrder logO ls) (LogP K) (fun _ => im_log) (er_call (isL, ls) hz (ea_1 (er_var rfl ((SeqP K isL _).up ex1 h)))) fun a xs H2 ex2 hs hxl => ?_
  have hp2 : H2 p = some (.lst []) := ex2 p _ hl1
  refine ⟨fun i σ' H' => Ex H H' ∧ Kp H2 H' ∧ H' a = some (.lst xs) ∧ (∀ b o, b ≠ p → H2 b = some o → H' b = some o) ∧ (∃ y z, σ' = [some v, some (.ref p), y, z]) ∧ ∃ ws, H' p = some (.lst ws) ∧ Al ((((inOrder logO ls).take i).foldl least1 []).map (LogP K)) H' ws, ?_, fun i σ' H' hx => ⟨hx.2.1, hx.2.2.1⟩, fun i b u σ' H' hb hx hu => ?_, fun σ' H' hx => ?_⟩
  · exact ⟨ex1.trans ex2, Kp.refl H2, hs, fun _ _ _ e => e, ⟨none, none, rfl⟩, [], hp2, trivial⟩
  · obtain ⟨ex, kp, sl, kq, ⟨y, z, rfl⟩, ws, hw, hA2⟩ := hx
    have hacc : (((inOrder logO ls).take i).foldl least1 []).length ≤ 64 := by
      have h1 := fold_len ((inOrder logO ls).take i) []
      rw [List.length_take, List.length_nil] at h1
      omega
    have hfold := foldl_take (f := least1) (z := []) hb
    generalize ((inOrder logO ls).take i).foldl least1 [] = acc at hA2 hacc hfold
    have hne : xs ≠ [] := by
      rintro rfl
      rw [List.eq_nil_of_length_eq_zero hxl.symm] at hb
      cases hb
    show tIfS _ _ _ _ [some v, some (.ref p), some u, z] H'
    have hf : Er (tVar 1) [some v, some (.ref p), some u, z] H' (LogsL K acc) := er_var rfl ⟨p, ws, rfl, hw, hA2⟩
    refine s_if (b := !acc.any fun w => isPart w b) (et_not (et_BR (er_any (er_mapL acc (LogP K) (fun w => Bo (isPart w b)) hf (fun _ => im_is) (by omega) (fun _ => rfl) fun c x H3 _ e3 hc => er_call (c, b) trivial (ea_2 (er_var rfl hc) (er_var rfl ((LogP K b).up e3 hu))))))) (fun hb2 H3 e3 => ?_) (fun hb2 H3 e3 => ?_)
    · refine s_app (K := K) (e3 p _ hw) (ev_var rfl) (ev_var rfl) (by have := hA2.len; rw [List.length_map] at this; omega) fun H4 e4 => ?_
      have e34 := e3.trans e4
      have hp4 := e34 p _ hw
      have ea : least1 acc b = acc ++ [b] := by
        unfold least1
        rw [if_neg (by simpa using hb2)]
      refine ⟨Ex.mut (ex.trans e34) hp1, kp_mut (kp.trans (kp_ex e34)) hp4 rfl, ?_, fun c o hc e => ?_, ⟨some u, z, rfl⟩, _, upd_same, ?_⟩
      · exact sqL_ne hs hp2 hne fun c o hc e => by
          rw [upd_ne hc]
          exact e34 c o (kq c o hc e)
      · rw [upd_ne hc]
        exact e34 c o (kq c o hc e)
      · rw [hfold, ea, List.map_append]
        exact ((hA2.up e34).app (show Al ([b].map (LogP K)) H4 [u] from ⟨(LogP K b).up e34 hu, trivial⟩)).kp (kp_mut (Kp.refl H4) hp4 rfl) (by rw [← List.map_append]; exact iml_map fun _ => im_log)
    · have ea : least1 acc b = acc := by
        unfold least1
        rw [if_pos (by simpa using hb2)]
      exact ⟨ex.trans e3, kp.trans (kp_ex e3), e3 _ _ sl, fun c o hc e => e3 c o (kq c o hc e), ⟨some u, z, rfl⟩, ws, e3 p _ hw, by rw [hfold, ea]; exact hA2.up e3⟩
  · obtain ⟨ex, kp, sl, kq, ⟨y, z, rfl⟩, ws, hw, hA2⟩ := hx
    rw [List.take_length] at hA2
    exact s_retR (er_tupL (er_var rfl ⟨p, ws, rfl, hw, hA2⟩)) fun u H3 e3 r => q u H3 (ex.trans e3) r
/-! ### led_by: of a tuple of logs -/
theorem sc_led_by : FnScope ["name", "logs", "log"] ["name", "logs"] (defScope (sT 15)) := ⟨rfl, rfl, rfl, by decide +kernel, rfl, by decide +kernel, by decide +kernel⟩
abbrev spLedBy (K : PySem.W.Frag) : Sp := spF (fun p : Str × List Log => p.2.length ≤ 1000 ∧ ∀ l ∈ p.2, l.length ≤ 1000) (fun p => [Sy p.1, LogsP K p.2]) (fun p => LogsL K (p.2.map (p.1 :: ·)))
theorem cl_led_by (T : Txt K mg) (F : DefAt K mg "led_by" (sT 15)) : Cl P w K mg base "led_by" ["name", "logs"] 1 (spLedBy K) := by
  refine cl_of F sc_led_by (fun _ _ _ _ _ _ us hl => match us, hl with | [_, _], _ => rfl) (fun _ => rfl) fun f cdv A outer s H E p vs hr hp hA => ?_
  obtain ⟨n, ls⟩ := p
  obtain ⟨v1, v2, rfl, h1, h2⟩ := al2 hA
  cases (show v1 = .str n from h1)
  refine ⟨_, (pss_one (ps_ret (pe_lc (own := [("log", 2)]) (g := gName 2) (tt := tYes) (by rfl) sc_led_by.nd (kPiT K rfl (pv 1)) (blkOk_by (own := [("log", 2)]) (N := ["name", "logs", "log"]) (sc := defScope (sT 15)) (by decide +kernel)) (fun _ _ _ _ _ => (pg_name (i := 2) sc_led_by.nd rfl (by first | exact Or.inl rfl | exact Or.inr rfl))) (fun _ _ _ _ _ => pts_nil) (fun _ _ _ _ _ => (pe_tup (pa_cons (pv 0) (kStar K rfl (pv 2) pa_nil))))))), fun Q q => ?_⟩
  refine s_retR (R := LogsL K (ls.map (n :: ·))) ?_ q
  unfold LogsL
  rw [List.map_map]
  refine er_mapT ls (LogP K) (LogP K ∘ (n :: ·)) (er_var rfl h2) (fun _ => im_log) (Nat.le_trans hp.1 (by decide)) (fun _ => rfl) fun b x H1 hb e1 hx => ?_
  show Er _ _ H1 (Tup K ((n :: b).map Sy))
  rw [show (n :: b).map Sy = Sy n :: (b.map Sy ++ []) by simp]
  exact er_tup (ea_consR (er_var rfl rfl) (ea_star (er_var rfl hx) ea_nilR)) (by have := hp.2 b hb; simp only [List.length_cons, List.length_append, List.length_map, List.length_nil]; omega)
/-! ### tupled -/
/-- what tupled makes of a thing, by the depth -/
inductive Tpd (K : PySem.W.Frag) : Nat → Pr → Pr → Prop where
  | txt (n : Nat) (x : Str) : Tpd K (n + 1) (Sy x) (Sy x)
  | seq (n : Nat) (isL : Bool) {β : Type} (items : List β) (S S' : β → Pr) (h : ∀ b ∈ items, Tpd K n (S b) (S' b)) (hi : ∀ b, Im (S' b)) (hz : items.length ≤ 40000) : Tpd K (n + 1) (SeqP K isL (items.map S)) (Tup K (items.map S'))
abbrev spTupled (K : PySem.W.Frag) (n : Nat) : Sp := spF (fun p : Pr × Pr => Tpd K n p.1 p.2) (fun p => [p.1]) (fun p => p.2)
theorem tpd_name {n : Nat} {x : Str} : Tpd K (n + 1) (Sy x) (Sy x) := .txt n x
theorem tpd_log {n : Nat} {l : Log} {isL : Bool} (hz : l.length ≤ 40000) : Tpd K (n + 2) (SeqP K isL (l.map Sy)) (LogP K l) := .seq _ isL l Sy Sy (fun x _ => .txt n x) (fun _ => im_sy) hz
theorem tpd_logs {n : Nat} {ls : List Log} {isL : Bool} (hz : ls.length ≤ 40000) (hl : ∀ l ∈ ls, l.length ≤ 40000) : Tpd K (n + 3) (SeqP K isL (ls.map (LogP K))) (LogsP K ls) :=
  .seq _ isL ls (LogP K) (LogP K) (fun l h => tpd_log (isL := false) (hl l h)) (fun _ => im_log) hz
theorem sc_tupled : FnScope ["value", "part"] ["value"] (defScope (sT 8)) := ⟨rfl, rfl, rfl, by decide +kernel, rfl, by decide +kernel, by decide +kernel⟩
theorem cl_tupled (T : Txt K mg) (F : DefAt K mg "tupled" (sT 8)) : ∀ n, Cl P w K mg base "tupled" ["value"] (n + 1) (spTupled K n)
  | 0 => by
    refine cl_of F sc_tupled (fun _ _ _ _ _ _ us hl => match us, hl with | [_], _ => rfl) (fun _ => rfl) fun f cdv A outer s H E p vs hr hp hA => ?_
    cases hp
  | n + 1 => by
    have c_tupled := cl_tupled T F n
    refine cl_of F sc_tupled (fun _ _ _ _ _ _ us hl => match us, hl with | [_], _ => rfl) (fun _ => rfl) fun f cdv A outer s H E p vs hr hp hA => ?_
    obtain ⟨R, R'⟩ := p
    obtain ⟨v, rfl, h⟩ := al1 hA
    have hp' : Tpd K (n + 1) R R' := hp
    cases hp' with
    | txt _ x =>
      refine ⟨_, (pss_one (ps_ret (pe_ifExp (pt_val (pe_callB (kIsiT K rfl) (by rfl) T.isinstance (by decide +kernel) (pa_cons (pv 0) (pa_cons (pe_tup (pa_cons (pe_bltn (v := .ty "list") (u := .type "list") (by rfl) T.list (by decide +kernel) rfl) (pa_cons (pe_bltn (v := .ty "tuple") (u := .type "tuple") (by rfl) T.tuple (by decide +kernel) rfl) pa_nil))) pa_nil)))) (pe_callTy (kTupleOf K rfl) (by rfl) T.tuple (by decide +kernel) (pa_cons (pe_lc (own := [("part", 1)]) (g := gName 1) (tt := tYes) (by rfl) sc_tupled.nd (kPiT K rfl (pv 0)) (blkOk_by (own := [("part", 1)]) (N := ["value", "part"]) (sc := defScope (sT 8)) (by decide +kernel)) (fun _ _ _ _ _ => (pg_name (i := 1) sc_tupled.nd rfl (by first | exact Or.inl rfl | exact Or.inr rfl))) (fun _ _ _ _ _ => pts_nil) (fun _ _ _ _ _ => (pe_cl c_tupled hr (pa_cons (pv 1) pa_nil)))) pa_nil)) (pv 0)))), fun Q q => ?_⟩
      exact s_retR (er_if (et_BR (er_isiT (er_var rfl h) ty_sy kit_slt)) (fun z => by cases z) fun _ => er_var rfl h) q
    | seq _ isL items S S' h1 h2 h3 =>
      cases isL with
      | true =>
        refine ⟨_, (pss_one (ps_ret (pe_ifExp (pt_val (pe_callB (kIsiT K rfl) (by rfl) T.isinstance (by decide +kernel) (pa_cons (pv 0) (pa_cons (pe_tup (pa_cons (pe_bltn (v := .ty "list") (u := .type "list") (by rfl) T.list (by decide +kernel) rfl) (pa_cons (pe_bltn (v := .ty "tuple") (u := .type "tuple") (by rfl) T.tuple (by decide +kernel) rfl) pa_nil))) pa_nil)))) (pe_callTy (kTupleOf K rfl) (by rfl) T.tuple (by decide +kernel) (pa_cons (pe_lc (own := [("part", 1)]) (g := gName 1) (tt := tYes) (by rfl) sc_tupled.nd (kPiL K rfl (pv 0)) (blkOk_by (own := [("part", 1)]) (N := ["value", "part"]) (sc := defScope (sT 8)) (by decide +kernel)) (fun _ _ _ _ _ => (pg_name (i := 1) sc_tupled.nd rfl (by first | exact Or.inl rfl | exact Or.inr rfl))) (fun _ _ _ _ _ => pts_nil) (fun _ _ _ _ _ => (pe_cl c_tupled hr (pa_cons (pv 1) pa_nil)))) pa_nil)) (pv 0)))), fun Q q => ?_⟩
        exact s_retR (er_if (et_BR (er_isiT (er_var (R := Lst K (items.map S)) rfl h) ty_lst kit_lt)) (fun _ => er_tupL (er_mapL items S S' (er_var rfl h) h2 h3 (fun _ => rfl) fun b x H1 hb _ hx => er_call (S b, S' b) (h1 b hb) (ea_1 (er_var rfl hx)))) fun z => by cases z) q
      | false =>
        refine ⟨_, (pss_one (ps_ret (pe_ifExp (pt_val (pe_callB (kIsiT K rfl) (by rfl) T.isinstance (by decide +kernel) (pa_cons (pv 0) (pa_cons (pe_tup (pa_cons (pe_bltn (v := .ty "list") (u := .type "list") (by rfl) T.list (by decide +kernel) rfl) (pa_cons (pe_bltn (v := .ty "tuple") (u := .type "tuple") (by rfl) T.tuple (by decide +kernel) rfl) pa_nil))) pa_nil)))) (pe_callTy (kTupleOf K rfl) (by rfl) T.tuple (by decide +kernel) (pa_cons (pe_lc (own := [("part", 1)]) (g := gName 1) (tt := tYes) (by rfl) sc_tupled.nd (kPiT K rfl (pv 0)) (blkOk_by (own := [("part", 1)]) (N := ["value", "part"]) (sc := defScope (sT 8)) (by decide +kernel)) (fun _ _ _ _ _ => (pg_name (i := 1) sc_tupled.nd rfl (by first | exact Or.inl rfl | exact Or.inr rfl))) (fun _ _ _ _ _ => pts_nil) (fun _ _ _ _ _ => (pe_cl c_tupled hr (pa_cons (pv 1) pa_nil)))) pa_nil)) (pv 0)))), fun Q q => ?_⟩
        exact s_retR (er_if (et_BR (er_isiT (er_var (R := Tup K (items.map S)) rfl h) ty_tup kit_tlt)) (fun _ => er_tupL (er_mapT items S S' (er_var rfl h) h2 h3 (fun _ => rfl) fun b x H1 hb _ hx => er_call (S b, S' b) (h1 b hb) (ea_1 (er_var rfl hx)))) fun z => by cases z) q
end
end K54
/-! KD: words.py's least_both. -/
set_option Elab.async false
set_option linter.all false
set_option maxRecDepth 100000
set_option maxHeartbeats 400000
namespace K54
open PySem PySem.W PySem.Calls PyProof.Rows L2 Evl
/-! ### how many, how long -/
def lbC : Nat → Nat → Nat
  | 0, _ => 1
  | _ + 1, 0 => 1
  | n + 1, m + 1 => lbC n (m + 1) + lbC (n + 1) m
theorem lbC_up : ∀ n m, lbC n m ≤ lbC n (m + 1)
  | 0, m => by unfold lbC; exact Nat.le_refl _
  | n + 1, m => by
    rw [show lbC (n + 1) (m + 1) = lbC n (m + 1) + lbC (n + 1) m by rw [lbC]]
    exact Nat.le_add_left _ _
section
variable {α : Type} [DecidableEq α] {O : LogOrd α}
theorem lb_nil {y : List α} : lb O [] y = [y] := by rw [lb]
theorem lb_nilR {x : List α} : lb O x [] = [x] := by
  cases x <;> rw [lb]
theorem lb_eq {a : α} {x y : List α} : lb O (a :: x) (a :: y) = (lb O x y).map (a :: ·) := by rw [lb, if_pos rfl]
theorem lb_ne {a b : α} {x y : List α} (h : a ≠ b) : lb O (a :: x) (b :: y) = leastOf O ((lb O x (b :: y)).map (a :: ·) ++ (lb O (a :: x) y).map (b :: ·)) := by rw [lb, if_neg h]
theorem lb_len : ∀ (x y : List α), (lb O x y).length ≤ lbC x.length y.length
  | [], y => by rw [lb_nil]; unfold lbC; exact Nat.le_refl _
  | a :: x, [] => by rw [lb_nilR]; show 1 ≤ lbC (x.length + 1) 0; unfold lbC; exact Nat.le_refl _
  | a :: x, b :: y => by
    have h1 := lb_len x y
    have h2 := lb_len x (b :: y)
    have h3 := lb_len (a :: x) y
    have h4 := lbC_up x.length y.length
    show _ ≤ lbC (x.length + 1) (y.length + 1)
    rw [show lbC (x.length + 1) (y.length + 1) = lbC x.length (y.length + 1) + lbC (x.length + 1) y.length by rw [lbC]]
    rw [List.length_cons] at h2 h3
    by_cases e : a = b
    · subst e
      rw [lb_eq, List.length_map]
      omega
    · rw [lb_ne e]
      refine Nat.le_trans (leastOf_len _) ?_
      rw [List.length_append, List.length_map, List.length_map]
      omega
termination_by x y => x.length + y.length
theorem lb_mem_len : ∀ (x y : List α) (z : List α), z ∈ lb O x y → z.length ≤ x.length + y.length
  | [], y, z, h => by
    rw [lb_nil, List.mem_singleton] at h
    subst h
    simp
  | a :: x, [], z, h => by
    rw [lb_nilR, List.mem_singleton] at h
    subst h
    simp
  | a :: x, b :: y, z, h => by
    by_cases e : a = b
    · subst e
      rw [lb_eq] at h
      obtain ⟨w, hw, rfl⟩ := List.mem_map.mp h
      have := lb_mem_len x y w hw
      simp only [List.length_cons]
      omega
    · rw [lb_ne e] at h
      have h := leastOf_mem h
      rcases List.mem_append.mp h with h | h
      · obtain ⟨w, hw, rfl⟩ := List.mem_map.mp h
        have := lb_mem_len x (b :: y) w hw
        simp only [List.length_cons] at *
        omega
      · obtain ⟨w, hw, rfl⟩ := List.mem_map.mp h
        have := lb_mem_len (a :: x) y w hw
        simp only [List.length_cons] at *
        omega
termination_by x y => x.length + y.length
theorem lb_six {x y : List α} (hx : x.length ≤ 2) (hy : y.length ≤ 2) : (lb O x y).length ≤ 6 := by
  refine Nat.le_trans (lb_len x y) ?_
  have key : ∀ n ≤ 2, ∀ m ≤ 2, lbC n m ≤ 6 := by
    intro n hn m hm
    have hn' : n = 0 ∨ n = 1 ∨ n = 2 := by omega
    have hm' : m = 0 ∨ m = 1 ∨ m = 2 := by omega
    rcases hn' with rfl | rfl | rfl <;> rcases hm' with rfl | rfl | rfl <;> simp [lbC]
  exact key _ hx _ hy
theorem drop_at {x : List α} {i : Nat} {a : α} (h : x[i]? = some a) : x.drop i = a :: x.drop (i + 1) := by
  have := List.getElem?_eq_some_iff.mp h
  rw [List.drop_eq_getElem_cons this.1, this.2]
end
section
variable {X : Cx} {σ : L2.St} {H : Hp} {K : PySem.W.Frag} {D : Ends} {tu tz : TS} {tr : TA} {td ty tv : TE} {R : Pr}
/-! ### range(n, -1, -1) -/
theorem s_forC {j : Nat} {n : Nat} (h : Ea tr σ H [In (n : Int), In (-1), In (-1)]) (hz : n ≤ 40000)
    (k : ∀ H1, Ex H H1 → ∃ Pv : Nat → L2.St → Hp → Prop, Pv 0 σ H1 ∧
      (∀ i σ' H', i ≤ n → Pv i σ' H' → tu { D with nx := Pv (i + 1), ct := Pv (i + 1), bk := D.nx } (σ'.set j (some (.int ((n - i : Nat) : Int)))) H') ∧ (∀ σ' H', Pv (n + 1) σ' H' → D.nx σ' H')) :
    tFor (iRng3 tr) (gName j) tu D σ H := h H (Ex.refl H) _ fun ws H1 e1 hA => by
  obtain ⟨w1, w2, w3, rfl, r1, r2, r3⟩ := al3 hA
  cases (show w1 = .int (n : Int) from r1)
  cases (show w2 = .int (-1) from r2)
  cases (show w3 = .int (-1) from r3)
  obtain ⟨Pv, p0, ps, pd⟩ := k H1 e1
  refine ⟨n, -1, -1, _, rfl, RgC.neg (by omega) (by omega) (by decide) (by decide), for_rangeC (lo := (n : Int)) (c := -1) (n := ((n : Int) - -1).toNat) Pv p0 (fun i σ' H' hi p => ?_) (fun σ' H' p => ?_)⟩
  · have hi' : i ≤ n := by omega
    have e0 : (n : Int) + ((i : Nat) : Int) * -1 = ((n - i : Nat) : Int) := by omega
    show tu { D with nx := Pv (i + 1), ct := Pv (i + 1), bk := D.nx } (σ'.set j (some (.int ((n : Int) + ((i : Nat) : Int) * -1)))) H'
    rw [e0]
    exact ps i σ' H' hi' p
  · rw [show ((n : Int) - -1).toNat = n + 1 by omega] at p
    exact pd σ' H' p
theorem q_forC {j : Nat} {n : Nat} (h : Ea tr σ H [In (n : Int), In (-1), In (-1)]) (hz : n ≤ 40000)
    (k : ∀ H1, Ex H H1 → ∃ Pv : Nat → L2.St → Hp → Prop, Pv 0 σ H1 ∧
      (∀ i σ' H', i ≤ n → Pv i σ' H' → tu { D with nx := Pv (i + 1), ct := Pv (i + 1), bk := tz D } (σ'.set j (some (.int ((n - i : Nat) : Int)))) H') ∧ (∀ σ' H', Pv (n + 1) σ' H' → tz D σ' H')) :
    tSeq (tFor (iRng3 tr) (gName j) tu) tz D σ H := s_forC (D := { D with nx := tz D }) h hz k
theorem er_negI {te : TE} {i : Int} (h : Er te σ H (In i)) : Er (tUn (rU fun i => .int (-i)) te) σ H (In (-i)) := er_un h fun x H1 _ r Q q => by
  cases (show x = _ from r)
  exact ⟨i, rfl, q _ H1 (Ex.refl H1) rfl⟩
/-! ### a dict whose keys are pairs -/
theorem er_dget {d : Addr} {kvs : List (List Key × V)} {key : List Key} {v : V} (hd : Er td σ H (Is (.ref d))) (hk : EvU ty σ H (key.map kV)) (hH : H d = some (.dT kvs)) (hv : valV kvs key = some v) (r : R.r H v) : Er (tDGet td ty) σ H R := fun H1 e Q q =>
  hd H1 e _ fun x H2 e2 hx => hk H2 (e.trans e2) _ fun p H3 _ e3 hp => by
    cases (show x = _ from hx)
    have e4 := (e.trans e2).trans e3
    refine ⟨d, v, rfl, ?_, q v H3 (e2.trans e3) (R.up e4 r)⟩
    have g := DGet.t (k := key) (e4 d _ hH) hp
    rw [hv] at g
    exact g
theorem s_dput {d : Addr} {kvs : List (List Key × V)} {key : List Key} (hv : Er tv σ H R) (hd : Er td σ H (Is (.ref d))) (hk : EvU ty σ H (key.map kV)) (hH : H d = some (.dT kvs)) (hz : kvs.length < 100000)
    (k : ∀ v H1, Ex H H1 → R.r H1 v → D.nx σ (upd H1 d (.dT (putK kvs key v)))) : sDPut td ty tv D σ H := hv H (Ex.refl H) _ fun v H1 e1 r => hd H1 e1 _ fun x H2 e2 hx => hk H2 (e1.trans e2) _ fun p H3 _ e3 hp => by
    cases (show x = _ from hx)
    have e4 := (e1.trans e2).trans e3
    exact ⟨d, _, rfl, DPut.t (k := key) (e4 d _ hH) hp (sz_lt hz), k v H3 e4 (R.up (e2.trans e3) r)⟩
theorem eu_key {ta tb : TE} {i j : Int} (ha : Er ta σ H (In i)) (hb : Er tb σ H (In j)) : EvU (tTup (tCons ta (tCons tb tNil))) σ H (([Sum.inl i, Sum.inl j] : List Key).map kV) :=
  eu_tup (ea_cons (ev_er ha) (ea_cons (ev_er hb) ea_nil)) (by show 2 ≤ 100000; decide)
theorem er_catL {ta tb : TE} {Rs Ss : List Pr} (ha : Er ta σ H (Lst K Rs)) (hb : Er tb σ H (Lst K Ss)) (hz : Rs.length + Ss.length ≤ 100000) : Er (tOp rCat ta tb) σ H (Lst K (Rs ++ Ss)) :=
  er_op ha hb fun x y H1 _ r1 r2 Q q => by
    obtain ⟨a, xs, rfl, hs, hA⟩ := r1
    obtain ⟨b, ys, rfl, ht, hB⟩ := r2
    exact ⟨a, b, xs, ys, rfl, rfl, hs, ht, sz_of (by rw [hA.len, hB.len]; exact hz), fun p hp => q _ _ (Ex.new hp) ⟨p, _, rfl, upd_same, (hA.app hB).up (Ex.new hp)⟩⟩
end
theorem putK_le {κ : Type} [DecidableEq κ] (c : List (κ × V)) (k : κ) (x : V) : (putK c k x).length ≤ c.length + 1 := by
  unfold putK
  split
  · rw [List.length_map]
    omega
  · rw [List.length_append]
    exact Nat.le_refl _
/-- what the table holds: the pairs that are done -/
def Dd (K : PySem.W.Frag) (H : Hp) (d : Addr) (x y : Log) (done : Nat → Nat → Prop) (c : Nat) : Prop :=
  ∃ kvs, H d = some (.dT kvs) ∧ kvs.length ≤ c ∧ ∀ i j : Nat, done i j → ∃ v, valV kvs [Sum.inl (i : Int), Sum.inl (j : Int)] = some v ∧ (LogsP K (lb logO (x.drop i) (y.drop j))).r H v
theorem Dd.up {K : PySem.W.Frag} {H H' : Hp} {d : Addr} {x y : Log} {done : Nat → Nat → Prop} {c : Nat} (e : Ex H H') (h : Dd K H d x y done c) : Dd K H' d x y done c := by
  obtain ⟨kvs, h1, h2, h3⟩ := h
  refine ⟨kvs, e _ _ h1, h2, fun i j hd => ?_⟩
  obtain ⟨v, hv, r⟩ := h3 i j hd
  exact ⟨v, hv, (LogsP K _).up e r⟩
theorem Dd.put {K : PySem.W.Frag} {H : Hp} {d : Addr} {x y : Log} {done done' : Nat → Nat → Prop} {c : Nat} {kvs : List (List Key × V)} {i j : Nat} {v : V} (h1 : H d = some (.dT kvs)) (h2 : kvs.length ≤ c)
    (h3 : ∀ i j : Nat, done i j → ∃ v, valV kvs [Sum.inl (i : Int), Sum.inl (j : Int)] = some v ∧ (LogsP K (lb logO (x.drop i) (y.drop j))).r H v) (hd : ∀ a b, done' a b → done a b ∨ (a = i ∧ b = j)) (r : (LogsP K (lb logO (x.drop i) (y.drop j))).r H v) :
    Dd K (upd H d (.dT (putK kvs [Sum.inl (i : Int), Sum.inl (j : Int)] v))) d x y done' (c + 1) := by
  have kp : Kp H (upd H d (.dT (putK kvs [Sum.inl (i : Int), Sum.inl (j : Int)] v))) := kp_mut (Kp.refl H) h1 rfl
  refine ⟨_, upd_same, Nat.le_trans (putK_le ..) (by omega), fun a b hab => ?_⟩
  rw [valV_put]
  by_cases e : ([Sum.inl (a : Int), Sum.inl (b : Int)] : List Key) = [Sum.inl (i : Int), Sum.inl (j : Int)]
  · rw [if_pos e]
    simp only [List.cons.injEq, Sum.inl.injEq, and_true] at e
    obtain ⟨ea, eb⟩ := e
    have ea : a = i := by omega
    have eb : b = j := by omega
    subst ea eb
    exact ⟨v, rfl, im_logs kp r⟩
  · rw [if_neg e]
    rcases hd a b hab with h | ⟨ha, hb⟩
    · obtain ⟨u, hu, ru⟩ := h3 a b h
      exact ⟨u, hu, im_logs kp ru⟩
    · subst ha hb
      exact (e rfl).elim
section
variable {P : Program} {w : World} {K : PySem.W.Frag} {mg : Str → Option Value} {base : Heap}
theorem sc_least_both : FnScope ["one", "other", "first", "second", "found", "i", "j", "rows"] ["one", "other"] (defScope (sT 16)) := ⟨rfl, rfl, rfl, by decide +kernel, rfl, by decide +kernel, by decide +kernel⟩
abbrev spLeastBoth (K : PySem.W.Frag) : Sp := spF (fun p : Log × Log => p.1.length ≤ 2 ∧ p.2.length ≤ 2) (fun p => [LogP K p.1, LogP K p.2]) (fun p => LogsP K (leastBoth logO p.1 p.2))
def doneLB (n m k l i j : Nat) : Prop := i ≤ n ∧ j ≤ m ∧ (n < i + k ∨ (n = i + k ∧ m < j + l))
theorem cl_least_both (T : Txt K mg) (c_tupled : Cl P w K mg base "tupled" ["value"] 4 (spTupled K 3)) (c_led_by : Cl P w K mg base "led_by" ["name", "logs"] 1 (spLedBy K)) (c_least_of : Cl P w K mg base "least_of" ["logs"] 3 (spLeastOf K)) (F : DefAt K mg "least_both" (sT 16)) : Cl P w K mg base "least_both" ["one", "other"] 5 (spLeastBoth K) := by
  refine cl_of F sc_least_both (fun _ _ _ _ _ _ us hl => match us, hl with | [_, _], _ => rfl) (fun _ => rfl) fun f cdv A outer s H E p vs hr hp hA => ?_
  obtain ⟨x, y⟩ := p
  obtain ⟨v1, v2, rfl, h1, h2⟩ := al2 hA
  have hx2 : x.length ≤ 2 := hp.1
  have hy2 : y.length ≤ 2 := hp.2
  refine ⟨_, (pss_cons (ps_par (by rfl) sc_least_both.nd (i := 2) (j := 3) rfl rfl (by decide) rfl rfl (pa_cons (pe_cl c_tupled (hr.mono (by first | decide | omega)) (pa_cons (pv 0) pa_nil)) (pa_cons (pe_cl c_tupled (hr.mono (by first | decide | omega)) (pa_cons (pv 1) pa_nil)) pa_nil)) (by rfl)) (pss_cons (ps_set (i := 4) sc_least_both.nd rfl (by first | exact Or.inl rfl | exact Or.inr rfl) pe_dnewT) (pss_cons (ps_for PassesOwn.never rfl (pi_range3 (by rfl) T.range (pa_cons (pe_callB (kLen K rfl) (by rfl) T.len (by decide +kernel) (pa_cons (pv 2) pa_nil)) (pa_cons (pe_un un_neg pe_int) (pa_cons (pe_un un_neg pe_int) pa_nil)))) (pg_name (i := 5) sc_least_both.nd rfl (by first | exact Or.inl rfl | exact Or.inr rfl)) (pss_one (ps_for PassesOwn.never rfl (pi_range3 (by rfl) T.range (pa_cons (pe_callB (kLen K rfl) (by rfl) T.len (by decide +kernel) (pa_cons (pv 3) pa_nil)) (pa_cons (pe_un un_neg pe_int) (pa_cons (pe_un un_neg pe_int) pa_nil)))) (pg_name (i := 6) sc_least_both.nd rfl (by first | exact Or.inl rfl | exact Or.inr rfl)) (pss_one (ps_if (PW.pt (pw_or (pt_cmpR op_eq (pv 5) (pe_callB (kLen K rfl) (by rfl) T.len (by decide +kernel) (pa_cons (pv 2) pa_nil)) (nomark _)) (pw_or1 (pt_cmpR op_eq (pv 6) (pe_callB (kLen K rfl) (by rfl) T.len (by decide +kernel) (pa_cons (pv 3) pa_nil)) (nomark _))))) (pss_one (ps_dput (hu_of hr) (pv 4) (pe_tup (pa_cons (pv 5) (pa_cons (pv 6) pa_nil))) (pe_tup (pa_cons (pe_op (kCatT K rfl) (pe_slice (kSlT K rfl) (pv 2) (po_some (pv 5)) po_none) (pe_slice (kSlT K rfl) (pv 3) (po_some (pv 6)) po_none)) pa_nil)) rfl)) (pss_one (ps_if (pt_cmpR op_eq (pe_ix (kIxT K rfl) (pv 2) (pv 5) (fun _ _ => rfl)) (pe_ix (kIxT K rfl) (pv 3) (pv 6) (fun _ _ => rfl)) (nomark _)) (pss_one (ps_dput (hu_of hr) (pv 4) (pe_tup (pa_cons (pv 5) (pa_cons (pv 6) pa_nil))) (pe_callTy (kTupleOf K rfl) (by rfl) T.tuple (by decide +kernel) (pa_cons (pe_cl c_led_by (hr.mono (by first | decide | omega)) (pa_cons (pe_ix (kIxT K rfl) (pv 2) (pv 5) (fun _ _ => rfl)) (pa_cons (pe_dget (hu_of hr) (pv 4) (pe_tup (pa_cons (pe_op op_add (pv 5) pe_int) (pa_cons (pe_op op_add (pv 6) pe_int) pa_nil))) (fun _ _ => rfl)) pa_nil))) pa_nil)) rfl)) (pss_cons (ps_set (i := 7) sc_least_both.nd rfl (by first | exact Or.inl rfl | exact Or.inr rfl) (pe_op op_cat (pe_cl c_led_by (hr.mono (by first | decide | omega)) (pa_cons (pe_ix (kIxT K rfl) (pv 2) (pv 5) (fun _ _ => rfl)) (pa_cons (pe_dget (hu_of hr) (pv 4) (pe_tup (pa_cons (pe_op op_add (pv 5) pe_int) (pa_cons (pv 6) pa_nil))) (fun _ _ => rfl)) pa_nil))) (pe_cl c_led_by (hr.mono (by first | decide | omega)) (pa_cons (pe_ix (kIxT K rfl) (pv 3) (pv 6) (fun _ _ => rfl)) (pa_cons (pe_dget (hu_of hr) (pv 4) (pe_tup (pa_cons (pv 5) (pa_cons (pe_op op_add (pv 6) pe_int) pa_nil))) (fun _ _ => rfl)) pa_nil))))) (pss_one (ps_dput (hu_of hr) (pv 4) (pe_tup (pa_cons (pv 5) (pa_cons (pv 6) pa_nil))) (pe_cl c_least_of (hr.mono (by first | decide | omega)) (pa_cons (pv 7) pa_nil)) rfl)))))))))) (pss_one (ps_ret (pe_cl c_least_of (hr.mono (by first | decide | omega)) (pa_cons (pe_dget (hu_of hr) (pv 4) (pe_tup (pa_cons pe_int (pa_cons pe_int pa_nil))) (fun _ _ => rfl)) pa_nil))))))), fun Q q => ?_⟩
  refine q_parR (Ra := LogP K x) (Rb := LogP K y) (ea_2 (er_call (LogP K x, LogP K x) (tpd_log (isL := false) (Nat.le_trans hx2 (by decide))) (ea_1 (er_var rfl h1))) (er_call (LogP K y, LogP K y) (tpd_log (isL := false) (Nat.le_trans hy2 (by decide))) (ea_1 (er_var rfl h2)))) fun u1 u2 H1 e1 r1 r2 => ?_
  intro d hd
  have ed : Ex H1 (upd H1 d (.dT [])) := Ex.new hd
  have hdH : H d = none := fresh_back e1 hd
  refine q_forC (n := x.length) (ea_3 (er_lenM (er_var rfl ((LogP K x).up ed r1))) (er_negI er_is) (er_negI er_is)) (by omega) fun H2 e2 => ?_
  have ru1 : (LogP K x).r H2 u1 := (LogP K x).up (ed.trans e2) r1
  have ru2 : (LogP K y).r H2 u2 := (LogP K y).up (ed.trans e2) r2
  have exH2 : Ex H H2 := (e1.trans ed).trans e2
  refine ⟨fun k σ' H' => Ex H H' ∧ Kp H2 H' ∧ (∃ y5 y6 y7, σ' = [some v1, some v2, some u1, some u2, some (.ref d), y5, y6, y7]) ∧ Dd K H' d x y (doneLB x.length y.length k 0) (k * (y.length + 1)), ?_, fun k σ' H' hk hx => ?_, fun σ' H' hx => ?_⟩
  · exact ⟨exH2, Kp.refl H2, ⟨none, none, none, rfl⟩, [], e2 _ _ upd_same, Nat.zero_le _, fun a b h => by unfold doneLB at h; omega⟩
  · obtain ⟨exH, kpH, ⟨y5, y6, y7, rfl⟩, hD⟩ := hx
    have ru2' : (LogP K y).r H' u2 := im_log kpH ru2
    refine s_forC (n := y.length) (ea_3 (er_lenM (er_var (i := 3) rfl ru2')) (er_negI er_is) (er_negI er_is)) (by omega) fun H3 e3 => ?_
    refine ⟨fun l σ' H' => Ex H H' ∧ Kp H2 H' ∧ (∃ y6 y7, σ' = [some v1, some v2, some u1, some u2, some (.ref d), some (.int ((x.length - k : Nat) : Int)), y6, y7]) ∧ Dd K H' d x y (doneLB x.length y.length k l) (k * (y.length + 1) + l), ?_, fun l σ' H4 hl hx => ?_, fun σ' H4 hx => ?_⟩
    · exact ⟨exH.trans e3, kpH.trans (kp_ex e3), ⟨y6, y7, rfl⟩, hD.up e3⟩
    · obtain ⟨ex4, kp4, ⟨y6, y7, rfl⟩, kvs, hkv, hkl, hkd⟩ := hx
      have hi : x.length - k ≤ x.length := Nat.sub_le _ _
      have hj : y.length - l ≤ y.length := Nat.sub_le _ _
      have hki : x.length = (x.length - k) + k := by omega
      have hlj : y.length = (y.length - l) + l := by omega
      generalize x.length - k = i at hi hki
      generalize y.length - l = j at hj hlj
      have hcount : k * (y.length + 1) + l ≤ 1000 := by
        have : k * (y.length + 1) ≤ 2 * 3 := Nat.mul_le_mul (by omega) (by omega)
        omega
      show tIfS _ _ _ _ [some v1, some v2, some u1, some u2, some (.ref d), some (.int (i : Nat)), some (.int (j : Nat)), y7] H4
      have fin : ∀ (H5 : Hp) (v : V) (y7 : Option V), Ex H4 H5 → (LogsP K (lb logO (x.drop i) (y.drop j))).r H5 v →
          Ex H (upd H5 d (.dT (putK kvs [Sum.inl (i : Int), Sum.inl (j : Int)] v))) ∧ Kp H2 (upd H5 d (.dT (putK kvs [Sum.inl (i : Int), Sum.inl (j : Int)] v))) ∧ (∃ y6 y7', [some v1, some v2, some u1, some u2, some (.ref d), some (.int (i : Nat)), some (.int (j : Nat)), y7] = [some v1, some v2, some u1, some u2, some (.ref d), some (V.int ((i : Nat) : Int)), y6, y7']) ∧
            Dd K (upd H5 d (.dT (putK kvs [Sum.inl (i : Int), Sum.inl (j : Int)] v))) d x y (doneLB x.length y.length k (l + 1)) (k * (y.length + 1) + (l + 1)) := fun H5 v y7 e5 r => by
        refine ⟨Ex.mut (ex4.trans e5) hdH, kp_mut (kp4.trans (kp_ex e5)) (e5 _ _ hkv) rfl, ⟨some (.int (j : Nat)), y7, rfl⟩, ?_⟩
        refine Dd.put (done := doneLB x.length y.length k l) (e5 _ _ hkv) hkl (fun a b h => ?_) (fun a b h => ?_) r
        · obtain ⟨u, hu, hr⟩ := hkd a b h
          exact ⟨u, hu, (LogsP K _).up e5 hr⟩
        · unfold doneLB at h ⊢
          omega
      have hs1 : ∀ {H5}, Ex H4 H5 → (LogP K x).r H5 u1 := fun e => (LogP K x).up e (im_log kp4 ru1)
      have hs2 : ∀ {H5}, Ex H4 H5 → (LogP K y).r H5 u2 := fun e => (LogP K y).up e (im_log kp4 ru2)
      refine s_if (b := decide ((i : Int) = (x.length : Int)) || decide ((j : Int) = (y.length : Int))) (et_or (et_testR (er_eqI (er_var rfl rfl) (er_lenM (er_var rfl (hs1 (Ex.refl _)))))) fun _ => et_testR (er_eqI (er_var rfl rfl) (er_lenM (er_var rfl (hs2 (Ex.refl _)))))) (fun hb H5 e5 => ?_) (fun hb H5 e5 => ?_)
      · have elb : lb logO (x.drop i) (y.drop j) = [x.drop i ++ y.drop j] := by
          rw [Bool.or_eq_true, decide_eq_true_eq, decide_eq_true_eq] at hb
          rcases hb with e | e
          · rw [List.drop_of_length_le (show x.length ≤ i by omega), lb_nil, List.nil_append]
          · rw [List.drop_of_length_le (show y.length ≤ j by omega), lb_nilR, List.append_nil]
        refine s_dput (R := LogsP K [x.drop i ++ y.drop j]) (er_tup (ea_1 (er_catM (er_dropM (er_var rfl (hs1 e5)) (er_var rfl rfl)) (er_dropM (er_var rfl (hs2 e5)) (er_var rfl rfl)) ?_)) (by show 1 ≤ 100000; decide)) (er_var rfl rfl) (eu_key (er_var rfl rfl) (er_var rfl rfl)) (e5 _ _ hkv) (by omega) fun v H6 e6 r => ?_
        · rw [List.length_drop, List.length_drop]
          omega
        · rw [← elb] at r
          exact fin H6 v y7 (e5.trans e6) r
      · rw [Bool.or_eq_false_iff, decide_eq_false_iff_not, decide_eq_false_iff_not] at hb
        have hi' : i < x.length := by omega
        have hj' : j < y.length := by omega
        have gx : x[i]? = some x[i] := List.getElem?_eq_getElem hi'
        have gy : y[j]? = some y[j] := List.getElem?_eq_getElem hj'
        have dx := drop_at gx
        have dy := drop_at gy
        have ix : ∀ {H6}, Ex H4 H6 → Er (tOp (rIxT K) (tVar 2) (tVar 5)) [some v1, some v2, some u1, some u2, some (.ref d), some (.int (i : Nat)), some (.int (j : Nat)), y7] H6 (Sy x[i]) := fun e => er_ixM (er_var rfl (hs1 e)) (er_var rfl rfl) gx
        have iy : ∀ {H6}, Ex H4 H6 → Er (tOp (rIxT K) (tVar 3) (tVar 6)) [some v1, some v2, some u1, some u2, some (.ref d), some (.int (i : Nat)), some (.int (j : Nat)), y7] H6 (Sy y[j]) := fun e => er_ixM (er_var rfl (hs2 e)) (er_var rfl rfl) gy
        have key1 : ∀ {ta tb : TE} {H6 : Hp} {a b : Int}, Er ta [some v1, some v2, some u1, some u2, some (.ref d), some (.int (i : Nat)), some (.int (j : Nat)), y7] H6 (In a) → True := fun _ => trivial
        have six : ∀ a b, (lb logO (x.drop a) (y.drop b)).length ≤ 6 := fun a b => lb_six (by rw [List.length_drop]; omega) (by rw [List.length_drop]; omega)
        have four : ∀ a b, ∀ l ∈ lb logO (x.drop a) (y.drop b), l.length ≤ 1000 := fun a b l hl => by
          have := lb_mem_len _ _ l hl
          rw [List.length_drop, List.length_drop] at this
          omega
        refine s_if (b := decide (x[i] = y[j])) (et_testR (er_eqS (ix e5) (iy e5))) (fun hb2 H6 e6 => ?_) (fun hb2 H6 e6 => ?_)
        · have heq : x[i] = y[j] := of_decide_eq_true hb2
          have elb : lb logO (x.drop i) (y.drop j) = (lb logO (x.drop (i + 1)) (y.drop (j + 1))).map (x[i] :: ·) := by rw [dx, dy, ← heq, lb_eq]
          obtain ⟨u, hu, ru⟩ := hkd (i + 1) (j + 1) (by unfold doneLB; omega)
          have e56 := e5.trans e6
          refine s_dput (er_tupL (er_call (x[i], lb logO (x.drop (i + 1)) (y.drop (j + 1))) ⟨Nat.le_trans (six _ _) (by decide), four _ _⟩ (ea_2 (ix e56) (er_dget (er_var rfl rfl) (eu_key (er_add (er_var rfl rfl) er_is) (er_add (er_var rfl rfl) er_is)) (e56 _ _ hkv) hu ((LogsP K _).up e56 ru))))) (er_var rfl rfl) (eu_key (er_var rfl rfl) (er_var rfl rfl)) (e56 _ _ hkv) (by omega) fun v H7 e7 r => ?_
          rw [← elb] at r
          exact fin H7 v y7 (e56.trans e7) r
        · have hne : x[i] ≠ y[j] := of_decide_eq_false hb2
          have elb : lb logO (x.drop i) (y.drop j) = leastOf logO ((lb logO (x.drop (i + 1)) (y.drop j)).map (x[i] :: ·) ++ (lb logO (x.drop i) (y.drop (j + 1))).map (y[j] :: ·)) := by rw [dx, dy, lb_ne hne, ← dx, ← dy]
          obtain ⟨u, hu, ru⟩ := hkd (i + 1) j (by unfold doneLB; omega)
          obtain ⟨u', hu', ru'⟩ := hkd i (j + 1) (by unfold doneLB; omega)
          have e56 := e5.trans e6
          refine q_asgR (er_catL (er_call (x[i], lb logO (x.drop (i + 1)) (y.drop j)) ⟨Nat.le_trans (six _ _) (by decide), four _ _⟩ (ea_2 (ix e56) (er_dget (er_var rfl rfl) (eu_key (er_add (er_var rfl rfl) er_is) (er_var rfl rfl)) (e56 _ _ hkv) hu ((LogsP K _).up e56 ru))))
            (er_call (y[j], lb logO (x.drop i) (y.drop (j + 1))) ⟨Nat.le_trans (six _ _) (by decide), four _ _⟩ (ea_2 (iy e56) (er_dget (er_var rfl rfl) (eu_key (er_var rfl rfl) (er_add (er_var rfl rfl) er_is)) (e56 _ _ hkv) hu' ((LogsP K _).up e56 ru')))) ?_) fun v H7 e7 r => ?_
          · have h61 := six (i + 1) j
            have h62 := six i (j + 1)
            simp only [List.length_map]
            omega
          · have e57 := e56.trans e7
            have hll : ((lb logO (x.drop (i + 1)) (y.drop j)).map (x[i] :: ·) ++ (lb logO (x.drop i) (y.drop (j + 1))).map (y[j] :: ·)).length < 64 := by
              have h61 := six (i + 1) j
              have h62 := six i (j + 1)
              rw [List.length_append, List.length_map, List.length_map]
              omega
            rw [← List.map_append] at r
            refine s_dput (er_call (true, _) hll (ea_1 (er_var rfl r))) (er_var rfl rfl) (eu_key (er_var rfl rfl) (er_var rfl rfl)) (e57 _ _ hkv) (by omega) fun v2 H8 e8 r2 => ?_
            have r2' : (LogsP K (lb logO (x.drop i) (y.drop j))).r H8 v2 := by
              rw [elb]
              exact r2
            exact fin H8 v2 (some v) (e57.trans e8) r2'
    · obtain ⟨ex4, kp4, ⟨y6, y7, rfl⟩, kvs, hkv, hkl, hkd⟩ := hx
      refine ⟨ex4, kp4, ⟨_, _, _, rfl⟩, kvs, hkv, by rw [Nat.succ_mul]; exact hkl, fun a b h => hkd a b ?_⟩
      unfold doneLB at h ⊢
      omega
  · obtain ⟨exH, kpH, ⟨y5, y6, y7, rfl⟩, kvs, hkv, hkl, hkd⟩ := hx
    obtain ⟨v, hv, r⟩ := hkd 0 0 (by unfold doneLB; omega)
    refine s_retR (er_call (false, lb logO x y) (Nat.lt_of_le_of_lt (lb_six hx2 hy2) (by decide)) (ea_1 (er_dget (er_var rfl rfl) (eu_key er_is er_is) hkv hv r))) fun v H5 e5 r => q v H5 (exH.trans e5) r
end
end K54
/-! KF: bases.py. -/
set_option Elab.async false
set_option linter.all false
set_option maxRecDepth 100000
set_option maxHeartbeats 400000
namespace K54
open PySem PySem.W PySem.Calls PyProof.Rows L2 Evl
/-! ### names in logs; equality of bases -/
def LOk (l : Log) : Prop := l.length ≤ 1000 ∧ ∀ s ∈ l, nameOk s.cps.toList = true
def BOk (b : List Log) : Prop := b.length < 64 ∧ ∀ l ∈ b, LOk l
theorem str_ok {s : Str} (h : nameOk s.cps.toList = true) : PyData.strOk s = true := by
  unfold PyData.strOk
  rw [← Array.all_toList, List.all_eq_true]
  intro c hc
  unfold nameOk at h
  rw [Bool.and_eq_true, List.all_eq_true] at h
  have := h.2 c hc
  unfold isLet at this
  rw [decide_eq_true_eq] at this
  rw [decide_eq_true_eq]
  omega
def encL (l : Log) : PyData := .tuple (l.map .str)
def encB (b : List Log) : PyData := .tuple (b.map encL)
theorem eqv_strs : ∀ (a b : Log), PyData.eqvAll (a.map .str) (b.map .str) = decide (a = b)
  | [], [] => by simp [PyData.eqvAll]
  | [], y :: b => by simp [PyData.eqvAll]
  | x :: a, [] => by simp [PyData.eqvAll]
  | x :: a, y :: b => by
    rw [List.map_cons, List.map_cons, PyData.eqvAll, eqv_strs a b, PyData.eqv, Bool.eq_iff_iff]
    simp
theorem eqv_logs : ∀ (a b : List Log), PyData.eqvAll (a.map encL) (b.map encL) = decide (a = b)
  | [], [] => by simp [PyData.eqvAll]
  | [], y :: b => by simp [PyData.eqvAll]
  | x :: a, [] => by simp [PyData.eqvAll]
  | x :: a, y :: b => by
    rw [List.map_cons, List.map_cons, PyData.eqvAll, eqv_logs a b]
    unfold encL
    rw [PyData.eqv, eqv_strs, Bool.eq_iff_iff]
    simp
theorem eqv_encL (a b : Log) : PyData.eqv (encL a) (encL b) = decide (a = b) := by
  unfold encL
  rw [PyData.eqv]
  exact eqv_strs a b
theorem eqv_encB (a b : List Log) : PyData.eqv (encB a) (encB b) = decide (a = b) := by
  unfold encB
  rw [PyData.eqv]
  exact eqv_logs a b
theorem lay_strs : ∀ {l : Log}, (∀ s ∈ l, nameOk s.cps.toList = true) → PyData.canLayAll0 (l.map .str) = true
  | [], _ => by simp [PyData.canLayAll0]
  | s :: l, h => by
    rw [List.map_cons, PyData.canLayAll0, lay_strs fun t ht => h t (List.mem_cons_of_mem _ ht), PyData.canLay0, str_ok (h s (List.mem_cons_self ..))]
    rfl
theorem dep_strs : ∀ l : Log, PyData.depthAll (l.map .str) = 0
  | [] => by simp [PyData.depthAll]
  | s :: l => by
    rw [List.map_cons, PyData.depthAll, dep_strs l, PyData.depth]
    rfl
theorem lay_logs : ∀ {b : List Log}, (∀ l ∈ b, LOk l) → PyData.canLayAll0 (b.map encL) = true
  | [], _ => by simp [PyData.canLayAll0]
  | l :: b, h => by
    rw [List.map_cons, PyData.canLayAll0, lay_logs fun t ht => h t (List.mem_cons_of_mem _ ht)]
    unfold encL
    rw [PyData.canLay0, lay_strs (h l (List.mem_cons_self ..)).2]
    rfl
theorem dep_logs : ∀ b : List Log, PyData.depthAll (b.map encL) ≤ 1
  | [] => by simp [PyData.depthAll]
  | l :: b => by
    rw [List.map_cons, PyData.depthAll]
    unfold encL
    rw [PyData.depth, dep_strs]
    exact Nat.max_le.mpr ⟨Nat.le_refl _, dep_logs b⟩
theorem shaped_L {l : Log} (h : LOk l) : SeqAt.shaped (encL l) = true := by
  unfold SeqAt.shaped encL
  rw [PyData.canLay0, lay_strs h.2, PyData.depth, dep_strs]
  rfl
theorem shaped_B {b : List Log} (h : BOk b) : SeqAt.shaped (encB b) = true := by
  unfold SeqAt.shaped encB
  rw [PyData.canLay0, lay_logs h.2, PyData.depth, Bool.true_and, decide_eq_true_eq]
  have := dep_logs b
  omega
section
variable {K : PySem.W.Frag} {H : Hp}
theorem dp_log {l : Log} {v : V} (h : (LogP K l).r H v) : Dp K H v (encL l) := by
  obtain ⟨a, rfl, hs⟩ := log_at h
  exact .tup hs (dp_strs _)
theorem dp_all : ∀ {b : List Log} {vs : List V}, Al (b.map (LogP K)) H vs → DpAll K H vs (b.map encL)
  | [], [], _ => .nil
  | l :: b, v :: vs, h => .cons (dp_log h.1) (dp_all h.2)
  | [], _ :: _, h => h.elim
  | _ :: _, [], h => h.elim
theorem dp_logs {b : List Log} {v : V} (h : (LogsP K b).r H v) : Dp K H v (encB b) := by
  obtain ⟨a, vs, rfl, hs, hA⟩ := h
  exact .tup hs (dp_all hA)
variable {σ : L2.St} {ta tb te : TE}
theorem er_eqB {a b : List Log} (ha : Er ta σ H (LogsP K a)) (hb : Er tb σ H (LogsP K b)) (oa : BOk a) (ob : BOk b) : Er (tOp (rEqD K) ta tb) σ H (Bo (decide (a = b))) :=
  er_op ha hb fun x y H1 _ r1 r2 Q q => ⟨_, _, dp_logs r1, dp_logs r2, shaped_B oa, shaped_B ob, by rw [eqv_encB]; exact q _ H1 (Ex.refl H1) rfl⟩
theorem er_neL {a b : Log} (ha : Er ta σ H (LogP K a)) (hb : Er tb σ H (LogP K b)) (oa : LOk a) (ob : LOk b) : Er (tOp (rNeD K) ta tb) σ H (Bo (!decide (a = b))) :=
  er_op ha hb fun x y H1 _ r1 r2 Q q => ⟨_, _, dp_log r1, dp_log r2, shaped_L oa, shaped_L ob, by rw [eqv_encL]; exact q _ H1 (Ex.refl H1) rfl⟩
theorem er_eqL {a b : Log} (ha : Er ta σ H (LogP K a)) (hb : Er tb σ H (LogP K b)) (oa : LOk a) (ob : LOk b) : Er (tOp (rEqD K) ta tb) σ H (Bo (decide (a = b))) :=
  er_op ha hb fun x y H1 _ r1 r2 Q q => ⟨_, _, dp_log r1, dp_log r2, shaped_L oa, shaped_L ob, by rw [eqv_encL]; exact q _ H1 (Ex.refl H1) rfl⟩
/-! ### a comprehension of two fors -/
theorem er_lc2 {β γ : Type} {tl1 tl2 te : TE} {j1 j2 : Nat} {vs vs1 : List Nat} (as : List β) (bs : List γ) (S1 : β → Pr) (S2 : γ → Pr) (G : β → γ → Pr) (h : Er tl1 σ H (Tup K (as.map S1))) (hG : ∀ a b, Im (G a b)) (hI1 : ∀ a, Im (S1 a)) (hI2 : ∀ a, Im (S2 a)) (hz0 : ∀ i, i ≤ as.length → ((as.take i).flatMap fun a => bs.map (G a)).length ≤ 1000)
    (hw1 : ∀ x, wipe ((wipe σ vs).set j1 (some x)) vs = wipe σ vs) (hw2 : ∀ x y, wipe ((wipe ((wipe σ vs).set j1 (some x)) vs1).set j2 (some y)) vs1 = wipe ((wipe σ vs).set j1 (some x)) vs1)
    (h2 : ∀ a x H1, a ∈ as → Ex H H1 → (S1 a).r H1 x → Er tl2 ((wipe σ vs).set j1 (some x)) H1 (Tup K (bs.map S2)))
    (he : ∀ a b x y H1, a ∈ as → b ∈ bs → Ex H H1 → (S1 a).r H1 x → (S2 b).r H1 y → Er te ((wipe ((wipe σ vs).set j1 (some x)) vs1).set j2 (some y)) H1 (G a b)) :
    Er (tLc2 (iTup K tl1) (gName j1) tYes (iTup K tl2) (gName j2) tYes te vs vs1) σ H (Lst K (as.flatMap fun a => bs.map (G a))) := fun H0 e Q q => h H0 e _ fun v H1 e1 ⟨a, xs, h1, hs, hA⟩ => ⟨a, h1, ⟨xs, hs⟩, fun Dl hD => by
  have hxl : xs.length = as.length := by rw [hA.len, List.length_map]
  refine ⟨fun i m H' => m = xs.length - i ∧ i ≤ xs.length ∧ H1 Dl = none ∧ Ex H1 H' ∧ ∃ ws, H' Dl = some (.lst ws) ∧ Al ((as.take i).flatMap fun a => bs.map (G a)) H' ws, ⟨_, rfl, Nat.zero_le _, hD, Ex.new hD, [], upd_same, by simp; trivial⟩, fun i m H' hx => ?_⟩
  obtain ⟨rfl, hi, hD1, ex, ws, hws, hal⟩ := hx
  by_cases hlt : i < xs.length
  · refine .inr ⟨⟨xs, xs[i], ex_t ex hs, by simp [hlt]⟩, fun H' => i + 1 ≤ xs.length ∧ H1 Dl = none ∧ Ex H1 H' ∧ ∃ ws, H' Dl = some (.lst ws) ∧ Al ((as.take (i + 1)).flatMap fun a => bs.map (G a)) H' ws, fun H' hx => ⟨_, by omega, rfl, hx⟩, fun x H'' hy => ?_⟩
    obtain ⟨rfl, hx⟩ := hy
    have hxi := hx xs (ex_t ex hs)
    obtain ⟨c, hc, r⟩ := map_at (hA.up ex) hxi
    have hcm := List.mem_of_getElem? hc
    refine ⟨hw1 x, ?_⟩
    simp only [tYes, reduceIte]
    refine h2 c x _ hcm ((e.trans e1).trans ex) r _ (Ex.refl _) _ fun u H3 e3 ⟨a2, ys, h3, hs2, hB⟩ => ⟨a2, h3, ⟨ys, hs2⟩, ?_⟩
    have hyl : ys.length = bs.length := by rw [hB.len, List.length_map]
    have htk : (as.take (i + 1)).flatMap (fun a => bs.map (G a)) = (as.take i).flatMap (fun a => bs.map (G a)) ++ bs.map (G c) := by
      rw [List.take_add_one, hc, List.flatMap_append]
      simp
    have hzi := hz0 (i + 1) (by omega)
    rw [htk, List.length_append, List.length_map] at hzi
    refine ⟨fun j k H' => k = ys.length - j ∧ j ≤ ys.length ∧ Ex H3 (fun b => if b = Dl then H3 Dl else H' b) ∧ Ex H1 H' ∧ ∃ ws, H' Dl = some (.lst ws) ∧ Al (((as.take i).flatMap fun a => bs.map (G a)) ++ (bs.take j).map (G c)) H' ws, ⟨_, rfl, Nat.zero_le _, fun b o hb => ?_, ex.trans e3, ws, e3 _ _ hws, by simpa using hal.up e3⟩, fun j k H' hx => ?_⟩
    · show (if b = Dl then H3 Dl else H3 b) = some o
      split
      · next hbd => rw [← hbd]; exact hb
      · exact hb
    · obtain ⟨rfl, hj, kp, ex', ws', hws', hal'⟩ := hx
      have kpp : Kp H3 H' := fun b o ho hb => by
        have := kp b o hb
        dsimp only at this
        split at this
        · next hbd =>
          subst hbd
          rw [e3 _ _ hws] at hb
          cases hb
          cases ho
        · exact this
      by_cases hjl : j < ys.length
      · refine .inr ⟨⟨ys, ys[j], kp_t kpp hs2, by simp [hjl]⟩, fun H' => j + 1 ≤ ys.length ∧ Ex H3 (fun b => if b = Dl then H3 Dl else H' b) ∧ Ex H1 H' ∧ ∃ ws, H' Dl = some (.lst ws) ∧ Al (((as.take i).flatMap fun a => bs.map (G a)) ++ (bs.take (j + 1)).map (G c)) H' ws, fun H' hx => ⟨_, by omega, rfl, hx⟩, fun y H4 hy => ?_⟩
        obtain ⟨rfl, hy⟩ := hy
        have hyj := hy ys (kp_t kpp hs2)
        obtain ⟨d, hd, rd⟩ := map_at (Al.kp kpp (iml_map hI2) hB) hyj
        have hdm := List.mem_of_getElem? hd
        refine ⟨hw2 x y, ?_⟩
        have rc : (S1 c).r H4 x := (S1 c).up (Ex.refl _) (hI1 c (fun b o ho hb => kpp b o ho (e3 b o hb)) r)
        refine he c d x y H4 hcm hdm ((e.trans e1).trans ex') rc rd H4 (Ex.refl _) _ fun z H5 e5 rz => ⟨ws', e5 _ _ hws', ?_, by omega, fun b o hb => ?_, Ex.mut (ex'.trans e5) hD1, _, upd_same, ?_⟩
        · refine sz_lt ?_
          have := hal'.len
          rw [List.length_append, List.length_map, List.length_take] at this
          omega
        · have := kp b o hb
          dsimp only at this ⊢
          split
          · next hbd => rw [if_pos hbd] at this; exact this
          · next hbd =>
            rw [if_neg hbd] at this
            rw [upd_ne hbd]
            exact e5 b o this
        · have htj : (bs.take (j + 1)).map (G c) = (bs.take j).map (G c) ++ [G c d] := by
            rw [List.take_add_one, hd, List.map_append]
            rfl
          rw [htj, ← List.append_assoc]
          refine (Al.app (hal'.up e5) (show Al [G c d] H5 [z] from ⟨rz, trivial⟩)).kp (kp_mut (Kp.refl H5) (e5 _ _ hws') rfl) fun R hR => ?_
          rcases List.mem_append.mp hR with hR | hR
          · rcases List.mem_append.mp hR with hR | hR
            · obtain ⟨a', _, hR⟩ := List.mem_flatMap.mp hR
              obtain ⟨b', _, rfl⟩ := List.mem_map.mp hR
              exact hG a' b'
            · obtain ⟨b', _, rfl⟩ := List.mem_map.mp hR
              exact hG c b'
          · rw [List.mem_singleton.mp hR]
            exact hG c d
      · have ej : j = ys.length := by omega
        refine .inl ⟨⟨ys, kp_t kpp hs2, by omega⟩, by omega, hD1, ex', ws', hws', ?_⟩
        rw [htk]
        rw [ej, hyl, List.take_length] at hal'
        exact hal'
  · have ei : i = xs.length := by omega
    refine .inl ⟨⟨xs, ex_t ex hs, by omega⟩, ?_⟩
    rw [ei, hxl, List.take_length] at hal
    exact q _ H' (e1.trans ex) ⟨Dl, ws, rfl, hws, hal⟩⟩
end
end K54
/-! KG: bases.py's walks. -/
set_option Elab.async false
set_option linter.all false
set_option maxRecDepth 100000
set_option maxHeartbeats 400000
namespace K54
open PySem PySem.W PySem.Calls PyProof.Rows L2 Evl
theorem LOk.len {l : Log} (h : LOk l) : l.length ≤ 1000 := h.1
theorem BOk.len {b : List Log} (h : BOk b) : b.length < 64 := h.1
theorem BOk.tpd {K : PySem.W.Frag} {b : List Log} {isL : Bool} (h : BOk b) : Tpd K 3 (SeqP K isL (b.map (LogP K))) (LogsP K b) :=
  tpd_logs (Nat.le_trans (Nat.le_of_lt h.1) (by decide)) fun l hl => Nat.le_trans (h.2 l hl).1 (by decide)
theorem LOk.tpd {K : PySem.W.Frag} {l : Log} (h : LOk l) : Tpd K 3 (LogP K l) (LogP K l) := tpd_log (isL := false) (Nat.le_trans h.1 (by decide))
theorem bok_least {b : List Log} (h : BOk b) : BOk (leastOf logO b) := ⟨Nat.lt_of_le_of_lt (leastOf_len b) h.1, fun l hl => h.2 l (leastOf_mem hl)⟩
theorem bok_order {b : List Log} (h : BOk b) : BOk (inOrder logO b) := ⟨Nat.lt_of_le_of_lt (inOrder_len b) h.1, fun l hl => h.2 l (mem_inOrder.mp hl)⟩
section
variable {P : Program} {w : World} {K : PySem.W.Frag} {mg : Str → Option Value} {base : Heap}
abbrev CIsName (P : Program) (w : World) (K : PySem.W.Frag) (mg : Str → Option Value) (base : Heap) := Cl P w K mg base "is_name" ["value"] 1 (spIsName K)
abbrev CTupled (P : Program) (w : World) (K : PySem.W.Frag) (mg : Str → Option Value) (base : Heap) := Cl P w K mg base "tupled" ["value"] 4 (spTupled K 3)
abbrev CIsPart (P : Program) (w : World) (K : PySem.W.Frag) (mg : Str → Option Value) (base : Heap) := Cl P w K mg base "is_part" ["word", "log"] 2 (spIsPart K)
abbrev CInOrder (P : Program) (w : World) (K : PySem.W.Frag) (mg : Str → Option Value) (base : Heap) := Cl P w K mg base "in_order" ["logs"] 1 (spInOrder K)
abbrev CLeastOf (P : Program) (w : World) (K : PySem.W.Frag) (mg : Str → Option Value) (base : Heap) := Cl P w K mg base "least_of" ["logs"] 3 (spLeastOf K)
abbrev CLeastBoth (P : Program) (w : World) (K : PySem.W.Frag) (mg : Str → Option Value) (base : Heap) := Cl P w K mg base "least_both" ["one", "other"] 5 (spLeastBoth K)
/-! ### is_log, base_of, is_base -/
theorem sc_is_log : FnScope ["thing", "name"] ["thing"] (defScope (sT 10)) := ⟨rfl, rfl, rfl, by decide +kernel, rfl, by decide +kernel, by decide +kernel⟩
abbrev spIsLog (K : PySem.W.Frag) : Sp := spF (fun l : Log => LOk l) (fun l => [LogP K l]) (fun l => Bo true)
abbrev CIsLog (P : Program) (w : World) (K : PySem.W.Frag) (mg : Str → Option Value) (base : Heap) := Cl P w K mg base "is_log" ["thing"] 2 (spIsLog K)
theorem cl_is_log (T : Txt K mg) (c_is_name : CIsName P w K mg base) (F : DefAt K mg "is_log" (sT 10)) : CIsLog P w K mg base := by
  refine cl_of F sc_is_log (fun _ _ _ _ _ _ us hl => match us, hl with | [_], _ => rfl) (fun _ => rfl) fun f cdv A outer s H E l vs hr hp hA => ?_
  obtain ⟨v, rfl, h⟩ := al1 hA
  refine ⟨_, (pss_one (ps_ret (pe_and (pe_callB (kIsi K rfl) (by rfl) T.isinstance (by decide +kernel) (pa_cons (pv 0) (pa_cons (pe_bltn (v := .ty "tuple") (u := .type "tuple") (by rfl) T.tuple (by decide +kernel) rfl) pa_nil))) (pe_one (pe_callB (kAll K rfl rfl) (by rfl) T.all (by decide +kernel) (pa_cons (pe_lc (own := [("name", 1)]) (g := gName 1) (tt := tYes) (by rfl) sc_is_log.nd (kPiT K rfl (pv 0)) (blkOk_by (own := [("name", 1)]) (N := ["thing", "name"]) (sc := defScope (sT 10)) (by decide +kernel)) (fun _ _ _ _ _ => (pg_name (i := 1) sc_is_log.nd rfl (by first | exact Or.inl rfl | exact Or.inr rfl))) (fun _ _ _ _ _ => pts_nil) (fun _ _ _ _ _ => (pe_cl c_is_name (hr.mono (by first | decide | omega)) (pa_cons (pv 1) pa_nil)))) pa_nil)))))), fun Q q => ?_⟩
  have e : (true && l.all fun n => nameOk n.cps.toList) = true := by
    rw [Bool.true_and, List.all_eq_true]
    exact hp.2
  rw [← e] at q
  exact s_retR (er_andV (er_isi (er_var rfl h) ty_tup kit_tt) fun _ => er_all (er_mapT l Sy (fun n => Bo (nameOk n.cps.toList)) (er_var rfl h) (fun _ => im_is) (Nat.le_trans hp.1 (by decide)) (fun _ => rfl) fun b x H1 hb _ hx =>
    er_call b (Nat.le_trans (name_len (hp.2 b hb)) (by decide)) (ea_1 (er_var rfl hx)))) q
theorem sc_base_of : FnScope ["logs"] ["logs"] (defScope (sT 19)) := ⟨rfl, rfl, rfl, by decide +kernel, rfl, by decide +kernel, by decide +kernel⟩
abbrev spBaseOf (K : PySem.W.Frag) : Sp := spF (fun p : Bool × List Log => BOk p.2) (fun p => [SeqP K p.1 (p.2.map (LogP K))]) (fun p => LogsP K (leastOf logO p.2))
abbrev CBaseOf (P : Program) (w : World) (K : PySem.W.Frag) (mg : Str → Option Value) (base : Heap) := Cl P w K mg base "base_of" ["logs"] 5 (spBaseOf K)
theorem cl_base_of (c_tupled : CTupled P w K mg base) (c_least_of : CLeastOf P w K mg base) (F : DefAt K mg "base_of" (sT 19)) : CBaseOf P w K mg base := by
  refine cl_of F sc_base_of (fun _ _ _ _ _ _ us hl => match us, hl with | [_], _ => rfl) (fun _ => rfl) fun f cdv A outer s H E p vs hr hp hA => ?_
  obtain ⟨isL, b⟩ := p
  obtain ⟨v, rfl, h⟩ := al1 hA
  have hp : BOk b := hp
  refine ⟨_, (pss_one (ps_ret (pe_cl c_least_of (hr.mono (by first | decide | omega)) (pa_cons (pe_cl c_tupled (hr.mono (by first | decide | omega)) (pa_cons (pv 0) pa_nil)) pa_nil)))), fun Q q => ?_⟩
  exact s_retR (er_call (false, b) hp.1 (ea_1 (er_call (SeqP K isL (b.map (LogP K)), LogsP K b) hp.tpd (ea_1 (er_var rfl h))))) q
theorem sc_is_base : FnScope ["thing", "log"] ["thing"] (defScope (sT 20)) := ⟨rfl, rfl, rfl, by decide +kernel, rfl, by decide +kernel, by decide +kernel⟩
abbrev spIsBase (K : PySem.W.Frag) : Sp := spF (fun b : List Log => BOk b) (fun b => [LogsP K b]) (fun b => Bo (decide (leastOf logO b = b)))
abbrev CIsBase (P : Program) (w : World) (K : PySem.W.Frag) (mg : Str → Option Value) (base : Heap) := Cl P w K mg base "is_base" ["thing"] 6 (spIsBase K)
theorem cl_is_base (T : Txt K mg) (c_is_log : CIsLog P w K mg base) (c_base_of : CBaseOf P w K mg base) (F : DefAt K mg "is_base" (sT 20)) : CIsBase P w K mg base := by
  refine cl_of F sc_is_base (fun _ _ _ _ _ _ us hl => match us, hl with | [_], _ => rfl) (fun _ => rfl) fun f cdv A outer s H E b vs hr hp hA => ?_
  obtain ⟨v, rfl, h⟩ := al1 hA
  refine ⟨_, (pss_one (ps_ret (pe_and (pe_callB (kIsi K rfl) (by rfl) T.isinstance (by decide +kernel) (pa_cons (pv 0) (pa_cons (pe_bltn (v := .ty "tuple") (u := .type "tuple") (by rfl) T.tuple (by decide +kernel) rfl) pa_nil))) (pe_and (pe_callB (kAll K rfl rfl) (by rfl) T.all (by decide +kernel) (pa_cons (pe_lc (own := [("log", 1)]) (g := gName 1) (tt := tYes) (by rfl) sc_is_base.nd (kPiT K rfl (pv 0)) (blkOk_by (own := [("log", 1)]) (N := ["thing", "log"]) (sc := defScope (sT 20)) (by decide +kernel)) (fun _ _ _ _ _ => (pg_name (i := 1) sc_is_base.nd rfl (by first | exact Or.inl rfl | exact Or.inr rfl))) (fun _ _ _ _ _ => pts_nil) (fun _ _ _ _ _ => (pe_cl c_is_log (hr.mono (by first | decide | omega)) (pa_cons (pv 1) pa_nil)))) pa_nil)) (pe_one (pe_cmpR (kEqD K hr.units rfl) (pe_cl c_base_of (hr.mono (by first | decide | omega)) (pa_cons (pv 0) pa_nil)) (pv 0) (nomark _))))))), fun Q q => ?_⟩
  have e : (true && ((b.all fun _ => true) && decide (leastOf logO b = b))) = decide (leastOf logO b = b) := by
    rw [Bool.true_and, show (b.all fun _ => true) = true by simp, Bool.true_and]
  rw [← e] at q
  exact s_retR (er_andV (er_isi (er_var rfl h) ty_tup kit_tt) fun _ => er_andV (er_all (er_mapT b (LogP K) (fun _ => Bo true) (er_var rfl h) (fun _ => im_is) (Nat.le_trans (Nat.le_of_lt hp.1) (by decide)) (fun _ => rfl) fun l x H1 hb _ hx =>
    er_call l (hp.2 l hb) (ea_1 (er_var rfl hx)))) fun _ => er_eqB (er_call (false, b) hp (ea_1 (er_var rfl h))) (er_var rfl h) (bok_least hp) hp) q
/-! ### does, is_inside, outside -/
theorem sc_does : FnScope ["base", "log", "word"] ["base", "log"] (defScope (sT 21)) := ⟨rfl, rfl, rfl, by decide +kernel, rfl, by decide +kernel, by decide +kernel⟩
abbrev spDoes (K : PySem.W.Frag) : Sp := spF (fun p : List Log × Log => p.1.length ≤ 1000) (fun p => [LogsP K p.1, LogP K p.2]) (fun p => Bo (does p.1 p.2))
abbrev CDoes (P : Program) (w : World) (K : PySem.W.Frag) (mg : Str → Option Value) (base : Heap) := Cl P w K mg base "does" ["base", "log"] 3 (spDoes K)
theorem cl_does (T : Txt K mg) (c_is_part : CIsPart P w K mg base) (F : DefAt K mg "does" (sT 21)) : CDoes P w K mg base := by
  refine cl_of F sc_does (fun _ _ _ _ _ _ us hl => match us, hl with | [_, _], _ => rfl) (fun _ => rfl) fun f cdv A outer s H E p vs hr hp hA => ?_
  obtain ⟨b, l⟩ := p
  obtain ⟨v1, v2, rfl, h1, h2⟩ := al2 hA
  refine ⟨_, (pss_one (ps_ret (pe_callB (kAny K rfl rfl) (by rfl) T.any (by decide +kernel) (pa_cons (pe_lc (own := [("word", 2)]) (g := gName 2) (tt := tYes) (by rfl) sc_does.nd (kPiT K rfl (pv 0)) (blkOk_by (own := [("word", 2)]) (N := ["base", "log", "word"]) (sc := defScope (sT 21)) (by decide +kernel)) (fun _ _ _ _ _ => (pg_name (i := 2) sc_does.nd rfl (by first | exact Or.inl rfl | exact Or.inr rfl))) (fun _ _ _ _ _ => pts_nil) (fun _ _ _ _ _ => (pe_cl c_is_part (hr.mono (by first | decide | omega)) (pa_cons (pv 2) (pa_cons (pv 1) pa_nil))))) pa_nil)))), fun Q q => ?_⟩
  exact s_retR (er_any (f := fun u => isPart u l) (er_mapT b (LogP K) (fun u => Bo (isPart u l)) (er_var rfl h1) (fun _ => im_is) (Nat.le_trans hp (by decide)) (fun _ => rfl) fun u x H1 hb e hx =>
    er_call (u, l) trivial (ea_2 (er_var rfl hx) (er_var rfl ((LogP K l).up e h2))))) q
theorem sc_is_inside : FnScope ["one", "other", "word"] ["one", "other"] (defScope (sT 26)) := ⟨rfl, rfl, rfl, by decide +kernel, rfl, by decide +kernel, by decide +kernel⟩
abbrev spIsInside (K : PySem.W.Frag) : Sp := spF (fun p : List Log × List Log => p.1.length ≤ 1000 ∧ p.2.length ≤ 1000) (fun p => [LogsP K p.1, LogsP K p.2]) (fun p => Bo (isInside p.1 p.2))
abbrev CIsInside (P : Program) (w : World) (K : PySem.W.Frag) (mg : Str → Option Value) (base : Heap) := Cl P w K mg base "is_inside" ["one", "other"] 4 (spIsInside K)
theorem cl_is_inside (T : Txt K mg) (c_does : CDoes P w K mg base) (F : DefAt K mg "is_inside" (sT 26)) : CIsInside P w K mg base := by
  refine cl_of F sc_is_inside (fun _ _ _ _ _ _ us hl => match us, hl with | [_, _], _ => rfl) (fun _ => rfl) fun f cdv A outer s H E p vs hr hp hA => ?_
  obtain ⟨a, b⟩ := p
  obtain ⟨v1, v2, rfl, h1, h2⟩ := al2 hA
  refine ⟨_, (pss_one (ps_ret (pe_callB (kAll K rfl rfl) (by rfl) T.all (by decide +kernel) (pa_cons (pe_lc (own := [("word", 2)]) (g := gName 2) (tt := tYes) (by rfl) sc_is_inside.nd (kPiT K rfl (pv 0)) (blkOk_by (own := [("word", 2)]) (N := ["one", "other", "word"]) (sc := defScope (sT 26)) (by decide +kernel)) (fun _ _ _ _ _ => (pg_name (i := 2) sc_is_inside.nd rfl (by first | exact Or.inl rfl | exact Or.inr rfl))) (fun _ _ _ _ _ => pts_nil) (fun _ _ _ _ _ => (pe_cl c_does (hr.mono (by first | decide | omega)) (pa_cons (pv 1) (pa_cons (pv 2) pa_nil))))) pa_nil)))), fun Q q => ?_⟩
  exact s_retR (er_all (f := fun u => does b u) (er_mapT a (LogP K) (fun u => Bo (does b u)) (er_var rfl h1) (fun _ => im_is) (Nat.le_trans hp.1 (by decide)) (fun _ => rfl) fun u x H1 hb e hx =>
    er_call (b, u) hp.2 (ea_2 (er_var rfl ((LogsP K b).up e h2)) (er_var rfl hx)))) q
def OptP (K : PySem.W.Frag) (o : Option Log) : Pr := match o with
  | none => Is .non
  | some l => LogP K l
theorem sc_outside : FnScope ["one", "other", "word"] ["one", "other"] (defScope (sT 27)) := ⟨rfl, rfl, rfl, by decide +kernel, rfl, by decide +kernel, by decide +kernel⟩
abbrev spOutside (K : PySem.W.Frag) : Sp := spF (fun p : List Log × List Log => BOk p.1 ∧ BOk p.2) (fun p => [LogsP K p.1, LogsP K p.2]) (fun p => OptP K (outsideM p.1 p.2))
abbrev COutside (P : Program) (w : World) (K : PySem.W.Frag) (mg : Str → Option Value) (base : Heap) := Cl P w K mg base "outside" ["one", "other"] 5 (spOutside K)
theorem find_take {β : Type} [DecidableEq β] {p : β → Bool} {l : List β} {i : Nat} {b : β} (hb : l[i]? = some b) (hn : ∀ c ∈ l.take i, p c = false) (h : p b = true) : l.find? p = some b := by
  have e : l = l.take i ++ b :: l.drop (i + 1) := by
    rw [← drop_at hb, List.take_append_drop]
  rw [e, List.find?_append, List.find?_eq_none.mpr fun c hc => by rw [hn c hc]; decide]
  simp [h]
theorem cl_outside (c_tupled : CTupled P w K mg base) (c_does : CDoes P w K mg base) (F : DefAt K mg "outside" (sT 27)) : COutside P w K mg base := by
  refine cl_of F sc_outside (fun _ _ _ _ _ _ us hl => match us, hl with | [_, _], _ => rfl) (fun _ => rfl) fun f cdv A outer s H E p vs hr hp hA => ?_
  obtain ⟨a, b⟩ := p
  obtain ⟨v1, v2, rfl, h1, h2⟩ := al2 hA
  refine ⟨_, (pss_cons (ps_for PassesOwn.never rfl (kPiT K rfl (pe_cl c_tupled (hr.mono (by first | decide | omega)) (pa_cons (pv 0) pa_nil))) (pg_name (i := 2) sc_outside.nd rfl (by first | exact Or.inl rfl | exact Or.inr rfl)) (pss_one (ps_if (pt_not (pt_val (pe_cl c_does (hr.mono (by first | decide | omega)) (pa_cons (pv 1) (pa_cons (pv 2) pa_nil))))) (pss_one (ps_ret (pv 2))) pss_nil))) (pss_one (ps_ret pe_non))), fun Q q => ?_⟩
  refine q_forT' a (LogP K) (fun _ => im_log) (er_call (LogsP K a, LogsP K a) (hp.1.tpd (isL := false)) (ea_1 (er_var rfl h1))) fun H1 e1 => ?_
  refine ⟨fun i σ' H' => Ex H1 H' ∧ (∃ y, σ' = [some v1, some v2, y]) ∧ ∀ c ∈ a.take i, (!does b c) = false, ⟨Ex.refl H1, ⟨none, rfl⟩, fun c hc => by simp at hc⟩, fun i σ' H' hx => kp_ex hx.1, fun i c v σ' H' hc hx hv => ?_, fun σ' H' hx => ?_⟩
  · obtain ⟨ex, ⟨y, rfl⟩, hn⟩ := hx
    show tIfS _ _ _ _ [some v1, some v2, some v] H'
    refine s_if (b := !does b c) (et_not (et_BR (er_call (b, c) (Nat.le_trans (Nat.le_of_lt hp.2.1) (by decide)) (ea_2 (er_var rfl ((LogsP K b).up (e1.trans ex) h2)) (er_var rfl hv))))) (fun hb2 H2 e2 => ?_) (fun hb2 H2 e2 => ?_)
    · refine s_retR (er_var rfl ((LogP K c).up e2 hv)) fun u H3 e3 r => q u H3 (((e1.trans ex).trans e2).trans e3) ?_
      rw [show outsideM a b = some c from find_take hc hn hb2]
      exact r
    · refine ⟨ex.trans e2, ⟨some v, rfl⟩, fun d hd => ?_⟩
      rw [List.take_add_one, hc] at hd
      rcases List.mem_append.mp hd with hd | hd
      · exact hn d hd
      · rw [List.mem_singleton.mp hd]
        exact hb2
  · obtain ⟨ex, ⟨y, rfl⟩, hn⟩ := hx
    refine s_retR er_is fun u H3 e3 r => q u H3 ((e1.trans ex).trans e3) ?_
    rw [List.take_length] at hn
    rw [show outsideM a b = none from List.find?_eq_none.mpr fun c hc => by rw [hn c hc]; decide]
    exact r
/-! ### either, both, then, times -/
theorem sc_either : FnScope ["one", "other"] ["one", "other"] (defScope (sT 22)) := ⟨rfl, rfl, rfl, by decide +kernel, rfl, by decide +kernel, by decide +kernel⟩
abbrev spEither (K : PySem.W.Frag) : Sp := spF (fun p : List Log × List Log => BOk (p.1 ++ p.2)) (fun p => [LogsP K p.1, LogsP K p.2]) (fun p => LogsP K (either logO p.1 p.2))
abbrev CEither (P : Program) (w : World) (K : PySem.W.Frag) (mg : Str → Option Value) (base : Heap) := Cl P w K mg base "either" ["one", "other"] 6 (spEither K)
theorem cl_either (c_base_of : CBaseOf P w K mg base) (F : DefAt K mg "either" (sT 22)) : CEither P w K mg base := by
  refine cl_of F sc_either (fun _ _ _ _ _ _ us hl => match us, hl with | [_, _], _ => rfl) (fun _ => rfl) fun f cdv A outer s H E p vs hr hp hA => ?_
  obtain ⟨a, b⟩ := p
  obtain ⟨v1, v2, rfl, h1, h2⟩ := al2 hA
  have hp : BOk (a ++ b) := hp
  refine ⟨_, (pss_one (ps_ret (pe_cl c_base_of (hr.mono (by first | decide | omega)) (pa_cons (pe_lst (kStar K rfl (pv 0) (kStar K rfl (pv 1) pa_nil))) pa_nil)))), fun Q q => ?_⟩
  refine s_retR (er_call (true, a ++ b) hp (ea_1 ?_)) q
  show Er _ _ _ (Lst K ((a ++ b).map (LogP K)))
  rw [List.map_append, show a.map (LogP K) ++ b.map (LogP K) = a.map (LogP K) ++ (b.map (LogP K) ++ []) by simp]
  refine er_lst (ea_star (er_var rfl h1) (ea_star (er_var rfl h2) ea_nilR)) ?_
  have := hp.1
  rw [List.length_append] at this
  simp only [List.length_append, List.length_map, List.length_nil]
  omega
theorem sc_then : FnScope ["one", "other", "word", "mate"] ["one", "other"] (defScope (sT 24)) := ⟨rfl, rfl, rfl, by decide +kernel, rfl, by decide +kernel, by decide +kernel⟩
structure ThnOk (a b : List Log) : Prop where
  fa : BOk a
  fb : BOk b
  fab : BOk (a.flatMap fun w => b.map fun m => w ++ m)
abbrev spThen (K : PySem.W.Frag) : Sp := spF (fun p : List Log × List Log => ThnOk p.1 p.2) (fun p => [LogsP K p.1, LogsP K p.2]) (fun p => LogsP K (thnB logO p.1 p.2))
abbrev CThen (P : Program) (w : World) (K : PySem.W.Frag) (mg : Str → Option Value) (base : Heap) := Cl P w K mg base "then" ["one", "other"] 5 (spThen K)
theorem cl_then (T : Txt K mg) (c_tupled : CTupled P w K mg base) (c_in_order : CInOrder P w K mg base) (F : DefAt K mg "then" (sT 24)) : CThen P w K mg base := by
  refine cl_of F sc_then (fun _ _ _ _ _ _ us hl => match us, hl with | [_, _], _ => rfl) (fun _ => rfl) fun f cdv A outer s H E p vs hr hp hA => ?_
  obtain ⟨a, b⟩ := p
  obtain ⟨v1, v2, rfl, h1, h2⟩ := al2 hA
  have hp : ThnOk a b := hp
  have hab := hp.fab.1
  refine ⟨_, (pss_one (ps_ret (pe_callTy (kTupleOf K rfl) (by rfl) T.tuple (by decide +kernel) (pa_cons (pe_cl c_in_order (hr.mono (by first | decide | omega)) (pa_cons (pe_lc2 (own := [("word", 2), ("mate", 3)]) (vs1 := [3]) (g := gName 2) (g1 := gName 3) (tt := tYes) (tt1 := tYes) (by rfl) sc_then.nd (kPiT K rfl (pe_cl c_tupled (hr.mono (by first | decide | omega)) (pa_cons (pv 0) pa_nil))) (blkOk_by (own := [("word", 2), ("mate", 3)]) (N := ["one", "other", "word", "mate"]) (sc := defScope (sT 24)) (by decide +kernel)) (by decide) (fun _ _ _ _ _ => (pg_name (i := 2) sc_then.nd rfl (by first | exact Or.inl rfl | exact Or.inr rfl))) (fun _ _ _ _ _ => pts_nil) (fun _ _ _ _ _ => (kPiT K rfl (pe_cl c_tupled (hr.mono (by first | decide | omega)) (pa_cons (pv 1) pa_nil)))) (fun _ _ _ _ _ => (pg_name (i := 3) sc_then.nd rfl (by first | exact Or.inl rfl | exact Or.inr rfl))) (fun _ _ _ _ _ => pts_nil) (fun _ _ _ _ _ => (pe_op (kCatT K rfl) (pv 2) (pv 3)))) pa_nil)) pa_nil)))), fun Q q => ?_⟩
  have e : (a.flatMap fun w => b.map fun m => w ++ m).map (LogP K) = a.flatMap fun w => b.map fun m => LogP K (w ++ m) := by
    rw [List.map_flatMap]
    simp only [List.map_map]
    rfl
  refine s_retR (er_tupL (er_call (true, a.flatMap fun w => b.map fun m => w ++ m) hp.fab.1 (ea_1 ?_))) q
  show Er _ _ _ (Lst K ((a.flatMap fun w => b.map fun m => w ++ m).map (LogP K)))
  rw [e]
  refine er_lc2 a b (LogP K) (LogP K) (fun w m => LogP K (w ++ m)) (er_call (LogsP K a, LogsP K a) (hp.fa.tpd (isL := false)) (ea_1 (er_var rfl h1))) (fun _ _ => im_log) (fun _ => im_log) (fun _ => im_log) (fun i hi => ?_) (fun _ => rfl) (fun _ _ => rfl)
    (fun w x H1 hw e1 hx => er_call (LogsP K b, LogsP K b) (hp.fb.tpd (isL := false)) (ea_1 (er_var rfl ((LogsP K b).up e1 h2)))) fun w m x y H1 hw hm e1 hx hy => ?_
  · have h3 : (a.flatMap fun w => b.map fun m => LogP K (w ++ m)).length < 64 := by
      rw [← e, List.length_map]
      exact hab
    have h4 : a = a.take i ++ a.drop i := (List.take_append_drop i a).symm
    rw [h4, List.flatMap_append, List.length_append] at h3
    omega
  · refine er_catM (er_var rfl hx) (er_var rfl hy) ?_
    have h5 := (hp.fa.2 w hw).1
    have h6 := (hp.fb.2 m hm).1
    omega
theorem sc_times : FnScope ["base", "number", "found", "turn"] ["base", "number"] (defScope (sT 25)) := ⟨rfl, rfl, rfl, by decide +kernel, rfl, by decide +kernel, by decide +kernel⟩
def TimesOk (b : List Log) (n : Nat) : Prop := ∀ k, k < n → ThnOk (timesN logO b k) b
abbrev spTimes (K : PySem.W.Frag) : Sp := spF (fun p : List Log × Nat => TimesOk p.1 p.2 ∧ p.2 ≤ 1000) (fun p => [LogsP K p.1, In (p.2 : Int)]) (fun p => LogsP K (timesN logO p.1 p.2))
abbrev CTimes (P : Program) (w : World) (K : PySem.W.Frag) (mg : Str → Option Value) (base : Heap) := Cl P w K mg base "times" ["base", "number"] 6 (spTimes K)
theorem cl_times (T : Txt K mg) (c_then : CThen P w K mg base) (F : DefAt K mg "times" (sT 25)) : CTimes P w K mg base := by
  refine cl_of F sc_times (fun _ _ _ _ _ _ us hl => match us, hl with | [_, _], _ => rfl) (fun _ => rfl) fun f cdv A outer s H E p vs hr hp hA => ?_
  obtain ⟨b, n⟩ := p
  obtain ⟨v1, v2, rfl, h1, h2⟩ := al2 hA
  obtain ⟨aA, g_ALWAYS, hALW⟩ := T.g_ALWAYS
  refine ⟨_, (pss_cons (ps_set (i := 2) sc_times.nd rfl (by first | exact Or.inl rfl | exact Or.inr rfl) (pe_glob (v := .ref aA) (by rfl) g_ALWAYS rfl)) (pss_cons (ps_for PassesOwn.never rfl (pi_range1 (by rfl) T.range (pa_cons (pv 1) pa_nil)) (pg_name (i := 3) sc_times.nd rfl (by first | exact Or.inl rfl | exact Or.inr rfl)) (pss_one (ps_set (i := 2) sc_times.nd rfl (by first | exact Or.inl rfl | exact Or.inr rfl) (pe_cl c_then (hr.mono (by first | decide | omega)) (pa_cons (pv 2) (pa_cons (pv 0) pa_nil)))))) (pss_one (ps_ret (pv 2))))), fun Q q => ?_⟩
  cases (show v2 = .int (n : Int) from h2)
  refine q_asgR (R := LogsP K [[]]) (er_c (hALW H)) fun u H1 e1 r1 => ?_
  refine q_forR' (n := n) (ea_1 (er_var rfl rfl)) (Nat.le_trans hp.2 (by decide)) fun H2 e2 => ?_
  refine ⟨fun i σ' H' => Ex H H' ∧ ∃ x y, σ' = [some v1, some (.int (n : Int)), some x, y] ∧ (LogsP K (timesN logO b i)).r H' x, ⟨e1.trans e2, u, none, rfl, (LogsP K _).up e2 r1⟩, fun i σ' H' hi hx => ?_, fun σ' H' hx => ?_⟩
  · obtain ⟨ex, x, y, rfl, hxx⟩ := hx
    exact s_asgR (er_call (timesN logO b i, b) (hp.1 i hi) (ea_2 (er_var rfl hxx) (er_var rfl ((LogsP K b).up ex h1)))) fun z H3 e3 r3 => ⟨ex.trans e3, z, some (.int (i : Int)), rfl, r3⟩
  · obtain ⟨ex, x, y, rfl, hxx⟩ := hx
    exact s_retR (er_var rfl hxx) fun z H3 e3 r3 => q z H3 (ex.trans e3) r3
theorem sc_both : FnScope ["one", "other", "found", "word", "mate"] ["one", "other"] (defScope (sT 23)) := ⟨rfl, rfl, rfl, by decide +kernel, rfl, by decide +kernel, by decide +kernel⟩
structure BothOk (a b : List Log) : Prop where
  fa : ∀ w ∈ a, w.length ≤ 2
  fb : ∀ w ∈ b, w.length ≤ 2
  fab : BOk (a.flatMap fun w => b.flatMap fun m => leastBoth logO w m)
abbrev spBoth (K : PySem.W.Frag) : Sp := spF (fun p : List Log × List Log => BothOk p.1 p.2) (fun p => [LogsP K p.1, LogsP K p.2]) (fun p => LogsP K (both logO p.1 p.2))
abbrev CBoth (P : Program) (w : World) (K : PySem.W.Frag) (mg : Str → Option Value) (base : Heap) := Cl P w K mg base "both" ["one", "other"] 6 (spBoth K)
theorem flat_take {β γ : Type} (l : List β) (f : β → List γ) {i : Nat} {b : β} (h : l[i]? = some b) : (l.take (i + 1)).flatMap f = (l.take i).flatMap f ++ f b := by
  rw [List.take_add_one, h, List.flatMap_append]
  simp
theorem flat_le {β γ : Type} (l : List β) (f : β → List γ) (i : Nat) : ((l.take i).flatMap f).length ≤ (l.flatMap f).length := by
  have h : l.flatMap f = (l.take i).flatMap f ++ (l.drop i).flatMap f := by rw [← List.flatMap_append, List.take_append_drop]
  rw [h, List.length_append]
  omega
theorem both_le {β γ : Type} (a b : List β) (F : β → β → List γ) {i j : Nat} {w m : β} (hw : a[i]? = some w) (hm : b[j]? = some m) :
    ((a.take i).flatMap fun w => b.flatMap fun m => F w m).length + ((b.take j).flatMap fun m => F w m).length + (F w m).length ≤ (a.flatMap fun w => b.flatMap fun m => F w m).length := by
  have h4 := flat_le a (fun w => b.flatMap fun m => F w m) (i + 1)
  have h5 := flat_le b (fun m => F w m) (j + 1)
  rw [flat_take b _ hm, List.length_append] at h5
  rw [flat_take a _ hw, List.length_append] at h4
  omega
theorem cl_both (T : Txt K mg) (c_least_both : CLeastBoth P w K mg base) (c_base_of : CBaseOf P w K mg base) (F : DefAt K mg "both" (sT 23)) : CBoth P w K mg base := by
  refine cl_of F sc_both (fun _ _ _ _ _ _ us hl => match us, hl with | [_, _], _ => rfl) (fun _ => rfl) fun f cdv A outer s H E p vs hr hp hA => ?_
  obtain ⟨a, b⟩ := p
  obtain ⟨v1, v2, rfl, h1, h2⟩ := al2 hA
  have hp : BothOk a b := hp
  have hall : (a.flatMap fun w => b.flatMap fun m => leastBoth logO w m).length < 64 := hp.fab.1
  refine ⟨_, (pss_cons (ps_set (i := 2) sc_both.nd rfl (by first | exact Or.inl rfl | exact Or.inr rfl) (pe_lst pa_nil)) (pss_cons (ps_for PassesOwn.never rfl (kPiT K rfl (pv 0)) (pg_name (i := 3) sc_both.nd rfl (by first | exact Or.inl rfl | exact Or.inr rfl)) (pss_one (ps_for PassesOwn.never rfl (kPiT K rfl (pv 1)) (pg_name (i := 4) sc_both.nd rfl (by first | exact Or.inl rfl | exact Or.inr rfl)) (pss_one (ps_expr (pe_bm PySem.F.plainAttrs_list PySem.F.slot_list_extend PySem.F.type_list_extend mt_extT (pv 2) (pa_cons (pe_cl c_least_both (hr.mono (by first | decide | omega)) (pa_cons (pv 3) (pa_cons (pv 4) pa_nil))) pa_nil))))))) (pss_one (ps_ret (pe_cl c_base_of (hr.mono (by first | decide | omega)) (pa_cons (pv 2) pa_nil)))))), fun Q q => ?_⟩
  refine q_asgL (el_lst ea_nil (by show 0 ≤ 100000; decide)) fun p H1 hp1 ex1 hl1 => ?_
  refine q_forT' a (LogP K) (fun _ => im_log) (er_var rfl ((LogsP K a).up ex1 h1)) fun H2 e2 => ?_
  have ex2 := ex1.trans e2
  refine ⟨fun i σ' H' => Ex H H' ∧ Kp H2 H' ∧ (∃ y z, σ' = [some v1, some v2, some (.ref p), y, z]) ∧ ∃ ws, H' p = some (.lst ws) ∧ Al (((a.take i).flatMap fun w => b.flatMap fun m => leastBoth logO w m).map (LogP K)) H' ws, ?_, fun i σ' H' hx => hx.2.1, fun i w u σ' H' hw hx hu => ?_, fun σ' H' hx => ?_⟩
  · exact ⟨ex2, Kp.refl H2, ⟨none, none, rfl⟩, [], e2 _ _ hl1, by simp; trivial⟩
  · obtain ⟨ex, kp, ⟨y, z, rfl⟩, ws, hws, hal⟩ := hx
    refine s_forT' b (LogP K) (fun _ => im_log) (er_var (i := 1) rfl ((LogsP K b).up ex h2)) fun H3 e3 => ?_
    refine ⟨fun j σ' H' => Ex H H' ∧ Kp H2 H' ∧ Kp H3 H' ∧ (∃ z, σ' = [some v1, some v2, some (.ref p), some u, z]) ∧ ∃ ws, H' p = some (.lst ws) ∧ Al ((((a.take i).flatMap fun w => b.flatMap fun m => leastBoth logO w m) ++ ((b.take j).flatMap fun m => leastBoth logO w m)).map (LogP K)) H' ws, ?_, fun i σ' H' hx => hx.2.2.1, fun j m x σ' H' hm hx hmx => ?_, fun σ' H' hx => ?_⟩
    · exact ⟨ex.trans e3, kp.trans (kp_ex e3), Kp.refl H3, ⟨z, rfl⟩, ws, e3 _ _ hws, by simpa using hal.up e3⟩
    · obtain ⟨ex', kp', kp3, ⟨z, rfl⟩, ws, hws, hal⟩ := hx
      have hu' : (LogP K w).r H' u := im_log (Kp.trans (kp_ex e3) kp3) hu
      refine s_ext (Rs := (leastBoth logO w m).map (LogP K)) hws (er_var rfl rfl) (er_call (w, m) ⟨hp.fa w (List.mem_of_getElem? hw), hp.fb m (List.mem_of_getElem? hm)⟩ (ea_2 (er_var rfl hu') (er_var rfl hmx))) ?_ fun vs H4 e4 hvs => ?_
      · have h3 := hal.len
        rw [List.length_map, List.length_append] at h3
        rw [h3, List.length_map]
        exact Nat.le_trans (both_le a b (leastBoth logO) hw hm) (Nat.le_trans (Nat.le_of_lt hall) (by decide))
      · refine ⟨Ex.mut (ex'.trans e4) hp1, kp_mut (kp'.trans (kp_ex e4)) (e4 _ _ hws) rfl, kp_mut (kp3.trans (kp_ex e4)) (e4 _ _ hws) rfl, ⟨some x, rfl⟩, _, upd_same, ?_⟩
        rw [flat_take b _ hm, ← List.append_assoc, List.map_append]
        refine ((hal.up e4).app hvs).kp (kp_mut (Kp.refl H4) (e4 _ _ hws) rfl) ?_
        rw [← List.map_append]
        exact iml_map fun _ => im_log
    · obtain ⟨ex', kp', kp3, ⟨z, rfl⟩, ws, hws, hal⟩ := hx
      refine ⟨ex', kp', ⟨some u, z, rfl⟩, ws, hws, ?_⟩
      rw [flat_take a _ hw]
      rw [List.take_length] at hal
      exact hal
  · obtain ⟨ex, kp, ⟨y, z, rfl⟩, ws, hws, hal⟩ := hx
    rw [List.take_length] at hal
    exact s_retR (er_call (true, _) hp.fab (ea_1 (er_var rfl ⟨p, ws, rfl, hws, hal⟩))) fun u H3 e3 r => q u H3 (ex.trans e3) r
end
end K54
/-! KH: rules.py: trees, the class Rule, its operators. -/
set_option Elab.async false
set_option linter.all false
set_option maxRecDepth 100000
set_option maxHeartbeats 400000
namespace K54
open PySem PySem.W PySem.Calls PyProof.Rows L2 Evl
theorem nofill {nm : String} (hf : typeLookup (.type "str") (PySem.dunder nm) = pure none) (hr : typeLookup (.type "str") (dunderR nm) = pure none) : fillsNumberSlot (.type "str") nm = pure false := by
  simp only [fillsNumberSlot, hf, hr, pure_bind, Option.isSome_none, Bool.false_and, Bool.or_false]
theorem nofill_rshift : fillsNumberSlot (.type "str") "rshift" = pure false := nofill (by rw [typeLookup_type, builtinLookup_eq_fast]; kernel_rfl) (by rw [typeLookup_type, builtinLookup_eq_fast]; kernel_rfl)
theorem nofill_or : fillsNumberSlot (.type "str") "or" = pure false := nofill (by rw [typeLookup_type, builtinLookup_eq_fast]; kernel_rfl) (by rw [typeLookup_type, builtinLookup_eq_fast]; kernel_rfl)
theorem nofill_and : fillsNumberSlot (.type "str") "and" = pure false := nofill (by rw [typeLookup_type, builtinLookup_eq_fast]; kernel_rfl) (by rw [typeLookup_type, builtinLookup_eq_fast]; kernel_rfl)
abbrev TT := K54.T Str
def TreeP (K : PySem.W.Frag) : TT → Pr
  | .seen s => Tup K [Sy "seen", Sy s]
  | .one => Tup K [Sy "1"]
  | .zero => Tup K [Sy "0"]
  | .thn a b => Tup K [Sy ">>", TreeP K a, TreeP K b]
  | .alt a b => Tup K [Sy "|", TreeP K a, TreeP K b]
  | .all a b => Tup K [Sy "&", TreeP K a, TreeP K b]
  | .tms a n => Tup K [Sy "*", TreeP K a, In (n : Int)]
theorem iml_nil : ImL [] := fun R h => by cases h
theorem iml_cons {R : Pr} {Rs : List Pr} (h : Im R) (hs : ImL Rs) : ImL (R :: Rs) := fun S hS => by
  rcases List.mem_cons.mp hS with e | hS
  · subst e; exact h
  · exact hs S hS
theorem im_tree {K : PySem.W.Frag} : ∀ t : TT, Im (TreeP K t)
  | .seen s => im_tup (iml_cons im_sy (iml_cons im_sy iml_nil))
  | .one => im_tup (iml_cons im_sy iml_nil)
  | .zero => im_tup (iml_cons im_sy iml_nil)
  | .thn a b => im_tup (iml_cons im_sy (iml_cons (im_tree a) (iml_cons (im_tree b) iml_nil)))
  | .alt a b => im_tup (iml_cons im_sy (iml_cons (im_tree a) (iml_cons (im_tree b) iml_nil)))
  | .all a b => im_tup (iml_cons im_sy (iml_cons (im_tree a) (iml_cons (im_tree b) iml_nil)))
  | .tms a n => im_tup (iml_cons im_sy (iml_cons (im_tree a) (iml_cons im_is iml_nil)))
def dep : TT → Nat
  | .seen _ => 0
  | .one => 0
  | .zero => 0
  | .thn a b => Nat.max (dep a) (dep b) + 1
  | .alt a b => Nat.max (dep a) (dep b) + 1
  | .all a b => Nat.max (dep a) (dep b) + 1
  | .tms a _ => dep a + 1
/-- a rule: an instance that holds its tree -/
def RuleP (K : PySem.W.Frag) (C : Addr) (t : TT) : Pr := ⟨fun H v => ∃ a dx y, v = .ref a ∧ H a = some (.ins C dx [("own_tree", y)]) ∧ (TreeP K t).r H y, fun e ⟨a, dx, y, h1, h2, h3⟩ => ⟨a, dx, y, h1, e _ _ h2, (TreeP K t).up e h3⟩⟩
theorem im_rule {K : PySem.W.Frag} {C : Addr} {t : TT} : Im (RuleP K C t) := fun e ⟨a, dx, y, h1, h2, h3⟩ => ⟨a, dx, y, h1, e _ _ rfl h2, im_tree t e h3⟩
/-- a rule or a name -/
def OthP (K : PySem.W.Frag) (C : Addr) : TT ⊕ Str → Pr
  | .inl t => RuleP K C t
  | .inr s => Sy s
def othT : TT ⊕ Str → TT
  | .inl t => t
  | .inr s => .seen s
def othOk : TT ⊕ Str → Prop
  | .inl _ => True
  | .inr s => nameOk s.cps.toList = true
/-- a method of the class at C -/
structure MetAt (K : PySem.W.Frag) (C : Addr) (m q : Str) (st : Stmt) : Prop where
  ex : ∃ f fd, findIn K (.ref C) m = some (some (.ref f)) ∧ isFn K (.ref f) = true ∧ FunD K m q (defArgs st) (defBody st) (defScope st) [] [] f fd
structure Mt (P : Program) (w : World) (K : PySem.W.Frag) (mg : Str → Option Value) (base : Heap) (C : Addr) (m : Str) (ps : List Str) (k : Nat) (sp : Sp) : Prop where
  ex : ∃ f fd, findIn K (.ref C) m = some (some (.ref f)) ∧ isFn K (.ref f) = true ∧ Binds K fd ps [] ∧ FnOk P w K mg base CX0 k f fd ps sp
theorem mt_any {P : Program} {w : World} {K : PySem.W.Frag} {mg : Str → Option Value} {base : Heap} {C : Addr} {m q : Str} {st : Stmt} {N ps : List Str} {k : Nat} {sp : Sp} (F : MetAt K C m q st) (S : FnScope N ps (defScope st))
    (hb : ∀ (kV doc pm : Value) (an : Option Addr) (cdv ct : Value) (us : List Value), us.length = ps.length → bindArgs (PySem.W.fnOf m q (defArgs st) (defBody st) (defScope st) .none kV doc pm an cdv ct) ⟨us, []⟩ = pure (ps.zip us))
    (len : ∀ vs H Q E, sp vs H Q E → vs.length = ps.length)
    (body : ∀ (f : Addr) (cdv : Value) (A : Around) (outer : List Env) (s : Shared) (H : Hp) (E : XK) (vs : List V) (Q : VK), Room k (A.deeper (envOfC q (defScope st) s.heap.objs.size f cdv)) → sp vs H Q E →
      ∃ t, PSs (cxOf CX0 P w K mg base N q (defScope st) f cdv A outer s H E).nox (defBody st) t ∧ t { nx := fun _ H' => Q .non H', rt := Q } (start N vs) H) : Mt P w K mg base C m ps (k + 1) sp := by
  obtain ⟨f, fd, h1, h2, F⟩ := F.ex
  refine ⟨f, fd, h1, h2, F.bindsN hb, F.ok S len fun cdv A outer s H vs Q E hr h => ?_⟩
  obtain ⟨t, h1, h2⟩ := body f cdv A outer s H E vs Q hr h
  exact ⟨t, PSs.nox h1, h2⟩
theorem mt_of {P : Program} {w : World} {K : PySem.W.Frag} {mg : Str → Option Value} {base : Heap} {C : Addr} {m q : Str} {st : Stmt} {N ps : List Str} {k : Nat} {α : Type} {pre : α → Prop} {ins : α → List Pr} {out : α → Pr} (F : MetAt K C m q st) (S : FnScope N ps (defScope st))
    (hb : ∀ (kV doc pm : Value) (an : Option Addr) (cdv ct : Value) (us : List Value), us.length = ps.length → bindArgs (PySem.W.fnOf m q (defArgs st) (defBody st) (defScope st) .none kV doc pm an cdv ct) ⟨us, []⟩ = pure (ps.zip us))
    (hl : ∀ a, (ins a).length = ps.length)
    (body : ∀ (f : Addr) (cdv : Value) (A : Around) (outer : List Env) (s : Shared) (H : Hp) (E : XK) (a : α) (vs : List V), Room k (A.deeper (envOfC q (defScope st) s.heap.objs.size f cdv)) → pre a → Al (ins a) H vs →
      ∃ t, PSs (cxOf CX0 P w K mg base N q (defScope st) f cdv A outer s H E).nox (defBody st) t ∧ ∀ Q : VK, (∀ v H', Ex H H' → (out a).r H' v → Q v H') → t { nx := fun _ H' => Q .non H', rt := Q } (start N vs) H) : Mt P w K mg base C m ps (k + 1) (spF pre ins out) := by
  refine mt_any F S hb (fun vs H Q E ⟨a, _, h, _⟩ => by rw [h.len]; exact hl a) fun f cdv A outer s H E vs Q hr ⟨a, hp, h, q⟩ => ?_
  obtain ⟨t, h1, h2⟩ := body f cdv A outer s H E a vs hr hp h
  exact ⟨t, h1, h2 Q q⟩
/-- what is known of the class Rule -/
structure RuleF (K : PySem.W.Frag) (mg : Str → Option Value) (C : Addr) : Prop where
  mgC : mg "Rule" = some (.ref C)
  cl : Cls K C
  na : NoAttr K C "own_tree"
  mkr : ∃ f fd, Mk K C f ∧ FunD K "__init__" "Rule.__init__" (defArgs (sM 37 0)) (defBody (sM 37 0)) (defScope (sM 37 0)) [] [] f fd
  ty1 : PySem.W.findIn K (.ref C) "__class__" = some (some (.builtin "object.__class__"))
  ty2 : PySem.W.specialIn K (.builtin "object.__class__") "__get__" = some (some (.builtin "getset_descriptor.__get__"))
  ty3 : PySem.W.takesIn K (.builtin "object.__class__") = some true
  ty4 : PySem.W.mroIn K C (.type "object") = some true
  kit1 : PySem.W.kitOne K (.ref C) (.ref C) = some true
  kit2 : PySem.W.kitOne K (.type "str") (.ref C) = some false
  first : selfFirst K C = true
  subS : subIn K (.type "str") (.ref C) = some false
  subI : subIn K (.type "int") (.ref C) = some false
  supI : subIn K (.ref C) (.type "int") = some false
/-- an operator's words that the types str and int are asked for -/
structure OpF (K : PySem.W.Frag) (nm : String) : Prop where
  s1 : ∃ o, findIn K (.type "str") (PySem.dunder nm) = some o
  s2 : ∃ o, findIn K (.type "str") (dunderR nm) = some o
  i1 : ∃ o, findIn K (.type "int") (PySem.dunder nm) = some o
  i2 : ∃ o, findIn K (.type "int") (dunderR nm) = some o
section
variable {X : Cx} {K : PySem.W.Frag} {C : Addr} {σ : L2.St} {H : Hp} {ta tb te : TE}
/-- Rule(tree) -/
def spInit (C : Addr) : Sp := fun vs H Q _ => ∃ a dx y, vs = [.ref a, y] ∧ H a = some (.ins C dx []) ∧ Q .non (upd H a (.ins C dx [("own_tree", y)]))
theorem sc_Rule___init__ : FnScope ["self", "tree"] ["self", "tree"] (defScope (sM 37 0)) := ⟨rfl, rfl, rfl, by decide +kernel, rfl, by decide +kernel, by decide +kernel⟩
theorem pe_rule {p pos : Pos} {e : Expr} {es : List Expr} {t : TA} (R : RuleF X.K X.mg C) (hr : Room 2 X.A) (ha : PA X (e :: es) t) (hg : Gl X "Rule" := by rfl) (he : starEach (e :: es) X.env = (false, eval e X.env) :: starEach es X.env := by rfl) (hpl : (backTo pos (starEach es X.env)).any (·.1) = false := by rfl) :
    PE X (.Call (.Name "Rule" p) (e :: es) [] pos) (tMake C (spInit C) [] E0 t) := by
  obtain ⟨f, fd, M, F⟩ := R.mkr
  have G : FnOk X.prog X.w X.K X.mg X.base CX0 1 f fd ["self", "tree"] (spInit C) := by
    refine F.ok sc_Rule___init__ (fun vs H Q E ⟨a, dx, y, e, _⟩ => by rw [e]; rfl) fun cdv A outer s H vs Q E hr h => ?_
    obtain ⟨a, dx, y, rfl, h1, h2⟩ := h
    refine ⟨_, PSs.nox (pss_one (ps_fld (pv 0) (pv 1) rfl)), ?_⟩
    exact ⟨_, rfl, .ref a, rfl, a, C, dx, [], rfl, h1, R.cl, R.na, by decide, h2⟩
  have b : Binds X.K fd ["self", "tree"] [] := F.bindsN (fun _ _ _ _ _ _ us hl => match us, hl with | [_, _], _ => rfl)
  exact pe_make M G hr hg R.mgC b .nil pass0 ha (by decide) he hpl
theorem er_rule {t : TT} (h : Er te σ H (TreeP K t)) : Er (tMake C (spInit C) [] E0 (tCons te tNil)) σ H (RuleP K C t) := fun H1 e Q q =>
  h H1 e _ fun v H2 e2 r x dx hx hdx hne => by
    have x0 : Ex H2 (upd (upd H2 dx (.own x)) x (.ins C dx [])) := (Ex.new hdx).trans (Ex.new (by rw [upd_ne hne.symm]; exact hx))
    have x1 : Ex H2 (upd (upd (upd H2 dx (.own x)) x (.ins C dx [])) x (.ins C dx [("own_tree", v)])) := Ex.mut x0 hx
    exact ⟨x, dx, v, rfl, upd_same, rfl, q _ _ (e2.trans x1) ⟨x, dx, v, rfl, upd_same, (TreeP K t).up x1 r⟩⟩
theorem ty_rule {mg : Str → Option Value} {t : TT} (R : RuleF K mg C) : TyP K (RuleP K C t) (.ref C) := fun H v ⟨a, dx, y, e, h, _⟩ => by
  subst e
  exact .base (.ins h R.cl R.ty1 R.ty2 R.ty3 R.ty4)
/-- o.own_tree -/
theorem kFld (K : PySem.W.Frag) {e : Expr} {f : Str} {pos : Pos} (h : X.K = K) (he : PE X e ta) (hb : attributeBase e f X.env (eval e X.env) = eval e X.env) : PE X (.Attribute e f pos) (tFld K ta f) := by
  subst h
  exact pe_fld he hb
theorem er_tree {mg : Str → Option Value} {t : TT} (R : RuleF K mg C) (h : Er ta σ H (RuleP K C t)) : Er (tFld K ta "own_tree") σ H (TreeP K t) := fun H1 e Q q =>
  h H1 e _ fun v H2 e2 ⟨a, dx, y, e3, h1, h2⟩ => ⟨a, C, dx, _, y, e3, h1, R.cl, R.na, rfl, q y H2 e2 h2⟩
/-- isinstance(x, Rule); isinstance(x, (Rule, str)) -/
theorem er_isR {R : Pr} {t : Value} {b : Bool} (ha : Er ta σ H R) (ht : TyP K R t) (hk : PySem.W.kitOne K t (.ref C) = some b) : Er (tCB (rIsi K) (tCons ta (tCons (tC (.ref C)) tNil))) σ H (Bo b) := fun H1 e Q q =>
  ha H1 e _ fun x H2 e2 r => ⟨x, .ref C, t, .ref C, b, rfl, .own C, ht H2 x r, hk, q _ H2 e2 rfl⟩
theorem er_isRS {R : Pr} {t : Value} {b : Bool} (ha : Er ta σ H R) (ht : TyP K R t) (hk : PySem.W.kitAny K t [.ref C, .type "str"] = some b) : Er (tCB (rIsiT K) (tCons ta (tCons (tTup (tCons (tC (.ref C)) (tCons (tC (.ty "str")) tNil))) tNil))) σ H (Bo b) := fun H1 e Q q =>
  ha H1 e _ fun x H2 e2 r => ⟨sz_of (show 2 ≤ 100000 by decide), fun p hp => ⟨x, p, [.ref C, .ty "str"], t, [.ref C, .type "str"], b, rfl, upd_same, .cons (.own C) (.cons (.ty "str") .nil), ht _ x (R.up (Ex.new hp) r), hk, q _ _ (e2.trans (Ex.new hp)) rfl⟩⟩
theorem er_othIs {mg : Str → Option Value} {o : TT ⊕ Str} (R : RuleF K mg C) (ha : Er ta σ H (OthP K C o)) : Er (tCB (rIsiT K) (tCons ta (tCons (tTup (tCons (tC (.ref C)) (tCons (tC (.ty "str")) tNil))) tNil))) σ H (Bo true) := by
  cases o with
  | inl t => exact er_isRS ha (ty_rule R) (kitAny_cons R.kit1 (fun z => by cases z) fun _ => rfl)
  | inr s => exact er_isRS ha ty_sy (kitAny_cons R.kit2 (fun _ => kitAny_cons kit_str (fun z => by cases z) fun _ => rfl) fun z => by cases z)
end
section
variable {P : Program} {w : World} {K : PySem.W.Frag} {mg : Str → Option Value} {base : Heap} {C : Addr}
abbrev CChecked (P : Program) (w : World) (K : PySem.W.Frag) (mg : Str → Option Value) (base : Heap) := Cl P w K mg base "checked_name" ["value"] 2 (spChecked K)
/-! ### tree_of, seen, nothing, never -/
theorem sc_tree_of : FnScope ["other"] ["other"] (defScope (sT 38)) := ⟨rfl, rfl, rfl, by decide +kernel, rfl, by decide +kernel, by decide +kernel⟩
abbrev spTreeOf (K : PySem.W.Frag) (C : Addr) : Sp := spF othOk (fun o => [OthP K C o]) (fun o => TreeP K (othT o))
abbrev CTreeOf (P : Program) (w : World) (K : PySem.W.Frag) (mg : Str → Option Value) (base : Heap) (C : Addr) := Cl P w K mg base "tree_of" ["other"] 3 (spTreeOf K C)
theorem cl_tree_of (T : Txt K mg) (R : RuleF K mg C) (c_checked_name : CChecked P w K mg base) (F : DefAt K mg "tree_of" (sT 38)) : CTreeOf P w K mg base C := by
  refine cl_of F sc_tree_of (fun _ _ _ _ _ _ us hl => match us, hl with | [_], _ => rfl) (fun _ => rfl) fun f cdv A outer s H E o vs hr hp hA => ?_
  obtain ⟨v, rfl, h⟩ := al1 hA
  refine ⟨_, (pss_one (ps_ret (pe_ifExp (pt_val (pe_callB (kIsi K rfl) (by rfl) T.isinstance (by decide +kernel) (pa_cons (pv 0) (pa_cons (pe_glob (v := .ref C) (by rfl) R.mgC rfl) pa_nil)))) (kFld K rfl (pv 0) rfl) (pe_tup (pa_cons (pe_gs T.g_SEEN) (pa_cons (pe_cl c_checked_name (hr.mono (by first | decide | omega)) (pa_cons (pv 0) pa_nil)) pa_nil)))))), fun Q q => ?_⟩
  cases o with
  | inl t => exact s_retR (er_if (et_BR (er_isR (R := RuleP K C t) (er_var rfl h) (ty_rule R) R.kit1)) (fun _ => er_tree R (er_var rfl h)) fun z => by cases z) q
  | inr s => exact s_retR (er_if (et_BR (er_isR (R := Sy s) (er_var rfl h) ty_sy R.kit2)) (fun z => by cases z) fun _ => er_tup (ea_2 er_is (er_call s hp (ea_1 (er_var rfl h)))) (by show 2 ≤ 100000; decide)) q
theorem sc_seen : FnScope ["name"] ["name"] (defScope (sT 39)) := ⟨rfl, rfl, rfl, by decide +kernel, rfl, by decide +kernel, by decide +kernel⟩
abbrev spSeen (K : PySem.W.Frag) (C : Addr) : Sp := spF (fun s : Str => nameOk s.cps.toList = true) (fun s => [Sy s]) (fun s => RuleP K C (.seen s))
abbrev CSeen (P : Program) (w : World) (K : PySem.W.Frag) (mg : Str → Option Value) (base : Heap) (C : Addr) := Cl P w K mg base "seen" ["name"] 3 (spSeen K C)
theorem cl_seen (T : Txt K mg) (R : RuleF K mg C) (c_checked_name : CChecked P w K mg base) (F : DefAt K mg "seen" (sT 39)) : CSeen P w K mg base C := by
  refine cl_of F sc_seen (fun _ _ _ _ _ _ us hl => match us, hl with | [_], _ => rfl) (fun _ => rfl) fun f cdv A outer s H E x vs hr hp hA => ?_
  obtain ⟨v, rfl, h⟩ := al1 hA
  refine ⟨_, (pss_one (ps_ret (pe_rule R (hr.mono (by decide)) (pa_cons (pe_tup (pa_cons (pe_gs T.g_SEEN) (pa_cons (pe_cl c_checked_name (hr.mono (by first | decide | omega)) (pa_cons (pv 0) pa_nil)) pa_nil))) pa_nil)))), fun Q q => ?_⟩
  exact s_retR (er_rule (t := .seen x) (er_tup (ea_2 er_is (er_call x hp (ea_1 (er_var rfl h)))) (by show 2 ≤ 100000; decide))) q
theorem sc_nothing : FnScope [] [] (defScope (sT 40)) := ⟨rfl, rfl, rfl, by decide +kernel, rfl, by decide +kernel, by decide +kernel⟩
abbrev spOne (K : PySem.W.Frag) (C : Addr) (t : TT) : Sp := spF (fun _ : Unit => True) (fun _ => []) (fun _ => RuleP K C t)
abbrev CNothing (P : Program) (w : World) (K : PySem.W.Frag) (mg : Str → Option Value) (base : Heap) (C : Addr) := Cl P w K mg base "nothing" [] 3 (spOne K C .one)
theorem cl_nothing (T : Txt K mg) (R : RuleF K mg C) (F : DefAt K mg "nothing" (sT 40)) : CNothing P w K mg base C := by
  refine cl_of F sc_nothing (fun _ _ _ _ _ _ us hl => match us, hl with | [], _ => rfl) (fun _ => rfl) fun f cdv A outer s H E x vs hr hp hA => ?_
  match vs, hA with
  | [], _ =>
    refine ⟨_, (pss_one (ps_ret (pe_rule R (hr.mono (by decide)) (pa_cons (pe_tup (pa_cons (pe_gs T.g_NOTHING_rules) pa_nil)) pa_nil)))), fun Q q => ?_⟩
    exact s_retR (er_rule (t := .one) (er_tup (ea_1 er_is) (by show 1 ≤ 100000; decide))) q
theorem sc_never : FnScope [] [] (defScope (sT 41)) := ⟨rfl, rfl, rfl, by decide +kernel, rfl, by decide +kernel, by decide +kernel⟩
abbrev CNever (P : Program) (w : World) (K : PySem.W.Frag) (mg : Str → Option Value) (base : Heap) (C : Addr) := Cl P w K mg base "never" [] 3 (spOne K C .zero)
theorem cl_never (T : Txt K mg) (R : RuleF K mg C) (F : DefAt K mg "never" (sT 41)) : CNever P w K mg base C := by
  refine cl_of F sc_never (fun _ _ _ _ _ _ us hl => match us, hl with | [], _ => rfl) (fun _ => rfl) fun f cdv A outer s H E x vs hr hp hA => ?_
  match vs, hA with
  | [], _ =>
    refine ⟨_, (pss_one (ps_ret (pe_rule R (hr.mono (by decide)) (pa_cons (pe_tup (pa_cons (pe_gs T.g_NEVER_rules) pa_nil)) pa_nil)))), fun Q q => ?_⟩
    exact s_retR (er_rule (t := .zero) (er_tup (ea_1 er_is) (by show 1 ≤ 100000; decide))) q
/-! ### the operators -/
abbrev spBin (K : PySem.W.Frag) (C : Addr) (mk : TT → TT → TT) : Sp := spF (fun p : TT × (TT ⊕ Str) => othOk p.2) (fun p => [RuleP K C p.1, OthP K C p.2]) (fun p => RuleP K C (mk p.1 (othT p.2)))
abbrev spMul (K : PySem.W.Frag) (C : Addr) : Sp := spF (fun p : TT × Nat => True) (fun p => [RuleP K C p.1, In (p.2 : Int)]) (fun p => RuleP K C (.tms p.1 p.2))
theorem sc_Rule___rshift__ : FnScope ["self", "other"] ["self", "other"] (defScope (sM 37 4)) := ⟨rfl, rfl, rfl, by decide +kernel, rfl, by decide +kernel, by decide +kernel⟩
theorem mt_rshift (T : Txt K mg) (R : RuleF K mg C) (c_tree_of : CTreeOf P w K mg base C) (F : MetAt K C "__rshift__" "Rule.__rshift__" (sM 37 4)) : Mt P w K mg base C "__rshift__" ["self", "other"] 4 (spBin K C (fun a b => .thn a b)) := by
  refine mt_of F sc_Rule___rshift__ (fun _ _ _ _ _ _ us hl => match us, hl with | [_, _], _ => rfl) (fun _ => rfl) fun f cdv A outer s H E p vs hr hp hA => ?_
  obtain ⟨t, o⟩ := p
  obtain ⟨v1, v2, rfl, h1, h2⟩ := al2 hA
  refine ⟨_, (pss_cons (ps_if (pt_not (pt_val (pe_callB (kIsiT K rfl) (by rfl) T.isinstance (by decide +kernel) (pa_cons (pv 1) (pa_cons (pe_tup (pa_cons (pe_glob (v := .ref C) (by rfl) R.mgC rfl) (pa_cons (pe_bltn (v := .ty "str") (u := .type "str") (by rfl) T.str (by decide +kernel) rfl) pa_nil))) pa_nil))))) (pss_one ps_never) pss_nil) (pss_one (ps_ret (pe_rule R (hr.mono (by decide)) (pa_cons (pe_tup (pa_cons (pe_gs T.g_THEN) (pa_cons (kFld K rfl (pv 0) rfl) (pa_cons (pe_cl c_tree_of (hr.mono (by first | decide | omega)) (pa_cons (pv 1) pa_nil)) pa_nil)))) pa_nil))))), fun Q q => ?_⟩
  refine q_when (et_not (et_BR (er_othIs R (er_var rfl h2)))) (fun z => by cases z) fun _ H1 e1 => ?_
  have h1 := (RuleP K C t).up e1 h1
  have h2 := (OthP K C o).up e1 h2
  exact s_retR (er_rule (er_tup (ea_3 er_is (er_tree R (er_var rfl h1)) (er_call o hp (ea_1 (er_var rfl h2)))) (by show 3 ≤ 100000; decide))) fun u H2 e2 r => q u H2 (e1.trans e2) r
theorem sc_Rule___rrshift__ : FnScope ["self", "other"] ["self", "other"] (defScope (sM 37 5)) := ⟨rfl, rfl, rfl, by decide +kernel, rfl, by decide +kernel, by decide +kernel⟩
theorem mt_rrshift (T : Txt K mg) (R : RuleF K mg C) (c_tree_of : CTreeOf P w K mg base C) (F : MetAt K C "__rrshift__" "Rule.__rrshift__" (sM 37 5)) : Mt P w K mg base C "__rrshift__" ["self", "other"] 4 (spBin K C (fun a b => .thn b a)) := by
  refine mt_of F sc_Rule___rrshift__ (fun _ _ _ _ _ _ us hl => match us, hl with | [_, _], _ => rfl) (fun _ => rfl) fun f cdv A outer s H E p vs hr hp hA => ?_
  obtain ⟨t, o⟩ := p
  obtain ⟨v1, v2, rfl, h1, h2⟩ := al2 hA
  refine ⟨_, (pss_cons (ps_if (pt_not (pt_val (pe_callB (kIsiT K rfl) (by rfl) T.isinstance (by decide +kernel) (pa_cons (pv 1) (pa_cons (pe_tup (pa_cons (pe_glob (v := .ref C) (by rfl) R.mgC rfl) (pa_cons (pe_bltn (v := .ty "str") (u := .type "str") (by rfl) T.str (by decide +kernel) rfl) pa_nil))) pa_nil))))) (pss_one ps_never) pss_nil) (pss_one (ps_ret (pe_rule R (hr.mono (by decide)) (pa_cons (pe_tup (pa_cons (pe_gs T.g_THEN) (pa_cons (pe_cl c_tree_of (hr.mono (by first | decide | omega)) (pa_cons (pv 1) pa_nil)) (pa_cons (kFld K rfl (pv 0) rfl) pa_nil)))) pa_nil))))), fun Q q => ?_⟩
  refine q_when (et_not (et_BR (er_othIs R (er_var rfl h2)))) (fun z => by cases z) fun _ H1 e1 => ?_
  have h1 := (RuleP K C t).up e1 h1
  have h2 := (OthP K C o).up e1 h2
  exact s_retR (er_rule (er_tup (ea_3 er_is (er_call o hp (ea_1 (er_var rfl h2))) (er_tree R (er_var rfl h1))) (by show 3 ≤ 100000; decide))) fun u H2 e2 r => q u H2 (e1.trans e2) r
theorem sc_Rule___or__ : FnScope ["self", "other"] ["self", "other"] (defScope (sM 37 6)) := ⟨rfl, rfl, rfl, by decide +kernel, rfl, by decide +kernel, by decide +kernel⟩
theorem mt_or (T : Txt K mg) (R : RuleF K mg C) (c_tree_of : CTreeOf P w K mg base C) (F : MetAt K C "__or__" "Rule.__or__" (sM 37 6)) : Mt P w K mg base C "__or__" ["self", "other"] 4 (spBin K C (fun a b => .alt a b)) := by
  refine mt_of F sc_Rule___or__ (fun _ _ _ _ _ _ us hl => match us, hl with | [_, _], _ => rfl) (fun _ => rfl) fun f cdv A outer s H E p vs hr hp hA => ?_
  obtain ⟨t, o⟩ := p
  obtain ⟨v1, v2, rfl, h1, h2⟩ := al2 hA
  refine ⟨_, (pss_cons (ps_if (pt_not (pt_val (pe_callB (kIsiT K rfl) (by rfl) T.isinstance (by decide +kernel) (pa_cons (pv 1) (pa_cons (pe_tup (pa_cons (pe_glob (v := .ref C) (by rfl) R.mgC rfl) (pa_cons (pe_bltn (v := .ty "str") (u := .type "str") (by rfl) T.str (by decide +kernel) rfl) pa_nil))) pa_nil))))) (pss_one ps_never) pss_nil) (pss_one (ps_ret (pe_rule R (hr.mono (by decide)) (pa_cons (pe_tup (pa_cons (pe_gs T.g_EITHER) (pa_cons (kFld K rfl (pv 0) rfl) (pa_cons (pe_cl c_tree_of (hr.mono (by first | decide | omega)) (pa_cons (pv 1) pa_nil)) pa_nil)))) pa_nil))))), fun Q q => ?_⟩
  refine q_when (et_not (et_BR (er_othIs R (er_var rfl h2)))) (fun z => by cases z) fun _ H1 e1 => ?_
  have h1 := (RuleP K C t).up e1 h1
  have h2 := (OthP K C o).up e1 h2
  exact s_retR (er_rule (er_tup (ea_3 er_is (er_tree R (er_var rfl h1)) (er_call o hp (ea_1 (er_var rfl h2)))) (by show 3 ≤ 100000; decide))) fun u H2 e2 r => q u H2 (e1.trans e2) r
theorem sc_Rule___ror__ : FnScope ["self", "other"] ["self", "other"] (defScope (sM 37 7)) := ⟨rfl, rfl, rfl, by decide +kernel, rfl, by decide +kernel, by decide +kernel⟩
theorem mt_ror (T : Txt K mg) (R : RuleF K mg C) (c_tree_of : CTreeOf P w K mg base C) (F : MetAt K C "__ror__" "Rule.__ror__" (sM 37 7)) : Mt P w K mg base C "__ror__" ["self", "other"] 4 (spBin K C (fun a b => .alt b a)) := by
  refine mt_of F sc_Rule___ror__ (fun _ _ _ _ _ _ us hl => match us, hl with | [_, _], _ => rfl) (fun _ => rfl) fun f cdv A outer s H E p vs hr hp hA => ?_
  obtain ⟨t, o⟩ := p
  obtain ⟨v1, v2, rfl, h1, h2⟩ := al2 hA
  refine ⟨_, (pss_cons (ps_if (pt_not (pt_val (pe_callB (kIsiT K rfl) (by rfl) T.isinstance (by decide +kernel) (pa_cons (pv 1) (pa_cons (pe_tup (pa_cons (pe_glob (v := .ref C) (by rfl) R.mgC rfl) (pa_cons (pe_bltn (v := .ty "str") (u := .type "str") (by rfl) T.str (by decide +kernel) rfl) pa_nil))) pa_nil))))) (pss_one ps_never) pss_nil) (pss_one (ps_ret (pe_rule R (hr.mono (by decide)) (pa_cons (pe_tup (pa_cons (pe_gs T.g_EITHER) (pa_cons (pe_cl c_tree_of (hr.mono (by first | decide | omega)) (pa_cons (pv 1) pa_nil)) (pa_cons (kFld K rfl (pv 0) rfl) pa_nil)))) pa_nil))))), fun Q q => ?_⟩
  refine q_when (et_not (et_BR (er_othIs R (er_var rfl h2)))) (fun z => by cases z) fun _ H1 e1 => ?_
  have h1 := (RuleP K C t).up e1 h1
  have h2 := (OthP K C o).up e1 h2
  exact s_retR (er_rule (er_tup (ea_3 er_is (er_call o hp (ea_1 (er_var rfl h2))) (er_tree R (er_var rfl h1))) (by show 3 ≤ 100000; decide))) fun u H2 e2 r => q u H2 (e1.trans e2) r
theorem sc_Rule___and__ : FnScope ["self", "other"] ["self", "other"] (defScope (sM 37 8)) := ⟨rfl, rfl, rfl, by decide +kernel, rfl, by decide +kernel, by decide +kernel⟩
theorem mt_and (T : Txt K mg) (R : RuleF K mg C) (c_tree_of : CTreeOf P w K mg base C) (F : MetAt K C "__and__" "Rule.__and__" (sM 37 8)) : Mt P w K mg base C "__and__" ["self", "other"] 4 (spBin K C (fun a b => .all a b)) := by
  refine mt_of F sc_Rule___and__ (fun _ _ _ _ _ _ us hl => match us, hl with | [_, _], _ => rfl) (fun _ => rfl) fun f cdv A outer s H E p vs hr hp hA => ?_
  obtain ⟨t, o⟩ := p
  obtain ⟨v1, v2, rfl, h1, h2⟩ := al2 hA
  refine ⟨_, (pss_cons (ps_if (pt_not (pt_val (pe_callB (kIsiT K rfl) (by rfl) T.isinstance (by decide +kernel) (pa_cons (pv 1) (pa_cons (pe_tup (pa_cons (pe_glob (v := .ref C) (by rfl) R.mgC rfl) (pa_cons (pe_bltn (v := .ty "str") (u := .type "str") (by rfl) T.str (by decide +kernel) rfl) pa_nil))) pa_nil))))) (pss_one ps_never) pss_nil) (pss_one (ps_ret (pe_rule R (hr.mono (by decide)) (pa_cons (pe_tup (pa_cons (pe_gs T.g_BOTH) (pa_cons (kFld K rfl (pv 0) rfl) (pa_cons (pe_cl c_tree_of (hr.mono (by first | decide | omega)) (pa_cons (pv 1) pa_nil)) pa_nil)))) pa_nil))))), fun Q q => ?_⟩
  refine q_when (et_not (et_BR (er_othIs R (er_var rfl h2)))) (fun z => by cases z) fun _ H1 e1 => ?_
  have h1 := (RuleP K C t).up e1 h1
  have h2 := (OthP K C o).up e1 h2
  exact s_retR (er_rule (er_tup (ea_3 er_is (er_tree R (er_var rfl h1)) (er_call o hp (ea_1 (er_var rfl h2)))) (by show 3 ≤ 100000; decide))) fun u H2 e2 r => q u H2 (e1.trans e2) r
theorem sc_Rule___rand__ : FnScope ["self", "other"] ["self", "other"] (defScope (sM 37 9)) := ⟨rfl, rfl, rfl, by decide +kernel, rfl, by decide +kernel, by decide +kernel⟩
theorem mt_rand (T : Txt K mg) (R : RuleF K mg C) (c_tree_of : CTreeOf P w K mg base C) (F : MetAt K C "__rand__" "Rule.__rand__" (sM 37 9)) : Mt P w K mg base C "__rand__" ["self", "other"] 4 (spBin K C (fun a b => .all b a)) := by
  refine mt_of F sc_Rule___rand__ (fun _ _ _ _ _ _ us hl => match us, hl with | [_, _], _ => rfl) (fun _ => rfl) fun f cdv A outer s H E p vs hr hp hA => ?_
  obtain ⟨t, o⟩ := p
  obtain ⟨v1, v2, rfl, h1, h2⟩ := al2 hA
  refine ⟨_, (pss_cons (ps_if (pt_not (pt_val (pe_callB (kIsiT K rfl) (by rfl) T.isinstance (by decide +kernel) (pa_cons (pv 1) (pa_cons (pe_tup (pa_cons (pe_glob (v := .ref C) (by rfl) R.mgC rfl) (pa_cons (pe_bltn (v := .ty "str") (u := .type "str") (by rfl) T.str (by decide +kernel) rfl) pa_nil))) pa_nil))))) (pss_one ps_never) pss_nil) (pss_one (ps_ret (pe_rule R (hr.mono (by decide)) (pa_cons (pe_tup (pa_cons (pe_gs T.g_BOTH) (pa_cons (pe_cl c_tree_of (hr.mono (by first | decide | omega)) (pa_cons (pv 1) pa_nil)) (pa_cons (kFld K rfl (pv 0) rfl) pa_nil)))) pa_nil))))), fun Q q => ?_⟩
  refine q_when (et_not (et_BR (er_othIs R (er_var rfl h2)))) (fun z => by cases z) fun _ H1 e1 => ?_
  have h1 := (RuleP K C t).up e1 h1
  have h2 := (OthP K C o).up e1 h2
  exact s_retR (er_rule (er_tup (ea_3 er_is (er_call o hp (ea_1 (er_var rfl h2))) (er_tree R (er_var rfl h1))) (by show 3 ≤ 100000; decide))) fun u H2 e2 r => q u H2 (e1.trans e2) r
theorem sc_Rule___mul__ : FnScope ["self", "number"] ["self", "number"] (defScope (sM 37 10)) := ⟨rfl, rfl, rfl, by decide +kernel, rfl, by decide +kernel, by decide +kernel⟩
theorem mt_mul (T : Txt K mg) (R : RuleF K mg C) (F : MetAt K C "__mul__" "Rule.__mul__" (sM 37 10)) : Mt P w K mg base C "__mul__" ["self", "number"] 4 (spMul K C) := by
  refine mt_of F sc_Rule___mul__ (fun _ _ _ _ _ _ us hl => match us, hl with | [_, _], _ => rfl) (fun _ => rfl) fun f cdv A outer s H E p vs hr hp hA => ?_
  obtain ⟨t, n⟩ := p
  obtain ⟨v1, v2, rfl, h1, h2⟩ := al2 hA
  refine ⟨_, (pss_one (ps_ret (pe_rule R (hr.mono (by decide)) (pa_cons (pe_tup (pa_cons (pe_gs T.g_TIMES) (pa_cons (kFld K rfl (pv 0) rfl) (pa_cons (pv 1) pa_nil)))) pa_nil)))), fun Q q => ?_⟩
  exact s_retR (er_rule (t := .tms t n) (er_tup (ea_3 er_is (er_tree R (er_var rfl h1)) (er_var rfl h2)) (by show 3 ≤ 100000; decide))) q
theorem sc_Rule___rmul__ : FnScope ["self", "number"] ["self", "number"] (defScope (sM 37 11)) := ⟨rfl, rfl, rfl, by decide +kernel, rfl, by decide +kernel, by decide +kernel⟩
theorem mt_rmul (T : Txt K mg) (R : RuleF K mg C) (F : MetAt K C "__rmul__" "Rule.__rmul__" (sM 37 11)) : Mt P w K mg base C "__rmul__" ["self", "number"] 4 (spMul K C) := by
  refine mt_of F sc_Rule___rmul__ (fun _ _ _ _ _ _ us hl => match us, hl with | [_, _], _ => rfl) (fun _ => rfl) fun f cdv A outer s H E p vs hr hp hA => ?_
  obtain ⟨t, n⟩ := p
  obtain ⟨v1, v2, rfl, h1, h2⟩ := al2 hA
  refine ⟨_, (pss_one (ps_ret (pe_rule R (hr.mono (by decide)) (pa_cons (pe_tup (pa_cons (pe_gs T.g_TIMES) (pa_cons (kFld K rfl (pv 0) rfl) (pa_cons (pv 1) pa_nil)))) pa_nil)))), fun Q q => ?_⟩
  exact s_retR (er_rule (t := .tms t n) (er_tup (ea_3 er_is (er_tree R (er_var rfl h1)) (er_var rfl h2)) (by show 3 ≤ 100000; decide))) q
end
end K54
/-! KI: rules.py: own operators as rules, tree_base, base. -/
set_option Elab.async false
set_option linter.all false
set_option maxRecDepth 100000
set_option maxHeartbeats 400000
namespace K54
open PySem PySem.W PySem.Calls PyProof.Rows L2 Evl
section
variable {X : Cx} {K : PySem.W.Frag} {C : Addr} {σ : L2.St} {H : Hp} {ta tb te : TE} {D : Ends} {tu tz : TS} {t : K54.T Str}
theorem q_whenF {tt : L2.TT} {b : Bool} (h : EvT tt σ H b) (hb : b = false) (k : ∀ H1, Ex H H1 → tz D σ H1) : tSeq (tIfS tt tu tNext) tz D σ H := q_when h (fun z => by rw [hb] at z; cases z) fun _ => k
theorem q_whenT {tt : L2.TT} {b : Bool} (h : EvT tt σ H b) (hb : b = true) (k : ∀ H1, Ex H H1 → tu { D with nx := tz D } σ H1) : tSeq (tIfS tt tu tNext) tz D σ H := q_when h (fun _ => k) fun z => by rw [hb] at z; cases z
theorem et_inU {x : V} {xs : List V} (ha : Er ta σ H (Is x)) (hb : EvU tb σ H xs) (hx : flatV x = true) (hf : xs.all flatV = true) : EvT (tTest (tOp (rIn K false) ta tb)) σ H (inV x xs) := et_test (ev_inU (ev_er ha) hb hx hf)
theorem eu_2 {x y : V} {t1 t2 : TE} (h1 : Er t1 σ H (Is x)) (h2 : Er t2 σ H (Is y)) : EvU (tTup (tCons t1 (tCons t2 tNil))) σ H [x, y] := eu_tup (ea_cons (ev_er h1) (ea_cons (ev_er h2) ea_nil)) (by show 2 ≤ 100000; decide)
/-! ### the class's own operators -/
/-- a rule or a name on the left, a rule on the right; or a rule on the left -/
def rOwnB (C : Addr) (sp spr : Sp) : R2 := fun x y H Q => rOwnL C sp x y H Q ∨ rOwnS C spr x y H Q
theorem op_ownB {nm m mr : String} {op : Operator} {ps ps' : List Str} {k k' : Nat} {sp spr : Sp} (hop : op.info.2 = nm) (R : RuleF X.K X.mg C) (O : OpF X.K nm) (M : Mt X.prog X.w X.K X.mg X.base C m ps k sp) (M' : Mt X.prog X.w X.K X.mg X.base C mr ps' k' spr)
    (hm : (m : Str) = PySem.dunder nm) (hmr : (mr : Str) = dunderR nm) (hl : fillsNumberSlot (.type "str") nm = pure false) (hr : Room k X.A) (hr' : Room k' X.A) : OpR X (binaryOp op) (rOwnB C sp spr) := by
  obtain ⟨f, fd, h1, h2, h3, h4⟩ := M.ex
  obtain ⟨g, gd, g1, g2, g3, g4⟩ := M'.ex
  obtain ⟨⟨o1, s1⟩, ⟨o2, s2⟩, ⟨o3, s3⟩, ⟨o4, s4⟩⟩ := O
  rw [hm] at h1
  rw [hmr] at g1
  subst hop
  have W : OwnOp X.K C op.info.2 f g := ⟨R.first, h1, h2, g1, g2, R.subS, R.subI, R.supI⟩
  intro pins s σ H x y v u Q I rx ry h
  rcases h with h | h
  · exact op_ownL W h4 hr h3 s1 s2 s3 s4 pins s σ H x y v u Q I rx ry h
  · exact op_ownS W g4 hr' g3 hl pins s σ H x y v u Q I rx ry h
theorem op_ownM {nm m mr : String} {op : Operator} {ps ps' : List Str} {k k' : Nat} {sp spr : Sp} (hop : op.info.2 = nm) (R : RuleF X.K X.mg C) (O : OpF X.K nm) (M : Mt X.prog X.w X.K X.mg X.base C m ps k sp) (M' : Mt X.prog X.w X.K X.mg X.base C mr ps' k' spr)
    (hm : (m : Str) = PySem.dunder nm) (hmr : (mr : Str) = dunderR nm) (hr : Room k X.A) : OpR X (binaryOp op) (rOwnL C sp) := by
  obtain ⟨f, fd, h1, h2, h3, h4⟩ := M.ex
  obtain ⟨g, gd, g1, g2, g3, g4⟩ := M'.ex
  obtain ⟨⟨o1, s1⟩, ⟨o2, s2⟩, ⟨o3, s3⟩, ⟨o4, s4⟩⟩ := O
  rw [hm] at h1
  rw [hmr] at g1
  subst hop
  exact op_ownL ⟨R.first, h1, h2, g1, g2, R.subS, R.subI, R.supI⟩ h4 hr h3 s1 s2 s3 s4
theorem op_ownMr {nm m mr : String} {op : Operator} {ps ps' : List Str} {k k' : Nat} {sp spr : Sp} (hop : op.info.2 = nm) (hmul : nm = "mul") (R : RuleF X.K X.mg C) (M : Mt X.prog X.w X.K X.mg X.base C m ps k sp) (M' : Mt X.prog X.w X.K X.mg X.base C mr ps' k' spr)
    (hm : (m : Str) = PySem.dunder nm) (hmr : (mr : Str) = dunderR nm) (hr' : Room k' X.A) : OpR X (binaryOp op) (rOwnI C spr) := by
  obtain ⟨f, fd, h1, h2, h3, h4⟩ := M.ex
  obtain ⟨g, gd, g1, g2, g3, g4⟩ := M'.ex
  rw [hm] at h1
  rw [hmr] at g1
  subst hop
  exact op_ownI hmul ⟨R.first, h1, h2, g1, g2, R.subS, R.subI, R.supI⟩ g4 hr' g3
theorem op_ownC {neg : Bool} {ps : List Str} {k : Nat} {sp : Sp} (M : Mt X.prog X.w X.K X.mg X.base C "__contains__" ps k sp) (hr : Room k X.A) : OpR X (compareOp (if neg = true then .NotIn else .In)) (rOwnIn C neg sp) := by
  obtain ⟨f, fd, h1, h2, h3, h4⟩ := M.ex
  cases neg with
  | true => exact op_ownNotIn h1 h2 h4 hr h3
  | false => exact op_ownIn h1 h2 h4 hr h3
/-- the operators, all that a caller wants -/
structure Ops (P : Program) (w : World) (K : PySem.W.Frag) (mg : Str → Option Value) (base : Heap) (C : Addr) : Prop where
  R : RuleF K mg C
  o1 : OpF K "rshift"
  o2 : OpF K "or"
  o3 : OpF K "and"
  o4 : OpF K "mul"
  m1 : Mt P w K mg base C "__rshift__" ["self", "other"] 4 (spBin K C fun a b => .thn a b)
  m1r : Mt P w K mg base C "__rrshift__" ["self", "other"] 4 (spBin K C fun a b => .thn b a)
  m2 : Mt P w K mg base C "__or__" ["self", "other"] 4 (spBin K C fun a b => .alt a b)
  m2r : Mt P w K mg base C "__ror__" ["self", "other"] 4 (spBin K C fun a b => .alt b a)
  m3 : Mt P w K mg base C "__and__" ["self", "other"] 4 (spBin K C fun a b => .all a b)
  m3r : Mt P w K mg base C "__rand__" ["self", "other"] 4 (spBin K C fun a b => .all b a)
  m4 : Mt P w K mg base C "__mul__" ["self", "number"] 4 (spMul K C)
  m4r : Mt P w K mg base C "__rmul__" ["self", "number"] 4 (spMul K C)
abbrev rBin (K : PySem.W.Frag) (C : Addr) (mk : K54.T Str → K54.T Str → K54.T Str) : R2 := rOwnB C (spBin K C mk) (spBin K C fun a b => mk b a)
theorem opThn (O : Ops X.prog X.w X.K X.mg X.base C) (hr : Room 4 X.A) : OpR X (binaryOp .RShift) (rBin X.K C .thn) := op_ownB (by rfl) O.R O.o1 O.m1 O.m1r (by decide +kernel) (by decide +kernel) nofill_rshift hr hr
theorem opAlt (O : Ops X.prog X.w X.K X.mg X.base C) (hr : Room 4 X.A) : OpR X (binaryOp .BitOr) (rBin X.K C .alt) := op_ownB (by rfl) O.R O.o2 O.m2 O.m2r (by decide +kernel) (by decide +kernel) nofill_or hr hr
theorem opAll (O : Ops X.prog X.w X.K X.mg X.base C) (hr : Room 4 X.A) : OpR X (binaryOp .BitAnd) (rBin X.K C .all) := op_ownB (by rfl) O.R O.o3 O.m3 O.m3r (by decide +kernel) (by decide +kernel) nofill_and hr hr
theorem opMul (O : Ops X.prog X.w X.K X.mg X.base C) (hr : Room 4 X.A) : OpR X (binaryOp .Mult) (rOwnL C (spMul X.K C)) := op_ownM (by rfl) O.R O.o4 O.m4 O.m4r (by decide +kernel) (by decide +kernel) hr
theorem opMulR (O : Ops X.prog X.w X.K X.mg X.base C) (hr : Room 4 X.A) : OpR X (binaryOp .Mult) (rOwnI C (spMul X.K C)) := op_ownMr (by rfl) (by rfl) O.R O.m4 O.m4r (by decide +kernel) (by decide +kernel) hr
theorem er_bin {mk : K54.T Str → K54.T Str → K54.T Str} {o1 o2 : K54.T Str ⊕ Str} (ha : Er ta σ H (OthP K C o1)) (hb : Er tb σ H (OthP K C o2)) (k1 : othOk o1) (k2 : othOk o2) (hl : o1.isLeft = true ∨ o2.isLeft = true) :
    Er (tOp (rBin K C mk) ta tb) σ H (RuleP K C (mk (othT o1) (othT o2))) := er_op ha hb fun x y H1 _ r1 r2 Q q => by
  cases o1 with
  | inl t =>
    obtain ⟨a, dx, z, e1, h1, h2⟩ := id r1
    refine .inl ⟨a, dx, _, e1, h1, ?_, (t, o2), k2, ⟨r1, r2, trivial⟩, fun v H' e r => q v H' e r⟩
    cases o2 with
    | inl t2 =>
      obtain ⟨b, dy, z2, e2, g1, g2⟩ := id r2
      exact .inl ⟨b, dy, _, e2, g1⟩
    | inr s => exact .inr (.inl ⟨s, r2⟩)
  | inr s =>
    cases o2 with
    | inl t2 =>
      obtain ⟨b, dy, z2, e2, g1, g2⟩ := id r2
      exact .inr ⟨b, dy, _, e2, g1, ⟨s, r1⟩, (t2, .inr s), k1, ⟨r2, r1, trivial⟩, fun v H' e r => q v H' e r⟩
    | inr s2 => rcases hl with z | z <;> cases z
theorem er_mul {n : Nat} (ha : Er ta σ H (RuleP K C t)) (hb : Er tb σ H (In (n : Int))) : Er (tOp (rOwnL C (spMul K C)) ta tb) σ H (RuleP K C (.tms t n)) := er_op ha hb fun x y H1 _ r1 r2 Q q => by
  obtain ⟨a, dx, z, e1, h1, h2⟩ := id r1
  exact ⟨a, dx, _, e1, h1, .inr (.inr ⟨n, r2⟩), (t, n), trivial, ⟨r1, r2, trivial⟩, fun v H' e r => q v H' e r⟩
theorem er_rmul {n : Nat} (ha : Er ta σ H (In (n : Int))) (hb : Er tb σ H (RuleP K C t)) : Er (tOp (rOwnI C (spMul K C)) ta tb) σ H (RuleP K C (.tms t n)) := er_op ha hb fun x y H1 _ r1 r2 Q q => by
  obtain ⟨a, dx, z, e1, h1, h2⟩ := id r2
  exact ⟨a, dx, _, e1, h1, ⟨n, r1⟩, (t, n), trivial, ⟨r2, r1, trivial⟩, fun v H' e r => q v H' e r⟩
end
/-! ### what a tree's base asks of its parts -/
def FitT : K54.T Str → Prop
  | .seen s => nameOk s.cps.toList = true
  | .one => True
  | .zero => True
  | .thn a b => FitT a ∧ FitT b ∧ ThnOk (tbase logO a) (tbase logO b)
  | .alt a b => FitT a ∧ FitT b ∧ BOk (tbase logO a ++ tbase logO b)
  | .all a b => FitT a ∧ FitT b ∧ BothOk (tbase logO a) (tbase logO b)
  | .tms a n => FitT a ∧ TimesOk (tbase logO a) n ∧ n ≤ 1000
section
variable {P : Program} {w : World} {K : PySem.W.Frag} {mg : Str → Option Value} {base : Heap} {C : Addr}
theorem sc_tree_base : FnScope ["tree", "word", "one", "other"] ["tree"] (defScope (sT 44)) := ⟨rfl, rfl, rfl, by decide +kernel, rfl, by decide +kernel, by decide +kernel⟩
abbrev spTreeBase (K : PySem.W.Frag) (n : Nat) : Sp := spF (fun t : K54.T Str => FitT t ∧ dep t < n) (fun t => [TreeP K t]) (fun t => LogsP K (tbase logO t))
theorem cl_tree_base (T : Txt K mg) (c_times : CTimes P w K mg base) (c_then : CThen P w K mg base) (c_both : CBoth P w K mg base) (c_either : CEither P w K mg base) (F : DefAt K mg "tree_base" (sT 44)) : ∀ n, Cl P w K mg base "tree_base" ["tree"] (7 + n) (spTreeBase K n)
  | 0 => by
    refine cl_of F sc_tree_base (fun _ _ _ _ _ _ us hl => match us, hl with | [_], _ => rfl) (fun _ => rfl) fun f cdv A outer s H E t vs hr hp hA => ?_
    exact absurd hp.2 (Nat.not_lt_zero _)
  | n + 1 => by
    have c_tree_base := cl_tree_base T c_times c_then c_both c_either F n
    refine cl_of F sc_tree_base (fun _ _ _ _ _ _ us hl => match us, hl with | [_], _ => rfl) (fun _ => rfl) fun f cdv A outer s H E t vs hr hp hA => ?_
    obtain ⟨v, rfl, h⟩ := al1 hA
    obtain ⟨hf, hd⟩ := hp
    refine ⟨_, (pss_cons (ps_set (i := 1) sc_tree_base.nd rfl (by first | exact Or.inl rfl | exact Or.inr rfl) (pe_ix (kIxT K rfl) (pv 0) pe_int (fun _ _ => rfl))) (pss_cons (ps_if (pt_cmpR op_eq (pv 1) (pe_gs T.g_SEEN) (nomark _)) (pss_one (ps_ret (pe_tup (pa_cons (pe_tup (pa_cons (pe_ix (kIxT K rfl) (pv 0) pe_int (fun _ _ => rfl)) pa_nil)) pa_nil)))) pss_nil) (pss_cons (ps_if (pt_cmpR (kIn K rfl) (pv 1) (pe_tup (pa_cons (pe_gs T.g_NOTHING_rules) (pa_cons (pe_gs T.g_NEVER_rules) pa_nil))) (by rfl)) (pss_one (ps_ret (pe_ifExp (pt_cmpR op_eq (pv 1) (pe_gs T.g_NOTHING_rules) (nomark _)) (pe_tup (pa_cons (pe_tup pa_nil) pa_nil)) (pe_tup pa_nil)))) pss_nil) (pss_cons (ps_set (i := 2) sc_tree_base.nd rfl (by first | exact Or.inl rfl | exact Or.inr rfl) (pe_cl c_tree_base hr (pa_cons (pe_ix (kIxT K rfl) (pv 0) pe_int (fun _ _ => rfl)) pa_nil))) (pss_cons (ps_if (pt_cmpR op_eq (pv 1) (pe_gs T.g_TIMES) (nomark _)) (pss_one (ps_ret (pe_cl c_times (hr.mono (show 6 ≤ 7 + n by omega)) (pa_cons (pv 2) (pa_cons (pe_ix (kIxT K rfl) (pv 0) pe_int (fun _ _ => rfl)) pa_nil))))) pss_nil) (pss_cons (ps_set (i := 3) sc_tree_base.nd rfl (by first | exact Or.inl rfl | exact Or.inr rfl) (pe_cl c_tree_base hr (pa_cons (pe_ix (kIxT K rfl) (pv 0) pe_int (fun _ _ => rfl)) pa_nil))) (pss_cons (ps_if (pt_cmpR op_eq (pv 1) (pe_gs T.g_THEN) (nomark _)) (pss_one (ps_ret (pe_cl c_then (hr.mono (show 5 ≤ 7 + n by omega)) (pa_cons (pv 2) (pa_cons (pv 3) pa_nil))))) pss_nil) (pss_one (ps_ret (pe_ifExp (pt_cmpR op_eq (pv 1) (pe_gs T.g_BOTH) (nomark _)) (pe_cl c_both (hr.mono (show 6 ≤ 7 + n by omega)) (pa_cons (pv 2) (pa_cons (pv 3) pa_nil))) (pe_cl c_either (hr.mono (show 6 ≤ 7 + n by omega)) (pa_cons (pv 2) (pa_cons (pv 3) pa_nil))))))))))))), fun Q q => ?_⟩
    cases t with
    | seen s =>
      refine q_asgR (er_ixT (i := 0) (er_var rfl h) er_is rfl) fun u H1 e1 r1 => ?_
      cases (show u = .str "seen" from r1)
      refine q_whenT (et_testR (er_eqS (er_var rfl rfl) er_is)) (by decide +kernel) fun H2 e2 => ?_
      exact s_retR (R := LogsP K [[s]]) (er_tup (Rs := [LogP K [s]]) (ea_1 (er_tup (Rs := [Sy s]) (ea_1 (er_ixT (i := 1) (er_var rfl ((TreeP K (.seen s)).up (e1.trans e2) h)) er_is rfl)) (by show 1 ≤ 100000; decide))) (by show 1 ≤ 100000; decide)) fun u H3 e3 r => q u H3 ((e1.trans e2).trans e3) r
    | one =>
      refine q_asgR (er_ixT (i := 0) (er_var rfl h) er_is rfl) fun u H1 e1 r1 => ?_
      cases (show u = .str "1" from r1)
      refine q_whenF (et_testR (er_eqS (er_var rfl rfl) er_is)) (by decide +kernel) fun H2 e2 => ?_
      refine q_whenT (et_inU (er_var (i := 1) rfl rfl) (eu_2 er_is er_is) rfl rfl) (by decide +kernel) fun H3 e3 => ?_
      exact s_retR (R := LogsP K [[]]) (er_if (b := true) (et_is (et_testR (er_eqS (er_var rfl rfl) er_is)) (by decide +kernel)) (fun z => er_tup (Rs := [LogP K []]) (ea_1 (er_tup (Rs := []) ea_nilR (by show 0 ≤ 100000; decide))) (by show 1 ≤ 100000; decide)) fun z => (by cases z)) fun u H4 e4 r => q u H4 (((e1.trans e2).trans e3).trans e4) r
    | zero =>
      refine q_asgR (er_ixT (i := 0) (er_var rfl h) er_is rfl) fun u H1 e1 r1 => ?_
      cases (show u = .str "0" from r1)
      refine q_whenF (et_testR (er_eqS (er_var rfl rfl) er_is)) (by decide +kernel) fun H2 e2 => ?_
      refine q_whenT (et_inU (er_var (i := 1) rfl rfl) (eu_2 er_is er_is) rfl rfl) (by decide +kernel) fun H3 e3 => ?_
      exact s_retR (R := LogsP K []) (er_if (b := false) (et_is (et_testR (er_eqS (er_var rfl rfl) er_is)) (by decide +kernel)) (fun z => (by cases z)) fun z => er_tup (Rs := []) ea_nilR (by show 0 ≤ 100000; decide)) fun u H4 e4 r => q u H4 (((e1.trans e2).trans e3).trans e4) r
    | thn a b =>
      have hda : dep a < n := Nat.lt_of_le_of_lt (Nat.le_max_left (dep a) (dep b)) (Nat.lt_of_succ_lt_succ hd)
      have hdb : dep b < n := Nat.lt_of_le_of_lt (Nat.le_max_right (dep a) (dep b)) (Nat.lt_of_succ_lt_succ hd)
      obtain ⟨fa, fb, fab⟩ := hf
      refine q_asgR (er_ixT (i := 0) (er_var rfl h) er_is rfl) fun u H1 e1 r1 => ?_
      cases (show u = .str ">>" from r1)
      refine q_whenF (et_testR (er_eqS (er_var rfl rfl) er_is)) (by decide +kernel) fun H2 e2 => ?_
      refine q_whenF (et_inU (er_var (i := 1) rfl rfl) (eu_2 er_is er_is) rfl rfl) (by decide +kernel) fun H3 e3 => ?_
      have e123 := (e1.trans e2).trans e3
      refine q_asgR (R := LogsP K (tbase logO a)) (er_call a ⟨fa, hda⟩ (ea_1 (er_ixT (i := 1) (er_var rfl ((TreeP K (.thn a b)).up e123 h)) er_is rfl))) fun ua H4 e4 ra => ?_
      refine q_whenF (et_testR (er_eqS (er_var rfl rfl) er_is)) (by decide +kernel) fun H5 e5 => ?_
      have e15 := (e123.trans e4).trans e5
      refine q_asgR (R := LogsP K (tbase logO b)) (er_call b ⟨fb, hdb⟩ (ea_1 (er_ixT (i := 2) (er_var rfl ((TreeP K (.thn a b)).up e15 h)) er_is rfl))) fun ub H6 e6 rb => ?_
      refine q_whenT (et_testR (er_eqS (er_var rfl rfl) er_is)) (by decide +kernel) fun H7 e7 => ?_
      exact s_retR (R := LogsP K (thnB logO (tbase logO a) (tbase logO b))) (er_call (tbase logO a, tbase logO b) fab (ea_2 (er_var rfl ((LogsP K _).up ((e5.trans e6).trans e7) ra)) (er_var rfl ((LogsP K _).up e7 rb)))) fun u H8 e8 r => q u H8 (((e15.trans e6).trans e7).trans e8) r
    | alt a b =>
      have hda : dep a < n := Nat.lt_of_le_of_lt (Nat.le_max_left (dep a) (dep b)) (Nat.lt_of_succ_lt_succ hd)
      have hdb : dep b < n := Nat.lt_of_le_of_lt (Nat.le_max_right (dep a) (dep b)) (Nat.lt_of_succ_lt_succ hd)
      obtain ⟨fa, fb, fab⟩ := hf
      refine q_asgR (er_ixT (i := 0) (er_var rfl h) er_is rfl) fun u H1 e1 r1 => ?_
      cases (show u = .str "|" from r1)
      refine q_whenF (et_testR (er_eqS (er_var rfl rfl) er_is)) (by decide +kernel) fun H2 e2 => ?_
      refine q_whenF (et_inU (er_var (i := 1) rfl rfl) (eu_2 er_is er_is) rfl rfl) (by decide +kernel) fun H3 e3 => ?_
      have e123 := (e1.trans e2).trans e3
      refine q_asgR (R := LogsP K (tbase logO a)) (er_call a ⟨fa, hda⟩ (ea_1 (er_ixT (i := 1) (er_var rfl ((TreeP K (.alt a b)).up e123 h)) er_is rfl))) fun ua H4 e4 ra => ?_
      refine q_whenF (et_testR (er_eqS (er_var rfl rfl) er_is)) (by decide +kernel) fun H5 e5 => ?_
      have e15 := (e123.trans e4).trans e5
      refine q_asgR (R := LogsP K (tbase logO b)) (er_call b ⟨fb, hdb⟩ (ea_1 (er_ixT (i := 2) (er_var rfl ((TreeP K (.alt a b)).up e15 h)) er_is rfl))) fun ub H6 e6 rb => ?_
      refine q_whenF (et_testR (er_eqS (er_var rfl rfl) er_is)) (by decide +kernel) fun H7 e7 => ?_
      exact s_retR (R := LogsP K (either logO (tbase logO a) (tbase logO b))) (er_if (b := false) (et_is (et_testR (er_eqS (er_var rfl rfl) er_is)) (by decide +kernel)) (fun z => (by cases z)) fun z => (er_call (tbase logO a, tbase logO b) fab (ea_2 (er_var rfl ((LogsP K _).up ((e5.trans e6).trans e7) ra)) (er_var rfl ((LogsP K _).up e7 rb))))) fun u H8 e8 r => q u H8 (((e15.trans e6).trans e7).trans e8) r
    | all a b =>
      have hda : dep a < n := Nat.lt_of_le_of_lt (Nat.le_max_left (dep a) (dep b)) (Nat.lt_of_succ_lt_succ hd)
      have hdb : dep b < n := Nat.lt_of_le_of_lt (Nat.le_max_right (dep a) (dep b)) (Nat.lt_of_succ_lt_succ hd)
      obtain ⟨fa, fb, fab⟩ := hf
      refine q_asgR (er_ixT (i := 0) (er_var rfl h) er_is rfl) fun u H1 e1 r1 => ?_
      cases (show u = .str "&" from r1)
      refine q_whenF (et_testR (er_eqS (er_var rfl rfl) er_is)) (by decide +kernel) fun H2 e2 => ?_
      refine q_whenF (et_inU (er_var (i := 1) rfl rfl) (eu_2 er_is er_is) rfl rfl) (by decide +kernel) fun H3 e3 => ?_
      have e123 := (e1.trans e2).trans e3
      refine q_asgR (R := LogsP K (tbase logO a)) (er_call a ⟨fa, hda⟩ (ea_1 (er_ixT (i := 1) (er_var rfl ((TreeP K (.all a b)).up e123 h)) er_is rfl))) fun ua H4 e4 ra => ?_
      refine q_whenF (et_testR (er_eqS (er_var rfl rfl) er_is)) (by decide +kernel) fun H5 e5 => ?_
      have e15 := (e123.trans e4).trans e5
      refine q_asgR (R := LogsP K (tbase logO b)) (er_call b ⟨fb, hdb⟩ (ea_1 (er_ixT (i := 2) (er_var rfl ((TreeP K (.all a b)).up e15 h)) er_is rfl))) fun ub H6 e6 rb => ?_
      refine q_whenF (et_testR (er_eqS (er_var rfl rfl) er_is)) (by decide +kernel) fun H7 e7 => ?_
      exact s_retR (R := LogsP K (both logO (tbase logO a) (tbase logO b))) (er_if (b := true) (et_is (et_testR (er_eqS (er_var rfl rfl) er_is)) (by decide +kernel)) (fun z => (er_call (tbase logO a, tbase logO b) fab (ea_2 (er_var rfl ((LogsP K _).up ((e5.trans e6).trans e7) ra)) (er_var rfl ((LogsP K _).up e7 rb))))) fun z => (by cases z)) fun u H8 e8 r => q u H8 (((e15.trans e6).trans e7).trans e8) r
    | tms a m =>
      have hda : dep a < n := Nat.lt_of_succ_lt_succ hd
      obtain ⟨fa, ft⟩ := hf
      refine q_asgR (er_ixT (i := 0) (er_var rfl h) er_is rfl) fun u H1 e1 r1 => ?_
      cases (show u = .str "*" from r1)
      refine q_whenF (et_testR (er_eqS (er_var rfl rfl) er_is)) (by decide +kernel) fun H2 e2 => ?_
      refine q_whenF (et_inU (er_var (i := 1) rfl rfl) (eu_2 er_is er_is) rfl rfl) (by decide +kernel) fun H3 e3 => ?_
      have e123 := (e1.trans e2).trans e3
      refine q_asgR (R := LogsP K (tbase logO a)) (er_call a ⟨fa, hda⟩ (ea_1 (er_ixT (i := 1) (er_var rfl ((TreeP K (.tms a m)).up e123 h)) er_is rfl))) fun ua H4 e4 ra => ?_
      refine q_whenT (et_testR (er_eqS (er_var rfl rfl) er_is)) (by decide +kernel) fun H5 e5 => ?_
      have e15 := (e123.trans e4).trans e5
      exact s_retR (R := LogsP K (timesN logO (tbase logO a) m)) (er_call (tbase logO a, m) ft (ea_2 (er_var rfl ((LogsP K _).up e5 ra)) (er_ixT (i := 2) (er_var rfl ((TreeP K (.tms a m)).up e15 h)) er_is rfl))) fun u H6 e6 r => q u H6 (e15.trans e6) r
end
end K54
/-! KJ: rules.py's base .. parting, in. -/
set_option Elab.async false
set_option linter.all false
set_option maxRecDepth 100000
set_option maxHeartbeats 400000
namespace K54
open PySem PySem.W PySem.Calls PyProof.Rows L2 Evl
theorem lok_nil : LOk [] := ⟨Nat.zero_le _, fun s h => by cases h⟩
theorem bok_tree : ∀ {t : K54.T Str}, FitT t → BOk (tbase logO t)
  | .seen s, h => ⟨by show 1 < 64; decide, fun l hl => by
    rw [List.mem_singleton.mp hl]
    exact ⟨by show 1 ≤ 1000; decide, fun s' hs => by rw [List.mem_singleton.mp hs]; exact h⟩⟩
  | .one, _ => ⟨by show 1 < 64; decide, fun l hl => by rw [List.mem_singleton.mp hl]; exact lok_nil⟩
  | .zero, _ => ⟨by show 0 < 64; decide, fun l hl => by cases hl⟩
  | .thn a b, h => bok_order h.2.2.fab
  | .alt a b, h => bok_least h.2.2
  | .all a b, h => bok_least h.2.2.fab
  | .tms a n, h => by
    cases n with
    | zero => exact ⟨by show 1 < 64; decide, fun l hl => by rw [List.mem_singleton.mp hl]; exact lok_nil⟩
    | succ k => exact bok_order (h.2.1 k (Nat.lt_succ_self k)).fab
def RuleOk (t : K54.T Str) : Prop := FitT t ∧ dep t < 30
section
variable {P : Program} {w : World} {K : PySem.W.Frag} {mg : Str → Option Value} {base : Heap} {C : Addr}
abbrev CTreeBase (P : Program) (w : World) (K : PySem.W.Frag) (mg : Str → Option Value) (base : Heap) := Cl P w K mg base "tree_base" ["tree"] 37 (spTreeBase K 30)
theorem sc_base : FnScope ["rule"] ["rule"] (defScope (sT 45)) := ⟨rfl, rfl, rfl, by decide +kernel, rfl, by decide +kernel, by decide +kernel⟩
abbrev spBase (K : PySem.W.Frag) (C : Addr) : Sp := spF RuleOk (fun t => [RuleP K C t]) (fun t => LogsP K (tbase logO t))
abbrev CBase (P : Program) (w : World) (K : PySem.W.Frag) (mg : Str → Option Value) (base : Heap) (C : Addr) := Cl P w K mg base "base" ["rule"] 38 (spBase K C)
theorem cl_base (R : RuleF K mg C) (c_tree_base : CTreeBase P w K mg base) (F : DefAt K mg "base" (sT 45)) : CBase P w K mg base C := by
  refine cl_of F sc_base (fun _ _ _ _ _ _ us hl => match us, hl with | [_], _ => rfl) (fun _ => rfl) fun f cdv A outer s H E t vs hr hp hA => ?_
  obtain ⟨v, rfl, h⟩ := al1 hA
  refine ⟨_, (pss_one (ps_ret (pe_cl c_tree_base (hr.mono (by first | decide | omega)) (pa_cons (kFld K rfl (pv 0) rfl) pa_nil)))), fun Q q => ?_⟩
  exact s_retR (er_call t hp (ea_1 (er_tree R (er_var rfl h)))) q
theorem sc_Rule___contains__ : FnScope ["self", "log"] ["self", "log"] (defScope (sM 37 3)) := ⟨rfl, rfl, rfl, by decide +kernel, rfl, by decide +kernel, by decide +kernel⟩
abbrev spHas (K : PySem.W.Frag) (C : Addr) : Sp := spF (fun p : K54.T Str × Log => RuleOk p.1 ∧ p.2.length ≤ 1000) (fun p => [RuleP K C p.1, LogP K p.2]) (fun p => Bo (does (tbase logO p.1) p.2))
abbrev MHas (P : Program) (w : World) (K : PySem.W.Frag) (mg : Str → Option Value) (base : Heap) (C : Addr) := Mt P w K mg base C "__contains__" ["self", "log"] 38 (spHas K C)
theorem mt_has (R : RuleF K mg C) (c_tree_base : CTreeBase P w K mg base) (c_tupled : CTupled P w K mg base) (c_does : CDoes P w K mg base) (F : MetAt K C "__contains__" "Rule.__contains__" (sM 37 3)) : MHas P w K mg base C := by
  refine mt_of F sc_Rule___contains__ (fun _ _ _ _ _ _ us hl => match us, hl with | [_, _], _ => rfl) (fun _ => rfl) fun f cdv A outer s H E p vs hr hp hA => ?_
  obtain ⟨t, l⟩ := p
  obtain ⟨v1, v2, rfl, h1, h2⟩ := al2 hA
  refine ⟨_, (pss_one (ps_ret (pe_cl c_does (hr.mono (by first | decide | omega)) (pa_cons (pe_cl c_tree_base (hr.mono (by first | decide | omega)) (pa_cons (kFld K rfl (pv 0) rfl) pa_nil)) (pa_cons (pe_cl c_tupled (hr.mono (by first | decide | omega)) (pa_cons (pv 1) pa_nil)) pa_nil))))), fun Q q => ?_⟩
  exact s_retR (er_call (tbase logO t, l) (Nat.le_trans (Nat.le_of_lt (bok_tree hp.1.1).1) (by decide)) (ea_2 (er_call t hp.1 (ea_1 (er_tree R (er_var rfl h1)))) (er_call (LogP K l, LogP K l) (tpd_log (isL := false) (Nat.le_trans hp.2 (by decide))) (ea_1 (er_var rfl h2))))) q
/-! ### word_rule, rule_of -/
theorem sc_word_rule : FnScope ["word", "found", "name"] ["word"] (defScope (sT 46)) := ⟨rfl, rfl, rfl, by decide +kernel, rfl, by decide +kernel, by decide +kernel⟩
abbrev spWordRule (K : PySem.W.Frag) (C : Addr) : Sp := spF LOk (fun l => [LogP K l]) (fun l => RuleP K C (wordT l))
abbrev CWordRule (P : Program) (w : World) (K : PySem.W.Frag) (mg : Str → Option Value) (base : Heap) (C : Addr) := Cl P w K mg base "word_rule" ["word"] 5 (spWordRule K C)
def wordT0 : Log → K54.T Str
  | [] => .one
  | x :: _ => .seen x
theorem wordT_fold (l : Log) : wordT l = (l.drop 1).foldl (fun t y => .thn t (.seen y)) (wordT0 l) := by cases l <;> rfl
theorem cl_word_rule (T : Txt K mg) (O : Ops P w K mg base C) (c_seen : CSeen P w K mg base C) (F : DefAt K mg "word_rule" (sT 46)) : CWordRule P w K mg base C := by
  refine cl_of F sc_word_rule (fun _ _ _ _ _ _ us hl => match us, hl with | [_], _ => rfl) (fun _ => rfl) fun f cdv A outer s H E l vs hr hp hA => ?_
  obtain ⟨v, rfl, h⟩ := al1 hA
  have R := O.R
  refine ⟨_, (pss_cons (ps_set (i := 1) sc_word_rule.nd rfl (by first | exact Or.inl rfl | exact Or.inr rfl) (pe_ifExp (pt_cmpR op_eq (pe_callB (kLen K rfl) (by rfl) T.len (by decide +kernel) (pa_cons (pv 0) pa_nil)) pe_int (nomark _)) (pe_rule R (hr.mono (by decide)) (pa_cons (pe_tup (pa_cons (pe_gs T.g_NOTHING_rules) pa_nil)) pa_nil)) (pe_cl c_seen (hr.mono (by first | decide | omega)) (pa_cons (pe_ix (kIxT K rfl) (pv 0) pe_int (fun _ _ => rfl)) pa_nil)))) (pss_cons (ps_for PassesOwn.never rfl (kPiT K rfl (pe_slice (kSlT K rfl) (pv 0) (po_some pe_int) po_none)) (pg_name (i := 2) sc_word_rule.nd rfl (by first | exact Or.inl rfl | exact Or.inr rfl)) (pss_one (ps_set (i := 1) sc_word_rule.nd rfl (by first | exact Or.inl rfl | exact Or.inr rfl) (pe_op (opThn O hr) (pv 1) (pv 2))))) (pss_one (ps_ret (pv 1))))), fun Q q => ?_⟩
  refine q_asgR (R := RuleP K C (wordT0 l)) (er_if (b := decide (((l.length : Nat) : Int) = 0)) (et_testR (er_eqI (er_lenM (er_var rfl h)) er_is)) (fun hz => ?_) (fun hz => ?_)) fun u H1 e1 r1 => ?_
  · rw [decide_eq_true_eq] at hz
    rw [List.eq_nil_of_length_eq_zero (show l.length = 0 by omega)]
    exact er_rule (t := .one) (er_tup (ea_1 er_is) (by show 1 ≤ 100000; decide))
  · rw [decide_eq_false_iff_not] at hz
    cases l with
    | nil => exact absurd rfl hz
    | cons x r => exact er_call x (hp.2 x (List.mem_cons_self ..)) (ea_1 (er_ixM (i := 0) (er_var rfl h) er_is rfl))
  · refine q_forT' (l.drop 1) Sy (fun _ => im_sy) (er_dropM (k := 1) (er_var rfl ((LogP K l).up e1 h)) er_is) fun H2 e2 => ?_
    refine ⟨fun i σ' H' => Ex H2 H' ∧ ∃ x y, σ' = [some v, some x, y] ∧ (RuleP K C (((l.drop 1).take i).foldl (fun t y => .thn t (.seen y)) (wordT0 l))).r H' x, ⟨Ex.refl H2, u, none, rfl, (RuleP K C _).up e2 r1⟩, fun i σ' H' hx => kp_ex hx.1, fun i n nv σ' H' hn hx hv => ?_, fun σ' H' hx => ?_⟩
    · obtain ⟨ex, x, y, rfl, rx⟩ := hx
      refine s_asgR (er_bin (mk := .thn) (o1 := .inl _) (o2 := .inr n) (er_var rfl rx) (er_var rfl hv) trivial (hp.2 n (List.mem_of_mem_drop (List.mem_of_getElem? hn))) (.inl rfl)) fun z H3 e3 r3 => ⟨ex.trans e3, z, some nv, rfl, ?_⟩
      rw [foldl_take hn]
      exact r3
    · obtain ⟨ex, x, y, rfl, rx⟩ := hx
      rw [List.take_length, ← wordT_fold] at rx
      exact s_retR (er_var rfl rx) fun z H3 e3 r3 => q z H3 (((e1.trans e2).trans ex).trans e3) r3
theorem sc_rule_of : FnScope ["words", "found", "word"] ["words"] (defScope (sT 47)) := ⟨rfl, rfl, rfl, by decide +kernel, rfl, by decide +kernel, by decide +kernel⟩
abbrev spRuleOf (K : PySem.W.Frag) (C : Addr) : Sp := spF BOk (fun b => [LogsP K b]) (fun b => RuleP K C (ruleOfT b))
abbrev CRuleOf (P : Program) (w : World) (K : PySem.W.Frag) (mg : Str → Option Value) (base : Heap) (C : Addr) := Cl P w K mg base "rule_of" ["words"] 6 (spRuleOf K C)
theorem cl_rule_of (T : Txt K mg) (O : Ops P w K mg base C) (c_never : CNever P w K mg base C) (c_word_rule : CWordRule P w K mg base C) (F : DefAt K mg "rule_of" (sT 47)) : CRuleOf P w K mg base C := by
  refine cl_of F sc_rule_of (fun _ _ _ _ _ _ us hl => match us, hl with | [_], _ => rfl) (fun _ => rfl) fun f cdv A outer s H E b vs hr hp hA => ?_
  obtain ⟨v, rfl, h⟩ := al1 hA
  refine ⟨_, (pss_cons (ps_if (pt_cmpR op_eq (pe_callB (kLen K rfl) (by rfl) T.len (by decide +kernel) (pa_cons (pv 0) pa_nil)) pe_int (nomark _)) (pss_one (ps_ret (pe_cl0 c_never (hr.mono (by first | decide | omega))))) pss_nil) (pss_cons (ps_set (i := 1) sc_rule_of.nd rfl (by first | exact Or.inl rfl | exact Or.inr rfl) (pe_cl c_word_rule (hr.mono (by first | decide | omega)) (pa_cons (pe_ix (kIxT K rfl) (pv 0) pe_int (fun _ _ => rfl)) pa_nil))) (pss_cons (ps_for PassesOwn.never rfl (kPiT K rfl (pe_slice (kSlT K rfl) (pv 0) (po_some pe_int) po_none)) (pg_name (i := 2) sc_rule_of.nd rfl (by first | exact Or.inl rfl | exact Or.inr rfl)) (pss_one (ps_set (i := 1) sc_rule_of.nd rfl (by first | exact Or.inl rfl | exact Or.inr rfl) (pe_op (opAlt O (hr.mono (by decide))) (pv 1) (pe_cl c_word_rule (hr.mono (by first | decide | omega)) (pa_cons (pv 2) pa_nil)))))) (pss_one (ps_ret (pv 1)))))), fun Q q => ?_⟩
  refine q_when (b := decide (((b.length : Nat) : Int) = 0)) (et_testR (er_eqI (er_lenM (er_var rfl h)) er_is)) (fun hz H1 e1 => ?_) (fun hz H1 e1 => ?_)
  · rw [decide_eq_true_eq] at hz
    have hb := List.eq_nil_of_length_eq_zero (show b.length = 0 by omega)
    subst hb
    exact s_retR (er_call () trivial ea_nilR) fun z H3 e3 r3 => q z H3 (e1.trans e3) r3
  · rw [decide_eq_false_iff_not] at hz
    cases b with
    | nil => exact absurd rfl hz
    | cons x r =>
      have h := (LogsP K (x :: r)).up e1 h
      refine q_asgR (R := RuleP K C (wordT x)) (er_call x (hp.2 x (List.mem_cons_self ..)) (ea_1 (er_ixM (i := 0) (er_var rfl h) er_is rfl))) fun u H2 e2 r1 => ?_
      refine q_forT' r (LogP K) (fun _ => im_log) (er_dropM (l := x :: r) (k := 1) (er_var rfl ((LogsP K _).up e2 h)) er_is) fun H3 e3 => ?_
      refine ⟨fun i σ' H' => Ex H3 H' ∧ ∃ y z, σ' = [some v, some y, z] ∧ (RuleP K C ((r.take i).foldl (fun t v => .alt t (wordT v)) (wordT x))).r H' y, ⟨Ex.refl H3, u, none, rfl, (RuleP K C _).up e3 r1⟩, fun i σ' H' hx => kp_ex hx.1, fun i n nv σ' H' hn hx hv => ?_, fun σ' H' hx => ?_⟩
      · obtain ⟨ex, y, z, rfl, rx⟩ := hx
        refine s_asgR (er_bin (mk := .alt) (o1 := .inl _) (o2 := .inl (wordT n)) (er_var rfl rx) (er_call n (hp.2 n (List.mem_cons_of_mem _ (List.mem_of_getElem? hn))) (ea_1 (er_var rfl hv))) trivial trivial (.inl rfl)) fun z H4 e4 r3 => ⟨ex.trans e4, z, some nv, rfl, ?_⟩
        rw [foldl_take hn]
        exact r3
      · obtain ⟨ex, y, z, rfl, rx⟩ := hx
        rw [List.take_length] at rx
        exact s_retR (er_var rfl rx) fun z H4 e4 r3 => q z H4 ((((e1.trans e2).trans e3).trans ex).trans e4) r3
/-! ### alike, goes_with, parting -/
theorem sc_alike : FnScope ["rule", "other"] ["rule", "other"] (defScope (sT 48)) := ⟨rfl, rfl, rfl, by decide +kernel, rfl, by decide +kernel, by decide +kernel⟩
abbrev spAlike (K : PySem.W.Frag) (C : Addr) : Sp := spF (fun p : K54.T Str × K54.T Str => RuleOk p.1 ∧ RuleOk p.2) (fun p => [RuleP K C p.1, RuleP K C p.2]) (fun p => Bo (decide (tbase logO p.1 = tbase logO p.2)))
abbrev CAlike (P : Program) (w : World) (K : PySem.W.Frag) (mg : Str → Option Value) (base : Heap) (C : Addr) := Cl P w K mg base "alike" ["rule", "other"] 39 (spAlike K C)
theorem cl_alike (c_base : CBase P w K mg base C) (F : DefAt K mg "alike" (sT 48)) : CAlike P w K mg base C := by
  refine cl_of F sc_alike (fun _ _ _ _ _ _ us hl => match us, hl with | [_, _], _ => rfl) (fun _ => rfl) fun f cdv A outer s H E p vs hr hp hA => ?_
  obtain ⟨a, b⟩ := p
  obtain ⟨v1, v2, rfl, h1, h2⟩ := al2 hA
  refine ⟨_, (pss_one (ps_ret (pe_cmpR (kEqD K hr.units rfl) (pe_cl c_base (hr.mono (by first | decide | omega)) (pa_cons (pv 0) pa_nil)) (pe_cl c_base (hr.mono (by first | decide | omega)) (pa_cons (pv 1) pa_nil)) (nomark _)))), fun Q q => ?_⟩
  exact s_retR (er_eqB (er_call a hp.1 (ea_1 (er_var rfl h1))) (er_call b hp.2 (ea_1 (er_var rfl h2))) (bok_tree hp.1.1) (bok_tree hp.2.1)) q
theorem sc_goes_with : FnScope ["rule", "other"] ["rule", "other"] (defScope (sT 49)) := ⟨rfl, rfl, rfl, by decide +kernel, rfl, by decide +kernel, by decide +kernel⟩
abbrev spGoes (K : PySem.W.Frag) (C : Addr) : Sp := spF (fun p : K54.T Str × K54.T Str => RuleOk p.1 ∧ RuleOk p.2) (fun p => [RuleP K C p.1, RuleP K C p.2]) (fun p => Bo (isInside (tbase logO p.2) (tbase logO p.1)))
abbrev CGoes (P : Program) (w : World) (K : PySem.W.Frag) (mg : Str → Option Value) (base : Heap) (C : Addr) := Cl P w K mg base "goes_with" ["rule", "other"] 39 (spGoes K C)
theorem cl_goes_with (c_base : CBase P w K mg base C) (c_is_inside : CIsInside P w K mg base) (F : DefAt K mg "goes_with" (sT 49)) : CGoes P w K mg base C := by
  refine cl_of F sc_goes_with (fun _ _ _ _ _ _ us hl => match us, hl with | [_, _], _ => rfl) (fun _ => rfl) fun f cdv A outer s H E p vs hr hp hA => ?_
  obtain ⟨a, b⟩ := p
  obtain ⟨v1, v2, rfl, h1, h2⟩ := al2 hA
  refine ⟨_, (pss_one (ps_ret (pe_cl c_is_inside (hr.mono (by first | decide | omega)) (pa_cons (pe_cl c_base (hr.mono (by first | decide | omega)) (pa_cons (pv 1) pa_nil)) (pa_cons (pe_cl c_base (hr.mono (by first | decide | omega)) (pa_cons (pv 0) pa_nil)) pa_nil))))), fun Q q => ?_⟩
  exact s_retR (er_call (tbase logO b, tbase logO a) ⟨Nat.le_trans (Nat.le_of_lt (bok_tree hp.2.1).1) (by decide), Nat.le_trans (Nat.le_of_lt (bok_tree hp.1.1).1) (by decide)⟩ (ea_2 (er_call b hp.2 (ea_1 (er_var rfl h2))) (er_call a hp.1 (ea_1 (er_var rfl h1))))) q
def partingM (a b : List Log) : Option Log := (inOrder logO ([outsideM a b, outsideM b a].filterMap id)).head?
theorem im_opt {o : Option Log} : Im (OptP K o) := by
  cases o with
  | none => exact im_is
  | some l => exact im_log
theorem et_notN {σ : L2.St} {H : Hp} {ta : TE} {o : Option Log} (ha : Er ta σ H (OptP K o)) : EvT (tTest (tOp (fun x y H Q => y = .non ∧ Q (.bl (!decide (x = .non))) H) ta (tC .non))) σ H o.isSome := et_testR (er_op (Rb := Is .non) ha er_is fun x y H1 _ r1 r2 Q q => by
  cases (show y = _ from r2)
  refine ⟨rfl, q _ H1 (Ex.refl H1) ?_⟩
  cases o with
  | none =>
    cases (show x = _ from r1)
    rfl
  | some l =>
    obtain ⟨a, vs, rfl, _⟩ := r1
    rfl)
theorem opts_two (a b : Option Log) : (([a, b].filter (·.isSome)).map fun o => LogP K (o.getD [])) = ([a, b].filterMap id).map (LogP K) := by cases a <;> cases b <;> rfl
theorem order_head {l : List Log} (h : l ≠ []) : ∃ x, (inOrder logO l).head? = some x ∧ (inOrder logO l)[0]? = some x := by
  cases e : inOrder logO l with
  | nil =>
    cases l with
    | nil => exact absurd rfl h
    | cons y r =>
      have : y ∈ inOrder logO (y :: r) := mem_inOrder.mpr (List.mem_cons_self ..)
      rw [e] at this
      cases this
  | cons x r => exact ⟨x, rfl, rfl⟩
theorem sc_parting : FnScope ["rule", "other", "found", "log"] ["rule", "other"] (defScope (sT 50)) := ⟨rfl, rfl, rfl, by decide +kernel, rfl, by decide +kernel, by decide +kernel⟩
abbrev spParting (K : PySem.W.Frag) (C : Addr) : Sp := spF (fun p : K54.T Str × K54.T Str => RuleOk p.1 ∧ RuleOk p.2) (fun p => [RuleP K C p.1, RuleP K C p.2]) (fun p => OptP K (partingM (tbase logO p.1) (tbase logO p.2)))
abbrev CParting (P : Program) (w : World) (K : PySem.W.Frag) (mg : Str → Option Value) (base : Heap) (C : Addr) := Cl P w K mg base "parting" ["rule", "other"] 39 (spParting K C)
theorem cl_parting (T : Txt K mg) (c_base : CBase P w K mg base C) (c_outside : COutside P w K mg base) (c_in_order : CInOrder P w K mg base) (F : DefAt K mg "parting" (sT 50)) : CParting P w K mg base C := by
  refine cl_of F sc_parting (fun _ _ _ _ _ _ us hl => match us, hl with | [_, _], _ => rfl) (fun _ => rfl) fun f cdv A outer s H E p vs hr hp hA => ?_
  obtain ⟨a, b⟩ := p
  obtain ⟨v1, v2, rfl, h1, h2⟩ := al2 hA
  refine ⟨_, (pss_cons (ps_setLc (i := 2) (own := [("log", 3)]) (g := gName 3) (by rfl) sc_parting.nd rfl rfl (sw_true rfl rfl rfl (by decide +kernel)) (kPiT K rfl (pe_tup (pa_cons (pe_cl c_outside (hr.mono (by first | decide | omega)) (pa_cons (pe_cl c_base (hr.mono (by first | decide | omega)) (pa_cons (pv 0) pa_nil)) (pa_cons (pe_cl c_base (hr.mono (by first | decide | omega)) (pa_cons (pv 1) pa_nil)) pa_nil))) (pa_cons (pe_cl c_outside (hr.mono (by first | decide | omega)) (pa_cons (pe_cl c_base (hr.mono (by first | decide | omega)) (pa_cons (pv 1) pa_nil)) (pa_cons (pe_cl c_base (hr.mono (by first | decide | omega)) (pa_cons (pv 0) pa_nil)) pa_nil))) pa_nil)))) (blkOk_by (own := [("log", 3)]) (N := ["rule", "other", "found", "log"]) (sc := defScope (sT 50)) (by decide +kernel)) (fun _ _ _ _ _ => (pg_name (i := 3) sc_parting.nd rfl (by first | exact Or.inl rfl | exact Or.inr rfl))) (fun _ _ _ _ _ => pts_one (pt_cmpR op_notN (pv 3) pe_non (nomark _))) (fun _ _ _ _ _ => (pv 3))) (pss_one (ps_ret (pe_ifExp (pt_cmpR op_gt (pe_callB (kLen K rfl) (by rfl) T.len (by decide +kernel) (pa_cons (pv 2) pa_nil)) pe_int (nomark _)) (pe_ix (kIxL K rfl) (pe_cl c_in_order (hr.mono (by first | decide | omega)) (pa_cons (pv 2) pa_nil)) pe_int (fun _ _ => rfl)) pe_non)))), fun Q q => ?_⟩
  have ba := bok_tree hp.1.1
  have bb := bok_tree hp.2.1
  have hle : ([outsideM (tbase logO a) (tbase logO b), outsideM (tbase logO b) (tbase logO a)].filterMap id).length ≤ 2 := List.length_filterMap_le _ _
  refine q_asgR (er_lcT [outsideM (tbase logO a) (tbase logO b), outsideM (tbase logO b) (tbase logO a)] (OptP K) (·.isSome) (fun o => LogP K (o.getD []))
    (er_tup (ea_2 (er_call (tbase logO a, tbase logO b) ⟨ba, bb⟩ (ea_2 (er_call a hp.1 (ea_1 (er_var rfl h1))) (er_call b hp.2 (ea_1 (er_var rfl h2))))) (er_call (tbase logO b, tbase logO a) ⟨bb, ba⟩ (ea_2 (er_call b hp.2 (ea_1 (er_var rfl h2))) (er_call a hp.1 (ea_1 (er_var rfl h1)))))) (by show 2 ≤ 100000; decide))
    (fun _ => im_log) (by show 2 ≤ 40000; decide) (fun _ => rfl) (fun o x H1 ho e1 hx => et_notN (er_var rfl hx)) fun o x H1 ho e1 hx hs => ?_) fun u H1 e1 r1 => ?_
  · cases o with
    | none => cases hs
    | some l => exact er_var rfl hx
  · rw [opts_two] at r1
    have ep : partingM (tbase logO a) (tbase logO b) = (inOrder logO ([outsideM (tbase logO a) (tbase logO b), outsideM (tbase logO b) (tbase logO a)].filterMap id)).head? := rfl
    generalize ([outsideM (tbase logO a) (tbase logO b), outsideM (tbase logO b) (tbase logO a)].filterMap id) = fs at r1 ep hle
    refine s_retR (R := OptP K (partingM (tbase logO a) (tbase logO b))) (er_if (b := decide ((0 : Int) < (fs.length : Nat))) (et_testR (er_gt (er_lenN (er_var rfl r1)) er_is)) (fun hz => ?_) (fun hz => ?_)) fun z H3 e3 r3 => q z H3 (e1.trans e3) r3
    · have hne : fs ≠ [] := by
        rintro rfl
        cases hz
      obtain ⟨x, hx1, hx2⟩ := order_head hne
      rw [ep, hx1]
      exact er_ixN (S := LogP K) (i := 0) (er_call (true, fs) (Nat.lt_of_le_of_lt hle (by decide : (2 : Nat) < 64)) (ea_1 (er_var rfl r1))) er_is hx2
    · have hnil : fs = [] := by
        rw [decide_eq_false_iff_not] at hz
        exact List.eq_nil_of_length_eq_zero (by omega)
      rw [ep, hnil]
      exact er_is
end
end K54
/-! KK: rules.py's texts. -/
set_option Elab.async false
set_option linter.all false
set_option maxRecDepth 100000
set_option maxHeartbeats 400000
namespace K54
open PySem PySem.W PySem.Calls PyProof.Rows L2 Evl
def cpsS (s : Str) : Sym := s.cps.toList
def strL (l : Sym) : Str := ⟨l.toArray⟩
theorem strL_cps (s : Str) : strL (cpsS s) = s := by
  unfold strL cpsS
  rfl
theorem cps_strL (l : Sym) : cpsS (strL l) = l := by
  unfold strL cpsS
  simp
theorem strL_app (a b : Sym) : strL a ++ strL b = strL (a ++ b) := by
  have h : (strL a ++ strL b).cps = (strL (a ++ b)).cps := by
    rw [PySem.Str.cps_append]
    unfold strL
    simp
  calc strL a ++ strL b = ⟨(strL a ++ strL b).cps⟩ := rfl
    _ = ⟨(strL (a ++ b)).cps⟩ := by rw [h]
    _ = strL (a ++ b) := rfl
theorem strL_len (l : Sym) : (strL l).length = l.length := by
  show l.toArray.size = l.length
  simp
def SyL (l : Sym) : Pr := Sy (strL l)
theorem syl_of {s : Str} : Sy s = SyL (cpsS s) := by unfold SyL; rw [strL_cps]
section
variable {σ : L2.St} {H : Hp} {K : PySem.W.Frag} {te ta tb : TE}
inductive Js (σ : L2.St) (H : Hp) : List TE → List Sym → Prop where
  | nil : Js σ H [] []
  | cons {t : TE} {l : Sym} {ts : List TE} {ls : List Sym} (h : Er t σ H (SyL l)) (r : Js σ H ts ls) : Js σ H (t :: ts) (l :: ls)
theorem js_run {ts : List TE} {ls : List Sym} (h : Js σ H ts ls) : ∀ (acc : Sym) (H1 : Hp) (Q : Str → Hp → Prop), Ex H H1 → (acc ++ ls.flatten).length ≤ 100000 → (∀ H2, Ex H1 H2 → Q (strL (acc ++ ls.flatten)) H2) → tJs ts (strL acc) σ H1 Q := by
  induction h with
  | nil =>
    intro acc H1 Q e hz q
    have := q H1 (Ex.refl H1)
    rw [List.flatten_nil, List.append_nil] at this
    exact this
  | @cons t l ts ls h r ih =>
    intro acc H1 Q e hz q
    rw [List.flatten_cons, ← List.append_assoc] at hz q
    refine h H1 e _ fun v H2 e2 rv => ⟨strL l, rv, ?_, ?_⟩
    · rw [strL_app, strL_len]
      rw [List.length_append] at hz
      exact sz_of (by omega)
    · rw [strL_app]
      exact ih (acc ++ l) H2 Q (e.trans e2) hz fun H3 e3 => q H3 (e2.trans e3)
def tJd (ts : List TE) : TE := fun σ H Q => tJs ts Str.empty σ H fun out H1 => Q (.str out) H1
theorem er_jd {ts : List TE} {ls : List Sym} (h : Js σ H ts ls) (hz : ls.flatten.length ≤ 100000) : Er (tJd ts) σ H (SyL ls.flatten) := fun H1 e Q q =>
  js_run h [] H1 (fun out H2 => Q (.str out) H2) e (by simpa using hz) fun H2 e2 => q _ H2 e2 rfl
theorem er_fmtS {l : Sym} (h : Er te σ H (SyL l)) (hz : l.length ≤ 100000) : Er (tFmt te) σ H (SyL l) := fun H1 e Q q => h H1 e _ fun v H2 e2 r => .inl ⟨strL l, r, sz_of (by rw [strL_len]; exact hz), q _ H2 e2 rfl⟩
theorem er_fmtI {i : Int} {l : Sym} (h : Er te σ H (In i)) (hz : i.natAbs.log2 < 1920) (hl : (toString i : Str) = strL l) : Er (tFmt te) σ H (SyL l) := fun H1 e Q q => h H1 e _ fun v H2 e2 r => .inr ⟨i, r, hz, by rw [hl]; exact q _ H2 e2 rfl⟩
/-! ### BOUND -/
def headS : K54.T Str → Str
  | .seen _ => "seen"
  | .one => "1"
  | .zero => "0"
  | .thn _ _ => ">>"
  | .alt _ _ => "|"
  | .all _ _ => "&"
  | .tms _ _ => "*"
/-- the module's table -/
structure Bnd (K : PySem.W.Frag) (w : World) (a : Addr) : Prop where
  b0 : KDct K w a "seen" (.int 4)
  b1 : KDct K w a "1" (.int 4)
  b2 : KDct K w a "0" (.int 4)
  b3 : KDct K w a "*" (.int 3)
  b4 : KDct K w a ">>" (.int 2)
  b5 : KDct K w a "&" (.int 1)
  b6 : KDct K w a "|" (.int 0)
theorem Bnd.at {w : World} {a : Addr} (B : Bnd K w a) : ∀ t : K54.T Str, KDct K w a (headS t) (.int (bnd t : Nat))
  | .seen _ => B.b0
  | .one => B.b1
  | .zero => B.b2
  | .thn _ _ => B.b4
  | .alt _ _ => B.b6
  | .all _ _ => B.b5
  | .tms _ _ => B.b3
theorem kIxD {X : Cx} (K : PySem.W.Frag) (w : World) (h : X.K = K) (hw : X.w = w) : IxR X (rIxD K w) := by subst h hw; exact ix_kdict
theorem er_bnd {w : World} {a : Addr} {z : Str} {i : Int} (h : KDct K w a z (.int i)) (ha : Er ta σ H (Is (.ref a))) (hb : Er tb σ H (Sy z)) : Er (tOp (rIxD K w) ta tb) σ H (In i) :=
  er_op ha hb fun x y H1 _ r1 r2 Q q => ⟨a, z, .int i, r1, r2, h, q _ H1 (Ex.refl H1) rfl⟩
theorem er_head {t : K54.T Str} (ha : Er ta σ H (TreeP K t)) : Er (tOp (rIxT K) ta (tC (.int 0))) σ H (Sy (headS t)) := by
  cases t <;> exact er_ixT (i := 0) ha er_is rfl
end
/-! ### lengths -/
theorem wrap_len (t : K54.T Str) (k : Nat) (x : Sym) : x.length ≤ (wrapL t k x).length := by
  unfold wrapL
  split
  · exact Nat.le_refl _
  · simp only [List.length_cons, List.length_append]
    omega
def TxOk (t : K54.T Str) : Prop := TOk cpsS t ∧ (textL cpsS t).length ≤ 30000
theorem wrap_le {t : K54.T Str} {k : Nat} {x : Sym} (h : x.length ≤ 30000) : (wrapL t k x).length ≤ 30002 := by
  unfold wrapL
  split
  · omega
  · simp only [List.length_cons, List.length_append]
    show x.length + 1 + 1 ≤ _
    omega
theorem tx_thn {a b : K54.T Str} (h : TxOk (.thn a b)) : TxOk a ∧ TxOk b := by
  have h1 := wrap_len a 2 (textL cpsS a)
  have h2 := wrap_len b 3 (textL cpsS b)
  have h3 := h.2
  unfold textL at h3
  simp only [List.length_append] at h3
  exact ⟨⟨h.1.1, by omega⟩, h.1.2, by omega⟩
theorem tx_all {a b : K54.T Str} (h : TxOk (.all a b)) : TxOk a ∧ TxOk b := by
  have h1 := wrap_len a 1 (textL cpsS a)
  have h2 := wrap_len b 2 (textL cpsS b)
  have h3 := h.2
  unfold textL at h3
  simp only [List.length_append] at h3
  exact ⟨⟨h.1.1, by omega⟩, h.1.2, by omega⟩
theorem tx_alt {a b : K54.T Str} (h : TxOk (.alt a b)) : TxOk a ∧ TxOk b := by
  have h1 := wrap_len a 0 (textL cpsS a)
  have h2 := wrap_len b 1 (textL cpsS b)
  have h3 := h.2
  unfold textL at h3
  simp only [List.length_append] at h3
  exact ⟨⟨h.1.1, by omega⟩, h.1.2, by omega⟩
theorem tx_tms {a : K54.T Str} {n : Nat} (h : TxOk (.tms a n)) : TxOk a ∧ n ≤ 8 := by
  have h1 := wrap_len a 3 (textL cpsS a)
  have h3 := h.2
  unfold textL at h3
  simp only [List.length_append] at h3
  exact ⟨⟨h.1.1, by omega⟩, h.1.2⟩
theorem digit_str {n : Nat} (h : n ≤ 8) : (toString ((n : Nat) : Int) : Str) = strL (digitL n) := by
  have : n = 0 ∨ n = 1 ∨ n = 2 ∨ n = 3 ∨ n = 4 ∨ n = 5 ∨ n = 6 ∨ n = 7 ∨ n = 8 := by omega
  rcases this with rfl | rfl | rfl | rfl | rfl | rfl | rfl | rfl | rfl <;> decide +kernel
theorem digit_log {n : Nat} (h : n ≤ 8) : ((n : Nat) : Int).natAbs.log2 < 1920 := by
  have : n = 0 ∨ n = 1 ∨ n = 2 ∨ n = 3 ∨ n = 4 ∨ n = 5 ∨ n = 6 ∨ n = 7 ∨ n = 8 := by omega
  rcases this with rfl | rfl | rfl | rfl | rfl | rfl | rfl | rfl | rfl <;> decide +kernel
section
variable {P : Program} {w : World} {K : PySem.W.Frag} {mg : Str → Option Value} {base : Heap} {C aB : Addr}
theorem sc_tree_text : FnScope ["tree", "word"] ["tree"] (defScope (sT 43)) := ⟨rfl, rfl, rfl, by decide +kernel, rfl, by decide +kernel, by decide +kernel⟩
theorem sc_part_text : FnScope ["tree", "least", "text"] ["tree", "least"] (defScope (sT 42)) := ⟨rfl, rfl, rfl, by decide +kernel, rfl, by decide +kernel, by decide +kernel⟩
abbrev spText (K : PySem.W.Frag) (n : Nat) : Sp := spF (fun t : K54.T Str => TxOk t ∧ dep t < n) (fun t => [TreeP K t]) (fun t => SyL (textL cpsS t))
abbrev spPart (K : PySem.W.Frag) (n : Nat) : Sp := spF (fun p : K54.T Str × Nat => TxOk p.1 ∧ dep p.1 < n) (fun p => [TreeP K p.1, In (p.2 : Int)]) (fun p => SyL (wrapL p.1 p.2 (textL cpsS p.1)))
theorem cl_part_text (g_BOUND : mg "BOUND" = some (.ref aB)) (B : Bnd K w aB) (F : DefAt K mg "part_text" (sT 42)) (n k : Nat) (c_tree_text : Cl P w K mg base "tree_text" ["tree"] k (spText K n)) : Cl P w K mg base "part_text" ["tree", "least"] (k + 1) (spPart K n) := by
  refine cl_of F sc_part_text (fun _ _ _ _ _ _ us hl => match us, hl with | [_, _], _ => rfl) (fun _ => rfl) fun f cdv A outer s H E p vs hr hp hA => ?_
  obtain ⟨t, l⟩ := p
  obtain ⟨v1, v2, rfl, h1, h2⟩ := al2 hA
  cases (show v2 = .int (l : Int) from h2)
  obtain ⟨ht, hd⟩ := hp
  refine ⟨_, (pss_cons (ps_set (i := 2) sc_part_text.nd rfl (by first | exact Or.inl rfl | exact Or.inr rfl) (pe_cl c_tree_text hr (pa_cons (pv 0) pa_nil))) (pss_one (ps_ret (pe_ifExp (pt_cmpR op_ge (pe_ix (kIxD K w rfl rfl) (pe_glob (v := .ref aB) (by rfl) g_BOUND rfl) (pe_ix (kIxT K rfl) (pv 0) pe_int (fun _ _ => rfl)) (fun _ _ => rfl)) (pv 1) (nomark _)) (pv 2) (pe_joined (PJ.cons pe_str (PJ.cons (pe_fmt (pv 2)) (PJ.cons pe_str PJ.nil)))))))), fun Q q => ?_⟩
  refine q_asgR (er_call t ⟨ht, hd⟩ (ea_1 (er_var rfl h1))) fun u H1 e1 r1 => ?_
  cases (show u = .str (strL (textL cpsS t)) from r1)
  refine s_retR (R := SyL (wrapL t l (textL cpsS t))) (er_if (b := decide ((l : Int) ≤ (bnd t : Nat))) (et_testR (er_ge (er_bnd (B.at t) er_is (er_head (er_var rfl ((TreeP K t).up e1 h1)))) (er_var rfl rfl))) (fun hz => ?_) (fun hz => ?_)) fun z H3 e3 r3 => q z H3 (e1.trans e3) r3
  · rw [decide_eq_true_eq] at hz
    unfold wrapL
    rw [if_pos (by omega)]
    exact er_var rfl rfl
  · rw [decide_eq_false_iff_not] at hz
    unfold wrapL
    rw [if_neg (by omega)]
    have e : (40 :: (textL cpsS t ++ [41]) : Sym) = [[40], textL cpsS t, [41]].flatten := by simp
    rw [e]
    refine er_jd (.cons (er_c (v := .str (strL [40])) rfl) (.cons (er_fmtS (er_var rfl rfl) (Nat.le_trans ht.2 (by decide))) (.cons (er_c (v := .str (strL [41])) rfl) .nil))) ?_
    have : (textL cpsS t).length ≤ 30000 := ht.2
    simp only [List.flatten_cons, List.flatten_nil, List.length_append, List.length_cons, List.length_nil]
    omega
theorem cl_tree_text (g_BOUND : mg "BOUND" = some (.ref aB)) (B : Bnd K w aB) (T : Txt K mg) (FP : DefAt K mg "part_text" (sT 42)) (F : DefAt K mg "tree_text" (sT 43)) : ∀ n, Cl P w K mg base "tree_text" ["tree"] (2 * n + 1) (spText K n)
  | 0 => by
    refine cl_of F sc_tree_text (fun _ _ _ _ _ _ us hl => match us, hl with | [_], _ => rfl) (fun _ => rfl) fun f cdv A outer s H E t vs hr hp hA => ?_
    exact absurd hp.2 (Nat.not_lt_zero _)
  | n + 1 => by
    have c_part_text := cl_part_text g_BOUND B FP n (2 * n + 1) (cl_tree_text g_BOUND B T FP F n)
    refine cl_of (k := 2 * n + 2) F sc_tree_text (fun _ _ _ _ _ _ us hl => match us, hl with | [_], _ => rfl) (fun _ => rfl) fun f cdv A outer s H E t vs hr hp hA => ?_
    obtain ⟨v, rfl, h⟩ := al1 hA
    obtain ⟨ht, hd⟩ := hp
    refine ⟨_, (pss_cons (ps_set (i := 1) sc_tree_text.nd rfl (by first | exact Or.inl rfl | exact Or.inr rfl) (pe_ix (kIxT K rfl) (pv 0) pe_int (fun _ _ => rfl))) (pss_cons (ps_if (pt_cmpR op_eq (pv 1) (pe_gs T.g_SEEN) (nomark _)) (pss_one (ps_ret (pe_ix (kIxT K rfl) (pv 0) pe_int (fun _ _ => rfl)))) pss_nil) (pss_cons (ps_if (pt_cmpR (kIn K rfl) (pv 1) (pe_tup (pa_cons (pe_gs T.g_NOTHING_rules) (pa_cons (pe_gs T.g_NEVER_rules) pa_nil))) (by rfl)) (pss_one (ps_ret (pv 1))) pss_nil) (pss_cons (ps_if (pt_cmpR op_eq (pv 1) (pe_gs T.g_TIMES) (nomark _)) (pss_one (ps_ret (pe_joined (PJ.cons (pe_fmt (pe_cl c_part_text hr (pa_cons (pe_ix (kIxT K rfl) (pv 0) pe_int (fun _ _ => rfl)) (pa_cons (pe_ix (kIxD K w rfl rfl) (pe_glob (v := .ref aB) (by rfl) g_BOUND rfl) (pe_gs T.g_TIMES) (fun _ _ => rfl)) pa_nil)))) (PJ.cons pe_str (PJ.cons (pe_fmt (pe_ix (kIxT K rfl) (pv 0) pe_int (fun _ _ => rfl))) PJ.nil)))))) pss_nil) (pss_one (ps_ret (pe_joined (PJ.cons (pe_fmt (pe_cl c_part_text hr (pa_cons (pe_ix (kIxT K rfl) (pv 0) pe_int (fun _ _ => rfl)) (pa_cons (pe_ix (kIxD K w rfl rfl) (pe_glob (v := .ref aB) (by rfl) g_BOUND rfl) (pv 1) (fun _ _ => rfl)) pa_nil)))) (PJ.cons pe_str (PJ.cons (pe_fmt (pv 1)) (PJ.cons pe_str (PJ.cons (pe_fmt (pe_cl c_part_text hr (pa_cons (pe_ix (kIxT K rfl) (pv 0) pe_int (fun _ _ => rfl)) (pa_cons (pe_op op_add (pe_ix (kIxD K w rfl rfl) (pe_glob (v := .ref aB) (by rfl) g_BOUND rfl) (pv 1) (fun _ _ => rfl)) pe_int) pa_nil)))) PJ.nil)))))))))))), fun Q q => ?_⟩
    cases t with
    | seen s =>
      refine q_asgR (er_ixT (i := 0) (er_var rfl h) er_is rfl) fun u H1 e1 r1 => ?_
      cases (show u = .str "seen" from r1)
      refine q_whenT (et_testR (er_eqS (er_var rfl rfl) er_is)) (by decide +kernel) fun H2 e2 => ?_
      refine s_retR (R := Sy s) (er_ixT (i := 1) (er_var rfl ((TreeP K (.seen s)).up (e1.trans e2) h)) er_is rfl) fun u H3 e3 r => q u H3 ((e1.trans e2).trans e3) ?_
      show (SyL (cpsS s)).r H3 u
      rw [← syl_of]
      exact r
    | one =>
      refine q_asgR (er_ixT (i := 0) (er_var rfl h) er_is rfl) fun u H1 e1 r1 => ?_
      cases (show u = .str "1" from r1)
      refine q_whenF (et_testR (er_eqS (er_var rfl rfl) er_is)) (by decide +kernel) fun H2 e2 => ?_
      refine q_whenT (et_inU (er_var (i := 1) rfl rfl) (eu_2 er_is er_is) rfl rfl) (by decide +kernel) fun H3 e3 => ?_
      exact s_retR (R := SyL [49]) (er_var rfl (show V.str "1" = V.str (strL [49]) from congrArg V.str (by decide +kernel))) fun u H4 e4 r => q u H4 (((e1.trans e2).trans e3).trans e4) r
    | zero =>
      refine q_asgR (er_ixT (i := 0) (er_var rfl h) er_is rfl) fun u H1 e1 r1 => ?_
      cases (show u = .str "0" from r1)
      refine q_whenF (et_testR (er_eqS (er_var rfl rfl) er_is)) (by decide +kernel) fun H2 e2 => ?_
      refine q_whenT (et_inU (er_var (i := 1) rfl rfl) (eu_2 er_is er_is) rfl rfl) (by decide +kernel) fun H3 e3 => ?_
      exact s_retR (R := SyL [48]) (er_var rfl (show V.str "0" = V.str (strL [48]) from congrArg V.str (by decide +kernel))) fun u H4 e4 r => q u H4 (((e1.trans e2).trans e3).trans e4) r
    | thn a b =>
      have hda : dep a < n := Nat.lt_of_le_of_lt (Nat.le_max_left (dep a) (dep b)) (Nat.lt_of_succ_lt_succ hd)
      have hdb : dep b < n := Nat.lt_of_le_of_lt (Nat.le_max_right (dep a) (dep b)) (Nat.lt_of_succ_lt_succ hd)
      obtain ⟨ta, tb⟩ := tx_thn ht
      refine q_asgR (er_ixT (i := 0) (er_var rfl h) er_is rfl) fun u H1 e1 r1 => ?_
      cases (show u = .str ">>" from r1)
      refine q_whenF (et_testR (er_eqS (er_var rfl rfl) er_is)) (by decide +kernel) fun H2 e2 => ?_
      refine q_whenF (et_inU (er_var (i := 1) rfl rfl) (eu_2 er_is er_is) rfl rfl) (by decide +kernel) fun H3 e3 => ?_
      refine q_whenF (et_testR (er_eqS (er_var rfl rfl) er_is)) (by decide +kernel) fun H4 e4 => ?_
      have e14 := ((e1.trans e2).trans e3).trans e4
      have et : textL cpsS (.thn a b) = [wrapL a 2 (textL cpsS a), [32], signL 2, [32], wrapL b 3 (textL cpsS b)].flatten := by
        simp [textL]
      have hw1 := wrap_le (t := a) (k := 2) ta.2
      have hw2 := wrap_le (t := b) (k := 3) tb.2
      have hw3 : (signL 2).length ≤ 2 := by decide
      have hz : [wrapL a 2 (textL cpsS a), [32], signL 2, [32], wrapL b 3 (textL cpsS b)].flatten.length ≤ 100000 := by
        simp only [List.flatten_cons, List.flatten_nil, List.length_append, List.length_cons, List.length_nil]
        omega
      have hv : ∀ {H5}, Ex H4 H5 → (TreeP K (.thn a b)).r H5 v := fun e => (TreeP K _).up (e14.trans e) h
      rw [et] at q
      refine s_retR (er_jd (.cons (er_fmtS (er_call (a, 2) ⟨ta, hda⟩ (ea_2 (er_ixT (i := 1) (er_var rfl (hv (Ex.refl _))) er_is rfl) (er_bnd B.b4 er_is (er_var rfl rfl)))) (Nat.le_trans hw1 (by decide)))
        (.cons (er_c (v := .str (strL [32])) rfl) (.cons (er_fmtS (er_var rfl (show V.str ">>" = V.str (strL (signL 2)) from congrArg V.str (by decide +kernel))) (Nat.le_trans hw3 (by decide)))
        (.cons (er_c (v := .str (strL [32])) rfl) (.cons (er_fmtS (er_call (b, 3) ⟨tb, hdb⟩ (ea_2 (er_ixT (i := 2) (er_var rfl (hv (Ex.refl _))) er_is rfl) (er_add (er_bnd B.b4 er_is (er_var rfl rfl)) er_is))) (Nat.le_trans hw2 (by decide))) .nil))))) hz) fun u H5 e5 r => q u H5 (e14.trans e5) r
    | alt a b =>
      have hda : dep a < n := Nat.lt_of_le_of_lt (Nat.le_max_left (dep a) (dep b)) (Nat.lt_of_succ_lt_succ hd)
      have hdb : dep b < n := Nat.lt_of_le_of_lt (Nat.le_max_right (dep a) (dep b)) (Nat.lt_of_succ_lt_succ hd)
      obtain ⟨ta, tb⟩ := tx_alt ht
      refine q_asgR (er_ixT (i := 0) (er_var rfl h) er_is rfl) fun u H1 e1 r1 => ?_
      cases (show u = .str "|" from r1)
      refine q_whenF (et_testR (er_eqS (er_var rfl rfl) er_is)) (by decide +kernel) fun H2 e2 => ?_
      refine q_whenF (et_inU (er_var (i := 1) rfl rfl) (eu_2 er_is er_is) rfl rfl) (by decide +kernel) fun H3 e3 => ?_
      refine q_whenF (et_testR (er_eqS (er_var rfl rfl) er_is)) (by decide +kernel) fun H4 e4 => ?_
      have e14 := ((e1.trans e2).trans e3).trans e4
      have et : textL cpsS (.alt a b) = [wrapL a 0 (textL cpsS a), [32], signL 0, [32], wrapL b 1 (textL cpsS b)].flatten := by
        simp [textL]
      have hw1 := wrap_le (t := a) (k := 0) ta.2
      have hw2 := wrap_le (t := b) (k := 1) tb.2
      have hw3 : (signL 0).length ≤ 2 := by decide
      have hz : [wrapL a 0 (textL cpsS a), [32], signL 0, [32], wrapL b 1 (textL cpsS b)].flatten.length ≤ 100000 := by
        simp only [List.flatten_cons, List.flatten_nil, List.length_append, List.length_cons, List.length_nil]
        omega
      have hv : ∀ {H5}, Ex H4 H5 → (TreeP K (.alt a b)).r H5 v := fun e => (TreeP K _).up (e14.trans e) h
      rw [et] at q
      refine s_retR (er_jd (.cons (er_fmtS (er_call (a, 0) ⟨ta, hda⟩ (ea_2 (er_ixT (i := 1) (er_var rfl (hv (Ex.refl _))) er_is rfl) (er_bnd B.b6 er_is (er_var rfl rfl)))) (Nat.le_trans hw1 (by decide)))
        (.cons (er_c (v := .str (strL [32])) rfl) (.cons (er_fmtS (er_var rfl (show V.str "|" = V.str (strL (signL 0)) from congrArg V.str (by decide +kernel))) (Nat.le_trans hw3 (by decide)))
        (.cons (er_c (v := .str (strL [32])) rfl) (.cons (er_fmtS (er_call (b, 1) ⟨tb, hdb⟩ (ea_2 (er_ixT (i := 2) (er_var rfl (hv (Ex.refl _))) er_is rfl) (er_add (er_bnd B.b6 er_is (er_var rfl rfl)) er_is))) (Nat.le_trans hw2 (by decide))) .nil))))) hz) fun u H5 e5 r => q u H5 (e14.trans e5) r
    | all a b =>
      have hda : dep a < n := Nat.lt_of_le_of_lt (Nat.le_max_left (dep a) (dep b)) (Nat.lt_of_succ_lt_succ hd)
      have hdb : dep b < n := Nat.lt_of_le_of_lt (Nat.le_max_right (dep a) (dep b)) (Nat.lt_of_succ_lt_succ hd)
      obtain ⟨ta, tb⟩ := tx_all ht
      refine q_asgR (er_ixT (i := 0) (er_var rfl h) er_is rfl) fun u H1 e1 r1 => ?_
      cases (show u = .str "&" from r1)
      refine q_whenF (et_testR (er_eqS (er_var rfl rfl) er_is)) (by decide +kernel) fun H2 e2 => ?_
      refine q_whenF (et_inU (er_var (i := 1) rfl rfl) (eu_2 er_is er_is) rfl rfl) (by decide +kernel) fun H3 e3 => ?_
      refine q_whenF (et_testR (er_eqS (er_var rfl rfl) er_is)) (by decide +kernel) fun H4 e4 => ?_
      have e14 := ((e1.trans e2).trans e3).trans e4
      have et : textL cpsS (.all a b) = [wrapL a 1 (textL cpsS a), [32], signL 1, [32], wrapL b 2 (textL cpsS b)].flatten := by
        simp [textL]
      have hw1 := wrap_le (t := a) (k := 1) ta.2
      have hw2 := wrap_le (t := b) (k := 2) tb.2
      have hw3 : (signL 1).length ≤ 2 := by decide
      have hz : [wrapL a 1 (textL cpsS a), [32], signL 1, [32], wrapL b 2 (textL cpsS b)].flatten.length ≤ 100000 := by
        simp only [List.flatten_cons, List.flatten_nil, List.length_append, List.length_cons, List.length_nil]
        omega
      have hv : ∀ {H5}, Ex H4 H5 → (TreeP K (.all a b)).r H5 v := fun e => (TreeP K _).up (e14.trans e) h
      rw [et] at q
      refine s_retR (er_jd (.cons (er_fmtS (er_call (a, 1) ⟨ta, hda⟩ (ea_2 (er_ixT (i := 1) (er_var rfl (hv (Ex.refl _))) er_is rfl) (er_bnd B.b5 er_is (er_var rfl rfl)))) (Nat.le_trans hw1 (by decide)))
        (.cons (er_c (v := .str (strL [32])) rfl) (.cons (er_fmtS (er_var rfl (show V.str "&" = V.str (strL (signL 1)) from congrArg V.str (by decide +kernel))) (Nat.le_trans hw3 (by decide)))
        (.cons (er_c (v := .str (strL [32])) rfl) (.cons (er_fmtS (er_call (b, 2) ⟨tb, hdb⟩ (ea_2 (er_ixT (i := 2) (er_var rfl (hv (Ex.refl _))) er_is rfl) (er_add (er_bnd B.b5 er_is (er_var rfl rfl)) er_is))) (Nat.le_trans hw2 (by decide))) .nil))))) hz) fun u H5 e5 r => q u H5 (e14.trans e5) r
    | tms a m =>
      have hda : dep a < n := Nat.lt_of_succ_lt_succ hd
      obtain ⟨ta, hm⟩ := tx_tms ht
      refine q_asgR (er_ixT (i := 0) (er_var rfl h) er_is rfl) fun u H1 e1 r1 => ?_
      cases (show u = .str "*" from r1)
      refine q_whenF (et_testR (er_eqS (er_var rfl rfl) er_is)) (by decide +kernel) fun H2 e2 => ?_
      refine q_whenF (et_inU (er_var (i := 1) rfl rfl) (eu_2 er_is er_is) rfl rfl) (by decide +kernel) fun H3 e3 => ?_
      refine q_whenT (et_testR (er_eqS (er_var rfl rfl) er_is)) (by decide +kernel) fun H4 e4 => ?_
      have e14 := ((e1.trans e2).trans e3).trans e4
      have et : textL cpsS (.tms a m) = [wrapL a 3 (textL cpsS a), [32, 42, 32], digitL m].flatten := by
        simp [textL]
      have hw1 := wrap_le (t := a) (k := 3) ta.2
      have hz : [wrapL a 3 (textL cpsS a), [32, 42, 32], digitL m].flatten.length ≤ 100000 := by
        simp only [List.flatten_cons, List.flatten_nil, List.length_append, List.length_cons, List.length_nil, digitL]
        omega
      have hv : ∀ {H5}, Ex H4 H5 → (TreeP K (.tms a m)).r H5 v := fun e => (TreeP K _).up (e14.trans e) h
      rw [et] at q
      refine s_retR (er_jd (.cons (er_fmtS (er_call (a, 3) ⟨ta, hda⟩ (ea_2 (er_ixT (i := 1) (er_var rfl (hv (Ex.refl _))) er_is rfl) (er_bnd B.b3 er_is er_is))) (Nat.le_trans hw1 (by decide)))
        (.cons (er_c (v := .str (strL [32, 42, 32])) rfl) (.cons (er_fmtI (er_ixT (i := 2) (er_var rfl (hv (Ex.refl _))) er_is rfl) (digit_log hm) (digit_str hm)) .nil))) hz) fun u H5 e5 r => q u H5 (e14.trans e5) r
/-! ### o.text -/
abbrev CTreeText (P : Program) (w : World) (K : PySem.W.Frag) (mg : Str → Option Value) (base : Heap) := Cl P w K mg base "tree_text" ["tree"] 61 (spText K 30)
structure PropAt (K : PySem.W.Frag) (C : Addr) (f q : Str) (st : Stmt) : Prop where
  ex : ∃ p g gd, PropOf K C f p g ∧ FunD K f q (defArgs st) (defBody st) (defScope st) [] [] g gd
structure Pp (P : Program) (w : World) (K : PySem.W.Frag) (mg : Str → Option Value) (base : Heap) (C : Addr) (f : Str) (k : Nat) (sp : Sp) : Prop where
  ex : ∃ p g gd, PropOf K C f p g ∧ Binds K gd ["self"] [] ∧ FnOk P w K mg base CX0 k g gd ["self"] sp
theorem sc_Rule_text : FnScope ["self"] ["self"] (defScope (sM 37 1)) := ⟨rfl, rfl, rfl, by decide +kernel, rfl, by decide +kernel, by decide +kernel⟩
abbrev spTextR (K : PySem.W.Frag) (C : Addr) : Sp := spF (fun t : K54.T Str => TxOk t ∧ dep t < 30) (fun t => [RuleP K C t]) (fun t => SyL (textL cpsS t))
abbrev PText (P : Program) (w : World) (K : PySem.W.Frag) (mg : Str → Option Value) (base : Heap) (C : Addr) := Pp P w K mg base C "text" 62 (spTextR K C)
theorem pp_text (R : RuleF K mg C) (c_tree_text : CTreeText P w K mg base) (F : PropAt K C "text" "Rule.text" (sM 37 1)) : PText P w K mg base C := by
  obtain ⟨p, g, gd, hP, F⟩ := F.ex
  refine ⟨p, g, gd, hP, F.bindsN (fun _ _ _ _ _ _ us hl => match us, hl with | [_], _ => rfl), F.ok sc_Rule_text (fun vs H Q E ⟨a, _, h, _⟩ => by rw [h.len]; rfl) fun cdv A outer s H vs Q E hr h => ?_⟩
  obtain ⟨t, hp, hA, q⟩ := h
  obtain ⟨v, rfl, h⟩ := al1 hA
  exact ⟨_, PSs.nox (pss_one (ps_ret (pe_cl c_tree_text (hr.mono (by first | decide | omega)) (pa_cons (kFld K rfl (pv 0) rfl) pa_nil)))), s_retR (er_call t hp (ea_1 (er_tree R (er_var rfl h)))) q⟩
theorem pe_text {X : Cx} {e : Expr} {ta : TE} {pos : Pos} (R : RuleF X.K X.mg C) (M : PText X.prog X.w X.K X.mg X.base C) (hr : Room 63 X.A) (he : PE X e ta) (hab : attributeBase e "text" X.env (eval e X.env) = eval e X.env) : PE X (.Attribute e "text" pos) (tProp C (spTextR X.K C) [] E0 ta) := by
  obtain ⟨p, g, gd, hP, hb, G⟩ := M.ex
  exact pe_prop he R.cl hP G hr hb .nil pass0 hab
theorem er_text {σ : L2.St} {H : Hp} {ta : TE} {t : K54.T Str} (ha : Er ta σ H (RuleP K C t)) (h : TxOk t ∧ dep t < 30) : Er (tProp C (spTextR K C) [] E0 ta) σ H (SyL (textL cpsS t)) := fun H1 e Q q =>
  ha H1 e _ fun v H2 e2 r => by
    obtain ⟨a, dx, y, e3, h1, h2⟩ := id r
    exact ⟨a, dx, _, e3, h1, t, h, ⟨by rw [← e3]; exact r, trivial⟩, fun v H' e r => q v H' (e2.trans e) r⟩
end
end K54
/-! KL: texts.py: symbols. -/
set_option Elab.async false
set_option linter.all false
set_option maxRecDepth 100000
set_option maxHeartbeats 400000
namespace K54
open PySem PySem.W PySem.Calls PyProof.Rows L2 Evl
section
variable {σ : L2.St} {H : Hp} {K : PySem.W.Frag} {te ta tb : TE} {X : Cx}
theorem cut_str (l : Sym) (lo hi : Option Int) : cutS (strL l) lo hi = strL (cutN l lo hi) := by
  unfold cutS cutN strL
  rw [show (⟨l.toArray⟩ : Str).length = l.length from strL_len l]
theorem er_slS {t1 t2 : TO} {l : Sym} {lo hi : Option Int} (h : Er te σ H (SyL l)) (h1 : EvO t1 σ H lo) (h2 : EvO t2 σ H hi) (hz : l.length ≤ 100000) : Er (tSl rSlS te t1 t2) σ H (SyL (cutN l lo hi)) := fun H1 e Q q =>
  h H1 e _ fun v H2 e2 r => h1 H2 (e.trans e2) _ fun H3 e3 => h2 H3 ((e.trans e2).trans e3) _ fun H4 e4 => by
    refine ⟨strL l, r, sz_of (by rw [strL_len]; exact hz), ?_⟩
    rw [cut_str]
    exact q _ H4 ((e2.trans e3).trans e4) rfl
theorem cutN_two {γ : Type} (xs : List γ) (a b : Nat) (h : a ≤ b) : cutN xs (some (a : Int)) (some (b : Int)) = (xs.drop a).take (b - a) := by
  unfold cutN
  rw [HT.sIx_nat, HT.sIx_nat]
  rcases Nat.le_total a xs.length with h1 | h1
  · rw [Nat.min_eq_left h1]
    rcases Nat.le_total b xs.length with h2 | h2
    · rw [Nat.min_eq_left h2]
    · rw [Nat.min_eq_right h2, List.take_of_length_le (by rw [List.length_drop]; exact Nat.le_refl _), List.take_of_length_le (by rw [List.length_drop]; omega)]
  · rw [Nat.min_eq_right h1, List.drop_of_length_le (Nat.le_refl _), List.drop_of_length_le h1]
    simp
theorem er_ixL' {l : Sym} {i c : Nat} (ha : Er ta σ H (SyL l)) (hb : Er tb σ H (In (i : Int))) (hz : l.length ≤ 100000) (h : l[i]? = some c) : Er (tOp rIxS ta tb) σ H (SyL [c]) :=
  er_ixS ha hb (by rw [strL_len]; exact hz) (by show (cpsS (strL l))[i]? = some c; rw [cps_strL]; exact h)
theorem er_inL {c : Nat} {z : Str} (ha : Er ta σ H (SyL [c])) (hb : Er tb σ H (Sy z)) : Er (tOp rInS ta tb) σ H (Bo (decide (c ∈ z.cps.toList))) := er_inS ha hb
theorem er_lenL' {l : Sym} (ha : Er ta σ H (SyL l)) (hz : l.length ≤ 100000) : Er (tCB rLenT (tCons ta tNil)) σ H (In (l.length : Int)) := by
  have := er_lenS ha (by rw [strL_len]; exact hz)
  rwa [strL_len] at this
theorem strL_inj {a b : Sym} : strL a = strL b ↔ a = b := ⟨fun h => by rw [← cps_strL a, ← cps_strL b, h], fun h => by rw [h]⟩
theorem er_eqSL {a b : Sym} (ha : Er ta σ H (SyL a)) (hb : Er tb σ H (SyL b)) : Er (tOp rEq ta tb) σ H (Bo (decide (a = b))) := by
  have := er_eqS ha hb
  rwa [show decide (strL a = strL b) = decide (a = b) from decide_eq_decide.mpr strL_inj] at this
theorem er_neSL {a b : Sym} (ha : Er ta σ H (SyL a)) (hb : Er tb σ H (SyL b)) : Er (tOp rNe ta tb) σ H (Bo (!decide (a = b))) := by
  have := er_neS ha hb
  rwa [show decide (strL a = strL b) = decide (a = b) from decide_eq_decide.mpr strL_inj] at this
theorem er_lit {x : Str} {l : Sym} (h : x = strL l) : Er (tC (.str x)) σ H (SyL l) := er_c (congrArg V.str h)
end
theorem take_while_at {p : Nat → Bool} : ∀ {l : Sym} {k : Nat} {c : Nat}, k ≤ (l.takeWhile p).length → l[k]? = some c → p c = true → k + 1 ≤ (l.takeWhile p).length
  | [], k, c, _, h, _ => by simp at h
  | x :: l, 0, c, _, h, hp => by
    have e : x = c := by simpa using h
    subst e
    rw [List.takeWhile_cons, if_pos hp, List.length_cons]
    omega
  | x :: l, k + 1, c, hk, h, hp => by
    rw [List.takeWhile_cons] at hk ⊢
    split at hk
    · next hx =>
      rw [if_pos hx, List.length_cons]
      rw [List.length_cons] at hk
      have := take_while_at (l := l) (k := k) (c := c) (by omega) (by simpa using h) hp
      omega
    · simp at hk
theorem take_while_end {p : Nat → Bool} : ∀ {l : Sym} {k : Nat}, k ≤ (l.takeWhile p).length → (∀ c, l[k]? = some c → p c = false) → l.take k = l.takeWhile p
  | [], k, _, _ => by simp
  | x :: l, 0, _, h => by
    have := h x (by simp)
    rw [List.takeWhile_cons, this, if_neg (by decide)]
    rfl
  | x :: l, k + 1, hk, h => by
    rw [List.takeWhile_cons] at hk ⊢
    split at hk
    · next hx =>
      rw [if_pos hx, List.take_succ_cons, take_while_end (l := l) (k := k) (by rw [List.length_cons] at hk; omega) fun c hc => h c (by simpa using hc)]
    · simp at hk
section
variable {P : Program} {w : World} {K : PySem.W.Frag} {mg : Str → Option Value} {base : Heap} {C : Addr}
theorem sc_run_of : FnScope ["text", "place", "signs", "size"] ["text", "place", "signs"] (defScope (sT 58)) := ⟨rfl, rfl, rfl, by decide +kernel, rfl, by decide +kernel, by decide +kernel⟩
abbrev spRunOf (K : PySem.W.Frag) : Sp := spF (fun p : Sym × Nat × Str => p.1.length ≤ 30000 ∧ p.2.1 ≤ p.1.length) (fun p => [SyL p.1, In (p.2.1 : Int), Sy p.2.2]) (fun p => SyL ((p.1.drop p.2.1).takeWhile fun c => decide (c ∈ p.2.2.cps.toList)))
abbrev CRunOf (P : Program) (w : World) (K : PySem.W.Frag) (mg : Str → Option Value) (base : Heap) := Cl P w K mg base "run_of" ["text", "place", "signs"] 1 (spRunOf K)
theorem cl_run_of (T : Txt K mg) (F : DefAt K mg "run_of" (sT 58)) : CRunOf P w K mg base := by
  refine cl_of F sc_run_of (fun _ _ _ _ _ _ us hl => match us, hl with | [_, _, _], _ => rfl) (fun _ => rfl) fun f cdv A outer s H E p vs hr hp hA => ?_
  obtain ⟨l, pl, sg⟩ := p
  obtain ⟨v1, v2, v3, rfl, h1, h2, h3⟩ := al3 hA
  cases (show v1 = .str (strL l) from h1)
  cases (show v2 = .int (pl : Int) from h2)
  cases (show v3 = .str sg from h3)
  obtain ⟨hz, hpl⟩ := (show l.length ≤ 30000 ∧ pl ≤ l.length from hp)
  have hz' : l.length ≤ 100000 := Nat.le_trans hz (by decide)
  refine ⟨_, (pss_cons (ps_set (i := 3) sc_run_of.nd rfl (by first | exact Or.inl rfl | exact Or.inr rfl) pe_int) (pss_cons (ps_while PassesOwn.never (PW.pt (pw_and (pt_cmpR op_lt (pe_op op_add (pv 1) (pv 3)) (pe_callB call_len_str (by rfl) T.len (by decide +kernel) (pa_cons (pv 0) pa_nil)) (nomark _)) (pw_and1 (pt_cmpR op_in_sign (pe_ix ix_str (pv 0) (pe_op op_add (pv 1) (pv 3)) (fun _ _ => rfl)) (pv 2) (by rfl))))) (pss_one (ps_aug (i := 3) sc_run_of.nd rfl (Or.inl rfl) pe_int ip_add))) (pss_one (ps_ret (pe_slice sl_str (pv 0) (po_some (pv 1)) (po_some (pe_op op_add (pv 1) (pv 3)))))))), fun Q q => ?_⟩
  refine q_asgR (R := In 0) er_is fun v H1 e1 r1 => ?_
  cases (show v = .int 0 from r1)
  have fin : ∀ (k : Nat) (H' : Hp), k ≤ ((l.drop pl).takeWhile fun c => decide (c ∈ sg.cps.toList)).length → True := fun _ _ _ => trivial
  refine q_while (fun m σ' H' => ∃ k : Nat, σ' = [some (.str (strL l)), some (.int (pl : Int)), some (.str sg), some (.int (k : Int))] ∧ k + m = l.length ∧ Ex H H' ∧ k ≤ ((l.drop pl).takeWhile fun c => decide (c ∈ sg.cps.toList)).length) l.length ⟨0, rfl, by omega, e1, Nat.zero_le _⟩ fun m σ' H' hx => ?_
  obtain ⟨k, rfl, hkm, ex, hk⟩ := hx
  refine ⟨decide ((pl : Int) + (k : Int) < (l.length : Nat)) && decide (∃ c, l[pl + k]? = some c ∧ c ∈ sg.cps.toList), et_and (et_testR (er_lt (er_add (er_var rfl rfl) (er_var rfl rfl)) (er_lenL' (er_var rfl rfl) hz'))) fun hlt => ?_, fun hb H2 e2 => ?_, fun hb H2 e2 => ?_⟩
  · have hlt' : pl + k < l.length := by
      have := of_decide_eq_true hlt
      omega
    have hg : l[pl + k]? = some l[pl + k] := List.getElem?_eq_getElem hlt'
    rw [show decide (∃ c, l[pl + k]? = some c ∧ c ∈ sg.cps.toList) = decide (l[pl + k] ∈ sg.cps.toList) from decide_eq_decide.mpr ⟨fun ⟨c, h1, h2⟩ => by rw [hg] at h1; cases h1; exact h2, fun h => ⟨_, hg, h⟩⟩]
    exact et_testR (er_inL (er_ixL' (i := pl + k) (er_var rfl rfl) (er_as (er_add (er_var rfl rfl) (er_var rfl rfl)) fun v H1 _ r => by rw [show v = _ from r]; show V.int _ = V.int _; rw [Int.natCast_add]) hz' hg) (er_var rfl rfl))
  · rw [Bool.and_eq_true, decide_eq_true_eq, decide_eq_true_eq] at hb
    obtain ⟨hlt, c, hc, hin⟩ := hb
    have hkl : pl + k < l.length := by omega
    refine ⟨fun σ' H' => ∃ m', m' < m ∧ ∃ k : Nat, σ' = [some (.str (strL l)), some (.int (pl : Int)), some (.str sg), some (.int (k : Int))] ∧ k + m' = l.length ∧ Ex H H' ∧ k ≤ ((l.drop pl).takeWhile fun c => decide (c ∈ sg.cps.toList)).length, fun _ _ h => h, ?_⟩
    refine ⟨_, rfl, _, _, rfl, rfl, m - 1, by omega, k + 1, rfl, by omega, ex.trans e2, ?_⟩
    exact take_while_at hk (c := c) (by rw [List.getElem?_drop]; exact hc) (decide_eq_true hin)
  · refine s_retR (R := SyL ((l.drop pl).take k)) ?_ fun v H3 e3 r3 => q v H3 ((ex.trans e2).trans e3) ?_
    · have := er_slS (te := tVar 0) (σ := [some (.str (strL l)), some (.int (pl : Int)), some (.str sg), some (.int (k : Int))]) (H := H2) (l := l) (er_var rfl rfl) (eo_R (i := (pl : Int)) (er_var (i := 1) rfl rfl)) (eo_R (er_add (er_var (i := 1) rfl rfl) (er_var (i := 3) rfl rfl))) hz'
      rw [show (pl : Int) + (k : Int) = ((pl + k : Nat) : Int) by rw [Int.natCast_add], cutN_two l pl (pl + k) (Nat.le_add_right _ _), Nat.add_sub_cancel_left] at this
      exact this
    · rw [take_while_end hk fun c hc => ?_] at r3
      · exact r3
      · rw [List.getElem?_drop] at hc
        rw [Bool.and_eq_false_iff] at hb
        rcases hb with hb | hb
        · have h4 := (List.getElem?_eq_some_iff.mp hc).1
          have := of_decide_eq_false hb
          omega
        · have := of_decide_eq_false hb
          exact decide_eq_false fun h => this ⟨c, hc, h⟩
end
end K54
/-! KM: texts.py: symbol_at, symbols_of. -/
set_option Elab.async false
set_option linter.all false
set_option maxRecDepth 100000
set_option maxHeartbeats 400000
namespace K54
open PySem PySem.W PySem.Calls PyProof.Rows L2 Evl
theorem isDig_in (c : Nat) : decide (c ∈ ("0123456789" : Str).cps.toList) = isDig c := by
  have : ("0123456789" : Str).cps.toList = [48, 49, 50, 51, 52, 53, 54, 55, 56, 57] := by decide +kernel
  rw [this]
  unfold isDig
  rw [decide_eq_decide]
  simp only [List.mem_cons, List.not_mem_nil, or_false]
  omega
theorem punct_in (c : Nat) : c ∈ ("()|&*" : Str).cps.toList ↔ (c = 40 ∨ c = 41 ∨ c = 124 ∨ c = 38 ∨ c = 42) := by
  have : ("()|&*" : Str).cps.toList = [40, 41, 124, 38, 42] := by decide +kernel
  rw [this]
  simp only [List.mem_cons, List.not_mem_nil, or_false]
theorem symL_len (l : Sym) : (symL l).length ≤ l.length := by
  unfold symL
  split
  · exact Nat.le_refl _
  · next c r =>
    have tw : ∀ p : Nat → Bool, ((c :: r).takeWhile p).length ≤ (c :: r).length := fun p => (List.takeWhile_sublist p).length_le
    split
    · simp
    · split
      · next h =>
        have := congrArg List.length h
        rw [List.length_take] at this
        have h2 : ([62, 62] : Sym).length = 2 := rfl
        rw [h2] at this ⊢
        omega
      · split
        · split
          · exact tw _
          · exact Nat.zero_le _
        · split
          · exact tw _
          · exact Nat.zero_le _
theorem scanF_enough : ∀ (f g n : Nat) (l : Sym), l.length < f → l.length < g → scanF f n l = scanF g n l
  | 0, _, _, _, h, _ => absurd h (Nat.not_lt_zero _)
  | _ + 1, 0, _, _, _, h => absurd h (Nat.not_lt_zero _)
  | f + 1, g + 1, n, [], _, _ => rfl
  | f + 1, g + 1, n, c :: r, hf, hg => by
    rw [List.length_cons] at hf hg
    unfold scanF
    split
    · exact scanF_enough f g (n + 1) r (by omega) (by omega)
    · split
      · rfl
      · next h =>
        have h1 : 1 ≤ (symL (c :: r)).length := by
          cases e : symL (c :: r) with
          | nil => exact absurd e h
          | cons _ _ => rw [List.length_cons]; omega
        rw [scanF_enough f g _ _ (by rw [List.length_drop, List.length_cons]; omega) (by rw [List.length_drop, List.length_cons]; omega)]
theorem scan_nil (n : Nat) : scan n [] = [([], n)] := rfl
theorem scan_blank (n : Nat) (r : Sym) : scan n (32 :: r) = scan (n + 1) r := by
  unfold scan
  show scanF (r.length + 1 + 1) n (32 :: r) = _
  conv => lhs; unfold scanF
  rw [if_pos rfl]
theorem scan_end (n : Nat) {c : Nat} {r : Sym} (h : c ≠ 32) (hs : symL (c :: r) = []) : scan n (c :: r) = [([], n)] := by
  unfold scan
  show scanF (r.length + 1 + 1) n (c :: r) = _
  unfold scanF
  rw [if_neg h, if_pos hs]
theorem scan_sym (n : Nat) {c : Nat} {r : Sym} (h : c ≠ 32) (hs : symL (c :: r) ≠ []) : scan n (c :: r) = (symL (c :: r), n) :: scan (n + (symL (c :: r)).length) ((c :: r).drop (symL (c :: r)).length) := by
  have h1 : 1 ≤ (symL (c :: r)).length := by
    cases e : symL (c :: r) with
    | nil => exact absurd e hs
    | cons _ _ => rw [List.length_cons]; omega
  unfold scan
  show scanF (r.length + 1 + 1) n (c :: r) = _
  conv => lhs; unfold scanF
  rw [if_neg h, if_neg hs]
  rw [scanF_enough (r.length + 1) (((c :: r).drop (symL (c :: r)).length).length + 1) _ _ (by rw [List.length_drop, List.length_cons]; omega) (Nat.lt_succ_self _)]
section
variable {P : Program} {w : World} {K : PySem.W.Frag} {mg : Str → Option Value} {base : Heap} {C : Addr}
theorem sc_symbol_at : FnScope ["text", "place", "name", "digits"] ["text", "place"] (defScope (sT 59)) := ⟨rfl, rfl, rfl, by decide +kernel, rfl, by decide +kernel, by decide +kernel⟩
abbrev spSymbolAt (K : PySem.W.Frag) : Sp := spF (fun p : Sym × Nat => p.1.length ≤ 30000 ∧ p.2 < p.1.length) (fun p => [SyL p.1, In (p.2 : Int)]) (fun p => SyL (symL (p.1.drop p.2)))
abbrev CSymbolAt (P : Program) (w : World) (K : PySem.W.Frag) (mg : Str → Option Value) (base : Heap) := Cl P w K mg base "symbol_at" ["text", "place"] 2 (spSymbolAt K)
theorem cl_symbol_at (T : Txt K mg) (c_run_of : CRunOf P w K mg base) (F : DefAt K mg "symbol_at" (sT 59)) : CSymbolAt P w K mg base := by
  refine cl_of F sc_symbol_at (fun _ _ _ _ _ _ us hl => match us, hl with | [_, _], _ => rfl) (fun _ => rfl) fun f cdv A outer s H E p vs hr hp hA => ?_
  obtain ⟨l, pl⟩ := p
  obtain ⟨v1, v2, rfl, h1, h2⟩ := al2 hA
  cases (show v1 = .str (strL l) from h1)
  cases (show v2 = .int (pl : Int) from h2)
  obtain ⟨hz, hpl⟩ := (show l.length ≤ 30000 ∧ pl < l.length from hp)
  have hz' : l.length ≤ 100000 := Nat.le_trans hz (by decide)
  obtain ⟨tM, g_MOST⟩ := T.g_MOST
  refine ⟨_, (pss_cons (ps_if (pt_cmpR op_in_sign (pe_ix ix_str (pv 0) (pv 1) (fun _ _ => rfl)) pe_str (by rfl)) (pss_one (ps_ret (pe_ix ix_str (pv 0) (pv 1) (fun _ _ => rfl)))) pss_nil) (pss_cons (ps_if (pt_cmpR op_eq (pe_slice sl_str (pv 0) (po_some (pv 1)) (po_some (pe_op op_add (pv 1) pe_int))) pe_str (nomark _)) (pss_one (ps_ret pe_str)) pss_nil) (pss_cons (ps_par (by rfl) sc_symbol_at.nd (i := 2) (j := 3) rfl rfl (by decide) rfl rfl (pa_cons (pe_cl c_run_of (hr.mono (by first | decide | omega)) (pa_cons (pv 0) (pa_cons (pv 1) (pa_cons (pe_gs T.g_LETTERS) pa_nil)))) (pa_cons (pe_cl c_run_of (hr.mono (by first | decide | omega)) (pa_cons (pv 0) (pa_cons (pv 1) (pa_cons (pe_gs T.g_DIGITS) pa_nil)))) pa_nil)) (by rfl)) (pss_cons (ps_if (pt_cmpR op_gt (pe_callB call_len_str (by rfl) T.len (by decide +kernel) (pa_cons (pv 2) pa_nil)) pe_int (nomark _)) (pss_one (ps_ret (pe_ifExp (pt_cmpR op_le (pe_callB call_len_str (by rfl) T.len (by decide +kernel) (pa_cons (pv 2) pa_nil)) (pe_glob (v := .int 8) (by rfl) g_MOST ⟨_, rfl⟩) (nomark _)) (pv 2) pe_str))) pss_nil) (pss_one (ps_ret (pe_ifExp (PW.pt (pw_or (pt_cmpR op_lt (pe_callB call_len_str (by rfl) T.len (by decide +kernel) (pa_cons (pv 3) pa_nil)) pe_int (nomark _)) (pw_or1 (pt_cmpR op_ne (pe_ix ix_str (pv 3) pe_int (fun _ _ => rfl)) pe_str (nomark _))))) (pv 3) pe_str))))))), fun Q q => ?_⟩
  have hg : l[pl]? = some l[pl] := List.getElem?_eq_getElem hpl
  have hd : l.drop pl = l[pl] :: l.drop (pl + 1) := drop_at hg
  have q : ∀ (v : V) (H' : Hp), Ex H H' → (SyL (symL (l.drop pl))).r H' v → Q v H' := q
  have esym : symL (l.drop pl) = (if l[pl] = 40 ∨ l[pl] = 41 ∨ l[pl] = 124 ∨ l[pl] = 38 ∨ l[pl] = 42 then [l[pl]]
    else if (l.drop pl).take 2 = [62, 62] then [62, 62]
    else if 0 < ((l.drop pl).takeWhile isLet).length then (if ((l.drop pl).takeWhile isLet).length ≤ 8 then (l.drop pl).takeWhile isLet else [])
    else if ((l.drop pl).takeWhile isDig).length < 2 ∨ ((l.drop pl).takeWhile isDig)[0]? ≠ some 48 then (l.drop pl).takeWhile isDig else []) := by
    rw [hd]
    rfl
  rw [esym] at q
  have ix : ∀ {y2 y3 : Option V} {H1}, Er (tOp rIxS (tVar 0) (tVar 1)) [some (.str (strL l)), some (.int (pl : Int)), y2, y3] H1 (SyL [l[pl]]) := er_ixL' (i := pl) (er_var rfl rfl) (er_var rfl rfl) hz' hg
  refine q_when (b := decide (l[pl] ∈ ("()|&*" : Str).cps.toList)) (et_testR (er_inL ix er_is)) (fun hb H1 e1 => ?_) fun hb H1 e1 => ?_
  · rw [if_pos ((punct_in _).mp (of_decide_eq_true hb))] at q
    exact s_retR ix fun v H2 e2 r2 => q v H2 (e1.trans e2) r2
  rw [if_neg fun h => of_decide_eq_false hb ((punct_in _).mpr h)] at q
  refine q_when (b := decide ((l.drop pl).take 2 = [62, 62])) (et_testR (er_eqSL ?_ (er_lit (by decide +kernel)))) (fun hb H2 e2 => ?_) fun hb H2 e2 => ?_
  · have := er_slS (te := tVar 0) (σ := [some (.str (strL l)), some (.int (pl : Int)), none, none]) (H := H1) (l := l) (er_var rfl rfl) (eo_R (i := (pl : Int)) (er_var (i := 1) rfl rfl)) (eo_R (er_add (er_var (i := 1) rfl rfl) (er_is (v := .int 2)))) hz'
    rw [show (pl : Int) + 2 = ((pl + 2 : Nat) : Int) by rw [Int.natCast_add]; rfl, cutN_two l pl (pl + 2) (Nat.le_add_right _ _), Nat.add_sub_cancel_left] at this
    exact this
  · rw [if_pos (of_decide_eq_true hb)] at q
    exact s_retR (er_lit (by decide +kernel)) fun v H3 e3 r3 => q v H3 ((e1.trans e2).trans e3) r3
  rw [if_neg (of_decide_eq_false hb)] at q
  have tl : ∀ p : Nat → Bool, ((l.drop pl).takeWhile p).length ≤ 30000 := fun p => Nat.le_trans (List.takeWhile_sublist p).length_le (by rw [List.length_drop]; omega)
  refine q_parR (Ra := SyL ((l.drop pl).takeWhile isLet)) (Rb := SyL ((l.drop pl).takeWhile isDig)) (ea_2 ?_ ?_) fun u1 u2 H3 e3 r1 r2 => ?_
  · have := er_call (E := E0) (l, pl, ("abcdefghijklmnopqrstuvwxyz" : Str)) (⟨hz, Nat.le_of_lt hpl⟩ : l.length ≤ 30000 ∧ pl ≤ l.length) (ea_3 (σ := [some (.str (strL l)), some (.int (pl : Int)), none, none]) (H := H2) (Ra := SyL l) (Rb := In (pl : Int)) (Rc := Sy "abcdefghijklmnopqrstuvwxyz") (er_var (i := 0) rfl rfl) (er_var (i := 1) rfl rfl) er_is) (out := fun p => SyL ((p.1.drop p.2.1).takeWhile fun c => decide (c ∈ p.2.2.cps.toList))) (pre := fun p => p.1.length ≤ 30000 ∧ p.2.1 ≤ p.1.length) (ins := fun p => [SyL p.1, In (p.2.1 : Int), Sy p.2.2])
    simp only [isLet_in] at this
    exact this
  · have := er_call (E := E0) (l, pl, ("0123456789" : Str)) (⟨hz, Nat.le_of_lt hpl⟩ : l.length ≤ 30000 ∧ pl ≤ l.length) (ea_3 (σ := [some (.str (strL l)), some (.int (pl : Int)), none, none]) (H := H2) (Ra := SyL l) (Rb := In (pl : Int)) (Rc := Sy "0123456789") (er_var (i := 0) rfl rfl) (er_var (i := 1) rfl rfl) er_is) (out := fun p => SyL ((p.1.drop p.2.1).takeWhile fun c => decide (c ∈ p.2.2.cps.toList))) (pre := fun p => p.1.length ≤ 30000 ∧ p.2.1 ≤ p.1.length) (ins := fun p => [SyL p.1, In (p.2.1 : Int), Sy p.2.2])
    simp only [isDig_in] at this
    exact this
  cases (show u1 = .str (strL ((l.drop pl).takeWhile isLet)) from r1)
  cases (show u2 = .str (strL ((l.drop pl).takeWhile isDig)) from r2)
  have e13 := (e1.trans e2).trans e3
  have t1 := tl isLet
  have t2 := tl isDig
  generalize (l.drop pl).takeWhile isLet = nm at q t1
  generalize (l.drop pl).takeWhile isDig = dg at q t2
  have ln : ∀ {H1}, Er (tCB rLenT (tCons (tVar 2) tNil)) [some (.str (strL l)), some (.int (pl : Int)), some (.str (strL nm)), some (.str (strL dg))] H1 (In (nm.length : Int)) := er_lenL' (er_var rfl rfl) (Nat.le_trans t1 (by decide))
  have ld : ∀ {H1}, Er (tCB rLenT (tCons (tVar 3) tNil)) [some (.str (strL l)), some (.int (pl : Int)), some (.str (strL nm)), some (.str (strL dg))] H1 (In (dg.length : Int)) := er_lenL' (er_var rfl rfl) (Nat.le_trans t2 (by decide))
  refine q_when (b := decide ((0 : Int) < (nm.length : Nat))) (et_testR (er_gt ln er_is)) (fun hb H4 e4 => ?_) fun hb H4 e4 => ?_
  · have h0 : 0 < nm.length := by
      have := of_decide_eq_true hb
      omega
    rw [if_pos h0] at q
    refine s_retR (er_if (b := decide ((nm.length : Int) ≤ 8)) (et_testR (er_le ln er_is)) (fun hz => ?_) fun hz => ?_) fun v H5 e5 r5 => q v H5 ((e13.trans e4).trans e5) r5
    · rw [if_pos (by have := of_decide_eq_true hz; omega)]
      exact er_var rfl rfl
    · rw [if_neg (by have := of_decide_eq_false hz; omega)]
      exact er_lit (by decide +kernel)
  · have h0 : ¬ 0 < nm.length := by
      have := of_decide_eq_false hb
      omega
    rw [if_neg h0] at q
    refine s_retR (er_if (b := decide ((dg.length : Int) < 2) || !decide (dg[0]? = some 48)) (et_or (et_testR (er_lt ld er_is)) fun hlt => ?_) (fun hz => ?_) fun hz => ?_) fun v H5 e5 r5 => q v H5 ((e13.trans e4).trans e5) r5
    · have hlt' : 0 < dg.length := by
        have := of_decide_eq_false hlt
        omega
      have hg0 : dg[0]? = some dg[0] := List.getElem?_eq_getElem hlt'
      have := er_neSL (er_ixL' (σ := [some (.str (strL l)), some (.int (pl : Int)), some (.str (strL nm)), some (.str (strL dg))]) (H := H4) (ta := tVar 3) (tb := tC (.int 0)) (i := 0) (er_var rfl rfl) er_is (Nat.le_trans t2 (by decide)) hg0) (er_lit (x := "0") (l := [48]) (by decide +kernel))
      rw [show (decide (dg[0]? = some 48)) = decide ([dg[0]] = [48]) from decide_eq_decide.mpr (by rw [hg0]; simp)]
      exact et_testR this
    · rw [if_pos]
      · exact er_var rfl rfl
      · rw [Bool.or_eq_true, decide_eq_true_eq, Bool.not_eq_true', decide_eq_false_iff_not] at hz
        rcases hz with h | h
        · left; omega
        · right; exact h
    · rw [if_neg]
      · exact er_lit (by decide +kernel)
      · rw [Bool.or_eq_false_iff, decide_eq_false_iff_not, Bool.not_eq_false', decide_eq_true_eq] at hz
        rintro (h | h)
        · omega
        · exact h hz.2
theorem nil_lit : ("" : Str) = strL [] := by decide +kernel
def PairS (K : PySem.W.Frag) (p : Sym × Nat) : Pr := Tup K [SyL p.1, In (p.2 : Int)]
theorem im_pairS {p : Sym × Nat} : Im (PairS K p) := im_tup (iml_cons im_sy (iml_cons im_is iml_nil))
theorem scan_len : ∀ (f n : Nat) (l : Sym), (scanF f n l).length ≤ f
  | 0, _, _ => Nat.le_refl _
  | f + 1, n, [] => by show 1 ≤ f + 1; omega
  | f + 1, n, c :: r => by
    unfold scanF
    split
    · exact Nat.le_succ_of_le (scan_len f _ _)
    · split
      · show 1 ≤ f + 1
        omega
      · rw [List.length_cons]
        exact Nat.succ_le_succ (scan_len f _ _)
theorem sc_symbols_of : FnScope ["text", "found", "place", "symbol"] ["text"] (defScope (sT 60)) := ⟨rfl, rfl, rfl, by decide +kernel, rfl, by decide +kernel, by decide +kernel⟩
abbrev spSymbolsOf (K : PySem.W.Frag) : Sp := spF (fun l : Sym => l.length ≤ 30000) (fun l => [SyL l]) (fun l => Lst K ((scan 0 l).map (PairS K)))
abbrev CSymbolsOf (P : Program) (w : World) (K : PySem.W.Frag) (mg : Str → Option Value) (base : Heap) := Cl P w K mg base "symbols_of" ["text"] 3 (spSymbolsOf K)
theorem cl_symbols_of (T : Txt K mg) (c_symbol_at : CSymbolAt P w K mg base) (F : DefAt K mg "symbols_of" (sT 60)) : CSymbolsOf P w K mg base := by
  refine cl_of F sc_symbols_of (fun _ _ _ _ _ _ us hl => match us, hl with | [_], _ => rfl) (fun _ => rfl) fun f cdv A outer s H E l vs hr hz hA => ?_
  obtain ⟨v1, rfl, h1⟩ := al1 hA
  cases (show v1 = .str (strL l) from h1)
  have hz : l.length ≤ 30000 := hz
  have hz' : l.length ≤ 100000 := Nat.le_trans hz (by decide)
  refine ⟨_, (pss_cons (ps_par (by rfl) sc_symbols_of.nd (i := 1) (j := 2) rfl rfl (by decide) rfl rfl (pa_cons (pe_lst pa_nil) (pa_cons pe_int pa_nil)) (by rfl)) (pss_cons (ps_while PassesOwn.never (pt_cmpR op_lt (pv 2) (pe_callB call_len_str (by rfl) T.len (by decide +kernel) (pa_cons (pv 0) pa_nil)) (nomark _)) (pss_cons (ps_if (pt_cmpR op_eq (pe_ix ix_str (pv 0) (pv 2) (fun _ _ => rfl)) (pe_gs T.g_BLANK) (nomark _)) (pss_cons (ps_aug (i := 2) sc_symbols_of.nd rfl (Or.inl rfl) pe_int ip_add) (pss_one ps_continue)) pss_nil) (pss_cons (ps_set (i := 3) sc_symbols_of.nd rfl (by first | exact Or.inl rfl | exact Or.inr rfl) (pe_cl c_symbol_at (hr.mono (by first | decide | omega)) (pa_cons (pv 0) (pa_cons (pv 2) pa_nil)))) (pss_cons (ps_expr (pe_bm PySem.F.plainAttrs_list PySem.F.slot_list_append PySem.F.type_list_append mt_append (pv 1) (pa_cons (pe_tup (pa_cons (pv 3) (pa_cons (pv 2) pa_nil))) pa_nil))) (pss_cons (ps_if (pt_cmpR op_eq (pv 3) pe_str (nomark _)) (pss_one (ps_ret (pv 1))) pss_nil) (pss_one (ps_aug (i := 2) sc_symbols_of.nd rfl (Or.inl rfl) (pe_callB call_len_str (by rfl) T.len (by decide +kernel) (pa_cons (pv 3) pa_nil)) ip_add))))))) (pss_one (ps_ret (pe_lst (kStar K rfl (pv 1) (pa_cons (pe_tup (pa_cons pe_str (pa_cons (pe_callB call_len_str (by rfl) T.len (by decide +kernel) (pa_cons (pv 0) pa_nil)) pa_nil))) pa_nil))))))), fun Q q => ?_⟩
  refine ⟨Nat.zero_le _, fun p hp => ⟨_, _, rfl, ?_⟩⟩
  have hall : (scan 0 l).length ≤ l.length + 1 := scan_len _ _ _
  refine q_while (fun m σ' H' => ∃ (pl : Nat) (y : Option V) (acc : List (Sym × Nat)) (vs : List V), σ' = [some (.str (strL l)), some (.ref p), some (.int (pl : Int)), y] ∧ pl + m = l.length ∧ Ex H H' ∧ H' p = some (.lst vs) ∧ Al (acc.map (PairS K)) H' vs ∧ acc ++ scan pl (l.drop pl) = scan 0 l) l.length ⟨0, none, [], [], rfl, by omega, Ex.new hp, upd_same, trivial, rfl⟩ fun m σ' H' hx => ?_
  obtain ⟨pl, y, acc, vs, rfl, hm, ex, hvs, hal, hsc⟩ := hx
  refine ⟨decide ((pl : Int) < (l.length : Nat)), et_testR (er_lt (er_var rfl rfl) (er_lenL' (er_var rfl rfl) hz')), fun hb H2 e2 => ?_, fun hb H2 e2 => ?_⟩
  · have hpl : pl < l.length := by
      have := of_decide_eq_true hb
      omega
    have hg : l[pl]? = some l[pl] := List.getElem?_eq_getElem hpl
    have hd : l.drop pl = l[pl] :: l.drop (pl + 1) := drop_at hg
    refine ⟨fun σ' H' => ∃ m', m' < m ∧ ∃ (pl : Nat) (y : Option V) (acc : List (Sym × Nat)) (vs : List V), σ' = [some (.str (strL l)), some (.ref p), some (.int (pl : Int)), y] ∧ pl + m' = l.length ∧ Ex H H' ∧ H' p = some (.lst vs) ∧ Al (acc.map (PairS K)) H' vs ∧ acc ++ scan pl (l.drop pl) = scan 0 l, fun _ _ h => h, ?_⟩
    refine q_when (b := decide (([l[pl]] : Sym) = [32])) (et_testR (er_eqSL (er_ixL' (i := pl) (er_var rfl rfl) (er_var rfl rfl) hz' hg) (er_lit (by decide +kernel)))) (fun hb H3 e3 => ?_) fun hb H3 e3 => ?_
    · have h32 : l[pl] = 32 := by simpa using of_decide_eq_true hb
      refine ⟨_, rfl, _, _, rfl, rfl, m - 1, by omega, pl + 1, y, acc, vs, rfl, by omega, (ex.trans e2).trans e3, e3 _ _ (e2 _ _ hvs), hal.up (e2.trans e3), ?_⟩
      rw [← hsc, hd, h32, scan_blank]
    · have h32 : l[pl] ≠ 32 := by simpa using of_decide_eq_false hb
      have e23 := e2.trans e3
      refine q_asgR (er_call (l, pl) ⟨hz, hpl⟩ (ea_2 (er_var rfl rfl) (er_var rfl rfl))) fun u H4 e4 r4 => ?_
      have hsl := symL_len (l.drop pl)
      cases (show u = .str (strL (symL (l.drop pl))) from r4)
      have hacc : acc.length ≤ l.length + 1 := by
        rw [← hsc, List.length_append] at hall
        omega
      have hvl := hal.len
      rw [List.length_map] at hvl
      refine q_appU (K := K) (l := p) (xs := vs) (e4 _ _ (e23 _ _ hvs)) (ev_var rfl) (eu_tup (ea_cons (ev_var rfl) (ea_cons (ev_var rfl) ea_nil)) (by show 2 ≤ 100000; decide)) (by omega) fun t H5 ht e5 ht5 => ?_
      have e25 := (e23.trans e4).trans e5
      have hp5 : H5 p = some (.lst vs) := e25 _ _ hvs
      have kp : Kp H5 (upd H5 p (.lst (vs ++ [V.ref t]))) := kp_mut (Kp.refl H5) hp5 rfl
      have hpn : H p = none := hp
      have ex6 : Ex H (upd H5 p (.lst (vs ++ [V.ref t]))) := Ex.mut (ex.trans e25) hpn
      have hal6 : Al ((acc ++ [(symL (l.drop pl), pl)]).map (PairS K)) (upd H5 p (.lst (vs ++ [V.ref t]))) (vs ++ [V.ref t]) := by
        rw [List.map_append]
        refine (Al.app (hal.up e25) (show Al [PairS K (symL (l.drop pl), pl)] H5 [V.ref t] from ⟨⟨t, _, rfl, st_of ht5, rfl, rfl, trivial⟩, trivial⟩)).kp kp ?_
        exact fun R hR => by
          rcases List.mem_append.mp hR with hR | hR
          · obtain ⟨x, _, rfl⟩ := List.mem_map.mp hR
            exact im_pairS
          · rw [List.mem_singleton.mp hR]
            exact im_pairS
      have hp6 : (upd H5 p (.lst (vs ++ [V.ref t]))) p = some (.lst (vs ++ [V.ref t])) := upd_same
      generalize (upd H5 p (.lst (vs ++ [V.ref t]))) = H6 at ex6 hal6 hp6
      generalize vs ++ [V.ref t] = vs2 at hal6 hp6
      refine q_when (b := decide (symL (l.drop pl) = [])) (et_testR (er_eqSL (er_var rfl rfl) (er_lit (by decide +kernel)))) (fun hb H7 e7 => ?_) fun hb H7 e7 => ?_
      · have hs0 : symL (l.drop pl) = [] := of_decide_eq_true hb
        refine s_retR (R := Lst K ((scan 0 l).map (PairS K))) (er_var rfl ⟨p, vs2, rfl, e7 _ _ hp6, ?_⟩) fun v H8 e8 r8 => q v H8 ((ex6.trans e7).trans e8) r8
        rw [← hsc, hd, scan_end pl h32 (by rw [← hd]; exact hs0)]
        rw [hs0] at hal6
        exact hal6.up e7
      · have hs1 : symL (l.drop pl) ≠ [] := of_decide_eq_false hb
        have h1 : 1 ≤ (symL (l.drop pl)).length := by
          cases e : symL (l.drop pl) with
          | nil => exact absurd e hs1
          | cons _ _ => rw [List.length_cons]; omega
        rw [List.length_drop] at hsl
        refine s_aug (a := (pl : Int)) (b := ((symL (l.drop pl)).length : Int)) rfl (ev_er (er_lenL' (er_var rfl rfl) (by omega))) fun H8 e8 => ?_
        refine ⟨m - (symL (l.drop pl)).length, by omega, pl + (symL (l.drop pl)).length, some (.str (strL (symL (l.drop pl)))), acc ++ [(symL (l.drop pl), pl)], vs2, ?_, by omega, (ex6.trans e7).trans e8, e8 _ _ (e7 _ _ hp6), hal6.up (e7.trans e8), ?_⟩
        · rw [Int.natCast_add]
          rfl
        · rw [List.append_assoc]
          rw [← hsc]
          congr 1
          have := scan_sym pl h32 (by rw [← hd]; exact hs1)
          rw [← hd] at this
          rw [this, List.drop_drop]
          rfl
  · have hpl : pl = l.length := by
      have := of_decide_eq_false hb
      omega
    refine s_retR (R := Lst K ((scan 0 l).map (PairS K))) ?_ fun v H8 e8 r8 => q v H8 ((ex.trans e2).trans e8) r8
    have e9 : (scan 0 l).map (PairS K) = acc.map (PairS K) ++ [PairS K ([], l.length)] := by
      rw [← hsc, hpl, List.drop_length, scan_nil, List.map_append]
      rfl
    rw [e9]
    refine er_lst (ea_starL (er_var rfl ⟨p, vs, rfl, e2 _ _ hvs, hal.up e2⟩) (ea_1 (er_tup (ea_2 (er_lit (l := []) nil_lit) (er_lenL' (er_var rfl rfl) hz')) (by show 2 ≤ 100000; decide)))) ?_
    have : acc.length ≤ l.length + 1 := by
      rw [← hsc, List.length_append] at hall
      omega
    rw [List.length_append, List.length_map]
    show acc.length + 1 ≤ 100000
    omega
end
end K54
/-! KN: texts.py: lone_rule, joined, put_together. -/
set_option Elab.async false
set_option linter.all false
set_option maxRecDepth 100000
set_option maxHeartbeats 400000
namespace K54
open PySem PySem.W PySem.Calls PyProof.Rows L2 Evl
/-- a rule or None -/
def OptR (K : PySem.W.Frag) (C : Addr) : Option (K54.T Str) → Pr
  | none => Is .non
  | some t => RuleP K C t
/-- what stands in a row -/
def ItP (K : PySem.W.Frag) (C : Addr) : Item Str → Pr
  | .rule t => RuleP K C t
  | .sg k => SyL (signL k)
theorem im_it {K : PySem.W.Frag} {C : Addr} {x : Item Str} : Im (ItP K C x) := by
  cases x with
  | rule t => exact im_rule
  | sg k => exact im_sy
/-- a row that ends with a rule -/
def RowW : List (Item Str) → Prop
  | [] => False
  | [.rule _] => True
  | .rule _ :: .sg k :: r => k ≤ 2 ∧ RowW r
  | _ => False
/-- a row that waits for a rule -/
def RowD : List (Item Str) → Prop
  | [] => True
  | .sg k :: r => k ≤ 2 ∧ RowW r
  | _ => False
theorem rowW_head {r : List (Item Str)} (h : RowW r) : ∃ t r', r = .rule t :: r' := by
  cases r with
  | nil => exact h.elim
  | cons x r =>
    cases x with
    | rule t => exact ⟨t, r, rfl⟩
    | sg k => exact h.elim
theorem rowW_push {r : List (Item Str)} (h : RowD r) (t : K54.T Str) : RowW (.rule t :: r) := by
  cases r with
  | nil => trivial
  | cons x r =>
    cases x with
    | rule t => exact h.elim
    | sg k => exact h
theorem rowW_cases {r : List (Item Str)} (h : RowW r) : (∃ b, r = [.rule b]) ∨ ∃ b k a r', r = .rule b :: .sg k :: .rule a :: r' ∧ k ≤ 2 ∧ RowW (.rule a :: r') := by
  obtain ⟨t, r', rfl⟩ := rowW_head h
  cases r' with
  | nil => exact .inl ⟨t, rfl⟩
  | cons x r' =>
    cases x with
    | rule t => exact h.elim
    | sg k =>
      obtain ⟨a, r'', rfl⟩ := rowW_head h.2
      exact .inr ⟨t, k, a, r'', rfl, h.1, h.2⟩
theorem rowW_swap {a : K54.T Str} {r : List (Item Str)} (h : RowW (.rule a :: r)) (b : K54.T Str) : RowW (.rule b :: r) := by
  cases r with
  | nil => trivial
  | cons x r =>
    cases x with
    | rule t => exact h.elim
    | sg k => exact h
theorem put_row : ∀ (n : Nat) (r : List (Item Str)) (m : Nat), r.length ≤ m → RowW r → RowW (put r n)
  | n, r, 0, hm, h => by
    rw [List.eq_nil_of_length_eq_zero (Nat.le_zero.mp hm)] at h
    exact h.elim
  | n, r, m + 1, hm, h => by
    rcases rowW_cases h with ⟨b, rfl⟩ | ⟨b, k, a, r', rfl, hk, hr⟩
    · exact h
    · by_cases hn : n ≤ k
      · rw [put_join hn]
        refine put_row n _ m ?_ (rowW_swap hr _)
        simp only [List.length_cons] at hm ⊢
        omega
      · rw [put_stay hn]
        exact h
def ExB (p : Addr) (H H' : Hp) : Prop := ∀ a o, a ≠ p → H a = some o → H' a = some o
theorem ExB.refl (p : Addr) (H : Hp) : ExB p H H := fun _ _ _ h => h
theorem ExB.trans {p : Addr} {H H1 H2 : Hp} (a : ExB p H H1) (b : ExB p H1 H2) : ExB p H H2 := fun x o h e => b x o h (a x o h e)
theorem exb_ex {p : Addr} {H H' : Hp} (e : Ex H H') : ExB p H H' := fun a o _ h => e a o h
theorem exb_upd {p : Addr} {H H' : Hp} {o : HO} (e : ExB p H H') : ExB p H (upd H' p o) := fun a x h e' => by
  rw [upd_ne h]
  exact e a x h e'
/-- all that never changes stands, where p held a list -/
theorem exb_kp {p : Addr} {H H' : Hp} {xs ys : List V} (e : ExB p H H') (h : H p = some (.lst xs)) (h' : H' p = some (.lst ys)) : Kp H H' := fun a o i ha => by
  by_cases q : a = p
  · subst q
    rw [h] at ha
    cases ha
    cases i
  · exact e a o q ha
theorem Al.snoc {H : Hp} {R : Pr} : ∀ {Rs : List Pr} {vs : List V}, Al (Rs ++ [R]) H vs → ∃ ws v, vs = ws ++ [v] ∧ Al Rs H ws ∧ R.r H v
  | [], [v], h => ⟨[], v, rfl, trivial, h.1⟩
  | [], [], h => h.elim
  | [], _ :: _ :: _, h => h.2.elim
  | S :: Rs, [], h => h.elim
  | S :: Rs, v :: vs, h => by
    obtain ⟨ws, u, e, h1, h2⟩ := Al.snoc (Rs := Rs) (vs := vs) h.2
    exact ⟨v :: ws, u, by rw [e]; rfl, ⟨h.1, h1⟩, h2⟩
theorem Al.snoc' {H : Hp} {R : Pr} {Rs : List Pr} {vs : List V} {v : V} (h : Al Rs H vs) (r : R.r H v) : Al (Rs ++ [R]) H (vs ++ [v]) := Al.app h (show Al [R] H [v] from ⟨r, trivial⟩)
theorem atI_two {γ : Type} (xs : List γ) (x y : γ) : atI (xs ++ [x, y]) (-2) = some x := by
  have hl : (xs ++ [x, y]).length = xs.length + 2 := by simp
  have e : ixN (xs ++ [x, y]).length (-2) = some xs.length := by
    unfold ixN
    rw [if_neg (by decide), hl, if_pos (by omega)]
    congr 1
    omega
  unfold atI
  rw [e]
  simp
section
variable {K : PySem.W.Frag} {σ : L2.St} {H : Hp} {C : Addr}
/-- l.pop() -/
theorem t_pop {to : TE} {l : Addr} {xs : List V} {v : V} {Q : VK} (h : Ev to σ H (.ref l)) (hl : H l = some (.lst (xs ++ [v]))) (q : ∀ H1, Ex H H1 → Q v (upd H1 l (.lst xs))) : tBM0 K "list" rPop to σ H Q := h H (Ex.refl H) _ fun H1 e1 => by
  have hl1 := e1 _ _ hl
  refine ⟨Or.inl ⟨rfl, _, sq_of hl1⟩, l, _, v, rfl, rfl, hl1, by simp, ?_⟩
  rw [List.dropLast_concat]
  exact q H1 e1
end
section
variable {P : Program} {w : World} {K : PySem.W.Frag} {mg : Str → Option Value} {base : Heap} {C : Addr}
theorem sc_lone_rule : FnScope ["symbol"] ["symbol"] (defScope (sT 61)) := ⟨rfl, rfl, rfl, by decide +kernel, rfl, by decide +kernel, by decide +kernel⟩
abbrev spLone (K : PySem.W.Frag) (C : Addr) : Sp := spF (fun l : Sym => l.length ≤ 30000) (fun l => [SyL l]) (fun l => OptR K C (lone strL l))
abbrev CLone (P : Program) (w : World) (K : PySem.W.Frag) (mg : Str → Option Value) (base : Heap) (C : Addr) := Cl P w K mg base "lone_rule" ["symbol"] 4 (spLone K C)
theorem cl_lone_rule (T : Txt K mg) (c_is_name : CIsName P w K mg base) (c_seen : CSeen P w K mg base C) (c_nothing : CNothing P w K mg base C) (c_never : CNever P w K mg base C) (F : DefAt K mg "lone_rule" (sT 61)) : CLone P w K mg base C := by
  refine cl_of F sc_lone_rule (fun _ _ _ _ _ _ us hl => match us, hl with | [_], _ => rfl) (fun _ => rfl) fun f cdv A outer s H E l vs hr hz hA => ?_
  obtain ⟨v1, rfl, h1⟩ := al1 hA
  cases (show v1 = .str (strL l) from h1)
  have hz : l.length ≤ 30000 := hz
  refine ⟨_, (pss_cons (ps_if (pt_val (pe_cl c_is_name (hr.mono (by first | decide | omega)) (pa_cons (pv 0) pa_nil))) (pss_one (ps_ret (pe_cl c_seen (hr.mono (by first | decide | omega)) (pa_cons (pv 0) pa_nil)))) pss_nil) (pss_cons (ps_if (pt_cmpR op_eq (pv 0) (pe_gs T.g_NOTHING_texts) (nomark _)) (pss_one (ps_ret (pe_cl0 c_nothing (hr.mono (by first | decide | omega))))) pss_nil) (pss_one (ps_ret (pe_ifExp (pt_cmpR op_eq (pv 0) (pe_gs T.g_NEVER_texts) (nomark _)) (pe_cl0 c_never (hr.mono (by first | decide | omega))) pe_non))))), fun Q q => ?_⟩
  have q : ∀ (v : V) (H' : Hp), Ex H H' → (OptR K C (lone strL l)).r H' v → Q v H' := q
  unfold lone at q
  refine q_when (b := nameOk l) (et_BR ?_) (fun hb H1 e1 => ?_) fun hb H1 e1 => ?_
  · have := er_call (E := E0) (strL l) (show (strL l).length ≤ 40000 by rw [strL_len]; omega) (ea_1 (σ := [some (.str (strL l))]) (H := H) (R := Sy (strL l)) (ta := tVar 0) (er_var rfl rfl)) (pre := fun x : Str => x.length ≤ 40000) (ins := fun x => [Sy x]) (out := fun x => Bo (nameOk x.cps.toList))
    rw [show (strL l).cps.toList = l from cps_strL l] at this
    exact this
  · rw [if_pos hb] at q
    exact s_retR (er_call (strL l) (by show nameOk (cpsS (strL l)) = true; rw [cps_strL]; exact hb) (ea_1 (er_var rfl rfl))) fun v H2 e2 r2 => q v H2 (e1.trans e2) r2
  · rw [if_neg (by rw [hb]; decide)] at q
    refine q_when (b := decide (l = [49])) (et_testR (er_eqSL (er_var rfl rfl) (er_lit (by decide +kernel)))) (fun hb H2 e2 => ?_) fun hb H2 e2 => ?_
    · rw [if_pos (of_decide_eq_true hb)] at q
      exact s_retR (er_call () trivial ea_nilR) fun v H3 e3 r3 => q v H3 ((e1.trans e2).trans e3) r3
    · rw [if_neg (of_decide_eq_false hb)] at q
      refine s_retR (er_if (b := decide (l = [48])) (et_testR (er_eqSL (er_var rfl rfl) (er_lit (by decide +kernel)))) (fun hb => ?_) fun hb => ?_) fun v H3 e3 r3 => q v H3 ((e1.trans e2).trans e3) r3
      · rw [if_pos (of_decide_eq_true hb)]
        exact er_call () trivial ea_nilR
      · rw [if_neg (of_decide_eq_false hb)]
        exact er_is
theorem sc_joined : FnScope ["one", "sign", "other"] ["one", "sign", "other"] (defScope (sT 62)) := ⟨rfl, rfl, rfl, by decide +kernel, rfl, by decide +kernel, by decide +kernel⟩
abbrev spJoined (K : PySem.W.Frag) (C : Addr) : Sp := spF (fun p : K54.T Str × Nat × K54.T Str => p.2.1 ≤ 2) (fun p => [RuleP K C p.1, SyL (signL p.2.1), RuleP K C p.2.2]) (fun p => RuleP K C (joinT p.2.1 p.1 p.2.2))
abbrev CJoined (P : Program) (w : World) (K : PySem.W.Frag) (mg : Str → Option Value) (base : Heap) (C : Addr) := Cl P w K mg base "joined" ["one", "sign", "other"] 5 (spJoined K C)
theorem cl_joined (T : Txt K mg) (O : Ops P w K mg base C) (F : DefAt K mg "joined" (sT 62)) : CJoined P w K mg base C := by
  refine cl_of F sc_joined (fun _ _ _ _ _ _ us hl => match us, hl with | [_, _, _], _ => rfl) (fun _ => rfl) fun f cdv A outer s H E p vs hr hp hA => ?_
  obtain ⟨a, k, b⟩ := p
  obtain ⟨v1, v2, v3, rfl, h1, h2, h3⟩ := al3 hA
  have hk : k ≤ 2 := hp
  cases (show v2 = .str (strL (signL k)) from h2)
  refine ⟨_, (pss_cons (ps_if (pt_cmpR op_eq (pv 1) pe_str (nomark _)) (pss_one (ps_ret (pe_op (opThn O hr) (pv 0) (pv 2)))) pss_nil) (pss_one (ps_ret (pe_ifExp (pt_cmpR op_eq (pv 1) pe_str (nomark _)) (pe_op (opAll O hr) (pv 0) (pv 2)) (pe_op (opAlt O hr) (pv 0) (pv 2)))))), fun Q q => ?_⟩
  have hv1 : ∀ {H1}, Ex H H1 → Er (tVar 0) [some v1, some (.str (strL (signL k))), some v3] H1 (OthP K C (.inl a)) := fun e => er_var rfl ((RuleP K C a).up e h1)
  have hv3 : ∀ {H1}, Ex H H1 → Er (tVar 2) [some v1, some (.str (strL (signL k))), some v3] H1 (OthP K C (.inl b)) := fun e => er_var rfl ((RuleP K C b).up e h3)
  have hk' : k = 0 ∨ k = 1 ∨ k = 2 := by omega
  refine q_when (b := decide (signL k = [62, 62])) (et_testR (er_eqSL (er_var rfl rfl) (er_lit (by decide +kernel)))) (fun hb H1 e1 => ?_) fun hb H1 e1 => ?_
  · have ek : k = 2 := by
      rcases hk' with rfl | rfl | rfl
      · cases hb
      · cases hb
      · rfl
    subst ek
    exact s_retR (er_bin (mk := .thn) (o1 := .inl a) (o2 := .inl b) (hv1 e1) (hv3 e1) trivial trivial (.inl rfl)) fun v H2 e2 r2 => q v H2 (e1.trans e2) r2
  · refine s_retR (R := RuleP K C (joinT k a b)) (er_if (b := decide (signL k = [38])) (et_testR (er_eqSL (er_var rfl rfl) (er_lit (by decide +kernel)))) (fun hb2 => ?_) fun hb2 => ?_) fun v H2 e2 r2 => q v H2 (e1.trans e2) r2
    · have ek : k = 1 := by
        rcases hk' with rfl | rfl | rfl
        · cases hb2
        · rfl
        · cases hb2
      subst ek
      exact er_bin (mk := .all) (o1 := .inl a) (o2 := .inl b) (hv1 e1) (hv3 e1) trivial trivial (.inl rfl)
    · have ek : k = 0 := by
        rcases hk' with rfl | rfl | rfl
        · rfl
        · cases hb2
        · cases hb
      subst ek
      exact er_bin (mk := .alt) (o1 := .inl a) (o2 := .inl b) (hv1 e1) (hv3 e1) trivial trivial (.inl rfl)
/-! ### put_together: changes its row -/
def RowAt (K : PySem.W.Frag) (C : Addr) (H : Hp) (r : Addr) (row : List (Item Str)) : Prop := ∃ ws, H r = some (.lst ws) ∧ Al (row.reverse.map (ItP K C)) H ws
theorem iml_it {l : List (Item Str)} : ImL (l.map (ItP K C)) := iml_map fun _ => im_it
theorem RowAt.up {H H' : Hp} {r : Addr} {row : List (Item Str)} (e : Ex H H') (h : RowAt K C H r row) : RowAt K C H' r row := by
  obtain ⟨ws, h1, h2⟩ := h
  exact ⟨ws, e _ _ h1, h2.up e⟩
/-- the row's last thing is taken away -/
theorem row_last {H : Hp} {r : Addr} {x : Item Str} {row : List (Item Str)} (h : RowAt K C H r (x :: row)) : ∃ ws v, H r = some (.lst (ws ++ [v])) ∧ Al (row.reverse.map (ItP K C)) H ws ∧ (ItP K C x).r H v := by
  obtain ⟨ws, h1, h2⟩ := h
  rw [List.reverse_cons, List.map_append] at h2
  obtain ⟨ws', v, rfl, h3, h4⟩ := Al.snoc h2
  exact ⟨ws', v, h1, h3, h4⟩
theorem row_push {H H' : Hp} {r : Addr} {x : Item Str} {row : List (Item Str)} {ws : List V} {v : V} (kp : Kp H H') (h' : H' r = some (.lst (ws ++ [v]))) (h3 : Al (row.reverse.map (ItP K C)) H ws) (h4 : (ItP K C x).r H v) : RowAt K C H' r (x :: row) := by
  refine ⟨_, h', ?_⟩
  rw [List.reverse_cons, List.map_append]
  exact Al.snoc' (h3.kp kp iml_it) (im_it kp h4)
theorem sc_put_together : FnScope ["row", "number", "other", "sign", "one"] ["row", "number"] (defScope (sT 63)) := ⟨rfl, rfl, rfl, by decide +kernel, rfl, by decide +kernel, by decide +kernel⟩
def spPut (K : PySem.W.Frag) (C : Addr) : Sp := fun vs H Q _ => ∃ (r : Addr) (row : List (Item Str)) (n : Nat), vs = [.ref r, .int (n : Int)] ∧ RowAt K C H r row ∧ RowW row ∧ row.length ≤ 40000 ∧
  ∀ H', ExB r H H' → Kp H H' → RowAt K C H' r (put row n) → Q .non H'
abbrev CPut (P : Program) (w : World) (K : PySem.W.Frag) (mg : Str → Option Value) (base : Heap) (C : Addr) := Cl P w K mg base "put_together" ["row", "number"] 6 (spPut K C)
theorem er_sgIndex {σ : L2.St} {H : Hp} {te : TE} {aS : Addr} {k : Nat} (hK : ∃ o, K.lookup aS = some o ∧ o.cls = .type "tuple" ∧ o.dict = none) (hS : ∀ H, SqT K H aS ((["|", "&", ">>"] : List Str).map V.str)) (hk : k ≤ 2) (h : Er te σ H (SyL (signL k))) :
    Er (tBM K "tuple" (fun x xs H Q => ∃ p, ∃ ys : List Str, ∃ z j, x = .ref p ∧ xs = [.str z] ∧ SqT K H p (ys.map V.str) ∧ ys[j]? = some z ∧ (∀ m, m < j → ys[m]? ≠ some z) ∧ Q (.int (j : Nat)) H) (tC (.ref aS)) (tCons te tNil)) σ H (In (k : Int)) := fun H1 e Q q =>
  ⟨Or.inr (Or.inl ⟨rfl, hK⟩), h H1 e _ fun v H2 e2 r => by
    refine ⟨aS, ["|", "&", ">>"], strL (signL k), k, rfl, by rw [show v = _ from r], hS H2, ?_, ?_, q _ H2 e2 rfl⟩
    · have hk' : k = 0 ∨ k = 1 ∨ k = 2 := by omega
      rcases hk' with rfl | rfl | rfl <;> decide +kernel
    · have hk' : k = 0 ∨ k = 1 ∨ k = 2 := by omega
      intro m hm
      rcases hk' with rfl | rfl | rfl
      · exact absurd hm (Nat.not_lt_zero _)
      · have hm' : m = 0 := by omega
        subst hm'
        decide +kernel
      · have hm' : m = 0 ∨ m = 1 := by omega
        rcases hm' with rfl | rfl <;> decide +kernel⟩
theorem cl_put_together (T : Txt K mg) (c_joined : CJoined P w K mg base C) (F : DefAt K mg "put_together" (sT 63)) : CPut P w K mg base C := by
  refine cl_any F sc_put_together (fun _ _ _ _ _ _ us hl => match us, hl with | [_, _], _ => rfl) (fun vs H Q E ⟨r, row, n, e, _⟩ => by rw [e]; rfl) fun f cdv A outer s H E vs Q hr h => ?_
  obtain ⟨r, row, n, rfl, hrow, hw, hlen, q⟩ := h
  obtain ⟨aS, g_SIGNS, hK, hS⟩ := T.g_SIGNS
  refine ⟨_, (pss_one (ps_while PassesOwn.never (PW.pt (pw_and (pt_cmpR op_gt (pe_callB (kLen K rfl) (by rfl) T.len (by decide +kernel) (pa_cons (pv 0) pa_nil)) pe_int (nomark _)) (pw_and1 (pt_cmpR op_ge (pe_bm PySem.F.plainAttrs_tuple PySem.F.slot_tuple_index PySem.F.type_tuple_index mt_tup_index (pe_glob (v := .ref aS) (by rfl) g_SIGNS rfl) (pa_cons (pe_ix (kIxL K rfl) (pv 0) (pe_un un_neg pe_int) (fun _ _ => rfl)) pa_nil)) (pv 1) (nomark _))))) (pss_cons (ps_par3 (by rfl) sc_put_together.nd (i := 2) (j := 3) (l := 4) rfl rfl rfl (by decide) (by decide) (by decide) rfl rfl rfl (pa_cons (pe_bm0 PySem.F.plainAttrs_list PySem.F.slot_list_pop PySem.F.type_list_pop mt_pop (pv 0)) (pa_cons (pe_bm0 PySem.F.plainAttrs_list PySem.F.slot_list_pop PySem.F.type_list_pop mt_pop (pv 0)) (pa_cons (pe_bm0 PySem.F.plainAttrs_list PySem.F.slot_list_pop PySem.F.type_list_pop mt_pop (pv 0)) pa_nil))) (by rfl)) (pss_one (ps_expr (pe_bm PySem.F.plainAttrs_list PySem.F.slot_list_append PySem.F.type_list_append mt_append (pv 0) (pa_cons (pe_cl c_joined (hr.mono (by first | decide | omega)) (pa_cons (pv 4) (pa_cons (pv 3) (pa_cons (pv 2) pa_nil)))) pa_nil))))))), ?_⟩
  have h0 : ∃ xs, H r = some (.lst xs) := by
    obtain ⟨ws, h1, _⟩ := hrow
    exact ⟨ws, h1⟩
  refine Evl.s_while (fun m σ' H' => ∃ (y2 y3 y4 : Option V) (row' : List (Item Str)), σ' = [some (.ref r), some (.int (n : Int)), y2, y3, y4] ∧ row'.length = m ∧ m ≤ 40000 ∧ ExB r H H' ∧ Kp H H' ∧ RowAt K C H' r row' ∧ RowW row' ∧ put row' n = put row n) row.length ⟨none, none, none, row, rfl, rfl, hlen, ExB.refl r H, Kp.refl H, hrow, hw, rfl⟩ fun m σ' H' hx => ?_
  obtain ⟨y2, y3, y4, row', rfl, hm, hm4, exb, kp, hrow', hw', hput⟩ := hx
  have hlen' : Er (tCB (Evl.rLenS K) (tCons (tVar 0) tNil)) [some (.ref r), some (.int (n : Int)), y2, y3, y4] H' (In (row'.length : Int)) := by
    obtain ⟨ws, h1, h2⟩ := hrow'
    have := er_lenL (K := K) (ta := tVar 0) (σ := [some (.ref r), some (.int (n : Int)), y2, y3, y4]) (H := H') (Rs := row'.reverse.map (ItP K C)) (er_var rfl ⟨r, ws, rfl, h1, h2⟩)
    rw [List.length_map, List.length_reverse] at this
    exact this
  rcases rowW_cases hw' with ⟨b, rfl⟩ | ⟨b, k, a, r', rfl, hk, hr'⟩
  · refine ⟨false && false, et_and (et_is (et_testR (er_gt hlen' er_is)) rfl) (fun z => by cases z), fun z => (by cases z), fun _ H2 e2 => ?_⟩
    refine q H2 (exb.trans (exb_ex e2)) (kp.trans (kp_ex e2)) ?_
    rw [← hput]
    exact hrow'.up e2
  · obtain ⟨ws, vb, h1, h3, rb⟩ := row_last hrow'
    rw [List.reverse_cons, List.map_append] at h3
    obtain ⟨ws1, vk, rfl, h5, rk⟩ := Al.snoc h3
    rw [List.reverse_cons, List.map_append] at h5
    obtain ⟨ws2, va, rfl, h7, ra⟩ := Al.snoc h5
    have hix : Er (tOp (rIxL K) (tVar 0) (tUn (rU fun i => .int (-i)) (tC (.int 2)))) [some (.ref r), some (.int (n : Int)), y2, y3, y4] H' (SyL (signL k)) := er_op (Ra := Is (.ref r)) (Rb := In (-2)) (er_var rfl rfl) (er_negI er_is) fun x y H2 e2 q1 q2 Q1 k1 => by
      cases (show x = _ from q1)
      cases (show y = _ from q2)
      refine ⟨r, _, -2, vk, rfl, rfl, sq_of (e2 _ _ h1), ?_, k1 vk H2 (Ex.refl H2) (im_sy (kp_ex e2) rk)⟩
      rw [List.append_assoc]
      exact atI_two _ _ _
    refine ⟨true && decide ((n : Int) ≤ (k : Int)), et_and (et_is (et_testR (er_gt hlen' er_is)) (decide_eq_true (by simp only [List.length_cons]; omega))) (fun _ => et_testR (er_ge (er_sgIndex hK hS hk hix) (er_var rfl rfl))), fun hb H2 e2 => ?_, fun hb H2 e2 => ?_⟩
    · have hnk : n ≤ k := by
        have := of_decide_eq_true (show decide ((n : Int) ≤ (k : Int)) = true by simpa using hb)
        omega
      refine ⟨fun σ' H' => ∃ m', m' < m ∧ ∃ (y2 y3 y4 : Option V) (row' : List (Item Str)), σ' = [some (.ref r), some (.int (n : Int)), y2, y3, y4] ∧ row'.length = m' ∧ m' ≤ 40000 ∧ ExB r H H' ∧ Kp H H' ∧ RowAt K C H' r row' ∧ RowW row' ∧ put row' n = put row n, fun _ _ h => h, ?_⟩
      have kp2 := kp.trans (kp_ex e2)
      have exb2 := exb.trans (exb_ex e2)
      refine t_pop (ev_var rfl) (e2 _ _ h1) fun H3 e3 => ?_
      have l3 := e3 _ _ (e2 _ _ h1)
      refine t_pop (ev_var rfl) upd_same fun H4 e4 => ?_
      refine t_pop (ev_var rfl) upd_same fun H5 e5 => ?_
      refine ⟨vb, vk, va, rfl, ?_⟩
      have x3 : ExB r H' (upd H3 r (.lst (ws2 ++ [va] ++ [vk]))) := exb_upd (exb_ex (e2.trans e3))
      have x4 : ExB r H' (upd H4 r (.lst (ws2 ++ [va]))) := exb_upd (x3.trans (exb_ex e4))
      have x5 : ExB r H' (upd H5 r (.lst ws2)) := exb_upd (x4.trans (exb_ex e5))
      have k5 : Kp H' (upd H5 r (.lst ws2)) := exb_kp x5 h1 upd_same
      have l5 : (upd H5 r (.lst ws2)) r = some (.lst ws2) := upd_same
      generalize (upd H5 r (.lst ws2)) = H6 at x5 k5 l5
      have hws : ws2.length = r'.length := by rw [h7.len, List.length_map, List.length_reverse]
      simp only [List.length_cons] at hm
      refine ⟨_, rfl, Or.inl ⟨rfl, _, sq_of l5⟩, er_call (a, k, b) hk (ea_3 (er_var (i := 4) rfl (im_it (x := .rule a) k5 ra)) (er_var (i := 3) rfl (im_sy k5 rk)) (er_var (i := 2) rfl (im_it (x := .rule b) k5 rb))) H6 (Ex.refl _) _ fun v H7 e7 r7 => ⟨r, ws2, v, rfl, rfl, e7 _ _ l5, sz_lt (by omega), ?_⟩⟩
      have k8 : Kp H6 (upd H7 r (.lst (ws2 ++ [v]))) := kp_mut (kp_ex e7) (e7 _ _ l5) rfl
      refine ⟨r'.length + 1, by omega, some vb, some vk, some va, .rule (joinT k a b) :: r', rfl, rfl, by omega, exb_upd ((exb.trans x5).trans (exb_ex e7)), (kp.trans k5).trans k8, ?_, rowW_swap hr' _, ?_⟩
      · exact row_push (x := .rule (joinT k a b)) (kp_mut (Kp.refl H7) (e7 _ _ l5) rfl) upd_same ((h7.kp k5 iml_it).up e7) r7
      · rw [← hput, put_join hnk]
    · refine q H2 (exb.trans (exb_ex e2)) (kp.trans (kp_ex e2)) ?_
      have hnk : ¬ n ≤ k := by
        have := of_decide_eq_false (show decide ((n : Int) ≤ (k : Int)) = false by simpa using hb)
        omega
      rw [← hput, put_stay hnk]
      exact hrow'.up e2
end
end K54
/-! KP: texts.py: rule_in. -/
set_option Elab.async false
set_option linter.all false
set_option maxRecDepth 100000
set_option maxHeartbeats 400000
namespace K54
open PySem PySem.W PySem.Calls PyProof.Rows L2 Evl
section
variable {K : PySem.W.Frag} {σ : L2.St} {H H' : Hp} {C : Addr} {te ta tb : TE} {D : Ends} {tz : TS}
theorem q_asgP {i j : Nat} {R1 R2 : Pr} (h : Er te σ H (Tup K [R1, R2])) (k : ∀ x y H1, Ex H H1 → R1.r H1 x → R2.r H1 y → tz D ((σ.set i (some x)).set j (some y)) H1) : tSeq (tAsg te (gTup K 2 (gCons (gName i) (gCons (gName j) gNil)))) tz D σ H :=
  h H (Ex.refl H) _ fun v H1 e1 ⟨a, xs, e, hs, hA⟩ => by
    obtain ⟨x, y, rfl, r1, r2⟩ := al2 hA
    exact ⟨a, [x, y], e, hs, rfl, x, [y], rfl, y, [], rfl, rfl, k x y H1 e1 r1 r2⟩
def RowsH (K : PySem.W.Frag) (C : Addr) (H : Hp) : List Addr → List (List (Item Str)) → Prop
  | [], [] => True
  | r :: rs, row :: rows => RowAt K C H r row ∧ RowsH K C H rs rows
  | _, _ => False
theorem RowAt.keep {r : Addr} {row : List (Item Str)} (kp : Kp H H') (e : ∀ o, H r = some o → H' r = some o) (h : RowAt K C H r row) : RowAt K C H' r row := by
  obtain ⟨ws, h1, h2⟩ := h
  exact ⟨ws, e _ h1, h2.kp kp iml_it⟩
theorem RowsH.keep (kp : Kp H H') : ∀ {rs : List Addr} {rows : List (List (Item Str))}, (∀ r ∈ rs, ∀ o, H r = some o → H' r = some o) → RowsH K C H rs rows → RowsH K C H' rs rows
  | [], [], _, _ => trivial
  | r :: rs, row :: rows, e, h => ⟨h.1.keep kp (e r (List.mem_cons_self ..)), RowsH.keep kp (fun x hx => e x (List.mem_cons_of_mem _ hx)) h.2⟩
  | [], _ :: _, _, h => h.elim
  | _ :: _, [], _, h => h.elim
theorem RowsH.len : ∀ {rs : List Addr} {rows : List (List (Item Str))}, RowsH K C H rs rows → rs.length = rows.length
  | [], [], _ => rfl
  | r :: rs, row :: rows, h => congrArg Nat.succ (RowsH.len h.2)
  | [], _ :: _, h => h.elim
  | _ :: _, [], h => h.elim
theorem RowsH.is {r : Addr} : ∀ {rs : List Addr} {rows : List (List (Item Str))}, RowsH K C H rs rows → r ∈ rs → ∃ ws, H r = some (.lst ws)
  | r' :: rs, row :: rows, h, hr => by
    rcases List.mem_cons.mp hr with e | hr
    · subst e
      obtain ⟨ws, h1, _⟩ := h.1
      exact ⟨ws, h1⟩
    · exact RowsH.is h.2 hr
  | [], [], _, hr => by cases hr
  | [], _ :: _, h, _ => h.elim
/-- rows[-1] -/
theorem ev_top {p r : Addr} {rs : List Addr} (hp : H p = some (.lst ((r :: rs).reverse.map V.ref))) (ha : Ev ta σ H (.ref p)) : Ev (tOp (rIxL K) ta (tUn (rU fun i => .int (-i)) (tC (.int 1)))) σ H (.ref r) := ev_op ha (ev_er (er_negI (i := 1) er_is)) fun H1 e Q q => by
  refine ⟨p, _, -1, .ref r, rfl, rfl, sq_of (e _ _ hp), ?_, q H1 (Ex.refl H1)⟩
  rw [List.reverse_cons, List.map_append]
  exact atI_last _ _
theorem lvl_some {s : Sym} {k : Nat} (h : lvlOf s = some k) : k ≤ 2 ∧ s = signL k := by
  unfold lvlOf at h
  split at h
  · next e => cases h; exact ⟨by decide, e⟩
  · split at h
    · next e => cases h; exact ⟨by decide, e⟩
    · split at h
      · next e => cases h; exact ⟨by decide, e⟩
      · cases h
theorem beq_strL {x : Str} {a s : Sym} (h : x = strL a) : (x == strL s) = decide (s = a) := by
  rw [h, Bool.eq_iff_iff, beq_iff_eq, strL_inj, decide_eq_true_eq]
  exact eq_comm
theorem lvl_in (s : Sym) : inV (.str (strL s)) ((["|", "&", ">>"] : List Str).map V.str) = (lvlOf s).isSome := by
  show ((("|" : Str) == strL s) || ((("&" : Str) == strL s) || (((">>" : Str) == strL s) || false))) = _
  rw [beq_strL (a := [124]) (by decide +kernel), beq_strL (a := [38]) (by decide +kernel), beq_strL (a := [62, 62]) (by decide +kernel)]
  unfold lvlOf
  by_cases h1 : s = [124]
  · simp [h1]
  · by_cases h2 : s = [38]
    · simp [h2]
    · by_cases h3 : s = [62, 62]
      · simp [h3]
      · simp [h1, h2, h3]
theorem putT_len (n : Nat) : ∀ (f : Nat) (r : List (Item Str)), (putT f r n).length ≤ r.length
  | 0, r => Nat.le_refl _
  | f + 1, .rule b :: .sg k :: .rule a :: r => by
    unfold putT
    split
    · refine Nat.le_trans (putT_len n f _) ?_
      simp only [List.length_cons]
      omega
    · exact Nat.le_refl _
  | f + 1, [] => Nat.le_refl _
  | f + 1, [.rule b] => Nat.le_refl _
  | f + 1, [.rule b, .sg k] => Nat.le_refl _
  | f + 1, .rule b :: .sg k :: .sg a :: r => Nat.le_refl _
  | f + 1, .rule b :: .rule k :: r => Nat.le_refl _
  | f + 1, .sg b :: r => Nat.le_refl _
theorem put_le (n : Nat) (r : List (Item Str)) : (put r n).length ≤ r.length := putT_len n _ r
theorem et_inT {aS : Addr} {ys : List Str} {s : Str} (hS : ∀ H, SqT K H aS (ys.map V.str)) (ha : Er ta σ H (Sy s)) : EvT (tTest (tOp (rIn K false) ta (tC (.ref aS)))) σ H (inV (.str s) (ys.map V.str)) :=
  et_test (ev_op (ev_er ha) ev_c (rv_isT (hS H) rfl (by rw [List.all_map]; exact List.all_eq_true.mpr fun _ _ => rfl)))
/-- l.append(e), l known -/
theorem t_app {to : TE} {l : Addr} {xs : List V} {R : Pr} (h : Ev to σ H (.ref l)) (hl : H l = some (.lst xs)) (he : Er te σ H R) (hz : xs.length < 100000) (k : ∀ v H1, Ex H H1 → R.r H1 v → D.nx σ (upd H1 l (.lst (xs ++ [v])))) :
    tDrop (tBM K "list" rAppend to (tCons te tNil)) D σ H := h H (Ex.refl H) _ fun H1 e1 => ⟨Or.inl ⟨rfl, _, sq_of (e1 _ _ hl)⟩, he H1 e1 _ fun v H2 e2 r => ⟨l, xs, v, rfl, rfl, e2 _ _ (e1 _ _ hl), sz_lt hz, k v H2 (e1.trans e2) r⟩⟩
/-- put_together(row, number) -/
theorem t_put {E : XK} {r : Addr} {row : List (Item Str)} {n : Nat} (h1 : Ev ta σ H (.ref r)) (h2 : Er tb σ H (In (n : Int))) (hr : RowAt K C H r row) (hw : RowW row) (hl : row.length ≤ 40000)
    (k : ∀ H', ExB r H H' → Kp H H' → RowAt K C H' r (put row n) → D.nx σ H') : tDrop (tCall (spPut K C) [] E (tCons ta (tCons tb tNil))) D σ H := h1 H (Ex.refl H) _ fun H1 e1 => h2 H1 e1 _ fun v H2 e2 r2 => by
  cases (show v = _ from r2)
  exact ⟨r, row, n, rfl, hr.up (e1.trans e2), hw, hl, fun H' x kp hq => k H' ((exb_ex (e1.trans e2)).trans x) (Kp.trans (kp_ex (e1.trans e2)) kp) hq⟩
end
theorem digit_some {s : Sym} {n : Nat} (h : digitOf s = some n) : n ≤ 8 ∧ s = [48 + n] := by
  unfold digitOf at h
  split at h
  · next c =>
    split at h
    · next hc =>
      cases h
      exact ⟨by omega, by congr 1; omega⟩
    · cases h
  · cases h
theorem digit_int {n : Nat} (h : n ≤ 8) : PySem.intText? (strL [48 + n]) = some ((n : Nat) : Int) := by
  have : n = 0 ∨ n = 1 ∨ n = 2 ∨ n = 3 ∨ n = 4 ∨ n = 5 ∨ n = 6 ∨ n = 7 ∨ n = 8 := by omega
  rcases this with rfl | rfl | rfl | rfl | rfl | rfl | rfl | rfl | rfl <;> decide +kernel
theorem digit_in {n : Nat} (h : n ≤ 8) : 48 + n ∈ ("012345678" : Str).cps.toList := by
  have : n = 0 ∨ n = 1 ∨ n = 2 ∨ n = 3 ∨ n = 4 ∨ n = 5 ∨ n = 6 ∨ n = 7 ∨ n = 8 := by omega
  rcases this with rfl | rfl | rfl | rfl | rfl | rfl | rfl | rfl | rfl <;> decide +kernel
/-- the rows, by what is due -/
def RowsOk : Bool → List (List (Item Str)) → Prop
  | true, rows => ∀ r ∈ rows, RowD r
  | false, top :: below => RowW top ∧ ∀ r ∈ below, RowD r
  | false, [] => False
section
variable {P : Program} {w : World} {K : PySem.W.Frag} {mg : Str → Option Value} {base : Heap} {C : Addr}
theorem sc_rule_in : FnScope ["text", "symbols", "at", "rows", "is_due", "symbol", "place", "rule", "word", "spot", "row"] ["text"] (defScope (sT 64)) := ⟨rfl, rfl, rfl, by decide +kernel, rfl, by decide +kernel, by decide +kernel⟩
abbrev spRuleIn (K : PySem.W.Frag) (C : Addr) : Sp := spF (fun t : K54.T Str => TxOk t) (fun t => [SyL (textL cpsS t)]) (fun t => RuleP K C t)
abbrev CRuleIn (P : Program) (w : World) (K : PySem.W.Frag) (mg : Str → Option Value) (base : Heap) (C : Addr) := Cl P w K mg base "rule_in" ["text"] 7 (spRuleIn K C)
theorem scan_each : ∀ (f n : Nat) (l : Sym), ∀ p ∈ scanF f n l, p.1.length ≤ l.length
  | 0, _, _, p, h => by cases h
  | f + 1, n, [], p, h => by
    rw [List.mem_singleton.mp (show p ∈ [(([] : Sym), n)] from h)]
    exact Nat.le_refl _
  | f + 1, n, c :: r, p, h => by
    unfold scanF at h
    split at h
    · have := scan_each f _ _ p h
      rw [List.length_cons]
      omega
    · split at h
      · rw [List.mem_singleton.mp h]
        exact Nat.zero_le _
      · rcases List.mem_cons.mp h with e | h
        · rw [e]
          show (symL (c :: r)).length ≤ _
          exact symL_len _
        · have := scan_each f _ _ p h
          rw [List.length_drop] at this
          omega
structure RInv (K : PySem.W.Frag) (C : Addr) (H H' : Hp) (sa p : Addr) (svs : List V) (syms : List (Sym × Nat)) (A : List Sym) (t : K54.T Str) (i : Nat) (due : Bool) (rs : List Addr) (rows : List (List (Item Str))) : Prop where
  ex : Ex H H'
  syA : H' sa = some (.lst svs)
  syR : Al (syms.map (PairS K)) H' svs
  at_ : H' p = some (.lst (rs.reverse.map V.ref))
  nd : (sa :: p :: rs).Nodup
  new : ∀ r ∈ p :: rs, H r = none
  rows_ : RowsH K C H' rs rows
  ok : RowsOk due rows
  run : runS strL (A.drop i) rows due = some t
  le : i ≤ A.length
  big : rows.length ≤ i + 1
  each : ∀ row ∈ rows, row.length ≤ i + 1
section
variable {H H' H8 : Hp} {sa p r r2 : Addr} {svs : List V} {syms : List (Sym × Nat)} {A : List Sym} {t : K54.T Str} {i i' : Nat} {due due' : Bool} {rs : List Addr} {rows below : List (List (Item Str))} {top top' b : List (Item Str)}
theorem RInv.up (I : RInv K C H H' sa p svs syms A t i due rs rows) (e : Ex H' H8) : RInv K C H H8 sa p svs syms A t i due rs rows :=
  ⟨I.ex.trans e, e _ _ I.syA, I.syR.up e, e _ _ I.at_, I.nd, I.new, I.rows_.keep (kp_ex e) fun _ _ _ h => e _ _ h, I.ok, I.run, I.le, I.big, I.each⟩
theorem RInv.row (I : RInv K C H H' sa p svs syms A t i due (r :: rs) (top :: below)) (x : ExB r H' H8) (kp : Kp H' H8) (hrow : RowAt K C H8 r top') (hok : RowsOk due' (top' :: below)) (hrun : runS strL (A.drop i') (top' :: below) due' = some t) (hle : i' ≤ A.length) (hii : i ≤ i') (hsz : top'.length ≤ i' + 1) :
    RInv K C H H8 sa p svs syms A t i' due' (r :: rs) (top' :: below) := by
  have nd := I.nd
  simp only [List.nodup_cons, List.mem_cons, not_or] at nd
  obtain ⟨⟨nsp, nsr, nss⟩, ⟨npr, nps⟩, nrs, _⟩ := nd
  have hrn : H r = none := I.new r (List.mem_cons_of_mem _ (List.mem_cons_self ..))
  refine ⟨fun a o ha => x a o (fun e => by rw [e, hrn] at ha; cases ha) (I.ex a o ha), x _ _ nsr I.syA, I.syR.kp kp (iml_map fun _ => im_pairS), x _ _ npr I.at_, I.nd, I.new, ⟨hrow, I.rows_.2.keep kp fun a ha o h => x _ _ (fun e => nrs (by rw [← e]; exact ha)) h⟩, hok, hrun, hle, Nat.le_trans I.big (by omega), fun row hr => ?_⟩
  rcases List.mem_cons.mp hr with e | hr
  · rw [e]; exact hsz
  · exact Nat.le_trans (I.each row (List.mem_cons_of_mem _ hr)) (by omega)
theorem RInv.opened (I : RInv K C H H' sa p svs syms A t i true rs rows) {H7 : Hp} (e : Ex H' H7) (hn : H' r = none) (hr : H7 r = some (.lst [])) (hok : RowsOk true rows) (hrun : runS strL (A.drop (i + 1)) ([] :: rows) true = some t) (hle : i + 1 ≤ A.length) :
    RInv K C H (upd H7 p (.lst ((r :: rs).reverse.map V.ref))) sa p svs syms A t (i + 1) true (r :: rs) ([] :: rows) := by
  have nd := I.nd
  have I7 := I.up e
  have kp : Kp H7 (upd H7 p (.lst ((r :: rs).reverse.map V.ref))) := kp_mut (Kp.refl H7) I7.at_ rfl
  have nsr : sa ≠ r := ne_of_none I.syA hn
  have npr : p ≠ r := ne_of_none I.at_ hn
  have nrs : r ∉ rs := fun h => by
    obtain ⟨ws, h1⟩ := I.rows_.is h
    rw [hn] at h1
    cases h1
  simp only [List.nodup_cons, List.mem_cons, not_or] at nd
  obtain ⟨⟨nsp, nss⟩, nps, ndr⟩ := nd
  have hpn : H p = none := I.new p (List.mem_cons_self ..)
  refine ⟨Ex.mut I7.ex hpn, by rw [upd_ne nsp]; exact I7.syA, I7.syR.kp kp (iml_map fun _ => im_pairS), upd_same, ?_, fun a ha => ?_, ⟨⟨[], by rw [upd_ne npr.symm]; exact hr, trivial⟩, I7.rows_.keep kp fun a ha o h => by rw [upd_ne (fun e => nps (by rw [← e]; exact ha))]; exact h⟩, fun row hrow => ?_, hrun, hle, ?_, fun row hrow => ?_⟩
  · simp only [List.nodup_cons, List.mem_cons, not_or]
    exact ⟨⟨nsp, nsr, nss⟩, ⟨npr, nps⟩, nrs, ndr⟩
  · rcases List.mem_cons.mp ha with e' | ha
    · rw [e']; exact hpn
    · rcases List.mem_cons.mp ha with e' | ha
      · rw [e']; exact fresh_back I.ex hn
      · exact I.new a (List.mem_cons_of_mem _ ha)
  · rcases List.mem_cons.mp hrow with e' | hrow
    · rw [e']; trivial
    · exact hok row hrow
  · have := I.big
    rw [List.length_cons]
    omega
  · rcases List.mem_cons.mp hrow with e' | hrow
    · rw [e']; exact Nat.zero_le _
    · exact Nat.le_trans (I.each row hrow) (by omega)
theorem RInv.closed (I : RInv K C H H' sa p svs syms A t i due (r :: r2 :: rs) (top :: b :: below)) (x : ∀ a o, a ≠ p → a ≠ r → a ≠ r2 → H' a = some o → H8 a = some o) (kp : Kp H' H8) (hp : H8 p = some (.lst ((r2 :: rs).reverse.map V.ref))) (hrow : RowAt K C H8 r2 top') (hok : RowsOk due' (top' :: below)) (hrun : runS strL (A.drop (i + 1)) (top' :: below) due' = some t) (hle : i + 1 ≤ A.length) (hsz : top'.length ≤ i + 2) :
    RInv K C H H8 sa p svs syms A t (i + 1) due' (r2 :: rs) (top' :: below) := by
  have nd := I.nd
  simp only [List.nodup_cons, List.mem_cons, not_or] at nd
  obtain ⟨⟨nsp, nsr, ns2, nss⟩, ⟨npr, np2, nps⟩, ⟨nr2, nrs⟩, n2s, ndr⟩ := nd
  have hpn : H p = none := I.new p (List.mem_cons_self ..)
  have h2n : H r2 = none := I.new r2 (List.mem_cons_of_mem _ (List.mem_cons_of_mem _ (List.mem_cons_self ..)))
  have hrn : H r = none := I.new r (List.mem_cons_of_mem _ (List.mem_cons_self ..))
  refine ⟨fun a o ha => x a o (fun e => by rw [e, hpn] at ha; cases ha) (fun e => by rw [e, hrn] at ha; cases ha) (fun e => by rw [e, h2n] at ha; cases ha) (I.ex a o ha), x _ _ nsp nsr ns2 I.syA, I.syR.kp kp (iml_map fun _ => im_pairS), hp, ?_, fun a ha => ?_, ⟨hrow, I.rows_.2.2.keep kp fun a ha o h => x _ _ (fun e => nps (by rw [← e]; exact ha)) (fun e => nrs (by rw [← e]; exact ha)) (fun e => n2s (by rw [← e]; exact ha)) h⟩, hok, hrun, hle, ?_, fun row hr => ?_⟩
  · simp only [List.nodup_cons, List.mem_cons, not_or]
    exact ⟨⟨nsp, ns2, nss⟩, ⟨np2, nps⟩, n2s, ndr⟩
  · rcases List.mem_cons.mp ha with e' | ha
    · rw [e']; exact hpn
    · exact I.new a (List.mem_cons_of_mem _ (List.mem_cons_of_mem _ ha))
  · have := I.big
    simp only [List.length_cons] at this ⊢
    omega
  · rcases List.mem_cons.mp hr with e | hr
    · rw [e]; exact hsz
    · exact Nat.le_trans (I.each row (List.mem_cons_of_mem _ (List.mem_cons_of_mem _ hr))) (by omega)
end
theorem sym_at {ps : List (Sym × Nat)} {e : Sym × Nat} {i : Nat} {s : Sym} {rest : List Sym} (h : (ps.map (·.1)).drop i = s :: rest) : ∃ pos, (ps ++ [e])[i]? = some (s, pos) ∧ i < (ps.map (·.1)).length ∧ (ps.map (·.1)).drop (i + 1) = rest := by
  have hi : i < (ps.map (·.1)).length := by
    have := congrArg List.length h
    rw [List.length_drop, List.length_cons] at this
    omega
  have hg : (ps.map (·.1))[i]? = some s := by
    have := congrArg (fun l => l[0]?) h
    simpa [List.getElem?_drop] using this
  rw [List.getElem?_map] at hg
  cases hp : ps[i]? with
  | none => rw [hp] at hg; cases hg
  | some x =>
    rw [hp] at hg
    have e1 : x.1 = s := Option.some.inj hg
    refine ⟨x.2, ?_, hi, ?_⟩
    · rw [List.getElem?_append_left (by rw [List.length_map] at hi; exact hi), hp, ← e1]
    · rw [← List.drop_drop, h]
      rfl
theorem sym_end {ps : List (Sym × Nat)} {e : Sym × Nat} {i : Nat} (hi : i ≤ (ps.map (·.1)).length) (h : (ps.map (·.1)).drop i = []) : (ps ++ [e])[i]? = some e := by
  have : i = ps.length := by
    have := congrArg List.length h
    rw [List.length_drop, List.length_nil] at this
    rw [List.length_map] at this hi
    omega
  subst this
  simp
theorem cl_rule_in (T : Txt K mg) (O : Ops P w K mg base C) (c_symbols_of : CSymbolsOf P w K mg base) (c_lone_rule : CLone P w K mg base C) (c_put_together : CPut P w K mg base C) (F : DefAt K mg "rule_in" (sT 64)) : CRuleIn P w K mg base C := by
  refine cl_of F sc_rule_in (fun _ _ _ _ _ _ us hl => match us, hl with | [_], _ => rfl) (fun _ => rfl) fun f cdv A0 outer s H E t vs hr hp hA => ?_
  obtain ⟨v1, rfl, h1⟩ := al1 hA
  cases (show v1 = .str (strL (textL cpsS t)) from h1)
  obtain ⟨hTok, hz⟩ := hp
  obtain ⟨aS, g_SIGNS, hKS, hS⟩ := T.g_SIGNS
  refine ⟨_, (pss_cons (ps_asg (pe_tup (pa_cons (pe_cl c_symbols_of (hr.mono (by first | decide | omega)) (pa_cons (pv 0) pa_nil)) (pa_cons pe_int (pa_cons (pe_lst (pa_cons (pe_lst pa_nil) pa_nil)) (pa_cons pe_bl pa_nil))))) (pg_tup (by rfl) (pgs_cons (pg_name (i := 1) sc_rule_in.nd rfl (by first | exact Or.inl rfl | exact Or.inr rfl)) (pgs_cons (pg_name (i := 2) sc_rule_in.nd rfl (by first | exact Or.inl rfl | exact Or.inr rfl)) (pgs_cons (pg_name (i := 3) sc_rule_in.nd rfl (by first | exact Or.inl rfl | exact Or.inr rfl)) (pgs_cons (pg_name (i := 4) sc_rule_in.nd rfl (by first | exact Or.inl rfl | exact Or.inr rfl)) pgs_nil)))))) (pss_one (ps_while PassesOwn.never (pt_val pe_bl) (pss_cons (ps_asg (pe_ix (kIxL K rfl) (pv 1) (pv 2) (fun _ _ => rfl)) (pg_tup (by rfl) (pgs_cons (pg_name (i := 5) sc_rule_in.nd rfl (by first | exact Or.inl rfl | exact Or.inr rfl)) (pgs_cons (pg_name (i := 6) sc_rule_in.nd rfl (by first | exact Or.inl rfl | exact Or.inr rfl)) pgs_nil)))) (pss_cons (ps_if (PW.pt (pw_and (pt_val (pv 4)) (pw_and1 (pt_cmpR op_eq (pv 5) pe_str (nomark _))))) (pss_one (ps_expr (pe_bm PySem.F.plainAttrs_list PySem.F.slot_list_append PySem.F.type_list_append mt_append (pv 3) (pa_cons (pe_lst pa_nil) pa_nil)))) (pss_one (ps_if (pt_val (pv 4)) (pss_cons (ps_set (i := 7) sc_rule_in.nd rfl (by first | exact Or.inl rfl | exact Or.inr rfl) (pe_cl c_lone_rule (hr.mono (by first | decide | omega)) (pa_cons (pv 5) pa_nil))) (pss_cons (ps_if (pt_cmpR op_isN (pv 7) pe_non (nomark _)) (pss_one ps_never) pss_nil) (pss_cons (ps_expr (pe_bm PySem.F.plainAttrs_list PySem.F.slot_list_append PySem.F.type_list_append mt_append (pe_ix (kIxL K rfl) (pv 3) (pe_un un_neg pe_int) (fun _ _ => rfl)) (pa_cons (pv 7) pa_nil))) (pss_one (ps_set (i := 4) sc_rule_in.nd rfl (by first | exact Or.inl rfl | exact Or.inr rfl) pe_bl))))) (pss_one (ps_if (pt_cmpR op_eq (pv 5) pe_str (nomark _)) (pss_cons (ps_asg (pe_ix (kIxL K rfl) (pv 1) (pe_op op_add (pv 2) pe_int) (fun _ _ => rfl)) (pg_tup (by rfl) (pgs_cons (pg_name (i := 8) sc_rule_in.nd rfl (by first | exact Or.inl rfl | exact Or.inr rfl)) (pgs_cons (pg_name (i := 9) sc_rule_in.nd rfl (by first | exact Or.inl rfl | exact Or.inr rfl)) pgs_nil)))) (pss_cons (ps_if (PW.pt (pw_or (pt_cmpR op_ne (pe_callB call_len_str (by rfl) T.len (by decide +kernel) (pa_cons (pv 8) pa_nil)) pe_int (nomark _)) (pw_or1 (pt_cmpR op_notIn_sign (pv 8) pe_str (by rfl))))) (pss_one ps_never) pss_nil) (pss_cons (ps_expr (pe_bm PySem.F.plainAttrs_list PySem.F.slot_list_append PySem.F.type_list_append mt_append (pe_ix (kIxL K rfl) (pv 3) (pe_un un_neg pe_int) (fun _ _ => rfl)) (pa_cons (pe_op (opMul O (hr.mono (by decide))) (pe_bm0 PySem.F.plainAttrs_list PySem.F.slot_list_pop PySem.F.type_list_pop mt_pop (pe_ix (kIxL K rfl) (pv 3) (pe_un un_neg pe_int) (fun _ _ => rfl))) (pe_callTy call_int_str (by rfl) T.int (by decide +kernel) (pa_cons (pv 8) pa_nil))) pa_nil))) (pss_one (ps_aug (i := 2) sc_rule_in.nd rfl (Or.inl rfl) pe_int ip_add))))) (pss_one (ps_if (pt_cmpR (kIn K rfl) (pv 5) (pe_glob (v := .ref aS) (by rfl) g_SIGNS rfl) (by rfl)) (pss_cons (ps_expr (pe_cl c_put_together (hr.mono (by first | decide | omega)) (pa_cons (pe_ix (kIxL K rfl) (pv 3) (pe_un un_neg pe_int) (fun _ _ => rfl)) (pa_cons (pe_bm PySem.F.plainAttrs_tuple PySem.F.slot_tuple_index PySem.F.type_tuple_index mt_tup_index (pe_glob (v := .ref aS) (by rfl) g_SIGNS rfl) (pa_cons (pv 5) pa_nil)) pa_nil)))) (pss_cons (ps_expr (pe_bm PySem.F.plainAttrs_list PySem.F.slot_list_append PySem.F.type_list_append mt_append (pe_ix (kIxL K rfl) (pv 3) (pe_un un_neg pe_int) (fun _ _ => rfl)) (pa_cons (pv 5) pa_nil))) (pss_one (ps_set (i := 4) sc_rule_in.nd rfl (by first | exact Or.inl rfl | exact Or.inr rfl) pe_bl)))) (pss_cons (ps_expr (pe_cl c_put_together (hr.mono (by first | decide | omega)) (pa_cons (pe_ix (kIxL K rfl) (pv 3) (pe_un un_neg pe_int) (fun _ _ => rfl)) (pa_cons pe_int pa_nil)))) (pss_one (ps_if (PW.pt (pw_and (pt_cmpR op_eq (pv 5) pe_str (nomark _)) (pw_and1 (pt_cmpR op_gt (pe_callB (kLen K rfl) (by rfl) T.len (by decide +kernel) (pa_cons (pv 3) pa_nil)) pe_int (nomark _))))) (pss_cons (ps_set (i := 10) sc_rule_in.nd rfl (by first | exact Or.inl rfl | exact Or.inr rfl) (pe_bm0 PySem.F.plainAttrs_list PySem.F.slot_list_pop PySem.F.type_list_pop mt_pop (pv 3))) (pss_one (ps_expr (pe_bm PySem.F.plainAttrs_list PySem.F.slot_list_append PySem.F.type_list_append mt_append (pe_ix (kIxL K rfl) (pv 3) (pe_un un_neg pe_int) (fun _ _ => rfl)) (pa_cons (pe_ix (kIxL K rfl) (pv 10) pe_int (fun _ _ => rfl)) pa_nil))))) (pss_one (ps_if (PW.pt (pw_and (pt_cmpR op_eq (pv 5) pe_str (nomark _)) (pw_and (pt_cmpR op_eq (pv 6) (pe_callB call_len_str (by rfl) T.len (by decide +kernel) (pa_cons (pv 0) pa_nil)) (nomark _)) (pw_and1 (pt_cmpR op_eq (pe_callB (kLen K rfl) (by rfl) T.len (by decide +kernel) (pa_cons (pv 3) pa_nil)) pe_int (nomark _)))))) (pss_one (ps_ret (pe_ix (kIxL K rfl) (pe_ix (kIxL K rfl) (pv 3) pe_int (fun _ _ => rfl)) pe_int (fun _ _ => rfl)))) (pss_one ps_never))))))))))))) (pss_one (ps_aug (i := 2) sc_rule_in.nd rfl (Or.inl rfl) pe_int ip_add))))))), fun Q q => ?_⟩
  obtain ⟨ps, hscan, hps⟩ := scan_text (cps := cpsS) hTok
  have hrun := run_text (mk := strL) (cps := cpsS) strL_cps hTok
  rw [← hps] at hrun
  have hlenA : (ps.map (·.1)).length ≤ 30001 := by
    have := scan_len ((textL cpsS t).length + 1) 0 (textL cpsS t)
    rw [show scanF ((textL cpsS t).length + 1) 0 (textL cpsS t) = scan 0 (textL cpsS t) from rfl, hscan, List.length_append] at this
    rw [List.length_map]
    omega
  clear hps
  have hsymL : ∀ s ∈ ps.map (·.1), s.length ≤ 30000 := fun s hs => by
    obtain ⟨x, hx, rfl⟩ := List.mem_map.mp hs
    have := scan_each ((textL cpsS t).length + 1) 0 (textL cpsS t) x (by
      rw [show scanF ((textL cpsS t).length + 1) 0 (textL cpsS t) = scan 0 (textL cpsS t) from rfl, hscan]
      exact List.mem_append_left _ hx)
    exact Nat.le_trans this hz
  refine er_call (textL cpsS t) hz (ea_1 (er_var rfl rfl)) H (Ex.refl H) _ fun vsy H1 e1 r1 => ?_
  obtain ⟨sa, svs, rfl, hsa, hsy⟩ := r1
  rw [hscan] at hsy
  refine ⟨Nat.zero_le _, fun r0 hr0 => ⟨sz_of (show 1 ≤ 100000 by decide), fun p hp => ⟨sz_of (show 4 ≤ 100000 by decide), fun tt htt => ?_⟩⟩⟩
  refine ⟨tt, _, rfl, .inl (.inl upd_same), rfl, _, _, rfl, _, _, rfl, _, _, rfl, _, _, rfl, rfl, ?_⟩
  have E2 : Ex H1 (upd H1 r0 (.lst [])) := Ex.new hr0
  have E3 := E2.trans (Ex.new (o := .lst [.ref r0]) hp)
  have E4 := E3.trans (Ex.new (o := .tup [.ref sa, .int 0, .ref p, .bl true]) htt)
  have hr0p : (upd H1 r0 (.lst [])) r0 = some (.lst []) := upd_same
  have npr : p ≠ r0 := fun e => by
    rw [e, hr0p] at hp
    cases hp
  have nsr : sa ≠ r0 := ne_of_none hsa hr0
  have nsp : sa ≠ p := ne_of_none (E2 _ _ hsa) hp
  have hH4p : (upd (upd (upd H1 r0 (.lst [])) p (.lst [.ref r0])) tt (.tup [.ref sa, .int 0, .ref p, .bl true])) p = some (.lst [.ref r0]) := by
    rw [upd_ne (ne_of_none upd_same htt)]
    exact upd_same
  have hH4r : (upd (upd (upd H1 r0 (.lst [])) p (.lst [.ref r0])) tt (.tup [.ref sa, .int 0, .ref p, .bl true])) r0 = some (.lst []) := by
    have h3 : (upd (upd H1 r0 (.lst [])) p (.lst [.ref r0])) r0 = some (.lst []) := by
      rw [upd_ne npr.symm]
      exact upd_same
    rw [upd_ne (ne_of_none h3 htt)]
    exact h3
  have hpH : H p = none := fresh_back (e1.trans E2) hp
  have hrH : H r0 = none := fresh_back e1 hr0
  generalize (upd (upd (upd H1 r0 (.lst [])) p (.lst [.ref r0])) tt (.tup [.ref sa, .int 0, .ref p, .bl true])) = H4 at E4 hH4p hH4r
  have start : RInv K C H H4 sa p svs (ps ++ [([], (textL cpsS t).length)]) (ps.map (·.1)) t 0 true [r0] [[]] :=
    ⟨e1.trans E4, E4 _ _ hsa, hsy.up E4, hH4p, by simp [nsr, nsp, npr], fun r hr => by
      rcases List.mem_cons.mp hr with e | hr
      · rw [e]; exact hpH
      · rw [List.mem_singleton.mp hr]; exact hrH, ⟨⟨[], hH4r, trivial⟩, trivial⟩, fun r hr => by rw [List.mem_singleton.mp hr]; trivial, hrun, Nat.zero_le _, Nat.le_refl _, fun row hr => by rw [List.mem_singleton.mp hr]; exact Nat.zero_le _⟩
  generalize hA : ps.map (·.1) = A at start hlenA hsymL
  generalize hL : textL cpsS t = L at start hz
  refine Evl.s_while (fun m σ' H' => ∃ (i : Nat) (due : Bool) (rs : List Addr) (rows : List (List (Item Str))) (y5 y6 y7 y8 y9 y10 : Option V), σ' = [some (.str (strL L)), some (.ref sa), some (.int (i : Int)), some (.ref p), some (.bl due), y5, y6, y7, y8, y9, y10] ∧ m = A.length + 1 - i ∧
    RInv K C H H' sa p svs (ps ++ [([], L.length)]) A t i due rs rows) (A.length + 1) ⟨0, true, [r0], [[]], none, none, none, none, none, none, rfl, rfl, start⟩ fun m σ' H' hx => ?_
  obtain ⟨i, due, rs, rows, y5, y6, y7, y8, y9, y10, rfl, rfl, I⟩ := hx
  refine ⟨true, et_B ev_c, fun _ H5 e5 => ?_, fun z => by cases z⟩
  refine ⟨fun σ' H' => ∃ m', m' < A.length + 1 - i ∧ ∃ (i : Nat) (due : Bool) (rs : List Addr) (rows : List (List (Item Str))) (y5 y6 y7 y8 y9 y10 : Option V), σ' = [some (.str (strL L)), some (.ref sa), some (.int (i : Int)), some (.ref p), some (.bl due), y5, y6, y7, y8, y9, y10] ∧ m' = A.length + 1 - i ∧
    RInv K C H H' sa p svs (ps ++ [([], L.length)]) A t i due rs rows, fun _ _ h => h, ?_⟩
  have hix : ∀ {j : Nat} {x : Sym × Nat} {ti : TE} {y5 y6 y7 y8 y9 y10 : Option V} {H6 : Hp} {b : Bool} {i' : Int}, Kp H' H6 → H6 sa = some (.lst svs) → Er ti [some (.str (strL L)), some (.ref sa), some (.int i'), some (.ref p), some (.bl b), y5, y6, y7, y8, y9, y10] H6 (In (j : Int)) → (ps ++ [([], L.length)])[j]? = some x →
      Er (tOp (rIxL K) (tVar 1) ti) [some (.str (strL L)), some (.ref sa), some (.int i'), some (.ref p), some (.bl b), y5, y6, y7, y8, y9, y10] H6 (Tup K [SyL x.1, In (x.2 : Int)]) := fun kp hs hi hj =>
    er_ixN (S := PairS K) (er_var rfl ⟨sa, svs, rfl, hs, I.syR.kp kp (iml_map fun _ => im_pairS)⟩) hi hj
  cases due with
  | true =>
    cases hd : A.drop i with
    | nil =>
      have := I.run
      rw [hd] at this
      simp [runS] at this
    | cons s rest =>
      cases rows with
      | nil =>
        have := I.run
        rw [hd] at this
        simp [runS] at this
      | cons top below =>
        cases rs with
        | nil => exact I.rows_.elim
        | cons r rs =>
          subst hA
          obtain ⟨pos, hj, hi, hnext⟩ := sym_at (e := ([], L.length)) hd
          refine q_asgP (hix (kp_ex e5) (e5 _ _ I.syA) (er_var rfl rfl) hj) fun x y H6 e6 rx ry => ?_
          cases (show x = .str (strL s) from rx)
          cases (show y = .int (pos : Int) from ry)
          have I6 := I.up (e5.trans e6)
          have hrun6 := I6.run
          rw [hd] at hrun6
          by_cases h40 : s = [40]
          · refine Evl.q_if (b := true && decide (s = [40])) (et_and (et_BR (er_var rfl rfl)) fun _ => et_testR (er_eqSL (er_var rfl rfl) (er_lit (by decide +kernel)))) (fun _ H7 e7 => ?_) (fun hb => by rw [h40] at hb; cases hb)
            have I7 := I6.up e7
            refine Evl.s_appL (K := K) (l := p) I7.at_ (ev_var rfl) (el_lst ea_nil (by show 0 ≤ 100000; decide)) ?_ fun r' H8 hr' e8 hl8 => ?_
            · have h9 := I.big
              have h10 := I.rows_.len
              have h11 := I.le
              rw [List.length_map, List.length_reverse, h10]
              omega
            · refine ⟨_, rfl, _, _, rfl, rfl, ?_⟩
              have hn : runS strL ((ps.map (·.1)).drop (i + 1)) ([] :: top :: below) true = some t := by
                rw [hnext]
                rw [h40] at hrun6
                simpa [runS] using hrun6
              have I9 := I7.opened (H7 := H8) e8 hr' hl8 I7.ok hn hi
              refine ⟨(ps.map (·.1)).length + 1 - (i + 1), by omega, i + 1, true, r' :: r :: rs, [] :: top :: below, _, _, _, _, _, _, rfl, rfl, ?_⟩
              rw [List.reverse_cons, List.map_append] at I9
              exact I9
          · have hlone : ∃ t0, lone strL s = some t0 ∧ runS strL rest ((.rule t0 :: top) :: below) false = some t := by
              unfold runS at hrun6
              rw [if_neg h40] at hrun6
              cases hl : lone strL s with
              | none => rw [hl] at hrun6; cases hrun6
              | some t0 => rw [hl] at hrun6; exact ⟨t0, rfl, hrun6⟩
            obtain ⟨t0, hl, hrun7⟩ := hlone
            refine Evl.q_if (b := true && decide (s = [40])) (et_and (et_BR (er_var rfl rfl)) fun _ => et_testR (er_eqSL (er_var rfl rfl) (er_lit (by decide +kernel)))) (fun hb => by rw [Bool.true_and, decide_eq_true_eq] at hb; exact absurd hb h40) (fun _ H7 e7 => ?_)
            have hsl : s.length ≤ 30000 := hsymL s (List.mem_of_mem_drop (i := i) (by rw [hd]; exact List.mem_cons_self ..))
            refine Evl.s_if (b := true) (et_BR (er_var rfl rfl)) (fun _ H8 e8 => ?_) (fun z => by cases z)
            refine q_asgR (er_call s hsl (ea_1 (er_var rfl rfl))) fun u H9 e9 r9 => ?_
            rw [hl] at r9
            have e79 := (e7.trans e8).trans e9
            refine q_whenF (b := false) (et_testR (er_op (Rb := Is .non) (er_var rfl r9) er_is fun x y H1 _ r1 r2 Q q => ?_)) rfl fun H10 e10 => ?_
            · cases (show y = _ from r2)
              obtain ⟨a, dx, z, rfl, _⟩ := r1
              exact ⟨rfl, q _ H1 (Ex.refl H1) rfl⟩
            have I10 := I6.up (e79.trans e10)
            obtain ⟨ws, hws, hal⟩ := I10.rows_.1
            have hwl := hal.len
            have heach := I.each top (List.mem_cons_self ..)
            rw [List.length_map, List.length_reverse] at hwl
            refine t_app (ev_top I10.at_ (ev_var rfl)) hws (er_var rfl ((OptR K C (some t0)).up e10 r9)) (by have := I.le; omega) fun v H11 e11 r11 => ?_
            have x12 : ExB r H10 (upd H11 r (.lst (ws ++ [v]))) := exb_upd (exb_ex e11)
            have k12 : Kp H10 (upd H11 r (.lst (ws ++ [v]))) := kp_mut (kp_ex e11) (e11 _ _ hws) rfl
            have row12 : RowAt K C (upd H11 r (.lst (ws ++ [v]))) r (.rule t0 :: top) := row_push (H := H11) (kp_mut (Kp.refl H11) (e11 _ _ hws) rfl) upd_same (hal.up e11) r11
            refine ⟨_, rfl, _, _, rfl, rfl, ?_⟩
            have hok := I.ok
            refine ⟨(ps.map (·.1)).length + 1 - (i + 1), by omega, i + 1, false, r :: rs, (.rule t0 :: top) :: below, _, _, _, _, _, _, rfl, rfl, I10.row (due' := false) (i' := i + 1) x12 k12 row12 ⟨rowW_push (hok top (List.mem_cons_self ..)) t0, fun b hb => hok b (List.mem_cons_of_mem _ hb)⟩ (by rw [hnext]; exact hrun7) hi (by omega) ?_⟩
            rw [List.length_cons]
            omega
  | false =>
    cases rows with
    | nil => exact I.ok.elim
    | cons top below =>
      cases rs with
      | nil => exact I.rows_.elim
      | cons r rs =>
        have hok := I.ok
        have hokT : RowW top := hok.1
        have hokB : ∀ b ∈ below, RowD b := hok.2
        subst hA
        have hle := I.le
        have heach := I.each top (List.mem_cons_self ..)
        have skip1 : ∀ {y5 y6 y7 y8 y9 y10 : Option V} {H6 : Hp} {ti : L2.TT}, EvT (tAnd (tB (tVar 4)) ti) [some (.str (strL L)), some (.ref sa), some (.int (i : Int)), some (.ref p), some (.bl false), y5, y6, y7, y8, y9, y10] H6 (false && false) := et_and (et_BR (er_var rfl rfl)) fun z => by cases z
        have skip2 : ∀ {y5 y6 y7 y8 y9 y10 : Option V} {H6 : Hp}, EvT (tB (tVar 4)) [some (.str (strL L)), some (.ref sa), some (.int (i : Int)), some (.ref p), some (.bl false), y5, y6, y7, y8, y9, y10] H6 false := et_BR (er_var rfl rfl)
        cases hd : (ps.map (·.1)).drop i with
        | nil =>
          have hj := sym_end (e := (([] : Sym), L.length)) I.le hd
          refine q_asgP (hix (kp_ex e5) (e5 _ _ I.syA) (er_var rfl rfl) hj) fun x y H6 e6 rx ry => ?_
          cases (show x = .str (strL []) from rx)
          cases (show y = .int (L.length : Int) from ry)
          have I6 := I.up (e5.trans e6)
          have hrun6 := I6.run
          rw [hd] at hrun6
          refine Evl.q_if skip1 (fun z => by cases z) fun _ H7 e7 => ?_
          refine Evl.s_if skip2 (fun z => by cases z) fun _ H8 e8 => ?_
          refine Evl.s_if (b := false) (et_is (et_testR (er_eqSL (er_var rfl rfl) (er_lit (l := [42]) (by decide +kernel)))) (by decide)) (fun z => by cases z) fun _ H9 e9 => ?_
          refine Evl.s_if (b := false) (et_is (et_inT hS (er_var rfl rfl)) (by rw [lvl_in]; rfl)) (fun z => by cases z) fun _ H10 e10 => ?_
          have I10 := I6.up (((e7.trans e8).trans e9).trans e10)
          have hone : below = [] ∧ put top 0 = [.rule t] := by
            cases below with
            | cons b bs => simp [runS] at hrun6
            | nil =>
              refine ⟨rfl, ?_⟩
              unfold runS at hrun6
              split at hrun6
              · next t' hp' => cases hrun6; exact hp'
              · cases hrun6
          obtain ⟨rfl, hput⟩ := hone
          have hrs : rs = [] := by
            have := I10.rows_.len
            simpa using this
          subst hrs
          refine t_put (n := 0) (ev_top I10.at_ (ev_var rfl)) er_is I10.rows_.1 hokT (by omega) fun H11 x11 k11 hrow => ?_
          rw [hput] at hrow
          have nd := I.nd
          simp only [List.nodup_cons, List.mem_cons, not_or] at nd
          have hp11 : H11 p = some (.lst [V.ref r]) := x11 _ _ nd.2.1.1 I10.at_
          obtain ⟨ws, hws, hal⟩ := hrow
          obtain ⟨vt, rfl, rvt⟩ := al1 (show Al [RuleP K C t] H11 ws from hal)
          have exH11 : Ex H H11 := fun a o ha => x11 a o (fun e => by
            rw [e, I.new r (List.mem_cons_of_mem _ (List.mem_cons_self ..))] at ha
            cases ha) (I10.ex a o ha)
          refine Evl.s_if (b := false && false) (et_and (et_is (et_testR (er_eqSL (er_var rfl rfl) (er_lit (l := [41]) (by decide +kernel)))) (by decide)) fun z => by cases z) (fun z => by cases z) fun _ H12 e12 => ?_
          have hrowsP : ∀ {H13}, Ex H11 H13 → (Lst K ([V.ref r].map Is)).r H13 (.ref p) := fun e => ⟨p, _, rfl, e _ _ hp11, rfl, trivial⟩
          refine Evl.s_if (b := true && (true && true)) (et_and (et_is (et_testR (er_eqSL (er_var rfl rfl) (er_lit (l := []) nil_lit))) (by decide)) fun _ => et_and (et_is (et_testR (er_eqI (er_var rfl rfl) (er_lenL' (er_var rfl rfl) (Nat.le_trans hz (by decide))))) (by simp)) fun _ => et_is (et_testR (er_eqI (er_lenN (er_var rfl (hrowsP e12))) er_is)) rfl) (fun _ H13 e13 => ?_) (fun z => by cases z)
          refine s_retR (R := RuleP K C t) ?_ fun v H14 e14 r14 => q v H14 (((exH11.trans e12).trans e13).trans e14) r14
          refine er_op (Ra := Is (.ref r)) (Rb := In 0) (er_ixN (S := Is) (i := 0) (er_var rfl (hrowsP (e12.trans e13))) er_is rfl) er_is fun a b H15 e15 r1 r2 Q1 q1 => ?_
          cases (show a = _ from r1)
          cases (show b = _ from r2)
          exact ⟨r, [vt], 0, vt, rfl, rfl, sq_of (((e12.trans e13).trans e15) _ _ hws), rfl, q1 vt H15 (Ex.refl _) ((RuleP K C t).up ((e12.trans e13).trans e15) rvt)⟩
        | cons s rest =>
          obtain ⟨pos, hj, hi, hnext⟩ := sym_at (e := ([], L.length)) hd
          refine q_asgP (hix (kp_ex e5) (e5 _ _ I.syA) (er_var rfl rfl) hj) fun x y H6 e6 rx ry => ?_
          cases (show x = .str (strL s) from rx)
          cases (show y = .int (pos : Int) from ry)
          have I6 := I.up (e5.trans e6)
          have hrun6 := I6.run
          rw [hd] at hrun6
          refine Evl.q_if skip1 (fun z => by cases z) fun _ H7 e7 => ?_
          refine Evl.s_if skip2 (fun z => by cases z) fun _ H8 e8 => ?_
          have e68 := e7.trans e8
          refine Evl.s_if (b := decide (s = [42])) (et_testR (er_eqSL (er_var rfl rfl) (er_lit (by decide +kernel)))) (fun h42 H9 e9 => ?_) (fun h42 H9 e9 => ?_)
          · have h42 := of_decide_eq_true h42
            subst h42
            have hone : ∃ w rest' t1 top' d, rest = w :: rest' ∧ top = .rule t1 :: top' ∧ digitOf w = some d ∧ runS strL rest' ((.rule (.tms t1 d) :: top') :: below) false = some t := by
              unfold runS at hrun6
              rw [if_pos rfl] at hrun6
              split at hrun6
              · next w rest' t1 top' =>
                split at hrun6
                · next d hd' => exact ⟨w, rest', t1, top', d, rfl, rfl, hd', hrun6⟩
                · cases hrun6
              · cases hrun6
            obtain ⟨w2, rest', t1, top', d, rfl, rfl, hdig, hrun7⟩ := hone
            obtain ⟨hd8, rfl⟩ := digit_some hdig
            obtain ⟨pos2, hj2, hi2, hnext2⟩ := sym_at (e := ([], L.length)) hnext
            have I9 := I6.up (e68.trans e9)
            refine q_asgP (hix (kp_ex (((e5.trans e6).trans e68).trans e9)) I9.syA (er_as (er_add (er_var rfl rfl) er_is) fun v H1 _ r => r) hj2) fun x y H10 e10 rx ry => ?_
            cases (show x = .str (strL [48 + d]) from rx)
            have I10 := I9.up e10
            refine q_whenF (b := false || false) (et_or (et_is (et_testR (er_neI (er_lenL' (er_var rfl rfl) (by show 1 ≤ 100000; decide)) er_is)) rfl) fun _ => et_is (et_testR (b := !decide (48 + d ∈ ("012345678" : Str).cps.toList)) (er_op (Ra := SyL [48 + d]) (Rb := Sy "012345678") (er_var rfl rfl) er_is fun a b H11 e11 q1 q2 Q1 k1 => ?_)) (by rw [decide_eq_true (digit_in hd8)]; rfl)) rfl fun H11 e11 => ?_
            · cases (show a = _ from q1)
              cases (show b = _ from q2)
              exact ⟨48 + d, _, rfl, rfl, k1 _ H11 (Ex.refl H11) rfl⟩
            have I11 := I10.up e11
            obtain ⟨ws, vt, hws, hal, rvt⟩ := row_last I11.rows_.1
            have hwl := hal.len
            rw [List.length_map, List.length_reverse] at hwl
            rw [List.length_cons] at heach
            refine ev_top I11.at_ (ev_var rfl) H11 (Ex.refl _) _ fun H12 e12 => ⟨Or.inl ⟨rfl, _, sq_of (e12 _ _ hws)⟩, ?_⟩
            refine t_pop (ev_top (e12 _ _ I11.at_) (ev_var rfl)) (e12 _ _ hws) fun H13 e13 => ?_
            have x13 : ExB r H11 (upd H13 r (.lst ws)) := exb_upd (exb_ex (e12.trans e13))
            have l13 : (upd H13 r (.lst ws)) r = some (.lst ws) := upd_same
            have k13 : Kp H11 (upd H13 r (.lst ws)) := exb_kp x13 hws l13
            generalize (upd H13 r (.lst ws)) = G at x13 l13 k13
            refine ⟨_, rfl, strL [48 + d], (d : Int), rfl, digit_int hd8, by rw [strL_len]; show 1 ≤ 640; decide, ?_⟩
            obtain ⟨a, dx, z, q1, q2, q3⟩ := im_it k13 rvt
            refine ⟨a, dx, _, q1, q2, .inr (.inr ⟨d, rfl⟩), (t1, d), trivial, ⟨⟨a, dx, z, q1, q2, q3⟩, rfl, trivial⟩, fun u H14 e14 r14 => ?_⟩
            refine ⟨r, ws, u, rfl, rfl, e14 _ _ l13, sz_lt (by omega), ?_⟩
            have x15 : ExB r H11 (upd H14 r (.lst (ws ++ [u]))) := exb_upd (x13.trans (exb_ex e14))
            have k15 : Kp H11 (upd H14 r (.lst (ws ++ [u]))) := exb_kp x15 hws upd_same
            have row15 : RowAt K C (upd H14 r (.lst (ws ++ [u]))) r (.rule (.tms t1 d) :: top') := row_push (H := H14) (x := .rule (.tms t1 d)) (kp_mut (Kp.refl H14) (e14 _ _ l13) rfl) upd_same ((hal.kp k13 iml_it).up e14) r14
            refine ⟨_, rfl, _, _, rfl, rfl, _, rfl, _, _, rfl, rfl, ?_⟩
            refine ⟨(ps.map (·.1)).length + 1 - (i + 2), by omega, i + 2, false, r :: rs, (.rule (.tms t1 d) :: top') :: below, _, _, _, _, _, _, rfl, rfl, I11.row (due' := false) (i' := i + 2) x15 k15 row15 ⟨rowW_swap hokT _, hokB⟩ (by rw [hnext2]; exact hrun7) (by omega) (by omega) ?_⟩
            rw [List.length_cons]
            omega
          · have h42 := of_decide_eq_false h42
            cases hl : lvlOf s with
            | some k =>
              obtain ⟨hk, rfl⟩ := lvl_some hl
              have hrun7 : runS strL rest ((.sg k :: put top k) :: below) true = some t := by
                unfold runS at hrun6
                rw [if_neg h42, hl] at hrun6
                exact hrun6
              refine Evl.s_if (b := true) (et_is (et_inT hS (er_var rfl rfl)) (by rw [lvl_in, hl]; rfl)) (fun _ H10 e10 => ?_) (fun z => by cases z)
              have I10 := I6.up ((e68.trans e9).trans e10)
              refine t_put (n := k) (ev_top I10.at_ (ev_var rfl)) (er_sgIndex hKS hS hk (er_var rfl rfl)) I10.rows_.1 hokT (by omega) fun H11 x11 k11 hrow => ?_
              have nd := I.nd
              simp only [List.nodup_cons, List.mem_cons, not_or] at nd
              have hp11 : H11 p = some (.lst ((r :: rs).reverse.map V.ref)) := x11 _ _ nd.2.1.1 I10.at_
              have hpl := put_le k top
              obtain ⟨ws, hws, hal⟩ := hrow
              have hwl := hal.len
              rw [List.length_map, List.length_reverse] at hwl
              refine t_app (R := SyL (signL k)) (ev_top hp11 (ev_var rfl)) hws (er_var rfl rfl) (by omega) fun v H12 e12 r12 => ?_
              have x12 : ExB r H10 (upd H12 r (.lst (ws ++ [v]))) := exb_upd (x11.trans (exb_ex e12))
              have k12 : Kp H10 (upd H12 r (.lst (ws ++ [v]))) := k11.trans (kp_mut (kp_ex e12) (e12 _ _ hws) rfl)
              have row12 : RowAt K C (upd H12 r (.lst (ws ++ [v]))) r (.sg k :: put top k) := row_push (H := H12) (x := .sg k) (kp_mut (Kp.refl H12) (e12 _ _ hws) rfl) upd_same (hal.up e12) r12
              refine ⟨_, rfl, _, _, rfl, rfl, ?_⟩
              refine ⟨(ps.map (·.1)).length + 1 - (i + 1), by omega, i + 1, true, r :: rs, (.sg k :: put top k) :: below, _, _, _, _, _, _, rfl, rfl, I10.row (due' := true) (i' := i + 1) x12 k12 row12 (fun b hb => ?_) (by rw [hnext]; exact hrun7) hi (by omega) ?_⟩
              · rcases List.mem_cons.mp hb with e | hb
                · rw [e]
                  exact ⟨hk, put_row k top _ (Nat.le_refl _) hokT⟩
                · exact hokB b hb
              · rw [List.length_cons]
                omega
            | none =>
              by_cases h41 : s = [41]
              · subst h41
                have hone : ∃ t1 b bs, put top 0 = [.rule t1] ∧ below = b :: bs ∧ runS strL rest ((.rule t1 :: b) :: bs) false = some t := by
                  unfold runS at hrun6
                  rw [if_neg h42, hl] at hrun6
                  simp only [if_true] at hrun6
                  split at hrun6
                  · next t1 b bs hp' => exact ⟨t1, b, bs, hp', rfl, hrun6⟩
                  · cases hrun6
                obtain ⟨t1, b, bs, hput, rfl, hrun7⟩ := hone
                refine Evl.s_if (b := false) (et_is (et_inT hS (er_var rfl rfl)) (by rw [lvl_in, hl]; rfl)) (fun z => by cases z) fun _ H10 e10 => ?_
                have I10 := I6.up ((e68.trans e9).trans e10)
                cases rs with
                | nil => exact I10.rows_.2.elim
                | cons r2 rs =>
                  refine t_put (n := 0) (ev_top I10.at_ (ev_var rfl)) er_is I10.rows_.1 hokT (by omega) fun H11 x11 k11 hrow => ?_
                  rw [hput] at hrow
                  have nd := I.nd
                  simp only [List.nodup_cons, List.mem_cons, not_or] at nd
                  have hp11 : H11 p = some (.lst ((r :: r2 :: rs).reverse.map V.ref)) := x11 _ _ nd.2.1.1 I10.at_
                  obtain ⟨ws, hws, hal⟩ := hrow
                  obtain ⟨vt, rfl, rvt⟩ := al1 (show Al [RuleP K C t1] H11 ws from hal)
                  have hlen2 : 1 < (r :: r2 :: rs).reverse.length := by simp
                  refine Evl.s_if (b := true && decide ((1 : Int) < ((r :: r2 :: rs).reverse.map V.ref).length)) (et_and (et_is (et_testR (er_eqSL (er_var rfl rfl) (er_lit (l := [41]) (by decide +kernel)))) (by decide)) fun _ => et_testR (er_gt (er_lenN (S := Is) (er_var rfl ⟨p, _, rfl, hp11, Al.is _⟩)) er_is)) (fun _ H12 e12 => ?_) (fun z => ?_)
                  · have hp12 := e12 _ _ hp11
                    rw [List.reverse_cons, List.map_append] at hp12
                    refine t_pop (ev_var rfl) hp12 fun H13 e13 => ?_
                    have l13 : (upd H13 p (.lst ((r2 :: rs).reverse.map V.ref))) p = some (.lst ((r2 :: rs).reverse.map V.ref)) := upd_same
                    have x13 : ∀ a o, a ≠ p → H11 a = some o → (upd H13 p (.lst ((r2 :: rs).reverse.map V.ref))) a = some o := fun a o ha h => by
                      rw [upd_ne ha]
                      exact (e12.trans e13) _ _ h
                    have k13 : Kp H11 (upd H13 p (.lst ((r2 :: rs).reverse.map V.ref))) := exb_kp x13 hp11 l13
                    generalize (upd H13 p (.lst ((r2 :: rs).reverse.map V.ref))) = H14 at l13 x13 k13
                    have hrow2 := I10.rows_.2.1.keep (k11.trans k13) fun o h => x13 _ _ (fun e => nd.2.1.2.1 e.symm) (x11 _ _ (fun e => nd.2.2.1.1 e.symm) h)
                    obtain ⟨ws2, hws2, hal2⟩ := hrow2
                    have hwl := hal2.len
                    have heach2 := I.each b (List.mem_cons_of_mem _ (List.mem_cons_self ..))
                    rw [List.length_map, List.length_reverse] at hwl
                    have hr14 : H14 r = some (.lst [vt]) := x13 _ _ (fun e => nd.2.1.1 e.symm) hws
                    refine t_app (R := RuleP K C t1) (ev_top l13 (ev_var rfl)) hws2 (er_ixL (Rs := [RuleP K C t1]) (i := 0) (er_var rfl ⟨r, [vt], rfl, hr14, im_rule k13 rvt, trivial⟩) er_is rfl) (by omega) fun v H15 e15 r15 => ?_
                    refine ⟨_, rfl, _, _, rfl, rfl, ?_⟩
                    have kp16 : Kp H14 (upd H15 r2 (.lst (ws2 ++ [v]))) := kp_mut (kp_ex e15) (e15 _ _ hws2) rfl
                    refine ⟨(ps.map (·.1)).length + 1 - (i + 1), by omega, i + 1, false, r2 :: rs, (.rule t1 :: b) :: bs, _, _, _, _, _, _, rfl, rfl, I10.closed (due' := false) (fun a o h1 h0 h2 h => ?_) ((k11.trans k13).trans kp16) ?_ (row_push (H := H15) (kp_mut (Kp.refl H15) (e15 _ _ hws2) rfl) upd_same (hal2.up e15) r15) ⟨rowW_push (hokB b (List.mem_cons_self ..)) t1, fun c hc => hokB c (List.mem_cons_of_mem _ hc)⟩ (by rw [hnext]; exact hrun7) hi ?_⟩
                    · rw [upd_ne h2]
                      exact e15 _ _ (x13 _ _ h1 (x11 _ _ h0 h))
                    · rw [upd_ne nd.2.1.2.1]
                      exact e15 _ _ l13
                    · rw [List.length_cons]
                      omega
                  · rw [Bool.true_and, decide_eq_false_iff_not, List.length_map] at z
                    omega
              · unfold runS at hrun6
                rw [if_neg h42, hl] at hrun6
                simp [h41] at hrun6
end
end K54
/-! KQ: the law's own helpers without a box: _law_same, _law_lies, _law_done, _law_holds. -/
set_option Elab.async false
set_option linter.all false
set_option maxRecDepth 100000
set_option maxHeartbeats 400000
namespace K54
open PySem PySem.W PySem.Calls PyProof.Rows L2 Evl RZ
section
variable {K : PySem.W.Frag} {σ : L2.St} {H H' : Hp} {te ta tb : TE} {tr : TA} {a b : Addr} {xs ys : List V} {X : Cx}
theorem walk_zipT {n : Nat} (hn : n = min xs.length ys.length) : Walk (ItzT K a b) n (fun H => SqT K H a xs ∧ SqT K H b ys) (YPair (fun i => xs[i]?) (fun i => ys[i]?)) := by
  subst hn
  refine ⟨fun i _ hi q => ?_, fun _ q => ⟨xs, ys, q.1, q.2, by omega⟩, fun i H v H' _ q y => ?_⟩
  · have h1 : i < xs.length := by omega
    have h2 : i < ys.length := by omega
    exact ⟨xs, ys, xs[i], ys[i], q.1, q.2, by simp [h1], by simp [h2]⟩
  · obtain ⟨T, x, z, h1, h2, h3, h4, h5⟩ := y
    exact ⟨T, x, z, h1, h2, h3, h4 xs q.1, h5 ys q.2⟩
theorem kZip (K : PySem.W.Frag) {e e2 : Expr} {ta : TA} {p pos tpos : Pos} {elts : List Expr} {kk : Nat} (h : X.K = K) (hg : Gl X "zip") (hm : X.mg "zip" = none) (ha : PA X [e, e2] ta)
    (hs : starEach [e, e2] X.env = (false, eval e X.env) :: starEach [e2] X.env := by rfl) (hpl : (backTo pos (starEach [e2] X.env)).any (·.1) = false := by rfl) : PI X (.Tuple elts kk tpos) (.Call (.Name "zip" p) [e, e2] [] pos) (iZipA K ta) := by
  subst h
  exact pi_zipA hg hm ha hs hpl
/-- the same things side by side -/
theorem er_zip {j1 j2 : Nat} {vs : List Nat} (isL : Bool) (Rs : List Pr) (h : Ea tr σ H [SeqP K isL Rs, SeqP K isL Rs]) (hI : isL = true → True) (hz : Rs.length ≤ 40000) (hw : ∀ x y, wipe (((wipe σ vs).set j1 (some x)).set j2 (some y)) vs = wipe σ vs)
    (he : ∀ R x y H1, R ∈ Rs → Ex H H1 → R.r H1 x → R.r H1 y → Er te (((wipe σ vs).set j1 (some x)).set j2 (some y)) H1 (Bo true)) :
    Er (tLc (iZipA K tr) (gTup K 2 (gCons (gName j1) (gCons (gName j2) gNil))) tYes te vs) σ H (Lst K (Rs.map fun _ => Bo true)) := fun H0 e Q q => h H0 e _ fun ws H1 e1 hA => by
  obtain ⟨v1, v2, rfl, r1, r2⟩ := al2 hA
  have main : ∀ (J : It) (a b : Addr) (xs ys : List V) (G : Hp → Prop), Al Rs H1 xs → Al Rs H1 ys → Walk J Rs.length G (YPair (fun i => xs[i]?) (fun i => ys[i]?)) → (∀ H', Ex H1 H' → G H') → ∀ Dl, H1 Dl = none → ∃ W : Nat → Nat → Hp → Prop, (∃ m, W 0 m (upd H1 Dl (.lst []))) ∧ ∀ i m H, W i m H →
      (J.stop i H ∧ Q (.ref Dl) H) ∨ (J.go i H ∧ ∃ Nx : Hp → Prop, (∀ H', Nx H' → ∃ m', m' < m ∧ W (i + 1) m' H') ∧ ∀ x H', J.yld i H x H' → gTup K 2 (gCons (gName j1) (gCons (gName j2) gNil)) x (wipe σ vs) H' fun σ2 H2 => wipe σ2 vs = wipe σ vs ∧ tYes σ2 H2 fun b H3 =>
        if b = true then te σ2 H3 fun y H4 => ∃ acc, H4 Dl = some (.lst acc) ∧ acc.length < sizeLine ∧ Nx (upd H4 Dl (.lst (acc ++ [y]))) else Nx H3) := by
    intro J a b xs ys G hx hy Wk hG Dl hD
    refine lc_it Wk (Cq Rs (fun _ => true) (fun _ => Bo true) H1 Dl) ⟨hD, Ex.new hD, [], upd_same, trivial⟩ (fun i H' _ p => hG H' p.2.1) (fun i x H' H2 hi p y => ?_) (fun H' p => ?_)
    · obtain ⟨T, x1, x2, rfl, hT, rfl, g1, g2⟩ := y
      have eT : Ex H' (upd H' T (.tup [x1, x2])) := Ex.new hT
      have hR : Rs[i]? = some Rs[i] := List.getElem?_eq_getElem hi
      obtain ⟨u1, k1, s1⟩ := hx.get hR
      obtain ⟨u2, k2, s2⟩ := hy.get hR
      have : u1 = x1 := Option.some.inj (k1.symm.trans g1)
      subst this
      have : u2 = x2 := Option.some.inj (k2.symm.trans g2)
      subst this
      have p' : Cq Rs (fun _ => true) (fun _ => Bo true) H1 Dl i (upd H' T (.tup [u1, u2])) := by
        obtain ⟨q1, q2, vs', q3, q4⟩ := p
        exact ⟨q1, q2.trans eT, vs', eT _ _ q3, q4.up eT⟩
      have e13 := p.2.1.trans eT
      refine ⟨T, [u1, u2], rfl, st_of upd_same, rfl, u1, [u2], rfl, u2, [], rfl, rfl, hw u1 u2, cq_turn (fun _ => im_is) p' hR hz et_yes fun _ => he Rs[i] u1 u2 _ (List.getElem_mem hi) ((e.trans e1).trans e13) (Rs[i].up e13 s1) (Rs[i].up e13 s2)⟩
    · obtain ⟨p1, p2⟩ := cq_end (K := K) rfl p
      rw [filter_yes] at p2
      exact q _ H' (e1.trans p1) p2
  cases isL with
  | true =>
    obtain ⟨a, xs, rfl, hs, hA1⟩ := (show (Lst K Rs).r H1 v1 from r1)
    obtain ⟨b, ys, rfl, ht, hB1⟩ := (show (Lst K Rs).r H1 v2 from r2)
    exact ⟨a, b, xs, ys, rfl, .inl ⟨sq_of hs, sq_of ht, main _ a b xs ys _ hA1 hB1 (walk_zip (K := K) (a := a) (b := b) (by rw [hA1.len, hB1.len, Nat.min_self])) fun H' e' => ⟨sq_of (e' _ _ hs), sq_of (e' _ _ ht)⟩⟩⟩
  | false =>
    obtain ⟨a, xs, rfl, hs, hA1⟩ := (show (Tup K Rs).r H1 v1 from r1)
    obtain ⟨b, ys, rfl, ht, hB1⟩ := (show (Tup K Rs).r H1 v2 from r2)
    exact ⟨a, b, xs, ys, rfl, .inr ⟨hs, ht, main _ a b xs ys _ hA1 hB1 (walk_zipT (K := K) (a := a) (b := b) (by rw [hA1.len, hB1.len, Nat.min_self])) fun H' e' => ⟨ex_t e' hs, ex_t e' ht⟩⟩⟩
end
/-- things that can be the same, by the depth -/
inductive Sme (K : PySem.W.Frag) : Nat → Pr → Prop where
  | bl (n : Nat) (b : Bool) : Sme K (n + 1) (Bo b)
  | sy (n : Nat) (x : Str) : Sme K (n + 1) (Sy x)
  | seq (n : Nat) (isL : Bool) (Rs : List Pr) (h : ∀ R ∈ Rs, Sme K n R) (hz : Rs.length ≤ 40000) : Sme K (n + 1) (SeqP K isL Rs)
section
variable {P : Program} {w : World} {K : PySem.W.Frag} {mg : Str → Option Value} {base : Heap} {C : Addr}
theorem sc__law_same : FnScope ["_law_got", "_law_due", "_law_mine", "_law_its"] ["_law_got", "_law_due"] (defScope (sT 71)) := ⟨rfl, rfl, rfl, by decide +kernel, rfl, by decide +kernel, by decide +kernel⟩
abbrev spSame (K : PySem.W.Frag) (n : Nat) : Sp := spF (fun R : Pr => Sme K n R) (fun R => [R, R]) (fun _ => Bo true)
theorem cl_law_same (T : Txt K mg) (F : DefAt K mg "_law_same" (sT 71)) : ∀ n, Cl P w K mg base "_law_same" ["_law_got", "_law_due"] (n + 1) (spSame K n)
  | 0 => by
    refine cl_of F sc__law_same (fun _ _ _ _ _ _ us hl => match us, hl with | [_, _], _ => rfl) (fun _ => rfl) fun f cdv A outer s H E R vs hr hp hA => ?_
    cases hp
  | n + 1 => by
    have c__law_same := cl_law_same T F n
    refine cl_of F sc__law_same (fun _ _ _ _ _ _ us hl => match us, hl with | [_, _], _ => rfl) (fun _ => rfl) fun f cdv A outer s H E R vs hr hp hA => ?_
    obtain ⟨v1, v2, rfl, h1, h2⟩ := al2 hA
    refine ⟨_, (pss_cons (ps_if (pt_val (pe_callB (kIsiT K rfl) (by rfl) T.isinstance (by decide +kernel) (pa_cons (pv 1) (pa_cons (pe_tup (pa_cons (pe_bltn (v := .ty "list") (u := .type "list") (by rfl) T.list (by decide +kernel) rfl) (pa_cons (pe_bltn (v := .ty "tuple") (u := .type "tuple") (by rfl) T.tuple (by decide +kernel) rfl) pa_nil))) pa_nil)))) (pss_cons (ps_if (pt_cmpR op_ne (pe_callB (kIsi K rfl) (by rfl) T.isinstance (by decide +kernel) (pa_cons (pv 0) (pa_cons (pe_bltn (v := .ty "list") (u := .type "list") (by rfl) T.list (by decide +kernel) rfl) pa_nil))) (pe_callB (kIsi K rfl) (by rfl) T.isinstance (by decide +kernel) (pa_cons (pv 1) (pa_cons (pe_bltn (v := .ty "list") (u := .type "list") (by rfl) T.list (by decide +kernel) rfl) pa_nil))) (nomark _)) (pss_one (ps_ret pe_bl)) pss_nil) (pss_cons (ps_if (pt_cmpR op_ne (pe_callB (kIsi K rfl) (by rfl) T.isinstance (by decide +kernel) (pa_cons (pv 0) (pa_cons (pe_bltn (v := .ty "tuple") (u := .type "tuple") (by rfl) T.tuple (by decide +kernel) rfl) pa_nil))) (pe_callB (kIsi K rfl) (by rfl) T.isinstance (by decide +kernel) (pa_cons (pv 1) (pa_cons (pe_bltn (v := .ty "tuple") (u := .type "tuple") (by rfl) T.tuple (by decide +kernel) rfl) pa_nil))) (nomark _)) (pss_one (ps_ret pe_bl)) pss_nil) (pss_one (ps_ret (pe_and (pe_cmpR op_eq (pe_callB (kLen K rfl) (by rfl) T.len (by decide +kernel) (pa_cons (pv 0) pa_nil)) (pe_callB (kLen K rfl) (by rfl) T.len (by decide +kernel) (pa_cons (pv 1) pa_nil)) (nomark _)) (pe_one (pe_callB (kAll K rfl rfl) (by rfl) T.all (by decide +kernel) (pa_cons (pe_lc (own := [("_law_mine", 2), ("_law_its", 3)]) (g := gTup K 2 (gCons (gName 2) (gCons (gName 3) gNil))) (tt := tYes) (by rfl) sc__law_same.nd (kZip K rfl (by rfl) T.zip (pa_cons (pv 0) (pa_cons (pv 1) pa_nil))) (blkOk_by (own := [("_law_mine", 2), ("_law_its", 3)]) (N := ["_law_got", "_law_due", "_law_mine", "_law_its"]) (sc := defScope (sT 71)) (by decide +kernel)) (fun _ _ _ _ _ => (pg_tup (by rfl) (pgs_cons (pg_name (i := 2) sc__law_same.nd rfl (by first | exact Or.inl rfl | exact Or.inr rfl)) (pgs_cons (pg_name (i := 3) sc__law_same.nd rfl (by first | exact Or.inl rfl | exact Or.inr rfl)) pgs_nil)))) (fun _ _ _ _ _ => pts_nil) (fun _ _ _ _ _ => (pe_cl c__law_same hr (pa_cons (pv 2) (pa_cons (pv 3) pa_nil))))) pa_nil)))))))) pss_nil) (pss_cons (ps_if (PW.pt (pw_or (pt_cmpR op_isN (pv 1) pe_non (nomark _)) (pw_or1 (pt_val (pe_callB (kIsiT K rfl) (by rfl) T.isinstance (by decide +kernel) (pa_cons (pv 1) (pa_cons (pe_tup (pa_cons (pe_bltn (v := .ty "bool") (u := .type "bool") (by rfl) T.bool (by decide +kernel) rfl) (pa_cons (pe_bltn (v := .ty "str") (u := .type "str") (by rfl) T.str (by decide +kernel) rfl) pa_nil))) pa_nil))))))) (pss_one (ps_ret (pe_and (pe_cmpR op_eq (pv 0) (pv 1) (nomark _)) (pe_and (pe_cmpR op_eq (pe_callB (kIsi K rfl) (by rfl) T.isinstance (by decide +kernel) (pa_cons (pv 0) (pa_cons (pe_bltn (v := .ty "bool") (u := .type "bool") (by rfl) T.bool (by decide +kernel) rfl) pa_nil))) (pe_callB (kIsi K rfl) (by rfl) T.isinstance (by decide +kernel) (pa_cons (pv 1) (pa_cons (pe_bltn (v := .ty "bool") (u := .type "bool") (by rfl) T.bool (by decide +kernel) rfl) pa_nil))) (nomark _)) (pe_one (pe_cmpR op_eq (pe_cmpR op_isN (pv 0) pe_non (nomark _)) (pe_cmpR op_isN (pv 1) pe_non (nomark _)) (nomark _))))))) pss_nil) (pss_one (ps_ret (pe_and (pe_callB (kIsi K rfl) (by rfl) T.isinstance (by decide +kernel) (pa_cons (pv 0) (pa_cons (pe_bltn (v := .ty "int") (u := .type "int") (by rfl) T.int (by decide +kernel) rfl) pa_nil))) (pe_and (pe_not (pe_callB (kIsi K rfl) (by rfl) T.isinstance (by decide +kernel) (pa_cons (pv 0) (pa_cons (pe_bltn (v := .ty "bool") (u := .type "bool") (by rfl) T.bool (by decide +kernel) rfl) pa_nil)))) (pe_one (pe_cmpR op_eq (pv 0) (pv 1) (nomark _))))))))), fun Q q => ?_⟩
    have hp : Sme K (n + 1) R := hp
    have tr : ∀ {b : V} {σ : L2.St} {H : Hp} {ta tb : TE}, Er ta σ H (Is b) → Er tb σ H (Is b) → scal b b = true → EvT (tTest (tOp rNe ta tb)) σ H false := fun ha hb hs => et_is (et_testR (er_ne ha hb hs)) (by simp)
    have te : ∀ {b : V} {σ : L2.St} {H : Hp} {ta tb : TE}, Er ta σ H (Is b) → Er tb σ H (Is b) → scal b b = true → Er (tOp rEq ta tb) σ H (Bo true) := fun {b} {σ} {H} {ta} {tb} ha hb hs => by
      have := er_eq ha hb hs
      rwa [show decide (b = b) = true by simp] at this
    have isN : ∀ {x : V} {σ : L2.St} {H : Hp} {ta : TE}, Er ta σ H (Is x) → x ≠ .non → Er (tOp (fun x y H Q => y = .non ∧ Q (.bl (decide (x = .non))) H) ta (tC .non)) σ H (Bo false) := fun ha hx => er_op (Rb := Is .non) ha er_is fun a b H1 _ r1 r2 Q q => by
      cases (show a = _ from r1)
      cases (show b = _ from r2)
      exact ⟨rfl, by rw [decide_eq_false hx]; exact q _ H1 (Ex.refl H1) rfl⟩
    cases hp with
    | bl _ b =>
      cases (show v1 = .bl b from h1)
      cases (show v2 = .bl b from h2)
      have hv1 : ∀ {H1}, Er (tVar 0) (start ["_law_got", "_law_due", "_law_mine", "_law_its"] [.bl b, .bl b]) H1 (Bo b) := er_var rfl rfl
      have hv2 : ∀ {H1}, Er (tVar 1) (start ["_law_got", "_law_due", "_law_mine", "_law_its"] [.bl b, .bl b]) H1 (Bo b) := er_var rfl rfl
      have tyb : TyP K (Bo b) (.type "bool") := fun H v h => by
        cases (show v = _ from h)
        exact .base (.bl b)
      have kbt : PySem.W.kitOne K (.type "bool") (.type "bool") = some true := kit_ty (by decide +kernel)
      refine q_whenF (b := false) (et_BR (er_isiT hv2 tyb (kitAny_cons (b := false) (kit_ty (by decide +kernel)) (fun _ => kitAny_cons (b := false) (kit_ty (by decide +kernel)) (fun _ => kitAny_nil) fun h => by cases h) fun h => by cases h))) rfl fun H1 e1 => ?_
      refine q_whenT (b := false || true) (et_or (et_testR (isN hv2 (by intro z; cases z))) fun _ => et_BR (er_isiT hv2 tyb (kitAny_cons kbt (fun z => by cases z) fun _ => rfl))) rfl fun H2 e2 => ?_
      exact s_retR (R := Bo (true && (true && true))) (er_andV (te hv1 hv2 rfl) fun _ => er_andV (te (er_isi hv1 tyb kbt) (er_isi hv2 tyb kbt) rfl) fun _ => te (isN hv1 (by intro z; cases z)) (isN hv2 (by intro z; cases z)) rfl) fun u H3 e3 r => q u H3 ((e1.trans e2).trans e3) r
    | sy _ x =>
      cases (show v1 = .str x from h1)
      cases (show v2 = .str x from h2)
      have hv1 : ∀ {H1}, Er (tVar 0) (start ["_law_got", "_law_due", "_law_mine", "_law_its"] [.str x, .str x]) H1 (Sy x) := er_var rfl rfl
      have hv2 : ∀ {H1}, Er (tVar 1) (start ["_law_got", "_law_due", "_law_mine", "_law_its"] [.str x, .str x]) H1 (Sy x) := er_var rfl rfl
      have kbt : PySem.W.kitOne K (.type "str") (.type "bool") = some false := kit_ty (by decide +kernel)
      refine q_whenF (b := false) (et_BR (er_isiT hv2 ty_sy kit_slt)) rfl fun H1 e1 => ?_
      refine q_whenT (b := false || true) (et_or (et_testR (isN hv2 (by intro z; cases z))) fun _ => et_BR (er_isiT hv2 ty_sy (kitAny_cons kbt (fun _ => kitAny_cons kit_str (fun z => by cases z) fun _ => rfl) fun z => by cases z))) rfl fun H2 e2 => ?_
      exact s_retR (R := Bo (true && (true && true))) (er_andV (te hv1 hv2 rfl) fun _ => er_andV (te (er_isi hv1 ty_sy kbt) (er_isi hv2 ty_sy kbt) rfl) fun _ => te (isN hv1 (by intro z; cases z)) (isN hv2 (by intro z; cases z)) rfl) fun u H3 e3 r => q u H3 ((e1.trans e2).trans e3) r
    | seq _ isL Rs h hz =>
      have e0 : (true && Rs.all fun _ => true) = true := by simp
      rw [← e0] at q
      have klt : PySem.W.kitOne K (.type "list") (.type "tuple") = some false := kit_ty (by decide +kernel)
      have ktl : PySem.W.kitOne K (.type "tuple") (.type "list") = some false := kit_ty (by decide +kernel)
      have kll : PySem.W.kitOne K (.type "list") (.type "list") = some true := kit_ty (by decide +kernel)
      have hv1 : ∀ {H1}, Ex H H1 → Er (tVar 0) (start ["_law_got", "_law_due", "_law_mine", "_law_its"] [v1, v2]) H1 (SeqP K isL Rs) := fun e => er_var rfl ((SeqP K isL Rs).up e h1)
      have hv2 : ∀ {H1}, Ex H H1 → Er (tVar 1) (start ["_law_got", "_law_due", "_law_mine", "_law_its"] [v1, v2]) H1 (SeqP K isL Rs) := fun e => er_var rfl ((SeqP K isL Rs).up e h2)
      cases isL with
      | true =>
        refine q_whenT (b := true) (et_BR (er_isiT (hv2 (Ex.refl H)) ty_lst kit_lt)) rfl fun H1 e1 => ?_
        refine q_whenF (b := false) (tr (er_isi (hv1 e1) ty_lst kll) (er_isi (hv2 e1) ty_lst kll) rfl) rfl fun H2 e2 => ?_
        refine q_whenF (b := false) (tr (er_isi (hv1 (e1.trans e2)) ty_lst klt) (er_isi (hv2 (e1.trans e2)) ty_lst klt) rfl) rfl fun H3 e3 => ?_
        have e13 := (e1.trans e2).trans e3
        refine s_retR (er_andV (te (er_lenL (hv1 e13)) (er_lenL (hv2 e13)) rfl) fun _ => er_all (f := fun _ => true) (er_zip true Rs (ea_2 (hv1 e13) (hv2 e13)) (fun _ => trivial) hz (fun _ _ => rfl) fun R x y H4 hR e4 hx hy => er_call R (h R hR) (ea_2 (er_var rfl hx) (er_var rfl hy)))) fun u H4 e4 r => q u H4 (e13.trans e4) r
      | false =>
        refine q_whenT (b := true) (et_BR (er_isiT (hv2 (Ex.refl H)) ty_tup kit_tlt)) rfl fun H1 e1 => ?_
        refine q_whenF (b := false) (tr (er_isi (hv1 e1) ty_tup ktl) (er_isi (hv2 e1) ty_tup ktl) rfl) rfl fun H2 e2 => ?_
        refine q_whenF (b := false) (tr (er_isi (hv1 (e1.trans e2)) ty_tup kit_tt) (er_isi (hv2 (e1.trans e2)) ty_tup kit_tt) rfl) rfl fun H3 e3 => ?_
        have e13 := (e1.trans e2).trans e3
        refine s_retR (er_andV (te (er_lenT (hv1 e13)) (er_lenT (hv2 e13)) rfl) fun _ => er_all (f := fun _ => true) (er_zip false Rs (ea_2 (hv1 e13) (hv2 e13)) (fun _ => trivial) hz (fun _ _ => rfl) fun R x y H4 hR e4 hx hy => er_call R (h R hR) (ea_2 (er_var rfl hx) (er_var rfl hy)))) fun u H4 e4 r => q u H4 (e13.trans e4) r
/-! ### _law_lies, _law_done -/
theorem sc__law_lies : FnScope ["_law_word", "_law_row", "_law_at_so", "_law_own"] ["_law_word", "_law_row"] (defScope (sT 73)) := ⟨rfl, rfl, rfl, by decide +kernel, rfl, by decide +kernel, by decide +kernel⟩
abbrev spLies (K : PySem.W.Frag) : Sp := spF (fun p : Log × Log => p.2.length ≤ 1000) (fun p => [LogP K p.1, LogP K p.2]) (fun p => Bo (isPart p.1 p.2))
abbrev CLies (P : Program) (w : World) (K : PySem.W.Frag) (mg : Str → Option Value) (base : Heap) := Cl P w K mg base "_law_lies" ["_law_word", "_law_row"] 1 (spLies K)
theorem cl_law_lies (T : Txt K mg) (F : DefAt K mg "_law_lies" (sT 73)) : CLies P w K mg base := by
  refine cl_of F sc__law_lies (fun _ _ _ _ _ _ us hl => match us, hl with | [_, _], _ => rfl) (fun _ => rfl) fun f cdv A outer s H E p vs hr hp hA => ?_
  obtain ⟨wd, lg⟩ := p
  obtain ⟨v1, v2, rfl, h1, h2⟩ := al2 hA
  refine ⟨_, (pss_cons (ps_set (i := 2) sc__law_lies.nd rfl (by first | exact Or.inl rfl | exact Or.inr rfl) pe_int) (pss_cons (ps_for PassesOwn.never rfl (kPiT K rfl (pv 1)) (pg_name (i := 3) sc__law_lies.nd rfl (by first | exact Or.inl rfl | exact Or.inr rfl)) (pss_one (ps_set (i := 2) sc__law_lies.nd rfl (by first | exact Or.inl rfl | exact Or.inr rfl) (pe_op op_add (pv 2) (pe_callTy call_int1 (by rfl) T.int (by decide +kernel) (pa_cons (pe_and (pe_cmpR op_lt (pv 2) (pe_callB (kLen K rfl) (by rfl) T.len (by decide +kernel) (pa_cons (pv 0) pa_nil)) (nomark _)) (pe_one (pe_cmpR op_eq (pe_ix (kIxT K rfl) (pv 0) (pv 2) (fun _ _ => rfl)) (pv 3) (nomark _)))) pa_nil)))))) (pss_one (ps_ret (pe_cmpR op_eq (pv 2) (pe_callB (kLen K rfl) (by rfl) T.len (by decide +kernel) (pa_cons (pv 0) pa_nil)) (nomark _)))))), fun Q q => ?_⟩
  refine q_asgR (R := In 0) er_is fun v H1 ex1 r1 => ?_
  cases (show v = _ from r1)
  refine q_forT' (K := K) lg Sy (fun _ => im_sy) (er_var rfl ((LogP K lg).up ex1 h2)) fun H2 ex2 => ?_
  refine ⟨fun i σ' H' => Ex H2 H' ∧ ∃ y, σ' = [some v1, some v2, some (.int (begunF wd 0 (lg.take i) : Nat)), y], ⟨Ex.refl H2, none, rfl⟩, fun i σ' H' hx => kp_ex hx.1, fun i b v σ' H' hb hx hv => ?_, fun σ' H' hx => ?_⟩
  · obtain ⟨ex0, y, rfl⟩ := hx
    have ex := (ex1.trans ex2).trans ex0
    cases (show v = .str b from hv)
    have ht : begunF wd 0 (lg.take (i + 1)) = if wd[begunF wd 0 (lg.take i)]? = some b then begunF wd 0 (lg.take i) + 1 else begunF wd 0 (lg.take i) := by
      rw [List.take_add_one, hb]
      exact begun_snoc _ _
    generalize begunF wd 0 (lg.take i) = m at ht
    have hv1 : ∀ {H3}, Ex H' H3 → Er (tVar 0) [some v1, some v2, some (.int (m : Nat)), some (.str b)] H3 (LogP K wd) := fun e => er_var rfl ((LogP K wd).up (ex.trans e) h1)
    have hv2 : ∀ {H3}, Er (tVar 2) [some v1, some v2, some (.int (m : Nat)), some (.str b)] H3 (In (m : Nat)) := er_var rfl rfl
    have hv3 : ∀ {H3}, Er (tVar 3) [some v1, some v2, some (.int (m : Nat)), some (.str b)] H3 (Sy b) := er_var rfl rfl
    have hbool : Er _ [some v1, some v2, some (.int (m : Nat)), some (.str b)] H' (Bo (decide (((m : Nat) : Int) < (wd.length : Nat)) && decide (wd[m]? = some b))) := er_andV (er_lt hv2 (er_lenM (hv1 (Ex.refl _)))) fun hlt => by
      have hlt' : m < wd.length := by
        have := of_decide_eq_true hlt
        omega
      have hg : wd[m]? = some wd[m] := List.getElem?_eq_getElem hlt'
      rw [show decide (wd[m]? = some b) = decide (wd[m] = b) by rw [hg]; simp]
      exact er_eqS (er_ixM (hv1 (Ex.refl _)) hv2 hg) hv3
    refine s_asgR (R := In (begunF wd 0 (lg.take (i + 1)) : Nat)) (er_as (er_add hv2 (er_cb (Rs := [Bo (decide (((m : Nat) : Int) < (wd.length : Nat)) && decide (wd[m]? = some b))]) (R := In (if (decide (((m : Nat) : Int) < (wd.length : Nat)) && decide (wd[m]? = some b)) = true then 1 else 0)) (ea_1 hbool) fun vs H3 _ hA Q q => ?_)) fun v H3 _ r => ?_) fun z H3 e3 r3 => ?_
    · obtain ⟨u, rfl, hu⟩ := al1 hA
      cases (show u = _ from hu)
      exact .inr ⟨_, rfl, q _ H3 (Ex.refl H3) rfl⟩
    · rw [show v = _ from r, ht]
      show V.int _ = V.int _
      congr 1
      by_cases hc : wd[m]? = some b
      · have hm : m < wd.length := (List.getElem?_eq_some_iff.mp hc).1
        have hcb : (decide (((m : Nat) : Int) < (wd.length : Nat)) && decide (wd[m]? = some b)) = true := by
          rw [Bool.and_eq_true, decide_eq_true_eq, decide_eq_true_eq]
          exact ⟨by omega, hc⟩
        rw [if_pos hc, if_pos hcb]
        rfl
      · rw [if_neg hc, if_neg (by simp [hc])]
        rfl
    · cases (show z = _ from r3)
      exact ⟨ex0.trans e3, some (.str b), rfl⟩
  · obtain ⟨ex, y, rfl⟩ := hx
    rw [List.take_length]
    have e : decide (((begunF wd 0 lg : Nat) : Int) = (wd.length : Nat)) = isPart wd lg := by
      unfold isPart
      rw [Bool.eq_iff_iff, decide_eq_true_eq, beq_iff_eq]
      omega
    rw [← e] at q
    exact s_retR (er_eqI (er_var rfl rfl) (er_lenM (er_var rfl ((LogP K wd).up ((ex1.trans ex2).trans ex) h1)))) fun v H3 e2 r => q v H3 (((ex1.trans ex2).trans ex).trans e2) r
theorem sc__law_done : FnScope ["_law_words_so", "_law_row", "_law_own"] ["_law_words_so", "_law_row"] (defScope (sT 75)) := ⟨rfl, rfl, rfl, by decide +kernel, rfl, by decide +kernel, by decide +kernel⟩
abbrev spDone (K : PySem.W.Frag) : Sp := spF (fun p : List Log × Log => BOk p.1 ∧ p.2.length ≤ 1000) (fun p => [LogsP K p.1, LogP K p.2]) (fun p => Bo (does p.1 p.2))
abbrev CDone (P : Program) (w : World) (K : PySem.W.Frag) (mg : Str → Option Value) (base : Heap) := Cl P w K mg base "_law_done" ["_law_words_so", "_law_row"] 2 (spDone K)
theorem eqv_nil (b : List Log) : PyData.eqv (.list (b.map encL)) (.list []) = b.isEmpty := by
  rw [PyData.eqv]
  cases b with
  | nil => simp [PyData.eqvAll]
  | cons x b => simp [PyData.eqvAll]
theorem cl_law_done (c__law_lies : CLies P w K mg base) (F : DefAt K mg "_law_done" (sT 75)) : CDone P w K mg base := by
  refine cl_of F sc__law_done (fun _ _ _ _ _ _ us hl => match us, hl with | [_, _], _ => rfl) (fun _ => rfl) fun f cdv A outer s H E p vs hr hp hA => ?_
  obtain ⟨b, l⟩ := p
  obtain ⟨v1, v2, rfl, h1, h2⟩ := al2 hA
  have hp : BOk b ∧ l.length ≤ 1000 := hp
  refine ⟨_, (pss_one (ps_ret (pe_cmpR (kNeD K hr.units rfl) (pe_lc (own := [("_law_own", 2)]) (g := gName 2) (by rfl) sc__law_done.nd (kPiT K rfl (pv 0)) (blkOk_by (own := [("_law_own", 2)]) (N := ["_law_words_so", "_law_row", "_law_own"]) (sc := defScope (sT 75)) (by decide +kernel)) (fun _ _ _ _ _ => (pg_name (i := 2) sc__law_done.nd rfl (by first | exact Or.inl rfl | exact Or.inr rfl))) (fun _ _ _ _ _ => pts_one (pt_val (pe_cl c__law_lies (hr.mono (by first | decide | omega)) (pa_cons (pv 2) (pa_cons (pv 1) pa_nil))))) (fun _ _ _ _ _ => (pv 2))) (pe_lst pa_nil) (nomark _)))), fun Q q => ?_⟩
  have e : (!(b.filter fun u => isPart u l).isEmpty) = does b l := by
    unfold does
    rw [Bool.eq_iff_iff, Bool.not_eq_true', List.any_eq_true, List.isEmpty_eq_false_iff_exists_mem]
    constructor
    · rintro ⟨x, hx⟩
      exact ⟨x, (List.mem_filter.mp hx).1, (List.mem_filter.mp hx).2⟩
    · rintro ⟨x, hx, h⟩
      exact ⟨x, List.mem_filter.mpr ⟨hx, h⟩⟩
  have q : ∀ (v : V) (H' : Hp), Ex H H' → (Bo (does b l)).r H' v → Q v H' := q
  rw [← e] at q
  refine s_retR (er_op (er_lcT b (LogP K) (fun u => isPart u l) (LogP K) (er_var rfl h1) (fun _ => im_log) (Nat.le_trans (Nat.le_of_lt hp.1.1) (by decide)) (fun _ => rfl) (fun u x H1 hu e1 hx => et_BR (er_call (u, l) hp.2 (ea_2 (er_var rfl hx) (er_var rfl ((LogP K l).up e1 h2))))) fun u x H1 hu e1 hx _ => er_var rfl hx)
    (er_lst (K := K) (Rs := []) ea_nilR (by show 0 ≤ 100000; decide)) fun x y H1 _ r1 r2 Q1 q1 => ?_) q
  obtain ⟨a, vs, rfl, hs, hA1⟩ := r1
  obtain ⟨a2, vs2, rfl, hs2, hA2⟩ := r2
  have h0 : vs2 = [] := by
    have := hA2.len
    exact List.eq_nil_of_length_eq_zero this
  subst h0
  have hsub : ∀ u ∈ b.filter fun u => isPart u l, LOk u := fun u hu => hp.1.2 u (List.mem_filter.mp hu).1
  refine ⟨.list ((b.filter fun u => isPart u l).map encL), .list [], .lst (sq_of hs) (dp_all hA1), .lst (sq_of hs2) .nil, ?_, by decide +kernel, ?_⟩
  · unfold SeqAt.shaped
    rw [PyData.canLay0, lay_logs hsub, PyData.depth, Bool.true_and, decide_eq_true_eq]
    exact Nat.le_trans (Nat.succ_le_succ (dep_logs _)) (by decide)
  · rw [eqv_nil]
    exact q1 _ H1 (Ex.refl H1) rfl
end
end K54
/-! KU: _law_holds. -/
set_option Elab.async false
set_option linter.all false
set_option maxRecDepth 100000
set_option maxHeartbeats 400000
namespace K54
open PySem PySem.W PySem.Calls PyProof.Rows L2 Evl
/-- how deep _law_holds goes -/
def hm : K54.T Str → Nat
  | .seen _ => 0
  | .one => 0
  | .zero => 0
  | .thn a b => Nat.max (hm a) (hm b) + 1
  | .alt a b => Nat.max (hm a) (hm b) + 1
  | .all a b => Nat.max (hm a) (hm b) + 1
  | .tms a n => hm a + 2 * n + 1
theorem hm_tms (a : K54.T Str) (n : Nat) : hm (.thn a (.tms a n)) < hm (.tms a (n + 1)) := by
  show Nat.max (hm a) (hm a + 2 * n + 1) + 1 < hm a + 2 * (n + 1) + 1
  rw [show Nat.max (hm a) (hm a + 2 * n + 1) = hm a + 2 * n + 1 from Nat.max_eq_right (by omega)]
  omega
theorem inV_str (s : Str) (z : Log) : inV (.str s) (z.map V.str) = decide (s ∈ z) := by
  unfold inV
  rw [List.any_map, Bool.eq_iff_iff, List.any_eq_true, decide_eq_true_eq]
  constructor
  · rintro ⟨x, hx, h⟩
    have : x = s := by simpa [eqV] using h
    rw [← this]
    exact hx
  · intro h
    exact ⟨s, h, by simp [eqV]⟩
theorem er_inLog {K : PySem.W.Frag} {σ : L2.St} {H : Hp} {ta tb : TE} {s : Str} {z : Log} (ha : Er ta σ H (Sy s)) (hb : Er tb σ H (LogP K z)) : Er (tOp (rIn K false) ta tb) σ H (Bo (decide (s ∈ z))) := er_op ha hb fun x y H1 _ r1 r2 Q q => by
  cases (show x = _ from r1)
  obtain ⟨a, rfl, hs⟩ := log_at r2
  refine ⟨a, _, rfl, .inr hs, rfl, by rw [List.all_map]; exact List.all_eq_true.mpr fun _ _ => rfl, ?_⟩
  rw [inV_str]
  exact q _ H1 (Ex.refl H1) rfl
section
variable {P : Program} {w : World} {K : PySem.W.Frag} {mg : Str → Option Value} {base : Heap} {C : Addr}
theorem sc__law_holds : FnScope ["_law_tree_here", "_law_row", "_law_k", "_law_both_so"] ["_law_tree_here", "_law_row"] (defScope (sT 78)) := ⟨rfl, rfl, rfl, by decide +kernel, rfl, by decide +kernel, by decide +kernel⟩
abbrev spHolds (K : PySem.W.Frag) (n : Nat) : Sp := spF (fun p : K54.T Str × Log => hm p.1 < n ∧ p.2.length ≤ 1000) (fun p => [TreeP K p.1, LogP K p.2]) (fun p => Bo (holds p.1 p.2))
theorem cl_law_holds (T : Txt K mg) (F : DefAt K mg "_law_holds" (sT 78)) : ∀ n, Cl P w K mg base "_law_holds" ["_law_tree_here", "_law_row"] (n + 1) (spHolds K n)
  | 0 => by
    refine cl_of F sc__law_holds (fun _ _ _ _ _ _ us hl => match us, hl with | [_, _], _ => rfl) (fun _ => rfl) fun f cdv A outer s H E p vs hr hp hA => ?_
    exact absurd hp.1 (Nat.not_lt_zero _)
  | n + 1 => by
    have c__law_holds := cl_law_holds T F n
    refine cl_of F sc__law_holds (fun _ _ _ _ _ _ us hl => match us, hl with | [_, _], _ => rfl) (fun _ => rfl) fun f cdv A outer s H E p vs hr hp hA => ?_
    obtain ⟨t, z⟩ := p
    obtain ⟨v1, v2, rfl, h1, h2⟩ := al2 hA
    obtain ⟨hd, hz⟩ := hp
    have hz : z.length ≤ 1000 := hz
    refine ⟨_, (pss_cons (ps_if (pt_cmpR op_eq (pe_ix (kIxT K rfl) (pv 0) pe_int (fun _ _ => rfl)) pe_str (nomark _)) (pss_one (ps_ret (pe_cmpR (kIn K rfl) (pe_ix (kIxT K rfl) (pv 0) pe_int (fun _ _ => rfl)) (pv 1) (by rfl)))) pss_nil) (pss_cons (ps_if (pt_cmpR (kIn K rfl) (pe_ix (kIxT K rfl) (pv 0) pe_int (fun _ _ => rfl)) (pe_tup (pa_cons pe_str (pa_cons pe_str pa_nil))) (by rfl)) (pss_one (ps_ret (pe_cmpR op_eq (pe_ix (kIxT K rfl) (pv 0) pe_int (fun _ _ => rfl)) pe_str (nomark _)))) pss_nil) (pss_cons (ps_if (pt_cmpR op_eq (pe_ix (kIxT K rfl) (pv 0) pe_int (fun _ _ => rfl)) pe_str (nomark _)) (pss_cons (ps_if (pt_cmpR op_eq (pe_ix (kIxT K rfl) (pv 0) pe_int (fun _ _ => rfl)) pe_int (nomark _)) (pss_one (ps_ret pe_bl)) pss_nil) (pss_one (ps_ret (pe_cl c__law_holds hr (pa_cons (pe_tup (pa_cons pe_str (pa_cons (pe_ix (kIxT K rfl) (pv 0) pe_int (fun _ _ => rfl)) (pa_cons (pe_tup (pa_cons pe_str (pa_cons (pe_ix (kIxT K rfl) (pv 0) pe_int (fun _ _ => rfl)) (pa_cons (pe_op op_sub (pe_ix (kIxT K rfl) (pv 0) pe_int (fun _ _ => rfl)) pe_int) pa_nil)))) pa_nil)))) (pa_cons (pv 1) pa_nil)))))) pss_nil) (pss_cons (ps_if (pt_cmpR op_eq (pe_ix (kIxT K rfl) (pv 0) pe_int (fun _ _ => rfl)) pe_str (nomark _)) (pss_one (ps_ret (pe_callB (kAny K rfl rfl) (by rfl) T.any (by decide +kernel) (pa_cons (pe_lc (own := [("_law_k", 2)]) (g := gName 2) (tt := tYes) (by rfl) sc__law_holds.nd (pi_range1 (by rfl) T.range (pa_cons (pe_op op_add (pe_callB (kLen K rfl) (by rfl) T.len (by decide +kernel) (pa_cons (pv 1) pa_nil)) pe_int) pa_nil)) (blkOk_by (own := [("_law_k", 2)]) (N := ["_law_tree_here", "_law_row", "_law_k", "_law_both_so"]) (sc := defScope (sT 78)) (by decide +kernel)) (fun _ _ _ _ _ => (pg_name (i := 2) sc__law_holds.nd rfl (by first | exact Or.inl rfl | exact Or.inr rfl))) (fun _ _ _ _ _ => pts_nil) (fun _ _ _ _ _ => (pe_and (pe_cl c__law_holds hr (pa_cons (pe_ix (kIxT K rfl) (pv 0) pe_int (fun _ _ => rfl)) (pa_cons (pe_slice (kSlT K rfl) (pv 1) po_none (po_some (pv 2))) pa_nil))) (pe_one (pe_cl c__law_holds hr (pa_cons (pe_ix (kIxT K rfl) (pv 0) pe_int (fun _ _ => rfl)) (pa_cons (pe_slice (kSlT K rfl) (pv 1) (po_some (pv 2)) po_none) pa_nil))))))) pa_nil)))) pss_nil) (pss_cons (ps_set (i := 3) sc__law_holds.nd rfl (by first | exact Or.inl rfl | exact Or.inr rfl) (pe_lst (pa_cons (pe_cl c__law_holds hr (pa_cons (pe_ix (kIxT K rfl) (pv 0) pe_int (fun _ _ => rfl)) (pa_cons (pv 1) pa_nil))) (pa_cons (pe_cl c__law_holds hr (pa_cons (pe_ix (kIxT K rfl) (pv 0) pe_int (fun _ _ => rfl)) (pa_cons (pv 1) pa_nil))) pa_nil)))) (pss_one (ps_ret (pe_ifExp (pt_cmpR op_eq (pe_ix (kIxT K rfl) (pv 0) pe_int (fun _ _ => rfl)) pe_str (nomark _)) (pe_callB (kAll K rfl rfl) (by rfl) T.all (by decide +kernel) (pa_cons (pv 3) pa_nil)) (pe_callB (kAny K rfl rfl) (by rfl) T.any (by decide +kernel) (pa_cons (pv 3) pa_nil)))))))))), fun Q q => ?_⟩
    have hT : ∀ {H1}, Ex H H1 → Er (tVar 0) (start ["_law_tree_here", "_law_row", "_law_k", "_law_both_so"] [v1, v2]) H1 (TreeP K t) := fun e => er_var rfl ((TreeP K t).up e h1)
    have hZ : ∀ {H1}, Ex H H1 → Er (tVar 1) (start ["_law_tree_here", "_law_row", "_law_k", "_law_both_so"] [v1, v2]) H1 (LogP K z) := fun e => er_var rfl ((LogP K z).up e h2)
    have hH : ∀ {H1}, Ex H H1 → Er (tOp (rIxT K) (tVar 0) (tC (.int 0))) (start ["_law_tree_here", "_law_row", "_law_k", "_law_both_so"] [v1, v2]) H1 (Sy (headS t)) := fun e => er_head (hT e)
    have in01 : ∀ {H1} {y : Str}, headS t = y → Ex H H1 → EvT (tTest (tOp (rIn K false) (tOp (rIxT K) (tVar 0) (tC (.int 0))) (tTup (tCons (tC (.str "0")) (tCons (tC (.str "1")) tNil))))) (start ["_law_tree_here", "_law_row", "_law_k", "_law_both_so"] [v1, v2]) H1 (inV (.str y) [.str "0", .str "1"]) := fun ey e => et_inU (by rw [← ey]; exact hH e) (eu_2 er_is er_is) rfl rfl
    have eq : ∀ {H1} {x y : Str}, headS t = y → Ex H H1 → EvT (tTest (tOp rEq (tOp (rIxT K) (tVar 0) (tC (.int 0))) (tC (.str x)))) (start ["_law_tree_here", "_law_row", "_law_k", "_law_both_so"] [v1, v2]) H1 (decide (y = x)) := fun ey e => et_testR (er_eqS (by rw [← ey]; exact hH e) er_is)
    have kid : ∀ {a : K54.T Str} {i : Nat} {Rs : List Pr} {H1}, TreeP K t = Tup K Rs → Rs[i]? = some (TreeP K a) → Ex H H1 → Er (tOp (rIxT K) (tVar 0) (tC (.int (i : Int)))) (start ["_law_tree_here", "_law_row", "_law_k", "_law_both_so"] [v1, v2]) H1 (TreeP K a) := fun e1 e2 e => er_ixT (by rw [← e1]; exact hT e) er_is e2
    cases t with
    | seen s =>
      refine q_whenT (eq (y := "seen") rfl (Ex.refl H)) (by decide +kernel) fun H1 e1 => ?_
      exact s_retR (er_inLog (er_ixT (i := 1) (hT e1) er_is rfl) (hZ e1)) fun u H2 e2 r => q u H2 (e1.trans e2) r
    | one =>
      refine q_whenF (eq (y := "1") rfl (Ex.refl H)) (by decide +kernel) fun H1 e1 => ?_
      refine q_whenT (in01 (y := "1") rfl e1) (by decide +kernel) fun H2 e2 => ?_
      exact s_retR (R := Bo true) (er_as (er_eqS (hH (e1.trans e2)) er_is) fun v H3 _ r => by rw [show v = _ from r]; exact congrArg V.bl (by decide +kernel)) fun u H3 e3 r => q u H3 ((e1.trans e2).trans e3) r
    | zero =>
      refine q_whenF (eq (y := "0") rfl (Ex.refl H)) (by decide +kernel) fun H1 e1 => ?_
      refine q_whenT (in01 (y := "0") rfl e1) (by decide +kernel) fun H2 e2 => ?_
      exact s_retR (R := Bo false) (er_as (er_eqS (hH (e1.trans e2)) er_is) fun v H3 _ r => by rw [show v = _ from r]; exact congrArg V.bl (by decide +kernel)) fun u H3 e3 r => q u H3 ((e1.trans e2).trans e3) r
    | thn a b =>
      have hda : hm a < n := Nat.lt_of_le_of_lt (Nat.le_max_left (hm a) (hm b)) (Nat.lt_of_succ_lt_succ hd)
      have hdb : hm b < n := Nat.lt_of_le_of_lt (Nat.le_max_right (hm a) (hm b)) (Nat.lt_of_succ_lt_succ hd)
      refine q_whenF (eq (y := ">>") rfl (Ex.refl H)) (by decide +kernel) fun H1 e1 => ?_
      refine q_whenF (in01 (y := ">>") rfl e1) (by decide +kernel) fun H2 e2 => ?_
      refine q_whenF (eq (y := ">>") rfl (e1.trans e2)) (by decide +kernel) fun H3 e3 => ?_
      have e13 := (e1.trans e2).trans e3
      refine q_whenT (eq (y := ">>") rfl e13) (by decide +kernel) fun H4 e4 => ?_
      have e14 := e13.trans e4
      refine s_retR (R := Bo (cuts (holds a) (holds b) z)) (er_any (items := List.range (z.length + 1)) (f := fun k => holds a (z.take k) && holds b (z.drop k)) (er_mapR (fun k => Bo (holds a (z.take k) && holds b (z.drop k))) (ea_1 (er_as (er_add (er_lenM (hZ e14)) er_is) fun v H5 _ r => r)) (fun _ => im_is) (by omega) (fun _ => rfl) fun k H5 hk e5 => ?_)) fun u H5 e5 r => q u H5 (e14.trans e5) r
      have hv1 : (TreeP K (.thn a b)).r H5 v1 := (TreeP K (.thn a b)).up (e14.trans e5) h1
      have hv2 : (LogP K z).r H5 v2 := (LogP K z).up (e14.trans e5) h2
      refine er_andV (er_call (a, z.take k) ⟨hda, Nat.le_trans (by rw [List.length_take]; exact Nat.min_le_right _ _) hz⟩ (ea_2 (er_ixT (i := 1) (er_var rfl hv1) er_is rfl) (er_takeM (er_var rfl hv2) (er_var rfl rfl)))) fun _ =>
        er_call (b, z.drop k) ⟨hdb, Nat.le_trans (by rw [List.length_drop]; exact Nat.sub_le _ _) hz⟩ (ea_2 (er_ixT (i := 2) (er_var rfl hv1) er_is rfl) (er_dropM (er_var rfl hv2) (er_var rfl rfl)))
    | alt a b =>
      have hda : hm a < n := Nat.lt_of_le_of_lt (Nat.le_max_left (hm a) (hm b)) (Nat.lt_of_succ_lt_succ hd)
      have hdb : hm b < n := Nat.lt_of_le_of_lt (Nat.le_max_right (hm a) (hm b)) (Nat.lt_of_succ_lt_succ hd)
      refine q_whenF (eq (y := "|") rfl (Ex.refl H)) (by decide +kernel) fun H1 e1 => ?_
      refine q_whenF (in01 (y := "|") rfl e1) (by decide +kernel) fun H2 e2 => ?_
      refine q_whenF (eq (y := "|") rfl (e1.trans e2)) (by decide +kernel) fun H3 e3 => ?_
      have e13 := (e1.trans e2).trans e3
      refine q_whenF (eq (y := "|") rfl e13) (by decide +kernel) fun H4 e4 => ?_
      have e14 := e13.trans e4
      refine q_asgR (R := Lst K ([holds a z, holds b z].map Bo)) (er_lst (ea_2 (er_call (a, z) ⟨hda, hz⟩ (ea_2 (er_ixT (i := 1) (hT e14) er_is rfl) (hZ e14))) (er_call (b, z) ⟨hdb, hz⟩ (ea_2 (er_ixT (i := 2) (hT e14) er_is rfl) (hZ e14)))) (by show 2 ≤ 100000; decide)) fun y H5 e5 ry => ?_
      have hH5 : Er (tOp (rIxT K) (tVar 0) (tC (.int 0))) ((start ["_law_tree_here", "_law_row", "_law_k", "_law_both_so"] [v1, v2]).set 2 (some y)) H5 (Sy "|") := er_head (t := .alt a b) (er_var rfl ((TreeP K (.alt a b)).up (e14.trans e5) h1))
      refine s_retR (R := Bo (holds (.alt a b) z)) (er_if (et_testR (er_eqS hH5 er_is)) (fun hb => ?_) fun hb => ?_) fun u H6 e6 r => q u H6 ((e14.trans e5).trans e6) r
      · exact absurd hb (by decide +kernel)
      · have := er_any (K := K) (items := [holds a z, holds b z]) (f := id) (te := tVar 2) (σ := (start ["_law_tree_here", "_law_row", "_law_k", "_law_both_so"] [v1, v2]).set 2 (some y)) (H := H5) (er_var rfl ry)
        rwa [show ([holds a z, holds b z].any id) = holds (.alt a b) z by simp [holds]] at this
    | all a b =>
      have hda : hm a < n := Nat.lt_of_le_of_lt (Nat.le_max_left (hm a) (hm b)) (Nat.lt_of_succ_lt_succ hd)
      have hdb : hm b < n := Nat.lt_of_le_of_lt (Nat.le_max_right (hm a) (hm b)) (Nat.lt_of_succ_lt_succ hd)
      refine q_whenF (eq (y := "&") rfl (Ex.refl H)) (by decide +kernel) fun H1 e1 => ?_
      refine q_whenF (in01 (y := "&") rfl e1) (by decide +kernel) fun H2 e2 => ?_
      refine q_whenF (eq (y := "&") rfl (e1.trans e2)) (by decide +kernel) fun H3 e3 => ?_
      have e13 := (e1.trans e2).trans e3
      refine q_whenF (eq (y := "&") rfl e13) (by decide +kernel) fun H4 e4 => ?_
      have e14 := e13.trans e4
      refine q_asgR (R := Lst K ([holds a z, holds b z].map Bo)) (er_lst (ea_2 (er_call (a, z) ⟨hda, hz⟩ (ea_2 (er_ixT (i := 1) (hT e14) er_is rfl) (hZ e14))) (er_call (b, z) ⟨hdb, hz⟩ (ea_2 (er_ixT (i := 2) (hT e14) er_is rfl) (hZ e14)))) (by show 2 ≤ 100000; decide)) fun y H5 e5 ry => ?_
      have hH5 : Er (tOp (rIxT K) (tVar 0) (tC (.int 0))) ((start ["_law_tree_here", "_law_row", "_law_k", "_law_both_so"] [v1, v2]).set 2 (some y)) H5 (Sy "&") := er_head (t := .all a b) (er_var rfl ((TreeP K (.all a b)).up (e14.trans e5) h1))
      refine s_retR (R := Bo (holds (.all a b) z)) (er_if (et_testR (er_eqS hH5 er_is)) (fun hb => ?_) fun hb => ?_) fun u H6 e6 r => q u H6 ((e14.trans e5).trans e6) r
      · have := er_all (K := K) (items := [holds a z, holds b z]) (f := id) (te := tVar 2) (σ := (start ["_law_tree_here", "_law_row", "_law_k", "_law_both_so"] [v1, v2]).set 2 (some y)) (H := H5) (er_var rfl ry)
        rwa [show ([holds a z, holds b z].all id) = holds (.all a b) z by simp [holds]] at this
      · exact absurd hb (by decide +kernel)
    | tms a m =>
      refine q_whenF (eq (y := "*") rfl (Ex.refl H)) (by decide +kernel) fun H1 e1 => ?_
      refine q_whenF (in01 (y := "*") rfl e1) (by decide +kernel) fun H2 e2 => ?_
      refine q_whenT (eq (y := "*") rfl (e1.trans e2)) (by decide +kernel) fun H3 e3 => ?_
      have e13 := (e1.trans e2).trans e3
      have hn : ∀ {H1}, Ex H H1 → Er (tOp (rIxT K) (tVar 0) (tC (.int 2))) (start ["_law_tree_here", "_law_row", "_law_k", "_law_both_so"] [v1, v2]) H1 (In (m : Int)) := fun e => er_ixT (i := 2) (hT e) er_is rfl
      cases m with
      | zero =>
        refine q_whenT (b := decide (((0 : Nat) : Int) = 0)) (et_testR (er_eqI (hn e13) er_is)) (by decide) fun H4 e4 => ?_
        exact s_retR (R := Bo true) er_is fun u H5 e5 r => q u H5 ((e13.trans e4).trans e5) r
      | succ m =>
        refine q_whenF (b := decide (((m + 1 : Nat) : Int) = 0)) (et_testR (er_eqI (hn e13) er_is)) (by rw [decide_eq_false_iff_not]; omega) fun H4 e4 => ?_
        have e14 := e13.trans e4
        have hda : hm (K54.T.thn a (.tms a m)) < n := Nat.lt_of_lt_of_le (hm_tms a m) (Nat.le_of_lt_succ hd)
        refine s_retR (R := Bo (holds (.thn a (.tms a m)) z)) (er_call ((K54.T.thn a (.tms a m), z) : K54.T Str × Log) ⟨hda, hz⟩ (ea_2 (er_tup (ea_3 er_is (er_ixT (i := 1) (hT e14) er_is rfl) (er_tup (ea_3 er_is (er_ixT (i := 1) (hT e14) er_is rfl) (er_as (er_sub (hn e14) er_is) fun v H5 _ r => ?_)) (by show 3 ≤ 100000; decide))) (by show 3 ≤ 100000; decide)) (hZ e14))) fun u H5 e5 r => q u H5 (e14.trans e5) r
        rw [show v = _ from r]
        show V.int _ = V.int _
        congr 1
        omega
end
end K54
/-! KX: _law_words_right. -/
set_option Elab.async false
set_option linter.all false
set_option maxRecDepth 100000
set_option maxHeartbeats 1000000
namespace K54
open PySem PySem.W PySem.Calls PyProof.Rows L2 Evl
/-! ### the rule of few short words -/
def WOk (b : List Log) : Prop := b.length < 13 ∧ ∀ w ∈ b, LOk w ∧ w.length ≤ 8
theorem WOk.bok {b : List Log} (h : WOk b) : BOk b := ⟨Nat.lt_trans h.1 (by decide), fun l hl => (h.2 l hl).1⟩
theorem WOk.fewer {b : List Log} (h : WOk b) (w : Log) : WOk (fewer b w) := ⟨Nat.lt_of_le_of_lt (List.length_filter_le _ _) h.1, fun v hv => h.2 v (mem_fewer.mp hv).1⟩
theorem bok_one {l : Log} (h : LOk l) : BOk [l] := ⟨by show 1 < 64; decide, fun x hx => by rw [List.mem_singleton.mp hx]; exact h⟩
theorem word_fold : ∀ (r : Log) (t : K54.T Str) (v : Log), FitT t → tbase logO t = [v] → (∀ s ∈ v ++ r, nameOk s.cps.toList = true) → (v ++ r).length ≤ 1000 →
    FitT (r.foldl (fun t y => .thn t (.seen y)) t) ∧ dep (r.foldl (fun t y => .thn t (.seen y)) t) ≤ dep t + r.length
  | [], t, v, h, _, _, _ => ⟨h, Nat.le_refl _⟩
  | y :: r, t, v, h, e, hn, hl => by
    have e1 : tbase logO (.thn t (.seen y)) = [v ++ [y]] := by
      show thnB logO (tbase logO t) [[y]] = _
      rw [e, thn_single]
    have hl' : v.length + (r.length + 1) ≤ 1000 := by simpa using hl
    have hv : LOk v := ⟨by omega, fun s hs => hn s (List.mem_append_left _ hs)⟩
    have hy : nameOk y.cps.toList = true := hn y (List.mem_append_right _ (List.mem_cons_self ..))
    have hy1 : LOk [y] := ⟨by show 1 ≤ 1000; decide, fun s hs => by rw [List.mem_singleton.mp hs]; exact hy⟩
    have hvy : LOk (v ++ [y]) := ⟨by rw [List.length_append]; show v.length + 1 ≤ 1000; omega, fun s hs => by
      rcases List.mem_append.mp hs with hs | hs
      · exact hv.2 s hs
      · rw [List.mem_singleton.mp hs]; exact hy⟩
    have hf : FitT (.thn t (.seen y)) := ⟨h, hy, by rw [e]; exact bok_one hv, bok_one hy1, by rw [e]; exact bok_one hvy⟩
    obtain ⟨h1, h2⟩ := word_fold r (.thn t (.seen y)) (v ++ [y]) hf e1 (by rw [List.append_assoc]; exact hn) (by rw [List.append_assoc]; exact hl)
    refine ⟨h1, Nat.le_trans h2 ?_⟩
    show Nat.max (dep t) 0 + 1 + r.length ≤ dep t + (r.length + 1)
    rw [show Nat.max (dep t) 0 = dep t from Nat.max_eq_left (Nat.zero_le _)]
    omega
theorem word_fit {w : Log} (h : LOk w) : FitT (wordT w) ∧ dep (wordT w) ≤ w.length := by
  cases w with
  | nil => exact ⟨trivial, Nat.zero_le _⟩
  | cons x r =>
    obtain ⟨h1, h2⟩ := word_fold r (.seen x) [x] (h.2 x (List.mem_cons_self ..)) rfl h.2 h.1
    refine ⟨h1, Nat.le_trans h2 ?_⟩
    show 0 + r.length ≤ r.length + 1
    omega
theorem rule_fold : ∀ (r : List Log) (t : K54.T Str), FitT t → (tbase logO t).length + r.length < 64 → (∀ l ∈ r, LOk l ∧ l.length ≤ 8) → dep t ≤ 8 + (20 - r.length) → r.length ≤ 20 →
    FitT (r.foldl (fun t v => .alt t (wordT v)) t) ∧ dep (r.foldl (fun t v => .alt t (wordT v)) t) ≤ 28
  | [], t, h, _, _, hd, _ => ⟨h, hd⟩
  | v :: r, t, h, hl, hr, hd, hz => by
    have hv := hr v (List.mem_cons_self ..)
    obtain ⟨f1, d1⟩ := word_fit hv.1
    have hb := bok_tree h
    rw [List.length_cons] at hl hd hz
    have e1 : tbase logO (wordT v) = [v] := tbase_word v
    have hab : BOk (tbase logO t ++ tbase logO (wordT v)) := by
      rw [e1]
      refine ⟨by rw [List.length_append]; show _ + 1 < 64; omega, fun l hl => ?_⟩
      rcases List.mem_append.mp hl with hl | hl
      · exact hb.2 l hl
      · rw [List.mem_singleton.mp hl]; exact hv.1
    refine rule_fold r (.alt t (wordT v)) ⟨h, f1, hab⟩ ?_ (fun l hl => hr l (List.mem_cons_of_mem _ hl)) ?_ (by omega)
    · have : (tbase logO (.alt t (wordT v))).length ≤ (tbase logO t ++ tbase logO (wordT v)).length := leastOf_len _
      rw [e1, List.length_append] at this
      have h2 : ([v] : List Log).length = 1 := rfl
      omega
    · show Nat.max (dep t) (dep (wordT v)) + 1 ≤ _
      have : Nat.max (dep t) (dep (wordT v)) ≤ 8 + (20 - (r.length + 1)) := Nat.max_le.mpr ⟨hd, by omega⟩
      omega
theorem rule_ok {b : List Log} (h : WOk b) : RuleOk (ruleOfT b) := by
  cases b with
  | nil => exact ⟨trivial, by show 0 < 30; decide⟩
  | cons x r =>
    have hx := h.2 x (List.mem_cons_self ..)
    have hl := h.1
    rw [List.length_cons] at hl
    obtain ⟨f1, d1⟩ := word_fit hx.1
    obtain ⟨f2, d2⟩ := rule_fold r (wordT x) f1 (by rw [tbase_word]; show 1 + r.length < 64; omega) (fun l hl => h.2 l (List.mem_cons_of_mem _ hl)) (by omega) (by omega)
    exact ⟨f2, by show dep (r.foldl (fun t v => .alt t (wordT v)) (wordT x)) < 30; omega⟩
/-- one word left out: what parts it from the whole -/
theorem parting_fewer {b : List Log} (h : IsB logO b) {w : Log} (hw : w ∈ b) : partingM (fewer b w) b = some w := by
  unfold partingM
  rw [outside_fewer, outside_word h hw]
  rfl
section
variable {X : Cx} {C : Addr}
theorem opNotIn (M : MHas X.prog X.w X.K X.mg X.base C) (hr : Room 38 X.A) : OpR X (compareOp .NotIn) (rOwnIn C true (spHas X.K C)) := op_ownC (neg := true) M hr
theorem opIn (M : MHas X.prog X.w X.K X.mg X.base C) (hr : Room 38 X.A) : OpR X (compareOp .In) (rOwnIn C false (spHas X.K C)) := op_ownC (neg := false) M hr
theorem kIn' {P : Program} {w : World} {mg : Str → Option Value} {base : Heap} (K : PySem.W.Frag) (M : MHas P w K mg base C) (hr : Room 38 X.A) (h : X.K = K) (h1 : X.prog = P) (h2 : X.w = w) (h3 : X.mg = mg) (h4 : X.base = base) : OpR X (compareOp .In) (rOwnIn C false (spHas K C)) := by
  subst h h1 h2 h3 h4
  exact opIn M hr
theorem er_has {K : PySem.W.Frag} {σ : L2.St} {H : Hp} {ta tb : TE} {neg : Bool} {t : K54.T Str} {l : Log} (ha : Er ta σ H (LogP K l)) (hb : Er tb σ H (RuleP K C t)) (ht : RuleOk t) (hl : l.length ≤ 1000) :
    Er (tOp (rOwnIn C neg (spHas K C)) ta tb) σ H (Bo (if neg = true then !does (tbase logO t) l else does (tbase logO t) l)) := er_op ha hb fun x y H1 _ r1 r2 Q q => by
  obtain ⟨a, dx, z, e1, h1, h2⟩ := id r2
  refine ⟨a, dx, _, e1, h1, (t, l), ⟨ht, hl⟩, ⟨r2, r1, trivial⟩, fun v H' e r => ?_⟩
  refine ⟨does (tbase logO t) l, r, q _ H' e ?_⟩
  cases neg <;> rfl
end
section
variable {P : Program} {w : World} {K : PySem.W.Frag} {mg : Str → Option Value} {base : Heap} {C : Addr}
theorem er_parting {σ : L2.St} {H : Hp} {ta tb : TE} {a b : K54.T Str} {l : Log} {E : XK} (ha : Er ta σ H (RuleP K C a)) (hb : Er tb σ H (RuleP K C b)) (oa : RuleOk a) (ob : RuleOk b) (h : partingM (tbase logO a) (tbase logO b) = some l) : Er (tCall (spParting K C) [] E (tCons ta (tCons tb tNil))) σ H (LogP K l) := by
  have := er_call (E := E) (out := fun p : K54.T Str × K54.T Str => OptP K (partingM (tbase logO p.1) (tbase logO p.2))) (pre := fun p => RuleOk p.1 ∧ RuleOk p.2) (ins := fun p => [RuleP K C p.1, RuleP K C p.2]) (a, b) ⟨oa, ob⟩ (ea_2 ha hb)
  dsimp only at this
  rw [h] at this
  exact this
theorem er_outside {σ : L2.St} {H : Hp} {ta tb : TE} {a b : List Log} {l : Log} {E : XK} (ha : Er ta σ H (LogsP K a)) (hb : Er tb σ H (LogsP K b)) (oa : BOk a) (ob : BOk b) (h : outsideM a b = some l) : Er (tCall (spOutside K) [] E (tCons ta (tCons tb tNil))) σ H (LogP K l) := by
  have := er_call (E := E) (out := fun p : List Log × List Log => OptP K (outsideM p.1 p.2)) (pre := fun p => BOk p.1 ∧ BOk p.2) (ins := fun p => [LogsP K p.1, LogsP K p.2]) (a, b) ⟨oa, ob⟩ (ea_2 ha hb)
  dsimp only at this
  rw [h] at this
  exact this
theorem et_alike {σ : L2.St} {H : Hp} {ta tb : TE} {a b : K54.T Str} {E : XK} {r : Bool} (ha : Er ta σ H (RuleP K C a)) (hb : Er tb σ H (RuleP K C b)) (oa : RuleOk a) (ob : RuleOk b) (h : decide (tbase logO a = tbase logO b) = r) : EvT (tB (tCall (spAlike K C) [] E (tCons ta (tCons tb tNil)))) σ H r := by
  have := er_call (E := E) (out := fun p : K54.T Str × K54.T Str => Bo (decide (tbase logO p.1 = tbase logO p.2))) (pre := fun p => RuleOk p.1 ∧ RuleOk p.2) (ins := fun p => [RuleP K C p.1, RuleP K C p.2]) (a, b) ⟨oa, ob⟩ (ea_2 ha hb)
  dsimp only at this
  rw [h] at this
  exact et_BR this
theorem et_goes {σ : L2.St} {H : Hp} {ta tb : TE} {a b : K54.T Str} {E : XK} {r : Bool} (ha : Er ta σ H (RuleP K C a)) (hb : Er tb σ H (RuleP K C b)) (oa : RuleOk a) (ob : RuleOk b) (h : isInside (tbase logO b) (tbase logO a) = r) : EvT (tB (tCall (spGoes K C) [] E (tCons ta (tCons tb tNil)))) σ H r := by
  have := er_call (E := E) (out := fun p : K54.T Str × K54.T Str => Bo (isInside (tbase logO p.2) (tbase logO p.1))) (pre := fun p => RuleOk p.1 ∧ RuleOk p.2) (ins := fun p => [RuleP K C p.1, RuleP K C p.2]) (a, b) ⟨oa, ob⟩ (ea_2 ha hb)
  dsimp only at this
  rw [h] at this
  exact et_BR this
theorem et_inside {σ : L2.St} {H : Hp} {ta tb : TE} {a b : List Log} {E : XK} {r : Bool} (ha : Er ta σ H (LogsP K a)) (hb : Er tb σ H (LogsP K b)) (oa : BOk a) (ob : BOk b) (h : isInside a b = r) : EvT (tB (tCall (spIsInside K) [] E (tCons ta (tCons tb tNil)))) σ H r := by
  have := er_call (E := E) (out := fun p : List Log × List Log => Bo (isInside p.1 p.2)) (pre := fun p => p.1.length ≤ 1000 ∧ p.2.length ≤ 1000) (ins := fun p => [LogsP K p.1, LogsP K p.2]) (a, b) ⟨Nat.le_trans (Nat.le_of_lt oa.1) (by decide), Nat.le_trans (Nat.le_of_lt ob.1) (by decide)⟩ (ea_2 ha hb)
  dsimp only at this
  rw [h] at this
  exact et_BR this
theorem sc__law_words_right : FnScope ["_law_host", "_law_words_so", "_law_row", "_law_k", "_law_fewer", "_law_own", "_law_left"] ["_law_host", "_law_words_so"] (defScope (sT 79)) := ⟨rfl, rfl, rfl, by decide +kernel, rfl, by decide +kernel, by decide +kernel⟩
structure WrOk (t : K54.T Str) : Prop where
  r : RuleOk t
  x : TxOk t
  b : WOk (tbase logO t)
abbrev spWords (K : PySem.W.Frag) (C : Addr) : Sp := spF WrOk (fun t => [RuleP K C t, LogsP K (tbase logO t)]) (fun _ => Bo true)
abbrev CWords (P : Program) (w : World) (K : PySem.W.Frag) (mg : Str → Option Value) (base : Heap) (C : Addr) := Cl P w K mg base "_law_words_right" ["_law_host", "_law_words_so"] 65 (spWords K C)
theorem cl_law_words_right (T : Txt K mg) (R : RuleF K mg C) (MH : MHas P w K mg base C) (MT : PText P w K mg base C) (c_is_base : CIsBase P w K mg base) (c_alike : CAlike P w K mg base C) (c_rule_of : CRuleOf P w K mg base C) (c_rule_in : CRuleIn P w K mg base C) (c_parting : CParting P w K mg base C) (c_outside : COutside P w K mg base) (c_goes_with : CGoes P w K mg base C) (c_is_inside : CIsInside P w K mg base) (F : DefAt K mg "_law_words_right" (sT 79)) : CWords P w K mg base C := by
  refine cl_of F sc__law_words_right (fun _ _ _ _ _ _ us hl => match us, hl with | [_, _], _ => rfl) (fun _ => rfl) fun f cdv A outer s H E t vs hr hp hA => ?_
  obtain ⟨v1, v2, rfl, h1, h2⟩ := al2 hA
  refine ⟨_, (pss_cons (ps_if (PW.pt (pw_or (pt_not (pt_val (pe_cl c_is_base (hr.mono (by first | decide | omega)) (pa_cons (pv 1) pa_nil)))) (pw_or (pt_not (pt_val (pe_cl c_alike (hr.mono (by first | decide | omega)) (pa_cons (pe_cl c_rule_of (hr.mono (by first | decide | omega)) (pa_cons (pv 1) pa_nil)) (pa_cons (pv 0) pa_nil))))) (pw_or1 (pt_not (pt_val (pe_cl c_alike (hr.mono (by first | decide | omega)) (pa_cons (pe_cl c_rule_in (hr.mono (by first | decide | omega)) (pa_cons (pe_text R MT (hr.mono (by decide)) (pv 0) rfl) pa_nil)) (pa_cons (pv 0) pa_nil))))))))) (pss_one (ps_ret pe_bl)) pss_nil) (pss_cons (ps_for PassesOwn.never rfl (kPiT K rfl (pv 1)) (pg_name (i := 2) sc__law_words_right.nd rfl (by first | exact Or.inl rfl | exact Or.inr rfl)) (pss_cons (ps_if (pt_cmpR (opNotIn MH (hr.mono (by decide))) (pv 2) (pv 0) (by rfl)) (pss_one (ps_ret pe_bl)) pss_nil) (pss_cons (ps_if (pt_val (pe_callB (kAny K rfl rfl) (by rfl) T.any (by decide +kernel) (pa_cons (pe_lc (own := [("_law_k", 3)]) (g := gName 3) (tt := tYes) (by rfl) sc__law_words_right.nd (pi_range1 (by rfl) T.range (pa_cons (pe_callB (kLen K rfl) (by rfl) T.len (by decide +kernel) (pa_cons (pv 2) pa_nil)) pa_nil)) (blkOk_by (own := [("_law_k", 3)]) (N := ["_law_host", "_law_words_so", "_law_row", "_law_k", "_law_fewer", "_law_own", "_law_left"]) (sc := defScope (sT 79)) (by decide +kernel)) (fun _ _ _ _ _ => (pg_name (i := 3) sc__law_words_right.nd rfl (by first | exact Or.inl rfl | exact Or.inr rfl))) (fun _ _ _ _ _ => pts_nil) (fun _ _ _ _ _ => (pe_cmpR (kIn' K MH (hr.mono (by decide)) rfl rfl rfl rfl rfl) (pe_op (kCatT K rfl) (pe_slice (kSlT K rfl) (pv 2) po_none (po_some (pv 3))) (pe_slice (kSlT K rfl) (pv 2) (po_some (pe_op op_add (pv 3) pe_int)) po_none)) (pv 0) (by rfl)))) pa_nil))) (pss_one (ps_ret pe_bl)) pss_nil) (pss_cons (ps_set (i := 4) sc__law_words_right.nd rfl (by first | exact Or.inl rfl | exact Or.inr rfl) (pe_callTy (kTupleOf K rfl) (by rfl) T.tuple (by decide +kernel) (pa_cons (pe_lc (own := [("_law_own", 5)]) (g := gName 5) (by rfl) sc__law_words_right.nd (kPiT K rfl (pv 1)) (blkOk_by (own := [("_law_own", 5)]) (N := ["_law_host", "_law_words_so", "_law_row", "_law_k", "_law_fewer", "_law_own", "_law_left"]) (sc := defScope (sT 79)) (by decide +kernel)) (fun _ _ _ _ _ => (pg_name (i := 5) sc__law_words_right.nd rfl (by first | exact Or.inl rfl | exact Or.inr rfl))) (fun _ _ _ _ _ => pts_one (pt_cmpR (kNeD K hr.units rfl) (pv 5) (pv 2) (nomark _))) (fun _ _ _ _ _ => (pv 5))) pa_nil))) (pss_cons (ps_set (i := 6) sc__law_words_right.nd rfl (by first | exact Or.inl rfl | exact Or.inr rfl) (pe_cl c_rule_of (hr.mono (by first | decide | omega)) (pa_cons (pv 4) pa_nil))) (pss_cons (ps_if (PW.pt (pw_or (pt_cmpR (kNeD K hr.units rfl) (pe_cl c_parting (hr.mono (by first | decide | omega)) (pa_cons (pv 6) (pa_cons (pv 0) pa_nil))) (pv 2) (nomark _)) (pw_or1 (pt_cmpR (kNeD K hr.units rfl) (pe_cl c_outside (hr.mono (by first | decide | omega)) (pa_cons (pv 1) (pa_cons (pv 4) pa_nil))) (pv 2) (nomark _))))) (pss_one (ps_ret pe_bl)) pss_nil) (pss_cons (ps_if (PW.pt (pw_or (pt_val (pe_cl c_alike (hr.mono (by first | decide | omega)) (pa_cons (pv 6) (pa_cons (pv 0) pa_nil)))) (pw_or1 (pt_not (pt_val (pe_cl c_goes_with (hr.mono (by first | decide | omega)) (pa_cons (pv 0) (pa_cons (pv 6) pa_nil)))))))) (pss_one (ps_ret pe_bl)) pss_nil) (pss_one (ps_if (PW.pt (pw_or (pt_val (pe_cl c_goes_with (hr.mono (by first | decide | omega)) (pa_cons (pv 6) (pa_cons (pv 0) pa_nil)))) (pw_or1 (pt_not (pt_val (pe_cl c_is_inside (hr.mono (by first | decide | omega)) (pa_cons (pv 4) (pa_cons (pv 1) pa_nil)))))))) (pss_one (ps_ret pe_bl)) pss_nil))))))))) (pss_one (ps_ret pe_bl)))), fun Q q => ?_⟩
  have hp : WrOk t := hp
  have hB : IsB logO (tbase logO t) := tbase_isB t
  have hW := hp.b
  have hR := hp.r
  have hbo := hW.bok
  have hv1 : ∀ {H1} {y2 y3 y4 y5 y6 : Option V}, Ex H H1 → Er (tVar 0) [some v1, some v2, y2, y3, y4, y5, y6] H1 (RuleP K C t) := fun e => er_var rfl ((RuleP K C t).up e h1)
  have hv2 : ∀ {H1} {y2 y3 y4 y5 y6 : Option V}, Ex H H1 → Er (tVar 1) [some v1, some v2, y2, y3, y4, y5, y6] H1 (LogsP K (tbase logO t)) := fun e => er_var rfl ((LogsP K _).up e h2)
  refine q_whenF (b := !true || (!true || !true)) (et_or (et_not (et_is (et_BR (er_call (tbase logO t) hbo (ea_1 (hv2 (Ex.refl H))))) (decide_eq_true (leastOf_fix hB)))) fun _ => et_or (et_not (et_is (et_BR (er_call (ruleOfT (tbase logO t), t) ⟨rule_ok hW, hR⟩ (ea_2 (er_call (tbase logO t) hbo (ea_1 (hv2 (Ex.refl H)))) (hv1 (Ex.refl H))))) (decide_eq_true (ruleOf_base hB)))) fun _ =>
    et_not (et_is (et_BR (er_call (t, t) ⟨hR, hR⟩ (ea_2 (er_call t hp.x (ea_1 (er_text (hv1 (Ex.refl H)) ⟨hp.x, hR.2⟩))) (hv1 (Ex.refl H))))) (decide_eq_true rfl))) rfl fun H1 e1 => ?_
  refine q_forT' (tbase logO t) (LogP K) (fun _ => im_log) (hv2 e1) fun H2 e2 => ?_
  refine ⟨fun i σ' H' => Ex H2 H' ∧ ∃ y2 y3 y4 y5 y6, σ' = [some v1, some v2, y2, y3, y4, y5, y6], ⟨Ex.refl H2, none, none, none, none, none, rfl⟩, fun i σ' H' hx => kp_ex hx.1, fun i wd u σ' H3 hw hx hu => ?_, fun σ' H3 hx => ?_⟩
  · obtain ⟨ex0, y2, y3, y4, y5, y6, rfl⟩ := hx
    have ex := (e1.trans e2).trans ex0
    have hm : wd ∈ tbase logO t := List.mem_of_getElem? hw
    have hwo := hW.2 wd hm
    have hF := hW.fewer wd
    have hu' : ∀ {H4} {y3 y4 y5 y6 : Option V}, Ex H3 H4 → Er (tVar 2) [some v1, some v2, some u, y3, y4, y5, y6] H4 (LogP K wd) := fun e => er_var rfl ((LogP K wd).up e hu)
    refine q_whenF (b := !true) (et_is (et_testR (er_has (neg := true) (hu' (Ex.refl H3)) (hv1 ex) hR hwo.1.1)) (by rw [if_pos rfl, does_self hm])) rfl fun H4 e4 => ?_
    have ex4 := ex.trans e4
    refine q_whenF (b := false) (et_is (et_BR (er_any (items := List.range wd.length) (f := fun k => does (tbase logO t) (wd.take k ++ wd.drop (k + 1))) (er_mapR (fun k => Bo (does (tbase logO t) (wd.take k ++ wd.drop (k + 1)))) (ea_1 (er_lenM (hu' e4))) (fun _ => im_is) (by have := hwo.2; omega) (fun _ => rfl) fun k H5 hk e5 => ?_))) ?_) rfl fun H5 e5 => ?_
    · have hu5 : (LogP K wd).r H5 u := (LogP K wd).up (e4.trans e5) hu
      have hh5 : (RuleP K C t).r H5 v1 := (RuleP K C t).up (ex4.trans e5) h1
      have hl : (wd.take k ++ wd.drop (k + 1)).length ≤ 1000 := by
        have := hwo.2
        rw [List.length_append, List.length_take, List.length_drop]
        omega
      exact er_has (neg := false) (er_catM (er_takeM (er_var rfl hu5) (er_var rfl rfl)) (er_dropM (k := k + 1) (er_var rfl hu5) (er_as (er_add (er_var rfl rfl) er_is) fun v H6 _ r => r)) (by
        have := hwo.2
        rw [List.length_take, List.length_drop]
        omega)) (er_var rfl hh5) hR hl
    · rw [List.any_eq_false]
      intro k hk
      rw [cut_not hB hm (List.mem_range.mp hk)]
      decide
    have ex5 := ex4.trans e5
    have e35 := e4.trans e5
    refine q_asgR (R := LogsP K (fewer (tbase logO t) wd)) (er_tupL (er_lcT (tbase logO t) (LogP K) (fun v => decide (v ≠ wd)) (LogP K) (hv2 ex5) (fun _ => im_log) (Nat.le_trans (Nat.le_of_lt hbo.1) (by decide)) (fun _ => rfl) (fun v x H6 hv e6 hx => ?_) fun v x H6 hv e6 hx _ => er_var rfl hx)) fun uf H6 e6 rf => ?_
    · exact et_is (et_testR (er_neL (er_var rfl hx) (er_var rfl ((LogP K wd).up (e35.trans e6) hu)) (hW.2 v hv).1 hwo.1)) (by simp)
    have ex6 := ex5.trans e6
    have e36 := e35.trans e6
    refine q_asgR (R := RuleP K C (ruleOfT (fewer (tbase logO t) wd))) (er_call (fewer (tbase logO t) wd) hF.bok (ea_1 (er_var rfl rf))) fun ul H7 e7 rl => ?_
    have ex7 := ex6.trans e7
    have e37 := e36.trans e7
    have hrl := rule_ok hF
    have eL : tbase logO (ruleOfT (fewer (tbase logO t) wd)) = fewer (tbase logO t) wd := ruleOf_base (fewer_isB hB wd)
    have hl : ∀ {H8} {y3 y5 : Option V}, Ex H7 H8 → Er (tVar 6) [some v1, some v2, some u, y3, some uf, y5, some ul] H8 (RuleP K C (ruleOfT (fewer (tbase logO t) wd))) := fun e => er_var rfl ((RuleP K C _).up e rl)
    have hf : ∀ {H8} {y3 y5 : Option V}, Ex H7 H8 → Er (tVar 4) [some v1, some v2, some u, y3, some uf, y5, some ul] H8 (LogsP K (fewer (tbase logO t) wd)) := fun e => er_var rfl ((LogsP K _).up (e7.trans e) rf)
    have part : partingM (tbase logO (ruleOfT (fewer (tbase logO t) wd))) (tbase logO t) = some wd := by rw [eL]; exact parting_fewer hB hm
    have outs : outsideM (tbase logO t) (fewer (tbase logO t) wd) = some wd := outside_word hB hm
    refine q_whenF (b := !decide (wd = wd) || !decide (wd = wd)) (et_or (et_testR (er_neL (er_parting (hl (Ex.refl H7)) (hv1 ex7) hrl hR part) (hu' e37) hwo.1 hwo.1)) fun _ => et_testR (er_neL (er_outside (hv2 ex7) (hf (Ex.refl H7)) hbo hF.bok outs) (hu' e37) hwo.1 hwo.1)) (by simp) fun H8 e8 => ?_
    have ex8 := ex7.trans e8
    have a1 : decide (tbase logO (ruleOfT (fewer (tbase logO t) wd)) = tbase logO t) = false := by rw [eL]; exact decide_eq_false (fewer_ne hm)
    have a2 : isInside (tbase logO (ruleOfT (fewer (tbase logO t) wd))) (tbase logO t) = true := by rw [eL]; exact fewer_inside wd
    have a3 : isInside (tbase logO t) (tbase logO (ruleOfT (fewer (tbase logO t) wd))) = false := by rw [eL]; exact not_inside hB hm
    refine q_whenF (b := false || !true) (et_or (et_alike (hl e8) (hv1 ex8) hrl hR a1) fun _ => et_not (et_goes (hv1 ex8) (hl e8) hR hrl a2)) rfl fun H9 e9 => ?_
    have ex9 := ex8.trans e9
    have e79 := e8.trans e9
    refine Evl.s_if (b := false || !true) (et_or (et_goes (hl e79) (hv1 ex9) hrl hR a3) fun _ => et_not (et_inside (hf e79) (hv2 ex9) hF.bok hbo (fewer_inside wd))) (fun z => by cases z) fun _ H10 e10 => ?_
    exact ⟨(((((((ex0.trans e4).trans e5).trans e6).trans e7).trans e8).trans e9).trans e10), some u, y3, some uf, y5, some ul, rfl⟩
  · obtain ⟨ex0, y2, y3, y4, y5, y6, rfl⟩ := hx
    exact s_retR (R := Bo true) er_is fun v H4 e4 r => q v H4 (((e1.trans e2).trans ex0).trans e4) r
end
end K54
/-! KY: _law_by_hand_right. -/
set_option Elab.async false
set_option linter.all false
set_option maxRecDepth 100000
set_option maxHeartbeats 1000000
namespace K54
open PySem PySem.W PySem.Calls PyProof.Rows L2 Evl
instance decLOk (l : Log) : Decidable (LOk l) := by unfold LOk; infer_instance
instance decBOk (b : List Log) : Decidable (BOk b) := by unfold BOk; infer_instance
instance decWOk (b : List Log) : Decidable (WOk b) := by unfold WOk; infer_instance
instance decThn (a b : List Log) : Decidable (ThnOk a b) := decidable_of_iff (BOk a ∧ BOk b ∧ BOk (a.flatMap fun w => b.map fun m => w ++ m)) ⟨fun h => ⟨h.1, h.2.1, h.2.2⟩, fun h => ⟨h.fa, h.fb, h.fab⟩⟩
instance decBoth (a b : List Log) : Decidable (BothOk a b) := decidable_of_iff ((∀ w ∈ a, w.length ≤ 2) ∧ (∀ w ∈ b, w.length ≤ 2) ∧ BOk (a.flatMap fun w => b.flatMap fun m => leastBoth logO w m)) ⟨fun h => ⟨h.1, h.2.1, h.2.2⟩, fun h => ⟨h.fa, h.fb, h.fab⟩⟩
instance decTimes (b : List Log) (n : Nat) : Decidable (TimesOk b n) := by unfold TimesOk; infer_instance
def decFit : (t : K54.T Str) → Decidable (FitT t)
  | .seen s => inferInstanceAs (Decidable (nameOk s.cps.toList = true))
  | .one => .isTrue trivial
  | .zero => .isTrue trivial
  | .thn a b => @instDecidableAnd _ _ (decFit a) (@instDecidableAnd _ _ (decFit b) (decThn _ _))
  | .alt a b => @instDecidableAnd _ _ (decFit a) (@instDecidableAnd _ _ (decFit b) (decBOk _))
  | .all a b => @instDecidableAnd _ _ (decFit a) (@instDecidableAnd _ _ (decFit b) (decBoth _ _))
  | .tms a n => @instDecidableAnd _ _ (decFit a) (@instDecidableAnd _ _ (decTimes _ _) (Nat.decLe _ _))
instance (t : K54.T Str) : Decidable (FitT t) := decFit t
def decTOk : (t : K54.T Str) → Decidable (TOk cpsS t)
  | .seen s => inferInstanceAs (Decidable (nameOk (cpsS s) = true))
  | .one => .isTrue trivial
  | .zero => .isTrue trivial
  | .thn a b => @instDecidableAnd _ _ (decTOk a) (decTOk b)
  | .alt a b => @instDecidableAnd _ _ (decTOk a) (decTOk b)
  | .all a b => @instDecidableAnd _ _ (decTOk a) (decTOk b)
  | .tms a n => @instDecidableAnd _ _ (decTOk a) (Nat.decLe _ _)
instance (t : K54.T Str) : Decidable (TOk cpsS t) := decTOk t
instance (t : K54.T Str) : Decidable (TxOk t) := by unfold TxOk; infer_instance
instance (t : K54.T Str) : Decidable (RuleOk t) := by unfold RuleOk; infer_instance
instance (t : K54.T Str) : Decidable (WrOk t) := decidable_of_iff (RuleOk t ∧ TxOk t ∧ WOk (tbase logO t)) ⟨fun h => ⟨h.1, h.2.1, h.2.2⟩, fun h => ⟨h.r, h.x, h.b⟩⟩
def thH : K54.T Str := .thn (.all (.seen "a") (.seen "b")) (.alt (.seen "a") (.seen "c"))
def wdH : List Log := [["a", "b", "a"], ["a", "b", "c"], ["b", "a", "a"], ["b", "a", "c"]]
def rwH : List Log := [["c", "b", "a", "c"], ["c", "a", "c", "b"], ["a", "a", "b", "b"], ["b", "b", "a", "b", "a"]]
theorem thH_base : tbase logO thH = wdH := by decide +kernel
theorem thH_ok : WrOk thH := by decide +kernel
theorem one_ok : WrOk .one := by decide +kernel
theorem one_base : tbase logO (.one : K54.T Str) = [[]] := rfl
theorem rw_does : rwH.map (fun l => does wdH l) = [true, false, false, true] := by decide +kernel
theorem wd1_ok : BOk (wdH.drop 1) ∧ RuleOk (ruleOfT (wdH.drop 1)) := by decide +kernel
theorem told_is : partingM (tbase logO (ruleOfT (wdH.drop 1))) (tbase logO thH) = some (["a", "b", "a"] : Log) := by decide +kernel
theorem altb_ok : RuleOk (.alt thH (.seen "b")) := by decide +kernel
theorem altb_base : tbase logO (.alt thH (.seen "b")) = ([["b"]] : List Log) := by decide +kernel
theorem rw_len : ∀ l ∈ rwH, l.length ≤ 1000 := by decide +kernel
section
variable {P : Program} {w : World} {K : PySem.W.Frag} {mg : Str → Option Value} {base : Heap} {C : Addr}
abbrev CSame (P : Program) (w : World) (K : PySem.W.Frag) (mg : Str → Option Value) (base : Heap) := Cl P w K mg base "_law_same" ["_law_got", "_law_due"] 6 (spSame K 5)
theorem sme_log {n : Nat} {l : Log} (h : l.length ≤ 40000) : Sme K (n + 2) (LogP K l) := .seq _ false _ (fun R hR => by
  obtain ⟨x, _, rfl⟩ := List.mem_map.mp hR
  exact .sy _ x) (by rw [List.length_map]; exact h)
theorem sme_logs {n : Nat} {b : List Log} (h : b.length ≤ 40000) (hl : ∀ l ∈ b, l.length ≤ 40000) : Sme K (n + 3) (LogsP K b) := .seq _ false _ (fun R hR => by
  obtain ⟨x, hx, rfl⟩ := List.mem_map.mp hR
  exact sme_log (hl x hx)) (by rw [List.length_map]; exact h)
theorem bok_sme {n : Nat} {b : List Log} (h : BOk b) : Sme K (n + 3) (LogsP K b) := sme_logs (Nat.le_trans (Nat.le_of_lt h.1) (by decide)) fun l hl => Nat.le_trans (h.2 l hl).1 (by decide)
theorem ea_log {σ : L2.St} {H : Hp} : ∀ (l : Log), Ea (l.foldr (fun s t => tCons (tC (.str s)) t) tNil) σ H (l.map Sy)
  | [] => ea_nilR
  | s :: l => ea_consR er_is (ea_log l)
theorem er_log {σ : L2.St} {H : Hp} (l : Log) (h : l.length ≤ 100000) : Er (tTup (l.foldr (fun s t => tCons (tC (.str s)) t) tNil)) σ H (LogP K l) := er_tup (ea_log l) (by rw [List.length_map]; exact h)
theorem ea_logs {σ : L2.St} {H : Hp} : ∀ (b : List Log), (∀ l ∈ b, l.length ≤ 100000) → Ea (b.foldr (fun l t => tCons (tTup (l.foldr (fun s t => tCons (tC (.str s)) t) tNil)) t) tNil) σ H (b.map (LogP K))
  | [], _ => ea_nilR
  | l :: b, h => ea_consR (er_log l (h l (List.mem_cons_self ..))) (ea_logs b fun x hx => h x (List.mem_cons_of_mem _ hx))
theorem er_base {σ : L2.St} {H : Hp} {ta : TE} {t : K54.T Str} {E : XK} {b : List Log} (ha : Er ta σ H (RuleP K C t)) (ht : RuleOk t) (hb : tbase logO t = b) : Er (tCall (spBase K C) [] E (tCons ta tNil)) σ H (LogsP K b) := by
  have := er_call (E := E) (out := fun t : K54.T Str => LogsP K (tbase logO t)) (pre := RuleOk) (ins := fun t => [RuleP K C t]) t ht (ea_1 ha)
  rw [hb] at this
  exact this
theorem er_same {σ : L2.St} {H : Hp} {ta tb : TE} {E : XK} {R : Pr} (h : Sme K 5 R) (ha : Er ta σ H R) (hb : Er tb σ H R) : Er (tCall (spSame K 5) [] E (tCons ta (tCons tb tNil))) σ H (Bo true) := er_call (E := E) (out := fun _ => Bo true) (pre := fun R : Pr => Sme K 5 R) (ins := fun R => [R, R]) R h (ea_2 ha hb)
theorem er_words {σ : L2.St} {H : Hp} {ta tb : TE} {E : XK} {t : K54.T Str} {b : List Log} (h : WrOk t) (e : tbase logO t = b) (ha : Er ta σ H (RuleP K C t)) (hb : Er tb σ H (LogsP K b)) : Er (tCall (spWords K C) [] E (tCons ta (tCons tb tNil))) σ H (Bo true) := by
  subst e
  exact er_call (E := E) (out := fun _ => Bo true) (pre := WrOk) (ins := fun t => [RuleP K C t, LogsP K (tbase logO t)]) t h (ea_2 ha hb)
theorem er_seen {σ : L2.St} {H : Hp} {ta : TE} {E : XK} {s : Str} (hs : nameOk s.cps.toList = true) (ha : Er ta σ H (Sy s)) : Er (tCall (spSeen K C) [] E (tCons ta tNil)) σ H (RuleP K C (.seen s)) := er_call (E := E) (out := fun s : Str => RuleP K C (.seen s)) (pre := fun s => nameOk s.cps.toList = true) (ins := fun s => [Sy s]) s hs (ea_1 ha)
theorem sc__law_by_hand_right : FnScope ["_law_host", "_law_words_so", "_law_rows", "_law_row", "_law_told"] [] (defScope (sT 80)) := ⟨rfl, rfl, rfl, by decide +kernel, rfl, by decide +kernel, by decide +kernel⟩
abbrev spHand (K : PySem.W.Frag) : Sp := spF (fun _ : Unit => True) (fun _ => []) (fun _ => Bo true)
abbrev CHand (P : Program) (w : World) (K : PySem.W.Frag) (mg : Str → Option Value) (base : Heap) := Cl P w K mg base "_law_by_hand_right" [] 66 (spHand K)
theorem cl_law_by_hand_right (T : Txt K mg) (O : Ops P w K mg base C) (MH : MHas P w K mg base C) (c_seen : CSeen P w K mg base C) (c_nothing : CNothing P w K mg base C) (c_base : CBase P w K mg base C) (c_parting : CParting P w K mg base C) (c_rule_of : CRuleOf P w K mg base C) (c__law_same : CSame P w K mg base) (c__law_words_right : CWords P w K mg base C) (F : DefAt K mg "_law_by_hand_right" (sT 80)) : CHand P w K mg base := by
  refine cl_of F sc__law_by_hand_right (fun _ _ _ _ _ _ us hl => match us, hl with | [], _ => rfl) (fun _ => rfl) fun f cdv A outer s H E x vs hr hp hA => ?_
  match vs, hA with
  | [], _ =>
    refine ⟨_, (pss_cons (ps_set (i := 0) sc__law_by_hand_right.nd rfl (by first | exact Or.inl rfl | exact Or.inr rfl) (pe_op (opThn O (hr.mono (by decide))) (pe_op (opAll O (hr.mono (by decide))) (pe_cl c_seen (hr.mono (by first | decide | omega)) (pa_cons pe_str pa_nil)) pe_str) (pe_op (opAlt O (hr.mono (by decide))) (pe_cl c_seen (hr.mono (by first | decide | omega)) (pa_cons pe_str pa_nil)) pe_str))) (pss_cons (ps_set (i := 1) sc__law_by_hand_right.nd rfl (by first | exact Or.inl rfl | exact Or.inr rfl) (pe_tup (pa_cons (pe_tup (pa_cons pe_str (pa_cons pe_str (pa_cons pe_str pa_nil)))) (pa_cons (pe_tup (pa_cons pe_str (pa_cons pe_str (pa_cons pe_str pa_nil)))) (pa_cons (pe_tup (pa_cons pe_str (pa_cons pe_str (pa_cons pe_str pa_nil)))) (pa_cons (pe_tup (pa_cons pe_str (pa_cons pe_str (pa_cons pe_str pa_nil)))) pa_nil)))))) (pss_cons (ps_if (PW.pt (pw_or (pt_not (pt_val (pe_cl c__law_same (hr.mono (by first | decide | omega)) (pa_cons (pe_cl c_base (hr.mono (by first | decide | omega)) (pa_cons (pv 0) pa_nil)) (pa_cons (pv 1) pa_nil))))) (pw_or1 (pt_not (pt_val (pe_cl c__law_words_right (hr.mono (by first | decide | omega)) (pa_cons (pv 0) (pa_cons (pv 1) pa_nil)))))))) (pss_one (ps_ret pe_bl)) pss_nil) (pss_cons (ps_set (i := 2) sc__law_by_hand_right.nd rfl (by first | exact Or.inl rfl | exact Or.inr rfl) (pe_lst (pa_cons (pe_tup (pa_cons pe_str (pa_cons pe_str (pa_cons pe_str (pa_cons pe_str pa_nil))))) (pa_cons (pe_tup (pa_cons pe_str (pa_cons pe_str (pa_cons pe_str (pa_cons pe_str pa_nil))))) (pa_cons (pe_tup (pa_cons pe_str (pa_cons pe_str (pa_cons pe_str (pa_cons pe_str pa_nil))))) (pa_cons (pe_tup (pa_cons pe_str (pa_cons pe_str (pa_cons pe_str (pa_cons pe_str (pa_cons pe_str pa_nil)))))) pa_nil)))))) (pss_cons (ps_if (pt_not (pt_val (pe_cl c__law_same (hr.mono (by first | decide | omega)) (pa_cons (pe_lc (own := [("_law_row", 3)]) (g := gName 3) (tt := tYes) (by rfl) sc__law_by_hand_right.nd (kPiL K rfl (pv 2)) (blkOk_by (own := [("_law_row", 3)]) (N := ["_law_host", "_law_words_so", "_law_rows", "_law_row", "_law_told"]) (sc := defScope (sT 80)) (by decide +kernel)) (fun _ _ _ _ _ => (pg_name (i := 3) sc__law_by_hand_right.nd rfl (by first | exact Or.inl rfl | exact Or.inr rfl))) (fun _ _ _ _ _ => pts_nil) (fun _ _ _ _ _ => (pe_cmpR (kIn' K MH (hr.mono (by decide)) rfl rfl rfl rfl rfl) (pv 3) (pv 0) (by rfl)))) (pa_cons (pe_lst (pa_cons pe_bl (pa_cons pe_bl (pa_cons pe_bl (pa_cons pe_bl pa_nil))))) pa_nil))))) (pss_one (ps_ret pe_bl)) pss_nil) (pss_cons (ps_set (i := 4) sc__law_by_hand_right.nd rfl (by first | exact Or.inl rfl | exact Or.inr rfl) (pe_cl c_parting (hr.mono (by first | decide | omega)) (pa_cons (pe_cl c_rule_of (hr.mono (by first | decide | omega)) (pa_cons (pe_slice (kSlT K rfl) (pv 1) (po_some pe_int) po_none) pa_nil)) (pa_cons (pv 0) pa_nil)))) (pss_one (ps_ret (pe_and (pe_cl c__law_same (hr.mono (by first | decide | omega)) (pa_cons (pe_lst (pa_cons (pv 4) (pa_cons (pe_cl c_base (hr.mono (by first | decide | omega)) (pa_cons (pe_op (opAlt O (hr.mono (by decide))) (pv 0) pe_str) pa_nil)) pa_nil))) (pa_cons (pe_lst (pa_cons (pe_tup (pa_cons pe_str (pa_cons pe_str (pa_cons pe_str pa_nil)))) (pa_cons (pe_tup (pa_cons (pe_tup (pa_cons pe_str pa_nil)) pa_nil)) pa_nil))) pa_nil))) (pe_one (pe_cl c__law_words_right (hr.mono (by first | decide | omega)) (pa_cons (pe_cl0 c_nothing (hr.mono (by first | decide | omega))) (pa_cons (pe_tup (pa_cons (pe_tup pa_nil) pa_nil)) pa_nil))))))))))))), fun Q q => ?_⟩
    have na : nameOk ("a" : Str).cps.toList = true := by decide +kernel
    have nb : nameOk ("b" : Str).cps.toList = true := by decide +kernel
    have nc : nameOk ("c" : Str).cps.toList = true := by decide +kernel
    refine q_asgR (R := RuleP K C thH) (er_bin (mk := .thn) (o1 := .inl (.all (.seen "a") (.seen "b"))) (o2 := .inl (.alt (.seen "a") (.seen "c")))
      (er_bin (mk := .all) (o1 := .inl (.seen "a")) (o2 := .inr "b") (er_seen na er_is) er_is trivial nb (.inl rfl))
      (er_bin (mk := .alt) (o1 := .inl (.seen "a")) (o2 := .inr "c") (er_seen na er_is) er_is trivial nc (.inl rfl)) trivial trivial (.inl rfl)) fun vh H1 e1 rh => ?_
    refine q_asgR (R := LogsP K wdH) (er_tup (ea_logs wdH (by decide +kernel)) (by rw [List.length_map]; decide +kernel)) fun vw H2 e2 rw2 => ?_
    have hvh : ∀ {H3} {y2 y3 y4 : Option V}, Ex H2 H3 → Er (tVar 0) [some vh, some vw, y2, y3, y4] H3 (RuleP K C thH) := fun e => er_var rfl ((RuleP K C thH).up (e2.trans e) rh)
    have hvw : ∀ {H3} {y2 y3 y4 : Option V}, Ex H2 H3 → Er (tVar 1) [some vh, some vw, y2, y3, y4] H3 (LogsP K wdH) := fun e => er_var rfl ((LogsP K wdH).up e rw2)
    have hbw : BOk wdH := by decide +kernel
    refine q_whenF (b := !true || !true) (et_or (et_not (et_BR (er_same (bok_sme hbw) (er_base (hvh (Ex.refl H2)) thH_ok.r thH_base) (hvw (Ex.refl H2))))) fun _ => et_not (et_BR (er_words thH_ok thH_base (hvh (Ex.refl H2)) (hvw (Ex.refl H2))))) rfl fun H3 e3 => ?_
    refine q_asgR (R := LogsL K rwH) (er_lst (ea_logs rwH (by decide +kernel)) (by rw [List.length_map]; decide +kernel)) fun vr H4 e4 rr => ?_
    have e24 := e3.trans e4
    refine q_whenF (b := !true) (et_not (et_BR (er_same (R := SeqP K true ([true, false, false, true].map Bo)) (.seq _ true _ (fun R hR => by
      obtain ⟨x, _, rfl⟩ := List.mem_map.mp hR
      exact .bl _ x) (by decide)) (?_ : Er _ _ H4 (Lst K ([true, false, false, true].map Bo))) (er_lst (K := K) (Rs := [true, false, false, true].map Bo) (ea_consR er_is (ea_consR er_is (ea_2 er_is er_is))) (by decide))))) rfl fun H5 e5 => ?_
    · rw [← rw_does, List.map_map]
      refine er_mapL rwH (LogP K) (Bo ∘ fun l => does wdH l) (er_var rfl rr) (fun _ => im_is) (by decide +kernel) (fun _ => rfl) fun l x H5 hl e5 hx => ?_
      have := er_has (C := C) (neg := false) (t := thH) (er_var (i := 3) (σ := [some vh, some vw, some vr, some x, none]) rfl hx) (er_var (i := 0) rfl ((RuleP K C thH).up ((e2.trans e24).trans e5) rh)) thH_ok.r (rw_len l hl)
      rw [thH_base] at this
      exact this
    have e25 := e24.trans e5
    refine q_asgR (R := LogP K ["a", "b", "a"]) (er_parting (er_call (wdH.drop 1) wd1_ok.1 (ea_1 (er_dropM (k := 1) (hvw e25) er_is))) (hvh e25) wd1_ok.2 thH_ok.r told_is) fun vt H6 e6 rt => ?_
    have e26 := e25.trans e6
    refine s_retR (R := Bo (true && true)) (er_andV (er_same (R := SeqP K true [LogP K ["a", "b", "a"], LogsP K [["b"]]]) (.seq _ true _ (fun R hR => ?_) (by show 2 ≤ 40000; decide)) (er_lst (K := K) (ea_2 (er_var rfl rt) (er_base (er_bin (mk := .alt) (o1 := .inl thH) (o2 := .inr "b") (hvh e26) er_is trivial nb (.inl rfl)) altb_ok altb_base)) (by show 2 ≤ 100000; decide)) (er_lst (K := K) (ea_2 (er_log ["a", "b", "a"] (by decide)) (er_tup (ea_logs [["b"]] (by decide +kernel)) (by show 1 ≤ 100000; decide))) (by show 2 ≤ 100000; decide))) fun _ =>
      er_words one_ok one_base (er_call () trivial ea_nilR) (er_tup (ea_logs [[]] (by decide +kernel)) (by show 1 ≤ 100000; decide))) fun v H7 e7 r => q v H7 (((e1.trans e2).trans e26).trans e7) r
    rcases List.mem_cons.mp hR with e | hR
    · rw [e]
      exact sme_log (by decide)
    · rw [List.mem_singleton.mp hR]
      exact bok_sme (by decide +kernel)
end
end K54
/-! KZ: the law's box: _law_take, _law_of. -/
set_option Elab.async false
set_option linter.all false
set_option maxRecDepth 100000
set_option maxHeartbeats 1000000
namespace K54
open PySem PySem.W PySem.Calls PyProof.Rows L2 Evl
/-- the box at b, asked at most n times from its own numbers -/
def Bx (H : Hp) (b : Addr) (n : Nat) : Prop := ∃ a0 a1 a2 : Int, H b = some (.lst [.int a0, .int a1, .int a2]) ∧ 0 ≤ a2 ∧ a2 ≤ n
theorem Bx.up {H H' : Hp} {b : Addr} {n : Nat} (e : Ex H H') (h : Bx H b n) : Bx H' b n := by
  obtain ⟨a0, a1, a2, h1, h2⟩ := h
  exact ⟨a0, a1, a2, e _ _ h1, h2⟩
theorem Bx.le {H : Hp} {b : Addr} {n m : Nat} (h : Bx H b n) (hm : n ≤ m) : Bx H b m := by
  obtain ⟨a0, a1, a2, h1, h2, h3⟩ := h
  exact ⟨a0, a1, a2, h1, h2, by omega⟩
theorem bx_kp {H H' : Hp} {b : Addr} {n m : Nat} (x : ExB b H H') (h : Bx H b n) (h' : Bx H' b m) : Kp H H' := by
  obtain ⟨_, _, _, h1, _⟩ := h
  obtain ⟨_, _, _, h2, _⟩ := h'
  exact exb_kp x h1 h2
section
variable {σ : L2.St} {H : Hp} {K : PySem.W.Frag} {ta tb te : TE}
theorem er_mod {i j : Int} (ha : Er ta σ H (In i)) (hb : Er tb σ H (In j)) (h : 0 < j) : Er (tOp (rI (fun _ j => 0 < j) fun i j => .int (i % j)) ta tb) σ H (In (i % j)) := er_I (C := fun _ j => 0 < j) (g := fun i j => .int (i % j)) ha hb h
theorem er_int {i : Int} (ha : Er ta σ H (In i)) : Er (tCB (fun xs H Q => (∃ i, xs = [V.int i] ∧ Q (.int i) H) ∨ ∃ k, xs = [V.bl k] ∧ Q (.int (if k = true then 1 else 0)) H) (tCons ta tNil)) σ H (In i) := er_cb (ea_1 ha) fun vs H1 _ hA Q q => by
  obtain ⟨v, rfl, r⟩ := al1 hA
  cases (show v = _ from r)
  exact .inl ⟨i, rfl, q _ H1 (Ex.refl H1) rfl⟩
theorem er_boxI {b : Addr} {xs : List V} {i : Nat} {v : V} (hb : H b = some (.lst xs)) (ha : Er ta σ H (Is (.ref b))) (hi : Er tb σ H (In (i : Int))) (h : xs[i]? = some v) : Er (tOp (rIxL K) ta tb) σ H (Is v) := er_op ha hi fun x y H1 e1 r1 r2 Q q => by
  cases (show x = _ from r1)
  cases (show y = _ from r2)
  exact ⟨b, xs, _, v, rfl, rfl, sq_of (e1 _ _ hb), atI_natV h, q v H1 (Ex.refl H1) rfl⟩
end
section
variable {P : Program} {w : World} {K : PySem.W.Frag} {mg : Str → Option Value} {base : Heap} {C : Addr}
theorem sc__law_take : FnScope ["_law_box_here", "_law_size_so", "_law_some", "_law_once", "_law_far", "_law_again"] ["_law_box_here", "_law_size_so"] (defScope (sT 67)) := ⟨rfl, rfl, rfl, by decide +kernel, rfl, by decide +kernel, by decide +kernel⟩
def spTake : Sp := fun vs H Q _ => ∃ (b : Addr) (n sz : Nat), vs = [.ref b, .int (sz : Int)] ∧ Bx H b n ∧ n ≤ 1000000 ∧ 0 < sz ∧ sz ≤ 1000000 ∧ ∀ H' (r : Nat), r < sz → ExB b H H' → Bx H' b (n + 1) → Q (.int (r : Int)) H'
abbrev CTake (P : Program) (w : World) (K : PySem.W.Frag) (mg : Str → Option Value) (base : Heap) := Cl P w K mg base "_law_take" ["_law_box_here", "_law_size_so"] 1 spTake
theorem cl_law_take (T : Txt K mg) (F : DefAt K mg "_law_take" (sT 67)) : CTake P w K mg base := by
  refine cl_any F sc__law_take (fun _ _ _ _ _ _ us hl => match us, hl with | [_, _], _ => rfl) (fun vs H Q E ⟨b, n, sz, e, _⟩ => by rw [e]; rfl) fun f cdv A outer s H E vs Q hr h => ?_
  obtain ⟨b, n, sz, rfl, hbx, hn, hsz, hsz2, q⟩ := h
  obtain ⟨a0, a1, a2, hb, h20, h2n⟩ := hbx
  refine ⟨_, (pss_cons (ps_if (pt_cmpR op_gt (pe_ix (kIxL K rfl) (pv 0) pe_int (fun _ _ => rfl)) pe_int (nomark _)) (pss_cons (ps_set (i := 2) sc__law_take.nd rfl (by first | exact Or.inl rfl | exact Or.inr rfl) (pe_op op_mod (pe_callTy call_int1 (by rfl) T.int (by decide +kernel) (pa_cons (pe_ix (kIxL K rfl) (pv 0) pe_int (fun _ _ => rfl)) pa_nil)) (pv 1))) (pss_cons (ps_asg (pe_op op_fdivN (pe_ix (kIxL K rfl) (pv 0) pe_int (fun _ _ => rfl)) (pv 1)) (pg_sub (pv 0) pe_int set_list)) (pss_one (ps_ret (pv 2))))) pss_nil) (pss_cons (ps_asg (pe_op op_add (pe_ix (kIxL K rfl) (pv 0) pe_int (fun _ _ => rfl)) pe_int) (pg_sub (pv 0) pe_int set_list)) (pss_cons (ps_set (i := 3) sc__law_take.nd rfl (by first | exact Or.inl rfl | exact Or.inr rfl) (pe_op op_mod (pe_callTy call_int1 (by rfl) T.int (by decide +kernel) (pa_cons (pe_op op_mul (pe_op op_add (pe_ix (kIxL K rfl) (pv 0) pe_int (fun _ _ => rfl)) (pe_op op_mul pe_int (pe_ix (kIxL K rfl) (pv 0) pe_int (fun _ _ => rfl)))) (pe_op op_add pe_int (pe_ix (kIxL K rfl) (pv 0) pe_int (fun _ _ => rfl)))) pa_nil)) pe_int)) (pss_cons (ps_set (i := 4) sc__law_take.nd rfl (by first | exact Or.inl rfl | exact Or.inr rfl) (pe_op op_add (pe_op op_mod (pe_callTy call_int1 (by rfl) T.int (by decide +kernel) (pa_cons (pv 3) pa_nil)) pe_int) pe_int)) (pss_cons (ps_set (i := 5) sc__law_take.nd rfl (by first | exact Or.inl rfl | exact Or.inr rfl) (pe_op op_mod (pe_callTy call_int1 (by rfl) T.int (by decide +kernel) (pa_cons (pe_op op_mul (pe_op op_add (pe_op op_add (pv 3) (pe_ix (kIxL K rfl) (pv 0) pe_int (fun _ _ => rfl))) (pe_op op_fdivN (pe_ix (kIxL K rfl) (pv 0) pe_int (fun _ _ => rfl)) pe_int)) (pv 4)) pa_nil)) pe_int)) (pss_one (ps_ret (pe_op op_mod (pe_callTy call_int1 (by rfl) T.int (by decide +kernel) (pa_cons (pe_op op_fdivN (pe_op op_mod (pe_callTy call_int1 (by rfl) T.int (by decide +kernel) (pa_cons (pe_op op_add (pe_op op_mul (pv 5) pe_int) (pv 3)) pa_nil)) pe_int) pe_int) pa_nil)) (pv 1))))))))), ?_⟩
  have hz0 : (0 : Int) < (sz : Int) := by omega
  have hbox : ∀ {H1} {y2 y3 y4 y5 : Option V}, Er (tVar 0) [some (.ref b), some (.int (sz : Int)), y2, y3, y4, y5] H1 (Is (.ref b)) := er_var rfl rfl
  have hsize : ∀ {H1} {y2 y3 y4 y5 : Option V}, Er (tVar 1) [some (.ref b), some (.int (sz : Int)), y2, y3, y4, y5] H1 (In (sz : Int)) := er_var rfl rfl
  refine q_when (b := decide ((0 : Int) < a0)) (et_testR (er_gt (er_boxI (i := 0) hb hbox er_is rfl) er_is)) (fun hp H1 e1 => ?_) (fun hp H1 e1 => ?_)
  · have hb1 := e1 _ _ hb
    refine q_asgR (er_mod (er_int (er_boxI (i := 0) (v := .int a0) hb1 hbox er_is rfl)) hsize hz0) fun v H2 e2 r2 => ?_
    cases (show v = _ from r2)
    have hb2 := e2 _ _ hb1
    refine Evl.q_setL (l := b) (j := 0) hb2 (ev_er (er_I (C := CDivN) (g := fun i j => .int (i.fdiv j)) (er_boxI (i := 0) (v := .int a0) hb2 hbox er_is rfl) hsize ⟨by omega, by omega⟩)) (ev_er hbox) ev_c (by show 0 < 3; decide) fun H3 e3 => ?_
    have h1 := Int.emod_nonneg a0 (show (sz : Int) ≠ 0 by omega)
    have h2 := Int.emod_lt_of_pos a0 hz0
    refine s_retR (R := In (a0 % (sz : Int))) (er_var rfl rfl) fun v H4 e4 r4 => ?_
    rw [show v = V.int (((a0 % (sz : Int)).toNat : Nat) : Int) by rw [show v = V.int (a0 % (sz : Int)) from r4, Int.toNat_of_nonneg h1]]
    refine q H4 (a0 % (sz : Int)).toNat (by omega) ((exb_upd (exb_ex ((e1.trans e2).trans e3))).trans (exb_ex e4)) (Bx.up e4 ⟨a0.fdiv (sz : Int), a1, a2, upd_same, h20, by omega⟩)
  · have hb1 := e1 _ _ hb
    refine Evl.q_setL (l := b) (j := 2) hb1 (ev_er (er_add (er_boxI (i := 2) (v := .int a2) hb1 hbox er_is rfl) er_is)) (ev_er hbox) ev_c (by show 2 < 3; decide) fun H2 e2 => ?_
    have hbx2 : (upd H2 b (.lst [.int a0, .int a1, .int (a2 + 1)])) b = some (.lst [.int a0, .int a1, .int (a2 + 1)]) := upd_same
    have x2 : ExB b H (upd H2 b (.lst [.int a0, .int a1, .int (a2 + 1)])) := exb_upd (exb_ex (e1.trans e2))
    show tSeq _ _ _ _ (upd H2 b (.lst [.int a0, .int a1, .int (a2 + 1)]))
    generalize (upd H2 b (.lst [.int a0, .int a1, .int (a2 + 1)])) = G at hbx2 x2
    have b1 : ∀ {H1} {y2 y3 y4 y5 : Option V}, Ex G H1 → Er (tOp (rIxL K) (tVar 0) (tC (.int 1))) [some (.ref b), some (.int (sz : Int)), y2, y3, y4, y5] H1 (In a1) := fun e => er_boxI (i := 1) (v := .int a1) (e _ _ hbx2) hbox er_is rfl
    have b2 : ∀ {H1} {y2 y3 y4 y5 : Option V}, Ex G H1 → Er (tOp (rIxL K) (tVar 0) (tC (.int 2))) [some (.ref b), some (.int (sz : Int)), y2, y3, y4, y5] H1 (In (a2 + 1)) := fun e => er_boxI (i := 2) (v := .int (a2 + 1)) (e _ _ hbx2) hbox er_is rfl
    have mulr : ∀ {i j : Int} {σ : L2.St} {H : Hp} {ta tb : TE}, Er ta σ H (In i) → Er tb σ H (In j) → (0 ≤ j ∧ j < 10000000) → Er (tOp (rI CMul fun i j => .int (i * j)) ta tb) σ H (In (i * j)) := fun ha hb h => er_I (C := CMul) (g := fun i j => .int (i * j)) ha hb (.inr ⟨by omega, by omega⟩)
    have mull : ∀ {i j : Int} {σ : L2.St} {H : Hp} {ta tb : TE}, Er ta σ H (In i) → Er tb σ H (In j) → (0 ≤ i ∧ i < 10000000) → Er (tOp (rI CMul fun i j => .int (i * j)) ta tb) σ H (In (i * j)) := fun ha hb h => er_I (C := CMul) (g := fun i j => .int (i * j)) ha hb (.inl ⟨by omega, by omega⟩)
    have fdv : ∀ {i j : Int} {σ : L2.St} {H : Hp} {ta tb : TE}, Er ta σ H (In i) → Er tb σ H (In j) → (0 < j ∧ j < 10000000) → Er (tOp (rI CDivN fun i j => .int (i.fdiv j)) ta tb) σ H (In (i.fdiv j)) := fun ha hb h => er_I (C := CDivN) (g := fun i j => .int (i.fdiv j)) ha hb ⟨by omega, by omega⟩
    refine q_asgR (er_mod (er_int (mulr (er_add (b1 (Ex.refl G)) (mull er_is (b2 (Ex.refl G)) (by decide))) (er_add er_is (b2 (Ex.refl G))) (by omega))) er_is (by decide)) fun v H3 e3 r3 => ?_
    cases (show v = _ from r3)
    generalize ((a1 + 48271 * (a2 + 1)) * (39373 + (a2 + 1))) % 2147483647 = once
    refine q_asgR (er_add (er_mod (er_int (er_var rfl rfl)) er_is (by decide)) er_is) fun v H4 e4 r4 => ?_
    cases (show v = _ from r4)
    have f1 := Int.emod_nonneg once (show (40009 : Int) ≠ 0 by decide)
    have f2 := Int.emod_lt_of_pos once (show (0 : Int) < 40009 by decide)
    generalize once % 40009 = fr at f1 f2
    refine q_asgR (er_mod (er_int (mulr (er_add (er_add (er_var rfl rfl) (b2 (e3.trans e4))) (fdv (b1 (e3.trans e4)) er_is (by decide))) (er_var rfl rfl) (by omega))) er_is (by decide)) fun v H5 e5 r5 => ?_
    cases (show v = _ from r5)
    generalize ((once + (a2 + 1) + a1.fdiv 1000003) * (fr + 7)) % 2147483629 = again
    refine s_retR (er_mod (er_int (fdv (er_mod (er_int (er_add (mulr (er_var rfl rfl) er_is (by decide)) (er_var rfl rfl))) er_is (by decide)) er_is (by decide))) hsize hz0) fun v H6 e6 r6 => ?_
    generalize (((again * 48271 + once) % 2147483587).fdiv 64) = z at r6
    have h1 := Int.emod_nonneg z (show (sz : Int) ≠ 0 by omega)
    have h2 := Int.emod_lt_of_pos z hz0
    rw [show v = V.int (((z % (sz : Int)).toNat : Nat) : Int) by rw [show v = V.int (z % (sz : Int)) from r6, Int.toNat_of_nonneg h1]]
    have e36 := ((e3.trans e4).trans e5).trans e6
    exact q H6 (z % (sz : Int)).toNat (by omega) (x2.trans (exb_ex e36)) (Bx.up e36 ⟨a0, a1, a2 + 1, hbx2, by omega, by omega⟩)
end
end K54
/-! LA: _law_of, _law_pick, _law_names, _law_event_row. -/
set_option Elab.async false
set_option linter.all false
set_option maxRecDepth 100000
set_option maxHeartbeats 1000000
namespace K54
open PySem PySem.W PySem.Calls PyProof.Rows L2 Evl
/-- things to choose from: a text's signs, a list's texts -/
def Goods (H : Hp) (b : Addr) (g : V) (ch : List Str) : Prop := (∃ l : Sym, g = .str (strL l) ∧ ch = l.map fun c => strL [c]) ∨ ∃ a, a ≠ b ∧ g = .ref a ∧ H a = some (.lst (ch.map V.str))
theorem Goods.up {H H' : Hp} {b : Addr} {g : V} {ch : List Str} (e : ExB b H H') (h : Goods H b g ch) : Goods H' b g ch := by
  rcases h with h | ⟨a, h1, h2, h3⟩
  · exact .inl h
  · exact .inr ⟨a, h1, h2, e _ _ h1 h3⟩
section
variable {σ : L2.St} {H : Hp} {K : PySem.W.Frag} {ta tb te : TE} {E : XK}
theorem t_take {b : Addr} {n sz : Nat} {Q : VK} (ha : Ev ta σ H (.ref b)) (hb : Er tb σ H (In (sz : Int))) (hx : Bx H b n) (hn : n ≤ 1000000) (h0 : 0 < sz) (h1 : sz ≤ 1000000) (q : ∀ H' (r : Nat), r < sz → ExB b H H' → Bx H' b (n + 1) → Q (.int (r : Int)) H') :
    tCall spTake [] E (tCons ta (tCons tb tNil)) σ H Q := ha H (Ex.refl H) _ fun H1 e1 => hb H1 e1 _ fun v H2 e2 r2 => by
  cases (show v = _ from r2)
  have e := e1.trans e2
  exact ⟨b, n, sz, rfl, hx.up e, hn, h0, h1, fun H' r hr x hx' => q H' r hr ((exb_ex e).trans x) hx'⟩
def spOf : Sp := fun vs H Q _ => ∃ (b : Addr) (n : Nat) (g : V) (ch : List Str), vs = [.ref b, g] ∧ Bx H b n ∧ n ≤ 1000000 ∧ Goods H b g ch ∧ 0 < ch.length ∧ ch.length ≤ 1000 ∧ ∀ H' s, s ∈ ch → ExB b H H' → Bx H' b (n + 1) → Q (.str s) H'
theorem t_of {b : Addr} {n : Nat} {g : V} {ch : List Str} {Q : VK} (ha : Ev ta σ H (.ref b)) (hb : Ev tb σ H g) (hx : Bx H b n) (hn : n ≤ 1000000) (hg : Goods H b g ch) (h0 : 0 < ch.length) (h1 : ch.length ≤ 1000) (q : ∀ H' s, s ∈ ch → ExB b H H' → Bx H' b (n + 1) → Q (.str s) H') :
    tCall spOf [] E (tCons ta (tCons tb tNil)) σ H Q := ha H (Ex.refl H) _ fun H1 e1 => hb H1 e1 _ fun H2 e2 => by
  have e := e1.trans e2
  exact ⟨b, n, g, ch, rfl, hx.up e, hn, hg.up (exb_ex e), h0, h1, fun H' r hr x hx' => q H' r hr ((exb_ex e).trans x) hx'⟩
end
section
variable {P : Program} {w : World} {K : PySem.W.Frag} {mg : Str → Option Value} {base : Heap} {C : Addr}
theorem sc__law_of : FnScope ["_law_box_here", "_law_goods_so"] ["_law_box_here", "_law_goods_so"] (defScope (sT 69)) := ⟨rfl, rfl, rfl, by decide +kernel, rfl, by decide +kernel, by decide +kernel⟩
abbrev COf (P : Program) (w : World) (K : PySem.W.Frag) (mg : Str → Option Value) (base : Heap) := Cl P w K mg base "_law_of" ["_law_box_here", "_law_goods_so"] 2 spOf
theorem cl_law_of (T : Txt K mg) (c__law_take : CTake P w K mg base) (F : DefAt K mg "_law_of" (sT 69)) : COf P w K mg base := by
  refine cl_any F sc__law_of (fun _ _ _ _ _ _ us hl => match us, hl with | [_, _], _ => rfl) (fun vs H Q E ⟨b, n, g, ch, e, _⟩ => by rw [e]; rfl) fun f cdv A outer s H E vs Q hr h => ?_
  obtain ⟨b, n, g, ch, rfl, hbx, hn, hg, h0, h1, q⟩ := h
  rcases hg with ⟨l, rfl, rfl⟩ | ⟨a, hab, rfl, ha⟩
  · refine ⟨_, (pss_one (ps_ret (pe_ix ix_str (pv 1) (pe_cl c__law_take (hr.mono (by first | decide | omega)) (pa_cons (pv 0) (pa_cons (pe_callB call_len_str (by rfl) T.len (by decide +kernel) (pa_cons (pv 1) pa_nil)) pa_nil))) (fun _ _ => rfl)))), ?_⟩
    rw [List.length_map] at h0 h1
    refine ⟨_, rfl, t_take (n := n) (sz := l.length) (ev_var rfl) (er_lenL' (er_var rfl rfl) (by omega)) hbx hn h0 (by omega) fun H' r hr x hx' => ?_⟩
    have hl : l[r]? = some l[r] := List.getElem?_eq_getElem hr
    refine ⟨strL l, (r : Int), l[r], rfl, rfl, sz_of (by rw [strL_len]; omega), atI_nat (by show (cpsS (strL l))[r]? = _; rw [cps_strL]; exact hl), q H' (strL [l[r]]) (List.mem_map.mpr ⟨_, List.getElem_mem hr, rfl⟩) x hx'⟩
  · refine ⟨_, (pss_one (ps_ret (pe_ix (kIxL K rfl) (pv 1) (pe_cl c__law_take (hr.mono (by first | decide | omega)) (pa_cons (pv 0) (pa_cons (pe_callB (kLen K rfl) (by rfl) T.len (by decide +kernel) (pa_cons (pv 1) pa_nil)) pa_nil))) (fun _ _ => rfl)))), ?_⟩
    have hlen : (ch.map V.str).length = ch.length := List.length_map _
    refine ⟨_, rfl, t_take (n := n) (sz := ch.length) (ev_var rfl) (er_lenN (l := ch) (S := Sy) (er_var rfl ⟨a, _, rfl, ha, by rw [show ch.map Sy = (ch.map V.str).map Is by rw [List.map_map]; rfl]; exact Al.is _⟩)) hbx hn h0 (by omega) fun H' r hr x hx' => ?_⟩
    have hl : ch[r]? = some ch[r] := List.getElem?_eq_getElem hr
    exact ⟨a, _, (r : Int), .str ch[r], rfl, rfl, sq_of (x _ _ hab ha), atI_nat (by rw [List.getElem?_map, hl]; rfl), q H' ch[r] (List.getElem_mem hr) x hx'⟩
theorem map_erase {β γ : Type} (f : β → γ) : ∀ (l : List β) (i : Nat), (l.map f).eraseIdx i = (l.eraseIdx i).map f
  | [], _ => rfl
  | x :: l, 0 => rfl
  | x :: l, i + 1 => by
    show f x :: (l.map f).eraseIdx i = f x :: (l.eraseIdx i).map f
    rw [map_erase f l i]
/-! ### _law_pick: from a text -/
theorem sc__law_pick : FnScope ["_law_box_here", "_law_goods_so", "_law_count_so", "_law_pool_so", "_law_found", "_law_turn"] ["_law_box_here", "_law_goods_so", "_law_count_so"] (defScope (sT 70)) := ⟨rfl, rfl, rfl, by decide +kernel, rfl, by decide +kernel, by decide +kernel⟩
def spPick : Sp := fun vs H Q _ => ∃ (b : Addr) (n c : Nat) (l : Sym), vs = [.ref b, .str (strL l), .int (c : Int)] ∧ Bx H b n ∧ n ≤ 900000 ∧ c ≤ 100 ∧ c ≤ l.length ∧ l.length ≤ 1000 ∧
  ∀ H' p (ss : List Str), (∀ s ∈ ss, ∃ x ∈ l, s = strL [x]) → ss.length = c → H p = none → H' p = some (.lst (ss.map V.str)) → p ≠ b → ExB b H H' → Bx H' b (n + c) → Q (.ref p) H'
abbrev CPick (P : Program) (w : World) (K : PySem.W.Frag) (mg : Str → Option Value) (base : Heap) := Cl P w K mg base "_law_pick" ["_law_box_here", "_law_goods_so", "_law_count_so"] 2 spPick
theorem cl_law_pick (T : Txt K mg) (c__law_take : CTake P w K mg base) (F : DefAt K mg "_law_pick" (sT 70)) : CPick P w K mg base := by
  refine cl_any F sc__law_pick (fun _ _ _ _ _ _ us hl => match us, hl with | [_, _, _], _ => rfl) (fun vs H Q E ⟨b, n, c, l, e, _⟩ => by rw [e]; rfl) fun f cdv A outer s H E vs Q hr h => ?_
  obtain ⟨b, n, c, l, rfl, hbx, hn, hc, hcl, hl, q⟩ := h
  refine ⟨_, (pss_cons (ps_par (by rfl) sc__law_pick.nd (i := 3) (j := 4) rfl rfl (by decide) rfl rfl (pa_cons (pe_callTy (call_list_text rfl) (by rfl) T.list (by decide +kernel) (pa_cons (pv 1) pa_nil)) (pa_cons (pe_lst pa_nil) pa_nil)) (by rfl)) (pss_cons (ps_for PassesOwn.never rfl (pi_range1 (by rfl) T.range (pa_cons (pe_callB (call_min2 rfl) (by rfl) T.min (by decide +kernel) (pa_cons (pe_callTy call_int1 (by rfl) T.int (by decide +kernel) (pa_cons (pv 2) pa_nil)) (pa_cons (pe_callB (kLen K rfl) (by rfl) T.len (by decide +kernel) (pa_cons (pv 3) pa_nil)) pa_nil))) pa_nil)) (pg_name (i := 5) sc__law_pick.nd rfl (by first | exact Or.inl rfl | exact Or.inr rfl)) (pss_one (ps_expr (pe_bm PySem.F.plainAttrs_list PySem.F.slot_list_append PySem.F.type_list_append mt_append (pv 4) (pa_cons (pe_bm PySem.F.plainAttrs_list PySem.F.slot_list_pop PySem.F.type_list_pop mt_popAt (pv 3) (pa_cons (pe_cl c__law_take (hr.mono (by first | decide | omega)) (pa_cons (pv 0) (pa_cons (pe_callB (kLen K rfl) (by rfl) T.len (by decide +kernel) (pa_cons (pv 3) pa_nil)) pa_nil))) pa_nil)) pa_nil))))) (pss_one (ps_ret (pv 4))))), ?_⟩
  have hsg : signV (strL l) = (l.map fun x => strL [x]).map V.str := by
    unfold signV
    rw [show (strL l).cps.toList = l from cps_strL l, List.map_map]
    rfl
  refine ⟨_, rfl, strL l, rfl, by show l.toArray.size ≤ sizeLine; rw [List.size_toArray]; exact sz_of (by omega), fun pool hpool => ⟨Nat.zero_le _, fun found hfound => ⟨_, _, rfl, ?_⟩⟩⟩
  have e1 : Ex H (upd H pool (.lst (signV (strL l)))) := Ex.new hpool
  have e2 := e1.trans (Ex.new (o := .lst []) hfound)
  have hfH : H found = none := fresh_back e1 hfound
  have npf : pool ≠ found := ne_of_none upd_same hfound
  obtain ⟨a0, a1, a2, hbb, _⟩ := id hbx
  have npb : pool ≠ b := fun e => by rw [e, hbb] at hpool; cases hpool
  have nfb : found ≠ b := fun e => by rw [e, hbb] at hfH; cases hfH
  have g1 : (upd (upd H pool (.lst (signV (strL l)))) found (.lst [])) pool = some (.lst ((l.map fun x => strL [x]).map V.str)) := by
    rw [upd_ne npf, upd_same, hsg]
  have g2 : (upd (upd H pool (.lst (signV (strL l)))) found (.lst [])) found = some (.lst []) := upd_same
  generalize (upd (upd H pool (.lst (signV (strL l)))) found (.lst [])) = G at e2 g1 g2
  have hpl : ∀ {H1} {ps : List Str} {y : Option V}, H1 pool = some (.lst (ps.map V.str)) → Er (tCB (Evl.rLenS K) (tCons (tVar 3) tNil)) [some (.ref b), some (.str (strL l)), some (.int (c : Int)), some (.ref pool), some (.ref found), y] H1 (In (ps.length : Int)) := fun {H1} {ps} {y} h =>
    er_lenN (l := ps) (S := Sy) (er_var rfl ⟨pool, _, rfl, h, by rw [show ps.map Sy = (ps.map V.str).map Is by rw [List.map_map]; rfl]; exact Al.is _⟩)
  dsimp only
  refine q_forR' (n := c) (ea_1 (er_cb (r := fun xs H Q => ∃ i j, xs = [.int i, .int j] ∧ Q (.int (if j < i then j else i)) H) (Rs := [In (c : Int), In ((l.map fun x => strL [x]).length : Int)]) (ea_2 (er_int (er_var (i := 2) rfl rfl)) (hpl (y := none) g1)) fun vs H1 _ hA Q q => ?_)) (by omega) fun H3 e3 => ?_
  · obtain ⟨u, v, rfl, r1, r2⟩ := al2 hA
    cases (show u = _ from r1)
    cases (show v = _ from r2)
    refine ⟨_, _, rfl, ?_⟩
    rw [List.length_map]
    have : ∀ z : Int, z = c → Q (.int z) H1 := fun z hz => by rw [hz]; exact q _ H1 (Ex.refl H1) rfl
    refine this _ ?_
    split <;> omega
  · refine ⟨fun i σ' H' => ∃ (y : Option V) (ps ss : List Str), σ' = [some (.ref b), some (.str (strL l)), some (.int (c : Int)), some (.ref pool), some (.ref found), y] ∧ H' pool = some (.lst (ps.map V.str)) ∧ H' found = some (.lst (ss.map V.str)) ∧ ss.length = i ∧ ps.length + i = l.length ∧ (∀ s ∈ ps, ∃ x ∈ l, s = strL [x]) ∧ (∀ s ∈ ss, ∃ x ∈ l, s = strL [x]) ∧ ExB b H H' ∧ Bx H' b (n + i),
      ⟨none, _, [], rfl, e3 _ _ g1, e3 _ _ g2, rfl, by rw [List.length_map]; rfl, fun s hs => by
        obtain ⟨x, hx, rfl⟩ := List.mem_map.mp hs
        exact ⟨x, hx, rfl⟩, fun s hs => (by cases hs), exb_ex (e2.trans e3), hbx.up (e2.trans e3)⟩, fun i σ' H' hi hx => ?_, fun σ' H' hx => ?_⟩
    · obtain ⟨y, ps, ss, rfl, hp, hf, hsl, hplen, hps, hss, x, hbx'⟩ := hx
      refine ⟨_, rfl, Or.inl ⟨rfl, _, sq_of hf⟩, _, rfl, Or.inl ⟨rfl, _, sq_of hp⟩, t_take (n := n + i) (sz := ps.length) (ev_var rfl) (hpl hp) hbx' (by omega) (by omega) (by omega) fun H4 r hr x4 hx4 => ?_⟩
      have hl : ps[r]? = some ps[r] := List.getElem?_eq_getElem hr
      have hp4 := x4 _ _ npb hp
      have hf4 := x4 _ _ nfb hf
      refine ⟨pool, ps.map V.str, (r : Int), r, .str ps[r], rfl, rfl, hp4, by omega, by omega, ?_, by rw [List.getElem?_map, hl]; rfl, ?_⟩
      · have := seqIndex_of (k := (r : Int)) (n := (ps.map V.str).length) (by omega) (by rw [List.length_map]; omega)
        rw [this]
        rfl
      · refine ⟨found, ss.map V.str, .str ps[r], rfl, rfl, by rw [upd_ne npf.symm]; exact hf4, sz_lt (by rw [List.length_map]; omega), ?_⟩
        have xb : ExB b H (upd (upd H4 pool (.lst ((ps.map V.str).eraseIdx r))) found (.lst (ss.map V.str ++ [.str ps[r]]))) := fun a o ha h => by
          rw [upd_ne (fun e => by rw [e, hfH] at h; cases h), upd_ne (fun e => by rw [e, hpool] at h; cases h)]
          exact x4 _ _ ha (x _ _ ha h)
        refine ⟨some (.int (i : Int)), ps.eraseIdx r, ss ++ [ps[r]], rfl, ?_, ?_, by rw [List.length_append, hsl]; rfl, ?_, fun s hs => hps s (List.mem_of_mem_eraseIdx hs), fun s hs => ?_, xb, ?_⟩
        · rw [upd_ne npf, upd_same, map_erase]
        · rw [upd_same, List.map_append]
          rfl
        · rw [List.length_eraseIdx, if_pos hr]
          omega
        · rcases List.mem_append.mp hs with hs | hs
          · exact hss s hs
          · rw [List.mem_singleton.mp hs]
            exact hps _ (List.getElem_mem hr)
        · obtain ⟨z0, z1, z2, h1, h2, h3⟩ := hx4
          exact ⟨z0, z1, z2, by rw [upd_ne nfb.symm, upd_ne npb.symm]; exact h1, h2, by omega⟩
    · obtain ⟨y, ps, ss, rfl, hp, hf, hsl, hplen, hps, hss, x, hbx'⟩ := hx
      refine ⟨_, rfl, ?_⟩
      exact q H' found ss hss hsl hfH hf nfb x hbx'
/-! ### a list of things that are chosen one by one -/
theorem lcOf {σ : L2.St} {te : TE} {j : Nat} {vs : List Nat} {H1 : Hp} {b : Addr} {n k : Nat} {ch : List Str} {Qd : Hp → Prop} (hk : k ≤ 1000) (hx : Bx H1 b n) (hw : ∀ x, wipe ((wipe σ vs).set j (some x)) vs = wipe σ vs)
    (he : ∀ (i : Nat) H' (m : Nat), i < k → ExB b H1 H' → Bx H' b m → m ≤ n + k → ∀ Q : VK, (∀ H2 s, s ∈ ch → ExB b H' H2 → Bx H2 b (m + 1) → Q (.str s) H2) → te ((wipe σ vs).set j (some (.int (i : Int)))) H' Q)
    {D : Addr} (hD : H1 D = none) (hq : ∀ H' (ss : List Str), (∀ s ∈ ss, s ∈ ch) → ss.length = k → H' D = some (.lst (ss.map V.str)) → D ≠ b → ExB b H1 H' → Bx H' b (n + k) → Qd H') :
    ∃ W : Nat → Nat → Hp → Prop, (∃ m, W 0 m (upd H1 D (.lst []))) ∧ ∀ i m H, W i m H →
      ((Itr 0 k).stop i H ∧ Qd H) ∨ ((Itr 0 k).go i H ∧ ∃ Nx : Hp → Prop, (∀ H', Nx H' → ∃ m', m' < m ∧ W (i + 1) m' H') ∧ ∀ x H', (Itr 0 k).yld i H x H' → gName j x (wipe σ vs) H' fun σ2 H2 => wipe σ2 vs = wipe σ vs ∧ tYes σ2 H2 fun b H3 =>
        if b = true then te σ2 H3 fun y H4 => ∃ acc, H4 D = some (.lst acc) ∧ acc.length < sizeLine ∧ Nx (upd H4 D (.lst (acc ++ [y]))) else Nx H3) := by
  obtain ⟨a0, a1, a2, hbb, _⟩ := id hx
  have nDb : D ≠ b := fun e => by rw [e, hbb] at hD; cases hD
  refine lc_range (lo := 0) (n := k) (fun i H' => ExB b H1 H' ∧ Bx H' b (n + i) ∧ ∃ ss : List Str, H' D = some (.lst (ss.map V.str)) ∧ ss.length = i ∧ ∀ s ∈ ss, s ∈ ch) ⟨exb_ex (Ex.new hD), hx.up (Ex.new hD), [], upd_same, rfl, fun s hs => by cases hs⟩ (fun i H' hi p => ?_) (fun H' p => ?_)
  · obtain ⟨x, hx', ss, hs, hl, hc⟩ := p
    have e0 : (0 : Int) + (i : Int) = (i : Int) := Int.zero_add _
    show wipe ((wipe σ vs).set j (some (.int ((0 : Int) + (i : Int))))) vs = wipe σ vs ∧ _
    rw [e0]
    refine ⟨hw _, he i H' (n + i) hi x hx' (by omega) _ fun H2 s hsc x2 hx2 => ⟨ss.map V.str, x2 _ _ nDb hs, sz_lt (by rw [List.length_map]; omega), fun a o ha h => ?_, ?_, ss ++ [s], ?_, by rw [List.length_append, hl]; rfl, fun z hz => ?_⟩⟩
    · rw [upd_ne (fun e => by rw [e, hD] at h; cases h)]
      exact x2 _ _ ha (x _ _ ha h)
    · obtain ⟨z0, z1, z2, h1, h2, h3⟩ := hx2
      exact ⟨z0, z1, z2, by rw [upd_ne nDb.symm]; exact h1, h2, by omega⟩
    · rw [upd_same, List.map_append]
      rfl
    · rcases List.mem_append.mp hz with hz | hz
      · exact hc z hz
      · rw [List.mem_singleton.mp hz]
        exact hsc
  · obtain ⟨x, hx', ss, hs, hl, hc⟩ := p
    exact hq H' ss hc hl hs nDb x hx'
/-! ### _law_event_row -/
theorem sc__law_event_row : FnScope ["_law_box_here", "_law_tags", "_law_most", "_law_turn"] ["_law_box_here", "_law_tags", "_law_most"] (defScope (sT 74)) := ⟨rfl, rfl, rfl, by decide +kernel, rfl, by decide +kernel, by decide +kernel⟩
def spRow (K : PySem.W.Frag) : Sp := fun vs H Q _ => ∃ (b : Addr) (n m : Nat) (g : V) (ch : List Str), vs = [.ref b, g, .int (m : Int)] ∧ Bx H b n ∧ n ≤ 900000 ∧ m ≤ 100 ∧ Goods H b g ch ∧ 0 < ch.length ∧ ch.length ≤ 1000 ∧
  ∀ H' v (l : Log), (∀ s ∈ l, s ∈ ch) → l.length ≤ m → ExB b H H' → Bx H' b (n + m + 1) → (LogP K l).r H' v → Q v H'
abbrev CRow (P : Program) (w : World) (K : PySem.W.Frag) (mg : Str → Option Value) (base : Heap) := Cl P w K mg base "_law_event_row" ["_law_box_here", "_law_tags", "_law_most"] 3 (spRow K)
theorem cl_law_event_row (T : Txt K mg) (c__law_take : CTake P w K mg base) (c__law_of : COf P w K mg base) (F : DefAt K mg "_law_event_row" (sT 74)) : CRow P w K mg base := by
  refine cl_any F sc__law_event_row (fun _ _ _ _ _ _ us hl => match us, hl with | [_, _, _], _ => rfl) (fun vs H Q E ⟨b, n, m, g, ch, e, _⟩ => by rw [e]; rfl) fun f cdv A outer s H E vs Q hr h => ?_
  obtain ⟨b, n, m, g, ch, rfl, hbx, hn, hm, hg, h0, h1, q⟩ := h
  refine ⟨_, (pss_one (ps_ret (pe_callTy (kTupleOf K rfl) (by rfl) T.tuple (by decide +kernel) (pa_cons (pe_lc (own := [("_law_turn", 3)]) (g := gName 3) (tt := tYes) (by rfl) sc__law_event_row.nd (pi_range1 (by rfl) T.range (pa_cons (pe_cl c__law_take (hr.mono (by first | decide | omega)) (pa_cons (pv 0) (pa_cons (pe_op op_add (pv 2) pe_int) pa_nil))) pa_nil)) (blkOk_by (own := [("_law_turn", 3)]) (N := ["_law_box_here", "_law_tags", "_law_most", "_law_turn"]) (sc := defScope (sT 74)) (by decide +kernel)) (fun _ _ _ _ _ => (pg_name (i := 3) sc__law_event_row.nd rfl (by first | exact Or.inl rfl | exact Or.inr rfl))) (fun _ _ _ _ _ => pts_nil) (fun _ _ _ _ _ => (pe_cl c__law_of (hr.mono (by first | decide | omega)) (pa_cons (pv 0) (pa_cons (pv 1) pa_nil))))) pa_nil)))), ?_⟩
  refine t_take (n := n) (sz := m + 1) (ev_var rfl) (er_as (er_add (er_var (i := 2) rfl rfl) er_is) fun v H1 _ r => r) hbx (by omega) (by omega) (by omega) fun H1 r hr x hx1 => ?_
  refine ⟨(r : Int), rfl, by omega, by omega, fun D hD => ?_⟩
  refine lcOf (k := ((r : Int)).toNat) (n := n + 1) (ch := ch) (by omega) hx1 (fun _ => rfl) (fun i H2 k hi x2 hx2 hk Q1 q1 => ?_) hD fun H2 ss hss hsl hD2 nD x2 hx2 => ?_
  · exact t_of (n := k) (ev_var (i := 0) rfl) (ev_var (i := 1) rfl) hx2 (by omega) (hg.up (x.trans x2)) h0 h1 q1
  · refine ⟨D, ss.map V.str, rfl, .inl ⟨sq_of hD2, fun l hl => ?_⟩⟩
    exact q _ (.ref l) ss hss (by omega) ((x.trans x2).trans (exb_ex (Ex.new hl))) ((hx2.up (Ex.new hl)).le (by omega)) (at_log (st_of upd_same))
end
end K54
/-! LB: _law_names. -/
set_option Elab.async false
set_option linter.all false
set_option maxRecDepth 100000
set_option maxHeartbeats 1000000
namespace K54
open PySem PySem.W PySem.Calls PyProof.Rows L2 Evl
theorem joinL_nil : ∀ ps : List (List Nat), TL.joinL [] ps = ps.flatten
  | [] => rfl
  | [p] => by simp [TL.joinL]
  | p :: q :: r => by
    show p ++ ([] ++ TL.joinL [] (q :: r)) = _
    rw [joinL_nil (q :: r)]
    simp
theorem join_cps (ys : List Str) : cpsS (Txt.join "" ys) = (ys.map cpsS).flatten := by
  show TL.tl (Txt.join "" ys) = _
  rw [TL.join_eq, TL.tl_join]
  show TL.joinL [] _ = _
  rw [joinL_nil]
  rfl
/-- one letter -/
def One (s : Str) : Prop := ∃ c, isLet c = true ∧ s = strL [c]
theorem ones_name {ss : List Str} (h : ∀ s ∈ ss, One s) (h1 : 1 ≤ ss.length) (h8 : ss.length ≤ 8) : nameOk (ss.map cpsS).flatten = true := by
  have key : ∀ ss : List Str, (∀ s ∈ ss, One s) → (ss.map cpsS).flatten.length = ss.length ∧ (ss.map cpsS).flatten.all isLet = true := by
    intro ss
    induction ss with
    | nil => exact fun _ => ⟨rfl, rfl⟩
    | cons s ss ih =>
      intro h
      obtain ⟨c, hc, rfl⟩ := h s (List.mem_cons_self ..)
      obtain ⟨e1, e2⟩ := ih fun t ht => h t (List.mem_cons_of_mem _ ht)
      rw [List.map_cons, List.flatten_cons, cps_strL]
      exact ⟨by rw [List.length_append, e1]; show 1 + ss.length = ss.length + 1; omega, by rw [List.all_append, e2]; simp [hc]⟩
  obtain ⟨e1, e2⟩ := key ss h
  unfold nameOk
  rw [e1, e2, Bool.and_true, decide_eq_true_eq]
  exact ⟨h1, h8⟩
theorem ones_sum : ∀ {ss : List Str}, (∀ s ∈ ss, One s) → (ss.map (·.length)).sum = ss.length
  | [], _ => rfl
  | s :: ss, h => by
    obtain ⟨c, hc, rfl⟩ := h s (List.mem_cons_self ..)
    rw [List.map_cons, List.sum_cons, ones_sum fun t ht => h t (List.mem_cons_of_mem _ ht), strL_len]
    show 1 + ss.length = ss.length + 1
    omega
def abcL : Sym := [97, 98, 99, 100, 101, 102, 103, 104, 105, 106, 107, 108, 109, 110, 111, 112, 113, 114, 115, 116, 117, 118, 119, 120, 121, 122]
theorem abc_lit : ("abcdefghijklmnopqrstuvwxyz" : Str) = strL abcL := by decide +kernel
theorem abc_one {s : Str} (h : s ∈ abcL.map fun c => strL [c]) : One s := by
  obtain ⟨c, hc, rfl⟩ := List.mem_map.mp h
  have key : ∀ c ∈ abcL, isLet c = true := by decide
  exact ⟨c, key c hc, rfl⟩
section
variable {σ : L2.St} {H : Hp} {K : PySem.W.Frag} {ta tb te : TE}
theorem al_strs (H : Hp) (ss : List Str) : Al (ss.map Sy) H (ss.map V.str) := by
  rw [show ss.map Sy = (ss.map V.str).map Is by rw [List.map_map]; rfl]
  exact Al.is _
theorem er_join {ss : List Str} (h : Er te σ H (Lst K (ss.map Sy))) (hz : (ss.map (·.length)).sum ≤ 100000) :
    Er (tM1 (fun x xs H Q => ∃ a p, ∃ ys : List Str, x = .str a ∧ xs = [.ref p] ∧ (SqL K H p (ys.map V.str) ∨ SqT K H p (ys.map V.str)) ∧ (ys.map (·.length)).sum + ys.length * a.length ≤ 16777216 ∧ Q (.str (Txt.join a ys)) H) (tC (.str "")) te) σ H (Sy (Txt.join "" ss)) := fun H1 e Q q =>
  ⟨⟨_, rfl⟩, h H1 e _ fun v H2 e2 r => by
    obtain ⟨a, vs, rfl, hs, hA⟩ := r
    rw [is_all hA] at hs
    refine ⟨"", a, ss, rfl, rfl, .inl (sq_of hs), ?_, q _ H2 e2 rfl⟩
    rw [show ("" : Str).length = 0 from rfl, Nat.mul_zero]
    omega⟩
end
section
variable {P : Program} {w : World} {K : PySem.W.Frag} {mg : Str → Option Value} {base : Heap} {C : Addr}
theorem sc__law_names : FnScope ["_law_box_here", "_law_much_so", "_law_letters_so", "_law_long", "_law_some", "_law_turn", "_law_sort_so", "_law_spot_so", "_law_found", "_law_sign"] ["_law_box_here", "_law_much_so"] (defScope (sT 72)) := ⟨rfl, rfl, rfl, by decide +kernel, rfl, by decide +kernel, by decide +kernel⟩
def spNames : Sp := fun vs H Q _ => ∃ (b : Addr) (n : Nat), vs = [.ref b, .int 3] ∧ Bx H b n ∧ n ≤ 800000 ∧
  ∀ H' p (ns : List Str), (∀ s ∈ ns, nameOk s.cps.toList = true) → ns.length = 3 → H p = none → H' p = some (.lst (ns.map V.str)) → p ≠ b → ExB b H H' → Bx H' b (n + 60) → Q (.ref p) H'
abbrev CNames (P : Program) (w : World) (K : PySem.W.Frag) (mg : Str → Option Value) (base : Heap) := Cl P w K mg base "_law_names" ["_law_box_here", "_law_much_so"] 3 spNames
theorem cl_law_names (T : Txt K mg) (c__law_take : CTake P w K mg base) (c__law_of : COf P w K mg base) (c__law_pick : CPick P w K mg base) (F : DefAt K mg "_law_names" (sT 72)) : CNames P w K mg base := by
  refine cl_any F sc__law_names (fun _ _ _ _ _ _ us hl => match us, hl with | [_, _], _ => rfl) (fun vs H Q E ⟨b, n, e, _⟩ => by rw [e]; rfl) fun f cdv A outer s H E vs Q hr h => ?_
  obtain ⟨b, n, rfl, hbx, hn, q⟩ := h
  refine ⟨_, (pss_cons (ps_set (i := 2) sc__law_names.nd rfl (by first | exact Or.inl rfl | exact Or.inr rfl) pe_str) (pss_cons (ps_set (i := 3) sc__law_names.nd rfl (by first | exact Or.inl rfl | exact Or.inr rfl) (pe_op op_add pe_int (pe_cl c__law_take (hr.mono (by first | decide | omega)) (pa_cons (pv 0) (pa_cons pe_int pa_nil))))) (pss_cons (ps_setLc (i := 4) (own := [("_law_turn", 5)]) (g := gName 5) (tt := tYes) (by rfl) sc__law_names.nd rfl rfl (sw_true rfl rfl rfl (by decide +kernel)) (pi_range1 (by rfl) T.range (pa_cons (pv 3) pa_nil)) (blkOk_by (own := [("_law_turn", 5)]) (N := ["_law_box_here", "_law_much_so", "_law_letters_so", "_law_long", "_law_some", "_law_turn", "_law_sort_so", "_law_spot_so", "_law_found", "_law_sign"]) (sc := defScope (sT 72)) (by decide +kernel)) (fun _ _ _ _ _ => (pg_name (i := 5) sc__law_names.nd rfl (by first | exact Or.inl rfl | exact Or.inr rfl))) (fun _ _ _ _ _ => pts_nil) (fun _ _ _ _ _ => (pe_cl c__law_of (hr.mono (by first | decide | omega)) (pa_cons (pv 0) (pa_cons (pv 2) pa_nil))))) (pss_cons (ps_par3 (by rfl) sc__law_names.nd (i := 6) (j := 7) (l := 8) rfl rfl rfl (by decide) (by decide) (by decide) rfl rfl rfl (pa_cons (pe_cl c__law_take (hr.mono (by first | decide | omega)) (pa_cons (pv 0) (pa_cons pe_int pa_nil))) (pa_cons (pe_cl c__law_take (hr.mono (by first | decide | omega)) (pa_cons (pv 0) (pa_cons (pv 3) pa_nil))) (pa_cons (pe_lst pa_nil) pa_nil))) (by rfl)) (pss_cons (ps_for PassesOwn.never rfl (kPiL K rfl (pe_cl c__law_pick (hr.mono (by first | decide | omega)) (pa_cons (pv 0) (pa_cons (pv 2) (pa_cons (pv 1) pa_nil))))) (pg_name (i := 9) sc__law_names.nd rfl (by first | exact Or.inl rfl | exact Or.inr rfl)) (pss_one (ps_if (pt_cmpR op_eq (pv 6) pe_int (nomark _)) (pss_one (ps_expr (pe_bm PySem.F.plainAttrs_list PySem.F.slot_list_append PySem.F.type_list_append mt_append (pv 8) (pa_cons (pv 9) pa_nil)))) (pss_one (ps_if (pt_cmpR op_lt (pv 6) pe_int (nomark _)) (pss_one (ps_expr (pe_bm PySem.F.plainAttrs_list PySem.F.slot_list_append PySem.F.type_list_append mt_append (pv 8) (pa_cons (pe_join pe_str (pe_op op_cat (pe_op op_cat (pe_slice (kSlL K rfl) (pv 4) po_none (po_some (pv 7))) (pe_lst (pa_cons (pv 9) pa_nil))) (pe_slice (kSlL K rfl) (pv 4) (po_some (pe_op op_add (pv 7) pe_int)) po_none))) pa_nil)))) (pss_one (ps_expr (pe_bm PySem.F.plainAttrs_list PySem.F.slot_list_append PySem.F.type_list_append mt_append (pv 8) (pa_cons (pe_op op_add_str (pv 9) (pe_join pe_str (pe_lc (own := [("_law_turn", 5)]) (g := gName 5) (tt := tYes) (by rfl) sc__law_names.nd (pi_range1 (by rfl) T.range (pa_cons (pe_cl c__law_take (hr.mono (by first | decide | omega)) (pa_cons (pv 0) (pa_cons pe_int pa_nil))) pa_nil)) (blkOk_by (own := [("_law_turn", 5)]) (N := ["_law_box_here", "_law_much_so", "_law_letters_so", "_law_long", "_law_some", "_law_turn", "_law_sort_so", "_law_spot_so", "_law_found", "_law_sign"]) (sc := defScope (sT 72)) (by decide +kernel)) (fun _ _ _ _ _ => (pg_name (i := 5) sc__law_names.nd rfl (by first | exact Or.inl rfl | exact Or.inr rfl))) (fun _ _ _ _ _ => pts_nil) (fun _ _ _ _ _ => (pe_cl c__law_of (hr.mono (by first | decide | omega)) (pa_cons (pv 0) (pa_cons (pv 2) pa_nil))))))) pa_nil))))))))) (pss_one (ps_ret (pv 8)))))))), ?_⟩
  refine q_asgR (R := Sy "abcdefghijklmnopqrstuvwxyz") er_is fun v H1 e1 r1 => ?_
  cases (show v = _ from r1)
  have hg : ∀ {H'}, Goods H' b (.str "abcdefghijklmnopqrstuvwxyz") (abcL.map fun c => strL [c]) := .inl ⟨abcL, by rw [abc_lit], rfl⟩
  have hgl : (abcL.map fun c => strL [c]).length = 26 := by decide
  have hbx1 := hbx.up e1
  -- _law_long
  refine t_take (n := n) (sz := 8) (ev_var rfl) er_is hbx1 (by omega) (by decide) (by decide) fun H2 r1 hr1 x2 hx2 => ⟨1, (r1 : Int), rfl, rfl, ?_⟩
  -- _law_some
  refine ⟨_, rfl, (1 + (r1 : Int)), rfl, by omega, by omega, fun D hD => ?_⟩
  refine lcOf (k := ((1 + (r1 : Int))).toNat) (n := n + 1) (ch := abcL.map fun c => strL [c]) (by omega) hx2 (fun _ => rfl) (fun i H3 k hi x3 hx3 hk Q1 q1 => ?_) hD fun H3 some_ hsome hsl hD3 nD x3 hx3 => ?_
  · exact t_of (n := k) (ev_var (i := 0) rfl) (ev_var (i := 2) rfl) hx3 (by omega) hg (by rw [hgl]; decide) (by rw [hgl]; decide) q1
  have hkk : ((1 + (r1 : Int))).toNat = 1 + r1 := by omega
  rw [hkk] at hsl hx3
  have x03 : ExB b H H3 := ((exb_ex e1).trans x2).trans x3
  -- _law_sort, _law_spot, _law_found
  refine t_take (n := n + 1 + (1 + r1)) (sz := 4) (ev_var rfl) er_is hx3 (by omega) (by decide) (by decide) fun H4 srt hsrt x4 hx4 => ?_
  refine t_take (n := n + 1 + (1 + r1) + 1) (sz := 1 + r1) (ev_var rfl) (er_var (i := 3) rfl rfl) hx4 (by omega) (by omega) (by omega) fun H5 spt hspt x5 hx5 => ?_
  refine ⟨Nat.zero_le _, fun found hfound => ⟨_, _, _, rfl, ?_⟩⟩
  have hbf : ∀ {H'} {k : Nat}, Bx H' b k → H' found = none → found ≠ b := fun h h2 e => by
    obtain ⟨a0, a1, a2, h3, _⟩ := h
    rw [e, h3] at h2
    cases h2
  have nfb := hbf hx5 hfound
  have x05 : ExB b H H5 := (x03.trans x4).trans x5
  have hfH : H found = none := by
    cases hh : H found with
    | none => rfl
    | some o => rw [x05 _ _ nfb hh] at hfound; cases hfound
  have hD5 : H5 D = some (.lst (some_.map V.str)) := x5 _ _ nD (x4 _ _ nD hD3)
  have nDf : D ≠ found := ne_of_none hD5 hfound
  have g1 : (upd H5 found (.lst [])) found = some (.lst []) := upd_same
  have eG : Ex H5 (upd H5 found (.lst [])) := Ex.new hfound
  generalize (upd H5 found (.lst [])) = G at g1 eG
  refine ⟨_, rfl, _, rfl, _, rfl, b, n + 1 + (1 + r1) + 1 + 1, 3, abcL, by rw [abc_lit]; rfl, hx5.up eG, by omega, by decide, by decide, by decide, fun H6 p ss hss hssl hp0 hp npb x6 hx6 => ?_⟩
  have npf : p ≠ found := fun e => by rw [e, g1] at hp0; cases hp0
  have npD : p ≠ D := fun e => by rw [e, eG _ _ hD5] at hp0; cases hp0
  have hletters : ∀ s ∈ ss, One s := fun s hs => by
    obtain ⟨x, hx, rfl⟩ := hss s hs
    exact abc_one (List.mem_map.mpr ⟨x, hx, rfl⟩)
  have hones : ∀ s ∈ some_, One s := fun s hs => abc_one (hsome s hs)
  refine ⟨p, rfl, ⟨_, sq_of hp⟩, for_list (xs := ss.map V.str) (fun i σ' H' => ∃ (y5 y9 : Option V) (ns : List Str), σ' = [some (.ref b), some (.int 3), some (.str "abcdefghijklmnopqrstuvwxyz"), some (.int (1 + (r1 : Int))), some (.ref D), y5, some (.int (srt : Int)), some (.int (spt : Int)), some (.ref found), y9] ∧
    H' found = some (.lst (ns.map V.str)) ∧ ns.length = i ∧ (∀ s ∈ ns, nameOk s.cps.toList = true) ∧ H' p = some (.lst (ss.map V.str)) ∧ H' D = some (.lst (some_.map V.str)) ∧ ExB b H H' ∧ Bx H' b (n + 1 + (1 + r1) + 1 + 1 + 3 + 8 * i)) ?_ ?_ ?_ ?_⟩
  · exact ⟨none, none, [], rfl, x6 _ _ nfb g1, rfl, fun s hs => (by cases hs), hp, x6 _ _ nD (eG _ _ hD5), (x05.trans (exb_ex eG)).trans x6, hx6⟩
  · rintro i σ' H' _ ⟨_, _, _, _, _, _, _, h, _⟩
    exact sq_of h
  · intro i u σ' H' hu hx
    obtain ⟨y5, y9, ns, rfl, hf, hnl, hno, hp', hD', x', hx'⟩ := hx
    rw [List.getElem?_map] at hu
    obtain ⟨c, hc, rfl⟩ : ∃ c, ss[i]? = some c ∧ u = .str c := by
      cases hh : ss[i]? with
      | none => rw [hh] at hu; cases hu
      | some c => rw [hh] at hu; exact ⟨c, rfl, (Option.some.inj hu).symm⟩
    have hi3 : i < 3 := by
      have := (List.getElem?_eq_some_iff.mp hc).1
      omega
    have hc1 : One c := hletters c (List.mem_of_getElem? hc)
    have fin : ∀ (H7 : Hp) (s : Str) (y5 y9 : Option V), nameOk s.cps.toList = true → ExB b H' H7 → Bx H7 b (n + 1 + (1 + r1) + 1 + 1 + 3 + 8 * (i + 1)) →
        ∃ (y5' y9' : Option V) (ns' : List Str), [some (.ref b), some (.int 3), some (.str "abcdefghijklmnopqrstuvwxyz"), some (.int (1 + (r1 : Int))), some (.ref D), y5, some (.int (srt : Int)), some (.int (spt : Int)), some (.ref found), y9] = [some (.ref b), some (.int 3), some (.str "abcdefghijklmnopqrstuvwxyz"), some (.int (1 + (r1 : Int))), some (.ref D), y5', some (.int (srt : Int)), some (.int (spt : Int)), some (.ref found), y9'] ∧
          (upd H7 found (.lst (ns.map V.str ++ [.str s]))) found = some (.lst (ns'.map V.str)) ∧ ns'.length = i + 1 ∧ (∀ s ∈ ns', nameOk s.cps.toList = true) ∧ (upd H7 found (.lst (ns.map V.str ++ [.str s]))) p = some (.lst (ss.map V.str)) ∧ (upd H7 found (.lst (ns.map V.str ++ [.str s]))) D = some (.lst (some_.map V.str)) ∧
          ExB b H (upd H7 found (.lst (ns.map V.str ++ [.str s]))) ∧ Bx (upd H7 found (.lst (ns.map V.str ++ [.str s]))) b (n + 1 + (1 + r1) + 1 + 1 + 3 + 8 * (i + 1)) := by
      intro H7 s y5 y9 hs x7 hx7
      refine ⟨y5, y9, ns ++ [s], rfl, by rw [upd_same, List.map_append]; rfl, by rw [List.length_append, hnl]; rfl, fun z hz => ?_, by rw [upd_ne npf]; exact x7 _ _ npb hp', by rw [upd_ne nDf]; exact x7 _ _ nD hD', fun a o ha h => ?_, ?_⟩
      · rcases List.mem_append.mp hz with hz | hz
        · exact hno z hz
        · rw [List.mem_singleton.mp hz]
          exact hs
      · rw [upd_ne (fun e => by rw [e, hfH] at h; cases h)]
        exact x7 _ _ ha (x' _ _ ha h)
      · obtain ⟨z0, z1, z2, h1, h2, h3⟩ := hx7
        exact ⟨z0, z1, z2, by rw [upd_ne nfb.symm]; exact h1, h2, h3⟩
    have hnz : (ns.map V.str).length < 100000 := by rw [List.length_map]; omega
    show tIfS _ _ _ _ [some (.ref b), some (.int 3), some (.str "abcdefghijklmnopqrstuvwxyz"), some (.int (1 + (r1 : Int))), some (.ref D), y5, some (.int (srt : Int)), some (.int (spt : Int)), some (.ref found), some (.str c)] H'
    refine Evl.s_if (b := decide ((srt : Int) = 0)) (et_testR (er_eqI (er_var rfl rfl) er_is)) (fun _ H7 e7 => ?_) (fun _ H7 e7 => ?_)
    · refine t_app (R := Sy c) (ev_var rfl) (e7 _ _ hf) (er_var rfl rfl) hnz fun v H8 e8 r8 => ?_
      cases (show v = _ from r8)
      refine fin H8 c y5 _ ?_ (exb_ex (e7.trans e8)) ((hx'.up (e7.trans e8)).le (by omega))
      obtain ⟨x, hx, rfl⟩ := hc1
      have := ones_name (ss := [strL [x]]) (fun s hs => by rw [List.mem_singleton.mp hs]; exact ⟨x, hx, rfl⟩) (Nat.le_refl 1) (show 1 ≤ 8 by decide)
      have e : ([strL [x]].map cpsS).flatten = cpsS (strL [x]) := by simp
      rw [e] at this
      exact this
    · refine Evl.s_if (b := decide ((srt : Int) < 3)) (et_testR (er_lt (er_var rfl rfl) er_is)) (fun _ H8 e8 => ?_) (fun _ H8 e8 => ?_)
      · have e78 := e7.trans e8
        have hz : ((some_.take spt ++ [c]) ++ some_.drop (spt + 1)).length = 1 + r1 := by
          rw [List.length_append, List.length_append, List.length_take, List.length_drop, hsl]
          show min spt (1 + r1) + 1 + _ = _
          omega
        have hall : ∀ s ∈ (some_.take spt ++ [c]) ++ some_.drop (spt + 1), One s := fun s hs => by
          rcases List.mem_append.mp hs with hs | hs
          · rcases List.mem_append.mp hs with hs | hs
            · exact hones s (List.mem_of_mem_take hs)
            · rw [List.mem_singleton.mp hs]; exact hc1
          · exact hones s (List.mem_of_mem_drop hs)
        refine t_app (R := Sy (Txt.join "" ((some_.take spt ++ [c]) ++ some_.drop (spt + 1)))) (ev_var rfl) (e78 _ _ hf) (er_join ?_ (by rw [ones_sum hall, hz]; omega)) hnz fun v H9 e9 r9 => ?_
        · have s1 := er_slL (K := K) (Rs := some_.map Sy) (H := H8) (te := tVar 4) (σ := [some (.ref b), some (.int 3), some (.str "abcdefghijklmnopqrstuvwxyz"), some (.int (1 + (r1 : Int))), some (.ref D), y5, some (.int (srt : Int)), some (.int (spt : Int)), some (.ref found), some (.str c)]) (er_var rfl ⟨D, _, rfl, e78 _ _ hD', al_strs _ _⟩) eo_none (eo_R (i := (spt : Int)) (te := tVar 7) (er_var rfl rfl))
          have s2 := er_slL (K := K) (Rs := some_.map Sy) (H := H8) (te := tVar 4) (σ := [some (.ref b), some (.int 3), some (.str "abcdefghijklmnopqrstuvwxyz"), some (.int (1 + (r1 : Int))), some (.ref D), y5, some (.int (srt : Int)), some (.int (spt : Int)), some (.ref found), some (.str c)]) (er_var rfl ⟨D, _, rfl, e78 _ _ hD', al_strs _ _⟩) (eo_R (i := ((spt + 1 : Nat) : Int)) (er_as (er_add (ta := tVar 7) (tb := tC (.int 1)) (i := (spt : Int)) (j := 1) (er_var rfl rfl) er_is) fun v H1 _ r => r)) eo_none
          rw [cutN_map, cutN_to] at s1
          rw [cutN_map, cutN_from] at s2
          have hz2 := hz
          rw [List.length_append, List.length_append] at hz2
          have s3 := er_catL (er_catL s1 (er_lst (K := K) (Rs := [Sy c]) (ea_1 (er_var (i := 9) rfl rfl)) (by show 1 ≤ 100000; decide)) (by rw [List.length_map]; show _ + 1 ≤ _; rw [List.length_take]; omega)) s2 (by
            simp only [List.length_append, List.length_map, List.length_take, List.length_drop, List.length_cons, List.length_nil]
            omega)
          rw [List.map_append, List.map_append]
          exact s3
        · cases (show v = _ from r9)
          refine fin H9 _ y5 _ ?_ (exb_ex (e78.trans e9)) ((hx'.up (e78.trans e9)).le (by omega))
          rw [show (Txt.join "" ((some_.take spt ++ [c]) ++ some_.drop (spt + 1))).cps.toList = (((some_.take spt ++ [c]) ++ some_.drop (spt + 1)).map cpsS).flatten from join_cps _]
          exact ones_name hall (by omega) (by omega)
      · have e78 := e7.trans e8
        refine ⟨_, rfl, Or.inl ⟨rfl, _, sq_of (e78 _ _ hf)⟩, _, rfl, ⟨_, rfl⟩, ?_⟩
        refine t_take (n := n + 1 + (1 + r1) + 1 + 1 + 3 + 8 * i) (sz := 8) (ev_var rfl) er_is (hx'.up e78) (by omega) (by decide) (by decide) fun H9 r9 hr9 x9 hx9 => ?_
        refine ⟨(r9 : Int), rfl, by omega, by omega, fun D2 hD2 => ?_⟩
        refine lcOf (k := ((r9 : Int)).toNat) (n := n + 1 + (1 + r1) + 1 + 1 + 3 + 8 * i + 1) (ch := abcL.map fun c => strL [c]) (by omega) hx9 (fun _ => rfl) (fun i' H3 k hi x3 hx3 hk Q1 q1 => ?_) hD2 fun H10 ss2 hss2 hsl2 hD10 nD2 x10 hx10 => ?_
        · exact t_of (n := k) (ev_var (i := 0) rfl) (ev_var (i := 2) rfl) hx3 (by omega) hg (by rw [hgl]; decide) (by rw [hgl]; decide) q1
        · have hall2 : ∀ s ∈ ss2, One s := fun s hs => abc_one (hss2 s hs)
          have hl2 : ss2.length = r9 := by omega
          have hsum := ones_sum hall2
          have hjl : (Txt.join "" ss2).length = ss2.length := by
            have h1 : (Txt.join "" ss2).cps.toList.length = (ss2.map cpsS).flatten.length := congrArg List.length (join_cps ss2)
            rw [Array.length_toList] at h1
            show (Txt.join "" ss2).cps.size = _
            rw [h1, List.length_flatten, List.map_map]
            rw [← hsum]
            rfl
          have hcl : c.length = 1 := by
            obtain ⟨x, hx, rfl⟩ := hc1
            rw [strL_len]
            rfl
          refine ⟨"", D2, ss2, rfl, rfl, .inl (sq_of hD10), ?_, _, _, rfl, rfl, sz_of (by omega), ?_⟩
          · rw [hsum, show ("" : Str).length = 0 from rfl, Nat.mul_zero]
            omega
          · have xall : ExB b H' H10 := ((exb_ex e78).trans x9).trans x10
            refine ⟨found, ns.map V.str, .str (c ++ Txt.join "" ss2), rfl, rfl, xall _ _ nfb hf, sz_lt hnz, fin H10 _ _ _ ?_ xall (hx10.le (by omega))⟩
            have hcc : (c ++ Txt.join "" ss2).cps.toList = ((c :: ss2).map cpsS).flatten := by
              rw [PySem.Str.cps_append, Array.toList_append, show (Txt.join "" ss2).cps.toList = _ from join_cps ss2]
              rfl
            rw [hcc]
            exact ones_name (ss := c :: ss2) (fun s hs => by
              rcases List.mem_cons.mp hs with e | hs
              · rw [e]; exact hc1
              · exact hall2 s hs) (by rw [List.length_cons]; omega) (by rw [List.length_cons]; omega)
  · rintro σ' H' ⟨y5, y9, ns, rfl, hf, hnl, hno, hp', hD', x', hx'⟩
    rw [List.length_map, hssl] at hnl hx'
    refine ⟨_, rfl, ?_⟩
    exact q H' found ns hno hnl hfH hf nfb x' (hx'.le (by omega))
end
end K54
/-! LC: _law_tree. -/
set_option Elab.async false
set_option linter.all false
set_option maxRecDepth 100000
set_option maxHeartbeats 1000000
namespace K54
open PySem PySem.W PySem.Calls PyProof.Rows L2 Evl
/-- the trees that are drawn -/
def TD (ch : List Str) : Nat → K54.T Str → Prop
  | _, .seen s => s ∈ ch
  | _, .one => True
  | _, .zero => True
  | d + 1, .thn a b => TD ch d a ∧ TD ch d b
  | d + 1, .alt a b => TD ch d a ∧ TD ch d b
  | d + 1, .all a b => TD ch (d - 1) a ∧ TD ch (d - 1) b
  | d + 1, .tms a n => TD ch d a ∧ n ≤ 2
  | 0, _ => False
def tcost : Nat → Nat
  | 0 => 10
  | d + 1 => 3 * tcost d
theorem tcost_pos : ∀ d, 10 ≤ tcost d
  | 0 => Nat.le_refl _
  | d + 1 => by
    have := tcost_pos d
    show 10 ≤ 3 * tcost d
    omega
theorem tcost_pred : ∀ d, tcost (d - 1) ≤ tcost d
  | 0 => Nat.le_refl _
  | d + 1 => by
    show tcost d ≤ 3 * tcost d
    omega
section
variable {σ : L2.St} {H : Hp} {K : PySem.W.Frag} {ta tb te : TE} {E : XK}
theorem t_ofL {b : Addr} {n : Nat} {ch : List Str} {Q : VK} (ha : Ev ta σ H (.ref b)) (hb : EvL tb σ H (ch.map V.str)) (hx : Bx H b n) (hn : n ≤ 1000000) (h0 : 0 < ch.length) (h1 : ch.length ≤ 1000) (q : ∀ H' s, s ∈ ch → ExB b H H' → Bx H' b (n + 1) → Q (.str s) H') :
    tCall spOf [] E (tCons ta (tCons tb tNil)) σ H Q := ha H (Ex.refl H) _ fun H1 e1 => hb H1 e1 _ fun p H2 hp0 e2 hp => by
  have e := e1.trans e2
  have npb : p ≠ b := fun e' => by
    obtain ⟨a0, a1, a2, h3, _⟩ := hx.up e1
    rw [e', h3] at hp0
    cases hp0
  exact ⟨b, n, .ref p, ch, rfl, hx.up e, hn, .inr ⟨p, npb, rfl, hp⟩, h0, h1, fun H' r hr x hx' => q H' r hr ((exb_ex e).trans x) hx'⟩
end
section
variable {P : Program} {w : World} {K : PySem.W.Frag} {mg : Str → Option Value} {base : Heap} {C : Addr}
theorem sc__law_tree : FnScope ["_law_box_here", "_law_tags", "_law_deep", "_law_sort_so", "_law_word", "_law_lower"] ["_law_box_here", "_law_tags", "_law_deep"] (defScope (sT 76)) := ⟨rfl, rfl, rfl, by decide +kernel, rfl, by decide +kernel, by decide +kernel⟩
def spTree (K : PySem.W.Frag) (k : Nat) : Sp := fun vs H Q _ => ∃ (b : Addr) (n d : Nat) (g : V) (ch : List Str), vs = [.ref b, g, .int (d : Int)] ∧ d < k ∧ d ≤ 6 ∧ Bx H b n ∧ n + tcost d ≤ 900000 ∧ Goods H b g ch ∧ 0 < ch.length ∧ ch.length ≤ 1000 ∧
  ∀ H' v t, TD ch d t → ExB b H H' → Bx H' b (n + tcost d) → (TreeP K t).r H' v → Q v H'
theorem tcost_six {d : Nat} (h : d ≤ 6) : tcost d ≤ 10000 := by
  have : d = 0 ∨ d = 1 ∨ d = 2 ∨ d = 3 ∨ d = 4 ∨ d = 5 ∨ d = 6 := by omega
  rcases this with rfl | rfl | rfl | rfl | rfl | rfl | rfl <;> decide
theorem t_tree {σ : L2.St} {H : Hp} {ta tb tc : TE} {E : XK} {k : Nat} {b : Addr} {n d : Nat} {g : V} {ch : List Str} {Q : VK} (ha : Ev ta σ H (.ref b)) (hb : Ev tb σ H g) (hc : Er tc σ H (In (d : Int))) (hd : d < k) (h6 : d ≤ 6) (hx : Bx H b n) (hn : n + tcost d ≤ 900000) (hg : Goods H b g ch) (h0 : 0 < ch.length) (h1 : ch.length ≤ 1000)
    (q : ∀ H' v t, TD ch d t → ExB b H H' → Bx H' b (n + tcost d) → (TreeP K t).r H' v → Q v H') : tCall (spTree K k) [] E (tCons ta (tCons tb (tCons tc tNil))) σ H Q := ha H (Ex.refl H) _ fun H1 e1 => hb H1 e1 _ fun H2 e2 => hc H2 (e1.trans e2) _ fun v H3 e3 r3 => by
  cases (show v = _ from r3)
  have e := (e1.trans e2).trans e3
  exact ⟨b, n, d, g, ch, rfl, hd, h6, hx.up e, hn, hg.up (exb_ex e), h0, h1, fun H' v t ht x hx' r => q H' v t ht ((exb_ex e).trans x) hx' r⟩
theorem cl_law_tree (T : Txt K mg) (c__law_take : CTake P w K mg base) (c__law_of : COf P w K mg base) (F : DefAt K mg "_law_tree" (sT 76)) : ∀ k, Cl P w K mg base "_law_tree" ["_law_box_here", "_law_tags", "_law_deep"] (k + 3) (spTree K k)
  | 0 => by
    refine cl_any F sc__law_tree (fun _ _ _ _ _ _ us hl => match us, hl with | [_, _, _], _ => rfl) (fun vs H Q E ⟨b, n, d, g, ch, e, _⟩ => by rw [e]; rfl) fun f cdv A outer s H E vs Q hr h => ?_
    obtain ⟨b, n, d, g, ch, _, h0, _⟩ := h
    exact absurd h0 (Nat.not_lt_zero _)
  | k + 1 => by
    have c__law_tree := cl_law_tree T c__law_take c__law_of F k
    refine cl_any F sc__law_tree (fun _ _ _ _ _ _ us hl => match us, hl with | [_, _, _], _ => rfl) (fun vs H Q E ⟨b, n, d, g, ch, e, _⟩ => by rw [e]; rfl) fun f cdv A outer s H E vs Q hr h => ?_
    obtain ⟨b, n, d, g, ch, rfl, hdk, hd6, hbx, hn, hg, h0, h1, q⟩ := h
    refine ⟨_, (pss_cons (ps_if (PW.pt (pw_or (pt_cmpR op_eq (pv 2) pe_int (nomark _)) (pw_or1 (pt_cmpR op_eq (pe_cl c__law_take (hr.mono (show 1 ≤ k + 3 by omega)) (pa_cons (pv 0) (pa_cons pe_int pa_nil))) pe_int (nomark _))))) (pss_cons (ps_set (i := 3) sc__law_tree.nd rfl (by first | exact Or.inl rfl | exact Or.inr rfl) (pe_cl c__law_take (hr.mono (show 1 ≤ k + 3 by omega)) (pa_cons (pv 0) (pa_cons pe_int pa_nil)))) (pss_one (ps_ret (pe_ifExp (pt_cmpR op_gt (pv 3) pe_int (nomark _)) (pe_tup (pa_cons pe_str (pa_cons (pe_cl c__law_of (hr.mono (show 2 ≤ k + 3 by omega)) (pa_cons (pv 0) (pa_cons (pv 1) pa_nil))) pa_nil))) (pe_ifExp (pt_cmpR op_eq (pv 3) pe_int (nomark _)) (pe_tup (pa_cons pe_str pa_nil)) (pe_tup (pa_cons pe_str pa_nil))))))) pss_nil) (pss_cons (ps_set (i := 4) sc__law_tree.nd rfl (by first | exact Or.inl rfl | exact Or.inr rfl) (pe_cl c__law_of (hr.mono (show 2 ≤ k + 3 by omega)) (pa_cons (pv 0) (pa_cons (pe_lst (pa_cons pe_str (pa_cons pe_str (pa_cons pe_str (pa_cons pe_str (pa_cons pe_str pa_nil)))))) pa_nil)))) (pss_cons (ps_if (pt_cmpR op_eq (pv 4) pe_str (nomark _)) (pss_one (ps_ret (pe_tup (pa_cons pe_str (pa_cons (pe_cl c__law_tree hr (pa_cons (pv 0) (pa_cons (pv 1) (pa_cons (pe_op op_sub (pv 2) pe_int) pa_nil)))) (pa_cons (pe_cl c__law_take (hr.mono (show 1 ≤ k + 3 by omega)) (pa_cons (pv 0) (pa_cons pe_int pa_nil))) pa_nil)))))) pss_nil) (pss_cons (ps_set (i := 5) sc__law_tree.nd rfl (by first | exact Or.inl rfl | exact Or.inr rfl) (pe_ifExp (pt_cmpR op_eq (pv 4) pe_str (nomark _)) (pe_callB (call_max2 rfl) (by rfl) T.max (by decide +kernel) (pa_cons pe_int (pa_cons (pe_op op_sub (pv 2) pe_int) pa_nil))) (pe_op op_sub (pv 2) pe_int))) (pss_one (ps_ret (pe_tup (pa_cons (pv 4) (pa_cons (pe_cl c__law_tree hr (pa_cons (pv 0) (pa_cons (pv 1) (pa_cons (pv 5) pa_nil)))) (pa_cons (pe_cl c__law_tree hr (pa_cons (pv 0) (pa_cons (pv 1) (pa_cons (pv 5) pa_nil)))) pa_nil)))))))))), ?_⟩
    have leaf : ∀ (D : Ends) (H1 : Hp) (m : Nat), D.rt = Q → ExB b H H1 → Bx H1 b m → m + 2 ≤ n + tcost d → tSeq (tAsg (tCall spTake [] E0 (tCons (tVar 0) (tCons (tC (.int 12)) tNil))) (gName 3)) (tRet (tIf (tTest (tOp (rI0 fun i j => .bl (decide (j < i))) (tVar 3) (tC (.int 1)))) (tTup (tCons (tC (.str "seen")) (tCons (tCall spOf [] E0 (tCons (tVar 0) (tCons (tVar 1) tNil))) tNil)))
        (tIf (tTest (tOp rEq (tVar 3) (tC (.int 1)))) (tTup (tCons (tC (.str "1")) tNil)) (tTup (tCons (tC (.str "0")) tNil))))) D [some (.ref b), some g, some (.int (d : Int)), none, none, none] H1 := by
      intro D H1 m hDq x1 hx1 hm
      subst hDq
      have ht := tcost_six hd6
      refine t_take (n := m) (sz := 12) (ev_var rfl) er_is hx1 (by omega) (by decide) (by decide) fun H2 r hr x2 hx2 => ?_
      refine et_testR (er_gt (i := (r : Int)) (j := 1) (er_var rfl rfl) er_is) H2 (Ex.refl H2) _ fun H3 e3 => ?_
      have x3 := (x1.trans x2).trans (exb_ex e3)
      have hx3 := hx2.up e3
      by_cases hr1 : (1 : Int) < (r : Int)
      · rw [if_pos (decide_eq_true hr1)]
        refine t_of (n := m + 1) (ev_var rfl) (ev_var rfl) hx3 (by omega) (hg.up x3) h0 h1 fun H4 s hs x4 hx4 => ?_
        exact ⟨sz_of (show 2 ≤ 100000 by decide), fun p hp => q _ (.ref p) (.seen s) (by unfold TD; exact hs) ((x3.trans x4).trans (exb_ex (Ex.new hp))) ((hx4.up (Ex.new hp)).le (by omega)) ⟨p, _, rfl, st_of upd_same, rfl, rfl, trivial⟩⟩
      · rw [if_neg (by simpa using hr1)]
        refine et_testR (er_eqI (x := (r : Int)) (y := 1) (er_var rfl rfl) er_is) H3 (Ex.refl H3) _ fun H4 e4 => ?_
        have x4 := x3.trans (exb_ex e4)
        have hx4 := hx3.up e4
        by_cases hr2 : (r : Int) = 1
        · rw [if_pos (decide_eq_true hr2)]
          exact ⟨sz_of (show 1 ≤ 100000 by decide), fun p hp => q _ (.ref p) .one (by unfold TD; trivial) (x4.trans (exb_ex (Ex.new hp))) ((hx4.up (Ex.new hp)).le (by omega)) ⟨p, _, rfl, st_of upd_same, rfl, trivial⟩⟩
        · rw [if_neg (by simpa using hr2)]
          exact ⟨sz_of (show 1 ≤ 100000 by decide), fun p hp => q _ (.ref p) .zero (by unfold TD; trivial) (x4.trans (exb_ex (Ex.new hp))) ((hx4.up (Ex.new hp)).le (by omega)) ⟨p, _, rfl, st_of upd_same, rfl, trivial⟩⟩
    have htc := tcost_six hd6
    have hbx0 := hbx
    refine et_testR (er_eqI (x := (d : Int)) (y := 0) (er_var (i := 2) rfl rfl) er_is) H (Ex.refl H) _ fun H1 e1 => ?_
    have hbx := hbx.up e1
    cases d with
    | zero =>
      rw [if_pos (decide_eq_true (show ((0 : Nat) : Int) = 0 from rfl))]
      exact leaf _ H1 n rfl (exb_ex e1) hbx (by show n + 2 ≤ n + 10; omega)
    | succ d =>
      have hpos := tcost_pos d
      have hpred := tcost_pred d
      have hcost : tcost (d + 1) = 3 * tcost d := rfl
      rw [if_neg (by rw [decide_eq_true_eq]; omega)]
      refine t_take (n := n) (sz := 4) (ev_var rfl) er_is hbx (by omega) (by decide) (by decide) fun H2 r hr x2 hx2 => ?_
      have x02 : ExB b H H2 := (exb_ex e1).trans x2
      refine ⟨rfl, _, rfl, ?_⟩
      by_cases hr0 : r = 0
      · rw [show decide (V.int (r : Int) = V.int 0) = true by simp [hr0]]
        exact leaf _ H2 (n + 1) rfl x02 hx2 (by omega)
      rw [show decide (V.int (r : Int) = V.int 0) = false by simp [hr0]]
      have fin2 : ∀ (D : Ends) (lw : Nat) (wd : Str) (mk : K54.T Str → K54.T Str → K54.T Str) (H4 : Hp), D.rt = Q → lw < k → lw ≤ 6 → tcost lw ≤ tcost d → (∀ a b, TD ch lw a → TD ch lw b → TD ch (d + 1) (mk a b)) → (∀ a b, TreeP K (mk a b) = Tup K [Sy wd, TreeP K a, TreeP K b]) → ExB b H H4 → Bx H4 b (n + 2) →
          tRet (tTup (tCons (tVar 4) (tCons (tCall (spTree K k) [] E0 (tCons (tVar 0) (tCons (tVar 1) (tCons (tVar 5) tNil)))) (tCons (tCall (spTree K k) [] E0 (tCons (tVar 0) (tCons (tVar 1) (tCons (tVar 5) tNil)))) tNil)))) D [some (.ref b), some g, some (.int ((d + 1 : Nat) : Int)), none, some (.str wd), some (.int (lw : Int))] H4 := by
        intro D lw wd mk H4 hDq hlk hl6 hlc hTD hTP x4 hx4
        subst hDq
        refine ⟨_, rfl, ?_⟩
        refine t_tree (n := n + 2) (d := lw) (ev_var rfl) (ev_var rfl) (er_var rfl rfl) hlk hl6 hx4 (by omega) (hg.up x4) h0 h1 fun H5 va a ha x5 hx5 ra => ?_
        have x45 := x4.trans x5
        refine t_tree (n := n + 2 + tcost lw) (d := lw) (ev_var rfl) (ev_var rfl) (er_var rfl rfl) hlk hl6 hx5 (by omega) (hg.up x45) h0 h1 fun H6 vb t hb x6 hx6 rb => ?_
        have ra6 := im_tree a (bx_kp x6 hx5 hx6) ra
        refine ⟨sz_of (show 3 ≤ 100000 by decide), fun p hp => q _ (.ref p) (mk a t) (hTD a t ha hb) ((x45.trans x6).trans (exb_ex (Ex.new hp))) ((hx6.up (Ex.new hp)).le (by omega)) ?_⟩
        rw [hTP]
        exact ⟨p, _, rfl, st_of upd_same, rfl, (TreeP K a).up (Ex.new hp) ra6, (TreeP K t).up (Ex.new hp) rb, trivial⟩
      refine t_ofL (n := n + 1) (ch := [">>", ">>", "|", "&", "*"]) (ev_var rfl) (el_lst (ea_cons ev_c (ea_cons ev_c (ea_cons ev_c (ea_cons ev_c (ea_cons ev_c ea_nil))))) (by show 5 ≤ 100000; decide)) hx2 (by omega) (by decide) (by decide) fun H3 wd hwd x3 hx3 => ?_
      have x03 := x02.trans x3
      have hlow : Er (tOp (rI0 fun i j => .int (i - j)) (tVar 2) (tC (.int 1))) [some (.ref b), some g, some (.int ((d + 1 : Nat) : Int)), none, some (.str wd), none] H3 (In (d : Int)) := er_as (er_sub (er_var (i := 2) rfl rfl) er_is) fun v H4 _ r => by
        rw [show v = _ from r]
        show V.int _ = V.int _
        congr 1
        omega
      have hlow2 : Er (tCB (fun xs H Q => ∃ i j, xs = [V.int i, V.int j] ∧ Q (V.int (if j > i then j else i)) H) (tCons (tC (.int 0)) (tCons (tOp (rI0 fun i j => .int (i - j)) (tVar 2) (tC (.int 2))) tNil))) [some (.ref b), some g, some (.int ((d + 1 : Nat) : Int)), none, some (.str wd), none] H3 (In ((d - 1 : Nat) : Int)) :=
        er_cb (r := fun xs H Q => ∃ i j, xs = [V.int i, V.int j] ∧ Q (V.int (if j > i then j else i)) H) (Rs := [In 0, In (((d + 1 : Nat) : Int) - 2)]) (ea_2 er_is (er_sub (er_var (i := 2) rfl rfl) er_is)) fun vs H4 _ hA Q q => by
          obtain ⟨u, v, rfl, r1, r2⟩ := al2 hA
          cases (show u = _ from r1)
          cases (show v = _ from r2)
          refine ⟨_, _, rfl, ?_⟩
          have : ∀ z : Int, z = ((d - 1 : Nat) : Int) → Q (.int z) H4 := fun z hz => by rw [hz]; exact q _ H4 (Ex.refl H4) rfl
          refine this _ ?_
          split <;> omega
      simp only [List.mem_cons, List.not_mem_nil, or_false] at hwd
      have hw3 : (∃ mk : K54.T Str → K54.T Str → K54.T Str, decide (wd = "*") = false ∧ decide (wd = "&") = false ∧ (∀ a b, TD ch d a → TD ch d b → TD ch (d + 1) (mk a b)) ∧ ∀ a b, TreeP K (mk a b) = Tup K [Sy wd, TreeP K a, TreeP K b]) ∨ wd = "&" ∨ wd = "*" := by
        rcases hwd with h | h | h | h | h
        · subst h
          exact .inl ⟨.thn, by decide +kernel, by decide +kernel, fun a b h1 h2 => ⟨h1, h2⟩, fun a b => rfl⟩
        · subst h
          exact .inl ⟨.thn, by decide +kernel, by decide +kernel, fun a b h1 h2 => ⟨h1, h2⟩, fun a b => rfl⟩
        · subst h
          exact .inl ⟨.alt, by decide +kernel, by decide +kernel, fun a b h1 h2 => ⟨h1, h2⟩, fun a b => rfl⟩
        · exact .inr (.inl h)
        · exact .inr (.inr h)
      rcases hw3 with ⟨mk, hx1, hx2, hTD, hTP⟩ | h | h
      · refine q_whenF (b := decide (wd = "*")) (et_testR (er_eqS (er_var (i := 4) rfl rfl) er_is)) hx1 fun H4 e4 => ?_
        refine q_asgR (R := In (d : Int)) (er_if (b := decide (wd = "&")) (et_testR (er_eqS (er_var (i := 4) rfl rfl) er_is)) (fun z => by rw [hx2] at z; cases z) fun _ => hlow.mono e4) fun v H5 e5 r5 => ?_
        cases (show v = _ from r5)
        exact fin2 _ d wd mk H5 rfl (by omega) (by omega) (Nat.le_refl _) hTD hTP (x03.trans (exb_ex (e4.trans e5))) (hx3.up (e4.trans e5))
      · subst h
        refine q_whenF (b := decide (("&" : Str) = "*")) (et_testR (er_eqS (er_var (i := 4) rfl rfl) er_is)) (by decide +kernel) fun H4 e4 => ?_
        refine q_asgR (R := In ((d - 1 : Nat) : Int)) (er_if (b := true) (et_is (et_testR (er_eqS (er_var (i := 4) rfl rfl) er_is)) (by decide +kernel)) (fun _ => hlow2.mono e4) fun z => by cases z) fun v H5 e5 r5 => ?_
        cases (show v = _ from r5)
        exact fin2 _ (d - 1) "&" .all H5 rfl (by omega) (by omega) hpred (fun a b h1 h2 => ⟨h1, h2⟩) (fun a b => rfl) (x03.trans (exb_ex (e4.trans e5))) (hx3.up (e4.trans e5))
      · subst h
        refine q_whenT (b := decide (("*" : Str) = "*")) (et_testR (er_eqS (er_var (i := 4) rfl rfl) er_is)) (by decide +kernel) fun H4 e4 => ?_
        refine t_tree (n := n + 2) (d := d) (ev_var (i := 0) rfl) (ev_var (i := 1) rfl) (hlow.mono e4) (by omega) (by omega) (hx3.up e4) (by omega) (hg.up (x03.trans (exb_ex e4))) h0 h1 fun H5 va a ha x5 hx5 ra => ?_
        refine t_take (n := n + 2 + tcost d) (sz := 3) (ev_var rfl) er_is hx5 (by omega) (by decide) (by decide) fun H6 r' hr' x6 hx6 => ?_
        have ra6 := im_tree a (bx_kp x6 hx5 hx6) ra
        exact ⟨sz_of (show 3 ≤ 100000 by decide), fun p hp => q _ (.ref p) (.tms a r') ⟨ha, by omega⟩ ((((x03.trans (exb_ex e4)).trans x5).trans x6).trans (exb_ex (Ex.new hp))) ((hx6.up (Ex.new hp)).le (by omega)) ⟨p, _, rfl, st_of upd_same, rfl, (TreeP K a).up (Ex.new hp) ra6, rfl, trivial⟩⟩
end
end K54
/-! LD: _law_made. -/
set_option Elab.async false
set_option linter.all false
set_option maxRecDepth 100000
set_option maxHeartbeats 1000000
namespace K54
open PySem PySem.W PySem.Calls PyProof.Rows L2 Evl
/-- how often the box is asked -/
def mc : K54.T Str → Nat
  | .thn a b => mc a + mc b + 1
  | .alt a b => mc a + mc b + 1
  | .all a b => mc a + mc b + 1
  | .tms a _ => mc a + 1
  | _ => 0
section
variable {P : Program} {w : World} {K : PySem.W.Frag} {mg : Str → Option Value} {base : Heap} {C : Addr}
theorem sc__law_made : FnScope ["_law_box_here", "_law_tree_here", "_law_one_so", "_law_two_so", "_law_style"] ["_law_box_here", "_law_tree_here"] (defScope (sT 77)) := ⟨rfl, rfl, rfl, by decide +kernel, rfl, by decide +kernel, by decide +kernel⟩
def spMade (K : PySem.W.Frag) (C : Addr) (k : Nat) : Sp := fun vs H Q _ => ∃ (b : Addr) (n : Nat) (vt : V) (t : K54.T Str), vs = [.ref b, vt] ∧ dep t < k ∧ Bx H b n ∧ n + mc t ≤ 900000 ∧ TOk cpsS t ∧ (TreeP K t).r H vt ∧
  ∀ H' v, ExB b H H' → Bx H' b (n + mc t) → (RuleP K C t).r H' v → Q v H'
theorem t_made {σ : L2.St} {H : Hp} {ta tb : TE} {E : XK} {k : Nat} {b : Addr} {n : Nat} {t : K54.T Str} {Q : VK} (ha : Ev ta σ H (.ref b)) (hb : Er tb σ H (TreeP K t)) (hd : dep t < k) (hx : Bx H b n) (hn : n + mc t ≤ 900000) (ht : TOk cpsS t)
    (q : ∀ H' v, ExB b H H' → Bx H' b (n + mc t) → (RuleP K C t).r H' v → Q v H') : tCall (spMade K C k) [] E (tCons ta (tCons tb tNil)) σ H Q := ha H (Ex.refl H) _ fun H1 e1 => hb H1 e1 _ fun v H2 e2 r2 => by
  have e := e1.trans e2
  exact ⟨b, n, v, t, rfl, hd, hx.up e, hn, ht, r2, fun H' v x hx' r => q H' v ((exb_ex e).trans x) hx' r⟩
theorem cl_law_made (T : Txt K mg) (O : Ops P w K mg base C) (c__law_take : CTake P w K mg base) (c_seen : CSeen P w K mg base C) (c_never : CNever P w K mg base C) (c_nothing : CNothing P w K mg base C) (F : DefAt K mg "_law_made" (sT 77)) : ∀ k, Cl P w K mg base "_law_made" ["_law_box_here", "_law_tree_here"] (k + 5) (spMade K C k)
  | 0 => by
    refine cl_any F sc__law_made (fun _ _ _ _ _ _ us hl => match us, hl with | [_, _], _ => rfl) (fun vs H Q E ⟨b, n, vt, t, e, _⟩ => by rw [e]; rfl) fun f cdv A outer s H E vs Q hr h => ?_
    obtain ⟨b, n, vt, t, _, h0, _⟩ := h
    exact absurd h0 (Nat.not_lt_zero _)
  | k + 1 => by
    have c__law_made := cl_law_made T O c__law_take c_seen c_never c_nothing F k
    refine cl_any F sc__law_made (fun _ _ _ _ _ _ us hl => match us, hl with | [_, _], _ => rfl) (fun vs H Q E ⟨b, n, vt, t, e, _⟩ => by rw [e]; rfl) fun f cdv A outer s H E vs Q hr h => ?_
    obtain ⟨b, n, vt, t, rfl, hd, hbx, hn, ht, hvt, q⟩ := h
    refine ⟨_, (pss_cons (ps_if (pt_cmpR op_eq (pe_ix (kIxT K rfl) (pv 1) pe_int (fun _ _ => rfl)) pe_str (nomark _)) (pss_one (ps_ret (pe_cl c_seen (hr.mono (show 3 ≤ k + 5 by omega)) (pa_cons (pe_ix (kIxT K rfl) (pv 1) pe_int (fun _ _ => rfl)) pa_nil)))) pss_nil) (pss_cons (ps_if (pt_cmpR (kIn K rfl) (pe_ix (kIxT K rfl) (pv 1) pe_int (fun _ _ => rfl)) (pe_tup (pa_cons pe_str (pa_cons pe_str pa_nil))) (by rfl)) (pss_one (ps_ret (pe_ifExp (pt_cmpR op_eq (pe_ix (kIxT K rfl) (pv 1) pe_int (fun _ _ => rfl)) pe_str (nomark _)) (pe_cl0 c_never (hr.mono (show 3 ≤ k + 5 by omega))) (pe_cl0 c_nothing (hr.mono (show 3 ≤ k + 5 by omega)))))) pss_nil) (pss_cons (ps_set (i := 2) sc__law_made.nd rfl (by first | exact Or.inl rfl | exact Or.inr rfl) (pe_cl c__law_made hr (pa_cons (pv 0) (pa_cons (pe_ix (kIxT K rfl) (pv 1) pe_int (fun _ _ => rfl)) pa_nil)))) (pss_cons (ps_if (pt_cmpR op_eq (pe_ix (kIxT K rfl) (pv 1) pe_int (fun _ _ => rfl)) pe_str (nomark _)) (pss_one (ps_ret (pe_ifExp (pt_cmpR op_eq (pe_cl c__law_take (hr.mono (show 1 ≤ k + 5 by omega)) (pa_cons (pv 0) (pa_cons pe_int pa_nil))) pe_int (nomark _)) (pe_op (opMul O (hr.mono (show 4 ≤ k + 5 by omega))) (pv 2) (pe_ix (kIxT K rfl) (pv 1) pe_int (fun _ _ => rfl))) (pe_op (opMulR O (hr.mono (show 4 ≤ k + 5 by omega))) (pe_ix (kIxT K rfl) (pv 1) pe_int (fun _ _ => rfl)) (pv 2))))) pss_nil) (pss_cons (ps_par (by rfl) sc__law_made.nd (i := 3) (j := 4) rfl rfl (by decide) rfl rfl (pa_cons (pe_cl c__law_made hr (pa_cons (pv 0) (pa_cons (pe_ix (kIxT K rfl) (pv 1) pe_int (fun _ _ => rfl)) pa_nil))) (pa_cons (pe_cl c__law_take (hr.mono (show 1 ≤ k + 5 by omega)) (pa_cons (pv 0) (pa_cons pe_int pa_nil))) pa_nil)) (by rfl)) (pss_cons (ps_if (PW.pt (pw_and (pt_cmpR op_eq (pv 4) pe_int (nomark _)) (pw_and1 (pt_cmpR op_eq (pe_ix (kIxT K rfl) (pe_ix (kIxT K rfl) (pv 1) pe_int (fun _ _ => rfl)) pe_int (fun _ _ => rfl)) pe_str (nomark _))))) (pss_one (ps_set (i := 2) sc__law_made.nd rfl (by first | exact Or.inl rfl | exact Or.inr rfl) (pe_ix (kIxT K rfl) (pe_ix (kIxT K rfl) (pv 1) pe_int (fun _ _ => rfl)) pe_int (fun _ _ => rfl)))) pss_nil) (pss_cons (ps_if (PW.pt (pw_and (pt_cmpR op_eq (pv 4) pe_int (nomark _)) (pw_and1 (pt_cmpR op_eq (pe_ix (kIxT K rfl) (pe_ix (kIxT K rfl) (pv 1) pe_int (fun _ _ => rfl)) pe_int (fun _ _ => rfl)) pe_str (nomark _))))) (pss_one (ps_set (i := 3) sc__law_made.nd rfl (by first | exact Or.inl rfl | exact Or.inr rfl) (pe_ix (kIxT K rfl) (pe_ix (kIxT K rfl) (pv 1) pe_int (fun _ _ => rfl)) pe_int (fun _ _ => rfl)))) pss_nil) (pss_cons (ps_if (pt_cmpR op_eq (pe_ix (kIxT K rfl) (pv 1) pe_int (fun _ _ => rfl)) pe_str (nomark _)) (pss_one (ps_ret (pe_op (opThn O (hr.mono (show 4 ≤ k + 5 by omega))) (pv 2) (pv 3)))) pss_nil) (pss_one (ps_ret (pe_ifExp (pt_cmpR op_eq (pe_ix (kIxT K rfl) (pv 1) pe_int (fun _ _ => rfl)) pe_str (nomark _)) (pe_op (opAlt O (hr.mono (show 4 ≤ k + 5 by omega))) (pv 2) (pv 3)) (pe_op (opAll O (hr.mono (show 4 ≤ k + 5 by omega))) (pv 2) (pv 3))))))))))))), ?_⟩
    have hT : ∀ {H1} {y2 y3 y4 : Option V}, Kp H H1 → Er (tVar 1) [some (.ref b), some vt, y2, y3, y4] H1 (TreeP K t) := fun e => er_var rfl (im_tree t e hvt)
    have hH : ∀ {H1} {y2 y3 y4 : Option V} {y : Str}, headS t = y → Kp H H1 → Er (tOp (rIxT K) (tVar 1) (tC (.int 0))) [some (.ref b), some vt, y2, y3, y4] H1 (Sy y) := fun e1 e => by rw [← e1]; exact er_head (hT e)
    have in01 : ∀ {H1} {y : Str}, headS t = y → Kp H H1 → EvT (tTest (tOp (rIn K false) (tOp (rIxT K) (tVar 1) (tC (.int 0))) (tTup (tCons (tC (.str "0")) (tCons (tC (.str "1")) tNil))))) [some (.ref b), some vt, none, none, none] H1 (inV (.str y) [.str "0", .str "1"]) := fun ey e => et_inU (hH ey e) (eu_2 er_is er_is) rfl rfl
    have eq : ∀ {H1} {y2 y3 y4 : Option V} {x y : Str}, headS t = y → Kp H H1 → EvT (tTest (tOp rEq (tOp (rIxT K) (tVar 1) (tC (.int 0))) (tC (.str x)))) [some (.ref b), some vt, y2, y3, y4] H1 (decide (y = x)) := fun ey e => et_testR (er_eqS (hH ey e) er_is)
    cases t with
    | seen s =>
      refine q_whenT (eq (y := "seen") rfl (Kp.refl H)) (by decide +kernel) fun H1 e1 => ?_
      exact s_retR (er_seen ht (er_ixT (i := 1) (hT (kp_ex e1)) er_is rfl)) fun v H2 e2 r2 => q H2 v (exb_ex (e1.trans e2)) (hbx.up (e1.trans e2)) r2
    | one =>
      refine q_whenF (eq (y := "1") rfl (Kp.refl H)) (by decide +kernel) fun H1 e1 => ?_
      refine q_whenT (in01 (y := "1") rfl (kp_ex e1)) (by decide +kernel) fun H2 e2 => ?_
      exact s_retR (R := RuleP K C .one) (er_if (b := false) (et_is (eq (y := "1") rfl (kp_ex (e1.trans e2))) (by decide +kernel)) (fun z => by cases z) fun _ => er_call () trivial ea_nilR) fun v H3 e3 r3 => q H3 v (exb_ex ((e1.trans e2).trans e3)) (hbx.up ((e1.trans e2).trans e3)) r3
    | zero =>
      refine q_whenF (eq (y := "0") rfl (Kp.refl H)) (by decide +kernel) fun H1 e1 => ?_
      refine q_whenT (in01 (y := "0") rfl (kp_ex e1)) (by decide +kernel) fun H2 e2 => ?_
      exact s_retR (R := RuleP K C .zero) (er_if (b := true) (et_is (eq (y := "0") rfl (kp_ex (e1.trans e2))) (by decide +kernel)) (fun _ => er_call () trivial ea_nilR) fun z => by cases z) fun v H3 e3 r3 => q H3 v (exb_ex ((e1.trans e2).trans e3)) (hbx.up ((e1.trans e2).trans e3)) r3
    | tms a m =>
      have hda : dep a < k := Nat.lt_of_succ_lt_succ hd
      have hmc : mc (.tms a m) = mc a + 1 := rfl
      rw [hmc] at hn q
      refine q_whenF (eq (y := "*") rfl (Kp.refl H)) (by decide +kernel) fun H1 e1 => ?_
      refine q_whenF (in01 (y := "*") rfl (kp_ex e1)) (by decide +kernel) fun H2 e2 => ?_
      have e12 := e1.trans e2
      refine t_made (n := n) (t := a) (ev_var rfl) (er_ixT (i := 1) (hT (kp_ex e12)) er_is rfl) hda (hbx.up e12) (by omega) ht.1 fun H3 v3 x3 hx3 r3 => ?_
      have k3 : Kp H H3 := bx_kp ((exb_ex e12).trans x3) hbx hx3
      refine q_whenT (eq (y := "*") rfl k3) (by decide +kernel) fun H4 e4 => ?_
      have k4 := Kp.trans k3 (kp_ex e4)
      have x4 := ((exb_ex e12).trans x3).trans (exb_ex e4)
      refine t_take (n := n + mc a) (sz := 2) (ev_var rfl) er_is (hx3.up e4) (by omega) (by decide) (by decide) fun H5 r hr x5 hx5 => ?_
      have k45 : Kp H4 H5 := bx_kp x5 (hx3.up e4) hx5
      have k5 := k4.trans k45
      have r5 : (RuleP K C a).r H5 v3 := im_rule ((kp_ex e4).trans k45) r3
      refine ⟨rfl, _, rfl, ?_⟩
      by_cases hr0 : r = 0
      · rw [show decide (V.int (r : Int) = V.int 0) = true by simp [hr0]]
        exact er_mul (n := m) (er_var (i := 2) rfl r5) (er_ixT (i := 2) (hT k5) er_is rfl) H5 (Ex.refl H5) _ fun v H6 e6 r6 => q H6 v ((x4.trans x5).trans (exb_ex e6)) ((hx5.up e6).le (by omega)) r6
      · rw [show decide (V.int (r : Int) = V.int 0) = false by simp [hr0]]
        exact er_rmul (n := m) (er_ixT (i := 2) (hT k5) er_is rfl) (er_var (i := 2) rfl r5) H5 (Ex.refl H5) _ fun v H6 e6 r6 => q H6 v ((x4.trans x5).trans (exb_ex e6)) ((hx5.up e6).le (by omega)) r6
    | thn a b' =>
      have hda : dep a < k := Nat.lt_of_le_of_lt (Nat.le_max_left (dep a) (dep b')) (Nat.lt_of_succ_lt_succ hd)
      have hdb : dep b' < k := Nat.lt_of_le_of_lt (Nat.le_max_right (dep a) (dep b')) (Nat.lt_of_succ_lt_succ hd)
      have hmc : mc (.thn a b') = mc a + mc b' + 1 := rfl
      rw [hmc] at hn q
      refine q_whenF (eq (y := ">>") rfl (Kp.refl H)) (by decide +kernel) fun H1 e1 => ?_
      refine q_whenF (in01 (y := ">>") rfl (kp_ex e1)) (by decide +kernel) fun H2 e2 => ?_
      have e12 := e1.trans e2
      refine t_made (n := n) (t := a) (ev_var rfl) (er_ixT (i := 1) (hT (kp_ex e12)) er_is rfl) hda (hbx.up e12) (by omega) ht.1 fun H3 v3 x3 hx3 r3 => ?_
      have k3 : Kp H H3 := bx_kp ((exb_ex e12).trans x3) hbx hx3
      refine q_whenF (eq (y := ">>") rfl k3) (by decide +kernel) fun H4 e4 => ?_
      have k4 := Kp.trans k3 (kp_ex e4)
      have x4 := ((exb_ex e12).trans x3).trans (exb_ex e4)
      refine t_made (n := n + mc a) (t := b') (ev_var rfl) (er_ixT (i := 2) (hT k4) er_is rfl) hdb (hx3.up e4) (by omega) ht.2 fun H5 v5 x5 hx5 r5 => ?_
      have k45 : Kp H4 H5 := bx_kp x5 (hx3.up e4) hx5
      refine t_take (n := n + mc a + mc b') (sz := 3) (ev_var rfl) er_is hx5 (by omega) (by decide) (by decide) fun H6 sty hsty x6 hx6 => ?_
      have k56 : Kp H5 H6 := bx_kp x6 hx5 hx6
      have k6 := (k4.trans k45).trans k56
      have x06 := (x4.trans x5).trans x6
      have ra : (RuleP K C a).r H6 v3 := im_rule (((kp_ex e4).trans k45).trans k56) r3
      have rb : (RuleP K C b').r H6 v5 := im_rule k56 r5
      refine ⟨_, _, rfl, ?_⟩
      -- style 1: the name in the first one's place
      have st1 : ∃ o1 : K54.T Str ⊕ Str, othT o1 = a ∧ othOk o1 ∧ (sty ≠ 1 → o1.isLeft = true) ∧ ∀ (D : Ends) (tz : TS), (∀ H7 v3', Ex H6 H7 → (OthP K C o1).r H7 v3' → tz D [some (.ref b), some vt, some v3', some v5, some (.int (sty : Int))] H7) →
          tSeq (tIfS (tAnd (tTest (tOp rEq (tVar 4) (tC (.int 1)))) (tTest (tOp rEq (tOp (rIxT K) (tOp (rIxT K) (tVar 1) (tC (.int 1))) (tC (.int 0))) (tC (.str "seen"))))) (tAsg (tOp (rIxT K) (tOp (rIxT K) (tVar 1) (tC (.int 1))) (tC (.int 1))) (gName 2)) tNext) tz D [some (.ref b), some vt, some v3, some v5, some (.int (sty : Int))] H6 := by
        have hka : ∀ {H7} {y2 y3 y4 : Option V}, Kp H6 H7 → Er (tOp (rIxT K) (tVar 1) (tC (.int 1))) [some (.ref b), some vt, y2, y3, y4] H7 (TreeP K a) := fun e => er_ixT (i := 1) (hT (k6.trans e)) er_is rfl
        by_cases hc : sty = 1 ∧ ∃ s, a = .seen s
        · obtain ⟨h1, s, rfl⟩ := hc
          refine ⟨.inr s, rfl, ht.1, fun h => absurd h1 h, fun D tz kk => ?_⟩
          refine q_whenT (b := true && true) (et_and (et_is (et_testR (er_eqI (er_var (i := 4) rfl rfl) er_is)) (by rw [h1]; rfl)) fun _ => et_is (et_testR (er_eqS (er_head (hka (Kp.refl H6))) er_is)) (show decide (("seen" : Str) = "seen") = true by decide +kernel)) rfl fun H7 e7 => ?_
          exact s_asgR (R := Sy s) (er_ixT (i := 1) (hka (kp_ex e7)) er_is rfl) fun v H8 e8 r8 => kk H8 v (e7.trans e8) r8
        · refine ⟨.inl a, rfl, trivial, fun _ => rfl, fun D tz kk => ?_⟩
          by_cases h1 : sty = 1
          · have hns : decide (headS a = "seen") = false := by
              cases a with
              | seen s => exact absurd ⟨h1, s, rfl⟩ hc
              | _ => first | exact (by decide +kernel : decide (("1" : Str) = "seen") = false) | exact (by decide +kernel : decide (("0" : Str) = "seen") = false) | exact (by decide +kernel : decide ((">>" : Str) = "seen") = false) | exact (by decide +kernel : decide (("|" : Str) = "seen") = false) | exact (by decide +kernel : decide (("&" : Str) = "seen") = false) | exact (by decide +kernel : decide (("*" : Str) = "seen") = false)
            refine q_whenF (b := true && false) (et_and (et_is (et_testR (er_eqI (er_var (i := 4) rfl rfl) er_is)) (by rw [h1]; rfl)) fun _ => et_is (et_testR (er_eqS (er_head (hka (Kp.refl H6))) er_is)) hns) rfl fun H7 e7 => kk H7 v3 e7 ((RuleP K C a).up e7 ra)
          · refine q_whenF (b := false && false) (et_and (et_is (et_testR (er_eqI (er_var (i := 4) rfl rfl) er_is)) (by rw [decide_eq_false_iff_not]; omega)) fun z => by cases z) rfl fun H7 e7 => kk H7 v3 e7 ((RuleP K C a).up e7 ra)
      obtain ⟨o1, ho1, ok1, left1, run1⟩ := st1
      refine run1 _ _ fun H7 w3 e7 rw3 => ?_
      have st2 : ∃ o2 : K54.T Str ⊕ Str, othT o2 = b' ∧ othOk o2 ∧ (sty ≠ 2 → o2.isLeft = true) ∧ ∀ (D : Ends) (tz : TS), (∀ H8 v5', Ex H7 H8 → (OthP K C o2).r H8 v5' → tz D [some (.ref b), some vt, some w3, some v5', some (.int (sty : Int))] H8) →
          tSeq (tIfS (tAnd (tTest (tOp rEq (tVar 4) (tC (.int 2)))) (tTest (tOp rEq (tOp (rIxT K) (tOp (rIxT K) (tVar 1) (tC (.int 2))) (tC (.int 0))) (tC (.str "seen"))))) (tAsg (tOp (rIxT K) (tOp (rIxT K) (tVar 1) (tC (.int 2))) (tC (.int 1))) (gName 3)) tNext) tz D [some (.ref b), some vt, some w3, some v5, some (.int (sty : Int))] H7 := by
        have hka : ∀ {H8} {y2 y3 y4 : Option V}, Kp H7 H8 → Er (tOp (rIxT K) (tVar 1) (tC (.int 2))) [some (.ref b), some vt, y2, y3, y4] H8 (TreeP K b') := fun e => er_ixT (i := 2) (hT ((k6.trans (kp_ex e7)).trans e)) er_is rfl
        have rb7 := (RuleP K C b').up e7 rb
        by_cases hc : sty = 2 ∧ ∃ s, b' = .seen s
        · obtain ⟨h1, s, rfl⟩ := hc
          refine ⟨.inr s, rfl, ht.2, fun h => absurd h1 h, fun D tz kk => ?_⟩
          refine q_whenT (b := true && true) (et_and (et_is (et_testR (er_eqI (er_var (i := 4) rfl rfl) er_is)) (by rw [h1]; rfl)) fun _ => et_is (et_testR (er_eqS (er_head (hka (Kp.refl H7))) er_is)) (show decide (("seen" : Str) = "seen") = true by decide +kernel)) rfl fun H8 e8 => ?_
          exact s_asgR (R := Sy s) (er_ixT (i := 1) (hka (kp_ex e8)) er_is rfl) fun v H9 e9 r9 => kk H9 v (e8.trans e9) r9
        · refine ⟨.inl b', rfl, trivial, fun _ => rfl, fun D tz kk => ?_⟩
          by_cases h1 : sty = 2
          · have hns : decide (headS b' = "seen") = false := by
              cases b' with
              | seen s => exact absurd ⟨h1, s, rfl⟩ hc
              | _ => first | exact (by decide +kernel : decide (("1" : Str) = "seen") = false) | exact (by decide +kernel : decide (("0" : Str) = "seen") = false) | exact (by decide +kernel : decide ((">>" : Str) = "seen") = false) | exact (by decide +kernel : decide (("|" : Str) = "seen") = false) | exact (by decide +kernel : decide (("&" : Str) = "seen") = false) | exact (by decide +kernel : decide (("*" : Str) = "seen") = false)
            refine q_whenF (b := true && false) (et_and (et_is (et_testR (er_eqI (er_var (i := 4) rfl rfl) er_is)) (by rw [h1]; rfl)) fun _ => et_is (et_testR (er_eqS (er_head (hka (Kp.refl H7))) er_is)) hns) rfl fun H8 e8 => kk H8 v5 e8 ((RuleP K C b').up e8 rb7)
          · refine q_whenF (b := false && false) (et_and (et_is (et_testR (er_eqI (er_var (i := 4) rfl rfl) er_is)) (by rw [decide_eq_false_iff_not]; omega)) fun z => by cases z) rfl fun H8 e8 => kk H8 v5 e8 ((RuleP K C b').up e8 rb7)
      obtain ⟨o2, ho2, ok2, left2, run2⟩ := st2
      refine run2 _ _ fun H8 w5 e8 rw5 => ?_
      have hl : o1.isLeft = true ∨ o2.isLeft = true := by
        by_cases h1 : sty = 1
        · exact .inr (left2 (by omega))
        · exact .inl (left1 h1)
      have e78 := e7.trans e8
      have k8 := k6.trans (kp_ex e78)
      have fin : ∀ H9 v, Ex H8 H9 → (RuleP K C (.thn (othT o1) (othT o2))).r H9 v → Q v H9 := fun H9 v e9 r9 => by
        rw [ho1, ho2] at r9
        exact q H9 v (x06.trans (exb_ex (e78.trans e9))) ((hx6.up (e78.trans e9)).le (by omega)) r9
      have rw3' := (OthP K C o1).up e8 rw3
      refine q_whenT (eq (y := ">>") rfl k8) (by decide +kernel) fun H9 e9 => ?_
      exact s_retR (er_bin (mk := .thn) (o1 := o1) (o2 := o2) (er_var (i := 2) rfl ((OthP K C o1).up e9 rw3')) (er_var (i := 3) rfl ((OthP K C o2).up e9 rw5)) ok1 ok2 hl) fun v H10 e10 r10 => fin H10 v (e9.trans e10) r10
    | alt a b' =>
      have hda : dep a < k := Nat.lt_of_le_of_lt (Nat.le_max_left (dep a) (dep b')) (Nat.lt_of_succ_lt_succ hd)
      have hdb : dep b' < k := Nat.lt_of_le_of_lt (Nat.le_max_right (dep a) (dep b')) (Nat.lt_of_succ_lt_succ hd)
      have hmc : mc (.alt a b') = mc a + mc b' + 1 := rfl
      rw [hmc] at hn q
      refine q_whenF (eq (y := "|") rfl (Kp.refl H)) (by decide +kernel) fun H1 e1 => ?_
      refine q_whenF (in01 (y := "|") rfl (kp_ex e1)) (by decide +kernel) fun H2 e2 => ?_
      have e12 := e1.trans e2
      refine t_made (n := n) (t := a) (ev_var rfl) (er_ixT (i := 1) (hT (kp_ex e12)) er_is rfl) hda (hbx.up e12) (by omega) ht.1 fun H3 v3 x3 hx3 r3 => ?_
      have k3 : Kp H H3 := bx_kp ((exb_ex e12).trans x3) hbx hx3
      refine q_whenF (eq (y := "|") rfl k3) (by decide +kernel) fun H4 e4 => ?_
      have k4 := Kp.trans k3 (kp_ex e4)
      have x4 := ((exb_ex e12).trans x3).trans (exb_ex e4)
      refine t_made (n := n + mc a) (t := b') (ev_var rfl) (er_ixT (i := 2) (hT k4) er_is rfl) hdb (hx3.up e4) (by omega) ht.2 fun H5 v5 x5 hx5 r5 => ?_
      have k45 : Kp H4 H5 := bx_kp x5 (hx3.up e4) hx5
      refine t_take (n := n + mc a + mc b') (sz := 3) (ev_var rfl) er_is hx5 (by omega) (by decide) (by decide) fun H6 sty hsty x6 hx6 => ?_
      have k56 : Kp H5 H6 := bx_kp x6 hx5 hx6
      have k6 := (k4.trans k45).trans k56
      have x06 := (x4.trans x5).trans x6
      have ra : (RuleP K C a).r H6 v3 := im_rule (((kp_ex e4).trans k45).trans k56) r3
      have rb : (RuleP K C b').r H6 v5 := im_rule k56 r5
      refine ⟨_, _, rfl, ?_⟩
      -- style 1: the name in the first one's place
      have st1 : ∃ o1 : K54.T Str ⊕ Str, othT o1 = a ∧ othOk o1 ∧ (sty ≠ 1 → o1.isLeft = true) ∧ ∀ (D : Ends) (tz : TS), (∀ H7 v3', Ex H6 H7 → (OthP K C o1).r H7 v3' → tz D [some (.ref b), some vt, some v3', some v5, some (.int (sty : Int))] H7) →
          tSeq (tIfS (tAnd (tTest (tOp rEq (tVar 4) (tC (.int 1)))) (tTest (tOp rEq (tOp (rIxT K) (tOp (rIxT K) (tVar 1) (tC (.int 1))) (tC (.int 0))) (tC (.str "seen"))))) (tAsg (tOp (rIxT K) (tOp (rIxT K) (tVar 1) (tC (.int 1))) (tC (.int 1))) (gName 2)) tNext) tz D [some (.ref b), some vt, some v3, some v5, some (.int (sty : Int))] H6 := by
        have hka : ∀ {H7} {y2 y3 y4 : Option V}, Kp H6 H7 → Er (tOp (rIxT K) (tVar 1) (tC (.int 1))) [some (.ref b), some vt, y2, y3, y4] H7 (TreeP K a) := fun e => er_ixT (i := 1) (hT (k6.trans e)) er_is rfl
        by_cases hc : sty = 1 ∧ ∃ s, a = .seen s
        · obtain ⟨h1, s, rfl⟩ := hc
          refine ⟨.inr s, rfl, ht.1, fun h => absurd h1 h, fun D tz kk => ?_⟩
          refine q_whenT (b := true && true) (et_and (et_is (et_testR (er_eqI (er_var (i := 4) rfl rfl) er_is)) (by rw [h1]; rfl)) fun _ => et_is (et_testR (er_eqS (er_head (hka (Kp.refl H6))) er_is)) (show decide (("seen" : Str) = "seen") = true by decide +kernel)) rfl fun H7 e7 => ?_
          exact s_asgR (R := Sy s) (er_ixT (i := 1) (hka (kp_ex e7)) er_is rfl) fun v H8 e8 r8 => kk H8 v (e7.trans e8) r8
        · refine ⟨.inl a, rfl, trivial, fun _ => rfl, fun D tz kk => ?_⟩
          by_cases h1 : sty = 1
          · have hns : decide (headS a = "seen") = false := by
              cases a with
              | seen s => exact absurd ⟨h1, s, rfl⟩ hc
              | _ => first | exact (by decide +kernel : decide (("1" : Str) = "seen") = false) | exact (by decide +kernel : decide (("0" : Str) = "seen") = false) | exact (by decide +kernel : decide ((">>" : Str) = "seen") = false) | exact (by decide +kernel : decide (("|" : Str) = "seen") = false) | exact (by decide +kernel : decide (("&" : Str) = "seen") = false) | exact (by decide +kernel : decide (("*" : Str) = "seen") = false)
            refine q_whenF (b := true && false) (et_and (et_is (et_testR (er_eqI (er_var (i := 4) rfl rfl) er_is)) (by rw [h1]; rfl)) fun _ => et_is (et_testR (er_eqS (er_head (hka (Kp.refl H6))) er_is)) hns) rfl fun H7 e7 => kk H7 v3 e7 ((RuleP K C a).up e7 ra)
          · refine q_whenF (b := false && false) (et_and (et_is (et_testR (er_eqI (er_var (i := 4) rfl rfl) er_is)) (by rw [decide_eq_false_iff_not]; omega)) fun z => by cases z) rfl fun H7 e7 => kk H7 v3 e7 ((RuleP K C a).up e7 ra)
      obtain ⟨o1, ho1, ok1, left1, run1⟩ := st1
      refine run1 _ _ fun H7 w3 e7 rw3 => ?_
      have st2 : ∃ o2 : K54.T Str ⊕ Str, othT o2 = b' ∧ othOk o2 ∧ (sty ≠ 2 → o2.isLeft = true) ∧ ∀ (D : Ends) (tz : TS), (∀ H8 v5', Ex H7 H8 → (OthP K C o2).r H8 v5' → tz D [some (.ref b), some vt, some w3, some v5', some (.int (sty : Int))] H8) →
          tSeq (tIfS (tAnd (tTest (tOp rEq (tVar 4) (tC (.int 2)))) (tTest (tOp rEq (tOp (rIxT K) (tOp (rIxT K) (tVar 1) (tC (.int 2))) (tC (.int 0))) (tC (.str "seen"))))) (tAsg (tOp (rIxT K) (tOp (rIxT K) (tVar 1) (tC (.int 2))) (tC (.int 1))) (gName 3)) tNext) tz D [some (.ref b), some vt, some w3, some v5, some (.int (sty : Int))] H7 := by
        have hka : ∀ {H8} {y2 y3 y4 : Option V}, Kp H7 H8 → Er (tOp (rIxT K) (tVar 1) (tC (.int 2))) [some (.ref b), some vt, y2, y3, y4] H8 (TreeP K b') := fun e => er_ixT (i := 2) (hT ((k6.trans (kp_ex e7)).trans e)) er_is rfl
        have rb7 := (RuleP K C b').up e7 rb
        by_cases hc : sty = 2 ∧ ∃ s, b' = .seen s
        · obtain ⟨h1, s, rfl⟩ := hc
          refine ⟨.inr s, rfl, ht.2, fun h => absurd h1 h, fun D tz kk => ?_⟩
          refine q_whenT (b := true && true) (et_and (et_is (et_testR (er_eqI (er_var (i := 4) rfl rfl) er_is)) (by rw [h1]; rfl)) fun _ => et_is (et_testR (er_eqS (er_head (hka (Kp.refl H7))) er_is)) (show decide (("seen" : Str) = "seen") = true by decide +kernel)) rfl fun H8 e8 => ?_
          exact s_asgR (R := Sy s) (er_ixT (i := 1) (hka (kp_ex e8)) er_is rfl) fun v H9 e9 r9 => kk H9 v (e8.trans e9) r9
        · refine ⟨.inl b', rfl, trivial, fun _ => rfl, fun D tz kk => ?_⟩
          by_cases h1 : sty = 2
          · have hns : decide (headS b' = "seen") = false := by
              cases b' with
              | seen s => exact absurd ⟨h1, s, rfl⟩ hc
              | _ => first | exact (by decide +kernel : decide (("1" : Str) = "seen") = false) | exact (by decide +kernel : decide (("0" : Str) = "seen") = false) | exact (by decide +kernel : decide ((">>" : Str) = "seen") = false) | exact (by decide +kernel : decide (("|" : Str) = "seen") = false) | exact (by decide +kernel : decide (("&" : Str) = "seen") = false) | exact (by decide +kernel : decide (("*" : Str) = "seen") = false)
            refine q_whenF (b := true && false) (et_and (et_is (et_testR (er_eqI (er_var (i := 4) rfl rfl) er_is)) (by rw [h1]; rfl)) fun _ => et_is (et_testR (er_eqS (er_head (hka (Kp.refl H7))) er_is)) hns) rfl fun H8 e8 => kk H8 v5 e8 ((RuleP K C b').up e8 rb7)
          · refine q_whenF (b := false && false) (et_and (et_is (et_testR (er_eqI (er_var (i := 4) rfl rfl) er_is)) (by rw [decide_eq_false_iff_not]; omega)) fun z => by cases z) rfl fun H8 e8 => kk H8 v5 e8 ((RuleP K C b').up e8 rb7)
      obtain ⟨o2, ho2, ok2, left2, run2⟩ := st2
      refine run2 _ _ fun H8 w5 e8 rw5 => ?_
      have hl : o1.isLeft = true ∨ o2.isLeft = true := by
        by_cases h1 : sty = 1
        · exact .inr (left2 (by omega))
        · exact .inl (left1 h1)
      have e78 := e7.trans e8
      have k8 := k6.trans (kp_ex e78)
      have fin : ∀ H9 v, Ex H8 H9 → (RuleP K C (.alt (othT o1) (othT o2))).r H9 v → Q v H9 := fun H9 v e9 r9 => by
        rw [ho1, ho2] at r9
        exact q H9 v (x06.trans (exb_ex (e78.trans e9))) ((hx6.up (e78.trans e9)).le (by omega)) r9
      have rw3' := (OthP K C o1).up e8 rw3
      refine q_whenF (eq (y := "|") rfl k8) (by decide +kernel) fun H9 e9 => ?_
      exact s_retR (R := RuleP K C (.alt (othT o1) (othT o2))) (er_if (b := true) (et_is (eq (y := "|") rfl (k8.trans (kp_ex e9))) (by decide +kernel)) (fun _ => er_bin (mk := .alt) (o1 := o1) (o2 := o2) (er_var (i := 2) rfl ((OthP K C o1).up e9 rw3')) (er_var (i := 3) rfl ((OthP K C o2).up e9 rw5)) ok1 ok2 hl) (fun z => by cases z)) fun v H10 e10 r10 => fin H10 v (e9.trans e10) r10
    | all a b' =>
      have hda : dep a < k := Nat.lt_of_le_of_lt (Nat.le_max_left (dep a) (dep b')) (Nat.lt_of_succ_lt_succ hd)
      have hdb : dep b' < k := Nat.lt_of_le_of_lt (Nat.le_max_right (dep a) (dep b')) (Nat.lt_of_succ_lt_succ hd)
      have hmc : mc (.all a b') = mc a + mc b' + 1 := rfl
      rw [hmc] at hn q
      refine q_whenF (eq (y := "&") rfl (Kp.refl H)) (by decide +kernel) fun H1 e1 => ?_
      refine q_whenF (in01 (y := "&") rfl (kp_ex e1)) (by decide +kernel) fun H2 e2 => ?_
      have e12 := e1.trans e2
      refine t_made (n := n) (t := a) (ev_var rfl) (er_ixT (i := 1) (hT (kp_ex e12)) er_is rfl) hda (hbx.up e12) (by omega) ht.1 fun H3 v3 x3 hx3 r3 => ?_
      have k3 : Kp H H3 := bx_kp ((exb_ex e12).trans x3) hbx hx3
      refine q_whenF (eq (y := "&") rfl k3) (by decide +kernel) fun H4 e4 => ?_
      have k4 := Kp.trans k3 (kp_ex e4)
      have x4 := ((exb_ex e12).trans x3).trans (exb_ex e4)
      refine t_made (n := n + mc a) (t := b') (ev_var rfl) (er_ixT (i := 2) (hT k4) er_is rfl) hdb (hx3.up e4) (by omega) ht.2 fun H5 v5 x5 hx5 r5 => ?_
      have k45 : Kp H4 H5 := bx_kp x5 (hx3.up e4) hx5
      refine t_take (n := n + mc a + mc b') (sz := 3) (ev_var rfl) er_is hx5 (by omega) (by decide) (by decide) fun H6 sty hsty x6 hx6 => ?_
      have k56 : Kp H5 H6 := bx_kp x6 hx5 hx6
      have k6 := (k4.trans k45).trans k56
      have x06 := (x4.trans x5).trans x6
      have ra : (RuleP K C a).r H6 v3 := im_rule (((kp_ex e4).trans k45).trans k56) r3
      have rb : (RuleP K C b').r H6 v5 := im_rule k56 r5
      refine ⟨_, _, rfl, ?_⟩
      -- style 1: the name in the first one's place
      have st1 : ∃ o1 : K54.T Str ⊕ Str, othT o1 = a ∧ othOk o1 ∧ (sty ≠ 1 → o1.isLeft = true) ∧ ∀ (D : Ends) (tz : TS), (∀ H7 v3', Ex H6 H7 → (OthP K C o1).r H7 v3' → tz D [some (.ref b), some vt, some v3', some v5, some (.int (sty : Int))] H7) →
          tSeq (tIfS (tAnd (tTest (tOp rEq (tVar 4) (tC (.int 1)))) (tTest (tOp rEq (tOp (rIxT K) (tOp (rIxT K) (tVar 1) (tC (.int 1))) (tC (.int 0))) (tC (.str "seen"))))) (tAsg (tOp (rIxT K) (tOp (rIxT K) (tVar 1) (tC (.int 1))) (tC (.int 1))) (gName 2)) tNext) tz D [some (.ref b), some vt, some v3, some v5, some (.int (sty : Int))] H6 := by
        have hka : ∀ {H7} {y2 y3 y4 : Option V}, Kp H6 H7 → Er (tOp (rIxT K) (tVar 1) (tC (.int 1))) [some (.ref b), some vt, y2, y3, y4] H7 (TreeP K a) := fun e => er_ixT (i := 1) (hT (k6.trans e)) er_is rfl
        by_cases hc : sty = 1 ∧ ∃ s, a = .seen s
        · obtain ⟨h1, s, rfl⟩ := hc
          refine ⟨.inr s, rfl, ht.1, fun h => absurd h1 h, fun D tz kk => ?_⟩
          refine q_whenT (b := true && true) (et_and (et_is (et_testR (er_eqI (er_var (i := 4) rfl rfl) er_is)) (by rw [h1]; rfl)) fun _ => et_is (et_testR (er_eqS (er_head (hka (Kp.refl H6))) er_is)) (show decide (("seen" : Str) = "seen") = true by decide +kernel)) rfl fun H7 e7 => ?_
          exact s_asgR (R := Sy s) (er_ixT (i := 1) (hka (kp_ex e7)) er_is rfl) fun v H8 e8 r8 => kk H8 v (e7.trans e8) r8
        · refine ⟨.inl a, rfl, trivial, fun _ => rfl, fun D tz kk => ?_⟩
          by_cases h1 : sty = 1
          · have hns : decide (headS a = "seen") = false := by
              cases a with
              | seen s => exact absurd ⟨h1, s, rfl⟩ hc
              | _ => first | exact (by decide +kernel : decide (("1" : Str) = "seen") = false) | exact (by decide +kernel : decide (("0" : Str) = "seen") = false) | exact (by decide +kernel : decide ((">>" : Str) = "seen") = false) | exact (by decide +kernel : decide (("|" : Str) = "seen") = false) | exact (by decide +kernel : decide (("&" : Str) = "seen") = false) | exact (by decide +kernel : decide (("*" : Str) = "seen") = false)
            refine q_whenF (b := true && false) (et_and (et_is (et_testR (er_eqI (er_var (i := 4) rfl rfl) er_is)) (by rw [h1]; rfl)) fun _ => et_is (et_testR (er_eqS (er_head (hka (Kp.refl H6))) er_is)) hns) rfl fun H7 e7 => kk H7 v3 e7 ((RuleP K C a).up e7 ra)
          · refine q_whenF (b := false && false) (et_and (et_is (et_testR (er_eqI (er_var (i := 4) rfl rfl) er_is)) (by rw [decide_eq_false_iff_not]; omega)) fun z => by cases z) rfl fun H7 e7 => kk H7 v3 e7 ((RuleP K C a).up e7 ra)
      obtain ⟨o1, ho1, ok1, left1, run1⟩ := st1
      refine run1 _ _ fun H7 w3 e7 rw3 => ?_
      have st2 : ∃ o2 : K54.T Str ⊕ Str, othT o2 = b' ∧ othOk o2 ∧ (sty ≠ 2 → o2.isLeft = true) ∧ ∀ (D : Ends) (tz : TS), (∀ H8 v5', Ex H7 H8 → (OthP K C o2).r H8 v5' → tz D [some (.ref b), some vt, some w3, some v5', some (.int (sty : Int))] H8) →
          tSeq (tIfS (tAnd (tTest (tOp rEq (tVar 4) (tC (.int 2)))) (tTest (tOp rEq (tOp (rIxT K) (tOp (rIxT K) (tVar 1) (tC (.int 2))) (tC (.int 0))) (tC (.str "seen"))))) (tAsg (tOp (rIxT K) (tOp (rIxT K) (tVar 1) (tC (.int 2))) (tC (.int 1))) (gName 3)) tNext) tz D [some (.ref b), some vt, some w3, some v5, some (.int (sty : Int))] H7 := by
        have hka : ∀ {H8} {y2 y3 y4 : Option V}, Kp H7 H8 → Er (tOp (rIxT K) (tVar 1) (tC (.int 2))) [some (.ref b), some vt, y2, y3, y4] H8 (TreeP K b') := fun e => er_ixT (i := 2) (hT ((k6.trans (kp_ex e7)).trans e)) er_is rfl
        have rb7 := (RuleP K C b').up e7 rb
        by_cases hc : sty = 2 ∧ ∃ s, b' = .seen s
        · obtain ⟨h1, s, rfl⟩ := hc
          refine ⟨.inr s, rfl, ht.2, fun h => absurd h1 h, fun D tz kk => ?_⟩
          refine q_whenT (b := true && true) (et_and (et_is (et_testR (er_eqI (er_var (i := 4) rfl rfl) er_is)) (by rw [h1]; rfl)) fun _ => et_is (et_testR (er_eqS (er_head (hka (Kp.refl H7))) er_is)) (show decide (("seen" : Str) = "seen") = true by decide +kernel)) rfl fun H8 e8 => ?_
          exact s_asgR (R := Sy s) (er_ixT (i := 1) (hka (kp_ex e8)) er_is rfl) fun v H9 e9 r9 => kk H9 v (e8.trans e9) r9
        · refine ⟨.inl b', rfl, trivial, fun _ => rfl, fun D tz kk => ?_⟩
          by_cases h1 : sty = 2
          · have hns : decide (headS b' = "seen") = false := by
              cases b' with
              | seen s => exact absurd ⟨h1, s, rfl⟩ hc
              | _ => first | exact (by decide +kernel : decide (("1" : Str) = "seen") = false) | exact (by decide +kernel : decide (("0" : Str) = "seen") = false) | exact (by decide +kernel : decide ((">>" : Str) = "seen") = false) | exact (by decide +kernel : decide (("|" : Str) = "seen") = false) | exact (by decide +kernel : decide (("&" : Str) = "seen") = false) | exact (by decide +kernel : decide (("*" : Str) = "seen") = false)
            refine q_whenF (b := true && false) (et_and (et_is (et_testR (er_eqI (er_var (i := 4) rfl rfl) er_is)) (by rw [h1]; rfl)) fun _ => et_is (et_testR (er_eqS (er_head (hka (Kp.refl H7))) er_is)) hns) rfl fun H8 e8 => kk H8 v5 e8 ((RuleP K C b').up e8 rb7)
          · refine q_whenF (b := false && false) (et_and (et_is (et_testR (er_eqI (er_var (i := 4) rfl rfl) er_is)) (by rw [decide_eq_false_iff_not]; omega)) fun z => by cases z) rfl fun H8 e8 => kk H8 v5 e8 ((RuleP K C b').up e8 rb7)
      obtain ⟨o2, ho2, ok2, left2, run2⟩ := st2
      refine run2 _ _ fun H8 w5 e8 rw5 => ?_
      have hl : o1.isLeft = true ∨ o2.isLeft = true := by
        by_cases h1 : sty = 1
        · exact .inr (left2 (by omega))
        · exact .inl (left1 h1)
      have e78 := e7.trans e8
      have k8 := k6.trans (kp_ex e78)
      have fin : ∀ H9 v, Ex H8 H9 → (RuleP K C (.all (othT o1) (othT o2))).r H9 v → Q v H9 := fun H9 v e9 r9 => by
        rw [ho1, ho2] at r9
        exact q H9 v (x06.trans (exb_ex (e78.trans e9))) ((hx6.up (e78.trans e9)).le (by omega)) r9
      have rw3' := (OthP K C o1).up e8 rw3
      refine q_whenF (eq (y := "&") rfl k8) (by decide +kernel) fun H9 e9 => ?_
      exact s_retR (R := RuleP K C (.all (othT o1) (othT o2))) (er_if (b := false) (et_is (eq (y := "&") rfl (k8.trans (kp_ex e9))) (by decide +kernel)) (fun z => by cases z) (fun _ => er_bin (mk := .all) (o1 := o1) (o2 := o2) (er_var (i := 2) rfl ((OthP K C o1).up e9 rw3')) (er_var (i := 3) rfl ((OthP K C o2).up e9 rw5)) ok1 ok2 hl)) fun v H10 e10 r10 => fin H10 v (e9.trans e10) r10
end
end K54
/-! LE: how large a drawn tree's base gets. Plain. -/
set_option Elab.async false
set_option linter.all false
set_option maxRecDepth 100000
set_option maxHeartbeats 1000000
namespace K54
open PySem
/-- at most N words, each at most L long, of names -/
def Sz (N L : Nat) (b : List Log) : Prop := b.length ≤ N ∧ ∀ w ∈ b, w.length ≤ L ∧ ∀ s ∈ w, nameOk s.cps.toList = true
theorem Sz.sub {N L : Nat} {a b : List Log} (h : Sz N L b) (hl : a.length ≤ b.length) (hm : ∀ w ∈ a, w ∈ b) : Sz N L a := ⟨Nat.le_trans hl h.1, fun w hw => h.2 w (hm w hw)⟩
theorem Sz.up {N L N' L' : Nat} {b : List Log} (h : Sz N L b) (h1 : N ≤ N') (h2 : L ≤ L') : Sz N' L' b := ⟨Nat.le_trans h.1 h1, fun w hw => ⟨Nat.le_trans (h.2 w hw).1 h2, (h.2 w hw).2⟩⟩
theorem Sz.bok {N L : Nat} {b : List Log} (h : Sz N L b) (h1 : N < 64) (h2 : L ≤ 1000) : BOk b := ⟨Nat.lt_of_le_of_lt h.1 h1, fun w hw => ⟨Nat.le_trans (h.2 w hw).1 h2, (h.2 w hw).2⟩⟩
theorem Sz.order {N L : Nat} {b : List Log} (h : Sz N L b) : Sz N L (inOrder logO b) := h.sub (inOrder_len b) fun w hw => mem_inOrder.mp hw
theorem Sz.least {N L : Nat} {b : List Log} (h : Sz N L b) : Sz N L (leastOf logO b) := h.sub (leastOf_len b) fun w hw => leastOf_mem hw
theorem flat_len {β γ : Type} {f : β → List γ} {c : Nat} : ∀ {l : List β}, (∀ x ∈ l, (f x).length ≤ c) → (l.flatMap f).length ≤ l.length * c
  | [], _ => by simp
  | x :: l, h => by
    have h1 := h x (List.mem_cons_self ..)
    have h2 := flat_len (l := l) fun y hy => h y (List.mem_cons_of_mem _ hy)
    rw [List.flatMap_cons, List.length_append, List.length_cons, Nat.succ_mul]
    omega
theorem sz_thn {N M L L' : Nat} {a b : List Log} (ha : Sz N L a) (hb : Sz M L' b) : Sz (N * M) (L + L') (a.flatMap fun w => b.map fun m => w ++ m) := by
  refine ⟨Nat.le_trans (flat_len (c := M) fun x _ => by rw [List.length_map]; exact hb.1) (Nat.mul_le_mul_right _ ha.1), fun w hw => ?_⟩
  obtain ⟨x, hx, hw⟩ := List.mem_flatMap.mp hw
  obtain ⟨y, hy, rfl⟩ := List.mem_map.mp hw
  have h1 := ha.2 x hx
  have h2 := hb.2 y hy
  refine ⟨by rw [List.length_append]; omega, fun s hs => ?_⟩
  rcases List.mem_append.mp hs with hs | hs
  · exact h1.2 s hs
  · exact h2.2 s hs
theorem sz_app {N M L : Nat} {a b : List Log} (ha : Sz N L a) (hb : Sz M L b) : Sz (N + M) L (a ++ b) := by
  refine ⟨by rw [List.length_append]; have := ha.1; have := hb.1; omega, fun w hw => ?_⟩
  rcases List.mem_append.mp hw with hw | hw
  · exact ha.2 w hw
  · exact hb.2 w hw
theorem lb_names : ∀ (x y : Log) (z : Log), z ∈ lb logO x y → (∀ s ∈ x, nameOk s.cps.toList = true) → (∀ s ∈ y, nameOk s.cps.toList = true) → ∀ s ∈ z, nameOk s.cps.toList = true
  | [], y, z, h, _, h2 => by
    rw [lb_nil, List.mem_singleton] at h
    subst h
    exact h2
  | a :: x, [], z, h, h1, _ => by
    rw [lb_nilR, List.mem_singleton] at h
    subst h
    exact h1
  | a :: x, b :: y, z, h, h1, h2 => by
    have t1 : ∀ s ∈ x, nameOk s.cps.toList = true := fun s hs => h1 s (List.mem_cons_of_mem _ hs)
    have t2 : ∀ s ∈ y, nameOk s.cps.toList = true := fun s hs => h2 s (List.mem_cons_of_mem _ hs)
    have ha := h1 a (List.mem_cons_self ..)
    have hb := h2 b (List.mem_cons_self ..)
    have cons : ∀ {c : Str} {w : Log}, nameOk c.cps.toList = true → (∀ s ∈ w, nameOk s.cps.toList = true) → ∀ s ∈ c :: w, nameOk s.cps.toList = true := fun hc hw s hs => by
      rcases List.mem_cons.mp hs with e | hs
      · rw [e]; exact hc
      · exact hw s hs
    by_cases e : a = b
    · subst e
      rw [lb_eq] at h
      obtain ⟨w, hw, rfl⟩ := List.mem_map.mp h
      exact cons ha (lb_names x y w hw t1 t2)
    · rw [lb_ne e] at h
      have h := leastOf_mem h
      rcases List.mem_append.mp h with h | h
      · obtain ⟨w, hw, rfl⟩ := List.mem_map.mp h
        exact cons ha (lb_names x (b :: y) w hw t1 h2)
      · obtain ⟨w, hw, rfl⟩ := List.mem_map.mp h
        exact cons hb (lb_names (a :: x) y w hw h1 t2)
termination_by x y => x.length + y.length
theorem lb_two {x y : Log} (hx : x.length ≤ 1) (hy : y.length ≤ 1) : (lb logO x y).length ≤ 2 := by
  refine Nat.le_trans (lb_len x y) ?_
  have hn' : x.length = 0 ∨ x.length = 1 := by omega
  have hm' : y.length = 0 ∨ y.length = 1 := by omega
  rcases hn' with e | e <;> rcases hm' with e' | e' <;> rw [e, e'] <;> simp [lbC]
theorem sz_both {N L c : Nat} {a b : List Log} (ha : Sz N L a) (hb : Sz N L b) (hc : ∀ x y : Log, x.length ≤ L → y.length ≤ L → (lb logO x y).length ≤ c) : Sz (N * (N * c)) (L + L) (a.flatMap fun w => b.flatMap fun m => leastBoth logO w m) := by
  refine ⟨Nat.le_trans (flat_len (c := N * c) fun x hx => Nat.le_trans (flat_len (c := c) fun y hy => Nat.le_trans (leastOf_len _) (hc x y (ha.2 x hx).1 (hb.2 y hy).1)) (Nat.mul_le_mul_right _ hb.1)) (Nat.mul_le_mul_right _ ha.1), fun w hw => ?_⟩
  obtain ⟨x, hx, hw⟩ := List.mem_flatMap.mp hw
  obtain ⟨y, hy, hw⟩ := List.mem_flatMap.mp hw
  have hw := leastOf_mem hw
  have h1 := ha.2 x hx
  have h2 := hb.2 y hy
  have h3 := lb_mem_len x y w hw
  exact ⟨by omega, lb_names x y w hw h1.2 h2.2⟩
theorem td_step {ch : List Str} {d N L N' L' c M L2 : Nat} (h1 : ∀ t, TD ch d t → FitT t ∧ Sz N L (tbase logO t)) (h2 : ∀ t, TD ch (d - 1) t → FitT t ∧ Sz N' L' (tbase logO t)) (hch : ∀ s ∈ ch, nameOk s.cps.toList = true) (hc : ∀ x y : Log, x.length ≤ L' → y.length ≤ L' → (lb logO x y).length ≤ c)
    (hL' : L' ≤ 2) (m1 : N * N ≤ M) (m2 : N + N ≤ M) (m3 : N' * (N' * c) ≤ M) (m4 : 1 ≤ M) (m5 : M < 64) (l1 : L + L ≤ L2) (l2 : L' + L' ≤ L2) (l3 : 1 ≤ L2) (l4 : L2 ≤ 1000) (n1 : 1 ≤ N) : ∀ t, TD ch (d + 1) t → FitT t ∧ Sz M L2 (tbase logO t)
  | .seen s, h => by
    have hs := hch s (by unfold TD at h; exact h)
    exact ⟨hs, ⟨m4, fun w hw => by
      rw [List.mem_singleton.mp hw]
      exact ⟨l3, fun s' hs' => by rw [List.mem_singleton.mp hs']; exact hs⟩⟩⟩
  | .one, _ => ⟨trivial, ⟨m4, fun w hw => by
      rw [List.mem_singleton.mp hw]
      exact ⟨Nat.zero_le _, fun s' hs' => by cases hs'⟩⟩⟩
  | .zero, _ => ⟨trivial, ⟨Nat.zero_le _, fun w hw => by cases hw⟩⟩
  | .thn a b, h => by
    obtain ⟨fa, sa⟩ := h1 a h.1
    obtain ⟨fb, sb⟩ := h1 b h.2
    have s := (sz_thn sa sb).up m1 l1
    have bb : ∀ {x : List Log}, Sz N L x → BOk x := fun hx => hx.bok (by omega) (by omega)
    exact ⟨⟨fa, fb, bb sa, bb sb, s.bok m5 l4⟩, s.order⟩
  | .alt a b, h => by
    obtain ⟨fa, sa⟩ := h1 a h.1
    obtain ⟨fb, sb⟩ := h1 b h.2
    have s := (sz_app sa sb).up m2 (show L ≤ L2 by omega)
    exact ⟨⟨fa, fb, s.bok m5 l4⟩, s.least⟩
  | .all a b, h => by
    obtain ⟨fa, sa⟩ := h2 a h.1
    obtain ⟨fb, sb⟩ := h2 b h.2
    have s := (sz_both sa sb hc).up m3 l2
    exact ⟨⟨fa, fb, fun w hw => Nat.le_trans (sa.2 w hw).1 hL', fun w hw => Nat.le_trans (sb.2 w hw).1 hL', s.bok m5 l4⟩, s.least⟩
  | .tms a n, h => by
    obtain ⟨fa, sa⟩ := h1 a h.1
    have hn := h.2
    have z0 : Sz 1 0 (timesN logO (tbase logO a) 0) := ⟨Nat.le_refl 1, fun w hw => by
      rw [List.mem_singleton.mp hw]
      exact ⟨Nat.le_refl 0, fun s' hs' => by cases hs'⟩⟩
    have f1 := sz_thn z0 sa
    rw [Nat.one_mul, Nat.zero_add] at f1
    have z1 : Sz N L (timesN logO (tbase logO a) 1) := f1.order
    have f2 := sz_thn z1 sa
    have z2 : Sz (N * N) (L + L) (timesN logO (tbase logO a) 2) := f2.order
    have bb : ∀ {x : List Log} {p q : Nat}, Sz p q x → p ≤ M → q ≤ L2 → BOk x := fun hx hp hq => hx.bok (by omega) (by omega)
    refine ⟨⟨fa, fun k hk => ?_, by omega⟩, ?_⟩
    · have : k = 0 ∨ k = 1 := by omega
      rcases this with rfl | rfl
      · exact ⟨bb z0 (by omega) (by omega), bb sa (by omega) (by omega), bb f1 (by omega) (by omega)⟩
      · exact ⟨bb z1 (by omega) (by omega), bb sa (by omega) (by omega), bb f2 m1 l1⟩
    · have : n = 0 ∨ n = 1 ∨ n = 2 := by omega
      rcases this with rfl | rfl | rfl
      · exact z0.up m4 (by omega)
      · exact z1.up (by omega) (by omega)
      · exact z2.up m1 l1
theorem td_0 {ch : List Str} (hch : ∀ s ∈ ch, nameOk s.cps.toList = true) : ∀ t, TD ch 0 t → FitT t ∧ Sz 1 1 (tbase logO t)
  | .seen s, h => by
    have hs := hch s (by unfold TD at h; exact h)
    exact ⟨hs, ⟨Nat.le_refl 1, fun w hw => by
      rw [List.mem_singleton.mp hw]
      exact ⟨Nat.le_refl 1, fun s' hs' => by rw [List.mem_singleton.mp hs']; exact hs⟩⟩⟩
  | .one, _ => ⟨trivial, ⟨Nat.le_refl 1, fun w hw => by
      rw [List.mem_singleton.mp hw]
      exact ⟨Nat.zero_le _, fun s' hs' => by cases hs'⟩⟩⟩
  | .zero, _ => ⟨trivial, ⟨Nat.zero_le _, fun w hw => by cases hw⟩⟩
  | .thn a b, h => h.elim
  | .alt a b, h => h.elim
  | .all a b, h => h.elim
  | .tms a n, h => h.elim
theorem td_3 {ch : List Str} (hch : ∀ s ∈ ch, nameOk s.cps.toList = true) : ∀ t, TD ch 3 t → FitT t ∧ Sz 24 8 (tbase logO t) := by
  have h0 := td_0 hch
  have h1 := td_step (d := 0) (N := 1) (L := 1) (N' := 1) (L' := 1) (c := 2) (M := 2) (L2 := 2) h0 h0 hch (fun x y => lb_two) (by decide) (by decide) (by decide) (by decide) (by decide) (by decide) (by decide) (by decide) (by decide) (by decide) (by decide)
  have h2 := td_step (d := 1) (N := 2) (L := 2) (N' := 1) (L' := 1) (c := 2) (M := 4) (L2 := 4) h1 h0 hch (fun x y => lb_two) (by decide) (by decide) (by decide) (by decide) (by decide) (by decide) (by decide) (by decide) (by decide) (by decide) (by decide)
  exact td_step (d := 2) (N := 4) (L := 4) (N' := 2) (L' := 2) (c := 6) (M := 24) (L2 := 8) h2 h1 hch (fun x y => lb_six) (by decide) (by decide) (by decide) (by decide) (by decide) (by decide) (by decide) (by decide) (by decide) (by decide) (by decide)
/-! ### depth, text, steps -/
def tl (d : Nat) : Nat := match d with
  | 0 => 8
  | d + 1 => 2 * tl d + 12
theorem name_short {s : Str} (h : nameOk s.cps.toList = true) : (cpsS s).length ≤ 8 := by
  have := name_len h
  show s.cps.toList.length ≤ 8
  rw [Array.length_toList]
  exact this
theorem wrap_two (t : K54.T Str) (k : Nat) (x : Sym) : (wrapL t k x).length ≤ x.length + 2 := by
  unfold wrapL
  split
  · omega
  · simp only [List.length_cons, List.length_append, List.length_nil]
    omega
theorem tl_pred : ∀ d, tl (d - 1) ≤ tl d
  | 0 => Nat.le_refl _
  | d + 1 => by
    show tl d ≤ 2 * tl d + 12
    omega
theorem tl_pos : ∀ d, 8 ≤ tl d
  | 0 => Nat.le_refl _
  | d + 1 => by
    have := tl_pos d
    show 8 ≤ 2 * tl d + 12
    omega
structure Few (t : K54.T Str) (d : Nat) : Prop where
  dep_ : dep t ≤ d
  ok : TOk cpsS t
  len : (textL cpsS t).length ≤ tl d
  hm_ : hm t ≤ 5 * d
  mc_ : mc t + 1 ≤ 2 ^ d
theorem pow_pred (d : Nat) : 2 ^ (d - 1) ≤ 2 ^ d := Nat.pow_le_pow_right (by decide) (Nat.sub_le _ _)
theorem td_few {ch : List Str} (hch : ∀ s ∈ ch, nameOk s.cps.toList = true) : ∀ (t : K54.T Str) (d : Nat), TD ch d t → Few t d
  | .seen s, d, h => by
    have hs := hch s (by unfold TD at h; exact h)
    exact ⟨Nat.zero_le _, hs, Nat.le_trans (name_short hs) (tl_pos d), Nat.zero_le _, Nat.one_le_two_pow⟩
  | .one, d, _ => ⟨Nat.zero_le _, trivial, Nat.le_trans (by decide) (tl_pos d), Nat.zero_le _, Nat.one_le_two_pow⟩
  | .zero, d, _ => ⟨Nat.zero_le _, trivial, Nat.le_trans (by decide) (tl_pos d), Nat.zero_le _, Nat.one_le_two_pow⟩
  | .thn a b, 0, h => h.elim
  | .alt a b, 0, h => h.elim
  | .all a b, 0, h => h.elim
  | .tms a n, 0, h => h.elim
  | .thn a b, d + 1, h => by
    have ha := td_few hch a d h.1
    have hb := td_few hch b d h.2
    refine ⟨Nat.succ_le_succ (Nat.max_le.mpr ⟨ha.dep_, hb.dep_⟩), ⟨ha.ok, hb.ok⟩, ?_, ?_, ?_⟩
    · have h1 := wrap_two a 2 (textL cpsS a)
      have h2 := wrap_two b 3 (textL cpsS b)
      have h3 := ha.len
      have h4 := hb.len
      show (wrapL a 2 (textL cpsS a) ++ [32] ++ signL 2 ++ [32] ++ wrapL b 3 (textL cpsS b)).length ≤ 2 * tl d + 12
      simp only [List.length_append, List.length_cons, List.length_nil, signL]
      omega
    · have := Nat.max_le.mpr ⟨ha.hm_, hb.hm_⟩
      show Nat.max (hm a) (hm b) + 1 ≤ 5 * (d + 1)
      have e : Nat.max (hm a) (hm b) ≤ 5 * d := this
      omega
    · have h1 := ha.mc_
      have h2 := hb.mc_
      show mc a + mc b + 1 + 1 ≤ 2 ^ (d + 1)
      rw [Nat.pow_succ]
      omega
  | .alt a b, d + 1, h => by
    have ha := td_few hch a d h.1
    have hb := td_few hch b d h.2
    refine ⟨Nat.succ_le_succ (Nat.max_le.mpr ⟨ha.dep_, hb.dep_⟩), ⟨ha.ok, hb.ok⟩, ?_, ?_, ?_⟩
    · have h1 := wrap_two a 0 (textL cpsS a)
      have h2 := wrap_two b 1 (textL cpsS b)
      have h3 := ha.len
      have h4 := hb.len
      show (wrapL a 0 (textL cpsS a) ++ [32] ++ signL 0 ++ [32] ++ wrapL b 1 (textL cpsS b)).length ≤ 2 * tl d + 12
      simp only [List.length_append, List.length_cons, List.length_nil, signL]
      omega
    · have := Nat.max_le.mpr ⟨ha.hm_, hb.hm_⟩
      show Nat.max (hm a) (hm b) + 1 ≤ 5 * (d + 1)
      have e : Nat.max (hm a) (hm b) ≤ 5 * d := this
      omega
    · have h1 := ha.mc_
      have h2 := hb.mc_
      show mc a + mc b + 1 + 1 ≤ 2 ^ (d + 1)
      rw [Nat.pow_succ]
      omega
  | .all a b, d + 1, h => by
    have ha := td_few hch a (d - 1) h.1
    have hb := td_few hch b (d - 1) h.2
    refine ⟨Nat.succ_le_succ (Nat.max_le.mpr ⟨Nat.le_trans ha.dep_ (Nat.sub_le _ _), Nat.le_trans hb.dep_ (Nat.sub_le _ _)⟩), ⟨ha.ok, hb.ok⟩, ?_, ?_, ?_⟩
    · have h1 := wrap_two a 1 (textL cpsS a)
      have h2 := wrap_two b 2 (textL cpsS b)
      have h3 := Nat.le_trans ha.len (tl_pred d)
      have h4 := Nat.le_trans hb.len (tl_pred d)
      show (wrapL a 1 (textL cpsS a) ++ [32] ++ signL 1 ++ [32] ++ wrapL b 2 (textL cpsS b)).length ≤ 2 * tl d + 12
      simp only [List.length_append, List.length_cons, List.length_nil, signL]
      omega
    · have := Nat.max_le.mpr ⟨ha.hm_, hb.hm_⟩
      show Nat.max (hm a) (hm b) + 1 ≤ 5 * (d + 1)
      have e : Nat.max (hm a) (hm b) ≤ 5 * (d - 1) := this
      omega
    · have h1 := Nat.le_trans ha.mc_ (pow_pred d)
      have h2 := Nat.le_trans hb.mc_ (pow_pred d)
      show mc a + mc b + 1 + 1 ≤ 2 ^ (d + 1)
      rw [Nat.pow_succ]
      omega
  | .tms a n, d + 1, h => by
    have ha := td_few hch a d h.1
    have hn := h.2
    refine ⟨Nat.succ_le_succ ha.dep_, ⟨ha.ok, by omega⟩, ?_, ?_, ?_⟩
    · have h1 := wrap_two a 3 (textL cpsS a)
      have h3 := ha.len
      show (wrapL a 3 (textL cpsS a) ++ [32, 42, 32] ++ digitL n).length ≤ 2 * tl d + 12
      simp only [List.length_append, List.length_cons, List.length_nil, digitL]
      omega
    · have := ha.hm_
      show hm a + 2 * n + 1 ≤ 5 * (d + 1)
      omega
    · have h1 := ha.mc_
      show mc a + 1 + 1 ≤ 2 ^ (d + 1)
      rw [Nat.pow_succ]
      omega
/-- all that a drawn tree keeps -/
structure Drawn (t : K54.T Str) : Prop where
  r : RuleOk t
  x : TxOk t
  h : hm t < 20
  m : mc t ≤ 7
  s : Sz 24 8 (tbase logO t)
theorem drawn {ch : List Str} (hch : ∀ s ∈ ch, nameOk s.cps.toList = true) {t : K54.T Str} (h : TD ch 3 t) : Drawn t := by
  obtain ⟨f, s⟩ := td_3 hch t h
  have w := td_few hch t 3 h
  have h1 := w.dep_
  have h2 := w.hm_
  have h3 : mc t + 1 ≤ 8 := w.mc_
  have h4 : (textL cpsS t).length ≤ 148 := Nat.le_trans w.len (by decide)
  exact ⟨⟨f, by omega⟩, ⟨w.ok, by omega⟩, by omega, by omega, s⟩
theorem Drawn.few {t : K54.T Str} (h : Drawn t) (hb : (tbase logO t).length < 13) : WrOk t := ⟨h.r, h.x, hb, fun w hw => ⟨⟨Nat.le_trans (h.s.2 w hw).1 (by decide), (h.s.2 w hw).2⟩, (h.s.2 w hw).1⟩⟩
end K54
/-! LF0: t[::-1] of a tuple. -/
set_option Elab.async false
set_option linter.all false
set_option maxRecDepth 100000
set_option maxHeartbeats 1000000
namespace K54
open PySem PySem.W PySem.Calls PyProof.Rows L2 HT
section
variable {prog : Program} {w : World} {A : Around} {E : Value → Shared → Prop} {s : Shared}
theorem adjust_rev (n : Nat) : Builtin.Slice.sliceAdjust none none (-1) (n : Int) = ((n : Int) - 1, -1) := by
  unfold Builtin.Slice.sliceAdjust
  rfl
theorem places_rev (n : Nat) : Builtin.Slice.slicePlaces ((n : Int) - 1) (-1) (-1) = n := by
  unfold Builtin.Slice.slicePlaces
  have h1 : ¬ ((-1 : Int) > 0) := by decide
  rw [if_neg h1]
  have e : -(-1 : Int) = 1 := by decide
  rw [e, Int.ediv_one]
  split <;> omega
theorem pick_rev (xs : Array Value) : ((List.range xs.size).filterMap fun (k : Nat) => xs[(((xs.size : Int) - 1) + (k : Int) * (-1)).toNat]?).toArray = xs.toList.reverse.toArray := by
  have h := PySem.W.krv_pick xs
  unfold slicePick at h
  rw [PySem.W.krv_bounds] at h
  have h : ((sliceRange ((xs.size : Int) - 1) (-1) (-1)).filterMap (xs[·]?)).toArray = xs.toList.reverse.toArray := h
  rw [PySem.W.krv_sliceRange, List.filterMap_map] at h
  rw [← h]
  congr 2
  funext k
  show xs[(((xs.size : Int) - 1) + (k : Int) * (-1)).toNat]? = xs[xs.size - 1 - k]?
  rw [show (((xs.size : Int) - 1) + (k : Int) * (-1)).toNat = xs.size - 1 - k by omega]
theorem sliceApplied_rev {sl : Addr} {vl vu vs : Value} {n : Nat} {Q : Int × Int × Nat → Shared → Prop} (hs : s.heap.IsSliceOf sl vl vu vs) (pl : IsPart vl none) (pu : IsPart vu none) (ps : IsPart vs (some (-1)))
    (h : Q ((n : Int) - 1, -1, n) s) : wpAny (model prog w) A (Builtin.Slice.sliceApplied (.ref sl) (pure (n : Int))) Q E s := by
  obtain ⟨os, hos, hcs, hds⟩ := id hs
  unfold Builtin.Slice.sliceApplied Builtin.Slice.sliceFields
  refine wpAny_bind (wpAny_bind (wpAny_field hos hds (x := vl) rfl (wpAny_bind (wpAny_field hos hds (x := vu) rfl (wpAny_bind (wpAny_field hos hds (x := vs) rfl (wpAny_pure ?_)))))))
  refine wpAny_bind (HT.slicePart_ ps ?_)
  show wpAny _ _ (if ((-1 : Int) == 0) = true then _ else _) _ _ s
  rw [if_neg (by decide)]
  refine wpAny_bind (HT.slicePart_ pl (wpAny_bind (HT.slicePart_ pu (wpAny_bind (wpAny_pure ?_)))))
  show wpAny _ _ (match Builtin.Slice.sliceAdjust none none (-1) (n : Int) with | (lo, hi) => pure (lo, (-1 : Int), Builtin.Slice.slicePlaces lo hi (-1))) _ _ s
  rw [adjust_rev n]
  show wpAny _ _ (pure ((n : Int) - 1, (-1 : Int), Builtin.Slice.slicePlaces ((n : Int) - 1) (-1) (-1))) _ _ s
  rw [places_rev]
  exact wpAny_pure h
theorem getItem_tuple_rev {t sl : Addr} {items : Array Value} {vl vu vs : Value} {Q : Value → Shared → Prop} (ht : IsTup s.heap t items) (hs : s.heap.IsSliceOf sl vl vu vs) (pl : IsPart vl none) (pu : IsPart vu none) (ps : IsPart vs (some (-1)))
    (h : Q (.ref s.heap.objs.size) { s with heap := s.heap.push { cls := .type "tuple", data := .seq items.toList.reverse.toArray } })
    (hsz : items.size ≤ sizeLine) : wpAny (model prog w) A (getItem (.ref t) (.ref sl)) Q E s := by
  have htake : sizeOk (.seq items.toList.reverse.toArray) := by
    show items.toList.reverse.toArray.size ≤ sizeLine
    rw [List.size_toArray, List.length_reverse, Array.length_toList]
    exact hsz
  obtain ⟨os, hos, hcs, hds⟩ := id hs
  have hTs : s.TypeIs (.ref sl) "slice" := ⟨os, hos, hcs⟩
  unfold getItem
  try with_reducible refine wpAny_holding ?_
  first | refine wpAny_bind (wpAny_pure ?_) | skip
  refine wpAny_bind (wpAny_sequenceKey ht.typeIs (by decide) ?_)
  refine wpAny_bind (wpAny_callSpecial?_slot (name := Str.ofString "__getitem__") ht.typeIs PyProof.Rows.slot_tuple_getitem
    (wpAny_call_entry PyProof.Rows.slot_tuple_getitem ht.typeIs entry_tuple_getitem ?_ (args_tuple_getitem _ _)))
  show wpAny _ _ (Builtin.Tuple.tupleItemsOf (.ref t) >>= _) _ _ s
  refine wpAny_bind (tupleItemsOf_ ht ?_)
  refine wpAny_bind (wpAny_typeOf hTs ?_)
  rw [if_pos (by decide)]
  refine wpAny_bind (sliceApplied_rev hs pl pu ps ?_)
  have hno : ¬ ((((items.size : Int) - 1) == 0 && (-1 : Int) == 1 && items.size == items.size) = true) := by
    intro q
    rw [Bool.and_eq_true, Bool.and_eq_true] at q
    have q1 : (-1 : Int) = 1 := eq_of_beq q.1.2
    omega
  show wpAny _ _ (if ((((items.size : Int) - 1) == 0 && (-1 : Int) == 1 && items.size == items.size) = true) then _ else _) _ _ s
  rw [if_neg hno, pick_rev]
  first
    | exact wpAny_bind (m := Builtin.Tuple.tupleExact _) (wpAny_newObj_type (wpAny_pure ⟨_, rfl, wpAny_pure h⟩) htake)
    | exact wpAny_bind (m := Builtin.Tuple.tupleExact _) (wpAny_newObj_type (wpAny_bind (wpAny_pure (wpAny_pure ⟨_, rfl, wpAny_pure h⟩))) htake)
    | exact wpAny_bind (wpAny_bind (m := Builtin.Tuple.tupleExact _) (wpAny_newObj_type (wpAny_pure (wpAny_pure ⟨_, rfl, wpAny_pure h⟩)) htake))
    | exact wpAny_bind (wpAny_bind (m := Builtin.Tuple.tupleExact _) (wpAny_newObj_type (wpAny_pure ⟨_, rfl, wpAny_pure h⟩) htake))
end
end K54
namespace K54
open PySem PySem.W PySem.Calls PyProof.Rows L2 Evl
section
variable {X : Cx}
/-- t[::-1] -/
def tRevT (K : PySem.W.Frag) (te : TE) : TE := fun σ H Q => te σ H fun x H1 => ∃ a xs, x = .ref a ∧ SqT K H1 a xs ∧ ∀ p, H1 p = none → Q (.ref p) (upd H1 p (.tup xs.reverse))
theorem pe_revT {e : Expr} {te : TE} {k : Nat} {p1 p2 p3 pos : Pos} (he : PE X e te) : PE X (.Subscript e (.Slice none none (some (.UnaryOp .USub (.Constant (.int 1) k p1) p2)) p3) pos) (tRevT X.K te) := by
  refine ⟨fun pins s σ H Q I h => ?_⟩
  refine Subscript_ (thn (he.run pins s σ H _ I h) fun v s1 ⟨x, H1, I1, r1, q1⟩ => ?_)
  obtain ⟨a, xs, ex, hx, q⟩ := q1
  subst ex
  cases r1
  have hst : PO X (some (.UnaryOp .USub (.Constant (.int 1) k p1) p2)) (tPart (tUn (rU fun i => .int (-i)) (tC (.int 1)))) := po_some (pe_un un_neg pe_int)
  refine wpAny_Slice (thn (po_none.run pins s1 σ H1 (fun o H2 => o = none ∧ H2 = H1) I1 ⟨rfl, rfl⟩) fun vl s2 ⟨l, H2, I2, pl, el, e2⟩ => ?_)
  subst el e2
  refine thn (po_none.run pins s2 σ H2 (fun o H3 => o = none ∧ H3 = H2) I2 ⟨rfl, rfl⟩) fun vu s3 ⟨u, H3, I3, pu, eu, e3⟩ => ?_
  subst eu e3
  refine thn (hst.run pins s3 σ H3 (fun o H4 => o = some (-1) ∧ H4 = H3) I3 ⟨1, rfl, -1, rfl, rfl, rfl⟩) fun vs s4 ⟨o, H4, I4, ps, eo, e4⟩ => ?_
  subst eo e4
  have I5 : Inv X pins σ H4 { s4 with heap := s4.heap.push { cls := .type "slice", data := .fields #[vl, vu, vs] } } := I4.kept (t' := s4.toks) fun b ob q => Heap.get?_push_of_some _ q
  obtain ⟨its, r, ht, hz⟩ := I5.tuple hx
  have hlen := r.length
  show wpAny (model X.prog X.w) X.A (subscriptTail e (.Slice none none (some (.UnaryOp .USub (.Constant (.int 1) k p1) p2)) p3) (.ref a) (.ref s4.heap.objs.size)) (EP X pins σ Q) X.xe { s4 with heap := s4.heap.push { cls := .type "slice", data := .fields #[vl, vu, vs] } }
  refine tail_any (ops := [.ref a, .ref s4.heap.objs.size]) ht.typeIs (PyProof.Rows.slot_tuple_getitem.lookup) ?_ (by with_unfolding_all rfl)
  refine getItem_tuple_rev ht (Heap.IsSliceOf.new _ vl vu vs) pl pu ps ?_ (by rw [List.size_toArray]; omega)
  refine ⟨.ref _, _, I5.laid (t' := s4.toks) (o := .tup xs.reverse) (fun b ob q => Heap.get?_push_of_some _ q) (Nat.le_refl _) ?_, rfl, q _ (I5.hok.fresh (Nat.le_refl _))⟩
  exact ⟨by rw [List.length_reverse]; exact hz, _, r.reverse, IsTup.new _ _⟩
theorem er_revT {K : PySem.W.Frag} {σ : L2.St} {H : Hp} {te : TE} {Rs : List Pr} (h : Er te σ H (Tup K Rs)) : Er (tRevT K te) σ H (Tup K Rs.reverse) := fun H1 e Q q =>
  h H1 e _ fun v H2 e2 ⟨a, xs, e3, hs, hA⟩ => ⟨a, xs, e3, hs, fun p hp => q _ _ (e2.trans (Ex.new hp)) ⟨p, _, rfl, st_of upd_same, hA.rev.up (Ex.new hp)⟩⟩
end
end K54
/-! LF: _law_right. -/
set_option Elab.async false
set_option linter.all false
set_option maxRecDepth 100000
set_option maxHeartbeats 1000000
namespace K54
open PySem PySem.W PySem.Calls PyProof.Rows L2 Evl
theorem t_row {σ : L2.St} {H : Hp} {K : PySem.W.Frag} {ta tb tc : TE} {E : XK} {b : Addr} {n m : Nat} {g : V} {ch : List Str} {Q : VK} (ha : Ev ta σ H (.ref b)) (hb : Ev tb σ H g) (hc : Er tc σ H (In (m : Int))) (hx : Bx H b n) (hn : n ≤ 900000) (hm : m ≤ 100) (hg : Goods H b g ch) (h0 : 0 < ch.length) (h1 : ch.length ≤ 1000)
    (q : ∀ H' v (l : Log), (∀ s ∈ l, s ∈ ch) → l.length ≤ m → ExB b H H' → Bx H' b (n + m + 1) → (LogP K l).r H' v → Q v H') : tCall (spRow K) [] E (tCons ta (tCons tb (tCons tc tNil))) σ H Q := ha H (Ex.refl H) _ fun H1 e1 => hb H1 e1 _ fun H2 e2 => hc H2 (e1.trans e2) _ fun v H3 e3 r3 => by
  cases (show v = _ from r3)
  have e := (e1.trans e2).trans e3
  exact ⟨b, n, m, g, ch, rfl, hx.up e, hn, hm, hg.up (exb_ex e), h0, h1, fun H' v l hl hll x hx' r => q H' v l hl hll ((exb_ex e).trans x) hx' r⟩
section
variable {P : Program} {w : World} {K : PySem.W.Frag} {mg : Str → Option Value} {base : Heap} {C : Addr}
theorem sc__law_right : FnScope ["_law_box_here", "_law_turn", "_law_tags", "_law_tree_here", "_law_host", "_law_words_so", "_law_is_small", "_law_lap", "_law_row", "_law_due"] ["_law_box_here"] (defScope (sT 81)) := ⟨rfl, rfl, rfl, by decide +kernel, rfl, by decide +kernel, by decide +kernel⟩
def spRight : Sp := fun vs H Q _ => ∃ (b : Addr) (n : Nat), vs = [.ref b] ∧ Bx H b n ∧ n ≤ 1000 ∧ ∀ H', ExB b H H' → Q (.bl true) H'
abbrev CRight (P : Program) (w : World) (K : PySem.W.Frag) (mg : Str → Option Value) (base : Heap) := Cl P w K mg base "_law_right" ["_law_box_here"] 67 spRight
theorem cl_law_right (T : Txt K mg) (O : Ops P w K mg base C) (MH : MHas P w K mg base C) (c__law_by_hand_right : CHand P w K mg base) (c__law_names : CNames P w K mg base) (c__law_tree : Cl P w K mg base "_law_tree" ["_law_box_here", "_law_tags", "_law_deep"] 7 (spTree K 4)) (c__law_made : Cl P w K mg base "_law_made" ["_law_box_here", "_law_tree_here"] 35 (spMade K C 30))
    (c_base : CBase P w K mg base C) (c__law_words_right : CWords P w K mg base C) (c__law_event_row : CRow P w K mg base) (c__law_holds : Cl P w K mg base "_law_holds" ["_law_tree_here", "_law_row"] 21 (spHolds K 20)) (c__law_same : CSame P w K mg base) (c__law_done : CDone P w K mg base) (c_does : CDoes P w K mg base) (c_base_of : CBaseOf P w K mg base)
    (F : DefAt K mg "_law_right" (sT 81)) : CRight P w K mg base := by
  refine cl_any F sc__law_right (fun _ _ _ _ _ _ us hl => match us, hl with | [_], _ => rfl) (fun vs H Q E ⟨b, n, e, _⟩ => by rw [e]; rfl) fun f cdv A outer s H E vs Q hr h => ?_
  obtain ⟨b, n, rfl, hbx, hn, q⟩ := h
  refine ⟨_, (pss_cons (ps_if (pt_not (pt_val (pe_cl0 c__law_by_hand_right (hr.mono (by first | decide | omega))))) (pss_one (ps_ret pe_bl)) pss_nil) (pss_cons (ps_for PassesOwn.never rfl (pi_range1 (by rfl) T.range (pa_cons pe_int pa_nil)) (pg_name (i := 1) sc__law_right.nd rfl (by first | exact Or.inl rfl | exact Or.inr rfl)) (pss_cons (ps_set (i := 2) sc__law_right.nd rfl (by first | exact Or.inl rfl | exact Or.inr rfl) (pe_cl c__law_names (hr.mono (by first | decide | omega)) (pa_cons (pv 0) (pa_cons pe_int pa_nil)))) (pss_cons (ps_set (i := 3) sc__law_right.nd rfl (by first | exact Or.inl rfl | exact Or.inr rfl) (pe_cl c__law_tree (hr.mono (by first | decide | omega)) (pa_cons (pv 0) (pa_cons (pv 2) (pa_cons pe_int pa_nil))))) (pss_cons (ps_set (i := 4) sc__law_right.nd rfl (by first | exact Or.inl rfl | exact Or.inr rfl) (pe_cl c__law_made (hr.mono (by first | decide | omega)) (pa_cons (pv 0) (pa_cons (pv 3) pa_nil)))) (pss_cons (ps_set (i := 5) sc__law_right.nd rfl (by first | exact Or.inl rfl | exact Or.inr rfl) (pe_cl c_base (hr.mono (by first | decide | omega)) (pa_cons (pv 4) pa_nil))) (pss_cons (ps_set (i := 6) sc__law_right.nd rfl (by first | exact Or.inl rfl | exact Or.inr rfl) (pe_cmpR op_lt (pe_callB (kLen K rfl) (by rfl) T.len (by decide +kernel) (pa_cons (pv 5) pa_nil)) pe_int (nomark _))) (pss_cons (ps_if (PW.pt (pw_and (pt_val (pv 6)) (pw_and1 (pt_not (pt_val (pe_cl c__law_words_right (hr.mono (by first | decide | omega)) (pa_cons (pv 4) (pa_cons (pv 5) pa_nil)))))))) (pss_one (ps_ret pe_bl)) pss_nil) (pss_cons (ps_for PassesOwn.never rfl (pi_range1 (by rfl) T.range (pa_cons pe_int pa_nil)) (pg_name (i := 7) sc__law_right.nd rfl (by first | exact Or.inl rfl | exact Or.inr rfl)) (pss_cons (ps_set (i := 8) sc__law_right.nd rfl (by first | exact Or.inl rfl | exact Or.inr rfl) (pe_cl c__law_event_row (hr.mono (by first | decide | omega)) (pa_cons (pv 0) (pa_cons (pv 2) (pa_cons pe_int pa_nil))))) (pss_cons (ps_set (i := 9) sc__law_right.nd rfl (by first | exact Or.inl rfl | exact Or.inr rfl) (pe_cl c__law_holds (hr.mono (by first | decide | omega)) (pa_cons (pv 3) (pa_cons (pv 8) pa_nil)))) (pss_cons (ps_if (PW.pt (pw_or (pt_not (pt_val (pe_cl c__law_same (hr.mono (by first | decide | omega)) (pa_cons (pe_cmpR (opIn MH (hr.mono (by decide))) (pv 8) (pv 4) (by rfl)) (pa_cons (pv 9) pa_nil))))) (pw_or1 (pt_cmpR op_ne (pe_cl c__law_done (hr.mono (by first | decide | omega)) (pa_cons (pv 5) (pa_cons (pv 8) pa_nil))) (pv 9) (nomark _))))) (pss_one (ps_ret pe_bl)) pss_nil) (pss_one (ps_if (PW.pt (pw_and (pt_val (pv 6)) (pw_and1 (pt_not (pt_val (pe_cl c__law_same (hr.mono (by first | decide | omega)) (pa_cons (pe_cl c_does (hr.mono (by first | decide | omega)) (pa_cons (pv 5) (pa_cons (pv 8) pa_nil))) (pa_cons (pv 9) pa_nil)))))))) (pss_one (ps_ret pe_bl)) pss_nil)))))) (pss_one (ps_if (PW.pt (pw_and (pt_val (pv 6)) (pw_and1 (pt_not (pt_val (pe_cl c__law_same (hr.mono (by first | decide | omega)) (pa_cons (pe_cl c_base_of (hr.mono (by first | decide | omega)) (pa_cons (pe_op (kCatT K rfl) (pv 5) (pe_revT (pv 5))) pa_nil)) (pa_cons (pv 5) pa_nil)))))))) (pss_one (ps_ret pe_bl)) pss_nil)))))))))) (pss_one (ps_ret pe_bl)))), ?_⟩
  refine q_whenF (b := !true) (et_not (et_BR (er_call () trivial ea_nilR))) rfl fun H1 e1 => ?_
  refine q_forR' (n := 2) (ea_1 er_is) (by decide) fun H2 e2 => ?_
  refine ⟨fun i σ' H' => ∃ y1 y2 y3 y4 y5 y6 y7 y8 y9 : Option V, σ' = [some (.ref b), y1, y2, y3, y4, y5, y6, y7, y8, y9] ∧ ExB b H H' ∧ Bx H' b (n + 420 * i), ⟨none, none, none, none, none, none, none, none, none, rfl, exb_ex (e1.trans e2), hbx.up (e1.trans e2)⟩, fun i σ' H3 hi hx => ?_, fun σ' H3 hx => ?_⟩
  · obtain ⟨y1, y2, y3, y4, y5, y6, y7, y8, y9, rfl, x3, hx3⟩ := hx
    refine ⟨_, rfl, b, n + 420 * i, rfl, hx3, by omega, fun H4 p ns hns hnl hp0 hp npb x4 hx4 => ?_⟩
    have hgoods : ∀ {H'}, H' p = some (.lst (ns.map V.str)) → Goods H' b (.ref p) ns := fun h => .inr ⟨p, npb, rfl, h⟩
    refine t_tree (n := n + 420 * i + 60) (d := 3) (ev_var (i := 0) rfl) (ev_var (i := 2) rfl) er_is (by decide) (by decide) hx4 (by show n + 420 * i + 60 + 270 ≤ 900000; omega) (hgoods hp) (by omega) (by omega) fun H5 vt t ht x5 hx5 rt => ?_
    have hx5 : Bx H5 b (n + 420 * i + 60 + 270) := hx5
    have hp5 := x5 _ _ npb hp
    have dr := drawn hns ht
    refine t_made (n := n + 420 * i + 330) (t := t) (ev_var (i := 0) rfl) (er_var (i := 3) rfl rt) dr.r.2 (hx5.le (by omega)) (by have := dr.m; omega) dr.x.1 fun H6 vh x6 hx6 rh => ?_
    have hm7 := dr.m
    have hx6 : Bx H6 b (n + 420 * i + 337) := hx6.le (by omega)
    have hp6 := x6 _ _ npb hp5
    have k6 : Kp H5 H6 := bx_kp x6 hx5 hx6
    have rt6 := im_tree t k6 rt
    have x06 : ExB b H H6 := ((x3.trans x4).trans x5).trans x6
    refine q_asgR (er_base (er_var (i := 4) rfl rh) dr.r rfl) fun vw H7 e7 rw7 => ?_
    refine q_asgR (er_lt (er_lenM (er_var (i := 5) rfl rw7)) er_is) fun vs7 H8 e8 r8 => ?_
    cases (show vs7 = .bl (decide (((tbase logO t).length : Int) < 13)) from r8)
    have hsm : decide (((tbase logO t).length : Int) < 13) = true → (tbase logO t).length < 13 := fun h => by
      have := of_decide_eq_true h
      omega
    generalize decide (((tbase logO t).length : Int) < 13) = small at hsm
    have e68 := e7.trans e8
    refine q_whenF (b := small && false) (et_and (et_BR (er_var (i := 6) rfl rfl)) fun hs => et_not (et_BR (er_words (dr.few (hsm hs)) rfl (er_var (i := 4) rfl ((RuleP K C t).up e68 rh)) (er_var (i := 5) rfl ((LogsP K _).up e8 rw7))))) (by simp) fun H9 e9 => ?_
    have e69 := e68.trans e9
    have hbok : BOk (tbase logO t) := bok_tree dr.r.1
    have hp9 := e69 _ _ hp6
    have hx9 := hx6.up e69
    have x09 := x06.trans (exb_ex e69)
    have rt9 := (TreeP K t).up e69 rt6
    have rh9 := (RuleP K C t).up e69 rh
    have rw9 := (LogsP K (tbase logO t)).up (e8.trans e9) rw7
    refine q_forR' (n := 10) (ea_1 er_is) (by decide) fun H10 e10 => ?_
    refine ⟨fun j σ' H' => ∃ y7 y8 y9 : Option V, σ' = [some (.ref b), some (.int (i : Int)), some (.ref p), some vt, some vh, some vw, some (.bl small), y7, y8, y9] ∧ ExB b H9 H' ∧ Bx H' b (n + 420 * i + 337 + 8 * j), ⟨_, _, _, rfl, exb_ex e10, hx9.up e10⟩, fun j σ' H11 hj hx => ?_, fun σ' H11 hx => ?_⟩
    · obtain ⟨y7, y8, y9, rfl, x11, hx11⟩ := hx
      refine t_row (n := n + 420 * i + 337 + 8 * j) (m := 7) (ev_var (i := 0) rfl) (ev_var (i := 2) rfl) er_is hx11 (by omega) (by decide) (hgoods (x11 _ _ npb hp9)) (by omega) (by omega) fun H12 vr l hl hll x12 hx12 rl => ?_
      have k12 : Kp H9 H12 := bx_kp (x11.trans x12) hx9 hx12
      have rt12 := im_tree t k12 rt9
      have rh12 := im_rule k12 rh9
      have rw12 := im_logs k12 rw9
      have hll : l.length ≤ 7 := hll
      have hhold : Er (tCall (spHolds K 20) [] E0 (tCons (tVar 3) (tCons (tVar 8) tNil))) [some (.ref b), some (.int (i : Int)), some (.ref p), some vt, some vh, some vw, some (.bl small), some (.int (j : Int)), some vr, y9] H12 (Bo (holds t l)) := er_call (E := E0) (out := fun p : K54.T Str × Log => Bo (holds p.1 p.2)) (pre := fun p => hm p.1 < 20 ∧ p.2.length ≤ 1000) (ins := fun p => [TreeP K p.1, LogP K p.2]) (t, l) ⟨dr.h, (by show l.length ≤ 1000; omega)⟩ (ea_2 (er_var (i := 3) rfl rt12) (er_var (i := 8) rfl rl))
      refine q_asgR hhold fun vd H13 e13 rd => ?_
      cases (show vd = .bl (holds t l) from rd)
      have ehd := holds_does (O := logO) t l
      have hA : ∀ {H14}, Ex H12 H14 → Er (tVar 4) [some (.ref b), some (.int (i : Int)), some (.ref p), some vt, some vh, some vw, some (.bl small), some (.int (j : Int)), some vr, some (.bl (holds t l))] H14 (RuleP K C t) := fun e => er_var rfl ((RuleP K C t).up e rh12)
      have hB : ∀ {H14}, Ex H12 H14 → Er (tVar 5) [some (.ref b), some (.int (i : Int)), some (.ref p), some vt, some vh, some vw, some (.bl small), some (.int (j : Int)), some vr, some (.bl (holds t l))] H14 (LogsP K (tbase logO t)) := fun e => er_var rfl ((LogsP K _).up e rw12)
      have hR : ∀ {H14}, Ex H12 H14 → Er (tVar 8) [some (.ref b), some (.int (i : Int)), some (.ref p), some vt, some vh, some vw, some (.bl small), some (.int (j : Int)), some vr, some (.bl (holds t l))] H14 (LogP K l) := fun e => er_var rfl ((LogP K l).up e rl)
      have hD : ∀ {H14}, Er (tVar 9) [some (.ref b), some (.int (i : Int)), some (.ref p), some vt, some vh, some vw, some (.bl small), some (.int (j : Int)), some vr, some (.bl (holds t l))] H14 (Bo (holds t l)) := er_var rfl rfl
      have hin : Er (tOp (rOwnIn C false (spHas K C)) (tVar 8) (tVar 4)) [some (.ref b), some (.int (i : Int)), some (.ref p), some vt, some vh, some vw, some (.bl small), some (.int (j : Int)), some vr, some (.bl (holds t l))] H13 (Bo (holds t l)) := by
        have := er_has (neg := false) (hR e13) (hA e13) dr.r (by omega)
        rw [if_neg (by decide), ← ehd] at this
        exact this
      have hdone : Er (tCall (spDone K) [] E0 (tCons (tVar 5) (tCons (tVar 8) tNil))) [some (.ref b), some (.int (i : Int)), some (.ref p), some vt, some vh, some vw, some (.bl small), some (.int (j : Int)), some vr, some (.bl (holds t l))] H13 (Bo (holds t l)) := by
        have := er_call (E := E0) (out := fun p : List Log × Log => Bo (does p.1 p.2)) (pre := fun p => BOk p.1 ∧ p.2.length ≤ 1000) (ins := fun p => [LogsP K p.1, LogP K p.2]) (tbase logO t, l) ⟨hbok, (by show l.length ≤ 1000; omega)⟩ (ea_2 (hB e13) (hR e13))
        dsimp only at this
        rw [← ehd] at this
        exact this
      refine q_whenF (b := !true || false) (et_or (et_not (et_BR (er_same (.bl 4 (holds t l)) hin hD))) fun _ => et_is (et_testR (er_ne hdone hD rfl)) (by simp)) rfl fun H14 e14 => ?_
      have hdoes : Er (tCall (spDoes K) [] E0 (tCons (tVar 5) (tCons (tVar 8) tNil))) [some (.ref b), some (.int (i : Int)), some (.ref p), some vt, some vh, some vw, some (.bl small), some (.int (j : Int)), some vr, some (.bl (holds t l))] H14 (Bo (holds t l)) := by
        have := er_call (E := E0) (out := fun p : List Log × Log => Bo (does p.1 p.2)) (pre := fun p => p.1.length ≤ 1000) (ins := fun p => [LogsP K p.1, LogP K p.2]) (tbase logO t, l) (Nat.le_trans (Nat.le_of_lt hbok.1) (by decide)) (ea_2 (hB (e13.trans e14)) (hR (e13.trans e14)))
        dsimp only at this
        rw [← ehd] at this
        exact this
      refine Evl.s_if (b := small && false) (et_and (et_BR (er_var (i := 6) rfl rfl)) fun hs => et_not (et_BR (er_same (.bl 4 (holds t l)) hdoes hD))) (fun z => by simp at z) fun _ H15 e15 => ?_
      exact ⟨_, _, _, rfl, (x11.trans x12).trans (exb_ex ((e13.trans e14).trans e15)), (hx12.up ((e13.trans e14).trans e15)).le (by omega)⟩
    · obtain ⟨y7, y8, y9, rfl, x11, hx11⟩ := hx
      have k11 : Kp H9 H11 := bx_kp x11 hx9 hx11
      have rw11 := im_logs k11 rw9
      refine Evl.s_if (b := small && false) (et_and (et_BR (er_var (i := 6) rfl rfl)) fun hs => et_not (et_BR (er_same (bok_sme hbok) ?_ (er_var (i := 5) rfl rw11)))) (fun z => by simp at z) fun _ H12 e12 => ?_
      · have hlen := hsm hs
        have hcat : BOk (tbase logO t ++ (tbase logO t).reverse) := ⟨by rw [List.length_append, List.length_reverse]; omega, fun z hz => by
          rcases List.mem_append.mp hz with hz | hz
          · exact hbok.2 z hz
          · exact hbok.2 z (List.mem_reverse.mp hz)⟩
        have hv5 : Er (tVar 5) [some (.ref b), some (.int (i : Int)), some (.ref p), some vt, some vh, some vw, some (.bl small), y7, y8, y9] H11 (LogsP K (tbase logO t)) := er_var rfl rw11
        have hrev := er_revT hv5
        rw [← List.map_reverse] at hrev
        have := er_call (E := E0) (out := fun p : Bool × List Log => LogsP K (leastOf logO p.2)) (pre := fun p => BOk p.2) (ins := fun p => [SeqP K p.1 (p.2.map (LogP K))]) (false, tbase logO t ++ (tbase logO t).reverse) hcat (ea_1 (er_catM hv5 hrev (by rw [List.length_reverse]; omega)))
        dsimp only at this
        rw [twice_base (tbase_isB t)] at this
        exact this
      · exact ⟨_, _, _, _, _, _, _, _, _, rfl, (x09.trans x11).trans (exb_ex e12), (hx11.up e12).le (by omega)⟩
  · obtain ⟨y1, y2, y3, y4, y5, y6, y7, y8, y9, rfl, x3, hx3⟩ := hx
    exact s_retR (R := Bo true) er_is fun v H4 e4 r4 => by
      rw [show v = _ from r4]
      exact q H4 (x3.trans (exb_ex e4))
end
end K54
/-! LG: _law_box, _law_cells, law. -/
set_option Elab.async false
set_option linter.all false
set_option maxRecDepth 100000
set_option maxHeartbeats 200000
namespace K54
open PySem PySem.W PySem.Calls PyProof.Rows L2 Evl
section
variable {P : Program} {w : World} {K : PySem.W.Frag} {mg : Str → Option Value} {base : Heap} {C : Addr}
theorem sc__law_box : FnScope ["_law_script", "_law_k", "_law_cell"] ["_law_script", "_law_k"] (defScope (sT 66)) := ⟨rfl, rfl, rfl, by decide +kernel, rfl, by decide +kernel, by decide +kernel⟩
/-- of a list of ints: a new box -/
def spBox (K : PySem.W.Frag) : Sp := fun vs H Q _ => ∃ (a : Addr) (ns : List Int) (k : Nat), vs = [.ref a, .int (k : Int)] ∧ H a = some (.lst (ns.map V.int)) ∧ k < ns.length ∧ ns.length ≤ 1000 ∧ ∀ H' b, H b = none → Ex H H' → Bx H' b 0 → Q (.ref b) H'
abbrev CBox (P : Program) (w : World) (K : PySem.W.Frag) (mg : Str → Option Value) (base : Heap) := Cl P w K mg base "_law_box" ["_law_script", "_law_k"] 1 (spBox K)
theorem Ea.run_lst {σ : L2.St} {H : Hp} {tr : TA} {Rs : List Pr} {D : Ends} (h : Ea tr σ H Rs) (k : ∀ vs H1, Ex H H1 → Al Rs H1 vs → vs.length ≤ sizeLine ∧ ∀ p, H1 p = none → D.rt (.ref p) (upd H1 p (.lst vs))) : tRet (tLst tr) D σ H := h H (Ex.refl H) _ fun vs H1 e hA => k vs H1 e hA
theorem cl_law_box (T : Txt K mg) (F : DefAt K mg "_law_box" (sT 66)) : CBox P w K mg base := by
  refine cl_any F sc__law_box (fun _ _ _ _ _ _ us hl => match us, hl with | [_, _], _ => rfl) (fun vs H Q E ⟨a, ns, k, e, _⟩ => by rw [e]; rfl) fun f cdv A outer s H E vs Q hr h => ?_
  obtain ⟨a, ns, k, rfl, ha, hk, hlen, q⟩ := h
  refine ⟨_, (pss_cons (ps_set (i := 2) sc__law_box.nd rfl (by first | exact Or.inl rfl | exact Or.inr rfl) (pe_ifExp (pt_cmpR op_lt (pv 1) (pe_callB (kLen K rfl) (by rfl) T.len (by decide +kernel) (pa_cons (pv 0) pa_nil)) (nomark _)) (pe_ix (kIxL K rfl) (pv 0) (pv 1) (fun _ _ => rfl)) pe_int)) (pss_one (ps_ret (pe_lst (pa_cons (pe_op op_mul (pe_callB call_abs (by rfl) T.abs (by decide +kernel) (pa_cons (pv 2) pa_nil)) (pe_callTy call_int1 (by rfl) T.int (by decide +kernel) (pa_cons (pe_cmpR op_ge (pe_callB call_abs (by rfl) T.abs (by decide +kernel) (pa_cons (pv 2) pa_nil)) (pe_op op_pow pe_int pe_int) (nomark _)) pa_nil))) (pa_cons (pe_op op_add (pe_op op_add (pe_op op_mod (pe_callTy call_int1 (by rfl) T.int (by decide +kernel) (pa_cons (pv 2) pa_nil)) pe_int) (pe_op op_mul pe_int (pv 1))) pe_int) (pa_cons pe_int pa_nil))))))), ?_⟩
  have hg : ns[k]? = some ns[k] := List.getElem?_eq_getElem hk
  have hsc : ∀ {H1} {y : Option V}, Ex H H1 → Er (tVar 0) [some (.ref a), some (.int (k : Int)), y] H1 (Lst K (ns.map In)) := fun e => er_var rfl ⟨a, _, rfl, e _ _ ha, by rw [show ns.map In = (ns.map V.int).map Is by rw [List.map_map]; rfl]; exact Al.is _⟩
  refine q_asgR (R := In ns[k]) (er_if (b := true) (et_is (et_testR (er_lt (er_var (i := 1) rfl rfl) (er_lenN (hsc (Ex.refl H))))) (decide_eq_true (by omega))) (fun _ => er_ixN (S := In) (i := k) (hsc (Ex.refl H)) (er_var (i := 1) rfl rfl) hg) fun z => by cases z) fun v H1 e1 r1 => ?_
  cases (show v = .int ns[k] from r1)
  have hc : ∀ {H2}, Er (tVar 2) [some (.ref a), some (.int (k : Int)), some (.int ns[k])] H2 (In ns[k]) := er_var rfl rfl
  have habs : ∀ {H2}, Er (tCB (fun xs H Q => ∃ i, xs = [V.int i] ∧ Q (.int (if i < 0 then -i else i)) H) (tCons (tVar 2) tNil)) [some (.ref a), some (.int (k : Int)), some (.int ns[k])] H2 (In (if ns[k] < 0 then -ns[k] else ns[k])) := er_cb (r := fun xs H Q => ∃ i, xs = [V.int i] ∧ Q (.int (if i < 0 then -i else i)) H) (ea_1 hc) fun vs H3 _ hA Q q => by
    obtain ⟨u, rfl, r⟩ := al1 hA
    cases (show u = _ from r)
    exact ⟨_, rfl, q _ H3 (Ex.refl H3) rfl⟩
  generalize (if ns[k] < 0 then -ns[k] else ns[k]) = ab at habs
  obtain ⟨big, hpow⟩ : ∃ big : Int, ∀ H2, Er (tOp (rI CPow fun i j => .int (i ^ j.toNat)) (tC (.int 10)) (tC (.int 18))) [some (.ref a), some (.int (k : Int)), some (.int ns[k])] H2 (In big) := ⟨_, fun H2 => er_I (C := CPow) (g := fun i j => .int (i ^ j.toNat)) er_is er_is ⟨by decide, by decide, by decide⟩⟩
  have hflag : ∀ {H2}, Er _ [some (.ref a), some (.int (k : Int)), some (.int ns[k])] H2 (In (if decide (big ≤ ab) = true then 1 else 0)) := er_cb (r := fun xs H Q => (∃ i, xs = [V.int i] ∧ Q (.int i) H) ∨ ∃ k, xs = [V.bl k] ∧ Q (.int (if k = true then 1 else 0)) H) (ea_1 (er_ge habs (hpow _))) fun vs H3 _ hA Q q => by
    obtain ⟨u, rfl, r⟩ := al1 hA
    cases (show u = _ from r)
    exact .inr ⟨_, rfl, q _ H3 (Ex.refl H3) rfl⟩
  have hfb : 0 ≤ (if decide (big ≤ ab) = true then 1 else 0 : Int) ∧ (if decide (big ≤ ab) = true then 1 else 0 : Int) < 10 := by split <;> omega
  generalize (if decide (big ≤ ab) = true then 1 else 0 : Int) = fl at hflag hfb
  have hA : Er _ [some (.ref a), some (.int (k : Int)), some (.int ns[k])] H1 (In (ab * fl)) := er_I (C := CMul) (g := fun i j => .int (i * j)) habs hflag (.inr ⟨by omega, by omega⟩)
  have hB : Er _ [some (.ref a), some (.int (k : Int)), some (.int ns[k])] H1 (In (ns[k] % 2305843009213693951 + 39373 * (k : Int) + 59554)) := er_add (er_add (er_mod (er_int hc) er_is (by decide)) (er_I (C := CMul) (g := fun i j => .int (i * j)) er_is (er_var (i := 1) rfl rfl) (.inl ⟨by decide, by decide⟩))) er_is
  generalize ab * fl = z0 at hA
  generalize ns[k] % 2305843009213693951 + 39373 * (k : Int) + 59554 = z1 at hB
  have hL := ea_3 hA hB (er_is (v := .int 0))
  clear hflag hpow habs hc hA hB hsc
  refine Ea.run_lst hL fun vs H2 e2 hAl => ?_
  obtain ⟨u1, u2, u3, rfl, r1, r2, r3⟩ := al3 hAl
  have r1 : u1 = .int z0 := r1
  have r2 : u2 = .int z1 := r2
  have r3 : u3 = .int 0 := r3
  subst r1 r2 r3
  refine ⟨sz_of (show 3 ≤ 100000 by decide), fun p hp => ?_⟩
  have hbx : Bx (upd H2 p (.lst [.int z0, .int z1, .int 0])) p 0 := ⟨z0, z1, 0, upd_same, by decide, by decide⟩
  exact q _ p (fresh_back (e1.trans e2) hp) ((e1.trans e2).trans (Ex.new hp)) hbx
end
end K54
/-! LH: _law_cells, law. -/
set_option Elab.async false
set_option linter.all false
set_option maxRecDepth 100000
set_option maxHeartbeats 400000
namespace K54
open PySem PySem.W PySem.Calls PyProof.Rows L2 Evl
theorem cut_lo (ns : List Int) : cutV (ns.map V.int) none (some 3) = (ns.take 3).map V.int := by
  show cutV _ none (some ((3 : Nat) : Int)) = _
  unfold cutV
  rw [HT.sIx_nat, HT.sIx_none, List.drop_zero, Nat.sub_zero, List.length_map]
  rcases Nat.le_total 3 ns.length with h | h
  · rw [Nat.min_eq_left h, List.map_take]
  · rw [Nat.min_eq_right h, List.take_of_length_le (by rw [List.length_map]; exact Nat.le_refl _), List.take_of_length_le h]
theorem cut_hi (ns : List Int) : ∃ rest : List Int, cutV (ns.map V.int) (some 3) (some 63) = rest.map V.int ∧ rest.length ≤ 60 ∧ (0 < rest.length → 3 < ns.length) := by
  refine ⟨(ns.drop (min 3 ns.length)).take (min 63 ns.length - min 3 ns.length), ?_, ?_, ?_⟩
  · show cutV _ (some ((3 : Nat) : Int)) (some ((63 : Nat) : Int)) = _
    unfold cutV
    rw [HT.sIx_nat, HT.sIx_nat, List.length_map, List.map_take, List.map_drop]
  · rw [List.length_take, List.length_drop]; omega
  · rw [List.length_take, List.length_drop]; omega
section
variable {σ : L2.St} {H : Hp} {K : PySem.W.Frag}
/-- list(script[:3]) or [0] -/
theorem t_first {a : Addr} {ns : List Int} {Q : VK} (h0 : σ[0]? = some (some (.ref a))) (h1 : σ[1]? = some (some (.int 3))) (ha : SqL K H a (ns.map V.int))
    (q : ∀ p H1 (ms : List Int), H p = none → Ex H H1 → H1 p = some (.lst (ms.map V.int)) → 0 < ms.length → ms.length ≤ 3 → (3 < ns.length → ms.length = 3) → Q (.ref p) H1) :
    tOrT K (tCB (rLstOf K) (tCons (tSl (rSlL K) (tVar 0) tNoPart (tPart (tVar 1))) tNil)) (tLst (tCons (tC (.int 0)) tNil)) σ H Q := by
  refine ⟨_, h0, _, h1, 3, rfl, a, _, rfl, ha, fun p1 hp1 => ⟨p1, _, rfl, .inl (sq_of upd_same), fun p2 hp2 => ?_⟩⟩
  rw [cut_lo] at hp2 ⊢
  have e1 : Ex H (upd H p1 (.lst ((ns.take 3).map V.int))) := Ex.new hp1
  have e2 := e1.trans (Ex.new (o := .lst ((ns.take 3).map V.int)) hp2)
  have g2 : (upd (upd H p1 (.lst ((ns.take 3).map V.int))) p2 (.lst ((ns.take 3).map V.int))) p2 = some (.lst ((ns.take 3).map V.int)) := upd_same
  have f2 : H p2 = none := fresh_back e1 hp2
  generalize upd (upd H p1 (.lst ((ns.take 3).map V.int))) p2 (.lst ((ns.take 3).map V.int)) = G at e2 g2 ⊢
  refine ⟨!((ns.take 3).map V.int).isEmpty, .inl ⟨_, sq_of g2, rfl⟩, ?_⟩
  cases ns with
  | nil => exact ⟨sz_of (show 1 ≤ 100000 by decide), fun p hp => q p _ [0] (fresh_back e2 hp) (e2.trans (Ex.new hp)) upd_same (by decide) (by decide) (fun h => by cases h)⟩
  | cons n ns =>
    show Q (V.ref p2) G
    exact q p2 G _ f2 e2 g2 (by rw [List.length_take, List.length_cons]; omega) (by rw [List.length_take]; omega) (fun h => by rw [List.length_take]; omega)
end
section
variable {P : Program} {w : World} {K : PySem.W.Frag} {mg : Str → Option Value} {base : Heap} {C : Addr}
theorem sc__law_cells : FnScope ["_law_script", "_law_top_so", "_law_cells_so", "_law_k", "_law_cell", "_law_at_so"] ["_law_script", "_law_top_so"] (defScope (sT 68)) := ⟨rfl, rfl, rfl, by decide +kernel, rfl, by decide +kernel, by decide +kernel⟩
def spCells (K : PySem.W.Frag) : Sp := fun vs H Q _ => ∃ (a : Addr) (ns : List Int), vs = [.ref a, .int 3] ∧ SqL K H a (ns.map V.int) ∧ ns.length ≤ 63 ∧ ∀ H' p (ms : List Int), Ex H H' → H' p = some (.lst (ms.map V.int)) → 0 < ms.length → ms.length ≤ 3 → Q (.ref p) H'
abbrev CCells (P : Program) (w : World) (K : PySem.W.Frag) (mg : Str → Option Value) (base : Heap) := Cl P w K mg base "_law_cells" ["_law_script", "_law_top_so"] 1 (spCells K)
theorem cl_law_cells (T : Txt K mg) (F : DefAt K mg "_law_cells" (sT 68)) : CCells P w K mg base := by
  refine cl_any F sc__law_cells (fun _ _ _ _ _ _ us hl => match us, hl with | [_, _], _ => rfl) (fun vs H Q E ⟨a, ns, e, _⟩ => by rw [e]; rfl) fun f cdv A outer s H E vs Q hr h => ?_
  obtain ⟨a, ns, rfl, ha, hlen, q⟩ := h
  refine ⟨_, (pss_cons (ps_set (i := 2) sc__law_cells.nd rfl (by first | exact Or.inl rfl | exact Or.inr rfl) (pe_orT (pe_callTy (kListOf K rfl) (by rfl) T.list (by decide +kernel) (pa_cons (pe_slice (kSlL K rfl) (pv 0) po_none (po_some (pv 1))) pa_nil)) (pe_one (pe_lst (pa_cons pe_int pa_nil))))) (pss_cons (ps_for PassesOwn.never rfl (pi_enum (by rfl) T.enumerate (pa_cons (pe_slice (kSlL K rfl) (pv 0) (po_some (pv 1)) (po_some pe_int)) pa_nil)) (pg_tup (by rfl) (pgs_cons (pg_name (i := 3) sc__law_cells.nd rfl (by first | exact Or.inl rfl | exact Or.inr rfl)) (pgs_cons (pg_name (i := 4) sc__law_cells.nd rfl (by first | exact Or.inl rfl | exact Or.inr rfl)) pgs_nil))) (pss_cons (ps_set (i := 5) sc__law_cells.nd rfl (by first | exact Or.inl rfl | exact Or.inr rfl) (pe_op op_mod (pe_callTy call_int1 (by rfl) T.int (by decide +kernel) (pa_cons (pv 3) pa_nil)) (pv 1))) (pss_one (ps_asg (pe_op op_add (pe_ix (kIxL K rfl) (pv 2) (pv 5) (fun _ _ => rfl)) (pe_op op_mul (pv 4) (pe_op op_add (pv 3) pe_int))) (pg_sub (pv 2) (pv 5) set_list))))) (pss_one (ps_ret (pv 2))))), ?_⟩
  refine t_first rfl rfl ha fun p H1 ms hp0 e1 hp hm0 hm3 hmn => ?_
  obtain ⟨rest, hr1, hr2, hr3⟩ := cut_hi ns
  refine ⟨_, rfl, _, rfl, 3, rfl, 63, rfl, a, _, rfl, ex_l e1 ha, fun p3 hp3 => ⟨p3, rest.map V.int, rfl, by rw [hr1]; exact sq_of upd_same, ?_⟩⟩
  rw [hr1]
  have e2 : Ex H1 (upd H1 p3 (.lst (rest.map V.int))) := Ex.new hp3
  have g3 : (upd H1 p3 (.lst (rest.map V.int))) p3 = some (.lst (rest.map V.int)) := upd_same
  have gp := e2 _ _ hp
  have np3 : p ≠ p3 := ne_of_none hp hp3
  have e02 := e1.trans e2
  generalize upd H1 p3 (.lst (rest.map V.int)) = G at e2 g3 gp e02
  refine for_it (walk_enum (xs := rest.map V.int)) (fun i σ' H' => ∃ (y3 y4 y5 : Option V) (ms' : List Int), σ' = [some (.ref a), some (.int 3), some (.ref p), y3, y4, y5] ∧ H' p = some (.lst (ms'.map V.int)) ∧ ms'.length = ms.length ∧ H' p3 = some (.lst (rest.map V.int)) ∧ Ex H H')
    ⟨none, none, none, ms, rfl, gp, rfl, g3, e02⟩ (fun i σ' H' _ ⟨_, _, _, _, _, _, _, h, _⟩ => sq_of h) (fun i x σ' H2 H3 hi hx hy => ?_) (fun σ' H' hx => ?_)
  · obtain ⟨y3, y4, y5, ms', rfl, hp2, hml, h3, e3⟩ := hx
    obtain ⟨T, x1, x2, rfl, hT, rfl, hx1, hx2⟩ := hy
    cases hx1
    have hx2 : (rest.map V.int)[i]? = some x2 := hx2
    rw [List.getElem?_map] at hx2
    obtain ⟨c, hc, rfl⟩ := Option.map_eq_some_iff.mp hx2
    rw [List.length_map] at hi
    have hn3 : ms.length = 3 := hmn (hr3 (by omega))
    refine ⟨T, _, rfl, st_of upd_same, rfl, _, _, rfl, _, _, rfl, rfl, ?_⟩
    have eT : Ex H2 (upd H2 T (.tup [.int (i : Nat), .int c])) := Ex.new hT
    have hp4 := eT _ _ hp2
    have h34 := eT _ _ h3
    have e4 := e3.trans eT
    generalize upd H2 T (.tup [.int (i : Nat), .int c]) = G4 at hp4 h34 e4
    refine q_asgR (R := In ((i : Int) % 3)) (er_mod (er_int (er_var (i := 3) rfl rfl)) (er_var (i := 1) rfl rfl) (by decide)) fun v H5 e5 r5 => ?_
    have hj : (i : Int) % 3 = ((i % 3 : Nat) : Int) := by omega
    rw [hj] at r5
    cases (show v = .int ((i % 3 : Nat) : Int) from r5)
    have hlt : i % 3 < ms'.length := by omega
    have hp5 := e5 _ _ hp4
    have hval : Er _ [some (.ref a), some (.int 3), some (.ref p), some (.int (i : Int)), some (.int c), some (.int ((i % 3 : Nat) : Int))] H5 (In (ms'[i % 3] + c * ((i : Int) + 2))) := er_add (er_ixN (K := K) (l := ms') (S := In) (i := i % 3) (er_var (i := 2) rfl ⟨p, _, rfl, hp5, by rw [show ms'.map In = (ms'.map V.int).map Is by rw [List.map_map]; rfl]; exact Al.is _⟩) (er_var (i := 5) rfl rfl) (List.getElem?_eq_getElem hlt)) (er_I (C := CMul) (g := fun i j => .int (i * j)) (er_var (i := 4) rfl rfl) (er_add (er_var (i := 3) rfl rfl) er_is) (.inr ⟨by omega, by omega⟩))
    refine hval H5 (Ex.refl H5) _ fun v6 H6 e6 r6 => ?_
    generalize ms'[i % 3] + c * ((i : Int) + 2) = z at r6
    cases (show v6 = .int z from r6)
    refine ⟨_, rfl, _, rfl, p, ms'.map V.int, ((i % 3 : Nat) : Int), i % 3, rfl, rfl, e6 _ _ hp5, ixN_nat (by rw [List.length_map]; exact hlt), ?_⟩
    refine ⟨_, _, _, ms'.set (i % 3) z, rfl, by rw [upd_same, List.map_set], by rw [List.length_set]; exact hml, by rw [upd_ne np3.symm]; exact e6 _ _ (e5 _ _ h34), ?_⟩
    exact fun x o hx => by
      rw [upd_ne (fun e => by rw [e, hp0] at hx; cases hx)]
      exact (e4.trans (e5.trans e6)) _ _ hx
  · obtain ⟨y3, y4, y5, ms', rfl, hp2, hml, h3, e3⟩ := hx
    exact ⟨_, rfl, q H' p ms' e3 hp2 (by omega) (by omega)⟩
end
end K54
/-! LI: law. -/
set_option Elab.async false
set_option linter.all false
set_option maxRecDepth 100000
set_option maxHeartbeats 400000
namespace K54
open PySem PySem.W PySem.Calls PyProof.Rows L2 Evl
section
variable {P : Program} {w : World} {K : PySem.W.Frag} {mg : Str → Option Value} {base : Heap} {C : Addr}
theorem sc_law : FnScope ["_law_script", "_law_cells_here", "_law_k"] ["_law_script"] (defScope (sT 82)) := ⟨rfl, rfl, rfl, by decide +kernel, rfl, by decide +kernel, by decide +kernel⟩
def spLaw (K : PySem.W.Frag) : Sp := fun vs H Q _ => ∃ (a : Addr) (ns : List Int), vs = [.ref a] ∧ SqL K H a (ns.map V.int) ∧ ns.length ≤ 63 ∧ ∀ H', Q (.bl true) H'
theorem ok_law {f : Addr} {fd : FuncData} (T : Txt K mg) (c__law_cells : CCells P w K mg base) (c__law_box : CBox P w K mg base) (c__law_right : CRight P w K mg base) (F : FunD K "law" "law" (defArgs (sT 82)) (defBody (sT 82)) (defScope (sT 82)) [] [] f fd) :
    FnOk P w K mg base CX0 68 f fd ["_law_script"] (spLaw K) := by
  refine F.ok sc_law (fun vs H Q E ⟨a, ns, e, _⟩ => by rw [e]; rfl) fun cdv A outer s H vs Q E hr h => ?_
  obtain ⟨a, ns, rfl, ha, hlen, q⟩ := h
  refine ⟨_, PSs.nox (pss_cons (ps_set (i := 1) sc_law.nd rfl (by first | exact Or.inl rfl | exact Or.inr rfl) (pe_cl c__law_cells (hr.mono (by first | decide | omega)) (pa_cons (pv 0) (pa_cons pe_int pa_nil)))) (pss_one (ps_ret (pe_callB (kAll K rfl rfl) (by rfl) T.all (by decide +kernel) (pa_cons (pe_lc (own := [("_law_k", 2)]) (g := gName 2) (tt := tYes) (by rfl) sc_law.nd (pi_range1 (by rfl) T.range (pa_cons (pe_callB (kLen K rfl) (by rfl) T.len (by decide +kernel) (pa_cons (pv 1) pa_nil)) pa_nil)) (blkOk_by (own := [("_law_k", 2)]) (N := ["_law_script", "_law_cells_here", "_law_k"]) (sc := defScope (sT 82)) (by decide +kernel)) (fun _ _ _ _ _ => (pg_name (i := 2) sc_law.nd rfl (by first | exact Or.inl rfl | exact Or.inr rfl))) (fun _ _ _ _ _ => pts_nil) (fun _ _ _ _ _ => (pe_cl c__law_right (hr.mono (by first | decide | omega)) (pa_cons (pe_cl c__law_box (hr.mono (by first | decide | omega)) (pa_cons (pv 1) (pa_cons (pv 2) pa_nil))) pa_nil)))) pa_nil))))), ?_⟩
  refine ⟨_, rfl, a, ns, rfl, ha, hlen, fun H1 p ms e1 hp hm0 hm3 => ?_⟩
  have hcells : ∀ {H2} {y : Option V}, Ex H1 H2 → Er (tVar 1) [some (.ref a), some (.ref p), y] H2 (Lst K (ms.map In)) := fun e => er_var rfl ⟨p, _, rfl, e _ _ hp, by rw [show ms.map In = (ms.map V.int).map Is by rw [List.map_map]; rfl]; exact Al.is _⟩
  refine s_retR (er_all (items := List.range ms.length) (f := fun _ => true) (er_mapR (n := ms.length) (fun _ => Bo true) (ea_1 (er_lenN (hcells (Ex.refl H1)))) (fun _ => im_is) (by omega) (fun _ => rfl) fun i H2 hi e2 H3 e3 Q3 q3 => ?_)) fun v H2 e2 r2 => ?_
  · refine ⟨_, rfl, _, rfl, p, ms, i, rfl, e3 _ _ (e2 _ _ hp), hi, by omega, fun H4 b hb e4 hbx => ⟨b, 0, rfl, hbx, by decide, fun H5 x5 => q3 _ H5 (fun c o hc => x5 _ _ (fun e => by rw [e, hb] at hc; cases hc) (e4 _ _ hc)) rfl⟩⟩
  · have e : v = .bl ((List.range ms.length).all fun _ => true) := r2
    rw [show ((List.range ms.length).all fun _ => true) = true by simp] at e
    rw [e]
    exact q H2
end
end K54
/-! LJ: all defs together. -/
set_option Elab.async false
set_option linter.all false
set_option maxRecDepth 100000
set_option maxHeartbeats 400000
namespace K54
open PySem PySem.W PySem.Calls PyProof.Rows L2 Evl
/-- the defs: name, place in the text -/
def defsL0 : List (Str × Nat) := [("is_name", 6), ("checked_name", 7), ("tupled", 8), ("is_log", 10), ("begun", 11), ("is_part", 12), ("in_order", 13), ("least_of", 14), ("led_by", 15), ("least_both", 16), ("base_of", 19), ("is_base", 20), ("does", 21), ("either", 22), ("both", 23), ("then", 24), ("times", 25), ("is_inside", 26), ("outside", 27), ("tree_of", 38), ("seen", 39), ("nothing", 40), ("never", 41), ("part_text", 42), ("tree_text", 43), ("tree_base", 44), ("base", 45), ("word_rule", 46), ("rule_of", 47), ("alike", 48)]
def defsL1 : List (Str × Nat) := [("goes_with", 49), ("parting", 50), ("run_of", 58), ("symbol_at", 59), ("symbols_of", 60), ("lone_rule", 61), ("joined", 62), ("put_together", 63), ("rule_in", 64), ("_law_box", 66), ("_law_take", 67), ("_law_cells", 68), ("_law_of", 69), ("_law_pick", 70), ("_law_same", 71), ("_law_names", 72), ("_law_lies", 73), ("_law_event_row", 74), ("_law_done", 75), ("_law_tree", 76), ("_law_made", 77), ("_law_holds", 78), ("_law_words_right", 79), ("_law_by_hand_right", 80), ("_law_right", 81), ("law", 82)]
def defsL : List (Str × Nat) := defsL0 ++ defsL1
/-- the methods of Rule that are called: name, long name, place -/
def metsL : List (Str × Str × Nat) := [("__contains__", "Rule.__contains__", 3), ("__rshift__", "Rule.__rshift__", 4), ("__rrshift__", "Rule.__rrshift__", 5), ("__or__", "Rule.__or__", 6), ("__ror__", "Rule.__ror__", 7), ("__and__", "Rule.__and__", 8), ("__rand__", "Rule.__rand__", 9), ("__mul__", "Rule.__mul__", 10), ("__rmul__", "Rule.__rmul__", 11)]
/-- all that the walk asks of what the top has left -/
structure AllAt (w : World) (K : PySem.W.Frag) (mg : Str → Option Value) (C aB : Addr) : Prop where
  T : Txt K mg
  R : RuleF K mg C
  o1 : OpF K "rshift"
  o2 : OpF K "or"
  o3 : OpF K "and"
  o4 : OpF K "mul"
  g_B : mg "BOUND" = some (.ref aB)
  B : Bnd K w aB
  d : ∀ (i : Nat) (p : Str × Nat), defsL[i]? = some p → DefAt K mg p.1 (sT p.2)
  m : ∀ (i : Nat) (p : Str × Str × Nat), metsL[i]? = some p → MetAt K C p.1 p.2.1 (sM 37 p.2.2)
  t : PropAt K C "text" "Rule.text" (sM 37 1)
theorem all_law {P : Program} {w : World} {K : PySem.W.Frag} {mg : Str → Option Value} {base : Heap} {C aB : Addr} (A : AllAt w K mg C aB) {f : Addr} {fd : FuncData} (F : FunD K "law" "law" (defArgs (sT 82)) (defBody (sT 82)) (defScope (sT 82)) [] [] f fd) :
    FnOk P w K mg base CX0 68 f fd ["_law_script"] (spLaw K) := by
  have T := A.T
  have R := A.R
  have c_is_name : CIsName P w K mg base := cl_is_name T (A.d 0 ("is_name", 6) rfl)
  have c_checked_name : CChecked P w K mg base := cl_checked_name c_is_name (A.d 1 ("checked_name", 7) rfl)
  have c_tupled : CTupled P w K mg base := cl_tupled T (A.d 2 ("tupled", 8) rfl) 3
  have c_begun := cl_begun (P := P) (w := w) (base := base) T (A.d 4 ("begun", 11) rfl)
  have c_is_part : CIsPart P w K mg base := cl_is_part T c_begun (A.d 5 ("is_part", 12) rfl)
  have c_in_order : CInOrder P w K mg base := cl_in_order T (A.d 6 ("in_order", 13) rfl)
  have c_least_of : CLeastOf P w K mg base := cl_least_of T c_is_part c_in_order (A.d 7 ("least_of", 14) rfl)
  have c_led_by := cl_led_by (P := P) (w := w) (base := base) T (A.d 8 ("led_by", 15) rfl)
  have c_least_both : CLeastBoth P w K mg base := cl_least_both T c_tupled c_led_by c_least_of (A.d 9 ("least_both", 16) rfl)
  have c_is_log : CIsLog P w K mg base := cl_is_log T c_is_name (A.d 3 ("is_log", 10) rfl)
  have c_base_of : CBaseOf P w K mg base := cl_base_of c_tupled c_least_of (A.d 10 ("base_of", 19) rfl)
  have c_is_base : CIsBase P w K mg base := cl_is_base T c_is_log c_base_of (A.d 11 ("is_base", 20) rfl)
  have c_does : CDoes P w K mg base := cl_does T c_is_part (A.d 12 ("does", 21) rfl)
  have c_is_inside : CIsInside P w K mg base := cl_is_inside T c_does (A.d 17 ("is_inside", 26) rfl)
  have c_outside : COutside P w K mg base := cl_outside c_tupled c_does (A.d 18 ("outside", 27) rfl)
  have c_either : CEither P w K mg base := cl_either c_base_of (A.d 13 ("either", 22) rfl)
  have c_then : CThen P w K mg base := cl_then T c_tupled c_in_order (A.d 15 ("then", 24) rfl)
  have c_times : CTimes P w K mg base := cl_times T c_then (A.d 16 ("times", 25) rfl)
  have c_both : CBoth P w K mg base := cl_both T c_least_both c_base_of (A.d 14 ("both", 23) rfl)
  have c_tree_of : CTreeOf P w K mg base C := cl_tree_of T R c_checked_name (A.d 19 ("tree_of", 38) rfl)
  have c_seen : CSeen P w K mg base C := cl_seen T R c_checked_name (A.d 20 ("seen", 39) rfl)
  have c_nothing : CNothing P w K mg base C := cl_nothing T R (A.d 21 ("nothing", 40) rfl)
  have c_never : CNever P w K mg base C := cl_never T R (A.d 22 ("never", 41) rfl)
  have O : Ops P w K mg base C := ⟨R, A.o1, A.o2, A.o3, A.o4, mt_rshift T R c_tree_of (A.m 1 ("__rshift__", "Rule.__rshift__", 4) rfl), mt_rrshift T R c_tree_of (A.m 2 ("__rrshift__", "Rule.__rrshift__", 5) rfl), mt_or T R c_tree_of (A.m 3 ("__or__", "Rule.__or__", 6) rfl), mt_ror T R c_tree_of (A.m 4 ("__ror__", "Rule.__ror__", 7) rfl), mt_and T R c_tree_of (A.m 5 ("__and__", "Rule.__and__", 8) rfl), mt_rand T R c_tree_of (A.m 6 ("__rand__", "Rule.__rand__", 9) rfl), mt_mul T R (A.m 7 ("__mul__", "Rule.__mul__", 10) rfl), mt_rmul T R (A.m 8 ("__rmul__", "Rule.__rmul__", 11) rfl)⟩
  have c_tree_base : CTreeBase P w K mg base := cl_tree_base T c_times c_then c_both c_either (A.d 25 ("tree_base", 44) rfl) 30
  have c_base : CBase P w K mg base C := cl_base R c_tree_base (A.d 26 ("base", 45) rfl)
  have MH : MHas P w K mg base C := mt_has R c_tree_base c_tupled c_does (A.m 0 ("__contains__", "Rule.__contains__", 3) rfl)
  have c_word_rule : CWordRule P w K mg base C := cl_word_rule T O c_seen (A.d 27 ("word_rule", 46) rfl)
  have c_rule_of : CRuleOf P w K mg base C := cl_rule_of T O c_never c_word_rule (A.d 28 ("rule_of", 47) rfl)
  have c_alike : CAlike P w K mg base C := cl_alike c_base (A.d 29 ("alike", 48) rfl)
  have c_goes_with : CGoes P w K mg base C := cl_goes_with c_base c_is_inside (A.d 30 ("goes_with", 49) rfl)
  have c_parting : CParting P w K mg base C := cl_parting T c_base c_outside c_in_order (A.d 31 ("parting", 50) rfl)
  have c_tree_text : CTreeText P w K mg base := cl_tree_text A.g_B A.B T (A.d 23 ("part_text", 42) rfl) (A.d 24 ("tree_text", 43) rfl) 30
  have MT : PText P w K mg base C := pp_text R c_tree_text A.t
  have c_run_of : CRunOf P w K mg base := cl_run_of T (A.d 32 ("run_of", 58) rfl)
  have c_symbol_at : CSymbolAt P w K mg base := cl_symbol_at T c_run_of (A.d 33 ("symbol_at", 59) rfl)
  have c_symbols_of : CSymbolsOf P w K mg base := cl_symbols_of T c_symbol_at (A.d 34 ("symbols_of", 60) rfl)
  have c_lone_rule : CLone P w K mg base C := cl_lone_rule T c_is_name c_seen c_nothing c_never (A.d 35 ("lone_rule", 61) rfl)
  have c_joined : CJoined P w K mg base C := cl_joined T O (A.d 36 ("joined", 62) rfl)
  have c_put_together : CPut P w K mg base C := cl_put_together T c_joined (A.d 37 ("put_together", 63) rfl)
  have c_rule_in : CRuleIn P w K mg base C := cl_rule_in T O c_symbols_of c_lone_rule c_put_together (A.d 38 ("rule_in", 64) rfl)
  have c__law_same : CSame P w K mg base := cl_law_same T (A.d 44 ("_law_same", 71) rfl) 5
  have c__law_lies : CLies P w K mg base := cl_law_lies T (A.d 46 ("_law_lies", 73) rfl)
  have c__law_done : CDone P w K mg base := cl_law_done c__law_lies (A.d 48 ("_law_done", 75) rfl)
  have c__law_holds : Cl P w K mg base "_law_holds" ["_law_tree_here", "_law_row"] 21 (spHolds K 20) := cl_law_holds T (A.d 51 ("_law_holds", 78) rfl) 20
  have c__law_words_right : CWords P w K mg base C := cl_law_words_right T R MH MT c_is_base c_alike c_rule_of c_rule_in c_parting c_outside c_goes_with c_is_inside (A.d 52 ("_law_words_right", 79) rfl)
  have c__law_by_hand_right : CHand P w K mg base := cl_law_by_hand_right T O MH c_seen c_nothing c_base c_parting c_rule_of c__law_same c__law_words_right (A.d 53 ("_law_by_hand_right", 80) rfl)
  have c__law_take : CTake P w K mg base := cl_law_take T (A.d 40 ("_law_take", 67) rfl)
  have c__law_of : COf P w K mg base := cl_law_of T c__law_take (A.d 42 ("_law_of", 69) rfl)
  have c__law_pick : CPick P w K mg base := cl_law_pick T c__law_take (A.d 43 ("_law_pick", 70) rfl)
  have c__law_event_row : CRow P w K mg base := cl_law_event_row T c__law_take c__law_of (A.d 47 ("_law_event_row", 74) rfl)
  have c__law_names : CNames P w K mg base := cl_law_names T c__law_take c__law_of c__law_pick (A.d 45 ("_law_names", 72) rfl)
  have c__law_tree : Cl P w K mg base "_law_tree" ["_law_box_here", "_law_tags", "_law_deep"] 7 (spTree K 4) := cl_law_tree T c__law_take c__law_of (A.d 49 ("_law_tree", 76) rfl) 4
  have c__law_made : Cl P w K mg base "_law_made" ["_law_box_here", "_law_tree_here"] 35 (spMade K C 30) := cl_law_made T O c__law_take c_seen c_never c_nothing (A.d 50 ("_law_made", 77) rfl) 30
  have c__law_right : CRight P w K mg base := cl_law_right T O MH c__law_by_hand_right c__law_names c__law_tree c__law_made c_base c__law_words_right c__law_event_row c__law_holds c__law_same c__law_done c_does c_base_of (A.d 54 ("_law_right", 81) rfl)
  have c__law_box : CBox P w K mg base := cl_law_box T (A.d 39 ("_law_box", 66) rfl)
  have c__law_cells : CCells P w K mg base := cl_law_cells T (A.d 41 ("_law_cells", 68) rfl)
  exact ok_law T c__law_cells c__law_box c__law_right F
end K54
/-! LK: what the top has left, read off by a hook. -/
set_option Elab.async false
set_option linter.all false
set_option maxRecDepth 100000
set_option maxHeartbeats 1000000
namespace K54
open PySem PySem.W PySem.Calls PyProof.Rows L2 Evl
/-! ### what is looked at -/
def dfnF (p : Str × Nat) : He.DefD := ⟨(p.1, none), p.1, p.1, defArgs (sT p.2), defBody (sT p.2), defScope (sT p.2), [], []⟩
def dfnM (p : Str × Str × Nat) : He.DefD := ⟨("Rule", some p.1), p.1, p.2.1, defArgs (sM 37 p.2.2), defBody (sM 37 p.2.2), defScope (sM 37 p.2.2), [], []⟩
def initD : Str × Str × Nat := ("__init__", "Rule.__init__", 0)
def fnL : List He.DefD := dfnM initD :: (metsL.map dfnM ++ defsL.map dfnF)
def faN0 : List He.Fa := [.free "len", .free "all", .free "any", .free "tuple", .free "list", .free "set", .free "sorted", .free "range", .free "int", .free "abs", .free "max", .free "min", .free "enumerate", .free "zip", .free "str", .free "bool", .free "isinstance", .str "LETTERS" "abcdefghijklmnopqrstuvwxyz", .str "SEEN" "seen", .str "NOTHING_rules" "1", .str "NEVER_rules" "0", .str "THEN" ">>", .str "BOTH" "&", .str "EITHER" "|", .str "TIMES" "*", .str "NEVER_texts" "0", .str "NOTHING_texts" "1", .str "BLANK" " ", .str "DIGITS" "0123456789", .meth "Rule" "__contains__"]
def faN1 : List He.Fa := [.meth "Rule" "__rshift__", .meth "Rule" "__rrshift__", .meth "Rule" "__or__", .meth "Rule" "__ror__", .meth "Rule" "__and__", .meth "Rule" "__rand__", .meth "Rule" "__mul__", .meth "Rule" "__rmul__", .int "MOST" 8, .glo "Rule", .cls "Rule", .noat "Rule" "own_tree", .mkr "Rule", .glo "BOUND", .glo "ALWAYS", .glo "SIGNS"]
def faN : List He.Fa := faN0 ++ faN1
def faL : List He.Fa := faN ++ defsL.map fun p => .glo p.1
def tsL : List He.Tab := [(fun K => He.ga K "BOUND", ["seen", "1", "0", "*", ">>", "&", "|"])]
def bndL : List (Str × He.Dv) := [("seen", .int 4), ("1", .int 4), ("0", .int 4), ("*", .int 3), (">>", .int 2), ("&", .int 1), ("|", .int 0)]
/-- a tuple's items -/
def tupAt (K : PySem.W.Frag) (a : Addr) : Option (List Value) := match K.lookup a with
  | some ⟨.type c, none, .seq its _, _⟩ => (match decide (c = "tuple") with
    | true => some its.toList
    | false => none)
  | _ => none
theorem tupAt_of {K : PySem.W.Frag} {a : Addr} {us : List Value} (h : tupAt K a = some us) : ∃ (its : Array Value) (n : Nat) (sl : Array (Option Value)), K.lookup a = some ⟨.type "tuple", none, .seq its n, sl⟩ ∧ its.toList = us := by
  unfold tupAt at h
  split at h
  · rename_i c its n sl q
    split at h
    · rename_i e
      have e := of_decide_eq_true e
      subst e
      exact ⟨its, n, sl, q, Option.some.inj h⟩
    · cases h
  · cases h
theorem tupAt_sq {K : PySem.W.Frag} {a : Addr} {us : List Value} {vs : List V} (h : tupAt K a = some us) (r : Vals vs us) (hz : us.length ≤ 100000) (H : Hp) : SqT K H a vs := by
  obtain ⟨its, n, sl, q, e⟩ := tupAt_of h
  subst e
  exact .inr ⟨_, its, n, q, rfl, rfl, sz_of (by rw [← Array.length_toList]; exact hz), r⟩
def alwB (K : PySem.W.Frag) : Bool := match tupAt K (He.ga K "ALWAYS") with
  | some [.ref b] => (match tupAt K b with
    | some [] => true
    | _ => false)
  | _ => false
theorem alwB_of {K : PySem.W.Frag} (h : alwB K = true) : ∃ b, tupAt K (He.ga K "ALWAYS") = some [.ref b] ∧ tupAt K b = some [] := by
  unfold alwB at h
  split at h
  · rename_i b e
    split at h
    · rename_i e2
      exact ⟨b, e, e2⟩
    · cases h
  · cases h
def sgnB (K : PySem.W.Frag) : Bool := match tupAt K (He.ga K "SIGNS") with
  | some us => He.relAll ((["|", "&", ">>"] : List Str).map V.str) us
  | none => false
theorem sgnB_of {K : PySem.W.Frag} (h : sgnB K = true) : ∃ us, tupAt K (He.ga K "SIGNS") = some us ∧ Vals ((["|", "&", ">>"] : List Str).map V.str) us := by
  unfold sgnB at h
  split at h
  · rename_i us e
    exact ⟨us, e, He.relAll_ok h⟩
  · cases h
def opB (K : PySem.W.Frag) (nm : String) : Bool := ((findIn K (.type "str") (PySem.dunder nm)).isSome && (findIn K (.type "str") (dunderR nm)).isSome) && ((findIn K (.type "int") (PySem.dunder nm)).isSome && (findIn K (.type "int") (dunderR nm)).isSome)
theorem opB_of {K : PySem.W.Frag} {nm : String} (h : opB K nm = true) : OpF K nm := by
  obtain ⟨h1, h2⟩ := He.ba h
  obtain ⟨a, b⟩ := He.ba h1
  obtain ⟨c, d⟩ := He.ba h2
  exact ⟨Option.isSome_iff_exists.mp a, Option.isSome_iff_exists.mp b, Option.isSome_iff_exists.mp c, Option.isSome_iff_exists.mp d⟩
/-- the class Rule -/
def clsL (K : PySem.W.Frag) (C : Addr) : List Bool := [
  He.eqO (findIn K (.ref C) "__class__") (some (some (.builtin "object.__class__"))),
  He.eqO (specialIn K (.builtin "object.__class__") "__get__") (some (some (.builtin "getset_descriptor.__get__"))),
  decide (takesIn K (.builtin "object.__class__") = some true),
  decide (mroIn K C (.type "object") = some true),
  decide (kitOne K (.ref C) (.ref C) = some true),
  decide (kitOne K (.type "str") (.ref C) = some false),
  selfFirst K C,
  decide (subIn K (.type "str") (.ref C) = some false),
  decide (subIn K (.type "int") (.ref C) = some false),
  decide (subIn K (.ref C) (.type "int") = some false),
  opB K "rshift", opB K "or", opB K "and", opB K "mul"]
/-! the property text -/
def pA (K : PySem.W.Frag) : Addr := He.ma K (He.ga K "Rule") "text"
def gA (K : PySem.W.Frag) : Addr := match recIn K (pA K) "property" with
  | some (.ref g :: _) => g
  | _ => 0
def hasGet (K : PySem.W.Frag) : Bool := match recIn K (pA K) "property" with
  | some (.ref _ :: _) => true
  | _ => false
theorem hasGet_of {K : PySem.W.Frag} (h : hasGet K = true) : ∃ rest, recIn K (pA K) "property" = some (.ref (gA K) :: rest) := by
  unfold hasGet at h
  split at h
  · rename_i g r e
    refine ⟨r, ?_⟩
    have : gA K = g := by
      unfold gA
      rw [e]
    rw [this, e]
  · cases h
def fnX (K : PySem.W.Frag) (a : Addr) : He.FnW := match K.lookup a with
  | some ⟨_, _, .func fd, _⟩ => some (fd.name, fd.qualname, fd.params, fd.body, fd.scope, fd.globals, fd.closure, fd.builtins)
  | _ => none
def okX (K : PySem.W.Frag) (a : Addr) (q : Str) : Bool := keepIn K (.ref a) && (match K.lookup a with
  | some ⟨_, _, .func fd, _⟩ => codeIn K fd.code q && (He.dflB K fd.defaults [] && He.kwdB K fd.kwdefaults [])
  | _ => false)
def txtD : Str × Str × Nat := ("text", "Rule.text", 1)
theorem fnX_of {K : PySem.W.Frag} {a : Addr} {p : Str × Str × Nat} (e : fnX K a = (dfnM p).val) (c : okX K a p.2.1 = true) : ∃ fd, FunD K p.1 p.2.1 (defArgs (sM 37 p.2.2)) (defBody (sM 37 p.2.2)) (defScope (sM 37 p.2.2)) [] [] a fd := by
  obtain ⟨kp, c2⟩ := He.ba c
  unfold fnX at e
  split at e
  · rename_i oc od fd sl q
    rw [q] at c2
    obtain ⟨k1, k2⟩ := He.ba (show (codeIn K fd.code p.2.1 && (He.dflB K fd.defaults [] && He.kwdB K fd.kwdefaults [])) = true from c2)
    obtain ⟨k3, k4⟩ := He.ba k2
    obtain ⟨n1, n2, n3, n4, n5, n6, n7, n8, n9, n10, n11, n12, n13, n14, n15⟩ := fd
    have e2 : (some (n1, n2, n3, n4, n5, n6, n7, n15) : He.FnW) = some (p.1, p.2.1, defArgs (sM 37 p.2.2), .stmts (defBody (sM 37 p.2.2)), defScope (sM 37 p.2.2), mainGlobals, [], builtinsNs) := e
    simp only [Option.some.injEq, Prod.mk.injEq] at e2
    obtain ⟨h1, h2, h3, h4, h5, h6, h7, h8⟩ := e2
    subst h1 h2 h3 h4 h5 h6 h7 h8
    exact ⟨_, ⟨oc, od, n8, n9, n10, n11, n12, n13, n14, sl, rfl, q, k1, He.dflB_ok k3, He.kwdB_ok k4⟩, kp⟩
  · cases e
def prpL (K : PySem.W.Frag) : List Bool := [
  He.eqO (findIn K (.ref (He.ga K "Rule")) "text") (some (some (.ref (pA K)))),
  He.eqO (specialIn K (.ref (pA K)) "__get__") (some (some (.builtin "property.__get__"))),
  decide (takesIn K (.ref (pA K)) = some true),
  hasGet K,
  okX K (gA K) "Rule.text",
  alwB K, sgnB K,
  He.valsB K (He.ga K "BOUND") bndL]
def exB (K : PySem.W.Frag) : Bool := (clsL K (He.ga K "Rule") ++ prpL K).all fun b => b
theorem meth_mem {p : Str × Str × Nat} (h : p ∈ metsL) : He.Fa.meth "Rule" p.1 ∈ faL := by
  unfold metsL at h
  simp only [List.mem_cons, List.not_mem_nil, or_false] at h
  rcases h with rfl | rfl | rfl | rfl | rfl | rfl | rfl | rfl | rfl
  · exact List.mem_of_getElem? (i := 29) rfl
  · exact List.mem_of_getElem? (i := 30) rfl
  · exact List.mem_of_getElem? (i := 31) rfl
  · exact List.mem_of_getElem? (i := 32) rfl
  · exact List.mem_of_getElem? (i := 33) rfl
  · exact List.mem_of_getElem? (i := 34) rfl
  · exact List.mem_of_getElem? (i := 35) rfl
  · exact List.mem_of_getElem? (i := 36) rfl
  · exact List.mem_of_getElem? (i := 37) rfl
/-! ### the hook -/
abbrev AlP : Type := He.AlT × (Bool × He.FnW)
/-- the first m objects of a heap -/
def fragM (m : Nat) (g : Addr → Option Obj) : PySem.W.Frag := He.frG g (List.range m)
structure SaysP (fa : List He.Fa) (fn : List He.DefD) (ts : List He.Tab) (ex : PySem.W.Frag → Bool) (gx : PySem.W.Frag → He.FnW) (gv : He.FnW) (w : World) (K : PySem.W.Frag) : Prop where
  t : He.SaysT fa fn ts w K
  more : ex K = true
  get : gx K = gv
section
variable (m : Nat) (fa : List He.Fa) (fn : List He.DefD) (ts : List He.Tab) (ex : PySem.W.Frag → Bool) (gx : PySem.W.Frag → He.FnW) (gv : He.FnW)
def obsP (g : Addr → Option Obj) : AlP := (He.obsT fa fn ts (fragM m g), ex (fragM m g), gx (fragM m g))
def hookP : PySem.W.Hook where
  α := AlP
  obs := fun s => obsP m fa fn ts ex gx s.heap.get?
  val := fun w => (He.valT fn ts w, true, gv)
  says := fun w h => ∃ K : PySem.W.Frag, K.In h ∧ SaysP fa fn ts ex gx gv w K
  of := fun _ _ e => ⟨_, He.frG_in, congrArg (fun z : AlP => z.1) e, congrArg (fun z : AlP => z.2.1) e, congrArg (fun z : AlP => z.2.2) e⟩
  keeps := fun _ _ _ ⟨K, hK, c⟩ k => ⟨K, PySem.W.Frag.In.keeps hK k, c⟩
def obP (s : PySem.W.SharedT) : AlP := obsP m fa fn ts ex gx (HandSHeadRun.getT s)
theorem obP_eq (s : PySem.W.SharedT) : obP m fa fn ts ex gx s = (hookP m fa fn ts ex gx gv).obs s.abs := by
  have e : HandSHeadRun.getT s = s.abs.heap.get? := funext (HandSHeadRun.getT_eq s)
  show obsP m fa fn ts ex gx (HandSHeadRun.getT s) = obsP m fa fn ts ex gx s.abs.heap.get?
  rw [e]
end
abbrev gxT (K : PySem.W.Frag) : He.FnW := fnX K (gA K)
/-! ### what it says -/
theorem all_at {w : World} {h : Heap} {K : PySem.W.Frag} {mg : Str → Option Value} (X : K.In h) (G : h.Ns mainGlobals mg) (c : SaysP faL fnL tsL exB gxT (dfnM txtD).val w K) : AllAt w K mg (He.ga K "Rule") (He.ga K "BOUND") := by
  have cd : He.SaysD faL fnL K := c.t.d
  have ex := List.all_eq_true.mp c.more
  have at_ : ∀ (i : Nat) (b : Bool), (clsL K (He.ga K "Rule") ++ prpL K)[i]? = some b → b = true := fun i b hb => ex b (List.mem_of_getElem? hb)
  have hA : ∃ a, mg "ALWAYS" = some (.ref a) ∧ ∀ H, (LogsP K [[]]).r H (.ref a) := by
    obtain ⟨b, h1, h2⟩ := alwB_of (at_ 19 _ rfl)
    exact ⟨_, He.glo_ok X G (cd.fact 44 (f := .glo "ALWAYS") rfl), fun H => ⟨_, [.ref b], rfl, tupAt_sq (vs := [.ref b]) h1 (.cons rfl .nil) (by show 1 ≤ 100000; decide) H, ⟨b, [], rfl, tupAt_sq (vs := []) h2 .nil (by show 0 ≤ 100000; decide) H, trivial⟩, trivial⟩⟩
  have hS : ∃ a, mg "SIGNS" = some (.ref a) ∧ (∃ o, K.lookup a = some o ∧ o.cls = .type "tuple" ∧ o.dict = none) ∧ ∀ H, SqT K H a ((["|", "&", ">>"] : List Str).map V.str) := by
    obtain ⟨us, h1, h2⟩ := sgnB_of (at_ 20 _ rfl)
    obtain ⟨its, k, sl, q, e⟩ := tupAt_of h1
    exact ⟨_, He.glo_ok X G (cd.fact 45 (f := .glo "SIGNS") rfl), ⟨_, q, rfl, rfl⟩, tupAt_sq h1 h2 (by rw [← h2.length]; decide)⟩
  have T : Txt K mg := ⟨He.free_ok X G (cd.fact 0 (f := .free "len") rfl), He.free_ok X G (cd.fact 1 (f := .free "all") rfl), He.free_ok X G (cd.fact 2 (f := .free "any") rfl), He.free_ok X G (cd.fact 3 (f := .free "tuple") rfl), He.free_ok X G (cd.fact 4 (f := .free "list") rfl), He.free_ok X G (cd.fact 5 (f := .free "set") rfl), He.free_ok X G (cd.fact 6 (f := .free "sorted") rfl), He.free_ok X G (cd.fact 7 (f := .free "range") rfl), He.free_ok X G (cd.fact 8 (f := .free "int") rfl), He.free_ok X G (cd.fact 9 (f := .free "abs") rfl), He.free_ok X G (cd.fact 10 (f := .free "max") rfl), He.free_ok X G (cd.fact 11 (f := .free "min") rfl), He.free_ok X G (cd.fact 12 (f := .free "enumerate") rfl), He.free_ok X G (cd.fact 13 (f := .free "zip") rfl), He.free_ok X G (cd.fact 14 (f := .free "str") rfl), He.free_ok X G (cd.fact 15 (f := .free "bool") rfl), He.free_ok X G (cd.fact 16 (f := .free "isinstance") rfl),
    ⟨He.str_ok X G (cd.fact 17 (f := .str "LETTERS" "abcdefghijklmnopqrstuvwxyz") rfl)⟩, ⟨He.str_ok X G (cd.fact 18 (f := .str "SEEN" "seen") rfl)⟩, ⟨He.str_ok X G (cd.fact 19 (f := .str "NOTHING_rules" "1") rfl)⟩, ⟨He.str_ok X G (cd.fact 20 (f := .str "NEVER_rules" "0") rfl)⟩, ⟨He.str_ok X G (cd.fact 21 (f := .str "THEN" ">>") rfl)⟩, ⟨He.str_ok X G (cd.fact 22 (f := .str "BOTH" "&") rfl)⟩, ⟨He.str_ok X G (cd.fact 23 (f := .str "EITHER" "|") rfl)⟩, ⟨He.str_ok X G (cd.fact 24 (f := .str "TIMES" "*") rfl)⟩, ⟨He.str_ok X G (cd.fact 25 (f := .str "NEVER_texts" "0") rfl)⟩, ⟨He.str_ok X G (cd.fact 26 (f := .str "NOTHING_texts" "1") rfl)⟩, ⟨He.str_ok X G (cd.fact 27 (f := .str "BLANK" " ") rfl)⟩, ⟨He.str_ok X G (cd.fact 28 (f := .str "DIGITS" "0123456789") rfl)⟩,
    hA, hS, He.int_ok X G (cd.fact 38 (f := .int "MOST" 8) rfl)⟩
  have hC := He.glo_ok X G (cd.fact 39 (f := .glo "Rule") rfl)
  have hm : ∀ (i : Nat) (p : Str × Str × Nat), metsL[i]? = some p → MetAt K (He.ga K "Rule") p.1 p.2.1 (sM 37 p.2.2) := fun i p hp => by
    obtain ⟨fd, F⟩ := cd.defs (d := dfnM p) (List.mem_cons_of_mem _ (List.mem_append_left _ (List.mem_map.mpr ⟨p, List.mem_of_getElem? hp, rfl⟩)))
    have M := He.meth_ok (cd.facts (f := .meth "Rule" p.1) (meth_mem (List.mem_of_getElem? hp)))
    exact ⟨_, fd, M.1, M.2, F⟩
  have hd : ∀ (i : Nat) (p : Str × Nat), defsL[i]? = some p → DefAt K mg p.1 (sT p.2) := fun i p hp => by
    obtain ⟨fd, F⟩ := cd.defs (d := dfnF p) (List.mem_cons_of_mem _ (List.mem_append_right _ (List.mem_map.mpr ⟨p, List.mem_of_getElem? hp, rfl⟩)))
    exact ⟨_, fd, F, He.glo_ok X G (cd.facts (f := .glo p.1) (List.mem_append_right _ (List.mem_map.mpr ⟨p, List.mem_of_getElem? hp, rfl⟩)))⟩
  obtain ⟨fi, Fi⟩ := cd.defs (d := dfnM initD) (List.mem_cons_self ..)
  have R : RuleF K mg (He.ga K "Rule") := ⟨hC, He.cls_ok (cd.fact 40 (f := .cls "Rule") rfl), He.noat_ok (cd.fact 41 (f := .noat "Rule" "own_tree") rfl), ⟨_, fi, He.mkr_ok (cd.fact 42 (f := .mkr "Rule") rfl), Fi⟩,
    He.eqO_ok (at_ 0 _ rfl), He.eqO_ok (at_ 1 _ rfl), of_decide_eq_true (at_ 2 _ rfl), of_decide_eq_true (at_ 3 _ rfl), of_decide_eq_true (at_ 4 _ rfl), of_decide_eq_true (at_ 5 _ rfl), at_ 6 _ rfl, of_decide_eq_true (at_ 7 _ rfl), of_decide_eq_true (at_ 8 _ rfl), of_decide_eq_true (at_ 9 _ rfl)⟩
  obtain ⟨fx, Fx⟩ := fnX_of (p := txtD) c.get (at_ 18 _ rfl)
  obtain ⟨es, n, kd⟩ := c.t.tab 0 rfl
  have bv : ∀ {q : Str × He.Dv}, q ∈ bndL → KDct K w (He.ga K "BOUND") q.1 (q.2.v K) := fun hq => by
    obtain ⟨u, h1, h2⟩ := He.valsB_ok (at_ 21 _ rfl) hq
    exact ⟨es, n, u, kd.at_, kd.lit, h1, h2⟩
  exact ⟨T, R, opB_of (at_ 10 _ rfl), opB_of (at_ 11 _ rfl), opB_of (at_ 12 _ rfl), opB_of (at_ 13 _ rfl), He.glo_ok X G (cd.fact 43 (f := .glo "BOUND") rfl),
    ⟨bv (q := ("seen", .int 4)) (List.mem_of_getElem? (i := 0) rfl), bv (q := ("1", .int 4)) (List.mem_of_getElem? (i := 1) rfl), bv (q := ("0", .int 4)) (List.mem_of_getElem? (i := 2) rfl), bv (q := ("*", .int 3)) (List.mem_of_getElem? (i := 3) rfl), bv (q := (">>", .int 2)) (List.mem_of_getElem? (i := 4) rfl), bv (q := ("&", .int 1)) (List.mem_of_getElem? (i := 5) rfl), bv (q := ("|", .int 0)) (List.mem_of_getElem? (i := 6) rfl)⟩, hd, hm, ⟨_, _, fx, ⟨He.eqO_ok (at_ 14 _ rfl), He.eqO_ok (at_ 15 _ rfl), of_decide_eq_true (at_ 16 _ rfl), hasGet_of (at_ 17 _ rfl)⟩, Fx⟩⟩
theorem law_fact {P : Program} {w : World} {h : Heap} {K : PySem.W.Frag} {mg : Str → Option Value} {fa : Addr} (X : K.In h) (G : h.Ns mainGlobals mg) (hmg : mg "law" = some (.ref fa)) (c : SaysP faL fnL tsL exB gxT (dfnM txtD).val w K) :
    ∃ fd : FuncData, (∀ (s : Shared) (u : Value), BindsTo s fd ⟨[u], []⟩ [("_law_script", u)]) ∧ ∀ base : Heap, FnOk P w K mg base CX0 68 fa fd ["_law_script"] (spLaw K) := by
  have A := all_at X G c
  obtain ⟨f, fd, F, hf⟩ := (A.d 55 ("law", 82) rfl).ex
  cases hmg.symm.trans hf
  exact ⟨fd, fun s u => FunD.bindsA (ps := ["_law_script"]) F (fun _ _ _ _ _ _ us hl => match us, hl with | [_], _ => rfl) s [u] rfl, fun base => all_law A F⟩
end K54
/-! LM: the run of the top, the end. -/
set_option Elab.async false
set_option linter.all false
set_option maxRecDepth 100000
set_option maxHeartbeats 0
namespace K54
open PySem PySem.W PySem.Calls PyProof.Rows L2
abbrev rowK : OpenRow := OpenLaw.row PySem.Challenge.rw_moredone_k54_whole_each_rule_is_its_base
def looseK0 : List Str := ["RuleError", "NoName", "BadText", "LETTERS", "is_name", "checked_name", "tupled", "is_log", "begun", "is_part", "in_order", "least_of", "led_by", "least_both", "ALWAYS", "base_of", "is_base", "does", "either", "both", "then", "times", "is_inside", "outside", "SEEN", "NOTHING_rules", "NEVER_rules", "THEN", "BOTH", "EITHER"]
def looseK1 : List Str := ["TIMES", "BOUND", "Rule", "tree_of", "seen", "nothing", "never", "part_text", "tree_text", "tree_base", "base", "word_rule", "rule_of", "alike", "goes_with", "parting", "NEVER_texts", "NOTHING_texts", "BLANK", "DIGITS", "SIGNS", "MOST", "run_of", "symbol_at", "symbols_of", "lone_rule", "joined", "put_together", "rule_in", "_law_box"]
def looseK2 : List Str := ["_law_take", "_law_cells", "_law_of", "_law_pick", "_law_same", "_law_names", "_law_lies", "_law_event_row", "_law_done", "_law_tree", "_law_made", "_law_holds", "_law_words_right", "_law_by_hand_right", "_law_right"]
def looseK : List Str := looseK0 ++ looseK1 ++ looseK2
abbrev hookK : PySem.W.Hook := hookP 523 faL fnL tsL exB gxT (dfnM txtD).val
def obK (s : PySem.W.SharedT) : AlP := obP 523 faL fnL tsL exB gxT s
theorem obK_eq (s : PySem.W.SharedT) : obK s = hookK.obs s.abs := obP_eq 523 faL fnL tsL exB gxT (dfnM txtD).val s
def viewK : Program := PySem.W.view rowK.prog [82]
theorem run_f (w : World) : HandSHeadRun.RunEq rowK viewK hookK obK 3400 looseK (w.withFollow "special-get-raises" false) := by
  intro os
  kernel_rfl
theorem run_t (w : World) : HandSHeadRun.RunEq rowK viewK hookK obK 3400 looseK (w.withFollow "special-get-raises" true) := by
  intro os
  kernel_rfl
theorem run_top (w : World) : HandSHeadRun.RunEq rowK viewK hookK obK 3400 looseK w := PySem.W.byRow2 "special-get-raises" run_f run_t w
end K54
/-! LN: the end. -/
set_option Elab.async false
set_option linter.all false
set_option maxRecDepth 100000
set_option maxHeartbeats 0
open PySem PySem.W PySem.Calls PyProof.Rows
theorem PySem.Challenge.cw_moredone_k54_whole_each_rule_is_its_base_holds : PySem.Challenge.rw_moredone_k54_whole_each_rule_is_its_base.Holds := by
  w_on; o_law
  refine HandSHeadRun.head_any (r := K54.rowK) (q := K54.viewK) (H := K54.hookK) (ob := K54.obK) (M := 3400) (loose := K54.looseK) (d := HandSHeadRun.topDef K54.rowK.prog 82) (kwd := []) K54.obK_eq
    (by kernel_rfl) (fun s => by kernel_rfl) K54.run_top (by kernel_rfl) (by kernel_rfl) (by kernel_rfl) (by rfl) (by first | assumption | decide +kernel) (by decide +kernel) ⟨rfl, rfl, rfl, rfl, rfl, by decide +kernel⟩ ?hw ?hc
  case hw => w_witness2
  case hc =>
    refine L2.walk_ofE (l := PySem.Challenge.rw_moredone_k54_whole_each_rule_is_its_base) (n := 63) (k := 68) (x := "_law_script") (CX := L2.CX0) rfl (by decide) (by kernel_rfl) ⟨rfl, by decide, by decide⟩ ?F (fun _ _ _ _ z => z)
    intro w mg fa h Y G hmg0
    obtain ⟨K, KX, c⟩ := Y
    have hmg : mg ("law" : PySem.Str) = some (.ref fa) := by
      have e : (HandSHeadRun.topDef K54.rowK.prog 82).name = ("law" : PySem.Str) := by kernel_rfl
      rw [← e]
      exact hmg0
    obtain ⟨fd, hb, hF⟩ := K54.law_fact (P := PySem.Challenge.rw_moredone_k54_whole_each_rule_is_its_base.prog) KX G hmg c
    exact ⟨K, fd, K54.spLaw K, KX, hb, fun H a ns hl _ hS => ⟨a, ns, rfl, hS, hl, fun _ => rfl⟩, fun base _ _ => hF base⟩
